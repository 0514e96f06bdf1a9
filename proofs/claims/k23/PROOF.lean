import PyProof.Rows.All
import Wide.All
import OpenK.AllK
import Wide.FinOn
import HandS.ForMost
import HandS.Style
import HandS.Deep
import HandS.IsInst
import HandS.Property
import HandS.OwnEq
import HandS.Codes
import KE.SortData
import KE.GoesSet
import KE.KExcSuper
import HandS.Nested
import HandS.ClsMeth
import HandS.ExcInit
import HandS.WordsExc
import HandS.ExcField
import HandS.ExcIs
import HandS.TryMany
import KE.KExcIs
import HandS.Walk
import KE.GoesMore
import HandS.Set
import HandS.SetBool
import HandS.TupSets
import KE.OsSortAny
import HandS.Dict
import HandS.DictEq
import HandS.DictComp
import HandS.ListItems
import HandS.WordsDict
import KE.KDictCopyH
import HandS.Iter
import KE.KDictDisplayH
import HandS.Steps
import HandS.Conv
import HandS.Flow
import PySem.Challenge.RW_watchedworks_k23_sights_of_words
set_option Elab.async false
set_option linter.all false
set_option maxRecDepth 100000
set_option maxHeartbeats 4000000
/-! generic words for the laws of this program, over the hand layer -/
namespace WW
open PySem PySem.Spec PyProof.Rows L2

/-! ### a def of the text -/
structure Df (K : PySem.W.Frag) (mg : Str → Option Value) (x : Str) (st : Stmt) (ps : List Str) (f : Addr) (fd : FuncData) : Prop where
  fn : Fun K x x st f fd
  gl : mg x = some (.ref f)
  bi : Binds K fd ps []

section
variable {X : Cx} {k : Nat} {x : Str} {st : Stmt} {ps : List Str} {f : Addr} {fd : FuncData} {sp : Sp} {e : Expr} {es : List Expr} {p pos : Pos} {t : TA}
theorem pe_df (D : Df X.K X.mg x st ps f fd) (F : FnOk X.prog X.w X.K X.mg X.base CX0 k f fd ps sp) (hr : Room k X.A) (ha : PA X (e :: es) t) (hg : Gl X x := by rfl)
    (hdb : (x == ("__debug__" : Str)) = false := by decide) (he : starEach (e :: es) X.env = (false, eval e X.env) :: starEach es X.env := by rfl) (hpl : (backTo pos (starEach es X.env)).any (·.1) = false := by rfl) :
    PE X (.Call (.Name x p) (e :: es) [] pos) (tCall sp [] E0 t) :=
  pe_call F hr hg D.gl D.fn.kp D.bi .nil pass0 ha hdb he hpl
end
theorem hu65 {A : Around} {k : Nat} (hr : Room k A) : A.units + 65 < cLine := by
  have := hr.un
  omega

/-! ### heaps: a stable part S of the heap H, and what may change -/
theorem Same.seqT {K : PySem.W.Frag} {H H' : Hp} {a : Addr} {xs : List V} (e : Same H H') (h : SqT K H a xs) : SqT K H' a xs := by
  rcases h with (h | ⟨o, h⟩) | h
  · exact .inl (.inl (e _ _ h))
  · exact .inl (.inr ⟨o, e _ _ h⟩)
  · exact .inr h
mutual
theorem dp_mono {K : PySem.W.Frag} {S H : Hp} (e : Same S H) : ∀ (d : PyData) {v : V}, Dp K S v d → Dp K H v d
  | .none, _, h => by cases h; exact .non
  | .bool b, _, h => by cases h; exact .bl b
  | .int i, _, h => by cases h; exact .int i
  | .str x, _, h => by cases h; exact .str x
  | .list ds, _, h => by
    cases h with
    | lst a b => exact .lst (e.seq a) (dpAll_mono e ds b)
  | .tuple ds, _, h => by
    cases h with
    | tup a b => exact .tup (Same.seqT e a) (dpAll_mono e ds b)
  | .dict _, _, h => by cases h
theorem dpAll_mono {K : PySem.W.Frag} {S H : Hp} (e : Same S H) : ∀ (ds : List PyData) {vs : List V}, DpAll K S vs ds → DpAll K H vs ds
  | [], _, h => by cases h; exact .nil
  | d :: ds, _, h => by
    cases h with
    | cons a b => exact .cons (dp_mono e d a) (dpAll_mono e ds b)
end
theorem Dp.mono {K : PySem.W.Frag} {S H : Hp} {d : PyData} {v : V} (e : Same S H) (h : Dp K S v d) : Dp K H v d := dp_mono e d h
theorem DpAll.mono {K : PySem.W.Frag} {S H : Hp} {ds : List PyData} {vs : List V} (e : Same S H) (h : DpAll K S vs ds) : DpAll K H vs ds := dpAll_mono e ds h
theorem same_upd {H : Hp} {p : Addr} {o : HO} (h : H p = none) : Same H (upd H p o) := fun b x e => by
  rw [upd_ne (ne_of_none e h)]
  exact e

/-- from (S, H) to (S', H'): the stable part grows by new objects alone, all but p stand as they stood -/
structure Gr (p : Addr) (S H S' H' : Hp) : Prop where
  st : Same S S'
  rs : ∀ a o, a ≠ p → H a = some o → H' a = some o
  fr : ∀ a, S a = none → H a ≠ none → S' a = none
  ex : ∀ a, H a ≠ none → H' a ≠ none
theorem Gr.refl {p : Addr} {S H : Hp} : Gr p S H S H := ⟨Same.refl _, fun _ _ _ h => h, fun _ h _ => h, fun _ h => h⟩
theorem Gr.trans {p : Addr} {S H S1 H1 S2 H2 : Hp} (a : Gr p S H S1 H1) (b : Gr p S1 H1 S2 H2) : Gr p S H S2 H2 :=
  ⟨a.st.trans b.st, fun c o n h => b.rs c o n (a.rs c o n h), fun c h1 h2 => b.fr c (a.fr c h1 h2) (a.ex c h2), fun c h => b.ex c (a.ex c h)⟩
theorem Gr.bk {p : Addr} {S H S' H' : Hp} (g : Gr p S H S' H') {a : Addr} (h : H' a = none) : H a = none := by
  cases q : H a with
  | none => rfl
  | some o => exact absurd h (g.ex a (by rw [q]; intro z; cases z))
theorem Gr.loc {p : Addr} {S H S' H' : Hp} (g : Gr p S H S' H') {a : Addr} {o : HO} (n : a ≠ p) (hs : S a = none) (h : H a = some o) : S' a = none ∧ H' a = some o :=
  ⟨g.fr a hs (by rw [h]; intro z; cases z), g.rs a o n h⟩
/-- a new object, stable -/
theorem Gr.new {p : Addr} {S H S' H' : Hp} (g : Gr p S H S' H') (w : Same S' H') {a : Addr} {o : HO} (n : H' a = none) : Gr p S H (upd S' a o) (upd H' a o) := by
  have hs : S' a = none := w.free n
  refine ⟨g.st.trans (same_upd hs), fun b u nb h => ?_, fun b h1 h2 => ?_, fun b h => ?_⟩
  · have nba : b ≠ a := fun q => by
      rw [q] at h
      rw [g.bk n] at h
      cases h
    rw [upd_ne nba]
    exact g.rs b u nb h
  · have nba : b ≠ a := fun q => by
      rw [q] at h2
      exact h2 (g.bk n)
    rw [upd_ne nba]
    exact g.fr b h1 h2
  · by_cases q : b = a
    · rw [q, upd_same]
      intro z
      cases z
    · rw [upd_ne q]
      exact g.ex b h
theorem same_new {S H : Hp} (w : Same S H) {a : Addr} {o : HO} : Same (upd S a o) (upd H a o) := fun b u h => by
  by_cases q : b = a
  · rw [q, upd_same] at h
    rw [q, upd_same]
    exact h
  · rw [upd_ne q] at h
    rw [upd_ne q]
    exact w b u h
/-- a new object, or one that was new and is not stable yet, is written -/
theorem Gr.put {p : Addr} {S H S' H' : Hp} (g : Gr p S H S' H') {a : Addr} {o : HO} (n : H a = none) : Gr p S H S' (upd H' a o) := by
  refine ⟨g.st, fun b u nb h => ?_, g.fr, fun b h => ?_⟩
  · have nba : b ≠ a := fun q => by
      rw [q, n] at h
      cases h
    rw [upd_ne nba]
    exact g.rs b u nb h
  · by_cases q : b = a
    · rw [q, upd_same]
      intro z
      cases z
    · rw [upd_ne q]
      exact g.ex b h
/-- .. p itself is written -/
theorem Gr.putP {p : Addr} {S H S' H' : Hp} (g : Gr p S H S' H') {o : HO} : Gr p S H S' (upd H' p o) := by
  refine ⟨g.st, fun b u nb h => ?_, g.fr, fun b h => ?_⟩
  · rw [upd_ne nb]
    exact g.rs b u nb h
  · by_cases q : b = p
    · rw [q, upd_same]
      intro z
      cases z
    · rw [upd_ne q]
      exact g.ex b h
theorem same_put {S H : Hp} (w : Same S H) {a : Addr} {o : HO} (n : S a = none) : Same S (upd H a o) := fun b u h => by
  rw [upd_ne (ne_of_none h n)]
  exact w b u h
/-- what was new and stands there becomes stable -/
theorem Gr.fix {p : Addr} {S H S' H' : Hp} (g : Gr p S H S' H') {a : Addr} {o : HO} (n : H a = none) (h : S' a = none) : Gr p S H (upd S' a o) H' := by
  refine ⟨g.st.trans (same_upd h), g.rs, fun b h1 h2 => ?_, g.ex⟩
  have nba : b ≠ a := fun q => by
    rw [q] at h2
    exact h2 n
  rw [upd_ne nba]
  exact g.fr b h1 h2
theorem same_fix {S H : Hp} (w : Same S H) {a : Addr} {o : HO} (h : H a = some o) : Same (upd S a o) H := fun b u e => by
  by_cases q : b = a
  · rw [q, upd_same] at e
    rw [q, h]
    exact e
  · rw [upd_ne q] at e
    exact w b u e

/-! ### slices by numbers -/
theorem cut_from (xs : List V) (i : Nat) : cutV xs (some (i : Int)) none = xs.drop i := by
  unfold cutV
  rw [HT.sIx_nat, HT.sIx_none]
  by_cases h : i ≤ xs.length
  · rw [Nat.min_eq_left h]
    exact List.take_of_length_le (by rw [List.length_drop]; exact Nat.le_refl _)
  · rw [Nat.min_eq_right (by omega), List.drop_of_length_le (Nat.le_refl _), List.drop_of_length_le (by omega)]
    simp
theorem cut_to (xs : List V) (i : Nat) : cutV xs none (some (i : Int)) = xs.take i := by
  unfold cutV
  rw [HT.sIx_nat, HT.sIx_none]
  show (xs.drop 0).take (min i xs.length - 0) = xs.take i
  rw [List.drop_zero, Nat.sub_zero]
  by_cases h : i ≤ xs.length
  · rw [Nat.min_eq_left h]
  · rw [Nat.min_eq_right (by omega), List.take_of_length_le (Nat.le_refl _), List.take_of_length_le (by omega)]
theorem cutS_to (z : Str) (i : Nat) : cutS z none (some (i : Int)) = ⟨(z.cps.toList.take i).toArray⟩ := by
  unfold cutS
  rw [HT.sIx_nat, HT.sIx_none]
  show (⟨((z.cps.toList.drop 0).take (min i z.length - 0)).toArray⟩ : Str) = _
  rw [List.drop_zero, Nat.sub_zero]
  have hl : z.length = z.cps.toList.length := by simp [Str.length]
  by_cases h : i ≤ z.length
  · rw [Nat.min_eq_left h]
  · rw [Nat.min_eq_right (by omega), List.take_of_length_le (by omega), List.take_of_length_le (by omega)]
theorem ixN_at {n : Nat} {k : Int} (j : Nat) (e : k = (j : Int)) (h : j < n) : ixN n k = some j := by
  subst e
  unfold ixN
  rw [if_pos (by omega), if_pos (by omega)]
  simp

/-! ### comprehensions whose element and test change nothing that stood -/
theorem fm_take {α β : Type} (f : α → Option β) : ∀ (xs : List α) (i : Nat) (x : α), xs[i]? = some x → (xs.take (i + 1)).filterMap f = (xs.take i).filterMap f ++ (match f x with | some y => [y] | none => [])
  | [], _, _, h => by simp at h
  | a :: r, 0, x, h => by
    have e : a = x := Option.some.inj h
    subst e
    simp only [List.take_succ_cons, List.take_zero, List.filterMap_cons, List.filterMap_nil]
    cases f a <;> rfl
  | a :: r, i + 1, x, h => by
    have ih := fm_take f r i x h
    simp only [List.take_succ_cons, List.filterMap_cons]
    cases f a with
    | none => exact ih
    | some y =>
      show y :: (r.take (i + 1)).filterMap f = _
      rw [ih]
      rfl
theorem lc_step {j : Nat} {tt : TT} {te : TE} {vs : List Nat} {σ : L2.St} {H1 : Hp} {D : Addr} (f : V → Option V) (xs : List V) (hlen : xs.length ≤ 1000)
    (hw : ∀ x, wipe ((wipe σ vs).set j (some x)) vs = wipe σ vs)
    (step : ∀ x H, x ∈ xs → Same H1 H → ∀ Q : Option V → Hp → Prop, (∀ H', Same H H' → Q (f x) H') → tt ((wipe σ vs).set j (some x)) H fun b H3 => if b = true then te ((wipe σ vs).set j (some x)) H3 (fun y H4 => Q (some y) H4) else Q none H3)
    (hD : H1 D = none) (i : Nat) (x : V) (H : Hp) (hi : xs[i]? = some x) (hp : Same H1 H ∧ H D = some (.lst ((xs.take i).filterMap f))) :
    gName j x (wipe σ vs) H fun σ2 H2 => wipe σ2 vs = wipe σ vs ∧ tt σ2 H2 fun b H3 =>
      if b = true then te σ2 H3 fun y H4 => ∃ acc, H4 D = some (.lst acc) ∧ acc.length < sizeLine ∧ (Same H1 (upd H4 D (.lst (acc ++ [y]))) ∧ upd H4 D (.lst (acc ++ [y])) D = some (.lst ((xs.take (i + 1)).filterMap f))) else (Same H1 H3 ∧ H3 D = some (.lst ((xs.take (i + 1)).filterMap f))) := by
  have hx : x ∈ xs := List.mem_of_getElem? hi
  refine ⟨hw x, ?_⟩
  refine step x H hx hp.1 (fun o H4 => match o with
    | some y => ∃ acc, H4 D = some (.lst acc) ∧ acc.length < sizeLine ∧ (Same H1 (upd H4 D (.lst (acc ++ [y]))) ∧ upd H4 D (.lst (acc ++ [y])) D = some (.lst ((xs.take (i + 1)).filterMap f)))
    | none => (Same H1 H4 ∧ H4 D = some (.lst ((xs.take (i + 1)).filterMap f)))) fun H' s => ?_
  have hd := s _ _ hp.2
  have e := fm_take f xs i x hi
  cases q : f x with
  | none =>
    rw [q] at e
    exact ⟨hp.1.trans s, by rw [hd, e, List.append_nil]⟩
  | some y =>
    rw [q] at e
    refine ⟨_, hd, ?_, fun b o h => ?_, by rw [upd_same, e]⟩
    · have h1 : ((xs.take i).filterMap f).length ≤ (xs.take i).length := List.length_filterMap_le _ _
      have h2 : (xs.take i).length ≤ xs.length := by rw [List.length_take]; omega
      exact small1000 (by omega)
    · rw [upd_ne (ne_of_none h hD)]
      exact s _ _ (hp.1 _ _ h)
theorem lc_pure {K : PySem.W.Frag} {a : Addr} {xs : List V} {j : Nat} {tt : TT} {te : TE} {vs : List Nat} {σ : L2.St} {H1 : Hp} {D : Addr} {Qd : Hp → Prop} (f : V → Option V) (hx : SqL K H1 a xs) (hlen : xs.length ≤ 1000)
    (hw : ∀ x, wipe ((wipe σ vs).set j (some x)) vs = wipe σ vs)
    (step : ∀ x H, x ∈ xs → Same H1 H → ∀ Q : Option V → Hp → Prop, (∀ H', Same H H' → Q (f x) H') → tt ((wipe σ vs).set j (some x)) H fun b H3 => if b = true then te ((wipe σ vs).set j (some x)) H3 (fun y H4 => Q (some y) H4) else Q none H3)
    (hD : H1 D = none) (hd : ∀ H, Same H1 H → H D = some (.lst (xs.filterMap f)) → Qd H) :
    ∃ W : Nat → Nat → Hp → Prop, (∃ m, W 0 m (upd H1 D (.lst []))) ∧ ∀ i m H, W i m H →
      ((Itl K a).stop i H ∧ Qd H) ∨ ((Itl K a).go i H ∧ ∃ Nx : Hp → Prop, (∀ H', Nx H' → ∃ m', m' < m ∧ W (i + 1) m' H') ∧ ∀ x H', (Itl K a).yld i H x H' → gName j x (wipe σ vs) H' fun σ2 H2 => wipe σ2 vs = wipe σ vs ∧ tt σ2 H2 fun b H3 =>
        if b = true then te σ2 H3 fun y H4 => ∃ acc, H4 D = some (.lst acc) ∧ acc.length < sizeLine ∧ Nx (upd H4 D (.lst (acc ++ [y]))) else Nx H3) :=
  lc_list (K := K) (a := a) (xs := xs) (fun i H => Same H1 H ∧ H D = some (.lst ((xs.take i).filterMap f))) ⟨same_upd hD, upd_same⟩ (fun i H _ h => h.1.seq hx) (fun i x H hi hp => lc_step f xs hlen hw step hD i x H hi hp)
    (fun H h => hd H h.1 (by have := h.2; rw [List.take_length] at this; exact this))
theorem lc_pureT {K : PySem.W.Frag} {a : Addr} {xs : List V} {j : Nat} {tt : TT} {te : TE} {vs : List Nat} {σ : L2.St} {H1 : Hp} {D : Addr} {Qd : Hp → Prop} (f : V → Option V) (hx : SqT K H1 a xs) (hlen : xs.length ≤ 1000)
    (hw : ∀ x, wipe ((wipe σ vs).set j (some x)) vs = wipe σ vs)
    (step : ∀ x H, x ∈ xs → Same H1 H → ∀ Q : Option V → Hp → Prop, (∀ H', Same H H' → Q (f x) H') → tt ((wipe σ vs).set j (some x)) H fun b H3 => if b = true then te ((wipe σ vs).set j (some x)) H3 (fun y H4 => Q (some y) H4) else Q none H3)
    (hD : H1 D = none) (hd : ∀ H, Same H1 H → H D = some (.lst (xs.filterMap f)) → Qd H) :
    ∃ W : Nat → Nat → Hp → Prop, (∃ m, W 0 m (upd H1 D (.lst []))) ∧ ∀ i m H, W i m H →
      ((Itt K a).stop i H ∧ Qd H) ∨ ((Itt K a).go i H ∧ ∃ Nx : Hp → Prop, (∀ H', Nx H' → ∃ m', m' < m ∧ W (i + 1) m' H') ∧ ∀ x H', (Itt K a).yld i H x H' → gName j x (wipe σ vs) H' fun σ2 H2 => wipe σ2 vs = wipe σ vs ∧ tt σ2 H2 fun b H3 =>
        if b = true then te σ2 H3 fun y H4 => ∃ acc, H4 D = some (.lst acc) ∧ acc.length < sizeLine ∧ Nx (upd H4 D (.lst (acc ++ [y]))) else Nx H3) :=
  lc_tup (K := K) (a := a) (xs := xs) (fun i H => Same H1 H ∧ H D = some (.lst ((xs.take i).filterMap f))) ⟨same_upd hD, upd_same⟩ (fun i H _ h => Same.seqT h.1 hx) (fun i x H hi hp => lc_step f xs hlen hw step hD i x H hi hp)
    (fun H h => hd H h.1 (by have := h.2; rw [List.take_length] at this; exact this))
/-- .. over a text -/
def signs (z : Str) : List V := z.cps.toList.map fun c => V.str ⟨#[c]⟩
theorem lc_pureS {x : Str} {j : Nat} {tt : TT} {te : TE} {vs : List Nat} {σ : L2.St} {H1 : Hp} {D : Addr} {Qd : Hp → Prop} (f : V → Option V) (hlen : x.length ≤ 1000)
    (hw : ∀ x, wipe ((wipe σ vs).set j (some x)) vs = wipe σ vs)
    (step : ∀ y H, y ∈ signs x → Same H1 H → ∀ Q : Option V → Hp → Prop, (∀ H', Same H H' → Q (f y) H') → tt ((wipe σ vs).set j (some y)) H fun b H3 => if b = true then te ((wipe σ vs).set j (some y)) H3 (fun y H4 => Q (some y) H4) else Q none H3)
    (hD : H1 D = none) (hd : ∀ H, Same H1 H → H D = some (.lst ((signs x).filterMap f)) → Qd H) :
    ∃ W : Nat → Nat → Hp → Prop, (∃ m, W 0 m (upd H1 D (.lst []))) ∧ ∀ i m H, W i m H →
      ((Its x).stop i H ∧ Qd H) ∨ ((Its x).go i H ∧ ∃ Nx : Hp → Prop, (∀ H', Nx H' → ∃ m', m' < m ∧ W (i + 1) m' H') ∧ ∀ y H', (Its x).yld i H y H' → gName j y (wipe σ vs) H' fun σ2 H2 => wipe σ2 vs = wipe σ vs ∧ tt σ2 H2 fun b H3 =>
        if b = true then te σ2 H3 fun y H4 => ∃ acc, H4 D = some (.lst acc) ∧ acc.length < sizeLine ∧ Nx (upd H4 D (.lst (acc ++ [y]))) else Nx H3) := by
  have hsz : x.cps.size = (signs x).length := by simp [signs]
  have hl2 : (signs x).length ≤ 1000 := by rw [← hsz]; exact hlen
  refine ⟨fun i m H => m = x.cps.size - i ∧ i ≤ x.cps.size ∧ Same H1 H ∧ H D = some (.lst (((signs x).take i).filterMap f)), ⟨_, rfl, Nat.zero_le _, same_upd hD, upd_same⟩, ?_⟩
  rintro i m H ⟨rfl, hi, hs, he⟩
  by_cases h : i < x.cps.size
  · refine .inr ⟨h, fun H => Same H1 H ∧ H D = some (.lst (((signs x).take (i + 1)).filterMap f)), fun H' h' => ⟨_, by omega, rfl, by omega, h'⟩, ?_⟩
    rintro y H' ⟨rfl, c, hc, rfl⟩
    refine lc_step f (signs x) hl2 hw step hD i _ H' ?_ ⟨hs, he⟩
    unfold signs
    rw [List.getElem?_map, Array.getElem?_toList, hc]
    rfl
  · refine .inl ⟨by show x.cps.size ≤ i; omega, hd H hs ?_⟩
    rw [he, List.take_of_length_le (by omega)]
theorem at_ofG {α : Type} {xs : List α} {z : Int} {j : Nat} {v : α} (e : z = (j : Int)) (h : xs[j]? = some v) : atI xs z = some v := by
  rw [e]
  exact atI_nat h
theorem Gr.same {p : Addr} {S H S' H' H2 : Hp} (g : Gr p S H S' H') (s : Same H' H2) : Gr p S H S' H2 :=
  ⟨g.st, fun a o n h => s _ _ (g.rs a o n h), g.fr, fun a h => by
    have := g.ex a h
    cases q : H' a with
    | none => exact absurd q this
    | some o =>
      rw [s _ _ q]
      intro z
      cases z⟩
end WW

set_option Elab.async false
set_option linter.all false
set_option maxRecDepth 100000
set_option maxHeartbeats 4000000
namespace WW
open PySem PySem.Spec PyProof.Rows L2
def topS (i : Nat) : Stmt := PySem.Challenge.pw_watchedworks_k23_sights_of_words.main.body.getD i (.Pass ⟨0, 0, 0, 0⟩)
structure Bl (mg : Str → Option Value) : Prop where
  abs : mg "abs" = none
  int : mg "int" = none
  len : mg "len" = none
  max : mg "max" = none
  range : mg "range" = none
  tuple : mg "tuple" = none
  list : mg "list" = none
  str : mg "str" = none
  bool : mg "bool" = none
  isinstance : mg "isinstance" = none
  all : mg "all" = none
  sorted : mg "sorted" = none
  enumerate : mg "enumerate" = none

/-! ### the pool of a law's draws -/
structure Pool (S H : Hp) (p : Addr) : Prop where
  ss : Same S H
  np : S p = none
  at_ : ∃ (g s : Addr) (cur cnt : Int) (gs ns : List Int), H p = some (.lst [.ref g, .ref s, .int cur, .int cnt]) ∧ S g = some (.lst (gs.map V.int)) ∧ S s = some (.lst (ns.map V.int)) ∧ gs.length ≤ 63 ∧ ns.length ≤ 63
theorem Pool.has {S H : Hp} {p : Addr} (P : Pool S H p) : H p ≠ none := by
  obtain ⟨_, _, _, _, _, _, _, _, h, _⟩ := P
  rw [h]
  intro z
  cases z
/-- a new stable object -/
theorem Pool.new {S H : Hp} {p a : Addr} {o : HO} (P : Pool S H p) (n : H a = none) : Pool (upd S a o) (upd H a o) p := by
  have npa : p ≠ a := fun q => P.has (by rw [q]; exact n)
  have ns : S a = none := P.ss.free n
  obtain ⟨ss, np, g, sm, cur, cnt, gs, ns', hp, hg, hs, lg, ls⟩ := P
  exact ⟨same_new ss, by rw [upd_ne npa]; exact np, g, sm, cur, cnt, gs, ns', by rw [upd_ne npa]; exact hp, by rw [upd_ne (ne_of_none hg ns)]; exact hg, by rw [upd_ne (ne_of_none hs ns)]; exact hs, lg, ls⟩
/-- an object that is not stable is written -/
theorem Pool.put {S H : Hp} {p a : Addr} {o : HO} (P : Pool S H p) (n : S a = none) (npa : a ≠ p) : Pool S (upd H a o) p := by
  obtain ⟨ss, np, g, sm, cur, cnt, gs, ns', hp, hg, hs, lg, ls⟩ := P
  exact ⟨same_put ss n, np, g, sm, cur, cnt, gs, ns', by rw [upd_ne npa.symm]; exact hp, hg, hs, lg, ls⟩
theorem Pool.fix {S H : Hp} {p a : Addr} {o : HO} (P : Pool S H p) (h : H a = some o) (n : S a = none) (npa : a ≠ p) : Pool (upd S a o) H p := by
  obtain ⟨ss, np, g, sm, cur, cnt, gs, ns', hp, hg, hs, lg, ls⟩ := P
  exact ⟨same_fix ss h, by rw [upd_ne npa.symm]; exact np, g, sm, cur, cnt, gs, ns', hp, by rw [upd_ne (ne_of_none hg n)]; exact hg, by rw [upd_ne (ne_of_none hs n)]; exact hs, lg, ls⟩
theorem Pool.same {S H H2 : Hp} {p : Addr} (P : Pool S H p) (s : Same H H2) : Pool S H2 p := by
  obtain ⟨ss, np, g, sm, cur, cnt, gs, ns', hp, hg, hs, lg, ls⟩ := P
  exact ⟨ss.trans s, np, g, sm, cur, cnt, gs, ns', s _ _ hp, hg, hs, lg, ls⟩
section
variable {P : Program} {w : World} {K : PySem.W.Frag} {mg : Str → Option Value} {base : Heap} {f : Addr} {fd : FuncData}
abbrev sLdraw : Stmt := topS 36
abbrev nLdraw : List Str := ["_law_pool_here", "_law_many", "_law_great", "_law_digit", "_law_seed", "_law_number"]
theorem scLdraw : FnScope nLdraw ["_law_pool_here", "_law_many"] (defScope sLdraw) := ⟨rfl, rfl, rfl, by decide +kernel, rfl, by decide +kernel, by decide +kernel⟩
def spDraw : Sp := fun vs H Q _ => ∃ (p : Addr) (S : Hp) (n : Int), vs = [.ref p, .int n] ∧ 0 < n ∧ n < 1000000 ∧ Pool S H p ∧
  ∀ (d : Int) (S' H' : Hp), Pool S' H' p → Gr p S H S' H' → 0 ≤ d → d < n → Q (.int d) H'
theorem ok_draw (D : Df K mg "_law_draw" sLdraw ["_law_pool_here", "_law_many"] f fd) (T : Bl mg) : FnOk P w K mg base CX0 1 f fd ["_law_pool_here", "_law_many"] spDraw := by
  refine D.fn.ok scLdraw (fun vs H Q E h => ?_) (fun cdv A outer s H vs Q E hr h => ?_)
  · obtain ⟨p, S, n, rfl, _⟩ := h
    rfl
  · obtain ⟨p, S, n, rfl, n0, n1, ⟨ss, np, g, sm, cur, cnt, gs, ns, hp, hg, hs, lg, ls⟩, q⟩ := h
    refine ⟨_, (C8.pss_cut (ps_if (PW.pt (pw_and (pt_cmpR op_eq (pe_ix ix_list (pv 0) pe_int (fun _ _ => rfl)) pe_int (nomark _)) (pw_and1 (pt_cmpR op_gt (pe_callB call_len (by rfl) T.len (by decide +kernel) (pa_cons (pe_ix ix_list (pv 0) pe_int (fun _ _ => rfl)) pa_nil)) pe_int (nomark _))))) (pss_cons (ps_set (i := 2) scLdraw.nd rfl (Or.inl rfl) (pe_ix ix_list (pv 0) pe_int (fun _ _ => rfl)))
      (pss_one (ps_asg (pe_tup (pa_cons (pe_ix ix_list (pv 2) pe_int (fun _ _ => rfl)) (pa_cons (pe_slice sl_list (pv 2) (po_some pe_int) po_none) pa_nil))) (pg_tup rfl (pgs_cons (pg_sub (pv 0) pe_int set_list) (pgs_cons (pg_sub (pv 0) pe_int set_list) pgs_nil)))))) pss_nil)
      (pss_cons (ps_if (pt_cmpR op_gt (pe_ix ix_list (pv 0) pe_int (fun _ _ => rfl)) pe_int (nomark _)) (pss_cons (ps_asg (pe_tup (pa_cons (pe_op op_mod (pe_callTy call_int1 (by rfl) T.int (by decide +kernel) (pa_cons (pe_ix ix_list (pv 0) pe_int (fun _ _ => rfl)) pa_nil)) (pv 1)) (pa_cons (pe_op op_fdiv (pe_ix ix_list (pv 0) pe_int (fun _ _ => rfl)) (pv 1)) pa_nil))) (pg_tup rfl (pgs_cons (pg_name (i := 3) scLdraw.nd rfl (Or.inl rfl)) (pgs_cons (pg_sub (pv 0) pe_int set_list) pgs_nil))))
      (pss_one (ps_ret (pv 3)))) pss_nil)
      (pss_cons (ps_asg (pe_op op_add (pe_ix ix_list (pv 0) pe_int (fun _ _ => rfl)) pe_int) (pg_sub (pv 0) pe_int set_list))
      (pss_cons (ps_set (i := 4) scLdraw.nd rfl (Or.inl rfl) (pe_ix ix_list (pe_op op_cat (pe_ix ix_list (pv 0) pe_int (fun _ _ => rfl)) (pe_lst (pa_cons pe_int pa_nil))) (pe_op op_mod (pe_callTy call_int1 (by rfl) T.int (by decide +kernel) (pa_cons (pe_ix ix_list (pv 0) pe_int (fun _ _ => rfl)) pa_nil)) (pe_callB (call_max2 rfl) (by rfl) T.max (by decide +kernel) (pa_cons pe_int (pa_cons (pe_callB call_len (by rfl) T.len (by decide +kernel) (pa_cons (pe_ix ix_list (pv 0) pe_int (fun _ _ => rfl)) pa_nil)) pa_nil)))) (fun _ _ => rfl)))
      (pss_cons (ps_set (i := 5) scLdraw.nd rfl (Or.inl rfl) (pe_op op_mod (pe_callTy call_int1 (by rfl) T.int (by decide +kernel) (pa_cons (pe_op op_mul (pe_op op_add (pe_op op_add (pv 4) (pe_op op_mul pe_int (pe_ix ix_list (pv 0) pe_int (fun _ _ => rfl)))) pe_int) pe_int) pa_nil)) pe_int))
      (pss_cons (ps_set (i := 5) scLdraw.nd rfl (Or.inl rfl) (pe_op op_mod (pe_callTy call_int1 (by rfl) T.int (by decide +kernel) (pa_cons (pe_op op_mul (pv 5) (pe_op op_add (pe_op op_fdiv (pv 5) pe_int) pe_int)) pa_nil)) pe_int))
      (pss_cons (ps_set (i := 5) scLdraw.nd rfl (Or.inl rfl) (pe_op op_mod (pe_callTy call_int1 (by rfl) T.int (by decide +kernel) (pa_cons (pe_op op_mul (pv 5) (pe_op op_add (pe_op op_fdiv (pv 5) pe_int) pe_int)) pa_nil)) pe_int))
      (pss_one (ps_ret (pe_op op_mod (pe_callTy call_int1 (by rfl) T.int (by decide +kernel) (pa_cons (pe_op op_fdiv (pv 5) pe_int) pa_nil)) (pv 1))))))))))), ?_⟩
    refine ⟨fun σ H1 => ∃ S1 v2, σ = [some (.ref p), some (.int n), v2, none, none, none] ∧ Pool S1 H1 p ∧ Gr p S H S1 H1, ?_, ?_⟩
    · refine ⟨_, rfl, p, _, 2, _, rfl, rfl, SqL.of hp, atI_nat (j := 2) rfl, rfl, _, rfl, ite2 (fun c => ?_) (fun c => ?_)⟩
      · refine ⟨_, rfl, p, _, 0, _, rfl, rfl, SqL.of hp, atI_nat (j := 0) rfl, _, _, rfl, .inl ⟨_, SqL.of (ss _ _ hg), rfl⟩, _, _, rfl, rfl, _, rfl, ite2 (fun c2 => ?_) (fun c2 => ?_)⟩
        · refine ⟨_, rfl, p, _, 0, _, rfl, rfl, SqL.of hp, atI_nat (j := 0) rfl, ?_⟩
          obtain ⟨x, r, rfl⟩ : ∃ x r, gs = x :: r := by
            cases gs with
            | nil => cases c2
            | cons x r => exact ⟨x, r, rfl⟩
          have P0 : Pool S H p := ⟨ss, np, g, sm, cur, cnt, _, ns, hp, hg, hs, lg, ls⟩
          have hg' := ss _ _ hg
          refine ⟨_, rfl, g, _, 0, _, rfl, rfl, SqL.of hg', atI_nat (j := 0) rfl, _, rfl, 1, rfl, g, _, rfl, SqL.of hg', fun l hl => ?_⟩
          have P1 := P0.new (o := .lst (cutV (List.map V.int (x :: r)) (some 1) none)) hl
          refine ⟨by show 2 ≤ sizeLine; decide, fun t ht => ?_⟩
          have P2 := P1.new (o := .tup [V.int x, V.ref l]) ht
          have npl : p ≠ l := fun z => P0.has (by rw [z]; exact hl)
          have npt : p ≠ t := fun z => P1.has (by rw [z]; exact ht)
          have nlt : l ≠ t := fun z => by rw [← z, upd_same] at ht; cases ht
          have hp2 : upd (upd H l (.lst (cutV (List.map V.int (x :: r)) (some 1) none))) t (.tup [V.int x, V.ref l]) p = some (.lst [.ref g, .ref sm, .int cur, .int cnt]) := by rw [upd_ne npt, upd_ne npl]; exact hp
          refine ⟨t, _, rfl, SqT.of upd_same, rfl, _, _, rfl, ?_⟩
          refine ⟨_, rfl, p, _, 2, 2, rfl, rfl, hp2, rfl, ?_⟩
          refine ⟨_, _, rfl, _, rfl, p, _, 0, 0, rfl, rfl, upd_same, rfl, ?_⟩
          refine ⟨rfl, upd (upd S l (.lst (cutV (List.map V.int (x :: r)) (some 1) none))) t (.tup [V.int x, V.ref l]), some (.ref g), rfl, ?_, ((Gr.refl.new ss hl).new P1.ss ht).putP.putP⟩
          refine ⟨same_put (same_put P2.ss P2.np) P2.np, P2.np, l, sm, x, cnt, r, ns, by rw [upd_same]; rfl, by rw [upd_ne nlt, upd_same, show (1 : Int) = ((1 : Nat) : Int) from rfl, cut_from]; rfl, ?_, by simp at lg; omega, ls⟩
          rw [upd_ne (ne_of_none (same_upd (ss.free hl) _ _ hs) (P1.ss.free ht)), upd_ne (ne_of_none hs (ss.free hl))]
          exact hs
        · exact ⟨S, none, rfl, ⟨ss, np, g, sm, cur, cnt, gs, ns, hp, hg, hs, lg, ls⟩, Gr.refl⟩
      · exact ⟨S, none, rfl, ⟨ss, np, g, sm, cur, cnt, gs, ns, hp, hg, hs, lg, ls⟩, Gr.refl⟩
    · rintro σ H1 ⟨S1, v2, rfl, P1, g1⟩
      obtain ⟨ss, np, g, sm, cur, cnt, gs, ns, hp, hg, hs, lg, ls⟩ := id P1
      refine ⟨_, rfl, p, _, 2, _, rfl, rfl, SqL.of hp, atI_nat (j := 2) rfl, _, _, rfl, rfl, _, rfl, ite2 (fun c => ?_) (fun c => ?_)⟩
      · refine ⟨_, rfl, p, _, 2, _, rfl, rfl, SqL.of hp, atI_nat (j := 2) rfl, .inl ⟨_, rfl, _, rfl, _, _, rfl, rfl, n0, _, rfl, p, _, 2, _, rfl, rfl, SqL.of hp, atI_nat (j := 2) rfl, _, rfl, _, _, rfl, rfl, ⟨n0, by omega⟩, by show 2 ≤ sizeLine; decide, fun t ht => ?_⟩⟩
        have npt : p ≠ t := fun z => P1.has (by rw [z]; exact ht)
        have P2 := P1.new (o := .tup [V.int (cur % n), V.int (cur / n)]) ht
        refine ⟨t, _, rfl, SqT.of upd_same, rfl, _, _, rfl, _, _, rfl, _, rfl, p, _, 2, 2, rfl, rfl, (upd_ne npt).trans hp, rfl, rfl, _, rfl, ?_⟩
        refine q _ _ _ ?_ (g1.new ss ht).putP (Int.emod_nonneg _ (by omega)) (Int.emod_lt_of_pos _ n0)
        refine ⟨same_put P2.ss P2.np, P2.np, g, sm, cur / n, cnt, gs, ns, by rw [upd_same]; rfl, by rw [upd_ne (ne_of_none hg (ss.free ht))]; exact hg, by rw [upd_ne (ne_of_none hs (ss.free ht))]; exact hs, lg, ls⟩
      · refine ⟨_, rfl, p, _, 3, _, rfl, rfl, SqL.of hp, atI_nat (j := 3) rfl, _, _, rfl, rfl, _, rfl, p, _, 3, 3, rfl, rfl, hp, rfl, ?_⟩
        have Pa : Pool S1 (upd H1 p (.lst [.ref g, .ref sm, .int cur, .int (cnt + 1)])) p := ⟨same_put ss np, np, g, sm, cur, cnt + 1, gs, ns, upd_same, hg, hs, lg, ls⟩
        have ga : Gr p S H S1 (upd H1 p (.lst [.ref g, .ref sm, .int cur, .int (cnt + 1)])) := g1.putP
        show tSeq _ _ _ _ (upd H1 p (.lst [.ref g, .ref sm, .int cur, .int (cnt + 1)]))
        have ha : upd H1 p (.lst [.ref g, .ref sm, .int cur, .int (cnt + 1)]) p = some (.lst [.ref g, .ref sm, .int cur, .int (cnt + 1)]) := upd_same
        generalize upd H1 p (.lst [.ref g, .ref sm, .int cur, .int (cnt + 1)]) = Ha at Pa ga ha ⊢
        have hsa := Pa.ss _ _ hs
        refine ⟨_, rfl, p, _, 1, _, rfl, rfl, SqL.of ha, atI_nat (j := 1) rfl, by show 1 ≤ sizeLine; decide, fun b hb => ?_⟩
        have Pb := Pa.new (o := .lst [V.int 0]) hb
        have gb := ga.new (o := .lst [V.int 0]) Pa.ss hb
        have npb : p ≠ b := fun z => Pa.has (by rw [z]; exact hb)
        have hpb : upd Ha b (.lst [V.int 0]) p = some (.lst [.ref g, .ref sm, .int cur, .int (cnt + 1)]) := (upd_ne npb).trans ha
        have hsb : upd Ha b (.lst [V.int 0]) sm = some (.lst (ns.map V.int)) := (upd_ne (ne_of_none hsa hb)).trans hsa
        have hbb : upd Ha b (.lst [V.int 0]) b = some (.lst [V.int 0]) := upd_same
        generalize upd Ha b (.lst [V.int 0]) = Hb at Pb gb hpb hsb hbb ⊢
        refine ⟨sm, b, _, _, rfl, rfl, hsb, hbb, ?_, fun l hl => ?_⟩
        · rw [List.length_map]
          exact Nat.le_of_lt (small1000 (by show ns.length + 1 ≤ 1000; omega))
        have Pc := Pb.new (o := .lst (ns.map V.int ++ [V.int 0])) hl
        have gc := gb.new (o := .lst (ns.map V.int ++ [V.int 0])) Pb.ss hl
        have npl : p ≠ l := fun z => Pb.has (by rw [z]; exact hl)
        have hpc : upd Hb l (.lst (ns.map V.int ++ [V.int 0])) p = some (.lst [.ref g, .ref sm, .int cur, .int (cnt + 1)]) := (upd_ne npl).trans hpb
        have hsc : upd Hb l (.lst (ns.map V.int ++ [V.int 0])) sm = some (.lst (ns.map V.int)) := (upd_ne (ne_of_none hsb hl)).trans hsb
        have hlc : upd Hb l (.lst (ns.map V.int ++ [V.int 0])) l = some (.lst (ns.map V.int ++ [V.int 0])) := upd_same
        generalize upd Hb l (.lst (ns.map V.int ++ [V.int 0])) = Hc at Pc gc hpc hsc hlc ⊢
        refine ⟨_, rfl, p, _, 3, _, rfl, rfl, SqL.of hpc, atI_nat (j := 3) rfl, .inl ⟨_, rfl, _, rfl, p, _, 1, _, rfl, rfl, SqL.of hpc, atI_nat (j := 1) rfl, _, _, rfl, .inl ⟨_, SqL.of hsc, rfl⟩, _, _, rfl, _, _, rfl, rfl, ?_, ?_⟩⟩
        · show (0 : Int) < if ((ns.map V.int).length : Int) > 1 then ((ns.map V.int).length : Int) else 1
          split <;> omega
        obtain ⟨z, hz⟩ : ∃ z : Int, atI (ns.map V.int ++ [V.int 0]) ((cnt + 1) % (if ((ns.map V.int).length : Int) > 1 then ((ns.map V.int).length : Int) else 1)) = some (.int z) := by
          have e : ns.map V.int ++ [V.int 0] = (ns ++ [0]).map V.int := by simp
          obtain ⟨j, hj, hjl⟩ : ∃ j : Nat, (cnt + 1) % (if ((ns.map V.int).length : Int) > 1 then ((ns.map V.int).length : Int) else 1) = (j : Int) ∧ j < ns.length + 1 := by
            rw [List.length_map]
            have hm : (0 : Int) < if (ns.length : Int) > 1 then (ns.length : Int) else 1 := by split <;> omega
            have hm2 : (if (ns.length : Int) > 1 then (ns.length : Int) else 1) ≤ ns.length + 1 := by split <;> omega
            have h1 := Int.emod_nonneg (cnt + 1) (b := if (ns.length : Int) > 1 then (ns.length : Int) else 1) (by omega)
            have h2 := Int.emod_lt_of_pos (cnt + 1) hm
            exact ⟨((cnt + 1) % (if (ns.length : Int) > 1 then (ns.length : Int) else 1)).toNat, by omega, by omega⟩
          rw [hj, e]
          have hl2 : j < (ns ++ [0]).length := by simp; omega
          exact ⟨(ns ++ [0])[j], atI_nat (by rw [List.getElem?_map, List.getElem?_eq_getElem hl2]; rfl)⟩
        refine ⟨l, _, _, _, rfl, rfl, SqL.of hlc, hz, ?_⟩
        refine ⟨_, rfl, _, rfl, p, _, 3, _, rfl, rfl, SqL.of hpc, atI_nat (j := 3) rfl, _, _, rfl, rfl, .inl ⟨by decide, by decide⟩, _, _, rfl, rfl, _, _, rfl, rfl, _, _, rfl, rfl, .inr ⟨by decide, by decide⟩, .inl ⟨_, rfl, _, _, rfl, rfl, by show (0 : Int) < 2147483647; decide, ?_⟩⟩
        have y0 := Int.emod_nonneg ((z + 7919 * (cnt + 1) + 1) * 48271) (b := 2147483647) (by decide)
        have y1 := Int.emod_lt_of_pos ((z + 7919 * (cnt + 1) + 1) * 48271) (b := 2147483647) (by decide)
        show tSeq _ _ _ [some (.ref p), some (.int n), v2, none, some (.int z), some (.int (((z + 7919 * (cnt + 1) + 1) * 48271) % 2147483647))] Hc
        generalize ((z + 7919 * (cnt + 1) + 1) * 48271) % 2147483647 = y at y0 y1 ⊢
        refine ⟨_, rfl, _, rfl, _, _, rfl, rfl, ⟨by decide, by decide⟩, _, _, rfl, rfl, _, _, rfl, rfl, .inl ⟨by omega, by omega⟩, .inl ⟨_, rfl, _, _, rfl, rfl, by show (0 : Int) < 2147483647; decide, ?_⟩⟩
        have x0 := Int.emod_nonneg (y * (y / 1009 + 69621)) (b := 2147483647) (by decide)
        have x1 := Int.emod_lt_of_pos (y * (y / 1009 + 69621)) (b := 2147483647) (by decide)
        show tSeq _ _ _ [some (.ref p), some (.int n), v2, none, some (.int z), some (.int ((y * (y / 1009 + 69621)) % 2147483647))] Hc
        generalize (y * (y / 1009 + 69621)) % 2147483647 = x at x0 x1 ⊢
        refine ⟨_, rfl, _, rfl, _, _, rfl, rfl, ⟨by decide, by decide⟩, _, _, rfl, rfl, _, _, rfl, rfl, .inl ⟨by omega, by omega⟩, .inl ⟨_, rfl, _, _, rfl, rfl, by show (0 : Int) < 2147483399; decide, ?_⟩⟩
        refine ⟨_, rfl, _, _, rfl, rfl, ⟨by decide, by decide⟩, .inl ⟨_, rfl, _, rfl, _, _, rfl, rfl, n0, ?_⟩⟩
        exact q _ _ _ Pc gc (Int.emod_nonneg _ (by omega)) (Int.emod_lt_of_pos _ n0)
end
end WW

set_option Elab.async false
set_option linter.all false
set_option maxRecDepth 100000
set_option maxHeartbeats 4000000
namespace WW
open PySem PySem.Spec PyProof.Rows L2
/-! ### super() in a def's body -/
/-- a body whose own code is known -/
structure PAt (X : Cx) (c : Code) (ss : List Stmt) (t : TS) : Prop where
  run : ∀ (pins : List (Addr × Obj)) (s : Shared) (σ : L2.St) (H : Hp) (D : Ends), Inv X pins σ H s → t D σ H → PySem.wpAt (model X.prog X.w) X.A c (execs ss X.env) (SP X pins D) X.xe s
section
variable {X : Cx} {c : Code} {st : Stmt} {ss : List Stmt} {t u : TS}
theorem pat_of (h : PSs X ss t) : PAt X c ss t := ⟨fun pins s σ H D I q => PySem.wpAt_of_wpAny (h.run pins s σ H D I q)⟩
theorem pat_cons (h : PS X st t) (r : PAt X c ss u) : PAt X c (st :: ss) (tSeq t u) := by
  refine ⟨fun pins s σ H D I q => ?_⟩
  refine PySem.ks_wpAt_execs_cons (PySem.wpAt_of_wpAny (thn (h.run pins s σ H { D with nx := u D } I q) fun f s1 q1 => ?_))
  cases f with
  | next =>
    obtain ⟨σ1, H1, I1, q2⟩ := q1
    exact r.run pins s1 σ1 H1 D I1 q2
  | ret v => exact q1
  | brk => exact q1
  | cont => exact q1
end
/-- what the text says where super() stands in a def at f, its code object at cda, the cell of its class D at cc -/
structure SupTxt (P : Program) (K : PySem.W.Frag) (mg : Str → Option Value) (f cda cc D : Addr) : Prop where
  fn : ∃ oc od fd osl ar, K.lookup f = some ⟨oc, od, .func fd, osl⟩ ∧ (fd.params.posonlyargs ++ fd.params.args).head? = some ar ∧ ar.arg = "self"
  code : ∃ ccl cdd vs ccs file tf, K.lookup cda = some ⟨ccl, cdd, .fields vs, ccs⟩ ∧ vs[2]? = some (.str file tf) ∧ ((P.main.file : Str) == file) = true
  cell : ∃ cl cld csl, K.lookup cc = some ⟨cl, cld, .cell (some (.ref D)), csl⟩
  dcl : ∃ cdD, PySem.W.clsIn K D = some cdD
  nosup : mg "super" = none
  top : (P.main.scope.names.lookup ("super" : Str)).isSome = false
  opq : PySem.W.nsIn K cStatics "thirdparty.any" = some none
/-- what the context of such a body has -/
structure SupX (X : Cx) (f cda cc : Addr) : Prop where
  func : X.env.func = some f
  code : X.env.code = .ref cda
  cell : X.env.cells.lookup ("__class__" : Str) = some cc
  ks : X.env.kindOf "super" = some .globalImplicit
  kc : X.env.kindOf "__class__" = some .free
  ka : X.env.kindOf "self" = some .local
  n0 : X.N[0]? = some ("self" : Str)
theorem boot_super : bootBuiltins "super" = some (.type "super") := by decide +kernel
section
variable {X : Cx} {pins : List (Addr × Obj)} {σ : L2.St} {H : Hp} {s : Shared} {f cda cc D C x : Addr}
theorem sup_node {body : List Stmt} {p0 p1 : Pos} {attr : Str} {whole : Sem Value} {ox : Obj} {odx : Option Obj} {Q : Value → Shared → Prop} {E : Value → Shared → Prop} (T : SupTxt X.prog X.K X.mg f cda cc D) (S : SupX X f cda cc) (I : Inv X pins σ H s) (h0 : σ[0]? = some (some (.ref x))) (J : PySem.W.InstAt s.heap x ox C odx)
    (hsub : PySem.W.mroIn X.K C (.ref D) = some true) (hat : (attr == ("__class__" : Str)) = false)
    (h : ∀ so s', Inv X ((so, PySem.W.ks_superObj D x C) :: pins) σ H s' → (∀ b o, s.heap.get? b = some o → s'.heap.get? b = some o) → Q (.ref so) s') :
    PySem.wpAt (model X.prog X.w) X.A (.func body X.env) (attributeBase (.Call (.Name "super" p0) [] [] p1) attr X.env whole) Q E s := by
  obtain ⟨oc, od, fd, osl, ar, hf, hp, har⟩ := T.fn
  obtain ⟨ccl, cdd, vs, ccs, file, tf, hco, hvs, hfile⟩ := T.code
  obtain ⟨cl, cld, csl, hcell⟩ := T.cell
  obtain ⟨cdD, hD⟩ := T.dcl
  have KX := I.kIn
  obtain ⟨oD, hD1, hD2⟩ : ∃ oD, s.heap.get? D = some oD ∧ oD.data = .cls cdD := by
    unfold PySem.W.clsIn at hD
    split at hD
    · rename_i c d cd' sl ho
      cases hD
      exact ⟨_, KX _ _ ho, rfl⟩
    · cases hD
  refine PySem.ks_wpAt_super_base (env := X.env) S.ks S.kc hat S.func (KX _ _ hf) rfl hp S.code (KX _ _ hco) rfl hvs hfile T.top ?_
  obtain ⟨mb, h1, h2⟩ := I.mod.blt
  refine PySem.W.ks_loadName_global I.ok.kind S.ks (Calls.loadGlobal_builtin (by rw [I.ok.glob]; exact I.mod.glob.keeps I.bk) T.nosup (by rw [I.ok.blt]; exact h1.keeps I.bk) ((h2 _ (by decide)).trans boot_super) ⟨rfl, ?_⟩)
  refine wpAny_loadName_free I.ok.kind S.kc S.cell ⟨_, KX _ _ hcell, rfl⟩ ?_
  rw [har]
  obtain ⟨m, hn, hl⟩ := I.loc
  obtain ⟨u, hu, lk⟩ := hl 0 "self" (.ref x) S.n0 h0 (.inl S.ka)
  obtain rfl : u = Value.ref x := hu
  have hm : m "self" = some (.ref x) := by
    rcases lk with ⟨_, e⟩ | ⟨e, _⟩
    · exact e
    · rw [S.ka] at e
      rcases e with e | e <;> cases e
  refine wpAny_loadName_local I.ok.kind S.ka hn hm ?_
  refine PySem.ks_wpAny_isType_cls hD1 hD2 ⟨rfl, ?_⟩
  obtain ⟨hh, g, d, tk, os⟩ := s
  refine PySem.ks_wpAny_call_super hD1 hD2 J.at_ J.cls (fun c e => ?_) (PySem.W.looks_mroIn KX hsub) (fun h' e k => ?_)
  · have := J.no
    unfold PySem.W.notCls at this
    rw [e] at this
    exact Bool.noConfusion this
  · exact h _ _ (ClX.pin_new (t' := tk) I k (Nat.le_refl _) e (fun v z => by cases z)) k
end
/-! ### super().__init__(..) of an exception -/
section
variable {X : Cx} {pins : List (Addr × Obj)} {σ : L2.St} {H : Hp} {s : Shared} {f cda cc C a u : Addr} {A : Around} {E : Value → Shared → Prop}
theorem call_mw {us : List Value} {Q : Value → Shared → Prop} (T : OexC X.K C) (I : Inv X pins σ H s) (hu : s.heap.get? u = some (PySem.W.kxs_mw "ValueError.__init__" a)) (e : H a = some (exo a C none)) (hl : us.length ≤ sizeLine) (h : ∀ s', Inv X pins σ H s' → Q .none s') :
    wpAny (model X.prog X.w) A (call (.ref u) us) Q E s := by
  obtain ⟨nm, q, N, bs, bm, sn, sub, ab, col, dd, k0, k1, k2, k3, k5, hC, hbm⟩ := T.cls
  obtain ⟨t1, ho⟩ := exo_at I.hok e
  have hCC := I.kIn _ _ hC
  obtain ⟨hp, g, d, tk, os⟩ := s
  have FB := F.excBase_ValueError
  refine wpAny_call (codeAny_of_tree ?_)
  show wpAny _ A.in1 (callAny (.ref u) ⟨us, []⟩) _ _ _
  simp only [callAny]
  refine wpAny_bind (wpAny_load hu ?_)
  simp only [PySem.W.kxs_mw, show (Value.type "method-wrapper" == Value.type "method" || Value.type "method-wrapper" == Value.type "builtin_function_or_method" || Value.type "method-wrapper" == Value.type "method-wrapper") = true by decide, if_true]
  refine PySem.W.KFB.if_so (by decide) ?_
  refine wpAny_bind (PySem.W.check_bound_init FB.toExcCallFacts hCC ho rfl ?_)
  refine wpAny_bind (wpAny_pure (wpAny_pure ?_))
  refine ⟨plainId_quiet FB.init.plain _, codeAny_builtin FB.initEntry ?_⟩
  refine PySem.W.exc_init_tree (cls := .ref C) (t0 := t1) (dv := none) (c2 := .none) (c3 := .none) (b4 := .bool false) ho hl (fun h' k hx _ => ?_)
  have J := I.write (t' := tk) (x := a) (e := a) (o := exo a C none) (by rw [e]; exact True.intro) (.inl rfl) k ⟨_, hx⟩ (exo_ok hx)
  have eu : upd H a (exo a C none) = H := by
    funext b
    by_cases hb : b = a
    · rw [hb, upd_same, e]
    · rw [upd_ne hb]
  rw [eu] at J
  exact h _ J
end
/-- the reading of «super().__init__(..)» in an exception's __init__; the rest u -/
def tSupX (C : Addr) (ta : TA) (u : TS) : TS := fun D σ H => ∃ a, σ[0]? = some (some (.ref a)) ∧ H a = some (exo a C none) ∧ ta σ H fun vs H1 => vs.length ≤ 1000 ∧ H1 a = some (exo a C none) ∧ u D σ H1
section
variable {X : Cx} {f cda cc C : Addr}
theorem pat_supX {body : List Stmt} {p0 p1 p2 pos pos' : Pos} {e : Expr} {es : List Expr} {rest : List Stmt} {ta : TA} {u : TS} {pl : Sem Bool} (T : SupTxt X.prog X.K X.mg f cda cc C) (S : SupX X f cda cc) (O : OexC X.K C) (hsub : PySem.W.mroIn X.K C (.ref C) = some true)
    (hm : PySem.W.ks_superIn X.K C C "__init__" = some (some (.builtin "ValueError.__init__"))) (hB : PySem.W.subIn X.K (.ref C) (.type "ValueError") = some true)
    (ha : PA X (e :: es) ta) (hr : PAt X (.func body X.env) rest u)
    (he : starEach (e :: es) X.env = (false, eval e X.env) :: starEach es X.env := by rfl) (hpl : (backTo pos (starEach es X.env)).any (·.1) = false := by rfl)
    (ht : eval (.Call (.Attribute (.Call (.Name "super" p0) [] [] p1) "__init__" p2) (e :: es) [] pos) X.env = (do
      let ov ← attributeBase (.Call (.Name "super" p0) [] [] p1) "__init__" X.env (eval (.Call (.Name "super" p0) [] [] p1) X.env)
      standAt p2.atName
      let (f, first) ← holding [ov] (getMethod ov "__init__" pl)
      callWith pos f first (backTo pos (starEach (e :: es) X.env)) []) := by rfl)
    (hs : swapsWith (.Call (.Attribute (.Call (.Name "super" p0) [] [] p1) "__init__" p2) (e :: es) [] pos) none pos'.line X.env = pure false := by rfl) :
    PAt X (.func body X.env) (.Expr (.Call (.Attribute (.Call (.Name "super" p0) [] [] p1) "__init__" p2) (e :: es) [] pos) pos' :: rest) (tSupX C ta u) := by
  refine ⟨fun pins s σ H D I q => ?_⟩
  obtain ⟨a, h0, ea, q⟩ := q
  obtain ⟨t1, ho⟩ := exo_at I.hok ea
  have J : PySem.W.InstAt s.heap a _ C none := ⟨ho, rfl, rfl, trivial⟩
  refine PySem.ks_wpAt_execs_cons (PySem.ks_wpAt_Expr_any ?_ I.quiet hs)
  refine PySem.ks_wpAt_MethodCall (pl := pl) ?_ ht
  refine sup_node T S I h0 J hsub (by decide) fun so s1 I1 k1 => ?_
  have KX := I1.kIn
  have J1 : PySem.W.InstAt s1.heap a _ C none := ⟨k1 _ _ ho, rfl, rfl, trivial⟩
  have hI : PySem.W.Looks (model X.prog X.w) s1.heap (isInstance (.ref a) (.type "ValueError")) true := J1.type.andThen (PySem.W.looks_subIn KX hB)
  cases hc : PySem.W.clsIn X.K C with
  | none =>
    unfold PySem.W.ks_superIn at hm
    rw [hc] at hm
    cases hm
  | some cd =>
    unfold PySem.W.ks_superIn at hm
    rw [hc] at hm
    have hso := ClX.pin_at I1
    have hne := PySem.W.ks_ne KX J1 hc
    have hop := PySem.W.looks_opaque (M := model X.prog X.w) (C := C) KX T.opq
    have hmro : PySem.W.Looks (model X.prog X.w) s1.heap (mroOf (.ref C)) cd.mro := fun A Q E s k q => wpAny_bind ((PySem.W.looks_clsIn KX hc) A _ E s k (wpAny_pure q))
    obtain ⟨hp, g, d, tk, os⟩ := s1
    refine PySem.W.kxs_getMethod PySem.W.kxs_ValueError hso hop hmro rfl KX hm hI hne (by decide) ?_
    have I2 : Inv X ((hp.objs.size, PySem.W.kxs_mw "ValueError.__init__" a) :: (so, PySem.W.ks_superObj C a C) :: pins) σ H ⟨hp.push (PySem.W.kxs_mw "ValueError.__init__" a), g, d, tk + 1, os⟩ :=
      ClX.pin_new (t' := tk + 1) I1 (fun b o z => Heap.get?_push_of_some _ z) (Nat.le_refl _) (Heap.get?_push_at rfl rfl) (fun v z => by cases z)
    show wpAny _ _ (callWith pos (.ref hp.objs.size) [] (backTo pos (starEach (e :: es) X.env)) []) _ _ _
    rw [he]
    refine PySem.W.kxs_callWith (i := "ValueError.__init__") (x := a) (by show (false || (backTo pos (starEach es X.env)).any (·.1)) = false; rw [hpl]; rfl) ?_
    refine PySem.Calls.evalArgs_plain ?_
    have hrun := ha.run pos _ _ σ H _ I2 q
    rw [he] at hrun
    refine thn hrun fun us s3 ⟨vs, H3, I3, r3, hlen, ea3, q3⟩ => ⟨ClX.pin_at I3, ?_⟩
    show wpAny _ _ (call (.ref hp.objs.size) us) _ _ _
    refine call_mw O I3 (ClX.pin_at I3) ea3 (by rw [← Paired.length r3, sizeLine_eq]; omega) fun s4 I4 => ?_
    exact hr.run pins s4 σ H3 D (ClX.unpin (ClX.unpin I4)) q3
end
/-! ### a def that says super() keeps its promise -/
theorem fn_sup {CX : CXT} {P : Program} {w : World} {K : PySem.W.Frag} {mg : Str → Option Value} {base : Heap} {k : Nat} {f cda cc D : Addr} {name qual : Str} {params : Arguments} {body : List Stmt} {scope : Scope} {doc pm ct oc : Value} {od : Option Addr}
    {osl : Array (Option Value)} {N ps : List Str} {sp : Sp} {cl cld csl} (lk : K.lookup f = some ⟨oc, od, .func (PySem.W.fnX name qual params body scope [("__class__", cc)] .none .none doc pm none (.ref cda) ct), osl⟩) (hcd : PySem.W.codeIn K (.ref cda) qual = true)
    (hcell : K.lookup cc = some ⟨cl, cld, .cell (some (.ref D)), csl⟩) (S : NdefX.NScope N ps ["__class__"] scope)
    (len : ∀ vs H Q E, sp vs H Q E → vs.length = ps.length)
    (hbody : ∀ (A : Around) (outer : List Env) (s : Shared) (H : Hp) (vs : List V) (Q : VK) (E : XK), Room k (A.deeper (NdefX.envF ⟨name, qual, params, body, scope, [("__class__", cc)], cda⟩ f s.heap.objs.size)) → sp vs H Q E →
      ∃ t, PAt (NdefX.ncx CX P w K mg base N ⟨name, qual, params, body, scope, [("__class__", cc)], cda⟩ f A outer s H E) (.func body (NdefX.envF ⟨name, qual, params, body, scope, [("__class__", cc)], cda⟩ f s.heap.objs.size)) body t ∧ t { nx := fun _ H' => Q .non H', rt := Q } (NdefX.startF N vs [none]) H) :
    FnOk P w K mg base CX (k + 1) f (PySem.W.fnX name qual params body scope [("__class__", cc)] .none .none doc pm none (.ref cda) ct) ps sp := by
  refine ⟨len, fun A outer s H args us vs Q E hr e0 hb r hsp => ?_⟩
  have hl := len _ _ _ _ hsp
  have KX : K.In s.heap := e0.mod.kin.keeps fun b o e => (e0.bs b o e).1
  have lim : s.heap.NoLimit := e0.mod.nolimit.keeps fun b o e => (e0.bs b o e).1
  have hcl : ∀ y c, ([("__class__", cc)] : List (Str × Addr)).lookup y = some c → y = "__class__" ∧ c = cc := fun y c e => by
    rcases PySem.mem_of_lookup e with _ | ⟨_, z⟩
    · exact ⟨rfl, rfl⟩
    · cases z
  have hc0 : ([("__class__", cc)] : List (Str × Addr)).lookup ("__class__" : Str) = some cc := by simp [List.lookup]
  have CA : NdefX.CellsAt [("__class__", cc)] ["__class__"] [none] s.heap H := by
    refine ⟨rfl, fun y c e => ?_, fun y z c e1 e2 => (hcl y c e1).1.trans (hcl z c e2).1.symm, fun i y e => ?_⟩
    · obtain ⟨_, rfl⟩ := hcl y c e
      exact ⟨(e0.bs _ _ (e0.mod.kin _ _ hcell)).2, _, _, KX _ _ hcell, rfl⟩
    · cases i with
      | zero =>
        have z : ("__class__" : Str) = y := Option.some.inj e
        subst z
        exact ⟨cc, hc0, fun v z => by cases z⟩
      | succ i => simp at e
  refine PySem.ks_codeAny_call_defAt (fd := PySem.W.fnX name qual params body scope [("__class__", cc)] .none .none doc pm none (.ref cda) ct) (body := body) hr.depth (KX _ _ lk) rfl lim (PySem.W.codeRec_of KX hcd) rfl hb S.nocell (fun ⟨n, _⟩ hy => S.par n (List.of_mem_zip hy).1) (fun h₁ hns kp => ?_) S.co S.gen S.kind
  obtain ⟨t, ht, hq⟩ := hbody A outer s H vs Q E (hr.deeper _) hsp
  have I : Inv (NdefX.ncx CX P w K mg base N ⟨name, qual, params, body, scope, [("__class__", cc)], cda⟩ f A outer s H E) [] (NdefX.startF N vs [none]) H { s with heap := h₁, toks := s.toks + (ps.zip us).length } := NdefX.inv_startN S hr.hd e0 hl r CA hns kp
  refine PySem.ks_wpAt_mono (ht.run [] _ (NdefX.startF N vs [none]) H _ I hq) (fun fl s' hs => ?_) fun e s' hs => hs
  have fin : ∀ {σ' : L2.St} {H' : Hp} {v : V} {u : Value}, Inv (NdefX.ncx CX P w K mg base N ⟨name, qual, params, body, scope, [("__class__", cc)], cda⟩ f A outer s H E) [] σ' H' s' → L2.RelV v u → Q v H' → CE outer P w H s Q u s' :=
    fun {σ' H' v u} J rv q => ⟨v, H', J.os, J.bare, J.base, J.hok, rv, q⟩
  cases fl with
  | ret u =>
    obtain ⟨v, σ', H', J, rv, q⟩ := hs
    exact fin J rv q
  | next =>
    obtain ⟨σ', H', J, q⟩ := hs
    exact fin (v := V.non) (u := Value.none) J rfl q
  | brk =>
    obtain ⟨_, _, _, q⟩ := hs
    exact False.elim q
  | cont =>
    obtain ⟨_, _, _, q⟩ := hs
    exact False.elim q
end WW

set_option Elab.async false
set_option linter.all false
set_option maxRecDepth 100000
set_option maxHeartbeats 4000000
namespace WW
open PySem PySem.Spec PyProof.Rows L2
/-! ### an exception class of the program: class X(..): def __init__(self, f): super().__init__(f); self.f = f -/
def spXI (C : Addr) (fld : Str) : Sp := fun vs H Q _ => ∃ (a : Addr) (y : V), vs = [.ref a, y] ∧ H a = some (exo a C none) ∧ ∀ dx, H dx = none → dx ≠ a → Q .non (upd (upd H dx (exd dx [(fld, y)])) a (exo a C (some dx)))
/-- the text of such an __init__ -/
def excBody (fld : Str) (st : Stmt) : Prop := ∃ p0 p1 p2 p3 p4 p5 p6 p7 p8 p9 : Pos, defBody st = [.Expr (.Call (.Attribute (.Call (.Name "super" p0) [] [] p1) "__init__" p2) [.Name fld p3] [] p4) p5, .Assign [.Attribute (.Name "self" p6) fld p7] (.Name fld p8) p9] ∧
  ∀ env : Env, ∃ pl : Sem Bool, eval (.Call (.Attribute (.Call (.Name "super" p0) [] [] p1) "__init__" p2) [.Name fld p3] [] p4) env = (do
      let ov ← attributeBase (.Call (.Name "super" p0) [] [] p1) "__init__" env (eval (.Call (.Name "super" p0) [] [] p1) env)
      standAt p2.atName
      let (f, first) ← holding [ov] (getMethod ov "__init__" pl)
      callWith p4 f first (backTo p4 (starEach [.Name fld p3] env)) [])
theorem ok_exc {P : Program} {w : World} {K : PySem.W.Frag} {mg : Str → Option Value} {base : Heap} {fI cda cc C : Addr} {qual fld : Str} {st : Stmt} {doc pm ct oc : Value} {od : Option Addr} {osl : Array (Option Value)}
    (lk : K.lookup fI = some ⟨oc, od, .func (PySem.W.fnX "__init__" qual (defArgs st) (defBody st) (defScope st) [("__class__", cc)] .none .none doc pm none (.ref cda) ct), osl⟩) (hcd : PySem.W.codeIn K (.ref cda) qual = true)
    (T : SupTxt P K mg fI cda cc C) (O : OexC K C) (hsub : PySem.W.mroIn K C (.ref C) = some true) (hm : PySem.W.ks_superIn K C C "__init__" = some (some (.builtin "ValueError.__init__"))) (hB : PySem.W.subIn K (.ref C) (.type "ValueError") = some true)
    (hno : PySem.W.findIn K (.ref C) fld = some none) (S : NdefX.NScope ["self", fld, "__class__"] ["self", fld] ["__class__"] (defScope st)) (hks : (defScope st).names.lookup ("super" : Str) = some .globalImplicit) (hb : excBody fld st)
    (hd1 : (fld == ("__debug__" : Str)) = false) (hd2 : (fld == ("__classdict__" : Str)) = false) :
    FnOk P w K mg base CX0 1 fI (PySem.W.fnX "__init__" qual (defArgs st) (defBody st) (defScope st) [("__class__", cc)] .none .none doc pm none (.ref cda) ct) ["self", fld] (spXI C fld) := by
  obtain ⟨cl, cld, csl, hcell⟩ := T.cell
  refine fn_sup (N := ["self", fld, "__class__"]) lk hcd hcell S (fun vs H Q E h => ?_) (fun A outer s H vs Q E hr h => ?_)
  · obtain ⟨a, y, rfl, _⟩ := h
    rfl
  · obtain ⟨a, y, rfl, ha, q⟩ := h
    obtain ⟨p0, p1, p2, p3, p4, p5, p6, p7, p8, p9, eb, hte⟩ := hb
    have hX : SupX (NdefX.ncx CX0 P w K mg base ["self", fld, "__class__"] ⟨"__init__", qual, defArgs st, defBody st, defScope st, [("__class__", cc)], cda⟩ fI A outer s H E) fI cda cc :=
      ⟨rfl, rfl, by show ([("__class__", cc)] : List (Str × Addr)).lookup ("__class__" : Str) = some cc; simp [List.lookup], hks, S.frk _ (by simp), S.par _ (by simp), rfl⟩
    have vf : Vis (defScope st) fld := .inl (S.par _ (by simp))
    have vs' : Vis (defScope st) "self" := .inl (S.par _ (by simp))
    have main : ∃ t, PAt (NdefX.ncx CX0 P w K mg base ["self", fld, "__class__"] ⟨"__init__", qual, defArgs st, defBody st, defScope st, [("__class__", cc)], cda⟩ fI A outer s H E) (.func (defBody st) (NdefX.envF ⟨"__init__", qual, defArgs st, defBody st, defScope st, [("__class__", cc)], cda⟩ fI s.heap.objs.size))
        [.Expr (.Call (.Attribute (.Call (.Name "super" p0) [] [] p1) "__init__" p2) [.Name fld p3] [] p4) p5, .Assign [.Attribute (.Name "self" p6) fld p7] (.Name fld p8) p9] t ∧ t { nx := fun _ H' => Q .non H', rt := Q } (NdefX.startF ["self", fld, "__class__"] [.ref a, y] [none]) H := by
      obtain ⟨pl, ht⟩ := hte (NdefX.ncx CX0 P w K mg base ["self", fld, "__class__"] ⟨"__init__", qual, defArgs st, defBody st, defScope st, [("__class__", cc)], cda⟩ fI A outer s H E).env
      refine ⟨_, pat_supX (pl := pl) (ht := ht) T hX O hsub hm hB (pa_cons (pv 1 (hv := vf) (hd := hd1) (hcd := hd2)) pa_nil) (pat_of (pss_one (ps_ost (pv 0 (hv := vs')) (pv 1 (hv := vf) (hd := hd1) (hcd := hd2))))), ?_⟩
      refine ⟨a, rfl, ha, _, rfl, by simp, ha, _, rfl, _, rfl, a, C, rfl, O, hno, .inl ⟨ha, fun dx n ne => q dx n ne⟩⟩
    rw [← eb] at main
    exact main
/-- C(y) as it is raised: the wish behind it -/
theorem mkx {C : Addr} {fld : Str} {y : V} {H1 : Hp} {Q : XK} (q : ∀ d, H1 d = none → Q (.ref C) (some d) (upd H1 d (.xd [(fld, y)]))) : ([y] : List V).length ≤ 1000 ∧ ∀ a, H1 a = none → spXI C fld (.ref a :: ([y] ++ [])) (upd H1 a (exo a C none))
    (fun v H2 => v = .non ∧ ∃ (d : Addr) (fs : List (Str × V)), H2 a = some (exo a C (some d)) ∧ H2 d = some (exd d fs) ∧ H1 d = none ∧ Q (.ref C) (some d) (upd (del H2 a) d (.xd fs))) (fun _ _ _ => False) := by
  refine ⟨by simp, fun a na => ⟨a, y, rfl, upd_same, fun dx n ne => ⟨rfl, dx, _, upd_same, (upd_ne ne).trans upd_same, ?_, ?_⟩⟩⟩
  · rw [upd_ne ne] at n
    exact n
  · rw [upd_ne ne] at n
    have e : upd (del (upd (upd (upd H1 a (exo a C none)) dx (exd dx [(fld, y)])) a (exo a C (some dx))) a) dx (.xd [(fld, y)]) = upd H1 dx (.xd [(fld, y)]) := by
      funext b
      by_cases hb : b = dx
      · rw [hb, upd_same, upd_same]
      · rw [upd_ne hb, upd_ne hb]
        by_cases ha : b = a
        · rw [ha, del_same, na]
        · rw [del_ne ha, upd_ne ha, upd_ne hb, upd_ne ha]
    rw [e]
    exact q dx n
/-! ### C(..) where __init__ may raise -/
def tMakeS (C : Addr) (sp : Sp) (E : L2.St → XK) (t : TA) : TE := fun σ H Q => t σ H fun vs H1 => ∀ x dx, H1 x = none → H1 dx = none → dx ≠ x →
  sp (.ref x :: vs) (upd (upd H1 dx (.own x)) x (.ins C dx [])) (fun v H2 => v = .non ∧ Q (.ref x) H2) (E σ)
section
variable {X : Cx} {CX : CXT} {k : Nat} {f C : Addr} {fd : FuncData} {ps : List Str} {sp : Sp} {E : L2.St → XK} {x : Str} {p pos : Pos} {e : Expr} {es : List Expr} {t : TA}
theorem pe_makeS (M : Mk X.K C f) (F : FnOk X.prog X.w X.K X.mg X.base CX k f fd ps sp) (hr : Room (k + 1) X.A) (hg : Gl X x) (hm : X.mg x = some (.ref C)) (hb : Binds X.K fd ps []) (hx : ∀ σ, PassesAt CX X σ (E σ))
    (ha : PA X (e :: es) t) (hdb : (x == ("__debug__" : Str)) = false := by decide) (he : starEach (e :: es) X.env = (false, eval e X.env) :: starEach es X.env := by rfl) (hpl : (backTo pos (starEach es X.env)).any (·.1) = false := by rfl) :
    PE X (.Call (.Name x p) (e :: es) [] pos) (tMakeS C sp E t) := by
  refine ⟨fun pins s σ H Q I h => ?_⟩
  refine wpAny_Call_Name_kw (ld_glob I hg hm ?_ hdb)
  refine PySem.W.callWith_K (h₀ := X.base) I.ok.mod.kin M.kp (thn (ha.run pos pins s σ H _ I h) fun us s1 ⟨vs, H1, I1, r, q⟩ => ⟨I1.kIn, ?_⟩) he hpl
  show wpAny _ _ (call (.ref C) us) _ _ _
  have hq := q (s1.heap.objs.size + 1) s1.heap.objs.size (I1.hok.fresh (Nat.le_succ _)) (I1.hok.fresh (Nat.le_refl _)) (Nat.ne_of_lt (Nat.lt_succ_self _))
  have I2 := Inv.made (C := C) I1
  have r2 : Vals (V.ref (s1.heap.objs.size + 1) :: vs) (Value.ref (s1.heap.objs.size + 1) :: us) := .cons rfl r
  have hl : (Value.ref (s1.heap.objs.size + 1) :: us).length = ps.length := by
    have e := r2.length
    rw [F.len _ _ _ _ hq] at e
    exact e.symm
  have hbb := hb _ (Value.ref (s1.heap.objs.size + 1) :: us) I2.kIn (by rw [List.append_nil]; exact hl)
  rw [List.append_nil] at hbb
  refine wpAny_call (make_map (f := f) I1.kIn M.makes M.init (beq_iff_eq.mp M.fn) (codeAny_mono (F.run _ X.stack _ _ ⟨Value.ref (s1.heap.objs.size + 1) :: us, []⟩ (Value.ref (s1.heap.objs.size + 1) :: us) _ _ (E σ) (hr.make C us [])
    (I2.env0.make C us []) hbb r2 hq) fun r s' hq' => ?_))
  cases r with
  | error e => exact hx σ pins _ _ e s' I2 hq'
  | ok fl =>
    cases fl with
    | ret u =>
      obtain ⟨v, H', I3, rv, ev, q3⟩ := I2.after hq'
      subst ev
      exact ⟨rv, ⟨V.ref (s1.heap.objs.size + 1), H', I3, rfl, q3⟩⟩
    | next => exact False.elim hq'
    | brk => exact False.elim hq'
    | cont => exact False.elim hq'
end
/-! ### isinstance(e, c), e the exception that the suite holds, its fields in a dict -/
section
variable {X : Cx}
/-- the reading of isinstance(e, c): e's class is the one at D -/
def rIsED (K : PySem.W.Frag) (D a : Addr) (cls : Value) (d : Option Addr) : List V → Hp → VK → Prop := fun xs H Q => cls = .ref D ∧ ∃ (dd : Addr) (fs : List (Str × V)), d = some dd ∧ H dd = some (.xd fs) ∧ rIsE K D a xs H Q
theorem call_isED {a D : Addr} {cls : Value} {d : Option Addr} {oe : Obj} {pn : List (Addr × Obj)} (C : ExcC X.K D) (hz : Zc cls d oe) (hf : ∃ vs, oe.data = .fields vs) :
    CallR (X.suite a ((a, oe) :: pn)) (.builtin "isinstance") (rIsED X.K D a cls d) := by
  intro pins s σ H xs us Q I r h
  obtain ⟨rfl, dd, fs, rfl, hdd, c, cv, b, rfl, hcv, e, q⟩ := h
  cases r with
  | cons rx rr =>
    cases rr with
    | cons rt rr =>
      cases rr
      cases rx
      have ec := hcv _ rt
      subst ec
      obtain ⟨hget, _⟩ := I.pin (a, oe) (List.mem_append.mpr (.inl List.mem_cons_self))
      obtain ⟨vs, hv⟩ := hf
      have hx : ObjOk X.prog X.w H s.heap dd (.xd fs) := I.hok dd _ hdd
      obtain ⟨mA, hns, _⟩ := hx
      obtain ⟨od, ho, _⟩ := lookIn_ns hns
      have J : PySem.W.InstAt s.heap a oe D (some od) := by
        obtain ⟨oc, odi, oda, osl⟩ := oe
        obtain ⟨h1, h2⟩ := hz
        dsimp only at h1 h2 hv
        subst h1 h2 hv
        exact ⟨hget, rfl, rfl, ho⟩
      have hcl : (PySem.W.clsIn X.K D).isSome = true := by
        obtain ⟨cd, hc, _⟩ := PySem.W.any_some C.hd
        rw [hc]
        rfl
      exact PySem.W.kia_one (PySem.W.kitx_exc hcl C.hg C.hk C.hs C.ha C.hn C.ht C.hm) I.kIn J e (fun z => nomatch z) fun tk => ⟨.bl b, H, I.kept (t' := tk) fun _ _ z => z, rfl, q⟩
end
/-! ### several clauses «except x as n» -/
def dAs (i : Nat) (D : Ends) : Ends := { nx := fun σ' H' => D.nx (σ'.set i none) H', rt := D.rt, bk := fun σ' H' => D.bk (σ'.set i none) H', ct := fun σ' H' => D.ct (σ'.set i none) H' }
def wManyA (K : PySem.W.Frag) (Wout : WX) (D : Ends) : List (Value × Nat × (Addr → Value → Option Addr → TS)) → WX
  | [] => Wout
  | (c, i, ts) :: r => fun cls d σ H => ∃ b, PySem.W.exmOne K cls c = some b ∧ (b = true → ∀ a, H a = none → ts a cls d (dAs i D) (σ.set i (some (.ref a))) H) ∧ (b = false → wManyA K Wout D r cls d σ H)
inductive HdsA (X : Cx) : List ExceptHandler → List (Value × Nat × (Addr → Value → Option Addr → TS)) → Prop
  | nil : HdsA X [] []
  | cons {x n : Str} {c : Value} {i : Nat} {ts : Addr → Value → Option Addr → TS} {b₀ : Stmt} {suite : List Stmt} {np pos' : Pos} {hds : List ExceptHandler} {l : List (Value × Nat × (Addr → Value → Option Addr → TS))} (hi : X.N[i]? = some n) (hln : X.env.kindOf n = some .local) (hc : Names X x c)
      (hsu : ∀ (a : Addr) (oe : Obj) (cls : Value) (d : Option Addr) (pn : List (Addr × Obj)), Zc cls d oe → (∃ vs, oe.data = .fields vs) → PSs (X.suite a ((a, oe) :: pn)) (b₀ :: suite) (ts a cls d)) (r : HdsA X hds l) :
      HdsA X (.ExceptHandler (some (.Name x np)) (some n) (b₀ :: suite) pos' :: hds) ((c, i, ts) :: l)
section
variable {X : Cx} {body : List Stmt} {h₀ : ExceptHandler} {hds : List ExceptHandler} {l : List (Value × Nat × (Addr → Value → Option Addr → TS))} {pos : Pos} {tb : WX → TS} {Wout : WX}
theorem ps_try_manyA (hs : X.stack = X.env :: X.outer) (hf : X.env.frame = some X.env.locals) (hN : X.N.Nodup) (tk : Takes X Wout)
    (hb : ∀ (W : WX) (pn : List (Addr × Obj)) (xe : Value → Shared → Prop), Takes (X.tr pn xe) W → PassesOwn (model X.prog X.w) X.A X.env xe → PSs (X.tr pn xe) body (tb W))
    (hh : HdsA X (h₀ :: hds) l) : PS X (.Try body (h₀ :: hds) [] [] pos) (fun D σ H => tb (wManyA X.K Wout D l) D σ H) := by
  refine ⟨fun pins s σ H D I h => ?_⟩
  have ok := I.ok
  have hfr : X.A.frames = some (X.env :: X.outer) := by rw [ok.frames, hs]
  refine wpAny_Try_except ?_
  refine wpAny_mono ((hb (wManyA X.K Wout D l) (X.pn ++ pins) (fun e s₁ => wpAny (model X.prog X.w) X.A (noteFrame e X.env) (fun _ s₂ => wpAny (model X.prog X.w) X.A (setFlight e none) (fun _ s₃ =>
    wpAny (model X.prog X.w) X.A (handleBy e X.env (h₀ :: hds)) (SP X pins D) X.xe s₃) X.xe s₂) X.xe s₁) (fun u s' xx => ?_) PassesOwn.looking).run [] s σ H D (I.toTry _) h) (fun f s1 hsp => ?_) (fun e s1 he => he)
  · -- the catch
    obtain ⟨a, B, sI, pins', σ', H', cls, d, rfl, J', nb, up, sky, na, os, ag, w⟩ := xx
    have J : Inv X pins σ' H' sI := J'.ofTry ok
    have sky' : Sky B (X.env :: X.outer) a (Zc cls d) X.env.locals s'.heap := by rw [← hs]; exact sky
    show wpAny (model X.prog X.w) X.A (noteFrame (.ref a) X.env) _ _ _
    refine Sky.land Zc.steady hfr hf sky' fun h3 fl3 up3 => ?_
    have J3 : Inv X pins σ' H' { s' with heap := h3 } := J.landed nb fl3.1 (up.trans up3) os ag
    obtain ⟨oe3, vs3, he3, hz3, hd3⟩ := fl3.there
    have notFr : ∀ {h : Heap} {o : Obj} {vs : Array Value}, h.FunFrames B (X.env :: X.outer) → h.get? a = some o → o.data = .fields vs → a ∉ frs (X.env :: X.outer) := fun {h o vs} ff e dd hm => by
      obtain ⟨_, o', e', hnf⟩ := ff.mem hm
      rw [e] at e'; cases e'
      exact hnf _ dd
    have nfr := notFr fl3.2.2.1 he3 hd3
    have nL : a ≠ X.env.locals := fun z => nfr (List.mem_filterMap.mpr ⟨X.env, List.mem_cons_self, by rw [hf, z]⟩)
    have nF : a ∉ X.fs := fun hm => by
      obtain ⟨e, he, q⟩ := List.mem_filterMap.mp hm
      exact nfr (List.mem_filterMap.mpr ⟨e, List.mem_cons_of_mem _ he, q⟩)
    have S3 := J3.suite he3 hd3 na nL nF
    have go : ∀ {hds' : List ExceptHandler} {l' : List (Value × Nat × (Addr → Value → Option Addr → TS))}, HdsA X hds' l' → wManyA X.K Wout D l' cls d σ' H' →
        wpAny (model X.prog X.w) X.A (handleBy (.ref a) X.env hds') (SP X pins D) X.xe { s' with heap := h3 } := by
      intro hds' l' hk
      induction hk with
      | nil =>
        intro w
        refine wpAny_handleBy_nil ?_
        obtain ⟨k1, k2, k3, oe, vs, T, oT, ts', he, hz, hd, h1, hr⟩ := id fl3
        unfold PySem.passOn
        refine wpAny_bind (wpAny_field he hd h1 ?_)
        rw [if_neg (show ¬ ((Value.ref T == Value.none) = true) from by simp)]
        have fin : wpAny (model X.prog X.w) X.A (setFlight (.ref a) X.env.frame) (fun _ s4 => wpAny (model X.prog X.w) X.A (throw (.ref a) : Sem Flow) (SP X pins D) X.xe s4) X.xe { s' with heap := h3 } := by
          rw [hf]
          refine HandSPX.setFlight_upZ fl3 fun h4 hh4 up4 => wpAny_throw (tk _ _ ?_)
          exact ⟨a, B, sI, pins, σ', H', cls, d, rfl, J, nb, (up.trans up3).trans up4, .inr (.inr (by rw [hs]; exact hh4)), na, os, ag, w⟩
        first
          | exact wpAny_bind (wpAny_pure (wpAny_bind fin))
          | exact wpAny_bind fin
      | @cons x n c i ts b₀ suite np pos' hds2 l2 hi hln hc hsu r ih =>
        intro w
        obtain ⟨b, hb1, hyes, hno⟩ := w
        have hloc : Loc X.env.scope n := .inl hln
        refine wpAny_handleBy_cons (codeAny_handlers_test ?_) (by intro q; cases q)
        have LT : PySem.W.Looks (model X.prog X.w) h3 (typeOf (.ref a)) cls := fun A Q E s k q => wpAny_typeOf_ref (k _ _ he3) (by rw [hz3.1]; exact q)
        have LM := PySem.W.exm_one (M := model X.prog X.w) (J3.kIn) LT hb1
        have test : ∀ {Q : Value → Shared → Prop} {E : Value → Shared → Prop}, Q c { s' with heap := h3 } → wpAny (model X.prog X.w) (X.A.mark (some (.ref a))) (eval (.Name x np) X.env) Q E { s' with heap := h3 } := fun {Q E} q => by
          obtain ⟨hg, hdbg, hm | ⟨hm, hv, hnn⟩⟩ := hc
          · exact ld_glob (X := X.suite a ((a, oe3) :: (X.pn ++ pins))) S3 hg hm q hdbg
          · exact ld_blt (X := X.suite a ((a, oe3) :: (X.pn ++ pins))) S3 hg hm hv q hnn hdbg
        refine test (LM.here ?_)
        cases b with
        | true =>
          refine codeAny_handlers_suite_as ?_
          refine HandSPX.lands_againZ fl3 fun h4 fl4 up4 => ?_
          have J4 : Inv X pins σ' H' { s' with heap := h4 } := J.landed nb fl4.1 ((up.trans up3).trans up4) os ag
          obtain ⟨oe4, vs4, he4, hz4, hd4⟩ := fl4.there
          have S4 := J4.suite he4 hd4 na nL nF
          refine store_ok (X := X.suite a ((a, oe4) :: (X.pn ++ pins))) (v := .ref a) S4 hN hi hloc rfl (fun s5 S5 => ?_) (.inr hln)
          refine wpAny_mono ((hsu a oe4 cls d (X.pn ++ pins) hz4 ⟨_, hd4⟩).run [] s5 _ H' _ S5 (hyes rfl a na)) (fun f s6 hsp => ?_) (fun _ _ z => False.elim z)
          have end_ : ∀ {σ6 : L2.St} {H6 : Hp} {Q : Shared → Prop}, Inv (X.suite a ((a, oe4) :: (X.pn ++ pins))) [] σ6 H6 s6 → (∀ s7, Inv X pins (σ6.set i none) H6 s7 → Q s7) →
              wpAny (model X.prog X.w) X.A (do bindName X.env n .none; unbindBehindTheSuite X.env n pos') (fun _ s7 => Q s7) X.xe s6 := fun {σ6 H6 Q} S6 hq => gone_ok (S6.unsuite ok) hN hi hln hq
          cases f with
          | next =>
            obtain ⟨σ6, H6, S6, q6⟩ := hsp
            exact end_ S6 fun s7 J7 => ⟨_, _, J7, q6⟩
          | brk =>
            obtain ⟨σ6, H6, S6, q6⟩ := hsp
            exact end_ S6 fun s7 J7 => ⟨_, _, J7, q6⟩
          | cont =>
            obtain ⟨σ6, H6, S6, q6⟩ := hsp
            exact end_ S6 fun s7 J7 => ⟨_, _, J7, q6⟩
          | ret u =>
            obtain ⟨v6, σ6, H6, S6, r6, q6⟩ := hsp
            exact end_ S6 fun s7 J7 => ⟨_, _, _, J7, r6, q6⟩
        | false =>
          show wpAny _ X.A (handleBy (.ref a) X.env hds2) _ _ _
          exact ih (hno rfl)
    exact go hh w
  · cases f with
    | next =>
      obtain ⟨σ', H', J', q⟩ := hsp
      exact wpAny_execs_nil ⟨σ', H', J'.ofTry ok, q⟩
    | brk =>
      obtain ⟨σ', H', J', q⟩ := hsp
      exact ⟨σ', H', J'.ofTry ok, q⟩
    | cont =>
      obtain ⟨σ', H', J', q⟩ := hsp
      exact ⟨σ', H', J'.ofTry ok, q⟩
    | ret u =>
      obtain ⟨v, σ', H', J', r, q⟩ := hsp
      exact ⟨v, σ', H', J'.ofTry ok, r, q⟩
end
end WW

set_option Elab.async false
set_option linter.all false
set_option maxRecDepth 100000
set_option maxHeartbeats 4000000
namespace WW
open PySem PySem.Spec PyProof.Rows L2
/-- an exception class of the program, its one field fld -/
structure ExcT (P : Program) (w : World) (K : PySem.W.Frag) (mg : Str → Option Value) (x : Str) (C fI : Addr) (fld : Str) (fdI : FuncData) : Prop where
  o : OexC K C
  gl : mg x = some (.ref C)
  iC : PySem.W.findIn K (.ref C) "__init__" = some (some (.ref fI))
  tI : PySem.W.typeIn K (.ref fI) = some (.type "function")
  bi : Binds K fdI ["self", fld] []
  ok : ∀ base, FnOk P w K mg base CX0 1 fI fdI ["self", fld] (spXI C fld)
section
variable {X : Cx} {x fld : Str} {C fI : Addr} {fdI : FuncData} {e : Expr} {ta : TA} {p pos pos2 : Pos} {W : WX}
theorem ps_raiseX (T : ExcT X.prog X.w X.K X.mg x C fI fld fdI) (hr : Room 2 X.A) (hg : Gl X x) (hc : X.calm = true) (tk : Takes X W) (ha : PA X [e] ta) (hdb : (x == ("__debug__" : Str)) = false := by decide)
    (he : starEach [e] X.env = (false, eval e X.env) :: starEach [] X.env := by rfl) (hpl : (backTo pos (starEach [] X.env)).any (·.1) = false := by rfl) :
    PS X (.Raise (some (.Call (.Name x p) [e] [] pos)) none pos2) (fun _ σ H => tMkO C (spXI C fld) [] ta σ H fun cls d H' => W cls d σ H') :=
  ps_raise hc tk (pmk_oex T.o T.iC T.tI (T.ok X.base) hr T.bi .nil pass0 hg T.gl ha hdb he hpl)
end
section
variable {X : Cx} {k : Nat} {x : Str} {st : Stmt} {ps : List Str} {f : Addr} {fd : FuncData} {sp : Sp} {e : Expr} {es : List Expr} {p pos : Pos} {t : TA} {W : WX}
theorem pe_dfS (D : Df X.K X.mg x st ps f fd) (F : FnOk X.prog X.w X.K X.mg X.base (L2.CX X.prog X.w) k f fd ps sp) (hr : Room k X.A) (tk : Takes X W) (ha : PA X (e :: es) t) (hg : Gl X x := by rfl)
    (hdb : (x == ("__debug__" : Str)) = false := by decide) (he : starEach (e :: es) X.env = (false, eval e X.env) :: starEach es X.env := by rfl) (hpl : (backTo pos (starEach es X.env)).any (·.1) = false := by rfl) :
    PE X (.Call (.Name x p) (e :: es) [] pos) (tCallS sp (WE W) t) :=
  pe_callS F hr hg D.gl D.fn.kp D.bi (fun σ => passAt tk σ) ha hdb he hpl
end
end WW

set_option Elab.async false
set_option linter.all false
set_option maxRecDepth 100000
set_option maxHeartbeats 4000000
/-! the data layer: readings over data instead of the heap -/
namespace WW
open PySem PySem.Spec PyProof.Rows L2
inductive D where
  | non | opq | bl (b : Bool) | int (i : Int) | str (x : Str) | ty (n : String)
  | lst (ds : List D) | tup (ds : List D) | dK (kvs : List (Key × D)) | dT (kvs : List (List Key × D)) | obj (C : Addr) (fs : List (Str × D))
mutual
inductive Rep (K : PySem.W.Frag) (S : Hp) : V → D → Prop
  | non : Rep K S .non .non
  | opq (v : V) : Rep K S v .opq
  | bl (b : Bool) : Rep K S (.bl b) (.bl b)
  | int (i : Int) : Rep K S (.int i) (.int i)
  | str (x : Str) : Rep K S (.str x) (.str x)
  | ty (n : String) : Rep K S (.ty n) (.ty n)
  | lst {a : Addr} {xs : List V} {ds : List D} : S a = some (.lst xs) → RepL K S xs ds → Rep K S (.ref a) (.lst ds)
  | tup {a : Addr} {xs : List V} {ds : List D} : SqT K S a xs → RepL K S xs ds → Rep K S (.ref a) (.tup ds)
  | dK {a : Addr} {kvs : List (Key × V)} {kds : List (Key × D)} : Rd S a (.dK kvs) → kvs.map (·.1) = kds.map (·.1) → RepL K S (kvs.map (·.2)) (kds.map (·.2)) → Rep K S (.ref a) (.dK kds)
  | dT {a : Addr} {kvs : List (List Key × V)} {kds : List (List Key × D)} : Rd S a (.dT kvs) → kvs.map (·.1) = kds.map (·.1) → RepL K S (kvs.map (·.2)) (kds.map (·.2)) → Rep K S (.ref a) (.dT kds)
  | obj {a C dx : Addr} {fs : List (Str × V)} {fds : List (Str × D)} : S a = some (.ins C dx fs) → fs.map (·.1) = fds.map (·.1) → RepL K S (fs.map (·.2)) (fds.map (·.2)) → Rep K S (.ref a) (.obj C fds)
inductive RepL (K : PySem.W.Frag) (S : Hp) : List V → List D → Prop
  | nil : RepL K S [] []
  | cons {v : V} {d : D} {vs : List V} {ds : List D} : Rep K S v d → RepL K S vs ds → RepL K S (v :: vs) (d :: ds)
end
/-- what could be read can be read -/
structure Le (S S' : Hp) : Prop where
  tup : ∀ a xs, Rd S a (.tup xs) → Rd S' a (.tup xs)
  dk : ∀ a kvs, Rd S a (.dK kvs) → Rd S' a (.dK kvs)
  dt : ∀ a kvs, Rd S a (.dT kvs) → Rd S' a (.dT kvs)
  ins : ∀ a C dx fs, S a = some (.ins C dx fs) → S' a = some (.ins C dx fs)
  lst : ∀ a xs, S a = some (.lst xs) → S' a = some (.lst xs)
theorem Same.rd {S S' : Hp} (s : Same S S') {a : Addr} {u : HO} (h : Rd S a u) : Rd S' a u := by
  rcases h with h | ⟨o, h⟩
  · exact .inl (s _ _ h)
  · exact .inr ⟨o, s _ _ h⟩
theorem Same.le {S S' : Hp} (s : Same S S') : Le S S' := ⟨fun _ _ h => Same.rd s h, fun _ _ h => Same.rd s h, fun _ _ h => Same.rd s h, fun a C dx fs h => s _ _ h, fun a xs h => s _ _ h⟩
section
variable {K : PySem.W.Frag} {S S' : Hp}
theorem Le.t (e : Le S S') {a : Addr} {xs : List V} (h : SqT K S a xs) : SqT K S' a xs := h.imp (e.tup _ _) id
theorem rep_mono (e : Le S S') {v : V} {d : D} (h : Rep K S v d) : Rep K S' v d :=
  Rep.rec (motive_1 := fun v d _ => Rep K S' v d) (motive_2 := fun vs ds _ => RepL K S' vs ds) .non (fun v => .opq v) (fun b => .bl b) (fun i => .int i) (fun x => .str x) (fun n => .ty n)
    (fun a _ r => .lst (e.lst _ _ a) r) (fun a _ r => .tup (e.t a) r) (fun a b _ r => .dK (e.dk _ _ a) b r) (fun a b _ r => .dT (e.dt _ _ a) b r) (fun a b _ r => .obj (e.ins _ _ _ _ a) b r) .nil (fun _ _ a b => .cons a b) h
theorem repL_mono (e : Le S S') : ∀ {vs : List V} {ds : List D}, RepL K S vs ds → RepL K S' vs ds
  | _, _, .nil => .nil
  | _, _, .cons a b => .cons (rep_mono e a) (repL_mono e b)
theorem Rep.same (e : Same S S') {v : V} {d : D} (h : Rep K S v d) : Rep K S' v d := rep_mono (Same.le e) h
theorem RepL.same (e : Same S S') {v : List V} {d : List D} (h : RepL K S v d) : RepL K S' v d := repL_mono (Same.le e) h
theorem RepL.len : ∀ {vs : List V} {ds : List D}, RepL K S vs ds → vs.length = ds.length
  | _, _, .nil => rfl
  | _, _, .cons _ b => by rw [List.length_cons, List.length_cons, RepL.len b]
theorem RepL.get : ∀ {vs : List V} {ds : List D} {i : Nat} {v : V}, RepL K S vs ds → vs[i]? = some v → ∃ d, ds[i]? = some d ∧ Rep K S v d
  | _, _, _, _, .nil, e => by simp at e
  | _, _, 0, _, .cons a _, e => by simp at e; subst e; exact ⟨_, rfl, a⟩
  | _, _, i + 1, v, .cons _ b, e => by
    obtain ⟨d, h1, h2⟩ := RepL.get (i := i) (v := v) b (by simpa using e)
    exact ⟨d, by simpa using h1, h2⟩
theorem RepL.getD : ∀ {vs : List V} {ds : List D} {i : Nat} {d : D}, RepL K S vs ds → ds[i]? = some d → ∃ v, vs[i]? = some v ∧ Rep K S v d
  | _, _, _, _, .nil, e => by simp at e
  | _, _, 0, _, .cons a _, e => by simp at e; subst e; exact ⟨_, rfl, a⟩
  | _, _, i + 1, v, .cons _ b, e => by
    obtain ⟨d, h1, h2⟩ := RepL.getD (i := i) (d := v) b (by simpa using e)
    exact ⟨d, by simpa using h1, h2⟩
theorem RepL.append : ∀ {vs ws : List V} {ds es : List D}, RepL K S vs ds → RepL K S ws es → RepL K S (vs ++ ws) (ds ++ es)
  | _, _, _, _, .nil, h => h
  | _, _, _, _, .cons a b, h => .cons a (RepL.append b h)
theorem RepL.snoc {vs : List V} {ds : List D} {v : V} {d : D} (h : RepL K S vs ds) (r : Rep K S v d) : RepL K S (vs ++ [v]) (ds ++ [d]) := h.append (.cons r .nil)
theorem RepL.take : ∀ {vs : List V} {ds : List D} (n : Nat), RepL K S vs ds → RepL K S (vs.take n) (ds.take n)
  | _, _, 0, _ => .nil
  | _, _, _ + 1, .nil => .nil
  | _, _, n + 1, .cons a b => .cons a (RepL.take n b)
theorem RepL.drop : ∀ {vs : List V} {ds : List D} (n : Nat), RepL K S vs ds → RepL K S (vs.drop n) (ds.drop n)
  | _, _, 0, h => h
  | _, _, _ + 1, .nil => .nil
  | _, _, n + 1, .cons _ b => RepL.drop n b
theorem RepL.rev {vs : List V} {ds : List D} (h : RepL K S vs ds) : RepL K S vs.reverse ds.reverse := by
  induction vs generalizing ds with
  | nil => cases h; exact .nil
  | cons v r ih =>
    cases h with
    | cons a b =>
      rw [List.reverse_cons, List.reverse_cons]
      exact (ih b).snoc a
theorem RepL.ofAt {vs : List V} {ds : List D} (hl : vs.length = ds.length) (h : ∀ (i : Nat) v d, vs[i]? = some v → ds[i]? = some d → Rep K S v d) : RepL K S vs ds := by
  induction vs generalizing ds with
  | nil => cases ds with
    | nil => exact .nil
    | cons d r => simp at hl
  | cons v r ih => cases ds with
    | nil => simp at hl
    | cons d rs => exact .cons (h 0 v d rfl rfl) (ih (by simpa using hl) fun i v d h1 h2 => h (i + 1) v d (by simpa using h1) (by simpa using h2))
theorem repL_set {vs : List V} {ds : List D} {i : Nat} {v : V} {d : D} (h : RepL K S vs ds) (r : Rep K S v d) : RepL K S (vs.set i v) (ds.set i d) := by
  induction vs generalizing ds i with
  | nil => cases h; exact .nil
  | cons x xs ih =>
    cases h with
    | cons a b =>
      cases i with
      | zero => exact .cons r b
      | succ n => exact .cons a (ih b)
end
/-- values that need no heap -/
def D.sc : D → Option V
  | .non => some .non
  | .bl b => some (.bl b)
  | .int i => some (.int i)
  | .str x => some (.str x)
  | .ty n => some (.ty n)
  | _ => none
theorem Rep.ofSc {K : PySem.W.Frag} {S : Hp} {d : D} {v : V} (h : d.sc = some v) : Rep K S v d := by
  cases d <;> simp [D.sc] at h <;> subst h <;> constructor
/-! ### worlds -/
structure GrO (o : Option Addr) (S H S' H' : Hp) : Prop where
  st : Same S S'
  rs : ∀ a u, o ≠ some a → H a = some u → H' a = some u
  fr : ∀ a, S a = none → H a ≠ none → S' a = none
  ex : ∀ a, H a ≠ none → H' a ≠ none
def Wl (o : Option Addr) (S H : Hp) : Prop := Same S H ∧ ∀ p, o = some p → Pool S H p
def Kp (o : Option Addr) (H0 H : Hp) : Prop := ∀ a u, o ≠ some a → H0 a = some u → H a = some u
section
variable {o : Option Addr} {S H S1 H1 S2 H2 H0 : Hp} {a : Addr} {u : HO}
theorem GrO.refl : GrO o S H S H := ⟨Same.refl _, fun _ _ _ h => h, fun _ h _ => h, fun _ h => h⟩
theorem GrO.trans (a : GrO o S H S1 H1) (b : GrO o S1 H1 S2 H2) : GrO o S H S2 H2 :=
  ⟨a.st.trans b.st, fun c u n h => b.rs c u n (a.rs c u n h), fun c h1 h2 => b.fr c (a.fr c h1 h2) (a.ex c h2), fun c h => b.ex c (a.ex c h)⟩
theorem GrO.bk (g : GrO o S H S1 H1) (h : H1 a = none) : H a = none := by
  cases q : H a with
  | none => rfl
  | some u => exact absurd h (g.ex a (by rw [q]; intro z; cases z))
theorem ne_none {H : Hp} {a : Addr} {u : HO} (h : H a = some u) : H a ≠ none := by rw [h]; intro z; cases z
theorem GrO.same (s : Same H H1) : GrO o S H S H1 := ⟨Same.refl _, fun a u _ h => s a u h, fun _ h _ => h, fun a h => by
  cases q : H a with
  | none => exact absurd q h
  | some u => exact ne_none (s a u q)⟩
theorem GrO.kp (g : GrO o S H S1 H1) (k : Kp o H0 H) : Kp o H0 H1 := fun a u n h => g.rs a u n (k a u n h)
/-- a new stable object -/
theorem GrO.new (w : Wl o S H) (n : H a = none) : GrO o S H (upd S a u) (upd H a u) := by
  have ns : S a = none := w.1.free n
  refine ⟨same_upd ns, fun b x _ h => (upd_ne (ne_of_none h n)).trans h, fun b h1 h2 => ?_, fun b h => ?_⟩
  · rw [upd_ne (fun q => h2 (by rw [q]; exact n))]
    exact h1
  · rw [upd_ne (fun q => h (by rw [q]; exact n))]
    exact h
/-- a new object, not stable -/
theorem GrO.lay (n : H a = none) : GrO o S H S (upd H a u) := GrO.same (same_upd n)
/-- what is not of H becomes stable -/
theorem GrO.fix (g : GrO o S H S1 H1) (n : H a = none) (h : S1 a = none) : GrO o S H (upd S1 a u) H1 :=
  ⟨g.st.trans (same_upd h), g.rs, fun b h1 h2 => by
    rw [upd_ne (fun q => h2 (by rw [q]; exact n))]
    exact g.fr b h1 h2, g.ex⟩
theorem GrO.put (g : GrO o S H S1 H1) (n : H a = none) : GrO o S H S1 (upd H1 a u) :=
  ⟨g.st, fun b x nb h => (upd_ne (ne_of_none h n)).trans (g.rs b x nb h), g.fr, fun b h => by
    rw [upd_ne (fun q => h (by rw [q]; exact n))]
    exact g.ex b h⟩
theorem Wl.new (w : Wl o S H) (n : H a = none) : Wl o (upd S a u) (upd H a u) := ⟨same_new w.1, fun p e => (w.2 p e).new n⟩
theorem Wl.put (w : Wl o S H) (n : S a = none) (np : o ≠ some a) : Wl o S (upd H a u) := ⟨same_put w.1 n, fun p e => (w.2 p e).put n fun z => np (by rw [e, z])⟩
theorem Wl.fix (w : Wl o S H) (h : H a = some u) (n : S a = none) (np : o ≠ some a) : Wl o (upd S a u) H := ⟨same_fix w.1 h, fun p e => (w.2 p e).fix h n fun z => np (by rw [e, z])⟩
theorem Wl.same (w : Wl o S H) (s : Same H H1) : Wl o S H1 := ⟨w.1.trans s, fun p e => (w.2 p e).same s⟩
theorem Wl.np (w : Wl o S H) (n : H a = none) : o ≠ some a := fun e => (w.2 a e).has n
theorem GrO.gr {p : Addr} (g : GrO (some p) S H S1 H1) : Gr p S H S1 H1 := ⟨g.st, fun a u n h => g.rs a u (fun e => n (Option.some.inj e).symm) h, g.fr, g.ex⟩
theorem GrO.of {p : Addr} (g : Gr p S H S1 H1) : GrO (some p) S H S1 H1 := ⟨g.st, fun a u n h => g.rs a u (fun e => n (by rw [e])) h, g.fr, g.ex⟩
/-- nothing changed but the pool's own heap stays -/
theorem GrO.wide (g : GrO none S H S1 H1) : GrO o S H S1 H1 := ⟨g.st, fun a u _ h => g.rs a u (fun z => by cases z) h, g.fr, g.ex⟩
end
/-! ### what a slot holds -/
/-- an exception that comes -/
structure Exn (K : PySem.W.Frag) (S H : Hp) (dd : Addr) (fs : List (Str × D)) : Prop where
  at_ : ∃ fv : List (Str × V), H dd = some (.xd fv) ∧ fv.map (·.1) = fs.map (·.1) ∧ RepL K S (fv.map (·.2)) (fs.map (·.2))
inductive B where
  /-- stable data | an own object | data that is only read here | the pool -/
  | st (d : D) | ow (a : Addr) (d : D) | br (d : D) | pool
  /-- a caught exception -/
  | xn (a : Addr) (cls : Value) (d : Option Addr) (C : Addr) (fs : List (Str × D))
def B.get : B → D
  | .st d => d
  | .ow _ d => d
  | .br d => d
  | .pool => .opq
  | .xn _ _ _ _ _ => .opq
/-- a part of it -/
def B.sub : B → D → B
  | .br _, d => .br d
  | _, d => .st d
inductive Top (K : PySem.W.Frag) (S : Hp) : Option HO → D → Prop
  | lst {xs : List V} {ds : List D} : RepL K S xs ds → Top K S (some (.lst xs)) (.lst ds)
  | dK {kvs : List (Key × V)} {kds : List (Key × D)} : kvs.map (·.1) = kds.map (·.1) → RepL K S (kvs.map (·.2)) (kds.map (·.2)) → Top K S (some (.dK kvs)) (.dK kds)
  | dT {kvs : List (List Key × V)} {kds : List (List Key × D)} : kvs.map (·.1) = kds.map (·.1) → RepL K S (kvs.map (·.2)) (kds.map (·.2)) → Top K S (some (.dT kvs)) (.dT kds)
  | ins {C dx : Addr} {fs : List (Str × V)} {fds : List (Str × D)} : fs.map (·.1) = fds.map (·.1) → RepL K S (fs.map (·.2)) (fds.map (·.2)) → Top K S (some (.ins C dx fs)) (.obj C fds)
def offp (o : Option Addr) (H : Hp) : Hp := fun a => if o = some a then none else H a
def BR (K : PySem.W.Frag) (o : Option Addr) (H0 S H : Hp) (v : V) : B → Prop
  | .st d => Rep K S v d
  | .ow a d => v = .ref a ∧ S a = none ∧ o ≠ some a ∧ Top K S (H a) d
  | .br d => Rep K (offp o H0) v d
  | .pool => ∃ p, o = some p ∧ v = .ref p
  | .xn a cls d C fs => v = .ref a ∧ cls = .ref C ∧ ∃ dd, d = some dd ∧ o ≠ some dd ∧ Exn K S H dd fs
section
variable {K : PySem.W.Frag} {o : Option Addr} {H0 S H S1 H1 : Hp} {v : V} {b : B} {d : D} {a : Addr}
theorem off_same (k : Kp o H0 H) : Same (offp o H0) H := fun a u h => by
  unfold offp at h
  split at h
  · cases h
  · exact k a u (by assumption) h
theorem Top.le (e : Le S S1) {x : Option HO} {d : D} (h : Top K S x d) : Top K S1 x d := by
  cases h with
  | lst r => exact .lst (repL_mono e r)
  | dK a r => exact .dK a (repL_mono e r)
  | dT a r => exact .dT a (repL_mono e r)
  | ins a r => exact .ins a (repL_mono e r)
theorem Top.mono (e : Same S S1) {x : Option HO} {d : D} (h : Top K S x d) : Top K S1 x d := Top.le (Same.le e) h
theorem Top.rep (e : Same S H) {x : Option HO} {d : D} (h : Top K S x d) (q : H a = x) : Rep K H (.ref a) d := by
  cases h with
  | lst r => exact .lst q (RepL.same e r)
  | dK z r => exact .dK (Rd.of q) z (RepL.same e r)
  | dT z r => exact .dT (Rd.of q) z (RepL.same e r)
  | ins z r => exact .obj q z (RepL.same e r)
theorem Top.some {x : Option HO} {d : D} (h : Top K S x d) : ∃ u, x = some u := by
  cases h <;> exact ⟨_, rfl⟩
theorem BR.mono (g : GrO o S H S1 H1) (h : BR K o H0 S H v b) : BR K o H0 S1 H1 v b := by
  cases b with
  | st d => exact Rep.same g.st h
  | ow a d =>
    obtain ⟨e, n, np, t⟩ := h
    obtain ⟨u, hu⟩ := t.some
    refine ⟨e, g.fr a n (ne_none hu), np, ?_⟩
    rw [g.rs a u np hu, ← hu]
    exact t.mono g.st
  | br d => exact h
  | pool => exact h
  | xn a cls d C fs =>
    obtain ⟨e1, e2, dd, e3, np, ⟨fv, x1, x2, x3⟩⟩ := h
    exact ⟨e1, e2, dd, e3, np, ⟨fv, g.rs dd _ np x1, x2, RepL.same g.st x3⟩⟩
/-- what it is now -/
theorem BR.now (w : Wl o S H) (k : Kp o H0 H) (h : BR K o H0 S H v b) : Rep K H v b.get := by
  cases b with
  | st d => exact Rep.same w.1 h
  | ow a d =>
    obtain ⟨rfl, n, np, t⟩ := h
    exact t.rep w.1 rfl
  | br d => exact Rep.same (off_same k) h
  | pool => exact .opq _
  | xn a cls d C fs => exact .opq _
theorem BR.ofSc (h : d.sc = Option.some v) : BR K o H0 S H v (.st d) := Rep.ofSc h
end
abbrev AEnv := List (Option B)
abbrev AX0 := Addr → List (Str × D) → Prop
abbrev AX := AEnv → AX0
abbrev AE := AX → AEnv → (B → Prop) → Prop
abbrev AN := AX → AEnv → (D → Prop) → Prop
abbrev AT := AX → AEnv → (Bool → Prop) → Prop
abbrev AA := AX → AEnv → (List B → Prop) → Prop
structure AEnds where
  nx : AEnv → Prop
  rt : D → Prop
  rn : D → Prop
  bk : AEnv → Prop
  ct : AEnv → Prop
  ax : AX
abbrev AS := AEnds → AEnv → Prop
def slot : AEnv → Nat → Option B
  | [], _ => none
  | x :: _, 0 => x
  | _ :: r, n + 1 => slot r n
theorem slot_eq : ∀ (env : AEnv) (i : Nat), slot env i = env[i]?.join
  | [], _ => rfl
  | x :: _, 0 => rfl
  | _ :: r, n + 1 => slot_eq r n
theorem slot_set {env : AEnv} {i j : Nat} {x : Option B} : slot (env.set i x) j = if i = j ∧ i < env.length then x else slot env j := by
  rw [slot_eq, slot_eq, List.getElem?_set]
  by_cases h : i = j
  · subst h
    by_cases h2 : i < env.length
    · simp [h2]
    · simp [h2]
  · simp [h]
structure ES (K : PySem.W.Frag) (o : Option Addr) (H0 S H : Hp) (σ : L2.St) (env : AEnv) : Prop where
  wl : Wl o S H
  kp : Kp o H0 H
  len : σ.length = env.length
  sl : ∀ i b, slot env i = some b → ∃ v, σ[i]? = some (some v) ∧ BR K o H0 S H v b
def XL (K : PySem.W.Frag) (W : WX) (o : Option Addr) (S H : Hp) (σ : L2.St) (env : AEnv) (ax : AX) : Prop :=
  ∀ C fs dd S' H', GrO o S H S' H' → Wl o S' H' → H dd = none → Exn K S' H' dd fs → ax env C fs → W (.ref C) (some dd) σ H'
section
variable (K : PySem.W.Frag) (W : WX)
def EA (te : TE) (ae : AE) : Prop := ∀ o H0 S H σ env ax Q Qc, ES K o H0 S H σ env → ae ax env Q →
  (∀ v b S' H', GrO o S H S' H' → Wl o S' H' → BR K o H0 S' H' v b → Q b → Qc v H') → XL K W o S H σ env ax → te σ H Qc
/-- a new object -/
def EN (te : TE) (an : AN) : Prop := ∀ o H0 S H σ env ax Q Qc, ES K o H0 S H σ env → an ax env Q →
  (∀ a d S' H', GrO o S H S' H' → Wl o S' H' → H a = none → S' a = none → Top K S' (H' a) d → Q d → Qc (.ref a) H') → XL K W o S H σ env ax → te σ H Qc
def ET (tt : TT) (at_ : AT) : Prop := ∀ o H0 S H σ env ax Q Qc, ES K o H0 S H σ env → at_ ax env Q →
  (∀ b S' H', GrO o S H S' H' → Wl o S' H' → Q b → Qc b H') → XL K W o S H σ env ax → tt σ H Qc
def EL (n : Nat) (ta : TA) (aa : AA) : Prop := ∀ o H0 S H σ env ax Q Qc, ES K o H0 S H σ env → aa ax env Q →
  (∀ vs bs S' H', GrO o S H S' H' → Wl o S' H' → Paired (BR K o H0 S' H') vs bs → bs.length = n → Q bs → Qc vs H') → XL K W o S H σ env ax → ta σ H Qc
end
section
variable {K : PySem.W.Frag} {W : WX} {o : Option Addr} {H0 S H S1 H1 S2 H2 : Hp} {σ : L2.St} {env : AEnv} {ax : AX}
theorem ES.mono (e : ES K o H0 S H σ env) (g : GrO o S H S1 H1) (w : Wl o S1 H1) : ES K o H0 S1 H1 σ env :=
  ⟨w, g.kp e.kp, e.len, fun i b h => let ⟨v, h1, h2⟩ := e.sl i b h; ⟨v, h1, h2.mono g⟩⟩
theorem XL.mono (x : XL K W o S H σ env ax) (g : GrO o S H S1 H1) : XL K W o S1 H1 σ env ax := fun C fs dd S' H' g' w' n e a => x C fs dd S' H' (g.trans g') w' (g.bk n) e a
theorem pairBR_mono (g : GrO o S H S1 H1) {vs : List V} {bs : List B} (h : Paired (BR K o H0 S H) vs bs) : Paired (BR K o H0 S1 H1) vs bs := L2.Paired.mapP h fun _ _ q => q.mono g
theorem EN.ea {te : TE} {an : AN} (h : EN K W te an) : EA K W te (fun ax env Q => an ax env fun d => Q (.st d)) := fun o H0 S H σ env ax Q Qc es q k xl =>
  h o H0 S H σ env ax _ Qc es q (fun a d S' H' g w n ns t q' => by
    obtain ⟨u, hu⟩ := t.some
    have np := (es.wl).np n
    refine k (.ref a) (.st d) (upd S' a u) H' (g.fix n ns) (w.fix hu ns np) ?_ q'
    have : Same S' (upd S' a u) := same_upd ns
    exact (t.mono this).rep (Same.refl _) (by rw [upd_same, hu])) xl
end
/-! ### names, constants, operators -/
def aVar (i : Nat) (ax : AX) (env : AEnv) (Q : B → Prop) : Prop := match slot env i with
  | some b => Q b
  | none => False
def aC (d : D) (ax : AX) (env : AEnv) (Q : B → Prop) : Prop := Q (.st d)
def aOp (f : D → D → (D → Prop) → Prop) (a b : AE) (ax : AX) (env : AEnv) (Q : B → Prop) : Prop := a ax env fun x => b ax env fun y => f x.get y.get fun d => Q (.st d)
def ifB (b : Bool) (x y : Prop) : Prop := match b with
  | true => x
  | false => y
theorem ifB_t {x y : Prop} : ifB true x y = x := rfl
theorem ifB_f {x y : Prop} : ifB false x y = y := rfl
theorem ifB_both {b : Bool} {x y : Prop} (h1 : b = true → x) (h2 : b = false → y) : ifB b x y := by
  cases b with
  | true => exact h1 rfl
  | false => exact h2 rfl
theorem ifB_dec {p : Prop} [Decidable p] {x y : Prop} (h1 : p → x) (h2 : ¬ p → y) : ifB (decide p) x y := ifB_both (fun h => h1 (of_decide_eq_true h)) (fun h => h2 (of_decide_eq_false h))
theorem ifB_ite {b : Bool} {x y : Prop} : ifB b x y = if b = true then x else y := by cases b <;> simp [ifB]
section
variable {K : PySem.W.Frag} {W : WX} {ta tb tc te : TE} {aa ab ac ae : AE} {t u : TT} {ct cu : AT} {r r' : R2}
theorem ea_var (i : Nat) : EA K W (tVar i) (aVar i) := fun o H0 S H σ env ax Q Qc es q k xl => by
  unfold aVar at q
  split at q
  · rename_i b hb
    obtain ⟨v, h1, h2⟩ := es.sl i b hb
    exact ⟨v, h1, k v b S H GrO.refl es.wl h2 q⟩
  · exact q.elim
theorem ea_c {d : D} {v : V} (h : d.sc = some v := by rfl) : EA K W (tC v) (aC d) := fun o H0 S H σ env ax Q Qc es q k xl => k v (.st d) S H GrO.refl es.wl (.ofSc h) q
/-- two operands, a value that needs no heap -/
def R2S (K : PySem.W.Frag) (r : R2) (f : D → D → (D → Prop) → Prop) : Prop := ∀ H x y dx dy Q Qc, Rep K H x dx → Rep K H y dy → f dx dy Q → (∀ d v, d.sc = some v → Q d → Qc v H) → r x y H Qc
theorem ea_op {f : D → D → (D → Prop) → Prop} (hr : R2S K r f) (ha : EA K W ta aa) (hb : EA K W tb ab) : EA K W (tOp r ta tb) (aOp f aa ab) := fun o H0 S H σ env ax Q Qc es q k xl =>
  ha o H0 S H σ env ax _ _ es q (fun v b S1 H1 g1 w1 r1 q1 =>
    hb o H0 S1 H1 σ env ax _ _ (es.mono g1 w1) q1 (fun v2 b2 S2 H2 g2 w2 r2 q2 =>
      hr H2 v v2 _ _ _ _ ((r1.mono g2).now w2 ((g1.trans g2).kp es.kp)) (r2.now w2 ((g1.trans g2).kp es.kp)) q2 fun d v hd q3 => k v (.st d) S2 H2 (g1.trans g2) w2 (.ofSc hd) q3) (xl.mono g1)) xl
def aTest (a : AE) (ax : AX) (env : AEnv) (Q : Bool → Prop) : Prop := a ax env fun x => match x.get with
  | .bl b => Q b
  | _ => False
theorem rep_bl {H : Hp} {v : V} {b : Bool} (h : Rep K H v (.bl b)) : v = .bl b := by cases h; rfl
theorem rep_int {H : Hp} {v : V} {i : Int} (h : Rep K H v (.int i)) : v = .int i := by cases h; rfl
theorem rep_str {H : Hp} {v : V} {i : Str} (h : Rep K H v (.str i)) : v = .str i := by cases h; rfl
theorem rep_non {H : Hp} {v : V} (h : Rep K H v .non) : v = .non := by cases h; rfl
theorem rep_lst {H : Hp} {v : V} {ds : List D} (h : Rep K H v (.lst ds)) : ∃ a xs, v = .ref a ∧ H a = some (.lst xs) ∧ RepL K H xs ds := by
  cases h with
  | lst a b => exact ⟨_, _, rfl, a, b⟩
theorem rep_tup {H : Hp} {v : V} {ds : List D} (h : Rep K H v (.tup ds)) : ∃ a xs, v = .ref a ∧ SqT K H a xs ∧ RepL K H xs ds := by
  cases h with
  | tup a b => exact ⟨_, _, rfl, a, b⟩
theorem rep_dK {H : Hp} {v : V} {ds : List (Key × D)} (h : Rep K H v (.dK ds)) : ∃ a kvs, v = .ref a ∧ Rd H a (.dK kvs) ∧ kvs.map (·.1) = ds.map (·.1) ∧ RepL K H (kvs.map (·.2)) (ds.map (·.2)) := by
  cases h with
  | dK a b c => exact ⟨_, _, rfl, a, b, c⟩
theorem rep_obj {H : Hp} {v : V} {C : Addr} {ds : List (Str × D)} (h : Rep K H v (.obj C ds)) : ∃ a dx fs, v = .ref a ∧ H a = some (.ins C dx fs) ∧ fs.map (·.1) = ds.map (·.1) ∧ RepL K H (fs.map (·.2)) (ds.map (·.2)) := by
  cases h with
  | obj a b c => exact ⟨_, _, _, rfl, a, b, c⟩
theorem et_test (h : EA K W te ae) : ET K W (tTest te) (aTest ae) := fun o H0 S H σ env ax Q Qc es q k xl =>
  h o H0 S H σ env ax _ _ es q (fun v b S1 H1 g1 w1 r1 q1 => by
    have rn := r1.now w1 (g1.kp es.kp)
    cases hb : b.get with
    | bl c =>
      rw [hb] at rn q1
      exact ⟨c, rep_bl rn, k c S1 H1 g1 w1 q1⟩
    | _ => rw [hb] at q1; exact q1.elim) xl
theorem et_B (h : EA K W te ae) : ET K W (tB te) (aTest ae) := et_test h
def aAnd (a b : AT) (ax : AX) (env : AEnv) (Q : Bool → Prop) : Prop := a ax env fun c => ifB c (b ax env Q) (Q false)
def aOr (a b : AT) (ax : AX) (env : AEnv) (Q : Bool → Prop) : Prop := a ax env fun c => ifB c (Q true) (b ax env Q)
def aNot (a : AT) (ax : AX) (env : AEnv) (Q : Bool → Prop) : Prop := a ax env fun c => Q (!c)
theorem et_and (h1 : ET K W t ct) (h2 : ET K W u cu) : ET K W (tAnd t u) (aAnd ct cu) := fun o H0 S H σ env ax Q Qc es q k xl =>
  h1 o H0 S H σ env ax _ _ es q (fun c S1 H1 g1 w1 q1 => by
    cases c with
    | true => exact h2 o H0 S1 H1 σ env ax Q _ (es.mono g1 w1) q1 (fun b S2 H2 g2 w2 q2 => k b S2 H2 (g1.trans g2) w2 q2) (xl.mono g1)
    | false => exact k false S1 H1 g1 w1 q1) xl
theorem et_or (h1 : ET K W t ct) (h2 : ET K W u cu) : ET K W (tOr t u) (aOr ct cu) := fun o H0 S H σ env ax Q Qc es q k xl =>
  h1 o H0 S H σ env ax _ _ es q (fun c S1 H1 g1 w1 q1 => by
    cases c with
    | false => exact h2 o H0 S1 H1 σ env ax Q _ (es.mono g1 w1) q1 (fun b S2 H2 g2 w2 q2 => k b S2 H2 (g1.trans g2) w2 q2) (xl.mono g1)
    | true => exact k true S1 H1 g1 w1 q1) xl
theorem et_not (h1 : ET K W t ct) : ET K W (tNot t) (aNot ct) := fun o H0 S H σ env ax Q Qc es q k xl =>
  h1 o H0 S H σ env ax _ _ es q (fun c S1 H1 g1 w1 q1 => k _ S1 H1 g1 w1 q1) xl
/-- and, or, not as values (bools) -/
def aAndV (a b : AE) (ax : AX) (env : AEnv) (Q : B → Prop) : Prop := a ax env fun x => match x.get with
  | .bl c => ifB c (b ax env Q) (Q (.st (.bl false)))
  | _ => False
def aOrV (a b : AE) (ax : AX) (env : AEnv) (Q : B → Prop) : Prop := a ax env fun x => match x.get with
  | .bl c => ifB c (Q (.st (.bl true))) (b ax env Q)
  | _ => False
def aNotV (a : AE) (ax : AX) (env : AEnv) (Q : B → Prop) : Prop := a ax env fun x => match x.get with
  | .bl c => Q (.st (.bl (!c)))
  | _ => False
theorem ea_and (ha : EA K W ta aa) (hb : EA K W tb ab) : EA K W (tAndV ta tb) (aAndV aa ab) := fun o H0 S H σ env ax Q Qc es q k xl =>
  ha o H0 S H σ env ax _ _ es q (fun v b S1 H1 g1 w1 r1 q1 => by
    have rn := r1.now w1 (g1.kp es.kp)
    cases hb' : b.get with
    | bl c =>
      rw [hb'] at rn q1
      refine ⟨c, rep_bl rn, ?_⟩
      cases c with
      | true => exact hb o H0 S1 H1 σ env ax Q _ (es.mono g1 w1) q1 (fun v b S2 H2 g2 w2 r2 q2 => k v b S2 H2 (g1.trans g2) w2 r2 q2) (xl.mono g1)
      | false => exact k _ (.st (.bl false)) S1 H1 g1 w1 (BR.ofSc rfl) q1
    | _ => rw [hb'] at q1; exact q1.elim) xl
theorem ea_or (ha : EA K W ta aa) (hb : EA K W tb ab) : EA K W (tOrV ta tb) (aOrV aa ab) := fun o H0 S H σ env ax Q Qc es q k xl =>
  ha o H0 S H σ env ax _ _ es q (fun v b S1 H1 g1 w1 r1 q1 => by
    have rn := r1.now w1 (g1.kp es.kp)
    cases hb' : b.get with
    | bl c =>
      rw [hb'] at rn q1
      refine ⟨c, rep_bl rn, ?_⟩
      cases c with
      | false => exact hb o H0 S1 H1 σ env ax Q _ (es.mono g1 w1) q1 (fun v b S2 H2 g2 w2 r2 q2 => k v b S2 H2 (g1.trans g2) w2 r2 q2) (xl.mono g1)
      | true => exact k _ (.st (.bl true)) S1 H1 g1 w1 (BR.ofSc rfl) q1
    | _ => rw [hb'] at q1; exact q1.elim) xl
theorem ea_notV (ha : EA K W ta aa) : EA K W (tNotV ta) (aNotV aa) := fun o H0 S H σ env ax Q Qc es q k xl =>
  ha o H0 S H σ env ax _ _ es q (fun v b S1 H1 g1 w1 r1 q1 => by
    have rn := r1.now w1 (g1.kp es.kp)
    cases hb' : b.get with
    | bl c =>
      rw [hb'] at rn q1
      exact ⟨c, rep_bl rn, k _ (.st (.bl (!c))) S1 H1 g1 w1 (BR.ofSc rfl) q1⟩
    | _ => rw [hb'] at q1; exact q1.elim) xl
def aIfE (c : AT) (a b : AE) (ax : AX) (env : AEnv) (Q : B → Prop) : Prop := c ax env fun z => ifB z (a ax env Q) (b ax env Q)
theorem ea_ifE (hc : ET K W t ct) (ha : EA K W ta aa) (hb : EA K W tb ab) : EA K W (tIf t ta tb) (aIfE ct aa ab) := fun o H0 S H σ env ax Q Qc es q k xl =>
  hc o H0 S H σ env ax _ _ es q (fun c S1 H1 g1 w1 q1 => by
    cases c with
    | true => exact ha o H0 S1 H1 σ env ax Q _ (es.mono g1 w1) q1 (fun v b S2 H2 g2 w2 r2 q2 => k v b S2 H2 (g1.trans g2) w2 r2 q2) (xl.mono g1)
    | false => exact hb o H0 S1 H1 σ env ax Q _ (es.mono g1 w1) q1 (fun v b S2 H2 g2 w2 r2 q2 => k v b S2 H2 (g1.trans g2) w2 r2 q2) (xl.mono g1)) xl
def aChain (f f' : D → D → (D → Prop) → Prop) (a b c : AE) (ax : AX) (env : AEnv) (Q : B → Prop) : Prop := a ax env fun x => b ax env fun y => f x.get y.get fun z => match z with
  | .bl k => ifB k (c ax env fun z => f' y.get z.get fun d => Q (.st d)) (Q (.st (.bl false)))
  | _ => False
/-! ### lists of expressions -/
def aNil (ax : AX) (env : AEnv) (Q : List B → Prop) : Prop := Q []
def aCons (a : AE) (r : AA) (ax : AX) (env : AEnv) (Q : List B → Prop) : Prop := a ax env fun x => r ax env fun xs => Q (x :: xs)
theorem el_nil : EL K W 0 tNil aNil := fun o H0 S H σ env ax Q Qc es q k xl => k [] [] S H GrO.refl es.wl .nil rfl q
theorem el_cons {n : Nat} {tr : TA} {ar : AA} (ha : EA K W ta aa) (hr : EL K W n tr ar) : EL K W (n + 1) (tCons ta tr) (aCons aa ar) := fun o H0 S H σ env ax Q Qc es q k xl =>
  ha o H0 S H σ env ax _ _ es q (fun v b S1 H1 g1 w1 r1 q1 =>
    hr o H0 S1 H1 σ env ax _ _ (es.mono g1 w1) q1 (fun vs bs S2 H2 g2 w2 r2 hn q2 => k (v :: vs) (b :: bs) S2 H2 (g1.trans g2) w2 (.cons (r1.mono g2) r2) (by rw [List.length_cons, hn]) q2) (xl.mono g1)) xl
end
end WW

set_option Elab.async false
set_option linter.all false
set_option maxRecDepth 100000
set_option maxHeartbeats 4000000
namespace WW
open PySem PySem.Spec PyProof.Rows L2
/-! ### statements -/
structure ST (K : PySem.W.Frag) (o : Option Addr) (S0 H0 S H : Hp) (σ : L2.St) (env : AEnv) : Prop where
  gr : GrO o S0 H0 S H
  es : ES K o H0 S H σ env
  fresh : ∀ i a d, slot env i = some (.ow a d) → H0 a = none
  dist : ∀ i j a d d', slot env i = some (.ow a d) → slot env j = some (.ow a d') → i = j
structure Lk (K : PySem.W.Frag) (W : WX) (o : Option Addr) (S0 H0 : Hp) (E : AEnds) (Dc : Ends) : Prop where
  nx : ∀ σ env S H, ST K o S0 H0 S H σ env → E.nx env → Dc.nx σ H
  bk : ∀ σ env S H, ST K o S0 H0 S H σ env → E.bk env → Dc.bk σ H
  ct : ∀ σ env S H, ST K o S0 H0 S H σ env → E.ct env → Dc.ct σ H
  rt : ∀ v d S H, GrO o S0 H0 S H → Wl o S H → Rep K S v d → E.rt d → Dc.rt v H
  rn : ∀ a d S H, GrO o S0 H0 S H → Wl o S H → H0 a = none → S a = none → Top K S (H a) d → E.rn d → Dc.rt (.ref a) H
  ex : ∀ σ env C fs dd S H, ST K o S0 H0 S H σ env → H0 dd = none → Exn K S H dd fs → E.ax env C fs → W (.ref C) (some dd) σ H
def SA (K : PySem.W.Frag) (W : WX) (ts : TS) (as : AS) : Prop := ∀ o S0 H0 S H σ env E Dc, ST K o S0 H0 S H σ env → Lk K W o S0 H0 E Dc → as E env → ts Dc σ H
/-- stored at js alone -/
def Stored (js : List Nat) (σ σ' : L2.St) : Prop := σ'.length = σ.length ∧ ∀ i, i ∉ js → σ'[i]? = σ[i]?
theorem Stored.refl {js : List Nat} {σ : L2.St} : Stored js σ σ := ⟨rfl, fun _ _ => rfl⟩
theorem Stored.trans {js : List Nat} {σ σ1 σ2 : L2.St} (a : Stored js σ σ1) (b : Stored js σ1 σ2) : Stored js σ σ2 := ⟨b.1.trans a.1, fun i h => (b.2 i h).trans (a.2 i h)⟩
theorem Stored.set {js : List Nat} {σ : L2.St} {i : Nat} {v : Option V} (h : i ∈ js) : Stored js σ (σ.set i v) := ⟨List.length_set, fun j hj => by
  rw [List.getElem?_set_ne]
  intro e
  rw [e] at h
  exact hj h⟩
theorem wipe_at (σ : L2.St) : ∀ (vs : List Nat) (i : Nat), (wipe σ vs)[i]? = if i ∈ vs ∧ i < σ.length then some none else σ[i]?
  | [], i => by simp [wipe]
  | v :: vs, i => by
    unfold wipe
    rw [List.getElem?_set, wipe_at σ vs i, wipe_length]
    by_cases h : v = i
    · subst h
      by_cases h2 : v < σ.length
      · simp [h2]
      · simp [h2]
    · have h' : ¬ i = v := fun e => h e.symm
      simp [h, h']
theorem wipe_stored {js vs : List Nat} {σ σ' : L2.St} (hj : ∀ j ∈ js, j ∈ vs) (h : Stored js (wipe σ vs) σ') : wipe σ' vs = wipe σ vs := by
  apply List.ext_getElem?
  intro i
  have hl : σ'.length = σ.length := by rw [h.1, wipe_length]
  rw [wipe_at, wipe_at, hl]
  by_cases hi : i ∈ vs
  · by_cases h2 : i < σ.length
    · simp [hi, h2]
    · simp only [h2, and_false, if_false]
      rw [List.getElem?_eq_none (by omega), List.getElem?_eq_none (by omega)]
  · simp only [hi, false_and, if_false]
    rw [h.2 i (fun z => hi (hj i z)), wipe_at]
    simp [hi]
def awipe (env : AEnv) : List Nat → AEnv
  | [] => env
  | v :: vs => (awipe env vs).set v none
section
variable {K : PySem.W.Frag} {W : WX} {o : Option Addr} {S0 H0 S H S1 H1 S2 H2 : Hp} {σ : L2.St} {env : AEnv} {ax : AX} {E : AEnds} {Dc : Ends} {v : V} {b : B}
theorem ST.mono (t : ST K o S0 H0 S H σ env) (g : GrO o S H S1 H1) (w : Wl o S1 H1) : ST K o S0 H0 S1 H1 σ env := ⟨t.gr.trans g, t.es.mono g w, t.fresh, t.dist⟩
theorem Lk.xl (l : Lk K W o S0 H0 E Dc) (t : ST K o S0 H0 S H σ env) : XL K W o S H σ env E.ax := fun C fs dd S' H' g' w n e a => l.ex σ env C fs dd S' H' (t.mono g' w) (t.gr.bk n) e a
theorem ES.set (e : ES K o H0 S H σ env) (i : Nat) (r : BR K o H0 S H v b) : ES K o H0 S H (σ.set i (some v)) (env.set i (some b)) := by
  refine ⟨e.wl, e.kp, by rw [List.length_set, List.length_set, e.len], fun j c h => ?_⟩
  rw [slot_set] at h
  by_cases q : i = j ∧ i < env.length
  · rw [if_pos q] at h
    cases h
    refine ⟨v, ?_, r⟩
    rw [← q.1, List.getElem?_set_self (by rw [e.len]; exact q.2)]
  · rw [if_neg q] at h
    obtain ⟨x, h1, h2⟩ := e.sl j c h
    refine ⟨x, ?_, h2⟩
    rw [List.getElem?_set]
    by_cases q1 : i = j
    · exfalso
      have : j < σ.length := (List.getElem?_eq_some_iff.mp h1).1
      exact q ⟨q1, by rw [← e.len, q1]; exact this⟩
    · rw [if_neg q1]
      exact h1
theorem ES.wipe (e : ES K o H0 S H σ env) : ∀ vs, ES K o H0 S H (wipe σ vs) (awipe env vs)
  | [] => e
  | i :: vs => by
    have e := e.wipe vs
    refine ⟨e.wl, e.kp, by show ((L2.wipe σ vs).set i none).length = ((WW.awipe env vs).set i none).length; rw [List.length_set, List.length_set]; exact e.len, fun j c h => ?_⟩
    have h : slot ((WW.awipe env vs).set i none) j = some c := h
    rw [slot_set] at h
    by_cases q : i = j ∧ i < (WW.awipe env vs).length
    · rw [if_pos q] at h
      cases h
    · rw [if_neg q] at h
      obtain ⟨x, h1, h2⟩ := e.sl j c h
      refine ⟨x, ?_, h2⟩
      show ((L2.wipe σ vs).set i none)[j]? = some (some x)
      rw [List.getElem?_set]
      by_cases q1 : i = j
      · exfalso
        have : j < (L2.wipe σ vs).length := (List.getElem?_eq_some_iff.mp h1).1
        exact q ⟨q1, by rw [← e.len, q1]; exact this⟩
      · rw [if_neg q1]
        exact h1
def B.isOw : B → Bool
  | .ow _ _ => true
  | _ => false
theorem ow_set {i : Nat} (h : b.isOw = false) {j : Nat} {a : Addr} {d : D} (q : slot (env.set i (some b)) j = some (.ow a d)) : slot env j = some (.ow a d) := by
  rw [slot_set] at q
  split at q
  · cases q
    cases h
  · exact q
theorem ST.upd (t : ST K o S0 H0 S H σ env) {σ' : L2.St} {env' : AEnv} (e : ES K o H0 S H σ' env') (h : ∀ i a d, slot env' i = some (.ow a d) → slot env i = some (.ow a d)) : ST K o S0 H0 S H σ' env' :=
  ⟨t.gr, e, fun i a d q => t.fresh i a d (h i a d q), fun i j a d d' q1 q2 => t.dist i j a d d' (h _ _ _ q1) (h _ _ _ q2)⟩
theorem ST.set (t : ST K o S0 H0 S H σ env) (i : Nat) (r : BR K o H0 S H v b) (h : b.isOw = false) : ST K o S0 H0 S H (σ.set i (some v)) (env.set i (some b)) :=
  t.upd (t.es.set i r) fun j a d q => ow_set h q
end
/-! ### targets -/
def GA (K : PySem.W.Frag) (js : List Nat) (g : TG) (ag : B → AEnv → (AEnv → Prop) → Prop) : Prop := ∀ o H0 S H σ env v b Qe C, ES K o H0 S H σ env → BR K o H0 S H v b → ag b env Qe →
  (∀ σ' env', ES K o H0 S H σ' env' → Stored js σ σ' → (∀ i a d, slot env' i = some (.ow a d) → slot env i = some (.ow a d)) → Qe env' → C σ' H) → g v σ H C
def GAs (K : PySem.W.Frag) (js : List Nat) (g : TGs) (ag : List B → AEnv → (AEnv → Prop) → Prop) : Prop := ∀ o H0 S H σ env vs bs Qe C, ES K o H0 S H σ env → Paired (BR K o H0 S H) vs bs → ag bs env Qe →
  (∀ σ' env', ES K o H0 S H σ' env' → Stored js σ σ' → (∀ i a d, slot env' i = some (.ow a d) → slot env i = some (.ow a d)) → Qe env' → C σ' H) → g vs σ H C
def aName (i : Nat) (b : B) (env : AEnv) (Q : AEnv → Prop) : Prop := match b with
  | .ow _ _ => False
  | .st d => Q (env.set i (some (.st d)))
  | .br d => Q (env.set i (some (.br d)))
  | .pool => Q (env.set i (some .pool))
  | .xn a c d C fs => Q (env.set i (some (.xn a c d C fs)))
def aGNil (bs : List B) (env : AEnv) (Q : AEnv → Prop) : Prop := match bs with
  | [] => Q env
  | _ => False
def aGCons (g : B → AEnv → (AEnv → Prop) → Prop) (r : List B → AEnv → (AEnv → Prop) → Prop) (bs : List B) (env : AEnv) (Q : AEnv → Prop) : Prop := match bs with
  | b :: bs => g b env fun env' => r bs env' Q
  | [] => False
def aGTup (n : Nat) (r : List B → AEnv → (AEnv → Prop) → Prop) (b : B) (env : AEnv) (Q : AEnv → Prop) : Prop := match b.get with
  | .tup ds => ds.length = n ∧ r (ds.map b.sub) env Q
  | _ => False
theorem aName_iff {i : Nat} {b : B} {env : AEnv} {Q : AEnv → Prop} (h : aName i b env Q) : b.isOw = false ∧ Q (env.set i (some b)) := by
  cases b with
  | ow a d => exact h.elim
  | _ => exact ⟨rfl, h⟩
section
variable {K : PySem.W.Frag} {W : WX} {js : List Nat}
theorem pair_sub {o : Option Addr} {H0 S H : Hp} {b : B} {f : D → B} (hf : ∀ v d, Rep K S v d → BR K o H0 S H v (f d)) : ∀ {xs : List V} {ds : List D}, RepL K S xs ds → Paired (BR K o H0 S H) xs (ds.map f)
  | _, _, .nil => .nil
  | _, _, .cons a r => .cons (hf _ _ a) (pair_sub (b := b) hf r)
theorem pair_br {o : Option Addr} {H0 S H : Hp} : ∀ {xs : List V} {ds : List D}, RepL K (offp o H0) xs ds → Paired (BR K o H0 S H) xs (ds.map B.br)
  | _, _, .nil => .nil
  | _, _, .cons a r => .cons a (pair_br r)
theorem pair_st {o : Option Addr} {H0 S H : Hp} : ∀ {xs : List V} {ds : List D}, RepL K S xs ds → Paired (BR K o H0 S H) xs (ds.map B.st)
  | _, _, .nil => .nil
  | _, _, .cons a r => .cons a (pair_st r)
theorem BR.tup {o : Option Addr} {H0 S H : Hp} {v : V} {b : B} {ds : List D} (w : Wl o S H) (k : Kp o H0 H) (h : BR K o H0 S H v b) (e : b.get = .tup ds) : ∃ a xs, v = .ref a ∧ SqT K H a xs ∧ Paired (BR K o H0 S H) xs (ds.map b.sub) := by
  cases b with
  | st d =>
    cases e
    obtain ⟨a, xs, e1, e2, e3⟩ := rep_tup h
    exact ⟨a, xs, e1, Same.seqT w.1 e2, pair_st e3⟩
  | ow a d =>
    cases e
    obtain ⟨_, _, _, t⟩ := h
    generalize H a = x at t
    cases t
  | br d =>
    cases e
    obtain ⟨a, xs, e1, e2, e3⟩ := rep_tup h
    exact ⟨a, xs, e1, Same.seqT (off_same k) e2, pair_br e3⟩
  | _ => cases e
theorem BR.lst {o : Option Addr} {H0 S H : Hp} {v : V} {b : B} {ds : List D} (w : Wl o S H) (k : Kp o H0 H) (h : BR K o H0 S H v b) (e : b.get = .lst ds) : ∃ a xs, v = .ref a ∧ H a = some (.lst xs) ∧ Paired (BR K o H0 S H) xs (ds.map b.sub) := by
  cases b with
  | st d =>
    cases e
    obtain ⟨a, xs, e1, e2, e3⟩ := rep_lst h
    exact ⟨a, xs, e1, w.1 _ _ e2, pair_st e3⟩
  | ow a d =>
    cases e
    obtain ⟨e1, _, _, t⟩ := h
    generalize hx : H a = x at t
    cases t with
    | lst r => exact ⟨a, _, e1, hx, pair_st r⟩
  | br d =>
    cases e
    obtain ⟨a, xs, e1, e2, e3⟩ := rep_lst h
    exact ⟨a, xs, e1, off_same k _ _ e2, pair_br e3⟩
  | _ => cases e
theorem ga_name (i : Nat) (h : i ∈ js := by decide) : GA K js (gName i) (aName i) := fun o H0 S H σ env v b Qe C es r q k => by
  obtain ⟨h1, h2⟩ := aName_iff q
  exact k _ _ (es.set i r) (.set h) (fun j a d q => ow_set h1 q) h2
theorem gas_nil : GAs K js gNil aGNil := fun o H0 S H σ env vs bs Qe C es r q k => by
  cases r with
  | nil => exact ⟨rfl, k σ env es .refl (fun _ _ _ h => h) q⟩
  | cons a b => exact q.elim
theorem gas_cons {g : TG} {gs : TGs} {ag : B → AEnv → (AEnv → Prop) → Prop} {ags : List B → AEnv → (AEnv → Prop) → Prop} (h1 : GA K js g ag) (h2 : GAs K js gs ags) : GAs K js (gCons g gs) (aGCons ag ags) := fun o H0 S H σ env vs bs Qe C es r q k => by
  cases r with
  | nil => exact q.elim
  | cons a b =>
    refine ⟨_, _, rfl, h1 o H0 S H σ env _ _ _ _ es a q fun σ' env' es' s' ow' q' => ?_⟩
    exact h2 o H0 S H σ' env' _ _ _ _ es' b q' fun σ2 env2 es2 s2 ow2 q2 => k σ2 env2 es2 (s'.trans s2) (fun i a d h => ow' i a d (ow2 i a d h)) q2
theorem paired_len {α β : Type} {R : α → β → Prop} : ∀ {xs : List α} {ts : List β}, Paired R xs ts → xs.length = ts.length
  | _, _, .nil => rfl
  | _, _, .cons _ t => by rw [List.length_cons, List.length_cons, paired_len t]
theorem ga_tup {n : Nat} {gs : TGs} {ags : List B → AEnv → (AEnv → Prop) → Prop} (h : GAs K js gs ags) : GA K js (gTup K n gs) (aGTup n ags) := fun o H0 S H σ env v b Qe C es r q k => by
  unfold aGTup at q
  split at q
  · rename_i ds hd
    obtain ⟨a, xs, rfl, hx, hp⟩ := r.tup es.wl es.kp hd
    refine ⟨a, xs, rfl, hx, ?_, h o H0 S H σ env xs _ _ _ es hp q.2 k⟩
    rw [paired_len hp, List.length_map]
    exact q.1
  · exact q.elim
end
/-! ### blocks -/
def aNext (E : AEnds) (env : AEnv) : Prop := E.nx env
def aSeq (a b : AS) (E : AEnds) (env : AEnv) : Prop := a ⟨fun e => b E e, E.rt, E.rn, E.bk, E.ct, E.ax⟩ env
theorem go_seq {a b : AS} {E : AEnds} {env : AEnv} (h : a ⟨fun e => b E e, E.rt, E.rn, E.bk, E.ct, E.ax⟩ env) : aSeq a b E env := h
def aCut (a b : AS) (E : AEnds) (env : AEnv) : Prop := ∃ M : AEnv → Prop, a ⟨M, E.rt, E.rn, E.bk, E.ct, E.ax⟩ env ∧ ∀ env', M env' → b E env'
def aIf (c : AT) (a b : AS) (E : AEnds) (env : AEnv) : Prop := c E.ax env fun z => ifB z (a E env) (b E env)
def aRet (a : AE) (E : AEnds) (env : AEnv) : Prop := a E.ax env fun b => match b with
  | .st d => E.rt d
  | _ => False
/-- an own thing is handed out -/
def aRetO (i : Nat) (E : AEnds) (env : AEnv) : Prop := match slot env i with
  | some (.ow _ d) => E.rt d
  | _ => False
def aRetN (E : AEnds) (env : AEnv) : Prop := E.rt .non
def aDrop (a : AE) (E : AEnds) (env : AEnv) : Prop := a E.ax env fun _ => E.nx env
def aAsg (a : AE) (g : B → AEnv → (AEnv → Prop) → Prop) (E : AEnds) (env : AEnv) : Prop := a E.ax env fun b => g b env E.nx
/-- a new thing, one's own -/
def aNew (i : Nat) (a : AN) (E : AEnds) (env : AEnv) : Prop := a E.ax env fun d => ∀ x, E.nx (env.set i (some (.ow x d)))
def aPar (i j : Nat) (a : AA) (E : AEnds) (env : AEnv) : Prop := a E.ax env fun bs => match bs with
  | [x, y] => aName i x env fun env' => aName j y env' E.nx
  | _ => False
def aPar3 (i j l : Nat) (a : AA) (E : AEnds) (env : AEnv) : Prop := a E.ax env fun bs => match bs with
  | [x, y, z] => aName i x env fun env' => aName j y env' fun env2 => aName l z env2 E.nx
  | _ => False
def frz (i : Nat) (env : AEnv) : AEnv := match slot env i with
  | some (.ow _ d) => env.set i (some (.st d))
  | _ => env
def aFz (i : Nat) (a : AS) (E : AEnds) (env : AEnv) : Prop := a E (frz i env)
def aNever (E : AEnds) (env : AEnv) : Prop := False
section
variable {K : PySem.W.Frag} {W : WX} {ts us : TS} {as bs : AS} {te : TE} {ae : AE} {tt : TT} {at_ : AT}
theorem sa_next : SA K W tNext aNext := fun o S0 H0 S H σ env E Dc st lk q => lk.nx σ env S H st q
theorem Lk.mid {o : Option Addr} {S0 H0 : Hp} {E : AEnds} {Dc : Ends} (lk : Lk K W o S0 H0 E Dc) {M : AEnv → Prop} {Mc : L2.St → Hp → Prop} (h : ∀ σ env S H, ST K o S0 H0 S H σ env → M env → Mc σ H) : Lk K W o S0 H0 ⟨M, E.rt, E.rn, E.bk, E.ct, E.ax⟩ { Dc with nx := Mc } :=
  ⟨h, lk.bk, lk.ct, lk.rt, lk.rn, lk.ex⟩
theorem sa_seq (h1 : SA K W ts as) (h2 : SA K W us bs) : SA K W (tSeq ts us) (aSeq as bs) := fun o S0 H0 S H σ env E Dc st lk q =>
  h1 o S0 H0 S H σ env _ _ st (lk.mid fun σ' env' S' H' st' q' => h2 o S0 H0 S' H' σ' env' E Dc st' lk q') q
theorem sa_cut (h1 : SA K W ts as) (h2 : SA K W us bs) : SA K W (C8.tCut ts us) (aCut as bs) := fun o S0 H0 S H σ env E Dc st lk q => by
  obtain ⟨M, q1, q2⟩ := q
  refine ⟨fun σ' H' => ∃ S' env', ST K o S0 H0 S' H' σ' env' ∧ M env', ?_, ?_⟩
  · exact h1 o S0 H0 S H σ env _ _ st (lk.mid fun σ' env' S' H' st' q' => ⟨S', env', st', q'⟩) q1
  · rintro σ' H' ⟨S', env', st', q'⟩
    exact h2 o S0 H0 S' H' σ' env' E Dc st' lk (q2 env' q')
theorem sa_if (hc : ET K W tt at_) (h1 : SA K W ts as) (h2 : SA K W us bs) : SA K W (tIfS tt ts us) (aIf at_ as bs) := fun o S0 H0 S H σ env E Dc st lk q =>
  hc o H0 S H σ env E.ax _ _ st.es q (fun b S1 H1 g1 w1 q1 => by
    cases b with
    | true => exact h1 o S0 H0 S1 H1 σ env E Dc (st.mono g1 w1) lk q1
    | false => exact h2 o S0 H0 S1 H1 σ env E Dc (st.mono g1 w1) lk q1) (lk.xl st)
theorem sa_ret (h : EA K W te ae) : SA K W (tRet te) (aRet ae) := fun o S0 H0 S H σ env E Dc st lk q =>
  h o H0 S H σ env E.ax _ _ st.es q (fun v b S1 H1 g1 w1 r1 q1 => by
    cases b with
    | st d => exact lk.rt v d S1 H1 (st.gr.trans g1) w1 r1 q1
    | _ => exact q1.elim) (lk.xl st)
theorem sa_retO (i : Nat) : SA K W (tRet (tVar i)) (aRetO i) := fun o S0 H0 S H σ env E Dc st lk q => by
  unfold aRetO at q
  split at q
  · rename_i a d hd
    obtain ⟨v, h1, rfl, hs, np, t⟩ := st.es.sl i _ hd
    obtain ⟨u, hu⟩ := t.some
    refine ⟨_, h1, lk.rt (.ref a) d (upd S a u) H (st.gr.fix (st.fresh i a d hd) hs) (st.es.wl.fix hu hs np) ?_ q⟩
    exact (t.mono (same_upd hs)).rep (Same.refl _) (by rw [upd_same, hu])
  · exact q.elim
theorem sa_retN : SA K W tRetN aRetN := fun o S0 H0 S H σ env E Dc st lk q => lk.rt .non .non S H st.gr st.es.wl .non q
theorem sa_expr (h : EA K W te ae) : SA K W (tDrop te) (aDrop ae) := fun o S0 H0 S H σ env E Dc st lk q =>
  h o H0 S H σ env E.ax _ _ st.es q (fun v b S1 H1 g1 w1 r1 q1 => lk.nx σ env S1 H1 (st.mono g1 w1) q1) (lk.xl st)
theorem sa_asg {g : TG} {js : List Nat} {ag : B → AEnv → (AEnv → Prop) → Prop} (h : EA K W te ae) (hg : GA K js g ag) : SA K W (tAsg te g) (aAsg ae ag) := fun o S0 H0 S H σ env E Dc st lk q =>
  h o H0 S H σ env E.ax _ _ st.es q (fun v b S1 H1 g1 w1 r1 q1 =>
    hg o H0 S1 H1 σ env v b _ _ (st.es.mono g1 w1) r1 q1 fun σ' env' es' _ ow q2 => lk.nx σ' env' S1 H1 ((st.mono g1 w1).upd es' ow) q2) (lk.xl st)
theorem sa_set (i : Nat) (h : EA K W te ae) : SA K W (tAsg te (gName i)) (aAsg ae (aName i)) := sa_asg h (ga_name (js := [i]) i (by simp))
theorem sa_new (i : Nat) {an : AN} (h : EN K W te an) : SA K W (tAsg te (gName i)) (aNew i an) := fun o S0 H0 S H σ env E Dc st lk q =>
  h o H0 S H σ env E.ax _ _ st.es q (fun a d S1 H1 g1 w1 n ns t q1 => by
    have st1 := st.mono g1 w1
    have r : BR K o H0 S1 H1 (.ref a) (.ow a d) := ⟨rfl, ns, st.es.wl.np n, t⟩
    have other : ∀ j d', slot env j ≠ some (.ow a d') := fun j d' q => by
      obtain ⟨v, _, _, _, _, t'⟩ := st.es.sl j _ q
      obtain ⟨u, hu⟩ := t'.some
      rw [hu] at n
      cases n
    refine lk.nx _ _ S1 H1 ⟨st1.gr, st1.es.set i r, fun j a' d' q => ?_, fun j l a' d' d2 q q2 => ?_⟩ (q1 a)
    · rw [slot_set] at q
      split at q
      · cases q
        exact st.gr.bk n
      · exact st.fresh j a' d' q
    · rw [slot_set] at q q2
      split at q
      · rename_i c1
        split at q2
        · rename_i c2
          exact c1.1.symm.trans c2.1
        · cases q
          exact absurd q2 (other l d2)
      · split at q2
        · cases q2
          exact absurd q (other j d')
        · exact st.dist j l a' d' d2 q q2) (lk.xl st)
theorem sa_par {i j : Nat} {ta : TA} {aa : AA} {n : Nat} (h : EL K W n ta aa) : SA K W (tPar i j ta) (aPar i j aa) := fun o S0 H0 S H σ env E Dc st lk q =>
  h o H0 S H σ env E.ax _ _ st.es q (fun vs bs S1 H1 g1 w1 r1 _ q1 => by
    have st1 := st.mono g1 w1
    match vs, bs, r1, q1 with
    | [x, y], [b, c], .cons rb (.cons rc .nil), q1 =>
      obtain ⟨h1, h2⟩ := aName_iff q1
      obtain ⟨h3, h4⟩ := aName_iff h2
      exact ⟨x, y, rfl, lk.nx _ _ S1 H1 ((st1.set i rb h1).set j rc h3) h4⟩
    | [], [], _, q1 => exact q1.elim
    | [_], [_], _, q1 => exact q1.elim
    | _ :: _ :: _ :: _, _ :: _ :: _ :: _, _, q1 => exact q1.elim) (lk.xl st)
theorem sa_par3 {i j l : Nat} {ta : TA} {aa : AA} {n : Nat} (h : EL K W n ta aa) : SA K W (tPar3 i j l ta) (aPar3 i j l aa) := fun o S0 H0 S H σ env E Dc st lk q =>
  h o H0 S H σ env E.ax _ _ st.es q (fun vs bs S1 H1 g1 w1 r1 _ q1 => by
    have st1 := st.mono g1 w1
    match vs, bs, r1, q1 with
    | [x, y, z], [b, c, d], .cons rb (.cons rc (.cons rd .nil)), q1 =>
      obtain ⟨h1, h2⟩ := aName_iff q1
      obtain ⟨h3, h4⟩ := aName_iff h2
      obtain ⟨h5, h6⟩ := aName_iff h4
      exact ⟨x, y, z, rfl, lk.nx _ _ S1 H1 (((st1.set i rb h1).set j rc h3).set l rd h5) h6⟩
    | [], [], _, q1 => exact q1.elim
    | [_], [_], _, q1 => exact q1.elim
    | [_, _], [_, _], _, q1 => exact q1.elim
    | _ :: _ :: _ :: _ :: _, _ :: _ :: _ :: _ :: _, _, q1 => exact q1.elim) (lk.xl st)
/-- what was one's own becomes stable -/
theorem sa_frz (i : Nat) (h : SA K W ts as) : SA K W ts (aFz i as) := fun o S0 H0 S H σ env E Dc st lk q => by
  have q : as E (frz i env) := q
  unfold frz at q
  split at q
  · rename_i a d hd
    obtain ⟨v, h1, rfl, hs, np, t⟩ := st.es.sl i _ hd
    obtain ⟨u, hu⟩ := t.some
    have e0 : H0 a = none := st.fresh i a d hd
    have sS : Same S (upd S a u) := same_upd hs
    have hrep : Rep K (upd S a u) (.ref a) d := (t.mono sS).rep (Same.refl _) (by rw [upd_same, hu])
    have hi : i < env.length := by
      cases q : env[i]? with
      | none => rw [slot_eq, q] at hd; cases hd
      | some x => exact (List.getElem?_eq_some_iff.mp q).1
    have so : ∀ j b, slot env j = some b → j ≠ i → ∃ v, σ[j]? = some (some v) ∧ BR K o H0 (upd S a u) H v b := fun j b hj hne => by
      obtain ⟨w, e1, e2⟩ := st.es.sl j b hj
      refine ⟨w, e1, ?_⟩
      cases b with
      | st d => exact Rep.same sS e2
      | ow a' d' =>
        obtain ⟨x1, x2, x3, x4⟩ := e2
        have : a' ≠ a := fun e => by
          subst e
          exact hne (st.dist j i a' d' d hj hd)
        exact ⟨x1, by rw [upd_ne this]; exact x2, x3, x4.mono sS⟩
      | br d => exact e2
      | pool => exact e2
      | xn a1 cls d1 C fs =>
        obtain ⟨x1, x2, dd, x3, np1, ⟨fv, y1, y2, y3⟩⟩ := e2
        exact ⟨x1, x2, dd, x3, np1, ⟨fv, y1, y2, RepL.same sS y3⟩⟩
    refine h o S0 H0 (upd S a u) H σ (env.set i (some (.st d))) E Dc ⟨st.gr.fix e0 hs, ⟨st.es.wl.fix hu hs np, st.es.kp, by rw [List.length_set]; exact st.es.len, fun j b hj => ?_⟩, fun j a' d' hj => ?_, fun j l a' d' d2 h2 h3 => ?_⟩ lk q
    · rw [slot_set] at hj
      split at hj
      · rename_i c
        cases hj
        rw [← c.1]
        exact ⟨_, h1, hrep⟩
      · rename_i c
        exact so j b hj fun e => c ⟨e.symm, hi⟩
    · exact st.fresh j a' d' (ow_set (b := .st d) rfl hj)
    · exact st.dist j l a' d' d2 (ow_set (b := .st d) rfl h2) (ow_set (b := .st d) rfl h3)
  · exact h o S0 H0 S H σ env E Dc st lk q
end
/-! ### walks -/
abbrev AI := AX → AEnv → (List B → Prop) → Prop
structure WkA (K : PySem.W.Frag) (o : Option Addr) (H0 S1 : Hp) (J : It) (items : List B) : Prop where
  goes : ∀ i S H, i < items.length → Same S1 S → Wl o S H → Kp o H0 H → J.go i H
  stops : ∀ S H, Same S1 S → Wl o S H → Kp o H0 H → J.stop items.length H
  yields : ∀ i S H x H', i < items.length → Same S1 S → Wl o S H → Kp o H0 H → J.yld i H x H' → ∃ S' b, items[i]? = some b ∧ b.isOw = false ∧ GrO o S H S' H' ∧ Wl o S' H' ∧ BR K o H0 S' H' x b
def EI (K : PySem.W.Frag) (W : WX) (wi : TI) (ai : AI) : Prop := ∀ o H0 S H σ env ax Q C, ES K o H0 S H σ env → ai ax env Q →
  (∀ J items S' H', GrO o S H S' H' → Wl o S' H' → WkA K o H0 S' J items → Q items → C J H') → XL K W o S H σ env ax → wi σ H C
def aLoop (g : B → AEnv → (AEnv → Prop) → Prop) (ab : AS) (E : AEnds) : List B → AEnv → Prop
  | [], env => E.nx env
  | x :: r, env => g x env fun env1 => ab ⟨aLoop g ab E r, E.rt, E.rn, E.nx, aLoop g ab E r, E.ax⟩ env1
def aFor (ai : AI) (g : B → AEnv → (AEnv → Prop) → Prop) (ab : AS) (E : AEnds) (env : AEnv) : Prop := ai E.ax env fun items => aLoop g ab E items env
/-- a loop by an invariant -/
theorem aLoop_inv {g : B → AEnv → (AEnv → Prop) → Prop} {ab : AS} {E : AEnds} (I : Nat → AEnv → Prop) {items : List B} {env : AEnv} (h0 : I 0 env)
    (hs : ∀ (i : Nat) x env (R : AEnv → Prop), items[i]? = some x → I i env → (∀ e, I (i + 1) e → R e) → g x env fun env1 => ab ⟨R, E.rt, E.rn, E.nx, R, E.ax⟩ env1) (hd : ∀ env, I items.length env → E.nx env) : aLoop g ab E items env := by
  have key : ∀ (r : List B) (k : Nat) (env : AEnv), items.drop k = r → k ≤ items.length → I k env → aLoop g ab E r env := by
    intro r
    induction r with
    | nil =>
      intro k env e hk hi
      have : items.length ≤ k := List.drop_eq_nil_iff.mp e
      have : k = items.length := by omega
      subst this
      exact hd env hi
    | cons x r ih =>
      intro k env e hk hi
      have hx : items[k]? = some x := by
        have := congrArg (fun l => l[0]?) e
        simpa using this
      have hr : items.drop (k + 1) = r := by
        have := congrArg List.tail e
        simpa using this
      have hk2 : k < items.length := (List.getElem?_eq_some_iff.mp hx).1
      exact hs k x env (aLoop g ab E r) hx hi fun e h => ih (k + 1) e hr hk2 h
  exact key items 0 env rfl (Nat.zero_le _) h0
section
variable {K : PySem.W.Frag} {W : WX} {wi : TI} {ai : AI}
theorem GrO.under {o : Option Addr} {S0 H0 S1 H1 S H : Hp} (g : GrO o S0 H0 S1 H1) (h : GrO o S1 H0 S H) : GrO o S0 H0 S H :=
  ⟨g.st.trans h.st, h.rs, fun a h1 h2 => h.fr a (g.fr a h1 h2) h2, h.ex⟩
theorem ST.base {o : Option Addr} {S0 H0 S H : Hp} {σ : L2.St} {env : AEnv} (t : ST K o S0 H0 S H σ env) : ST K o S H0 S H σ env :=
  ⟨⟨Same.refl _, t.gr.rs, fun a h _ => h, t.gr.ex⟩, t.es, t.fresh, t.dist⟩
theorem ST.under {o : Option Addr} {S0 H0 S1 H1 S H : Hp} {σ : L2.St} {env : AEnv} (g : GrO o S0 H0 S1 H1) (t : ST K o S1 H0 S H σ env) : ST K o S0 H0 S H σ env := ⟨g.under t.gr, t.es, t.fresh, t.dist⟩
theorem sa_for {g : TG} {js : List Nat} {ag : B → AEnv → (AEnv → Prop) → Prop} {tb : TS} {ab : AS} (hi : EI K W wi ai) (hg : GA K js g ag) (hb : SA K W tb ab) : SA K W (tFor wi g tb) (aFor ai ag ab) := fun o S0 H0 S H σ env E Dc st lk q =>
  hi o H0 S H σ env E.ax _ _ st.es q (fun J items S1 H1 g1 w1 wk q1 => by
    have st1 := st.mono g1 w1
    have wlk : Walk J items.length (fun H => ∃ S, Same S1 S ∧ Wl o S H ∧ Kp o H0 H) (fun i H x H' => i < items.length ∧ J.yld i H x H') :=
      ⟨fun i H hi ⟨S, a, b, c⟩ => wk.goes i S H hi a b c, fun H ⟨S, a, b, c⟩ => wk.stops S H a b c, fun i H x H' hi _ y => ⟨hi, y⟩⟩
    refine for_it wlk (fun i σ H => ∃ S env, ST K o S1 H0 S H σ env ∧ aLoop ag ab E (items.drop i) env) ⟨S1, env, st1.base, q1⟩ (fun i σ H _ ⟨S, env, st, _⟩ => ⟨S, st.gr.st, st.es.wl, st.es.kp⟩) (fun i x σ H H' hi ⟨S, env, st, q⟩ ⟨_, y⟩ => ?_) (fun σ H ⟨S, env, st, q⟩ => ?_)
    · obtain ⟨S', b, e1, e2, g2, w2, r2⟩ := wk.yields i S H x H' hi st.gr.st st.es.wl st.es.kp y
      rw [List.drop_eq_getElem_cons hi] at q
      have e3 : items[i] = b := by
        rw [List.getElem?_eq_getElem hi] at e1
        exact Option.some.inj e1
      rw [e3] at q
      have st2 := st.mono g2 w2
      refine hg o H0 S' H' σ env x b _ _ st2.es r2 q fun σ' env' es' _ ow q2 => ?_
      have st3 := st2.upd es' ow
      refine hb o S1 H0 S' H' σ' env' ⟨aLoop ag ab E (items.drop (i + 1)), E.rt, E.rn, E.nx, aLoop ag ab E (items.drop (i + 1)), E.ax⟩ _ st3 ⟨fun σ env S H st q => ⟨S, env, st, q⟩, fun σ env S H st q => lk.nx σ env S H (st.under st1.gr) q, fun σ env S H st q => ⟨S, env, st, q⟩, fun v d S H g w r q => lk.rt v d S H (st1.gr.under g) w r q, fun a d S H g w n ns t q => lk.rn a d S H (st1.gr.under g) w n ns t q, fun σ env C fs dd S H st n e a => lk.ex σ env C fs dd S H (st.under st1.gr) n e a⟩ q2
    · rw [List.drop_length] at q
      exact lk.nx σ env S H (st.under st1.gr) q) (lk.xl st)
/-! ### while -/
def aWhile (c : AT) (ab : AS) (E : AEnds) (env : AEnv) : Prop := ∃ I : Nat → AEnv → Prop, (∃ m, I m env) ∧ ∀ m env, I m env → c E.ax env fun b => ifB b (ab ⟨fun env' => ∃ m', m' < m ∧ I m' env', E.rt, E.rn, E.nx, fun env' => ∃ m', m' < m ∧ I m' env', E.ax⟩ env) (E.nx env)
theorem sa_while {tc : TT} {ac : AT} {tb : TS} {ab : AS} (hc : ET K W tc ac) (hb : SA K W tb ab) : SA K W (tWhile tc tb) (aWhile ac ab) := fun o S0 H0 S H σ env E Dc st lk ⟨I, ⟨m0, i0⟩, hi⟩ => by
  refine ⟨fun m σ H => ∃ S env, ST K o S0 H0 S H σ env ∧ I m env, ⟨m0, S, env, st, i0⟩, ?_⟩
  rintro m σ H ⟨S, env, st, i⟩
  refine hc o H0 S H σ env E.ax _ _ st.es (hi m env i) (fun b S1 H1 g1 w1 q1 => ?_) (lk.xl st)
  have st1 := st.mono g1 w1
  cases b with
  | true =>
    refine ⟨fun σ' H' => ∃ S' env', ST K o S0 H0 S' H' σ' env' ∧ ∃ m', m' < m ∧ I m' env', fun σ' H' ⟨S', env', st', m', hm, i'⟩ => ⟨m', hm, S', env', st', i'⟩, ?_⟩
    exact hb o S0 H0 S1 H1 σ env ⟨fun env' => ∃ m', m' < m ∧ I m' env', E.rt, E.rn, E.nx, fun env' => ∃ m', m' < m ∧ I m' env', E.ax⟩ _ st1 ⟨fun σ env S H st q => ⟨S, env, st, q⟩, lk.nx, fun σ env S H st q => ⟨S, env, st, q⟩, lk.rt, lk.rn, lk.ex⟩ q1
  | false => exact lk.nx σ env S1 H1 st1 q1
/-! ### comprehensions -/
/-- a walk while nothing that stands is changed -/
structure WkC (K : PySem.W.Frag) (o : Option Addr) (H0 S1 H1 : Hp) (J : It) (items : List B) : Prop where
  goes : ∀ i S H, i < items.length → GrO o S1 H1 S H → Wl o S H → Kp o H0 H → J.go i H
  stops : ∀ S H, GrO o S1 H1 S H → Wl o S H → Kp o H0 H → J.stop items.length H
  yields : ∀ i S H x H', i < items.length → GrO o S1 H1 S H → Wl o S H → Kp o H0 H → J.yld i H x H' → ∃ S' b, items[i]? = some b ∧ b.isOw = false ∧ GrO o S H S' H' ∧ Wl o S' H' ∧ BR K o H0 S' H' x b
theorem WkA.toC {o : Option Addr} {H0 S1 H1 : Hp} {J : It} {items : List B} (w : WkA K o H0 S1 J items) : WkC K o H0 S1 H1 J items :=
  ⟨fun i S H hi g => w.goes i S H hi g.st, fun S H g => w.stops S H g.st, fun i S H x H' hi g => w.yields i S H x H' hi g.st⟩
def EC (K : PySem.W.Frag) (W : WX) (wi : TI) (ai : AI) : Prop := ∀ o H0 S H σ env ax Q C, ES K o H0 S H σ env → ai ax env Q →
  (∀ J items S' H', GrO o S H S' H' → Wl o S' H' → WkC K o H0 S' H' J items → Q items → C J H') → XL K W o S H σ env ax → wi σ H C
theorem EI.ec (h : EI K W wi ai) : EC K W wi ai := fun o H0 S H σ env ax Q C es q k xl => h o H0 S H σ env ax Q C es q (fun J items S' H' g w wk q => k J items S' H' g w wk.toC q) xl
def aCol (g : B → AEnv → (AEnv → Prop) → Prop) (ct : AT) (ae : AE) (ax : AX) (env : AEnv) : List B → List D → (List D → Prop) → Prop
  | [], acc, Q => Q acc
  | x :: r, acc, Q => g x env fun env1 => ct ax env1 fun c => ifB c (ae ax env1 fun y => match y with
    | .st d => aCol g ct ae ax env r (acc ++ [d]) Q
    | _ => False) (aCol g ct ae ax env r acc Q)
def aLc (ai : AI) (g : B → AEnv → (AEnv → Prop) → Prop) (ct : AT) (ae : AE) (vs : List Nat) (ax : AX) (env : AEnv) (Q : D → Prop) : Prop := ai ax env fun items => items.length ≤ 1000 ∧ aCol g ct ae (fun _ _ _ => True) (awipe env vs) items [] fun ds => Q (.lst ds)
def aYes (ax : AX) (env : AEnv) (Q : Bool → Prop) : Prop := Q true
abbrev W1 : WX := fun _ _ _ _ => True
theorem xl1 {o : Option Addr} {S H : Hp} {σ : L2.St} {env : AEnv} {ax : AX} : XL K W1 o S H σ env ax := fun _ _ _ _ _ _ _ _ _ _ => trivial
theorem lc_body {g : TG} {js : List Nat} {ag : B → AEnv → (AEnv → Prop) → Prop} {tt : TT} {ct : AT} {te : TE} {ae : AE} {vs : List Nat} (hg : GA K js g ag) (ht : ET K W1 tt ct) (he : EA K W1 te ae) (hj : ∀ j ∈ js, j ∈ vs)
    {o : Option Addr} {H0 S1 H1 : Hp} {σ : L2.St} {env : AEnv} {J : It} {items : List B} {Qs : List D → Prop} {Qd : Addr → Hp → Prop} (es1 : ES K o H0 S1 H1 σ env) (wk : WkC K o H0 S1 H1 J items) (q1 : items.length ≤ 1000 ∧ aCol ag ct ae (fun _ _ _ => True) (awipe env vs) items [] Qs)
    (k : ∀ D acc ds S H, GrO o S1 H1 S H → Wl o S H → H1 D = none → S D = none → H D = some (.lst acc) → RepL K S acc ds → Qs ds → Qd D H) : ∀ D, H1 D = none → ∃ W : Nat → Nat → Hp → Prop, (∃ m, W 0 m (upd H1 D (.lst []))) ∧ ∀ i m H, W i m H →
  (J.stop i H ∧ Qd D H) ∨ (J.go i H ∧ ∃ Nx : Hp → Prop, (∀ H', Nx H' → ∃ m', m' < m ∧ W (i + 1) m' H') ∧ ∀ x H', J.yld i H x H' → g x (wipe σ vs) H' fun σ2 H2 => wipe σ2 vs = wipe σ vs ∧ tt σ2 H2 fun b H3 =>
    if b = true then te σ2 H3 fun y H4 => ∃ acc, H4 D = some (.lst acc) ∧ acc.length < sizeLine ∧ Nx (upd H4 D (.lst (acc ++ [y]))) else Nx H3) := by
  intro D hD
  have w1 := es1.wl
  have npD := w1.np hD
  have wlk : Walk J items.length (fun H => ∃ S, GrO o S1 H1 S H ∧ Wl o S H ∧ Kp o H0 H) (fun i H x H' => i < items.length ∧ J.yld i H x H') :=
    ⟨fun i H hi ⟨S, a, b, c⟩ => wk.goes i S H hi a b c, fun H ⟨S, a, b, c⟩ => wk.stops S H a b c, fun i H x H' hi _ y => ⟨hi, y⟩⟩
  refine lc_it wlk (fun i H => ∃ S acc ds, GrO o S1 H1 S H ∧ Wl o S H ∧ S D = none ∧ H D = some (.lst acc) ∧ RepL K S acc ds ∧ acc.length ≤ i ∧ aCol ag ct ae (fun _ _ _ => True) (awipe env vs) (items.drop i) ds Qs) ?_ (fun i H _ ⟨S, acc, ds, g, w, _⟩ => ⟨S, g, w, g.kp es1.kp⟩) (fun i x H H' hi ⟨S, acc, ds, g, w, sD, hd, hr, hl, q⟩ ⟨_, y⟩ => ?_) (fun H ⟨S, acc, ds, g, w, sD, hd, hr, hl, q⟩ => ?_)
  · exact ⟨S1, [], [], GrO.lay hD, w1.put (w1.1.free hD) npD, w1.1.free hD, upd_same, .nil, Nat.zero_le _, q1.2⟩
  · obtain ⟨S', b, e1, e2, g2, w2, r2⟩ := wk.yields i S H x H' hi g w (g.kp es1.kp) y
    rw [List.drop_eq_getElem_cons hi] at q
    have e3 : items[i] = b := by
      rw [List.getElem?_eq_getElem hi] at e1
      exact Option.some.inj e1
    rw [e3] at q
    have es2 := (es1.mono g w).mono g2 w2
    refine hg o H0 S' H' _ _ x b _ _ (es2.wipe vs) r2 q fun σ' env' es' sto ow q2 => ⟨wipe_stored hj sto, ?_⟩
    have hD' := g2.rs D _ npD hd
    have sD' := g2.fr D sD (ne_none hd)
    refine ht o H0 S' H' σ' env' _ _ _ es' q2 (fun c S3 H3 g3 w3 q3 => ?_) xl1
    have hD3 := g3.rs D _ npD hD'
    have sD3 := g3.fr D sD' (ne_none hD')
    cases c with
    | false => exact ⟨S3, acc, ds, (g.trans g2).trans g3, w3, sD3, hD3, RepL.same (g2.st.trans g3.st) hr, by omega, q3⟩
    | true =>
      refine he o H0 S3 H3 σ' env' _ _ _ (es'.mono g3 w3) q3 (fun v b S4 H4 g4 w4 r4 q4 => ?_) xl1
      have hD4 := g4.rs D _ npD hD3
      have sD4 := g4.fr D sD3 (ne_none hD3)
      cases b with
      | st d =>
        have l1 := q1.1
        refine ⟨acc, hD4, small1000 (by omega), S4, acc ++ [v], ds ++ [d], (((g.trans g2).trans g3).trans g4).put hD, w4.put sD4 npD, sD4, upd_same, (RepL.same ((g2.st.trans g3.st).trans g4.st) hr).snoc r4, by simp; omega, q4⟩
      | _ => exact q4.elim
  · rw [List.drop_length] at q
    exact k D acc ds S H g w hD sD hd hr q
theorem en_lc {g : TG} {js : List Nat} {ag : B → AEnv → (AEnv → Prop) → Prop} {tt : TT} {ct : AT} {te : TE} {ae : AE} {vs : List Nat} (hi : EC K W wi ai) (hg : GA K js g ag) (ht : ET K W1 tt ct) (he : EA K W1 te ae) (hj : ∀ j ∈ js, j ∈ vs := by decide) :
    EN K W (tLc wi g tt te vs) (aLc ai ag ct ae vs) := fun o H0 S H σ env ax Q Qc es q k xl =>
  hi o H0 S H σ env ax _ _ es q (fun J items S1 H1 g1 w1 wk q1 => lc_body hg ht he hj (es.mono g1 w1) wk q1 fun D acc ds S' H' g w hD sD hd hr q => by
    refine k D (.lst ds) S' H' (g1.trans g) w (g1.bk hD) sD ?_ q
    rw [hd]
    exact .lst hr) xl
theorem et_yes : ET K W tYes aYes := fun o H0 S H σ env ax Q Qc es q k xl => k true S H GrO.refl es.wl q
end
end WW

set_option Elab.async false
set_option linter.all false
set_option maxRecDepth 100000
set_option maxHeartbeats 4000000
namespace WW
open PySem PySem.Spec PyProof.Rows L2
section
variable {P : Program} {w : World} {K : PySem.W.Frag} {mg : Str → Option Value} {base : Heap} {f : Addr} {fd : FuncData}
abbrev sLpool : Stmt := topS 35
abbrev nLpool : List Str := ["_law_script", "_law_cells", "_law_great", "_law_small", "_law_cell"]
theorem scLpool : FnScope nLpool ["_law_script"] (defScope sLpool) := ⟨rfl, rfl, rfl, by decide +kernel, rfl, by decide +kernel, by decide +kernel⟩
def spPool (K : PySem.W.Frag) : Sp := fun vs H Q _ => ∃ (a : Addr) (ns : List Int), vs = [.ref a] ∧ SqL K H a (ns.map V.int) ∧ ns.length ≤ 63 ∧
  ∀ (p : Addr) (S' H' : Hp), Pool S' H' p → Same H S' → Q (.ref p) H'
def absI (v : V) : Option V := match v with
  | .int i => some (.int (if i < 0 then -i else i))
  | _ => none
def grI (v : V) : Option V := match v with
  | .int i => if decide ((10 : Int) ^ (18 : Int).toNat ≤ i) = true then some (.int i) else none
  | _ => none
def smI (v : V) : Option V := match v with
  | .int i => if decide (i < (10 : Int) ^ (18 : Int).toNat) = true then some (.int (i % 1000003)) else none
  | _ => none
def isI (v : V) : Prop := ∃ i, v = .int i
theorem ints_of : ∀ (xs : List V), (∀ v ∈ xs, isI v) → ∃ ns : List Int, xs = ns.map V.int
  | [], _ => ⟨[], rfl⟩
  | x :: r, h => by
    obtain ⟨i, rfl⟩ := h x (by simp)
    obtain ⟨ns, rfl⟩ := ints_of r fun v hv => h v (by simp [hv])
    exact ⟨i :: ns, rfl⟩
theorem fm_ints (g : V → Option V) (hg : ∀ v w, g v = some w → isI w) (xs : List V) : ∃ ns : List Int, xs.filterMap g = ns.map V.int ∧ ns.length ≤ xs.length := by
  obtain ⟨ns, h⟩ := ints_of (xs.filterMap g) fun v hv => by
    obtain ⟨a, _, h⟩ := List.mem_filterMap.mp hv
    exact hg a v h
  refine ⟨ns, h, ?_⟩
  have := List.length_filterMap_le g xs
  rw [h, List.length_map] at this
  exact this
theorem absI_i (v w : V) (h : absI v = some w) : isI w := by
  cases v <;> simp [absI] at h
  exact ⟨_, h.symm⟩
theorem grI_i (v w : V) (h : grI v = some w) : isI w := by
  cases v <;> simp [grI] at h
  exact ⟨_, h.2.symm⟩
theorem smI_i (v w : V) (h : smI v = some w) : isI w := by
  cases v <;> simp [smI] at h
  exact ⟨_, h.2.symm⟩
theorem ok_pool (D : Df K mg "_law_pool" sLpool ["_law_script"] f fd) (T : Bl mg) : FnOk P w K mg base CX0 1 f fd ["_law_script"] (spPool K) := by
  refine D.fn.ok scLpool (fun vs H Q E h => ?_) (fun cdv A outer s H vs Q E hr h => ?_)
  · obtain ⟨a, ns, rfl, _⟩ := h
    rfl
  · obtain ⟨a, ns, rfl, hS, hlen, q⟩ := h
    refine ⟨_, (pss_cons (ps_setLc (i := 1) (own := [("_law_cell", 4)]) rfl scLpool.nd rfl rfl (sw_true rfl rfl rfl (by decide +kernel)) (pi_list (pe_slice sl_list (pv 0) po_none (po_some pe_int))) (blkOk_by (own := [("_law_cell", 4)]) (N := nLpool) (sc := defScope sLpool) (by decide +kernel)) (fun _ _ _ _ _ => (pg_name (i := 4) scLpool.nd rfl (Or.inl rfl))) (fun _ _ _ _ _ => pts_nil) (fun _ _ _ _ _ => (pe_callB call_abs (by rfl) T.abs (by decide +kernel) (pa_cons (pe_callTy call_int1 (by rfl) T.int (by decide +kernel) (pa_cons (pv 4) pa_nil)) pa_nil))))
      (pss_cons (ps_setLc (i := 2) (own := [("_law_cell", 4)]) rfl scLpool.nd rfl rfl (sw_true rfl rfl rfl (by decide +kernel)) (pi_list (pv 1)) (blkOk_by (own := [("_law_cell", 4)]) (N := nLpool) (sc := defScope sLpool) (by decide +kernel)) (fun _ _ _ _ _ => (pg_name (i := 4) scLpool.nd rfl (Or.inl rfl))) (fun _ _ _ _ _ => (pts_one (pt_cmpR op_ge (pv 4) (pe_op op_pow pe_int pe_int) (nomark _)))) (fun _ _ _ _ _ => (pv 4)))
      (pss_cons (ps_setLc (i := 3) (own := [("_law_cell", 4)]) rfl scLpool.nd rfl rfl (sw_true rfl rfl rfl (by decide +kernel)) (pi_list (pv 1)) (blkOk_by (own := [("_law_cell", 4)]) (N := nLpool) (sc := defScope sLpool) (by decide +kernel)) (fun _ _ _ _ _ => (pg_name (i := 4) scLpool.nd rfl (Or.inl rfl))) (fun _ _ _ _ _ => (pts_one (pt_cmpR op_lt (pv 4) (pe_op op_pow pe_int pe_int) (nomark _)))) (fun _ _ _ _ _ => (pe_op op_mod (pe_callTy call_int1 (by rfl) T.int (by decide +kernel) (pa_cons (pv 4) pa_nil)) pe_int)))
      (pss_one (ps_ret (pe_lst (pa_cons (pv 2) (pa_cons (pv 3) (pa_cons pe_int (pa_cons pe_int pa_nil)))))))))), ?_⟩
    refine ⟨_, rfl, 63, rfl, a, _, rfl, hS, fun l hl => ?_⟩
    refine ⟨l, rfl, ⟨_, SqL.of upd_same⟩, fun D1 hD1 => lc_pure absI (SqL.of upd_same) ?_ (fun _ => rfl) (fun x H2 hx hs Q hq => ?_) hD1 (fun H2 s2 h2 => ?_)⟩
    · rw [show (63 : Int) = ((63 : Nat) : Int) from rfl, cut_to]
      simp
      omega
    · obtain ⟨i, rfl⟩ : isI x := by
        rw [show (63 : Int) = ((63 : Nat) : Int) from rfl, cut_to, ← List.map_take] at hx
        obtain ⟨i, _, rfl⟩ := List.mem_map.mp hx
        exact ⟨i, rfl⟩
      exact iteT (B := Q none H2) ⟨_, rfl, .inl ⟨_, rfl, _, rfl, hq _ (Same.refl _)⟩⟩
    obtain ⟨n1, e1, l1⟩ := fm_ints absI absI_i (cutV (ns.map V.int) none (some 63))
    have l1' : n1.length ≤ 63 := by
      rw [show (63 : Int) = ((63 : Nat) : Int) from rfl, cut_to, List.length_take, List.length_map] at l1
      omega
    rw [e1] at h2
    have s02 : Same H H2 := (same_upd hl).trans s2
    refine ⟨_, rfl, D1, rfl, ⟨_, SqL.of h2⟩, fun D2 hD2 => lc_pure grI (SqL.of h2) (by rw [List.length_map]; omega) (fun _ => rfl) (fun x H3 hx hs Q hq => ?_) hD2 (fun H3 s3 h3 => ?_)⟩
    · obtain ⟨i, _, rfl⟩ := List.mem_map.mp hx
      refine ⟨_, rfl, _, _, rfl, rfl, ⟨by decide, by decide, by decide⟩, _, _, rfl, rfl, _, rfl, ?_⟩
      refine ite2 (fun c => ⟨_, rfl, ?_⟩) (fun c => ?_)
      · have := hq H3 (Same.refl _)
        rw [show grI (V.int i) = some (V.int i) from if_pos c] at this
        exact this
      · have := hq H3 (Same.refl _)
        rw [show grI (V.int i) = none from if_neg c] at this
        exact this
    obtain ⟨n2, e2, l2⟩ := fm_ints grI grI_i (n1.map V.int)
    rw [e2] at h3
    rw [List.length_map] at l2
    have h13 := s3 _ _ h2
    refine ⟨_, rfl, D1, rfl, ⟨_, SqL.of h13⟩, fun D3 hD3 => lc_pure smI (SqL.of h13) (by rw [List.length_map]; omega) (fun _ => rfl) (fun x H4 hx hs Q hq => ?_) hD3 (fun H4 s4 h4 => ?_)⟩
    · obtain ⟨i, _, rfl⟩ := List.mem_map.mp hx
      refine ⟨_, rfl, _, _, rfl, rfl, ⟨by decide, by decide, by decide⟩, _, _, rfl, rfl, _, rfl, ?_⟩
      refine ite2 (fun c => ⟨_, rfl, .inl ⟨_, rfl, _, _, rfl, rfl, by show (0 : Int) < 1000003; decide, ?_⟩⟩) (fun c => ?_)
      · have := hq H4 (Same.refl _)
        rw [show smI (V.int i) = some (V.int (i % 1000003)) from if_pos c] at this
        exact this
      · have := hq H4 (Same.refl _)
        rw [show smI (V.int i) = none from if_neg c] at this
        exact this
    obtain ⟨n3, e3, l3⟩ := fm_ints smI smI_i (n1.map V.int)
    rw [e3] at h4
    rw [List.length_map] at l3
    refine ⟨_, rfl, _, rfl, by show 4 ≤ sizeLine; decide, fun p hp => ?_⟩
    refine q p H4 _ ⟨same_upd hp, hp, D2, D3, 0, 0, n2, n3, upd_same, s4 _ _ h3, h4, by omega, by omega⟩ (s02.trans (s3.trans s4))
end
end WW

set_option Elab.async false
set_option linter.all false
set_option maxRecDepth 100000
set_option maxHeartbeats 4000000
namespace WW
open PySem PySem.Spec PyProof.Rows L2
section
variable {P : Program} {w : World} {K : PySem.W.Frag} {mg : Str → Option Value} {base : Heap} {f fA : Addr} {fd fdA : FuncData}
abbrev sLpick : Stmt := topS 37
abbrev nLpick : List Str := ["_law_pool_here", "_law_items"]
theorem scLpick : FnScope nLpick ["_law_pool_here", "_law_items"] (defScope sLpick) := ⟨rfl, rfl, rfl, by decide +kernel, rfl, by decide +kernel, by decide +kernel⟩
def spPick : Sp := fun vs H Q _ => ∃ (p a : Addr) (S : Hp) (xs : List V), vs = [.ref p, .ref a] ∧ Pool S H p ∧ H a = some (.lst xs) ∧ a ≠ p ∧ 0 < xs.length ∧ xs.length < 1000 ∧
  ∀ (i : Nat) (v : V) (S' H' : Hp), xs[i]? = some v → Pool S' H' p → Gr p S H S' H' → Q v H'
theorem ok_pick (D : Df K mg "_law_pick" sLpick ["_law_pool_here", "_law_items"] f fd) (DLdraw : Df K mg "_law_draw" sLdraw ["_law_pool_here", "_law_many"] fA fdA) (T : Bl mg) : FnOk P w K mg base CX0 2 f fd ["_law_pool_here", "_law_items"] spPick := by
  have GLdraw : FnOk P w K mg base CX0 1 fA fdA ["_law_pool_here", "_law_many"] spDraw := ok_draw DLdraw T
  refine D.fn.ok scLpick (fun vs H Q E h => ?_) (fun cdv A outer s H vs Q E hr h => ?_)
  · obtain ⟨p, a, S, xs, rfl, _⟩ := h
    rfl
  · obtain ⟨p, a, S, xs, rfl, P0, ha, nap, l0, l1, q⟩ := h
    refine ⟨_, (pss_one (ps_ret (pe_ix ix_seq (pv 1) (pe_df DLdraw GLdraw (hr.mono (by decide)) (pa_cons (pv 0) (pa_cons (pe_callB call_len (by rfl) T.len (by decide +kernel) (pa_cons (pv 1) pa_nil)) pa_nil))) (fun _ _ => rfl)))), ?_⟩
    refine ⟨_, rfl, _, rfl, _, rfl, _, _, rfl, .inl ⟨_, SqL.of ha, rfl⟩, p, S, _, rfl, by omega, by omega, P0, fun d S1 H1 P1 g1 d0 d1 => ?_⟩
    have hd : d.toNat < xs.length := by omega
    have hz := at_of (xs := xs) (j := d.toNat) (z := d) (by omega) (List.getElem?_eq_getElem hd)
    first
      | exact ⟨a, xs, d, xs[d.toNat], rfl, rfl, SqL.of (g1.rs _ _ nap ha), hz, q _ _ _ _ (List.getElem?_eq_getElem hd) P1 g1⟩
      | exact .inl ⟨a, xs, d, xs[d.toNat], rfl, rfl, SqL.of (g1.rs _ _ nap ha), hz, q _ _ _ _ (List.getElem?_eq_getElem hd) P1 g1⟩

/-! ### names -/
def smallS : Str := "abcdefghijklmnopqrstuvwxyz"
def NameOk (z : Str) : Prop := 1 ≤ z.length ∧ z.length ≤ 10 ∧ ∀ c ∈ z.cps.toList, c ∈ smallS.cps.toList
theorem smallS_len : smallS.cps.toList.length = 26 := by decide +kernel
theorem smallS_nd : smallS.cps.toList.Nodup := by decide +kernel
theorem inV_strs (z : Str) : ∀ ts : List Str, inV (.str z) (ts.map V.str) = decide (z ∈ ts)
  | [] => by simp [inV]
  | t :: r => by
    have ih := inV_strs z r
    unfold inV at ih ⊢
    rw [List.map_cons, List.any_cons, ih]
    have e : eqV (.str t) (.str z) = decide (z = t) := by
      show (t == z) = decide (z = t)
      by_cases h : z = t
      · subst h
        simp
      · rw [decide_eq_false h]
        exact beq_eq_false_iff_ne.mpr (fun q => h q.symm)
    rw [e]
    simp [Bool.decide_or]
theorem strs_flat : ∀ ts : List Str, (ts.map V.str).all flatV = true
  | [] => rfl
  | _ :: r => by
    rw [List.map_cons, List.all_cons, strs_flat r]
    rfl
theorem pigeon {α : Type} [DecidableEq α] : ∀ (cs ts : List α), cs.Nodup → (∀ c ∈ cs, c ∈ ts) → cs.length ≤ ts.length
  | [], _, _, _ => Nat.zero_le _
  | c :: r, ts, nd, h => by
    have hc : c ∈ ts := h c (by simp)
    have ih := pigeon r (ts.erase c) (List.nodup_cons.mp nd).2 fun d hd => by
      have ne : d ≠ c := fun q => (List.nodup_cons.mp nd).1 (q ▸ hd)
      exact (List.mem_erase_of_ne ne).mpr (h d (by simp [hd]))
    rw [List.length_erase_of_mem hc] at ih
    have : 0 < ts.length := List.length_pos_of_mem hc
    simp
    omega
theorem join1 : ∀ cs : List Nat, TL.joinL [] (cs.map fun c => [c]) = cs
  | [] => rfl
  | [_] => rfl
  | c :: d :: r => by
    have ih := join1 (d :: r)
    show [c] ++ ([] ++ TL.joinL [] ((d :: r).map fun c => [c])) = _
    rw [ih]
    rfl
theorem joined (cs : List Nat) : Txt.join "" (cs.map fun c => (⟨#[c]⟩ : Str)) = ⟨cs.toArray⟩ := by
  have h : TL.tl (Txt.join "" (cs.map fun c => (⟨#[c]⟩ : Str))) = cs := by
    rw [TL.join_eq, TL.tl_join, List.map_map]
    exact join1 cs
  generalize Txt.join "" (cs.map fun c => (⟨#[c]⟩ : Str)) = z at h
  cases z with
  | mk a =>
    rw [← h]
theorem sum_ones : ∀ cs : List Nat, ((cs.map fun c => (⟨#[c]⟩ : Str)).map (·.length)).sum = cs.length
  | [] => rfl
  | c :: r => by
    rw [List.map_cons, List.map_cons, List.sum_cons, sum_ones r]
    show 1 + r.length = r.length + 1
    omega
def candF (z : Str) (ts : List Str) (v : V) : Option V := match v with
  | .str s => if (if true = true then !inV (.str (cutS z none (some 9) ++ s)) (ts.map V.str) else inV (.str (cutS z none (some 9) ++ s)) (ts.map V.str)) = true then some (.str (cutS z none (some 9) ++ s)) else none
  | _ => none
theorem app_cps (a b : Str) : (a ++ b).cps = a.cps ++ b.cps := rfl
theorem candF_eq (z : Str) (ts : List Str) (s : Str) : candF z ts (.str s) = if cutS z none (some 9) ++ s ∈ ts then none else some (.str (cutS z none (some 9) ++ s)) := by
  show (if (!inV _ _) = true then _ else _) = _
  rw [inV_strs]
  by_cases h : cutS z none (some 9) ++ s ∈ ts
  · rw [decide_eq_true h, if_pos h]
    rfl
  · rw [decide_eq_false h, if_neg h]
    rfl
theorem cand_name {z : Str} (hz : NameOk z) {c : Nat} (hc : c ∈ smallS.cps.toList) : NameOk (cutS z none (some 9) ++ ⟨#[c]⟩) := by
  have e : cutS z none (some 9) = ⟨(z.cps.toList.take 9).toArray⟩ := cutS_to z 9
  rw [e]
  refine ⟨?_, ?_, ?_⟩
  · show 1 ≤ (_ ++ _ : Array Nat).size
    rw [Array.size_append]
    show 1 ≤ _ + 1
    omega
  · show (_ ++ _ : Array Nat).size ≤ 10
    rw [Array.size_append]
    show (z.cps.toList.take 9).toArray.size + 1 ≤ 10
    rw [List.size_toArray, List.length_take]
    omega
  · intro d hd
    rw [app_cps] at hd
    simp at hd
    rcases hd with h | h
    · exact hz.2.2 d (by simpa using List.mem_of_mem_take h)
    · rw [h]
      exact hc
theorem cand {z : Str} {ts : List Str} (hz : NameOk z) (lt : ts.length < 26) : ∃ y r, (signs smallS).filterMap (candF z ts) = V.str y :: r ∧ NameOk y ∧ y ∉ ts := by
  cases q : (signs smallS).filterMap (candF z ts) with
  | nil =>
    exfalso
    have h1 : ∀ c ∈ smallS.cps.toList, cutS z none (some 9) ++ ⟨#[c]⟩ ∈ ts := by
      intro c hc
      have h := List.filterMap_eq_nil_iff.mp q (.str ⟨#[c]⟩) (List.mem_map.mpr ⟨c, hc, rfl⟩)
      rw [candF_eq] at h
      by_cases m : cutS z none (some 9) ++ ⟨#[c]⟩ ∈ ts
      · exact m
      · rw [if_neg m] at h
        cases h
    have h2 := pigeon (smallS.cps.toList.map fun c => cutS z none (some 9) ++ (⟨#[c]⟩ : Str)) ts (by
      refine List.pairwise_map.mpr (smallS_nd.imp fun {a b} hab e => hab ?_)
      have e1 : (cutS z none (some 9)).cps ++ #[a] = (cutS z none (some 9)).cps ++ #[b] := congrArg Str.cps e
      have e2 : (cutS z none (some 9)).cps.toList ++ [a] = (cutS z none (some 9)).cps.toList ++ [b] := by
        have := congrArg Array.toList e1
        simpa using this
      simpa using List.append_cancel_left e2) (fun y hy => by
      obtain ⟨c, hc, rfl⟩ := List.mem_map.mp hy
      exact h1 c hc)
    rw [List.length_map, smallS_len] at h2
    omega
  | cons v r =>
    have hv : v ∈ (signs smallS).filterMap (candF z ts) := by rw [q]; simp
    obtain ⟨u, hu, e⟩ := List.mem_filterMap.mp hv
    obtain ⟨c, hc, rfl⟩ := List.mem_map.mp hu
    rw [candF_eq] at e
    by_cases m : cutS z none (some 9) ++ ⟨#[c]⟩ ∈ ts
    · rw [if_pos m] at e
      cases e
    · rw [if_neg m] at e
      cases e
      exact ⟨_, r, rfl, cand_name hz hc, m⟩
abbrev sLname : Stmt := topS 38
abbrev nLname : List Str := ["_law_pool_here", "_law_taken", "_law_letters", "_law_size", "_law_name_here", "_law_k", "_law_letter"]
theorem scLname : FnScope nLname ["_law_pool_here", "_law_taken"] (defScope sLname) := ⟨rfl, rfl, rfl, by decide +kernel, rfl, by decide +kernel, by decide +kernel⟩
def spName : Sp := fun vs H Q _ => ∃ (p t : Addr) (S : Hp) (ts : List Str), vs = [.ref p, .ref t] ∧ Pool S H p ∧ H t = some (.lst (ts.map V.str)) ∧ t ≠ p ∧ ts.length < 26 ∧
  ∀ (z : Str) (S' H' : Hp), NameOk z → z ∉ ts → Pool S' H' p → Gr p S H S' H' → Q (.str z) H'
theorem sizes {d : Int} (h0 : 0 ≤ d) (h1 : d < 7) : ∃ n : Int, 1 ≤ n ∧ n ≤ 10 ∧ atI [V.int 1, V.int 1, V.int 2, V.int 3, V.int 4, V.int 6, V.int 10] d = some (V.int n) := by
  obtain rfl | rfl | rfl | rfl | rfl | rfl | rfl : d = 0 ∨ d = 1 ∨ d = 2 ∨ d = 3 ∨ d = 4 ∨ d = 5 ∨ d = 6 := by omega
  · exact ⟨1, by decide, by decide, rfl⟩
  · exact ⟨1, by decide, by decide, rfl⟩
  · exact ⟨2, by decide, by decide, rfl⟩
  · exact ⟨3, by decide, by decide, rfl⟩
  · exact ⟨4, by decide, by decide, rfl⟩
  · exact ⟨6, by decide, by decide, rfl⟩
  · exact ⟨10, by decide, by decide, rfl⟩
theorem ok_name (D : Df K mg "_law_name" sLname ["_law_pool_here", "_law_taken"] f fd) (DLdraw : Df K mg "_law_draw" sLdraw ["_law_pool_here", "_law_many"] fA fdA) (T : Bl mg) : FnOk P w K mg base CX0 2 f fd ["_law_pool_here", "_law_taken"] spName := by
  have GLdraw : FnOk P w K mg base CX0 1 fA fdA ["_law_pool_here", "_law_many"] spDraw := ok_draw DLdraw T
  refine D.fn.ok scLname (fun vs H Q E h => ?_) (fun cdv A outer s H vs Q E hr h => ?_)
  · obtain ⟨p, a, S, xs, rfl, _⟩ := h
    rfl
  · obtain ⟨p, t, S, ts, rfl, P0, ht, ntp, lt, q⟩ := h
    refine ⟨_, (pss_cons (ps_set (i := 2) scLname.nd rfl (Or.inr rfl) pe_str)
      (pss_cons (ps_set (i := 3) scLname.nd rfl (Or.inl rfl) (pe_ix ix_list (pe_lst (pa_cons pe_int (pa_cons pe_int (pa_cons pe_int (pa_cons pe_int (pa_cons pe_int (pa_cons pe_int (pa_cons pe_int pa_nil)))))))) (pe_df DLdraw GLdraw (hr.mono (by decide)) (pa_cons (pv 0) (pa_cons pe_int pa_nil))) (fun _ _ => rfl)))
      (pss_cons (ps_set (i := 4) scLname.nd rfl (Or.inr rfl) (pe_join pe_str (pe_lc (own := [("_law_k", 5)]) rfl scLname.nd (pi_range1 (by rfl) T.range (pa_cons (pv 3) pa_nil)) (blkOk_by (own := [("_law_k", 5)]) (N := nLname) (sc := defScope sLname) (by decide +kernel)) (fun _ _ _ _ _ => (pg_name (i := 5) scLname.nd rfl (Or.inl rfl))) (fun _ _ _ _ _ => pts_nil) (fun _ _ _ _ _ => (pe_ix ix_str (pv 2) (pe_df DLdraw GLdraw (hr.mono (by decide)) (pa_cons (pv 0) (pa_cons pe_int pa_nil))) (fun _ _ => rfl))))))
      (C8.pss_cut (ps_if (pt_cmpR op_in_seq (pv 4) (pv 1) (by rfl)) (pss_one (ps_set (i := 4) scLname.nd rfl (Or.inr rfl) (pe_ix ix_list (pe_lc (own := [("_law_letter", 6)]) rfl scLname.nd (pi_str (pv 2)) (blkOk_by (own := [("_law_letter", 6)]) (N := nLname) (sc := defScope sLname) (by decide +kernel)) (fun _ _ _ _ _ => (pg_name (i := 6) scLname.nd rfl (Or.inl rfl))) (fun _ _ _ _ _ => (pts_one (pt_cmpR (r := rIn K true) op_notIn_seq (pe_op op_add_str (pe_slice sl_str (pv 4) po_none (po_some pe_int)) (pv 6)) (pv 1) (by rfl)))) (fun _ _ _ _ _ => (pe_op op_add_str (pe_slice sl_str (pv 4) po_none (po_some pe_int)) (pv 6)))) pe_int (fun _ _ => rfl)))) pss_nil)
      (pss_one (ps_ret (pv 4))))))), ?_⟩
    refine ⟨by show 7 ≤ sizeLine; decide, fun l hl => ?_⟩
    have P1 := P0.new (o := .lst [V.int 1, V.int 1, V.int 2, V.int 3, V.int 4, V.int 6, V.int 10]) hl
    have g1 := (Gr.refl (p := p) (S := S) (H := H)).new (o := .lst [V.int 1, V.int 1, V.int 2, V.int 3, V.int 4, V.int 6, V.int 10]) P0.ss hl
    have nlp : l ≠ p := fun z => P0.has (by rw [← z]; exact hl)
    refine ⟨_, rfl, p, _, 7, rfl, by decide, by decide, P1, fun d S2 H2 P2 g2 d0 d1 => ?_⟩
    obtain ⟨n, n1, n2, hn⟩ := sizes d0 d1
    refine ⟨l, _, d, _, rfl, rfl, SqL.of (g2.rs _ _ nlp upd_same), hn, ?_⟩
    have g02 := g1.trans g2
    show tSeq _ _ _ [some (.ref p), some (.ref t), some (.str smallS), some (.int n), none, none, none] H2
    refine ⟨⟨_, rfl⟩, _, rfl, n, rfl, by omega, by omega, fun D1 hD1 => lc_range (lo := 0) (n := n.toNat) (fun i H' => ∃ (S' : Hp) (cs : List Nat), Pool S' H' p ∧ S' D1 = none ∧ Gr p S2 H2 S' H' ∧ H' D1 = some (.lst ((cs.map fun c => (⟨#[c]⟩ : Str)).map V.str)) ∧ cs.length = i ∧ ∀ c ∈ cs, c ∈ smallS.cps.toList) ?_ ?_ ?_⟩
    · refine ⟨S2, [], P2.put (P2.ss.free hD1) (fun z => P2.has (by rw [← z]; exact hD1)), P2.ss.free hD1, Gr.refl.put hD1, upd_same, rfl, fun c h => by cases h⟩
    · rintro i H' hi ⟨S', cs, P', sD, g', hD', lc, hc⟩
      have nDp : D1 ≠ p := fun z => P2.has (by rw [← z]; exact hD1)
      refine ⟨rfl, _, rfl, _, rfl, p, S', 26, rfl, by decide, by decide, P', fun e S3 H3 P3 g3 e0 e1 => ?_⟩
      have he : e.toNat < smallS.cps.toList.length := by rw [smallS_len]; omega
      refine ⟨smallS, e, smallS.cps.toList[e.toNat], rfl, rfl, by decide, at_ofG (j := e.toNat) (show e = ((e.toNat : Nat) : Int) by omega) (List.getElem?_eq_getElem he), ?_⟩
      obtain ⟨sD3, hD3⟩ := g3.loc nDp sD hD'
      refine ⟨_, hD3, ?_, S3, cs ++ [smallS.cps.toList[e.toNat]], P3.put sD3 nDp, sD3, (g'.trans g3).put hD1, ?_, ?_, ?_⟩
      · rw [List.length_map, List.length_map]
        exact small1000 (by omega)
      · rw [upd_same]
        simp
      · simp [lc]
      · intro c h
        rcases List.mem_append.mp h with h | h
        · exact hc c h
        · rw [List.mem_singleton.mp h]
          exact List.getElem_mem _
    · rintro H' ⟨S3, cs, P3, sD, g3, hD3, lc, hc⟩
      refine ⟨_, _, _, rfl, rfl, .inl (SqL.of hD3), ?_, ?_⟩
      · rw [sum_ones, List.length_map]
        show cs.length + cs.length * 0 ≤ _
        omega
      have nDp : D1 ≠ p := fun z => P2.has (by rw [← z]; exact hD1)
      have g03 : Gr p S H S3 H' := g02.trans g3
      have ht3 := g03.rs _ _ ntp ht
      have hz : NameOk ⟨cs.toArray⟩ := ⟨by show 1 ≤ cs.toArray.size; simp; omega, by show cs.toArray.size ≤ 10; simp; omega, by simpa using hc⟩
      rw [joined]
      show C8.tCut _ _ _ [some (.ref p), some (.ref t), some (.str smallS), some (.int n), some (.str ⟨cs.toArray⟩), none, none] H'
      generalize (⟨cs.toArray⟩ : Str) = z at hz ⊢
      refine ⟨fun σ H4 => ∃ (z : Str) (S4 : Hp), σ = [some (.ref p), some (.ref t), some (.str smallS), some (.int n), some (.str z), none, none] ∧ NameOk z ∧ z ∉ ts ∧ Pool S4 H4 p ∧ Gr p S H S4 H4, ?_, ?_⟩
      · refine ⟨_, rfl, _, rfl, t, _, rfl, .inl (SqL.of ht3), rfl, strs_flat ts, _, rfl, ite2 (fun c => ?_) (fun c => ?_)⟩
        · obtain ⟨y, r, ey, hy, ny⟩ := cand hz lt
          have hz10 := hz.2.1
          refine ⟨_, rfl, smallS, rfl, fun D2 hD2 => lc_pureS (candF z ts) (by decide) (fun _ => rfl) (fun v H5 hv s5 Q5 q5 => ?_) hD2 (fun H5 s5 h5 => ?_)⟩
          · obtain ⟨c, hc, rfl⟩ := List.mem_map.mp hv
            have l9 : (cutS z none (some 9)).length + (⟨#[c]⟩ : Str).length ≤ sizeLine := by
              have h := (cand_name hz hc).2.1
              have e : (cutS z none (some 9) ++ (⟨#[c]⟩ : Str)).length = (cutS z none (some 9)).length + (⟨#[c]⟩ : Str).length := Array.size_append
              rw [e] at h
              exact Nat.le_trans h (by decide)
            have hzl : z.length ≤ sizeLine := Nat.le_trans hz10 (by decide)
            refine ⟨_, rfl, 9, rfl, z, rfl, hzl, _, rfl, _, _, rfl, rfl, l9, _, rfl, t, _, rfl, .inl (SqL.of (s5 _ _ ht3)), rfl, strs_flat ts, _, rfl, ite2 (fun c5 => ?_) (fun c5 => ?_)⟩
            · refine ⟨_, rfl, 9, rfl, z, rfl, hzl, _, rfl, _, _, rfl, rfl, l9, ?_⟩
              have := q5 H5 (Same.refl _)
              rw [show candF z ts (V.str ⟨#[c]⟩) = some (.str (cutS z none (some 9) ++ ⟨#[c]⟩)) from if_pos c5] at this
              exact this
            · have := q5 H5 (Same.refl _)
              rw [show candF z ts (V.str ⟨#[c]⟩) = none from if_neg c5] at this
              exact this
          · rw [ey] at h5
            refine ⟨D2, _, 0, _, rfl, rfl, SqL.of h5, atI_nat (j := 0) rfl, y, S3, rfl, hy, ny, P3.same s5, g03.same s5⟩
        · refine ⟨z, S3, rfl, hz, ?_, P3, g03⟩
          intro hm
          apply c
          rw [inV_strs]
          exact decide_eq_true hm
      · rintro σ H4 ⟨z, S4, rfl, hz, hn, P4, g4⟩
        exact ⟨_, rfl, q z S4 H4 hz hn P4 g4⟩

abbrev sLnames : Stmt := topS 39
abbrev nLnames : List Str := ["_law_pool_here", "_law_many", "_law_names_here", "_law_k"]
theorem scLnames : FnScope nLnames ["_law_pool_here", "_law_many"] (defScope sLnames) := ⟨rfl, rfl, rfl, by decide +kernel, rfl, by decide +kernel, by decide +kernel⟩
def spNames : Sp := fun vs H Q _ => ∃ (p : Addr) (n : Int) (S : Hp), vs = [.ref p, .int n] ∧ Pool S H p ∧ 0 ≤ n ∧ n ≤ 26 ∧
  ∀ (a : Addr) (zs : List Str) (S' H' : Hp), Pool S' H' p → Gr p S H S' H' → S' a = some (.lst (zs.map V.str)) → (zs.length : Int) = n → (∀ z ∈ zs, NameOk z) → zs.Nodup → Q (.ref a) H'
theorem ok_names {fB : Addr} {fdB : FuncData} (D : Df K mg "_law_names" sLnames ["_law_pool_here", "_law_many"] f fd) (DLname : Df K mg "_law_name" sLname ["_law_pool_here", "_law_taken"] fB fdB) (DLdraw : Df K mg "_law_draw" sLdraw ["_law_pool_here", "_law_many"] fA fdA) (T : Bl mg) : FnOk P w K mg base CX0 3 f fd ["_law_pool_here", "_law_many"] spNames := by
  have GLname : FnOk P w K mg base CX0 2 fB fdB ["_law_pool_here", "_law_taken"] spName := ok_name DLname DLdraw T
  refine D.fn.ok scLnames (fun vs H Q E h => ?_) (fun cdv A outer s H vs Q E hr h => ?_)
  · obtain ⟨p, n, S, rfl, _⟩ := h
    rfl
  · obtain ⟨p, n, S, rfl, P0, n0, n1, q⟩ := h
    refine ⟨_, (pss_cons (ps_set (i := 2) scLnames.nd rfl (Or.inl rfl) (pe_lst pa_nil))
      (pss_cons (ps_for PassesOwn.never rfl (pi_range1 (by rfl) T.range (pa_cons (pv 1) pa_nil)) (pg_name (i := 3) scLnames.nd rfl (Or.inl rfl)) (pss_one (ps_expr (pe_bm PySem.F.plainAttrs_list PySem.F.slot_list_append PySem.F.type_list_append mt_append (pv 2) (pa_cons (pe_df DLname GLname (hr.mono (by decide)) (pa_cons (pv 0) (pa_cons (pv 2) pa_nil))) pa_nil)))))
      (pss_one (ps_ret (pv 2))))), ?_⟩
    refine ⟨Nat.zero_le _, fun l hl => ?_⟩
    have nlp : l ≠ p := fun z => P0.has (by rw [← z]; exact hl)
    refine ⟨_, rfl, n, rfl, by omega, by omega, for_range (lo := 0) (n := n.toNat) (fun i σ H' => ∃ (v : Option V) (S' : Hp) (zs : List Str), σ = [some (.ref p), some (.int n), some (.ref l), v] ∧ Pool S' H' p ∧ S' l = none ∧ Gr p S H S' H' ∧ H' l = some (.lst (zs.map V.str)) ∧ zs.length = i ∧ (∀ z ∈ zs, NameOk z) ∧ zs.Nodup) ?_ ?_ ?_⟩
    · exact ⟨none, S, [], rfl, P0.put (P0.ss.free hl) nlp, P0.ss.free hl, Gr.refl.put hl, upd_same, rfl, (fun z h => by cases h), List.nodup_nil⟩
    · rintro i σ H' hi ⟨v, S', zs, rfl, P', sl, g', hl', lz, hz, nd⟩
      refine ⟨_, rfl, .inl ⟨rfl, _, SqL.of hl'⟩, _, rfl, _, rfl, p, l, S', zs, rfl, P', hl', nlp, by omega, fun z S2 H2 hn hm P2 g2 => ?_⟩
      obtain ⟨sl2, hl2⟩ := g2.loc nlp sl hl'
      refine ⟨l, _, _, rfl, rfl, hl2, ?_, _, S2, zs ++ [z], rfl, P2.put sl2 nlp, sl2, (g'.trans g2).put hl, ?_, ?_, ?_, ?_⟩
      · rw [List.length_map]
        exact small1000 (by omega)
      · rw [upd_same]
        simp
      · simp [lz]
      · intro y hy
        rcases List.mem_append.mp hy with h | h
        · exact hz y h
        · rw [List.mem_singleton.mp h]
          exact hn
      · rw [List.nodup_append]
        refine ⟨nd, by simp, ?_⟩
        intro a ha b hb e
        rw [List.mem_singleton.mp hb] at e
        exact hm (e ▸ ha)
    · rintro σ H' ⟨v, S', zs, rfl, P', sl, g', hl', lz, hz, nd⟩
      exact ⟨_, rfl, q l zs _ H' (P'.fix hl' sl nlp) (g'.fix hl sl) upd_same (by omega) hz nd⟩
end
end WW

set_option Elab.async false
set_option linter.all false
set_option maxRecDepth 100000
set_option maxHeartbeats 4000000
namespace WW
open PySem PySem.Spec PyProof.Rows L2
open Sem (wp)
open AutoSeq1 (wpAny_loadPart')
theorem meets_enumerate_newT (l : Addr) (items : Array Value) (n : Nat) (dct : Option Addr) (sl : Array (Option Value)) :
    Meets (Builtin.«enumerate.__new__» ⟨[.type "enumerate", .ref l], []⟩) (fun _ R s => s.heap.get? l = some { cls := .type "tuple", dict := dct, data := .seq items n, slots := sl } ∧
      R (.ok (.ret (.ref (s.heap.push { cls := .type "tuple_iterator", data := .fields #[.ref l, .int 0 0] }).objs.size)))
        { s with heap := (s.heap.push { cls := .type "tuple_iterator", data := .fields #[.ref l, .int 0 0] }).push { cls := .type "enumerate", data := .fields #[.none, .bool false, .ref s.heap.objs.size, rawInt 0, .none, .none] } }) :=
  .of_wp fun prog w A R s h => by
    obtain ⟨hp, g, d, tk, os⟩ := s; obtain ⟨hl, h⟩ := h
    have hsub := sub_enumerate
    have hL : Heap.IsTuple (Shared.heap ⟨hp, g, d, tk, os⟩) l items := ⟨_, hl, rfl, n, rfl⟩
    wp_walk using wpAny_loadPart' hl
    refine wpAny_stack_any fun st => wpAny_pure ?_
    split
    · rename_i c _ _ _ _ _
      cases (c == Value.type "enumerate")
      · wp_walk using wpAny_loadPart' hl, wpAny_pyIter_tuple hL
        exact ⟨_, rfl, h⟩
      · wp_walk using wpAny_loadPart' hl, wpAny_pyIter_tuple hL
        exact ⟨_, rfl, h⟩
    · wp_walk using wpAny_loadPart' hl, wpAny_pyIter_tuple hL
      exact ⟨_, rfl, h⟩
theorem call_enumerate_tuple {prog : Program} {w : World} {A : Around} {E : Value → Shared → Prop} {s : Shared} {l : Addr} {items : Array Value} {Q : Value → Shared → Prop} (hL : s.heap.IsTuple l items)
    (h : ∀ h', IsEnum h' (s.heap.objs.size + 1) s.heap.objs.size 0 .none → h'.IsTupleIter s.heap.objs.size l 0 → h'.objs.size = s.heap.objs.size + 2 →
      (∀ b o, s.heap.get? b = some o → h'.get? b = some o) → Q (.ref (s.heap.objs.size + 1)) { s with heap := h' }) :
    wpAny (model prog w) A (call (.type "enumerate") [.ref l]) Q E s := by
  obtain ⟨⟨c, dct, dt, sl⟩, hl, hc, n, hd⟩ := hL
  replace hc : c = .type "tuple" := hc
  replace hd : dt = .seq items n := hd
  subst hc hd
  refine callType_new F.called_enumerate (by decide) (F.typeCall_enumerate_1 _) (F.newCall_enumerate_1 _) (fun obj => F.args_object_init_2 obj _) F.entry_enumerate_new
    (meets_enumerate_newT l items n dct sl) ⟨hl, ?_⟩
  have hz : (s.heap.push { cls := .type "tuple_iterator", data := .fields #[.ref l, .int 0 0] }).objs.size = s.heap.objs.size + 1 := Heap.size_push ..
  show _ ∧ _
  rw [hz]
  have he : IsEnum ((s.heap.push { cls := .type "tuple_iterator", data := .fields #[.ref l, .int 0 0] }).push
      { cls := .type "enumerate", data := .fields #[.none, .bool false, .ref s.heap.objs.size, rawInt 0, .none, .none] }) (s.heap.objs.size + 1) s.heap.objs.size 0 .none := by
    have := Heap.get?_push_size (s.heap.push { cls := .type "tuple_iterator", data := .fields #[.ref l, .int 0 0] })
      (o := { cls := .type "enumerate", data := .fields #[.none, .bool false, .ref s.heap.objs.size, rawInt 0, .none, .none] }) rfl
    rw [hz] at this; exact this
  refine ⟨⟨_, he, rfl⟩, h _ he ⟨_, Heap.get?_push_of_some _ (Heap.get?_push_size _ rfl), rfl, rfl⟩ (by rw [Heap.size_push, hz]) fun b o x => Heap.get?_push_of_some _ (Heap.get?_push_of_some _ x)⟩
/-- the tuple at a, each item in a new pair -/
def Itet (K : PySem.W.Frag) (a : Addr) : It :=
  ⟨fun i H => ∃ (xs : List V) (x : V), SqT K H a xs ∧ xs[i]? = some x, fun i H v H' => ∃ T x, v = .ref T ∧ H T = none ∧ H' = upd H T (.tup [.int (i : Nat), x]) ∧ ∀ xs, SqT K H a xs → xs[i]? = some x, fun i H => ∃ xs : List V, SqT K H a xs ∧ i = xs.length⟩
theorem turn_enumT {P : Program} {w : World} {K : PySem.W.Frag} {elts : List Expr} {kk : Nat} {tpos : Pos} (a e it : Addr) :
    Turn P w K (.Tuple elts kk tpos) (Itet K a) [e, it] e (fun i h => (∃ old, IsEnum h e it ((i : Nat) : Int) old) ∧ h.IsTupleIter it a i ∧ e ≠ it ∧ a ≠ it ∧ a ≠ e) where
  mem := by simp
  obj := fun i h st b hb => by
    obtain ⟨⟨old, he⟩, ⟨o, ho, hc, hd⟩, _⟩ := st
    have e' : b = e ∨ b = it := by simpa using hb
    rcases e' with z | z
    · rw [z]; exact ⟨_, he, fun v q => nomatch q⟩
    · rw [z]; exact ⟨o, ho, fun v q => by rw [hd] at q; cases q⟩
  keep := fun i h h' st k => let ⟨⟨old, he⟩, hi, hne⟩ := st; ⟨⟨old, k e (by simp) _ he⟩, hi.at fun o q => k it (by simp) o q, hne⟩
  item := by
    intro X hP hw hK hc i pins s σ H E I hf st hg
    subst hP hw hK
    obtain ⟨⟨old, he⟩, hit, hne, hai, hae⟩ := st
    obtain ⟨xs, x, hq, hx⟩ := hg
    obtain ⟨its, rv, p, hz⟩ := I.tuple hq
    obtain ⟨u, hu, ru⟩ := rv.get hx
    have hel : e < s.heap.objs.size := Heap.lt_size he
    have hil : it < s.heap.objs.size := by obtain ⟨_, q, _⟩ := hit; exact Heap.lt_size q
    have pt : s.heap.IsTuple a its.toArray := p
    refine wpAny_pyNext_enum_itemD (Draws.tuple (A := X.A.in1) (show X.A.in1.handled = none from I.ok.hd hc) it a hai its.toArray) he ⟨hit, pt⟩ (by
      have := (List.getElem?_eq_some_iff.mp hu).1
      simpa using this) hne (by simp [hne, Ne.symm hae]) fun u' h' tk hu' ho hst hT hsz hk => ?_
    have eu : u' = u := by
      have e1 : its.toArray[i]? = some u := by simpa using hu
      rw [e1] at hu'
      exact (Option.some.inj hu').symm
    subst eu
    refine ⟨_, rfl, wpAny_letOwnedTupleGo_enum (s := { s with heap := h', toks := tk + 1 }) ho fun h'' he' sb => ?_⟩
    have hT2 : h''.get? s.heap.objs.size = some { cls := .type "tuple", data := .seq #[.int i tk, u'] } := (sb.2 _ (Nat.ne_of_gt hel)).trans hT
    have new : ObjOk X.prog X.w (upd H s.heap.objs.size (.tup [.int (i : Nat), x])) h'' s.heap.objs.size (.tup [.int (i : Nat), x]) :=
      ⟨by show 2 ≤ sizeLine; decide, [.int i tk, u'], .cons ⟨_, rfl⟩ (.cons ru .nil), ⟨_, hT2, rfl, _, rfl⟩⟩
    have I1 : Inv X pins σ (upd H s.heap.objs.size (.tup [.int (i : Nat), x])) { s with heap := h'', toks := tk + 1 } :=
      I.turnedNew (ch := [e, it]) (fun b ob hb q => (sb.2 b (fun z => hb (by simp [z]))).trans (hk b ob (fun z => hb (by simp [z])) (fun z => hb (by simp [z])) q)) hf (Nat.le_refl _) new
    refine ⟨.ref s.heap.objs.size, _, I1, rfl, ⟨_, x, rfl, I.hok.fresh (Nat.le_refl _), rfl, fun ys hy => by rw [I.tuple_inj hy hq]; exact hx⟩, ⟨⟨u', ?_⟩, hst.1.at fun o q => (sb.2 it (Ne.symm hne)).trans q, hne, hai, hae⟩, fun b hb => ?_⟩
    · have e1 : ((i + 1 : Nat) : Int) = (i : Int) + 1 := by omega
      rw [e1]; exact he'
    · have hb' : b < s.heap.objs.size := by
        have e' : b = e ∨ b = it := by simpa using hb
        rcases e' with z | z
        · rw [z]; exact hel
        · rw [z]; exact hil
      rw [upd_ne (Nat.ne_of_lt hb')]
      exact (hf b hb).1
  done := by
    intro X hP hw hK hc i pins s σ H E I hf st hg
    subst hP hw hK
    obtain ⟨⟨old, he⟩, hit, hne, hai, hae⟩ := st
    obtain ⟨xs, hq, hx⟩ := hg
    obtain ⟨its, rv, p, hz⟩ := I.tuple hq
    obtain ⟨f0, f1, f2, f3, f4, f5⟩ := hf it (by simp)
    have hl := rv.length
    have pt : s.heap.IsTuple a its.toArray := p
    have ei : i = its.toArray.size := by rw [List.size_toArray, ← hl]; exact hx
    exact wpAny_pyNext_enum_endD (Draws.tuple (A := X.A.in1) (show X.A.in1.handled = none from I.ok.hd hc) it a hai its.toArray) he ⟨ei ▸ hit, pt⟩ fun h' eb => ⟨rfl, I.turned (t' := s.toks) (fun b o hb q => eb b o hb q) f0 f1 f3 f4 f5⟩
  self := fun A i s Q E st h => let ⟨⟨_, he⟩, _⟩ := st; wpAny_pyIter_enum he h
/-- enumerate of a list or of a tuple -/
def iEnumS (K : PySem.W.Frag) (ta : TA) : TI := fun σ H R => ta σ H fun vs H1 => (∃ a xs, vs = [.ref a] ∧ SqL K H1 a xs ∧ R (Ite K a) H1) ∨ (∃ a xs, vs = [.ref a] ∧ SqT K H1 a xs ∧ R (Itet K a) H1)
theorem pi_enumD {X : Cx} {e : Expr} {ta : TA} {p pos tpos : Pos} {elts : List Expr} {kk : Nat} (hg : Gl X "enumerate") (hm : X.mg "enumerate" = none) (ha : PA X [e] ta) (hs : starEach [e] X.env = [(false, eval e X.env)] := by rfl) :
    PI X (.Tuple elts kk tpos) (.Call (.Name "enumerate" p) [e] [] pos) (iEnumS X.K ta) := by
  refine ⟨fun pins s σ H R I h => ?_⟩
  refine Call_ (ld_blt I hg hm boot_enumerate (PyProof.Rows.callWith_type1 (thn (ha.run pos pins s σ H _ I h) fun us s1 ⟨vs, H1, I1, r1, q1⟩ => ?_) hs rfl))
  rcases q1 with ⟨a, xs, ex, hq, q⟩ | ⟨a, xs, ex, hq, q⟩
  · subst ex
    cases r1 with
    | cons r rr =>
      cases rr
      cases r
      obtain ⟨its, rv, p', hz⟩ := I1.list hq
      refine call_enumerate_list p'.isList fun h' he hit hsz hk => wpAny_pyIter_enum he ?_
      have I2 : Inv X pins σ H1 { s1 with heap := h' } := I1.kept (t' := s1.toks) hk
      refine ⟨s1.heap.objs.size + 1, [s1.heap.objs.size + 1, s1.heap.objs.size], _, _, H1, rfl, I2, turn_enum a (s1.heap.objs.size + 1) s1.heap.objs.size, ⟨⟨.none, he⟩, hit, Nat.succ_ne_self _⟩, fun b hb => ?_, q⟩
      have e' : b = s1.heap.objs.size + 1 ∨ b = s1.heap.objs.size := by simpa using hb
      have hle : s1.heap.objs.size ≤ b := by
        rcases e' with z | z
        · rw [z]; exact Nat.le_add_right _ _
        · rw [z]; exact Nat.le_refl _
      exact I1.fpOk hle (I1.hok.fresh hle)
  · subst ex
    cases r1 with
    | cons r rr =>
      cases rr
      cases r
      obtain ⟨its, rv, p', hz⟩ := I1.tuple hq
      have pt : s1.heap.IsTuple a its.toArray := p'
      have hal : a < s1.heap.objs.size := p'.lt
      refine call_enumerate_tuple pt fun h' he hit hsz hk => wpAny_pyIter_enum he ?_
      have I2 : Inv X pins σ H1 { s1 with heap := h' } := I1.kept (t' := s1.toks) hk
      refine ⟨s1.heap.objs.size + 1, [s1.heap.objs.size + 1, s1.heap.objs.size], _, _, H1, rfl, I2, turn_enumT a (s1.heap.objs.size + 1) s1.heap.objs.size, ⟨⟨.none, he⟩, hit, Nat.succ_ne_self _, Nat.ne_of_lt hal, Nat.ne_of_lt (Nat.lt_succ_of_lt hal)⟩, fun b hb => ?_, q⟩
      have e' : b = s1.heap.objs.size + 1 ∨ b = s1.heap.objs.size := by simpa using hb
      have hle : s1.heap.objs.size ≤ b := by
        rcases e' with z | z
        · rw [z]; exact Nat.le_add_right _ _
        · rw [z]; exact Nat.le_refl _
      exact I1.fpOk hle (I1.hok.fresh hle)
end WW

set_option Elab.async false
set_option linter.all false
set_option maxRecDepth 100000
set_option maxHeartbeats 4000000
namespace WW
open PySem PySem.Spec PyProof.Rows L2
/-! ### sets whose members are keys of one kind, with what their walk wants -/
theorem paired_perm {α β : Type} {R : α → β → Prop} {l l' : List β} (p : l'.Perm l) : ∀ {ls : List α}, Paired R ls l → ∃ ls', ls'.Perm ls ∧ Paired R ls' l' := by
  induction p with
  | nil => intro ls h; exact ⟨ls, List.Perm.refl _, h⟩
  | cons x _ ih =>
    intro ls h
    cases h with
    | cons r t =>
      obtain ⟨ls', p', h'⟩ := ih t
      exact ⟨_ :: ls', p'.cons _, .cons r h'⟩
  | swap x y l =>
    intro ls h
    cases h with
    | cons r t =>
      cases t with
      | cons r2 t2 => exact ⟨_, List.Perm.swap _ _ _, .cons r2 (.cons r t2)⟩
  | trans _ _ ih1 ih2 =>
    intro ls h
    obtain ⟨l2, p2, h2⟩ := ih2 h
    obtain ⟨l1, p1, h1⟩ := ih1 h2
    exact ⟨l1, p1.trans p2, h1⟩
theorem paired_snoc {α β : Type} {R : α → β → Prop} : ∀ {ls : List α} {l : List β} {x : α} {y : β}, Paired R ls l → R x y → Paired R (ls ++ [x]) (l ++ [y])
  | _, _, _, _, .nil, r => .cons r .nil
  | _, _, _, _, .cons q t, r => .cons q (paired_snoc t r)
theorem paired_mem {α β : Type} {R : α → β → Prop} : ∀ {ls : List α} {l : List β}, Paired R ls l → ∀ y ∈ l, ∃ x ∈ ls, R x y
  | _, _, .nil, _, h => by cases h
  | _, _, .cons q t, y, h => by
    rcases List.mem_cons.mp h with h | h
    · subst h
      exact ⟨_, by simp, q⟩
    · obtain ⟨x, hx, r⟩ := paired_mem t y h
      exact ⟨x, by simp [hx], r⟩
theorem paired_memL {α β : Type} {R : α → β → Prop} : ∀ {ls : List α} {l : List β}, Paired R ls l → ∀ x ∈ ls, ∃ y ∈ l, R x y
  | _, _, .nil, _, h => by cases h
  | _, _, .cons q t, y, h => by
    rcases List.mem_cons.mp h with h | h
    · subst h
      exact ⟨_, by simp, q⟩
    · obtain ⟨x, hx, r⟩ := paired_memL t y h
      exact ⟨x, by simp [hx], r⟩
def insG {κ : Type} [DecidableEq κ] (k : κ) (ks : List κ) : List κ := if k ∈ ks then ks else k :: ks
section
variable {P : Program} {w : World} {κ : Type} [DecidableEq κ] (knd : PySem.KeyKind P w κ)
def Ent (k : κ) (e : Int × Value) : Prop := knd.is k e.2 = true ∧ e.1 = knd.hash k ∧ e.2.scannable = true
/-- what is told of a set's content and table -/
def Tab (w : World) (es : Array (Int × Value)) (t : SetTable) (ks : List κ) : Prop :=
  (∃ ls, Paired (Ent knd) ls es.toList ∧ ls.Perm ks) ∧ ks.Nodup ∧ es.size < scanBound ∧ t.fits es.size = true ∧ Ris t.place.toList ∧ (w.params.followText "set-order" = true ∨ t.led = true)
def SetG (h : Heap) (a : Addr) (ks : List κ) : Prop := ∃ o es ep t, h.get? a = some o ∧ o.ExactSet ∧ o.data = .set es ep t ∧ Tab knd w es t ks
variable {knd}
theorem Tab.elems {es : Array (Int × Value)} {t : SetTable} {ks : List κ} (T : Tab knd w es t ks) : ElemsOf knd es.toList := fun e he => by
  obtain ⟨⟨ls, hp, _⟩, _⟩ := T
  obtain ⟨k, _, h1, h2, h3⟩ := paired_mem hp e he
  exact ⟨⟨k, h1, h2⟩, h3⟩
theorem Tab.mem {es : Array (Int × Value)} {t : SetTable} {ks : List κ} (T : Tab knd w es t ks) (k : κ) : (∃ e ∈ es.toList, knd.is k e.2 = true) ↔ k ∈ ks := by
  obtain ⟨⟨ls, hp, hpm⟩, _⟩ := T
  constructor
  · rintro ⟨e, he, h⟩
    obtain ⟨k', hk', h1, _⟩ := paired_mem hp e he
    rw [knd.inj _ _ _ h h1]
    exact hpm.mem_iff.mp hk'
  · intro h
    obtain ⟨e, he, h1, _⟩ := paired_memL hp k (hpm.mem_iff.mpr h)
    exact ⟨e, he, h1⟩
theorem Tab.size {es : Array (Int × Value)} {t : SetTable} {ks : List κ} (T : Tab knd w es t ks) : es.size = ks.length := by
  obtain ⟨⟨ls, hp, hpm⟩, _⟩ := T
  rw [← Array.length_toList, ← Paired.length hp, hpm.length_eq]
theorem SetG.setOf {h : Heap} {a : Addr} {ks : List κ} (R : SetG knd h a ks) : h.SetOf knd a (fun k => decide (k ∈ ks)) ks.length := by
  obtain ⟨o, es, ep, t, ho, hx, hd, T⟩ := R
  refine ⟨o, es, ep, t, ho, hx, hd, T.elems, fun k => ?_, T.2.2.1, T.2.2.2.1, T.size⟩
  rw [decide_eq_true_iff]
  exact (T.mem k).symm
theorem SetG.at {h h' : Heap} {a : Addr} {ks : List κ} (R : SetG knd h a ks) (k : ∀ o, h.get? a = some o → h'.get? a = some o) : SetG knd h' a ks := by
  obtain ⟨o, es, ep, t, ho, r⟩ := R
  exact ⟨o, es, ep, t, k o ho, r⟩
theorem SetG.fresh {h : Heap} : SetG knd (h.push { cls := .type "set", dict := none, data := .set #[] 0 (.fresh 0 0 (!w.params.followText "set-order")) }) h.objs.size [] := by
  refine ⟨_, #[], 0, _, Heap.get?_push_size _ rfl, ⟨rfl, rfl, rfl⟩, rfl, ⟨[], .nil, .nil⟩, List.nodup_nil, by decide, rfl, List.Pairwise.nil, ?_⟩
  cases q : w.params.followText "set-order" with
  | false => exact .inr (by show (!false) = true; rfl)
  | true => exact .inl rfl
end
section
variable {P : Program} {w : World} {κ : Type} [DecidableEq κ] {knd : PySem.KeyKind P w κ} {A : Around} {E : Value → Shared → Prop} {s : Shared} {a : Addr} {ks : List κ}
theorem put_there {h : Heap} {o : Obj} {es es' : Array (Int × Value)} {ep : Nat} {t t' : SetTable} (ho : h.get? a = some o) (hd : o.data = .set es ep t) :
    (h.update a (Obj.putSet es' t')).get? a = some { o with data := .set es' (ep + 1) t' } := by
  have e := Heap.get?_update_self (Obj.putSet es' t') ho (by rw [putSet_of es' t' hd]; rfl)
  rwa [putSet_of es' t' hd] at e
/-- what stands behind the new item's laying -/
theorem laid_tail {g : Bool → Sem Unit} (hg : ∀ (b : Bool) (s1 : Shared) (Q : Unit → Shared → Prop), Q () s1 → wpAny (model P w) A (g b) Q E s1) {o : Obj} {es es1 : Array (Int × Value)} {ep : Nat} {t t2 : SetTable} {ks' : List κ} {dm : Bool} {R : Option Bool → Shared → Prop} (ho : s.heap.get? a = some o) (hx : o.ExactSet) (hd : o.data = .set es ep t)
    (T : Tab knd w es1 t2 ks') (hR : ∀ h', Heap.SameBut a s.heap h' → SetG knd h' a ks' → R (some true) { s with heap := h' }) :
    wpAny (model P w) A (do
      storeSet a es1 t2
      if (!dm && t2.tooFull) = true then do
        g (relayAll t2 es1 (SetTable.grown es1.size)).2.2
        storeSet a (relayAll t2 es1 (SetTable.grown es1.size)).1 (relayAll t2 es1 (SetTable.grown es1.size)).2.1
        pure (some true)
      else pure (some true)) R E s := by
  refine wpAny_bind (wpAny_storeSet_of ho hd ?_ (fits_of_scanBound T.2.2.1))
  have o1 := put_there (es' := es1) (t' := t2) ho hd
  have b1 := Heap.SameBut.update s.heap a (Obj.putSet es1 t2)
  split
  · obtain ⟨⟨ls, hp, hpm⟩, nd, hb, hf, hr, hl⟩ := T
    have q1 := relayAll_perm t2 es1 (SetTable.grown es1.size)
    have q2 := relayAll_fits t2 es1 (SetTable.grown es1.size)
    have q3 := relayAll_ris t2 es1 (SetTable.grown es1.size)
    have q4 := relayAll_led t2 es1 (SetTable.grown es1.size)
    generalize relayAll t2 es1 (SetTable.grown es1.size) = z at q1 q2 q3 q4 ⊢
    obtain ⟨es2, t3, gv⟩ := z
    dsimp only at q1 q2 q3 q4 ⊢
    have sz : es2.size = es1.size := by rw [← Array.length_toList, ← Array.length_toList, q1.length_eq]
    refine wpAny_bind (hg _ _ _ (wpAny_bind (wpAny_storeSet_of o1 rfl (wpAny_pure (hR _ (b1.trans (Heap.SameBut.update _ a _)) ?_)) (fits_of_scanBound (by rw [sz]; exact hb)))))
    obtain ⟨ls', p', h'⟩ := paired_perm q1 hp
    exact ⟨_, es2, _, t3, put_there o1 rfl, hx, rfl, ⟨ls', h', p'.trans hpm⟩, nd, by rw [sz]; exact hb, q2, q3, hl.imp id fun z => by rw [q4]; exact z⟩
  · exact wpAny_pure (hR _ b1 ⟨_, es1, _, t2, o1, hx, rfl, T⟩)
theorem addG_hashed {k : κ} {x : Value} {Q : Bool → Shared → Prop} (hk : knd.is k x = true) (hsc : x.scannable = true) (R : SetG knd s.heap a ks) (room : ks.length + 1 < scanBound)
    (hQ : ∀ b h', Heap.SameBut a s.heap h' → SetG knd h' a (insG k ks) → Q b { s with heap := h' }) :
    wpAny (model P w) A (setAddHashed a x (knd.hash k)) Q E s := by
  obtain ⟨o, es, ep, t, ho, hx, hd, T⟩ := id R
  unfold setAddHashed setAddHashedIn
  refine wpAny_holding (wpAny_bind (wpAny_setState_of ho hd T.2.2.2.1 ?_))
  dsimp only
  rw [byScan_of hsc T.2.2.1 T.elems]
  simp only [↓reduceIte]
  unfold setAddByScan
  refine wpAny_bind (wpAny_bind (wpAny_rule (wpAny_bind (wpAny_setScan_of hk ho hd T.2.2.2.1 T.elems ?_))))
  cases hfi : List.findIdx? (fun e => knd.is k e.2) es.toList with
  | some j =>
    dsimp only
    obtain ⟨hj, pj, _⟩ := List.findIdx?_eq_some_iff_getElem.mp hfi
    have m : k ∈ ks := (T.mem k).mp ⟨_, List.getElem_mem hj, pj⟩
    refine wpAny_pure (wpAny_pure (hQ _ s.heap (Heap.SameBut.refl a s.heap) ?_))
    rw [insG, if_pos m]
    exact R
  | none =>
    dsimp only
    have m : k ∉ ks := fun z => by
      obtain ⟨e, he, q⟩ := (T.mem k).mpr z
      have c := List.findIdx?_eq_none_iff.mp hfi e he
      rw [q] at c
      cases c
    have hQ' : ∀ h', Heap.SameBut a s.heap h' → SetG knd h' a (k :: ks) → Q true { s with heap := h' } := fun h' sb g => hQ true h' sb (by rw [insG, if_neg m]; exact g)
    obtain ⟨⟨ls, hp, hpm⟩, nd, hb, hf, hr, hl⟩ := id T
    have q1 := layNew_perm t es (knd.hash k) x
    have q2 := layNew_fits t es (knd.hash k) x
    have q3 := layNew_ris t es (knd.hash k) x hr
    have q4 := layNew_led t es (knd.hash k) x
    generalize layNew t es (knd.hash k) x = z at q1 q2 q3 q4 ⊢
    obtain ⟨es1, t1, dm, gv⟩ := z
    dsimp only at q1 q2 q3 q4 ⊢
    rw [Array.toList_push] at q1
    obtain ⟨ls', p', h'⟩ := paired_perm q1 (paired_snoc hp (show Ent knd k (knd.hash k, x) from ⟨hk, rfl, hsc⟩))
    have p2 : ls'.Perm (k :: ks) := p'.trans ((List.perm_append_singleton _ _).trans (hpm.cons _))
    have sz : es1.size = ks.length + 1 := by
      rw [← Array.length_toList, q1.length_eq, List.length_append, Array.length_toList, T.size]
      rfl
    have T1 : ∀ t2 : SetTable, t2.fits es1.size = true → t2.place = t1.place → t2.led = t1.led → Tab knd w es1 t2 (k :: ks) := fun t2 f2 e1 e2 =>
      ⟨⟨ls', h', p2⟩, List.nodup_cons.mpr ⟨m, nd⟩, by rw [sz]; exact room, f2, by rw [e1]; exact q3, hl.imp id fun z => by rw [e2, q4]; exact z⟩
    have told : ∀ (b : Bool) {s1 : Shared} {Q1 : Unit → Shared → Prop}, Q1 () s1 → wpAny (model P w) A (match b with | true => rule "set.scan.the-table-gave-way" | false => pure ()) Q1 E s1 := fun b s1 Q1 q => by
      cases b
      · exact wpAny_pure q
      · exact wpAny_rule q
    refine wpAny_bind (told _ ?_)
    split
    · refine wpAny_bind ?_
      rw [hashByValue_scannable 8 hsc]
      refine wpAny_pure ?_
      refine laid_tail (by intro b s1 Q1 q; cases b <;> first | exact wpAny_pure q | exact wpAny_rule q) (knd := knd) (ks' := k :: ks) ho hx hd (T1 _ ?_ ?_ ?_) fun h' sb g => wpAny_pure (hQ' h' sb g)
      · split
        · exact q2
        · exact SetTable.fits_plain_off q2
      · split <;> rfl
      · split <;> rfl
    · refine wpAny_bind (wpAny_pure ?_)
      simp only [↓reduceIte]
      exact laid_tail (by intro b s1 Q1 q; cases b <;> first | exact wpAny_pure q | exact wpAny_rule q) (knd := knd) (ks' := k :: ks) ho hx hd (T1 _ q2 rfl rfl) fun h' sb g => wpAny_pure (hQ' h' sb g)
end

/-! ### as a tracked thing; add; the comprehension; sorted -/
def SetKo (P : Program) (w : World) (a : Addr) (ks : List Key) : HO := .ext fun h => SetG (mixKind P w) h a ks
theorem setKo_new {P : Program} {w : World} {H : Hp} {h : Heap} {a : Addr} {ks : List Key} (R : SetG (mixKind P w) h a ks) : ObjOk P w H h a (SetKo P w a ks) := by
  obtain ⟨o, es, ep, t, ho, _⟩ := id R
  exact ⟨R, ⟨o, ho⟩, fun _ _ p k => SetG.at p k⟩
section
variable {X : Cx} {pins : List (Addr × Obj)} {σ : L2.St} {H : Hp} {s : Shared}
theorem setKo_get {a : Addr} {ks : List Key} (I : L2.Inv X pins σ H s) (ha : H a = some (SetKo X.prog X.w a ks)) : SetG (mixKind X.prog X.w) s.heap a ks := (I.hok a _ ha).1
theorem kV_sc {k : Key} {u : Value} (r : RelV (kV k) u) : keyIs k u = true ∧ u.scannable = true := by
  cases k with
  | inl i =>
    obtain ⟨t, rfl⟩ := r
    exact ⟨keyIs_int i t, rfl⟩
  | inr x =>
    obtain ⟨t, rfl⟩ := r
    exact ⟨keyIs_str x t, rfl⟩
theorem addK_ok {E : Value → Shared → Prop} {D : Addr} {ks : List Key} {k : Key} {u : Value} {Q : Value → Shared → Prop} (I : L2.Inv X pins σ H s) (hD : H D = some (SetKo X.prog X.w D ks)) (r : RelV (kV k) u) (room : ks.length + 1 < scanBound)
    (h : ∀ s', L2.Inv X pins σ (upd H D (SetKo X.prog X.w D (insG k ks))) s' → Q .none s') : wpAny (model X.prog X.w) X.A (call (.builtin "set.add") [.ref D, u]) Q E s := by
  have R := setKo_get I hD
  obtain ⟨hk, hsc⟩ := kV_sc r
  refine wpAny_call_entry F.slot_set_add R.setOf.typeIs F.entry_set_add ?_ (F.args_set_add_2 _ _)
  unfold Builtin.«set.add» Builtin.Frozenset.oneOther
  simp only [List.isEmpty_nil, bind_assoc]
  unfold Builtin.Frozenset.addrOf setAdd
  refine wpAny_bind (wpAny_pure ?_)
  try dsimp only
  refine wpAny_bind (wpAny_pure ?_)
  try dsimp only
  refine wpAny_bind (wpAny_holding (wpAny_bind ((mixKind X.prog X.w).pyHash (k := k) hk ?_)))
  refine addG_hashed (knd := mixKind X.prog X.w) (s := { s with toks := s.toks + 1 }) hk hsc R room fun b h' sb new => ?_
  show wpAny _ _ (ret Value.none) _ _ _
  obtain ⟨o, _, _, _, ho, _⟩ := id new
  exact wpAny_pure ⟨_, rfl, h _ (I.write (e := D) (t' := s.toks + 1) (by rw [hD]; trivial) (.inl rfl) (fun b u hb hu => (sb.2 b hb).trans hu) ⟨o, ho⟩ (setKo_new new))⟩
end
section
variable {X : Cx}
def tScK (P : Program) (w : World) (wi : TI) (g : TG) (tt : TT) (te : TE) (vs : List Nat) : TE := fun σ H Q => wi σ H fun J H1 => ∀ D, H1 D = none → ∃ W : Nat → Nat → Hp → Prop, (∃ m, W 0 m (upd H1 D (SetKo P w D []))) ∧ ∀ i m H, W i m H →
  (J.stop i H ∧ Q (.ref D) H) ∨ (J.go i H ∧ ∃ Nx : Hp → Prop, (∀ H', Nx H' → ∃ m', m' < m ∧ W (i + 1) m' H') ∧ ∀ x H', J.yld i H x H' → g x (wipe σ vs) H' fun σ2 H2 => wipe σ2 vs = wipe σ vs ∧ tt σ2 H2 fun b H3 =>
    if b = true then te σ2 H3 fun y H4 => ∃ (k : Key) (ks : List Key), y = kV k ∧ H4 D = some (SetKo P w D ks) ∧ ks.length + 1 < scanBound ∧ Nx (upd H4 D (SetKo P w D (insG k ks))) else Nx H3)
theorem pe_scK {elt tg iter : Expr} {ifs : List Expr} {scope : Scope} {own : List (Str × Nat)} {pos : Pos} {wi : TI} {g : TG} {tt : TT} {te : TE} (hc : X.calm = true) (hN : X.N.Nodup) (hi : PI X tg iter wi) (ok : BlkOk X.N X.env.scope scope own)
    (hg : ∀ (s : Shared) (H : Hp) (C : Addr) (cl : List (Str × Addr)) (fp : List Addr), PG (X.blk s H scope (compEnvC scope cl C X.env) fp) tg g) (ht : ∀ (s : Shared) (H : Hp) (C : Addr) (cl : List (Str × Addr)) (fp : List Addr), PTs (X.blk s H scope (compEnvC scope cl C X.env) fp) ifs tt)
    (he : ∀ (s : Shared) (H : Hp) (C : Addr) (cl : List (Str × Addr)) (fp : List Addr), PE (X.blk s H scope (compEnvC scope cl C X.env) fp) elt te) (hs : ∀ x, foldedSetIterable iter X.env x = pure x := by intro _; rfl) :
    PE X (.SetComp elt [⟨tg, iter, ifs, 0⟩] scope pos) (tScK X.prog X.w wi g tt te (own.map (·.2))) := by
  refine ⟨fun pins s σ H Q I h => ?_⟩
  rw [PpSet.eval_SetComp]
  refine wpAny_comprehension_free (use := none) rfl hs (closure_ok fun y hy e => (ok.free y hy e).elim (fun k => I.ok.has _ (.inl k)) fun k => I.ok.has _ (.inr k)) ok.kind (fun y hy e => by rw [ok.uniq y hy, e])
    (thn (hi.run pins s σ H _ I h) fun xv s1 hx => thn hx fun itv s2 h2 => ?_)
  obtain ⟨it, fp, tn, J, H2, rfl, I2, T, st2, f2, q⟩ := h2
  refine PpSet.newSet_ok (newEnv_comp ?_)
  obtain ⟨W, ⟨m0, w0⟩, turn⟩ := q s2.heap.objs.size (I2.hok.fresh (Nat.le_refl _))
  have I3 : L2.Inv X pins σ (upd H2 s2.heap.objs.size (SetKo X.prog X.w s2.heap.objs.size [])) { s2 with heap := s2.heap.push { cls := .type "set", dict := none, data := .set #[] 0 (.fresh 0 0 (!X.w.params.followText "set-order")) } } :=
    I2.laid (t' := s2.toks) (fun b o e => Heap.get?_push_of_some _ e) (Nat.le_refl _) (setKo_new SetG.fresh)
  have lt2 : ∀ b ∈ fp, b < s2.heap.objs.size := fun b hb => let ⟨_, e, _⟩ := T.obj _ _ st2 b hb; Heap.lt_size e
  generalize hD : s2.heap.objs.size = D at I3 w0 turn lt2
  generalize hS : ({ s2 with heap := s2.heap.push { cls := .type "set", dict := none, data := .set #[] 0 (.fresh 0 0 (!X.w.params.followText "set-order")) } } : Shared) = s3 at I3
  have h3 : s3.heap = s2.heap.push { cls := .type "set", dict := none, data := .set #[] 0 (.fresh 0 0 (!X.w.params.followText "set-order")) } := by rw [← hS]
  have st3 : tn 0 s3.heap := T.keep _ _ _ st2 fun b _ o e => by rw [h3]; exact Heap.get?_push_of_some _ e
  generalize hH : upd H2 D (SetKo X.prog X.w D []) = H3 at I3 w0
  have f3 : ∀ b ∈ fp, FpOk X pins H3 b ∧ b < s3.heap.objs.size := fun b hb => by
    refine ⟨⟨?_, (f2 b hb).2⟩, by rw [h3, Heap.size_push, hD]; exact Nat.lt_succ_of_lt (lt2 b hb)⟩
    rw [← hH, upd_ne (Nat.ne_of_lt (lt2 b hb))]
    exact (f2 b hb).1
  have I4 := block_start I3 ok hN f3
  have pg := hg s3 H3 s3.heap.objs.size (cellsFrom (s3.heap.objs.size + 1) scope.names (cloFrom X.env.cells scope.names [])) fp
  have pt := ht s3 H3 s3.heap.objs.size (cellsFrom (s3.heap.objs.size + 1) scope.names (cloFrom X.env.cells scope.names [])) fp
  have pe := he s3 H3 s3.heap.objs.size (cellsFrom (s3.heap.objs.size + 1) scope.names (cloFrom X.env.cells scope.names [])) fp
  suffices goal : codeAny (model X.prog X.w) X.A (.compStart (.SetComp elt [⟨tg, iter, ifs, 0⟩] scope pos) 0 (.ref it) (.ref D) (compEnvC scope (cellsFrom (s3.heap.objs.size + 1) scope.names (cloFrom X.env.cells scope.names [])) s3.heap.objs.size X.env))
      (compPost (model X.prog X.w) X.A X.xe none (EP X pins σ Q) (.ref D) s3.heap.objs.size) { s3 with heap := pushCells (s3.heap.push { cls := .type "dict", data := .dict #[] }) scope.names } by
    subst hD
    subst hS
    exact goal
  generalize hce : compEnvC scope (cellsFrom (s3.heap.objs.size + 1) scope.names (cloFrom X.env.cells scope.names [])) s3.heap.objs.size X.env = ce at I4 pg pt pe ⊢
  have cL : ce.locals = s3.heap.objs.size := by subst hce; rfl
  generalize hs4 : ({ s3 with heap := pushCells (s3.heap.push { cls := .type "dict", data := .dict #[] }) scope.names } : Shared) = s4 at I4 ⊢
  have st4 : tn 0 s4.heap := T.keep _ _ _ st3 fun b _ o e => by rw [← hs4]; exact pushCells_keeps _ _ _ _ (Heap.get?_push_of_some _ e)
  have fpB : ∀ {σ' : L2.St} {H' : Hp} {s' : Shared}, L2.Inv (X.blk s3 H3 scope ce fp) [] σ' H' s' → (∀ b ∈ fp, H' b = none) → ∀ b ∈ fp, FpOk (X.blk s3 H3 scope ce fp) [] H' b := fun I' n b hb =>
    ⟨n b hb, (I'.ok.exf b hb).1, I'.ok.exfs b hb, .inl hb, fun x c e => (I'.ok.exf b hb).2 x c e, fun p hp => absurd (show p ∈ ([] : List (Addr × Obj)) ++ [] from hp) (by simp)⟩
  have round : codeAny (model X.prog X.w) X.A (.compLoop (.SetComp elt [⟨tg, iter, ifs, 0⟩] scope pos) 0 (.ref it) (.ref D) ce) (compPost (model X.prog X.w) X.A X.xe none (EP X pins σ Q) (.ref D) s3.heap.objs.size) s4 := by
    refine PpSet.compLoopS_any (fun n s' => ∃ i H', L2.Inv (X.blk s3 H3 scope ce fp) [] (wipe σ (own.map (·.2))) H' s' ∧ tn i s'.heap ∧ (∀ b ∈ fp, H' b = none) ∧ W i n H') ?_ m0 ⟨0, H3, I4, st4, fun b hb => (f3 b hb).1.1, w0⟩
    rintro n s5 ⟨i, H5, I5, st5, n5, w5⟩
    rcases turn i n H5 w5 with ⟨stop, q5⟩ | ⟨go, Nx, hNx, step⟩
    · refine thnF (T.done (X.blk s3 H3 scope ce fp) rfl rfl rfl hc i [] s5 _ H5 (fun _ _ => False) I5 (fpB I5 n5) st5 stop) fun r s6 ⟨hr, I6⟩ => ?_
      subst hr
      have I7 : L2.Inv X pins σ H5 s6 := I3.call' (ch := fp) I6.os I6.base I6.hok I6.bare fun b hb => ⟨(f3 b hb).1.2.2.2.1, (f3 b hb).1.2.1, (f3 b hb).1.2.2.2.2.1, (f3 b hb).1.2.2.2.2.2⟩
      have nC : H5 s3.heap.objs.size = none := by
        have z : H5 ce.locals = none := I6.free
        rwa [cL] at z
      obtain ⟨m, hn, _⟩ := I6.loc
      have hn' : s6.heap.Ns s3.heap.objs.size m := by
        rw [← cL]
        exact hn
      obtain ⟨f0, f1, g2, g3, g4, g5⟩ := I3.fpOk (b := s3.heap.objs.size) (Nat.le_refl _) nC
      exact ⟨m, hn', fun h'' sb => ⟨.ref D, H5, I7.turned (t' := s6.toks) (fun b o hb e => (sb.2 b hb).trans e) f0 f1 g3 g4 g5, rfl, q5⟩⟩
    · refine thnF (T.item (X.blk s3 H3 scope ce fp) rfl rfl rfl hc i [] s5 _ H5 (fun _ _ => False) I5 (fpB I5 n5) st5 go) fun r s6 ⟨u, hr, h6⟩ => ?_
      subst hr
      refine thnF h6 fun _ s7 ⟨x, H7, I7, r7, y7, st7, n7⟩ => ?_
      refine thnF (pg.run _ s7 _ H7 x u _ (I7.pinned (fpB I7 n7) (T.obj _ _ st7)) r7 (step x H7 y7)) fun _ s8 ⟨σ8, H8, I8, hw8, q8⟩ => ?_
      refine thnF (pt.run _ s8 σ8 H8 _ I8 q8) fun b s9 ⟨H9, I9, q9⟩ => ?_
      have turned : ∀ {s' : Shared} {H' : Hp}, L2.Inv (X.blk s3 H3 scope ce fp) ([] ++ pinsAt fp s7.heap) σ8 H' s' → Nx H' → ∃ m, m < n ∧ ∃ i H', L2.Inv (X.blk s3 H3 scope ce fp) [] (wipe σ (own.map (·.2))) H' s' ∧ tn i s'.heap ∧ (∀ b ∈ fp, H' b = none) ∧ W i m H' := fun {s' H'} I' nx => by
        obtain ⟨m', hm, w'⟩ := hNx H' nx
        have stay : ∀ b ∈ fp, ∀ o, s7.heap.get? b = some o → s'.heap.get? b = some o ∧ H' b = none := fun b hb o e => by
          obtain ⟨z1, z2, _⟩ := I'.pin (b, o) (List.mem_append_right _ (List.mem_append_right _ (mem_pinsAt hb e)))
          exact ⟨z1, z2⟩
        refine ⟨m', hm, i + 1, H', (I'.unpinned (pins := [])).weak (by rw [← hw8, wipe_length]) (fun j v e => ?_), T.keep _ _ _ st7 fun b hb o e => (stay b hb o e).1, fun b hb => ?_, w'⟩
        · rw [← hw8] at e
          exact (wipe_some e).1
        · obtain ⟨o, e, _⟩ := T.obj _ _ st7 b hb
          exact (stay b hb o e).2
      cases b with
      | false =>
        rw [if_neg Bool.false_ne_true] at q9
        rw [if_neg Bool.false_ne_true]
        exact turned I9 q9
      | true =>
        rw [if_pos rfl] at q9
        rw [if_pos rfl]
        refine thnF (pe.run _ s9 σ8 H9 _ I9 q9) fun z s10 ⟨yv, H10, I10, r10, kk, ks, ey, hD10, room, nx⟩ => ?_
        subst ey
        exact addK_ok (X := X.blk s3 H3 scope ce fp) I10 hD10 r10 room fun s11 I11 => turned I11 nx
  exact PpSet.codeAny_compStart_set round (T.self X.A 0 _ _ _ st4 round)
end
end WW

set_option Elab.async false
set_option linter.all false
set_option maxRecDepth 100000
set_option maxHeartbeats 4000000
namespace WW
open PySem PySem.Spec PyProof.Rows L2
/-! ### sorted of data: a list, a tuple, a set of texts -/
def leD (x y : V × PyData) : Bool := PySem.W.dataLe false (fun z : V × PyData => z.2) x y
def srtD (xs : List (V × PyData)) : List V := (xs.mergeSort (PySem.W.dataLe false fun z : V × PyData => z.2)).map (·.1)
section
variable {X : Cx} {pins : List (Addr × Obj)} {σ : L2.St} {H : Hp} {s : Shared}
theorem vals_each {R : Value → V × PyData → Prop} : ∀ {xs : List (V × PyData)} {vs : List Value}, Vals (xs.map (·.1)) vs → (∀ x u, x ∈ xs → RelV x.1 u → R u x) → PySem.W.EachIs R vs xs
  | [], _, h, _ => by cases h; exact .nil
  | x :: xs, _, h, f => by
    cases h with
    | cons r t => exact .cons (f x _ (by simp) r) (vals_each t fun y u hy => f y u (by simp [hy]))
theorem each_vals : ∀ {xs : List (V × PyData)} {vs : List Value}, PySem.W.EachIs (fun u (x : V × PyData) => RelV x.1 u) vs xs → Vals (xs.map (·.1)) vs
  | [], _, h => by cases h; exact .nil
  | x :: xs, _, h => by
    cases h with
    | cons r t => exact .cons r (each_vals t)
/-- what stands behind sorted's gathering of the items -/
theorem sort_tail {A : Around} {E : Value → Shared → Prop} {Q : VK} {xs : List (V × PyData)} {vs : List Value} (I : L2.Inv X pins σ H s) (r : Vals (xs.map (·.1)) vs) (hd : ∀ x ∈ xs, Dp X.K H x.1 x.2)
    (hal : PySem.W.AllAlike (xs.map (·.2))) (hso : PySem.W.Sortable (xs.map (·.2))) (hn : xs.length ≤ sizeLine) (hu : ∀ x ∈ xs, A.units + 1 + x.2.depth < cLine)
    (q : ∀ p, H p = none → Q (.ref p) (upd H p (.lst (srtD xs)))) :
    wpAny (model X.prog X.w) A (do
      let l ← newList vs
      let _ ← holding [l] (call (.builtin "list.sort") [l])
      ret l) (fun fin s' => ∃ v, fin = Fin.done (Flow.ret v) ∧ EP X pins σ Q v s') E s := by
  have hvl : vs.length = xs.length := by rw [← r.length, List.length_map]
  refine wpAny_bind (wpAny_newList ?_ (by rw [hvl]; exact hn))
  have hat : (s.heap.push (seqObj "list" vs.toArray 0)).get? s.heap.objs.size = some (seqObj "list" vs.toArray 0) := Heap.get?_push_size _ rfl
  have er : PySem.W.EachIs (fun v (b : V × PyData) => ∃ as, Reads (PySem.W.sortingHeap (s.heap.push (seqObj "list" vs.toArray 0)) s.heap.objs.size vs) v b.2 as) vs xs := vals_each r fun x u hx ru => by
    obtain ⟨as, hr⟩ := Dp.reads I x.2 x.1 u (hd x hx) ru
    exact ⟨as, PyProof.Rows.Reads.keeps (fun b o e => PySem.W.sortingHeap_old (Nat.ne_of_lt (Heap.lt_size e)) (Heap.get?_push_of_some _ e)) hr⟩
  have ev : PySem.W.EachIs (fun u (x : V × PyData) => RelV x.1 u) vs xs := vals_each r fun x u _ ru => ru
  show wpAny _ _ _ _ _ { s with heap := s.heap.push (seqObj "list" vs.toArray 0) }
  refine wpAny_bind (wpAny_holding (wpAny_call_entry slot_list_sort ⟨_, hat, rfl⟩ entry_list_sort
    (PySem.W.list_sort_vals (κ := PySem.W.dataKind (PySem.W.sortingHeap (s.heap.push (seqObj "list" vs.toArray 0)) s.heap.objs.size vs) (xs.map (·.2))) (s := { s with heap := s.heap.push (seqObj "list" vs.toArray 0) }) hat
      (PySem.W.SortsAt.data (PySem.W.each_map (fun b : V × PyData => b.2) er) hal hso (PySem.W.bound_map hu)) (by rw [hvl]; exact hn) ⟨_, rfl, ?_⟩) (args_list_sort _)))
  have eo := PySem.W.sortVals_data false ev er hal
  generalize PySem.W.sortVals (PySem.W.dataKind (PySem.W.sortingHeap (s.heap.push (seqObj "list" vs.toArray 0)) s.heap.objs.size vs) (xs.map (·.2))) false vs vs = out at eo ⊢
  have rv := each_vals eo
  obtain ⟨ep, ho⟩ := sortedHeap_at (vs := vs) (out := out.toArray) hat
  have hl : (srtD xs).length ≤ sizeLine := by
    unfold srtD
    rw [List.length_map, List.length_mergeSort]
    exact hn
  refine wpAny_pure ⟨_, rfl, .ref s.heap.objs.size, upd H s.heap.objs.size (.lst (srtD xs)), I.laid (t' := s.toks) (fun b u e => ?_) (Nat.le_refl _) ⟨hl, out, ep, rv, ho⟩, rfl, q _ (I.hok.fresh (Nat.le_refl _))⟩
  have hb := Heap.lt_size e
  rw [sortedHeap_old (Nat.ne_of_lt hb) (by rw [size_push']; exact Nat.lt_succ_of_lt hb)]
  exact Heap.get?_push_of_some _ e
/-- sorted(xs), xs a list or a tuple of data -/
def rSortedQ (K : PySem.W.Frag) : List V → Hp → VK → Prop := fun vs H Q => ∃ (a : Addr) (xs : List (V × PyData)), vs = [.ref a] ∧ (SqL K H a (xs.map (·.1)) ∨ SqT K H a (xs.map (·.1))) ∧ (∀ x ∈ xs, Dp K H x.1 x.2) ∧
  PySem.W.AllAlike (xs.map (·.2)) ∧ PySem.W.Sortable (xs.map (·.2)) ∧ (∀ x ∈ xs, x.2.depth ≤ 64) ∧ ∀ p, H p = none → Q (.ref p) (upd H p (.lst (srtD xs)))
theorem cr_sortedD (hu : X.A.units + 70 < cLine) : CallR X (.builtin "sorted") (rSortedQ X.K) := by
  intro pins s σ H us vs Q I r h
  obtain ⟨a, xs, rfl, hs, hd, hal, hso, hdp, q⟩ := h
  rw [Vals.ref1 r]
  have go : ∀ (its : List Value) (T : String) (o : Obj) (n : Nat), (T = "list" ∨ T = "tuple") → s.heap.get? a = some o → o.cls = .type T → o.data = .seq its.toArray n → Vals (xs.map (·.1)) its → (xs.map (·.1)).length ≤ sizeLine →
      wpAny (model X.prog X.w) X.A (call (.builtin "sorted") [.ref a]) (EP X pins σ Q) X.xe s := fun its T o n hT ho hc hdt rv hz => by
    rw [List.length_map] at hz
    refine Calls.call_function_entry kind_sorted plain_sorted entry_sorted (args_sorted1 _) ?_
    unfold Builtin.«sorted»
    refine wpAny_bind (m := checkCount "sorted" 1 1 _) (wpAny_pure ?_)
    refine wpAny_bind (wpAny_collect_seq a hT ho hc hdt (fun h' hk => ?_) (by rw [List.size_toArray, ← rv.length, List.length_map]; exact hz))
    have I1 : L2.Inv X pins σ H { s with heap := h' } := I.kept (t' := s.toks) hk
    refine sort_tail (A := X.A.in1) (Q := Q) I1 rv hd hal hso hz (fun x hx => ?_) q
    have h1 := hdp x hx
    show X.A.units + 1 + 1 + x.2.depth < cLine
    omega
  rcases hs with hs | hs
  · obtain ⟨its, rv, ⟨o, n, ho, hc, _, hdt⟩, hz⟩ := I.list hs
    exact go its "list" o n (.inl rfl) ho hc hdt rv hz
  · obtain ⟨its, rv, ⟨o, ho, hc, n, hdt⟩, hz⟩ := I.tuple hs
    exact go its "tuple" o n (.inr rfl) ho hc hdt rv hz
/-- sorted of a set of texts -/
def rSortedSt (P : Program) (w : World) : List V → Hp → VK → Prop := fun vs H Q => ∃ (a : Addr) (ks : List Str), vs = [.ref a] ∧ H a = some (SetKo P w a (ks.map Sum.inr)) ∧
  ∀ p (ys : List Str), ys.Perm ks → H p = none → Q (.ref p) (upd H p (.lst (srtD (ys.map fun z => (V.str z, PyData.str z)))))
theorem cr_sortedSt (hc : X.calm = true) (hu : X.A.units + 70 < cLine) : CallR X (.builtin "sorted") (rSortedSt X.prog X.w) := by
  intro pins s σ H us vs Q I r h
  obtain ⟨a, ks, rfl, ha, q⟩ := h
  rw [Vals.ref1 r]
  obtain ⟨o, es, ep, t, ho, hx, hd, T⟩ := setKo_get I ha
  refine Calls.call_function_entry kind_sorted plain_sorted entry_sorted (args_sorted1 _) ?_
  unfold Builtin.«sorted»
  refine wpAny_bind (m := checkCount "sorted" 1 1 _) (wpAny_pure ?_)
  refine wpAny_bind (collect_set (A := X.A.in1) (show X.A.in1.handled = none from I.ok.hd hc) ⟨o, ho, hx.1, hd⟩ T.2.2.2.1 T.2.2.1 T.2.2.2.2.1 T.2.2.2.2.2 fun s1 out hk hsz hg hos hp => ?_)
  obtain ⟨ys, py, ry⟩ : ∃ ys : List Str, ys.Perm ks ∧ Vals (ys.map V.str) out := by
    obtain ⟨ls, pl, pk⟩ := T.1
    have p1 : Paired (fun (k : Key) (u : Value) => RelV (kV k) u) ls (es.toList.map (·.2)) := by
      clear pk
      generalize es.toList = el at pl
      clear hp
      induction pl with
      | nil => exact .nil
      | cons r t ih =>
        refine .cons ?_ ih
        obtain ⟨r1, _⟩ := r
        rcases keyIs_shape r1 with ⟨i, t, rfl, e⟩ | ⟨x, t, rfl, e⟩
        · exact ⟨t, e⟩
        · exact ⟨t, e⟩
    obtain ⟨l2, p2, h2⟩ := paired_perm hp p1
    have p3 : l2.Perm (ks.map Sum.inr) := p2.trans pk
    clear p1 p2 pl pk hp
    have hall : ∀ k ∈ l2, ∃ z, k = Sum.inr z := fun k hk => by
      obtain ⟨z, _, e⟩ := List.mem_map.mp (p3.mem_iff.mp hk)
      exact ⟨z, e.symm⟩
    have hz : ∃ ys : List Str, l2 = ys.map Sum.inr := by
      clear h2 p3
      induction l2 with
      | nil => exact ⟨[], rfl⟩
      | cons k l ih =>
        obtain ⟨z, rfl⟩ := hall k (by simp)
        obtain ⟨ys, rfl⟩ := ih fun k hk => hall k (by simp [hk])
        exact ⟨z :: ys, rfl⟩
    obtain ⟨ys, rfl⟩ := hz
    have p4 := p3.map fun (k : Key) => match k with
      | .inr z => z
      | .inl _ => Str.empty
    rw [List.map_map, List.map_map] at p4
    have e4 : ∀ l : List Str, l.map ((fun (k : Key) => match k with
      | .inr z => z
      | .inl _ => Str.empty) ∘ Sum.inr) = l := fun l => by
      induction l with
      | nil => rfl
      | cons x r ih =>
        rw [List.map_cons, ih]
        rfl
    rw [e4, e4] at p4
    refine ⟨ys, p4, ?_⟩
    clear p3 hall p4
    induction ys generalizing out with
    | nil => cases h2; exact .nil
    | cons y ys ih =>
      cases h2 with
      | cons r t => exact .cons r (ih _ t)
  have I1 : L2.Inv X pins σ H s1 := by
    obtain ⟨h1, g1, d1, t1, o1⟩ := s1
    have e1 : g1 = s.gens := hg
    have e2 : o1 = s.os := hos
    subst e1 e2
    exact I.call' (ch := []) rfl (Un.kept hk) (I.hok.kept hk) I.bare (fun _ z => nomatch z)
  have em : (ys.map fun z => (V.str z, PyData.str z)).map (·.1) = ys.map V.str := by rw [List.map_map]; rfl
  have e2 : (ys.map fun z => (V.str z, PyData.str z)).map (·.2) = ys.map PyData.str := by rw [List.map_map]; rfl
  refine sort_tail (A := X.A.in1) (Q := Q) (xs := ys.map fun z => (V.str z, PyData.str z)) I1 (by rw [em]; exact ry) ?_ ?_ ?_ ?_ ?_ (fun p hp => q p ys py hp)
  · intro x hx
    obtain ⟨z, _, rfl⟩ := List.mem_map.mp hx
    exact .str z
  · rw [e2]
    exact PySem.W.AllAlike.of fun b b' => rfl
  · rw [e2]
    exact PySem.W.Sortable.others fun b => ⟨(fun e => by cases e), (fun xs e => by cases e)⟩
  · rw [List.length_map, py.length_eq]
    have h1 := T.size
    have h2 := T.2.2.1
    rw [h1, List.length_map] at h2
    exact fits_of_scanBound h2
  · intro x hx
    obtain ⟨z, _, rfl⟩ := List.mem_map.mp hx
    show X.A.units + 1 + 1 + PyData.depth (.str z) < cLine
    have : PyData.depth (.str z) ≤ 1 := by simp [PyData.depth]
    omega
end
end WW

set_option Elab.async false
set_option linter.all false
set_option maxRecDepth 100000
set_option maxHeartbeats 4000000
namespace WW
open PySem PySem.Spec PyProof.Rows L2
/-! ### == and != by the text's own __eq__ -/
section
variable {prog : Program} {w : World} {A : Around} {E : Value → Shared → Prop} {s : Shared} {K : PySem.W.Frag} {x y C f : Addr} {ox oy : Obj} {od ody : Option Obj}
theorem ne_body {Q : PySem.Fin → Shared → Prop} (hu : A.units < cLine) (X : K.In s.heap) (I : PySem.W.InstAt s.heap x ox C od) (heq : PySem.W.findIn K (.ref C) "__eq__" = some (some (.ref f))) (hf : PySem.W.isFn K (.ref f) = true)
    (h : wpAny (model prog w) A (call (.ref f) [.ref x, .ref y]) (fun v s' => ∃ b, v = .bool b ∧ Q (.done (.ret (.bool (!b)))) s') E s) :
    wpAny (model prog w) A (Builtin.«object.__ne__» ⟨[.ref x, .ref y], []⟩) Q E s := by
  unfold Builtin.«object.__ne__»
  refine wpAny_bind (wpAny_of_eq (show slotArgs "__ne__" 1 ⟨[.ref x, .ref y], []⟩ = pure (Value.ref x, [Value.ref y]) from rfl) ?_)
  show wpAny (model prog w) A (cRoomFor "comparison" [.ref x, .ref y] >>= _) Q E s
  refine wpAny_bind (wpAny_cRoomFor hu ?_)
  refine wpAny_bind (PySem.W.ifBound_K X I heq hf (wpAny_mono h (fun v s' hv => ?_) fun _ _ e => e))
  obtain ⟨b, rfl, q⟩ := hv
  exact wpAny_bind (wpAny_truthy_bool (wpAny_pure q))
theorem ne_K {Q : Value → Shared → Prop} (hu : A.units + 1 < cLine) (X : K.In s.heap) (I : PySem.W.InstAt s.heap x ox C od) (J : PySem.W.InstAt s.heap y oy C ody) (hne : PySem.W.findIn K (.ref C) "__ne__" = some (some (.builtin "object.__ne__")))
    (hsub : PySem.W.subIn K (.ref C) (.type "object") = some true) (heq : PySem.W.findIn K (.ref C) "__eq__" = some (some (.ref f))) (hf : PySem.W.isFn K (.ref f) = true)
    (h : wpAny (model prog w) A.in1 (call (.ref f) [.ref x, .ref y]) (fun v s' => ∃ b, v = .bool b ∧ Q (.bool (!b)) s') E s) :
    wpAny (model prog w) A (compareOp .NotEq (.ref x) (.ref y)) Q E s := by
  have one : wpAny (model prog w) A (tryCompare (.ref x) "__ne__" (.ref y)) (fun r s' => ∃ b, r = some (.bool (!b)) ∧ Q (.bool (!b)) s') E s := by
    unfold tryCompare
    refine wpAny_bind ?_
    simp only [callSpecialIfBound?, bindSpecialIfBound?]
    refine wpAny_holding (wpAny_bind (wpAny_bind (wpAny_bind (I.type.here ((PySem.W.looks_findIn X hne).here ?_)))))
    have fin : wpAny (model prog w) A (call (.builtin "object.__ne__") ([.ref x] ++ [.ref y]) >>= fun v => pure (some v)) (fun r s' => wpAny (model prog w) A (match r with
        | some Value.notImplemented => pure none
        | none => pure none
        | some v => pure (some v)) (fun r s' => ∃ b, r = some (.bool (!b)) ∧ Q (.bool (!b)) s') E s') E s := by
      refine wpAny_bind (wpAny_call (codeAny_call_builtin PySem.F.cmp_object.ne.plain PySem.F.cmpEntry_ne (PySem.W.check_slot PySem.F.cmpKind_ne PySem.F.cmpSplit_ne (I.type.andThen (PySem.W.looks_subIn X hsub)) (PySem.F.cmpArgs_ne _ _) (ne_body (A := A.in1) hu X I heq hf (wpAny_mono h (fun v s' hv => ?_) fun _ _ e => e)))))
      obtain ⟨b, rfl, q⟩ := hv
      exact ⟨b, rfl, wpAny_pure (wpAny_pure ⟨b, rfl, q⟩)⟩
    simp only [PySem.F.cmp_object.ne.bind]
    refine wpAny_bind (wpAny_askSetting (wpAny_ite ?_))
    split
    · exact wpAny_bind (wpAny_pure (wpAny_pure fin))
    · exact wpAny_tryCatch (wpAny_bind (wpAny_pure (wpAny_pure fin)))
  unfold compareOp richCompare
  simp only [PySem.oneThing_ref]
  refine wpAny_holding (wpAny_bind (wpAny_cRoomFor (Nat.lt_of_succ_lt hu) ?_))
  refine wpAny_bind (I.type.here (wpAny_bind (J.type.here ?_)))
  rw [show (Value.ref C != Value.ref C) = false from by simp]
  simp only [Bool.false_eq_true, if_false]
  refine wpAny_bind (wpAny_pure ?_)
  simp only [Bool.false_eq_true, if_false]
  refine wpAny_bind (wpAny_mono one (fun r s' z => ?_) fun _ _ e => e)
  obtain ⟨b, rfl, q⟩ := z
  exact wpAny_pure q
end

/-- a class with its own __eq__ and the plain != -/
structure EqC (K : PySem.W.Frag) (C f : Addr) : Prop where
  eq : PySem.W.findIn K (.ref C) "__eq__" = some (some (.ref f))
  ne : PySem.W.findIn K (.ref C) "__ne__" = some (some (.builtin "object.__ne__"))
  fn : PySem.W.isFn K (.ref f) = true
  sub : PySem.W.subIn K (.ref C) (.type "object") = some true
section
variable {X : Cx} {n : Nat} {C f : Addr} {fd : FuncData} {ps : List Str} {sp : Sp}
def rEqO (C : Addr) (sp : Sp) : R2 := fun x y H Q => ∃ a b dx dy fs gs, x = .ref a ∧ y = .ref b ∧ H a = some (.ins C dx fs) ∧ H b = some (.ins C dy gs) ∧ sp [.ref a, .ref b] H Q E0
def rNeO (C : Addr) (sp : Sp) : R2 := fun x y H Q => ∃ a b dx dy fs gs, x = .ref a ∧ y = .ref b ∧ H a = some (.ins C dx fs) ∧ H b = some (.ins C dy gs) ∧ sp [.ref a, .ref b] H (fun v H' => ∃ c, v = .bl c ∧ Q (.bl (!c)) H') E0
theorem run2 {pins : List (Addr × Obj)} {σ : L2.St} {H : Hp} {s : Shared} {A : Around} {Q : VK} {a b : Addr} {E : Value → Shared → Prop} (F : FnOk X.prog X.w X.K X.mg X.base CX0 n f fd ps sp) (hb : Binds X.K fd ps []) (I : L2.Inv X pins σ H s) (hr : Room n A) (hfr : A.frames = X.A.frames)
    (h : sp [.ref a, .ref b] H Q E0) : wpAny (model X.prog X.w) A (call (.ref f) [.ref a, .ref b]) (EP X pins σ Q) E s := by
  have e0 : Env0 X.prog X.w X.K X.mg X.base A X.stack s H := by
    have e := I.env0
    exact ⟨by rw [hfr]; exact e.frames, e.mod, e.bs, e.bsz, e.funs, e.frf, e.hok, e.bare⟩
  have hl := F.len _ _ _ _ h
  have r2 : Vals [V.ref a, V.ref b] [Value.ref a, Value.ref b] := .cons rfl (.cons rfl .nil)
  refine wpAny_call (codeAny_mono (F.run A X.stack s H ⟨[.ref a, .ref b], []⟩ [.ref a, .ref b] [.ref a, .ref b] Q E0 hr e0 (by
    have := hb s [.ref a, .ref b] I.kIn (by simpa using hl)
    simpa using this) r2 h) fun r s' hq => ?_)
  cases r with
  | error e => exact False.elim hq
  | ok fl =>
    cases fl with
    | ret w =>
      obtain ⟨z, H', I', rz, q⟩ := I.after hq
      exact ⟨z, H', I', rz, q⟩
    | next => exact False.elim hq
    | brk => exact False.elim hq
    | cont => exact False.elim hq
theorem op_eqO (c : EqC X.K C f) (F : FnOk X.prog X.w X.K X.mg X.base CX0 n f fd ps sp) (hb : Binds X.K fd ps []) (hr : Room n X.A) : OpR X (compareOp .Eq) (rEqO C sp) := by
  intro pins s σ H x y v u Q I rx ry h
  obtain ⟨a, b, dx, dy, fs, gs, rfl, rfl, ha, hb', q⟩ := h
  cases rx
  cases ry
  obtain ⟨mA, J, _⟩ := ins_get I.hok ha
  obtain ⟨mB, J', _⟩ := ins_get I.hok hb'
  obtain ⟨od, J, _⟩ := J.look
  obtain ⟨od', J', _⟩ := J'.look
  obtain ⟨m, hF⟩ := I.fr
  show wpAny (model X.prog X.w) X.A (richCompare .Eq (.ref a) (.ref b)) _ _ _
  refine PySem.W.cmp_K (op := .Eq) (tb := .ref C) hr.units0 hF I.ok.mod.kin J J'.type (by simp [PySem.W.notFirst]) c.eq c.fn (wpAny_mono (run2 F hb I hr rfl q) (fun z s' hz => ?_) fun _ _ e => e)
  obtain ⟨z', H', I', rz, q'⟩ := id hz
  cases z' with
  | non => cases (show z = Value.none from rz); exact hz
  | bl c => cases (show z = Value.bool c from rz); exact hz
  | int i => obtain ⟨t, e⟩ := (show ∃ t, z = Value.int i t from rz); cases e; exact hz
  | str i => obtain ⟨t, e⟩ := (show ∃ t, z = Value.str i t from rz); cases e; exact hz
  | byt i => obtain ⟨t, e⟩ := (show ∃ t, z = Value.bytes i t from rz); cases e; exact hz
  | flt i => obtain ⟨t, e⟩ := (show ∃ t, z = Value.float i t from rz); cases e; exact hz
  | ref i => cases (show z = Value.ref i from rz); exact hz
  | ty i => cases (show z = Value.type i from rz); exact hz
theorem op_neO (c : EqC X.K C f) (F : FnOk X.prog X.w X.K X.mg X.base CX0 n f fd ps sp) (hb : Binds X.K fd ps []) (hr : Room (n + 1) X.A) : OpR X (compareOp .NotEq) (rNeO C sp) := by
  intro pins s σ H x y v u Q I rx ry h
  obtain ⟨a, b, dx, dy, fs, gs, rfl, rfl, ha, hb', q⟩ := h
  cases rx
  cases ry
  obtain ⟨mA, J, _⟩ := ins_get I.hok ha
  obtain ⟨mB, J', _⟩ := ins_get I.hok hb'
  obtain ⟨od, J, _⟩ := J.look
  obtain ⟨od', J', _⟩ := J'.look
  refine ne_K (by have := hr.un; omega) I.kIn J J' c.ne c.sub c.eq c.fn (wpAny_mono (run2 (A := X.A.in1) F hb I hr.in1 rfl q) (fun z s' hz => ?_) fun _ _ e => e)
  obtain ⟨z', H', I', rz, cc, rfl, q'⟩ := hz
  cases (show z = Value.bool cc from rz)
  exact ⟨cc, rfl, .bl (!cc), H', I', rfl, q'⟩
end
end WW

set_option Elab.async false
set_option linter.all false
set_option maxRecDepth 100000
set_option maxHeartbeats 4000000
namespace WW
open PySem PySem.Spec PyProof.Rows L2
/-! ### plain values and their kinds -/
def kinds : List String := ["NoneType", "bool", "int", "str", "list", "tuple", "dict"]
def Kd (K : PySem.W.Frag) (H : Hp) (x : V) (n : String) : Prop := TyX K H x (.type n) ∧ n ∈ kinds ∧ ∀ z, x = .str z → z.length ≤ sizeLine
theorem kit_int {K : PySem.W.Frag} {n : String} (h : n ∈ kinds) : PySem.W.kitOne K (.type n) (.type "int") = some (n == "int" || n == "bool") := by
  have : ∀ n ∈ kinds, kitB n "int" = some (n == "int" || n == "bool") := by decide +kernel
  exact kit_ty (this n h)
theorem kit_bool {K : PySem.W.Frag} {n : String} (h : n ∈ kinds) : PySem.W.kitOne K (.type n) (.type "bool") = some (n == "bool") := by
  have : ∀ n ∈ kinds, kitB n "bool" = some (n == "bool") := by decide +kernel
  exact kit_ty (this n h)
theorem kit_str {K : PySem.W.Frag} {n : String} (h : n ∈ kinds) : PySem.W.kitOne K (.type n) (.type "str") = some (n == "str") := by
  have : ∀ n ∈ kinds, kitB n "str" = some (n == "str") := by decide +kernel
  exact kit_ty (this n h)
theorem kit_list {K : PySem.W.Frag} {n : String} (h : n ∈ kinds) : PySem.W.kitOne K (.type n) (.type "list") = some (n == "list") := by
  have : ∀ n ∈ kinds, kitB n "list" = some (n == "list") := by decide +kernel
  exact kit_ty (this n h)
theorem kit_tuple {K : PySem.W.Frag} {n : String} (h : n ∈ kinds) : PySem.W.kitOne K (.type n) (.type "tuple") = some (n == "tuple") := by
  have : ∀ n ∈ kinds, kitB n "tuple" = some (n == "tuple") := by decide +kernel
  exact kit_ty (this n h)
theorem kit_row {K : PySem.W.Frag} {n : String} (h : n ∈ kinds) : PySem.W.kitAny K (.type n) [.type "list", .type "tuple"] = some (n == "list" || n == "tuple") := by
  refine kitAny_cons (kit_list h) (fun e => ?_) (fun e => by rw [e]; rfl)
  rw [e, Bool.false_or]
  refine kitAny_cons (kit_tuple h) (fun e2 => by rw [e2]; exact kitAny_nil) (fun e2 => e2)
theorem kd_int (K : PySem.W.Frag) (H : Hp) (i : Int) : Kd K H (.int i) "int" := ⟨.base (.int i), by decide, fun z e => by cases e⟩
theorem kd_str (K : PySem.W.Frag) (H : Hp) {z : Str} (h : z.length ≤ sizeLine) : Kd K H (.str z) "str" := ⟨.base (.str z), by decide, fun y e => by cases e; exact h⟩
theorem kd_tup (K : PySem.W.Frag) {H : Hp} {a : Addr} {xs : List V} (h : H a = some (.tup xs)) : Kd K H (.ref a) "tuple" := ⟨.base (.tup h), by decide, fun y e => by cases e⟩
theorem kd_lst (K : PySem.W.Frag) {H : Hp} {a : Addr} {xs : List V} (h : H a = some (.lst xs)) : Kd K H (.ref a) "list" := ⟨.base (.lst h), by decide, fun y e => by cases e⟩
theorem kd_is_int {K : PySem.W.Frag} {H : Hp} {x : V} (h : Kd K H x "int") : ∃ i, x = .int i := by
  obtain ⟨h, _⟩ := h
  generalize e : Value.type "int" = t at h
  cases h with
  | base b => cases b <;> first | exact ⟨_, rfl⟩ | exact absurd (Value.type.inj e) (by decide) | cases e
  | byt b => exact absurd (Value.type.inj e) (by decide)
  | set _ => exact absurd (Value.type.inj e) (by decide)
  | kList _ _ => exact absurd (Value.type.inj e) (by decide)
  | kTuple _ _ => exact absurd (Value.type.inj e) (by decide)
  | kDict _ _ => exact absurd (Value.type.inj e) (by decide)
  | fTuple _ => exact absurd (Value.type.inj e) (by decide)
  | fDict _ => exact absurd (Value.type.inj e) (by decide)
theorem kd_not_int {K : PySem.W.Frag} {H : Hp} {x : V} {n : String} (h : Kd K H x n) (hn : n ≠ "int") : ∀ i, x ≠ .int i := by
  rintro i rfl
  obtain ⟨h, _⟩ := h
  generalize e : Value.type n = t at h
  cases h with
  | base b =>
    cases b
    cases e
    exact hn rfl
theorem kd_is_str {K : PySem.W.Frag} {H : Hp} {x : V} (h : Kd K H x "str") : ∃ z, x = .str z := by
  obtain ⟨h, _⟩ := h
  generalize e : Value.type "str" = t at h
  cases h with
  | base b => cases b <;> first | exact ⟨_, rfl⟩ | exact absurd (Value.type.inj e) (by decide) | cases e
  | byt b => exact absurd (Value.type.inj e) (by decide)
  | set _ => exact absurd (Value.type.inj e) (by decide)
  | kList _ _ => exact absurd (Value.type.inj e) (by decide)
  | kTuple _ _ => exact absurd (Value.type.inj e) (by decide)
  | kDict _ _ => exact absurd (Value.type.inj e) (by decide)
  | fTuple _ => exact absurd (Value.type.inj e) (by decide)
  | fDict _ => exact absurd (Value.type.inj e) (by decide)
theorem kd_not_str {K : PySem.W.Frag} {H : Hp} {x : V} {n : String} (h : Kd K H x n) (hn : n ≠ "str") : ∀ z, x ≠ .str z := by
  rintro i rfl
  obtain ⟨h, _⟩ := h
  generalize e : Value.type n = t at h
  cases h with
  | base b =>
    cases b
    cases e
    exact hn rfl
def btw (lo hi : Int) : V → Bool
  | .int i => decide (lo ≤ i) && decide (i ≤ hi)
  | _ => false
def nmB (z : Str) : Bool := decide (1 ≤ z.length) && decide (z.length ≤ 10) && z.cps.toList.all fun c => decide (c ∈ smallS.cps.toList)
def isNm : V → Bool
  | .str z => nmB z
  | _ => false
structure Cst (mg : Str → Option Value) : Prop where
  small : ∃ t, mg "SMALL" = some (.str smallS t)
section
variable {P : Program} {w : World} {K : PySem.W.Frag} {mg : Str → Option Value} {base : Heap} {f fA : Addr} {fd fdA : FuncData}
abbrev sIs_integer : Stmt := topS 3
abbrev nIs_integer : List Str := ["thing"]
theorem scIs_integer : FnScope nIs_integer ["thing"] (defScope sIs_integer) := ⟨rfl, rfl, rfl, by decide +kernel, rfl, by decide +kernel, by decide +kernel⟩
def spIsInteger (K : PySem.W.Frag) : Sp := fun vs H Q _ => ∃ (x : V) (n : String), vs = [x] ∧ Kd K H x n ∧ Q (.bl (n == "int")) H
theorem ok_is_integer (D : Df K mg "is_integer" sIs_integer ["thing"] f fd) (T : Bl mg) : FnOk P w K mg base CX0 1 f fd ["thing"] (spIsInteger K) := by
  refine D.fn.ok scIs_integer (fun vs H Q E h => ?_) (fun cdv A outer s H vs Q E hr h => ?_)
  · obtain ⟨x, n, rfl, _⟩ := h
    rfl
  · obtain ⟨x, n, rfl, hk, q⟩ := h
    refine ⟨_, (pss_one (ps_ret (pe_and (pe_callB call_isi (by rfl) T.isinstance (by decide +kernel) (pa_cons (pv 0) (pa_cons (pe_bltn (v := .ty "int") (by rfl) T.int (by decide +kernel) rfl) pa_nil))) (pe_one (pe_not (pe_callB call_isi (by rfl) T.isinstance (by decide +kernel) (pa_cons (pv 0) (pa_cons (pe_bltn (v := .ty "bool") (by rfl) T.bool (by decide +kernel) rfl) pa_nil)))))))), ?_⟩
    refine ⟨_, rfl, _, _, _, _, _, rfl, .ty "int", hk.1, kit_int hk.2.1, _, rfl, ?_⟩
    refine ite2 (fun c => ?_) (fun c => ?_)
    · refine ⟨_, rfl, _, _, _, _, _, rfl, .ty "bool", hk.1, kit_bool hk.2.1, _, rfl, ?_⟩
      have e : (!(n == "bool")) = (n == "int") := by
        rcases Bool.or_eq_true_iff.mp c with h | h
        · rw [beq_iff_eq.mp h]
          decide
        · rw [beq_iff_eq.mp h]
          decide
      show Q (.bl (!(n == "bool"))) H
      rw [e]
      exact q
    · have e : (n == "int") = false := by
        cases h : n == "int" with
        | false => rfl
        | true => exact absurd (by rw [h]; rfl) c
      show Q (.bl false) H
      rw [← e]
      exact q
abbrev sIs_between : Stmt := topS 4
abbrev nIs_between : List Str := ["thing", "low", "high"]
theorem scIs_between : FnScope nIs_between ["thing", "low", "high"] (defScope sIs_between) := ⟨rfl, rfl, rfl, by decide +kernel, rfl, by decide +kernel, by decide +kernel⟩
def spIsBetween (K : PySem.W.Frag) : Sp := fun vs H Q _ => ∃ (x : V) (n : String) (lo hi : Int), vs = [x, .int lo, .int hi] ∧ Kd K H x n ∧ Q (.bl (btw lo hi x)) H
theorem ok_is_between {fB : Addr} {fdB : FuncData} (D : Df K mg "is_between" sIs_between ["thing", "low", "high"] f fd) (DIs_integer : Df K mg "is_integer" sIs_integer ["thing"] fB fdB) (T : Bl mg) : FnOk P w K mg base CX0 2 f fd ["thing", "low", "high"] (spIsBetween K) := by
  have GIs_integer : FnOk P w K mg base CX0 1 fB fdB ["thing"] (spIsInteger K) := ok_is_integer DIs_integer T
  refine D.fn.ok scIs_between (fun vs H Q E h => ?_) (fun cdv A outer s H vs Q E hr h => ?_)
  · obtain ⟨x, n, lo, hi, rfl, _⟩ := h
    rfl
  · obtain ⟨x, n, lo, hi, rfl, hk, q⟩ := h
    refine ⟨_, (pss_one (ps_ret (pe_and (pe_df DIs_integer GIs_integer (hr.mono (by decide)) (pa_cons (pv 0) pa_nil)) (pe_one (pe_chain op_le op_le (pv 1) (pv 0) (pv 2)))))), ?_⟩
    refine ⟨_, rfl, x, n, rfl, hk, _, rfl, ite2 (fun c => ?_) (fun c => ?_)⟩
    · have en : n = "int" := beq_iff_eq.mp c
      subst en
      obtain ⟨i, rfl⟩ := kd_is_int hk
      refine ⟨_, rfl, _, rfl, _, _, rfl, rfl, _, rfl, ?_⟩
      by_cases h1 : lo ≤ i
      · rw [decide_eq_true h1]
        refine ⟨_, rfl, _, _, rfl, rfl, ?_⟩
        have e : btw lo hi (.int i) = decide (i ≤ hi) := by
          show (decide (lo ≤ i) && decide (i ≤ hi)) = _
          rw [decide_eq_true h1]
          rfl
        rw [e] at q
        exact q
      · rw [decide_eq_false h1]
        have e : btw lo hi (.int i) = false := by
          show (decide (lo ≤ i) && decide (i ≤ hi)) = _
          rw [decide_eq_false h1]
          rfl
        rw [e] at q
        exact q
    · have e : btw lo hi x = false := by
        have hn := kd_not_int hk (fun z => c (by rw [z]; rfl))
        cases x with
        | int i => exact absurd rfl (hn i)
        | _ => rfl
      rw [e] at q
      exact q
abbrev sIs_row : Stmt := topS 6
abbrev nIs_row : List Str := ["thing"]
theorem scIs_row : FnScope nIs_row ["thing"] (defScope sIs_row) := ⟨rfl, rfl, rfl, by decide +kernel, rfl, by decide +kernel, by decide +kernel⟩
def spIsRow (K : PySem.W.Frag) : Sp := fun vs H Q _ => ∃ (x : V) (n : String), vs = [x] ∧ Kd K H x n ∧ ∀ H', Same H H' → Q (.bl (n == "list" || n == "tuple")) H'
theorem tyx_mono {K : PySem.W.Frag} {H H' : Hp} {x : V} {t : Value} (s : Same H H') (h : TyX K H x t) : TyX K H' x t := by
  cases h with
  | base b =>
    cases b with
    | non => exact .base .non
    | bl x => exact .base (.bl x)
    | int x => exact .base (.int x)
    | str x => exact .base (.str x)
    | flt x => exact .base (.flt x)
    | lst e => exact .base (.lst (s _ _ e))
    | frz e => exact .base (.frz (s _ _ e))
    | tup e => exact .base (.tup (s _ _ e))
    | dK e => exact .base (.dK (s _ _ e))
    | dT e => exact .base (.dT (s _ _ e))
    | ins e cl ha hn htk hm => exact .base (.ins (s _ _ e) cl ha hn htk hm)
  | byt b => exact .byt b
  | set e => exact .set (s _ _ e)
  | kList e c => exact .kList e c
  | kTuple e c => exact .kTuple e c
  | kDict e c => exact .kDict e c
  | fTuple e => exact .fTuple (s _ _ e)
  | fDict e => exact .fDict (s _ _ e)
theorem Kd.mono {K : PySem.W.Frag} {H H' : Hp} {x : V} {n : String} (s : Same H H') (h : Kd K H x n) : Kd K H' x n := ⟨tyx_mono s h.1, h.2⟩
theorem ok_is_row (D : Df K mg "is_row" sIs_row ["thing"] f fd) (T : Bl mg) : FnOk P w K mg base CX0 1 f fd ["thing"] (spIsRow K) := by
  refine D.fn.ok scIs_row (fun vs H Q E h => ?_) (fun cdv A outer s H vs Q E hr h => ?_)
  · obtain ⟨x, n, rfl, _⟩ := h
    rfl
  · obtain ⟨x, n, rfl, hk, q⟩ := h
    refine ⟨_, (pss_one (ps_ret (pe_callB call_isiT (by rfl) T.isinstance (by decide +kernel) (pa_cons (pv 0) (pa_cons (pe_tup (pa_cons (pe_bltn (v := .ty "list") (by rfl) T.list (by decide +kernel) rfl) (pa_cons (pe_bltn (v := .ty "tuple") (by rfl) T.tuple (by decide +kernel) rfl) pa_nil))) pa_nil))))), ?_⟩
    refine ⟨_, rfl, by show 2 ≤ sizeLine; decide, fun t ht => ?_⟩
    refine ⟨x, t, _, _, [.type "list", .type "tuple"], _, rfl, upd_same, .cons (.ty "list") (.cons (.ty "tuple") .nil), tyx_mono (same_upd ht) hk.1, kit_row hk.2.1, q _ (same_upd ht)⟩
abbrev sIs_name : Stmt := topS 5
abbrev nIs_name : List Str := ["thing", "letter"]
theorem scIs_name : FnScope nIs_name ["thing"] (defScope sIs_name) := ⟨rfl, rfl, rfl, by decide +kernel, rfl, by decide +kernel, by decide +kernel⟩
def spIsName (K : PySem.W.Frag) : Sp := fun vs H Q _ => ∃ (x : V) (n : String), vs = [x] ∧ Kd K H x n ∧ ∀ H', Same H H' → Q (.bl (isNm x)) H'
def inSm (v : V) : Option V := match v with
  | .str ⟨#[c]⟩ => some (.bl (decide (c ∈ smallS.cps.toList)))
  | _ => none
theorem inSm_signs (z : Str) : (signs z).filterMap inSm = (z.cps.toList.map fun c => decide (c ∈ smallS.cps.toList)).map V.bl := by
  unfold signs
  induction z.cps.toList with
  | nil => rfl
  | cons c r ih =>
    simp only [List.map_cons, List.filterMap_cons]
    rw [ih]
    rfl
theorem ok_is_name (D : Df K mg "is_name" sIs_name ["thing"] f fd) (T : Bl mg) (C : Cst mg) : FnOk P w K mg base CX0 1 f fd ["thing"] (spIsName K) := by
  obtain ⟨tsm, hsm⟩ := C.small
  refine D.fn.ok scIs_name (fun vs H Q E h => ?_) (fun cdv A outer s H vs Q E hr h => ?_)
  · obtain ⟨x, n, rfl, _⟩ := h
    rfl
  · obtain ⟨x, n, rfl, hk, q⟩ := h
    refine ⟨_, (pss_cons (ps_if (PW.pt (pw_or (pt_not (pt_val (pe_callB call_isi (by rfl) T.isinstance (by decide +kernel) (pa_cons (pv 0) (pa_cons (pe_bltn (v := .ty "str") (by rfl) T.str (by decide +kernel) rfl) pa_nil))))) (pw_or1 (pt_not (pt_chain op_le op_le pe_int (pe_callB call_len (by rfl) T.len (by decide +kernel) (pa_cons (pv 0) pa_nil)) pe_int))))) (pss_one (ps_ret pe_bl)) pss_nil)
      (pss_one (ps_ret (pe_callB (cr_all rfl) (by rfl) T.all (by decide +kernel) (pa_cons (pe_lc (own := [("letter", 1)]) rfl scIs_name.nd (pi_str (pv 0)) (blkOk_by (own := [("letter", 1)]) (N := nIs_name) (sc := defScope sIs_name) (by decide +kernel)) (fun _ _ _ _ _ => (pg_name (i := 1) scIs_name.nd rfl (Or.inl rfl))) (fun _ _ _ _ _ => pts_nil) (fun _ _ _ _ _ => (pe_cmpR op_in_sign (pv 1) (pe_glob (v := .str smallS) (by rfl) hsm ⟨_, rfl⟩) (by rfl)))) pa_nil))))), ?_⟩
    refine ⟨_, rfl, _, _, _, _, _, rfl, .ty "str", hk.1, kit_str hk.2.1, _, rfl, ?_⟩
    by_cases en : n = "str"
    · subst en
      obtain ⟨z, rfl⟩ := kd_is_str hk
      have hl := hk.2.2 z rfl
      refine ⟨_, rfl, _, _, rfl, ⟨hl, rfl⟩, _, _, rfl, rfl, _, rfl, ?_⟩
      have e0 : isNm (.str z) = (decide (1 ≤ z.length) && decide (z.length ≤ 10) && z.cps.toList.all fun c => decide (c ∈ smallS.cps.toList)) := rfl
      by_cases h1 : (1 : Int) ≤ (z.length : Int)
      · rw [decide_eq_true h1]
        refine ⟨_, _, rfl, rfl, _, rfl, ?_⟩
        by_cases h2 : (z.length : Int) ≤ 10
        · rw [decide_eq_true h2]
          refine ⟨_, rfl, z, rfl, fun D1 hD1 => lc_pureS inSm (by omega) (fun _ => rfl) (fun y H2 hy s2 Q2 q2 => ?_) hD1 (fun H2 s2 h2' => ?_)⟩
          · obtain ⟨c, hc, rfl⟩ := List.mem_map.mp hy
            exact ⟨_, rfl, c, smallS, rfl, rfl, q2 H2 (Same.refl _)⟩
          · rw [inSm_signs] at h2'
            refine ⟨D1, _, rfl, SqL.of h2', ?_⟩
            rw [e0, decide_eq_true (show 1 ≤ z.length by omega), decide_eq_true (show z.length ≤ 10 by omega)] at q
            have := q H2 s2
            rw [List.all_map]
            exact this
        · rw [decide_eq_false h2]
          rw [e0, decide_eq_false (show ¬ z.length ≤ 10 by omega), Bool.and_false] at q
          exact q H (Same.refl _)
      · rw [decide_eq_false h1]
        rw [e0, decide_eq_false (show ¬ 1 ≤ z.length by omega)] at q
        exact ⟨_, rfl, q H (Same.refl _)⟩
    · have e1 : (n == "str") = false := beq_eq_false_iff_ne.mpr en
      have e2 : isNm x = false := by
        have hn := kd_not_str hk en
        cases x with
        | str z => exact absurd rfl (hn z)
        | _ => rfl
      rw [e1]
      rw [e2] at q
      exact q H (Same.refl _)
end
end WW

set_option Elab.async false
set_option linter.all false
set_option maxRecDepth 100000
set_option maxHeartbeats 4000000
namespace WW
open PySem PySem.Spec PyProof.Rows L2
/-! ### set(row), the row's items keys of one kind -/
def insAll {κ : Type} [DecidableEq κ] (l : List κ) : List κ := l.foldl (fun acc k => insG k acc) []
theorem paired_getR {α β : Type} {R : α → β → Prop} : ∀ {ls : List α} {l : List β} {i : Nat} {y : β}, Paired R ls l → l[i]? = some y → ∃ x, ls[i]? = some x ∧ R x y
  | _, _, _, _, .nil, e => by simp at e
  | _, _, 0, _, .cons r _, e => by simp at e; subst e; exact ⟨_, rfl, r⟩
  | _, _, i + 1, y, .cons _ t, e => by
    obtain ⟨u, h1, h2⟩ := paired_getR (i := i) (y := y) t (by simpa using e)
    exact ⟨u, by simpa using h1, h2⟩
theorem insAll_snoc {κ : Type} [DecidableEq κ] (l : List κ) (k : κ) : insAll (l ++ [k]) = insG k (insAll l) := by
  unfold insAll
  rw [List.foldl_append]
  rfl
theorem insG_mem {κ : Type} [DecidableEq κ] (k x : κ) (l : List κ) : x ∈ insG k l ↔ x = k ∨ x ∈ l := by
  unfold insG
  split
  · rename_i h
    constructor
    · exact .inr
    · rintro (rfl | h')
      · exact h
      · exact h'
  · rw [List.mem_cons]
theorem insG_nodup {κ : Type} [DecidableEq κ] {k : κ} {l : List κ} (h : l.Nodup) : (insG k l).Nodup := by
  unfold insG
  split
  · exact h
  · rename_i hk
    exact List.nodup_cons.mpr ⟨hk, h⟩
theorem insG_len {κ : Type} [DecidableEq κ] (k : κ) (l : List κ) : (insG k l).length ≤ l.length + 1 := by
  unfold insG
  split
  · omega
  · rw [List.length_cons]
    omega
theorem fold_mem {κ : Type} [DecidableEq κ] (x : κ) : ∀ (l acc : List κ), x ∈ l.foldl (fun acc k => insG k acc) acc ↔ x ∈ l ∨ x ∈ acc
  | [], acc => by simp
  | k :: r, acc => by
    rw [List.foldl_cons, fold_mem x r, insG_mem, List.mem_cons]
    constructor
    · rintro (h | h | h)
      · exact .inl (.inr h)
      · exact .inl (.inl h)
      · exact .inr h
    · rintro ((h | h) | h)
      · exact .inr (.inl h)
      · exact .inl h
      · exact .inr (.inr h)
theorem fold_nodup {κ : Type} [DecidableEq κ] : ∀ (l acc : List κ), acc.Nodup → (l.foldl (fun acc k => insG k acc) acc).Nodup
  | [], _, h => h
  | _ :: r, _, h => fold_nodup r _ (insG_nodup h)
theorem fold_len {κ : Type} [DecidableEq κ] : ∀ (l acc : List κ), (l.foldl (fun acc k => insG k acc) acc).length ≤ acc.length + l.length
  | [], acc => by simp
  | k :: r, acc => by
    have h1 := fold_len r (insG k acc)
    have h2 := insG_len k acc
    rw [List.foldl_cons, List.length_cons]
    omega
theorem insAll_mem {κ : Type} [DecidableEq κ] (x : κ) (l : List κ) : x ∈ insAll l ↔ x ∈ l := by
  unfold insAll
  rw [fold_mem]
  simp
theorem insAll_nodup {κ : Type} [DecidableEq κ] (l : List κ) : (insAll l).Nodup := fold_nodup l [] List.nodup_nil
theorem insAll_len {κ : Type} [DecidableEq κ] (l : List κ) : (insAll l).length ≤ l.length := by
  have := fold_len l []
  simpa [insAll] using this
section
variable {P : Program} {w : World} {κ : Type} [DecidableEq κ] {knd : PySem.KeyKind P w κ} {A : Around} {E : Value → Shared → Prop} {s : Shared}
theorem upd_keys {I : Addr} {fp wr : List Addr} {G : Array GenState → Array GenState → Prop} {n : Nat} {Pv : Nat → Value → Prop} {St : Nat → Shared → Prop} {R : Result → Shared → Prop}
    (W : WalksS P w A.in1 I fp wr G n Pv St) (S : Addr) (hSf : S ∉ fp) (ks : List κ) (hn : n = ks.length) (hfew : ks.length + 1 < scanBound) (hval : ∀ i v, Pv i v → ∃ k, ks[i]? = some k ∧ knd.is k v = true ∧ v.scannable = true)
    (h0 : Heap) (hS0 : h0.get? S = none) (hw0 : ∀ b ∈ wr, h0.get? b = none) :
    ∀ (k i : Nat) (s : Shared), n - i = k → i ≤ n → St i s → (∀ b o, h0.get? b = some o → s.heap.get? b = some o) → SetG knd s.heap S (insAll (ks.take i)) →
      (∀ s', Moved (S :: wr) G s s' → SetG knd s'.heap S (insAll ks) → (∀ b o, h0.get? b = some o → s'.heap.get? b = some o) → R (.ok (.ret .none)) s') →
      codeAny (model P w) A (.builtin "set.update.loop" ⟨[.ref S, .ref I], []⟩) R s := by
  have hSw : S ∉ wr := fun h => hSf (W.sub _ h)
  have hsub : ∀ b ∈ wr, b ∈ S :: wr := fun b hb => List.mem_cons_of_mem _ hb
  have keepM : ∀ {s s' : Shared}, Moved wr G s s' → (∀ b o, h0.get? b = some o → s.heap.get? b = some o) → ∀ b o, h0.get? b = some o → s'.heap.get? b = some o := fun hm hkp b o e =>
    hm.heap b o (fun hb => by rw [hw0 b hb] at e; cases e) (hkp b o e)
  intro k
  induction k with
  | zero =>
    intro i s hk' hi hst hkp hS hR
    have hin : i = n := by omega
    subst hin
    refine codeAny_builtin F.entry_set_update_loop ?_
    rw [Around.under_plainId F.plain_set_update_loop _]
    show wpAny _ A.in1 (pyNext (.ref I) >>= _) _ _ s
    refine wpAny_bind (W.done s _ _ hst fun s' hm => ?_)
    show wpAny _ A.in1 (ret Value.none) _ _ s'
    rw [hn, List.take_length] at hS
    exact wpAny_pure (hR s' (hm.mono hsub) (hS.at fun o e => hm.heap S o hSw e) (keepM hm hkp))
  | succ k ih =>
    intro i s hk' hi hst hkp hS hR
    have hlt : i < n := by omega
    refine codeAny_builtin F.entry_set_update_loop ?_
    rw [Around.under_plainId F.plain_set_update_loop _]
    show wpAny _ A.in1 (pyNext (.ref I) >>= _) _ _ s
    refine wpAny_bind (W.item i s _ _ hlt hst fun v s' hP hst' hm => ?_)
    obtain ⟨ky, hky, his, hsc⟩ := hval i v hP
    have hkp' := keepM hm hkp
    have hS' : SetG knd s'.heap S (insAll (ks.take i)) := hS.at fun o e => hm.heap S o hSw e
    have hroom : (insAll (ks.take i)).length + 1 < scanBound := by
      have h1 := insAll_len (ks.take i)
      rw [List.length_take] at h1
      omega
    show wpAny _ A.in1 (holding [v] (setAdd S v) >>= _) _ _ s'
    refine wpAny_bind (wpAny_holding ?_)
    unfold setAdd
    refine wpAny_holding ?_
    refine wpAny_bind (knd.pyHash (k := ky) his ?_)
    refine addG_hashed (knd := knd) (s := { s' with toks := s'.toks + 1 }) his hsc hS' hroom fun b h' hsb hS2 => ?_
    have e2 : insG ky (insAll (ks.take i)) = insAll (ks.take (i + 1)) := by
      rw [← insAll_snoc, List.take_add_one, hky]
      rfl
    rw [e2] at hS2
    have hkp2 : ∀ b o, h0.get? b = some o → h'.get? b = some o := fun b o e => (hsb.2 b (fun z => by rw [z, hS0] at e; cases e)).trans (hkp' b o e)
    refine wpAny_pure ⟨plainId_quiet F.plain_set_update_loop _, ih (i + 1) _ (by omega) hlt (W.frame _ s' _ _ hst' (Nat.le_add_right _ _) fun b hb o e => ?_) hkp2 hS2 fun s'' hm'' hS'' hkp'' => ?_⟩
    · rw [hsb.2 b (fun h : b = S => hSf (by rw [← h]; exact hb))]
      exact e
    · refine hR s'' (Moved.trans W.gtrans ((hm.mono hsub).then_heap (Nat.le_add_right _ _) fun b o hb e => ?_) hm'') hS'' hkp''
      rw [hsb.2 b (fun h : b = S => hb (by rw [h]; exact List.mem_cons_self))]
      exact e
theorem call_setG {l : Addr} {items : Array Value} (ks : List κ) {Q : Value → Shared → Prop} (hh : A.handled = none) (hl : s.heap.IsList l items) (hit : Paired (fun k (v : Value) => knd.is k v = true ∧ v.scannable = true) ks items.toList) (hfew : ks.length + 1 < scanBound)
    (h : ∀ (h' : Heap) (tk : Nat), SetG knd h' s.heap.objs.size (insAll ks) → (∀ b o, s.heap.get? b = some o → h'.get? b = some o) → Q (.ref s.heap.objs.size) { s with heap := h', toks := tk }) :
    wpAny (model P w) A (call (.type "set") [.ref l]) Q E s := by
  have hisz : items.size = ks.length := by
    have q := Paired.length hit
    rw [Array.length_toList] at q
    exact q.symm
  obtain ⟨c, tl, hmro⟩ := F.called_set.mro
  have hmade := F.called_set.made
  have hsub := F.called_set.sub
  refine wpAny_call (codeAny_of_tree ?_)
  show wpAny _ _ (callAny (.type "set") _) _ _ _
  refine wpAny_pure ⟨Code.quiet_builtin _ (by decide +kernel), codeAny_builtin F.entry_type_call ?_⟩
  rw [Around.under_plain (weight_type_call_type "set" [.ref l] []) rfl]
  have h1 := F.called_set.notType
  have h2 := F.called_set.canCreate
  have hct := F.typeCall_set_1 (.ref l)
  repeat (any_goals (first | assumption | wp_step))
  refine codeAny_mono (code_set_led1 (.ref l) (E := E) (Q₁ := fun obj s₁ => obj = .ref s.heap.objs.size ∧ s₁ = { s with heap := s.heap.push { cls := .type "set", dict := none, data := .set #[] 0 (.fresh 0 0 (!w.params.followText "set-order")) } }) ⟨rfl, rfl⟩) fun r s₁ hr => ?_
  cases r with
  | error e => exact hr
  | ok fl =>
    cases fl with
    | ret obj =>
      obtain ⟨rfl, rfl⟩ := hr
      have fr0 : SetG knd (s.heap.push { cls := .type "set", dict := none, data := .set #[] 0 (.fresh 0 0 (!w.params.followText "set-order")) }) s.heap.objs.size [] := SetG.fresh
      have hS : (s.heap.push { cls := .type "set", dict := none, data := .set #[] 0 (.fresh 0 0 (!w.params.followText "set-order")) }).get? s.heap.objs.size = some { cls := .type "set", dict := none, data := .set #[] 0 (.fresh 0 0 (!w.params.followText "set-order")) } := Heap.get?_push_size _ rfl
      have hT : Shared.TypeIs { s with heap := s.heap.push { cls := .type "set", dict := none, data := .set #[] 0 (.fresh 0 0 (!w.params.followText "set-order")) } } (.ref s.heap.objs.size) "set" := ⟨_, hS, rfl⟩
      have hli := F.called_set.init.lookup
      have hbi := F.called_set.init.bind (.ref s.heap.objs.size)
      repeat (any_goals (first | assumption | wp_step))
      refine codeAny_mono (codeAny_call_builtin (R := wants (fun r s₂ => r = .none ∧ ∃ h' tk, s₂ = { s with heap := h', toks := tk } ∧ SetG knd h' s.heap.objs.size (insAll ks) ∧
          (∀ b o, s.heap.get? b = some o → h'.get? b = some o)) E) F.called_set.init.plain F.entry_set_init (check_set_init_1 hT ?_)) fun r₂ s₂ hr₂ => ?_
      · obtain ⟨ol, hol, hcl, nl, hdl⟩ := hl
        obtain ⟨ocls, odict, odata, oslots⟩ := ol
        simp only at hcl hdl
        subst hcl; subst hdl
        have hol' : (s.heap.push { cls := .type "set", dict := none, data := .set #[] 0 (.fresh 0 0 (!w.params.followText "set-order")) }).get? l = some { cls := .type "list", dict := odict, data := .seq items nl, slots := oslots } := Heap.get?_push_of_some _ hol
        have hsls := F.sub_list_set
        have hslf := F.sub_list_frozenset
        have hne : (Value.type "list" == Value.type "dict") = false := by decide
        have hl1 : (s.heap.push { cls := .type "set", dict := none, data := .set #[] 0 (.fresh 0 0 (!w.params.followText "set-order")) }).IsList l items := ⟨_, hol', rfl, nl, rfl⟩
        unfold Builtin.«set.__init__» noKeywords Builtin.Frozenset.updateFrom
        generalize hPI : pyIter = PI
        wp_walk
        subst hPI
        refine wpAny_pyIter_list hl1 ?_
        refine wpAny_bind (wpAny_runValue ?_)
        have hlS : l < s.heap.objs.size := Heap.lt_size hol
        have hh3 : A.in1.in1.in1.handled = none := by simp [hh]
        have hz1 : (s.heap.push { cls := .type "set", dict := none, data := .set #[] 0 (.fresh 0 0 (!w.params.followText "set-order")) }).objs.size = s.heap.objs.size + 1 := Heap.size_push ..
        have hneI : l ≠ (s.heap.push { cls := .type "set", dict := none, data := .set #[] 0 (.fresh 0 0 (!w.params.followText "set-order")) }).objs.size := by
          rw [Heap.size_push]
          exact Nat.ne_of_lt (Nat.lt_succ_of_lt hlS)
        have hSf : s.heap.objs.size ∉ [(s.heap.push { cls := .type "set", dict := none, data := .set #[] 0 (.fresh 0 0 (!w.params.followText "set-order")) }).objs.size, l] := by
          rw [Heap.size_push]
          simp only [List.mem_cons, List.mem_singleton, List.not_mem_nil, or_false, not_or]
          exact ⟨Nat.ne_of_lt (Nat.lt_succ_self _), Nat.ne_of_gt hlS⟩
        have hval : ∀ (i : Nat) (v : Value), items[i]? = some v → ∃ k, ks[i]? = some k ∧ knd.is k v = true ∧ v.scannable = true := fun i v hv => by
          have q : items.toList[i]? = some v := by rw [Array.getElem?_toList]; exact hv
          exact paired_getR (R := fun k (v : Value) => knd.is k v = true ∧ v.scannable = true) hit q
        have none_of : ∀ b, s.heap.objs.size ≤ b → s.heap.get? b = none := fun b hb => by
          cases q : s.heap.get? b with
          | none => rfl
          | some o => exact absurd (Nat.lt_of_lt_of_le (Heap.lt_size q) hb) (Nat.lt_irrefl _)
        refine upd_keys (knd := knd) ((Walks.list hh3 _ l hneI items).toS) s.heap.objs.size
          hSf ks hisz hfew hval s.heap (none_of _ (Nat.le_refl _)) (fun b hb => none_of b (by
            rw [List.mem_singleton.mp hb, Heap.size_push]
            exact Nat.le_succ _)) (items.size - 0) 0 _ (by omega) (Nat.zero_le _)
          ⟨⟨_, Heap.get?_push_size _ rfl, rfl, rfl⟩, (hl1.push _)⟩ (fun b o e => Heap.get?_push_of_some _ (Heap.get?_push_of_some _ e)) (fr0.at fun o e => Heap.get?_push_of_some _ e) ?hR
        intro s' hm hS' hkp
        obtain ⟨h', g2, d', tk', os'⟩ := s'
        have eg : g2 = s.gens := hm.gens
        have ed : d' = s.drawn := hm.drawn
        have eo : os' = s.os := hm.os
        subst eg; subst ed; subst eo
        show wpAny _ _ _ _ _ _
        refine wpAny_pure ?_
        show wpAny _ _ (ret Value.none) _ _ _
        exact wpAny_pure ⟨rfl, h', tk', rfl, hS', hkp⟩
      · cases r₂ with
        | error e => exact hr₂
        | ok fl₂ =>
          cases fl₂ with
          | ret r =>
            obtain ⟨rfl, h', tk, rfl, hS', hk'⟩ := hr₂
            repeat (any_goals (first | assumption | wp_step))
            exact h h' _ hS' hk'
          | _ => exact hr₂.elim
    | _ => exact hr.elim
end
/-- set(row of texts) -/
def rSetOfS (K : PySem.W.Frag) (P : Program) (w : World) : List V → Hp → VK → Prop := fun xs H Q => ∃ (l : Addr) (zs : List Str), xs = [.ref l] ∧ SqL K H l (zs.map V.str) ∧ zs.length ≤ 100 ∧ ∀ a, H a = none → Q (.ref a) (upd H a (SetKo P w a ((insAll zs).map Sum.inr)))
theorem insG_map (z : Str) (l : List Str) : insG (Sum.inr z : Key) (l.map Sum.inr) = (insG z l).map Sum.inr := by
  unfold insG
  by_cases h : z ∈ l
  · rw [if_pos h, if_pos (List.mem_map.mpr ⟨z, h, rfl⟩)]
  · rw [if_neg h, if_neg (fun m => by
      obtain ⟨y, hy, e⟩ := List.mem_map.mp m
      cases e
      exact h hy)]
    rfl
theorem insAll_map (zs : List Str) : insAll (zs.map (Sum.inr : Str → Key)) = (insAll zs).map Sum.inr := by
  have key : ∀ (l acc : List Str), (l.map (Sum.inr : Str → Key)).foldl (fun acc k => insG k acc) (acc.map Sum.inr) = (l.foldl (fun acc k => insG k acc) acc).map Sum.inr := by
    intro l
    induction l with
    | nil => intro acc; rfl
    | cons z r ih =>
      intro acc
      rw [List.map_cons, List.foldl_cons, List.foldl_cons, insG_map, ih]
  exact key zs []
section
variable {X : Cx}
theorem cr_setOfS (hc : X.calm = true) : CallR X (.type "set") (rSetOfS X.K X.prog X.w) := by
  intro pins s σ H xs us Q I r h
  obtain ⟨l, zs, rfl, hl, hz, q⟩ := h
  rw [Vals.ref1 r]
  obtain ⟨its, rv, pl, hsz⟩ := I.list hl
  have hn : H s.heap.objs.size = none := I.hok.fresh (Nat.le_refl _)
  refine call_setG (knd := mixKind X.prog X.w) (zs.map Sum.inr) (I.ok.hd hc) pl.isList ?_ (by rw [List.length_map]; exact Nat.lt_of_le_of_lt (Nat.succ_le_succ hz) (by decide)) fun h' tk R k => ?_
  · rw [List.toList_toArray]
    clear hl hsz pl q r hz
    induction zs generalizing its with
    | nil =>
      cases rv
      exact .nil
    | cons z r ih =>
      cases rv with
      | cons h1 h2 => exact .cons (kV_sc (k := .inr z) h1) (ih _ h2)
  · rw [insAll_map] at R
    exact ⟨.ref s.heap.objs.size, _, I.laid (t' := tk) k (Nat.le_refl _) (setKo_new R), rfl, q _ hn⟩
end
end WW

set_option Elab.async false
set_option linter.all false
set_option maxRecDepth 100000
set_option maxHeartbeats 4000000
namespace WW
open PySem PySem.Spec PyProof.Rows L2
/-! ### set(tuple of texts) -/
section
variable {P : Program} {w : World} {κ : Type} [DecidableEq κ] {knd : PySem.KeyKind P w κ} {A : Around} {E : Value → Shared → Prop} {s : Shared}
theorem call_setGT {l : Addr} {items : Array Value} (ks : List κ) {Q : Value → Shared → Prop} (hh : A.handled = none) (hl : s.heap.IsTuple l items) (hit : Paired (fun k (v : Value) => knd.is k v = true ∧ v.scannable = true) ks items.toList) (hfew : ks.length + 1 < scanBound)
    (h : ∀ (h' : Heap) (tk : Nat), SetG knd h' s.heap.objs.size (insAll ks) → (∀ b o, s.heap.get? b = some o → h'.get? b = some o) → Q (.ref s.heap.objs.size) { s with heap := h', toks := tk }) :
    wpAny (model P w) A (call (.type "set") [.ref l]) Q E s := by
  have hisz : items.size = ks.length := by
    have q := Paired.length hit
    rw [Array.length_toList] at q
    exact q.symm
  obtain ⟨c, tl, hmro⟩ := F.called_set.mro
  have hmade := F.called_set.made
  have hsub := F.called_set.sub
  refine wpAny_call (codeAny_of_tree ?_)
  show wpAny _ _ (callAny (.type "set") _) _ _ _
  refine wpAny_pure ⟨Code.quiet_builtin _ (by decide +kernel), codeAny_builtin F.entry_type_call ?_⟩
  rw [Around.under_plain (weight_type_call_type "set" [.ref l] []) rfl]
  have h1 := F.called_set.notType
  have h2 := F.called_set.canCreate
  have hct := F.typeCall_set_1 (.ref l)
  repeat (any_goals (first | assumption | wp_step))
  refine codeAny_mono (code_set_led1 (.ref l) (E := E) (Q₁ := fun obj s₁ => obj = .ref s.heap.objs.size ∧ s₁ = { s with heap := s.heap.push { cls := .type "set", dict := none, data := .set #[] 0 (.fresh 0 0 (!w.params.followText "set-order")) } }) ⟨rfl, rfl⟩) fun r s₁ hr => ?_
  cases r with
  | error e => exact hr
  | ok fl =>
    cases fl with
    | ret obj =>
      obtain ⟨rfl, rfl⟩ := hr
      have fr0 : SetG knd (s.heap.push { cls := .type "set", dict := none, data := .set #[] 0 (.fresh 0 0 (!w.params.followText "set-order")) }) s.heap.objs.size [] := SetG.fresh
      have hS : (s.heap.push { cls := .type "set", dict := none, data := .set #[] 0 (.fresh 0 0 (!w.params.followText "set-order")) }).get? s.heap.objs.size = some { cls := .type "set", dict := none, data := .set #[] 0 (.fresh 0 0 (!w.params.followText "set-order")) } := Heap.get?_push_size _ rfl
      have hT : Shared.TypeIs { s with heap := s.heap.push { cls := .type "set", dict := none, data := .set #[] 0 (.fresh 0 0 (!w.params.followText "set-order")) } } (.ref s.heap.objs.size) "set" := ⟨_, hS, rfl⟩
      have hli := F.called_set.init.lookup
      have hbi := F.called_set.init.bind (.ref s.heap.objs.size)
      repeat (any_goals (first | assumption | wp_step))
      refine codeAny_mono (codeAny_call_builtin (R := wants (fun r s₂ => r = .none ∧ ∃ h' tk, s₂ = { s with heap := h', toks := tk } ∧ SetG knd h' s.heap.objs.size (insAll ks) ∧
          (∀ b o, s.heap.get? b = some o → h'.get? b = some o)) E) F.called_set.init.plain F.entry_set_init (check_set_init_1 hT ?_)) fun r₂ s₂ hr₂ => ?_
      · obtain ⟨ol, hol, hcl, nl, hdl⟩ := hl
        obtain ⟨ocls, odict, odata, oslots⟩ := ol
        simp only at hcl hdl
        subst hcl; subst hdl
        have hol' : (s.heap.push { cls := .type "set", dict := none, data := .set #[] 0 (.fresh 0 0 (!w.params.followText "set-order")) }).get? l = some { cls := .type "tuple", dict := odict, data := .seq items nl, slots := oslots } := Heap.get?_push_of_some _ hol
        have hsls := F.sub_tuple_set
        have hslf := F.sub_tuple_frozenset
        have hne : (Value.type "tuple" == Value.type "dict") = false := by decide
        have hl1 : (s.heap.push { cls := .type "set", dict := none, data := .set #[] 0 (.fresh 0 0 (!w.params.followText "set-order")) }).IsTuple l items := ⟨_, hol', rfl, nl, rfl⟩
        unfold Builtin.«set.__init__» noKeywords Builtin.Frozenset.updateFrom
        generalize hPI : pyIter = PI
        wp_walk
        subst hPI
        refine wpAny_pyIter_tuple hl1 ?_
        refine wpAny_bind (wpAny_runValue ?_)
        have hlS : l < s.heap.objs.size := Heap.lt_size hol
        have hh3 : A.in1.in1.in1.handled = none := by simp [hh]
        have hz1 : (s.heap.push { cls := .type "set", dict := none, data := .set #[] 0 (.fresh 0 0 (!w.params.followText "set-order")) }).objs.size = s.heap.objs.size + 1 := Heap.size_push ..
        have hneI : l ≠ (s.heap.push { cls := .type "set", dict := none, data := .set #[] 0 (.fresh 0 0 (!w.params.followText "set-order")) }).objs.size := by
          rw [Heap.size_push]
          exact Nat.ne_of_lt (Nat.lt_succ_of_lt hlS)
        have hSf : s.heap.objs.size ∉ [(s.heap.push { cls := .type "set", dict := none, data := .set #[] 0 (.fresh 0 0 (!w.params.followText "set-order")) }).objs.size, l] := by
          rw [Heap.size_push]
          simp only [List.mem_cons, List.mem_singleton, List.not_mem_nil, or_false, not_or]
          exact ⟨Nat.ne_of_lt (Nat.lt_succ_self _), Nat.ne_of_gt hlS⟩
        have hval : ∀ (i : Nat) (v : Value), items[i]? = some v → ∃ k, ks[i]? = some k ∧ knd.is k v = true ∧ v.scannable = true := fun i v hv => by
          have q : items.toList[i]? = some v := by rw [Array.getElem?_toList]; exact hv
          exact paired_getR (R := fun k (v : Value) => knd.is k v = true ∧ v.scannable = true) hit q
        have none_of : ∀ b, s.heap.objs.size ≤ b → s.heap.get? b = none := fun b hb => by
          cases q : s.heap.get? b with
          | none => rfl
          | some o => exact absurd (Nat.lt_of_lt_of_le (Heap.lt_size q) hb) (Nat.lt_irrefl _)
        refine upd_keys (knd := knd) ((Walks.tuple hh3 _ l hneI items).toS) s.heap.objs.size
          hSf ks hisz hfew hval s.heap (none_of _ (Nat.le_refl _)) (fun b hb => none_of b (by
            rw [List.mem_singleton.mp hb, Heap.size_push]
            exact Nat.le_succ _)) (items.size - 0) 0 _ (by omega) (Nat.zero_le _)
          ⟨⟨_, Heap.get?_push_size _ rfl, rfl, rfl⟩, (hl1.push _)⟩ (fun b o e => Heap.get?_push_of_some _ (Heap.get?_push_of_some _ e)) (fr0.at fun o e => Heap.get?_push_of_some _ e) ?hR
        intro s' hm hS' hkp
        obtain ⟨h', g2, d', tk', os'⟩ := s'
        have eg : g2 = s.gens := hm.gens
        have ed : d' = s.drawn := hm.drawn
        have eo : os' = s.os := hm.os
        subst eg; subst ed; subst eo
        show wpAny _ _ _ _ _ _
        refine wpAny_pure ?_
        show wpAny _ _ (ret Value.none) _ _ _
        exact wpAny_pure ⟨rfl, h', tk', rfl, hS', hkp⟩
      · cases r₂ with
        | error e => exact hr₂
        | ok fl₂ =>
          cases fl₂ with
          | ret r =>
            obtain ⟨rfl, h', tk, rfl, hS', hk'⟩ := hr₂
            repeat (any_goals (first | assumption | wp_step))
            exact h h' _ hS' hk'
          | _ => exact hr₂.elim
    | _ => exact hr.elim
end
/-- set(tuple of texts) -/
def rSetOfT (K : PySem.W.Frag) (P : Program) (w : World) : List V → Hp → VK → Prop := fun xs H Q => ∃ (l : Addr) (zs : List Str), xs = [.ref l] ∧ SqT K H l (zs.map V.str) ∧ zs.length ≤ 1000 ∧ ∀ a, H a = none → Q (.ref a) (upd H a (SetKo P w a ((insAll zs).map Sum.inr)))
section
variable {X : Cx}
theorem cr_setOfT (hc : X.calm = true) : CallR X (.type "set") (rSetOfT X.K X.prog X.w) := by
  intro pins s σ H xs us Q I r h
  obtain ⟨l, zs, rfl, hl, hz, q⟩ := h
  rw [Vals.ref1 r]
  obtain ⟨its, rv, pl, hsz⟩ := I.tuple hl
  have hn : H s.heap.objs.size = none := I.hok.fresh (Nat.le_refl _)
  refine call_setGT (knd := mixKind X.prog X.w) (zs.map Sum.inr) (I.ok.hd hc) pl ?_ (by rw [List.length_map]; exact Nat.lt_of_le_of_lt (Nat.succ_le_succ hz) (by decide)) fun h' tk R k => ?_
  · rw [List.toList_toArray]
    clear hl hsz pl q r hz
    induction zs generalizing its with
    | nil =>
      cases rv
      exact .nil
    | cons z r ih =>
      cases rv with
      | cons h1 h2 => exact .cons (kV_sc (k := .inr z) h1) (ih _ h2)
  · rw [insAll_map] at R
    exact ⟨.ref s.heap.objs.size, _, I.laid (t' := tk) k (Nat.le_refl _) (setKo_new R), rfl, q _ hn⟩
end
end WW

set_option Elab.async false
set_option linter.all false
set_option maxRecDepth 100000
set_option maxHeartbeats 4000000
namespace WW
open PySem PySem.Spec PyProof.Rows L2
theorem hu70 {A : Around} {k : Nat} (hr : Room k A) : A.units + 70 < cLine := by
  have := hr.un
  omega
/-! ### texts in order -/
def leS (a b : Str) : Bool := decide (a.cps.toList ≤ b.cps.toList)
theorem str_ext {a b : Str} (h : a.cps.toList = b.cps.toList) : a = b := by
  cases a with
  | mk x =>
    cases b with
    | mk y =>
      have : x = y := Array.toList_inj.mp h
      rw [this]
theorem leS_trans : ∀ x y z, leS x y = true → leS y z = true → leS x z = true := fun x y z h1 h2 => decide_eq_true (List.le_trans (of_decide_eq_true h1) (of_decide_eq_true h2))
theorem leS_total : ∀ x y, (leS x y || leS y x) = true := fun x y => by
  rw [Bool.or_eq_true]
  rcases List.le_total x.cps.toList y.cps.toList with h | h
  · exact .inl (decide_eq_true h)
  · exact .inr (decide_eq_true h)
theorem leS_anti : ∀ x y, leS x y = true → leS y x = true → x = y := fun x y h1 h2 => str_ext (List.le_antisymm (of_decide_eq_true h1) (of_decide_eq_true h2))
theorem sortS_perm {l l' : List Str} (h : l.Perm l') : l.mergeSort leS = l'.mergeSort leS := by
  refine PySem.W.Srt.the_of_perm leS leS_trans leS_total leS_anti ((List.mergeSort_perm l leS).trans h) ?_
  exact List.pairwise_mergeSort leS_trans leS_total l
theorem srtD_strs (ys : List Str) : srtD (ys.map fun z => (V.str z, PyData.str z)) = (ys.mergeSort leS).map V.str := by
  unfold srtD
  have e : ((ys.map fun z => (V.str z, PyData.str z)).mergeSort (PySem.W.dataLe false fun z : V × PyData => z.2)) = (ys.mergeSort leS).map fun z => (V.str z, PyData.str z) := by
    refine (PySem.W.sort_maps (fun z => (V.str z, PyData.str z)) fun a _ b _ => ?_).symm
    have := congrFun (congrFun (PySem.W.dataLe_str (fun z : Str => z)) a) b
    exact this.symm
  rw [e, List.map_map]
  rfl
theorem nodup_mem_perm {α : Type} [DecidableEq α] : ∀ {l l' : List α}, l.Nodup → l'.Nodup → (∀ x, x ∈ l ↔ x ∈ l') → l.Perm l'
  | [], l', _, _, h => by
    cases l' with
    | nil => exact .nil
    | cons x r => exact absurd ((h x).mpr (by simp)) (by simp)
  | x :: r, l', n1, n2, h => by
    have hx : x ∈ l' := (h x).mp (by simp)
    refine List.Perm.trans (List.Perm.cons x ?_) (List.perm_cons_erase hx).symm
    refine nodup_mem_perm (List.nodup_cons.mp n1).2 (n2.erase x) fun y => ?_
    rw [n2.mem_erase_iff]
    constructor
    · intro hy
      exact ⟨fun e => (List.nodup_cons.mp n1).1 (e ▸ hy), (h y).mp (by simp [hy])⟩
    · rintro ⟨e, hy⟩
      rcases List.mem_cons.mp ((h y).mpr hy) with q | q
      · exact absurd q e
      · exact q
theorem paired_get {α β : Type} {R : α → β → Prop} : ∀ {xs : List α} {ts : List β} {i : Nat} {x : α}, Paired R xs ts → xs[i]? = some x → ∃ t, ts[i]? = some t ∧ R x t
  | _, _, _, _, .nil, e => by simp at e
  | _, _, 0, _, .cons r _, e => by simp at e; subst e; exact ⟨_, rfl, r⟩
  | _, _, i + 1, x, .cons _ t, e => by
    obtain ⟨u, h1, h2⟩ := paired_get (i := i) (x := x) t (by simpa using e)
    exact ⟨u, by simpa using h1, h2⟩
theorem name_sok {z : Str} (h : NameOk z) : PyData.strOk z = true := by
  unfold PyData.strOk
  rw [Array.all_eq_true_iff_forall_mem]
  intro c hc
  have h1 : ∀ c ∈ smallS.cps.toList, c < 0x110000 := by decide +kernel
  exact decide_eq_true (h1 c (h.2.2 c (by simpa using hc)))
theorem nmB_iff (z : Str) : nmB z = true ↔ NameOk z := by
  unfold nmB NameOk
  simp only [Bool.and_eq_true, decide_eq_true_eq, List.all_eq_true]
  constructor
  · rintro ⟨⟨h1, h2⟩, h3⟩
    exact ⟨h1, h2, h3⟩
  · rintro ⟨h1, h2, h3⟩
    exact ⟨⟨h1, h2⟩, h3⟩
theorem take_next {α : Type} {l : List α} {i : Nat} {x : α} (h : l[i]? = some x) : l.take (i + 1) = l.take i ++ [x] := by
  rw [List.take_add_one, h]
  rfl
theorem strs_dp {K : PySem.W.Frag} {H : Hp} : ∀ zs : List Str, DpAll K H (zs.map V.str) (zs.map PyData.str)
  | [] => .nil
  | z :: r => .cons (.str z) (strs_dp r)
structure Wd (p : Addr) (S0 H0 S H : Hp) : Prop where
  pl : Pool S H p
  gr : Gr p S0 H0 S H
theorem Wd.alloc {p : Addr} {S0 H0 S H : Hp} {a : Addr} (w : Wd p S0 H0 S H) (n : H a = none) (o : HO) : Wd p S0 H0 (upd S a o) (upd H a o) ∧ Same S (upd S a o) ∧ upd S a o a = some o :=
  ⟨⟨w.pl.new n, w.gr.new w.pl.ss n⟩, same_upd (w.pl.ss.free n), upd_same⟩
theorem Wd.then_ {p : Addr} {S0 H0 S H S' H' : Hp} (w : Wd p S0 H0 S H) (P' : Pool S' H' p) (g : Gr p S H S' H') : Wd p S0 H0 S' H' ∧ Same S S' := ⟨⟨P', w.gr.trans g⟩, g.st⟩
theorem Wd.ss {p : Addr} {S0 H0 S H : Hp} (w : Wd p S0 H0 S H) : Same S H := w.pl.ss
theorem Wd.more {p : Addr} {S0 H0 S H H' : Hp} (w : Wd p S0 H0 S H) (s : Same H H') : Wd p S0 H0 S H' := ⟨w.pl.same s, w.gr.same s⟩
theorem Wd.put {p l : Addr} {S0 H0 S H : Hp} {o : HO} (w : Wd p S0 H0 S H) (n0 : H0 l = none) (sl : S l = none) (nlp : l ≠ p) : Wd p S0 H0 S (upd H l o) := ⟨w.pl.put sl nlp, w.gr.put n0⟩
theorem Wd.fix {p l : Addr} {S0 H0 S H : Hp} {o : HO} (w : Wd p S0 H0 S H) (h : H l = some o) (n0 : H0 l = none) (sl : S l = none) (nlp : l ≠ p) : ∃ S', Wd p S0 H0 S' H ∧ Same S S' ∧ S' l = some o :=
  ⟨upd S l o, ⟨w.pl.fix h sl nlp, w.gr.fix n0 sl⟩, same_upd sl, upd_same⟩
theorem Wd.new {p : Addr} {S0 H0 S H : Hp} {a : Addr} (w : Wd p S0 H0 S H) (n : H a = none) (o : HO) : ∃ S', Wd p S0 H0 S' (upd H a o) ∧ Same S S' ∧ S' a = some o := ⟨_, w.alloc n o⟩
theorem pair_app {α β : Type} {R : α → β → Prop} : ∀ {xs ys : List α} {ts us : List β}, Paired R xs ts → Paired R ys us → Paired R (xs ++ ys) (ts ++ us)
  | _, _, _, _, .nil, h => h
  | _, _, _, _, .cons r t, h => .cons r (pair_app t h)
theorem pair_cast {α β : Type} {R : α → β → Prop} {xs ys : List α} {ts us : List β} (e : ys = xs) (e2 : us = ts) (h : Paired R xs ts) : Paired R ys us := by
  subst e
  subst e2
  exact h
theorem at_all {xs : List V} {d : Int} (h0 : 0 ≤ d) (h1 : d < (xs.length : Int)) : ∃ v, atI xs d = some v ∧ v ∈ xs := by
  obtain ⟨j, rfl⟩ : ∃ j : Nat, d = (j : Int) := ⟨d.toNat, by omega⟩
  have hj : j < xs.length := by omega
  exact ⟨xs[j], atI_nat (List.getElem?_eq_getElem hj), List.getElem_mem hj⟩
theorem kd_non (K : PySem.W.Frag) (H : Hp) : Kd K H .non "NoneType" := ⟨.base .non, by decide, fun z e => by cases e⟩
theorem kd_bl (K : PySem.W.Frag) (H : Hp) (b : Bool) : Kd K H (.bl b) "bool" := ⟨.base (.bl b), by decide, fun z e => by cases e⟩

/-! ### data of bounded size -/
def Sz : Nat → PyData → Bool
  | 0 => fun d => match d with
    | .none => true
    | .bool _ => true
    | .int _ => true
    | .str z => PyData.strOk z && decide (z.length ≤ 1000)
    | _ => false
  | n + 1 => fun d => match d with
    | .none => true
    | .bool _ => true
    | .int _ => true
    | .str z => PyData.strOk z && decide (z.length ≤ 1000)
    | .list ds => decide (ds.length ≤ 900) && ds.all (Sz n)
    | .tuple ds => decide (ds.length ≤ 900) && ds.all (Sz n)
    | .dict _ => false
theorem lay_all {ds : List PyData} (h : ∀ d ∈ ds, d.canLay0 = true) : PyData.canLayAll0 ds = true := by
  induction ds with
  | nil => rfl
  | cons d r ih =>
    simp only [PyData.canLayAll0, h d (by simp), ih fun x hx => h x (by simp [hx]), Bool.and_true]
theorem depth_all {n : Nat} {ds : List PyData} (h : ∀ d ∈ ds, d.depth ≤ n) : PyData.depthAll ds ≤ n := by
  induction ds with
  | nil => simp [PyData.depthAll]
  | cons d r ih =>
    simp only [PyData.depthAll]
    exact Nat.max_le.mpr ⟨h d (by simp), ih fun x hx => h x (by simp [hx])⟩
theorem sz_lay : ∀ (n : Nat) (d : PyData), Sz n d = true → d.canLay0 = true ∧ d.depth ≤ n
  | 0, .none, _ => ⟨rfl, by simp [PyData.depth]⟩
  | 0, .bool _, _ => ⟨rfl, by simp [PyData.depth]⟩
  | 0, .int _, _ => ⟨rfl, by simp [PyData.depth]⟩
  | 0, .str z, h => by
    have h : (PyData.strOk z && decide (z.length ≤ 1000)) = true := h
    rw [Bool.and_eq_true] at h
    exact ⟨by simp only [PyData.canLay0]; exact h.1, by simp [PyData.depth]⟩
  | 0, .list _, h => by cases h
  | 0, .tuple _, h => by cases h
  | 0, .dict _, h => by cases h
  | n + 1, .none, _ => ⟨rfl, by simp [PyData.depth]⟩
  | n + 1, .bool _, _ => ⟨rfl, by simp [PyData.depth]⟩
  | n + 1, .int _, _ => ⟨rfl, by simp [PyData.depth]⟩
  | n + 1, .str z, h => by
    have h : (PyData.strOk z && decide (z.length ≤ 1000)) = true := h
    rw [Bool.and_eq_true] at h
    exact ⟨by simp only [PyData.canLay0]; exact h.1, by simp [PyData.depth]⟩
  | n + 1, .list ds, h => by
    have h : (decide (ds.length ≤ 900) && ds.all (Sz n)) = true := h
    rw [Bool.and_eq_true] at h
    have h2 := List.all_eq_true.mp h.2
    simp only [PyData.canLay0, PyData.depth]
    exact ⟨lay_all fun d hd => (sz_lay n d (h2 d hd)).1, Nat.succ_le_succ (depth_all fun d hd => (sz_lay n d (h2 d hd)).2)⟩
  | n + 1, .tuple ds, h => by
    have h : (decide (ds.length ≤ 900) && ds.all (Sz n)) = true := h
    rw [Bool.and_eq_true] at h
    have h2 := List.all_eq_true.mp h.2
    simp only [PyData.canLay0, PyData.depth]
    exact ⟨lay_all fun d hd => (sz_lay n d (h2 d hd)).1, Nat.succ_le_succ (depth_all fun d hd => (sz_lay n d (h2 d hd)).2)⟩
  | n + 1, .dict _, h => by cases h
theorem sz_shaped {n : Nat} {d : PyData} (h : Sz n d = true) (hn : n ≤ 64) : SeqAt.shaped d = true := by
  obtain ⟨h1, h2⟩ := sz_lay n d h
  show (d.canLay0 && decide (d.depth ≤ 64)) = true
  rw [h1, decide_eq_true (Nat.le_trans h2 hn)]
  rfl
theorem sz_str {n : Nat} {z : Str} (h : Sz n (.str z) = true) : PyData.strOk z = true ∧ z.length ≤ 1000 := by
  have h : (PyData.strOk z && decide (z.length ≤ 1000)) = true := by
    cases n <;> exact h
  rw [Bool.and_eq_true, decide_eq_true_eq] at h
  exact h
theorem sz_tup {n : Nat} {ds : List PyData} (h : Sz n (.tuple ds) = true) : ds.length ≤ 900 ∧ ∀ d ∈ ds, Sz (n - 1) d = true := by
  cases n with
  | zero => cases h
  | succ n =>
    have h : (decide (ds.length ≤ 900) && ds.all (Sz n)) = true := h
    rw [Bool.and_eq_true, decide_eq_true_eq] at h
    exact ⟨h.1, List.all_eq_true.mp h.2⟩
theorem sz_succ : ∀ (n : Nat) (d : PyData), Sz n d = true → Sz (n + 1) d = true
  | 0, .none, h | 0, .bool _, h | 0, .int _, h | 0, .str _, h | _ + 1, .none, h | _ + 1, .bool _, h | _ + 1, .int _, h | _ + 1, .str _, h => h
  | 0, .list _, h | 0, .tuple _, h | 0, .dict _, h | _ + 1, .dict _, h => by cases h
  | n + 1, .list ds, h => by
    have h : (decide (ds.length ≤ 900) && ds.all (Sz n)) = true := h
    rw [Bool.and_eq_true] at h
    have h2 := List.all_eq_true.mp h.2
    show (decide (ds.length ≤ 900) && ds.all (Sz (n + 1))) = true
    rw [h.1, Bool.true_and]
    exact List.all_eq_true.mpr fun d hd => sz_succ n d (h2 d hd)
  | n + 1, .tuple ds, h => by
    have h : (decide (ds.length ≤ 900) && ds.all (Sz n)) = true := h
    rw [Bool.and_eq_true] at h
    have h2 := List.all_eq_true.mp h.2
    show (decide (ds.length ≤ 900) && ds.all (Sz (n + 1))) = true
    rw [h.1, Bool.true_and]
    exact List.all_eq_true.mpr fun d hd => sz_succ n d (h2 d hd)
theorem sz_le {m n : Nat} (h : m ≤ n) {d : PyData} (s : Sz m d = true) : Sz n d = true := by
  induction h with
  | refl => exact s
  | step _ ih => exact sz_succ _ _ ih
mutual
theorem eqv_refl : ∀ (d : PyData), d.canLay0 = true → PyData.eqv d d = true
  | .none, _ => rfl
  | .bool b, _ => by simp [PyData.eqv]
  | .int i, _ => by simp [PyData.eqv]
  | .str x, _ => by simp [PyData.eqv]
  | .list ds, h => by simp only [PyData.eqv]; exact eqvAll_refl ds (by simpa only [PyData.canLay0] using h)
  | .tuple ds, h => by simp only [PyData.eqv]; exact eqvAll_refl ds (by simpa only [PyData.canLay0] using h)
  | .dict _, h => by simp [PyData.canLay0] at h
theorem eqvAll_refl : ∀ (ds : List PyData), PyData.canLayAll0 ds = true → PyData.eqvAll ds ds = true
  | [], _ => rfl
  | d :: r, h => by
    simp only [PyData.canLayAll0, Bool.and_eq_true] at h
    simp only [PyData.eqvAll, Bool.and_eq_true]
    exact ⟨eqv_refl d h.1, eqvAll_refl r h.2⟩
end
def kn : PyData → String
  | .none => "NoneType"
  | .bool _ => "bool"
  | .int _ => "int"
  | .str _ => "str"
  | .list _ => "list"
  | .tuple _ => "tuple"
  | .dict _ => "dict"
theorem kd_of {K : PySem.W.Frag} {H : Hp} {v : V} {n : Nat} {d : PyData} (h : Dp K H v d) (s : Sz n d = true) : Kd K H v (kn d) := by
  cases h with
  | non => exact kd_non K H
  | bl b => exact kd_bl K H b
  | int i => exact kd_int K H i
  | str x => exact kd_str K H (Nat.le_trans (sz_str s).2 (by decide))
  | lst a b =>
    refine ⟨?_, (by decide : "list" ∈ kinds), fun z e => by cases e⟩
    rcases a with (a | ⟨o, a⟩) | ⟨o, its, n, h1, h2, _⟩
    · exact .base (.lst a)
    · exact .base (.frz a)
    · exact .kList h1 h2
  | tup a b =>
    refine ⟨?_, (by decide : "tuple" ∈ kinds), fun z e => by cases e⟩
    rcases a with (a | ⟨o, a⟩) | ⟨o, its, n, h1, h2, _⟩
    · exact .base (.tup a)
    · exact .fTuple a
    · exact .kTuple h1 h2
theorem dp_tup {K : PySem.W.Frag} {H : Hp} {v : V} {ds : List PyData} (h : Dp K H v (.tuple ds)) : ∃ a xs, v = .ref a ∧ SqT K H a xs ∧ DpAll K H xs ds := by
  cases h with
  | tup a b => exact ⟨_, _, rfl, a, b⟩
theorem dpa_len {K : PySem.W.Frag} {H : Hp} : ∀ {xs : List V} {ds : List PyData}, DpAll K H xs ds → xs.length = ds.length
  | _, [], h => by cases h; rfl
  | _, d :: r, h => by
    cases h with
    | cons a b => rw [List.length_cons, List.length_cons, dpa_len b]
theorem dpa_get {K : PySem.W.Frag} {H : Hp} : ∀ {xs : List V} {ds : List PyData} {i : Nat} {d : PyData}, DpAll K H xs ds → ds[i]? = some d → ∃ v, xs[i]? = some v ∧ Dp K H v d
  | _, [], _, _, _, e => by simp at e
  | _, d :: r, 0, _, h, e => by
    cases h with
    | cons a b =>
      simp at e
      subst e
      exact ⟨_, rfl, a⟩
  | _, d :: r, i + 1, _, h, e => by
    cases h with
    | cons a b =>
      obtain ⟨v, h1, h2⟩ := dpa_get (i := i) b (by simpa using e)
      exact ⟨v, by simpa using h1, h2⟩
theorem dpa_mem {K : PySem.W.Frag} {H : Hp} : ∀ {xs : List V} {ds : List PyData} {v : V}, DpAll K H xs ds → v ∈ xs → ∃ d, d ∈ ds ∧ Dp K H v d
  | _, [], _, h, m => by cases h; simp at m
  | _, d :: r, v, h, m => by
    cases h with
    | cons a b =>
      rcases List.mem_cons.mp m with e | m
      · subst e
        exact ⟨d, by simp, a⟩
      · obtain ⟨e, h1, h2⟩ := dpa_mem b m
        exact ⟨e, by simp [h1], h2⟩
theorem dpa_strs {K : PySem.W.Frag} {H : Hp} : ∀ {xs : List V} {ys : List Str}, DpAll K H xs (ys.map PyData.str) → xs = ys.map V.str
  | _, [], h => by cases h; rfl
  | _, z :: r, h => by
    cases h with
    | cons a b =>
      cases a
      rw [dpa_strs b]
      rfl
def nmD : PyData → Bool
  | .str z => nmB z
  | _ => false
theorem isNm_dp {K : PySem.W.Frag} {H : Hp} {v : V} {d : PyData} (h : Dp K H v d) : isNm v = nmD d := by
  cases h <;> rfl
def btwD (lo hi : Int) : PyData → Bool
  | .int i => decide (lo ≤ i) && decide (i ≤ hi)
  | _ => false
theorem btw_dp {K : PySem.W.Frag} {H : Hp} {v : V} {d : PyData} (lo hi : Int) (h : Dp K H v d) : btw lo hi v = btwD lo hi d := by
  cases h <;> rfl
end WW

set_option Elab.async false
set_option linter.all false
set_option maxRecDepth 100000
set_option maxHeartbeats 4000000
namespace WW
open PySem PySem.Spec PyProof.Rows L2
/-! ### dicts of texts -/
abbrev KS := List (Key × Str)
def vS (ks : KS) : List (Key × V) := ks.map fun p => (p.1, V.str p.2)
theorem vS_val (ks : KS) (k : Key) : valV (vS ks) k = ((ks.find? fun p => decide (p.1 = k)).map (·.2)).map V.str := by
  unfold valV vS
  induction ks with
  | nil => rfl
  | cons p r ih =>
    rw [List.map_cons, List.find?_cons, List.find?_cons]
    by_cases h : p.1 = k
    · simp [h]
    · simp only [h, decide_false]
      exact ih
def valS (ks : KS) (k : Key) : Option Str := (ks.find? fun p => decide (p.1 = k)).map (·.2)
def sameS (ks ls : KS) : Bool := (ks.length == ls.length) && ks.all fun p => decide (valS ls p.1 = some p.2)
theorem hits_S {A : Around} {s : Shared} {ls : KS} {vb : List (Key × Value)} (rb : KV (vS ls) vb) : ∀ {ks : KS} {va : List (Key × Value)}, KV (vS ks) va → PySem.W.KeqHits A s vb va (ks.all fun p => decide (valS ls p.1 = some p.2))
  | [], _, ra => by
    cases ra
    exact .nil
  | p :: r, va, ra => by
    cases ra with
    | @cons _ q _ qs h t =>
      obtain ⟨h1, h2⟩ := h
      obtain ⟨k, v⟩ := q
      have h1' : p.1 = k := h1
      have ih := hits_S (A := A) (s := s) rb t
      have rr := rb.val k
      rw [vS_val] at rr
      have e0 : (ls.find? fun q => decide (q.1 = k)).map (·.2) = valS ls k := rfl
      rw [e0] at rr
      rw [List.all_cons, h1']
      obtain ⟨tv, rfl⟩ := (show ∃ t, v = Value.str p.2 t from h2)
      cases hv : valS ls k with
      | none =>
        rw [hv] at rr
        have hn : valueAt vb k = none := by
          cases hq : valueAt vb k with
          | none => rfl
          | some y =>
            rw [hq] at rr
            exact rr.elim
        have := PySem.W.KeqHits.miss (A := A) (s := s) (v := Value.str p.2 tv) (r := qs) hn
        simpa using this
      | some z =>
        rw [hv] at rr
        obtain ⟨y, hy, ry⟩ := (show RelO (some (V.str z)) (valueAt vb k) from rr).some_of
        obtain ⟨ty, rfl⟩ := (show ∃ t, y = Value.str z t from ry)
        have hit := PySem.W.KeqHits.hit (A := A) (s := s) (v := Value.str p.2 tv) (e := p.2 == z) hy (SeqAt.EqAt.str_str p.2 tv z ty) ih
        have e1 : (p.2 == z) = decide (some z = some p.2) := by
          by_cases c : p.2 = z
          · subst c
            simp
          · have c' : ¬ some z = some p.2 := fun e => c (Option.some.inj e).symm
            rw [decide_eq_false c']
            exact beq_eq_false_iff_ne.mpr c
        rw [e1] at hit
        exact hit
section
variable {X : Cx}
def rEqDS : R2 := fun x y H Q => ∃ a b ks ls, x = .ref a ∧ y = .ref b ∧ H a = some (.dK (vS ks)) ∧ H b = some (.dK (vS ls)) ∧ Q (.bl (sameS ks ls)) H
def rNeDS : R2 := fun x y H Q => ∃ a b ks ls, x = .ref a ∧ y = .ref b ∧ H a = some (.dK (vS ks)) ∧ H b = some (.dK (vS ls)) ∧ Q (.bl (!sameS ks ls)) H
theorem vS_len (ks : KS) : (vS ks).length = ks.length := List.length_map ..
theorem op_eqDS (hu : X.A.units < cLine) : OpR X (compareOp .Eq) rEqDS := by
  intro pins s σ H x y v u Q I rx ry h
  obtain ⟨a, b, ks, ls, rfl, rfl, ea, eb, q⟩ := h
  obtain rfl : v = Value.ref a := rx
  obtain rfl : u = Value.ref b := ry
  obtain ⟨_, ya, va, ra, da⟩ := (show ObjOk X.prog X.w H s.heap a (.dK (vS ks)) from I.hok a _ ea)
  obtain ⟨_, yb, vb, rb, db⟩ := (show ObjOk X.prog X.w H s.heap b (.dK (vS ls)) from I.hok b _ eb)
  have l1 : va.length = ks.length := by rw [← ra.length, vS_len]
  have l2 : vb.length = ls.length := by rw [← rb.length, vS_len]
  exact PySem.W.keq_eq (knd := mixKind X.prog X.w) (r := ks.all fun p => decide (valS ls p.1 = some p.2)) ya yb da db hu (fun _ => hits_S rb ra) (fin_bl I q (by rw [l1, l2]; rfl))
theorem op_neDS (hu : X.A.units < cLine) : OpR X (compareOp .NotEq) rNeDS := by
  intro pins s σ H x y v u Q I rx ry h
  obtain ⟨a, b, ks, ls, rfl, rfl, ea, eb, q⟩ := h
  obtain rfl : v = Value.ref a := rx
  obtain rfl : u = Value.ref b := ry
  obtain ⟨_, ya, va, ra, da⟩ := (show ObjOk X.prog X.w H s.heap a (.dK (vS ks)) from I.hok a _ ea)
  obtain ⟨_, yb, vb, rb, db⟩ := (show ObjOk X.prog X.w H s.heap b (.dK (vS ls)) from I.hok b _ eb)
  have l1 : va.length = ks.length := by rw [← ra.length, vS_len]
  have l2 : vb.length = ls.length := by rw [← rb.length, vS_len]
  exact PySem.W.keq_ne (knd := mixKind X.prog X.w) (r := ks.all fun p => decide (valS ls p.1 = some p.2)) ya yb da db hu (fun _ => hits_S rb ra) (fin_bl I q (by rw [l1, l2]; rfl))
/-- dict(d) -/
theorem cr_dictD : CallR X (.type "dict") (fun xs H Q => ∃ (a : Addr) (kvs : List (Key × V)), xs = [.ref a] ∧ Rd H a (.dK kvs) ∧ ∀ p, H p = none → Q (.ref p) (upd H p (.dK kvs))) := by
  intro pins s σ H xs us Q I r h
  obtain ⟨a, kvs, rfl, ha, q⟩ := h
  rw [Vals.ref1 r]
  exact d_copyOf I ha fun p s' np I' => ⟨.ref p, _, I', rfl, q p np⟩
/-- d.clear() -/
theorem mt_clearD : MtR X "dict.clear" (fun x xs H Q => ∃ (a : Addr) (kvs : List (Key × V)), x = .ref a ∧ xs = [] ∧ H a = some (.dK kvs) ∧ Q .non (upd H a (.dK []))) := by
  intro pins s σ H x xs v us Q I rx rs h
  obtain ⟨a, kvs, rfl, rfl, ha, q⟩ := h
  cases rs
  obtain rfl : v = Value.ref a := rx
  exact d_clear I ha fun s' I' => ⟨.non, _, I', rfl, q⟩
/-- d.copy() -/
theorem mt_copyD : MtR X "dict.copy" (fun x xs H Q => ∃ (a : Addr) (kvs : List (Key × V)), x = .ref a ∧ xs = [] ∧ H a = some (.dK kvs) ∧ ∀ p, H p = none → Q (.ref p) (upd H p (.dK kvs))) := by
  intro pins s σ H x xs v us Q I rx rs h
  obtain ⟨a, kvs, rfl, rfl, ha, q⟩ := h
  cases rs
  obtain rfl : v = Value.ref a := rx
  obtain ⟨z, hd, vs, rel, dd⟩ := dk_of I.hok ha
  refine call_meetsIn PySem.F.slot_dict_copy dd.typeIs PySem.F.entry_dict_copy (PySem.F.args_dict_copy_1 _) (meets_dict_copy (mixKind X.prog X.w) a hd) ⟨vs, dd, by rw [← rel.length]; exact z, fun h' dd' _ hs => ?_⟩
  have hn := I.hok.fresh (Nat.le_refl s.heap.objs.size)
  refine ⟨.ref s.heap.objs.size, _, I.laid (a := s.heap.objs.size) (o := .dK kvs) (t' := s.toks) hs (Nat.le_refl _) (dk_new z (beq_eq_false_iff_ne.mpr (Ne.symm (Nat.ne_of_lt I.big))) rel dd'), rfl, q _ hn⟩
end
/-- over a list that stays -/
theorem dc_list {K : PySem.W.Frag} {a : Addr} {xs : List V} {g : TG} {tt : TT} {tk tv : TE} {vs : List Nat} {σ : L2.St} {H1 : Hp} {D : Addr} {Qd : Hp → Prop} (Pv : Nat → Hp → Prop) (h0 : Pv 0 (upd H1 D (.dK []))) (hl : ∀ i H, i ≤ xs.length → Pv i H → SqL K H a xs)
    (hs : ∀ i x H, xs[i]? = some x → Pv i H → g x (wipe σ vs) H fun σ2 H2 => wipe σ2 vs = wipe σ vs ∧ tt σ2 H2 fun b H3 =>
      if b = true then tk σ2 H3 fun y H4 => tv σ2 H4 fun z H5 => ∃ kvs k, y = kV k ∧ H5 D = some (.dK kvs) ∧ kvs.length < sizeLine ∧ Pv (i + 1) (upd H5 D (.dK (putK kvs k z))) else Pv (i + 1) H3) (hd : ∀ H, Pv xs.length H → Qd H) :
    ∃ W : Nat → Nat → Hp → Prop, (∃ m, W 0 m (upd H1 D (.dK []))) ∧ ∀ i m H, W i m H →
      ((Itl K a).stop i H ∧ Qd H) ∨ ((Itl K a).go i H ∧ ∃ Nx : Hp → Prop, (∀ H', Nx H' → ∃ m', m' < m ∧ W (i + 1) m' H') ∧ ∀ x H', (Itl K a).yld i H x H' → g x (wipe σ vs) H' fun σ2 H2 => wipe σ2 vs = wipe σ vs ∧ tt σ2 H2 fun b H3 =>
        if b = true then tk σ2 H3 fun y H4 => tv σ2 H4 fun z H5 => ∃ kvs k, y = kV k ∧ H5 D = some (.dK kvs) ∧ kvs.length < sizeLine ∧ Nx (upd H5 D (.dK (putK kvs k z))) else Nx H3) := by
  refine ⟨fun i m H => m = xs.length - i ∧ i ≤ xs.length ∧ Pv i H, ⟨xs.length, by simp, Nat.zero_le _, h0⟩, ?_⟩
  rintro i m H ⟨rfl, hi, p⟩
  have q := hl i H hi p
  by_cases hlt : i < xs.length
  · refine .inr ⟨⟨xs, xs[i], q, by simp [hlt]⟩, Pv (i + 1), fun H' p' => ⟨xs.length - (i + 1), by omega, rfl, hlt, p'⟩, fun x H' y => ?_⟩
    obtain ⟨e, y⟩ := y
    subst e
    exact hs i x _ (y xs q) p
  · have e : i = xs.length := by omega
    subst e
    exact .inl ⟨⟨xs, q, Nat.le_refl _⟩, hd H p⟩
end WW

set_option Elab.async false
set_option linter.all false
set_option maxRecDepth 100000
set_option maxHeartbeats 4000000
namespace WW
open PySem PySem.Spec PyProof.Rows L2
/-! ### a dict of one entry whose key is no text and no number -/
def rawO (a : Addr) (e : DictEntry) (ep : Nat) : HO := .ext fun h => (a == sysModules) = false ∧ h.DictRaw a #[e] ep
theorem rawO_new {P : Program} {w : World} {H : Hp} {h : Heap} {a : Addr} {e : DictEntry} {ep : Nat} (hs : (a == sysModules) = false) (R : h.DictRaw a #[e] ep) : ObjOk P w H h a (rawO a e ep) := by
  obtain ⟨o, ho, _⟩ := id R
  exact ⟨⟨hs, R⟩, ⟨o, ho⟩, fun _ _ p k => ⟨p.1, p.2.at k⟩⟩
section
variable {X : Cx} {pins : List (Addr × Obj)} {σ : L2.St} {H : Hp} {s : Shared}
theorem rawO_get {a : Addr} {e : DictEntry} {ep : Nat} (I : L2.Inv X pins σ H s) (ha : H a = some (rawO a e ep)) : (a == sysModules) = false ∧ s.heap.DictRaw a #[e] ep := (I.hok a _ ha).1
end
/-- a value's type: also such a dict -/
inductive TyY (K : PySem.W.Frag) (H : Hp) : V → Value → Prop
  | x {v : V} {t : Value} : TyX K H v t → TyY K H v t
  | raw {a : Addr} {e : DictEntry} {ep : Nat} : H a = some (rawO a e ep) → TyY K H (.ref a) (.type "dict")
section
variable {X : Cx} {pins : List (Addr × Obj)} {σ : L2.St} {H : Hp} {s : Shared}
theorem kit_ofY {x : V} {u t : Value} (I : L2.Inv X pins σ H s) (rx : RelV x u) (ty : TyY X.K H x t) : ∃ P : Heap → Prop, PySem.W.KitX X.K u t P ∧ P s.heap ∧ u ≠ .builtin "__main__.__loader__#opaque" := by
  cases ty with
  | x h => exact kit_of I rx h
  | @raw a e ep ha =>
    cases (show u = Value.ref a from rx)
    obtain ⟨_, o, ho, hx, _⟩ := rawO_get I ha
    exact ⟨_, PySem.W.kitx_dict, ⟨o, ho, hx.1⟩, fun z => nomatch z⟩
end
def rIsiY (K : PySem.W.Frag) : List V → Hp → VK → Prop := fun xs H Q => ∃ (x c : V) (t u : Value) (b : Bool), xs = [x, c] ∧ ClsV c u ∧ TyY K H x t ∧ PySem.W.kitOne K t u = some b ∧ Q (.bl b) H
def rIsiTY (K : PySem.W.Frag) : List V → Hp → VK → Prop := fun xs H Q => ∃ (x : V) (tp : Addr) (cs : List V) (t : Value) (us : List Value) (b : Bool), xs = [x, .ref tp] ∧ H tp = some (.tup cs) ∧ Paired ClsV cs us ∧ TyY K H x t ∧ PySem.W.kitAny K t us = some b ∧ Q (.bl b) H
section
variable {X : Cx}
theorem call_isiY : CallR X (.builtin "isinstance") (rIsiY X.K) := by
  intro pins s σ H xs us Q I r h
  obtain ⟨x, c, t, u, b, rfl, k, ty, e, q⟩ := h
  obtain ⟨u1, u2, rfl, r1, r2⟩ := vals2 r
  have e2 := k.eq r2
  subst e2
  obtain ⟨P, Z, p, hx⟩ := kit_ofY I r1 ty
  exact PySem.W.kia_one Z I.kIn p e hx fun tk => ⟨.bl b, H, I.tok tk, rfl, q⟩
theorem call_isiTY : CallR X (.builtin "isinstance") (rIsiTY X.K) := by
  intro pins s σ H xs us Q I r h
  obtain ⟨x, tp, cs, t, ws, b, rfl, hT, k, ty, e, q⟩ := h
  obtain ⟨u1, u2, rfl, r1, r2⟩ := vals2 r
  cases (show u2 = Value.ref tp from r2)
  obtain ⟨P, Z, p, hx⟩ := kit_ofY I r1 ty
  obtain ⟨_, its, rv, o, h1, h2, n, h3⟩ := (show ObjOk X.prog X.w H s.heap tp (.tup cs) from I.hok tp _ hT)
  have e3 := ClsV.all k rv
  subst e3
  obtain ⟨oc, od, dt, sl⟩ := o
  simp only at h2 h3
  subst h2 h3
  exact PySem.W.kia_tup Z I.kIn p h1 e hx fun tk => ⟨.bl b, H, I.tok tk, rfl, q⟩
/-- len of a dict -/
theorem cr_lenDR : CallR X (.builtin "len") (fun xs H Q => ∃ (a : Addr) (n : Nat), xs = [V.ref a] ∧ ((∃ kvs, H a = some (.dK kvs) ∧ n = kvs.length) ∨ (∃ e ep, H a = some (rawO a e ep) ∧ n = 1)) ∧ Q (.int (n : Int)) H) := by
  intro pins s σ H xs us Q I r h
  obtain ⟨a, n, rfl, hh, q⟩ := h
  rcases hh with ⟨kvs, ha, rfl⟩ | ⟨e, ep, ha, rfl⟩
  · exact call_lenD pins s σ H _ us Q I r ⟨a, kvs, rfl, ha, q⟩
  · rw [Vals.ref1 r]
    obtain ⟨hs, R⟩ := rawO_get I ha
    refine PyProof.Rows.call_len_slot (n := 1) R.typeIs PySem.F.slot_dict_len (fun Q' hq => call_len_raw hs R hq) (by omega) (by omega) ?_
    exact ⟨.int 1, H, I.tok _, ⟨_, rfl⟩, q⟩
/-- d.copy() -/
theorem mt_copyR : MtR X "dict.copy" (fun x xs H Q => ∃ (a : Addr) (e : DictEntry) (ep : Nat), x = .ref a ∧ xs = [] ∧ H a = some (rawO a e ep) ∧ (e.key = .none ∨ ∃ t ys, e.key = .ref t ∧ H t = some (.tup ys)) ∧ ∀ p, H p = none → Q (.ref p) (upd H p (rawO p e 0))) := by
  intro pins s σ H x xs v us Q I rx rs h
  obtain ⟨a, e, ep, rfl, rfl, ha, hk, q⟩ := h
  cases rs
  obtain rfl : v = Value.ref a := rx
  obtain ⟨hs, R⟩ := rawO_get I ha
  have hn := I.hok.fresh (Nat.le_refl s.heap.objs.size)
  refine call_copy_raw hs R (by show 1 ≤ sizeLine; decide) (fun x hx => ?_) fun h' R' k => ⟨.ref s.heap.objs.size, _, I.laid (a := s.heap.objs.size) (o := rawO s.heap.objs.size e 0) (t' := s.toks) k (Nat.le_refl _) (rawO_new (beq_eq_false_iff_ne.mpr (Ne.symm (Nat.ne_of_lt I.big))) R'), rfl, q _ hn⟩
  have hx : x = e := by simpa using hx
  subst hx
  rcases hk with hk | ⟨t, ys, hk, ht⟩
  · exact .inl (by rw [hk]; rfl)
  · obtain ⟨_, _, _, o, h1, h2, _⟩ := (show ObjOk X.prog X.w H s.heap t (.tup ys) from I.hok t _ ht)
    exact .inr ⟨t, hk, ⟨o, h1, h2⟩, by simp⟩
end
/-! ### walked -/
def Itz (d : Addr) (od : Obj) (e : DictEntry) (ep : Nat) (k : V) : It :=
  ⟨fun i H => H d = some (.frz od (rawO d e ep)) ∧ i < 1, fun i H x H' => H' = H ∧ x = k, fun i H => H d = some (.frz od (rawO d e ep)) ∧ 1 ≤ i⟩
theorem frzR {X : Cx} {pins : List (Addr × Obj)} {σ : L2.St} {H : Hp} {s : Shared} {d : Addr} {od : Obj} {e : DictEntry} {ep : Nat} (I : L2.Inv X pins σ H s) (hd : H d = some (.frz od (rawO d e ep))) : s.heap.get? d = some od ∧ (d == sysModules) = false ∧ od.ExactDict ∧ od.data = .dict #[e] ep := by
  have h := I.hok d _ hd
  obtain ⟨h1, ⟨h2, o, h3, h4, h5⟩, _⟩ := h
  rw [h1] at h3
  cases h3
  exact ⟨h1, h2, h4, h5⟩
theorem turn_raw {P : Program} {w : World} {K : PySem.W.Frag} {tg : Expr} {d : Addr} {od : Obj} {e : DictEntry} {ep : Nat} {k : V} (it : Addr) (rk : RelV k e.key) : Turn P w K tg (Itz d od e ep k) [it] it (fun i h => h.IsKeyIter it d i 1 ep) where
  mem := by simp
  obj := fun i h st b hb => by
    have e : b = it := by simpa using hb
    subst e
    obtain ⟨oi, e, c, dd⟩ := st
    exact ⟨oi, e, fun v z => by rw [dd] at z; cases z⟩
  keep := fun i h h' st k => st.at fun oi e => k it (by simp) oi e
  item := by
    intro X hP hw hK hc i pins s σ H E I hf st hg
    subst hP hw hK
    obtain ⟨hd, hi⟩ := hg
    obtain ⟨f0, f1, f2, f3, f4, f5⟩ := hf it (by simp)
    obtain ⟨hgd, hs, hx, hdt⟩ := frzR I hd
    have hi0 : i = 0 := by omega
    subst hi0
    refine next_key_item st hgd hdt rfl rfl fun h' st' sb => ?_
    have I1 : Inv X pins σ H { s with heap := h' } := I.turned (t' := s.toks) (fun b ob hb e => (sb.2 b hb).trans e) f0 f1 f3 f4 f5
    obtain ⟨oi, e2, c, dd⟩ := id st'
    exact ⟨e.key, rfl, go_of (s := { s with heap := h' }) e2 c dd (by decide) ⟨k, H, I1, rk, ⟨rfl, rfl⟩, st', fun b hb => (hf b hb).1⟩⟩
  done := by
    intro X hP hw hK hc i pins s σ H E I hf st hg
    subst hP hw hK
    obtain ⟨hd, hi⟩ := hg
    obtain ⟨f0, f1, f2, f3, f4, f5⟩ := hf it (by simp)
    obtain ⟨hgd, hs, hx, hdt⟩ := frzR I hd
    exact next_key_end (I.ok.hd hc) st hgd hdt rfl hi fun h' eb => ⟨rfl, I.turned (t' := s.toks) (fun b ob hb e => eb b ob hb e) f0 f1 f3 f4 f5⟩
  self := fun A i s Q E st h => wpAny_pyIter_keyiter st h
def iKeysR (td : TE) : TI := fun σ H R => td σ H fun x H1 => ∃ d o, x = .ref d ∧ ((∃ kvs, H1 d = some (.frz o (.dK kvs)) ∧ R (Itk d o kvs) H1) ∨ ∃ e ep k, H1 d = some (.frz o (rawO d e ep)) ∧ RelV k e.key ∧ R (Itz d o e ep k) H1)
theorem pi_keysR {X : Cx} {tg e : Expr} {td : TE} (he : PE X e td) : PI X tg e (iKeysR td) := by
  refine ⟨fun pins s σ H R I h => ?_⟩
  refine thn (he.run pins s σ H _ I h) fun u s1 ⟨x, H1, I1, rx, d, o, ex, q⟩ => ?_
  subst ex
  obtain rfl : u = Value.ref d := rx
  rcases q with ⟨kvs, hd, q⟩ | ⟨e, ep, k, hd, rk, q⟩
  · obtain ⟨hs, hgd, hx, es, ep, vs, hdt, hsz, kv, hm⟩ := I1.frzK hd
    refine iter_keys hs hgd hx hdt (pi_one (tk := s1.toks) I1 _ (turn_keys _ hdt) ⟨_, Heap.get?_push_size _ rfl, rfl, ?_⟩ q)
    rw [hsz] <;> rfl
  · obtain ⟨hgd, hs, hx, hdt⟩ := frzR I1 hd
    exact iter_keys hs hgd hx hdt (pi_one (tk := s1.toks) I1 _ (turn_raw _ rk) ⟨_, Heap.get?_push_size _ rfl, rfl, rfl⟩ q)
/-! ### == of two such dicts with one entry -/
section
variable {prog : Program} {w : World} {A : Around} {E : Value → Shared → Prop} {s : Shared}
theorem find1 {d : Addr} {o : Obj} {e : DictEntry} {ep : Nat} {Q : Option Nat → Shared → Prop} (ho : s.heap.get? d = some o) (hd : o.data = .dict #[e] ep) (hk : ∃ t, e.key = .ref t) (h : Q (some 0) s) :
    wpAny (model prog w) A (dictFind d e.key e.hash) Q E s := by
  obtain ⟨t, hk⟩ := hk
  unfold dictFind
  refine wpAny_holding (wpAny_bind (wpAny_dictEntries ho hd ?_))
  rw [hk]
  have hp : placesWithHash (#[e] : Array DictEntry).size (fun i => (#[e] : Array DictEntry)[i]?.map (·.hash)) e.hash = [0] := by
    unfold placesWithHash
    rw [show (#[e] : Array DictEntry).size = 1 from rfl, show List.range 1 = [0] from rfl]
    simp
  have hf : List.filterMap (fun i => Option.map (fun x => x.key) (#[e] : Array DictEntry)[i]?) [0] = [Value.ref t] := by simp [hk]
  simp only [hp, hf]
  rw [if_neg (by simp [carriedByValue])]
  rw [if_neg (by simp)]
  rw [if_pos (by simp)]
  refine wpAny_bind (wpAny_pure ?_)
  rw [if_neg (by simp)]
  refine wpAny_bind ?_
  rw [List.forIn_cons]
  simp only [show (#[e] : Array DictEntry)[0]? = some e from rfl, beq_self_eq_true, if_true]
  refine wpAny_bind (wpAny_bind (wpAny_dictEpoch ho hd (wpAny_bind ?_)))
  rw [hk]
  refine (SeqAt.EqAt.same _ : SeqAt.EqAt A s (.ref t) (.ref t) true) prog w E _ ?_
  refine wpAny_bind (wpAny_dictEpoch ho hd ?_)
  rw [if_neg (by simp)]
  simp only [if_true, Option.isSome_none, Bool.false_eq_true, if_false]
  refine wpAny_bind (wpAny_rule ?_)
  rw [if_pos (by show 1 < 2; decide)]
  exact wpAny_pure (wpAny_pure (wpAny_pure h))
theorem find1N {d : Addr} {o : Obj} {e : DictEntry} {ep : Nat} {Q : Option Nat → Shared → Prop} (ho : s.heap.get? d = some o) (hd : o.data = .dict #[e] ep) (hk : e.key = .none) (h : Q (some 0) s) :
    wpAny (model prog w) A (dictFind d e.key e.hash) Q E s := by
  unfold dictFind
  refine wpAny_holding (wpAny_bind (wpAny_dictEntries ho hd ?_))
  rw [hk]
  have hp : placesWithHash (#[e] : Array DictEntry).size (fun i => (#[e] : Array DictEntry)[i]?.map (·.hash)) e.hash = [0] := by
    unfold placesWithHash
    rw [show (#[e] : Array DictEntry).size = 1 from rfl, show List.range 1 = [0] from rfl]
    simp
  have hf : List.filterMap (fun i => Option.map (fun x => x.key) (#[e] : Array DictEntry)[i]?) [0] = [Value.none] := by simp [hk]
  simp only [hp, hf]
  rw [if_pos (by simp [carriedByValue])]
  unfold dictWalkPlain
  refine wpAny_bind ?_
  rw [List.forIn_cons]
  simp only [show (#[e] : Array DictEntry)[0]? = some e from rfl, beq_self_eq_true, if_true]
  refine wpAny_bind (wpAny_bind (wpAny_dictEpoch ho hd (wpAny_bind ?_)))
  rw [hk]
  refine (SeqAt.EqAt.same _ : SeqAt.EqAt A s .none .none true) prog w E _ ?_
  refine wpAny_bind (wpAny_dictEpoch ho hd ?_)
  rw [if_neg (by simp)]
  simp only [if_true]
  refine wpAny_bind (wpAny_rule ?_)
  exact wpAny_pure (wpAny_pure (wpAny_pure h))
theorem same1 {nm : String} {a b : Addr} {oa ob : Obj} {e : DictEntry} {ep ep' : Nat} {Q : Bool → Shared → Prop} (ha : (a == sysModules) = false) (hb : (b == sysModules) = false) (hoa : s.heap.get? a = some oa) (hob : s.heap.get? b = some ob)
    (hda : oa.data = .dict #[e] ep) (hdb : ob.data = .dict #[e] ep') (hk : e.key = .none ∨ ∃ t, e.key = .ref t) (h : Q true s) :
    wpAny (model prog w) A (Builtin.Dict.samePairs nm a b) Q E s := by
  unfold Builtin.Dict.samePairs Builtin.Dict.showsAll
  rw [if_neg (show ¬ (a == sysModules) = true by rw [ha]; exact Bool.false_ne_true), if_neg (show ¬ (b == sysModules) = true by rw [hb]; exact Bool.false_ne_true)]
  refine wpAny_bind (wpAny_pure (wpAny_bind (wpAny_pure ?_)))
  refine wpAny_bind (wpAny_dictEntries hoa hda ?_)
  dsimp only
  refine wpAny_bind (wpAny_dictEntries hob hdb ?_)
  rw [if_neg (by simp)]
  refine wpAny_bind (wpAny_dictEpoch hoa hda ?_)
  refine wpAny_bind ?_
  rw [Std.Legacy.Range.forIn_eq_forIn_range']
  simp only [Std.Legacy.Range.size, Nat.sub_zero, Nat.add_sub_cancel, Nat.div_one]
  show wpAny _ _ (forIn (List.range' 0 1) _ _) _ _ _
  rw [show List.range' 0 1 = [0] from rfl, List.forIn_cons]
  refine wpAny_bind (wpAny_bind (wpAny_dictEntries hoa hda ?_))
  simp only [show (#[e] : Array DictEntry)[0]? = some e from rfl]
  have found : ∀ {Q' : Option Nat → Shared → Prop}, Q' (some 0) s → wpAny (model prog w) A (dictFind b e.key e.hash) Q' E s := fun {Q'} q => by
    rcases hk with hk | hk
    · exact find1N hob hdb hk q
    · exact find1 hob hdb hk q
  refine wpAny_bind (wpAny_holding (wpAny_bind (found ?_)))
  refine wpAny_bind (wpAny_dictEntries hob hdb ?_)
  simp only [show (#[e] : Array DictEntry)[0]? = some e from rfl]
  refine wpAny_holding ((SeqAt.EqAt.same _ : SeqAt.EqAt A s e.val e.val true) prog w E _ ?_)
  show wpAny _ _ (if (!true) = true then _ else _) _ _ _
  rw [if_neg (by decide)]
  refine wpAny_bind (wpAny_dictEpoch hoa hda ?_)
  rw [if_neg (by simp)]
  refine wpAny_pure ?_
  show wpAny _ _ (forIn [] _ _) _ _ _
  rw [List.forIn_nil]
  exact wpAny_pure (wpAny_pure h)
theorem rc_raw {a b : Addr} {e : DictEntry} {ep ep' : Nat} {Q : Value → Shared → Prop} (ha : (a == sysModules) = false) (hb : (b == sysModules) = false) (Ra : s.heap.DictRaw a #[e] ep) (Rb : s.heap.DictRaw b #[e] ep') (hk : e.key = .none ∨ ∃ t, e.key = .ref t) (hu : A.units < cLine) (h : Q (.bool true) s) :
    wpAny (model prog w) A (compareOp .Eq (.ref a) (.ref b)) Q E s := by
  obtain ⟨oa, hoa, _, hda⟩ := id Ra
  obtain ⟨ob, hob, _, hdb⟩ := id Rb
  refine wpAny_richCompare_same_room (op := .Eq) Ra.typeIs Rb.typeIs PySem.F.slot_dict_eq (wpAny_call_entry PySem.F.slot_dict_eq Ra.typeIs PySem.F.entry_dict_eq ?_ (PySem.F.args_dict_eq_2 _ _)) hu
  show wpAny _ _ (Builtin.Dict.dictSlotArgs "__eq__" ⟨[.ref a, .ref b], []⟩ >>= _) _ _ s
  refine wpAny_bind ?_
  unfold Builtin.Dict.dictSlotArgs
  refine wpAny_bind (wpAny_notOrdered_dict Ra.typeIs ?_)
  show wpAny _ _ (pure (Value.ref a, Value.ref b)) _ _ s
  refine wpAny_pure ?_
  refine wpAny_bind (wpAny_isInstance (T := "dict") Rb.typeIs PySem.F.sub_dict_dict ?_)
  simp only [Bool.not_true, Bool.false_eq_true, if_false]
  refine wpAny_bind (wpAny_pure (wpAny_bind (wpAny_pure ?_)))
  refine wpAny_bind (same1 ha hb hoa hob hda hdb hk ?_)
  refine wpAny_pure ⟨_, rfl, ?_, ?_⟩
  · exact fun x => nomatch x
  · simpa using h
end
/-- == in alike: data, dicts of texts, dicts of one entry -/
def rEqR : R2 := fun x y H Q => ∃ (a b : Addr) (e : DictEntry) (ep ep' : Nat), x = .ref a ∧ y = .ref b ∧ H a = some (rawO a e ep) ∧ H b = some (rawO b e ep') ∧ (e.key = .none ∨ ∃ t, e.key = .ref t) ∧ Q (.bl true) H
theorem op_eqR {X : Cx} (hu : X.A.units < cLine) : OpR X (compareOp .Eq) rEqR := by
  intro pins s σ H x y v u Q I rx ry h
  obtain ⟨a, b, e, ep, ep', rfl, rfl, ea, eb, hk, q⟩ := h
  obtain rfl : v = Value.ref a := rx
  obtain rfl : u = Value.ref b := ry
  obtain ⟨ha, Ra⟩ := rawO_get I ea
  obtain ⟨hb, Rb⟩ := rawO_get I eb
  exact rc_raw ha hb Ra Rb hk hu ⟨.bl true, H, I, rfl, q⟩
/-! ### the displays {None: v}, {(x,): v} -/
section
variable {X : Cx} {pos : Pos} {keys : List (Option Expr)} {values : List Expr} {trs : List (TE × TE)}
def tOddN (trs : List (TE × TE)) : TE := fun σ H Q => ∀ p, H p = none → tPairs trs σ (upd H p (.dK [])) fun ps H2 => H2 p = some (.dK []) ∧ ∃ z : Str, ps = [(V.non, V.str z)] ∧ ∀ (e : DictEntry) (ep : Nat), e.key = .none → RelV (.str z) e.val → Q (.ref p) (upd H2 p (rawO p e ep))
theorem pe_oddN (h : PPs X pos keys values trs) (hall : keys.all (·.isSome) = true) (hl : keys.length = values.length) (h0 : keys ≠ []) (h15 : keys.length ≤ 15) : PE X (.Dict keys values pos) (tOddN trs) := by
  refine ⟨fun pins s σ H Q I q => ?_⟩
  have hn := I.hok.fresh (Nat.le_refl s.heap.objs.size)
  have I1 := I.laid (a := s.heap.objs.size) (o := .dK []) (h' := s.heap.push { cls := .type "dict", data := .dict #[] }) (t' := s.toks) (fun _ _ q => Heap.get?_push_of_some _ q) (Nat.le_refl _) (dk_empty s.heap I.big)
  refine wpAny_Dict_walk (knd := leafKind X.prog X.w) hall hl h0 h15 (thn (h.run pins _ σ _ _ I1 (q _ hn)) fun ws s2 ⟨ps, H2, I2, rel, e, z, ep, q2⟩ => ?_)
  subst ep
  cases rel with
  | @cons _ pr _ _ r1 r2 =>
    cases r2
    obtain ⟨u1, u2⟩ := pr
    obtain ⟨ru1, ru2⟩ := r1
    obtain rfl : u1 = Value.none := ru1
    obtain ⟨z0, hd, vs0, r0, dd⟩ := dk_of I2.hok e
    cases r0
    have dd0 : s2.heap.DictOf (leafKind X.prog X.w) s.heap.objs.size [] := by
      obtain ⟨o, es, ep, h1, h2, h3, h4, h5, h6⟩ := dd
      have hz : es.size = 0 := by
        have := h5.length
        rw [Array.length_toList] at this
        exact this
      have hes : es = #[] := Array.eq_empty_of_size_eq_zero hz
      subst hes
      exact ⟨o, #[], ep, h1, h2, h3, fun e he => by simp at he, .nil, List.nodup_nil⟩
    refine ⟨[(Leaf.none, u2)], ⟨rfl, rfl, trivial⟩, dd0, fun h' dd' hs => ?_⟩
    obtain ⟨o, es, ep, h1, h2, h3, h4, h5, h6⟩ := dd'
    have h5 : Pairs (leafKind X.prog X.w) es.toList [(Leaf.none, u2)] := h5
    obtain ⟨e', he'⟩ : ∃ e', es = #[e'] := by
      have hz : es.size = 1 := by
        have := h5.length
        rw [Array.length_toList] at this
        exact this
      exact Array.size_eq_one_iff.mp hz
    subst he'
    obtain ⟨hkey, hval⟩ := h5.get? (i := 0) (e := e') (k := Leaf.none) (v := u2) rfl rfl
    have ek : e'.key = Value.none := by
      revert hkey
      cases e'.key <;> intro z <;> first | rfl | cases z
    refine ⟨.ref s.heap.objs.size, _, d_write I2 (by rw [e]; exact True.intro) hs ⟨o, h1⟩ (rawO_new (ep := ep) (e := e') hd ⟨o, h1, h2, h3⟩), rfl, q2 e' ep ek (by rw [hval]; exact ru2)⟩
theorem Dict_pairsHx {prog : Program} {w : World} {A : Around} {E : Value → Shared → Prop} {s : Shared} {K : Type} [DecidableEq K] {knd : HeapKind prog w K} {env : Env} {keys : List (Option Expr)} {values : List Expr} {pos : Pos} {pairs : List (Sem Value × Sem Value)} {Q : Value → Shared → Prop} (hu : knd.room A)
    (hshape : (evalEachOpt keys env).zip ((evalEach values env).map fun v => do let x ← v; standAt pos; pure x) = pairs.map fun p => (some p.1, p.2)) (h0 : pairs ≠ []) (hlen : pairs.length ≤ 15)
    (h : wpAny (model prog w) A (evalPairs pairs) (fun vs s₁ => ∃ ps, CarriesH knd s₁.heap vs ps ∧ s₁.heap.DictOfH knd s.heap.objs.size [] ∧
      ∀ h' tk, h'.DictOfH knd s.heap.objs.size (storedAllH [] ps) → Heap.SameBut s.heap.objs.size s₁.heap h' → Q (.ref s.heap.objs.size) { s₁ with heap := h', toks := tk }) E
      { s with heap := s.heap.push { cls := .type "dict", data := .dict #[] } }) :
    wpAny (model prog w) A (eval (.Dict keys values pos) env) Q E s := by
  rw [arm_eval_Dict, hshape, dictDisplay_pairs pairs h0 (by omega)]
  exact wpAny_bind (wpAny_standAt (wpAny_bind (wpAny_subDictH (knd := knd) (Q := fun d s' => wpAny (model prog w) A (pure (Value.ref d)) Q E s') hu hlen
    (wpAny_mono h (fun vs s₁ h₁ => by obtain ⟨ps, hc, hm, hq⟩ := h₁; exact ⟨ps, hc, hm, fun h' tk a b => wpAny_pure (hq h' tk a b)⟩) fun _ _ e => e))))
def tOddT (trs : List (TE × TE)) : TE := fun σ H Q => ∀ p, H p = none → tPairs trs σ (upd H p (.dK [])) fun ps H2 => H2 p = some (.dK []) ∧ ∃ (t : Addr) (x z : Str), ps = [(V.ref t, V.str z)] ∧ H2 t = some (.tup [.str x]) ∧ ∀ (e : DictEntry) (ep : Nat), e.key = .ref t → RelV (.str z) e.val → Q (.ref p) (upd H2 p (rawO p e ep))
theorem pe_oddT (hu : X.A.units < cLine) (h : PPs X pos keys values trs) (hall : keys.all (·.isSome) = true) (hl : keys.length = values.length) (h0 : keys ≠ []) (h15 : keys.length ≤ 15) : PE X (.Dict keys values pos) (tOddT trs) := by
  refine ⟨fun pins s σ H Q I q => ?_⟩
  have hn := I.hok.fresh (Nat.le_refl s.heap.objs.size)
  have I1 := I.laid (a := s.heap.objs.size) (o := .dK []) (h' := s.heap.push { cls := .type "dict", data := .dict #[] }) (t' := s.toks) (fun _ _ q => Heap.get?_push_of_some _ q) (Nat.le_refl _) (dk_empty s.heap I.big)
  have hpl : (pairTrees keys values X.env pos).length = keys.length := pairTrees_length keys values X.env pos hall hl
  refine Dict_pairsHx (knd := tupleKind (mixKind X.prog X.w)) (pairs := pairTrees keys values X.env pos) hu (zip_pairTrees keys values X.env pos hall hl) (fun z => ?_) (by rw [hpl]; exact h15) (thn (h.run pins _ σ _ _ I1 (q _ hn)) fun ws s2 ⟨ps, H2, I2, rel, e, t, x, z, ep, ht, q2⟩ => ?_)
  · rw [z] at hpl
    exact h0 (List.length_eq_zero_iff.mp hpl.symm)
  subst ep
  cases rel with
  | @cons _ pr _ _ r1 r2 =>
    cases r2
    obtain ⟨u1, u2⟩ := pr
    obtain ⟨ru1, ru2⟩ := r1
    obtain rfl : u1 = Value.ref t := ru1
    obtain ⟨z0, hd, vs0, r0, dd⟩ := dk_of I2.hok e
    cases r0
    have dd0 : s2.heap.DictOfH (tupleKind (mixKind X.prog X.w)) s.heap.objs.size [] := by
      obtain ⟨o, es, ep, h1, h2, h3, h4, h5, h6⟩ := dd
      have hz : es.size = 0 := by
        have := h5.length
        rw [Array.length_toList] at this
        exact this
      have hes : es = #[] := Array.eq_empty_of_size_eq_zero hz
      subst hes
      exact ⟨o, #[], ep, h1, h2, h3, rfl, fun x hx => by simp at hx, List.nodup_nil⟩
    refine ⟨[([Sum.inr x], t, u2)], ⟨rfl, rfl, key_of (ks := [Sum.inr x]) I2.hok ht, trivial⟩, dd0, fun h' tk dd' hs => ?_⟩
    obtain ⟨o, es, ep, h1, h2, h3, h4, _, _⟩ := dd'
    have h4 : es.toList = [entryOfKey (tupleKind (mixKind X.prog X.w)) ([Sum.inr x], t, u2)] := h4
    obtain ⟨e', he'⟩ : ∃ e', es = #[e'] := by
      have hz : es.size = 1 := by
        have := congrArg List.length h4
        rw [Array.length_toList] at this
        exact this
      exact Array.size_eq_one_iff.mp hz
    subst he'
    have ee : e' = entryOfKey (tupleKind (mixKind X.prog X.w)) ([Sum.inr x], t, u2) := by simpa using h4
    have J := d_write (t' := tk) I2 (by rw [e]; exact True.intro) hs ⟨o, h1⟩ (rawO_new (ep := ep) (e := e') hd ⟨o, h1, h2, h3⟩)
    exact ⟨.ref s.heap.objs.size, _, J, rfl, q2 e' ep (by rw [ee]; rfl) (by rw [ee]; exact ru2)⟩
end
end WW

set_option Elab.async false
set_option linter.all false
set_option maxRecDepth 100000
set_option maxHeartbeats 4000000
namespace WW
open PySem PySem.Spec PyProof.Rows L2
/-! generic lemmas out of the texts of k75 (do not join this with BB .. BP) -/
def strsD (ys : List Str) : List PyData := ys.map PyData.str
theorem eqvAll_strs : ∀ xs ys : List Str, PyData.eqvAll (strsD xs) (strsD ys) = decide (xs = ys)
  | [], [] => rfl
  | [], _ :: _ => rfl
  | _ :: _, [] => rfl
  | x :: xs, y :: ys => by
    show (PyData.eqv (.str x) (.str y) && PyData.eqvAll (strsD xs) (strsD ys)) = _
    rw [eqvAll_strs xs ys]
    show ((x == y) && _) = _
    by_cases h : x = y
    · subst h
      simp
    · simp [h]
def rngV (lo : Int) (n : Nat) : List V := (List.range n).map fun i => V.int (lo + (i : Nat))
theorem lc_pureR {lo : Int} {n : Nat} {j : Nat} {tt : TT} {te : TE} {vs : List Nat} {σ : L2.St} {H1 : Hp} {D : Addr} {Qd : Hp → Prop} (f : V → Option V) (hlen : n ≤ 1000)
    (hw : ∀ x, wipe ((wipe σ vs).set j (some x)) vs = wipe σ vs)
    (step : ∀ y H, y ∈ rngV lo n → Same H1 H → ∀ Q : Option V → Hp → Prop, (∀ H', Same H H' → Q (f y) H') → tt ((wipe σ vs).set j (some y)) H fun b H3 => if b = true then te ((wipe σ vs).set j (some y)) H3 (fun y H4 => Q (some y) H4) else Q none H3)
    (hD : H1 D = none) (hd : ∀ H, Same H1 H → H D = some (.lst ((rngV lo n).filterMap f)) → Qd H) :
    ∃ W : Nat → Nat → Hp → Prop, (∃ m, W 0 m (upd H1 D (.lst []))) ∧ ∀ i m H, W i m H →
      ((Itr lo n).stop i H ∧ Qd H) ∨ ((Itr lo n).go i H ∧ ∃ Nx : Hp → Prop, (∀ H', Nx H' → ∃ m', m' < m ∧ W (i + 1) m' H') ∧ ∀ y H', (Itr lo n).yld i H y H' → gName j y (wipe σ vs) H' fun σ2 H2 => wipe σ2 vs = wipe σ vs ∧ tt σ2 H2 fun b H3 =>
        if b = true then te σ2 H3 fun y H4 => ∃ acc, H4 D = some (.lst acc) ∧ acc.length < sizeLine ∧ Nx (upd H4 D (.lst (acc ++ [y]))) else Nx H3) := by
  have hl2 : (rngV lo n).length = n := by simp [rngV]
  refine lc_range (lo := lo) (n := n) (fun i H => Same H1 H ∧ H D = some (.lst (((rngV lo n).take i).filterMap f))) ⟨same_upd hD, upd_same⟩ (fun i H hi hp => ?_) (fun H h => ?_)
  · exact lc_step f (rngV lo n) (by omega) hw step hD i _ H (by unfold rngV; rw [List.getElem?_map, List.getElem?_range hi]; rfl) hp
  · exact hd H h.1 (by rw [h.2, List.take_of_length_le (by omega)])
theorem dpa_map {K : PySem.W.Frag} {H : Hp} {β : Type} {f : V → β} {g : PyData → β} (h : ∀ v d, Dp K H v d → f v = g d) : ∀ {xs : List V} {ds : List PyData}, DpAll K H xs ds → xs.map f = ds.map g
  | _, [], z => by cases z; rfl
  | _, d :: r, z => by
    cases z with
    | cons a b => rw [List.map_cons, List.map_cons, h _ _ a, dpa_map h b]
def noSm (v : V) : Option V := match v with
  | .str ⟨#[c]⟩ => if c ∈ smallS.cps.toList then none else some v
  | _ => none
theorem noSm_len (z : Str) : decide (((signs z).filterMap noSm).length = 0) = z.cps.toList.all fun c => decide (c ∈ smallS.cps.toList) := by
  unfold signs
  induction z.cps.toList with
  | nil => rfl
  | cons c r ih =>
    simp only [List.map_cons, List.filterMap_cons, List.all_cons]
    by_cases h : c ∈ smallS.cps.toList
    · have e : noSm (.str ⟨#[c]⟩) = none := by show (if c ∈ smallS.cps.toList then _ else _) = _; rw [if_pos h]
      rw [e, decide_eq_true h]
      exact ih
    · have e : noSm (.str ⟨#[c]⟩) = some (.str ⟨#[c]⟩) := by show (if c ∈ smallS.cps.toList then _ else _) = _; rw [if_neg h]
      rw [e, decide_eq_false h]
      simp
theorem int0 (n : Nat) : decide (V.int (n : Int) = V.int 0) = decide (n = 0) := by
  by_cases h : n = 0
  · rw [decide_eq_true h, decide_eq_true (by rw [h]; rfl)]
  · rw [decide_eq_false h, decide_eq_false (fun e => h (by injection e; omega))]
theorem fm_len0 {α β : Type} (f : α → Option β) (g : α → Bool) : ∀ {xs : List α}, (∀ x ∈ xs, (f x).isSome = !g x) → decide ((xs.filterMap f).length = 0) = xs.all g
  | [], _ => rfl
  | x :: r, h => by
    have ih := fm_len0 f g (xs := r) fun y hy => h y (by simp [hy])
    have hx := h x (by simp)
    rw [List.filterMap_cons, List.all_cons]
    cases q : f x with
    | none =>
      rw [q] at hx
      have : g x = true := by
        cases e : g x with
        | true => rfl
        | false => rw [e] at hx; cases hx
      rw [this, Bool.true_and]
      exact ih
    | some y =>
      rw [q] at hx
      have : g x = false := by
        cases e : g x with
        | false => rfl
        | true => rw [e] at hx; cases hx
      rw [this]
      simp
theorem szs {n : Nat} {r : List PyData} {e : PyData} (h : Sz (n + 1) (.tuple r) = true) (m : e ∈ r) : Sz n e = true := (sz_tup h).2 e m
theorem dv (a b : Str) : decide (V.str a = V.str b) = decide (a = b) := by
  by_cases h : a = b
  · rw [h, decide_eq_true rfl, decide_eq_true rfl]
  · rw [decide_eq_false h, decide_eq_false fun e => h (V.str.inj e)]
theorem di (a b : Nat) : decide (V.int (a : Int) = V.int (b : Int)) = decide (a = b) := by
  by_cases h : a = b
  · rw [h, decide_eq_true rfl, decide_eq_true rfl]
  · rw [decide_eq_false h, decide_eq_false fun e => h (by injection e; omega)]
theorem app_len (a b : Str) : (a ++ b).length = a.length + b.length := by
  rw [TL.len_tl, TL.tl_append, List.length_append, ← TL.len_tl, ← TL.len_tl]
theorem sl_ok {n m : Nat} (h : n ≤ m) (hm : m ≤ 1000000 := by decide) : n ≤ sizeLine := Nat.le_trans h (Nat.le_trans hm (by decide))
theorem sok_iff {z : Str} : PyData.strOk z = true ↔ ∀ c ∈ TL.tl z, c < 0x110000 := by
  unfold PyData.strOk
  rw [Array.all_eq_true_iff_forall_mem]
  constructor
  · intro h c hc
    exact of_decide_eq_true (h c (Array.mem_toList_iff.mp hc))
  · intro h c hc
    exact decide_eq_true (h c (Array.mem_toList_iff.mpr hc))
theorem dvf {a b : Str} (h : ¬ a = b) : decide (V.str a = V.str b) = false := by rw [dv, decide_eq_false h]
theorem dvt {a b : Str} (h : a = b) : decide (V.str a = V.str b) = true := by rw [dv, decide_eq_true h]
theorem szS {n : Nat} {z : Str} (h : PyData.strOk z = true) (l : z.length ≤ 1000) : Sz n (.str z) = true := by
  cases n <;> (show (PyData.strOk z && decide (z.length ≤ 1000)) = true; rw [h, decide_eq_true l]; rfl)
theorem szT {n : Nat} {ds : List PyData} (h : ∀ d ∈ ds, Sz n d = true) (l : ds.length ≤ 900) : Sz (n + 1) (.tuple ds) = true := by
  show (decide (ds.length ≤ 900) && ds.all (Sz n)) = true
  rw [decide_eq_true l]
  exact List.all_eq_true.mpr h
def strP (zs : List Str) : List (V × PyData) := zs.map fun z => (V.str z, PyData.str z)
theorem strP_fst (zs : List Str) : (strP zs).map (·.1) = zs.map V.str := by
  unfold strP
  rw [List.map_map]
  rfl
theorem strP_snd (zs : List Str) : (strP zs).map (·.2) = zs.map PyData.str := by
  unfold strP
  rw [List.map_map]
  rfl
theorem strP_ok (zs : List Str) : PySem.W.AllAlike ((strP zs).map (·.2)) ∧ PySem.W.Sortable ((strP zs).map (·.2)) := by
  rw [strP_snd]
  exact ⟨PySem.W.AllAlike.of fun b b' => rfl, PySem.W.Sortable.others fun b => ⟨fun z => (by cases z), fun _ z => (by cases z)⟩⟩
theorem strP_dp {K : PySem.W.Frag} {H : Hp} (zs : List Str) : ∀ x ∈ strP zs, Dp K H x.1 x.2 := fun x hx => by
  obtain ⟨z, _, rfl⟩ := List.mem_map.mp hx
  exact .str z
theorem strP_depth (zs : List Str) : ∀ x ∈ strP zs, x.2.depth ≤ 64 := fun x hx => by
  obtain ⟨z, _, rfl⟩ := List.mem_map.mp hx
  simp [PyData.depth]
theorem strP_srt (zs : List Str) : srtD (strP zs) = (zs.mergeSort leS).map V.str := srtD_strs zs
/-- data of depth n or less -/
def Gn (K : PySem.W.Frag) (n : Nat) (S : Hp) (v : V) : Prop := ∃ d, Dp K S v d ∧ Sz n d = true
def Gd (K : PySem.W.Frag) (S : Hp) (v : V) : Prop := Gn K 6 S v ∧ ∀ t, v = .str t → t.length ≤ 800
section
variable {K : PySem.W.Frag} {S S' : Hp} {v : V} {n m : Nat} {a : Addr} {xs : List V}
theorem Gn.mono (h : Gn K n S v) (s : Same S S') : Gn K n S' v := by
  obtain ⟨d, h1, h2⟩ := h
  exact ⟨d, Dp.mono s h1, h2⟩
theorem gn_le (h : Gn K m S v) (l : m ≤ n) : Gn K n S v := by
  obtain ⟨d, h1, h2⟩ := h
  exact ⟨d, h1, sz_le l h2⟩
theorem Gd.mono (h : Gd K S v) (s : Same S S') : Gd K S' v := ⟨h.1.mono s, h.2⟩
theorem gn_non : Gn K n S .non := ⟨.none, .non, by cases n <;> rfl⟩
theorem gn_bl {b : Bool} : Gn K n S (.bl b) := ⟨.bool b, .bl b, by cases n <;> rfl⟩
theorem gn_int {i : Int} : Gn K n S (.int i) := ⟨.int i, .int i, by cases n <;> rfl⟩
theorem gn_str {z : Str} (h : PyData.strOk z = true) (l : z.length ≤ 1000) : Gn K n S (.str z) := ⟨.str z, .str z, szS h l⟩
theorem gn_all : ∀ {xs : List V}, (∀ v ∈ xs, Gn K n S v) → ∃ ds, DpAll K S xs ds ∧ ∀ d ∈ ds, Sz n d = true
  | [], _ => ⟨[], .nil, fun d h => by simp at h⟩
  | x :: r, h => by
    obtain ⟨d, h1, h2⟩ := h x (by simp)
    obtain ⟨ds, h3, h4⟩ := gn_all (xs := r) fun v hv => h v (by simp [hv])
    refine ⟨d :: ds, .cons h1 h3, fun e he => ?_⟩
    rcases List.mem_cons.mp he with rfl | he
    · exact h2
    · exact h4 e he
theorem gn_tup (k : S a = some (.tup xs)) (h : ∀ v ∈ xs, Gn K n S v) (l : xs.length ≤ 900) : Gn K (n + 1) S (.ref a) := by
  obtain ⟨ds, h1, h2⟩ := gn_all h
  exact ⟨.tuple ds, .tup (SqT.of k) h1, szT h2 (by rw [← dpa_len h1]; exact l)⟩
theorem gn_lst (k : S a = some (.lst xs)) (h : ∀ v ∈ xs, Gn K n S v) (l : xs.length ≤ 900) : Gn K (n + 1) S (.ref a) := by
  obtain ⟨ds, h1, h2⟩ := gn_all h
  exact ⟨.list ds, .lst (SqL.of k) h1, szT h2 (by rw [← dpa_len h1]; exact l)⟩
theorem gd_ref (h : Gn K 6 S (.ref a)) : Gd K S (.ref a) := ⟨h, fun t e => by cases e⟩
theorem cut_mem {lo hi : Option Int} (h : v ∈ cutV xs lo hi) : v ∈ xs := by
  unfold cutV at h
  exact List.mem_of_mem_drop (List.mem_of_mem_take h)
end
/-! ### a comprehension whose items are new things -/
theorem lc_gd {K : PySem.W.Frag} {p a : Addr} {xs : List V} {S H1 : Hp} {j : Nat} {tt : TT} {te : TE} {vs : List Nat} {σ : L2.St} {D : Addr} {Qd : Hp → Prop} (hx : S a = some (.lst xs)) (hlen : xs.length ≤ 1000) (P1 : Pool S H1 p)
    (hw : ∀ x, wipe ((wipe σ vs).set j (some x)) vs = wipe σ vs)
    (step : ∀ x S' H', x ∈ xs → Pool S' H' p → Gr p S H1 S' H' → ∀ (Q : V → Hp → Prop) (Qn : Hp → Prop), (∀ v S'' H'', Pool S'' H'' p → Gr p S' H' S'' H'' → Gd K S'' v → Q v H'') → tt ((wipe σ vs).set j (some x)) H' fun b H3 => if b = true then te ((wipe σ vs).set j (some x)) H3 Q else Qn H3)
    (hD : H1 D = none) (hd : ∀ S' H' ys, Pool S' H' p → Gr p S H1 S' H' → H' D = some (.lst ys) → (∀ v ∈ ys, Gd K S' v) → ys.length = xs.length → Qd H') :
    ∃ W : Nat → Nat → Hp → Prop, (∃ m, W 0 m (upd H1 D (.lst []))) ∧ ∀ i m H, W i m H →
      ((Itl K a).stop i H ∧ Qd H) ∨ ((Itl K a).go i H ∧ ∃ Nx : Hp → Prop, (∀ H', Nx H' → ∃ m', m' < m ∧ W (i + 1) m' H') ∧ ∀ x H', (Itl K a).yld i H x H' → gName j x (wipe σ vs) H' fun σ2 H2 => wipe σ2 vs = wipe σ vs ∧ tt σ2 H2 fun b H3 =>
        if b = true then te σ2 H3 fun y H4 => ∃ acc, H4 D = some (.lst acc) ∧ acc.length < sizeLine ∧ Nx (upd H4 D (.lst (acc ++ [y]))) else Nx H3) := by
  have nDp : D ≠ p := fun z => P1.has (by rw [← z]; exact hD)
  have sD : S D = none := P1.ss.free hD
  refine lc_list (K := K) (a := a) (xs := xs) (fun i H => ∃ S' ys, Pool S' H p ∧ Gr p S H1 S' H ∧ S' D = none ∧ H D = some (.lst ys) ∧ (∀ v ∈ ys, Gd K S' v) ∧ ys.length = i ∧ i ≤ xs.length) ⟨S, [], P1.put sD nDp, Gr.refl.put hD, sD, upd_same, fun v h => by simp at h, rfl, Nat.zero_le _⟩ ?_ ?_ ?_
  · rintro i H _ ⟨S', ys, P', g', _⟩
    exact SqL.of (P'.ss _ _ (g'.st _ _ hx))
  · rintro i x H hi ⟨S', ys, P', g', s', h', hy, hl, hil⟩
    have hi' : i < xs.length := (List.getElem?_eq_some_iff.mp hi).1
    refine ⟨hw x, step x S' H (List.mem_of_getElem? hi) P' g' _ _ fun v S'' H'' P'' g'' hv => ?_⟩
    obtain ⟨s2, h2⟩ := g''.loc nDp s' h'
    refine ⟨ys, h2, small1000 (by omega), S'', ys ++ [v], P''.put s2 nDp, (g'.trans g'').put hD, s2, upd_same, fun u hu => ?_, by rw [List.length_append, hl]; rfl, by omega⟩
    rcases List.mem_append.mp hu with hu | hu
    · exact (hy u hu).mono g''.st
    · rw [List.mem_singleton.mp hu]
      exact hv
  · rintro H ⟨S', ys, P', g', s', h', hy, hl, _⟩
    exact hd S' H ys P' g' h' hy hl
theorem nm_sok {z : Str} (h : nmB z = true) : PyData.strOk z = true := name_sok ((nmB_iff z).mp h)
theorem ne_same {K : PySem.W.Frag} {H : Hp} {x y : V} {d : PyData} {Q : VK} (hx : Dp K H x d) (hy : Dp K H y d) (hs : SeqAt.shaped d = true) (q : Q (.bl false) H) : rNeD K x y H Q := by
  refine ⟨d, d, hx, hy, hs, hs, ?_⟩
  rw [eqv_refl d (SeqAt.canLay_of_shaped hs)]
  exact q
end WW

set_option Elab.async false
set_option linter.all false
set_option maxRecDepth 100000
set_option maxHeartbeats 4000000
namespace WW
open PySem PySem.Spec PyProof.Rows L2
/-! ### a def that says super() and has cells of its own -/
structure InF (s₀ : Shared) (env : Env) (m cm : Str → Option Value) (s : Shared) : Prop where
  toInCall : InCall s₀ env.locals m s
  own : ∀ n c, env.kindOf n = some .cell → env.cells.lookup n = some c → s.heap.IsCell c (cm n) ∧ env.locals < c
  apart : env.cells.Pairwise fun x y => x.2 ≠ y.2
  all : ∀ n c, env.cells.lookup n = some c → ∃ v, s.heap.IsCell c v
  nloc : ∀ n c, env.cells.lookup n = some c → c ≠ env.locals
section
variable {M : Model} {A : Around} {E : Value → Shared → Prop} {s₀ s : Shared} {m cm : Str → Option Value} {env : Env}
theorem stLF {n : Str} {v : Value} {Q : Unit → Shared → Prop} (x : InF s₀ env m cm s) (hk : env.scope.kind = .function) (hl : env.kindOf n = some .local)
    (h : ∀ s', InF s₀ env (fun y => if y = n then some v else m y) cm s' → Q () s') : wpAny M A (storeName env n v) Q E s := by
  refine wpAny_storeName_local hl x.toInCall.ns (fun h' hn' hs' => h _ ⟨⟨?_, hn', fun b o e => ?_, x.toInCall.fresh⟩, fun k c hkk hc => ?_, x.apart, fun k c hc => ?_, x.nloc⟩) (by rw [hk]; rfl)
  · obtain ⟨h₁, tk, rfl⟩ := x.toInCall.same
    exact ⟨h', _, rfl⟩
  · exact hs'.extBut b o (Nat.ne_of_lt (Nat.lt_of_lt_of_le (Heap.lt_size e) x.toInCall.fresh)) (x.toInCall.keep b o e)
  · obtain ⟨h1, h2⟩ := x.own k c hkk hc
    exact ⟨h1.sameBut hs' (Nat.ne_of_gt h2), h2⟩
  · obtain ⟨v', h1⟩ := x.all k c hc
    exact ⟨v', h1.sameBut hs' (x.nloc k c hc)⟩
theorem stCF {n : Str} {c : Addr} {v : Value} {Q : Unit → Shared → Prop} (x : InF s₀ env m cm s) (hk : env.scope.kind = .function) (hl : env.kindOf n = some .cell) (hc : env.cells.lookup n = some c)
    (h : ∀ s', InF s₀ env m (fun y => if y = n then some v else cm y) s' → Q () s') : wpAny M A (storeName env n v) Q E s := by
  obtain ⟨hic, hLc⟩ := x.own n c hl hc
  refine wpAny_storeName_cell hk hl hc hic fun h' hc' hs' => h _ ⟨⟨?_, x.toInCall.ns.sameBut hs' (Nat.ne_of_lt hLc), fun b o e => ?_, x.toInCall.fresh⟩, fun k c' hkk hk' => ?_, x.apart, fun k c' hk' => ?_, x.nloc⟩
  · obtain ⟨h₁, tk, rfl⟩ := x.toInCall.same
    exact ⟨h', _, rfl⟩
  · exact hs'.extBut b o (Nat.ne_of_lt (Nat.lt_trans (Nat.lt_of_lt_of_le (Heap.lt_size e) x.toInCall.fresh) hLc)) (x.toInCall.keep b o e)
  · by_cases hkn : k = n
    · subst hkn
      rw [hc] at hk'
      cases hk'
      exact ⟨by simpa using hc', hLc⟩
    · rw [if_neg hkn]
      obtain ⟨h1, h2⟩ := x.own k c' hkk hk'
      exact ⟨h1.sameBut hs' fun e => hkn (PySem.name_of_addr x.apart (PySem.mem_of_lookup hk') (e ▸ PySem.mem_of_lookup hc)), h2⟩
  · by_cases e : c' = c
    · subst e
      exact ⟨_, hc'⟩
    · obtain ⟨v', h1⟩ := x.all k c' hk'
      exact ⟨v', h1.sameBut hs' e⟩
theorem bindF (f : Str × Value → PUnit → Sem (ForInStep PUnit)) (hf : ∀ n v u, f (n, v) u = (do storeName env n v; pure (.yield ⟨⟩))) (hk : env.scope.kind = .function) :
    ∀ (binds : List (Str × Value)) (m cm : Str → Option Value) (s : Shared) (Q : PUnit → Shared → Prop), InF s₀ env m cm s →
      (∀ x ∈ binds, env.kindOf x.1 = some .local ∨ (env.kindOf x.1 = some .cell ∧ (env.cells.lookup x.1).isSome = true)) →
      (∀ s', InF s₀ env (bindL env.kindOf binds m) (bindC env.kindOf binds cm) s' → Q ⟨⟩ s') → wpAny M A (forIn binds ⟨⟩ f) Q E s
  | [], m, cm, s, Q, x, _, h => by rw [List.forIn_nil]; exact wpAny_pure (h s x)
  | (n, v) :: r, m, cm, s, Q, x, hkind, h => by
    rw [List.forIn_cons, hf]
    have hr : ∀ y ∈ r, env.kindOf y.1 = some .local ∨ (env.kindOf y.1 = some .cell ∧ (env.cells.lookup y.1).isSome = true) := fun y hy => hkind y (List.mem_cons_of_mem _ hy)
    rcases hkind (n, v) List.mem_cons_self with hl | ⟨hl, hc⟩
    · refine wpAny_bind (wpAny_bind (stLF x hk hl fun s' x' => wpAny_pure (bindF f hf hk r _ _ s' Q x' hr fun s'' x'' => h s'' ?_)))
      unfold bindL bindC
      rw [if_pos hl, if_pos hl]
      exact x''
    · obtain ⟨c, hc⟩ := Option.isSome_iff_exists.mp hc
      have hnl : ¬ env.kindOf n = some .local := by rw [hl]; decide
      refine wpAny_bind (wpAny_bind (stCF x hk hl hc fun s' x' => wpAny_pure (bindF f hf hk r _ _ s' Q x' hr fun s'' x'' => h s'' ?_)))
      unfold bindL bindC
      rw [if_neg hnl, if_neg hnl]
      exact x''
end
/-- the cells of a frame: the closure's, and new ones -/
theorem cf_ok : ∀ (names : List (Str × NameKind)) (h : Heap) (lo : Nat) (cl acc : List (Str × Addr)), lo ≤ h.objs.size → (∀ p ∈ acc, p ∈ cl ∨ (h.IsCell p.2 none ∧ lo ≤ p.2)) → (∀ p ∈ acc, p.2 < h.objs.size) → (acc.Pairwise fun x y => x.2 ≠ y.2) →
    (∀ p ∈ cellsFrom h.objs.size names acc, p ∈ cl ∨ ((pushCells h names).IsCell p.2 none ∧ lo ≤ p.2)) ∧ ((cellsFrom h.objs.size names acc).Pairwise fun x y => x.2 ≠ y.2)
  | [], _, _, _, _, _, x, _, y => ⟨x, y⟩
  | (name, kind) :: r, h, lo, cl, acc, hlo, x, lt, y => by
    unfold pushCells cellsFrom
    split
    · have := cf_ok r (h.push { cls := .type "cell", data := .cell none }) lo cl ((name, h.objs.size) :: acc) (by rw [Heap.size_push]; omega) (fun p hp => by
          rcases List.mem_cons.mp hp with e | hp
          · subst e
            exact .inr ⟨⟨_, Heap.get?_push_size _ rfl, rfl⟩, hlo⟩
          · rcases x p hp with z | ⟨z1, z2⟩
            · exact .inl z
            · exact .inr ⟨z1.keeps fun b o e => Heap.get?_push_of_some _ e, z2⟩) (fun p hp => by
          rw [Heap.size_push]
          rcases List.mem_cons.mp hp with e | hp
          · subst e
            exact Nat.lt_succ_self _
          · exact Nat.lt_succ_of_lt (lt p hp)) (List.pairwise_cons.mpr ⟨fun z hz e => by
            have hlt := lt z hz
            have e' : h.objs.size = z.2 := e
            rw [← e'] at hlt
            exact Nat.lt_irrefl _ hlt, y⟩)
      rwa [Heap.size_push] at this
    · exact cf_ok r h lo cl acc hlo x lt y
section
variable {M : Model} {A : Around} {E : Value → Shared → Prop} {s : Shared}
theorem newEnvF {scope : Scope} {globals : Addr} {binds : List (Str × Value)} {qual : Str} {func : Option Addr} {code : Value} {builtins cc : Addr} {occ : Obj} {Q : Env → Shared → Prop}
    {v0 : Option Value} (hk : scope.kind = .function) (hfree : scope.names.lookup ("__class__" : Str) = some .free) (hcc : s.heap.get? cc = some occ) (hcv : occ.data = .cell v0)
    (hkind : ∀ x ∈ binds, scope.names.lookup x.1 = some .local ∨ (scope.names.lookup x.1 = some .cell ∧ ((cellsFrom (s.heap.objs.size + 1) scope.names [("__class__", cc)]).lookup x.1).isSome = true))
    (hQ : ∀ env, env = newEnv scope s.heap.objs.size globals (cellsFrom (s.heap.objs.size + 1) scope.names [("__class__", cc)]) qual func code none builtins →
      ∀ s', InF s env (bindL env.kindOf binds fun _ => none) (bindC env.kindOf binds fun _ => none) s' → Q env s') :
    wpAny M A (newFunctionEnv scope globals [("__class__", cc)] binds qual func code none builtins) Q E s := by
  simp only [newFunctionEnv, Option.isSome_none, Bool.false_eq_true, if_false]
  refine wpAny_bind (wpAny_alloc ?_)
  refine wpAny_bind (wpAny_layCells _ (fun name kind cells => by cases hkc : kind == NameKind.cell <;> simp [hkc]) _ _ _ _ ?_)
  have hlt : cc < s.heap.objs.size := Heap.lt_size hcc
  have ok := cf_ok scope.names (s.heap.push { cls := .type "frame", data := .dict #[] }) (s.heap.objs.size + 1) [("__class__", cc)] [("__class__", cc)] (by rw [Heap.size_push]; exact Nat.le_refl _) (fun p hp => .inl hp) (fun p hp => by
    rw [List.mem_singleton.mp hp, Heap.size_push]
    exact Nat.lt_succ_of_lt hlt) (List.pairwise_singleton _ _)
  rw [Heap.size_push] at ok
  rw [show ({ s with heap := s.heap.push { cls := .type "frame", data := .dict #[] } } : Shared).heap.objs.size = s.heap.objs.size + 1 from Heap.size_push ..]
  refine wpAny_bind (bindF (s₀ := s) (env := newEnv scope s.heap.objs.size globals (cellsFrom (s.heap.objs.size + 1) scope.names [("__class__", cc)]) qual func code none builtins)
    _ (fun _ _ _ => rfl) hk binds (fun _ => none) (fun _ => none) _ _
    ⟨⟨⟨_, _, rfl⟩, (Heap.Ns.new s.heap (.type "frame")).keeps (pushCells_keeps _ _), fun b o e => pushCells_keeps _ _ b o (Heap.get?_push_of_some _ e), Nat.le_refl _⟩,
      fun n c hkn hc => ?_, ok.2, fun n c hc => ?_, fun n c hc => ?_⟩
    hkind fun s' x => wpAny_pure (hQ _ rfl s' x))
  rotate_left
  · rcases ok.1 (n, c) (PySem.mem_of_lookup hc) with h | h
    · have e := List.mem_singleton.mp h
      cases e
      exact ⟨v0, _, pushCells_keeps _ _ _ _ (Heap.get?_push_of_some _ hcc), hcv⟩
    · exact ⟨_, h.1⟩
  · rcases ok.1 (n, c) (PySem.mem_of_lookup hc) with h | h
    · have e := List.mem_singleton.mp h
      cases e
      exact Nat.ne_of_lt hlt
    · exact Nat.ne_of_gt h.2
  rcases ok.1 (n, c) (PySem.mem_of_lookup hc) with h | h
  · have e := List.mem_singleton.mp h
    cases e
    have hkn : scope.names.lookup ("__class__" : Str) = some .cell := hkn
    rw [hfree] at hkn
    cases hkn
  · exact ⟨h.1, h.2⟩
end
/-- names: the parameters first; the class cell is the one free name -/
structure CScope (N P : List Str) (sc : Scope) : Prop where
  kind : sc.kind = .function
  co : sc.isCoroutine = false
  gen : sc.isGenerator = false
  nd : N.Nodup
  pre : N.take P.length = P
  par : ∀ x ∈ P, sc.names.lookup x = some .local ∨ sc.names.lookup x = some .cell
  free : ∀ y ∈ sc.names, y.2 = .free → y.1 = "__class__"
  cls : sc.names.lookup ("__class__" : Str) = some .free
  nown : ∀ y ∈ sc.names, y.2 = .cell → y.1 ≠ "__class__"
def envS (qual : Str) (scope : Scope) (L a cda cc : Addr) : Env :=
  { scope := scope, locals := L, globals := mainGlobals, cells := cellsFrom (L + 1) scope.names [("__class__", cc)], qual := qual ++ ".<locals>.", func := some a, code := .ref cda, frame := some L, builtins := builtinsNs }
theorem cf_keep : ∀ (names : List (Str × NameKind)) (n : Nat) (acc : List (Str × Addr)) {x : Str} {c : Addr}, (∀ y ∈ names, y.2 = .cell → y.1 ≠ x) → acc.lookup x = some c → (cellsFrom n names acc).lookup x = some c
  | [], _, _, _, _, _, h => h
  | (name, kind) :: r, n, acc, x, c, hn, h => by
    unfold cellsFrom
    split
    · rename_i hk
      refine cf_keep r _ _ (fun y hy => hn y (List.mem_cons_of_mem _ hy)) ?_
      have ne : name ≠ x := hn (name, kind) List.mem_cons_self (beq_iff_eq.mp hk)
      rw [List.lookup_cons, show (x == name) = false from beq_eq_false_iff_ne.mpr (Ne.symm ne)]
      exact h
    · exact cf_keep r _ _ (fun y hy => hn y (List.mem_cons_of_mem _ hy)) h
/-- the context of such a body, at its entry -/
def scx (CX : CXT) (P : Program) (w : World) (K : PySem.W.Frag) (mg : Str → Option Value) (base : Heap) (N : List Str) (qual : Str) (scope : Scope) (f cda cc : Addr) (A : Around) (outer : List Env) (s : Shared) (H : Hp) (E : XK) : Cx where
  prog := P
  w := w
  K := K
  mg := mg
  base := base
  A := A.deeper (envS qual scope s.heap.objs.size f cda cc)
  N := N
  s_0 := s
  H_0 := H
  env := envS qual scope s.heap.objs.size f cda cc
  outer := outer
  stack := envS qual scope s.heap.objs.size f cda cc :: outer
  ex := []
  calm := true
  fn := fun x => x != "__class__"
  pn := []
  xe := fun e s' => wpAny (model P w) (A.deeper (envS qual scope s.heap.objs.size f cda cc)) (leaving (envS qual scope s.heap.objs.size f cda cc) e) (fun _ s'' => CX outer H s E e s'') (fun e' s'' => CX outer H s E e' s'') s'
theorem inv_startS {CX : CXT} {P : Program} {w : World} {K : PySem.W.Frag} {mg : Str → Option Value} {base : Heap} {N ps : List Str} {qual : Str} {scope : Scope} {f cda cc : Addr} {occ : Obj} {A : Around} {outer : List Env} {s s1 : Shared} {H : Hp} {E : XK} {us : List Value} {vs : List V} {v0 : Option Value}
    (S : CScope N ps scope) (hd : A.handled = none) (e0 : Env0 P w K mg base A outer s H) (hl : vs.length = ps.length) (r : Vals vs us) (hcb : base.get? cc = some occ) (hcv : s.heap.IsCell cc v0)
    (x : InF s (envS qual scope s.heap.objs.size f cda cc) (bindL (envS qual scope s.heap.objs.size f cda cc).kindOf (ps.zip us) fun _ => none) (bindC (envS qual scope s.heap.objs.size f cda cc).kindOf (ps.zip us) fun _ => none) s1) :
    Inv (scx CX P w K mg base N qual scope f cda cc A outer s H E) [] (L2.start N vs) H s1 := by
  have hpl : ps.length ≤ N.length := by have := congrArg List.length S.pre; rw [List.length_take] at this; omega
  obtain ⟨h1, tk, rfl, hk⟩ := x.toInCall.done
  have hccS := e0.bs _ _ hcb
  have hlt : cc < s.heap.objs.size := Heap.lt_size hccS.1
  have noA : ∀ b : Addr, b ∉ (scx CX P w K mg base N qual scope f cda cc A outer s H E).ex := fun b z => absurd (show b ∈ ([] : List Addr) from z) (by simp)
  have ok := cf_ok scope.names (s.heap.push { cls := .type "frame", data := .dict #[] }) (s.heap.objs.size + 1) [("__class__", cc)] [("__class__", cc)] (by rw [Heap.size_push]; exact Nat.le_refl _) (fun p hp => .inl hp) (fun p hp => by
    rw [List.mem_singleton.mp hp, Heap.size_push]
    exact Nat.lt_succ_of_lt hlt) (List.pairwise_singleton _ _)
  rw [Heap.size_push] at ok
  have which : ∀ y c, (envS qual scope s.heap.objs.size f cda cc).cells.lookup y = some c → (y = "__class__" ∧ c = cc) ∨ s.heap.objs.size + 1 ≤ c := fun y c h => by
    rcases ok.1 (y, c) (PySem.mem_of_lookup h) with z | z
    · have e := List.mem_singleton.mp z
      cases e
      exact .inl ⟨rfl, rfl⟩
    · exact .inr z.2
  refine ⟨⟨e0.mod, S.kind, rfl, rfl, Nat.le_refl _, fun y z c h1 h2 => ?_, fun y hy => ?_, fun y c hf h => ?_, fun _ => hd, Around.frames_deeper e0.frames, .inr ⟨rfl, rfl⟩, fun b z => absurd z (noA b), e0.bs, e0.bsz, fun b _ _ => noA b, fun b z => absurd z (noA b), e0.funs, e0.frf⟩,
    rfl, e0.bare, Un.kept hk, ⟨_, x.toInCall.ns, fun i y v h1 h2 h3 => ?_⟩, fun y c h => ?_, e0.hok.fresh (Nat.le_refl _), fun y c h => ?_, fun p hp => absurd (show p ∈ ([] : List (Addr × Obj)) from hp) (by simp), e0.hok.kept hk, ?_⟩
  · exact PySem.name_of_addr x.apart (PySem.mem_of_lookup h1) (PySem.mem_of_lookup h2)
  · have hy : scope.names.lookup y = some .cell ∨ scope.names.lookup y = some .free := hy
    rcases hy with hy | hy
    · exact Option.isSome_iff_exists.mp (PySem.W.cellsFrom_some scope.names _ _ (.inl hy))
    · have e := S.free _ (PySem.mem_of_lookup hy) rfl
      have e : y = "__class__" := e
      subst e
      exact ⟨cc, cf_keep _ _ _ S.nown (by simp [List.lookup])⟩
  · rcases which y c h with ⟨rfl, _⟩ | z
    · have hf : (("__class__" : Str) != "__class__") = true := hf
      simp at hf
    · exact Nat.le_of_succ_le z
  · have hi : i < vs.length := by
      unfold L2.start at h2
      by_cases hi : i < vs.length
      · exact hi
      · rw [List.getElem?_append_right (by simpa using hi)] at h2
        rw [List.getElem?_replicate] at h2
        split at h2 <;> cases h2
    have ha : vs[i]? = some v := by
      unfold L2.start at h2
      rw [List.getElem?_append_left (by simpa using hi), List.getElem?_map] at h2
      cases e : vs[i]? with
      | none => rw [e] at h2; cases h2
      | some a => rw [e] at h2; cases h2; rfl
    obtain ⟨u, hu, rv⟩ := r.get ha
    have hp : ps[i]? = some y := by
      rw [← S.pre, List.getElem?_take_of_lt (by omega)]
      exact h1
    have ndP : ps.Nodup := by rw [← S.pre]; exact S.nd.sublist (List.take_sublist _ _)
    refine ⟨u, rv, ?_⟩
    rcases S.par y (List.mem_of_getElem? hp) with k | k
    · exact .inl ⟨k, bindL_get ndP hp hu k⟩
    · obtain ⟨c, e⟩ := Option.isSome_iff_exists.mp (PySem.W.cellsFrom_some scope.names (s.heap.objs.size + 1) [("__class__", cc)] (.inl k))
      refine .inr ⟨.inl k, c, e, ?_⟩
      have q := (x.own y c k e).1
      rw [bindC_get ndP hp hu (by show scope.names.lookup y ≠ _; rw [k]; decide)] at q
      exact q
  · rcases which y c h with ⟨_, rfl⟩ | z
    · obtain ⟨o, ho, hdat⟩ := hcv
      exact ⟨v0, o, hk _ _ ho, hdat⟩
    · exact x.all y c h
  · rcases which y c h with ⟨_, rfl⟩ | z
    · exact hccS.2
    · exact e0.hok.fresh (Nat.le_of_succ_le z)
  · unfold L2.start
    show _ = N.length
    rw [List.length_append, List.length_map, List.length_replicate]
    omega
end WW

set_option Elab.async false
set_option linter.all false
set_option maxRecDepth 100000
set_option maxHeartbeats 4000000
namespace WW
open PySem PySem.Spec PyProof.Rows L2
/-! ### super().__init__(..) of an own class -/
/-- the rest u behind it; the parent's __init__ keeps sp -/
def tSupO (C : Addr) (sp : Sp) (ta : TA) (u : TS) : TS := fun D σ H => ∃ (x dx : Addr) (fs : List (Str × V)), σ[0]? = some (some (.ref x)) ∧ H x = some (.ins C dx fs) ∧ ta σ H fun vs H1 => sp (.ref x :: vs) H1 (fun _ H2 => u D σ H2) E0
section
variable {X : Cx} {f cda cc C B g : Addr} {fdg : FuncData} {psg : List Str} {sp : Sp} {k : Nat}
theorem pat_supO {body : List Stmt} {p0 p1 p2 pos pos' : Pos} {e : Expr} {es : List Expr} {rest : List Stmt} {ta : TA} {u : TS} {pl : Sem Bool} (T : SupTxt X.prog X.K X.mg f cda cc C) (S : SupX X f cda cc) (hsub : PySem.W.mroIn X.K C (.ref C) = some true)
    (hm : PySem.W.ks_superIn X.K C C "__init__" = some (some (.ref g))) (hfi : PySem.W.fnIn X.K g = true) (hti : PySem.W.typeIn X.K (.ref g) = some (.type "function")) (F : FnOk X.prog X.w X.K X.mg X.base CX0 k g fdg psg sp) (hR : Room k X.A) (hb : Binds X.K fdg psg [])
    (ha : PA X (e :: es) ta) (hr : PAt X (.func body X.env) rest u)
    (he : starEach (e :: es) X.env = (false, eval e X.env) :: starEach es X.env := by rfl) (hpl : (backTo pos (starEach es X.env)).any (·.1) = false := by rfl)
    (ht : eval (.Call (.Attribute (.Call (.Name "super" p0) [] [] p1) "__init__" p2) (e :: es) [] pos) X.env = (do
      let ov ← attributeBase (.Call (.Name "super" p0) [] [] p1) "__init__" X.env (eval (.Call (.Name "super" p0) [] [] p1) X.env)
      standAt p2.atName
      let (f, first) ← holding [ov] (getMethod ov "__init__" pl)
      callWith pos f first (backTo pos (starEach (e :: es) X.env)) []) := by rfl)
    (hs : swapsWith (.Call (.Attribute (.Call (.Name "super" p0) [] [] p1) "__init__" p2) (e :: es) [] pos) none pos'.line X.env = pure false := by rfl) :
    PAt X (.func body X.env) (.Expr (.Call (.Attribute (.Call (.Name "super" p0) [] [] p1) "__init__" p2) (e :: es) [] pos) pos' :: rest) (tSupO C sp ta u) := by
  refine ⟨fun pins s σ H D I q => ?_⟩
  obtain ⟨a, dx, fs, h0, ea, q⟩ := q
  obtain ⟨mA, O, _⟩ := ins_get I.hok ea
  obtain ⟨od, J, _⟩ := O.look
  refine PySem.ks_wpAt_execs_cons (PySem.ks_wpAt_Expr_any ?_ I.quiet hs)
  refine PySem.ks_wpAt_MethodCall (pl := pl) ?_ ht
  refine sup_node T S I h0 J hsub (by decide) fun so s1 I1 k1 => ?_
  have KX := I1.kIn
  obtain ⟨mA1, O1, _⟩ := ins_get I1.hok ea
  obtain ⟨od1, J1, _⟩ := O1.look
  cases hc : PySem.W.clsIn X.K C with
  | none =>
    unfold PySem.W.ks_superIn at hm
    rw [hc] at hm
    cases hm
  | some cd =>
    unfold PySem.W.ks_superIn at hm
    rw [hc] at hm
    have hso := ClX.pin_at I1
    have hne := PySem.W.ks_ne KX J1 hc
    have hop := PySem.W.looks_opaque (M := model X.prog X.w) (C := C) KX T.opq
    have hmro : PySem.W.Looks (model X.prog X.w) s1.heap (mroOf (.ref C)) cd.mro := fun A Q E s k q => wpAny_bind ((PySem.W.looks_clsIn KX hc) A _ E s k (wpAny_pure q))
    obtain ⟨of, hgo, hgc⟩ : ∃ of, s1.heap.get? g = some of ∧ of.cls = .type "function" := by
      unfold PySem.W.typeIn at hti
      simp only at hti
      cases hl : X.K.lookup g with
      | none =>
        rw [hl] at hti
        cases hti
      | some o =>
        rw [hl] at hti
        exact ⟨o, KX _ _ hl, by simpa using hti⟩
    obtain ⟨hp, gg, d, tk, os⟩ := s1
    refine PySem.ks_wpAny_getMethod_super hso hop hmro rfl KX hm hgo hgc hne (by decide) ?_
    have I2 : Inv X ((hp.objs.size, { cls := .type "method", data := .fields #[.ref g, .ref a] }) :: (so, PySem.W.ks_superObj C a C) :: pins) σ H ⟨hp.push { cls := .type "method", data := .fields #[.ref g, .ref a] }, gg, d, tk + 1, os⟩ :=
      ClX.pin_new (t' := tk + 1) I1 (fun b o z => Heap.get?_push_of_some _ z) (Nat.le_refl _) (Heap.get?_push_at rfl rfl) (fun v z => by cases z)
    show wpAny _ _ (callWith pos (.ref hp.objs.size) [] (backTo pos (starEach (e :: es) X.env)) []) _ _ _
    rw [he]
    refine PySem.W.callWith_of (P := PySem.W.MethP X.K hp.objs.size g (.ref a)) (by show ((false || (backTo pos (starEach es X.env)).any (·.1)) || _) = false; rw [hpl]; rfl) (PySem.W.keeps_M hfi) ?_
    refine PySem.Calls.evalArgs_plain ?_
    have hrun := ha.run pos _ _ σ H _ I2 q
    rw [he] at hrun
    refine thn hrun fun us s3 ⟨vs, H3, I3, r3, q3⟩ => ⟨⟨ClX.pin_at I3, I3.kIn⟩, ?_⟩
    show wpAny _ _ (call (.ref hp.objs.size) us) _ _ _
    have hl : (Value.ref a :: us).length = psg.length := by
      have := F.len _ _ _ _ q3
      rw [← this, List.length_cons, List.length_cons, Paired.length r3]
    have bb := hb s3 (.ref a :: us) I3.kIn (by rw [List.append_nil]; exact hl)
    rw [List.append_nil] at bb
    refine wpAny_call (PySem.W.method_call (ClX.pin_at I3) (codeAny_mono (F.run X.A X.stack s3 H3 ⟨.ref a :: us, []⟩ (.ref a :: us) (.ref a :: vs) _ E0 hR I3.env0 bb (.cons rfl r3) q3) fun r s' hq => ?_))
    cases r with
    | error e => exact hq.elim
    | ok fl =>
      cases fl with
      | ret u =>
        obtain ⟨v, H4, I4, _, q4⟩ := I3.after hq
        exact hr.run pins s' σ H4 D (ClX.unpin (ClX.unpin I4)) q4
      | next => exact False.elim hq
      | brk => exact False.elim hq
      | cont => exact False.elim hq
end
/-! ### a def that says super() and has own cells keeps its promise -/
theorem fn_supC {CX : CXT} {P : Program} {w : World} {K : PySem.W.Frag} {mg : Str → Option Value} {base : Heap} {k : Nat} {f cda cc D : Addr} {name qual : Str} {params : Arguments} {body : List Stmt} {scope : Scope} {doc pm ct oc : Value} {od : Option Addr}
    {osl : Array (Option Value)} {N ps : List Str} {sp : Sp} {cl cld csl} (lk : K.lookup f = some ⟨oc, od, .func (PySem.W.fnX name qual params body scope [("__class__", cc)] .none .none doc pm none (.ref cda) ct), osl⟩) (hcd : PySem.W.codeIn K (.ref cda) qual = true)
    (hcell : K.lookup cc = some ⟨cl, cld, .cell (some (.ref D)), csl⟩) (S : CScope N ps scope)
    (len : ∀ vs H Q E, sp vs H Q E → vs.length = ps.length)
    (hbody : ∀ (A : Around) (outer : List Env) (s : Shared) (H : Hp) (vs : List V) (Q : VK) (E : XK), Room k (A.deeper (envS qual scope s.heap.objs.size f cda cc)) → sp vs H Q E →
      ∃ t, PAt (scx CX P w K mg base N qual scope f cda cc A outer s H E) (.func body (envS qual scope s.heap.objs.size f cda cc)) body t ∧ t { nx := fun _ H' => Q .non H', rt := Q } (L2.start N vs) H) :
    FnOk P w K mg base CX (k + 1) f (PySem.W.fnX name qual params body scope [("__class__", cc)] .none .none doc pm none (.ref cda) ct) ps sp := by
  refine ⟨len, fun A outer s H args us vs Q E hr e0 hb r hsp => ?_⟩
  have hl := len _ _ _ _ hsp
  have KX : K.In s.heap := e0.mod.kin.keeps fun b o e => (e0.bs b o e).1
  have lim : s.heap.NoLimit := e0.mod.nolimit.keeps fun b o e => (e0.bs b o e).1
  refine codeAny_call_function (fd := PySem.W.fnX name qual params body scope [("__class__", cc)] .none .none doc pm none (.ref cda) ct) (body := body) hr.depth (KX _ _ lk) rfl S.co S.gen rfl (PySem.W.codeRec_of KX hcd) (hb _ _ _ _ ?_)
  have hcc := KX _ _ hcell
  refine newEnvF (s := { s with toks := s.toks }) (scope := scope) (globals := mainGlobals) (binds := ps.zip us) (qual := qual ++ ".<locals>.") (func := some f) (code := .ref cda) (builtins := builtinsNs) (cc := cc) S.kind S.cls hcc rfl (fun x hx => ?_) (fun env eenv s1 x => ?_)
  · rcases S.par x.1 (List.of_mem_zip hx).1 with z | z
    · exact .inl z
    · exact .inr ⟨z, PySem.W.cellsFrom_some scope.names _ _ (.inl z)⟩
  · have ee : env = envS qual scope s.heap.objs.size f cda cc := eenv
    subst ee
    obtain ⟨t, ht, hq⟩ := hbody A outer s H vs Q E (hr.deeper _) hsp
    have I : Inv (scx CX P w K mg base N qual scope f cda cc A outer s H E) [] (L2.start N vs) H s1 := inv_startS (v0 := some (.ref D)) S hr.hd e0 hl r (e0.mod.kin _ _ hcell) ⟨_, hcc, rfl⟩ x
    refine ⟨lim.keeps x.toInCall.keep, PySem.ks_codeAny_funcAt ?_⟩
    refine PySem.ks_wpAt_mono (ht.run [] _ (L2.start N vs) H _ I hq) (fun fl s' hs => ?_) fun e s' hs => hs
    have fin : ∀ {σ' : L2.St} {H' : Hp} {v : V} {u : Value}, Inv (scx CX P w K mg base N qual scope f cda cc A outer s H E) [] σ' H' s' → L2.RelV v u → Q v H' → CE outer P w H s Q u s' :=
      fun {σ' H' v u} J rv q => ⟨v, H', J.os, J.bare, J.base, J.hok, rv, q⟩
    cases fl with
    | ret u =>
      obtain ⟨v, σ', H', J, rv, q⟩ := hs
      exact fin J rv q
    | next =>
      obtain ⟨σ', H', J, q⟩ := hs
      exact fin (v := V.non) (u := Value.none) J rfl q
    | brk =>
      obtain ⟨_, _, _, q⟩ := hs
      exact False.elim q
    | cont =>
      obtain ⟨_, _, _, q⟩ := hs
      exact False.elim q
end WW

set_option Elab.async false
set_option linter.all false
set_option maxRecDepth 100000
set_option maxHeartbeats 4000000
namespace WW
open PySem PySem.Spec PyProof.Rows L2
section
variable {X : Cx}
/-- set(row of texts), a list or a tuple -/
theorem cr_setOfR (hc : X.calm = true) : CallR X (.type "set") (fun xs H Q => ∃ (l : Addr) (zs : List Str), xs = [.ref l] ∧ (SqL X.K H l (zs.map V.str) ∨ SqT X.K H l (zs.map V.str)) ∧ zs.length ≤ 100 ∧ ∀ a, H a = none → Q (.ref a) (upd H a (SetKo X.prog X.w a ((insAll zs).map Sum.inr)))) := by
  intro pins s σ H xs us Q I r h
  obtain ⟨l, zs, rfl, hl, hz, q⟩ := h
  rcases hl with hl | hl
  · exact cr_setOfS hc pins s σ H _ us Q I r ⟨l, zs, rfl, hl, hz, q⟩
  · exact cr_setOfT hc pins s σ H _ us Q I r ⟨l, zs, rfl, hl, by omega, q⟩
/-- len(set of texts) -/
theorem cr_lenSt : CallR X (.builtin "len") (fun xs H Q => ∃ (a : Addr) (ks : List Key), xs = [.ref a] ∧ H a = some (SetKo X.prog X.w a ks) ∧ ks.length ≤ 1000 ∧ Q (.int (ks.length : Int)) H) := by
  intro pins s σ H xs us Q I r h
  obtain ⟨a, ks, rfl, ha, hl, q⟩ := h
  rw [Vals.ref1 r]
  have G := setKo_get I ha
  obtain ⟨o, es, ep, t, ho, hex, hd, T⟩ := id G
  have hn := T.size
  obtain ⟨o', es', ep', t', ho', hex', hd', _, _, _, hf, _⟩ := G.setOf
  rw [ho] at ho'
  cases ho'
  rw [hd] at hd'
  cases hd'
  refine call_len_set ho hex hd hf (by omega) ⟨.int ks.length, H, I.tok _, ⟨_, by rw [hn]⟩, q⟩
/-- for x in row, a list or a tuple -/
def iSeq (K : PySem.W.Frag) (tl : TE) : TI := fun σ H R => tl σ H fun x H1 => ∃ a, x = .ref a ∧ (((∃ xs, SqL K H1 a xs) ∧ R (Itl K a) H1) ∨ ((∃ xs, SqT K H1 a xs) ∧ R (Itt K a) H1))
theorem pi_seq {tg l : Expr} {tl : TE} (hl : PE X l tl) : PI X tg l (iSeq X.K tl) := by
  refine ⟨fun pins s σ H R I h => ?_⟩
  refine thn (hl.run pins s σ H _ I h) fun v s1 ⟨x, H1, I1, r1, q1⟩ => ?_
  obtain ⟨a, e, q⟩ := q1
  subst e
  cases r1
  rcases q with ⟨⟨xs, hq⟩, q⟩ | ⟨⟨xs, hq⟩, q⟩
  · obtain ⟨its, rv, p, hz⟩ := I1.list hq
    refine wpAny_pyIter_list p.isList ?_
    refine ⟨s1.heap.objs.size, [s1.heap.objs.size], _, _, H1, rfl, I1.kept (t' := s1.toks) fun b o e => Heap.get?_push_of_some _ e, turn_list a _, ⟨_, Heap.get?_push_size _ rfl, rfl, rfl⟩, fun b hb => ?_, q⟩
    have e : b = s1.heap.objs.size := by simpa using hb
    subst e
    exact I1.fpOk (Nat.le_refl _) (I1.hok.fresh (Nat.le_refl _))
  · obtain ⟨its, rv, p, hz⟩ := I1.tuple hq
    refine wpAny_pyIter_tuple (show s1.heap.IsTuple a its.toArray from p) ?_
    refine ⟨s1.heap.objs.size, [s1.heap.objs.size], _, _, H1, rfl, I1.kept (t' := s1.toks) fun b o e => Heap.get?_push_of_some _ e, turn_tuple a _, ⟨_, Heap.get?_push_size _ rfl, rfl, rfl⟩, fun b hb => ?_, q⟩
    have e : b = s1.heap.objs.size := by simpa using hb
    subst e
    exact I1.fpOk (Nat.le_refl _) (I1.hok.fresh (Nat.le_refl _))
/-- d.copy(), a dict of texts or one of one odd entry -/
def tCopyA (te : TE) : TE := fun σ H Q => te σ H fun x H1 => ∃ a, x = .ref a ∧ ((∃ kvs, H1 a = some (.dK kvs) ∧ ∀ p, H1 p = none → Q (.ref p) (upd H1 p (.dK kvs))) ∨
  (∃ e ep, H1 a = some (rawO a e ep) ∧ (e.key = .none ∨ ∃ t ys, e.key = .ref t ∧ H1 t = some (.tup ys)) ∧ ∀ p, H1 p = none → Q (.ref p) (upd H1 p (rawO p e 0))))
theorem pe_copyA {o : Expr} {te : TE} {apos cpos : Pos} (ho : PE X o te) (hbase : attributeBase o "copy" X.env (eval o X.env) = eval o X.env := by rfl) (hline : (apos.endLine == cpos.line) = true := by rfl) :
    PE X (.Call (.Attribute o "copy" apos) [] [] cpos) (tCopyA te) := by
  refine ⟨fun pins s σ H Q I h => ?_⟩
  refine wpAny_Call_method0_late hbase hline (thn (ho.run pins s σ H _ I h) fun v s1 ⟨x, H1, I1, r1, a, ex, q1⟩ => ?_)
  subst ex
  obtain rfl : v = Value.ref a := r1
  rcases q1 with ⟨kvs, ha, q⟩ | ⟨e, ep, ha, hk, q⟩
  · obtain ⟨h1, h2⟩ := tyV_is (T := "dict") (x := .ref a) I1 rfl (.inr (.inr (.inl ⟨rfl, .inl ⟨kvs, ha⟩⟩)))
    exact ⟨"dict", "dict.copy", PySem.F.plainAttrs_dict, PySem.F.slot_dict_copy, PySem.F.type_dict_copy, h1, h2, Calls.callWith_builtin rfl (PySem.evalArgs_none (mt_copyD pins s1 σ H1 (.ref a) [] (.ref a) [] Q I1 rfl .nil ⟨a, kvs, rfl, rfl, ha, q⟩))⟩
  · obtain ⟨hs, R⟩ := rawO_get I1 ha
    obtain ⟨o', ho', hx', _⟩ := id R
    exact ⟨"dict", "dict.copy", PySem.F.plainAttrs_dict, PySem.F.slot_dict_copy, PySem.F.type_dict_copy, R.typeIs, (fun b eb => by cases eb; exact ⟨o', ho', hx'.2.1⟩), Calls.callWith_builtin rfl (PySem.evalArgs_none (mt_copyR pins s1 σ H1 (.ref a) [] (.ref a) [] Q I1 rfl .nil ⟨a, e, ep, rfl, rfl, ha, hk, q⟩))⟩
end
/-! ### own == where the other one may be of another class -/
section
variable {X : Cx} {n : Nat} {C f : Addr} {fd : FuncData} {ps : List Str} {sp : Sp}
def rEqOD (K : PySem.W.Frag) (C : Addr) (sp : Sp) : R2 := fun x y H Q => ∃ a b D dx dy fs gs, x = .ref a ∧ y = .ref b ∧ H a = some (.ins C dx fs) ∧ H b = some (.ins D dy gs) ∧ PySem.W.notFirst K C (.ref D) = true ∧ sp [.ref a, .ref b] H Q E0
theorem op_eqOD (c : EqC X.K C f) (F : FnOk X.prog X.w X.K X.mg X.base CX0 n f fd ps sp) (hb : Binds X.K fd ps []) (hr : Room n X.A) : OpR X (compareOp .Eq) (rEqOD X.K C sp) := by
  intro pins s σ H x y v u Q I rx ry h
  obtain ⟨a, b, D, dx, dy, fs, gs, rfl, rfl, ha, hb', hnf, q⟩ := h
  cases rx
  cases ry
  obtain ⟨mA, J, _⟩ := ins_get I.hok ha
  obtain ⟨mB, J', _⟩ := ins_get I.hok hb'
  obtain ⟨od, J, _⟩ := J.look
  obtain ⟨od', J', _⟩ := J'.look
  obtain ⟨m, hF⟩ := I.fr
  show wpAny (model X.prog X.w) X.A (richCompare .Eq (.ref a) (.ref b)) _ _ _
  refine PySem.W.cmp_K (op := .Eq) (tb := .ref D) hr.units0 hF I.ok.mod.kin J J'.type hnf c.eq c.fn (wpAny_mono (run2 F hb I hr rfl q) (fun z s' hz => ?_) fun _ _ e => e)
  obtain ⟨z', H', I', rz, q'⟩ := id hz
  cases z' with
  | non => cases (show z = Value.none from rz); exact hz
  | bl c => cases (show z = Value.bool c from rz); exact hz
  | int i => obtain ⟨t, e⟩ := (show ∃ t, z = Value.int i t from rz); cases e; exact hz
  | str i => obtain ⟨t, e⟩ := (show ∃ t, z = Value.str i t from rz); cases e; exact hz
  | byt i => obtain ⟨t, e⟩ := (show ∃ t, z = Value.bytes i t from rz); cases e; exact hz
  | flt i => obtain ⟨t, e⟩ := (show ∃ t, z = Value.float i t from rz); cases e; exact hz
  | ref i => cases (show z = Value.ref i from rz); exact hz
  | ty i => cases (show z = Value.type i from rz); exact hz
end
theorem kit_dict {K : PySem.W.Frag} {n : String} (h : n ∈ kinds) : PySem.W.kitOne K (.type n) (.type "dict") = some (n == "dict") := by
  have : ∀ n ∈ kinds, kitB n "dict" = some (n == "dict") := by decide +kernel
  exact kit_ty (this n h)
end WW

set_option Elab.async false
set_option linter.all false
set_option maxRecDepth 100000
set_option maxHeartbeats 4000000
namespace WW
open PySem PySem.Spec PyProof.Rows L2
theorem hu0 {A : Around} {k : Nat} (hr : Room k A) : A.units < cLine := by
  have := hr.un
  omega
theorem hu1 {A : Around} {k : Nat} (hr : Room k A) : A.units + 1 < cLine := by
  have := hr.un
  omega
/-- all but x stays -/
def KeepB (x : Addr) (H H' : Hp) : Prop := ∀ c o, c ≠ x → H c = some o → H' c = some o
theorem keep_same {x : Addr} {S H H' : Hp} (sS : Same S H) (nx : S x = none) (k : KeepB x H H') : Same S H' := fun c o h => k c o (ne_of_none h nx) (sS _ _ h)
/-! ### sights, plain -/
abbrev ZZ := List (Str × Str)
def dS (zs : ZZ) : List (Key × V) := zs.map fun p => (Sum.inr p.1, V.str p.2)
def look (zs : ZZ) (y : Str) : Option Str := (zs.find? fun p => decide (p.1 = y)).map (·.2)
def showZ (zs : ZZ) : ZZ := ((zs.map (·.1)).mergeSort leS).map fun y => (y, (look zs y).getD "")
def goodZ (zs : ZZ) : Prop := (zs.map (·.1)).Nodup ∧ (∀ p ∈ zs, NameOk p.1 ∧ NameOk p.2) ∧ 1 ≤ zs.length ∧ zs.length ≤ 10
theorem dS_val (zs : ZZ) (y : Str) : valV (dS zs) (Sum.inr y) = (look zs y).map V.str := by
  unfold valV dS look
  induction zs with
  | nil => rfl
  | cons p r ih =>
    rw [List.map_cons, List.find?_cons, List.find?_cons]
    by_cases h : p.1 = y
    · simp [h]
    · have h' : ¬ (Sum.inr p.1 : Key) = Sum.inr y := fun e => h (Sum.inr.inj e)
      simp only [h, h', decide_false]
      exact ih
theorem look_mem {zs : ZZ} (nd : (zs.map (·.1)).Nodup) {p : Str × Str} (h : p ∈ zs) : look zs p.1 = some p.2 := by
  unfold look
  induction zs with
  | nil => simp at h
  | cons q r ih =>
    rw [List.map_cons, List.nodup_cons] at nd
    rw [List.find?_cons]
    rcases List.mem_cons.mp h with rfl | h
    · simp
    · have hne : ¬ q.1 = p.1 := fun e => nd.1 (by rw [e]; exact List.mem_map.mpr ⟨p, h, rfl⟩)
      simp only [hne, decide_false]
      exact ih nd.2 h
theorem kvs_good {kvs : List (Key × V)} (nd : (kvs.map (·.1)).Nodup) (h : (decide (1 ≤ kvs.length) && decide (kvs.length ≤ 10) && kvs.all fun p => isNm (kV p.1) && isNm p.2) = true) : ∃ zs, kvs = dS zs ∧ goodZ zs := by
  rw [Bool.and_eq_true, Bool.and_eq_true, decide_eq_true_eq, decide_eq_true_eq] at h
  obtain ⟨⟨h1, h2⟩, h3⟩ := h
  have key : ∀ l : List (Key × V), (l.all fun p => isNm (kV p.1) && isNm p.2) = true → ∃ zs, l = dS zs ∧ ∀ p ∈ zs, NameOk p.1 ∧ NameOk p.2 := by
    intro l
    induction l with
    | nil => intro _; exact ⟨[], rfl, fun p h => by simp at h⟩
    | cons p r ih =>
      intro h
      rw [List.all_cons, Bool.and_eq_true, Bool.and_eq_true] at h
      obtain ⟨zs, rfl, hz⟩ := ih h.2
      obtain ⟨k, v⟩ := p
      obtain ⟨⟨hk, hv⟩, _⟩ := h
      cases k with
      | inl i => cases hk
      | inr y =>
        cases v with
        | str z =>
          refine ⟨(y, z) :: zs, rfl, fun q hq => ?_⟩
          rcases List.mem_cons.mp hq with rfl | hq
          · exact ⟨(nmB_iff _).mp hk, (nmB_iff _).mp hv⟩
          · exact hz q hq
        | _ => cases hv
  obtain ⟨zs, rfl, hz⟩ := key kvs h3
  have hl : (dS zs).length = zs.length := List.length_map ..
  refine ⟨zs, rfl, ?_, hz, by omega, by omega⟩
  have e : (dS zs).map (·.1) = (zs.map (·.1)).map Sum.inr := by
    unfold dS
    rw [List.map_map, List.map_map]
    rfl
  rw [e] at nd
  exact (List.pairwise_map.mp nd).imp fun {a b} h e => h (by rw [e])
theorem put_new {zs : ZZ} {y z : Str} (h : y ∉ zs.map (·.1)) : putK (dS zs) (Sum.inr y) (.str z) = dS (zs ++ [(y, z)]) := by
  rw [putK_new]
  · unfold dS
    rw [List.map_append]
    rfl
  · rw [dS_val]
    have : look zs y = none := by
      unfold look
      rw [List.find?_eq_none.mpr (fun p hp => by
        have : p.1 ≠ y := fun e => h (by rw [← e]; exact List.mem_map.mpr ⟨p, hp, rfl⟩)
        simpa using this)]
      rfl
    rw [this]
    rfl
theorem not_before {α : Type} {ts : List α} (nd : ts.Nodup) {i : Nat} {t : α} (h : ts[i]? = some t) : t ∉ ts.take i := fun m => by
  obtain ⟨j, hj, e⟩ := List.mem_take_iff_getElem.mp m
  obtain ⟨hi, e2⟩ := List.getElem?_eq_some_iff.mp h
  have := (List.getElem_inj (h₀ := by omega) (h₁ := hi) nd).mp (e.trans e2.symm)
  omega
/-- a row: a list or a tuple -/
theorem ris_le : ∀ (r : List Str) (x : Str), risingS x r = true → ∀ y ∈ r, leS x y = true
  | [], _, _, y, h => by simp at h
  | z :: r, x, h, y, hy => by
    have h : (!ltCps z.cps.toList x.cps.toList && risingS z r) = true := h
    rw [Bool.and_eq_true, PyProof.Rows.ltCps_eq] at h
    have h1 : leS x z = true := by
      refine decide_eq_true (List.not_lt.mp fun c => ?_)
      rw [decide_eq_true c] at h
      cases h.1
    rcases List.mem_cons.mp hy with rfl | hy
    · exact h1
    · exact leS_trans _ _ _ h1 (ris_le r z h.2 y hy)
theorem sorted_pw : ∀ {ys : List Str}, sortedS ys = true → ys.Pairwise fun a b => leS a b = true
  | [], _ => .nil
  | x :: r, h => by
    have h : risingS x r = true := h
    refine List.pairwise_cons.mpr ⟨fun y hy => ris_le r x h y hy, ?_⟩
    cases r with
    | nil => exact .nil
    | cons z r =>
      have h2 : (!ltCps z.cps.toList x.cps.toList && risingS z r) = true := h
      rw [Bool.and_eq_true] at h2
      exact sorted_pw (ys := z :: r) h2.2
theorem sorted_eq {ys ks : List Str} (hp : ys.Perm ks) (h : sortedS ys = true) : ys = ks.mergeSort leS := PySem.W.Srt.the_of_perm leS leS_trans leS_total leS_anti hp (sorted_pw h)
theorem keys_showZ (zs : ZZ) : (showZ zs).map (·.1) = (zs.map (·.1)).mergeSort leS := by
  unfold showZ
  rw [List.map_map]
  exact List.map_id _
end WW

set_option Elab.async false
set_option linter.all false
set_option maxRecDepth 100000
set_option maxHeartbeats 4000000
namespace WW
open PySem PySem.Spec PyProof.Rows L2
/-! ### operators -/
def fI (g : Int → Int → D) (x y : D) (Q : D → Prop) : Prop := match x, y with
  | .int i, .int j => Q (g i j)
  | _, _ => False
def fIc (C : Int → Int → Prop) (g : Int → Int → D) (x y : D) (Q : D → Prop) : Prop := match x, y with
  | .int i, .int j => C i j ∧ Q (g i j)
  | _, _ => False
def fCatS (x y : D) (Q : D → Prop) : Prop := match x, y with
  | .str i, .str j => i.length + j.length ≤ sizeLine ∧ Q (.str (i ++ j))
  | _, _ => False
def fLtS (x y : D) (Q : D → Prop) : Prop := match x, y with
  | .str i, .str j => Q (.bl (decide (i.cps.toList < j.cps.toList)))
  | _, _ => False
def eqD : D → D → Option Bool
  | .int i, .int j => some (decide (i = j))
  | .str i, .str j => some (decide (i = j))
  | .bl i, .bl j => some (decide (i = j))
  | .non, .non => some true
  | .non, .int _ => some false
  | .int _, .non => some false
  | .non, .bl _ => some false
  | .bl _, .non => some false
  | .non, .str _ => some false
  | .str _, .non => some false
  | .int _, .str _ => some false
  | .str _, .int _ => some false
  | .bl _, .str _ => some false
  | .str _, .bl _ => some false
  | _, _ => none
def fEq (x y : D) (Q : D → Prop) : Prop := match eqD x y with
  | some b => Q (.bl b)
  | none => False
def fNe (x y : D) (Q : D → Prop) : Prop := match eqD x y with
  | some b => Q (.bl (!b))
  | none => False
def fIsN (x y : D) (Q : D → Prop) : Prop := match x, y with
  | .opq, _ => False
  | .non, .non => Q (.bl true)
  | _, .non => Q (.bl false)
  | _, _ => False
def fNotN (x y : D) (Q : D → Prop) : Prop := match x, y with
  | .opq, _ => False
  | .non, .non => Q (.bl false)
  | _, .non => Q (.bl true)
  | _, _ => False
section
variable {K : PySem.W.Frag} {W : WX} {ta tb te : TE} {aa ab ae : AE}
theorem r2_I0 {g : Int → Int → D} {g' : Int → Int → V} (h : ∀ i j, (g i j).sc = some (g' i j) := by intro _ _; rfl) : R2S K (rI0 g') (fI g) := fun H x y dx dy Q Qc rx ry q k => by
  unfold fI at q
  split at q
  · rw [rep_int rx, rep_int ry]
    exact ⟨_, _, rfl, rfl, k _ _ (h _ _) q⟩
  · exact q.elim
theorem r2_I {C : Int → Int → Prop} {g : Int → Int → D} {g' : Int → Int → V} (h : ∀ i j, (g i j).sc = some (g' i j) := by intro _ _; rfl) : R2S K (rI C g') (fIc C g) := fun H x y dx dy Q Qc rx ry q k => by
  unfold fIc at q
  split at q
  · rw [rep_int rx, rep_int ry]
    exact ⟨_, _, rfl, rfl, q.1, k _ _ (h _ _) q.2⟩
  · exact q.elim
abbrev fAdd := fI fun i j => .int (i + j)
abbrev fSub := fI fun i j => .int (i - j)
abbrev fMul := fIc CMul fun i j => .int (i * j)
abbrev fMod := fIc (fun _ j => 0 < j) fun i j => .int (i % j)
abbrev fDiv := fIc CDiv fun i j => .int (i / j)
abbrev fPow := fIc CPow fun i j => .int (i ^ j.toNat)
abbrev fLt := fI fun i j => .bl (decide (i < j))
abbrev fLe := fI fun i j => .bl (decide (i ≤ j))
abbrev fGt := fI fun i j => .bl (decide (j < i))
abbrev fGe := fI fun i j => .bl (decide (j ≤ i))
theorem r2_add : R2S K (rI0 fun i j => .int (i + j)) fAdd := r2_I0
theorem r2_sub : R2S K (rI0 fun i j => .int (i - j)) fSub := r2_I0
theorem r2_mul : R2S K (rI CMul fun i j => .int (i * j)) fMul := r2_I
theorem r2_mod : R2S K (rI (fun _ j => 0 < j) fun i j => .int (i % j)) fMod := r2_I
theorem r2_fdiv : R2S K (rI CDiv fun i j => .int (i / j)) fDiv := r2_I
theorem r2_pow : R2S K (rI CPow fun i j => .int (i ^ j.toNat)) fPow := r2_I
theorem r2_lt : R2S K (rI0 fun i j => .bl (decide (i < j))) fLt := r2_I0
theorem r2_le : R2S K (rI0 fun i j => .bl (decide (i ≤ j))) fLe := r2_I0
theorem r2_gt : R2S K (rI0 fun i j => .bl (decide (j < i))) fGt := r2_I0
theorem r2_ge : R2S K (rI0 fun i j => .bl (decide (j ≤ i))) fGe := r2_I0
theorem r2_catS : R2S K (fun x y H Q => ∃ i j, x = .str i ∧ y = .str j ∧ i.length + j.length ≤ sizeLine ∧ Q (.str (i ++ j)) H) fCatS := fun H x y dx dy Q Qc rx ry q k => by
  unfold fCatS at q
  split at q
  · rw [rep_str rx, rep_str ry]
    exact ⟨_, _, rfl, rfl, q.1, k _ _ rfl q.2⟩
  · exact q.elim
theorem r2_ltS : R2S K (fun x y H Q => ∃ i j, x = .str i ∧ y = .str j ∧ Q (.bl (decide (i.cps.toList < j.cps.toList))) H) fLtS := fun H x y dx dy Q Qc rx ry q k => by
  unfold fLtS at q
  split at q
  · rw [rep_str rx, rep_str ry]
    exact ⟨_, _, rfl, rfl, k _ _ rfl q⟩
  · exact q.elim
theorem eqD_ok {H : Hp} {x y : V} {dx dy : D} {b : Bool} (rx : Rep K H x dx) (ry : Rep K H y dy) (h : eqD dx dy = some b) : scal x y = true ∧ decide (x = y) = b := by
  unfold eqD at h
  split at h
  all_goals first
    | (cases h; cases rx; cases ry; refine ⟨rfl, ?_⟩; first | rfl | simp)
    | cases h
theorem r2_eq : R2S K rEq fEq := fun H x y dx dy Q Qc rx ry q k => by
  unfold fEq at q
  split at q
  · rename_i b hb
    obtain ⟨h1, h2⟩ := eqD_ok rx ry hb
    exact ⟨h1, by rw [h2]; exact k _ _ rfl q⟩
  · exact q.elim
theorem r2_ne : R2S K rNe fNe := fun H x y dx dy Q Qc rx ry q k => by
  unfold fNe at q
  split at q
  · rename_i b hb
    obtain ⟨h1, h2⟩ := eqD_ok rx ry hb
    exact ⟨h1, by rw [h2]; exact k _ _ rfl q⟩
  · exact q.elim
theorem rep_isN {H : Hp} {x : V} {dx : D} (rx : Rep K H x dx) : dx = .opq ∨ (x = .non ↔ dx = .non) := by
  cases rx <;> first | (left; rfl) | (right; constructor <;> intro h <;> first | rfl | cases h)
theorem r2_isN : R2S K (fun x y H Q => y = .non ∧ Q (.bl (decide (x = .non))) H) fIsN := fun H x y dx dy Q Qc rx ry q k => by
  unfold fIsN at q
  split at q
  · exact q.elim
  · rw [rep_non rx]
    exact ⟨rep_non ry, k _ _ rfl q⟩
  · rename_i h1 h2
    refine ⟨rep_non ry, ?_⟩
    rcases rep_isN rx with e | e
    · exact absurd e h1
    · rw [decide_eq_false (fun z => h2 (e.mp z))]
      exact k _ _ rfl q
  · exact q.elim
theorem r2_notN : R2S K (fun x y H Q => y = .non ∧ Q (.bl (!decide (x = .non))) H) fNotN := fun H x y dx dy Q Qc rx ry q k => by
  unfold fNotN at q
  split at q
  · exact q.elim
  · rw [rep_non rx]
    exact ⟨rep_non ry, k _ _ rfl q⟩
  · rename_i h1 h2
    refine ⟨rep_non ry, ?_⟩
    rcases rep_isN rx with e | e
    · exact absurd e h1
    · rw [decide_eq_false (fun z => h2 (e.mp z))]
      exact k _ _ rfl q
  · exact q.elim
/-! ### chains -/
theorem ea_chain {r r' : R2} {f f' : D → D → (D → Prop) → Prop} {tc : TE} {ac : AE} (hr : R2S K r f) (hr' : R2S K r' f') (ha : EA K W ta aa) (hb : EA K W tb ab) (hc : EA K W tc ac) : EA K W (tChain r r' ta tb tc) (aChain f f' aa ab ac) := fun o H0 S H σ env ax Q Qc es q k xl =>
  ha o H0 S H σ env ax _ _ es q (fun v b S1 H1 g1 w1 r1 q1 =>
    hb o H0 S1 H1 σ env ax _ _ (es.mono g1 w1) q1 (fun v2 b2 S2 H2 g2 w2 r2 q2 =>
      hr H2 v v2 _ _ _ _ ((r1.mono g2).now w2 ((g1.trans g2).kp es.kp)) (r2.now w2 ((g1.trans g2).kp es.kp)) q2 fun d v hd q3 => by
        cases d with
        | bl c =>
          cases hd
          refine ⟨c, rfl, ?_⟩
          cases c with
          | true =>
            exact hc o H0 S2 H2 σ env ax _ _ ((es.mono g1 w1).mono g2 w2) q3 (fun v3 b3 S3 H3 g3 w3 r3 q4 =>
              hr' H3 _ v3 _ _ _ _ ((r2.mono g3).now w3 (((g1.trans g2).trans g3).kp es.kp)) (r3.now w3 (((g1.trans g2).trans g3).kp es.kp)) q4 fun d v hd q5 => k v (.st d) S3 H3 ((g1.trans g2).trans g3) w3 (.ofSc hd) q5) (xl.mono (g1.trans g2))
          | false => exact k _ (.st (.bl false)) S2 H2 (g1.trans g2) w2 (BR.ofSc rfl) q3
        | _ => exact q3.elim) (xl.mono g1)) xl
/-! ### one operand, built-ins with a plain answer -/
def aFn1 (f : D → (D → Prop) → Prop) (a : AE) (ax : AX) (env : AEnv) (Q : B → Prop) : Prop := a ax env fun x => f x.get fun d => Q (.st d)
def R1S (K : PySem.W.Frag) (r : V → Hp → VK → Prop) (f : D → (D → Prop) → Prop) : Prop := ∀ H x dx Q Qc, Rep K H x dx → f dx Q → (∀ d v, d.sc = some v → Q d → Qc v H) → r x H Qc
def RC1 (K : PySem.W.Frag) (r : List V → Hp → VK → Prop) (f : D → (D → Prop) → Prop) : Prop := ∀ H x dx Q Qc, Rep K H x dx → f dx Q → (∀ d v, d.sc = some v → Q d → Qc v H) → r [x] H Qc
theorem ea_un {r : V → Hp → VK → Prop} {f : D → (D → Prop) → Prop} (hr : R1S K r f) (ha : EA K W ta aa) : EA K W (tUn r ta) (aFn1 f aa) := fun o H0 S H σ env ax Q Qc es q k xl =>
  ha o H0 S H σ env ax _ _ es q (fun v b S1 H1 g1 w1 r1 q1 => hr H1 v _ _ _ (r1.now w1 (g1.kp es.kp)) q1 fun d v hd q2 => k v (.st d) S1 H1 g1 w1 (.ofSc hd) q2) xl
theorem ea_b1 {r : List V → Hp → VK → Prop} {f : D → (D → Prop) → Prop} (hr : RC1 K r f) (ha : EA K W ta aa) : EA K W (tCB r (tCons ta tNil)) (aFn1 f aa) := fun o H0 S H σ env ax Q Qc es q k xl =>
  ha o H0 S H σ env ax _ _ es q (fun v b S1 H1 g1 w1 r1 q1 => hr H1 v _ _ _ (r1.now w1 (g1.kp es.kp)) q1 fun d v hd q2 => k v (.st d) S1 H1 g1 w1 (.ofSc hd) q2) xl
def fNeg (x : D) (Q : D → Prop) : Prop := match x with
  | .int i => Q (.int (-i))
  | _ => False
theorem r1_neg : R1S K (rU fun i => .int (-i)) fNeg := fun H x dx Q Qc rx q k => by
  unfold fNeg at q
  split at q
  · rw [rep_int rx]
    exact ⟨_, rfl, k _ _ rfl q⟩
  · exact q.elim
def fLen (x : D) (Q : D → Prop) : Prop := match x with
  | .lst ds => Q (.int (ds.length : Nat))
  | .tup ds => Q (.int (ds.length : Nat))
  | .str z => z.length ≤ sizeLine ∧ Q (.int (z.length : Nat))
  | _ => False
theorem rc_len : RC1 K (fun xs H Q => ∃ x n, xs = [x] ∧ LenV K x H n ∧ Q (.int (n : Nat)) H) fLen := fun H x dx Q Qc rx q k => by
  unfold fLen at q
  split at q
  · obtain ⟨a, xs, rfl, h1, h2⟩ := rep_lst rx
    exact ⟨_, _, rfl, .inl ⟨_, SqL.of h1, rfl⟩, by rw [h2.len]; exact k _ _ rfl q⟩
  · obtain ⟨a, xs, rfl, h1, h2⟩ := rep_tup rx
    exact ⟨_, _, rfl, .inr ⟨_, h1, rfl⟩, by rw [h2.len]; exact k _ _ rfl q⟩
  · rw [rep_str rx]
    exact ⟨_, _, rfl, ⟨q.1, rfl⟩, k _ _ rfl q.2⟩
  · exact q.elim
def fInt (x : D) (Q : D → Prop) : Prop := match x with
  | .int i => Q (.int i)
  | .bl b => Q (.int (if b then 1 else 0))
  | _ => False
theorem rc_int : RC1 K (fun xs H Q => (∃ i, xs = [.int i] ∧ Q (.int i) H) ∨ ∃ k, xs = [.bl k] ∧ Q (.int (if k then 1 else 0)) H) fInt := fun H x dx Q Qc rx q k => by
  unfold fInt at q
  split at q
  · rw [rep_int rx]
    exact .inl ⟨_, rfl, k _ _ rfl q⟩
  · rw [rep_bl rx]
    exact .inr ⟨_, rfl, k _ _ rfl q⟩
  · exact q.elim
def fAbs (x : D) (Q : D → Prop) : Prop := match x with
  | .int i => Q (.int (if i < 0 then -i else i))
  | _ => False
theorem rc_abs : RC1 K (fun xs H Q => ∃ i, xs = [.int i] ∧ Q (.int (if i < 0 then -i else i)) H) fAbs := fun H x dx Q Qc rx q k => by
  unfold fAbs at q
  split at q
  · rw [rep_int rx]
    exact ⟨_, rfl, k _ _ rfl q⟩
  · exact q.elim
theorem repL_bls {H : Hp} : ∀ {xs : List V} {bs : List Bool}, RepL K H xs (bs.map D.bl) → xs = bs.map V.bl
  | [], [], _ => rfl
  | x :: r, b :: bs, h => by
    cases h with
    | cons a t => rw [List.map_cons, rep_bl a, repL_bls t]
  | [], b :: bs, h => by cases h
  | x :: r, [], h => by cases h
theorem repL_strs {H : Hp} : ∀ {xs : List V} {bs : List Str}, RepL K H xs (bs.map D.str) → xs = bs.map V.str
  | [], [], _ => rfl
  | x :: r, b :: bs, h => by
    cases h with
    | cons a t => rw [List.map_cons, rep_str a, repL_strs t]
  | [], b :: bs, h => by cases h
  | x :: r, [], h => by cases h
theorem repL_ints {H : Hp} : ∀ {xs : List V} {bs : List Int}, RepL K H xs (bs.map D.int) → xs = bs.map V.int
  | [], [], _ => rfl
  | x :: r, b :: bs, h => by
    cases h with
    | cons a t => rw [List.map_cons, rep_int a, repL_ints t]
  | [], b :: bs, h => by cases h
  | x :: r, [], h => by cases h
theorem repL_ofStrs {H : Hp} : ∀ (bs : List Str), RepL K H (bs.map V.str) (bs.map D.str)
  | [] => .nil
  | b :: bs => .cons (.str b) (repL_ofStrs bs)
theorem repL_ofInts {H : Hp} : ∀ (bs : List Int), RepL K H (bs.map V.int) (bs.map D.int)
  | [] => .nil
  | b :: bs => .cons (.int b) (repL_ofInts bs)
def fAll (x : D) (Q : D → Prop) : Prop := match x with
  | .lst ds => ∃ bs : List Bool, ds = bs.map D.bl ∧ Q (.bl (bs.all id))
  | _ => False
def fAny (x : D) (Q : D → Prop) : Prop := match x with
  | .lst ds => ∃ bs : List Bool, ds = bs.map D.bl ∧ Q (.bl (bs.any id))
  | _ => False
theorem rc_all : RC1 K (rAll K) fAll := fun H x dx Q Qc rx q k => by
  unfold fAll at q
  split at q
  · obtain ⟨bs, rfl, q⟩ := q
    obtain ⟨a, xs, rfl, h1, h2⟩ := rep_lst rx
    rw [repL_bls h2] at h1
    exact ⟨a, bs, rfl, SqL.of h1, k _ _ rfl q⟩
  · exact q.elim
theorem rc_any : RC1 K (rAny K) fAny := fun H x dx Q Qc rx q k => by
  unfold fAny at q
  split at q
  · obtain ⟨bs, rfl, q⟩ := q
    obtain ⟨a, xs, rfl, h1, h2⟩ := rep_lst rx
    rw [repL_bls h2] at h1
    exact ⟨a, bs, rfl, SqL.of h1, k _ _ rfl q⟩
  · exact q.elim
def aFn2 (f : D → D → (D → Prop) → Prop) (a b : AE) (ax : AX) (env : AEnv) (Q : B → Prop) : Prop := a ax env fun x => b ax env fun y => f x.get y.get fun d => Q (.st d)
def RC2 (K : PySem.W.Frag) (r : List V → Hp → VK → Prop) (f : D → D → (D → Prop) → Prop) : Prop := ∀ H x y dx dy Q Qc, Rep K H x dx → Rep K H y dy → f dx dy Q → (∀ d v, d.sc = some v → Q d → Qc v H) → r [x, y] H Qc
theorem ea_b2 {r : List V → Hp → VK → Prop} {f : D → D → (D → Prop) → Prop} (hr : RC2 K r f) (ha : EA K W ta aa) (hb : EA K W tb ab) : EA K W (tCB r (tCons ta (tCons tb tNil))) (aFn2 f aa ab) := fun o H0 S H σ env ax Q Qc es q k xl =>
  ha o H0 S H σ env ax _ _ es q (fun v b S1 H1 g1 w1 r1 q1 =>
    hb o H0 S1 H1 σ env ax _ _ (es.mono g1 w1) q1 (fun v2 b2 S2 H2 g2 w2 r2 q2 =>
      hr H2 v v2 _ _ _ _ ((r1.mono g2).now w2 ((g1.trans g2).kp es.kp)) (r2.now w2 ((g1.trans g2).kp es.kp)) q2 fun d v hd q3 => k v (.st d) S2 H2 (g1.trans g2) w2 (.ofSc hd) q3) (xl.mono g1)) xl
def fMax (x y : D) (Q : D → Prop) : Prop := match x, y with
  | .int i, .int j => Q (.int (if j > i then j else i))
  | _, _ => False
theorem rc_max2 : RC2 K (fun xs H Q => ∃ i j, xs = [.int i, .int j] ∧ Q (.int (if j > i then j else i)) H) fMax := fun H x y dx dy Q Qc rx ry q k => by
  unfold fMax at q
  split at q
  · rw [rep_int rx, rep_int ry]
    exact ⟨_, _, rfl, k _ _ rfl q⟩
  · exact q.elim
/-! ### truth -/
def truD : D → Option Bool
  | .non => some false
  | .bl b => some b
  | .int i => some (i != 0)
  | .lst ds => some (!ds.isEmpty)
  | .tup ds => some (!ds.isEmpty)
  | _ => none
def aTru (a : AE) (ax : AX) (env : AEnv) (Q : Bool → Prop) : Prop := a ax env fun x => match truD x.get with
  | some b => Q b
  | none => False
theorem isE_len {α β : Type} {xs : List α} {ys : List β} (h : xs.length = ys.length) : xs.isEmpty = ys.isEmpty := by
  cases xs <;> cases ys <;> simp at h ⊢
theorem truD_ok {H : Hp} {x : V} {d : D} {b : Bool} (r : Rep K H x d) (h : truD d = some b) : TruV K x H b := by
  unfold truD at h
  split at h
  · cases h; cases r; exact rfl
  · cases h; cases r; exact rfl
  · cases h; cases r; exact rfl
  · cases h
    obtain ⟨a, xs, rfl, h1, h2⟩ := rep_lst r
    exact .inl ⟨xs, SqL.of h1, by rw [isE_len h2.len]⟩
  · cases h
    obtain ⟨a, xs, rfl, h1, h2⟩ := rep_tup r
    exact .inr (.inl ⟨xs, h1, by rw [isE_len h2.len]⟩)
  · cases h
theorem et_tru (h : EA K W te ae) : ET K W (tTru K te) (aTru ae) := fun o H0 S H σ env ax Q Qc es q k xl =>
  h o H0 S H σ env ax _ _ es q (fun v b S1 H1 g1 w1 r1 q1 => by
    split at q1
    · rename_i c hc
      exact ⟨c, truD_ok (r1.now w1 (g1.kp es.kp)) hc, k c S1 H1 g1 w1 q1⟩
    · exact q1.elim) xl
/-! ### places -/
def aIxL (a b : AE) (ax : AX) (env : AEnv) (Q : B → Prop) : Prop := a ax env fun x => b ax env fun y => match x.get, y.get with
  | .lst ds, .int i => ∃ d, atI ds i = some d ∧ Q (x.sub d)
  | _, _ => False
def aIxT (a b : AE) (ax : AX) (env : AEnv) (Q : B → Prop) : Prop := a ax env fun x => b ax env fun y => match x.get, y.get with
  | .tup ds, .int i => ∃ d, atI ds i = some d ∧ Q (x.sub d)
  | _, _ => False
def fIxS (x y : D) (Q : D → Prop) : Prop := match x, y with
  | .str z, .int i => z.length ≤ sizeLine ∧ ∃ c, atI z.cps.toList i = some c ∧ Q (.str ⟨#[c]⟩)
  | _, _ => False
theorem r2_ixS : R2S K rIxS fIxS := fun H x y dx dy Q Qc rx ry q k => by
  unfold fIxS at q
  split at q
  · obtain ⟨h1, c, h2, h3⟩ := q
    rw [rep_str rx, rep_int ry]
    exact ⟨_, _, c, rfl, rfl, h1, h2, k _ _ rfl h3⟩
  · exact q.elim
theorem atI_ix {α : Type} {xs : List α} {i : Int} {x : α} (h : atI xs i = some x) : ∃ k : Nat, xs[k]? = some x ∧ ∀ {β : Type} (ys : List β), ys.length = xs.length → atI ys i = ys[k]? := by
  unfold atI at h ⊢
  cases e : ixN xs.length i with
  | none => rw [e] at h; cases h
  | some k =>
    rw [e] at h
    refine ⟨k, h, fun ys hl => ?_⟩
    rw [hl, e]
    rfl
theorem pair_atI {R : V → B → Prop} {xs : List V} {ds : List D} {f : D → B} {i : Int} {d : D} (h : Paired R xs (ds.map f)) (e : atI ds i = some d) : ∃ v, atI xs i = some v ∧ R v (f d) := by
  obtain ⟨k, e1, e2⟩ := atI_ix e
  have hl : xs.length = ds.length := by
    have := paired_len h
    rwa [List.length_map] at this
  have hk : k < ds.length := (List.getElem?_eq_some_iff.mp e1).1
  have hx : xs[k]? = some xs[k] := List.getElem?_eq_getElem (by omega)
  obtain ⟨t, e3, e4⟩ := paired_get h hx
  rw [List.getElem?_map, e1] at e3
  cases e3
  exact ⟨xs[k], by rw [e2 xs hl, hx], e4⟩
theorem ea_ixL (ha : EA K W ta aa) (hb : EA K W tb ab) : EA K W (tOp (rIxL K) ta tb) (aIxL aa ab) := fun o H0 S H σ env ax Q Qc es q k xl =>
  ha o H0 S H σ env ax _ _ es q (fun v b S1 H1 g1 w1 r1 q1 =>
    hb o H0 S1 H1 σ env ax _ _ (es.mono g1 w1) q1 (fun v2 b2 S2 H2 g2 w2 r2 q2 => by
      have kp := (g1.trans g2).kp es.kp
      split at q2
      · rename_i ds i e1 e2
        obtain ⟨d, hd, q2⟩ := q2
        obtain ⟨a, xs, rfl, h1, h2⟩ := (r1.mono g2).lst w2 kp e1
        obtain ⟨v, h3, h4⟩ := pair_atI h2 hd
        have ri := r2.now w2 kp
        rw [e2] at ri
        rw [rep_int ri]
        exact ⟨a, xs, i, v, rfl, rfl, SqL.of h1, h3, k v _ S2 H2 (g1.trans g2) w2 h4 q2⟩
      · exact q2.elim) (xl.mono g1)) xl
theorem ea_ixT (ha : EA K W ta aa) (hb : EA K W tb ab) : EA K W (tOp (rIxT K) ta tb) (aIxT aa ab) := fun o H0 S H σ env ax Q Qc es q k xl =>
  ha o H0 S H σ env ax _ _ es q (fun v b S1 H1 g1 w1 r1 q1 =>
    hb o H0 S1 H1 σ env ax _ _ (es.mono g1 w1) q1 (fun v2 b2 S2 H2 g2 w2 r2 q2 => by
      have kp := (g1.trans g2).kp es.kp
      split at q2
      · rename_i ds i e1 e2
        obtain ⟨d, hd, q2⟩ := q2
        obtain ⟨a, xs, rfl, h1, h2⟩ := (r1.mono g2).tup w2 kp e1
        obtain ⟨v, h3, h4⟩ := pair_atI h2 hd
        have ri := r2.now w2 kp
        rw [e2] at ri
        rw [rep_int ri]
        exact ⟨a, xs, i, v, rfl, rfl, h1, h3, k v _ S2 H2 (g1.trans g2) w2 h4 q2⟩
      · exact q2.elim) (xl.mono g1)) xl
end
end WW

set_option Elab.async false
set_option linter.all false
set_option maxRecDepth 100000
set_option maxHeartbeats 4000000
namespace WW
open PySem PySem.Spec PyProof.Rows L2
section
variable {K : PySem.W.Frag} {W : WX} {ta tb te : TE} {aa ab ae : AE}
/-! ### displays -/
def stabs : List B → Option (List D)
  | [] => some []
  | .st d :: r => match stabs r with
    | some ds => some (d :: ds)
    | none => none
  | _ => none
theorem stabs_rep {o : Option Addr} {H0 S H : Hp} : ∀ {vs : List V} {bs : List B} {ds : List D}, Paired (BR K o H0 S H) vs bs → stabs bs = some ds → RepL K S vs ds
  | _, _, _, .nil, h => by cases h; exact .nil
  | _, _, _, .cons (b := b) r t, h => by
    cases b with
    | st d =>
      unfold stabs at h
      split at h
      · rename_i ds' e
        cases h
        exact .cons r (stabs_rep t e)
      · cases h
    | _ => cases h
def aTup (a : AA) (ax : AX) (env : AEnv) (Q : B → Prop) : Prop := a ax env fun bs => match stabs bs with
  | some ds => Q (.st (.tup ds))
  | none => False
def aLst (a : AA) (ax : AX) (env : AEnv) (Q : D → Prop) : Prop := a ax env fun bs => match stabs bs with
  | some ds => Q (.lst ds)
  | none => False
theorem ea_tup {n : Nat} {t : TA} {a : AA} (h : EL K W n t a) (hn : n ≤ 1000 := by decide) : EA K W (tTup t) (aTup a) := fun o H0 S H σ env ax Q Qc es q k xl =>
  h o H0 S H σ env ax _ _ es q (fun vs bs S1 H1 g1 w1 r1 hl q1 => by
    split at q1
    · rename_i ds hd
      refine ⟨by rw [paired_len r1, hl]; exact Nat.le_trans hn (by decide), fun p hp => ?_⟩
      have hr := stabs_rep r1 hd
      exact k (.ref p) (.st (.tup ds)) (upd S1 p (.tup vs)) _ (g1.trans (GrO.new w1 hp)) (w1.new hp) (Rep.tup (SqT.of upd_same) (RepL.same (same_upd (w1.1.free hp)) hr)) q1
    · exact q1.elim) xl
theorem en_lst {n : Nat} {t : TA} {a : AA} (h : EL K W n t a) (hn : n ≤ 1000 := by decide) : EN K W (tLst t) (aLst a) := fun o H0 S H σ env ax Q Qc es q k xl =>
  h o H0 S H σ env ax _ _ es q (fun vs bs S1 H1 g1 w1 r1 hl q1 => by
    split at q1
    · rename_i ds hd
      refine ⟨by rw [paired_len r1, hl]; exact Nat.le_trans hn (by decide), fun p hp => ?_⟩
      have ns := w1.1.free hp
      refine k p (.lst ds) S1 _ (g1.trans (GrO.lay hp)) (w1.put ns (w1.np hp)) (g1.bk hp) ns ?_ q1
      rw [upd_same]
      exact .lst (stabs_rep r1 hd)
    · exact q1.elim) xl
/-- a new thing, as a stable one -/
def aFix (a : AN) (ax : AX) (env : AEnv) (Q : B → Prop) : Prop := a ax env fun d => Q (.st d)
theorem ea_fix {an : AN} (h : EN K W te an) : EA K W te (aFix an) := h.ea
/-! ### what has stable parts -/
/-- its parts are stable -/
def B.solid : B → Option D
  | .st d => some d
  | .ow _ d => some d
  | _ => none
theorem solid_lst {o : Option Addr} {H0 S H : Hp} {v : V} {b : B} {ds : List D} (w : Wl o S H) (h : BR K o H0 S H v b) (e : b.solid = some (.lst ds)) : ∃ a xs, v = .ref a ∧ H a = some (.lst xs) ∧ RepL K S xs ds := by
  cases b with
  | st d =>
    cases e
    obtain ⟨a, xs, e1, e2, e3⟩ := rep_lst h
    exact ⟨a, xs, e1, w.1 _ _ e2, e3⟩
  | ow a d =>
    cases e
    obtain ⟨e1, _, _, t⟩ := h
    generalize hx : H a = x at t
    cases t with
    | lst r => exact ⟨a, _, e1, hx, r⟩
  | _ => cases e
theorem solid_tup {o : Option Addr} {H0 S H : Hp} {v : V} {b : B} {ds : List D} (w : Wl o S H) (h : BR K o H0 S H v b) (e : b.solid = some (.tup ds)) : ∃ a xs, v = .ref a ∧ SqT K H a xs ∧ RepL K S xs ds := by
  cases b with
  | st d =>
    cases e
    obtain ⟨a, xs, e1, e2, e3⟩ := rep_tup h
    exact ⟨a, xs, e1, Same.seqT w.1 e2, e3⟩
  | ow a d =>
    cases e
    obtain ⟨e1, _, _, t⟩ := h
    generalize H a = x at t
    cases t
  | _ => cases e
/-- xs + ys -/
def aCat (a b : AE) (ax : AX) (env : AEnv) (Q : D → Prop) : Prop := a ax env fun x => b ax env fun y => match x.solid, y.solid with
  | some (.lst xs), some (.lst ys) => xs.length + ys.length ≤ 1000 ∧ Q (.lst (xs ++ ys))
  | _, _ => False
theorem en_cat (ha : EA K W ta aa) (hb : EA K W tb ab) : EN K W (tOp rCat ta tb) (aCat aa ab) := fun o H0 S H σ env ax Q Qc es q k xl =>
  ha o H0 S H σ env ax _ _ es q (fun v b S1 H1 g1 w1 r1 q1 =>
    hb o H0 S1 H1 σ env ax _ _ (es.mono g1 w1) q1 (fun v2 b2 S2 H2 g2 w2 r2 q2 => by
      split at q2
      · rename_i ds es' e1 e2
        obtain ⟨a, xs, rfl, h1, h2⟩ := solid_lst w2 (r1.mono g2) e1
        obtain ⟨b, ys, rfl, h3, h4⟩ := solid_lst w2 r2 e2
        refine ⟨a, b, xs, ys, rfl, rfl, h1, h3, ?_, fun p hp => ?_⟩
        · rw [h2.len, h4.len]
          exact Nat.le_trans q2.1 (by decide)
        · have ns := w2.1.free hp
          refine k p _ S2 _ ((g1.trans g2).trans (GrO.lay hp)) (w2.put ns (w2.np hp)) ((g1.trans g2).bk hp) ns ?_ q2.2
          rw [upd_same]
          exact .lst (h2.append h4)
      · exact q2.elim) (xl.mono g1)) xl
/-- list(x) -/
def aListOf (a : AE) (ax : AX) (env : AEnv) (Q : D → Prop) : Prop := a ax env fun x => match x.solid with
  | some (.lst ds) => Q (.lst ds)
  | some (.tup ds) => Q (.lst ds)
  | _ => False
theorem en_listOf (ha : EA K W ta aa) : EN K W (tCB (fun xs H Q => ∃ p ys, xs = [.ref p] ∧ (SqL K H p ys ∨ SqT K H p ys) ∧ ∀ l, H l = none → Q (.ref l) (upd H l (.lst ys))) (tCons ta tNil)) (aListOf aa) := fun o H0 S H σ env ax Q Qc es q k xl =>
  ha o H0 S H σ env ax _ _ es q (fun v b S1 H1 g1 w1 r1 q1 => by
    have fin : ∀ {ys : List V} {ds : List D}, RepL K S1 ys ds → Q (.lst ds) → ∀ l, H1 l = none → Qc (.ref l) (upd H1 l (.lst ys)) := fun {ys ds} h q l hl => by
      have ns := w1.1.free hl
      refine k l (.lst ds) S1 _ (g1.trans (GrO.lay hl)) (w1.put ns (w1.np hl)) (g1.bk hl) ns ?_ q
      rw [upd_same]
      exact .lst h
    split at q1
    · rename_i ds e
      obtain ⟨a, xs, rfl, h1, h2⟩ := solid_lst w1 r1 e
      exact ⟨a, xs, rfl, .inl (SqL.of h1), fin h2 q1⟩
    · rename_i ds e
      obtain ⟨a, xs, rfl, h1, h2⟩ := solid_tup w1 r1 e
      exact ⟨a, xs, rfl, .inr h1, fin h2 q1⟩
    · exact q1.elim) xl
/-- tuple(x) of a list -/
def aTupOf (a : AE) (ax : AX) (env : AEnv) (Q : B → Prop) : Prop := a ax env fun x => match x.solid with
  | some (.lst ds) => Q (.st (.tup ds))
  | _ => match x with
    | .st (.tup ds) => Q (.st (.tup ds))
    | _ => False
theorem ea_tupOf (ha : EA K W ta aa) : EA K W (tCB (fun xs H Q => ∃ p ys, xs = [.ref p] ∧ ((SqL K H p ys ∧ ∀ l, H l = none → Q (.ref l) (upd H l (.tup ys))) ∨ (SqT K H p ys ∧ Q (.ref p) H))) (tCons ta tNil)) (aTupOf aa) := fun o H0 S H σ env ax Q Qc es q k xl =>
  ha o H0 S H σ env ax _ _ es q (fun v b S1 H1 g1 w1 r1 q1 => by
    split at q1
    · rename_i ds e
      obtain ⟨a, xs, rfl, h1, h2⟩ := solid_lst w1 r1 e
      refine ⟨a, xs, rfl, .inl ⟨SqL.of h1, fun p hp => ?_⟩⟩
      exact k (.ref p) (.st (.tup ds)) (upd S1 p (.tup xs)) _ (g1.trans (GrO.new w1 hp)) (w1.new hp) (Rep.tup (SqT.of upd_same) (RepL.same (same_upd (w1.1.free hp)) h2)) q1
    · split at q1
      · obtain ⟨a, xs, rfl, h1, h2⟩ := rep_tup r1
        exact ⟨a, xs, rfl, .inr ⟨Same.seqT w1.1 h1, k (.ref a) (.st (.tup _)) S1 H1 g1 w1 (Rep.tup h1 h2) q1⟩⟩
      · exact q1.elim) xl
/-! ### slices -/
abbrev AO := AX → AEnv → (Option Int → Prop) → Prop
def EO (K : PySem.W.Frag) (W : WX) (to : TO) (ao : AO) : Prop := ∀ o H0 S H σ env ax Q Qc, ES K o H0 S H σ env → ao ax env Q →
  (∀ z S' H', GrO o S H S' H' → Wl o S' H' → Q z → Qc z H') → XL K W o S H σ env ax → to σ H Qc
def aONone (ax : AX) (env : AEnv) (Q : Option Int → Prop) : Prop := Q none
def aOSome (a : AE) (ax : AX) (env : AEnv) (Q : Option Int → Prop) : Prop := a ax env fun x => match x.get with
  | .int i => Q (some i)
  | _ => False
theorem eo_none : EO K W tNoPart aONone := fun o H0 S H σ env ax Q Qc es q k xl => k none S H GrO.refl es.wl q
theorem eo_some (h : EA K W te ae) : EO K W (tPart te) (aOSome ae) := fun o H0 S H σ env ax Q Qc es q k xl =>
  h o H0 S H σ env ax _ _ es q (fun v b S1 H1 g1 w1 r1 q1 => by
    have rn := r1.now w1 (g1.kp es.kp)
    cases hb : b.get with
    | int c =>
      rw [hb] at rn q1
      exact ⟨c, rep_int rn, k (some c) S1 H1 g1 w1 q1⟩
    | _ => rw [hb] at q1; exact q1.elim) xl
def cutD (xs : List D) (lo hi : Option Int) : List D := (xs.drop (HT.sIx xs.length 0 lo)).take (HT.sIx xs.length xs.length hi - HT.sIx xs.length 0 lo)
theorem cut_rep {S : Hp} {xs : List V} {ds : List D} (h : RepL K S xs ds) (lo hi : Option Int) : RepL K S (cutV xs lo hi) (cutD ds lo hi) := by
  unfold cutV cutD
  rw [h.len]
  exact (h.drop _).take _
def aSlL (a : AE) (lo hi : AO) (ax : AX) (env : AEnv) (Q : D → Prop) : Prop := a ax env fun x => lo ax env fun l => hi ax env fun h => match x.solid with
  | some (.lst ds) => Q (.lst (cutD ds l h))
  | _ => False
theorem en_slL {tl th : TO} {al ah : AO} (ha : EA K W ta aa) (hl : EO K W tl al) (hh : EO K W th ah) : EN K W (tSl (rSlL K) ta tl th) (aSlL aa al ah) := fun o H0 S H σ env ax Q Qc es q k xl =>
  ha o H0 S H σ env ax _ _ es q (fun v b S1 H1 g1 w1 r1 q1 =>
    hl o H0 S1 H1 σ env ax _ _ (es.mono g1 w1) q1 (fun l S2 H2 g2 w2 q2 =>
      hh o H0 S2 H2 σ env ax _ _ ((es.mono g1 w1).mono g2 w2) q2 (fun h S3 H3 g3 w3 q3 => by
        split at q3
        · rename_i ds e
          obtain ⟨a, xs, rfl, h1, h2⟩ := solid_lst w3 ((r1.mono g2).mono g3) e
          have g := (g1.trans g2).trans g3
          refine ⟨a, xs, rfl, SqL.of h1, fun p hp => ?_⟩
          have ns := w3.1.free hp
          refine k p _ S3 _ (g.trans (GrO.lay hp)) (w3.put ns (w3.np hp)) (g.bk hp) ns ?_ q3
          rw [upd_same]
          exact .lst (cut_rep h2 l h)
        · exact q3.elim) (xl.mono (g1.trans g2))) (xl.mono g1)) xl
/-- x[::-1] of a list -/
def aRevL (a : AE) (ax : AX) (env : AEnv) (Q : D → Prop) : Prop := a ax env fun x => match x.solid with
  | some (.lst ds) => Q (.lst ds.reverse)
  | _ => False
/-! ### sorted(set(texts)) -/
def aSortSet (a : AE) (ax : AX) (env : AEnv) (Q : D → Prop) : Prop := a ax env fun x => match x.get with
  | .lst ds => ∃ zs : List Str, ds = zs.map D.str ∧ zs.length ≤ 100 ∧ (∀ z ∈ zs, NameOk z) ∧ Q (.lst (((insAll zs).mergeSort leS).map D.str))
  | _ => False
/-! ### walks -/
def aIL (a : AE) (ax : AX) (env : AEnv) (Q : List B → Prop) : Prop := a ax env fun x => match x with
  | .st (.lst ds) => Q (ds.map B.st)
  | .br (.lst ds) => Q (ds.map B.br)
  | _ => False
def aIT (a : AE) (ax : AX) (env : AEnv) (Q : List B → Prop) : Prop := a ax env fun x => match x with
  | .st (.tup ds) => Q (ds.map B.st)
  | .br (.tup ds) => Q (ds.map B.br)
  | _ => False
theorem wk_at {o : Option Addr} {H0 S1 : Hp} {J : It} {xs : List V} {items : List B} (G : Hp → Prop) (w : Walk J xs.length G (YAt xs)) (hl : xs.length = items.length) (hG : ∀ S H, Same S1 S → Wl o S H → Kp o H0 H → G H)
    (hr : ∀ S H, Same S1 S → Wl o S H → Kp o H0 H → Paired (BR K o H0 S H) xs items) (ho : ∀ b ∈ items, b.isOw = false) : WkA K o H0 S1 J items := by
  refine ⟨fun i S H hi a b c => w.goes i H (by omega) (hG S H a b c), fun S H a b c => by rw [← hl]; exact w.stops H (hG S H a b c), fun i S H x H' hi a b c y => ?_⟩
  obtain ⟨rfl, hx⟩ := w.yields i H x H' (by omega) (hG S H a b c) y
  obtain ⟨t, e1, e2⟩ := paired_get (hr S H' a b c) hx
  exact ⟨S, t, e1, ho t (List.mem_of_getElem? e1), GrO.refl, b, e2⟩
theorem isOw_map {f : D → B} (h : ∀ d, (f d).isOw = false) (ds : List D) : ∀ b ∈ ds.map f, b.isOw = false := fun b hb => by
  obtain ⟨d, _, rfl⟩ := List.mem_map.mp hb
  exact h d
theorem ei_list (h : EA K W te ae) : EI K W (iList K te) (aIL ae) := fun o H0 S H σ env ax Q C es q k xl =>
  h o H0 S H σ env ax _ _ es q (fun v b S1 H1 g1 w1 r1 q1 => by
    split at q1
    · rename_i ds
      obtain ⟨a, xs, rfl, h1, h2⟩ := rep_lst r1
      refine ⟨a, rfl, ⟨xs, SqL.of (w1.1 _ _ h1)⟩, k _ _ S1 H1 g1 w1 (wk_at (fun H => SqL K H a xs) walk_list (by rw [List.length_map, h2.len]) (fun S H s w _ => SqL.of (w.1 _ _ (s _ _ h1))) (fun S H s _ _ => pair_st (RepL.same s h2)) (isOw_map (fun _ => rfl) ds)) q1⟩
    · rename_i ds
      obtain ⟨a, xs, rfl, h1, h2⟩ := rep_lst (show Rep K (offp o H0) v (.lst ds) from r1)
      refine ⟨a, rfl, ⟨xs, SqL.of (off_same (g1.kp es.kp) _ _ h1)⟩, k _ _ S1 H1 g1 w1 (wk_at (fun H => SqL K H a xs) walk_list (by rw [List.length_map, h2.len]) (fun S H s w kp => SqL.of (off_same kp _ _ h1)) (fun S H s _ _ => pair_br h2) (isOw_map (fun _ => rfl) ds)) q1⟩
    · exact q1.elim) xl
def aICL (a : AE) (ax : AX) (env : AEnv) (Q : List B → Prop) : Prop := a ax env fun x => match x with
  | .st (.lst ds) => Q (ds.map B.st)
  | .br (.lst ds) => Q (ds.map B.br)
  | .ow _ (.lst ds) => Q (ds.map B.st)
  | _ => False
theorem ec_list (h : EA K W te ae) : EC K W (iList K te) (aICL ae) := fun o H0 S H σ env ax Q C es q k xl =>
  h o H0 S H σ env ax _ _ es q (fun v b S1 H1 g1 w1 r1 q1 => by
    split at q1
    · rename_i ds
      obtain ⟨a, xs, rfl, h1, h2⟩ := rep_lst r1
      exact ⟨a, rfl, ⟨xs, SqL.of (w1.1 _ _ h1)⟩, k _ _ S1 H1 g1 w1 (wk_at (fun H => SqL K H a xs) walk_list (by rw [List.length_map, h2.len]) (fun S H s w _ => SqL.of (w.1 _ _ (s _ _ h1))) (fun S H s _ _ => pair_st (RepL.same s h2)) (isOw_map (fun _ => rfl) ds)).toC q1⟩
    · rename_i ds
      obtain ⟨a, xs, rfl, h1, h2⟩ := rep_lst (show Rep K (offp o H0) v (.lst ds) from r1)
      exact ⟨a, rfl, ⟨xs, SqL.of (off_same (g1.kp es.kp) _ _ h1)⟩, k _ _ S1 H1 g1 w1 (wk_at (fun H => SqL K H a xs) walk_list (by rw [List.length_map, h2.len]) (fun S H s w kp => SqL.of (off_same kp _ _ h1)) (fun S H s _ _ => pair_br h2) (isOw_map (fun _ => rfl) ds)).toC q1⟩
    · rename_i a ds
      obtain ⟨rfl, ns, np, t⟩ := r1
      generalize hx : H1 a = z at t
      cases t with
      | @lst xs _ h2 =>
        refine ⟨a, rfl, ⟨xs, SqL.of hx⟩, k _ _ S1 H1 g1 w1 ⟨fun i S H hi g w _ => ?_, fun S H g w _ => ?_, fun i S H x H' hi g w kp y => ?_⟩ q1⟩
        · rw [List.length_map, ← h2.len] at hi
          exact walk_list.goes i H hi (SqL.of (g.rs a _ np hx))
        · rw [List.length_map, ← h2.len]
          exact walk_list.stops H (SqL.of (g.rs a _ np hx))
        · rw [List.length_map, ← h2.len] at hi
          obtain ⟨rfl, e⟩ := walk_list.yields i H x H' hi (SqL.of (K := K) (g.rs a _ np hx)) y
          obtain ⟨d, e1, e2⟩ := (RepL.same g.st h2).get e
          exact ⟨S, .st d, by rw [List.getElem?_map, e1]; rfl, rfl, GrO.refl, w, e2⟩
    · exact q1.elim) xl
theorem ei_tup (h : EA K W te ae) : EI K W (iTup K te) (aIT ae) := fun o H0 S H σ env ax Q C es q k xl =>
  h o H0 S H σ env ax _ _ es q (fun v b S1 H1 g1 w1 r1 q1 => by
    split at q1
    · rename_i ds
      obtain ⟨a, xs, rfl, h1, h2⟩ := rep_tup r1
      refine ⟨a, rfl, ⟨xs, Same.seqT w1.1 h1⟩, k _ _ S1 H1 g1 w1 (wk_at (fun H => SqT K H a xs) walk_tup (by rw [List.length_map, h2.len]) (fun S H s w _ => Same.seqT (s.trans w.1) h1) (fun S H s _ _ => pair_st (RepL.same s h2)) (isOw_map (fun _ => rfl) ds)) q1⟩
    · rename_i ds
      obtain ⟨a, xs, rfl, h1, h2⟩ := rep_tup (show Rep K (offp o H0) v (.tup ds) from r1)
      refine ⟨a, rfl, ⟨xs, Same.seqT (off_same (g1.kp es.kp)) h1⟩, k _ _ S1 H1 g1 w1 (wk_at (fun H => SqT K H a xs) walk_tup (by rw [List.length_map, h2.len]) (fun S H s w kp => Same.seqT (off_same kp) h1) (fun S H s _ _ => pair_br h2) (isOw_map (fun _ => rfl) ds)) q1⟩
    · exact q1.elim) xl
def rngB (lo : Int) (n : Nat) : List B := (List.range n).map fun i => B.st (.int (lo + (i : Nat)))
theorem wk_range {o : Option Addr} {H0 S1 : Hp} {lo : Int} {n : Nat} : WkA K o H0 S1 (Itr lo n) (rngB lo n) := by
  have hl : (rngB lo n).length = n := by simp [rngB]
  refine ⟨fun i S H hi _ _ _ => by rw [hl] at hi; exact hi, fun S H _ _ _ => by rw [hl]; exact Nat.le_refl _, fun i S H x H' hi _ w _ y => ?_⟩
  obtain ⟨rfl, rfl⟩ := (show H' = H ∧ x = .int (lo + (i : Nat)) from y)
  rw [hl] at hi
  refine ⟨S, .st (.int (lo + (i : Nat))), ?_, rfl, GrO.refl, w, .int _⟩
  unfold rngB
  rw [List.getElem?_map, List.getElem?_range hi]
  rfl
def aIR1 (a : AE) (ax : AX) (env : AEnv) (Q : List B → Prop) : Prop := a ax env fun x => match x.get with
  | .int j => (-(2 ^ 62) ≤ j ∧ j < 2 ^ 62) ∧ Q (rngB 0 j.toNat)
  | _ => False
def aIR2 (a b : AE) (ax : AX) (env : AEnv) (Q : List B → Prop) : Prop := a ax env fun x => b ax env fun y => match x.get, y.get with
  | .int i, .int j => (-(2 ^ 62) ≤ i ∧ i < 2 ^ 62 ∧ -(2 ^ 62) ≤ j ∧ j < 2 ^ 62) ∧ Q (rngB i (j - i).toNat)
  | _, _ => False
theorem ei_range1 (h : EA K W ta aa) : EI K W (iRng1 (tCons ta tNil)) (aIR1 aa) := fun o H0 S H σ env ax Q C es q k xl =>
  h o H0 S H σ env ax _ _ es q (fun v b S1 H1 g1 w1 r1 q1 => by
    have rn := r1.now w1 (g1.kp es.kp)
    cases hb : b.get with
    | int c =>
      rw [hb] at rn q1
      rw [rep_int rn]
      exact ⟨c, rfl, q1.1.1, q1.1.2, k _ _ S1 H1 g1 w1 wk_range q1.2⟩
    | _ => rw [hb] at q1; exact q1.elim) xl
theorem ei_range2 (ha : EA K W ta aa) (hb : EA K W tb ab) : EI K W (iRng2 (tCons ta (tCons tb tNil))) (aIR2 aa ab) := fun o H0 S H σ env ax Q C es q k xl =>
  ha o H0 S H σ env ax _ _ es q (fun v b S1 H1 g1 w1 r1 q1 =>
    hb o H0 S1 H1 σ env ax _ _ (es.mono g1 w1) q1 (fun v2 b2 S2 H2 g2 w2 r2 q2 => by
      have kp := (g1.trans g2).kp es.kp
      have rn := (r1.mono g2).now w2 kp
      have rn2 := r2.now w2 kp
      split at q2
      · rename_i i j e1 e2
        rw [e1] at rn
        rw [e2] at rn2
        rw [rep_int rn, rep_int rn2]
        exact ⟨i, j, rfl, q2.1, k _ _ S2 H2 (g1.trans g2) w2 wk_range q2.2⟩
      · exact q2.elim) (xl.mono g1)) xl
/-! ### functions -/
abbrev ASp := List B → (D → Prop) → AX0 → Prop
def cSp (K : PySem.W.Frag) (sp : ASp) : Sp := fun vs H Q E => ∃ o S bs Qa Xa, Wl o S H ∧ Paired (BR K o H S H) vs bs ∧ (∀ b ∈ bs, b.isOw = false) ∧ sp bs Qa Xa ∧
  (∀ v d S' H', GrO o S H S' H' → Wl o S' H' → Rep K S' v d → Qa d → Q v H') ∧
  (∀ C fs dd S' H', GrO o S H S' H' → Wl o S' H' → H dd = none → Exn K S' H' dd fs → Xa C fs → E (.ref C) (some dd) H')
theorem cSp_len {n : Nat} {sp : ASp} (h : ∀ bs Q X, sp bs Q X → bs.length = n) {vs : List V} {H : Hp} {Q : VK} {E : XK} (q : cSp K sp vs H Q E) : vs.length = n := by
  obtain ⟨o, S, bs, Qa, Xa, _, hp, _, hs, _⟩ := q
  rw [paired_len hp]
  exact h bs Qa Xa hs
theorem slot_start : ∀ (bs : List B) (n i : Nat) (b : B), slot (bs.map some ++ List.replicate n none) i = some b → bs[i]? = some b
  | [], n, i, b, h => by
    have : ∀ (n i : Nat), slot (List.replicate n none) i = none := by
      intro n
      induction n with
      | zero => intro i; rfl
      | succ m ih =>
        intro i
        cases i with
        | zero => rfl
        | succ j => exact ih j
    rw [List.map_nil, List.nil_append, this] at h
    cases h
  | x :: r, n, 0, b, h => h
  | x :: r, n, i + 1, b, h => slot_start r n i b h
theorem st_start {o : Option Addr} {S H : Hp} {N : List Str} {vs : List V} {bs : List B} (w : Wl o S H) (hp : Paired (BR K o H S H) vs bs) (no : ∀ b ∈ bs, b.isOw = false) : ST K o S H S H (L2.start N vs) (bs.map some ++ List.replicate (N.length - bs.length) none) := by
  have hl := paired_len hp
  refine ⟨GrO.refl, ⟨w, fun _ _ _ h => h, ?_, fun i b h => ?_⟩, fun i a d h => ?_, fun i j a d d' h1 h2 => ?_⟩
  · unfold L2.start
    simp [hl]
  · have h1 := slot_start bs _ i b h
    obtain ⟨v, e1, e2⟩ := paired_getR hp h1
    refine ⟨v, ?_, e2⟩
    unfold L2.start
    rw [List.getElem?_append_left (by rw [List.length_map]; exact (List.getElem?_eq_some_iff.mp e1).1), List.getElem?_map, e1]
    rfl
  · have := no _ (List.mem_of_getElem? (slot_start bs _ i _ h))
    cases this
  · have := no _ (List.mem_of_getElem? (slot_start bs _ i _ h1))
    cases this
/-- a def that raises nothing -/
theorem fn_A {sp : ASp} {t : TS} {as : AS} {N : List Str} {vs : List V} {H : Hp} {Q : VK} {E : XK} (hs : SA K (fun _ _ _ _ => False) t as) (h : cSp K sp vs H Q E)
    (hab : ∀ bs Qa Xa, sp bs Qa Xa → as ⟨fun _ => Qa .non, Qa, fun _ => False, fun _ => False, fun _ => False, fun _ _ _ => False⟩ (bs.map some ++ List.replicate (N.length - bs.length) none)) : t { nx := fun _ H' => Q .non H', rt := Q } (L2.start N vs) H := by
  obtain ⟨o, S, bs, Qa, Xa, w, hp, no, q, k1, k2⟩ := h
  refine hs o S H S H _ _ ⟨fun _ => Qa .non, Qa, fun _ => False, fun _ => False, fun _ => False, fun _ _ _ => False⟩ _ (st_start w hp no) ⟨fun σ env S' H' st q => k1 .non .non S' H' st.gr st.es.wl .non q, fun _ _ _ _ _ q => q.elim, fun _ _ _ _ _ q => q.elim, fun v d S' H' g w r q => k1 v d S' H' g w r q, fun _ _ _ _ _ _ _ _ _ q => q.elim, fun _ _ _ _ _ _ _ _ _ _ q => q.elim⟩ (hab bs Qa Xa q)
/-- one that may raise -/
theorem fn_AX {sp : ASp} {t : TS} {as : AS} {N : List Str} {vs : List V} {H : Hp} {Q : VK} {E : XK} (hs : SA K (fun cls d _ H' => E cls d H') t as) (h : cSp K sp vs H Q E)
    (hab : ∀ bs Qa Xa, sp bs Qa Xa → as ⟨fun _ => Qa .non, Qa, fun _ => False, fun _ => False, fun _ => False, fun _ => Xa⟩ (bs.map some ++ List.replicate (N.length - bs.length) none)) : t { nx := fun _ H' => Q .non H', rt := Q } (L2.start N vs) H := by
  obtain ⟨o, S, bs, Qa, Xa, w, hp, no, q, k1, k2⟩ := h
  refine hs o S H S H _ _ ⟨fun _ => Qa .non, Qa, fun _ => False, fun _ => False, fun _ => False, fun _ => Xa⟩ _ (st_start w hp no) ⟨fun σ env S' H' st q => k1 .non .non S' H' st.gr st.es.wl .non q, fun _ _ _ _ _ q => q.elim, fun _ _ _ _ _ q => q.elim, fun v d S' H' g w r q => k1 v d S' H' g w r q, fun _ _ _ _ _ _ _ _ _ q => q.elim, fun σ env C fs dd S' H' st n e q => k2 C fs dd S' H' st.gr st.es.wl n e q⟩ (hab bs Qa Xa q)
/-! ### calls -/
def coe1 : Bool → B → B
  | true, .pool => .pool
  | true, .xn a c d C fs => .xn a c d C fs
  | true, .st d => .br d
  | _, .ow _ d => .br d
  | _, b => b
def coes : List Bool → List B → List B
  | m :: ms, b :: bs => coe1 m b :: coes ms bs
  | [], b :: bs => coe1 false b :: coes [] bs
  | _, [] => []
theorem BR.br {o : Option Addr} {S H : Hp} {v : V} {d : D} (w : Wl o S H) (h : Rep K S v d) : Rep K (offp o H) v d := by
  refine Rep.same (fun a u e => ?_) h
  unfold offp
  rw [if_neg (fun z => ?_)]
  · exact w.1 a u e
  · rw [(w.2 a z).np] at e
    cases e
theorem BR.coe {o : Option Addr} {H0 S H : Hp} {v : V} {b : B} (w : Wl o S H) (kp : Kp o H0 H) (m : Bool) (h : BR K o H0 S H v b) : BR K o H S H v (coe1 m b) := by
  have hb : ∀ {d : D}, Rep K (offp o H0) v d → Rep K (offp o H) v d := fun {d} r => Rep.same (fun a u e => by
    unfold offp at e ⊢
    split at e
    · cases e
    · rename_i c
      rw [if_neg c]
      exact kp a u c e) r
  cases b with
  | st d =>
    cases m with
    | true => exact BR.br w h
    | false => exact h
  | ow a d =>
    obtain ⟨rfl, n, np, t⟩ := h
    have : Rep K (offp o H) (.ref a) d := by
      have s : Same S (offp o H) := fun a u e => by
        unfold offp
        rw [if_neg (fun z => ?_)]
        · exact w.1 a u e
        · rw [(w.2 a z).np] at e
          cases e
      refine t.rep s ?_
      unfold offp
      rw [if_neg np]
    cases m <;> exact this
  | br d => cases m <;> exact hb h
  | pool => cases m <;> exact h
  | xn a c d C fs => cases m <;> exact h
theorem coe_no (m : Bool) (b : B) : (coe1 m b).isOw = false := by cases m <;> cases b <;> rfl
theorem coes_ok {o : Option Addr} {H0 S H : Hp} (w : Wl o S H) (kp : Kp o H0 H) : ∀ {vs : List V} {bs : List B} (ms : List Bool), Paired (BR K o H0 S H) vs bs → Paired (BR K o H S H) vs (coes ms bs) ∧ ∀ b ∈ coes ms bs, b.isOw = false
  | _, _, [], .nil => ⟨.nil, fun b h => by cases h⟩
  | _, _, _ :: _, .nil => ⟨.nil, fun b h => by cases h⟩
  | _, _, m :: ms, .cons r t => by
    obtain ⟨h1, h2⟩ := coes_ok w kp ms t
    refine ⟨.cons (r.coe w kp m) h1, fun b hb => ?_⟩
    rcases List.mem_cons.mp hb with rfl | hb
    · exact coe_no m _
    · exact h2 b hb
  | _, _, [], .cons r t => by
    obtain ⟨h1, h2⟩ := coes_ok w kp [] t
    refine ⟨.cons (r.coe w kp false) h1, fun b hb => ?_⟩
    rcases List.mem_cons.mp hb with rfl | hb
    · exact coe_no false _
    · exact h2 b hb
def aCall (sp : ASp) (ms : List Bool) (a : AA) (ax : AX) (env : AEnv) (Q : B → Prop) : Prop := a ax env fun bs => sp (coes ms bs) (fun d => Q (.st d)) (ax env)
def aCall0 (sp : ASp) (ms : List Bool) (a : AA) (ax : AX) (env : AEnv) (Q : B → Prop) : Prop := a ax env fun bs => sp (coes ms bs) (fun d => Q (.st d)) fun _ _ => False
theorem ea_call {n : Nat} {sp : ASp} {t : TA} {a : AA} (ms : List Bool) (h : EL K W n t a) : EA K W (tCall (cSp K sp) [] E0 t) (aCall0 sp ms a) := fun o H0 S H σ env ax Q Qc es q k xl =>
  h o H0 S H σ env ax _ _ es q (fun vs bs S1 H1 g1 w1 r1 hl q1 => by
    rw [List.append_nil]
    obtain ⟨h1, h2⟩ := coes_ok w1 (g1.kp es.kp) ms r1
    exact ⟨o, S1, _, _, _, w1, h1, h2, q1, fun v d S' H' g w r q => k v (.st d) S' H' (g1.trans g) w r q, fun _ _ _ _ _ _ _ _ _ q => q.elim⟩) xl
theorem ea_callX {n : Nat} {sp : ASp} {t : TA} {a : AA} (ms : List Bool) (h : EL K W n t a) : EA K W (tCallS (cSp K sp) (WE W) t) (aCall sp ms a) := fun o H0 S H σ env ax Q Qc es q k xl =>
  h o H0 S H σ env ax _ _ es q (fun vs bs S1 H1 g1 w1 r1 hl q1 => by
    obtain ⟨h1, h2⟩ := coes_ok w1 (g1.kp es.kp) ms r1
    exact ⟨o, S1, _, _, _, w1, h1, h2, q1, fun v d S' H' g w r q => k v (.st d) S' H' (g1.trans g) w r q, fun C fs dd S' H' g w n e q => xl C fs dd S' H' (g1.trans g) w (g1.bk n) e q⟩) xl
/-! ### a list is lengthened -/
def aApp (i : Nat) (a : AE) (E : AEnds) (env : AEnv) : Prop := match slot env i with
  | some (.ow x (.lst ds)) => a E.ax env fun y => match y with
    | .st d => ds.length ≤ 1000 ∧ E.nx (env.set i (some (.ow x (.lst (ds ++ [d])))))
    | _ => False
  | _ => False
theorem ST.put {o : Option Addr} {S0 H0 S H : Hp} {σ : L2.St} {env : AEnv} {i : Nat} {a : Addr} {d d' : D} {u : HO} (st : ST K o S0 H0 S H σ env) (hi : slot env i = some (.ow a d)) (t : Top K S (some u) d') : ST K o S0 H0 S (L2.upd H a u) σ (env.set i (some (.ow a d'))) := by
  obtain ⟨v, e1, rfl, ns, np, ht0⟩ := st.es.sl i _ hi
  have e0 := st.fresh i a d hi
  have hlen : i < env.length := by
    cases q : env[i]? with
    | none => rw [slot_eq, q] at hi; cases hi
    | some x => exact (List.getElem?_eq_some_iff.mp q).1
  refine ⟨st.gr.put e0, ⟨st.es.wl.put ns np, fun b x n h => ?_, by rw [List.length_set]; exact st.es.len, fun j b h => ?_⟩, fun j a' d2 h => ?_, fun j l a' d2 d3 h1 h2 => ?_⟩
  · rw [upd_ne (ne_of_none h e0)]
    exact st.es.kp b x n h
  · rw [slot_set] at h
    split at h
    · rename_i c
      cases h
      rw [← c.1]
      refine ⟨_, e1, rfl, ns, np, ?_⟩
      rw [upd_same]
      exact t
    · rename_i c
      obtain ⟨w, e2, e3⟩ := st.es.sl j b h
      refine ⟨w, e2, ?_⟩
      cases b with
      | st d => exact e3
      | ow a' d'' =>
        obtain ⟨x1, x2, x3, x4⟩ := e3
        have : a' ≠ a := fun e => by
          subst e
          exact c ⟨(st.dist j i a' d'' d h hi).symm, hlen⟩
        exact ⟨x1, x2, x3, by rw [upd_ne this]; exact x4⟩
      | br d => exact e3
      | pool => exact e3
      | xn a1 cls d1 C fs =>
        obtain ⟨x1, x2, dd, x3, np1, ⟨fv, y1, y2, y3⟩⟩ := e3
        refine ⟨x1, x2, dd, x3, np1, ⟨fv, ?_, y2, y3⟩⟩
        rw [upd_ne (fun z => by
          subst z
          rw [y1] at ht0
          cases ht0)]
        exact y1
  · rw [slot_set] at h
    split at h
    · cases h
      exact e0
    · exact st.fresh j a' d2 h
  · rw [slot_set] at h1 h2
    split at h1
    · rename_i c1
      split at h2
      · rename_i c2
        exact c1.1.symm.trans c2.1
      · cases h1
        exact c1.1.symm.trans (st.dist i l a d d3 hi h2)
    · split at h2
      · rename_i c2
        cases h2
        exact (st.dist j i a d2 d h1 hi).trans c2.1
      · exact st.dist j l a' d2 d3 h1 h2
theorem sa_app (i : Nat) (h : EA K W te ae) : SA K W (tDrop (tBM K "list" rAppend (tVar i) (tCons te tNil))) (aApp i ae) := fun o S0 H0 S H σ env E Dc st lk q => by
  unfold aApp at q
  split at q
  · rename_i x ds e
    obtain ⟨v, e1, rfl, ns, np, t⟩ := st.es.sl i _ e
    generalize hx : H x = z at t
    cases t with
    | @lst xs _ r =>
      refine ⟨_, e1, .inl ⟨rfl, xs, SqL.of hx⟩, h o H0 S H σ env E.ax _ _ st.es q (fun v b S1 H1 g1 w1 r1 q1 => ?_) (lk.xl st)⟩
      cases b with
      | st d =>
        refine ⟨x, xs, v, rfl, rfl, g1.rs x _ np hx, small1000 (by rw [r.len]; exact q1.1), ?_⟩
        exact lk.nx _ _ S1 _ ((st.mono g1 w1).put e (.lst ((RepL.same g1.st r).snoc r1))) q1.2
      | _ => exact q1.elim
  · exact q.elim
theorem ea_cI {i : Int} : EA K W (tC (.int i)) (aC (.int i)) := ea_c
theorem ea_cS {i : Str} : EA K W (tC (.str i)) (aC (.str i)) := ea_c
theorem ea_cB {i : Bool} : EA K W (tC (.bl i)) (aC (.bl i)) := ea_c
theorem ea_cN : EA K W (tC .non) (aC .non) := ea_c
theorem ea_cT {n : String} : EA K W (tC (.ty n)) (aC (.ty n)) := ea_c
/-! ### comprehensions -/
theorem aCol_inv {g : B → AEnv → (AEnv → Prop) → Prop} {ct : AT} {ae : AE} {ax : AX} {env : AEnv} (I : Nat → List D → Prop) {items : List B} {acc : List D} {Q : List D → Prop} (h0 : I 0 acc)
    (hs : ∀ (i : Nat) x acc (R : List D → Prop), items[i]? = some x → I i acc → (∀ acc', I (i + 1) acc' → R acc') → g x env fun env1 => ct ax env1 fun c => ifB c (ae ax env1 fun y => match y with
      | .st d => R (acc ++ [d])
      | _ => False) (R acc)) (hd : ∀ acc, I items.length acc → Q acc) : aCol g ct ae ax env items acc Q := by
  have key : ∀ (r : List B) (k : Nat) (acc : List D), items.drop k = r → k ≤ items.length → I k acc → aCol g ct ae ax env r acc Q := by
    intro r
    induction r with
    | nil =>
      intro k acc e hk hi
      have : items.length ≤ k := List.drop_eq_nil_iff.mp e
      have : k = items.length := by omega
      subst this
      exact hd acc hi
    | cons x r ih =>
      intro k acc e hk hi
      have hx : items[k]? = some x := by
        have := congrArg (fun l => l[0]?) e
        simpa using this
      have hr : items.drop (k + 1) = r := by
        have := congrArg List.tail e
        simpa using this
      have hk2 : k < items.length := (List.getElem?_eq_some_iff.mp hx).1
      exact hs k x acc (fun acc => aCol g ct ae ax env r acc Q) hx hi fun acc' h => ih (k + 1) acc' hr hk2 h
  exact key items 0 acc rfl (Nat.zero_le _) h0
theorem aCol_fm {α : Type} {g : B → AEnv → (AEnv → Prop) → Prop} {ct : AT} {ae : AE} {ax : AX} {env : AEnv} {fb : α → B} (f : α → Option D) : ∀ {l : List α} {acc : List D} {Q : List D → Prop}
    (_ : ∀ a ∈ l, ∀ R : Option D → Prop, R (f a) → g (fb a) env fun env1 => ct ax env1 fun c => ifB c (ae ax env1 fun y => match y with
      | .st d => R (some d)
      | _ => False) (R none)) (_ : Q (acc ++ l.filterMap f)), aCol g ct ae ax env (l.map fb) acc Q
  | [], acc, Q, _, q => by
    show Q acc
    simpa using q
  | a :: r, acc, Q, h, q => by
    refine h a (by simp) (fun o => match o with
      | some d => aCol g ct ae ax env (r.map fb) (acc ++ [d]) Q
      | none => aCol g ct ae ax env (r.map fb) acc Q) ?_
    cases e : f a with
    | none => exact aCol_fm f (fun b hb => h b (by simp [hb])) (by rw [List.filterMap_cons, e] at q; exact q)
    | some d => exact aCol_fm f (fun b hb => h b (by simp [hb])) (by rw [List.filterMap_cons, e] at q; simpa using q)
theorem aCol_map {α : Type} {g : B → AEnv → (AEnv → Prop) → Prop} {ae : AE} {ax : AX} {env : AEnv} {fb : α → B} (f : α → D) : ∀ {l : List α} {acc : List D} {Q : List D → Prop}
    (_ : ∀ a ∈ l, ∀ R : D → Prop, R (f a) → g (fb a) env fun env1 => ae ax env1 fun y => match y with
      | .st d => R d
      | _ => False) (_ : Q (acc ++ l.map f)), aCol g aYes ae ax env (l.map fb) acc Q
  | [], acc, Q, _, q => by
    show Q acc
    simpa using q
  | a :: r, acc, Q, h, q => h a (by simp) (fun d => aCol g aYes ae ax env (r.map fb) (acc ++ [d]) Q) (aCol_map f (fun b hb => h b (by simp [hb])) (by simpa using q))
end
end WW

set_option Elab.async false
set_option linter.all false
set_option maxRecDepth 100000
set_option maxHeartbeats 4000000
namespace WW
open PySem PySem.Spec PyProof.Rows L2
/-! ### dicts -/
section
variable {κ : Type} [DecidableEq κ]
def valD (kvs : List (κ × D)) (k : κ) : Option D := (kvs.find? fun kv => decide (kv.1 = k)).map (·.2)
def putD (kvs : List (κ × D)) (k : κ) (d : D) : List (κ × D) := if (kvs.any fun kv => decide (kv.1 = k)) = true then kvs.map (fun kv => if kv.1 = k then (kv.1, d) else kv) else kvs ++ [(k, d)]
variable {K : PySem.W.Frag} {S : Hp}
theorem val_rep {k : κ} : ∀ {kvs : List (κ × V)} {kds : List (κ × D)}, kvs.map (·.1) = kds.map (·.1) → RepL K S (kvs.map (·.2)) (kds.map (·.2)) → (valD kds k = none ∧ valV kvs k = none) ∨ ∃ d v, valD kds k = some d ∧ valV kvs k = some v ∧ Rep K S v d
  | [], [], _, _ => .inl ⟨rfl, rfl⟩
  | [], _ :: _, h, _ => by simp at h
  | _ :: _, [], h, _ => by simp at h
  | (k1, v) :: r, (k2, d) :: rs, h, q => by
    simp only [List.map_cons, List.cons.injEq] at h
    obtain ⟨rfl, h⟩ := h
    cases q with
    | cons a b =>
      by_cases e : k1 = k
      · right
        exact ⟨d, v, by simp [valD, List.find?_cons, e], by simp [valV, List.find?_cons, e], a⟩
      · have := val_rep (k := k) h b
        have e1 : valD ((k1, d) :: rs) k = valD rs k := by simp [valD, List.find?_cons, e]
        have e2 : valV ((k1, v) :: r) k = valV r k := by simp [valV, List.find?_cons, e]
        rw [e1, e2]
        exact this
theorem map_rep {k : κ} {v : V} {d : D} (hr : Rep K S v d) : ∀ {kvs : List (κ × V)} {kds : List (κ × D)}, kvs.map (·.1) = kds.map (·.1) → RepL K S (kvs.map (·.2)) (kds.map (·.2)) →
    (kvs.map fun kv => if kv.1 = k then (kv.1, v) else kv).map (·.1) = (kds.map fun kv => if kv.1 = k then (kv.1, d) else kv).map (·.1) ∧ RepL K S ((kvs.map fun kv => if kv.1 = k then (kv.1, v) else kv).map (·.2)) ((kds.map fun kv => if kv.1 = k then (kv.1, d) else kv).map (·.2))
  | [], [], _, _ => ⟨rfl, .nil⟩
  | [], _ :: _, h, _ => by simp at h
  | _ :: _, [], h, _ => by simp at h
  | (k1, x) :: r, (k2, y) :: rs, h, q => by
    simp only [List.map_cons, List.cons.injEq] at h
    obtain ⟨rfl, h⟩ := h
    cases q with
    | cons a b =>
      obtain ⟨h1, h2⟩ := map_rep (k := k) hr h b
      by_cases e : k1 = k
      · simp only [List.map_cons, e, if_true]
        exact ⟨by rw [h1], .cons hr h2⟩
      · simp only [List.map_cons, e, if_false]
        exact ⟨by rw [h1], .cons a h2⟩
theorem any_rep {k : κ} : ∀ {kvs : List (κ × V)} {kds : List (κ × D)}, kvs.map (·.1) = kds.map (·.1) → (kvs.any fun kv => decide (kv.1 = k)) = (kds.any fun kv => decide (kv.1 = k))
  | [], [], _ => rfl
  | [], _ :: _, h => by simp at h
  | _ :: _, [], h => by simp at h
  | (k1, x) :: r, (k2, y) :: rs, h => by
    simp only [List.map_cons, List.cons.injEq] at h
    obtain ⟨rfl, h⟩ := h
    rw [List.any_cons, List.any_cons, any_rep h]
theorem put_rep {k : κ} {v : V} {d : D} (hr : Rep K S v d) {kvs : List (κ × V)} {kds : List (κ × D)} (h : kvs.map (·.1) = kds.map (·.1)) (q : RepL K S (kvs.map (·.2)) (kds.map (·.2))) :
    (putK kvs k v).map (·.1) = (putD kds k d).map (·.1) ∧ RepL K S ((putK kvs k v).map (·.2)) ((putD kds k d).map (·.2)) := by
  unfold putK putD
  rw [any_rep h]
  split
  · exact map_rep hr h q
  · rw [List.map_append, List.map_append, List.map_append, List.map_append, h]
    exact ⟨rfl, q.snoc hr⟩
theorem putD_new {kds : List (κ × D)} {k : κ} {d : D} (h : k ∉ kds.map (·.1)) : putD kds k d = kds ++ [(k, d)] := by
  unfold putD
  rw [if_neg]
  intro c
  obtain ⟨q, hq, e⟩ := List.any_eq_true.mp c
  exact h (List.mem_map.mpr ⟨q, hq, of_decide_eq_true e⟩)
theorem valD_mem {kds : List (κ × D)} {k : κ} {d : D} (nd : (kds.map (·.1)).Nodup) (h : (k, d) ∈ kds) : valD kds k = some d := by
  unfold valD
  induction kds with
  | nil => simp at h
  | cons q r ih =>
    rw [List.map_cons, List.nodup_cons] at nd
    rw [List.find?_cons]
    rcases List.mem_cons.mp h with rfl | h
    · simp
    · have hne : ¬ q.1 = k := fun e => nd.1 (by rw [e]; exact List.mem_map.mpr ⟨(k, d), h, rfl⟩)
      simp only [hne, decide_false]
      exact ih nd.2 h
theorem valD_none {kds : List (κ × D)} {k : κ} (h : k ∉ kds.map (·.1)) : valD kds k = none := by
  unfold valD
  rw [List.find?_eq_none.mpr (fun p hp => by
    have : p.1 ≠ k := fun e => h (by rw [← e]; exact List.mem_map.mpr ⟨p, hp, rfl⟩)
    simpa using this)]
  rfl
end
/-- a plain key -/
def D.key : D → Option Key
  | .int i => some (.inl i)
  | .str x => some (.inr x)
  | _ => none
def kD : Key → D
  | .inl i => .int i
  | .inr x => .str x
section
variable {K : PySem.W.Frag} {W : WX} {ta tb te td ty tv : TE} {aa ab ae ad ay av : AE}
theorem key_rep {H : Hp} {v : V} {d : D} {k : Key} (r : Rep K H v d) (h : d.key = some k) : v = kV k := by
  cases d <;> simp [D.key] at h
  · subst h; rw [rep_int r]; rfl
  · subst h; rw [rep_str r]; rfl
/-- d[k] -/
def aDget (a b : AE) (ax : AX) (env : AEnv) (Q : B → Prop) : Prop := a ax env fun x => b ax env fun y => match x.get, y.get.key with
  | .dK kvs, some k => ∃ d, valD kvs k = some d ∧ Q (x.sub d)
  | _, _ => False
def aDgetN (a b : AE) (ax : AX) (env : AEnv) (Q : B → Prop) : Prop := a ax env fun x => b ax env fun y => match x.get, y.get.key with
  | .dK kvs, some k => match valD kvs k with
    | some d => Q (x.sub d)
    | none => Q (.st .non)
  | _, _ => False
def fDin (x y : D) (Q : D → Prop) : Prop := match x.key, y with
  | some k, .dK kvs => Q (.bl (valD kvs k).isSome)
  | _, _ => False
def fDnin (x y : D) (Q : D → Prop) : Prop := match x.key, y with
  | some k, .dK kvs => Q (.bl (!(valD kvs k).isSome))
  | _, _ => False
theorem BR.dK {o : Option Addr} {H0 S H : Hp} {v : V} {b : B} {kds : List (Key × D)} (w : Wl o S H) (k : Kp o H0 H) (h : BR K o H0 S H v b) (e : b.get = .dK kds) :
    ∃ a kvs, v = .ref a ∧ Rd H a (.dK kvs) ∧ kvs.map (·.1) = kds.map (·.1) ∧ ∃ S', RepL K S' (kvs.map (·.2)) (kds.map (·.2)) ∧ ∀ x d, Rep K S' x d → BR K o H0 S H x (b.sub d) := by
  cases b with
  | st d =>
    cases e
    obtain ⟨a, xs, e1, e2, e3, e4⟩ := rep_dK h
    exact ⟨a, xs, e1, Same.rd w.1 e2, e3, S, e4, fun x d r => r⟩
  | ow a d =>
    cases e
    obtain ⟨e1, _, _, t⟩ := h
    generalize hx : H a = x at t
    cases t with
    | dK r1 r2 => exact ⟨a, _, e1, Rd.of hx, r1, S, r2, fun x d r => r⟩
  | br d =>
    cases e
    obtain ⟨a, xs, e1, e2, e3, e4⟩ := rep_dK (show Rep K (offp o H0) v (.dK kds) from h)
    exact ⟨a, xs, e1, Same.rd (off_same k) e2, e3, _, e4, fun x d r => r⟩
  | _ => cases e
theorem ea_dget (hd : EA K W td ad) (hy : EA K W ty ay) : EA K W (tDGet td ty) (aDget ad ay) := fun o H0 S H σ env ax Q Qc es q k xl =>
  hd o H0 S H σ env ax _ _ es q (fun v b S1 H1 g1 w1 r1 q1 =>
    hy o H0 S1 H1 σ env ax _ _ (es.mono g1 w1) q1 (fun v2 b2 S2 H2 g2 w2 r2 q2 => by
      have kp := (g1.trans g2).kp es.kp
      split at q2
      · rename_i kvs kk e1 e2
        obtain ⟨a, kvv, rfl, h1, h2, S', h3, h4⟩ := (r1.mono g2).dK w2 kp e1
        obtain ⟨d, hd, q2⟩ := q2
        rcases val_rep (k := kk) h2 h3 with ⟨c, _⟩ | ⟨d', x, c1, c2, c3⟩
        · rw [hd] at c; cases c
        · rw [hd] at c1
          cases c1
          rw [key_rep (r2.now w2 kp) e2]
          exact ⟨a, x, rfl, .inl ⟨kvv, kk, h1, rfl, c2.symm⟩, k x _ S2 H2 (g1.trans g2) w2 (h4 x d c3) q2⟩
      · exact q2.elim) (xl.mono g1)) xl
theorem ea_din (hy : EA K W ty ay) (hd : EA K W td ad) : EA K W (tDIn ty td) (aOp fDin ay ad) := fun o H0 S H σ env ax Q Qc es q k xl =>
  hy o H0 S H σ env ax _ _ es q (fun v b S1 H1 g1 w1 r1 q1 =>
    hd o H0 S1 H1 σ env ax _ _ (es.mono g1 w1) q1 (fun v2 b2 S2 H2 g2 w2 r2 q2 => by
      have kp := (g1.trans g2).kp es.kp
      unfold fDin at q2
      split at q2
      · rename_i kk kvs e1 e2
        obtain ⟨a, kvv, rfl, h1, h2, S', h3, h4⟩ := r2.dK w2 kp e2
        rw [key_rep ((r1.mono g2).now w2 kp) e1]
        refine ⟨a, valV kvv kk, rfl, .inl ⟨kvv, kk, h1, rfl, rfl⟩, ?_⟩
        have : (valV kvv kk).isSome = (valD kvs kk).isSome := by
          rcases val_rep (k := kk) h2 h3 with ⟨c, c'⟩ | ⟨d', x, c1, c2, c3⟩
          · rw [c, c']; rfl
          · rw [c1, c2]; rfl
        rw [this]
        exact k _ (.st (.bl _)) S2 H2 (g1.trans g2) w2 (BR.ofSc rfl) q2
      · exact q2.elim) (xl.mono g1)) xl
theorem ea_dnin (hy : EA K W ty ay) (hd : EA K W td ad) : EA K W (tDNotIn ty td) (aOp fDnin ay ad) := fun o H0 S H σ env ax Q Qc es q k xl =>
  hy o H0 S H σ env ax _ _ es q (fun v b S1 H1 g1 w1 r1 q1 =>
    hd o H0 S1 H1 σ env ax _ _ (es.mono g1 w1) q1 (fun v2 b2 S2 H2 g2 w2 r2 q2 => by
      have kp := (g1.trans g2).kp es.kp
      unfold fDnin at q2
      split at q2
      · rename_i kk kvs e1 e2
        obtain ⟨a, kvv, rfl, h1, h2, S', h3, h4⟩ := r2.dK w2 kp e2
        rw [key_rep ((r1.mono g2).now w2 kp) e1]
        refine ⟨a, valV kvv kk, rfl, .inl ⟨kvv, kk, h1, rfl, rfl⟩, ?_⟩
        have : (valV kvv kk).isSome = (valD kvs kk).isSome := by
          rcases val_rep (k := kk) h2 h3 with ⟨c, c'⟩ | ⟨d', x, c1, c2, c3⟩
          · rw [c, c']; rfl
          · rw [c1, c2]; rfl
        rw [this]
        exact k _ (.st (.bl _)) S2 H2 (g1.trans g2) w2 (BR.ofSc rfl) q2
      · exact q2.elim) (xl.mono g1)) xl
/-- {} -/
def aDnew (ax : AX) (env : AEnv) (Q : D → Prop) : Prop := Q (.dK [])
theorem en_dnew : EN K W tDNewK aDnew := fun o H0 S H σ env ax Q Qc es q k xl => fun p hp => by
  have ns := es.wl.1.free hp
  refine k p (.dK []) S _ (GrO.lay hp) (es.wl.put ns (es.wl.np hp)) hp ns ?_ q
  rw [upd_same]
  exact .dK rfl .nil
/-- d[k] = v, d one's own -/
def aDput (i : Nat) (a b : AE) (E : AEnds) (env : AEnv) : Prop := match slot env i with
  | some (.ow x (.dK kvs)) => b E.ax env fun y => a E.ax env fun z => match z.get.key, y with
    | some k, .st d => kvs.length ≤ 1000 ∧ E.nx (env.set i (some (.ow x (.dK (putD kvs k d)))))
    | _, _ => False
  | _ => False
theorem sa_dput (i : Nat) (hy : EA K W ty ay) (hv : EA K W tv av) : SA K W (sDPut (tVar i) ty tv) (aDput i ay av) := fun o S0 H0 S H σ env E Dc st lk q => by
  unfold aDput at q
  split at q
  · rename_i x kvs e
    refine hv o H0 S H σ env E.ax _ _ st.es q (fun v b S1 H1 g1 w1 r1 q1 => ?_) (lk.xl st)
    have st1 := st.mono g1 w1
    obtain ⟨vx, e1, rfl, ns, np, t⟩ := st1.es.sl i _ e
    generalize hx : H1 x = z at t
    cases t with
    | @dK kvv _ t1 t2 =>
      refine ⟨_, e1, hy o H0 S1 H1 σ env E.ax _ _ st1.es q1 (fun v2 b2 S2 H2 g2 w2 r2 q2 => ?_) (lk.xl st1)⟩
      have st2 := st1.mono g2 w2
      split at q2
      · rename_i kk d ek
        rw [key_rep (r2.now w2 st2.es.kp) ek]
        refine ⟨x, _, rfl, DPut.k (g2.rs x _ np hx) (small1000 ?_), ?_⟩
        · have : kvv.length = kvs.length := by
            have := congrArg List.length t1
            simpa using this
          rw [this]
          exact q2.1
        · obtain ⟨p1, p2⟩ := put_rep (k := kk) (Rep.same g2.st r1) t1 (RepL.same g2.st t2)
          exact lk.nx _ _ S2 _ (st2.put e (.dK p1 p2)) q2.2
      · exact q2.elim
  · exact q.elim
/-- len(d) -/
def fLenD (x : D) (Q : D → Prop) : Prop := match x with
  | .dK ds => Q (.int (ds.length : Nat))
  | _ => False
end
end WW

set_option Elab.async false
set_option linter.all false
set_option maxRecDepth 100000
set_option maxHeartbeats 4000000
namespace WW
open PySem PySem.Spec PyProof.Rows L2
/-! ### a method that may raise, called in a body -/
def tMethW (C : Addr) (m : Str) (sp : Sp) (E : L2.St → XK) (ta : TE) (t : TA) : TE := fun σ H Q => ta σ H fun x H1 => ∃ a dx fs, x = .ref a ∧ H1 a = some (.ins C dx fs) ∧ fs.lookup m = none ∧ t σ H1 fun vs H2 => sp (x :: vs) H2 Q (E σ)
section
variable {X : Cx} {CX : CXT} {k : Nat} {f C : Addr} {fd : FuncData} {ps : List Str} {sp : Sp} {E : L2.St → XK} {x m : Str} {p pos apos : Pos} {e o : Expr} {es : List Expr} {ta : TE} {t : TA}
theorem pe_methW {pl : Sem Bool} (he : PE X o ta) (c : Cls X.K C) (hm : Meth X.K C m f) (F : FnOk X.prog X.w X.K X.mg X.base CX k f fd ps sp) (hr : Room k X.A) (hb : Binds X.K fd ps []) (hx : ∀ σ, PassesAt CX X σ (E σ)) (ha : PA X (e :: es) t)
    (hst : starEach (e :: es) X.env = (false, eval e X.env) :: starEach es X.env := by rfl) (hpl : (backTo pos (starEach es X.env)).any (·.1) = false := by rfl)
    (ht : eval (.Call (.Attribute o m apos) (e :: es) [] pos) X.env = (do
      let ov ← eval o X.env
      standAt apos.atName
      let (f, first) ← holding [ov] (getMethod ov m pl)
      callWith pos f first (backTo pos (starEach (e :: es) X.env)) (backToKw pos (keywordEach [] X.env))) := by rfl) :
    PE X (.Call (.Attribute o m apos) (e :: es) [] pos) (tMethW C m sp E ta t) := by
  refine ⟨fun pins s σ H Q I h => ?_⟩
  refine PySem.W.methodCall_KW (pl := pl) (thn (he.run pins s σ H _ I h) fun u s1 ⟨x, H1, I1, rx, a, dx, fs, ex, ea, l, q⟩ => ?_) ht
  subst ex
  obtain rfl : u = Value.ref a := rx
  refine getmeth_ok I1 ea c hm l ?_
  refine PySem.W.callWith_K (first := [.ref a]) (h₀ := X.base) I.ok.mod.kin hm.kp (thn (ha.run pos pins s1 σ H1 _ I1 q) fun us s2 ⟨vs, H2, I2, r, q2⟩ => ⟨I2.kIn, ?_⟩) hst hpl
  exact run_fnS (us := .ref a :: us) (vs := .ref a :: vs) F hr hb (hx σ) I2 (.cons rfl r) q2
theorem pe_methW0 {pl : Sem Bool} (he : PE X o ta) (c : Cls X.K C) (hm : Meth X.K C m f) (F : FnOk X.prog X.w X.K X.mg X.base CX k f fd ps sp) (hr : Room k X.A) (hb : Binds X.K fd ps []) (hx : ∀ σ, PassesAt CX X σ (E σ))
    (ht : eval (.Call (.Attribute o m apos) [] [] pos) X.env = (do
      let ov ← eval o X.env
      standAt apos.atName
      let (f, first) ← holding [ov] (getMethod ov m pl)
      callWith pos f first (backTo pos (starEach [] X.env)) (backToKw pos (keywordEach [] X.env))) := by rfl) :
    PE X (.Call (.Attribute o m apos) [] [] pos) (tMethW C m sp E ta tNil) := by
  refine ⟨fun pins s σ H Q I h => ?_⟩
  refine PySem.W.methodCall_KW (pl := pl) (thn (he.run pins s σ H _ I h) fun u s1 ⟨x, H1, I1, rx, a, dx, fs, ex, ea, l, q⟩ => ?_) ht
  subst ex
  obtain rfl : u = Value.ref a := rx
  refine getmeth_ok I1 ea c hm l ?_
  exact PySem.W.callWith_K0 (first := [.ref a]) I1.kIn hm.kp (run_fnS (us := [.ref a]) (vs := [.ref a]) F hr hb (hx σ) I1 (.cons rfl .nil) q)
end
/-- a def that raises nothing here -/
theorem FnOk.quiet {P : Program} {w : World} {K : PySem.W.Frag} {mg : Str → Option Value} {base : Heap} {k : Nat} {f : Addr} {fd : FuncData} {ps : List Str} {sp : Sp} (F : FnOk P w K mg base (L2.CX P w) k f fd ps sp) :
    FnOk P w K mg base CX0 k f fd ps (fun vs H Q _ => sp vs H Q fun _ _ _ => False) := ⟨fun vs H Q E h => F.len vs H Q _ h, fun A outer s H args us vs Q E hr he hb hv h => by
  refine codeAny_mono (F.run A outer s H args us vs Q _ hr he hb hv h) fun r s' hq => ?_
  cases r with
  | error e =>
    obtain ⟨_, _, _, _, _, _, _, _, _, _, _, _, z⟩ := hq
    exact z.elim
  | ok fl =>
    cases fl with
    | ret u => exact hq
    | next => exact hq
    | brk => exact hq
    | cont => exact hq⟩
def quietA (sp : ASp) : ASp := fun bs Q _ => sp bs Q fun _ _ => False
theorem FnOk.quietA {P : Program} {w : World} {K : PySem.W.Frag} {mg : Str → Option Value} {base : Heap} {k : Nat} {f : Addr} {fd : FuncData} {ps : List Str} {sp : ASp} (F : FnOk P w K mg base (L2.CX P w) k f fd ps (cSp K sp)) :
    FnOk P w K mg base CX0 k f fd ps (cSp K (quietA sp)) := (FnOk.quiet F).imp fun vs H Q E h => by
  obtain ⟨o, S, bs, Qa, Xa, h1, h2, h3, h4, h5, h6⟩ := h
  exact ⟨o, S, bs, Qa, fun _ _ => False, h1, h2, h3, h4, h5, fun _ _ _ _ _ _ _ _ _ q => q.elim⟩
section
variable {K : PySem.W.Frag} {W : WX} {ta tb te td ty tv : TE} {aa ab ae ad ay av : AE}
/-! ### fields, properties, methods -/
theorem lookup_rep {S : Hp} {f : Str} {d : D} : ∀ {fs : List (Str × V)} {fds : List (Str × D)}, fs.map (·.1) = fds.map (·.1) → RepL K S (fs.map (·.2)) (fds.map (·.2)) → fds.lookup f = some d → ∃ v, fs.lookup f = some v ∧ Rep K S v d
  | [], [], _, _, h => by cases h
  | [], _ :: _, h, _, _ => by simp at h
  | _ :: _, [], h, _, _ => by simp at h
  | (k1, x) :: r, (k2, y) :: rs, h, q, e => by
    simp only [List.map_cons, List.cons.injEq] at h
    obtain ⟨rfl, h⟩ := h
    cases q with
    | cons a b =>
      rw [List.lookup_cons] at e ⊢
      split at e
      · cases e
        exact ⟨x, rfl, a⟩
      · exact lookup_rep h b e
theorem lookup_none {f : Str} : ∀ {fs : List (Str × V)} {fds : List (Str × D)}, fs.map (·.1) = fds.map (·.1) → fds.lookup f = none → fs.lookup f = none
  | [], [], _, _ => rfl
  | [], _ :: _, h, _ => by simp at h
  | _ :: _, [], h, _ => by simp at h
  | (k1, x) :: r, (k2, y) :: rs, h, e => by
    simp only [List.map_cons, List.cons.injEq] at h
    obtain ⟨rfl, h⟩ := h
    rw [List.lookup_cons] at e ⊢
    split at e
    · cases e
    · exact lookup_none h e
theorem BR.obj {o : Option Addr} {H0 S H : Hp} {v : V} {b : B} {C : Addr} {fds : List (Str × D)} (w : Wl o S H) (k : Kp o H0 H) (h : BR K o H0 S H v b) (e : b.get = .obj C fds) :
    ∃ a dx fs, v = .ref a ∧ H a = some (.ins C dx fs) ∧ fs.map (·.1) = fds.map (·.1) ∧ ∃ S', RepL K S' (fs.map (·.2)) (fds.map (·.2)) ∧ ∀ x d, Rep K S' x d → BR K o H0 S H x (b.sub d) := by
  cases b with
  | st d =>
    cases e
    obtain ⟨a, dx, fs, e1, e2, e3, e4⟩ := rep_obj h
    exact ⟨a, dx, fs, e1, w.1 _ _ e2, e3, S, e4, fun x d r => r⟩
  | ow a d =>
    cases e
    obtain ⟨e1, _, _, t⟩ := h
    generalize hx : H a = x at t
    cases t with
    | ins r1 r2 => exact ⟨a, _, _, e1, hx, r1, S, r2, fun x d r => r⟩
  | br d =>
    cases e
    obtain ⟨a, dx, fs, e1, e2, e3, e4⟩ := rep_obj (show Rep K (offp o H0) v (.obj C fds) from h)
    exact ⟨a, dx, fs, e1, off_same k _ _ e2, e3, _, e4, fun x d r => r⟩
  | _ => cases e
def aFld (K : PySem.W.Frag) (f : Str) (a : AE) (ax : AX) (env : AEnv) (Q : B → Prop) : Prop := a ax env fun x => match x.get with
  | .obj C fs => Cls K C ∧ NoAttr K C f ∧ ∃ d, fs.lookup f = some d ∧ Q (x.sub d)
  | _ => False
theorem ea_fld {f : Str} (ha : EA K W ta aa) : EA K W (tFld K ta f) (aFld K f aa) := fun o H0 S H σ env ax Q Qc es q k xl =>
  ha o H0 S H σ env ax _ _ es q (fun v b S1 H1 g1 w1 r1 q1 => by
    split at q1
    · rename_i C fds e
      obtain ⟨c1, c2, d, hd, q1⟩ := q1
      obtain ⟨a, dx, fs, rfl, h1, h2, S', h3, h4⟩ := r1.obj w1 (g1.kp es.kp) e
      obtain ⟨v, e1, e2⟩ := lookup_rep h2 h3 hd
      exact ⟨a, C, dx, fs, v, rfl, h1, c1, c2, e1, k v _ S1 H1 g1 w1 (h4 v d e2) q1⟩
    · exact q1.elim) xl
def aProp (C : Addr) (sp : ASp) (m : Bool) (a : AE) (ax : AX) (env : AEnv) (Q : B → Prop) : Prop := a ax env fun x => match x.get with
  | .obj C' _ => C' = C ∧ sp [coe1 m x] (fun d => Q (.st d)) fun _ _ => False
  | _ => False
theorem ea_prop {C : Addr} {sp : ASp} (m : Bool) (ha : EA K W ta aa) : EA K W (tProp C (cSp K sp) [] E0 ta) (aProp C sp m aa) := fun o H0 S H σ env ax Q Qc es q k xl =>
  ha o H0 S H σ env ax _ _ es q (fun v b S1 H1 g1 w1 r1 q1 => by
    split at q1
    · rename_i C' fds e
      obtain ⟨rfl, q1⟩ := q1
      have kp := g1.kp es.kp
      obtain ⟨a, dx, fs, rfl, h1, h2, S', h3, h4⟩ := r1.obj w1 kp e
      exact ⟨a, dx, fs, rfl, h1, o, S1, [coe1 m b], _, _, w1, .cons (r1.coe w1 kp m) .nil, (fun c hc => by rw [List.mem_singleton.mp hc]; exact coe_no m b), q1, fun v d S' H' g w r q => k v (.st d) S' H' (g1.trans g) w r q, fun _ _ _ _ _ _ _ _ _ q => q.elim⟩
    · exact q1.elim) xl
def aMeth (C : Addr) (n : Str) (sp : ASp) (ms : List Bool) (a : AE) (r : AA) (ax : AX) (env : AEnv) (Q : B → Prop) : Prop := a ax env fun x => match x.get with
  | .obj C' fs => C' = C ∧ fs.lookup n = none ∧ r ax env fun bs => sp (coes ms (x :: bs)) (fun d => Q (.st d)) (ax env)
  | _ => False
def aMeth0 (C : Addr) (n : Str) (sp : ASp) (ms : List Bool) (a : AE) (r : AA) (ax : AX) (env : AEnv) (Q : B → Prop) : Prop := a ax env fun x => match x.get with
  | .obj C' fs => C' = C ∧ fs.lookup n = none ∧ r ax env fun bs => sp (coes ms (x :: bs)) (fun d => Q (.st d)) fun _ _ => False
  | _ => False
theorem ea_meth {C : Addr} {n : Str} {sp : ASp} {c : Nat} {t : TA} {r : AA} (ms : List Bool) (ha : EA K W ta aa) (hl : EL K W c t r) : EA K W (tMeth C n (cSp K sp) [] E0 ta t) (aMeth0 C n sp ms aa r) := fun o H0 S H σ env ax Q Qc es q k xl =>
  ha o H0 S H σ env ax _ _ es q (fun v b S1 H1 g1 w1 r1 q1 => by
    split at q1
    · rename_i C' fds e
      obtain ⟨rfl, hn, q1⟩ := q1
      obtain ⟨a, dx, fs, rfl, h1, h2, S', h3, h4⟩ := r1.obj w1 (g1.kp es.kp) e
      refine ⟨a, dx, fs, rfl, h1, lookup_none h2 hn, hl o H0 S1 H1 σ env ax _ _ (es.mono g1 w1) q1 (fun vs bs S2 H2 g2 w2 r2 _ q2 => ?_) (xl.mono g1)⟩
      obtain ⟨p1, p2⟩ := coes_ok w2 ((g1.trans g2).kp es.kp) ms (.cons (r1.mono g2) r2)
      rw [List.append_nil]
      exact ⟨o, S2, _, _, _, w2, p1, p2, q2, fun v d S' H' g w r q => k v (.st d) S' H' ((g1.trans g2).trans g) w r q, fun _ _ _ _ _ _ _ _ _ q => q.elim⟩
    · exact q1.elim) xl
theorem ea_methX {C : Addr} {n : Str} {sp : ASp} {c : Nat} {t : TA} {r : AA} (ms : List Bool) (ha : EA K W ta aa) (hl : EL K W c t r) : EA K W (tMethW C n (cSp K sp) (WE W) ta t) (aMeth C n sp ms aa r) := fun o H0 S H σ env ax Q Qc es q k xl =>
  ha o H0 S H σ env ax _ _ es q (fun v b S1 H1 g1 w1 r1 q1 => by
    split at q1
    · rename_i C' fds e
      obtain ⟨rfl, hn, q1⟩ := q1
      obtain ⟨a, dx, fs, rfl, h1, h2, S', h3, h4⟩ := r1.obj w1 (g1.kp es.kp) e
      refine ⟨a, dx, fs, rfl, h1, lookup_none h2 hn, hl o H0 S1 H1 σ env ax _ _ (es.mono g1 w1) q1 (fun vs bs S2 H2 g2 w2 r2 _ q2 => ?_) (xl.mono g1)⟩
      obtain ⟨p1, p2⟩ := coes_ok w2 ((g1.trans g2).kp es.kp) ms (.cons (r1.mono g2) r2)
      exact ⟨o, S2, _, _, _, w2, p1, p2, q2, fun v d S' H' g w r q => k v (.st d) S' H' ((g1.trans g2).trans g) w r q, fun C fs dd S' H' g w n e q => xl C fs dd S' H' ((g1.trans g2).trans g) w ((g1.trans g2).bk n) e q⟩
    · exact q1.elim) xl
/-! ### new instances -/
abbrev ISp := List B → (List (Str × D) → Prop) → AX0 → Prop
/-- H without x -/
def offA (x : Addr) (H : Hp) : Hp := fun a => if a = x then none else H a
theorem offA_same {x : Addr} {H : Hp} : offA x H x = none := if_pos rfl
theorem offA_ne {x a : Addr} {H : Hp} (h : a ≠ x) : offA x H a = H a := if_neg h
theorem offA_sub {x : Addr} {H : Hp} : Same (offA x H) H := fun a u h => by
  unfold offA at h
  split at h
  · cases h
  · exact h
def cIn (K : PySem.W.Frag) (C : Addr) (sp : ISp) : Sp := fun vs H Q E => ∃ (x dx : Addr) (ws : List V) (o : Option Addr) (S : Hp) (bs : List B) (Qa : List (Str × D) → Prop) (Xa : AX0), vs = .ref x :: ws ∧ H x = some (.ins C dx []) ∧ S x = none ∧ o ≠ some x ∧ Wl o S H ∧
  Paired (BR K o (offA x H) S H) ws bs ∧ (∀ b ∈ bs, b.isOw = false) ∧ sp bs Qa Xa ∧
  (∀ dx' fv fs S' H', GrO o S (offA x H) S' H' → Wl o S' H' → S' x = none → H' x = some (.ins C dx' fv) → fv.map (·.1) = fs.map (·.1) → RepL K S' (fv.map (·.2)) (fs.map (·.2)) → Qa fs → Q .non H') ∧
  (∀ C' fs dd S' H', GrO o S (offA x H) S' H' → Wl o S' H' → offA x H dd = none → Exn K S' H' dd fs → Xa C' fs → E (.ref C') (some dd) H')
theorem cIn_len {n : Nat} {C : Addr} {sp : ISp} (h : ∀ bs Q X, sp bs Q X → bs.length = n) {vs : List V} {H : Hp} {Q : VK} {E : XK} (q : cIn K C sp vs H Q E) : vs.length = n + 1 := by
  obtain ⟨x, dx, ws, o, S, bs, Qa, Xa, rfl, _, _, _, _, hp, _, hs, _⟩ := q
  rw [List.length_cons, paired_len hp, h bs Qa Xa hs]
theorem st_init {o : Option Addr} {S H : Hp} {N : List Str} {x C dx : Addr} {ws : List V} {bs : List B} (w : Wl o S H) (hx : H x = some (.ins C dx [])) (sx : S x = none) (np : o ≠ some x) (hp : Paired (BR K o (offA x H) S H) ws bs) (no : ∀ b ∈ bs, b.isOw = false) :
    ST K o S (offA x H) S H (L2.start N (.ref x :: ws)) (some (.ow x (.obj C [])) :: (bs.map some ++ List.replicate (N.length - (bs.length + 1)) none)) := by
  have hl := paired_len hp
  refine ⟨⟨Same.refl _, fun a u _ h => offA_sub _ _ h, fun _ h _ => h, fun a h => ?_⟩, ⟨w, fun a u _ h => offA_sub _ _ h, ?_, fun i b h => ?_⟩, fun i a d h => ?_, fun i j a d d' h1 h2 => ?_⟩
  · cases q : offA x H a with
    | none => exact absurd q h
    | some u => exact ne_none (offA_sub _ _ q)
  · unfold L2.start
    simp [hl]
  · cases i with
    | zero =>
      cases h
      refine ⟨.ref x, rfl, rfl, sx, np, ?_⟩
      rw [hx]
      exact .ins rfl .nil
    | succ i =>
      have h1 := slot_start bs _ i b h
      obtain ⟨v, e1, e2⟩ := paired_getR hp h1
      refine ⟨v, ?_, e2⟩
      unfold L2.start
      rw [List.map_cons, List.cons_append, List.getElem?_cons_succ, List.getElem?_append_left (by rw [List.length_map]; exact (List.getElem?_eq_some_iff.mp e1).1), List.getElem?_map, e1]
      rfl
  · cases i with
    | zero => cases h; exact offA_same
    | succ i =>
      have := no _ (List.mem_of_getElem? (slot_start bs _ i _ h))
      cases this
  · cases i with
    | zero => cases j with
      | zero => rfl
      | succ j =>
        have := no _ (List.mem_of_getElem? (slot_start bs _ j _ h2))
        cases this
    | succ i =>
      have := no _ (List.mem_of_getElem? (slot_start bs _ i _ h1))
      cases this
/-- an __init__ that may raise -/
theorem fn_IX {C : Addr} {sp : ISp} {t : TS} {as : AS} {N : List Str} {vs : List V} {H : Hp} {Q : VK} {E : XK} (hs : SA K (fun cls d _ H' => E cls d H') t as) (h : cIn K C sp vs H Q E)
    (hab : ∀ x bs Qa Xa, sp bs Qa Xa → as ⟨fun env => ∃ fs, slot env 0 = some (.ow x (.obj C fs)) ∧ Qa fs, fun _ => False, fun _ => False, fun _ => False, fun _ => False, fun _ => Xa⟩ (some (.ow x (.obj C [])) :: (bs.map some ++ List.replicate (N.length - (bs.length + 1)) none))) : t { nx := fun _ H' => Q .non H', rt := Q } (L2.start N vs) H := by
  obtain ⟨x, dx, ws, o, S, bs, Qa, Xa, rfl, hx, sx, np, w, hp, no, q, k1, k2⟩ := h
  refine hs o S (offA x H) S H _ _ ⟨fun env => ∃ fs, slot env 0 = some (.ow x (.obj C fs)) ∧ Qa fs, fun _ => False, fun _ => False, fun _ => False, fun _ => False, fun _ => Xa⟩ _ (st_init w hx sx np hp no) ⟨fun σ env S' H' st q => ?_, fun _ _ _ _ _ q => q.elim, fun _ _ _ _ _ q => q.elim, fun _ _ _ _ _ _ _ q => q.elim, fun _ _ _ _ _ _ _ _ _ q => q.elim, fun σ env C' fs dd S' H' st n e q => k2 C' fs dd S' H' st.gr st.es.wl n e q⟩ (hab x bs Qa Xa q)
  obtain ⟨fs, e1, e2⟩ := q
  obtain ⟨v, _, rfl, ns, _, t⟩ := st.es.sl 0 _ e1
  generalize hx' : H' x = z at t
  cases t with
  | ins r1 r2 => exact k1 _ _ fs S' H' st.gr st.es.wl ns hx' r1 r2 e2
/-- one that raises nothing -/
theorem fn_I {C : Addr} {sp : ISp} {t : TS} {as : AS} {N : List Str} {vs : List V} {H : Hp} {Q : VK} {E : XK} (hs : SA K (fun _ _ _ _ => False) t as) (h : cIn K C sp vs H Q E)
    (hab : ∀ x bs Qa Xa, sp bs Qa Xa → as ⟨fun env => ∃ fs, slot env 0 = some (.ow x (.obj C fs)) ∧ Qa fs, fun _ => False, fun _ => False, fun _ => False, fun _ => False, fun _ _ _ => False⟩ (some (.ow x (.obj C [])) :: (bs.map some ++ List.replicate (N.length - (bs.length + 1)) none))) : t { nx := fun _ H' => Q .non H', rt := Q } (L2.start N vs) H := by
  obtain ⟨x, dx, ws, o, S, bs, Qa, Xa, rfl, hx, sx, np, w, hp, no, q, k1, k2⟩ := h
  refine hs o S (offA x H) S H _ _ ⟨fun env => ∃ fs, slot env 0 = some (.ow x (.obj C fs)) ∧ Qa fs, fun _ => False, fun _ => False, fun _ => False, fun _ => False, fun _ _ _ => False⟩ _ (st_init w hx sx np hp no) ⟨fun σ env S' H' st q => ?_, fun _ _ _ _ _ q => q.elim, fun _ _ _ _ _ q => q.elim, fun _ _ _ _ _ _ _ q => q.elim, fun _ _ _ _ _ _ _ _ _ q => q.elim, fun _ _ _ _ _ _ _ _ _ _ q => q.elim⟩ (hab x bs Qa Xa q)
  obtain ⟨fs, e1, e2⟩ := q
  obtain ⟨v, _, rfl, ns, _, t⟩ := st.es.sl 0 _ e1
  generalize hx' : H' x = z at t
  cases t with
  | ins r1 r2 => exact k1 _ _ fs S' H' st.gr st.es.wl ns hx' r1 r2 e2
def putFD (f : Str) (d : D) : List (Str × D) → List (Str × D)
  | [] => [(f, d)]
  | (g, x) :: r => if g = f then (g, d) :: r else (g, x) :: putFD f d r
theorem putF_rep {S : Hp} {f : Str} {v : V} {d : D} (hr : Rep K S v d) : ∀ {fs : List (Str × V)} {fds : List (Str × D)}, fs.map (·.1) = fds.map (·.1) → RepL K S (fs.map (·.2)) (fds.map (·.2)) →
    (putF f v fs).map (·.1) = (putFD f d fds).map (·.1) ∧ RepL K S ((putF f v fs).map (·.2)) ((putFD f d fds).map (·.2))
  | [], [], _, _ => ⟨rfl, .cons hr .nil⟩
  | [], _ :: _, h, _ => by simp at h
  | _ :: _, [], h, _ => by simp at h
  | (k1, x) :: r, (k2, y) :: rs, h, q => by
    simp only [List.map_cons, List.cons.injEq] at h
    obtain ⟨rfl, h⟩ := h
    cases q with
    | cons a b =>
      unfold putF putFD
      split
      · exact ⟨by rw [List.map_cons, List.map_cons, h], .cons hr b⟩
      · obtain ⟨h1, h2⟩ := putF_rep hr h b
        exact ⟨by rw [List.map_cons, List.map_cons, h1], .cons a h2⟩
/-- self.f = e -/
def aSetF (K : PySem.W.Frag) (i : Nat) (f : Str) (a : AE) (E : AEnds) (env : AEnv) : Prop := a E.ax env fun y => match slot env i, y with
  | some (.ow x (.obj C fs)), .st d => Cls K C ∧ NoAttr K C f ∧ fs.length ≤ 900 ∧ E.nx (env.set i (some (.ow x (.obj C (putFD f d fs)))))
  | _, _ => False
theorem sa_fld {f : Str} (i : Nat) (hv : EA K W tv av) : SA K W (sFld K (tVar i) tv f) (aSetF K i f av) := fun o S0 H0 S H σ env E Dc st lk q =>
  hv o H0 S H σ env E.ax _ _ st.es q (fun v b S1 H1 g1 w1 r1 q1 => by
    have st1 := st.mono g1 w1
    split at q1
    · rename_i x C fs d e
      obtain ⟨c1, c2, c3, q1⟩ := q1
      obtain ⟨vx, e1, rfl, ns, np, t⟩ := st1.es.sl i _ e
      generalize hx : H1 x = z at t
      cases t with
      | @ins _ dx fv _ t1 t2 =>
        have hl : fv.length = fs.length := by
          have := congrArg List.length t1
          simpa using this
        refine ⟨_, e1, x, C, dx, fv, rfl, hx, c1, c2, by omega, ?_⟩
        obtain ⟨p1, p2⟩ := putF_rep (f := f) r1 t1 t2
        exact lk.nx _ _ S1 _ (st1.put e (.ins p1 p2)) q1
    · exact q1.elim) (lk.xl st)
/-- C(..) -/
def aMake (C : Addr) (sp : ISp) (ms : List Bool) (a : AA) (ax : AX) (env : AEnv) (Q : B → Prop) : Prop := a ax env fun bs => sp (coes ms bs) (fun fs => Q (.st (.obj C fs))) (ax env)
def aMake0 (C : Addr) (sp : ISp) (ms : List Bool) (a : AA) (ax : AX) (env : AEnv) (Q : B → Prop) : Prop := a ax env fun bs => sp (coes ms bs) (fun fs => Q (.st (.obj C fs))) fun _ _ => False
theorem make_ok {o : Option Addr} {H0 S H : Hp} {C : Addr} {sp : ISp} {vs : List V} {bs : List B} {ms : List Bool} {Qa : List (Str × D) → Prop} {Xa : AX0} {Qc : VK} {E : XK} (w : Wl o S H) (kp : Kp o H0 H) (r : Paired (BR K o H0 S H) vs bs) (q : sp (coes ms bs) Qa Xa)
    (k : ∀ x fs S' H', GrO o S H S' H' → Wl o S' H' → Rep K S' (.ref x) (.obj C fs) → Qa fs → Qc (.ref x) H') (kx : ∀ C' fs dd S' H', GrO o S H S' H' → Wl o S' H' → H dd = none → Exn K S' H' dd fs → Xa C' fs → E (.ref C') (some dd) H')
    {x dx : Addr} (nx : H x = none) (ndx : H dx = none) (ne : dx ≠ x) : cIn K C sp (.ref x :: vs) (upd (upd H dx (.own x)) x (.ins C dx [])) (fun v H2 => v = .non ∧ Qc (.ref x) H2) E := by
  obtain ⟨p1, p2⟩ := coes_ok w kp ms r
  have sdx : S dx = none := w.1.free ndx
  have sx : S x = none := w.1.free nx
  have w1 : Wl o (upd S dx (.own x)) (upd H dx (.own x)) := w.new ndx
  have nx1 : upd H dx (.own x) x = none := (upd_ne ne.symm).trans nx
  have sx1 : upd S dx (.own x) x = none := (upd_ne ne.symm).trans sx
  have w2 : Wl o (upd S dx (.own x)) (upd (upd H dx (.own x)) x (.ins C dx [])) := w1.put sx1 (w.np nx)
  have g1 : GrO o S H (upd S dx (.own x)) (upd H dx (.own x)) := GrO.new w ndx
  have e0 : offA x (upd (upd H dx (.own x)) x (.ins C dx [])) = upd H dx (.own x) := by
    funext a
    by_cases h : a = x
    · subst h; rw [offA_same, nx1]
    · rw [offA_ne h, upd_ne h]
  have sH : Same H (upd H dx (.own x)) := same_upd ndx
  have p3 : Paired (BR K o (upd H dx (.own x)) (upd S dx (.own x)) (upd (upd H dx (.own x)) x (.ins C dx []))) vs (coes ms bs) := by
    refine L2.Paired.mapP (pairBR_mono (g1.trans (GrO.lay (u := .ins C dx []) nx1)) p1) fun v b h => ?_
    cases b with
    | br d =>
      refine Rep.same (fun a u e => ?_) (show Rep K (offp o H) v d from h)
      unfold offp at e ⊢
      split at e
      · cases e
      · rename_i c
        rw [if_neg c]
        exact sH _ _ e
    | _ => exact h
  refine ⟨x, dx, vs, o, upd S dx (.own x), coes ms bs, Qa, Xa, rfl, upd_same, sx1, w.np nx, w2, by rw [e0]; exact p3, p2, q, ?_, ?_⟩
  · intro dx' fv fs S' H' g w' ns hx h1 h2 q
    rw [e0] at g
    have g2 := g1.trans g
    refine ⟨rfl, k x fs (upd S' x (.ins C dx' fv)) H' (g2.fix nx ns) (w'.fix hx ns (w.np nx)) ?_ q⟩
    exact .obj upd_same h1 (RepL.same (same_upd ns) h2)
  · intro C' fs dd S' H' g w' n e q
    rw [e0] at g n
    exact kx C' fs dd S' H' (g1.trans g) w' (g1.bk n) e q
theorem ea_make {C : Addr} {sp : ISp} {n : Nat} {t : TA} {a : AA} (ms : List Bool) (h : EL K W n t a) : EA K W (tMake C (cIn K C sp) [] E0 t) (aMake0 C sp ms a) := fun o H0 S H σ env ax Q Qc es q k xl =>
  h o H0 S H σ env ax _ _ es q (fun vs bs S1 H1 g1 w1 r1 _ q1 => by
    intro x dx nx ndx ne
    rw [List.append_nil]
    exact make_ok w1 (g1.kp es.kp) r1 q1 (fun x fs S' H' g w r q => k (.ref x) (.st (.obj C fs)) S' H' (g1.trans g) w r q) (fun _ _ _ _ _ _ _ _ _ q => q.elim) nx ndx ne) xl
theorem ea_makeX {C : Addr} {sp : ISp} {n : Nat} {t : TA} {a : AA} (ms : List Bool) (h : EL K W n t a) : EA K W (tMakeS C (cIn K C sp) (WE W) t) (aMake C sp ms a) := fun o H0 S H σ env ax Q Qc es q k xl =>
  h o H0 S H σ env ax _ _ es q (fun vs bs S1 H1 g1 w1 r1 _ q1 => by
    intro x dx nx ndx ne
    exact make_ok w1 (g1.kp es.kp) r1 q1 (fun x fs S' H' g w r q => k (.ref x) (.st (.obj C fs)) S' H' (g1.trans g) w r q) (fun C' fs dd S' H' g w n e q => xl C' fs dd S' H' (g1.trans g) w (g1.bk n) e q) nx ndx ne) xl
/-! ### raise -/
def aRaise (C : Addr) (fld : Str) (a : AE) (E : AEnds) (env : AEnv) : Prop := a E.ax env fun b => match b with
  | .st d => E.ax env C [(fld, d)]
  | _ => False
theorem sa_raise {C : Addr} {fld : Str} (h : EA K W te ae) : SA K W (fun _ σ H => tMkO C (spXI C fld) [] (tCons te tNil) σ H fun cls d H' => W cls d σ H') (aRaise C fld ae) := fun o S0 H0 S H σ env E Dc st lk q =>
  h o H0 S H σ env E.ax _ _ st.es q (fun v b S1 H1 g1 w1 r1 q1 => by
    cases b with
    | st d =>
      have st1 := st.mono g1 w1
      refine mkx (C := C) (fld := fld) (y := v) (H1 := H1) (Q := fun cls d H' => W cls d σ H') fun dd nd => lk.ex σ env C [(fld, d)] dd S1 _ (st1.mono (GrO.lay nd) (w1.put (w1.1.free nd) (w1.np nd))) (st1.gr.bk nd) ⟨[(fld, v)], upd_same, rfl, .cons r1 .nil⟩ q1
    | _ => exact q1.elim) (lk.xl st)
theorem sa_never : SA K W tNever aNever := fun o S0 H0 S H σ env E Dc st lk q => q
end
end WW

set_option Elab.async false
set_option linter.all false
set_option maxRecDepth 100000
set_option maxHeartbeats 4000000
namespace WW
open PySem PySem.Spec PyProof.Rows L2
/-! ### instruments -/
def iF (t p c : V) : List (Str × V) := putF "fee" c (putF "place" p (putF "title" t []))
def sF (t p c : V) (r : Addr) : List (Str × V) := putF "shows" (.ref r) (iF t p c)
def lF (t p c : V) (r : Addr) : List (Str × V) := putF "stops" (.ref r) (iF t p c)
theorem fn1 : ¬ (("title" : Str) = "fee") := by decide +kernel
theorem fn2 : ¬ (("title" : Str) = "place") := by decide +kernel
theorem fn3 : ¬ (("place" : Str) = "fee") := by decide +kernel
theorem fn4 : ¬ (("title" : Str) = "shows") := by decide +kernel
theorem fn5 : ¬ (("place" : Str) = "shows") := by decide +kernel
theorem fn6 : ¬ (("fee" : Str) = "shows") := by decide +kernel
theorem fn7 : ¬ (("title" : Str) = "stops") := by decide +kernel
theorem fn8 : ¬ (("place" : Str) = "stops") := by decide +kernel
theorem fn9 : ¬ (("fee" : Str) = "stops") := by decide +kernel
theorem iF_t (t p c : V) : (iF t p c).lookup ("title" : Str) = some t := by
  unfold iF
  rw [lookup_putF, if_neg fn1, lookup_putF, if_neg fn2, lookup_putF, if_pos rfl]
theorem iF_p (t p c : V) : (iF t p c).lookup ("place" : Str) = some p := by
  unfold iF
  rw [lookup_putF, if_neg fn3, lookup_putF, if_pos rfl]
theorem iF_c (t p c : V) : (iF t p c).lookup ("fee" : Str) = some c := by
  unfold iF
  rw [lookup_putF, if_pos rfl]
/-- the fields of an instrument -/
structure Fl (fs : List (Str × V)) (t p c : V) : Prop where
  t_ : fs.lookup ("title" : Str) = some t
  p_ : fs.lookup ("place" : Str) = some p
  c_ : fs.lookup ("fee" : Str) = some c
  h_ : fs.lookup ("head" : Str) = none
theorem sF_fl (t p c : V) (r : Addr) : Fl (sF t p c r) t p c := by
  refine ⟨?_, ?_, ?_, ?_⟩
  · unfold sF
    rw [lookup_putF, if_neg fn4, iF_t]
  · unfold sF
    rw [lookup_putF, if_neg fn5, iF_p]
  · unfold sF
    rw [lookup_putF, if_neg fn6, iF_c]
  · unfold sF iF
    rw [lookup_putF, if_neg (by decide +kernel), lookup_putF, if_neg (by decide +kernel), lookup_putF, if_neg (by decide +kernel), lookup_putF, if_neg (by decide +kernel)]
    rfl
theorem lF_fl (t p c : V) (r : Addr) : Fl (lF t p c r) t p c := by
  refine ⟨?_, ?_, ?_, ?_⟩
  · unfold lF
    rw [lookup_putF, if_neg fn7, iF_t]
  · unfold lF
    rw [lookup_putF, if_neg fn8, iF_p]
  · unfold lF
    rw [lookup_putF, if_neg fn9, iF_c]
  · unfold lF iF
    rw [lookup_putF, if_neg (by decide +kernel), lookup_putF, if_neg (by decide +kernel), lookup_putF, if_neg (by decide +kernel), lookup_putF, if_neg (by decide +kernel)]
    rfl
theorem sF_s (t p c : V) (r : Addr) : (sF t p c r).lookup ("shows" : Str) = some (.ref r) := by
  unfold sF
  rw [lookup_putF, if_pos rfl]
theorem lF_s (t p c : V) (r : Addr) : (lF t p c r).lookup ("stops" : Str) = some (.ref r) := by
  unfold lF
  rw [lookup_putF, if_pos rfl]
/-- a class of instruments -/
structure Kl (K : PySem.W.Frag) (C : Addr) : Prop where
  cl : Cls K C
  nT : NoAttr K C "title"
  nP : NoAttr K C "place"
  nF : NoAttr K C "fee"
  nS : NoAttr K C "shows"
  nO : NoAttr K C "stops"
  ic : C8.InsC K C
theorem Kl.ty {K : PySem.W.Frag} {C a dx : Addr} {fs : List (Str × V)} {H : Hp} (k : Kl K C) (ha : H a = some (.ins C dx fs)) : TyX K H (.ref a) (.ref C) := .base (.ins ha k.cl k.ic.ha k.ic.hn k.ic.htk k.ic.hm)
section
variable {P : Program} {w : World} {K : PySem.W.Frag} {mg : Str → Option Value} {base : Heap} {f fA fB fC fX fY C CS CL CI : Addr} {fd fdA fdB fdC fdX fdY : FuncData}
abbrev sInstrument_init : Stmt := inClass (topS 23) 0
abbrev nInstrument_init : List Str := ["self", "name", "post", "cost"]
theorem scInstrument_init : FnScope nInstrument_init ["self", "name", "post", "cost"] (defScope sInstrument_init) := ⟨rfl, rfl, rfl, by decide +kernel, rfl, by decide +kernel, by decide +kernel⟩
def spIInit (K : PySem.W.Frag) : Sp := fun vs H Q _ => ∃ (x dx C : Addr) (t p c : V), vs = [.ref x, t, p, c] ∧ H x = some (.ins C dx []) ∧ Kl K C ∧ Q .non (upd H x (.ins C dx (iF t p c)))
theorem ok_iinit (F : Fun K "__init__" "Instrument.__init__" sInstrument_init f fd) : FnOk P w K mg base CX0 1 f fd ["self", "name", "post", "cost"] (spIInit K) := by
  refine F.ok scInstrument_init (fun vs H Q E h => ?_) (fun cdv A outer s H vs Q E hr h => ?_)
  · obtain ⟨x, dx, C, t, p, c, rfl, _⟩ := h
    rfl
  · obtain ⟨x, dx, C, t, p, c, rfl, hx, k, q⟩ := h
    refine ⟨_, (pss_cons (ps_fld (pv 0) (pv 1) rfl)
      (pss_cons (ps_fld (pv 0) (pv 2) rfl)
      (pss_one (ps_fld (pv 0) (pv 3) rfl)))), ?_⟩
    refine ⟨_, rfl, _, rfl, x, C, dx, _, rfl, hx, k.cl, k.nT, by decide, _, rfl, _, rfl, x, C, dx, _, rfl, upd_same, k.cl, k.nP, by show 1 < 1000; decide, _, rfl, _, rfl, x, C, dx, _, rfl, upd_same, k.cl, k.nF, by show 2 < 1000; decide, ?_⟩
    rw [upd_upd, upd_upd]
    exact q
abbrev sInstrument_name : Stmt := inClass (topS 23) 1
abbrev nInstrument_name : List Str := ["self"]
theorem scInstrument_name : FnScope nInstrument_name ["self"] (defScope sInstrument_name) := ⟨rfl, rfl, rfl, by decide +kernel, rfl, by decide +kernel, by decide +kernel⟩
abbrev sInstrument_post : Stmt := inClass (topS 23) 2
abbrev nInstrument_post : List Str := ["self"]
theorem scInstrument_post : FnScope nInstrument_post ["self"] (defScope sInstrument_post) := ⟨rfl, rfl, rfl, by decide +kernel, rfl, by decide +kernel, by decide +kernel⟩
abbrev sInstrument_cost : Stmt := inClass (topS 23) 3
abbrev nInstrument_cost : List Str := ["self"]
theorem scInstrument_cost : FnScope nInstrument_cost ["self"] (defScope sInstrument_cost) := ⟨rfl, rfl, rfl, by decide +kernel, rfl, by decide +kernel, by decide +kernel⟩
abbrev sInstrument_head : Stmt := inClass (topS 23) 4
abbrev nInstrument_head : List Str := ["self"]
theorem scInstrument_head : FnScope nInstrument_head ["self"] (defScope sInstrument_head) := ⟨rfl, rfl, rfl, by decide +kernel, rfl, by decide +kernel, by decide +kernel⟩
def spFl (K : PySem.W.Frag) (g : V → V → V → V) : Sp := fun vs H Q _ => ∃ (a dx C : Addr) (fs : List (Str × V)) (t p c : V), vs = [.ref a] ∧ H a = some (.ins C dx fs) ∧ Kl K C ∧ Fl fs t p c ∧ Q (g t p c) H
theorem ok_iname (F : Fun K "name" "Instrument.name" sInstrument_name f fd) : FnOk P w K mg base CX0 1 f fd ["self"] (spFl K fun t _ _ => t) := by
  refine F.ok scInstrument_name (fun vs H Q E h => ?_) (fun cdv A outer s H vs Q E hr h => ?_)
  · obtain ⟨a, dx, C, fs, t, p, c, rfl, _⟩ := h
    rfl
  · obtain ⟨a, dx, C, fs, t, p, c, rfl, ha, k, l, q⟩ := h
    refine ⟨_, (pss_one (ps_ret (pe_fld (pv 0) rfl))), ?_⟩
    exact ⟨_, rfl, a, C, dx, fs, t, rfl, ha, k.cl, k.nT, l.t_, q⟩
theorem ok_ipost (F : Fun K "post" "Instrument.post" sInstrument_post f fd) : FnOk P w K mg base CX0 1 f fd ["self"] (spFl K fun _ p _ => p) := by
  refine F.ok scInstrument_post (fun vs H Q E h => ?_) (fun cdv A outer s H vs Q E hr h => ?_)
  · obtain ⟨a, dx, C, fs, t, p, c, rfl, _⟩ := h
    rfl
  · obtain ⟨a, dx, C, fs, t, p, c, rfl, ha, k, l, q⟩ := h
    refine ⟨_, (pss_one (ps_ret (pe_fld (pv 0) rfl))), ?_⟩
    exact ⟨_, rfl, a, C, dx, fs, p, rfl, ha, k.cl, k.nP, l.p_, q⟩
theorem ok_icost (F : Fun K "cost" "Instrument.cost" sInstrument_cost f fd) : FnOk P w K mg base CX0 1 f fd ["self"] (spFl K fun _ _ c => c) := by
  refine F.ok scInstrument_cost (fun vs H Q E h => ?_) (fun cdv A outer s H vs Q E hr h => ?_)
  · obtain ⟨a, dx, C, fs, t, p, c, rfl, _⟩ := h
    rfl
  · obtain ⟨a, dx, C, fs, t, p, c, rfl, ha, k, l, q⟩ := h
    refine ⟨_, (pss_one (ps_ret (pe_fld (pv 0) rfl))), ?_⟩
    exact ⟨_, rfl, a, C, dx, fs, c, rfl, ha, k.cl, k.nF, l.c_, q⟩
def spIHead (K : PySem.W.Frag) : Sp := fun vs H Q _ => ∃ (a dx C : Addr) (fs : List (Str × V)) (t p c : V), vs = [.ref a] ∧ H a = some (.ins C dx fs) ∧ Kl K C ∧ Fl fs t p c ∧ ∀ r, H r = none → Q (.ref r) (upd H r (.tup [t, p, c]))
theorem ok_ihead (F : Fun K "head" "Instrument.head" sInstrument_head f fd) : FnOk P w K mg base CX0 1 f fd ["self"] (spIHead K) := by
  refine F.ok scInstrument_head (fun vs H Q E h => ?_) (fun cdv A outer s H vs Q E hr h => ?_)
  · obtain ⟨a, dx, C, fs, t, p, c, rfl, _⟩ := h
    rfl
  · obtain ⟨a, dx, C, fs, t, p, c, rfl, ha, k, l, q⟩ := h
    refine ⟨_, (pss_one (ps_ret (pe_tup (pa_cons (pe_fld (pv 0) rfl) (pa_cons (pe_fld (pv 0) rfl) (pa_cons (pe_fld (pv 0) rfl) pa_nil)))))), ?_⟩
    exact ⟨_, rfl, a, C, dx, fs, t, rfl, ha, k.cl, k.nT, l.t_, _, rfl, a, C, dx, fs, p, rfl, ha, k.cl, k.nP, l.p_, _, rfl, a, C, dx, fs, c, rfl, ha, k.cl, k.nF, l.c_, by show 3 ≤ sizeLine; decide, q⟩
end
end WW

set_option Elab.async false
set_option linter.all false
set_option maxRecDepth 100000
set_option maxHeartbeats 4000000
namespace WW
open PySem PySem.Spec PyProof.Rows L2
section
variable {K : PySem.W.Frag} {W : WX} {ta tb te td ty tv : TE} {aa ab ae ad ay av : AE}
/-! ### isinstance -/
def knD : D → Option String
  | .non => some "NoneType"
  | .bl _ => some "bool"
  | .int _ => some "int"
  | .str _ => some "str"
  | .lst _ => some "list"
  | .tup _ => some "tuple"
  | .dK _ => some "dict"
  | .dT _ => none
  | _ => none
theorem kn_ty {H : Hp} {v : V} {d : D} {n : String} (r : Rep K H v d) (h : knD d = some n) : TyX K H v (.type n) ∧ n ∈ kinds := by
  cases r <;> simp only [knD, Option.some.injEq, reduceCtorEq] at h
  case non => subst h; exact ⟨.base .non, by decide⟩
  case bl => subst h; exact ⟨.base (.bl _), by decide⟩
  case int => subst h; exact ⟨.base (.int _), by decide⟩
  case str => subst h; exact ⟨.base (.str _), by decide⟩
  case lst h1 _ => subst h; exact ⟨.base (.lst h1), by decide⟩
  case tup h1 _ =>
    subst h
    refine ⟨?_, by decide⟩
    rcases h1 with (h1 | ⟨o, h1⟩) | ⟨o, its, n, h1, h2, _⟩
    · exact .base (.tup h1)
    · exact .fTuple h1
    · exact .kTuple h1 h2
  case dK h1 _ _ =>
    subst h
    refine ⟨?_, by decide⟩
    rcases h1 with h1 | ⟨o, h1⟩
    · exact .base (.dK h1)
    · exact .fDict h1
def isIn : D → Option Bool
  | .int _ => some true
  | .bl _ => some true
  | d => match knD d with
    | some _ => some false
    | none => none
def isBo : D → Option Bool
  | .bl _ => some true
  | d => match knD d with
    | some _ => some false
    | none => none
def isS : D → Option Bool
  | .str _ => some true
  | d => match knD d with
    | some _ => some false
    | none => none
def isL : D → Option Bool
  | .lst _ => some true
  | d => match knD d with
    | some _ => some false
    | none => none
def isT : D → Option Bool
  | .tup _ => some true
  | d => match knD d with
    | some _ => some false
    | none => none
def isDi : D → Option Bool
  | .dK _ => some true
  | d => match knD d with
    | some _ => some false
    | none => none
def isRow : D → Option Bool
  | .lst _ => some true
  | .tup _ => some true
  | d => match knD d with
    | some _ => some false
    | none => none
def isNo (d : D) : Option Bool := match knD d with
  | some _ => some false
  | none => none
structure IsF (n : String) (f : D → Option Bool) : Prop where
  ok : ∀ d b, f d = some b → ∃ m, knD d = some m ∧ (m ∈ kinds → kitB m n = some b)
theorem is_I : IsF "int" isIn := ⟨fun d b h => by
  cases d <;> simp [isIn, knD] at h <;> subst h <;> exact ⟨_, rfl, fun _ => by decide +kernel⟩⟩
theorem is_B : IsF "bool" isBo := ⟨fun d b h => by
  cases d <;> simp [isBo, knD] at h <;> subst h <;> exact ⟨_, rfl, fun _ => by decide +kernel⟩⟩
theorem is_S : IsF "str" isS := ⟨fun d b h => by
  cases d <;> simp [isS, knD] at h <;> subst h <;> exact ⟨_, rfl, fun _ => by decide +kernel⟩⟩
theorem is_L : IsF "list" isL := ⟨fun d b h => by
  cases d <;> simp [isL, knD] at h <;> subst h <;> exact ⟨_, rfl, fun _ => by decide +kernel⟩⟩
theorem is_T : IsF "tuple" isT := ⟨fun d b h => by
  cases d <;> simp [isT, knD] at h <;> subst h <;> exact ⟨_, rfl, fun _ => by decide +kernel⟩⟩
theorem is_D : IsF "dict" isDi := ⟨fun d b h => by
  cases d <;> simp [isDi, knD] at h <;> subst h <;> exact ⟨_, rfl, fun _ => by decide +kernel⟩⟩
/-- a class whose instances are asked for their class -/
structure ClK (K : PySem.W.Frag) (C : Addr) : Prop where
  cl : Cls K C
  ic : C8.InsC K C
theorem ClK.tyx {C a dx : Addr} {fs : List (Str × V)} {H : Hp} (k : ClK K C) (ha : H a = some (.ins C dx fs)) : TyX K H (.ref a) (.ref C) := .base (.ins ha k.cl k.ic.ha k.ic.hn k.ic.htk k.ic.hm)
def aIs (K : PySem.W.Frag) (u : Value) (f : D → Option Bool) (a : AE) (ax : AX) (env : AEnv) (Q : B → Prop) : Prop := a ax env fun x => match x.get with
  | .obj C _ => ClK K C ∧ ∃ b, PySem.W.kitOne K (.ref C) u = some b ∧ Q (.st (.bl b))
  | d => match f d with
    | some b => Q (.st (.bl b))
    | none => False
theorem is_core {u : Value} {f : D → Option Bool} {c : V} (hc : ClsV c u) (hf : ∀ H v d b, Rep K H v d → f d = some b → ∃ t, TyX K H v t ∧ PySem.W.kitOne K t u = some b) (ha : EA K W ta aa) : EA K W (tCB (rIsi K) (tCons ta (tCons (tC c) tNil))) (aIs K u f aa) := fun o H0 S H σ env ax Q Qc es q k xl =>
  ha o H0 S H σ env ax _ _ es q (fun v b S1 H1 g1 w1 r1 q1 => by
    have rn := r1.now w1 (g1.kp es.kp)
    split at q1
    · rename_i C fs e
      obtain ⟨kl, b', hb, q1⟩ := q1
      rw [e] at rn
      obtain ⟨a, dx, fv, rfl, h1, _⟩ := rep_obj rn
      exact ⟨_, c, _, u, b', rfl, hc, kl.tyx h1, hb, k _ (.st (.bl b')) S1 H1 g1 w1 (BR.ofSc rfl) q1⟩
    · split at q1
      · rename_i b' hb
        obtain ⟨t, h1, h2⟩ := hf _ _ _ _ rn hb
        exact ⟨_, c, t, u, b', rfl, hc, h1, h2, k _ (.st (.bl b')) S1 H1 g1 w1 (BR.ofSc rfl) q1⟩
      · exact q1.elim) xl
theorem ea_isB {n : String} {f : D → Option Bool} (hf : IsF n f) (ha : EA K W ta aa) : EA K W (tCB (rIsi K) (tCons ta (tCons (tC (.ty n)) tNil))) (aIs K (.type n) f aa) :=
  is_core (.ty n) (fun H v d b r h => by
    obtain ⟨m, e1, e2⟩ := hf.ok d b h
    obtain ⟨h1, h2⟩ := kn_ty r e1
    exact ⟨_, h1, kit_ty (e2 h2)⟩) ha
/-- no built-in thing is an instance of the class -/
def NoB (K : PySem.W.Frag) (C : Addr) : Prop := ∀ n ∈ kinds, PySem.W.kitOne K (.type n) (.ref C) = some false
theorem ea_isO {C : Addr} (hC : NoB K C) (ha : EA K W ta aa) : EA K W (tCB (rIsi K) (tCons ta (tCons (tC (.ref C)) tNil))) (aIs K (.ref C) isNo aa) :=
  is_core (.own C) (fun H v d b r h => by
    unfold isNo at h
    split at h
    · rename_i n e
      cases h
      obtain ⟨h1, h2⟩ := kn_ty r e
      exact ⟨_, h1, hC n h2⟩
    · cases h) ha
def aIsRow (K : PySem.W.Frag) (a : AE) (ax : AX) (env : AEnv) (Q : B → Prop) : Prop := a ax env fun x => match x.get with
  | .obj C _ => ClK K C ∧ ∃ b, PySem.W.kitAny K (.ref C) [.type "list", .type "tuple"] = some b ∧ Q (.st (.bl b))
  | d => match isRow d with
    | some b => Q (.st (.bl b))
    | none => False
theorem ea_isRow (ha : EA K W ta aa) : EA K W (tCB (rIsiT K) (tCons ta (tCons (tTup (tCons (tC (.ty "list")) (tCons (tC (.ty "tuple")) tNil))) tNil))) (aIsRow K aa) := fun o H0 S H σ env ax Q Qc es q k xl =>
  ha o H0 S H σ env ax _ _ es q (fun v b S1 H1 g1 w1 r1 q1 => by
    refine ⟨by show 2 ≤ sizeLine; decide, fun p hp => ?_⟩
    have g2 : GrO o S H (upd S1 p (.tup [.ty "list", .ty "tuple"])) _ := g1.trans (GrO.new (u := .tup [.ty "list", .ty "tuple"]) w1 hp)
    have w2 := w1.new (u := .tup [.ty "list", .ty "tuple"]) hp
    have rn := (r1.mono (GrO.new (u := .tup [.ty "list", .ty "tuple"]) w1 hp)).now w2 (g2.kp es.kp)
    have pc : Paired ClsV [.ty "list", .ty "tuple"] [.type "list", .type "tuple"] := .cons (.ty _) (.cons (.ty _) .nil)
    split at q1
    · rename_i C fs e
      obtain ⟨kl, b', hb, q1⟩ := q1
      rw [e] at rn
      obtain ⟨a, dx, fv, rfl, h1, _⟩ := rep_obj rn
      exact ⟨_, p, _, _, _, b', rfl, upd_same, pc, kl.tyx h1, hb, k _ (.st (.bl b')) _ _ g2 w2 (BR.ofSc rfl) q1⟩
    · split at q1
      · rename_i b' hb
        have : ∃ m, knD b.get = some m ∧ (m ∈ kinds → PySem.W.kitAny K (.type m) [.type "list", .type "tuple"] = some b') := by
          generalize b.get = d at hb
          cases d <;> simp [isRow, knD] at hb <;> subst hb <;> exact ⟨_, rfl, fun h => by rw [kit_row h]; decide +kernel⟩
        obtain ⟨m, e1, e2⟩ := this
        obtain ⟨h1, h2⟩ := kn_ty rn e1
        exact ⟨_, p, _, _, _, b', rfl, upd_same, pc, h1, e2 h2, k _ (.st (.bl b')) _ _ g2 w2 (BR.ofSc rfl) q1⟩
      · exact q1.elim) xl
/-! ### in -/
def D.fl : D → Bool
  | .non => true
  | .int _ => true
  | .str _ => true
  | _ => false
theorem fl_eq {H : Hp} {x y : V} {dx dy : D} (rx : Rep K H x dx) (ry : Rep K H y dy) (hx : dx.fl = true) (hy : dy.fl = true) : flatV x = true ∧ (eqV y x = true ↔ dy = dx) := by
  cases dx <;> first | (simp [D.fl] at hx; done) | (cases dy <;> first | (simp [D.fl] at hy; done) | (cases rx; cases ry; refine ⟨rfl, ?_⟩; simp [eqV]))
theorem inV_rep {H : Hp} {x : V} {dx : D} (rx : Rep K H x dx) (hx : dx.fl = true) : ∀ {xs : List V} {ds : List D}, RepL K H xs ds → ds.all D.fl = true → xs.all flatV = true ∧ (inV x xs = true ↔ dx ∈ ds)
  | [], [], _, _ => ⟨rfl, by simp [inV]⟩
  | [], _ :: _, h, _ => by cases h
  | _ :: _, [], h, _ => by cases h
  | y :: r, d :: rs, h, q => by
    rw [List.all_cons, Bool.and_eq_true] at q
    cases h with
    | cons a b =>
      obtain ⟨h1, h2⟩ := inV_rep rx hx b q.2
      obtain ⟨h3, h4⟩ := fl_eq rx a hx q.1
      obtain ⟨h5, _⟩ := fl_eq a rx q.1 hx
      refine ⟨by rw [List.all_cons, h5, h1]; rfl, ?_⟩
      unfold inV at h2 ⊢
      rw [List.any_cons, Bool.or_eq_true, h4, h2, List.mem_cons]
      constructor
      · rintro (h | h)
        · exact .inl h.symm
        · exact .inr h
      · rintro (h | h)
        · exact .inl h.symm
        · exact .inr h
def fInF (x y : D) (Q : D → Prop) : Prop := match y with
  | .lst ds => x.fl = true ∧ ds.all D.fl = true ∧ ∀ b, (b = true ↔ x ∈ ds) → Q (.bl b)
  | .tup ds => x.fl = true ∧ ds.all D.fl = true ∧ ∀ b, (b = true ↔ x ∈ ds) → Q (.bl b)
  | _ => False
def fNinF (x y : D) (Q : D → Prop) : Prop := match y with
  | .lst ds => x.fl = true ∧ ds.all D.fl = true ∧ ∀ b, (b = true ↔ x ∉ ds) → Q (.bl b)
  | .tup ds => x.fl = true ∧ ds.all D.fl = true ∧ ∀ b, (b = true ↔ x ∉ ds) → Q (.bl b)
  | _ => False
theorem r2_inF : R2S K (rIn K false) fInF := fun H x y dx dy Q Qc rx ry q k => by
  unfold fInF at q
  split at q
  · obtain ⟨hx, hd, q⟩ := q
    obtain ⟨a, xs, rfl, h1, h2⟩ := rep_lst ry
    obtain ⟨h3, h4⟩ := inV_rep rx hx h2 hd
    exact ⟨a, xs, rfl, .inl (SqL.of h1), (fl_eq rx rx hx hx).1, h3, k (.bl (inV x xs)) _ rfl (q _ h4)⟩
  · obtain ⟨hx, hd, q⟩ := q
    obtain ⟨a, xs, rfl, h1, h2⟩ := rep_tup ry
    obtain ⟨h3, h4⟩ := inV_rep rx hx h2 hd
    exact ⟨a, xs, rfl, .inr h1, (fl_eq rx rx hx hx).1, h3, k (.bl (inV x xs)) _ rfl (q _ h4)⟩
  · exact q.elim
theorem not_iff {b : Bool} {p : Prop} (h : b = true ↔ p) : (!b) = true ↔ ¬ p := by
  rw [← h]
  cases b <;> simp
theorem r2_ninF : R2S K (rIn K true) fNinF := fun H x y dx dy Q Qc rx ry q k => by
  unfold fNinF at q
  split at q
  · obtain ⟨hx, hd, q⟩ := q
    obtain ⟨a, xs, rfl, h1, h2⟩ := rep_lst ry
    obtain ⟨h3, h4⟩ := inV_rep rx hx h2 hd
    exact ⟨a, xs, rfl, .inl (SqL.of h1), (fl_eq rx rx hx hx).1, h3, k (.bl (!inV x xs)) _ rfl (q _ (not_iff h4))⟩
  · obtain ⟨hx, hd, q⟩ := q
    obtain ⟨a, xs, rfl, h1, h2⟩ := rep_tup ry
    obtain ⟨h3, h4⟩ := inV_rep rx hx h2 hd
    exact ⟨a, xs, rfl, .inr h1, (fl_eq rx rx hx hx).1, h3, k (.bl (!inV x xs)) _ rfl (q _ (not_iff h4))⟩
  · exact q.elim
def fInS (x y : D) (Q : D → Prop) : Prop := match x, y with
  | .str z, .str s => ∃ c, z = ⟨#[c]⟩ ∧ Q (.bl (decide (c ∈ s.cps.toList)))
  | _, _ => False
theorem r2_inS : R2S K (fun x y H Q => ∃ (c : Nat) (z : Str), x = .str ⟨#[c]⟩ ∧ y = .str z ∧ Q (.bl (decide (c ∈ z.cps.toList))) H) fInS := fun H x y dx dy Q Qc rx ry q k => by
  unfold fInS at q
  split at q
  · obtain ⟨c, rfl, q⟩ := q
    rw [rep_str rx, rep_str ry]
    exact ⟨c, _, rfl, rfl, k _ _ rfl q⟩
  · exact q.elim
/-! ### data that is compared -/
mutual
def D.py : D → Option PyData
  | .non => some .none
  | .bl b => some (.bool b)
  | .int i => some (.int i)
  | .str x => some (.str x)
  | .lst ds => (pyL ds).map .list
  | .tup ds => (pyL ds).map .tuple
  | _ => none
def pyL : List D → Option (List PyData)
  | [] => some []
  | d :: r => match d.py, pyL r with
    | some x, some xs => some (x :: xs)
    | _, _ => none
end
mutual
theorem rep_dp {H : Hp} : ∀ (d : D) {v : V} {p : PyData}, Rep K H v d → d.py = some p → Dp K H v p
  | .non, _, _, r, h => by simp only [D.py, Option.some.injEq] at h; subst h; cases r; exact .non
  | .opq, _, _, r, h => by simp [D.py] at h
  | .bl b, _, _, r, h => by simp only [D.py, Option.some.injEq] at h; subst h; cases r; exact .bl b
  | .int i, _, _, r, h => by simp only [D.py, Option.some.injEq] at h; subst h; cases r; exact .int i
  | .str x, _, _, r, h => by simp only [D.py, Option.some.injEq] at h; subst h; cases r; exact .str x
  | .ty n, _, _, r, h => by simp [D.py] at h
  | .lst ds, _, _, r, h => by
    simp only [D.py] at h
    obtain ⟨ps, e1, e2⟩ := Option.map_eq_some_iff.mp h
    subst e2
    obtain ⟨a, xs, rfl, h1, h2⟩ := rep_lst r
    exact .lst (SqL.of h1) (repL_dp ds h2 e1)
  | .tup ds, _, _, r, h => by
    simp only [D.py] at h
    obtain ⟨ps, e1, e2⟩ := Option.map_eq_some_iff.mp h
    subst e2
    obtain ⟨a, xs, rfl, h1, h2⟩ := rep_tup r
    exact .tup h1 (repL_dp ds h2 e1)
  | .dK _, _, _, r, h => by simp [D.py] at h
  | .dT _, _, _, r, h => by simp [D.py] at h
  | .obj _ _, _, _, r, h => by simp [D.py] at h
theorem repL_dp {H : Hp} : ∀ (ds : List D) {xs : List V} {ps : List PyData}, RepL K H xs ds → pyL ds = some ps → DpAll K H xs ps
  | [], _, _, r, h => by simp only [pyL, Option.some.injEq] at h; subst h; cases r; exact .nil
  | d :: rs, _, _, r, h => by
    cases r with
    | cons a b =>
      simp only [pyL] at h
      split at h
      · rename_i x xs e1 e2
        cases h
        exact .cons (rep_dp d a e1) (repL_dp rs b e2)
      · cases h
end
/-- == by PyData -/
def fEqY (x y : D) (Q : D → Prop) : Prop := ∃ p q, x.py = some p ∧ y.py = some q ∧ SeqAt.shaped p = true ∧ SeqAt.shaped q = true ∧ Q (.bl (PyData.eqv p q))
def fNeY (x y : D) (Q : D → Prop) : Prop := ∃ p q, x.py = some p ∧ y.py = some q ∧ SeqAt.shaped p = true ∧ SeqAt.shaped q = true ∧ Q (.bl (!PyData.eqv p q))
theorem r2_eqY : R2S K (rEqD K) fEqY := fun H x y dx dy Q Qc rx ry ⟨p, q, e1, e2, s1, s2, z⟩ k => ⟨p, q, rep_dp dx rx e1, rep_dp dy ry e2, s1, s2, k _ _ rfl z⟩
theorem r2_neY : R2S K (rNeD K) fNeY := fun H x y dx dy Q Qc rx ry ⟨p, q, e1, e2, s1, s2, z⟩ k => ⟨p, q, rep_dp dx rx e1, rep_dp dy ry e2, s1, s2, k _ _ rfl z⟩
end
/-- plain: no flags in it, small -/
def D.pl : Nat → D → Bool
  | _, .non => true
  | _, .int _ => true
  | _, .str x => PyData.strOk x && decide (x.length ≤ 1000)
  | n + 1, .lst ds => decide (ds.length ≤ 900) && ds.all (D.pl n)
  | n + 1, .tup ds => decide (ds.length ≤ 900) && ds.all (D.pl n)
  | _, _ => false
theorem pl_py : ∀ (n : Nat) (d : D), D.pl n d = true → ∃ p, d.py = some p ∧ Sz n p = true
  | n, .non, _ => ⟨.none, by simp [D.py], by cases n <;> rfl⟩
  | n, .int i, _ => ⟨.int i, by simp [D.py], by cases n <;> rfl⟩
  | n, .str x, h => ⟨.str x, by simp [D.py], by cases n <;> exact h⟩
  | n + 1, .lst ds, h => by
    have h : (decide (ds.length ≤ 900) && ds.all (D.pl n)) = true := h
    rw [Bool.and_eq_true] at h
    have key : ∀ ds : List D, ds.all (D.pl n) = true → ∃ ps, pyL ds = some ps ∧ ps.length = ds.length ∧ ps.all (Sz n) = true := by
      intro ds
      induction ds with
      | nil => intro _; exact ⟨[], by simp [pyL], rfl, rfl⟩
      | cons d r ih =>
        intro h
        rw [List.all_cons, Bool.and_eq_true] at h
        obtain ⟨p, e1, e2⟩ := pl_py n d h.1
        obtain ⟨ps, e3, e4, e5⟩ := ih h.2
        exact ⟨p :: ps, by simp [pyL, e1, e3], by simp [e4], by simp [e2, e5]⟩
    obtain ⟨ps, e1, e2, e3⟩ := key ds h.2
    refine ⟨.list ps, by simp [D.py, e1], ?_⟩
    show (decide (ps.length ≤ 900) && ps.all (Sz n)) = true
    rw [e2, e3, h.1]
    rfl
  | n + 1, .tup ds, h => by
    have h : (decide (ds.length ≤ 900) && ds.all (D.pl n)) = true := h
    rw [Bool.and_eq_true] at h
    have key : ∀ ds : List D, ds.all (D.pl n) = true → ∃ ps, pyL ds = some ps ∧ ps.length = ds.length ∧ ps.all (Sz n) = true := by
      intro ds
      induction ds with
      | nil => intro _; exact ⟨[], by simp [pyL], rfl, rfl⟩
      | cons d r ih =>
        intro h
        rw [List.all_cons, Bool.and_eq_true] at h
        obtain ⟨p, e1, e2⟩ := pl_py n d h.1
        obtain ⟨ps, e3, e4, e5⟩ := ih h.2
        exact ⟨p :: ps, by simp [pyL, e1, e3], by simp [e4], by simp [e2, e5]⟩
    obtain ⟨ps, e1, e2, e3⟩ := key ds h.2
    refine ⟨.tuple ps, by simp [D.py, e1], ?_⟩
    show (decide (ps.length ≤ 900) && ps.all (Sz n)) = true
    rw [e2, e3, h.1]
    rfl
  | 0, .lst _, h => by simp [D.pl] at h
  | 0, .tup _, h => by simp [D.pl] at h
  | n, .bl _, h => by cases n <;> simp [D.pl] at h
  | n, .opq, h => by cases n <;> simp [D.pl] at h
  | n, .ty _, h => by cases n <;> simp [D.pl] at h
  | n, .dK _, h => by cases n <;> simp [D.pl] at h
  | n, .dT _, h => by cases n <;> simp [D.pl] at h
  | n, .obj _ _, h => by cases n <;> simp [D.pl] at h
/-- plain data are equal just if they are the same -/
theorem pl_eq : ∀ (n : Nat) (x y : D) (p q : PyData), D.pl n x = true → D.pl n y = true → x.py = some p → y.py = some q → (PyData.eqv p q = true ↔ x = y) := by
  intro n
  induction n with
  | zero =>
    intro x y p q hx hy e1 e2
    cases x <;> first | (simp [D.pl] at hx; done) | skip
    all_goals (cases y <;> first | (simp [D.pl] at hy; done) | skip)
    all_goals simp only [D.py, Option.some.injEq] at e1 e2
    all_goals (subst e1; subst e2; simp [PyData.eqv])
  | succ n ih =>
    have key : ∀ (ds es : List D) (ps qs : List PyData), ds.all (D.pl n) = true → es.all (D.pl n) = true → pyL ds = some ps → pyL es = some qs → (PyData.eqvAll ps qs = true ↔ ds = es) := by
      intro ds
      induction ds with
      | nil =>
        intro es ps qs _ h2 e1 e2
        simp only [pyL, Option.some.injEq] at e1
        subst e1
        cases es with
        | nil =>
          simp only [pyL, Option.some.injEq] at e2
          subst e2
          simp [PyData.eqvAll]
        | cons d r =>
          simp only [pyL] at e2
          split at e2
          · cases e2
            simp [PyData.eqvAll]
          · cases e2
      | cons d r ihr =>
        intro es ps qs h1 h2 e1 e2
        rw [List.all_cons, Bool.and_eq_true] at h1
        simp only [pyL] at e1
        split at e1
        · rename_i p ps' a1 a2
          cases e1
          cases es with
          | nil =>
            simp only [pyL, Option.some.injEq] at e2
            subst e2
            simp [PyData.eqvAll]
          | cons e s =>
            rw [List.all_cons, Bool.and_eq_true] at h2
            simp only [pyL] at e2
            split at e2
            · rename_i q qs' b1 b2
              cases e2
              simp only [PyData.eqvAll, Bool.and_eq_true, List.cons.injEq]
              rw [ih d e p q h1.1 h2.1 a1 b1, ihr s ps' qs' h1.2 h2.2 a2 b2]
            · cases e2
        · cases e1
    intro x y p q hx hy e1 e2
    cases x <;> first | (simp [D.pl] at hx; done) | skip
    all_goals (cases y <;> first | (simp [D.pl] at hy; done) | skip)
    all_goals simp only [D.py, Option.some.injEq, Option.map_eq_some_iff] at e1 e2
    all_goals first
      | (subst e1; subst e2; simp [PyData.eqv]; done)
      | (obtain ⟨ps, a1, rfl⟩ := e1; obtain ⟨qs, b1, rfl⟩ := e2
         have hx := (Bool.and_eq_true _ _ ▸ hx : _ ∧ _).2
         have hy := (Bool.and_eq_true _ _ ▸ hy : _ ∧ _).2
         first
           | (simp only [PyData.eqv, D.lst.injEq]; exact key _ _ ps qs hx hy a1 b1)
           | (simp only [PyData.eqv, D.tup.injEq]; exact key _ _ ps qs hx hy a1 b1)
           | simp [PyData.eqv])
      | (obtain ⟨ps, a1, rfl⟩ := e1; subst e2; simp [PyData.eqv]; done)
      | (obtain ⟨ps, a1, rfl⟩ := e2; subst e1; simp [PyData.eqv]; done)
def fEqP (x y : D) (Q : D → Prop) : Prop := D.pl 8 x = true ∧ D.pl 8 y = true ∧ ∀ b, (b = true ↔ x = y) → Q (.bl b)
def fNeP (x y : D) (Q : D → Prop) : Prop := D.pl 8 x = true ∧ D.pl 8 y = true ∧ ∀ b, (b = true ↔ x ≠ y) → Q (.bl b)
theorem r2_eqP {K : PySem.W.Frag} : R2S K (rEqD K) fEqP := fun H x y dx dy Q Qc rx ry ⟨h1, h2, q⟩ k => by
  obtain ⟨p, e1, s1⟩ := pl_py 8 dx h1
  obtain ⟨r, e2, s2⟩ := pl_py 8 dy h2
  exact ⟨p, r, rep_dp dx rx e1, rep_dp dy ry e2, sz_shaped s1 (by decide), sz_shaped s2 (by decide), k _ _ rfl (q _ (pl_eq 8 dx dy p r h1 h2 e1 e2))⟩
theorem r2_neP {K : PySem.W.Frag} : R2S K (rNeD K) fNeP := fun H x y dx dy Q Qc rx ry ⟨h1, h2, q⟩ k => by
  obtain ⟨p, e1, s1⟩ := pl_py 8 dx h1
  obtain ⟨r, e2, s2⟩ := pl_py 8 dy h2
  exact ⟨p, r, rep_dp dx rx e1, rep_dp dy ry e2, sz_shaped s1 (by decide), sz_shaped s2 (by decide), k _ _ rfl (q _ (not_iff (pl_eq 8 dx dy p r h1 h2 e1 e2)))⟩
/-- x in a list of plain data -/
def fInP (x y : D) (Q : D → Prop) : Prop := match y with
  | .lst ds => D.pl 8 x = true ∧ D.pl 8 (.lst ds) = true ∧ ∀ b, (b = true ↔ x ∈ ds) → Q (.bl b)
  | _ => False
def fNinP (x y : D) (Q : D → Prop) : Prop := match y with
  | .lst ds => D.pl 8 x = true ∧ D.pl 8 (.lst ds) = true ∧ ∀ b, (b = true ↔ x ∉ ds) → Q (.bl b)
  | _ => False
theorem pl_succ : ∀ (n : Nat) (d : D), D.pl n d = true → D.pl (n + 1) d = true
  | n, .non, h => rfl
  | n, .int _, h => rfl
  | n, .str x, h => by cases n <;> exact h
  | n + 1, .lst ds, h => by
    have h : (decide (ds.length ≤ 900) && ds.all (D.pl n)) = true := h
    rw [Bool.and_eq_true, List.all_eq_true] at h
    show (decide (ds.length ≤ 900) && ds.all (D.pl (n + 1))) = true
    rw [Bool.and_eq_true, List.all_eq_true]
    exact ⟨h.1, fun d hd => pl_succ n d (h.2 d hd)⟩
  | n + 1, .tup ds, h => by
    have h : (decide (ds.length ≤ 900) && ds.all (D.pl n)) = true := h
    rw [Bool.and_eq_true, List.all_eq_true] at h
    show (decide (ds.length ≤ 900) && ds.all (D.pl (n + 1))) = true
    rw [Bool.and_eq_true, List.all_eq_true]
    exact ⟨h.1, fun d hd => pl_succ n d (h.2 d hd)⟩
  | 0, .lst _, h => by simp [D.pl] at h
  | 0, .tup _, h => by simp [D.pl] at h
  | n, .bl _, h => by cases n <;> simp [D.pl] at h
  | n, .opq, h => by cases n <;> simp [D.pl] at h
  | n, .ty _, h => by cases n <;> simp [D.pl] at h
  | n, .dK _, h => by cases n <;> simp [D.pl] at h
  | n, .dT _, h => by cases n <;> simp [D.pl] at h
  | n, .obj _ _, h => by cases n <;> simp [D.pl] at h
theorem pl_le {m n : Nat} (h : m ≤ n) {d : D} (s : D.pl m d = true) : D.pl n d = true := by
  induction h with
  | refl => exact s
  | step _ ih => exact pl_succ _ _ ih
theorem pl_lst {n : Nat} {ds : List D} (h : ds.length ≤ 900) (q : ∀ d ∈ ds, D.pl n d = true) : D.pl (n + 1) (.lst ds) = true := by
  show (decide (ds.length ≤ 900) && ds.all (D.pl n)) = true
  rw [Bool.and_eq_true, List.all_eq_true]
  exact ⟨decide_eq_true h, q⟩
theorem pl_tup {n : Nat} {ds : List D} (h : ds.length ≤ 900) (q : ∀ d ∈ ds, D.pl n d = true) : D.pl (n + 1) (.tup ds) = true := by
  show (decide (ds.length ≤ 900) && ds.all (D.pl n)) = true
  rw [Bool.and_eq_true, List.all_eq_true]
  exact ⟨decide_eq_true h, q⟩
theorem pl_lstE {n : Nat} {ds : List D} (h : D.pl (n + 1) (.lst ds) = true) : ds.length ≤ 900 ∧ ∀ d ∈ ds, D.pl n d = true := by
  have h : (decide (ds.length ≤ 900) && ds.all (D.pl n)) = true := h
  rw [Bool.and_eq_true, List.all_eq_true] at h
  exact ⟨of_decide_eq_true h.1, h.2⟩
theorem pl_name {n : Nat} {z : Str} (h : NameOk z) : D.pl n (.str z) = true := by
  have : (PyData.strOk z && decide (z.length ≤ 1000)) = true := by
    rw [name_sok h, decide_eq_true (Nat.le_trans h.2.1 (by decide))]
    rfl
  cases n <;> exact this
theorem any_pl {x : D} {p : PyData} (hx : D.pl 8 x = true) (e1 : x.py = some p) : ∀ {ds : List D} {ps : List PyData}, (∀ d ∈ ds, D.pl 8 d = true) → pyL ds = some ps → ((ps.any fun z => PyData.eqv z p) = true ↔ x ∈ ds)
  | [], ps, _, h => by
    simp only [pyL, Option.some.injEq] at h
    subst h
    simp
  | d :: r, ps, hd, h => by
    simp only [pyL] at h
    split at h
    · rename_i q qs b1 b2
      cases h
      rw [List.any_cons, Bool.or_eq_true, any_pl hx e1 (fun d h => hd d (by simp [h])) b2, pl_eq 8 d x q p (hd d (by simp)) hx b1 e1, List.mem_cons]
      constructor
      · rintro (h | h)
        · exact .inl h.symm
        · exact .inr h
      · rintro (h | h)
        · exact .inl h.symm
        · exact .inr h
    · cases h
theorem r2_inP {K : PySem.W.Frag} : R2S K (rInD K) fInP := fun H x y dx dy Q Qc rx ry q k => by
  unfold fInP at q
  split at q
  · rename_i ds
    obtain ⟨h1, h2, q⟩ := q
    obtain ⟨p, e1, s1⟩ := pl_py 8 dx h1
    obtain ⟨r, e2, s2⟩ := pl_py 8 _ h2
    have e2' := e2
    simp only [D.py, Option.map_eq_some_iff] at e2
    obtain ⟨ps, e3, rfl⟩ := e2
    exact ⟨p, ps, rep_dp dx rx e1, rep_dp _ ry e2', sz_shaped s1 (by decide), sz_shaped s2 (by decide), k _ _ rfl (q _ (any_pl h1 e1 (fun d hd => pl_succ 7 d ((pl_lstE h2).2 d hd)) e3))⟩
  · exact q.elim
theorem r2_ninP {K : PySem.W.Frag} : R2S K (rNotInD K) fNinP := fun H x y dx dy Q Qc rx ry q k => by
  unfold fNinP at q
  split at q
  · rename_i ds
    obtain ⟨h1, h2, q⟩ := q
    obtain ⟨p, e1, s1⟩ := pl_py 8 dx h1
    obtain ⟨r, e2, s2⟩ := pl_py 8 _ h2
    have e2' := e2
    simp only [D.py, Option.map_eq_some_iff] at e2
    obtain ⟨ps, e3, rfl⟩ := e2
    exact ⟨p, ps, rep_dp dx rx e1, rep_dp _ ry e2', sz_shaped s1 (by decide), sz_shaped s2 (by decide), k _ _ rfl (q _ (not_iff (any_pl h1 e1 (fun d hd => pl_succ 7 d ((pl_lstE h2).2 d hd)) e3)))⟩
  · exact q.elim
end WW

set_option Elab.async false
set_option linter.all false
set_option maxRecDepth 100000
set_option maxHeartbeats 4000000
namespace WW
open PySem PySem.Spec PyProof.Rows L2
/-! ### dicts that may be locked: len, list, copy -/
section
variable {X : Cx}
def rLenRd : List V → Hp → VK → Prop := fun xs H Q => ∃ a kvs, xs = [V.ref a] ∧ Rd H a (.dK kvs) ∧ Q (.int (kvs.length : Nat)) H
theorem cr_lenRd : CallR X (.builtin "len") rLenRd := by
  intro pins s σ H xs us Q I r h
  obtain ⟨a, kvs, rfl, ha, q⟩ := h
  obtain ⟨u, rfl, ru⟩ := vals1 r
  cases ru
  exact d_len I ha fun t s' I' => ⟨.int kvs.length, H, I', ⟨t, rfl⟩, q⟩
def rListRd : List V → Hp → VK → Prop := fun xs H Q => ∃ p kvs, xs = [.ref p] ∧ Rd H p (.dK kvs) ∧ ∀ q, H q = none → Q (.ref q) (upd H q (.lst (kvs.map fun kv => kV kv.1)))
theorem cr_listRd (hc : X.calm = true) : CallR X (.type "list") rListRd := by
  intro pins s σ H xs us Q I r h
  obtain ⟨p, kvs, e, hk, q⟩ := h
  subst e
  obtain ⟨u, eu, rx⟩ := vals1 r
  subst eu
  obtain rfl : u = Value.ref p := rx
  obtain ⟨z, lo, vs, rk, hd⟩ := (show ObjOk X.prog X.w H s.heap p (.dK kvs) from Rd.ok hk I.hok)
  obtain ⟨ep, hat⟩ := hd.dictAt
  have hl : kvs.length = vs.length := Paired.length rk
  refine PySem.W.kdl_call (PySem.W.kdl_dict (knd := mixKind X.prog X.w) (kvs := vs) (ep := ep) lo) (I.ok.hd hc) hat (by rw [← hl]; exact z) fun h' tk acc' c' hkeep hS hacc => ?_
  refine ⟨.ref s.heap.objs.size, upd H s.heap.objs.size (.lst (kvs.map fun kv => kV kv.1)), I.laid hkeep (Nat.le_refl _) (show ObjOk X.prog X.w _ _ _ (.lst (kvs.map fun kv => kV kv.1)) from ⟨?_, acc'.toList, c', ?_, ?_⟩), rfl, q _ (I.hok.fresh (Nat.le_refl _))⟩
  · rw [List.length_map]; exact z
  · have el : acc'.toList.length = acc'.size := by simp
    refine vals_of_at (by rw [List.length_map, el, hacc.1, hl]) fun j x w h1 h2 => ?_
    obtain ⟨k, y, hky, hi⟩ := hacc.2 j w (by rw [← Array.getElem?_toList]; exact h2)
    have e1 : (kvs.map (·.1))[j]? = some k := by
      rw [KV.keys rk, List.getElem?_map, hky] <;> rfl
    have e2 : (kvs.map fun kv => kV kv.1)[j]? = some (kV k) := by
      have e3 : (kvs.map fun kv => kV kv.1) = (kvs.map (·.1)).map kV := by rw [List.map_map] <;> rfl
      rw [e3, List.getElem?_map, e1] <;> rfl
    rw [e2] at h1
    cases h1
    exact keyIs_rel hi
  · rw [Array.toArray_toList]; exact hS
theorem callR_or {f : Value} {r1 r2 : List V → Hp → VK → Prop} (h1 : CallR X f r1) (h2 : CallR X f r2) : CallR X f (fun xs H Q => r1 xs H Q ∨ r2 xs H Q) := by
  intro pins s σ H xs us Q I r h
  rcases h with h | h
  · exact h1 pins s σ H xs us Q I r h
  · exact h2 pins s σ H xs us Q I r h
def rListLT (K : PySem.W.Frag) : List V → Hp → VK → Prop := fun xs H Q => ∃ p ys, xs = [.ref p] ∧ (SqL K H p ys ∨ SqT K H p ys) ∧ ∀ l, H l = none → Q (.ref l) (upd H l (.lst ys))
def rListAny (K : PySem.W.Frag) : List V → Hp → VK → Prop := fun xs H Q => rListLT K xs H Q ∨ rListRd xs H Q
theorem cr_listAny (hc : X.calm = true) : CallR X (.type "list") (rListAny X.K) := callR_or call_list_of (cr_listRd hc)
def tCopyR (te : TE) : TE := fun σ H Q => te σ H fun x H1 => ∃ a kvs, x = .ref a ∧ Rd H1 a (.dK kvs) ∧ ∀ p, H1 p = none → Q (.ref p) (upd H1 p (.dK kvs))
theorem mt_copyRd : MtR X "dict.copy" (fun x xs H Q => ∃ (a : Addr) (kvs : List (Key × V)), x = .ref a ∧ xs = [] ∧ Rd H a (.dK kvs) ∧ ∀ p, H p = none → Q (.ref p) (upd H p (.dK kvs))) := by
  intro pins s σ H x xs v us Q I rx rs h
  obtain ⟨a, kvs, rfl, rfl, ha, q⟩ := h
  cases rs
  obtain rfl : v = Value.ref a := rx
  obtain ⟨z, hd, vs, rel, dd⟩ := dk_rd I.hok ha
  refine call_meetsIn PySem.F.slot_dict_copy dd.typeIs PySem.F.entry_dict_copy (PySem.F.args_dict_copy_1 _) (meets_dict_copy (mixKind X.prog X.w) a hd) ⟨vs, dd, by rw [← rel.length]; exact z, fun h' dd' _ hs => ?_⟩
  have hn := I.hok.fresh (Nat.le_refl s.heap.objs.size)
  refine ⟨.ref s.heap.objs.size, _, I.laid (a := s.heap.objs.size) (o := .dK kvs) (t' := s.toks) hs (Nat.le_refl _) (dk_new z (beq_eq_false_iff_ne.mpr (Ne.symm (Nat.ne_of_lt I.big))) rel dd'), rfl, q _ hn⟩
theorem pe_copyR {o : Expr} {te : TE} {apos cpos : Pos} (ho : PE X o te) (hbase : attributeBase o "copy" X.env (eval o X.env) = eval o X.env := by rfl) (hline : (apos.endLine == cpos.line) = true := by rfl) :
    PE X (.Call (.Attribute o "copy" apos) [] [] cpos) (tCopyR te) := by
  refine ⟨fun pins s σ H Q I h => ?_⟩
  refine wpAny_Call_method0_late hbase hline (thn (ho.run pins s σ H _ I h) fun v s1 ⟨x, H1, I1, r1, a, kvs, ex, ha, q⟩ => ?_)
  subst ex
  obtain rfl : v = Value.ref a := r1
  obtain ⟨_, _, _, _, o', _, _, e, ex, _⟩ := (show ObjOk X.prog X.w H1 s1.heap a (.dK kvs) from Rd.ok ha I1.hok)
  exact ⟨"dict", "dict.copy", PySem.F.plainAttrs_dict, PySem.F.slot_dict_copy, PySem.F.type_dict_copy, ⟨o', e, ex.1⟩, (fun b eb => by cases eb; exact ⟨o', e, ex.2.1⟩), Calls.callWith_builtin rfl (PySem.evalArgs_none (mt_copyRd pins s1 σ H1 (.ref a) [] (.ref a) [] Q I1 rfl .nil ⟨a, kvs, rfl, rfl, ha, q⟩))⟩
end
section
variable {K : PySem.W.Frag} {W : WX} {ta tb te td ty tv : TE} {aa ab ae ad ay av : AE}
theorem rc_lenD : RC1 K rLenRd fLenD := fun H x dx Q Qc rx q k => by
  unfold fLenD at q
  split at q
  · rename_i ds
    obtain ⟨a, kvs, rfl, h1, h2, h3⟩ := rep_dK rx
    have : kvs.length = ds.length := by simpa using congrArg List.length h2
    exact ⟨a, kvs, rfl, h1, by rw [this]; exact k _ _ rfl q⟩
  · exact q.elim
theorem solid_dK {o : Option Addr} {H0 S H : Hp} {v : V} {b : B} {kds : List (Key × D)} (w : Wl o S H) (h : BR K o H0 S H v b) (e : b.solid = some (.dK kds)) : ∃ a kvs, v = .ref a ∧ Rd H a (.dK kvs) ∧ kvs.map (·.1) = kds.map (·.1) ∧ RepL K S (kvs.map (·.2)) (kds.map (·.2)) := by
  cases b with
  | st d =>
    cases e
    obtain ⟨a, xs, e1, e2, e3, e4⟩ := rep_dK h
    exact ⟨a, xs, e1, Same.rd w.1 e2, e3, e4⟩
  | ow a d =>
    cases e
    obtain ⟨e1, _, _, t⟩ := h
    generalize hx : H a = x at t
    cases t with
    | dK r1 r2 => exact ⟨a, _, e1, Rd.of hx, r1, r2⟩
  | _ => cases e
theorem keys_rep {S : Hp} {kvs : List (Key × V)} {kds : List (Key × D)} (h : kvs.map (·.1) = kds.map (·.1)) : RepL K S (kvs.map fun kv => kV kv.1) (kds.map fun kd => kD kd.1) := by
  have e1 : (kvs.map fun kv => kV kv.1) = (kvs.map (·.1)).map kV := by rw [List.map_map]; rfl
  have e2 : (kds.map fun kv => kD kv.1) = (kds.map (·.1)).map kD := by rw [List.map_map]; rfl
  rw [e1, e2, h]
  generalize kds.map (·.1) = ks
  induction ks with
  | nil => exact .nil
  | cons k r ih =>
    refine .cons ?_ ih
    cases k with
    | inl i => exact .int i
    | inr x => exact .str x
/-- list(x), x a list, a tuple or a dict -/
def aListAny (a : AE) (ax : AX) (env : AEnv) (Q : D → Prop) : Prop := a ax env fun x => match x.solid with
  | some (.lst ds) => Q (.lst ds)
  | some (.tup ds) => Q (.lst ds)
  | some (.dK kvs) => Q (.lst (kvs.map fun kv => kD kv.1))
  | _ => False
theorem en_listAny (ha : EA K W ta aa) : EN K W (tCB (rListAny K) (tCons ta tNil)) (aListAny aa) := fun o H0 S H σ env ax Q Qc es q k xl =>
  ha o H0 S H σ env ax _ _ es q (fun v b S1 H1 g1 w1 r1 q1 => by
    have fin : ∀ {ys : List V} {ds : List D}, RepL K S1 ys ds → Q (.lst ds) → ∀ l, H1 l = none → Qc (.ref l) (upd H1 l (.lst ys)) := fun {ys ds} h q l hl => by
      have ns := w1.1.free hl
      refine k l (.lst ds) S1 _ (g1.trans (GrO.lay hl)) (w1.put ns (w1.np hl)) (g1.bk hl) ns ?_ q
      rw [upd_same]
      exact .lst h
    split at q1
    · rename_i ds e
      obtain ⟨a, xs, rfl, h1, h2⟩ := solid_lst w1 r1 e
      exact .inl ⟨a, xs, rfl, .inl (SqL.of h1), fin h2 q1⟩
    · rename_i ds e
      obtain ⟨a, xs, rfl, h1, h2⟩ := solid_tup w1 r1 e
      exact .inl ⟨a, xs, rfl, .inr h1, fin h2 q1⟩
    · rename_i kds e
      obtain ⟨a, kvs, rfl, h1, h2, h3⟩ := solid_dK w1 r1 e
      exact .inr ⟨a, kvs, rfl, h1, fin (keys_rep h2) q1⟩
    · exact q1.elim) xl
def aListDK (a : AE) (ax : AX) (env : AEnv) (Q : D → Prop) : Prop := a ax env fun x => match x.solid with
  | some (.dK kvs) => Q (.lst (kvs.map fun kv => kD kv.1))
  | _ => False
theorem en_listDK (ha : EA K W ta aa) : EN K W (tCB rListRd (tCons ta tNil)) (aListDK aa) := fun o H0 S H σ env ax Q Qc es q k xl =>
  ha o H0 S H σ env ax _ _ es q (fun v b S1 H1 g1 w1 r1 q1 => by
    split at q1
    · rename_i kds e
      obtain ⟨a, kvs, rfl, h1, h2, h3⟩ := solid_dK w1 r1 e
      refine ⟨a, kvs, rfl, h1, fun l hl => ?_⟩
      have ns := w1.1.free hl
      refine k l _ S1 _ (g1.trans (GrO.lay hl)) (w1.put ns (w1.np hl)) (g1.bk hl) ns ?_ q1
      rw [upd_same]
      exact .lst (keys_rep h2)
    · exact q1.elim) xl
/-- d.copy(), dict(d) -/
def aCopyD (a : AE) (ax : AX) (env : AEnv) (Q : D → Prop) : Prop := a ax env fun x => match x.solid with
  | some (.dK kvs) => Q (.dK kvs)
  | _ => False
theorem en_copyD (ha : EA K W ta aa) : EN K W (tCopyR ta) (aCopyD aa) := fun o H0 S H σ env ax Q Qc es q k xl =>
  ha o H0 S H σ env ax _ _ es q (fun v b S1 H1 g1 w1 r1 q1 => by
    split at q1
    · rename_i kds e
      obtain ⟨a, kvs, rfl, h1, h2, h3⟩ := solid_dK w1 r1 e
      refine ⟨a, kvs, rfl, h1, fun l hl => ?_⟩
      have ns := w1.1.free hl
      refine k l _ S1 _ (g1.trans (GrO.lay hl)) (w1.put ns (w1.np hl)) (g1.bk hl) ns ?_ q1
      rw [upd_same]
      exact .dK h2 h3
    · exact q1.elim) xl
/-! ### sorted -/
def sortS (zs : List Str) : List Str := (insAll zs).mergeSort leS
theorem en_newL {o : Option Addr} {S H S1 H1 : Hp} {xs : List V} {ds : List D} {Q : D → Prop} {Qc : VK} (g1 : GrO o S H S1 H1) (w1 : Wl o S1 H1) (k : ∀ a d S' H', GrO o S H S' H' → Wl o S' H' → H a = none → S' a = none → Top K S' (H' a) d → Q d → Qc (.ref a) H')
    (h : RepL K S1 xs ds) (q : Q (.lst ds)) : ∀ l, H1 l = none → Qc (.ref l) (upd H1 l (.lst xs)) := fun l hl => by
  have ns := w1.1.free hl
  refine k l _ S1 _ (g1.trans (GrO.lay hl)) (w1.put ns (w1.np hl)) (g1.bk hl) ns ?_ q
  rw [upd_same]
  exact .lst h
theorem en_sortSet {P : Program} {w : World} (ha : EA K W ta aa) : EN K W (tCB (rSortedSt P w) (tCons (tCB (rSetOfS K P w) (tCons ta tNil)) tNil)) (aSortSet aa) := fun o H0 S H σ env ax Q Qc es q k xl =>
  ha o H0 S H σ env ax _ _ es q (fun v b S1 H1 g1 w1 r1 q1 => by
    split at q1
    · rename_i ds e
      obtain ⟨zs, rfl, h1, h2, q1⟩ := q1
      have rn := r1.now w1 (g1.kp es.kp)
      rw [e] at rn
      obtain ⟨a, xs, rfl, h3, h4⟩ := rep_lst rn
      rw [repL_strs h4] at h3
      refine ⟨a, zs, rfl, SqL.of h3, h1, fun s hs => ⟨s, insAll zs, rfl, upd_same, fun p ys hp hf => ?_⟩⟩
      have w2 : Wl o S1 (upd H1 s (SetKo P w s ((insAll zs).map Sum.inr))) := w1.put (w1.1.free hs) (w1.np hs)
      rw [srtD_strs, sortS_perm hp]
      exact en_newL (g1.trans (GrO.lay hs)) w2 k (repL_ofStrs _) q1 p hf
    · exact q1.elim) xl
def aLenSet (a : AE) (ax : AX) (env : AEnv) (Q : B → Prop) : Prop := a ax env fun x => match x.get with
  | .lst ds => ∃ zs : List Str, ds = zs.map D.str ∧ zs.length ≤ 100 ∧ Q (.st (.int ((insAll zs).length : Nat)))
  | .tup ds => ∃ zs : List Str, ds = zs.map D.str ∧ zs.length ≤ 100 ∧ Q (.st (.int ((insAll zs).length : Nat)))
  | _ => False
/-- sorted(d), its keys texts -/
def aSortDK (a : AE) (ax : AX) (env : AEnv) (Q : D → Prop) : Prop := a ax env fun x => match x.get with
  | .dK kvs => ∃ ks : List Str, kvs.map (·.1) = ks.map Sum.inr ∧ ks.length < 64 ∧ Q (.lst ((ks.mergeSort leS).map D.str))
  | _ => False
theorem en_sortDK (ha : EA K W ta aa) : EN K W (tCB (fun xs H Q => ∃ (a : Addr) (kvs : List (Key × V)) (ks : List Str), xs = [.ref a] ∧ Rd H a (.dK kvs) ∧ kvs.map (·.1) = ks.map Sum.inr ∧ ks.length < 64 ∧
    ∀ ys p, ys.Perm ks → sortedS ys = true → H p = none → Q (.ref p) (upd H p (.lst (ys.map V.str)))) (tCons ta tNil)) (aSortDK aa) := fun o H0 S H σ env ax Q Qc es q k xl =>
  ha o H0 S H σ env ax _ _ es q (fun v b S1 H1 g1 w1 r1 q1 => by
    split at q1
    · rename_i kds e
      obtain ⟨ks, e1, e2, q1⟩ := q1
      have rn := r1.now w1 (g1.kp es.kp)
      rw [e] at rn
      obtain ⟨a, kvs, rfl, h3, h4, h5⟩ := rep_dK rn
      refine ⟨a, kvs, ks, rfl, h3, h4.trans e1, e2, fun ys p hp hs hf => ?_⟩
      rw [sorted_eq hp hs]
      exact en_newL g1 w1 k (repL_ofStrs _) q1 p hf
    · exact q1.elim) xl
/-- sorted(xs), xs texts -/
def aSortS (a : AE) (ax : AX) (env : AEnv) (Q : D → Prop) : Prop := a ax env fun x => match x.get with
  | .lst ds => ∃ zs : List Str, ds = zs.map D.str ∧ (∀ z ∈ zs, NameOk z) ∧ Q (.lst ((zs.mergeSort leS).map D.str))
  | .tup ds => ∃ zs : List Str, ds = zs.map D.str ∧ (∀ z ∈ zs, NameOk z) ∧ Q (.lst ((zs.mergeSort leS).map D.str))
  | _ => False
theorem en_sortS (ha : EA K W ta aa) : EN K W (tCB (rSortedQ K) (tCons ta tNil)) (aSortS aa) := fun o H0 S H σ env ax Q Qc es q k xl =>
  ha o H0 S H σ env ax _ _ es q (fun v b S1 H1 g1 w1 r1 q1 => by
    have rn := r1.now w1 (g1.kp es.kp)
    have fin : ∀ (a : Addr) (zs : List Str), (SqL K H1 a (zs.map V.str) ∨ SqT K H1 a (zs.map V.str)) → (∀ z ∈ zs, NameOk z) → Q (.lst ((zs.mergeSort leS).map D.str)) → rSortedQ K [.ref a] H1 Qc := fun a zs h hz q => by
      have e1 : (zs.map fun z => (V.str z, PyData.str z)).map (·.1) = zs.map V.str := by rw [List.map_map]; rfl
      have e2 : (zs.map fun z => (V.str z, PyData.str z)).map (·.2) = zs.map PyData.str := by rw [List.map_map]; rfl
      refine ⟨a, zs.map fun z => (V.str z, PyData.str z), rfl, by rw [e1]; exact h, fun x hx => ?_, ?_, ?_, fun x hx => ?_, ?_⟩
      · obtain ⟨z, _, rfl⟩ := List.mem_map.mp hx
        exact .str z
      · rw [e2]
        exact (show (strP zs).map (·.2) = zs.map PyData.str by unfold strP; rw [List.map_map]; rfl) ▸ (strP_ok zs).1
      · rw [e2]
        exact (show (strP zs).map (·.2) = zs.map PyData.str by unfold strP; rw [List.map_map]; rfl) ▸ (strP_ok zs).2
      · obtain ⟨z, _, rfl⟩ := List.mem_map.mp hx
        simp [PyData.depth]
      · rw [srtD_strs]
        exact en_newL g1 w1 k (repL_ofStrs _) q
    split at q1
    · rename_i ds e
      obtain ⟨zs, rfl, hz, q1⟩ := q1
      rw [e] at rn
      obtain ⟨a, xs, rfl, h1, h2⟩ := rep_lst rn
      rw [repL_strs h2] at h1
      exact fin a zs (.inl (SqL.of h1)) hz q1
    · rename_i ds e
      obtain ⟨zs, rfl, hz, q1⟩ := q1
      rw [e] at rn
      obtain ⟨a, xs, rfl, h1, h2⟩ := rep_tup rn
      rw [repL_strs h2] at h1
      exact fin a zs (.inr h1) hz q1
    · exact q1.elim) xl
end
end WW

set_option Elab.async false
set_option linter.all false
set_option maxRecDepth 100000
set_option maxHeartbeats 4000000
namespace WW
open PySem PySem.Spec PyProof.Rows L2
/-! ### a dict walked by its keys in a comprehension: it is locked, unless it is already -/
section
variable {X : Cx}
def tLockR (t : TE) : TE := fun σ H Q => tLockE t σ H Q ∨ t σ H Q
theorem pe_lockR {e : Expr} {t : TE} (h : PE X e t) : PE X e (tLockR t) := ⟨fun pins s σ H Q I hw => by
  rcases hw with hw | hw
  · exact (pe_lock h).run pins s σ H Q I hw
  · exact h.run pins s σ H Q I hw⟩
end
def lk (d : Addr) (od : Obj) (H : Hp) : Hp := fun a => if a = d then (H a).map fun u => .frz od u else H a
section
variable {d : Addr} {od : Obj} {H S : Hp} {a : Addr} {u : HO}
theorem lk_ne (h : a ≠ d) : lk d od H a = H a := if_neg h
theorem lk_at (h : H d = some u) : lk d od H d = some (.frz od u) := by
  unfold lk
  rw [if_pos rfl, h]
  rfl
theorem lk_upd (h : H d = some u) : lk d od H = upd H d (.frz od u) := by
  funext a
  by_cases q : a = d
  · subst q; rw [lk_at h, upd_same]
  · rw [lk_ne q, upd_ne q]
theorem lk_none : lk d od H a = none ↔ H a = none := by
  unfold lk
  split
  · cases H a <;> simp
  · exact Iff.rfl
theorem lk_same (s : Same S H) : Same (lk d od S) (lk d od H) := fun a u h => by
  by_cases q : a = d
  · subst q
    cases e : S a with
    | none => rw [lk_none.mpr e] at h; cases h
    | some w =>
      rw [lk_at e] at h
      rw [lk_at (s _ _ e)]
      exact h
  · rw [lk_ne q] at h ⊢
    exact s _ _ h
theorem lk_le {kvs : List (Key × V)} (hd : ∀ u, H d = some u → u = .dK kvs) : Le H (lk d od H) := by
  have key : ∀ a u, (∀ kvs, u ≠ .dK kvs) → Rd H a u → Rd (lk d od H) a u := fun a u hu h => by
    have ne : a ≠ d := fun e => by
      subst e
      rcases h with h | ⟨o, h⟩
      · exact hu kvs (hd _ h)
      · cases hd _ h
    rcases h with h | ⟨o, h⟩
    · exact .inl ((lk_ne ne).trans h)
    · exact .inr ⟨o, (lk_ne ne).trans h⟩
  refine ⟨fun a xs h => key a _ (fun _ e => by cases e) h, fun a ks h => ?_, fun a xs h => key a _ (fun _ e => by cases e) h, fun a C dx fs h => ?_, fun a xs h => ?_⟩
  · by_cases q : a = d
    · subst q
      rcases h with h | ⟨o, h⟩
      · exact .inr ⟨od, lk_at h⟩
      · cases hd _ h
    · rcases h with h | ⟨o, h⟩
      · exact .inl ((lk_ne q).trans h)
      · exact .inr ⟨o, (lk_ne q).trans h⟩
  · rw [lk_ne (fun e => by subst e; cases hd _ h)]
    exact h
  · rw [lk_ne (fun e => by subst e; cases hd _ h)]
    exact h
end
section
variable {K : PySem.W.Frag} {W : WX} {ta tb te td ty tv : TE} {aa ab ae ad ay av : AE}
/-- an expression that changes nothing, whatever of its dicts is locked -/
def EPu (K : PySem.W.Frag) (td : TE) (ad : AE) : Prop := ∀ o H0 S H σ env ax Q, ES K o H0 S H σ env → ad ax env Q → ∃ v b, BR K o H0 S H v b ∧ Q b ∧ ∀ H' Qc, (∀ a C dx fs, H a = some (.ins C dx fs) → H' a = some (.ins C dx fs)) → Qc v H' → td σ H' Qc
theorem ep_var (i : Nat) : EPu K (tVar i) (aVar i) := fun o H0 S H σ env ax Q es q => by
  unfold aVar at q
  split at q
  · rename_i b hb
    obtain ⟨v, h1, h2⟩ := es.sl i b hb
    exact ⟨v, b, h2, q, fun H' Qc _ k => ⟨v, h1, k⟩⟩
  · exact q.elim
theorem ep_fld {f : Str} (ha : EPu K ta aa) : EPu K (tFld K ta f) (aFld K f aa) := fun o H0 S H σ env ax Q es q => by
  obtain ⟨v, b, r, q, k⟩ := ha o H0 S H σ env ax _ es q
  split at q
  · rename_i C fds e
    obtain ⟨c1, c2, d, hd, q⟩ := q
    obtain ⟨a, dx, fs, rfl, h1, h2, S', h3, h4⟩ := r.obj es.wl es.kp e
    obtain ⟨v, e1, e2⟩ := lookup_rep h2 h3 hd
    exact ⟨v, b.sub d, h4 v d e2, q, fun H' Qc hi kc => k H' _ hi ⟨a, C, dx, fs, v, rfl, hi _ _ _ _ h1, c1, c2, e1, kc⟩⟩
  · exact q.elim
def aLcK (ad : AE) (g : B → AEnv → (AEnv → Prop) → Prop) (ct : AT) (ae : AE) (vs : List Nat) (ax : AX) (env : AEnv) (Q : D → Prop) : Prop := ad ax env fun x => match x with
  | .st (.dK kvs) => kvs.length ≤ 1000 ∧ aCol g ct ae (fun _ _ _ => True) (awipe env vs) (kvs.map fun kv => .st (kD kv.1)) [] fun ds => Q (.lst ds)
  | _ => False
theorem kD_rep {S : Hp} (k : Key) : Rep K S (kV k) (kD k) := by
  cases k with
  | inl i => exact .int i
  | inr x => exact .str x
theorem wk_keys {o : Option Addr} {H0 S1 : Hp} {d : Addr} {od : Obj} {kvs : List (Key × V)} {kds : List (Key × D)} (hS : S1 d = some (.frz od (.dK kvs))) (hk : kvs.map (·.1) = kds.map (·.1)) : WkA K o H0 S1 (Itk d od kvs) (kds.map fun kd => .st (kD kd.1)) := by
  have hl : kvs.length = kds.length := by simpa using congrArg List.length hk
  refine ⟨fun i S H hi s w _ => ⟨w.1 _ _ (s _ _ hS), by rw [List.length_map] at hi; omega⟩, fun S H s w _ => ⟨w.1 _ _ (s _ _ hS), by rw [List.length_map]; omega⟩, fun i S H x H' hi s w kp y => ?_⟩
  rw [List.length_map] at hi
  obtain ⟨rfl, k, v, e1, rfl⟩ := walk_keys.yields i H x H' (by omega) (w.1 _ _ (s _ _ hS)) y
  refine ⟨S, .st (kD k), ?_, rfl, GrO.refl, w, kD_rep k⟩
  have e2 : (kds.map (·.1))[i]? = some k := by
    rw [← hk, List.getElem?_map, e1]
    rfl
  rw [List.getElem?_map] at e2 ⊢
  obtain ⟨kd, e3, rfl⟩ := Option.map_eq_some_iff.mp e2
  rw [e3]
  rfl
theorem en_lcK {g : TG} {js : List Nat} {ag : B → AEnv → (AEnv → Prop) → Prop} {tt : TT} {ct : AT} {te : TE} {ae : AE} {vs : List Nat} (hp : EPu K td ad) (hg : GA K js g ag) (ht : ET K W1 tt ct) (he : EA K W1 te ae) (hj : ∀ j ∈ js, j ∈ vs := by decide) :
    EN K W (tLockR (tLc (iKeysR td) g tt te vs)) (aLcK ad ag ct ae vs) := fun o H0 S H σ env ax Q Qc es q k xl => by
  obtain ⟨v, b, r, q, kd⟩ := hp o H0 S H σ env ax _ es q
  split at q
  · rename_i kds
    obtain ⟨d, kvs, rfl, h1, h2, h3⟩ := rep_dK r
    have hlen : (kds.map fun kd => B.st (kD kd.1)).length = kds.length := List.length_map ..
    rcases h1 with h1 | ⟨od, h1⟩
    · left
      have hd := es.wl.1 _ _ h1
      refine ⟨d, .dK kvs, hd, trivial, fun od => ?_⟩
      have npd : o ≠ some d := fun e => by
        obtain ⟨_, _, g, s, cur, cnt, gs, ns, hp, _⟩ := es.wl.2 d e
        rw [hd] at hp
        cases hp
      rw [← lk_upd hd]
      have uS : ∀ u, S d = some u → u = .dK kvs := fun u e => by rw [h1] at e; exact (Option.some.inj e).symm
      have uH0 : ∀ u, H0 d = some u → u = .dK kvs := fun u e => by
        have := es.kp d u npd e
        rw [hd] at this
        exact (Option.some.inj this).symm
      have leS := lk_le (od := od) uS
      have wl1 : Wl o (lk d od S) (lk d od H) := ⟨lk_same es.wl.1, fun p e => by
        obtain ⟨ss, np, g, sm, cur, cnt, gs, ns, hp, hg, hs, lg, ls⟩ := es.wl.2 p e
        have ne : p ≠ d := fun z => npd (by rw [e, z])
        exact ⟨lk_same ss, lk_none.mpr np, g, sm, cur, cnt, gs, ns, (lk_ne ne).trans hp, leS.lst _ _ hg, leS.lst _ _ hs, lg, ls⟩⟩
      have es1 : ES K o (lk d od H0) (lk d od S) (lk d od H) σ env := by
        refine ⟨wl1, fun a u n h => ?_, es.len, fun i b h => ?_⟩
        · by_cases q : a = d
          · subst q
            cases e : H0 a with
            | none => rw [lk_none.mpr e] at h; cases h
            | some w =>
              rw [lk_at e] at h
              rw [lk_at (es.kp a w n e)]
              exact h
          · rw [lk_ne q] at h ⊢
            exact es.kp a u n h
        · obtain ⟨v, e1, e2⟩ := es.sl i b h
          refine ⟨v, e1, ?_⟩
          cases b with
          | st dd => exact rep_mono leS e2
          | ow a dd =>
            obtain ⟨x1, x2, x3, x4⟩ := e2
            have ne : a ≠ d := fun z => by rw [z, h1] at x2; cases x2
            exact ⟨x1, lk_none.mpr x2, x3, by rw [lk_ne ne]; exact x4.le leS⟩
          | br dd =>
            refine rep_mono ?_ (show Rep K (offp o H0) v dd from e2)
            have e3 : offp o (lk d od H0) = lk d od (offp o H0) := by
              funext a
              unfold offp lk
              by_cases q1 : o = some a
              · by_cases q2 : a = d
                · exact absurd (by rw [← q2]; exact q1) npd
                · simp [q1, q2]
              · simp [q1]
            rw [e3]
            exact lk_le fun u e => uH0 u (by unfold offp at e; split at e <;> first | cases e | exact e)
          | pool => exact e2
          | xn a c dd C fs =>
            obtain ⟨x1, x2, y, x3, np1, ⟨fv, y1, y2, y3⟩⟩ := e2
            have ne : y ≠ d := fun z => by rw [z, hd] at y1; cases y1
            exact ⟨x1, x2, y, x3, np1, ⟨fv, (lk_ne ne).trans y1, y2, repL_mono leS y3⟩⟩
      refine kd (lk d od H) _ (fun a C dx fs h => ?_) ⟨d, od, rfl, .inl ⟨kvs, lk_at hd, ?_⟩⟩
      · rw [lk_ne (fun e => by rw [e, hd] at h; cases h)]
        exact h
      refine lc_body hg ht he hj es1 (wk_keys (lk_at h1) h2).toC ⟨by rw [hlen]; exact q.1, q.2⟩ fun D acc ds S' H' g w hD sD hdd hr q' => ?_
      have hH' : H' d = some (.frz od (.dK kvs)) := g.rs d _ npd (lk_at hd)
      have hS' : S' d = some (.frz od (.dK kvs)) := g.st _ _ (lk_at h1)
      refine ⟨hH', ?_⟩
      have le2 : Le S' (upd S' d (.dK kvs)) := by
        have key : ∀ a u, (∀ kvs, u ≠ HO.dK kvs) → (∀ o u', u ≠ HO.frz o u') → Rd S' a u → Rd (upd S' d (.dK kvs)) a u := fun a u hu hf h => by
          have ne : a ≠ d := fun e => by
            subst e
            rcases h with h | ⟨o, h⟩
            · rw [hS'] at h
              exact hf _ _ (Option.some.inj h).symm
            · rw [hS'] at h
              cases h
              exact hu _ rfl
          rcases h with h | ⟨o, h⟩
          · exact .inl ((upd_ne ne).trans h)
          · exact .inr ⟨o, (upd_ne ne).trans h⟩
        refine ⟨fun a xs h => key a _ (fun _ e => by cases e) (fun _ _ e => by cases e) h, fun a ks h => ?_, fun a xs h => key a _ (fun _ e => by cases e) (fun _ _ e => by cases e) h, fun a C dx fs h => ?_, fun a xs h => ?_⟩
        · by_cases q : a = d
          · subst q
            rcases h with h | ⟨o, h⟩
            · rw [hS'] at h; cases h
            · rw [hS'] at h
              cases h
              exact .inl upd_same
          · rcases h with h | ⟨o, h⟩
            · exact .inl ((upd_ne q).trans h)
            · exact .inr ⟨o, (upd_ne q).trans h⟩
        · rw [upd_ne (fun e => by subst e; rw [hS'] at h; cases h)]
          exact h
        · rw [upd_ne (fun e => by subst e; rw [hS'] at h; cases h)]
          exact h
      have hDd : D ≠ d := fun e => by rw [e, lk_none, hd] at hD; cases hD
      have g' : GrO o S H (upd S' d (.dK kvs)) (upd H' d (.dK kvs)) := by
        refine ⟨fun a u h => ?_, fun a u n h => ?_, fun a h3 h4 => ?_, fun a h3 => ?_⟩
        · by_cases q : a = d
          · subst q; rw [upd_same, ← h1, h]
          · rw [upd_ne q]
            exact g.st _ _ ((lk_ne q).trans h)
        · by_cases q : a = d
          · subst q; rw [upd_same, ← hd, h]
          · rw [upd_ne q]
            exact g.rs _ _ n ((lk_ne q).trans h)
        · have ne : a ≠ d := fun e => by rw [e, h1] at h3; cases h3
          rw [upd_ne ne]
          exact g.fr a (lk_none.mpr h3) fun z => h4 (lk_none.mp z)
        · by_cases q : a = d
          · subst q; rw [upd_same]; intro z; cases z
          · rw [upd_ne q]
            exact g.ex a fun z => h3 (lk_none.mp z)
      have w' : Wl o (upd S' d (.dK kvs)) (upd H' d (.dK kvs)) := ⟨same_new w.1, fun p e => by
        obtain ⟨ss, np, gg, sm, cur, cnt, gs, ns, hp, hg, hs, lg, ls⟩ := w.2 p e
        have ne : p ≠ d := fun z => npd (by rw [e, z])
        exact ⟨same_new ss, (upd_ne ne).trans np, gg, sm, cur, cnt, gs, ns, (upd_ne ne).trans hp, le2.lst _ _ hg, le2.lst _ _ hs, lg, ls⟩⟩
      refine k D (.lst ds) _ _ g' w' (lk_none.mp hD) ((upd_ne hDd).trans sD) ?_ q'
      rw [upd_ne hDd, hdd]
      exact .lst (repL_mono le2 hr)
    · right
      refine kd H _ (fun a C dx fs h => h) ⟨d, od, rfl, .inl ⟨kvs, es.wl.1 _ _ h1, ?_⟩⟩
      refine lc_body hg ht he hj es (wk_keys h1 h2).toC ⟨by rw [hlen]; exact q.1, q.2⟩ fun D acc ds S' H' g w hD sD hdd hr q' => ?_
      refine k D (.lst ds) S' H' g w hD sD ?_ q'
      rw [hdd]
      exact .lst hr
  · exact q.elim
end
end WW

set_option Elab.async false
set_option linter.all false
set_option maxRecDepth 100000
set_option maxHeartbeats 4000000
namespace WW
open PySem PySem.Spec PyProof.Rows L2
section
variable {K : PySem.W.Frag} {W : WX} {ta tb te td ty tv tk : TE} {aa ab ae ad ay av ak : AE} {wi : TI} {ai : AI}
/-! ### dict comprehensions -/
def aColD (g : B → AEnv → (AEnv → Prop) → Prop) (ct : AT) (ak av : AE) (ax : AX) (env : AEnv) : List B → List (Key × D) → (List (Key × D) → Prop) → Prop
  | [], acc, Q => Q acc
  | x :: r, acc, Q => g x env fun env1 => ct ax env1 fun c => ifB c (ak ax env1 fun y => av ax env1 fun z => match y.get.key, z with
    | some k, .st d => aColD g ct ak av ax env r (putD acc k d) Q
    | _, _ => False) (aColD g ct ak av ax env r acc Q)
def aDc (ai : AI) (g : B → AEnv → (AEnv → Prop) → Prop) (ct : AT) (ak av : AE) (vs : List Nat) (ax : AX) (env : AEnv) (Q : D → Prop) : Prop := ai ax env fun items => items.length ≤ 1000 ∧ aColD g ct ak av (fun _ _ _ => True) (awipe env vs) items [] fun ds => Q (.dK ds)
theorem putD_len {κ : Type} [DecidableEq κ] (kds : List (κ × D)) (k : κ) (d : D) : (putD kds k d).length ≤ kds.length + 1 := by
  unfold putD
  split
  · rw [List.length_map]; omega
  · simp
theorem dc_it {J : It} {n : Nat} {G : Hp → Prop} {Y : Nat → Hp → V → Hp → Prop} (w : Walk J n G Y) {g : TG} {tt : TT} {tk tv : TE} {vs : List Nat} {σ : L2.St} {H1 : Hp} {D : Addr} {Qd : Hp → Prop} (Pv : Nat → Hp → Prop) (h0 : Pv 0 (upd H1 D (.dK []))) (hG : ∀ i H, i ≤ n → Pv i H → G H)
    (hs : ∀ i x H H', i < n → Pv i H → Y i H x H' → g x (wipe σ vs) H' fun σ2 H2 => wipe σ2 vs = wipe σ vs ∧ tt σ2 H2 fun b H3 =>
      if b = true then tk σ2 H3 fun y H4 => tv σ2 H4 fun z H5 => ∃ kvs k, y = kV k ∧ H5 D = some (.dK kvs) ∧ kvs.length < sizeLine ∧ Pv (i + 1) (upd H5 D (.dK (putK kvs k z))) else Pv (i + 1) H3) (hd : ∀ H, Pv n H → Qd H) :
    ∃ W : Nat → Nat → Hp → Prop, (∃ m, W 0 m (upd H1 D (.dK []))) ∧ ∀ i m H, W i m H →
      (J.stop i H ∧ Qd H) ∨ (J.go i H ∧ ∃ Nx : Hp → Prop, (∀ H', Nx H' → ∃ m', m' < m ∧ W (i + 1) m' H') ∧ ∀ x H', J.yld i H x H' → g x (wipe σ vs) H' fun σ2 H2 => wipe σ2 vs = wipe σ vs ∧ tt σ2 H2 fun b H3 =>
        if b = true then tk σ2 H3 fun y H4 => tv σ2 H4 fun z H5 => ∃ kvs k, y = kV k ∧ H5 D = some (.dK kvs) ∧ kvs.length < sizeLine ∧ Nx (upd H5 D (.dK (putK kvs k z))) else Nx H3) := by
  refine ⟨fun i m H => m = n - i ∧ i ≤ n ∧ Pv i H, ⟨n, by simp, Nat.zero_le _, h0⟩, ?_⟩
  rintro i m H ⟨rfl, hi, p⟩
  have q := hG i H hi p
  by_cases hlt : i < n
  · refine .inr ⟨w.goes i H hlt q, Pv (i + 1), fun H' p' => ⟨n - (i + 1), by omega, rfl, hlt, p'⟩, fun x H' y => hs i x H H' hlt p (w.yields i H x H' hlt q y)⟩
  · have e : i = n := by omega
    subst e
    exact .inl ⟨w.stops H q, hd H p⟩
theorem dc_body {g : TG} {js : List Nat} {ag : B → AEnv → (AEnv → Prop) → Prop} {tt : TT} {ct : AT} {vs : List Nat} (hg : GA K js g ag) (ht : ET K W1 tt ct) (hk : EA K W1 tk ak) (hv : EA K W1 tv av) (hj : ∀ j ∈ js, j ∈ vs)
    {o : Option Addr} {H0 S1 H1 : Hp} {σ : L2.St} {env : AEnv} {J : It} {items : List B} {Qs : List (Key × D) → Prop} {Qd : Addr → Hp → Prop} (es1 : ES K o H0 S1 H1 σ env) (wk : WkC K o H0 S1 H1 J items) (q1 : items.length ≤ 1000 ∧ aColD ag ct ak av (fun _ _ _ => True) (awipe env vs) items [] Qs)
    (k : ∀ D kvs kds S H, GrO o S1 H1 S H → Wl o S H → H1 D = none → S D = none → H D = some (.dK kvs) → kvs.map (·.1) = kds.map (·.1) → RepL K S (kvs.map (·.2)) (kds.map (·.2)) → Qs kds → Qd D H) : ∀ D, H1 D = none → ∃ W : Nat → Nat → Hp → Prop, (∃ m, W 0 m (upd H1 D (.dK []))) ∧ ∀ i m H, W i m H →
  (J.stop i H ∧ Qd D H) ∨ (J.go i H ∧ ∃ Nx : Hp → Prop, (∀ H', Nx H' → ∃ m', m' < m ∧ W (i + 1) m' H') ∧ ∀ x H', J.yld i H x H' → g x (wipe σ vs) H' fun σ2 H2 => wipe σ2 vs = wipe σ vs ∧ tt σ2 H2 fun b H3 =>
    if b = true then tk σ2 H3 fun y H4 => tv σ2 H4 fun z H5 => ∃ kvs k, y = kV k ∧ H5 D = some (.dK kvs) ∧ kvs.length < sizeLine ∧ Nx (upd H5 D (.dK (putK kvs k z))) else Nx H3) := by
  intro D hD
  have w1 := es1.wl
  have npD := w1.np hD
  have wlk : Walk J items.length (fun H => ∃ S, GrO o S1 H1 S H ∧ Wl o S H ∧ Kp o H0 H) (fun i H x H' => i < items.length ∧ J.yld i H x H') :=
    ⟨fun i H hi ⟨S, a, b, c⟩ => wk.goes i S H hi a b c, fun H ⟨S, a, b, c⟩ => wk.stops S H a b c, fun i H x H' hi _ y => ⟨hi, y⟩⟩
  refine dc_it wlk (fun i H => ∃ S acc kds, GrO o S1 H1 S H ∧ Wl o S H ∧ S D = none ∧ H D = some (.dK acc) ∧ acc.map (·.1) = kds.map (·.1) ∧ RepL K S (acc.map (·.2)) (kds.map (·.2)) ∧ kds.length ≤ i ∧ aColD ag ct ak av (fun _ _ _ => True) (awipe env vs) (items.drop i) kds Qs) ?_ (fun i H _ ⟨S, acc, ds, g, w, _⟩ => ⟨S, g, w, g.kp es1.kp⟩) (fun i x H H' hi ⟨S, acc, kds, g, w, sD, hd, hk1, hr, hl, q⟩ ⟨_, y⟩ => ?_) (fun H ⟨S, acc, kds, g, w, sD, hd, hk1, hr, hl, q⟩ => ?_)
  · exact ⟨S1, [], [], GrO.lay hD, w1.put (w1.1.free hD) npD, w1.1.free hD, upd_same, rfl, .nil, Nat.zero_le _, q1.2⟩
  · obtain ⟨S', b, e1, e2, g2, w2, r2⟩ := wk.yields i S H x H' hi g w (g.kp es1.kp) y
    rw [List.drop_eq_getElem_cons hi] at q
    have e3 : items[i] = b := by
      rw [List.getElem?_eq_getElem hi] at e1
      exact Option.some.inj e1
    rw [e3] at q
    have es2 := (es1.mono g w).mono g2 w2
    refine hg o H0 S' H' _ _ x b _ _ (es2.wipe vs) r2 q fun σ' env' es' sto ow q2 => ⟨wipe_stored hj sto, ?_⟩
    have hD' := g2.rs D _ npD hd
    have sD' := g2.fr D sD (ne_none hd)
    refine ht o H0 S' H' σ' env' _ _ _ es' q2 (fun c S3 H3 g3 w3 q3 => ?_) xl1
    have hD3 := g3.rs D _ npD hD'
    have sD3 := g3.fr D sD' (ne_none hD')
    cases c with
    | false => exact ⟨S3, acc, kds, (g.trans g2).trans g3, w3, sD3, hD3, hk1, RepL.same (g2.st.trans g3.st) hr, by omega, q3⟩
    | true =>
      refine hk o H0 S3 H3 σ' env' _ _ _ (es'.mono g3 w3) q3 (fun v b S4 H4 g4 w4 r4 q4 => ?_) xl1
      have hD4 := g4.rs D _ npD hD3
      have sD4 := g4.fr D sD3 (ne_none hD3)
      refine hv o H0 S4 H4 σ' env' _ _ _ ((es'.mono g3 w3).mono g4 w4) q4 (fun v2 b2 S5 H5 g5 w5 r5 q5 => ?_) xl1
      have hD5 := g5.rs D _ npD hD4
      have sD5 := g5.fr D sD4 (ne_none hD4)
      split at q5
      · rename_i kk d ek
        have gg := (((g.trans g2).trans g3).trans g4).trans g5
        have ev := key_rep ((r4.mono g5).now w5 (gg.kp es1.kp)) ek
        obtain ⟨p1, p2⟩ := put_rep (k := kk) r5 hk1 (RepL.same (((g2.st.trans g3.st).trans g4.st).trans g5.st) hr)
        have hal : acc.length = kds.length := by simpa using congrArg List.length hk1
        have := putD_len kds kk d
        have l1 := q1.1
        exact ⟨acc, kk, ev, hD5, small1000 (by omega), S5, _, _, gg.put hD, w5.put sD5 npD, sD5, upd_same, p1, p2, by omega, q5⟩
      · exact q5.elim
  · rw [List.drop_length] at q
    exact k D acc kds S H g w hD sD hd hk1 hr q
theorem en_dc {g : TG} {js : List Nat} {ag : B → AEnv → (AEnv → Prop) → Prop} {tt : TT} {ct : AT} {vs : List Nat} (hi : EC K W wi ai) (hg : GA K js g ag) (ht : ET K W1 tt ct) (hk : EA K W1 tk ak) (hv : EA K W1 tv av) (hj : ∀ j ∈ js, j ∈ vs := by decide) :
    EN K W (tDc wi g tt tk tv vs) (aDc ai ag ct ak av vs) := fun o H0 S H σ env ax Q Qc es q k xl =>
  hi o H0 S H σ env ax _ _ es q (fun J items S1 H1 g1 w1 wk q1 => dc_body hg ht hk hv hj (es.mono g1 w1) wk q1 fun D kvs kds S' H' g w hD sD hd h1 h2 q => by
    refine k D (.dK kds) S' H' (g1.trans g) w (g1.bk hD) sD ?_ q
    rw [hd]
    exact .dK h1 h2) xl
theorem aColD_map {α : Type} {g : B → AEnv → (AEnv → Prop) → Prop} {ax : AX} {env : AEnv} {fb : α → B} (f : α → Key × D) : ∀ {l : List α} {acc : List (Key × D)} {Q : List (Key × D) → Prop}
    (_ : ((acc ++ l.map f).map (·.1)).Nodup) (_ : ∀ a ∈ l, ∀ R : Key → D → Prop, R (f a).1 (f a).2 → g (fb a) env fun env1 => ak ax env1 fun y => av ax env1 fun z => match y.get.key, z with
      | some k, .st d => R k d
      | _, _ => False) (_ : Q (acc ++ l.map f)), aColD g aYes ak av ax env (l.map fb) acc Q
  | [], acc, Q, _, _, q => by
    show Q acc
    simpa using q
  | a :: r, acc, Q, nd, h, q => by
    refine h a (by simp) (fun k d => aColD g aYes ak av ax env (r.map fb) (putD acc k d) Q) ?_
    have e : acc ++ (a :: r).map f = (acc ++ [f a]) ++ r.map f := by simp
    rw [e] at nd q
    have nin : (f a).1 ∉ acc.map (·.1) := fun m => by
      rw [List.map_append, List.map_append, List.append_assoc, List.nodup_append] at nd
      exact nd.2.2 _ m _ (by simp) rfl
    rw [putD_new nin]
    exact aColD_map f nd (fun b hb => h b (by simp [hb])) q
/-! ### enumerate -/
def enumB (n : Nat) : List D → List B
  | [] => []
  | d :: r => .st (.tup [.int (n : Nat), d]) :: enumB (n + 1) r
theorem enumB_len : ∀ (ds : List D) (n : Nat), (enumB n ds).length = ds.length
  | [], _ => rfl
  | _ :: r, n => by rw [enumB, List.length_cons, List.length_cons, enumB_len r]
theorem enumB_get : ∀ (ds : List D) (n i : Nat) (d : D), ds[i]? = some d → (enumB n ds)[i]? = some (.st (.tup [.int ((n + i : Nat) : Int), d]))
  | [], _, _, _, h => by simp at h
  | d :: r, n, 0, x, h => by
    simp at h
    subst h
    rfl
  | d :: r, n, i + 1, x, h => by
    rw [enumB, List.getElem?_cons_succ, enumB_get r (n + 1) i x (by simpa using h)]
    congr 5
    omega
def aIE (a : AE) (ax : AX) (env : AEnv) (Q : List B → Prop) : Prop := a ax env fun x => match x with
  | .st (.lst ds) => Q (enumB 0 ds)
  | .st (.tup ds) => Q (enumB 0 ds)
  | _ => False
theorem wk_enum {o : Option Addr} {H0 S1 : Hp} {J : It} {xs : List V} {ds : List D} (G : Hp → Prop) (hgo : ∀ i H, i < xs.length → G H → J.go i H) (hst : ∀ H, G H → J.stop xs.length H) (hy : ∀ i H x H', i < xs.length → G H → J.yld i H x H' → ∃ T y, x = .ref T ∧ H T = none ∧ H' = upd H T (.tup [.int (i : Nat), y]) ∧ xs[i]? = some y)
    (hr : RepL K S1 xs ds) (hG : ∀ S H, Same S1 S → Wl o S H → G H) : WkA K o H0 S1 J (enumB 0 ds) := by
  have hl : (enumB 0 ds).length = xs.length := by rw [enumB_len, hr.len]
  refine ⟨fun i S H hi s w _ => hgo i H (by omega) (hG S H s w), fun S H s w _ => by rw [hl]; exact hst H (hG S H s w), fun i S H x H' hi s w kp y => ?_⟩
  obtain ⟨T, z, rfl, hT, rfl, hz⟩ := hy i H x H' (by omega) (hG S H s w) y
  obtain ⟨d, e1, e2⟩ := hr.get hz
  have sS : Same S (upd S T (.tup [.int (i : Nat), z])) := same_upd (w.1.free hT)
  refine ⟨upd S T (.tup [.int (i : Nat), z]), .st (.tup [.int ((i : Nat) : Int), d]), ?_, rfl, GrO.new w hT, w.new hT, ?_⟩
  · have := enumB_get ds 0 i d e1
    rw [Nat.zero_add] at this
    exact this
  · exact Rep.tup (SqT.of upd_same) (.cons (.int _) (.cons (Rep.same (s.trans sS) e2) .nil))
theorem ei_enum (h : EA K W te ae) : EI K W (iEnumS K (tCons te tNil)) (aIE ae) := fun o H0 S H σ env ax Q C es q k xl =>
  h o H0 S H σ env ax _ _ es q (fun v b S1 H1 g1 w1 r1 q1 => by
    split at q1
    · rename_i ds
      obtain ⟨a, xs, rfl, h1, h2⟩ := rep_lst r1
      refine .inl ⟨a, xs, rfl, SqL.of (w1.1 _ _ h1), k _ _ S1 H1 g1 w1 (wk_enum (fun H => SqL K H a xs) (fun i H hi q => ⟨xs, xs[i], q, by simp [hi]⟩) (fun H q => ⟨xs, q, Nat.le_refl _⟩) (fun i H x H' _ q y => ?_) h2 (fun S H s w => SqL.of (w.1 _ _ (s _ _ h1)))) q1⟩
      obtain ⟨T, z, e1, e2, e3, e4⟩ := y
      exact ⟨T, z, e1, e2, e3, e4 xs q⟩
    · rename_i ds
      obtain ⟨a, xs, rfl, h1, h2⟩ := rep_tup r1
      refine .inr ⟨a, xs, rfl, Same.seqT w1.1 h1, k _ _ S1 H1 g1 w1 (wk_enum (fun H => SqT K H a xs) (fun i H hi q => ⟨xs, xs[i], q, by simp [hi]⟩) (fun H q => ⟨xs, q, rfl⟩) (fun i H x H' _ q y => ?_) h2 (fun S H s w => Same.seqT (s.trans w.1) h1)) q1⟩
      obtain ⟨T, z, e1, e2, e3, e4⟩ := y
      exact ⟨T, z, e1, e2, e3, e4 xs q⟩
    · exact q1.elim) xl
/-- the signs of a text -/
def signB (z : Str) : List B := z.cps.toList.map fun c => B.st (.str ⟨#[c]⟩)
def aIS (a : AE) (ax : AX) (env : AEnv) (Q : List B → Prop) : Prop := a ax env fun x => match x.get with
  | .str z => Q (signB z)
  | _ => False
theorem ei_str (h : EA K W te ae) : EI K W (iStr te) (aIS ae) := fun o H0 S H σ env ax Q C es q k xl =>
  h o H0 S H σ env ax _ _ es q (fun v b S1 H1 g1 w1 r1 q1 => by
    have rn := r1.now w1 (g1.kp es.kp)
    cases hb : b.get with
    | str z =>
      rw [hb] at rn q1
      refine ⟨z, rep_str rn, k _ _ S1 H1 g1 w1 ?_ q1⟩
      have hl : (signB z).length = z.cps.size := by simp [signB]
      refine ⟨fun i S H hi _ _ _ => by rw [hl] at hi; exact hi, fun S H _ _ _ => by rw [hl]; exact Nat.le_refl _, fun i S H x H' hi _ w _ y => ?_⟩
      obtain ⟨rfl, c, hc, rfl⟩ := y
      refine ⟨S, .st (.str ⟨#[c]⟩), ?_, rfl, GrO.refl, w, .str _⟩
      unfold signB
      rw [List.getElem?_map, Array.getElem?_toList, hc]
      rfl
    | _ => rw [hb] at q1; exact q1.elim) xl
/-! ### try -/
def aHand (K : PySem.W.Frag) (E : AEnds) : List (Value × Nat × (Addr → Value → Option Addr → AS)) → AX
  | [] => E.ax
  | (c, i, as) :: r => fun env C fs => ∃ b, PySem.W.exmOne K (.ref C) c = some b ∧
      (b = true → ∀ a d, as a (.ref C) d ⟨fun env' => E.nx (env'.set i none), E.rt, E.rn, fun env' => E.bk (env'.set i none), fun env' => E.ct (env'.set i none), E.ax⟩ (env.set i (some (.xn a (.ref C) d C fs)))) ∧ (b = false → aHand K E r env C fs)
def aTry (K : PySem.W.Frag) (body : AS) (hs : List (Value × Nat × (Addr → Value → Option Addr → AS))) (E : AEnds) (env : AEnv) : Prop := body ⟨E.nx, E.rt, E.rn, E.bk, E.ct, aHand K E hs⟩ env
inductive HdA (K : PySem.W.Frag) (W : WX) : List (Value × Nat × (Addr → Value → Option Addr → TS)) → List (Value × Nat × (Addr → Value → Option Addr → AS)) → Prop
  | nil : HdA K W [] []
  | cons {c : Value} {i : Nat} {ts : Addr → Value → Option Addr → TS} {as : Addr → Value → Option Addr → AS} {l : List (Value × Nat × (Addr → Value → Option Addr → TS))} {m : List (Value × Nat × (Addr → Value → Option Addr → AS))} : (∀ a cls d, SA K W (ts a cls d) (as a cls d)) → HdA K W l m → HdA K W ((c, i, ts) :: l) ((c, i, as) :: m)
theorem ES.unset {o : Option Addr} {H0 S H : Hp} {σ : L2.St} {env : AEnv} (e : ES K o H0 S H σ env) (i : Nat) : ES K o H0 S H (σ.set i none) (env.set i none) := by
  refine ⟨e.wl, e.kp, by rw [List.length_set, List.length_set, e.len], fun j c h => ?_⟩
  rw [slot_set] at h
  split at h
  · cases h
  · rename_i q
    obtain ⟨x, h1, h2⟩ := e.sl j c h
    refine ⟨x, ?_, h2⟩
    rw [List.getElem?_set]
    by_cases q1 : i = j
    · exfalso
      have : j < σ.length := (List.getElem?_eq_some_iff.mp h1).1
      exact q ⟨q1, by rw [← e.len, q1]; exact this⟩
    · rw [if_neg q1]
      exact h1
theorem ST.unset {o : Option Addr} {S0 H0 S H : Hp} {σ : L2.St} {env : AEnv} (t : ST K o S0 H0 S H σ env) (i : Nat) : ST K o S0 H0 S H (σ.set i none) (env.set i none) :=
  t.upd (t.es.unset i) fun j a d q => by
    rw [slot_set] at q
    split at q
    · cases q
    · exact q
theorem hand_ok {o : Option Addr} {S0 H0 : Hp} {E : AEnds} {Dc : Ends} (lk : Lk K W o S0 H0 E Dc) : ∀ {l : List (Value × Nat × (Addr → Value → Option Addr → TS))} {m : List (Value × Nat × (Addr → Value → Option Addr → AS))}, HdA K W l m →
    ∀ σ env C fs dd S H, ST K o S0 H0 S H σ env → H0 dd = none → Exn K S H dd fs → aHand K E m env C fs → wManyA K W Dc l (.ref C) (some dd) σ H
  | _, _, .nil, σ, env, C, fs, dd, S, H, st, n, e, q => lk.ex σ env C fs dd S H st n e q
  | _, _, .cons (i := i) hs r, σ, env, C, fs, dd, S, H, st, n, e, q => by
    obtain ⟨b, h1, h2, h3⟩ := q
    refine ⟨b, h1, fun hb a ha => ?_, fun hb => hand_ok lk r σ env C fs dd S H st n e (h3 hb)⟩
    have npd : o ≠ some dd := fun z => by
      obtain ⟨fv, x1, _⟩ := e
      obtain ⟨_, _, g, s, cur, cnt, gs, ns, hp, _⟩ := st.es.wl.2 dd z
      rw [x1] at hp
      cases hp
    have rb : BR K o H0 S H (.ref a) (.xn a (.ref C) (some dd) C fs) := ⟨rfl, rfl, dd, rfl, npd, e⟩
    exact hs a (.ref C) (some dd) o S0 H0 S H _ _ ⟨fun env' => E.nx (env'.set i none), E.rt, E.rn, fun env' => E.bk (env'.set i none), fun env' => E.ct (env'.set i none), E.ax⟩ (dAs i Dc) (st.set i rb rfl)
      ⟨fun σ env S H st q => lk.nx _ _ S H (st.unset i) q, fun σ env S H st q => lk.bk _ _ S H (st.unset i) q, fun σ env S H st q => lk.ct _ _ S H (st.unset i) q, lk.rt, lk.rn, lk.ex⟩ (h2 hb a (some dd))
theorem sa_try {tb : WX → TS} {ab : AS} {l : List (Value × Nat × (Addr → Value → Option Addr → TS))} {m : List (Value × Nat × (Addr → Value → Option Addr → AS))} (hb : ∀ W', SA K W' (tb W') ab) (hh : HdA K W l m) : SA K W (fun D σ H => tb (wManyA K W D l) D σ H) (aTry K ab m) := fun o S0 H0 S H σ env E Dc st lk q =>
  hb _ o S0 H0 S H σ env ⟨E.nx, E.rt, E.rn, E.bk, E.ct, aHand K E m⟩ Dc st ⟨lk.nx, lk.bk, lk.ct, lk.rt, lk.rn, fun σ env C fs dd S H st n e q => hand_ok lk hh σ env C fs dd S H st n e q⟩ q
/-- e.f of a caught exception; isinstance(e, D) -/
def aXf (a : Addr) (cls : Value) (d : Option Addr) (C : Addr) (f : Str) (x : AE) (ax : AX) (env : AEnv) (Q : B → Prop) : Prop := x ax env fun b => match b with
  | .xn a' cls' d' C' fs => a' = a ∧ cls' = cls ∧ d' = d ∧ C' = C ∧ ∃ z, fs.lookup f = some z ∧ Q (.st z)
  | _ => False
theorem ea_xf {a : Addr} {cls : Value} {d : Option Addr} {C : Addr} {f : Str} (h : EA K W te ae) : EA K W (tXf a cls d C f te) (aXf a cls d C f ae) := fun o H0 S H σ env ax Q Qc es q k xl =>
  h o H0 S H σ env ax _ _ es q (fun v b S1 H1 g1 w1 r1 q1 => by
    split at q1
    · obtain ⟨rfl, rfl, rfl, rfl, z, hz, q1⟩ := q1
      obtain ⟨e1, e2, dd, e3, np, ⟨fv, x1, x2, x3⟩⟩ := r1
      obtain ⟨v, y1, y2⟩ := lookup_rep x2 x3 hz
      exact ⟨e1, e2, dd, fv, v, e3, x1, y1, k v (.st z) S1 H1 g1 w1 y2 q1⟩
    · exact q1.elim) xl
def aXis (K : PySem.W.Frag) (a : Addr) (cls : Value) (d : Option Addr) (C CW : Addr) (x : AE) (ax : AX) (env : AEnv) (Q : B → Prop) : Prop := x ax env fun b => match b with
  | .xn a' cls' d' C' fs => a' = a ∧ cls' = cls ∧ d' = d ∧ C' = C ∧ ∃ r, PySem.W.kitOne K (.ref C) (.ref CW) = some r ∧ Q (.st (.bl r))
  | _ => False
theorem ea_xis {a : Addr} {cls : Value} {d : Option Addr} {C CW : Addr} (h : EA K W te ae) : EA K W (tCB (rIsED K C a cls d) (tCons te (tCons (tC (.ref CW)) tNil))) (aXis K a cls d C CW ae) := fun o H0 S H σ env ax Q Qc es q k xl =>
  h o H0 S H σ env ax _ _ es q (fun v b S1 H1 g1 w1 r1 q1 => by
    split at q1
    · obtain ⟨rfl, rfl, rfl, rfl, r, hr, q1⟩ := q1
      obtain ⟨rfl, e2, dd, e3, np, ⟨fv, x1, x2, x3⟩⟩ := r1
      exact ⟨e2, dd, fv, e3, x1, .ref CW, .ref CW, r, rfl, fun u h => h, hr, k _ (.st (.bl r)) S1 H1 g1 w1 (BR.ofSc rfl) q1⟩
    · exact q1.elim) xl
end
end WW

set_option Elab.async false
set_option linter.all false
set_option maxRecDepth 100000
set_option maxHeartbeats 4000000
namespace WW
open PySem PySem.Spec PyProof.Rows L2
section
variable {K : PySem.W.Frag} {W : WX} {ta tb te : TE} {aa ab ae : AE}
/-- x[i], x a list or a tuple -/
def aIxQ (a b : AE) (ax : AX) (env : AEnv) (Q : B → Prop) : Prop := a ax env fun x => b ax env fun y => match x.get, y.get with
  | .lst ds, .int i => ∃ d, atI ds i = some d ∧ Q (x.sub d)
  | .tup ds, .int i => ∃ d, atI ds i = some d ∧ Q (x.sub d)
  | _, _ => False
theorem ea_ixQ (ha : EA K W ta aa) (hb : EA K W tb ab) : EA K W (tOp (rIx K) ta tb) (aIxQ aa ab) := fun o H0 S H σ env ax Q Qc es q k xl =>
  ha o H0 S H σ env ax _ _ es q (fun v b S1 H1 g1 w1 r1 q1 =>
    hb o H0 S1 H1 σ env ax _ _ (es.mono g1 w1) q1 (fun v2 b2 S2 H2 g2 w2 r2 q2 => by
      have kp := (g1.trans g2).kp es.kp
      split at q2
      · rename_i ds i e1 e2
        obtain ⟨d, hd, q2⟩ := q2
        obtain ⟨a, xs, rfl, h1, h2⟩ := (r1.mono g2).lst w2 kp e1
        obtain ⟨v, h3, h4⟩ := pair_atI h2 hd
        have ri := r2.now w2 kp
        rw [e2] at ri
        rw [rep_int ri]
        exact .inl ⟨a, xs, i, v, rfl, rfl, SqL.of h1, h3, k v _ S2 H2 (g1.trans g2) w2 h4 q2⟩
      · rename_i ds i e1 e2
        obtain ⟨d, hd, q2⟩ := q2
        obtain ⟨a, xs, rfl, h1, h2⟩ := (r1.mono g2).tup w2 kp e1
        obtain ⟨v, h3, h4⟩ := pair_atI h2 hd
        have ri := r2.now w2 kp
        rw [e2] at ri
        rw [rep_int ri]
        exact .inr (.inl ⟨a, xs, i, v, rfl, rfl, h1, h3, k v _ S2 H2 (g1.trans g2) w2 h4 q2⟩)
      · exact q2.elim) (xl.mono g1)) xl
end
/-! ### a, b = x, a new thing -/
def aParN (i j : Nat) (a : AE) (n : AN) (E : AEnds) (env : AEnv) : Prop := a E.ax env fun x => n E.ax env fun d => aName i x env fun env' => ∀ z, E.nx (env'.set j (some (.ow z d)))
theorem sa_parN {K : PySem.W.Frag} {W : WX} {i j : Nat} {ta tb : TE} {aa : AE} {an : AN} (ha : EA K W ta aa) (hn : EN K W tb an) : SA K W (tPar i j (tCons ta (tCons tb tNil))) (aParN i j aa an) := fun o S0 H0 S H σ env E Dc st lk q =>
  ha o H0 S H σ env E.ax _ _ st.es q (fun v b S1 H1 g1 w1 r1 q1 => by
    have st1 := st.mono g1 w1
    refine hn o H0 S1 H1 σ env E.ax _ _ st1.es q1 (fun a d S2 H2 g2 w2 n ns t q2 => ?_) (lk.xl st1)
    obtain ⟨h1, h2⟩ := aName_iff q2
    have st2 := (st1.mono g2 w2).set i (r1.mono g2) h1
    have r : BR K o H0 S2 H2 (.ref a) (.ow a d) := ⟨rfl, ns, st1.es.wl.np n, t⟩
    have other : ∀ j d', slot (env.set i (some b)) j ≠ some (.ow a d') := fun j d' q => by
      obtain ⟨v, _, _, _, _, t'⟩ := st1.es.sl j _ (ow_set h1 q)
      obtain ⟨u, hu⟩ := t'.some
      rw [hu] at n
      cases n
    refine ⟨v, .ref a, rfl, lk.nx _ _ S2 H2 ⟨st2.gr, st2.es.set j r, fun l a' d' q => ?_, fun l l' a' d' d2 q q2 => ?_⟩ (h2 a)⟩
    · rw [slot_set] at q
      split at q
      · cases q
        exact st1.gr.bk n
      · exact st2.fresh l a' d' q
    · rw [slot_set] at q q2
      split at q
      · rename_i c1
        split at q2
        · rename_i c2
          exact c1.1.symm.trans c2.1
        · cases q
          exact absurd q2 (other l' d2)
      · split at q2
        · cases q2
          exact absurd q (other l d')
        · exact st2.dist l l' a' d' d2 q q2) (lk.xl st)
section
variable {K : PySem.W.Frag} {W : WX} {ta tb te : TE} {aa ab ae : AE}
theorem en_revL (ha : EA K W ta aa) : EN K W (tRevL K ta) (aRevL aa) := fun o H0 S H σ env ax Q Qc es q k xl =>
  ha o H0 S H σ env ax _ _ es q (fun v b S1 H1 g1 w1 r1 q1 => by
    split at q1
    · rename_i ds e
      obtain ⟨a, xs, rfl, h1, h2⟩ := solid_lst w1 r1 e
      exact ⟨a, xs, rfl, SqL.of h1, en_newL g1 w1 k h2.rev q1⟩
    · exact q1.elim) xl
/-- x or y, x by its truth -/
def aOrT (a b : AE) (ax : AX) (env : AEnv) (Q : B → Prop) : Prop := a ax env fun x => match truD x.get with
  | some c => ifB c (Q x) (b ax env Q)
  | none => False
theorem ea_orT (ha : EA K W ta aa) (hb : EA K W tb ab) : EA K W (tOrT K ta tb) (aOrT aa ab) := fun o H0 S H σ env ax Q Qc es q k xl =>
  ha o H0 S H σ env ax _ _ es q (fun v b S1 H1 g1 w1 r1 q1 => by
    split at q1
    · rename_i c hc
      refine ⟨c, truD_ok (r1.now w1 (g1.kp es.kp)) hc, ?_⟩
      cases c with
      | true => exact k v b S1 H1 g1 w1 r1 q1
      | false => exact hb o H0 S1 H1 σ env ax Q _ (es.mono g1 w1) q1 (fun v b S2 H2 g2 w2 r2 q2 => k v b S2 H2 (g1.trans g2) w2 r2 q2) (xl.mono g1)
    · exact q1.elim) xl
end
end WW

set_option Elab.async false
set_option linter.all false
set_option maxRecDepth 100000
set_option maxHeartbeats 4000000
namespace WW
open PySem PySem.Spec PyProof.Rows L2
section
variable {X : Cx}
/-- one of two readings -/
def tEi (t u : TE) : TE := fun σ H Q => t σ H Q ∨ u σ H Q
theorem pe_ei {e : Expr} {t u : TE} (h1 : PE X e t) (h2 : PE X e u) : PE X e (tEi t u) := ⟨fun pins s σ H Q I hw => by
  rcases hw with hw | hw
  · exact h1.run pins s σ H Q I hw
  · exact h2.run pins s σ H Q I hw⟩
end
section
variable {K : PySem.W.Frag} {W : WX} {ta tb te td ty : TE} {aa ab ae ad ay : AE}
def aEi (a b : AE) (ax : AX) (env : AEnv) (Q : B → Prop) : Prop := a ax env Q ∨ b ax env Q
theorem ea_ei (ha : EA K W ta aa) (hb : EA K W tb ab) : EA K W (tEi ta tb) (aEi aa ab) := fun o H0 S H σ env ax Q Qc es q k xl => by
  rcases q with q | q
  · exact .inl (ha o H0 S H σ env ax Q Qc es q k xl)
  · exact .inr (hb o H0 S H σ env ax Q Qc es q k xl)
def aIQ (a : AE) (ax : AX) (env : AEnv) (Q : List B → Prop) : Prop := a ax env fun x => match x with
  | .st (.lst ds) => Q (ds.map B.st)
  | .br (.lst ds) => Q (ds.map B.br)
  | .st (.tup ds) => Q (ds.map B.st)
  | .br (.tup ds) => Q (ds.map B.br)
  | _ => False
theorem ei_seq (h : EA K W te ae) : EI K W (iSeq K te) (aIQ ae) := fun o H0 S H σ env ax Q C es q k xl =>
  h o H0 S H σ env ax _ _ es q (fun v b S1 H1 g1 w1 r1 q1 => by
    split at q1
    · rename_i ds
      obtain ⟨a, xs, rfl, h1, h2⟩ := rep_lst r1
      exact ⟨a, rfl, .inl ⟨⟨xs, SqL.of (w1.1 _ _ h1)⟩, k _ _ S1 H1 g1 w1 (wk_at (fun H => SqL K H a xs) walk_list (by rw [List.length_map, h2.len]) (fun S H s w _ => SqL.of (w.1 _ _ (s _ _ h1))) (fun S H s _ _ => pair_st (RepL.same s h2)) (isOw_map (fun _ => rfl) ds)) q1⟩⟩
    · rename_i ds
      obtain ⟨a, xs, rfl, h1, h2⟩ := rep_lst (show Rep K (offp o H0) v (.lst ds) from r1)
      exact ⟨a, rfl, .inl ⟨⟨xs, SqL.of (off_same (g1.kp es.kp) _ _ h1)⟩, k _ _ S1 H1 g1 w1 (wk_at (fun H => SqL K H a xs) walk_list (by rw [List.length_map, h2.len]) (fun S H s w kp => SqL.of (off_same kp _ _ h1)) (fun S H s _ _ => pair_br h2) (isOw_map (fun _ => rfl) ds)) q1⟩⟩
    · rename_i ds
      obtain ⟨a, xs, rfl, h1, h2⟩ := rep_tup r1
      exact ⟨a, rfl, .inr ⟨⟨xs, Same.seqT w1.1 h1⟩, k _ _ S1 H1 g1 w1 (wk_at (fun H => SqT K H a xs) walk_tup (by rw [List.length_map, h2.len]) (fun S H s w _ => Same.seqT (s.trans w.1) h1) (fun S H s _ _ => pair_st (RepL.same s h2)) (isOw_map (fun _ => rfl) ds)) q1⟩⟩
    · rename_i ds
      obtain ⟨a, xs, rfl, h1, h2⟩ := rep_tup (show Rep K (offp o H0) v (.tup ds) from r1)
      exact ⟨a, rfl, .inr ⟨⟨xs, Same.seqT (off_same (g1.kp es.kp)) h1⟩, k _ _ S1 H1 g1 w1 (wk_at (fun H => SqT K H a xs) walk_tup (by rw [List.length_map, h2.len]) (fun S H s w kp => Same.seqT (off_same kp) h1) (fun S H s _ _ => pair_br h2) (isOw_map (fun _ => rfl) ds)) q1⟩⟩
    · exact q1.elim) xl
/-- d.get(k) -/
def aDgN (a b : AE) (ax : AX) (env : AEnv) (Q : B → Prop) : Prop := a ax env fun x => match x.get with
  | .dK kvs => b ax env fun y => match y.get.key with
    | some k => ∃ z, (valD kvs k).getD .non = z ∧ Q (x.sub z)
    | none => False
  | _ => False
theorem sub_non {o : Option Addr} {H0 S H : Hp} (b : B) : BR K o H0 S H .non (b.sub .non) := by
  cases b <;> exact Rep.non
theorem ea_dgetN (hd : EA K W td ad) (hy : EA K W ty ay) : EA K W (tDGet1 td ty) (aDgN ad ay) := fun o H0 S H σ env ax Q Qc es q k xl =>
  hd o H0 S H σ env ax _ _ es q (fun v b S1 H1 g1 w1 r1 q1 => by
    split at q1
    · rename_i kds e1
      obtain ⟨a, kvv, rfl, h1, h2, S', h3, h4⟩ := r1.dK w1 (g1.kp es.kp) e1
      refine ⟨a, rfl, .inl ⟨kvv, h1⟩, hy o H0 S1 H1 σ env ax _ _ (es.mono g1 w1) q1 (fun v2 b2 S2 H2 g2 w2 r2 q2 => ?_) (xl.mono g1)⟩
      have kp := (g1.trans g2).kp es.kp
      split at q2
      · rename_i kk e2
        obtain ⟨z, rfl, q2⟩ := q2
        obtain ⟨a', kvv', e3, h1', h2', S'', h3', h4'⟩ := (r1.mono g2).dK w2 kp e1
        cases e3
        rw [key_rep (r2.now w2 kp) e2]
        refine ⟨valV kvv' kk, .inl ⟨kvv', kk, h1', rfl, rfl⟩, ?_⟩
        rcases val_rep (k := kk) h2' h3' with ⟨c, c'⟩ | ⟨d', x, c1, c2, c3⟩
        · rw [c] at q2
          rw [c']
          exact k .non _ S2 H2 (g1.trans g2) w2 (sub_non b) q2
        · rw [c1] at q2
          rw [c2]
          exact k x _ S2 H2 (g1.trans g2) w2 (h4' x d' c3) q2
      · exact q2.elim
    · exact q1.elim) xl
/-! ### a def that hands out a new thing -/
def cSpF (K : PySem.W.Frag) (sp : ASp) : Sp := fun vs H Q E => ∃ o S bs Qa Xa, Wl o S H ∧ Paired (BR K o H S H) vs bs ∧ (∀ b ∈ bs, b.isOw = false) ∧ sp bs Qa Xa ∧
  (∀ a d S' H', GrO o S H S' H' → Wl o S' H' → H a = none → S' a = none → Top K S' (H' a) d → Qa d → Q (.ref a) H') ∧
  (∀ C fs dd S' H', GrO o S H S' H' → Wl o S' H' → H dd = none → Exn K S' H' dd fs → Xa C fs → E (.ref C) (some dd) H')
theorem cSpF_len {n : Nat} {sp : ASp} (h : ∀ bs Q X, sp bs Q X → bs.length = n) {vs : List V} {H : Hp} {Q : VK} {E : XK} (q : cSpF K sp vs H Q E) : vs.length = n := by
  obtain ⟨o, S, bs, Qa, Xa, _, hp, _, hs, _⟩ := q
  rw [paired_len hp]
  exact h bs Qa Xa hs
theorem fn_AXF {sp : ASp} {t : TS} {as : AS} {N : List Str} {vs : List V} {H : Hp} {Q : VK} {E : XK} (hs : SA K (fun cls d _ H' => E cls d H') t as) (h : cSpF K sp vs H Q E)
    (hab : ∀ bs Qa Xa, sp bs Qa Xa → as ⟨fun _ => False, fun _ => False, Qa, fun _ => False, fun _ => False, fun _ => Xa⟩ (bs.map some ++ List.replicate (N.length - bs.length) none)) : t { nx := fun _ H' => Q .non H', rt := Q } (L2.start N vs) H := by
  obtain ⟨o, S, bs, Qa, Xa, w, hp, no, q, k1, k2⟩ := h
  refine hs o S H S H _ _ ⟨fun _ => False, fun _ => False, Qa, fun _ => False, fun _ => False, fun _ => Xa⟩ _ (st_start w hp no) ⟨fun _ _ _ _ _ q => q.elim, fun _ _ _ _ _ q => q.elim, fun _ _ _ _ _ q => q.elim, fun _ _ _ _ _ _ _ q => q.elim, fun a d S' H' g w n ns t q => k1 a d S' H' g w n ns t q, fun σ env C fs dd S' H' st n e q => k2 C fs dd S' H' st.gr st.es.wl n e q⟩ (hab bs Qa Xa q)
def aRetNw (a : AN) (E : AEnds) (env : AEnv) : Prop := a E.ax env fun d => E.rn d
theorem sa_retNw {an : AN} (h : EN K W te an) : SA K W (tRet te) (aRetNw an) := fun o S0 H0 S H σ env E Dc st lk q =>
  h o H0 S H σ env E.ax _ _ st.es q (fun a d S1 H1 g1 w1 n ns t q1 => lk.rn a d S1 H1 (st.gr.trans g1) w1 (st.gr.bk n) ns t q1) (lk.xl st)
/-- o.m(..) that gives a new thing -/
def aMethN (C : Addr) (n : Str) (sp : ASp) (ms : List Bool) (a : AE) (r : AA) (ax : AX) (env : AEnv) (Q : D → Prop) : Prop := a ax env fun x => match x.get with
  | .obj C' fs => C' = C ∧ fs.lookup n = none ∧ r ax env fun bs => sp (coes ms (x :: bs)) Q (ax env)
  | _ => False
theorem en_methX {C : Addr} {n : Str} {sp : ASp} {c : Nat} {t : TA} {r : AA} (ms : List Bool) (ha : EA K W ta aa) (hl : EL K W c t r) : EN K W (tMethW C n (cSpF K sp) (WE W) ta t) (aMethN C n sp ms aa r) := fun o H0 S H σ env ax Q Qc es q k xl =>
  ha o H0 S H σ env ax _ _ es q (fun v b S1 H1 g1 w1 r1 q1 => by
    split at q1
    · rename_i C' fds e
      obtain ⟨rfl, hn, q1⟩ := q1
      obtain ⟨a, dx, fs, rfl, h1, h2, S', h3, h4⟩ := r1.obj w1 (g1.kp es.kp) e
      refine ⟨a, dx, fs, rfl, h1, lookup_none h2 hn, hl o H0 S1 H1 σ env ax _ _ (es.mono g1 w1) q1 (fun vs bs S2 H2 g2 w2 r2 _ q2 => ?_) (xl.mono g1)⟩
      obtain ⟨p1, p2⟩ := coes_ok w2 ((g1.trans g2).kp es.kp) ms (.cons (r1.mono g2) r2)
      exact ⟨o, S2, _, _, _, w2, p1, p2, q2, fun a d S' H' g w n ns t q => k a d S' H' ((g1.trans g2).trans g) w ((g1.trans g2).bk n) ns t q, fun C fs dd S' H' g w n e q => xl C fs dd S' H' ((g1.trans g2).trans g) w ((g1.trans g2).bk n) e q⟩
    · exact q1.elim) xl
end
end WW

set_option Elab.async false
set_option linter.all false
set_option maxRecDepth 100000
set_option maxHeartbeats 4000000
namespace WW
open PySem PySem.Spec PyProof.Rows L2
local macro_rules | `(tactic| array_mem_dec) => `(tactic| try dsimp only [slot, aVar, aC, aOp, ifB_t, ifB_f, aTest, aAnd, aOr, aNot, aAndV, aOrT, aOrV, aNotV, aIfE, aChain, aNil, aCons, aName, aGNil, aGCons, aGTup, aNext, aIf, aRet, aRetO, aRetN, aDrop, aAsg, aNew, aPar, aParN, aPar3, frz, aFz, aNever, aLoop, aFor, aCol, aLc, aYes, fAdd, fSub, fMul, fMod, fDiv, fPow, fLt, fLe, fGt, fGe, fI, fIc, fCatS, fLtS, eqD, fEq, fNe, fIsN, fNotN, aFn1, fNeg, fLen, fInt, fAbs, fAll, fAny, aFn2, fMax, truD, aTru, aIxL, aIxT, aIxQ, fIxS, stabs, aTup, aLst, aFix, B.solid, B.get, B.sub, aCat, aListOf, aTupOf, aONone, aOSome, aSlL, aRevL, aSortSet, aListAny, aListDK, aCopyD, aLenSet, aSortDK, aSortS, aRetNw, aMethN, aEi, aIQ, aDgN, aDget, aDgetN, fDin, fDnin, aDnew, aDput, fLenD, D.key, aFld, aProp, aMeth, aMeth0, putFD, aSetF, aMake, aMake0, aRaise, isIn, isBo, isS, isL, isT, isDi, isRow, isNo, knD, aIs, aIsRow, D.fl, fInF, fNinF, fInS, fEqY, fNeY, fEqP, fNeP, fInP, fNinP, aLcK, aDc, aIE, aIS, aTry, aHand, aXf, aXis, aIL, aICL, aIT, aIR1, aIR2, coe1, coes, aCall, aCall0, aApp, awipe, List.set, List.map, List.cons_append, List.nil_append, List.replicate, List.length, Nat.reduceSub, Nat.reduceAdd])
local macro_rules | `(tactic| array_get_dec) => `(tactic| (array_mem_dec; repeat (with_reducible refine go_seq ?_; array_mem_dec)))
section
variable {P : Program} {w : World} {K : PySem.W.Frag} {mg : Str → Option Value} {base : Heap}
def spDrawA : ASp := fun bs Q _ => ∃ n : Int, bs = [.pool, .st (.int n)] ∧ 0 < n ∧ n < 1000000 ∧ ∀ d : Int, 0 ≤ d → d < n → Q (.int d)
theorem ok_drawA (DLdraw : Df K mg "_law_draw" sLdraw ["_law_pool_here", "_law_many"] fLdraw fdLdraw) (T : Bl mg) : FnOk P w K mg base CX0 1 fLdraw fdLdraw ["_law_pool_here", "_law_many"] (cSp K spDrawA) := (ok_draw DLdraw T).imp fun vs H Q E h => by
  obtain ⟨o, S, bs, Qa, Xa, wl, hp, _, ⟨n, rfl, n0, n1, q⟩, k1, _⟩ := h
  match vs, hp with
  | [v, u], .cons ⟨p, ho, hv⟩ (.cons hu .nil) =>
    subst ho hv
    rw [rep_int (show Rep K S u (.int n) from hu)]
    exact ⟨p, S, n, rfl, n0, n1, wl.2 p rfl, fun d S' H' P' g' d0 d1 => k1 (.int d) (.int d) S' H' (GrO.of g') ⟨P'.ss, fun p' e => by cases e; exact P'⟩ (.int d) (q d d0 d1)⟩
def spPickA : ASp := fun bs Q _ => ∃ ds : List D, (bs = [.pool, .st (.lst ds)] ∨ bs = [.pool, .st (.tup ds)]) ∧ 0 < ds.length ∧ ds.length < 1000 ∧ ∀ (i : Nat) d, ds[i]? = some d → Q d
theorem ok_pickA (DLpick : Df K mg "_law_pick" sLpick ["_law_pool_here", "_law_items"] fLpick fdLpick) (DLdraw : Df K mg "_law_draw" sLdraw ["_law_pool_here", "_law_many"] fLdraw fdLdraw) (GLdraw : FnOk P w K mg base CX0 1 fLdraw fdLdraw ["_law_pool_here", "_law_many"] (cSp K spDrawA)) (T : Bl mg) : FnOk P w K mg base CX0 2 fLpick fdLpick ["_law_pool_here", "_law_items"] (cSp K spPickA) := by
  refine DLpick.fn.ok scLpick (fun vs H Q E h => cSp_len (fun bs Q X h => by obtain ⟨ds, rfl | rfl, _⟩ := h <;> rfl) h) (fun cdv A outer s H vs Q E hr h => ?_)
  refine ⟨_, (pss_one (ps_ret (pe_ix ix_seq (pv 1) (pe_df DLdraw GLdraw (hr.mono (by decide)) (pa_cons (pv 0) (pa_cons (pe_callB call_len (by rfl) T.len (by decide +kernel) (pa_cons (pv 1) pa_nil)) pa_nil))) (fun _ _ => rfl)))), ?_⟩
  refine fn_A ((sa_ret (ea_ixQ (ea_var 1) (ea_call [] (el_cons (ea_var 0) (el_cons (ea_b1 rc_len (ea_var 1)) el_nil)))))) h fun bs Qa Xa h => ?_
  obtain ⟨ds, rfl | rfl, l0, l1, q⟩ := h
  · array_get_dec
    refine ⟨_, rfl, by omega, by omega, fun d d0 d1 => ?_⟩
    array_get_dec
    have hd : d.toNat < ds.length := by omega
    exact ⟨ds[d.toNat], at_ofG (j := d.toNat) (by omega) (List.getElem?_eq_getElem hd), q _ _ (List.getElem?_eq_getElem hd)⟩
  · array_get_dec
    refine ⟨_, rfl, by omega, by omega, fun d d0 d1 => ?_⟩
    array_get_dec
    have hd : d.toNat < ds.length := by omega
    exact ⟨ds[d.toNat], at_ofG (j := d.toNat) (by omega) (List.getElem?_eq_getElem hd), q _ _ (List.getElem?_eq_getElem hd)⟩
def spNameA : ASp := fun bs Q _ => ∃ ts : List Str, bs = [.pool, .br (.lst (ts.map D.str))] ∧ ts.length < 26 ∧ ∀ z, NameOk z → z ∉ ts → Q (.str z)
theorem ok_nameA (DLname : Df K mg "_law_name" sLname ["_law_pool_here", "_law_taken"] fLname fdLname) (DLdraw : Df K mg "_law_draw" sLdraw ["_law_pool_here", "_law_many"] fLdraw fdLdraw) (T : Bl mg) : FnOk P w K mg base CX0 2 fLname fdLname ["_law_pool_here", "_law_taken"] (cSp K spNameA) := (ok_name DLname DLdraw T).imp fun vs H Q E h => by
  obtain ⟨o, S, bs, Qa, Xa, wl, hp, _, ⟨ts, rfl, l1, q⟩, k1, _⟩ := h
  match vs, hp with
  | [v, u], .cons ⟨p, ho, hv⟩ (.cons hu .nil) =>
    subst ho hv
    obtain ⟨a, xs, rfl, h1, h2⟩ := rep_lst (show Rep K (offp (some p) H) u (.lst (ts.map D.str)) from hu)
    rw [repL_strs h2] at h1
    have nap : a ≠ p := fun e => by
      unfold offp at h1
      rw [e, if_pos rfl] at h1
      cases h1
    have h3 : H a = some (.lst (ts.map V.str)) := off_same (fun _ _ _ h => h) _ _ h1
    exact ⟨p, a, S, ts, rfl, wl.2 p rfl, h3, nap, l1, fun z S' H' hz hn P' g' => k1 (.str z) (.str z) S' H' (GrO.of g') ⟨P'.ss, fun p' e => by cases e; exact P'⟩ (.str z) (q z hz hn)⟩
def spNamesA : ASp := fun bs Q _ => ∃ n : Int, bs = [.pool, .st (.int n)] ∧ 0 ≤ n ∧ n ≤ 26 ∧ ∀ zs : List Str, zs.length = n.toNat → zs.Nodup → (∀ z ∈ zs, NameOk z) → Q (.lst (zs.map D.str))
theorem ok_namesA (DLnames : Df K mg "_law_names" sLnames ["_law_pool_here", "_law_many"] fLnames fdLnames) (DLname : Df K mg "_law_name" sLname ["_law_pool_here", "_law_taken"] fLname fdLname) (GLname : FnOk P w K mg base CX0 2 fLname fdLname ["_law_pool_here", "_law_taken"] (cSp K spNameA)) (T : Bl mg) : FnOk P w K mg base CX0 3 fLnames fdLnames ["_law_pool_here", "_law_many"] (cSp K spNamesA) := by
  refine DLnames.fn.ok scLnames (fun vs H Q E h => cSp_len (fun bs Q X h => by obtain ⟨ds, rfl, _⟩ := h; rfl) h) (fun cdv A outer s H vs Q E hr h => ?_)
  refine ⟨_, (pss_cons (ps_set (i := 2) scLnames.nd rfl (Or.inl rfl) (pe_lst pa_nil))
      (pss_cons (ps_for PassesOwn.never rfl (pi_range1 (by rfl) T.range (pa_cons (pv 1) pa_nil)) (pg_name (i := 3) scLnames.nd rfl (Or.inl rfl)) (pss_one (ps_expr (pe_bm PySem.F.plainAttrs_list PySem.F.slot_list_append PySem.F.type_list_append mt_append (pv 2) (pa_cons (pe_df DLname GLname (hr.mono (by decide)) (pa_cons (pv 0) (pa_cons (pv 2) pa_nil))) pa_nil)))))
      (pss_one (ps_ret (pv 2))))), ?_⟩
  refine fn_A ((sa_seq (sa_new 2 (en_lst el_nil))
      (sa_seq (sa_for (ei_range1 (ea_var 1)) (ga_name (js := [3]) 3) (sa_app 2 (ea_call [false, true] (el_cons (ea_var 0) (el_cons (ea_var 2) el_nil)))))
      (sa_retO 2)))) h fun bs Qa Xa h => ?_
  obtain ⟨n, rfl, n0, n1, q⟩ := h
  array_get_dec
  intro a
  refine ⟨⟨by omega, by omega⟩, ?_⟩
  refine aLoop_inv (fun i env => ∃ u zs, env = [some .pool, some (.st (.int n)), some (.ow a (.lst (zs.map D.str))), u] ∧ zs.length = i ∧ zs.Nodup ∧ ∀ z ∈ zs, NameOk z) ⟨_, [], rfl, rfl, List.nodup_nil, fun z h => by simp at h⟩ ?_ ?_
  · rintro i x env R hx ⟨u, zs, rfl, hl, nd, ok⟩ hR
    have hi : i < n.toNat := by
      have := (List.getElem?_eq_some_iff.mp hx).1
      simpa [rngB] using this
    obtain ⟨v, rfl⟩ : ∃ v : Int, x = .st (.int v) := by
      unfold rngB at hx
      rw [List.getElem?_map] at hx
      obtain ⟨y, _, e⟩ := Option.map_eq_some_iff.mp hx
      exact ⟨_, e.symm⟩
    array_get_dec
    refine ⟨zs, rfl, by omega, fun z hz hn => ⟨by rw [List.length_map]; omega, hR _ ⟨some (.st (.int v)), zs ++ [z], ?_, by simp [hl], ?_, ?_⟩⟩⟩
    · simp
    · rw [List.nodup_append]
      exact ⟨nd, by simp, fun x hx y hy e => hn (by rw [List.mem_singleton.mp hy] at e; rw [← e]; exact hx)⟩
    · intro y hy
      rcases List.mem_append.mp hy with h | h
      · exact ok y h
      · rw [List.mem_singleton.mp h]; exact hz
  · rintro env ⟨u, zs, rfl, hl, nd, ok⟩
    array_get_dec
    exact q zs (by rw [hl]; simp [rngB]) nd ok
end
end WW

set_option Elab.async false
set_option linter.all false
set_option maxRecDepth 100000
set_option maxHeartbeats 4000000
namespace WW
open PySem PySem.Spec PyProof.Rows L2
/-! ### the program's checks, over data -/
/-- a thing of a built-in kind -/
structure Thg (d : D) : Prop where
  k : knD d ≠ none
  s : ∀ z, d = .str z → z.length ≤ sizeLine
def dInt : D → Bool
  | .int _ => true
  | _ => false
def dBtw (lo hi : Int) : D → Bool
  | .int i => decide (lo ≤ i) && decide (i ≤ hi)
  | _ => false
def dNm : D → Bool
  | .str z => nmB z
  | _ => false
def dRow : D → Bool
  | .lst _ => true
  | .tup _ => true
  | _ => false
theorem thg_str {z : Str} (h : NameOk z) : Thg (.str z) := ⟨by simp [knD], fun y e => by cases e; exact Nat.le_trans h.2.1 (by decide)⟩
theorem thg_int (i : Int) : Thg (.int i) := ⟨by simp [knD], fun y e => by cases e⟩
theorem thg_non : Thg .non := ⟨by simp [knD], fun y e => by cases e⟩
theorem thg_bl (b : Bool) : Thg (.bl b) := ⟨by simp [knD], fun y e => by cases e⟩
theorem thg_lst (ds : List D) : Thg (.lst ds) := ⟨by simp [knD], fun y e => by cases e⟩
theorem thg_tup (ds : List D) : Thg (.tup ds) := ⟨by simp [knD], fun y e => by cases e⟩
theorem thg_dK (ds : List (Key × D)) : Thg (.dK ds) := ⟨by simp [knD], fun y e => by cases e⟩
section
variable {K : PySem.W.Frag}
theorem kd_rep {H : Hp} {v : V} {d : D} (r : Rep K H v d) (t : Thg d) : ∃ n, Kd K H v n := by
  cases e : knD d with
  | none => exact absurd e t.k
  | some n =>
    obtain ⟨h1, h2⟩ := kn_ty r e
    refine ⟨n, h1, h2, fun z hz => ?_⟩
    subst hz
    cases r with
    | str => exact t.s z rfl
    | opq => exact absurd rfl t.k
theorem btw_rep {H : Hp} {v : V} {d : D} {lo hi : Int} (r : Rep K H v d) (t : Thg d) : btw lo hi v = dBtw lo hi d := by
  cases r <;> first | rfl | exact absurd rfl t.k
theorem nm_rep {H : Hp} {v : V} {d : D} (r : Rep K H v d) (t : Thg d) : isNm v = dNm d := by
  cases r <;> first | rfl | exact absurd rfl t.k
end
section
variable {P : Program} {w : World} {K : PySem.W.Frag} {mg : Str → Option Value} {base : Heap}
def spBtwA : ASp := fun bs Q _ => ∃ (d : D) (lo hi : Int), bs = [.st d, .st (.int lo), .st (.int hi)] ∧ Thg d ∧ Q (.bl (dBtw lo hi d))
theorem ok_btwA (DIs_between : Df K mg "is_between" sIs_between ["thing", "low", "high"] fIs_between fdIs_between) (DIs_integer : Df K mg "is_integer" sIs_integer ["thing"] fIs_integer fdIs_integer) (T : Bl mg) : FnOk P w K mg base CX0 2 fIs_between fdIs_between ["thing", "low", "high"] (cSp K spBtwA) := (ok_is_between DIs_between DIs_integer T).imp fun vs H Q E h => by
  obtain ⟨o, S, bs, Qa, Xa, wl, hp, _, ⟨d, lo, hi, rfl, td, q⟩, k1, _⟩ := h
  match vs, hp with
  | [v, u, u2], .cons hv (.cons hu (.cons hu2 .nil)) =>
    have hv : Rep K S v d := hv
    rw [rep_int (show Rep K S u (.int lo) from hu), rep_int (show Rep K S u2 (.int hi) from hu2)]
    obtain ⟨n, hk⟩ := kd_rep (Rep.same wl.1 hv) td
    refine ⟨v, n, lo, hi, rfl, hk, ?_⟩
    rw [btw_rep hv td]
    exact k1 _ _ S H GrO.refl wl (.bl _) q
def spNmA : ASp := fun bs Q _ => ∃ d : D, bs = [.st d] ∧ Thg d ∧ Q (.bl (dNm d))
theorem ok_nmA (DIs_name : Df K mg "is_name" sIs_name ["thing"] fIs_name fdIs_name) (T : Bl mg) (C : Cst mg) : FnOk P w K mg base CX0 1 fIs_name fdIs_name ["thing"] (cSp K spNmA) := (ok_is_name DIs_name T C).imp fun vs H Q E h => by
  obtain ⟨o, S, bs, Qa, Xa, wl, hp, _, ⟨d, rfl, td, q⟩, k1, _⟩ := h
  match vs, hp with
  | [v], .cons hv .nil =>
    have hv : Rep K S v d := hv
    obtain ⟨n, hk⟩ := kd_rep (Rep.same wl.1 hv) td
    refine ⟨v, n, rfl, hk, fun H' s => ?_⟩
    rw [nm_rep hv td]
    exact k1 _ _ S H' (GrO.same s) (wl.same s) (.bl _) q
def spRowA : ASp := fun bs Q _ => ∃ d : D, (bs = [.st d] ∨ bs = [.br d]) ∧ Thg d ∧ Q (.bl (dRow d))
theorem row_kn {d : D} {n : String} (h : knD d = some n) : (n == "list" || n == "tuple") = dRow d := by
  cases d <;> simp [knD] at h <;> subst h <;> simp [dRow]
theorem ok_rowA (DIs_row : Df K mg "is_row" sIs_row ["thing"] fIs_row fdIs_row) (T : Bl mg) : FnOk P w K mg base CX0 1 fIs_row fdIs_row ["thing"] (cSp K spRowA) := (ok_is_row DIs_row T).imp fun vs H Q E h => by
  obtain ⟨o, S, bs, Qa, Xa, wl, hp, _, ⟨d, hb, td, q⟩, k1, _⟩ := h
  have fin : ∀ v, Rep K H v d → spIsRow K [v] H Q E := fun v hv => by
    cases e : knD d with
    | none => exact absurd e td.k
    | some n =>
      obtain ⟨h1, h2⟩ := kn_ty hv e
      refine ⟨v, n, rfl, ⟨h1, h2, fun z hz => ?_⟩, fun H' s => ?_⟩
      · subst hz
        cases hv with
        | str => exact td.s z rfl
        | opq => cases e
      · rw [row_kn e]
        exact k1 _ _ S H' (GrO.same s) (wl.same s) (.bl _) q
  rcases hb with rfl | rfl
  · match vs, hp with
    | [v], .cons hv .nil => exact fin v (Rep.same wl.1 hv)
  · match vs, hp with
    | [v], .cons hv .nil => exact fin v (Rep.same (off_same fun _ _ _ h => h) (show Rep K (offp o H) v d from hv))
end
end WW

set_option Elab.async false
set_option linter.all false
set_option maxRecDepth 100000
set_option maxHeartbeats 4000000
namespace WW
open PySem PySem.Spec PyProof.Rows L2
local macro_rules | `(tactic| array_mem_dec) => `(tactic| try dsimp only [slot, aVar, aC, aOp, ifB_t, ifB_f, aTest, aAnd, aOr, aNot, aAndV, aOrT, aOrV, aNotV, aIfE, aChain, aNil, aCons, aName, aGNil, aGCons, aGTup, aNext, aIf, aRet, aRetO, aRetN, aDrop, aAsg, aNew, aPar, aParN, aPar3, frz, aFz, aNever, aLoop, aFor, aCol, aLc, aYes, fAdd, fSub, fMul, fMod, fDiv, fPow, fLt, fLe, fGt, fGe, fI, fIc, fCatS, fLtS, eqD, fEq, fNe, fIsN, fNotN, aFn1, fNeg, fLen, fInt, fAbs, fAll, fAny, aFn2, fMax, truD, aTru, aIxL, aIxT, aIxQ, fIxS, stabs, aTup, aLst, aFix, B.solid, B.get, B.sub, aCat, aListOf, aTupOf, aONone, aOSome, aSlL, aRevL, aSortSet, aListAny, aListDK, aCopyD, aLenSet, aSortDK, aSortS, aRetNw, aMethN, aEi, aIQ, aDgN, aDget, aDgetN, fDin, fDnin, aDnew, aDput, fLenD, D.key, aFld, aProp, aMeth, aMeth0, putFD, aSetF, aMake, aMake0, aRaise, isIn, isBo, isS, isL, isT, isDi, isRow, isNo, knD, aIs, aIsRow, D.fl, fInF, fNinF, fInS, fEqY, fNeY, fEqP, fNeP, fInP, fNinP, aLcK, aDc, aIE, aIS, aTry, aHand, aXf, aXis, aIL, aICL, aIT, aIR1, aIR2, coe1, coes, aCall, aCall0, aApp, awipe, List.set, List.map, List.cons_append, List.nil_append, List.replicate, List.length, Nat.reduceSub, Nat.reduceAdd])
local macro_rules | `(tactic| array_get_dec) => `(tactic| (array_mem_dec; repeat (with_reducible refine go_seq ?_; array_mem_dec)))
structure Cm (mg : Str → Option Value) : Prop where
  mw : ∃ t, mg "MOST_WORDS" = some (.int 10 t)
  mc : ∃ t, mg "MOST_COST" = some (.int 1000 t)
def zD (zs : ZZ) : List (Key × D) := zs.map fun p => (Sum.inr p.1, D.str p.2)
theorem zD_keys (zs : ZZ) : (zD zs).map (·.1) = (zs.map (·.1)).map Sum.inr := by
  unfold zD
  rw [List.map_map, List.map_map]
  rfl
theorem zD_val {zs : ZZ} (nd : (zs.map (·.1)).Nodup) {p : Str × Str} (h : p ∈ zs) : valD (zD zs) (Sum.inr p.1) = some (.str p.2) := by
  refine valD_mem ?_ (List.mem_map.mpr ⟨p, h, rfl⟩)
  rw [zD_keys]
  exact List.pairwise_map.mpr (nd.imp fun {a b} n e => n (Sum.inr.inj e))
def senF (n : Str) (p c : Int) (zs : ZZ) : List (Str × D) := [("title", .str n), ("place", .int p), ("fee", .int c), ("shows", .dK (zD (showZ zs)))]
def lokF (n : Str) (p c : Int) (ws : List Str) : List (Str × D) := [("title", .str n), ("place", .int p), ("fee", .int c), ("stops", .lst ((ws.mergeSort leS).map D.str))]
theorem dNm_ok {z : Str} (h : NameOk z) : dNm (.str z) = true := (nmB_iff z).mpr h
/-! ### super().__init__(name, post, cost) -/
section
variable {K : PySem.W.Frag} {W : WX} {ta tb tc te : TE} {aa ab ac ae : AE} {us : TS} {bs : AS}
def aSup (K : PySem.W.Frag) (C : Addr) (a b c : AE) (r : AS) (E : AEnds) (env : AEnv) : Prop := match slot env 0 with
  | some (.ow s (.obj C' [])) => C' = C ∧ Kl K C ∧ a E.ax env fun x => b E.ax env fun y => c E.ax env fun z => match x, y, z with
    | .st d1, .st d2, .st d3 => r E (env.set 0 (some (.ow s (.obj C [("title", d1), ("place", d2), ("fee", d3)]))))
    | _, _, _ => False
  | _ => False
theorem sa_sup {C : Addr} (ha : EA K W ta aa) (hb : EA K W tb ab) (hc : EA K W tc ac) (hu : SA K W us bs) : SA K W (tSupO C (spIInit K) (tCons ta (tCons tb (tCons tc tNil))) us) (aSup K C aa ab ac bs) := fun o S0 H0 S H σ env E Dc st lk q => by
  unfold aSup at q
  split at q
  · rename_i s C' e
    obtain ⟨rfl, kl, q⟩ := q
    obtain ⟨v, e1, rfl, ns, np, t⟩ := st.es.sl 0 _ e
    generalize hx : H s = z at t
    cases t with
    | @ins _ dx fs _ t1 t2 =>
      have hf : fs = [] := by
        cases fs with
        | nil => rfl
        | cons _ _ => simp at t1
      subst hf
      refine ⟨s, dx, [], e1, hx, ?_⟩
      refine ha o H0 S H σ env E.ax _ _ st.es q (fun v1 b1 S1 H1 g1 w1 r1 q1 => ?_) (lk.xl st)
      have st1 := st.mono g1 w1
      refine hb o H0 S1 H1 σ env E.ax _ _ st1.es q1 (fun v2 b2 S2 H2 g2 w2 r2 q2 => ?_) (lk.xl st1)
      have st2 := st1.mono g2 w2
      refine hc o H0 S2 H2 σ env E.ax _ _ st2.es q2 (fun v3 b3 S3 H3 g3 w3 r3 q3 => ?_) (lk.xl st2)
      have st3 := st2.mono g3 w3
      split at q3
      · rename_i d1 d2 d3
        have hx3 := g3.rs s _ np (g2.rs s _ np (g1.rs s _ np hx))
        refine ⟨s, dx, C', v1, v2, v3, rfl, hx3, kl, ?_⟩
        have i1 : iF v1 v2 v3 = [(("title" : Str), v1), (("place" : Str), v2), (("fee" : Str), v3)] := by
          unfold iF
          simp only [putF, fn1, fn2, fn3, if_false]
        rw [i1]
        refine hu o S0 H0 S3 _ σ _ E Dc (st3.put (u := .ins C' dx [(("title" : Str), v1), (("place" : Str), v2), (("fee" : Str), v3)]) e ?_) lk q3
        exact .ins rfl (.cons ((r1.mono g2).mono g3) (.cons (r2.mono g3) (.cons r3 .nil)))
      · exact q3.elim
  · exact q.elim
/-- len(set(x)) -/
theorem ea_lenSet {P : Program} {w : World} (ha : EA K W ta aa) : EA K W (tCB (fun xs H Q => ∃ (a : Addr) (ks : List Key), xs = [.ref a] ∧ H a = some (SetKo P w a ks) ∧ ks.length ≤ 1000 ∧ Q (.int (ks.length : Int)) H)
    (tCons (tCB (fun xs H Q => ∃ (l : Addr) (zs : List Str), xs = [.ref l] ∧ (SqL K H l (zs.map V.str) ∨ SqT K H l (zs.map V.str)) ∧ zs.length ≤ 100 ∧ ∀ a, H a = none → Q (.ref a) (upd H a (SetKo P w a ((insAll zs).map Sum.inr)))) (tCons ta tNil)) tNil)) (aLenSet aa) := fun o H0 S H σ env ax Q Qc es q k xl =>
  ha o H0 S H σ env ax _ _ es q (fun v b S1 H1 g1 w1 r1 q1 => by
    have rn := r1.now w1 (g1.kp es.kp)
    have fin : ∀ (zs : List Str), zs.length ≤ 100 → Q (.st (.int ((insAll zs).length : Nat))) → ∀ s, H1 s = none → ∃ (a : Addr) (ks : List Key), ([.ref s] : List V) = [.ref a] ∧ upd H1 s (SetKo P w s ((insAll zs).map Sum.inr)) a = some (SetKo P w a ks) ∧ ks.length ≤ 1000 ∧ Qc (.int (ks.length : Int)) (upd H1 s (SetKo P w s ((insAll zs).map Sum.inr))) := fun zs h1 q s hs => by
      have := insAll_len zs
      refine ⟨s, _, rfl, upd_same, by rw [List.length_map]; omega, ?_⟩
      rw [List.length_map]
      exact k _ (.st (.int _)) S1 _ (g1.trans (GrO.lay hs)) (w1.put (w1.1.free hs) (w1.np hs)) (BR.ofSc rfl) q
    split at q1
    · rename_i ds e
      obtain ⟨zs, rfl, h1, q1⟩ := q1
      rw [e] at rn
      obtain ⟨a, xs, rfl, h3, h4⟩ := rep_lst rn
      rw [repL_strs h4] at h3
      exact ⟨a, zs, rfl, .inl (SqL.of h3), h1, fin zs h1 q1⟩
    · rename_i ds e
      obtain ⟨zs, rfl, h1, q1⟩ := q1
      rw [e] at rn
      obtain ⟨a, xs, rfl, h3, h4⟩ := rep_tup rn
      rw [repL_strs h4] at h3
      exact ⟨a, zs, rfl, .inr h3, h1, fin zs h1 q1⟩
    · exact q1.elim) xl
end
section
variable {P : Program} {w : World} {K : PySem.W.Frag} {mg : Str → Option Value} {base : Heap}
abbrev sCheck_head : Stmt := topS 20
abbrev nCheck_head : List Str := ["name", "post"]
theorem scCheck_head : FnScope nCheck_head ["name", "post"] (defScope sCheck_head) := ⟨rfl, rfl, rfl, by decide +kernel, rfl, by decide +kernel, by decide +kernel⟩
def spHeadA : ASp := fun bs Q _ => ∃ (n : Str) (p : Int), bs = [.st (.str n), .st (.int p)] ∧ NameOk n ∧ (0 ≤ p ∧ p ≤ 1) ∧ Q .non
theorem ok_headA (DCheck_head : Df K mg "check_head" sCheck_head ["name", "post"] fCheck_head fdCheck_head) (DIs_name : Df K mg "is_name" sIs_name ["thing"] fIs_name fdIs_name) (GIs_name : FnOk P w K mg base CX0 1 fIs_name fdIs_name ["thing"] (cSp K spNmA)) (DIs_between : Df K mg "is_between" sIs_between ["thing", "low", "high"] fIs_between fdIs_between) (GIs_between : FnOk P w K mg base CX0 2 fIs_between fdIs_between ["thing", "low", "high"] (cSp K spBtwA)) : FnOk P w K mg base CX0 3 fCheck_head fdCheck_head ["name", "post"] (cSp K spHeadA) := by
  refine DCheck_head.fn.ok scCheck_head (fun vs H Q E h => cSp_len (fun bs Q X h => by obtain ⟨n, p, rfl, _⟩ := h; rfl) h) (fun cdv A outer s H vs Q E hr h => ?_)
  refine ⟨_, (pss_cons (ps_if (pt_not (pt_val (pe_df DIs_name GIs_name (hr.mono (by decide)) (pa_cons (pv 0) pa_nil)))) (pss_one ps_never) pss_nil)
      (pss_one (ps_if (pt_not (pt_val (pe_df DIs_between GIs_between (hr.mono (by decide)) (pa_cons (pv 1) (pa_cons pe_int (pa_cons pe_int pa_nil)))))) (pss_one ps_never) pss_nil))), ?_⟩
  refine fn_A ((sa_seq (sa_if (et_not (et_B (ea_call [] (el_cons (ea_var 0) el_nil)))) sa_never sa_next)
      (sa_if (et_not (et_B (ea_call [] (el_cons (ea_var 1) (el_cons ea_cI (el_cons ea_cI el_nil)))))) sa_never sa_next))) h fun bs Qa Xa h => ?_
  obtain ⟨n, p, rfl, hn, hp, q⟩ := h
  array_get_dec
  refine ⟨_, rfl, thg_str hn, ?_⟩
  rw [dNm_ok hn]
  array_get_dec
  refine ⟨_, _, _, rfl, thg_int p, ?_⟩
  rw [show dBtw 0 1 (.int p) = true by simp [dBtw, hp.1, hp.2]]
  exact q
abbrev sCheck_cost : Stmt := topS 21
abbrev nCheck_cost : List Str := ["cost"]
theorem scCheck_cost : FnScope nCheck_cost ["cost"] (defScope sCheck_cost) := ⟨rfl, rfl, rfl, by decide +kernel, rfl, by decide +kernel, by decide +kernel⟩
def spCostA : ASp := fun bs Q _ => ∃ c : Int, bs = [.st (.int c)] ∧ (1 ≤ c ∧ c ≤ 1000) ∧ Q .non
theorem ok_costA (DCheck_cost : Df K mg "check_cost" sCheck_cost ["cost"] fCheck_cost fdCheck_cost) (DIs_between : Df K mg "is_between" sIs_between ["thing", "low", "high"] fIs_between fdIs_between) (GIs_between : FnOk P w K mg base CX0 2 fIs_between fdIs_between ["thing", "low", "high"] (cSp K spBtwA)) (C : Cm mg) : FnOk P w K mg base CX0 3 fCheck_cost fdCheck_cost ["cost"] (cSp K spCostA) := by
  obtain ⟨t, hMC⟩ := C.mc
  refine DCheck_cost.fn.ok scCheck_cost (fun vs H Q E h => cSp_len (fun bs Q X h => by obtain ⟨n, rfl, _⟩ := h; rfl) h) (fun cdv A outer s H vs Q E hr h => ?_)
  refine ⟨_, (pss_one (ps_if (pt_not (pt_val (pe_df DIs_between GIs_between (hr.mono (by decide)) (pa_cons (pv 0) (pa_cons pe_int (pa_cons (pe_glob (v := .int 1000) (by rfl) hMC ⟨_, rfl⟩) pa_nil)))))) (pss_one ps_never) pss_nil)), ?_⟩
  refine fn_A ((sa_if (et_not (et_B (ea_call [] (el_cons (ea_var 0) (el_cons ea_cI (el_cons ea_cI el_nil)))))) sa_never sa_next)) h fun bs Qa Xa h => ?_
  obtain ⟨c, rfl, hc, q⟩ := h
  array_get_dec
  refine ⟨_, _, _, rfl, thg_int c, ?_⟩
  rw [show dBtw 1 1000 (.int c) = true by simp [dBtw, hc.1, hc.2]]
  exact q
abbrev sAre_sights : Stmt := topS 22
abbrev nAre_sights : List Str := ["thing", "word"]
theorem scAre_sights : FnScope nAre_sights ["thing"] (defScope sAre_sights) := ⟨rfl, rfl, rfl, by decide +kernel, rfl, by decide +kernel, by decide +kernel⟩
def spAreSA : ASp := fun bs Q _ => ∃ zs : ZZ, bs = [.st (.dK (zD zs))] ∧ goodZ zs ∧ Q (.bl true)
theorem ok_areSA (DAre_sights : Df K mg "are_sights" sAre_sights ["thing"] fAre_sights fdAre_sights) (DIs_name : Df K mg "is_name" sIs_name ["thing"] fIs_name fdIs_name) (GIs_name : FnOk P w K mg base CX0 1 fIs_name fdIs_name ["thing"] (cSp K spNmA)) (T : Bl mg) (Tdict : mg "dict" = none) (C : Cm mg) : FnOk P w K mg base CX0 2 fAre_sights fdAre_sights ["thing"] (cSp K spAreSA) := by
  obtain ⟨t, hMW⟩ := C.mw
  refine DAre_sights.fn.ok scAre_sights (fun vs H Q E h => cSp_len (fun bs Q X h => by obtain ⟨n, rfl, _⟩ := h; rfl) h) (fun cdv A outer s H vs Q E hr h => ?_)
  refine ⟨_, (pss_cons (ps_if (PW.pt (pw_or (pt_not (pt_val (pe_callB call_isi (by rfl) T.isinstance (by decide +kernel) (pa_cons (pv 0) (pa_cons (pe_bltn (v := .ty "dict") (by rfl) Tdict (by decide +kernel) rfl) pa_nil))))) (pw_or1 (pt_not (pt_chain op_le op_le pe_int (pe_callB cr_lenRd (by rfl) T.len (by decide +kernel) (pa_cons (pv 0) pa_nil)) (pe_glob (v := .int 10) (by rfl) hMW ⟨_, rfl⟩)))))) (pss_one (ps_ret pe_bl)) pss_nil)
      (pss_one (ps_ret (pe_callB (cr_all rfl) (by rfl) T.all (by decide +kernel) (pa_cons (pe_lockR (pe_lc (own := [("word", 1)]) rfl scAre_sights.nd (pi_keysR (pv 0)) (blkOk_by (own := [("word", 1)]) (N := nAre_sights) (sc := defScope sAre_sights) (by decide +kernel)) (fun _ _ _ _ _ => (pg_name (i := 1) scAre_sights.nd rfl (Or.inl rfl))) (fun _ _ _ _ _ => pts_nil) (fun _ _ _ _ _ => (pe_and (pe_df DIs_name GIs_name (hr.mono (by decide)) (pa_cons (pv 1) pa_nil)) (pe_one (pe_df DIs_name GIs_name (hr.mono (by decide)) (pa_cons (pe_dget (hu1 hr) (pv 0) (pv 1) (fun _ _ => rfl)) pa_nil))))))) pa_nil))))), ?_⟩
  refine fn_A ((sa_seq (sa_if (et_or (et_not (et_B (ea_isB is_D (ea_var 0)))) (et_not (et_test (ea_chain r2_le r2_le ea_cI (ea_b1 rc_lenD (ea_var 0)) ea_cI)))) (sa_ret ea_cB) sa_next)
      (sa_ret (ea_b1 rc_all (ea_fix (en_lcK (ep_var 0) (ga_name (js := [1]) 1) et_yes (ea_and (ea_call [] (el_cons (ea_var 1) el_nil)) (ea_call [] (el_cons (ea_dget (ea_var 0) (ea_var 1)) el_nil))))))))) h fun bs Qa Xa h => ?_
  obtain ⟨zs, rfl, ⟨znd, zok, z1, z2⟩, q⟩ := h
  have hl : (zD zs).length = zs.length := List.length_map ..
  array_get_dec
  rw [hl, decide_eq_true (show (1 : Int) ≤ (zs.length : Int) by omega)]
  array_get_dec
  rw [decide_eq_true (show (zs.length : Int) ≤ 10 by omega)]
  array_get_dec
  refine ⟨by omega, ?_⟩
  have e0 : ((zD zs).map fun kv => B.st (kD kv.1)) = zs.map fun p => B.st (.str p.1) := by
    unfold zD
    rw [List.map_map]
    rfl
  rw [e0]
  refine aCol_map (fun _ => D.bl true) (fun p hp R hR => ?_) ?_
  · array_get_dec
    refine ⟨_, rfl, thg_str (zok p hp).1, ?_⟩
    rw [dNm_ok (zok p hp).1]
    array_get_dec
    refine ⟨_, zD_val znd hp, _, rfl, thg_str (zok p hp).2, ?_⟩
    rw [dNm_ok (zok p hp).2]
    exact hR
  · array_get_dec
    refine ⟨zs.map fun _ => true, by rw [List.map_map]; rfl, ?_⟩
    rw [show (zs.map fun _ => true).all id = true by simp]
    exact q
abbrev sAre_names : Stmt := topS 7
abbrev nAre_names : List Str := ["thing", "item"]
theorem scAre_names : FnScope nAre_names ["thing"] (defScope sAre_names) := ⟨rfl, rfl, rfl, by decide +kernel, rfl, by decide +kernel, by decide +kernel⟩
def spAreNA : ASp := fun bs Q _ => ∃ ws : List Str, bs = [.st (.lst (ws.map D.str))] ∧ (∀ z ∈ ws, NameOk z) ∧ ws.length ≤ 1000 ∧ Q (.bl true)
theorem ok_areNA (DAre_names : Df K mg "are_names" sAre_names ["thing"] fAre_names fdAre_names) (DIs_row : Df K mg "is_row" sIs_row ["thing"] fIs_row fdIs_row) (GIs_row : FnOk P w K mg base CX0 1 fIs_row fdIs_row ["thing"] (cSp K spRowA)) (DIs_name : Df K mg "is_name" sIs_name ["thing"] fIs_name fdIs_name) (GIs_name : FnOk P w K mg base CX0 1 fIs_name fdIs_name ["thing"] (cSp K spNmA)) (T : Bl mg) : FnOk P w K mg base CX0 2 fAre_names fdAre_names ["thing"] (cSp K spAreNA) := by
  refine DAre_names.fn.ok scAre_names (fun vs H Q E h => cSp_len (fun bs Q X h => by obtain ⟨n, rfl, _⟩ := h; rfl) h) (fun cdv A outer s H vs Q E hr h => ?_)
  refine ⟨_, (pss_one (ps_ret (pe_and (pe_df DIs_row GIs_row (hr.mono (by decide)) (pa_cons (pv 0) pa_nil)) (pe_one (pe_callB (cr_all rfl) (by rfl) T.all (by decide +kernel) (pa_cons (pe_lc (own := [("item", 1)]) rfl scAre_names.nd (pi_list (pv 0)) (blkOk_by (own := [("item", 1)]) (N := nAre_names) (sc := defScope sAre_names) (by decide +kernel)) (fun _ _ _ _ _ => (pg_name (i := 1) scAre_names.nd rfl (Or.inl rfl))) (fun _ _ _ _ _ => pts_nil) (fun _ _ _ _ _ => (pe_df DIs_name GIs_name (hr.mono (by decide)) (pa_cons (pv 1) pa_nil)))) pa_nil)))))), ?_⟩
  refine fn_A ((sa_ret (ea_and (ea_call [] (el_cons (ea_var 0) el_nil)) (ea_b1 rc_all (ea_fix (en_lc (ec_list (ea_var 0)) (ga_name (js := [1]) 1) et_yes (ea_call [] (el_cons (ea_var 1) el_nil)))))))) h fun bs Qa Xa h => ?_
  obtain ⟨ws, rfl, ok, l1, q⟩ := h
  array_get_dec
  refine ⟨_, .inl rfl, thg_lst _, ?_⟩
  unfold dRow
  array_get_dec
  refine ⟨by rw [List.length_map, List.length_map]; exact l1, ?_⟩
  rw [List.map_map]
  refine aCol_map (fun _ => D.bl true) (fun z hz R hR => ?_) ?_
  · unfold Function.comp
    array_get_dec
    refine ⟨_, rfl, thg_str (ok z hz), ?_⟩
    rw [dNm_ok (ok z hz)]
    exact hR
  · array_get_dec
    refine ⟨ws.map fun _ => true, by rw [List.map_map]; rfl, ?_⟩
    rw [show (ws.map fun _ => true).all id = true by simp]
    exact q
abbrev sSensor_init : Stmt := inClass (topS 24) 0
abbrev nSensor_init : List Str := ["self", "name", "post", "sights", "cost", "word"]
theorem csS : CScope nSensor_init ["self", "name", "post", "sights", "cost"] (defScope sSensor_init) := ⟨rfl, rfl, rfl, by decide +kernel, rfl, by decide +kernel, by decide +kernel, rfl, by decide +kernel⟩
structure NDx (N : List Str) : Prop where
  nd : N.Nodup
theorem scSensor_init : NDx nSensor_init := ⟨by decide +kernel⟩
def spSenI : ISp := fun bs Q _ => ∃ (n : Str) (p c : Int) (zs : ZZ), bs = [.st (.str n), .st (.int p), .st (.dK (zD zs)), .st (.int c)] ∧ NameOk n ∧ (0 ≤ p ∧ p ≤ 1) ∧ goodZ zs ∧ (1 ≤ c ∧ c ≤ 1000) ∧ Q (senF n p c zs)
theorem ok_senI {f cda cc CS g : Addr} {fdg : FuncData} {oc doc pm ct : Value} {od : Option Addr} {osl : Array (Option Value)} (lk : K.lookup f = some ⟨oc, od, .func (PySem.W.fnX "__init__" "Sensor.__init__" (defArgs sSensor_init) (defBody sSensor_init) (defScope sSensor_init) [("__class__", cc)] .none .none doc pm none (.ref cda) ct), osl⟩) (hcd : PySem.W.codeIn K (.ref cda) "Sensor.__init__" = true)
    (TX : SupTxt P K mg f cda cc CS) (kl : Kl K CS) (hsub : PySem.W.mroIn K CS (.ref CS) = some true) (hm : PySem.W.ks_superIn K CS CS "__init__" = some (some (.ref g))) (hfi : PySem.W.fnIn K g = true) (hti : PySem.W.typeIn K (.ref g) = some (.type "function"))
    (Gi : FnOk P w K mg base CX0 1 g fdg ["self", "name", "post", "cost"] (spIInit K)) (bi : Binds K fdg ["self", "name", "post", "cost"] []) (DCheck_head : Df K mg "check_head" sCheck_head ["name", "post"] fCheck_head fdCheck_head) (GCheck_head : FnOk P w K mg base CX0 3 fCheck_head fdCheck_head ["name", "post"] (cSp K spHeadA)) (DCheck_cost : Df K mg "check_cost" sCheck_cost ["cost"] fCheck_cost fdCheck_cost) (GCheck_cost : FnOk P w K mg base CX0 3 fCheck_cost fdCheck_cost ["cost"] (cSp K spCostA)) (DAre_sights : Df K mg "are_sights" sAre_sights ["thing"] fAre_sights fdAre_sights) (GAre_sights : FnOk P w K mg base CX0 2 fAre_sights fdAre_sights ["thing"] (cSp K spAreSA)) (T : Bl mg) :
    FnOk P w K mg base CX0 5 f (PySem.W.fnX "__init__" "Sensor.__init__" (defArgs sSensor_init) (defBody sSensor_init) (defScope sSensor_init) [("__class__", cc)] .none .none doc pm none (.ref cda) ct) ["self", "name", "post", "sights", "cost"] (cIn K CS spSenI) := by
  obtain ⟨cl, cld, csl, hcell⟩ := TX.cell
  refine fn_supC (N := nSensor_init) lk hcd hcell csS (fun vs H Q E h => cIn_len (n := 4) (fun bs Q X h => by obtain ⟨n, p, c, zs, rfl, _⟩ := h; rfl) h) (fun A outer s H vs Q E hr h => ?_)
  have hX : SupX (scx CX0 P w K mg base nSensor_init "Sensor.__init__" (defScope sSensor_init) f cda cc A outer s H E) f cda cc :=
    ⟨rfl, rfl, cf_keep _ _ _ csS.nown (by simp [List.lookup]), rfl, rfl, rfl, rfl⟩
  refine ⟨_, pat_cons (ps_expr (pe_df DCheck_head GCheck_head (hr.mono (by decide)) (pa_cons (pv 1) (pa_cons (pv 2) pa_nil))))
    (pat_cons (ps_if (pt_not (pt_val (pe_df DAre_sights GAre_sights (hr.mono (by decide)) (pa_cons (pv 3) pa_nil)))) (pss_one ps_never) pss_nil)
    (pat_cons (ps_expr (pe_df DCheck_cost GCheck_cost (hr.mono (by decide)) (pa_cons (pv 4) pa_nil)))
    (pat_supO TX hX hsub hm hfi hti Gi (hr.mono (by decide)) bi (pa_cons (pv 1) (pa_cons (pv 2) (pa_cons (pv 4) pa_nil)))
    (pat_of (pss_one (ps_fld (pv 0) (pe_dc (own := [("word", 5)]) rfl scSensor_init.nd (pi_list (pe_callB (call_sortedD rfl) (by rfl) T.sorted (by decide +kernel) (pa_cons (pv 3) pa_nil))) (blkOk_by (own := [("word", 5)]) (N := nSensor_init) (sc := defScope sSensor_init) (by decide +kernel)) (fun _ _ _ _ _ => (pg_name (i := 5) scSensor_init.nd rfl (Or.inl rfl))) (fun _ _ _ _ _ => pts_nil) (fun _ _ _ _ _ => (pv 5)) (fun _ _ _ _ _ => (pe_dget (hu1 hr) (pv 3) (pv 5) (fun _ _ => rfl)))) rfl)))))), ?_⟩
  refine fn_I (sa_seq (sa_expr (ea_call [] (el_cons (ea_var 1) (el_cons (ea_var 2) el_nil)))) (sa_seq (sa_if (et_not (et_B (ea_call [] (el_cons (ea_var 3) el_nil)))) sa_never sa_next) (sa_seq (sa_expr (ea_call [] (el_cons (ea_var 4) el_nil))) (sa_sup (ea_var 1) (ea_var 2) (ea_var 4) (sa_fld 0 (ea_fix (en_dc (ec_list (ea_fix (en_sortDK (ea_var 3)))) (ga_name (js := [5]) 5) et_yes (ea_var 5) (ea_dget (ea_var 3) (ea_var 5))))))))) h fun x bs Qa Xa h => ?_
  obtain ⟨n, p, c, zs, rfl, hn, hp, gz, hc, q⟩ := h
  array_get_dec
  refine ⟨n, p, rfl, hn, hp, ?_⟩
  array_get_dec
  refine ⟨zs, rfl, gz, ?_⟩
  array_get_dec
  refine ⟨c, rfl, hc, ?_⟩
  unfold aSup
  array_get_dec
  refine ⟨rfl, kl, zs.map (·.1), zD_keys zs, by rw [List.length_map]; have := gz.2.2.2; omega, ?_⟩
  have hl : ((zs.map (·.1)).mergeSort leS).length = zs.length := by rw [List.length_mergeSort, List.length_map]
  array_get_dec
  refine ⟨by rw [List.length_map, List.length_map, hl]; have := gz.2.2.2; omega, ?_⟩
  rw [List.map_map]
  have e1 : ((zs.map (·.1)).mergeSort leS).map (fun y => ((Sum.inr y : Key), D.str ((look zs y).getD ""))) = zD (showZ zs) := by
    unfold zD showZ
    rw [List.map_map]
    rfl
  refine aColD_map (fun y : Str => ((Sum.inr y : Key), D.str ((look zs y).getD ""))) ?_ (fun y hy R hR => ?_) ?_
  · rw [List.nil_append, List.map_map]
    refine List.pairwise_map.mpr (List.Pairwise.imp (fun {a b} h e => h (Sum.inr.inj e)) ((List.mergeSort_perm _ _).nodup_iff.mpr gz.1))
  · have hm : y ∈ zs.map (·.1) := (List.mergeSort_perm _ _).mem_iff.mp hy
    obtain ⟨pr, hpr, rfl⟩ := List.mem_map.mp hm
    unfold Function.comp
    array_get_dec
    refine ⟨_, zD_val gz.1 hpr, ?_⟩
    rw [look_mem gz.1 hpr] at hR
    exact hR
  · rw [List.nil_append, e1]
    refine ⟨kl.cl, kl.nS, by decide, _, rfl, ?_⟩
    exact q
theorem startF_eq {N : List Str} {vs : List V} (h : vs.length + 1 ≤ N.length) : NdefX.startF N vs [none] = L2.start N vs := by
  unfold NdefX.startF L2.start
  congr 1
  obtain ⟨k, hk⟩ : ∃ k, N.length - vs.length = k + 1 := ⟨N.length - vs.length - 1, by omega⟩
  rw [hk, List.replicate_succ]
  simp
theorem insAll_nd {zs : List Str} (nd : zs.Nodup) : (insAll zs).length = zs.length := (nodup_mem_perm (insAll_nodup zs) nd fun x => insAll_mem x zs).length_eq
abbrev sLock_init : Stmt := inClass (topS 25) 0
abbrev nLock_init : List Str := ["self", "name", "post", "words", "cost", "__class__"]
theorem csL : NdefX.NScope nLock_init ["self", "name", "post", "words", "cost"] ["__class__"] (defScope sLock_init) := NdefX.nscope_by (by decide +kernel)
theorem scLock_init : NDx nLock_init := ⟨by decide +kernel⟩
def spLokI : ISp := fun bs Q _ => ∃ (n : Str) (p c : Int) (ws : List Str), bs = [.st (.str n), .st (.int p), .st (.lst (ws.map D.str)), .st (.int c)] ∧ NameOk n ∧ (0 ≤ p ∧ p ≤ 1) ∧ (1 ≤ ws.length ∧ ws.length ≤ 10 ∧ ws.Nodup ∧ ∀ z ∈ ws, NameOk z) ∧ (1 ≤ c ∧ c ≤ 1000) ∧ Q (lokF n p c ws)
theorem ok_lokI {f cda cc CL g : Addr} {fdg : FuncData} {oc doc pm ct : Value} {od : Option Addr} {osl : Array (Option Value)} (lk : K.lookup f = some ⟨oc, od, .func (PySem.W.fnX "__init__" "Lock.__init__" (defArgs sLock_init) (defBody sLock_init) (defScope sLock_init) [("__class__", cc)] .none .none doc pm none (.ref cda) ct), osl⟩) (hcd : PySem.W.codeIn K (.ref cda) "Lock.__init__" = true)
    (TX : SupTxt P K mg f cda cc CL) (kl : Kl K CL) (hsub : PySem.W.mroIn K CL (.ref CL) = some true) (hm : PySem.W.ks_superIn K CL CL "__init__" = some (some (.ref g))) (hfi : PySem.W.fnIn K g = true) (hti : PySem.W.typeIn K (.ref g) = some (.type "function"))
    (Gi : FnOk P w K mg base CX0 1 g fdg ["self", "name", "post", "cost"] (spIInit K)) (bi : Binds K fdg ["self", "name", "post", "cost"] []) (DCheck_head : Df K mg "check_head" sCheck_head ["name", "post"] fCheck_head fdCheck_head) (GCheck_head : FnOk P w K mg base CX0 3 fCheck_head fdCheck_head ["name", "post"] (cSp K spHeadA)) (DCheck_cost : Df K mg "check_cost" sCheck_cost ["cost"] fCheck_cost fdCheck_cost) (GCheck_cost : FnOk P w K mg base CX0 3 fCheck_cost fdCheck_cost ["cost"] (cSp K spCostA)) (DAre_names : Df K mg "are_names" sAre_names ["thing"] fAre_names fdAre_names) (GAre_names : FnOk P w K mg base CX0 2 fAre_names fdAre_names ["thing"] (cSp K spAreNA)) (T : Bl mg) (Tset : mg "set" = none) (C : Cm mg) :
    FnOk P w K mg base CX0 5 f (PySem.W.fnX "__init__" "Lock.__init__" (defArgs sLock_init) (defBody sLock_init) (defScope sLock_init) [("__class__", cc)] .none .none doc pm none (.ref cda) ct) ["self", "name", "post", "words", "cost"] (cIn K CL spLokI) := by
  obtain ⟨tmw, hMW⟩ := C.mw
  obtain ⟨cl, cld, csl, hcell⟩ := TX.cell
  refine fn_sup (N := nLock_init) lk hcd hcell csL (fun vs H Q E h => cIn_len (n := 4) (fun bs Q X h => by obtain ⟨n, p, c, zs, rfl, _⟩ := h; rfl) h) (fun A outer s H vs Q E hr h => ?_)
  have hX : SupX (NdefX.ncx CX0 P w K mg base nLock_init ⟨"__init__", "Lock.__init__", defArgs sLock_init, defBody sLock_init, defScope sLock_init, [("__class__", cc)], cda⟩ f A outer s H E) f cda cc :=
    ⟨rfl, rfl, by show ([("__class__", cc)] : List (Str × Addr)).lookup ("__class__" : Str) = some cc; simp [List.lookup], rfl, rfl, rfl, rfl⟩
  refine ⟨_, pat_cons (ps_expr (pe_df DCheck_head GCheck_head (hr.mono (by decide)) (pa_cons (pv 1) (pa_cons (pv 2) pa_nil))))
    (pat_cons (ps_if (PW.pt (pw_or (pt_not (pt_val (pe_df DAre_names GAre_names (hr.mono (by decide)) (pa_cons (pv 3) pa_nil)))) (pw_or (pt_not (pt_chain op_le op_le pe_int (pe_callB call_len (by rfl) T.len (by decide +kernel) (pa_cons (pv 3) pa_nil)) (pe_glob (v := .int 10) (by rfl) hMW ⟨_, rfl⟩))) (pw_or1 (pt_cmpR op_lt (pe_callB cr_lenSt (by rfl) T.len (by decide +kernel) (pa_cons (pe_callTy (cr_setOfR rfl) (by rfl) Tset (by decide +kernel) (pa_cons (pv 3) pa_nil)) pa_nil)) (pe_callB call_len (by rfl) T.len (by decide +kernel) (pa_cons (pv 3) pa_nil)) (nomark _)))))) (pss_one ps_never) pss_nil)
    (pat_cons (ps_expr (pe_df DCheck_cost GCheck_cost (hr.mono (by decide)) (pa_cons (pv 4) pa_nil)))
    (pat_supO TX hX hsub hm hfi hti Gi (hr.mono (by decide)) bi (pa_cons (pv 1) (pa_cons (pv 2) (pa_cons (pv 4) pa_nil)))
    (pat_of (pss_one (ps_fld (pv 0) (pe_callB (cr_sortedD (hu70 hr)) (by rfl) T.sorted (by decide +kernel) (pa_cons (pv 3) pa_nil)) rfl)))))), ?_⟩
  rw [startF_eq (by rw [cIn_len (n := 4) (fun bs Q X h => by obtain ⟨n, p, c, zs, rfl, _⟩ := h; rfl) h]; decide)]
  refine fn_I (sa_seq (sa_expr (ea_call [] (el_cons (ea_var 1) (el_cons (ea_var 2) el_nil)))) (sa_seq (sa_if (et_or (et_not (et_B (ea_call [] (el_cons (ea_var 3) el_nil)))) (et_or (et_not (et_test (ea_chain r2_le r2_le ea_cI (ea_b1 rc_len (ea_var 3)) ea_cI))) (et_test (ea_op r2_lt (ea_lenSet (ea_var 3)) (ea_b1 rc_len (ea_var 3)))))) sa_never sa_next) (sa_seq (sa_expr (ea_call [] (el_cons (ea_var 4) el_nil))) (sa_sup (ea_var 1) (ea_var 2) (ea_var 4) (sa_fld 0 (ea_fix (en_sortS (ea_var 3)))))))) h fun x bs Qa Xa h => ?_
  obtain ⟨n, p, c, ws, rfl, hn, hp, ⟨w1, w2, w3, w4⟩, hc, q⟩ := h
  have hl : (ws.map D.str).length = ws.length := List.length_map ..
  array_get_dec
  refine ⟨n, p, rfl, hn, hp, ?_⟩
  array_get_dec
  refine ⟨ws, rfl, w4, by omega, ?_⟩
  array_get_dec
  rw [hl, decide_eq_true (show (1 : Int) ≤ (ws.length : Int) by omega)]
  array_get_dec
  rw [decide_eq_true (show (ws.length : Int) ≤ 10 by omega)]
  array_get_dec
  refine ⟨ws, rfl, by omega, ?_⟩
  array_get_dec
  rw [insAll_nd w3, decide_eq_false (show ¬ (ws.length : Int) < (ws.length : Int) by omega)]
  array_get_dec
  refine ⟨c, rfl, hc, ?_⟩
  unfold aSup
  array_get_dec
  refine ⟨rfl, kl, ws, rfl, w4, ?_⟩
  refine ⟨kl.cl, kl.nO, by decide, _, rfl, ?_⟩
  exact q
end
end WW

set_option Elab.async false
set_option linter.all false
set_option maxRecDepth 100000
set_option maxHeartbeats 4000000
namespace WW
open PySem PySem.Spec PyProof.Rows L2
/-! ### steps -/
abbrev Stp := Int × Str × Int
def StpOk (t : Stp) : Prop := (0 ≤ t.1 ∧ t.1 ≤ 99) ∧ NameOk t.2.1 ∧ (0 ≤ t.2.2 ∧ t.2.2 ≤ 99)
def stpV (t : Stp) : List V := [.int t.1, .str t.2.1, .int t.2.2]
/-- v is the tuple of the step t -/
def IsStp (H : Hp) (v : V) (t : Stp) : Prop := ∃ a, v = .ref a ∧ H a = some (.tup (stpV t))
theorem IsStp.mono {H H' : Hp} {v : V} {t : Stp} (s : Same H H') (h : IsStp H v t) : IsStp H' v t := by
  obtain ⟨a, e, h⟩ := h
  exact ⟨a, e, s _ _ h⟩
def encS (t : Stp) : PyData := .tuple [.int t.1, .str t.2.1, .int t.2.2]
theorem IsStp.dp {K : PySem.W.Frag} {H : Hp} {v : V} {t : Stp} (h : IsStp H v t) : Dp K H v (encS t) := by
  obtain ⟨a, rfl, h⟩ := h
  exact .tup (SqT.of h) (.cons (.int _) (.cons (.str _) (.cons (.int _) .nil)))
abbrev Stps (H : Hp) : List V → List Stp → Prop := Paired (IsStp H)
theorem Stps.mono {H H' : Hp} (s : Same H H') {xs : List V} {ts : List Stp} (h : Stps H xs ts) : Stps H' xs ts := L2.Paired.mapP h fun _ _ q => q.mono s
theorem Stps.take {H : Hp} : ∀ (i : Nat) {xs : List V} {ts : List Stp}, Stps H xs ts → Stps H (xs.take i) (ts.take i)
  | 0, _, _, _ => .nil
  | _ + 1, _, _, .nil => .nil
  | i + 1, _, _, .cons r t => .cons r (Stps.take i t)
theorem Stps.dpAll {K : PySem.W.Frag} {H : Hp} : ∀ {xs : List V} {ts : List Stp}, Stps H xs ts → DpAll K H xs (ts.map encS)
  | _, _, .nil => .nil
  | _, _, .cons r t => .cons r.dp (Stps.dpAll t)
theorem encS_eqv (t u : Stp) : PyData.eqv (encS t) (encS u) = decide (t = u) := by
  obtain ⟨a, b, c⟩ := t
  obtain ⟨a', b', c'⟩ := u
  have e : PyData.eqv (encS (a, b, c)) (encS (a', b', c')) = ((a == a') && ((b == b') && ((c == c') && true))) := by simp only [encS, PyData.eqv, PyData.eqvAll]
  rw [e]
  by_cases h : ((a, b, c) : Stp) = (a', b', c')
  · cases h
    simp
  · rw [decide_eq_false h]
    cases h1 : a == a' with
    | false => rfl
    | true =>
      cases h2 : b == b' with
      | false => rfl
      | true =>
        cases h3 : c == c' with
        | false => rfl
        | true => exact absurd (by rw [beq_iff_eq.mp h1, beq_iff_eq.mp h2, beq_iff_eq.mp h3]) h
theorem encS_depth (t : Stp) : (encS t).depth = 1 := by simp [encS, PyData.depth, PyData.depthAll]
theorem encS_lay {t : Stp} (h : StpOk t) : (encS t).canLay0 = true := by simp [encS, PyData.canLay0, PyData.canLayAll0, name_sok h.2.1]
theorem encS_shaped {t : Stp} (h : StpOk t) : SeqAt.shaped (encS t) = true := by
  have hd := encS_depth t
  show ((encS t).canLay0 && decide ((encS t).depth ≤ 64)) = true
  rw [Bool.and_eq_true]
  exact ⟨encS_lay h, decide_eq_true (by omega)⟩
theorem encSs_lay : ∀ {ts : List Stp}, (∀ t ∈ ts, StpOk t) → PyData.canLayAll0 (ts.map encS) = true
  | [], _ => by simp [PyData.canLayAll0]
  | t :: r, h => by simp [PyData.canLayAll0, encS_lay (h t (by simp)), encSs_lay (ts := r) fun u hu => h u (by simp [hu])]
theorem encSs_depth : ∀ ts : List Stp, PyData.depthAll (ts.map encS) ≤ 2
  | [] => by simp [PyData.depthAll]
  | t :: r => by
    have h1 := encSs_depth r
    have h2 := encS_depth t
    simp only [List.map_cons, PyData.depthAll]
    omega
theorem encSs_shaped {ts : List Stp} (h : ∀ t ∈ ts, StpOk t) : SeqAt.shaped (.list (ts.map encS)) = true := by
  have h1 := encSs_depth ts
  show (PyData.canLay0 (.list (ts.map encS)) && decide (PyData.depth (.list (ts.map encS)) ≤ 64)) = true
  rw [Bool.and_eq_true]
  exact ⟨by simp only [PyData.canLay0]; exact encSs_lay h, decide_eq_true (by simp only [PyData.depth]; omega)⟩
theorem encTs_shaped {ts : List Stp} (h : ∀ t ∈ ts, StpOk t) : SeqAt.shaped (.tuple (ts.map encS)) = true := by
  have h1 := encSs_depth ts
  show (PyData.canLay0 (.tuple (ts.map encS)) && decide (PyData.depth (.tuple (ts.map encS)) ≤ 64)) = true
  rw [Bool.and_eq_true]
  exact ⟨by simp only [PyData.canLay0]; exact encSs_lay h, decide_eq_true (by simp only [PyData.depth]; omega)⟩
theorem any_encS (t : Stp) : ∀ ts : List Stp, ((ts.map encS).any fun z => PyData.eqv z (encS t)) = decide (t ∈ ts)
  | [] => by simp
  | u :: r => by
    rw [List.map_cons, List.any_cons, any_encS t r, encS_eqv]
    by_cases h : t = u
    · subst h
      simp
    · have h' : ¬ u = t := fun q => h q.symm
      simp [h, h']
def fstV (H : Hp) (i : Int) (v : V) : Option V := match v with
  | .ref a => match H a with
    | some (.tup (.int j :: _)) => if decide (V.int j = V.int i) = true then some v else none
    | _ => none
  | _ => none
def cnt (i : Int) (ts : List Stp) : Nat := (ts.filter fun t => decide (t.1 = i)).length
theorem fstV_len {H : Hp} (i : Int) : ∀ {xs : List V} {ts : List Stp}, Stps H xs ts → (xs.filterMap (fstV H i)).length = cnt i ts
  | _, _, .nil => rfl
  | _, _, .cons (a := v) (b := t) r q => by
    have ih := fstV_len i q
    obtain ⟨a, rfl, ha⟩ := r
    have e : fstV H i (.ref a) = if decide (V.int t.1 = V.int i) = true then some (.ref a) else none := by
      unfold fstV
      simp only [ha, stpV]
    unfold cnt at ih ⊢
    rw [List.filterMap_cons, e, List.filter_cons]
    by_cases h : t.1 = i
    · rw [if_pos (by simp [h]), if_pos (by simp [h])]
      simp [ih]
    · rw [if_neg (by simp [h]), if_neg (by simp [h])]
      exact ih
/-- the steps are good: of the right form, none twice, at most three from one state -/
structure GoodS (ts : List Stp) : Prop where
  l1 : 1 ≤ ts.length
  l2 : ts.length ≤ 20
  ok : ∀ t ∈ ts, StpOk t
  nd : ts.Nodup
  few : ∀ i t, ts[i]? = some t → cnt t.1 (ts.take i) ≠ 3
/-! ### rows of steps that make a hand, whatever their order -/
structure Fine (ts : List Stp) : Prop where
  l1 : 1 ≤ ts.length
  l2 : ts.length ≤ 20
  ok : ∀ t ∈ ts, StpOk t
  nd : ts.Nodup
  few : ∀ s, cnt s ts ≤ 3
theorem cnt_append (s : Int) (a b : List Stp) : cnt s (a ++ b) = cnt s a + cnt s b := by
  unfold cnt
  rw [List.filter_append, List.length_append]
theorem cnt_perm (s : Int) {a b : List Stp} (h : a.Perm b) : cnt s a = cnt s b := (h.filter _).length_eq
theorem cnt_one (t : Stp) : cnt t.1 [t] = 1 := by simp [cnt]
theorem cnt_other {s : Int} {t : Stp} (h : t.1 ≠ s) : cnt s [t] = 0 := by simp [cnt, h]
theorem Fine.good {ts : List Stp} (F : Fine ts) : GoodS ts := by
  refine ⟨F.l1, F.l2, F.ok, F.nd, fun i t h e => ?_⟩
  have h1 := F.few t.1
  have h2 : ts = ts.take (i + 1) ++ ts.drop (i + 1) := (List.take_append_drop _ _).symm
  rw [h2, cnt_append, take_next h, cnt_append, cnt_one] at h1
  omega
theorem Fine.perm {ts us : List Stp} (F : Fine ts) (h : us.Perm ts) : Fine us :=
  ⟨by rw [h.length_eq]; exact F.l1, by rw [h.length_eq]; exact F.l2, fun t ht => F.ok t (h.mem_iff.mp ht), h.nodup_iff.mpr F.nd, fun s => by rw [cnt_perm s h]; exact F.few s⟩
/-- the states are at most 96 -/
def Low (ts : List Stp) : Prop := ∀ t ∈ ts, (0 ≤ t.1 ∧ t.1 ≤ 96) ∧ NameOk t.2.1 ∧ (0 ≤ t.2.2 ∧ t.2.2 ≤ 96)
theorem Low.ok {ts : List Stp} (h : Low ts) : ∀ t ∈ ts, StpOk t := fun t ht => by
  obtain ⟨⟨h1, h2⟩, h3, h4, h5⟩ := h t ht
  exact ⟨⟨h1, by omega⟩, h3, h4, by omega⟩
def plc (first gap : Int) (m : Nat) : List Int := (List.range m).map fun (k : Nat) => first + gap * (k : Int)
theorem plc_len (first gap : Int) (m : Nat) : (plc first gap m).length = m := by simp [plc]
theorem plc_get {first gap : Int} {m k : Nat} (h : k < m) : (plc first gap m)[k]? = some (first + gap * (k : Int)) := by
  unfold plc
  rw [List.getElem?_map, List.getElem?_range h]
  rfl
theorem plc_mem {first gap : Int} {m : Nat} {x : Int} (h : x ∈ plc first gap m) : ∃ k : Nat, k < m ∧ x = first + gap * (k : Int) := by
  obtain ⟨k, hk, rfl⟩ := List.mem_map.mp h
  exact ⟨k, List.mem_range.mp hk, rfl⟩
theorem plc_bound {first gap : Int} {m : Nat} {x : Int} (f0 : 0 ≤ first) (f1 : first < 70) (g0 : 1 ≤ gap) (g1 : gap ≤ 9) (hm : m ≤ 4) (h : x ∈ plc first gap m) : 0 ≤ x ∧ x ≤ 96 := by
  obtain ⟨k, hk, rfl⟩ := plc_mem h
  obtain rfl | rfl | rfl | rfl : k = 0 ∨ k = 1 ∨ k = 2 ∨ k = 3 := by omega
  all_goals omega
theorem plc_succ (first gap : Int) (m : Nat) : plc first gap (m + 1) = plc first gap m ++ [first + gap * (m : Int)] := by
  unfold plc
  rw [List.range_succ, List.map_append]
  rfl
theorem plc_nodup {first gap : Int} (g0 : 1 ≤ gap) : ∀ m, (plc first gap m).Nodup
  | 0 => List.nodup_nil
  | m + 1 => by
    rw [plc_succ, List.nodup_append]
    refine ⟨plc_nodup g0 m, by simp, fun a ha b hb e => ?_⟩
    obtain ⟨k, hk, rfl⟩ := plc_mem ha
    rw [List.mem_singleton.mp hb] at e
    have h1 : gap * (k : Int) = gap * (m : Int) := by omega
    have h2 := Int.eq_of_mul_eq_mul_left (by omega) h1
    omega
theorem cnt_count (s : Int) : ∀ ts : List Stp, cnt s ts = (ts.map (·.1)).count s
  | [] => rfl
  | t :: r => by
    have ih := cnt_count s r
    unfold cnt at ih ⊢
    rw [List.map_cons, List.count_cons, ← ih, List.filter_cons]
    by_cases h : t.1 = s <;> simp [h]
theorem nodup_of_fst {ts : List Stp} (h : (ts.map (·.1)).Nodup) : ts.Nodup := List.Pairwise.of_map _ (fun _ _ hne e => hne (congrArg _ e)) h
def oneV (H : Hp) (i : Int) (v : V) : Option V := (fstV H i v).map fun _ => V.int 1
theorem oneV_len {H : Hp} (i : Int) {xs : List V} {ts : List Stp} (h : Stps H xs ts) : (xs.filterMap (oneV H i)).length = cnt i ts := by
  rw [← fstV_len i h]
  have e : xs.filterMap (oneV H i) = (xs.filterMap (fstV H i)).map fun _ => V.int 1 := by
    rw [List.map_filterMap]
    rfl
  rw [e, List.length_map]
theorem Stps.snoc {H : Hp} {xs : List V} {ts : List Stp} {v : V} {t : Stp} (h : Stps H xs ts) (r : IsStp H v t) : Stps H (xs ++ [v]) (ts ++ [t]) := paired_snoc h r
section
variable {P : Program} {w : World} {K : PySem.W.Frag} {mg : Str → Option Value} {base : Heap} {f fA fB : Addr} {fd fdA fdB : FuncData}
abbrev sLhand : Stmt := topS 40
abbrev nLhand : List Str := ["_law_pool_here", "_law_words_here", "_law_most", "_law_shape", "_law_first", "_law_gap", "_law_places", "_law_steps", "_law_k", "_law_step", "_law_old"]
theorem scLhand : FnScope nLhand ["_law_pool_here", "_law_words_here", "_law_most"] (defScope sLhand) := ⟨rfl, rfl, rfl, by decide +kernel, rfl, by decide +kernel, by decide +kernel⟩
def spHandL : Sp := fun vs H Q _ => ∃ (p wa : Addr) (n : Int) (S : Hp) (ws : List Str), vs = [.ref p, .ref wa, .int n] ∧ Pool S H p ∧ S wa = some (.lst (ws.map V.str)) ∧ 0 < ws.length ∧ ws.length < 1000 ∧ (∀ z ∈ ws, NameOk z) ∧ 1 ≤ n ∧ n ≤ 4 ∧
  ∀ (t r : Addr) (b : Int) (xs : List V) (ts : List Stp) (S' H' : Hp), Pool S' H' p → Gr p S H S' H' → S' t = some (.tup [.int b, .ref r]) → S' r = some (.tup xs) → Stps S' xs ts → Fine ts → Low ts → (0 ≤ b ∧ b ≤ 96) → ts.length ≤ 10 → Q (.ref t) H'
theorem ok_handL (D : Df K mg "_law_hand" sLhand ["_law_pool_here", "_law_words_here", "_law_most"] f fd) (DLdraw : Df K mg "_law_draw" sLdraw ["_law_pool_here", "_law_many"] fA fdA) (DLpick : Df K mg "_law_pick" sLpick ["_law_pool_here", "_law_items"] fB fdB) (T : Bl mg) :
    FnOk P w K mg base CX0 3 f fd ["_law_pool_here", "_law_words_here", "_law_most"] spHandL := by
  have GLdraw : FnOk P w K mg base CX0 1 fA fdA ["_law_pool_here", "_law_many"] spDraw := ok_draw DLdraw T
  have GLpick : FnOk P w K mg base CX0 2 fB fdB ["_law_pool_here", "_law_items"] spPick := ok_pick DLpick DLdraw T
  refine D.fn.ok scLhand (fun vs H Q E h => ?_) (fun cdv A outer s H vs Q E hr h => ?_)
  · obtain ⟨p, wa, n, S, ws, rfl, _⟩ := h
    rfl
  · obtain ⟨p, wa, n, S, ws, rfl, P0, hw, w0, w1, hws, n0, n1, q⟩ := h
    refine ⟨_, (pss_cons (ps_asg (pe_tup (pa_cons (pe_df DLdraw GLdraw (hr.mono (by decide)) (pa_cons (pv 0) (pa_cons pe_int pa_nil))) (pa_cons (pe_df DLdraw GLdraw (hr.mono (by decide)) (pa_cons (pv 0) (pa_cons pe_int pa_nil))) (pa_cons (pe_op op_add pe_int (pe_df DLdraw GLdraw (hr.mono (by decide)) (pa_cons (pv 0) (pa_cons pe_int pa_nil)))) pa_nil)))) (pg_tup rfl (pgs_cons (pg_name (i := 3) scLhand.nd rfl (Or.inl rfl)) (pgs_cons (pg_name (i := 4) scLhand.nd rfl (Or.inr rfl)) (pgs_cons (pg_name (i := 5) scLhand.nd rfl (Or.inr rfl)) pgs_nil)))))
      (pss_cons (ps_setLc (i := 6) (own := [("_law_k", 8)]) rfl scLhand.nd rfl rfl (sw_true rfl rfl rfl (by decide +kernel)) (pi_range1 (by rfl) T.range (pa_cons (pe_op op_add pe_int (pe_df DLdraw GLdraw (hr.mono (by decide)) (pa_cons (pv 0) (pa_cons (pv 2) pa_nil)))) pa_nil)) (blkOk_by (own := [("_law_k", 8)]) (N := nLhand) (sc := defScope sLhand) (by decide +kernel)) (fun _ _ _ _ _ => (pg_name (i := 8) scLhand.nd rfl (Or.inl rfl))) (fun _ _ _ _ _ => pts_nil) (fun _ _ _ _ _ => (pe_op op_add (pv 4) (pe_op op_mul (pv 5) (pv 8)))))
      (pss_cons (ps_set (i := 7) scLhand.nd rfl (Or.inl rfl) (pe_lst pa_nil))
      (pss_cons (ps_for PassesOwn.never rfl (pi_range1 (by rfl) T.range (pa_cons (pe_op op_mul (pe_callB call_len (by rfl) T.len (by decide +kernel) (pa_cons (pv 6) pa_nil)) (pe_callTy call_int1 (by rfl) T.int (by decide +kernel) (pa_cons (pe_cmpR op_gt (pv 3) pe_int (nomark _)) pa_nil))) pa_nil)) (pg_name (i := 8) scLhand.nd rfl (Or.inl rfl)) (pss_one (ps_expr (pe_bm PySem.F.plainAttrs_list PySem.F.slot_list_append PySem.F.type_list_append mt_append (pv 7) (pa_cons (pe_tup (pa_cons (pe_ix ix_list (pv 6) (pv 8) (fun _ _ => rfl)) (pa_cons (pe_df DLpick GLpick (hr.mono (by decide)) (pa_cons (pv 0) (pa_cons (pv 1) pa_nil))) (pa_cons (pe_ix ix_list (pv 6) (pe_op op_mod (pe_callTy call_int1 (by rfl) T.int (by decide +kernel) (pa_cons (pe_op op_add (pv 8) pe_int) pa_nil)) (pe_callB call_len (by rfl) T.len (by decide +kernel) (pa_cons (pv 6) pa_nil))) (fun _ _ => rfl)) pa_nil)))) pa_nil)))))
      (pss_cons (ps_for PassesOwn.never rfl (pi_range1 (by rfl) T.range (pa_cons (pe_op op_add (pe_df DLdraw GLdraw (hr.mono (by decide)) (pa_cons (pv 0) (pa_cons pe_int pa_nil))) (pe_callTy call_int1 (by rfl) T.int (by decide +kernel) (pa_cons (pe_cmpR op_eq (pv 3) pe_int (nomark _)) pa_nil))) pa_nil)) (pg_name (i := 8) scLhand.nd rfl (Or.inl rfl)) (pss_cons (ps_set (i := 9) scLhand.nd rfl (Or.inr rfl) (pe_tup (pa_cons (pe_df DLpick GLpick (hr.mono (by decide)) (pa_cons (pv 0) (pa_cons (pv 6) pa_nil))) (pa_cons (pe_df DLpick GLpick (hr.mono (by decide)) (pa_cons (pv 0) (pa_cons (pv 1) pa_nil))) (pa_cons (pe_df DLpick GLpick (hr.mono (by decide)) (pa_cons (pv 0) (pa_cons (pv 6) pa_nil))) pa_nil)))))
      (pss_one (ps_if (PW.pt (pw_and (pt_cmpR (op_notInD (hu65 hr)) (pv 9) (pv 7) (by rfl)) (pw_and1 (pt_cmpR op_lt (pe_callB call_len (by rfl) T.len (by decide +kernel) (pa_cons (pe_lc (own := [("_law_old", 10)]) rfl scLhand.nd (pi_list (pv 7)) (blkOk_by (own := [("_law_old", 10)]) (N := nLhand) (sc := defScope sLhand) (by decide +kernel)) (fun _ _ _ _ _ => (pg_name (i := 10) scLhand.nd rfl (Or.inl rfl))) (fun _ _ _ _ _ => (pts_one (pt_cmpR op_eq (pe_ix (r := rIxT K) ix_tup (pv 10) pe_int (fun _ _ => rfl)) (pe_ix (r := rIxT K) ix_tup (pv 9) pe_int (fun _ _ => rfl)) (nomark _)))) (fun _ _ _ _ _ => pe_int)) pa_nil)) pe_int (nomark _))))) (pss_one (ps_expr (pe_bm PySem.F.plainAttrs_list PySem.F.slot_list_append PySem.F.type_list_append mt_append (pv 7) (pa_cons (pv 9) pa_nil)))) pss_nil))))
      (pss_one (ps_ret (pe_tup (pa_cons (pe_df DLpick GLpick (hr.mono (by decide)) (pa_cons (pv 0) (pa_cons (pv 6) pa_nil))) (pa_cons (pe_callTy call_tuple_of (by rfl) T.tuple (by decide +kernel) (pa_cons (pv 7) pa_nil)) pa_nil)))))))))), ?_⟩
    -- the three draws
    refine ⟨_, rfl, p, S, 3, rfl, by decide, by decide, P0, fun sh S1 H1 P1 g1 s0 s1 => ?_⟩
    refine ⟨_, rfl, p, S1, 70, rfl, by decide, by decide, P1, fun fi S2 H2 P2 g2 f0 f1 => ?_⟩
    refine ⟨_, rfl, p, S2, 9, rfl, by decide, by decide, P2, fun ga S3 H3 P3 g3 a0 a1 => ?_⟩
    refine ⟨_, _, rfl, rfl, by show 3 ≤ sizeLine; decide, fun t ht => ?_⟩
    have P4 := P3.new (o := .tup [.int sh, .int fi, .int (1 + ga)]) ht
    have g4 : Gr p S H _ _ := (g1.trans (g2.trans g3)).new (o := .tup [.int sh, .int fi, .int (1 + ga)]) P3.ss ht
    refine ⟨t, _, rfl, SqT.of upd_same, rfl, _, _, rfl, _, _, rfl, _, _, rfl, rfl, ?_⟩
    generalize upd S3 t (.tup [.int sh, .int fi, .int (1 + ga)]) = S4 at P4 g4
    show tSeq _ _ _ [some (.ref p), some (.ref wa), some (.int n), some (.int sh), some (.int fi), some (.int (1 + ga)), none, none, none, none, none] (upd H3 t (.tup [.int sh, .int fi, .int (1 + ga)]))
    generalize upd H3 t (.tup [.int sh, .int fi, .int (1 + ga)]) = H4 at P4 g4 ⊢
    -- the places
    refine ⟨_, rfl, _, rfl, p, S4, n, rfl, by omega, by omega, P4, fun m S5 H5 P5 g5 m0 m1 => ⟨_, _, rfl, rfl, 1 + m, rfl, by omega, by omega, fun D1 hD1 => ?_⟩⟩
    have g05 : Gr p S H S5 H5 := g4.trans g5
    refine lc_range (lo := 0) (n := (1 + m).toNat) (fun i H' => Same H5 H' ∧ H' D1 = some (.lst ((plc fi (1 + ga) i).map V.int))) ⟨same_upd hD1, upd_same⟩ ?_ ?_
    · rintro i H' hi ⟨sm, hD⟩
      refine ⟨rfl, _, rfl, _, rfl, _, rfl, _, _, rfl, rfl, .inl ⟨by omega, by omega⟩, _, _, rfl, rfl, _, hD, ?_, fun b o hb => ?_, ?_⟩
      · rw [List.length_map, plc_len]
        exact small1000 (by omega)
      · rw [upd_ne (ne_of_none hb hD1)]
        exact sm _ _ hb
      · rw [upd_same, plc_succ, List.map_append]
        simp
    rintro H6 ⟨sm6, hD6⟩
    obtain ⟨M, hM, M0, M1⟩ : ∃ M : Nat, (1 + m).toNat = M ∧ 1 ≤ M ∧ M ≤ 4 := ⟨_, rfl, by omega, by omega⟩
    rw [hM] at hD6
    have nDp : D1 ≠ p := fun z => P5.has (by rw [← z]; exact hD1)
    have sD1 : S5 D1 = none := P5.ss.free hD1
    have P6 := (P5.same sm6).fix hD6 sD1 nDp
    have g6 : Gr p S H _ _ := (g05.same sm6).fix (o := .lst ((plc fi (1 + ga) M).map V.int)) (g05.bk hD1) sD1
    have hpl : upd S5 D1 (.lst ((plc fi (1 + ga) M).map V.int)) D1 = some (.lst ((plc fi (1 + ga) M).map V.int)) := upd_same
    generalize upd S5 D1 (.lst ((plc fi (1 + ga) M).map V.int)) = S6 at P6 g6 hpl
    show tSeq _ _ _ [some (.ref p), some (.ref wa), some (.int n), some (.int sh), some (.int fi), some (.int (1 + ga)), some (.ref D1), none, none, none, none] H6
    have hw6 : S6 wa = some (.lst (ws.map V.str)) := g6.st _ _ hw
    have nwp : wa ≠ p := fun z => by rw [z, P6.np] at hw6; cases hw6
    have pb : ∀ x ∈ plc fi (1 + ga) M, 0 ≤ x ∧ x ≤ 96 := fun x hx => plc_bound f0 f1 (by omega) (by omega) M1 hx
    -- steps = []
    refine ⟨Nat.zero_le _, fun l hl => ?_⟩
    have nlp : l ≠ p := fun z => P6.has (by rw [← z]; exact hl)
    have sl6 : S6 l = none := P6.ss.free hl
    have P7 := P6.put (o := .lst []) sl6 nlp
    have g7 : Gr p S6 H6 S6 (upd H6 l (.lst [])) := Gr.refl.put hl
    have hl7 : upd H6 l (.lst []) l = some (.lst []) := upd_same
    generalize upd H6 l (.lst []) = H7 at P7 g7 hl7 ⊢
    have h7D := P7.ss _ _ hpl
    obtain ⟨N1, eN1, hN1⟩ : ∃ N1 : Nat, ((((plc fi (1 + ga) M).map V.int).length : Int) * (if decide (0 < sh) = true then 1 else 0)).toNat = N1 ∧ ((0 < sh ∧ N1 = M) ∨ (sh = 0 ∧ N1 = 0)) := by
      refine ⟨_, rfl, ?_⟩
      rw [List.length_map, plc_len]
      by_cases h : 0 < sh
      · rw [decide_eq_true h, if_pos rfl]
        exact .inl ⟨h, by omega⟩
      · rw [decide_eq_false h, if_neg Bool.false_ne_true]
        exact .inr ⟨by omega, by omega⟩
    refine ⟨_, rfl, _, _, rfl, .inl ⟨_, SqL.of h7D, rfl⟩, _, rfl, _, _, rfl, rfl, .inr ⟨_, rfl, _, _, rfl, rfl, .inl ⟨?_, ?_⟩, _, rfl, ?_, ?_, ?_⟩⟩
    · rw [List.length_map, plc_len]; omega
    · rw [List.length_map, plc_len]; omega
    · rw [List.length_map, plc_len]; split <;> omega
    · rw [List.length_map, plc_len]; split <;> omega
    rw [eN1]
    refine for_range (lo := 0) (n := N1) (fun i σ H' => ∃ (v8 : Option V) (S' : Hp) (xs : List V) (ts : List Stp), σ = [some (.ref p), some (.ref wa), some (.int n), some (.int sh), some (.int fi), some (.int (1 + ga)), some (.ref D1), some (.ref l), v8, none, none] ∧
      Pool S' H' p ∧ S' l = none ∧ Gr p S6 H6 S' H' ∧ H' l = some (.lst xs) ∧ Stps S' xs ts ∧ ts.map (·.1) = (plc fi (1 + ga) M).take i ∧ Low ts) ?_ ?_ ?_
    · exact ⟨none, S6, [], [], rfl, P7, sl6, g7, hl7, .nil, rfl, fun t h => by cases h⟩
    · rintro i σ H' hi ⟨v8, S', xs, ts, rfl, P', sl, g', hl', hst, hfs, low⟩
      have hiM : i < M := by omega
      have hD' := P'.ss _ _ (g'.st _ _ hpl)
      have hwa' := P'.ss _ _ (g'.st _ _ hw6)
      have lts : ts.length = i := by
        have := congrArg List.length hfs
        rw [List.length_map, List.length_take, plc_len] at this
        omega
      have lxs : xs.length = i := (Paired.length hst).trans lts
      have e0 : atI ((plc fi (1 + ga) M).map V.int) (0 + (i : Int)) = some (.int (fi + (1 + ga) * (i : Int))) := at_of (j := i) (by omega) (by rw [List.getElem?_map, plc_get hiM]; rfl)
      refine ⟨_, rfl, .inl ⟨rfl, _, SqL.of hl'⟩, _, rfl, _, rfl, D1, _, _, _, rfl, rfl, SqL.of hD', e0, _, rfl, _, rfl, p, wa, S', _, rfl, P', hwa', nwp, by rw [List.length_map]; exact w0, by rw [List.length_map]; exact w1, fun j v S2 H2 hv P2 g2 => ?_⟩
      obtain ⟨z, hz, rfl⟩ : ∃ z, z ∈ ws ∧ v = .str z := by
        obtain ⟨z, hz, e⟩ := List.mem_map.mp (List.mem_of_getElem? hv)
        exact ⟨z, hz, e.symm⟩
      obtain ⟨sl2, hl2⟩ := g2.loc nlp sl hl'
      have hD2 := P2.ss _ _ (g2.st _ _ (g'.st _ _ hpl))
      have hx2 : (0 : Int) < (((plc fi (1 + ga) M).map V.int).length : Int) := by rw [List.length_map, plc_len]; omega
      obtain ⟨k, hk, ek⟩ : ∃ k : Nat, k < M ∧ ((0 : Int) + (i : Int) + 1) % (((plc fi (1 + ga) M).map V.int).length : Int) = (k : Int) := by
        have a1 := Int.emod_nonneg ((0 : Int) + (i : Int) + 1) (b := (((plc fi (1 + ga) M).map V.int).length : Int)) (by omega)
        have a2 := Int.emod_lt_of_pos ((0 : Int) + (i : Int) + 1) hx2
        refine ⟨(((0 : Int) + (i : Int) + 1) % (((plc fi (1 + ga) M).map V.int).length : Int)).toNat, ?_, by omega⟩
        have a3 : (((plc fi (1 + ga) M).map V.int).length : Int) = (M : Int) := by rw [List.length_map, plc_len]
        omega
      have ek2 : atI ((plc fi (1 + ga) M).map V.int) (((0 : Int) + (i : Int) + 1) % (((plc fi (1 + ga) M).map V.int).length : Int)) = some (.int (fi + (1 + ga) * (k : Int))) := at_of (j := k) ek (by rw [List.getElem?_map, plc_get hk]; rfl)
      refine ⟨_, rfl, _, rfl, _, _, rfl, rfl, .inl ⟨_, rfl, _, rfl, _, _, rfl, .inl ⟨_, SqL.of hD2, rfl⟩, _, _, rfl, rfl, hx2, D1, _, _, _, rfl, rfl, SqL.of hD2, ek2, by show 3 ≤ sizeLine; decide, fun t ht => ?_⟩⟩
      have P3' := P2.new (o := .tup [.int (fi + (1 + ga) * (i : Int)), .str z, .int (fi + (1 + ga) * (k : Int))]) ht
      have g3' := (g'.trans g2).new (o := .tup [.int (fi + (1 + ga) * (i : Int)), .str z, .int (fi + (1 + ga) * (k : Int))]) P2.ss ht
      have nlt : l ≠ t := fun e => by rw [← e, hl2] at ht; cases ht
      have sl3 : upd S2 t (.tup [.int (fi + (1 + ga) * (i : Int)), .str z, .int (fi + (1 + ga) * (k : Int))]) l = none := (upd_ne nlt).trans sl2
      have sSt : Same S' (upd S2 t (.tup [.int (fi + (1 + ga) * (i : Int)), .str z, .int (fi + (1 + ga) * (k : Int))])) := g2.st.trans (same_upd (P2.ss.free ht))
      refine ⟨l, _, _, rfl, rfl, (upd_ne nlt).trans hl2, small1000 (by omega), _, _, xs ++ [.ref t], ts ++ [(fi + (1 + ga) * (i : Int), z, fi + (1 + ga) * (k : Int))], rfl, P3'.put sl3 nlp, sl3, g3'.put hl, upd_same, (hst.mono sSt).snoc ⟨t, rfl, upd_same⟩, ?_, ?_⟩
      · rw [List.map_append, hfs, take_next (plc_get hiM)]
        rfl
      · intro u hu
        rcases List.mem_append.mp hu with h | h
        · exact low u h
        · rw [List.mem_singleton.mp h]
          exact ⟨pb _ (List.mem_of_getElem? (plc_get hiM)), hws z hz, pb _ (List.mem_of_getElem? (plc_get hk))⟩
    rintro σ H8 ⟨v8, S8, xs8, ts8, rfl, P8, sl8, g8, hl8, hst8, hfs8, low8⟩
    have nd8 : (ts8.map (·.1)).Nodup := by
      rw [hfs8]
      exact (plc_nodup (by omega) M).sublist (List.take_sublist _ _)
    have few8 : ∀ s, cnt s ts8 ≤ 3 := fun s => by
      rw [cnt_count]
      have := List.nodup_iff_count.mp nd8 s
      omega
    have len8 : ts8.length = N1 := by
      have := congrArg List.length hfs8
      rw [List.length_map, List.length_take, plc_len] at this
      omega
    -- the further steps
    refine ⟨_, rfl, p, S8, 4, rfl, by decide, by decide, P8, fun e S9 H9 P9 g9 e0 e1 => ⟨_, rfl, rfl, .inr ⟨_, rfl, _, _, rfl, rfl, _, rfl, ?_, ?_, ?_⟩⟩⟩
    · split <;> omega
    · split <;> omega
    obtain ⟨N2, eN2, hN2, hN3⟩ : ∃ N2 : Nat, (e + (if decide (V.int sh = V.int 0) = true then 1 else 0)).toNat = N2 ∧ N2 ≤ 4 ∧ (sh = 0 → 1 ≤ N2) := by
      refine ⟨_, rfl, by split <;> omega, fun h => ?_⟩
      rw [decide_eq_true (by rw [h]), if_pos rfl]
      omega
    rw [eN2]
    obtain ⟨sl9, hl9⟩ := g9.loc nlp sl8 hl8
    refine for_range (lo := 0) (n := N2) (fun i σ H' => ∃ (v8 v9 : Option V) (S' : Hp) (xs : List V) (ts : List Stp), σ = [some (.ref p), some (.ref wa), some (.int n), some (.int sh), some (.int fi), some (.int (1 + ga)), some (.ref D1), some (.ref l), v8, v9, none] ∧
      Pool S' H' p ∧ S' l = none ∧ Gr p S6 H6 S' H' ∧ H' l = some (.lst xs) ∧ Stps S' xs ts ∧ ts.Nodup ∧ (∀ s, cnt s ts ≤ 3) ∧ Low ts ∧ ts.length ≤ N1 + i ∧ (0 < N1 ∨ 0 < i → 1 ≤ ts.length)) ?_ ?_ ?_
    · exact ⟨_, _, S9, xs8, ts8, rfl, P9, sl9, g8.trans g9, hl9, hst8.mono g9.st, nodup_of_fst nd8, few8, low8, by omega, fun h => by omega⟩
    · rintro i σ H' hi ⟨v8, v9, S', xs, ts, rfl, P', sl, g', hl', hst, nd, few, low, len, ne⟩
      have lxs : xs.length = ts.length := Paired.length hst
      have hpm : ∀ {S2 H2 : Hp}, Pool S2 H2 p → Gr p S6 H6 S2 H2 → H2 D1 = some (.lst ((plc fi (1 + ga) M).map V.int)) := fun P2 g2 => P2.ss _ _ (g2.st _ _ hpl)
      have hlp : 0 < ((plc fi (1 + ga) M).map V.int).length := by rw [List.length_map, plc_len]; omega
      have hlp2 : ((plc fi (1 + ga) M).map V.int).length < 1000 := by rw [List.length_map, plc_len]; omega
      have isP : ∀ {j : Nat} {v : V}, ((plc fi (1 + ga) M).map V.int)[j]? = some v → ∃ x, v = .int x ∧ 0 ≤ x ∧ x ≤ 96 := fun {j v} h => by
        obtain ⟨x, hx, e⟩ := List.mem_map.mp (List.mem_of_getElem? h)
        exact ⟨x, e.symm, pb x hx⟩
      refine ⟨_, rfl, _, rfl, p, D1, S', _, rfl, P', hpm P' g', nDp, hlp, hlp2, fun j1 v1 S1' H1' hv1 P1' g1' => ?_⟩
      refine ⟨_, rfl, _, rfl, p, wa, S1', _, rfl, P1', P1'.ss _ _ (g1'.st _ _ (g'.st _ _ hw6)), nwp, by rw [List.length_map]; exact w0, by rw [List.length_map]; exact w1, fun j2 v2 S2' H2' hv2 P2' g2' => ?_⟩
      have g12 := g'.trans (g1'.trans g2')
      refine ⟨_, rfl, _, rfl, p, D1, S2', _, rfl, P2', hpm P2' g12, nDp, hlp, hlp2, fun j3 v3 S3' H3' hv3 P3' g3' => ?_⟩
      obtain ⟨x1, rfl, a1, b1⟩ := isP hv1
      obtain ⟨x3, rfl, a3, b3⟩ := isP hv3
      obtain ⟨z, hz, rfl⟩ : ∃ z, z ∈ ws ∧ v2 = .str z := by
        obtain ⟨z, hz, e⟩ := List.mem_map.mp (List.mem_of_getElem? hv2)
        exact ⟨z, hz, e.symm⟩
      refine ⟨by show 3 ≤ sizeLine; decide, fun t ht => ?_⟩
      have gg := g12.trans g3'
      have P4' := P3'.new (o := .tup [.int x1, .str z, .int x3]) ht
      have g4' := gg.new (o := .tup [.int x1, .str z, .int x3]) P3'.ss ht
      have sS : Same S' (upd S3' t (.tup [.int x1, .str z, .int x3])) := (g1'.trans (g2'.trans g3')).st.trans (same_upd (P3'.ss.free ht))
      obtain ⟨sl3, hl3⟩ := (g1'.trans (g2'.trans g3')).loc nlp sl hl'
      have nlt : l ≠ t := fun e => by rw [← e, hl3] at ht; cases ht
      have sl4 : upd S3' t (.tup [.int x1, .str z, .int x3]) l = none := (upd_ne nlt).trans sl3
      have hl4 : upd H3' t (.tup [.int x1, .str z, .int x3]) l = some (.lst xs) := (upd_ne nlt).trans hl3
      have hst4 := hst.mono sS
      have hit : IsStp (upd S3' t (.tup [.int x1, .str z, .int x3])) (.ref t) (x1, z, x3) := ⟨t, rfl, upd_same⟩
      generalize upd S3' t (.tup [.int x1, .str z, .int x3]) = S4' at P4' g4' sS sl4 hst4 hit
      generalize upd H3' t (.tup [.int x1, .str z, .int x3]) = H4' at P4' g4' hl4 ⊢
      have okt : StpOk (x1, z, x3) := ⟨⟨a1, by show x1 ≤ 99; omega⟩, hws z hz, a3, by show x3 ≤ 99; omega⟩
      have hit4 := hit.mono P4'.ss
      have hstH := hst4.mono P4'.ss
      refine ⟨_, rfl, _, rfl, _, _, hit4.dp, .lst (SqL.of hl4) (Stps.dpAll hstH), encS_shaped okt, encSs_shaped low.ok, _, rfl, ?_⟩
      rw [any_encS]
      have stay : ∀ {H5 : Hp}, Same H4' H5 → (Pool S4' H5 p ∧ Gr p S6 H6 S4' H5 ∧ H5 l = some (.lst xs)) := fun s5 => ⟨P4'.same s5, g4'.same s5, s5 _ _ hl4⟩
      by_cases hm : ((x1, z, x3) : Stp) ∈ ts
      · rw [decide_eq_true hm]
        exact ⟨_, _, S4', xs, ts, rfl, P4', sl4, g4', hl4, hst4, nd, few, low, by omega, fun _ => by have := List.length_pos_of_mem hm; omega⟩
      rw [decide_eq_false hm]
      obtain ⟨at4, e4, ht4⟩ := id hit4
      cases e4
      refine ⟨_, rfl, l, rfl, ⟨_, SqL.of hl4⟩, fun D2 hD2 => lc_pure (oneV H4' x1) (SqL.of hl4) (by omega) (fun _ => rfl) (fun x0 H5 hx0 s5 Q5 q5 => ?_) hD2 (fun H5 s5 h5 => ?_)⟩
      · obtain ⟨t0, _, a0, rfl, ha0⟩ := paired_memL hstH x0 hx0
        have e0 : oneV H4' x1 (.ref a0) = if decide (V.int t0.1 = V.int x1) = true then some (.int 1) else none := by
          unfold oneV fstV
          simp only [ha0, stpV]
          split <;> rfl
        refine ⟨_, rfl, a0, _, 0, _, rfl, rfl, SqT.of (s5 _ _ ha0), atI_nat (j := 0) rfl, _, rfl, t, _, 0, _, rfl, rfl, SqT.of (s5 _ _ ht4), atI_nat (j := 0) rfl, rfl, _, rfl, ite2 (fun c => ?_) (fun c => ?_)⟩
        · have := q5 H5 (Same.refl _)
          rw [e0, if_pos c] at this
          exact this
        · have := q5 H5 (Same.refl _)
          rw [e0, if_neg c] at this
          exact this
      · have hlen := oneV_len (H := H4') x1 hstH
        refine ⟨_, _, rfl, .inl ⟨_, SqL.of h5, rfl⟩, _, _, rfl, rfl, _, rfl, ite2 (fun c => ?_) (fun c => ?_)⟩
        · have c' : cnt x1 ts < 3 := by
            have := of_decide_eq_true c
            rw [hlen] at this
            omega
          obtain ⟨P5', g5', hl5⟩ := stay s5
          refine ⟨_, rfl, .inl ⟨rfl, _, SqL.of hl5⟩, _, rfl, l, _, _, rfl, rfl, hl5, small1000 (by omega), ?_⟩
          refine ⟨_, _, S4', xs ++ [.ref t], ts ++ [(x1, z, x3)], rfl, P5'.put sl4 nlp, sl4, g5'.put hl, upd_same, hst4.snoc hit, ?_, fun s => ?_, ?_, ?_, ?_⟩
          · rw [List.nodup_append]
            refine ⟨nd, by simp, fun a ha b hb e => ?_⟩
            rw [List.mem_singleton.mp hb] at e
            exact hm (e ▸ ha)
          · rw [cnt_append]
            by_cases hs : x1 = s
            · subst hs
              have h1 : cnt x1 [(x1, z, x3)] = 1 := cnt_one (x1, z, x3)
              omega
            · rw [cnt_other (t := (x1, z, x3)) hs]
              exact few s
          · intro u hu
            rcases List.mem_append.mp hu with h | h
            · exact low u h
            · rw [List.mem_singleton.mp h]
              exact ⟨⟨a1, b1⟩, hws z hz, a3, b3⟩
          · rw [List.length_append]
            simp
            omega
          · intro _
            rw [List.length_append]
            simp
        · obtain ⟨P5', g5', hl5⟩ := stay s5
          have c' : ¬ cnt x1 ts < 3 := by
            intro h
            apply c
            rw [hlen]
            exact decide_eq_true (by omega)
          refine ⟨_, _, S4', xs, ts, rfl, P5', sl4, g5', hl5, hst4, nd, few, low, by omega, fun _ => ?_⟩
          have : cnt x1 ts ≤ ts.length := List.length_filter_le _ _
          omega
    rintro σ H' ⟨v8, v9, S', xs, ts, rfl, P', sl, g', hl', hst, nd, few, low, len, ne⟩
    have lxs : xs.length = ts.length := Paired.length hst
    have hlp : 0 < ((plc fi (1 + ga) M).map V.int).length := by rw [List.length_map, plc_len]; omega
    have hlp2 : ((plc fi (1 + ga) M).map V.int).length < 1000 := by rw [List.length_map, plc_len]; omega
    refine ⟨_, rfl, _, rfl, p, D1, S', _, rfl, P', P'.ss _ _ (g'.st _ _ hpl), nDp, hlp, hlp2, fun j1 v1 S1' H1' hv1 P1' g1' => ?_⟩
    obtain ⟨x1, hx1, rfl⟩ : ∃ x, x ∈ plc fi (1 + ga) M ∧ v1 = .int x := by
      obtain ⟨x, hx, e⟩ := List.mem_map.mp (List.mem_of_getElem? hv1)
      exact ⟨x, hx, e.symm⟩
    obtain ⟨sl1, hl1⟩ := g1'.loc nlp sl hl'
    refine ⟨_, rfl, l, _, rfl, .inl ⟨SqL.of hl1, fun r hr => ?_⟩⟩
    have P2' := P1'.new (o := .tup xs) hr
    have g2' := (g'.trans g1').new (o := .tup xs) P1'.ss hr
    refine ⟨by show 2 ≤ sizeLine; decide, fun t' ht' => ?_⟩
    have P3' := P2'.new (o := .tup [.int x1, .ref r]) ht'
    have g3' := g2'.new (o := .tup [.int x1, .ref r]) P2'.ss ht'
    have nrt : r ≠ t' := fun e => by rw [← e, upd_same] at ht'; cases ht'
    refine q t' r x1 xs ts _ _ P3' (g6.trans g3') upd_same ((upd_ne nrt).trans upd_same) (hst.mono (g1'.st.trans ((same_upd (P1'.ss.free hr)).trans (same_upd (P2'.ss.free ht'))))) ⟨?_, by omega, low.ok, nd, few⟩ low (pb x1 hx1) (by omega)
    refine ne ?_
    rcases hN1 with ⟨h, e⟩ | ⟨h, e⟩
    · exact .inl (by omega)
    · exact .inr (by have := hN3 h; omega)
end
end WW

set_option Elab.async false
set_option linter.all false
set_option maxRecDepth 100000
set_option maxHeartbeats 4000000
namespace WW
open PySem PySem.Spec PyProof.Rows L2
local macro_rules | `(tactic| array_mem_dec) => `(tactic| try dsimp only [slot, aVar, aC, aOp, ifB_t, ifB_f, aTest, aAnd, aOr, aNot, aAndV, aOrT, aOrV, aNotV, aIfE, aChain, aNil, aCons, aName, aGNil, aGCons, aGTup, aNext, aIf, aRet, aRetO, aRetN, aDrop, aAsg, aNew, aPar, aParN, aPar3, frz, aFz, aNever, aLoop, aFor, aCol, aLc, aYes, fAdd, fSub, fMul, fMod, fDiv, fPow, fLt, fLe, fGt, fGe, fI, fIc, fCatS, fLtS, eqD, fEq, fNe, fIsN, fNotN, aFn1, fNeg, fLen, fInt, fAbs, fAll, fAny, aFn2, fMax, truD, aTru, aIxL, aIxT, aIxQ, fIxS, stabs, aTup, aLst, aFix, B.solid, B.get, B.sub, aCat, aListOf, aTupOf, aONone, aOSome, aSlL, aRevL, aSortSet, aListAny, aListDK, aCopyD, aLenSet, aSortDK, aSortS, aRetNw, aMethN, aEi, aIQ, aDgN, aDget, aDgetN, fDin, fDnin, aDnew, aDput, fLenD, D.key, aFld, aProp, aMeth, aMeth0, putFD, aSetF, aMake, aMake0, aRaise, isIn, isBo, isS, isL, isT, isDi, isRow, isNo, knD, aIs, aIsRow, D.fl, fInF, fNinF, fInS, fEqY, fNeY, fEqP, fNeP, fInP, fNinP, aLcK, aDc, aIE, aIS, aTry, aHand, aXf, aXis, aIL, aICL, aIT, aIR1, aIR2, coe1, coes, aCall, aCall0, aApp, awipe, List.set, List.map, List.cons_append, List.nil_append, List.replicate, List.length, Nat.reduceSub, Nat.reduceAdd])
local macro_rules | `(tactic| array_get_dec) => `(tactic| (array_mem_dec; repeat (with_reducible refine go_seq ?_; array_mem_dec)))
abbrev Hnd := Int × List Stp
def stpD (t : Stp) : D := .tup [.int t.1, .str t.2.1, .int t.2.2]
def hndD (h : Hnd) : D := .tup [.int h.1, .tup (h.2.map stpD)]
def hsD (hs : List Hnd) : D := .tup (hs.map hndD)
structure HndOk (h : Hnd) : Prop where
  fine : Fine h.2
  low : Low h.2
  st : 0 ≤ h.1 ∧ h.1 ≤ 96
  few : h.2.length ≤ 10
theorem stpD_inj {t u : Stp} (h : stpD t = stpD u) : t = u := by
  obtain ⟨a, b, c⟩ := t
  obtain ⟨a', b', c'⟩ := u
  simp only [stpD, D.tup.injEq, List.cons.injEq, D.int.injEq, D.str.injEq] at h
  obtain ⟨rfl, rfl, rfl, _⟩ := h
  rfl
theorem stpD_pl {n : Nat} {t : Stp} (h : StpOk t) : D.pl (n + 1) (stpD t) = true := pl_tup (by simp) fun d hd => by
  simp only [List.mem_cons, List.not_mem_nil, or_false] at hd
  rcases hd with rfl | rfl | rfl
  · cases n <;> rfl
  · exact pl_name h.2.1
  · cases n <;> rfl
theorem stpsD_pl {n : Nat} {ts : List Stp} (h : ∀ t ∈ ts, StpOk t) (l : ts.length ≤ 900) : D.pl (n + 2) (.lst (ts.map stpD)) = true := pl_lst (by rw [List.length_map]; exact l) fun d hd => by
  obtain ⟨t, ht, rfl⟩ := List.mem_map.mp hd
  exact stpD_pl (h t ht)
theorem stpD_mem {t : Stp} {ts : List Stp} : stpD t ∈ ts.map stpD ↔ t ∈ ts := by
  rw [List.mem_map]
  constructor
  · rintro ⟨u, hu, e⟩
    rw [← stpD_inj e]
    exact hu
  · intro h
    exact ⟨t, h, rfl⟩
theorem rng_at {lo : Int} {n i : Nat} {x : B} (h : (rngB lo n)[i]? = some x) : i < n ∧ x = .st (.int (lo + (i : Nat))) := by
  unfold rngB at h
  rw [List.getElem?_map] at h
  obtain ⟨y, h1, e⟩ := Option.map_eq_some_iff.mp h
  obtain ⟨h2, h3⟩ := List.getElem?_eq_some_iff.mp h1
  rw [List.length_range] at h2
  rw [List.getElem_range] at h3
  subst h3
  exact ⟨h2, e.symm⟩
theorem rng_len (lo : Int) (n : Nat) : (rngB lo n).length = n := by simp [rngB]
theorem map_at {α : Type} {f : α → D} {l : List α} {i : Nat} {d : D} (h : (l.map f)[i]? = some d) : ∃ a, l[i]? = some a ∧ d = f a := by
  rw [List.getElem?_map] at h
  obtain ⟨a, h1, e⟩ := Option.map_eq_some_iff.mp h
  exact ⟨a, h1, e.symm⟩
theorem oneD_len (x : Int) : ∀ ts : List Stp, (ts.filterMap fun t : Stp => if t.1 = x then some (D.int 1) else none).length = cnt x ts
  | [] => rfl
  | t :: r => by
    have ih := oneD_len x r
    unfold cnt at ih ⊢
    by_cases e : t.1 = x
    · simp only [List.filterMap_cons, List.filter_cons, e, if_true, decide_true, List.length_cons, ih]
    · simp only [List.filterMap_cons, List.filter_cons, e, if_false, decide_false, ih]
      rfl
section
variable {P : Program} {w : World} {K : PySem.W.Frag} {mg : Str → Option Value} {base : Heap}
def spHandA : ASp := fun bs Q _ => ∃ (n : Int) (ws : List Str), bs = [.pool, .st (.lst (ws.map D.str)), .st (.int n)] ∧ 0 < ws.length ∧ ws.length < 1000 ∧ (∀ z ∈ ws, NameOk z) ∧ 1 ≤ n ∧ n ≤ 4 ∧
  ∀ h : Hnd, HndOk h → (∀ t ∈ h.2, t.2.1 ∈ ws) → Q (hndD h)
theorem ok_handA (DLhand : Df K mg "_law_hand" sLhand ["_law_pool_here", "_law_words_here", "_law_most"] fLhand fdLhand) (DLdraw : Df K mg "_law_draw" sLdraw ["_law_pool_here", "_law_many"] fLdraw fdLdraw) (GLdraw : FnOk P w K mg base CX0 1 fLdraw fdLdraw ["_law_pool_here", "_law_many"] (cSp K spDrawA)) (DLpick : Df K mg "_law_pick" sLpick ["_law_pool_here", "_law_items"] fLpick fdLpick) (GLpick : FnOk P w K mg base CX0 2 fLpick fdLpick ["_law_pool_here", "_law_items"] (cSp K spPickA)) (T : Bl mg) : FnOk P w K mg base CX0 3 fLhand fdLhand ["_law_pool_here", "_law_words_here", "_law_most"] (cSp K spHandA) := by
  refine DLhand.fn.ok scLhand (fun vs H Q E h => cSp_len (fun bs Q X h => by obtain ⟨n, ws, rfl, _⟩ := h; rfl) h) (fun cdv A outer s H vs Q E hr h => ?_)
  refine ⟨_, (pss_cons (ps_asg (pe_tup (pa_cons (pe_df DLdraw GLdraw (hr.mono (by decide)) (pa_cons (pv 0) (pa_cons pe_int pa_nil))) (pa_cons (pe_df DLdraw GLdraw (hr.mono (by decide)) (pa_cons (pv 0) (pa_cons pe_int pa_nil))) (pa_cons (pe_op op_add pe_int (pe_df DLdraw GLdraw (hr.mono (by decide)) (pa_cons (pv 0) (pa_cons pe_int pa_nil)))) pa_nil)))) (pg_tup rfl (pgs_cons (pg_name (i := 3) scLhand.nd rfl (Or.inl rfl)) (pgs_cons (pg_name (i := 4) scLhand.nd rfl (Or.inr rfl)) (pgs_cons (pg_name (i := 5) scLhand.nd rfl (Or.inr rfl)) pgs_nil)))))
      (pss_cons (ps_setLc (i := 6) (own := [("_law_k", 8)]) rfl scLhand.nd rfl rfl (sw_true rfl rfl rfl (by decide +kernel)) (pi_range1 (by rfl) T.range (pa_cons (pe_op op_add pe_int (pe_df DLdraw GLdraw (hr.mono (by decide)) (pa_cons (pv 0) (pa_cons (pv 2) pa_nil)))) pa_nil)) (blkOk_by (own := [("_law_k", 8)]) (N := nLhand) (sc := defScope sLhand) (by decide +kernel)) (fun _ _ _ _ _ => (pg_name (i := 8) scLhand.nd rfl (Or.inl rfl))) (fun _ _ _ _ _ => pts_nil) (fun _ _ _ _ _ => (pe_op op_add (pv 4) (pe_op op_mul (pv 5) (pv 8)))))
      (pss_cons (ps_set (i := 7) scLhand.nd rfl (Or.inl rfl) (pe_lst pa_nil))
      (pss_cons (ps_for PassesOwn.never rfl (pi_range1 (by rfl) T.range (pa_cons (pe_op op_mul (pe_callB call_len (by rfl) T.len (by decide +kernel) (pa_cons (pv 6) pa_nil)) (pe_callTy call_int1 (by rfl) T.int (by decide +kernel) (pa_cons (pe_cmpR op_gt (pv 3) pe_int (nomark _)) pa_nil))) pa_nil)) (pg_name (i := 8) scLhand.nd rfl (Or.inl rfl)) (pss_one (ps_expr (pe_bm PySem.F.plainAttrs_list PySem.F.slot_list_append PySem.F.type_list_append mt_append (pv 7) (pa_cons (pe_tup (pa_cons (pe_ix ix_list (pv 6) (pv 8) (fun _ _ => rfl)) (pa_cons (pe_df DLpick GLpick (hr.mono (by decide)) (pa_cons (pv 0) (pa_cons (pv 1) pa_nil))) (pa_cons (pe_ix ix_list (pv 6) (pe_op op_mod (pe_callTy call_int1 (by rfl) T.int (by decide +kernel) (pa_cons (pe_op op_add (pv 8) pe_int) pa_nil)) (pe_callB call_len (by rfl) T.len (by decide +kernel) (pa_cons (pv 6) pa_nil))) (fun _ _ => rfl)) pa_nil)))) pa_nil)))))
      (pss_cons (ps_for PassesOwn.never rfl (pi_range1 (by rfl) T.range (pa_cons (pe_op op_add (pe_df DLdraw GLdraw (hr.mono (by decide)) (pa_cons (pv 0) (pa_cons pe_int pa_nil))) (pe_callTy call_int1 (by rfl) T.int (by decide +kernel) (pa_cons (pe_cmpR op_eq (pv 3) pe_int (nomark _)) pa_nil))) pa_nil)) (pg_name (i := 8) scLhand.nd rfl (Or.inl rfl)) (pss_cons (ps_set (i := 9) scLhand.nd rfl (Or.inr rfl) (pe_tup (pa_cons (pe_df DLpick GLpick (hr.mono (by decide)) (pa_cons (pv 0) (pa_cons (pv 6) pa_nil))) (pa_cons (pe_df DLpick GLpick (hr.mono (by decide)) (pa_cons (pv 0) (pa_cons (pv 1) pa_nil))) (pa_cons (pe_df DLpick GLpick (hr.mono (by decide)) (pa_cons (pv 0) (pa_cons (pv 6) pa_nil))) pa_nil)))))
      (pss_one (ps_if (PW.pt (pw_and (pt_cmpR (op_notInD (hu65 hr)) (pv 9) (pv 7) (by rfl)) (pw_and1 (pt_cmpR op_lt (pe_callB call_len (by rfl) T.len (by decide +kernel) (pa_cons (pe_lc (own := [("_law_old", 10)]) rfl scLhand.nd (pi_list (pv 7)) (blkOk_by (own := [("_law_old", 10)]) (N := nLhand) (sc := defScope sLhand) (by decide +kernel)) (fun _ _ _ _ _ => (pg_name (i := 10) scLhand.nd rfl (Or.inl rfl))) (fun _ _ _ _ _ => (pts_one (pt_cmpR op_eq (pe_ix (r := rIxT K) ix_tup (pv 10) pe_int (fun _ _ => rfl)) (pe_ix (r := rIxT K) ix_tup (pv 9) pe_int (fun _ _ => rfl)) (nomark _)))) (fun _ _ _ _ _ => pe_int)) pa_nil)) pe_int (nomark _))))) (pss_one (ps_expr (pe_bm PySem.F.plainAttrs_list PySem.F.slot_list_append PySem.F.type_list_append mt_append (pv 7) (pa_cons (pv 9) pa_nil)))) pss_nil))))
      (pss_one (ps_ret (pe_tup (pa_cons (pe_df DLpick GLpick (hr.mono (by decide)) (pa_cons (pv 0) (pa_cons (pv 6) pa_nil))) (pa_cons (pe_callTy call_tuple_of (by rfl) T.tuple (by decide +kernel) (pa_cons (pv 7) pa_nil)) pa_nil)))))))))), ?_⟩
  refine fn_A ((sa_seq (sa_asg (ea_tup (el_cons (ea_call [] (el_cons (ea_var 0) (el_cons ea_cI el_nil))) (el_cons (ea_call [] (el_cons (ea_var 0) (el_cons ea_cI el_nil))) (el_cons (ea_op r2_add ea_cI (ea_call [] (el_cons (ea_var 0) (el_cons ea_cI el_nil)))) el_nil)))) (ga_tup (n := 3) (js := [3, 4, 5]) (gas_cons (ga_name (js := [3, 4, 5]) 3) (gas_cons (ga_name (js := [3, 4, 5]) 4) (gas_cons (ga_name (js := [3, 4, 5]) 5) gas_nil)))))
      (sa_seq (sa_set 6 (ea_fix (en_lc (EI.ec (ei_range1 (ea_op r2_add ea_cI (ea_call [] (el_cons (ea_var 0) (el_cons (ea_var 2) el_nil)))))) (ga_name (js := [8]) 8) et_yes (ea_op r2_add (ea_var 4) (ea_op r2_mul (ea_var 5) (ea_var 8))))))
      (sa_seq (sa_new 7 (en_lst el_nil))
      (sa_seq (sa_for (ei_range1 (ea_op r2_mul (ea_b1 rc_len (ea_var 6)) (ea_b1 rc_int (ea_op r2_gt (ea_var 3) ea_cI)))) (ga_name (js := [8]) 8) (sa_app 7 (ea_tup (el_cons (ea_ixL (ea_var 6) (ea_var 8)) (el_cons (ea_call [] (el_cons (ea_var 0) (el_cons (ea_var 1) el_nil))) (el_cons (ea_ixL (ea_var 6) (ea_op r2_mod (ea_b1 rc_int (ea_op r2_add (ea_var 8) ea_cI)) (ea_b1 rc_len (ea_var 6)))) el_nil))))))
      (sa_seq (sa_for (ei_range1 (ea_op r2_add (ea_call [] (el_cons (ea_var 0) (el_cons ea_cI el_nil))) (ea_b1 rc_int (ea_op r2_eq (ea_var 3) ea_cI)))) (ga_name (js := [8]) 8) (sa_seq (sa_set 9 (ea_tup (el_cons (ea_call [] (el_cons (ea_var 0) (el_cons (ea_var 6) el_nil))) (el_cons (ea_call [] (el_cons (ea_var 0) (el_cons (ea_var 1) el_nil))) (el_cons (ea_call [] (el_cons (ea_var 0) (el_cons (ea_var 6) el_nil))) el_nil)))))
      (sa_if (et_and (et_test (ea_op r2_ninP (ea_var 9) (ea_var 7))) (et_test (ea_op r2_lt (ea_b1 rc_len (ea_fix (en_lc (ec_list (ea_var 7)) (ga_name (js := [10]) 10) (et_test (ea_op r2_eq (ea_ixT (ea_var 10) ea_cI) (ea_ixT (ea_var 9) ea_cI))) ea_cI))) ea_cI))) (sa_app 7 (ea_var 9)) sa_next)))
      (sa_ret (ea_tup (el_cons (ea_call [] (el_cons (ea_var 0) (el_cons (ea_var 6) el_nil))) (el_cons (ea_tupOf (ea_var 7)) el_nil)))))))))) h fun bs Qa Xa h => ?_
  obtain ⟨n, ws, rfl, w0, w1, hws, n0, n1, q⟩ := h
  array_get_dec
  refine ⟨3, rfl, by decide, by decide, fun sh s0 s1 => ⟨70, rfl, by decide, by decide, fun fi f0 f1 => ⟨9, rfl, by decide, by decide, fun ga a0 a1 => ?_⟩⟩⟩
  array_get_dec
  refine ⟨rfl, n, rfl, by omega, by omega, fun m m0 m1 => ?_⟩
  array_get_dec
  refine ⟨⟨by omega, by omega⟩, by rw [rng_len]; omega, ?_⟩
  obtain ⟨M, hM, M0, M1⟩ : ∃ M : Nat, (1 + m).toNat = M ∧ 1 ≤ M ∧ M ≤ 4 := ⟨_, rfl, by omega, by omega⟩
  rw [hM]
  unfold rngB
  refine aCol_map (fun (i : Nat) => D.int (fi + (1 + ga) * (0 + (i : Nat)))) (fun i hi R hR => ?_) ?_
  · array_get_dec
    exact ⟨.inl ⟨by omega, by omega⟩, hR⟩
  have e0 : ([] : List D) ++ (List.range M).map (fun (i : Nat) => D.int (fi + (1 + ga) * (0 + (i : Nat)))) = (plc fi (1 + ga) M).map D.int := by
    unfold plc
    rw [List.nil_append, List.map_map]
    refine List.map_congr_left fun i _ => ?_
    simp
  rw [e0]
  have pb : ∀ x ∈ plc fi (1 + ga) M, 0 ≤ x ∧ x ≤ 96 := fun x hx => plc_bound f0 f1 (by omega) (by omega) M1 hx
  have pl : ((plc fi (1 + ga) M).map D.int).length = M := by rw [List.length_map, plc_len]
  intro l
  array_get_dec
  refine ⟨?_, ?_⟩
  · rw [pl]
    exact .inl ⟨by omega, by omega⟩
  array_get_dec
  obtain ⟨N1, eN1, hN1⟩ : ∃ N1 : Nat, ((((plc fi (1 + ga) M).map D.int).length : Int) * (if decide (0 < sh) = true then 1 else 0)).toNat = N1 ∧ ((0 < sh ∧ N1 = M) ∨ (sh = 0 ∧ N1 = 0)) := by
    refine ⟨_, rfl, ?_⟩
    rw [pl]
    by_cases h : 0 < sh
    · rw [decide_eq_true h, if_pos rfl]
      exact .inl ⟨h, by omega⟩
    · rw [decide_eq_false h, if_neg Bool.false_ne_true]
      exact .inr ⟨by omega, by omega⟩
  rw [eN1]
  refine ⟨⟨by rw [pl]; split <;> omega, by rw [pl]; split <;> omega⟩, ?_⟩
  refine aLoop_inv (fun i env => ∃ u ts, env = [some .pool, some (.st (.lst (ws.map D.str))), some (.st (.int n)), some (.st (.int sh)), some (.st (.int fi)), some (.st (.int (1 + ga))), some (.st (.lst ((plc fi (1 + ga) M).map D.int))), some (.ow l (.lst (ts.map stpD))), u, none, none] ∧
    ts.map (·.1) = (plc fi (1 + ga) M).take i ∧ Low ts ∧ ∀ t ∈ ts, t.2.1 ∈ ws) ⟨_, [], rfl, rfl, fun t h => (by cases h), fun t h => (by cases h)⟩ ?_ ?_
  · rintro i x env R hx ⟨u, ts, rfl, hfs, low, hw⟩ hR
    obtain ⟨hi, rfl⟩ := rng_at hx
    have hiM : i < M := by omega
    have lts : ts.length = i := by
      have := congrArg List.length hfs
      rw [List.length_map, List.length_take, plc_len] at this
      omega
    array_get_dec
    refine ⟨_, at_ofG (j := i) (by omega) (by rw [List.getElem?_map, plc_get hiM]; rfl), ws.map D.str, .inl rfl, by rw [List.length_map]; exact w0, by rw [List.length_map]; exact w1, fun j d hd => ?_⟩
    obtain ⟨z, hz, rfl⟩ := map_at hd
    have hz := List.mem_of_getElem? hz
    array_get_dec
    obtain ⟨k, hk, ek⟩ : ∃ k : Nat, k < M ∧ ((0 : Int) + (i : Int) + 1) % (((plc fi (1 + ga) M).map D.int).length : Int) = (k : Int) := by
      have a1 := Int.emod_nonneg ((0 : Int) + (i : Int) + 1) (b := (((plc fi (1 + ga) M).map D.int).length : Int)) (by rw [pl]; omega)
      have a2 := Int.emod_lt_of_pos ((0 : Int) + (i : Int) + 1) (b := (((plc fi (1 + ga) M).map D.int).length : Int)) (by rw [pl]; omega)
      refine ⟨(((0 : Int) + (i : Int) + 1) % (((plc fi (1 + ga) M).map D.int).length : Int)).toNat, ?_, by omega⟩
      rw [pl] at a1 a2 ⊢
      omega
    refine ⟨by rw [pl]; omega, _, at_ofG (j := k) ek (by rw [List.getElem?_map, plc_get hk]; rfl), by rw [List.length_map]; omega, ?_⟩
    refine hR _ ⟨_, ts ++ [(fi + (1 + ga) * (i : Int), z, fi + (1 + ga) * (k : Int))], by simp only [List.map_append]; rfl, ?_, fun v hv => ?_, fun v hv => ?_⟩
    · rw [List.map_append, hfs, take_next (plc_get hiM)]
      rfl
    · rcases List.mem_append.mp hv with h | h
      · exact low v h
      · rw [List.mem_singleton.mp h]
        exact ⟨pb _ (List.mem_of_getElem? (plc_get hiM)), hws z hz, pb _ (List.mem_of_getElem? (plc_get hk))⟩
    · rcases List.mem_append.mp hv with h | h
      · exact hw v h
      · rw [List.mem_singleton.mp h]
        exact hz
  rintro env ⟨u8, ts8, rfl, hfs8, low8, hw8⟩
  rw [rng_len] at hfs8
  have nd8 : (ts8.map (·.1)).Nodup := by
    rw [hfs8]
    exact (plc_nodup (by omega) M).sublist (List.take_sublist _ _)
  have few8 : ∀ s, cnt s ts8 ≤ 3 := fun s => by
    rw [cnt_count]
    have := List.nodup_iff_count.mp nd8 s
    omega
  have len8 : ts8.length = N1 := by
    have := congrArg List.length hfs8
    rw [List.length_map, List.length_take, plc_len] at this
    omega
  array_get_dec
  refine ⟨4, rfl, by decide, by decide, fun e e0 e1 => ?_⟩
  array_get_dec
  refine ⟨⟨by split <;> omega, by split <;> omega⟩, ?_⟩
  obtain ⟨N2, eN2, hN2, hN3⟩ : ∃ N2 : Nat, (e + (if decide (sh = 0) = true then 1 else 0)).toNat = N2 ∧ N2 ≤ 4 ∧ (sh = 0 → 1 ≤ N2) := by
    refine ⟨_, rfl, by split <;> omega, fun h => ?_⟩
    rw [decide_eq_true h, if_pos rfl]
    omega
  rw [eN2]
  refine aLoop_inv (fun i env => ∃ u v ts, env = [some .pool, some (.st (.lst (ws.map D.str))), some (.st (.int n)), some (.st (.int sh)), some (.st (.int fi)), some (.st (.int (1 + ga))), some (.st (.lst ((plc fi (1 + ga) M).map D.int))), some (.ow l (.lst (ts.map stpD))), u, v, none] ∧
    ts.Nodup ∧ (∀ s, cnt s ts ≤ 3) ∧ Low ts ∧ (∀ t ∈ ts, t.2.1 ∈ ws) ∧ ts.length ≤ N1 + i ∧ (0 < N1 ∨ 0 < i → 1 ≤ ts.length)) ⟨_, _, ts8, rfl, nodup_of_fst nd8, few8, low8, hw8, by omega, fun h => by omega⟩ ?_ ?_
  · rintro i x env R hx ⟨u, v, ts, rfl, nd, few, low, hw, len, ne⟩ hR
    obtain ⟨hi, rfl⟩ := rng_at hx
    have isP : ∀ {j : Nat} {d : D}, ((plc fi (1 + ga) M).map D.int)[j]? = some d → ∃ x, d = .int x ∧ 0 ≤ x ∧ x ≤ 96 := fun {j d} h => by
      obtain ⟨x, hx, rfl⟩ := map_at h
      exact ⟨x, rfl, pb x (List.mem_of_getElem? hx)⟩
    array_get_dec
    refine ⟨_, .inl rfl, by rw [pl]; omega, by rw [pl]; omega, fun j1 d1 h1 => ⟨_, .inl rfl, by rw [List.length_map]; exact w0, by rw [List.length_map]; exact w1, fun j2 d2 h2 => ⟨_, .inl rfl, by rw [pl]; omega, by rw [pl]; omega, fun j3 d3 h3 => ?_⟩⟩⟩
    obtain ⟨x1, rfl, b1, c1⟩ := isP h1
    obtain ⟨x3, rfl, b3, c3⟩ := isP h3
    obtain ⟨z, hz, rfl⟩ := map_at h2
    have hz := List.mem_of_getElem? hz
    array_get_dec
    have okt : StpOk (x1, z, x3) := ⟨⟨b1, by show x1 ≤ 99; omega⟩, hws z hz, b3, by show x3 ≤ 99; omega⟩
    refine ⟨stpD_pl okt, stpsD_pl low.ok (by omega), fun b hb => ?_⟩
    rw [show ([D.int x1, D.str z, D.int x3] : List D) = [D.int (x1, z, x3).1, D.str (x1, z, x3).2.1, D.int (x1, z, x3).2.2] from rfl] at hb
    have hb : b = true ↔ (x1, z, x3) ∉ ts := hb.trans (not_congr stpD_mem)
    cases b with
    | false =>
      have hm : (x1, z, x3) ∈ ts := Classical.byContradiction fun c => by cases hb.mpr c
      array_get_dec
      exact hR _ ⟨_, _, ts, rfl, nd, few, low, hw, by omega, fun _ => by have := List.length_pos_of_mem hm; omega⟩
    | true =>
      have hm := hb.mp rfl
      array_get_dec
      refine ⟨by rw [List.length_map, List.length_map]; omega, ?_⟩
      rw [List.map_map]
      refine aCol_fm (fun t : Stp => if t.1 = x1 then some (D.int 1) else none) (fun t ht S hS => ?_) ?_
      · array_get_dec
        refine ⟨_, rfl, _, rfl, ?_⟩
        array_get_dec
        by_cases e : t.1 = x1
        · rw [if_pos e] at hS
          rw [decide_eq_true e]
          exact hS
        · rw [if_neg e] at hS
          rw [decide_eq_false e]
          exact hS
      have hc := oneD_len x1 ts
      array_get_dec
      refine ifB_dec (fun c => ?_) (fun c => ?_)
      · rw [hc] at c
        refine ⟨by rw [List.length_map]; omega, hR _ ⟨_, _, ts ++ [(x1, z, x3)], by simp only [List.map_append]; rfl, ?_, fun s => ?_, fun v hv => ?_, fun v hv => ?_, by simp; omega, fun _ => by simp⟩⟩
        · rw [List.nodup_append]
          exact ⟨nd, by simp, fun a ha b hb e => hm (by rw [List.mem_singleton.mp hb] at e; exact e ▸ ha)⟩
        · rw [cnt_append]
          by_cases hs : x1 = s
          · subst hs
            have h1 : cnt x1 [(x1, z, x3)] = 1 := cnt_one (x1, z, x3)
            omega
          · rw [cnt_other (t := (x1, z, x3)) hs]
            exact few s
        · rcases List.mem_append.mp hv with h | h
          · exact low v h
          · rw [List.mem_singleton.mp h]
            exact ⟨⟨b1, c1⟩, hws z hz, b3, c3⟩
        · rcases List.mem_append.mp hv with h | h
          · exact hw v h
          · rw [List.mem_singleton.mp h]
            exact hz
      · rw [hc] at c
        refine hR _ ⟨_, _, ts, rfl, nd, few, low, hw, by omega, fun _ => ?_⟩
        have : cnt x1 ts ≤ ts.length := List.length_filter_le _ _
        omega
  · rintro env ⟨u, v, ts, rfl, nd, few, low, hw, len, ne⟩
    rw [rng_len] at len ne
    array_get_dec
    refine ⟨_, .inl rfl, by rw [pl]; omega, by rw [pl]; omega, fun j d hd => ?_⟩
    obtain ⟨x, hx, rfl⟩ := map_at hd
    have hx := pb x (List.mem_of_getElem? hx)
    array_get_dec
    refine q (x, ts) ⟨⟨ne ?_, by show ts.length ≤ 20; omega, low.ok, nd, few⟩, low, hx, by show ts.length ≤ 10; omega⟩ hw
    rcases hN1 with ⟨h, e⟩ | ⟨h, e⟩
    · exact .inl (by omega)
    · exact .inr (by have := hN3 h; omega)
end
end WW

set_option Elab.async false
set_option linter.all false
set_option maxRecDepth 100000
set_option maxHeartbeats 4000000
namespace WW
open PySem PySem.Spec PyProof.Rows L2
local macro_rules | `(tactic| array_mem_dec) => `(tactic| try dsimp only [slot, aVar, aC, aOp, ifB_t, ifB_f, aTest, aAnd, aOr, aNot, aAndV, aOrT, aOrV, aNotV, aIfE, aChain, aNil, aCons, aName, aGNil, aGCons, aGTup, aNext, aIf, aRet, aRetO, aRetN, aDrop, aAsg, aNew, aPar, aParN, aPar3, frz, aFz, aNever, aLoop, aFor, aCol, aLc, aYes, fAdd, fSub, fMul, fMod, fDiv, fPow, fLt, fLe, fGt, fGe, fI, fIc, fCatS, fLtS, eqD, fEq, fNe, fIsN, fNotN, aFn1, fNeg, fLen, fInt, fAbs, fAll, fAny, aFn2, fMax, truD, aTru, aIxL, aIxT, aIxQ, fIxS, stabs, aTup, aLst, aFix, B.solid, B.get, B.sub, aCat, aListOf, aTupOf, aONone, aOSome, aSlL, aRevL, aSortSet, aListAny, aListDK, aCopyD, aLenSet, aSortDK, aSortS, aRetNw, aMethN, aEi, aIQ, aDgN, aDget, aDgetN, fDin, fDnin, aDnew, aDput, fLenD, D.key, aFld, aProp, aMeth, aMeth0, putFD, aSetF, aMake, aMake0, aRaise, isIn, isBo, isS, isL, isT, isDi, isRow, isNo, knD, aIs, aIsRow, D.fl, fInF, fNinF, fInS, fEqY, fNeY, fEqP, fNeP, fInP, fNinP, aLcK, aDc, aIE, aIS, aTry, aHand, aXf, aXis, aIL, aICL, aIT, aIR1, aIR2, coe1, coes, aCall, aCall0, aApp, awipe, List.set, List.map, List.cons_append, List.nil_append, List.replicate, List.length, Nat.reduceSub, Nat.reduceAdd])
local macro_rules | `(tactic| array_get_dec) => `(tactic| (array_mem_dec; repeat (with_reducible refine go_seq ?_; array_mem_dec)))
structure HsOk (hs : List Hnd) : Prop where
  l1 : 1 ≤ hs.length
  l2 : hs.length ≤ 3
  ok : ∀ h ∈ hs, HndOk h
abbrev Ptn := List (Int × Int)
def ptL (pt : Ptn) : List (Key × D) := pt.map fun q => (Sum.inl q.1, D.int q.2)
def ptD (pt : Ptn) : D := .dK (ptL pt)
structure PtOk (n : Nat) (pt : Ptn) : Prop where
  ne : pt ≠ []
  nd : (pt.map (·.1)).Nodup
  ok : ∀ q ∈ pt, (0 ≤ q.1 ∧ q.1 < n) ∧ (0 ≤ q.2 ∧ q.2 ≤ 96)
theorem ptn_keys (pt : Ptn) : (ptL pt).map (·.1) = (pt.map (·.1)).map Sum.inl := by
  unfold ptL
  rw [List.map_map, List.map_map]
  rfl
theorem ptn_put {pt : Ptn} {k x : Int} (h : k ∉ pt.map (·.1)) : putD (ptL pt) (Sum.inl k) (.int x) = ptL (pt ++ [(k, x)]) := by
  rw [putD_new]
  · unfold ptL
    rw [List.map_append]
    rfl
  · rw [ptn_keys]
    intro c
    obtain ⟨q, hq, e⟩ := List.mem_map.mp c
    exact h (by rw [← Sum.inl.inj e]; exact hq)
theorem ptn_val {pt : Ptn} (nd : (pt.map (·.1)).Nodup) {q : Int × Int} (h : q ∈ pt) : valD (ptL pt) (Sum.inl q.1) = some (.int q.2) := by
  refine valD_mem ?_ (List.mem_map.mpr ⟨q, h, rfl⟩)
  rw [ptn_keys]
  exact List.pairwise_map.mpr (nd.imp fun {a b} n e => n (Sum.inl.inj e))
theorem ptn_len {n : Nat} {pt : Ptn} (nd : (pt.map (·.1)).Nodup) (ok : ∀ q ∈ pt, (0 ≤ q.1 ∧ q.1 < n) ∧ (0 ≤ q.2 ∧ q.2 ≤ 96)) : pt.length ≤ n := by
  have h1 := pigeon (pt.map (·.1)) ((List.range n).map fun (k : Nat) => (k : Int)) nd (fun c hc => by
    obtain ⟨q, hq, rfl⟩ := List.mem_map.mp hc
    have := (ok q hq).1
    exact List.mem_map.mpr ⟨q.1.toNat, List.mem_range.mpr (by omega), by omega⟩)
  rw [List.length_map, List.length_map, List.length_range] at h1
  exact h1
/-- what a pattern says of a standing -/
def agB (pt : Ptn) (st : List Int) : Bool := pt.all fun q => decide (st[q.1.toNat]? = some q.2)
section
variable {P : Program} {w : World} {K : PySem.W.Frag} {mg : Str → Option Value} {base : Heap}
abbrev sLpattern : Stmt := topS 41
abbrev nLpattern : List Str := ["_law_pool_here", "_law_hands", "_law_pattern_here", "_law_k", "_law_step"]
theorem scLpattern : FnScope nLpattern ["_law_pool_here", "_law_hands"] (defScope sLpattern) := ⟨rfl, rfl, rfl, by decide +kernel, rfl, by decide +kernel, by decide +kernel⟩
def spPatternA : ASp := fun bs Q _ => ∃ hs : List Hnd, bs = [.pool, .st (hsD hs)] ∧ HsOk hs ∧ ∀ pt, PtOk hs.length pt → Q (ptD pt)
theorem ok_patternA (DLpattern : Df K mg "_law_pattern" sLpattern ["_law_pool_here", "_law_hands"] fLpattern fdLpattern) (DLdraw : Df K mg "_law_draw" sLdraw ["_law_pool_here", "_law_many"] fLdraw fdLdraw) (GLdraw : FnOk P w K mg base CX0 1 fLdraw fdLdraw ["_law_pool_here", "_law_many"] (cSp K spDrawA)) (DLpick : Df K mg "_law_pick" sLpick ["_law_pool_here", "_law_items"] fLpick fdLpick) (GLpick : FnOk P w K mg base CX0 2 fLpick fdLpick ["_law_pool_here", "_law_items"] (cSp K spPickA)) (T : Bl mg) : FnOk P w K mg base CX0 3 fLpattern fdLpattern ["_law_pool_here", "_law_hands"] (cSp K spPatternA) := by
  refine DLpattern.fn.ok scLpattern (fun vs H Q E h => cSp_len (fun bs Q X h => by obtain ⟨hs, rfl, _⟩ := h; rfl) h) (fun cdv A outer s H vs Q E hr h => ?_)
  refine ⟨_, (pss_cons (ps_set (i := 2) scLpattern.nd rfl (Or.inl rfl) pe_dnewK)
      (pss_cons (ps_for PassesOwn.never rfl (pi_range1 (by rfl) T.range (pa_cons (pe_callB call_len (by rfl) T.len (by decide +kernel) (pa_cons (pv 1) pa_nil)) pa_nil)) (pg_name (i := 3) scLpattern.nd rfl (Or.inl rfl)) (pss_one (ps_if (pt_cmpR op_eq (pe_df DLdraw GLdraw (hr.mono (by decide)) (pa_cons (pv 0) (pa_cons pe_int pa_nil))) pe_int (nomark _)) (pss_cons (ps_set (i := 4) scLpattern.nd rfl (Or.inl rfl) (pe_df DLpick GLpick (hr.mono (by decide)) (pa_cons (pv 0) (pa_cons (pe_ix ix_tup (pe_ix ix_tup (pv 1) (pv 3) (fun _ _ => rfl)) pe_int (fun _ _ => rfl)) pa_nil))))
      (pss_one (ps_dput (hu1 hr) (pv 2) (pv 3) (pe_ix ix_tup (pv 4) (pe_op op_mul pe_int (pe_df DLdraw GLdraw (hr.mono (by decide)) (pa_cons (pv 0) (pa_cons pe_int pa_nil)))) (fun _ _ => rfl)) (by rfl)))) pss_nil)))
      (C8.pss_cut (ps_if (pt_cmpR op_eq (pe_callB cr_lenRd (by rfl) T.len (by decide +kernel) (pa_cons (pv 2) pa_nil)) pe_int (nomark _)) (pss_one (ps_dput (hu1 hr) (pv 2) pe_int (pe_ix ix_tup (pe_df DLpick GLpick (hr.mono (by decide)) (pa_cons (pv 0) (pa_cons (pe_ix ix_tup (pe_ix ix_tup (pv 1) pe_int (fun _ _ => rfl)) pe_int (fun _ _ => rfl)) pa_nil))) pe_int (fun _ _ => rfl)) (by rfl))) pss_nil)
      (pss_one (ps_ret (pv 2)))))), ?_⟩
  refine fn_A ((sa_seq (sa_new 2 en_dnew)
      (sa_seq (sa_for (ei_range1 (ea_b1 rc_len (ea_var 1))) (ga_name (js := [3]) 3) (sa_if (et_test (ea_op r2_eq (ea_call [] (el_cons (ea_var 0) (el_cons ea_cI el_nil))) ea_cI)) (sa_seq (sa_set 4 (ea_call [] (el_cons (ea_var 0) (el_cons (ea_ixT (ea_ixT (ea_var 1) (ea_var 3)) ea_cI) el_nil))))
      (sa_dput 2 (ea_var 3) (ea_ixT (ea_var 4) (ea_op r2_mul ea_cI (ea_call [] (el_cons (ea_var 0) (el_cons ea_cI el_nil))))))) sa_next))
      (sa_cut (sa_if (et_test (ea_op r2_eq (ea_b1 rc_lenD (ea_var 2)) ea_cI)) (sa_dput 2 ea_cI (ea_ixT (ea_call [] (el_cons (ea_var 0) (el_cons (ea_ixT (ea_ixT (ea_var 1) ea_cI) ea_cI) el_nil))) ea_cI)) sa_next)
      (sa_retO 2))))) h fun bs Qa Xa h => ?_
  obtain ⟨hs, rfl, hok, q⟩ := h
  have l1 := hok.l1
  have l2 := hok.l2
  unfold hsD
  have isH : ∀ {i : Nat}, i < hs.length → ∃ h : Hnd, (hs.map hndD)[i]? = some (.tup [.int h.1, .tup (h.2.map stpD)]) ∧ HndOk h := fun {i} hi => by
    refine ⟨hs[i], by rw [List.getElem?_map, List.getElem?_eq_getElem hi]; rfl, hok.ok _ (List.getElem_mem hi)⟩
  array_get_dec
  intro o
  array_get_dec
  refine ⟨⟨by rw [List.length_map]; omega, by rw [List.length_map]; omega⟩, ?_⟩
  refine aLoop_inv (fun i env => ∃ u v pt, env = [some .pool, some (.st (.tup (hs.map hndD))), some (.ow o (ptD pt)), u, v] ∧ (pt.map (·.1)).Nodup ∧ (∀ q ∈ pt, (0 ≤ q.1 ∧ q.1 < hs.length) ∧ (0 ≤ q.2 ∧ q.2 ≤ 96)) ∧ (∀ q ∈ pt, q.1 < i)) ⟨_, _, [], rfl, List.nodup_nil, (fun q h => by simp at h), fun q h => by simp at h⟩ ?_ ?_
  · rintro i x env R hx ⟨u, v, pt, rfl, nd, ok, lt⟩ hR
    obtain ⟨hi, rfl⟩ := rng_at hx
    rw [List.length_map] at hi
    unfold ptD
    array_get_dec
    refine ⟨2, rfl, by decide, by decide, fun d d0 d1 => ?_⟩
    array_get_dec
    refine ifB_dec (fun c => ?_) (fun c => ?_)
    · obtain ⟨h, e1, ho⟩ := isH (i := i) (by omega)
      array_get_dec
      refine ⟨_, at_ofG (j := i) (by omega) e1, ?_⟩
      array_get_dec
      have hl : (h.2.map stpD).length = h.2.length := List.length_map ..
      refine ⟨_, rfl, _, .inr rfl, by rw [hl]; exact ho.fine.l1, by rw [hl]; have := ho.few; omega, fun j d hd => ?_⟩
      obtain ⟨t, ht, rfl⟩ := map_at hd
      have lo := ho.low t (List.mem_of_getElem? ht)
      unfold stpD
      array_get_dec
      refine ⟨2, rfl, by decide, by decide, fun e e0 e1 => ?_⟩
      array_get_dec
      refine ⟨.inl ⟨by omega, by omega⟩, ?_⟩
      obtain ⟨x, hx2, x0, x1⟩ : ∃ x : Int, atI [D.int t.1, .str t.2.1, .int t.2.2] (2 * e) = some (.int x) ∧ 0 ≤ x ∧ x ≤ 96 := by
        obtain rfl | rfl : e = 0 ∨ e = 1 := by omega
        · exact ⟨t.1, rfl, lo.1⟩
        · exact ⟨t.2.2, rfl, lo.2.2⟩
      refine ⟨_, hx2, ?_⟩
      array_get_dec
      have hpl := ptn_len nd ok
      refine ⟨by show (ptL pt).length ≤ 1000; unfold ptL; rw [List.length_map]; omega, ?_⟩
      rw [ptn_put (fun m => by
        obtain ⟨q, hq, e⟩ := List.mem_map.mp m
        have := lt q hq
        omega)]
      refine hR _ ⟨_, _, _, rfl, ?_, fun q hq => ?_, fun q hq => ?_⟩
      · rw [List.map_append, List.nodup_append]
        refine ⟨nd, by simp, fun a ha b hb e => ?_⟩
        obtain ⟨q, hq, rfl⟩ := List.mem_map.mp ha
        rw [List.mem_singleton.mp hb] at e
        have := lt q hq
        have e : q.1 = 0 + (i : Int) := e
        omega
      · rcases List.mem_append.mp hq with hq | hq
        · exact ok q hq
        · rw [List.mem_singleton.mp hq]
          exact ⟨⟨by show (0 : Int) ≤ 0 + i; omega, by show 0 + (i : Int) < hs.length; omega⟩, x0, x1⟩
      · rcases List.mem_append.mp hq with hq | hq
        · have := lt q hq
          omega
        · rw [List.mem_singleton.mp hq]
          show 0 + (i : Int) < ((i + 1 : Nat) : Int)
          omega
    · array_get_dec
      exact hR _ ⟨_, _, pt, rfl, nd, ok, fun q hq => by have := lt q hq; omega⟩
  · rintro env ⟨u, v, pt, rfl, nd, ok, _⟩
    refine ⟨fun env => ∃ pt, env = [some .pool, some (.st (.tup (hs.map hndD))), some (.ow o (ptD pt)), u, v] ∧ PtOk hs.length pt, ?_, ?_⟩
    · unfold ptD
      array_get_dec
      refine ifB_dec (fun c => ?_) (fun c => ?_)
      · have ep : pt = [] := by
          unfold ptL at c
          rw [List.length_map] at c
          exact List.eq_nil_of_length_eq_zero (by omega)
        subst ep
        obtain ⟨h, e1, ho⟩ := isH (i := 0) (by omega)
        array_get_dec
        refine ⟨_, atI_nat (j := 0) e1, ?_⟩
        array_get_dec
        have hl : (h.2.map stpD).length = h.2.length := List.length_map ..
        refine ⟨_, rfl, _, .inr rfl, by rw [hl]; exact ho.fine.l1, by rw [hl]; have := ho.few; omega, fun j d hd => ?_⟩
        obtain ⟨t, ht, rfl⟩ := map_at hd
        have lo := ho.low t (List.mem_of_getElem? ht)
        unfold stpD
        array_get_dec
        refine ⟨_, rfl, ?_⟩
        array_get_dec
        refine ⟨by show (0 : Nat) ≤ 1000; omega, [(0, t.2.2)], rfl, by simp, by simp, fun q hq => ?_⟩
        rw [List.mem_singleton.mp hq]
        exact ⟨⟨by show (0 : Int) ≤ 0; omega, by show (0 : Int) < hs.length; omega⟩, lo.2.2⟩
      · array_get_dec
        refine ⟨pt, rfl, (fun e => c ?_), nd, ok⟩
        rw [e]
        rfl
    · rintro env ⟨pt, rfl, pok⟩
      unfold ptD
      array_get_dec
      exact q pt pok
end
end WW

set_option Elab.async false
set_option linter.all false
set_option maxRecDepth 100000
set_option maxHeartbeats 4000000
namespace WW
open PySem PySem.Spec PyProof.Rows L2
local macro_rules | `(tactic| array_mem_dec) => `(tactic| try dsimp only [slot, aVar, aC, aOp, ifB_t, ifB_f, aTest, aAnd, aOr, aNot, aAndV, aOrT, aOrV, aNotV, aIfE, aChain, aNil, aCons, aName, aGNil, aGCons, aGTup, aNext, aIf, aRet, aRetO, aRetN, aDrop, aAsg, aNew, aPar, aParN, aPar3, frz, aFz, aNever, aLoop, aFor, aCol, aLc, aYes, fAdd, fSub, fMul, fMod, fDiv, fPow, fLt, fLe, fGt, fGe, fI, fIc, fCatS, fLtS, eqD, fEq, fNe, fIsN, fNotN, aFn1, fNeg, fLen, fInt, fAbs, fAll, fAny, aFn2, fMax, truD, aTru, aIxL, aIxT, aIxQ, fIxS, stabs, aTup, aLst, aFix, B.solid, B.get, B.sub, aCat, aListOf, aTupOf, aONone, aOSome, aSlL, aRevL, aSortSet, aListAny, aListDK, aCopyD, aLenSet, aSortDK, aSortS, aRetNw, aMethN, aEi, aIQ, aDgN, aDget, aDgetN, fDin, fDnin, aDnew, aDput, fLenD, D.key, aFld, aProp, aMeth, aMeth0, putFD, aSetF, aMake, aMake0, aRaise, isIn, isBo, isS, isL, isT, isDi, isRow, isNo, knD, aIs, aIsRow, D.fl, fInF, fNinF, fInS, fEqY, fNeY, fEqP, fNeP, fInP, fNinP, aLcK, aDc, aIE, aIS, aTry, aHand, aXf, aXis, aIL, aICL, aIT, aIR1, aIR2, coe1, coes, aCall, aCall0, aApp, awipe, List.set, List.map, List.cons_append, List.nil_append, List.replicate, List.length, Nat.reduceSub, Nat.reduceAdd])
local macro_rules | `(tactic| array_get_dec) => `(tactic| (array_mem_dec; repeat (with_reducible refine go_seq ?_; array_mem_dec)))
def wordsOf (hs : List Hnd) : List Str := hs.flatMap fun h => h.2.map (·.2.1)
theorem words_len {hs : List Hnd} (h : HsOk hs) : (wordsOf hs).length ≤ 30 := by
  have key : ∀ l : List Hnd, (∀ h ∈ l, HndOk h) → (wordsOf l).length ≤ 10 * l.length := by
    intro l
    induction l with
    | nil => intro _; simp [wordsOf]
    | cons x r ih =>
      intro hk
      have h1 := ih fun y hy => hk y (by simp [hy])
      have h2 := (hk x (by simp)).few
      unfold wordsOf at h1 ⊢
      rw [List.flatMap_cons, List.length_append, List.length_map, List.length_cons]
      omega
  have := key hs h.ok
  have := h.l2
  omega
theorem words_ok {hs : List Hnd} (h : HsOk hs) : ∀ z ∈ wordsOf hs, NameOk z := fun z hz => by
  obtain ⟨x, hx, hz⟩ := List.mem_flatMap.mp hz
  obtain ⟨t, ht, rfl⟩ := List.mem_map.mp hz
  exact ((h.ok x hx).low t ht).2.1
theorem sortS_mem {zs : List Str} {z : Str} : z ∈ sortS zs ↔ z ∈ zs := by
  unfold sortS
  rw [(List.mergeSort_perm _ _).mem_iff, insAll_mem]
theorem sortS_nodup (zs : List Str) : (sortS zs).Nodup := (List.mergeSort_perm _ _).nodup_iff.mpr (insAll_nodup zs)
theorem sortS_len (zs : List Str) : (sortS zs).length ≤ zs.length := by
  unfold sortS
  rw [List.length_mergeSort]
  exact insAll_len zs
/-- blames: none, or words with their names -/
abbrev Bla := Option (List (Str × Str))
def blD : Bla → D
  | none => .non
  | some l => .dK (l.map fun p => (Sum.inr p.1, D.str p.2))
structure BlaOk (ws : List Str) (l : List (Str × Str)) : Prop where
  nd : (l.map (·.1)).Nodup
  ok : ∀ p ∈ l, p.1 ∈ ws ∧ NameOk p.2
  two : ∃ a b, ∀ p ∈ l, p.2 = a ∨ p.2 = b
/-- hides: none, or names with their patterns -/
abbrev Hid := Option (List (Str × List Ptn))
def hiD : Hid → D
  | none => .non
  | some l => .dK (l.map fun p => (Sum.inr p.1, D.lst (p.2.map ptD)))
structure HidOk (n : Nat) (l : List (Str × List Ptn)) : Prop where
  nd : (l.map (·.1)).Nodup
  len : l.length ≤ 2
  ok : ∀ p ∈ l, NameOk p.1 ∧ 1 ≤ p.2.length ∧ p.2.length ≤ 2 ∧ ∀ pt ∈ p.2, PtOk n pt
section
variable {P : Program} {w : World} {K : PySem.W.Frag} {mg : Str → Option Value} {base : Heap}
abbrev sLagrees : Stmt := topS 42
abbrev nLagrees : List Str := ["_law_pattern_here", "_law_standing", "_law_k"]
theorem scLagrees : FnScope nLagrees ["_law_pattern_here", "_law_standing"] (defScope sLagrees) := ⟨rfl, rfl, rfl, by decide +kernel, rfl, by decide +kernel, by decide +kernel⟩
def spAgreesA : ASp := fun bs Q _ => ∃ (pt : Ptn) (st : List Int), bs = [.st (ptD pt), .st (.tup (st.map D.int))] ∧ PtOk st.length pt ∧ st.length ≤ 100 ∧ Q (.bl (agB pt st))
theorem ok_agreesA (DLagrees : Df K mg "_law_agrees" sLagrees ["_law_pattern_here", "_law_standing"] fLagrees fdLagrees) (T : Bl mg) : FnOk P w K mg base CX0 1 fLagrees fdLagrees ["_law_pattern_here", "_law_standing"] (cSp K spAgreesA) := by
  refine DLagrees.fn.ok scLagrees (fun vs H Q E h => cSp_len (fun bs Q X h => by obtain ⟨hs, st, rfl, _⟩ := h; rfl) h) (fun cdv A outer s H vs Q E hr h => ?_)
  refine ⟨_, (pss_one (ps_ret (pe_cmpR op_eq (pe_callB call_len (by rfl) T.len (by decide +kernel) (pa_cons (pe_lockR (pe_lc (own := [("_law_k", 2)]) rfl scLagrees.nd (pi_keysR (pv 0)) (blkOk_by (own := [("_law_k", 2)]) (N := nLagrees) (sc := defScope sLagrees) (by decide +kernel)) (fun _ _ _ _ _ => (pg_name (i := 2) scLagrees.nd rfl (Or.inl rfl))) (fun _ _ _ _ _ => (pts_one (pt_cmpR op_ne (pe_ix (r := rIxT K) ix_tup (pv 1) (pv 2) (fun _ _ => rfl)) (pe_dget (hu1 hr) (pv 0) (pv 2) (fun _ _ => rfl)) (nomark _)))) (fun _ _ _ _ _ => (pv 2)))) pa_nil)) pe_int (nomark _)))), ?_⟩
  refine fn_A ((sa_ret (ea_op r2_eq (ea_b1 rc_len (ea_fix (en_lcK (ep_var 0) (ga_name (js := [2]) 2) (et_test (ea_op r2_ne (ea_ixT (ea_var 1) (ea_var 2)) (ea_dget (ea_var 0) (ea_var 2)))) (ea_var 2)))) ea_cI))) h fun bs Qa Xa h => ?_
  obtain ⟨pt, st, rfl, pok, sl, q⟩ := h
  unfold ptD
  have hpl := ptn_len pok.nd pok.ok
  array_get_dec
  refine ⟨by unfold ptL; rw [List.length_map]; omega, ?_⟩
  have e0 : ((ptL pt).map fun kv => B.st (kD kv.1)) = pt.map fun q => B.st (.int q.1) := by
    unfold ptL
    rw [List.map_map]
    rfl
  rw [e0]
  refine aCol_fm (fun q : Int × Int => if st[q.1.toNat]? = some q.2 then none else some (D.int q.1)) (fun q hq R hR => ?_) ?_
  · have ok := (pok.ok q hq).1
    have hlt : q.1.toNat < st.length := by omega
    array_get_dec
    refine ⟨_, at_ofG (j := q.1.toNat) (by omega) (by rw [List.getElem?_map, List.getElem?_eq_getElem hlt]; rfl), .int q.2, ptn_val pok.nd hq, ?_⟩
    array_get_dec
    rw [List.getElem?_eq_getElem hlt] at hR
    by_cases e : st[q.1.toNat] = q.2
    · rw [if_pos (by rw [e])] at hR
      rw [decide_eq_true e]
      exact hR
    · rw [if_neg (fun z => e (Option.some.inj z))] at hR
      rw [decide_eq_false e]
      exact hR
  array_get_dec
  have e1 : decide (((([] : List D) ++ pt.filterMap fun q : Int × Int => if st[q.1.toNat]? = some q.2 then none else some (D.int q.1)).length : Int) = 0) = agB pt st := by
    rw [List.nil_append]
    unfold agB
    clear q hpl pok e0
    induction pt with
    | nil => rfl
    | cons x r ih =>
      rw [List.filterMap_cons, List.all_cons, ← ih]
      by_cases e : st[x.1.toNat]? = some x.2
      · simp [e]
      · simp [e]
        omega
  first
    | (rw [e1]; exact q)
    | (rw [List.nil_append] at e1; rw [e1]; exact q)
abbrev sLstart : Stmt := topS 44
abbrev nLstart : List Str := ["_law_hands", "_law_hand_here"]
theorem scLstart : FnScope nLstart ["_law_hands"] (defScope sLstart) := ⟨rfl, rfl, rfl, by decide +kernel, rfl, by decide +kernel, by decide +kernel⟩
def spStartA : ASp := fun bs Q _ => ∃ hs : List Hnd, bs = [.st (hsD hs)] ∧ hs.length ≤ 1000 ∧ Q (.tup ((hs.map (·.1)).map D.int))
theorem ok_startA (DLstart : Df K mg "_law_start" sLstart ["_law_hands"] fLstart fdLstart) (T : Bl mg) : FnOk P w K mg base CX0 1 fLstart fdLstart ["_law_hands"] (cSp K spStartA) := by
  refine DLstart.fn.ok scLstart (fun vs H Q E h => cSp_len (fun bs Q X h => by obtain ⟨ds, rfl, _⟩ := h; rfl) h) (fun cdv A outer s H vs Q E hr h => ?_)
  refine ⟨_, (pss_one (ps_ret (pe_callTy call_tuple_of (by rfl) T.tuple (by decide +kernel) (pa_cons (pe_lc (own := [("_law_hand_here", 1)]) rfl scLstart.nd (pi_tup (pv 0)) (blkOk_by (own := [("_law_hand_here", 1)]) (N := nLstart) (sc := defScope sLstart) (by decide +kernel)) (fun _ _ _ _ _ => (pg_name (i := 1) scLstart.nd rfl (Or.inl rfl))) (fun _ _ _ _ _ => pts_nil) (fun _ _ _ _ _ => (pe_ix (r := rIxT K) ix_tup (pv 1) pe_int (fun _ _ => rfl)))) pa_nil)))), ?_⟩
  refine fn_A ((sa_ret (ea_tupOf (ea_fix (en_lc (EI.ec (ei_tup (ea_var 0))) (ga_name (js := [1]) 1) et_yes (ea_ixT (ea_var 1) ea_cI)))))) h fun bs Qa Xa h => ?_
  obtain ⟨hs, rfl, hl, q⟩ := h
  unfold hsD
  array_get_dec
  refine ⟨by rw [List.length_map, List.length_map]; exact hl, ?_⟩
  rw [List.map_map]
  refine aCol_map (fun h : Hnd => D.int h.1) (fun h hh R hR => ?_) ?_
  · unfold Function.comp hndD
    array_get_dec
    exact ⟨_, rfl, hR⟩
  · rw [List.map_map] at q
    exact q
abbrev sLwords : Stmt := topS 43
abbrev nLwords : List Str := ["_law_hands", "_law_words_here", "_law_hand_here", "_law_step"]
theorem scLwords : FnScope nLwords ["_law_hands"] (defScope sLwords) := ⟨rfl, rfl, rfl, by decide +kernel, rfl, by decide +kernel, by decide +kernel⟩
def spWordsA : ASp := fun bs Q _ => ∃ hs : List Hnd, bs = [.st (hsD hs)] ∧ HsOk hs ∧ Q (.lst ((sortS (wordsOf hs)).map D.str))
theorem ok_wordsA (DLwords : Df K mg "_law_words" sLwords ["_law_hands"] fLwords fdLwords) (T : Bl mg) (Tset : mg "set" = none) : FnOk P w K mg base CX0 1 fLwords fdLwords ["_law_hands"] (cSp K spWordsA) := by
  refine DLwords.fn.ok scLwords (fun vs H Q E h => cSp_len (fun bs Q X h => by obtain ⟨ds, rfl, _⟩ := h; rfl) h) (fun cdv A outer s H vs Q E hr h => ?_)
  refine ⟨_, (pss_cons (ps_set (i := 1) scLwords.nd rfl (Or.inl rfl) (pe_lst pa_nil))
      (pss_cons (ps_for PassesOwn.never rfl (pi_tup (pv 0)) (pg_name (i := 2) scLwords.nd rfl (Or.inl rfl)) (pss_one (ps_set (i := 1) scLwords.nd rfl (Or.inl rfl) (pe_op op_cat (pv 1) (pe_lc (own := [("_law_step", 3)]) rfl scLwords.nd (pi_tup (pe_ix ix_tup (pv 2) pe_int (fun _ _ => rfl))) (blkOk_by (own := [("_law_step", 3)]) (N := nLwords) (sc := defScope sLwords) (by decide +kernel)) (fun _ _ _ _ _ => (pg_name (i := 3) scLwords.nd rfl (Or.inl rfl))) (fun _ _ _ _ _ => pts_nil) (fun _ _ _ _ _ => (pe_ix (r := rIxT K) ix_tup (pv 3) pe_int (fun _ _ => rfl))))))))
      (pss_one (ps_ret (pe_callB (cr_sortedSt rfl (hu70 hr)) (by rfl) T.sorted (by decide +kernel) (pa_cons (pe_callTy (cr_setOfS rfl) (by rfl) Tset (by decide +kernel) (pa_cons (pv 1) pa_nil)) pa_nil)))))), ?_⟩
  refine fn_A ((sa_seq (sa_set 1 (ea_fix (en_lst el_nil)))
      (sa_seq (sa_for (ei_tup (ea_var 0)) (ga_name (js := [2]) 2) (sa_set 1 (ea_fix (en_cat (ea_var 1) (ea_fix (en_lc (EI.ec (ei_tup (ea_ixT (ea_var 2) ea_cI))) (ga_name (js := [3]) 3) et_yes (ea_ixT (ea_var 3) ea_cI)))))))
      (sa_ret (ea_fix (en_sortSet (ea_var 1))))))) h fun bs Qa Xa h => ?_
  obtain ⟨hs, rfl, hok, q⟩ := h
  unfold hsD
  array_get_dec
  refine aLoop_inv (fun i env => ∃ u, env = [some (.st (.tup (hs.map hndD))), some (.st (.lst ((wordsOf (hs.take i)).map D.str))), u, none]) ⟨_, rfl⟩ ?_ ?_
  · rintro i x env R hx ⟨u, rfl⟩ hR
    rw [List.map_map] at hx
    obtain ⟨h, hh, rfl⟩ : ∃ h : Hnd, hs[i]? = some h ∧ x = .st (hndD h) := by
      rw [List.getElem?_map] at hx
      obtain ⟨y, h1, e⟩ := Option.map_eq_some_iff.mp hx
      exact ⟨y, h1, e.symm⟩
    have hm := hok.ok h (List.mem_of_getElem? hh)
    have hlen := words_len hok
    unfold hndD
    array_get_dec
    refine ⟨_, rfl, ?_⟩
    array_get_dec
    refine ⟨by rw [List.length_map, List.length_map]; have := hm.few; omega, ?_⟩
    rw [List.map_map]
    refine aCol_map (fun t : Stp => D.str t.2.1) (fun t ht R hR => ?_) ?_
    · unfold Function.comp stpD
      array_get_dec
      exact ⟨_, rfl, hR⟩
    array_get_dec
    have e1 : wordsOf (hs.take (i + 1)) = wordsOf (hs.take i) ++ h.2.map (·.2.1) := by
      unfold wordsOf
      rw [take_next hh, List.flatMap_append]
      simp
    have l1 : (wordsOf (hs.take i)).length ≤ 30 := by
      have h2 : HsOk hs := hok
      have : (wordsOf (hs.take i)).length ≤ (wordsOf hs).length := by
        have e : wordsOf hs = wordsOf (hs.take i) ++ wordsOf (hs.drop i) := by
          unfold wordsOf
          rw [← List.flatMap_append, List.take_append_drop]
        rw [e, List.length_append]
        omega
      omega
    refine ⟨?_, hR _ ⟨some (.st (hndD h)), ?_⟩⟩
    · simp only [List.length_map, List.nil_append]
      have := hm.few
      omega
    · rw [e1, List.map_append, List.map_map]
      rfl
  · rintro env ⟨u, rfl⟩
    rw [List.length_map, List.length_map, List.take_length]
    array_get_dec
    exact ⟨wordsOf hs, rfl, by have := words_len hok; omega, words_ok hok, q⟩
end
end WW

set_option Elab.async false
set_option linter.all false
set_option maxRecDepth 100000
set_option maxHeartbeats 4000000
namespace WW
open PySem PySem.Spec PyProof.Rows L2
local macro_rules | `(tactic| array_mem_dec) => `(tactic| try dsimp only [slot, aVar, aC, aOp, ifB_t, ifB_f, aTest, aAnd, aOr, aNot, aAndV, aOrT, aOrV, aNotV, aIfE, aChain, aNil, aCons, aName, aGNil, aGCons, aGTup, aNext, aIf, aRet, aRetO, aRetN, aDrop, aAsg, aNew, aPar, aParN, aPar3, frz, aFz, aNever, aLoop, aFor, aCol, aLc, aYes, fAdd, fSub, fMul, fMod, fDiv, fPow, fLt, fLe, fGt, fGe, fI, fIc, fCatS, fLtS, eqD, fEq, fNe, fIsN, fNotN, aFn1, fNeg, fLen, fInt, fAbs, fAll, fAny, aFn2, fMax, truD, aTru, aIxL, aIxT, aIxQ, fIxS, stabs, aTup, aLst, aFix, B.solid, B.get, B.sub, aCat, aListOf, aTupOf, aONone, aOSome, aSlL, aRevL, aSortSet, aListAny, aListDK, aCopyD, aLenSet, aSortDK, aSortS, aRetNw, aMethN, aEi, aIQ, aDgN, aDget, aDgetN, fDin, fDnin, aDnew, aDput, fLenD, D.key, aFld, aProp, aMeth, aMeth0, putFD, aSetF, aMake, aMake0, aRaise, isIn, isBo, isS, isL, isT, isDi, isRow, isNo, knD, aIs, aIsRow, D.fl, fInF, fNinF, fInS, fEqY, fNeY, fEqP, fNeP, fInP, fNinP, aLcK, aDc, aIE, aIS, aTry, aHand, aXf, aXis, aIL, aICL, aIT, aIR1, aIR2, coe1, coes, aCall, aCall0, aApp, awipe, List.set, List.map, List.cons_append, List.nil_append, List.replicate, List.length, Nat.reduceSub, Nat.reduceAdd])
local macro_rules | `(tactic| array_get_dec) => `(tactic| (array_mem_dec; repeat (with_reducible refine go_seq ?_; array_mem_dec)))
theorem bl_put {l : List (Str × Str)} {y z : Str} (h : y ∉ l.map (·.1)) : putD (l.map fun p => ((Sum.inr p.1 : Key), D.str p.2)) (Sum.inr y) (.str z) = (l ++ [(y, z)]).map fun p => ((Sum.inr p.1 : Key), D.str p.2) := by
  rw [putD_new]
  · rw [List.map_append]
    rfl
  · rw [List.map_map]
    intro c
    obtain ⟨q, hq, e⟩ := List.mem_map.mp c
    exact h (List.mem_map.mpr ⟨q, hq, Sum.inr.inj e⟩)
theorem hi_put {l : List (Str × List Ptn)} {y : Str} {z : List Ptn} (h : y ∉ l.map (·.1)) : putD (l.map fun p => ((Sum.inr p.1 : Key), D.lst (p.2.map ptD))) (Sum.inr y) (.lst (z.map ptD)) = (l ++ [(y, z)]).map fun p => ((Sum.inr p.1 : Key), D.lst (p.2.map ptD)) := by
  rw [putD_new]
  · rw [List.map_append]
    rfl
  · rw [List.map_map]
    intro c
    obtain ⟨q, hq, e⟩ := List.mem_map.mp c
    exact h (List.mem_map.mpr ⟨q, hq, Sum.inr.inj e⟩)
theorem nodup_snoc {α β : Type} {f : α → β} {l : List α} {x : α} (nd : (l.map f).Nodup) (h : f x ∉ l.map f) : ((l ++ [x]).map f).Nodup := by
  rw [List.map_append, List.nodup_append]
  refine ⟨nd, by simp, fun a ha b hb e => h ?_⟩
  have hb : b = f x := by simpa using hb
  rw [← hb, ← e]
  exact ha
theorem strB_at {zs : List Str} {i : Nat} {x : B} (h : ((zs.map D.str).map B.st)[i]? = some x) : ∃ z, zs[i]? = some z ∧ x = .st (.str z) := by
  rw [List.map_map, List.getElem?_map] at h
  obtain ⟨y, h1, e⟩ := Option.map_eq_some_iff.mp h
  exact ⟨y, h1, e.symm⟩
theorem two_of {zs : List Str} (h : zs.length = 2) : ∃ a b, zs = [a, b] := by
  match zs, h with
  | [a, b], _ => exact ⟨a, b, rfl⟩
section
variable {P : Program} {w : World} {K : PySem.W.Frag} {mg : Str → Option Value} {base : Heap}
abbrev sLblames : Stmt := topS 45
abbrev nLblames : List Str := ["_law_pool_here", "_law_words_here", "_law_names_here", "_law_blames_here", "_law_word", "_law_part"]
theorem scLblames : FnScope nLblames ["_law_pool_here", "_law_words_here"] (defScope sLblames) := ⟨rfl, rfl, rfl, by decide +kernel, rfl, by decide +kernel, by decide +kernel⟩
def spBlamesA : ASp := fun bs Q _ => ∃ ws : List Str, bs = [.pool, .st (.lst (ws.map D.str))] ∧ ws.length ≤ 100 ∧ ws.Nodup ∧ (∀ l, BlaOk ws l → Q (blD (some l))) ∧ Q .non
theorem ok_blamesA (DLblames : Df K mg "_law_blames" sLblames ["_law_pool_here", "_law_words_here"] fLblames fdLblames) (DLdraw : Df K mg "_law_draw" sLdraw ["_law_pool_here", "_law_many"] fLdraw fdLdraw) (GLdraw : FnOk P w K mg base CX0 1 fLdraw fdLdraw ["_law_pool_here", "_law_many"] (cSp K spDrawA)) (DLnames : Df K mg "_law_names" sLnames ["_law_pool_here", "_law_many"] fLnames fdLnames) (GLnames : FnOk P w K mg base CX0 3 fLnames fdLnames ["_law_pool_here", "_law_many"] (cSp K spNamesA)) (T : Bl mg) : FnOk P w K mg base CX0 4 fLblames fdLblames ["_law_pool_here", "_law_words_here"] (cSp K spBlamesA) := by
  refine DLblames.fn.ok scLblames (fun vs H Q E h => cSp_len (fun bs Q X h => by obtain ⟨ds, rfl, _⟩ := h; rfl) h) (fun cdv A outer s H vs Q E hr h => ?_)
  refine ⟨_, (pss_cons (ps_par (i := 2) (j := 3) (by rfl) scLblames.nd rfl rfl (by decide) rfl rfl (pa_cons (pe_df DLnames GLnames (hr.mono (by decide)) (pa_cons (pv 0) (pa_cons pe_int pa_nil))) (pa_cons pe_dnewK pa_nil)) (by rfl))
      (pss_cons (ps_for PassesOwn.never rfl (pi_list (pv 1)) (pg_name (i := 4) scLblames.nd rfl (Or.inl rfl)) (pss_cons (ps_set (i := 5) scLblames.nd rfl (Or.inl rfl) (pe_df DLdraw GLdraw (hr.mono (by decide)) (pa_cons (pv 0) (pa_cons pe_int pa_nil))))
      (pss_one (ps_if (pt_cmpR op_lt (pv 5) pe_int (nomark _)) (pss_one (ps_dput (hu1 hr) (pv 3) (pv 4) (pe_ix ix_list (pv 2) (pe_callTy call_int1 (by rfl) T.int (by decide +kernel) (pa_cons (pe_and (pe_cmpR op_eq (pv 5) pe_int (nomark _)) (pe_one (pe_cmpR op_eq (pe_df DLdraw GLdraw (hr.mono (by decide)) (pa_cons (pv 0) (pa_cons pe_int pa_nil))) pe_int (nomark _)))) pa_nil)) (fun _ _ => rfl)) (by rfl))) pss_nil))))
      (C8.pss_cut (ps_if (PW.pt (pw_and (pt_cmpR op_eq (pe_callB cr_lenRd (by rfl) T.len (by decide +kernel) (pa_cons (pv 3) pa_nil)) pe_int (nomark _)) (pw_and1 (pt_cmpR op_eq (pe_df DLdraw GLdraw (hr.mono (by decide)) (pa_cons (pv 0) (pa_cons pe_int pa_nil))) pe_int (nomark _))))) (pss_one (ps_ret pe_non)) pss_nil)
      (pss_one (ps_ret (pv 3)))))), ?_⟩
  refine fn_A ((sa_seq (sa_parN (ea_call [] (el_cons (ea_var 0) (el_cons ea_cI el_nil))) en_dnew)
      (sa_seq (sa_for (ei_list (ea_var 1)) (ga_name (js := [4]) 4) (sa_seq (sa_set 5 (ea_call [] (el_cons (ea_var 0) (el_cons ea_cI el_nil))))
      (sa_if (et_test (ea_op r2_lt (ea_var 5) ea_cI)) (sa_dput 3 (ea_var 4) (ea_ixL (ea_var 2) (ea_b1 rc_int (ea_and (ea_op r2_eq (ea_var 5) ea_cI) (ea_op r2_eq (ea_call [] (el_cons (ea_var 0) (el_cons ea_cI el_nil))) ea_cI))))) sa_next)))
      (sa_cut (sa_if (et_and (et_test (ea_op r2_eq (ea_b1 rc_lenD (ea_var 3)) ea_cI)) (et_test (ea_op r2_eq (ea_call [] (el_cons (ea_var 0) (el_cons ea_cI el_nil))) ea_cI))) (sa_ret ea_cN) sa_next)
      (sa_retO 3))))) h fun bs Qa Xa h => ?_
  obtain ⟨ws, rfl, wl, wnd, q, qn⟩ := h
  array_get_dec
  refine ⟨2, rfl, by decide, by decide, fun zs zl _ zok => ?_⟩
  obtain ⟨na, nb, rfl⟩ := two_of (by rw [zl]; rfl)
  array_get_dec
  intro o
  array_get_dec
  refine aLoop_inv (fun i env => ∃ u v l, env = [some .pool, some (.st (.lst (ws.map D.str))), some (.st (.lst [.str na, .str nb])), some (.ow o (blD (some l))), u, v] ∧ (l.map (·.1)).Nodup ∧ (∀ p ∈ l, p.1 ∈ ws.take i ∧ NameOk p.2 ∧ (p.2 = na ∨ p.2 = nb))) ⟨_, _, [], rfl, List.nodup_nil, fun p h => (by cases h)⟩ ?_ ?_
  · rintro i x env R hx ⟨u, v, l, rfl, nd, ok⟩ hR
    obtain ⟨y, hy, rfl⟩ := strB_at hx
    have up : ∀ {z : Str}, z ∈ ws.take i → z ∈ ws.take (i + 1) := fun {z} h => by
      rw [take_next hy]
      exact List.mem_append_left _ h
    have ll : l.length ≤ 100 := by
      have := pigeon (l.map (·.1)) ws nd (fun c hc => by
        obtain ⟨p, hp, rfl⟩ := List.mem_map.mp hc
        exact List.mem_of_mem_take (ok p hp).1)
      rw [List.length_map] at this
      omega
    unfold blD
    array_get_dec
    refine ⟨5, rfl, by decide, by decide, fun d d0 d1 => ?_⟩
    array_get_dec
    have skip : R [some .pool, some (.st (.lst (ws.map D.str))), some (.st (.lst [.str na, .str nb])), some (.ow o (blD (some l))), some (.st (.str y)), some (.st (.int d))] := hR _ ⟨_, _, l, rfl, nd, fun p hp => ⟨up (ok p hp).1, (ok p hp).2⟩⟩
    have put : ∀ z, z = na ∨ z = nb → (List.map (fun p : Str × Str => ((Sum.inr p.1 : Key), D.str p.2)) l).length ≤ 1000 ∧ R [some .pool, some (.st (.lst (ws.map D.str))), some (.st (.lst [.str na, .str nb])), some (.ow o (.dK (putD (l.map fun p => ((Sum.inr p.1 : Key), D.str p.2)) (Sum.inr y) (.str z)))), some (.st (.str y)), some (.st (.int d))] := fun z hz => by
      have hny : y ∉ l.map (·.1) := fun m => by
        obtain ⟨p, hp, e⟩ := List.mem_map.mp m
        exact not_before wnd hy (by rw [← e]; exact (ok p hp).1)
      refine ⟨by rw [List.length_map]; omega, ?_⟩
      rw [bl_put hny]
      refine hR _ ⟨_, _, l ++ [(y, z)], rfl, ?_, fun p hp => ?_⟩
      · exact nodup_snoc nd hny
      · rcases List.mem_append.mp hp with hp | hp
        · exact ⟨up (ok p hp).1, (ok p hp).2⟩
        · rw [List.mem_singleton.mp hp]
          refine ⟨by rw [take_next hy]; simp, ?_, hz⟩
          rcases hz with rfl | rfl
          · exact zok _ (by simp)
          · exact zok _ (by simp)
    refine ifB_dec (fun c => ?_) (fun c => ?_)
    · array_get_dec
      refine ifB_dec (fun c => ?_) (fun c => ?_)
      · array_get_dec
        refine ⟨2, rfl, by decide, by decide, fun e e0 e1 => ?_⟩
        array_get_dec
        by_cases z : e = 0
        · rw [decide_eq_true z]
          exact ⟨_, rfl, put nb (.inr rfl)⟩
        · rw [decide_eq_false z]
          exact ⟨_, rfl, put na (.inl rfl)⟩
      · array_get_dec
        exact ⟨_, rfl, put na (.inl rfl)⟩
    · array_get_dec
      exact skip
  · rintro env ⟨u, v, l, rfl, nd, ok⟩
    rw [List.length_map, List.length_map, List.take_length] at ok
    have bok : BlaOk ws l := ⟨nd, fun p hp => ⟨(ok p hp).1, (ok p hp).2.1⟩, na, nb, fun p hp => (ok p hp).2.2⟩
    refine ⟨fun env => env = [some .pool, some (.st (.lst (ws.map D.str))), some (.st (.lst [.str na, .str nb])), some (.ow o (blD (some l))), u, v], ?_, ?_⟩
    · unfold blD
      array_get_dec
      refine ifB_dec (fun c => ?_) (fun c => ?_)
      · array_get_dec
        refine ⟨2, rfl, by decide, by decide, fun e e0 e1 => ?_⟩
        array_get_dec
        refine ifB_dec (fun c => ?_) (fun c => ?_)
        · exact qn
        · rfl
      · rfl
    · rintro env rfl
      unfold blD
      array_get_dec
      exact q l bok
abbrev sLhides : Stmt := topS 46
abbrev nLhides : List Str := ["_law_pool_here", "_law_hands", "_law_hides_here", "_law_name_here", "_law_k"]
theorem scLhides : FnScope nLhides ["_law_pool_here", "_law_hands"] (defScope sLhides) := ⟨rfl, rfl, rfl, by decide +kernel, rfl, by decide +kernel, by decide +kernel⟩
def spHidesA : ASp := fun bs Q _ => ∃ hs : List Hnd, bs = [.pool, .st (hsD hs)] ∧ HsOk hs ∧ (∀ l, HidOk hs.length l → Q (hiD (some l))) ∧ Q .non
theorem ok_hidesA (DLhides : Df K mg "_law_hides" sLhides ["_law_pool_here", "_law_hands"] fLhides fdLhides) (DLdraw : Df K mg "_law_draw" sLdraw ["_law_pool_here", "_law_many"] fLdraw fdLdraw) (GLdraw : FnOk P w K mg base CX0 1 fLdraw fdLdraw ["_law_pool_here", "_law_many"] (cSp K spDrawA)) (DLnames : Df K mg "_law_names" sLnames ["_law_pool_here", "_law_many"] fLnames fdLnames) (GLnames : FnOk P w K mg base CX0 3 fLnames fdLnames ["_law_pool_here", "_law_many"] (cSp K spNamesA)) (DLpattern : Df K mg "_law_pattern" sLpattern ["_law_pool_here", "_law_hands"] fLpattern fdLpattern) (GLpattern : FnOk P w K mg base CX0 3 fLpattern fdLpattern ["_law_pool_here", "_law_hands"] (cSp K spPatternA)) (T : Bl mg) : FnOk P w K mg base CX0 4 fLhides fdLhides ["_law_pool_here", "_law_hands"] (cSp K spHidesA) := by
  refine DLhides.fn.ok scLhides (fun vs H Q E h => cSp_len (fun bs Q X h => by obtain ⟨ds, rfl, _⟩ := h; rfl) h) (fun cdv A outer s H vs Q E hr h => ?_)
  refine ⟨_, (pss_cons (ps_set (i := 2) scLhides.nd rfl (Or.inl rfl) pe_dnewK)
      (pss_cons (ps_for PassesOwn.never rfl (pi_list (pe_df DLnames GLnames (hr.mono (by decide)) (pa_cons (pv 0) (pa_cons (pe_df DLdraw GLdraw (hr.mono (by decide)) (pa_cons (pv 0) (pa_cons pe_int pa_nil))) pa_nil)))) (pg_name (i := 3) scLhides.nd rfl (Or.inl rfl)) (pss_one (ps_dput (hu1 hr) (pv 2) (pv 3) (pe_lc (own := [("_law_k", 4)]) rfl scLhides.nd (pi_range1 (by rfl) T.range (pa_cons (pe_op op_add pe_int (pe_df DLdraw GLdraw (hr.mono (by decide)) (pa_cons (pv 0) (pa_cons pe_int pa_nil)))) pa_nil)) (blkOk_by (own := [("_law_k", 4)]) (N := nLhides) (sc := defScope sLhides) (by decide +kernel)) (fun _ _ _ _ _ => (pg_name (i := 4) scLhides.nd rfl (Or.inl rfl))) (fun _ _ _ _ _ => pts_nil) (fun _ _ _ _ _ => (pe_df DLpattern GLpattern (hr.mono (by decide)) (pa_cons (pv 0) (pa_cons (pv 1) pa_nil))))) (by rfl))))
      (C8.pss_cut (ps_if (PW.pt (pw_and (pt_cmpR op_eq (pe_callB cr_lenRd (by rfl) T.len (by decide +kernel) (pa_cons (pv 2) pa_nil)) pe_int (nomark _)) (pw_and1 (pt_cmpR op_eq (pe_df DLdraw GLdraw (hr.mono (by decide)) (pa_cons (pv 0) (pa_cons pe_int pa_nil))) pe_int (nomark _))))) (pss_one (ps_ret pe_non)) pss_nil)
      (pss_one (ps_ret (pv 2)))))), ?_⟩
  refine fn_A ((sa_seq (sa_new 2 en_dnew)
      (sa_seq (sa_for (ei_list (ea_call [] (el_cons (ea_var 0) (el_cons (ea_call [] (el_cons (ea_var 0) (el_cons ea_cI el_nil))) el_nil)))) (ga_name (js := [3]) 3) (sa_dput 2 (ea_var 3) (ea_fix (en_lc (EI.ec (ei_range1 (ea_op r2_add ea_cI (ea_call [] (el_cons (ea_var 0) (el_cons ea_cI el_nil)))))) (ga_name (js := [4]) 4) et_yes (ea_call [] (el_cons (ea_var 0) (el_cons (ea_var 1) el_nil)))))))
      (sa_cut (sa_if (et_and (et_test (ea_op r2_eq (ea_b1 rc_lenD (ea_var 2)) ea_cI)) (et_test (ea_op r2_eq (ea_call [] (el_cons (ea_var 0) (el_cons ea_cI el_nil))) ea_cI))) (sa_ret ea_cN) sa_next)
      (sa_retO 2))))) h fun bs Qa Xa h => ?_
  obtain ⟨hs, rfl, hok, q, qn⟩ := h
  array_get_dec
  intro o
  array_get_dec
  refine ⟨3, rfl, by decide, by decide, fun d d0 d1 => ⟨d, rfl, d0, by omega, fun zs zl znd zok => ?_⟩⟩
  array_get_dec
  refine aLoop_inv (fun i env => ∃ u l, env = [some .pool, some (.st (hsD hs)), some (.ow o (hiD (some l))), u, none] ∧ (l.map (·.1)).Nodup ∧ l.length ≤ i ∧ (∀ p ∈ l, p.1 ∈ zs.take i ∧ 1 ≤ p.2.length ∧ p.2.length ≤ 2 ∧ ∀ pt ∈ p.2, PtOk hs.length pt)) ⟨_, [], rfl, List.nodup_nil, Nat.le_refl _, fun p h => (by cases h)⟩ ?_ ?_
  · rintro i x env R hx ⟨u, l, rfl, nd, ll, ok⟩ hR
    obtain ⟨y, hy, rfl⟩ := strB_at hx
    have hi : i < zs.length := (List.getElem?_eq_some_iff.mp hy).1
    have up : ∀ {z : Str}, z ∈ zs.take i → z ∈ zs.take (i + 1) := fun {z} h => by
      rw [take_next hy]
      exact List.mem_append_left _ h
    unfold hiD
    array_get_dec
    refine ⟨2, rfl, by decide, by decide, fun e e0 e1 => ?_⟩
    array_get_dec
    refine ⟨⟨by omega, by omega⟩, by rw [rng_len]; omega, ?_⟩
    refine aCol_inv (fun k acc => ∃ pts : List Ptn, acc = pts.map ptD ∧ pts.length = k ∧ ∀ pt ∈ pts, PtOk hs.length pt) ⟨[], rfl, rfl, fun p h => (by cases h)⟩ ?_ ?_
    · rintro k x acc S hx ⟨pts, rfl, pl, pok⟩ hS
      obtain ⟨hk, rfl⟩ := rng_at hx
      array_get_dec
      refine ⟨hs, rfl, hok, fun pt hpt => hS _ ⟨pts ++ [pt], by rw [List.map_append]; rfl, by simp [pl], fun p hp => ?_⟩⟩
      rcases List.mem_append.mp hp with hp | hp
      · exact pok p hp
      · rw [List.mem_singleton.mp hp]; exact hpt
    · rintro acc ⟨pts, rfl, pl, pok⟩
      rw [rng_len] at pl
      have hny : y ∉ l.map (·.1) := fun m => by
        obtain ⟨p, hp, e⟩ := List.mem_map.mp m
        exact not_before znd hy (by rw [← e]; exact (ok p hp).1)
      refine ⟨by rw [List.length_map]; omega, ?_⟩
      rw [hi_put hny]
      refine hR _ ⟨_, l ++ [(y, pts)], rfl, ?_, by simp; omega, fun p hp => ?_⟩
      · exact nodup_snoc nd hny
      · rcases List.mem_append.mp hp with hp | hp
        · exact ⟨up (ok p hp).1, (ok p hp).2⟩
        · rw [List.mem_singleton.mp hp]
          exact ⟨by rw [take_next hy]; simp, by show 1 ≤ pts.length; omega, by show pts.length ≤ 2; omega, pok⟩
  · rintro env ⟨u, l, rfl, nd, ll, ok⟩
    rw [List.length_map, List.length_map] at ll
    have hok2 : HidOk hs.length l := ⟨nd, by omega, fun p hp => ⟨zok _ (List.mem_of_mem_take (ok p hp).1), (ok p hp).2⟩⟩
    refine ⟨fun env => env = [some .pool, some (.st (hsD hs)), some (.ow o (hiD (some l))), u, none], ?_, ?_⟩
    · unfold hiD
      array_get_dec
      refine ifB_dec (fun c => ?_) (fun c => ?_)
      · array_get_dec
        refine ⟨2, rfl, by decide, by decide, fun e e0 e1 => ?_⟩
        array_get_dec
        refine ifB_dec (fun c => ?_) (fun c => ?_)
        · exact qn
        · rfl
      · rfl
    · rintro env rfl
      unfold hiD
      array_get_dec
      exact q l hok2
end
end WW

set_option Elab.async false
set_option linter.all false
set_option maxRecDepth 100000
set_option maxHeartbeats 4000000
namespace WW
open PySem PySem.Spec PyProof.Rows L2
local macro_rules | `(tactic| array_mem_dec) => `(tactic| try dsimp only [slot, aVar, aC, aOp, ifB_t, ifB_f, aTest, aAnd, aOr, aNot, aAndV, aOrT, aOrV, aNotV, aIfE, aChain, aNil, aCons, aName, aGNil, aGCons, aGTup, aNext, aIf, aRet, aRetO, aRetN, aDrop, aAsg, aNew, aPar, aParN, aPar3, frz, aFz, aNever, aLoop, aFor, aCol, aLc, aYes, fAdd, fSub, fMul, fMod, fDiv, fPow, fLt, fLe, fGt, fGe, fI, fIc, fCatS, fLtS, eqD, fEq, fNe, fIsN, fNotN, aFn1, fNeg, fLen, fInt, fAbs, fAll, fAny, aFn2, fMax, truD, aTru, aIxL, aIxT, aIxQ, fIxS, stabs, aTup, aLst, aFix, B.solid, B.get, B.sub, aCat, aListOf, aTupOf, aONone, aOSome, aSlL, aRevL, aSortSet, aListAny, aListDK, aCopyD, aLenSet, aSortDK, aSortS, aRetNw, aMethN, aEi, aIQ, aDgN, aDget, aDgetN, fDin, fDnin, aDnew, aDput, fLenD, D.key, aFld, aProp, aMeth, aMeth0, putFD, aSetF, aMake, aMake0, aRaise, isIn, isBo, isS, isL, isT, isDi, isRow, isNo, knD, aIs, aIsRow, D.fl, fInF, fNinF, fInS, fEqY, fNeY, fEqP, fNeP, fInP, fNinP, aLcK, aDc, aIE, aIS, aTry, aHand, aXf, aXis, aIL, aICL, aIT, aIR1, aIR2, coe1, coes, aCall, aCall0, aApp, awipe, List.set, List.map, List.cons_append, List.nil_append, List.replicate, List.length, Nat.reduceSub, Nat.reduceAdd])
local macro_rules | `(tactic| array_get_dec) => `(tactic| (array_mem_dec; repeat (with_reducible refine go_seq ?_; array_mem_dec)))
/-- a drawn plan -/
structure Plan where
  hs : List Hnd
  gates : List Ptn
  bla : Bla
  hid : Hid
  eag : List Int
def planD (p : Plan) : D := .tup [hsD p.hs, .lst (p.gates.map ptD), blD p.bla, hiD p.hid, .lst (p.eag.map D.int)]
structure PlanOk (p : Plan) : Prop where
  hs : HsOk p.hs
  ws : ∃ ws : List Str, ws.length ≤ 5 ∧ ws.Nodup ∧ ∀ z ∈ wordsOf p.hs, z ∈ ws
  gl : p.gates.length ≤ 6
  gates : ∀ g ∈ p.gates, PtOk p.hs.length g ∧ agB g (p.hs.map (·.1)) = false
  bla : ∀ l, p.bla = some l → BlaOk (sortS (wordsOf p.hs)) l
  hid : ∀ l, p.hid = some l → HidOk p.hs.length l
  end_ : p.eag.Nodup
  eag : ∀ k ∈ p.eag, 0 ≤ k ∧ k < p.hs.length
def shapesD : List (List Int) := [[2], [3], [4], [2, 2], [2, 3], [3, 2], [3, 3], [2, 2, 2], [4, 2]]
theorem shapes_ok : ∀ s ∈ shapesD, 1 ≤ s.length ∧ s.length ≤ 3 ∧ ∀ n ∈ s, 1 ≤ n ∧ n ≤ 4 := by decide
def toT (s : List Int) : D := .tup (s.map D.int)
theorem cutD_mem {ds : List D} {lo hi : Option Int} {d : D} (h : d ∈ cutD ds lo hi) : d ∈ ds := List.mem_of_mem_drop (List.mem_of_mem_take h)
section
variable {P : Program} {w : World} {K : PySem.W.Frag} {mg : Str → Option Value} {base : Heap}
abbrev sLplan : Stmt := topS 47
abbrev nLplan : List Str := ["_law_pool_here", "_law_size", "_law_shapes", "_law_shape", "_law_words_here", "_law_hands", "_law_gates", "_law_k", "_law_pattern_here", "_law_most"]
theorem scLplan : FnScope nLplan ["_law_pool_here", "_law_size"] (defScope sLplan) := ⟨rfl, rfl, rfl, by decide +kernel, rfl, by decide +kernel, by decide +kernel⟩
def spPlanA : ASp := fun bs Q _ => ∃ sz : Int, bs = [.pool, .st (.int sz)] ∧ 0 ≤ sz ∧ sz < 3 ∧ ∀ p, PlanOk p → Q (planD p)
theorem ok_planA (DLplan : Df K mg "_law_plan" sLplan ["_law_pool_here", "_law_size"] fLplan fdLplan) (DLdraw : Df K mg "_law_draw" sLdraw ["_law_pool_here", "_law_many"] fLdraw fdLdraw) (GLdraw : FnOk P w K mg base CX0 1 fLdraw fdLdraw ["_law_pool_here", "_law_many"] (cSp K spDrawA)) (DLpick : Df K mg "_law_pick" sLpick ["_law_pool_here", "_law_items"] fLpick fdLpick) (GLpick : FnOk P w K mg base CX0 2 fLpick fdLpick ["_law_pool_here", "_law_items"] (cSp K spPickA)) (DLnames : Df K mg "_law_names" sLnames ["_law_pool_here", "_law_many"] fLnames fdLnames) (GLnames : FnOk P w K mg base CX0 3 fLnames fdLnames ["_law_pool_here", "_law_many"] (cSp K spNamesA)) (DLhand : Df K mg "_law_hand" sLhand ["_law_pool_here", "_law_words_here", "_law_most"] fLhand fdLhand) (GLhand : FnOk P w K mg base CX0 3 fLhand fdLhand ["_law_pool_here", "_law_words_here", "_law_most"] (cSp K spHandA)) (DLpattern : Df K mg "_law_pattern" sLpattern ["_law_pool_here", "_law_hands"] fLpattern fdLpattern) (GLpattern : FnOk P w K mg base CX0 3 fLpattern fdLpattern ["_law_pool_here", "_law_hands"] (cSp K spPatternA)) (DLagrees : Df K mg "_law_agrees" sLagrees ["_law_pattern_here", "_law_standing"] fLagrees fdLagrees) (GLagrees : FnOk P w K mg base CX0 1 fLagrees fdLagrees ["_law_pattern_here", "_law_standing"] (cSp K spAgreesA)) (DLstart : Df K mg "_law_start" sLstart ["_law_hands"] fLstart fdLstart) (GLstart : FnOk P w K mg base CX0 1 fLstart fdLstart ["_law_hands"] (cSp K spStartA)) (DLwords : Df K mg "_law_words" sLwords ["_law_hands"] fLwords fdLwords) (GLwords : FnOk P w K mg base CX0 1 fLwords fdLwords ["_law_hands"] (cSp K spWordsA)) (DLblames : Df K mg "_law_blames" sLblames ["_law_pool_here", "_law_words_here"] fLblames fdLblames) (GLblames : FnOk P w K mg base CX0 4 fLblames fdLblames ["_law_pool_here", "_law_words_here"] (cSp K spBlamesA)) (DLhides : Df K mg "_law_hides" sLhides ["_law_pool_here", "_law_hands"] fLhides fdLhides) (GLhides : FnOk P w K mg base CX0 4 fLhides fdLhides ["_law_pool_here", "_law_hands"] (cSp K spHidesA)) (T : Bl mg) : FnOk P w K mg base CX0 5 fLplan fdLplan ["_law_pool_here", "_law_size"] (cSp K spPlanA) := by
  refine DLplan.fn.ok scLplan (fun vs H Q E h => cSp_len (fun bs Q X h => by obtain ⟨ds, rfl, _⟩ := h; rfl) h) (fun cdv A outer s H vs Q E hr h => ?_)
  refine ⟨_, (pss_cons (ps_set (i := 2) scLplan.nd rfl (Or.inl rfl) (pe_lst (pa_cons (pe_tup (pa_cons pe_int pa_nil)) (pa_cons (pe_tup (pa_cons pe_int pa_nil)) (pa_cons (pe_tup (pa_cons pe_int pa_nil)) (pa_cons (pe_tup (pa_cons pe_int (pa_cons pe_int pa_nil))) (pa_cons (pe_tup (pa_cons pe_int (pa_cons pe_int pa_nil))) (pa_cons (pe_tup (pa_cons pe_int (pa_cons pe_int pa_nil))) (pa_cons (pe_tup (pa_cons pe_int (pa_cons pe_int pa_nil))) (pa_cons (pe_tup (pa_cons pe_int (pa_cons pe_int (pa_cons pe_int pa_nil)))) (pa_cons (pe_tup (pa_cons pe_int (pa_cons pe_int pa_nil))) pa_nil)))))))))))
      (pss_cons (ps_set (i := 3) scLplan.nd rfl (Or.inl rfl) (pe_df DLpick GLpick (hr.mono (by decide)) (pa_cons (pv 0) (pa_cons (pe_slice sl_list (pv 2) po_none (po_some (pe_ix ix_list (pe_lst (pa_cons pe_int (pa_cons pe_int (pa_cons pe_int pa_nil)))) (pv 1) (fun _ _ => rfl)))) pa_nil))))
      (pss_cons (ps_set (i := 4) scLplan.nd rfl (Or.inr rfl) (pe_df DLnames GLnames (hr.mono (by decide)) (pa_cons (pv 0) (pa_cons (pe_op op_add pe_int (pe_df DLdraw GLdraw (hr.mono (by decide)) (pa_cons (pv 0) (pa_cons pe_int pa_nil)))) pa_nil))))
      (pss_cons (ps_set (i := 5) scLplan.nd rfl (Or.inl rfl) (pe_callTy call_tuple_of (by rfl) T.tuple (by decide +kernel) (pa_cons (pe_lc (own := [("_law_most", 9)]) rfl scLplan.nd (pi_tup (pv 3)) (blkOk_by (own := [("_law_most", 9)]) (N := nLplan) (sc := defScope sLplan) (by decide +kernel)) (fun _ _ _ _ _ => (pg_name (i := 9) scLplan.nd rfl (Or.inl rfl))) (fun _ _ _ _ _ => pts_nil) (fun _ _ _ _ _ => (pe_df DLhand GLhand (hr.mono (by decide)) (pa_cons (pv 0) (pa_cons (pv 4) (pa_cons (pv 9) pa_nil)))))) pa_nil)))
      (pss_cons (ps_set (i := 6) scLplan.nd rfl (Or.inl rfl) (pe_lst pa_nil))
      (pss_cons (ps_for PassesOwn.never rfl (pi_range1 (by rfl) T.range (pa_cons (pe_ix ix_list (pe_lst (pa_cons (pe_df DLdraw GLdraw (hr.mono (by decide)) (pa_cons (pv 0) (pa_cons pe_int pa_nil))) (pa_cons (pe_df DLdraw GLdraw (hr.mono (by decide)) (pa_cons (pv 0) (pa_cons pe_int pa_nil))) pa_nil))) (pe_callTy call_int1 (by rfl) T.int (by decide +kernel) (pa_cons (pe_cmpR op_eq (pe_df DLdraw GLdraw (hr.mono (by decide)) (pa_cons (pv 0) (pa_cons pe_int pa_nil))) pe_int (nomark _)) pa_nil)) (fun _ _ => rfl)) pa_nil)) (pg_name (i := 7) scLplan.nd rfl (Or.inl rfl)) (pss_cons (ps_set (i := 8) scLplan.nd rfl (Or.inl rfl) (pe_df DLpattern GLpattern (hr.mono (by decide)) (pa_cons (pv 0) (pa_cons (pv 5) pa_nil))))
      (pss_one (ps_if (pt_not (pt_val (pe_df DLagrees GLagrees (hr.mono (by decide)) (pa_cons (pv 8) (pa_cons (pe_df DLstart GLstart (hr.mono (by decide)) (pa_cons (pv 5) pa_nil)) pa_nil))))) (pss_one (ps_expr (pe_bm PySem.F.plainAttrs_list PySem.F.slot_list_append PySem.F.type_list_append mt_append (pv 6) (pa_cons (pv 8) pa_nil)))) pss_nil))))
      (pss_one (ps_ret (pe_tup (pa_cons (pv 5) (pa_cons (pv 6) (pa_cons (pe_df DLblames GLblames (hr.mono (by decide)) (pa_cons (pv 0) (pa_cons (pe_df DLwords GLwords (hr.mono (by decide)) (pa_cons (pv 5) pa_nil)) pa_nil))) (pa_cons (pe_df DLhides GLhides (hr.mono (by decide)) (pa_cons (pv 0) (pa_cons (pv 5) pa_nil))) (pa_cons (pe_revL (pe_lc (own := [("_law_k", 7)]) rfl scLplan.nd (pi_range1 (by rfl) T.range (pa_cons (pe_callB call_len (by rfl) T.len (by decide +kernel) (pa_cons (pv 5) pa_nil)) pa_nil)) (blkOk_by (own := [("_law_k", 7)]) (N := nLplan) (sc := defScope sLplan) (by decide +kernel)) (fun _ _ _ _ _ => (pg_name (i := 7) scLplan.nd rfl (Or.inl rfl))) (fun _ _ _ _ _ => (pts_one (pt_cmpR op_eq (pe_df DLdraw GLdraw (hr.mono (by decide)) (pa_cons (pv 0) (pa_cons pe_int pa_nil))) pe_int (nomark _)))) (fun _ _ _ _ _ => (pv 7)))) pa_nil)))))))))))))), ?_⟩
  refine fn_A ((sa_seq (sa_set 2 (ea_fix (en_lst (el_cons (ea_tup (el_cons ea_cI el_nil)) (el_cons (ea_tup (el_cons ea_cI el_nil)) (el_cons (ea_tup (el_cons ea_cI el_nil)) (el_cons (ea_tup (el_cons ea_cI (el_cons ea_cI el_nil))) (el_cons (ea_tup (el_cons ea_cI (el_cons ea_cI el_nil))) (el_cons (ea_tup (el_cons ea_cI (el_cons ea_cI el_nil))) (el_cons (ea_tup (el_cons ea_cI (el_cons ea_cI el_nil))) (el_cons (ea_tup (el_cons ea_cI (el_cons ea_cI (el_cons ea_cI el_nil)))) (el_cons (ea_tup (el_cons ea_cI (el_cons ea_cI el_nil))) el_nil))))))))))))
      (sa_seq (sa_set 3 (ea_call [] (el_cons (ea_var 0) (el_cons (ea_fix (en_slL (ea_var 2) eo_none (eo_some (ea_ixL (ea_fix (en_lst (el_cons ea_cI (el_cons ea_cI (el_cons ea_cI el_nil))))) (ea_var 1))))) el_nil))))
      (sa_seq (sa_set 4 (ea_call [] (el_cons (ea_var 0) (el_cons (ea_op r2_add ea_cI (ea_call [] (el_cons (ea_var 0) (el_cons ea_cI el_nil)))) el_nil))))
      (sa_seq (sa_set 5 (ea_tupOf (ea_fix (en_lc (EI.ec (ei_tup (ea_var 3))) (ga_name (js := [9]) 9) et_yes (ea_call [] (el_cons (ea_var 0) (el_cons (ea_var 4) (el_cons (ea_var 9) el_nil))))))))
      (sa_seq (sa_new 6 (en_lst el_nil))
      (sa_seq (sa_for (ei_range1 (ea_ixL (ea_fix (en_lst (el_cons (ea_call [] (el_cons (ea_var 0) (el_cons ea_cI el_nil))) (el_cons (ea_call [] (el_cons (ea_var 0) (el_cons ea_cI el_nil))) el_nil)))) (ea_b1 rc_int (ea_op r2_eq (ea_call [] (el_cons (ea_var 0) (el_cons ea_cI el_nil))) ea_cI)))) (ga_name (js := [7]) 7) (sa_seq (sa_set 8 (ea_call [] (el_cons (ea_var 0) (el_cons (ea_var 5) el_nil))))
      (sa_if (et_not (et_B (ea_call [] (el_cons (ea_var 8) (el_cons (ea_call [] (el_cons (ea_var 5) el_nil)) el_nil))))) (sa_app 6 (ea_var 8)) sa_next)))
      (sa_frz 6 (sa_ret (ea_tup (el_cons (ea_var 5) (el_cons (ea_var 6) (el_cons (ea_call [] (el_cons (ea_var 0) (el_cons (ea_call [] (el_cons (ea_var 5) el_nil)) el_nil))) (el_cons (ea_call [] (el_cons (ea_var 0) (el_cons (ea_var 5) el_nil))) (el_cons (ea_fix (en_revL (ea_fix (en_lc (EI.ec (ei_range1 (ea_b1 rc_len (ea_var 5)))) (ga_name (js := [7]) 7) (et_test (ea_op r2_eq (ea_call [] (el_cons (ea_var 0) (el_cons ea_cI el_nil))) ea_cI)) (ea_var 7))))) el_nil))))))))))))))) h fun bs Qa Xa h => ?_
  obtain ⟨sz, rfl, z0, z1, q⟩ := h
  array_get_dec
  obtain ⟨m, hm, m0, m1⟩ : ∃ m : Nat, atI [D.int 4, D.int 6, D.int 9] sz = some (D.int (m : Int)) ∧ 4 ≤ m ∧ m ≤ 9 := by
    obtain rfl | rfl | rfl : sz = 0 ∨ sz = 1 ∨ sz = 2 := by omega
    · exact ⟨4, rfl, by decide, by decide⟩
    · exact ⟨6, rfl, by decide, by decide⟩
    · exact ⟨9, rfl, by decide, by decide⟩
  refine ⟨_, hm, ?_⟩
  array_get_dec
  refine ⟨_, .inl rfl, ?_, ?_, fun i d hd => ?_⟩
  · unfold cutD
    rw [HT.sIx_nat, HT.sIx_none]
    simp
    omega
  · unfold cutD
    rw [HT.sIx_nat, HT.sIx_none]
    simp
    omega
  have hd := cutD_mem (List.mem_of_getElem? hd)
  obtain ⟨s, hs, rfl⟩ : ∃ s ∈ shapesD, d = toT s := by
    have : d ∈ shapesD.map toT := hd
    obtain ⟨s, h1, h2⟩ := List.mem_map.mp this
    exact ⟨s, h1, h2.symm⟩
  obtain ⟨sl1, sl2, sok⟩ := shapes_ok s hs
  unfold toT
  array_get_dec
  refine ⟨4, rfl, by decide, by decide, fun e e0 e1 => ?_⟩
  array_get_dec
  refine ⟨_, rfl, by omega, by omega, fun ws wl wnd wok => ?_⟩
  array_get_dec
  refine ⟨by rw [List.length_map, List.length_map]; omega, ?_⟩
  refine aCol_inv (fun k acc => ∃ hs : List Hnd, acc = hs.map hndD ∧ hs.length = k ∧ ∀ h ∈ hs, HndOk h ∧ ∀ t ∈ h.2, t.2.1 ∈ ws) ⟨[], rfl, rfl, fun p h => (by cases h)⟩ ?_ ?_
  · rintro k x acc S hx ⟨hs, rfl, hl, hok⟩ hS
    obtain ⟨y, hy, rfl⟩ : ∃ y, s[k]? = some y ∧ x = .st (.int y) := by
      rw [List.map_map, List.getElem?_map] at hx
      obtain ⟨y, h1, e⟩ := Option.map_eq_some_iff.mp hx
      exact ⟨y, h1, e.symm⟩
    have yo := sok y (List.mem_of_getElem? hy)
    array_get_dec
    refine ⟨y, ws, rfl, by omega, by omega, wok, yo.1, yo.2, fun h ho hw => hS _ ⟨hs ++ [h], by rw [List.map_append]; rfl, by simp [hl], fun p hp => ?_⟩⟩
    rcases List.mem_append.mp hp with hp | hp
    · exact hok p hp
    · rw [List.mem_singleton.mp hp]; exact ⟨ho, hw⟩
  rintro acc ⟨hs, rfl, hl, hok⟩
  rw [List.length_map, List.length_map] at hl
  have HO : HsOk hs := ⟨by omega, by omega, fun h hh => (hok h hh).1⟩
  have inW : ∀ z ∈ wordsOf hs, z ∈ ws := fun z hz => by
    obtain ⟨x, hx, hz⟩ := List.mem_flatMap.mp hz
    obtain ⟨t, ht, rfl⟩ := List.mem_map.mp hz
    exact (hok x hx).2 t ht
  array_get_dec
  intro g
  array_get_dec
  refine ⟨3, rfl, by decide, by decide, fun a a0 a1 => ⟨7, rfl, by decide, by decide, fun b b0 b1 => ?_⟩⟩
  array_get_dec
  refine ⟨8, rfl, by decide, by decide, fun c c0 c1 => ?_⟩
  array_get_dec
  obtain ⟨N, hN, N0, N1⟩ : ∃ N : Int, atI [D.int a, D.int b] (if decide (c = 0) = true then 1 else 0) = some (D.int N) ∧ 0 ≤ N ∧ N < 7 := by
    by_cases h : c = 0
    · rw [decide_eq_true h, if_pos rfl]
      exact ⟨b, rfl, by omega, by omega⟩
    · rw [decide_eq_false h, if_neg Bool.false_ne_true]
      exact ⟨a, rfl, by omega, by omega⟩
  refine ⟨_, hN, ?_⟩
  array_get_dec
  refine ⟨⟨by omega, by omega⟩, ?_⟩
  refine aLoop_inv (fun i env => ∃ u v gs, env = [some .pool, some (.st (.int sz)), some (.st (.lst (shapesD.map toT))), some (.st (.tup (s.map D.int))), some (.st (.lst (ws.map D.str))), some (.st (hsD hs)), some (.ow g (.lst (gs.map ptD))), u, v, none] ∧ gs.length ≤ i ∧ ∀ g ∈ gs, PtOk hs.length g ∧ agB g (hs.map (·.1)) = false) ⟨_, _, [], rfl, Nat.le_refl _, fun p h => (by cases h)⟩ ?_ ?_
  · rintro i x env R hx ⟨u, v, gs, rfl, gl, gok⟩ hR
    obtain ⟨hi, rfl⟩ := rng_at hx
    array_get_dec
    refine ⟨hs, rfl, HO, fun pt pok => ?_⟩
    array_get_dec
    refine ⟨hs, rfl, by have := HO.l2; omega, pt, hs.map (·.1), rfl, by rw [List.length_map]; exact pok, by rw [List.length_map]; have := HO.l2; omega, ?_⟩
    array_get_dec
    refine ifB_both (fun c => ?_) (fun c => ?_)
    · array_get_dec
      refine ⟨by rw [List.length_map]; omega, hR _ ⟨_, _, gs ++ [pt], by rw [List.map_append]; rfl, by simp; omega, fun p hp => ?_⟩⟩
      rcases List.mem_append.mp hp with hp | hp
      · exact gok p hp
      · rw [List.mem_singleton.mp hp]; exact ⟨pok, by simpa using c⟩
    · exact hR _ ⟨_, _, gs, rfl, by omega, gok⟩
  rintro env ⟨u, v, gs, rfl, gl, gok⟩
  rw [rng_len] at gl
  array_get_dec
  refine ⟨hs, rfl, HO, sortS (wordsOf hs), rfl, by have := sortS_len (wordsOf hs); have := words_len HO; omega, sortS_nodup _, ?_⟩
  refine ⟨fun l hl => ⟨hs, rfl, HO, fun l2 hl2 => ?_, ?_⟩, ⟨hs, rfl, HO, fun l2 hl2 => ?_, ?_⟩⟩
  all_goals unfold hsD
  all_goals (array_get_dec)
  all_goals refine ⟨⟨by rw [List.length_map]; omega, by rw [List.length_map]; omega⟩, by rw [rng_len, List.length_map]; omega, ?_⟩
  all_goals
    refine aCol_inv (fun i acc => ∃ ks : List Int, acc = ks.map D.int ∧ ks.Nodup ∧ ∀ k ∈ ks, 0 ≤ k ∧ k < (i : Int)) ⟨[], rfl, List.nodup_nil, fun p h => (by cases h)⟩ (by
      rintro i x acc S hx ⟨ks, rfl, nd, ok⟩ hS
      obtain ⟨hi, rfl⟩ := rng_at hx
      array_get_dec
      refine ⟨2, rfl, by decide, by decide, fun d d0 d1 => ?_⟩
      array_get_dec
      refine ifB_dec (fun c => ?_) (fun c => ?_)
      · refine hS _ ⟨ks ++ [0 + (i : Int)], by rw [List.map_append]; rfl, ?_, fun k hk => ?_⟩
        · rw [List.nodup_append]
          refine ⟨nd, by simp, fun a ha b hb e => ?_⟩
          have := ok a ha
          rw [List.mem_singleton.mp hb] at e
          omega
        · rcases List.mem_append.mp hk with hk | hk
          · have := ok k hk
            omega
          · rw [List.mem_singleton.mp hk]
            omega
      · exact hS _ ⟨ks, rfl, nd, fun k hk => by have := ok k hk; omega⟩) ?_
  all_goals
    rintro acc ⟨ks, rfl, nd, ok⟩
    rw [rng_len, List.length_map] at ok
    rw [← List.map_reverse]
    have nd2 : ks.reverse.Nodup := (List.reverse_perm ks).nodup_iff.mpr nd
    have ok2 : ∀ k ∈ ks.reverse, 0 ≤ k ∧ k < (hs.length : Int) := fun k hk => by
      have := ok k (List.mem_reverse.mp hk)
      omega
    have gl6 : gs.length ≤ 6 := by omega
  · exact q ⟨hs, gs, some l, some l2, ks.reverse⟩ ⟨HO, ⟨ws, by omega, wnd, inW⟩, gl6, gok, (fun _ e => by cases e; exact hl), (fun _ e => by cases e; exact hl2), nd2, ok2⟩
  · exact q ⟨hs, gs, some l, none, ks.reverse⟩ ⟨HO, ⟨ws, by omega, wnd, inW⟩, gl6, gok, (fun _ e => by cases e; exact hl), (fun _ e => by cases e), nd2, ok2⟩
  · exact q ⟨hs, gs, none, some l2, ks.reverse⟩ ⟨HO, ⟨ws, by omega, wnd, inW⟩, gl6, gok, (fun _ e => by cases e), (fun _ e => by cases e; exact hl2), nd2, ok2⟩
  · exact q ⟨hs, gs, none, none, ks.reverse⟩ ⟨HO, ⟨ws, by omega, wnd, inW⟩, gl6, gok, (fun _ e => by cases e), (fun _ e => by cases e), nd2, ok2⟩
end
end WW

set_option Elab.async false
set_option linter.all false
set_option maxRecDepth 100000
set_option maxHeartbeats 4000000
namespace WW
open PySem PySem.Spec PyProof.Rows L2
local macro_rules | `(tactic| array_mem_dec) => `(tactic| try dsimp only [slot, aVar, aC, aOp, ifB_t, ifB_f, aTest, aAnd, aOr, aNot, aAndV, aOrT, aOrV, aNotV, aIfE, aChain, aNil, aCons, aName, aGNil, aGCons, aGTup, aNext, aIf, aRet, aRetO, aRetN, aDrop, aAsg, aNew, aPar, aParN, aPar3, frz, aFz, aNever, aLoop, aFor, aCol, aLc, aYes, fAdd, fSub, fMul, fMod, fDiv, fPow, fLt, fLe, fGt, fGe, fI, fIc, fCatS, fLtS, eqD, fEq, fNe, fIsN, fNotN, aFn1, fNeg, fLen, fInt, fAbs, fAll, fAny, aFn2, fMax, truD, aTru, aIxL, aIxT, aIxQ, fIxS, stabs, aTup, aLst, aFix, B.solid, B.get, B.sub, aCat, aListOf, aTupOf, aONone, aOSome, aSlL, aRevL, aSortSet, aListAny, aListDK, aCopyD, aLenSet, aSortDK, aSortS, aRetNw, aMethN, aEi, aIQ, aDgN, aDget, aDgetN, fDin, fDnin, aDnew, aDput, fLenD, D.key, aFld, aProp, aMeth, aMeth0, putFD, aSetF, aMake, aMake0, aRaise, isIn, isBo, isS, isL, isT, isDi, isRow, isNo, knD, aIs, aIsRow, D.fl, fInF, fNinF, fInS, fEqY, fNeY, fEqP, fNeP, fInP, fNinP, aLcK, aDc, aIE, aIS, aTry, aHand, aXf, aXis, aIL, aICL, aIT, aIR1, aIR2, coe1, coes, aCall, aCall0, aApp, awipe, List.set, List.map, List.cons_append, List.nil_append, List.replicate, List.length, Nat.reduceSub, Nat.reduceAdd])
local macro_rules | `(tactic| array_get_dec) => `(tactic| (array_mem_dec; repeat (with_reducible refine go_seq ?_; array_mem_dec)))
/-- a drawn row of an instrument -/
inductive Rw where
  | lock (nm : Str) (po : Int) (ws : List Str) (co : Int)
  | sens (nm : Str) (po : Int) (zs : ZZ) (co : Int)
def Rw.nm : Rw → Str
  | .lock n _ _ _ => n
  | .sens n _ _ _ => n
def Rw.po : Rw → Int
  | .lock _ p _ _ => p
  | .sens _ p _ _ => p
def Rw.co : Rw → Int
  | .lock _ _ _ c => c
  | .sens _ _ _ c => c

def Rw.d : Rw → D
  | .lock n p ws c => .tup [.str "lock", .str n, .int p, .lst (ws.map D.str), .int c]
  | .sens n p zs c => .tup [.str "sensor", .str n, .int p, .dK (zD zs), .int c]
/-- its words -/
def Rw.ws : Rw → List Str
  | .lock _ _ ws _ => ws
  | .sens _ _ zs _ => zs.map (·.1)
structure RwOk (r : Rw) : Prop where
  nm : NameOk r.nm
  po : 0 ≤ r.po ∧ r.po ≤ 1
  co : 1 ≤ r.co ∧ r.co ≤ 1000
  wl : 1 ≤ r.ws.length ∧ r.ws.length ≤ 6
  wn : r.ws.Nodup
  wo : ∀ z ∈ r.ws, NameOk z
  so : ∀ n p zs c, r = .sens n p zs c → ∀ q ∈ zs, NameOk q.2
theorem zD_put {l : ZZ} {y z : Str} (h : y ∉ l.map (·.1)) : putD (zD l) (Sum.inr y) (.str z) = zD (l ++ [(y, z)]) := bl_put h
structure RwsOk (rows : List Rw) : Prop where
  nd : (rows.map Rw.nm).Nodup
  ok : ∀ r ∈ rows, RwOk r
section
variable {P : Program} {w : World} {K : PySem.W.Frag} {mg : Str → Option Value} {base : Heap}
abbrev sLinstruments : Stmt := topS 48
abbrev nLinstruments : List Str := ["_law_pool_here", "_law_plan_here", "_law_most", "_law_words_here", "_law_signs", "_law_rows", "_law_name_here", "_law_kind", "_law_post", "_law_cost", "_law_some", "_law_shown", "_law_word"]
theorem scLinstruments : FnScope nLinstruments ["_law_pool_here", "_law_plan_here", "_law_most"] (defScope sLinstruments) := ⟨rfl, rfl, rfl, by decide +kernel, rfl, by decide +kernel, by decide +kernel⟩
def spInstrA : ASp := fun bs Q _ => ∃ (p : Plan) (m : Int), bs = [.pool, .st (planD p), .st (.int m)] ∧ PlanOk p ∧ 1 ≤ m ∧ m ≤ 6 ∧ ∀ rows : List Rw, 1 ≤ rows.length → rows.length ≤ m.toNat → RwsOk rows → Q (.lst (rows.map Rw.d))
theorem ok_instrA (DLinstruments : Df K mg "_law_instruments" sLinstruments ["_law_pool_here", "_law_plan_here", "_law_most"] fLinstruments fdLinstruments) (DLdraw : Df K mg "_law_draw" sLdraw ["_law_pool_here", "_law_many"] fLdraw fdLdraw) (GLdraw : FnOk P w K mg base CX0 1 fLdraw fdLdraw ["_law_pool_here", "_law_many"] (cSp K spDrawA)) (DLpick : Df K mg "_law_pick" sLpick ["_law_pool_here", "_law_items"] fLpick fdLpick) (GLpick : FnOk P w K mg base CX0 2 fLpick fdLpick ["_law_pool_here", "_law_items"] (cSp K spPickA)) (DLname : Df K mg "_law_name" sLname ["_law_pool_here", "_law_taken"] fLname fdLname) (GLname : FnOk P w K mg base CX0 2 fLname fdLname ["_law_pool_here", "_law_taken"] (cSp K spNameA)) (DLnames : Df K mg "_law_names" sLnames ["_law_pool_here", "_law_many"] fLnames fdLnames) (GLnames : FnOk P w K mg base CX0 3 fLnames fdLnames ["_law_pool_here", "_law_many"] (cSp K spNamesA)) (DLwords : Df K mg "_law_words" sLwords ["_law_hands"] fLwords fdLwords) (GLwords : FnOk P w K mg base CX0 1 fLwords fdLwords ["_law_hands"] (cSp K spWordsA)) (T : Bl mg) : FnOk P w K mg base CX0 4 fLinstruments fdLinstruments ["_law_pool_here", "_law_plan_here", "_law_most"] (cSp K spInstrA) := by
  refine DLinstruments.fn.ok scLinstruments (fun vs H Q E h => cSp_len (fun bs Q X h => by obtain ⟨p, m, rfl, _⟩ := h; rfl) h) (fun cdv A outer s H vs Q E hr h => ?_)
  refine ⟨_, (pss_cons (ps_set (i := 3) scLinstruments.nd rfl (Or.inl rfl) (pe_df DLwords GLwords (hr.mono (by decide)) (pa_cons (pe_ix ix_tup (pv 1) pe_int (fun _ _ => rfl)) pa_nil)))
      (pss_cons (ps_set (i := 3) scLinstruments.nd rfl (Or.inl rfl) (pe_op op_cat (pv 3) (pe_lst (pa_cons (pe_df DLname GLname (hr.mono (by decide)) (pa_cons (pv 0) (pa_cons (pv 3) pa_nil))) pa_nil))))
      (pss_cons (ps_set (i := 4) scLinstruments.nd rfl (Or.inl rfl) (pe_df DLnames GLnames (hr.mono (by decide)) (pa_cons (pv 0) (pa_cons (pe_op op_add pe_int (pe_df DLdraw GLdraw (hr.mono (by decide)) (pa_cons (pv 0) (pa_cons pe_int pa_nil)))) pa_nil))))
      (pss_cons (ps_set (i := 5) scLinstruments.nd rfl (Or.inl rfl) (pe_lst pa_nil))
      (pss_cons (ps_for PassesOwn.never rfl (pi_list (pe_df DLnames GLnames (hr.mono (by decide)) (pa_cons (pv 0) (pa_cons (pe_op op_add pe_int (pe_df DLdraw GLdraw (hr.mono (by decide)) (pa_cons (pv 0) (pa_cons (pv 2) pa_nil)))) pa_nil)))) (pg_name (i := 6) scLinstruments.nd rfl (Or.inl rfl)) (pss_cons (ps_par (i := 7) (j := 8) (by rfl) scLinstruments.nd rfl rfl (by decide) rfl rfl (pa_cons (pe_df DLdraw GLdraw (hr.mono (by decide)) (pa_cons (pv 0) (pa_cons pe_int pa_nil))) (pa_cons (pe_df DLdraw GLdraw (hr.mono (by decide)) (pa_cons (pv 0) (pa_cons pe_int pa_nil))) pa_nil)) (by rfl))
      (pss_cons (ps_set (i := 9) scLinstruments.nd rfl (Or.inl rfl) (pe_op op_add pe_int (pe_ix ix_list (pe_lst (pa_cons (pe_df DLdraw GLdraw (hr.mono (by decide)) (pa_cons (pv 0) (pa_cons pe_int pa_nil))) (pa_cons (pe_df DLdraw GLdraw (hr.mono (by decide)) (pa_cons (pv 0) (pa_cons pe_int pa_nil))) pa_nil))) (pe_callTy call_int1 (by rfl) T.int (by decide +kernel) (pa_cons (pe_cmpR op_eq (pe_df DLdraw GLdraw (hr.mono (by decide)) (pa_cons (pv 0) (pa_cons pe_int pa_nil))) pe_int (nomark _)) pa_nil)) (fun _ _ => rfl))))
      (C8.pss_cut (ps_set (i := 10) scLinstruments.nd rfl (Or.inl rfl) (pe_orT (pe_lc (own := [("_law_word", 12)]) rfl scLinstruments.nd (pi_list (pv 3)) (blkOk_by (own := [("_law_word", 12)]) (N := nLinstruments) (sc := defScope sLinstruments) (by decide +kernel)) (fun _ _ _ _ _ => (pg_name (i := 12) scLinstruments.nd rfl (Or.inl rfl))) (fun _ _ _ _ _ => (pts_one (pt_cmpR op_eq (pe_df DLdraw GLdraw (hr.mono (by decide)) (pa_cons (pv 0) (pa_cons pe_int pa_nil))) pe_int (nomark _)))) (fun _ _ _ _ _ => (pv 12))) (pe_one (pe_lst (pa_cons (pe_df DLpick GLpick (hr.mono (by decide)) (pa_cons (pv 0) (pa_cons (pv 3) pa_nil))) pa_nil)))))
      (pss_one (ps_if (pt_cmpR op_eq (pv 7) pe_int (nomark _)) (pss_one (ps_expr (pe_bm PySem.F.plainAttrs_list PySem.F.slot_list_append PySem.F.type_list_append mt_append (pv 5) (pa_cons (pe_tup (pa_cons pe_str (pa_cons (pv 6) (pa_cons (pv 8) (pa_cons (pv 10) (pa_cons (pv 9) pa_nil)))))) pa_nil)))) (pss_cons (ps_set (i := 11) scLinstruments.nd rfl (Or.inl rfl) pe_dnewK)
      (pss_cons (ps_for PassesOwn.never rfl (pi_list (pv 10)) (pg_name (i := 12) scLinstruments.nd rfl (Or.inl rfl)) (pss_one (ps_dput (hu1 hr) (pv 11) (pv 12) (pe_df DLpick GLpick (hr.mono (by decide)) (pa_cons (pv 0) (pa_cons (pv 4) pa_nil))) (by rfl))))
      (pss_one (ps_expr (pe_bm PySem.F.plainAttrs_list PySem.F.slot_list_append PySem.F.type_list_append mt_append (pv 5) (pa_cons (pe_tup (pa_cons pe_str (pa_cons (pv 6) (pa_cons (pv 8) (pa_cons (pv 11) (pa_cons (pv 9) pa_nil)))))) pa_nil))))))))))))
      (pss_one (ps_ret (pv 5)))))))), ?_⟩
  refine fn_A ((sa_seq (sa_set 3 (ea_call [] (el_cons (ea_ixT (ea_var 1) ea_cI) el_nil)))
      (sa_seq (sa_set 3 (ea_fix (en_cat (ea_var 3) (ea_fix (en_lst (el_cons (ea_call [false, true] (el_cons (ea_var 0) (el_cons (ea_var 3) el_nil))) el_nil))))))
      (sa_seq (sa_set 4 (ea_call [] (el_cons (ea_var 0) (el_cons (ea_op r2_add ea_cI (ea_call [] (el_cons (ea_var 0) (el_cons ea_cI el_nil)))) el_nil))))
      (sa_seq (sa_new 5 (en_lst el_nil))
      (sa_seq (sa_for (ei_list (ea_call [] (el_cons (ea_var 0) (el_cons (ea_op r2_add ea_cI (ea_call [] (el_cons (ea_var 0) (el_cons (ea_var 2) el_nil)))) el_nil)))) (ga_name (js := [6]) 6) (sa_seq (sa_par (el_cons (ea_call [] (el_cons (ea_var 0) (el_cons ea_cI el_nil))) (el_cons (ea_call [] (el_cons (ea_var 0) (el_cons ea_cI el_nil))) el_nil)))
      (sa_seq (sa_set 9 (ea_op r2_add ea_cI (ea_ixL (ea_fix (en_lst (el_cons (ea_call [] (el_cons (ea_var 0) (el_cons ea_cI el_nil))) (el_cons (ea_call [] (el_cons (ea_var 0) (el_cons ea_cI el_nil))) el_nil)))) (ea_b1 rc_int (ea_op r2_eq (ea_call [] (el_cons (ea_var 0) (el_cons ea_cI el_nil))) ea_cI)))))
      (sa_cut (sa_set 10 (ea_orT (ea_fix (en_lc (ec_list (ea_var 3)) (ga_name (js := [12]) 12) (et_test (ea_op r2_eq (ea_call [] (el_cons (ea_var 0) (el_cons ea_cI el_nil))) ea_cI)) (ea_var 12))) (ea_fix (en_lst (el_cons (ea_call [] (el_cons (ea_var 0) (el_cons (ea_var 3) el_nil))) el_nil)))))
      (sa_if (et_test (ea_op r2_eq (ea_var 7) ea_cI)) (sa_app 5 (ea_tup (el_cons ea_cS (el_cons (ea_var 6) (el_cons (ea_var 8) (el_cons (ea_var 10) (el_cons (ea_var 9) el_nil))))))) (sa_seq (sa_new 11 en_dnew)
      (sa_seq (sa_for (ei_list (ea_var 10)) (ga_name (js := [12]) 12) (sa_dput 11 (ea_var 12) (ea_call [] (el_cons (ea_var 0) (el_cons (ea_var 4) el_nil)))))
      (sa_frz 11 (sa_app 5 (ea_tup (el_cons ea_cS (el_cons (ea_var 6) (el_cons (ea_var 8) (el_cons (ea_var 11) (el_cons (ea_var 9) el_nil)))))))))))))))
      (sa_retO 5))))))) h fun bs Qa Xa h => ?_
  obtain ⟨p, m, rfl, pok, m0, m1, q⟩ := h
  unfold planD
  array_get_dec
  refine ⟨_, rfl, p.hs, rfl, pok.hs, ?_⟩
  obtain ⟨w5, w5l, w5n, w5m⟩ := pok.ws
  have W0l : (sortS (wordsOf p.hs)).length ≤ 5 := by
    have := pigeon (sortS (wordsOf p.hs)) w5 (sortS_nodup _) (fun z hz => w5m z (sortS_mem.mp hz))
    omega
  have W0o : ∀ z ∈ sortS (wordsOf p.hs), NameOk z := fun z hz => words_ok pok.hs z (sortS_mem.mp hz)
  have W0n := sortS_nodup (wordsOf p.hs)
  generalize sortS (wordsOf p.hs) = W0 at W0l W0o W0n
  array_get_dec
  refine ⟨W0, rfl, by omega, fun z hz hn => ?_⟩
  array_get_dec
  refine ⟨by rw [List.length_map]; simp; omega, ?_⟩
  rw [show (List.map D.str W0 ++ [D.str z]) = (W0 ++ [z]).map D.str by rw [List.map_append]; rfl]
  obtain ⟨W, hW, Wl, Wl1, Wo, Wn⟩ : ∃ W : List Str, W0 ++ [z] = W ∧ W.length ≤ 6 ∧ 1 ≤ W.length ∧ (∀ z ∈ W, NameOk z) ∧ W.Nodup := by
    refine ⟨_, rfl, by simp; omega, by simp, fun y hy => ?_, ?_⟩
    · rcases List.mem_append.mp hy with h | h
      · exact W0o y h
      · rw [List.mem_singleton.mp h]; exact hz
    · rw [List.nodup_append]
      exact ⟨W0n, by simp, fun a ha b hb e => hn (by rw [List.mem_singleton.mp hb] at e; rw [← e]; exact ha)⟩
  rw [hW]
  refine ⟨3, rfl, by decide, by decide, fun d d0 d1 => ?_⟩
  array_get_dec
  refine ⟨_, rfl, by omega, by omega, fun sg sgl _ sgo => ?_⟩
  array_get_dec
  intro l
  array_get_dec
  refine ⟨m, rfl, by omega, by omega, fun e e0 e1 => ?_⟩
  array_get_dec
  refine ⟨_, rfl, by omega, by omega, fun ns nl nnd nok => ?_⟩
  array_get_dec
  refine aLoop_inv (fun i env => ∃ (u1 u2 u3 u4 u5 u6 u7 : Option B) (rows : List Rw), env = [some .pool, some (.st (planD p)), some (.st (.int m)), some (.st (.lst (W.map D.str))), some (.st (.lst (sg.map D.str))), some (.ow l (.lst (rows.map Rw.d))), u1, u2, u3, u4, u5, u6, u7] ∧ rows.map Rw.nm = ns.take i ∧ ∀ r ∈ rows, RwOk r) ⟨_, _, _, _, _, _, _, [], rfl, rfl, fun r h => (by cases h)⟩ ?_ ?_
  · rintro i x env R hx ⟨u1, u2, u3, u4, u5, u6, u7, rows, rfl, hrn, rok⟩ hR
    obtain ⟨y, hy, rfl⟩ := strB_at hx
    have hi : i < ns.length := (List.getElem?_eq_some_iff.mp hy).1
    have yok := nok y (List.mem_of_getElem? hy)
    have rl : rows.length = i := by
      have := congrArg List.length hrn
      rw [List.length_map, List.length_take] at this
      omega
    array_get_dec
    refine ⟨3, rfl, by decide, by decide, fun kd k0 k1 => ⟨2, rfl, by decide, by decide, fun po p0 p1 => ?_⟩⟩
    array_get_dec
    refine ⟨9, rfl, by decide, by decide, fun ca ca0 ca1 => ⟨1000, rfl, by decide, by decide, fun cb cb0 cb1 => ⟨5, rfl, by decide, by decide, fun cc cc0 cc1 => ?_⟩⟩⟩
    array_get_dec
    obtain ⟨N, hN, N0, N1⟩ : ∃ N : Int, atI [D.int ca, D.int cb] (if decide (cc = 0) = true then 1 else 0) = some (D.int N) ∧ 0 ≤ N ∧ N < 1000 := by
      by_cases h : cc = 0
      · rw [decide_eq_true h, if_pos rfl]
        exact ⟨cb, rfl, by omega, by omega⟩
      · rw [decide_eq_false h, if_neg Bool.false_ne_true]
        exact ⟨ca, rfl, by omega, by omega⟩
    refine ⟨_, hN, ?_⟩
    array_get_dec
    refine ⟨fun env => ∃ sm : List Str, env = [some .pool, some (.st (planD p)), some (.st (.int m)), some (.st (.lst (W.map D.str))), some (.st (.lst (sg.map D.str))), some (.ow l (.lst (rows.map Rw.d))), some (.st (.str y)), some (.st (.int kd)), some (.st (.int po)), some (.st (.int (1 + N))), some (.st (.lst (sm.map D.str))), u6, u7] ∧ sm.Sublist W ∧ 1 ≤ sm.length, ?_, ?_⟩
    · array_get_dec
      refine ⟨by rw [List.length_map, List.length_map]; omega, ?_⟩
      refine aCol_inv (fun k acc => ∃ sm : List Str, acc = sm.map D.str ∧ sm.Sublist (W.take k)) ⟨[], rfl, List.Sublist.refl _⟩ ?_ ?_
      · rintro k x acc S hx ⟨sm, rfl, hsb⟩ hS
        obtain ⟨z, hz, rfl⟩ := strB_at hx
        array_get_dec
        refine ⟨2, rfl, by decide, by decide, fun d d0 d1 => ?_⟩
        array_get_dec
        refine ifB_dec (fun c => ?_) (fun c => ?_)
        · refine hS _ ⟨sm ++ [z], by rw [List.map_append]; rfl, ?_⟩
          rw [take_next hz]
          exact hsb.append (List.Sublist.refl _)
        · refine hS _ ⟨sm, rfl, ?_⟩
          rw [take_next hz]
          exact hsb.trans (List.sublist_append_left _ _)
      · rintro acc ⟨sm, rfl, hsb⟩
        rw [List.length_map, List.length_map, List.take_length] at hsb
        array_get_dec
        refine ifB_both (fun c => ?_) (fun c => ?_)
        · refine ⟨sm, rfl, hsb, ?_⟩
          cases sm with
          | nil => cases c
          | cons _ _ => simp
        · refine ⟨_, .inl rfl, by rw [List.length_map]; omega, by rw [List.length_map]; omega, fun j d hd => ?_⟩
          obtain ⟨z, hz, rfl⟩ := map_at hd
          exact ⟨[z], rfl, List.singleton_sublist.mpr (List.mem_of_getElem? hz), by simp⟩
    · rintro env ⟨sm, rfl, hsb, s1⟩
      have sl := hsb.length_le
      have snd := hsb.nodup Wn
      have sok : ∀ z ∈ sm, NameOk z := fun z hz => Wo z (hsb.subset hz)
      have next : ∀ r : Rw, r.nm = y → RwOk r → (rows ++ [r]).map Rw.nm = ns.take (i + 1) ∧ ∀ r' ∈ rows ++ [r], RwOk r' := fun r e ok => by
        refine ⟨by rw [List.map_append, hrn, take_next hy]; simp [e], fun r' hr => ?_⟩
        rcases List.mem_append.mp hr with h | h
        · exact rok r' h
        · rw [List.mem_singleton.mp h]; exact ok
      array_get_dec
      refine ifB_dec (fun c => ?_) (fun c => ?_)
      · obtain ⟨h1, h2⟩ := next (.lock y po sm (1 + N)) rfl ⟨yok, ⟨p0, by show po ≤ 1; omega⟩, ⟨by show 1 ≤ 1 + N; omega, by show 1 + N ≤ 1000; omega⟩, ⟨s1, by show sm.length ≤ 6; omega⟩, snd, sok, fun _ _ _ _ e => by cases e⟩
        refine ⟨by rw [List.length_map]; omega, hR _ ⟨_, _, _, _, _, _, _, rows ++ [.lock y po sm (1 + N)], by rw [List.map_append]; rfl, h1, h2⟩⟩
      · array_get_dec
        intro o
        array_get_dec
        refine aLoop_inv (fun j env => ∃ (u7 : Option B) (zs : ZZ), env = [some .pool, some (.st (planD p)), some (.st (.int m)), some (.st (.lst (W.map D.str))), some (.st (.lst (sg.map D.str))), some (.ow l (.lst (rows.map Rw.d))), some (.st (.str y)), some (.st (.int kd)), some (.st (.int po)), some (.st (.int (1 + N))), some (.st (.lst (sm.map D.str))), some (.ow o (.dK (zD zs))), u7] ∧ zs.map (·.1) = sm.take j ∧ ∀ q ∈ zs, NameOk q.2) ⟨_, [], rfl, rfl, fun r h => (by cases h)⟩ ?_ ?_
        · rintro j x env S hx ⟨u7, zs, rfl, hzn, zok⟩ hS
          obtain ⟨z, hz, rfl⟩ := strB_at hx
          have hj : j < sm.length := (List.getElem?_eq_some_iff.mp hz).1
          have zl : zs.length = j := by
            have := congrArg List.length hzn
            rw [List.length_map, List.length_take] at this
            omega
          array_get_dec
          refine ⟨_, .inl rfl, by rw [List.length_map]; omega, by rw [List.length_map]; omega, fun j d hd => ?_⟩
          obtain ⟨g, hg, rfl⟩ := map_at hd
          array_get_dec
          refine ⟨by unfold zD; rw [List.length_map]; omega, ?_⟩
          rw [zD_put (by rw [hzn]; exact not_before snd hz)]
          refine hS _ ⟨_, _, rfl, ?_, fun q hq => ?_⟩
          · rw [List.map_append, hzn, take_next hz]
            rfl
          · rcases List.mem_append.mp hq with h | h
            · exact zok q h
            · rw [List.mem_singleton.mp h]; exact sgo g (List.mem_of_getElem? hg)
        · rintro env ⟨u7, zs, rfl, hzn, zok⟩
          rw [List.length_map, List.length_map, List.take_length] at hzn
          have zl : zs.length = sm.length := by
            have := congrArg List.length hzn
            rwa [List.length_map] at this
          obtain ⟨h1, h2⟩ := next (.sens y po zs (1 + N)) rfl ⟨yok, ⟨p0, by show po ≤ 1; omega⟩, ⟨by show 1 ≤ 1 + N; omega, by show 1 + N ≤ 1000; omega⟩, by show 1 ≤ (zs.map (·.1)).length ∧ (zs.map (·.1)).length ≤ 6; rw [hzn]; exact ⟨s1, by omega⟩, by show (zs.map (·.1)).Nodup; rw [hzn]; exact snd, by show ∀ z ∈ zs.map (·.1), NameOk z; rw [hzn]; exact sok, fun _ _ _ _ e => by cases e; exact zok⟩
          array_get_dec
          refine ⟨by rw [List.length_map]; omega, hR _ ⟨_, _, _, _, _, _, _, rows ++ [.sens y po zs (1 + N)], by rw [List.map_append]; rfl, h1, h2⟩⟩
  · rintro env ⟨u1, u2, u3, u4, u5, u6, u7, rows, rfl, hrn, rok⟩
    rw [List.length_map, List.length_map, List.take_length] at hrn
    array_get_dec
    have rl : rows.length = ns.length := by
      have := congrArg List.length hrn
      rwa [List.length_map] at this
    exact q rows (by omega) (by omega) ⟨by rw [hrn]; exact nnd, rok⟩
end
end WW

set_option Elab.async false
set_option linter.all false
set_option maxRecDepth 100000
set_option maxHeartbeats 4000000
namespace WW
open PySem PySem.Spec PyProof.Rows L2
local macro_rules | `(tactic| array_mem_dec) => `(tactic| try dsimp only [slot, aVar, aC, aOp, ifB_t, ifB_f, aTest, aAnd, aOr, aNot, aAndV, aOrT, aOrV, aNotV, aIfE, aChain, aNil, aCons, aName, aGNil, aGCons, aGTup, aNext, aIf, aRet, aRetO, aRetN, aDrop, aAsg, aNew, aPar, aParN, aPar3, frz, aFz, aNever, aLoop, aFor, aCol, aLc, aYes, fAdd, fSub, fMul, fMod, fDiv, fPow, fLt, fLe, fGt, fGe, fI, fIc, fCatS, fLtS, eqD, fEq, fNe, fIsN, fNotN, aFn1, fNeg, fLen, fInt, fAbs, fAll, fAny, aFn2, fMax, truD, aTru, aIxL, aIxT, aIxQ, fIxS, stabs, aTup, aLst, aFix, B.solid, B.get, B.sub, aCat, aListOf, aTupOf, aONone, aOSome, aSlL, aRevL, aSortSet, aListAny, aListDK, aCopyD, aLenSet, aSortDK, aSortS, aRetNw, aMethN, aEi, aIQ, aDgN, aDget, aDgetN, fDin, fDnin, aDnew, aDput, fLenD, D.key, aFld, aProp, aMeth, aMeth0, putFD, aSetF, aMake, aMake0, aRaise, isIn, isBo, isS, isL, isT, isDi, isRow, isNo, knD, aIs, aIsRow, D.fl, fInF, fNinF, fInS, fEqY, fNeY, fEqP, fNeP, fInP, fNinP, aLcK, aDc, aIE, aIS, aTry, aHand, aXf, aXis, aIL, aICL, aIT, aIR1, aIR2, coe1, coes, aCall, aCall0, aApp, awipe, List.set, List.map, List.cons_append, List.nil_append, List.replicate, List.length, Nat.reduceSub, Nat.reduceAdd])
local macro_rules | `(tactic| array_get_dec) => `(tactic| (array_mem_dec; repeat (with_reducible refine go_seq ?_; array_mem_dec)))
/-- what is known of the classes of instruments -/
structure InsT (K : PySem.W.Frag) (mg : Str → Option Value) (CI CS CL pN pP gN gP : Addr) (fdN fdP : FuncData) : Prop where
  gI : mg "Instrument" = some (.ref CI)
  gS : mg "Sensor" = some (.ref CS)
  gL : mg "Lock" = some (.ref CL)
  kS : Kl K CS
  kL : Kl K CL
  noI : NoB K CI
  noS : NoB K CS
  iSI : PySem.W.kitOne K (.ref CS) (.ref CI) = some true
  iLI : PySem.W.kitOne K (.ref CL) (.ref CI) = some true
  iSS : PySem.W.kitOne K (.ref CS) (.ref CS) = some true
  iLS : PySem.W.kitOne K (.ref CL) (.ref CS) = some false
  pNS : PropOf K CS "name" pN gN
  pNL : PropOf K CL "name" pN gN
  pPS : PropOf K CS "post" pP gP
  pPL : PropOf K CL "post" pP gP
  bN : Binds K fdN ["self"] []
  bP : Binds K fdP ["self"] []
theorem Kl.ck {K : PySem.W.Frag} {C : Addr} (k : Kl K C) : ClK K C := ⟨k.cl, k.ic⟩
/-- the instrument of a row -/
def insD (CS CL : Addr) : Rw → D
  | .lock n p ws c => .obj CL (lokF n p c ws)
  | .sens n p zs c => .obj CS (senF n p c zs)
/-- the row of a name -/
def rowAt (rows : List Rw) (n : Str) : Rw := (rows.find? fun r => decide (r.nm = n)).getD (.lock n 0 [] 0)
theorem rowAt_mem {rows : List Rw} (nd : (rows.map Rw.nm).Nodup) {r : Rw} (h : r ∈ rows) : rowAt rows r.nm = r := by
  unfold rowAt
  induction rows with
  | nil => simp at h
  | cons q s ih =>
    rw [List.map_cons, List.nodup_cons] at nd
    rw [List.find?_cons]
    rcases List.mem_cons.mp h with rfl | h
    · simp
    · have hne : ¬ q.nm = r.nm := fun e => nd.1 (by rw [e]; exact List.mem_map.mpr ⟨r, h, rfl⟩)
      simp only [hne, decide_false]
      exact ih nd.2 h
def namesS (rows : List Rw) : List Str := (rows.map Rw.nm).mergeSort leS
def shelfD (CS CL : Addr) (rows : List Rw) : List (Key × D) := (namesS rows).map fun n => (Sum.inr n, insD CS CL (rowAt rows n))
def keptD (CS CL : Addr) (rows : List Rw) : List (Key × D) := rows.map fun r => (Sum.inr r.nm, insD CS CL r)
theorem names_mem {rows : List Rw} {n : Str} : n ∈ namesS rows ↔ n ∈ rows.map Rw.nm := (List.mergeSort_perm _ _).mem_iff
theorem names_nd {rows : List Rw} (h : (rows.map Rw.nm).Nodup) : (namesS rows).Nodup := (List.mergeSort_perm _ _).nodup_iff.mpr h
theorem names_len (rows : List Rw) : (namesS rows).length = rows.length := by
  unfold namesS
  rw [List.length_mergeSort, List.length_map]
theorem kept_keys (CS CL : Addr) (rows : List Rw) : (keptD CS CL rows).map (·.1) = (rows.map Rw.nm).map Sum.inr := by
  unfold keptD
  rw [List.map_map, List.map_map]
  rfl
theorem inr_nd {l : List Str} (h : l.Nodup) : (l.map (Sum.inr : Str → Key)).Nodup := List.pairwise_map.mpr (h.imp fun {a b} n e => n (Sum.inr.inj e))
theorem kept_val {CS CL : Addr} {rows : List Rw} (nd : (rows.map Rw.nm).Nodup) {r : Rw} (h : r ∈ rows) : valD (keptD CS CL rows) (Sum.inr r.nm) = some (insD CS CL r) := by
  refine valD_mem ?_ (List.mem_map.mpr ⟨r, h, rfl⟩)
  rw [kept_keys]
  exact inr_nd nd
theorem kept_put {CS CL : Addr} {rows : List Rw} {r : Rw} (h : r.nm ∉ rows.map Rw.nm) : putD (keptD CS CL rows) (Sum.inr r.nm) (insD CS CL r) = keptD CS CL (rows ++ [r]) := by
  rw [putD_new]
  · unfold keptD
    rw [List.map_append]
    rfl
  · rw [kept_keys]
    intro c
    obtain ⟨q, hq, e⟩ := List.mem_map.mp c
    exact h (by rw [← Sum.inr.inj e]; exact hq)
theorem kept_none {CS CL : Addr} {rows : List Rw} {n : Str} (h : n ∉ rows.map Rw.nm) : valD (keptD CS CL rows) (Sum.inr n) = none := by
  refine valD_none ?_
  rw [kept_keys]
  intro c
  obtain ⟨q, hq, e⟩ := List.mem_map.mp c
  exact h (by rw [← Sum.inr.inj e]; exact hq)
theorem shelf_val {CS CL : Addr} {rows : List Rw} (nd : (rows.map Rw.nm).Nodup) {r : Rw} (h : r ∈ rows) : valD (shelfD CS CL rows) (Sum.inr r.nm) = some (insD CS CL r) := by
  have := valD_mem (kds := shelfD CS CL rows) (k := Sum.inr r.nm) (d := insD CS CL (rowAt rows r.nm)) (by
    unfold shelfD
    rw [List.map_map]
    exact inr_nd (names_nd nd)) (List.mem_map.mpr ⟨r.nm, names_mem.mpr (List.mem_map.mpr ⟨r, h, rfl⟩), rfl⟩)
  rw [rowAt_mem nd h] at this
  exact this
section
variable {P : Program} {w : World} {K : PySem.W.Frag} {mg : Str → Option Value} {base : Heap} {CI CS CL pN pP gN gP : Addr} {fdN fdP : FuncData}
/-- a property that tells a field -/
def spFldP (K : PySem.W.Frag) (f : Str) : ASp := fun bs Q _ => ∃ (C : Addr) (fs : List (Str × D)) (d : D), bs = [.st (.obj C fs)] ∧ Cls K C ∧ NoAttr K C f ∧ fs.lookup f = some d ∧ Q d
theorem ok_nameP {f : Addr} {fd : FuncData} (F : Fun K "name" "Instrument.name" sInstrument_name f fd) : FnOk P w K mg base CX0 1 f fd ["self"] (cSp K (spFldP K "title")) := by
  refine F.ok scInstrument_name (fun vs H Q E h => cSp_len (fun bs Q X h => by obtain ⟨n, p, c, rfl, _⟩ := h; rfl) h) (fun cdv A outer s H vs Q E hr h => ?_)
  refine ⟨_, (pss_one (ps_ret (pe_fld (pv 0) rfl))), ?_⟩
  refine fn_A ((sa_ret (ea_fld (ea_var 0)))) h fun bs Qa Xa h => ?_
  obtain ⟨C, fs, d, rfl, cl, na, hd, q⟩ := h
  array_get_dec
  exact ⟨cl, na, d, hd, q⟩
theorem ok_postP {f : Addr} {fd : FuncData} (F : Fun K "post" "Instrument.post" sInstrument_post f fd) : FnOk P w K mg base CX0 1 f fd ["self"] (cSp K (spFldP K "place")) := by
  refine F.ok scInstrument_post (fun vs H Q E h => cSp_len (fun bs Q X h => by obtain ⟨n, p, c, rfl, _⟩ := h; rfl) h) (fun cdv A outer s H vs Q E hr h => ?_)
  refine ⟨_, (pss_one (ps_ret (pe_fld (pv 0) rfl))), ?_⟩
  refine fn_A ((sa_ret (ea_fld (ea_var 0)))) h fun bs Qa Xa h => ?_
  obtain ⟨C, fs, d, rfl, cl, na, hd, q⟩ := h
  array_get_dec
  exact ⟨cl, na, d, hd, q⟩
/-- one.name -/
theorem name_of (kI : InsT K mg CI CS CL pN pP gN gP fdN fdP) {i : Nat} {ax : AX} {env : AEnv} {Q : B → Prop} {r : Rw} (hs : slot env i = some (.st (insD CS CL r))) (q : Q (.st (.str r.nm))) :
    aEi (aProp CS (spFldP K "title") false (aVar i)) (aProp CL (spFldP K "title") false (aVar i)) ax env Q := by
  cases r with
  | lock n p ws c =>
    right
    unfold aProp aVar
    rw [hs]
    exact ⟨rfl, CL, _, _, rfl, kI.kL.cl, kI.kL.nT, rfl, q⟩
  | sens n p zs c =>
    left
    unfold aProp aVar
    rw [hs]
    exact ⟨rfl, CS, _, _, rfl, kI.kS.cl, kI.kS.nT, rfl, q⟩
theorem post_of (kI : InsT K mg CI CS CL pN pP gN gP fdN fdP) {i : Nat} {ax : AX} {env : AEnv} {Q : B → Prop} {r : Rw} (hs : slot env i = some (.st (insD CS CL r))) (q : Q (.st (.int r.po))) :
    aEi (aProp CS (spFldP K "place") false (aVar i)) (aProp CL (spFldP K "place") false (aVar i)) ax env Q := by
  cases r with
  | lock n p ws c =>
    right
    unfold aProp aVar
    rw [hs]
    exact ⟨rfl, CL, _, _, rfl, kI.kL.cl, kI.kL.nP, rfl, q⟩
  | sens n p zs c =>
    left
    unfold aProp aVar
    rw [hs]
    exact ⟨rfl, CS, _, _, rfl, kI.kS.cl, kI.kS.nP, rfl, q⟩
theorem isI_of (kI : InsT K mg CI CS CL pN pP gN gP fdN fdP) {i : Nat} {ax : AX} {env : AEnv} {Q : B → Prop} {r : Rw} (hs : slot env i = some (.st (insD CS CL r))) (q : Q (.st (.bl true))) : aIs K (.ref CI) isNo (aVar i) ax env Q := by
  unfold aIs aVar
  rw [hs]
  cases r with
  | lock n p ws c => exact ⟨kI.kL.ck, true, kI.iLI, q⟩
  | sens n p zs c => exact ⟨kI.kS.ck, true, kI.iSI, q⟩
abbrev sGood_instruments : Stmt := topS 29
abbrev nGood_instruments : List Str := ["instruments", "kept", "at", "one", "name"]
theorem scGood_instruments : FnScope nGood_instruments ["instruments"] (defScope sGood_instruments) := ⟨rfl, rfl, rfl, by decide +kernel, rfl, by decide +kernel, by decide +kernel⟩
def spGoodI (CS CL : Addr) : ASp := fun bs Q _ => ∃ rows : List Rw, bs = [.st (.lst (rows.map (insD CS CL)))] ∧ RwsOk rows ∧ 1 ≤ rows.length ∧ rows.length ≤ 6 ∧ Q (.dK (shelfD CS CL rows))
theorem ok_goodI (kI : InsT K mg CI CS CL pN pP gN gP fdN fdP) (GNm : FnOk P w K mg base CX0 1 gN fdN ["self"] (cSp K (spFldP K "title"))) (DGood_instruments : Df K mg "good_instruments" sGood_instruments ["instruments"] fGood_instruments fdGood_instruments) (DIs_row : Df K mg "is_row" sIs_row ["thing"] fIs_row fdIs_row) (GIs_row : FnOk P w K mg base CX0 1 fIs_row fdIs_row ["thing"] (cSp K spRowA)) (T : Bl mg) (hMI : mg "MOST_INSTRUMENTS" = some (.int 6 tok)) : FnOk P w K mg base CX0 3 fGood_instruments fdGood_instruments ["instruments"] (cSp K (spGoodI CS CL)) := by
  refine DGood_instruments.fn.ok scGood_instruments (fun vs H Q E h => cSp_len (fun bs Q X h => by obtain ⟨n, rfl, _⟩ := h; rfl) h) (fun cdv A outer s H vs Q E hr h => ?_)
  refine ⟨_, (pss_cons (ps_if (PW.pt (pw_or (pt_not (pt_val (pe_df DIs_row GIs_row (hr.mono (by decide)) (pa_cons (pv 0) pa_nil)))) (pw_or1 (pt_not (pt_chain op_le op_le pe_int (pe_callB call_len (by rfl) T.len (by decide +kernel) (pa_cons (pv 0) pa_nil)) (pe_glob (v := .int 6) (by rfl) hMI ⟨_, rfl⟩)))))) (pss_one ps_never) pss_nil)
      (pss_cons (ps_set (i := 1) scGood_instruments.nd rfl (Or.inr rfl) pe_dnewK)
      (pss_cons (ps_for PassesOwn.never rfl (pi_enumD (by rfl) T.enumerate (pa_cons (pv 0) pa_nil)) (pg_tup rfl (pgs_cons (pg_name (i := 2) scGood_instruments.nd rfl (Or.inl rfl)) (pgs_cons (pg_name (i := 3) scGood_instruments.nd rfl (Or.inl rfl)) pgs_nil))) (pss_cons (ps_if (PW.pt (pw_or (pt_not (pt_val (pe_callB call_isi (by rfl) T.isinstance (by decide +kernel) (pa_cons (pv 3) (pa_cons (pe_glob (v := .ref CI) (by rfl) kI.gI rfl) pa_nil))))) (pw_or1 (pt_cmp (pc_din (hu1 hr) (pe_ei (pe_prop (pv 3) kI.kS.cl kI.pNS GNm (hr.mono (by decide)) kI.bN .nil pass0 rfl) (pe_prop (pv 3) kI.kL.cl kI.pNL GNm (hr.mono (by decide)) kI.bN .nil pass0 rfl)) (pv 1)))))) (pss_one ps_never) pss_nil)
      (pss_one (ps_dput (hu1 hr) (pv 1) (pe_ei (pe_prop (pv 3) kI.kS.cl kI.pNS GNm (hr.mono (by decide)) kI.bN .nil pass0 rfl) (pe_prop (pv 3) kI.kL.cl kI.pNL GNm (hr.mono (by decide)) kI.bN .nil pass0 rfl)) (pv 3) (by rfl)))))
      (pss_one (ps_ret (pe_dc (own := [("name", 4)]) rfl scGood_instruments.nd (pi_list (pe_callB (call_sortedD rfl) (by rfl) T.sorted (by decide +kernel) (pa_cons (pv 1) pa_nil))) (blkOk_by (own := [("name", 4)]) (N := nGood_instruments) (sc := defScope sGood_instruments) (by decide +kernel)) (fun _ _ _ _ _ => (pg_name (i := 4) scGood_instruments.nd rfl (Or.inl rfl))) (fun _ _ _ _ _ => pts_nil) (fun _ _ _ _ _ => (pv 4)) (fun _ _ _ _ _ => (pe_dget (hu1 hr) (pv 1) (pv 4) (fun _ _ => rfl))))))))), ?_⟩
  refine fn_A ((sa_seq (sa_if (et_or (et_not (et_B (ea_call [] (el_cons (ea_var 0) el_nil)))) (et_not (et_test (ea_chain r2_le r2_le ea_cI (ea_b1 rc_len (ea_var 0)) ea_cI)))) sa_never sa_next)
      (sa_seq (sa_new 1 en_dnew)
      (sa_seq (sa_for (ei_enum (ea_var 0)) (ga_tup (n := 2) (js := [2, 3]) (gas_cons (ga_name (js := [2, 3]) 2) (gas_cons (ga_name (js := [2, 3]) 3) gas_nil))) (sa_seq (sa_if (et_or (et_not (et_B (ea_isO kI.noI (ea_var 3)))) (et_B (ea_din (ea_ei (ea_prop false (ea_var 3)) (ea_prop false (ea_var 3))) (ea_var 1)))) sa_never sa_next)
      (sa_dput 1 (ea_ei (ea_prop false (ea_var 3)) (ea_prop false (ea_var 3))) (ea_var 3))))
      (sa_ret (ea_fix (en_dc (ec_list (ea_fix (en_sortDK (ea_var 1)))) (ga_name (js := [4]) 4) et_yes (ea_var 4) (ea_dget (ea_var 1) (ea_var 4))))))))) h fun bs Qa Xa h => ?_
  obtain ⟨rows, rfl, rok, r1, r2, q⟩ := h
  have hl : (rows.map (insD CS CL)).length = rows.length := List.length_map ..
  array_get_dec
  refine ⟨_, .inl rfl, thg_lst _, ?_⟩
  unfold dRow
  array_get_dec
  rw [hl, decide_eq_true (show (1 : Int) ≤ (rows.length : Int) by omega)]
  array_get_dec
  rw [decide_eq_true (show (rows.length : Int) ≤ 6 by omega)]
  array_get_dec
  intro o
  array_get_dec
  refine aLoop_inv (fun i env => ∃ u v, env = [some (.st (.lst (rows.map (insD CS CL)))), some (.ow o (.dK (keptD CS CL (rows.take i)))), u, v, none]) ⟨_, _, rfl⟩ ?_ ?_
  · rintro i x env R hx ⟨u, v, rfl⟩ hR
    obtain ⟨r, hr2, rfl⟩ : ∃ r, rows[i]? = some r ∧ x = .st (.tup [.int (i : Nat), insD CS CL r]) := by
      have hi := (List.getElem?_eq_some_iff.mp hx).1
      rw [enumB_len, hl] at hi
      have e := enumB_get (rows.map (insD CS CL)) 0 i (insD CS CL rows[i]) (by rw [List.getElem?_map, List.getElem?_eq_getElem hi]; rfl)
      rw [hx, Nat.zero_add] at e
      exact ⟨rows[i], List.getElem?_eq_getElem hi, Option.some.inj e⟩
    have hn : r.nm ∉ (rows.take i).map Rw.nm := by
      have := not_before (ts := rows.map Rw.nm) rok.nd (i := i) (t := r.nm) (by rw [List.getElem?_map, hr2]; rfl)
      rwa [← List.map_take] at this
    have hi : i < rows.length := (List.getElem?_eq_some_iff.mp hr2).1
    (try dsimp only [slot, aVar, aC, aOp, ifB_t, ifB_f, aTest, aAnd, aOr, aNot, aAndV, aOrT, aOrV, aNotV, aIfE, aChain, aNil, aCons, aName, aGNil, aGCons, aGTup, aNext, aIf, aRet, aRetO, aRetN, aDrop, aAsg, aNew, aPar, aParN, aPar3, frz, aFz, aNever, aLoop, aFor, aCol, aLc, aYes, fAdd, fSub, fMul, fMod, fDiv, fPow, fLt, fLe, fGt, fGe, fI, fIc, fCatS, fLtS, eqD, fEq, fNe, fIsN, fNotN, aFn1, fNeg, fLen, fInt, fAbs, fAll, fAny, aFn2, fMax, truD, aTru, aIxL, aIxT, aIxQ, fIxS, stabs, aTup, aLst, aFix, B.solid, B.get, B.sub, aCat, aListOf, aTupOf, aONone, aOSome, aSlL, aRevL, aSortSet, aListAny, aListDK, aCopyD, aLenSet, aSortDK, aSortS, aRetNw, aMethN, aIQ, aDgN, aDget, aDgetN, fDin, fDnin, aDnew, aDput, fLenD, D.key, aFld, aMeth, aMeth0, putFD, aSetF, aMake, aMake0, aRaise, isIn, isBo, isS, isL, isT, isDi, isRow, isNo, knD, aIsRow, D.fl, fInF, fNinF, fInS, fEqY, fNeY, fEqP, fNeP, fInP, fNinP, aLcK, aDc, aIE, aIS, aTry, aHand, aXf, aXis, aIL, aICL, aIT, aIR1, aIR2, coe1, coes, aCall, aCall0, aApp, awipe, List.set, List.map, List.cons_append, List.nil_append, List.replicate, List.length, Nat.reduceSub, Nat.reduceAdd]); repeat (with_reducible refine go_seq ?_; try dsimp only [slot, aVar, aC, aOp, ifB_t, ifB_f, aTest, aAnd, aOr, aNot, aAndV, aOrT, aOrV, aNotV, aIfE, aChain, aNil, aCons, aName, aGNil, aGCons, aGTup, aNext, aIf, aRet, aRetO, aRetN, aDrop, aAsg, aNew, aPar, aParN, aPar3, frz, aFz, aNever, aLoop, aFor, aCol, aLc, aYes, fAdd, fSub, fMul, fMod, fDiv, fPow, fLt, fLe, fGt, fGe, fI, fIc, fCatS, fLtS, eqD, fEq, fNe, fIsN, fNotN, aFn1, fNeg, fLen, fInt, fAbs, fAll, fAny, aFn2, fMax, truD, aTru, aIxL, aIxT, aIxQ, fIxS, stabs, aTup, aLst, aFix, B.solid, B.get, B.sub, aCat, aListOf, aTupOf, aONone, aOSome, aSlL, aRevL, aSortSet, aListAny, aListDK, aCopyD, aLenSet, aSortDK, aSortS, aRetNw, aMethN, aIQ, aDgN, aDget, aDgetN, fDin, fDnin, aDnew, aDput, fLenD, D.key, aFld, aMeth, aMeth0, putFD, aSetF, aMake, aMake0, aRaise, isIn, isBo, isS, isL, isT, isDi, isRow, isNo, knD, aIsRow, D.fl, fInF, fNinF, fInS, fEqY, fNeY, fEqP, fNeP, fInP, fNinP, aLcK, aDc, aIE, aIS, aTry, aHand, aXf, aXis, aIL, aICL, aIT, aIR1, aIR2, coe1, coes, aCall, aCall0, aApp, awipe, List.set, List.map, List.cons_append, List.nil_append, List.replicate, List.length, Nat.reduceSub, Nat.reduceAdd])
    refine ⟨rfl, ?_⟩
    (try dsimp only [slot, aVar, aC, aOp, ifB_t, ifB_f, aTest, aAnd, aOr, aNot, aAndV, aOrT, aOrV, aNotV, aIfE, aChain, aNil, aCons, aName, aGNil, aGCons, aGTup, aNext, aIf, aRet, aRetO, aRetN, aDrop, aAsg, aNew, aPar, aParN, aPar3, frz, aFz, aNever, aLoop, aFor, aCol, aLc, aYes, fAdd, fSub, fMul, fMod, fDiv, fPow, fLt, fLe, fGt, fGe, fI, fIc, fCatS, fLtS, eqD, fEq, fNe, fIsN, fNotN, aFn1, fNeg, fLen, fInt, fAbs, fAll, fAny, aFn2, fMax, truD, aTru, aIxL, aIxT, aIxQ, fIxS, stabs, aTup, aLst, aFix, B.solid, B.get, B.sub, aCat, aListOf, aTupOf, aONone, aOSome, aSlL, aRevL, aSortSet, aListAny, aListDK, aCopyD, aLenSet, aSortDK, aSortS, aRetNw, aMethN, aIQ, aDgN, aDget, aDgetN, fDin, fDnin, aDnew, aDput, fLenD, D.key, aFld, aMeth, aMeth0, putFD, aSetF, aMake, aMake0, aRaise, isIn, isBo, isS, isL, isT, isDi, isRow, isNo, knD, aIsRow, D.fl, fInF, fNinF, fInS, fEqY, fNeY, fEqP, fNeP, fInP, fNinP, aLcK, aDc, aIE, aIS, aTry, aHand, aXf, aXis, aIL, aICL, aIT, aIR1, aIR2, coe1, coes, aCall, aCall0, aApp, awipe, List.set, List.map, List.cons_append, List.nil_append, List.replicate, List.length, Nat.reduceSub, Nat.reduceAdd]); repeat (with_reducible refine go_seq ?_; try dsimp only [slot, aVar, aC, aOp, ifB_t, ifB_f, aTest, aAnd, aOr, aNot, aAndV, aOrT, aOrV, aNotV, aIfE, aChain, aNil, aCons, aName, aGNil, aGCons, aGTup, aNext, aIf, aRet, aRetO, aRetN, aDrop, aAsg, aNew, aPar, aParN, aPar3, frz, aFz, aNever, aLoop, aFor, aCol, aLc, aYes, fAdd, fSub, fMul, fMod, fDiv, fPow, fLt, fLe, fGt, fGe, fI, fIc, fCatS, fLtS, eqD, fEq, fNe, fIsN, fNotN, aFn1, fNeg, fLen, fInt, fAbs, fAll, fAny, aFn2, fMax, truD, aTru, aIxL, aIxT, aIxQ, fIxS, stabs, aTup, aLst, aFix, B.solid, B.get, B.sub, aCat, aListOf, aTupOf, aONone, aOSome, aSlL, aRevL, aSortSet, aListAny, aListDK, aCopyD, aLenSet, aSortDK, aSortS, aRetNw, aMethN, aIQ, aDgN, aDget, aDgetN, fDin, fDnin, aDnew, aDput, fLenD, D.key, aFld, aMeth, aMeth0, putFD, aSetF, aMake, aMake0, aRaise, isIn, isBo, isS, isL, isT, isDi, isRow, isNo, knD, aIsRow, D.fl, fInF, fNinF, fInS, fEqY, fNeY, fEqP, fNeP, fInP, fNinP, aLcK, aDc, aIE, aIS, aTry, aHand, aXf, aXis, aIL, aICL, aIT, aIR1, aIR2, coe1, coes, aCall, aCall0, aApp, awipe, List.set, List.map, List.cons_append, List.nil_append, List.replicate, List.length, Nat.reduceSub, Nat.reduceAdd])
    refine isI_of kI rfl ?_
    (try dsimp only [slot, aVar, aC, aOp, ifB_t, ifB_f, aTest, aAnd, aOr, aNot, aAndV, aOrT, aOrV, aNotV, aIfE, aChain, aNil, aCons, aName, aGNil, aGCons, aGTup, aNext, aIf, aRet, aRetO, aRetN, aDrop, aAsg, aNew, aPar, aParN, aPar3, frz, aFz, aNever, aLoop, aFor, aCol, aLc, aYes, fAdd, fSub, fMul, fMod, fDiv, fPow, fLt, fLe, fGt, fGe, fI, fIc, fCatS, fLtS, eqD, fEq, fNe, fIsN, fNotN, aFn1, fNeg, fLen, fInt, fAbs, fAll, fAny, aFn2, fMax, truD, aTru, aIxL, aIxT, aIxQ, fIxS, stabs, aTup, aLst, aFix, B.solid, B.get, B.sub, aCat, aListOf, aTupOf, aONone, aOSome, aSlL, aRevL, aSortSet, aListAny, aListDK, aCopyD, aLenSet, aSortDK, aSortS, aRetNw, aMethN, aIQ, aDgN, aDget, aDgetN, fDin, fDnin, aDnew, aDput, fLenD, D.key, aFld, aMeth, aMeth0, putFD, aSetF, aMake, aMake0, aRaise, isIn, isBo, isS, isL, isT, isDi, isRow, isNo, knD, aIsRow, D.fl, fInF, fNinF, fInS, fEqY, fNeY, fEqP, fNeP, fInP, fNinP, aLcK, aDc, aIE, aIS, aTry, aHand, aXf, aXis, aIL, aICL, aIT, aIR1, aIR2, coe1, coes, aCall, aCall0, aApp, awipe, List.set, List.map, List.cons_append, List.nil_append, List.replicate, List.length, Nat.reduceSub, Nat.reduceAdd]); repeat (with_reducible refine go_seq ?_; try dsimp only [slot, aVar, aC, aOp, ifB_t, ifB_f, aTest, aAnd, aOr, aNot, aAndV, aOrT, aOrV, aNotV, aIfE, aChain, aNil, aCons, aName, aGNil, aGCons, aGTup, aNext, aIf, aRet, aRetO, aRetN, aDrop, aAsg, aNew, aPar, aParN, aPar3, frz, aFz, aNever, aLoop, aFor, aCol, aLc, aYes, fAdd, fSub, fMul, fMod, fDiv, fPow, fLt, fLe, fGt, fGe, fI, fIc, fCatS, fLtS, eqD, fEq, fNe, fIsN, fNotN, aFn1, fNeg, fLen, fInt, fAbs, fAll, fAny, aFn2, fMax, truD, aTru, aIxL, aIxT, aIxQ, fIxS, stabs, aTup, aLst, aFix, B.solid, B.get, B.sub, aCat, aListOf, aTupOf, aONone, aOSome, aSlL, aRevL, aSortSet, aListAny, aListDK, aCopyD, aLenSet, aSortDK, aSortS, aRetNw, aMethN, aIQ, aDgN, aDget, aDgetN, fDin, fDnin, aDnew, aDput, fLenD, D.key, aFld, aMeth, aMeth0, putFD, aSetF, aMake, aMake0, aRaise, isIn, isBo, isS, isL, isT, isDi, isRow, isNo, knD, aIsRow, D.fl, fInF, fNinF, fInS, fEqY, fNeY, fEqP, fNeP, fInP, fNinP, aLcK, aDc, aIE, aIS, aTry, aHand, aXf, aXis, aIL, aICL, aIT, aIR1, aIR2, coe1, coes, aCall, aCall0, aApp, awipe, List.set, List.map, List.cons_append, List.nil_append, List.replicate, List.length, Nat.reduceSub, Nat.reduceAdd])
    refine name_of kI rfl ?_
    (try dsimp only [slot, aVar, aC, aOp, ifB_t, ifB_f, aTest, aAnd, aOr, aNot, aAndV, aOrT, aOrV, aNotV, aIfE, aChain, aNil, aCons, aName, aGNil, aGCons, aGTup, aNext, aIf, aRet, aRetO, aRetN, aDrop, aAsg, aNew, aPar, aParN, aPar3, frz, aFz, aNever, aLoop, aFor, aCol, aLc, aYes, fAdd, fSub, fMul, fMod, fDiv, fPow, fLt, fLe, fGt, fGe, fI, fIc, fCatS, fLtS, eqD, fEq, fNe, fIsN, fNotN, aFn1, fNeg, fLen, fInt, fAbs, fAll, fAny, aFn2, fMax, truD, aTru, aIxL, aIxT, aIxQ, fIxS, stabs, aTup, aLst, aFix, B.solid, B.get, B.sub, aCat, aListOf, aTupOf, aONone, aOSome, aSlL, aRevL, aSortSet, aListAny, aListDK, aCopyD, aLenSet, aSortDK, aSortS, aRetNw, aMethN, aIQ, aDgN, aDget, aDgetN, fDin, fDnin, aDnew, aDput, fLenD, D.key, aFld, aMeth, aMeth0, putFD, aSetF, aMake, aMake0, aRaise, isIn, isBo, isS, isL, isT, isDi, isRow, isNo, knD, aIsRow, D.fl, fInF, fNinF, fInS, fEqY, fNeY, fEqP, fNeP, fInP, fNinP, aLcK, aDc, aIE, aIS, aTry, aHand, aXf, aXis, aIL, aICL, aIT, aIR1, aIR2, coe1, coes, aCall, aCall0, aApp, awipe, List.set, List.map, List.cons_append, List.nil_append, List.replicate, List.length, Nat.reduceSub, Nat.reduceAdd]); repeat (with_reducible refine go_seq ?_; try dsimp only [slot, aVar, aC, aOp, ifB_t, ifB_f, aTest, aAnd, aOr, aNot, aAndV, aOrT, aOrV, aNotV, aIfE, aChain, aNil, aCons, aName, aGNil, aGCons, aGTup, aNext, aIf, aRet, aRetO, aRetN, aDrop, aAsg, aNew, aPar, aParN, aPar3, frz, aFz, aNever, aLoop, aFor, aCol, aLc, aYes, fAdd, fSub, fMul, fMod, fDiv, fPow, fLt, fLe, fGt, fGe, fI, fIc, fCatS, fLtS, eqD, fEq, fNe, fIsN, fNotN, aFn1, fNeg, fLen, fInt, fAbs, fAll, fAny, aFn2, fMax, truD, aTru, aIxL, aIxT, aIxQ, fIxS, stabs, aTup, aLst, aFix, B.solid, B.get, B.sub, aCat, aListOf, aTupOf, aONone, aOSome, aSlL, aRevL, aSortSet, aListAny, aListDK, aCopyD, aLenSet, aSortDK, aSortS, aRetNw, aMethN, aIQ, aDgN, aDget, aDgetN, fDin, fDnin, aDnew, aDput, fLenD, D.key, aFld, aMeth, aMeth0, putFD, aSetF, aMake, aMake0, aRaise, isIn, isBo, isS, isL, isT, isDi, isRow, isNo, knD, aIsRow, D.fl, fInF, fNinF, fInS, fEqY, fNeY, fEqP, fNeP, fInP, fNinP, aLcK, aDc, aIE, aIS, aTry, aHand, aXf, aXis, aIL, aICL, aIT, aIR1, aIR2, coe1, coes, aCall, aCall0, aApp, awipe, List.set, List.map, List.cons_append, List.nil_append, List.replicate, List.length, Nat.reduceSub, Nat.reduceAdd])
    rw [kept_none hn]
    (try dsimp only [slot, aVar, aC, aOp, ifB_t, ifB_f, aTest, aAnd, aOr, aNot, aAndV, aOrT, aOrV, aNotV, aIfE, aChain, aNil, aCons, aName, aGNil, aGCons, aGTup, aNext, aIf, aRet, aRetO, aRetN, aDrop, aAsg, aNew, aPar, aParN, aPar3, frz, aFz, aNever, aLoop, aFor, aCol, aLc, aYes, fAdd, fSub, fMul, fMod, fDiv, fPow, fLt, fLe, fGt, fGe, fI, fIc, fCatS, fLtS, eqD, fEq, fNe, fIsN, fNotN, aFn1, fNeg, fLen, fInt, fAbs, fAll, fAny, aFn2, fMax, truD, aTru, aIxL, aIxT, aIxQ, fIxS, stabs, aTup, aLst, aFix, B.solid, B.get, B.sub, aCat, aListOf, aTupOf, aONone, aOSome, aSlL, aRevL, aSortSet, aListAny, aListDK, aCopyD, aLenSet, aSortDK, aSortS, aRetNw, aMethN, aIQ, aDgN, aDget, aDgetN, fDin, fDnin, aDnew, aDput, fLenD, D.key, aFld, aMeth, aMeth0, putFD, aSetF, aMake, aMake0, aRaise, isIn, isBo, isS, isL, isT, isDi, isRow, isNo, knD, aIsRow, D.fl, fInF, fNinF, fInS, fEqY, fNeY, fEqP, fNeP, fInP, fNinP, aLcK, aDc, aIE, aIS, aTry, aHand, aXf, aXis, aIL, aICL, aIT, aIR1, aIR2, coe1, coes, aCall, aCall0, aApp, awipe, List.set, List.map, List.cons_append, List.nil_append, List.replicate, List.length, Nat.reduceSub, Nat.reduceAdd]); repeat (with_reducible refine go_seq ?_; try dsimp only [slot, aVar, aC, aOp, ifB_t, ifB_f, aTest, aAnd, aOr, aNot, aAndV, aOrT, aOrV, aNotV, aIfE, aChain, aNil, aCons, aName, aGNil, aGCons, aGTup, aNext, aIf, aRet, aRetO, aRetN, aDrop, aAsg, aNew, aPar, aParN, aPar3, frz, aFz, aNever, aLoop, aFor, aCol, aLc, aYes, fAdd, fSub, fMul, fMod, fDiv, fPow, fLt, fLe, fGt, fGe, fI, fIc, fCatS, fLtS, eqD, fEq, fNe, fIsN, fNotN, aFn1, fNeg, fLen, fInt, fAbs, fAll, fAny, aFn2, fMax, truD, aTru, aIxL, aIxT, aIxQ, fIxS, stabs, aTup, aLst, aFix, B.solid, B.get, B.sub, aCat, aListOf, aTupOf, aONone, aOSome, aSlL, aRevL, aSortSet, aListAny, aListDK, aCopyD, aLenSet, aSortDK, aSortS, aRetNw, aMethN, aIQ, aDgN, aDget, aDgetN, fDin, fDnin, aDnew, aDput, fLenD, D.key, aFld, aMeth, aMeth0, putFD, aSetF, aMake, aMake0, aRaise, isIn, isBo, isS, isL, isT, isDi, isRow, isNo, knD, aIsRow, D.fl, fInF, fNinF, fInS, fEqY, fNeY, fEqP, fNeP, fInP, fNinP, aLcK, aDc, aIE, aIS, aTry, aHand, aXf, aXis, aIL, aICL, aIT, aIR1, aIR2, coe1, coes, aCall, aCall0, aApp, awipe, List.set, List.map, List.cons_append, List.nil_append, List.replicate, List.length, Nat.reduceSub, Nat.reduceAdd])
    refine name_of kI rfl ?_
    (try dsimp only [slot, aVar, aC, aOp, ifB_t, ifB_f, aTest, aAnd, aOr, aNot, aAndV, aOrT, aOrV, aNotV, aIfE, aChain, aNil, aCons, aName, aGNil, aGCons, aGTup, aNext, aIf, aRet, aRetO, aRetN, aDrop, aAsg, aNew, aPar, aParN, aPar3, frz, aFz, aNever, aLoop, aFor, aCol, aLc, aYes, fAdd, fSub, fMul, fMod, fDiv, fPow, fLt, fLe, fGt, fGe, fI, fIc, fCatS, fLtS, eqD, fEq, fNe, fIsN, fNotN, aFn1, fNeg, fLen, fInt, fAbs, fAll, fAny, aFn2, fMax, truD, aTru, aIxL, aIxT, aIxQ, fIxS, stabs, aTup, aLst, aFix, B.solid, B.get, B.sub, aCat, aListOf, aTupOf, aONone, aOSome, aSlL, aRevL, aSortSet, aListAny, aListDK, aCopyD, aLenSet, aSortDK, aSortS, aRetNw, aMethN, aIQ, aDgN, aDget, aDgetN, fDin, fDnin, aDnew, aDput, fLenD, D.key, aFld, aMeth, aMeth0, putFD, aSetF, aMake, aMake0, aRaise, isIn, isBo, isS, isL, isT, isDi, isRow, isNo, knD, aIsRow, D.fl, fInF, fNinF, fInS, fEqY, fNeY, fEqP, fNeP, fInP, fNinP, aLcK, aDc, aIE, aIS, aTry, aHand, aXf, aXis, aIL, aICL, aIT, aIR1, aIR2, coe1, coes, aCall, aCall0, aApp, awipe, List.set, List.map, List.cons_append, List.nil_append, List.replicate, List.length, Nat.reduceSub, Nat.reduceAdd]); repeat (with_reducible refine go_seq ?_; try dsimp only [slot, aVar, aC, aOp, ifB_t, ifB_f, aTest, aAnd, aOr, aNot, aAndV, aOrT, aOrV, aNotV, aIfE, aChain, aNil, aCons, aName, aGNil, aGCons, aGTup, aNext, aIf, aRet, aRetO, aRetN, aDrop, aAsg, aNew, aPar, aParN, aPar3, frz, aFz, aNever, aLoop, aFor, aCol, aLc, aYes, fAdd, fSub, fMul, fMod, fDiv, fPow, fLt, fLe, fGt, fGe, fI, fIc, fCatS, fLtS, eqD, fEq, fNe, fIsN, fNotN, aFn1, fNeg, fLen, fInt, fAbs, fAll, fAny, aFn2, fMax, truD, aTru, aIxL, aIxT, aIxQ, fIxS, stabs, aTup, aLst, aFix, B.solid, B.get, B.sub, aCat, aListOf, aTupOf, aONone, aOSome, aSlL, aRevL, aSortSet, aListAny, aListDK, aCopyD, aLenSet, aSortDK, aSortS, aRetNw, aMethN, aIQ, aDgN, aDget, aDgetN, fDin, fDnin, aDnew, aDput, fLenD, D.key, aFld, aMeth, aMeth0, putFD, aSetF, aMake, aMake0, aRaise, isIn, isBo, isS, isL, isT, isDi, isRow, isNo, knD, aIsRow, D.fl, fInF, fNinF, fInS, fEqY, fNeY, fEqP, fNeP, fInP, fNinP, aLcK, aDc, aIE, aIS, aTry, aHand, aXf, aXis, aIL, aICL, aIT, aIR1, aIR2, coe1, coes, aCall, aCall0, aApp, awipe, List.set, List.map, List.cons_append, List.nil_append, List.replicate, List.length, Nat.reduceSub, Nat.reduceAdd])
    refine ⟨by unfold keptD; rw [List.length_map, List.length_take]; omega, ?_⟩
    rw [kept_put hn, ← take_next hr2]
    exact hR _ ⟨_, _, rfl⟩
  · rintro env ⟨u, v, rfl⟩
    rw [enumB_len, hl, List.take_length]
    array_get_dec
    refine ⟨rows.map Rw.nm, kept_keys CS CL rows, by rw [List.length_map]; omega, ?_⟩
    array_get_dec
    have hl2 := names_len rows
    unfold namesS at hl2
    refine ⟨by rw [List.length_map, List.length_map, hl2]; omega, ?_⟩
    rw [List.map_map]
    refine aColD_map (fun n : Str => ((Sum.inr n : Key), insD CS CL (rowAt rows n))) ?_ (fun n hn S hS => ?_) ?_
    · rw [List.nil_append, List.map_map]
      exact inr_nd (names_nd rok.nd)
    · obtain ⟨r, hr2, rfl⟩ := List.mem_map.mp (names_mem.mp hn)
      unfold Function.comp
      array_get_dec
      refine ⟨_, kept_val rok.nd hr2, ?_⟩
      rw [rowAt_mem rok.nd hr2] at hS
      exact hS
    · exact q
end
end WW

set_option Elab.async false
set_option linter.all false
set_option maxRecDepth 100000
set_option maxHeartbeats 4000000
namespace WW
open PySem PySem.Spec PyProof.Rows L2
local macro_rules | `(tactic| array_mem_dec) => `(tactic| try dsimp only [slot, aVar, aC, aOp, ifB_t, ifB_f, aTest, aAnd, aOr, aNot, aAndV, aOrT, aOrV, aNotV, aIfE, aChain, aNil, aCons, aName, aGNil, aGCons, aGTup, aNext, aIf, aRet, aRetO, aRetN, aDrop, aAsg, aNew, aPar, aParN, aPar3, frz, aFz, aNever, aLoop, aFor, aCol, aLc, aYes, fAdd, fSub, fMul, fMod, fDiv, fPow, fLt, fLe, fGt, fGe, fI, fIc, fCatS, fLtS, eqD, fEq, fNe, fIsN, fNotN, aFn1, fNeg, fLen, fInt, fAbs, fAll, fAny, aFn2, fMax, truD, aTru, aIxL, aIxT, aIxQ, fIxS, stabs, aTup, aLst, aFix, B.solid, B.get, B.sub, aCat, aListOf, aTupOf, aONone, aOSome, aSlL, aRevL, aSortSet, aListAny, aListDK, aCopyD, aLenSet, aSortDK, aSortS, aRetNw, aMethN, aEi, aIQ, aDgN, aDget, aDgetN, fDin, fDnin, aDnew, aDput, fLenD, D.key, aFld, aProp, aMeth, aMeth0, putFD, aSetF, aMake, aMake0, aRaise, isIn, isBo, isS, isL, isT, isDi, isRow, isNo, knD, aIs, aIsRow, D.fl, fInF, fNinF, fInS, fEqY, fNeY, fEqP, fNeP, fInP, fNinP, aLcK, aDc, aIE, aIS, aTry, aHand, aXf, aXis, aIL, aICL, aIT, aIR1, aIR2, coe1, coes, aCall, aCall0, aApp, awipe, List.set, List.map, List.cons_append, List.nil_append, List.replicate, List.length, Nat.reduceSub, Nat.reduceAdd])
local macro_rules | `(tactic| array_get_dec) => `(tactic| (array_mem_dec; repeat (with_reducible refine go_seq ?_; array_mem_dec)))
def boxD (CB CS CL : Addr) (rows : List Rw) : D := .obj CB [("shelf", .dK (shelfD CS CL rows))]
structure BoxT (K : PySem.W.Frag) (CB : Addr) : Prop where
  cl : Cls K CB
  nS : NoAttr K CB "shelf"
/-- what a set of sensors shows of a word -/
def oD : Option Str → D
  | some z => .str z
  | none => .non
def sightD (ss : List ZZ) (wd : Str) : D := if ss.all (fun zs => (look zs wd).isNone) = true then .non else .tup (ss.map fun zs => oD (look zs wd))
theorem zD_look (zs : ZZ) (y : Str) : (valD (zD zs) (Sum.inr y)).getD .non = oD (look zs y) := by
  unfold valD zD look
  induction zs with
  | nil => rfl
  | cons p r ih =>
    rw [List.map_cons, List.find?_cons, List.find?_cons]
    by_cases h : p.1 = y
    · simp [h, oD]
    · have h' : ¬ (Sum.inr p.1 : Key) = Sum.inr y := fun e => h (Sum.inr.inj e)
      simp only [h, h', decide_false]
      exact ih
theorem any_some (ss : List ZZ) (wd : Str) : (ss.map fun zs => (look zs wd).isSome).any id = !ss.all (fun zs => (look zs wd).isNone) := by
  induction ss with
  | nil => rfl
  | cons a r ih =>
    rw [List.map_cons, List.any_cons, List.all_cons, ih]
    cases look a wd <;> simp
structure VwT (K : PySem.W.Frag) (CV fO : Addr) (fdO : FuncData) : Prop where
  cl : Cls K CV
  nS : NoAttr K CV "sensors"
  nL : NoAttr K CV "locked"
  mO : Meth K CV "own_sight" fO
  bO : Binds K fdO ["self", "post", "word"] []
def vwF (s0 s1 : List ZZ) (w0 w1 : List Str) : List (Str × D) := [("sensors", .lst [.lst (s0.map fun z => .dK (zD z)), .lst (s1.map fun z => .dK (zD z))]), ("locked", .lst [.lst (w0.map D.str), .lst (w1.map D.str)])]
section
variable {P : Program} {w : World} {K : PySem.W.Frag} {mg : Str → Option Value} {base : Heap} {CB CI CS CL CV CP CN fO fX : Addr} {fdO fdX : FuncData}
abbrev sCheck_post : Stmt := topS 31
abbrev nCheck_post : List Str := ["post"]
theorem scCheck_post : FnScope nCheck_post ["post"] (defScope sCheck_post) := ⟨rfl, rfl, rfl, by decide +kernel, rfl, by decide +kernel, by decide +kernel⟩
def spPostA (CP : Addr) : ASp := fun bs Q X => ∃ d : D, bs = [.st d] ∧ Thg d ∧ (dBtw 0 1 d = true → Q .non) ∧ (dBtw 0 1 d = false → X CP [("value", d)])
theorem ok_postA (XBadPost : ExcT P w K mg "BadPost" CP fX "value" fdX) (DCheck_post : Df K mg "check_post" sCheck_post ["post"] fCheck_post fdCheck_post) (DIs_between : Df K mg "is_between" sIs_between ["thing", "low", "high"] fIs_between fdIs_between) (GIs_between : FnOk P w K mg base CX0 2 fIs_between fdIs_between ["thing", "low", "high"] (cSp K spBtwA)) : FnOk P w K mg base (L2.CX P w) 3 fCheck_post fdCheck_post ["post"] (cSp K (spPostA CP)) := by
  refine DCheck_post.fn.okX scCheck_post (fun vs H Q E h => cSp_len (fun bs Q X h => by obtain ⟨n, rfl, _⟩ := h; rfl) h) (fun cdv A outer s H vs Q E hr h => ?_)
  refine ⟨_, (pss_one (ps_if (pt_not (pt_val (pe_df DIs_between GIs_between (hr.mono (by decide)) (pa_cons (pv 0) (pa_cons pe_int (pa_cons pe_int pa_nil)))))) (pss_one (ps_raiseX XBadPost (hr.mono (by decide)) (by rfl) rfl (takes_of rfl rfl rfl rfl) (pa_cons (pv 0) pa_nil))) pss_nil)), ?_⟩
  refine fn_AX ((sa_if (et_not (et_B (ea_call [] (el_cons (ea_var 0) (el_cons ea_cI (el_cons ea_cI el_nil)))))) (sa_raise (ea_var 0)) sa_next)) h fun bs Qa Xa h => ?_
  obtain ⟨d, rfl, td, q1, q2⟩ := h
  array_get_dec
  refine ⟨_, _, _, rfl, td, ?_⟩
  array_get_dec
  refine ifB_both (fun c => ?_) (fun c => ?_)
  · exact q2 (by simpa using c)
  · exact q1 (by simpa using c)
abbrev sGood_set : Stmt := topS 30
abbrev nGood_set : List Str := ["box", "chosen", "kept", "item"]
theorem scGood_set : FnScope nGood_set ["box", "chosen"] (defScope sGood_set) := ⟨rfl, rfl, rfl, by decide +kernel, rfl, by decide +kernel, by decide +kernel⟩
def spGoodS (CB CS CL : Addr) : ASp := fun bs Q _ => ∃ (rows : List Rw) (cs : List Str), (bs = [.st (boxD CB CS CL rows), .st (.lst (cs.map D.str))] ∨ bs = [.st (boxD CB CS CL rows), .st (.tup (cs.map D.str))]) ∧ RwsOk rows ∧ cs.Nodup ∧ (∀ c ∈ cs, c ∈ rows.map Rw.nm) ∧ cs.length ≤ 100 ∧ Q (.tup ((cs.mergeSort leS).map D.str))
theorem ok_goodS (kB : BoxT K CB) (DGood_set : Df K mg "good_set" sGood_set ["box", "chosen"] fGood_set fdGood_set) (DIs_row : Df K mg "is_row" sIs_row ["thing"] fIs_row fdIs_row) (GIs_row : FnOk P w K mg base CX0 1 fIs_row fdIs_row ["thing"] (cSp K spRowA)) (T : Bl mg) : FnOk P w K mg base CX0 2 fGood_set fdGood_set ["box", "chosen"] (cSp K (spGoodS CB CS CL)) := by
  refine DGood_set.fn.ok scGood_set (fun vs H Q E h => cSp_len (fun bs Q X h => by obtain ⟨n, c, rfl | rfl, _⟩ := h <;> rfl) h) (fun cdv A outer s H vs Q E hr h => ?_)
  refine ⟨_, (pss_cons (ps_if (pt_not (pt_val (pe_df DIs_row GIs_row (hr.mono (by decide)) (pa_cons (pv 1) pa_nil)))) (pss_one ps_never) pss_nil)
      (pss_cons (ps_set (i := 2) scGood_set.nd rfl (Or.inl rfl) (pe_lst pa_nil))
      (pss_cons (ps_for PassesOwn.never rfl (pi_seq (pv 1)) (pg_name (i := 3) scGood_set.nd rfl (Or.inl rfl)) (pss_cons (ps_if (PW.pt (pw_or (pt_not (pt_val (pe_callB call_isi (by rfl) T.isinstance (by decide +kernel) (pa_cons (pv 3) (pa_cons (pe_bltn (v := .ty "str") (by rfl) T.str (by decide +kernel) rfl) pa_nil))))) (pw_or (pt_cmp (pc_dnotin (hu1 hr) (pv 3) (pe_fld (pv 0) rfl))) (pw_or1 (pt_cmpR op_in_seq (pv 3) (pv 2) (by rfl)))))) (pss_one ps_never) pss_nil)
      (pss_one (ps_expr (pe_bm PySem.F.plainAttrs_list PySem.F.slot_list_append PySem.F.type_list_append mt_append (pv 2) (pa_cons (pv 3) pa_nil))))))
      (pss_one (ps_ret (pe_callTy call_tuple_of (by rfl) T.tuple (by decide +kernel) (pa_cons (pe_callB (cr_sortedD (hu70 hr)) (by rfl) T.sorted (by decide +kernel) (pa_cons (pv 2) pa_nil)) pa_nil))))))), ?_⟩
  refine fn_A ((sa_seq (sa_if (et_not (et_B (ea_call [] (el_cons (ea_var 1) el_nil)))) sa_never sa_next)
      (sa_seq (sa_new 2 (en_lst el_nil))
      (sa_seq (sa_for (ei_seq (ea_var 1)) (ga_name (js := [3]) 3) (sa_seq (sa_if (et_or (et_not (et_B (ea_isB is_S (ea_var 3)))) (et_or (et_B (ea_dnin (ea_var 3) (ea_fld (ea_var 0)))) (et_test (ea_op r2_inF (ea_var 3) (ea_var 2))))) sa_never sa_next)
      (sa_app 2 (ea_var 3))))
      (sa_ret (ea_tupOf (ea_fix (en_sortS (ea_var 2))))))))) h fun bs Qa Xa h => ?_
  obtain ⟨rows, cs, hb, rok, cnd, cin, cl, q⟩ := h
  obtain ⟨x, hx, ex⟩ : ∃ x, (x = .lst (cs.map D.str) ∨ x = .tup (cs.map D.str)) ∧ bs = [.st (boxD CB CS CL rows), .st x] := by
    rcases hb with rfl | rfl
    · exact ⟨_, .inl rfl, rfl⟩
    · exact ⟨_, .inr rfl, rfl⟩
  subst ex
  have cok : ∀ c ∈ cs, NameOk c := fun c hc => by
    obtain ⟨r, hr2, rfl⟩ := List.mem_map.mp (cin c hc)
    exact (rok.ok r hr2).nm
  have main : ∀ o, aLoop (aName 3)
      (aSeq (aIf (aOr (aNot (aTest (aIs K (.type "str") isS (aVar 3)))) (aOr (aTest (aOp fDnin (aVar 3) (aFld K "shelf" (aVar 0)))) (aTest (aOp fInF (aVar 3) (aVar 2))))) aNever aNext) (aApp 2 (aVar 3)))
      ⟨fun e => aRet (aTupOf (aFix (aSortS (aVar 2)))) ⟨fun _ => Qa .non, Qa, fun _ => False, fun _ => False, fun _ => False, fun _ _ _ => False⟩ e, Qa, fun _ => False, fun _ => False, fun _ => False, fun _ _ _ => False⟩
      ((cs.map D.str).map B.st) [some (.st (boxD CB CS CL rows)), some (.st x), some (.ow o (.lst [])), none] := by
    intro o
    refine aLoop_inv (fun i env => ∃ u, env = [some (.st (boxD CB CS CL rows)), some (.st x), some (.ow o (.lst ((cs.take i).map D.str))), u]) ⟨_, rfl⟩ ?_ ?_
    · rintro i y env R hy ⟨u, rfl⟩ hR
      obtain ⟨c, hc, rfl⟩ := strB_at hy
      have hm := List.mem_of_getElem? hc
      obtain ⟨r, hr2, rfl⟩ := List.mem_map.mp (cin c hm)
      have hi : i < cs.length := (List.getElem?_eq_some_iff.mp hc).1
      unfold boxD
      array_get_dec
      refine ⟨kB.cl, kB.nS, _, rfl, ?_⟩
      array_get_dec
      rw [shelf_val rok.nd hr2]
      array_get_dec
      refine ⟨rfl, ?_, fun b hb => ?_⟩
      · rw [List.all_map]
        exact List.all_eq_true.mpr fun _ _ => rfl
      have hb : b = false := by
        cases b with
        | false => rfl
        | true =>
          obtain ⟨z, hz, e⟩ := List.mem_map.mp (hb.mp rfl)
          cases e
          exact absurd hz (not_before cnd hc)
      subst hb
      array_get_dec
      refine ⟨by rw [List.length_map, List.length_take]; omega, hR _ ⟨some (.st (.str r.nm)), ?_⟩⟩
      rw [take_next hc, List.map_append]
      rfl
    · rintro env ⟨u, rfl⟩
      rw [List.length_map, List.length_map, List.take_length]
      array_get_dec
      exact ⟨cs, rfl, cok, q⟩
  rcases hx with rfl | rfl
  · (try dsimp only [slot, aVar, aC, aOp, ifB_t, ifB_f, aTest, aAnd, aOr, aNot, aAndV, aOrT, aOrV, aNotV, aIfE, aChain, aNil, aCons, aName, aGNil, aGCons, aGTup, aNext, aIf, aRet, aRetO, aRetN, aDrop, aAsg, aNew, aPar, aParN, aPar3, frz, aFz, aNever, aFor, aCol, aLc, aYes, fAdd, fSub, fMul, fMod, fDiv, fPow, fLt, fLe, fGt, fGe, fI, fIc, fCatS, fLtS, eqD, fEq, fNe, fIsN, fNotN, aFn1, fNeg, fLen, fInt, fAbs, fAll, fAny, aFn2, fMax, truD, aTru, aIxL, aIxT, aIxQ, fIxS, stabs, aTup, aLst, aFix, B.solid, B.get, B.sub, aCat, aListOf, aTupOf, aONone, aOSome, aSlL, aRevL, aSortSet, aListAny, aListDK, aCopyD, aLenSet, aSortDK, aSortS, aRetNw, aMethN, aEi, aIQ, aDgN, aDget, aDgetN, fDin, fDnin, aDnew, aDput, fLenD, D.key, aFld, aProp, aMeth, aMeth0, putFD, aSetF, aMake, aMake0, aRaise, isIn, isBo, isS, isL, isT, isDi, isRow, isNo, knD, aIsRow, D.fl, fInF, fNinF, fInS, fEqY, fNeY, fEqP, fNeP, fInP, fNinP, aLcK, aDc, aIE, aIS, aTry, aHand, aXf, aXis, aIL, aICL, aIT, aIR1, aIR2, coe1, coes, aCall, aCall0, aApp, awipe, List.set, List.map, List.cons_append, List.nil_append, List.replicate, List.length, Nat.reduceSub, Nat.reduceAdd]); repeat (with_reducible refine go_seq ?_; try dsimp only [slot, aVar, aC, aOp, ifB_t, ifB_f, aTest, aAnd, aOr, aNot, aAndV, aOrT, aOrV, aNotV, aIfE, aChain, aNil, aCons, aName, aGNil, aGCons, aGTup, aNext, aIf, aRet, aRetO, aRetN, aDrop, aAsg, aNew, aPar, aParN, aPar3, frz, aFz, aNever, aFor, aCol, aLc, aYes, fAdd, fSub, fMul, fMod, fDiv, fPow, fLt, fLe, fGt, fGe, fI, fIc, fCatS, fLtS, eqD, fEq, fNe, fIsN, fNotN, aFn1, fNeg, fLen, fInt, fAbs, fAll, fAny, aFn2, fMax, truD, aTru, aIxL, aIxT, aIxQ, fIxS, stabs, aTup, aLst, aFix, B.solid, B.get, B.sub, aCat, aListOf, aTupOf, aONone, aOSome, aSlL, aRevL, aSortSet, aListAny, aListDK, aCopyD, aLenSet, aSortDK, aSortS, aRetNw, aMethN, aEi, aIQ, aDgN, aDget, aDgetN, fDin, fDnin, aDnew, aDput, fLenD, D.key, aFld, aProp, aMeth, aMeth0, putFD, aSetF, aMake, aMake0, aRaise, isIn, isBo, isS, isL, isT, isDi, isRow, isNo, knD, aIsRow, D.fl, fInF, fNinF, fInS, fEqY, fNeY, fEqP, fNeP, fInP, fNinP, aLcK, aDc, aIE, aIS, aTry, aHand, aXf, aXis, aIL, aICL, aIT, aIR1, aIR2, coe1, coes, aCall, aCall0, aApp, awipe, List.set, List.map, List.cons_append, List.nil_append, List.replicate, List.length, Nat.reduceSub, Nat.reduceAdd])
    refine ⟨_, .inl rfl, thg_lst _, ?_⟩
    unfold dRow
    (try dsimp only [slot, aVar, aC, aOp, ifB_t, ifB_f, aTest, aAnd, aOr, aNot, aAndV, aOrT, aOrV, aNotV, aIfE, aChain, aNil, aCons, aName, aGNil, aGCons, aGTup, aNext, aIf, aRet, aRetO, aRetN, aDrop, aAsg, aNew, aPar, aParN, aPar3, frz, aFz, aNever, aFor, aCol, aLc, aYes, fAdd, fSub, fMul, fMod, fDiv, fPow, fLt, fLe, fGt, fGe, fI, fIc, fCatS, fLtS, eqD, fEq, fNe, fIsN, fNotN, aFn1, fNeg, fLen, fInt, fAbs, fAll, fAny, aFn2, fMax, truD, aTru, aIxL, aIxT, aIxQ, fIxS, stabs, aTup, aLst, aFix, B.solid, B.get, B.sub, aCat, aListOf, aTupOf, aONone, aOSome, aSlL, aRevL, aSortSet, aListAny, aListDK, aCopyD, aLenSet, aSortDK, aSortS, aRetNw, aMethN, aEi, aIQ, aDgN, aDget, aDgetN, fDin, fDnin, aDnew, aDput, fLenD, D.key, aFld, aProp, aMeth, aMeth0, putFD, aSetF, aMake, aMake0, aRaise, isIn, isBo, isS, isL, isT, isDi, isRow, isNo, knD, aIsRow, D.fl, fInF, fNinF, fInS, fEqY, fNeY, fEqP, fNeP, fInP, fNinP, aLcK, aDc, aIE, aIS, aTry, aHand, aXf, aXis, aIL, aICL, aIT, aIR1, aIR2, coe1, coes, aCall, aCall0, aApp, awipe, List.set, List.map, List.cons_append, List.nil_append, List.replicate, List.length, Nat.reduceSub, Nat.reduceAdd]); repeat (with_reducible refine go_seq ?_; try dsimp only [slot, aVar, aC, aOp, ifB_t, ifB_f, aTest, aAnd, aOr, aNot, aAndV, aOrT, aOrV, aNotV, aIfE, aChain, aNil, aCons, aName, aGNil, aGCons, aGTup, aNext, aIf, aRet, aRetO, aRetN, aDrop, aAsg, aNew, aPar, aParN, aPar3, frz, aFz, aNever, aFor, aCol, aLc, aYes, fAdd, fSub, fMul, fMod, fDiv, fPow, fLt, fLe, fGt, fGe, fI, fIc, fCatS, fLtS, eqD, fEq, fNe, fIsN, fNotN, aFn1, fNeg, fLen, fInt, fAbs, fAll, fAny, aFn2, fMax, truD, aTru, aIxL, aIxT, aIxQ, fIxS, stabs, aTup, aLst, aFix, B.solid, B.get, B.sub, aCat, aListOf, aTupOf, aONone, aOSome, aSlL, aRevL, aSortSet, aListAny, aListDK, aCopyD, aLenSet, aSortDK, aSortS, aRetNw, aMethN, aEi, aIQ, aDgN, aDget, aDgetN, fDin, fDnin, aDnew, aDput, fLenD, D.key, aFld, aProp, aMeth, aMeth0, putFD, aSetF, aMake, aMake0, aRaise, isIn, isBo, isS, isL, isT, isDi, isRow, isNo, knD, aIsRow, D.fl, fInF, fNinF, fInS, fEqY, fNeY, fEqP, fNeP, fInP, fNinP, aLcK, aDc, aIE, aIS, aTry, aHand, aXf, aXis, aIL, aICL, aIT, aIR1, aIR2, coe1, coes, aCall, aCall0, aApp, awipe, List.set, List.map, List.cons_append, List.nil_append, List.replicate, List.length, Nat.reduceSub, Nat.reduceAdd])
    intro o
    exact main o
  · (try dsimp only [slot, aVar, aC, aOp, ifB_t, ifB_f, aTest, aAnd, aOr, aNot, aAndV, aOrT, aOrV, aNotV, aIfE, aChain, aNil, aCons, aName, aGNil, aGCons, aGTup, aNext, aIf, aRet, aRetO, aRetN, aDrop, aAsg, aNew, aPar, aParN, aPar3, frz, aFz, aNever, aFor, aCol, aLc, aYes, fAdd, fSub, fMul, fMod, fDiv, fPow, fLt, fLe, fGt, fGe, fI, fIc, fCatS, fLtS, eqD, fEq, fNe, fIsN, fNotN, aFn1, fNeg, fLen, fInt, fAbs, fAll, fAny, aFn2, fMax, truD, aTru, aIxL, aIxT, aIxQ, fIxS, stabs, aTup, aLst, aFix, B.solid, B.get, B.sub, aCat, aListOf, aTupOf, aONone, aOSome, aSlL, aRevL, aSortSet, aListAny, aListDK, aCopyD, aLenSet, aSortDK, aSortS, aRetNw, aMethN, aEi, aIQ, aDgN, aDget, aDgetN, fDin, fDnin, aDnew, aDput, fLenD, D.key, aFld, aProp, aMeth, aMeth0, putFD, aSetF, aMake, aMake0, aRaise, isIn, isBo, isS, isL, isT, isDi, isRow, isNo, knD, aIsRow, D.fl, fInF, fNinF, fInS, fEqY, fNeY, fEqP, fNeP, fInP, fNinP, aLcK, aDc, aIE, aIS, aTry, aHand, aXf, aXis, aIL, aICL, aIT, aIR1, aIR2, coe1, coes, aCall, aCall0, aApp, awipe, List.set, List.map, List.cons_append, List.nil_append, List.replicate, List.length, Nat.reduceSub, Nat.reduceAdd]); repeat (with_reducible refine go_seq ?_; try dsimp only [slot, aVar, aC, aOp, ifB_t, ifB_f, aTest, aAnd, aOr, aNot, aAndV, aOrT, aOrV, aNotV, aIfE, aChain, aNil, aCons, aName, aGNil, aGCons, aGTup, aNext, aIf, aRet, aRetO, aRetN, aDrop, aAsg, aNew, aPar, aParN, aPar3, frz, aFz, aNever, aFor, aCol, aLc, aYes, fAdd, fSub, fMul, fMod, fDiv, fPow, fLt, fLe, fGt, fGe, fI, fIc, fCatS, fLtS, eqD, fEq, fNe, fIsN, fNotN, aFn1, fNeg, fLen, fInt, fAbs, fAll, fAny, aFn2, fMax, truD, aTru, aIxL, aIxT, aIxQ, fIxS, stabs, aTup, aLst, aFix, B.solid, B.get, B.sub, aCat, aListOf, aTupOf, aONone, aOSome, aSlL, aRevL, aSortSet, aListAny, aListDK, aCopyD, aLenSet, aSortDK, aSortS, aRetNw, aMethN, aEi, aIQ, aDgN, aDget, aDgetN, fDin, fDnin, aDnew, aDput, fLenD, D.key, aFld, aProp, aMeth, aMeth0, putFD, aSetF, aMake, aMake0, aRaise, isIn, isBo, isS, isL, isT, isDi, isRow, isNo, knD, aIsRow, D.fl, fInF, fNinF, fInS, fEqY, fNeY, fEqP, fNeP, fInP, fNinP, aLcK, aDc, aIE, aIS, aTry, aHand, aXf, aXis, aIL, aICL, aIT, aIR1, aIR2, coe1, coes, aCall, aCall0, aApp, awipe, List.set, List.map, List.cons_append, List.nil_append, List.replicate, List.length, Nat.reduceSub, Nat.reduceAdd])
    refine ⟨_, .inl rfl, thg_tup _, ?_⟩
    unfold dRow
    (try dsimp only [slot, aVar, aC, aOp, ifB_t, ifB_f, aTest, aAnd, aOr, aNot, aAndV, aOrT, aOrV, aNotV, aIfE, aChain, aNil, aCons, aName, aGNil, aGCons, aGTup, aNext, aIf, aRet, aRetO, aRetN, aDrop, aAsg, aNew, aPar, aParN, aPar3, frz, aFz, aNever, aFor, aCol, aLc, aYes, fAdd, fSub, fMul, fMod, fDiv, fPow, fLt, fLe, fGt, fGe, fI, fIc, fCatS, fLtS, eqD, fEq, fNe, fIsN, fNotN, aFn1, fNeg, fLen, fInt, fAbs, fAll, fAny, aFn2, fMax, truD, aTru, aIxL, aIxT, aIxQ, fIxS, stabs, aTup, aLst, aFix, B.solid, B.get, B.sub, aCat, aListOf, aTupOf, aONone, aOSome, aSlL, aRevL, aSortSet, aListAny, aListDK, aCopyD, aLenSet, aSortDK, aSortS, aRetNw, aMethN, aEi, aIQ, aDgN, aDget, aDgetN, fDin, fDnin, aDnew, aDput, fLenD, D.key, aFld, aProp, aMeth, aMeth0, putFD, aSetF, aMake, aMake0, aRaise, isIn, isBo, isS, isL, isT, isDi, isRow, isNo, knD, aIsRow, D.fl, fInF, fNinF, fInS, fEqY, fNeY, fEqP, fNeP, fInP, fNinP, aLcK, aDc, aIE, aIS, aTry, aHand, aXf, aXis, aIL, aICL, aIT, aIR1, aIR2, coe1, coes, aCall, aCall0, aApp, awipe, List.set, List.map, List.cons_append, List.nil_append, List.replicate, List.length, Nat.reduceSub, Nat.reduceAdd]); repeat (with_reducible refine go_seq ?_; try dsimp only [slot, aVar, aC, aOp, ifB_t, ifB_f, aTest, aAnd, aOr, aNot, aAndV, aOrT, aOrV, aNotV, aIfE, aChain, aNil, aCons, aName, aGNil, aGCons, aGTup, aNext, aIf, aRet, aRetO, aRetN, aDrop, aAsg, aNew, aPar, aParN, aPar3, frz, aFz, aNever, aFor, aCol, aLc, aYes, fAdd, fSub, fMul, fMod, fDiv, fPow, fLt, fLe, fGt, fGe, fI, fIc, fCatS, fLtS, eqD, fEq, fNe, fIsN, fNotN, aFn1, fNeg, fLen, fInt, fAbs, fAll, fAny, aFn2, fMax, truD, aTru, aIxL, aIxT, aIxQ, fIxS, stabs, aTup, aLst, aFix, B.solid, B.get, B.sub, aCat, aListOf, aTupOf, aONone, aOSome, aSlL, aRevL, aSortSet, aListAny, aListDK, aCopyD, aLenSet, aSortDK, aSortS, aRetNw, aMethN, aEi, aIQ, aDgN, aDget, aDgetN, fDin, fDnin, aDnew, aDput, fLenD, D.key, aFld, aProp, aMeth, aMeth0, putFD, aSetF, aMake, aMake0, aRaise, isIn, isBo, isS, isL, isT, isDi, isRow, isNo, knD, aIsRow, D.fl, fInF, fNinF, fInS, fEqY, fNeY, fEqP, fNeP, fInP, fNinP, aLcK, aDc, aIE, aIS, aTry, aHand, aXf, aXis, aIL, aICL, aIT, aIR1, aIR2, coe1, coes, aCall, aCall0, aApp, awipe, List.set, List.map, List.cons_append, List.nil_append, List.replicate, List.length, Nat.reduceSub, Nat.reduceAdd])
    intro o
    exact main o
abbrev sView_own_sight : Stmt := inClass (topS 33) 1
abbrev nView_own_sight : List Str := ["self", "post", "word", "row", "shows", "sight"]
theorem scView_own_sight : FnScope nView_own_sight ["self", "post", "word"] (defScope sView_own_sight) := ⟨rfl, rfl, rfl, by decide +kernel, rfl, by decide +kernel, by decide +kernel⟩
def spOwnA (CV : Addr) : ASp := fun bs Q _ => ∃ (s0 s1 : List ZZ) (w0 w1 : List Str) (p : Int) (wd : Str), bs = [.st (.obj CV (vwF s0 s1 w0 w1)), .st (.int p), .st (.str wd)] ∧ (p = 0 ∨ p = 1) ∧ s0.length ≤ 100 ∧ s1.length ≤ 100 ∧ Q (sightD (if p = 0 then s0 else s1) wd)
theorem ok_own {f : Addr} {fd : FuncData} (kV : VwT K CV fO fdO) (F : Fun K "own_sight" "View.own_sight" sView_own_sight f fd) (T : Bl mg) (Tany : mg "any" = none) : FnOk P w K mg base CX0 1 f fd ["self", "post", "word"] (cSp K (spOwnA CV)) := by
  refine F.ok scView_own_sight (fun vs H Q E h => cSp_len (fun bs Q X h => by obtain ⟨a, b, c, d, e, f, rfl, _⟩ := h; rfl) h) (fun cdv A outer s H vs Q E hr h => ?_)
  refine ⟨_, (pss_cons (ps_set (i := 3) scView_own_sight.nd rfl (Or.inl rfl) (pe_callTy call_tuple_of (by rfl) T.tuple (by decide +kernel) (pa_cons (pe_lc (own := [("shows", 4)]) rfl scView_own_sight.nd (pi_list (pe_ix ix_list (pe_fld (pv 0) rfl) (pv 1) (fun _ _ => rfl))) (blkOk_by (own := [("shows", 4)]) (N := nView_own_sight) (sc := defScope sView_own_sight) (by decide +kernel)) (fun _ _ _ _ _ => (pg_name (i := 4) scView_own_sight.nd rfl (Or.inl rfl))) (fun _ _ _ _ _ => pts_nil) (fun _ _ _ _ _ => (pe_dget1 (hu1 hr) (pv 4) (pv 2) ⟨by rfl, by rfl, by rfl, by rfl⟩))) pa_nil)))
      (pss_one (ps_ret (pe_ifExp (pt_val (pe_callB (cr_any rfl) (by rfl) Tany (by decide +kernel) (pa_cons (pe_lc (own := [("sight", 5)]) rfl scView_own_sight.nd (pi_tup (pv 3)) (blkOk_by (own := [("sight", 5)]) (N := nView_own_sight) (sc := defScope sView_own_sight) (by decide +kernel)) (fun _ _ _ _ _ => (pg_name (i := 5) scView_own_sight.nd rfl (Or.inl rfl))) (fun _ _ _ _ _ => pts_nil) (fun _ _ _ _ _ => (pe_cmpR op_notN (pv 5) pe_non (nomark _)))) pa_nil))) (pv 3) pe_non)))), ?_⟩
  refine fn_A ((sa_seq (sa_set 3 (ea_tupOf (ea_fix (en_lc (ec_list (ea_ixL (ea_fld (ea_var 0)) (ea_var 1))) (ga_name (js := [4]) 4) et_yes (ea_dgetN (ea_var 4) (ea_var 2))))))
      (sa_ret (ea_ifE (et_B (ea_b1 rc_any (ea_fix (en_lc (EI.ec (ei_tup (ea_var 3))) (ga_name (js := [5]) 5) et_yes (ea_op r2_notN (ea_var 5) ea_cN))))) (ea_var 3) ea_cN)))) h fun bs Qa Xa h => ?_
  obtain ⟨s0, s1, w0, w1, p, wd, rfl, hp, l0, l1, q⟩ := h
  obtain ⟨ss, hss, hsl, hat⟩ : ∃ ss : List ZZ, (if p = 0 then s0 else s1) = ss ∧ ss.length ≤ 100 ∧ atI [D.lst (s0.map fun z => .dK (zD z)), D.lst (s1.map fun z => .dK (zD z))] p = some (D.lst (ss.map fun z => .dK (zD z))) := by
    rcases hp with rfl | rfl
    · exact ⟨s0, by simp, l0, rfl⟩
    · exact ⟨s1, by simp, l1, rfl⟩
  rw [hss] at q
  unfold vwF
  array_get_dec
  refine ⟨kV.cl, kV.nS, _, rfl, ?_⟩
  array_get_dec
  refine ⟨_, hat, ?_⟩
  array_get_dec
  refine ⟨by rw [List.length_map, List.length_map]; omega, ?_⟩
  rw [List.map_map]
  refine aCol_map (fun zs : ZZ => oD (look zs wd)) (fun zs hz R hR => ?_) ?_
  · unfold Function.comp
    array_get_dec
    exact ⟨_, zD_look zs wd, hR⟩
  · array_get_dec
    refine ⟨by rw [List.length_map, List.length_map]; omega, ?_⟩
    rw [List.map_map]
    refine aCol_map (fun zs : ZZ => D.bl (look zs wd).isSome) (fun zs hz R hR => ?_) ?_
    · cases e : look zs wd with
      | none =>
        rw [e] at hR
        simp only [Function.comp, e, oD]
        array_get_dec
        exact hR
      | some z =>
        rw [e] at hR
        simp only [Function.comp, e, oD]
        array_get_dec
        exact hR
    · array_get_dec
      refine ⟨ss.map fun zs => (look zs wd).isSome, by rw [List.map_map]; rfl, ?_⟩
      unfold sightD at q
      have e1 := any_some ss wd
      rw [e1]
      cases c : ss.all (fun zs => (look zs wd).isNone) with
      | true =>
        rw [c, if_pos rfl] at q
        exact q
      | false =>
        rw [c, if_neg (by simp)] at q
        exact q
end
end WW

set_option Elab.async false
set_option linter.all false
set_option maxRecDepth 100000
set_option maxHeartbeats 4000000
namespace WW
open PySem PySem.Spec PyProof.Rows L2
local macro_rules | `(tactic| array_mem_dec) => `(tactic| try dsimp only [slot, aVar, aC, aOp, ifB_t, ifB_f, aTest, aAnd, aOr, aNot, aAndV, aOrT, aOrV, aNotV, aIfE, aChain, aNil, aCons, aName, aGNil, aGCons, aGTup, aNext, aIf, aRet, aRetO, aRetN, aDrop, aAsg, aNew, aPar, aParN, aPar3, frz, aFz, aNever, aLoop, aFor, aCol, aLc, aYes, fAdd, fSub, fMul, fMod, fDiv, fPow, fLt, fLe, fGt, fGe, fI, fIc, fCatS, fLtS, eqD, fEq, fNe, fIsN, fNotN, aFn1, fNeg, fLen, fInt, fAbs, fAll, fAny, aFn2, fMax, truD, aTru, aIxL, aIxT, aIxQ, fIxS, stabs, aTup, aLst, aFix, B.solid, B.get, B.sub, aCat, aListOf, aTupOf, aONone, aOSome, aSlL, aRevL, aSortSet, aListAny, aListDK, aCopyD, aLenSet, aSortDK, aSortS, aRetNw, aMethN, aEi, aIQ, aDgN, aDget, aDgetN, fDin, fDnin, aDnew, aDput, fLenD, D.key, aFld, aProp, aMeth, aMeth0, putFD, aSetF, aMake, aMake0, aRaise, isIn, isBo, isS, isL, isT, isDi, isRow, isNo, knD, aIs, aIsRow, D.fl, fInF, fNinF, fInS, fEqY, fNeY, fEqP, fNeP, fInP, fNinP, aLcK, aDc, aIE, aIS, aTry, aHand, aXf, aXis, aIL, aICL, aIT, aIR1, aIR2, coe1, coes, aCall, aCall0, aApp, awipe, List.set, List.map, List.cons_append, List.nil_append, List.replicate, List.length, Nat.reduceSub, Nat.reduceAdd])
local macro_rules | `(tactic| array_get_dec) => `(tactic| (array_mem_dec; repeat (with_reducible refine go_seq ?_; array_mem_dec)))
def isNonD : D → Bool
  | .non => true
  | _ => false
theorem isNonD_iff {d : D} : isNonD d = true ↔ d = .non := by cases d <;> simp [isNonD]
def jointD (s0 s1 : List ZZ) (wd : Str) : D := if (isNonD (sightD s0 wd) && isNonD (sightD s1 wd)) = true then .non else .tup [sightD s0 wd, sightD s1 wd]
theorem look_some2 {zs : ZZ} {y z : Str} (h : look zs y = some z) : (y, z) ∈ zs := by
  unfold look at h
  cases e : zs.find? fun p => decide (p.1 = y) with
  | none => rw [e] at h; cases h
  | some p =>
    rw [e] at h
    cases h
    have h1 := List.find?_some e
    have h2 := List.mem_of_find?_eq_some e
    have h1 : p.1 = y := of_decide_eq_true h1
    rw [← h1]
    exact h2
theorem sight_pl {ss : List ZZ} {wd : Str} (l : ss.length ≤ 100) (h : ∀ zs ∈ ss, ∀ q ∈ zs, NameOk q.2) : D.pl 1 (sightD ss wd) = true := by
  unfold sightD
  split
  · rfl
  · refine pl_tup (by rw [List.length_map]; omega) fun d hd => ?_
    obtain ⟨zs, hz, rfl⟩ := List.mem_map.mp hd
    cases e : look zs wd with
    | none => rfl
    | some z => exact pl_name (h zs hz _ (look_some2 e))
section
variable {P : Program} {w : World} {K : PySem.W.Frag} {mg : Str → Option Value} {base : Heap} {CB CI CS CL CV CP CN fO pN pP gN gP : Addr} {fdO fdN fdP : FuncData}
abbrev sView_sight : Stmt := inClass (topS 33) 2
abbrev nView_sight : List Str := ["self", "reader", "word", "pair"]
theorem scView_sight : FnScope nView_sight ["self", "reader", "word"] (defScope sView_sight) := ⟨rfl, rfl, rfl, by decide +kernel, rfl, by decide +kernel, by decide +kernel⟩
def spSightV (CV : Addr) : ASp := fun bs Q _ => ∃ (s0 s1 : List ZZ) (w0 w1 : List Str) (rd : D) (wd : Str), bs = [.st (.obj CV (vwF s0 s1 w0 w1)), .st rd, .st (.str wd)] ∧ s0.length ≤ 100 ∧ s1.length ≤ 100 ∧ (∀ zs ∈ s0, ∀ q ∈ zs, NameOk q.2) ∧ (∀ zs ∈ s1, ∀ q ∈ zs, NameOk q.2) ∧
  ((rd = .int 0 ∧ Q (sightD s0 wd)) ∨ (rd = .int 1 ∧ Q (sightD s1 wd)) ∨ (rd = .str "both" ∧ Q (jointD s0 s1 wd)))
theorem ok_sightV {f : Addr} {fd : FuncData} (kV : VwT K CV fO fdO) (GOwn : FnOk P w K mg base CX0 1 fO fdO ["self", "post", "word"] (cSp K (spOwnA CV))) (F : Fun K "sight" "View.sight" sView_sight f fd) (hBoth : mg "BOTH" = some (.str "both" tok)) : FnOk P w K mg base CX0 2 f fd ["self", "reader", "word"] (cSp K (spSightV CV)) := by
  refine F.ok scView_sight (fun vs H Q E h => cSp_len (fun bs Q X h => by obtain ⟨a, b, c, d, e, f, rfl, _⟩ := h; rfl) h) (fun cdv A outer s H vs Q E hr h => ?_)
  refine ⟨_, (pss_cons (ps_if (pt_cmpR op_ne (pv 1) (pe_glob (v := .str "both") (by rfl) hBoth ⟨_, rfl⟩) (nomark _)) (pss_one (ps_ret (pe_meth (pv 0) kV.cl kV.mO GOwn (hr.mono (by decide)) kV.bO .nil pass0 (pa_cons (pv 1) (pa_cons (pv 2) pa_nil))))) pss_nil)
      (pss_cons (ps_set (i := 3) scView_sight.nd rfl (Or.inl rfl) (pe_tup (pa_cons (pe_meth (pv 0) kV.cl kV.mO GOwn (hr.mono (by decide)) kV.bO .nil pass0 (pa_cons pe_int (pa_cons (pv 2) pa_nil))) (pa_cons (pe_meth (pv 0) kV.cl kV.mO GOwn (hr.mono (by decide)) kV.bO .nil pass0 (pa_cons pe_int (pa_cons (pv 2) pa_nil))) pa_nil))))
      (pss_one (ps_ret (pe_ifExp (pt_cmpR (op_eqD hr.units) (pv 3) (pe_tup (pa_cons pe_non (pa_cons pe_non pa_nil))) (nomark _)) pe_non (pv 3)))))), ?_⟩
  refine fn_A ((sa_seq (sa_if (et_test (ea_op r2_ne (ea_var 1) ea_cS)) (sa_ret (ea_meth [] (ea_var 0) (el_cons (ea_var 1) (el_cons (ea_var 2) el_nil)))) sa_next)
      (sa_seq (sa_set 3 (ea_tup (el_cons (ea_meth [] (ea_var 0) (el_cons ea_cI (el_cons (ea_var 2) el_nil))) (el_cons (ea_meth [] (ea_var 0) (el_cons ea_cI (el_cons (ea_var 2) el_nil))) el_nil))))
      (sa_ret (ea_ifE (et_test (ea_op r2_eqP (ea_var 3) (ea_tup (el_cons ea_cN (el_cons ea_cN el_nil))))) ea_cN (ea_var 3)))))) h fun bs Qa Xa h => ?_
  obtain ⟨s0, s1, w0, w1, rd, wd, rfl, l0, l1, o0, o1, h⟩ := h
  rcases h with ⟨rfl, q⟩ | ⟨rfl, q⟩ | ⟨rfl, q⟩
  · array_get_dec
    exact ⟨rfl, rfl, s0, s1, w0, w1, 0, wd, rfl, .inl rfl, l0, l1, q⟩
  · array_get_dec
    exact ⟨rfl, rfl, s0, s1, w0, w1, 1, wd, rfl, .inr rfl, l0, l1, q⟩
  · array_get_dec
    rw [decide_eq_true (show ("both" : Str) = "both" from rfl)]
    array_get_dec
    refine ⟨rfl, rfl, s0, s1, w0, w1, 0, wd, rfl, .inl rfl, l0, l1, ?_⟩
    refine ⟨rfl, rfl, s0, s1, w0, w1, 1, wd, rfl, .inr rfl, l0, l1, ?_⟩
    rw [if_pos rfl, if_neg (by decide)]
    array_get_dec
    refine ⟨pl_le (m := 2) (by decide) (pl_tup (by simp) fun d hd => ?_), rfl, fun b hb => ?_⟩
    · simp only [List.mem_cons, List.not_mem_nil, or_false] at hd
      rcases hd with rfl | rfl
      · exact sight_pl l0 o0
      · exact sight_pl l1 o1
    array_get_dec
    have hb : b = true ↔ (isNonD (sightD s0 wd) && isNonD (sightD s1 wd)) = true := hb.trans (by rw [Bool.and_eq_true, isNonD_iff, isNonD_iff]; simp)
    unfold jointD at q
    cases b with
    | true =>
      rw [if_pos (hb.mp rfl)] at q
      exact q
    | false =>
      rw [if_neg (fun c => by cases hb.mpr c)] at q
      exact q
end
/-! ### a view while it is made -/
structure VwS (K : PySem.W.Frag) (o : Option Addr) (S0 H0 : Hp) (CV dx x A Bq : Addr) (a l : Bool → Addr) (s : Bool → List ZZ) (ws : Bool → List Str) (S H : Hp) : Prop where
  gr : GrO o S0 H0 S H
  wl : Wl o S H
  nd : [A, a false, a true, Bq, l false, l true].Nodup
  fr : ∀ y ∈ [A, a false, a true, Bq, l false, l true], H0 y = none ∧ S y = none ∧ o ≠ some y
  fx : S x = none ∧ o ≠ some x ∧ H0 x = none
  hx : H x = some (.ins CV dx [("sensors", .ref A), ("locked", .ref Bq)])
  hA : H A = some (.lst [.ref (a false), .ref (a true)])
  ha : ∀ b, ∃ xs, H (a b) = some (.lst xs) ∧ RepL K S xs ((s b).map fun z => D.dK (zD z))
  hB : H Bq = some (.lst [.ref (l false), .ref (l true)])
  kl : ∀ b, H (l b) = some (.lst ((ws b).map V.str))
def upB {α : Type} (f : Bool → α) (b : Bool) (v : α) : Bool → α := fun c => if c = b then v else f c
theorem upB_same {α : Type} {f : Bool → α} {b : Bool} {v : α} : upB f b v b = v := if_pos rfl
theorem upB_ne {α : Type} {f : Bool → α} {b c : Bool} {v : α} (h : c ≠ b) : upB f b v c = f c := if_neg h
section
variable {K : PySem.W.Frag} {o : Option Addr} {S0 H0 : Hp} {CV dx x A Bq : Addr} {a l : Bool → Addr} {s : Bool → List ZZ} {ws : Bool → List Str} {S H : Hp}
theorem VwS.ma (b : Bool) : a b ∈ [A, a false, a true, Bq, l false, l true] := by cases b <;> simp
theorem VwS.ml (b : Bool) : l b ∈ [A, a false, a true, Bq, l false, l true] := by cases b <;> simp
theorem VwS.step (v : VwS K o S0 H0 CV dx x A Bq a l s ws S H) {S2 H2 : Hp} (g : GrO o S H S2 H2) (w : Wl o S2 H2) : VwS K o S0 H0 CV dx x A Bq a l s ws S2 H2 := by
  have fr2 : ∀ y ∈ [A, a false, a true, Bq, l false, l true], H y ≠ none := fun y hy => by
    simp only [List.mem_cons, List.not_mem_nil, or_false] at hy
    rcases hy with rfl | rfl | rfl | rfl | rfl | rfl
    · exact ne_none v.hA
    · obtain ⟨xs, h, _⟩ := v.ha false; exact ne_none h
    · obtain ⟨xs, h, _⟩ := v.ha true; exact ne_none h
    · exact ne_none v.hB
    · exact ne_none (v.kl false)
    · exact ne_none (v.kl true)
  refine ⟨v.gr.trans g, w, v.nd, fun y hy => ⟨(v.fr y hy).1, g.fr y (v.fr y hy).2.1 (fr2 y hy), (v.fr y hy).2.2⟩, ⟨g.fr x v.fx.1 (ne_none v.hx), v.fx.2⟩, g.rs x _ v.fx.2.1 v.hx, g.rs A _ (v.fr A (by simp)).2.2 v.hA, fun b => ?_, g.rs Bq _ (v.fr Bq (by simp)).2.2 v.hB, fun b => g.rs (l b) _ (v.fr _ (VwS.ml b)).2.2 (v.kl b)⟩
  obtain ⟨xs, h1, h2⟩ := v.ha b
  exact ⟨xs, g.rs (a b) _ (v.fr _ (VwS.ma b)).2.2 h1, RepL.same g.st h2⟩
theorem VwS.xne (v : VwS K o S0 H0 CV dx x A Bq a l s ws S H) {y : Addr} {xs : List V} (h : H y = some (.lst xs)) : x ≠ y := fun e => by
  rw [← e, v.hx] at h
  cases h
theorem VwS.nes (v : VwS K o S0 H0 CV dx x A Bq a l s ws S H) : (∀ b, A ≠ a b) ∧ A ≠ Bq ∧ (∀ b, A ≠ l b) ∧ (∀ b, a b ≠ Bq) ∧ (∀ b c, a b ≠ l c) ∧ (∀ b, Bq ≠ l b) ∧ a false ≠ a true ∧ l false ≠ l true := by
  have nd := v.nd
  simp only [List.nodup_cons, List.mem_cons, List.not_mem_nil, or_false, not_or] at nd
  obtain ⟨⟨n1, n2, n3, n4, n5⟩, ⟨n6, n7, n8, n9⟩, ⟨n10, n11, n12⟩, ⟨n13, n14⟩, n15, _⟩ := nd
  refine ⟨fun b => ?_, n3, fun b => ?_, fun b => ?_, fun b c => ?_, fun b => ?_, n6, n15⟩
  · cases b; exact n1; exact n2
  · cases b; exact n4; exact n5
  · cases b; exact n7; exact n10
  · cases b <;> cases c
    · exact n8
    · exact n9
    · exact n11
    · exact n12
  · cases b; exact n13; exact n14
/-- a sensor more -/
theorem VwS.app (v : VwS K o S0 H0 CV dx x A Bq a l s ws S H) (b : Bool) {xs : List V} (hb : H (a b) = some (.lst xs)) {y : V} {z : ZZ} (r : Rep K S y (.dK (zD z))) : VwS K o S0 H0 CV dx x A Bq a l (upB s b (s b ++ [z])) ws S (upd H (a b) (.lst (xs ++ [y]))) := by
  obtain ⟨m1, m2, m3, m4, m5, m6, m7, m8⟩ := v.nes
  have f := v.fr _ (VwS.ma (l := l) (A := A) (Bq := Bq) b)
  refine ⟨v.gr.put f.1, v.wl.put f.2.1 f.2.2, v.nd, v.fr, v.fx, (upd_ne (v.xne hb)).trans v.hx, (upd_ne (m1 b)).trans v.hA, fun c => ?_, (upd_ne (m4 b).symm).trans v.hB, fun c => (upd_ne (m5 b c).symm).trans (v.kl c)⟩
  by_cases e : c = b
  · subst e
    obtain ⟨xs', h1, h2⟩ := v.ha c
    rw [hb] at h1
    cases h1
    refine ⟨_, upd_same, ?_⟩
    rw [upB_same, List.map_append]
    exact h2.snoc r
  · obtain ⟨xs', h1, h2⟩ := v.ha c
    rw [upB_ne e]
    refine ⟨xs', (upd_ne ?_).trans h1, h2⟩
    cases b <;> cases c
    · exact absurd rfl e
    · exact m7.symm
    · exact m7
    · exact absurd rfl e
/-- other words: a new list q -/
theorem VwS.sto (v : VwS K o S0 H0 CV dx x A Bq a l s ws S H) (b : Bool) {q : Addr} (hq : H q = none) (zs : List Str) : VwS K o S0 H0 CV dx x A Bq a (upB l b q) s (upB ws b zs) S (upd (upd H q (.lst (zs.map V.str))) Bq (.lst ([V.ref (l false), V.ref (l true)].set b.toNat (.ref q)))) := by
  obtain ⟨m1, m2, m3, m4, m5, m6, m7, m8⟩ := v.nes
  have fB := v.fr Bq (by simp)
  have nq : ∀ {y : Addr} {u : HO}, H y = some u → y ≠ q := fun h e => by rw [e, hq] at h; cases h
  have q0 : H0 q = none := v.gr.bk hq
  have qs : S q = none := v.wl.1.free hq
  have qo : o ≠ some q := v.wl.np hq
  have la : ∀ c, a c ≠ q := fun c => let ⟨_, h, _⟩ := v.ha c; nq h
  have keep : ∀ {y : Addr} {u : HO}, y ≠ Bq → H y = some u → upd (upd H q (.lst (zs.map V.str))) Bq (.lst ([V.ref (l false), V.ref (l true)].set b.toNat (.ref q))) y = some u := fun h1 h2 => (upd_ne h1).trans ((upd_ne (nq h2)).trans h2)
  have nBq : Bq ≠ q := nq v.hB
  have lmem : ∀ c, upB l b q c = q ∨ upB l b q c = l c := fun c => by
    by_cases e : c = b
    · exact .inl (by rw [e, upB_same])
    · exact .inr (upB_ne e)
  refine ⟨(v.gr.put q0).put fB.1, (v.wl.put qs qo).put fB.2.1 fB.2.2, ?_, fun y hy => ?_, v.fx, keep (v.xne v.hB) v.hx, keep m2 v.hA, fun c => ?_, ?_, fun c => ?_⟩
  · have e1 : ∀ c, A ≠ upB l b q c := fun c => by rcases lmem c with e | e <;> rw [e]; exact nq v.hA; exact m3 c
    have e2 : ∀ c d, a c ≠ upB l b q d := fun c d => by rcases lmem d with e | e <;> rw [e]; exact la c; exact m5 c d
    have e3 : ∀ c, Bq ≠ upB l b q c := fun c => by rcases lmem c with e | e <;> rw [e]; exact nBq; exact m6 c
    have e4 : upB l b q false ≠ upB l b q true := by
      cases b
      · rw [upB_same, upB_ne (by decide)]
        exact (nq (v.kl true)).symm
      · rw [upB_same, upB_ne (by decide)]
        exact nq (v.kl false)
    simp only [List.nodup_cons, List.mem_cons, List.not_mem_nil, or_false, not_or]
    exact ⟨⟨m1 false, m1 true, m2, e1 false, e1 true⟩, ⟨m7, m4 false, e2 false false, e2 false true⟩, ⟨m4 true, e2 true false, e2 true true⟩, ⟨e3 false, e3 true⟩, e4, by simp, List.nodup_nil⟩
  · simp only [List.mem_cons, List.not_mem_nil, or_false] at hy
    rcases hy with rfl | rfl | rfl | rfl | rfl | rfl
    · exact v.fr _ (by simp)
    · exact v.fr _ (by simp)
    · exact v.fr _ (by simp)
    · exact v.fr _ (by simp)
    · rcases lmem false with e | e <;> rw [e]
      · exact ⟨q0, qs, qo⟩
      · exact v.fr _ (by simp)
    · rcases lmem true with e | e <;> rw [e]
      · exact ⟨q0, qs, qo⟩
      · exact v.fr _ (by simp)
  · obtain ⟨xs', h1, h2⟩ := v.ha c
    exact ⟨xs', keep (m4 c) h1, h2⟩
  · rw [upd_same]
    cases b <;> rfl
  · by_cases e : c = b
    · rw [e, upB_same, upB_same, upd_ne nBq.symm]
      exact upd_same
    · rw [upB_ne e, upB_ne e]
      exact keep (m6 c).symm (v.kl c)
end
end WW

set_option Elab.async false
set_option linter.all false
set_option maxRecDepth 100000
set_option maxHeartbeats 4000000
namespace WW
open PySem PySem.Spec PyProof.Rows L2
theorem upd_none {H : Hp} {a y : Addr} {u : HO} (h : upd H a u y = none) : y ≠ a ∧ H y = none := by
  by_cases e : y = a
  · subst e; rw [upd_same] at h; cases h
  · exact ⟨e, by rw [upd_ne e] at h; exact h⟩
theorem Kp.refl {o : Option Addr} {H : Hp} : Kp o H H := fun _ _ _ h => h
section
variable {K : PySem.W.Frag} {o : Option Addr} {S0 H0 : Hp} {CV dx x A Bq : Addr} {a l : Bool → Addr} {s : Bool → List ZZ} {ws : Bool → List Str} {S H : Hp}
/-- other words: a list q that stands already -/
theorem VwS.sto2 (v : VwS K o S0 H0 CV dx x A Bq a l s ws S H) (b : Bool) {q : Addr} {zs : List Str} (hq : H q = some (.lst (zs.map V.str))) (q0 : H0 q = none) (qs : S q = none) (qo : o ≠ some q) (qn : ∀ y ∈ [A, a false, a true, Bq, l false, l true], y ≠ q) :
    VwS K o S0 H0 CV dx x A Bq a (upB l b q) s (upB ws b zs) S (upd H Bq (.lst ([V.ref (l false), V.ref (l true)].set b.toNat (.ref q)))) := by
  obtain ⟨m1, m2, m3, m4, m5, m6, m7, m8⟩ := v.nes
  have fB := v.fr Bq (by simp)
  have nA : A ≠ q := qn A (by simp)
  have nBq : Bq ≠ q := qn Bq (by simp)
  have la : ∀ c, a c ≠ q := fun c => qn _ (VwS.ma c)
  have ll : ∀ c, l c ≠ q := fun c => qn _ (VwS.ml c)
  have keep : ∀ {y : Addr} {u : HO}, y ≠ Bq → H y = some u → upd H Bq (.lst ([V.ref (l false), V.ref (l true)].set b.toNat (.ref q))) y = some u := fun h1 h2 => (upd_ne h1).trans h2
  have lmem : ∀ c, upB l b q c = q ∨ upB l b q c = l c := fun c => by
    by_cases e : c = b
    · exact .inl (by rw [e, upB_same])
    · exact .inr (upB_ne e)
  refine ⟨v.gr.put fB.1, v.wl.put fB.2.1 fB.2.2, ?_, fun y hy => ?_, v.fx, keep (v.xne v.hB) v.hx, keep m2 v.hA, fun c => ?_, ?_, fun c => ?_⟩
  · have e1 : ∀ c, A ≠ upB l b q c := fun c => by rcases lmem c with e | e <;> rw [e]; exact nA; exact m3 c
    have e2 : ∀ c d, a c ≠ upB l b q d := fun c d => by rcases lmem d with e | e <;> rw [e]; exact la c; exact m5 c d
    have e3 : ∀ c, Bq ≠ upB l b q c := fun c => by rcases lmem c with e | e <;> rw [e]; exact nBq; exact m6 c
    have e4 : upB l b q false ≠ upB l b q true := by
      cases b
      · rw [upB_same, upB_ne (by decide)]
        exact (ll true).symm
      · rw [upB_same, upB_ne (by decide)]
        exact ll false
    simp only [List.nodup_cons, List.mem_cons, List.not_mem_nil, or_false, not_or]
    exact ⟨⟨m1 false, m1 true, m2, e1 false, e1 true⟩, ⟨m7, m4 false, e2 false false, e2 false true⟩, ⟨m4 true, e2 true false, e2 true true⟩, ⟨e3 false, e3 true⟩, e4, by simp, List.nodup_nil⟩
  · simp only [List.mem_cons, List.not_mem_nil, or_false] at hy
    rcases hy with rfl | rfl | rfl | rfl | rfl | rfl
    · exact v.fr _ (by simp)
    · exact v.fr _ (by simp)
    · exact v.fr _ (by simp)
    · exact v.fr _ (by simp)
    · rcases lmem false with e | e <;> rw [e]
      · exact ⟨q0, qs, qo⟩
      · exact v.fr _ (by simp)
    · rcases lmem true with e | e <;> rw [e]
      · exact ⟨q0, qs, qo⟩
      · exact v.fr _ (by simp)
  · obtain ⟨xs', h1, h2⟩ := v.ha c
    exact ⟨xs', keep (m4 c) h1, h2⟩
  · rw [upd_same]
    cases b <;> rfl
  · by_cases e : c = b
    · rw [e, upB_same, upB_same]
      exact keep nBq.symm hq
    · rw [upB_ne e, upB_ne e]
      exact keep (m6 c).symm (v.kl c)
/-- at the start -/
theorem VwS.init {a0 a1 l0 l1 : Addr} (w : Wl o S H) (hx : H x = some (.ins CV dx [])) (sx : S x = none) (np : o ≠ some x) (h0 : H a0 = none) (h1 : upd H a0 (.lst []) a1 = none) (h2 : upd (upd H a0 (.lst [])) a1 (.lst []) A = none)
    {H4 : Hp} (e4 : H4 = upd (upd (upd (upd H a0 (.lst [])) a1 (.lst [])) A (.lst [.ref a0, .ref a1])) x (.ins CV dx [("sensors", .ref A)])) (h4 : H4 l0 = none) (h5 : upd H4 l0 (.lst []) l1 = none) (h6 : upd (upd H4 l0 (.lst [])) l1 (.lst []) Bq = none) :
    VwS K o S (offA x H) CV dx x A Bq (fun b => cond b a1 a0) (fun b => cond b l1 l0) (fun _ => []) (fun _ => []) S (upd (upd (upd (upd H4 l0 (.lst [])) l1 (.lst [])) Bq (.lst [.ref l0, .ref l1])) x (.ins CV dx [("sensors", .ref A), ("locked", .ref Bq)])) := by
  obtain ⟨n1, h1⟩ := upd_none h1
  obtain ⟨n2, h2⟩ := upd_none h2
  obtain ⟨n3, h2⟩ := upd_none h2
  rw [e4] at h4
  obtain ⟨n4, k4⟩ := upd_none h4
  obtain ⟨n5, k4⟩ := upd_none k4
  obtain ⟨n6, k4⟩ := upd_none k4
  obtain ⟨n7, k4⟩ := upd_none k4
  rw [e4] at h5
  obtain ⟨n8, k5⟩ := upd_none h5
  obtain ⟨n9, k5⟩ := upd_none k5
  obtain ⟨n10, k5⟩ := upd_none k5
  obtain ⟨n11, k5⟩ := upd_none k5
  obtain ⟨n12, k5⟩ := upd_none k5
  rw [e4] at h6
  obtain ⟨n13, k6⟩ := upd_none h6
  obtain ⟨n14, k6⟩ := upd_none k6
  obtain ⟨n15, k6⟩ := upd_none k6
  obtain ⟨n16, k6⟩ := upd_none k6
  obtain ⟨n17, k6⟩ := upd_none k6
  obtain ⟨n18, k6⟩ := upd_none k6
  subst e4
  have nx : ∀ {y : Addr}, H y = none → y ≠ x := fun h e => by rw [e, hx] at h; cases h
  have off : ∀ {y : Addr}, H y = none → offA x H y = none := fun h => by rw [offA_ne (nx h)]; exact h
  have g0 : GrO o S (offA x H) S H := ⟨Same.refl _, fun a u _ h => offA_sub _ _ h, fun _ h _ => h, fun a h => by
    cases q : offA x H a with
    | none => exact absurd q h
    | some u => exact ne_none (offA_sub _ _ q)⟩
  have fr : ∀ {y : Addr}, H y = none → S y = none ∧ o ≠ some y := fun h => ⟨w.1.free h, w.np h⟩
  refine ⟨(((((((g0.put (off h0)).put (off h1)).put (off h2)).put offA_same).put (off k4)).put (off k5)).put (off k6)).put offA_same, (((((((w.put (fr h0).1 (fr h0).2).put (fr h1).1 (fr h1).2).put (fr h2).1 (fr h2).2).put sx np).put (fr k4).1 (fr k4).2).put (fr k5).1 (fr k5).2).put (fr k6).1 (fr k6).2).put sx np, ?_, fun y hy => ?_, ⟨sx, np, offA_same⟩, upd_same, ?_, fun b => ?_, ?_, fun b => ?_⟩
  · simp only [cond_false, cond_true, List.nodup_cons, List.mem_cons, List.not_mem_nil, or_false, not_or]
    exact ⟨⟨n3, n2, n16.symm, n5.symm, n10.symm⟩, ⟨n1.symm, n18.symm, n7.symm, n12.symm⟩, ⟨n17.symm, n6.symm, n11.symm⟩, ⟨n14, n13⟩, n8.symm, by simp, List.nodup_nil⟩
  · simp only [cond_false, cond_true, List.mem_cons, List.not_mem_nil, or_false] at hy
    rcases hy with rfl | rfl | rfl | rfl | rfl | rfl
    · exact ⟨off h2, fr h2⟩
    · exact ⟨off h0, fr h0⟩
    · exact ⟨off h1, fr h1⟩
    · exact ⟨off k6, fr k6⟩
    · exact ⟨off k4, fr k4⟩
    · exact ⟨off k5, fr k5⟩
  · rw [upd_ne (nx h2), upd_ne n16.symm, upd_ne n10.symm, upd_ne n5.symm, upd_ne (nx h2), upd_same]
    rfl
  · refine ⟨[], ?_, .nil⟩
    cases b
    · show upd _ _ _ a0 = _
      rw [upd_ne (nx h0), upd_ne n18.symm, upd_ne n12.symm, upd_ne n7.symm, upd_ne (nx h0), upd_ne n3.symm, upd_ne n1.symm, upd_same]
    · show upd _ _ _ a1 = _
      rw [upd_ne (nx h1), upd_ne n17.symm, upd_ne n11.symm, upd_ne n6.symm, upd_ne (nx h1), upd_ne n2.symm, upd_same]
  · rw [upd_ne (nx k6), upd_same]
    rfl
  · cases b
    · show upd _ _ _ l0 = _
      rw [upd_ne (nx k4), upd_ne n14.symm, upd_ne n8.symm, upd_same]
      rfl
    · show upd _ _ _ l1 = _
      rw [upd_ne (nx k5), upd_ne n13.symm, upd_same]
      rfl
end
end WW

set_option Elab.async false
set_option linter.all false
set_option maxRecDepth 100000
set_option maxHeartbeats 4000000
namespace WW
open PySem PySem.Spec PyProof.Rows L2
/-- what a row shows, if it is a sensor at the post b -/
def showAt (rows : List Rw) (b : Bool) (c : Str) : Option ZZ := match rowAt rows c with
  | .sens _ p zs _ => if p = cond b 1 0 then some (showZ zs) else none
  | .lock _ _ _ _ => none
def sOf (rows : List Rw) (cs : List Str) (b : Bool) : List ZZ := cs.filterMap (showAt rows b)
def wStep (rows : List Rw) (b : Bool) (ws : List Str) (c : Str) : List Str := match rowAt rows c with
  | .sens _ _ _ _ => ws
  | .lock _ p w _ => if p = cond b 1 0 then sortS (ws ++ w.mergeSort leS) else ws
def wOf (rows : List Rw) (cs : List Str) (b : Bool) : List Str := cs.foldl (wStep rows b) []
theorem sOf_snoc (rows : List Rw) (cs : List Str) (c : Str) (b : Bool) : sOf rows (cs ++ [c]) b = sOf rows cs b ++ (showAt rows b c).toList := by
  unfold sOf
  rw [List.filterMap_append]
  cases h : showAt rows b c <;> simp [h]
theorem wOf_snoc (rows : List Rw) (cs : List Str) (c : Str) (b : Bool) : wOf rows (cs ++ [c]) b = wStep rows b (wOf rows cs b) c := by
  unfold wOf
  rw [List.foldl_append]
  rfl
theorem sOf_len (rows : List Rw) (cs : List Str) (b : Bool) : (sOf rows cs b).length ≤ cs.length := List.length_filterMap_le _ _
section
variable {P : Program} {w : World} {K : PySem.W.Frag} {mg : Str → Option Value} {base : Heap} {CB CI CS CL CV CP CN fO pN pP gN gP : Addr} {fdO fdN fdP : FuncData}
/-- the place of one instrument -/
abbrev tPost (K : PySem.W.Frag) (CS CL : Addr) : TE := tEi (tProp CS (cSp K (spFldP K "place")) [] E0 (tVar 4)) (tProp CL (cSp K (spFldP K "place")) [] E0 (tVar 4))
abbrev tSens (K : PySem.W.Frag) (CS CL : Addr) : TS := tDrop (tBM K "list" rAppend (tOp (rIxL K) (tFld K (tVar 0) "sensors") (tPost K CS CL)) (tCons (tFld K (tVar 4) "shows") tNil))
abbrev tLock (P : Program) (w : World) (K : PySem.W.Frag) (CS CL : Addr) : TS := tAsg (tCB (rSortedSt P w) (tCons (tCB (rSetOfS K P w) (tCons (tOp rCat (tOp (rIxL K) (tFld K (tVar 0) "locked") (tPost K CS CL)) (tFld K (tVar 4) "stops")) tNil)) tNil)) (gSub (tFld K (tVar 0) "locked") (tPost K CS CL) rSetL)
abbrev tOne (P : Program) (w : World) (K : PySem.W.Frag) (CS CL : Addr) : TS := tSeq (tAsg (tDGet (tFld K (tVar 1) "shelf") (tVar 3)) (gName 4)) (tIfS (tB (tCB (rIsi K) (tCons (tVar 4) (tCons (tC (V.ref CS)) tNil)))) (tSens K CS CL) (tLock P w K CS CL))
/-- a view that is made, and the names about it -/
structure VwE (K : PySem.W.Frag) (o : Option Addr) (S0 H0 : Hp) (CV x : Addr) (rows : List Rw) (cs : List Str) (σ : L2.St) (env : AEnv) (S H : Hp) : Prop where
  ex : ∃ dx A Bq a l, VwS K o S0 H0 CV dx x A Bq a l (sOf rows cs) (wOf rows cs) S H
  s0 : σ[0]? = some (some (.ref x))
  es : ES K o H0 S H σ env
  st : ∀ i b, slot env i = some b → ∃ d, b = .st d
theorem ES.put {o : Option Addr} {H0 S H H' : Hp} {σ : L2.St} {env : AEnv} (e : ES K o H0 S H σ env) (st : ∀ i b, slot env i = some b → ∃ d, b = .st d) (w : Wl o S H') (k : Kp o H0 H') : ES K o H0 S H' σ env := ⟨w, k, e.len, fun i b q => by
  obtain ⟨v, q1, q2⟩ := e.sl i b q
  obtain ⟨d, rfl⟩ := st i b q
  exact ⟨v, q1, q2⟩⟩
theorem VwE.step {o : Option Addr} {S0 H0 : Hp} {x : Addr} {rows : List Rw} {cs : List Str} {σ : L2.St} {env : AEnv} {S H S' H' : Hp} (v : VwE K o S0 H0 CV x rows cs σ env S H) (g : GrO o S H S' H') (w : Wl o S' H') : VwE K o S0 H0 CV x rows cs σ env S' H' := by
  obtain ⟨dx, A, Bq, a, l, h⟩ := v.ex
  exact ⟨⟨dx, A, Bq, a, l, h.step g w⟩, v.s0, v.es.mono g w, v.st⟩
theorem post_go (kI : InsT K mg CI CS CL pN pP gN gP fdN fdP) {o : Option Addr} {H0 : Hp} {σ : L2.St} {env : AEnv} {S H : Hp} {r : Rw} {Qc : VK} (es : ES K o H0 S H σ env) (hs : slot env 4 = some (.st (insD CS CL r)))
    (k : ∀ S' H', GrO o S H S' H' → Wl o S' H' → Qc (.int r.po) H') : tPost K CS CL σ H Qc := by
  refine ea_ei (W := W1) (ea_prop false (ea_var 4)) (ea_prop false (ea_var 4)) o H0 S H σ env (fun _ _ _ => True) (fun b => b = .st (.int r.po)) Qc es (post_of kI hs rfl) (fun v b S' H' g w hr e => ?_) xl1
  subst e
  rw [rep_int hr]
  exact k S' H' g w
theorem at_two {x y : Addr} {p : Int} {b : Bool} (hp : p = cond b 1 0) : atI [V.ref x, V.ref y] p = some (.ref (cond b y x)) ∧ ixN 2 p = some b.toNat := by
  subst hp
  cases b <;> exact ⟨rfl, rfl⟩
theorem po_b {r : Rw} (h : RwOk r) : ∃ b : Bool, r.po = cond b 1 0 := by
  have := h.po
  by_cases e : r.po = 0
  · exact ⟨false, e⟩
  · exact ⟨true, by show r.po = 1; omega⟩
theorem sens_go (kV : VwT K CV fO fdO) (kI : InsT K mg CI CS CL pN pP gN gP fdN fdP) {o : Option Addr} {S0 H0 : Hp} {x : Addr} {rows : List Rw} {cs : List Str} {c : Str} {σ : L2.St} {env : AEnv} {S H : Hp} {n : Str} {p : Int} {zs : ZZ} {f : Int} {Dc : Ends} (rok : RwOk (.sens n p zs f)) (hc : rowAt rows c = .sens n p zs f) (hl : cs.length ≤ 6) (hs : slot env 4 = some (.st (insD CS CL (.sens n p zs f)))) (v : VwE K o S0 H0 CV x rows cs σ env S H)
    (k : ∀ S' H', VwE K o S0 H0 CV x rows (cs ++ [c]) σ env S' H' → Dc.nx σ H') : tSens K CS CL Dc σ H := by
  obtain ⟨dx, A, Bq, a, l, h⟩ := v.ex
  obtain ⟨b, hb⟩ := po_b rok
  have hb : p = cond b 1 0 := hb
  refine ⟨_, v.s0, x, CV, dx, _, .ref A, rfl, h.hx, kV.cl, kV.nS, rfl, post_go kI v.es hs fun S1 H1 g1 w1 => ?_⟩
  have h1 := h.step g1 w1
  have es1 := v.es.mono g1 w1
  have ab : cond b (a true) (a false) = a b := by cases b <;> rfl
  refine ⟨A, _, p, .ref (a b), rfl, rfl, SqL.of h1.hA, by rw [(at_two hb).1, ab], ?_⟩
  obtain ⟨xs, hx1, hx2⟩ := h1.ha b
  refine ⟨.inl ⟨rfl, xs, SqL.of hx1⟩, ?_⟩
  refine ea_fld (W := W1) (ea_var 4) o H0 S1 H1 σ env (fun _ _ _ => True) (fun d => d = .st (.dK (zD (showZ zs)))) _ es1 ?_ (fun y d S2 H2 g2 w2 hr e => ?_) xl1
  · unfold aFld aVar
    rw [hs]
    exact ⟨kI.kS.cl, kI.kS.nS, _, rfl, rfl⟩
  subst e
  have h2 := h1.step g2 w2
  have hx3 := g2.rs (a b) _ (h1.fr _ (VwS.ma b)).2.2 hx1
  have hl2 : xs.length ≤ 6 := by
    have := hx2.len
    rw [List.length_map] at this
    have := sOf_len rows cs b
    omega
  refine ⟨a b, xs, y, rfl, rfl, hx3, small1000 (by omega), ?_⟩
  have h3 := h2.app b hx3 hr
  refine k S2 _ ⟨⟨dx, A, Bq, a, l, ?_⟩, v.s0, ?_, v.st⟩
  · have e1 : upB (sOf rows cs) b (sOf rows cs b ++ [showZ zs]) = sOf rows (cs ++ [c]) := by
      funext b'
      rw [sOf_snoc]
      unfold showAt
      rw [hc]
      by_cases e : b' = b
      · subst e
        rw [upB_same]
        simp only [hb, if_true]
        rfl
      · rw [upB_ne e]
        have : ¬ (cond b 1 0 : Int) = cond b' 1 0 := by cases b <;> cases b' <;> simp at e ⊢
        simp only [hb, if_neg this]
        simp
    have e2 : wOf rows (cs ++ [c]) = wOf rows cs := by
      funext b'
      rw [wOf_snoc]
      unfold wStep
      rw [hc]
    rw [← e1, e2]
    exact h3
  · exact (es1.mono g2 w2).put v.st h3.wl (h3.gr.kp Kp.refl)
theorem lock_go (kV : VwT K CV fO fdO) (kI : InsT K mg CI CS CL pN pP gN gP fdN fdP) {o : Option Addr} {S0 H0 : Hp} {x : Addr} {rows : List Rw} {cs : List Str} {c : Str} {σ : L2.St} {env : AEnv} {S H : Hp} {n : Str} {p : Int} {zs : List Str} {f : Int} {Dc : Ends} (rok : RwOk (.lock n p zs f)) (hc : rowAt rows c = .lock n p zs f) (hl : ∀ b, (wOf rows cs b).length ≤ 36) (hs : slot env 4 = some (.st (insD CS CL (.lock n p zs f)))) (v : VwE K o S0 H0 CV x rows cs σ env S H)
    (k : ∀ S' H', VwE K o S0 H0 CV x rows (cs ++ [c]) σ env S' H' → Dc.nx σ H') : tLock P w K CS CL Dc σ H := by
  obtain ⟨dx, A, Bq, a, l, h⟩ := v.ex
  obtain ⟨b, hb⟩ := po_b rok
  have hb : p = cond b 1 0 := hb
  refine ⟨_, v.s0, x, CV, dx, _, .ref Bq, rfl, h.hx, kV.cl, kV.nL, rfl, post_go kI v.es hs fun S1 H1 g1 w1 => ?_⟩
  have h1 := h.step g1 w1
  have es1 := v.es.mono g1 w1
  have ab : cond b (l true) (l false) = l b := by cases b <;> rfl
  refine ⟨Bq, _, p, .ref (l b), rfl, rfl, SqL.of h1.hB, by rw [(at_two hb).1, ab], ?_⟩
  refine ea_fld (W := W1) (ea_var 4) o H0 S1 H1 σ env (fun _ _ _ => True) (fun d => d = .st (.lst ((zs.mergeSort leS).map D.str))) _ es1 ?_ (fun y d S2 H2 g2 w2 hr e => ?_) xl1
  · unfold aFld aVar
    rw [hs]
    exact ⟨kI.kL.cl, kI.kL.nO, _, rfl, rfl⟩
  subst e
  have h2 := h1.step g2 w2
  obtain ⟨y, ys, rfl, hy1, hy2⟩ := rep_lst hr
  rw [repL_strs hy2] at hy1
  have hy1 := w2.1 _ _ hy1
  have l1 := hl b
  have l2 : zs.length ≤ 6 := rok.wl.2
  have l3 : (zs.mergeSort leS).length = zs.length := List.length_mergeSort _
  refine ⟨l b, y, _, _, rfl, rfl, h2.kl b, hy1, by have := small1000 (show (wOf rows cs b).length + zs.length ≤ 1000 by omega); simp only [List.length_map, l3]; omega, fun p1 hp1 => ?_⟩
  have n1 := w2.1.free hp1
  have w3 : Wl o S2 (upd H2 p1 (.lst ((wOf rows cs b).map V.str ++ (zs.mergeSort leS).map V.str))) := w2.put n1 (w2.np hp1)
  have h3 := h2.step (GrO.lay hp1) w3
  refine ⟨p1, wOf rows cs b ++ zs.mergeSort leS, rfl, SqL.of (by rw [upd_same, List.map_append]), by rw [List.length_append]; omega, fun p2 hp2 => ⟨p2, _, rfl, upd_same, fun p3 ys perm hp3 => ?_⟩⟩
  have w4 : Wl o S2 _ := w3.put (u := SetKo P w p2 ((insAll (wOf rows cs b ++ zs.mergeSort leS)).map Sum.inr)) (w3.1.free hp2) (w3.np hp2)
  have h4 := h3.step (GrO.lay hp2) w4
  rw [srtD_strs, sortS_perm perm]
  have w5 : Wl o S2 _ := w4.put (u := .lst ((sortS (wOf rows cs b ++ zs.mergeSort leS)).map V.str)) (w4.1.free hp3) (w4.np hp3)
  have h5 := h4.step (GrO.lay hp3) w5
  have es5 : ES K o H0 S2 _ σ env := (es1.mono g2 w2).put v.st w5 (h5.gr.kp Kp.refl)
  refine ⟨_, v.s0, x, CV, dx, _, .ref Bq, rfl, h5.hx, kV.cl, kV.nL, rfl, post_go kI es5 hs fun S6 H6 g6 w6 => ?_⟩
  have h6 := h5.step g6 w6
  have q1 : H6 p3 = some (.lst ((sortS (wOf rows cs b ++ zs.mergeSort leS)).map V.str)) := g6.rs p3 _ (w4.np hp3) upd_same
  have q2 : S6 p3 = none := g6.fr p3 (w4.1.free hp3) (by rw [upd_same]; intro z; cases z)
  have q3 : ∀ y ∈ [A, a false, a true, Bq, l false, l true], y ≠ p3 := fun y hy e => by
    have y1 : ∀ b, l b ≠ p3 := fun b e => by have := h4.kl b; rw [e, hp3] at this; cases this
    have y2 : ∀ b, a b ≠ p3 := fun b e => by obtain ⟨xs, h, _⟩ := h4.ha b; rw [e, hp3] at h; cases h
    have y3 : A ≠ p3 := fun e => by have := h4.hA; rw [e, hp3] at this; cases this
    have y4 : Bq ≠ p3 := fun e => by have := h4.hB; rw [e, hp3] at this; cases this
    simp only [List.mem_cons, List.not_mem_nil, or_false] at hy
    rcases hy with h | h | h | h | h | h <;> rw [h] at e
    · exact y3 e
    · exact y2 _ e
    · exact y2 _ e
    · exact y4 e
    · exact y1 _ e
    · exact y1 _ e
  have h7 := h6.sto2 b q1 (h4.gr.bk hp3) q2 (w4.np hp3) q3
  refine ⟨Bq, _, p, b.toNat, rfl, rfl, h6.hB, (at_two (x := Bq) (y := Bq) hb).2, ?_⟩
  refine k S6 _ ⟨⟨dx, A, Bq, a, upB l b p3, ?_⟩, v.s0, (es5.mono g6 w6).put v.st h7.wl (h7.gr.kp Kp.refl), v.st⟩
  have e1 : upB (wOf rows cs) b (sortS (wOf rows cs b ++ zs.mergeSort leS)) = wOf rows (cs ++ [c]) := by
    funext b'
    rw [wOf_snoc]
    unfold wStep
    rw [hc]
    by_cases e : b' = b
    · subst e
      rw [upB_same]
      simp only [hb, if_true]
    · rw [upB_ne e]
      have : ¬ (cond b 1 0 : Int) = cond b' 1 0 := by cases b <;> cases b' <;> simp at e ⊢
      simp only [hb, if_neg this]
  have e2 : sOf rows (cs ++ [c]) = sOf rows cs := by
    funext b'
    rw [sOf_snoc]
    unfold showAt
    rw [hc]
    simp
  rw [← e1, e2]
  exact h7
end
end WW

set_option Elab.async false
set_option linter.all false
set_option maxRecDepth 100000
set_option maxHeartbeats 4000000
namespace WW
open PySem PySem.Spec PyProof.Rows L2
theorem rowAt_ok {rows : List Rw} (rok : RwsOk rows) {c : Str} (h : c ∈ rows.map Rw.nm) : ∃ r ∈ rows, r.nm = c ∧ rowAt rows c = r ∧ RwOk r := by
  obtain ⟨r, h1, rfl⟩ := List.mem_map.mp h
  exact ⟨r, h1, rfl, rowAt_mem rok.nd h1, rok.ok r h1⟩
theorem wOf_len {rows : List Rw} (rok : RwsOk rows) (b : Bool) : ∀ {cs : List Str}, (∀ c ∈ cs, c ∈ rows.map Rw.nm) → (wOf rows cs b).length ≤ 6 * cs.length := by
  have key : ∀ (cs : List Str) (acc : List Str), (∀ c ∈ cs, c ∈ rows.map Rw.nm) → (cs.foldl (wStep rows b) acc).length ≤ acc.length + 6 * cs.length := by
    intro cs
    induction cs with
    | nil => intro acc _; simp
    | cons c cs ih =>
      intro acc h
      rw [List.foldl_cons]
      have h1 := ih (wStep rows b acc c) fun c' h' => h c' (List.mem_cons_of_mem _ h')
      have h2 : (wStep rows b acc c).length ≤ acc.length + 6 := by
        obtain ⟨r, hr, _, e, ok⟩ := rowAt_ok rok (h c (by simp))
        unfold wStep
        rw [e]
        cases r with
        | sens _ _ _ _ => simp
        | lock n p ws f =>
          simp only
          split
          · have := sortS_len (acc ++ ws.mergeSort leS)
            rw [List.length_append, List.length_mergeSort] at this
            have := ok.wl.2
            have : ws.length ≤ 6 := this
            omega
          · omega
      rw [List.length_cons]
      omega
  intro cs h
  have := key cs [] h
  unfold wOf
  simpa using this
def isSens : Rw → Bool
  | .sens _ _ _ _ => true
  | .lock _ _ _ _ => false
section
variable {P : Program} {w : World} {K : PySem.W.Frag} {mg : Str → Option Value} {base : Heap} {CB CI CS CL CV CP CN fO pN pP gN gP : Addr} {fdO fdN fdP : FuncData}
theorem ES.weak {o : Option Addr} {H0 S H : Hp} {σ : L2.St} {env env' : AEnv} (e : ES K o H0 S H σ env) (hl : env.length = env'.length) (h : ∀ i b, slot env' i = some b → slot env i = some b) : ES K o H0 S H σ env' := ⟨e.wl, e.kp, e.len.trans hl, fun i b q => e.sl i b (h i b q)⟩
abbrev vEn (box row : D) (n4 n5 : Option B) : AEnv := [none, some (.st box), some (.st row), n4, n5]
theorem vEn_st {box row : D} {n4 n5 : Option B} (h4 : ∀ b, n4 = some b → ∃ d, b = .st d) (h5 : ∀ b, n5 = some b → ∃ d, b = .st d) : ∀ i b, slot (vEn box row n4 n5) i = some b → ∃ d, b = .st d
  | 0, b, h => by cases h
  | 1, b, h => by cases h; exact ⟨_, rfl⟩
  | 2, b, h => by cases h; exact ⟨_, rfl⟩
  | 3, b, h => h4 b h
  | 4, b, h => h5 b h
  | _ + 5, b, h => by cases h
theorem vEn_weak {box row : D} {n4 n5 : Option B} : ∀ i b, slot (vEn box row none none) i = some b → slot (vEn box row n4 n5) i = some b
  | 0, b, h => by cases h
  | 1, b, h => h
  | 2, b, h => h
  | 3, b, h => by cases h
  | 4, b, h => by cases h
  | _ + 5, b, h => by cases h
theorem one_go (kB : BoxT K CB) (kV : VwT K CV fO fdO) (kI : InsT K mg CI CS CL pN pP gN gP fdN fdP) {o : Option Addr} {S0 H0 : Hp} {x : Addr} {rows : List Rw} {cs : List Str} {c : Str} {σ : L2.St} {row : D} {S H : Hp} {Dc : Ends} (rok : RwsOk rows) (hc : c ∈ rows.map Rw.nm) (hcs : ∀ c ∈ cs, c ∈ rows.map Rw.nm) (hl : cs.length ≤ 6)
    (v : VwE K o S0 H0 CV x rows cs σ (vEn (boxD CB CS CL rows) row (some (.st (.str c))) none) S H) (k : ∀ σ' S' H', VwE K o S0 H0 CV x rows (cs ++ [c]) σ' (vEn (boxD CB CS CL rows) row none none) S' H' → Dc.nx σ' H') : tOne P w K CS CL Dc σ H := by
  obtain ⟨r, hr, rfl, er, ok⟩ := rowAt_ok rok hc
  refine ea_dget (W := W1) (ea_fld (ea_var 1)) (ea_var 3) o H0 S H σ _ (fun _ _ _ => True) (fun b => b = .st (insD CS CL r)) _ v.es ?_ (fun y d S1 H1 g1 w1 hy e => ?_) xl1
  · exact ⟨kB.cl, kB.nS, _, rfl, _, shelf_val rok.nd hr, rfl⟩
  subst e
  have v1 := v.step g1 w1
  have es1 := v1.es.set 4 hy
  have v2 : VwE K o S0 H0 CV x rows cs (σ.set 4 (some y)) (vEn (boxD CB CS CL rows) row (some (.st (.str r.nm))) (some (.st (insD CS CL r)))) S1 H1 := ⟨v1.ex, by rw [List.getElem?_set_ne (by decide)]; exact v1.s0, es1, vEn_st (fun b h => by cases h; exact ⟨_, rfl⟩) (fun b h => by cases h; exact ⟨_, rfl⟩)⟩
  have k2 : ∀ S' H', VwE K o S0 H0 CV x rows (cs ++ [r.nm]) (σ.set 4 (some y)) (vEn (boxD CB CS CL rows) row (some (.st (.str r.nm))) (some (.st (insD CS CL r)))) S' H' → Dc.nx (σ.set 4 (some y)) H' := fun S' H' h => k _ S' H' ⟨h.ex, h.s0, h.es.weak rfl vEn_weak, vEn_st (fun b h => by cases h) (fun b h => by cases h)⟩
  refine et_B (W := W1) (ea_isO kI.noS (ea_var 4)) o H0 S1 H1 _ _ (fun _ _ _ => True) (fun b => b = isSens r) _ v2.es ?_ (fun b S3 H3 g3 w3 e => ?_) xl1
  · cases r with
    | lock n p ws f => exact ⟨kI.kL.ck, false, kI.iLS, rfl⟩
    | sens n p zs f => exact ⟨kI.kS.ck, true, kI.iSS, rfl⟩
  subst e
  have v3 := v2.step g3 w3
  cases r with
  | sens n p zs f =>
    rw [if_pos (show isSens (.sens n p zs f) = true from rfl)]
    exact sens_go kV kI ok er hl rfl v3 k2
  | lock n p ws f =>
    rw [if_neg (show ¬ isSens (.lock n p ws f) = true by intro h; cases h)]
    exact lock_go kV kI ok er (fun b => by have := wOf_len rok b hcs; omega) rfl v3 k2
abbrev sView_init : Stmt := inClass (topS 33) 0
abbrev nView_init : List Str := ["self", "box", "row", "name", "one"]
theorem scView_init : FnScope nView_init ["self", "box", "row"] (defScope sView_init) := ⟨rfl, rfl, rfl, by decide +kernel, rfl, by decide +kernel, by decide +kernel⟩
def cVw (K : PySem.W.Frag) (CV CB CS CL : Addr) : Sp := fun vs H Q _ => ∃ (x dx : Addr) (v1 v2 : V) (o : Option Addr) (S : Hp) (rows : List Rw) (cs : List Str), vs = [.ref x, v1, v2] ∧ H x = some (.ins CV dx []) ∧ S x = none ∧ o ≠ some x ∧ Wl o S H ∧ Rep K S v1 (boxD CB CS CL rows) ∧ Rep K S v2 (.tup (cs.map D.str)) ∧ RwsOk rows ∧ (∀ c ∈ cs, c ∈ rows.map Rw.nm) ∧ cs.length ≤ 6 ∧
  ∀ dx' A Bq a l S' H', VwS K o S (offA x H) CV dx' x A Bq a l (sOf rows cs) (wOf rows cs) S' H' → Q .non H'
theorem ok_viewI {f : Addr} {fd : FuncData} (kB : BoxT K CB) (kV : VwT K CV fO fdO) (kI : InsT K mg CI CS CL pN pP gN gP fdN fdP) (GPo : FnOk P w K mg base CX0 1 gP fdP ["self"] (cSp K (spFldP K "place"))) (F : Fun K "__init__" "View.__init__" sView_init f fd) (T : Bl mg) (Tset : mg "set" = none) : FnOk P w K mg base CX0 3 f fd ["self", "box", "row"] (cVw K CV CB CS CL) := by
  refine F.ok scView_init (fun vs H Q E h => by obtain ⟨_, _, _, _, _, _, _, _, rfl, _⟩ := h; rfl) (fun cdv A outer s H vs Q E hr h => ?_)
  refine ⟨_, (pss_cons (ps_fld (pv 0) (pe_lst (pa_cons (pe_lst pa_nil) (pa_cons (pe_lst pa_nil) pa_nil))) rfl)
      (pss_cons (ps_fld (pv 0) (pe_lst (pa_cons (pe_lst pa_nil) (pa_cons (pe_lst pa_nil) pa_nil))) rfl)
      (pss_one (ps_for PassesOwn.never rfl (pi_tup (pv 2)) (pg_name (i := 3) scView_init.nd rfl (Or.inl rfl)) (pss_cons (ps_set (i := 4) scView_init.nd rfl (Or.inl rfl) (pe_dget (hu1 hr) (pe_fld (pv 1) rfl) (pv 3) (fun _ _ => rfl)))
      (pss_one (ps_if (pt_val (pe_callB call_isi (by rfl) T.isinstance (by decide +kernel) (pa_cons (pv 4) (pa_cons (pe_glob (v := .ref CS) (by rfl) kI.gS rfl) pa_nil)))) (pss_one (ps_expr (pe_bm PySem.F.plainAttrs_list PySem.F.slot_list_append PySem.F.type_list_append mt_append (pe_ix ix_list (pe_fld (pv 0) rfl) (pe_ei (pe_prop (pv 4) kI.kS.cl kI.pPS GPo (hr.mono (by decide)) kI.bP .nil pass0 rfl) (pe_prop (pv 4) kI.kL.cl kI.pPL GPo (hr.mono (by decide)) kI.bP .nil pass0 rfl)) (fun _ _ => rfl)) (pa_cons (pe_fld (pv 4) rfl) pa_nil)))) (pss_one (ps_asg (pe_callB (cr_sortedSt rfl (hu70 hr)) (by rfl) T.sorted (by decide +kernel) (pa_cons (pe_callTy (cr_setOfS rfl) (by rfl) Tset (by decide +kernel) (pa_cons (pe_op op_cat (pe_ix ix_list (pe_fld (pv 0) rfl) (pe_ei (pe_prop (pv 4) kI.kS.cl kI.pPS GPo (hr.mono (by decide)) kI.bP .nil pass0 rfl) (pe_prop (pv 4) kI.kL.cl kI.pPL GPo (hr.mono (by decide)) kI.bP .nil pass0 rfl)) (fun _ _ => rfl)) (pe_fld (pv 4) rfl)) pa_nil)) pa_nil)) (pg_sub (pe_fld (pv 0) rfl) (pe_ei (pe_prop (pv 4) kI.kS.cl kI.pPS GPo (hr.mono (by decide)) kI.bP .nil pass0 rfl) (pe_prop (pv 4) kI.kL.cl kI.pPL GPo (hr.mono (by decide)) kI.bP .nil pass0 rfl)) set_list)))))))))), ?_⟩
  obtain ⟨x, dx, v1, v2, o, S, rows, cs, rfl, hx, sx, np, wl, r1, r2, rok, hcs, hcl, k⟩ := h
  clear hr
  obtain ⟨av, xs, rfl, hs1, hs2⟩ := rep_tup r2
  have hxs := repL_strs hs2
  subst hxs
  refine ⟨Nat.zero_le _, fun a0 h0 => ⟨Nat.zero_le _, fun a1 h1 => ⟨Nat.le_of_lt (small1000 (show 2 ≤ 1000 by decide)), fun A hA => ?_⟩⟩⟩
  refine ⟨.ref x, rfl, x, CV, dx, [], rfl, ?_, kV.cl, kV.nS, by decide, ?_⟩
  · have e1 := same_upd (o := .lst []) h0 x _ hx
    have e2 := same_upd (o := .lst []) h1 x _ e1
    exact same_upd hA x _ e2
  refine ⟨Nat.zero_le _, fun l0 h4 => ⟨Nat.zero_le _, fun l1 h5 => ⟨Nat.le_of_lt (small1000 (show 2 ≤ 1000 by decide)), fun Bq h6 => ?_⟩⟩⟩
  refine ⟨.ref x, rfl, x, CV, dx, [("sensors", .ref A)], rfl, ?_, kV.cl, kV.nL, (show 1 < 1000 by decide), ?_⟩
  · have e1 := same_upd (o := .lst []) h4 x _ upd_same
    have e2 := same_upd (o := .lst []) h5 x _ e1
    exact same_upd h6 x _ e2
  have vs0 := VwS.init (K := K) wl hx sx np h0 h1 hA rfl h4 h5 h6
  have es0 : ES K o (offA x H) S _ [some (.ref x), some v1, some (.ref av), none, none] (vEn (boxD CB CS CL rows) (.tup (cs.map D.str)) none none) := ⟨vs0.wl, vs0.gr.kp Kp.refl, rfl, fun i b q => by
    match i, q with
    | 1, q => cases q; exact ⟨v1, rfl, r1⟩
    | 2, q => cases q; exact ⟨_, rfl, r2⟩
    | 0, q => cases q
    | 3, q => cases q
    | 4, q => cases q
    | _ + 5, q => cases q⟩
  refine ⟨.ref av, rfl, av, rfl, ⟨_, Same.seqT vs0.wl.1 hs1⟩, ?_⟩
  refine for_it (walk_tup (xs := cs.map V.str)) (fun i σ H' => ∃ S', VwE K o S (offA x H) CV x rows (cs.take i) σ (vEn (boxD CB CS CL rows) (.tup (cs.map D.str)) none none) S' H') ⟨S, ⟨_, _, _, _, _, vs0⟩, rfl, es0, vEn_st (fun b h => by cases h) (fun b h => by cases h)⟩ (fun i σ H' _ ⟨S', v⟩ => ?_) (fun i y σ H' H'' hi ⟨S', v⟩ hy => ?_) (fun σ H' ⟨S', v⟩ => ?_)
  · obtain ⟨_, _, _, _, _, h⟩ := v.ex
    exact Same.seqT (h.gr.st.trans h.wl.1) hs1
  · obtain ⟨rfl, hy⟩ := hy
    rw [List.getElem?_map] at hy
    obtain ⟨c, hc, rfl⟩ := Option.map_eq_some_iff.mp hy
    have hm := List.mem_of_getElem? hc
    have es1 := v.es.set 3 (v := .str c) (b := .st (.str c)) (Rep.str c)
    refine one_go kB kV kI (c := c) (cs := cs.take i) (row := .tup (cs.map D.str)) rok (hcs c hm) (fun c h => hcs c (List.mem_of_mem_take h)) (by rw [List.length_take]; omega) ⟨v.ex, by rw [List.getElem?_set_ne (by decide)]; exact v.s0, es1, vEn_st (fun b h => by cases h; exact ⟨_, rfl⟩) (fun b h => by cases h)⟩ fun σ' S2 H2 v2 => ⟨S2, ?_⟩
    rw [take_next hc]
    exact v2
  · rw [List.length_map, List.take_length] at v
    obtain ⟨dx', A', Bq', a, l, h⟩ := v.ex
    exact k dx' A' Bq' a l S' H' h
end
end WW

set_option Elab.async false
set_option linter.all false
set_option maxRecDepth 100000
set_option maxHeartbeats 4000000
namespace WW
open PySem PySem.Spec PyProof.Rows L2
theorem fix_all {o : Option Addr} {S0 H0 H : Hp} : ∀ (ps : List (Addr × HO)) {S : Hp}, GrO o S0 H0 S H → Wl o S H → (ps.map (·.1)).Nodup → (∀ p ∈ ps, H p.1 = some p.2 ∧ S p.1 = none ∧ o ≠ some p.1 ∧ H0 p.1 = none) → ∃ S', GrO o S0 H0 S' H ∧ Wl o S' H ∧ Same S S' ∧ ∀ p ∈ ps, S' p.1 = some p.2
  | [], S, g, w, _, _ => ⟨S, g, w, Same.refl _, fun p h => by simp at h⟩
  | q :: ps, S, g, w, nd, h => by
    rw [List.map_cons, List.nodup_cons] at nd
    obtain ⟨h1, h2, h3, h4⟩ := h q (by simp)
    have s1 : Same S (upd S q.1 q.2) := same_upd h2
    obtain ⟨S', a, b, c, d⟩ := fix_all ps (g.fix (u := q.2) h4 h2) (w.fix h1 h2 h3) nd.2 fun p hp => by
      obtain ⟨k1, k2, k3, k4⟩ := h p (List.mem_cons_of_mem _ hp)
      have : p.1 ≠ q.1 := fun e => nd.1 (by rw [← e]; exact List.mem_map.mpr ⟨p, hp, rfl⟩)
      exact ⟨k1, by rw [upd_ne this]; exact k2, k3, k4⟩
    refine ⟨S', a, b, s1.trans c, fun p hp => ?_⟩
    rcases List.mem_cons.mp hp with rfl | hp
    · exact c _ _ upd_same
    · exact d p hp
section
variable {K : PySem.W.Frag} {W : WX} {CV CB CS CL : Addr} {fO : Addr} {fdO : FuncData}
/-- a view that is done -/
theorem VwS.done {o : Option Addr} {S0 H0 S H : Hp} {dx x A Bq : Addr} {a l : Bool → Addr} {s : Bool → List ZZ} {ws : Bool → List Str} (v : VwS K o S0 H0 CV dx x A Bq a l s ws S H) :
    ∃ S', GrO o S0 H0 S' H ∧ Wl o S' H ∧ Rep K S' (.ref x) (.obj CV (vwF (s false) (s true) (ws false) (ws true))) := by
  obtain ⟨x0, h0, r0⟩ := v.ha false
  obtain ⟨x1, h1, r1⟩ := v.ha true
  have fr := v.fr
  have nx : ∀ y ∈ [A, a false, a true, Bq, l false, l true], x ≠ y := fun y hy => by
    simp only [List.mem_cons, List.not_mem_nil, or_false] at hy
    rcases hy with rfl | rfl | rfl | rfl | rfl | rfl
    · exact v.xne v.hA
    · exact v.xne h0
    · exact v.xne h1
    · exact v.xne v.hB
    · exact v.xne (v.kl false)
    · exact v.xne (v.kl true)
  obtain ⟨S', g, w, c, d⟩ := fix_all [(x, HO.ins CV dx [("sensors", .ref A), ("locked", .ref Bq)]), (A, .lst [.ref (a false), .ref (a true)]), (a false, .lst x0), (a true, .lst x1), (Bq, .lst [.ref (l false), .ref (l true)]), (l false, .lst ((ws false).map V.str)), (l true, .lst ((ws true).map V.str))] v.gr v.wl (List.nodup_cons.mpr ⟨fun c => (nx _ c) rfl, v.nd⟩) (fun p hp => by
    simp only [List.mem_cons, List.not_mem_nil, or_false] at hp
    rcases hp with rfl | rfl | rfl | rfl | rfl | rfl | rfl
    · exact ⟨v.hx, v.fx.1, v.fx.2.1, v.fx.2.2⟩
    · exact ⟨v.hA, (fr A (by simp)).2.1, (fr A (by simp)).2.2, (fr A (by simp)).1⟩
    · exact ⟨h0, (fr _ (VwS.ma false)).2.1, (fr _ (VwS.ma false)).2.2, (fr _ (VwS.ma false)).1⟩
    · exact ⟨h1, (fr _ (VwS.ma true)).2.1, (fr _ (VwS.ma true)).2.2, (fr _ (VwS.ma true)).1⟩
    · exact ⟨v.hB, (fr Bq (by simp)).2.1, (fr Bq (by simp)).2.2, (fr Bq (by simp)).1⟩
    · exact ⟨v.kl false, (fr _ (VwS.ml false)).2.1, (fr _ (VwS.ml false)).2.2, (fr _ (VwS.ml false)).1⟩
    · exact ⟨v.kl true, (fr _ (VwS.ml true)).2.1, (fr _ (VwS.ml true)).2.2, (fr _ (VwS.ml true)).1⟩)
  refine ⟨S', g, w, .obj (d _ (List.mem_cons_self ..)) rfl (.cons (.lst (d (A, _) (by simp)) (.cons (.lst (d (a false, _) (by simp)) (RepL.same c r0)) (.cons (.lst (d (a true, _) (by simp)) (RepL.same c r1)) .nil))) (.cons (.lst (d (Bq, _) (by simp)) (.cons (.lst (d (l false, _) (by simp)) (repL_ofStrs _)) (.cons (.lst (d (l true, _) (by simp)) (repL_ofStrs _)) .nil))) .nil))⟩
theorem view_make {o : Option Addr} {S H : Hp} {v1 v2 : V} {rows : List Rw} {cs : List Str} {Qc : VK} {E : XK} (w : Wl o S H) (r1 : Rep K S v1 (boxD CB CS CL rows)) (r2 : Rep K S v2 (.tup (cs.map D.str))) (rok : RwsOk rows) (hcs : ∀ c ∈ cs, c ∈ rows.map Rw.nm) (hl : cs.length ≤ 6)
    (k : ∀ x dx A Bq a l S' H', VwS K o S H CV dx x A Bq a l (sOf rows cs) (wOf rows cs) S' H' → Qc (.ref x) H') {x dx : Addr} (nx : H x = none) (ndx : H dx = none) (ne : dx ≠ x) : cVw K CV CB CS CL [.ref x, v1, v2] (upd (upd H dx (.own x)) x (.ins CV dx [])) (fun v H2 => v = .non ∧ Qc (.ref x) H2) E := by
  have sdx : S dx = none := w.1.free ndx
  have sx : S x = none := w.1.free nx
  have w1 : Wl o (upd S dx (.own x)) (upd H dx (.own x)) := w.new ndx
  have nx1 : upd H dx (.own x) x = none := (upd_ne ne.symm).trans nx
  have sx1 : upd S dx (.own x) x = none := (upd_ne ne.symm).trans sx
  have w2 : Wl o (upd S dx (.own x)) (upd (upd H dx (.own x)) x (.ins CV dx [])) := w1.put sx1 (w.np nx)
  have g1 : GrO o S H (upd S dx (.own x)) (upd H dx (.own x)) := GrO.new w ndx
  have e0 : offA x (upd (upd H dx (.own x)) x (.ins CV dx [])) = upd H dx (.own x) := by
    funext a
    by_cases h : a = x
    · subst h; rw [offA_same, nx1]
    · rw [offA_ne h, upd_ne h]
  have sS : Same S (upd S dx (.own x)) := same_upd sdx
  refine ⟨x, dx, v1, v2, o, upd S dx (.own x), rows, cs, rfl, upd_same, sx1, w.np nx, w2, Rep.same sS r1, Rep.same sS r2, rok, hcs, hl, fun dx' A Bq a l S' H' v => ⟨rfl, ?_⟩⟩
  rw [e0] at v
  refine k x dx' A Bq a l S' H' ⟨g1.trans v.gr, v.wl, v.nd, fun y hy => ⟨(upd_none (v.fr y hy).1).2, (v.fr y hy).2⟩, ⟨v.fx.1, v.fx.2.1, nx⟩, v.hx, v.hA, v.ha, v.hB, v.kl⟩
def aView (CV CB CS CL : Addr) (a : AA) (ax : AX) (env : AEnv) (Q : B → Prop) : Prop := a ax env fun bs => ∃ (rows : List Rw) (cs : List Str), bs = [.st (boxD CB CS CL rows), .st (.tup (cs.map D.str))] ∧ RwsOk rows ∧ (∀ c ∈ cs, c ∈ rows.map Rw.nm) ∧ cs.length ≤ 6 ∧ Q (.st (.obj CV (vwF (sOf rows cs false) (sOf rows cs true) (wOf rows cs false) (wOf rows cs true))))
theorem ea_view {t : TA} {a : AA} (h : EL K W 2 t a) : EA K W (tMake CV (cVw K CV CB CS CL) [] E0 t) (aView CV CB CS CL a) := fun o H0 S H σ env ax Q Qc es q k xl =>
  h o H0 S H σ env ax _ _ es q (fun vs bs S1 H1 g1 w1 r1 _ q1 => by
    intro x dx nx ndx ne
    rw [List.append_nil]
    obtain ⟨rows, cs, rfl, rok, hcs, hl, q1⟩ := q1
    cases r1 with
    | cons ra rr =>
      cases rr with
      | cons rb rr =>
        cases rr
        refine view_make w1 ra rb rok hcs hl (fun x dx A Bq a l S' H' v => ?_) nx ndx ne
        obtain ⟨S2, g2, w2, r2⟩ := v.done
        exact k (.ref x) (.st _) S2 H' (g1.trans g2) w2 r2 q1) xl
/-- View(box, row).locked[post] -/
def aViewL (CB CS CL : Addr) (a : AA) (ai : AE) (ax : AX) (env : AEnv) (Q : D → Prop) : Prop := a ax env fun bs => ∃ (rows : List Rw) (cs : List Str), bs = [.st (boxD CB CS CL rows), .st (.tup (cs.map D.str))] ∧ RwsOk rows ∧ (∀ c ∈ cs, c ∈ rows.map Rw.nm) ∧ cs.length ≤ 6 ∧
  ai ax env fun y => ∃ b : Bool, y.get = .int (cond b 1 0) ∧ Q (.lst ((wOf rows cs b).map D.str))
theorem en_viewL (kV : VwT K CV fO fdO) {t : TA} {a : AA} {ti : TE} {ai : AE} (h : EL K W 2 t a) (hi : EA K W ti ai) : EN K W (tOp (rIxL K) (tFld K (tMake CV (cVw K CV CB CS CL) [] E0 t) "locked") ti) (aViewL CB CS CL a ai) := fun o H0 S H σ env ax Q Qc es q k xl =>
  h o H0 S H σ env ax _ _ es q (fun vs bs S1 H1 g1 w1 r1 _ q1 => by
    intro x dx nx ndx ne
    rw [List.append_nil]
    obtain ⟨rows, cs, rfl, rok, hcs, hl, q1⟩ := q1
    cases r1 with
    | cons ra rr =>
      cases rr with
      | cons rb rr =>
        cases rr
        refine view_make (CV := CV) w1 ra rb rok hcs hl (Qc := fun z Hz => ∃ y C dx fs v, z = .ref y ∧ Hz y = some (.ins C dx fs) ∧ Cls K C ∧ NoAttr K C "locked" ∧ fs.lookup ("locked" : Str) = some v ∧ ti σ Hz fun y2 H2 => rIxL K v y2 H2 Qc) (fun x dx A Bq a l S' H' v => ?_) nx ndx ne
        refine ⟨x, CV, dx, _, .ref Bq, rfl, v.hx, kV.cl, kV.nL, rfl, ?_⟩
        refine hi o H0 S' H' σ env ax _ _ (es.mono (g1.trans v.gr) v.wl) q1 (fun y2 b2 S2 H2 g2 w2 r2 q2 => ?_) (xl.mono (g1.trans v.gr))
        obtain ⟨b, eb, q2⟩ := q2
        have v2 := v.step g2 w2
        have rn := r2.now w2 (((g1.trans v.gr).trans g2).kp es.kp)
        rw [eb] at rn
        rw [rep_int rn]
        have ab : cond b (l true) (l false) = l b := by cases b <;> rfl
        refine ⟨Bq, _, _, .ref (l b), rfl, rfl, SqL.of v2.hB, by rw [(at_two rfl).1, ab], ?_⟩
        have f := v2.fr _ (VwS.ml b)
        refine k (l b) _ S2 H2 ((g1.trans v.gr).trans g2) w2 (g1.bk f.1) f.2.1 ?_ q2
        rw [v2.kl b]
        exact .lst (repL_ofStrs _)) xl
end
end WW

set_option Elab.async false
set_option linter.all false
set_option maxRecDepth 100000
set_option maxHeartbeats 4000000
namespace WW
open PySem PySem.Spec PyProof.Rows L2
local macro_rules | `(tactic| array_mem_dec) => `(tactic| try dsimp only [slot, aVar, aC, aOp, ifB_t, ifB_f, aTest, aAnd, aOr, aNot, aAndV, aOrT, aOrV, aNotV, aIfE, aChain, aNil, aCons, aName, aGNil, aGCons, aGTup, aNext, aIf, aRet, aRetO, aRetN, aDrop, aAsg, aNew, aPar, aParN, aPar3, frz, aFz, aNever, aLoop, aFor, aCol, aLc, aYes, fAdd, fSub, fMul, fMod, fDiv, fPow, fLt, fLe, fGt, fGe, fI, fIc, fCatS, fLtS, eqD, fEq, fNe, fIsN, fNotN, aFn1, fNeg, fLen, fInt, fAbs, fAll, fAny, aFn2, fMax, truD, aTru, aIxL, aIxT, aIxQ, fIxS, stabs, aTup, aLst, aFix, B.solid, B.get, B.sub, aCat, aListOf, aTupOf, aONone, aOSome, aSlL, aRevL, aSortSet, aListAny, aListDK, aCopyD, aLenSet, aSortDK, aSortS, aRetNw, aMethN, aEi, aIQ, aDgN, aDget, aDgetN, fDin, fDnin, aDnew, aDput, fLenD, D.key, aFld, aProp, aMeth, aMeth0, putFD, aSetF, aMake, aMake0, aRaise, isIn, isBo, isS, isL, isT, isDi, isRow, isNo, knD, aIs, aIsRow, D.fl, fInF, fNinF, fInS, fEqY, fNeY, fEqP, fNeP, fInP, fNinP, aLcK, aDc, aIE, aIS, aTry, aHand, aXf, aXis, aIL, aICL, aIT, aIR1, aIR2, coe1, coes, aCall, aCall0, aApp, awipe, List.set, List.map, List.cons_append, List.nil_append, List.replicate, List.length, Nat.reduceSub, Nat.reduceAdd])
local macro_rules | `(tactic| array_get_dec) => `(tactic| (array_mem_dec; repeat (with_reducible refine go_seq ?_; array_mem_dec)))
theorem btw_01 {d : D} (h : dBtw 0 1 d = true) : ∃ b : Bool, d = .int (cond b 1 0) := by
  cases d with
  | int i =>
    unfold dBtw at h
    rw [Bool.and_eq_true, decide_eq_true_eq, decide_eq_true_eq] at h
    by_cases e : i = 0
    · exact ⟨false, by rw [e]; rfl⟩
    · exact ⟨true, by rw [show i = 1 by omega]; rfl⟩
  | _ => cases h
theorem dNm_str {d : D} (h : dNm d = true) : ∃ z, d = .str z ∧ NameOk z := by
  cases d with
  | str z => exact ⟨z, rfl, (nmB_iff z).mp h⟩
  | _ => cases h
/-- the row of chosen names -/
def setD (x : D) (cs : List Str) : Prop := x = .lst (cs.map D.str) ∨ x = .tup (cs.map D.str)
structure ChOk (rows : List Rw) (cs : List Str) : Prop where
  rw : RwsOk rows
  nd : cs.Nodup
  mem : ∀ c ∈ cs, c ∈ rows.map Rw.nm
  len : cs.length ≤ 6
theorem ChOk.good {rows : List Rw} {cs : List Str} {CB CS CL : Addr} {x : D} {Q : D → Prop} {X : AX0} (h : ChOk rows cs) (hx : setD x cs) (q : Q (.tup ((cs.mergeSort leS).map D.str))) : spGoodS CB CS CL [.st (boxD CB CS CL rows), .st x] Q X :=
  ⟨rows, cs, by rcases hx with rfl | rfl; exact .inl rfl; exact .inr rfl, h.rw, h.nd, h.mem, by have := h.len; omega, q⟩
theorem ChOk.srt {rows : List Rw} {cs : List Str} (h : ChOk rows cs) : (∀ c ∈ cs.mergeSort leS, c ∈ rows.map Rw.nm) ∧ (cs.mergeSort leS).length ≤ 6 := ⟨fun c hc => h.mem c ((List.mergeSort_perm _ _).mem_iff.mp hc), by rw [List.length_mergeSort]; exact h.len⟩
theorem look_key {zs : ZZ} {y : Str} (h : y ∈ zs.map (·.1)) : ∃ z, look zs y = some z := by
  unfold look
  cases e : zs.find? fun p => decide (p.1 = y) with
  | none =>
    obtain ⟨p, hp, rfl⟩ := List.mem_map.mp h
    have := List.find?_eq_none.mp e p hp
    simp at this
  | some p => exact ⟨p.2, rfl⟩
theorem showZ_ok {zs : ZZ} (h : ∀ q ∈ zs, NameOk q.2) : ∀ q ∈ showZ zs, NameOk q.2 := fun q hq => by
  unfold showZ at hq
  obtain ⟨y, hy, rfl⟩ := List.mem_map.mp hq
  obtain ⟨z, hz⟩ := look_key ((List.mergeSort_perm _ _).mem_iff.mp hy)
  show NameOk ((look zs y).getD "")
  rw [hz]
  exact h _ (look_some2 hz)
theorem sOf_ok {rows : List Rw} (rok : RwsOk rows) {cs : List Str} (hc : ∀ c ∈ cs, c ∈ rows.map Rw.nm) (b : Bool) : ∀ zs ∈ sOf rows cs b, ∀ q ∈ zs, NameOk q.2 := fun zs hz => by
  unfold sOf at hz
  obtain ⟨c, h1, h2⟩ := List.mem_filterMap.mp hz
  obtain ⟨r, hr, _, e, ok⟩ := rowAt_ok rok (hc c h1)
  unfold showAt at h2
  rw [e] at h2
  cases r with
  | lock n p ws f => cases h2
  | sens n p zs' f =>
    simp only at h2
    split at h2
    · cases h2
      exact showZ_ok (ok.so n p zs' f rfl)
    · cases h2
section
variable {P : Program} {w : World} {K : PySem.W.Frag} {mg : Str → Option Value} {base : Heap} {CB CI CS CL CV CP CN fO pN pP gN gP fX fY fVS fVI : Addr} {fdO fdN fdP fdX fdY fdVS fdVI : FuncData}
abbrev sBox_init : Stmt := inClass (topS 32) 0
abbrev nBox_init : List Str := ["self", "instruments"]
theorem scBox_init : FnScope nBox_init ["self", "instruments"] (defScope sBox_init) := ⟨rfl, rfl, rfl, by decide +kernel, rfl, by decide +kernel, by decide +kernel⟩
def spBoxI (CS CL : Addr) : ISp := fun bs Q _ => ∃ rows : List Rw, bs = [.st (.lst (rows.map (insD CS CL)))] ∧ RwsOk rows ∧ 1 ≤ rows.length ∧ rows.length ≤ 6 ∧ Q [("shelf", .dK (shelfD CS CL rows))]
theorem ok_boxI {f : Addr} {fd : FuncData} (kB : BoxT K CB) (F : Fun K "__init__" "Box.__init__" sBox_init f fd) (DGood_instruments : Df K mg "good_instruments" sGood_instruments ["instruments"] fGood_instruments fdGood_instruments) (GGood_instruments : FnOk P w K mg base CX0 3 fGood_instruments fdGood_instruments ["instruments"] (cSp K (spGoodI CS CL))) : FnOk P w K mg base CX0 4 f fd ["self", "instruments"] (cIn K CB (spBoxI CS CL)) := by
  refine F.ok scBox_init (fun vs H Q E h => cIn_len (n := 1) (fun bs Q X h => by obtain ⟨n, rfl, _⟩ := h; rfl) h) (fun cdv A outer s H vs Q E hr h => ?_)
  refine ⟨_, (pss_one (ps_fld (pv 0) (pe_df DGood_instruments GGood_instruments (hr.mono (by decide)) (pa_cons (pv 1) pa_nil)) rfl)), ?_⟩
  refine fn_I ((sa_fld 0 (ea_call [] (el_cons (ea_var 1) el_nil)))) h fun x bs Qa Xa h => ?_
  obtain ⟨rows, rfl, rok, r1, r2, q⟩ := h
  array_get_dec
  refine ⟨rows, rfl, rok, r1, r2, ?_⟩
  array_get_dec
  exact ⟨kB.cl, kB.nS, by decide, _, rfl, q⟩
abbrev sBox_sight : Stmt := inClass (topS 32) 9
abbrev nBox_sight : List Str := ["self", "chosen", "post", "word", "row"]
theorem scBox_sight : FnScope nBox_sight ["self", "chosen", "post", "word"] (defScope sBox_sight) := ⟨rfl, rfl, rfl, by decide +kernel, rfl, by decide +kernel, by decide +kernel⟩
def spBSight (CB CS CL CP CN : Addr) : ASp := fun bs Q X => ∃ (rows : List Rw) (cs : List Str) (x p wd : D), bs = [.st (boxD CB CS CL rows), .st x, .st p, .st wd] ∧ setD x cs ∧ ChOk rows cs ∧ Thg p ∧ Thg wd ∧
  (dBtw 0 1 p = false → X CP [("value", p)]) ∧ (dBtw 0 1 p = true → dNm wd = false → X CN [("value", wd)]) ∧
  (∀ b z, p = .int (cond b 1 0) → wd = .str z → NameOk z → Q (sightD (sOf rows (cs.mergeSort leS) b) z))
theorem ok_bsight {f : Addr} {fd : FuncData} (kB : BoxT K CB) (kV : VwT K CV fO fdO) (gV : mg "View" = some (.ref CV)) (MView : Mk K CV fVI) (GIView : FnOk P w K mg base CX0 3 fVI fdVI ["self", "box", "row"] (cVw K CV CB CS CL)) (bIView : Binds K fdVI ["self", "box", "row"] []) (mVS : Meth K CV "sight" fVS) (bVS : Binds K fdVS ["self", "reader", "word"] []) (GVSight : FnOk P w K mg base CX0 2 fVS fdVS ["self", "reader", "word"] (cSp K (spSightV CV)))
    (XBadName : ExcT P w K mg "BadName" CN fX "value" fdX) (DGood_set : Df K mg "good_set" sGood_set ["box", "chosen"] fGood_set fdGood_set) (GGood_set : FnOk P w K mg base CX0 2 fGood_set fdGood_set ["box", "chosen"] (cSp K (spGoodS CB CS CL))) (DCheck_post : Df K mg "check_post" sCheck_post ["post"] fCheck_post fdCheck_post) (GCheck_post : FnOk P w K mg base (L2.CX P w) 3 fCheck_post fdCheck_post ["post"] (cSp K (spPostA CP))) (DIs_name : Df K mg "is_name" sIs_name ["thing"] fIs_name fdIs_name) (GIs_name : FnOk P w K mg base CX0 1 fIs_name fdIs_name ["thing"] (cSp K spNmA)) (F : Fun K "sight" "Box.sight" sBox_sight f fd) : FnOk P w K mg base (L2.CX P w) 5 f fd ["self", "chosen", "post", "word"] (cSp K (spBSight CB CS CL CP CN)) := by
  refine F.okX scBox_sight (fun vs H Q E h => cSp_len (fun bs Q X h => by obtain ⟨a, b, c, d, e, rfl, _⟩ := h; rfl) h) (fun cdv A outer s H vs Q E hr h => ?_)
  refine ⟨_, (pss_cons (ps_set (i := 4) scBox_sight.nd rfl (Or.inl rfl) (pe_df DGood_set GGood_set (hr.mono (by decide)) (pa_cons (pv 0) (pa_cons (pv 1) pa_nil))))
      (pss_cons (ps_expr (pe_dfS DCheck_post GCheck_post (hr.mono (by decide)) (takes_of rfl rfl rfl rfl) (pa_cons (pv 2) pa_nil)))
      (pss_cons (ps_if (pt_not (pt_val (pe_df DIs_name GIs_name (hr.mono (by decide)) (pa_cons (pv 3) pa_nil)))) (pss_one (ps_raiseX XBadName (hr.mono (by decide)) (by rfl) rfl (takes_of rfl rfl rfl rfl) (pa_cons (pv 3) pa_nil))) pss_nil)
      (pss_one (ps_ret (pe_meth (pe_make MView GIView (hr.mono (by decide)) (by rfl) gV bIView .nil pass0 (pa_cons (pv 0) (pa_cons (pv 4) pa_nil))) kV.cl mVS GVSight (hr.mono (by decide)) bVS .nil pass0 (pa_cons (pv 2) (pa_cons (pv 3) pa_nil)))))))), ?_⟩
  refine fn_AX ((sa_seq (sa_set 4 (ea_call [] (el_cons (ea_var 0) (el_cons (ea_var 1) el_nil))))
      (sa_seq (sa_expr (ea_callX [] (el_cons (ea_var 2) el_nil)))
      (sa_seq (sa_if (et_not (et_B (ea_call [] (el_cons (ea_var 3) el_nil)))) (sa_raise (ea_var 3)) sa_next)
      (sa_ret (ea_meth [] (ea_view (el_cons (ea_var 0) (el_cons (ea_var 4) el_nil))) (el_cons (ea_var 2) (el_cons (ea_var 3) el_nil)))))))) h fun bs Qa Xa h => ?_
  obtain ⟨rows, cs, x, p, wd, rfl, hx, ch, tp, tw, k1, k2, k3⟩ := h
  array_get_dec
  refine ch.good hx ?_
  array_get_dec
  refine ⟨p, rfl, tp, fun hb => ?_, k1⟩
  array_get_dec
  refine ⟨wd, rfl, tw, ?_⟩
  array_get_dec
  refine ifB_both (fun c => ?_) (fun c => ?_)
  · exact k2 hb (by simpa using c)
  · obtain ⟨b, rfl⟩ := btw_01 hb
    obtain ⟨z, rfl, hz⟩ := dNm_str (by simpa using c)
    obtain ⟨s1, s2⟩ := ch.srt
    have l0 := sOf_len rows (cs.mergeSort leS) false
    have l1 := sOf_len rows (cs.mergeSort leS) true
    unfold aView
    array_get_dec
    refine ⟨rows, _, rfl, ch.rw, s1, s2, ?_⟩
    array_get_dec
    refine ⟨rfl, rfl, _, _, _, _, _, z, rfl, by omega, by omega, sOf_ok ch.rw s1 _, sOf_ok ch.rw s1 _, ?_⟩
    cases b
    · exact .inl ⟨rfl, k3 false z rfl rfl hz⟩
    · exact .inr (.inl ⟨rfl, k3 true z rfl rfl hz⟩)
abbrev sBox_joint : Stmt := inClass (topS 32) 10
abbrev nBox_joint : List Str := ["self", "chosen", "word", "row"]
theorem scBox_joint : FnScope nBox_joint ["self", "chosen", "word"] (defScope sBox_joint) := ⟨rfl, rfl, rfl, by decide +kernel, rfl, by decide +kernel, by decide +kernel⟩
def spBJoint (CB CS CL CN : Addr) : ASp := fun bs Q X => ∃ (rows : List Rw) (cs : List Str) (x wd : D), bs = [.st (boxD CB CS CL rows), .st x, .st wd] ∧ setD x cs ∧ ChOk rows cs ∧ Thg wd ∧
  (dNm wd = false → X CN [("value", wd)]) ∧
  (∀ z, wd = .str z → NameOk z → Q (jointD (sOf rows (cs.mergeSort leS) false) (sOf rows (cs.mergeSort leS) true) z))
theorem ok_bjoint {f : Addr} {fd : FuncData} (kB : BoxT K CB) (kV : VwT K CV fO fdO) (gV : mg "View" = some (.ref CV)) (MView : Mk K CV fVI) (GIView : FnOk P w K mg base CX0 3 fVI fdVI ["self", "box", "row"] (cVw K CV CB CS CL)) (bIView : Binds K fdVI ["self", "box", "row"] []) (mVS : Meth K CV "sight" fVS) (bVS : Binds K fdVS ["self", "reader", "word"] []) (GVSight : FnOk P w K mg base CX0 2 fVS fdVS ["self", "reader", "word"] (cSp K (spSightV CV)))
    (XBadName : ExcT P w K mg "BadName" CN fX "value" fdX) (DGood_set : Df K mg "good_set" sGood_set ["box", "chosen"] fGood_set fdGood_set) (GGood_set : FnOk P w K mg base CX0 2 fGood_set fdGood_set ["box", "chosen"] (cSp K (spGoodS CB CS CL))) (DIs_name : Df K mg "is_name" sIs_name ["thing"] fIs_name fdIs_name) (GIs_name : FnOk P w K mg base CX0 1 fIs_name fdIs_name ["thing"] (cSp K spNmA)) (hBoth : mg "BOTH" = some (.str "both" tok)) (F : Fun K "joint" "Box.joint" sBox_joint f fd) : FnOk P w K mg base (L2.CX P w) 5 f fd ["self", "chosen", "word"] (cSp K (spBJoint CB CS CL CN)) := by
  refine F.okX scBox_joint (fun vs H Q E h => cSp_len (fun bs Q X h => by obtain ⟨a, b, c, d, rfl, _⟩ := h; rfl) h) (fun cdv A outer s H vs Q E hr h => ?_)
  refine ⟨_, (pss_cons (ps_set (i := 3) scBox_joint.nd rfl (Or.inl rfl) (pe_df DGood_set GGood_set (hr.mono (by decide)) (pa_cons (pv 0) (pa_cons (pv 1) pa_nil))))
      (pss_cons (ps_if (pt_not (pt_val (pe_df DIs_name GIs_name (hr.mono (by decide)) (pa_cons (pv 2) pa_nil)))) (pss_one (ps_raiseX XBadName (hr.mono (by decide)) (by rfl) rfl (takes_of rfl rfl rfl rfl) (pa_cons (pv 2) pa_nil))) pss_nil)
      (pss_one (ps_ret (pe_meth (pe_make MView GIView (hr.mono (by decide)) (by rfl) gV bIView .nil pass0 (pa_cons (pv 0) (pa_cons (pv 3) pa_nil))) kV.cl mVS GVSight (hr.mono (by decide)) bVS .nil pass0 (pa_cons (pe_glob (v := .str "both") (by rfl) hBoth ⟨_, rfl⟩) (pa_cons (pv 2) pa_nil))))))), ?_⟩
  refine fn_AX ((sa_seq (sa_set 3 (ea_call [] (el_cons (ea_var 0) (el_cons (ea_var 1) el_nil))))
      (sa_seq (sa_if (et_not (et_B (ea_call [] (el_cons (ea_var 2) el_nil)))) (sa_raise (ea_var 2)) sa_next)
      (sa_ret (ea_meth [] (ea_view (el_cons (ea_var 0) (el_cons (ea_var 3) el_nil))) (el_cons ea_cS (el_cons (ea_var 2) el_nil))))))) h fun bs Qa Xa h => ?_
  obtain ⟨rows, cs, x, wd, rfl, hx, ch, tw, k2, k3⟩ := h
  array_get_dec
  refine ch.good hx ?_
  array_get_dec
  refine ⟨wd, rfl, tw, ?_⟩
  array_get_dec
  refine ifB_both (fun c => ?_) (fun c => ?_)
  · exact k2 (by simpa using c)
  · obtain ⟨z, rfl, hz⟩ := dNm_str (by simpa using c)
    obtain ⟨s1, s2⟩ := ch.srt
    have l0 := sOf_len rows (cs.mergeSort leS) false
    have l1 := sOf_len rows (cs.mergeSort leS) true
    unfold aView
    array_get_dec
    refine ⟨rows, _, rfl, ch.rw, s1, s2, ?_⟩
    array_get_dec
    exact ⟨rfl, rfl, _, _, _, _, _, z, rfl, by omega, by omega, sOf_ok ch.rw s1 _, sOf_ok ch.rw s1 _, .inr (.inr ⟨rfl, k3 z rfl hz⟩)⟩
abbrev sBox_holds : Stmt := inClass (topS 32) 11
abbrev nBox_holds : List Str := ["self", "chosen", "post", "row"]
theorem scBox_holds : FnScope nBox_holds ["self", "chosen", "post"] (defScope sBox_holds) := ⟨rfl, rfl, rfl, by decide +kernel, rfl, by decide +kernel, by decide +kernel⟩
def spBHolds (CB CS CL CP : Addr) : ASp := fun bs Q X => ∃ (rows : List Rw) (cs : List Str) (x p : D), bs = [.st (boxD CB CS CL rows), .st x, .st p] ∧ setD x cs ∧ ChOk rows cs ∧ Thg p ∧
  (dBtw 0 1 p = false → X CP [("value", p)]) ∧ (∀ b, p = .int (cond b 1 0) → Q (.lst ((wOf rows (cs.mergeSort leS) b).map D.str)))
theorem ok_bholds {f : Addr} {fd : FuncData} (kB : BoxT K CB) (kV : VwT K CV fO fdO) (gV : mg "View" = some (.ref CV)) (MView : Mk K CV fVI) (GIView : FnOk P w K mg base CX0 3 fVI fdVI ["self", "box", "row"] (cVw K CV CB CS CL)) (bIView : Binds K fdVI ["self", "box", "row"] [])
    (DGood_set : Df K mg "good_set" sGood_set ["box", "chosen"] fGood_set fdGood_set) (GGood_set : FnOk P w K mg base CX0 2 fGood_set fdGood_set ["box", "chosen"] (cSp K (spGoodS CB CS CL))) (DCheck_post : Df K mg "check_post" sCheck_post ["post"] fCheck_post fdCheck_post) (GCheck_post : FnOk P w K mg base (L2.CX P w) 3 fCheck_post fdCheck_post ["post"] (cSp K (spPostA CP))) (F : Fun K "holds" "Box.holds" sBox_holds f fd) : FnOk P w K mg base (L2.CX P w) 5 f fd ["self", "chosen", "post"] (cSpF K (spBHolds CB CS CL CP)) := by
  refine F.okX scBox_holds (fun vs H Q E h => cSpF_len (fun bs Q X h => by obtain ⟨a, b, c, d, rfl, _⟩ := h; rfl) h) (fun cdv A outer s H vs Q E hr h => ?_)
  refine ⟨_, (pss_cons (ps_set (i := 3) scBox_holds.nd rfl (Or.inl rfl) (pe_df DGood_set GGood_set (hr.mono (by decide)) (pa_cons (pv 0) (pa_cons (pv 1) pa_nil))))
      (pss_cons (ps_expr (pe_dfS DCheck_post GCheck_post (hr.mono (by decide)) (takes_of rfl rfl rfl rfl) (pa_cons (pv 2) pa_nil)))
      (pss_one (ps_ret (pe_ix ix_list (pe_fld (pe_make MView GIView (hr.mono (by decide)) (by rfl) gV bIView .nil pass0 (pa_cons (pv 0) (pa_cons (pv 3) pa_nil))) rfl) (pv 2) (fun _ _ => rfl)))))), ?_⟩
  refine fn_AXF ((sa_seq (sa_set 3 (ea_call [] (el_cons (ea_var 0) (el_cons (ea_var 1) el_nil))))
      (sa_seq (sa_expr (ea_callX [] (el_cons (ea_var 2) el_nil)))
      (sa_retNw (en_viewL kV (el_cons (ea_var 0) (el_cons (ea_var 3) el_nil)) (ea_var 2)))))) h fun bs Qa Xa h => ?_
  obtain ⟨rows, cs, x, p, rfl, hx, ch, tp, k1, k3⟩ := h
  array_get_dec
  refine ch.good hx ?_
  array_get_dec
  refine ⟨p, rfl, tp, fun hb => ?_, k1⟩
  obtain ⟨b, rfl⟩ := btw_01 hb
  obtain ⟨s1, s2⟩ := ch.srt
  array_get_dec
  unfold aViewL
  array_get_dec
  exact ⟨rows, _, rfl, ch.rw, s1, s2, b, rfl, k3 b rfl⟩
end
end WW

set_option Elab.async false
set_option linter.all false
set_option maxRecDepth 100000
set_option maxHeartbeats 4000000
namespace WW
open PySem PySem.Spec PyProof.Rows L2
local macro_rules | `(tactic| array_mem_dec) => `(tactic| try dsimp only [slot, aVar, aC, aOp, ifB_t, ifB_f, aTest, aAnd, aOr, aNot, aAndV, aOrT, aOrV, aNotV, aIfE, aChain, aNil, aCons, aName, aGNil, aGCons, aGTup, aNext, aIf, aRet, aRetO, aRetN, aDrop, aAsg, aNew, aPar, aParN, aPar3, frz, aFz, aNever, aLoop, aFor, aCol, aLc, aYes, fAdd, fSub, fMul, fMod, fDiv, fPow, fLt, fLe, fGt, fGe, fI, fIc, fCatS, fLtS, eqD, fEq, fNe, fIsN, fNotN, aFn1, fNeg, fLen, fInt, fAbs, fAll, fAny, aFn2, fMax, truD, aTru, aIxL, aIxT, aIxQ, fIxS, stabs, aTup, aLst, aFix, B.solid, B.get, B.sub, aCat, aListOf, aTupOf, aONone, aOSome, aSlL, aRevL, aSortSet, aListAny, aListDK, aCopyD, aLenSet, aSortDK, aSortS, aRetNw, aMethN, aEi, aIQ, aDgN, aDget, aDgetN, fDin, fDnin, aDnew, aDput, fLenD, D.key, aFld, aProp, aMeth, aMeth0, putFD, aSetF, aMake, aMake0, aRaise, isIn, isBo, isS, isL, isT, isDi, isRow, isNo, knD, aIs, aIsRow, D.fl, fInF, fNinF, fInS, fEqY, fNeY, fEqP, fNeP, fInP, fNinP, aLcK, aDc, aIE, aIS, aTry, aHand, aXf, aXis, aIL, aICL, aIT, aIR1, aIR2, coe1, coes, aCall, aCall0, aApp, awipe, List.set, List.map, List.cons_append, List.nil_append, List.replicate, List.length, Nat.reduceSub, Nat.reduceAdd])
local macro_rules | `(tactic| array_get_dec) => `(tactic| (array_mem_dec; repeat (with_reducible refine go_seq ?_; array_mem_dec)))
theorem cut_drop {ds : List D} {m : Nat} (h : m ≤ ds.length) : cutD ds (some (m : Int)) none = ds.drop m := by
  unfold cutD HT.sIx
  simp only
  have e : min ((m : Int).toNat) ds.length = m := by omega
  rw [if_neg (by omega)]
  rw [show min (m : Int).toNat ds.length = m by omega, List.take_of_length_le (by rw [List.length_drop]; omega)]
theorem cut_take {ds : List D} {m : Nat} (h : m ≤ ds.length) : cutD ds none (some (m : Int)) = ds.take m := by
  unfold cutD HT.sIx
  simp only
  rw [if_neg (by omega)]
  rw [show min (m : Int).toNat ds.length = m by omega, List.drop_zero, Nat.sub_zero]
section
variable {P : Program} {w : World} {K : PySem.W.Frag} {mg : Str → Option Value} {base : Heap} {CB CI CS CL pN pP gN gP fSI fLI fBI : Addr} {fdN fdP fdSI fdLI fdBI : FuncData}
abbrev sLkit : Stmt := topS 49
abbrev nLkit : List Str := ["_law_rows", "_law_row"]
theorem scLkit : FnScope nLkit ["_law_rows"] (defScope sLkit) := ⟨rfl, rfl, rfl, by decide +kernel, rfl, by decide +kernel, by decide +kernel⟩
def spKit (CB CS CL : Addr) : ASp := fun bs Q _ => ∃ rows : List Rw, bs = [.st (.lst (rows.map Rw.d))] ∧ RwsOk rows ∧ 1 ≤ rows.length ∧ rows.length ≤ 6 ∧ Q (boxD CB CS CL rows)
theorem ok_kit (DLkit : Df K mg "_law_kit" sLkit ["_law_rows"] fLkit fdLkit) (kI : InsT K mg CI CS CL pN pP gN gP fdN fdP) (gBx : mg "Box" = some (.ref CB)) (MBox : Mk K CB fBI) (GIBox : FnOk P w K mg base CX0 4 fBI fdBI ["self", "instruments"] (cIn K CB (spBoxI CS CL))) (bIBox : Binds K fdBI ["self", "instruments"] [])
    (MSensor : Mk K CS fSI) (GISensor : FnOk P w K mg base CX0 5 fSI fdSI ["self", "name", "post", "sights", "cost"] (cIn K CS spSenI)) (bISensor : Binds K fdSI ["self", "name", "post", "sights", "cost"] []) (MLock : Mk K CL fLI) (GILock : FnOk P w K mg base CX0 5 fLI fdLI ["self", "name", "post", "words", "cost"] (cIn K CL spLokI)) (bILock : Binds K fdLI ["self", "name", "post", "words", "cost"] []) (T : Bl mg) : FnOk P w K mg base CX0 8 fLkit fdLkit ["_law_rows"] (cSp K (spKit CB CS CL)) := by
  refine DLkit.fn.ok scLkit (fun vs H Q E h => cSp_len (fun bs Q X h => by obtain ⟨a, rfl, _⟩ := h; rfl) h) (fun cdv A outer s H vs Q E hr h => ?_)
  refine ⟨_, (pss_one (ps_ret (pe_make MBox GIBox (hr.mono (by decide)) (by rfl) gBx bIBox .nil pass0 (pa_cons (pe_lc (own := [("_law_row", 1)]) rfl scLkit.nd (pi_list (pv 0)) (blkOk_by (own := [("_law_row", 1)]) (N := nLkit) (sc := defScope sLkit) (by decide +kernel)) (fun _ _ _ _ _ => (pg_name (i := 1) scLkit.nd rfl (Or.inl rfl))) (fun _ _ _ _ _ => pts_nil) (fun _ _ _ _ _ => (pe_ifExp (pt_cmpR op_eq (pe_ix (r := rIxT K) ix_tup (pv 1) pe_int (fun _ _ => rfl)) pe_str (nomark _)) (pe_make MLock GILock (hr.mono (by decide)) (by rfl) kI.gL bILock .nil pass0 (pa_cons (pe_ix (r := rIxT K) ix_tup (pv 1) pe_int (fun _ _ => rfl)) (pa_cons (pe_ix (r := rIxT K) ix_tup (pv 1) pe_int (fun _ _ => rfl)) (pa_cons (pe_callTy (r := fun xs H Q => ∃ p ys, xs = [V.ref p] ∧ (SqL K H p ys ∨ SqT K H p ys) ∧ ∀ l, H l = none → Q (V.ref l) (upd H l (HO.lst ys))) call_list_of (by rfl) T.list (by decide +kernel) (pa_cons (pe_ix (r := rIxT K) ix_tup (pv 1) pe_int (fun _ _ => rfl)) pa_nil)) (pa_cons (pe_ix (r := rIxT K) ix_tup (pv 1) pe_int (fun _ _ => rfl)) pa_nil))))) (pe_make MSensor GISensor (hr.mono (by decide)) (by rfl) kI.gS bISensor .nil pass0 (pa_cons (pe_ix (r := rIxT K) ix_tup (pv 1) pe_int (fun _ _ => rfl)) (pa_cons (pe_ix (r := rIxT K) ix_tup (pv 1) pe_int (fun _ _ => rfl)) (pa_cons (pe_copyR (pe_ix (r := rIxT K) ix_tup (pv 1) pe_int (fun _ _ => rfl))) (pa_cons (pe_ix (r := rIxT K) ix_tup (pv 1) pe_int (fun _ _ => rfl)) pa_nil)))))))) pa_nil)))), ?_⟩
  refine fn_A ((sa_ret (ea_make [] (el_cons (ea_fix (en_lc (ec_list (ea_var 0)) (ga_name (js := [1]) 1) et_yes (ea_ifE (et_test (ea_op r2_eq (ea_ixT (ea_var 1) ea_cI) ea_cS)) (ea_make [] (el_cons (ea_ixT (ea_var 1) ea_cI) (el_cons (ea_ixT (ea_var 1) ea_cI) (el_cons (ea_fix (en_listOf (ea_ixT (ea_var 1) ea_cI))) (el_cons (ea_ixT (ea_var 1) ea_cI) el_nil))))) (ea_make [] (el_cons (ea_ixT (ea_var 1) ea_cI) (el_cons (ea_ixT (ea_var 1) ea_cI) (el_cons (ea_fix (en_copyD (ea_ixT (ea_var 1) ea_cI))) (el_cons (ea_ixT (ea_var 1) ea_cI) el_nil)))))))) el_nil)))) h fun bs Qa Xa h => ?_
  obtain ⟨rows, rfl, rok, r1, r2, q⟩ := h
  have hl : (rows.map Rw.d).length = rows.length := List.length_map ..
  array_get_dec
  refine ⟨by rw [List.length_map, hl]; omega, ?_⟩
  rw [List.map_map]
  refine aCol_map (insD CS CL) (fun r hr2 R hR => ?_) ?_
  · have ok := rok.ok r hr2
    cases r with
    | lock n p ws c =>
      simp only [Function.comp, Rw.d]
      array_get_dec
      refine ⟨_, rfl, ?_⟩
      array_get_dec
      rw [decide_eq_true (show ("lock" : Str) = "lock" from rfl)]
      have wl := ok.wl
      exact ⟨_, rfl, _, rfl, _, rfl, _, rfl, n, p, c, ws, rfl, ok.nm, ok.po, ⟨wl.1, Nat.le_trans wl.2 (by decide), ok.wn, ok.wo⟩, ok.co, hR⟩
    | sens n p zs c =>
      simp only [Function.comp, Rw.d]
      array_get_dec
      refine ⟨_, rfl, ?_⟩
      array_get_dec
      rw [decide_eq_false (show ¬ ("sensor" : Str) = "lock" by decide)]
      have wl := ok.wl
      have el : (Rw.sens n p zs c).ws.length = zs.length := List.length_map ..
      rw [el] at wl
      exact ⟨_, rfl, _, rfl, _, rfl, _, rfl, n, p, c, zs, rfl, ok.nm, ok.po, ⟨ok.wn, fun q hq => ⟨ok.wo _ (List.mem_map.mpr ⟨q, hq, rfl⟩), ok.so n p zs c rfl q hq⟩, wl.1, Nat.le_trans wl.2 (by decide)⟩, ok.co, hR⟩
  · array_get_dec
    exact ⟨rows, rfl, rok, r1, r2, q⟩
abbrev sLchosen : Stmt := topS 50
abbrev nLchosen : List Str := ["_law_pool_here", "_law_rows", "_law_names_here", "_law_turn", "_law_row"]
theorem scLchosen : FnScope nLchosen ["_law_pool_here", "_law_rows"] (defScope sLchosen) := ⟨rfl, rfl, rfl, by decide +kernel, rfl, by decide +kernel, by decide +kernel⟩
def spChosen : ASp := fun bs Q _ => ∃ rows : List Rw, bs = [.pool, .st (.lst (rows.map Rw.d))] ∧ RwsOk rows ∧ rows.length ≤ 6 ∧ ∀ cs, ChOk rows cs → Q (.lst (cs.map D.str))
theorem ok_chosen (DLchosen : Df K mg "_law_chosen" sLchosen ["_law_pool_here", "_law_rows"] fLchosen fdLchosen) (DLdraw : Df K mg "_law_draw" sLdraw ["_law_pool_here", "_law_many"] fLdraw fdLdraw) (GLdraw : FnOk P w K mg base CX0 1 fLdraw fdLdraw ["_law_pool_here", "_law_many"] (cSp K spDrawA)) (T : Bl mg) : FnOk P w K mg base CX0 2 fLchosen fdLchosen ["_law_pool_here", "_law_rows"] (cSp K spChosen) := by
  refine DLchosen.fn.ok scLchosen (fun vs H Q E h => cSp_len (fun bs Q X h => by obtain ⟨a, rfl, _⟩ := h; rfl) h) (fun cdv A outer s H vs Q E hr h => ?_)
  refine ⟨_, (pss_cons (ps_setLc (i := 2) (own := [("_law_row", 4)]) rfl scLchosen.nd rfl rfl (sw_true rfl rfl rfl (by decide +kernel)) (pi_list (pv 1)) (blkOk_by (own := [("_law_row", 4)]) (N := nLchosen) (sc := defScope sLchosen) (by decide +kernel)) (fun _ _ _ _ _ => (pg_name (i := 4) scLchosen.nd rfl (Or.inl rfl))) (fun _ _ _ _ _ => (pts_one (pt_cmpR op_gt (pe_df DLdraw GLdraw (hr.mono (by decide)) (pa_cons (pv 0) (pa_cons pe_int pa_nil))) pe_int (nomark _)))) (fun _ _ _ _ _ => (pe_ix (r := rIxT K) ix_tup (pv 4) pe_int (fun _ _ => rfl))))
      (pss_cons (ps_set (i := 3) scLchosen.nd rfl (Or.inl rfl) (pe_df DLdraw GLdraw (hr.mono (by decide)) (pa_cons (pv 0) (pa_cons (pe_op op_add (pe_callB call_len (by rfl) T.len (by decide +kernel) (pa_cons (pv 2) pa_nil)) pe_int) pa_nil))))
      (pss_one (ps_ret (pe_op op_cat (pe_slice sl_list (pv 2) (po_some (pv 3)) po_none) (pe_slice sl_list (pv 2) po_none (po_some (pv 3)))))))), ?_⟩
  refine fn_A ((sa_seq (sa_set 2 (ea_fix (en_lc (ec_list (ea_var 1)) (ga_name (js := [4]) 4) (et_test (ea_op r2_gt (ea_call [] (el_cons (ea_var 0) (el_cons ea_cI el_nil))) ea_cI)) (ea_ixT (ea_var 4) ea_cI))))
      (sa_seq (sa_set 3 (ea_call [] (el_cons (ea_var 0) (el_cons (ea_op r2_add (ea_b1 rc_len (ea_var 2)) ea_cI) el_nil))))
      (sa_ret (ea_fix (en_cat (ea_fix (en_slL (ea_var 2) (eo_some (ea_var 3)) eo_none)) (ea_fix (en_slL (ea_var 2) eo_none (eo_some (ea_var 3)))))))))) h fun bs Qa Xa h => ?_
  obtain ⟨rows, rfl, rok, r2, q⟩ := h
  have hl : (rows.map Rw.d).length = rows.length := List.length_map ..
  array_get_dec
  refine ⟨by rw [List.length_map, hl]; omega, ?_⟩
  rw [List.map_map]
  refine aCol_inv (fun i acc => ∃ cs : List Str, acc = cs.map D.str ∧ cs.Sublist ((rows.take i).map Rw.nm)) ⟨[], rfl, List.nil_sublist _⟩ ?_ ?_
  · rintro i x acc R hx ⟨cs, rfl, sub⟩ hR
    rw [List.getElem?_map] at hx
    obtain ⟨r, hr2, rfl⟩ := Option.map_eq_some_iff.mp hx
    have hm := List.mem_of_getElem? hr2
    simp only [Function.comp]
    array_get_dec
    refine ⟨3, rfl, by decide, by decide, fun d _ _ => ?_⟩
    array_get_dec
    refine ifB_dec (fun _ => ?_) (fun _ => ?_)
    · have : ∃ a3 a4 a5, r.d = .tup [a3, .str r.nm, a4, a5, .int r.co] := by cases r <;> exact ⟨_, _, _, rfl⟩
      obtain ⟨a3, a4, a5, e⟩ := this
      rw [e]
      array_get_dec
      refine ⟨_, rfl, hR _ ⟨cs ++ [r.nm], by rw [List.map_append]; rfl, ?_⟩⟩
      rw [take_next hr2, List.map_append]
      exact sub.append (List.Sublist.refl _)
    · refine hR _ ⟨cs, rfl, ?_⟩
      rw [take_next hr2, List.map_append]
      exact sub.trans (List.sublist_append_left _ _)
  · rintro acc ⟨cs, rfl, sub⟩
    rw [List.length_map, List.take_length] at sub
    have l1 := sub.length_le
    rw [List.length_map] at l1
    have l2 : (cs.map D.str).length = cs.length := List.length_map ..
    array_get_dec
    rw [l2]
    refine ⟨_, rfl, by omega, by omega, fun d d0 d1 => ?_⟩
    array_get_dec
    obtain ⟨m, rfl⟩ : ∃ m : Nat, d = m := ⟨d.toNat, by omega⟩
    rw [cut_drop (by rw [l2]; omega), cut_take (by rw [l2]; omega)]
    have pm : (cs.drop m ++ cs.take m).Perm cs := by
      have := List.perm_append_comm (l₁ := cs.drop m) (l₂ := cs.take m)
      rw [List.take_append_drop] at this
      exact this
    refine ⟨by rw [List.length_drop, List.length_take, l2]; omega, ?_⟩
    rw [← List.map_drop, ← List.map_take, ← List.map_append]
    exact q _ ⟨rok, pm.nodup_iff.mpr (sub.nodup rok.nd), fun c hc => sub.subset (pm.mem_iff.mp hc), by rw [pm.length_eq]; omega⟩
end
end WW

set_option Elab.async false
set_option linter.all false
set_option maxRecDepth 100000
set_option maxHeartbeats 4000000
namespace WW
open PySem PySem.Spec PyProof.Rows L2
local macro_rules | `(tactic| array_mem_dec) => `(tactic| try dsimp only [slot, aVar, aC, aOp, ifB_t, ifB_f, aTest, aAnd, aOr, aNot, aAndV, aOrT, aOrV, aNotV, aIfE, aChain, aNil, aCons, aName, aGNil, aGCons, aGTup, aNext, aIf, aRet, aRetO, aRetN, aDrop, aAsg, aNew, aPar, aParN, aPar3, frz, aFz, aNever, aLoop, aFor, aCol, aLc, aYes, fAdd, fSub, fMul, fMod, fDiv, fPow, fLt, fLe, fGt, fGe, fI, fIc, fCatS, fLtS, eqD, fEq, fNe, fIsN, fNotN, aFn1, fNeg, fLen, fInt, fAbs, fAll, fAny, aFn2, fMax, truD, aTru, aIxL, aIxT, aIxQ, fIxS, stabs, aTup, aLst, aFix, B.solid, B.get, B.sub, aCat, aListOf, aTupOf, aONone, aOSome, aSlL, aRevL, aSortSet, aListAny, aListDK, aCopyD, aLenSet, aSortDK, aSortS, aRetNw, aMethN, aEi, aIQ, aDgN, aDget, aDgetN, fDin, fDnin, aDnew, aDput, fLenD, D.key, aFld, aProp, aMeth, aMeth0, putFD, aSetF, aMake, aMake0, aRaise, isIn, isBo, isS, isL, isT, isDi, isRow, isNo, knD, aIs, aIsRow, D.fl, fInF, fNinF, fInS, fEqY, fNeY, fEqP, fNeP, fInP, fNinP, aLcK, aDc, aIE, aIS, aTry, aHand, aXf, aXis, aIL, aICL, aIT, aIR1, aIR2, coe1, coes, aCall, aCall0, aApp, awipe, List.set, List.map, List.cons_append, List.nil_append, List.replicate, List.length, Nat.reduceSub, Nat.reduceAdd])
local macro_rules | `(tactic| array_get_dec) => `(tactic| (array_mem_dec; repeat (with_reducible refine go_seq ?_; array_mem_dec)))
/-- a sensor at the post that is chosen -/
def senAt (b : Bool) (cs : List Str) : Rw → Bool
  | .sens n p _ _ => decide (p = cond b 1 0) && decide (n ∈ cs)
  | .lock _ _ _ _ => false
def lokAt (b : Bool) (cs : List Str) : Rw → Bool
  | .lock n p _ _ => decide (p = cond b 1 0) && decide (n ∈ cs)
  | .sens _ _ _ _ => false
def zsOf : Rw → ZZ
  | .sens _ _ zs _ => zs
  | .lock _ _ _ _ => []
def lnames (rows : List Rw) (cs : List Str) (b : Bool) : List Str := ((rows.filter (senAt b cs)).map Rw.nm).mergeSort leS
def lsigns (rows : List Rw) (cs : List Str) (b : Bool) (wd : Str) : List (Option Str) := (lnames rows cs b).map fun n => look (zsOf (rowAt rows n)) wd
def lsight (rows : List Rw) (cs : List Str) (b : Bool) (wd : Str) : D := if (lsigns rows cs b wd).all Option.isNone = true then .non else .tup ((lsigns rows cs b wd).map oD)
theorem fm_filter {α β : Type} (p : α → Bool) (g : α → β) : ∀ l : List α, l.filterMap (fun a => if p a = true then some (g a) else none) = (l.filter p).map g
  | [] => rfl
  | a :: l => by
    rw [List.filterMap_cons, List.filter_cons]
    cases h : p a with
    | true => simp [fm_filter p g l]
    | false => simp [fm_filter p g l]
theorem fm_one {β : Type} (g : Rw → β) : ∀ {rows : List Rw}, (rows.map Rw.nm).Nodup → ∀ {r : Rw}, r ∈ rows → rows.filterMap (fun a => if a.nm = r.nm then some (g a) else none) = [g r]
  | [], _, r, h => by simp at h
  | q :: rows, nd, r, h => by
    rw [List.map_cons, List.nodup_cons] at nd
    rw [List.filterMap_cons]
    by_cases e : q.nm = r.nm
    · have : q = r := by
        rcases List.mem_cons.mp h with h | h
        · exact h.symm
        · exact absurd (show q.nm ∈ rows.map Rw.nm by rw [e]; exact List.mem_map.mpr ⟨r, h, rfl⟩) nd.1
      subst this
      have : rows.filterMap (fun a => if a.nm = q.nm then some (g a) else none) = [] := by
        rw [List.filterMap_eq_nil_iff]
        intro a ha
        rw [if_neg]
        intro e
        exact nd.1 (by rw [← e]; exact List.mem_map.mpr ⟨a, ha, rfl⟩)
      simp [this]
    · simp only [if_neg e]
      rcases List.mem_cons.mp h with h | h
      · exact absurd (by rw [h]) e
      · exact fm_one g nd.2 h
theorem lnames_mem {rows : List Rw} {cs : List Str} {b : Bool} {n : Str} (h : n ∈ lnames rows cs b) : ∃ r ∈ rows, senAt b cs r = true ∧ r.nm = n := by
  obtain ⟨r, h1, h2⟩ := List.mem_map.mp ((List.mergeSort_perm _ _).mem_iff.mp h)
  obtain ⟨h3, h4⟩ := List.mem_filter.mp h1
  exact ⟨r, h3, h4, h2⟩
theorem fl_len : ∀ {l : List Rw}, (∀ r ∈ l, r.ws.length ≤ 6) → (l.flatMap Rw.ws).length ≤ 6 * l.length
  | [], _ => by simp
  | r :: l, h => by
    rw [List.flatMap_cons, List.length_append, List.length_cons]
    have h1 := h r (by simp)
    have h2 := fl_len fun q hq => h q (List.mem_cons_of_mem _ hq)
    omega
section
variable {P : Program} {w : World} {K : PySem.W.Frag} {mg : Str → Option Value} {base : Heap}
abbrev sLsight : Stmt := topS 51
abbrev nLsight : List Str := ["_law_rows", "_law_chosen_here", "_law_post", "_law_word", "_law_names_here", "_law_signs", "_law_name_here", "_law_row", "_law_sign"]
theorem scLsight : FnScope nLsight ["_law_rows", "_law_chosen_here", "_law_post", "_law_word"] (defScope sLsight) := ⟨rfl, rfl, rfl, by decide +kernel, rfl, by decide +kernel, by decide +kernel⟩
def spLSight : ASp := fun bs Q _ => ∃ (rows : List Rw) (cs : List Str) (b : Bool) (wd : Str), bs = [.st (.lst (rows.map Rw.d)), .st (.lst (cs.map D.str)), .st (.int (cond b 1 0)), .st (.str wd)] ∧ RwsOk rows ∧ rows.length ≤ 6 ∧ Q (lsight rows cs b wd)
theorem ok_lsight (DLsight : Df K mg "_law_sight" sLsight ["_law_rows", "_law_chosen_here", "_law_post", "_law_word"] fLsight fdLsight) (T : Bl mg) : FnOk P w K mg base CX0 1 fLsight fdLsight ["_law_rows", "_law_chosen_here", "_law_post", "_law_word"] (cSp K spLSight) := by
  refine DLsight.fn.ok scLsight (fun vs H Q E h => cSp_len (fun bs Q X h => by obtain ⟨a, b, c, d, rfl, _⟩ := h; rfl) h) (fun cdv A outer s H vs Q E hr h => ?_)
  refine ⟨_, (pss_cons (ps_set (i := 4) scLsight.nd rfl (Or.inl rfl) (pe_callB (cr_sortedD (hu70 hr)) (by rfl) T.sorted (by decide +kernel) (pa_cons (pe_lc (own := [("_law_row", 7)]) rfl scLsight.nd (pi_list (pv 0)) (blkOk_by (own := [("_law_row", 7)]) (N := nLsight) (sc := defScope sLsight) (by decide +kernel)) (fun _ _ _ _ _ => (pg_name (i := 7) scLsight.nd rfl (Or.inl rfl))) (fun _ _ _ _ _ => (pts_one (PW.pt (pw_and (pt_cmpR op_eq (pe_ix (r := rIxT K) ix_tup (pv 7) pe_int (fun _ _ => rfl)) pe_str (nomark _)) (pw_and (pt_cmpR op_eq (pe_ix (r := rIxT K) ix_tup (pv 7) pe_int (fun _ _ => rfl)) (pv 2) (nomark _)) (pw_and1 (pt_cmpR (r := rIn K false) op_in_seq (pe_ix (r := rIxT K) ix_tup (pv 7) pe_int (fun _ _ => rfl)) (pv 1) (by rfl)))))))) (fun _ _ _ _ _ => (pe_ix (r := rIxT K) ix_tup (pv 7) pe_int (fun _ _ => rfl)))) pa_nil)))
      (pss_cons (ps_set (i := 5) scLsight.nd rfl (Or.inl rfl) (pe_lst pa_nil))
      (pss_cons (ps_for PassesOwn.never rfl (pi_list (pv 4)) (pg_name (i := 6) scLsight.nd rfl (Or.inr rfl)) (pss_one (ps_expr (pe_bm PySem.F.plainAttrs_list PySem.F.slot_list_append PySem.F.type_list_append mt_append (pv 5) (pa_cons (pe_ix ix_list (pe_lc (own := [("_law_row", 7)]) rfl scLsight.nd (pi_list (pv 0)) (blkOk_by (own := [("_law_row", 7)]) (N := nLsight) (sc := defScope sLsight) (by decide +kernel)) (fun _ _ _ _ _ => (pg_name (i := 7) scLsight.nd rfl (Or.inl rfl))) (fun _ _ _ _ _ => (pts_one (pt_cmpR op_eq (pe_ix (r := rIxT K) ix_tup (pv 7) pe_int (fun _ _ => rfl)) (pv 6) (nomark _)))) (fun _ _ _ _ _ => (pe_dget1 (hu1 hr) (pe_ix (r := rIxT K) ix_tup (pv 7) pe_int (fun _ _ => rfl)) (pv 3) ⟨by rfl, by rfl, by rfl, by rfl⟩))) pe_int (fun _ _ => rfl)) pa_nil)))))
      (pss_cons (ps_if (pt_cmpR op_eq (pe_callB call_len (by rfl) T.len (by decide +kernel) (pa_cons (pe_lc (own := [("_law_sign", 8)]) rfl scLsight.nd (pi_list (pv 5)) (blkOk_by (own := [("_law_sign", 8)]) (N := nLsight) (sc := defScope sLsight) (by decide +kernel)) (fun _ _ _ _ _ => (pg_name (i := 8) scLsight.nd rfl (Or.inl rfl))) (fun _ _ _ _ _ => (pts_one (pt_cmpR op_notN (pv 8) pe_non (nomark _)))) (fun _ _ _ _ _ => (pv 8))) pa_nil)) pe_int (nomark _)) (pss_one (ps_ret pe_non)) pss_nil)
      (pss_one (ps_ret (pe_callTy call_tuple_of (by rfl) T.tuple (by decide +kernel) (pa_cons (pv 5) pa_nil)))))))), ?_⟩
  refine fn_A ((sa_seq (sa_set 4 (ea_fix (en_sortS (ea_fix (en_lc (ec_list (ea_var 0)) (ga_name (js := [7]) 7) (et_and (et_test (ea_op r2_eq (ea_ixT (ea_var 7) ea_cI) ea_cS)) (et_and (et_test (ea_op r2_eq (ea_ixT (ea_var 7) ea_cI) (ea_var 2))) (et_test (ea_op r2_inF (ea_ixT (ea_var 7) ea_cI) (ea_var 1))))) (ea_ixT (ea_var 7) ea_cI))))))
      (sa_seq (sa_new 5 (en_lst el_nil))
      (sa_seq (sa_for (ei_list (ea_var 4)) (ga_name (js := [6]) 6) (sa_app 5 (ea_ixL (ea_fix (en_lc (ec_list (ea_var 0)) (ga_name (js := [7]) 7) (et_test (ea_op r2_eq (ea_ixT (ea_var 7) ea_cI) (ea_var 6))) (ea_dgetN (ea_ixT (ea_var 7) ea_cI) (ea_var 3)))) ea_cI)))
      (sa_seq (sa_if (et_test (ea_op r2_eq (ea_b1 rc_len (ea_fix (en_lc (ec_list (ea_var 5)) (ga_name (js := [8]) 8) (et_test (ea_op r2_notN (ea_var 8) ea_cN)) (ea_var 8)))) ea_cI)) (sa_ret ea_cN) sa_next)
      (sa_ret (ea_tupOf (ea_var 5)))))))) h fun bs Qa Xa h => ?_
  obtain ⟨rows, cs, b, wd, rfl, rok, rl, q⟩ := h
  have hl : (rows.map Rw.d).length = rows.length := List.length_map ..
  (try dsimp only [slot, aVar, aC, aOp, ifB_t, ifB_f, aTest, aAnd, aOr, aNot, aAndV, aOrT, aOrV, aNotV, aIfE, aChain, aNil, aCons, aName, aGNil, aGCons, aGTup, aNext, aIf, aRet, aRetO, aRetN, aDrop, aAsg, aNew, aPar, aParN, aPar3, frz, aFz, aNever, aCol, aLc, aYes, fAdd, fSub, fMul, fMod, fDiv, fPow, fLt, fLe, fGt, fGe, fI, fIc, fCatS, fLtS, eqD, fEq, fNe, fIsN, fNotN, aFn1, fNeg, fLen, fInt, fAbs, fAll, fAny, aFn2, fMax, truD, aTru, aIxL, aIxT, aIxQ, fIxS, stabs, aTup, aLst, aFix, B.solid, B.get, B.sub, aCat, aListOf, aTupOf, aONone, aOSome, aSlL, aRevL, aSortSet, aListAny, aListDK, aCopyD, aLenSet, aSortDK, aSortS, aRetNw, aMethN, aEi, aIQ, aDgN, aDget, aDgetN, fDin, fDnin, aDnew, aDput, fLenD, D.key, aFld, aProp, aMeth, aMeth0, putFD, aSetF, aMake, aMake0, aRaise, isIn, isBo, isS, isL, isT, isDi, isRow, isNo, knD, aIs, aIsRow, D.fl, fInF, fNinF, fInS, fEqY, fNeY, fEqP, fNeP, fInP, fNinP, aLcK, aDc, aIE, aIS, aTry, aHand, aXf, aXis, aIL, aICL, aIT, aIR1, aIR2, coe1, coes, aCall, aCall0, aApp, awipe, List.set, List.map, List.cons_append, List.nil_append, List.replicate, List.length, Nat.reduceSub, Nat.reduceAdd]); repeat (with_reducible refine go_seq ?_; try dsimp only [slot, aVar, aC, aOp, ifB_t, ifB_f, aTest, aAnd, aOr, aNot, aAndV, aOrT, aOrV, aNotV, aIfE, aChain, aNil, aCons, aName, aGNil, aGCons, aGTup, aNext, aIf, aRet, aRetO, aRetN, aDrop, aAsg, aNew, aPar, aParN, aPar3, frz, aFz, aNever, aCol, aLc, aYes, fAdd, fSub, fMul, fMod, fDiv, fPow, fLt, fLe, fGt, fGe, fI, fIc, fCatS, fLtS, eqD, fEq, fNe, fIsN, fNotN, aFn1, fNeg, fLen, fInt, fAbs, fAll, fAny, aFn2, fMax, truD, aTru, aIxL, aIxT, aIxQ, fIxS, stabs, aTup, aLst, aFix, B.solid, B.get, B.sub, aCat, aListOf, aTupOf, aONone, aOSome, aSlL, aRevL, aSortSet, aListAny, aListDK, aCopyD, aLenSet, aSortDK, aSortS, aRetNw, aMethN, aEi, aIQ, aDgN, aDget, aDgetN, fDin, fDnin, aDnew, aDput, fLenD, D.key, aFld, aProp, aMeth, aMeth0, putFD, aSetF, aMake, aMake0, aRaise, isIn, isBo, isS, isL, isT, isDi, isRow, isNo, knD, aIs, aIsRow, D.fl, fInF, fNinF, fInS, fEqY, fNeY, fEqP, fNeP, fInP, fNinP, aLcK, aDc, aIE, aIS, aTry, aHand, aXf, aXis, aIL, aICL, aIT, aIR1, aIR2, coe1, coes, aCall, aCall0, aApp, awipe, List.set, List.map, List.cons_append, List.nil_append, List.replicate, List.length, Nat.reduceSub, Nat.reduceAdd])
  refine ⟨by rw [List.length_map, hl]; omega, ?_⟩
  rw [List.map_map]
  refine aCol_fm (fun r => if senAt b cs r = true then some (D.str r.nm) else none) (fun r hr2 R hR => ?_) ?_
  · cases r with
    | lock n p ws c =>
      simp only [Function.comp, Rw.d]
      array_get_dec
      refine ⟨_, rfl, ?_⟩
      array_get_dec
      rw [decide_eq_false (show ¬ ("lock" : Str) = "sensor" by decide)]
      exact hR
    | sens n p zs c =>
      simp only [Function.comp, Rw.d]
      array_get_dec
      refine ⟨_, rfl, ?_⟩
      array_get_dec
      rw [decide_eq_true (show ("sensor" : Str) = "sensor" from rfl)]
      array_get_dec
      refine ⟨_, rfl, ?_⟩
      array_get_dec
      refine ifB_dec (fun e => ?_) (fun e => ?_)
      · have se : senAt b cs (.sens n p zs c) = decide (n ∈ cs) := by show (decide _ && _) = _; rw [decide_eq_true e, Bool.true_and]
        refine ⟨_, rfl, rfl, ?_, fun c hc => ?_⟩
        · rw [List.all_map]
          exact List.all_eq_true.mpr fun _ _ => rfl
        have hc : c = true ↔ n ∈ cs := hc.trans ⟨fun h => by obtain ⟨z, hz, e⟩ := List.mem_map.mp h; cases e; exact hz, fun h => List.mem_map.mpr ⟨n, h, rfl⟩⟩
        cases c with
        | true =>
          rw [if_pos (by rw [se]; exact decide_eq_true (hc.mp rfl))] at hR
          exact ⟨_, rfl, hR⟩
        | false =>
          rw [if_neg (by rw [se, decide_eq_true_eq]; exact fun h => by cases hc.mpr h)] at hR
          exact hR
      · rw [if_neg (show ¬ senAt b cs (.sens n p zs c) = true by show ¬ (decide _ && _) = true; rw [decide_eq_false e]; simp)] at hR
        exact hR
  · refine ⟨(rows.filter (senAt b cs)).map Rw.nm, by rw [fm_filter (senAt b cs) fun r => D.str r.nm, List.map_map]; rfl, fun z hz => ?_, ?_⟩
    · obtain ⟨r, h1, rfl⟩ := List.mem_map.mp hz
      exact (rok.ok r (List.mem_filter.mp h1).1).nm
    have ll : (lnames rows cs b).length ≤ 6 := by
      unfold lnames
      rw [List.length_mergeSort, List.length_map]
      exact Nat.le_trans (List.length_filter_le _ _) rl
    (try dsimp only [slot, aVar, aC, aOp, ifB_t, ifB_f, aTest, aAnd, aOr, aNot, aAndV, aOrT, aOrV, aNotV, aIfE, aChain, aNil, aCons, aName, aGNil, aGCons, aGTup, aNext, aIf, aRet, aRetO, aRetN, aDrop, aAsg, aNew, aPar, aParN, aPar3, frz, aFz, aNever, aFor, aCol, aLc, aYes, fAdd, fSub, fMul, fMod, fDiv, fPow, fLt, fLe, fGt, fGe, fI, fIc, fCatS, fLtS, eqD, fEq, fNe, fIsN, fNotN, aFn1, fNeg, fLen, fInt, fAbs, fAll, fAny, aFn2, fMax, truD, aTru, aIxL, aIxT, aIxQ, fIxS, stabs, aTup, aLst, aFix, B.solid, B.get, B.sub, aCat, aListOf, aTupOf, aONone, aOSome, aSlL, aRevL, aSortSet, aListAny, aListDK, aCopyD, aLenSet, aSortDK, aSortS, aRetNw, aMethN, aEi, aIQ, aDgN, aDget, aDgetN, fDin, fDnin, aDnew, aDput, fLenD, D.key, aFld, aProp, aMeth, aMeth0, putFD, aSetF, aMake, aMake0, aRaise, isIn, isBo, isS, isL, isT, isDi, isRow, isNo, knD, aIs, aIsRow, D.fl, fInF, fNinF, fInS, fEqY, fNeY, fEqP, fNeP, fInP, fNinP, aLcK, aDc, aIE, aIS, aTry, aHand, aXf, aXis, aIL, aICL, aIT, aIR1, aIR2, coe1, coes, aCall, aCall0, aApp, awipe, List.set, List.map, List.cons_append, List.nil_append, List.replicate, List.length, Nat.reduceSub, Nat.reduceAdd]); repeat (with_reducible refine go_seq ?_; try dsimp only [slot, aVar, aC, aOp, ifB_t, ifB_f, aTest, aAnd, aOr, aNot, aAndV, aOrT, aOrV, aNotV, aIfE, aChain, aNil, aCons, aName, aGNil, aGCons, aGTup, aNext, aIf, aRet, aRetO, aRetN, aDrop, aAsg, aNew, aPar, aParN, aPar3, frz, aFz, aNever, aFor, aCol, aLc, aYes, fAdd, fSub, fMul, fMod, fDiv, fPow, fLt, fLe, fGt, fGe, fI, fIc, fCatS, fLtS, eqD, fEq, fNe, fIsN, fNotN, aFn1, fNeg, fLen, fInt, fAbs, fAll, fAny, aFn2, fMax, truD, aTru, aIxL, aIxT, aIxQ, fIxS, stabs, aTup, aLst, aFix, B.solid, B.get, B.sub, aCat, aListOf, aTupOf, aONone, aOSome, aSlL, aRevL, aSortSet, aListAny, aListDK, aCopyD, aLenSet, aSortDK, aSortS, aRetNw, aMethN, aEi, aIQ, aDgN, aDget, aDgetN, fDin, fDnin, aDnew, aDput, fLenD, D.key, aFld, aProp, aMeth, aMeth0, putFD, aSetF, aMake, aMake0, aRaise, isIn, isBo, isS, isL, isT, isDi, isRow, isNo, knD, aIs, aIsRow, D.fl, fInF, fNinF, fInS, fEqY, fNeY, fEqP, fNeP, fInP, fNinP, aLcK, aDc, aIE, aIS, aTry, aHand, aXf, aXis, aIL, aICL, aIT, aIR1, aIR2, coe1, coes, aCall, aCall0, aApp, awipe, List.set, List.map, List.cons_append, List.nil_append, List.replicate, List.length, Nat.reduceSub, Nat.reduceAdd])
    intro o
    (try dsimp only [slot, aVar, aC, aOp, ifB_t, ifB_f, aTest, aAnd, aOr, aNot, aAndV, aOrT, aOrV, aNotV, aIfE, aChain, aNil, aCons, aName, aGNil, aGCons, aGTup, aNext, aIf, aRet, aRetO, aRetN, aDrop, aAsg, aNew, aPar, aParN, aPar3, frz, aFz, aNever, aFor, aCol, aLc, aYes, fAdd, fSub, fMul, fMod, fDiv, fPow, fLt, fLe, fGt, fGe, fI, fIc, fCatS, fLtS, eqD, fEq, fNe, fIsN, fNotN, aFn1, fNeg, fLen, fInt, fAbs, fAll, fAny, aFn2, fMax, truD, aTru, aIxL, aIxT, aIxQ, fIxS, stabs, aTup, aLst, aFix, B.solid, B.get, B.sub, aCat, aListOf, aTupOf, aONone, aOSome, aSlL, aRevL, aSortSet, aListAny, aListDK, aCopyD, aLenSet, aSortDK, aSortS, aRetNw, aMethN, aEi, aIQ, aDgN, aDget, aDgetN, fDin, fDnin, aDnew, aDput, fLenD, D.key, aFld, aProp, aMeth, aMeth0, putFD, aSetF, aMake, aMake0, aRaise, isIn, isBo, isS, isL, isT, isDi, isRow, isNo, knD, aIs, aIsRow, D.fl, fInF, fNinF, fInS, fEqY, fNeY, fEqP, fNeP, fInP, fNinP, aLcK, aDc, aIE, aIS, aTry, aHand, aXf, aXis, aIL, aICL, aIT, aIR1, aIR2, coe1, coes, aCall, aCall0, aApp, awipe, List.set, List.map, List.cons_append, List.nil_append, List.replicate, List.length, Nat.reduceSub, Nat.reduceAdd]); repeat (with_reducible refine go_seq ?_; try dsimp only [slot, aVar, aC, aOp, ifB_t, ifB_f, aTest, aAnd, aOr, aNot, aAndV, aOrT, aOrV, aNotV, aIfE, aChain, aNil, aCons, aName, aGNil, aGCons, aGTup, aNext, aIf, aRet, aRetO, aRetN, aDrop, aAsg, aNew, aPar, aParN, aPar3, frz, aFz, aNever, aFor, aCol, aLc, aYes, fAdd, fSub, fMul, fMod, fDiv, fPow, fLt, fLe, fGt, fGe, fI, fIc, fCatS, fLtS, eqD, fEq, fNe, fIsN, fNotN, aFn1, fNeg, fLen, fInt, fAbs, fAll, fAny, aFn2, fMax, truD, aTru, aIxL, aIxT, aIxQ, fIxS, stabs, aTup, aLst, aFix, B.solid, B.get, B.sub, aCat, aListOf, aTupOf, aONone, aOSome, aSlL, aRevL, aSortSet, aListAny, aListDK, aCopyD, aLenSet, aSortDK, aSortS, aRetNw, aMethN, aEi, aIQ, aDgN, aDget, aDgetN, fDin, fDnin, aDnew, aDput, fLenD, D.key, aFld, aProp, aMeth, aMeth0, putFD, aSetF, aMake, aMake0, aRaise, isIn, isBo, isS, isL, isT, isDi, isRow, isNo, knD, aIs, aIsRow, D.fl, fInF, fNinF, fInS, fEqY, fNeY, fEqP, fNeP, fInP, fNinP, aLcK, aDc, aIE, aIS, aTry, aHand, aXf, aXis, aIL, aICL, aIT, aIR1, aIR2, coe1, coes, aCall, aCall0, aApp, awipe, List.set, List.map, List.cons_append, List.nil_append, List.replicate, List.length, Nat.reduceSub, Nat.reduceAdd])
    rw [show ((rows.filter (senAt b cs)).map Rw.nm).mergeSort leS = lnames rows cs b from rfl]
    refine aLoop_inv (fun i env => ∃ u, env = [some (.st (.lst (rows.map Rw.d))), some (.st (.lst (cs.map D.str))), some (.st (.int (cond b 1 0))), some (.st (.str wd)), some (.st (.lst ((lnames rows cs b).map D.str))), some (.ow o (.lst (((lnames rows cs b).take i).map fun n => oD (look (zsOf (rowAt rows n)) wd)))), u, none, none]) ⟨_, rfl⟩ ?_ ?_
    · rintro i y env R hy ⟨u, rfl⟩ hR
      obtain ⟨n, hn, rfl⟩ := strB_at hy
      have hm := List.mem_of_getElem? hn
      obtain ⟨r0, h1, h2, rfl⟩ := lnames_mem hm
      array_get_dec
      refine ⟨by rw [List.length_map, hl]; omega, ?_⟩
      rw [List.map_map]
      refine aCol_fm (fun r => if r.nm = r0.nm then some (oD (look (zsOf r) wd)) else none) (fun r hr2 R hR => ?_) ?_
      · by_cases e : r.nm = r0.nm
        · have er : r = r0 := by
            have e1 := rowAt_mem rok.nd hr2
            have e2 := rowAt_mem rok.nd h1
            rw [e, e2] at e1
            exact e1.symm
          subst er
          cases r with
          | lock n p ws c => cases h2
          | sens n p zs c =>
            rw [if_pos rfl] at hR
            simp only [Function.comp, Rw.d, Rw.nm]
            array_get_dec
            refine ⟨_, rfl, ?_⟩
            array_get_dec
            rw [decide_eq_true (show n = n from rfl)]
            exact ⟨_, rfl, _, zD_look zs wd, hR⟩
        · rw [if_neg e] at hR
          cases r with
          | lock n p ws c =>
            simp only [Function.comp, Rw.d]
            array_get_dec
            refine ⟨_, rfl, ?_⟩
            array_get_dec
            rw [decide_eq_false (show ¬ n = r0.nm from e)]
            exact hR
          | sens n p zs c =>
            simp only [Function.comp, Rw.d]
            array_get_dec
            refine ⟨_, rfl, ?_⟩
            array_get_dec
            rw [decide_eq_false (show ¬ n = r0.nm from e)]
            exact hR
      · rw [List.nil_append, fm_one (fun r => oD (look (zsOf r) wd)) rok.nd h1]
        array_get_dec
        refine ⟨_, rfl, by rw [List.length_map, List.length_take]; omega, hR _ ⟨some (.st (.str r0.nm)), ?_⟩⟩
        rw [take_next hn, List.map_append, List.map_cons, rowAt_mem rok.nd h1]
        rfl
    · rintro env ⟨u, rfl⟩
      rw [List.length_map, List.length_map, List.take_length]
      array_get_dec
      have es : (lnames rows cs b).map (fun n => oD (look (zsOf (rowAt rows n)) wd)) = (lsigns rows cs b wd).map oD := by
        unfold lsigns
        rw [List.map_map]
        rfl
      rw [es]
      refine ⟨by rw [List.length_map, ← es, List.length_map]; omega, ?_⟩
      rw [List.map_map]
      refine aCol_fm (fun x : Option Str => if x.isSome = true then some (oD x) else none) (fun x hx R hR => ?_) ?_
      · cases x with
        | none =>
          simp only [Function.comp, oD]
          array_get_dec
          exact hR
        | some z =>
          simp only [Function.comp, oD]
          array_get_dec
          exact hR
      · rw [List.nil_append, fm_filter Option.isSome oD, List.length_map]
        unfold lsight at q
        have key : ((lsigns rows cs b wd).filter Option.isSome).length = 0 ↔ (lsigns rows cs b wd).all Option.isNone = true := by
          rw [List.length_eq_zero_iff, List.filter_eq_nil_iff, List.all_eq_true]
          refine ⟨fun h x hx => ?_, fun h x hx => ?_⟩
          · have := h x hx
            cases x with
            | none => rfl
            | some z => exact absurd rfl this
          · have := h x hx
            cases x with
            | none => simp
            | some z => cases this
        refine ifB_dec (fun e => ?_) (fun e => ?_)
        · rw [if_pos (key.mp (by omega))] at q
          exact q
        · rw [if_neg (fun h => e (by rw [key.mpr h]; rfl))] at q
          exact q
abbrev sLstops : Stmt := topS 53
abbrev nLstops : List Str := ["_law_rows", "_law_chosen_here", "_law_post", "_law_words_here", "_law_row"]
theorem scLstops : FnScope nLstops ["_law_rows", "_law_chosen_here", "_law_post"] (defScope sLstops) := ⟨rfl, rfl, rfl, by decide +kernel, rfl, by decide +kernel, by decide +kernel⟩
def lstops (rows : List Rw) (cs : List Str) (b : Bool) : List Str := sortS ((rows.filter (lokAt b cs)).flatMap Rw.ws)
def spLStops : ASp := fun bs Q _ => ∃ (rows : List Rw) (cs : List Str) (b : Bool), bs = [.st (.lst (rows.map Rw.d)), .st (.lst (cs.map D.str)), .st (.int (cond b 1 0))] ∧ RwsOk rows ∧ rows.length ≤ 6 ∧ Q (.lst ((lstops rows cs b).map D.str))
theorem ok_lstops (DLstops : Df K mg "_law_stops" sLstops ["_law_rows", "_law_chosen_here", "_law_post"] fLstops fdLstops) (T : Bl mg) (Tset : mg "set" = none) : FnOk P w K mg base CX0 1 fLstops fdLstops ["_law_rows", "_law_chosen_here", "_law_post"] (cSp K spLStops) := by
  refine DLstops.fn.ok scLstops (fun vs H Q E h => cSp_len (fun bs Q X h => by obtain ⟨a, b, c, rfl, _⟩ := h; rfl) h) (fun cdv A outer s H vs Q E hr h => ?_)
  refine ⟨_, (pss_cons (ps_set (i := 3) scLstops.nd rfl (Or.inl rfl) (pe_lst pa_nil))
      (pss_cons (ps_for PassesOwn.never rfl (pi_list (pv 0)) (pg_name (i := 4) scLstops.nd rfl (Or.inl rfl)) (pss_one (ps_if (PW.pt (pw_and (pt_cmpR op_eq (pe_ix ix_tup (pv 4) pe_int (fun _ _ => rfl)) pe_str (nomark _)) (pw_and (pt_cmpR op_eq (pe_ix ix_tup (pv 4) pe_int (fun _ _ => rfl)) (pv 2) (nomark _)) (pw_and1 (pt_cmpR op_in_seq (pe_ix ix_tup (pv 4) pe_int (fun _ _ => rfl)) (pv 1) (by rfl)))))) (pss_one (ps_set (i := 3) scLstops.nd rfl (Or.inl rfl) (pe_op op_cat (pv 3) (pe_callTy call_list_of (by rfl) T.list (by decide +kernel) (pa_cons (pe_ix ix_tup (pv 4) pe_int (fun _ _ => rfl)) pa_nil))))) pss_nil)))
      (pss_one (ps_ret (pe_callB (cr_sortedSt rfl (hu70 hr)) (by rfl) T.sorted (by decide +kernel) (pa_cons (pe_callTy (cr_setOfS rfl) (by rfl) Tset (by decide +kernel) (pa_cons (pv 3) pa_nil)) pa_nil)))))), ?_⟩
  refine fn_A ((sa_seq (sa_set 3 (ea_fix (en_lst el_nil)))
      (sa_seq (sa_for (ei_list (ea_var 0)) (ga_name (js := [4]) 4) (sa_if (et_and (et_test (ea_op r2_eq (ea_ixT (ea_var 4) ea_cI) ea_cS)) (et_and (et_test (ea_op r2_eq (ea_ixT (ea_var 4) ea_cI) (ea_var 2))) (et_test (ea_op r2_inF (ea_ixT (ea_var 4) ea_cI) (ea_var 1))))) (sa_set 3 (ea_fix (en_cat (ea_var 3) (ea_fix (en_listOf (ea_ixT (ea_var 4) ea_cI)))))) sa_next))
      (sa_ret (ea_fix (en_sortSet (ea_var 3))))))) h fun bs Qa Xa h => ?_
  obtain ⟨rows, cs, b, rfl, rok, rl, q⟩ := h
  array_get_dec
  refine aLoop_inv (fun i env => ∃ u, env = [some (.st (.lst (rows.map Rw.d))), some (.st (.lst (cs.map D.str))), some (.st (.int (cond b 1 0))), some (.st (.lst ((((rows.take i).filter (lokAt b cs)).flatMap Rw.ws).map D.str))), u]) ⟨_, rfl⟩ ?_ ?_
  · rintro i x env R hx ⟨u, rfl⟩ hR
    rw [List.map_map, List.getElem?_map] at hx
    obtain ⟨r, hr2, rfl⟩ := Option.map_eq_some_iff.mp hx
    have hm := List.mem_of_getElem? hr2
    have no : lokAt b cs r = false → R [some (.st (.lst (rows.map Rw.d))), some (.st (.lst (cs.map D.str))), some (.st (.int (cond b 1 0))), some (.st (.lst ((((rows.take i).filter (lokAt b cs)).flatMap Rw.ws).map D.str))), some (.st r.d)] := fun e => hR _ ⟨some (.st r.d), by
      rw [take_next hr2, List.filter_append, List.filter_cons, e]
      simp⟩
    have yes : lokAt b cs r = true → R [some (.st (.lst (rows.map Rw.d))), some (.st (.lst (cs.map D.str))), some (.st (.int (cond b 1 0))), some (.st (.lst ((((rows.take i).filter (lokAt b cs)).flatMap Rw.ws).map D.str ++ r.ws.map D.str))), some (.st r.d)] := fun e => hR _ ⟨some (.st r.d), by
      rw [take_next hr2, List.filter_append, List.filter_cons, e, List.flatMap_append, List.map_append]
      simp⟩
    cases r with
    | sens n p zs c =>
      have no := no rfl
      simp only [Function.comp, Rw.d] at no ⊢
      array_get_dec
      refine ⟨_, rfl, ?_⟩
      array_get_dec
      rw [decide_eq_false (show ¬ ("sensor" : Str) = "lock" by decide)]
      exact no
    | lock n p ws c =>
      simp only [Function.comp, Rw.d] at no yes ⊢
      array_get_dec
      refine ⟨_, rfl, ?_⟩
      array_get_dec
      rw [decide_eq_true (show ("lock" : Str) = "lock" from rfl)]
      array_get_dec
      refine ⟨_, rfl, ?_⟩
      array_get_dec
      refine ifB_dec (fun e => ?_) (fun e => ?_)
      · have se : lokAt b cs (.lock n p ws c) = decide (n ∈ cs) := by show (decide _ && _) = _; rw [decide_eq_true e, Bool.true_and]
        refine ⟨_, rfl, rfl, ?_, fun c hc => ?_⟩
        · rw [List.all_map]
          exact List.all_eq_true.mpr fun _ _ => rfl
        have hc : c = true ↔ n ∈ cs := hc.trans ⟨fun h => by obtain ⟨z, hz, e⟩ := List.mem_map.mp h; cases e; exact hz, fun h => List.mem_map.mpr ⟨n, h, rfl⟩⟩
        cases c with
        | true =>
          have yes := yes (by rw [se]; exact decide_eq_true (hc.mp rfl))
          refine ⟨_, rfl, ?_, yes⟩
          have h1 := fl_len (l := (rows.take i).filter (lokAt b cs)) fun r h => (rok.ok r (List.mem_of_mem_take (List.mem_filter.mp h).1)).wl.2
          have h2 : ((rows.take i).filter (lokAt b cs)).length ≤ 6 := Nat.le_trans (List.length_filter_le _ _) (by rw [List.length_take]; omega)
          have h3 : ws.length ≤ 6 := (rok.ok _ hm).wl.2
          rw [List.length_map, List.length_map]
          omega
        | false => exact no (by rw [se]; exact decide_eq_false fun h => by cases hc.mpr h)
      · exact no (by show (decide _ && _) = false; rw [decide_eq_false e]; rfl)
  · rintro env ⟨u, rfl⟩
    rw [List.length_map, List.length_map, List.take_length]
    array_get_dec
    refine ⟨_, rfl, ?_, fun z hz => ?_, q⟩
    · have h1 := fl_len (l := rows.filter (lokAt b cs)) fun r h => (rok.ok r (List.mem_filter.mp h).1).wl.2
      have h2 : (rows.filter (lokAt b cs)).length ≤ 6 := Nat.le_trans (List.length_filter_le _ _) rl
      omega
    · obtain ⟨r, h1, h2⟩ := List.mem_flatMap.mp hz
      exact (rok.ok r (List.mem_filter.mp h1).1).wo z h2
abbrev sLreads : Stmt := topS 52
abbrev nLreads : List Str := ["_law_rows", "_law_chosen_here", "_law_reader", "_law_word", "_law_pair"]
theorem scLreads : FnScope nLreads ["_law_rows", "_law_chosen_here", "_law_reader", "_law_word"] (defScope sLreads) := ⟨rfl, rfl, rfl, by decide +kernel, rfl, by decide +kernel, by decide +kernel⟩
def ljoint (rows : List Rw) (cs : List Str) (wd : Str) : D := if (isNonD (lsight rows cs false wd) && isNonD (lsight rows cs true wd)) = true then .non else .tup [lsight rows cs false wd, lsight rows cs true wd]
def spLReads : ASp := fun bs Q _ => ∃ (rows : List Rw) (cs : List Str) (wd : Str), bs = [.st (.lst (rows.map Rw.d)), .st (.lst (cs.map D.str)), .st (.str "both"), .st (.str wd)] ∧ RwsOk rows ∧ rows.length ≤ 6 ∧ Q (ljoint rows cs wd)
theorem lsight_pl {rows : List Rw} (rok : RwsOk rows) (rl : rows.length ≤ 6) (cs : List Str) (b : Bool) (wd : Str) : D.pl 1 (lsight rows cs b wd) = true := by
  unfold lsight
  split
  · rfl
  · refine pl_tup (by unfold lsigns lnames; rw [List.length_map, List.length_map, List.length_mergeSort, List.length_map]; have := List.length_filter_le (senAt b cs) rows; omega) fun d hd => ?_
    obtain ⟨x, hx, rfl⟩ := List.mem_map.mp hd
    cases x with
    | none => rfl
    | some z =>
      unfold lsigns at hx
      obtain ⟨n, hn, e⟩ := List.mem_map.mp hx
      obtain ⟨r, h1, h2, rfl⟩ := lnames_mem hn
      rw [rowAt_mem rok.nd h1] at e
      cases r with
      | lock n p ws c => cases h2
      | sens n p zs c => exact pl_name ((rok.ok _ h1).so n p zs c rfl _ (look_some2 e))
theorem ok_lreads (DLreads : Df K mg "_law_reads" sLreads ["_law_rows", "_law_chosen_here", "_law_reader", "_law_word"] fLreads fdLreads) (DLsight : Df K mg "_law_sight" sLsight ["_law_rows", "_law_chosen_here", "_law_post", "_law_word"] fLsight fdLsight) (GLsight : FnOk P w K mg base CX0 1 fLsight fdLsight ["_law_rows", "_law_chosen_here", "_law_post", "_law_word"] (cSp K spLSight)) (T : Bl mg) : FnOk P w K mg base CX0 2 fLreads fdLreads ["_law_rows", "_law_chosen_here", "_law_reader", "_law_word"] (cSp K spLReads) := by
  refine DLreads.fn.ok scLreads (fun vs H Q E h => cSp_len (fun bs Q X h => by obtain ⟨a, b, c, rfl, _⟩ := h; rfl) h) (fun cdv A outer s H vs Q E hr h => ?_)
  refine ⟨_, (pss_cons (ps_if (pt_cmpR op_ne (pv 2) pe_str (nomark _)) (pss_one (ps_ret (pe_df DLsight GLsight (hr.mono (by decide)) (pa_cons (pv 0) (pa_cons (pv 1) (pa_cons (pv 2) (pa_cons (pv 3) pa_nil))))))) pss_nil)
      (pss_cons (ps_set (i := 4) scLreads.nd rfl (Or.inl rfl) (pe_tup (pa_cons (pe_df DLsight GLsight (hr.mono (by decide)) (pa_cons (pv 0) (pa_cons (pv 1) (pa_cons pe_int (pa_cons (pv 3) pa_nil))))) (pa_cons (pe_df DLsight GLsight (hr.mono (by decide)) (pa_cons (pv 0) (pa_cons (pv 1) (pa_cons pe_int (pa_cons (pv 3) pa_nil))))) pa_nil))))
      (pss_cons (ps_if (pt_cmpR (op_eqD hr.units) (pv 4) (pe_tup (pa_cons pe_non (pa_cons pe_non pa_nil))) (nomark _)) (pss_one (ps_ret pe_non)) pss_nil)
      (pss_one (ps_ret (pv 4)))))), ?_⟩
  refine fn_A ((sa_seq (sa_if (et_test (ea_op r2_ne (ea_var 2) ea_cS)) (sa_ret (ea_call [] (el_cons (ea_var 0) (el_cons (ea_var 1) (el_cons (ea_var 2) (el_cons (ea_var 3) el_nil)))))) sa_next)
      (sa_seq (sa_set 4 (ea_tup (el_cons (ea_call [] (el_cons (ea_var 0) (el_cons (ea_var 1) (el_cons ea_cI (el_cons (ea_var 3) el_nil))))) (el_cons (ea_call [] (el_cons (ea_var 0) (el_cons (ea_var 1) (el_cons ea_cI (el_cons (ea_var 3) el_nil))))) el_nil))))
      (sa_seq (sa_if (et_test (ea_op r2_eqP (ea_var 4) (ea_tup (el_cons ea_cN (el_cons ea_cN el_nil))))) (sa_ret ea_cN) sa_next)
      (sa_ret (ea_var 4)))))) h fun bs Qa Xa h => ?_
  obtain ⟨rows, cs, wd, rfl, rok, rl, q⟩ := h
  array_get_dec
  rw [decide_eq_true (show ("both" : Str) = "both" from rfl)]
  array_get_dec
  refine ⟨rows, cs, false, wd, rfl, rok, rl, ?_⟩
  refine ⟨rows, cs, true, wd, rfl, rok, rl, ?_⟩
  array_get_dec
  refine ⟨pl_le (m := 2) (by decide) (pl_tup (by simp) fun d hd => ?_), rfl, fun b hb => ?_⟩
  · simp only [List.mem_cons, List.not_mem_nil, or_false] at hd
    rcases hd with rfl | rfl
    · exact lsight_pl rok rl cs false wd
    · exact lsight_pl rok rl cs true wd
  array_get_dec
  have hb : b = true ↔ (isNonD (lsight rows cs false wd) && isNonD (lsight rows cs true wd)) = true := hb.trans (by rw [Bool.and_eq_true, isNonD_iff, isNonD_iff]; simp)
  unfold ljoint at q
  cases b with
  | true =>
    rw [if_pos (hb.mp rfl)] at q
    exact q
  | false =>
    rw [if_neg (fun c => by cases hb.mpr c)] at q
    exact q
end
end WW

set_option Elab.async false
set_option linter.all false
set_option maxRecDepth 100000
set_option maxHeartbeats 4000000
namespace WW
open PySem PySem.Spec PyProof.Rows L2
local macro_rules | `(tactic| array_mem_dec) => `(tactic| try dsimp only [slot, aVar, aC, aOp, ifB_t, ifB_f, aTest, aAnd, aOr, aNot, aAndV, aOrT, aOrV, aNotV, aIfE, aChain, aNil, aCons, aName, aGNil, aGCons, aGTup, aNext, aIf, aRet, aRetO, aRetN, aDrop, aAsg, aNew, aPar, aParN, aPar3, frz, aFz, aNever, aLoop, aFor, aCol, aLc, aYes, fAdd, fSub, fMul, fMod, fDiv, fPow, fLt, fLe, fGt, fGe, fI, fIc, fCatS, fLtS, eqD, fEq, fNe, fIsN, fNotN, aFn1, fNeg, fLen, fInt, fAbs, fAll, fAny, aFn2, fMax, truD, aTru, aIxL, aIxT, aIxQ, fIxS, stabs, aTup, aLst, aFix, B.solid, B.get, B.sub, aCat, aListOf, aTupOf, aONone, aOSome, aSlL, aRevL, aSortSet, aListAny, aListDK, aCopyD, aLenSet, aSortDK, aSortS, aRetNw, aMethN, aEi, aIQ, aDgN, aDget, aDgetN, fDin, fDnin, aDnew, aDput, fLenD, D.key, aFld, aProp, aMeth, aMeth0, putFD, aSetF, aMake, aMake0, aRaise, isIn, isBo, isS, isL, isT, isDi, isRow, isNo, knD, aIs, aIsRow, D.fl, fInF, fNinF, fInS, fEqY, fNeY, fEqP, fNeP, fInP, fNinP, aLcK, aDc, aIE, aIS, aTry, aHand, aXf, aXis, aIL, aICL, aIT, aIR1, aIR2, coe1, coes, aCall, aCall0, aApp, awipe, List.set, List.map, List.cons_append, List.nil_append, List.replicate, List.length, Nat.reduceSub, Nat.reduceAdd])
local macro_rules | `(tactic| array_get_dec) => `(tactic| (array_mem_dec; repeat (with_reducible refine go_seq ?_; array_mem_dec)))
def leafD : D → Bool
  | .non => true
  | .bl _ => true
  | .int _ => true
  | .str _ => true
  | _ => false
inductive Alk : Nat → D → Prop
  | lf {n : Nat} {d : D} : leafD d = true → Alk (n + 1) d
  | lst {n : Nat} {ds : List D} : ds.length ≤ 100 → (∀ d ∈ ds, Alk n d) → Alk (n + 1) (.lst ds)
  | tup {n : Nat} {ds : List D} : ds.length ≤ 100 → (∀ d ∈ ds, Alk n d) → Alk (n + 1) (.tup ds)
theorem Alk.up {n : Nat} {d : D} (h : Alk n d) : Alk (n + 1) d := by
  induction h with
  | lf h => exact .lf h
  | lst h _ ih => exact .lst h ih
  | tup h _ ih => exact .tup h ih
section
variable {P : Program} {w : World} {K : PySem.W.Frag} {mg : Str → Option Value} {base : Heap} {f : Addr} {fd : FuncData}
abbrev sLalike : Stmt := topS 54
abbrev nLalike : List Str := ["_law_one", "_law_other", "_law_at"]
theorem scLalike : FnScope nLalike ["_law_one", "_law_other"] (defScope sLalike) := ⟨rfl, rfl, rfl, by decide +kernel, rfl, by decide +kernel, by decide +kernel⟩
def spAlk (n : Nat) : ASp := fun bs Q _ => ∃ d : D, (bs = [.st d, .st d] ∨ bs = [.br d, .st d]) ∧ Alk n d ∧ Q (.bl true)
theorem ok_alk_step {k n : Nat} (DLalike : Df K mg "_law_alike" sLalike ["_law_one", "_law_other"] f fd) (T : Bl mg) (GLalike : FnOk P w K mg base CX0 k f fd ["_law_one", "_law_other"] (cSp K (spAlk n))) : FnOk P w K mg base CX0 (k + 1) f fd ["_law_one", "_law_other"] (cSp K (spAlk (n + 1))) := by
  refine DLalike.fn.ok scLalike (fun vs H Q E h => cSp_len (fun bs Q X h => by obtain ⟨a, rfl | rfl, _⟩ := h <;> rfl) h) (fun cdv A outer s H vs Q E hr h => ?_)
  refine ⟨_, (pss_cons (ps_if (pt_cmpR op_ne (pe_callB call_isi (by rfl) T.isinstance (by decide +kernel) (pa_cons (pv 0) (pa_cons (pe_bltn (v := .ty "bool") (by rfl) T.bool (by decide +kernel) rfl) pa_nil))) (pe_callB call_isi (by rfl) T.isinstance (by decide +kernel) (pa_cons (pv 1) (pa_cons (pe_bltn (v := .ty "bool") (by rfl) T.bool (by decide +kernel) rfl) pa_nil))) (nomark _)) (pss_one (ps_ret pe_bl)) pss_nil)
      (pss_cons (ps_if (pt_val (pe_callB call_isiT (by rfl) T.isinstance (by decide +kernel) (pa_cons (pv 1) (pa_cons (pe_tup (pa_cons (pe_bltn (v := .ty "list") (by rfl) T.list (by decide +kernel) rfl) (pa_cons (pe_bltn (v := .ty "tuple") (by rfl) T.tuple (by decide +kernel) rfl) pa_nil))) pa_nil)))) (pss_cons (ps_if (PW.pt (pw_or (pt_cmpR op_ne (pe_callB call_isi (by rfl) T.isinstance (by decide +kernel) (pa_cons (pv 0) (pa_cons (pe_bltn (v := .ty "list") (by rfl) T.list (by decide +kernel) rfl) pa_nil))) (pe_callB call_isi (by rfl) T.isinstance (by decide +kernel) (pa_cons (pv 1) (pa_cons (pe_bltn (v := .ty "list") (by rfl) T.list (by decide +kernel) rfl) pa_nil))) (nomark _)) (pw_or1 (pt_cmpR op_ne (pe_callB call_isi (by rfl) T.isinstance (by decide +kernel) (pa_cons (pv 0) (pa_cons (pe_bltn (v := .ty "tuple") (by rfl) T.tuple (by decide +kernel) rfl) pa_nil))) (pe_callB call_isi (by rfl) T.isinstance (by decide +kernel) (pa_cons (pv 1) (pa_cons (pe_bltn (v := .ty "tuple") (by rfl) T.tuple (by decide +kernel) rfl) pa_nil))) (nomark _))))) (pss_one (ps_ret pe_bl)) pss_nil)
      (pss_cons (ps_if (pt_cmpR op_ne (pe_callB call_len (by rfl) T.len (by decide +kernel) (pa_cons (pv 0) pa_nil)) (pe_callB call_len (by rfl) T.len (by decide +kernel) (pa_cons (pv 1) pa_nil)) (nomark _)) (pss_one (ps_ret pe_bl)) pss_nil)
      (pss_one (ps_ret (pe_cmpR op_eq (pe_callB call_len (by rfl) T.len (by decide +kernel) (pa_cons (pe_lc (own := [("_law_at", 2)]) rfl scLalike.nd (pi_range1 (by rfl) T.range (pa_cons (pe_callB call_len (by rfl) T.len (by decide +kernel) (pa_cons (pv 1) pa_nil)) pa_nil)) (blkOk_by (own := [("_law_at", 2)]) (N := nLalike) (sc := defScope sLalike) (by decide +kernel)) (fun _ _ _ _ _ => (pg_name (i := 2) scLalike.nd rfl (Or.inl rfl))) (fun _ _ _ _ _ => (pts_one (pt_not (pt_val (pe_df DLalike GLalike hr (pa_cons (pe_ix (r := rIx K) ix_seq (pv 0) (pv 2) (fun _ _ => rfl)) (pa_cons (pe_ix (r := rIx K) ix_seq (pv 1) (pv 2) (fun _ _ => rfl)) pa_nil))))))) (fun _ _ _ _ _ => (pv 2))) pa_nil)) pe_int (nomark _)))))) pss_nil)
      (pss_one (ps_ret (pe_cmpR op_eq (pv 0) (pv 1) (nomark _)))))), ?_⟩
  refine fn_A ((sa_seq (sa_if (et_test (ea_op r2_ne (ea_isB is_B (ea_var 0)) (ea_isB is_B (ea_var 1)))) (sa_ret ea_cB) sa_next)
      (sa_seq (sa_if (et_B (ea_isRow (ea_var 1))) (sa_seq (sa_if (et_or (et_test (ea_op r2_ne (ea_isB is_L (ea_var 0)) (ea_isB is_L (ea_var 1)))) (et_test (ea_op r2_ne (ea_isB is_T (ea_var 0)) (ea_isB is_T (ea_var 1))))) (sa_ret ea_cB) sa_next)
      (sa_seq (sa_if (et_test (ea_op r2_ne (ea_b1 rc_len (ea_var 0)) (ea_b1 rc_len (ea_var 1)))) (sa_ret ea_cB) sa_next)
      (sa_ret (ea_op r2_eq (ea_b1 rc_len (ea_fix (en_lc (EI.ec (ei_range1 (ea_b1 rc_len (ea_var 1)))) (ga_name (js := [2]) 2) (et_not (et_B (ea_call [] (el_cons (ea_ixQ (ea_var 0) (ea_var 2)) (el_cons (ea_ixQ (ea_var 1) (ea_var 2)) el_nil))))) (ea_var 2)))) ea_cI)))) sa_next)
      (sa_ret (ea_op r2_eq (ea_var 0) (ea_var 1)))))) h fun bs Qa Xa h => ?_
  obtain ⟨d, hb, ha, q⟩ := h
  obtain ⟨x, hx, gx, ex⟩ : ∃ x : B, (x = .st d ∨ x = .br d) ∧ x.get = d ∧ bs = [x, .st d] := by
    rcases hb with rfl | rfl
    · exact ⟨_, .inl rfl, rfl, rfl⟩
    · exact ⟨_, .inr rfl, rfl, rfl⟩
  subst ex
  have dt : ∀ b : Bool, decide (b = b) = true := fun b => decide_eq_true rfl
  cases ha with
  | lf h =>
    cases d with
    | non =>
      rcases hx with rfl | rfl
      · array_get_dec
        rw [dt, Bool.not_true]
        array_get_dec
        exact q
      · array_get_dec
        rw [dt, Bool.not_true]
        array_get_dec
        exact q
    | bl b =>
      rcases hx with rfl | rfl
      · array_get_dec
        rw [dt, Bool.not_true]
        array_get_dec
        rw [dt]
        exact q
      · array_get_dec
        rw [dt, Bool.not_true]
        array_get_dec
        rw [dt]
        exact q
    | int i =>
      rcases hx with rfl | rfl
      · array_get_dec
        rw [dt, Bool.not_true]
        array_get_dec
        rw [decide_eq_true (show i = i from rfl)]
        exact q
      · array_get_dec
        rw [dt, Bool.not_true]
        array_get_dec
        rw [decide_eq_true (show i = i from rfl)]
        exact q
    | str z =>
      rcases hx with rfl | rfl
      · array_get_dec
        rw [dt, Bool.not_true]
        array_get_dec
        rw [decide_eq_true (show z = z from rfl)]
        exact q
      · array_get_dec
        rw [dt, Bool.not_true]
        array_get_dec
        rw [decide_eq_true (show z = z from rfl)]
        exact q
    | _ => cases h
  | @lst _ ds hl hd =>
    rcases hx with rfl | rfl
    · array_get_dec
      rw [dt, Bool.not_true]
      array_get_dec
      rw [dt, Bool.not_true]
      array_get_dec
      rw [dt, Bool.not_true]
      array_get_dec
      rw [decide_eq_true (show (ds.length : Int) = ds.length from rfl), Bool.not_true]
      array_get_dec
      have e0 : ((ds.length : Int)).toNat = ds.length := Int.toNat_natCast _
      rw [e0]
      refine ⟨⟨by omega, by omega⟩, by rw [rng_len]; omega, ?_⟩
      refine aCol_inv (fun _ acc => acc = []) rfl ?_ ?_
      · rintro i x acc R hx rfl hR
        obtain ⟨hi, rfl⟩ := rng_at hx
        obtain ⟨d, hdd⟩ : ∃ d, ds[i]? = some d := ⟨_, List.getElem?_eq_getElem hi⟩
        have ha := atI_nat hdd
        rw [show (0 : Int) + (i : Nat) = (i : Nat) by omega]
        array_get_dec
        exact ⟨d, ha, d, ha, d, .inl rfl, hd d (List.mem_of_getElem? hdd), hR _ rfl⟩
      · rintro acc rfl
        exact q
    · array_get_dec
      rw [dt, Bool.not_true]
      array_get_dec
      rw [dt, Bool.not_true]
      array_get_dec
      rw [dt, Bool.not_true]
      array_get_dec
      rw [decide_eq_true (show (ds.length : Int) = ds.length from rfl), Bool.not_true]
      array_get_dec
      have e0 : ((ds.length : Int)).toNat = ds.length := Int.toNat_natCast _
      rw [e0]
      refine ⟨⟨by omega, by omega⟩, by rw [rng_len]; omega, ?_⟩
      refine aCol_inv (fun _ acc => acc = []) rfl ?_ ?_
      · rintro i x acc R hx rfl hR
        obtain ⟨hi, rfl⟩ := rng_at hx
        obtain ⟨d, hdd⟩ : ∃ d, ds[i]? = some d := ⟨_, List.getElem?_eq_getElem hi⟩
        have ha := atI_nat hdd
        rw [show (0 : Int) + (i : Nat) = (i : Nat) by omega]
        array_get_dec
        exact ⟨d, ha, d, ha, d, .inr rfl, hd d (List.mem_of_getElem? hdd), hR _ rfl⟩
      · rintro acc rfl
        exact q
  | @tup _ ds hl hd =>
    rcases hx with rfl | rfl
    · array_get_dec
      rw [dt, Bool.not_true]
      array_get_dec
      rw [dt, Bool.not_true]
      array_get_dec
      rw [dt, Bool.not_true]
      array_get_dec
      rw [decide_eq_true (show (ds.length : Int) = ds.length from rfl), Bool.not_true]
      array_get_dec
      have e0 : ((ds.length : Int)).toNat = ds.length := Int.toNat_natCast _
      rw [e0]
      refine ⟨⟨by omega, by omega⟩, by rw [rng_len]; omega, ?_⟩
      refine aCol_inv (fun _ acc => acc = []) rfl ?_ ?_
      · rintro i x acc R hx rfl hR
        obtain ⟨hi, rfl⟩ := rng_at hx
        obtain ⟨d, hdd⟩ : ∃ d, ds[i]? = some d := ⟨_, List.getElem?_eq_getElem hi⟩
        have ha := atI_nat hdd
        rw [show (0 : Int) + (i : Nat) = (i : Nat) by omega]
        array_get_dec
        exact ⟨d, ha, d, ha, d, .inl rfl, hd d (List.mem_of_getElem? hdd), hR _ rfl⟩
      · rintro acc rfl
        exact q
    · array_get_dec
      rw [dt, Bool.not_true]
      array_get_dec
      rw [dt, Bool.not_true]
      array_get_dec
      rw [dt, Bool.not_true]
      array_get_dec
      rw [decide_eq_true (show (ds.length : Int) = ds.length from rfl), Bool.not_true]
      array_get_dec
      have e0 : ((ds.length : Int)).toNat = ds.length := Int.toNat_natCast _
      rw [e0]
      refine ⟨⟨by omega, by omega⟩, by rw [rng_len]; omega, ?_⟩
      refine aCol_inv (fun _ acc => acc = []) rfl ?_ ?_
      · rintro i x acc R hx rfl hR
        obtain ⟨hi, rfl⟩ := rng_at hx
        obtain ⟨d, hdd⟩ : ∃ d, ds[i]? = some d := ⟨_, List.getElem?_eq_getElem hi⟩
        have ha := atI_nat hdd
        rw [show (0 : Int) + (i : Nat) = (i : Nat) by omega]
        array_get_dec
        exact ⟨d, ha, d, ha, d, .inr rfl, hd d (List.mem_of_getElem? hdd), hR _ rfl⟩
      · rintro acc rfl
        exact q
theorem ok_alk (D : Df K mg "_law_alike" sLalike ["_law_one", "_law_other"] f fd) (T : Bl mg) : ∀ n, FnOk P w K mg base CX0 (n + 1) f fd ["_law_one", "_law_other"] (cSp K (spAlk n))
  | 0 => ⟨fun _ _ _ _ h => (by obtain ⟨_, _, _, _, _, _, _, _, ⟨_, _, h, _⟩, _⟩ := h; cases h), fun _ _ _ _ _ _ _ _ _ _ _ _ _ h => (by obtain ⟨_, _, _, _, _, _, _, _, ⟨_, _, h, _⟩, _⟩ := h; cases h)⟩
  | n + 1 => ok_alk_step D T (ok_alk D T n)
end
end WW

set_option Elab.async false
set_option linter.all false
set_option maxRecDepth 100000
set_option maxHeartbeats 4000000
namespace WW
open PySem PySem.Spec PyProof.Rows L2
theorem sortS_ext {xs ys : List Str} (h : ∀ z, z ∈ xs ↔ z ∈ ys) : sortS xs = sortS ys := sortS_perm (nodup_mem_perm (insAll_nodup _) (insAll_nodup _) fun z => by rw [insAll_mem, insAll_mem, h])
theorem sort_filter (p : Str → Bool) (cs : List Str) : (cs.filter p).mergeSort leS = (cs.mergeSort leS).filter p := by
  have h1 : ((cs.mergeSort leS).filter p).Perm (cs.filter p) := (List.mergeSort_perm cs leS).filter p
  rw [← sortS_perm h1]
  refine List.mergeSort_of_pairwise ?_
  exact (List.pairwise_mergeSort leS_trans leS_total cs).filter p
theorem fm_congr {α β : Type} {f g : α → Option β} : ∀ {l : List α}, (∀ x ∈ l, f x = g x) → l.filterMap f = l.filterMap g
  | [], _ => rfl
  | a :: l, h => by rw [List.filterMap_cons, List.filterMap_cons, h a (by simp), fm_congr fun x hx => h x (List.mem_cons_of_mem _ hx)]
theorem look_map (g : Str → Str) (y : Str) : ∀ l : List Str, look (l.map fun z => (z, g z)) y = if y ∈ l then some (g y) else none
  | [] => rfl
  | z :: l => by
    have ih := look_map g y l
    unfold look at ih ⊢
    rw [List.map_cons, List.find?_cons]
    by_cases e : z = y
    · subst e
      simp
    · have e' : ¬ y = z := fun h => e h.symm
      simp only [e, decide_false, List.mem_cons, e', false_or]
      exact ih
theorem look_showZ (zs : ZZ) (y : Str) : look (showZ zs) y = look zs y := by
  unfold showZ
  rw [look_map (fun y => (look zs y).getD "") y]
  by_cases h : y ∈ zs.map (·.1)
  · obtain ⟨z, hz⟩ := look_key h
    rw [if_pos ((List.mergeSort_perm _ _).mem_iff.mpr h), hz]
    rfl
  · rw [if_neg (fun c => h ((List.mergeSort_perm _ _).mem_iff.mp c))]
    cases e : look zs y with
    | none => rfl
    | some z => exact absurd (List.mem_map.mpr ⟨_, look_some2 e, rfl⟩) h
section
variable {rows : List Rw} {cs : List Str}
theorem lnames_eq (h : ChOk rows cs) (b : Bool) : lnames rows cs b = (cs.mergeSort leS).filter fun c => senAt b cs (rowAt rows c) := by
  rw [← sort_filter]
  unfold lnames
  refine sortS_perm (nodup_mem_perm ?_ (h.nd.filter _) fun z => ?_)
  · exact (List.Sublist.map Rw.nm List.filter_sublist).nodup h.rw.nd
  · rw [List.mem_map, List.mem_filter]
    constructor
    · rintro ⟨r, hr, rfl⟩
      obtain ⟨h1, h2⟩ := List.mem_filter.mp hr
      rw [rowAt_mem h.rw.nd h1]
      refine ⟨?_, h2⟩
      cases r with
      | lock n p ws c => cases h2
      | sens n p zs c =>
        have h2 : (decide (p = cond b 1 0) && decide (n ∈ cs)) = true := h2
        rw [Bool.and_eq_true] at h2
        exact of_decide_eq_true h2.2
    · rintro ⟨h1, h2⟩
      obtain ⟨r, hr, e, er, _⟩ := rowAt_ok h.rw (h.mem z h1)
      rw [er] at h2
      exact ⟨r, List.mem_filter.mpr ⟨hr, h2⟩, e⟩
theorem sOf_eq (h : ChOk rows cs) (b : Bool) : sOf rows (cs.mergeSort leS) b = (lnames rows cs b).map fun c => showZ (zsOf (rowAt rows c)) := by
  rw [lnames_eq h, ← fm_filter]
  unfold sOf
  refine fm_congr fun c hc => ?_
  have hc : c ∈ cs := (List.mergeSort_perm _ _).mem_iff.mp hc
  obtain ⟨r, hr, e, er, _⟩ := rowAt_ok h.rw (h.mem c hc)
  unfold showAt
  rw [er]
  cases r with
  | lock n p ws f => rfl
  | sens n p zs f =>
    have e : n = c := e
    have : senAt b cs (.sens n p zs f) = decide (p = cond b 1 0) := by
      show (decide _ && decide _) = _
      rw [e, decide_eq_true hc, Bool.and_true]
    rw [this]
    by_cases q : p = cond b 1 0
    · rw [if_pos (decide_eq_true q)]
      simp only [if_pos q]
      rfl
    · rw [if_neg (by rw [decide_eq_false q]; decide)]
      simp only [if_neg q]
theorem lsight_eq (h : ChOk rows cs) (b : Bool) (wd : Str) : lsight rows cs b wd = sightD (sOf rows (cs.mergeSort leS) b) wd := by
  rw [sOf_eq h]
  unfold lsight sightD lsigns
  rw [List.all_map, List.all_map, List.map_map, List.map_map]
  have : (fun zs : ZZ => (look zs wd).isNone) ∘ (fun c => showZ (zsOf (rowAt rows c))) = Option.isNone ∘ fun n => look (zsOf (rowAt rows n)) wd := by
    funext c
    show (look (showZ _) wd).isNone = _
    rw [look_showZ]
    rfl
  rw [this]
  have : (fun zs : ZZ => oD (look zs wd)) ∘ (fun c => showZ (zsOf (rowAt rows c))) = oD ∘ fun n => look (zsOf (rowAt rows n)) wd := by
    funext c
    show oD (look (showZ _) wd) = _
    rw [look_showZ]
    rfl
  rw [this]
theorem ljoint_eq (h : ChOk rows cs) (wd : Str) : ljoint rows cs wd = jointD (sOf rows (cs.mergeSort leS) false) (sOf rows (cs.mergeSort leS) true) wd := by
  unfold ljoint jointD
  rw [lsight_eq h, lsight_eq h]
/-- the words that a row locks at the post -/
def wAt (rows : List Rw) (b : Bool) (c : Str) : List Str := match rowAt rows c with
  | .lock _ p ws _ => if p = cond b 1 0 then ws else []
  | .sens _ _ _ _ => []
theorem wOf_eq (rows : List Rw) (b : Bool) (l : List Str) : wOf rows l b = sortS (l.flatMap (wAt rows b)) := by
  have key : ∀ (l : List Str) (xs : List Str), l.foldl (wStep rows b) (sortS xs) = sortS (xs ++ l.flatMap (wAt rows b)) := by
    intro l
    induction l with
    | nil => intro xs; simp
    | cons c l ih =>
      intro xs
      rw [List.foldl_cons, List.flatMap_cons, ← List.append_assoc, ← ih]
      congr 1
      unfold wStep wAt
      cases rowAt rows c with
      | sens n p zs f => simp
      | lock n p ws f =>
        simp only
        split
        · refine sortS_ext fun z => ?_
          rw [List.mem_append, List.mem_append, sortS_mem, (List.mergeSort_perm _ _).mem_iff]
        · rw [List.append_nil]
  have k0 := key l []
  rw [show sortS [] = [] from by unfold sortS; simp [insAll], List.nil_append] at k0
  exact k0
theorem lstops_eq (h : ChOk rows cs) (b : Bool) : lstops rows cs b = wOf rows (cs.mergeSort leS) b := by
  rw [wOf_eq]
  refine sortS_ext fun z => ?_
  rw [List.mem_flatMap, List.mem_flatMap]
  constructor
  · rintro ⟨r, hr, hz⟩
    obtain ⟨h1, h2⟩ := List.mem_filter.mp hr
    cases r with
    | sens n p zs f => cases h2
    | lock n p ws f =>
      have h2 : (decide (p = cond b 1 0) && decide (n ∈ cs)) = true := h2
      rw [Bool.and_eq_true] at h2
      refine ⟨n, (List.mergeSort_perm _ _).mem_iff.mpr (of_decide_eq_true h2.2), ?_⟩
      unfold wAt
      rw [show rowAt rows n = .lock n p ws f from rowAt_mem h.rw.nd h1]
      simp only [if_pos (of_decide_eq_true h2.1)]
      exact hz
  · rintro ⟨c, hc, hz⟩
    have hc : c ∈ cs := (List.mergeSort_perm _ _).mem_iff.mp hc
    obtain ⟨r, hr, e, er, _⟩ := rowAt_ok h.rw (h.mem c hc)
    unfold wAt at hz
    rw [er] at hz
    cases r with
    | sens n p zs f => simp at hz
    | lock n p ws f =>
      simp only at hz
      split at hz
      · rename_i q
        have e : n = c := e
        refine ⟨_, List.mem_filter.mpr ⟨hr, ?_⟩, hz⟩
        show (decide _ && decide _) = true
        rw [decide_eq_true q, e, decide_eq_true hc]
        rfl
      · simp at hz
end
end WW

set_option Elab.async false
set_option linter.all false
set_option maxRecDepth 100000
set_option maxHeartbeats 4000000
namespace WW
open PySem PySem.Spec PyProof.Rows L2
local macro_rules | `(tactic| array_mem_dec) => `(tactic| try dsimp only [slot, aVar, aC, aOp, ifB_t, ifB_f, aTest, aAnd, aOr, aNot, aAndV, aOrT, aOrV, aNotV, aIfE, aChain, aNil, aCons, aName, aGNil, aGCons, aGTup, aNext, aIf, aRet, aRetO, aRetN, aDrop, aAsg, aNew, aPar, aParN, aPar3, frz, aFz, aNever, aLoop, aFor, aCol, aLc, aYes, fAdd, fSub, fMul, fMod, fDiv, fPow, fLt, fLe, fGt, fGe, fI, fIc, fCatS, fLtS, eqD, fEq, fNe, fIsN, fNotN, aFn1, fNeg, fLen, fInt, fAbs, fAll, fAny, aFn2, fMax, truD, aTru, aIxL, aIxT, aIxQ, fIxS, stabs, aTup, aLst, aFix, B.solid, B.get, B.sub, aCat, aListOf, aTupOf, aONone, aOSome, aSlL, aRevL, aSortSet, aListAny, aListDK, aCopyD, aLenSet, aSortDK, aSortS, aRetNw, aMethN, aEi, aIQ, aDgN, aDget, aDgetN, fDin, fDnin, aDnew, aDput, fLenD, D.key, aFld, aProp, aMeth, aMeth0, putFD, aSetF, aMake, aMake0, aRaise, isIn, isBo, isS, isL, isT, isDi, isRow, isNo, knD, aIs, aIsRow, D.fl, fInF, fNinF, fInS, fEqY, fNeY, fEqP, fNeP, fInP, fNinP, aLcK, aDc, aIE, aIS, aTry, aHand, aXf, aXis, aIL, aICL, aIT, aIR1, aIR2, coe1, coes, aCall, aCall0, aApp, awipe, List.set, List.map, List.cons_append, List.nil_append, List.replicate, List.length, Nat.reduceSub, Nat.reduceAdd])
local macro_rules | `(tactic| array_get_dec) => `(tactic| (array_mem_dec; repeat (with_reducible refine go_seq ?_; array_mem_dec)))
structure RefT (K : PySem.W.Frag) (mg : Str → Option Value) (CP CN CE : Addr) : Prop where
  xP : XfC K CP
  cP : ExcC K CP
  nP : PySem.W.findIn K (.ref CP) "value" = some none
  kP : PySem.W.kitOne K (.ref CP) (.ref CE) = some true
  xN : XfC K CN
  cN : ExcC K CN
  nN : PySem.W.findIn K (.ref CN) "value" = some none
  kN : PySem.W.kitOne K (.ref CN) (.ref CE) = some true
  gE : mg "WorksError" = some (.ref CE)
  ePP : PySem.W.exmOne K (.ref CP) (.ref CP) = some true
  eNP : PySem.W.exmOne K (.ref CN) (.ref CP) = some false
  eNN : PySem.W.exmOne K (.ref CN) (.ref CN) = some true
structure BxM (K : PySem.W.Frag) (CB fBS fBJ fBH : Addr) (fdBS fdBJ fdBH : FuncData) : Prop where
  mBS : Meth K CB "sight" fBS
  bBS : Binds K fdBS ["self", "chosen", "post", "word"] []
  mBJ : Meth K CB "joint" fBJ
  bBJ : Binds K fdBJ ["self", "chosen", "word"] []
  mBH : Meth K CB "holds" fBH
  bBH : Binds K fdBH ["self", "chosen", "post"] []
section
variable {P : Program} {w : World} {K : PySem.W.Frag} {mg : Str → Option Value} {base : Heap} {CB CS CL CP CN CE fBS fBJ fBH fX fY : Addr} {fdBS fdBJ fdBH fdX fdY : FuncData}
abbrev sLrefused : Stmt := topS 55
abbrev nLrefused : List Str := ["_law_box", "_law_which", "_law_chosen_here", "_law_post", "_law_word", "e"]
theorem scLrefused : FnScope nLrefused ["_law_box", "_law_which", "_law_chosen_here", "_law_post", "_law_word"] (defScope sLrefused) := ⟨rfl, rfl, rfl, by decide +kernel, rfl, by decide +kernel, by decide +kernel⟩
def refD (t : Str) (d : D) : D := .tup [.str t, d, .bl true]
def spRef (CB CS CL : Addr) : ASp := fun bs Q _ => ∃ (rows : List Rw) (cs : List Str) (k : Int) (p wd : D), bs = [.st (boxD CB CS CL rows), .st (.int k), .st (.lst (cs.map D.str)), .st p, .st wd] ∧ ChOk rows cs ∧ Thg p ∧ Thg wd ∧
  ((k = 0 ∧ dBtw 0 1 p = false ∧ Q (refD "post" p)) ∨ (k = 0 ∧ dBtw 0 1 p = true ∧ dNm wd = false ∧ Q (refD "name" wd)) ∨ (k = 1 ∧ dNm wd = false ∧ Q (refD "name" wd)) ∨ (k = 2 ∧ dBtw 0 1 p = false ∧ Q (refD "post" p)))
theorem ok_refusedA (kB : BoxT K CB) (m : BxM K CB fBS fBJ fBH fdBS fdBJ fdBH) (E1 : RefT K mg CP CN CE) (XBadPost : ExcT P w K mg "BadPost" CP fX "value" fdX) (XBadName : ExcT P w K mg "BadName" CN fY "value" fdY)
    (GBSight : FnOk P w K mg base (L2.CX P w) 5 fBS fdBS ["self", "chosen", "post", "word"] (cSp K (spBSight CB CS CL CP CN))) (GBJoint : FnOk P w K mg base (L2.CX P w) 5 fBJ fdBJ ["self", "chosen", "word"] (cSp K (spBJoint CB CS CL CN))) (GBHolds : FnOk P w K mg base (L2.CX P w) 5 fBH fdBH ["self", "chosen", "post"] (cSpF K (spBHolds CB CS CL CP)))
    (DLrefused : Df K mg "_law_refused" sLrefused ["_law_box", "_law_which", "_law_chosen_here", "_law_post", "_law_word"] fLrefused fdLrefused) (T : Bl mg) : FnOk P w K mg base CX0 7 fLrefused fdLrefused ["_law_box", "_law_which", "_law_chosen_here", "_law_post", "_law_word"] (cSp K (spRef CB CS CL)) := by
  obtain ⟨mBS, bBS, mBJ, bBJ, mBH, bBH⟩ := m
  refine DLrefused.fn.ok scLrefused (fun vs H Q E h => cSp_len (fun bs Q X h => by obtain ⟨a, b, c, d, e, rfl, _⟩ := h; rfl) h) (fun cdv A outer s H vs Q E hr h => ?_)
  refine ⟨_, (pss_cons (ps_try_manyA (Wout := fun _ _ _ _ => False) rfl rfl scLrefused.nd takes0
        (fun W pn xe tk po => (C8.pss_cut (ps_if (pt_cmpR op_eq (pv 1) pe_int (nomark _)) (pss_one (ps_expr (pe_methW (pv 0) kB.cl mBS GBSight (hr.mono (by decide)) bBS (fun σ => passAt tk σ) (pa_cons (pv 2) (pa_cons (pv 3) (pa_cons (pv 4) pa_nil)))))) pss_nil)
      (C8.pss_cut (ps_if (pt_cmpR op_eq (pv 1) pe_int (nomark _)) (pss_one (ps_expr (pe_methW (pv 0) kB.cl mBJ GBJoint (hr.mono (by decide)) bBJ (fun σ => passAt tk σ) (pa_cons (pv 2) (pa_cons (pv 4) pa_nil))))) pss_nil)
      (pss_one (ps_if (pt_cmpR op_eq (pv 1) pe_int (nomark _)) (pss_one (ps_expr (pe_methW (pv 0) kB.cl mBH GBHolds (hr.mono (by decide)) bBH (fun σ => passAt tk σ) (pa_cons (pv 2) (pa_cons (pv 3) pa_nil))))) pss_nil)))))
        (HdsA.cons (i := 5) (c := .ref CP) rfl rfl ⟨rfl, by decide, .inl XBadPost.gl⟩ (fun a oe cls d pn hz hf => pss_one (ps_ret (pe_tup (pa_cons pe_str (pa_cons (pe_xf E1.xP E1.nP hz hf (pv 5)) (pa_cons (pe_callB (call_isED E1.cP hz hf) (by rfl) T.isinstance (by decide +kernel) (pa_cons (pv 5) (pa_cons (pe_glob (v := .ref CE) (by rfl) E1.gE rfl) pa_nil))) pa_nil))))))
        (HdsA.cons (i := 5) (c := .ref CN) rfl rfl ⟨rfl, by decide, .inl XBadName.gl⟩ (fun a oe cls d pn hz hf => pss_one (ps_ret (pe_tup (pa_cons pe_str (pa_cons (pe_xf E1.xN E1.nN hz hf (pv 5)) (pa_cons (pe_callB (call_isED E1.cN hz hf) (by rfl) T.isinstance (by decide +kernel) (pa_cons (pv 5) (pa_cons (pe_glob (v := .ref CE) (by rfl) E1.gE rfl) pa_nil))) pa_nil))))))
        HdsA.nil)))
      (pss_one (ps_ret (pe_tup (pa_cons pe_str (pa_cons pe_non (pa_cons pe_bl pa_nil))))))), ?_⟩
  refine fn_A (sa_seq (sa_try (fun W' => (sa_cut (sa_if (et_test (ea_op r2_eq (ea_var 1) ea_cI)) (sa_expr (ea_methX [] (ea_var 0) (el_cons (ea_var 2) (el_cons (ea_var 3) (el_cons (ea_var 4) el_nil))))) sa_next)
      (sa_cut (sa_if (et_test (ea_op r2_eq (ea_var 1) ea_cI)) (sa_expr (ea_methX [] (ea_var 0) (el_cons (ea_var 2) (el_cons (ea_var 4) el_nil)))) sa_next)
      (sa_if (et_test (ea_op r2_eq (ea_var 1) ea_cI)) (sa_expr (ea_fix (en_methX [] (ea_var 0) (el_cons (ea_var 2) (el_cons (ea_var 3) el_nil))))) sa_next)))) (HdA.cons (fun a cls d => sa_ret (ea_tup (el_cons ea_cS (el_cons (ea_xf (ea_var 5)) (el_cons (ea_xis (ea_var 5)) el_nil))))) (HdA.cons (fun a cls d => sa_ret (ea_tup (el_cons ea_cS (el_cons (ea_xf (ea_var 5)) (el_cons (ea_xis (ea_var 5)) el_nil))))) HdA.nil))) (sa_ret (ea_tup (el_cons ea_cS (el_cons ea_cN (el_cons ea_cB el_nil)))))) h fun bs Qa Xa h => ?_
  obtain ⟨rows, cs, k, p, wd, rfl, ch, tp, tw, h⟩ := h
  unfold refD at h
  have fm : ∀ n : Str, ([("shelf", D.dK (shelfD CS CL rows))] : List (Str × D)).lookup n = if n = "shelf" then some (D.dK (shelfD CS CL rows)) else none := fun n => by
    rw [List.lookup_cons]
    by_cases e : n = "shelf"
    · simp [e]
    · have : (n == ("shelf" : Str)) = false := by simpa using e
      rw [this, if_neg e]
      rfl
  rcases h with ⟨rfl, hb, q⟩ | ⟨rfl, hb, hn, q⟩ | ⟨rfl, hn, q⟩ | ⟨rfl, hb, q⟩
  · array_get_dec
    refine ⟨fun _ => False, ?_, fun _ z => z.elim⟩
    array_get_dec
    rw [decide_eq_true (show (0 : Int) = 0 from rfl)]
    unfold boxD
    array_get_dec
    refine ⟨rfl, rfl, rows, cs, _, p, wd, rfl, .inl rfl, ch, tp, tw, fun _ => ?_, (fun c => by rw [hb] at c; cases c), fun b z e => by rw [e] at hb; cases b <;> cases hb⟩
    exact ⟨true, E1.ePP, fun _ a d => ⟨rfl, rfl, rfl, rfl, p, rfl, rfl, rfl, rfl, rfl, true, E1.kP, q⟩, (fun z => by cases z)⟩
  · array_get_dec
    refine ⟨fun _ => False, ?_, fun _ z => z.elim⟩
    array_get_dec
    rw [decide_eq_true (show (0 : Int) = 0 from rfl)]
    unfold boxD
    array_get_dec
    refine ⟨rfl, rfl, rows, cs, _, p, wd, rfl, .inl rfl, ch, tp, tw, (fun c => by rw [hb] at c; cases c), fun _ _ => ?_, fun b z _ e nz => by rw [e, dNm_ok nz] at hn; cases hn⟩
    exact ⟨false, E1.eNP, (fun z => by cases z), fun _ => ⟨true, E1.eNN, fun _ a d => ⟨rfl, rfl, rfl, rfl, wd, rfl, rfl, rfl, rfl, rfl, true, E1.kN, q⟩, (fun z => by cases z)⟩⟩
  · array_get_dec
    refine ⟨fun env => env = [some (B.st (boxD CB CS CL rows)), some (.st (.int 1)), some (.st (.lst (cs.map D.str))), some (.st p), some (.st wd), none], ?_, ?_⟩
    · array_get_dec
      rw [decide_eq_false (show ¬ (1 : Int) = 0 by decide)]
      rfl
    rintro _ rfl
    array_get_dec
    refine ⟨fun _ => False, ?_, fun _ z => z.elim⟩
    array_get_dec
    rw [decide_eq_true (show (1 : Int) = 1 from rfl)]
    unfold boxD
    array_get_dec
    refine ⟨rfl, rfl, rows, cs, _, wd, rfl, .inl rfl, ch, tw, fun _ => ?_, fun z e nz => by rw [e, dNm_ok nz] at hn; cases hn⟩
    exact ⟨false, E1.eNP, (fun z => by cases z), fun _ => ⟨true, E1.eNN, fun _ a d => ⟨rfl, rfl, rfl, rfl, wd, rfl, rfl, rfl, rfl, rfl, true, E1.kN, q⟩, (fun z => by cases z)⟩⟩
  · array_get_dec
    refine ⟨fun env => env = [some (B.st (boxD CB CS CL rows)), some (.st (.int 2)), some (.st (.lst (cs.map D.str))), some (.st p), some (.st wd), none], ?_, ?_⟩
    · array_get_dec
      rw [decide_eq_false (show ¬ (2 : Int) = 0 by decide)]
      rfl
    rintro _ rfl
    array_get_dec
    refine ⟨fun env => env = [some (B.st (boxD CB CS CL rows)), some (.st (.int 2)), some (.st (.lst (cs.map D.str))), some (.st p), some (.st wd), none], ?_, ?_⟩
    · array_get_dec
      rw [decide_eq_false (show ¬ (2 : Int) = 1 by decide)]
      rfl
    rintro _ rfl
    array_get_dec
    rw [decide_eq_true (show (2 : Int) = 2 from rfl)]
    unfold boxD
    array_get_dec
    refine ⟨rfl, rfl, rows, cs, _, p, rfl, .inl rfl, ch, tp, fun _ => ?_, fun b e => by rw [e] at hb; cases b <;> cases hb⟩
    exact ⟨true, E1.ePP, fun _ a d => ⟨rfl, rfl, rfl, rfl, p, rfl, rfl, rfl, rfl, rfl, true, E1.kP, q⟩, (fun z => by cases z)⟩
end
end WW

set_option Elab.async false
set_option linter.all false
set_option maxRecDepth 100000
set_option maxHeartbeats 4000000
namespace WW
open PySem PySem.Spec PyProof.Rows L2
local macro_rules | `(tactic| array_mem_dec) => `(tactic| try dsimp only [slot, aVar, aC, aOp, ifB_t, ifB_f, aTest, aAnd, aOr, aNot, aAndV, aOrT, aOrV, aNotV, aIfE, aChain, aNil, aCons, aName, aGNil, aGCons, aGTup, aNext, aIf, aRet, aRetO, aRetN, aDrop, aAsg, aNew, aPar, aParN, aPar3, frz, aFz, aNever, aLoop, aFor, aCol, aLc, aYes, fAdd, fSub, fMul, fMod, fDiv, fPow, fLt, fLe, fGt, fGe, fI, fIc, fCatS, fLtS, eqD, fEq, fNe, fIsN, fNotN, aFn1, fNeg, fLen, fInt, fAbs, fAll, fAny, aFn2, fMax, truD, aTru, aIxL, aIxT, aIxQ, fIxS, stabs, aTup, aLst, aFix, B.solid, B.get, B.sub, aCat, aListOf, aTupOf, aONone, aOSome, aSlL, aRevL, aSortSet, aListAny, aListDK, aCopyD, aLenSet, aSortDK, aSortS, aRetNw, aMethN, aEi, aIQ, aDgN, aDget, aDgetN, fDin, fDnin, aDnew, aDput, fLenD, D.key, aFld, aProp, aMeth, aMeth0, putFD, aSetF, aMake, aMake0, aRaise, isIn, isBo, isS, isL, isT, isDi, isRow, isNo, knD, aIs, aIsRow, D.fl, fInF, fNinF, fInS, fEqY, fNeY, fEqP, fNeP, fInP, fNinP, aLcK, aDc, aIE, aIS, aTry, aHand, aXf, aXis, aIL, aICL, aIT, aIR1, aIR2, coe1, coes, aCall, aCall0, aApp, awipe, List.set, List.map, List.cons_append, List.nil_append, List.replicate, List.length, Nat.reduceSub, Nat.reduceAdd])
local macro_rules | `(tactic| array_get_dec) => `(tactic| (array_mem_dec; repeat (with_reducible refine go_seq ?_; array_mem_dec)))
theorem Alk.le {m n : Nat} (h : m ≤ n) {d : D} (a : Alk m d) : Alk n d := by
  induction h with
  | refl => exact a
  | step _ ih => exact ih.up
theorem alk_strs {zs : List Str} (h : zs.length ≤ 100) : Alk 5 (.lst (zs.map D.str)) := .lst (by rw [List.length_map]; exact h) fun d hd => by
  obtain ⟨z, _, rfl⟩ := List.mem_map.mp hd
  exact .lf rfl
theorem alk_sight {ss : List ZZ} (h : ss.length ≤ 100) (wd : Str) : Alk 2 (sightD ss wd) := by
  unfold sightD
  split
  · exact .lf rfl
  · refine .tup (by rw [List.length_map]; exact h) fun d hd => ?_
    obtain ⟨z, _, rfl⟩ := List.mem_map.mp hd
    cases look z wd <;> exact .lf rfl
theorem alk_joint {s0 s1 : List ZZ} (h0 : s0.length ≤ 100) (h1 : s1.length ≤ 100) (wd : Str) : Alk 3 (jointD s0 s1 wd) := by
  unfold jointD
  split
  · exact .lf rfl
  · refine .tup (by simp) fun d hd => ?_
    simp only [List.mem_cons, List.not_mem_nil, or_false] at hd
    rcases hd with rfl | rfl
    · exact alk_sight h0 wd
    · exact alk_sight h1 wd
theorem rng2 {i : Nat} {x : B} (h : (rngB 0 2)[i]? = some x) : ∃ b : Bool, x = .st (.int (cond b 1 0)) := by
  obtain ⟨hi, rfl⟩ := rng_at h
  by_cases e : i = 0
  · exact ⟨false, by subst e; rfl⟩
  · exact ⟨true, by rw [show i = 1 by omega]; rfl⟩
theorem thg_post (b : Bool) : Thg (.int (cond b 1 0)) := thg_int _
theorem btw_post (b : Bool) : dBtw 0 1 (.int (cond b 1 0)) = true := by cases b <;> rfl
theorem post_inj {b c : Bool} (h : (D.int (cond b 1 0)) = .int (cond c 1 0)) : b = c := by
  cases b <;> cases c <;> first | rfl | (have := D.int.inj h; revert this; decide)
section
variable {P : Program} {w : World} {K : PySem.W.Frag} {mg : Str → Option Value} {base : Heap} {CB CS CL CP CN CE fBS fBJ fBH fX fY : Addr} {fdBS fdBJ fdBH fdX fdY : FuncData}
abbrev sLtold : Stmt := topS 56
abbrev nLtold : List Str := ["_law_box", "_law_rows", "_law_chosen_here", "_law_words_here", "_law_word", "_law_post", "_law_said"]
theorem scLtold : FnScope nLtold ["_law_box", "_law_rows", "_law_chosen_here", "_law_words_here"] (defScope sLtold) := ⟨rfl, rfl, rfl, by decide +kernel, rfl, by decide +kernel, by decide +kernel⟩
def spToldA (CB CS CL : Addr) : ASp := fun bs Q _ => ∃ (rows : List Rw) (cs zs : List Str), bs = [.st (boxD CB CS CL rows), .st (.lst (rows.map Rw.d)), .st (.lst (cs.map D.str)), .st (.lst (zs.map D.str))] ∧ ChOk rows cs ∧ rows.length ≤ 6 ∧ (∀ z ∈ zs, NameOk z) ∧ Q (.bl true)
theorem ok_toldA (kB : BoxT K CB) (m : BxM K CB fBS fBJ fBH fdBS fdBJ fdBH)
    (GBSight : FnOk P w K mg base (L2.CX P w) 5 fBS fdBS ["self", "chosen", "post", "word"] (cSp K (spBSight CB CS CL CP CN))) (GBJoint : FnOk P w K mg base (L2.CX P w) 5 fBJ fdBJ ["self", "chosen", "word"] (cSp K (spBJoint CB CS CL CN))) (GBHolds : FnOk P w K mg base (L2.CX P w) 5 fBH fdBH ["self", "chosen", "post"] (cSpF K (spBHolds CB CS CL CP)))
    (DLalike : Df K mg "_law_alike" sLalike ["_law_one", "_law_other"] fLalike fdLalike) (GLalike : FnOk P w K mg base CX0 6 fLalike fdLalike ["_law_one", "_law_other"] (cSp K (spAlk 5))) (DLsight : Df K mg "_law_sight" sLsight ["_law_rows", "_law_chosen_here", "_law_post", "_law_word"] fLsight fdLsight) (GLsight : FnOk P w K mg base CX0 1 fLsight fdLsight ["_law_rows", "_law_chosen_here", "_law_post", "_law_word"] (cSp K spLSight)) (DLreads : Df K mg "_law_reads" sLreads ["_law_rows", "_law_chosen_here", "_law_reader", "_law_word"] fLreads fdLreads) (GLreads : FnOk P w K mg base CX0 2 fLreads fdLreads ["_law_rows", "_law_chosen_here", "_law_reader", "_law_word"] (cSp K spLReads)) (DLstops : Df K mg "_law_stops" sLstops ["_law_rows", "_law_chosen_here", "_law_post"] fLstops fdLstops) (GLstops : FnOk P w K mg base CX0 1 fLstops fdLstops ["_law_rows", "_law_chosen_here", "_law_post"] (cSp K spLStops)) (DLtold : Df K mg "_law_told" sLtold ["_law_box", "_law_rows", "_law_chosen_here", "_law_words_here"] fLtold fdLtold) (T : Bl mg) : FnOk P w K mg base CX0 8 fLtold fdLtold ["_law_box", "_law_rows", "_law_chosen_here", "_law_words_here"] (cSp K (spToldA CB CS CL)) := by
  obtain ⟨mBS, bBS, mBJ, bBJ, mBH, bBH⟩ := m
  refine DLtold.fn.ok scLtold (fun vs H Q E h => cSp_len (fun bs Q X h => by obtain ⟨a, b, c, rfl, _⟩ := h; rfl) h) (fun cdv A outer s H vs Q E hr h => ?_)
  refine ⟨_, (pss_cons (ps_for PassesOwn.never rfl (pi_list (pv 3)) (pg_name (i := 4) scLtold.nd rfl (Or.inl rfl)) (pss_cons (ps_for PassesOwn.never rfl (pi_range1 (by rfl) T.range (pa_cons pe_int pa_nil)) (pg_name (i := 5) scLtold.nd rfl (Or.inl rfl)) (pss_one (ps_if (pt_not (pt_val (pe_df DLalike GLalike (hr.mono (by decide)) (pa_cons (pe_methW (pv 0) kB.cl mBS GBSight (hr.mono (by decide)) bBS (fun σ => passAt takes0 σ) (pa_cons (pv 2) (pa_cons (pv 5) (pa_cons (pv 4) pa_nil)))) (pa_cons (pe_df DLsight GLsight (hr.mono (by decide)) (pa_cons (pv 1) (pa_cons (pv 2) (pa_cons (pv 5) (pa_cons (pv 4) pa_nil))))) pa_nil))))) (pss_one (ps_ret pe_bl)) pss_nil)))
      (pss_one (ps_if (pt_not (pt_val (pe_df DLalike GLalike (hr.mono (by decide)) (pa_cons (pe_methW (pv 0) kB.cl mBJ GBJoint (hr.mono (by decide)) bBJ (fun σ => passAt takes0 σ) (pa_cons (pv 2) (pa_cons (pv 4) pa_nil))) (pa_cons (pe_df DLreads GLreads (hr.mono (by decide)) (pa_cons (pv 1) (pa_cons (pv 2) (pa_cons pe_str (pa_cons (pv 4) pa_nil))))) pa_nil))))) (pss_one (ps_ret pe_bl)) pss_nil))))
      (pss_cons (ps_for PassesOwn.never rfl (pi_range1 (by rfl) T.range (pa_cons pe_int pa_nil)) (pg_name (i := 5) scLtold.nd rfl (Or.inl rfl)) (pss_cons (ps_set (i := 6) scLtold.nd rfl (Or.inl rfl) (pe_methW (pv 0) kB.cl mBH GBHolds (hr.mono (by decide)) bBH (fun σ => passAt takes0 σ) (pa_cons (pv 2) (pa_cons (pv 5) pa_nil))))
      (pss_cons (ps_if (pt_not (pt_val (pe_df DLalike GLalike (hr.mono (by decide)) (pa_cons (pv 6) (pa_cons (pe_df DLstops GLstops (hr.mono (by decide)) (pa_cons (pv 1) (pa_cons (pv 2) (pa_cons (pv 5) pa_nil)))) pa_nil))))) (pss_one (ps_ret pe_bl)) pss_nil)
      (pss_cons (ps_expr (pe_bm PySem.F.plainAttrs_list PySem.F.slot_list_append PySem.F.type_list_append mt_append (pv 6) (pa_cons pe_str pa_nil)))
      (pss_one (ps_if (pt_not (pt_val (pe_df DLalike GLalike (hr.mono (by decide)) (pa_cons (pe_methW (pv 0) kB.cl mBH GBHolds (hr.mono (by decide)) bBH (fun σ => passAt takes0 σ) (pa_cons (pe_callTy call_tuple_of (by rfl) T.tuple (by decide +kernel) (pa_cons (pv 2) pa_nil)) (pa_cons (pv 5) pa_nil))) (pa_cons (pe_df DLstops GLstops (hr.mono (by decide)) (pa_cons (pv 1) (pa_cons (pv 2) (pa_cons (pv 5) pa_nil)))) pa_nil))))) (pss_one (ps_ret pe_bl)) pss_nil))))))
      (pss_one (ps_ret pe_bl)))), ?_⟩
  refine fn_A ((sa_seq (sa_for (ei_list (ea_var 3)) (ga_name (js := [4]) 4) (sa_seq (sa_for (ei_range1 ea_cI) (ga_name (js := [5]) 5) (sa_if (et_not (et_B (ea_call [] (el_cons (ea_methX [] (ea_var 0) (el_cons (ea_var 2) (el_cons (ea_var 5) (el_cons (ea_var 4) el_nil)))) (el_cons (ea_call [] (el_cons (ea_var 1) (el_cons (ea_var 2) (el_cons (ea_var 5) (el_cons (ea_var 4) el_nil))))) el_nil))))) (sa_ret ea_cB) sa_next))
      (sa_if (et_not (et_B (ea_call [] (el_cons (ea_methX [] (ea_var 0) (el_cons (ea_var 2) (el_cons (ea_var 4) el_nil))) (el_cons (ea_call [] (el_cons (ea_var 1) (el_cons (ea_var 2) (el_cons ea_cS (el_cons (ea_var 4) el_nil))))) el_nil))))) (sa_ret ea_cB) sa_next)))
      (sa_seq (sa_for (ei_range1 ea_cI) (ga_name (js := [5]) 5) (sa_seq (sa_new 6 (en_methX [] (ea_var 0) (el_cons (ea_var 2) (el_cons (ea_var 5) el_nil))))
      (sa_seq (sa_if (et_not (et_B (ea_call [] (el_cons (ea_var 6) (el_cons (ea_call [] (el_cons (ea_var 1) (el_cons (ea_var 2) (el_cons (ea_var 5) el_nil)))) el_nil))))) (sa_ret ea_cB) sa_next)
      (sa_seq (sa_app 6 ea_cS)
      (sa_if (et_not (et_B (ea_call [] (el_cons (ea_fix (en_methX [] (ea_var 0) (el_cons (ea_tupOf (ea_var 2)) (el_cons (ea_var 5) el_nil)))) (el_cons (ea_call [] (el_cons (ea_var 1) (el_cons (ea_var 2) (el_cons (ea_var 5) el_nil)))) el_nil))))) (sa_ret ea_cB) sa_next)))))
      (sa_ret ea_cB)))) h fun bs Qa Xa h => ?_
  obtain ⟨rows, cs, zs, rfl, ch, rl, hz, q⟩ := h
  have sl : ∀ b, (sOf rows (cs.mergeSort leS) b).length ≤ 100 := fun b => by
    have := sOf_len rows (cs.mergeSort leS) b
    have := ch.srt.2
    omega
  have wl : ∀ b, (wOf rows (cs.mergeSort leS) b).length ≤ 100 := fun b => by
    have := wOf_len ch.rw b ch.srt.1
    have := ch.srt.2
    omega
  (try dsimp only [slot, aVar, aC, aOp, ifB_t, ifB_f, aTest, aAnd, aOr, aNot, aAndV, aOrT, aOrV, aNotV, aIfE, aChain, aNil, aCons, aName, aGNil, aGCons, aGTup, aNext, aIf, aRet, aRetO, aRetN, aDrop, aAsg, aNew, aPar, aParN, aPar3, frz, aFz, aNever, aFor, aCol, aLc, aYes, fAdd, fSub, fMul, fMod, fDiv, fPow, fLt, fLe, fGt, fGe, fI, fIc, fCatS, fLtS, eqD, fEq, fNe, fIsN, fNotN, aFn1, fNeg, fLen, fInt, fAbs, fAll, fAny, aFn2, fMax, truD, aTru, aIxL, aIxT, aIxQ, fIxS, stabs, aTup, aLst, aFix, B.solid, B.get, B.sub, aCat, aListOf, aTupOf, aONone, aOSome, aSlL, aRevL, aSortSet, aListAny, aListDK, aCopyD, aLenSet, aSortDK, aSortS, aRetNw, aMethN, aEi, aIQ, aDgN, aDget, aDgetN, fDin, fDnin, aDnew, aDput, fLenD, D.key, aFld, aProp, aMeth, aMeth0, putFD, aSetF, aMake, aMake0, aRaise, isIn, isBo, isS, isL, isT, isDi, isRow, isNo, knD, aIs, aIsRow, D.fl, fInF, fNinF, fInS, fEqY, fNeY, fEqP, fNeP, fInP, fNinP, aLcK, aDc, aIE, aIS, aTry, aHand, aXf, aXis, aIL, aICL, aIT, aIR1, aIR2, coe1, coes, aCall, aCall0, aApp, awipe, List.set, List.map, List.cons_append, List.nil_append, List.replicate, List.length, Nat.reduceSub, Nat.reduceAdd]); repeat (with_reducible refine go_seq ?_; try dsimp only [slot, aVar, aC, aOp, ifB_t, ifB_f, aTest, aAnd, aOr, aNot, aAndV, aOrT, aOrV, aNotV, aIfE, aChain, aNil, aCons, aName, aGNil, aGCons, aGTup, aNext, aIf, aRet, aRetO, aRetN, aDrop, aAsg, aNew, aPar, aParN, aPar3, frz, aFz, aNever, aFor, aCol, aLc, aYes, fAdd, fSub, fMul, fMod, fDiv, fPow, fLt, fLe, fGt, fGe, fI, fIc, fCatS, fLtS, eqD, fEq, fNe, fIsN, fNotN, aFn1, fNeg, fLen, fInt, fAbs, fAll, fAny, aFn2, fMax, truD, aTru, aIxL, aIxT, aIxQ, fIxS, stabs, aTup, aLst, aFix, B.solid, B.get, B.sub, aCat, aListOf, aTupOf, aONone, aOSome, aSlL, aRevL, aSortSet, aListAny, aListDK, aCopyD, aLenSet, aSortDK, aSortS, aRetNw, aMethN, aEi, aIQ, aDgN, aDget, aDgetN, fDin, fDnin, aDnew, aDput, fLenD, D.key, aFld, aProp, aMeth, aMeth0, putFD, aSetF, aMake, aMake0, aRaise, isIn, isBo, isS, isL, isT, isDi, isRow, isNo, knD, aIs, aIsRow, D.fl, fInF, fNinF, fInS, fEqY, fNeY, fEqP, fNeP, fInP, fNinP, aLcK, aDc, aIE, aIS, aTry, aHand, aXf, aXis, aIL, aICL, aIT, aIR1, aIR2, coe1, coes, aCall, aCall0, aApp, awipe, List.set, List.map, List.cons_append, List.nil_append, List.replicate, List.length, Nat.reduceSub, Nat.reduceAdd])
  refine aLoop_inv (fun i env => ∃ u4 u5, env = [some (.st (boxD CB CS CL rows)), some (.st (.lst (rows.map Rw.d))), some (.st (.lst (cs.map D.str))), some (.st (.lst (zs.map D.str))), u4, u5, none]) ⟨_, _, rfl⟩ ?_ ?_
  · rintro i y env R hy ⟨u4, u5, rfl⟩ hR
    obtain ⟨z, hzi, rfl⟩ := strB_at hy
    have nz := hz z (List.mem_of_getElem? hzi)
    (try dsimp only [slot, aVar, aC, aOp, ifB_t, ifB_f, aTest, aAnd, aOr, aNot, aAndV, aOrT, aOrV, aNotV, aIfE, aChain, aNil, aCons, aName, aGNil, aGCons, aGTup, aNext, aIf, aRet, aRetO, aRetN, aDrop, aAsg, aNew, aPar, aParN, aPar3, frz, aFz, aNever, aFor, aCol, aLc, aYes, fAdd, fSub, fMul, fMod, fDiv, fPow, fLt, fLe, fGt, fGe, fI, fIc, fCatS, fLtS, eqD, fEq, fNe, fIsN, fNotN, aFn1, fNeg, fLen, fInt, fAbs, fAll, fAny, aFn2, fMax, truD, aTru, aIxL, aIxT, aIxQ, fIxS, stabs, aTup, aLst, aFix, B.solid, B.get, B.sub, aCat, aListOf, aTupOf, aONone, aOSome, aSlL, aRevL, aSortSet, aListAny, aListDK, aCopyD, aLenSet, aSortDK, aSortS, aRetNw, aMethN, aEi, aIQ, aDgN, aDget, aDgetN, fDin, fDnin, aDnew, aDput, fLenD, D.key, aFld, aProp, aMeth, aMeth0, putFD, aSetF, aMake, aMake0, aRaise, isIn, isBo, isS, isL, isT, isDi, isRow, isNo, knD, aIs, aIsRow, D.fl, fInF, fNinF, fInS, fEqY, fNeY, fEqP, fNeP, fInP, fNinP, aLcK, aDc, aIE, aIS, aTry, aHand, aXf, aXis, aIL, aICL, aIT, aIR1, aIR2, coe1, coes, aCall, aCall0, aApp, awipe, List.set, List.map, List.cons_append, List.nil_append, List.replicate, List.length, Nat.reduceSub, Nat.reduceAdd]); repeat (with_reducible refine go_seq ?_; try dsimp only [slot, aVar, aC, aOp, ifB_t, ifB_f, aTest, aAnd, aOr, aNot, aAndV, aOrT, aOrV, aNotV, aIfE, aChain, aNil, aCons, aName, aGNil, aGCons, aGTup, aNext, aIf, aRet, aRetO, aRetN, aDrop, aAsg, aNew, aPar, aParN, aPar3, frz, aFz, aNever, aFor, aCol, aLc, aYes, fAdd, fSub, fMul, fMod, fDiv, fPow, fLt, fLe, fGt, fGe, fI, fIc, fCatS, fLtS, eqD, fEq, fNe, fIsN, fNotN, aFn1, fNeg, fLen, fInt, fAbs, fAll, fAny, aFn2, fMax, truD, aTru, aIxL, aIxT, aIxQ, fIxS, stabs, aTup, aLst, aFix, B.solid, B.get, B.sub, aCat, aListOf, aTupOf, aONone, aOSome, aSlL, aRevL, aSortSet, aListAny, aListDK, aCopyD, aLenSet, aSortDK, aSortS, aRetNw, aMethN, aEi, aIQ, aDgN, aDget, aDgetN, fDin, fDnin, aDnew, aDput, fLenD, D.key, aFld, aProp, aMeth, aMeth0, putFD, aSetF, aMake, aMake0, aRaise, isIn, isBo, isS, isL, isT, isDi, isRow, isNo, knD, aIs, aIsRow, D.fl, fInF, fNinF, fInS, fEqY, fNeY, fEqP, fNeP, fInP, fNinP, aLcK, aDc, aIE, aIS, aTry, aHand, aXf, aXis, aIL, aICL, aIT, aIR1, aIR2, coe1, coes, aCall, aCall0, aApp, awipe, List.set, List.map, List.cons_append, List.nil_append, List.replicate, List.length, Nat.reduceSub, Nat.reduceAdd])
    refine ⟨⟨by decide, by decide⟩, ?_⟩
    refine aLoop_inv (fun j env => ∃ u5, env = [some (.st (boxD CB CS CL rows)), some (.st (.lst (rows.map Rw.d))), some (.st (.lst (cs.map D.str))), some (.st (.lst (zs.map D.str))), some (.st (.str z)), u5, none]) ⟨_, rfl⟩ ?_ ?_
    · rintro j y env R2 hy2 ⟨u5, rfl⟩ hR2
      obtain ⟨b, rfl⟩ := rng2 hy2
      unfold boxD
      array_get_dec
      refine ⟨rfl, rfl, rows, cs, _, _, _, rfl, .inl rfl, ch, thg_post b, thg_str nz, (fun c => by rw [btw_post] at c; cases c), (fun _ c => by rw [dNm_ok nz] at c; cases c), fun b' z' e1 e2 _ => ?_⟩
      cases e2
      cases post_inj e1
      array_get_dec
      refine ⟨rows, cs, b, z, rfl, ch.rw, rl, ?_⟩
      rw [lsight_eq ch]
      exact ⟨_, .inl rfl, (alk_sight (sl b) z).le (by decide), hR2 _ ⟨_, rfl⟩⟩
    · rintro env ⟨u5, rfl⟩
      unfold boxD
      array_get_dec
      refine ⟨rfl, rfl, rows, cs, _, _, rfl, .inl rfl, ch, thg_str nz, (fun c => by rw [dNm_ok nz] at c; cases c), fun z' e2 _ => ?_⟩
      cases e2
      array_get_dec
      refine ⟨rows, cs, z, rfl, ch.rw, rl, ?_⟩
      rw [ljoint_eq ch]
      exact ⟨_, .inl rfl, (alk_joint (sl false) (sl true) z).le (by decide), hR _ ⟨_, _, rfl⟩⟩
  · rintro env ⟨u4, u5, rfl⟩
    (try dsimp only [slot, aVar, aC, aOp, ifB_t, ifB_f, aTest, aAnd, aOr, aNot, aAndV, aOrT, aOrV, aNotV, aIfE, aChain, aNil, aCons, aName, aGNil, aGCons, aGTup, aNext, aIf, aRet, aRetO, aRetN, aDrop, aAsg, aNew, aPar, aParN, aPar3, frz, aFz, aNever, aFor, aCol, aLc, aYes, fAdd, fSub, fMul, fMod, fDiv, fPow, fLt, fLe, fGt, fGe, fI, fIc, fCatS, fLtS, eqD, fEq, fNe, fIsN, fNotN, aFn1, fNeg, fLen, fInt, fAbs, fAll, fAny, aFn2, fMax, truD, aTru, aIxL, aIxT, aIxQ, fIxS, stabs, aTup, aLst, aFix, B.solid, B.get, B.sub, aCat, aListOf, aTupOf, aONone, aOSome, aSlL, aRevL, aSortSet, aListAny, aListDK, aCopyD, aLenSet, aSortDK, aSortS, aRetNw, aMethN, aEi, aIQ, aDgN, aDget, aDgetN, fDin, fDnin, aDnew, aDput, fLenD, D.key, aFld, aProp, aMeth, aMeth0, putFD, aSetF, aMake, aMake0, aRaise, isIn, isBo, isS, isL, isT, isDi, isRow, isNo, knD, aIs, aIsRow, D.fl, fInF, fNinF, fInS, fEqY, fNeY, fEqP, fNeP, fInP, fNinP, aLcK, aDc, aIE, aIS, aTry, aHand, aXf, aXis, aIL, aICL, aIT, aIR1, aIR2, coe1, coes, aCall, aCall0, aApp, awipe, List.set, List.map, List.cons_append, List.nil_append, List.replicate, List.length, Nat.reduceSub, Nat.reduceAdd]); repeat (with_reducible refine go_seq ?_; try dsimp only [slot, aVar, aC, aOp, ifB_t, ifB_f, aTest, aAnd, aOr, aNot, aAndV, aOrT, aOrV, aNotV, aIfE, aChain, aNil, aCons, aName, aGNil, aGCons, aGTup, aNext, aIf, aRet, aRetO, aRetN, aDrop, aAsg, aNew, aPar, aParN, aPar3, frz, aFz, aNever, aFor, aCol, aLc, aYes, fAdd, fSub, fMul, fMod, fDiv, fPow, fLt, fLe, fGt, fGe, fI, fIc, fCatS, fLtS, eqD, fEq, fNe, fIsN, fNotN, aFn1, fNeg, fLen, fInt, fAbs, fAll, fAny, aFn2, fMax, truD, aTru, aIxL, aIxT, aIxQ, fIxS, stabs, aTup, aLst, aFix, B.solid, B.get, B.sub, aCat, aListOf, aTupOf, aONone, aOSome, aSlL, aRevL, aSortSet, aListAny, aListDK, aCopyD, aLenSet, aSortDK, aSortS, aRetNw, aMethN, aEi, aIQ, aDgN, aDget, aDgetN, fDin, fDnin, aDnew, aDput, fLenD, D.key, aFld, aProp, aMeth, aMeth0, putFD, aSetF, aMake, aMake0, aRaise, isIn, isBo, isS, isL, isT, isDi, isRow, isNo, knD, aIs, aIsRow, D.fl, fInF, fNinF, fInS, fEqY, fNeY, fEqP, fNeP, fInP, fNinP, aLcK, aDc, aIE, aIS, aTry, aHand, aXf, aXis, aIL, aICL, aIT, aIR1, aIR2, coe1, coes, aCall, aCall0, aApp, awipe, List.set, List.map, List.cons_append, List.nil_append, List.replicate, List.length, Nat.reduceSub, Nat.reduceAdd])
    refine ⟨⟨by decide, by decide⟩, ?_⟩
    refine aLoop_inv (fun j env => ∃ u4 u5 u6, env = [some (.st (boxD CB CS CL rows)), some (.st (.lst (rows.map Rw.d))), some (.st (.lst (cs.map D.str))), some (.st (.lst (zs.map D.str))), u4, u5, u6]) ⟨_, _, _, rfl⟩ ?_ ?_
    · rintro j y env R2 hy2 ⟨u4, u5, u6, rfl⟩ hR2
      obtain ⟨b, rfl⟩ := rng2 hy2
      unfold boxD
      array_get_dec
      refine ⟨rfl, rfl, rows, cs, _, _, rfl, .inl rfl, ch, thg_post b, (fun c => by rw [btw_post] at c; cases c), fun b' e1 => ?_⟩
      cases post_inj e1
      intro o
      array_get_dec
      refine ⟨rows, cs, b, rfl, ch.rw, rl, ?_⟩
      rw [lstops_eq ch]
      refine ⟨_, .inr rfl, alk_strs (wl b), ?_⟩
      array_get_dec
      refine ⟨by rw [List.length_map]; have := wl b; omega, ?_⟩
      array_get_dec
      refine ⟨rfl, rfl, rows, cs, _, _, rfl, .inr rfl, ch, thg_post b, (fun c => by rw [btw_post] at c; cases c), fun b' e1 => ?_⟩
      cases post_inj e1
      array_get_dec
      refine ⟨rows, cs, b, rfl, ch.rw, rl, ?_⟩
      rw [lstops_eq ch]
      exact ⟨_, .inl rfl, alk_strs (wl b), hR2 _ ⟨_, _, _, rfl⟩⟩
    · rintro env ⟨u4, u5, u6, rfl⟩
      exact q
end
end WW

set_option Elab.async false
set_option linter.all false
set_option maxRecDepth 100000
set_option maxHeartbeats 4000000
namespace WW
open PySem PySem.Spec PyProof.Rows L2
local macro_rules | `(tactic| array_mem_dec) => `(tactic| try dsimp only [slot, aVar, aC, aOp, ifB_t, ifB_f, aTest, aAnd, aOr, aNot, aAndV, aOrT, aOrV, aNotV, aIfE, aChain, aNil, aCons, aName, aGNil, aGCons, aGTup, aNext, aIf, aRet, aRetO, aRetN, aDrop, aAsg, aNew, aPar, aParN, aPar3, frz, aFz, aNever, aLoop, aFor, aCol, aLc, aYes, fAdd, fSub, fMul, fMod, fDiv, fPow, fLt, fLe, fGt, fGe, fI, fIc, fCatS, fLtS, eqD, fEq, fNe, fIsN, fNotN, aFn1, fNeg, fLen, fInt, fAbs, fAll, fAny, aFn2, fMax, truD, aTru, aIxL, aIxT, aIxQ, fIxS, stabs, aTup, aLst, aFix, B.solid, B.get, B.sub, aCat, aListOf, aTupOf, aONone, aOSome, aSlL, aRevL, aSortSet, aListAny, aListDK, aCopyD, aLenSet, aSortDK, aSortS, aRetNw, aMethN, aEi, aIQ, aDgN, aDget, aDgetN, fDin, fDnin, aDnew, aDput, fLenD, D.key, aFld, aProp, aMeth, aMeth0, putFD, aSetF, aMake, aMake0, aRaise, isIn, isBo, isS, isL, isT, isDi, isRow, isNo, knD, aIs, aIsRow, D.fl, fInF, fNinF, fInS, fEqY, fNeY, fEqP, fNeP, fInP, fNinP, aLcK, aDc, aIE, aIS, aTry, aHand, aXf, aXis, aIL, aICL, aIT, aIR1, aIR2, coe1, coes, aCall, aCall0, aApp, awipe, List.set, List.map, List.cons_append, List.nil_append, List.replicate, List.length, Nat.reduceSub, Nat.reduceAdd])
local macro_rules | `(tactic| array_get_dec) => `(tactic| (array_mem_dec; repeat (with_reducible refine go_seq ?_; array_mem_dec)))
def posts : List D := [.int 2, .int (-1), .bl true, .bl false, .non, .str "0", .str "both", .tup [.int 0], .int (10 ^ 30)]
def badw : List D := [.non, .int 0, .str "", .str "A", .str "abcdefghijk", .tup [.str "a"], .lst [], .bl true]
theorem post_bad {d : D} (h : d ∈ posts) : Thg d ∧ dBtw 0 1 d = false ∧ Alk 4 d := by
  unfold posts at h
  simp only [List.mem_cons, List.not_mem_nil, or_false] at h
  rcases h with rfl | rfl | rfl | rfl | rfl | rfl | rfl | rfl | rfl
  · exact ⟨thg_int _, rfl, .lf rfl⟩
  · exact ⟨thg_int _, rfl, .lf rfl⟩
  · exact ⟨thg_bl _, rfl, .lf rfl⟩
  · exact ⟨thg_bl _, rfl, .lf rfl⟩
  · exact ⟨thg_non, rfl, .lf rfl⟩
  · exact ⟨⟨by simp [knD], fun y e => by cases e; decide⟩, rfl, .lf rfl⟩
  · exact ⟨⟨by simp [knD], fun y e => by cases e; decide⟩, rfl, .lf rfl⟩
  · exact ⟨thg_tup _, rfl, .tup (by simp) fun d hd => by rw [List.mem_singleton.mp hd]; exact .lf rfl⟩
  · exact ⟨thg_int _, by decide, .lf rfl⟩
theorem word_bad {d : D} (h : d ∈ badw) : Thg d ∧ dNm d = false ∧ Alk 4 d := by
  unfold badw at h
  simp only [List.mem_cons, List.not_mem_nil, or_false] at h
  have st : ∀ z : Str, z.length ≤ 11 → Thg (.str z) := fun z hz => ⟨by simp [knD], fun y e => by cases e; exact Nat.le_trans hz (by decide)⟩
  rcases h with rfl | rfl | rfl | rfl | rfl | rfl | rfl | rfl
  · exact ⟨thg_non, rfl, .lf rfl⟩
  · exact ⟨thg_int _, rfl, .lf rfl⟩
  · exact ⟨st _ (by decide), by decide, .lf rfl⟩
  · exact ⟨st _ (by decide), by decide, .lf rfl⟩
  · exact ⟨st _ (by decide), by decide, .lf rfl⟩
  · exact ⟨thg_tup _, rfl, .tup (by simp) fun d hd => by rw [List.mem_singleton.mp hd]; exact .lf rfl⟩
  · exact ⟨thg_lst _, rfl, .lst (by simp) fun d hd => by simp at hd⟩
  · exact ⟨thg_bl _, rfl, .lf rfl⟩
theorem alk_ref {t : Str} {d : D} (h : Alk 4 d) : Alk 5 (refD t d) := .tup (by simp) fun x hx => by
  simp only [List.mem_cons, List.not_mem_nil, or_false] at hx
  rcases hx with rfl | rfl | rfl
  · exact .lf rfl
  · exact h
  · exact .lf rfl
section
variable {P : Program} {w : World} {K : PySem.W.Frag} {mg : Str → Option Value} {base : Heap} {CB CS CL f f1 : Addr} {fd fd1 : FuncData}
theorem law_go {t : TS} {as : AS} {p : Addr} {S H : Hp} {σ : L2.St} {env : AEnv} {Q : VK} (hs : SA K (fun _ _ _ _ => False) t as) (P0 : Pool S H p) (hl : σ.length = env.length) (hsl : ∀ i b, slot env i = some b → b = .pool ∧ σ[i]? = some (some (.ref p))) (q : ∀ H', Q (.bl true) H')
    (h : as ⟨fun _ => False, fun d => d = .bl true, fun _ => False, fun _ => False, fun _ => False, fun _ _ _ => False⟩ env) : t { nx := fun _ H' => Q .non H', rt := Q } σ H := by
  refine hs (some p) S H S H σ env ⟨fun _ => False, fun d => d = .bl true, fun _ => False, fun _ => False, fun _ => False, fun _ _ _ => False⟩ _ ⟨GrO.refl, ⟨⟨P0.ss, fun p' e => by cases e; exact P0⟩, Kp.refl, hl, fun i b hb => ?_⟩, fun i a d hb => ?_, fun i j a d d' hb _ => ?_⟩
    ⟨fun _ _ _ _ _ z => z.elim, fun _ _ _ _ _ z => z.elim, fun _ _ _ _ _ z => z.elim, fun v d S' H' _ _ r e => ?_, fun _ _ _ _ _ _ _ _ _ z => z.elim, fun _ _ _ _ _ _ _ _ _ _ z => z.elim⟩ h
  · obtain ⟨rfl, e⟩ := hsl i b hb
    exact ⟨_, e, p, rfl, rfl⟩
  · cases (hsl i _ hb).1
  · cases (hsl i _ hb).1
  · subst e
    rw [rep_bl r]
    exact q H'
def spLaw (K : PySem.W.Frag) : Sp := fun vs H Q _ => ∃ (a : Addr) (ns : List Int), vs = [.ref a] ∧ SqL K H a (ns.map V.int) ∧ ns.length ≤ 63 ∧ ∀ H', Q (.bl true) H'
abbrev sLaw : Stmt := topS 57
abbrev nLaw : List Str := ["_law_script", "_law_pool_here", "_law_plan_here", "_law_rows", "_law_box", "_law_chosen_here", "_law_words_here", "_law_row", "_law_post", "_law_word"]
theorem scLaw : FnScope nLaw ["_law_script"] (defScope sLaw) := ⟨rfl, rfl, rfl, by decide +kernel, rfl, by decide +kernel, by decide +kernel⟩
theorem ok_law (F : Fun K "law" "law" sLaw f fd) (T : Bl mg) (DLpool : Df K mg "_law_pool" sLpool ["_law_script"] f1 fd1) (GLpool : FnOk P w K mg base CX0 1 f1 fd1 ["_law_script"] (spPool K))
    (DLdraw : Df K mg "_law_draw" sLdraw ["_law_pool_here", "_law_many"] fLdraw fdLdraw) (GLdraw : FnOk P w K mg base CX0 1 fLdraw fdLdraw ["_law_pool_here", "_law_many"] (cSp K spDrawA)) (DLpick : Df K mg "_law_pick" sLpick ["_law_pool_here", "_law_items"] fLpick fdLpick) (GLpick : FnOk P w K mg base CX0 2 fLpick fdLpick ["_law_pool_here", "_law_items"] (cSp K spPickA)) (DLname : Df K mg "_law_name" sLname ["_law_pool_here", "_law_taken"] fLname fdLname) (GLname : FnOk P w K mg base CX0 2 fLname fdLname ["_law_pool_here", "_law_taken"] (cSp K spNameA)) (DLplan : Df K mg "_law_plan" sLplan ["_law_pool_here", "_law_size"] fLplan fdLplan) (GLplan : FnOk P w K mg base CX0 5 fLplan fdLplan ["_law_pool_here", "_law_size"] (cSp K spPlanA)) (DLinstruments : Df K mg "_law_instruments" sLinstruments ["_law_pool_here", "_law_plan_here", "_law_most"] fLinstruments fdLinstruments) (GLinstruments : FnOk P w K mg base CX0 4 fLinstruments fdLinstruments ["_law_pool_here", "_law_plan_here", "_law_most"] (cSp K spInstrA)) (DLkit : Df K mg "_law_kit" sLkit ["_law_rows"] fLkit fdLkit) (GLkit : FnOk P w K mg base CX0 8 fLkit fdLkit ["_law_rows"] (cSp K (spKit CB CS CL))) (DLchosen : Df K mg "_law_chosen" sLchosen ["_law_pool_here", "_law_rows"] fLchosen fdLchosen) (GLchosen : FnOk P w K mg base CX0 2 fLchosen fdLchosen ["_law_pool_here", "_law_rows"] (cSp K spChosen)) (DLwords : Df K mg "_law_words" sLwords ["_law_hands"] fLwords fdLwords) (GLwords : FnOk P w K mg base CX0 1 fLwords fdLwords ["_law_hands"] (cSp K spWordsA)) (DLtold : Df K mg "_law_told" sLtold ["_law_box", "_law_rows", "_law_chosen_here", "_law_words_here"] fLtold fdLtold) (GLtold : FnOk P w K mg base CX0 8 fLtold fdLtold ["_law_box", "_law_rows", "_law_chosen_here", "_law_words_here"] (cSp K (spToldA CB CS CL))) (DLrefused : Df K mg "_law_refused" sLrefused ["_law_box", "_law_which", "_law_chosen_here", "_law_post", "_law_word"] fLrefused fdLrefused) (GLrefused : FnOk P w K mg base CX0 7 fLrefused fdLrefused ["_law_box", "_law_which", "_law_chosen_here", "_law_post", "_law_word"] (cSp K (spRef CB CS CL))) (DLalike : Df K mg "_law_alike" sLalike ["_law_one", "_law_other"] fLalike fdLalike) (GLalike : FnOk P w K mg base CX0 6 fLalike fdLalike ["_law_one", "_law_other"] (cSp K (spAlk 5))) : FnOk P w K mg base CX0 9 f fd ["_law_script"] (spLaw K) := by
  refine F.ok scLaw (fun vs H Q E h => by obtain ⟨a, ns, rfl, _⟩ := h; rfl) (fun cdv A outer s H vs Q E hr h => ?_)
  obtain ⟨sc, ns, rfl, hsc, hns, q⟩ := h
  refine ⟨_, (pss_cons (ps_set (i := 1) scLaw.nd rfl (Or.inl rfl) (pe_df DLpool GLpool (hr.mono (by decide)) (pa_cons (pv 0) pa_nil)))
      (pss_cons (ps_set (i := 2) scLaw.nd rfl (Or.inl rfl) (pe_df DLplan GLplan (hr.mono (by decide)) (pa_cons (pv 1) (pa_cons (pe_df DLdraw GLdraw (hr.mono (by decide)) (pa_cons (pv 1) (pa_cons pe_int pa_nil))) pa_nil))))
      (pss_cons (ps_set (i := 3) scLaw.nd rfl (Or.inl rfl) (pe_df DLinstruments GLinstruments (hr.mono (by decide)) (pa_cons (pv 1) (pa_cons (pv 2) (pa_cons pe_int pa_nil)))))
      (pss_cons (ps_set (i := 4) scLaw.nd rfl (Or.inl rfl) (pe_df DLkit GLkit (hr.mono (by decide)) (pa_cons (pv 3) pa_nil)))
      (pss_cons (ps_set (i := 5) scLaw.nd rfl (Or.inl rfl) (pe_df DLchosen GLchosen (hr.mono (by decide)) (pa_cons (pv 1) (pa_cons (pv 3) pa_nil))))
      (pss_cons (ps_set (i := 6) scLaw.nd rfl (Or.inl rfl) (pe_op op_cat (pe_df DLwords GLwords (hr.mono (by decide)) (pa_cons (pe_ix ix_tup (pv 2) pe_int (fun _ _ => rfl)) pa_nil)) (pe_lst (pa_cons (pe_df DLname GLname (hr.mono (by decide)) (pa_cons (pv 1) (pa_cons (pe_lst pa_nil) pa_nil))) pa_nil))))
      (pss_cons (ps_for PassesOwn.never rfl (pi_list (pv 3)) (pg_name (i := 7) scLaw.nd rfl (Or.inl rfl)) (pss_one (ps_set (i := 6) scLaw.nd rfl (Or.inl rfl) (pe_op op_cat (pv 6) (pe_callTy (cr_listAny rfl) (by rfl) T.list (by decide +kernel) (pa_cons (pe_ix ix_tup (pv 7) pe_int (fun _ _ => rfl)) pa_nil))))))
      (pss_cons (ps_if (PW.pt (pw_or (pt_not (pt_val (pe_df DLtold GLtold (hr.mono (by decide)) (pa_cons (pv 4) (pa_cons (pv 3) (pa_cons (pv 5) (pa_cons (pv 6) pa_nil))))))) (pw_or1 (pt_not (pt_val (pe_df DLtold GLtold (hr.mono (by decide)) (pa_cons (pv 4) (pa_cons (pv 3) (pa_cons (pe_lst pa_nil) (pa_cons (pv 6) pa_nil)))))))))) (pss_one (ps_ret pe_bl)) pss_nil)
      (pss_cons (ps_if (pt_not (pt_val (pe_df DLtold GLtold (hr.mono (by decide)) (pa_cons (pv 4) (pa_cons (pv 3) (pa_cons (pe_lc (own := [("_law_row", 7)]) rfl scLaw.nd (pi_list (pv 3)) (blkOk_by (own := [("_law_row", 7)]) (N := nLaw) (sc := defScope sLaw) (by decide +kernel)) (fun _ _ _ _ _ => (pg_name (i := 7) scLaw.nd rfl (Or.inl rfl))) (fun _ _ _ _ _ => pts_nil) (fun _ _ _ _ _ => (pe_ix (r := rIxT K) ix_tup (pv 7) pe_int (fun _ _ => rfl)))) (pa_cons (pv 6) pa_nil))))))) (pss_one (ps_ret pe_bl)) pss_nil)
      (pss_cons (ps_set (i := 8) scLaw.nd rfl (Or.inl rfl) (pe_df DLpick GLpick (hr.mono (by decide)) (pa_cons (pv 1) (pa_cons (pe_lst (pa_cons pe_int (pa_cons (pe_un un_neg pe_int) (pa_cons pe_bl (pa_cons pe_bl (pa_cons pe_non (pa_cons pe_str (pa_cons pe_str (pa_cons (pe_tup (pa_cons pe_int pa_nil)) (pa_cons (pe_op op_pow pe_int pe_int) pa_nil)))))))))) pa_nil))))
      (pss_cons (ps_set (i := 9) scLaw.nd rfl (Or.inl rfl) (pe_df DLpick GLpick (hr.mono (by decide)) (pa_cons (pv 1) (pa_cons (pe_lst (pa_cons pe_non (pa_cons pe_int (pa_cons pe_str (pa_cons pe_str (pa_cons pe_str (pa_cons (pe_tup (pa_cons pe_str pa_nil)) (pa_cons (pe_lst pa_nil) (pa_cons pe_bl pa_nil))))))))) pa_nil))))
      (pss_cons (ps_if (pt_not (pt_val (pe_df DLalike GLalike (hr.mono (by decide)) (pa_cons (pe_df DLrefused GLrefused (hr.mono (by decide)) (pa_cons (pv 4) (pa_cons pe_int (pa_cons (pv 5) (pa_cons (pv 8) (pa_cons (pv 9) pa_nil)))))) (pa_cons (pe_tup (pa_cons pe_str (pa_cons (pv 8) (pa_cons pe_bl pa_nil)))) pa_nil))))) (pss_one (ps_ret pe_bl)) pss_nil)
      (pss_cons (ps_if (pt_not (pt_val (pe_df DLalike GLalike (hr.mono (by decide)) (pa_cons (pe_df DLrefused GLrefused (hr.mono (by decide)) (pa_cons (pv 4) (pa_cons pe_int (pa_cons (pv 5) (pa_cons pe_int (pa_cons (pv 9) pa_nil)))))) (pa_cons (pe_tup (pa_cons pe_str (pa_cons (pv 9) (pa_cons pe_bl pa_nil)))) pa_nil))))) (pss_one (ps_ret pe_bl)) pss_nil)
      (pss_cons (ps_if (pt_not (pt_val (pe_df DLalike GLalike (hr.mono (by decide)) (pa_cons (pe_df DLrefused GLrefused (hr.mono (by decide)) (pa_cons (pv 4) (pa_cons pe_int (pa_cons (pv 5) (pa_cons (pv 8) (pa_cons (pv 9) pa_nil)))))) (pa_cons (pe_tup (pa_cons pe_str (pa_cons (pv 9) (pa_cons pe_bl pa_nil)))) pa_nil))))) (pss_one (ps_ret pe_bl)) pss_nil)
      (pss_one (ps_ret (pe_df DLalike GLalike (hr.mono (by decide)) (pa_cons (pe_df DLrefused GLrefused (hr.mono (by decide)) (pa_cons (pv 4) (pa_cons pe_int (pa_cons (pv 5) (pa_cons (pv 8) (pa_cons (pv 9) pa_nil)))))) (pa_cons (pe_tup (pa_cons pe_str (pa_cons (pv 8) (pa_cons pe_bl pa_nil)))) pa_nil))))))))))))))))))), ?_⟩
  refine ⟨_, rfl, sc, ns, rfl, hsc, hns, fun p S0 H0 P0 _ => ?_⟩
  refine law_go (env := [none, some .pool, none, none, none, none, none, none, none, none]) ((sa_seq (sa_set 2 (ea_call [] (el_cons (ea_var 1) (el_cons (ea_call [] (el_cons (ea_var 1) (el_cons ea_cI el_nil))) el_nil))))
      (sa_seq (sa_set 3 (ea_call [] (el_cons (ea_var 1) (el_cons (ea_var 2) (el_cons ea_cI el_nil)))))
      (sa_seq (sa_set 4 (ea_call [] (el_cons (ea_var 3) el_nil)))
      (sa_seq (sa_set 5 (ea_call [] (el_cons (ea_var 1) (el_cons (ea_var 3) el_nil))))
      (sa_seq (sa_set 6 (ea_fix (en_cat (ea_call [] (el_cons (ea_ixT (ea_var 2) ea_cI) el_nil)) (ea_fix (en_lst (el_cons (ea_call [false, true] (el_cons (ea_var 1) (el_cons (ea_fix (en_lst el_nil)) el_nil))) el_nil))))))
      (sa_seq (sa_for (ei_list (ea_var 3)) (ga_name (js := [7]) 7) (sa_set 6 (ea_fix (en_cat (ea_var 6) (ea_fix (en_listAny (ea_ixT (ea_var 7) ea_cI)))))))
      (sa_seq (sa_if (et_or (et_not (et_B (ea_call [] (el_cons (ea_var 4) (el_cons (ea_var 3) (el_cons (ea_var 5) (el_cons (ea_var 6) el_nil))))))) (et_not (et_B (ea_call [] (el_cons (ea_var 4) (el_cons (ea_var 3) (el_cons (ea_fix (en_lst el_nil)) (el_cons (ea_var 6) el_nil)))))))) (sa_ret ea_cB) sa_next)
      (sa_seq (sa_if (et_not (et_B (ea_call [] (el_cons (ea_var 4) (el_cons (ea_var 3) (el_cons (ea_fix (en_lc (ec_list (ea_var 3)) (ga_name (js := [7]) 7) et_yes (ea_ixT (ea_var 7) ea_cI))) (el_cons (ea_var 6) el_nil))))))) (sa_ret ea_cB) sa_next)
      (sa_seq (sa_set 8 (ea_call [] (el_cons (ea_var 1) (el_cons (ea_fix (en_lst (el_cons ea_cI (el_cons (ea_un r1_neg ea_cI) (el_cons ea_cB (el_cons ea_cB (el_cons ea_cN (el_cons ea_cS (el_cons ea_cS (el_cons (ea_tup (el_cons ea_cI el_nil)) (el_cons (ea_op r2_pow ea_cI ea_cI) el_nil))))))))))) el_nil))))
      (sa_seq (sa_set 9 (ea_call [] (el_cons (ea_var 1) (el_cons (ea_fix (en_lst (el_cons ea_cN (el_cons ea_cI (el_cons ea_cS (el_cons ea_cS (el_cons ea_cS (el_cons (ea_tup (el_cons ea_cS el_nil)) (el_cons (ea_fix (en_lst el_nil)) (el_cons ea_cB el_nil)))))))))) el_nil))))
      (sa_seq (sa_if (et_not (et_B (ea_call [] (el_cons (ea_call [] (el_cons (ea_var 4) (el_cons ea_cI (el_cons (ea_var 5) (el_cons (ea_var 8) (el_cons (ea_var 9) el_nil)))))) (el_cons (ea_tup (el_cons ea_cS (el_cons (ea_var 8) (el_cons ea_cB el_nil)))) el_nil))))) (sa_ret ea_cB) sa_next)
      (sa_seq (sa_if (et_not (et_B (ea_call [] (el_cons (ea_call [] (el_cons (ea_var 4) (el_cons ea_cI (el_cons (ea_var 5) (el_cons ea_cI (el_cons (ea_var 9) el_nil)))))) (el_cons (ea_tup (el_cons ea_cS (el_cons (ea_var 9) (el_cons ea_cB el_nil)))) el_nil))))) (sa_ret ea_cB) sa_next)
      (sa_seq (sa_if (et_not (et_B (ea_call [] (el_cons (ea_call [] (el_cons (ea_var 4) (el_cons ea_cI (el_cons (ea_var 5) (el_cons (ea_var 8) (el_cons (ea_var 9) el_nil)))))) (el_cons (ea_tup (el_cons ea_cS (el_cons (ea_var 9) (el_cons ea_cB el_nil)))) el_nil))))) (sa_ret ea_cB) sa_next)
      (sa_ret (ea_call [] (el_cons (ea_call [] (el_cons (ea_var 4) (el_cons ea_cI (el_cons (ea_var 5) (el_cons (ea_var 8) (el_cons (ea_var 9) el_nil)))))) (el_cons (ea_tup (el_cons ea_cS (el_cons (ea_var 8) (el_cons ea_cB el_nil)))) el_nil)))))))))))))))))) P0 rfl (fun i b hb => ?_) q ?_
  · match i, hb with
    | 1, hb => cases hb; exact ⟨rfl, rfl⟩
    | 0, hb => cases hb
    | 2, hb => cases hb
    | 3, hb => cases hb
    | 4, hb => cases hb
    | 5, hb => cases hb
    | 6, hb => cases hb
    | 7, hb => cases hb
    | 8, hb => cases hb
    | 9, hb => cases hb
    | _ + 10, hb => cases hb
  (try dsimp only [slot, aVar, aC, aOp, ifB_t, ifB_f, aTest, aAnd, aOr, aNot, aAndV, aOrT, aOrV, aNotV, aIfE, aChain, aNil, aCons, aName, aGNil, aGCons, aGTup, aNext, aIf, aRet, aRetO, aRetN, aDrop, aAsg, aNew, aPar, aParN, aPar3, frz, aFz, aNever, aFor, aCol, aLc, aYes, fAdd, fSub, fMul, fMod, fDiv, fPow, fLt, fLe, fGt, fGe, fI, fIc, fCatS, fLtS, eqD, fEq, fNe, fIsN, fNotN, aFn1, fNeg, fLen, fInt, fAbs, fAll, fAny, aFn2, fMax, truD, aTru, aIxL, aIxT, aIxQ, fIxS, stabs, aTup, aLst, aFix, B.solid, B.get, B.sub, aCat, aListOf, aTupOf, aONone, aOSome, aSlL, aRevL, aSortSet, aListAny, aListDK, aCopyD, aLenSet, aSortDK, aSortS, aRetNw, aMethN, aEi, aIQ, aDgN, aDget, aDgetN, fDin, fDnin, aDnew, aDput, fLenD, D.key, aFld, aProp, aMeth, aMeth0, putFD, aSetF, aMake, aMake0, aRaise, isIn, isBo, isS, isL, isT, isDi, isRow, isNo, knD, aIs, aIsRow, D.fl, fInF, fNinF, fInS, fEqY, fNeY, fEqP, fNeP, fInP, fNinP, aLcK, aDc, aIE, aIS, aTry, aHand, aXf, aXis, aIL, aICL, aIT, aIR1, aIR2, coe1, coes, aCall, aCall0, aApp, awipe, List.set, List.map, List.cons_append, List.nil_append, List.replicate, List.length, Nat.reduceSub, Nat.reduceAdd]); repeat (with_reducible refine go_seq ?_; try dsimp only [slot, aVar, aC, aOp, ifB_t, ifB_f, aTest, aAnd, aOr, aNot, aAndV, aOrT, aOrV, aNotV, aIfE, aChain, aNil, aCons, aName, aGNil, aGCons, aGTup, aNext, aIf, aRet, aRetO, aRetN, aDrop, aAsg, aNew, aPar, aParN, aPar3, frz, aFz, aNever, aFor, aCol, aLc, aYes, fAdd, fSub, fMul, fMod, fDiv, fPow, fLt, fLe, fGt, fGe, fI, fIc, fCatS, fLtS, eqD, fEq, fNe, fIsN, fNotN, aFn1, fNeg, fLen, fInt, fAbs, fAll, fAny, aFn2, fMax, truD, aTru, aIxL, aIxT, aIxQ, fIxS, stabs, aTup, aLst, aFix, B.solid, B.get, B.sub, aCat, aListOf, aTupOf, aONone, aOSome, aSlL, aRevL, aSortSet, aListAny, aListDK, aCopyD, aLenSet, aSortDK, aSortS, aRetNw, aMethN, aEi, aIQ, aDgN, aDget, aDgetN, fDin, fDnin, aDnew, aDput, fLenD, D.key, aFld, aProp, aMeth, aMeth0, putFD, aSetF, aMake, aMake0, aRaise, isIn, isBo, isS, isL, isT, isDi, isRow, isNo, knD, aIs, aIsRow, D.fl, fInF, fNinF, fInS, fEqY, fNeY, fEqP, fNeP, fInP, fNinP, aLcK, aDc, aIE, aIS, aTry, aHand, aXf, aXis, aIL, aICL, aIT, aIR1, aIR2, coe1, coes, aCall, aCall0, aApp, awipe, List.set, List.map, List.cons_append, List.nil_append, List.replicate, List.length, Nat.reduceSub, Nat.reduceAdd])
  refine ⟨3, rfl, by decide, by decide, fun d d0 d1 => ⟨d, rfl, d0, d1, fun pl pok => ?_⟩⟩
  (try dsimp only [slot, aVar, aC, aOp, ifB_t, ifB_f, aTest, aAnd, aOr, aNot, aAndV, aOrT, aOrV, aNotV, aIfE, aChain, aNil, aCons, aName, aGNil, aGCons, aGTup, aNext, aIf, aRet, aRetO, aRetN, aDrop, aAsg, aNew, aPar, aParN, aPar3, frz, aFz, aNever, aFor, aCol, aLc, aYes, fAdd, fSub, fMul, fMod, fDiv, fPow, fLt, fLe, fGt, fGe, fI, fIc, fCatS, fLtS, eqD, fEq, fNe, fIsN, fNotN, aFn1, fNeg, fLen, fInt, fAbs, fAll, fAny, aFn2, fMax, truD, aTru, aIxL, aIxT, aIxQ, fIxS, stabs, aTup, aLst, aFix, B.solid, B.get, B.sub, aCat, aListOf, aTupOf, aONone, aOSome, aSlL, aRevL, aSortSet, aListAny, aListDK, aCopyD, aLenSet, aSortDK, aSortS, aRetNw, aMethN, aEi, aIQ, aDgN, aDget, aDgetN, fDin, fDnin, aDnew, aDput, fLenD, D.key, aFld, aProp, aMeth, aMeth0, putFD, aSetF, aMake, aMake0, aRaise, isIn, isBo, isS, isL, isT, isDi, isRow, isNo, knD, aIs, aIsRow, D.fl, fInF, fNinF, fInS, fEqY, fNeY, fEqP, fNeP, fInP, fNinP, aLcK, aDc, aIE, aIS, aTry, aHand, aXf, aXis, aIL, aICL, aIT, aIR1, aIR2, coe1, coes, aCall, aCall0, aApp, awipe, List.set, List.map, List.cons_append, List.nil_append, List.replicate, List.length, Nat.reduceSub, Nat.reduceAdd]); repeat (with_reducible refine go_seq ?_; try dsimp only [slot, aVar, aC, aOp, ifB_t, ifB_f, aTest, aAnd, aOr, aNot, aAndV, aOrT, aOrV, aNotV, aIfE, aChain, aNil, aCons, aName, aGNil, aGCons, aGTup, aNext, aIf, aRet, aRetO, aRetN, aDrop, aAsg, aNew, aPar, aParN, aPar3, frz, aFz, aNever, aFor, aCol, aLc, aYes, fAdd, fSub, fMul, fMod, fDiv, fPow, fLt, fLe, fGt, fGe, fI, fIc, fCatS, fLtS, eqD, fEq, fNe, fIsN, fNotN, aFn1, fNeg, fLen, fInt, fAbs, fAll, fAny, aFn2, fMax, truD, aTru, aIxL, aIxT, aIxQ, fIxS, stabs, aTup, aLst, aFix, B.solid, B.get, B.sub, aCat, aListOf, aTupOf, aONone, aOSome, aSlL, aRevL, aSortSet, aListAny, aListDK, aCopyD, aLenSet, aSortDK, aSortS, aRetNw, aMethN, aEi, aIQ, aDgN, aDget, aDgetN, fDin, fDnin, aDnew, aDput, fLenD, D.key, aFld, aProp, aMeth, aMeth0, putFD, aSetF, aMake, aMake0, aRaise, isIn, isBo, isS, isL, isT, isDi, isRow, isNo, knD, aIs, aIsRow, D.fl, fInF, fNinF, fInS, fEqY, fNeY, fEqP, fNeP, fInP, fNinP, aLcK, aDc, aIE, aIS, aTry, aHand, aXf, aXis, aIL, aICL, aIT, aIR1, aIR2, coe1, coes, aCall, aCall0, aApp, awipe, List.set, List.map, List.cons_append, List.nil_append, List.replicate, List.length, Nat.reduceSub, Nat.reduceAdd])
  refine ⟨pl, 6, rfl, pok, by decide, by decide, fun rows r1 r2 rok => ?_⟩
  (try dsimp only [slot, aVar, aC, aOp, ifB_t, ifB_f, aTest, aAnd, aOr, aNot, aAndV, aOrT, aOrV, aNotV, aIfE, aChain, aNil, aCons, aName, aGNil, aGCons, aGTup, aNext, aIf, aRet, aRetO, aRetN, aDrop, aAsg, aNew, aPar, aParN, aPar3, frz, aFz, aNever, aFor, aCol, aLc, aYes, fAdd, fSub, fMul, fMod, fDiv, fPow, fLt, fLe, fGt, fGe, fI, fIc, fCatS, fLtS, eqD, fEq, fNe, fIsN, fNotN, aFn1, fNeg, fLen, fInt, fAbs, fAll, fAny, aFn2, fMax, truD, aTru, aIxL, aIxT, aIxQ, fIxS, stabs, aTup, aLst, aFix, B.solid, B.get, B.sub, aCat, aListOf, aTupOf, aONone, aOSome, aSlL, aRevL, aSortSet, aListAny, aListDK, aCopyD, aLenSet, aSortDK, aSortS, aRetNw, aMethN, aEi, aIQ, aDgN, aDget, aDgetN, fDin, fDnin, aDnew, aDput, fLenD, D.key, aFld, aProp, aMeth, aMeth0, putFD, aSetF, aMake, aMake0, aRaise, isIn, isBo, isS, isL, isT, isDi, isRow, isNo, knD, aIs, aIsRow, D.fl, fInF, fNinF, fInS, fEqY, fNeY, fEqP, fNeP, fInP, fNinP, aLcK, aDc, aIE, aIS, aTry, aHand, aXf, aXis, aIL, aICL, aIT, aIR1, aIR2, coe1, coes, aCall, aCall0, aApp, awipe, List.set, List.map, List.cons_append, List.nil_append, List.replicate, List.length, Nat.reduceSub, Nat.reduceAdd]); repeat (with_reducible refine go_seq ?_; try dsimp only [slot, aVar, aC, aOp, ifB_t, ifB_f, aTest, aAnd, aOr, aNot, aAndV, aOrT, aOrV, aNotV, aIfE, aChain, aNil, aCons, aName, aGNil, aGCons, aGTup, aNext, aIf, aRet, aRetO, aRetN, aDrop, aAsg, aNew, aPar, aParN, aPar3, frz, aFz, aNever, aFor, aCol, aLc, aYes, fAdd, fSub, fMul, fMod, fDiv, fPow, fLt, fLe, fGt, fGe, fI, fIc, fCatS, fLtS, eqD, fEq, fNe, fIsN, fNotN, aFn1, fNeg, fLen, fInt, fAbs, fAll, fAny, aFn2, fMax, truD, aTru, aIxL, aIxT, aIxQ, fIxS, stabs, aTup, aLst, aFix, B.solid, B.get, B.sub, aCat, aListOf, aTupOf, aONone, aOSome, aSlL, aRevL, aSortSet, aListAny, aListDK, aCopyD, aLenSet, aSortDK, aSortS, aRetNw, aMethN, aEi, aIQ, aDgN, aDget, aDgetN, fDin, fDnin, aDnew, aDput, fLenD, D.key, aFld, aProp, aMeth, aMeth0, putFD, aSetF, aMake, aMake0, aRaise, isIn, isBo, isS, isL, isT, isDi, isRow, isNo, knD, aIs, aIsRow, D.fl, fInF, fNinF, fInS, fEqY, fNeY, fEqP, fNeP, fInP, fNinP, aLcK, aDc, aIE, aIS, aTry, aHand, aXf, aXis, aIL, aICL, aIT, aIR1, aIR2, coe1, coes, aCall, aCall0, aApp, awipe, List.set, List.map, List.cons_append, List.nil_append, List.replicate, List.length, Nat.reduceSub, Nat.reduceAdd])
  refine ⟨rows, rfl, rok, r1, r2, ?_⟩
  (try dsimp only [slot, aVar, aC, aOp, ifB_t, ifB_f, aTest, aAnd, aOr, aNot, aAndV, aOrT, aOrV, aNotV, aIfE, aChain, aNil, aCons, aName, aGNil, aGCons, aGTup, aNext, aIf, aRet, aRetO, aRetN, aDrop, aAsg, aNew, aPar, aParN, aPar3, frz, aFz, aNever, aFor, aCol, aLc, aYes, fAdd, fSub, fMul, fMod, fDiv, fPow, fLt, fLe, fGt, fGe, fI, fIc, fCatS, fLtS, eqD, fEq, fNe, fIsN, fNotN, aFn1, fNeg, fLen, fInt, fAbs, fAll, fAny, aFn2, fMax, truD, aTru, aIxL, aIxT, aIxQ, fIxS, stabs, aTup, aLst, aFix, B.solid, B.get, B.sub, aCat, aListOf, aTupOf, aONone, aOSome, aSlL, aRevL, aSortSet, aListAny, aListDK, aCopyD, aLenSet, aSortDK, aSortS, aRetNw, aMethN, aEi, aIQ, aDgN, aDget, aDgetN, fDin, fDnin, aDnew, aDput, fLenD, D.key, aFld, aProp, aMeth, aMeth0, putFD, aSetF, aMake, aMake0, aRaise, isIn, isBo, isS, isL, isT, isDi, isRow, isNo, knD, aIs, aIsRow, D.fl, fInF, fNinF, fInS, fEqY, fNeY, fEqP, fNeP, fInP, fNinP, aLcK, aDc, aIE, aIS, aTry, aHand, aXf, aXis, aIL, aICL, aIT, aIR1, aIR2, coe1, coes, aCall, aCall0, aApp, awipe, List.set, List.map, List.cons_append, List.nil_append, List.replicate, List.length, Nat.reduceSub, Nat.reduceAdd]); repeat (with_reducible refine go_seq ?_; try dsimp only [slot, aVar, aC, aOp, ifB_t, ifB_f, aTest, aAnd, aOr, aNot, aAndV, aOrT, aOrV, aNotV, aIfE, aChain, aNil, aCons, aName, aGNil, aGCons, aGTup, aNext, aIf, aRet, aRetO, aRetN, aDrop, aAsg, aNew, aPar, aParN, aPar3, frz, aFz, aNever, aFor, aCol, aLc, aYes, fAdd, fSub, fMul, fMod, fDiv, fPow, fLt, fLe, fGt, fGe, fI, fIc, fCatS, fLtS, eqD, fEq, fNe, fIsN, fNotN, aFn1, fNeg, fLen, fInt, fAbs, fAll, fAny, aFn2, fMax, truD, aTru, aIxL, aIxT, aIxQ, fIxS, stabs, aTup, aLst, aFix, B.solid, B.get, B.sub, aCat, aListOf, aTupOf, aONone, aOSome, aSlL, aRevL, aSortSet, aListAny, aListDK, aCopyD, aLenSet, aSortDK, aSortS, aRetNw, aMethN, aEi, aIQ, aDgN, aDget, aDgetN, fDin, fDnin, aDnew, aDput, fLenD, D.key, aFld, aProp, aMeth, aMeth0, putFD, aSetF, aMake, aMake0, aRaise, isIn, isBo, isS, isL, isT, isDi, isRow, isNo, knD, aIs, aIsRow, D.fl, fInF, fNinF, fInS, fEqY, fNeY, fEqP, fNeP, fInP, fNinP, aLcK, aDc, aIE, aIS, aTry, aHand, aXf, aXis, aIL, aICL, aIT, aIR1, aIR2, coe1, coes, aCall, aCall0, aApp, awipe, List.set, List.map, List.cons_append, List.nil_append, List.replicate, List.length, Nat.reduceSub, Nat.reduceAdd])
  refine ⟨rows, rfl, rok, r2, fun cs ch => ?_⟩
  (try dsimp only [slot, aVar, aC, aOp, ifB_t, ifB_f, aTest, aAnd, aOr, aNot, aAndV, aOrT, aOrV, aNotV, aIfE, aChain, aNil, aCons, aName, aGNil, aGCons, aGTup, aNext, aIf, aRet, aRetO, aRetN, aDrop, aAsg, aNew, aPar, aParN, aPar3, frz, aFz, aNever, aFor, aCol, aLc, aYes, fAdd, fSub, fMul, fMod, fDiv, fPow, fLt, fLe, fGt, fGe, fI, fIc, fCatS, fLtS, eqD, fEq, fNe, fIsN, fNotN, aFn1, fNeg, fLen, fInt, fAbs, fAll, fAny, aFn2, fMax, truD, aTru, aIxL, aIxT, aIxQ, fIxS, stabs, aTup, aLst, aFix, B.solid, B.get, B.sub, aCat, aListOf, aTupOf, aONone, aOSome, aSlL, aRevL, aSortSet, aListAny, aListDK, aCopyD, aLenSet, aSortDK, aSortS, aRetNw, aMethN, aEi, aIQ, aDgN, aDget, aDgetN, fDin, fDnin, aDnew, aDput, fLenD, D.key, aFld, aProp, aMeth, aMeth0, putFD, aSetF, aMake, aMake0, aRaise, isIn, isBo, isS, isL, isT, isDi, isRow, isNo, knD, aIs, aIsRow, D.fl, fInF, fNinF, fInS, fEqY, fNeY, fEqP, fNeP, fInP, fNinP, aLcK, aDc, aIE, aIS, aTry, aHand, aXf, aXis, aIL, aICL, aIT, aIR1, aIR2, coe1, coes, aCall, aCall0, aApp, awipe, List.set, List.map, List.cons_append, List.nil_append, List.replicate, List.length, Nat.reduceSub, Nat.reduceAdd]); repeat (with_reducible refine go_seq ?_; try dsimp only [slot, aVar, aC, aOp, ifB_t, ifB_f, aTest, aAnd, aOr, aNot, aAndV, aOrT, aOrV, aNotV, aIfE, aChain, aNil, aCons, aName, aGNil, aGCons, aGTup, aNext, aIf, aRet, aRetO, aRetN, aDrop, aAsg, aNew, aPar, aParN, aPar3, frz, aFz, aNever, aFor, aCol, aLc, aYes, fAdd, fSub, fMul, fMod, fDiv, fPow, fLt, fLe, fGt, fGe, fI, fIc, fCatS, fLtS, eqD, fEq, fNe, fIsN, fNotN, aFn1, fNeg, fLen, fInt, fAbs, fAll, fAny, aFn2, fMax, truD, aTru, aIxL, aIxT, aIxQ, fIxS, stabs, aTup, aLst, aFix, B.solid, B.get, B.sub, aCat, aListOf, aTupOf, aONone, aOSome, aSlL, aRevL, aSortSet, aListAny, aListDK, aCopyD, aLenSet, aSortDK, aSortS, aRetNw, aMethN, aEi, aIQ, aDgN, aDget, aDgetN, fDin, fDnin, aDnew, aDput, fLenD, D.key, aFld, aProp, aMeth, aMeth0, putFD, aSetF, aMake, aMake0, aRaise, isIn, isBo, isS, isL, isT, isDi, isRow, isNo, knD, aIs, aIsRow, D.fl, fInF, fNinF, fInS, fEqY, fNeY, fEqP, fNeP, fInP, fNinP, aLcK, aDc, aIE, aIS, aTry, aHand, aXf, aXis, aIL, aICL, aIT, aIR1, aIR2, coe1, coes, aCall, aCall0, aApp, awipe, List.set, List.map, List.cons_append, List.nil_append, List.replicate, List.length, Nat.reduceSub, Nat.reduceAdd])
  have r2 : rows.length ≤ 6 := r2
  refine ⟨_, rfl, pl.hs, rfl, pok.hs, ?_⟩
  refine ⟨[], rfl, by decide, fun z nz _ => ?_⟩
  have w1 := sortS_len (wordsOf pl.hs)
  have w2 := words_len pok.hs
  have e1 : (sortS (wordsOf pl.hs)).map D.str ++ [D.str z] = (sortS (wordsOf pl.hs) ++ [z]).map D.str := by rw [List.map_append]; rfl
  (try dsimp only [slot, aVar, aC, aOp, ifB_t, ifB_f, aTest, aAnd, aOr, aNot, aAndV, aOrT, aOrV, aNotV, aIfE, aChain, aNil, aCons, aName, aGNil, aGCons, aGTup, aNext, aIf, aRet, aRetO, aRetN, aDrop, aAsg, aNew, aPar, aParN, aPar3, frz, aFz, aNever, aFor, aCol, aLc, aYes, fAdd, fSub, fMul, fMod, fDiv, fPow, fLt, fLe, fGt, fGe, fI, fIc, fCatS, fLtS, eqD, fEq, fNe, fIsN, fNotN, aFn1, fNeg, fLen, fInt, fAbs, fAll, fAny, aFn2, fMax, truD, aTru, aIxL, aIxT, aIxQ, fIxS, stabs, aTup, aLst, aFix, B.solid, B.get, B.sub, aCat, aListOf, aTupOf, aONone, aOSome, aSlL, aRevL, aSortSet, aListAny, aListDK, aCopyD, aLenSet, aSortDK, aSortS, aRetNw, aMethN, aEi, aIQ, aDgN, aDget, aDgetN, fDin, fDnin, aDnew, aDput, fLenD, D.key, aFld, aProp, aMeth, aMeth0, putFD, aSetF, aMake, aMake0, aRaise, isIn, isBo, isS, isL, isT, isDi, isRow, isNo, knD, aIs, aIsRow, D.fl, fInF, fNinF, fInS, fEqY, fNeY, fEqP, fNeP, fInP, fNinP, aLcK, aDc, aIE, aIS, aTry, aHand, aXf, aXis, aIL, aICL, aIT, aIR1, aIR2, coe1, coes, aCall, aCall0, aApp, awipe, List.set, List.map, List.cons_append, List.nil_append, List.replicate, List.length, Nat.reduceSub, Nat.reduceAdd]); repeat (with_reducible refine go_seq ?_; try dsimp only [slot, aVar, aC, aOp, ifB_t, ifB_f, aTest, aAnd, aOr, aNot, aAndV, aOrT, aOrV, aNotV, aIfE, aChain, aNil, aCons, aName, aGNil, aGCons, aGTup, aNext, aIf, aRet, aRetO, aRetN, aDrop, aAsg, aNew, aPar, aParN, aPar3, frz, aFz, aNever, aFor, aCol, aLc, aYes, fAdd, fSub, fMul, fMod, fDiv, fPow, fLt, fLe, fGt, fGe, fI, fIc, fCatS, fLtS, eqD, fEq, fNe, fIsN, fNotN, aFn1, fNeg, fLen, fInt, fAbs, fAll, fAny, aFn2, fMax, truD, aTru, aIxL, aIxT, aIxQ, fIxS, stabs, aTup, aLst, aFix, B.solid, B.get, B.sub, aCat, aListOf, aTupOf, aONone, aOSome, aSlL, aRevL, aSortSet, aListAny, aListDK, aCopyD, aLenSet, aSortDK, aSortS, aRetNw, aMethN, aEi, aIQ, aDgN, aDget, aDgetN, fDin, fDnin, aDnew, aDput, fLenD, D.key, aFld, aProp, aMeth, aMeth0, putFD, aSetF, aMake, aMake0, aRaise, isIn, isBo, isS, isL, isT, isDi, isRow, isNo, knD, aIs, aIsRow, D.fl, fInF, fNinF, fInS, fEqY, fNeY, fEqP, fNeP, fInP, fNinP, aLcK, aDc, aIE, aIS, aTry, aHand, aXf, aXis, aIL, aICL, aIT, aIR1, aIR2, coe1, coes, aCall, aCall0, aApp, awipe, List.set, List.map, List.cons_append, List.nil_append, List.replicate, List.length, Nat.reduceSub, Nat.reduceAdd])
  rw [e1]
  refine ⟨by rw [List.length_map]; show _ + 1 ≤ 1000; omega, ?_⟩
  refine aLoop_inv (fun i env => ∃ (zs : List Str) (u : Option B), env = [none, some .pool, some (.st (planD pl)), some (.st (.lst (rows.map Rw.d))), some (.st (boxD CB CS CL rows)), some (.st (.lst (cs.map D.str))), some (.st (.lst (zs.map D.str))), u, none, none] ∧ zs.length ≤ 301 + 6 * i ∧ ∀ z ∈ zs, NameOk z) ⟨_, _, rfl, by rw [List.length_append]; show _ + 1 ≤ _; omega, fun y hy => ?_⟩ ?_ ?_
  · rcases List.mem_append.mp hy with hy | hy
    · exact words_ok pok.hs y (sortS_mem.mp hy)
    · rw [List.mem_singleton.mp hy]; exact nz
  · rintro i x env R hx ⟨zs, u, rfl, l1, zo⟩ hR
    rw [List.map_map, List.getElem?_map] at hx
    obtain ⟨r, hr2, rfl⟩ := Option.map_eq_some_iff.mp hx
    have hm := List.mem_of_getElem? hr2
    have hi : i < rows.length := (List.getElem?_eq_some_iff.mp hr2).1
    have ok := rok.ok r hm
    have go : R [none, some .pool, some (.st (planD pl)), some (.st (.lst (rows.map Rw.d))), some (.st (boxD CB CS CL rows)), some (.st (.lst (cs.map D.str))), some (.st (.lst (zs.map D.str ++ r.ws.map D.str))), some (.st r.d), none, none] := hR _ ⟨zs ++ r.ws, _, by rw [List.map_append], by rw [List.length_append]; have := ok.wl.2; omega, fun y hy => by
      rcases List.mem_append.mp hy with hy | hy
      · exact zo y hy
      · exact ok.wo y hy⟩
    have l2 := ok.wl.2
    cases r with
    | lock n po ws c =>
      simp only [Function.comp, Rw.d] at go ⊢
      array_get_dec
      refine ⟨_, rfl, ?_, go⟩
      rw [List.length_map, List.length_map]
      have : ws.length ≤ 6 := l2
      omega
    | sens n po ys c =>
      simp only [Function.comp, Rw.d] at go ⊢
      have ek : ((zD ys).map fun kv => kD kv.1) = (Rw.sens n po ys c).ws.map D.str := by
        unfold zD
        rw [List.map_map]
        show _ = (ys.map (·.1)).map D.str
        rw [List.map_map]
        rfl
      array_get_dec
      refine ⟨_, rfl, ?_⟩
      array_get_dec
      rw [ek]
      exact ⟨by rw [List.length_map, List.length_map]; omega, go⟩
  · rintro env ⟨zs, u, rfl, l1, zo⟩
    array_get_dec
    refine ⟨rows, cs, zs, rfl, ch, r2, zo, ?_⟩
    array_get_dec
    refine ⟨rows, [], zs, rfl, ⟨rok, List.nodup_nil, (fun c h => by simp at h), by decide⟩, r2, zo, ?_⟩
    array_get_dec
    refine ⟨by rw [List.length_map, List.length_map]; omega, ?_⟩
    rw [List.map_map]
    refine aCol_map (fun r : Rw => D.str r.nm) (fun r hr2 R hR => ?_) ?_
    · cases r <;> exact ⟨_, rfl, hR⟩
    rw [List.nil_append]
    refine ⟨rows, rows.map Rw.nm, zs, ?_, ⟨rok, rok.nd, fun c h => h, by rw [List.length_map]; omega⟩, r2, zo, ?_⟩
    · rw [List.map_map]
      rfl
    array_get_dec
    (try rw [Bool.not_true])
    array_get_dec
    have pe : [D.int 2, D.int (-1), D.bl true, D.bl false, D.non, D.str "0", D.str "both", D.tup [D.int 0], D.int (10 ^ Int.toNat 30)] = posts := by
      unfold posts
      rw [show Int.toNat 30 = 30 from rfl]
    rw [pe]
    refine ⟨by unfold CPow; decide, posts, .inl rfl, by decide, by decide, fun i pd hpd => ?_⟩
    obtain ⟨tp, bp, ap⟩ := post_bad (List.mem_of_getElem? hpd)
    array_get_dec
    refine ⟨badw, .inl rfl, by decide, by decide, fun j wd hwd => ?_⟩
    obtain ⟨tw, nw, aw⟩ := word_bad (List.mem_of_getElem? hwd)
    array_get_dec
    refine ⟨rows, cs, 0, pd, wd, rfl, ch, tp, tw, .inl ⟨rfl, bp, ?_⟩⟩
    array_get_dec
    refine ⟨refD "post" pd, .inl rfl, alk_ref ap, ?_⟩
    array_get_dec
    (try rw [Bool.not_true])
    array_get_dec
    refine ⟨rows, cs, 0, .int 1, wd, rfl, ch, thg_int 1, tw, .inr (.inl ⟨rfl, rfl, nw, ?_⟩)⟩
    array_get_dec
    refine ⟨refD "name" wd, .inl rfl, alk_ref aw, ?_⟩
    array_get_dec
    (try rw [Bool.not_true])
    array_get_dec
    refine ⟨rows, cs, 1, pd, wd, rfl, ch, tp, tw, .inr (.inr (.inl ⟨rfl, nw, ?_⟩))⟩
    array_get_dec
    refine ⟨refD "name" wd, .inl rfl, alk_ref aw, ?_⟩
    array_get_dec
    (try rw [Bool.not_true])
    array_get_dec
    refine ⟨rows, cs, 2, pd, wd, rfl, ch, tp, tw, .inr (.inr (.inr ⟨rfl, bp, ?_⟩))⟩
    array_get_dec
    exact ⟨refD "post" pd, .inl rfl, alk_ref ap, rfl⟩
end
end WW

set_option Elab.async false
set_option linter.all false
set_option maxRecDepth 100000
set_option pp.maxSteps 150
set_option maxHeartbeats 4000000
namespace WW
open PySem PySem.Spec PyProof.Rows L2
abbrev sBadPost_init : Stmt := inClass (topS 11) 0
abbrev sBadName_init : Stmt := inClass (topS 10) 0
theorem all_mk {l : PySem.W.OpenLaw} {w : World} {K : PySem.W.Frag} {h : Heap} {mg : Str → Option Value} {fa : Addr} (X : K.In h) (G : h.Ns mainGlobals mg) (hfa : mg "law" = some (.ref fa))
    {tsm : Tok}
    {tmw : Tok}
    {tmc : Tok}
    {tmi : Tok}
    {tbo : Tok}
    {CW : Addr}
    {Cxp fxp cdxp ccxp : Addr} {nmxp qxp : Str} {Nxp : Addr} {bsxp : List Value} {snxp : List Str} {sbxp : List Value} {abxp : Bool} {coxp : Option Bool} {ddxp : Option Addr} {m0xp m1xp m2xp m3xp m5xp : Option Value}
    {ocxp dcxp pmxp ctxp kaxp laxp : Value} {odxp kbxp lbxp : Option Addr} {slxp kcxp lcxp : Array (Option Value)} {vsxp : Array Value} {fixp : Str} {tfxp : Tok}
    {Cxn fxn cdxn ccxn : Addr} {nmxn qxn : Str} {Nxn : Addr} {bsxn : List Value} {snxn : List Str} {sbxn : List Value} {abxn : Bool} {coxn : Option Bool} {ddxn : Option Addr} {m0xn m1xn m2xn m3xn m5xn : Option Value}
    {ocxn dcxn pmxn ctxn kaxn laxn : Value} {odxn kbxn lbxn : Option Addr} {slxn kcxn lcxn : Array (Option Value)} {vsxn : Array Value} {fixn : Str} {tfxn : Tok}
    {CS : Addr}
    {fSi cdSi ccSi : Addr} {ocSi dcSi pmSi ctSi kaSi laSi : Value} {odSi kbSi lbSi : Option Addr} {slSi kcSi lcSi : Array (Option Value)} {vsSi : Array Value} {fiSi : Str} {tfSi : Tok}
    {odio anio : Option Addr} {slio : Array (Option Value)} {ocio kVio dcio pmio cdio ctio : Value} {fio : Addr}
    {pnm : Addr} {rnm : List Value}
    {odnm annm : Option Addr} {slnm : Array (Option Value)} {ocnm kVnm dcnm pmnm cdnm ctnm : Value} {fnm : Addr}
    {pps : Addr} {rps : List Value}
    {odps anps : Option Addr} {slps : Array (Option Value)} {ocps kVps dcps pmps cdps ctps : Value} {fps : Addr}
    {CL : Addr}
    {fLi cdLi ccLi : Addr} {ocLi dcLi pmLi ctLi kaLi laLi : Value} {odLi kbLi lbLi : Option Addr} {slLi kcLi lcLi : Array (Option Value)} {vsLi : Array Value} {fiLi : Str} {tfLi : Tok}
    {CI : Addr}
    {CB : Addr}
    {odbi anbi : Option Addr} {slbi : Array (Option Value)} {ocbi kVbi dcbi pmbi cdbi ctbi : Value} {fbi : Addr}
    {odbs anbs : Option Addr} {slbs : Array (Option Value)} {ocbs kVbs dcbs pmbs cdbs ctbs : Value} {fbs : Addr}
    {odbj anbj : Option Addr} {slbj : Array (Option Value)} {ocbj kVbj dcbj pmbj cdbj ctbj : Value} {fbj : Addr}
    {odbh anbh : Option Addr} {slbh : Array (Option Value)} {ocbh kVbh dcbh pmbh cdbh ctbh : Value} {fbh : Addr}
    {CV : Addr}
    {odvi anvi : Option Addr} {slvi : Array (Option Value)} {ocvi kVvi dcvi pmvi cdvi ctvi : Value} {fvi : Addr}
    {odvo anvo : Option Addr} {slvo : Array (Option Value)} {ocvo kVvo dcvo pmvo cdvo ctvo : Value} {fvo : Addr}
    {odvs anvs : Option Addr} {slvs : Array (Option Value)} {ocvs kVvs dcvs pmvs cdvs ctvs : Value} {fvs : Addr}
    {odii anii : Option Addr} {slii : Array (Option Value)} {ocii kVii dcii pmii cdii ctii : Value} {fii : Addr}
    {odib anib : Option Addr} {slib : Array (Option Value)} {ocib kVib dcib pmib cdib ctib : Value} {fib : Addr}
    {odin anin : Option Addr} {slin : Array (Option Value)} {ocin kVin dcin pmin cdin ctin : Value} {fin : Addr}
    {odir anir : Option Addr} {slir : Array (Option Value)} {ocir kVir dcir pmir cdir ctir : Value} {fir : Addr}
    {odan anan : Option Addr} {slan : Array (Option Value)} {ocan kVan dcan pman cdan ctan : Value} {fan : Addr}
    {odas anas : Option Addr} {slas : Array (Option Value)} {ocas kVas dcas pmas cdas ctas : Value} {fas : Addr}
    {odch anch : Option Addr} {slch : Array (Option Value)} {occh kVch dcch pmch cdch ctch : Value} {fch : Addr}
    {odcc ancc : Option Addr} {slcc : Array (Option Value)} {occc kVcc dccc pmcc cdcc ctcc : Value} {fcc : Addr}
    {odcp ancp : Option Addr} {slcp : Array (Option Value)} {occp kVcp dccp pmcp cdcp ctcp : Value} {fcp : Addr}
    {odgi angi : Option Addr} {slgi : Array (Option Value)} {ocgi kVgi dcgi pmgi cdgi ctgi : Value} {fgi : Addr}
    {odgs angs : Option Addr} {slgs : Array (Option Value)} {ocgs kVgs dcgs pmgs cdgs ctgs : Value} {fgs : Addr}
    {odlp anlp : Option Addr} {sllp : Array (Option Value)} {oclp kVlp dclp pmlp cdlp ctlp : Value} {flp : Addr}
    {odld anld : Option Addr} {slld : Array (Option Value)} {ocld kVld dcld pmld cdld ctld : Value} {fld : Addr}
    {odlk anlk : Option Addr} {sllk : Array (Option Value)} {oclk kVlk dclk pmlk cdlk ctlk : Value} {flk : Addr}
    {odln anln : Option Addr} {slln : Array (Option Value)} {ocln kVln dcln pmln cdln ctln : Value} {fln : Addr}
    {odlN anlN : Option Addr} {sllN : Array (Option Value)} {oclN kVlN dclN pmlN cdlN ctlN : Value} {flN : Addr}
    {odlh anlh : Option Addr} {sllh : Array (Option Value)} {oclh kVlh dclh pmlh cdlh ctlh : Value} {flh : Addr}
    {odpt anpt : Option Addr} {slpt : Array (Option Value)} {ocpt kVpt dcpt pmpt cdpt ctpt : Value} {fpt : Addr}
    {odag anag : Option Addr} {slag : Array (Option Value)} {ocag kVag dcag pmag cdag ctag : Value} {fag : Addr}
    {odsa ansa : Option Addr} {slsa : Array (Option Value)} {ocsa kVsa dcsa pmsa cdsa ctsa : Value} {fsa : Addr}
    {odwo anwo : Option Addr} {slwo : Array (Option Value)} {ocwo kVwo dcwo pmwo cdwo ctwo : Value} {fwo : Addr}
    {odbl anbl : Option Addr} {slbl : Array (Option Value)} {ocbl kVbl dcbl pmbl cdbl ctbl : Value} {fbl : Addr}
    {odhi anhi : Option Addr} {slhi : Array (Option Value)} {ochi kVhi dchi pmhi cdhi cthi : Value} {fhi : Addr}
    {odpl anpl : Option Addr} {slpl : Array (Option Value)} {ocpl kVpl dcpl pmpl cdpl ctpl : Value} {fpl : Addr}
    {odit anit : Option Addr} {slit : Array (Option Value)} {ocit kVit dcit pmit cdit ctit : Value} {fit : Addr}
    {odkt ankt : Option Addr} {slkt : Array (Option Value)} {ockt kVkt dckt pmkt cdkt ctkt : Value} {fkt : Addr}
    {odcn ancn : Option Addr} {slcn : Array (Option Value)} {occn kVcn dccn pmcn cdcn ctcn : Value} {fcn : Addr}
    {odsi ansi : Option Addr} {slsi : Array (Option Value)} {ocsi kVsi dcsi pmsi cdsi ctsi : Value} {fsi : Addr}
    {odrd anrd : Option Addr} {slrd : Array (Option Value)} {ocrd kVrd dcrd pmrd cdrd ctrd : Value} {frd : Addr}
    {odso anso : Option Addr} {slso : Array (Option Value)} {ocso kVso dcso pmso cdso ctso : Value} {fso : Addr}
    {odla anla : Option Addr} {slla : Array (Option Value)} {ocla kVla dcla pmla cdla ctla : Value} {fla : Addr}
    {odrf anrf : Option Addr} {slrf : Array (Option Value)} {ocrf kVrf dcrf pmrf cdrf ctrf : Value} {frf : Addr}
    {odto anto : Option Addr} {slto : Array (Option Value)} {octo kVto dcto pmto cdto ctto : Value} {fto : Addr}
    {odlaw anlaw : Option Addr} {sllaw : Array (Option Value)} {oclaw kVlaw dclaw pmlaw cdlaw ctlaw : Value} {flaw : Addr}
    (zabs : PySem.W.nsIn K mainGlobals "abs" = some none)
    (zint : PySem.W.nsIn K mainGlobals "int" = some none)
    (zlen : PySem.W.nsIn K mainGlobals "len" = some none)
    (zmax : PySem.W.nsIn K mainGlobals "max" = some none)
    (zrange : PySem.W.nsIn K mainGlobals "range" = some none)
    (ztuple : PySem.W.nsIn K mainGlobals "tuple" = some none)
    (zlist : PySem.W.nsIn K mainGlobals "list" = some none)
    (zstr : PySem.W.nsIn K mainGlobals "str" = some none)
    (zbool : PySem.W.nsIn K mainGlobals "bool" = some none)
    (zisinstance : PySem.W.nsIn K mainGlobals "isinstance" = some none)
    (zall : PySem.W.nsIn K mainGlobals "all" = some none)
    (zsorted : PySem.W.nsIn K mainGlobals "sorted" = some none)
    (zenumerate : PySem.W.nsIn K mainGlobals "enumerate" = some none)
    (zset : PySem.W.nsIn K mainGlobals "set" = some none)
    (zsuper : PySem.W.nsIn K mainGlobals "super" = some none)
    (zdict : PySem.W.nsIn K mainGlobals "dict" = some none)
    (zany : PySem.W.nsIn K mainGlobals "any" = some none)
    (vsm : PySem.W.nsIn K mainGlobals "SMALL" = some (some (.str smallS tsm)))
    (vmw : PySem.W.nsIn K mainGlobals "MOST_WORDS" = some (some (.int 10 tmw)))
    (vmc : PySem.W.nsIn K mainGlobals "MOST_COST" = some (some (.int 1000 tmc)))
    (vmi : PySem.W.nsIn K mainGlobals "MOST_INSTRUMENTS" = some (some (.int 6 tmi)))
    (vbo : PySem.W.nsIn K mainGlobals "BOTH" = some (some (.str "both" tbo)))
    (ntop : (l.prog.main.scope.names.lookup ("super" : Str)).isSome = false)
    (opq : PySem.W.nsIn K cStatics "thirdparty.any" = some none)
    (jb : PySem.W.specialIn K (.builtin "object.__class__") "__get__" = some (some (.builtin "getset_descriptor.__get__")))
    (jc : PySem.W.takesIn K (.builtin "object.__class__") = some true)
    (aCW : PySem.W.nsIn K mainGlobals "WorksError" = some (some (.ref CW)))
    (aCxp : PySem.W.nsIn K mainGlobals "BadPost" = some (some (.ref Cxp)))
    (xLxp : K.lookup Cxp = some (excClassObj nmxp qxp Cxp Nxp bsxp [.ref CW, .type "ValueError", .type "Exception", .type "BaseException", .type "object"] true snxp sbxp abxp coxp ddxp m0xp m1xp m2xp m3xp m5xp "ValueError.__new__"))
    (saxp : PySem.W.findIn K (.ref Cxp) "__setattr__" = some (some (.builtin "object.__setattr__")))
    (eCxp : PySem.W.subIn K (.ref Cxp) (.type "BaseException") = some true)
    (tCxp : PySem.W.typeIn K (.ref Cxp) = some (.type "type"))
    (kCxp : PySem.W.keepIn K (.ref Cxp) = true)
    (iCxp : PySem.W.findIn K (.ref Cxp) "__init__" = some (some (.ref fxp)))
    (tIxp : PySem.W.typeIn K (.ref fxp) = some (.type "function"))
    (lkxp : K.lookup fxp = some ⟨ocxp, odxp, .func (PySem.W.fnX "__init__" "BadPost.__init__" (defArgs sBadPost_init) (defBody sBadPost_init) (defScope sBadPost_init) [("__class__", ccxp)] .none .none dcxp pmxp none (.ref cdxp) ctxp), slxp⟩)
    (hcxp : PySem.W.codeIn K (.ref cdxp) "BadPost.__init__" = true)
    (coxpx : K.lookup cdxp = some ⟨kaxp, kbxp, .fields vsxp, kcxp⟩)
    (v2xp : vsxp[2]? = some (.str fixp tfxp))
    (flxp : ((l.prog.main.file : Str) == fixp) = true)
    (cexp : K.lookup ccxp = some ⟨laxp, lbxp, .cell (some (.ref Cxp)), lcxp⟩)
    (mrxp : PySem.W.mroIn K Cxp (.ref Cxp) = some true)
    (suxp : PySem.W.ks_superIn K Cxp Cxp "__init__" = some (some (.builtin "ValueError.__init__")))
    (bvxp : PySem.W.subIn K (.ref Cxp) (.type "ValueError") = some true)
    (nfxp : PySem.W.findIn K (.ref Cxp) "value" = some none)
    (gaxp : PySem.W.findIn K (.ref Cxp) "__getattribute__" = some (some (.builtin "BaseException.__getattribute__")))
    (ggxp : PySem.W.findIn K (.ref Cxp) "__getattr__" = some none)
    (hdxp : PySem.W.hasDictIn K Cxp = true)
    (clxp : PySem.W.findIn K (.ref Cxp) "__class__" = some (some (.builtin "object.__class__")))
    (moxp : PySem.W.mroIn K Cxp (.type "object") = some true)
    (kwxp : PySem.W.kitOne K (.ref Cxp) (.ref CW) = some true)
    (aCxn : PySem.W.nsIn K mainGlobals "BadName" = some (some (.ref Cxn)))
    (xLxn : K.lookup Cxn = some (excClassObj nmxn qxn Cxn Nxn bsxn [.ref CW, .type "ValueError", .type "Exception", .type "BaseException", .type "object"] true snxn sbxn abxn coxn ddxn m0xn m1xn m2xn m3xn m5xn "ValueError.__new__"))
    (saxn : PySem.W.findIn K (.ref Cxn) "__setattr__" = some (some (.builtin "object.__setattr__")))
    (eCxn : PySem.W.subIn K (.ref Cxn) (.type "BaseException") = some true)
    (tCxn : PySem.W.typeIn K (.ref Cxn) = some (.type "type"))
    (kCxn : PySem.W.keepIn K (.ref Cxn) = true)
    (iCxn : PySem.W.findIn K (.ref Cxn) "__init__" = some (some (.ref fxn)))
    (tIxn : PySem.W.typeIn K (.ref fxn) = some (.type "function"))
    (lkxn : K.lookup fxn = some ⟨ocxn, odxn, .func (PySem.W.fnX "__init__" "BadName.__init__" (defArgs sBadName_init) (defBody sBadName_init) (defScope sBadName_init) [("__class__", ccxn)] .none .none dcxn pmxn none (.ref cdxn) ctxn), slxn⟩)
    (hcxn : PySem.W.codeIn K (.ref cdxn) "BadName.__init__" = true)
    (coxnx : K.lookup cdxn = some ⟨kaxn, kbxn, .fields vsxn, kcxn⟩)
    (v2xn : vsxn[2]? = some (.str fixn tfxn))
    (flxn : ((l.prog.main.file : Str) == fixn) = true)
    (cexn : K.lookup ccxn = some ⟨laxn, lbxn, .cell (some (.ref Cxn)), lcxn⟩)
    (mrxn : PySem.W.mroIn K Cxn (.ref Cxn) = some true)
    (suxn : PySem.W.ks_superIn K Cxn Cxn "__init__" = some (some (.builtin "ValueError.__init__")))
    (bvxn : PySem.W.subIn K (.ref Cxn) (.type "ValueError") = some true)
    (nfxn : PySem.W.findIn K (.ref Cxn) "value" = some none)
    (gaxn : PySem.W.findIn K (.ref Cxn) "__getattribute__" = some (some (.builtin "BaseException.__getattribute__")))
    (ggxn : PySem.W.findIn K (.ref Cxn) "__getattr__" = some none)
    (hdxn : PySem.W.hasDictIn K Cxn = true)
    (clxn : PySem.W.findIn K (.ref Cxn) "__class__" = some (some (.builtin "object.__class__")))
    (moxn : PySem.W.mroIn K Cxn (.type "object") = some true)
    (kwxn : PySem.W.kitOne K (.ref Cxn) (.ref CW) = some true)
    (uxpxp : PySem.W.subIn K (.ref Cxp) (.ref Cxp) = some true)
    (uxnxp : PySem.W.subIn K (.ref Cxn) (.ref Cxp) = some false)
    (uxnxn : PySem.W.subIn K (.ref Cxn) (.ref Cxn) = some true)
    (aCS : PySem.W.nsIn K mainGlobals "Sensor" = some (some (.ref CS)))
    (pgS : PySem.W.plainGet K CS Str.empty = true)
    (hdS : PySem.W.hasDictIn K CS = true)
    (poS : PySem.W.plainOver K CS = true)
    (saS : PySem.W.findIn K (.ref CS) "__setattr__" = some (some (.builtin "object.__setattr__")))
    (nST : PySem.W.findIn K (.ref CS) "title" = some none)
    (nSP : PySem.W.findIn K (.ref CS) "place" = some none)
    (nSF : PySem.W.findIn K (.ref CS) "fee" = some none)
    (nSS : PySem.W.findIn K (.ref CS) "shows" = some none)
    (nSO : PySem.W.findIn K (.ref CS) "stops" = some none)
    (jaS : PySem.W.findIn K (.ref CS) "__class__" = some (some (.builtin "object.__class__")))
    (jbS : PySem.W.specialIn K (.builtin "object.__class__") "__get__" = some (some (.builtin "getset_descriptor.__get__")))
    (jcS : PySem.W.takesIn K (.builtin "object.__class__") = some true)
    (jdS : PySem.W.mroIn K CS (.type "object") = some true)
    (mkS : PySem.W.makesIn K CS = true)
    (aiS : PySem.W.findIn K (.ref CS) "__init__" = some (some (.ref fSi)))
    (iiS : PySem.W.isFn K (.ref fSi) = true)
    (kcS : PySem.W.keepIn K (.ref CS) = true)
    (lkSi : K.lookup fSi = some ⟨ocSi, odSi, .func (PySem.W.fnX "__init__" "Sensor.__init__" (defArgs sSensor_init) (defBody sSensor_init) (defScope sSensor_init) [("__class__", ccSi)] .none .none dcSi pmSi none (.ref cdSi) ctSi), slSi⟩)
    (hcSi : PySem.W.codeIn K (.ref cdSi) "Sensor.__init__" = true)
    (coSix : K.lookup cdSi = some ⟨kaSi, kbSi, .fields vsSi, kcSi⟩)
    (v2Si : vsSi[2]? = some (.str fiSi tfSi))
    (flSi : ((l.prog.main.file : Str) == fiSi) = true)
    (ceSi : K.lookup ccSi = some ⟨laSi, lbSi, .cell (some (.ref CS)), lcSi⟩)
    (mrSi : PySem.W.mroIn K CS (.ref CS) = some true)
    (suSi : PySem.W.ks_superIn K CS CS "__init__" = some (some (.ref fio)))
    (lio : K.lookup fio = some ⟨ocio, odio, .func (PySem.W.fnOf "__init__" "Instrument.__init__" (defArgs sInstrument_init) (defBody sInstrument_init) (defScope sInstrument_init) .none kVio dcio pmio anio cdio ctio), slio⟩)
    (cio : PySem.W.codeIn K cdio "Instrument.__init__" = true)
    (kio : PySem.W.keepIn K (.ref fio) = true)
    (fnio : PySem.W.fnIn K fio = true)
    (tyio : PySem.W.typeIn K (.ref fio) = some (.type "function"))
    (panm : PySem.W.findIn K (.ref CS) "name" = some (some (.ref pnm)))
    (pbnm : PySem.W.specialIn K (.ref pnm) "__get__" = some (some (.builtin "property.__get__")))
    (pcnm : PySem.W.takesIn K (.ref pnm) = some true)
    (pdnm : PySem.W.recIn K pnm "property" = some (.ref fnm :: rnm))
    (lnm : K.lookup fnm = some ⟨ocnm, odnm, .func (PySem.W.fnOf "name" "Instrument.name" (defArgs sInstrument_name) (defBody sInstrument_name) (defScope sInstrument_name) .none kVnm dcnm pmnm annm cdnm ctnm), slnm⟩)
    (cnm : PySem.W.codeIn K cdnm "Instrument.name" = true)
    (knm : PySem.W.keepIn K (.ref fnm) = true)
    (paps : PySem.W.findIn K (.ref CS) "post" = some (some (.ref pps)))
    (pbps : PySem.W.specialIn K (.ref pps) "__get__" = some (some (.builtin "property.__get__")))
    (pcps : PySem.W.takesIn K (.ref pps) = some true)
    (pdps : PySem.W.recIn K pps "property" = some (.ref fps :: rps))
    (lps : K.lookup fps = some ⟨ocps, odps, .func (PySem.W.fnOf "post" "Instrument.post" (defArgs sInstrument_post) (defBody sInstrument_post) (defScope sInstrument_post) .none kVps dcps pmps anps cdps ctps), slps⟩)
    (cps : PySem.W.codeIn K cdps "Instrument.post" = true)
    (kps : PySem.W.keepIn K (.ref fps) = true)
    (aCL : PySem.W.nsIn K mainGlobals "Lock" = some (some (.ref CL)))
    (pgL : PySem.W.plainGet K CL Str.empty = true)
    (hdL : PySem.W.hasDictIn K CL = true)
    (poL : PySem.W.plainOver K CL = true)
    (saL : PySem.W.findIn K (.ref CL) "__setattr__" = some (some (.builtin "object.__setattr__")))
    (nLT : PySem.W.findIn K (.ref CL) "title" = some none)
    (nLP : PySem.W.findIn K (.ref CL) "place" = some none)
    (nLF : PySem.W.findIn K (.ref CL) "fee" = some none)
    (nLS : PySem.W.findIn K (.ref CL) "shows" = some none)
    (nLO : PySem.W.findIn K (.ref CL) "stops" = some none)
    (jaL : PySem.W.findIn K (.ref CL) "__class__" = some (some (.builtin "object.__class__")))
    (jbL : PySem.W.specialIn K (.builtin "object.__class__") "__get__" = some (some (.builtin "getset_descriptor.__get__")))
    (jcL : PySem.W.takesIn K (.builtin "object.__class__") = some true)
    (jdL : PySem.W.mroIn K CL (.type "object") = some true)
    (mkL : PySem.W.makesIn K CL = true)
    (aiL : PySem.W.findIn K (.ref CL) "__init__" = some (some (.ref fLi)))
    (iiL : PySem.W.isFn K (.ref fLi) = true)
    (kcL : PySem.W.keepIn K (.ref CL) = true)
    (lkLi : K.lookup fLi = some ⟨ocLi, odLi, .func (PySem.W.fnX "__init__" "Lock.__init__" (defArgs sLock_init) (defBody sLock_init) (defScope sLock_init) [("__class__", ccLi)] .none .none dcLi pmLi none (.ref cdLi) ctLi), slLi⟩)
    (hcLi : PySem.W.codeIn K (.ref cdLi) "Lock.__init__" = true)
    (coLix : K.lookup cdLi = some ⟨kaLi, kbLi, .fields vsLi, kcLi⟩)
    (v2Li : vsLi[2]? = some (.str fiLi tfLi))
    (flLi : ((l.prog.main.file : Str) == fiLi) = true)
    (ceLi : K.lookup ccLi = some ⟨laLi, lbLi, .cell (some (.ref CL)), lcLi⟩)
    (mrLi : PySem.W.mroIn K CL (.ref CL) = some true)
    (suLi : PySem.W.ks_superIn K CL CL "__init__" = some (some (.ref fio)))
    (paLnm : PySem.W.findIn K (.ref CL) "name" = some (some (.ref pnm)))
    (paLps : PySem.W.findIn K (.ref CL) "post" = some (some (.ref pps)))
    (aCI : PySem.W.nsIn K mainGlobals "Instrument" = some (some (.ref CI)))
    (qSI : PySem.W.kitOne K (.ref CS) (.ref CI) = some true)
    (qLI : PySem.W.kitOne K (.ref CL) (.ref CI) = some true)
    (qSS : PySem.W.kitOne K (.ref CS) (.ref CS) = some true)
    (qLS : PySem.W.kitOne K (.ref CL) (.ref CS) = some false)
    (zI0 : PySem.W.kitOne K (.type "NoneType") (.ref CI) = some false)
    (zI1 : PySem.W.kitOne K (.type "bool") (.ref CI) = some false)
    (zI2 : PySem.W.kitOne K (.type "int") (.ref CI) = some false)
    (zI3 : PySem.W.kitOne K (.type "str") (.ref CI) = some false)
    (zI4 : PySem.W.kitOne K (.type "list") (.ref CI) = some false)
    (zI5 : PySem.W.kitOne K (.type "tuple") (.ref CI) = some false)
    (zI6 : PySem.W.kitOne K (.type "dict") (.ref CI) = some false)
    (zS0 : PySem.W.kitOne K (.type "NoneType") (.ref CS) = some false)
    (zS1 : PySem.W.kitOne K (.type "bool") (.ref CS) = some false)
    (zS2 : PySem.W.kitOne K (.type "int") (.ref CS) = some false)
    (zS3 : PySem.W.kitOne K (.type "str") (.ref CS) = some false)
    (zS4 : PySem.W.kitOne K (.type "list") (.ref CS) = some false)
    (zS5 : PySem.W.kitOne K (.type "tuple") (.ref CS) = some false)
    (zS6 : PySem.W.kitOne K (.type "dict") (.ref CS) = some false)
    (aCB : PySem.W.nsIn K mainGlobals "Box" = some (some (.ref CB)))
    (pgB : PySem.W.plainGet K CB Str.empty = true)
    (hdB : PySem.W.hasDictIn K CB = true)
    (poB : PySem.W.plainOver K CB = true)
    (saB : PySem.W.findIn K (.ref CB) "__setattr__" = some (some (.builtin "object.__setattr__")))
    (nBS : PySem.W.findIn K (.ref CB) "shelf" = some none)
    (mkB : PySem.W.makesIn K CB = true)
    (aiB : PySem.W.findIn K (.ref CB) "__init__" = some (some (.ref fbi)))
    (iiB : PySem.W.isFn K (.ref fbi) = true)
    (kcB : PySem.W.keepIn K (.ref CB) = true)
    (lbi : K.lookup fbi = some ⟨ocbi, odbi, .func (PySem.W.fnOf "__init__" "Box.__init__" (defArgs sBox_init) (defBody sBox_init) (defScope sBox_init) .none kVbi dcbi pmbi anbi cdbi ctbi), slbi⟩)
    (cbi : PySem.W.codeIn K cdbi "Box.__init__" = true)
    (kbi : PySem.W.keepIn K (.ref fbi) = true)
    (mebs : PySem.W.findIn K (.ref CB) "sight" = some (some (.ref fbs)))
    (lbs : K.lookup fbs = some ⟨ocbs, odbs, .func (PySem.W.fnOf "sight" "Box.sight" (defArgs sBox_sight) (defBody sBox_sight) (defScope sBox_sight) .none kVbs dcbs pmbs anbs cdbs ctbs), slbs⟩)
    (cbs : PySem.W.codeIn K cdbs "Box.sight" = true)
    (kbs : PySem.W.keepIn K (.ref fbs) = true)
    (ifbs : PySem.W.isFn K (.ref fbs) = true)
    (mebj : PySem.W.findIn K (.ref CB) "joint" = some (some (.ref fbj)))
    (lbj : K.lookup fbj = some ⟨ocbj, odbj, .func (PySem.W.fnOf "joint" "Box.joint" (defArgs sBox_joint) (defBody sBox_joint) (defScope sBox_joint) .none kVbj dcbj pmbj anbj cdbj ctbj), slbj⟩)
    (cbj : PySem.W.codeIn K cdbj "Box.joint" = true)
    (kbj : PySem.W.keepIn K (.ref fbj) = true)
    (ifbj : PySem.W.isFn K (.ref fbj) = true)
    (mebh : PySem.W.findIn K (.ref CB) "holds" = some (some (.ref fbh)))
    (lbh : K.lookup fbh = some ⟨ocbh, odbh, .func (PySem.W.fnOf "holds" "Box.holds" (defArgs sBox_holds) (defBody sBox_holds) (defScope sBox_holds) .none kVbh dcbh pmbh anbh cdbh ctbh), slbh⟩)
    (cbh : PySem.W.codeIn K cdbh "Box.holds" = true)
    (kbh : PySem.W.keepIn K (.ref fbh) = true)
    (ifbh : PySem.W.isFn K (.ref fbh) = true)
    (aCV : PySem.W.nsIn K mainGlobals "View" = some (some (.ref CV)))
    (pgV : PySem.W.plainGet K CV Str.empty = true)
    (hdV : PySem.W.hasDictIn K CV = true)
    (poV : PySem.W.plainOver K CV = true)
    (saV : PySem.W.findIn K (.ref CV) "__setattr__" = some (some (.builtin "object.__setattr__")))
    (nVS : PySem.W.findIn K (.ref CV) "sensors" = some none)
    (nVL : PySem.W.findIn K (.ref CV) "locked" = some none)
    (mkV : PySem.W.makesIn K CV = true)
    (aiV : PySem.W.findIn K (.ref CV) "__init__" = some (some (.ref fvi)))
    (iiV : PySem.W.isFn K (.ref fvi) = true)
    (kcV : PySem.W.keepIn K (.ref CV) = true)
    (lvi : K.lookup fvi = some ⟨ocvi, odvi, .func (PySem.W.fnOf "__init__" "View.__init__" (defArgs sView_init) (defBody sView_init) (defScope sView_init) .none kVvi dcvi pmvi anvi cdvi ctvi), slvi⟩)
    (cvi : PySem.W.codeIn K cdvi "View.__init__" = true)
    (kvi : PySem.W.keepIn K (.ref fvi) = true)
    (mevo : PySem.W.findIn K (.ref CV) "own_sight" = some (some (.ref fvo)))
    (lvo : K.lookup fvo = some ⟨ocvo, odvo, .func (PySem.W.fnOf "own_sight" "View.own_sight" (defArgs sView_own_sight) (defBody sView_own_sight) (defScope sView_own_sight) .none kVvo dcvo pmvo anvo cdvo ctvo), slvo⟩)
    (cvo : PySem.W.codeIn K cdvo "View.own_sight" = true)
    (kvo : PySem.W.keepIn K (.ref fvo) = true)
    (ifvo : PySem.W.isFn K (.ref fvo) = true)
    (mevs : PySem.W.findIn K (.ref CV) "sight" = some (some (.ref fvs)))
    (lvs : K.lookup fvs = some ⟨ocvs, odvs, .func (PySem.W.fnOf "sight" "View.sight" (defArgs sView_sight) (defBody sView_sight) (defScope sView_sight) .none kVvs dcvs pmvs anvs cdvs ctvs), slvs⟩)
    (cvs : PySem.W.codeIn K cdvs "View.sight" = true)
    (kvs : PySem.W.keepIn K (.ref fvs) = true)
    (ifvs : PySem.W.isFn K (.ref fvs) = true)
    (aii : PySem.W.nsIn K mainGlobals "is_integer" = some (some (.ref fii)))
    (lii : K.lookup fii = some ⟨ocii, odii, .func (PySem.W.fnOf "is_integer" "is_integer" (defArgs sIs_integer) (defBody sIs_integer) (defScope sIs_integer) .none kVii dcii pmii anii cdii ctii), slii⟩)
    (cii : PySem.W.codeIn K cdii "is_integer" = true)
    (kii : PySem.W.keepIn K (.ref fii) = true)
    (aib : PySem.W.nsIn K mainGlobals "is_between" = some (some (.ref fib)))
    (lib : K.lookup fib = some ⟨ocib, odib, .func (PySem.W.fnOf "is_between" "is_between" (defArgs sIs_between) (defBody sIs_between) (defScope sIs_between) .none kVib dcib pmib anib cdib ctib), slib⟩)
    (cib : PySem.W.codeIn K cdib "is_between" = true)
    (kib : PySem.W.keepIn K (.ref fib) = true)
    (ain : PySem.W.nsIn K mainGlobals "is_name" = some (some (.ref fin)))
    (lin : K.lookup fin = some ⟨ocin, odin, .func (PySem.W.fnOf "is_name" "is_name" (defArgs sIs_name) (defBody sIs_name) (defScope sIs_name) .none kVin dcin pmin anin cdin ctin), slin⟩)
    (cin : PySem.W.codeIn K cdin "is_name" = true)
    (kin : PySem.W.keepIn K (.ref fin) = true)
    (air : PySem.W.nsIn K mainGlobals "is_row" = some (some (.ref fir)))
    (lir : K.lookup fir = some ⟨ocir, odir, .func (PySem.W.fnOf "is_row" "is_row" (defArgs sIs_row) (defBody sIs_row) (defScope sIs_row) .none kVir dcir pmir anir cdir ctir), slir⟩)
    (cir : PySem.W.codeIn K cdir "is_row" = true)
    (kir : PySem.W.keepIn K (.ref fir) = true)
    (aan : PySem.W.nsIn K mainGlobals "are_names" = some (some (.ref fan)))
    (lan : K.lookup fan = some ⟨ocan, odan, .func (PySem.W.fnOf "are_names" "are_names" (defArgs sAre_names) (defBody sAre_names) (defScope sAre_names) .none kVan dcan pman anan cdan ctan), slan⟩)
    (can : PySem.W.codeIn K cdan "are_names" = true)
    (kan : PySem.W.keepIn K (.ref fan) = true)
    (aas : PySem.W.nsIn K mainGlobals "are_sights" = some (some (.ref fas)))
    (las : K.lookup fas = some ⟨ocas, odas, .func (PySem.W.fnOf "are_sights" "are_sights" (defArgs sAre_sights) (defBody sAre_sights) (defScope sAre_sights) .none kVas dcas pmas anas cdas ctas), slas⟩)
    (cas : PySem.W.codeIn K cdas "are_sights" = true)
    (kas : PySem.W.keepIn K (.ref fas) = true)
    (ach : PySem.W.nsIn K mainGlobals "check_head" = some (some (.ref fch)))
    (lch : K.lookup fch = some ⟨occh, odch, .func (PySem.W.fnOf "check_head" "check_head" (defArgs sCheck_head) (defBody sCheck_head) (defScope sCheck_head) .none kVch dcch pmch anch cdch ctch), slch⟩)
    (cch : PySem.W.codeIn K cdch "check_head" = true)
    (kch : PySem.W.keepIn K (.ref fch) = true)
    (acc : PySem.W.nsIn K mainGlobals "check_cost" = some (some (.ref fcc)))
    (lcc : K.lookup fcc = some ⟨occc, odcc, .func (PySem.W.fnOf "check_cost" "check_cost" (defArgs sCheck_cost) (defBody sCheck_cost) (defScope sCheck_cost) .none kVcc dccc pmcc ancc cdcc ctcc), slcc⟩)
    (ccc : PySem.W.codeIn K cdcc "check_cost" = true)
    (kcc : PySem.W.keepIn K (.ref fcc) = true)
    (acp : PySem.W.nsIn K mainGlobals "check_post" = some (some (.ref fcp)))
    (lcp : K.lookup fcp = some ⟨occp, odcp, .func (PySem.W.fnOf "check_post" "check_post" (defArgs sCheck_post) (defBody sCheck_post) (defScope sCheck_post) .none kVcp dccp pmcp ancp cdcp ctcp), slcp⟩)
    (ccp : PySem.W.codeIn K cdcp "check_post" = true)
    (kcp : PySem.W.keepIn K (.ref fcp) = true)
    (agi : PySem.W.nsIn K mainGlobals "good_instruments" = some (some (.ref fgi)))
    (lgi : K.lookup fgi = some ⟨ocgi, odgi, .func (PySem.W.fnOf "good_instruments" "good_instruments" (defArgs sGood_instruments) (defBody sGood_instruments) (defScope sGood_instruments) .none kVgi dcgi pmgi angi cdgi ctgi), slgi⟩)
    (cgi : PySem.W.codeIn K cdgi "good_instruments" = true)
    (kgi : PySem.W.keepIn K (.ref fgi) = true)
    (ags : PySem.W.nsIn K mainGlobals "good_set" = some (some (.ref fgs)))
    (lgs : K.lookup fgs = some ⟨ocgs, odgs, .func (PySem.W.fnOf "good_set" "good_set" (defArgs sGood_set) (defBody sGood_set) (defScope sGood_set) .none kVgs dcgs pmgs angs cdgs ctgs), slgs⟩)
    (cgs : PySem.W.codeIn K cdgs "good_set" = true)
    (kgs : PySem.W.keepIn K (.ref fgs) = true)
    (alp : PySem.W.nsIn K mainGlobals "_law_pool" = some (some (.ref flp)))
    (llp : K.lookup flp = some ⟨oclp, odlp, .func (PySem.W.fnOf "_law_pool" "_law_pool" (defArgs sLpool) (defBody sLpool) (defScope sLpool) .none kVlp dclp pmlp anlp cdlp ctlp), sllp⟩)
    (clp : PySem.W.codeIn K cdlp "_law_pool" = true)
    (klp : PySem.W.keepIn K (.ref flp) = true)
    (ald : PySem.W.nsIn K mainGlobals "_law_draw" = some (some (.ref fld)))
    (lld : K.lookup fld = some ⟨ocld, odld, .func (PySem.W.fnOf "_law_draw" "_law_draw" (defArgs sLdraw) (defBody sLdraw) (defScope sLdraw) .none kVld dcld pmld anld cdld ctld), slld⟩)
    (cld : PySem.W.codeIn K cdld "_law_draw" = true)
    (kld : PySem.W.keepIn K (.ref fld) = true)
    (alk : PySem.W.nsIn K mainGlobals "_law_pick" = some (some (.ref flk)))
    (llk : K.lookup flk = some ⟨oclk, odlk, .func (PySem.W.fnOf "_law_pick" "_law_pick" (defArgs sLpick) (defBody sLpick) (defScope sLpick) .none kVlk dclk pmlk anlk cdlk ctlk), sllk⟩)
    (clk : PySem.W.codeIn K cdlk "_law_pick" = true)
    (klk : PySem.W.keepIn K (.ref flk) = true)
    (aln : PySem.W.nsIn K mainGlobals "_law_name" = some (some (.ref fln)))
    (lln : K.lookup fln = some ⟨ocln, odln, .func (PySem.W.fnOf "_law_name" "_law_name" (defArgs sLname) (defBody sLname) (defScope sLname) .none kVln dcln pmln anln cdln ctln), slln⟩)
    (cln : PySem.W.codeIn K cdln "_law_name" = true)
    (kln : PySem.W.keepIn K (.ref fln) = true)
    (alN : PySem.W.nsIn K mainGlobals "_law_names" = some (some (.ref flN)))
    (llN : K.lookup flN = some ⟨oclN, odlN, .func (PySem.W.fnOf "_law_names" "_law_names" (defArgs sLnames) (defBody sLnames) (defScope sLnames) .none kVlN dclN pmlN anlN cdlN ctlN), sllN⟩)
    (clN : PySem.W.codeIn K cdlN "_law_names" = true)
    (klN : PySem.W.keepIn K (.ref flN) = true)
    (alh : PySem.W.nsIn K mainGlobals "_law_hand" = some (some (.ref flh)))
    (llh : K.lookup flh = some ⟨oclh, odlh, .func (PySem.W.fnOf "_law_hand" "_law_hand" (defArgs sLhand) (defBody sLhand) (defScope sLhand) .none kVlh dclh pmlh anlh cdlh ctlh), sllh⟩)
    (clh : PySem.W.codeIn K cdlh "_law_hand" = true)
    (klh : PySem.W.keepIn K (.ref flh) = true)
    (apt : PySem.W.nsIn K mainGlobals "_law_pattern" = some (some (.ref fpt)))
    (lpt : K.lookup fpt = some ⟨ocpt, odpt, .func (PySem.W.fnOf "_law_pattern" "_law_pattern" (defArgs sLpattern) (defBody sLpattern) (defScope sLpattern) .none kVpt dcpt pmpt anpt cdpt ctpt), slpt⟩)
    (cpt : PySem.W.codeIn K cdpt "_law_pattern" = true)
    (kpt : PySem.W.keepIn K (.ref fpt) = true)
    (aag : PySem.W.nsIn K mainGlobals "_law_agrees" = some (some (.ref fag)))
    (lag : K.lookup fag = some ⟨ocag, odag, .func (PySem.W.fnOf "_law_agrees" "_law_agrees" (defArgs sLagrees) (defBody sLagrees) (defScope sLagrees) .none kVag dcag pmag anag cdag ctag), slag⟩)
    (cag : PySem.W.codeIn K cdag "_law_agrees" = true)
    (kag : PySem.W.keepIn K (.ref fag) = true)
    (asa : PySem.W.nsIn K mainGlobals "_law_start" = some (some (.ref fsa)))
    (lsa : K.lookup fsa = some ⟨ocsa, odsa, .func (PySem.W.fnOf "_law_start" "_law_start" (defArgs sLstart) (defBody sLstart) (defScope sLstart) .none kVsa dcsa pmsa ansa cdsa ctsa), slsa⟩)
    (csa : PySem.W.codeIn K cdsa "_law_start" = true)
    (ksa : PySem.W.keepIn K (.ref fsa) = true)
    (awo : PySem.W.nsIn K mainGlobals "_law_words" = some (some (.ref fwo)))
    (lwo : K.lookup fwo = some ⟨ocwo, odwo, .func (PySem.W.fnOf "_law_words" "_law_words" (defArgs sLwords) (defBody sLwords) (defScope sLwords) .none kVwo dcwo pmwo anwo cdwo ctwo), slwo⟩)
    (cwo : PySem.W.codeIn K cdwo "_law_words" = true)
    (kwo : PySem.W.keepIn K (.ref fwo) = true)
    (abl : PySem.W.nsIn K mainGlobals "_law_blames" = some (some (.ref fbl)))
    (lbl : K.lookup fbl = some ⟨ocbl, odbl, .func (PySem.W.fnOf "_law_blames" "_law_blames" (defArgs sLblames) (defBody sLblames) (defScope sLblames) .none kVbl dcbl pmbl anbl cdbl ctbl), slbl⟩)
    (cbl : PySem.W.codeIn K cdbl "_law_blames" = true)
    (kbl : PySem.W.keepIn K (.ref fbl) = true)
    (ahi : PySem.W.nsIn K mainGlobals "_law_hides" = some (some (.ref fhi)))
    (lhi : K.lookup fhi = some ⟨ochi, odhi, .func (PySem.W.fnOf "_law_hides" "_law_hides" (defArgs sLhides) (defBody sLhides) (defScope sLhides) .none kVhi dchi pmhi anhi cdhi cthi), slhi⟩)
    (chi : PySem.W.codeIn K cdhi "_law_hides" = true)
    (khi : PySem.W.keepIn K (.ref fhi) = true)
    (apl : PySem.W.nsIn K mainGlobals "_law_plan" = some (some (.ref fpl)))
    (lpl : K.lookup fpl = some ⟨ocpl, odpl, .func (PySem.W.fnOf "_law_plan" "_law_plan" (defArgs sLplan) (defBody sLplan) (defScope sLplan) .none kVpl dcpl pmpl anpl cdpl ctpl), slpl⟩)
    (cpl : PySem.W.codeIn K cdpl "_law_plan" = true)
    (kpl : PySem.W.keepIn K (.ref fpl) = true)
    (ait : PySem.W.nsIn K mainGlobals "_law_instruments" = some (some (.ref fit)))
    (lit : K.lookup fit = some ⟨ocit, odit, .func (PySem.W.fnOf "_law_instruments" "_law_instruments" (defArgs sLinstruments) (defBody sLinstruments) (defScope sLinstruments) .none kVit dcit pmit anit cdit ctit), slit⟩)
    (cit : PySem.W.codeIn K cdit "_law_instruments" = true)
    (kit : PySem.W.keepIn K (.ref fit) = true)
    (akt : PySem.W.nsIn K mainGlobals "_law_kit" = some (some (.ref fkt)))
    (lkt : K.lookup fkt = some ⟨ockt, odkt, .func (PySem.W.fnOf "_law_kit" "_law_kit" (defArgs sLkit) (defBody sLkit) (defScope sLkit) .none kVkt dckt pmkt ankt cdkt ctkt), slkt⟩)
    (ckt : PySem.W.codeIn K cdkt "_law_kit" = true)
    (kkt : PySem.W.keepIn K (.ref fkt) = true)
    (acn : PySem.W.nsIn K mainGlobals "_law_chosen" = some (some (.ref fcn)))
    (lcn : K.lookup fcn = some ⟨occn, odcn, .func (PySem.W.fnOf "_law_chosen" "_law_chosen" (defArgs sLchosen) (defBody sLchosen) (defScope sLchosen) .none kVcn dccn pmcn ancn cdcn ctcn), slcn⟩)
    (ccn : PySem.W.codeIn K cdcn "_law_chosen" = true)
    (kcn : PySem.W.keepIn K (.ref fcn) = true)
    (asi : PySem.W.nsIn K mainGlobals "_law_sight" = some (some (.ref fsi)))
    (lsi : K.lookup fsi = some ⟨ocsi, odsi, .func (PySem.W.fnOf "_law_sight" "_law_sight" (defArgs sLsight) (defBody sLsight) (defScope sLsight) .none kVsi dcsi pmsi ansi cdsi ctsi), slsi⟩)
    (csi : PySem.W.codeIn K cdsi "_law_sight" = true)
    (ksi : PySem.W.keepIn K (.ref fsi) = true)
    (ard : PySem.W.nsIn K mainGlobals "_law_reads" = some (some (.ref frd)))
    (lrd : K.lookup frd = some ⟨ocrd, odrd, .func (PySem.W.fnOf "_law_reads" "_law_reads" (defArgs sLreads) (defBody sLreads) (defScope sLreads) .none kVrd dcrd pmrd anrd cdrd ctrd), slrd⟩)
    (crd : PySem.W.codeIn K cdrd "_law_reads" = true)
    (krd : PySem.W.keepIn K (.ref frd) = true)
    (aso : PySem.W.nsIn K mainGlobals "_law_stops" = some (some (.ref fso)))
    (lso : K.lookup fso = some ⟨ocso, odso, .func (PySem.W.fnOf "_law_stops" "_law_stops" (defArgs sLstops) (defBody sLstops) (defScope sLstops) .none kVso dcso pmso anso cdso ctso), slso⟩)
    (cso : PySem.W.codeIn K cdso "_law_stops" = true)
    (kso : PySem.W.keepIn K (.ref fso) = true)
    (ala : PySem.W.nsIn K mainGlobals "_law_alike" = some (some (.ref fla)))
    (lla : K.lookup fla = some ⟨ocla, odla, .func (PySem.W.fnOf "_law_alike" "_law_alike" (defArgs sLalike) (defBody sLalike) (defScope sLalike) .none kVla dcla pmla anla cdla ctla), slla⟩)
    (cla : PySem.W.codeIn K cdla "_law_alike" = true)
    (kla : PySem.W.keepIn K (.ref fla) = true)
    (arf : PySem.W.nsIn K mainGlobals "_law_refused" = some (some (.ref frf)))
    (lrf : K.lookup frf = some ⟨ocrf, odrf, .func (PySem.W.fnOf "_law_refused" "_law_refused" (defArgs sLrefused) (defBody sLrefused) (defScope sLrefused) .none kVrf dcrf pmrf anrf cdrf ctrf), slrf⟩)
    (crf : PySem.W.codeIn K cdrf "_law_refused" = true)
    (krf : PySem.W.keepIn K (.ref frf) = true)
    (ato : PySem.W.nsIn K mainGlobals "_law_told" = some (some (.ref fto)))
    (lto : K.lookup fto = some ⟨octo, odto, .func (PySem.W.fnOf "_law_told" "_law_told" (defArgs sLtold) (defBody sLtold) (defScope sLtold) .none kVto dcto pmto anto cdto ctto), slto⟩)
    (cto : PySem.W.codeIn K cdto "_law_told" = true)
    (kto : PySem.W.keepIn K (.ref fto) = true)
    (alaw : PySem.W.nsIn K mainGlobals "law" = some (some (.ref flaw)))
    (llaw : K.lookup flaw = some ⟨oclaw, odlaw, .func (PySem.W.fnOf "law" "law" (defArgs sLaw) (defBody sLaw) (defScope sLaw) .none kVlaw dclaw pmlaw anlaw cdlaw ctlaw), sllaw⟩)
    (claw : PySem.W.codeIn K cdlaw "law" = true)
    (klaw : PySem.W.keepIn K (.ref flaw) = true) :
    ∃ fd : FuncData, (∀ (s : Shared) (v : Value), BindsTo s fd ⟨[v], []⟩ [("_law_script", v)]) ∧ ∀ base : Heap, K.In base → base.Ns mainGlobals mg → FnOk l.prog w K mg base CX0 9 fa fd ["_law_script"] (spLaw K) := by
  have e := hfa.symm.trans (PySem.W.mg_of X G alaw)
  cases e
  have T : Bl mg := ⟨PySem.W.mg_none_of X G zabs, PySem.W.mg_none_of X G zint, PySem.W.mg_none_of X G zlen, PySem.W.mg_none_of X G zmax, PySem.W.mg_none_of X G zrange, PySem.W.mg_none_of X G ztuple, PySem.W.mg_none_of X G zlist, PySem.W.mg_none_of X G zstr, PySem.W.mg_none_of X G zbool, PySem.W.mg_none_of X G zisinstance, PySem.W.mg_none_of X G zall, PySem.W.mg_none_of X G zsorted, PySem.W.mg_none_of X G zenumerate⟩
  have Vsm := PySem.W.mg_of X G vsm
  have Vmw := PySem.W.mg_of X G vmw
  have Vmc := PySem.W.mg_of X G vmc
  have Vmi := PySem.W.mg_of X G vmi
  have Vbo := PySem.W.mg_of X G vbo
  have hclxp : ∃ cd, PySem.W.clsIn K Cxp = some cd := ⟨_, by unfold PySem.W.clsIn; rw [xLxp]⟩
  have STxp : SupTxt l.prog K mg fxp cdxp ccxp Cxp := ⟨⟨_, _, _, _, _, lkxp, rfl, rfl⟩, ⟨_, _, _, _, _, _, coxpx, v2xp, flxp⟩, ⟨_, _, _, cexp⟩, hclxp, PySem.W.mg_none_of X G zsuper, ntop, opq⟩
  have OXxp : OexC K Cxp := ⟨⟨_, _, _, _, _, _, _, _, _, _, _, _, _, _, _, xLxp, rfl⟩, saxp, eCxp, tCxp, kCxp⟩
  have Xxp : ExcT l.prog w K mg "BadPost" Cxp fxp "value" _ := ⟨OXxp, PySem.W.mg_of X G aCxp, iCxp, tIxp, Binds.all fun us hl => (match us, hl with | [_, _], _ => rfl), fun base => ok_exc lkxp hcxp STxp OXxp mrxp suxp bvxp nfxp (NdefX.nscope_by (by decide +kernel)) rfl ⟨_, _, _, _, _, _, _, _, _, _, rfl, fun _ => ⟨_, rfl⟩⟩ (by decide) (by decide)⟩
  have XFxp : XfC K Cxp := ⟨gaxp, ggxp, eCxp, hdxp⟩
  have XCxp : ExcC K Cxp := ⟨gaxp, ggxp, eCxp, hdxp, clxp, jb, jc, moxp⟩
  have hclxn : ∃ cd, PySem.W.clsIn K Cxn = some cd := ⟨_, by unfold PySem.W.clsIn; rw [xLxn]⟩
  have STxn : SupTxt l.prog K mg fxn cdxn ccxn Cxn := ⟨⟨_, _, _, _, _, lkxn, rfl, rfl⟩, ⟨_, _, _, _, _, _, coxnx, v2xn, flxn⟩, ⟨_, _, _, cexn⟩, hclxn, PySem.W.mg_none_of X G zsuper, ntop, opq⟩
  have OXxn : OexC K Cxn := ⟨⟨_, _, _, _, _, _, _, _, _, _, _, _, _, _, _, xLxn, rfl⟩, saxn, eCxn, tCxn, kCxn⟩
  have Xxn : ExcT l.prog w K mg "BadName" Cxn fxn "value" _ := ⟨OXxn, PySem.W.mg_of X G aCxn, iCxn, tIxn, Binds.all fun us hl => (match us, hl with | [_, _], _ => rfl), fun base => ok_exc lkxn hcxn STxn OXxn mrxn suxn bvxn nfxn (NdefX.nscope_by (by decide +kernel)) rfl ⟨_, _, _, _, _, _, _, _, _, _, rfl, fun _ => ⟨_, rfl⟩⟩ (by decide) (by decide)⟩
  have XFxn : XfC K Cxn := ⟨gaxn, ggxn, eCxn, hdxn⟩
  have XCxn : ExcC K Cxn := ⟨gaxn, ggxn, eCxn, hdxn, clxn, jb, jc, moxn⟩
  have RT : RefT K mg Cxp Cxn CW := ⟨XFxp, XCxp, nfxp, kwxp, XFxn, XCxn, nfxn, kwxn, PySem.W.mg_of X G aCW, PySem.W.exm_ref eCxp hdxp tCxp uxpxp, PySem.W.exm_ref eCxp hdxp tCxp uxnxp, PySem.W.exm_ref eCxn hdxn tCxn uxnxn⟩
  have clS : Cls K CS := ⟨pgS, hdS, poS, saS⟩
  have mCS := PySem.W.mg_of X G aCS
  have JS : C8.InsC K CS := ⟨clS, jaS, jbS, jcS, jdS, if_pos (beq_self_eq_true _)⟩
  have KS : Kl K CS := ⟨clS, nST, nSP, nSF, nSS, nSO, JS⟩
  have MS : Mk K CS fSi := ⟨mkS, aiS, iiS, kcS⟩
  have hclSi : ∃ cd, PySem.W.clsIn K CS = some cd := let ⟨cd, hc, _⟩ := PySem.W.any_some hdS; ⟨cd, hc⟩
  have STSi : SupTxt l.prog K mg fSi cdSi ccSi CS := ⟨⟨_, _, _, _, _, lkSi, rfl, rfl⟩, ⟨_, _, _, _, _, _, coSix, v2Si, flSi⟩, ⟨_, _, _, ceSi⟩, hclSi, PySem.W.mg_none_of X G zsuper, ntop, opq⟩
  have biS : Binds K (PySem.W.fnX "__init__" "Sensor.__init__" (defArgs sSensor_init) (defBody sSensor_init) (defScope sSensor_init) [("__class__", ccSi)] .none .none dcSi pmSi none (.ref cdSi) ctSi) ["self", "name", "post", "sights", "cost"] [] := Binds.all fun us hl => (match us, hl with | [_, _, _, _, _], _ => rfl)
  have Fio := fun_mk (st := sInstrument_init) lio cio kio
  have bio := Fio.binds (ps := ["self", "name", "post", "cost"]) fun _ _ _ _ _ _ us hl => match us, hl with | [_, _, _, _], _ => rfl
  have Pnm : PropOf K CS "name" pnm fnm := ⟨panm, pbnm, pcnm, _, pdnm⟩
  have Fnm := fun_mk (st := sInstrument_name) lnm cnm knm
  have bnm := Fnm.binds (ps := ["self"]) fun _ _ _ _ _ _ us hl => match us, hl with | [_], _ => rfl
  have Pps : PropOf K CS "post" pps fps := ⟨paps, pbps, pcps, _, pdps⟩
  have Fps := fun_mk (st := sInstrument_post) lps cps kps
  have bps := Fps.binds (ps := ["self"]) fun _ _ _ _ _ _ us hl => match us, hl with | [_], _ => rfl
  have clL : Cls K CL := ⟨pgL, hdL, poL, saL⟩
  have mCL := PySem.W.mg_of X G aCL
  have JL : C8.InsC K CL := ⟨clL, jaL, jbL, jcL, jdL, if_pos (beq_self_eq_true _)⟩
  have KL : Kl K CL := ⟨clL, nLT, nLP, nLF, nLS, nLO, JL⟩
  have ML : Mk K CL fLi := ⟨mkL, aiL, iiL, kcL⟩
  have hclLi : ∃ cd, PySem.W.clsIn K CL = some cd := let ⟨cd, hc, _⟩ := PySem.W.any_some hdL; ⟨cd, hc⟩
  have STLi : SupTxt l.prog K mg fLi cdLi ccLi CL := ⟨⟨_, _, _, _, _, lkLi, rfl, rfl⟩, ⟨_, _, _, _, _, _, coLix, v2Li, flLi⟩, ⟨_, _, _, ceLi⟩, hclLi, PySem.W.mg_none_of X G zsuper, ntop, opq⟩
  have biL : Binds K (PySem.W.fnX "__init__" "Lock.__init__" (defArgs sLock_init) (defBody sLock_init) (defScope sLock_init) [("__class__", ccLi)] .none .none dcLi pmLi none (.ref cdLi) ctLi) ["self", "name", "post", "words", "cost"] [] := Binds.all fun us hl => (match us, hl with | [_, _, _, _, _], _ => rfl)
  have PLnm : PropOf K CL "name" pnm fnm := ⟨paLnm, pbnm, pcnm, _, pdnm⟩
  have PLps : PropOf K CL "post" pps fps := ⟨paLps, pbps, pcps, _, pdps⟩
  have NBI : NoB K CI := fun n hn => by
    simp only [kinds, List.mem_cons, List.not_mem_nil, or_false] at hn
    rcases hn with rfl | rfl | rfl | rfl | rfl | rfl | rfl
    · exact zI0
    · exact zI1
    · exact zI2
    · exact zI3
    · exact zI4
    · exact zI5
    · exact zI6
  have NBS : NoB K CS := fun n hn => by
    simp only [kinds, List.mem_cons, List.not_mem_nil, or_false] at hn
    rcases hn with rfl | rfl | rfl | rfl | rfl | rfl | rfl
    · exact zS0
    · exact zS1
    · exact zS2
    · exact zS3
    · exact zS4
    · exact zS5
    · exact zS6
  have kI : InsT K mg CI CS CL pnm pps fnm fps _ _ := ⟨PySem.W.mg_of X G aCI, mCS, mCL, KS, KL, NBI, NBS, qSI, qLI, qSS, qLS, Pnm, PLnm, Pps, PLps, bnm, bps⟩
  have clB : Cls K CB := ⟨pgB, hdB, poB, saB⟩
  have mCB := PySem.W.mg_of X G aCB
  have MB : Mk K CB fbi := ⟨mkB, aiB, iiB, kcB⟩
  have Fbi := fun_mk (st := sBox_init) lbi cbi kbi
  have bbi := Fbi.binds (ps := ["self", "instruments"]) fun _ _ _ _ _ _ us hl => match us, hl with | [_, _], _ => rfl
  have kB : BoxT K CB := ⟨clB, nBS⟩
  have Fbs := fun_mk (st := sBox_sight) lbs cbs kbs
  have bbs := Fbs.binds (ps := ["self", "chosen", "post", "word"]) fun _ _ _ _ _ _ us hl => match us, hl with | [_, _, _, _], _ => rfl
  have MEbs : Meth K CB "sight" fbs := ⟨mebs, ifbs, kbs⟩
  have Fbj := fun_mk (st := sBox_joint) lbj cbj kbj
  have bbj := Fbj.binds (ps := ["self", "chosen", "word"]) fun _ _ _ _ _ _ us hl => match us, hl with | [_, _, _], _ => rfl
  have MEbj : Meth K CB "joint" fbj := ⟨mebj, ifbj, kbj⟩
  have Fbh := fun_mk (st := sBox_holds) lbh cbh kbh
  have bbh := Fbh.binds (ps := ["self", "chosen", "post"]) fun _ _ _ _ _ _ us hl => match us, hl with | [_, _, _], _ => rfl
  have MEbh : Meth K CB "holds" fbh := ⟨mebh, ifbh, kbh⟩
  have BM : BxM K CB fbs fbj fbh _ _ _ := ⟨MEbs, bbs, MEbj, bbj, MEbh, bbh⟩
  have clV : Cls K CV := ⟨pgV, hdV, poV, saV⟩
  have mCV := PySem.W.mg_of X G aCV
  have MV : Mk K CV fvi := ⟨mkV, aiV, iiV, kcV⟩
  have Fvi := fun_mk (st := sView_init) lvi cvi kvi
  have bvi := Fvi.binds (ps := ["self", "box", "row"]) fun _ _ _ _ _ _ us hl => match us, hl with | [_, _, _], _ => rfl
  have Fvo := fun_mk (st := sView_own_sight) lvo cvo kvo
  have bvo := Fvo.binds (ps := ["self", "post", "word"]) fun _ _ _ _ _ _ us hl => match us, hl with | [_, _, _], _ => rfl
  have MEvo : Meth K CV "own_sight" fvo := ⟨mevo, ifvo, kvo⟩
  have Fvs := fun_mk (st := sView_sight) lvs cvs kvs
  have bvs := Fvs.binds (ps := ["self", "reader", "word"]) fun _ _ _ _ _ _ us hl => match us, hl with | [_, _, _], _ => rfl
  have MEvs : Meth K CV "sight" fvs := ⟨mevs, ifvs, kvs⟩
  have kV : VwT K CV fvo _ := ⟨clV, nVS, nVL, MEvo, bvo⟩
  have Fii := fun_mk (st := sIs_integer) lii cii kii
  have bii := Fii.binds (ps := ["thing"]) fun _ _ _ _ _ _ us hl => match us, hl with | [_], _ => rfl
  have Dii : Df K mg "is_integer" sIs_integer ["thing"] fii _ := ⟨Fii, PySem.W.mg_of X G aii, bii⟩
  have Fib := fun_mk (st := sIs_between) lib cib kib
  have bib := Fib.binds (ps := ["thing", "low", "high"]) fun _ _ _ _ _ _ us hl => match us, hl with | [_, _, _], _ => rfl
  have Dib : Df K mg "is_between" sIs_between ["thing", "low", "high"] fib _ := ⟨Fib, PySem.W.mg_of X G aib, bib⟩
  have Fin := fun_mk (st := sIs_name) lin cin kin
  have bin := Fin.binds (ps := ["thing"]) fun _ _ _ _ _ _ us hl => match us, hl with | [_], _ => rfl
  have Din : Df K mg "is_name" sIs_name ["thing"] fin _ := ⟨Fin, PySem.W.mg_of X G ain, bin⟩
  have Fir := fun_mk (st := sIs_row) lir cir kir
  have bir := Fir.binds (ps := ["thing"]) fun _ _ _ _ _ _ us hl => match us, hl with | [_], _ => rfl
  have Dir : Df K mg "is_row" sIs_row ["thing"] fir _ := ⟨Fir, PySem.W.mg_of X G air, bir⟩
  have Fan := fun_mk (st := sAre_names) lan can kan
  have ban := Fan.binds (ps := ["thing"]) fun _ _ _ _ _ _ us hl => match us, hl with | [_], _ => rfl
  have Dan : Df K mg "are_names" sAre_names ["thing"] fan _ := ⟨Fan, PySem.W.mg_of X G aan, ban⟩
  have Fas := fun_mk (st := sAre_sights) las cas kas
  have bas := Fas.binds (ps := ["thing"]) fun _ _ _ _ _ _ us hl => match us, hl with | [_], _ => rfl
  have Das : Df K mg "are_sights" sAre_sights ["thing"] fas _ := ⟨Fas, PySem.W.mg_of X G aas, bas⟩
  have Fch := fun_mk (st := sCheck_head) lch cch kch
  have bch := Fch.binds (ps := ["name", "post"]) fun _ _ _ _ _ _ us hl => match us, hl with | [_, _], _ => rfl
  have Dch : Df K mg "check_head" sCheck_head ["name", "post"] fch _ := ⟨Fch, PySem.W.mg_of X G ach, bch⟩
  have Fcc := fun_mk (st := sCheck_cost) lcc ccc kcc
  have bcc := Fcc.binds (ps := ["cost"]) fun _ _ _ _ _ _ us hl => match us, hl with | [_], _ => rfl
  have Dcc : Df K mg "check_cost" sCheck_cost ["cost"] fcc _ := ⟨Fcc, PySem.W.mg_of X G acc, bcc⟩
  have Fcp := fun_mk (st := sCheck_post) lcp ccp kcp
  have bcp := Fcp.binds (ps := ["post"]) fun _ _ _ _ _ _ us hl => match us, hl with | [_], _ => rfl
  have Dcp : Df K mg "check_post" sCheck_post ["post"] fcp _ := ⟨Fcp, PySem.W.mg_of X G acp, bcp⟩
  have Fgi := fun_mk (st := sGood_instruments) lgi cgi kgi
  have bgi := Fgi.binds (ps := ["instruments"]) fun _ _ _ _ _ _ us hl => match us, hl with | [_], _ => rfl
  have Dgi : Df K mg "good_instruments" sGood_instruments ["instruments"] fgi _ := ⟨Fgi, PySem.W.mg_of X G agi, bgi⟩
  have Fgs := fun_mk (st := sGood_set) lgs cgs kgs
  have bgs := Fgs.binds (ps := ["box", "chosen"]) fun _ _ _ _ _ _ us hl => match us, hl with | [_, _], _ => rfl
  have Dgs : Df K mg "good_set" sGood_set ["box", "chosen"] fgs _ := ⟨Fgs, PySem.W.mg_of X G ags, bgs⟩
  have Flp := fun_mk (st := sLpool) llp clp klp
  have blp := Flp.binds (ps := ["_law_script"]) fun _ _ _ _ _ _ us hl => match us, hl with | [_], _ => rfl
  have Dlp : Df K mg "_law_pool" sLpool ["_law_script"] flp _ := ⟨Flp, PySem.W.mg_of X G alp, blp⟩
  have Fld := fun_mk (st := sLdraw) lld cld kld
  have bld := Fld.binds (ps := ["_law_pool_here", "_law_many"]) fun _ _ _ _ _ _ us hl => match us, hl with | [_, _], _ => rfl
  have Dld : Df K mg "_law_draw" sLdraw ["_law_pool_here", "_law_many"] fld _ := ⟨Fld, PySem.W.mg_of X G ald, bld⟩
  have Flk := fun_mk (st := sLpick) llk clk klk
  have blk := Flk.binds (ps := ["_law_pool_here", "_law_items"]) fun _ _ _ _ _ _ us hl => match us, hl with | [_, _], _ => rfl
  have Dlk : Df K mg "_law_pick" sLpick ["_law_pool_here", "_law_items"] flk _ := ⟨Flk, PySem.W.mg_of X G alk, blk⟩
  have Fln := fun_mk (st := sLname) lln cln kln
  have bln := Fln.binds (ps := ["_law_pool_here", "_law_taken"]) fun _ _ _ _ _ _ us hl => match us, hl with | [_, _], _ => rfl
  have Dln : Df K mg "_law_name" sLname ["_law_pool_here", "_law_taken"] fln _ := ⟨Fln, PySem.W.mg_of X G aln, bln⟩
  have FlN := fun_mk (st := sLnames) llN clN klN
  have blN := FlN.binds (ps := ["_law_pool_here", "_law_many"]) fun _ _ _ _ _ _ us hl => match us, hl with | [_, _], _ => rfl
  have DlN : Df K mg "_law_names" sLnames ["_law_pool_here", "_law_many"] flN _ := ⟨FlN, PySem.W.mg_of X G alN, blN⟩
  have Flh := fun_mk (st := sLhand) llh clh klh
  have blh := Flh.binds (ps := ["_law_pool_here", "_law_words_here", "_law_most"]) fun _ _ _ _ _ _ us hl => match us, hl with | [_, _, _], _ => rfl
  have Dlh : Df K mg "_law_hand" sLhand ["_law_pool_here", "_law_words_here", "_law_most"] flh _ := ⟨Flh, PySem.W.mg_of X G alh, blh⟩
  have Fpt := fun_mk (st := sLpattern) lpt cpt kpt
  have bpt := Fpt.binds (ps := ["_law_pool_here", "_law_hands"]) fun _ _ _ _ _ _ us hl => match us, hl with | [_, _], _ => rfl
  have Dpt : Df K mg "_law_pattern" sLpattern ["_law_pool_here", "_law_hands"] fpt _ := ⟨Fpt, PySem.W.mg_of X G apt, bpt⟩
  have Fag := fun_mk (st := sLagrees) lag cag kag
  have bag := Fag.binds (ps := ["_law_pattern_here", "_law_standing"]) fun _ _ _ _ _ _ us hl => match us, hl with | [_, _], _ => rfl
  have Dag : Df K mg "_law_agrees" sLagrees ["_law_pattern_here", "_law_standing"] fag _ := ⟨Fag, PySem.W.mg_of X G aag, bag⟩
  have Fsa := fun_mk (st := sLstart) lsa csa ksa
  have bsa := Fsa.binds (ps := ["_law_hands"]) fun _ _ _ _ _ _ us hl => match us, hl with | [_], _ => rfl
  have Dsa : Df K mg "_law_start" sLstart ["_law_hands"] fsa _ := ⟨Fsa, PySem.W.mg_of X G asa, bsa⟩
  have Fwo := fun_mk (st := sLwords) lwo cwo kwo
  have bwo := Fwo.binds (ps := ["_law_hands"]) fun _ _ _ _ _ _ us hl => match us, hl with | [_], _ => rfl
  have Dwo : Df K mg "_law_words" sLwords ["_law_hands"] fwo _ := ⟨Fwo, PySem.W.mg_of X G awo, bwo⟩
  have Fbl := fun_mk (st := sLblames) lbl cbl kbl
  have bbl := Fbl.binds (ps := ["_law_pool_here", "_law_words_here"]) fun _ _ _ _ _ _ us hl => match us, hl with | [_, _], _ => rfl
  have Dbl : Df K mg "_law_blames" sLblames ["_law_pool_here", "_law_words_here"] fbl _ := ⟨Fbl, PySem.W.mg_of X G abl, bbl⟩
  have Fhi := fun_mk (st := sLhides) lhi chi khi
  have bhi := Fhi.binds (ps := ["_law_pool_here", "_law_hands"]) fun _ _ _ _ _ _ us hl => match us, hl with | [_, _], _ => rfl
  have Dhi : Df K mg "_law_hides" sLhides ["_law_pool_here", "_law_hands"] fhi _ := ⟨Fhi, PySem.W.mg_of X G ahi, bhi⟩
  have Fpl := fun_mk (st := sLplan) lpl cpl kpl
  have bpl := Fpl.binds (ps := ["_law_pool_here", "_law_size"]) fun _ _ _ _ _ _ us hl => match us, hl with | [_, _], _ => rfl
  have Dpl : Df K mg "_law_plan" sLplan ["_law_pool_here", "_law_size"] fpl _ := ⟨Fpl, PySem.W.mg_of X G apl, bpl⟩
  have Fit := fun_mk (st := sLinstruments) lit cit kit
  have bit := Fit.binds (ps := ["_law_pool_here", "_law_plan_here", "_law_most"]) fun _ _ _ _ _ _ us hl => match us, hl with | [_, _, _], _ => rfl
  have Dit : Df K mg "_law_instruments" sLinstruments ["_law_pool_here", "_law_plan_here", "_law_most"] fit _ := ⟨Fit, PySem.W.mg_of X G ait, bit⟩
  have Fkt := fun_mk (st := sLkit) lkt ckt kkt
  have bkt := Fkt.binds (ps := ["_law_rows"]) fun _ _ _ _ _ _ us hl => match us, hl with | [_], _ => rfl
  have Dkt : Df K mg "_law_kit" sLkit ["_law_rows"] fkt _ := ⟨Fkt, PySem.W.mg_of X G akt, bkt⟩
  have Fcn := fun_mk (st := sLchosen) lcn ccn kcn
  have bcn := Fcn.binds (ps := ["_law_pool_here", "_law_rows"]) fun _ _ _ _ _ _ us hl => match us, hl with | [_, _], _ => rfl
  have Dcn : Df K mg "_law_chosen" sLchosen ["_law_pool_here", "_law_rows"] fcn _ := ⟨Fcn, PySem.W.mg_of X G acn, bcn⟩
  have Fsi := fun_mk (st := sLsight) lsi csi ksi
  have bsi := Fsi.binds (ps := ["_law_rows", "_law_chosen_here", "_law_post", "_law_word"]) fun _ _ _ _ _ _ us hl => match us, hl with | [_, _, _, _], _ => rfl
  have Dsi : Df K mg "_law_sight" sLsight ["_law_rows", "_law_chosen_here", "_law_post", "_law_word"] fsi _ := ⟨Fsi, PySem.W.mg_of X G asi, bsi⟩
  have Frd := fun_mk (st := sLreads) lrd crd krd
  have brd := Frd.binds (ps := ["_law_rows", "_law_chosen_here", "_law_reader", "_law_word"]) fun _ _ _ _ _ _ us hl => match us, hl with | [_, _, _, _], _ => rfl
  have Drd : Df K mg "_law_reads" sLreads ["_law_rows", "_law_chosen_here", "_law_reader", "_law_word"] frd _ := ⟨Frd, PySem.W.mg_of X G ard, brd⟩
  have Fso := fun_mk (st := sLstops) lso cso kso
  have bso := Fso.binds (ps := ["_law_rows", "_law_chosen_here", "_law_post"]) fun _ _ _ _ _ _ us hl => match us, hl with | [_, _, _], _ => rfl
  have Dso : Df K mg "_law_stops" sLstops ["_law_rows", "_law_chosen_here", "_law_post"] fso _ := ⟨Fso, PySem.W.mg_of X G aso, bso⟩
  have Fla := fun_mk (st := sLalike) lla cla kla
  have bla := Fla.binds (ps := ["_law_one", "_law_other"]) fun _ _ _ _ _ _ us hl => match us, hl with | [_, _], _ => rfl
  have Dla : Df K mg "_law_alike" sLalike ["_law_one", "_law_other"] fla _ := ⟨Fla, PySem.W.mg_of X G ala, bla⟩
  have Frf := fun_mk (st := sLrefused) lrf crf krf
  have brf := Frf.binds (ps := ["_law_box", "_law_which", "_law_chosen_here", "_law_post", "_law_word"]) fun _ _ _ _ _ _ us hl => match us, hl with | [_, _, _, _, _], _ => rfl
  have Drf : Df K mg "_law_refused" sLrefused ["_law_box", "_law_which", "_law_chosen_here", "_law_post", "_law_word"] frf _ := ⟨Frf, PySem.W.mg_of X G arf, brf⟩
  have Fto := fun_mk (st := sLtold) lto cto kto
  have bto := Fto.binds (ps := ["_law_box", "_law_rows", "_law_chosen_here", "_law_words_here"]) fun _ _ _ _ _ _ us hl => match us, hl with | [_, _, _, _], _ => rfl
  have Dto : Df K mg "_law_told" sLtold ["_law_box", "_law_rows", "_law_chosen_here", "_law_words_here"] fto _ := ⟨Fto, PySem.W.mg_of X G ato, bto⟩
  have Flaw := fun_mk (st := sLaw) llaw claw klaw
  have blaw := Flaw.binds (ps := ["_law_script"]) fun _ _ _ _ _ _ us hl => match us, hl with | [_], _ => rfl
  have C1 : Cst mg := ⟨_, Vsm⟩
  have C2 : Cm mg := ⟨⟨_, Vmw⟩, ⟨_, Vmc⟩⟩
  refine ⟨PySem.W.fnOf "law" "law" (defArgs sLaw) (defBody sLaw) (defScope sLaw) .none kVlaw dclaw pmlaw anlaw cdlaw ctlaw, fun s v => .of_eq rfl, fun base _ _ => ?_⟩
  have Tset : mg "set" = none := PySem.W.mg_none_of X G zset
  have Tdict : mg "dict" = none := PySem.W.mg_none_of X G zdict
  have Tany : mg "any" = none := PySem.W.mg_none_of X G zany
  have Gin := ok_nmA (P := l.prog) (w := w) (base := base) Din T C1
  have Gib := ok_btwA (P := l.prog) (w := w) (base := base) Dib Dii T
  have Gir := ok_rowA (P := l.prog) (w := w) (base := base) Dir T
  have Gan := ok_areNA Dan Dir Gir Din Gin T
  have Gas := ok_areSA Das Din Gin T Tdict C2
  have Gch := ok_headA Dch Din Gin Dib Gib
  have Gcc := ok_costA Dcc Dib Gib C2
  have Gio : FnOk l.prog w K mg base CX0 1 fio _ ["self", "name", "post", "cost"] (spIInit K) := ok_iinit Fio
  have GSi := ok_senI (w := w) (base := base) lkSi hcSi STSi KS mrSi suSi fnio tyio Gio bio Dch Gch Dcc Gcc Das Gas T
  have GLi := ok_lokI (w := w) (base := base) lkLi hcLi STLi KL mrLi suLi fnio tyio Gio bio Dch Gch Dcc Gcc Dan Gan T Tset C2
  have Gnm := ok_nameP (P := l.prog) (w := w) (mg := mg) (base := base) Fnm
  have Gps := ok_postP (P := l.prog) (w := w) (mg := mg) (base := base) Fps
  have Ggi := ok_goodI kI Gnm Dgi Dir Gir T Vmi
  have Gcp := ok_postA Xxp Dcp Dib Gib
  have Ggs := ok_goodS (CS := CS) (CL := CL) kB Dgs Dir Gir T
  have Gvo := ok_own (P := l.prog) (w := w) (base := base) kV Fvo T Tany
  have Gvs := ok_sightV kV Gvo Fvs Vbo
  have Gvi := ok_viewI kB kV kI Gps Fvi T Tset
  have Gbi := ok_boxI kB Fbi Dgi Ggi
  have Gbs := ok_bsight kB kV mCV MV Gvi bvi MEvs bvs Gvs Xxn Dgs Ggs Dcp Gcp Din Gin Fbs
  have Gbj := ok_bjoint kB kV mCV MV Gvi bvi MEvs bvs Gvs Xxn Dgs Ggs Din Gin Vbo Fbj
  have Gbh := ok_bholds kB kV mCV MV Gvi bvi Dgs Ggs Dcp Gcp Fbh
  have Glp : FnOk l.prog w K mg base CX0 1 flp _ ["_law_script"] (spPool K) := ok_pool Dlp T
  have Gld := ok_drawA (P := l.prog) (w := w) (base := base) Dld T
  have Glk := ok_pickA (P := l.prog) (w := w) (base := base) Dlk Dld Gld T
  have Gln := ok_nameA (P := l.prog) (w := w) (base := base) Dln Dld T
  have GlN := ok_namesA (P := l.prog) (w := w) (base := base) DlN Dln Gln T
  have Glh := ok_handA Dlh Dld Gld Dlk Glk T
  have Gpt := ok_patternA Dpt Dld Gld Dlk Glk T
  have Gag := ok_agreesA (P := l.prog) (w := w) (base := base) Dag T
  have Gsa := ok_startA (P := l.prog) (w := w) (base := base) Dsa T
  have Gwo := ok_wordsA (P := l.prog) (w := w) (base := base) Dwo T Tset
  have Gbl := ok_blamesA Dbl Dld Gld DlN GlN T
  have Ghi := ok_hidesA Dhi Dld Gld DlN GlN Dpt Gpt T
  have Gpl := ok_planA Dpl Dld Gld Dlk Glk DlN GlN Dlh Glh Dpt Gpt Dag Gag Dsa Gsa Dwo Gwo Dbl Gbl Dhi Ghi T
  have Git := ok_instrA Dit Dld Gld Dlk Glk Dln Gln DlN GlN Dwo Gwo T
  have Gkt := ok_kit Dkt kI mCB MB Gbi bbi MS GSi biS ML GLi biL T
  have Gcn := ok_chosen Dcn Dld Gld T
  have Gsi := ok_lsight (P := l.prog) (w := w) (base := base) Dsi T
  have Gso := ok_lstops (P := l.prog) (w := w) (base := base) Dso T Tset
  have Grd := ok_lreads Drd Dsi Gsi T
  have Gla : FnOk l.prog w K mg base CX0 6 fla _ ["_law_one", "_law_other"] (cSp K (spAlk 5)) := ok_alk Dla T 5
  have Grf := ok_refusedA kB BM RT Xxp Xxn Gbs Gbj Gbh Drf T
  have Gto := ok_toldA kB BM Gbs Gbj Gbh Dla Gla Dsi Gsi Drd Grd Dso Gso Dto T
  exact ok_law Flaw T Dlp Glp Dld Gld Dlk Glk Dln Gln Dpl Gpl Dit Git Dkt Gkt Dcn Gcn Dwo Gwo Dto Gto Drf Grf Dla Gla
end WW
open PySem PySem.W PyProof.Rows in
set_option maxRecDepth 100000 in
set_option maxHeartbeats 0 in
theorem PySem.Challenge.cw_watchedworks_k23_sights_of_words_holds : PySem.Challenge.rw_watchedworks_k23_sights_of_words.Holds := by
  w_on; o_law; k_head; (case hw => w_witness2)
  k_fill
  refine L2.walk_of (l := PySem.Challenge.rw_watchedworks_k23_sights_of_words) (n := 63) (k := 9) (x := "_law_script") (CX := fun _ => L2.CX0) (sp := fun w => WW.spLaw _) rfl (by decide) rfl ⟨rfl, by decide, by decide⟩ (fun w h Y => PySem.W.kIn_of Y) ?F (fun _ _ a ns hl _ hS => ⟨a, ns, rfl, hS, hl, fun _ => rfl⟩) (fun _ _ _ _ _ h => h)
  case F =>
    intro w mg fa h KX G hmg
    refine' WW.all_mk KX G hmg ?zabs ?zint ?zlen ?zmax ?zrange ?ztuple ?zlist ?zstr ?zbool ?zisinstance ?zall ?zsorted ?zenumerate ?zset ?zsuper ?zdict ?zany ?vsm ?vmw ?vmc ?vmi ?vbo ?ntop ?opq ?jb ?jc ?aCW ?aCxp ?xLxp ?saxp ?eCxp ?tCxp ?kCxp ?iCxp ?tIxp ?lkxp ?hcxp ?coxpx ?v2xp ?flxp ?cexp ?mrxp ?suxp ?bvxp ?nfxp ?gaxp ?ggxp ?hdxp ?clxp ?moxp ?kwxp ?aCxn ?xLxn ?saxn ?eCxn ?tCxn ?kCxn ?iCxn ?tIxn ?lkxn ?hcxn ?coxnx ?v2xn ?flxn ?cexn ?mrxn ?suxn ?bvxn ?nfxn ?gaxn ?ggxn ?hdxn ?clxn ?moxn ?kwxn ?uxpxp ?uxnxp ?uxnxn ?aCS ?pgS ?hdS ?poS ?saS ?nST ?nSP ?nSF ?nSS ?nSO ?jaS ?jbS ?jcS ?jdS ?mkS ?aiS ?iiS ?kcS ?lkSi ?hcSi ?coSix ?v2Si ?flSi ?ceSi ?mrSi ?suSi ?lio ?cio ?kio ?fnio ?tyio ?panm ?pbnm ?pcnm ?pdnm ?lnm ?cnm ?knm ?paps ?pbps ?pcps ?pdps ?lps ?cps ?kps ?aCL ?pgL ?hdL ?poL ?saL ?nLT ?nLP ?nLF ?nLS ?nLO ?jaL ?jbL ?jcL ?jdL ?mkL ?aiL ?iiL ?kcL ?lkLi ?hcLi ?coLix ?v2Li ?flLi ?ceLi ?mrLi ?suLi ?paLnm ?paLps ?aCI ?qSI ?qLI ?qSS ?qLS ?zI0 ?zI1 ?zI2 ?zI3 ?zI4 ?zI5 ?zI6 ?zS0 ?zS1 ?zS2 ?zS3 ?zS4 ?zS5 ?zS6 ?aCB ?pgB ?hdB ?poB ?saB ?nBS ?mkB ?aiB ?iiB ?kcB ?lbi ?cbi ?kbi ?mebs ?lbs ?cbs ?kbs ?ifbs ?mebj ?lbj ?cbj ?kbj ?ifbj ?mebh ?lbh ?cbh ?kbh ?ifbh ?aCV ?pgV ?hdV ?poV ?saV ?nVS ?nVL ?mkV ?aiV ?iiV ?kcV ?lvi ?cvi ?kvi ?mevo ?lvo ?cvo ?kvo ?ifvo ?mevs ?lvs ?cvs ?kvs ?ifvs ?aii ?lii ?cii ?kii ?aib ?lib ?cib ?kib ?ain ?lin ?cin ?kin ?air ?lir ?cir ?kir ?aan ?lan ?can ?kan ?aas ?las ?cas ?kas ?ach ?lch ?cch ?kch ?acc ?lcc ?ccc ?kcc ?acp ?lcp ?ccp ?kcp ?agi ?lgi ?cgi ?kgi ?ags ?lgs ?cgs ?kgs ?alp ?llp ?clp ?klp ?ald ?lld ?cld ?kld ?alk ?llk ?clk ?klk ?aln ?lln ?cln ?kln ?alN ?llN ?clN ?klN ?alh ?llh ?clh ?klh ?apt ?lpt ?cpt ?kpt ?aag ?lag ?cag ?kag ?asa ?lsa ?csa ?ksa ?awo ?lwo ?cwo ?kwo ?abl ?lbl ?cbl ?kbl ?ahi ?lhi ?chi ?khi ?apl ?lpl ?cpl ?kpl ?ait ?lit ?cit ?kit ?akt ?lkt ?ckt ?kkt ?acn ?lcn ?ccn ?kcn ?asi ?lsi ?csi ?ksi ?ard ?lrd ?crd ?krd ?aso ?lso ?cso ?kso ?ala ?lla ?cla ?kla ?arf ?lrf ?crf ?krf ?ato ?lto ?cto ?kto ?alaw ?llaw ?claw ?klaw
    (case zabs => k_is)
    (case zint => k_is)
    (case zlen => k_is)
    (case zmax => k_is)
    (case zrange => k_is)
    (case ztuple => k_is)
    (case zlist => k_is)
    (case zstr => k_is)
    (case zbool => k_is)
    (case zisinstance => k_is)
    (case zall => k_is)
    (case zsorted => k_is)
    (case zenumerate => k_is)
    (case zset => k_is)
    (case zsuper => k_is)
    (case zdict => k_is)
    (case zany => k_is)
    (case vsm => k_is)
    (case vmw => k_is)
    (case vmc => k_is)
    (case vmi => k_is)
    (case vbo => k_is)
    (case ntop => (first | rfl | decide +kernel))
    (case opq => k_is)
    (case jb => k_is)
    (case jc => k_is)
    (case aCW => k_is)
    (case aCxp => k_is)
    (case xLxp => k_is)
    (case saxp => k_is)
    (case eCxp => k_is)
    (case tCxp => k_is)
    (case kCxp => k_is)
    (case iCxp => k_is)
    (case tIxp => k_is)
    (case lkxp => k_is)
    (case hcxp => k_is)
    (case coxpx => k_is)
    (case v2xp => (rfl))
    (case flxp => (first | rfl | decide +kernel))
    (case cexp => k_is)
    (case mrxp => k_is)
    (case suxp => (first | ks_is | k_is))
    (case bvxp => k_is)
    (case nfxp => k_is)
    (case gaxp => k_is)
    (case ggxp => k_is)
    (case hdxp => k_is)
    (case clxp => k_is)
    (case moxp => k_is)
    (case kwxp => (first | kit_is | k_is))
    (case aCxn => k_is)
    (case xLxn => k_is)
    (case saxn => k_is)
    (case eCxn => k_is)
    (case tCxn => k_is)
    (case kCxn => k_is)
    (case iCxn => k_is)
    (case tIxn => k_is)
    (case lkxn => k_is)
    (case hcxn => k_is)
    (case coxnx => k_is)
    (case v2xn => (rfl))
    (case flxn => (first | rfl | decide +kernel))
    (case cexn => k_is)
    (case mrxn => k_is)
    (case suxn => (first | ks_is | k_is))
    (case bvxn => k_is)
    (case nfxn => k_is)
    (case gaxn => k_is)
    (case ggxn => k_is)
    (case hdxn => k_is)
    (case clxn => k_is)
    (case moxn => k_is)
    (case kwxn => (first | kit_is | k_is))
    (case uxpxp => k_is)
    (case uxnxp => k_is)
    (case uxnxn => k_is)
    (case aCS => k_is)
    (case pgS => k_is)
    (case hdS => k_is)
    (case poS => k_is)
    (case saS => k_is)
    (case nST => k_is)
    (case nSP => k_is)
    (case nSF => k_is)
    (case nSS => k_is)
    (case nSO => k_is)
    (case jaS => k_is)
    (case jbS => k_is)
    (case jcS => k_is)
    (case jdS => k_is)
    (case mkS => k_is)
    (case aiS => k_is)
    (case iiS => k_is)
    (case kcS => k_is)
    (case lkSi => k_is)
    (case hcSi => k_is)
    (case coSix => k_is)
    (case v2Si => (rfl))
    (case flSi => (first | rfl | decide +kernel))
    (case ceSi => k_is)
    (case mrSi => k_is)
    (case suSi => (first | ks_is | k_is))
    (case lio => k_is)
    (case cio => k_is)
    (case kio => k_is)
    (case fnio => k_is)
    (case tyio => k_is)
    (case panm => k_is)
    (case pbnm => k_is)
    (case pcnm => k_is)
    (case pdnm => k_is)
    (case lnm => k_is)
    (case cnm => k_is)
    (case knm => k_is)
    (case paps => k_is)
    (case pbps => k_is)
    (case pcps => k_is)
    (case pdps => k_is)
    (case lps => k_is)
    (case cps => k_is)
    (case kps => k_is)
    (case aCL => k_is)
    (case pgL => k_is)
    (case hdL => k_is)
    (case poL => k_is)
    (case saL => k_is)
    (case nLT => k_is)
    (case nLP => k_is)
    (case nLF => k_is)
    (case nLS => k_is)
    (case nLO => k_is)
    (case jaL => k_is)
    (case jbL => k_is)
    (case jcL => k_is)
    (case jdL => k_is)
    (case mkL => k_is)
    (case aiL => k_is)
    (case iiL => k_is)
    (case kcL => k_is)
    (case lkLi => k_is)
    (case hcLi => k_is)
    (case coLix => k_is)
    (case v2Li => (rfl))
    (case flLi => (first | rfl | decide +kernel))
    (case ceLi => k_is)
    (case mrLi => k_is)
    (case suLi => (first | ks_is | k_is))
    (case paLnm => k_is)
    (case paLps => k_is)
    (case aCI => k_is)
    (case qSI => (first | kit_is | k_is))
    (case qLI => (first | kit_is | k_is))
    (case qSS => (first | kit_is | k_is))
    (case qLS => (first | kit_is | k_is))
    (case zI0 => (first | kit_is | k_is))
    (case zI1 => (first | kit_is | k_is))
    (case zI2 => (first | kit_is | k_is))
    (case zI3 => (first | kit_is | k_is))
    (case zI4 => (first | kit_is | k_is))
    (case zI5 => (first | kit_is | k_is))
    (case zI6 => (first | kit_is | k_is))
    (case zS0 => (first | kit_is | k_is))
    (case zS1 => (first | kit_is | k_is))
    (case zS2 => (first | kit_is | k_is))
    (case zS3 => (first | kit_is | k_is))
    (case zS4 => (first | kit_is | k_is))
    (case zS5 => (first | kit_is | k_is))
    (case zS6 => (first | kit_is | k_is))
    (case aCB => k_is)
    (case pgB => k_is)
    (case hdB => k_is)
    (case poB => k_is)
    (case saB => k_is)
    (case nBS => k_is)
    (case mkB => k_is)
    (case aiB => k_is)
    (case iiB => k_is)
    (case kcB => k_is)
    (case lbi => k_is)
    (case cbi => k_is)
    (case kbi => k_is)
    (case mebs => k_is)
    (case lbs => k_is)
    (case cbs => k_is)
    (case kbs => k_is)
    (case ifbs => k_is)
    (case mebj => k_is)
    (case lbj => k_is)
    (case cbj => k_is)
    (case kbj => k_is)
    (case ifbj => k_is)
    (case mebh => k_is)
    (case lbh => k_is)
    (case cbh => k_is)
    (case kbh => k_is)
    (case ifbh => k_is)
    (case aCV => k_is)
    (case pgV => k_is)
    (case hdV => k_is)
    (case poV => k_is)
    (case saV => k_is)
    (case nVS => k_is)
    (case nVL => k_is)
    (case mkV => k_is)
    (case aiV => k_is)
    (case iiV => k_is)
    (case kcV => k_is)
    (case lvi => k_is)
    (case cvi => k_is)
    (case kvi => k_is)
    (case mevo => k_is)
    (case lvo => k_is)
    (case cvo => k_is)
    (case kvo => k_is)
    (case ifvo => k_is)
    (case mevs => k_is)
    (case lvs => k_is)
    (case cvs => k_is)
    (case kvs => k_is)
    (case ifvs => k_is)
    (case aii => k_is)
    (case lii => k_is)
    (case cii => k_is)
    (case kii => k_is)
    (case aib => k_is)
    (case lib => k_is)
    (case cib => k_is)
    (case kib => k_is)
    (case ain => k_is)
    (case lin => k_is)
    (case cin => k_is)
    (case kin => k_is)
    (case air => k_is)
    (case lir => k_is)
    (case cir => k_is)
    (case kir => k_is)
    (case aan => k_is)
    (case lan => k_is)
    (case can => k_is)
    (case kan => k_is)
    (case aas => k_is)
    (case las => k_is)
    (case cas => k_is)
    (case kas => k_is)
    (case ach => k_is)
    (case lch => k_is)
    (case cch => k_is)
    (case kch => k_is)
    (case acc => k_is)
    (case lcc => k_is)
    (case ccc => k_is)
    (case kcc => k_is)
    (case acp => k_is)
    (case lcp => k_is)
    (case ccp => k_is)
    (case kcp => k_is)
    (case agi => k_is)
    (case lgi => k_is)
    (case cgi => k_is)
    (case kgi => k_is)
    (case ags => k_is)
    (case lgs => k_is)
    (case cgs => k_is)
    (case kgs => k_is)
    (case alp => k_is)
    (case llp => k_is)
    (case clp => k_is)
    (case klp => k_is)
    (case ald => k_is)
    (case lld => k_is)
    (case cld => k_is)
    (case kld => k_is)
    (case alk => k_is)
    (case llk => k_is)
    (case clk => k_is)
    (case klk => k_is)
    (case aln => k_is)
    (case lln => k_is)
    (case cln => k_is)
    (case kln => k_is)
    (case alN => k_is)
    (case llN => k_is)
    (case clN => k_is)
    (case klN => k_is)
    (case alh => k_is)
    (case llh => k_is)
    (case clh => k_is)
    (case klh => k_is)
    (case apt => k_is)
    (case lpt => k_is)
    (case cpt => k_is)
    (case kpt => k_is)
    (case aag => k_is)
    (case lag => k_is)
    (case cag => k_is)
    (case kag => k_is)
    (case asa => k_is)
    (case lsa => k_is)
    (case csa => k_is)
    (case ksa => k_is)
    (case awo => k_is)
    (case lwo => k_is)
    (case cwo => k_is)
    (case kwo => k_is)
    (case abl => k_is)
    (case lbl => k_is)
    (case cbl => k_is)
    (case kbl => k_is)
    (case ahi => k_is)
    (case lhi => k_is)
    (case chi => k_is)
    (case khi => k_is)
    (case apl => k_is)
    (case lpl => k_is)
    (case cpl => k_is)
    (case kpl => k_is)
    (case ait => k_is)
    (case lit => k_is)
    (case cit => k_is)
    (case kit => k_is)
    (case akt => k_is)
    (case lkt => k_is)
    (case ckt => k_is)
    (case kkt => k_is)
    (case acn => k_is)
    (case lcn => k_is)
    (case ccn => k_is)
    (case kcn => k_is)
    (case asi => k_is)
    (case lsi => k_is)
    (case csi => k_is)
    (case ksi => k_is)
    (case ard => k_is)
    (case lrd => k_is)
    (case crd => k_is)
    (case krd => k_is)
    (case aso => k_is)
    (case lso => k_is)
    (case cso => k_is)
    (case kso => k_is)
    (case ala => k_is)
    (case lla => k_is)
    (case cla => k_is)
    (case kla => k_is)
    (case arf => k_is)
    (case lrf => k_is)
    (case crf => k_is)
    (case krf => k_is)
    (case ato => k_is)
    (case lto => k_is)
    (case cto => k_is)
    (case kto => k_is)
    (case alaw => k_is)
    (case llaw => k_is)
    (case claw => k_is)
    (case klaw => k_is)

