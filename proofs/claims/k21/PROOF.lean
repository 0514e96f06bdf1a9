import PyProof.Rows.All
import Wide.All
import OpenK.AllK
import Wide.FinOn
import HandS.ForMost
import HandS.Style
import HandS.Deep
import HandS.IsInst
import HandS.Property
import HandS.OwnEq
import HandS.Codes
import KE.SortData
import KE.GoesSet
import KE.KExcSuper
import HandS.Nested
import HandS.ClsMeth
import HandS.ExcInit
import HandS.WordsExc
import HandS.ExcField
import HandS.ExcIs
import HandS.TryMany
import KE.KExcIs
import KE.KStateDown
import HandS.Head0
import HandS.Head1
import HandS.Head2
import HandS.HeadEnd
import HandS.HeadHook1
import HandS.HeadHook2
import OpenK.KMeth
import HandS.Dict
import HandS.Iter
import HandS.TupLen
import PyProof.Rows.TupDisplay
import KE.KeyNested
import KE.KDictKeyed
import HandS.Walk
import KE.GoesMore
import HandS.Set
import HandS.SetBool
import HandS.TupSets
import KE.OsSortAny
import HandS.DictEq
import HandS.DictComp
import HandS.ListItems
import HandS.WordsDict
import KE.KDictCopyH
import KE.KDictDisplayH
import HandS.Steps
import HandS.Conv
import HandS.Flow
import HandS.DictTup
import KE.KDictWalk
import HandS.MakeKwOnly
import KE.KOpsOwn
import KE.KDictList
import HandS.List
import HandS.TupAny
import PySem.Challenge.RW_watchedworks_k21_kits_of_instruments
set_option Elab.async false
set_option linter.all false
set_option maxRecDepth 100000
set_option maxHeartbeats 4000000
namespace WW
open PySem PySem.Spec PyProof.Rows L2
section
structure Df (K : PySem.W.Frag) (mg : Str → Option Value) (x : Str) (st : Stmt) (ps : List Str) (f : Addr) (fd : FuncData) : Prop where
 fn : Fun K x x st f fd
 gl : mg x = some (.ref f)
 bi : Binds K fd ps []
section
variable {X : Cx} {k : Nat} {x : Str} {st : Stmt} {ps : List Str} {f : Addr} {fd : FuncData} {sp : Sp} {e : Expr} {es : List Expr} {p pos : Pos} {t : TA}
theorem pe_df (D : Df X.K X.mg x st ps f fd) (F : FnOk X.prog X.w X.K X.mg X.base CX0 k f fd ps sp) (hr : Room k X.A) (ha : PA X (e :: es) t) (hg : Gl X x := by rfl)
  (hdb : (x == ("__debug__" : Str)) = false := by decide) (he : starEach (e :: es) X.env = (false, eval e X.env) :: starEach es X.env := by rfl) (hpl : (backTo pos (starEach es X.env)).any (·.1) = false := by rfl) :
  PE X (.Call (.Name x p) (e :: es) [] pos) (tCall sp [] E0 t) :=
 pe_call F hr hg D.gl D.fn.kp D.bi .nil pass0 ha hdb he hpl
end
theorem hu65 {A : Around} {k : Nat} (hr : Room k A) : A.units + 65 < cLine := by
 have := hr.un
 omega
theorem Same.seqT {K : PySem.W.Frag} {H H' : Hp} {a : Addr} {xs : List V} (e : Same H H') (h : SqT K H a xs) : SqT K H' a xs := by
 rcases h with (h | ⟨o, h⟩) | h
 ·exact .inl (.inl (e _ _ h))
 ·exact .inl (.inr ⟨o, e _ _ h⟩)
 ·exact .inr h
mutual
theorem dp_mono {K : PySem.W.Frag} {S H : Hp} (e : Same S H) : ∀ (d : PyData) {v : V}, Dp K S v d → Dp K H v d
 | .none, _, h => by cases h; exact .non
 | .bool b, _, h => by cases h; exact .bl b
 | .int i, _, h => by cases h; exact .int i
 | .str x, _, h => by cases h; exact .str x
 | .list ds, _, h => by
  cases h with
  | lst a b => exact .lst (e.seq a) (dpAll_mono e ds b)
 | .tuple ds, _, h => by
  cases h with
  | tup a b => exact .tup (Same.seqT e a) (dpAll_mono e ds b)
 | .dict _, _, h => by cases h
theorem dpAll_mono {K : PySem.W.Frag} {S H : Hp} (e : Same S H) : ∀ (ds : List PyData) {vs : List V}, DpAll K S vs ds → DpAll K H vs ds
 | [], _, h => by cases h; exact .nil
 | d :: ds, _, h => by
  cases h with
  | cons a b => exact .cons (dp_mono e d a) (dpAll_mono e ds b)
end
theorem Dp.mono {K : PySem.W.Frag} {S H : Hp} {d : PyData} {v : V} (e : Same S H) (h : Dp K S v d) : Dp K H v d := dp_mono e d h
theorem DpAll.mono {K : PySem.W.Frag} {S H : Hp} {ds : List PyData} {vs : List V} (e : Same S H) (h : DpAll K S vs ds) : DpAll K H vs ds := dpAll_mono e ds h
theorem same_upd {H : Hp} {p : Addr} {o : HO} (h : H p = none) : Same H (upd H p o) := fun b x e => by
 rw [upd_ne (ne_of_none e h)]
 exact e
/-- no tuple -/
def Nt (H : Hp) (a : Addr) : Prop := ∀ xs, H a ≠ some (.tup xs)
theorem Nt.of {H : Hp} {a : Addr} {u : HO} (h : H a = some u) (t : ∀ xs, u ≠ .tup xs := by intro _ z; cases z) : Nt H a := fun xs e => t xs (by rw [h] at e; exact Option.some.inj e)
theorem Nt.same {H H2 : Hp} {b : Addr} (h : Nt H b) (n : H b ≠ none) (s : Same H H2) : Nt H2 b := by
 cases q : H b with
 | none => exact absurd q n
 | some u => exact Nt.of (s _ _ q) fun xs e => h xs (by rw [q, e])
theorem Nt.upd {H : Hp} {a b : Addr} {u : HO} (h : Nt H b) (n : b ≠ a) : Nt (upd H a u) b := fun xs e => h xs (by rw [upd_ne n] at e; exact e)
/-- from (S, H) to (S', H'): the stable part grows by new objects alone, all but p stand as they stood -/
structure Gr (p : Addr) (S H S' H' : Hp) : Prop where
 st : Same S S'
 rs : ∀ a o, a ≠ p → H a = some o → H' a = some o
 fr : ∀ a, S a = none → H a ≠ none → Nt H a → S' a = none ∧ Nt H' a
 ex : ∀ a, H a ≠ none → H' a ≠ none
theorem Gr.refl {p : Addr} {S H : Hp} : Gr p S H S H := ⟨Same.refl _, fun _ _ _ h => h, fun _ h _ n => ⟨h, n⟩, fun _ h => h⟩
theorem Gr.trans {p : Addr} {S H S1 H1 S2 H2 : Hp} (a : Gr p S H S1 H1) (b : Gr p S1 H1 S2 H2) : Gr p S H S2 H2 :=
 ⟨a.st.trans b.st, fun c o n h => b.rs c o n (a.rs c o n h), fun c h1 h2 n => let q := a.fr c h1 h2 n; b.fr c q.1 (a.ex c h2) q.2, fun c h => b.ex c (a.ex c h)⟩
theorem Gr.bk {p : Addr} {S H S' H' : Hp} (g : Gr p S H S' H') {a : Addr} (h : H' a = none) : H a = none := by
 cases q : H a with
 | none => rfl
 | some o => exact absurd h (g.ex a (by rw [q]; intro z; cases z))
theorem Gr.loc {p : Addr} {S H S' H' : Hp} (g : Gr p S H S' H') {a : Addr} {o : HO} (n : a ≠ p) (hs : S a = none) (h : H a = some o) (t : ∀ xs, o ≠ .tup xs := by intro _ z; cases z) : S' a = none ∧ H' a = some o :=
 ⟨(g.fr a hs (by rw [h]; intro z; cases z) (Nt.of h t)).1, g.rs a o n h⟩
/-- a new object, stable -/
theorem Gr.new {p : Addr} {S H S' H' : Hp} (g : Gr p S H S' H') (w : Same S' H') {a : Addr} {o : HO} (n : H' a = none) : Gr p S H (upd S' a o) (upd H' a o) := by
 have hs : S' a = none := w.free n
 refine ⟨g.st.trans (same_upd hs), fun b u nb h => ?_, fun b h1 h2 ht => ?_, fun b h => ?_⟩
 ·have nba : b ≠ a := fun q => by
   rw [q] at h
   rw [g.bk n] at h
   cases h
  rw [upd_ne nba]
  exact g.rs b u nb h
 ·have nba : b ≠ a := fun q => by
   rw [q] at h2
   exact h2 (g.bk n)
  rw [upd_ne nba]
  exact ⟨(g.fr b h1 h2 ht).1, (g.fr b h1 h2 ht).2.upd nba⟩
 ·by_cases q : b = a
  ·rw [q, upd_same]
   intro z
   cases z
  ·rw [upd_ne q]
   exact g.ex b h
theorem same_new {S H : Hp} (w : Same S H) {a : Addr} {o : HO} : Same (upd S a o) (upd H a o) := fun b u h => by
 by_cases q : b = a
 ·rw [q, upd_same] at h
  rw [q, upd_same]
  exact h
 ·rw [upd_ne q] at h
  rw [upd_ne q]
  exact w b u h
/-- a new object, or one that was new and is not stable yet, is written -/
theorem Gr.put {p : Addr} {S H S' H' : Hp} (g : Gr p S H S' H') {a : Addr} {o : HO} (n : H a = none) : Gr p S H S' (upd H' a o) := by
 refine ⟨g.st, fun b u nb h => ?_, fun b h1 h2 ht => ⟨(g.fr b h1 h2 ht).1, (g.fr b h1 h2 ht).2.upd fun q => h2 (by rw [q]; exact n)⟩, fun b h => ?_⟩
 ·have nba : b ≠ a := fun q => by
   rw [q, n] at h
   cases h
  rw [upd_ne nba]
  exact g.rs b u nb h
 ·by_cases q : b = a
  ·rw [q, upd_same]
   intro z
   cases z
  ·rw [upd_ne q]
   exact g.ex b h
/-- .. p itself is written -/
theorem Gr.putP {p : Addr} {S H S' H' : Hp} (g : Gr p S H S' H') {o : HO} (t : ∀ xs, o ≠ .tup xs := by intro _ z; cases z) : Gr p S H S' (upd H' p o) := by
 refine ⟨g.st, fun b u nb h => ?_, fun b h1 h2 ht => ⟨(g.fr b h1 h2 ht).1, by
  by_cases q : b = p
  ·rw [q]
   exact Nt.of upd_same t
  ·exact (g.fr b h1 h2 ht).2.upd q⟩, fun b h => ?_⟩
 ·rw [upd_ne nb]
  exact g.rs b u nb h
 ·by_cases q : b = p
  ·rw [q, upd_same]
   intro z
   cases z
  ·rw [upd_ne q]
   exact g.ex b h
theorem same_put {S H : Hp} (w : Same S H) {a : Addr} {o : HO} (n : S a = none) : Same S (upd H a o) := fun b u h => by
 rw [upd_ne (ne_of_none h n)]
 exact w b u h
/-- what was new and stands there becomes stable -/
theorem Gr.fix {p : Addr} {S H S' H' : Hp} (g : Gr p S H S' H') {a : Addr} {o : HO} (n : H a = none) (h : S' a = none) : Gr p S H (upd S' a o) H' := by
 refine ⟨g.st.trans (same_upd h), g.rs, fun b h1 h2 ht => ?_, g.ex⟩
 have nba : b ≠ a := fun q => by
  rw [q] at h2
  exact h2 n
 rw [upd_ne nba]
 exact g.fr b h1 h2 ht
theorem same_fix {S H : Hp} (w : Same S H) {a : Addr} {o : HO} (h : H a = some o) : Same (upd S a o) H := fun b u e => by
 by_cases q : b = a
 ·rw [q, upd_same] at e
  rw [q, h]
  exact e
 ·rw [upd_ne q] at e
  exact w b u e
theorem cut_from (xs : List V) (i : Nat) : cutV xs (some (i : Int)) none = xs.drop i := by
 unfold cutV
 rw [HT.sIx_nat, HT.sIx_none]
 by_cases h : i ≤ xs.length
 ·rw [Nat.min_eq_left h]
  exact List.take_of_length_le (by rw [List.length_drop]; exact Nat.le_refl _)
 ·rw [Nat.min_eq_right (by omega), List.drop_of_length_le (Nat.le_refl _), List.drop_of_length_le (by omega)]
  simp
theorem cut_to (xs : List V) (i : Nat) : cutV xs none (some (i : Int)) = xs.take i := by
 unfold cutV
 rw [HT.sIx_nat, HT.sIx_none]
 show (xs.drop 0).take (min i xs.length - 0) = xs.take i
 rw [List.drop_zero, Nat.sub_zero]
 by_cases h : i ≤ xs.length
 ·rw [Nat.min_eq_left h]
 ·rw [Nat.min_eq_right (by omega), List.take_of_length_le (Nat.le_refl _), List.take_of_length_le (by omega)]
theorem cutS_to (z : Str) (i : Nat) : cutS z none (some (i : Int)) = ⟨(z.cps.toList.take i).toArray⟩ := by
 unfold cutS
 rw [HT.sIx_nat, HT.sIx_none]
 show (⟨((z.cps.toList.drop 0).take (min i z.length - 0)).toArray⟩ : Str) = _
 rw [List.drop_zero, Nat.sub_zero]
 have hl : z.length = z.cps.toList.length := by simp [Str.length]
 by_cases h : i ≤ z.length
 ·rw [Nat.min_eq_left h]
 ·rw [Nat.min_eq_right (by omega), List.take_of_length_le (by omega), List.take_of_length_le (by omega)]
theorem ixN_at {n : Nat} {k : Int} (j : Nat) (e : k = (j : Int)) (h : j < n) : ixN n k = some j := by
 subst e
 unfold ixN
 rw [if_pos (by omega), if_pos (by omega)]
 simp
theorem fm_take {α β : Type} (f : α → Option β) : ∀ (xs : List α) (i : Nat) (x : α), xs[i]? = some x → (xs.take (i + 1)).filterMap f = (xs.take i).filterMap f ++ (match f x with | some y => [y] | none => [])
 | [], _, _, h => by simp at h
 | a :: r, 0, x, h => by
  have e : a = x := Option.some.inj h
  subst e
  simp only [List.take_succ_cons, List.take_zero, List.filterMap_cons, List.filterMap_nil]
  cases f a <;> rfl
 | a :: r, i + 1, x, h => by
  have ih := fm_take f r i x h
  simp only [List.take_succ_cons, List.filterMap_cons]
  cases f a with
  | none => exact ih
  | some y =>
   show y :: (r.take (i + 1)).filterMap f = _
   rw [ih]
   rfl
theorem lc_step {j : Nat} {tt : TT} {te : TE} {vs : List Nat} {σ : L2.St} {H1 : Hp} {D : Addr} (f : V → Option V) (xs : List V) (hlen : xs.length ≤ 1000)
  (hw : ∀ x, wipe ((wipe σ vs).set j (some x)) vs = wipe σ vs)
  (step : ∀ x H, x ∈ xs → Same H1 H → ∀ Q : Option V → Hp → Prop, (∀ H', Same H H' → Q (f x) H') → tt ((wipe σ vs).set j (some x)) H fun b H3 => if b = true then te ((wipe σ vs).set j (some x)) H3 (fun y H4 => Q (some y) H4) else Q none H3)
  (hD : H1 D = none) (i : Nat) (x : V) (H : Hp) (hi : xs[i]? = some x) (hp : Same H1 H ∧ H D = some (.lst ((xs.take i).filterMap f))) :
  gName j x (wipe σ vs) H fun σ2 H2 => wipe σ2 vs = wipe σ vs ∧ tt σ2 H2 fun b H3 =>
   if b = true then te σ2 H3 fun y H4 => ∃ acc, H4 D = some (.lst acc) ∧ acc.length < sizeLine ∧ (Same H1 (upd H4 D (.lst (acc ++ [y]))) ∧ upd H4 D (.lst (acc ++ [y])) D = some (.lst ((xs.take (i + 1)).filterMap f))) else (Same H1 H3 ∧ H3 D = some (.lst ((xs.take (i + 1)).filterMap f))) := by
 have hx : x ∈ xs := List.mem_of_getElem? hi
 refine ⟨hw x, ?_⟩
 refine step x H hx hp.1 (fun o H4 => match o with
  | some y => ∃ acc, H4 D = some (.lst acc) ∧ acc.length < sizeLine ∧ (Same H1 (upd H4 D (.lst (acc ++ [y]))) ∧ upd H4 D (.lst (acc ++ [y])) D = some (.lst ((xs.take (i + 1)).filterMap f)))
  | none => (Same H1 H4 ∧ H4 D = some (.lst ((xs.take (i + 1)).filterMap f)))) fun H' s => ?_
 have hd := s _ _ hp.2
 have e := fm_take f xs i x hi
 cases q : f x with
 | none =>
  rw [q] at e
  exact ⟨hp.1.trans s, by rw [hd, e, List.append_nil]⟩
 | some y =>
  rw [q] at e
  refine ⟨_, hd, ?_, fun b o h => ?_, by rw [upd_same, e]⟩
  ·have h1 : ((xs.take i).filterMap f).length ≤ (xs.take i).length := List.length_filterMap_le _ _
   have h2 : (xs.take i).length ≤ xs.length := by rw [List.length_take]; omega
   exact small1000 (by omega)
  ·rw [upd_ne (ne_of_none h hD)]
   exact s _ _ (hp.1 _ _ h)
theorem lc_pure {K : PySem.W.Frag} {a : Addr} {xs : List V} {j : Nat} {tt : TT} {te : TE} {vs : List Nat} {σ : L2.St} {H1 : Hp} {D : Addr} {Qd : Hp → Prop} (f : V → Option V) (hx : SqL K H1 a xs) (hlen : xs.length ≤ 1000)
  (hw : ∀ x, wipe ((wipe σ vs).set j (some x)) vs = wipe σ vs)
  (step : ∀ x H, x ∈ xs → Same H1 H → ∀ Q : Option V → Hp → Prop, (∀ H', Same H H' → Q (f x) H') → tt ((wipe σ vs).set j (some x)) H fun b H3 => if b = true then te ((wipe σ vs).set j (some x)) H3 (fun y H4 => Q (some y) H4) else Q none H3)
  (hD : H1 D = none) (hd : ∀ H, Same H1 H → H D = some (.lst (xs.filterMap f)) → Qd H) :
  ∃ W : Nat → Nat → Hp → Prop, (∃ m, W 0 m (upd H1 D (.lst []))) ∧ ∀ i m H, W i m H →
   ((Itl K a).stop i H ∧ Qd H) ∨ ((Itl K a).go i H ∧ ∃ Nx : Hp → Prop, (∀ H', Nx H' → ∃ m', m' < m ∧ W (i + 1) m' H') ∧ ∀ x H', (Itl K a).yld i H x H' → gName j x (wipe σ vs) H' fun σ2 H2 => wipe σ2 vs = wipe σ vs ∧ tt σ2 H2 fun b H3 =>
    if b = true then te σ2 H3 fun y H4 => ∃ acc, H4 D = some (.lst acc) ∧ acc.length < sizeLine ∧ Nx (upd H4 D (.lst (acc ++ [y]))) else Nx H3) :=
 lc_list (K := K) (a := a) (xs := xs) (fun i H => Same H1 H ∧ H D = some (.lst ((xs.take i).filterMap f))) ⟨same_upd hD, upd_same⟩ (fun i H _ h => h.1.seq hx) (fun i x H hi hp => lc_step f xs hlen hw step hD i x H hi hp)
  (fun H h => hd H h.1 (by have := h.2; rw [List.take_length] at this; exact this))
/-- .. over a text -/
def signs (z : Str) : List V := z.cps.toList.map fun c => V.str ⟨#[c]⟩
theorem lc_pureS {x : Str} {j : Nat} {tt : TT} {te : TE} {vs : List Nat} {σ : L2.St} {H1 : Hp} {D : Addr} {Qd : Hp → Prop} (f : V → Option V) (hlen : x.length ≤ 1000)
  (hw : ∀ x, wipe ((wipe σ vs).set j (some x)) vs = wipe σ vs)
  (step : ∀ y H, y ∈ signs x → Same H1 H → ∀ Q : Option V → Hp → Prop, (∀ H', Same H H' → Q (f y) H') → tt ((wipe σ vs).set j (some y)) H fun b H3 => if b = true then te ((wipe σ vs).set j (some y)) H3 (fun y H4 => Q (some y) H4) else Q none H3)
  (hD : H1 D = none) (hd : ∀ H, Same H1 H → H D = some (.lst ((signs x).filterMap f)) → Qd H) :
  ∃ W : Nat → Nat → Hp → Prop, (∃ m, W 0 m (upd H1 D (.lst []))) ∧ ∀ i m H, W i m H →
   ((Its x).stop i H ∧ Qd H) ∨ ((Its x).go i H ∧ ∃ Nx : Hp → Prop, (∀ H', Nx H' → ∃ m', m' < m ∧ W (i + 1) m' H') ∧ ∀ y H', (Its x).yld i H y H' → gName j y (wipe σ vs) H' fun σ2 H2 => wipe σ2 vs = wipe σ vs ∧ tt σ2 H2 fun b H3 =>
    if b = true then te σ2 H3 fun y H4 => ∃ acc, H4 D = some (.lst acc) ∧ acc.length < sizeLine ∧ Nx (upd H4 D (.lst (acc ++ [y]))) else Nx H3) := by
 have hsz : x.cps.size = (signs x).length := by simp [signs]
 have hl2 : (signs x).length ≤ 1000 := by rw [← hsz]; exact hlen
 refine ⟨fun i m H => m = x.cps.size - i ∧ i ≤ x.cps.size ∧ Same H1 H ∧ H D = some (.lst (((signs x).take i).filterMap f)), ⟨_, rfl, Nat.zero_le _, same_upd hD, upd_same⟩, ?_⟩
 rintro i m H ⟨rfl, hi, hs, he⟩
 by_cases h : i < x.cps.size
 ·refine .inr ⟨h, fun H => Same H1 H ∧ H D = some (.lst (((signs x).take (i + 1)).filterMap f)), fun H' h' => ⟨_, by omega, rfl, by omega, h'⟩, ?_⟩
  rintro y H' ⟨rfl, c, hc, rfl⟩
  refine lc_step f (signs x) hl2 hw step hD i _ H' ?_ ⟨hs, he⟩
  unfold signs
  rw [List.getElem?_map, Array.getElem?_toList, hc]
  rfl
 ·refine .inl ⟨by show x.cps.size ≤ i; omega, hd H hs ?_⟩
  rw [he, List.take_of_length_le (by omega)]
theorem at_ofG {α : Type} {xs : List α} {z : Int} {j : Nat} {v : α} (e : z = (j : Int)) (h : xs[j]? = some v) : atI xs z = some v := by
 rw [e]
 exact atI_nat h
theorem Gr.same {p : Addr} {S H S' H' H2 : Hp} (g : Gr p S H S' H') (s : Same H' H2) : Gr p S H S' H2 :=
 ⟨g.st, fun a o n h => s _ _ (g.rs a o n h), fun a h1 h2 ht => let q := g.fr a h1 h2 ht; ⟨q.1, q.2.same (g.ex a h2) s⟩, fun a h => by
  have := g.ex a h
  cases q : H' a with
  | none => exact absurd q this
  | some o =>
   rw [s _ _ q]
   intro z
   cases z⟩
end
section
/-- a body whose own code is known -/
structure PAt (X : Cx) (c : Code) (ss : List Stmt) (t : TS) : Prop where
 run : ∀ (pins : List (Addr × Obj)) (s : Shared) (σ : L2.St) (H : Hp) (D : Ends), Inv X pins σ H s → t D σ H → PySem.wpAt (model X.prog X.w) X.A c (execs ss X.env) (SP X pins D) X.xe s
section
variable {X : Cx} {c : Code} {st : Stmt} {ss : List Stmt} {t u : TS}
theorem pat_of (h : PSs X ss t) : PAt X c ss t := ⟨fun pins s σ H D I q => PySem.wpAt_of_wpAny (h.run pins s σ H D I q)⟩
theorem pat_cons (h : PS X st t) (r : PAt X c ss u) : PAt X c (st :: ss) (tSeq t u) := by
 refine ⟨fun pins s σ H D I q => ?_⟩
 refine PySem.ks_wpAt_execs_cons (PySem.wpAt_of_wpAny (thn (h.run pins s σ H { D with nx := u D } I q) fun f s1 q1 => ?_))
 cases f with
 | next =>
  obtain ⟨σ1, H1, I1, q2⟩ := q1
  exact r.run pins s1 σ1 H1 D I1 q2
 | ret v => exact q1
 | brk => exact q1
 | cont => exact q1
end
/-- what the text says where super() stands in a def at f, its code object at cda, the cell of its class D at cc -/
structure SupTxt (P : Program) (K : PySem.W.Frag) (mg : Str → Option Value) (f cda cc D : Addr) : Prop where
 fn : ∃ oc od fd osl ar, K.lookup f = some ⟨oc, od, .func fd, osl⟩ ∧ (fd.params.posonlyargs ++ fd.params.args).head? = some ar ∧ ar.arg = "self"
 code : ∃ ccl cdd vs ccs file tf, K.lookup cda = some ⟨ccl, cdd, .fields vs, ccs⟩ ∧ vs[2]? = some (.str file tf) ∧ ((P.main.file : Str) == file) = true
 cell : ∃ cl cld csl, K.lookup cc = some ⟨cl, cld, .cell (some (.ref D)), csl⟩
 dcl : ∃ cdD, PySem.W.clsIn K D = some cdD
 nosup : mg "super" = none
 top : (P.main.scope.names.lookup ("super" : Str)).isSome = false
 opq : PySem.W.nsIn K cStatics "thirdparty.any" = some none
/-- what the context of such a body has -/
structure SupX (X : Cx) (f cda cc : Addr) : Prop where
 func : X.env.func = some f
 code : X.env.code = .ref cda
 cell : X.env.cells.lookup ("__class__" : Str) = some cc
 ks : X.env.kindOf "super" = some .globalImplicit
 kc : X.env.kindOf "__class__" = some .free
 ka : X.env.kindOf "self" = some .local
 n0 : X.N[0]? = some ("self" : Str)
theorem boot_super : bootBuiltins "super" = some (.type "super") := by decide +kernel
section
variable {X : Cx} {pins : List (Addr × Obj)} {σ : L2.St} {H : Hp} {s : Shared} {f cda cc D C x : Addr}
theorem sup_node {body : List Stmt} {p0 p1 : Pos} {attr : Str} {whole : Sem Value} {ox : Obj} {odx : Option Obj} {Q : Value → Shared → Prop} {E : Value → Shared → Prop} (T : SupTxt X.prog X.K X.mg f cda cc D) (S : SupX X f cda cc) (I : Inv X pins σ H s) (h0 : σ[0]? = some (some (.ref x))) (J : PySem.W.InstAt s.heap x ox C odx)
  (hsub : PySem.W.mroIn X.K C (.ref D) = some true) (hat : (attr == ("__class__" : Str)) = false)
  (h : ∀ so s', Inv X ((so, PySem.W.ks_superObj D x C) :: pins) σ H s' → (∀ b o, s.heap.get? b = some o → s'.heap.get? b = some o) → Q (.ref so) s') :
  PySem.wpAt (model X.prog X.w) X.A (.func body X.env) (attributeBase (.Call (.Name "super" p0) [] [] p1) attr X.env whole) Q E s := by
 obtain ⟨oc, od, fd, osl, ar, hf, hp, har⟩ := T.fn
 obtain ⟨ccl, cdd, vs, ccs, file, tf, hco, hvs, hfile⟩ := T.code
 obtain ⟨cl, cld, csl, hcell⟩ := T.cell
 obtain ⟨cdD, hD⟩ := T.dcl
 have KX := I.kIn
 obtain ⟨oD, hD1, hD2⟩ : ∃ oD, s.heap.get? D = some oD ∧ oD.data = .cls cdD := by
  unfold PySem.W.clsIn at hD
  split at hD
  ·rename_i c d cd' sl ho
   cases hD
   exact ⟨_, KX _ _ ho, rfl⟩
  ·cases hD
 refine PySem.ks_wpAt_super_base (env := X.env) S.ks S.kc hat S.func (KX _ _ hf) rfl hp S.code (KX _ _ hco) rfl hvs hfile T.top ?_
 obtain ⟨mb, h1, h2⟩ := I.mod.blt
 refine PySem.W.ks_loadName_global I.ok.kind S.ks (Calls.loadGlobal_builtin (by rw [I.ok.glob]; exact I.mod.glob.keeps I.bk) T.nosup (by rw [I.ok.blt]; exact h1.keeps I.bk) ((h2 _ (by decide)).trans boot_super) ⟨rfl, ?_⟩)
 refine wpAny_loadName_free I.ok.kind S.kc S.cell ⟨_, KX _ _ hcell, rfl⟩ ?_
 rw [har]
 obtain ⟨m, hn, hl⟩ := I.loc
 obtain ⟨u, hu, lk⟩ := hl 0 "self" (.ref x) S.n0 h0 (.inl S.ka)
 obtain rfl : u = Value.ref x := hu
 have hm : m "self" = some (.ref x) := by
  rcases lk with ⟨_, e⟩ | ⟨e, _⟩
  ·exact e
  ·rw [S.ka] at e
   rcases e with e | e <;> cases e
 refine wpAny_loadName_local I.ok.kind S.ka hn hm ?_
 refine PySem.ks_wpAny_isType_cls hD1 hD2 ⟨rfl, ?_⟩
 obtain ⟨hh, g, d, tk, os⟩ := s
 refine PySem.ks_wpAny_call_super hD1 hD2 J.at_ J.cls (fun c e => ?_) (PySem.W.looks_mroIn KX hsub) (fun h' e k => ?_)
 ·have := J.no
  unfold PySem.W.notCls at this
  rw [e] at this
  exact Bool.noConfusion this
 ·exact h _ _ (ClX.pin_new (t' := tk) I k (Nat.le_refl _) e (fun v z => by cases z)) k
end
section
variable {X : Cx} {pins : List (Addr × Obj)} {σ : L2.St} {H : Hp} {s : Shared} {f cda cc C a u : Addr} {A : Around} {E : Value → Shared → Prop}
theorem call_mw {us : List Value} {Q : Value → Shared → Prop} (T : OexC X.K C) (I : Inv X pins σ H s) (hu : s.heap.get? u = some (PySem.W.kxs_mw "ValueError.__init__" a)) (e : H a = some (exo a C none)) (hl : us.length ≤ sizeLine) (h : ∀ s', Inv X pins σ H s' → Q .none s') :
  wpAny (model X.prog X.w) A (call (.ref u) us) Q E s := by
 obtain ⟨nm, q, N, bs, bm, sn, sub, ab, col, dd, k0, k1, k2, k3, k5, hC, hbm⟩ := T.cls
 obtain ⟨t1, ho⟩ := exo_at I.hok e
 have hCC := I.kIn _ _ hC
 obtain ⟨hp, g, d, tk, os⟩ := s
 have FB := F.excBase_ValueError
 refine wpAny_call (codeAny_of_tree ?_)
 show wpAny _ A.in1 (callAny (.ref u) ⟨us, []⟩) _ _ _
 simp only [callAny]
 refine wpAny_bind (wpAny_load hu ?_)
 simp only [PySem.W.kxs_mw, show (Value.type "method-wrapper" == Value.type "method" || Value.type "method-wrapper" == Value.type "builtin_function_or_method" || Value.type "method-wrapper" == Value.type "method-wrapper") = true by decide, if_true]
 refine PySem.W.KFB.if_so (by decide) ?_
 refine wpAny_bind (PySem.W.check_bound_init FB.toExcCallFacts hCC ho rfl ?_)
 refine wpAny_bind (wpAny_pure (wpAny_pure ?_))
 refine ⟨plainId_quiet FB.init.plain _, codeAny_builtin FB.initEntry ?_⟩
 refine PySem.W.exc_init_tree (cls := .ref C) (t0 := t1) (dv := none) (c2 := .none) (c3 := .none) (b4 := .bool false) ho hl (fun h' k hx _ => ?_)
 have J := I.write (t' := tk) (x := a) (e := a) (o := exo a C none) (by rw [e]; exact True.intro) (.inl rfl) k ⟨_, hx⟩ (exo_ok hx)
 have eu : upd H a (exo a C none) = H := by
  funext b
  by_cases hb : b = a
  ·rw [hb, upd_same, e]
  ·rw [upd_ne hb]
 rw [eu] at J
 exact h _ J
end
/-- the reading of «super().__init__(..)» in an exception's __init__; the rest u -/
def tSupX (C : Addr) (ta : TA) (u : TS) : TS := fun D σ H => ∃ a, σ[0]? = some (some (.ref a)) ∧ H a = some (exo a C none) ∧ ta σ H fun vs H1 => vs.length ≤ 1000 ∧ H1 a = some (exo a C none) ∧ u D σ H1
section
variable {X : Cx} {f cda cc C : Addr}
theorem pat_supX {body : List Stmt} {p0 p1 p2 pos pos' : Pos} {e : Expr} {es : List Expr} {rest : List Stmt} {ta : TA} {u : TS} {pl : Sem Bool} (T : SupTxt X.prog X.K X.mg f cda cc C) (S : SupX X f cda cc) (O : OexC X.K C) (hsub : PySem.W.mroIn X.K C (.ref C) = some true)
  (hm : PySem.W.ks_superIn X.K C C "__init__" = some (some (.builtin "ValueError.__init__"))) (hB : PySem.W.subIn X.K (.ref C) (.type "ValueError") = some true)
  (ha : PA X (e :: es) ta) (hr : PAt X (.func body X.env) rest u)
  (he : starEach (e :: es) X.env = (false, eval e X.env) :: starEach es X.env := by rfl) (hpl : (backTo pos (starEach es X.env)).any (·.1) = false := by rfl)
  (ht : eval (.Call (.Attribute (.Call (.Name "super" p0) [] [] p1) "__init__" p2) (e :: es) [] pos) X.env = (do
   let ov ← attributeBase (.Call (.Name "super" p0) [] [] p1) "__init__" X.env (eval (.Call (.Name "super" p0) [] [] p1) X.env)
   standAt p2.atName
   let (f, first) ← holding [ov] (getMethod ov "__init__" pl)
   callWith pos f first (backTo pos (starEach (e :: es) X.env)) []) := by rfl)
  (hs : swapsWith (.Call (.Attribute (.Call (.Name "super" p0) [] [] p1) "__init__" p2) (e :: es) [] pos) none pos'.line X.env = pure false := by rfl) :
  PAt X (.func body X.env) (.Expr (.Call (.Attribute (.Call (.Name "super" p0) [] [] p1) "__init__" p2) (e :: es) [] pos) pos' :: rest) (tSupX C ta u) := by
 refine ⟨fun pins s σ H D I q => ?_⟩
 obtain ⟨a, h0, ea, q⟩ := q
 obtain ⟨t1, ho⟩ := exo_at I.hok ea
 have J : PySem.W.InstAt s.heap a _ C none := ⟨ho, rfl, rfl, trivial⟩
 refine PySem.ks_wpAt_execs_cons (PySem.ks_wpAt_Expr_any ?_ I.quiet hs)
 refine PySem.ks_wpAt_MethodCall (pl := pl) ?_ ht
 refine sup_node T S I h0 J hsub (by decide) fun so s1 I1 k1 => ?_
 have KX := I1.kIn
 have J1 : PySem.W.InstAt s1.heap a _ C none := ⟨k1 _ _ ho, rfl, rfl, trivial⟩
 have hI : PySem.W.Looks (model X.prog X.w) s1.heap (isInstance (.ref a) (.type "ValueError")) true := J1.type.andThen (PySem.W.looks_subIn KX hB)
 cases hc : PySem.W.clsIn X.K C with
 | none =>
  unfold PySem.W.ks_superIn at hm
  rw [hc] at hm
  cases hm
 | some cd =>
  unfold PySem.W.ks_superIn at hm
  rw [hc] at hm
  have hso := ClX.pin_at I1
  have hne := PySem.W.ks_ne KX J1 hc
  have hop := PySem.W.looks_opaque (M := model X.prog X.w) (C := C) KX T.opq
  have hmro : PySem.W.Looks (model X.prog X.w) s1.heap (mroOf (.ref C)) cd.mro := fun A Q E s k q => wpAny_bind ((PySem.W.looks_clsIn KX hc) A _ E s k (wpAny_pure q))
  obtain ⟨hp, g, d, tk, os⟩ := s1
  refine PySem.W.kxs_getMethod PySem.W.kxs_ValueError hso hop hmro rfl KX hm hI hne (by decide) ?_
  have I2 : Inv X ((hp.objs.size, PySem.W.kxs_mw "ValueError.__init__" a) :: (so, PySem.W.ks_superObj C a C) :: pins) σ H ⟨hp.push (PySem.W.kxs_mw "ValueError.__init__" a), g, d, tk + 1, os⟩ :=
   ClX.pin_new (t' := tk + 1) I1 (fun b o z => Heap.get?_push_of_some _ z) (Nat.le_refl _) (Heap.get?_push_at rfl rfl) (fun v z => by cases z)
  show wpAny _ _ (callWith pos (.ref hp.objs.size) [] (backTo pos (starEach (e :: es) X.env)) []) _ _ _
  rw [he]
  refine PySem.W.kxs_callWith (i := "ValueError.__init__") (x := a) (by show (false || (backTo pos (starEach es X.env)).any (·.1)) = false; rw [hpl]; rfl) ?_
  refine PySem.Calls.evalArgs_plain ?_
  have hrun := ha.run pos _ _ σ H _ I2 q
  rw [he] at hrun
  refine thn hrun fun us s3 ⟨vs, H3, I3, r3, hlen, ea3, q3⟩ => ⟨ClX.pin_at I3, ?_⟩
  show wpAny _ _ (call (.ref hp.objs.size) us) _ _ _
  refine call_mw O I3 (ClX.pin_at I3) ea3 (by rw [← Paired.length r3, sizeLine_eq]; omega) fun s4 I4 => ?_
  exact hr.run pins s4 σ H3 D (ClX.unpin (ClX.unpin I4)) q3
end
theorem fn_sup {CX : CXT} {P : Program} {w : World} {K : PySem.W.Frag} {mg : Str → Option Value} {base : Heap} {k : Nat} {f cda cc D : Addr} {name qual : Str} {params : Arguments} {body : List Stmt} {scope : Scope} {doc pm ct oc : Value} {od : Option Addr}
  {osl : Array (Option Value)} {N ps : List Str} {sp : Sp} {cl cld csl} (lk : K.lookup f = some ⟨oc, od, .func (PySem.W.fnX name qual params body scope [("__class__", cc)] .none .none doc pm none (.ref cda) ct), osl⟩) (hcd : PySem.W.codeIn K (.ref cda) qual = true)
  (hcell : K.lookup cc = some ⟨cl, cld, .cell (some (.ref D)), csl⟩) (S : NdefX.NScope N ps ["__class__"] scope)
  (len : ∀ vs H Q E, sp vs H Q E → vs.length = ps.length)
  (hbody : ∀ (A : Around) (outer : List Env) (s : Shared) (H : Hp) (vs : List V) (Q : VK) (E : XK), Room k (A.deeper (NdefX.envF ⟨name, qual, params, body, scope, [("__class__", cc)], cda⟩ f s.heap.objs.size)) → sp vs H Q E →
   ∃ t, PAt (NdefX.ncx CX P w K mg base N ⟨name, qual, params, body, scope, [("__class__", cc)], cda⟩ f A outer s H E) (.func body (NdefX.envF ⟨name, qual, params, body, scope, [("__class__", cc)], cda⟩ f s.heap.objs.size)) body t ∧ t { nx := fun _ H' => Q .non H', rt := Q } (NdefX.startF N vs [none]) H) :
  FnOk P w K mg base CX (k + 1) f (PySem.W.fnX name qual params body scope [("__class__", cc)] .none .none doc pm none (.ref cda) ct) ps sp := by
 refine ⟨len, fun A outer s H args us vs Q E hr e0 hb r hsp => ?_⟩
 have hl := len _ _ _ _ hsp
 have KX : K.In s.heap := e0.mod.kin.keeps fun b o e => (e0.bs b o e).1
 have lim : s.heap.NoLimit := e0.mod.nolimit.keeps fun b o e => (e0.bs b o e).1
 have hcl : ∀ y c, ([("__class__", cc)] : List (Str × Addr)).lookup y = some c → y = "__class__" ∧ c = cc := fun y c e => by
  rcases PySem.mem_of_lookup e with _ | ⟨_, z⟩
  ·exact ⟨rfl, rfl⟩
  ·cases z
 have hc0 : ([("__class__", cc)] : List (Str × Addr)).lookup ("__class__" : Str) = some cc := by simp [List.lookup]
 have CA : NdefX.CellsAt [("__class__", cc)] ["__class__"] [none] s.heap H := by
  refine ⟨rfl, fun y c e => ?_, fun y z c e1 e2 => (hcl y c e1).1.trans (hcl z c e2).1.symm, fun i y e => ?_⟩
  ·obtain ⟨_, rfl⟩ := hcl y c e
   exact ⟨(e0.bs _ _ (e0.mod.kin _ _ hcell)).2, _, _, KX _ _ hcell, rfl⟩
  ·cases i with
   | zero =>
    have z : ("__class__" : Str) = y := Option.some.inj e
    subst z
    exact ⟨cc, hc0, fun v z => by cases z⟩
   | succ i => simp at e
 refine PySem.ks_codeAny_call_defAt (fd := PySem.W.fnX name qual params body scope [("__class__", cc)] .none .none doc pm none (.ref cda) ct) (body := body) hr.depth (KX _ _ lk) rfl lim (PySem.W.codeRec_of KX hcd) rfl hb S.nocell (fun ⟨n, _⟩ hy => S.par n (List.of_mem_zip hy).1) (fun h₁ hns kp => ?_) S.co S.gen S.kind
 obtain ⟨t, ht, hq⟩ := hbody A outer s H vs Q E (hr.deeper _) hsp
 have I : Inv (NdefX.ncx CX P w K mg base N ⟨name, qual, params, body, scope, [("__class__", cc)], cda⟩ f A outer s H E) [] (NdefX.startF N vs [none]) H { s with heap := h₁, toks := s.toks + (ps.zip us).length } := NdefX.inv_startN S hr.hd e0 hl r CA hns kp
 refine PySem.ks_wpAt_mono (ht.run [] _ (NdefX.startF N vs [none]) H _ I hq) (fun fl s' hs => ?_) fun e s' hs => hs
 have fin : ∀ {σ' : L2.St} {H' : Hp} {v : V} {u : Value}, Inv (NdefX.ncx CX P w K mg base N ⟨name, qual, params, body, scope, [("__class__", cc)], cda⟩ f A outer s H E) [] σ' H' s' → L2.RelV v u → Q v H' → CE outer P w H s Q u s' :=
  fun {σ' H' v u} J rv q => ⟨v, H', J.os, J.bare, J.base, J.hok, rv, q⟩
 cases fl with
 | ret u =>
  obtain ⟨v, σ', H', J, rv, q⟩ := hs
  exact fin J rv q
 | next =>
  obtain ⟨σ', H', J, q⟩ := hs
  exact fin (v := V.non) (u := Value.none) J rfl q
 | brk =>
  obtain ⟨_, _, _, q⟩ := hs
  exact False.elim q
 | cont =>
  obtain ⟨_, _, _, q⟩ := hs
  exact False.elim q
end
section
def spXI (C : Addr) (fld : Str) : Sp := fun vs H Q _ => ∃ (a : Addr) (y : V), vs = [.ref a, y] ∧ H a = some (exo a C none) ∧ ∀ dx, H dx = none → dx ≠ a → Q .non (upd (upd H dx (exd dx [(fld, y)])) a (exo a C (some dx)))
/-- the text of such an __init__ -/
def excBody (fld : Str) (st : Stmt) : Prop := ∃ p0 p1 p2 p3 p4 p5 p6 p7 p8 p9 : Pos, defBody st = [.Expr (.Call (.Attribute (.Call (.Name "super" p0) [] [] p1) "__init__" p2) [.Name fld p3] [] p4) p5, .Assign [.Attribute (.Name "self" p6) fld p7] (.Name fld p8) p9] ∧
 ∀ env : Env, ∃ pl : Sem Bool, eval (.Call (.Attribute (.Call (.Name "super" p0) [] [] p1) "__init__" p2) [.Name fld p3] [] p4) env = (do
   let ov ← attributeBase (.Call (.Name "super" p0) [] [] p1) "__init__" env (eval (.Call (.Name "super" p0) [] [] p1) env)
   standAt p2.atName
   let (f, first) ← holding [ov] (getMethod ov "__init__" pl)
   callWith p4 f first (backTo p4 (starEach [.Name fld p3] env)) [])
theorem ok_exc {P : Program} {w : World} {K : PySem.W.Frag} {mg : Str → Option Value} {base : Heap} {fI cda cc C : Addr} {qual fld : Str} {st : Stmt} {doc pm ct oc : Value} {od : Option Addr} {osl : Array (Option Value)}
  (lk : K.lookup fI = some ⟨oc, od, .func (PySem.W.fnX "__init__" qual (defArgs st) (defBody st) (defScope st) [("__class__", cc)] .none .none doc pm none (.ref cda) ct), osl⟩) (hcd : PySem.W.codeIn K (.ref cda) qual = true)
  (T : SupTxt P K mg fI cda cc C) (O : OexC K C) (hsub : PySem.W.mroIn K C (.ref C) = some true) (hm : PySem.W.ks_superIn K C C "__init__" = some (some (.builtin "ValueError.__init__"))) (hB : PySem.W.subIn K (.ref C) (.type "ValueError") = some true)
  (hno : PySem.W.findIn K (.ref C) fld = some none) (S : NdefX.NScope ["self", fld, "__class__"] ["self", fld] ["__class__"] (defScope st)) (hks : (defScope st).names.lookup ("super" : Str) = some .globalImplicit) (hb : excBody fld st)
  (hd1 : (fld == ("__debug__" : Str)) = false) (hd2 : (fld == ("__classdict__" : Str)) = false) :
  FnOk P w K mg base CX0 1 fI (PySem.W.fnX "__init__" qual (defArgs st) (defBody st) (defScope st) [("__class__", cc)] .none .none doc pm none (.ref cda) ct) ["self", fld] (spXI C fld) := by
 obtain ⟨cl, cld, csl, hcell⟩ := T.cell
 refine fn_sup (N := ["self", fld, "__class__"]) lk hcd hcell S (fun vs H Q E h => ?_) (fun A outer s H vs Q E hr h => ?_)
 ·obtain ⟨a, y, rfl, _⟩ := h
  rfl
 ·obtain ⟨a, y, rfl, ha, q⟩ := h
  obtain ⟨p0, p1, p2, p3, p4, p5, p6, p7, p8, p9, eb, hte⟩ := hb
  have hX : SupX (NdefX.ncx CX0 P w K mg base ["self", fld, "__class__"] ⟨"__init__", qual, defArgs st, defBody st, defScope st, [("__class__", cc)], cda⟩ fI A outer s H E) fI cda cc :=
   ⟨rfl, rfl, by show ([("__class__", cc)] : List (Str × Addr)).lookup ("__class__" : Str) = some cc; simp [List.lookup], hks, S.frk _ (by simp), S.par _ (by simp), rfl⟩
  have vf : Vis (defScope st) fld := .inl (S.par _ (by simp))
  have vs' : Vis (defScope st) "self" := .inl (S.par _ (by simp))
  have main : ∃ t, PAt (NdefX.ncx CX0 P w K mg base ["self", fld, "__class__"] ⟨"__init__", qual, defArgs st, defBody st, defScope st, [("__class__", cc)], cda⟩ fI A outer s H E) (.func (defBody st) (NdefX.envF ⟨"__init__", qual, defArgs st, defBody st, defScope st, [("__class__", cc)], cda⟩ fI s.heap.objs.size))
    [.Expr (.Call (.Attribute (.Call (.Name "super" p0) [] [] p1) "__init__" p2) [.Name fld p3] [] p4) p5, .Assign [.Attribute (.Name "self" p6) fld p7] (.Name fld p8) p9] t ∧ t { nx := fun _ H' => Q .non H', rt := Q } (NdefX.startF ["self", fld, "__class__"] [.ref a, y] [none]) H := by
   obtain ⟨pl, ht⟩ := hte (NdefX.ncx CX0 P w K mg base ["self", fld, "__class__"] ⟨"__init__", qual, defArgs st, defBody st, defScope st, [("__class__", cc)], cda⟩ fI A outer s H E).env
   refine ⟨_, pat_supX (pl := pl) (ht := ht) T hX O hsub hm hB (pa_cons (pv 1 (hv := vf) (hd := hd1) (hcd := hd2)) pa_nil) (pat_of (pss_one (ps_ost (pv 0 (hv := vs')) (pv 1 (hv := vf) (hd := hd1) (hcd := hd2))))), ?_⟩
   refine ⟨a, rfl, ha, _, rfl, by simp, ha, _, rfl, _, rfl, a, C, rfl, O, hno, .inl ⟨ha, fun dx n ne => q dx n ne⟩⟩
  rw [← eb] at main
  exact main
/-- C(y) as it is raised: the wish behind it -/
theorem mkx {C : Addr} {fld : Str} {y : V} {H1 : Hp} {Q : XK} (q : ∀ d, H1 d = none → Q (.ref C) (some d) (upd H1 d (.xd [(fld, y)]))) : ([y] : List V).length ≤ 1000 ∧ ∀ a, H1 a = none → spXI C fld (.ref a :: ([y] ++ [])) (upd H1 a (exo a C none))
  (fun v H2 => v = .non ∧ ∃ (d : Addr) (fs : List (Str × V)), H2 a = some (exo a C (some d)) ∧ H2 d = some (exd d fs) ∧ H1 d = none ∧ Q (.ref C) (some d) (upd (del H2 a) d (.xd fs))) (fun _ _ _ => False) := by
 refine ⟨by simp, fun a na => ⟨a, y, rfl, upd_same, fun dx n ne => ⟨rfl, dx, _, upd_same, (upd_ne ne).trans upd_same, ?_, ?_⟩⟩⟩
 ·rw [upd_ne ne] at n
  exact n
 ·rw [upd_ne ne] at n
  have e : upd (del (upd (upd (upd H1 a (exo a C none)) dx (exd dx [(fld, y)])) a (exo a C (some dx))) a) dx (.xd [(fld, y)]) = upd H1 dx (.xd [(fld, y)]) := by
   funext b
   by_cases hb : b = dx
   ·rw [hb, upd_same, upd_same]
   ·rw [upd_ne hb, upd_ne hb]
    by_cases ha : b = a
    ·rw [ha, del_same, na]
    ·rw [del_ne ha, upd_ne ha, upd_ne hb, upd_ne ha]
  rw [e]
  exact q dx n
def tMakeS (C : Addr) (sp : Sp) (E : L2.St → XK) (t : TA) : TE := fun σ H Q => t σ H fun vs H1 => ∀ x dx, H1 x = none → H1 dx = none → dx ≠ x →
 sp (.ref x :: vs) (upd (upd H1 dx (.own x)) x (.ins C dx [])) (fun v H2 => v = .non ∧ Q (.ref x) H2) (E σ)
section
variable {X : Cx} {CX : CXT} {k : Nat} {f C : Addr} {fd : FuncData} {ps : List Str} {sp : Sp} {E : L2.St → XK} {x : Str} {p pos : Pos} {e : Expr} {es : List Expr} {t : TA}
theorem pe_makeS (M : Mk X.K C f) (F : FnOk X.prog X.w X.K X.mg X.base CX k f fd ps sp) (hr : Room (k + 1) X.A) (hg : Gl X x) (hm : X.mg x = some (.ref C)) (hb : Binds X.K fd ps []) (hx : ∀ σ, PassesAt CX X σ (E σ))
  (ha : PA X (e :: es) t) (hdb : (x == ("__debug__" : Str)) = false := by decide) (he : starEach (e :: es) X.env = (false, eval e X.env) :: starEach es X.env := by rfl) (hpl : (backTo pos (starEach es X.env)).any (·.1) = false := by rfl) :
  PE X (.Call (.Name x p) (e :: es) [] pos) (tMakeS C sp E t) := by
 refine ⟨fun pins s σ H Q I h => ?_⟩
 refine wpAny_Call_Name_kw (ld_glob I hg hm ?_ hdb)
 refine PySem.W.callWith_K (h₀ := X.base) I.ok.mod.kin M.kp (thn (ha.run pos pins s σ H _ I h) fun us s1 ⟨vs, H1, I1, r, q⟩ => ⟨I1.kIn, ?_⟩) he hpl
 show wpAny _ _ (call (.ref C) us) _ _ _
 have hq := q (s1.heap.objs.size + 1) s1.heap.objs.size (I1.hok.fresh (Nat.le_succ _)) (I1.hok.fresh (Nat.le_refl _)) (Nat.ne_of_lt (Nat.lt_succ_self _))
 have I2 := Inv.made (C := C) I1
 have r2 : Vals (V.ref (s1.heap.objs.size + 1) :: vs) (Value.ref (s1.heap.objs.size + 1) :: us) := .cons rfl r
 have hl : (Value.ref (s1.heap.objs.size + 1) :: us).length = ps.length := by
  have e := r2.length
  rw [F.len _ _ _ _ hq] at e
  exact e.symm
 have hbb := hb _ (Value.ref (s1.heap.objs.size + 1) :: us) I2.kIn (by rw [List.append_nil]; exact hl)
 rw [List.append_nil] at hbb
 refine wpAny_call (make_map (f := f) I1.kIn M.makes M.init (beq_iff_eq.mp M.fn) (codeAny_mono (F.run _ X.stack _ _ ⟨Value.ref (s1.heap.objs.size + 1) :: us, []⟩ (Value.ref (s1.heap.objs.size + 1) :: us) _ _ (E σ) (hr.make C us [])
  (I2.env0.make C us []) hbb r2 hq) fun r s' hq' => ?_))
 cases r with
 | error e => exact hx σ pins _ _ e s' I2 hq'
 | ok fl =>
  cases fl with
  | ret u =>
   obtain ⟨v, H', I3, rv, ev, q3⟩ := I2.after hq'
   subst ev
   exact ⟨rv, ⟨V.ref (s1.heap.objs.size + 1), H', I3, rfl, q3⟩⟩
  | next => exact False.elim hq'
  | brk => exact False.elim hq'
  | cont => exact False.elim hq'
end
section
variable {X : Cx}
/-- the reading of isinstance(e, c): e's class is the one at D -/
def rIsED (K : PySem.W.Frag) (D a : Addr) (cls : Value) (d : Option Addr) : List V → Hp → VK → Prop := fun xs H Q => cls = .ref D ∧ ∃ (dd : Addr) (fs : List (Str × V)), d = some dd ∧ H dd = some (.xd fs) ∧ rIsE K D a xs H Q
theorem call_isED {a D : Addr} {cls : Value} {d : Option Addr} {oe : Obj} {pn : List (Addr × Obj)} (C : ExcC X.K D) (hz : Zc cls d oe) (hf : ∃ vs, oe.data = .fields vs) :
  CallR (X.suite a ((a, oe) :: pn)) (.builtin "isinstance") (rIsED X.K D a cls d) := by
 intro pins s σ H xs us Q I r h
 obtain ⟨rfl, dd, fs, rfl, hdd, c, cv, b, rfl, hcv, e, q⟩ := h
 cases r with
 | cons rx rr =>
  cases rr with
  | cons rt rr =>
   cases rr
   cases rx
   have ec := hcv _ rt
   subst ec
   obtain ⟨hget, _⟩ := I.pin (a, oe) (List.mem_append.mpr (.inl List.mem_cons_self))
   obtain ⟨vs, hv⟩ := hf
   have hx : ObjOk X.prog X.w H s.heap dd (.xd fs) := I.hok dd _ hdd
   obtain ⟨mA, hns, _⟩ := hx
   obtain ⟨od, ho, _⟩ := lookIn_ns hns
   have J : PySem.W.InstAt s.heap a oe D (some od) := by
    obtain ⟨oc, odi, oda, osl⟩ := oe
    obtain ⟨h1, h2⟩ := hz
    dsimp only at h1 h2 hv
    subst h1 h2 hv
    exact ⟨hget, rfl, rfl, ho⟩
   have hcl : (PySem.W.clsIn X.K D).isSome = true := by
    obtain ⟨cd, hc, _⟩ := PySem.W.any_some C.hd
    rw [hc]
    rfl
   exact PySem.W.kia_one (PySem.W.kitx_exc hcl C.hg C.hk C.hs C.ha C.hn C.ht C.hm) I.kIn J e (fun z => nomatch z) fun tk => ⟨.bl b, H, I.kept (t' := tk) fun _ _ z => z, rfl, q⟩
end
def dAs (i : Nat) (D : Ends) : Ends := { nx := fun σ' H' => D.nx (σ'.set i none) H', rt := D.rt, bk := fun σ' H' => D.bk (σ'.set i none) H', ct := fun σ' H' => D.ct (σ'.set i none) H' }
def wManyA (K : PySem.W.Frag) (Wout : WX) (D : Ends) : List (Value × Nat × (Addr → Value → Option Addr → TS)) → WX
 | [] => Wout
 | (c, i, ts) :: r => fun cls d σ H => ∃ b, PySem.W.exmOne K cls c = some b ∧ (b = true → ∀ a, H a = none → ts a cls d (dAs i D) (σ.set i (some (.ref a))) H) ∧ (b = false → wManyA K Wout D r cls d σ H)
inductive HdsA (X : Cx) : List ExceptHandler → List (Value × Nat × (Addr → Value → Option Addr → TS)) → Prop
 | nil : HdsA X [] []
 | cons {x n : Str} {c : Value} {i : Nat} {ts : Addr → Value → Option Addr → TS} {b₀ : Stmt} {suite : List Stmt} {np pos' : Pos} {hds : List ExceptHandler} {l : List (Value × Nat × (Addr → Value → Option Addr → TS))} (hi : X.N[i]? = some n) (hln : X.env.kindOf n = some .local) (hc : Names X x c)
   (hsu : ∀ (a : Addr) (oe : Obj) (cls : Value) (d : Option Addr) (pn : List (Addr × Obj)), Zc cls d oe → (∃ vs, oe.data = .fields vs) → PSs (X.suite a ((a, oe) :: pn)) (b₀ :: suite) (ts a cls d)) (r : HdsA X hds l) :
   HdsA X (.ExceptHandler (some (.Name x np)) (some n) (b₀ :: suite) pos' :: hds) ((c, i, ts) :: l)
section
variable {X : Cx} {body : List Stmt} {h₀ : ExceptHandler} {hds : List ExceptHandler} {l : List (Value × Nat × (Addr → Value → Option Addr → TS))} {pos : Pos} {tb : WX → TS} {Wout : WX}
theorem ps_try_manyA (hs : X.stack = X.env :: X.outer) (hf : X.env.frame = some X.env.locals) (hN : X.N.Nodup) (tk : Takes X Wout)
  (hb : ∀ (W : WX) (pn : List (Addr × Obj)) (xe : Value → Shared → Prop), Takes (X.tr pn xe) W → PassesOwn (model X.prog X.w) X.A X.env xe → PSs (X.tr pn xe) body (tb W))
  (hh : HdsA X (h₀ :: hds) l) : PS X (.Try body (h₀ :: hds) [] [] pos) (fun D σ H => tb (wManyA X.K Wout D l) D σ H) := by
 refine ⟨fun pins s σ H D I h => ?_⟩
 have ok := I.ok
 have hfr : X.A.frames = some (X.env :: X.outer) := by rw [ok.frames, hs]
 refine wpAny_Try_except ?_
 refine wpAny_mono ((hb (wManyA X.K Wout D l) (X.pn ++ pins) (fun e s₁ => wpAny (model X.prog X.w) X.A (noteFrame e X.env) (fun _ s₂ => wpAny (model X.prog X.w) X.A (setFlight e none) (fun _ s₃ =>
  wpAny (model X.prog X.w) X.A (handleBy e X.env (h₀ :: hds)) (SP X pins D) X.xe s₃) X.xe s₂) X.xe s₁) (fun u s' xx => ?_) PassesOwn.looking).run [] s σ H D (I.toTry _) h) (fun f s1 hsp => ?_) (fun e s1 he => he)
 ·-- the catch
  obtain ⟨a, B, sI, pins', σ', H', cls, d, rfl, J', nb, up, sky, na, os, ag, w⟩ := xx
  have J : Inv X pins σ' H' sI := J'.ofTry ok
  have sky' : Sky B (X.env :: X.outer) a (Zc cls d) X.env.locals s'.heap := by rw [← hs]; exact sky
  show wpAny (model X.prog X.w) X.A (noteFrame (.ref a) X.env) _ _ _
  refine Sky.land Zc.steady hfr hf sky' fun h3 fl3 up3 => ?_
  have J3 : Inv X pins σ' H' { s' with heap := h3 } := J.landed nb fl3.1 (up.trans up3) os ag
  obtain ⟨oe3, vs3, he3, hz3, hd3⟩ := fl3.there
  have notFr : ∀ {h : Heap} {o : Obj} {vs : Array Value}, h.FunFrames B (X.env :: X.outer) → h.get? a = some o → o.data = .fields vs → a ∉ frs (X.env :: X.outer) := fun {h o vs} ff e dd hm => by
   obtain ⟨_, o', e', hnf⟩ := ff.mem hm
   rw [e] at e'; cases e'
   exact hnf _ dd
  have nfr := notFr fl3.2.2.1 he3 hd3
  have nL : a ≠ X.env.locals := fun z => nfr (List.mem_filterMap.mpr ⟨X.env, List.mem_cons_self, by rw [hf, z]⟩)
  have nF : a ∉ X.fs := fun hm => by
   obtain ⟨e, he, q⟩ := List.mem_filterMap.mp hm
   exact nfr (List.mem_filterMap.mpr ⟨e, List.mem_cons_of_mem _ he, q⟩)
  have S3 := J3.suite he3 hd3 na nL nF
  have go : ∀ {hds' : List ExceptHandler} {l' : List (Value × Nat × (Addr → Value → Option Addr → TS))}, HdsA X hds' l' → wManyA X.K Wout D l' cls d σ' H' →
    wpAny (model X.prog X.w) X.A (handleBy (.ref a) X.env hds') (SP X pins D) X.xe { s' with heap := h3 } := by
   intro hds' l' hk
   induction hk with
   | nil =>
    intro w
    refine wpAny_handleBy_nil ?_
    obtain ⟨k1, k2, k3, oe, vs, T, oT, ts', he, hz, hd, h1, hr⟩ := id fl3
    unfold PySem.passOn
    refine wpAny_bind (wpAny_field he hd h1 ?_)
    rw [if_neg (show ¬ ((Value.ref T == Value.none) = true) from by simp)]
    have fin : wpAny (model X.prog X.w) X.A (setFlight (.ref a) X.env.frame) (fun _ s4 => wpAny (model X.prog X.w) X.A (throw (.ref a) : Sem Flow) (SP X pins D) X.xe s4) X.xe { s' with heap := h3 } := by
     rw [hf]
     refine HandSPX.setFlight_upZ fl3 fun h4 hh4 up4 => wpAny_throw (tk _ _ ?_)
     exact ⟨a, B, sI, pins, σ', H', cls, d, rfl, J, nb, (up.trans up3).trans up4, .inr (.inr (by rw [hs]; exact hh4)), na, os, ag, w⟩
    first
     | exact wpAny_bind (wpAny_pure (wpAny_bind fin))
     | exact wpAny_bind fin
   | @cons x n c i ts b₀ suite np pos' hds2 l2 hi hln hc hsu r ih =>
    intro w
    obtain ⟨b, hb1, hyes, hno⟩ := w
    have hloc : Loc X.env.scope n := .inl hln
    refine wpAny_handleBy_cons (codeAny_handlers_test ?_) (by intro q; cases q)
    have LT : PySem.W.Looks (model X.prog X.w) h3 (typeOf (.ref a)) cls := fun A Q E s k q => wpAny_typeOf_ref (k _ _ he3) (by rw [hz3.1]; exact q)
    have LM := PySem.W.exm_one (M := model X.prog X.w) (J3.kIn) LT hb1
    have test : ∀ {Q : Value → Shared → Prop} {E : Value → Shared → Prop}, Q c { s' with heap := h3 } → wpAny (model X.prog X.w) (X.A.mark (some (.ref a))) (eval (.Name x np) X.env) Q E { s' with heap := h3 } := fun {Q E} q => by
     obtain ⟨hg, hdbg, hm | ⟨hm, hv, hnn⟩⟩ := hc
     ·exact ld_glob (X := X.suite a ((a, oe3) :: (X.pn ++ pins))) S3 hg hm q hdbg
     ·exact ld_blt (X := X.suite a ((a, oe3) :: (X.pn ++ pins))) S3 hg hm hv q hnn hdbg
    refine test (LM.here ?_)
    cases b with
    | true =>
     refine codeAny_handlers_suite_as ?_
     refine HandSPX.lands_againZ fl3 fun h4 fl4 up4 => ?_
     have J4 : Inv X pins σ' H' { s' with heap := h4 } := J.landed nb fl4.1 ((up.trans up3).trans up4) os ag
     obtain ⟨oe4, vs4, he4, hz4, hd4⟩ := fl4.there
     have S4 := J4.suite he4 hd4 na nL nF
     refine store_ok (X := X.suite a ((a, oe4) :: (X.pn ++ pins))) (v := .ref a) S4 hN hi hloc rfl (fun s5 S5 => ?_) (.inr hln)
     refine wpAny_mono ((hsu a oe4 cls d (X.pn ++ pins) hz4 ⟨_, hd4⟩).run [] s5 _ H' _ S5 (hyes rfl a na)) (fun f s6 hsp => ?_) (fun _ _ z => False.elim z)
     have end_ : ∀ {σ6 : L2.St} {H6 : Hp} {Q : Shared → Prop}, Inv (X.suite a ((a, oe4) :: (X.pn ++ pins))) [] σ6 H6 s6 → (∀ s7, Inv X pins (σ6.set i none) H6 s7 → Q s7) →
       wpAny (model X.prog X.w) X.A (do bindName X.env n .none; unbindBehindTheSuite X.env n pos') (fun _ s7 => Q s7) X.xe s6 := fun {σ6 H6 Q} S6 hq => gone_ok (S6.unsuite ok) hN hi hln hq
     cases f with
     | next =>
      obtain ⟨σ6, H6, S6, q6⟩ := hsp
      exact end_ S6 fun s7 J7 => ⟨_, _, J7, q6⟩
     | brk =>
      obtain ⟨σ6, H6, S6, q6⟩ := hsp
      exact end_ S6 fun s7 J7 => ⟨_, _, J7, q6⟩
     | cont =>
      obtain ⟨σ6, H6, S6, q6⟩ := hsp
      exact end_ S6 fun s7 J7 => ⟨_, _, J7, q6⟩
     | ret u =>
      obtain ⟨v6, σ6, H6, S6, r6, q6⟩ := hsp
      exact end_ S6 fun s7 J7 => ⟨_, _, _, J7, r6, q6⟩
    | false =>
     show wpAny _ X.A (handleBy (.ref a) X.env hds2) _ _ _
     exact ih (hno rfl)
  exact go hh w
 ·cases f with
  | next =>
   obtain ⟨σ', H', J', q⟩ := hsp
   exact wpAny_execs_nil ⟨σ', H', J'.ofTry ok, q⟩
  | brk =>
   obtain ⟨σ', H', J', q⟩ := hsp
   exact ⟨σ', H', J'.ofTry ok, q⟩
  | cont =>
   obtain ⟨σ', H', J', q⟩ := hsp
   exact ⟨σ', H', J'.ofTry ok, q⟩
  | ret u =>
   obtain ⟨v, σ', H', J', r, q⟩ := hsp
   exact ⟨v, σ', H', J'.ofTry ok, r, q⟩
end
end
section
/-- an exception class of the program, its one field fld -/
structure ExcT (P : Program) (w : World) (K : PySem.W.Frag) (mg : Str → Option Value) (x : Str) (C fI : Addr) (fld : Str) (fdI : FuncData) : Prop where
 o : OexC K C
 gl : mg x = some (.ref C)
 iC : PySem.W.findIn K (.ref C) "__init__" = some (some (.ref fI))
 tI : PySem.W.typeIn K (.ref fI) = some (.type "function")
 bi : Binds K fdI ["self", fld] []
 ok : ∀ base, FnOk P w K mg base CX0 1 fI fdI ["self", fld] (spXI C fld)
section
variable {X : Cx} {x fld : Str} {C fI : Addr} {fdI : FuncData} {e : Expr} {ta : TA} {p pos pos2 : Pos} {W : WX}
theorem ps_raiseX (T : ExcT X.prog X.w X.K X.mg x C fI fld fdI) (hr : Room 2 X.A) (hg : Gl X x) (hc : X.calm = true) (tk : Takes X W) (ha : PA X [e] ta) (hdb : (x == ("__debug__" : Str)) = false := by decide)
  (he : starEach [e] X.env = (false, eval e X.env) :: starEach [] X.env := by rfl) (hpl : (backTo pos (starEach [] X.env)).any (·.1) = false := by rfl) :
  PS X (.Raise (some (.Call (.Name x p) [e] [] pos)) none pos2) (fun _ σ H => tMkO C (spXI C fld) [] ta σ H fun cls d H' => W cls d σ H') :=
 ps_raise hc tk (pmk_oex T.o T.iC T.tI (T.ok X.base) hr T.bi .nil pass0 hg T.gl ha hdb he hpl)
end
section
variable {X : Cx} {k : Nat} {x : Str} {st : Stmt} {ps : List Str} {f : Addr} {fd : FuncData} {sp : Sp} {e : Expr} {es : List Expr} {p pos : Pos} {t : TA} {W : WX}
theorem pe_dfS (D : Df X.K X.mg x st ps f fd) (F : FnOk X.prog X.w X.K X.mg X.base (L2.CX X.prog X.w) k f fd ps sp) (hr : Room k X.A) (tk : Takes X W) (ha : PA X (e :: es) t) (hg : Gl X x := by rfl)
  (hdb : (x == ("__debug__" : Str)) = false := by decide) (he : starEach (e :: es) X.env = (false, eval e X.env) :: starEach es X.env := by rfl) (hpl : (backTo pos (starEach es X.env)).any (·.1) = false := by rfl) :
  PE X (.Call (.Name x p) (e :: es) [] pos) (tCallS sp (WE W) t) :=
 pe_callS F hr hg D.gl D.fn.kp D.bi (fun σ => passAt tk σ) ha hdb he hpl
end
end
end WW
namespace HY
open PySem PySem.Spec PyProof.Rows L2
abbrev Fr := PySem.W.Frag
def pr (K : Fr) (p : Addr) : List Value := match PySem.W.recIn K p "property" with
 | some (_ :: r) => r
 | _ => []
def codA (K : Fr) (f : Addr) : Addr := match K.lookup f with
 | some ⟨_, _, .func fd, _⟩ => (match fd.code with
  | .ref c => c
  | _ => 0)
 | _ => 0
def celA (K : Fr) (f : Addr) : Addr := match K.lookup f with
 | some ⟨_, _, .func fd, _⟩ => (match fd.closure with
  | (_, c) :: _ => c
  | _ => 0)
 | _ => 0
structure FD where
 at_ : Fr → Addr
 name : Str
 qual : Str
 params : Arguments
 body : List Stmt
 scope : Scope
 cl : List Str
 nd : Bool
abbrev FV : Type := Option (Str × Str × Arguments × FuncBody × Scope × Addr × List Str × Bool × Addr)
def isNone : Value → Bool
 | .none => true
 | _ => false
def fv (K : Fr) (a : Addr) : FV := match K.lookup a with
 | some ⟨_, _, .func fd, _⟩ => some (fd.name, fd.qualname, fd.params, fd.body, fd.scope, fd.globals, fd.closure.map (·.1), isNone fd.defaults, fd.builtins)
 | _ => none
def FD.val (d : FD) : FV := some (d.name, d.qual, d.params, .stmts d.body, d.scope, mainGlobals, d.cl, d.nd, builtinsNs)
abbrev Al : Type := List Bool × List FV
def obK (ex : List (Fr → Bool)) (fn : List FD) (K : Fr) : Al := (ex.map fun f => f K, fn.map fun d => fv K (d.at_ K))
def vlK (ex : List (Fr → Bool)) (fn : List FD) : Al := (ex.map fun _ => true, fn.map FD.val)
def Says (ex : List (Fr → Bool)) (fn : List FD) (K : Fr) : Prop := obK ex fn K = vlK ex fn
/-- the objects at the given addresses -/
def obG (n : List Addr) (ex : List (Fr → Bool)) (fn : List FD) (g : Addr → Option Obj) : Al := obK ex fn (He.frG g n)
def hookY (n : List Addr) (ex : List (Fr → Bool)) (fn : List FD) : PySem.W.Hook where
 α := Al
 obs := fun s => obG n ex fn s.heap.get?
 val := fun _ => vlK ex fn
 says := fun _ h => ∃ K : Fr, K.In h ∧ Says ex fn K
 of := fun _ _ e => ⟨_, He.frG_in, e⟩
 keeps := fun _ _ _ ⟨K, hK, c⟩ k => ⟨K, PySem.W.Frag.In.keeps hK k, c⟩
theorem obG_eq {n : List Addr} {ex : List (Fr → Bool)} {fn : List FD} {g : Addr → Option Obj} {s : Shared} (h : ∀ a, g a = s.heap.get? a) : obG n ex fn g = (hookY n ex fn).obs s := by
 have e : g = s.heap.get? := funext h
 rw [e]
 rfl
section
variable {ex : List (Fr → Bool)} {fn : List FD} {K : Fr}
theorem Says.both {ex2 : List (Fr → Bool)} {fn2 : List FD} (c : Says (ex ++ ex2) (fn ++ fn2) K) : Says ex fn K ∧ Says ex2 fn2 K := by
 have e1 : (ex ++ ex2).map (fun f => f K) = (ex ++ ex2).map fun _ => true := congrArg (fun z : Al => z.1) c
 have e2 : (fn ++ fn2).map (fun d => HY.fv K (d.at_ K)) = (fn ++ fn2).map FD.val := congrArg (fun z : Al => z.2) c
 rw [List.map_append, List.map_append] at e1 e2
 have h1 := List.append_inj e1 (by rw [List.length_map, List.length_map])
 have h2 := List.append_inj e2 (by rw [List.length_map, List.length_map])
 exact ⟨Prod.ext h1.1 h2.1, Prod.ext h1.2 h2.2⟩
theorem Says.f (c : Says ex fn K) (i : Nat) {f : Fr → Bool} (h : ex[i]? = some f := by rfl) : f K = true := by
 have e : (ex.map fun f => f K) = ex.map fun _ => true := congrArg (fun z : Al => z.1) c
 have e2 : (ex.map fun f => f K)[i]? = (ex.map fun _ => true)[i]? := by rw [e]
 rw [List.getElem?_map, List.getElem?_map, h] at e2
 exact Option.some.inj e2
theorem Says.d (c : Says ex fn K) {p : Fr → Prop} [∀ K, Decidable (p K)] (i : Nat) (h : ex[i]? = some (fun K => decide (p K)) := by rfl) : p K := of_decide_eq_true (c.f i h)
theorem isNone_eq {v : Value} (h : isNone v = true) : v = .none := by cases v <;> first | rfl | cases h
theorem Says.fvs (c : Says ex fn K) (i : Nat) {d : FD} (h : fn[i]? = some d := by rfl) : HY.fv K (d.at_ K) = d.val := by
 have e : fn.map (fun d => HY.fv K (d.at_ K)) = fn.map FD.val := congrArg (fun z : Al => z.2) c
 have e2 : (fn.map fun d => HY.fv K (d.at_ K))[i]? = (fn.map FD.val)[i]? := by rw [e]
 rw [List.getElem?_map, List.getElem?_map, h] at e2
 exact Option.some.inj e2
/-- a def with no closure -/
theorem Says.def0 (c : Says ex fn K) (i : Nat) {at_ : Fr → Addr} {name qual : Str} {params : Arguments} {body : List Stmt} {scope : Scope} (h : fn[i]? = some ⟨at_, name, qual, params, body, scope, [], true⟩ := by rfl) :
  ∃ oc od osl kV doc pm an cdv ct, K.lookup (at_ K) = some ⟨oc, od, .func (PySem.W.fnOf name qual params body scope .none kV doc pm an cdv ct), osl⟩ ∧ (cdv = .ref (codA K (at_ K)) ∨ codA K (at_ K) = 0) := by
 have e := c.fvs i h
 unfold HY.fv at e
 unfold codA
 dsimp only at e
 cases q : K.lookup (at_ K) with
 | none => rw [q] at e; cases e
 | some o =>
  obtain ⟨oc, od, dt, osl⟩ := o
  rw [q] at e
  cases dt with
  | func fd =>
   obtain ⟨n1, n2, n3, n4, n5, n6, n7, n8, n9, n10, n11, n12, n13, n14, n15⟩ := fd
   have e2 : (some (n1, n2, n3, n4, n5, n6, n7.map (·.1), isNone n8, n15) : FV) = some (name, qual, params, FuncBody.stmts body, scope, mainGlobals, [], true, builtinsNs) := e
   simp only [Option.some.injEq, Prod.mk.injEq, List.map_eq_nil_iff] at e2
   obtain ⟨h1, h2, h3, h4, h5, h6, h7, h8, h9⟩ := e2
   have h8 := isNone_eq h8
   subst h1 h2 h3 h4 h5 h6 h7 h8 h9
   refine ⟨oc, od, osl, n9, n10, n11, n12, n13, n14, rfl, ?_⟩
   cases n13 with
   | ref z => exact .inl rfl
   | _ => exact .inr rfl
  | _ => cases e
/-- the code object of a def -/
def codB (K : Fr) (f : Addr) (q : Str) : Bool := match K.lookup f with
 | some ⟨_, _, .func fd, _⟩ => PySem.W.codeIn K fd.code q
 | _ => false
theorem Says.defC (c : Says ex fn K) (i j : Nat) {at_ : Fr → Addr} {name qual : Str} {params : Arguments} {body : List Stmt} {scope : Scope} (h : fn[i]? = some ⟨at_, name, qual, params, body, scope, [], true⟩ := by rfl) (hj : ex[j]? = some (fun K => codB K (at_ K) qual) := by rfl) :
  ∃ oc od osl kV doc pm an cdv ct, K.lookup (at_ K) = some ⟨oc, od, .func (PySem.W.fnOf name qual params body scope .none kV doc pm an cdv ct), osl⟩ ∧ PySem.W.codeIn K cdv qual = true := by
 obtain ⟨oc, od, osl, kV, doc, pm, an, cdv, ct, lk, _⟩ := c.def0 i h
 have e := c.f j hj
 unfold codB at e
 rw [lk] at e
 exact ⟨oc, od, osl, kV, doc, pm, an, cdv, ct, lk, e⟩
/-- a def, told by its statement -/
def fdd (a : Addr) (n q : Str) (s : Stmt) : FD := ⟨fun _ => a, n, q, defArgs s, defBody s, defScope s, [], true⟩
def cob (a : Addr) (q : Str) : Fr → Bool := fun K => codB K a q
def DefS (K : Fr) (f : Addr) (n q : Str) (s : Stmt) : Prop :=
 ∃ oc od osl kV doc pm an cdv ct, K.lookup f = some ⟨oc, od, .func (PySem.W.fnOf n q (defArgs s) (defBody s) (defScope s) .none kV doc pm an cdv ct), osl⟩ ∧ PySem.W.codeIn K cdv q = true
theorem Says.dd (c : Says ex fn K) (i j : Nat) {a : Addr} {n q : Str} {s : Stmt} (h : fn[i]? = some (fdd a n q s) := by rfl) (hj : ex[j]? = some (cob a q) := by rfl) : DefS K a n q s := c.defC i j (at_ := fun _ => a) h hj
theorem DefS.keep {f : Addr} {n q : Str} {s : Stmt} (h : DefS K f n q s) : PySem.W.keepIn K (.ref f) = true := by
 obtain ⟨oc, od, osl, kV, doc, pm, an, cdv, ct, lk, _⟩ := h
 unfold PySem.W.keepIn
 simp only
 rw [lk]
theorem DefS.fun_ {f : Addr} {n q : Str} {s : Stmt} (h : DefS K f n q s) : ∃ fd, L2.Fun K n q s f fd := by
 have k := h.keep
 obtain ⟨oc, od, osl, kV, doc, pm, an, cdv, ct, lk, cd⟩ := h
 exact ⟨_, fun_mk (st := s) lk cd k⟩
/-- a def with the one cell __class__: what the rule for super() asks -/
def supB (K : Fr) (f C : Addr) (q file : Str) : Bool := match K.lookup f with
 | some ⟨_, _, .func fd, _⟩ => PySem.W.codeIn K (.ref (codA K f)) q && (decide (fd.code = .ref (codA K f)) && (isNone fd.kwdefaults && (decide (fd.annotations = none) && (match K.lookup (codA K f) with
  | some ⟨_, _, .fields vs, _⟩ => (match (vs[2]? : Option Value) with
   | some (.str fi _) => (file == fi)
   | _ => false)
  | _ => false) && (match K.lookup (celA K f) with
  | some ⟨_, _, .cell (some v), _⟩ => decide (v = .ref C)
  | _ => false))))
 | _ => false
theorem Says.sup (c : Says ex fn K) (i j : Nat) {at_ : Fr → Addr} {name qual file : Str} {C : Fr → Addr} {params : Arguments} {body : List Stmt} {scope : Scope} (h : fn[i]? = some ⟨at_, name, qual, params, body, scope, ["__class__"], true⟩ := by rfl) (hj : ex[j]? = some (fun K => supB K (at_ K) (C K) qual file) := by rfl) :
  ∃ oc od osl doc pm ct cd cc, K.lookup (at_ K) = some ⟨oc, od, .func (PySem.W.fnX name qual params body scope [("__class__", cc)] .none .none doc pm none (.ref cd) ct), osl⟩ ∧ PySem.W.codeIn K (.ref cd) qual = true ∧
   (∃ ka kb vs kc fi tf, K.lookup cd = some ⟨ka, kb, .fields vs, kc⟩ ∧ vs[2]? = some (.str fi tf) ∧ (file == fi) = true) ∧ ∃ la lb lc, K.lookup cc = some ⟨la, lb, .cell (some (.ref (C K))), lc⟩ := by
 have e := c.fvs i h
 have e3 := c.f j hj
 unfold HY.fv at e
 unfold supB at e3
 dsimp only at e
 cases q : K.lookup (at_ K) with
 | none => rw [q] at e; cases e
 | some o =>
  obtain ⟨oc, od, dt, osl⟩ := o
  rw [q] at e e3
  cases dt with
  | func fd =>
   obtain ⟨n1, n2, n3, n4, n5, n6, n7, n8, n9, n10, n11, n12, n13, n14, n15⟩ := fd
   have e2 : (some (n1, n2, n3, n4, n5, n6, n7.map (·.1), isNone n8, n15) : FV) = some (name, qual, params, FuncBody.stmts body, scope, mainGlobals, [("__class__" : Str)], true, builtinsNs) := e
   simp only [Option.some.injEq, Prod.mk.injEq] at e2
   obtain ⟨h1, h2, h3, h4, h5, h6, h7, h8, h9⟩ := e2
   have g8 := isNone_eq h8
   obtain ⟨cc, rfl⟩ : ∃ cc : Addr, n7 = [(("__class__" : Str), cc)] := by
    cases n7 with
    | nil => cases h7
    | cons a r =>
     obtain ⟨x, cc⟩ := a
     cases r with
     | nil =>
      rw [List.map_cons] at h7
      injection h7 with h7 _
      exact ⟨cc, by rw [← h7]⟩
     | cons b t =>
      rw [List.map_cons, List.map_cons] at h7
      injection h7 with _ h7
      cases h7
   dsimp only at e3
   simp only [Bool.and_eq_true] at e3
   obtain ⟨k1, k2, k3, ⟨k4, k5⟩, k6⟩ := e3
   have g2 : n13 = .ref (codA K (at_ K)) := of_decide_eq_true k2
   have g3 := isNone_eq k3
   have g4 : n12 = none := of_decide_eq_true k4
   subst h1 h2 h3 h4 h5 h6 g8 h9 g3 g4
   have ec : celA K (at_ K) = cc := by
    unfold celA
    rw [q]
   rw [ec] at k6
   refine ⟨oc, od, osl, n10, n11, n14, codA K (at_ K), cc, by rw [g2], k1, ?_, ?_⟩
   ·cases z : K.lookup (codA K (at_ K)) with
    | none => rw [z] at k5; cases k5
    | some o2 =>
     obtain ⟨a1, a2, dt2, a3⟩ := o2
     rw [z] at k5
     cases dt2 with
     | fields vs =>
      dsimp only at k5
      cases z2 : vs[2]? with
      | none => rw [z2] at k5; cases k5
      | some v =>
       rw [z2] at k5
       cases v with
       | str fi tf => exact ⟨a1, a2, vs, a3, fi, tf, rfl, z2, k5⟩
       | _ => cases k5
     | _ => cases k5
   ·cases z : K.lookup cc with
    | none => rw [z] at k6; cases k6
    | some o2 =>
     obtain ⟨a1, a2, dt2, a3⟩ := o2
     rw [z] at k6
     cases dt2 with
     | cell v =>
      cases v with
      | none => cases k6
      | some v =>
       have k6 : v = .ref (C K) := of_decide_eq_true k6
       subst k6
       exact ⟨a1, a2, a3, rfl⟩
     | _ => cases k6
  | _ => cases e
/-- an exception class -/
def excB (K : Fr) (C : Addr) (bm : List Value) : Bool := match K.lookup C with
 | some ⟨.type "type", _, .cls cd, sl⟩ => (match cd.mro, sl.toList with
  | .ref C' :: bm', [_, _, _, _, some (.builtin n), _] => decide (C' = C) && (decide (n = "ValueError.__new__") && (!cd.hasDel && (cd.hasDict && decide (bm' = bm))))
  | _, _ => false)
 | _ => false
theorem exc_of {C : Addr} {bm : List Value} (h : excB K C bm = true) : ∃ nm q N bs sn sub ab col dd k0 k1 k2 k3 k5, K.lookup C = some (excClassObj nm q C N bs bm true sn sub ab col dd k0 k1 k2 k3 k5 "ValueError.__new__") := by
 unfold excB at h
 split at h
 ·rename_i dd cd sl ho
  split at h
  ·rename_i C' bm' k0 k1 k2 k3 n k5 hm hs
   simp only [Bool.and_eq_true, decide_eq_true_eq, Bool.not_eq_true'] at h
   obtain ⟨rfl, rfl, hdel, hdict, rfl⟩ := h
   obtain ⟨nm, bs, mro, ns, qn, hd, sn, sub, ab, col, del⟩ := cd
   dsimp only at hm hdel hdict
   subst hm hdel hdict
   have hsl : sl = #[k0, k1, k2, k3, some (.builtin "ValueError.__new__"), k5] := by
    obtain ⟨l⟩ := sl
    simp only at hs
    rw [hs]
   subst hsl
   exact ⟨nm, qn, ns, bs, sn, sub, ab, col, dd, k0, k1, k2, k3, k5, ho⟩
  ·cases h
 ·cases h
/-- constants -/
def intB (K : Fr) (x : Str) (i : Int) : Bool := match PySem.W.nsIn K mainGlobals x with
 | some (some (.int j _)) => decide (j = i)
 | _ => false
def strB (K : Fr) (x z : Str) : Bool := match PySem.W.nsIn K mainGlobals x with
 | some (some (.str y _)) => decide (y = z)
 | _ => false
theorem int_of {x : Str} {i : Int} (h : intB K x i = true) : ∃ t, PySem.W.nsIn K mainGlobals x = some (some (.int i t)) := by
 unfold intB at h
 split at h
 ·rename_i j t e
  rw [of_decide_eq_true h] at e
  exact ⟨t, e⟩
 ·cases h
theorem str_of {x z : Str} (h : strB K x z = true) : ∃ t, PySem.W.nsIn K mainGlobals x = some (some (.str z t)) := by
 unfold strB at h
 split at h
 ·rename_i y t e
  rw [of_decide_eq_true h] at e
  exact ⟨t, e⟩
 ·cases h
end
end HY
namespace HZ
open PySem PySem.W PySem.Calls PyProof.Rows HandSHeadRun
def alt : List Obj → List Obj
 | [] => []
 | [a] => [a]
 | a :: _ :: r => a :: alt r
def mkT : Nat → List Obj → BT
 | 0, _ => .nil
 | f + 1, l => match l with
  | [] => .nil
  | o :: r => .node o (mkT f (alt r)) (mkT f (alt (r.drop 1)))
abbrev rf (a : Addr) : Value := .ref a
abbrev st (s : Str) (t : Tok) : Value := .str s t
abbrev sf (t : Tok) : Value := .str "/claim/cut.py" t
abbrev ty (n : String) : Value := .type n
abbrev bi (n : String) : Value := .builtin n
abbrev iv (i : Int) (t : Tok) : Value := .int i t
abbrev iz (n : Nat) : Value := .int (n : Nat) 0
abbrev vn : Value := .none
abbrev vT : Value := .bool true
abbrev vF : Value := .bool false
def ob (c : Value) (d : Option Addr) (x : Data) (sl : List (Option Value)) : Obj := ⟨c, d, x, ⟨sl⟩⟩
def tup (l : List Value) : Obj := ⟨.type "tuple", none, .seq ⟨l⟩ 0, ⟨[]⟩⟩
def fld (l : List Value) : Obj := ⟨.none, none, .fields ⟨l⟩, ⟨[]⟩⟩
def cod (l : List Value) : Obj := ⟨.type "code", none, .fields ⟨l⟩, ⟨[]⟩⟩
def fn (c : Value) (d : Option Addr) (s : Stmt) (n q : Str) (g : Addr) (cl : List (Str × Addr)) (df kw doc pm : Value) (an : Option Addr) (co ct : Value) (b : Addr) (sl : List (Option Value)) : Obj :=
 ⟨c, d, .func ⟨n, q, L2.defArgs s, .stmts (L2.defBody s), L2.defScope s, g, cl, df, kw, doc, pm, an, co, ct, b⟩, ⟨sl⟩⟩
def en (k : Str) (t : Tok) (v : Value) : Str × Tok × Value := (k, t, v)
def di (P : Params) (l : List (Str × Tok × Value)) (n : Nat) : Obj := ob (.type "dict") none (.dict ⟨l.map fun e => ⟨PySem.PyData.keyHash P e.1, .str e.1 e.2.1, e.2.2⟩⟩ n) []
def defName (s : Stmt) : Str := match s with
 | .FunctionDef n _ _ _ _ _ _ _ _ _ => n
 | _ => ""
def pf (s : Stmt) (q : Str) : Obj := fn .none none s (defName s) q 0 [] .none .none .none .none none .none .none 0 []
def ff (s : Stmt) (q : Str) (cl : List (Str × Addr)) (df : Value) (m : Str) (k : Tok) (co : Addr) (ct : Value) : Obj := fn (.type "function") none s (defName s) q 3 cl df .none .none (.str m k) none (.ref co) ct 0 []
def ro : Option Addr → Value
 | none => .none
 | some a => .ref a
def cd (n q : Str) (k l a b c d : Nat) (r : Addr) (g : Value) (x : Nat) (v1 v2 v3 v4 : Option Addr) (e : Nat) : Obj :=
 cod [.str n k, .str q (k + 1), .str "/claim/cut.py" (k + 2), iz l, iz a, iz b, iz c, iz d, .ref r, g, iz x, .ref (r + 1), ro v1, ro v2, ro v3, ro v4, iz e, iz l, .str "/claim/cut.py" (e + 1)]
noncomputable def stt (T : BT) (n k : Nat) (w : World) (os : OsState) : SharedT := ⟨T, n, (boot_heap w.params).life, #[], boot_drawn, k, os⟩
def envO (p : Program) (c : Value) (fr : Addr) : Env := { scope := p.main.scope, locals := mainNs, globals := mainNs, cells := [], code := c, frame := some fr }
section
variable (stp : SharedT → Thread → Option (SharedT × Thread)) (n0 : Nat) (ann : Option Value)
def segF : Nat → SharedT → Thread → Option (Flow × SharedT × Code × Pos)
 | 0, _, _ => none
 | m + 1, s, t => match endAt 1 t with
  | some f => some (f, s, t.code, t.pos)
  | none => cond (stepOk n0 ann t) (match stp s t with
   | some z => frS z.1 fun s' => segF m s' z.2
   | none => none) none
def topF : Nat → SharedT → Thread → Option (SharedT × Thread)
 | 0, s, t => some (s, t)
 | m + 1, s, t => cond (through t) none (cond (stepOk n0 ann t) (match stp s t with
  | some z => frS z.1 fun s' => topF m s' z.2
  | none => none) none)
end
section
variable {tb : String → Option Builtin} {p : Program} {w : World} {n0 : Nat} {ann : Option Value}
theorem segF_ok : ∀ {m : Nat} {s : SharedT} {t : Thread} {r : Flow × SharedT × Code × Pos}, segF (stepT (denote tb) p w) n0 ann m s t = some r → segRunT tb p w n0 ann 1 m s t = some r
 | 0, _, _, _, h => by cases h
 | m + 1, s, t, r, h => by
  unfold segF at h
  unfold segRunT
  cases e : endAt 1 t with
  | some f => rw [e] at h; exact h
  | none =>
   rw [e] at h
   cases k : stepOk n0 ann t with
   | false => rw [k] at h; cases h
   | true =>
    rw [k] at h
    cases z : stepT (denote tb) p w s t with
    | none => rw [z] at h; cases h
    | some x =>
     obtain ⟨s', t'⟩ := x
     rw [z] at h
     have h2 : (frS s' fun s' => segF (stepT (denote tb) p w) n0 ann m s' t') = some r := h
     rw [frS_eq] at h2
     exact segF_ok h2
theorem topF_ok : ∀ {m : Nat} {s s' : SharedT} {t t' : Thread}, topF (stepT (denote tb) p w) n0 ann m s t = some (s', t') → topGo tb p w n0 ann m s.abs t = some (s'.abs, t')
 | 0, _, _, _, _, h => by cases h; rfl
 | m + 1, s, s', t, t', h => by
  unfold topF at h
  unfold topGo
  cases e : through t with
  | true => rw [e] at h; cases h
  | false =>
   rw [e] at h
   cases k : stepOk n0 ann t with
   | false => rw [k] at h; cases h
   | true =>
    rw [k] at h
    cases z : stepT (denote tb) p w s t with
    | none => rw [z] at h; cases h
    | some x =>
     obtain ⟨s2, t2⟩ := x
     rw [z] at h
     have h2 : (frS s2 fun s2 => topF (stepT (denote tb) p w) n0 ann m s2 t2) = some (s', t') := h
     rw [frS_eq] at h2
     dsimp only
     rw [stepT_spec z]
     exact topF_ok h2
end
noncomputable abbrev stQ (p : Program) (w : World) := stepQ (denQ tabQ) p w
theorem stQ_eq (p : Program) (w : World) : stQ p w = stepT (denote treeTable) p w := by
 unfold stQ
 rw [← stepQ_eq, ← denQ_eq, ← tabQ_eq]
section
variable {p : Program} {w : World} {n0 : Nat} {ann : Option Value} {env : Env} {q : Pos}
theorem at_pre {m N : Nat} {s s' : SharedT} {t : Thread} {r : Shared} {b : List Stmt} {pos : Pos} (h : topF (stQ p w) n0 ann m s t = some (s', ⟨denQ tabQ (.body b env), .body b env, pos, [topFrame q]⟩))
  (k : topRun treeTable p w n0 ann N s'.abs ⟨denote treeTable (.body b env), .body b env, pos, [topFrame q]⟩ = some r) : topRun treeTable p w n0 ann (m + N) s.abs t = some r := by
 rw [stQ_eq, ← denQ_eq, ← tabQ_eq] at h
 exact go_top (topF_ok h) k
theorem at_blk {m N : Nat} {s s' : SharedT} {r : Shared} {b : List Stmt} {c : Code} {pos pos' : Pos} (h : segF (stQ p w) n0 ann m s (blockOf b env c pos [topFrame q]) = some (.next, s', c, pos'))
  (k : topRun treeTable p w n0 ann N s'.abs (restOf b env c pos' [topFrame q]) = some r) : topRun treeTable p w n0 ann (m + N) s.abs ⟨denote treeTable (.body b env), c, pos, [topFrame q]⟩ = some r := by
 rw [stQ_eq] at h
 exact piece_block (segRun_of (segF_ok h)) k
theorem at_seg {m N : Nat} (j : Nat) {s s' : SharedT} {r : Shared} {b : List Stmt} {c : Code} {pos pos' : Pos} (h : segF (stQ p w) n0 ann m s (piecesOf (b.take j) env c pos [topFrame q]) = some (.next, s', c, pos'))
  (k : topRun treeTable p w n0 ann N s'.abs (restOf (b.drop j) env c pos' [topFrame q]) = some r) : topRun treeTable p w n0 ann (m + N) s.abs (restOf b env c pos [topFrame q]) = some r := by
 rw [stQ_eq] at h
 have := piece_app (segRun_of (segF_ok h)) k
 rw [List.take_append_drop] at this
 exact this
theorem at_end {m : Nat} {s s' : SharedT} {t : Thread} (h : goF (stQ p w) n0 ann m s t = some s') : topRun treeTable p w n0 ann m s.abs t = some s'.abs := by
 rw [stQ_eq] at h
 exact goF_ok h
theorem at_boot {N k : Nat} {r : Shared} {t : Thread} {T : BT} (e : putAll (boot_heap w.params).objs.toList .nil 0 = some (T, n0)) (hk : boot_toks = k) {os : OsState} (h : topRun treeTable p w n0 ann N (stt T n0 k w os).abs t = some r) :
  topRun treeTable p w n0 ann N ⟨boot_heap w.params, #[], boot_drawn, boot_toks, os⟩ t = some r := by
 have eh := putAll_heap e
 have eb : (stt T n0 k w os).abs = ⟨boot_heap w.params, #[], boot_drawn, boot_toks, os⟩ := by
  show (⟨absHeap T n0 (boot_heap w.params).life, #[], boot_drawn, k, os⟩ : Shared) = _
  rw [eh, hk]
 rw [← eb]
 exact h
end
theorem boot_size (P : Params) : ((boot_heap P).isNs mainGlobals && (#[] : Array GenState).size == 0, (boot_heap P).objs.size, (boot_heap P).nsMap mainGlobals "__annotations__") = (true, 11, some (.ref 6)) := by kernel_rfl
theorem left_lit {p q : Program} {loose : List Str} {Xt : Shared → Bool} {α : Type} {Yf : Shared → α} {Ya : World → α} {M n k : Nat} {T : Params → BT}
  (e : opening p = plainProg p.main.scope.names) (f : ∀ s, fenceModules? p s = some s)
  (run : ∀ (w : World) (os : OsState), topRun treeTable p w 11 (some (.ref 6)) M ⟨boot_heap w.params, #[], boot_drawn, boot_toks, os⟩ (topStub p) = some (stt (T w.params) n k w os).abs)
  (l1 : ∀ (w : World) (os : OsState), looksF p (boot_heap w.params) (stt (T w.params) n k w os).abs = true)
  (l2 : ∀ (w : World) (os : OsState), seenQ q loose (importedModules p.main.body) Xt (stt (T w.params) n k w os).abs = openGood q loose)
  (l3 : ∀ (w : World) (os : OsState), Yf (stt (T w.params) n k w os).abs = Ya w) : LeftO p q loose Xt Yf Ya (M + 600) true := by
 refine LeftO.of_pieces (H₀ := boot_heap) (H₁ := fun P => absHeap (T P) n (boot_heap P).life) (gs₀ := #[]) (gs₁ := #[]) (d₀ := boot_drawn) (d₁ := boot_drawn) (k₀ := boot_toks) (k₁ := k) (boot_open e (Nat.ble_eq_true_of_le (by omega)) f)
  (fun w => boot_size w.params) run (Nat.ble_eq_true_of_le (by omega)) fun w => funext fun os => ?_
 have h2 := l2 w os
 rw [← seenQ_eq] at h2
 exact Prod.ext (l1 w os) (Prod.ext h2 (l3 w os))
theorem head_lit {r : OpenRow} {q : Program} {H : Hook} {N : Nat} {loose : List PySem.Str} {d : DefRec} {kwd : List (PySem.Str × PySem.Expr)} (left : LeftO r.prog q loose (fun s => xlAt q [] s && recOk r.toRowW.records s) H.obs H.val N true)
  (hdef : defOf q r.name = some (d, kwd)) (hp : r.prog.theDef r.name = some (d.params, d.body, d.scope)) (hk : kwWritten? d.params.kwonlyargs d.params.kw_defaults = some kwd) (hwr : (!r.writes || r.records.isEmpty) = true) (k1 : r.wellSaid = true)
  (ok : (chainsOk q && opensWell r.prog && (frees r.toRowW && r.within.isEmpty)) = true) (hb : r.prog.bare) (hw : r.toRowW.promised) (call : WalkO q loose (XL q []) H.says r.toRowW d kwd fun f vs => PySem.call f vs) : r.Holds :=
 holds_open left H.of H.keeps (fun s z => xl_of s (Bool.and_eq_true_iff.mp z).1) XL.keeps hdef hp hk (fun s z => recFacts_of (Bool.and_eq_true_iff.mp z).2) hwr k1 ok hb hw call
/-- the facts, looked at off the tree -/
theorem obs_of {n : List Addr} {ex : List (HY.Fr → Bool)} {fn : List HY.FD} {s : SharedT} (h : HY.obG n ex fn (getT s) = HY.vlK ex fn) : (HY.hookY n ex fn).obs s.abs = HY.vlK ex fn := by
 rw [← HY.obG_eq (getT_eq s)]
 exact h
theorem obs_app {n : List Addr} {ex ex2 : List (HY.Fr → Bool)} {fn fn2 : List HY.FD} {g : Addr → Option Obj} (h1 : HY.obG n ex fn g = HY.vlK ex fn) (h2 : HY.obG n ex2 fn2 g = HY.vlK ex2 fn2) : HY.obG n (ex ++ ex2) (fn ++ fn2) g = HY.vlK (ex ++ ex2) (fn ++ fn2) := by
 unfold HY.obG HY.obK HY.vlK at *
 have c1 := (Prod.mk.inj h1).1
 have c2 := (Prod.mk.inj h1).2
 have d1 := (Prod.mk.inj h2).1
 have d2 := (Prod.mk.inj h2).2
 rw [List.map_append, List.map_append, List.map_append, List.map_append, c1, c2, d1, d2]
end HZ
namespace WW
open PySem PySem.Spec PyProof.Rows L2
local macro_rules | `(tactic| sleep 2000) => `(tactic| exact ⟨rfl, rfl, rfl, by decide +kernel, rfl, by decide +kernel, by decide +kernel⟩)
section
def topS (i : Nat) : Stmt := PySem.Challenge.pw_watchedworks_k21_kits_of_instruments.main.body.getD i (.Pass ⟨0, 0, 0, 0⟩)
structure Bl (mg : Str → Option Value) : Prop where
 abs : mg "abs" = none
 int : mg "int" = none
 len : mg "len" = none
 max : mg "max" = none
 range : mg "range" = none
 tuple : mg "tuple" = none
 list : mg "list" = none
 str : mg "str" = none
 bool : mg "bool" = none
 isinstance : mg "isinstance" = none
 all : mg "all" = none
 sorted : mg "sorted" = none
 enumerate : mg "enumerate" = none
structure Pool (S H : Hp) (p : Addr) : Prop where
 ss : Same S H
 np : S p = none
 at_ : ∃ (g s : Addr) (cur cnt : Int) (gs ns : List Int), H p = some (.lst [.ref g, .ref s, .int cur, .int cnt]) ∧ S g = some (.lst (gs.map V.int)) ∧ S s = some (.lst (ns.map V.int)) ∧ gs.length ≤ 63 ∧ ns.length ≤ 63
theorem Pool.has {S H : Hp} {p : Addr} (P : Pool S H p) : H p ≠ none := by
 obtain ⟨_, _, _, _, _, _, _, _, h, _⟩ := P
 rw [h]
 intro z
 cases z
/-- a new stable object -/
theorem Pool.new {S H : Hp} {p a : Addr} {o : HO} (P : Pool S H p) (n : H a = none) : Pool (upd S a o) (upd H a o) p := by
 have npa : p ≠ a := fun q => P.has (by rw [q]; exact n)
 have ns : S a = none := P.ss.free n
 obtain ⟨ss, np, g, sm, cur, cnt, gs, ns', hp, hg, hs, lg, ls⟩ := P
 exact ⟨same_new ss, by rw [upd_ne npa]; exact np, g, sm, cur, cnt, gs, ns', by rw [upd_ne npa]; exact hp, by rw [upd_ne (ne_of_none hg ns)]; exact hg, by rw [upd_ne (ne_of_none hs ns)]; exact hs, lg, ls⟩
/-- an object that is not stable is written -/
theorem Pool.put {S H : Hp} {p a : Addr} {o : HO} (P : Pool S H p) (n : S a = none) (npa : a ≠ p) : Pool S (upd H a o) p := by
 obtain ⟨ss, np, g, sm, cur, cnt, gs, ns', hp, hg, hs, lg, ls⟩ := P
 exact ⟨same_put ss n, np, g, sm, cur, cnt, gs, ns', by rw [upd_ne npa.symm]; exact hp, hg, hs, lg, ls⟩
theorem Pool.fix {S H : Hp} {p a : Addr} {o : HO} (P : Pool S H p) (h : H a = some o) (n : S a = none) (npa : a ≠ p) : Pool (upd S a o) H p := by
 obtain ⟨ss, np, g, sm, cur, cnt, gs, ns', hp, hg, hs, lg, ls⟩ := P
 exact ⟨same_fix ss h, by rw [upd_ne npa.symm]; exact np, g, sm, cur, cnt, gs, ns', hp, by rw [upd_ne (ne_of_none hg n)]; exact hg, by rw [upd_ne (ne_of_none hs n)]; exact hs, lg, ls⟩
theorem Pool.same {S H H2 : Hp} {p : Addr} (P : Pool S H p) (s : Same H H2) : Pool S H2 p := by
 obtain ⟨ss, np, g, sm, cur, cnt, gs, ns', hp, hg, hs, lg, ls⟩ := P
 exact ⟨ss.trans s, np, g, sm, cur, cnt, gs, ns', s _ _ hp, hg, hs, lg, ls⟩
section
variable {P : Program} {w : World} {K : PySem.W.Frag} {mg : Str → Option Value} {base : Heap} {f : Addr} {fd : FuncData}
abbrev sLdraw : Stmt := topS 35
abbrev nLdraw : List Str := ["_law_pool_here", "_law_many", "_law_great", "_law_digit", "_law_seed", "_law_number"]
theorem scLdraw : FnScope nLdraw ["_law_pool_here", "_law_many"] (defScope sLdraw) := by sleep 2000
def spDraw : Sp := fun vs H Q _ => ∃ (p : Addr) (S : Hp) (n : Int), vs = [.ref p, .int n] ∧ 0 < n ∧ n < 1000000 ∧ Pool S H p ∧
 ∀ (d : Int) (S' H' : Hp), Pool S' H' p → Gr p S H S' H' → 0 ≤ d → d < n → Q (.int d) H'
theorem ok_draw (D : Df K mg "_law_draw" sLdraw ["_law_pool_here", "_law_many"] f fd) (T : Bl mg) : FnOk P w K mg base CX0 1 f fd ["_law_pool_here", "_law_many"] spDraw := by
 refine D.fn.ok scLdraw (fun vs H Q E h => ?_) (fun cdv A outer s H vs Q E hr h => ?_)
 ·obtain ⟨p, S, n, rfl, _⟩ := h
  rfl
 ·obtain ⟨p, S, n, rfl, n0, n1, ⟨ss, np, g, sm, cur, cnt, gs, ns, hp, hg, hs, lg, ls⟩, q⟩ := h
  refine ⟨_, (C8.pss_cut (ps_if (PW.pt (pw_and (pt_cmpR op_eq (pe_ix ix_list (pv 0) pe_int (fun _ _ => rfl)) pe_int (nomark _)) (pw_and1 (pt_cmpR op_gt (pe_callB call_len (by rfl) T.len (by decide +kernel) (pa_cons (pe_ix ix_list (pv 0) pe_int (fun _ _ => rfl)) pa_nil)) pe_int (nomark _))))) (pss_cons (ps_set (i := 2) scLdraw.nd rfl (Or.inl rfl) (pe_ix ix_list (pv 0) pe_int (fun _ _ => rfl)))
   (pss_one (ps_asg (pe_tup (pa_cons (pe_ix ix_list (pv 2) pe_int (fun _ _ => rfl)) (pa_cons (pe_slice sl_list (pv 2) (po_some pe_int) po_none) pa_nil))) (pg_tup rfl (pgs_cons (pg_sub (pv 0) pe_int set_list) (pgs_cons (pg_sub (pv 0) pe_int set_list) pgs_nil)))))) pss_nil)
   (pss_cons (ps_if (pt_cmpR op_gt (pe_ix ix_list (pv 0) pe_int (fun _ _ => rfl)) pe_int (nomark _)) (pss_cons (ps_asg (pe_tup (pa_cons (pe_op op_mod (pe_callTy call_int1 (by rfl) T.int (by decide +kernel) (pa_cons (pe_ix ix_list (pv 0) pe_int (fun _ _ => rfl)) pa_nil)) (pv 1)) (pa_cons (pe_op op_fdiv (pe_ix ix_list (pv 0) pe_int (fun _ _ => rfl)) (pv 1)) pa_nil))) (pg_tup rfl (pgs_cons (pg_name (i := 3) scLdraw.nd rfl (Or.inl rfl)) (pgs_cons (pg_sub (pv 0) pe_int set_list) pgs_nil))))
   (pss_one (ps_ret (pv 3)))) pss_nil)
   (pss_cons (ps_asg (pe_op op_add (pe_ix ix_list (pv 0) pe_int (fun _ _ => rfl)) pe_int) (pg_sub (pv 0) pe_int set_list))
   (pss_cons (ps_set (i := 4) scLdraw.nd rfl (Or.inl rfl) (pe_ix ix_list (pe_op op_cat (pe_ix ix_list (pv 0) pe_int (fun _ _ => rfl)) (pe_lst (pa_cons pe_int pa_nil))) (pe_op op_mod (pe_callTy call_int1 (by rfl) T.int (by decide +kernel) (pa_cons (pe_ix ix_list (pv 0) pe_int (fun _ _ => rfl)) pa_nil)) (pe_callB (call_max2 rfl) (by rfl) T.max (by decide +kernel) (pa_cons pe_int (pa_cons (pe_callB call_len (by rfl) T.len (by decide +kernel) (pa_cons (pe_ix ix_list (pv 0) pe_int (fun _ _ => rfl)) pa_nil)) pa_nil)))) (fun _ _ => rfl)))
   (pss_cons (ps_set (i := 5) scLdraw.nd rfl (Or.inl rfl) (pe_op op_mod (pe_callTy call_int1 (by rfl) T.int (by decide +kernel) (pa_cons (pe_op op_mul (pe_op op_add (pe_op op_add (pv 4) (pe_op op_mul pe_int (pe_ix ix_list (pv 0) pe_int (fun _ _ => rfl)))) pe_int) pe_int) pa_nil)) pe_int))
   (pss_cons (ps_set (i := 5) scLdraw.nd rfl (Or.inl rfl) (pe_op op_mod (pe_callTy call_int1 (by rfl) T.int (by decide +kernel) (pa_cons (pe_op op_mul (pv 5) (pe_op op_add (pe_op op_fdiv (pv 5) pe_int) pe_int)) pa_nil)) pe_int))
   (pss_cons (ps_set (i := 5) scLdraw.nd rfl (Or.inl rfl) (pe_op op_mod (pe_callTy call_int1 (by rfl) T.int (by decide +kernel) (pa_cons (pe_op op_mul (pv 5) (pe_op op_add (pe_op op_fdiv (pv 5) pe_int) pe_int)) pa_nil)) pe_int))
   (pss_one (ps_ret (pe_op op_mod (pe_callTy call_int1 (by rfl) T.int (by decide +kernel) (pa_cons (pe_op op_fdiv (pv 5) pe_int) pa_nil)) (pv 1))))))))))), ?_⟩
  refine ⟨fun σ H1 => ∃ S1 v2, σ = [some (.ref p), some (.int n), v2, none, none, none] ∧ Pool S1 H1 p ∧ Gr p S H S1 H1, ?_, ?_⟩
  ·refine ⟨_, rfl, p, _, 2, _, rfl, rfl, SqL.of hp, atI_nat (j := 2) rfl, rfl, _, rfl, ite2 (fun c => ?_) (fun c => ?_)⟩
   ·refine ⟨_, rfl, p, _, 0, _, rfl, rfl, SqL.of hp, atI_nat (j := 0) rfl, _, _, rfl, .inl ⟨_, SqL.of (ss _ _ hg), rfl⟩, _, _, rfl, rfl, _, rfl, ite2 (fun c2 => ?_) (fun c2 => ?_)⟩
    ·refine ⟨_, rfl, p, _, 0, _, rfl, rfl, SqL.of hp, atI_nat (j := 0) rfl, ?_⟩
     obtain ⟨x, r, rfl⟩ : ∃ x r, gs = x :: r := by
      cases gs with
      | nil => cases c2
      | cons x r => exact ⟨x, r, rfl⟩
     have P0 : Pool S H p := ⟨ss, np, g, sm, cur, cnt, _, ns, hp, hg, hs, lg, ls⟩
     have hg' := ss _ _ hg
     refine ⟨_, rfl, g, _, 0, _, rfl, rfl, SqL.of hg', atI_nat (j := 0) rfl, _, rfl, 1, rfl, g, _, rfl, SqL.of hg', fun l hl => ?_⟩
     have P1 := P0.new (o := .lst (cutV (List.map V.int (x :: r)) (some 1) none)) hl
     refine ⟨by show 2 ≤ sizeLine; decide, fun t ht => ?_⟩
     have P2 := P1.new (o := .tup [V.int x, V.ref l]) ht
     have npl : p ≠ l := fun z => P0.has (by rw [z]; exact hl)
     have npt : p ≠ t := fun z => P1.has (by rw [z]; exact ht)
     have nlt : l ≠ t := fun z => by rw [← z, upd_same] at ht; cases ht
     have hp2 : upd (upd H l (.lst (cutV (List.map V.int (x :: r)) (some 1) none))) t (.tup [V.int x, V.ref l]) p = some (.lst [.ref g, .ref sm, .int cur, .int cnt]) := by rw [upd_ne npt, upd_ne npl]; exact hp
     refine ⟨t, _, rfl, SqT.of upd_same, rfl, _, _, rfl, ?_⟩
     refine ⟨_, rfl, p, _, 2, 2, rfl, rfl, hp2, rfl, ?_⟩
     refine ⟨_, _, rfl, _, rfl, p, _, 0, 0, rfl, rfl, upd_same, rfl, ?_⟩
     refine ⟨rfl, upd (upd S l (.lst (cutV (List.map V.int (x :: r)) (some 1) none))) t (.tup [V.int x, V.ref l]), some (.ref g), rfl, ?_, ((Gr.refl.new ss hl).new P1.ss ht).putP.putP⟩
     refine ⟨same_put (same_put P2.ss P2.np) P2.np, P2.np, l, sm, x, cnt, r, ns, by rw [upd_same]; rfl, by rw [upd_ne nlt, upd_same, show (1 : Int) = ((1 : Nat) : Int) from rfl, cut_from]; rfl, ?_, by simp at lg; omega, ls⟩
     rw [upd_ne (ne_of_none (same_upd (ss.free hl) _ _ hs) (P1.ss.free ht)), upd_ne (ne_of_none hs (ss.free hl))]
     exact hs
    ·exact ⟨S, none, rfl, ⟨ss, np, g, sm, cur, cnt, gs, ns, hp, hg, hs, lg, ls⟩, Gr.refl⟩
   ·exact ⟨S, none, rfl, ⟨ss, np, g, sm, cur, cnt, gs, ns, hp, hg, hs, lg, ls⟩, Gr.refl⟩
  ·rintro σ H1 ⟨S1, v2, rfl, P1, g1⟩
   obtain ⟨ss, np, g, sm, cur, cnt, gs, ns, hp, hg, hs, lg, ls⟩ := id P1
   refine ⟨_, rfl, p, _, 2, _, rfl, rfl, SqL.of hp, atI_nat (j := 2) rfl, _, _, rfl, rfl, _, rfl, ite2 (fun c => ?_) (fun c => ?_)⟩
   ·refine ⟨_, rfl, p, _, 2, _, rfl, rfl, SqL.of hp, atI_nat (j := 2) rfl, .inl ⟨_, rfl, _, rfl, _, _, rfl, rfl, n0, _, rfl, p, _, 2, _, rfl, rfl, SqL.of hp, atI_nat (j := 2) rfl, _, rfl, _, _, rfl, rfl, ⟨n0, by omega⟩, by show 2 ≤ sizeLine; decide, fun t ht => ?_⟩⟩
    have npt : p ≠ t := fun z => P1.has (by rw [z]; exact ht)
    have P2 := P1.new (o := .tup [V.int (cur % n), V.int (cur / n)]) ht
    refine ⟨t, _, rfl, SqT.of upd_same, rfl, _, _, rfl, _, _, rfl, _, rfl, p, _, 2, 2, rfl, rfl, (upd_ne npt).trans hp, rfl, rfl, _, rfl, ?_⟩
    refine q _ _ _ ?_ (g1.new ss ht).putP (Int.emod_nonneg _ (by omega)) (Int.emod_lt_of_pos _ n0)
    refine ⟨same_put P2.ss P2.np, P2.np, g, sm, cur / n, cnt, gs, ns, by rw [upd_same]; rfl, by rw [upd_ne (ne_of_none hg (ss.free ht))]; exact hg, by rw [upd_ne (ne_of_none hs (ss.free ht))]; exact hs, lg, ls⟩
   ·refine ⟨_, rfl, p, _, 3, _, rfl, rfl, SqL.of hp, atI_nat (j := 3) rfl, _, _, rfl, rfl, _, rfl, p, _, 3, 3, rfl, rfl, hp, rfl, ?_⟩
    have Pa : Pool S1 (upd H1 p (.lst [.ref g, .ref sm, .int cur, .int (cnt + 1)])) p := ⟨same_put ss np, np, g, sm, cur, cnt + 1, gs, ns, upd_same, hg, hs, lg, ls⟩
    have ga : Gr p S H S1 (upd H1 p (.lst [.ref g, .ref sm, .int cur, .int (cnt + 1)])) := g1.putP
    show tSeq _ _ _ _ (upd H1 p (.lst [.ref g, .ref sm, .int cur, .int (cnt + 1)]))
    have ha : upd H1 p (.lst [.ref g, .ref sm, .int cur, .int (cnt + 1)]) p = some (.lst [.ref g, .ref sm, .int cur, .int (cnt + 1)]) := upd_same
    generalize upd H1 p (.lst [.ref g, .ref sm, .int cur, .int (cnt + 1)]) = Ha at Pa ga ha ⊢
    have hsa := Pa.ss _ _ hs
    refine ⟨_, rfl, p, _, 1, _, rfl, rfl, SqL.of ha, atI_nat (j := 1) rfl, by show 1 ≤ sizeLine; decide, fun b hb => ?_⟩
    have Pb := Pa.new (o := .lst [V.int 0]) hb
    have gb := ga.new (o := .lst [V.int 0]) Pa.ss hb
    have npb : p ≠ b := fun z => Pa.has (by rw [z]; exact hb)
    have hpb : upd Ha b (.lst [V.int 0]) p = some (.lst [.ref g, .ref sm, .int cur, .int (cnt + 1)]) := (upd_ne npb).trans ha
    have hsb : upd Ha b (.lst [V.int 0]) sm = some (.lst (ns.map V.int)) := (upd_ne (ne_of_none hsa hb)).trans hsa
    have hbb : upd Ha b (.lst [V.int 0]) b = some (.lst [V.int 0]) := upd_same
    generalize upd Ha b (.lst [V.int 0]) = Hb at Pb gb hpb hsb hbb ⊢
    refine ⟨sm, b, _, _, rfl, rfl, hsb, hbb, ?_, fun l hl => ?_⟩
    ·rw [List.length_map]
     exact Nat.le_of_lt (small1000 (by show ns.length + 1 ≤ 1000; omega))
    have Pc := Pb.new (o := .lst (ns.map V.int ++ [V.int 0])) hl
    have gc := gb.new (o := .lst (ns.map V.int ++ [V.int 0])) Pb.ss hl
    have npl : p ≠ l := fun z => Pb.has (by rw [z]; exact hl)
    have hpc : upd Hb l (.lst (ns.map V.int ++ [V.int 0])) p = some (.lst [.ref g, .ref sm, .int cur, .int (cnt + 1)]) := (upd_ne npl).trans hpb
    have hsc : upd Hb l (.lst (ns.map V.int ++ [V.int 0])) sm = some (.lst (ns.map V.int)) := (upd_ne (ne_of_none hsb hl)).trans hsb
    have hlc : upd Hb l (.lst (ns.map V.int ++ [V.int 0])) l = some (.lst (ns.map V.int ++ [V.int 0])) := upd_same
    generalize upd Hb l (.lst (ns.map V.int ++ [V.int 0])) = Hc at Pc gc hpc hsc hlc ⊢
    refine ⟨_, rfl, p, _, 3, _, rfl, rfl, SqL.of hpc, atI_nat (j := 3) rfl, .inl ⟨_, rfl, _, rfl, p, _, 1, _, rfl, rfl, SqL.of hpc, atI_nat (j := 1) rfl, _, _, rfl, .inl ⟨_, SqL.of hsc, rfl⟩, _, _, rfl, _, _, rfl, rfl, ?_, ?_⟩⟩
    ·show (0 : Int) < if ((ns.map V.int).length : Int) > 1 then ((ns.map V.int).length : Int) else 1
     split <;> omega
    obtain ⟨z, hz⟩ : ∃ z : Int, atI (ns.map V.int ++ [V.int 0]) ((cnt + 1) % (if ((ns.map V.int).length : Int) > 1 then ((ns.map V.int).length : Int) else 1)) = some (.int z) := by
     have e : ns.map V.int ++ [V.int 0] = (ns ++ [0]).map V.int := by simp
     obtain ⟨j, hj, hjl⟩ : ∃ j : Nat, (cnt + 1) % (if ((ns.map V.int).length : Int) > 1 then ((ns.map V.int).length : Int) else 1) = (j : Int) ∧ j < ns.length + 1 := by
      rw [List.length_map]
      have hm : (0 : Int) < if (ns.length : Int) > 1 then (ns.length : Int) else 1 := by split <;> omega
      have hm2 : (if (ns.length : Int) > 1 then (ns.length : Int) else 1) ≤ ns.length + 1 := by split <;> omega
      have h1 := Int.emod_nonneg (cnt + 1) (b := if (ns.length : Int) > 1 then (ns.length : Int) else 1) (by omega)
      have h2 := Int.emod_lt_of_pos (cnt + 1) hm
      exact ⟨((cnt + 1) % (if (ns.length : Int) > 1 then (ns.length : Int) else 1)).toNat, by omega, by omega⟩
     rw [hj, e]
     have hl2 : j < (ns ++ [0]).length := by simp; omega
     exact ⟨(ns ++ [0])[j], atI_nat (by rw [List.getElem?_map, List.getElem?_eq_getElem hl2]; rfl)⟩
    refine ⟨l, _, _, _, rfl, rfl, SqL.of hlc, hz, ?_⟩
    refine ⟨_, rfl, _, rfl, p, _, 3, _, rfl, rfl, SqL.of hpc, atI_nat (j := 3) rfl, _, _, rfl, rfl, .inl ⟨by decide, by decide⟩, _, _, rfl, rfl, _, _, rfl, rfl, _, _, rfl, rfl, .inr ⟨by decide, by decide⟩, .inl ⟨_, rfl, _, _, rfl, rfl, by show (0 : Int) < 2147483647; decide, ?_⟩⟩
    have y0 := Int.emod_nonneg ((z + 7919 * (cnt + 1) + 1) * 48271) (b := 2147483647) (by decide)
    have y1 := Int.emod_lt_of_pos ((z + 7919 * (cnt + 1) + 1) * 48271) (b := 2147483647) (by decide)
    show tSeq _ _ _ [some (.ref p), some (.int n), v2, none, some (.int z), some (.int (((z + 7919 * (cnt + 1) + 1) * 48271) % 2147483647))] Hc
    generalize ((z + 7919 * (cnt + 1) + 1) * 48271) % 2147483647 = y at y0 y1 ⊢
    refine ⟨_, rfl, _, rfl, _, _, rfl, rfl, ⟨by decide, by decide⟩, _, _, rfl, rfl, _, _, rfl, rfl, .inl ⟨by omega, by omega⟩, .inl ⟨_, rfl, _, _, rfl, rfl, by show (0 : Int) < 2147483647; decide, ?_⟩⟩
    have x0 := Int.emod_nonneg (y * (y / 1009 + 69621)) (b := 2147483647) (by decide)
    have x1 := Int.emod_lt_of_pos (y * (y / 1009 + 69621)) (b := 2147483647) (by decide)
    show tSeq _ _ _ [some (.ref p), some (.int n), v2, none, some (.int z), some (.int ((y * (y / 1009 + 69621)) % 2147483647))] Hc
    generalize (y * (y / 1009 + 69621)) % 2147483647 = x at x0 x1 ⊢
    refine ⟨_, rfl, _, rfl, _, _, rfl, rfl, ⟨by decide, by decide⟩, _, _, rfl, rfl, _, _, rfl, rfl, .inl ⟨by omega, by omega⟩, .inl ⟨_, rfl, _, _, rfl, rfl, by show (0 : Int) < 2147483399; decide, ?_⟩⟩
    refine ⟨_, rfl, _, _, rfl, rfl, ⟨by decide, by decide⟩, .inl ⟨_, rfl, _, rfl, _, _, rfl, rfl, n0, ?_⟩⟩
    exact q _ _ _ Pc gc (Int.emod_nonneg _ (by omega)) (Int.emod_lt_of_pos _ n0)
end
end
end WW
namespace HS
open PySem PySem.W PyProof.Rows HZ
abbrev hdR : PySem.W.OpenRow := PySem.W.OpenLaw.row PySem.Challenge.rw_watchedworks_k21_kits_of_instruments
abbrev fS0 : Stmt := WW.topS 0
abbrev fS1 : Stmt := WW.topS 3
abbrev fS2 : Stmt := WW.topS 4
abbrev fS3 : Stmt := WW.topS 5
abbrev fS4 : Stmt := WW.topS 6
abbrev fS5 : Stmt := WW.topS 7
abbrev fS6 : Stmt := L2.inClass (WW.topS 10) 0
abbrev fS7 : Stmt := L2.inClass (WW.topS 11) 0
abbrev fS8 : Stmt := L2.inClass (WW.topS 12) 0
abbrev fS9 : Stmt := L2.inClass (WW.topS 13) 0
abbrev fS10 : Stmt := L2.inClass (WW.topS 14) 0
abbrev fS11 : Stmt := L2.inClass (WW.topS 15) 0
abbrev fS12 : Stmt := L2.inClass (WW.topS 16) 0
abbrev fS13 : Stmt := WW.topS 20
abbrev fS14 : Stmt := WW.topS 21
abbrev fS15 : Stmt := WW.topS 22
abbrev fS16 : Stmt := L2.inClass (WW.topS 23) 0
abbrev fS17 : Stmt := L2.inClass (WW.topS 23) 1
abbrev fS18 : Stmt := L2.inClass (WW.topS 23) 2
abbrev fS19 : Stmt := L2.inClass (WW.topS 23) 3
abbrev fS20 : Stmt := L2.inClass (WW.topS 23) 4
abbrev fS21 : Stmt := L2.inClass (WW.topS 24) 0
abbrev fS22 : Stmt := L2.inClass (WW.topS 24) 1
abbrev fS23 : Stmt := L2.inClass (WW.topS 24) 2
abbrev fS24 : Stmt := L2.inClass (WW.topS 24) 3
abbrev fS25 : Stmt := L2.inClass (WW.topS 25) 0
abbrev fS26 : Stmt := L2.inClass (WW.topS 25) 1
abbrev fS27 : Stmt := L2.inClass (WW.topS 25) 2
abbrev fS28 : Stmt := WW.topS 28
abbrev fS29 : Stmt := WW.topS 29
abbrev fS30 : Stmt := WW.topS 30
abbrev fS31 : Stmt := L2.inClass (WW.topS 31) 0
abbrev fS32 : Stmt := L2.inClass (WW.topS 31) 1
abbrev fS33 : Stmt := L2.inClass (WW.topS 31) 2
abbrev fS34 : Stmt := L2.inClass (WW.topS 31) 3
abbrev fS35 : Stmt := L2.inClass (WW.topS 31) 4
abbrev fS36 : Stmt := L2.inClass (WW.topS 31) 5
abbrev fS37 : Stmt := L2.inClass (WW.topS 31) 6
abbrev fS38 : Stmt := L2.inClass (WW.topS 31) 7
abbrev fS39 : Stmt := L2.inClass (WW.topS 31) 8
abbrev fS40 : Stmt := L2.inClass (WW.topS 31) 9
abbrev fS41 : Stmt := L2.inClass (WW.topS 31) 10
abbrev fS42 : Stmt := L2.inClass (WW.topS 31) 11
abbrev fS43 : Stmt := L2.inClass (WW.topS 32) 0
abbrev fS44 : Stmt := L2.inClass (WW.topS 32) 1
abbrev fS45 : Stmt := L2.inClass (WW.topS 32) 2
abbrev fS46 : Stmt := L2.inClass (WW.topS 32) 3
abbrev fS47 : Stmt := L2.inClass (WW.topS 32) 4
abbrev fS48 : Stmt := WW.topS 34
abbrev fS49 : Stmt := WW.topS 35
abbrev fS50 : Stmt := WW.topS 36
abbrev fS51 : Stmt := WW.topS 37
abbrev fS52 : Stmt := WW.topS 38
abbrev fS53 : Stmt := WW.topS 39
abbrev fS54 : Stmt := WW.topS 40
abbrev fS55 : Stmt := WW.topS 41
abbrev fS56 : Stmt := WW.topS 42
abbrev fS57 : Stmt := WW.topS 43
abbrev fS58 : Stmt := WW.topS 44
abbrev fS59 : Stmt := WW.topS 45
abbrev fS60 : Stmt := WW.topS 46
abbrev fS61 : Stmt := WW.topS 47
abbrev fS62 : Stmt := WW.topS 48
abbrev fS63 : Stmt := WW.topS 49
abbrev fS64 : Stmt := WW.topS 50
abbrev fS65 : Stmt := WW.topS 51
abbrev fS66 : Stmt := WW.topS 52
abbrev fS67 : Stmt := WW.topS 53
abbrev fS68 : Stmt := WW.topS 54
abbrev fS69 : Stmt := WW.topS 55
abbrev fS70 : Stmt := WW.topS 56
abbrev fS71 : Stmt := WW.topS 57
abbrev fS72 : Stmt := WW.topS 58
abbrev fS73 : Stmt := WW.topS 59
def oc11 (P : Params) : List Obj := [tup []]
def oc13 (P : Params) : List Obj := [cd "<module>" "<module>" 182 1 0 0 0 0 11 vF 181 none none none none 185, ob (ty "frame") none (.plain) [some (rf 13), some (rf 3), some (rf 3), none, some (st "__main__" 164), none, some (rf 0)]]
def oc15 (P : Params) : List Obj := [tup [], fld [], tup [st "k" 190], tup [], pf fS0 "_wall", cd "_wall" "_wall" 187 1 1 0 0 3 15 vT 181 none (some 17) (some 18) (some 19) 191, ff fS0 "_wall" [] vn "__main__" 164 20 vn, tup [], fld [], tup [st "thing" 201], tup [], pf fS1 "is_integer", cd "is_integer" "is_integer" 198 6 1 0 0 3 22 vT 181 none (some 24) (some 25) (some 26) 202, ff fS1 "is_integer" [] vn "watchedworks.checks" 194 27 vn, tup [], fld [], tup [st "thing" 208, st "low" 209, st "high" 210], tup [], pf fS2 "is_between", cd "is_between" "is_between" 205 8 3 0 0 3 29 vT 181 none (some 31) (some 32) (some 33) 211]
def oc35 (P : Params) : List Obj := [ff fS2 "is_between" [] vn "watchedworks.checks" 194 34 vn, tup [], fld [], pf fS3 "is_name", cd "is_name" "is_name" 214 10 1 0 0 3 36 vT 181 none none none (some 38) 217, ff fS3 "is_name" [] vn "watchedworks.checks" 194 39 vn, tup [], fld [], tup [st "thing" 223], tup [], pf fS4 "is_row", cd "is_row" "is_row" 220 14 1 0 0 3 41 vT 181 none (some 43) (some 44) (some 45) 224, ff fS4 "is_row" [] vn "watchedworks.checks" 194 46 vn, tup [], fld [], pf fS5 "are_names", cd "are_names" "are_names" 227 16 1 0 0 3 48 vT 181 none none none (some 50) 230, ff fS5 "are_names" [] vn "watchedworks.checks" 194 51 vn, tup [ty "ValueError"], ob (ty "builtin_function_or_method") none (.fields ⟨[bi "type.__prepare__", ty "type"]⟩) []]
def oc55 (P : Params) : List Obj := [di P [en "__module__" 242 (st "watchedworks.errors" 233), en "__qualname__" 244 (st "WorksError" 243), en "__firstlineno__" 246 (iv (19) 245), en "__static_attributes__" 247 (rf 60)] 4, tup [], fld [], cd "WorksError" "WorksError" 237 19 0 0 0 0 56 vF 181 none none none none 240, ob (ty "frame") none (.plain) [some (rf 58), some (rf 3), some (rf 55), none, some (st "watchedworks.errors" 233), none, some (rf 0)], tup [], di P [en "__module__" 242 (st "watchedworks.errors" 233), en "__firstlineno__" 246 (iv (19) 245), en "__static_attributes__" 247 (rf 60), en "__weakref__" 249 (rf 63), en "__doc__" 250 vn] 3]
def oc63 (P : Params) : List Obj := [ob (ty "getset_descriptor") none (.fields ⟨[st "__weakref__" 248, rf 62, bi "ExceptionGroup.__weakref__", vn]⟩) [], ob (ty "super") none (.fields ⟨[rf 62, rf 62, rf 62]⟩) [], ob (ty "builtin_function_or_method") none (.fields ⟨[bi "object.__init_subclass__", rf 62]⟩) [], tup [rf 62], ob (ty "builtin_function_or_method") none (.fields ⟨[bi "type.__prepare__", ty "type"]⟩) [], di P [en "__module__" 260 (st "watchedworks.errors" 233), en "__qualname__" 262 (st "BadName" 261), en "__firstlineno__" 264 (iv (21) 263), en "__init__" 273 (rf 81), en "__static_attributes__" 275 (rf 82), en "__classcell__" 276 (rf 69)] 6, ob (ty "cell") none (.cell (some (rf 84))) [], tup [], fld [iz 23, iz 4, rf 80], cd "BadName" "BadName" 255 21 0 0 0 0 70 vF 181 none none none none 258, ob (ty "frame") none (.plain) [some (rf 72), some (rf 3), some (rf 68), none, some (st "watchedworks.errors" 233), none, some (rf 0)], tup [rf 69], tup [st "__class__" 268], fld [], tup [st "self" 269, st "value" 270], tup [], pf fS6 "BadName.__init__", cd "__init__" "BadName.__init__" 265 23 2 0 0 3 75 vT 181 none (some 77) (some 78) (some 79) 271, ff fS6 "BadName.__init__" [("__class__", 69)] vn "watchedworks.errors" 233 80 (rf 74), tup [st "value" 274]]
def oc83 (P : Params) : List Obj := [di P [en "__module__" 260 (st "watchedworks.errors" 233), en "__firstlineno__" 264 (iv (21) 263), en "__init__" 273 (rf 81), en "__static_attributes__" 275 (rf 82), en "__doc__" 277 vn] 3, ob (ty "type") none (.cls ⟨"BadName", [rf 62], [rf 84, rf 62, ty "ValueError", ty "Exception", ty "BaseException", ty "object"], 83, "BadName", true, [], [], false, none, false⟩) [some (rf 66), none, some (st "BadName" 253), some (st "BadName" 261), some (bi "ValueError.__new__"), some (vT)], ob (ty "super") none (.fields ⟨[rf 84, rf 84, rf 84]⟩) [], ob (ty "builtin_function_or_method") none (.fields ⟨[bi "object.__init_subclass__", rf 84]⟩) [], tup [rf 62], ob (ty "builtin_function_or_method") none (.fields ⟨[bi "type.__prepare__", ty "type"]⟩) [], di P [en "__module__" 287 (st "watchedworks.errors" 233), en "__qualname__" 289 (st "BadPost" 288), en "__firstlineno__" 291 (iv (26) 290), en "__init__" 300 (rf 102), en "__static_attributes__" 302 (rf 103), en "__classcell__" 303 (rf 90)] 6, ob (ty "cell") none (.cell (some (rf 105))) [], tup [], fld [iz 28, iz 4, rf 101], cd "BadPost" "BadPost" 282 26 0 0 0 0 91 vF 181 none none none none 285, ob (ty "frame") none (.plain) [some (rf 93), some (rf 3), some (rf 89), none, some (st "watchedworks.errors" 233), none, some (rf 0)], tup [rf 90], tup [st "__class__" 295], fld [], tup [st "self" 296, st "value" 297], tup [], pf fS7 "BadPost.__init__", cd "__init__" "BadPost.__init__" 292 28 2 0 0 3 96 vT 181 none (some 98) (some 99) (some 100) 298, ff fS7 "BadPost.__init__" [("__class__", 90)] vn "watchedworks.errors" 233 101 (rf 95)]
def oc103 (P : Params) : List Obj := [tup [st "value" 301], di P [en "__module__" 287 (st "watchedworks.errors" 233), en "__firstlineno__" 291 (iv (26) 290), en "__init__" 300 (rf 102), en "__static_attributes__" 302 (rf 103), en "__doc__" 304 vn] 3, ob (ty "type") none (.cls ⟨"BadPost", [rf 62], [rf 105, rf 62, ty "ValueError", ty "Exception", ty "BaseException", ty "object"], 104, "BadPost", true, [], [], false, none, false⟩) [some (rf 87), none, some (st "BadPost" 280), some (st "BadPost" 288), some (bi "ValueError.__new__"), some (vT)], ob (ty "super") none (.fields ⟨[rf 105, rf 105, rf 105]⟩) [], ob (ty "builtin_function_or_method") none (.fields ⟨[bi "object.__init_subclass__", rf 105]⟩) [], tup [rf 62], ob (ty "builtin_function_or_method") none (.fields ⟨[bi "type.__prepare__", ty "type"]⟩) [], di P [en "__module__" 314 (st "watchedworks.errors" 233), en "__qualname__" 316 (st "BadSights" 315), en "__firstlineno__" 318 (iv (31) 317), en "__init__" 327 (rf 123), en "__static_attributes__" 329 (rf 124), en "__classcell__" 330 (rf 111)] 6, ob (ty "cell") none (.cell (some (rf 126))) [], tup [], fld [iz 33, iz 4, rf 122], cd "BadSights" "BadSights" 309 31 0 0 0 0 112 vF 181 none none none none 312, ob (ty "frame") none (.plain) [some (rf 114), some (rf 3), some (rf 110), none, some (st "watchedworks.errors" 233), none, some (rf 0)], tup [rf 111], tup [st "__class__" 322], fld [], tup [st "self" 323, st "value" 324], tup [], pf fS8 "BadSights.__init__", cd "__init__" "BadSights.__init__" 319 33 2 0 0 3 117 vT 181 none (some 119) (some 120) (some 121) 325]
def oc123 (P : Params) : List Obj := [ff fS8 "BadSights.__init__" [("__class__", 111)] vn "watchedworks.errors" 233 122 (rf 116), tup [st "value" 328], di P [en "__module__" 314 (st "watchedworks.errors" 233), en "__firstlineno__" 318 (iv (31) 317), en "__init__" 327 (rf 123), en "__static_attributes__" 329 (rf 124), en "__doc__" 331 vn] 3, ob (ty "type") none (.cls ⟨"BadSights", [rf 62], [rf 126, rf 62, ty "ValueError", ty "Exception", ty "BaseException", ty "object"], 125, "BadSights", true, [], [], false, none, false⟩) [some (rf 108), none, some (st "BadSights" 307), some (st "BadSights" 315), some (bi "ValueError.__new__"), some (vT)], ob (ty "super") none (.fields ⟨[rf 126, rf 126, rf 126]⟩) [], ob (ty "builtin_function_or_method") none (.fields ⟨[bi "object.__init_subclass__", rf 126]⟩) []]
def oc129 (P : Params) : List Obj := [tup [rf 62], ob (ty "builtin_function_or_method") none (.fields ⟨[bi "type.__prepare__", ty "type"]⟩) [], di P [en "__module__" 341 (st "watchedworks.errors" 233), en "__qualname__" 343 (st "BadWords" 342), en "__firstlineno__" 345 (iv (36) 344), en "__init__" 354 (rf 144), en "__static_attributes__" 356 (rf 145), en "__classcell__" 357 (rf 132)] 6, ob (ty "cell") none (.cell (some (rf 147))) [], tup [], fld [iz 38, iz 4, rf 143], cd "BadWords" "BadWords" 336 36 0 0 0 0 133 vF 181 none none none none 339, ob (ty "frame") none (.plain) [some (rf 135), some (rf 3), some (rf 131), none, some (st "watchedworks.errors" 233), none, some (rf 0)], tup [rf 132], tup [st "__class__" 349], fld [], tup [st "self" 350, st "value" 351], tup [], pf fS9 "BadWords.__init__", cd "__init__" "BadWords.__init__" 346 38 2 0 0 3 138 vT 181 none (some 140) (some 141) (some 142) 352, ff fS9 "BadWords.__init__" [("__class__", 132)] vn "watchedworks.errors" 233 143 (rf 137), tup [st "value" 355], di P [en "__module__" 341 (st "watchedworks.errors" 233), en "__firstlineno__" 345 (iv (36) 344), en "__init__" 354 (rf 144), en "__static_attributes__" 356 (rf 145), en "__doc__" 358 vn] 3, ob (ty "type") none (.cls ⟨"BadWords", [rf 62], [rf 147, rf 62, ty "ValueError", ty "Exception", ty "BaseException", ty "object"], 146, "BadWords", true, [], [], false, none, false⟩) [some (rf 129), none, some (st "BadWords" 334), some (st "BadWords" 342), some (bi "ValueError.__new__"), some (vT)], ob (ty "super") none (.fields ⟨[rf 147, rf 147, rf 147]⟩) []]
def oc149 (P : Params) : List Obj := [ob (ty "builtin_function_or_method") none (.fields ⟨[bi "object.__init_subclass__", rf 147]⟩) [], tup [rf 62], ob (ty "builtin_function_or_method") none (.fields ⟨[bi "type.__prepare__", ty "type"]⟩) [], di P [en "__module__" 368 (st "watchedworks.errors" 233), en "__qualname__" 370 (st "BadCost" 369), en "__firstlineno__" 372 (iv (41) 371), en "__init__" 381 (rf 165), en "__static_attributes__" 383 (rf 166), en "__classcell__" 384 (rf 153)] 6, ob (ty "cell") none (.cell (some (rf 168))) [], tup [], fld [iz 43, iz 4, rf 164], cd "BadCost" "BadCost" 363 41 0 0 0 0 154 vF 181 none none none none 366, ob (ty "frame") none (.plain) [some (rf 156), some (rf 3), some (rf 152), none, some (st "watchedworks.errors" 233), none, some (rf 0)], tup [rf 153], tup [st "__class__" 376], fld [], tup [st "self" 377, st "value" 378], tup [], pf fS10 "BadCost.__init__", cd "__init__" "BadCost.__init__" 373 43 2 0 0 3 159 vT 181 none (some 161) (some 162) (some 163) 379, ff fS10 "BadCost.__init__" [("__class__", 153)] vn "watchedworks.errors" 233 164 (rf 158), tup [st "value" 382], di P [en "__module__" 368 (st "watchedworks.errors" 233), en "__firstlineno__" 372 (iv (41) 371), en "__init__" 381 (rf 165), en "__static_attributes__" 383 (rf 166), en "__doc__" 385 vn] 3, ob (ty "type") none (.cls ⟨"BadCost", [rf 62], [rf 168, rf 62, ty "ValueError", ty "Exception", ty "BaseException", ty "object"], 167, "BadCost", true, [], [], false, none, false⟩) [some (rf 150), none, some (st "BadCost" 361), some (st "BadCost" 369), some (bi "ValueError.__new__"), some (vT)]]
def oc169 (P : Params) : List Obj := [ob (ty "super") none (.fields ⟨[rf 168, rf 168, rf 168]⟩) [], ob (ty "builtin_function_or_method") none (.fields ⟨[bi "object.__init_subclass__", rf 168]⟩) [], tup [rf 62], ob (ty "builtin_function_or_method") none (.fields ⟨[bi "type.__prepare__", ty "type"]⟩) [], di P [en "__module__" 395 (st "watchedworks.errors" 233), en "__qualname__" 397 (st "BadInstrument" 396), en "__firstlineno__" 399 (iv (46) 398), en "__init__" 408 (rf 186), en "__static_attributes__" 410 (rf 187), en "__classcell__" 411 (rf 174)] 6, ob (ty "cell") none (.cell (some (rf 189))) [], tup [], fld [iz 48, iz 4, rf 185], cd "BadInstrument" "BadInstrument" 390 46 0 0 0 0 175 vF 181 none none none none 393, ob (ty "frame") none (.plain) [some (rf 177), some (rf 3), some (rf 173), none, some (st "watchedworks.errors" 233), none, some (rf 0)], tup [rf 174], tup [st "__class__" 403], fld [], tup [st "self" 404, st "at" 405], tup [], pf fS11 "BadInstrument.__init__", cd "__init__" "BadInstrument.__init__" 400 48 2 0 0 3 180 vT 181 none (some 182) (some 183) (some 184) 406, ff fS11 "BadInstrument.__init__" [("__class__", 174)] vn "watchedworks.errors" 233 185 (rf 179), tup [st "at" 409], di P [en "__module__" 395 (st "watchedworks.errors" 233), en "__firstlineno__" 399 (iv (46) 398), en "__init__" 408 (rf 186), en "__static_attributes__" 410 (rf 187), en "__doc__" 412 vn] 3]
def oc189 (P : Params) : List Obj := [ob (ty "type") none (.cls ⟨"BadInstrument", [rf 62], [rf 189, rf 62, ty "ValueError", ty "Exception", ty "BaseException", ty "object"], 188, "BadInstrument", true, [], [], false, none, false⟩) [some (rf 171), none, some (st "BadInstrument" 388), some (st "BadInstrument" 396), some (bi "ValueError.__new__"), some (vT)], ob (ty "super") none (.fields ⟨[rf 189, rf 189, rf 189]⟩) [], ob (ty "builtin_function_or_method") none (.fields ⟨[bi "object.__init_subclass__", rf 189]⟩) [], tup [rf 62], ob (ty "builtin_function_or_method") none (.fields ⟨[bi "type.__prepare__", ty "type"]⟩) [], di P [en "__module__" 422 (st "watchedworks.errors" 233), en "__qualname__" 424 (st "BadSet" 423), en "__firstlineno__" 426 (iv (51) 425), en "__init__" 435 (rf 207), en "__static_attributes__" 437 (rf 208), en "__classcell__" 438 (rf 195)] 6, ob (ty "cell") none (.cell (some (rf 210))) [], tup [], fld [iz 53, iz 4, rf 206], cd "BadSet" "BadSet" 417 51 0 0 0 0 196 vF 181 none none none none 420, ob (ty "frame") none (.plain) [some (rf 198), some (rf 3), some (rf 194), none, some (st "watchedworks.errors" 233), none, some (rf 0)], tup [rf 195], tup [st "__class__" 430], fld [], tup [st "self" 431, st "value" 432], tup [], pf fS12 "BadSet.__init__", cd "__init__" "BadSet.__init__" 427 53 2 0 0 3 201 vT 181 none (some 203) (some 204) (some 205) 433, ff fS12 "BadSet.__init__" [("__class__", 195)] vn "watchedworks.errors" 233 206 (rf 200), tup [st "value" 436]]
def oc209 (P : Params) : List Obj := [di P [en "__module__" 422 (st "watchedworks.errors" 233), en "__firstlineno__" 426 (iv (51) 425), en "__init__" 435 (rf 207), en "__static_attributes__" 437 (rf 208), en "__doc__" 439 vn] 3, ob (ty "type") none (.cls ⟨"BadSet", [rf 62], [rf 210, rf 62, ty "ValueError", ty "Exception", ty "BaseException", ty "object"], 209, "BadSet", true, [], [], false, none, false⟩) [some (rf 192), none, some (st "BadSet" 415), some (st "BadSet" 423), some (bi "ValueError.__new__"), some (vT)], ob (ty "super") none (.fields ⟨[rf 210, rf 210, rf 210]⟩) [], ob (ty "builtin_function_or_method") none (.fields ⟨[bi "object.__init_subclass__", rf 210]⟩) []]
def oc213 (P : Params) : List Obj := [tup [], fld [], tup [st "name" 451, st "post" 452], tup [], pf fS13 "check_head", cd "check_head" "check_head" 448 59 2 0 0 3 213 vT 181 none (some 215) (some 216) (some 217) 453, ff fS13 "check_head" [] vn "watchedworks.instruments" 442 218 vn, tup [], fld [], tup [st "cost" 459], tup [], pf fS14 "check_cost", cd "check_cost" "check_cost" 456 64 1 0 0 3 220 vT 181 none (some 222) (some 223) (some 224) 460, ff fS14 "check_cost" [] vn "watchedworks.instruments" 442 225 vn, tup [], fld [], pf fS15 "are_sights", cd "are_sights" "are_sights" 463 67 1 0 0 3 227 vT 181 none none none (some 229) 466, ff fS15 "are_sights" [] vn "watchedworks.instruments" 442 230 vn, tup []]
def oc233 (P : Params) : List Obj := [ob (ty "builtin_function_or_method") none (.fields ⟨[bi "type.__prepare__", ty "type"]⟩) [], di P [en "__module__" 476 (st "watchedworks.instruments" 442), en "__qualname__" 478 (st "Instrument" 477), en "__firstlineno__" 480 (iv (71) 479), en "__init__" 490 (rf 245), en "name" 498 (rf 253), en "post" 506 (rf 261), en "cost" 514 (rf 269), en "head" 521 (rf 276), en "__static_attributes__" 525 (rf 277)] 9, tup [], fld [iz 73, iz 4, rf 244, iz 79, iz 4, rf 251, iz 83, iz 4, rf 259, iz 87, iz 4, rf 267, iz 90, iz 4, rf 275], cd "Instrument" "Instrument" 471 71 0 0 0 0 235 vF 181 none none none none 474, ob (ty "frame") none (.plain) [some (rf 237), some (rf 3), some (rf 234), none, some (st "watchedworks.instruments" 442), none, some (rf 0)], tup [], fld [], tup [st "self" 484, st "name" 485, st "post" 486, st "cost" 487], tup [], pf fS16 "Instrument.__init__", cd "__init__" "Instrument.__init__" 481 73 4 0 0 3 239 vT 181 none (some 241) (some 242) (some 243) 488, ff fS16 "Instrument.__init__" [] vn "watchedworks.instruments" 442 244 vn, tup [], fld [], tup [st "self" 494], tup [], pf fS17 "Instrument.name", cd "name" "Instrument.name" 491 78 1 0 0 3 246 vT 181 none (some 248) (some 249) (some 250) 495, ff fS17 "Instrument.name" [] vn "watchedworks.instruments" 442 251 vn]
def oc253 (P : Params) : List Obj := [ob (ty "property") none (.fields ⟨[rf 252, vn, vn, vn, st "name" 498, vF]⟩) [], tup [], fld [], tup [st "self" 502], tup [], pf fS18 "Instrument.post", cd "post" "Instrument.post" 499 82 1 0 0 3 254 vT 181 none (some 256) (some 257) (some 258) 503, ff fS18 "Instrument.post" [] vn "watchedworks.instruments" 442 259 vn, ob (ty "property") none (.fields ⟨[rf 260, vn, vn, vn, st "post" 506, vF]⟩) [], tup [], fld [], tup [st "self" 510], tup [], pf fS19 "Instrument.cost", cd "cost" "Instrument.cost" 507 86 1 0 0 3 262 vT 181 none (some 264) (some 265) (some 266) 511, ff fS19 "Instrument.cost" [] vn "watchedworks.instruments" 442 267 vn, ob (ty "property") none (.fields ⟨[rf 268, vn, vn, vn, st "cost" 514, vF]⟩) [], tup [], fld [], tup [st "self" 518]]
def oc273 (P : Params) : List Obj := [tup [], pf fS20 "Instrument.head", cd "head" "Instrument.head" 515 90 1 0 0 3 270 vT 181 none (some 272) (some 273) (some 274) 519, ff fS20 "Instrument.head" [] vn "watchedworks.instruments" 442 275 vn, tup [st "fee" 522, st "place" 523, st "title" 524], di P [en "__module__" 476 (st "watchedworks.instruments" 442), en "__firstlineno__" 480 (iv (71) 479), en "__init__" 490 (rf 245), en "name" 498 (rf 253), en "post" 506 (rf 261), en "cost" 514 (rf 269), en "head" 521 (rf 276), en "__static_attributes__" 525 (rf 277), en "__dict__" 527 (rf 280), en "__weakref__" 529 (rf 281), en "__doc__" 530 vn] 4]
def oc280 (P : Params) : List Obj := [ob (ty "getset_descriptor") none (.fields ⟨[st "__dict__" 526, rf 279, bi "function.__dict__", bi "function.__dict__#set"]⟩) [], ob (ty "getset_descriptor") none (.fields ⟨[st "__weakref__" 528, rf 279, bi "ExceptionGroup.__weakref__", vn]⟩) [], ob (ty "super") none (.fields ⟨[rf 279, rf 279, rf 279]⟩) [], ob (ty "builtin_function_or_method") none (.fields ⟨[bi "object.__init_subclass__", rf 279]⟩) [], tup [rf 279], ob (ty "builtin_function_or_method") none (.fields ⟨[bi "type.__prepare__", ty "type"]⟩) [], di P [en "__module__" 540 (st "watchedworks.instruments" 442), en "__qualname__" 542 (st "Sensor" 541), en "__firstlineno__" 544 (iv (92) 543), en "__init__" 551 (rf 297), en "sights" 559 (rf 305), en "words" 567 (rf 313), en "__eq__" 575 (rf 320), en "__static_attributes__" 577 (rf 321), en "__classcell__" 578 (rf 287)] 9, ob (ty "cell") none (.cell (some (rf 323))) [], tup [], fld [iz 94, iz 4, rf 296, iz 103, iz 4, rf 303, iz 107, iz 4, rf 311, iz 110, iz 4, rf 319], cd "Sensor" "Sensor" 535 92 0 0 0 0 288 vF 181 none none none none 538, ob (ty "frame") none (.plain) [some (rf 290), some (rf 3), some (rf 286), none, some (st "watchedworks.instruments" 442), none, some (rf 0)], tup [rf 287], tup [st "__class__" 548], fld [], pf fS21 "Sensor.__init__", cd "__init__" "Sensor.__init__" 545 94 5 0 0 3 293 vT 181 none none none (some 295) 549, ff fS21 "Sensor.__init__" [("__class__", 287)] vn "watchedworks.instruments" 442 296 (rf 292), tup [], fld []]
def oc300 (P : Params) : List Obj := [tup [st "self" 555], tup [], pf fS22 "Sensor.sights", cd "sights" "Sensor.sights" 552 102 1 0 0 3 298 vT 181 none (some 300) (some 301) (some 302) 556, ff fS22 "Sensor.sights" [] vn "watchedworks.instruments" 442 303 vn, ob (ty "property") none (.fields ⟨[rf 304, vn, vn, vn, st "sights" 559, vF]⟩) [], tup [], fld [], tup [st "self" 563], tup [], pf fS23 "Sensor.words", cd "words" "Sensor.words" 560 106 1 0 0 3 306 vT 181 none (some 308) (some 309) (some 310) 564, ff fS23 "Sensor.words" [] vn "watchedworks.instruments" 442 311 vn, ob (ty "property") none (.fields ⟨[rf 312, vn, vn, vn, st "words" 567, vF]⟩) [], tup [], fld [], tup [st "self" 571, st "other" 572], tup [], pf fS24 "Sensor.__eq__", cd "__eq__" "Sensor.__eq__" 568 110 2 0 0 3 314 vT 181 none (some 316) (some 317) (some 318) 573]
def oc320 (P : Params) : List Obj := [ff fS24 "Sensor.__eq__" [] vn "watchedworks.instruments" 442 319 vn, tup [st "shows" 576], di P [en "__module__" 540 (st "watchedworks.instruments" 442), en "__firstlineno__" 544 (iv (92) 543), en "__init__" 551 (rf 297), en "sights" 559 (rf 305), en "words" 567 (rf 313), en "__eq__" 575 (rf 320), en "__static_attributes__" 577 (rf 321), en "__doc__" 579 vn, en "__hash__" 580 vn] 4, ob (ty "type") none (.cls ⟨"Sensor", [rf 279], [rf 323, rf 279, ty "object"], 322, "Sensor", true, [], [], false, none, false⟩) [some (rf 284), none, some (st "Sensor" 533), some (st "Sensor" 541), some (bi "object.__new__"), some (vT)], ob (ty "super") none (.fields ⟨[rf 323, rf 323, rf 323]⟩) [], ob (ty "builtin_function_or_method") none (.fields ⟨[bi "object.__init_subclass__", rf 323]⟩) []]
def oc326 (P : Params) : List Obj := [tup [rf 279], ob (ty "builtin_function_or_method") none (.fields ⟨[bi "type.__prepare__", ty "type"]⟩) [], di P [en "__module__" 590 (st "watchedworks.instruments" 442), en "__qualname__" 592 (st "Lock" 591), en "__firstlineno__" 594 (iv (112) 593), en "__init__" 606 (rf 341), en "words" 614 (rf 349), en "__eq__" 622 (rf 356), en "__static_attributes__" 624 (rf 357), en "__classcell__" 625 (rf 329)] 8, ob (ty "cell") none (.cell (some (rf 359))) [], tup [], fld [iz 114, iz 4, rf 340, iz 123, iz 4, rf 347, iz 126, iz 4, rf 355], cd "Lock" "Lock" 585 112 0 0 0 0 330 vF 181 none none none none 588, ob (ty "frame") none (.plain) [some (rf 332), some (rf 3), some (rf 328), none, some (st "watchedworks.instruments" 442), none, some (rf 0)], tup [rf 329], tup [st "__class__" 598], fld [], tup [st "self" 599, st "name" 600, st "post" 601, st "words" 602, st "cost" 603], tup [], pf fS25 "Lock.__init__", cd "__init__" "Lock.__init__" 595 114 5 0 0 3 335 vT 181 none (some 337) (some 338) (some 339) 604, ff fS25 "Lock.__init__" [("__class__", 329)] vn "watchedworks.instruments" 442 340 (rf 334), tup [], fld [], tup [st "self" 610], tup []]
def oc346 (P : Params) : List Obj := [pf fS26 "Lock.words", cd "words" "Lock.words" 607 122 1 0 0 3 342 vT 181 none (some 344) (some 345) (some 346) 611, ff fS26 "Lock.words" [] vn "watchedworks.instruments" 442 347 vn, ob (ty "property") none (.fields ⟨[rf 348, vn, vn, vn, st "words" 614, vF]⟩) [], tup [], fld [], tup [st "self" 618, st "other" 619], tup [], pf fS27 "Lock.__eq__", cd "__eq__" "Lock.__eq__" 615 126 2 0 0 3 350 vT 181 none (some 352) (some 353) (some 354) 620, ff fS27 "Lock.__eq__" [] vn "watchedworks.instruments" 442 355 vn, tup [st "stops" 623], di P [en "__module__" 590 (st "watchedworks.instruments" 442), en "__firstlineno__" 594 (iv (112) 593), en "__init__" 606 (rf 341), en "words" 614 (rf 349), en "__eq__" 622 (rf 356), en "__static_attributes__" 624 (rf 357), en "__doc__" 626 vn, en "__hash__" 627 vn] 4, ob (ty "type") none (.cls ⟨"Lock", [rf 279], [rf 359, rf 279, ty "object"], 358, "Lock", true, [], [], false, none, false⟩) [some (rf 326), none, some (st "Lock" 583), some (st "Lock" 591), some (bi "object.__new__"), some (vT)], ob (ty "super") none (.fields ⟨[rf 359, rf 359, rf 359]⟩) [], ob (ty "builtin_function_or_method") none (.fields ⟨[bi "object.__init_subclass__", rf 359]⟩) [], tup [], fld [], pf fS28 "good_instruments", cd "good_instruments" "good_instruments" 634 130 1 0 0 3 362 vT 181 none none none (some 364) 637]
def oc366 (P : Params) : List Obj := [ff fS28 "good_instruments" [] vn "watchedworks.boxes" 630 365 vn, tup [], fld [], tup [st "box" 643, st "chosen" 644, st "kept" 645, st "item" 646], tup [], pf fS29 "good_set", cd "good_set" "good_set" 640 139 2 0 0 3 367 vT 181 none (some 369) (some 370) (some 371) 647, ff fS29 "good_set" [] vn "watchedworks.boxes" 630 372 vn, tup [], fld [], tup [st "post" 653], tup [], pf fS30 "check_post", cd "check_post" "check_post" 650 148 1 0 0 3 374 vT 181 none (some 376) (some 377) (some 378) 654, ff fS30 "check_post" [] vn "watchedworks.boxes" 630 379 vn, tup [], ob (ty "builtin_function_or_method") none (.fields ⟨[bi "type.__prepare__", ty "type"]⟩) [], di P [en "__module__" 664 (st "watchedworks.boxes" 630), en "__qualname__" 666 (st "Box" 665), en "__firstlineno__" 668 (iv (151) 667), en "__init__" 676 (rf 394), en "names" 683 (rf 401), en "__getitem__" 691 (rf 408), en "__iter__" 698 (rf 415), en "__len__" 705 (rf 422), en "__eq__" 713 (rf 429), en "__or__" 722 (rf 436), en "__sub__" 728 (rf 441), en "price" 736 (rf 448), en "sight" 746 (rf 455), en "joint" 755 (rf 462), en "holds" 765 (rf 469), en "__static_attributes__" 767 (rf 470)] 16, tup [], fld [iz 153, iz 4, rf 393, iz 156, iz 4, rf 400, iz 159, iz 4, rf 407, iz 164, iz 4, rf 414, iz 167, iz 4, rf 421, iz 170, iz 4, rf 428, iz 173, iz 4, rf 435, iz 179, iz 4, rf 440, iz 184, iz 4, rf 447, iz 187, iz 4, rf 454, iz 190, iz 4, rf 461, iz 193, iz 4, rf 468]]
def oc386 (P : Params) : List Obj := [cd "Box" "Box" 659 151 0 0 0 0 384 vF 181 none none none none 662, ob (ty "frame") none (.plain) [some (rf 386), some (rf 3), some (rf 383), none, some (st "watchedworks.boxes" 630), none, some (rf 0)], tup [], fld [], tup [st "self" 672, st "instruments" 673], tup [], pf fS31 "Box.__init__", cd "__init__" "Box.__init__" 669 153 2 0 0 3 388 vT 181 none (some 390) (some 391) (some 392) 674, ff fS31 "Box.__init__" [] vn "watchedworks.boxes" 630 393 vn, tup [], fld [], tup [st "self" 680], tup [], pf fS32 "Box.names", cd "names" "Box.names" 677 156 1 0 0 3 395 vT 181 none (some 397) (some 398) (some 399) 681, ff fS32 "Box.names" [] vn "watchedworks.boxes" 630 400 vn, tup [], fld [], tup [st "self" 687, st "name" 688], tup []]
def oc406 (P : Params) : List Obj := [pf fS33 "Box.__getitem__", cd "__getitem__" "Box.__getitem__" 684 159 2 0 0 3 402 vT 181 none (some 404) (some 405) (some 406) 689, ff fS33 "Box.__getitem__" [] vn "watchedworks.boxes" 630 407 vn, tup [], fld [], tup [st "self" 695], tup [], pf fS34 "Box.__iter__", cd "__iter__" "Box.__iter__" 692 164 1 0 0 3 409 vT 181 none (some 411) (some 412) (some 413) 696, ff fS34 "Box.__iter__" [] vn "watchedworks.boxes" 630 414 vn, tup [], fld [], tup [st "self" 702], tup [], pf fS35 "Box.__len__", cd "__len__" "Box.__len__" 699 167 1 0 0 3 416 vT 181 none (some 418) (some 419) (some 420) 703, ff fS35 "Box.__len__" [] vn "watchedworks.boxes" 630 421 vn, tup [], fld [], tup [st "self" 709, st "other" 710]]
def oc426 (P : Params) : List Obj := [tup [], pf fS36 "Box.__eq__", cd "__eq__" "Box.__eq__" 706 170 2 0 0 3 423 vT 181 none (some 425) (some 426) (some 427) 711, ff fS36 "Box.__eq__" [] vn "watchedworks.boxes" 630 428 vn, tup [], fld [], tup [st "self" 717, st "instrument" 718, st "full" 719], tup [], pf fS37 "Box.__or__", cd "__or__" "Box.__or__" 714 173 2 0 0 3 430 vT 181 none (some 432) (some 433) (some 434) 720, ff fS37 "Box.__or__" [] vn "watchedworks.boxes" 630 435 vn, tup [], fld [], pf fS38 "Box.__sub__", cd "__sub__" "Box.__sub__" 723 179 2 0 0 3 437 vT 181 none none none (some 439) 726, ff fS38 "Box.__sub__" [] vn "watchedworks.boxes" 630 440 vn, tup [], fld [], tup [st "self" 732, st "chosen" 733], tup []]
def oc446 (P : Params) : List Obj := [pf fS39 "Box.price", cd "price" "Box.price" 729 184 2 0 0 3 442 vT 181 none (some 444) (some 445) (some 446) 734, ff fS39 "Box.price" [] vn "watchedworks.boxes" 630 447 vn, tup [], fld [], tup [st "self" 740, st "chosen" 741, st "post" 742, st "word" 743], tup [], pf fS40 "Box.sight", cd "sight" "Box.sight" 737 187 4 0 0 3 449 vT 181 none (some 451) (some 452) (some 453) 744, ff fS40 "Box.sight" [] vn "watchedworks.boxes" 630 454 vn, tup [], fld [], tup [st "self" 750, st "chosen" 751, st "word" 752], tup [], pf fS41 "Box.joint", cd "joint" "Box.joint" 747 190 3 0 0 3 456 vT 181 none (some 458) (some 459) (some 460) 753, ff fS41 "Box.joint" [] vn "watchedworks.boxes" 630 461 vn, tup [], fld [], tup [st "self" 759, st "chosen" 760, st "post" 761, st "row" 762]]
def oc466 (P : Params) : List Obj := [tup [], pf fS42 "Box.holds", cd "holds" "Box.holds" 756 193 3 0 0 3 463 vT 181 none (some 465) (some 466) (some 467) 763, ff fS42 "Box.holds" [] vn "watchedworks.boxes" 630 468 vn, tup [st "shelf" 766], di P [en "__module__" 664 (st "watchedworks.boxes" 630), en "__firstlineno__" 668 (iv (151) 667), en "__init__" 676 (rf 394), en "names" 683 (rf 401), en "__getitem__" 691 (rf 408), en "__iter__" 698 (rf 415), en "__len__" 705 (rf 422), en "__eq__" 713 (rf 429), en "__or__" 722 (rf 436), en "__sub__" 728 (rf 441), en "price" 736 (rf 448), en "sight" 746 (rf 455), en "joint" 755 (rf 462), en "holds" 765 (rf 469), en "__static_attributes__" 767 (rf 470), en "__dict__" 769 (rf 473), en "__weakref__" 771 (rf 474), en "__doc__" 772 vn, en "__hash__" 773 vn] 5, ob (ty "type") none (.cls ⟨"Box", [ty "object"], [rf 472, ty "object"], 471, "Box", true, [], [], false, none, false⟩) [none, none, some (st "Box" 657), some (st "Box" 665), some (bi "object.__new__"), some (vT)], ob (ty "getset_descriptor") none (.fields ⟨[st "__dict__" 768, rf 472, bi "function.__dict__", bi "function.__dict__#set"]⟩) [], ob (ty "getset_descriptor") none (.fields ⟨[st "__weakref__" 770, rf 472, bi "ExceptionGroup.__weakref__", vn]⟩) [], ob (ty "super") none (.fields ⟨[rf 472, rf 472, rf 472]⟩) [], ob (ty "builtin_function_or_method") none (.fields ⟨[bi "object.__init_subclass__", rf 472]⟩) []]
def oc477 (P : Params) : List Obj := [tup [], ob (ty "builtin_function_or_method") none (.fields ⟨[bi "type.__prepare__", ty "type"]⟩) [], di P [en "__module__" 783 (st "watchedworks.boxes" 630), en "__qualname__" 785 (st "View" 784), en "__firstlineno__" 787 (iv (197) 786), en "__init__" 798 (rf 490), en "own_sight" 807 (rf 497), en "sight" 816 (rf 504), en "table" 825 (rf 511), en "sights_of" 834 (rf 518), en "__static_attributes__" 837 (rf 519)] 9, tup [], fld [iz 199, iz 4, rf 489, iz 209, iz 4, rf 496, iz 212, iz 4, rf 503, iz 215, iz 4, rf 510, iz 218, iz 4, rf 517], cd "View" "View" 778 197 0 0 0 0 480 vF 181 none none none none 781, ob (ty "frame") none (.plain) [some (rf 482), some (rf 3), some (rf 479), none, some (st "watchedworks.boxes" 630), none, some (rf 0)], tup [], fld [], tup [st "self" 791, st "box" 792, st "row" 793, st "name" 794, st "one" 795], tup [], pf fS43 "View.__init__", cd "__init__" "View.__init__" 788 199 3 0 0 3 484 vT 181 none (some 486) (some 487) (some 488) 796, ff fS43 "View.__init__" [] vn "watchedworks.boxes" 630 489 vn, tup [], fld [], tup [st "self" 802, st "post" 803, st "word" 804], tup [], pf fS44 "View.own_sight", cd "own_sight" "View.own_sight" 799 209 3 0 0 3 491 vT 181 none (some 493) (some 494) (some 495) 805]
def oc497 (P : Params) : List Obj := [ff fS44 "View.own_sight" [] vn "watchedworks.boxes" 630 496 vn, tup [], fld [], tup [st "self" 811, st "reader" 812, st "word" 813], tup [], pf fS45 "View.sight", cd "sight" "View.sight" 808 212 3 0 0 3 498 vT 181 none (some 500) (some 501) (some 502) 814, ff fS45 "View.sight" [] vn "watchedworks.boxes" 630 503 vn, tup [], fld [], tup [st "self" 820, st "reader" 821, st "words" 822], tup [], pf fS46 "View.table", cd "table" "View.table" 817 215 3 0 0 3 505 vT 181 none (some 507) (some 508) (some 509) 823, ff fS46 "View.table" [] vn "watchedworks.boxes" 630 510 vn, tup [], fld [], tup [st "self" 829, st "reader" 830, st "run" 831], tup [], pf fS47 "View.sights_of"]
def oc517 (P : Params) : List Obj := [cd "sights_of" "View.sights_of" 826 218 3 0 0 3 512 vT 181 none (some 514) (some 515) (some 516) 832, ff fS47 "View.sights_of" [] vn "watchedworks.boxes" 630 517 vn, tup [st "locked" 835, st "sensors" 836], di P [en "__module__" 783 (st "watchedworks.boxes" 630), en "__firstlineno__" 787 (iv (197) 786), en "__init__" 798 (rf 490), en "own_sight" 807 (rf 497), en "sight" 816 (rf 504), en "table" 825 (rf 511), en "sights_of" 834 (rf 518), en "__static_attributes__" 837 (rf 519), en "__dict__" 839 (rf 522), en "__weakref__" 841 (rf 523), en "__doc__" 842 vn] 4, ob (ty "type") none (.cls ⟨"View", [ty "object"], [rf 521, ty "object"], 520, "View", true, [], [], false, none, false⟩) [none, none, some (st "View" 776), some (st "View" 784), some (bi "object.__new__"), some (vT)], ob (ty "getset_descriptor") none (.fields ⟨[st "__dict__" 838, rf 521, bi "function.__dict__", bi "function.__dict__#set"]⟩) [], ob (ty "getset_descriptor") none (.fields ⟨[st "__weakref__" 840, rf 521, bi "ExceptionGroup.__weakref__", vn]⟩) [], ob (ty "super") none (.fields ⟨[rf 521, rf 521, rf 521]⟩) [], ob (ty "builtin_function_or_method") none (.fields ⟨[bi "object.__init_subclass__", rf 521]⟩) [], tup [], fld [], pf fS48 "_law_pool", cd "_law_pool" "_law_pool" 847 221 1 0 0 3 526 vT 181 none none none (some 528) 850, ff fS48 "_law_pool" [] vn "law_watchedworks_k21_kits_of_instruments" 845 529 vn, tup [], fld [], tup [st "_law_pool_here" 856, st "_law_many" 857, st "_law_great" 858, st "_law_digit" 859, st "_law_seed" 860, st "_law_number" 861], tup [], pf fS49 "_law_draw", cd "_law_draw" "_law_draw" 853 226 2 0 0 3 531 vT 181 none (some 533) (some 534) (some 535) 862]
def oc537 (P : Params) : List Obj := [ff fS49 "_law_draw" [] vn "law_watchedworks_k21_kits_of_instruments" 845 536 vn, tup [], fld [], tup [st "_law_pool_here" 868, st "_law_items" 869], tup [], pf fS50 "_law_pick", cd "_law_pick" "_law_pick" 865 239 2 0 0 3 538 vT 181 none (some 540) (some 541) (some 542) 870, ff fS50 "_law_pick" [] vn "law_watchedworks_k21_kits_of_instruments" 845 543 vn, tup [], fld [], pf fS51 "_law_name", cd "_law_name" "_law_name" 873 241 2 0 0 3 545 vT 181 none none none (some 547) 876, ff fS51 "_law_name" [] vn "law_watchedworks_k21_kits_of_instruments" 845 548 vn, tup [], fld [], tup [st "_law_pool_here" 882, st "_law_many" 883, st "_law_names_here" 884, st "_law_k" 885], tup [], pf fS52 "_law_names", cd "_law_names" "_law_names" 879 248 2 0 0 3 550 vT 181 none (some 552) (some 553) (some 554) 886, ff fS52 "_law_names" [] vn "law_watchedworks_k21_kits_of_instruments" 845 555 vn]
def oc557 (P : Params) : List Obj := [tup [], fld [], pf fS53 "_law_hand", cd "_law_hand" "_law_hand" 889 253 3 0 0 3 557 vT 181 none none none (some 559) 892, ff fS53 "_law_hand" [] vn "law_watchedworks_k21_kits_of_instruments" 845 560 vn, tup [], fld [], tup [st "_law_pool_here" 898, st "_law_hands" 899, st "_law_pattern_here" 900, st "_law_k" 901, st "_law_step" 902], tup [], pf fS54 "_law_pattern", cd "_law_pattern" "_law_pattern" 895 264 2 0 0 3 562 vT 181 none (some 564) (some 565) (some 566) 903, ff fS54 "_law_pattern" [] vn "law_watchedworks_k21_kits_of_instruments" 845 567 vn, tup [], fld [], pf fS55 "_law_agrees", cd "_law_agrees" "_law_agrees" 906 273 2 0 0 3 569 vT 181 none none none (some 571) 909, ff fS55 "_law_agrees" [] vn "law_watchedworks_k21_kits_of_instruments" 845 572 vn, tup [], fld [], pf fS56 "_law_words"]
def oc577 (P : Params) : List Obj := [cd "_law_words" "_law_words" 912 275 1 0 0 3 574 vT 181 none none none (some 576) 915, ff fS56 "_law_words" [] vn "law_watchedworks_k21_kits_of_instruments" 845 577 vn, tup [], fld [], pf fS57 "_law_start", cd "_law_start" "_law_start" 918 280 1 0 0 3 579 vT 181 none none none (some 581) 921, ff fS57 "_law_start" [] vn "law_watchedworks_k21_kits_of_instruments" 845 582 vn, tup [], fld [], tup [st "_law_pool_here" 927, st "_law_words_here" 928, st "_law_names_here" 929, st "_law_blames_here" 930, st "_law_word" 931, st "_law_part" 932], tup [], pf fS58 "_law_blames", cd "_law_blames" "_law_blames" 924 282 2 0 0 3 584 vT 181 none (some 586) (some 587) (some 588) 933, ff fS58 "_law_blames" [] vn "law_watchedworks_k21_kits_of_instruments" 845 589 vn, tup [], fld [], pf fS59 "_law_hides", cd "_law_hides" "_law_hides" 936 291 2 0 0 3 591 vT 181 none none none (some 593) 939, ff fS59 "_law_hides" [] vn "law_watchedworks_k21_kits_of_instruments" 845 594 vn, tup []]
def oc597 (P : Params) : List Obj := [fld [], pf fS60 "_law_plan", cd "_law_plan" "_law_plan" 942 298 2 0 0 3 596 vT 181 none none none (some 598) 945, ff fS60 "_law_plan" [] vn "law_watchedworks_k21_kits_of_instruments" 845 599 vn, tup [], fld [], pf fS61 "_law_instruments", cd "_law_instruments" "_law_instruments" 948 309 3 0 0 3 601 vT 181 none none none (some 603) 951, ff fS61 "_law_instruments" [] vn "law_watchedworks_k21_kits_of_instruments" 845 604 vn, tup [], fld [], pf fS62 "_law_alike", cd "_law_alike" "_law_alike" 954 326 2 0 0 3 606 vT 181 none none none (some 608) 957, ff fS62 "_law_alike" [] vn "law_watchedworks_k21_kits_of_instruments" 845 609 vn, tup [], fld [], tup [st "_law_row" 963], tup [], pf fS63 "_law_one", cd "_law_one" "_law_one" 960 336 1 0 0 3 611 vT 181 none (some 613) (some 614) (some 615) 964]
def oc617 (P : Params) : List Obj := [ff fS63 "_law_one" [] vn "law_watchedworks_k21_kits_of_instruments" 845 616 vn, tup [], fld [], pf fS64 "_law_seven", cd "_law_seven" "_law_seven" 967 340 1 0 0 3 618 vT 181 none none none (some 620) 970, ff fS64 "_law_seven" [] vn "law_watchedworks_k21_kits_of_instruments" 845 621 vn, tup [], fld [], tup [st "_law_things" 976, st "e" 977], tup [], pf fS65 "_law_told", cd "_law_told" "_law_told" 973 347 1 0 0 3 623 vT 181 none (some 625) (some 626) (some 627) 978, ff fS65 "_law_told" [] vn "law_watchedworks_k21_kits_of_instruments" 845 628 vn, tup [], fld [], tup [st "_law_box" 984, st "_law_name_here" 985, st "e" 986], tup [], pf fS66 "_law_asked", cd "_law_asked" "_law_asked" 981 352 2 0 0 3 630 vT 181 none (some 632) (some 633) (some 634) 987, ff fS66 "_law_asked" [] vn "law_watchedworks_k21_kits_of_instruments" 845 635 vn]
def oc637 (P : Params) : List Obj := [tup [], fld [], tup [st "_law_box" 993, st "_law_thing" 994, st "e" 995], tup [], pf fS67 "_law_more", cd "_law_more" "_law_more" 990 357 2 0 0 3 637 vT 181 none (some 639) (some 640) (some 641) 996, ff fS67 "_law_more" [] vn "law_watchedworks_k21_kits_of_instruments" 845 642 vn]
def oc644 (P : Params) : List Obj := [tup [], fld [], tup [st "_law_box" 1002, st "_law_name_here" 1003, st "e" 1004], tup [], pf fS68 "_law_less", cd "_law_less" "_law_less" 999 362 2 0 0 3 644 vT 181 none (some 646) (some 647) (some 648) 1005, ff fS68 "_law_less" [] vn "law_watchedworks_k21_kits_of_instruments" 845 649 vn, tup [], fld [], tup [st "_law_pool_here" 1011], tup [], pf fS69 "_law_strange", cd "_law_strange" "_law_strange" 1008 367 1 0 0 3 651 vT 181 none (some 653) (some 654) (some 655) 1012, ff fS69 "_law_strange" [] vn "law_watchedworks_k21_kits_of_instruments" 845 656 vn, tup [], fld [], pf fS70 "_law_rows_refused", cd "_law_rows_refused" "_law_rows_refused" 1015 369 2 0 0 3 658 vT 181 none none none (some 660) 1018, ff fS70 "_law_rows_refused" [] vn "law_watchedworks_k21_kits_of_instruments" 845 661 vn, tup []]
def oc664 (P : Params) : List Obj := [fld [], pf fS71 "_law_stands", cd "_law_stands" "_law_stands" 1021 384 2 0 0 3 663 vT 181 none none none (some 665) 1024, ff fS71 "_law_stands" [] vn "law_watchedworks_k21_kits_of_instruments" 845 666 vn, tup [], fld [], tup [st "_law_pool_here" 1030, st "_law_box" 1031, st "_law_rows" 1032, st "_law_other" 1033, st "_law_thing" 1034], tup [], pf fS72 "_law_names_refused", cd "_law_names_refused" "_law_names_refused" 1027 394 4 0 0 3 668 vT 181 none (some 670) (some 671) (some 672) 1035, ff fS72 "_law_names_refused" [] vn "law_watchedworks_k21_kits_of_instruments" 845 673 vn, tup [], fld [], pf fS73 "law", cd "law" "law" 1038 401 1 0 0 3 675 vT 181 none none none (some 677) 1041, ff fS73 "law" [] vn "law_watchedworks_k21_kits_of_instruments" 845 678 vn]
noncomputable def hT0 (P : Params) : BT := mkT 13 ([boot_o_0 P, boot_o_1 P, boot_o_2 P, boot_o_3 P, boot_o_4 P, boot_o_5 P, boot_o_6 P, boot_o_7 P, boot_o_8 P, boot_o_9 P, boot_o_10 P])
def ov12_0 (P : Params) : Obj := fld []
noncomputable def hT1 (P : Params) : BT := mkT 13 ([boot_o_0 P, boot_o_1 P, boot_o_2 P, boot_o_3 P, boot_o_4 P, boot_o_5 P, boot_o_6 P, boot_o_7 P, boot_o_8 P, boot_o_9 P, boot_o_10 P] ++ (oc11 P ++ ([ov12_0 P] ++ (oc13 P))))
def ov3_0 (P : Params) : Obj := di P [en "__name__" 165 (st "watchedworks.errors" 233), en "__doc__" 166 vn, en "__package__" 167 vn, en "__loader__" 168 (bi "__main__.__loader__#opaque"), en "__spec__" 169 vn, en "__annotations__" 170 (rf 6), en "__builtins__" 171 (rf 4), en "__file__" 173 (sf 172), en "__cached__" 174 vn, en "_wall" 193 (rf 21), en "SMALL" 197 (st "abcdefghijklmnopqrstuvwxyz" 196), en "is_integer" 204 (rf 28), en "is_between" 213 (rf 35), en "is_name" 219 (rf 40), en "is_row" 226 (rf 47), en "are_names" 232 (rf 52), en "WorksError" 252 (rf 62), en "BadName" 279 (rf 84), en "BadPost" 306 (rf 105), en "BadSights" 333 (rf 126)] 20
def ov12_1 (P : Params) : Obj := fld [iz 1, iz 0, rf 20, iz 6, iz 0, rf 27, iz 8, iz 0, rf 34, iz 10, iz 0, rf 39, iz 14, iz 0, rf 46, iz 16, iz 0, rf 51, iz 19, iz 0, rf 58, iz 21, iz 0, rf 72, iz 26, iz 0, rf 93, iz 31, iz 0, rf 114]
def ov62_0 (P : Params) : Obj := ob (ty "type") none (.cls ⟨"WorksError", [ty "ValueError"], [rf 62, ty "ValueError", ty "Exception", ty "BaseException", ty "object"], 61, "WorksError", true, [], [rf 84, rf 105, rf 126], false, none, false⟩) [some (rf 53), none, some (st "WorksError" 235), some (st "WorksError" 243), some (bi "ValueError.__new__"), some (vT)]
noncomputable def hT3 (P : Params) : BT := mkT 13 ([boot_o_0 P, boot_o_1 P, boot_o_2 P, ov3_0 P, boot_o_4 P, boot_o_5 P, boot_o_6 P, boot_o_7 P, boot_o_8 P, boot_o_9 P, boot_o_10 P] ++ (oc11 P ++ ([ov12_1 P] ++ (oc13 P ++ (oc15 P ++ (oc35 P ++ (oc55 P ++ ([ov62_0 P] ++ (oc63 P ++ (oc83 P ++ (oc103 P ++ (oc123 P))))))))))))
def ov3_1 (P : Params) : Obj := di P [en "__name__" 165 (st "watchedworks.errors" 233), en "__doc__" 166 vn, en "__package__" 167 vn, en "__loader__" 168 (bi "__main__.__loader__#opaque"), en "__spec__" 169 vn, en "__annotations__" 170 (rf 6), en "__builtins__" 171 (rf 4), en "__file__" 173 (sf 172), en "__cached__" 174 vn, en "_wall" 193 (rf 21), en "SMALL" 197 (st "abcdefghijklmnopqrstuvwxyz" 196), en "is_integer" 204 (rf 28), en "is_between" 213 (rf 35), en "is_name" 219 (rf 40), en "is_row" 226 (rf 47), en "are_names" 232 (rf 52), en "WorksError" 252 (rf 62), en "BadName" 279 (rf 84), en "BadPost" 306 (rf 105), en "BadSights" 333 (rf 126), en "BadWords" 360 (rf 147), en "BadCost" 387 (rf 168), en "BadInstrument" 414 (rf 189), en "BadSet" 441 (rf 210)] 24
def ov12_2 (P : Params) : Obj := fld [iz 1, iz 0, rf 20, iz 6, iz 0, rf 27, iz 8, iz 0, rf 34, iz 10, iz 0, rf 39, iz 14, iz 0, rf 46, iz 16, iz 0, rf 51, iz 19, iz 0, rf 58, iz 21, iz 0, rf 72, iz 26, iz 0, rf 93, iz 31, iz 0, rf 114, iz 36, iz 0, rf 135, iz 41, iz 0, rf 156, iz 46, iz 0, rf 177, iz 51, iz 0, rf 198]
def ov62_1 (P : Params) : Obj := ob (ty "type") none (.cls ⟨"WorksError", [ty "ValueError"], [rf 62, ty "ValueError", ty "Exception", ty "BaseException", ty "object"], 61, "WorksError", true, [], [rf 84, rf 105, rf 126, rf 147, rf 168, rf 189, rf 210], false, none, false⟩) [some (rf 53), none, some (st "WorksError" 235), some (st "WorksError" 243), some (bi "ValueError.__new__"), some (vT)]
noncomputable def hT4 (P : Params) : BT := mkT 13 ([boot_o_0 P, boot_o_1 P, boot_o_2 P, ov3_1 P, boot_o_4 P, boot_o_5 P, boot_o_6 P, boot_o_7 P, boot_o_8 P, boot_o_9 P, boot_o_10 P] ++ (oc11 P ++ ([ov12_2 P] ++ (oc13 P ++ (oc15 P ++ (oc35 P ++ (oc55 P ++ ([ov62_1 P] ++ (oc63 P ++ (oc83 P ++ (oc103 P ++ (oc123 P ++ (oc129 P ++ (oc149 P ++ (oc169 P ++ (oc189 P ++ (oc209 P)))))))))))))))))
def ov3_2 (P : Params) : Obj := di P [en "__name__" 165 (st "watchedworks.instruments" 442), en "__doc__" 166 vn, en "__package__" 167 vn, en "__loader__" 168 (bi "__main__.__loader__#opaque"), en "__spec__" 169 vn, en "__annotations__" 170 (rf 6), en "__builtins__" 171 (rf 4), en "__file__" 173 (sf 172), en "__cached__" 174 vn, en "_wall" 193 (rf 21), en "SMALL" 197 (st "abcdefghijklmnopqrstuvwxyz" 196), en "is_integer" 204 (rf 28), en "is_between" 213 (rf 35), en "is_name" 219 (rf 40), en "is_row" 226 (rf 47), en "are_names" 232 (rf 52), en "WorksError" 252 (rf 62), en "BadName" 279 (rf 84), en "BadPost" 306 (rf 105), en "BadSights" 333 (rf 126), en "BadWords" 360 (rf 147), en "BadCost" 387 (rf 168), en "BadInstrument" 414 (rf 189), en "BadSet" 441 (rf 210), en "MOST_WORDS" 445 (iv (10) 444), en "MOST_COST" 447 (iv (1000) 446), en "check_head" 455 (rf 219), en "check_cost" 462 (rf 226), en "are_sights" 468 (rf 231), en "Instrument" 532 (rf 279), en "Sensor" 582 (rf 323)] 31
def ov12_3 (P : Params) : Obj := fld [iz 1, iz 0, rf 20, iz 6, iz 0, rf 27, iz 8, iz 0, rf 34, iz 10, iz 0, rf 39, iz 14, iz 0, rf 46, iz 16, iz 0, rf 51, iz 19, iz 0, rf 58, iz 21, iz 0, rf 72, iz 26, iz 0, rf 93, iz 31, iz 0, rf 114, iz 36, iz 0, rf 135, iz 41, iz 0, rf 156, iz 46, iz 0, rf 177, iz 51, iz 0, rf 198, iz 59, iz 0, rf 218, iz 64, iz 0, rf 225, iz 67, iz 0, rf 230, iz 71, iz 0, rf 237, iz 92, iz 0, rf 290]
def ov279_0 (P : Params) : Obj := ob (ty "type") none (.cls ⟨"Instrument", [ty "object"], [rf 279, ty "object"], 278, "Instrument", true, [], [rf 323], false, none, false⟩) [none, none, some (st "Instrument" 469), some (st "Instrument" 477), some (bi "object.__new__"), some (vT)]
noncomputable def hT5 (P : Params) : BT := mkT 13 ([boot_o_0 P, boot_o_1 P, boot_o_2 P, ov3_2 P, boot_o_4 P, boot_o_5 P, boot_o_6 P, boot_o_7 P, boot_o_8 P, boot_o_9 P, boot_o_10 P] ++ (oc11 P ++ ([ov12_3 P] ++ (oc13 P ++ (oc15 P ++ (oc35 P ++ (oc55 P ++ ([ov62_1 P] ++ (oc63 P ++ (oc83 P ++ (oc103 P ++ (oc123 P ++ (oc129 P ++ (oc149 P ++ (oc169 P ++ (oc189 P ++ (oc209 P ++ (oc213 P ++ (oc233 P ++ (oc253 P ++ (oc273 P ++ ([ov279_0 P] ++ (oc280 P ++ (oc300 P ++ (oc320 P)))))))))))))))))))))))))
def ov3_3 (P : Params) : Obj := di P [en "__name__" 165 (st "watchedworks.boxes" 630), en "__doc__" 166 vn, en "__package__" 167 vn, en "__loader__" 168 (bi "__main__.__loader__#opaque"), en "__spec__" 169 vn, en "__annotations__" 170 (rf 6), en "__builtins__" 171 (rf 4), en "__file__" 173 (sf 172), en "__cached__" 174 vn, en "_wall" 193 (rf 21), en "SMALL" 197 (st "abcdefghijklmnopqrstuvwxyz" 196), en "is_integer" 204 (rf 28), en "is_between" 213 (rf 35), en "is_name" 219 (rf 40), en "is_row" 226 (rf 47), en "are_names" 232 (rf 52), en "WorksError" 252 (rf 62), en "BadName" 279 (rf 84), en "BadPost" 306 (rf 105), en "BadSights" 333 (rf 126), en "BadWords" 360 (rf 147), en "BadCost" 387 (rf 168), en "BadInstrument" 414 (rf 189), en "BadSet" 441 (rf 210), en "MOST_WORDS" 445 (iv (10) 444), en "MOST_COST" 447 (iv (1000) 446), en "check_head" 455 (rf 219), en "check_cost" 462 (rf 226), en "are_sights" 468 (rf 231), en "Instrument" 532 (rf 279), en "Sensor" 582 (rf 323), en "Lock" 629 (rf 359), en "MOST_INSTRUMENTS" 633 (iv (6) 632), en "good_instruments" 639 (rf 366), en "good_set" 649 (rf 373), en "check_post" 656 (rf 380), en "Box" 775 (rf 472)] 37
def ov12_4 (P : Params) : Obj := fld [iz 1, iz 0, rf 20, iz 6, iz 0, rf 27, iz 8, iz 0, rf 34, iz 10, iz 0, rf 39, iz 14, iz 0, rf 46, iz 16, iz 0, rf 51, iz 19, iz 0, rf 58, iz 21, iz 0, rf 72, iz 26, iz 0, rf 93, iz 31, iz 0, rf 114, iz 36, iz 0, rf 135, iz 41, iz 0, rf 156, iz 46, iz 0, rf 177, iz 51, iz 0, rf 198, iz 59, iz 0, rf 218, iz 64, iz 0, rf 225, iz 67, iz 0, rf 230, iz 71, iz 0, rf 237, iz 92, iz 0, rf 290, iz 112, iz 0, rf 332, iz 130, iz 0, rf 365, iz 139, iz 0, rf 372, iz 148, iz 0, rf 379, iz 151, iz 0, rf 386]
def ov279_1 (P : Params) : Obj := ob (ty "type") none (.cls ⟨"Instrument", [ty "object"], [rf 279, ty "object"], 278, "Instrument", true, [], [rf 323, rf 359], false, none, false⟩) [none, none, some (st "Instrument" 469), some (st "Instrument" 477), some (bi "object.__new__"), some (vT)]
noncomputable def hT6 (P : Params) : BT := mkT 13 ([boot_o_0 P, boot_o_1 P, boot_o_2 P, ov3_3 P, boot_o_4 P, boot_o_5 P, boot_o_6 P, boot_o_7 P, boot_o_8 P, boot_o_9 P, boot_o_10 P] ++ (oc11 P ++ ([ov12_4 P] ++ (oc13 P ++ (oc15 P ++ (oc35 P ++ (oc55 P ++ ([ov62_1 P] ++ (oc63 P ++ (oc83 P ++ (oc103 P ++ (oc123 P ++ (oc129 P ++ (oc149 P ++ (oc169 P ++ (oc189 P ++ (oc209 P ++ (oc213 P ++ (oc233 P ++ (oc253 P ++ (oc273 P ++ ([ov279_1 P] ++ (oc280 P ++ (oc300 P ++ (oc320 P ++ (oc326 P ++ (oc346 P ++ (oc366 P ++ (oc386 P ++ (oc406 P ++ (oc426 P ++ (oc446 P ++ (oc466 P)))))))))))))))))))))))))))))))))
def ov3_4 (P : Params) : Obj := di P [en "__name__" 165 (st "law_watchedworks_k21_kits_of_instruments" 845), en "__doc__" 166 vn, en "__package__" 167 vn, en "__loader__" 168 (bi "__main__.__loader__#opaque"), en "__spec__" 169 vn, en "__annotations__" 170 (rf 6), en "__builtins__" 171 (rf 4), en "__file__" 173 (sf 172), en "__cached__" 174 vn, en "_wall" 193 (rf 21), en "SMALL" 197 (st "abcdefghijklmnopqrstuvwxyz" 196), en "is_integer" 204 (rf 28), en "is_between" 213 (rf 35), en "is_name" 219 (rf 40), en "is_row" 226 (rf 47), en "are_names" 232 (rf 52), en "WorksError" 252 (rf 62), en "BadName" 279 (rf 84), en "BadPost" 306 (rf 105), en "BadSights" 333 (rf 126), en "BadWords" 360 (rf 147), en "BadCost" 387 (rf 168), en "BadInstrument" 414 (rf 189), en "BadSet" 441 (rf 210), en "MOST_WORDS" 445 (iv (10) 444), en "MOST_COST" 447 (iv (1000) 446), en "check_head" 455 (rf 219), en "check_cost" 462 (rf 226), en "are_sights" 468 (rf 231), en "Instrument" 532 (rf 279), en "Sensor" 582 (rf 323), en "Lock" 629 (rf 359), en "MOST_INSTRUMENTS" 633 (iv (6) 632), en "good_instruments" 639 (rf 366), en "good_set" 649 (rf 373), en "check_post" 656 (rf 380), en "Box" 775 (rf 472), en "View" 844 (rf 521), en "_law_pool" 852 (rf 530), en "_law_draw" 864 (rf 537), en "_law_pick" 872 (rf 544), en "_law_name" 878 (rf 549), en "_law_names" 888 (rf 556), en "_law_hand" 894 (rf 561), en "_law_pattern" 905 (rf 568), en "_law_agrees" 911 (rf 573), en "_law_words" 917 (rf 578), en "_law_start" 923 (rf 583), en "_law_blames" 935 (rf 590), en "_law_hides" 941 (rf 595), en "_law_plan" 947 (rf 600), en "_law_instruments" 953 (rf 605), en "_law_alike" 959 (rf 610), en "_law_one" 966 (rf 617), en "_law_seven" 972 (rf 622), en "_law_told" 980 (rf 629), en "_law_asked" 989 (rf 636), en "_law_more" 998 (rf 643)] 58
def ov12_5 (P : Params) : Obj := fld [iz 1, iz 0, rf 20, iz 6, iz 0, rf 27, iz 8, iz 0, rf 34, iz 10, iz 0, rf 39, iz 14, iz 0, rf 46, iz 16, iz 0, rf 51, iz 19, iz 0, rf 58, iz 21, iz 0, rf 72, iz 26, iz 0, rf 93, iz 31, iz 0, rf 114, iz 36, iz 0, rf 135, iz 41, iz 0, rf 156, iz 46, iz 0, rf 177, iz 51, iz 0, rf 198, iz 59, iz 0, rf 218, iz 64, iz 0, rf 225, iz 67, iz 0, rf 230, iz 71, iz 0, rf 237, iz 92, iz 0, rf 290, iz 112, iz 0, rf 332, iz 130, iz 0, rf 365, iz 139, iz 0, rf 372, iz 148, iz 0, rf 379, iz 151, iz 0, rf 386, iz 197, iz 0, rf 482, iz 221, iz 0, rf 529, iz 226, iz 0, rf 536, iz 239, iz 0, rf 543, iz 241, iz 0, rf 548, iz 248, iz 0, rf 555, iz 253, iz 0, rf 560, iz 264, iz 0, rf 567, iz 273, iz 0, rf 572, iz 275, iz 0, rf 577, iz 280, iz 0, rf 582, iz 282, iz 0, rf 589, iz 291, iz 0, rf 594, iz 298, iz 0, rf 599, iz 309, iz 0, rf 604, iz 326, iz 0, rf 609, iz 336, iz 0, rf 616, iz 340, iz 0, rf 621, iz 347, iz 0, rf 628, iz 352, iz 0, rf 635, iz 357, iz 0, rf 642]
noncomputable def hT7 (P : Params) : BT := mkT 13 ([boot_o_0 P, boot_o_1 P, boot_o_2 P, ov3_4 P, boot_o_4 P, boot_o_5 P, boot_o_6 P, boot_o_7 P, boot_o_8 P, boot_o_9 P, boot_o_10 P] ++ (oc11 P ++ ([ov12_5 P] ++ (oc13 P ++ (oc15 P ++ (oc35 P ++ (oc55 P ++ ([ov62_1 P] ++ (oc63 P ++ (oc83 P ++ (oc103 P ++ (oc123 P ++ (oc129 P ++ (oc149 P ++ (oc169 P ++ (oc189 P ++ (oc209 P ++ (oc213 P ++ (oc233 P ++ (oc253 P ++ (oc273 P ++ ([ov279_1 P] ++ (oc280 P ++ (oc300 P ++ (oc320 P ++ (oc326 P ++ (oc346 P ++ (oc366 P ++ (oc386 P ++ (oc406 P ++ (oc426 P ++ (oc446 P ++ (oc466 P ++ (oc477 P ++ (oc497 P ++ (oc517 P ++ (oc537 P ++ (oc557 P ++ (oc577 P ++ (oc597 P ++ (oc617 P ++ (oc637 P))))))))))))))))))))))))))))))))))))))))))
def ov3_5 (P : Params) : Obj := di P [en "__name__" 165 (st "law_watchedworks_k21_kits_of_instruments" 845), en "__doc__" 166 vn, en "__package__" 167 vn, en "__loader__" 168 (bi "__main__.__loader__#opaque"), en "__spec__" 169 vn, en "__annotations__" 170 (rf 6), en "__builtins__" 171 (rf 4), en "__file__" 173 (sf 172), en "__cached__" 174 vn, en "_wall" 193 (rf 21), en "SMALL" 197 (st "abcdefghijklmnopqrstuvwxyz" 196), en "is_integer" 204 (rf 28), en "is_between" 213 (rf 35), en "is_name" 219 (rf 40), en "is_row" 226 (rf 47), en "are_names" 232 (rf 52), en "WorksError" 252 (rf 62), en "BadName" 279 (rf 84), en "BadPost" 306 (rf 105), en "BadSights" 333 (rf 126), en "BadWords" 360 (rf 147), en "BadCost" 387 (rf 168), en "BadInstrument" 414 (rf 189), en "BadSet" 441 (rf 210), en "MOST_WORDS" 445 (iv (10) 444), en "MOST_COST" 447 (iv (1000) 446), en "check_head" 455 (rf 219), en "check_cost" 462 (rf 226), en "are_sights" 468 (rf 231), en "Instrument" 532 (rf 279), en "Sensor" 582 (rf 323), en "Lock" 629 (rf 359), en "MOST_INSTRUMENTS" 633 (iv (6) 632), en "good_instruments" 639 (rf 366), en "good_set" 649 (rf 373), en "check_post" 656 (rf 380), en "Box" 775 (rf 472), en "View" 844 (rf 521), en "_law_pool" 852 (rf 530), en "_law_draw" 864 (rf 537), en "_law_pick" 872 (rf 544), en "_law_name" 878 (rf 549), en "_law_names" 888 (rf 556), en "_law_hand" 894 (rf 561), en "_law_pattern" 905 (rf 568), en "_law_agrees" 911 (rf 573), en "_law_words" 917 (rf 578), en "_law_start" 923 (rf 583), en "_law_blames" 935 (rf 590), en "_law_hides" 941 (rf 595), en "_law_plan" 947 (rf 600), en "_law_instruments" 953 (rf 605), en "_law_alike" 959 (rf 610), en "_law_one" 966 (rf 617), en "_law_seven" 972 (rf 622), en "_law_told" 980 (rf 629), en "_law_asked" 989 (rf 636), en "_law_more" 998 (rf 643), en "_law_less" 1007 (rf 650), en "_law_strange" 1014 (rf 657), en "_law_rows_refused" 1020 (rf 662), en "_law_stands" 1026 (rf 667), en "_law_names_refused" 1037 (rf 674), en "law" 1043 (rf 679)] 64
def ov12_6 (P : Params) : Obj := fld [iz 1, iz 0, rf 20, iz 6, iz 0, rf 27, iz 8, iz 0, rf 34, iz 10, iz 0, rf 39, iz 14, iz 0, rf 46, iz 16, iz 0, rf 51, iz 19, iz 0, rf 58, iz 21, iz 0, rf 72, iz 26, iz 0, rf 93, iz 31, iz 0, rf 114, iz 36, iz 0, rf 135, iz 41, iz 0, rf 156, iz 46, iz 0, rf 177, iz 51, iz 0, rf 198, iz 59, iz 0, rf 218, iz 64, iz 0, rf 225, iz 67, iz 0, rf 230, iz 71, iz 0, rf 237, iz 92, iz 0, rf 290, iz 112, iz 0, rf 332, iz 130, iz 0, rf 365, iz 139, iz 0, rf 372, iz 148, iz 0, rf 379, iz 151, iz 0, rf 386, iz 197, iz 0, rf 482, iz 221, iz 0, rf 529, iz 226, iz 0, rf 536, iz 239, iz 0, rf 543, iz 241, iz 0, rf 548, iz 248, iz 0, rf 555, iz 253, iz 0, rf 560, iz 264, iz 0, rf 567, iz 273, iz 0, rf 572, iz 275, iz 0, rf 577, iz 280, iz 0, rf 582, iz 282, iz 0, rf 589, iz 291, iz 0, rf 594, iz 298, iz 0, rf 599, iz 309, iz 0, rf 604, iz 326, iz 0, rf 609, iz 336, iz 0, rf 616, iz 340, iz 0, rf 621, iz 347, iz 0, rf 628, iz 352, iz 0, rf 635, iz 357, iz 0, rf 642, iz 362, iz 0, rf 649, iz 367, iz 0, rf 656, iz 369, iz 0, rf 661, iz 384, iz 0, rf 666, iz 394, iz 0, rf 673, iz 401, iz 0, rf 678]
noncomputable def hT8 (P : Params) : BT := mkT 13 ([boot_o_0 P, boot_o_1 P, boot_o_2 P, ov3_5 P, boot_o_4 P, boot_o_5 P, boot_o_6 P, boot_o_7 P, boot_o_8 P, boot_o_9 P, boot_o_10 P] ++ (oc11 P ++ ([ov12_6 P] ++ (oc13 P ++ (oc15 P ++ (oc35 P ++ (oc55 P ++ ([ov62_1 P] ++ (oc63 P ++ (oc83 P ++ (oc103 P ++ (oc123 P ++ (oc129 P ++ (oc149 P ++ (oc169 P ++ (oc189 P ++ (oc209 P ++ (oc213 P ++ (oc233 P ++ (oc253 P ++ (oc273 P ++ ([ov279_1 P] ++ (oc280 P ++ (oc300 P ++ (oc320 P ++ (oc326 P ++ (oc346 P ++ (oc366 P ++ (oc386 P ++ (oc406 P ++ (oc426 P ++ (oc446 P ++ (oc466 P ++ (oc477 P ++ (oc497 P ++ (oc517 P ++ (oc537 P ++ (oc557 P ++ (oc577 P ++ (oc597 P ++ (oc617 P ++ (oc637 P ++ (oc644 P ++ (oc664 P))))))))))))))))))))))))))))))))))))))))))))
noncomputable abbrev hEn : Env := envO hdR.prog (.ref 13) 14
abbrev hB0 : List Stmt := behindTheImports hdR.prog
noncomputable abbrev hCo : Code := .body hB0 hEn
abbrev hFr : List Frame := [topFrame ⟨0, 0, 0, 0⟩]
abbrev hAn : Option Value := some (.ref 6)
theorem hd_boot (w : World) : HandSHeadRun.putAll (boot_heap w.params).objs.toList .nil 0 = some (hT0 w.params, 11) := by kernel_rfl
theorem hd_toks : boot_toks = 181 := by kernel_rfl
theorem hd_pre (w : World) (os : OsState) : topF (stQ hdR.prog w) 11 hAn 12 (stt (hT0 w.params) 11 181 w os) (topStub hdR.prog) = some ((stt (hT1 w.params) 15 187 w os), ⟨HandSHeadRun.denQ HandSHeadRun.tabQ (.body hB0 hEn), hCo, ⟨0, 0, 0, 0⟩, hFr⟩) := by kernel_rfl
theorem hd_blk (w : World) (os : OsState) : segF (stQ hdR.prog w) 11 hAn 1 (stt (hT1 w.params) 15 187 w os) (blockOf hB0 hEn hCo ⟨0, 0, 0, 0⟩ hFr) = some (.next, (stt (hT1 w.params) 15 187 w os), hCo, ⟨0, 0, 0, 0⟩) := by kernel_rfl
abbrev hB1 : List Stmt := hB0.drop 13
theorem hd_g0 (w : World) (os : OsState) : segF (stQ hdR.prog w) 11 hAn 1167 (stt (hT1 w.params) 15 187 w os) (piecesOf (hB0.take 13) hEn hCo ⟨0, 0, 0, 0⟩ hFr) = some (.next, (stt (hT3 w.params) 129 334 w os), hCo, ⟨31, 0, 35, 26⟩) := by kernel_rfl
abbrev hB2 : List Stmt := hB1.drop 4
theorem hd_g1 (w : World) (os : OsState) : segF (stQ hdR.prog w) 11 hAn 1045 (stt (hT3 w.params) 129 334 w os) (piecesOf (hB1.take 4) hEn hCo ⟨31, 0, 35, 26⟩ hFr) = some (.next, (stt (hT4 w.params) 213 442 w os), hCo, ⟨51, 0, 55, 26⟩) := by kernel_rfl
abbrev hB3 : List Stmt := hB2.drop 8
theorem hd_g2 (w : World) (os : OsState) : segF (stQ hdR.prog w) 11 hAn 1110 (stt (hT4 w.params) 213 442 w os) (piecesOf (hB2.take 8) hEn hCo ⟨51, 0, 55, 26⟩ hFr) = some (.next, (stt (hT5 w.params) 326 583 w os), hCo, ⟨92, 0, 111, 104⟩) := by kernel_rfl
abbrev hB4 : List Stmt := hB3.drop 7
theorem hd_g3 (w : World) (os : OsState) : segF (stQ hdR.prog w) 11 hAn 1076 (stt (hT5 w.params) 326 583 w os) (piecesOf (hB3.take 7) hEn hCo ⟨92, 0, 111, 104⟩ hFr) = some (.next, (stt (hT6 w.params) 477 776 w os), hCo, ⟨151, 0, 196, 43⟩) := by kernel_rfl
abbrev hB5 : List Stmt := hB4.drop 22
theorem hd_g4 (w : World) (os : OsState) : segF (stQ hdR.prog w) 11 hAn 938 (stt (hT6 w.params) 477 776 w os) (piecesOf (hB4.take 22) hEn hCo ⟨151, 0, 196, 43⟩ hFr) = some (.next, (stt (hT7 w.params) 644 999 w os), hCo, ⟨357, 0, 361, 55⟩) := by kernel_rfl
theorem hd_g5 (w : World) (os : OsState) : HandSHeadRun.goF (stQ hdR.prog w) 11 hAn 192 (stt (hT7 w.params) 644 999 w os) (restOf hB5 hEn hCo ⟨357, 0, 361, 55⟩ hFr) = some (stt (hT8 w.params) 680 1044 w os) := by kernel_rfl
abbrev hdM : Nat := 12 + (1 + (1167 + (1045 + (1110 + (1076 + (938 + (192)))))))
theorem hd_top (w : World) (os : OsState) : topRun treeTable hdR.prog w 11 hAn hdM ⟨boot_heap w.params, #[], boot_drawn, boot_toks, os⟩ (topStub hdR.prog) = some (stt (hT8 w.params) 680 1044 w os).abs := at_boot (hd_boot w) hd_toks (at_pre (hd_pre w os) (at_blk (hd_blk w os) (at_seg 13 (hd_g0 w os) (at_seg 4 (hd_g1 w os) (at_seg 8 (hd_g2 w os) (at_seg 7 (hd_g3 w os) (at_seg 22 (hd_g4 w os) (at_end (hd_g5 w os)))))))))
noncomputable abbrev hdF (w : World) (os : OsState) : PySem.W.SharedT := (stt (hT8 w.params) 680 1044 w os)
noncomputable abbrev hTF : Params → BT := hT8
theorem hd_L (w : World) (os : OsState) : HandSHeadRun.looksF hdR.prog (boot_heap w.params) (hdF w os).abs = true := by kernel_rfl
theorem hd_bare : hdR.prog.bare := ⟨rfl, rfl, rfl, rfl, rfl, by decide +kernel⟩
end HS
namespace WW
open PySem PySem.Spec PyProof.Rows L2
local macro_rules | `(tactic| sleep 2000) => `(tactic| exact ⟨rfl, rfl, rfl, by decide +kernel, rfl, by decide +kernel, by decide +kernel⟩)
section
section
variable {P : Program} {w : World} {K : PySem.W.Frag} {mg : Str → Option Value} {base : Heap} {f : Addr} {fd : FuncData}
abbrev sLpool : Stmt := topS 34
abbrev nLpool : List Str := ["_law_script", "_law_cells", "_law_great", "_law_small", "_law_cell"]
theorem scLpool : FnScope nLpool ["_law_script"] (defScope sLpool) := by sleep 2000
def spPool (K : PySem.W.Frag) : Sp := fun vs H Q _ => ∃ (a : Addr) (ns : List Int), vs = [.ref a] ∧ SqL K H a (ns.map V.int) ∧ ns.length ≤ 63 ∧
 ∀ (p : Addr) (S' H' : Hp), Pool S' H' p → Same H S' → Q (.ref p) H'
def absI (v : V) : Option V := match v with
 | .int i => some (.int (if i < 0 then -i else i))
 | _ => none
def grI (v : V) : Option V := match v with
 | .int i => if decide ((10 : Int) ^ (18 : Int).toNat ≤ i) = true then some (.int i) else none
 | _ => none
def smI (v : V) : Option V := match v with
 | .int i => if decide (i < (10 : Int) ^ (18 : Int).toNat) = true then some (.int (i % 1000003)) else none
 | _ => none
def isI (v : V) : Prop := ∃ i, v = .int i
theorem ints_of : ∀ (xs : List V), (∀ v ∈ xs, isI v) → ∃ ns : List Int, xs = ns.map V.int
 | [], _ => ⟨[], rfl⟩
 | x :: r, h => by
  obtain ⟨i, rfl⟩ := h x (by simp)
  obtain ⟨ns, rfl⟩ := ints_of r fun v hv => h v (by simp [hv])
  exact ⟨i :: ns, rfl⟩
theorem fm_ints (g : V → Option V) (hg : ∀ v w, g v = some w → isI w) (xs : List V) : ∃ ns : List Int, xs.filterMap g = ns.map V.int ∧ ns.length ≤ xs.length := by
 obtain ⟨ns, h⟩ := ints_of (xs.filterMap g) fun v hv => by
  obtain ⟨a, _, h⟩ := List.mem_filterMap.mp hv
  exact hg a v h
 refine ⟨ns, h, ?_⟩
 have := List.length_filterMap_le g xs
 rw [h, List.length_map] at this
 exact this
theorem absI_i (v w : V) (h : absI v = some w) : isI w := by
 cases v <;> simp [absI] at h
 exact ⟨_, h.symm⟩
theorem grI_i (v w : V) (h : grI v = some w) : isI w := by
 cases v <;> simp [grI] at h
 exact ⟨_, h.2.symm⟩
theorem smI_i (v w : V) (h : smI v = some w) : isI w := by
 cases v <;> simp [smI] at h
 exact ⟨_, h.2.symm⟩
theorem ok_pool (D : Df K mg "_law_pool" sLpool ["_law_script"] f fd) (T : Bl mg) : FnOk P w K mg base CX0 1 f fd ["_law_script"] (spPool K) := by
 refine D.fn.ok scLpool (fun vs H Q E h => ?_) (fun cdv A outer s H vs Q E hr h => ?_)
 ·obtain ⟨a, ns, rfl, _⟩ := h
  rfl
 ·obtain ⟨a, ns, rfl, hS, hlen, q⟩ := h
  refine ⟨_, (pss_cons (ps_setLc (i := 1) (own := [("_law_cell", 4)]) rfl scLpool.nd rfl rfl (sw_true rfl rfl rfl (by decide +kernel)) (pi_list (pe_slice sl_list (pv 0) po_none (po_some pe_int))) (blkOk_by (own := [("_law_cell", 4)]) (N := nLpool) (sc := defScope sLpool) (by decide +kernel)) (fun _ _ _ _ _ => (pg_name (i := 4) scLpool.nd rfl (Or.inl rfl))) (fun _ _ _ _ _ => pts_nil) (fun _ _ _ _ _ => (pe_callB call_abs (by rfl) T.abs (by decide +kernel) (pa_cons (pe_callTy call_int1 (by rfl) T.int (by decide +kernel) (pa_cons (pv 4) pa_nil)) pa_nil))))
   (pss_cons (ps_setLc (i := 2) (own := [("_law_cell", 4)]) rfl scLpool.nd rfl rfl (sw_true rfl rfl rfl (by decide +kernel)) (pi_list (pv 1)) (blkOk_by (own := [("_law_cell", 4)]) (N := nLpool) (sc := defScope sLpool) (by decide +kernel)) (fun _ _ _ _ _ => (pg_name (i := 4) scLpool.nd rfl (Or.inl rfl))) (fun _ _ _ _ _ => (pts_one (pt_cmpR op_ge (pv 4) (pe_op op_pow pe_int pe_int) (nomark _)))) (fun _ _ _ _ _ => (pv 4)))
   (pss_cons (ps_setLc (i := 3) (own := [("_law_cell", 4)]) rfl scLpool.nd rfl rfl (sw_true rfl rfl rfl (by decide +kernel)) (pi_list (pv 1)) (blkOk_by (own := [("_law_cell", 4)]) (N := nLpool) (sc := defScope sLpool) (by decide +kernel)) (fun _ _ _ _ _ => (pg_name (i := 4) scLpool.nd rfl (Or.inl rfl))) (fun _ _ _ _ _ => (pts_one (pt_cmpR op_lt (pv 4) (pe_op op_pow pe_int pe_int) (nomark _)))) (fun _ _ _ _ _ => (pe_op op_mod (pe_callTy call_int1 (by rfl) T.int (by decide +kernel) (pa_cons (pv 4) pa_nil)) pe_int)))
   (pss_one (ps_ret (pe_lst (pa_cons (pv 2) (pa_cons (pv 3) (pa_cons pe_int (pa_cons pe_int pa_nil)))))))))), ?_⟩
  refine ⟨_, rfl, 63, rfl, a, _, rfl, hS, fun l hl => ?_⟩
  refine ⟨l, rfl, ⟨_, SqL.of upd_same⟩, fun D1 hD1 => lc_pure absI (SqL.of upd_same) ?_ (fun _ => rfl) (fun x H2 hx hs Q hq => ?_) hD1 (fun H2 s2 h2 => ?_)⟩
  ·rw [show (63 : Int) = ((63 : Nat) : Int) from rfl, cut_to]
   simp
   omega
  ·obtain ⟨i, rfl⟩ : isI x := by
    rw [show (63 : Int) = ((63 : Nat) : Int) from rfl, cut_to, ← List.map_take] at hx
    obtain ⟨i, _, rfl⟩ := List.mem_map.mp hx
    exact ⟨i, rfl⟩
   exact iteT (B := Q none H2) ⟨_, rfl, .inl ⟨_, rfl, _, rfl, hq _ (Same.refl _)⟩⟩
  obtain ⟨n1, e1, l1⟩ := fm_ints absI absI_i (cutV (ns.map V.int) none (some 63))
  have l1' : n1.length ≤ 63 := by
   rw [show (63 : Int) = ((63 : Nat) : Int) from rfl, cut_to, List.length_take, List.length_map] at l1
   omega
  rw [e1] at h2
  have s02 : Same H H2 := (same_upd hl).trans s2
  refine ⟨_, rfl, D1, rfl, ⟨_, SqL.of h2⟩, fun D2 hD2 => lc_pure grI (SqL.of h2) (by rw [List.length_map]; omega) (fun _ => rfl) (fun x H3 hx hs Q hq => ?_) hD2 (fun H3 s3 h3 => ?_)⟩
  ·obtain ⟨i, _, rfl⟩ := List.mem_map.mp hx
   refine ⟨_, rfl, _, _, rfl, rfl, ⟨by decide, by decide, by decide⟩, _, _, rfl, rfl, _, rfl, ?_⟩
   refine ite2 (fun c => ⟨_, rfl, ?_⟩) (fun c => ?_)
   ·have := hq H3 (Same.refl _)
    rw [show grI (V.int i) = some (V.int i) from if_pos c] at this
    exact this
   ·have := hq H3 (Same.refl _)
    rw [show grI (V.int i) = none from if_neg c] at this
    exact this
  obtain ⟨n2, e2, l2⟩ := fm_ints grI grI_i (n1.map V.int)
  rw [e2] at h3
  rw [List.length_map] at l2
  have h13 := s3 _ _ h2
  refine ⟨_, rfl, D1, rfl, ⟨_, SqL.of h13⟩, fun D3 hD3 => lc_pure smI (SqL.of h13) (by rw [List.length_map]; omega) (fun _ => rfl) (fun x H4 hx hs Q hq => ?_) hD3 (fun H4 s4 h4 => ?_)⟩
  ·obtain ⟨i, _, rfl⟩ := List.mem_map.mp hx
   refine ⟨_, rfl, _, _, rfl, rfl, ⟨by decide, by decide, by decide⟩, _, _, rfl, rfl, _, rfl, ?_⟩
   refine ite2 (fun c => ⟨_, rfl, .inl ⟨_, rfl, _, _, rfl, rfl, by show (0 : Int) < 1000003; decide, ?_⟩⟩) (fun c => ?_)
   ·have := hq H4 (Same.refl _)
    rw [show smI (V.int i) = some (V.int (i % 1000003)) from if_pos c] at this
    exact this
   ·have := hq H4 (Same.refl _)
    rw [show smI (V.int i) = none from if_neg c] at this
    exact this
  obtain ⟨n3, e3, l3⟩ := fm_ints smI smI_i (n1.map V.int)
  rw [e3] at h4
  rw [List.length_map] at l3
  refine ⟨_, rfl, _, rfl, by show 4 ≤ sizeLine; decide, fun p hp => ?_⟩
  refine q p H4 _ ⟨same_upd hp, hp, D2, D3, 0, 0, n2, n3, upd_same, s4 _ _ h3, h4, by omega, by omega⟩ (s02.trans (s3.trans s4))
end
end
section
section
variable {P : Program} {w : World} {K : PySem.W.Frag} {mg : Str → Option Value} {base : Heap} {f fA : Addr} {fd fdA : FuncData}
abbrev sLpick : Stmt := topS 36
abbrev nLpick : List Str := ["_law_pool_here", "_law_items"]
theorem scLpick : FnScope nLpick ["_law_pool_here", "_law_items"] (defScope sLpick) := by sleep 2000
def smallS : Str := "abcdefghijklmnopqrstuvwxyz"
def NameOk (z : Str) : Prop := 1 ≤ z.length ∧ z.length ≤ 10 ∧ ∀ c ∈ z.cps.toList, c ∈ smallS.cps.toList
theorem smallS_len : smallS.cps.toList.length = 26 := by decide +kernel
theorem smallS_nd : smallS.cps.toList.Nodup := by decide +kernel
theorem inV_strs (z : Str) : ∀ ts : List Str, inV (.str z) (ts.map V.str) = decide (z ∈ ts)
 | [] => by simp [inV]
 | t :: r => by
  have ih := inV_strs z r
  unfold inV at ih ⊢
  rw [List.map_cons, List.any_cons, ih]
  have e : eqV (.str t) (.str z) = decide (z = t) := by
   show (t == z) = decide (z = t)
   by_cases h : z = t
   ·subst h
    simp
   ·rw [decide_eq_false h]
    exact beq_eq_false_iff_ne.mpr (fun q => h q.symm)
  rw [e]
  simp [Bool.decide_or]
theorem strs_flat : ∀ ts : List Str, (ts.map V.str).all flatV = true
 | [] => rfl
 | _ :: r => by
  rw [List.map_cons, List.all_cons, strs_flat r]
  rfl
theorem pigeon {α : Type} [DecidableEq α] : ∀ (cs ts : List α), cs.Nodup → (∀ c ∈ cs, c ∈ ts) → cs.length ≤ ts.length
 | [], _, _, _ => Nat.zero_le _
 | c :: r, ts, nd, h => by
  have hc : c ∈ ts := h c (by simp)
  have ih := pigeon r (ts.erase c) (List.nodup_cons.mp nd).2 fun d hd => by
   have ne : d ≠ c := fun q => (List.nodup_cons.mp nd).1 (q ▸ hd)
   exact (List.mem_erase_of_ne ne).mpr (h d (by simp [hd]))
  rw [List.length_erase_of_mem hc] at ih
  have : 0 < ts.length := List.length_pos_of_mem hc
  simp
  omega
theorem join1 : ∀ cs : List Nat, TL.joinL [] (cs.map fun c => [c]) = cs
 | [] => rfl
 | [_] => rfl
 | c :: d :: r => by
  have ih := join1 (d :: r)
  show [c] ++ ([] ++ TL.joinL [] ((d :: r).map fun c => [c])) = _
  rw [ih]
  rfl
theorem joined (cs : List Nat) : Txt.join "" (cs.map fun c => (⟨#[c]⟩ : Str)) = ⟨cs.toArray⟩ := by
 have h : TL.tl (Txt.join "" (cs.map fun c => (⟨#[c]⟩ : Str))) = cs := by
  rw [TL.join_eq, TL.tl_join, List.map_map]
  exact join1 cs
 generalize Txt.join "" (cs.map fun c => (⟨#[c]⟩ : Str)) = z at h
 cases z with
 | mk a =>
  rw [← h]
theorem sum_ones : ∀ cs : List Nat, ((cs.map fun c => (⟨#[c]⟩ : Str)).map (·.length)).sum = cs.length
 | [] => rfl
 | c :: r => by
  rw [List.map_cons, List.map_cons, List.sum_cons, sum_ones r]
  show 1 + r.length = r.length + 1
  omega
def candF (z : Str) (ts : List Str) (v : V) : Option V := match v with
 | .str s => if (if true = true then !inV (.str (cutS z none (some 9) ++ s)) (ts.map V.str) else inV (.str (cutS z none (some 9) ++ s)) (ts.map V.str)) = true then some (.str (cutS z none (some 9) ++ s)) else none
 | _ => none
theorem app_cps (a b : Str) : (a ++ b).cps = a.cps ++ b.cps := rfl
theorem candF_eq (z : Str) (ts : List Str) (s : Str) : candF z ts (.str s) = if cutS z none (some 9) ++ s ∈ ts then none else some (.str (cutS z none (some 9) ++ s)) := by
 show (if (!inV _ _) = true then _ else _) = _
 rw [inV_strs]
 by_cases h : cutS z none (some 9) ++ s ∈ ts
 ·rw [decide_eq_true h, if_pos h]
  rfl
 ·rw [decide_eq_false h, if_neg h]
  rfl
theorem cand_name {z : Str} (hz : NameOk z) {c : Nat} (hc : c ∈ smallS.cps.toList) : NameOk (cutS z none (some 9) ++ ⟨#[c]⟩) := by
 have e : cutS z none (some 9) = ⟨(z.cps.toList.take 9).toArray⟩ := cutS_to z 9
 rw [e]
 refine ⟨?_, ?_, ?_⟩
 ·show 1 ≤ (_ ++ _ : Array Nat).size
  rw [Array.size_append]
  show 1 ≤ _ + 1
  omega
 ·show (_ ++ _ : Array Nat).size ≤ 10
  rw [Array.size_append]
  show (z.cps.toList.take 9).toArray.size + 1 ≤ 10
  rw [List.size_toArray, List.length_take]
  omega
 ·intro d hd
  rw [app_cps] at hd
  simp at hd
  rcases hd with h | h
  ·exact hz.2.2 d (by simpa using List.mem_of_mem_take h)
  ·rw [h]
   exact hc
theorem cand {z : Str} {ts : List Str} (hz : NameOk z) (lt : ts.length < 26) : ∃ y r, (signs smallS).filterMap (candF z ts) = V.str y :: r ∧ NameOk y ∧ y ∉ ts := by
 cases q : (signs smallS).filterMap (candF z ts) with
 | nil =>
  exfalso
  have h1 : ∀ c ∈ smallS.cps.toList, cutS z none (some 9) ++ ⟨#[c]⟩ ∈ ts := by
   intro c hc
   have h := List.filterMap_eq_nil_iff.mp q (.str ⟨#[c]⟩) (List.mem_map.mpr ⟨c, hc, rfl⟩)
   rw [candF_eq] at h
   by_cases m : cutS z none (some 9) ++ ⟨#[c]⟩ ∈ ts
   ·exact m
   ·rw [if_neg m] at h
    cases h
  have h2 := pigeon (smallS.cps.toList.map fun c => cutS z none (some 9) ++ (⟨#[c]⟩ : Str)) ts (by
   refine List.pairwise_map.mpr (smallS_nd.imp fun {a b} hab e => hab ?_)
   have e1 : (cutS z none (some 9)).cps ++ #[a] = (cutS z none (some 9)).cps ++ #[b] := congrArg Str.cps e
   have e2 : (cutS z none (some 9)).cps.toList ++ [a] = (cutS z none (some 9)).cps.toList ++ [b] := by
    have := congrArg Array.toList e1
    simpa using this
   simpa using List.append_cancel_left e2) (fun y hy => by
   obtain ⟨c, hc, rfl⟩ := List.mem_map.mp hy
   exact h1 c hc)
  rw [List.length_map, smallS_len] at h2
  omega
 | cons v r =>
  have hv : v ∈ (signs smallS).filterMap (candF z ts) := by rw [q]; simp
  obtain ⟨u, hu, e⟩ := List.mem_filterMap.mp hv
  obtain ⟨c, hc, rfl⟩ := List.mem_map.mp hu
  rw [candF_eq] at e
  by_cases m : cutS z none (some 9) ++ ⟨#[c]⟩ ∈ ts
  ·rw [if_pos m] at e
   cases e
  ·rw [if_neg m] at e
   cases e
   exact ⟨_, r, rfl, cand_name hz hc, m⟩
abbrev sLname : Stmt := topS 37
abbrev nLname : List Str := ["_law_pool_here", "_law_taken", "_law_letters", "_law_size", "_law_name_here", "_law_k", "_law_letter"]
theorem scLname : FnScope nLname ["_law_pool_here", "_law_taken"] (defScope sLname) := by sleep 2000
def spName : Sp := fun vs H Q _ => ∃ (p t : Addr) (S : Hp) (ts : List Str), vs = [.ref p, .ref t] ∧ Pool S H p ∧ H t = some (.lst (ts.map V.str)) ∧ t ≠ p ∧ ts.length < 26 ∧
 ∀ (z : Str) (S' H' : Hp), NameOk z → z ∉ ts → Pool S' H' p → Gr p S H S' H' → Q (.str z) H'
theorem sizes {d : Int} (h0 : 0 ≤ d) (h1 : d < 7) : ∃ n : Int, 1 ≤ n ∧ n ≤ 10 ∧ atI [V.int 1, V.int 1, V.int 2, V.int 3, V.int 4, V.int 6, V.int 10] d = some (V.int n) := by
 obtain rfl | rfl | rfl | rfl | rfl | rfl | rfl : d = 0 ∨ d = 1 ∨ d = 2 ∨ d = 3 ∨ d = 4 ∨ d = 5 ∨ d = 6 := by omega
 ·exact ⟨1, by decide, by decide, rfl⟩
 ·exact ⟨1, by decide, by decide, rfl⟩
 ·exact ⟨2, by decide, by decide, rfl⟩
 ·exact ⟨3, by decide, by decide, rfl⟩
 ·exact ⟨4, by decide, by decide, rfl⟩
 ·exact ⟨6, by decide, by decide, rfl⟩
 ·exact ⟨10, by decide, by decide, rfl⟩
theorem ok_name (D : Df K mg "_law_name" sLname ["_law_pool_here", "_law_taken"] f fd) (DLdraw : Df K mg "_law_draw" sLdraw ["_law_pool_here", "_law_many"] fA fdA) (T : Bl mg) : FnOk P w K mg base CX0 2 f fd ["_law_pool_here", "_law_taken"] spName := by
 have GLdraw : FnOk P w K mg base CX0 1 fA fdA ["_law_pool_here", "_law_many"] spDraw := ok_draw DLdraw T
 refine D.fn.ok scLname (fun vs H Q E h => ?_) (fun cdv A outer s H vs Q E hr h => ?_)
 ·obtain ⟨p, a, S, xs, rfl, _⟩ := h
  rfl
 ·obtain ⟨p, t, S, ts, rfl, P0, ht, ntp, lt, q⟩ := h
  refine ⟨_, (pss_cons (ps_set (i := 2) scLname.nd rfl (Or.inr rfl) pe_str)
   (pss_cons (ps_set (i := 3) scLname.nd rfl (Or.inl rfl) (pe_ix ix_list (pe_lst (pa_cons pe_int (pa_cons pe_int (pa_cons pe_int (pa_cons pe_int (pa_cons pe_int (pa_cons pe_int (pa_cons pe_int pa_nil)))))))) (pe_df DLdraw GLdraw (hr.mono (by decide)) (pa_cons (pv 0) (pa_cons pe_int pa_nil))) (fun _ _ => rfl)))
   (pss_cons (ps_set (i := 4) scLname.nd rfl (Or.inr rfl) (pe_join pe_str (pe_lc (own := [("_law_k", 5)]) rfl scLname.nd (pi_range1 (by rfl) T.range (pa_cons (pv 3) pa_nil)) (blkOk_by (own := [("_law_k", 5)]) (N := nLname) (sc := defScope sLname) (by decide +kernel)) (fun _ _ _ _ _ => (pg_name (i := 5) scLname.nd rfl (Or.inl rfl))) (fun _ _ _ _ _ => pts_nil) (fun _ _ _ _ _ => (pe_ix ix_str (pv 2) (pe_df DLdraw GLdraw (hr.mono (by decide)) (pa_cons (pv 0) (pa_cons pe_int pa_nil))) (fun _ _ => rfl))))))
   (C8.pss_cut (ps_if (pt_cmpR op_in_seq (pv 4) (pv 1) (by rfl)) (pss_one (ps_set (i := 4) scLname.nd rfl (Or.inr rfl) (pe_ix ix_list (pe_lc (own := [("_law_letter", 6)]) rfl scLname.nd (pi_str (pv 2)) (blkOk_by (own := [("_law_letter", 6)]) (N := nLname) (sc := defScope sLname) (by decide +kernel)) (fun _ _ _ _ _ => (pg_name (i := 6) scLname.nd rfl (Or.inl rfl))) (fun _ _ _ _ _ => (pts_one (pt_cmpR (r := rIn K true) op_notIn_seq (pe_op op_add_str (pe_slice sl_str (pv 4) po_none (po_some pe_int)) (pv 6)) (pv 1) (by rfl)))) (fun _ _ _ _ _ => (pe_op op_add_str (pe_slice sl_str (pv 4) po_none (po_some pe_int)) (pv 6)))) pe_int (fun _ _ => rfl)))) pss_nil)
   (pss_one (ps_ret (pv 4))))))), ?_⟩
  refine ⟨by show 7 ≤ sizeLine; decide, fun l hl => ?_⟩
  have P1 := P0.new (o := .lst [V.int 1, V.int 1, V.int 2, V.int 3, V.int 4, V.int 6, V.int 10]) hl
  have g1 := (Gr.refl (p := p) (S := S) (H := H)).new (o := .lst [V.int 1, V.int 1, V.int 2, V.int 3, V.int 4, V.int 6, V.int 10]) P0.ss hl
  have nlp : l ≠ p := fun z => P0.has (by rw [← z]; exact hl)
  refine ⟨_, rfl, p, _, 7, rfl, by decide, by decide, P1, fun d S2 H2 P2 g2 d0 d1 => ?_⟩
  obtain ⟨n, n1, n2, hn⟩ := sizes d0 d1
  refine ⟨l, _, d, _, rfl, rfl, SqL.of (g2.rs _ _ nlp upd_same), hn, ?_⟩
  have g02 := g1.trans g2
  show tSeq _ _ _ [some (.ref p), some (.ref t), some (.str smallS), some (.int n), none, none, none] H2
  refine ⟨⟨_, rfl⟩, _, rfl, n, rfl, by omega, by omega, fun D1 hD1 => lc_range (lo := 0) (n := n.toNat) (fun i H' => ∃ (S' : Hp) (cs : List Nat), Pool S' H' p ∧ S' D1 = none ∧ Gr p S2 H2 S' H' ∧ H' D1 = some (.lst ((cs.map fun c => (⟨#[c]⟩ : Str)).map V.str)) ∧ cs.length = i ∧ ∀ c ∈ cs, c ∈ smallS.cps.toList) ?_ ?_ ?_⟩
  ·refine ⟨S2, [], P2.put (P2.ss.free hD1) (fun z => P2.has (by rw [← z]; exact hD1)), P2.ss.free hD1, Gr.refl.put hD1, upd_same, rfl, fun c h => by cases h⟩
  ·rintro i H' hi ⟨S', cs, P', sD, g', hD', lc, hc⟩
   have nDp : D1 ≠ p := fun z => P2.has (by rw [← z]; exact hD1)
   refine ⟨rfl, _, rfl, _, rfl, p, S', 26, rfl, by decide, by decide, P', fun e S3 H3 P3 g3 e0 e1 => ?_⟩
   have he : e.toNat < smallS.cps.toList.length := by rw [smallS_len]; omega
   refine ⟨smallS, e, smallS.cps.toList[e.toNat], rfl, rfl, by decide, at_ofG (j := e.toNat) (show e = ((e.toNat : Nat) : Int) by omega) (List.getElem?_eq_getElem he), ?_⟩
   obtain ⟨sD3, hD3⟩ := g3.loc nDp sD hD'
   refine ⟨_, hD3, ?_, S3, cs ++ [smallS.cps.toList[e.toNat]], P3.put sD3 nDp, sD3, (g'.trans g3).put hD1, ?_, ?_, ?_⟩
   ·rw [List.length_map, List.length_map]
    exact small1000 (by omega)
   ·rw [upd_same]
    simp
   ·simp [lc]
   ·intro c h
    rcases List.mem_append.mp h with h | h
    ·exact hc c h
    ·rw [List.mem_singleton.mp h]
     exact List.getElem_mem _
  ·rintro H' ⟨S3, cs, P3, sD, g3, hD3, lc, hc⟩
   refine ⟨_, _, _, rfl, rfl, .inl (SqL.of hD3), ?_, ?_⟩
   ·rw [sum_ones, List.length_map]
    show cs.length + cs.length * 0 ≤ _
    omega
   have nDp : D1 ≠ p := fun z => P2.has (by rw [← z]; exact hD1)
   have g03 : Gr p S H S3 H' := g02.trans g3
   have ht3 := g03.rs _ _ ntp ht
   have hz : NameOk ⟨cs.toArray⟩ := ⟨by show 1 ≤ cs.toArray.size; simp; omega, by show cs.toArray.size ≤ 10; simp; omega, by simpa using hc⟩
   rw [joined]
   show C8.tCut _ _ _ [some (.ref p), some (.ref t), some (.str smallS), some (.int n), some (.str ⟨cs.toArray⟩), none, none] H'
   generalize (⟨cs.toArray⟩ : Str) = z at hz ⊢
   refine ⟨fun σ H4 => ∃ (z : Str) (S4 : Hp), σ = [some (.ref p), some (.ref t), some (.str smallS), some (.int n), some (.str z), none, none] ∧ NameOk z ∧ z ∉ ts ∧ Pool S4 H4 p ∧ Gr p S H S4 H4, ?_, ?_⟩
   ·refine ⟨_, rfl, _, rfl, t, _, rfl, .inl (SqL.of ht3), rfl, strs_flat ts, _, rfl, ite2 (fun c => ?_) (fun c => ?_)⟩
    ·obtain ⟨y, r, ey, hy, ny⟩ := cand hz lt
     have hz10 := hz.2.1
     refine ⟨_, rfl, smallS, rfl, fun D2 hD2 => lc_pureS (candF z ts) (by decide) (fun _ => rfl) (fun v H5 hv s5 Q5 q5 => ?_) hD2 (fun H5 s5 h5 => ?_)⟩
     ·obtain ⟨c, hc, rfl⟩ := List.mem_map.mp hv
      have l9 : (cutS z none (some 9)).length + (⟨#[c]⟩ : Str).length ≤ sizeLine := by
       have h := (cand_name hz hc).2.1
       have e : (cutS z none (some 9) ++ (⟨#[c]⟩ : Str)).length = (cutS z none (some 9)).length + (⟨#[c]⟩ : Str).length := Array.size_append
       rw [e] at h
       exact Nat.le_trans h (by decide)
      have hzl : z.length ≤ sizeLine := Nat.le_trans hz10 (by decide)
      refine ⟨_, rfl, 9, rfl, z, rfl, hzl, _, rfl, _, _, rfl, rfl, l9, _, rfl, t, _, rfl, .inl (SqL.of (s5 _ _ ht3)), rfl, strs_flat ts, _, rfl, ite2 (fun c5 => ?_) (fun c5 => ?_)⟩
      ·refine ⟨_, rfl, 9, rfl, z, rfl, hzl, _, rfl, _, _, rfl, rfl, l9, ?_⟩
       have := q5 H5 (Same.refl _)
       rw [show candF z ts (V.str ⟨#[c]⟩) = some (.str (cutS z none (some 9) ++ ⟨#[c]⟩)) from if_pos c5] at this
       exact this
      ·have := q5 H5 (Same.refl _)
       rw [show candF z ts (V.str ⟨#[c]⟩) = none from if_neg c5] at this
       exact this
     ·rw [ey] at h5
      refine ⟨D2, _, 0, _, rfl, rfl, SqL.of h5, atI_nat (j := 0) rfl, y, S3, rfl, hy, ny, P3.same s5, g03.same s5⟩
    ·refine ⟨z, S3, rfl, hz, ?_, P3, g03⟩
     intro hm
     apply c
     rw [inV_strs]
     exact decide_eq_true hm
   ·rintro σ H4 ⟨z, S4, rfl, hz, hn, P4, g4⟩
    exact ⟨_, rfl, q z S4 H4 hz hn P4 g4⟩
abbrev sLnames : Stmt := topS 38
abbrev nLnames : List Str := ["_law_pool_here", "_law_many", "_law_names_here", "_law_k"]
theorem scLnames : FnScope nLnames ["_law_pool_here", "_law_many"] (defScope sLnames) := by sleep 2000
end
end
section
/-- no slot for the operator nm in the class C: neither it nor its mirror stands in a class of its row -/
def noSlot (K : PySem.W.Frag) (C : Addr) (nm : String) : Bool := match PySem.W.clsIn K C with
 | some cd => cd.mro.all fun c => (match c with
  | .ref _ => true
  | .type _ => true
  | _ => false) && PySem.W.findIn K c (PySem.dunder nm) == some none && PySem.W.findIn K c (dunderR nm) == some none
 | none => false
end
end WW
set_option pp.maxSteps 150
namespace WW
open PySem PySem.Spec PyProof.Rows L2
section
def ex_0 : List (HY.Fr → Bool) := [HY.cob 679 "law", HY.cob 394 "Box.__init__", HY.cob 366 "good_instruments", HY.cob 252 "Instrument.name", HY.cob 260 "Instrument.post", HY.cob 47 "is_row", HY.cob 436 "Box.__or__", HY.cob 441 "Box.__sub__", HY.cob 429 "Box.__eq__", HY.cob 320 "Sensor.__eq__", HY.cob 276 "Instrument.head", HY.cob 356 "Lock.__eq__", HY.cob 530 "_law_pool", HY.cob 622 "_law_seven", HY.cob 600 "_law_plan", HY.cob 537 "_law_draw", HY.cob 544 "_law_pick", HY.cob 556 "_law_names", HY.cob 549 "_law_name", HY.cob 561 "_law_hand", HY.cob 568 "_law_pattern", HY.cob 573 "_law_agrees", HY.cob 583 "_law_start", HY.cob 578 "_law_words", HY.cob 590 "_law_blames", HY.cob 595 "_law_hides", HY.cob 605 "_law_instruments", HY.cob 662 "_law_rows_refused", HY.cob 617 "_law_one", HY.cob 245 "Instrument.__init__", HY.cob 219 "check_head", HY.cob 40 "is_name", HY.cob 35 "is_between", HY.cob 28 "is_integer", HY.cob 226 "check_cost", HY.cob 231 "are_sights", HY.cob 52 "are_names", HY.cob 657 "_law_strange", HY.cob 629 "_law_told", HY.cob 422 "Box.__len__", HY.cob 667 "_law_stands", HY.cob 408 "Box.__getitem__", HY.cob 401 "Box.names", HY.cob 610 "_law_alike", HY.cob 636 "_law_asked", HY.cob 674 "_law_names_refused", HY.cob 650 "_law_less", HY.cob 643 "_law_more", fun K => HY.supB K 186 189 "BadInstrument.__init__" (PySem.Challenge.rw_watchedworks_k21_kits_of_instruments).prog.main.file, fun K => HY.supB K 297 323 "Sensor.__init__" (PySem.Challenge.rw_watchedworks_k21_kits_of_instruments).prog.main.file, fun K => HY.supB K 341 359 "Lock.__init__" (PySem.Challenge.rw_watchedworks_k21_kits_of_instruments).prog.main.file, fun K => HY.supB K 81 84 "BadName.__init__" (PySem.Challenge.rw_watchedworks_k21_kits_of_instruments).prog.main.file]
def fn_0 : List HY.FD := [HY.fdd 679 "law" "law" HS.fS73, HY.fdd 394 "__init__" "Box.__init__" HS.fS31, HY.fdd 366 "good_instruments" "good_instruments" HS.fS28, HY.fdd 252 "name" "Instrument.name" HS.fS17, HY.fdd 260 "post" "Instrument.post" HS.fS18, HY.fdd 47 "is_row" "is_row" HS.fS4, HY.fdd 436 "__or__" "Box.__or__" HS.fS37, HY.fdd 441 "__sub__" "Box.__sub__" HS.fS38, HY.fdd 429 "__eq__" "Box.__eq__" HS.fS36, HY.fdd 320 "__eq__" "Sensor.__eq__" HS.fS24, HY.fdd 276 "head" "Instrument.head" HS.fS20, HY.fdd 356 "__eq__" "Lock.__eq__" HS.fS27, HY.fdd 530 "_law_pool" "_law_pool" HS.fS48, HY.fdd 622 "_law_seven" "_law_seven" HS.fS64, HY.fdd 600 "_law_plan" "_law_plan" HS.fS60, HY.fdd 537 "_law_draw" "_law_draw" HS.fS49, HY.fdd 544 "_law_pick" "_law_pick" HS.fS50, HY.fdd 556 "_law_names" "_law_names" HS.fS52, HY.fdd 549 "_law_name" "_law_name" HS.fS51, HY.fdd 561 "_law_hand" "_law_hand" HS.fS53, HY.fdd 568 "_law_pattern" "_law_pattern" HS.fS54, HY.fdd 573 "_law_agrees" "_law_agrees" HS.fS55, HY.fdd 583 "_law_start" "_law_start" HS.fS57, HY.fdd 578 "_law_words" "_law_words" HS.fS56, HY.fdd 590 "_law_blames" "_law_blames" HS.fS58, HY.fdd 595 "_law_hides" "_law_hides" HS.fS59, HY.fdd 605 "_law_instruments" "_law_instruments" HS.fS61, HY.fdd 662 "_law_rows_refused" "_law_rows_refused" HS.fS70, HY.fdd 617 "_law_one" "_law_one" HS.fS63, HY.fdd 245 "__init__" "Instrument.__init__" HS.fS16, HY.fdd 219 "check_head" "check_head" HS.fS13, HY.fdd 40 "is_name" "is_name" HS.fS3, HY.fdd 35 "is_between" "is_between" HS.fS2, HY.fdd 28 "is_integer" "is_integer" HS.fS1, HY.fdd 226 "check_cost" "check_cost" HS.fS14, HY.fdd 231 "are_sights" "are_sights" HS.fS15, HY.fdd 52 "are_names" "are_names" HS.fS5, HY.fdd 657 "_law_strange" "_law_strange" HS.fS69, HY.fdd 629 "_law_told" "_law_told" HS.fS65, HY.fdd 422 "__len__" "Box.__len__" HS.fS35, HY.fdd 667 "_law_stands" "_law_stands" HS.fS71, HY.fdd 408 "__getitem__" "Box.__getitem__" HS.fS33, HY.fdd 401 "names" "Box.names" HS.fS32, HY.fdd 610 "_law_alike" "_law_alike" HS.fS62, HY.fdd 636 "_law_asked" "_law_asked" HS.fS66, HY.fdd 674 "_law_names_refused" "_law_names_refused" HS.fS72, HY.fdd 650 "_law_less" "_law_less" HS.fS68, HY.fdd 643 "_law_more" "_law_more" HS.fS67, ⟨fun K => 186, "__init__", "BadInstrument.__init__", defArgs HS.fS11, defBody HS.fS11, defScope HS.fS11, ["__class__"], true⟩, ⟨fun K => 297, "__init__", "Sensor.__init__", defArgs HS.fS21, defBody HS.fS21, defScope HS.fS21, ["__class__"], true⟩, ⟨fun K => 341, "__init__", "Lock.__init__", defArgs HS.fS25, defBody HS.fS25, defScope HS.fS25, ["__class__"], true⟩, ⟨fun K => 81, "__init__", "BadName.__init__", defArgs HS.fS6, defBody HS.fS6, defScope HS.fS6, ["__class__"], true⟩]
def ex_1 : List (HY.Fr → Bool) := [fun K => decide (PySem.W.nsIn K mainGlobals "law" = some (some (.ref 679))), fun K => decide (PySem.W.nsIn K mainGlobals "Box" = some (some (.ref 472))), fun K => decide (PySem.W.nsIn K mainGlobals "good_instruments" = some (some (.ref 366))), fun K => decide (PySem.W.nsIn K mainGlobals "Instrument" = some (some (.ref 279))), fun K => decide (PySem.W.nsIn K mainGlobals "Sensor" = some (some (.ref 323))), fun K => decide (PySem.W.nsIn K mainGlobals "Lock" = some (some (.ref 359))), fun K => decide (PySem.W.nsIn K mainGlobals "super" = some none), fun K => decide (PySem.W.nsIn K mainGlobals "WorksError" = some (some (.ref 62))), fun K => decide (PySem.W.nsIn K mainGlobals "BadInstrument" = some (some (.ref 189))), fun K => decide (PySem.W.nsIn K mainGlobals "is_row" = some (some (.ref 47))), fun K => decide (PySem.W.nsIn K mainGlobals "abs" = some none), fun K => decide (PySem.W.nsIn K mainGlobals "int" = some none), fun K => decide (PySem.W.nsIn K mainGlobals "len" = some none), fun K => decide (PySem.W.nsIn K mainGlobals "max" = some none), fun K => decide (PySem.W.nsIn K mainGlobals "range" = some none), fun K => decide (PySem.W.nsIn K mainGlobals "tuple" = some none), fun K => decide (PySem.W.nsIn K mainGlobals "list" = some none), fun K => decide (PySem.W.nsIn K mainGlobals "str" = some none), fun K => decide (PySem.W.nsIn K mainGlobals "bool" = some none), fun K => decide (PySem.W.nsIn K mainGlobals "isinstance" = some none), fun K => decide (PySem.W.nsIn K mainGlobals "all" = some none), fun K => decide (PySem.W.nsIn K mainGlobals "sorted" = some none), fun K => decide (PySem.W.nsIn K mainGlobals "enumerate" = some none), fun K => HY.intB K "MOST_INSTRUMENTS" (6), fun K => decide (PySem.W.nsIn K mainGlobals "_law_pool" = some (some (.ref 530))), fun K => decide (PySem.W.nsIn K mainGlobals "_law_seven" = some (some (.ref 622))), fun K => decide (PySem.W.nsIn K mainGlobals "_law_plan" = some (some (.ref 600))), fun K => decide (PySem.W.nsIn K mainGlobals "_law_draw" = some (some (.ref 537))), fun K => decide (PySem.W.nsIn K mainGlobals "_law_pick" = some (some (.ref 544))), fun K => decide (PySem.W.nsIn K mainGlobals "_law_names" = some (some (.ref 556))), fun K => decide (PySem.W.nsIn K mainGlobals "_law_name" = some (some (.ref 549))), fun K => decide (PySem.W.nsIn K mainGlobals "_law_hand" = some (some (.ref 561))), fun K => decide (PySem.W.nsIn K mainGlobals "_law_pattern" = some (some (.ref 568))), fun K => decide (PySem.W.nsIn K mainGlobals "_law_agrees" = some (some (.ref 573))), fun K => decide (PySem.W.nsIn K mainGlobals "_law_start" = some (some (.ref 583))), fun K => decide (PySem.W.nsIn K mainGlobals "_law_words" = some (some (.ref 578))), fun K => decide (PySem.W.nsIn K mainGlobals "set" = some none), fun K => decide (PySem.W.nsIn K mainGlobals "_law_blames" = some (some (.ref 590))), fun K => decide (PySem.W.nsIn K mainGlobals "_law_hides" = some (some (.ref 595))), fun K => decide (PySem.W.nsIn K mainGlobals "_law_instruments" = some (some (.ref 605))), fun K => decide (PySem.W.nsIn K mainGlobals "_law_rows_refused" = some (some (.ref 662))), fun K => decide (PySem.W.nsIn K mainGlobals "_law_one" = some (some (.ref 617))), fun K => decide (PySem.W.nsIn K mainGlobals "check_head" = some (some (.ref 219))), fun K => decide (PySem.W.nsIn K mainGlobals "is_name" = some (some (.ref 40))), fun K => HY.strB K "SMALL" (smallS), fun K => decide (PySem.W.nsIn K mainGlobals "is_between" = some (some (.ref 35))), fun K => decide (PySem.W.nsIn K mainGlobals "is_integer" = some (some (.ref 28))), fun K => decide (PySem.W.nsIn K mainGlobals "check_cost" = some (some (.ref 226))), fun K => HY.intB K "MOST_WORDS" (10), fun K => HY.intB K "MOST_COST" (1000), fun K => decide (PySem.W.nsIn K mainGlobals "are_sights" = some (some (.ref 231))), fun K => decide (PySem.W.nsIn K mainGlobals "dict" = some none), fun K => decide (PySem.W.nsIn K mainGlobals "are_names" = some (some (.ref 52))), fun K => decide (PySem.W.nsIn K mainGlobals "_law_strange" = some (some (.ref 657))), fun K => decide (PySem.W.nsIn K mainGlobals "_law_told" = some (some (.ref 629))), fun K => decide (PySem.W.nsIn K mainGlobals "_law_stands" = some (some (.ref 667))), fun K => decide (PySem.W.nsIn K mainGlobals "_law_alike" = some (some (.ref 610))), fun K => decide (PySem.W.nsIn K mainGlobals "_law_asked" = some (some (.ref 636))), fun K => decide (PySem.W.nsIn K mainGlobals "BadName" = some (some (.ref 84))), fun K => decide (PySem.W.nsIn K mainGlobals "_law_names_refused" = some (some (.ref 674))), fun K => decide (PySem.W.nsIn K mainGlobals "_law_less" = some (some (.ref 650))), fun K => decide (PySem.W.nsIn K mainGlobals "_law_more" = some (some (.ref 643))), fun K => decide (PySem.W.findIn K (.ref 472) "__setattr__" = some (some (.builtin "object.__setattr__"))), fun K => decide (PySem.W.findIn K (.ref 472) "shelf" = some none), fun K => decide (PySem.W.findIn K (.ref 472) "__init__" = some (some (.ref 394))), fun K => decide (PySem.W.findIn K (.ref 279) "__setattr__" = some (some (.builtin "object.__setattr__"))), fun K => decide (PySem.W.findIn K (.ref 323) "__setattr__" = some (some (.builtin "object.__setattr__"))), fun K => decide (PySem.W.findIn K (.ref 359) "__setattr__" = some (some (.builtin "object.__setattr__"))), fun K => decide (PySem.W.findIn K (.ref 323) "title" = some none), fun K => decide (PySem.W.findIn K (.ref 323) "place" = some none), fun K => decide (PySem.W.findIn K (.ref 323) "fee" = some none), fun K => decide (PySem.W.findIn K (.ref 323) "shows" = some none), fun K => decide (PySem.W.findIn K (.ref 323) "stops" = some none), fun K => decide (PySem.W.findIn K (.ref 323) "__class__" = some (some (.builtin "object.__class__"))), fun K => decide (PySem.W.findIn K (.ref 359) "title" = some none), fun K => decide (PySem.W.findIn K (.ref 359) "place" = some none), fun K => decide (PySem.W.findIn K (.ref 359) "fee" = some none), fun K => decide (PySem.W.findIn K (.ref 359) "shows" = some none), fun K => decide (PySem.W.findIn K (.ref 359) "stops" = some none), fun K => decide (PySem.W.findIn K (.ref 359) "__class__" = some (some (.builtin "object.__class__"))), fun K => decide (PySem.W.findIn K (.ref 323) "name" = some (some (.ref 253))), fun K => decide (PySem.W.findIn K (.ref 359) "name" = some (some (.ref 253))), fun K => decide (PySem.W.findIn K (.ref 323) "post" = some (some (.ref 261))), fun K => decide (PySem.W.findIn K (.ref 359) "post" = some (some (.ref 261))), fun K => HY.excB K 189 [.ref 62, .type "ValueError", .type "Exception", .type "BaseException", .type "object"], fun K => decide (PySem.W.findIn K (.ref 189) "__setattr__" = some (some (.builtin "object.__setattr__"))), fun K => decide (PySem.W.findIn K (.ref 189) "__init__" = some (some (.ref 186))), fun K => decide (PySem.W.findIn K (.ref 189) "at" = some none), fun K => decide (PySem.W.findIn K (.ref 472) "__class__" = some (some (.builtin "object.__class__"))), fun K => decide (PySem.W.findIn K (.ref 472) "__or__" = some (some (.ref 436))), fun K => decide (PySem.W.findIn K (.ref 472) (PySem.dunder "sub") = some (some (.ref 441))), fun K => decide (PySem.W.findIn K (.ref 472) (dunderR "sub") = some none), fun K => decide (PySem.W.findIn K (.type "str") (PySem.dunder "sub") = some none), fun K => decide (PySem.W.findIn K (.type "str") (dunderR "sub") = some none), fun K => decide (PySem.W.findIn K (.ref 472) "__eq__" = some (some (.ref 429))), fun K => decide (PySem.W.findIn K (.ref 472) "__ne__" = some (some (.builtin "object.__ne__"))), fun K => decide (PySem.W.findIn K (.ref 323) "__eq__" = some (some (.ref 320))), fun K => decide (PySem.W.findIn K (.ref 323) "__ne__" = some (some (.builtin "object.__ne__"))), fun K => decide (PySem.W.findIn K (.ref 323) "head" = some (some (.ref 276))), fun K => decide (PySem.W.findIn K (.ref 359) "__eq__" = some (some (.ref 356))), fun K => decide (PySem.W.findIn K (.ref 359) "__ne__" = some (some (.builtin "object.__ne__"))), fun K => decide (PySem.W.findIn K (.ref 359) "head" = some (some (.ref 276))), fun K => decide (PySem.W.findIn K (.ref 323) "__init__" = some (some (.ref 297))), fun K => decide (PySem.W.findIn K (.ref 323) "__init__" = some (some (.ref 297))), fun K => decide (PySem.W.findIn K (.ref 359) "__init__" = some (some (.ref 341))), fun K => decide (PySem.W.findIn K (.ref 359) "__init__" = some (some (.ref 341))), fun K => decide (PySem.W.findIn K (.ref 189) "__getattribute__" = some (some (.builtin "BaseException.__getattribute__"))), fun K => decide (PySem.W.findIn K (.ref 189) "__getattr__" = some none), fun K => decide (PySem.W.findIn K (.ref 189) "__class__" = some (some (.builtin "object.__class__"))), fun K => decide (PySem.W.findIn K (.ref 472) "__len__" = some (some (.ref 422))), fun K => decide (PySem.W.findIn K (.ref 472) "__getitem__" = some (some (.ref 408))), fun K => decide (PySem.W.findIn K (.ref 472) "names" = some (some (.ref 401))), fun K => HY.excB K 84 [.ref 62, .type "ValueError", .type "Exception", .type "BaseException", .type "object"], fun K => decide (PySem.W.findIn K (.ref 84) "__setattr__" = some (some (.builtin "object.__setattr__"))), fun K => decide (PySem.W.findIn K (.ref 84) "__init__" = some (some (.ref 81))), fun K => decide (PySem.W.findIn K (.ref 84) "value" = some none), fun K => decide (PySem.W.findIn K (.ref 84) "__getattribute__" = some (some (.builtin "BaseException.__getattribute__"))), fun K => decide (PySem.W.findIn K (.ref 84) "__getattr__" = some none), fun K => decide (PySem.W.findIn K (.ref 84) "__class__" = some (some (.builtin "object.__class__"))), fun K => decide ((PySem.W.findIn K (.type "NoneType") (PySem.dunder "sub")).isSome = true), fun K => decide ((PySem.W.findIn K (.type "NoneType") (dunderR "sub")).isSome = true), fun K => decide ((PySem.W.findIn K (.type "bool") (PySem.dunder "sub")).isSome = true), fun K => decide ((PySem.W.findIn K (.type "bool") (dunderR "sub")).isSome = true), fun K => decide ((PySem.W.findIn K (.type "int") (PySem.dunder "sub")).isSome = true), fun K => decide ((PySem.W.findIn K (.type "int") (dunderR "sub")).isSome = true), fun K => decide ((PySem.W.findIn K (.type "str") (PySem.dunder "sub")).isSome = true), fun K => decide ((PySem.W.findIn K (.type "str") (dunderR "sub")).isSome = true), fun K => decide ((PySem.W.findIn K (.type "list") (PySem.dunder "sub")).isSome = true), fun K => decide ((PySem.W.findIn K (.type "list") (dunderR "sub")).isSome = true), fun K => decide ((PySem.W.findIn K (.type "tuple") (PySem.dunder "sub")).isSome = true), fun K => decide ((PySem.W.findIn K (.type "tuple") (dunderR "sub")).isSome = true), fun K => decide ((PySem.W.findIn K (.type "dict") (PySem.dunder "sub")).isSome = true), fun K => decide ((PySem.W.findIn K (.type "dict") (dunderR "sub")).isSome = true), fun K => decide (PySem.W.findIn K (.ref 472) (PySem.dunder "or") = some (some (.ref 436))), fun K => decide (PySem.W.findIn K (.ref 472) (dunderR "or") = some none), fun K => decide ((PySem.W.findIn K (.type "NoneType") (PySem.dunder "or")).isSome = true), fun K => decide ((PySem.W.findIn K (.type "NoneType") (dunderR "or")).isSome = true), fun K => decide ((PySem.W.findIn K (.type "bool") (PySem.dunder "or")).isSome = true)]
def fn_1 : List HY.FD := []
def ex_2 : List (HY.Fr → Bool) := [fun K => decide ((PySem.W.findIn K (.type "bool") (dunderR "or")).isSome = true), fun K => decide ((PySem.W.findIn K (.type "int") (PySem.dunder "or")).isSome = true), fun K => decide ((PySem.W.findIn K (.type "int") (dunderR "or")).isSome = true), fun K => decide ((PySem.W.findIn K (.type "str") (PySem.dunder "or")).isSome = true), fun K => decide ((PySem.W.findIn K (.type "str") (dunderR "or")).isSome = true), fun K => decide ((PySem.W.findIn K (.type "list") (PySem.dunder "or")).isSome = true), fun K => decide ((PySem.W.findIn K (.type "list") (dunderR "or")).isSome = true), fun K => decide ((PySem.W.findIn K (.type "tuple") (PySem.dunder "or")).isSome = true), fun K => decide ((PySem.W.findIn K (.type "tuple") (dunderR "or")).isSome = true), fun K => decide ((PySem.W.findIn K (.type "dict") (PySem.dunder "or")).isSome = true), fun K => decide ((PySem.W.findIn K (.type "dict") (dunderR "or")).isSome = true), fun K => decide (PySem.W.recIn K 253 "property" = some (.ref 252 :: (HY.pr K 253))), fun K => decide (PySem.W.recIn K 261 "property" = some (.ref 260 :: (HY.pr K 261))), fun K => decide (PySem.W.ks_superIn K 189 189 "__init__" = some (some (.builtin "ValueError.__init__"))), fun K => decide (PySem.W.ks_superIn K 323 323 "__init__" = some (some (.ref 245))), fun K => decide (PySem.W.ks_superIn K 359 359 "__init__" = some (some (.ref 245))), fun K => decide (PySem.W.ks_superIn K 84 84 "__init__" = some (some (.builtin "ValueError.__init__"))), fun K => decide (PySem.W.plainGet K 472 Str.empty = true), fun K => decide (PySem.W.hasDictIn K 472 = true), fun K => decide (PySem.W.plainOver K 472 = true), fun K => decide (PySem.W.makesIn K 472 = true), fun K => decide (PySem.W.isFn K (.ref 394) = true), fun K => decide (PySem.W.keepIn K (.ref 472) = true), fun K => decide (PySem.W.plainGet K 279 Str.empty = true), fun K => decide (PySem.W.hasDictIn K 279 = true), fun K => decide (PySem.W.plainOver K 279 = true), fun K => decide (PySem.W.plainGet K 323 Str.empty = true), fun K => decide (PySem.W.hasDictIn K 323 = true), fun K => decide (PySem.W.plainOver K 323 = true), fun K => decide (PySem.W.plainGet K 359 Str.empty = true), fun K => decide (PySem.W.hasDictIn K 359 = true), fun K => decide (PySem.W.plainOver K 359 = true), fun K => decide (PySem.W.specialIn K (.builtin "object.__class__") "__get__" = some (some (.builtin "getset_descriptor.__get__"))), fun K => decide (PySem.W.takesIn K (.builtin "object.__class__") = some true), fun K => decide (PySem.W.mroIn K 323 (.type "object") = some true), fun K => decide (PySem.W.specialIn K (.builtin "object.__class__") "__get__" = some (some (.builtin "getset_descriptor.__get__"))), fun K => decide (PySem.W.takesIn K (.builtin "object.__class__") = some true), fun K => decide (PySem.W.mroIn K 359 (.type "object") = some true), fun K => decide (PySem.W.kitOne K (.type "NoneType") (.ref 279) = some false), fun K => decide (PySem.W.kitOne K (.type "bool") (.ref 279) = some false), fun K => decide (PySem.W.kitOne K (.type "int") (.ref 279) = some false), fun K => decide (PySem.W.kitOne K (.type "str") (.ref 279) = some false), fun K => decide (PySem.W.kitOne K (.type "list") (.ref 279) = some false), fun K => decide (PySem.W.kitOne K (.type "tuple") (.ref 279) = some false), fun K => decide (PySem.W.kitOne K (.type "dict") (.ref 279) = some false), fun K => decide (PySem.W.kitOne K (.type "NoneType") (.ref 323) = some false), fun K => decide (PySem.W.kitOne K (.type "bool") (.ref 323) = some false), fun K => decide (PySem.W.kitOne K (.type "int") (.ref 323) = some false), fun K => decide (PySem.W.kitOne K (.type "str") (.ref 323) = some false), fun K => decide (PySem.W.kitOne K (.type "list") (.ref 323) = some false), fun K => decide (PySem.W.kitOne K (.type "tuple") (.ref 323) = some false), fun K => decide (PySem.W.kitOne K (.type "dict") (.ref 323) = some false), fun K => decide (PySem.W.kitOne K (.ref 323) (.ref 279) = some true), fun K => decide (PySem.W.kitOne K (.ref 359) (.ref 279) = some true), fun K => decide (PySem.W.kitOne K (.ref 323) (.ref 323) = some true), fun K => decide (PySem.W.kitOne K (.ref 359) (.ref 323) = some false), fun K => decide (PySem.W.specialIn K (.ref 253) "__get__" = some (some (.builtin "property.__get__"))), fun K => decide (PySem.W.takesIn K (.ref 253) = some true), fun K => decide (PySem.W.specialIn K (.ref 261) "__get__" = some (some (.builtin "property.__get__"))), fun K => decide (PySem.W.takesIn K (.ref 261) = some true), fun K => decide (PySem.W.nsIn K cStatics "thirdparty.any" = some none), fun K => decide (PySem.W.specialIn K (.builtin "object.__class__") "__get__" = some (some (.builtin "getset_descriptor.__get__"))), fun K => decide (PySem.W.takesIn K (.builtin "object.__class__") = some true), fun K => decide (PySem.W.subIn K (.ref 189) (.type "BaseException") = some true), fun K => decide (PySem.W.typeIn K (.ref 189) = some (.type "type")), fun K => decide (PySem.W.keepIn K (.ref 189) = true), fun K => decide (PySem.W.typeIn K (.ref 186) = some (.type "function")), fun K => decide (PySem.W.mroIn K 189 (.ref 189) = some true), fun K => decide (PySem.W.subIn K (.ref 189) (.type "ValueError") = some true), fun K => decide (PySem.W.kitAny K (.ref 323) [.type "list", .type "tuple"] = some false), fun K => decide (PySem.W.kitAny K (.ref 359) [.type "list", .type "tuple"] = some false), fun K => decide (PySem.W.specialIn K (.builtin "object.__class__") "__get__" = some (some (.builtin "getset_descriptor.__get__"))), fun K => decide (PySem.W.takesIn K (.builtin "object.__class__") = some true), fun K => decide (PySem.W.mroIn K 472 (.type "object") = some true), fun K => decide (PySem.W.isFn K (.ref 436) = true), fun K => decide (PySem.W.selfFirst K 472 = true), fun K => decide (noSlot K 323 "or" = true), fun K => decide (noSlot K 359 "or" = true), fun K => decide (PySem.W.isFn K (.ref 441) = true), fun K => decide (PySem.W.selfFirst K 472 = true), fun K => decide (PySem.W.subIn K (.type "str") (.ref 472) = some false), fun K => decide (PySem.W.isFn K (.ref 429) = true), fun K => decide (PySem.W.subIn K (.ref 472) (.type "object") = some true), fun K => decide (PySem.W.kitOne K (.type "NoneType") (.ref 359) = some false), fun K => decide (PySem.W.kitOne K (.type "bool") (.ref 359) = some false), fun K => decide (PySem.W.kitOne K (.type "int") (.ref 359) = some false), fun K => decide (PySem.W.kitOne K (.type "str") (.ref 359) = some false), fun K => decide (PySem.W.kitOne K (.type "list") (.ref 359) = some false), fun K => decide (PySem.W.kitOne K (.type "tuple") (.ref 359) = some false), fun K => decide (PySem.W.kitOne K (.type "dict") (.ref 359) = some false), fun K => decide (PySem.W.kitOne K (.ref 359) (.ref 359) = some true), fun K => decide (PySem.W.kitOne K (.type "NoneType") (.ref 472) = some false), fun K => decide (PySem.W.kitOne K (.type "bool") (.ref 472) = some false), fun K => decide (PySem.W.kitOne K (.type "int") (.ref 472) = some false), fun K => decide (PySem.W.kitOne K (.type "str") (.ref 472) = some false), fun K => decide (PySem.W.kitOne K (.type "list") (.ref 472) = some false), fun K => decide (PySem.W.kitOne K (.type "tuple") (.ref 472) = some false), fun K => decide (PySem.W.kitOne K (.type "dict") (.ref 472) = some false), fun K => decide (PySem.W.kitOne K (.ref 472) (.ref 472) = some true), fun K => decide (PySem.W.isFn K (.ref 320) = true), fun K => decide (PySem.W.subIn K (.ref 323) (.type "object") = some true), fun K => decide (PySem.W.isFn K (.ref 276) = true), fun K => decide (PySem.W.isFn K (.ref 356) = true), fun K => decide (PySem.W.subIn K (.ref 359) (.type "object") = some true), fun K => decide (PySem.W.fnIn K 245 = true), fun K => decide (PySem.W.typeIn K (.ref 245) = some (.type "function")), fun K => decide (PySem.W.mroIn K 323 (.ref 323) = some true), fun K => decide (PySem.W.makesIn K 323 = true), fun K => decide (PySem.W.isFn K (.ref 297) = true), fun K => decide (PySem.W.keepIn K (.ref 323) = true), fun K => decide (PySem.W.mroIn K 359 (.ref 359) = some true), fun K => decide (PySem.W.makesIn K 359 = true), fun K => decide (PySem.W.isFn K (.ref 341) = true), fun K => decide (PySem.W.keepIn K (.ref 359) = true), fun K => decide (PySem.W.hasDictIn K 189 = true), fun K => decide (PySem.W.mroIn K 189 (.type "object") = some true), fun K => decide (PySem.W.kitOne K (.ref 189) (.ref 62) = some true), fun K => decide (PySem.W.subIn K (.ref 189) (.ref 189) = some true), fun K => decide (PySem.W.fnIn K 422 = true), fun K => decide (PySem.W.isFn K (.ref 422) = true), fun K => decide (PySem.W.fnIn K 408 = true), fun K => decide (PySem.W.isFn K (.ref 408) = true), fun K => decide (PySem.W.isFn K (.ref 401) = true), fun K => decide (PySem.W.subIn K (.ref 84) (.type "BaseException") = some true), fun K => decide (PySem.W.typeIn K (.ref 84) = some (.type "type")), fun K => decide (PySem.W.keepIn K (.ref 84) = true), fun K => decide (PySem.W.typeIn K (.ref 81) = some (.type "function")), fun K => decide (PySem.W.mroIn K 84 (.ref 84) = some true), fun K => decide (PySem.W.subIn K (.ref 84) (.type "ValueError") = some true), fun K => decide (PySem.W.hasDictIn K 84 = true), fun K => decide (PySem.W.mroIn K 84 (.type "object") = some true), fun K => decide (PySem.W.kitOne K (.ref 84) (.ref 62) = some true), fun K => decide (PySem.W.subIn K (.ref 84) (.ref 84) = some true), fun K => decide (PySem.W.subIn K (.type "NoneType") (.ref 472) = some false), fun K => decide (PySem.W.subIn K (.type "bool") (.ref 472) = some false), fun K => decide (PySem.W.subIn K (.type "int") (.ref 472) = some false), fun K => decide (PySem.W.subIn K (.type "list") (.ref 472) = some false), fun K => decide (PySem.W.subIn K (.type "tuple") (.ref 472) = some false), fun K => decide (PySem.W.subIn K (.type "dict") (.ref 472) = some false)]
def fn_2 : List HY.FD := []
abbrev exL : List (HY.Fr → Bool) := (ex_0 ++ ex_1) ++ ex_2
abbrev fnL : List HY.FD := (fn_0 ++ fn_1) ++ fn_2
def nm0 : List Str := ["_wall", "SMALL", "is_integer", "is_between", "is_name", "is_row", "are_names", "WorksError", "BadName", "BadPost", "BadSights", "BadWords", "BadCost", "BadInstrument", "BadSet", "MOST_WORDS", "MOST_COST", "check_head", "check_cost", "are_sights", "Instrument", "Sensor", "Lock", "MOST_INSTRUMENTS", "good_instruments"]
def nm1 : List Str := ["good_set", "check_post", "Box", "View", "_law_pool", "_law_draw", "_law_pick", "_law_name", "_law_names", "_law_hand", "_law_pattern", "_law_agrees", "_law_words", "_law_start", "_law_blames", "_law_hides", "_law_plan", "_law_instruments", "_law_alike", "_law_one", "_law_seven", "_law_told", "_law_asked", "_law_more", "_law_less"]
def nm2 : List Str := ["_law_strange", "_law_rows_refused", "_law_stands", "_law_names_refused"]
def nmL : List Str := nm0 ++ nm1 ++ nm2
def ad0 : List Addr := [cStatics, 3, 472, 471, 279, 278, 323, 322, 359, 358, 62, 61, 189, 188, 84, 83, 253, 261, 174, 287, 329, 69, 679, 394, 366, 252]
def ad1 : List Addr := [260, 186, 47, 436, 441, 429, 320, 276, 356, 530, 622, 600, 537, 544, 556, 549, 561, 568, 573, 583, 578, 590, 595, 605, 662]
def ad2 : List Addr := [617, 245, 297, 219, 40, 35, 28, 226, 231, 341, 52, 657, 629, 422, 667, 408, 401, 610, 636, 81, 674, 650, 643, 678, 393]
def ad3 : List Addr := [365, 251, 259, 185, 46, 435, 440, 428, 319, 275, 355, 529, 621, 599, 536, 543, 555, 548, 560, 567, 572, 582, 577, 589, 594]
def ad4 : List Addr := [604, 661, 616, 244, 296, 218, 39, 34, 27, 225, 230, 340, 51, 656, 628, 421, 666, 407, 400, 609, 635, 80, 673, 649, 642]
def adL : List Addr := ad0 ++ ad1 ++ ad2 ++ ad3 ++ ad4
abbrev hdK : PySem.W.Hook := HY.hookY adL exL fnL
abbrev hdQ : Program := PySem.W.view HS.hdR.prog [59]
theorem hd_S (w : World) (os : OsState) : HandSHeadRun.seenQ hdQ nmL (importedModules HS.hdR.prog.main.body) (fun s => PySem.W.xlAt hdQ [] s && PySem.W.recOk HS.hdR.toRowW.records s) (HS.hdF w os).abs = PySem.W.openGood hdQ nmL := by kernel_rfl
theorem hd_run0 (w : World) (os : OsState) : HY.obG adL ex_0 fn_0 (HandSHeadRun.getT (HS.hdF w os)) = HY.vlK ex_0 fn_0 := by kernel_rfl
theorem hd_run1 (w : World) (os : OsState) : HY.obG adL ex_1 fn_1 (HandSHeadRun.getT (HS.hdF w os)) = HY.vlK ex_1 fn_1 := by kernel_rfl
theorem hd_run2 (w : World) (os : OsState) : HY.obG adL ex_2 fn_2 (HandSHeadRun.getT (HS.hdF w os)) = HY.vlK ex_2 fn_2 := by kernel_rfl
theorem hd_B (w : World) (os : OsState) : hdK.obs (HS.hdF w os).abs = hdK.val w := HZ.obs_of (HZ.obs_app (HZ.obs_app (hd_run0 w os) (hd_run1 w os)) (hd_run2 w os))
open PySem.W PySem.Calls HandSHeadRun in
theorem hd_left (e : opening HS.hdR.prog = plainProg HS.hdR.prog.main.scope.names) (f : ∀ s, fenceModules? HS.hdR.prog s = some s) : LeftO HS.hdR.prog hdQ nmL (fun s => PySem.W.xlAt hdQ [] s && PySem.W.recOk HS.hdR.toRowW.records s) hdK.obs hdK.val (HS.hdM + 600) true := HZ.left_lit (T := HS.hTF) e f HS.hd_top HS.hd_L hd_S hd_B
open PySem PySem.W PySem.Calls PyProof.Rows HandSHeadRun in
set_option maxRecDepth 100000 in
set_option maxHeartbeats 0 in
theorem hd_main (hc : WalkO hdQ nmL (XL hdQ []) hdK.says HS.hdR.toRowW (HandSHeadRun.topDef HS.hdR.prog 59) [] fun f vs => PySem.call f vs) : PySem.Challenge.rw_watchedworks_k21_kits_of_instruments.Holds := by
 w_on; o_law
 refine HZ.head_lit (r := OpenLaw.row PySem.Challenge.rw_watchedworks_k21_kits_of_instruments) (q := view (OpenLaw.row PySem.Challenge.rw_watchedworks_k21_kits_of_instruments).prog [59]) (H := WW.hdK) (loose := WW.nmL) (d := HandSHeadRun.topDef (OpenLaw.row PySem.Challenge.rw_watchedworks_k21_kits_of_instruments).prog 59) (kwd := []) (WW.hd_left (by kernel_rfl) (fun s => by kernel_rfl))
  (by kernel_rfl) (by kernel_rfl) (by kernel_rfl) (by rfl) (by first | assumption | decide +kernel) (by decide +kernel) HS.hd_bare ?hw hc
 case hw => w_witness2
end
section
mutual
/-- the value is the key -/
inductive NqV (S : Hp) : NestedKey → V → Prop
 | none : NqV S .none .non
 | num (i : Int) : NqV S (.num i) (.int i)
 | text (x : Str) : NqV S (.text x) (.str x)
 | tup {a : Addr} {vs : List V} {ks : List NestedKey} : S a = some (.tup vs) → NqAll S ks vs → NqV S (.tup ks) (.ref a)
inductive NqAll (S : Hp) : List NestedKey → List V → Prop
 | nil : NqAll S [] []
 | cons {k : NestedKey} {v : V} {ks : List NestedKey} {vs : List V} : NqV S k v → NqAll S ks vs → NqAll S (k :: ks) (v :: vs)
end
mutual
theorem NqV.mono {S S' : Hp} (e : ∀ a xs, S a = some (.tup xs) → S' a = some (.tup xs)) : ∀ {k : NestedKey} {v : V}, NqV S k v → NqV S' k v
 | _, _, .none => .none
 | _, _, .num i => .num i
 | _, _, .text x => .text x
 | _, _, .tup h r => .tup (e _ _ h) (NqAll.mono e r)
theorem NqAll.mono {S S' : Hp} (e : ∀ a xs, S a = some (.tup xs) → S' a = some (.tup xs)) : ∀ {k : List NestedKey} {v : List V}, NqAll S k v → NqAll S' k v
 | _, _, .nil => .nil
 | _, _, .cons a b => .cons (NqV.mono e a) (NqAll.mono e b)
end
abbrev NKs := List (NestedKey × Addr × V)
abbrev KN : NKs → List (NestedKey × Addr × Value) → Prop := Paired fun p q => p.1 = q.1 ∧ p.2.1 = q.2.1 ∧ RelV p.2.2 q.2.2
/-- the dict at a -/
def dNO (w : World) (a : Addr) (kvs : NKs) : HO := .ext fun h => kvs.length ≤ sizeLine ∧ (a == sysModules) = false ∧ ∃ xs, KN kvs xs ∧ ∃ o es ep, h.get? a = some o ∧ o.ExactDict ∧ o.data = .dict es ep ∧
 es.toList = xs.map (fun x => (⟨x.1.hash w, .ref x.2.1, x.2.2⟩ : DictEntry)) ∧ (xs.map (·.1)).Nodup
def KeysN (H : Hp) (kvs : NKs) : Prop := ∀ p ∈ kvs, NqV H p.1 (.ref p.2.1) ∧ p.1.depth ≤ 8
def valN (kvs : NKs) (k : NestedKey) : Option V := (kvs.find? fun p => decide (p.1 = k)).map (·.2.2)
def putN (kvs : NKs) (k : NestedKey) (b : Addr) (v : V) : NKs := if (valN kvs k).isSome = true then kvs.map (fun p => if p.1 = k then (p.1, p.2.1, v) else p) else kvs ++ [(k, b, v)]
theorem KN.val {kvs : NKs} {xs : List (NestedKey × Addr × Value)} (r : KN kvs xs) (k : NestedKey) : RelO (valN kvs k) ((atKey xs k).map (·.2)) := by
 induction r with
 | nil => exact True.intro
 | @cons p q ps qs h t ih =>
  obtain ⟨h1, _, h2⟩ := h
  unfold valN at ih ⊢
  by_cases e : p.1 = k
  ·have e' : q.1 = k := h1.symm.trans e
   have b : atKey (q :: qs) k = some q.2 := by simp [atKey, List.find?_cons, e']
   rw [b, List.find?_cons, decide_eq_true e]
   exact h2
  ·have e' : ¬ q.1 = k := fun z => e (h1.trans z)
   have b : atKey (q :: qs) k = atKey qs k := by simp [atKey, List.find?_cons, e']
   rw [b, List.find?_cons, decide_eq_false e]
   exact ih
theorem KN.repl {kvs : NKs} {xs : List (NestedKey × Addr × Value)} (r : KN kvs xs) (k : NestedKey) {y : V} {u : Value} (ry : RelV y u) : KN (kvs.map fun p => if p.1 = k then (p.1, p.2.1, y) else p) (xs.map (putAt k u)) := by
 induction r with
 | nil => exact .nil
 | @cons p q ps qs h t ih =>
  rw [List.map_cons, List.map_cons]
  refine .cons ?_ ih
  obtain ⟨h1, h2, h3⟩ := h
  unfold putAt
  by_cases e : p.1 = k
  ·rw [if_pos e, if_pos (h1.symm.trans e)]; exact ⟨h1, h2, ry⟩
  ·rw [if_neg e, if_neg (fun z => e (h1.trans z))]; exact ⟨h1, h2, h3⟩
theorem KN.put {kvs : NKs} {xs : List (NestedKey × Addr × Value)} (r : KN kvs xs) (k : NestedKey) (b : Addr) {y : V} {u : Value} (ry : RelV y u) : KN (putN kvs k b y) (storedH xs k b u) := by
 have e : (valN kvs k).isSome = (atKey xs k).isSome := by rw [(r.val k).isSome_eq, Option.isSome_map]
 unfold putN storedH
 rw [e]
 by_cases q : (atKey xs k).isSome = true
 ·rw [if_pos q, if_pos q]; exact r.repl k ry
 ·rw [if_neg q, if_neg q]; exact Paired.snoc r ⟨rfl, rfl, ry⟩
theorem KeysN.mono {S S' : Hp} (e : ∀ a xs, S a = some (.tup xs) → S' a = some (.tup xs)) {kvs : NKs} (h : KeysN S kvs) : KeysN S' kvs := fun p hp => ⟨(h p hp).1.mono e, (h p hp).2⟩
end
section
inductive D where
 | non | opq | bl (b : Bool) | int (i : Int) | str (x : Str) | ty (n : String) | kt (v : V)
 | lst (ds : List D) | tup (ds : List D) | dK (kvs : List (Key × D)) | dT (kvs : List (List Key × D)) | obj (C : Addr) (fs : List (Str × D)) | dN (w : World) (kvs : List (NestedKey × D))
mutual
inductive Rep (K : PySem.W.Frag) (S : Hp) : V → D → Prop
 | non : Rep K S .non .non
 | opq (v : V) : Rep K S v .opq
 | bl (b : Bool) : Rep K S (.bl b) (.bl b)
 | int (i : Int) : Rep K S (.int i) (.int i)
 | str (x : Str) : Rep K S (.str x) (.str x)
 | ty (n : String) : Rep K S (.ty n) (.ty n)
 | kt (v : V) : Rep K S v (.kt v)
 | lst {a : Addr} {xs : List V} {ds : List D} : S a = some (.lst xs) → RepL K S xs ds → Rep K S (.ref a) (.lst ds)
 | tup {a : Addr} {xs : List V} {ds : List D} : S a = some (.tup xs) → RepL K S xs ds → Rep K S (.ref a) (.tup ds)
 | dK {a : Addr} {kvs : List (Key × V)} {kds : List (Key × D)} : Rd S a (.dK kvs) → kvs.map (·.1) = kds.map (·.1) → RepL K S (kvs.map (·.2)) (kds.map (·.2)) → Rep K S (.ref a) (.dK kds)
 | dT {a : Addr} {kvs : List (List Key × V)} {kds : List (List Key × D)} : Rd S a (.dT kvs) → kvs.map (·.1) = kds.map (·.1) → RepL K S (kvs.map (·.2)) (kds.map (·.2)) → Rep K S (.ref a) (.dT kds)
 | obj {a C dx : Addr} {fs : List (Str × V)} {fds : List (Str × D)} : S a = some (.ins C dx fs) → fs.map (·.1) = fds.map (·.1) → RepL K S (fs.map (·.2)) (fds.map (·.2)) → Rep K S (.ref a) (.obj C fds)
 | dN {w : World} {a a0 : Addr} {kvs : NKs} {kds : List (NestedKey × D)} : Rd S a (dNO w a0 kvs) → KeysN S kvs → kvs.map (·.1) = kds.map (·.1) → RepL K S (kvs.map (·.2.2)) (kds.map (·.2)) → Rep K S (.ref a) (.dN w kds)
inductive RepL (K : PySem.W.Frag) (S : Hp) : List V → List D → Prop
 | nil : RepL K S [] []
 | cons {v : V} {d : D} {vs : List V} {ds : List D} : Rep K S v d → RepL K S vs ds → RepL K S (v :: vs) (d :: ds)
end
/-- what could be read can be read -/
structure Le (S S' : Hp) : Prop where
 tup : ∀ a xs, Rd S a (.tup xs) → Rd S' a (.tup xs)
 dk : ∀ a kvs, Rd S a (.dK kvs) → Rd S' a (.dK kvs)
 dt : ∀ a kvs, Rd S a (.dT kvs) → Rd S' a (.dT kvs)
 ins : ∀ a C dx fs, S a = some (.ins C dx fs) → S' a = some (.ins C dx fs)
 lst : ∀ a xs, S a = some (.lst xs) → S' a = some (.lst xs)
 tp : ∀ a xs, S a = some (.tup xs) → S' a = some (.tup xs)
 dn : ∀ a φ, Rd S a (.ext φ) → Rd S' a (.ext φ)
theorem Same.rd {S S' : Hp} (s : Same S S') {a : Addr} {u : HO} (h : Rd S a u) : Rd S' a u := by
 rcases h with h | ⟨o, h⟩
 ·exact .inl (s _ _ h)
 ·exact .inr ⟨o, s _ _ h⟩
theorem Same.le {S S' : Hp} (s : Same S S') : Le S S' := ⟨fun _ _ h => Same.rd s h, fun _ _ h => Same.rd s h, fun _ _ h => Same.rd s h, fun a C dx fs h => s _ _ h, fun a xs h => s _ _ h, fun a xs h => s _ _ h, fun _ _ h => Same.rd s h⟩
section
variable {K : PySem.W.Frag} {S S' : Hp}
theorem rep_mono (e : Le S S') {v : V} {d : D} (h : Rep K S v d) : Rep K S' v d :=
 Rep.rec (motive_1 := fun v d _ => Rep K S' v d) (motive_2 := fun vs ds _ => RepL K S' vs ds) .non (fun v => .opq v) (fun b => .bl b) (fun i => .int i) (fun x => .str x) (fun n => .ty n) (fun v => .kt v)
  (fun a _ r => .lst (e.lst _ _ a) r) (fun a _ r => .tup (e.tp _ _ a) r) (fun a b _ r => .dK (e.dk _ _ a) b r) (fun a b _ r => .dT (e.dt _ _ a) b r) (fun a b _ r => .obj (e.ins _ _ _ _ a) b r) (fun a b c _ r => .dN (e.dn _ _ a) (b.mono e.tp) c r) .nil (fun _ _ a b => .cons a b) h
theorem repL_mono (e : Le S S') : ∀ {vs : List V} {ds : List D}, RepL K S vs ds → RepL K S' vs ds
 | _, _, .nil => .nil
 | _, _, .cons a b => .cons (rep_mono e a) (repL_mono e b)
theorem Rep.same (e : Same S S') {v : V} {d : D} (h : Rep K S v d) : Rep K S' v d := rep_mono (Same.le e) h
theorem RepL.same (e : Same S S') {v : List V} {d : List D} (h : RepL K S v d) : RepL K S' v d := repL_mono (Same.le e) h
theorem RepL.len : ∀ {vs : List V} {ds : List D}, RepL K S vs ds → vs.length = ds.length
 | _, _, .nil => rfl
 | _, _, .cons _ b => by rw [List.length_cons, List.length_cons, RepL.len b]
theorem RepL.get : ∀ {vs : List V} {ds : List D} {i : Nat} {v : V}, RepL K S vs ds → vs[i]? = some v → ∃ d, ds[i]? = some d ∧ Rep K S v d
 | _, _, _, _, .nil, e => by simp at e
 | _, _, 0, _, .cons a _, e => by simp at e; subst e; exact ⟨_, rfl, a⟩
 | _, _, i + 1, v, .cons _ b, e => by
  obtain ⟨d, h1, h2⟩ := RepL.get (i := i) (v := v) b (by simpa using e)
  exact ⟨d, by simpa using h1, h2⟩
theorem RepL.getD : ∀ {vs : List V} {ds : List D} {i : Nat} {d : D}, RepL K S vs ds → ds[i]? = some d → ∃ v, vs[i]? = some v ∧ Rep K S v d
 | _, _, _, _, .nil, e => by simp at e
 | _, _, 0, _, .cons a _, e => by simp at e; subst e; exact ⟨_, rfl, a⟩
 | _, _, i + 1, v, .cons _ b, e => by
  obtain ⟨d, h1, h2⟩ := RepL.getD (i := i) (d := v) b (by simpa using e)
  exact ⟨d, by simpa using h1, h2⟩
theorem RepL.append : ∀ {vs ws : List V} {ds es : List D}, RepL K S vs ds → RepL K S ws es → RepL K S (vs ++ ws) (ds ++ es)
 | _, _, _, _, .nil, h => h
 | _, _, _, _, .cons a b, h => .cons a (RepL.append b h)
theorem RepL.snoc {vs : List V} {ds : List D} {v : V} {d : D} (h : RepL K S vs ds) (r : Rep K S v d) : RepL K S (vs ++ [v]) (ds ++ [d]) := h.append (.cons r .nil)
theorem RepL.take : ∀ {vs : List V} {ds : List D} (n : Nat), RepL K S vs ds → RepL K S (vs.take n) (ds.take n)
 | _, _, 0, _ => .nil
 | _, _, _ + 1, .nil => .nil
 | _, _, n + 1, .cons a b => .cons a (RepL.take n b)
theorem RepL.drop : ∀ {vs : List V} {ds : List D} (n : Nat), RepL K S vs ds → RepL K S (vs.drop n) (ds.drop n)
 | _, _, 0, h => h
 | _, _, _ + 1, .nil => .nil
 | _, _, n + 1, .cons _ b => RepL.drop n b
theorem RepL.rev {vs : List V} {ds : List D} (h : RepL K S vs ds) : RepL K S vs.reverse ds.reverse := by
 induction vs generalizing ds with
 | nil => cases h; exact .nil
 | cons v r ih =>
  cases h with
  | cons a b =>
   rw [List.reverse_cons, List.reverse_cons]
   exact (ih b).snoc a
end
/-- values that need no heap -/
def D.sc : D → Option V
 | .non => some .non
 | .bl b => some (.bl b)
 | .int i => some (.int i)
 | .str x => some (.str x)
 | .ty n => some (.ty n)
 | _ => none
theorem Rep.ofSc {K : PySem.W.Frag} {S : Hp} {d : D} {v : V} (h : d.sc = some v) : Rep K S v d := by
 cases d <;> simp [D.sc] at h <;> subst h <;> constructor
structure GrO (o : Option Addr) (S H S' H' : Hp) : Prop where
 st : Same S S'
 rs : ∀ a u, o ≠ some a → H a = some u → H' a = some u
 fr : ∀ a, S a = none → H a ≠ none → Nt H a → S' a = none ∧ Nt H' a
 ex : ∀ a, H a ≠ none → H' a ≠ none
def Wl (o : Option Addr) (S H : Hp) : Prop := Same S H ∧ ∀ p, o = some p → Pool S H p
def Kp (o : Option Addr) (H0 H : Hp) : Prop := ∀ a u, o ≠ some a → H0 a = some u → H a = some u
section
variable {o : Option Addr} {S H S1 H1 S2 H2 H0 : Hp} {a : Addr} {u : HO}
theorem GrO.refl : GrO o S H S H := ⟨Same.refl _, fun _ _ _ h => h, fun _ h _ n => ⟨h, n⟩, fun _ h => h⟩
theorem GrO.keep (g : GrO o S H S1 H1) (n : S a = none) (h : H a = some u) (t : ∀ xs, u ≠ .tup xs := by intro _ z; cases z) : S1 a = none := (g.fr a n (by rw [h]; intro z; cases z) (Nt.of h t)).1
theorem GrO.trans (a : GrO o S H S1 H1) (b : GrO o S1 H1 S2 H2) : GrO o S H S2 H2 :=
 ⟨a.st.trans b.st, fun c u n h => b.rs c u n (a.rs c u n h), fun c h1 h2 n => let q := a.fr c h1 h2 n; b.fr c q.1 (a.ex c h2) q.2, fun c h => b.ex c (a.ex c h)⟩
theorem GrO.bk (g : GrO o S H S1 H1) (h : H1 a = none) : H a = none := by
 cases q : H a with
 | none => rfl
 | some u => exact absurd h (g.ex a (by rw [q]; intro z; cases z))
theorem ne_none {H : Hp} {a : Addr} {u : HO} (h : H a = some u) : H a ≠ none := by rw [h]; intro z; cases z
theorem GrO.same (s : Same H H1) : GrO o S H S H1 := ⟨Same.refl _, fun a u _ h => s a u h, fun _ h n t => ⟨h, t.same n s⟩, fun a h => by
 cases q : H a with
 | none => exact absurd q h
 | some u => exact ne_none (s a u q)⟩
theorem GrO.kp (g : GrO o S H S1 H1) (k : Kp o H0 H) : Kp o H0 H1 := fun a u n h => g.rs a u n (k a u n h)
/-- a new stable object -/
theorem GrO.new (w : Wl o S H) (n : H a = none) : GrO o S H (upd S a u) (upd H a u) := by
 have ns : S a = none := w.1.free n
 refine ⟨same_upd ns, fun b x _ h => (upd_ne (ne_of_none h n)).trans h, fun b h1 h2 ht => ⟨?_, ht.upd fun q => h2 (by rw [q]; exact n)⟩, fun b h => ?_⟩
 ·rw [upd_ne (fun q => h2 (by rw [q]; exact n))]
  exact h1
 ·rw [upd_ne (fun q => h (by rw [q]; exact n))]
  exact h
/-- a new object, not stable -/
theorem GrO.lay (n : H a = none) : GrO o S H S (upd H a u) := GrO.same (same_upd n)
/-- what is not of H becomes stable -/
theorem GrO.fix (g : GrO o S H S1 H1) (n : H a = none) (h : S1 a = none) : GrO o S H (upd S1 a u) H1 :=
 ⟨g.st.trans (same_upd h), g.rs, fun b h1 h2 ht => by
  rw [upd_ne (fun q => h2 (by rw [q]; exact n))]
  exact g.fr b h1 h2 ht, g.ex⟩
theorem GrO.put (g : GrO o S H S1 H1) (n : H a = none) : GrO o S H S1 (upd H1 a u) :=
 ⟨g.st, fun b x nb h => (upd_ne (ne_of_none h n)).trans (g.rs b x nb h), fun b h1 h2 ht => let q := g.fr b h1 h2 ht; ⟨q.1, q.2.upd fun z => h2 (by rw [z]; exact n)⟩, fun b h => by
  rw [upd_ne (fun q => h (by rw [q]; exact n))]
  exact g.ex b h⟩
theorem Wl.new (w : Wl o S H) (n : H a = none) : Wl o (upd S a u) (upd H a u) := ⟨same_new w.1, fun p e => (w.2 p e).new n⟩
theorem Wl.put (w : Wl o S H) (n : S a = none) (np : o ≠ some a) : Wl o S (upd H a u) := ⟨same_put w.1 n, fun p e => (w.2 p e).put n fun z => np (by rw [e, z])⟩
theorem Wl.fix (w : Wl o S H) (h : H a = some u) (n : S a = none) (np : o ≠ some a) : Wl o (upd S a u) H := ⟨same_fix w.1 h, fun p e => (w.2 p e).fix h n fun z => np (by rw [e, z])⟩
theorem Wl.same (w : Wl o S H) (s : Same H H1) : Wl o S H1 := ⟨w.1.trans s, fun p e => (w.2 p e).same s⟩
theorem Wl.np (w : Wl o S H) (n : H a = none) : o ≠ some a := fun e => (w.2 a e).has n
theorem GrO.gr {p : Addr} (g : GrO (some p) S H S1 H1) : Gr p S H S1 H1 := ⟨g.st, fun a u n h => g.rs a u (fun e => n (Option.some.inj e).symm) h, g.fr, g.ex⟩
theorem GrO.of {p : Addr} (g : Gr p S H S1 H1) : GrO (some p) S H S1 H1 := ⟨g.st, fun a u n h => g.rs a u (fun e => n (by rw [e])) h, g.fr, g.ex⟩
end
/-- an exception that comes -/
structure Exn (K : PySem.W.Frag) (S H : Hp) (dd : Addr) (fs : List (Str × D)) : Prop where
 at_ : ∃ fv : List (Str × V), H dd = some (.xd fv) ∧ fv.map (·.1) = fs.map (·.1) ∧ RepL K S (fv.map (·.2)) (fs.map (·.2))
inductive B where
 /-- stable data | an own object | data that is only read here | the pool -/
 | st (d : D) | ow (a : Addr) (d : D) | br (d : D) | pool
 /-- a caught exception -/
 | xn (a : Addr) (cls : Value) (d : Option Addr) (C : Addr) (fs : List (Str × D))
def B.get : B → D
 | .st d => d
 | .ow _ d => d
 | .br d => d
 | .pool => .opq
 | .xn _ _ _ _ _ => .opq
/-- a part of it -/
def B.sub : B → D → B
 | .br _, d => .br d
 | _, d => .st d
inductive Top (K : PySem.W.Frag) (S : Hp) : Option HO → D → Prop
 | lst {xs : List V} {ds : List D} : RepL K S xs ds → Top K S (some (.lst xs)) (.lst ds)
 | dK {kvs : List (Key × V)} {kds : List (Key × D)} : kvs.map (·.1) = kds.map (·.1) → RepL K S (kvs.map (·.2)) (kds.map (·.2)) → Top K S (some (.dK kvs)) (.dK kds)
 | dT {kvs : List (List Key × V)} {kds : List (List Key × D)} : kvs.map (·.1) = kds.map (·.1) → RepL K S (kvs.map (·.2)) (kds.map (·.2)) → Top K S (some (.dT kvs)) (.dT kds)
 | ins {C dx : Addr} {fs : List (Str × V)} {fds : List (Str × D)} : fs.map (·.1) = fds.map (·.1) → RepL K S (fs.map (·.2)) (fds.map (·.2)) → Top K S (some (.ins C dx fs)) (.obj C fds)
 | dN {w : World} {a0 : Addr} {kvs : NKs} {kds : List (NestedKey × D)} : KeysN S kvs → kvs.map (·.1) = kds.map (·.1) → RepL K S (kvs.map (·.2.2)) (kds.map (·.2)) → Top K S (some (dNO w a0 kvs)) (.dN w kds)
def offp (o : Option Addr) (H : Hp) : Hp := fun a => if o = some a then none else H a
def BR (K : PySem.W.Frag) (o : Option Addr) (H0 S H : Hp) (v : V) : B → Prop
 | .st d => Rep K S v d
 | .ow a d => v = .ref a ∧ S a = none ∧ o ≠ some a ∧ Top K S (H a) d
 | .br d => Rep K (offp o H0) v d
 | .pool => ∃ p, o = some p ∧ v = .ref p
 | .xn a cls d C fs => v = .ref a ∧ cls = .ref C ∧ ∃ dd, d = some dd ∧ o ≠ some dd ∧ Exn K S H dd fs
section
variable {K : PySem.W.Frag} {o : Option Addr} {H0 S H S1 H1 : Hp} {v : V} {b : B} {d : D} {a : Addr}
theorem off_same (k : Kp o H0 H) : Same (offp o H0) H := fun a u h => by
 unfold offp at h
 split at h
 ·cases h
 ·exact k a u (by assumption) h
theorem Top.le (e : Le S S1) {x : Option HO} {d : D} (h : Top K S x d) : Top K S1 x d := by
 cases h with
 | lst r => exact .lst (repL_mono e r)
 | dK a r => exact .dK a (repL_mono e r)
 | dT a r => exact .dT a (repL_mono e r)
 | ins a r => exact .ins a (repL_mono e r)
 | dN k a r => exact .dN (k.mono e.tp) a (repL_mono e r)
theorem Top.mono (e : Same S S1) {x : Option HO} {d : D} (h : Top K S x d) : Top K S1 x d := Top.le (Same.le e) h
theorem Top.rep (e : Same S H) {x : Option HO} {d : D} (h : Top K S x d) (q : H a = x) : Rep K H (.ref a) d := by
 cases h with
 | lst r => exact .lst q (RepL.same e r)
 | dK z r => exact .dK (Rd.of q) z (RepL.same e r)
 | dT z r => exact .dT (Rd.of q) z (RepL.same e r)
 | ins z r => exact .obj q z (RepL.same e r)
 | dN k z r => exact .dN (Rd.of q) (k.mono fun a xs h => e _ _ h) z (RepL.same e r)
theorem Top.some {x : Option HO} {d : D} (h : Top K S x d) : ∃ u, x = some u := by
 cases h <;> exact ⟨_, rfl⟩
theorem Top.nt {x : HO} {d : D} {H : Hp} (h : Top K S (H a) d) (q : H a = Option.some x) : Nt H a := by
 refine Nt.of q fun xs e => ?_
 rw [q, e] at h
 cases h
theorem BR.mono (g : GrO o S H S1 H1) (h : BR K o H0 S H v b) : BR K o H0 S1 H1 v b := by
 cases b with
 | st d => exact Rep.same g.st h
 | ow a d =>
  obtain ⟨e, n, np, t⟩ := h
  obtain ⟨u, hu⟩ := t.some
  refine ⟨e, (g.fr a n (ne_none hu) (t.nt hu)).1, np, ?_⟩
  rw [g.rs a u np hu, ← hu]
  exact t.mono g.st
 | br d => exact h
 | pool => exact h
 | xn a cls d C fs =>
  obtain ⟨e1, e2, dd, e3, np, ⟨fv, x1, x2, x3⟩⟩ := h
  exact ⟨e1, e2, dd, e3, np, ⟨fv, g.rs dd _ np x1, x2, RepL.same g.st x3⟩⟩
/-- what it is now -/
theorem BR.now (w : Wl o S H) (k : Kp o H0 H) (h : BR K o H0 S H v b) : Rep K H v b.get := by
 cases b with
 | st d => exact Rep.same w.1 h
 | ow a d =>
  obtain ⟨rfl, n, np, t⟩ := h
  exact t.rep w.1 rfl
 | br d => exact Rep.same (off_same k) h
 | pool => exact .opq _
 | xn a cls d C fs => exact .opq _
theorem BR.ofSc (h : d.sc = Option.some v) : BR K o H0 S H v (.st d) := Rep.ofSc h
end
abbrev AEnv := List (Option B)
abbrev AX0 := Addr → List (Str × D) → Prop
abbrev AX := AEnv → AX0
abbrev AE := AX → AEnv → (B → Prop) → Prop
abbrev AN := AX → AEnv → (D → Prop) → Prop
abbrev AT := AX → AEnv → (Bool → Prop) → Prop
abbrev AA := AX → AEnv → (List B → Prop) → Prop
structure AEnds where
 nx : AEnv → Prop
 rt : D → Prop
 rn : D → Prop
 bk : AEnv → Prop
 ct : AEnv → Prop
 ax : AX
abbrev AS := AEnds → AEnv → Prop
def slot : AEnv → Nat → Option B
 | [], _ => none
 | x :: _, 0 => x
 | _ :: r, n + 1 => slot r n
theorem slot_eq : ∀ (env : AEnv) (i : Nat), slot env i = env[i]?.join
 | [], _ => rfl
 | x :: _, 0 => rfl
 | _ :: r, n + 1 => slot_eq r n
theorem slot_set {env : AEnv} {i j : Nat} {x : Option B} : slot (env.set i x) j = if i = j ∧ i < env.length then x else slot env j := by
 rw [slot_eq, slot_eq, List.getElem?_set]
 by_cases h : i = j
 ·subst h
  by_cases h2 : i < env.length
  ·simp [h2]
  ·simp [h2]
 ·simp [h]
structure ES (K : PySem.W.Frag) (o : Option Addr) (H0 S H : Hp) (σ : L2.St) (env : AEnv) : Prop where
 wl : Wl o S H
 kp : Kp o H0 H
 len : σ.length = env.length
 sl : ∀ i b, slot env i = some b → ∃ v, σ[i]? = some (some v) ∧ BR K o H0 S H v b
def XL (K : PySem.W.Frag) (W : WX) (o : Option Addr) (S H : Hp) (σ : L2.St) (env : AEnv) (ax : AX) : Prop :=
 ∀ C fs dd S' H', GrO o S H S' H' → Wl o S' H' → H dd = none → Exn K S' H' dd fs → ax env C fs → W (.ref C) (some dd) σ H'
section
variable (K : PySem.W.Frag) (W : WX)
def EA (te : TE) (ae : AE) : Prop := ∀ o H0 S H σ env ax Q Qc, ES K o H0 S H σ env → ae ax env Q →
 (∀ v b S' H', GrO o S H S' H' → Wl o S' H' → BR K o H0 S' H' v b → Q b → Qc v H') → XL K W o S H σ env ax → te σ H Qc
/-- a new object -/
def EN (te : TE) (an : AN) : Prop := ∀ o H0 S H σ env ax Q Qc, ES K o H0 S H σ env → an ax env Q →
 (∀ a d S' H', GrO o S H S' H' → Wl o S' H' → H a = none → S' a = none → Top K S' (H' a) d → Q d → Qc (.ref a) H') → XL K W o S H σ env ax → te σ H Qc
def ET (tt : TT) (at_ : AT) : Prop := ∀ o H0 S H σ env ax Q Qc, ES K o H0 S H σ env → at_ ax env Q →
 (∀ b S' H', GrO o S H S' H' → Wl o S' H' → Q b → Qc b H') → XL K W o S H σ env ax → tt σ H Qc
def EL (n : Nat) (ta : TA) (aa : AA) : Prop := ∀ o H0 S H σ env ax Q Qc, ES K o H0 S H σ env → aa ax env Q →
 (∀ vs bs S' H', GrO o S H S' H' → Wl o S' H' → Paired (BR K o H0 S' H') vs bs → bs.length = n → Q bs → Qc vs H') → XL K W o S H σ env ax → ta σ H Qc
end
section
variable {K : PySem.W.Frag} {W : WX} {o : Option Addr} {H0 S H S1 H1 S2 H2 : Hp} {σ : L2.St} {env : AEnv} {ax : AX}
theorem ES.mono (e : ES K o H0 S H σ env) (g : GrO o S H S1 H1) (w : Wl o S1 H1) : ES K o H0 S1 H1 σ env :=
 ⟨w, g.kp e.kp, e.len, fun i b h => let ⟨v, h1, h2⟩ := e.sl i b h; ⟨v, h1, h2.mono g⟩⟩
theorem XL.mono (x : XL K W o S H σ env ax) (g : GrO o S H S1 H1) : XL K W o S1 H1 σ env ax := fun C fs dd S' H' g' w' n e a => x C fs dd S' H' (g.trans g') w' (g.bk n) e a
theorem pairBR_mono (g : GrO o S H S1 H1) {vs : List V} {bs : List B} (h : Paired (BR K o H0 S H) vs bs) : Paired (BR K o H0 S1 H1) vs bs := L2.Paired.mapP h fun _ _ q => q.mono g
theorem EN.ea {te : TE} {an : AN} (h : EN K W te an) : EA K W te (fun ax env Q => an ax env fun d => Q (.st d)) := fun o H0 S H σ env ax Q Qc es q k xl =>
 h o H0 S H σ env ax _ Qc es q (fun a d S' H' g w n ns t q' => by
  obtain ⟨u, hu⟩ := t.some
  have np := (es.wl).np n
  refine k (.ref a) (.st d) (upd S' a u) H' (g.fix n ns) (w.fix hu ns np) ?_ q'
  have : Same S' (upd S' a u) := same_upd ns
  exact (t.mono this).rep (Same.refl _) (by rw [upd_same, hu])) xl
end
def aVar (i : Nat) (ax : AX) (env : AEnv) (Q : B → Prop) : Prop := match slot env i with
 | some b => Q b
 | none => False
def aC (d : D) (ax : AX) (env : AEnv) (Q : B → Prop) : Prop := Q (.st d)
def aOp (f : D → D → (D → Prop) → Prop) (a b : AE) (ax : AX) (env : AEnv) (Q : B → Prop) : Prop := a ax env fun x => b ax env fun y => f x.get y.get fun d => Q (.st d)
def ifB (b : Bool) (x y : Prop) : Prop := match b with
 | true => x
 | false => y
theorem ifB_t {x y : Prop} : ifB true x y = x := rfl
theorem ifB_f {x y : Prop} : ifB false x y = y := rfl
theorem ifB_both {b : Bool} {x y : Prop} (h1 : b = true → x) (h2 : b = false → y) : ifB b x y := by
 cases b with
 | true => exact h1 rfl
 | false => exact h2 rfl
theorem ifB_dec {p : Prop} [Decidable p] {x y : Prop} (h1 : p → x) (h2 : ¬ p → y) : ifB (decide p) x y := ifB_both (fun h => h1 (of_decide_eq_true h)) (fun h => h2 (of_decide_eq_false h))
section
variable {K : PySem.W.Frag} {W : WX} {ta tb tc te : TE} {aa ab ac ae : AE} {t u : TT} {ct cu : AT} {r r' : R2}
theorem ea_var (i : Nat) : EA K W (tVar i) (aVar i) := fun o H0 S H σ env ax Q Qc es q k xl => by
 unfold aVar at q
 split at q
 ·rename_i b hb
  obtain ⟨v, h1, h2⟩ := es.sl i b hb
  exact ⟨v, h1, k v b S H GrO.refl es.wl h2 q⟩
 ·exact q.elim
theorem ea_c {d : D} {v : V} (h : d.sc = some v := by rfl) : EA K W (tC v) (aC d) := fun o H0 S H σ env ax Q Qc es q k xl => k v (.st d) S H GrO.refl es.wl (.ofSc h) q
/-- two operands, a value that needs no heap -/
def R2S (K : PySem.W.Frag) (r : R2) (f : D → D → (D → Prop) → Prop) : Prop := ∀ H x y dx dy Q Qc, Rep K H x dx → Rep K H y dy → f dx dy Q → (∀ d v, d.sc = some v → Q d → Qc v H) → r x y H Qc
theorem ea_op {f : D → D → (D → Prop) → Prop} (hr : R2S K r f) (ha : EA K W ta aa) (hb : EA K W tb ab) : EA K W (tOp r ta tb) (aOp f aa ab) := fun o H0 S H σ env ax Q Qc es q k xl =>
 ha o H0 S H σ env ax _ _ es q (fun v b S1 H1 g1 w1 r1 q1 =>
  hb o H0 S1 H1 σ env ax _ _ (es.mono g1 w1) q1 (fun v2 b2 S2 H2 g2 w2 r2 q2 =>
   hr H2 v v2 _ _ _ _ ((r1.mono g2).now w2 ((g1.trans g2).kp es.kp)) (r2.now w2 ((g1.trans g2).kp es.kp)) q2 fun d v hd q3 => k v (.st d) S2 H2 (g1.trans g2) w2 (.ofSc hd) q3) (xl.mono g1)) xl
def aTest (a : AE) (ax : AX) (env : AEnv) (Q : Bool → Prop) : Prop := a ax env fun x => match x.get with
 | .bl b => Q b
 | _ => False
theorem rep_bl {H : Hp} {v : V} {b : Bool} (h : Rep K H v (.bl b)) : v = .bl b := by cases h; rfl
theorem rep_int {H : Hp} {v : V} {i : Int} (h : Rep K H v (.int i)) : v = .int i := by cases h; rfl
theorem rep_str {H : Hp} {v : V} {i : Str} (h : Rep K H v (.str i)) : v = .str i := by cases h; rfl
theorem rep_lst {H : Hp} {v : V} {ds : List D} (h : Rep K H v (.lst ds)) : ∃ a xs, v = .ref a ∧ H a = some (.lst xs) ∧ RepL K H xs ds := by
 cases h with
 | lst a b => exact ⟨_, _, rfl, a, b⟩
theorem rep_tup {H : Hp} {v : V} {ds : List D} (h : Rep K H v (.tup ds)) : ∃ a xs, v = .ref a ∧ SqT K H a xs ∧ RepL K H xs ds := by
 cases h with
 | tup a b => exact ⟨_, _, rfl, SqT.of a, b⟩
theorem rep_tupX {H : Hp} {v : V} {ds : List D} (h : Rep K H v (.tup ds)) : ∃ a xs, v = .ref a ∧ H a = some (.tup xs) ∧ RepL K H xs ds := by
 cases h with
 | tup a b => exact ⟨_, _, rfl, a, b⟩
theorem rep_dK {H : Hp} {v : V} {ds : List (Key × D)} (h : Rep K H v (.dK ds)) : ∃ a kvs, v = .ref a ∧ Rd H a (.dK kvs) ∧ kvs.map (·.1) = ds.map (·.1) ∧ RepL K H (kvs.map (·.2)) (ds.map (·.2)) := by
 cases h with
 | dK a b c => exact ⟨_, _, rfl, a, b, c⟩
theorem rep_obj {H : Hp} {v : V} {C : Addr} {ds : List (Str × D)} (h : Rep K H v (.obj C ds)) : ∃ a dx fs, v = .ref a ∧ H a = some (.ins C dx fs) ∧ fs.map (·.1) = ds.map (·.1) ∧ RepL K H (fs.map (·.2)) (ds.map (·.2)) := by
 cases h with
 | obj a b c => exact ⟨_, _, _, rfl, a, b, c⟩
theorem et_test (h : EA K W te ae) : ET K W (tTest te) (aTest ae) := fun o H0 S H σ env ax Q Qc es q k xl =>
 h o H0 S H σ env ax _ _ es q (fun v b S1 H1 g1 w1 r1 q1 => by
  have rn := r1.now w1 (g1.kp es.kp)
  cases hb : b.get with
  | bl c =>
   rw [hb] at rn q1
   exact ⟨c, rep_bl rn, k c S1 H1 g1 w1 q1⟩
  | _ => rw [hb] at q1; exact q1.elim) xl
theorem et_B (h : EA K W te ae) : ET K W (tB te) (aTest ae) := et_test h
def aAnd (a b : AT) (ax : AX) (env : AEnv) (Q : Bool → Prop) : Prop := a ax env fun c => ifB c (b ax env Q) (Q false)
def aOr (a b : AT) (ax : AX) (env : AEnv) (Q : Bool → Prop) : Prop := a ax env fun c => ifB c (Q true) (b ax env Q)
def aNot (a : AT) (ax : AX) (env : AEnv) (Q : Bool → Prop) : Prop := a ax env fun c => Q (!c)
theorem et_and (h1 : ET K W t ct) (h2 : ET K W u cu) : ET K W (tAnd t u) (aAnd ct cu) := fun o H0 S H σ env ax Q Qc es q k xl =>
 h1 o H0 S H σ env ax _ _ es q (fun c S1 H1 g1 w1 q1 => by
  cases c with
  | true => exact h2 o H0 S1 H1 σ env ax Q _ (es.mono g1 w1) q1 (fun b S2 H2 g2 w2 q2 => k b S2 H2 (g1.trans g2) w2 q2) (xl.mono g1)
  | false => exact k false S1 H1 g1 w1 q1) xl
theorem et_or (h1 : ET K W t ct) (h2 : ET K W u cu) : ET K W (tOr t u) (aOr ct cu) := fun o H0 S H σ env ax Q Qc es q k xl =>
 h1 o H0 S H σ env ax _ _ es q (fun c S1 H1 g1 w1 q1 => by
  cases c with
  | false => exact h2 o H0 S1 H1 σ env ax Q _ (es.mono g1 w1) q1 (fun b S2 H2 g2 w2 q2 => k b S2 H2 (g1.trans g2) w2 q2) (xl.mono g1)
  | true => exact k true S1 H1 g1 w1 q1) xl
theorem et_not (h1 : ET K W t ct) : ET K W (tNot t) (aNot ct) := fun o H0 S H σ env ax Q Qc es q k xl =>
 h1 o H0 S H σ env ax _ _ es q (fun c S1 H1 g1 w1 q1 => k _ S1 H1 g1 w1 q1) xl
/-- and, or, not as values (bools) -/
def aAndV (a b : AE) (ax : AX) (env : AEnv) (Q : B → Prop) : Prop := a ax env fun x => match x.get with
 | .bl c => ifB c (b ax env Q) (Q (.st (.bl false)))
 | _ => False
def aOrV (a b : AE) (ax : AX) (env : AEnv) (Q : B → Prop) : Prop := a ax env fun x => match x.get with
 | .bl c => ifB c (Q (.st (.bl true))) (b ax env Q)
 | _ => False
def aNotV (a : AE) (ax : AX) (env : AEnv) (Q : B → Prop) : Prop := a ax env fun x => match x.get with
 | .bl c => Q (.st (.bl (!c)))
 | _ => False
theorem ea_and (ha : EA K W ta aa) (hb : EA K W tb ab) : EA K W (tAndV ta tb) (aAndV aa ab) := fun o H0 S H σ env ax Q Qc es q k xl =>
 ha o H0 S H σ env ax _ _ es q (fun v b S1 H1 g1 w1 r1 q1 => by
  have rn := r1.now w1 (g1.kp es.kp)
  cases hb' : b.get with
  | bl c =>
   rw [hb'] at rn q1
   refine ⟨c, rep_bl rn, ?_⟩
   cases c with
   | true => exact hb o H0 S1 H1 σ env ax Q _ (es.mono g1 w1) q1 (fun v b S2 H2 g2 w2 r2 q2 => k v b S2 H2 (g1.trans g2) w2 r2 q2) (xl.mono g1)
   | false => exact k _ (.st (.bl false)) S1 H1 g1 w1 (BR.ofSc rfl) q1
  | _ => rw [hb'] at q1; exact q1.elim) xl
theorem ea_notV (ha : EA K W ta aa) : EA K W (tNotV ta) (aNotV aa) := fun o H0 S H σ env ax Q Qc es q k xl =>
 ha o H0 S H σ env ax _ _ es q (fun v b S1 H1 g1 w1 r1 q1 => by
  have rn := r1.now w1 (g1.kp es.kp)
  cases hb' : b.get with
  | bl c =>
   rw [hb'] at rn q1
   exact ⟨c, rep_bl rn, k _ (.st (.bl (!c))) S1 H1 g1 w1 (BR.ofSc rfl) q1⟩
  | _ => rw [hb'] at q1; exact q1.elim) xl
def aIfE (c : AT) (a b : AE) (ax : AX) (env : AEnv) (Q : B → Prop) : Prop := c ax env fun z => ifB z (a ax env Q) (b ax env Q)
theorem ea_ifE (hc : ET K W t ct) (ha : EA K W ta aa) (hb : EA K W tb ab) : EA K W (tIf t ta tb) (aIfE ct aa ab) := fun o H0 S H σ env ax Q Qc es q k xl =>
 hc o H0 S H σ env ax _ _ es q (fun c S1 H1 g1 w1 q1 => by
  cases c with
  | true => exact ha o H0 S1 H1 σ env ax Q _ (es.mono g1 w1) q1 (fun v b S2 H2 g2 w2 r2 q2 => k v b S2 H2 (g1.trans g2) w2 r2 q2) (xl.mono g1)
  | false => exact hb o H0 S1 H1 σ env ax Q _ (es.mono g1 w1) q1 (fun v b S2 H2 g2 w2 r2 q2 => k v b S2 H2 (g1.trans g2) w2 r2 q2) (xl.mono g1)) xl
def aChain (f f' : D → D → (D → Prop) → Prop) (a b c : AE) (ax : AX) (env : AEnv) (Q : B → Prop) : Prop := a ax env fun x => b ax env fun y => f x.get y.get fun z => match z with
 | .bl k => ifB k (c ax env fun z => f' y.get z.get fun d => Q (.st d)) (Q (.st (.bl false)))
 | _ => False
def aNil (ax : AX) (env : AEnv) (Q : List B → Prop) : Prop := Q []
def aCons (a : AE) (r : AA) (ax : AX) (env : AEnv) (Q : List B → Prop) : Prop := a ax env fun x => r ax env fun xs => Q (x :: xs)
theorem el_nil : EL K W 0 tNil aNil := fun o H0 S H σ env ax Q Qc es q k xl => k [] [] S H GrO.refl es.wl .nil rfl q
theorem el_cons {n : Nat} {tr : TA} {ar : AA} (ha : EA K W ta aa) (hr : EL K W n tr ar) : EL K W (n + 1) (tCons ta tr) (aCons aa ar) := fun o H0 S H σ env ax Q Qc es q k xl =>
 ha o H0 S H σ env ax _ _ es q (fun v b S1 H1 g1 w1 r1 q1 =>
  hr o H0 S1 H1 σ env ax _ _ (es.mono g1 w1) q1 (fun vs bs S2 H2 g2 w2 r2 hn q2 => k (v :: vs) (b :: bs) S2 H2 (g1.trans g2) w2 (.cons (r1.mono g2) r2) (by rw [List.length_cons, hn]) q2) (xl.mono g1)) xl
end
end
section
structure ST (K : PySem.W.Frag) (o : Option Addr) (S0 H0 S H : Hp) (σ : L2.St) (env : AEnv) : Prop where
 gr : GrO o S0 H0 S H
 es : ES K o H0 S H σ env
 fresh : ∀ i a d, slot env i = some (.ow a d) → H0 a = none
 dist : ∀ i j a d d', slot env i = some (.ow a d) → slot env j = some (.ow a d') → i = j
structure Lk (K : PySem.W.Frag) (W : WX) (o : Option Addr) (S0 H0 : Hp) (E : AEnds) (Dc : Ends) : Prop where
 nx : ∀ σ env S H, ST K o S0 H0 S H σ env → E.nx env → Dc.nx σ H
 bk : ∀ σ env S H, ST K o S0 H0 S H σ env → E.bk env → Dc.bk σ H
 ct : ∀ σ env S H, ST K o S0 H0 S H σ env → E.ct env → Dc.ct σ H
 rt : ∀ v d S H, GrO o S0 H0 S H → Wl o S H → Rep K S v d → E.rt d → Dc.rt v H
 rn : ∀ a d S H, GrO o S0 H0 S H → Wl o S H → H0 a = none → S a = none → Top K S (H a) d → E.rn d → Dc.rt (.ref a) H
 ex : ∀ σ env C fs dd S H, ST K o S0 H0 S H σ env → H0 dd = none → Exn K S H dd fs → E.ax env C fs → W (.ref C) (some dd) σ H
def SA (K : PySem.W.Frag) (W : WX) (ts : TS) (as : AS) : Prop := ∀ o S0 H0 S H σ env E Dc, ST K o S0 H0 S H σ env → Lk K W o S0 H0 E Dc → as E env → ts Dc σ H
/-- stored at js alone -/
def Stored (js : List Nat) (σ σ' : L2.St) : Prop := σ'.length = σ.length ∧ ∀ i, i ∉ js → σ'[i]? = σ[i]?
theorem Stored.refl {js : List Nat} {σ : L2.St} : Stored js σ σ := ⟨rfl, fun _ _ => rfl⟩
theorem Stored.trans {js : List Nat} {σ σ1 σ2 : L2.St} (a : Stored js σ σ1) (b : Stored js σ1 σ2) : Stored js σ σ2 := ⟨b.1.trans a.1, fun i h => (b.2 i h).trans (a.2 i h)⟩
theorem Stored.set {js : List Nat} {σ : L2.St} {i : Nat} {v : Option V} (h : i ∈ js) : Stored js σ (σ.set i v) := ⟨List.length_set, fun j hj => by
 rw [List.getElem?_set_ne]
 intro e
 rw [e] at h
 exact hj h⟩
theorem wipe_at (σ : L2.St) : ∀ (vs : List Nat) (i : Nat), (wipe σ vs)[i]? = if i ∈ vs ∧ i < σ.length then some none else σ[i]?
 | [], i => by simp [wipe]
 | v :: vs, i => by
  unfold wipe
  rw [List.getElem?_set, wipe_at σ vs i, wipe_length]
  by_cases h : v = i
  ·subst h
   by_cases h2 : v < σ.length
   ·simp [h2]
   ·simp [h2]
  ·have h' : ¬ i = v := fun e => h e.symm
   simp [h, h']
theorem wipe_stored {js vs : List Nat} {σ σ' : L2.St} (hj : ∀ j ∈ js, j ∈ vs) (h : Stored js (wipe σ vs) σ') : wipe σ' vs = wipe σ vs := by
 apply List.ext_getElem?
 intro i
 have hl : σ'.length = σ.length := by rw [h.1, wipe_length]
 rw [wipe_at, wipe_at, hl]
 by_cases hi : i ∈ vs
 ·by_cases h2 : i < σ.length
  ·simp [hi, h2]
  ·simp only [h2, and_false, if_false]
   rw [List.getElem?_eq_none (by omega), List.getElem?_eq_none (by omega)]
 ·simp only [hi, false_and, if_false]
  rw [h.2 i (fun z => hi (hj i z)), wipe_at]
  simp [hi]
def awipe (env : AEnv) : List Nat → AEnv
 | [] => env
 | v :: vs => (awipe env vs).set v none
section
variable {K : PySem.W.Frag} {W : WX} {o : Option Addr} {S0 H0 S H S1 H1 S2 H2 : Hp} {σ : L2.St} {env : AEnv} {ax : AX} {E : AEnds} {Dc : Ends} {v : V} {b : B}
theorem ST.mono (t : ST K o S0 H0 S H σ env) (g : GrO o S H S1 H1) (w : Wl o S1 H1) : ST K o S0 H0 S1 H1 σ env := ⟨t.gr.trans g, t.es.mono g w, t.fresh, t.dist⟩
theorem Lk.xl (l : Lk K W o S0 H0 E Dc) (t : ST K o S0 H0 S H σ env) : XL K W o S H σ env E.ax := fun C fs dd S' H' g' w n e a => l.ex σ env C fs dd S' H' (t.mono g' w) (t.gr.bk n) e a
theorem ES.set (e : ES K o H0 S H σ env) (i : Nat) (r : BR K o H0 S H v b) : ES K o H0 S H (σ.set i (some v)) (env.set i (some b)) := by
 refine ⟨e.wl, e.kp, by rw [List.length_set, List.length_set, e.len], fun j c h => ?_⟩
 rw [slot_set] at h
 by_cases q : i = j ∧ i < env.length
 ·rw [if_pos q] at h
  cases h
  refine ⟨v, ?_, r⟩
  rw [← q.1, List.getElem?_set_self (by rw [e.len]; exact q.2)]
 ·rw [if_neg q] at h
  obtain ⟨x, h1, h2⟩ := e.sl j c h
  refine ⟨x, ?_, h2⟩
  rw [List.getElem?_set]
  by_cases q1 : i = j
  ·exfalso
   have : j < σ.length := (List.getElem?_eq_some_iff.mp h1).1
   exact q ⟨q1, by rw [← e.len, q1]; exact this⟩
  ·rw [if_neg q1]
   exact h1
theorem ES.wipe (e : ES K o H0 S H σ env) : ∀ vs, ES K o H0 S H (wipe σ vs) (awipe env vs)
 | [] => e
 | i :: vs => by
  have e := e.wipe vs
  refine ⟨e.wl, e.kp, by show ((L2.wipe σ vs).set i none).length = ((WW.awipe env vs).set i none).length; rw [List.length_set, List.length_set]; exact e.len, fun j c h => ?_⟩
  have h : slot ((WW.awipe env vs).set i none) j = some c := h
  rw [slot_set] at h
  by_cases q : i = j ∧ i < (WW.awipe env vs).length
  ·rw [if_pos q] at h
   cases h
  ·rw [if_neg q] at h
   obtain ⟨x, h1, h2⟩ := e.sl j c h
   refine ⟨x, ?_, h2⟩
   show ((L2.wipe σ vs).set i none)[j]? = some (some x)
   rw [List.getElem?_set]
   by_cases q1 : i = j
   ·exfalso
    have : j < (L2.wipe σ vs).length := (List.getElem?_eq_some_iff.mp h1).1
    exact q ⟨q1, by rw [← e.len, q1]; exact this⟩
   ·rw [if_neg q1]
    exact h1
def B.isOw : B → Bool
 | .ow _ _ => true
 | _ => false
theorem ow_set {i : Nat} (h : b.isOw = false) {j : Nat} {a : Addr} {d : D} (q : slot (env.set i (some b)) j = some (.ow a d)) : slot env j = some (.ow a d) := by
 rw [slot_set] at q
 split at q
 ·cases q
  cases h
 ·exact q
theorem ST.upd (t : ST K o S0 H0 S H σ env) {σ' : L2.St} {env' : AEnv} (e : ES K o H0 S H σ' env') (h : ∀ i a d, slot env' i = some (.ow a d) → slot env i = some (.ow a d)) : ST K o S0 H0 S H σ' env' :=
 ⟨t.gr, e, fun i a d q => t.fresh i a d (h i a d q), fun i j a d d' q1 q2 => t.dist i j a d d' (h _ _ _ q1) (h _ _ _ q2)⟩
theorem ST.set (t : ST K o S0 H0 S H σ env) (i : Nat) (r : BR K o H0 S H v b) (h : b.isOw = false) : ST K o S0 H0 S H (σ.set i (some v)) (env.set i (some b)) :=
 t.upd (t.es.set i r) fun j a d q => ow_set h q
end
def GA (K : PySem.W.Frag) (js : List Nat) (g : TG) (ag : B → AEnv → (AEnv → Prop) → Prop) : Prop := ∀ o H0 S H σ env v b Qe C, ES K o H0 S H σ env → BR K o H0 S H v b → ag b env Qe →
 (∀ σ' env', ES K o H0 S H σ' env' → Stored js σ σ' → (∀ i a d, slot env' i = some (.ow a d) → slot env i = some (.ow a d)) → Qe env' → C σ' H) → g v σ H C
def GAs (K : PySem.W.Frag) (js : List Nat) (g : TGs) (ag : List B → AEnv → (AEnv → Prop) → Prop) : Prop := ∀ o H0 S H σ env vs bs Qe C, ES K o H0 S H σ env → Paired (BR K o H0 S H) vs bs → ag bs env Qe →
 (∀ σ' env', ES K o H0 S H σ' env' → Stored js σ σ' → (∀ i a d, slot env' i = some (.ow a d) → slot env i = some (.ow a d)) → Qe env' → C σ' H) → g vs σ H C
def aName (i : Nat) (b : B) (env : AEnv) (Q : AEnv → Prop) : Prop := match b with
 | .ow _ _ => False
 | .st d => Q (env.set i (some (.st d)))
 | .br d => Q (env.set i (some (.br d)))
 | .pool => Q (env.set i (some .pool))
 | .xn a c d C fs => Q (env.set i (some (.xn a c d C fs)))
def aGNil (bs : List B) (env : AEnv) (Q : AEnv → Prop) : Prop := match bs with
 | [] => Q env
 | _ => False
def aGCons (g : B → AEnv → (AEnv → Prop) → Prop) (r : List B → AEnv → (AEnv → Prop) → Prop) (bs : List B) (env : AEnv) (Q : AEnv → Prop) : Prop := match bs with
 | b :: bs => g b env fun env' => r bs env' Q
 | [] => False
def aGTup (n : Nat) (r : List B → AEnv → (AEnv → Prop) → Prop) (b : B) (env : AEnv) (Q : AEnv → Prop) : Prop := match b.get with
 | .tup ds => ds.length = n ∧ r (ds.map b.sub) env Q
 | _ => False
theorem aName_iff {i : Nat} {b : B} {env : AEnv} {Q : AEnv → Prop} (h : aName i b env Q) : b.isOw = false ∧ Q (env.set i (some b)) := by
 cases b with
 | ow a d => exact h.elim
 | _ => exact ⟨rfl, h⟩
section
variable {K : PySem.W.Frag} {W : WX} {js : List Nat}
theorem pair_br {o : Option Addr} {H0 S H : Hp} : ∀ {xs : List V} {ds : List D}, RepL K (offp o H0) xs ds → Paired (BR K o H0 S H) xs (ds.map B.br)
 | _, _, .nil => .nil
 | _, _, .cons a r => .cons a (pair_br r)
theorem pair_st {o : Option Addr} {H0 S H : Hp} : ∀ {xs : List V} {ds : List D}, RepL K S xs ds → Paired (BR K o H0 S H) xs (ds.map B.st)
 | _, _, .nil => .nil
 | _, _, .cons a r => .cons a (pair_st r)
theorem BR.tup {o : Option Addr} {H0 S H : Hp} {v : V} {b : B} {ds : List D} (w : Wl o S H) (k : Kp o H0 H) (h : BR K o H0 S H v b) (e : b.get = .tup ds) : ∃ a xs, v = .ref a ∧ SqT K H a xs ∧ Paired (BR K o H0 S H) xs (ds.map b.sub) := by
 cases b with
 | st d =>
  cases e
  obtain ⟨a, xs, e1, e2, e3⟩ := rep_tup h
  exact ⟨a, xs, e1, Same.seqT w.1 e2, pair_st e3⟩
 | ow a d =>
  cases e
  obtain ⟨_, _, _, t⟩ := h
  generalize H a = x at t
  cases t
 | br d =>
  cases e
  obtain ⟨a, xs, e1, e2, e3⟩ := rep_tup h
  exact ⟨a, xs, e1, Same.seqT (off_same k) e2, pair_br e3⟩
 | _ => cases e
theorem BR.lst {o : Option Addr} {H0 S H : Hp} {v : V} {b : B} {ds : List D} (w : Wl o S H) (k : Kp o H0 H) (h : BR K o H0 S H v b) (e : b.get = .lst ds) : ∃ a xs, v = .ref a ∧ H a = some (.lst xs) ∧ Paired (BR K o H0 S H) xs (ds.map b.sub) := by
 cases b with
 | st d =>
  cases e
  obtain ⟨a, xs, e1, e2, e3⟩ := rep_lst h
  exact ⟨a, xs, e1, w.1 _ _ e2, pair_st e3⟩
 | ow a d =>
  cases e
  obtain ⟨e1, _, _, t⟩ := h
  generalize hx : H a = x at t
  cases t with
  | lst r => exact ⟨a, _, e1, hx, pair_st r⟩
 | br d =>
  cases e
  obtain ⟨a, xs, e1, e2, e3⟩ := rep_lst h
  exact ⟨a, xs, e1, off_same k _ _ e2, pair_br e3⟩
 | _ => cases e
theorem ga_name (i : Nat) (h : i ∈ js := by decide) : GA K js (gName i) (aName i) := fun o H0 S H σ env v b Qe C es r q k => by
 obtain ⟨h1, h2⟩ := aName_iff q
 exact k _ _ (es.set i r) (.set h) (fun j a d q => ow_set h1 q) h2
theorem gas_nil : GAs K js gNil aGNil := fun o H0 S H σ env vs bs Qe C es r q k => by
 cases r with
 | nil => exact ⟨rfl, k σ env es .refl (fun _ _ _ h => h) q⟩
 | cons a b => exact q.elim
theorem gas_cons {g : TG} {gs : TGs} {ag : B → AEnv → (AEnv → Prop) → Prop} {ags : List B → AEnv → (AEnv → Prop) → Prop} (h1 : GA K js g ag) (h2 : GAs K js gs ags) : GAs K js (gCons g gs) (aGCons ag ags) := fun o H0 S H σ env vs bs Qe C es r q k => by
 cases r with
 | nil => exact q.elim
 | cons a b =>
  refine ⟨_, _, rfl, h1 o H0 S H σ env _ _ _ _ es a q fun σ' env' es' s' ow' q' => ?_⟩
  exact h2 o H0 S H σ' env' _ _ _ _ es' b q' fun σ2 env2 es2 s2 ow2 q2 => k σ2 env2 es2 (s'.trans s2) (fun i a d h => ow' i a d (ow2 i a d h)) q2
theorem paired_len {α β : Type} {R : α → β → Prop} : ∀ {xs : List α} {ts : List β}, Paired R xs ts → xs.length = ts.length
 | _, _, .nil => rfl
 | _, _, .cons _ t => by rw [List.length_cons, List.length_cons, paired_len t]
theorem ga_tup {n : Nat} {gs : TGs} {ags : List B → AEnv → (AEnv → Prop) → Prop} (h : GAs K js gs ags) : GA K js (gTup K n gs) (aGTup n ags) := fun o H0 S H σ env v b Qe C es r q k => by
 unfold aGTup at q
 split at q
 ·rename_i ds hd
  obtain ⟨a, xs, rfl, hx, hp⟩ := r.tup es.wl es.kp hd
  refine ⟨a, xs, rfl, hx, ?_, h o H0 S H σ env xs _ _ _ es hp q.2 k⟩
  rw [paired_len hp, List.length_map]
  exact q.1
 ·exact q.elim
end
def aNext (E : AEnds) (env : AEnv) : Prop := E.nx env
def aSeq (a b : AS) (E : AEnds) (env : AEnv) : Prop := a ⟨fun e => b E e, E.rt, E.rn, E.bk, E.ct, E.ax⟩ env
theorem go_seq {a b : AS} {E : AEnds} {env : AEnv} (h : a ⟨fun e => b E e, E.rt, E.rn, E.bk, E.ct, E.ax⟩ env) : aSeq a b E env := h
def aCut (a b : AS) (E : AEnds) (env : AEnv) : Prop := ∃ M : AEnv → Prop, a ⟨M, E.rt, E.rn, E.bk, E.ct, E.ax⟩ env ∧ ∀ env', M env' → b E env'
def aIf (c : AT) (a b : AS) (E : AEnds) (env : AEnv) : Prop := c E.ax env fun z => ifB z (a E env) (b E env)
def aRet (a : AE) (E : AEnds) (env : AEnv) : Prop := a E.ax env fun b => match b with
 | .st d => E.rt d
 | _ => False
/-- an own thing is handed out -/
def aRetO (i : Nat) (E : AEnds) (env : AEnv) : Prop := match slot env i with
 | some (.ow _ d) => E.rt d
 | _ => False
def aRetN (E : AEnds) (env : AEnv) : Prop := E.rt .non
def aDrop (a : AE) (E : AEnds) (env : AEnv) : Prop := a E.ax env fun _ => E.nx env
def aAsg (a : AE) (g : B → AEnv → (AEnv → Prop) → Prop) (E : AEnds) (env : AEnv) : Prop := a E.ax env fun b => g b env E.nx
/-- a new thing, one's own -/
def aNew (i : Nat) (a : AN) (E : AEnds) (env : AEnv) : Prop := a E.ax env fun d => ∀ x, E.nx (env.set i (some (.ow x d)))
def aPar (i j : Nat) (a : AA) (E : AEnds) (env : AEnv) : Prop := a E.ax env fun bs => match bs with
 | [x, y] => aName i x env fun env' => aName j y env' E.nx
 | _ => False
def aPar3 (i j l : Nat) (a : AA) (E : AEnds) (env : AEnv) : Prop := a E.ax env fun bs => match bs with
 | [x, y, z] => aName i x env fun env' => aName j y env' fun env2 => aName l z env2 E.nx
 | _ => False
def frz (i : Nat) (env : AEnv) : AEnv := match slot env i with
 | some (.ow _ d) => env.set i (some (.st d))
 | _ => env
def aFz (i : Nat) (a : AS) (E : AEnds) (env : AEnv) : Prop := a E (frz i env)
def aNever (E : AEnds) (env : AEnv) : Prop := False
section
variable {K : PySem.W.Frag} {W : WX} {ts us : TS} {as bs : AS} {te : TE} {ae : AE} {tt : TT} {at_ : AT}
theorem sa_next : SA K W tNext aNext := fun o S0 H0 S H σ env E Dc st lk q => lk.nx σ env S H st q
theorem Lk.mid {o : Option Addr} {S0 H0 : Hp} {E : AEnds} {Dc : Ends} (lk : Lk K W o S0 H0 E Dc) {M : AEnv → Prop} {Mc : L2.St → Hp → Prop} (h : ∀ σ env S H, ST K o S0 H0 S H σ env → M env → Mc σ H) : Lk K W o S0 H0 ⟨M, E.rt, E.rn, E.bk, E.ct, E.ax⟩ { Dc with nx := Mc } :=
 ⟨h, lk.bk, lk.ct, lk.rt, lk.rn, lk.ex⟩
theorem sa_seq (h1 : SA K W ts as) (h2 : SA K W us bs) : SA K W (tSeq ts us) (aSeq as bs) := fun o S0 H0 S H σ env E Dc st lk q =>
 h1 o S0 H0 S H σ env _ _ st (lk.mid fun σ' env' S' H' st' q' => h2 o S0 H0 S' H' σ' env' E Dc st' lk q') q
theorem sa_cut (h1 : SA K W ts as) (h2 : SA K W us bs) : SA K W (C8.tCut ts us) (aCut as bs) := fun o S0 H0 S H σ env E Dc st lk q => by
 obtain ⟨M, q1, q2⟩ := q
 refine ⟨fun σ' H' => ∃ S' env', ST K o S0 H0 S' H' σ' env' ∧ M env', ?_, ?_⟩
 ·exact h1 o S0 H0 S H σ env _ _ st (lk.mid fun σ' env' S' H' st' q' => ⟨S', env', st', q'⟩) q1
 ·rintro σ' H' ⟨S', env', st', q'⟩
  exact h2 o S0 H0 S' H' σ' env' E Dc st' lk (q2 env' q')
theorem sa_if (hc : ET K W tt at_) (h1 : SA K W ts as) (h2 : SA K W us bs) : SA K W (tIfS tt ts us) (aIf at_ as bs) := fun o S0 H0 S H σ env E Dc st lk q =>
 hc o H0 S H σ env E.ax _ _ st.es q (fun b S1 H1 g1 w1 q1 => by
  cases b with
  | true => exact h1 o S0 H0 S1 H1 σ env E Dc (st.mono g1 w1) lk q1
  | false => exact h2 o S0 H0 S1 H1 σ env E Dc (st.mono g1 w1) lk q1) (lk.xl st)
theorem sa_ret (h : EA K W te ae) : SA K W (tRet te) (aRet ae) := fun o S0 H0 S H σ env E Dc st lk q =>
 h o H0 S H σ env E.ax _ _ st.es q (fun v b S1 H1 g1 w1 r1 q1 => by
  cases b with
  | st d => exact lk.rt v d S1 H1 (st.gr.trans g1) w1 r1 q1
  | _ => exact q1.elim) (lk.xl st)
theorem sa_retO (i : Nat) : SA K W (tRet (tVar i)) (aRetO i) := fun o S0 H0 S H σ env E Dc st lk q => by
 unfold aRetO at q
 split at q
 ·rename_i a d hd
  obtain ⟨v, h1, rfl, hs, np, t⟩ := st.es.sl i _ hd
  obtain ⟨u, hu⟩ := t.some
  refine ⟨_, h1, lk.rt (.ref a) d (upd S a u) H (st.gr.fix (st.fresh i a d hd) hs) (st.es.wl.fix hu hs np) ?_ q⟩
  exact (t.mono (same_upd hs)).rep (Same.refl _) (by rw [upd_same, hu])
 ·exact q.elim
theorem sa_expr (h : EA K W te ae) : SA K W (tDrop te) (aDrop ae) := fun o S0 H0 S H σ env E Dc st lk q =>
 h o H0 S H σ env E.ax _ _ st.es q (fun v b S1 H1 g1 w1 r1 q1 => lk.nx σ env S1 H1 (st.mono g1 w1) q1) (lk.xl st)
theorem sa_asg {g : TG} {js : List Nat} {ag : B → AEnv → (AEnv → Prop) → Prop} (h : EA K W te ae) (hg : GA K js g ag) : SA K W (tAsg te g) (aAsg ae ag) := fun o S0 H0 S H σ env E Dc st lk q =>
 h o H0 S H σ env E.ax _ _ st.es q (fun v b S1 H1 g1 w1 r1 q1 =>
  hg o H0 S1 H1 σ env v b _ _ (st.es.mono g1 w1) r1 q1 fun σ' env' es' _ ow q2 => lk.nx σ' env' S1 H1 ((st.mono g1 w1).upd es' ow) q2) (lk.xl st)
theorem sa_set (i : Nat) (h : EA K W te ae) : SA K W (tAsg te (gName i)) (aAsg ae (aName i)) := sa_asg h (ga_name (js := [i]) i (by simp))
theorem sa_new (i : Nat) {an : AN} (h : EN K W te an) : SA K W (tAsg te (gName i)) (aNew i an) := fun o S0 H0 S H σ env E Dc st lk q =>
 h o H0 S H σ env E.ax _ _ st.es q (fun a d S1 H1 g1 w1 n ns t q1 => by
  have st1 := st.mono g1 w1
  have r : BR K o H0 S1 H1 (.ref a) (.ow a d) := ⟨rfl, ns, st.es.wl.np n, t⟩
  have other : ∀ j d', slot env j ≠ some (.ow a d') := fun j d' q => by
   obtain ⟨v, _, _, _, _, t'⟩ := st.es.sl j _ q
   obtain ⟨u, hu⟩ := t'.some
   rw [hu] at n
   cases n
  refine lk.nx _ _ S1 H1 ⟨st1.gr, st1.es.set i r, fun j a' d' q => ?_, fun j l a' d' d2 q q2 => ?_⟩ (q1 a)
  ·rw [slot_set] at q
   split at q
   ·cases q
    exact st.gr.bk n
   ·exact st.fresh j a' d' q
  ·rw [slot_set] at q q2
   split at q
   ·rename_i c1
    split at q2
    ·rename_i c2
     exact c1.1.symm.trans c2.1
    ·cases q
     exact absurd q2 (other l d2)
   ·split at q2
    ·cases q2
     exact absurd q (other j d')
    ·exact st.dist j l a' d' d2 q q2) (lk.xl st)
theorem sa_par {i j : Nat} {ta : TA} {aa : AA} {n : Nat} (h : EL K W n ta aa) : SA K W (tPar i j ta) (aPar i j aa) := fun o S0 H0 S H σ env E Dc st lk q =>
 h o H0 S H σ env E.ax _ _ st.es q (fun vs bs S1 H1 g1 w1 r1 _ q1 => by
  have st1 := st.mono g1 w1
  match vs, bs, r1, q1 with
  | [x, y], [b, c], .cons rb (.cons rc .nil), q1 =>
   obtain ⟨h1, h2⟩ := aName_iff q1
   obtain ⟨h3, h4⟩ := aName_iff h2
   exact ⟨x, y, rfl, lk.nx _ _ S1 H1 ((st1.set i rb h1).set j rc h3) h4⟩
  | [], [], _, q1 => exact q1.elim
  | [_], [_], _, q1 => exact q1.elim
  | _ :: _ :: _ :: _, _ :: _ :: _ :: _, _, q1 => exact q1.elim) (lk.xl st)
/-- what was one's own becomes stable -/
theorem sa_frz (i : Nat) (h : SA K W ts as) : SA K W ts (aFz i as) := fun o S0 H0 S H σ env E Dc st lk q => by
 have q : as E (frz i env) := q
 unfold frz at q
 split at q
 ·rename_i a d hd
  obtain ⟨v, h1, rfl, hs, np, t⟩ := st.es.sl i _ hd
  obtain ⟨u, hu⟩ := t.some
  have e0 : H0 a = none := st.fresh i a d hd
  have sS : Same S (upd S a u) := same_upd hs
  have hrep : Rep K (upd S a u) (.ref a) d := (t.mono sS).rep (Same.refl _) (by rw [upd_same, hu])
  have hi : i < env.length := by
   cases q : env[i]? with
   | none => rw [slot_eq, q] at hd; cases hd
   | some x => exact (List.getElem?_eq_some_iff.mp q).1
  have so : ∀ j b, slot env j = some b → j ≠ i → ∃ v, σ[j]? = some (some v) ∧ BR K o H0 (upd S a u) H v b := fun j b hj hne => by
   obtain ⟨w, e1, e2⟩ := st.es.sl j b hj
   refine ⟨w, e1, ?_⟩
   cases b with
   | st d => exact Rep.same sS e2
   | ow a' d' =>
    obtain ⟨x1, x2, x3, x4⟩ := e2
    have : a' ≠ a := fun e => by
     subst e
     exact hne (st.dist j i a' d' d hj hd)
    exact ⟨x1, by rw [upd_ne this]; exact x2, x3, x4.mono sS⟩
   | br d => exact e2
   | pool => exact e2
   | xn a1 cls d1 C fs =>
    obtain ⟨x1, x2, dd, x3, np1, ⟨fv, y1, y2, y3⟩⟩ := e2
    exact ⟨x1, x2, dd, x3, np1, ⟨fv, y1, y2, RepL.same sS y3⟩⟩
  refine h o S0 H0 (upd S a u) H σ (env.set i (some (.st d))) E Dc ⟨st.gr.fix e0 hs, ⟨st.es.wl.fix hu hs np, st.es.kp, by rw [List.length_set]; exact st.es.len, fun j b hj => ?_⟩, fun j a' d' hj => ?_, fun j l a' d' d2 h2 h3 => ?_⟩ lk q
  ·rw [slot_set] at hj
   split at hj
   ·rename_i c
    cases hj
    rw [← c.1]
    exact ⟨_, h1, hrep⟩
   ·rename_i c
    exact so j b hj fun e => c ⟨e.symm, hi⟩
  ·exact st.fresh j a' d' (ow_set (b := .st d) rfl hj)
  ·exact st.dist j l a' d' d2 (ow_set (b := .st d) rfl h2) (ow_set (b := .st d) rfl h3)
 ·exact h o S0 H0 S H σ env E Dc st lk q
end
abbrev AI := AX → AEnv → (List B → Prop) → Prop
structure WkA (K : PySem.W.Frag) (o : Option Addr) (H0 S1 : Hp) (J : It) (items : List B) : Prop where
 goes : ∀ i S H, i < items.length → Same S1 S → Wl o S H → Kp o H0 H → J.go i H
 stops : ∀ S H, Same S1 S → Wl o S H → Kp o H0 H → J.stop items.length H
 yields : ∀ i S H x H', i < items.length → Same S1 S → Wl o S H → Kp o H0 H → J.yld i H x H' → ∃ S' b, items[i]? = some b ∧ b.isOw = false ∧ GrO o S H S' H' ∧ Wl o S' H' ∧ BR K o H0 S' H' x b
def EI (K : PySem.W.Frag) (W : WX) (wi : TI) (ai : AI) : Prop := ∀ o H0 S H σ env ax Q C, ES K o H0 S H σ env → ai ax env Q →
 (∀ J items S' H', GrO o S H S' H' → Wl o S' H' → WkA K o H0 S' J items → Q items → C J H') → XL K W o S H σ env ax → wi σ H C
def aLoop (g : B → AEnv → (AEnv → Prop) → Prop) (ab : AS) (E : AEnds) : List B → AEnv → Prop
 | [], env => E.nx env
 | x :: r, env => g x env fun env1 => ab ⟨aLoop g ab E r, E.rt, E.rn, E.nx, aLoop g ab E r, E.ax⟩ env1
def aFor (ai : AI) (g : B → AEnv → (AEnv → Prop) → Prop) (ab : AS) (E : AEnds) (env : AEnv) : Prop := ai E.ax env fun items => aLoop g ab E items env
/-- a loop by an invariant -/
theorem aLoop_inv {g : B → AEnv → (AEnv → Prop) → Prop} {ab : AS} {E : AEnds} (I : Nat → AEnv → Prop) {items : List B} {env : AEnv} (h0 : I 0 env)
  (hs : ∀ (i : Nat) x env (R : AEnv → Prop), items[i]? = some x → I i env → (∀ e, I (i + 1) e → R e) → g x env fun env1 => ab ⟨R, E.rt, E.rn, E.nx, R, E.ax⟩ env1) (hd : ∀ env, I items.length env → E.nx env) : aLoop g ab E items env := by
 have key : ∀ (r : List B) (k : Nat) (env : AEnv), items.drop k = r → k ≤ items.length → I k env → aLoop g ab E r env := by
  intro r
  induction r with
  | nil =>
   intro k env e hk hi
   have : items.length ≤ k := List.drop_eq_nil_iff.mp e
   have : k = items.length := by omega
   subst this
   exact hd env hi
  | cons x r ih =>
   intro k env e hk hi
   have hx : items[k]? = some x := by
    have := congrArg (fun l => l[0]?) e
    simpa using this
   have hr : items.drop (k + 1) = r := by
    have := congrArg List.tail e
    simpa using this
   have hk2 : k < items.length := (List.getElem?_eq_some_iff.mp hx).1
   exact hs k x env (aLoop g ab E r) hx hi fun e h => ih (k + 1) e hr hk2 h
 exact key items 0 env rfl (Nat.zero_le _) h0
section
variable {K : PySem.W.Frag} {W : WX} {wi : TI} {ai : AI}
theorem GrO.under {o : Option Addr} {S0 H0 S1 H1 S H : Hp} (g : GrO o S0 H0 S1 H1) (h : GrO o S1 H0 S H) : GrO o S0 H0 S H :=
 ⟨g.st.trans h.st, h.rs, fun a h1 h2 ht => h.fr a (g.fr a h1 h2 ht).1 h2 ht, h.ex⟩
theorem ST.base {o : Option Addr} {S0 H0 S H : Hp} {σ : L2.St} {env : AEnv} (t : ST K o S0 H0 S H σ env) : ST K o S H0 S H σ env :=
 ⟨⟨Same.refl _, t.gr.rs, fun a h n ht => ⟨h, (t.gr.fr a (t.gr.st.free h) n ht).2⟩, t.gr.ex⟩, t.es, t.fresh, t.dist⟩
theorem ST.under {o : Option Addr} {S0 H0 S1 H1 S H : Hp} {σ : L2.St} {env : AEnv} (g : GrO o S0 H0 S1 H1) (t : ST K o S1 H0 S H σ env) : ST K o S0 H0 S H σ env := ⟨g.under t.gr, t.es, t.fresh, t.dist⟩
theorem sa_for {g : TG} {js : List Nat} {ag : B → AEnv → (AEnv → Prop) → Prop} {tb : TS} {ab : AS} (hi : EI K W wi ai) (hg : GA K js g ag) (hb : SA K W tb ab) : SA K W (tFor wi g tb) (aFor ai ag ab) := fun o S0 H0 S H σ env E Dc st lk q =>
 hi o H0 S H σ env E.ax _ _ st.es q (fun J items S1 H1 g1 w1 wk q1 => by
  have st1 := st.mono g1 w1
  have wlk : Walk J items.length (fun H => ∃ S, Same S1 S ∧ Wl o S H ∧ Kp o H0 H) (fun i H x H' => i < items.length ∧ J.yld i H x H') :=
   ⟨fun i H hi ⟨S, a, b, c⟩ => wk.goes i S H hi a b c, fun H ⟨S, a, b, c⟩ => wk.stops S H a b c, fun i H x H' hi _ y => ⟨hi, y⟩⟩
  refine for_it wlk (fun i σ H => ∃ S env, ST K o S1 H0 S H σ env ∧ aLoop ag ab E (items.drop i) env) ⟨S1, env, st1.base, q1⟩ (fun i σ H _ ⟨S, env, st, _⟩ => ⟨S, st.gr.st, st.es.wl, st.es.kp⟩) (fun i x σ H H' hi ⟨S, env, st, q⟩ ⟨_, y⟩ => ?_) (fun σ H ⟨S, env, st, q⟩ => ?_)
  ·obtain ⟨S', b, e1, e2, g2, w2, r2⟩ := wk.yields i S H x H' hi st.gr.st st.es.wl st.es.kp y
   rw [List.drop_eq_getElem_cons hi] at q
   have e3 : items[i] = b := by
    rw [List.getElem?_eq_getElem hi] at e1
    exact Option.some.inj e1
   rw [e3] at q
   have st2 := st.mono g2 w2
   refine hg o H0 S' H' σ env x b _ _ st2.es r2 q fun σ' env' es' _ ow q2 => ?_
   have st3 := st2.upd es' ow
   refine hb o S1 H0 S' H' σ' env' ⟨aLoop ag ab E (items.drop (i + 1)), E.rt, E.rn, E.nx, aLoop ag ab E (items.drop (i + 1)), E.ax⟩ _ st3 ⟨fun σ env S H st q => ⟨S, env, st, q⟩, fun σ env S H st q => lk.nx σ env S H (st.under st1.gr) q, fun σ env S H st q => ⟨S, env, st, q⟩, fun v d S H g w r q => lk.rt v d S H (st1.gr.under g) w r q, fun a d S H g w n ns t q => lk.rn a d S H (st1.gr.under g) w n ns t q, fun σ env C fs dd S H st n e a => lk.ex σ env C fs dd S H (st.under st1.gr) n e a⟩ q2
  ·rw [List.drop_length] at q
   exact lk.nx σ env S H (st.under st1.gr) q) (lk.xl st)
/-- a walk while nothing that stands is changed -/
structure WkC (K : PySem.W.Frag) (o : Option Addr) (H0 S1 H1 : Hp) (J : It) (items : List B) : Prop where
 goes : ∀ i S H, i < items.length → GrO o S1 H1 S H → Wl o S H → Kp o H0 H → J.go i H
 stops : ∀ S H, GrO o S1 H1 S H → Wl o S H → Kp o H0 H → J.stop items.length H
 yields : ∀ i S H x H', i < items.length → GrO o S1 H1 S H → Wl o S H → Kp o H0 H → J.yld i H x H' → ∃ S' b, items[i]? = some b ∧ b.isOw = false ∧ GrO o S H S' H' ∧ Wl o S' H' ∧ BR K o H0 S' H' x b
theorem WkA.toC {o : Option Addr} {H0 S1 H1 : Hp} {J : It} {items : List B} (w : WkA K o H0 S1 J items) : WkC K o H0 S1 H1 J items :=
 ⟨fun i S H hi g => w.goes i S H hi g.st, fun S H g => w.stops S H g.st, fun i S H x H' hi g => w.yields i S H x H' hi g.st⟩
def EC (K : PySem.W.Frag) (W : WX) (wi : TI) (ai : AI) : Prop := ∀ o H0 S H σ env ax Q C, ES K o H0 S H σ env → ai ax env Q →
 (∀ J items S' H', GrO o S H S' H' → Wl o S' H' → WkC K o H0 S' H' J items → Q items → C J H') → XL K W o S H σ env ax → wi σ H C
theorem EI.ec (h : EI K W wi ai) : EC K W wi ai := fun o H0 S H σ env ax Q C es q k xl => h o H0 S H σ env ax Q C es q (fun J items S' H' g w wk q => k J items S' H' g w wk.toC q) xl
def aCol (g : B → AEnv → (AEnv → Prop) → Prop) (ct : AT) (ae : AE) (ax : AX) (env : AEnv) : List B → List D → (List D → Prop) → Prop
 | [], acc, Q => Q acc
 | x :: r, acc, Q => g x env fun env1 => ct ax env1 fun c => ifB c (ae ax env1 fun y => match y with
  | .st d => aCol g ct ae ax env r (acc ++ [d]) Q
  | _ => False) (aCol g ct ae ax env r acc Q)
def aLc (ai : AI) (g : B → AEnv → (AEnv → Prop) → Prop) (ct : AT) (ae : AE) (vs : List Nat) (ax : AX) (env : AEnv) (Q : D → Prop) : Prop := ai ax env fun items => items.length ≤ 1000 ∧ aCol g ct ae (fun _ _ _ => True) (awipe env vs) items [] fun ds => Q (.lst ds)
def aYes (ax : AX) (env : AEnv) (Q : Bool → Prop) : Prop := Q true
abbrev W1 : WX := fun _ _ _ _ => True
theorem xl1 {o : Option Addr} {S H : Hp} {σ : L2.St} {env : AEnv} {ax : AX} : XL K W1 o S H σ env ax := fun _ _ _ _ _ _ _ _ _ _ => trivial
theorem lc_body {g : TG} {js : List Nat} {ag : B → AEnv → (AEnv → Prop) → Prop} {tt : TT} {ct : AT} {te : TE} {ae : AE} {vs : List Nat} (hg : GA K js g ag) (ht : ET K W1 tt ct) (he : EA K W1 te ae) (hj : ∀ j ∈ js, j ∈ vs)
  {o : Option Addr} {H0 S1 H1 : Hp} {σ : L2.St} {env : AEnv} {J : It} {items : List B} {Qs : List D → Prop} {Qd : Addr → Hp → Prop} (es1 : ES K o H0 S1 H1 σ env) (wk : WkC K o H0 S1 H1 J items) (q1 : items.length ≤ 1000 ∧ aCol ag ct ae (fun _ _ _ => True) (awipe env vs) items [] Qs)
  (k : ∀ D acc ds S H, GrO o S1 H1 S H → Wl o S H → H1 D = none → S D = none → H D = some (.lst acc) → RepL K S acc ds → Qs ds → Qd D H) : ∀ D, H1 D = none → ∃ W : Nat → Nat → Hp → Prop, (∃ m, W 0 m (upd H1 D (.lst []))) ∧ ∀ i m H, W i m H →
 (J.stop i H ∧ Qd D H) ∨ (J.go i H ∧ ∃ Nx : Hp → Prop, (∀ H', Nx H' → ∃ m', m' < m ∧ W (i + 1) m' H') ∧ ∀ x H', J.yld i H x H' → g x (wipe σ vs) H' fun σ2 H2 => wipe σ2 vs = wipe σ vs ∧ tt σ2 H2 fun b H3 =>
  if b = true then te σ2 H3 fun y H4 => ∃ acc, H4 D = some (.lst acc) ∧ acc.length < sizeLine ∧ Nx (upd H4 D (.lst (acc ++ [y]))) else Nx H3) := by
 intro D hD
 have w1 := es1.wl
 have npD := w1.np hD
 have wlk : Walk J items.length (fun H => ∃ S, GrO o S1 H1 S H ∧ Wl o S H ∧ Kp o H0 H) (fun i H x H' => i < items.length ∧ J.yld i H x H') :=
  ⟨fun i H hi ⟨S, a, b, c⟩ => wk.goes i S H hi a b c, fun H ⟨S, a, b, c⟩ => wk.stops S H a b c, fun i H x H' hi _ y => ⟨hi, y⟩⟩
 refine lc_it wlk (fun i H => ∃ S acc ds, GrO o S1 H1 S H ∧ Wl o S H ∧ S D = none ∧ H D = some (.lst acc) ∧ RepL K S acc ds ∧ acc.length ≤ i ∧ aCol ag ct ae (fun _ _ _ => True) (awipe env vs) (items.drop i) ds Qs) ?_ (fun i H _ ⟨S, acc, ds, g, w, _⟩ => ⟨S, g, w, g.kp es1.kp⟩) (fun i x H H' hi ⟨S, acc, ds, g, w, sD, hd, hr, hl, q⟩ ⟨_, y⟩ => ?_) (fun H ⟨S, acc, ds, g, w, sD, hd, hr, hl, q⟩ => ?_)
 ·exact ⟨S1, [], [], GrO.lay hD, w1.put (w1.1.free hD) npD, w1.1.free hD, upd_same, .nil, Nat.zero_le _, q1.2⟩
 ·obtain ⟨S', b, e1, e2, g2, w2, r2⟩ := wk.yields i S H x H' hi g w (g.kp es1.kp) y
  rw [List.drop_eq_getElem_cons hi] at q
  have e3 : items[i] = b := by
   rw [List.getElem?_eq_getElem hi] at e1
   exact Option.some.inj e1
  rw [e3] at q
  have es2 := (es1.mono g w).mono g2 w2
  refine hg o H0 S' H' _ _ x b _ _ (es2.wipe vs) r2 q fun σ' env' es' sto ow q2 => ⟨wipe_stored hj sto, ?_⟩
  have hD' := g2.rs D _ npD hd
  have sD' := g2.keep sD hd
  refine ht o H0 S' H' σ' env' _ _ _ es' q2 (fun c S3 H3 g3 w3 q3 => ?_) xl1
  have hD3 := g3.rs D _ npD hD'
  have sD3 := g3.keep sD' hD'
  cases c with
  | false => exact ⟨S3, acc, ds, (g.trans g2).trans g3, w3, sD3, hD3, RepL.same (g2.st.trans g3.st) hr, by omega, q3⟩
  | true =>
   refine he o H0 S3 H3 σ' env' _ _ _ (es'.mono g3 w3) q3 (fun v b S4 H4 g4 w4 r4 q4 => ?_) xl1
   have hD4 := g4.rs D _ npD hD3
   have sD4 := g4.keep sD3 hD3
   cases b with
   | st d =>
    have l1 := q1.1
    refine ⟨acc, hD4, small1000 (by omega), S4, acc ++ [v], ds ++ [d], (((g.trans g2).trans g3).trans g4).put hD, w4.put sD4 npD, sD4, upd_same, (RepL.same ((g2.st.trans g3.st).trans g4.st) hr).snoc r4, by simp; omega, q4⟩
   | _ => exact q4.elim
 ·rw [List.drop_length] at q
  exact k D acc ds S H g w hD sD hd hr q
theorem en_lc {g : TG} {js : List Nat} {ag : B → AEnv → (AEnv → Prop) → Prop} {tt : TT} {ct : AT} {te : TE} {ae : AE} {vs : List Nat} (hi : EC K W wi ai) (hg : GA K js g ag) (ht : ET K W1 tt ct) (he : EA K W1 te ae) (hj : ∀ j ∈ js, j ∈ vs := by decide) :
  EN K W (tLc wi g tt te vs) (aLc ai ag ct ae vs) := fun o H0 S H σ env ax Q Qc es q k xl =>
 hi o H0 S H σ env ax _ _ es q (fun J items S1 H1 g1 w1 wk q1 => lc_body hg ht he hj (es.mono g1 w1) wk q1 fun D acc ds S' H' g w hD sD hd hr q => by
  refine k D (.lst ds) S' H' (g1.trans g) w (g1.bk hD) sD ?_ q
  rw [hd]
  exact .lst hr) xl
theorem et_yes : ET K W tYes aYes := fun o H0 S H σ env ax Q Qc es q k xl => k true S H GrO.refl es.wl q
end
end
section
open Sem (wp)
open AutoSeq1 (wpAny_loadPart')
theorem meets_enumerate_newT (l : Addr) (items : Array Value) (n : Nat) (dct : Option Addr) (sl : Array (Option Value)) :
  Meets (Builtin.«enumerate.__new__» ⟨[.type "enumerate", .ref l], []⟩) (fun _ R s => s.heap.get? l = some { cls := .type "tuple", dict := dct, data := .seq items n, slots := sl } ∧
   R (.ok (.ret (.ref (s.heap.push { cls := .type "tuple_iterator", data := .fields #[.ref l, .int 0 0] }).objs.size)))
    { s with heap := (s.heap.push { cls := .type "tuple_iterator", data := .fields #[.ref l, .int 0 0] }).push { cls := .type "enumerate", data := .fields #[.none, .bool false, .ref s.heap.objs.size, rawInt 0, .none, .none] } }) :=
 .of_wp fun prog w A R s h => by
  obtain ⟨hp, g, d, tk, os⟩ := s; obtain ⟨hl, h⟩ := h
  have hsub := sub_enumerate
  have hL : Heap.IsTuple (Shared.heap ⟨hp, g, d, tk, os⟩) l items := ⟨_, hl, rfl, n, rfl⟩
  wp_walk using wpAny_loadPart' hl
  refine wpAny_stack_any fun st => wpAny_pure ?_
  split
  ·rename_i c _ _ _ _ _
   cases (c == Value.type "enumerate")
   ·wp_walk using wpAny_loadPart' hl, wpAny_pyIter_tuple hL
    exact ⟨_, rfl, h⟩
   ·wp_walk using wpAny_loadPart' hl, wpAny_pyIter_tuple hL
    exact ⟨_, rfl, h⟩
  ·wp_walk using wpAny_loadPart' hl, wpAny_pyIter_tuple hL
   exact ⟨_, rfl, h⟩
theorem call_enumerate_tuple {prog : Program} {w : World} {A : Around} {E : Value → Shared → Prop} {s : Shared} {l : Addr} {items : Array Value} {Q : Value → Shared → Prop} (hL : s.heap.IsTuple l items)
  (h : ∀ h', IsEnum h' (s.heap.objs.size + 1) s.heap.objs.size 0 .none → h'.IsTupleIter s.heap.objs.size l 0 → h'.objs.size = s.heap.objs.size + 2 →
   (∀ b o, s.heap.get? b = some o → h'.get? b = some o) → Q (.ref (s.heap.objs.size + 1)) { s with heap := h' }) :
  wpAny (model prog w) A (call (.type "enumerate") [.ref l]) Q E s := by
 obtain ⟨⟨c, dct, dt, sl⟩, hl, hc, n, hd⟩ := hL
 replace hc : c = .type "tuple" := hc
 replace hd : dt = .seq items n := hd
 subst hc hd
 refine callType_new F.called_enumerate (by decide) (F.typeCall_enumerate_1 _) (F.newCall_enumerate_1 _) (fun obj => F.args_object_init_2 obj _) F.entry_enumerate_new
  (meets_enumerate_newT l items n dct sl) ⟨hl, ?_⟩
 have hz : (s.heap.push { cls := .type "tuple_iterator", data := .fields #[.ref l, .int 0 0] }).objs.size = s.heap.objs.size + 1 := Heap.size_push ..
 show _ ∧ _
 rw [hz]
 have he : IsEnum ((s.heap.push { cls := .type "tuple_iterator", data := .fields #[.ref l, .int 0 0] }).push
   { cls := .type "enumerate", data := .fields #[.none, .bool false, .ref s.heap.objs.size, rawInt 0, .none, .none] }) (s.heap.objs.size + 1) s.heap.objs.size 0 .none := by
  have := Heap.get?_push_size (s.heap.push { cls := .type "tuple_iterator", data := .fields #[.ref l, .int 0 0] })
   (o := { cls := .type "enumerate", data := .fields #[.none, .bool false, .ref s.heap.objs.size, rawInt 0, .none, .none] }) rfl
  rw [hz] at this; exact this
 refine ⟨⟨_, he, rfl⟩, h _ he ⟨_, Heap.get?_push_of_some _ (Heap.get?_push_size _ rfl), rfl, rfl⟩ (by rw [Heap.size_push, hz]) fun b o x => Heap.get?_push_of_some _ (Heap.get?_push_of_some _ x)⟩
/-- the tuple at a, each item in a new pair -/
def Itet (K : PySem.W.Frag) (a : Addr) : It :=
 ⟨fun i H => ∃ (xs : List V) (x : V), SqT K H a xs ∧ xs[i]? = some x, fun i H v H' => ∃ T x, v = .ref T ∧ H T = none ∧ H' = upd H T (.tup [.int (i : Nat), x]) ∧ ∀ xs, SqT K H a xs → xs[i]? = some x, fun i H => ∃ xs : List V, SqT K H a xs ∧ i = xs.length⟩
theorem turn_enumT {P : Program} {w : World} {K : PySem.W.Frag} {elts : List Expr} {kk : Nat} {tpos : Pos} (a e it : Addr) :
  Turn P w K (.Tuple elts kk tpos) (Itet K a) [e, it] e (fun i h => (∃ old, IsEnum h e it ((i : Nat) : Int) old) ∧ h.IsTupleIter it a i ∧ e ≠ it ∧ a ≠ it ∧ a ≠ e) where
 mem := by simp
 obj := fun i h st b hb => by
  obtain ⟨⟨old, he⟩, ⟨o, ho, hc, hd⟩, _⟩ := st
  have e' : b = e ∨ b = it := by simpa using hb
  rcases e' with z | z
  ·rw [z]; exact ⟨_, he, fun v q => nomatch q⟩
  ·rw [z]; exact ⟨o, ho, fun v q => by rw [hd] at q; cases q⟩
 keep := fun i h h' st k => let ⟨⟨old, he⟩, hi, hne⟩ := st; ⟨⟨old, k e (by simp) _ he⟩, hi.at fun o q => k it (by simp) o q, hne⟩
 item := by
  intro X hP hw hK hc i pins s σ H E I hf st hg
  subst hP hw hK
  obtain ⟨⟨old, he⟩, hit, hne, hai, hae⟩ := st
  obtain ⟨xs, x, hq, hx⟩ := hg
  obtain ⟨its, rv, p, hz⟩ := I.tuple hq
  obtain ⟨u, hu, ru⟩ := rv.get hx
  have hel : e < s.heap.objs.size := Heap.lt_size he
  have hil : it < s.heap.objs.size := by obtain ⟨_, q, _⟩ := hit; exact Heap.lt_size q
  have pt : s.heap.IsTuple a its.toArray := p
  refine wpAny_pyNext_enum_itemD (Draws.tuple (A := X.A.in1) (show X.A.in1.handled = none from I.ok.hd hc) it a hai its.toArray) he ⟨hit, pt⟩ (by
   have := (List.getElem?_eq_some_iff.mp hu).1
   simpa using this) hne (by simp [hne, Ne.symm hae]) fun u' h' tk hu' ho hst hT hsz hk => ?_
  have eu : u' = u := by
   have e1 : its.toArray[i]? = some u := by simpa using hu
   rw [e1] at hu'
   exact (Option.some.inj hu').symm
  subst eu
  refine ⟨_, rfl, wpAny_letOwnedTupleGo_enum (s := { s with heap := h', toks := tk + 1 }) ho fun h'' he' sb => ?_⟩
  have hT2 : h''.get? s.heap.objs.size = some { cls := .type "tuple", data := .seq #[.int i tk, u'] } := (sb.2 _ (Nat.ne_of_gt hel)).trans hT
  have new : ObjOk X.prog X.w (upd H s.heap.objs.size (.tup [.int (i : Nat), x])) h'' s.heap.objs.size (.tup [.int (i : Nat), x]) :=
   ⟨by show 2 ≤ sizeLine; decide, [.int i tk, u'], .cons ⟨_, rfl⟩ (.cons ru .nil), ⟨_, hT2, rfl, _, rfl⟩⟩
  have I1 : Inv X pins σ (upd H s.heap.objs.size (.tup [.int (i : Nat), x])) { s with heap := h'', toks := tk + 1 } :=
   I.turnedNew (ch := [e, it]) (fun b ob hb q => (sb.2 b (fun z => hb (by simp [z]))).trans (hk b ob (fun z => hb (by simp [z])) (fun z => hb (by simp [z])) q)) hf (Nat.le_refl _) new
  refine ⟨.ref s.heap.objs.size, _, I1, rfl, ⟨_, x, rfl, I.hok.fresh (Nat.le_refl _), rfl, fun ys hy => by rw [I.tuple_inj hy hq]; exact hx⟩, ⟨⟨u', ?_⟩, hst.1.at fun o q => (sb.2 it (Ne.symm hne)).trans q, hne, hai, hae⟩, fun b hb => ?_⟩
  ·have e1 : ((i + 1 : Nat) : Int) = (i : Int) + 1 := by omega
   rw [e1]; exact he'
  ·have hb' : b < s.heap.objs.size := by
    have e' : b = e ∨ b = it := by simpa using hb
    rcases e' with z | z
    ·rw [z]; exact hel
    ·rw [z]; exact hil
   rw [upd_ne (Nat.ne_of_lt hb')]
   exact (hf b hb).1
 done := by
  intro X hP hw hK hc i pins s σ H E I hf st hg
  subst hP hw hK
  obtain ⟨⟨old, he⟩, hit, hne, hai, hae⟩ := st
  obtain ⟨xs, hq, hx⟩ := hg
  obtain ⟨its, rv, p, hz⟩ := I.tuple hq
  obtain ⟨f0, f1, f2, f3, f4, f5⟩ := hf it (by simp)
  have hl := rv.length
  have pt : s.heap.IsTuple a its.toArray := p
  have ei : i = its.toArray.size := by rw [List.size_toArray, ← hl]; exact hx
  exact wpAny_pyNext_enum_endD (Draws.tuple (A := X.A.in1) (show X.A.in1.handled = none from I.ok.hd hc) it a hai its.toArray) he ⟨ei ▸ hit, pt⟩ fun h' eb => ⟨rfl, I.turned (t' := s.toks) (fun b o hb q => eb b o hb q) f0 f1 f3 f4 f5⟩
 self := fun A i s Q E st h => let ⟨⟨_, he⟩, _⟩ := st; wpAny_pyIter_enum he h
/-- enumerate of a list or of a tuple -/
def iEnumS (K : PySem.W.Frag) (ta : TA) : TI := fun σ H R => ta σ H fun vs H1 => (∃ a xs, vs = [.ref a] ∧ SqL K H1 a xs ∧ R (Ite K a) H1) ∨ (∃ a xs, vs = [.ref a] ∧ SqT K H1 a xs ∧ R (Itet K a) H1)
theorem pi_enumD {X : Cx} {e : Expr} {ta : TA} {p pos tpos : Pos} {elts : List Expr} {kk : Nat} (hg : Gl X "enumerate") (hm : X.mg "enumerate" = none) (ha : PA X [e] ta) (hs : starEach [e] X.env = [(false, eval e X.env)] := by rfl) :
  PI X (.Tuple elts kk tpos) (.Call (.Name "enumerate" p) [e] [] pos) (iEnumS X.K ta) := by
 refine ⟨fun pins s σ H R I h => ?_⟩
 refine Call_ (ld_blt I hg hm boot_enumerate (PyProof.Rows.callWith_type1 (thn (ha.run pos pins s σ H _ I h) fun us s1 ⟨vs, H1, I1, r1, q1⟩ => ?_) hs rfl))
 rcases q1 with ⟨a, xs, ex, hq, q⟩ | ⟨a, xs, ex, hq, q⟩
 ·subst ex
  cases r1 with
  | cons r rr =>
   cases rr
   cases r
   obtain ⟨its, rv, p', hz⟩ := I1.list hq
   refine call_enumerate_list p'.isList fun h' he hit hsz hk => wpAny_pyIter_enum he ?_
   have I2 : Inv X pins σ H1 { s1 with heap := h' } := I1.kept (t' := s1.toks) hk
   refine ⟨s1.heap.objs.size + 1, [s1.heap.objs.size + 1, s1.heap.objs.size], _, _, H1, rfl, I2, turn_enum a (s1.heap.objs.size + 1) s1.heap.objs.size, ⟨⟨.none, he⟩, hit, Nat.succ_ne_self _⟩, fun b hb => ?_, q⟩
   have e' : b = s1.heap.objs.size + 1 ∨ b = s1.heap.objs.size := by simpa using hb
   have hle : s1.heap.objs.size ≤ b := by
    rcases e' with z | z
    ·rw [z]; exact Nat.le_add_right _ _
    ·rw [z]; exact Nat.le_refl _
   exact I1.fpOk hle (I1.hok.fresh hle)
 ·subst ex
  cases r1 with
  | cons r rr =>
   cases rr
   cases r
   obtain ⟨its, rv, p', hz⟩ := I1.tuple hq
   have pt : s1.heap.IsTuple a its.toArray := p'
   have hal : a < s1.heap.objs.size := p'.lt
   refine call_enumerate_tuple pt fun h' he hit hsz hk => wpAny_pyIter_enum he ?_
   have I2 : Inv X pins σ H1 { s1 with heap := h' } := I1.kept (t' := s1.toks) hk
   refine ⟨s1.heap.objs.size + 1, [s1.heap.objs.size + 1, s1.heap.objs.size], _, _, H1, rfl, I2, turn_enumT a (s1.heap.objs.size + 1) s1.heap.objs.size, ⟨⟨.none, he⟩, hit, Nat.succ_ne_self _, Nat.ne_of_lt hal, Nat.ne_of_lt (Nat.lt_succ_of_lt hal)⟩, fun b hb => ?_, q⟩
   have e' : b = s1.heap.objs.size + 1 ∨ b = s1.heap.objs.size := by simpa using hb
   have hle : s1.heap.objs.size ≤ b := by
    rcases e' with z | z
    ·rw [z]; exact Nat.le_add_right _ _
    ·rw [z]; exact Nat.le_refl _
   exact I1.fpOk hle (I1.hok.fresh hle)
end
section
theorem paired_perm {α β : Type} {R : α → β → Prop} {l l' : List β} (p : l'.Perm l) : ∀ {ls : List α}, Paired R ls l → ∃ ls', ls'.Perm ls ∧ Paired R ls' l' := by
 induction p with
 | nil => intro ls h; exact ⟨ls, List.Perm.refl _, h⟩
 | cons x _ ih =>
  intro ls h
  cases h with
  | cons r t =>
   obtain ⟨ls', p', h'⟩ := ih t
   exact ⟨_ :: ls', p'.cons _, .cons r h'⟩
 | swap x y l =>
  intro ls h
  cases h with
  | cons r t =>
   cases t with
   | cons r2 t2 => exact ⟨_, List.Perm.swap _ _ _, .cons r2 (.cons r t2)⟩
 | trans _ _ ih1 ih2 =>
  intro ls h
  obtain ⟨l2, p2, h2⟩ := ih2 h
  obtain ⟨l1, p1, h1⟩ := ih1 h2
  exact ⟨l1, p1.trans p2, h1⟩
theorem paired_snoc {α β : Type} {R : α → β → Prop} : ∀ {ls : List α} {l : List β} {x : α} {y : β}, Paired R ls l → R x y → Paired R (ls ++ [x]) (l ++ [y])
 | _, _, _, _, .nil, r => .cons r .nil
 | _, _, _, _, .cons q t, r => .cons q (paired_snoc t r)
theorem paired_mem {α β : Type} {R : α → β → Prop} : ∀ {ls : List α} {l : List β}, Paired R ls l → ∀ y ∈ l, ∃ x ∈ ls, R x y
 | _, _, .nil, _, h => by cases h
 | _, _, .cons q t, y, h => by
  rcases List.mem_cons.mp h with h | h
  ·subst h
   exact ⟨_, by simp, q⟩
  ·obtain ⟨x, hx, r⟩ := paired_mem t y h
   exact ⟨x, by simp [hx], r⟩
theorem paired_memL {α β : Type} {R : α → β → Prop} : ∀ {ls : List α} {l : List β}, Paired R ls l → ∀ x ∈ ls, ∃ y ∈ l, R x y
 | _, _, .nil, _, h => by cases h
 | _, _, .cons q t, y, h => by
  rcases List.mem_cons.mp h with h | h
  ·subst h
   exact ⟨_, by simp, q⟩
  ·obtain ⟨x, hx, r⟩ := paired_memL t y h
   exact ⟨x, by simp [hx], r⟩
def insG {κ : Type} [DecidableEq κ] (k : κ) (ks : List κ) : List κ := if k ∈ ks then ks else k :: ks
section
variable {P : Program} {w : World} {κ : Type} [DecidableEq κ] (knd : PySem.KeyKind P w κ)
def Ent (k : κ) (e : Int × Value) : Prop := knd.is k e.2 = true ∧ e.1 = knd.hash k ∧ e.2.scannable = true
/-- what is told of a set's content and table -/
def Tab (w : World) (es : Array (Int × Value)) (t : SetTable) (ks : List κ) : Prop :=
 (∃ ls, Paired (Ent knd) ls es.toList ∧ ls.Perm ks) ∧ ks.Nodup ∧ es.size < scanBound ∧ t.fits es.size = true ∧ Ris t.place.toList ∧ (w.params.followText "set-order" = true ∨ t.led = true)
def SetG (h : Heap) (a : Addr) (ks : List κ) : Prop := ∃ o es ep t, h.get? a = some o ∧ o.ExactSet ∧ o.data = .set es ep t ∧ Tab knd w es t ks
variable {knd}
theorem Tab.elems {es : Array (Int × Value)} {t : SetTable} {ks : List κ} (T : Tab knd w es t ks) : ElemsOf knd es.toList := fun e he => by
 obtain ⟨⟨ls, hp, _⟩, _⟩ := T
 obtain ⟨k, _, h1, h2, h3⟩ := paired_mem hp e he
 exact ⟨⟨k, h1, h2⟩, h3⟩
theorem Tab.mem {es : Array (Int × Value)} {t : SetTable} {ks : List κ} (T : Tab knd w es t ks) (k : κ) : (∃ e ∈ es.toList, knd.is k e.2 = true) ↔ k ∈ ks := by
 obtain ⟨⟨ls, hp, hpm⟩, _⟩ := T
 constructor
 ·rintro ⟨e, he, h⟩
  obtain ⟨k', hk', h1, _⟩ := paired_mem hp e he
  rw [knd.inj _ _ _ h h1]
  exact hpm.mem_iff.mp hk'
 ·intro h
  obtain ⟨e, he, h1, _⟩ := paired_memL hp k (hpm.mem_iff.mpr h)
  exact ⟨e, he, h1⟩
theorem Tab.size {es : Array (Int × Value)} {t : SetTable} {ks : List κ} (T : Tab knd w es t ks) : es.size = ks.length := by
 obtain ⟨⟨ls, hp, hpm⟩, _⟩ := T
 rw [← Array.length_toList, ← Paired.length hp, hpm.length_eq]
theorem SetG.setOf {h : Heap} {a : Addr} {ks : List κ} (R : SetG knd h a ks) : h.SetOf knd a (fun k => decide (k ∈ ks)) ks.length := by
 obtain ⟨o, es, ep, t, ho, hx, hd, T⟩ := R
 refine ⟨o, es, ep, t, ho, hx, hd, T.elems, fun k => ?_, T.2.2.1, T.2.2.2.1, T.size⟩
 rw [decide_eq_true_iff]
 exact (T.mem k).symm
theorem SetG.at {h h' : Heap} {a : Addr} {ks : List κ} (R : SetG knd h a ks) (k : ∀ o, h.get? a = some o → h'.get? a = some o) : SetG knd h' a ks := by
 obtain ⟨o, es, ep, t, ho, r⟩ := R
 exact ⟨o, es, ep, t, k o ho, r⟩
theorem SetG.fresh {h : Heap} : SetG knd (h.push { cls := .type "set", dict := none, data := .set #[] 0 (.fresh 0 0 (!w.params.followText "set-order")) }) h.objs.size [] := by
 refine ⟨_, #[], 0, _, Heap.get?_push_size _ rfl, ⟨rfl, rfl, rfl⟩, rfl, ⟨[], .nil, .nil⟩, List.nodup_nil, by decide, rfl, List.Pairwise.nil, ?_⟩
 cases q : w.params.followText "set-order" with
 | false => exact .inr (by show (!false) = true; rfl)
 | true => exact .inl rfl
end
section
variable {P : Program} {w : World} {κ : Type} [DecidableEq κ] {knd : PySem.KeyKind P w κ} {A : Around} {E : Value → Shared → Prop} {s : Shared} {a : Addr} {ks : List κ}
theorem put_there {h : Heap} {o : Obj} {es es' : Array (Int × Value)} {ep : Nat} {t t' : SetTable} (ho : h.get? a = some o) (hd : o.data = .set es ep t) :
  (h.update a (Obj.putSet es' t')).get? a = some { o with data := .set es' (ep + 1) t' } := by
 have e := Heap.get?_update_self (Obj.putSet es' t') ho (by rw [putSet_of es' t' hd]; rfl)
 rwa [putSet_of es' t' hd] at e
/-- what stands behind the new item's laying -/
theorem laid_tail {g : Bool → Sem Unit} (hg : ∀ (b : Bool) (s1 : Shared) (Q : Unit → Shared → Prop), Q () s1 → wpAny (model P w) A (g b) Q E s1) {o : Obj} {es es1 : Array (Int × Value)} {ep : Nat} {t t2 : SetTable} {ks' : List κ} {dm : Bool} {R : Option Bool → Shared → Prop} (ho : s.heap.get? a = some o) (hx : o.ExactSet) (hd : o.data = .set es ep t)
  (T : Tab knd w es1 t2 ks') (hR : ∀ h', Heap.SameBut a s.heap h' → SetG knd h' a ks' → R (some true) { s with heap := h' }) :
  wpAny (model P w) A (do
   storeSet a es1 t2
   if (!dm && t2.tooFull) = true then do
    g (relayAll t2 es1 (SetTable.grown es1.size)).2.2
    storeSet a (relayAll t2 es1 (SetTable.grown es1.size)).1 (relayAll t2 es1 (SetTable.grown es1.size)).2.1
    pure (some true)
   else pure (some true)) R E s := by
 refine wpAny_bind (wpAny_storeSet_of ho hd ?_ (fits_of_scanBound T.2.2.1))
 have o1 := put_there (es' := es1) (t' := t2) ho hd
 have b1 := Heap.SameBut.update s.heap a (Obj.putSet es1 t2)
 split
 ·obtain ⟨⟨ls, hp, hpm⟩, nd, hb, hf, hr, hl⟩ := T
  have q1 := relayAll_perm t2 es1 (SetTable.grown es1.size)
  have q2 := relayAll_fits t2 es1 (SetTable.grown es1.size)
  have q3 := relayAll_ris t2 es1 (SetTable.grown es1.size)
  have q4 := relayAll_led t2 es1 (SetTable.grown es1.size)
  generalize relayAll t2 es1 (SetTable.grown es1.size) = z at q1 q2 q3 q4 ⊢
  obtain ⟨es2, t3, gv⟩ := z
  dsimp only at q1 q2 q3 q4 ⊢
  have sz : es2.size = es1.size := by rw [← Array.length_toList, ← Array.length_toList, q1.length_eq]
  refine wpAny_bind (hg _ _ _ (wpAny_bind (wpAny_storeSet_of o1 rfl (wpAny_pure (hR _ (b1.trans (Heap.SameBut.update _ a _)) ?_)) (fits_of_scanBound (by rw [sz]; exact hb)))))
  obtain ⟨ls', p', h'⟩ := paired_perm q1 hp
  exact ⟨_, es2, _, t3, put_there o1 rfl, hx, rfl, ⟨ls', h', p'.trans hpm⟩, nd, by rw [sz]; exact hb, q2, q3, hl.imp id fun z => by rw [q4]; exact z⟩
 ·exact wpAny_pure (hR _ b1 ⟨_, es1, _, t2, o1, hx, rfl, T⟩)
theorem addG_hashed {k : κ} {x : Value} {Q : Bool → Shared → Prop} (hk : knd.is k x = true) (hsc : x.scannable = true) (R : SetG knd s.heap a ks) (room : ks.length + 1 < scanBound)
  (hQ : ∀ b h', Heap.SameBut a s.heap h' → SetG knd h' a (insG k ks) → Q b { s with heap := h' }) :
  wpAny (model P w) A (setAddHashed a x (knd.hash k)) Q E s := by
 obtain ⟨o, es, ep, t, ho, hx, hd, T⟩ := id R
 unfold setAddHashed setAddHashedIn
 refine wpAny_holding (wpAny_bind (wpAny_setState_of ho hd T.2.2.2.1 ?_))
 dsimp only
 rw [byScan_of hsc T.2.2.1 T.elems]
 simp only [↓reduceIte]
 unfold setAddByScan
 refine wpAny_bind (wpAny_bind (wpAny_rule (wpAny_bind (wpAny_setScan_of hk ho hd T.2.2.2.1 T.elems ?_))))
 cases hfi : List.findIdx? (fun e => knd.is k e.2) es.toList with
 | some j =>
  dsimp only
  obtain ⟨hj, pj, _⟩ := List.findIdx?_eq_some_iff_getElem.mp hfi
  have m : k ∈ ks := (T.mem k).mp ⟨_, List.getElem_mem hj, pj⟩
  refine wpAny_pure (wpAny_pure (hQ _ s.heap (Heap.SameBut.refl a s.heap) ?_))
  rw [insG, if_pos m]
  exact R
 | none =>
  dsimp only
  have m : k ∉ ks := fun z => by
   obtain ⟨e, he, q⟩ := (T.mem k).mpr z
   have c := List.findIdx?_eq_none_iff.mp hfi e he
   rw [q] at c
   cases c
  have hQ' : ∀ h', Heap.SameBut a s.heap h' → SetG knd h' a (k :: ks) → Q true { s with heap := h' } := fun h' sb g => hQ true h' sb (by rw [insG, if_neg m]; exact g)
  obtain ⟨⟨ls, hp, hpm⟩, nd, hb, hf, hr, hl⟩ := id T
  have q1 := layNew_perm t es (knd.hash k) x
  have q2 := layNew_fits t es (knd.hash k) x
  have q3 := layNew_ris t es (knd.hash k) x hr
  have q4 := layNew_led t es (knd.hash k) x
  generalize layNew t es (knd.hash k) x = z at q1 q2 q3 q4 ⊢
  obtain ⟨es1, t1, dm, gv⟩ := z
  dsimp only at q1 q2 q3 q4 ⊢
  rw [Array.toList_push] at q1
  obtain ⟨ls', p', h'⟩ := paired_perm q1 (paired_snoc hp (show Ent knd k (knd.hash k, x) from ⟨hk, rfl, hsc⟩))
  have p2 : ls'.Perm (k :: ks) := p'.trans ((List.perm_append_singleton _ _).trans (hpm.cons _))
  have sz : es1.size = ks.length + 1 := by
   rw [← Array.length_toList, q1.length_eq, List.length_append, Array.length_toList, T.size]
   rfl
  have T1 : ∀ t2 : SetTable, t2.fits es1.size = true → t2.place = t1.place → t2.led = t1.led → Tab knd w es1 t2 (k :: ks) := fun t2 f2 e1 e2 =>
   ⟨⟨ls', h', p2⟩, List.nodup_cons.mpr ⟨m, nd⟩, by rw [sz]; exact room, f2, by rw [e1]; exact q3, hl.imp id fun z => by rw [e2, q4]; exact z⟩
  have told : ∀ (b : Bool) {s1 : Shared} {Q1 : Unit → Shared → Prop}, Q1 () s1 → wpAny (model P w) A (match b with | true => rule "set.scan.the-table-gave-way" | false => pure ()) Q1 E s1 := fun b s1 Q1 q => by
   cases b
   ·exact wpAny_pure q
   ·exact wpAny_rule q
  refine wpAny_bind (told _ ?_)
  split
  ·refine wpAny_bind ?_
   rw [hashByValue_scannable 8 hsc]
   refine wpAny_pure ?_
   refine laid_tail (by intro b s1 Q1 q; cases b <;> first | exact wpAny_pure q | exact wpAny_rule q) (knd := knd) (ks' := k :: ks) ho hx hd (T1 _ ?_ ?_ ?_) fun h' sb g => wpAny_pure (hQ' h' sb g)
   ·split
    ·exact q2
    ·exact SetTable.fits_plain_off q2
   ·split <;> rfl
   ·split <;> rfl
  ·refine wpAny_bind (wpAny_pure ?_)
   simp only [↓reduceIte]
   exact laid_tail (by intro b s1 Q1 q; cases b <;> first | exact wpAny_pure q | exact wpAny_rule q) (knd := knd) (ks' := k :: ks) ho hx hd (T1 _ q2 rfl rfl) fun h' sb g => wpAny_pure (hQ' h' sb g)
end
def SetKo (P : Program) (w : World) (a : Addr) (ks : List Key) : HO := .ext fun h => SetG (mixKind P w) h a ks
theorem setKo_new {P : Program} {w : World} {H : Hp} {h : Heap} {a : Addr} {ks : List Key} (R : SetG (mixKind P w) h a ks) : ObjOk P w H h a (SetKo P w a ks) := by
 obtain ⟨o, es, ep, t, ho, _⟩ := id R
 exact ⟨R, ⟨o, ho⟩, fun _ _ p k => SetG.at p k⟩
section
variable {X : Cx} {pins : List (Addr × Obj)} {σ : L2.St} {H : Hp} {s : Shared}
theorem setKo_get {a : Addr} {ks : List Key} (I : L2.Inv X pins σ H s) (ha : H a = some (SetKo X.prog X.w a ks)) : SetG (mixKind X.prog X.w) s.heap a ks := (I.hok a _ ha).1
theorem kV_sc {k : Key} {u : Value} (r : RelV (kV k) u) : keyIs k u = true ∧ u.scannable = true := by
 cases k with
 | inl i =>
  obtain ⟨t, rfl⟩ := r
  exact ⟨keyIs_int i t, rfl⟩
 | inr x =>
  obtain ⟨t, rfl⟩ := r
  exact ⟨keyIs_str x t, rfl⟩
end
end
section
def srtD (xs : List (V × PyData)) : List V := (xs.mergeSort (PySem.W.dataLe false fun z : V × PyData => z.2)).map (·.1)
section
variable {X : Cx} {pins : List (Addr × Obj)} {σ : L2.St} {H : Hp} {s : Shared}
theorem vals_each {R : Value → V × PyData → Prop} : ∀ {xs : List (V × PyData)} {vs : List Value}, Vals (xs.map (·.1)) vs → (∀ x u, x ∈ xs → RelV x.1 u → R u x) → PySem.W.EachIs R vs xs
 | [], _, h, _ => by cases h; exact .nil
 | x :: xs, _, h, f => by
  cases h with
  | cons r t => exact .cons (f x _ (by simp) r) (vals_each t fun y u hy => f y u (by simp [hy]))
theorem each_vals : ∀ {xs : List (V × PyData)} {vs : List Value}, PySem.W.EachIs (fun u (x : V × PyData) => RelV x.1 u) vs xs → Vals (xs.map (·.1)) vs
 | [], _, h => by cases h; exact .nil
 | x :: xs, _, h => by
  cases h with
  | cons r t => exact .cons r (each_vals t)
/-- what stands behind sorted's gathering of the items -/
theorem sort_tail {A : Around} {E : Value → Shared → Prop} {Q : VK} {xs : List (V × PyData)} {vs : List Value} (I : L2.Inv X pins σ H s) (r : Vals (xs.map (·.1)) vs) (hd : ∀ x ∈ xs, Dp X.K H x.1 x.2)
  (hal : PySem.W.AllAlike (xs.map (·.2))) (hso : PySem.W.Sortable (xs.map (·.2))) (hn : xs.length ≤ sizeLine) (hu : ∀ x ∈ xs, A.units + 1 + x.2.depth < cLine)
  (q : ∀ p, H p = none → Q (.ref p) (upd H p (.lst (srtD xs)))) :
  wpAny (model X.prog X.w) A (do
   let l ← newList vs
   let _ ← holding [l] (call (.builtin "list.sort") [l])
   ret l) (fun fin s' => ∃ v, fin = Fin.done (Flow.ret v) ∧ EP X pins σ Q v s') E s := by
 have hvl : vs.length = xs.length := by rw [← r.length, List.length_map]
 refine wpAny_bind (wpAny_newList ?_ (by rw [hvl]; exact hn))
 have hat : (s.heap.push (seqObj "list" vs.toArray 0)).get? s.heap.objs.size = some (seqObj "list" vs.toArray 0) := Heap.get?_push_size _ rfl
 have er : PySem.W.EachIs (fun v (b : V × PyData) => ∃ as, Reads (PySem.W.sortingHeap (s.heap.push (seqObj "list" vs.toArray 0)) s.heap.objs.size vs) v b.2 as) vs xs := vals_each r fun x u hx ru => by
  obtain ⟨as, hr⟩ := Dp.reads I x.2 x.1 u (hd x hx) ru
  exact ⟨as, PyProof.Rows.Reads.keeps (fun b o e => PySem.W.sortingHeap_old (Nat.ne_of_lt (Heap.lt_size e)) (Heap.get?_push_of_some _ e)) hr⟩
 have ev : PySem.W.EachIs (fun u (x : V × PyData) => RelV x.1 u) vs xs := vals_each r fun x u _ ru => ru
 show wpAny _ _ _ _ _ { s with heap := s.heap.push (seqObj "list" vs.toArray 0) }
 refine wpAny_bind (wpAny_holding (wpAny_call_entry slot_list_sort ⟨_, hat, rfl⟩ entry_list_sort
  (PySem.W.list_sort_vals (κ := PySem.W.dataKind (PySem.W.sortingHeap (s.heap.push (seqObj "list" vs.toArray 0)) s.heap.objs.size vs) (xs.map (·.2))) (s := { s with heap := s.heap.push (seqObj "list" vs.toArray 0) }) hat
   (PySem.W.SortsAt.data (PySem.W.each_map (fun b : V × PyData => b.2) er) hal hso (PySem.W.bound_map hu)) (by rw [hvl]; exact hn) ⟨_, rfl, ?_⟩) (args_list_sort _)))
 have eo := PySem.W.sortVals_data false ev er hal
 generalize PySem.W.sortVals (PySem.W.dataKind (PySem.W.sortingHeap (s.heap.push (seqObj "list" vs.toArray 0)) s.heap.objs.size vs) (xs.map (·.2))) false vs vs = out at eo ⊢
 have rv := each_vals eo
 obtain ⟨ep, ho⟩ := sortedHeap_at (vs := vs) (out := out.toArray) hat
 have hl : (srtD xs).length ≤ sizeLine := by
  unfold srtD
  rw [List.length_map, List.length_mergeSort]
  exact hn
 refine wpAny_pure ⟨_, rfl, .ref s.heap.objs.size, upd H s.heap.objs.size (.lst (srtD xs)), I.laid (t' := s.toks) (fun b u e => ?_) (Nat.le_refl _) ⟨hl, out, ep, rv, ho⟩, rfl, q _ (I.hok.fresh (Nat.le_refl _))⟩
 have hb := Heap.lt_size e
 rw [sortedHeap_old (Nat.ne_of_lt hb) (by rw [size_push']; exact Nat.lt_succ_of_lt hb)]
 exact Heap.get?_push_of_some _ e
/-- sorted(xs), xs a list or a tuple of data -/
def rSortedQ (K : PySem.W.Frag) : List V → Hp → VK → Prop := fun vs H Q => ∃ (a : Addr) (xs : List (V × PyData)), vs = [.ref a] ∧ (SqL K H a (xs.map (·.1)) ∨ SqT K H a (xs.map (·.1))) ∧ (∀ x ∈ xs, Dp K H x.1 x.2) ∧
 PySem.W.AllAlike (xs.map (·.2)) ∧ PySem.W.Sortable (xs.map (·.2)) ∧ (∀ x ∈ xs, x.2.depth ≤ 64) ∧ ∀ p, H p = none → Q (.ref p) (upd H p (.lst (srtD xs)))
theorem cr_sortedD (hu : X.A.units + 70 < cLine) : CallR X (.builtin "sorted") (rSortedQ X.K) := by
 intro pins s σ H us vs Q I r h
 obtain ⟨a, xs, rfl, hs, hd, hal, hso, hdp, q⟩ := h
 rw [Vals.ref1 r]
 have go : ∀ (its : List Value) (T : String) (o : Obj) (n : Nat), (T = "list" ∨ T = "tuple") → s.heap.get? a = some o → o.cls = .type T → o.data = .seq its.toArray n → Vals (xs.map (·.1)) its → (xs.map (·.1)).length ≤ sizeLine →
   wpAny (model X.prog X.w) X.A (call (.builtin "sorted") [.ref a]) (EP X pins σ Q) X.xe s := fun its T o n hT ho hc hdt rv hz => by
  rw [List.length_map] at hz
  refine Calls.call_function_entry kind_sorted plain_sorted entry_sorted (args_sorted1 _) ?_
  unfold Builtin.«sorted»
  refine wpAny_bind (m := checkCount "sorted" 1 1 _) (wpAny_pure ?_)
  refine wpAny_bind (wpAny_collect_seq a hT ho hc hdt (fun h' hk => ?_) (by rw [List.size_toArray, ← rv.length, List.length_map]; exact hz))
  have I1 : L2.Inv X pins σ H { s with heap := h' } := I.kept (t' := s.toks) hk
  refine sort_tail (A := X.A.in1) (Q := Q) I1 rv hd hal hso hz (fun x hx => ?_) q
  have h1 := hdp x hx
  show X.A.units + 1 + 1 + x.2.depth < cLine
  omega
 rcases hs with hs | hs
 ·obtain ⟨its, rv, ⟨o, n, ho, hc, _, hdt⟩, hz⟩ := I.list hs
  exact go its "list" o n (.inl rfl) ho hc hdt rv hz
 ·obtain ⟨its, rv, ⟨o, ho, hc, n, hdt⟩, hz⟩ := I.tuple hs
  exact go its "tuple" o n (.inr rfl) ho hc hdt rv hz
/-- sorted of a set of texts -/
def rSortedSt (P : Program) (w : World) : List V → Hp → VK → Prop := fun vs H Q => ∃ (a : Addr) (ks : List Str), vs = [.ref a] ∧ H a = some (SetKo P w a (ks.map Sum.inr)) ∧
 ∀ p (ys : List Str), ys.Perm ks → H p = none → Q (.ref p) (upd H p (.lst (srtD (ys.map fun z => (V.str z, PyData.str z)))))
theorem cr_sortedSt (hc : X.calm = true) (hu : X.A.units + 70 < cLine) : CallR X (.builtin "sorted") (rSortedSt X.prog X.w) := by
 intro pins s σ H us vs Q I r h
 obtain ⟨a, ks, rfl, ha, q⟩ := h
 rw [Vals.ref1 r]
 obtain ⟨o, es, ep, t, ho, hx, hd, T⟩ := setKo_get I ha
 refine Calls.call_function_entry kind_sorted plain_sorted entry_sorted (args_sorted1 _) ?_
 unfold Builtin.«sorted»
 refine wpAny_bind (m := checkCount "sorted" 1 1 _) (wpAny_pure ?_)
 refine wpAny_bind (collect_set (A := X.A.in1) (show X.A.in1.handled = none from I.ok.hd hc) ⟨o, ho, hx.1, hd⟩ T.2.2.2.1 T.2.2.1 T.2.2.2.2.1 T.2.2.2.2.2 fun s1 out hk hsz hg hos hp => ?_)
 obtain ⟨ys, py, ry⟩ : ∃ ys : List Str, ys.Perm ks ∧ Vals (ys.map V.str) out := by
  obtain ⟨ls, pl, pk⟩ := T.1
  have p1 : Paired (fun (k : Key) (u : Value) => RelV (kV k) u) ls (es.toList.map (·.2)) := by
   clear pk
   generalize es.toList = el at pl
   clear hp
   induction pl with
   | nil => exact .nil
   | cons r t ih =>
    refine .cons ?_ ih
    obtain ⟨r1, _⟩ := r
    rcases keyIs_shape r1 with ⟨i, t, rfl, e⟩ | ⟨x, t, rfl, e⟩
    ·exact ⟨t, e⟩
    ·exact ⟨t, e⟩
  obtain ⟨l2, p2, h2⟩ := paired_perm hp p1
  have p3 : l2.Perm (ks.map Sum.inr) := p2.trans pk
  clear p1 p2 pl pk hp
  have hall : ∀ k ∈ l2, ∃ z, k = Sum.inr z := fun k hk => by
   obtain ⟨z, _, e⟩ := List.mem_map.mp (p3.mem_iff.mp hk)
   exact ⟨z, e.symm⟩
  have hz : ∃ ys : List Str, l2 = ys.map Sum.inr := by
   clear h2 p3
   induction l2 with
   | nil => exact ⟨[], rfl⟩
   | cons k l ih =>
    obtain ⟨z, rfl⟩ := hall k (by simp)
    obtain ⟨ys, rfl⟩ := ih fun k hk => hall k (by simp [hk])
    exact ⟨z :: ys, rfl⟩
  obtain ⟨ys, rfl⟩ := hz
  have p4 := p3.map fun (k : Key) => match k with
   | .inr z => z
   | .inl _ => Str.empty
  rw [List.map_map, List.map_map] at p4
  have e4 : ∀ l : List Str, l.map ((fun (k : Key) => match k with
   | .inr z => z
   | .inl _ => Str.empty) ∘ Sum.inr) = l := fun l => by
   induction l with
   | nil => rfl
   | cons x r ih =>
    rw [List.map_cons, ih]
    rfl
  rw [e4, e4] at p4
  refine ⟨ys, p4, ?_⟩
  clear p3 hall p4
  induction ys generalizing out with
  | nil => cases h2; exact .nil
  | cons y ys ih =>
   cases h2 with
   | cons r t => exact .cons r (ih _ t)
 have I1 : L2.Inv X pins σ H s1 := by
  obtain ⟨h1, g1, d1, t1, o1⟩ := s1
  have e1 : g1 = s.gens := hg
  have e2 : o1 = s.os := hos
  subst e1 e2
  exact I.call' (ch := []) rfl (Un.kept hk) (I.hok.kept hk) I.bare (fun _ z => nomatch z)
 have em : (ys.map fun z => (V.str z, PyData.str z)).map (·.1) = ys.map V.str := by rw [List.map_map]; rfl
 have e2 : (ys.map fun z => (V.str z, PyData.str z)).map (·.2) = ys.map PyData.str := by rw [List.map_map]; rfl
 refine sort_tail (A := X.A.in1) (Q := Q) (xs := ys.map fun z => (V.str z, PyData.str z)) I1 (by rw [em]; exact ry) ?_ ?_ ?_ ?_ ?_ (fun p hp => q p ys py hp)
 ·intro x hx
  obtain ⟨z, _, rfl⟩ := List.mem_map.mp hx
  exact .str z
 ·rw [e2]
  exact PySem.W.AllAlike.of fun b b' => rfl
 ·rw [e2]
  exact PySem.W.Sortable.others fun b => ⟨(fun e => by cases e), (fun xs e => by cases e)⟩
 ·rw [List.length_map, py.length_eq]
  have h1 := T.size
  have h2 := T.2.2.1
  rw [h1, List.length_map] at h2
  exact fits_of_scanBound h2
 ·intro x hx
  obtain ⟨z, _, rfl⟩ := List.mem_map.mp hx
  show X.A.units + 1 + 1 + PyData.depth (.str z) < cLine
  have : PyData.depth (.str z) ≤ 1 := by simp [PyData.depth]
  omega
end
end
section
/-- a class with its own __eq__ and the plain != -/
structure EqC (K : PySem.W.Frag) (C f : Addr) : Prop where
 eq : PySem.W.findIn K (.ref C) "__eq__" = some (some (.ref f))
 ne : PySem.W.findIn K (.ref C) "__ne__" = some (some (.builtin "object.__ne__"))
 fn : PySem.W.isFn K (.ref f) = true
 sub : PySem.W.subIn K (.ref C) (.type "object") = some true
section
variable {X : Cx} {n : Nat} {C f : Addr} {fd : FuncData} {ps : List Str} {sp : Sp}
def rEqO (C : Addr) (sp : Sp) : R2 := fun x y H Q => ∃ a b dx dy fs gs, x = .ref a ∧ y = .ref b ∧ H a = some (.ins C dx fs) ∧ H b = some (.ins C dy gs) ∧ sp [.ref a, .ref b] H Q E0
theorem run2 {pins : List (Addr × Obj)} {σ : L2.St} {H : Hp} {s : Shared} {A : Around} {Q : VK} {a b : Addr} {E : Value → Shared → Prop} (F : FnOk X.prog X.w X.K X.mg X.base CX0 n f fd ps sp) (hb : Binds X.K fd ps []) (I : L2.Inv X pins σ H s) (hr : Room n A) (hfr : A.frames = X.A.frames)
  (h : sp [.ref a, .ref b] H Q E0) : wpAny (model X.prog X.w) A (call (.ref f) [.ref a, .ref b]) (EP X pins σ Q) E s := by
 have e0 : Env0 X.prog X.w X.K X.mg X.base A X.stack s H := by
  have e := I.env0
  exact ⟨by rw [hfr]; exact e.frames, e.mod, e.bs, e.bsz, e.funs, e.frf, e.hok, e.bare⟩
 have hl := F.len _ _ _ _ h
 have r2 : Vals [V.ref a, V.ref b] [Value.ref a, Value.ref b] := .cons rfl (.cons rfl .nil)
 refine wpAny_call (codeAny_mono (F.run A X.stack s H ⟨[.ref a, .ref b], []⟩ [.ref a, .ref b] [.ref a, .ref b] Q E0 hr e0 (by
  have := hb s [.ref a, .ref b] I.kIn (by simpa using hl)
  simpa using this) r2 h) fun r s' hq => ?_)
 cases r with
 | error e => exact False.elim hq
 | ok fl =>
  cases fl with
  | ret w =>
   obtain ⟨z, H', I', rz, q⟩ := I.after hq
   exact ⟨z, H', I', rz, q⟩
  | next => exact False.elim hq
  | brk => exact False.elim hq
  | cont => exact False.elim hq
theorem op_eqO (c : EqC X.K C f) (F : FnOk X.prog X.w X.K X.mg X.base CX0 n f fd ps sp) (hb : Binds X.K fd ps []) (hr : Room n X.A) : OpR X (compareOp .Eq) (rEqO C sp) := by
 intro pins s σ H x y v u Q I rx ry h
 obtain ⟨a, b, dx, dy, fs, gs, rfl, rfl, ha, hb', q⟩ := h
 cases rx
 cases ry
 obtain ⟨mA, J, _⟩ := ins_get I.hok ha
 obtain ⟨mB, J', _⟩ := ins_get I.hok hb'
 obtain ⟨od, J, _⟩ := J.look
 obtain ⟨od', J', _⟩ := J'.look
 obtain ⟨m, hF⟩ := I.fr
 show wpAny (model X.prog X.w) X.A (richCompare .Eq (.ref a) (.ref b)) _ _ _
 refine PySem.W.cmp_K (op := .Eq) (tb := .ref C) hr.units0 hF I.ok.mod.kin J J'.type (by simp [PySem.W.notFirst]) c.eq c.fn (wpAny_mono (run2 F hb I hr rfl q) (fun z s' hz => ?_) fun _ _ e => e)
 obtain ⟨z', H', I', rz, q'⟩ := id hz
 cases z' with
 | non => cases (show z = Value.none from rz); exact hz
 | bl c => cases (show z = Value.bool c from rz); exact hz
 | int i => obtain ⟨t, e⟩ := (show ∃ t, z = Value.int i t from rz); cases e; exact hz
 | str i => obtain ⟨t, e⟩ := (show ∃ t, z = Value.str i t from rz); cases e; exact hz
 | byt i => obtain ⟨t, e⟩ := (show ∃ t, z = Value.bytes i t from rz); cases e; exact hz
 | flt i => obtain ⟨t, e⟩ := (show ∃ t, z = Value.float i t from rz); cases e; exact hz
 | ref i => cases (show z = Value.ref i from rz); exact hz
 | ty i => cases (show z = Value.type i from rz); exact hz
end
end
local macro_rules | `(tactic| sleep 2000) => `(tactic| exact ⟨rfl, rfl, rfl, by decide +kernel, rfl, by decide +kernel, by decide +kernel⟩)
section
def kinds : List String := ["NoneType", "bool", "int", "str", "list", "tuple", "dict"]
def Kd (K : PySem.W.Frag) (H : Hp) (x : V) (n : String) : Prop := TyX K H x (.type n) ∧ n ∈ kinds ∧ ∀ z, x = .str z → z.length ≤ sizeLine
theorem kit_int {K : PySem.W.Frag} {n : String} (h : n ∈ kinds) : PySem.W.kitOne K (.type n) (.type "int") = some (n == "int" || n == "bool") := by
 have : ∀ n ∈ kinds, kitB n "int" = some (n == "int" || n == "bool") := by decide +kernel
 exact kit_ty (this n h)
theorem kit_bool {K : PySem.W.Frag} {n : String} (h : n ∈ kinds) : PySem.W.kitOne K (.type n) (.type "bool") = some (n == "bool") := by
 have : ∀ n ∈ kinds, kitB n "bool" = some (n == "bool") := by decide +kernel
 exact kit_ty (this n h)
theorem kit_str {K : PySem.W.Frag} {n : String} (h : n ∈ kinds) : PySem.W.kitOne K (.type n) (.type "str") = some (n == "str") := by
 have : ∀ n ∈ kinds, kitB n "str" = some (n == "str") := by decide +kernel
 exact kit_ty (this n h)
theorem kit_list {K : PySem.W.Frag} {n : String} (h : n ∈ kinds) : PySem.W.kitOne K (.type n) (.type "list") = some (n == "list") := by
 have : ∀ n ∈ kinds, kitB n "list" = some (n == "list") := by decide +kernel
 exact kit_ty (this n h)
theorem kit_tuple {K : PySem.W.Frag} {n : String} (h : n ∈ kinds) : PySem.W.kitOne K (.type n) (.type "tuple") = some (n == "tuple") := by
 have : ∀ n ∈ kinds, kitB n "tuple" = some (n == "tuple") := by decide +kernel
 exact kit_ty (this n h)
theorem kit_row {K : PySem.W.Frag} {n : String} (h : n ∈ kinds) : PySem.W.kitAny K (.type n) [.type "list", .type "tuple"] = some (n == "list" || n == "tuple") := by
 refine kitAny_cons (kit_list h) (fun e => ?_) (fun e => by rw [e]; rfl)
 rw [e, Bool.false_or]
 refine kitAny_cons (kit_tuple h) (fun e2 => by rw [e2]; exact kitAny_nil) (fun e2 => e2)
theorem kd_is_int {K : PySem.W.Frag} {H : Hp} {x : V} (h : Kd K H x "int") : ∃ i, x = .int i := by
 obtain ⟨h, _⟩ := h
 generalize e : Value.type "int" = t at h
 cases h with
 | base b => cases b <;> first | exact ⟨_, rfl⟩ | exact absurd (Value.type.inj e) (by decide) | cases e
 | byt b => exact absurd (Value.type.inj e) (by decide)
 | set _ => exact absurd (Value.type.inj e) (by decide)
 | kList _ _ => exact absurd (Value.type.inj e) (by decide)
 | kTuple _ _ => exact absurd (Value.type.inj e) (by decide)
 | kDict _ _ => exact absurd (Value.type.inj e) (by decide)
 | fTuple _ => exact absurd (Value.type.inj e) (by decide)
 | fDict _ => exact absurd (Value.type.inj e) (by decide)
theorem kd_not_int {K : PySem.W.Frag} {H : Hp} {x : V} {n : String} (h : Kd K H x n) (hn : n ≠ "int") : ∀ i, x ≠ .int i := by
 rintro i rfl
 obtain ⟨h, _⟩ := h
 generalize e : Value.type n = t at h
 cases h with
 | base b =>
  cases b
  cases e
  exact hn rfl
theorem kd_is_str {K : PySem.W.Frag} {H : Hp} {x : V} (h : Kd K H x "str") : ∃ z, x = .str z := by
 obtain ⟨h, _⟩ := h
 generalize e : Value.type "str" = t at h
 cases h with
 | base b => cases b <;> first | exact ⟨_, rfl⟩ | exact absurd (Value.type.inj e) (by decide) | cases e
 | byt b => exact absurd (Value.type.inj e) (by decide)
 | set _ => exact absurd (Value.type.inj e) (by decide)
 | kList _ _ => exact absurd (Value.type.inj e) (by decide)
 | kTuple _ _ => exact absurd (Value.type.inj e) (by decide)
 | kDict _ _ => exact absurd (Value.type.inj e) (by decide)
 | fTuple _ => exact absurd (Value.type.inj e) (by decide)
 | fDict _ => exact absurd (Value.type.inj e) (by decide)
theorem kd_not_str {K : PySem.W.Frag} {H : Hp} {x : V} {n : String} (h : Kd K H x n) (hn : n ≠ "str") : ∀ z, x ≠ .str z := by
 rintro i rfl
 obtain ⟨h, _⟩ := h
 generalize e : Value.type n = t at h
 cases h with
 | base b =>
  cases b
  cases e
  exact hn rfl
def btw (lo hi : Int) : V → Bool
 | .int i => decide (lo ≤ i) && decide (i ≤ hi)
 | _ => false
def nmB (z : Str) : Bool := decide (1 ≤ z.length) && decide (z.length ≤ 10) && z.cps.toList.all fun c => decide (c ∈ smallS.cps.toList)
def isNm : V → Bool
 | .str z => nmB z
 | _ => false
structure Cst (mg : Str → Option Value) : Prop where
 small : ∃ t, mg "SMALL" = some (.str smallS t)
section
variable {P : Program} {w : World} {K : PySem.W.Frag} {mg : Str → Option Value} {base : Heap} {f fA : Addr} {fd fdA : FuncData}
abbrev sIs_integer : Stmt := topS 3
abbrev nIs_integer : List Str := ["thing"]
theorem scIs_integer : FnScope nIs_integer ["thing"] (defScope sIs_integer) := by sleep 2000
def spIsInteger (K : PySem.W.Frag) : Sp := fun vs H Q _ => ∃ (x : V) (n : String), vs = [x] ∧ Kd K H x n ∧ Q (.bl (n == "int")) H
theorem ok_is_integer (D : Df K mg "is_integer" sIs_integer ["thing"] f fd) (T : Bl mg) : FnOk P w K mg base CX0 1 f fd ["thing"] (spIsInteger K) := by
 refine D.fn.ok scIs_integer (fun vs H Q E h => ?_) (fun cdv A outer s H vs Q E hr h => ?_)
 ·obtain ⟨x, n, rfl, _⟩ := h
  rfl
 ·obtain ⟨x, n, rfl, hk, q⟩ := h
  refine ⟨_, (pss_one (ps_ret (pe_and (pe_callB call_isi (by rfl) T.isinstance (by decide +kernel) (pa_cons (pv 0) (pa_cons (pe_bltn (v := .ty "int") (by rfl) T.int (by decide +kernel) rfl) pa_nil))) (pe_one (pe_not (pe_callB call_isi (by rfl) T.isinstance (by decide +kernel) (pa_cons (pv 0) (pa_cons (pe_bltn (v := .ty "bool") (by rfl) T.bool (by decide +kernel) rfl) pa_nil)))))))), ?_⟩
  refine ⟨_, rfl, _, _, _, _, _, rfl, .ty "int", hk.1, kit_int hk.2.1, _, rfl, ?_⟩
  refine ite2 (fun c => ?_) (fun c => ?_)
  ·refine ⟨_, rfl, _, _, _, _, _, rfl, .ty "bool", hk.1, kit_bool hk.2.1, _, rfl, ?_⟩
   have e : (!(n == "bool")) = (n == "int") := by
    rcases Bool.or_eq_true_iff.mp c with h | h
    ·rw [beq_iff_eq.mp h]
     decide
    ·rw [beq_iff_eq.mp h]
     decide
   show Q (.bl (!(n == "bool"))) H
   rw [e]
   exact q
  ·have e : (n == "int") = false := by
    cases h : n == "int" with
    | false => rfl
    | true => exact absurd (by rw [h]; rfl) c
   show Q (.bl false) H
   rw [← e]
   exact q
abbrev sIs_between : Stmt := topS 4
abbrev nIs_between : List Str := ["thing", "low", "high"]
theorem scIs_between : FnScope nIs_between ["thing", "low", "high"] (defScope sIs_between) := by sleep 2000
def spIsBetween (K : PySem.W.Frag) : Sp := fun vs H Q _ => ∃ (x : V) (n : String) (lo hi : Int), vs = [x, .int lo, .int hi] ∧ Kd K H x n ∧ Q (.bl (btw lo hi x)) H
theorem ok_is_between {fB : Addr} {fdB : FuncData} (D : Df K mg "is_between" sIs_between ["thing", "low", "high"] f fd) (DIs_integer : Df K mg "is_integer" sIs_integer ["thing"] fB fdB) (T : Bl mg) : FnOk P w K mg base CX0 2 f fd ["thing", "low", "high"] (spIsBetween K) := by
 have GIs_integer : FnOk P w K mg base CX0 1 fB fdB ["thing"] (spIsInteger K) := ok_is_integer DIs_integer T
 refine D.fn.ok scIs_between (fun vs H Q E h => ?_) (fun cdv A outer s H vs Q E hr h => ?_)
 ·obtain ⟨x, n, lo, hi, rfl, _⟩ := h
  rfl
 ·obtain ⟨x, n, lo, hi, rfl, hk, q⟩ := h
  refine ⟨_, (pss_one (ps_ret (pe_and (pe_df DIs_integer GIs_integer (hr.mono (by decide)) (pa_cons (pv 0) pa_nil)) (pe_one (pe_chain op_le op_le (pv 1) (pv 0) (pv 2)))))), ?_⟩
  refine ⟨_, rfl, x, n, rfl, hk, _, rfl, ite2 (fun c => ?_) (fun c => ?_)⟩
  ·have en : n = "int" := beq_iff_eq.mp c
   subst en
   obtain ⟨i, rfl⟩ := kd_is_int hk
   refine ⟨_, rfl, _, rfl, _, _, rfl, rfl, _, rfl, ?_⟩
   by_cases h1 : lo ≤ i
   ·rw [decide_eq_true h1]
    refine ⟨_, rfl, _, _, rfl, rfl, ?_⟩
    have e : btw lo hi (.int i) = decide (i ≤ hi) := by
     show (decide (lo ≤ i) && decide (i ≤ hi)) = _
     rw [decide_eq_true h1]
     rfl
    rw [e] at q
    exact q
   ·rw [decide_eq_false h1]
    have e : btw lo hi (.int i) = false := by
     show (decide (lo ≤ i) && decide (i ≤ hi)) = _
     rw [decide_eq_false h1]
     rfl
    rw [e] at q
    exact q
  ·have e : btw lo hi x = false := by
    have hn := kd_not_int hk (fun z => c (by rw [z]; rfl))
    cases x with
    | int i => exact absurd rfl (hn i)
    | _ => rfl
   rw [e] at q
   exact q
abbrev sIs_row : Stmt := topS 6
abbrev nIs_row : List Str := ["thing"]
theorem scIs_row : FnScope nIs_row ["thing"] (defScope sIs_row) := by sleep 2000
def spIsRow (K : PySem.W.Frag) : Sp := fun vs H Q _ => ∃ (x : V) (n : String), vs = [x] ∧ Kd K H x n ∧ ∀ H', Same H H' → Q (.bl (n == "list" || n == "tuple")) H'
theorem tyx_mono {K : PySem.W.Frag} {H H' : Hp} {x : V} {t : Value} (s : Same H H') (h : TyX K H x t) : TyX K H' x t := by
 cases h with
 | base b =>
  cases b with
  | non => exact .base .non
  | bl x => exact .base (.bl x)
  | int x => exact .base (.int x)
  | str x => exact .base (.str x)
  | flt x => exact .base (.flt x)
  | lst e => exact .base (.lst (s _ _ e))
  | frz e => exact .base (.frz (s _ _ e))
  | tup e => exact .base (.tup (s _ _ e))
  | dK e => exact .base (.dK (s _ _ e))
  | dT e => exact .base (.dT (s _ _ e))
  | ins e cl ha hn htk hm => exact .base (.ins (s _ _ e) cl ha hn htk hm)
 | byt b => exact .byt b
 | set e => exact .set (s _ _ e)
 | kList e c => exact .kList e c
 | kTuple e c => exact .kTuple e c
 | kDict e c => exact .kDict e c
 | fTuple e => exact .fTuple (s _ _ e)
 | fDict e => exact .fDict (s _ _ e)
theorem Kd.mono {K : PySem.W.Frag} {H H' : Hp} {x : V} {n : String} (s : Same H H') (h : Kd K H x n) : Kd K H' x n := ⟨tyx_mono s h.1, h.2⟩
theorem ok_is_row (D : Df K mg "is_row" sIs_row ["thing"] f fd) (T : Bl mg) : FnOk P w K mg base CX0 1 f fd ["thing"] (spIsRow K) := by
 refine D.fn.ok scIs_row (fun vs H Q E h => ?_) (fun cdv A outer s H vs Q E hr h => ?_)
 ·obtain ⟨x, n, rfl, _⟩ := h
  rfl
 ·obtain ⟨x, n, rfl, hk, q⟩ := h
  refine ⟨_, (pss_one (ps_ret (pe_callB call_isiT (by rfl) T.isinstance (by decide +kernel) (pa_cons (pv 0) (pa_cons (pe_tup (pa_cons (pe_bltn (v := .ty "list") (by rfl) T.list (by decide +kernel) rfl) (pa_cons (pe_bltn (v := .ty "tuple") (by rfl) T.tuple (by decide +kernel) rfl) pa_nil))) pa_nil))))), ?_⟩
  refine ⟨_, rfl, by show 2 ≤ sizeLine; decide, fun t ht => ?_⟩
  refine ⟨x, t, _, _, [.type "list", .type "tuple"], _, rfl, upd_same, .cons (.ty "list") (.cons (.ty "tuple") .nil), tyx_mono (same_upd ht) hk.1, kit_row hk.2.1, q _ (same_upd ht)⟩
abbrev sIs_name : Stmt := topS 5
abbrev nIs_name : List Str := ["thing", "letter"]
theorem scIs_name : FnScope nIs_name ["thing"] (defScope sIs_name) := by sleep 2000
def spIsName (K : PySem.W.Frag) : Sp := fun vs H Q _ => ∃ (x : V) (n : String), vs = [x] ∧ Kd K H x n ∧ ∀ H', Same H H' → Q (.bl (isNm x)) H'
def inSm (v : V) : Option V := match v with
 | .str ⟨#[c]⟩ => some (.bl (decide (c ∈ smallS.cps.toList)))
 | _ => none
theorem inSm_signs (z : Str) : (signs z).filterMap inSm = (z.cps.toList.map fun c => decide (c ∈ smallS.cps.toList)).map V.bl := by
 unfold signs
 induction z.cps.toList with
 | nil => rfl
 | cons c r ih =>
  simp only [List.map_cons, List.filterMap_cons]
  rw [ih]
  rfl
theorem ok_is_name (D : Df K mg "is_name" sIs_name ["thing"] f fd) (T : Bl mg) (C : Cst mg) : FnOk P w K mg base CX0 1 f fd ["thing"] (spIsName K) := by
 obtain ⟨tsm, hsm⟩ := C.small
 refine D.fn.ok scIs_name (fun vs H Q E h => ?_) (fun cdv A outer s H vs Q E hr h => ?_)
 ·obtain ⟨x, n, rfl, _⟩ := h
  rfl
 ·obtain ⟨x, n, rfl, hk, q⟩ := h
  refine ⟨_, (pss_cons (ps_if (PW.pt (pw_or (pt_not (pt_val (pe_callB call_isi (by rfl) T.isinstance (by decide +kernel) (pa_cons (pv 0) (pa_cons (pe_bltn (v := .ty "str") (by rfl) T.str (by decide +kernel) rfl) pa_nil))))) (pw_or1 (pt_not (pt_chain op_le op_le pe_int (pe_callB call_len (by rfl) T.len (by decide +kernel) (pa_cons (pv 0) pa_nil)) pe_int))))) (pss_one (ps_ret pe_bl)) pss_nil)
   (pss_one (ps_ret (pe_callB (cr_all rfl) (by rfl) T.all (by decide +kernel) (pa_cons (pe_lc (own := [("letter", 1)]) rfl scIs_name.nd (pi_str (pv 0)) (blkOk_by (own := [("letter", 1)]) (N := nIs_name) (sc := defScope sIs_name) (by decide +kernel)) (fun _ _ _ _ _ => (pg_name (i := 1) scIs_name.nd rfl (Or.inl rfl))) (fun _ _ _ _ _ => pts_nil) (fun _ _ _ _ _ => (pe_cmpR op_in_sign (pv 1) (pe_glob (v := .str smallS) (by rfl) hsm ⟨_, rfl⟩) (by rfl)))) pa_nil))))), ?_⟩
  refine ⟨_, rfl, _, _, _, _, _, rfl, .ty "str", hk.1, kit_str hk.2.1, _, rfl, ?_⟩
  by_cases en : n = "str"
  ·subst en
   obtain ⟨z, rfl⟩ := kd_is_str hk
   have hl := hk.2.2 z rfl
   refine ⟨_, rfl, _, _, rfl, ⟨hl, rfl⟩, _, _, rfl, rfl, _, rfl, ?_⟩
   have e0 : isNm (.str z) = (decide (1 ≤ z.length) && decide (z.length ≤ 10) && z.cps.toList.all fun c => decide (c ∈ smallS.cps.toList)) := rfl
   by_cases h1 : (1 : Int) ≤ (z.length : Int)
   ·rw [decide_eq_true h1]
    refine ⟨_, _, rfl, rfl, _, rfl, ?_⟩
    by_cases h2 : (z.length : Int) ≤ 10
    ·rw [decide_eq_true h2]
     refine ⟨_, rfl, z, rfl, fun D1 hD1 => lc_pureS inSm (by omega) (fun _ => rfl) (fun y H2 hy s2 Q2 q2 => ?_) hD1 (fun H2 s2 h2' => ?_)⟩
     ·obtain ⟨c, hc, rfl⟩ := List.mem_map.mp hy
      exact ⟨_, rfl, c, smallS, rfl, rfl, q2 H2 (Same.refl _)⟩
     ·rw [inSm_signs] at h2'
      refine ⟨D1, _, rfl, SqL.of h2', ?_⟩
      rw [e0, decide_eq_true (show 1 ≤ z.length by omega), decide_eq_true (show z.length ≤ 10 by omega)] at q
      have := q H2 s2
      rw [List.all_map]
      exact this
    ·rw [decide_eq_false h2]
     rw [e0, decide_eq_false (show ¬ z.length ≤ 10 by omega), Bool.and_false] at q
     exact q H (Same.refl _)
   ·rw [decide_eq_false h1]
    rw [e0, decide_eq_false (show ¬ 1 ≤ z.length by omega)] at q
    exact ⟨_, rfl, q H (Same.refl _)⟩
  ·have e1 : (n == "str") = false := beq_eq_false_iff_ne.mpr en
   have e2 : isNm x = false := by
    have hn := kd_not_str hk en
    cases x with
    | str z => exact absurd rfl (hn z)
    | _ => rfl
   rw [e1]
   rw [e2] at q
   exact q H (Same.refl _)
end
end
section
def insAll {κ : Type} [DecidableEq κ] (l : List κ) : List κ := l.foldl (fun acc k => insG k acc) []
theorem paired_getR {α β : Type} {R : α → β → Prop} : ∀ {ls : List α} {l : List β} {i : Nat} {y : β}, Paired R ls l → l[i]? = some y → ∃ x, ls[i]? = some x ∧ R x y
 | _, _, _, _, .nil, e => by simp at e
 | _, _, 0, _, .cons r _, e => by simp at e; subst e; exact ⟨_, rfl, r⟩
 | _, _, i + 1, y, .cons _ t, e => by
  obtain ⟨u, h1, h2⟩ := paired_getR (i := i) (y := y) t (by simpa using e)
  exact ⟨u, by simpa using h1, h2⟩
theorem insAll_snoc {κ : Type} [DecidableEq κ] (l : List κ) (k : κ) : insAll (l ++ [k]) = insG k (insAll l) := by
 unfold insAll
 rw [List.foldl_append]
 rfl
theorem insG_mem {κ : Type} [DecidableEq κ] (k x : κ) (l : List κ) : x ∈ insG k l ↔ x = k ∨ x ∈ l := by
 unfold insG
 split
 ·rename_i h
  constructor
  ·exact .inr
  ·rintro (rfl | h')
   ·exact h
   ·exact h'
 ·rw [List.mem_cons]
theorem insG_nodup {κ : Type} [DecidableEq κ] {k : κ} {l : List κ} (h : l.Nodup) : (insG k l).Nodup := by
 unfold insG
 split
 ·exact h
 ·rename_i hk
  exact List.nodup_cons.mpr ⟨hk, h⟩
theorem insG_len {κ : Type} [DecidableEq κ] (k : κ) (l : List κ) : (insG k l).length ≤ l.length + 1 := by
 unfold insG
 split
 ·omega
 ·rw [List.length_cons]
  omega
theorem fold_mem {κ : Type} [DecidableEq κ] (x : κ) : ∀ (l acc : List κ), x ∈ l.foldl (fun acc k => insG k acc) acc ↔ x ∈ l ∨ x ∈ acc
 | [], acc => by simp
 | k :: r, acc => by
  rw [List.foldl_cons, fold_mem x r, insG_mem, List.mem_cons]
  constructor
  ·rintro (h | h | h)
   ·exact .inl (.inr h)
   ·exact .inl (.inl h)
   ·exact .inr h
  ·rintro ((h | h) | h)
   ·exact .inr (.inl h)
   ·exact .inl h
   ·exact .inr (.inr h)
theorem fold_nodup {κ : Type} [DecidableEq κ] : ∀ (l acc : List κ), acc.Nodup → (l.foldl (fun acc k => insG k acc) acc).Nodup
 | [], _, h => h
 | _ :: r, _, h => fold_nodup r _ (insG_nodup h)
theorem fold_len {κ : Type} [DecidableEq κ] : ∀ (l acc : List κ), (l.foldl (fun acc k => insG k acc) acc).length ≤ acc.length + l.length
 | [], acc => by simp
 | k :: r, acc => by
  have h1 := fold_len r (insG k acc)
  have h2 := insG_len k acc
  rw [List.foldl_cons, List.length_cons]
  omega
theorem insAll_mem {κ : Type} [DecidableEq κ] (x : κ) (l : List κ) : x ∈ insAll l ↔ x ∈ l := by
 unfold insAll
 rw [fold_mem]
 simp
theorem insAll_nodup {κ : Type} [DecidableEq κ] (l : List κ) : (insAll l).Nodup := fold_nodup l [] List.nodup_nil
theorem insAll_len {κ : Type} [DecidableEq κ] (l : List κ) : (insAll l).length ≤ l.length := by
 have := fold_len l []
 simpa [insAll] using this
section
variable {P : Program} {w : World} {κ : Type} [DecidableEq κ] {knd : PySem.KeyKind P w κ} {A : Around} {E : Value → Shared → Prop} {s : Shared}
theorem upd_keys {I : Addr} {fp wr : List Addr} {G : Array GenState → Array GenState → Prop} {n : Nat} {Pv : Nat → Value → Prop} {St : Nat → Shared → Prop} {R : Result → Shared → Prop}
  (W : WalksS P w A.in1 I fp wr G n Pv St) (S : Addr) (hSf : S ∉ fp) (ks : List κ) (hn : n = ks.length) (hfew : ks.length + 1 < scanBound) (hval : ∀ i v, Pv i v → ∃ k, ks[i]? = some k ∧ knd.is k v = true ∧ v.scannable = true)
  (h0 : Heap) (hS0 : h0.get? S = none) (hw0 : ∀ b ∈ wr, h0.get? b = none) :
  ∀ (k i : Nat) (s : Shared), n - i = k → i ≤ n → St i s → (∀ b o, h0.get? b = some o → s.heap.get? b = some o) → SetG knd s.heap S (insAll (ks.take i)) →
   (∀ s', Moved (S :: wr) G s s' → SetG knd s'.heap S (insAll ks) → (∀ b o, h0.get? b = some o → s'.heap.get? b = some o) → R (.ok (.ret .none)) s') →
   codeAny (model P w) A (.builtin "set.update.loop" ⟨[.ref S, .ref I], []⟩) R s := by
 have hSw : S ∉ wr := fun h => hSf (W.sub _ h)
 have hsub : ∀ b ∈ wr, b ∈ S :: wr := fun b hb => List.mem_cons_of_mem _ hb
 have keepM : ∀ {s s' : Shared}, Moved wr G s s' → (∀ b o, h0.get? b = some o → s.heap.get? b = some o) → ∀ b o, h0.get? b = some o → s'.heap.get? b = some o := fun hm hkp b o e =>
  hm.heap b o (fun hb => by rw [hw0 b hb] at e; cases e) (hkp b o e)
 intro k
 induction k with
 | zero =>
  intro i s hk' hi hst hkp hS hR
  have hin : i = n := by omega
  subst hin
  refine codeAny_builtin F.entry_set_update_loop ?_
  rw [Around.under_plainId F.plain_set_update_loop _]
  show wpAny _ A.in1 (pyNext (.ref I) >>= _) _ _ s
  refine wpAny_bind (W.done s _ _ hst fun s' hm => ?_)
  show wpAny _ A.in1 (ret Value.none) _ _ s'
  rw [hn, List.take_length] at hS
  exact wpAny_pure (hR s' (hm.mono hsub) (hS.at fun o e => hm.heap S o hSw e) (keepM hm hkp))
 | succ k ih =>
  intro i s hk' hi hst hkp hS hR
  have hlt : i < n := by omega
  refine codeAny_builtin F.entry_set_update_loop ?_
  rw [Around.under_plainId F.plain_set_update_loop _]
  show wpAny _ A.in1 (pyNext (.ref I) >>= _) _ _ s
  refine wpAny_bind (W.item i s _ _ hlt hst fun v s' hP hst' hm => ?_)
  obtain ⟨ky, hky, his, hsc⟩ := hval i v hP
  have hkp' := keepM hm hkp
  have hS' : SetG knd s'.heap S (insAll (ks.take i)) := hS.at fun o e => hm.heap S o hSw e
  have hroom : (insAll (ks.take i)).length + 1 < scanBound := by
   have h1 := insAll_len (ks.take i)
   rw [List.length_take] at h1
   omega
  show wpAny _ A.in1 (holding [v] (setAdd S v) >>= _) _ _ s'
  refine wpAny_bind (wpAny_holding ?_)
  unfold setAdd
  refine wpAny_holding ?_
  refine wpAny_bind (knd.pyHash (k := ky) his ?_)
  refine addG_hashed (knd := knd) (s := { s' with toks := s'.toks + 1 }) his hsc hS' hroom fun b h' hsb hS2 => ?_
  have e2 : insG ky (insAll (ks.take i)) = insAll (ks.take (i + 1)) := by
   rw [← insAll_snoc, List.take_add_one, hky]
   rfl
  rw [e2] at hS2
  have hkp2 : ∀ b o, h0.get? b = some o → h'.get? b = some o := fun b o e => (hsb.2 b (fun z => by rw [z, hS0] at e; cases e)).trans (hkp' b o e)
  refine wpAny_pure ⟨plainId_quiet F.plain_set_update_loop _, ih (i + 1) _ (by omega) hlt (W.frame _ s' _ _ hst' (Nat.le_add_right _ _) fun b hb o e => ?_) hkp2 hS2 fun s'' hm'' hS'' hkp'' => ?_⟩
  ·rw [hsb.2 b (fun h : b = S => hSf (by rw [← h]; exact hb))]
   exact e
  ·refine hR s'' (Moved.trans W.gtrans ((hm.mono hsub).then_heap (Nat.le_add_right _ _) fun b o hb e => ?_) hm'') hS'' hkp''
   rw [hsb.2 b (fun h : b = S => hb (by rw [h]; exact List.mem_cons_self))]
   exact e
/-- set(xs) of a list: what the loop does is said by the caller -/
theorem call_set_shell {l : Addr} {items : Array Value} (Pst : Heap → Prop) {Q : Value → Shared → Prop} (hh : A.handled = none) (hl : s.heap.IsList l items)
  (loop : ∀ {A' : Around} {I : Addr} {fp wr : List Addr} {G : Array GenState → Array GenState → Prop} {Pv : Nat → Value → Prop} {St : Nat → Shared → Prop} {R : Result → Shared → Prop} (W : WalksS P w A'.in1 I fp wr G items.size Pv St) (hval : ∀ (i : Nat) v, Pv i v → items[i]? = some v)
   (hSf : s.heap.objs.size ∉ fp) (hw0 : ∀ b ∈ wr, s.heap.get? b = none) (hu : A'.in1.units ≤ A.units + 6) (s2 : Shared) (st : St 0 s2) (kp : ∀ b o, s.heap.get? b = some o → s2.heap.get? b = some o)
   (fr : s2.heap.get? s.heap.objs.size = some { cls := .type "set", dict := none, data := .set #[] 0 (.fresh 0 0 (!w.params.followText "set-order")) }) (k : ∀ s', Moved (s.heap.objs.size :: wr) G s2 s' → Pst s'.heap → (∀ b o, s.heap.get? b = some o → s'.heap.get? b = some o) → R (.ok (.ret .none)) s'),
   codeAny (model P w) A' (.builtin "set.update.loop" ⟨[.ref s.heap.objs.size, .ref I], []⟩) R s2)
  (h : ∀ (h' : Heap) (tk : Nat), Pst h' → (∀ b o, s.heap.get? b = some o → h'.get? b = some o) → Q (.ref s.heap.objs.size) { s with heap := h', toks := tk }) :
  wpAny (model P w) A (call (.type "set") [.ref l]) Q E s := by
 obtain ⟨c, tl, hmro⟩ := F.called_set.mro
 have hmade := F.called_set.made
 have hsub := F.called_set.sub
 refine wpAny_call (codeAny_of_tree ?_)
 show wpAny _ _ (callAny (.type "set") _) _ _ _
 refine wpAny_pure ⟨Code.quiet_builtin _ (by decide +kernel), codeAny_builtin F.entry_type_call ?_⟩
 rw [Around.under_plain (weight_type_call_type "set" [.ref l] []) rfl]
 have h1 := F.called_set.notType
 have h2 := F.called_set.canCreate
 have hct := F.typeCall_set_1 (.ref l)
 repeat (any_goals (first | assumption | wp_step))
 refine codeAny_mono (code_set_led1 (.ref l) (E := E) (Q₁ := fun obj s₁ => obj = .ref s.heap.objs.size ∧ s₁ = { s with heap := s.heap.push { cls := .type "set", dict := none, data := .set #[] 0 (.fresh 0 0 (!w.params.followText "set-order")) } }) ⟨rfl, rfl⟩) fun r s₁ hr => ?_
 cases r with
 | error e => exact hr
 | ok fl =>
  cases fl with
  | ret obj =>
   obtain ⟨rfl, rfl⟩ := hr
   have hS : (s.heap.push { cls := .type "set", dict := none, data := .set #[] 0 (.fresh 0 0 (!w.params.followText "set-order")) }).get? s.heap.objs.size = some { cls := .type "set", dict := none, data := .set #[] 0 (.fresh 0 0 (!w.params.followText "set-order")) } := Heap.get?_push_size _ rfl
   have hT : Shared.TypeIs { s with heap := s.heap.push { cls := .type "set", dict := none, data := .set #[] 0 (.fresh 0 0 (!w.params.followText "set-order")) } } (.ref s.heap.objs.size) "set" := ⟨_, hS, rfl⟩
   have hli := F.called_set.init.lookup
   have hbi := F.called_set.init.bind (.ref s.heap.objs.size)
   repeat (any_goals (first | assumption | wp_step))
   refine codeAny_mono (codeAny_call_builtin (R := wants (fun r s₂ => r = .none ∧ ∃ h' tk, s₂ = { s with heap := h', toks := tk } ∧ Pst h' ∧
     (∀ b o, s.heap.get? b = some o → h'.get? b = some o)) E) F.called_set.init.plain F.entry_set_init (check_set_init_1 hT ?_)) fun r₂ s₂ hr₂ => ?_
   ·obtain ⟨ol, hol, hcl, nl, hdl⟩ := hl
    obtain ⟨ocls, odict, odata, oslots⟩ := ol
    simp only at hcl hdl
    subst hcl; subst hdl
    have hol' : (s.heap.push { cls := .type "set", dict := none, data := .set #[] 0 (.fresh 0 0 (!w.params.followText "set-order")) }).get? l = some { cls := .type "list", dict := odict, data := .seq items nl, slots := oslots } := Heap.get?_push_of_some _ hol
    have hsls := F.sub_list_set
    have hslf := F.sub_list_frozenset
    have hne : (Value.type "list" == Value.type "dict") = false := by decide
    have hl1 : (s.heap.push { cls := .type "set", dict := none, data := .set #[] 0 (.fresh 0 0 (!w.params.followText "set-order")) }).IsList l items := ⟨_, hol', rfl, nl, rfl⟩
    unfold Builtin.«set.__init__» noKeywords Builtin.Frozenset.updateFrom
    generalize hPI : pyIter = PI
    wp_walk
    subst hPI
    refine wpAny_pyIter_list hl1 ?_
    refine wpAny_bind (wpAny_runValue ?_)
    have hlS : l < s.heap.objs.size := Heap.lt_size hol
    have hh3 : A.in1.in1.in1.handled = none := by simp [hh]
    have hz1 : (s.heap.push { cls := .type "set", dict := none, data := .set #[] 0 (.fresh 0 0 (!w.params.followText "set-order")) }).objs.size = s.heap.objs.size + 1 := Heap.size_push ..
    have hneI : l ≠ (s.heap.push { cls := .type "set", dict := none, data := .set #[] 0 (.fresh 0 0 (!w.params.followText "set-order")) }).objs.size := by
     rw [Heap.size_push]
     exact Nat.ne_of_lt (Nat.lt_succ_of_lt hlS)
    have hSf : s.heap.objs.size ∉ [(s.heap.push { cls := .type "set", dict := none, data := .set #[] 0 (.fresh 0 0 (!w.params.followText "set-order")) }).objs.size, l] := by
     rw [Heap.size_push]
     simp only [List.mem_cons, List.mem_singleton, List.not_mem_nil, or_false, not_or]
     exact ⟨Nat.ne_of_lt (Nat.lt_succ_self _), Nat.ne_of_gt hlS⟩
    have none_of : ∀ b, s.heap.objs.size ≤ b → s.heap.get? b = none := fun b hb => by
     cases q : s.heap.get? b with
     | none => rfl
     | some o => exact absurd (Nat.lt_of_lt_of_le (Heap.lt_size q) hb) (Nat.lt_irrefl _)
    refine loop ((Walks.list hh3 _ l hneI items).toS) (fun i v hv => hv) hSf (fun b hb => none_of b (by
      rw [List.mem_singleton.mp hb, Heap.size_push]
      exact Nat.le_succ _)) (by simp only [Around.in1_units]; omega) _
     ⟨⟨_, Heap.get?_push_size _ rfl, rfl, rfl⟩, (hl1.push _)⟩ (fun b o e => Heap.get?_push_of_some _ (Heap.get?_push_of_some _ e)) (Heap.get?_push_of_some _ hS) ?hR
    intro s' hm hS' hkp
    obtain ⟨h', g2, d', tk', os'⟩ := s'
    have eg : g2 = s.gens := hm.gens
    have ed : d' = s.drawn := hm.drawn
    have eo : os' = s.os := hm.os
    subst eg; subst ed; subst eo
    show wpAny _ _ _ _ _ _
    refine wpAny_pure ?_
    show wpAny _ _ (ret Value.none) _ _ _
    exact wpAny_pure ⟨rfl, h', tk', rfl, hS', hkp⟩
   ·cases r₂ with
    | error e => exact hr₂
    | ok fl₂ =>
     cases fl₂ with
     | ret r =>
      obtain ⟨rfl, h', tk, rfl, hS', hk'⟩ := hr₂
      repeat (any_goals (first | assumption | wp_step))
      exact h h' _ hS' hk'
     | _ => exact hr₂.elim
  | _ => exact hr.elim
theorem call_setG {l : Addr} {items : Array Value} (ks : List κ) {Q : Value → Shared → Prop} (hh : A.handled = none) (hl : s.heap.IsList l items) (hit : Paired (fun k (v : Value) => knd.is k v = true ∧ v.scannable = true) ks items.toList) (hfew : ks.length + 1 < scanBound)
  (h : ∀ (h' : Heap) (tk : Nat), SetG knd h' s.heap.objs.size (insAll ks) → (∀ b o, s.heap.get? b = some o → h'.get? b = some o) → Q (.ref s.heap.objs.size) { s with heap := h', toks := tk }) :
  wpAny (model P w) A (call (.type "set") [.ref l]) Q E s := by
 have hisz : items.size = ks.length := by
  have q := Paired.length hit
  rw [Array.length_toList] at q
  exact q.symm
 have none0 : s.heap.get? s.heap.objs.size = none := by
  cases q : s.heap.get? s.heap.objs.size with
  | none => rfl
  | some o => exact absurd (Heap.lt_size q) (Nat.lt_irrefl _)
 refine call_set_shell (fun h' => SetG knd h' s.heap.objs.size (insAll ks)) hh hl (fun W hval hSf hw0 _ s2 st kp fr k => ?_) h
 have fr0 : SetG knd (s.heap.push { cls := .type "set", dict := none, data := .set #[] 0 (.fresh 0 0 (!w.params.followText "set-order")) }) s.heap.objs.size [] := SetG.fresh
 refine upd_keys (knd := knd) W s.heap.objs.size hSf ks hisz hfew (fun i v hv => ?_) s.heap none0 hw0 (items.size - 0) 0 s2 (by omega) (Nat.zero_le _) st kp (fr0.at fun o e => ?_) k
 ·have q : items.toList[i]? = some v := by rw [Array.getElem?_toList]; exact hval i v hv
  exact paired_getR (R := fun k (v : Value) => knd.is k v = true ∧ v.scannable = true) hit q
 ·rw [Heap.get?_push_size _ rfl] at e
  rw [← e]
  exact fr
end
/-- set(row of texts) -/
def rSetOfS (K : PySem.W.Frag) (P : Program) (w : World) : List V → Hp → VK → Prop := fun xs H Q => ∃ (l : Addr) (zs : List Str), xs = [.ref l] ∧ SqL K H l (zs.map V.str) ∧ zs.length ≤ 100 ∧ ∀ a, H a = none → Q (.ref a) (upd H a (SetKo P w a ((insAll zs).map Sum.inr)))
theorem insG_map (z : Str) (l : List Str) : insG (Sum.inr z : Key) (l.map Sum.inr) = (insG z l).map Sum.inr := by
 unfold insG
 by_cases h : z ∈ l
 ·rw [if_pos h, if_pos (List.mem_map.mpr ⟨z, h, rfl⟩)]
 ·rw [if_neg h, if_neg (fun m => by
   obtain ⟨y, hy, e⟩ := List.mem_map.mp m
   cases e
   exact h hy)]
  rfl
theorem insAll_map (zs : List Str) : insAll (zs.map (Sum.inr : Str → Key)) = (insAll zs).map Sum.inr := by
 have key : ∀ (l acc : List Str), (l.map (Sum.inr : Str → Key)).foldl (fun acc k => insG k acc) (acc.map Sum.inr) = (l.foldl (fun acc k => insG k acc) acc).map Sum.inr := by
  intro l
  induction l with
  | nil => intro acc; rfl
  | cons z r ih =>
   intro acc
   rw [List.map_cons, List.foldl_cons, List.foldl_cons, insG_map, ih]
 exact key zs []
section
variable {X : Cx}
theorem cr_setOfS (hc : X.calm = true) : CallR X (.type "set") (rSetOfS X.K X.prog X.w) := by
 intro pins s σ H xs us Q I r h
 obtain ⟨l, zs, rfl, hl, hz, q⟩ := h
 rw [Vals.ref1 r]
 obtain ⟨its, rv, pl, hsz⟩ := I.list hl
 have hn : H s.heap.objs.size = none := I.hok.fresh (Nat.le_refl _)
 refine call_setG (knd := mixKind X.prog X.w) (zs.map Sum.inr) (I.ok.hd hc) pl.isList ?_ (by rw [List.length_map]; exact Nat.lt_of_le_of_lt (Nat.succ_le_succ hz) (by decide)) fun h' tk R k => ?_
 ·rw [List.toList_toArray]
  clear hl hsz pl q r hz
  induction zs generalizing its with
  | nil =>
   cases rv
   exact .nil
  | cons z r ih =>
   cases rv with
   | cons h1 h2 => exact .cons (kV_sc (k := .inr z) h1) (ih _ h2)
 ·rw [insAll_map] at R
  exact ⟨.ref s.heap.objs.size, _, I.laid (t' := tk) k (Nat.le_refl _) (setKo_new R), rfl, q _ hn⟩
end
end
section
theorem hu70 {A : Around} {k : Nat} (hr : Room k A) : A.units + 70 < cLine := by
 have := hr.un
 omega
def leS (a b : Str) : Bool := decide (a.cps.toList ≤ b.cps.toList)
theorem str_ext {a b : Str} (h : a.cps.toList = b.cps.toList) : a = b := by
 cases a with
 | mk x =>
  cases b with
  | mk y =>
   have : x = y := Array.toList_inj.mp h
   rw [this]
theorem leS_trans : ∀ x y z, leS x y = true → leS y z = true → leS x z = true := fun x y z h1 h2 => decide_eq_true (List.le_trans (of_decide_eq_true h1) (of_decide_eq_true h2))
theorem leS_total : ∀ x y, (leS x y || leS y x) = true := fun x y => by
 rw [Bool.or_eq_true]
 rcases List.le_total x.cps.toList y.cps.toList with h | h
 ·exact .inl (decide_eq_true h)
 ·exact .inr (decide_eq_true h)
theorem leS_anti : ∀ x y, leS x y = true → leS y x = true → x = y := fun x y h1 h2 => str_ext (List.le_antisymm (of_decide_eq_true h1) (of_decide_eq_true h2))
theorem sortS_perm {l l' : List Str} (h : l.Perm l') : l.mergeSort leS = l'.mergeSort leS := by
 refine PySem.W.Srt.the_of_perm leS leS_trans leS_total leS_anti ((List.mergeSort_perm l leS).trans h) ?_
 exact List.pairwise_mergeSort leS_trans leS_total l
theorem srtD_strs (ys : List Str) : srtD (ys.map fun z => (V.str z, PyData.str z)) = (ys.mergeSort leS).map V.str := by
 unfold srtD
 have e : ((ys.map fun z => (V.str z, PyData.str z)).mergeSort (PySem.W.dataLe false fun z : V × PyData => z.2)) = (ys.mergeSort leS).map fun z => (V.str z, PyData.str z) := by
  refine (PySem.W.sort_maps (fun z => (V.str z, PyData.str z)) fun a _ b _ => ?_).symm
  have := congrFun (congrFun (PySem.W.dataLe_str (fun z : Str => z)) a) b
  exact this.symm
 rw [e, List.map_map]
 rfl
theorem nodup_mem_perm {α : Type} [DecidableEq α] : ∀ {l l' : List α}, l.Nodup → l'.Nodup → (∀ x, x ∈ l ↔ x ∈ l') → l.Perm l'
 | [], l', _, _, h => by
  cases l' with
  | nil => exact .nil
  | cons x r => exact absurd ((h x).mpr (by simp)) (by simp)
 | x :: r, l', n1, n2, h => by
  have hx : x ∈ l' := (h x).mp (by simp)
  refine List.Perm.trans (List.Perm.cons x ?_) (List.perm_cons_erase hx).symm
  refine nodup_mem_perm (List.nodup_cons.mp n1).2 (n2.erase x) fun y => ?_
  rw [n2.mem_erase_iff]
  constructor
  ·intro hy
   exact ⟨fun e => (List.nodup_cons.mp n1).1 (e ▸ hy), (h y).mp (by simp [hy])⟩
  ·rintro ⟨e, hy⟩
   rcases List.mem_cons.mp ((h y).mpr hy) with q | q
   ·exact absurd q e
   ·exact q
theorem paired_get {α β : Type} {R : α → β → Prop} : ∀ {xs : List α} {ts : List β} {i : Nat} {x : α}, Paired R xs ts → xs[i]? = some x → ∃ t, ts[i]? = some t ∧ R x t
 | _, _, _, _, .nil, e => by simp at e
 | _, _, 0, _, .cons r _, e => by simp at e; subst e; exact ⟨_, rfl, r⟩
 | _, _, i + 1, x, .cons _ t, e => by
  obtain ⟨u, h1, h2⟩ := paired_get (i := i) (x := x) t (by simpa using e)
  exact ⟨u, by simpa using h1, h2⟩
theorem name_sok {z : Str} (h : NameOk z) : PyData.strOk z = true := by
 unfold PyData.strOk
 rw [Array.all_eq_true_iff_forall_mem]
 intro c hc
 have h1 : ∀ c ∈ smallS.cps.toList, c < 0x110000 := by decide +kernel
 exact decide_eq_true (h1 c (h.2.2 c (by simpa using hc)))
theorem nmB_iff (z : Str) : nmB z = true ↔ NameOk z := by
 unfold nmB NameOk
 simp only [Bool.and_eq_true, decide_eq_true_eq, List.all_eq_true]
 constructor
 ·rintro ⟨⟨h1, h2⟩, h3⟩
  exact ⟨h1, h2, h3⟩
 ·rintro ⟨h1, h2, h3⟩
  exact ⟨⟨h1, h2⟩, h3⟩
theorem take_next {α : Type} {l : List α} {i : Nat} {x : α} (h : l[i]? = some x) : l.take (i + 1) = l.take i ++ [x] := by
 rw [List.take_add_one, h]
 rfl
structure Wd (p : Addr) (S0 H0 S H : Hp) : Prop where
 pl : Pool S H p
 gr : Gr p S0 H0 S H
theorem Wd.alloc {p : Addr} {S0 H0 S H : Hp} {a : Addr} (w : Wd p S0 H0 S H) (n : H a = none) (o : HO) : Wd p S0 H0 (upd S a o) (upd H a o) ∧ Same S (upd S a o) ∧ upd S a o a = some o :=
 ⟨⟨w.pl.new n, w.gr.new w.pl.ss n⟩, same_upd (w.pl.ss.free n), upd_same⟩
theorem Wd.ss {p : Addr} {S0 H0 S H : Hp} (w : Wd p S0 H0 S H) : Same S H := w.pl.ss
theorem Wd.put {p l : Addr} {S0 H0 S H : Hp} {o : HO} (w : Wd p S0 H0 S H) (n0 : H0 l = none) (sl : S l = none) (nlp : l ≠ p) : Wd p S0 H0 S (upd H l o) := ⟨w.pl.put sl nlp, w.gr.put n0⟩
theorem Wd.fix {p l : Addr} {S0 H0 S H : Hp} {o : HO} (w : Wd p S0 H0 S H) (h : H l = some o) (n0 : H0 l = none) (sl : S l = none) (nlp : l ≠ p) : ∃ S', Wd p S0 H0 S' H ∧ Same S S' ∧ S' l = some o :=
 ⟨upd S l o, ⟨w.pl.fix h sl nlp, w.gr.fix n0 sl⟩, same_upd sl, upd_same⟩
theorem Wd.new {p : Addr} {S0 H0 S H : Hp} {a : Addr} (w : Wd p S0 H0 S H) (n : H a = none) (o : HO) : ∃ S', Wd p S0 H0 S' (upd H a o) ∧ Same S S' ∧ S' a = some o := ⟨_, w.alloc n o⟩
def Sz : Nat → PyData → Bool
 | 0 => fun d => match d with
  | .none => true
  | .bool _ => true
  | .int _ => true
  | .str z => PyData.strOk z && decide (z.length ≤ 1000)
  | _ => false
 | n + 1 => fun d => match d with
  | .none => true
  | .bool _ => true
  | .int _ => true
  | .str z => PyData.strOk z && decide (z.length ≤ 1000)
  | .list ds => decide (ds.length ≤ 900) && ds.all (Sz n)
  | .tuple ds => decide (ds.length ≤ 900) && ds.all (Sz n)
  | .dict _ => false
theorem lay_all {ds : List PyData} (h : ∀ d ∈ ds, d.canLay0 = true) : PyData.canLayAll0 ds = true := by
 induction ds with
 | nil => rfl
 | cons d r ih =>
  simp only [PyData.canLayAll0, h d (by simp), ih fun x hx => h x (by simp [hx]), Bool.and_true]
theorem depth_all {n : Nat} {ds : List PyData} (h : ∀ d ∈ ds, d.depth ≤ n) : PyData.depthAll ds ≤ n := by
 induction ds with
 | nil => simp [PyData.depthAll]
 | cons d r ih =>
  simp only [PyData.depthAll]
  exact Nat.max_le.mpr ⟨h d (by simp), ih fun x hx => h x (by simp [hx])⟩
theorem sz_lay : ∀ (n : Nat) (d : PyData), Sz n d = true → d.canLay0 = true ∧ d.depth ≤ n
 | 0, .none, _ => ⟨rfl, by simp [PyData.depth]⟩
 | 0, .bool _, _ => ⟨rfl, by simp [PyData.depth]⟩
 | 0, .int _, _ => ⟨rfl, by simp [PyData.depth]⟩
 | 0, .str z, h => by
  have h : (PyData.strOk z && decide (z.length ≤ 1000)) = true := h
  rw [Bool.and_eq_true] at h
  exact ⟨by simp only [PyData.canLay0]; exact h.1, by simp [PyData.depth]⟩
 | 0, .list _, h => by cases h
 | 0, .tuple _, h => by cases h
 | 0, .dict _, h => by cases h
 | n + 1, .none, _ => ⟨rfl, by simp [PyData.depth]⟩
 | n + 1, .bool _, _ => ⟨rfl, by simp [PyData.depth]⟩
 | n + 1, .int _, _ => ⟨rfl, by simp [PyData.depth]⟩
 | n + 1, .str z, h => by
  have h : (PyData.strOk z && decide (z.length ≤ 1000)) = true := h
  rw [Bool.and_eq_true] at h
  exact ⟨by simp only [PyData.canLay0]; exact h.1, by simp [PyData.depth]⟩
 | n + 1, .list ds, h => by
  have h : (decide (ds.length ≤ 900) && ds.all (Sz n)) = true := h
  rw [Bool.and_eq_true] at h
  have h2 := List.all_eq_true.mp h.2
  simp only [PyData.canLay0, PyData.depth]
  exact ⟨lay_all fun d hd => (sz_lay n d (h2 d hd)).1, Nat.succ_le_succ (depth_all fun d hd => (sz_lay n d (h2 d hd)).2)⟩
 | n + 1, .tuple ds, h => by
  have h : (decide (ds.length ≤ 900) && ds.all (Sz n)) = true := h
  rw [Bool.and_eq_true] at h
  have h2 := List.all_eq_true.mp h.2
  simp only [PyData.canLay0, PyData.depth]
  exact ⟨lay_all fun d hd => (sz_lay n d (h2 d hd)).1, Nat.succ_le_succ (depth_all fun d hd => (sz_lay n d (h2 d hd)).2)⟩
 | n + 1, .dict _, h => by cases h
theorem sz_shaped {n : Nat} {d : PyData} (h : Sz n d = true) (hn : n ≤ 64) : SeqAt.shaped d = true := by
 obtain ⟨h1, h2⟩ := sz_lay n d h
 show (d.canLay0 && decide (d.depth ≤ 64)) = true
 rw [h1, decide_eq_true (Nat.le_trans h2 hn)]
 rfl
mutual
theorem eqv_refl : ∀ (d : PyData), d.canLay0 = true → PyData.eqv d d = true
 | .none, _ => rfl
 | .bool b, _ => by simp [PyData.eqv]
 | .int i, _ => by simp [PyData.eqv]
 | .str x, _ => by simp [PyData.eqv]
 | .list ds, h => by simp only [PyData.eqv]; exact eqvAll_refl ds (by simpa only [PyData.canLay0] using h)
 | .tuple ds, h => by simp only [PyData.eqv]; exact eqvAll_refl ds (by simpa only [PyData.canLay0] using h)
 | .dict _, h => by simp [PyData.canLay0] at h
theorem eqvAll_refl : ∀ (ds : List PyData), PyData.canLayAll0 ds = true → PyData.eqvAll ds ds = true
 | [], _ => rfl
 | d :: r, h => by
  simp only [PyData.canLayAll0, Bool.and_eq_true] at h
  simp only [PyData.eqvAll, Bool.and_eq_true]
  exact ⟨eqv_refl d h.1, eqvAll_refl r h.2⟩
end
end
section
abbrev KS := List (Key × Str)
def vS (ks : KS) : List (Key × V) := ks.map fun p => (p.1, V.str p.2)
theorem vS_val (ks : KS) (k : Key) : valV (vS ks) k = ((ks.find? fun p => decide (p.1 = k)).map (·.2)).map V.str := by
 unfold valV vS
 induction ks with
 | nil => rfl
 | cons p r ih =>
  rw [List.map_cons, List.find?_cons, List.find?_cons]
  by_cases h : p.1 = k
  ·simp [h]
  ·simp only [h, decide_false]
   exact ih
def valS (ks : KS) (k : Key) : Option Str := (ks.find? fun p => decide (p.1 = k)).map (·.2)
theorem hits_S {A : Around} {s : Shared} {ls : KS} {vb : List (Key × Value)} (rb : KV (vS ls) vb) : ∀ {ks : KS} {va : List (Key × Value)}, KV (vS ks) va → PySem.W.KeqHits A s vb va (ks.all fun p => decide (valS ls p.1 = some p.2))
 | [], _, ra => by
  cases ra
  exact .nil
 | p :: r, va, ra => by
  cases ra with
  | @cons _ q _ qs h t =>
   obtain ⟨h1, h2⟩ := h
   obtain ⟨k, v⟩ := q
   have h1' : p.1 = k := h1
   have ih := hits_S (A := A) (s := s) rb t
   have rr := rb.val k
   rw [vS_val] at rr
   have e0 : (ls.find? fun q => decide (q.1 = k)).map (·.2) = valS ls k := rfl
   rw [e0] at rr
   rw [List.all_cons, h1']
   obtain ⟨tv, rfl⟩ := (show ∃ t, v = Value.str p.2 t from h2)
   cases hv : valS ls k with
   | none =>
    rw [hv] at rr
    have hn : valueAt vb k = none := by
     cases hq : valueAt vb k with
     | none => rfl
     | some y =>
      rw [hq] at rr
      exact rr.elim
    have := PySem.W.KeqHits.miss (A := A) (s := s) (v := Value.str p.2 tv) (r := qs) hn
    simpa using this
   | some z =>
    rw [hv] at rr
    obtain ⟨y, hy, ry⟩ := (show RelO (some (V.str z)) (valueAt vb k) from rr).some_of
    obtain ⟨ty, rfl⟩ := (show ∃ t, y = Value.str z t from ry)
    have hit := PySem.W.KeqHits.hit (A := A) (s := s) (v := Value.str p.2 tv) (e := p.2 == z) hy (SeqAt.EqAt.str_str p.2 tv z ty) ih
    have e1 : (p.2 == z) = decide (some z = some p.2) := by
     by_cases c : p.2 = z
     ·subst c
      simp
     ·have c' : ¬ some z = some p.2 := fun e => c (Option.some.inj e).symm
      rw [decide_eq_false c']
      exact beq_eq_false_iff_ne.mpr c
    rw [e1] at hit
    exact hit
section
variable {X : Cx}
theorem vS_len (ks : KS) : (vS ks).length = ks.length := List.length_map ..
end
end
section
def rawO (a : Addr) (e : DictEntry) (ep : Nat) : HO := .ext fun h => (a == sysModules) = false ∧ h.DictRaw a #[e] ep
def Itz (d : Addr) (od : Obj) (e : DictEntry) (ep : Nat) (k : V) : It :=
 ⟨fun i H => H d = some (.frz od (rawO d e ep)) ∧ i < 1, fun i H x H' => H' = H ∧ x = k, fun i H => H d = some (.frz od (rawO d e ep)) ∧ 1 ≤ i⟩
theorem frzR {X : Cx} {pins : List (Addr × Obj)} {σ : L2.St} {H : Hp} {s : Shared} {d : Addr} {od : Obj} {e : DictEntry} {ep : Nat} (I : L2.Inv X pins σ H s) (hd : H d = some (.frz od (rawO d e ep))) : s.heap.get? d = some od ∧ (d == sysModules) = false ∧ od.ExactDict ∧ od.data = .dict #[e] ep := by
 have h := I.hok d _ hd
 obtain ⟨h1, ⟨h2, o, h3, h4, h5⟩, _⟩ := h
 rw [h1] at h3
 cases h3
 exact ⟨h1, h2, h4, h5⟩
theorem turn_raw {P : Program} {w : World} {K : PySem.W.Frag} {tg : Expr} {d : Addr} {od : Obj} {e : DictEntry} {ep : Nat} {k : V} (it : Addr) (rk : RelV k e.key) : Turn P w K tg (Itz d od e ep k) [it] it (fun i h => h.IsKeyIter it d i 1 ep) where
 mem := by simp
 obj := fun i h st b hb => by
  have e : b = it := by simpa using hb
  subst e
  obtain ⟨oi, e, c, dd⟩ := st
  exact ⟨oi, e, fun v z => by rw [dd] at z; cases z⟩
 keep := fun i h h' st k => st.at fun oi e => k it (by simp) oi e
 item := by
  intro X hP hw hK hc i pins s σ H E I hf st hg
  subst hP hw hK
  obtain ⟨hd, hi⟩ := hg
  obtain ⟨f0, f1, f2, f3, f4, f5⟩ := hf it (by simp)
  obtain ⟨hgd, hs, hx, hdt⟩ := frzR I hd
  have hi0 : i = 0 := by omega
  subst hi0
  refine next_key_item st hgd hdt rfl rfl fun h' st' sb => ?_
  have I1 : Inv X pins σ H { s with heap := h' } := I.turned (t' := s.toks) (fun b ob hb e => (sb.2 b hb).trans e) f0 f1 f3 f4 f5
  obtain ⟨oi, e2, c, dd⟩ := id st'
  exact ⟨e.key, rfl, go_of (s := { s with heap := h' }) e2 c dd (by decide) ⟨k, H, I1, rk, ⟨rfl, rfl⟩, st', fun b hb => (hf b hb).1⟩⟩
 done := by
  intro X hP hw hK hc i pins s σ H E I hf st hg
  subst hP hw hK
  obtain ⟨hd, hi⟩ := hg
  obtain ⟨f0, f1, f2, f3, f4, f5⟩ := hf it (by simp)
  obtain ⟨hgd, hs, hx, hdt⟩ := frzR I hd
  exact next_key_end (I.ok.hd hc) st hgd hdt rfl hi fun h' eb => ⟨rfl, I.turned (t' := s.toks) (fun b ob hb e => eb b ob hb e) f0 f1 f3 f4 f5⟩
 self := fun A i s Q E st h => wpAny_pyIter_keyiter st h
def iKeysR (td : TE) : TI := fun σ H R => td σ H fun x H1 => ∃ d o, x = .ref d ∧ ((∃ kvs, H1 d = some (.frz o (.dK kvs)) ∧ R (Itk d o kvs) H1) ∨ ∃ e ep k, H1 d = some (.frz o (rawO d e ep)) ∧ RelV k e.key ∧ R (Itz d o e ep k) H1)
theorem pi_keysR {X : Cx} {tg e : Expr} {td : TE} (he : PE X e td) : PI X tg e (iKeysR td) := by
 refine ⟨fun pins s σ H R I h => ?_⟩
 refine thn (he.run pins s σ H _ I h) fun u s1 ⟨x, H1, I1, rx, d, o, ex, q⟩ => ?_
 subst ex
 obtain rfl : u = Value.ref d := rx
 rcases q with ⟨kvs, hd, q⟩ | ⟨e, ep, k, hd, rk, q⟩
 ·obtain ⟨hs, hgd, hx, es, ep, vs, hdt, hsz, kv, hm⟩ := I1.frzK hd
  refine iter_keys hs hgd hx hdt (pi_one (tk := s1.toks) I1 _ (turn_keys _ hdt) ⟨_, Heap.get?_push_size _ rfl, rfl, ?_⟩ q)
  rw [hsz] <;> rfl
 ·obtain ⟨hgd, hs, hx, hdt⟩ := frzR I1 hd
  exact iter_keys hs hgd hx hdt (pi_one (tk := s1.toks) I1 _ (turn_raw _ rk) ⟨_, Heap.get?_push_size _ rfl, rfl, rfl⟩ q)
end
section
theorem dv (a b : Str) : decide (V.str a = V.str b) = decide (a = b) := by
 by_cases h : a = b
 ·rw [h, decide_eq_true rfl, decide_eq_true rfl]
 ·rw [decide_eq_false h, decide_eq_false fun e => h (V.str.inj e)]
def strP (zs : List Str) : List (V × PyData) := zs.map fun z => (V.str z, PyData.str z)
theorem strP_snd (zs : List Str) : (strP zs).map (·.2) = zs.map PyData.str := by
 unfold strP
 rw [List.map_map]
 rfl
theorem strP_ok (zs : List Str) : PySem.W.AllAlike ((strP zs).map (·.2)) ∧ PySem.W.Sortable ((strP zs).map (·.2)) := by
 rw [strP_snd]
 exact ⟨PySem.W.AllAlike.of fun b b' => rfl, PySem.W.Sortable.others fun b => ⟨fun z => (by cases z), fun _ z => (by cases z)⟩⟩
/-- data of depth n or less -/
def Gn (K : PySem.W.Frag) (n : Nat) (S : Hp) (v : V) : Prop := ∃ d, Dp K S v d ∧ Sz n d = true
def Gd (K : PySem.W.Frag) (S : Hp) (v : V) : Prop := Gn K 6 S v ∧ ∀ t, v = .str t → t.length ≤ 800
section
variable {K : PySem.W.Frag} {S S' : Hp} {v : V} {n m : Nat} {a : Addr} {xs : List V}
theorem Gn.mono (h : Gn K n S v) (s : Same S S') : Gn K n S' v := by
 obtain ⟨d, h1, h2⟩ := h
 exact ⟨d, Dp.mono s h1, h2⟩
theorem Gd.mono (h : Gd K S v) (s : Same S S') : Gd K S' v := ⟨h.1.mono s, h.2⟩
end
end
section
structure InF (s₀ : Shared) (env : Env) (m cm : Str → Option Value) (s : Shared) : Prop where
 toInCall : InCall s₀ env.locals m s
 own : ∀ n c, env.kindOf n = some .cell → env.cells.lookup n = some c → s.heap.IsCell c (cm n) ∧ env.locals < c
 apart : env.cells.Pairwise fun x y => x.2 ≠ y.2
 all : ∀ n c, env.cells.lookup n = some c → ∃ v, s.heap.IsCell c v
 nloc : ∀ n c, env.cells.lookup n = some c → c ≠ env.locals
section
variable {M : Model} {A : Around} {E : Value → Shared → Prop} {s₀ s : Shared} {m cm : Str → Option Value} {env : Env}
theorem stLF {n : Str} {v : Value} {Q : Unit → Shared → Prop} (x : InF s₀ env m cm s) (hk : env.scope.kind = .function) (hl : env.kindOf n = some .local)
  (h : ∀ s', InF s₀ env (fun y => if y = n then some v else m y) cm s' → Q () s') : wpAny M A (storeName env n v) Q E s := by
 refine wpAny_storeName_local hl x.toInCall.ns (fun h' hn' hs' => h _ ⟨⟨?_, hn', fun b o e => ?_, x.toInCall.fresh⟩, fun k c hkk hc => ?_, x.apart, fun k c hc => ?_, x.nloc⟩) (by rw [hk]; rfl)
 ·obtain ⟨h₁, tk, rfl⟩ := x.toInCall.same
  exact ⟨h', _, rfl⟩
 ·exact hs'.extBut b o (Nat.ne_of_lt (Nat.lt_of_lt_of_le (Heap.lt_size e) x.toInCall.fresh)) (x.toInCall.keep b o e)
 ·obtain ⟨h1, h2⟩ := x.own k c hkk hc
  exact ⟨h1.sameBut hs' (Nat.ne_of_gt h2), h2⟩
 ·obtain ⟨v', h1⟩ := x.all k c hc
  exact ⟨v', h1.sameBut hs' (x.nloc k c hc)⟩
theorem stCF {n : Str} {c : Addr} {v : Value} {Q : Unit → Shared → Prop} (x : InF s₀ env m cm s) (hk : env.scope.kind = .function) (hl : env.kindOf n = some .cell) (hc : env.cells.lookup n = some c)
  (h : ∀ s', InF s₀ env m (fun y => if y = n then some v else cm y) s' → Q () s') : wpAny M A (storeName env n v) Q E s := by
 obtain ⟨hic, hLc⟩ := x.own n c hl hc
 refine wpAny_storeName_cell hk hl hc hic fun h' hc' hs' => h _ ⟨⟨?_, x.toInCall.ns.sameBut hs' (Nat.ne_of_lt hLc), fun b o e => ?_, x.toInCall.fresh⟩, fun k c' hkk hk' => ?_, x.apart, fun k c' hk' => ?_, x.nloc⟩
 ·obtain ⟨h₁, tk, rfl⟩ := x.toInCall.same
  exact ⟨h', _, rfl⟩
 ·exact hs'.extBut b o (Nat.ne_of_lt (Nat.lt_trans (Nat.lt_of_lt_of_le (Heap.lt_size e) x.toInCall.fresh) hLc)) (x.toInCall.keep b o e)
 ·by_cases hkn : k = n
  ·subst hkn
   rw [hc] at hk'
   cases hk'
   exact ⟨by simpa using hc', hLc⟩
  ·rw [if_neg hkn]
   obtain ⟨h1, h2⟩ := x.own k c' hkk hk'
   exact ⟨h1.sameBut hs' fun e => hkn (PySem.name_of_addr x.apart (PySem.mem_of_lookup hk') (e ▸ PySem.mem_of_lookup hc)), h2⟩
 ·by_cases e : c' = c
  ·subst e
   exact ⟨_, hc'⟩
  ·obtain ⟨v', h1⟩ := x.all k c' hk'
   exact ⟨v', h1.sameBut hs' e⟩
theorem bindF (f : Str × Value → PUnit → Sem (ForInStep PUnit)) (hf : ∀ n v u, f (n, v) u = (do storeName env n v; pure (.yield ⟨⟩))) (hk : env.scope.kind = .function) :
  ∀ (binds : List (Str × Value)) (m cm : Str → Option Value) (s : Shared) (Q : PUnit → Shared → Prop), InF s₀ env m cm s →
   (∀ x ∈ binds, env.kindOf x.1 = some .local ∨ (env.kindOf x.1 = some .cell ∧ (env.cells.lookup x.1).isSome = true)) →
   (∀ s', InF s₀ env (bindL env.kindOf binds m) (bindC env.kindOf binds cm) s' → Q ⟨⟩ s') → wpAny M A (forIn binds ⟨⟩ f) Q E s
 | [], m, cm, s, Q, x, _, h => by rw [List.forIn_nil]; exact wpAny_pure (h s x)
 | (n, v) :: r, m, cm, s, Q, x, hkind, h => by
  rw [List.forIn_cons, hf]
  have hr : ∀ y ∈ r, env.kindOf y.1 = some .local ∨ (env.kindOf y.1 = some .cell ∧ (env.cells.lookup y.1).isSome = true) := fun y hy => hkind y (List.mem_cons_of_mem _ hy)
  rcases hkind (n, v) List.mem_cons_self with hl | ⟨hl, hc⟩
  ·refine wpAny_bind (wpAny_bind (stLF x hk hl fun s' x' => wpAny_pure (bindF f hf hk r _ _ s' Q x' hr fun s'' x'' => h s'' ?_)))
   unfold bindL bindC
   rw [if_pos hl, if_pos hl]
   exact x''
  ·obtain ⟨c, hc⟩ := Option.isSome_iff_exists.mp hc
   have hnl : ¬ env.kindOf n = some .local := by rw [hl]; decide
   refine wpAny_bind (wpAny_bind (stCF x hk hl hc fun s' x' => wpAny_pure (bindF f hf hk r _ _ s' Q x' hr fun s'' x'' => h s'' ?_)))
   unfold bindL bindC
   rw [if_neg hnl, if_neg hnl]
   exact x''
end
/-- the cells of a frame: the closure's, and new ones -/
theorem cf_ok : ∀ (names : List (Str × NameKind)) (h : Heap) (lo : Nat) (cl acc : List (Str × Addr)), lo ≤ h.objs.size → (∀ p ∈ acc, p ∈ cl ∨ (h.IsCell p.2 none ∧ lo ≤ p.2)) → (∀ p ∈ acc, p.2 < h.objs.size) → (acc.Pairwise fun x y => x.2 ≠ y.2) →
  (∀ p ∈ cellsFrom h.objs.size names acc, p ∈ cl ∨ ((pushCells h names).IsCell p.2 none ∧ lo ≤ p.2)) ∧ ((cellsFrom h.objs.size names acc).Pairwise fun x y => x.2 ≠ y.2)
 | [], _, _, _, _, _, x, _, y => ⟨x, y⟩
 | (name, kind) :: r, h, lo, cl, acc, hlo, x, lt, y => by
  unfold pushCells cellsFrom
  split
  ·have := cf_ok r (h.push { cls := .type "cell", data := .cell none }) lo cl ((name, h.objs.size) :: acc) (by rw [Heap.size_push]; omega) (fun p hp => by
     rcases List.mem_cons.mp hp with e | hp
     ·subst e
      exact .inr ⟨⟨_, Heap.get?_push_size _ rfl, rfl⟩, hlo⟩
     ·rcases x p hp with z | ⟨z1, z2⟩
      ·exact .inl z
      ·exact .inr ⟨z1.keeps fun b o e => Heap.get?_push_of_some _ e, z2⟩) (fun p hp => by
     rw [Heap.size_push]
     rcases List.mem_cons.mp hp with e | hp
     ·subst e
      exact Nat.lt_succ_self _
     ·exact Nat.lt_succ_of_lt (lt p hp)) (List.pairwise_cons.mpr ⟨fun z hz e => by
      have hlt := lt z hz
      have e' : h.objs.size = z.2 := e
      rw [← e'] at hlt
      exact Nat.lt_irrefl _ hlt, y⟩)
   rwa [Heap.size_push] at this
  ·exact cf_ok r h lo cl acc hlo x lt y
section
variable {M : Model} {A : Around} {E : Value → Shared → Prop} {s : Shared}
theorem newEnvF {scope : Scope} {globals : Addr} {binds : List (Str × Value)} {qual : Str} {func : Option Addr} {code : Value} {builtins cc : Addr} {occ : Obj} {Q : Env → Shared → Prop}
  {v0 : Option Value} (hk : scope.kind = .function) (hfree : scope.names.lookup ("__class__" : Str) = some .free) (hcc : s.heap.get? cc = some occ) (hcv : occ.data = .cell v0)
  (hkind : ∀ x ∈ binds, scope.names.lookup x.1 = some .local ∨ (scope.names.lookup x.1 = some .cell ∧ ((cellsFrom (s.heap.objs.size + 1) scope.names [("__class__", cc)]).lookup x.1).isSome = true))
  (hQ : ∀ env, env = newEnv scope s.heap.objs.size globals (cellsFrom (s.heap.objs.size + 1) scope.names [("__class__", cc)]) qual func code none builtins →
   ∀ s', InF s env (bindL env.kindOf binds fun _ => none) (bindC env.kindOf binds fun _ => none) s' → Q env s') :
  wpAny M A (newFunctionEnv scope globals [("__class__", cc)] binds qual func code none builtins) Q E s := by
 simp only [newFunctionEnv, Option.isSome_none, Bool.false_eq_true, if_false]
 refine wpAny_bind (wpAny_alloc ?_)
 refine wpAny_bind (wpAny_layCells _ (fun name kind cells => by cases hkc : kind == NameKind.cell <;> simp [hkc]) _ _ _ _ ?_)
 have hlt : cc < s.heap.objs.size := Heap.lt_size hcc
 have ok := cf_ok scope.names (s.heap.push { cls := .type "frame", data := .dict #[] }) (s.heap.objs.size + 1) [("__class__", cc)] [("__class__", cc)] (by rw [Heap.size_push]; exact Nat.le_refl _) (fun p hp => .inl hp) (fun p hp => by
  rw [List.mem_singleton.mp hp, Heap.size_push]
  exact Nat.lt_succ_of_lt hlt) (List.pairwise_singleton _ _)
 rw [Heap.size_push] at ok
 rw [show ({ s with heap := s.heap.push { cls := .type "frame", data := .dict #[] } } : Shared).heap.objs.size = s.heap.objs.size + 1 from Heap.size_push ..]
 refine wpAny_bind (bindF (s₀ := s) (env := newEnv scope s.heap.objs.size globals (cellsFrom (s.heap.objs.size + 1) scope.names [("__class__", cc)]) qual func code none builtins)
  _ (fun _ _ _ => rfl) hk binds (fun _ => none) (fun _ => none) _ _
  ⟨⟨⟨_, _, rfl⟩, (Heap.Ns.new s.heap (.type "frame")).keeps (pushCells_keeps _ _), fun b o e => pushCells_keeps _ _ b o (Heap.get?_push_of_some _ e), Nat.le_refl _⟩,
   fun n c hkn hc => ?_, ok.2, fun n c hc => ?_, fun n c hc => ?_⟩
  hkind fun s' x => wpAny_pure (hQ _ rfl s' x))
 rotate_left
 ·rcases ok.1 (n, c) (PySem.mem_of_lookup hc) with h | h
  ·have e := List.mem_singleton.mp h
   cases e
   exact ⟨v0, _, pushCells_keeps _ _ _ _ (Heap.get?_push_of_some _ hcc), hcv⟩
  ·exact ⟨_, h.1⟩
 ·rcases ok.1 (n, c) (PySem.mem_of_lookup hc) with h | h
  ·have e := List.mem_singleton.mp h
   cases e
   exact Nat.ne_of_lt hlt
  ·exact Nat.ne_of_gt h.2
 rcases ok.1 (n, c) (PySem.mem_of_lookup hc) with h | h
 ·have e := List.mem_singleton.mp h
  cases e
  have hkn : scope.names.lookup ("__class__" : Str) = some .cell := hkn
  rw [hfree] at hkn
  cases hkn
 ·exact ⟨h.1, h.2⟩
end
/-- names: the parameters first; the class cell is the one free name -/
structure CScope (N P : List Str) (sc : Scope) : Prop where
 kind : sc.kind = .function
 co : sc.isCoroutine = false
 gen : sc.isGenerator = false
 nd : N.Nodup
 pre : N.take P.length = P
 par : ∀ x ∈ P, sc.names.lookup x = some .local ∨ sc.names.lookup x = some .cell
 free : ∀ y ∈ sc.names, y.2 = .free → y.1 = "__class__"
 cls : sc.names.lookup ("__class__" : Str) = some .free
 nown : ∀ y ∈ sc.names, y.2 = .cell → y.1 ≠ "__class__"
def envS (qual : Str) (scope : Scope) (L a cda cc : Addr) : Env :=
 { scope := scope, locals := L, globals := mainGlobals, cells := cellsFrom (L + 1) scope.names [("__class__", cc)], qual := qual ++ ".<locals>.", func := some a, code := .ref cda, frame := some L, builtins := builtinsNs }
theorem cf_keep : ∀ (names : List (Str × NameKind)) (n : Nat) (acc : List (Str × Addr)) {x : Str} {c : Addr}, (∀ y ∈ names, y.2 = .cell → y.1 ≠ x) → acc.lookup x = some c → (cellsFrom n names acc).lookup x = some c
 | [], _, _, _, _, _, h => h
 | (name, kind) :: r, n, acc, x, c, hn, h => by
  unfold cellsFrom
  split
  ·rename_i hk
   refine cf_keep r _ _ (fun y hy => hn y (List.mem_cons_of_mem _ hy)) ?_
   have ne : name ≠ x := hn (name, kind) List.mem_cons_self (beq_iff_eq.mp hk)
   rw [List.lookup_cons, show (x == name) = false from beq_eq_false_iff_ne.mpr (Ne.symm ne)]
   exact h
  ·exact cf_keep r _ _ (fun y hy => hn y (List.mem_cons_of_mem _ hy)) h
/-- the context of such a body, at its entry -/
def scx (CX : CXT) (P : Program) (w : World) (K : PySem.W.Frag) (mg : Str → Option Value) (base : Heap) (N : List Str) (qual : Str) (scope : Scope) (f cda cc : Addr) (A : Around) (outer : List Env) (s : Shared) (H : Hp) (E : XK) : Cx where
 prog := P
 w := w
 K := K
 mg := mg
 base := base
 A := A.deeper (envS qual scope s.heap.objs.size f cda cc)
 N := N
 s_0 := s
 H_0 := H
 env := envS qual scope s.heap.objs.size f cda cc
 outer := outer
 stack := envS qual scope s.heap.objs.size f cda cc :: outer
 ex := []
 calm := true
 fn := fun x => x != "__class__"
 pn := []
 xe := fun e s' => wpAny (model P w) (A.deeper (envS qual scope s.heap.objs.size f cda cc)) (leaving (envS qual scope s.heap.objs.size f cda cc) e) (fun _ s'' => CX outer H s E e s'') (fun e' s'' => CX outer H s E e' s'') s'
theorem inv_startS {CX : CXT} {P : Program} {w : World} {K : PySem.W.Frag} {mg : Str → Option Value} {base : Heap} {N ps : List Str} {qual : Str} {scope : Scope} {f cda cc : Addr} {occ : Obj} {A : Around} {outer : List Env} {s s1 : Shared} {H : Hp} {E : XK} {us : List Value} {vs : List V} {v0 : Option Value}
  (S : CScope N ps scope) (hd : A.handled = none) (e0 : Env0 P w K mg base A outer s H) (hl : vs.length = ps.length) (r : Vals vs us) (hcb : base.get? cc = some occ) (hcv : s.heap.IsCell cc v0)
  (x : InF s (envS qual scope s.heap.objs.size f cda cc) (bindL (envS qual scope s.heap.objs.size f cda cc).kindOf (ps.zip us) fun _ => none) (bindC (envS qual scope s.heap.objs.size f cda cc).kindOf (ps.zip us) fun _ => none) s1) :
  Inv (scx CX P w K mg base N qual scope f cda cc A outer s H E) [] (L2.start N vs) H s1 := by
 have hpl : ps.length ≤ N.length := by have := congrArg List.length S.pre; rw [List.length_take] at this; omega
 obtain ⟨h1, tk, rfl, hk⟩ := x.toInCall.done
 have hccS := e0.bs _ _ hcb
 have hlt : cc < s.heap.objs.size := Heap.lt_size hccS.1
 have noA : ∀ b : Addr, b ∉ (scx CX P w K mg base N qual scope f cda cc A outer s H E).ex := fun b z => absurd (show b ∈ ([] : List Addr) from z) (by simp)
 have ok := cf_ok scope.names (s.heap.push { cls := .type "frame", data := .dict #[] }) (s.heap.objs.size + 1) [("__class__", cc)] [("__class__", cc)] (by rw [Heap.size_push]; exact Nat.le_refl _) (fun p hp => .inl hp) (fun p hp => by
  rw [List.mem_singleton.mp hp, Heap.size_push]
  exact Nat.lt_succ_of_lt hlt) (List.pairwise_singleton _ _)
 rw [Heap.size_push] at ok
 have which : ∀ y c, (envS qual scope s.heap.objs.size f cda cc).cells.lookup y = some c → (y = "__class__" ∧ c = cc) ∨ s.heap.objs.size + 1 ≤ c := fun y c h => by
  rcases ok.1 (y, c) (PySem.mem_of_lookup h) with z | z
  ·have e := List.mem_singleton.mp z
   cases e
   exact .inl ⟨rfl, rfl⟩
  ·exact .inr z.2
 refine ⟨⟨e0.mod, S.kind, rfl, rfl, Nat.le_refl _, fun y z c h1 h2 => ?_, fun y hy => ?_, fun y c hf h => ?_, fun _ => hd, Around.frames_deeper e0.frames, .inr ⟨rfl, rfl⟩, fun b z => absurd z (noA b), e0.bs, e0.bsz, fun b _ _ => noA b, fun b z => absurd z (noA b), e0.funs, e0.frf⟩,
  rfl, e0.bare, Un.kept hk, ⟨_, x.toInCall.ns, fun i y v h1 h2 h3 => ?_⟩, fun y c h => ?_, e0.hok.fresh (Nat.le_refl _), fun y c h => ?_, fun p hp => absurd (show p ∈ ([] : List (Addr × Obj)) from hp) (by simp), e0.hok.kept hk, ?_⟩
 ·exact PySem.name_of_addr x.apart (PySem.mem_of_lookup h1) (PySem.mem_of_lookup h2)
 ·have hy : scope.names.lookup y = some .cell ∨ scope.names.lookup y = some .free := hy
  rcases hy with hy | hy
  ·exact Option.isSome_iff_exists.mp (PySem.W.cellsFrom_some scope.names _ _ (.inl hy))
  ·have e := S.free _ (PySem.mem_of_lookup hy) rfl
   have e : y = "__class__" := e
   subst e
   exact ⟨cc, cf_keep _ _ _ S.nown (by simp [List.lookup])⟩
 ·rcases which y c h with ⟨rfl, _⟩ | z
  ·have hf : (("__class__" : Str) != "__class__") = true := hf
   simp at hf
  ·exact Nat.le_of_succ_le z
 ·have hi : i < vs.length := by
   unfold L2.start at h2
   by_cases hi : i < vs.length
   ·exact hi
   ·rw [List.getElem?_append_right (by simpa using hi)] at h2
    rw [List.getElem?_replicate] at h2
    split at h2 <;> cases h2
  have ha : vs[i]? = some v := by
   unfold L2.start at h2
   rw [List.getElem?_append_left (by simpa using hi), List.getElem?_map] at h2
   cases e : vs[i]? with
   | none => rw [e] at h2; cases h2
   | some a => rw [e] at h2; cases h2; rfl
  obtain ⟨u, hu, rv⟩ := r.get ha
  have hp : ps[i]? = some y := by
   rw [← S.pre, List.getElem?_take_of_lt (by omega)]
   exact h1
  have ndP : ps.Nodup := by rw [← S.pre]; exact S.nd.sublist (List.take_sublist _ _)
  refine ⟨u, rv, ?_⟩
  rcases S.par y (List.mem_of_getElem? hp) with k | k
  ·exact .inl ⟨k, bindL_get ndP hp hu k⟩
  ·obtain ⟨c, e⟩ := Option.isSome_iff_exists.mp (PySem.W.cellsFrom_some scope.names (s.heap.objs.size + 1) [("__class__", cc)] (.inl k))
   refine .inr ⟨.inl k, c, e, ?_⟩
   have q := (x.own y c k e).1
   rw [bindC_get ndP hp hu (by show scope.names.lookup y ≠ _; rw [k]; decide)] at q
   exact q
 ·rcases which y c h with ⟨_, rfl⟩ | z
  ·obtain ⟨o, ho, hdat⟩ := hcv
   exact ⟨v0, o, hk _ _ ho, hdat⟩
  ·exact x.all y c h
 ·rcases which y c h with ⟨_, rfl⟩ | z
  ·exact hccS.2
  ·exact e0.hok.fresh (Nat.le_of_succ_le z)
 ·unfold L2.start
  show _ = N.length
  rw [List.length_append, List.length_map, List.length_replicate]
  omega
end
section
/-- the rest u behind it; the parent's __init__ keeps sp -/
def tSupO (C : Addr) (sp : Sp) (ta : TA) (u : TS) : TS := fun D σ H => ∃ (x dx : Addr) (fs : List (Str × V)), σ[0]? = some (some (.ref x)) ∧ H x = some (.ins C dx fs) ∧ ta σ H fun vs H1 => sp (.ref x :: vs) H1 (fun _ H2 => u D σ H2) E0
section
variable {X : Cx} {f cda cc C B g : Addr} {fdg : FuncData} {psg : List Str} {sp : Sp} {k : Nat}
theorem pat_supO {body : List Stmt} {p0 p1 p2 pos pos' : Pos} {e : Expr} {es : List Expr} {rest : List Stmt} {ta : TA} {u : TS} {pl : Sem Bool} (T : SupTxt X.prog X.K X.mg f cda cc C) (S : SupX X f cda cc) (hsub : PySem.W.mroIn X.K C (.ref C) = some true)
  (hm : PySem.W.ks_superIn X.K C C "__init__" = some (some (.ref g))) (hfi : PySem.W.fnIn X.K g = true) (hti : PySem.W.typeIn X.K (.ref g) = some (.type "function")) (F : FnOk X.prog X.w X.K X.mg X.base CX0 k g fdg psg sp) (hR : Room k X.A) (hb : Binds X.K fdg psg [])
  (ha : PA X (e :: es) ta) (hr : PAt X (.func body X.env) rest u)
  (he : starEach (e :: es) X.env = (false, eval e X.env) :: starEach es X.env := by rfl) (hpl : (backTo pos (starEach es X.env)).any (·.1) = false := by rfl)
  (ht : eval (.Call (.Attribute (.Call (.Name "super" p0) [] [] p1) "__init__" p2) (e :: es) [] pos) X.env = (do
   let ov ← attributeBase (.Call (.Name "super" p0) [] [] p1) "__init__" X.env (eval (.Call (.Name "super" p0) [] [] p1) X.env)
   standAt p2.atName
   let (f, first) ← holding [ov] (getMethod ov "__init__" pl)
   callWith pos f first (backTo pos (starEach (e :: es) X.env)) []) := by rfl)
  (hs : swapsWith (.Call (.Attribute (.Call (.Name "super" p0) [] [] p1) "__init__" p2) (e :: es) [] pos) none pos'.line X.env = pure false := by rfl) :
  PAt X (.func body X.env) (.Expr (.Call (.Attribute (.Call (.Name "super" p0) [] [] p1) "__init__" p2) (e :: es) [] pos) pos' :: rest) (tSupO C sp ta u) := by
 refine ⟨fun pins s σ H D I q => ?_⟩
 obtain ⟨a, dx, fs, h0, ea, q⟩ := q
 obtain ⟨mA, O, _⟩ := ins_get I.hok ea
 obtain ⟨od, J, _⟩ := O.look
 refine PySem.ks_wpAt_execs_cons (PySem.ks_wpAt_Expr_any ?_ I.quiet hs)
 refine PySem.ks_wpAt_MethodCall (pl := pl) ?_ ht
 refine sup_node T S I h0 J hsub (by decide) fun so s1 I1 k1 => ?_
 have KX := I1.kIn
 obtain ⟨mA1, O1, _⟩ := ins_get I1.hok ea
 obtain ⟨od1, J1, _⟩ := O1.look
 cases hc : PySem.W.clsIn X.K C with
 | none =>
  unfold PySem.W.ks_superIn at hm
  rw [hc] at hm
  cases hm
 | some cd =>
  unfold PySem.W.ks_superIn at hm
  rw [hc] at hm
  have hso := ClX.pin_at I1
  have hne := PySem.W.ks_ne KX J1 hc
  have hop := PySem.W.looks_opaque (M := model X.prog X.w) (C := C) KX T.opq
  have hmro : PySem.W.Looks (model X.prog X.w) s1.heap (mroOf (.ref C)) cd.mro := fun A Q E s k q => wpAny_bind ((PySem.W.looks_clsIn KX hc) A _ E s k (wpAny_pure q))
  obtain ⟨of, hgo, hgc⟩ : ∃ of, s1.heap.get? g = some of ∧ of.cls = .type "function" := by
   unfold PySem.W.typeIn at hti
   simp only at hti
   cases hl : X.K.lookup g with
   | none =>
    rw [hl] at hti
    cases hti
   | some o =>
    rw [hl] at hti
    exact ⟨o, KX _ _ hl, by simpa using hti⟩
  obtain ⟨hp, gg, d, tk, os⟩ := s1
  refine PySem.ks_wpAny_getMethod_super hso hop hmro rfl KX hm hgo hgc hne (by decide) ?_
  have I2 : Inv X ((hp.objs.size, { cls := .type "method", data := .fields #[.ref g, .ref a] }) :: (so, PySem.W.ks_superObj C a C) :: pins) σ H ⟨hp.push { cls := .type "method", data := .fields #[.ref g, .ref a] }, gg, d, tk + 1, os⟩ :=
   ClX.pin_new (t' := tk + 1) I1 (fun b o z => Heap.get?_push_of_some _ z) (Nat.le_refl _) (Heap.get?_push_at rfl rfl) (fun v z => by cases z)
  show wpAny _ _ (callWith pos (.ref hp.objs.size) [] (backTo pos (starEach (e :: es) X.env)) []) _ _ _
  rw [he]
  refine PySem.W.callWith_of (P := PySem.W.MethP X.K hp.objs.size g (.ref a)) (by show ((false || (backTo pos (starEach es X.env)).any (·.1)) || _) = false; rw [hpl]; rfl) (PySem.W.keeps_M hfi) ?_
  refine PySem.Calls.evalArgs_plain ?_
  have hrun := ha.run pos _ _ σ H _ I2 q
  rw [he] at hrun
  refine thn hrun fun us s3 ⟨vs, H3, I3, r3, q3⟩ => ⟨⟨ClX.pin_at I3, I3.kIn⟩, ?_⟩
  show wpAny _ _ (call (.ref hp.objs.size) us) _ _ _
  have hl : (Value.ref a :: us).length = psg.length := by
   have := F.len _ _ _ _ q3
   rw [← this, List.length_cons, List.length_cons, Paired.length r3]
  have bb := hb s3 (.ref a :: us) I3.kIn (by rw [List.append_nil]; exact hl)
  rw [List.append_nil] at bb
  refine wpAny_call (PySem.W.method_call (ClX.pin_at I3) (codeAny_mono (F.run X.A X.stack s3 H3 ⟨.ref a :: us, []⟩ (.ref a :: us) (.ref a :: vs) _ E0 hR I3.env0 bb (.cons rfl r3) q3) fun r s' hq => ?_))
  cases r with
  | error e => exact hq.elim
  | ok fl =>
   cases fl with
   | ret u =>
    obtain ⟨v, H4, I4, _, q4⟩ := I3.after hq
    exact hr.run pins s' σ H4 D (ClX.unpin (ClX.unpin I4)) q4
   | next => exact False.elim hq
   | brk => exact False.elim hq
   | cont => exact False.elim hq
end
theorem fn_supC {CX : CXT} {P : Program} {w : World} {K : PySem.W.Frag} {mg : Str → Option Value} {base : Heap} {k : Nat} {f cda cc D : Addr} {name qual : Str} {params : Arguments} {body : List Stmt} {scope : Scope} {doc pm ct oc : Value} {od : Option Addr}
  {osl : Array (Option Value)} {N ps : List Str} {sp : Sp} {cl cld csl} (lk : K.lookup f = some ⟨oc, od, .func (PySem.W.fnX name qual params body scope [("__class__", cc)] .none .none doc pm none (.ref cda) ct), osl⟩) (hcd : PySem.W.codeIn K (.ref cda) qual = true)
  (hcell : K.lookup cc = some ⟨cl, cld, .cell (some (.ref D)), csl⟩) (S : CScope N ps scope)
  (len : ∀ vs H Q E, sp vs H Q E → vs.length = ps.length)
  (hbody : ∀ (A : Around) (outer : List Env) (s : Shared) (H : Hp) (vs : List V) (Q : VK) (E : XK), Room k (A.deeper (envS qual scope s.heap.objs.size f cda cc)) → sp vs H Q E →
   ∃ t, PAt (scx CX P w K mg base N qual scope f cda cc A outer s H E) (.func body (envS qual scope s.heap.objs.size f cda cc)) body t ∧ t { nx := fun _ H' => Q .non H', rt := Q } (L2.start N vs) H) :
  FnOk P w K mg base CX (k + 1) f (PySem.W.fnX name qual params body scope [("__class__", cc)] .none .none doc pm none (.ref cda) ct) ps sp := by
 refine ⟨len, fun A outer s H args us vs Q E hr e0 hb r hsp => ?_⟩
 have hl := len _ _ _ _ hsp
 have KX : K.In s.heap := e0.mod.kin.keeps fun b o e => (e0.bs b o e).1
 have lim : s.heap.NoLimit := e0.mod.nolimit.keeps fun b o e => (e0.bs b o e).1
 refine codeAny_call_function (fd := PySem.W.fnX name qual params body scope [("__class__", cc)] .none .none doc pm none (.ref cda) ct) (body := body) hr.depth (KX _ _ lk) rfl S.co S.gen rfl (PySem.W.codeRec_of KX hcd) (hb _ _ _ _ ?_)
 have hcc := KX _ _ hcell
 refine newEnvF (s := { s with toks := s.toks }) (scope := scope) (globals := mainGlobals) (binds := ps.zip us) (qual := qual ++ ".<locals>.") (func := some f) (code := .ref cda) (builtins := builtinsNs) (cc := cc) S.kind S.cls hcc rfl (fun x hx => ?_) (fun env eenv s1 x => ?_)
 ·rcases S.par x.1 (List.of_mem_zip hx).1 with z | z
  ·exact .inl z
  ·exact .inr ⟨z, PySem.W.cellsFrom_some scope.names _ _ (.inl z)⟩
 ·have ee : env = envS qual scope s.heap.objs.size f cda cc := eenv
  subst ee
  obtain ⟨t, ht, hq⟩ := hbody A outer s H vs Q E (hr.deeper _) hsp
  have I : Inv (scx CX P w K mg base N qual scope f cda cc A outer s H E) [] (L2.start N vs) H s1 := inv_startS (v0 := some (.ref D)) S hr.hd e0 hl r (e0.mod.kin _ _ hcell) ⟨_, hcc, rfl⟩ x
  refine ⟨lim.keeps x.toInCall.keep, PySem.ks_codeAny_funcAt ?_⟩
  refine PySem.ks_wpAt_mono (ht.run [] _ (L2.start N vs) H _ I hq) (fun fl s' hs => ?_) fun e s' hs => hs
  have fin : ∀ {σ' : L2.St} {H' : Hp} {v : V} {u : Value}, Inv (scx CX P w K mg base N qual scope f cda cc A outer s H E) [] σ' H' s' → L2.RelV v u → Q v H' → CE outer P w H s Q u s' :=
   fun {σ' H' v u} J rv q => ⟨v, H', J.os, J.bare, J.base, J.hok, rv, q⟩
  cases fl with
  | ret u =>
   obtain ⟨v, σ', H', J, rv, q⟩ := hs
   exact fin J rv q
  | next =>
   obtain ⟨σ', H', J, q⟩ := hs
   exact fin (v := V.non) (u := Value.none) J rfl q
  | brk =>
   obtain ⟨_, _, _, q⟩ := hs
   exact False.elim q
  | cont =>
   obtain ⟨_, _, _, q⟩ := hs
   exact False.elim q
end
section
section
variable {X : Cx}
/-- set(row of texts), a list or a tuple -/
theorem cr_setOfR (hc : X.calm = true) : CallR X (.type "set") (fun xs H Q => ∃ (l : Addr) (zs : List Str), xs = [.ref l] ∧ SqL X.K H l (zs.map V.str) ∧ zs.length ≤ 100 ∧ ∀ a, H a = none → Q (.ref a) (upd H a (SetKo X.prog X.w a ((insAll zs).map Sum.inr)))) := by
 intro pins s σ H xs us Q I r h
 obtain ⟨l, zs, rfl, hl, hz, q⟩ := h
 exact cr_setOfS hc pins s σ H _ us Q I r ⟨l, zs, rfl, hl, hz, q⟩
/-- len(set of texts) -/
theorem cr_lenSt : CallR X (.builtin "len") (fun xs H Q => ∃ (a : Addr) (ks : List Key), xs = [.ref a] ∧ H a = some (SetKo X.prog X.w a ks) ∧ ks.length ≤ 1000 ∧ Q (.int (ks.length : Int)) H) := by
 intro pins s σ H xs us Q I r h
 obtain ⟨a, ks, rfl, ha, hl, q⟩ := h
 rw [Vals.ref1 r]
 have G := setKo_get I ha
 obtain ⟨o, es, ep, t, ho, hex, hd, T⟩ := id G
 have hn := T.size
 obtain ⟨o', es', ep', t', ho', hex', hd', _, _, _, hf, _⟩ := G.setOf
 rw [ho] at ho'
 cases ho'
 rw [hd] at hd'
 cases hd'
 refine call_len_set ho hex hd hf (by omega) ⟨.int ks.length, H, I.tok _, ⟨_, by rw [hn]⟩, q⟩
end
end
section
theorem hu0 {A : Around} {k : Nat} (hr : Room k A) : A.units < cLine := by
 have := hr.un
 omega
theorem hu1 {A : Around} {k : Nat} (hr : Room k A) : A.units + 1 < cLine := by
 have := hr.un
 omega
abbrev ZZ := List (Str × Str)
def look (zs : ZZ) (y : Str) : Option Str := (zs.find? fun p => decide (p.1 = y)).map (·.2)
def showZ (zs : ZZ) : ZZ := ((zs.map (·.1)).mergeSort leS).map fun y => (y, (look zs y).getD "")
def goodZ (zs : ZZ) : Prop := (zs.map (·.1)).Nodup ∧ (∀ p ∈ zs, NameOk p.1 ∧ NameOk p.2) ∧ 1 ≤ zs.length ∧ zs.length ≤ 10
theorem look_mem {zs : ZZ} (nd : (zs.map (·.1)).Nodup) {p : Str × Str} (h : p ∈ zs) : look zs p.1 = some p.2 := by
 unfold look
 induction zs with
 | nil => simp at h
 | cons q r ih =>
  rw [List.map_cons, List.nodup_cons] at nd
  rw [List.find?_cons]
  rcases List.mem_cons.mp h with rfl | h
  ·simp
  ·have hne : ¬ q.1 = p.1 := fun e => nd.1 (by rw [e]; exact List.mem_map.mpr ⟨p, h, rfl⟩)
   simp only [hne, decide_false]
   exact ih nd.2 h
theorem not_before {α : Type} {ts : List α} (nd : ts.Nodup) {i : Nat} {t : α} (h : ts[i]? = some t) : t ∉ ts.take i := fun m => by
 obtain ⟨j, hj, e⟩ := List.mem_take_iff_getElem.mp m
 obtain ⟨hi, e2⟩ := List.getElem?_eq_some_iff.mp h
 have := (List.getElem_inj (h₀ := by omega) (h₁ := hi) nd).mp (e.trans e2.symm)
 omega
/-- a row: a list or a tuple -/
theorem ris_le : ∀ (r : List Str) (x : Str), risingS x r = true → ∀ y ∈ r, leS x y = true
 | [], _, _, y, h => by simp at h
 | z :: r, x, h, y, hy => by
  have h : (!ltCps z.cps.toList x.cps.toList && risingS z r) = true := h
  rw [Bool.and_eq_true, PyProof.Rows.ltCps_eq] at h
  have h1 : leS x z = true := by
   refine decide_eq_true (List.not_lt.mp fun c => ?_)
   rw [decide_eq_true c] at h
   cases h.1
  rcases List.mem_cons.mp hy with rfl | hy
  ·exact h1
  ·exact leS_trans _ _ _ h1 (ris_le r z h.2 y hy)
theorem sorted_pw : ∀ {ys : List Str}, sortedS ys = true → ys.Pairwise fun a b => leS a b = true
 | [], _ => .nil
 | x :: r, h => by
  have h : risingS x r = true := h
  refine List.pairwise_cons.mpr ⟨fun y hy => ris_le r x h y hy, ?_⟩
  cases r with
  | nil => exact .nil
  | cons z r =>
   have h2 : (!ltCps z.cps.toList x.cps.toList && risingS z r) = true := h
   rw [Bool.and_eq_true] at h2
   exact sorted_pw (ys := z :: r) h2.2
theorem sorted_eq {ys ks : List Str} (hp : ys.Perm ks) (h : sortedS ys = true) : ys = ks.mergeSort leS := PySem.W.Srt.the_of_perm leS leS_trans leS_total leS_anti hp (sorted_pw h)
end
section
def fI (g : Int → Int → D) (x y : D) (Q : D → Prop) : Prop := match x, y with
 | .int i, .int j => Q (g i j)
 | _, _ => False
def fIc (C : Int → Int → Prop) (g : Int → Int → D) (x y : D) (Q : D → Prop) : Prop := match x, y with
 | .int i, .int j => C i j ∧ Q (g i j)
 | _, _ => False
def fCatS (x y : D) (Q : D → Prop) : Prop := match x, y with
 | .str i, .str j => i.length + j.length ≤ sizeLine ∧ Q (.str (i ++ j))
 | _, _ => False
def fLtS (x y : D) (Q : D → Prop) : Prop := match x, y with
 | .str i, .str j => Q (.bl (decide (i.cps.toList < j.cps.toList)))
 | _, _ => False
def eqD : D → D → Option Bool
 | .int i, .int j => some (decide (i = j))
 | .str i, .str j => some (decide (i = j))
 | .bl i, .bl j => some (decide (i = j))
 | .non, .non => some true
 | .non, .int _ => some false
 | .int _, .non => some false
 | .non, .bl _ => some false
 | .bl _, .non => some false
 | .non, .str _ => some false
 | .str _, .non => some false
 | .int _, .str _ => some false
 | .str _, .int _ => some false
 | .bl _, .str _ => some false
 | .str _, .bl _ => some false
 | _, _ => none
def fEq (x y : D) (Q : D → Prop) : Prop := match eqD x y with
 | some b => Q (.bl b)
 | none => False
def fNe (x y : D) (Q : D → Prop) : Prop := match eqD x y with
 | some b => Q (.bl (!b))
 | none => False
def fIsN (x y : D) (Q : D → Prop) : Prop := match x, y with
 | .opq, _ => False
 | .kt _, _ => False
 | .non, .non => Q (.bl true)
 | _, .non => Q (.bl false)
 | _, _ => False
def fNotN (x y : D) (Q : D → Prop) : Prop := match x, y with
 | .opq, _ => False
 | .kt _, _ => False
 | .non, .non => Q (.bl false)
 | _, .non => Q (.bl true)
 | _, _ => False
section
variable {K : PySem.W.Frag} {W : WX} {ta tb te : TE} {aa ab ae : AE}
theorem r2_I0 {g : Int → Int → D} {g' : Int → Int → V} (h : ∀ i j, (g i j).sc = some (g' i j) := by intro _ _; rfl) : R2S K (rI0 g') (fI g) := fun H x y dx dy Q Qc rx ry q k => by
 unfold fI at q
 split at q
 ·rw [rep_int rx, rep_int ry]
  exact ⟨_, _, rfl, rfl, k _ _ (h _ _) q⟩
 ·exact q.elim
theorem r2_I {C : Int → Int → Prop} {g : Int → Int → D} {g' : Int → Int → V} (h : ∀ i j, (g i j).sc = some (g' i j) := by intro _ _; rfl) : R2S K (rI C g') (fIc C g) := fun H x y dx dy Q Qc rx ry q k => by
 unfold fIc at q
 split at q
 ·rw [rep_int rx, rep_int ry]
  exact ⟨_, _, rfl, rfl, q.1, k _ _ (h _ _) q.2⟩
 ·exact q.elim
abbrev fAdd := fI fun i j => .int (i + j)
abbrev fSub := fI fun i j => .int (i - j)
abbrev fMul := fIc CMul fun i j => .int (i * j)
abbrev fMod := fIc (fun _ j => 0 < j) fun i j => .int (i % j)
abbrev fDiv := fIc CDiv fun i j => .int (i / j)
abbrev fPow := fIc CPow fun i j => .int (i ^ j.toNat)
abbrev fLt := fI fun i j => .bl (decide (i < j))
abbrev fLe := fI fun i j => .bl (decide (i ≤ j))
abbrev fGt := fI fun i j => .bl (decide (j < i))
abbrev fGe := fI fun i j => .bl (decide (j ≤ i))
theorem r2_add : R2S K (rI0 fun i j => .int (i + j)) fAdd := r2_I0
theorem r2_mul : R2S K (rI CMul fun i j => .int (i * j)) fMul := r2_I
theorem r2_mod : R2S K (rI (fun _ j => 0 < j) fun i j => .int (i % j)) fMod := r2_I
theorem r2_lt : R2S K (rI0 fun i j => .bl (decide (i < j))) fLt := r2_I0
theorem r2_le : R2S K (rI0 fun i j => .bl (decide (i ≤ j))) fLe := r2_I0
theorem r2_gt : R2S K (rI0 fun i j => .bl (decide (j < i))) fGt := r2_I0
theorem eqD_ok {H : Hp} {x y : V} {dx dy : D} {b : Bool} (rx : Rep K H x dx) (ry : Rep K H y dy) (h : eqD dx dy = some b) : scal x y = true ∧ decide (x = y) = b := by
 unfold eqD at h
 split at h
 all_goals first
  | (cases h; cases rx; cases ry; refine ⟨rfl, ?_⟩; first | rfl | simp)
  | cases h
theorem r2_eq : R2S K rEq fEq := fun H x y dx dy Q Qc rx ry q k => by
 unfold fEq at q
 split at q
 ·rename_i b hb
  obtain ⟨h1, h2⟩ := eqD_ok rx ry hb
  exact ⟨h1, by rw [h2]; exact k _ _ rfl q⟩
 ·exact q.elim
theorem r2_ne : R2S K rNe fNe := fun H x y dx dy Q Qc rx ry q k => by
 unfold fNe at q
 split at q
 ·rename_i b hb
  obtain ⟨h1, h2⟩ := eqD_ok rx ry hb
  exact ⟨h1, by rw [h2]; exact k _ _ rfl q⟩
 ·exact q.elim
theorem ea_chain {r r' : R2} {f f' : D → D → (D → Prop) → Prop} {tc : TE} {ac : AE} (hr : R2S K r f) (hr' : R2S K r' f') (ha : EA K W ta aa) (hb : EA K W tb ab) (hc : EA K W tc ac) : EA K W (tChain r r' ta tb tc) (aChain f f' aa ab ac) := fun o H0 S H σ env ax Q Qc es q k xl =>
 ha o H0 S H σ env ax _ _ es q (fun v b S1 H1 g1 w1 r1 q1 =>
  hb o H0 S1 H1 σ env ax _ _ (es.mono g1 w1) q1 (fun v2 b2 S2 H2 g2 w2 r2 q2 =>
   hr H2 v v2 _ _ _ _ ((r1.mono g2).now w2 ((g1.trans g2).kp es.kp)) (r2.now w2 ((g1.trans g2).kp es.kp)) q2 fun d v hd q3 => by
    cases d with
    | bl c =>
     cases hd
     refine ⟨c, rfl, ?_⟩
     cases c with
     | true =>
      exact hc o H0 S2 H2 σ env ax _ _ ((es.mono g1 w1).mono g2 w2) q3 (fun v3 b3 S3 H3 g3 w3 r3 q4 =>
       hr' H3 _ v3 _ _ _ _ ((r2.mono g3).now w3 (((g1.trans g2).trans g3).kp es.kp)) (r3.now w3 (((g1.trans g2).trans g3).kp es.kp)) q4 fun d v hd q5 => k v (.st d) S3 H3 ((g1.trans g2).trans g3) w3 (.ofSc hd) q5) (xl.mono (g1.trans g2))
     | false => exact k _ (.st (.bl false)) S2 H2 (g1.trans g2) w2 (BR.ofSc rfl) q3
    | _ => exact q3.elim) (xl.mono g1)) xl
def aFn1 (f : D → (D → Prop) → Prop) (a : AE) (ax : AX) (env : AEnv) (Q : B → Prop) : Prop := a ax env fun x => f x.get fun d => Q (.st d)
def R1S (K : PySem.W.Frag) (r : V → Hp → VK → Prop) (f : D → (D → Prop) → Prop) : Prop := ∀ H x dx Q Qc, Rep K H x dx → f dx Q → (∀ d v, d.sc = some v → Q d → Qc v H) → r x H Qc
def RC1 (K : PySem.W.Frag) (r : List V → Hp → VK → Prop) (f : D → (D → Prop) → Prop) : Prop := ∀ H x dx Q Qc, Rep K H x dx → f dx Q → (∀ d v, d.sc = some v → Q d → Qc v H) → r [x] H Qc
theorem ea_un {r : V → Hp → VK → Prop} {f : D → (D → Prop) → Prop} (hr : R1S K r f) (ha : EA K W ta aa) : EA K W (tUn r ta) (aFn1 f aa) := fun o H0 S H σ env ax Q Qc es q k xl =>
 ha o H0 S H σ env ax _ _ es q (fun v b S1 H1 g1 w1 r1 q1 => hr H1 v _ _ _ (r1.now w1 (g1.kp es.kp)) q1 fun d v hd q2 => k v (.st d) S1 H1 g1 w1 (.ofSc hd) q2) xl
theorem ea_b1 {r : List V → Hp → VK → Prop} {f : D → (D → Prop) → Prop} (hr : RC1 K r f) (ha : EA K W ta aa) : EA K W (tCB r (tCons ta tNil)) (aFn1 f aa) := fun o H0 S H σ env ax Q Qc es q k xl =>
 ha o H0 S H σ env ax _ _ es q (fun v b S1 H1 g1 w1 r1 q1 => hr H1 v _ _ _ (r1.now w1 (g1.kp es.kp)) q1 fun d v hd q2 => k v (.st d) S1 H1 g1 w1 (.ofSc hd) q2) xl
def fNeg (x : D) (Q : D → Prop) : Prop := match x with
 | .int i => Q (.int (-i))
 | _ => False
theorem r1_neg : R1S K (rU fun i => .int (-i)) fNeg := fun H x dx Q Qc rx q k => by
 unfold fNeg at q
 split at q
 ·rw [rep_int rx]
  exact ⟨_, rfl, k _ _ rfl q⟩
 ·exact q.elim
def fLen (x : D) (Q : D → Prop) : Prop := match x with
 | .lst ds => Q (.int (ds.length : Nat))
 | .tup ds => Q (.int (ds.length : Nat))
 | .str z => z.length ≤ sizeLine ∧ Q (.int (z.length : Nat))
 | _ => False
theorem rc_len : RC1 K (fun xs H Q => ∃ x n, xs = [x] ∧ LenV K x H n ∧ Q (.int (n : Nat)) H) fLen := fun H x dx Q Qc rx q k => by
 unfold fLen at q
 split at q
 ·obtain ⟨a, xs, rfl, h1, h2⟩ := rep_lst rx
  exact ⟨_, _, rfl, .inl ⟨_, SqL.of h1, rfl⟩, by rw [h2.len]; exact k _ _ rfl q⟩
 ·obtain ⟨a, xs, rfl, h1, h2⟩ := rep_tup rx
  exact ⟨_, _, rfl, .inr ⟨_, h1, rfl⟩, by rw [h2.len]; exact k _ _ rfl q⟩
 ·rw [rep_str rx]
  exact ⟨_, _, rfl, ⟨q.1, rfl⟩, k _ _ rfl q.2⟩
 ·exact q.elim
def fInt (x : D) (Q : D → Prop) : Prop := match x with
 | .int i => Q (.int i)
 | .bl b => Q (.int (if b then 1 else 0))
 | _ => False
theorem rc_int : RC1 K (fun xs H Q => (∃ i, xs = [.int i] ∧ Q (.int i) H) ∨ ∃ k, xs = [.bl k] ∧ Q (.int (if k then 1 else 0)) H) fInt := fun H x dx Q Qc rx q k => by
 unfold fInt at q
 split at q
 ·rw [rep_int rx]
  exact .inl ⟨_, rfl, k _ _ rfl q⟩
 ·rw [rep_bl rx]
  exact .inr ⟨_, rfl, k _ _ rfl q⟩
 ·exact q.elim
def fAbs (x : D) (Q : D → Prop) : Prop := match x with
 | .int i => Q (.int (if i < 0 then -i else i))
 | _ => False
theorem repL_bls {H : Hp} : ∀ {xs : List V} {bs : List Bool}, RepL K H xs (bs.map D.bl) → xs = bs.map V.bl
 | [], [], _ => rfl
 | x :: r, b :: bs, h => by
  cases h with
  | cons a t => rw [List.map_cons, rep_bl a, repL_bls t]
 | [], b :: bs, h => by cases h
 | x :: r, [], h => by cases h
theorem repL_strs {H : Hp} : ∀ {xs : List V} {bs : List Str}, RepL K H xs (bs.map D.str) → xs = bs.map V.str
 | [], [], _ => rfl
 | x :: r, b :: bs, h => by
  cases h with
  | cons a t => rw [List.map_cons, rep_str a, repL_strs t]
 | [], b :: bs, h => by cases h
 | x :: r, [], h => by cases h
theorem repL_ofStrs {H : Hp} : ∀ (bs : List Str), RepL K H (bs.map V.str) (bs.map D.str)
 | [] => .nil
 | b :: bs => .cons (.str b) (repL_ofStrs bs)
def fAll (x : D) (Q : D → Prop) : Prop := match x with
 | .lst ds => ∃ bs : List Bool, ds = bs.map D.bl ∧ Q (.bl (bs.all id))
 | _ => False
def fAny (x : D) (Q : D → Prop) : Prop := match x with
 | .lst ds => ∃ bs : List Bool, ds = bs.map D.bl ∧ Q (.bl (bs.any id))
 | _ => False
theorem rc_all : RC1 K (rAll K) fAll := fun H x dx Q Qc rx q k => by
 unfold fAll at q
 split at q
 ·obtain ⟨bs, rfl, q⟩ := q
  obtain ⟨a, xs, rfl, h1, h2⟩ := rep_lst rx
  rw [repL_bls h2] at h1
  exact ⟨a, bs, rfl, SqL.of h1, k _ _ rfl q⟩
 ·exact q.elim
def aFn2 (f : D → D → (D → Prop) → Prop) (a b : AE) (ax : AX) (env : AEnv) (Q : B → Prop) : Prop := a ax env fun x => b ax env fun y => f x.get y.get fun d => Q (.st d)
def fMax (x y : D) (Q : D → Prop) : Prop := match x, y with
 | .int i, .int j => Q (.int (if j > i then j else i))
 | _, _ => False
def truD : D → Option Bool
 | .non => some false
 | .bl b => some b
 | .int i => some (i != 0)
 | .lst ds => some (!ds.isEmpty)
 | .tup ds => some (!ds.isEmpty)
 | _ => none
def aTru (a : AE) (ax : AX) (env : AEnv) (Q : Bool → Prop) : Prop := a ax env fun x => match truD x.get with
 | some b => Q b
 | none => False
theorem isE_len {α β : Type} {xs : List α} {ys : List β} (h : xs.length = ys.length) : xs.isEmpty = ys.isEmpty := by
 cases xs <;> cases ys <;> simp at h ⊢
theorem truD_ok {H : Hp} {x : V} {d : D} {b : Bool} (r : Rep K H x d) (h : truD d = some b) : TruV K x H b := by
 unfold truD at h
 split at h
 ·cases h; cases r; exact rfl
 ·cases h; cases r; exact rfl
 ·cases h; cases r; exact rfl
 ·cases h
  obtain ⟨a, xs, rfl, h1, h2⟩ := rep_lst r
  exact .inl ⟨xs, SqL.of h1, by rw [isE_len h2.len]⟩
 ·cases h
  obtain ⟨a, xs, rfl, h1, h2⟩ := rep_tup r
  exact .inr (.inl ⟨xs, h1, by rw [isE_len h2.len]⟩)
 ·cases h
def aIxL (a b : AE) (ax : AX) (env : AEnv) (Q : B → Prop) : Prop := a ax env fun x => b ax env fun y => match x.get, y.get with
 | .lst ds, .int i => ∃ d, atI ds i = some d ∧ Q (x.sub d)
 | _, _ => False
def aIxT (a b : AE) (ax : AX) (env : AEnv) (Q : B → Prop) : Prop := a ax env fun x => b ax env fun y => match x.get, y.get with
 | .tup ds, .int i => ∃ d, atI ds i = some d ∧ Q (x.sub d)
 | _, _ => False
def fIxS (x y : D) (Q : D → Prop) : Prop := match x, y with
 | .str z, .int i => z.length ≤ sizeLine ∧ ∃ c, atI z.cps.toList i = some c ∧ Q (.str ⟨#[c]⟩)
 | _, _ => False
theorem atI_ix {α : Type} {xs : List α} {i : Int} {x : α} (h : atI xs i = some x) : ∃ k : Nat, xs[k]? = some x ∧ ∀ {β : Type} (ys : List β), ys.length = xs.length → atI ys i = ys[k]? := by
 unfold atI at h ⊢
 cases e : ixN xs.length i with
 | none => rw [e] at h; cases h
 | some k =>
  rw [e] at h
  refine ⟨k, h, fun ys hl => ?_⟩
  rw [hl, e]
  rfl
theorem pair_atI {R : V → B → Prop} {xs : List V} {ds : List D} {f : D → B} {i : Int} {d : D} (h : Paired R xs (ds.map f)) (e : atI ds i = some d) : ∃ v, atI xs i = some v ∧ R v (f d) := by
 obtain ⟨k, e1, e2⟩ := atI_ix e
 have hl : xs.length = ds.length := by
  have := paired_len h
  rwa [List.length_map] at this
 have hk : k < ds.length := (List.getElem?_eq_some_iff.mp e1).1
 have hx : xs[k]? = some xs[k] := List.getElem?_eq_getElem (by omega)
 obtain ⟨t, e3, e4⟩ := paired_get h hx
 rw [List.getElem?_map, e1] at e3
 cases e3
 exact ⟨xs[k], by rw [e2 xs hl, hx], e4⟩
theorem ea_ixL (ha : EA K W ta aa) (hb : EA K W tb ab) : EA K W (tOp (rIxL K) ta tb) (aIxL aa ab) := fun o H0 S H σ env ax Q Qc es q k xl =>
 ha o H0 S H σ env ax _ _ es q (fun v b S1 H1 g1 w1 r1 q1 =>
  hb o H0 S1 H1 σ env ax _ _ (es.mono g1 w1) q1 (fun v2 b2 S2 H2 g2 w2 r2 q2 => by
   have kp := (g1.trans g2).kp es.kp
   split at q2
   ·rename_i ds i e1 e2
    obtain ⟨d, hd, q2⟩ := q2
    obtain ⟨a, xs, rfl, h1, h2⟩ := (r1.mono g2).lst w2 kp e1
    obtain ⟨v, h3, h4⟩ := pair_atI h2 hd
    have ri := r2.now w2 kp
    rw [e2] at ri
    rw [rep_int ri]
    exact ⟨a, xs, i, v, rfl, rfl, SqL.of h1, h3, k v _ S2 H2 (g1.trans g2) w2 h4 q2⟩
   ·exact q2.elim) (xl.mono g1)) xl
theorem ea_ixT (ha : EA K W ta aa) (hb : EA K W tb ab) : EA K W (tOp (rIxT K) ta tb) (aIxT aa ab) := fun o H0 S H σ env ax Q Qc es q k xl =>
 ha o H0 S H σ env ax _ _ es q (fun v b S1 H1 g1 w1 r1 q1 =>
  hb o H0 S1 H1 σ env ax _ _ (es.mono g1 w1) q1 (fun v2 b2 S2 H2 g2 w2 r2 q2 => by
   have kp := (g1.trans g2).kp es.kp
   split at q2
   ·rename_i ds i e1 e2
    obtain ⟨d, hd, q2⟩ := q2
    obtain ⟨a, xs, rfl, h1, h2⟩ := (r1.mono g2).tup w2 kp e1
    obtain ⟨v, h3, h4⟩ := pair_atI h2 hd
    have ri := r2.now w2 kp
    rw [e2] at ri
    rw [rep_int ri]
    exact ⟨a, xs, i, v, rfl, rfl, h1, h3, k v _ S2 H2 (g1.trans g2) w2 h4 q2⟩
   ·exact q2.elim) (xl.mono g1)) xl
end
end
section
section
variable {K : PySem.W.Frag} {W : WX} {ta tb te : TE} {aa ab ae : AE}
def stabs : List B → Option (List D)
 | [] => some []
 | .st d :: r => match stabs r with
  | some ds => some (d :: ds)
  | none => none
 | _ => none
theorem stabs_rep {o : Option Addr} {H0 S H : Hp} : ∀ {vs : List V} {bs : List B} {ds : List D}, Paired (BR K o H0 S H) vs bs → stabs bs = some ds → RepL K S vs ds
 | _, _, _, .nil, h => by cases h; exact .nil
 | _, _, _, .cons (b := b) r t, h => by
  cases b with
  | st d =>
   unfold stabs at h
   split at h
   ·rename_i ds' e
    cases h
    exact .cons r (stabs_rep t e)
   ·cases h
  | _ => cases h
def aTup (a : AA) (ax : AX) (env : AEnv) (Q : B → Prop) : Prop := a ax env fun bs => match stabs bs with
 | some ds => Q (.st (.tup ds))
 | none => False
def aLst (a : AA) (ax : AX) (env : AEnv) (Q : D → Prop) : Prop := a ax env fun bs => match stabs bs with
 | some ds => Q (.lst ds)
 | none => False
theorem ea_tup {n : Nat} {t : TA} {a : AA} (h : EL K W n t a) (hn : n ≤ 1000 := by decide) : EA K W (tTup t) (aTup a) := fun o H0 S H σ env ax Q Qc es q k xl =>
 h o H0 S H σ env ax _ _ es q (fun vs bs S1 H1 g1 w1 r1 hl q1 => by
  split at q1
  ·rename_i ds hd
   refine ⟨by rw [paired_len r1, hl]; exact Nat.le_trans hn (by decide), fun p hp => ?_⟩
   have hr := stabs_rep r1 hd
   exact k (.ref p) (.st (.tup ds)) (upd S1 p (.tup vs)) _ (g1.trans (GrO.new w1 hp)) (w1.new hp) (Rep.tup upd_same (RepL.same (same_upd (w1.1.free hp)) hr)) q1
  ·exact q1.elim) xl
theorem en_lst {n : Nat} {t : TA} {a : AA} (h : EL K W n t a) (hn : n ≤ 1000 := by decide) : EN K W (tLst t) (aLst a) := fun o H0 S H σ env ax Q Qc es q k xl =>
 h o H0 S H σ env ax _ _ es q (fun vs bs S1 H1 g1 w1 r1 hl q1 => by
  split at q1
  ·rename_i ds hd
   refine ⟨by rw [paired_len r1, hl]; exact Nat.le_trans hn (by decide), fun p hp => ?_⟩
   have ns := w1.1.free hp
   refine k p (.lst ds) S1 _ (g1.trans (GrO.lay hp)) (w1.put ns (w1.np hp)) (g1.bk hp) ns ?_ q1
   rw [upd_same]
   exact .lst (stabs_rep r1 hd)
  ·exact q1.elim) xl
/-- a new thing, as a stable one -/
def aFix (a : AN) (ax : AX) (env : AEnv) (Q : B → Prop) : Prop := a ax env fun d => Q (.st d)
theorem ea_fix {an : AN} (h : EN K W te an) : EA K W te (aFix an) := h.ea
/-- its parts are stable -/
def B.solid : B → Option D
 | .st d => some d
 | .ow _ d => some d
 | _ => none
theorem solid_lst {o : Option Addr} {H0 S H : Hp} {v : V} {b : B} {ds : List D} (w : Wl o S H) (h : BR K o H0 S H v b) (e : b.solid = some (.lst ds)) : ∃ a xs, v = .ref a ∧ H a = some (.lst xs) ∧ RepL K S xs ds := by
 cases b with
 | st d =>
  cases e
  obtain ⟨a, xs, e1, e2, e3⟩ := rep_lst h
  exact ⟨a, xs, e1, w.1 _ _ e2, e3⟩
 | ow a d =>
  cases e
  obtain ⟨e1, _, _, t⟩ := h
  generalize hx : H a = x at t
  cases t with
  | lst r => exact ⟨a, _, e1, hx, r⟩
 | _ => cases e
theorem solid_tup {o : Option Addr} {H0 S H : Hp} {v : V} {b : B} {ds : List D} (w : Wl o S H) (h : BR K o H0 S H v b) (e : b.solid = some (.tup ds)) : ∃ a xs, v = .ref a ∧ SqT K H a xs ∧ RepL K S xs ds := by
 cases b with
 | st d =>
  cases e
  obtain ⟨a, xs, e1, e2, e3⟩ := rep_tup h
  exact ⟨a, xs, e1, Same.seqT w.1 e2, e3⟩
 | ow a d =>
  cases e
  obtain ⟨e1, _, _, t⟩ := h
  generalize H a = x at t
  cases t
 | _ => cases e
/-- xs + ys -/
def aCat (a b : AE) (ax : AX) (env : AEnv) (Q : D → Prop) : Prop := a ax env fun x => b ax env fun y => match x.solid, y.solid with
 | some (.lst xs), some (.lst ys) => xs.length + ys.length ≤ 1000 ∧ Q (.lst (xs ++ ys))
 | _, _ => False
theorem en_cat (ha : EA K W ta aa) (hb : EA K W tb ab) : EN K W (tOp rCat ta tb) (aCat aa ab) := fun o H0 S H σ env ax Q Qc es q k xl =>
 ha o H0 S H σ env ax _ _ es q (fun v b S1 H1 g1 w1 r1 q1 =>
  hb o H0 S1 H1 σ env ax _ _ (es.mono g1 w1) q1 (fun v2 b2 S2 H2 g2 w2 r2 q2 => by
   split at q2
   ·rename_i ds es' e1 e2
    obtain ⟨a, xs, rfl, h1, h2⟩ := solid_lst w2 (r1.mono g2) e1
    obtain ⟨b, ys, rfl, h3, h4⟩ := solid_lst w2 r2 e2
    refine ⟨a, b, xs, ys, rfl, rfl, h1, h3, ?_, fun p hp => ?_⟩
    ·rw [h2.len, h4.len]
     exact Nat.le_trans q2.1 (by decide)
    ·have ns := w2.1.free hp
     refine k p _ S2 _ ((g1.trans g2).trans (GrO.lay hp)) (w2.put ns (w2.np hp)) ((g1.trans g2).bk hp) ns ?_ q2.2
     rw [upd_same]
     exact .lst (h2.append h4)
   ·exact q2.elim) (xl.mono g1)) xl
/-- list(x) -/
def aListOf (a : AE) (ax : AX) (env : AEnv) (Q : D → Prop) : Prop := a ax env fun x => match x.solid with
 | some (.lst ds) => Q (.lst ds)
 | some (.tup ds) => Q (.lst ds)
 | _ => False
theorem en_listOf (ha : EA K W ta aa) : EN K W (tCB (fun xs H Q => ∃ p ys, xs = [.ref p] ∧ (SqL K H p ys ∨ SqT K H p ys) ∧ ∀ l, H l = none → Q (.ref l) (upd H l (.lst ys))) (tCons ta tNil)) (aListOf aa) := fun o H0 S H σ env ax Q Qc es q k xl =>
 ha o H0 S H σ env ax _ _ es q (fun v b S1 H1 g1 w1 r1 q1 => by
  have fin : ∀ {ys : List V} {ds : List D}, RepL K S1 ys ds → Q (.lst ds) → ∀ l, H1 l = none → Qc (.ref l) (upd H1 l (.lst ys)) := fun {ys ds} h q l hl => by
   have ns := w1.1.free hl
   refine k l (.lst ds) S1 _ (g1.trans (GrO.lay hl)) (w1.put ns (w1.np hl)) (g1.bk hl) ns ?_ q
   rw [upd_same]
   exact .lst h
  split at q1
  ·rename_i ds e
   obtain ⟨a, xs, rfl, h1, h2⟩ := solid_lst w1 r1 e
   exact ⟨a, xs, rfl, .inl (SqL.of h1), fin h2 q1⟩
  ·rename_i ds e
   obtain ⟨a, xs, rfl, h1, h2⟩ := solid_tup w1 r1 e
   exact ⟨a, xs, rfl, .inr h1, fin h2 q1⟩
  ·exact q1.elim) xl
/-- tuple(x) of a list -/
def aTupOf (a : AE) (ax : AX) (env : AEnv) (Q : B → Prop) : Prop := a ax env fun x => match x.solid with
 | some (.lst ds) => Q (.st (.tup ds))
 | _ => match x with
  | .st (.tup ds) => Q (.st (.tup ds))
  | _ => False
theorem ea_tupOf (ha : EA K W ta aa) : EA K W (tCB (fun xs H Q => ∃ p ys, xs = [.ref p] ∧ ((SqL K H p ys ∧ ∀ l, H l = none → Q (.ref l) (upd H l (.tup ys))) ∨ (SqT K H p ys ∧ Q (.ref p) H))) (tCons ta tNil)) (aTupOf aa) := fun o H0 S H σ env ax Q Qc es q k xl =>
 ha o H0 S H σ env ax _ _ es q (fun v b S1 H1 g1 w1 r1 q1 => by
  split at q1
  ·rename_i ds e
   obtain ⟨a, xs, rfl, h1, h2⟩ := solid_lst w1 r1 e
   refine ⟨a, xs, rfl, .inl ⟨SqL.of h1, fun p hp => ?_⟩⟩
   exact k (.ref p) (.st (.tup ds)) (upd S1 p (.tup xs)) _ (g1.trans (GrO.new w1 hp)) (w1.new hp) (Rep.tup upd_same (RepL.same (same_upd (w1.1.free hp)) h2)) q1
  ·split at q1
   ·obtain ⟨a, xs, rfl, h1, h2⟩ := rep_tupX r1
    exact ⟨a, xs, rfl, .inr ⟨SqT.of (w1.1 _ _ h1), k (.ref a) (.st (.tup _)) S1 H1 g1 w1 (Rep.tup h1 h2) q1⟩⟩
   ·exact q1.elim) xl
abbrev AO := AX → AEnv → (Option Int → Prop) → Prop
def EO (K : PySem.W.Frag) (W : WX) (to : TO) (ao : AO) : Prop := ∀ o H0 S H σ env ax Q Qc, ES K o H0 S H σ env → ao ax env Q →
 (∀ z S' H', GrO o S H S' H' → Wl o S' H' → Q z → Qc z H') → XL K W o S H σ env ax → to σ H Qc
def aONone (ax : AX) (env : AEnv) (Q : Option Int → Prop) : Prop := Q none
def aOSome (a : AE) (ax : AX) (env : AEnv) (Q : Option Int → Prop) : Prop := a ax env fun x => match x.get with
 | .int i => Q (some i)
 | _ => False
theorem eo_none : EO K W tNoPart aONone := fun o H0 S H σ env ax Q Qc es q k xl => k none S H GrO.refl es.wl q
theorem eo_some (h : EA K W te ae) : EO K W (tPart te) (aOSome ae) := fun o H0 S H σ env ax Q Qc es q k xl =>
 h o H0 S H σ env ax _ _ es q (fun v b S1 H1 g1 w1 r1 q1 => by
  have rn := r1.now w1 (g1.kp es.kp)
  cases hb : b.get with
  | int c =>
   rw [hb] at rn q1
   exact ⟨c, rep_int rn, k (some c) S1 H1 g1 w1 q1⟩
  | _ => rw [hb] at q1; exact q1.elim) xl
def cutD (xs : List D) (lo hi : Option Int) : List D := (xs.drop (HT.sIx xs.length 0 lo)).take (HT.sIx xs.length xs.length hi - HT.sIx xs.length 0 lo)
theorem cut_rep {S : Hp} {xs : List V} {ds : List D} (h : RepL K S xs ds) (lo hi : Option Int) : RepL K S (cutV xs lo hi) (cutD ds lo hi) := by
 unfold cutV cutD
 rw [h.len]
 exact (h.drop _).take _
def aSlL (a : AE) (lo hi : AO) (ax : AX) (env : AEnv) (Q : D → Prop) : Prop := a ax env fun x => lo ax env fun l => hi ax env fun h => match x.solid with
 | some (.lst ds) => Q (.lst (cutD ds l h))
 | _ => False
theorem en_slL {tl th : TO} {al ah : AO} (ha : EA K W ta aa) (hl : EO K W tl al) (hh : EO K W th ah) : EN K W (tSl (rSlL K) ta tl th) (aSlL aa al ah) := fun o H0 S H σ env ax Q Qc es q k xl =>
 ha o H0 S H σ env ax _ _ es q (fun v b S1 H1 g1 w1 r1 q1 =>
  hl o H0 S1 H1 σ env ax _ _ (es.mono g1 w1) q1 (fun l S2 H2 g2 w2 q2 =>
   hh o H0 S2 H2 σ env ax _ _ ((es.mono g1 w1).mono g2 w2) q2 (fun h S3 H3 g3 w3 q3 => by
    split at q3
    ·rename_i ds e
     obtain ⟨a, xs, rfl, h1, h2⟩ := solid_lst w3 ((r1.mono g2).mono g3) e
     have g := (g1.trans g2).trans g3
     refine ⟨a, xs, rfl, SqL.of h1, fun p hp => ?_⟩
     have ns := w3.1.free hp
     refine k p _ S3 _ (g.trans (GrO.lay hp)) (w3.put ns (w3.np hp)) (g.bk hp) ns ?_ q3
     rw [upd_same]
     exact .lst (cut_rep h2 l h)
    ·exact q3.elim) (xl.mono (g1.trans g2))) (xl.mono g1)) xl
/-- x[::-1] of a list -/
def aRevL (a : AE) (ax : AX) (env : AEnv) (Q : D → Prop) : Prop := a ax env fun x => match x.solid with
 | some (.lst ds) => Q (.lst ds.reverse)
 | _ => False
def aSortSet (a : AE) (ax : AX) (env : AEnv) (Q : D → Prop) : Prop := a ax env fun x => match x.get with
 | .lst ds => ∃ zs : List Str, ds = zs.map D.str ∧ zs.length ≤ 100 ∧ (∀ z ∈ zs, NameOk z) ∧ Q (.lst (((insAll zs).mergeSort leS).map D.str))
 | _ => False
def aIL (a : AE) (ax : AX) (env : AEnv) (Q : List B → Prop) : Prop := a ax env fun x => match x with
 | .st (.lst ds) => Q (ds.map B.st)
 | .br (.lst ds) => Q (ds.map B.br)
 | _ => False
def aIT (a : AE) (ax : AX) (env : AEnv) (Q : List B → Prop) : Prop := a ax env fun x => match x with
 | .st (.tup ds) => Q (ds.map B.st)
 | .br (.tup ds) => Q (ds.map B.br)
 | _ => False
theorem wk_at {o : Option Addr} {H0 S1 : Hp} {J : It} {xs : List V} {items : List B} (G : Hp → Prop) (w : Walk J xs.length G (YAt xs)) (hl : xs.length = items.length) (hG : ∀ S H, Same S1 S → Wl o S H → Kp o H0 H → G H)
  (hr : ∀ S H, Same S1 S → Wl o S H → Kp o H0 H → Paired (BR K o H0 S H) xs items) (ho : ∀ b ∈ items, b.isOw = false) : WkA K o H0 S1 J items := by
 refine ⟨fun i S H hi a b c => w.goes i H (by omega) (hG S H a b c), fun S H a b c => by rw [← hl]; exact w.stops H (hG S H a b c), fun i S H x H' hi a b c y => ?_⟩
 obtain ⟨rfl, hx⟩ := w.yields i H x H' (by omega) (hG S H a b c) y
 obtain ⟨t, e1, e2⟩ := paired_get (hr S H' a b c) hx
 exact ⟨S, t, e1, ho t (List.mem_of_getElem? e1), GrO.refl, b, e2⟩
theorem isOw_map {f : D → B} (h : ∀ d, (f d).isOw = false) (ds : List D) : ∀ b ∈ ds.map f, b.isOw = false := fun b hb => by
 obtain ⟨d, _, rfl⟩ := List.mem_map.mp hb
 exact h d
theorem ei_list (h : EA K W te ae) : EI K W (iList K te) (aIL ae) := fun o H0 S H σ env ax Q C es q k xl =>
 h o H0 S H σ env ax _ _ es q (fun v b S1 H1 g1 w1 r1 q1 => by
  split at q1
  ·rename_i ds
   obtain ⟨a, xs, rfl, h1, h2⟩ := rep_lst r1
   refine ⟨a, rfl, ⟨xs, SqL.of (w1.1 _ _ h1)⟩, k _ _ S1 H1 g1 w1 (wk_at (fun H => SqL K H a xs) walk_list (by rw [List.length_map, h2.len]) (fun S H s w _ => SqL.of (w.1 _ _ (s _ _ h1))) (fun S H s _ _ => pair_st (RepL.same s h2)) (isOw_map (fun _ => rfl) ds)) q1⟩
  ·rename_i ds
   obtain ⟨a, xs, rfl, h1, h2⟩ := rep_lst (show Rep K (offp o H0) v (.lst ds) from r1)
   refine ⟨a, rfl, ⟨xs, SqL.of (off_same (g1.kp es.kp) _ _ h1)⟩, k _ _ S1 H1 g1 w1 (wk_at (fun H => SqL K H a xs) walk_list (by rw [List.length_map, h2.len]) (fun S H s w kp => SqL.of (off_same kp _ _ h1)) (fun S H s _ _ => pair_br h2) (isOw_map (fun _ => rfl) ds)) q1⟩
  ·exact q1.elim) xl
def aICL (a : AE) (ax : AX) (env : AEnv) (Q : List B → Prop) : Prop := a ax env fun x => match x with
 | .st (.lst ds) => Q (ds.map B.st)
 | .br (.lst ds) => Q (ds.map B.br)
 | .ow _ (.lst ds) => Q (ds.map B.st)
 | _ => False
theorem ec_list (h : EA K W te ae) : EC K W (iList K te) (aICL ae) := fun o H0 S H σ env ax Q C es q k xl =>
 h o H0 S H σ env ax _ _ es q (fun v b S1 H1 g1 w1 r1 q1 => by
  split at q1
  ·rename_i ds
   obtain ⟨a, xs, rfl, h1, h2⟩ := rep_lst r1
   exact ⟨a, rfl, ⟨xs, SqL.of (w1.1 _ _ h1)⟩, k _ _ S1 H1 g1 w1 (wk_at (fun H => SqL K H a xs) walk_list (by rw [List.length_map, h2.len]) (fun S H s w _ => SqL.of (w.1 _ _ (s _ _ h1))) (fun S H s _ _ => pair_st (RepL.same s h2)) (isOw_map (fun _ => rfl) ds)).toC q1⟩
  ·rename_i ds
   obtain ⟨a, xs, rfl, h1, h2⟩ := rep_lst (show Rep K (offp o H0) v (.lst ds) from r1)
   exact ⟨a, rfl, ⟨xs, SqL.of (off_same (g1.kp es.kp) _ _ h1)⟩, k _ _ S1 H1 g1 w1 (wk_at (fun H => SqL K H a xs) walk_list (by rw [List.length_map, h2.len]) (fun S H s w kp => SqL.of (off_same kp _ _ h1)) (fun S H s _ _ => pair_br h2) (isOw_map (fun _ => rfl) ds)).toC q1⟩
  ·rename_i a ds
   obtain ⟨rfl, ns, np, t⟩ := r1
   generalize hx : H1 a = z at t
   cases t with
   | @lst xs _ h2 =>
    refine ⟨a, rfl, ⟨xs, SqL.of hx⟩, k _ _ S1 H1 g1 w1 ⟨fun i S H hi g w _ => ?_, fun S H g w _ => ?_, fun i S H x H' hi g w kp y => ?_⟩ q1⟩
    ·rw [List.length_map, ← h2.len] at hi
     exact walk_list.goes i H hi (SqL.of (g.rs a _ np hx))
    ·rw [List.length_map, ← h2.len]
     exact walk_list.stops H (SqL.of (g.rs a _ np hx))
    ·rw [List.length_map, ← h2.len] at hi
     obtain ⟨rfl, e⟩ := walk_list.yields i H x H' hi (SqL.of (K := K) (g.rs a _ np hx)) y
     obtain ⟨d, e1, e2⟩ := (RepL.same g.st h2).get e
     exact ⟨S, .st d, by rw [List.getElem?_map, e1]; rfl, rfl, GrO.refl, w, e2⟩
  ·exact q1.elim) xl
theorem ei_tup (h : EA K W te ae) : EI K W (iTup K te) (aIT ae) := fun o H0 S H σ env ax Q C es q k xl =>
 h o H0 S H σ env ax _ _ es q (fun v b S1 H1 g1 w1 r1 q1 => by
  split at q1
  ·rename_i ds
   obtain ⟨a, xs, rfl, h1, h2⟩ := rep_tup r1
   refine ⟨a, rfl, ⟨xs, Same.seqT w1.1 h1⟩, k _ _ S1 H1 g1 w1 (wk_at (fun H => SqT K H a xs) walk_tup (by rw [List.length_map, h2.len]) (fun S H s w _ => Same.seqT (s.trans w.1) h1) (fun S H s _ _ => pair_st (RepL.same s h2)) (isOw_map (fun _ => rfl) ds)) q1⟩
  ·rename_i ds
   obtain ⟨a, xs, rfl, h1, h2⟩ := rep_tup (show Rep K (offp o H0) v (.tup ds) from r1)
   refine ⟨a, rfl, ⟨xs, Same.seqT (off_same (g1.kp es.kp)) h1⟩, k _ _ S1 H1 g1 w1 (wk_at (fun H => SqT K H a xs) walk_tup (by rw [List.length_map, h2.len]) (fun S H s w kp => Same.seqT (off_same kp) h1) (fun S H s _ _ => pair_br h2) (isOw_map (fun _ => rfl) ds)) q1⟩
  ·exact q1.elim) xl
def rngB (lo : Int) (n : Nat) : List B := (List.range n).map fun i => B.st (.int (lo + (i : Nat)))
theorem wk_range {o : Option Addr} {H0 S1 : Hp} {lo : Int} {n : Nat} : WkA K o H0 S1 (Itr lo n) (rngB lo n) := by
 have hl : (rngB lo n).length = n := by simp [rngB]
 refine ⟨fun i S H hi _ _ _ => by rw [hl] at hi; exact hi, fun S H _ _ _ => by rw [hl]; exact Nat.le_refl _, fun i S H x H' hi _ w _ y => ?_⟩
 obtain ⟨rfl, rfl⟩ := (show H' = H ∧ x = .int (lo + (i : Nat)) from y)
 rw [hl] at hi
 refine ⟨S, .st (.int (lo + (i : Nat))), ?_, rfl, GrO.refl, w, .int _⟩
 unfold rngB
 rw [List.getElem?_map, List.getElem?_range hi]
 rfl
def aIR1 (a : AE) (ax : AX) (env : AEnv) (Q : List B → Prop) : Prop := a ax env fun x => match x.get with
 | .int j => (-(2 ^ 62) ≤ j ∧ j < 2 ^ 62) ∧ Q (rngB 0 j.toNat)
 | _ => False
def aIR2 (a b : AE) (ax : AX) (env : AEnv) (Q : List B → Prop) : Prop := a ax env fun x => b ax env fun y => match x.get, y.get with
 | .int i, .int j => (-(2 ^ 62) ≤ i ∧ i < 2 ^ 62 ∧ -(2 ^ 62) ≤ j ∧ j < 2 ^ 62) ∧ Q (rngB i (j - i).toNat)
 | _, _ => False
theorem ei_range1 (h : EA K W ta aa) : EI K W (iRng1 (tCons ta tNil)) (aIR1 aa) := fun o H0 S H σ env ax Q C es q k xl =>
 h o H0 S H σ env ax _ _ es q (fun v b S1 H1 g1 w1 r1 q1 => by
  have rn := r1.now w1 (g1.kp es.kp)
  cases hb : b.get with
  | int c =>
   rw [hb] at rn q1
   rw [rep_int rn]
   exact ⟨c, rfl, q1.1.1, q1.1.2, k _ _ S1 H1 g1 w1 wk_range q1.2⟩
  | _ => rw [hb] at q1; exact q1.elim) xl
abbrev ASp := List B → (D → Prop) → AX0 → Prop
def cSp (K : PySem.W.Frag) (sp : ASp) : Sp := fun vs H Q E => ∃ o S bs Qa Xa, Wl o S H ∧ Paired (BR K o H S H) vs bs ∧ (∀ b ∈ bs, b.isOw = false) ∧ sp bs Qa Xa ∧
 (∀ v d S' H', GrO o S H S' H' → Wl o S' H' → Rep K S' v d → Qa d → Q v H') ∧
 (∀ C fs dd S' H', GrO o S H S' H' → Wl o S' H' → H dd = none → Exn K S' H' dd fs → Xa C fs → E (.ref C) (some dd) H')
theorem cSp_len {n : Nat} {sp : ASp} (h : ∀ bs Q X, sp bs Q X → bs.length = n) {vs : List V} {H : Hp} {Q : VK} {E : XK} (q : cSp K sp vs H Q E) : vs.length = n := by
 obtain ⟨o, S, bs, Qa, Xa, _, hp, _, hs, _⟩ := q
 rw [paired_len hp]
 exact h bs Qa Xa hs
theorem slot_start : ∀ (bs : List B) (n i : Nat) (b : B), slot (bs.map some ++ List.replicate n none) i = some b → bs[i]? = some b
 | [], n, i, b, h => by
  have : ∀ (n i : Nat), slot (List.replicate n none) i = none := by
   intro n
   induction n with
   | zero => intro i; rfl
   | succ m ih =>
    intro i
    cases i with
    | zero => rfl
    | succ j => exact ih j
  rw [List.map_nil, List.nil_append, this] at h
  cases h
 | x :: r, n, 0, b, h => h
 | x :: r, n, i + 1, b, h => slot_start r n i b h
theorem st_start {o : Option Addr} {S H : Hp} {N : List Str} {vs : List V} {bs : List B} (w : Wl o S H) (hp : Paired (BR K o H S H) vs bs) (no : ∀ b ∈ bs, b.isOw = false) : ST K o S H S H (L2.start N vs) (bs.map some ++ List.replicate (N.length - bs.length) none) := by
 have hl := paired_len hp
 refine ⟨GrO.refl, ⟨w, fun _ _ _ h => h, ?_, fun i b h => ?_⟩, fun i a d h => ?_, fun i j a d d' h1 h2 => ?_⟩
 ·unfold L2.start
  simp [hl]
 ·have h1 := slot_start bs _ i b h
  obtain ⟨v, e1, e2⟩ := paired_getR hp h1
  refine ⟨v, ?_, e2⟩
  unfold L2.start
  rw [List.getElem?_append_left (by rw [List.length_map]; exact (List.getElem?_eq_some_iff.mp e1).1), List.getElem?_map, e1]
  rfl
 ·have := no _ (List.mem_of_getElem? (slot_start bs _ i _ h))
  cases this
 ·have := no _ (List.mem_of_getElem? (slot_start bs _ i _ h1))
  cases this
/-- a def that raises nothing -/
theorem fn_A {sp : ASp} {t : TS} {as : AS} {N : List Str} {vs : List V} {H : Hp} {Q : VK} {E : XK} (hs : SA K (fun _ _ _ _ => False) t as) (h : cSp K sp vs H Q E)
  (hab : ∀ bs Qa Xa, sp bs Qa Xa → as ⟨fun _ => Qa .non, Qa, fun _ => False, fun _ => False, fun _ => False, fun _ _ _ => False⟩ (bs.map some ++ List.replicate (N.length - bs.length) none)) : t { nx := fun _ H' => Q .non H', rt := Q } (L2.start N vs) H := by
 obtain ⟨o, S, bs, Qa, Xa, w, hp, no, q, k1, k2⟩ := h
 refine hs o S H S H _ _ ⟨fun _ => Qa .non, Qa, fun _ => False, fun _ => False, fun _ => False, fun _ _ _ => False⟩ _ (st_start w hp no) ⟨fun σ env S' H' st q => k1 .non .non S' H' st.gr st.es.wl .non q, fun _ _ _ _ _ q => q.elim, fun _ _ _ _ _ q => q.elim, fun v d S' H' g w r q => k1 v d S' H' g w r q, fun _ _ _ _ _ _ _ _ _ q => q.elim, fun _ _ _ _ _ _ _ _ _ _ q => q.elim⟩ (hab bs Qa Xa q)
/-- one that may raise -/
theorem fn_AX {sp : ASp} {t : TS} {as : AS} {N : List Str} {vs : List V} {H : Hp} {Q : VK} {E : XK} (hs : SA K (fun cls d _ H' => E cls d H') t as) (h : cSp K sp vs H Q E)
  (hab : ∀ bs Qa Xa, sp bs Qa Xa → as ⟨fun _ => Qa .non, Qa, fun _ => False, fun _ => False, fun _ => False, fun _ => Xa⟩ (bs.map some ++ List.replicate (N.length - bs.length) none)) : t { nx := fun _ H' => Q .non H', rt := Q } (L2.start N vs) H := by
 obtain ⟨o, S, bs, Qa, Xa, w, hp, no, q, k1, k2⟩ := h
 refine hs o S H S H _ _ ⟨fun _ => Qa .non, Qa, fun _ => False, fun _ => False, fun _ => False, fun _ => Xa⟩ _ (st_start w hp no) ⟨fun σ env S' H' st q => k1 .non .non S' H' st.gr st.es.wl .non q, fun _ _ _ _ _ q => q.elim, fun _ _ _ _ _ q => q.elim, fun v d S' H' g w r q => k1 v d S' H' g w r q, fun _ _ _ _ _ _ _ _ _ q => q.elim, fun σ env C fs dd S' H' st n e q => k2 C fs dd S' H' st.gr st.es.wl n e q⟩ (hab bs Qa Xa q)
def coe1 : Bool → B → B
 | true, .pool => .pool
 | true, .xn a c d C fs => .xn a c d C fs
 | true, .st d => .br d
 | _, .ow _ d => .br d
 | _, b => b
def coes : List Bool → List B → List B
 | m :: ms, b :: bs => coe1 m b :: coes ms bs
 | [], b :: bs => coe1 false b :: coes [] bs
 | _, [] => []
theorem BR.br {o : Option Addr} {S H : Hp} {v : V} {d : D} (w : Wl o S H) (h : Rep K S v d) : Rep K (offp o H) v d := by
 refine Rep.same (fun a u e => ?_) h
 unfold offp
 rw [if_neg (fun z => ?_)]
 ·exact w.1 a u e
 ·rw [(w.2 a z).np] at e
  cases e
theorem BR.coe {o : Option Addr} {H0 S H : Hp} {v : V} {b : B} (w : Wl o S H) (kp : Kp o H0 H) (m : Bool) (h : BR K o H0 S H v b) : BR K o H S H v (coe1 m b) := by
 have hb : ∀ {d : D}, Rep K (offp o H0) v d → Rep K (offp o H) v d := fun {d} r => Rep.same (fun a u e => by
  unfold offp at e ⊢
  split at e
  ·cases e
  ·rename_i c
   rw [if_neg c]
   exact kp a u c e) r
 cases b with
 | st d =>
  cases m with
  | true => exact BR.br w h
  | false => exact h
 | ow a d =>
  obtain ⟨rfl, n, np, t⟩ := h
  have : Rep K (offp o H) (.ref a) d := by
   have s : Same S (offp o H) := fun a u e => by
    unfold offp
    rw [if_neg (fun z => ?_)]
    ·exact w.1 a u e
    ·rw [(w.2 a z).np] at e
     cases e
   refine t.rep s ?_
   unfold offp
   rw [if_neg np]
  cases m <;> exact this
 | br d => cases m <;> exact hb h
 | pool => cases m <;> exact h
 | xn a c d C fs => cases m <;> exact h
theorem coe_no (m : Bool) (b : B) : (coe1 m b).isOw = false := by cases m <;> cases b <;> rfl
theorem coes_ok {o : Option Addr} {H0 S H : Hp} (w : Wl o S H) (kp : Kp o H0 H) : ∀ {vs : List V} {bs : List B} (ms : List Bool), Paired (BR K o H0 S H) vs bs → Paired (BR K o H S H) vs (coes ms bs) ∧ ∀ b ∈ coes ms bs, b.isOw = false
 | _, _, [], .nil => ⟨.nil, fun b h => by cases h⟩
 | _, _, _ :: _, .nil => ⟨.nil, fun b h => by cases h⟩
 | _, _, m :: ms, .cons r t => by
  obtain ⟨h1, h2⟩ := coes_ok w kp ms t
  refine ⟨.cons (r.coe w kp m) h1, fun b hb => ?_⟩
  rcases List.mem_cons.mp hb with rfl | hb
  ·exact coe_no m _
  ·exact h2 b hb
 | _, _, [], .cons r t => by
  obtain ⟨h1, h2⟩ := coes_ok w kp [] t
  refine ⟨.cons (r.coe w kp false) h1, fun b hb => ?_⟩
  rcases List.mem_cons.mp hb with rfl | hb
  ·exact coe_no false _
  ·exact h2 b hb
def aCall (sp : ASp) (ms : List Bool) (a : AA) (ax : AX) (env : AEnv) (Q : B → Prop) : Prop := a ax env fun bs => sp (coes ms bs) (fun d => Q (.st d)) (ax env)
def aCall0 (sp : ASp) (ms : List Bool) (a : AA) (ax : AX) (env : AEnv) (Q : B → Prop) : Prop := a ax env fun bs => sp (coes ms bs) (fun d => Q (.st d)) fun _ _ => False
theorem ea_call {n : Nat} {sp : ASp} {t : TA} {a : AA} (ms : List Bool) (h : EL K W n t a) : EA K W (tCall (cSp K sp) [] E0 t) (aCall0 sp ms a) := fun o H0 S H σ env ax Q Qc es q k xl =>
 h o H0 S H σ env ax _ _ es q (fun vs bs S1 H1 g1 w1 r1 hl q1 => by
  rw [List.append_nil]
  obtain ⟨h1, h2⟩ := coes_ok w1 (g1.kp es.kp) ms r1
  exact ⟨o, S1, _, _, _, w1, h1, h2, q1, fun v d S' H' g w r q => k v (.st d) S' H' (g1.trans g) w r q, fun _ _ _ _ _ _ _ _ _ q => q.elim⟩) xl
theorem ea_callX {n : Nat} {sp : ASp} {t : TA} {a : AA} (ms : List Bool) (h : EL K W n t a) : EA K W (tCallS (cSp K sp) (WE W) t) (aCall sp ms a) := fun o H0 S H σ env ax Q Qc es q k xl =>
 h o H0 S H σ env ax _ _ es q (fun vs bs S1 H1 g1 w1 r1 hl q1 => by
  obtain ⟨h1, h2⟩ := coes_ok w1 (g1.kp es.kp) ms r1
  exact ⟨o, S1, _, _, _, w1, h1, h2, q1, fun v d S' H' g w r q => k v (.st d) S' H' (g1.trans g) w r q, fun C fs dd S' H' g w n e q => xl C fs dd S' H' (g1.trans g) w (g1.bk n) e q⟩) xl
def aApp (i : Nat) (a : AE) (E : AEnds) (env : AEnv) : Prop := match slot env i with
 | some (.ow x (.lst ds)) => a E.ax env fun y => match y with
  | .st d => ds.length ≤ 1000 ∧ E.nx (env.set i (some (.ow x (.lst (ds ++ [d])))))
  | _ => False
 | _ => False
theorem ST.put {o : Option Addr} {S0 H0 S H : Hp} {σ : L2.St} {env : AEnv} {i : Nat} {a : Addr} {d d' : D} {u : HO} (st : ST K o S0 H0 S H σ env) (hi : slot env i = some (.ow a d)) (t : Top K S (some u) d') : ST K o S0 H0 S (L2.upd H a u) σ (env.set i (some (.ow a d'))) := by
 obtain ⟨v, e1, rfl, ns, np, ht0⟩ := st.es.sl i _ hi
 have e0 := st.fresh i a d hi
 have hlen : i < env.length := by
  cases q : env[i]? with
  | none => rw [slot_eq, q] at hi; cases hi
  | some x => exact (List.getElem?_eq_some_iff.mp q).1
 refine ⟨st.gr.put e0, ⟨st.es.wl.put ns np, fun b x n h => ?_, by rw [List.length_set]; exact st.es.len, fun j b h => ?_⟩, fun j a' d2 h => ?_, fun j l a' d2 d3 h1 h2 => ?_⟩
 ·rw [upd_ne (ne_of_none h e0)]
  exact st.es.kp b x n h
 ·rw [slot_set] at h
  split at h
  ·rename_i c
   cases h
   rw [← c.1]
   refine ⟨_, e1, rfl, ns, np, ?_⟩
   rw [upd_same]
   exact t
  ·rename_i c
   obtain ⟨w, e2, e3⟩ := st.es.sl j b h
   refine ⟨w, e2, ?_⟩
   cases b with
   | st d => exact e3
   | ow a' d'' =>
    obtain ⟨x1, x2, x3, x4⟩ := e3
    have : a' ≠ a := fun e => by
     subst e
     exact c ⟨(st.dist j i a' d'' d h hi).symm, hlen⟩
    exact ⟨x1, x2, x3, by rw [upd_ne this]; exact x4⟩
   | br d => exact e3
   | pool => exact e3
   | xn a1 cls d1 C fs =>
    obtain ⟨x1, x2, dd, x3, np1, ⟨fv, y1, y2, y3⟩⟩ := e3
    refine ⟨x1, x2, dd, x3, np1, ⟨fv, ?_, y2, y3⟩⟩
    rw [upd_ne (fun z => by
     subst z
     rw [y1] at ht0
     cases ht0)]
    exact y1
 ·rw [slot_set] at h
  split at h
  ·cases h
   exact e0
  ·exact st.fresh j a' d2 h
 ·rw [slot_set] at h1 h2
  split at h1
  ·rename_i c1
   split at h2
   ·rename_i c2
    exact c1.1.symm.trans c2.1
   ·cases h1
    exact c1.1.symm.trans (st.dist i l a d d3 hi h2)
  ·split at h2
   ·rename_i c2
    cases h2
    exact (st.dist j i a d2 d h1 hi).trans c2.1
   ·exact st.dist j l a' d2 d3 h1 h2
theorem sa_app (i : Nat) (h : EA K W te ae) : SA K W (tDrop (tBM K "list" rAppend (tVar i) (tCons te tNil))) (aApp i ae) := fun o S0 H0 S H σ env E Dc st lk q => by
 unfold aApp at q
 split at q
 ·rename_i x ds e
  obtain ⟨v, e1, rfl, ns, np, t⟩ := st.es.sl i _ e
  generalize hx : H x = z at t
  cases t with
  | @lst xs _ r =>
   refine ⟨_, e1, .inl ⟨rfl, xs, SqL.of hx⟩, h o H0 S H σ env E.ax _ _ st.es q (fun v b S1 H1 g1 w1 r1 q1 => ?_) (lk.xl st)⟩
   cases b with
   | st d =>
    refine ⟨x, xs, v, rfl, rfl, g1.rs x _ np hx, small1000 (by rw [r.len]; exact q1.1), ?_⟩
    exact lk.nx _ _ S1 _ ((st.mono g1 w1).put e (.lst ((RepL.same g1.st r).snoc r1))) q1.2
   | _ => exact q1.elim
 ·exact q.elim
theorem ea_cI {i : Int} : EA K W (tC (.int i)) (aC (.int i)) := ea_c
theorem ea_cS {i : Str} : EA K W (tC (.str i)) (aC (.str i)) := ea_c
theorem ea_cB {i : Bool} : EA K W (tC (.bl i)) (aC (.bl i)) := ea_c
theorem ea_cN : EA K W (tC .non) (aC .non) := ea_c
theorem aCol_inv {g : B → AEnv → (AEnv → Prop) → Prop} {ct : AT} {ae : AE} {ax : AX} {env : AEnv} (I : Nat → List D → Prop) {items : List B} {acc : List D} {Q : List D → Prop} (h0 : I 0 acc)
  (hs : ∀ (i : Nat) x acc (R : List D → Prop), items[i]? = some x → I i acc → (∀ acc', I (i + 1) acc' → R acc') → g x env fun env1 => ct ax env1 fun c => ifB c (ae ax env1 fun y => match y with
   | .st d => R (acc ++ [d])
   | _ => False) (R acc)) (hd : ∀ acc, I items.length acc → Q acc) : aCol g ct ae ax env items acc Q := by
 have key : ∀ (r : List B) (k : Nat) (acc : List D), items.drop k = r → k ≤ items.length → I k acc → aCol g ct ae ax env r acc Q := by
  intro r
  induction r with
  | nil =>
   intro k acc e hk hi
   have : items.length ≤ k := List.drop_eq_nil_iff.mp e
   have : k = items.length := by omega
   subst this
   exact hd acc hi
  | cons x r ih =>
   intro k acc e hk hi
   have hx : items[k]? = some x := by
    have := congrArg (fun l => l[0]?) e
    simpa using this
   have hr : items.drop (k + 1) = r := by
    have := congrArg List.tail e
    simpa using this
   have hk2 : k < items.length := (List.getElem?_eq_some_iff.mp hx).1
   exact hs k x acc (fun acc => aCol g ct ae ax env r acc Q) hx hi fun acc' h => ih (k + 1) acc' hr hk2 h
 exact key items 0 acc rfl (Nat.zero_le _) h0
theorem aCol_fm {α : Type} {g : B → AEnv → (AEnv → Prop) → Prop} {ct : AT} {ae : AE} {ax : AX} {env : AEnv} {fb : α → B} (f : α → Option D) : ∀ {l : List α} {acc : List D} {Q : List D → Prop}
  (_ : ∀ a ∈ l, ∀ R : Option D → Prop, R (f a) → g (fb a) env fun env1 => ct ax env1 fun c => ifB c (ae ax env1 fun y => match y with
   | .st d => R (some d)
   | _ => False) (R none)) (_ : Q (acc ++ l.filterMap f)), aCol g ct ae ax env (l.map fb) acc Q
 | [], acc, Q, _, q => by
  show Q acc
  simpa using q
 | a :: r, acc, Q, h, q => by
  refine h a (by simp) (fun o => match o with
   | some d => aCol g ct ae ax env (r.map fb) (acc ++ [d]) Q
   | none => aCol g ct ae ax env (r.map fb) acc Q) ?_
  cases e : f a with
  | none => exact aCol_fm f (fun b hb => h b (by simp [hb])) (by rw [List.filterMap_cons, e] at q; exact q)
  | some d => exact aCol_fm f (fun b hb => h b (by simp [hb])) (by rw [List.filterMap_cons, e] at q; simpa using q)
theorem aCol_map {α : Type} {g : B → AEnv → (AEnv → Prop) → Prop} {ae : AE} {ax : AX} {env : AEnv} {fb : α → B} (f : α → D) : ∀ {l : List α} {acc : List D} {Q : List D → Prop}
  (_ : ∀ a ∈ l, ∀ R : D → Prop, R (f a) → g (fb a) env fun env1 => ae ax env1 fun y => match y with
   | .st d => R d
   | _ => False) (_ : Q (acc ++ l.map f)), aCol g aYes ae ax env (l.map fb) acc Q
 | [], acc, Q, _, q => by
  show Q acc
  simpa using q
 | a :: r, acc, Q, h, q => h a (by simp) (fun d => aCol g aYes ae ax env (r.map fb) (acc ++ [d]) Q) (aCol_map f (fun b hb => h b (by simp [hb])) (by simpa using q))
end
end
section
section
variable {κ : Type} [DecidableEq κ]
def valD (kvs : List (κ × D)) (k : κ) : Option D := (kvs.find? fun kv => decide (kv.1 = k)).map (·.2)
def putD (kvs : List (κ × D)) (k : κ) (d : D) : List (κ × D) := if (kvs.any fun kv => decide (kv.1 = k)) = true then kvs.map (fun kv => if kv.1 = k then (kv.1, d) else kv) else kvs ++ [(k, d)]
variable {K : PySem.W.Frag} {S : Hp}
theorem val_rep {k : κ} : ∀ {kvs : List (κ × V)} {kds : List (κ × D)}, kvs.map (·.1) = kds.map (·.1) → RepL K S (kvs.map (·.2)) (kds.map (·.2)) → (valD kds k = none ∧ valV kvs k = none) ∨ ∃ d v, valD kds k = some d ∧ valV kvs k = some v ∧ Rep K S v d
 | [], [], _, _ => .inl ⟨rfl, rfl⟩
 | [], _ :: _, h, _ => by simp at h
 | _ :: _, [], h, _ => by simp at h
 | (k1, v) :: r, (k2, d) :: rs, h, q => by
  simp only [List.map_cons, List.cons.injEq] at h
  obtain ⟨rfl, h⟩ := h
  cases q with
  | cons a b =>
   by_cases e : k1 = k
   ·right
    exact ⟨d, v, by simp [valD, List.find?_cons, e], by simp [valV, List.find?_cons, e], a⟩
   ·have := val_rep (k := k) h b
    have e1 : valD ((k1, d) :: rs) k = valD rs k := by simp [valD, List.find?_cons, e]
    have e2 : valV ((k1, v) :: r) k = valV r k := by simp [valV, List.find?_cons, e]
    rw [e1, e2]
    exact this
theorem map_rep {k : κ} {v : V} {d : D} (hr : Rep K S v d) : ∀ {kvs : List (κ × V)} {kds : List (κ × D)}, kvs.map (·.1) = kds.map (·.1) → RepL K S (kvs.map (·.2)) (kds.map (·.2)) →
  (kvs.map fun kv => if kv.1 = k then (kv.1, v) else kv).map (·.1) = (kds.map fun kv => if kv.1 = k then (kv.1, d) else kv).map (·.1) ∧ RepL K S ((kvs.map fun kv => if kv.1 = k then (kv.1, v) else kv).map (·.2)) ((kds.map fun kv => if kv.1 = k then (kv.1, d) else kv).map (·.2))
 | [], [], _, _ => ⟨rfl, .nil⟩
 | [], _ :: _, h, _ => by simp at h
 | _ :: _, [], h, _ => by simp at h
 | (k1, x) :: r, (k2, y) :: rs, h, q => by
  simp only [List.map_cons, List.cons.injEq] at h
  obtain ⟨rfl, h⟩ := h
  cases q with
  | cons a b =>
   obtain ⟨h1, h2⟩ := map_rep (k := k) hr h b
   by_cases e : k1 = k
   ·simp only [List.map_cons, e, if_true]
    exact ⟨by rw [h1], .cons hr h2⟩
   ·simp only [List.map_cons, e, if_false]
    exact ⟨by rw [h1], .cons a h2⟩
theorem any_rep {k : κ} : ∀ {kvs : List (κ × V)} {kds : List (κ × D)}, kvs.map (·.1) = kds.map (·.1) → (kvs.any fun kv => decide (kv.1 = k)) = (kds.any fun kv => decide (kv.1 = k))
 | [], [], _ => rfl
 | [], _ :: _, h => by simp at h
 | _ :: _, [], h => by simp at h
 | (k1, x) :: r, (k2, y) :: rs, h => by
  simp only [List.map_cons, List.cons.injEq] at h
  obtain ⟨rfl, h⟩ := h
  rw [List.any_cons, List.any_cons, any_rep h]
theorem put_rep {k : κ} {v : V} {d : D} (hr : Rep K S v d) {kvs : List (κ × V)} {kds : List (κ × D)} (h : kvs.map (·.1) = kds.map (·.1)) (q : RepL K S (kvs.map (·.2)) (kds.map (·.2))) :
  (putK kvs k v).map (·.1) = (putD kds k d).map (·.1) ∧ RepL K S ((putK kvs k v).map (·.2)) ((putD kds k d).map (·.2)) := by
 unfold putK putD
 rw [any_rep h]
 split
 ·exact map_rep hr h q
 ·rw [List.map_append, List.map_append, List.map_append, List.map_append, h]
  exact ⟨rfl, q.snoc hr⟩
theorem putD_new {kds : List (κ × D)} {k : κ} {d : D} (h : k ∉ kds.map (·.1)) : putD kds k d = kds ++ [(k, d)] := by
 unfold putD
 rw [if_neg]
 intro c
 obtain ⟨q, hq, e⟩ := List.any_eq_true.mp c
 exact h (List.mem_map.mpr ⟨q, hq, of_decide_eq_true e⟩)
theorem valD_mem {kds : List (κ × D)} {k : κ} {d : D} (nd : (kds.map (·.1)).Nodup) (h : (k, d) ∈ kds) : valD kds k = some d := by
 unfold valD
 induction kds with
 | nil => simp at h
 | cons q r ih =>
  rw [List.map_cons, List.nodup_cons] at nd
  rw [List.find?_cons]
  rcases List.mem_cons.mp h with rfl | h
  ·simp
  ·have hne : ¬ q.1 = k := fun e => nd.1 (by rw [e]; exact List.mem_map.mpr ⟨(k, d), h, rfl⟩)
   simp only [hne, decide_false]
   exact ih nd.2 h
theorem valD_none {kds : List (κ × D)} {k : κ} (h : k ∉ kds.map (·.1)) : valD kds k = none := by
 unfold valD
 rw [List.find?_eq_none.mpr (fun p hp => by
  have : p.1 ≠ k := fun e => h (by rw [← e]; exact List.mem_map.mpr ⟨p, hp, rfl⟩)
  simpa using this)]
 rfl
end
/-- a plain key -/
def D.key : D → Option Key
 | .int i => some (.inl i)
 | .str x => some (.inr x)
 | _ => none
def kD : Key → D
 | .inl i => .int i
 | .inr x => .str x
section
variable {K : PySem.W.Frag} {W : WX} {ta tb te td ty tv : TE} {aa ab ae ad ay av : AE}
theorem key_rep {H : Hp} {v : V} {d : D} {k : Key} (r : Rep K H v d) (h : d.key = some k) : v = kV k := by
 cases d <;> simp [D.key] at h
 ·subst h; rw [rep_int r]; rfl
 ·subst h; rw [rep_str r]; rfl
/-- d[k] -/
def aDget (a b : AE) (ax : AX) (env : AEnv) (Q : B → Prop) : Prop := a ax env fun x => b ax env fun y => match x.get, y.get.key with
 | .dK kvs, some k => ∃ d, valD kvs k = some d ∧ Q (x.sub d)
 | _, _ => False
def aDgetN (a b : AE) (ax : AX) (env : AEnv) (Q : B → Prop) : Prop := a ax env fun x => b ax env fun y => match x.get, y.get.key with
 | .dK kvs, some k => match valD kvs k with
  | some d => Q (x.sub d)
  | none => Q (.st .non)
 | _, _ => False
def fDin (x y : D) (Q : D → Prop) : Prop := match x.key, y with
 | some k, .dK kvs => Q (.bl (valD kvs k).isSome)
 | _, _ => False
def fDnin (x y : D) (Q : D → Prop) : Prop := match x.key, y with
 | some k, .dK kvs => Q (.bl (!(valD kvs k).isSome))
 | _, _ => False
theorem BR.dK {o : Option Addr} {H0 S H : Hp} {v : V} {b : B} {kds : List (Key × D)} (w : Wl o S H) (k : Kp o H0 H) (h : BR K o H0 S H v b) (e : b.get = .dK kds) :
  ∃ a kvs, v = .ref a ∧ Rd H a (.dK kvs) ∧ kvs.map (·.1) = kds.map (·.1) ∧ ∃ S', RepL K S' (kvs.map (·.2)) (kds.map (·.2)) ∧ ∀ x d, Rep K S' x d → BR K o H0 S H x (b.sub d) := by
 cases b with
 | st d =>
  cases e
  obtain ⟨a, xs, e1, e2, e3, e4⟩ := rep_dK h
  exact ⟨a, xs, e1, Same.rd w.1 e2, e3, S, e4, fun x d r => r⟩
 | ow a d =>
  cases e
  obtain ⟨e1, _, _, t⟩ := h
  generalize hx : H a = x at t
  cases t with
  | dK r1 r2 => exact ⟨a, _, e1, Rd.of hx, r1, S, r2, fun x d r => r⟩
 | br d =>
  cases e
  obtain ⟨a, xs, e1, e2, e3, e4⟩ := rep_dK (show Rep K (offp o H0) v (.dK kds) from h)
  exact ⟨a, xs, e1, Same.rd (off_same k) e2, e3, _, e4, fun x d r => r⟩
 | _ => cases e
theorem ea_dget (hd : EA K W td ad) (hy : EA K W ty ay) : EA K W (tDGet td ty) (aDget ad ay) := fun o H0 S H σ env ax Q Qc es q k xl =>
 hd o H0 S H σ env ax _ _ es q (fun v b S1 H1 g1 w1 r1 q1 =>
  hy o H0 S1 H1 σ env ax _ _ (es.mono g1 w1) q1 (fun v2 b2 S2 H2 g2 w2 r2 q2 => by
   have kp := (g1.trans g2).kp es.kp
   split at q2
   ·rename_i kvs kk e1 e2
    obtain ⟨a, kvv, rfl, h1, h2, S', h3, h4⟩ := (r1.mono g2).dK w2 kp e1
    obtain ⟨d, hd, q2⟩ := q2
    rcases val_rep (k := kk) h2 h3 with ⟨c, _⟩ | ⟨d', x, c1, c2, c3⟩
    ·rw [hd] at c; cases c
    ·rw [hd] at c1
     cases c1
     rw [key_rep (r2.now w2 kp) e2]
     exact ⟨a, x, rfl, .inl ⟨kvv, kk, h1, rfl, c2.symm⟩, k x _ S2 H2 (g1.trans g2) w2 (h4 x d c3) q2⟩
   ·exact q2.elim) (xl.mono g1)) xl
theorem ea_din (hy : EA K W ty ay) (hd : EA K W td ad) : EA K W (tDIn ty td) (aOp fDin ay ad) := fun o H0 S H σ env ax Q Qc es q k xl =>
 hy o H0 S H σ env ax _ _ es q (fun v b S1 H1 g1 w1 r1 q1 =>
  hd o H0 S1 H1 σ env ax _ _ (es.mono g1 w1) q1 (fun v2 b2 S2 H2 g2 w2 r2 q2 => by
   have kp := (g1.trans g2).kp es.kp
   unfold fDin at q2
   split at q2
   ·rename_i kk kvs e1 e2
    obtain ⟨a, kvv, rfl, h1, h2, S', h3, h4⟩ := r2.dK w2 kp e2
    rw [key_rep ((r1.mono g2).now w2 kp) e1]
    refine ⟨a, valV kvv kk, rfl, .inl ⟨kvv, kk, h1, rfl, rfl⟩, ?_⟩
    have : (valV kvv kk).isSome = (valD kvs kk).isSome := by
     rcases val_rep (k := kk) h2 h3 with ⟨c, c'⟩ | ⟨d', x, c1, c2, c3⟩
     ·rw [c, c']; rfl
     ·rw [c1, c2]; rfl
    rw [this]
    exact k _ (.st (.bl _)) S2 H2 (g1.trans g2) w2 (BR.ofSc rfl) q2
   ·exact q2.elim) (xl.mono g1)) xl
theorem ea_dnin (hy : EA K W ty ay) (hd : EA K W td ad) : EA K W (tDNotIn ty td) (aOp fDnin ay ad) := fun o H0 S H σ env ax Q Qc es q k xl =>
 hy o H0 S H σ env ax _ _ es q (fun v b S1 H1 g1 w1 r1 q1 =>
  hd o H0 S1 H1 σ env ax _ _ (es.mono g1 w1) q1 (fun v2 b2 S2 H2 g2 w2 r2 q2 => by
   have kp := (g1.trans g2).kp es.kp
   unfold fDnin at q2
   split at q2
   ·rename_i kk kvs e1 e2
    obtain ⟨a, kvv, rfl, h1, h2, S', h3, h4⟩ := r2.dK w2 kp e2
    rw [key_rep ((r1.mono g2).now w2 kp) e1]
    refine ⟨a, valV kvv kk, rfl, .inl ⟨kvv, kk, h1, rfl, rfl⟩, ?_⟩
    have : (valV kvv kk).isSome = (valD kvs kk).isSome := by
     rcases val_rep (k := kk) h2 h3 with ⟨c, c'⟩ | ⟨d', x, c1, c2, c3⟩
     ·rw [c, c']; rfl
     ·rw [c1, c2]; rfl
    rw [this]
    exact k _ (.st (.bl _)) S2 H2 (g1.trans g2) w2 (BR.ofSc rfl) q2
   ·exact q2.elim) (xl.mono g1)) xl
/-- {} -/
def aDnew (ax : AX) (env : AEnv) (Q : D → Prop) : Prop := Q (.dK [])
theorem en_dnew : EN K W tDNewK aDnew := fun o H0 S H σ env ax Q Qc es q k xl => fun p hp => by
 have ns := es.wl.1.free hp
 refine k p (.dK []) S _ (GrO.lay hp) (es.wl.put ns (es.wl.np hp)) hp ns ?_ q
 rw [upd_same]
 exact .dK rfl .nil
/-- d[k] = v, d one's own -/
def aDput (i : Nat) (a b : AE) (E : AEnds) (env : AEnv) : Prop := match slot env i with
 | some (.ow x (.dK kvs)) => b E.ax env fun y => a E.ax env fun z => match z.get.key, y with
  | some k, .st d => kvs.length ≤ 1000 ∧ E.nx (env.set i (some (.ow x (.dK (putD kvs k d)))))
  | _, _ => False
 | _ => False
theorem sa_dput (i : Nat) (hy : EA K W ty ay) (hv : EA K W tv av) : SA K W (sDPut (tVar i) ty tv) (aDput i ay av) := fun o S0 H0 S H σ env E Dc st lk q => by
 unfold aDput at q
 split at q
 ·rename_i x kvs e
  refine hv o H0 S H σ env E.ax _ _ st.es q (fun v b S1 H1 g1 w1 r1 q1 => ?_) (lk.xl st)
  have st1 := st.mono g1 w1
  obtain ⟨vx, e1, rfl, ns, np, t⟩ := st1.es.sl i _ e
  generalize hx : H1 x = z at t
  cases t with
  | @dK kvv _ t1 t2 =>
   refine ⟨_, e1, hy o H0 S1 H1 σ env E.ax _ _ st1.es q1 (fun v2 b2 S2 H2 g2 w2 r2 q2 => ?_) (lk.xl st1)⟩
   have st2 := st1.mono g2 w2
   split at q2
   ·rename_i kk d ek
    rw [key_rep (r2.now w2 st2.es.kp) ek]
    refine ⟨x, _, rfl, DPut.k (g2.rs x _ np hx) (small1000 ?_), ?_⟩
    ·have : kvv.length = kvs.length := by
      have := congrArg List.length t1
      simpa using this
     rw [this]
     exact q2.1
    ·obtain ⟨p1, p2⟩ := put_rep (k := kk) (Rep.same g2.st r1) t1 (RepL.same g2.st t2)
     exact lk.nx _ _ S2 _ (st2.put e (.dK p1 p2)) q2.2
   ·exact q2.elim
 ·exact q.elim
/-- len(d) -/
def fLenD (x : D) (Q : D → Prop) : Prop := match x with
 | .dK ds => Q (.int (ds.length : Nat))
 | _ => False
end
end
section
/-- a def that raises nothing here -/
theorem FnOk.quiet {P : Program} {w : World} {K : PySem.W.Frag} {mg : Str → Option Value} {base : Heap} {k : Nat} {f : Addr} {fd : FuncData} {ps : List Str} {sp : Sp} (F : FnOk P w K mg base (L2.CX P w) k f fd ps sp) :
  FnOk P w K mg base CX0 k f fd ps (fun vs H Q _ => sp vs H Q fun _ _ _ => False) := ⟨fun vs H Q E h => F.len vs H Q _ h, fun A outer s H args us vs Q E hr he hb hv h => by
 refine codeAny_mono (F.run A outer s H args us vs Q _ hr he hb hv h) fun r s' hq => ?_
 cases r with
 | error e =>
  obtain ⟨_, _, _, _, _, _, _, _, _, _, _, _, z⟩ := hq
  exact z.elim
 | ok fl =>
  cases fl with
  | ret u => exact hq
  | next => exact hq
  | brk => exact hq
  | cont => exact hq⟩
section
variable {K : PySem.W.Frag} {W : WX} {ta tb te td ty tv : TE} {aa ab ae ad ay av : AE}
theorem lookup_rep {S : Hp} {f : Str} {d : D} : ∀ {fs : List (Str × V)} {fds : List (Str × D)}, fs.map (·.1) = fds.map (·.1) → RepL K S (fs.map (·.2)) (fds.map (·.2)) → fds.lookup f = some d → ∃ v, fs.lookup f = some v ∧ Rep K S v d
 | [], [], _, _, h => by cases h
 | [], _ :: _, h, _, _ => by simp at h
 | _ :: _, [], h, _, _ => by simp at h
 | (k1, x) :: r, (k2, y) :: rs, h, q, e => by
  simp only [List.map_cons, List.cons.injEq] at h
  obtain ⟨rfl, h⟩ := h
  cases q with
  | cons a b =>
   rw [List.lookup_cons] at e ⊢
   split at e
   ·cases e
    exact ⟨x, rfl, a⟩
   ·exact lookup_rep h b e
theorem lookup_none {f : Str} : ∀ {fs : List (Str × V)} {fds : List (Str × D)}, fs.map (·.1) = fds.map (·.1) → fds.lookup f = none → fs.lookup f = none
 | [], [], _, _ => rfl
 | [], _ :: _, h, _ => by simp at h
 | _ :: _, [], h, _ => by simp at h
 | (k1, x) :: r, (k2, y) :: rs, h, e => by
  simp only [List.map_cons, List.cons.injEq] at h
  obtain ⟨rfl, h⟩ := h
  rw [List.lookup_cons] at e ⊢
  split at e
  ·cases e
  ·exact lookup_none h e
theorem BR.obj {o : Option Addr} {H0 S H : Hp} {v : V} {b : B} {C : Addr} {fds : List (Str × D)} (w : Wl o S H) (k : Kp o H0 H) (h : BR K o H0 S H v b) (e : b.get = .obj C fds) :
  ∃ a dx fs, v = .ref a ∧ H a = some (.ins C dx fs) ∧ fs.map (·.1) = fds.map (·.1) ∧ ∃ S', RepL K S' (fs.map (·.2)) (fds.map (·.2)) ∧ ∀ x d, Rep K S' x d → BR K o H0 S H x (b.sub d) := by
 cases b with
 | st d =>
  cases e
  obtain ⟨a, dx, fs, e1, e2, e3, e4⟩ := rep_obj h
  exact ⟨a, dx, fs, e1, w.1 _ _ e2, e3, S, e4, fun x d r => r⟩
 | ow a d =>
  cases e
  obtain ⟨e1, _, _, t⟩ := h
  generalize hx : H a = x at t
  cases t with
  | ins r1 r2 => exact ⟨a, _, _, e1, hx, r1, S, r2, fun x d r => r⟩
 | br d =>
  cases e
  obtain ⟨a, dx, fs, e1, e2, e3, e4⟩ := rep_obj (show Rep K (offp o H0) v (.obj C fds) from h)
  exact ⟨a, dx, fs, e1, off_same k _ _ e2, e3, _, e4, fun x d r => r⟩
 | _ => cases e
def aFld (K : PySem.W.Frag) (f : Str) (a : AE) (ax : AX) (env : AEnv) (Q : B → Prop) : Prop := a ax env fun x => match x.get with
 | .obj C fs => Cls K C ∧ NoAttr K C f ∧ ∃ d, fs.lookup f = some d ∧ Q (x.sub d)
 | _ => False
theorem ea_fld {f : Str} (ha : EA K W ta aa) : EA K W (tFld K ta f) (aFld K f aa) := fun o H0 S H σ env ax Q Qc es q k xl =>
 ha o H0 S H σ env ax _ _ es q (fun v b S1 H1 g1 w1 r1 q1 => by
  split at q1
  ·rename_i C fds e
   obtain ⟨c1, c2, d, hd, q1⟩ := q1
   obtain ⟨a, dx, fs, rfl, h1, h2, S', h3, h4⟩ := r1.obj w1 (g1.kp es.kp) e
   obtain ⟨v, e1, e2⟩ := lookup_rep h2 h3 hd
   exact ⟨a, C, dx, fs, v, rfl, h1, c1, c2, e1, k v _ S1 H1 g1 w1 (h4 v d e2) q1⟩
  ·exact q1.elim) xl
def aProp (C : Addr) (sp : ASp) (m : Bool) (a : AE) (ax : AX) (env : AEnv) (Q : B → Prop) : Prop := a ax env fun x => match x.get with
 | .obj C' _ => C' = C ∧ sp [coe1 m x] (fun d => Q (.st d)) fun _ _ => False
 | _ => False
theorem ea_prop {C : Addr} {sp : ASp} (m : Bool) (ha : EA K W ta aa) : EA K W (tProp C (cSp K sp) [] E0 ta) (aProp C sp m aa) := fun o H0 S H σ env ax Q Qc es q k xl =>
 ha o H0 S H σ env ax _ _ es q (fun v b S1 H1 g1 w1 r1 q1 => by
  split at q1
  ·rename_i C' fds e
   obtain ⟨rfl, q1⟩ := q1
   have kp := g1.kp es.kp
   obtain ⟨a, dx, fs, rfl, h1, h2, S', h3, h4⟩ := r1.obj w1 kp e
   exact ⟨a, dx, fs, rfl, h1, o, S1, [coe1 m b], _, _, w1, .cons (r1.coe w1 kp m) .nil, (fun c hc => by rw [List.mem_singleton.mp hc]; exact coe_no m b), q1, fun v d S' H' g w r q => k v (.st d) S' H' (g1.trans g) w r q, fun _ _ _ _ _ _ _ _ _ q => q.elim⟩
  ·exact q1.elim) xl
def aMeth (C : Addr) (n : Str) (sp : ASp) (ms : List Bool) (a : AE) (r : AA) (ax : AX) (env : AEnv) (Q : B → Prop) : Prop := a ax env fun x => match x.get with
 | .obj C' fs => C' = C ∧ fs.lookup n = none ∧ r ax env fun bs => sp (coes ms (x :: bs)) (fun d => Q (.st d)) (ax env)
 | _ => False
def aMeth0 (C : Addr) (n : Str) (sp : ASp) (ms : List Bool) (a : AE) (r : AA) (ax : AX) (env : AEnv) (Q : B → Prop) : Prop := a ax env fun x => match x.get with
 | .obj C' fs => C' = C ∧ fs.lookup n = none ∧ r ax env fun bs => sp (coes ms (x :: bs)) (fun d => Q (.st d)) fun _ _ => False
 | _ => False
theorem ea_meth {C : Addr} {n : Str} {sp : ASp} {c : Nat} {t : TA} {r : AA} (ms : List Bool) (ha : EA K W ta aa) (hl : EL K W c t r) : EA K W (tMeth C n (cSp K sp) [] E0 ta t) (aMeth0 C n sp ms aa r) := fun o H0 S H σ env ax Q Qc es q k xl =>
 ha o H0 S H σ env ax _ _ es q (fun v b S1 H1 g1 w1 r1 q1 => by
  split at q1
  ·rename_i C' fds e
   obtain ⟨rfl, hn, q1⟩ := q1
   obtain ⟨a, dx, fs, rfl, h1, h2, S', h3, h4⟩ := r1.obj w1 (g1.kp es.kp) e
   refine ⟨a, dx, fs, rfl, h1, lookup_none h2 hn, hl o H0 S1 H1 σ env ax _ _ (es.mono g1 w1) q1 (fun vs bs S2 H2 g2 w2 r2 _ q2 => ?_) (xl.mono g1)⟩
   obtain ⟨p1, p2⟩ := coes_ok w2 ((g1.trans g2).kp es.kp) ms (.cons (r1.mono g2) r2)
   rw [List.append_nil]
   exact ⟨o, S2, _, _, _, w2, p1, p2, q2, fun v d S' H' g w r q => k v (.st d) S' H' ((g1.trans g2).trans g) w r q, fun _ _ _ _ _ _ _ _ _ q => q.elim⟩
  ·exact q1.elim) xl
abbrev ISp := List B → (List (Str × D) → Prop) → AX0 → Prop
/-- H without x -/
def offA (x : Addr) (H : Hp) : Hp := fun a => if a = x then none else H a
theorem offA_same {x : Addr} {H : Hp} : offA x H x = none := if_pos rfl
theorem offA_ne {x a : Addr} {H : Hp} (h : a ≠ x) : offA x H a = H a := if_neg h
theorem offA_sub {x : Addr} {H : Hp} : Same (offA x H) H := fun a u h => by
 unfold offA at h
 split at h
 ·cases h
 ·exact h
def cIn (K : PySem.W.Frag) (C : Addr) (sp : ISp) : Sp := fun vs H Q E => ∃ (x dx : Addr) (ws : List V) (o : Option Addr) (S : Hp) (bs : List B) (Qa : List (Str × D) → Prop) (Xa : AX0), vs = .ref x :: ws ∧ H x = some (.ins C dx []) ∧ S x = none ∧ o ≠ some x ∧ Wl o S H ∧
 Paired (BR K o (offA x H) S H) ws bs ∧ (∀ b ∈ bs, b.isOw = false) ∧ sp bs Qa Xa ∧
 (∀ dx' fv fs S' H', GrO o S (offA x H) S' H' → Wl o S' H' → S' x = none → H' x = some (.ins C dx' fv) → fv.map (·.1) = fs.map (·.1) → RepL K S' (fv.map (·.2)) (fs.map (·.2)) → Qa fs → Q .non H') ∧
 (∀ C' fs dd S' H', GrO o S (offA x H) S' H' → Wl o S' H' → offA x H dd = none → Exn K S' H' dd fs → Xa C' fs → E (.ref C') (some dd) H')
theorem cIn_len {n : Nat} {C : Addr} {sp : ISp} (h : ∀ bs Q X, sp bs Q X → bs.length = n) {vs : List V} {H : Hp} {Q : VK} {E : XK} (q : cIn K C sp vs H Q E) : vs.length = n + 1 := by
 obtain ⟨x, dx, ws, o, S, bs, Qa, Xa, rfl, _, _, _, _, hp, _, hs, _⟩ := q
 rw [List.length_cons, paired_len hp, h bs Qa Xa hs]
theorem st_init {o : Option Addr} {S H : Hp} {N : List Str} {x C dx : Addr} {ws : List V} {bs : List B} (w : Wl o S H) (hx : H x = some (.ins C dx [])) (sx : S x = none) (np : o ≠ some x) (hp : Paired (BR K o (offA x H) S H) ws bs) (no : ∀ b ∈ bs, b.isOw = false) :
  ST K o S (offA x H) S H (L2.start N (.ref x :: ws)) (some (.ow x (.obj C [])) :: (bs.map some ++ List.replicate (N.length - (bs.length + 1)) none)) := by
 have hl := paired_len hp
 refine ⟨⟨Same.refl _, fun a u _ h => offA_sub _ _ h, fun _ h n t => ⟨h, t.same n fun _ _ h => offA_sub _ _ h⟩, fun a h => ?_⟩, ⟨w, fun a u _ h => offA_sub _ _ h, ?_, fun i b h => ?_⟩, fun i a d h => ?_, fun i j a d d' h1 h2 => ?_⟩
 ·cases q : offA x H a with
  | none => exact absurd q h
  | some u => exact ne_none (offA_sub _ _ q)
 ·unfold L2.start
  simp [hl]
 ·cases i with
  | zero =>
   cases h
   refine ⟨.ref x, rfl, rfl, sx, np, ?_⟩
   rw [hx]
   exact .ins rfl .nil
  | succ i =>
   have h1 := slot_start bs _ i b h
   obtain ⟨v, e1, e2⟩ := paired_getR hp h1
   refine ⟨v, ?_, e2⟩
   unfold L2.start
   rw [List.map_cons, List.cons_append, List.getElem?_cons_succ, List.getElem?_append_left (by rw [List.length_map]; exact (List.getElem?_eq_some_iff.mp e1).1), List.getElem?_map, e1]
   rfl
 ·cases i with
  | zero => cases h; exact offA_same
  | succ i =>
   have := no _ (List.mem_of_getElem? (slot_start bs _ i _ h))
   cases this
 ·cases i with
  | zero => cases j with
   | zero => rfl
   | succ j =>
    have := no _ (List.mem_of_getElem? (slot_start bs _ j _ h2))
    cases this
  | succ i =>
   have := no _ (List.mem_of_getElem? (slot_start bs _ i _ h1))
   cases this
/-- an __init__ that may raise -/
theorem fn_IX {C : Addr} {sp : ISp} {t : TS} {as : AS} {N : List Str} {vs : List V} {H : Hp} {Q : VK} {E : XK} (hs : SA K (fun cls d _ H' => E cls d H') t as) (h : cIn K C sp vs H Q E)
  (hab : ∀ x bs Qa Xa, sp bs Qa Xa → as ⟨fun env => ∃ fs, slot env 0 = some (.ow x (.obj C fs)) ∧ Qa fs, fun _ => False, fun _ => False, fun _ => False, fun _ => False, fun _ => Xa⟩ (some (.ow x (.obj C [])) :: (bs.map some ++ List.replicate (N.length - (bs.length + 1)) none))) : t { nx := fun _ H' => Q .non H', rt := Q } (L2.start N vs) H := by
 obtain ⟨x, dx, ws, o, S, bs, Qa, Xa, rfl, hx, sx, np, w, hp, no, q, k1, k2⟩ := h
 refine hs o S (offA x H) S H _ _ ⟨fun env => ∃ fs, slot env 0 = some (.ow x (.obj C fs)) ∧ Qa fs, fun _ => False, fun _ => False, fun _ => False, fun _ => False, fun _ => Xa⟩ _ (st_init w hx sx np hp no) ⟨fun σ env S' H' st q => ?_, fun _ _ _ _ _ q => q.elim, fun _ _ _ _ _ q => q.elim, fun _ _ _ _ _ _ _ q => q.elim, fun _ _ _ _ _ _ _ _ _ q => q.elim, fun σ env C' fs dd S' H' st n e q => k2 C' fs dd S' H' st.gr st.es.wl n e q⟩ (hab x bs Qa Xa q)
 obtain ⟨fs, e1, e2⟩ := q
 obtain ⟨v, _, rfl, ns, _, t⟩ := st.es.sl 0 _ e1
 generalize hx' : H' x = z at t
 cases t with
 | ins r1 r2 => exact k1 _ _ fs S' H' st.gr st.es.wl ns hx' r1 r2 e2
/-- one that raises nothing -/
theorem fn_I {C : Addr} {sp : ISp} {t : TS} {as : AS} {N : List Str} {vs : List V} {H : Hp} {Q : VK} {E : XK} (hs : SA K (fun _ _ _ _ => False) t as) (h : cIn K C sp vs H Q E)
  (hab : ∀ x bs Qa Xa, sp bs Qa Xa → as ⟨fun env => ∃ fs, slot env 0 = some (.ow x (.obj C fs)) ∧ Qa fs, fun _ => False, fun _ => False, fun _ => False, fun _ => False, fun _ _ _ => False⟩ (some (.ow x (.obj C [])) :: (bs.map some ++ List.replicate (N.length - (bs.length + 1)) none))) : t { nx := fun _ H' => Q .non H', rt := Q } (L2.start N vs) H := by
 obtain ⟨x, dx, ws, o, S, bs, Qa, Xa, rfl, hx, sx, np, w, hp, no, q, k1, k2⟩ := h
 refine hs o S (offA x H) S H _ _ ⟨fun env => ∃ fs, slot env 0 = some (.ow x (.obj C fs)) ∧ Qa fs, fun _ => False, fun _ => False, fun _ => False, fun _ => False, fun _ _ _ => False⟩ _ (st_init w hx sx np hp no) ⟨fun σ env S' H' st q => ?_, fun _ _ _ _ _ q => q.elim, fun _ _ _ _ _ q => q.elim, fun _ _ _ _ _ _ _ q => q.elim, fun _ _ _ _ _ _ _ _ _ q => q.elim, fun _ _ _ _ _ _ _ _ _ _ q => q.elim⟩ (hab x bs Qa Xa q)
 obtain ⟨fs, e1, e2⟩ := q
 obtain ⟨v, _, rfl, ns, _, t⟩ := st.es.sl 0 _ e1
 generalize hx' : H' x = z at t
 cases t with
 | ins r1 r2 => exact k1 _ _ fs S' H' st.gr st.es.wl ns hx' r1 r2 e2
def putFD (f : Str) (d : D) : List (Str × D) → List (Str × D)
 | [] => [(f, d)]
 | (g, x) :: r => if g = f then (g, d) :: r else (g, x) :: putFD f d r
theorem putF_rep {S : Hp} {f : Str} {v : V} {d : D} (hr : Rep K S v d) : ∀ {fs : List (Str × V)} {fds : List (Str × D)}, fs.map (·.1) = fds.map (·.1) → RepL K S (fs.map (·.2)) (fds.map (·.2)) →
  (putF f v fs).map (·.1) = (putFD f d fds).map (·.1) ∧ RepL K S ((putF f v fs).map (·.2)) ((putFD f d fds).map (·.2))
 | [], [], _, _ => ⟨rfl, .cons hr .nil⟩
 | [], _ :: _, h, _ => by simp at h
 | _ :: _, [], h, _ => by simp at h
 | (k1, x) :: r, (k2, y) :: rs, h, q => by
  simp only [List.map_cons, List.cons.injEq] at h
  obtain ⟨rfl, h⟩ := h
  cases q with
  | cons a b =>
   unfold putF putFD
   split
   ·exact ⟨by rw [List.map_cons, List.map_cons, h], .cons hr b⟩
   ·obtain ⟨h1, h2⟩ := putF_rep hr h b
    exact ⟨by rw [List.map_cons, List.map_cons, h1], .cons a h2⟩
/-- self.f = e -/
def aSetF (K : PySem.W.Frag) (i : Nat) (f : Str) (a : AE) (E : AEnds) (env : AEnv) : Prop := a E.ax env fun y => match slot env i, y with
 | some (.ow x (.obj C fs)), .st d => Cls K C ∧ NoAttr K C f ∧ fs.length ≤ 900 ∧ E.nx (env.set i (some (.ow x (.obj C (putFD f d fs)))))
 | _, _ => False
theorem sa_fld {f : Str} (i : Nat) (hv : EA K W tv av) : SA K W (sFld K (tVar i) tv f) (aSetF K i f av) := fun o S0 H0 S H σ env E Dc st lk q =>
 hv o H0 S H σ env E.ax _ _ st.es q (fun v b S1 H1 g1 w1 r1 q1 => by
  have st1 := st.mono g1 w1
  split at q1
  ·rename_i x C fs d e
   obtain ⟨c1, c2, c3, q1⟩ := q1
   obtain ⟨vx, e1, rfl, ns, np, t⟩ := st1.es.sl i _ e
   generalize hx : H1 x = z at t
   cases t with
   | @ins _ dx fv _ t1 t2 =>
    have hl : fv.length = fs.length := by
     have := congrArg List.length t1
     simpa using this
    refine ⟨_, e1, x, C, dx, fv, rfl, hx, c1, c2, by omega, ?_⟩
    obtain ⟨p1, p2⟩ := putF_rep (f := f) r1 t1 t2
    exact lk.nx _ _ S1 _ (st1.put e (.ins p1 p2)) q1
  ·exact q1.elim) (lk.xl st)
/-- C(..) -/
def aMake (C : Addr) (sp : ISp) (ms : List Bool) (a : AA) (ax : AX) (env : AEnv) (Q : B → Prop) : Prop := a ax env fun bs => sp (coes ms bs) (fun fs => Q (.st (.obj C fs))) (ax env)
def aMake0 (C : Addr) (sp : ISp) (ms : List Bool) (a : AA) (ax : AX) (env : AEnv) (Q : B → Prop) : Prop := a ax env fun bs => sp (coes ms bs) (fun fs => Q (.st (.obj C fs))) fun _ _ => False
theorem make_ok {o : Option Addr} {H0 S H : Hp} {C : Addr} {sp : ISp} {vs : List V} {bs : List B} {ms : List Bool} {Qa : List (Str × D) → Prop} {Xa : AX0} {Qc : VK} {E : XK} (w : Wl o S H) (kp : Kp o H0 H) (r : Paired (BR K o H0 S H) vs bs) (q : sp (coes ms bs) Qa Xa)
  (k : ∀ x fs S' H', GrO o S H S' H' → Wl o S' H' → Rep K S' (.ref x) (.obj C fs) → Qa fs → Qc (.ref x) H') (kx : ∀ C' fs dd S' H', GrO o S H S' H' → Wl o S' H' → H dd = none → Exn K S' H' dd fs → Xa C' fs → E (.ref C') (some dd) H')
  {x dx : Addr} (nx : H x = none) (ndx : H dx = none) (ne : dx ≠ x) : cIn K C sp (.ref x :: vs) (upd (upd H dx (.own x)) x (.ins C dx [])) (fun v H2 => v = .non ∧ Qc (.ref x) H2) E := by
 obtain ⟨p1, p2⟩ := coes_ok w kp ms r
 have sdx : S dx = none := w.1.free ndx
 have sx : S x = none := w.1.free nx
 have w1 : Wl o (upd S dx (.own x)) (upd H dx (.own x)) := w.new ndx
 have nx1 : upd H dx (.own x) x = none := (upd_ne ne.symm).trans nx
 have sx1 : upd S dx (.own x) x = none := (upd_ne ne.symm).trans sx
 have w2 : Wl o (upd S dx (.own x)) (upd (upd H dx (.own x)) x (.ins C dx [])) := w1.put sx1 (w.np nx)
 have g1 : GrO o S H (upd S dx (.own x)) (upd H dx (.own x)) := GrO.new w ndx
 have e0 : offA x (upd (upd H dx (.own x)) x (.ins C dx [])) = upd H dx (.own x) := by
  funext a
  by_cases h : a = x
  ·subst h; rw [offA_same, nx1]
  ·rw [offA_ne h, upd_ne h]
 have sH : Same H (upd H dx (.own x)) := same_upd ndx
 have p3 : Paired (BR K o (upd H dx (.own x)) (upd S dx (.own x)) (upd (upd H dx (.own x)) x (.ins C dx []))) vs (coes ms bs) := by
  refine L2.Paired.mapP (pairBR_mono (g1.trans (GrO.lay (u := .ins C dx []) nx1)) p1) fun v b h => ?_
  cases b with
  | br d =>
   refine Rep.same (fun a u e => ?_) (show Rep K (offp o H) v d from h)
   unfold offp at e ⊢
   split at e
   ·cases e
   ·rename_i c
    rw [if_neg c]
    exact sH _ _ e
  | _ => exact h
 refine ⟨x, dx, vs, o, upd S dx (.own x), coes ms bs, Qa, Xa, rfl, upd_same, sx1, w.np nx, w2, by rw [e0]; exact p3, p2, q, ?_, ?_⟩
 ·intro dx' fv fs S' H' g w' ns hx h1 h2 q
  rw [e0] at g
  have g2 := g1.trans g
  refine ⟨rfl, k x fs (upd S' x (.ins C dx' fv)) H' (g2.fix nx ns) (w'.fix hx ns (w.np nx)) ?_ q⟩
  exact .obj upd_same h1 (RepL.same (same_upd ns) h2)
 ·intro C' fs dd S' H' g w' n e q
  rw [e0] at g n
  exact kx C' fs dd S' H' (g1.trans g) w' (g1.bk n) e q
theorem ea_make {C : Addr} {sp : ISp} {n : Nat} {t : TA} {a : AA} (ms : List Bool) (h : EL K W n t a) : EA K W (tMake C (cIn K C sp) [] E0 t) (aMake0 C sp ms a) := fun o H0 S H σ env ax Q Qc es q k xl =>
 h o H0 S H σ env ax _ _ es q (fun vs bs S1 H1 g1 w1 r1 _ q1 => by
  intro x dx nx ndx ne
  rw [List.append_nil]
  exact make_ok w1 (g1.kp es.kp) r1 q1 (fun x fs S' H' g w r q => k (.ref x) (.st (.obj C fs)) S' H' (g1.trans g) w r q) (fun _ _ _ _ _ _ _ _ _ q => q.elim) nx ndx ne) xl
theorem ea_makeX {C : Addr} {sp : ISp} {n : Nat} {t : TA} {a : AA} (ms : List Bool) (h : EL K W n t a) : EA K W (tMakeS C (cIn K C sp) (WE W) t) (aMake C sp ms a) := fun o H0 S H σ env ax Q Qc es q k xl =>
 h o H0 S H σ env ax _ _ es q (fun vs bs S1 H1 g1 w1 r1 _ q1 => by
  intro x dx nx ndx ne
  exact make_ok w1 (g1.kp es.kp) r1 q1 (fun x fs S' H' g w r q => k (.ref x) (.st (.obj C fs)) S' H' (g1.trans g) w r q) (fun C' fs dd S' H' g w n e q => xl C' fs dd S' H' (g1.trans g) w (g1.bk n) e q) nx ndx ne) xl
def aRaise (C : Addr) (fld : Str) (a : AE) (E : AEnds) (env : AEnv) : Prop := a E.ax env fun b => match b with
 | .st d => E.ax env C [(fld, d)]
 | _ => False
theorem sa_raise {C : Addr} {fld : Str} (h : EA K W te ae) : SA K W (fun _ σ H => tMkO C (spXI C fld) [] (tCons te tNil) σ H fun cls d H' => W cls d σ H') (aRaise C fld ae) := fun o S0 H0 S H σ env E Dc st lk q =>
 h o H0 S H σ env E.ax _ _ st.es q (fun v b S1 H1 g1 w1 r1 q1 => by
  cases b with
  | st d =>
   have st1 := st.mono g1 w1
   refine mkx (C := C) (fld := fld) (y := v) (H1 := H1) (Q := fun cls d H' => W cls d σ H') fun dd nd => lk.ex σ env C [(fld, d)] dd S1 _ (st1.mono (GrO.lay nd) (w1.put (w1.1.free nd) (w1.np nd))) (st1.gr.bk nd) ⟨[(fld, v)], upd_same, rfl, .cons r1 .nil⟩ q1
  | _ => exact q1.elim) (lk.xl st)
theorem sa_never : SA K W tNever aNever := fun o S0 H0 S H σ env E Dc st lk q => q
end
end
section
def iF (t p c : V) : List (Str × V) := putF "fee" c (putF "place" p (putF "title" t []))
theorem fn1 : ¬ (("title" : Str) = "fee") := by decide +kernel
theorem fn2 : ¬ (("title" : Str) = "place") := by decide +kernel
theorem fn3 : ¬ (("place" : Str) = "fee") := by decide +kernel
/-- a class of instruments -/
structure Kl (K : PySem.W.Frag) (C : Addr) : Prop where
 cl : Cls K C
 nT : NoAttr K C "title"
 nP : NoAttr K C "place"
 nF : NoAttr K C "fee"
 nS : NoAttr K C "shows"
 nO : NoAttr K C "stops"
 ic : C8.InsC K C
theorem Kl.ty {K : PySem.W.Frag} {C a dx : Addr} {fs : List (Str × V)} {H : Hp} (k : Kl K C) (ha : H a = some (.ins C dx fs)) : TyX K H (.ref a) (.ref C) := .base (.ins ha k.cl k.ic.ha k.ic.hn k.ic.htk k.ic.hm)
section
variable {P : Program} {w : World} {K : PySem.W.Frag} {mg : Str → Option Value} {base : Heap} {f fA fB fC fX fY C CS CL CI : Addr} {fd fdA fdB fdC fdX fdY : FuncData}
def spIInit (K : PySem.W.Frag) : Sp := fun vs H Q _ => ∃ (x dx C : Addr) (t p c : V), vs = [.ref x, t, p, c] ∧ H x = some (.ins C dx []) ∧ Kl K C ∧ Q .non (upd H x (.ins C dx (iF t p c)))
abbrev sInstrument_init : Stmt := inClass (topS 23) 0
abbrev nInstrument_init : List Str := ["self", "name", "post", "cost"]
theorem scInstrument_init : FnScope nInstrument_init ["self", "name", "post", "cost"] (defScope sInstrument_init) := by sleep 2000
theorem ok_iinit (F : Fun K "__init__" "Instrument.__init__" sInstrument_init f fd) : FnOk P w K mg base CX0 1 f fd ["self", "name", "post", "cost"] (spIInit K) := by
 refine F.ok scInstrument_init (fun vs H Q E h => ?_) (fun cdv A outer s H vs Q E hr h => ?_)
 ·obtain ⟨x, dx, C, t, p, c, rfl, _⟩ := h
  rfl
 ·obtain ⟨x, dx, C, t, p, c, rfl, hx, k, q⟩ := h
  refine ⟨_, (pss_cons (ps_fld (pv 0) (pv 1) rfl)
   (pss_cons (ps_fld (pv 0) (pv 2) rfl)
   (pss_one (ps_fld (pv 0) (pv 3) rfl)))), ?_⟩
  refine ⟨_, rfl, _, rfl, x, C, dx, _, rfl, hx, k.cl, k.nT, by decide, _, rfl, _, rfl, x, C, dx, _, rfl, upd_same, k.cl, k.nP, by show 1 < 1000; decide, _, rfl, _, rfl, x, C, dx, _, rfl, upd_same, k.cl, k.nF, by show 2 < 1000; decide, ?_⟩
  rw [upd_upd, upd_upd]
  exact q
abbrev sInstrument_name : Stmt := inClass (topS 23) 1
abbrev nInstrument_name : List Str := ["self"]
theorem scInstrument_name : FnScope nInstrument_name ["self"] (defScope sInstrument_name) := by sleep 2000
abbrev sInstrument_post : Stmt := inClass (topS 23) 2
abbrev sInstrument_head : Stmt := inClass (topS 23) 4
abbrev nInstrument_head : List Str := ["self"]
theorem scInstrument_head : FnScope nInstrument_head ["self"] (defScope sInstrument_head) := by sleep 2000
end
end
section
section
variable {K : PySem.W.Frag} {W : WX} {ta tb te td ty tv : TE} {aa ab ae ad ay av : AE}
def knD : D → Option String
 | .non => some "NoneType"
 | .bl _ => some "bool"
 | .int _ => some "int"
 | .str _ => some "str"
 | .lst _ => some "list"
 | .tup _ => some "tuple"
 | .dK _ => some "dict"
 | .dT _ => none
 | _ => none
theorem kn_ty {H : Hp} {v : V} {d : D} {n : String} (r : Rep K H v d) (h : knD d = some n) : TyX K H v (.type n) ∧ n ∈ kinds := by
 cases r <;> simp only [knD, Option.some.injEq, reduceCtorEq] at h
 case non => subst h; exact ⟨.base .non, by decide⟩
 case bl => subst h; exact ⟨.base (.bl _), by decide⟩
 case int => subst h; exact ⟨.base (.int _), by decide⟩
 case str => subst h; exact ⟨.base (.str _), by decide⟩
 case lst h1 _ => subst h; exact ⟨.base (.lst h1), by decide⟩
 case tup h1 _ =>
  subst h
  exact ⟨.base (.tup h1), by decide⟩
 case dK h1 _ _ =>
  subst h
  refine ⟨?_, by decide⟩
  rcases h1 with h1 | ⟨o, h1⟩
  ·exact .base (.dK h1)
  ·exact .fDict h1
def isIn : D → Option Bool
 | .int _ => some true
 | .bl _ => some true
 | d => match knD d with
  | some _ => some false
  | none => none
def isBo : D → Option Bool
 | .bl _ => some true
 | d => match knD d with
  | some _ => some false
  | none => none
def isS : D → Option Bool
 | .str _ => some true
 | d => match knD d with
  | some _ => some false
  | none => none
def isL : D → Option Bool
 | .lst _ => some true
 | d => match knD d with
  | some _ => some false
  | none => none
def isT : D → Option Bool
 | .tup _ => some true
 | d => match knD d with
  | some _ => some false
  | none => none
def isDi : D → Option Bool
 | .dK _ => some true
 | d => match knD d with
  | some _ => some false
  | none => none
def isRow : D → Option Bool
 | .lst _ => some true
 | .tup _ => some true
 | d => match knD d with
  | some _ => some false
  | none => none
def isNo (d : D) : Option Bool := match knD d with
 | some _ => some false
 | none => none
structure IsF (n : String) (f : D → Option Bool) : Prop where
 ok : ∀ d b, f d = some b → ∃ m, knD d = some m ∧ (m ∈ kinds → kitB m n = some b)
theorem is_B : IsF "bool" isBo := ⟨fun d b h => by
 cases d <;> simp [isBo, knD] at h <;> subst h <;> exact ⟨_, rfl, fun _ => by decide +kernel⟩⟩
theorem is_S : IsF "str" isS := ⟨fun d b h => by
 cases d <;> simp [isS, knD] at h <;> subst h <;> exact ⟨_, rfl, fun _ => by decide +kernel⟩⟩
theorem is_L : IsF "list" isL := ⟨fun d b h => by
 cases d <;> simp [isL, knD] at h <;> subst h <;> exact ⟨_, rfl, fun _ => by decide +kernel⟩⟩
theorem is_T : IsF "tuple" isT := ⟨fun d b h => by
 cases d <;> simp [isT, knD] at h <;> subst h <;> exact ⟨_, rfl, fun _ => by decide +kernel⟩⟩
theorem is_D : IsF "dict" isDi := ⟨fun d b h => by
 cases d <;> simp [isDi, knD] at h <;> subst h <;> exact ⟨_, rfl, fun _ => by decide +kernel⟩⟩
/-- a class whose instances are asked for their class -/
structure ClK (K : PySem.W.Frag) (C : Addr) : Prop where
 cl : Cls K C
 ic : C8.InsC K C
theorem ClK.tyx {C a dx : Addr} {fs : List (Str × V)} {H : Hp} (k : ClK K C) (ha : H a = some (.ins C dx fs)) : TyX K H (.ref a) (.ref C) := .base (.ins ha k.cl k.ic.ha k.ic.hn k.ic.htk k.ic.hm)
def aIs (K : PySem.W.Frag) (u : Value) (f : D → Option Bool) (a : AE) (ax : AX) (env : AEnv) (Q : B → Prop) : Prop := a ax env fun x => match x.get with
 | .obj C _ => ClK K C ∧ ∃ b, PySem.W.kitOne K (.ref C) u = some b ∧ Q (.st (.bl b))
 | d => match f d with
  | some b => Q (.st (.bl b))
  | none => False
theorem is_core {u : Value} {f : D → Option Bool} {c : V} (hc : ClsV c u) (hf : ∀ H v d b, Rep K H v d → f d = some b → ∃ t, TyX K H v t ∧ PySem.W.kitOne K t u = some b) (ha : EA K W ta aa) : EA K W (tCB (rIsi K) (tCons ta (tCons (tC c) tNil))) (aIs K u f aa) := fun o H0 S H σ env ax Q Qc es q k xl =>
 ha o H0 S H σ env ax _ _ es q (fun v b S1 H1 g1 w1 r1 q1 => by
  have rn := r1.now w1 (g1.kp es.kp)
  split at q1
  ·rename_i C fs e
   obtain ⟨kl, b', hb, q1⟩ := q1
   rw [e] at rn
   obtain ⟨a, dx, fv, rfl, h1, _⟩ := rep_obj rn
   exact ⟨_, c, _, u, b', rfl, hc, kl.tyx h1, hb, k _ (.st (.bl b')) S1 H1 g1 w1 (BR.ofSc rfl) q1⟩
  ·split at q1
   ·rename_i b' hb
    obtain ⟨t, h1, h2⟩ := hf _ _ _ _ rn hb
    exact ⟨_, c, t, u, b', rfl, hc, h1, h2, k _ (.st (.bl b')) S1 H1 g1 w1 (BR.ofSc rfl) q1⟩
   ·exact q1.elim) xl
theorem ea_isB {n : String} {f : D → Option Bool} (hf : IsF n f) (ha : EA K W ta aa) : EA K W (tCB (rIsi K) (tCons ta (tCons (tC (.ty n)) tNil))) (aIs K (.type n) f aa) :=
 is_core (.ty n) (fun H v d b r h => by
  obtain ⟨m, e1, e2⟩ := hf.ok d b h
  obtain ⟨h1, h2⟩ := kn_ty r e1
  exact ⟨_, h1, kit_ty (e2 h2)⟩) ha
/-- no built-in thing is an instance of the class -/
def NoB (K : PySem.W.Frag) (C : Addr) : Prop := ∀ n ∈ kinds, PySem.W.kitOne K (.type n) (.ref C) = some false
theorem ea_isO {C : Addr} (hC : NoB K C) (ha : EA K W ta aa) : EA K W (tCB (rIsi K) (tCons ta (tCons (tC (.ref C)) tNil))) (aIs K (.ref C) isNo aa) :=
 is_core (.own C) (fun H v d b r h => by
  unfold isNo at h
  split at h
  ·rename_i n e
   cases h
   obtain ⟨h1, h2⟩ := kn_ty r e
   exact ⟨_, h1, hC n h2⟩
  ·cases h) ha
def aIsRow (K : PySem.W.Frag) (a : AE) (ax : AX) (env : AEnv) (Q : B → Prop) : Prop := a ax env fun x => match x.get with
 | .obj C _ => ClK K C ∧ ∃ b, PySem.W.kitAny K (.ref C) [.type "list", .type "tuple"] = some b ∧ Q (.st (.bl b))
 | d => match isRow d with
  | some b => Q (.st (.bl b))
  | none => False
theorem ea_isRow (ha : EA K W ta aa) : EA K W (tCB (rIsiT K) (tCons ta (tCons (tTup (tCons (tC (.ty "list")) (tCons (tC (.ty "tuple")) tNil))) tNil))) (aIsRow K aa) := fun o H0 S H σ env ax Q Qc es q k xl =>
 ha o H0 S H σ env ax _ _ es q (fun v b S1 H1 g1 w1 r1 q1 => by
  refine ⟨by show 2 ≤ sizeLine; decide, fun p hp => ?_⟩
  have g2 : GrO o S H (upd S1 p (.tup [.ty "list", .ty "tuple"])) _ := g1.trans (GrO.new (u := .tup [.ty "list", .ty "tuple"]) w1 hp)
  have w2 := w1.new (u := .tup [.ty "list", .ty "tuple"]) hp
  have rn := (r1.mono (GrO.new (u := .tup [.ty "list", .ty "tuple"]) w1 hp)).now w2 (g2.kp es.kp)
  have pc : Paired ClsV [.ty "list", .ty "tuple"] [.type "list", .type "tuple"] := .cons (.ty _) (.cons (.ty _) .nil)
  split at q1
  ·rename_i C fs e
   obtain ⟨kl, b', hb, q1⟩ := q1
   rw [e] at rn
   obtain ⟨a, dx, fv, rfl, h1, _⟩ := rep_obj rn
   exact ⟨_, p, _, _, _, b', rfl, upd_same, pc, kl.tyx h1, hb, k _ (.st (.bl b')) _ _ g2 w2 (BR.ofSc rfl) q1⟩
  ·split at q1
   ·rename_i b' hb
    have : ∃ m, knD b.get = some m ∧ (m ∈ kinds → PySem.W.kitAny K (.type m) [.type "list", .type "tuple"] = some b') := by
     generalize b.get = d at hb
     cases d <;> simp [isRow, knD] at hb <;> subst hb <;> exact ⟨_, rfl, fun h => by rw [kit_row h]; decide +kernel⟩
    obtain ⟨m, e1, e2⟩ := this
    obtain ⟨h1, h2⟩ := kn_ty rn e1
    exact ⟨_, p, _, _, _, b', rfl, upd_same, pc, h1, e2 h2, k _ (.st (.bl b')) _ _ g2 w2 (BR.ofSc rfl) q1⟩
   ·exact q1.elim) xl
def D.fl : D → Bool
 | .non => true
 | .int _ => true
 | .str _ => true
 | _ => false
def fInF (x y : D) (Q : D → Prop) : Prop := match y with
 | .lst ds => x.fl = true ∧ ds.all D.fl = true ∧ ∀ b, (b = true ↔ x ∈ ds) → Q (.bl b)
 | .tup ds => x.fl = true ∧ ds.all D.fl = true ∧ ∀ b, (b = true ↔ x ∈ ds) → Q (.bl b)
 | _ => False
def fNinF (x y : D) (Q : D → Prop) : Prop := match y with
 | .lst ds => x.fl = true ∧ ds.all D.fl = true ∧ ∀ b, (b = true ↔ x ∉ ds) → Q (.bl b)
 | .tup ds => x.fl = true ∧ ds.all D.fl = true ∧ ∀ b, (b = true ↔ x ∉ ds) → Q (.bl b)
 | _ => False
theorem not_iff {b : Bool} {p : Prop} (h : b = true ↔ p) : (!b) = true ↔ ¬ p := by
 rw [← h]
 cases b <;> simp
def fInS (x y : D) (Q : D → Prop) : Prop := match x, y with
 | .str z, .str s => ∃ c, z = ⟨#[c]⟩ ∧ Q (.bl (decide (c ∈ s.cps.toList)))
 | _, _ => False
mutual
def D.py : D → Option PyData
 | .non => some .none
 | .bl b => some (.bool b)
 | .int i => some (.int i)
 | .str x => some (.str x)
 | .lst ds => (pyL ds).map .list
 | .tup ds => (pyL ds).map .tuple
 | _ => none
def pyL : List D → Option (List PyData)
 | [] => some []
 | d :: r => match d.py, pyL r with
  | some x, some xs => some (x :: xs)
  | _, _ => none
end
mutual
theorem rep_dp {H : Hp} : ∀ (d : D) {v : V} {p : PyData}, Rep K H v d → d.py = some p → Dp K H v p
 | .non, _, _, r, h => by simp only [D.py, Option.some.injEq] at h; subst h; cases r; exact .non
 | .opq, _, _, r, h => by simp [D.py] at h
 | .bl b, _, _, r, h => by simp only [D.py, Option.some.injEq] at h; subst h; cases r; exact .bl b
 | .int i, _, _, r, h => by simp only [D.py, Option.some.injEq] at h; subst h; cases r; exact .int i
 | .str x, _, _, r, h => by simp only [D.py, Option.some.injEq] at h; subst h; cases r; exact .str x
 | .ty n, _, _, r, h => by simp [D.py] at h
 | .lst ds, _, _, r, h => by
  simp only [D.py] at h
  obtain ⟨ps, e1, e2⟩ := Option.map_eq_some_iff.mp h
  subst e2
  obtain ⟨a, xs, rfl, h1, h2⟩ := rep_lst r
  exact .lst (SqL.of h1) (repL_dp ds h2 e1)
 | .tup ds, _, _, r, h => by
  simp only [D.py] at h
  obtain ⟨ps, e1, e2⟩ := Option.map_eq_some_iff.mp h
  subst e2
  obtain ⟨a, xs, rfl, h1, h2⟩ := rep_tup r
  exact .tup h1 (repL_dp ds h2 e1)
 | .dK _, _, _, r, h => by simp [D.py] at h
 | .dT _, _, _, r, h => by simp [D.py] at h
 | .obj _ _, _, _, r, h => by simp [D.py] at h
theorem repL_dp {H : Hp} : ∀ (ds : List D) {xs : List V} {ps : List PyData}, RepL K H xs ds → pyL ds = some ps → DpAll K H xs ps
 | [], _, _, r, h => by simp only [pyL, Option.some.injEq] at h; subst h; cases r; exact .nil
 | d :: rs, _, _, r, h => by
  cases r with
  | cons a b =>
   simp only [pyL] at h
   split at h
   ·rename_i x xs e1 e2
    cases h
    exact .cons (rep_dp d a e1) (repL_dp rs b e2)
   ·cases h
end
/-- == by PyData -/
def fEqY (x y : D) (Q : D → Prop) : Prop := ∃ p q, x.py = some p ∧ y.py = some q ∧ SeqAt.shaped p = true ∧ SeqAt.shaped q = true ∧ Q (.bl (PyData.eqv p q))
def fNeY (x y : D) (Q : D → Prop) : Prop := ∃ p q, x.py = some p ∧ y.py = some q ∧ SeqAt.shaped p = true ∧ SeqAt.shaped q = true ∧ Q (.bl (!PyData.eqv p q))
theorem r2_neY : R2S K (rNeD K) fNeY := fun H x y dx dy Q Qc rx ry ⟨p, q, e1, e2, s1, s2, z⟩ k => ⟨p, q, rep_dp dx rx e1, rep_dp dy ry e2, s1, s2, k _ _ rfl z⟩
end
/-- plain: no flags in it, small -/
def D.pl : Nat → D → Bool
 | _, .non => true
 | _, .int _ => true
 | _, .str x => PyData.strOk x && decide (x.length ≤ 1000)
 | n + 1, .lst ds => decide (ds.length ≤ 900) && ds.all (D.pl n)
 | n + 1, .tup ds => decide (ds.length ≤ 900) && ds.all (D.pl n)
 | _, _ => false
theorem pl_py : ∀ (n : Nat) (d : D), D.pl n d = true → ∃ p, d.py = some p ∧ Sz n p = true
 | n, .non, _ => ⟨.none, by simp [D.py], by cases n <;> rfl⟩
 | n, .int i, _ => ⟨.int i, by simp [D.py], by cases n <;> rfl⟩
 | n, .str x, h => ⟨.str x, by simp [D.py], by cases n <;> exact h⟩
 | n + 1, .lst ds, h => by
  have h : (decide (ds.length ≤ 900) && ds.all (D.pl n)) = true := h
  rw [Bool.and_eq_true] at h
  have key : ∀ ds : List D, ds.all (D.pl n) = true → ∃ ps, pyL ds = some ps ∧ ps.length = ds.length ∧ ps.all (Sz n) = true := by
   intro ds
   induction ds with
   | nil => intro _; exact ⟨[], by simp [pyL], rfl, rfl⟩
   | cons d r ih =>
    intro h
    rw [List.all_cons, Bool.and_eq_true] at h
    obtain ⟨p, e1, e2⟩ := pl_py n d h.1
    obtain ⟨ps, e3, e4, e5⟩ := ih h.2
    exact ⟨p :: ps, by simp [pyL, e1, e3], by simp [e4], by simp [e2, e5]⟩
  obtain ⟨ps, e1, e2, e3⟩ := key ds h.2
  refine ⟨.list ps, by simp [D.py, e1], ?_⟩
  show (decide (ps.length ≤ 900) && ps.all (Sz n)) = true
  rw [e2, e3, h.1]
  rfl
 | n + 1, .tup ds, h => by
  have h : (decide (ds.length ≤ 900) && ds.all (D.pl n)) = true := h
  rw [Bool.and_eq_true] at h
  have key : ∀ ds : List D, ds.all (D.pl n) = true → ∃ ps, pyL ds = some ps ∧ ps.length = ds.length ∧ ps.all (Sz n) = true := by
   intro ds
   induction ds with
   | nil => intro _; exact ⟨[], by simp [pyL], rfl, rfl⟩
   | cons d r ih =>
    intro h
    rw [List.all_cons, Bool.and_eq_true] at h
    obtain ⟨p, e1, e2⟩ := pl_py n d h.1
    obtain ⟨ps, e3, e4, e5⟩ := ih h.2
    exact ⟨p :: ps, by simp [pyL, e1, e3], by simp [e4], by simp [e2, e5]⟩
  obtain ⟨ps, e1, e2, e3⟩ := key ds h.2
  refine ⟨.tuple ps, by simp [D.py, e1], ?_⟩
  show (decide (ps.length ≤ 900) && ps.all (Sz n)) = true
  rw [e2, e3, h.1]
  rfl
 | 0, .lst _, h => by simp [D.pl] at h
 | 0, .tup _, h => by simp [D.pl] at h
 | n, .bl _, h => by cases n <;> simp [D.pl] at h
 | n, .opq, h => by cases n <;> simp [D.pl] at h
 | n, .ty _, h => by cases n <;> simp [D.pl] at h
 | n, .dK _, h => by cases n <;> simp [D.pl] at h
 | n, .dT _, h => by cases n <;> simp [D.pl] at h
 | n, .obj _ _, h => by cases n <;> simp [D.pl] at h
 | n, .dN _ _, h => by cases n <;> simp [D.pl] at h
 | n, .kt _, h => by cases n <;> simp [D.pl] at h
/-- plain data are equal just if they are the same -/
theorem pl_eq : ∀ (n : Nat) (x y : D) (p q : PyData), D.pl n x = true → D.pl n y = true → x.py = some p → y.py = some q → (PyData.eqv p q = true ↔ x = y) := by
  intro n
  induction n with
  | zero =>
    intro x y p q hx hy e1 e2
    cases x <;> first | (simp [D.pl] at hx; done) | skip
    all_goals (cases y <;> first | (simp [D.pl] at hy; done) | skip)
    all_goals simp only [D.py, Option.some.injEq] at e1 e2
    all_goals (subst e1; subst e2; simp [PyData.eqv])
  | succ n ih =>
    have key : ∀ (ds es : List D) (ps qs : List PyData), ds.all (D.pl n) = true → es.all (D.pl n) = true → pyL ds = some ps → pyL es = some qs → (PyData.eqvAll ps qs = true ↔ ds = es) := by
      intro ds
      induction ds with
      | nil =>
        intro es ps qs _ h2 e1 e2
        simp only [pyL, Option.some.injEq] at e1
        subst e1
        cases es with
        | nil =>
          simp only [pyL, Option.some.injEq] at e2
          subst e2
          simp [PyData.eqvAll]
        | cons d r =>
          simp only [pyL] at e2
          split at e2
          · cases e2
            simp [PyData.eqvAll]
          · cases e2
      | cons d r ihr =>
        intro es ps qs h1 h2 e1 e2
        rw [List.all_cons, Bool.and_eq_true] at h1
        simp only [pyL] at e1
        split at e1
        · rename_i p ps' a1 a2
          cases e1
          cases es with
          | nil =>
            simp only [pyL, Option.some.injEq] at e2
            subst e2
            simp [PyData.eqvAll]
          | cons e s =>
            rw [List.all_cons, Bool.and_eq_true] at h2
            simp only [pyL] at e2
            split at e2
            · rename_i q qs' b1 b2
              cases e2
              simp only [PyData.eqvAll, Bool.and_eq_true, List.cons.injEq]
              rw [ih d e p q h1.1 h2.1 a1 b1, ihr s ps' qs' h1.2 h2.2 a2 b2]
            · cases e2
        · cases e1
    intro x y p q hx hy e1 e2
    cases x <;> first | (simp [D.pl] at hx; done) | skip
    all_goals (cases y <;> first | (simp [D.pl] at hy; done) | skip)
    all_goals simp only [D.py, Option.some.injEq, Option.map_eq_some_iff] at e1 e2
    all_goals first
      | (subst e1; subst e2; simp [PyData.eqv]; done)
      | (obtain ⟨ps, a1, rfl⟩ := e1; obtain ⟨qs, b1, rfl⟩ := e2
         have hx := (Bool.and_eq_true _ _ ▸ hx : _ ∧ _).2
         have hy := (Bool.and_eq_true _ _ ▸ hy : _ ∧ _).2
         first
           | (simp only [PyData.eqv, D.lst.injEq]; exact key _ _ ps qs hx hy a1 b1)
           | (simp only [PyData.eqv, D.tup.injEq]; exact key _ _ ps qs hx hy a1 b1)
           | simp [PyData.eqv])
      | (obtain ⟨ps, a1, rfl⟩ := e1; subst e2; simp [PyData.eqv]; done)
      | (obtain ⟨ps, a1, rfl⟩ := e2; subst e1; simp [PyData.eqv]; done)
def fEqP (x y : D) (Q : D → Prop) : Prop := D.pl 8 x = true ∧ D.pl 8 y = true ∧ ∀ b, (b = true ↔ x = y) → Q (.bl b)
def fNeP (x y : D) (Q : D → Prop) : Prop := D.pl 8 x = true ∧ D.pl 8 y = true ∧ ∀ b, (b = true ↔ x ≠ y) → Q (.bl b)
theorem r2_eqP {K : PySem.W.Frag} : R2S K (rEqD K) fEqP := fun H x y dx dy Q Qc rx ry ⟨h1, h2, q⟩ k => by
 obtain ⟨p, e1, s1⟩ := pl_py 8 dx h1
 obtain ⟨r, e2, s2⟩ := pl_py 8 dy h2
 exact ⟨p, r, rep_dp dx rx e1, rep_dp dy ry e2, sz_shaped s1 (by decide), sz_shaped s2 (by decide), k _ _ rfl (q _ (pl_eq 8 dx dy p r h1 h2 e1 e2))⟩
theorem r2_neP {K : PySem.W.Frag} : R2S K (rNeD K) fNeP := fun H x y dx dy Q Qc rx ry ⟨h1, h2, q⟩ k => by
 obtain ⟨p, e1, s1⟩ := pl_py 8 dx h1
 obtain ⟨r, e2, s2⟩ := pl_py 8 dy h2
 exact ⟨p, r, rep_dp dx rx e1, rep_dp dy ry e2, sz_shaped s1 (by decide), sz_shaped s2 (by decide), k _ _ rfl (q _ (not_iff (pl_eq 8 dx dy p r h1 h2 e1 e2)))⟩
/-- x in a list of plain data -/
def fInP (x y : D) (Q : D → Prop) : Prop := match y with
 | .lst ds => D.pl 8 x = true ∧ D.pl 8 (.lst ds) = true ∧ ∀ b, (b = true ↔ x ∈ ds) → Q (.bl b)
 | _ => False
def fNinP (x y : D) (Q : D → Prop) : Prop := match y with
 | .lst ds => D.pl 8 x = true ∧ D.pl 8 (.lst ds) = true ∧ ∀ b, (b = true ↔ x ∉ ds) → Q (.bl b)
 | _ => False
theorem pl_succ : ∀ (n : Nat) (d : D), D.pl n d = true → D.pl (n + 1) d = true
 | n, .non, h => rfl
 | n, .int _, h => rfl
 | n, .str x, h => by cases n <;> exact h
 | n + 1, .lst ds, h => by
  have h : (decide (ds.length ≤ 900) && ds.all (D.pl n)) = true := h
  rw [Bool.and_eq_true, List.all_eq_true] at h
  show (decide (ds.length ≤ 900) && ds.all (D.pl (n + 1))) = true
  rw [Bool.and_eq_true, List.all_eq_true]
  exact ⟨h.1, fun d hd => pl_succ n d (h.2 d hd)⟩
 | n + 1, .tup ds, h => by
  have h : (decide (ds.length ≤ 900) && ds.all (D.pl n)) = true := h
  rw [Bool.and_eq_true, List.all_eq_true] at h
  show (decide (ds.length ≤ 900) && ds.all (D.pl (n + 1))) = true
  rw [Bool.and_eq_true, List.all_eq_true]
  exact ⟨h.1, fun d hd => pl_succ n d (h.2 d hd)⟩
 | 0, .lst _, h => by simp [D.pl] at h
 | 0, .tup _, h => by simp [D.pl] at h
 | n, .bl _, h => by cases n <;> simp [D.pl] at h
 | n, .opq, h => by cases n <;> simp [D.pl] at h
 | n, .ty _, h => by cases n <;> simp [D.pl] at h
 | n, .dK _, h => by cases n <;> simp [D.pl] at h
 | n, .dT _, h => by cases n <;> simp [D.pl] at h
 | n, .obj _ _, h => by cases n <;> simp [D.pl] at h
 | n, .dN _ _, h => by cases n <;> simp [D.pl] at h
 | n, .kt _, h => by cases n <;> simp [D.pl] at h
theorem pl_lst {n : Nat} {ds : List D} (h : ds.length ≤ 900) (q : ∀ d ∈ ds, D.pl n d = true) : D.pl (n + 1) (.lst ds) = true := by
 show (decide (ds.length ≤ 900) && ds.all (D.pl n)) = true
 rw [Bool.and_eq_true, List.all_eq_true]
 exact ⟨decide_eq_true h, q⟩
theorem pl_tup {n : Nat} {ds : List D} (h : ds.length ≤ 900) (q : ∀ d ∈ ds, D.pl n d = true) : D.pl (n + 1) (.tup ds) = true := by
 show (decide (ds.length ≤ 900) && ds.all (D.pl n)) = true
 rw [Bool.and_eq_true, List.all_eq_true]
 exact ⟨decide_eq_true h, q⟩
theorem pl_lstE {n : Nat} {ds : List D} (h : D.pl (n + 1) (.lst ds) = true) : ds.length ≤ 900 ∧ ∀ d ∈ ds, D.pl n d = true := by
 have h : (decide (ds.length ≤ 900) && ds.all (D.pl n)) = true := h
 rw [Bool.and_eq_true, List.all_eq_true] at h
 exact ⟨of_decide_eq_true h.1, h.2⟩
theorem pl_name {n : Nat} {z : Str} (h : NameOk z) : D.pl n (.str z) = true := by
 have : (PyData.strOk z && decide (z.length ≤ 1000)) = true := by
  rw [name_sok h, decide_eq_true (Nat.le_trans h.2.1 (by decide))]
  rfl
 cases n <;> exact this
theorem any_pl {x : D} {p : PyData} (hx : D.pl 8 x = true) (e1 : x.py = some p) : ∀ {ds : List D} {ps : List PyData}, (∀ d ∈ ds, D.pl 8 d = true) → pyL ds = some ps → ((ps.any fun z => PyData.eqv z p) = true ↔ x ∈ ds)
 | [], ps, _, h => by
  simp only [pyL, Option.some.injEq] at h
  subst h
  simp
 | d :: r, ps, hd, h => by
  simp only [pyL] at h
  split at h
  ·rename_i q qs b1 b2
   cases h
   rw [List.any_cons, Bool.or_eq_true, any_pl hx e1 (fun d h => hd d (by simp [h])) b2, pl_eq 8 d x q p (hd d (by simp)) hx b1 e1, List.mem_cons]
   constructor
   ·rintro (h | h)
    ·exact .inl h.symm
    ·exact .inr h
   ·rintro (h | h)
    ·exact .inl h.symm
    ·exact .inr h
  ·cases h
theorem r2_ninP {K : PySem.W.Frag} : R2S K (rNotInD K) fNinP := fun H x y dx dy Q Qc rx ry q k => by
 unfold fNinP at q
 split at q
 ·rename_i ds
  obtain ⟨h1, h2, q⟩ := q
  obtain ⟨p, e1, s1⟩ := pl_py 8 dx h1
  obtain ⟨r, e2, s2⟩ := pl_py 8 _ h2
  have e2' := e2
  simp only [D.py, Option.map_eq_some_iff] at e2
  obtain ⟨ps, e3, rfl⟩ := e2
  exact ⟨p, ps, rep_dp dx rx e1, rep_dp _ ry e2', sz_shaped s1 (by decide), sz_shaped s2 (by decide), k _ _ rfl (q _ (not_iff (any_pl h1 e1 (fun d hd => pl_succ 7 d ((pl_lstE h2).2 d hd)) e3)))⟩
 ·exact q.elim
end
section
section
variable {X : Cx}
def rLenRd : List V → Hp → VK → Prop := fun xs H Q => ∃ a kvs, xs = [V.ref a] ∧ Rd H a (.dK kvs) ∧ Q (.int (kvs.length : Nat)) H
theorem cr_lenRd : CallR X (.builtin "len") rLenRd := by
 intro pins s σ H xs us Q I r h
 obtain ⟨a, kvs, rfl, ha, q⟩ := h
 obtain ⟨u, rfl, ru⟩ := vals1 r
 cases ru
 exact d_len I ha fun t s' I' => ⟨.int kvs.length, H, I', ⟨t, rfl⟩, q⟩
def rListRd : List V → Hp → VK → Prop := fun xs H Q => ∃ p kvs, xs = [.ref p] ∧ Rd H p (.dK kvs) ∧ ∀ q, H q = none → Q (.ref q) (upd H q (.lst (kvs.map fun kv => kV kv.1)))
theorem cr_listRd (hc : X.calm = true) : CallR X (.type "list") rListRd := by
 intro pins s σ H xs us Q I r h
 obtain ⟨p, kvs, e, hk, q⟩ := h
 subst e
 obtain ⟨u, eu, rx⟩ := vals1 r
 subst eu
 obtain rfl : u = Value.ref p := rx
 obtain ⟨z, lo, vs, rk, hd⟩ := (show ObjOk X.prog X.w H s.heap p (.dK kvs) from Rd.ok hk I.hok)
 obtain ⟨ep, hat⟩ := hd.dictAt
 have hl : kvs.length = vs.length := Paired.length rk
 refine PySem.W.kdl_call (PySem.W.kdl_dict (knd := mixKind X.prog X.w) (kvs := vs) (ep := ep) lo) (I.ok.hd hc) hat (by rw [← hl]; exact z) fun h' tk acc' c' hkeep hS hacc => ?_
 refine ⟨.ref s.heap.objs.size, upd H s.heap.objs.size (.lst (kvs.map fun kv => kV kv.1)), I.laid hkeep (Nat.le_refl _) (show ObjOk X.prog X.w _ _ _ (.lst (kvs.map fun kv => kV kv.1)) from ⟨?_, acc'.toList, c', ?_, ?_⟩), rfl, q _ (I.hok.fresh (Nat.le_refl _))⟩
 ·rw [List.length_map]; exact z
 ·have el : acc'.toList.length = acc'.size := by simp
  refine vals_of_at (by rw [List.length_map, el, hacc.1, hl]) fun j x w h1 h2 => ?_
  obtain ⟨k, y, hky, hi⟩ := hacc.2 j w (by rw [← Array.getElem?_toList]; exact h2)
  have e1 : (kvs.map (·.1))[j]? = some k := by
   rw [KV.keys rk, List.getElem?_map, hky] <;> rfl
  have e2 : (kvs.map fun kv => kV kv.1)[j]? = some (kV k) := by
   have e3 : (kvs.map fun kv => kV kv.1) = (kvs.map (·.1)).map kV := by rw [List.map_map] <;> rfl
   rw [e3, List.getElem?_map, e1] <;> rfl
  rw [e2] at h1
  cases h1
  exact keyIs_rel hi
 ·rw [Array.toArray_toList]; exact hS
def tCopyR (te : TE) : TE := fun σ H Q => te σ H fun x H1 => ∃ a kvs, x = .ref a ∧ Rd H1 a (.dK kvs) ∧ ∀ p, H1 p = none → Q (.ref p) (upd H1 p (.dK kvs))
theorem mt_copyRd : MtR X "dict.copy" (fun x xs H Q => ∃ (a : Addr) (kvs : List (Key × V)), x = .ref a ∧ xs = [] ∧ Rd H a (.dK kvs) ∧ ∀ p, H p = none → Q (.ref p) (upd H p (.dK kvs))) := by
 intro pins s σ H x xs v us Q I rx rs h
 obtain ⟨a, kvs, rfl, rfl, ha, q⟩ := h
 cases rs
 obtain rfl : v = Value.ref a := rx
 obtain ⟨z, hd, vs, rel, dd⟩ := dk_rd I.hok ha
 refine call_meetsIn PySem.F.slot_dict_copy dd.typeIs PySem.F.entry_dict_copy (PySem.F.args_dict_copy_1 _) (meets_dict_copy (mixKind X.prog X.w) a hd) ⟨vs, dd, by rw [← rel.length]; exact z, fun h' dd' _ hs => ?_⟩
 have hn := I.hok.fresh (Nat.le_refl s.heap.objs.size)
 refine ⟨.ref s.heap.objs.size, _, I.laid (a := s.heap.objs.size) (o := .dK kvs) (t' := s.toks) hs (Nat.le_refl _) (dk_new z (beq_eq_false_iff_ne.mpr (Ne.symm (Nat.ne_of_lt I.big))) rel dd'), rfl, q _ hn⟩
theorem pe_copyR {o : Expr} {te : TE} {apos cpos : Pos} (ho : PE X o te) (hbase : attributeBase o "copy" X.env (eval o X.env) = eval o X.env := by rfl) (hline : (apos.endLine == cpos.line) = true := by rfl) :
  PE X (.Call (.Attribute o "copy" apos) [] [] cpos) (tCopyR te) := by
 refine ⟨fun pins s σ H Q I h => ?_⟩
 refine wpAny_Call_method0_late hbase hline (thn (ho.run pins s σ H _ I h) fun v s1 ⟨x, H1, I1, r1, a, kvs, ex, ha, q⟩ => ?_)
 subst ex
 obtain rfl : v = Value.ref a := r1
 obtain ⟨_, _, _, _, o', _, _, e, ex, _⟩ := (show ObjOk X.prog X.w H1 s1.heap a (.dK kvs) from Rd.ok ha I1.hok)
 exact ⟨"dict", "dict.copy", PySem.F.plainAttrs_dict, PySem.F.slot_dict_copy, PySem.F.type_dict_copy, ⟨o', e, ex.1⟩, (fun b eb => by cases eb; exact ⟨o', e, ex.2.1⟩), Calls.callWith_builtin rfl (PySem.evalArgs_none (mt_copyRd pins s1 σ H1 (.ref a) [] (.ref a) [] Q I1 rfl .nil ⟨a, kvs, rfl, rfl, ha, q⟩))⟩
end
section
variable {K : PySem.W.Frag} {W : WX} {ta tb te td ty tv : TE} {aa ab ae ad ay av : AE}
theorem rc_lenD : RC1 K rLenRd fLenD := fun H x dx Q Qc rx q k => by
 unfold fLenD at q
 split at q
 ·rename_i ds
  obtain ⟨a, kvs, rfl, h1, h2, h3⟩ := rep_dK rx
  have : kvs.length = ds.length := by simpa using congrArg List.length h2
  exact ⟨a, kvs, rfl, h1, by rw [this]; exact k _ _ rfl q⟩
 ·exact q.elim
theorem solid_dK {o : Option Addr} {H0 S H : Hp} {v : V} {b : B} {kds : List (Key × D)} (w : Wl o S H) (h : BR K o H0 S H v b) (e : b.solid = some (.dK kds)) : ∃ a kvs, v = .ref a ∧ Rd H a (.dK kvs) ∧ kvs.map (·.1) = kds.map (·.1) ∧ RepL K S (kvs.map (·.2)) (kds.map (·.2)) := by
 cases b with
 | st d =>
  cases e
  obtain ⟨a, xs, e1, e2, e3, e4⟩ := rep_dK h
  exact ⟨a, xs, e1, Same.rd w.1 e2, e3, e4⟩
 | ow a d =>
  cases e
  obtain ⟨e1, _, _, t⟩ := h
  generalize hx : H a = x at t
  cases t with
  | dK r1 r2 => exact ⟨a, _, e1, Rd.of hx, r1, r2⟩
 | _ => cases e
theorem keys_rep {S : Hp} {kvs : List (Key × V)} {kds : List (Key × D)} (h : kvs.map (·.1) = kds.map (·.1)) : RepL K S (kvs.map fun kv => kV kv.1) (kds.map fun kd => kD kd.1) := by
 have e1 : (kvs.map fun kv => kV kv.1) = (kvs.map (·.1)).map kV := by rw [List.map_map]; rfl
 have e2 : (kds.map fun kv => kD kv.1) = (kds.map (·.1)).map kD := by rw [List.map_map]; rfl
 rw [e1, e2, h]
 generalize kds.map (·.1) = ks
 induction ks with
 | nil => exact .nil
 | cons k r ih =>
  refine .cons ?_ ih
  cases k with
  | inl i => exact .int i
  | inr x => exact .str x
/-- list(x), x a list, a tuple or a dict -/
def aListAny (a : AE) (ax : AX) (env : AEnv) (Q : D → Prop) : Prop := a ax env fun x => match x.solid with
 | some (.lst ds) => Q (.lst ds)
 | some (.tup ds) => Q (.lst ds)
 | some (.dK kvs) => Q (.lst (kvs.map fun kv => kD kv.1))
 | _ => False
def aListDK (a : AE) (ax : AX) (env : AEnv) (Q : D → Prop) : Prop := a ax env fun x => match x.solid with
 | some (.dK kvs) => Q (.lst (kvs.map fun kv => kD kv.1))
 | _ => False
theorem en_listDK (ha : EA K W ta aa) : EN K W (tCB rListRd (tCons ta tNil)) (aListDK aa) := fun o H0 S H σ env ax Q Qc es q k xl =>
 ha o H0 S H σ env ax _ _ es q (fun v b S1 H1 g1 w1 r1 q1 => by
  split at q1
  ·rename_i kds e
   obtain ⟨a, kvs, rfl, h1, h2, h3⟩ := solid_dK w1 r1 e
   refine ⟨a, kvs, rfl, h1, fun l hl => ?_⟩
   have ns := w1.1.free hl
   refine k l _ S1 _ (g1.trans (GrO.lay hl)) (w1.put ns (w1.np hl)) (g1.bk hl) ns ?_ q1
   rw [upd_same]
   exact .lst (keys_rep h2)
  ·exact q1.elim) xl
/-- d.copy(), dict(d) -/
def aCopyD (a : AE) (ax : AX) (env : AEnv) (Q : D → Prop) : Prop := a ax env fun x => match x.solid with
 | some (.dK kvs) => Q (.dK kvs)
 | _ => False
theorem en_copyD (ha : EA K W ta aa) : EN K W (tCopyR ta) (aCopyD aa) := fun o H0 S H σ env ax Q Qc es q k xl =>
 ha o H0 S H σ env ax _ _ es q (fun v b S1 H1 g1 w1 r1 q1 => by
  split at q1
  ·rename_i kds e
   obtain ⟨a, kvs, rfl, h1, h2, h3⟩ := solid_dK w1 r1 e
   refine ⟨a, kvs, rfl, h1, fun l hl => ?_⟩
   have ns := w1.1.free hl
   refine k l _ S1 _ (g1.trans (GrO.lay hl)) (w1.put ns (w1.np hl)) (g1.bk hl) ns ?_ q1
   rw [upd_same]
   exact .dK h2 h3
  ·exact q1.elim) xl
def sortS (zs : List Str) : List Str := (insAll zs).mergeSort leS
theorem en_newL {o : Option Addr} {S H S1 H1 : Hp} {xs : List V} {ds : List D} {Q : D → Prop} {Qc : VK} (g1 : GrO o S H S1 H1) (w1 : Wl o S1 H1) (k : ∀ a d S' H', GrO o S H S' H' → Wl o S' H' → H a = none → S' a = none → Top K S' (H' a) d → Q d → Qc (.ref a) H')
  (h : RepL K S1 xs ds) (q : Q (.lst ds)) : ∀ l, H1 l = none → Qc (.ref l) (upd H1 l (.lst xs)) := fun l hl => by
 have ns := w1.1.free hl
 refine k l _ S1 _ (g1.trans (GrO.lay hl)) (w1.put ns (w1.np hl)) (g1.bk hl) ns ?_ q
 rw [upd_same]
 exact .lst h
theorem en_sortSet {P : Program} {w : World} (ha : EA K W ta aa) : EN K W (tCB (rSortedSt P w) (tCons (tCB (rSetOfS K P w) (tCons ta tNil)) tNil)) (aSortSet aa) := fun o H0 S H σ env ax Q Qc es q k xl =>
 ha o H0 S H σ env ax _ _ es q (fun v b S1 H1 g1 w1 r1 q1 => by
  split at q1
  ·rename_i ds e
   obtain ⟨zs, rfl, h1, h2, q1⟩ := q1
   have rn := r1.now w1 (g1.kp es.kp)
   rw [e] at rn
   obtain ⟨a, xs, rfl, h3, h4⟩ := rep_lst rn
   rw [repL_strs h4] at h3
   refine ⟨a, zs, rfl, SqL.of h3, h1, fun s hs => ⟨s, insAll zs, rfl, upd_same, fun p ys hp hf => ?_⟩⟩
   have w2 : Wl o S1 (upd H1 s (SetKo P w s ((insAll zs).map Sum.inr))) := w1.put (w1.1.free hs) (w1.np hs)
   rw [srtD_strs, sortS_perm hp]
   exact en_newL (g1.trans (GrO.lay hs)) w2 k (repL_ofStrs _) q1 p hf
  ·exact q1.elim) xl
def aLenSet (a : AE) (ax : AX) (env : AEnv) (Q : B → Prop) : Prop := a ax env fun x => match x.get with
 | .lst ds => ∃ zs : List Str, ds = zs.map D.str ∧ zs.length ≤ 100 ∧ Q (.st (.int ((insAll zs).length : Nat)))
 | _ => False
/-- sorted(d), its keys texts -/
def aSortDK (a : AE) (ax : AX) (env : AEnv) (Q : D → Prop) : Prop := a ax env fun x => match x.get with
 | .dK kvs => ∃ ks : List Str, kvs.map (·.1) = ks.map Sum.inr ∧ ks.length < 64 ∧ Q (.lst ((ks.mergeSort leS).map D.str))
 | _ => False
theorem en_sortDK (ha : EA K W ta aa) : EN K W (tCB (fun xs H Q => ∃ (a : Addr) (kvs : List (Key × V)) (ks : List Str), xs = [.ref a] ∧ Rd H a (.dK kvs) ∧ kvs.map (·.1) = ks.map Sum.inr ∧ ks.length < 64 ∧
  ∀ ys p, ys.Perm ks → sortedS ys = true → H p = none → Q (.ref p) (upd H p (.lst (ys.map V.str)))) (tCons ta tNil)) (aSortDK aa) := fun o H0 S H σ env ax Q Qc es q k xl =>
 ha o H0 S H σ env ax _ _ es q (fun v b S1 H1 g1 w1 r1 q1 => by
  split at q1
  ·rename_i kds e
   obtain ⟨ks, e1, e2, q1⟩ := q1
   have rn := r1.now w1 (g1.kp es.kp)
   rw [e] at rn
   obtain ⟨a, kvs, rfl, h3, h4, h5⟩ := rep_dK rn
   refine ⟨a, kvs, ks, rfl, h3, h4.trans e1, e2, fun ys p hp hs hf => ?_⟩
   rw [sorted_eq hp hs]
   exact en_newL g1 w1 k (repL_ofStrs _) q1 p hf
  ·exact q1.elim) xl
/-- sorted(xs), xs texts -/
def aSortS (a : AE) (ax : AX) (env : AEnv) (Q : D → Prop) : Prop := a ax env fun x => match x.get with
 | .lst ds => ∃ zs : List Str, ds = zs.map D.str ∧ (∀ z ∈ zs, NameOk z) ∧ Q (.lst ((zs.mergeSort leS).map D.str))
 | .tup ds => ∃ zs : List Str, ds = zs.map D.str ∧ (∀ z ∈ zs, NameOk z) ∧ Q (.lst ((zs.mergeSort leS).map D.str))
 | _ => False
theorem en_sortS (ha : EA K W ta aa) : EN K W (tCB (rSortedQ K) (tCons ta tNil)) (aSortS aa) := fun o H0 S H σ env ax Q Qc es q k xl =>
 ha o H0 S H σ env ax _ _ es q (fun v b S1 H1 g1 w1 r1 q1 => by
  have rn := r1.now w1 (g1.kp es.kp)
  have fin : ∀ (a : Addr) (zs : List Str), (SqL K H1 a (zs.map V.str) ∨ SqT K H1 a (zs.map V.str)) → (∀ z ∈ zs, NameOk z) → Q (.lst ((zs.mergeSort leS).map D.str)) → rSortedQ K [.ref a] H1 Qc := fun a zs h hz q => by
   have e1 : (zs.map fun z => (V.str z, PyData.str z)).map (·.1) = zs.map V.str := by rw [List.map_map]; rfl
   have e2 : (zs.map fun z => (V.str z, PyData.str z)).map (·.2) = zs.map PyData.str := by rw [List.map_map]; rfl
   refine ⟨a, zs.map fun z => (V.str z, PyData.str z), rfl, by rw [e1]; exact h, fun x hx => ?_, ?_, ?_, fun x hx => ?_, ?_⟩
   ·obtain ⟨z, _, rfl⟩ := List.mem_map.mp hx
    exact .str z
   ·rw [e2]
    exact (show (strP zs).map (·.2) = zs.map PyData.str by unfold strP; rw [List.map_map]; rfl) ▸ (strP_ok zs).1
   ·rw [e2]
    exact (show (strP zs).map (·.2) = zs.map PyData.str by unfold strP; rw [List.map_map]; rfl) ▸ (strP_ok zs).2
   ·obtain ⟨z, _, rfl⟩ := List.mem_map.mp hx
    simp [PyData.depth]
   ·rw [srtD_strs]
    exact en_newL g1 w1 k (repL_ofStrs _) q
  split at q1
  ·rename_i ds e
   obtain ⟨zs, rfl, hz, q1⟩ := q1
   rw [e] at rn
   obtain ⟨a, xs, rfl, h1, h2⟩ := rep_lst rn
   rw [repL_strs h2] at h1
   exact fin a zs (.inl (SqL.of h1)) hz q1
  ·rename_i ds e
   obtain ⟨zs, rfl, hz, q1⟩ := q1
   rw [e] at rn
   obtain ⟨a, xs, rfl, h1, h2⟩ := rep_tup rn
   rw [repL_strs h2] at h1
   exact fin a zs (.inr h1) hz q1
  ·exact q1.elim) xl
end
end
section
section
variable {X : Cx}
def tLockR (t : TE) : TE := fun σ H Q => tLockE t σ H Q ∨ t σ H Q
theorem pe_lockR {e : Expr} {t : TE} (h : PE X e t) : PE X e (tLockR t) := ⟨fun pins s σ H Q I hw => by
 rcases hw with hw | hw
 ·exact (pe_lock h).run pins s σ H Q I hw
 ·exact h.run pins s σ H Q I hw⟩
end
def lk (d : Addr) (od : Obj) (H : Hp) : Hp := fun a => if a = d then (H a).map fun u => .frz od u else H a
section
variable {d : Addr} {od : Obj} {H S : Hp} {a : Addr} {u : HO}
theorem lk_ne (h : a ≠ d) : lk d od H a = H a := if_neg h
theorem lk_at (h : H d = some u) : lk d od H d = some (.frz od u) := by
 unfold lk
 rw [if_pos rfl, h]
 rfl
theorem lk_upd (h : H d = some u) : lk d od H = upd H d (.frz od u) := by
 funext a
 by_cases q : a = d
 ·subst q; rw [lk_at h, upd_same]
 ·rw [lk_ne q, upd_ne q]
theorem lk_none : lk d od H a = none ↔ H a = none := by
 unfold lk
 split
 ·cases H a <;> simp
 ·exact Iff.rfl
theorem lk_same (s : Same S H) : Same (lk d od S) (lk d od H) := fun a u h => by
 by_cases q : a = d
 ·subst q
  cases e : S a with
  | none => rw [lk_none.mpr e] at h; cases h
  | some w =>
   rw [lk_at e] at h
   rw [lk_at (s _ _ e)]
   exact h
 ·rw [lk_ne q] at h ⊢
  exact s _ _ h
theorem lk_le {kvs : List (Key × V)} (hd : ∀ u, H d = some u → u = .dK kvs) : Le H (lk d od H) := by
 have key : ∀ a u, (∀ kvs, u ≠ .dK kvs) → Rd H a u → Rd (lk d od H) a u := fun a u hu h => by
  have ne : a ≠ d := fun e => by
   subst e
   rcases h with h | ⟨o, h⟩
   ·exact hu kvs (hd _ h)
   ·cases hd _ h
  rcases h with h | ⟨o, h⟩
  ·exact .inl ((lk_ne ne).trans h)
  ·exact .inr ⟨o, (lk_ne ne).trans h⟩
 refine ⟨fun a xs h => key a _ (fun _ e => by cases e) h, fun a ks h => ?_, fun a xs h => key a _ (fun _ e => by cases e) h, fun a C dx fs h => ?_, fun a xs h => ?_, fun a xs h => ?_, fun a φ h => key a _ (fun _ e => by cases e) h⟩
 ·by_cases q : a = d
  ·subst q
   rcases h with h | ⟨o, h⟩
   ·exact .inr ⟨od, lk_at h⟩
   ·cases hd _ h
  ·rcases h with h | ⟨o, h⟩
   ·exact .inl ((lk_ne q).trans h)
   ·exact .inr ⟨o, (lk_ne q).trans h⟩
 ·rw [lk_ne (fun e => by subst e; cases hd _ h)]
  exact h
 ·rw [lk_ne (fun e => by subst e; cases hd _ h)]
  exact h
 ·rw [lk_ne (fun e => by subst e; cases hd _ h)]
  exact h
end
section
variable {K : PySem.W.Frag} {W : WX} {ta tb te td ty tv : TE} {aa ab ae ad ay av : AE}
/-- an expression that changes nothing, whatever of its dicts is locked -/
def EPu (K : PySem.W.Frag) (td : TE) (ad : AE) : Prop := ∀ o H0 S H σ env ax Q, ES K o H0 S H σ env → ad ax env Q → ∃ v b, BR K o H0 S H v b ∧ Q b ∧ ∀ H' Qc, (∀ a C dx fs, H a = some (.ins C dx fs) → H' a = some (.ins C dx fs)) → Qc v H' → td σ H' Qc
theorem ep_var (i : Nat) : EPu K (tVar i) (aVar i) := fun o H0 S H σ env ax Q es q => by
 unfold aVar at q
 split at q
 ·rename_i b hb
  obtain ⟨v, h1, h2⟩ := es.sl i b hb
  exact ⟨v, b, h2, q, fun H' Qc _ k => ⟨v, h1, k⟩⟩
 ·exact q.elim
theorem ep_fld {f : Str} (ha : EPu K ta aa) : EPu K (tFld K ta f) (aFld K f aa) := fun o H0 S H σ env ax Q es q => by
 obtain ⟨v, b, r, q, k⟩ := ha o H0 S H σ env ax _ es q
 split at q
 ·rename_i C fds e
  obtain ⟨c1, c2, d, hd, q⟩ := q
  obtain ⟨a, dx, fs, rfl, h1, h2, S', h3, h4⟩ := r.obj es.wl es.kp e
  obtain ⟨v, e1, e2⟩ := lookup_rep h2 h3 hd
  exact ⟨v, b.sub d, h4 v d e2, q, fun H' Qc hi kc => k H' _ hi ⟨a, C, dx, fs, v, rfl, hi _ _ _ _ h1, c1, c2, e1, kc⟩⟩
 ·exact q.elim
def aLcK (ad : AE) (g : B → AEnv → (AEnv → Prop) → Prop) (ct : AT) (ae : AE) (vs : List Nat) (ax : AX) (env : AEnv) (Q : D → Prop) : Prop := ad ax env fun x => match x with
 | .st (.dK kvs) => kvs.length ≤ 1000 ∧ aCol g ct ae (fun _ _ _ => True) (awipe env vs) (kvs.map fun kv => .st (kD kv.1)) [] fun ds => Q (.lst ds)
 | _ => False
theorem kD_rep {S : Hp} (k : Key) : Rep K S (kV k) (kD k) := by
 cases k with
 | inl i => exact .int i
 | inr x => exact .str x
theorem wk_keys {o : Option Addr} {H0 S1 : Hp} {d : Addr} {od : Obj} {kvs : List (Key × V)} {kds : List (Key × D)} (hS : S1 d = some (.frz od (.dK kvs))) (hk : kvs.map (·.1) = kds.map (·.1)) : WkA K o H0 S1 (Itk d od kvs) (kds.map fun kd => .st (kD kd.1)) := by
 have hl : kvs.length = kds.length := by simpa using congrArg List.length hk
 refine ⟨fun i S H hi s w _ => ⟨w.1 _ _ (s _ _ hS), by rw [List.length_map] at hi; omega⟩, fun S H s w _ => ⟨w.1 _ _ (s _ _ hS), by rw [List.length_map]; omega⟩, fun i S H x H' hi s w kp y => ?_⟩
 rw [List.length_map] at hi
 obtain ⟨rfl, k, v, e1, rfl⟩ := walk_keys.yields i H x H' (by omega) (w.1 _ _ (s _ _ hS)) y
 refine ⟨S, .st (kD k), ?_, rfl, GrO.refl, w, kD_rep k⟩
 have e2 : (kds.map (·.1))[i]? = some k := by
  rw [← hk, List.getElem?_map, e1]
  rfl
 rw [List.getElem?_map] at e2 ⊢
 obtain ⟨kd, e3, rfl⟩ := Option.map_eq_some_iff.mp e2
 rw [e3]
 rfl
theorem en_lcK {g : TG} {js : List Nat} {ag : B → AEnv → (AEnv → Prop) → Prop} {tt : TT} {ct : AT} {te : TE} {ae : AE} {vs : List Nat} (hp : EPu K td ad) (hg : GA K js g ag) (ht : ET K W1 tt ct) (he : EA K W1 te ae) (hj : ∀ j ∈ js, j ∈ vs := by decide) :
  EN K W (tLockR (tLc (iKeysR td) g tt te vs)) (aLcK ad ag ct ae vs) := fun o H0 S H σ env ax Q Qc es q k xl => by
 obtain ⟨v, b, r, q, kd⟩ := hp o H0 S H σ env ax _ es q
 split at q
 ·rename_i kds
  obtain ⟨d, kvs, rfl, h1, h2, h3⟩ := rep_dK r
  have hlen : (kds.map fun kd => B.st (kD kd.1)).length = kds.length := List.length_map ..
  rcases h1 with h1 | ⟨od, h1⟩
  ·left
   have hd := es.wl.1 _ _ h1
   refine ⟨d, .dK kvs, hd, trivial, fun od => ?_⟩
   have npd : o ≠ some d := fun e => by
    obtain ⟨_, _, g, s, cur, cnt, gs, ns, hp, _⟩ := es.wl.2 d e
    rw [hd] at hp
    cases hp
   rw [← lk_upd hd]
   have uS : ∀ u, S d = some u → u = .dK kvs := fun u e => by rw [h1] at e; exact (Option.some.inj e).symm
   have uH0 : ∀ u, H0 d = some u → u = .dK kvs := fun u e => by
    have := es.kp d u npd e
    rw [hd] at this
    exact (Option.some.inj this).symm
   have leS := lk_le (od := od) uS
   have wl1 : Wl o (lk d od S) (lk d od H) := ⟨lk_same es.wl.1, fun p e => by
    obtain ⟨ss, np, g, sm, cur, cnt, gs, ns, hp, hg, hs, lg, ls⟩ := es.wl.2 p e
    have ne : p ≠ d := fun z => npd (by rw [e, z])
    exact ⟨lk_same ss, lk_none.mpr np, g, sm, cur, cnt, gs, ns, (lk_ne ne).trans hp, leS.lst _ _ hg, leS.lst _ _ hs, lg, ls⟩⟩
   have es1 : ES K o (lk d od H0) (lk d od S) (lk d od H) σ env := by
    refine ⟨wl1, fun a u n h => ?_, es.len, fun i b h => ?_⟩
    ·by_cases q : a = d
     ·subst q
      cases e : H0 a with
      | none => rw [lk_none.mpr e] at h; cases h
      | some w =>
       rw [lk_at e] at h
       rw [lk_at (es.kp a w n e)]
       exact h
     ·rw [lk_ne q] at h ⊢
      exact es.kp a u n h
    ·obtain ⟨v, e1, e2⟩ := es.sl i b h
     refine ⟨v, e1, ?_⟩
     cases b with
     | st dd => exact rep_mono leS e2
     | ow a dd =>
      obtain ⟨x1, x2, x3, x4⟩ := e2
      have ne : a ≠ d := fun z => by rw [z, h1] at x2; cases x2
      exact ⟨x1, lk_none.mpr x2, x3, by rw [lk_ne ne]; exact x4.le leS⟩
     | br dd =>
      refine rep_mono ?_ (show Rep K (offp o H0) v dd from e2)
      have e3 : offp o (lk d od H0) = lk d od (offp o H0) := by
       funext a
       unfold offp lk
       by_cases q1 : o = some a
       ·by_cases q2 : a = d
        ·exact absurd (by rw [← q2]; exact q1) npd
        ·simp [q1, q2]
       ·simp [q1]
      rw [e3]
      exact lk_le fun u e => uH0 u (by unfold offp at e; split at e <;> first | cases e | exact e)
     | pool => exact e2
     | xn a c dd C fs =>
      obtain ⟨x1, x2, y, x3, np1, ⟨fv, y1, y2, y3⟩⟩ := e2
      have ne : y ≠ d := fun z => by rw [z, hd] at y1; cases y1
      exact ⟨x1, x2, y, x3, np1, ⟨fv, (lk_ne ne).trans y1, y2, repL_mono leS y3⟩⟩
   refine kd (lk d od H) _ (fun a C dx fs h => ?_) ⟨d, od, rfl, .inl ⟨kvs, lk_at hd, ?_⟩⟩
   ·rw [lk_ne (fun e => by rw [e, hd] at h; cases h)]
    exact h
   refine lc_body hg ht he hj es1 (wk_keys (lk_at h1) h2).toC ⟨by rw [hlen]; exact q.1, q.2⟩ fun D acc ds S' H' g w hD sD hdd hr q' => ?_
   have hH' : H' d = some (.frz od (.dK kvs)) := g.rs d _ npd (lk_at hd)
   have hS' : S' d = some (.frz od (.dK kvs)) := g.st _ _ (lk_at h1)
   refine ⟨hH', ?_⟩
   have le2 : Le S' (upd S' d (.dK kvs)) := by
    have key : ∀ a u, (∀ kvs, u ≠ HO.dK kvs) → (∀ o u', u ≠ HO.frz o u') → Rd S' a u → Rd (upd S' d (.dK kvs)) a u := fun a u hu hf h => by
     have ne : a ≠ d := fun e => by
      subst e
      rcases h with h | ⟨o, h⟩
      ·rw [hS'] at h
       exact hf _ _ (Option.some.inj h).symm
      ·rw [hS'] at h
       cases h
       exact hu _ rfl
     rcases h with h | ⟨o, h⟩
     ·exact .inl ((upd_ne ne).trans h)
     ·exact .inr ⟨o, (upd_ne ne).trans h⟩
    refine ⟨fun a xs h => key a _ (fun _ e => by cases e) (fun _ _ e => by cases e) h, fun a ks h => ?_, fun a xs h => key a _ (fun _ e => by cases e) (fun _ _ e => by cases e) h, fun a C dx fs h => ?_, fun a xs h => ?_, fun a xs h => ?_, fun a φ h => key a _ (fun _ e => by cases e) (fun _ _ e => by cases e) h⟩
    ·by_cases q : a = d
     ·subst q
      rcases h with h | ⟨o, h⟩
      ·rw [hS'] at h; cases h
      ·rw [hS'] at h
       cases h
       exact .inl upd_same
     ·rcases h with h | ⟨o, h⟩
      ·exact .inl ((upd_ne q).trans h)
      ·exact .inr ⟨o, (upd_ne q).trans h⟩
    ·rw [upd_ne (fun e => by subst e; rw [hS'] at h; cases h)]
     exact h
    ·rw [upd_ne (fun e => by subst e; rw [hS'] at h; cases h)]
     exact h
    ·rw [upd_ne (fun e => by subst e; rw [hS'] at h; cases h)]
     exact h
   have hDd : D ≠ d := fun e => by rw [e, lk_none, hd] at hD; cases hD
   have g' : GrO o S H (upd S' d (.dK kvs)) (upd H' d (.dK kvs)) := by
    refine ⟨fun a u h => ?_, fun a u n h => ?_, fun a h3 h4 ht => ?_, fun a h3 => ?_⟩
    ·by_cases q : a = d
     ·subst q; rw [upd_same, ← h1, h]
     ·rw [upd_ne q]
      exact g.st _ _ ((lk_ne q).trans h)
    ·by_cases q : a = d
     ·subst q; rw [upd_same, ← hd, h]
     ·rw [upd_ne q]
      exact g.rs _ _ n ((lk_ne q).trans h)
    ·have ne : a ≠ d := fun e => by rw [e, h1] at h3; cases h3
     have q := g.fr a (lk_none.mpr h3) (fun z => h4 (lk_none.mp z)) (fun xs e => by rw [lk_ne ne] at e; exact ht xs e)
     exact ⟨by rw [upd_ne ne]; exact q.1, q.2.upd ne⟩
    ·by_cases q : a = d
     ·subst q; rw [upd_same]; intro z; cases z
     ·rw [upd_ne q]
      exact g.ex a fun z => h3 (lk_none.mp z)
   have w' : Wl o (upd S' d (.dK kvs)) (upd H' d (.dK kvs)) := ⟨same_new w.1, fun p e => by
    obtain ⟨ss, np, gg, sm, cur, cnt, gs, ns, hp, hg, hs, lg, ls⟩ := w.2 p e
    have ne : p ≠ d := fun z => npd (by rw [e, z])
    exact ⟨same_new ss, (upd_ne ne).trans np, gg, sm, cur, cnt, gs, ns, (upd_ne ne).trans hp, le2.lst _ _ hg, le2.lst _ _ hs, lg, ls⟩⟩
   refine k D (.lst ds) _ _ g' w' (lk_none.mp hD) ((upd_ne hDd).trans sD) ?_ q'
   rw [upd_ne hDd, hdd]
   exact .lst (repL_mono le2 hr)
  ·right
   refine kd H _ (fun a C dx fs h => h) ⟨d, od, rfl, .inl ⟨kvs, es.wl.1 _ _ h1, ?_⟩⟩
   refine lc_body hg ht he hj es (wk_keys h1 h2).toC ⟨by rw [hlen]; exact q.1, q.2⟩ fun D acc ds S' H' g w hD sD hdd hr q' => ?_
   refine k D (.lst ds) S' H' g w hD sD ?_ q'
   rw [hdd]
   exact .lst hr
 ·exact q.elim
end
end
section
theorem find_nd {κ : Type} [DecidableEq κ] {vs : List (κ × Value)} (nd : (vs.map (·.1)).Nodup) {k : κ} {y : Value} (h : (k, y) ∈ vs) : vs.find? (fun kv => kv.1 = k) = some (k, y) := by
 induction vs with
 | nil => cases h
 | cons p r ih =>
  rw [List.map_cons, List.nodup_cons] at nd
  rw [List.find?_cons]
  rcases List.mem_cons.mp h with rfl | h
  ·simp
  ·have : decide (p.1 = k) = false := decide_eq_false fun e => nd.1 (by rw [e]; exact List.mem_map.mpr ⟨(k, y), h, rfl⟩)
   simp only [this]
   exact ih nd.2 h
section
variable {X : Cx} {n : Nat} {C f : Addr} {fd : FuncData} {ps : List Str} {sp : Sp} {A : Around}
/-- x == y, asked by a dict, tells True -/
def EqB (X : Cx) (A : Around) (x y : V) (H : Hp) (R : Hp → Prop) : Prop := ∀ (pins : List (Addr × Obj)) (σ : L2.St) (s : Shared) (u v : Value) (E : Value → Shared → Prop) (Q : Bool → Shared → Prop), L2.Inv X pins σ H s → RelV x u → RelV y v →
 (∀ H' s', L2.Inv X pins σ H' s' → R H' → Q true s') → wpAny (model X.prog X.w) A (eqBool u v) Q E s
theorem EqB.same {a : Addr} {H : Hp} {R : Hp → Prop} (h : R H) : EqB X A (.ref a) (.ref a) H R := fun pins σ s u v E Q I ru rv k => by
 obtain rfl : u = Value.ref a := ru
 obtain rfl : v = Value.ref a := rv
 exact SeqAt.EqAt.same (A := A) (s := s) (Value.ref a) X.prog X.w E Q (k H s I h)
theorem EqB.own (c : EqC X.K C f) (F : FnOk X.prog X.w X.K X.mg X.base CX0 n f fd ps sp) (hb : Binds X.K fd ps []) (hr : Room n A) (hf : A.frames = X.A.frames) {a b dx dy : Addr} {fs gs : List (Str × V)} {H : Hp} {R : Hp → Prop} (ne : a ≠ b)
  (ha : H a = some (.ins C dx fs)) (hb' : H b = some (.ins C dy gs)) (q : sp [.ref a, .ref b] H (fun v H' => v = .bl true ∧ R H') E0) : EqB X A (.ref a) (.ref b) H R := fun pins σ s u v E Q I ru rv k => by
 obtain rfl : u = Value.ref a := ru
 obtain rfl : v = Value.ref b := rv
 obtain ⟨mA, J, _⟩ := ins_get I.hok ha
 obtain ⟨mB, J', _⟩ := ins_get I.hok hb'
 obtain ⟨od, J, _⟩ := J.look
 obtain ⟨od', J', _⟩ := J'.look
 obtain ⟨m, hF⟩ := I.fr
 unfold eqBool
 try with_reducible refine wpAny_holding ?_
 show wpAny _ _ (if (Value.ref a == Value.ref b) = true then _ else _) Q E s
 have hab : ¬ (Value.ref a == Value.ref b) = true := fun h => ne (by have := eq_of_beq h; injection this)
 rw [if_neg hab]
 refine wpAny_bind ?_
 refine PySem.W.cmp_K (op := .Eq) (tb := .ref C) hr.units0 hF I.ok.mod.kin J J'.type (by simp [PySem.W.notFirst]) c.eq c.fn (wpAny_mono (run2 F hb I hr hf q) (fun z s' hz => ?_) fun _ _ e => e)
 obtain ⟨z', H', I', rz, rfl, q'⟩ := hz
 obtain rfl : z = Value.bool true := rz
 exact wpAny_truthy_bool (k H' s' I' q')
/-- the values one by one -/
def SeqEq (X : Cx) (A : Around) (F : Hp → Prop) : List (V × V) → Hp → (Hp → Prop) → Prop
 | [], H, R => F H ∧ R H
 | (x, y) :: r, H, R => F H ∧ EqB X A x y H fun H' => SeqEq X A F r H' R
theorem SeqEq.hd {F : Hp → Prop} {l : List (V × V)} {H : Hp} {R : Hp → Prop} (h : SeqEq X A F l H R) : F H := by
 cases l with
 | nil => exact h.1
 | cons p r => obtain ⟨x, y⟩ := p; exact h.1
/-- both dicts stay as they are -/
def TwoD (a b : Addr) (oa ob : Obj) (kva kvb : List (Key × V)) (H : Hp) : Prop := H a = some (.frz oa (.dK kva)) ∧ H b = some (.frz ob (.dK kvb))
theorem SeqEq.at {F : Hp → Prop} {x y : V} : ∀ {l : List (V × V)} {H : Hp} {R : Hp → Prop} {r : List (V × V)}, l = (x, y) :: r → SeqEq X A F l H R → EqB X A x y H fun H' => SeqEq X A F r H' R
 | _, _, _, _, rfl, h => h.2
end
end
section
section
variable {X : Cx} {A : Around}
theorem EqB.str {z : Str} {H : Hp} {R : Hp → Prop} (h : R H) : EqB X A (.str z) (.str z) H R := fun pins σ s u v E Q I ru rv k => by
 obtain ⟨t, rfl⟩ : ∃ t, u = Value.str z t := ru
 obtain ⟨t', rfl⟩ : ∃ t, v = Value.str z t := rv
 exact wpAny_eqBool_str (by rw [decide_eq_true rfl]; exact k H s I h)
end
section
variable {K : PySem.W.Frag} {W : WX} {ta tb : TE} {aa ab : AE}
theorem lock_es {o : Option Addr} {H0 S H : Hp} {σ : L2.St} {env : AEnv} (es : ES K o H0 S H σ env) {d : Addr} {od : Obj} {kvs : List (Key × V)} (h1 : S d = some (.dK kvs)) : ES K o (lk d od H0) (lk d od S) (lk d od H) σ env ∧ Le S (lk d od S) := by
 have hd := es.wl.1 _ _ h1
 have npd : o ≠ some d := fun e => by
  obtain ⟨_, _, g, s, cur, cnt, gs, ns, hp, _⟩ := es.wl.2 d e
  rw [hd] at hp
  cases hp
 have uS : ∀ u, S d = some u → u = .dK kvs := fun u e => by rw [h1] at e; exact (Option.some.inj e).symm
 have uH0 : ∀ u, H0 d = some u → u = .dK kvs := fun u e => by
  have := es.kp d u npd e
  rw [hd] at this
  exact (Option.some.inj this).symm
 have leS := lk_le (od := od) uS
 have wl1 : Wl o (lk d od S) (lk d od H) := ⟨lk_same es.wl.1, fun p e => by
  obtain ⟨ss, np, g, sm, cur, cnt, gs, ns, hp, hg, hs, lg, ls⟩ := es.wl.2 p e
  have ne : p ≠ d := fun z => npd (by rw [e, z])
  exact ⟨lk_same ss, lk_none.mpr np, g, sm, cur, cnt, gs, ns, (lk_ne ne).trans hp, leS.lst _ _ hg, leS.lst _ _ hs, lg, ls⟩⟩
 have es1 : ES K o (lk d od H0) (lk d od S) (lk d od H) σ env := by
  refine ⟨wl1, fun a u n h => ?_, es.len, fun i b h => ?_⟩
  ·by_cases q : a = d
   ·subst q
    cases e : H0 a with
    | none => rw [lk_none.mpr e] at h; cases h
    | some w =>
     rw [lk_at e] at h
     rw [lk_at (es.kp a w n e)]
     exact h
   ·rw [lk_ne q] at h ⊢
    exact es.kp a u n h
  ·obtain ⟨v, e1, e2⟩ := es.sl i b h
   refine ⟨v, e1, ?_⟩
   cases b with
   | st dd => exact rep_mono leS e2
   | ow a dd =>
    obtain ⟨x1, x2, x3, x4⟩ := e2
    have ne : a ≠ d := fun z => by rw [z, h1] at x2; cases x2
    exact ⟨x1, lk_none.mpr x2, x3, by rw [lk_ne ne]; exact x4.le leS⟩
   | br dd =>
    refine rep_mono ?_ (show Rep K (offp o H0) v dd from e2)
    have e3 : offp o (lk d od H0) = lk d od (offp o H0) := by
     funext a
     unfold offp lk
     by_cases q1 : o = some a
     ·by_cases q2 : a = d
      ·exact absurd (by rw [← q2]; exact q1) npd
      ·simp [q1, q2]
     ·simp [q1]
    rw [e3]
    exact lk_le fun u e => uH0 u (by unfold offp at e; split at e <;> first | cases e | exact e)
   | pool => exact e2
   | xn a c dd C fs =>
    obtain ⟨x1, x2, y, x3, np1, ⟨fv, y1, y2, y3⟩⟩ := e2
    have ne : y ≠ d := fun z => by rw [z, hd] at y1; cases y1
    exact ⟨x1, x2, y, x3, np1, ⟨fv, (lk_ne ne).trans y1, y2, repL_mono leS y3⟩⟩
 exact ⟨es1, leS⟩
theorem unlock_gr {o : Option Addr} {H0 S H S' H' : Hp} {σ : L2.St} {env : AEnv} (es : ES K o H0 S H σ env) {d : Addr} {od : Obj} {kvs : List (Key × V)} (h1 : S d = some (.dK kvs)) (g : GrO o (lk d od S) (lk d od H) S' H') (w : Wl o S' H') :
  H' d = some (.frz od (.dK kvs)) ∧ GrO o S H (upd S' d (.dK kvs)) (upd H' d (.dK kvs)) ∧ Wl o (upd S' d (.dK kvs)) (upd H' d (.dK kvs)) := by
 have hd := es.wl.1 _ _ h1
 have npd : o ≠ some d := fun e => by
  obtain ⟨_, _, g, s, cur, cnt, gs, ns, hp, _⟩ := es.wl.2 d e
  rw [hd] at hp
  cases hp
 have hH' : H' d = some (.frz od (.dK kvs)) := g.rs d _ npd (lk_at hd)
 have hS' : S' d = some (.frz od (.dK kvs)) := g.st _ _ (lk_at h1)
 have le2 : Le S' (upd S' d (.dK kvs)) := by
  have key : ∀ a u, (∀ kvs, u ≠ HO.dK kvs) → (∀ o u', u ≠ HO.frz o u') → Rd S' a u → Rd (upd S' d (.dK kvs)) a u := fun a u hu hf h => by
   have ne : a ≠ d := fun e => by
    subst e
    rcases h with h | ⟨o, h⟩
    ·rw [hS'] at h
     exact hf _ _ (Option.some.inj h).symm
    ·rw [hS'] at h
     cases h
     exact hu _ rfl
   rcases h with h | ⟨o, h⟩
   ·exact .inl ((upd_ne ne).trans h)
   ·exact .inr ⟨o, (upd_ne ne).trans h⟩
  refine ⟨fun a xs h => key a _ (fun _ e => by cases e) (fun _ _ e => by cases e) h, fun a ks h => ?_, fun a xs h => key a _ (fun _ e => by cases e) (fun _ _ e => by cases e) h, fun a C dx fs h => ?_, fun a xs h => ?_, fun a xs h => ?_, fun a φ h => key a _ (fun _ e => by cases e) (fun _ _ e => by cases e) h⟩
  ·by_cases q : a = d
   ·subst q
    rcases h with h | ⟨o, h⟩
    ·rw [hS'] at h; cases h
    ·rw [hS'] at h
     cases h
     exact .inl upd_same
   ·rcases h with h | ⟨o, h⟩
    ·exact .inl ((upd_ne q).trans h)
    ·exact .inr ⟨o, (upd_ne q).trans h⟩
  ·rw [upd_ne (fun e => by subst e; rw [hS'] at h; cases h)]
   exact h
  ·rw [upd_ne (fun e => by subst e; rw [hS'] at h; cases h)]
   exact h
  ·rw [upd_ne (fun e => by subst e; rw [hS'] at h; cases h)]
   exact h
 have g' : GrO o S H (upd S' d (.dK kvs)) (upd H' d (.dK kvs)) := by
  refine ⟨fun a u h => ?_, fun a u n h => ?_, fun a h3 h4 ht => ?_, fun a h3 => ?_⟩
  ·by_cases q : a = d
   ·subst q; rw [upd_same, ← h1, h]
   ·rw [upd_ne q]
    exact g.st _ _ ((lk_ne q).trans h)
  ·by_cases q : a = d
   ·subst q; rw [upd_same, ← hd, h]
   ·rw [upd_ne q]
    exact g.rs _ _ n ((lk_ne q).trans h)
  ·have ne : a ≠ d := fun e => by rw [e, h1] at h3; cases h3
   have q := g.fr a (lk_none.mpr h3) (fun z => h4 (lk_none.mp z)) (fun xs e => by rw [lk_ne ne] at e; exact ht xs e)
   exact ⟨by rw [upd_ne ne]; exact q.1, q.2.upd ne⟩
  ·by_cases q : a = d
   ·subst q; rw [upd_same]; intro z; cases z
   ·rw [upd_ne q]
    exact g.ex a fun z => h3 (lk_none.mp z)
 have w' : Wl o (upd S' d (.dK kvs)) (upd H' d (.dK kvs)) := ⟨same_new w.1, fun p e => by
  obtain ⟨ss, np, gg, sm, cur, cnt, gs, ns, hp, hg, hs, lg, ls⟩ := w.2 p e
  have ne : p ≠ d := fun z => npd (by rw [e, z])
  exact ⟨same_new ss, (upd_ne ne).trans np, gg, sm, cur, cnt, gs, ns, (upd_ne ne).trans hp, le2.lst _ _ hg, le2.lst _ _ hs, lg, ls⟩⟩
 exact ⟨hH', g', w'⟩
end
section
variable {X : Cx} {W : WX} {ta tb : TE} {aa ab : AE}
def aEqDO (E : D → Prop) (a b : AE) (ax : AX) (env : AEnv) (Q : B → Prop) : Prop := a ax env fun x => b ax env fun y => match x, y with
 | .st (.dK k1), .st (.dK k2) => k1 = k2 ∧ (∀ p ∈ k1, E p.2) ∧ Q (.st (.bl true))
 | _, _ => False
end
end
section
section
variable {X : Cx} {n : Nat} {C f : Addr} {fd : FuncData} {ps : List Str} {sp : Sp} {A : Around}
/-- x == y, asked by a dict, tells c -/
def EqV (X : Cx) (A : Around) (c : Bool) (x y : V) (H : Hp) (R : Hp → Prop) : Prop := ∀ (pins : List (Addr × Obj)) (σ : L2.St) (s : Shared) (u v : Value) (E : Value → Shared → Prop) (Q : Bool → Shared → Prop), L2.Inv X pins σ H s → RelV x u → RelV y v →
 (∀ H' s', L2.Inv X pins σ H' s' → R H' → Q c s') → wpAny (model X.prog X.w) A (eqBool u v) Q E s
theorem EqV.same {a : Addr} {H : Hp} {R : Hp → Prop} (h : R H) : EqV X A true (.ref a) (.ref a) H R := EqB.same h
theorem EqV.own {c : Bool} (cc : EqC X.K C f) (F : FnOk X.prog X.w X.K X.mg X.base CX0 n f fd ps sp) (hb : Binds X.K fd ps []) (hr : Room n A) (hf : A.frames = X.A.frames) {a b dx dy : Addr} {fs gs : List (Str × V)} {H : Hp} {R : Hp → Prop} (ne : a ≠ b)
  (ha : H a = some (.ins C dx fs)) (hb' : H b = some (.ins C dy gs)) (q : sp [.ref a, .ref b] H (fun v H' => v = .bl c ∧ R H') E0) : EqV X A c (.ref a) (.ref b) H R := fun pins σ s u v E Q I ru rv k => by
 obtain rfl : u = Value.ref a := ru
 obtain rfl : v = Value.ref b := rv
 obtain ⟨mA, J, _⟩ := ins_get I.hok ha
 obtain ⟨mB, J', _⟩ := ins_get I.hok hb'
 obtain ⟨od, J, _⟩ := J.look
 obtain ⟨od', J', _⟩ := J'.look
 obtain ⟨m, hF⟩ := I.fr
 unfold eqBool
 try with_reducible refine wpAny_holding ?_
 show wpAny _ _ (if (Value.ref a == Value.ref b) = true then _ else _) Q E s
 have hab : ¬ (Value.ref a == Value.ref b) = true := fun h => ne (by have := eq_of_beq h; injection this)
 rw [if_neg hab]
 refine wpAny_bind ?_
 refine PySem.W.cmp_K (op := .Eq) (tb := .ref C) hr.units0 hF I.ok.mod.kin J J'.type (by simp [PySem.W.notFirst]) cc.eq cc.fn (wpAny_mono (run2 F hb I hr hf q) (fun z s' hz => ?_) fun _ _ e => e)
 obtain ⟨z', H', I', rz, rfl, q'⟩ := hz
 obtain rfl : z = Value.bool c := rz
 exact wpAny_truthy_bool (k H' s' I' q')
/-- the values one by one, up to the first that differs -/
def SeqV (X : Cx) (A : Around) (F : Hp → Prop) : List (V × V) → Bool → Hp → (Hp → Prop) → Prop
 | [], b, H, R => b = true ∧ F H ∧ R H
 | (x, y) :: r, b, H, R => F H ∧ ∃ c, EqV X A c x y H fun H' => (c = true → SeqV X A F r b H' R) ∧ (c = false → b = false ∧ F H' ∧ R H')
theorem SeqV.hd {F : Hp → Prop} {l : List (V × V)} {b : Bool} {H : Hp} {R : Hp → Prop} (h : SeqV X A F l b H R) : F H := by
 cases l with
 | nil => exact h.2.1
 | cons p r => obtain ⟨x, y⟩ := p; exact h.1
theorem SeqV.at {F : Hp → Prop} {x y : V} : ∀ {l : List (V × V)} {b : Bool} {H : Hp} {R : Hp → Prop} {r : List (V × V)}, l = (x, y) :: r → SeqV X A F l b H R → ∃ c, EqV X A c x y H fun H' => (c = true → SeqV X A F r b H' R) ∧ (c = false → b = false ∧ F H' ∧ R H')
 | _, _, _, _, _, rfl, h => h.2
theorem samePairsV {bb : Bool} {nm : String} {a b : Addr} {oa ob : Obj} {kva kvb : List (Key × V)} {pins : List (Addr × Obj)} {σ : L2.St} {H : Hp} {s : Shared} {R : Hp → Prop} {Q : Bool → Shared → Prop} {E : Value → Shared → Prop} (I : L2.Inv X pins σ H s)
  (hk : kva.map (·.1) = kvb.map (·.1)) (hs : SeqV X A (TwoD a b oa ob kva kvb) ((kva.map (·.2)).zip (kvb.map (·.2))) bb H R) (h : ∀ H' s', L2.Inv X pins σ H' s' → TwoD a b oa ob kva kvb H' → R H' → Q bb s') :
  wpAny (model X.prog X.w) A (Builtin.Dict.samePairs nm a b) Q E s := by
 obtain ⟨fa, fb⟩ := hs.hd
 obtain ⟨ha, hga, _, es, ep, vs, hda, sza, kvA, dA⟩ := I.frzK fa
 obtain ⟨hb, hgb, _, es', ep', vs', hdb, szb, kvB, dB⟩ := I.frzK fb
 obtain ⟨oa', es1, hga', _, hda', hka, hpa, nda⟩ := dA
 obtain ⟨ob', es1', hgb', _, hdb', hkb, hpb, ndb⟩ := dB
 rw [hga] at hga'
 cases hga'
 rw [hgb] at hgb'
 cases hgb'
 rw [hda] at hda'
 cases hda'
 rw [hdb] at hdb'
 cases hdb'
 have lk : kva.length = kvb.length := by have := congrArg List.length hk; rwa [List.length_map, List.length_map] at this
 have zl : ((kva.map (·.2)).zip (kvb.map (·.2))).length = es.size := by rw [List.length_zip, List.length_map, List.length_map]; omega
 obtain ⟨Z, hZ⟩ : ∃ Z, (kva.map (·.2)).zip (kvb.map (·.2)) = Z := ⟨_, rfl⟩
 rw [hZ] at hs zl
 have hfind : ∀ k, findBy (mixKind X.prog X.w).is es' k = valueAt vs' k := fun k => by
  rw [← hpb.find k]
  obtain ⟨l⟩ := es'
  simp [findBy]
 unfold Builtin.Dict.samePairs Builtin.Dict.showsAll
 rw [if_neg (show ¬ (a == sysModules) = true by rw [ha]; exact Bool.false_ne_true), if_neg (show ¬ (b == sysModules) = true by rw [hb]; exact Bool.false_ne_true)]
 refine wpAny_bind (wpAny_pure (wpAny_bind (wpAny_pure ?_)))
 refine wpAny_bind (wpAny_dictEntries hga hda ?_)
 dsimp only
 refine wpAny_bind (wpAny_dictEntries hgb hdb ?_)
 rw [if_neg (by simp; omega)]
 refine wpAny_bind (wpAny_dictEpoch hga hda ?_)
 refine wpAny_bind ?_
 rw [Std.Legacy.Range.forIn_eq_forIn_range']
 simp only [Std.Legacy.Range.size, Nat.sub_zero, Nat.add_sub_cancel, Nat.div_one]
 refine wpAny_forIn_list _ (fun rest q s' => q = (none, ()) ∧ ∃ i H', L2.Inv X pins σ H' s' ∧ rest = List.range' i (es.size - i) ∧ i ≤ es.size ∧ SeqV X A (TwoD a b oa ob kva kvb) (Z.drop i) bb H' R) _ ?_ ?_ _ _ ⟨rfl, 0, H, I, by simp, Nat.zero_le _, hs⟩
 ·rintro x rest q s' ⟨rfl, i, H', I', hr, hi, sq⟩
  obtain ⟨fa', fb'⟩ := sq.hd
  obtain ⟨_, hga2, _⟩ := I'.frzK fa'
  obtain ⟨_, hgb2, _⟩ := I'.frzK fb'
  have hlt : i < es.size := by
   rcases Nat.lt_or_ge i es.size with h | h
   ·exact h
   ·rw [Nat.sub_eq_zero_of_le h] at hr; simp at hr
  have e : es.size - i = (es.size - (i + 1)) + 1 := by omega
  rw [e, List.range'_succ] at hr
  injection hr with h1 hrest
  subst h1
  refine wpAny_bind (wpAny_dictEntries hga2 hda ?_)
  rw [Array.getElem?_eq_getElem hlt]
  have hA : x < kva.length := by omega
  have hB : x < kvb.length := by omega
  have hV : x < vs.length := by rw [← kvA.length]; exact hA
  have hV' : x < vs'.length := by rw [← kvB.length]; exact hB
  obtain ⟨k, v, hkv⟩ : ∃ k v, vs[x] = (k, v) := ⟨_, _, rfl⟩
  obtain ⟨k2, y, hky⟩ : ∃ k y, vs'[x] = (k, y) := ⟨_, _, rfl⟩
  obtain ⟨xa, exa, rxa⟩ := kvA.at' (i := x) (k := k) (v := v) (by rw [List.getElem?_eq_getElem hV, hkv])
  obtain ⟨xb, exb, rxb⟩ := kvB.at' (i := x) (k := k2) (v := y) (by rw [List.getElem?_eq_getElem hV', hky])
  have ek : k = k2 := by
   have e1 : (kva.map (·.1))[x]? = some k := by rw [List.getElem?_map, exa]; rfl
   have e2 : (kvb.map (·.1))[x]? = some k2 := by rw [List.getElem?_map, exb]; rfl
   rw [hk, e2] at e1
   exact (Option.some.inj e1).symm
  subst ek
  have vat : valueAt vs' k = some y := by
   unfold valueAt
   have : vs'.find? (fun kv => kv.1 = k) = some (k, y) := by
    refine find_nd ndb (List.mem_of_getElem? (i := x) (by rw [List.getElem?_eq_getElem hV', hky]))
   rw [this]
   rfl
  obtain ⟨hkey, hval⟩ := hpa.get? (i := x) (e := es[x]) (k := k) (v := v) (by rw [Array.getElem?_toList]; exact Array.getElem?_eq_getElem hlt) (by rw [List.getElem?_eq_getElem hV, hkv])
  obtain ⟨k', hk', hh⟩ := hka es[x] (Array.getElem_mem hlt)
  have ekk : k' = k := (mixKind X.prog X.w).inj _ _ _ hk' hkey
  rw [ekk] at hh
  show wpAny _ _ (holding [es[x].key, es[x].val] _ >>= _) _ _ _
  rw [hh]
  refine wpAny_bind (wpAny_holding (wpAny_bind (wpAny_dictFind_of hkey hgb2 hdb hkb ?_)))
  cases hj : es'.findIdx? fun e => (mixKind X.prog X.w).is k e.key with
  | none =>
   have hn : valueAt vs' k = none := by rw [← hfind k, findBy_of_findIdx?, hj]
   rw [vat] at hn
   cases hn
  | some j =>
   obtain ⟨hjlt, _, _⟩ := Array.findIdx?_eq_some_iff_getElem.mp hj
   have hv' : valueAt vs' k = some es'[j].val := by
    rw [← hfind k, findBy_of_findIdx?, hj]
    simp [Array.getElem?_eq_getElem hjlt]
   rw [vat] at hv'
   have ey := Option.some.inj hv'
   refine wpAny_bind (wpAny_dictEntries hgb2 hdb ?_)
   rw [Array.getElem?_eq_getElem hjlt]
   have dr : Z.drop x = (xa, xb) :: Z.drop (x + 1) := by
    have hz : x < Z.length := by omega
    rw [List.drop_eq_getElem_cons hz]
    have e1 : (kva.map (·.2))[x]? = some xa := by rw [List.getElem?_map, exa]; rfl
    have e2 : (kvb.map (·.2))[x]? = some xb := by rw [List.getElem?_map, exb]; rfl
    have e3 : Z[x]? = some (xa, xb) := by rw [← hZ]; exact List.getElem?_zip_eq_some.mpr ⟨e1, e2⟩
    rw [List.getElem?_eq_getElem hz] at e3
    rw [Option.some.inj e3]
   obtain ⟨c, st⟩ := SeqV.at dr sq
   rw [← hval] at rxa
   rw [ey] at rxb
   refine wpAny_holding (st pins σ s' _ _ _ _ I' rxa rxb fun H2 s2 I2 sq2 => ?_)
   cases c with
   | true =>
    have sq2 := sq2.1 rfl
    obtain ⟨fa2, fb2⟩ := sq2.hd
    obtain ⟨_, hga3, _⟩ := I2.frzK fa2
    show wpAny _ _ (if (!true) = true then _ else _) _ _ _
    rw [if_neg (by decide)]
    refine wpAny_bind (wpAny_dictEpoch hga3 hda ?_)
    rw [if_neg (by simp)]
    exact wpAny_pure ⟨rfl, x + 1, H2, I2, hrest, hlt, sq2⟩
   | false =>
    obtain ⟨rfl, f2, r2⟩ := sq2.2 rfl
    show wpAny _ _ (if (!false) = true then _ else _) _ _ _
    rw [if_pos (by decide)]
    exact wpAny_pure (wpAny_pure (h H2 s2 I2 f2 r2))
 ·rintro q s' ⟨rfl, i, H', I', hr, hi, sq⟩
  have hin : i = es.size := by
   rcases Nat.lt_or_ge i es.size with h | h
   ·have e : es.size - i = (es.size - (i + 1)) + 1 := by omega
    rw [e, List.range'_succ] at hr; exact nomatch hr
   ·exact Nat.le_antisymm hi h
  refine wpAny_pure ?_
  rw [hin, ← zl, List.drop_length] at sq
  obtain ⟨rfl, f2, r2⟩ := sq
  exact h H' s' I' f2 r2
end
end
section
section
variable {X : Cx} {A : Around}
theorem EqV.str {z z' : Str} {H : Hp} {R : Hp → Prop} (h : R H) : EqV X A (decide (z = z')) (.str z) (.str z') H R := fun pins σ s u v E Q I ru rv k => by
 obtain ⟨t, rfl⟩ : ∃ t, u = Value.str z t := ru
 obtain ⟨t', rfl⟩ : ∃ t, v = Value.str z' t := rv
 exact wpAny_eqBool_str (k H s I h)
def rEqDV (X : Cx) : R2 := fun x y H Q => ∃ (a b : Addr) (oa ob : Obj) (kva kvb : List (Key × V)) (c : Bool), x = .ref a ∧ y = .ref b ∧ kva.map (·.1) = kvb.map (·.1) ∧
 SeqV X X.A.in1 (TwoD a b oa ob kva kvb) ((kva.map (·.2)).zip (kvb.map (·.2))) c H fun H' => TwoD a b oa ob kva kvb H' → Q (.bl c) H'
theorem op_eqDV (hu : X.A.units < cLine) : OpR X (compareOp .Eq) (rEqDV X) := by
 intro pins s σ H x y v u Q I rx ry h
 obtain ⟨a, b, oa, ob, kva, kvb, c, rfl, rfl, hk, sq⟩ := h
 obtain rfl : v = Value.ref a := rx
 obtain rfl : u = Value.ref b := ry
 obtain ⟨fa, fb⟩ := sq.hd
 obtain ⟨_, _, _, _, _, _, _, _, _, dA⟩ := I.frzK fa
 obtain ⟨_, _, _, _, _, _, _, _, _, dB⟩ := I.frzK fb
 have ta : s.TypeIs (.ref a) "dict" := by
  obtain ⟨o, _, h1, h2, _⟩ := dA
  exact ⟨o, h1, h2.1⟩
 have tb : s.TypeIs (.ref b) "dict" := by
  obtain ⟨o, _, h1, h2, _⟩ := dB
  exact ⟨o, h1, h2.1⟩
 refine wpAny_richCompare_same_room (op := .Eq) ta tb PySem.F.slot_dict_eq (wpAny_call_entry PySem.F.slot_dict_eq ta PySem.F.entry_dict_eq ?_ (PySem.F.args_dict_eq_2 _ _)) hu
 show wpAny _ _ (Builtin.Dict.dictSlotArgs "__eq__" ⟨[.ref a, .ref b], []⟩ >>= _) _ _ s
 refine wpAny_bind ?_
 unfold Builtin.Dict.dictSlotArgs
 refine wpAny_bind (wpAny_notOrdered_dict ta ?_)
 show wpAny _ _ (pure (Value.ref a, Value.ref b)) _ _ s
 refine wpAny_pure ?_
 refine wpAny_bind (wpAny_isInstance (T := "dict") tb PySem.F.sub_dict_dict ?_)
 simp only [Bool.not_true, Bool.false_eq_true, if_false]
 refine wpAny_bind (wpAny_pure (wpAny_bind (wpAny_pure ?_)))
 refine wpAny_bind (samePairsV I hk sq fun H' s' I' tw q => ?_)
 refine wpAny_pure ⟨_, rfl, ?_, ?_⟩
 ·exact fun x => nomatch x
 ·exact ⟨.bl c, H', I', (by show Value.bool (c == true) = Value.bool c; cases c <;> rfl), q tw⟩
end
section
variable {X : Cx} {W : WX} {ta tb : TE} {aa ab : AE}
/-- as lockU, with a free answer -/
theorem lockV {K : PySem.W.Frag} {o : Option Addr} {H0 S H : Hp} {σ : L2.St} {env : AEnv} (es : ES K o H0 S H σ env) {d : Addr} {kvs : List (Key × V)} (hd : Rd S d (.dK kvs)) {t : TE} {Q : VK} {v : V} (k : ∀ S3 H3, GrO o S H S3 H3 → Wl o S3 H3 → Q v H3)
  (body : ∀ H0' S' H' od (P : VK), ES K o H0' S' H' σ env → S' d = some (.frz od (.dK kvs)) → Le S S' → (∀ a C dx fs, H a = some (.ins C dx fs) → H' a = some (.ins C dx fs)) → (∀ a od' u, S a = some (.frz od' u) → S' a = some (.frz od' u)) →
   (∀ S2 H2, GrO o S' H' S2 H2 → Wl o S2 H2 → P v H2) → t σ H' P) : tLockR t σ H Q := by
 rcases hd with h1 | ⟨od, h1⟩
 ·left
  have hh := es.wl.1 _ _ h1
  refine ⟨d, .dK kvs, hh, trivial, fun od => ?_⟩
  rw [← lk_upd hh]
  obtain ⟨es1, le⟩ := lock_es (od := od) es h1
  refine body _ _ _ od _ es1 (lk_at h1) le (fun a C dx fs h => ?_) (fun a od' u h => ?_) (fun S2 H2 g w => ?_)
  ·rw [lk_ne (fun e => by rw [e, hh] at h; cases h)]
   exact h
  ·rw [lk_ne (fun e => by rw [e, h1] at h; cases h)]
   exact h
  ·obtain ⟨hH, g', w'⟩ := unlock_gr es h1 g w
   exact ⟨hH, k _ _ g' w'⟩
 ·exact .inr (body H0 S H od Q es h1 ⟨fun _ _ h => h, fun _ _ h => h, fun _ _ h => h, fun _ _ _ _ h => h, fun _ _ h => h, fun _ _ h => h, fun _ _ h => h⟩ (fun _ _ _ _ h => h) (fun _ _ _ h => h) k)
/-- what may stand in such dicts, pair by pair, with the answer -/
def EqOkV (X : Cx) (d e : D) (c : Bool) : Prop := (∃ z z', d = .str z ∧ e = .str z' ∧ c = decide (z = z')) ∨ ∃ (C : Addr) (fs gs : List (Str × D)) (f : Addr) (fd : FuncData) (n : Nat) (sp : ASp), d = .obj C fs ∧ e = .obj C gs ∧ EqC X.K C f ∧ FnOk X.prog X.w X.K X.mg X.base CX0 n f fd ["self", "other"] (cSp X.K sp) ∧ Binds X.K fd ["self", "other"] [] ∧ Room n X.A.in1 ∧
 sp [.st d, .st e] (fun r => r = .bl c) (fun _ _ => False) ∧ ∀ S p, Rep X.K S (.ref p) d → Rep X.K S (.ref p) e → c = true
def AllV (E : D → D → Bool → Prop) : List (D × D) → Bool → Prop
 | [], b => b = true
 | (d, e) :: r, b => ∃ c, E d e c ∧ (c = true → AllV E r b) ∧ (c = false → b = false)
def aEqDV (E : D → D → Bool → Prop) (a b : AE) (ax : AX) (env : AEnv) (Q : B → Prop) : Prop := a ax env fun x => b ax env fun y => match x, y with
 | .st (.dK k1), .st (.dK k2) => k1.map (·.1) = k2.map (·.1) ∧ ∃ c, AllV E ((k1.map (·.2)).zip (k2.map (·.2))) c ∧ Q (.st (.bl c))
 | _, _ => False
theorem seq_goV {E : D → D → Bool → Prop} (hE : ∀ d e c, E d e c → EqOkV X d e c) {o : Option Addr} {S1 H1 : Hp} {a b : Addr} {oa ob : Obj} {kva kvb : List (Key × V)} (fa : S1 a = some (.frz oa (.dK kva))) (fb : S1 b = some (.frz ob (.dK kvb))) {R : Hp → Prop} (k : ∀ S3 H3, GrO o S1 H1 S3 H3 → Wl o S3 H3 → R H3) {bb : Bool} :
  ∀ {ds es : List D} {xs ys : List V}, RepL X.K S1 xs ds → RepL X.K S1 ys es → ds.length = es.length → AllV E (ds.zip es) bb → ∀ S2 H2, GrO o S1 H1 S2 H2 → Wl o S2 H2 → SeqV X X.A.in1 (TwoD a b oa ob kva kvb) (xs.zip ys) bb H2 R := by
 intro ds
 induction ds with
 | nil =>
  intro es xs ys rx ry hl hA S2 H2 g w
  cases rx
  cases es with
  | cons => cases hl
  | nil =>
   cases ry
   exact ⟨hA, ⟨w.1 _ _ (g.st _ _ fa), w.1 _ _ (g.st _ _ fb)⟩, k _ _ g w⟩
 | cons d ds ih =>
  intro es xs ys rx ry hl hA S2 H2 g w
  cases es with
  | nil => cases hl
  | cons e es =>
  cases rx with
  | cons r1 rx =>
  cases ry with
  | cons r2 ry =>
   have tw : ∀ S2 H2, GrO o S1 H1 S2 H2 → Wl o S2 H2 → TwoD a b oa ob kva kvb H2 := fun S2 H2 g w => ⟨w.1 _ _ (g.st _ _ fa), w.1 _ _ (g.st _ _ fb)⟩
   obtain ⟨c, hc, n1, n2⟩ := hA
   have nx : ∀ S2 H2, GrO o S1 H1 S2 H2 → Wl o S2 H2 → (c = true → SeqV X X.A.in1 (TwoD a b oa ob kva kvb) (List.zip _ _) bb H2 R) ∧ (c = false → bb = false ∧ TwoD a b oa ob kva kvb H2 ∧ R H2) := fun S2 H2 g w =>
    ⟨fun h => ih rx ry (by simpa using hl) (n1 h) S2 H2 g w, fun h => ⟨n2 h, tw _ _ g w, k _ _ g w⟩⟩
   refine ⟨tw _ _ g w, c, ?_⟩
   rcases hE _ _ _ hc with ⟨z, z', rfl, rfl, rfl⟩ | ⟨C, fs, gs, f, fd, n, sp, rfl, rfl, hq, F, hb, hr, hsp, had⟩
   ·cases r1
    cases r2
    exact EqV.str (nx S2 H2 g w)
   ·have rr1 := r1
    have rr2 := r2
    obtain ⟨p, dx, us, rfl, p1, p2, p3⟩ := rep_obj r1
    obtain ⟨p', dx', us', rfl, p1', p2', p3'⟩ := rep_obj r2
    by_cases ep : p = p'
    ·subst ep
     obtain rfl := had _ _ rr1 rr2
     exact EqV.same (nx S2 H2 g w)
    ·refine EqV.own hq F hb hr rfl ep (w.1 _ _ (g.st _ _ p1)) (w.1 _ _ (g.st _ _ p1')) ⟨o, S2, [.st (.obj C fs), .st (.obj C gs)], _, _, w, .cons (Rep.same g.st rr1) (.cons (Rep.same g.st rr2) .nil), (fun b hb => by
      rcases List.mem_cons.mp hb with rfl | hb
      ·rfl
      ·rw [List.mem_singleton.mp hb]; rfl), hsp, fun v d S' H' g' w' rv hd => ?_, fun _ _ _ _ _ _ _ _ _ q => q.elim⟩
     subst hd
     cases rv
     exact ⟨rfl, nx S' H' (g.trans g') w'⟩
theorem ea_eqDV {E : D → D → Bool → Prop} (hE : ∀ d e c, E d e c → EqOkV X d e c) (hp : EPu X.K ta aa) (hq : EPu X.K tb ab) : EA X.K W (tLockR (tLockR (tOp (rEqDV X) ta tb))) (aEqDV E aa ab) := fun o H0 S H σ env ax Q Qc es q k xl => by
 obtain ⟨v1, b1, r1, q, k1⟩ := hp o H0 S H σ env ax _ es q
 obtain ⟨v2, b2, r2, q, k2⟩ := hq o H0 S H σ env ax _ es q
 split at q
 ·rename_i kds kds2
  obtain ⟨he, c, hd, q⟩ := q
  obtain ⟨d1, kva, rfl, hd1, ka, ra⟩ := rep_dK r1
  obtain ⟨d2, kvb, rfl, hd2, kb, rb⟩ := rep_dK r2
  refine lockV es hd1 (v := .bl c) (fun S3 H3 g w => k (.bl c) (.st (.bl c)) S3 H3 g w (Rep.bl c) q) fun H0' S' H' od P es' f1 le1 in1 kf1 kP => ?_
  refine lockV es' (le1.dk _ _ hd2) (v := .bl c) kP fun H0'' S'' H'' od2 P2 es'' f2 le2 in2 kf2 kP2 => ?_
  have hins : ∀ a C dx fs, H a = some (.ins C dx fs) → H'' a = some (.ins C dx fs) := fun a C dx fs h => in2 _ _ _ _ (in1 _ _ _ _ h)
  refine k1 H'' _ hins (k2 H'' _ hins ⟨d1, d2, od, od2, kva, kvb, c, rfl, rfl, (ka.trans he).trans kb.symm, ?_⟩)
  exact seq_goV (o := o) (R := fun H' => TwoD d1 d2 od od2 kva kvb H' → P2 (.bl c) H') hE (kf2 _ _ _ f1) f2 (fun S3 H3 g w _ => kP2 S3 H3 g w) (repL_mono le2 (repL_mono le1 ra)) (repL_mono le2 (repL_mono le1 rb)) (by rw [List.length_map, List.length_map]; have := congrArg List.length he; rwa [List.length_map, List.length_map] at this) hd S'' H'' GrO.refl es''.wl
 ·exact q.elim
end
end
section
section
variable {K : PySem.W.Frag} {W : WX} {ta tb te td ty tv tk : TE} {aa ab ae ad ay av ak : AE} {wi : TI} {ai : AI}
def aColD (g : B → AEnv → (AEnv → Prop) → Prop) (ct : AT) (ak av : AE) (ax : AX) (env : AEnv) : List B → List (Key × D) → (List (Key × D) → Prop) → Prop
 | [], acc, Q => Q acc
 | x :: r, acc, Q => g x env fun env1 => ct ax env1 fun c => ifB c (ak ax env1 fun y => av ax env1 fun z => match y.get.key, z with
  | some k, .st d => aColD g ct ak av ax env r (putD acc k d) Q
  | _, _ => False) (aColD g ct ak av ax env r acc Q)
def aDc (ai : AI) (g : B → AEnv → (AEnv → Prop) → Prop) (ct : AT) (ak av : AE) (vs : List Nat) (ax : AX) (env : AEnv) (Q : D → Prop) : Prop := ai ax env fun items => items.length ≤ 1000 ∧ aColD g ct ak av (fun _ _ _ => True) (awipe env vs) items [] fun ds => Q (.dK ds)
theorem putD_len {κ : Type} [DecidableEq κ] (kds : List (κ × D)) (k : κ) (d : D) : (putD kds k d).length ≤ kds.length + 1 := by
 unfold putD
 split
 ·rw [List.length_map]; omega
 ·simp
theorem dc_it {J : It} {n : Nat} {G : Hp → Prop} {Y : Nat → Hp → V → Hp → Prop} (w : Walk J n G Y) {g : TG} {tt : TT} {tk tv : TE} {vs : List Nat} {σ : L2.St} {H1 : Hp} {D : Addr} {Qd : Hp → Prop} (Pv : Nat → Hp → Prop) (h0 : Pv 0 (upd H1 D (.dK []))) (hG : ∀ i H, i ≤ n → Pv i H → G H)
  (hs : ∀ i x H H', i < n → Pv i H → Y i H x H' → g x (wipe σ vs) H' fun σ2 H2 => wipe σ2 vs = wipe σ vs ∧ tt σ2 H2 fun b H3 =>
   if b = true then tk σ2 H3 fun y H4 => tv σ2 H4 fun z H5 => ∃ kvs k, y = kV k ∧ H5 D = some (.dK kvs) ∧ kvs.length < sizeLine ∧ Pv (i + 1) (upd H5 D (.dK (putK kvs k z))) else Pv (i + 1) H3) (hd : ∀ H, Pv n H → Qd H) :
  ∃ W : Nat → Nat → Hp → Prop, (∃ m, W 0 m (upd H1 D (.dK []))) ∧ ∀ i m H, W i m H →
   (J.stop i H ∧ Qd H) ∨ (J.go i H ∧ ∃ Nx : Hp → Prop, (∀ H', Nx H' → ∃ m', m' < m ∧ W (i + 1) m' H') ∧ ∀ x H', J.yld i H x H' → g x (wipe σ vs) H' fun σ2 H2 => wipe σ2 vs = wipe σ vs ∧ tt σ2 H2 fun b H3 =>
    if b = true then tk σ2 H3 fun y H4 => tv σ2 H4 fun z H5 => ∃ kvs k, y = kV k ∧ H5 D = some (.dK kvs) ∧ kvs.length < sizeLine ∧ Nx (upd H5 D (.dK (putK kvs k z))) else Nx H3) := by
 refine ⟨fun i m H => m = n - i ∧ i ≤ n ∧ Pv i H, ⟨n, by simp, Nat.zero_le _, h0⟩, ?_⟩
 rintro i m H ⟨rfl, hi, p⟩
 have q := hG i H hi p
 by_cases hlt : i < n
 ·refine .inr ⟨w.goes i H hlt q, Pv (i + 1), fun H' p' => ⟨n - (i + 1), by omega, rfl, hlt, p'⟩, fun x H' y => hs i x H H' hlt p (w.yields i H x H' hlt q y)⟩
 ·have e : i = n := by omega
  subst e
  exact .inl ⟨w.stops H q, hd H p⟩
theorem dc_body {g : TG} {js : List Nat} {ag : B → AEnv → (AEnv → Prop) → Prop} {tt : TT} {ct : AT} {vs : List Nat} (hg : GA K js g ag) (ht : ET K W1 tt ct) (hk : EA K W1 tk ak) (hv : EA K W1 tv av) (hj : ∀ j ∈ js, j ∈ vs)
  {o : Option Addr} {H0 S1 H1 : Hp} {σ : L2.St} {env : AEnv} {J : It} {items : List B} {Qs : List (Key × D) → Prop} {Qd : Addr → Hp → Prop} (es1 : ES K o H0 S1 H1 σ env) (wk : WkC K o H0 S1 H1 J items) (q1 : items.length ≤ 1000 ∧ aColD ag ct ak av (fun _ _ _ => True) (awipe env vs) items [] Qs)
  (k : ∀ D kvs kds S H, GrO o S1 H1 S H → Wl o S H → H1 D = none → S D = none → H D = some (.dK kvs) → kvs.map (·.1) = kds.map (·.1) → RepL K S (kvs.map (·.2)) (kds.map (·.2)) → Qs kds → Qd D H) : ∀ D, H1 D = none → ∃ W : Nat → Nat → Hp → Prop, (∃ m, W 0 m (upd H1 D (.dK []))) ∧ ∀ i m H, W i m H →
 (J.stop i H ∧ Qd D H) ∨ (J.go i H ∧ ∃ Nx : Hp → Prop, (∀ H', Nx H' → ∃ m', m' < m ∧ W (i + 1) m' H') ∧ ∀ x H', J.yld i H x H' → g x (wipe σ vs) H' fun σ2 H2 => wipe σ2 vs = wipe σ vs ∧ tt σ2 H2 fun b H3 =>
  if b = true then tk σ2 H3 fun y H4 => tv σ2 H4 fun z H5 => ∃ kvs k, y = kV k ∧ H5 D = some (.dK kvs) ∧ kvs.length < sizeLine ∧ Nx (upd H5 D (.dK (putK kvs k z))) else Nx H3) := by
 intro D hD
 have w1 := es1.wl
 have npD := w1.np hD
 have wlk : Walk J items.length (fun H => ∃ S, GrO o S1 H1 S H ∧ Wl o S H ∧ Kp o H0 H) (fun i H x H' => i < items.length ∧ J.yld i H x H') :=
  ⟨fun i H hi ⟨S, a, b, c⟩ => wk.goes i S H hi a b c, fun H ⟨S, a, b, c⟩ => wk.stops S H a b c, fun i H x H' hi _ y => ⟨hi, y⟩⟩
 refine dc_it wlk (fun i H => ∃ S acc kds, GrO o S1 H1 S H ∧ Wl o S H ∧ S D = none ∧ H D = some (.dK acc) ∧ acc.map (·.1) = kds.map (·.1) ∧ RepL K S (acc.map (·.2)) (kds.map (·.2)) ∧ kds.length ≤ i ∧ aColD ag ct ak av (fun _ _ _ => True) (awipe env vs) (items.drop i) kds Qs) ?_ (fun i H _ ⟨S, acc, ds, g, w, _⟩ => ⟨S, g, w, g.kp es1.kp⟩) (fun i x H H' hi ⟨S, acc, kds, g, w, sD, hd, hk1, hr, hl, q⟩ ⟨_, y⟩ => ?_) (fun H ⟨S, acc, kds, g, w, sD, hd, hk1, hr, hl, q⟩ => ?_)
 ·exact ⟨S1, [], [], GrO.lay hD, w1.put (w1.1.free hD) npD, w1.1.free hD, upd_same, rfl, .nil, Nat.zero_le _, q1.2⟩
 ·obtain ⟨S', b, e1, e2, g2, w2, r2⟩ := wk.yields i S H x H' hi g w (g.kp es1.kp) y
  rw [List.drop_eq_getElem_cons hi] at q
  have e3 : items[i] = b := by
   rw [List.getElem?_eq_getElem hi] at e1
   exact Option.some.inj e1
  rw [e3] at q
  have es2 := (es1.mono g w).mono g2 w2
  refine hg o H0 S' H' _ _ x b _ _ (es2.wipe vs) r2 q fun σ' env' es' sto ow q2 => ⟨wipe_stored hj sto, ?_⟩
  have hD' := g2.rs D _ npD hd
  have sD' := g2.keep sD hd
  refine ht o H0 S' H' σ' env' _ _ _ es' q2 (fun c S3 H3 g3 w3 q3 => ?_) xl1
  have hD3 := g3.rs D _ npD hD'
  have sD3 := g3.keep sD' hD'
  cases c with
  | false => exact ⟨S3, acc, kds, (g.trans g2).trans g3, w3, sD3, hD3, hk1, RepL.same (g2.st.trans g3.st) hr, by omega, q3⟩
  | true =>
   refine hk o H0 S3 H3 σ' env' _ _ _ (es'.mono g3 w3) q3 (fun v b S4 H4 g4 w4 r4 q4 => ?_) xl1
   have hD4 := g4.rs D _ npD hD3
   have sD4 := g4.keep sD3 hD3
   refine hv o H0 S4 H4 σ' env' _ _ _ ((es'.mono g3 w3).mono g4 w4) q4 (fun v2 b2 S5 H5 g5 w5 r5 q5 => ?_) xl1
   have hD5 := g5.rs D _ npD hD4
   have sD5 := g5.keep sD4 hD4
   split at q5
   ·rename_i kk d ek
    have gg := (((g.trans g2).trans g3).trans g4).trans g5
    have ev := key_rep ((r4.mono g5).now w5 (gg.kp es1.kp)) ek
    obtain ⟨p1, p2⟩ := put_rep (k := kk) r5 hk1 (RepL.same (((g2.st.trans g3.st).trans g4.st).trans g5.st) hr)
    have hal : acc.length = kds.length := by simpa using congrArg List.length hk1
    have := putD_len kds kk d
    have l1 := q1.1
    exact ⟨acc, kk, ev, hD5, small1000 (by omega), S5, _, _, gg.put hD, w5.put sD5 npD, sD5, upd_same, p1, p2, by omega, q5⟩
   ·exact q5.elim
 ·rw [List.drop_length] at q
  exact k D acc kds S H g w hD sD hd hk1 hr q
theorem en_dc {g : TG} {js : List Nat} {ag : B → AEnv → (AEnv → Prop) → Prop} {tt : TT} {ct : AT} {vs : List Nat} (hi : EC K W wi ai) (hg : GA K js g ag) (ht : ET K W1 tt ct) (hk : EA K W1 tk ak) (hv : EA K W1 tv av) (hj : ∀ j ∈ js, j ∈ vs := by decide) :
  EN K W (tDc wi g tt tk tv vs) (aDc ai ag ct ak av vs) := fun o H0 S H σ env ax Q Qc es q k xl =>
 hi o H0 S H σ env ax _ _ es q (fun J items S1 H1 g1 w1 wk q1 => dc_body hg ht hk hv hj (es.mono g1 w1) wk q1 fun D kvs kds S' H' g w hD sD hd h1 h2 q => by
  refine k D (.dK kds) S' H' (g1.trans g) w (g1.bk hD) sD ?_ q
  rw [hd]
  exact .dK h1 h2) xl
theorem aColD_map {α : Type} {g : B → AEnv → (AEnv → Prop) → Prop} {ax : AX} {env : AEnv} {fb : α → B} (f : α → Key × D) : ∀ {l : List α} {acc : List (Key × D)} {Q : List (Key × D) → Prop}
  (_ : ((acc ++ l.map f).map (·.1)).Nodup) (_ : ∀ a ∈ l, ∀ R : Key → D → Prop, R (f a).1 (f a).2 → g (fb a) env fun env1 => ak ax env1 fun y => av ax env1 fun z => match y.get.key, z with
   | some k, .st d => R k d
   | _, _ => False) (_ : Q (acc ++ l.map f)), aColD g aYes ak av ax env (l.map fb) acc Q
 | [], acc, Q, _, _, q => by
  show Q acc
  simpa using q
 | a :: r, acc, Q, nd, h, q => by
  refine h a (by simp) (fun k d => aColD g aYes ak av ax env (r.map fb) (putD acc k d) Q) ?_
  have e : acc ++ (a :: r).map f = (acc ++ [f a]) ++ r.map f := by simp
  rw [e] at nd q
  have nin : (f a).1 ∉ acc.map (·.1) := fun m => by
   rw [List.map_append, List.map_append, List.append_assoc, List.nodup_append] at nd
   exact nd.2.2 _ m _ (by simp) rfl
  rw [putD_new nin]
  exact aColD_map f nd (fun b hb => h b (by simp [hb])) q
def enumB (n : Nat) : List D → List B
 | [] => []
 | d :: r => .st (.tup [.int (n : Nat), d]) :: enumB (n + 1) r
theorem enumB_len : ∀ (ds : List D) (n : Nat), (enumB n ds).length = ds.length
 | [], _ => rfl
 | _ :: r, n => by rw [enumB, List.length_cons, List.length_cons, enumB_len r]
theorem enumB_get : ∀ (ds : List D) (n i : Nat) (d : D), ds[i]? = some d → (enumB n ds)[i]? = some (.st (.tup [.int ((n + i : Nat) : Int), d]))
 | [], _, _, _, h => by simp at h
 | d :: r, n, 0, x, h => by
  simp at h
  subst h
  rfl
 | d :: r, n, i + 1, x, h => by
  rw [enumB, List.getElem?_cons_succ, enumB_get r (n + 1) i x (by simpa using h)]
  congr 5
  omega
def aIE (a : AE) (ax : AX) (env : AEnv) (Q : List B → Prop) : Prop := a ax env fun x => match x with
 | .st (.lst ds) => Q (enumB 0 ds)
 | .st (.tup ds) => Q (enumB 0 ds)
 | _ => False
theorem wk_enum {o : Option Addr} {H0 S1 : Hp} {J : It} {xs : List V} {ds : List D} (G : Hp → Prop) (hgo : ∀ i H, i < xs.length → G H → J.go i H) (hst : ∀ H, G H → J.stop xs.length H) (hy : ∀ i H x H', i < xs.length → G H → J.yld i H x H' → ∃ T y, x = .ref T ∧ H T = none ∧ H' = upd H T (.tup [.int (i : Nat), y]) ∧ xs[i]? = some y)
  (hr : RepL K S1 xs ds) (hG : ∀ S H, Same S1 S → Wl o S H → G H) : WkA K o H0 S1 J (enumB 0 ds) := by
 have hl : (enumB 0 ds).length = xs.length := by rw [enumB_len, hr.len]
 refine ⟨fun i S H hi s w _ => hgo i H (by omega) (hG S H s w), fun S H s w _ => by rw [hl]; exact hst H (hG S H s w), fun i S H x H' hi s w kp y => ?_⟩
 obtain ⟨T, z, rfl, hT, rfl, hz⟩ := hy i H x H' (by omega) (hG S H s w) y
 obtain ⟨d, e1, e2⟩ := hr.get hz
 have sS : Same S (upd S T (.tup [.int (i : Nat), z])) := same_upd (w.1.free hT)
 refine ⟨upd S T (.tup [.int (i : Nat), z]), .st (.tup [.int ((i : Nat) : Int), d]), ?_, rfl, GrO.new w hT, w.new hT, ?_⟩
 ·have := enumB_get ds 0 i d e1
  rw [Nat.zero_add] at this
  exact this
 ·exact Rep.tup upd_same (.cons (.int _) (.cons (Rep.same (s.trans sS) e2) .nil))
theorem ei_enum (h : EA K W te ae) : EI K W (iEnumS K (tCons te tNil)) (aIE ae) := fun o H0 S H σ env ax Q C es q k xl =>
 h o H0 S H σ env ax _ _ es q (fun v b S1 H1 g1 w1 r1 q1 => by
  split at q1
  ·rename_i ds
   obtain ⟨a, xs, rfl, h1, h2⟩ := rep_lst r1
   refine .inl ⟨a, xs, rfl, SqL.of (w1.1 _ _ h1), k _ _ S1 H1 g1 w1 (wk_enum (fun H => SqL K H a xs) (fun i H hi q => ⟨xs, xs[i], q, by simp [hi]⟩) (fun H q => ⟨xs, q, Nat.le_refl _⟩) (fun i H x H' _ q y => ?_) h2 (fun S H s w => SqL.of (w.1 _ _ (s _ _ h1)))) q1⟩
   obtain ⟨T, z, e1, e2, e3, e4⟩ := y
   exact ⟨T, z, e1, e2, e3, e4 xs q⟩
  ·rename_i ds
   obtain ⟨a, xs, rfl, h1, h2⟩ := rep_tup r1
   refine .inr ⟨a, xs, rfl, Same.seqT w1.1 h1, k _ _ S1 H1 g1 w1 (wk_enum (fun H => SqT K H a xs) (fun i H hi q => ⟨xs, xs[i], q, by simp [hi]⟩) (fun H q => ⟨xs, q, rfl⟩) (fun i H x H' _ q y => ?_) h2 (fun S H s w => Same.seqT (s.trans w.1) h1)) q1⟩
   obtain ⟨T, z, e1, e2, e3, e4⟩ := y
   exact ⟨T, z, e1, e2, e3, e4 xs q⟩
  ·exact q1.elim) xl
/-- the signs of a text -/
def signB (z : Str) : List B := z.cps.toList.map fun c => B.st (.str ⟨#[c]⟩)
def aIS (a : AE) (ax : AX) (env : AEnv) (Q : List B → Prop) : Prop := a ax env fun x => match x.get with
 | .str z => Q (signB z)
 | _ => False
def aHand (K : PySem.W.Frag) (E : AEnds) : List (Value × Nat × (Addr → Value → Option Addr → AS)) → AX
 | [] => E.ax
 | (c, i, as) :: r => fun env C fs => ∃ b, PySem.W.exmOne K (.ref C) c = some b ∧
   (b = true → ∀ a d, as a (.ref C) d ⟨fun env' => E.nx (env'.set i none), E.rt, E.rn, fun env' => E.bk (env'.set i none), fun env' => E.ct (env'.set i none), E.ax⟩ (env.set i (some (.xn a (.ref C) d C fs)))) ∧ (b = false → aHand K E r env C fs)
def aTry (K : PySem.W.Frag) (body : AS) (hs : List (Value × Nat × (Addr → Value → Option Addr → AS))) (E : AEnds) (env : AEnv) : Prop := body ⟨E.nx, E.rt, E.rn, E.bk, E.ct, aHand K E hs⟩ env
inductive HdA (K : PySem.W.Frag) (W : WX) : List (Value × Nat × (Addr → Value → Option Addr → TS)) → List (Value × Nat × (Addr → Value → Option Addr → AS)) → Prop
 | nil : HdA K W [] []
 | cons {c : Value} {i : Nat} {ts : Addr → Value → Option Addr → TS} {as : Addr → Value → Option Addr → AS} {l : List (Value × Nat × (Addr → Value → Option Addr → TS))} {m : List (Value × Nat × (Addr → Value → Option Addr → AS))} : (∀ a cls d, SA K W (ts a cls d) (as a cls d)) → HdA K W l m → HdA K W ((c, i, ts) :: l) ((c, i, as) :: m)
theorem ES.unset {o : Option Addr} {H0 S H : Hp} {σ : L2.St} {env : AEnv} (e : ES K o H0 S H σ env) (i : Nat) : ES K o H0 S H (σ.set i none) (env.set i none) := by
 refine ⟨e.wl, e.kp, by rw [List.length_set, List.length_set, e.len], fun j c h => ?_⟩
 rw [slot_set] at h
 split at h
 ·cases h
 ·rename_i q
  obtain ⟨x, h1, h2⟩ := e.sl j c h
  refine ⟨x, ?_, h2⟩
  rw [List.getElem?_set]
  by_cases q1 : i = j
  ·exfalso
   have : j < σ.length := (List.getElem?_eq_some_iff.mp h1).1
   exact q ⟨q1, by rw [← e.len, q1]; exact this⟩
  ·rw [if_neg q1]
   exact h1
theorem ST.unset {o : Option Addr} {S0 H0 S H : Hp} {σ : L2.St} {env : AEnv} (t : ST K o S0 H0 S H σ env) (i : Nat) : ST K o S0 H0 S H (σ.set i none) (env.set i none) :=
 t.upd (t.es.unset i) fun j a d q => by
  rw [slot_set] at q
  split at q
  ·cases q
  ·exact q
theorem hand_ok {o : Option Addr} {S0 H0 : Hp} {E : AEnds} {Dc : Ends} (lk : Lk K W o S0 H0 E Dc) : ∀ {l : List (Value × Nat × (Addr → Value → Option Addr → TS))} {m : List (Value × Nat × (Addr → Value → Option Addr → AS))}, HdA K W l m →
  ∀ σ env C fs dd S H, ST K o S0 H0 S H σ env → H0 dd = none → Exn K S H dd fs → aHand K E m env C fs → wManyA K W Dc l (.ref C) (some dd) σ H
 | _, _, .nil, σ, env, C, fs, dd, S, H, st, n, e, q => lk.ex σ env C fs dd S H st n e q
 | _, _, .cons (i := i) hs r, σ, env, C, fs, dd, S, H, st, n, e, q => by
  obtain ⟨b, h1, h2, h3⟩ := q
  refine ⟨b, h1, fun hb a ha => ?_, fun hb => hand_ok lk r σ env C fs dd S H st n e (h3 hb)⟩
  have npd : o ≠ some dd := fun z => by
   obtain ⟨fv, x1, _⟩ := e
   obtain ⟨_, _, g, s, cur, cnt, gs, ns, hp, _⟩ := st.es.wl.2 dd z
   rw [x1] at hp
   cases hp
  have rb : BR K o H0 S H (.ref a) (.xn a (.ref C) (some dd) C fs) := ⟨rfl, rfl, dd, rfl, npd, e⟩
  exact hs a (.ref C) (some dd) o S0 H0 S H _ _ ⟨fun env' => E.nx (env'.set i none), E.rt, E.rn, fun env' => E.bk (env'.set i none), fun env' => E.ct (env'.set i none), E.ax⟩ (dAs i Dc) (st.set i rb rfl)
   ⟨fun σ env S H st q => lk.nx _ _ S H (st.unset i) q, fun σ env S H st q => lk.bk _ _ S H (st.unset i) q, fun σ env S H st q => lk.ct _ _ S H (st.unset i) q, lk.rt, lk.rn, lk.ex⟩ (h2 hb a (some dd))
theorem sa_try {tb : WX → TS} {ab : AS} {l : List (Value × Nat × (Addr → Value → Option Addr → TS))} {m : List (Value × Nat × (Addr → Value → Option Addr → AS))} (hb : ∀ W', SA K W' (tb W') ab) (hh : HdA K W l m) : SA K W (fun D σ H => tb (wManyA K W D l) D σ H) (aTry K ab m) := fun o S0 H0 S H σ env E Dc st lk q =>
 hb _ o S0 H0 S H σ env ⟨E.nx, E.rt, E.rn, E.bk, E.ct, aHand K E m⟩ Dc st ⟨lk.nx, lk.bk, lk.ct, lk.rt, lk.rn, fun σ env C fs dd S H st n e q => hand_ok lk hh σ env C fs dd S H st n e q⟩ q
/-- e.f of a caught exception; isinstance(e, D) -/
def aXf (a : Addr) (cls : Value) (d : Option Addr) (C : Addr) (f : Str) (x : AE) (ax : AX) (env : AEnv) (Q : B → Prop) : Prop := x ax env fun b => match b with
 | .xn a' cls' d' C' fs => a' = a ∧ cls' = cls ∧ d' = d ∧ C' = C ∧ ∃ z, fs.lookup f = some z ∧ Q (.st z)
 | _ => False
theorem ea_xf {a : Addr} {cls : Value} {d : Option Addr} {C : Addr} {f : Str} (h : EA K W te ae) : EA K W (tXf a cls d C f te) (aXf a cls d C f ae) := fun o H0 S H σ env ax Q Qc es q k xl =>
 h o H0 S H σ env ax _ _ es q (fun v b S1 H1 g1 w1 r1 q1 => by
  split at q1
  ·obtain ⟨rfl, rfl, rfl, rfl, z, hz, q1⟩ := q1
   obtain ⟨e1, e2, dd, e3, np, ⟨fv, x1, x2, x3⟩⟩ := r1
   obtain ⟨v, y1, y2⟩ := lookup_rep x2 x3 hz
   exact ⟨e1, e2, dd, fv, v, e3, x1, y1, k v (.st z) S1 H1 g1 w1 y2 q1⟩
  ·exact q1.elim) xl
def aXis (K : PySem.W.Frag) (a : Addr) (cls : Value) (d : Option Addr) (C CW : Addr) (x : AE) (ax : AX) (env : AEnv) (Q : B → Prop) : Prop := x ax env fun b => match b with
 | .xn a' cls' d' C' fs => a' = a ∧ cls' = cls ∧ d' = d ∧ C' = C ∧ ∃ r, PySem.W.kitOne K (.ref C) (.ref CW) = some r ∧ Q (.st (.bl r))
 | _ => False
theorem ea_xis {a : Addr} {cls : Value} {d : Option Addr} {C CW : Addr} (h : EA K W te ae) : EA K W (tCB (rIsED K C a cls d) (tCons te (tCons (tC (.ref CW)) tNil))) (aXis K a cls d C CW ae) := fun o H0 S H σ env ax Q Qc es q k xl =>
 h o H0 S H σ env ax _ _ es q (fun v b S1 H1 g1 w1 r1 q1 => by
  split at q1
  ·obtain ⟨rfl, rfl, rfl, rfl, r, hr, q1⟩ := q1
   obtain ⟨rfl, e2, dd, e3, np, ⟨fv, x1, x2, x3⟩⟩ := r1
   exact ⟨e2, dd, fv, e3, x1, .ref CW, .ref CW, r, rfl, fun u h => h, hr, k _ (.st (.bl r)) S1 H1 g1 w1 (BR.ofSc rfl) q1⟩
  ·exact q1.elim) xl
end
end
section
section
variable {K : PySem.W.Frag} {W : WX} {ta tb te : TE} {aa ab ae : AE}
/-- x[i], x a list or a tuple -/
def aIxQ (a b : AE) (ax : AX) (env : AEnv) (Q : B → Prop) : Prop := a ax env fun x => b ax env fun y => match x.get, y.get with
 | .lst ds, .int i => ∃ d, atI ds i = some d ∧ Q (x.sub d)
 | .tup ds, .int i => ∃ d, atI ds i = some d ∧ Q (x.sub d)
 | _, _ => False
theorem ea_ixQ (ha : EA K W ta aa) (hb : EA K W tb ab) : EA K W (tOp (rIx K) ta tb) (aIxQ aa ab) := fun o H0 S H σ env ax Q Qc es q k xl =>
 ha o H0 S H σ env ax _ _ es q (fun v b S1 H1 g1 w1 r1 q1 =>
  hb o H0 S1 H1 σ env ax _ _ (es.mono g1 w1) q1 (fun v2 b2 S2 H2 g2 w2 r2 q2 => by
   have kp := (g1.trans g2).kp es.kp
   split at q2
   ·rename_i ds i e1 e2
    obtain ⟨d, hd, q2⟩ := q2
    obtain ⟨a, xs, rfl, h1, h2⟩ := (r1.mono g2).lst w2 kp e1
    obtain ⟨v, h3, h4⟩ := pair_atI h2 hd
    have ri := r2.now w2 kp
    rw [e2] at ri
    rw [rep_int ri]
    exact .inl ⟨a, xs, i, v, rfl, rfl, SqL.of h1, h3, k v _ S2 H2 (g1.trans g2) w2 h4 q2⟩
   ·rename_i ds i e1 e2
    obtain ⟨d, hd, q2⟩ := q2
    obtain ⟨a, xs, rfl, h1, h2⟩ := (r1.mono g2).tup w2 kp e1
    obtain ⟨v, h3, h4⟩ := pair_atI h2 hd
    have ri := r2.now w2 kp
    rw [e2] at ri
    rw [rep_int ri]
    exact .inr (.inl ⟨a, xs, i, v, rfl, rfl, h1, h3, k v _ S2 H2 (g1.trans g2) w2 h4 q2⟩)
   ·exact q2.elim) (xl.mono g1)) xl
end
def aParN (i j : Nat) (a : AE) (n : AN) (E : AEnds) (env : AEnv) : Prop := a E.ax env fun x => n E.ax env fun d => aName i x env fun env' => ∀ z, E.nx (env'.set j (some (.ow z d)))
theorem sa_parN {K : PySem.W.Frag} {W : WX} {i j : Nat} {ta tb : TE} {aa : AE} {an : AN} (ha : EA K W ta aa) (hn : EN K W tb an) : SA K W (tPar i j (tCons ta (tCons tb tNil))) (aParN i j aa an) := fun o S0 H0 S H σ env E Dc st lk q =>
 ha o H0 S H σ env E.ax _ _ st.es q (fun v b S1 H1 g1 w1 r1 q1 => by
  have st1 := st.mono g1 w1
  refine hn o H0 S1 H1 σ env E.ax _ _ st1.es q1 (fun a d S2 H2 g2 w2 n ns t q2 => ?_) (lk.xl st1)
  obtain ⟨h1, h2⟩ := aName_iff q2
  have st2 := (st1.mono g2 w2).set i (r1.mono g2) h1
  have r : BR K o H0 S2 H2 (.ref a) (.ow a d) := ⟨rfl, ns, st1.es.wl.np n, t⟩
  have other : ∀ j d', slot (env.set i (some b)) j ≠ some (.ow a d') := fun j d' q => by
   obtain ⟨v, _, _, _, _, t'⟩ := st1.es.sl j _ (ow_set h1 q)
   obtain ⟨u, hu⟩ := t'.some
   rw [hu] at n
   cases n
  refine ⟨v, .ref a, rfl, lk.nx _ _ S2 H2 ⟨st2.gr, st2.es.set j r, fun l a' d' q => ?_, fun l l' a' d' d2 q q2 => ?_⟩ (h2 a)⟩
  ·rw [slot_set] at q
   split at q
   ·cases q
    exact st1.gr.bk n
   ·exact st2.fresh l a' d' q
  ·rw [slot_set] at q q2
   split at q
   ·rename_i c1
    split at q2
    ·rename_i c2
     exact c1.1.symm.trans c2.1
    ·cases q
     exact absurd q2 (other l' d2)
   ·split at q2
    ·cases q2
     exact absurd q (other l d')
    ·exact st2.dist l l' a' d' d2 q q2) (lk.xl st)
section
variable {K : PySem.W.Frag} {W : WX} {ta tb te : TE} {aa ab ae : AE}
theorem en_revL (ha : EA K W ta aa) : EN K W (tRevL K ta) (aRevL aa) := fun o H0 S H σ env ax Q Qc es q k xl =>
 ha o H0 S H σ env ax _ _ es q (fun v b S1 H1 g1 w1 r1 q1 => by
  split at q1
  ·rename_i ds e
   obtain ⟨a, xs, rfl, h1, h2⟩ := solid_lst w1 r1 e
   exact ⟨a, xs, rfl, SqL.of h1, en_newL g1 w1 k h2.rev q1⟩
  ·exact q1.elim) xl
/-- x or y, x by its truth -/
def aOrT (a b : AE) (ax : AX) (env : AEnv) (Q : B → Prop) : Prop := a ax env fun x => match truD x.get with
 | some c => ifB c (Q x) (b ax env Q)
 | none => False
theorem ea_orT (ha : EA K W ta aa) (hb : EA K W tb ab) : EA K W (tOrT K ta tb) (aOrT aa ab) := fun o H0 S H σ env ax Q Qc es q k xl =>
 ha o H0 S H σ env ax _ _ es q (fun v b S1 H1 g1 w1 r1 q1 => by
  split at q1
  ·rename_i c hc
   refine ⟨c, truD_ok (r1.now w1 (g1.kp es.kp)) hc, ?_⟩
   cases c with
   | true => exact k v b S1 H1 g1 w1 r1 q1
   | false => exact hb o H0 S1 H1 σ env ax Q _ (es.mono g1 w1) q1 (fun v b S2 H2 g2 w2 r2 q2 => k v b S2 H2 (g1.trans g2) w2 r2 q2) (xl.mono g1)
  ·exact q1.elim) xl
end
end
section
section
variable {X : Cx}
/-- one of two readings -/
def tEi (t u : TE) : TE := fun σ H Q => t σ H Q ∨ u σ H Q
theorem pe_ei {e : Expr} {t u : TE} (h1 : PE X e t) (h2 : PE X e u) : PE X e (tEi t u) := ⟨fun pins s σ H Q I hw => by
 rcases hw with hw | hw
 ·exact h1.run pins s σ H Q I hw
 ·exact h2.run pins s σ H Q I hw⟩
end
section
variable {K : PySem.W.Frag} {W : WX} {ta tb te td ty : TE} {aa ab ae ad ay : AE}
def aEi (a b : AE) (ax : AX) (env : AEnv) (Q : B → Prop) : Prop := a ax env Q ∨ b ax env Q
theorem ea_ei (ha : EA K W ta aa) (hb : EA K W tb ab) : EA K W (tEi ta tb) (aEi aa ab) := fun o H0 S H σ env ax Q Qc es q k xl => by
 rcases q with q | q
 ·exact .inl (ha o H0 S H σ env ax Q Qc es q k xl)
 ·exact .inr (hb o H0 S H σ env ax Q Qc es q k xl)
def aIQ (a : AE) (ax : AX) (env : AEnv) (Q : List B → Prop) : Prop := a ax env fun x => match x with
 | .st (.lst ds) => Q (ds.map B.st)
 | .br (.lst ds) => Q (ds.map B.br)
 | .st (.tup ds) => Q (ds.map B.st)
 | .br (.tup ds) => Q (ds.map B.br)
 | _ => False
/-- d.get(k) -/
def aDgN (a b : AE) (ax : AX) (env : AEnv) (Q : B → Prop) : Prop := a ax env fun x => match x.get with
 | .dK kvs => b ax env fun y => match y.get.key with
  | some k => ∃ z, (valD kvs k).getD .non = z ∧ Q (x.sub z)
  | none => False
 | _ => False
def cSpF (K : PySem.W.Frag) (sp : ASp) : Sp := fun vs H Q E => ∃ o S bs Qa Xa, Wl o S H ∧ Paired (BR K o H S H) vs bs ∧ (∀ b ∈ bs, b.isOw = false) ∧ sp bs Qa Xa ∧
 (∀ a d S' H', GrO o S H S' H' → Wl o S' H' → H a = none → S' a = none → Top K S' (H' a) d → Qa d → Q (.ref a) H') ∧
 (∀ C fs dd S' H', GrO o S H S' H' → Wl o S' H' → H dd = none → Exn K S' H' dd fs → Xa C fs → E (.ref C) (some dd) H')
theorem cSpF_len {n : Nat} {sp : ASp} (h : ∀ bs Q X, sp bs Q X → bs.length = n) {vs : List V} {H : Hp} {Q : VK} {E : XK} (q : cSpF K sp vs H Q E) : vs.length = n := by
 obtain ⟨o, S, bs, Qa, Xa, _, hp, _, hs, _⟩ := q
 rw [paired_len hp]
 exact h bs Qa Xa hs
theorem fn_AXF {sp : ASp} {t : TS} {as : AS} {N : List Str} {vs : List V} {H : Hp} {Q : VK} {E : XK} (hs : SA K (fun cls d _ H' => E cls d H') t as) (h : cSpF K sp vs H Q E)
  (hab : ∀ bs Qa Xa, sp bs Qa Xa → as ⟨fun _ => False, fun _ => False, Qa, fun _ => False, fun _ => False, fun _ => Xa⟩ (bs.map some ++ List.replicate (N.length - bs.length) none)) : t { nx := fun _ H' => Q .non H', rt := Q } (L2.start N vs) H := by
 obtain ⟨o, S, bs, Qa, Xa, w, hp, no, q, k1, k2⟩ := h
 refine hs o S H S H _ _ ⟨fun _ => False, fun _ => False, Qa, fun _ => False, fun _ => False, fun _ => Xa⟩ _ (st_start w hp no) ⟨fun _ _ _ _ _ q => q.elim, fun _ _ _ _ _ q => q.elim, fun _ _ _ _ _ q => q.elim, fun _ _ _ _ _ _ _ q => q.elim, fun a d S' H' g w n ns t q => k1 a d S' H' g w n ns t q, fun σ env C fs dd S' H' st n e q => k2 C fs dd S' H' st.gr st.es.wl n e q⟩ (hab bs Qa Xa q)
def aRetNw (a : AN) (E : AEnds) (env : AEnv) : Prop := a E.ax env fun d => E.rn d
theorem sa_retNw {an : AN} (h : EN K W te an) : SA K W (tRet te) (aRetNw an) := fun o S0 H0 S H σ env E Dc st lk q =>
 h o H0 S H σ env E.ax _ _ st.es q (fun a d S1 H1 g1 w1 n ns t q1 => lk.rn a d S1 H1 (st.gr.trans g1) w1 (st.gr.bk n) ns t q1) (lk.xl st)
/-- o.m(..) that gives a new thing -/
def aMethN (C : Addr) (n : Str) (sp : ASp) (ms : List Bool) (a : AE) (r : AA) (ax : AX) (env : AEnv) (Q : D → Prop) : Prop := a ax env fun x => match x.get with
 | .obj C' fs => C' = C ∧ fs.lookup n = none ∧ r ax env fun bs => sp (coes ms (x :: bs)) Q (ax env)
 | _ => False
end
end
section
section
variable {K : PySem.W.Frag} {W : WX} {wi wi1 : TI} {ai ai1 : AI}
/-- growth but for one object -/
structure GrB (o : Option Addr) (D : Addr) (S H S' H' : Hp) : Prop where
 st : Same S S'
 rs : ∀ a u, a ≠ D → o ≠ some a → H a = some u → H' a = some u
 fr : ∀ a, a ≠ D → S a = none → H a ≠ none → Nt H a → S' a = none ∧ Nt H' a
 ex : ∀ a, H a ≠ none → H' a ≠ none
theorem GrB.refl {o : Option Addr} {D : Addr} {S H : Hp} : GrB o D S H S H := ⟨Same.refl _, fun _ _ _ _ h => h, fun _ _ h _ n => ⟨h, n⟩, fun _ h => h⟩
theorem GrB.put {o : Option Addr} {D : Addr} {S H S1 H1 : Hp} {u : HO} (b : GrB o D S H S1 H1) : GrB o D S H S1 (upd H1 D u) :=
 ⟨b.st, fun a u n np h => (upd_ne n).trans (b.rs a u n np h), fun a n h1 h2 ht => let q := b.fr a n h1 h2 ht; ⟨q.1, q.2.upd n⟩, fun a h => by
  by_cases e : a = D
  ·subst e; rw [upd_same]; intro z; cases z
  ·rw [upd_ne e]; exact b.ex a h⟩
def aCol2 (g : B → AEnv → (AEnv → Prop) → Prop) (ct : AT) (ai1 : AI) (g1 : B → AEnv → (AEnv → Prop) → Prop) (ct1 : AT) (ae : AE) (vs1 : List Nat) (ax : AX) (env : AEnv) : List B → List D → (List D → Prop) → Prop
 | [], acc, Q => Q acc
 | x :: r, acc, Q => g x env fun env1 => ct ax env1 fun c => ifB c (ai1 ax env1 fun items1 => acc.length + items1.length ≤ 1000 ∧ aCol g1 ct1 ae ax (awipe env1 vs1) items1 acc fun acc' => aCol2 g ct ai1 g1 ct1 ae vs1 ax env r acc' Q) (aCol2 g ct ai1 g1 ct1 ae vs1 ax env r acc Q)
def aLc2 (ai : AI) (g : B → AEnv → (AEnv → Prop) → Prop) (ct : AT) (ai1 : AI) (g1 : B → AEnv → (AEnv → Prop) → Prop) (ct1 : AT) (ae : AE) (vs vs1 : List Nat) (ax : AX) (env : AEnv) (Q : D → Prop) : Prop :=
 ai ax env fun items => aCol2 g ct ai1 g1 ct1 ae vs1 (fun _ _ _ => True) (awipe env vs) items [] fun ds => Q (.lst ds)
end
end
section
section
variable {K : PySem.W.Frag} {W : WX} {ta tb te td ty tv : TE} {aa ab ae ad ay av : AE}
def aCont (E : AEnds) (env : AEnv) : Prop := E.ct env
def aBrk (E : AEnds) (env : AEnv) : Prop := E.bk env
def aPop (j i : Nat) (E : AEnds) (env : AEnv) : Prop := match slot env i with
 | some (.ow x (.lst ds)) => ∃ ds' d, ds = ds' ++ [d] ∧ E.nx ((env.set i (some (.ow x (.lst ds')))).set j (some (.st d)))
 | _ => False
def aExt (i : Nat) (a : AE) (E : AEnds) (env : AEnv) : Prop := match slot env i with
 | some (.ow x (.lst ds)) => a E.ax env fun y => match y.solid with
  | some (.lst es) => ds.length + es.length ≤ 1000000 ∧ E.nx (env.set i (some (.ow x (.lst (ds ++ es)))))
  | _ => False
 | _ => False
def keysD : List D → Option (List Key)
 | [] => some []
 | d :: r => match d.key, keysD r with
  | some k, some ks => some (k :: ks)
  | _, _ => none
def D.tkey : D → Option (List Key)
 | .tup ds => keysD ds
 | _ => none
theorem BR.dT {o : Option Addr} {H0 S H : Hp} {v : V} {b : B} {kds : List (List Key × D)} (w : Wl o S H) (k : Kp o H0 H) (h : BR K o H0 S H v b) (e : b.get = .dT kds) :
  ∃ a kvs, v = .ref a ∧ Rd H a (.dT kvs) ∧ kvs.map (·.1) = kds.map (·.1) ∧ Paired (BR K o H0 S H) (kvs.map (·.2)) ((kds.map (·.2)).map b.sub) := by
 cases b with
 | st d =>
  cases e
  cases h with
  | dT a b c => exact ⟨_, _, rfl, Same.rd w.1 a, b, pair_st c⟩
 | ow a d =>
  cases e
  obtain ⟨e1, _, _, t⟩ := h
  generalize hx : H a = x at t
  cases t with
  | dT r1 r2 => exact ⟨a, _, e1, Rd.of hx, r1, pair_st r2⟩
 | br d =>
  cases e
  cases h with
  | dT a b c => exact ⟨_, _, rfl, Same.rd (off_same k) a, b, pair_br c⟩
 | _ => cases e
/-- d[k] -/
def aTget (a b : AE) (ax : AX) (env : AEnv) (Q : B → Prop) : Prop := a ax env fun x => b ax env fun y => match x.get, y.get.tkey with
 | .dT kvs, some k => ∃ d, valD kvs k = some d ∧ Q (x.sub d)
 | _, _ => False
def fTin (x y : D) (Q : D → Prop) : Prop := match x.tkey, y with
 | some k, .dT kvs => Q (.bl (valD kvs k).isSome)
 | _, _ => False
def fTnin (x y : D) (Q : D → Prop) : Prop := match x.tkey, y with
 | some k, .dT kvs => Q (.bl (!(valD kvs k).isSome))
 | _, _ => False
def aTnew (ax : AX) (env : AEnv) (Q : D → Prop) : Prop := Q (.dT [])
def aTput (i : Nat) (a b : AE) (E : AEnds) (env : AEnv) : Prop := match slot env i with
 | some (.ow x (.dT kvs)) => b E.ax env fun y => a E.ax env fun z => match z.get.tkey, y with
  | some k, .st d => kvs.length ≤ 1000 ∧ E.nx (env.set i (some (.ow x (.dT (putD kvs k d)))))
  | _, _ => False
 | _ => False
def aLenT (a : AE) (ax : AX) (env : AEnv) (Q : B → Prop) : Prop := a ax env fun x => match x with
 | .ow _ (.dT kds) => Q (.st (.int (kds.length : Nat)))
 | _ => False
end
end
section
section
variable {P : Program} {w : World} {K : PySem.W.Frag} {W : WX} {wi wi1 : TI} {ai ai1 : AI}
def aColS (g : B → AEnv → (AEnv → Prop) → Prop) (ct : AT) (ae : AE) (ax : AX) (env : AEnv) : List B → List Str → (List Str → Prop) → Prop
 | [], acc, Q => Q acc
 | x :: r, acc, Q => g x env fun env1 => ct ax env1 fun c => ifB c (ae ax env1 fun y => match y.get with
  | .str z => acc.length ≤ 1000 ∧ aColS g ct ae ax env r (insG z acc) Q
  | _ => False) (aColS g ct ae ax env r acc Q)
def aColS2 (g : B → AEnv → (AEnv → Prop) → Prop) (ct : AT) (ai1 : AI) (g1 : B → AEnv → (AEnv → Prop) → Prop) (ct1 : AT) (ae : AE) (vs1 : List Nat) (ax : AX) (env : AEnv) : List B → List Str → (List Str → Prop) → Prop
 | [], acc, Q => Q acc
 | x :: r, acc, Q => g x env fun env1 => ct ax env1 fun c => ifB c (ai1 ax env1 fun items1 => aColS g1 ct1 ae ax (awipe env1 vs1) items1 acc fun acc' => aColS2 g ct ai1 g1 ct1 ae vs1 ax env r acc' Q) (aColS2 g ct ai1 g1 ct1 ae vs1 ax env r acc Q)
def aSc (ai : AI) (g : B → AEnv → (AEnv → Prop) → Prop) (ct : AT) (ae : AE) (vs : List Nat) (ax : AX) (env : AEnv) (Q : List Str → Prop) : Prop := ai ax env fun items => aColS g ct ae (fun _ _ _ => True) (awipe env vs) items [] Q
def aSc2 (ai : AI) (g : B → AEnv → (AEnv → Prop) → Prop) (ct : AT) (ai1 : AI) (g1 : B → AEnv → (AEnv → Prop) → Prop) (ct1 : AT) (ae : AE) (vs vs1 : List Nat) (ax : AX) (env : AEnv) (Q : List Str → Prop) : Prop :=
 ai ax env fun items => aColS2 g ct ai1 g1 ct1 ae vs1 (fun _ _ _ => True) (awipe env vs) items [] Q
/-- sorted({..}) -/
def aSortSt (az : AX → AEnv → (List Str → Prop) → Prop) (ax : AX) (env : AEnv) (Q : D → Prop) : Prop := az ax env fun zs => Q (.lst ((zs.mergeSort leS).map D.str))
end
end
section
abbrev II := Int × Int
def leII (p q : II) : Bool := decide (p.1 < q.1 ∨ (p.1 = q.1 ∧ p.2 ≤ q.2))
def pairD (q : II) : D := .tup [.int q.1, .int q.2]
def leZ (a b : Int) : Bool := decide (a ≤ b)
section
variable {P : Program} {w : World} {K : PySem.W.Frag} {W : WX} {ta tb te td ty tv : TE} {aa ab ae ad ay av : AE}
/-- sorted(d.items()) -/
def aSortIt (a : AE) (ax : AX) (env : AEnv) (Q : D → Prop) : Prop := a ax env fun x => match x.get with
 | .dK kvs => ∃ is : List II, kvs = is.map (fun q => (Sum.inl q.1, D.int q.2)) ∧ is.length ≤ 1000 ∧ ∀ ps : List II, ps.Perm is → ps.Pairwise (fun x y => leII x y = true) → Q (.lst (ps.map pairD))
 | _ => False
/-- sorted(xs), xs ints -/
def aSortI (a : AE) (ax : AX) (env : AEnv) (Q : D → Prop) : Prop := a ax env fun x => match x.get with
 | .lst ds => ∃ zs : List Int, ds = zs.map D.int ∧ Q (.lst ((zs.mergeSort leZ).map D.int))
 | .tup ds => ∃ zs : List Int, ds = zs.map D.int ∧ Q (.lst ((zs.mergeSort leZ).map D.int))
 | _ => False
/-- sorted(d), its keys ints -/
def aSortDI (a : AE) (ax : AX) (env : AEnv) (Q : D → Prop) : Prop := a ax env fun x => match x.get with
 | .dK kvs => ∃ ks : List Int, kvs.map (·.1) = ks.map Sum.inl ∧ ks.length < 64 ∧ ∀ ys : List Int, ys.Perm ks → ys.Pairwise (· ≤ ·) → Q (.lst (ys.map D.int))
 | _ => False
/-- sorted(set(xs)), xs tuples of ints -/
def tuD (r : List Int) : D := .tup (r.map D.int)
def aSortST (a : AE) (ax : AX) (env : AEnv) (Q : D → Prop) : Prop := a ax env fun x => match x.solid with
 | some (.lst ds) => ∃ (rows : List (List Int)) (d : Nat) (B : Int), ds = rows.map tuD ∧ rows.length < 64 ∧ 1 ≤ d ∧ (∀ r ∈ rows, r.length = d ∧ TS.Bd B r) ∧
  ∀ rows' : List (List Int), rows'.Nodup → (∀ r, r ∈ rows' ↔ r ∈ rows) → rows'.length < 64 → rows'.Pairwise (fun q r => TS.code B q ≤ TS.code B r) → Q (.lst (rows'.map tuD))
 | _ => False
end
end
section
def strI (i : Int) : Str := (toString i : String)
section
variable {X : Cx}
theorem pe_fldK {K : PySem.W.Frag} {e : Expr} {ta : TE} {f : Str} {pos : Pos} (hK : X.K = K) (he : PE X e ta) (hb : attributeBase e f X.env (eval e X.env) = eval e X.env) : PE X (.Attribute e f pos) (tFld K ta f) := by
 subst hK
 exact pe_fld he hb
structure GetC (K : PySem.W.Frag) (C f : Addr) : Prop where
 get : PySem.W.findIn K (.ref C) "__getitem__" = some (some (.ref f))
 fi : PySem.W.fnIn K f = true
 fn : PySem.W.isFn K (.ref f) = true
def tSubO (C : Addr) (sp : Sp) (ta ti : TE) : TE := fun σ H Q => ta σ H fun x H1 => ti σ H1 fun y H2 => ∃ a dx fs, x = .ref a ∧ H2 a = some (.ins C dx fs) ∧ sp [x, y] H2 Q E0
theorem run2v {n : Nat} {f : Addr} {fd : FuncData} {ps : List Str} {sp : Sp} {pins : List (Addr × Obj)} {σ : L2.St} {H : Hp} {s : Shared} {A : Around} {Q : VK} {x y : V} {u v : Value} {E : Value → Shared → Prop} (F : FnOk X.prog X.w X.K X.mg X.base CX0 n f fd ps sp) (hb : Binds X.K fd ps []) (I : L2.Inv X pins σ H s) (hr : Room n A) (hfr : A.frames = X.A.frames)
  (rx : RelV x u) (ry : RelV y v) (h : sp [x, y] H Q E0) : wpAny (model X.prog X.w) A (call (.ref f) [u, v]) (EP X pins σ Q) E s := by
 have e0 : Env0 X.prog X.w X.K X.mg X.base A X.stack s H := by
  have e := I.env0
  exact ⟨by rw [hfr]; exact e.frames, e.mod, e.bs, e.bsz, e.funs, e.frf, e.hok, e.bare⟩
 have hl := F.len _ _ _ _ h
 refine wpAny_call (codeAny_mono (F.run A X.stack s H ⟨[u, v], []⟩ [u, v] [x, y] Q E0 hr e0 (by
  have := hb s [u, v] I.kIn (by simpa using hl)
  simpa using this) (.cons rx (.cons ry .nil)) h) fun r s' hq => ?_)
 cases r with
 | error e => exact False.elim hq
 | ok fl =>
  cases fl with
  | ret w =>
   obtain ⟨z, H', I', rz, q⟩ := I.after hq
   exact ⟨z, H', I', rz, q⟩
  | next => exact False.elim hq
  | brk => exact False.elim hq
  | cont => exact False.elim hq
theorem pe_subO {n : Nat} {C f : Addr} {fd : FuncData} {ps : List Str} {sp : Sp} {o i : Expr} {pos : Pos} {ta ti : TE} (c : GetC X.K C f) (F : FnOk X.prog X.w X.K X.mg X.base CX0 n f fd ps sp) (hb : Binds X.K fd ps []) (hr : Room (n + 1) X.A) (ho : PE X o ta) (hi : PE X i ti)
  (hsl : ∀ a v, subscripted i true (.ref a) v = runValue (.builtin "lifetime.subscript" ⟨[.ref a, v], []⟩) := by intro _ _; with_unfolding_all rfl) : PE X (.Subscript o i pos) (tSubO C sp ta ti) := by
 refine ⟨fun pins s σ H Q I h => ?_⟩
 refine Subscript_ (thn (ho.run pins s σ H _ I h) fun u s1 ⟨x, H1, I1, rx, q1⟩ => thn (hi.run pins s1 σ H1 _ I1 q1) fun iv s2 ⟨y, H2, I2, ry, a, dx, fs, ex, hx, q2⟩ => ?_)
 subst ex
 obtain rfl : u = Value.ref a := rx
 obtain ⟨mA, J, _⟩ := ins_get I2.hok hx
 obtain ⟨od, J, _⟩ := J.look
 obtain ⟨m, hF⟩ := I2.fr
 exact PySem.W.sub_K hF I2.ok.mod.kin J c.get c.fi c.fn (run2v (x := .ref a) F hb I2 (hr.in1) rfl (show RelV (.ref a) (.ref a) from rfl) ry q2) (hsl a iv)
end
section
variable {K : PySem.W.Frag} {W : WX} {ta tb te td ty tv : TE} {aa ab ae ad ay av : AE}
def fStr (x : D) (Q : D → Prop) : Prop := match x with
 | .int i => i.natAbs.log2 < 1920 ∧ Q (.str (strI i))
 | _ => False
def aJoin (a b : AE) (ax : AX) (env : AEnv) (Q : B → Prop) : Prop := a ax env fun x => match x.get with
 | .str s => b ax env fun y => match y.get with
  | .lst ds => ∃ ys : List Str, ds = ys.map D.str ∧ (ys.map (·.length)).sum + ys.length * s.length ≤ 16777216 ∧ Q (.st (.str (Txt.join s ys)))
  | _ => False
 | _ => False
def aOrD (a b : AE) (ax : AX) (env : AEnv) (Q : B → Prop) : Prop := a ax env fun x => match x.get with
 | .non => b ax env Q
 | .dK kvs => (kvs = [] ∧ b ax env Q) ∨ (kvs ≠ [] ∧ Q x)
 | _ => False
def aSubO (C : Addr) (sp : ASp) (ms : List Bool) (a b : AE) (ax : AX) (env : AEnv) (Q : B → Prop) : Prop := a ax env fun x => b ax env fun y => match x.get with
 | .obj C' fs => C' = C ∧ sp (coes ms [x, y]) (fun d => Q (.st d)) fun _ _ => False
 | _ => False
theorem ea_subO {C : Addr} {sp : ASp} (ms : List Bool) (ha : EA K W ta aa) (hb : EA K W tb ab) : EA K W (tSubO C (cSp K sp) ta tb) (aSubO C sp ms aa ab) := fun o H0 S H σ env ax Q Qc es q k xl =>
 ha o H0 S H σ env ax _ _ es q (fun v b S1 H1 g1 w1 r1 q1 =>
  hb o H0 S1 H1 σ env ax _ _ (es.mono g1 w1) q1 (fun v2 b2 S2 H2 g2 w2 r2 q2 => by
   have kp := (g1.trans g2).kp es.kp
   split at q2
   ·rename_i C' fds e
    obtain ⟨rfl, q2⟩ := q2
    obtain ⟨a, dx, fs, rfl, h1, _⟩ := (r1.mono g2).obj w2 kp e
    obtain ⟨p1, p2⟩ := coes_ok w2 kp ms (.cons (r1.mono g2) (.cons r2 .nil))
    exact ⟨a, dx, fs, rfl, h1, o, S2, _, _, _, w2, p1, p2, q2, fun v d S' H' g w r q => k v (.st d) S' H' ((g1.trans g2).trans g) w r q, fun _ _ _ _ _ _ _ _ _ q => q.elim⟩
   ·exact q2.elim) (xl.mono g1)) xl
def aMakeK (C : Addr) (sp : ISp) (ms : List Bool) (a r : AA) (ax : AX) (env : AEnv) (Q : B → Prop) : Prop := a ax env fun bs => r ax env fun cs => sp (coes ms (bs ++ cs)) (fun fs => Q (.st (.obj C fs))) fun _ _ => False
mutual
def D.noO : D → Bool
 | .obj _ _ => false
 | .lst ds => noOL ds
 | .tup ds => noOL ds
 | .dK kvs => noOK kvs
 | .dT kvs => noOT kvs
 | .dN _ _ => false
 | .kt _ => false
 | _ => true
def noOL : List D → Bool
 | [] => true
 | d :: r => d.noO && noOL r
def noOK : List (Key × D) → Bool
 | [] => true
 | (_, d) :: r => d.noO && noOK r
def noOT : List (List Key × D) → Bool
 | [] => true
 | (_, d) :: r => d.noO && noOT r
end
def aMethO (C : Addr) (n : Str) (sp : ASp) (i : Nat) (ax : AX) (env : AEnv) (Q : B → Prop) : Prop := match slot env i with
 | some (.ow _ (.obj C' fds)) => C' = C ∧ fds.lookup n = none ∧ sp [.st (.obj C fds)] (fun d => d.noO = true ∧ Q (.st d)) fun _ _ => False
 | _ => False
end
end
section
section
variable {prog : Program} {w : World} {A : Around} {E : Value → Shared → Prop} {s : Shared} {K : PySem.W.Frag} {x C C2 L f : Addr} {h₀ : Heap} {m : Str → Option Value} {ox : Obj} {od : Option Obj}
theorem noSlot_looks {M : Model} {h : Heap} {nm : String} (X : K.In h) (hn : noSlot K C2 nm = true) : PySem.W.Looks M h (fillsNumberSlot (.ref C2) nm) false := by
 unfold noSlot at hn
 cases hc : PySem.W.clsIn K C2 with
 | none => rw [hc] at hn; cases hn
 | some cd =>
  rw [hc] at hn
  simp only at hn
  intro A Q E s k q
  have X' : K.In s.heap := X.keeps k
  unfold fillsNumberSlot
  refine wpAny_bind ((PySem.W.looks_clsIn X hc).andThen (f := fun cd => pure cd.mro) .now A _ E s k ?_)
  generalize cd.mro = l at hn
  induction l with
  | nil => exact wpAny_pure q
  | cons c r ih =>
   rw [List.all_cons, Bool.and_eq_true, Bool.and_eq_true, Bool.and_eq_true] at hn
   obtain ⟨⟨⟨h0, h1⟩, h2⟩, h3⟩ := hn
   have l1 := PySem.W.looks_findIn (M := M) X' (beq_iff_eq.mp h1)
   have l2 := PySem.W.looks_findIn (M := M) X' (beq_iff_eq.mp h2)
   rw [List.anyM_cons]
   refine wpAny_bind ?_
   have go : wpAny M A (pure false : Sem Bool) (fun b s' => wpAny M A (if b = true then pure true else List.anyM _ r) Q E s') E s := wpAny_pure (ih h3)
   cases c with
   | type n =>
    refine wpAny_bind (l1.here (wpAny_bind (l2.here ?_)))
    exact go
   | ref n =>
    show wpAny M A (List.anyM _ [PySem.dunder nm, dunderR nm]) _ _ _
    rw [List.anyM_cons]
    refine wpAny_bind (wpAny_bind (l1.here ?_))
    refine wpAny_pure ?_
    rw [if_neg (by simp), List.anyM_cons]
    refine wpAny_bind (wpAny_bind (l2.here ?_))
    refine wpAny_pure ?_
    rw [if_neg (by simp), List.anyM_nil]
    exact go
   | _ => cases h0
theorem binopO_K {op : Operator} {b : Value} {Q : Value → Shared → Prop} (F : PyProof.Rows.Fr h₀ L s.heap m) (X₀ : K.In h₀) (I : PySem.W.InstAt s.heap x ox C od) (hb : PySem.W.Looks (model prog w) s.heap (typeOf b) (.ref C2)) (hne : C2 ≠ C) (hn : noSlot K C2 op.info.2 = true) (hc : PySem.W.selfFirst K C = true)
  (hs : PySem.W.findIn K (.ref C) (PySem.dunder op.info.2) = some (some (.ref f))) (hf : PySem.W.isFn K (.ref f) = true)
  (h : wpAny (model prog w) A (call (.ref f) [.ref x, b]) (PySem.W.CmpBack Q) E s) : wpAny (model prog w) A (binaryOp op (.ref x) b) Q E s := by
 have X := X₀.keeps F.keep
 obtain ⟨cd, rest, hcd, hm⟩ := PySem.W.ksp_first hc
 have hne' : (Value.ref C == Value.ref C2) = false := Bool.eq_false_iff.mpr fun q => by cases beq_iff_eq.mp q; exact hne rfl
 unfold binaryOp
 refine wpAny_holding (wpAny_bind ?_)
 unfold binaryOp1
 refine wpAny_bind (I.type.here (wpAny_bind (hb.here (wpAny_bind ((PySem.W.fills_K X hcd hm hs).here ?_)))))
 simp only [hne', Bool.false_eq_true, if_false]
 refine wpAny_bind ((noSlot_looks X hn).here ?_)
 simp only [Bool.and_false, Bool.false_eq_true, if_false, Bool.false_and]
 refine wpAny_bind (wpAny_pure ?_)
 simp only [Bool.false_eq_true, if_false]
 refine wpAny_bind (m := tryMethod (.ref x) _ b) ?_
 unfold tryMethod
 refine wpAny_bind (PySem.W.special_fn X I hs (beq_iff_eq.mp hf) (wpAny_mono h (fun v s' hv => ?_) fun _ _ e => e))
 cases v <;> first | exact hv.elim | exact wpAny_pure (wpAny_pure (wpAny_pure hv))
end
/-- an own class C whose f stands for the operator op, asked with things of the classes cs -/
structure OpC (K : PySem.W.Frag) (C f : Addr) (nm : String) (cs : List Addr) : Prop where
 sf : PySem.W.selfFirst K C = true
 fi : PySem.W.findIn K (.ref C) (PySem.dunder nm) = some (some (.ref f))
 fn : PySem.W.isFn K (.ref f) = true
 no : ∀ c ∈ cs, noSlot K c nm = true
/-- o - i with a text -/
structure OpS (K : PySem.W.Frag) (C f : Addr) (nm : String) : Prop where
 sf : PySem.W.selfFirst K C = true
 fi : PySem.W.findIn K (.ref C) (PySem.dunder nm) = some (some (.ref f))
 fn : PySem.W.isFn K (.ref f) = true
 fr : PySem.W.findIn K (.ref C) (dunderR nm) = some none
 t1 : PySem.W.findIn K (.type "str") (PySem.dunder nm) = some none
 t2 : PySem.W.findIn K (.type "str") (dunderR nm) = some none
 su : PySem.W.subIn K (.type "str") (.ref C) = some false
structure LenC (K : PySem.W.Frag) (C f : Addr) : Prop where
 fi : PySem.W.findIn K (.ref C) "__len__" = some (some (.ref f))
 fn : PySem.W.isFn K (.ref f) = true
section
variable {X : Cx} {n : Nat} {C f : Addr} {fd : FuncData} {ps : List Str} {sp : Sp}
theorem ep_cmp {pins : List (Addr × Obj)} {σ : L2.St} {Q : VK} {z : Value} {s' : Shared} (hz : EP X pins σ Q z s') : PySem.W.CmpBack (EP X pins σ Q) z s' := by
 obtain ⟨z', H', I', rz, q'⟩ := id hz
 cases z' with
 | non => cases (show z = Value.none from rz); exact hz
 | bl c => cases (show z = Value.bool c from rz); exact hz
 | int i => obtain ⟨t, e⟩ := (show ∃ t, z = Value.int i t from rz); cases e; exact hz
 | str i => obtain ⟨t, e⟩ := (show ∃ t, z = Value.str i t from rz); cases e; exact hz
 | byt i => obtain ⟨t, e⟩ := (show ∃ t, z = Value.bytes i t from rz); cases e; exact hz
 | flt i => obtain ⟨t, e⟩ := (show ∃ t, z = Value.float i t from rz); cases e; exact hz
 | ref i => cases (show z = Value.ref i from rz); exact hz
 | ty i => cases (show z = Value.type i from rz); exact hz
theorem OpC.ne {K : PySem.W.Frag} {C f : Addr} {nm : String} {cs : List Addr} (c : OpC K C f nm cs) {D : Addr} (hd : D ∈ cs) : D ≠ C := fun e => by
 subst e
 obtain ⟨cd, rest, hcd, hm⟩ := PySem.W.ksp_first c.sf
 have h := c.no _ hd
 unfold noSlot at h
 rw [hcd] at h
 simp only [hm, List.all_cons, Bool.and_eq_true, beq_iff_eq] at h
 rw [c.fi] at h
 cases h.1.1.2
def rOpO (C : Addr) (cs : List Addr) (sp : Sp) : R2 := fun x y H Q => ∃ a b C2 dx dy fs gs, x = .ref a ∧ y = .ref b ∧ H a = some (.ins C dx fs) ∧ H b = some (.ins C2 dy gs) ∧ C2 ∈ cs ∧ sp [.ref a, .ref b] H Q E0
theorem op_opO {op : Operator} {cs : List Addr} (c : OpC X.K C f op.info.2 cs) (F : FnOk X.prog X.w X.K X.mg X.base CX0 n f fd ps sp) (hb : Binds X.K fd ps []) (hr : Room n X.A) : OpR X (binaryOp op) (rOpO C cs sp) := by
 intro pins s σ H x y v u Q I rx ry h
 obtain ⟨a, b, C2, dx, dy, fs, gs, rfl, rfl, ha, hb', hm, q⟩ := h
 cases rx
 cases ry
 obtain ⟨mA, J, _⟩ := ins_get I.hok ha
 obtain ⟨mB, J', _⟩ := ins_get I.hok hb'
 obtain ⟨od, J, _⟩ := J.look
 obtain ⟨od', J', _⟩ := J'.look
 obtain ⟨m, hF⟩ := I.fr
 have h1 := c.ne hm
 have h2 := c.no _ hm
 exact binopO_K hF I.ok.mod.kin J J'.type h1 h2 c.sf c.fi c.fn (wpAny_mono (run2 F hb I hr rfl q) (fun z s' hz => ep_cmp hz) fun _ _ e => e)
def rOpS (C : Addr) (sp : Sp) : R2 := fun x y H Q => ∃ a t dx fs, x = .ref a ∧ y = .str t ∧ H a = some (.ins C dx fs) ∧ sp [.ref a, .str t] H Q E0
theorem op_opS {op : Operator} (c : OpS X.K C f op.info.2) (F : FnOk X.prog X.w X.K X.mg X.base CX0 n f fd ps sp) (hb : Binds X.K fd ps []) (hr : Room n X.A) : OpR X (binaryOp op) (rOpS C sp) := by
 intro pins s σ H x y v u Q I rx ry h
 obtain ⟨a, t, dx, fs, rfl, rfl, ha, q⟩ := h
 cases rx
 obtain ⟨tok, rfl⟩ := ry
 obtain ⟨mA, J, _⟩ := ins_get I.hok ha
 obtain ⟨od, J, _⟩ := J.look
 obtain ⟨m, hF⟩ := I.fr
 exact PySem.W.ksp_binT (T := "str") hF I.ok.mod.kin J rfl c.sf c.fi c.fn c.fr (.inl rfl) c.t1 c.t2 c.su (wpAny_mono (run2v F hb I hr rfl (show RelV (.ref a) (.ref a) from rfl) (show RelV (.str t) (.str t tok) from ⟨tok, rfl⟩) q) (fun z s' hz => ep_cmp hz) fun _ _ e => e)
def rLenO (C : Addr) (sp : Sp) : List V → Hp → VK → Prop := fun xs H Q => ∃ a dx fs, xs = [.ref a] ∧ H a = some (.ins C dx fs) ∧ sp [.ref a] H (fun v H2 => ∃ k : Nat, v = .int k ∧ k < 2 ^ 62 ∧ Q (.int k) H2) E0
theorem run1v {pins : List (Addr × Obj)} {σ : L2.St} {H : Hp} {s : Shared} {A : Around} {Q : VK} {x : V} {u : Value} {E : Value → Shared → Prop} (F : FnOk X.prog X.w X.K X.mg X.base CX0 n f fd ps sp) (hb : Binds X.K fd ps []) (I : L2.Inv X pins σ H s) (hr : Room n A) (hfr : A.frames = X.A.frames)
  (rx : RelV x u) (h : sp [x] H Q E0) : wpAny (model X.prog X.w) A (call (.ref f) [u]) (EP X pins σ Q) E s := by
 have e0 : Env0 X.prog X.w X.K X.mg X.base A X.stack s H := by
  have e := I.env0
  exact ⟨by rw [hfr]; exact e.frames, e.mod, e.bs, e.bsz, e.funs, e.frf, e.hok, e.bare⟩
 have hl := F.len _ _ _ _ h
 refine wpAny_call (codeAny_mono (F.run A X.stack s H ⟨[u], []⟩ [u] [x] Q E0 hr e0 (by
  have := hb s [u] I.kIn (by simpa using hl)
  simpa using this) (.cons rx .nil) h) fun r s' hq => ?_)
 cases r with
 | error e => exact False.elim hq
 | ok fl =>
  cases fl with
  | ret w =>
   obtain ⟨z, H', I', rz, q⟩ := I.after hq
   exact ⟨z, H', I', rz, q⟩
  | next => exact False.elim hq
  | brk => exact False.elim hq
  | cont => exact False.elim hq
theorem call_lenO (c : LenC X.K C f) (F : FnOk X.prog X.w X.K X.mg X.base CX0 n f fd ps sp) (hb : Binds X.K fd ps []) (hr : Room (n + 1) X.A) : CallR X (.builtin "len") (rLenO C sp) := by
 intro pins s σ H xs us Q I rx h
 obtain ⟨a, dx, fs, rfl, ha, q⟩ := h
 cases rx with
 | cons r1 r2 =>
 cases r2
 cases r1
 obtain ⟨mA, J, _⟩ := ins_get I.hok ha
 obtain ⟨od, J, _⟩ := J.look
 obtain ⟨m, hF⟩ := I.fr
 refine PySem.W.len_K hF I.ok.mod.kin J c.fi c.fn (wpAny_mono (run1v (x := .ref a) F hb I (hr.in1) rfl (show RelV (.ref a) (.ref a) from rfl) q) (fun z s' hz => ?_) fun _ _ e => e)
 obtain ⟨z', H', I', rz, k, rfl, hk, q'⟩ := hz
 obtain ⟨t, rfl⟩ := rz
 exact ⟨⟨by omega, by omega⟩, .int k, H', I'.tok _, ⟨_, rfl⟩, q'⟩
end
section
variable {K : PySem.W.Frag} {W : WX} {ta tb : TE} {aa ab : AE}
def aOpO (C : Addr) (cs : List Addr) (sp : ASp) (a b : AE) (ax : AX) (env : AEnv) (Q : B → Prop) : Prop := a ax env fun x => b ax env fun y => ∃ C2 fs gs, x.get = .obj C fs ∧ y.get = .obj C2 gs ∧ C2 ∈ cs ∧ sp (coes [] [x, y]) (fun d => Q (.st d)) fun _ _ => False
theorem ea_opO {C : Addr} {cs : List Addr} {sp : ASp} (ha : EA K W ta aa) (hb : EA K W tb ab) : EA K W (tOp (rOpO C cs (cSp K sp)) ta tb) (aOpO C cs sp aa ab) := fun o H0 S H σ env ax Q Qc es q k xl =>
 ha o H0 S H σ env ax _ _ es q (fun v b S1 H1 g1 w1 r1 q1 =>
  hb o H0 S1 H1 σ env ax _ _ (es.mono g1 w1) q1 (fun v2 b2 S2 H2 g2 w2 r2 q2 => by
   have kp := (g1.trans g2).kp es.kp
   obtain ⟨C2, fds, gds, e1, e2, hm, q2⟩ := q2
   obtain ⟨a, dx, fs, rfl, h1, _⟩ := (r1.mono g2).obj w2 kp e1
   obtain ⟨b', dy, gs, rfl, h2, _⟩ := r2.obj w2 kp e2
   obtain ⟨p1, p2⟩ := coes_ok w2 kp [] (.cons (r1.mono g2) (.cons r2 .nil))
   exact ⟨a, b', C2, dx, dy, fs, gs, rfl, rfl, h1, h2, hm, o, S2, _, _, _, w2, p1, p2, q2, fun v d S' H' g w r q => k v (.st d) S' H' ((g1.trans g2).trans g) w r q, fun _ _ _ _ _ _ _ _ _ q => q.elim⟩) (xl.mono g1)) xl
def aOpS (C : Addr) (sp : ASp) (a b : AE) (ax : AX) (env : AEnv) (Q : B → Prop) : Prop := a ax env fun x => b ax env fun y => ∃ t fs, x.get = .obj C fs ∧ y.get = .str t ∧ sp (coes [] [x, y]) (fun d => Q (.st d)) fun _ _ => False
theorem ea_opS {C : Addr} {sp : ASp} (ha : EA K W ta aa) (hb : EA K W tb ab) : EA K W (tOp (rOpS C (cSp K sp)) ta tb) (aOpS C sp aa ab) := fun o H0 S H σ env ax Q Qc es q k xl =>
 ha o H0 S H σ env ax _ _ es q (fun v b S1 H1 g1 w1 r1 q1 =>
  hb o H0 S1 H1 σ env ax _ _ (es.mono g1 w1) q1 (fun v2 b2 S2 H2 g2 w2 r2 q2 => by
   have kp := (g1.trans g2).kp es.kp
   obtain ⟨t, fds, e1, e2, q2⟩ := q2
   obtain ⟨a, dx, fs, rfl, h1, _⟩ := (r1.mono g2).obj w2 kp e1
   obtain ⟨p1, p2⟩ := coes_ok w2 kp [] (.cons (r1.mono g2) (.cons r2 .nil))
   have e3 := r2.now w2 kp
   rw [e2] at e3
   obtain rfl := rep_str e3
   exact ⟨a, t, dx, fs, rfl, rfl, h1, o, S2, _, _, _, w2, p1, p2, q2, fun v d S' H' g w r q => k v (.st d) S' H' ((g1.trans g2).trans g) w r q, fun _ _ _ _ _ _ _ _ _ q => q.elim⟩) (xl.mono g1)) xl
def aLenO (C : Addr) (sp : ASp) (a : AE) (ax : AX) (env : AEnv) (Q : B → Prop) : Prop := a ax env fun x => ∃ fs, x.get = .obj C fs ∧ sp (coes [] [x]) (fun d => ∃ k : Nat, d = .int k ∧ k < 2 ^ 62 ∧ Q (.st (.int k))) fun _ _ => False
theorem ea_lenO {C : Addr} {sp : ASp} (ha : EA K W ta aa) : EA K W (tCB (rLenO C (cSp K sp)) (tCons ta tNil)) (aLenO C sp aa) := fun o H0 S H σ env ax Q Qc es q k xl =>
 ha o H0 S H σ env ax _ _ es q (fun v b S1 H1 g1 w1 r1 q1 => by
  have kp := g1.kp es.kp
  obtain ⟨fds, e1, q1⟩ := q1
  obtain ⟨a, dx, fs, rfl, h1, _⟩ := r1.obj w1 kp e1
  obtain ⟨p1, p2⟩ := coes_ok w1 kp [] (.cons r1 .nil)
  exact ⟨a, dx, fs, rfl, h1, o, S1, _, _, _, w1, p1, p2, q1, fun v d S' H' g w r q => by
   obtain ⟨k', rfl, hk, q⟩ := q
   obtain rfl := rep_int r
   exact ⟨k', rfl, hk, k _ (.st (.int k')) S' H' (g1.trans g) w r q⟩, fun _ _ _ _ _ _ _ _ _ q => q.elim⟩) xl
end
end
section
section
variable {K : PySem.W.Frag} {W : WX} {ta tb : TE} {aa ab : AE}
def aEqO (C : Addr) (sp : ASp) (a b : AE) (ax : AX) (env : AEnv) (Q : B → Prop) : Prop := a ax env fun x => b ax env fun y => ∃ fs gs, x.get = .obj C fs ∧ y.get = .obj C gs ∧ sp (coes [] [x, y]) (fun d => Q (.st d)) fun _ _ => False
theorem ea_eqO {C : Addr} {sp : ASp} (ha : EA K W ta aa) (hb : EA K W tb ab) : EA K W (tOp (rEqO C (cSp K sp)) ta tb) (aEqO C sp aa ab) := fun o H0 S H σ env ax Q Qc es q k xl =>
 ha o H0 S H σ env ax _ _ es q (fun v b S1 H1 g1 w1 r1 q1 =>
  hb o H0 S1 H1 σ env ax _ _ (es.mono g1 w1) q1 (fun v2 b2 S2 H2 g2 w2 r2 q2 => by
   have kp := (g1.trans g2).kp es.kp
   obtain ⟨fds, gds, e1, e2, q2⟩ := q2
   obtain ⟨a, dx, fs, rfl, h1, _⟩ := (r1.mono g2).obj w2 kp e1
   obtain ⟨b', dy, gs, rfl, h2, _⟩ := r2.obj w2 kp e2
   obtain ⟨p1, p2⟩ := coes_ok w2 kp [] (.cons (r1.mono g2) (.cons r2 .nil))
   exact ⟨a, b', dx, dy, fs, gs, rfl, rfl, h1, h2, o, S2, _, _, _, w2, p1, p2, q2, fun v d S' H' g w r q => k v (.st d) S' H' ((g1.trans g2).trans g) w r q, fun _ _ _ _ _ _ _ _ _ q => q.elim⟩) (xl.mono g1)) xl
end
end
section
def plB (d : D) : Prop := D.pl 8 d = true ∨ ∃ b, d = .bl b
def noI : D → Bool
 | .int _ => false
 | _ => true
def fEqS (x y : D) (Q : D → Prop) : Prop := (D.pl 8 x = true ∧ noI x = true) ∧ plB y ∧ ∀ b, (b = true ↔ x = y) → Q (.bl b)
/-- x not in a list of plain data; x may be a flag -/
def fNinS (x y : D) (Q : D → Prop) : Prop := match y with
 | .lst ds => plB x ∧ (ds.length ≤ 900 ∧ ∀ d ∈ ds, D.pl 7 d = true ∧ noI d = true) ∧ ∀ b, (b = true ↔ x ∉ ds) → Q (.bl b)
 | _ => False
section
variable {K : PySem.W.Frag} {W : WX}
/-- f(..) that hands out a new thing -/
def aCallN (sp : ASp) (ms : List Bool) (a : AA) (ax : AX) (env : AEnv) (Q : D → Prop) : Prop := a ax env fun bs => sp (coes ms bs) Q (ax env)
end
def fInPT (x y : D) (Q : D → Prop) : Prop := match y with
 | .tup ds => D.pl 8 x = true ∧ D.pl 8 (.tup ds) = true ∧ ∀ b, (b = true ↔ x ∈ ds) → Q (.bl b)
 | _ => False
def fNinPT (x y : D) (Q : D → Prop) : Prop := match y with
 | .tup ds => D.pl 8 x = true ∧ D.pl 8 (.tup ds) = true ∧ ∀ b, (b = true ↔ x ∉ ds) → Q (.bl b)
 | _ => False
end
section
section
variable {prog : Program} {w : World} {A : Around} {E : Value → Shared → Prop} {s : Shared} {K : PySem.W.Frag} {x C L f : Addr} {h₀ : Heap} {m : Str → Option Value} {ox : Obj} {od : Option Obj} {T : String}
/-- left goes first: a thing of a built-in type on the right -/
theorem binopT_K {op : Operator} {b : Value} {fo ro : Option Value} {Q : Value → Shared → Prop} (F : PyProof.Rows.Fr h₀ L s.heap m) (X₀ : K.In h₀) (I : PySem.W.InstAt s.heap x ox C od) (hb : PySem.W.Looks (model prog w) s.heap (typeOf b) (.type T)) (hc : PySem.W.selfFirst K C = true)
  (hs : PySem.W.findIn K (.ref C) (PySem.dunder op.info.2) = some (some (.ref f))) (hf : PySem.W.isFn K (.ref f) = true) (hr : PySem.W.findIn K (.ref C) (dunderR op.info.2) = some none)
  (h1 : PySem.W.findIn K (.type T) (PySem.dunder op.info.2) = some fo) (h2 : PySem.W.findIn K (.type T) (dunderR op.info.2) = some ro) (hsub : PySem.W.subIn K (.type T) (.ref C) = some false)
  (h : wpAny (model prog w) A (call (.ref f) [.ref x, b]) (PySem.W.CmpBack Q) E s) : wpAny (model prog w) A (binaryOp op (.ref x) b) Q E s := by
 have X := X₀.keeps F.keep
 obtain ⟨cd, rest, hcd, hm⟩ := PySem.W.ksp_first hc
 rcases hi : op.info with ⟨sym, nm⟩
 rw [hi] at hs hr h1 h2
 dsimp only at hs hr h1 h2
 have one : wpAny (model prog w) A (tryMethod (.ref x) (PySem.dunder nm) b) (fun r s' => ∃ v, r = some v ∧ Q v s') E s := PySem.W.ksp_try X I hs hf h
 have hne : (Value.ref C == Value.type T) = false := Bool.eq_false_iff.mpr fun q => by cases beq_iff_eq.mp q
 obtain ⟨hh, g, d, tt, os⟩ := s
 have LA : PySem.W.Looks (model prog w) hh (typeOf (.ref x)) (.ref C) := I.type
 have LB : PySem.W.Looks (model prog w) hh (typeOf b) (.type T) := hb
 have LC : PySem.W.Looks (model prog w) hh (fillsNumberSlot (.ref C) nm) true := PySem.W.fills_K X hcd hm hs
 have LD := PySem.W.ksp_fillsT (M := model prog w) (nm := nm) X h1 h2
 have LE : PySem.W.Looks (model prog w) hh (isSubtype (.type T) (.ref C)) false := PySem.W.looks_subIn X hsub
 have LF : PySem.W.Looks (model prog w) hh (numberSlotInPython (.ref C) nm) true := PySem.W.ksp_inPy X hs hr (.inl rfl)
 have LG : PySem.W.Looks (model prog w) hh (numberSlotInPython (.type T) nm) false := PySem.W.Looks.of_pure rfl
 have LH : PySem.W.Looks (model prog w) hh (typeLookup (.type T) (dunderR nm)) ro := PySem.W.looks_findIn X h2
 generalize ((fo.isSome && !isSeqSlot fo) || (ro.isSome && !isSeqSlot ro)) = right at LD
 simp only [binaryOp, hi]
 refine wpAny_holding (wpAny_bind ?_)
 unfold binaryOp1
 refine wpAny_bind (LA.at (wpAny_bind (LB.at (wpAny_bind (LC.at ?_)))))
 simp only [hne, Bool.false_eq_true, if_false]
 cases right with
 | false =>
  ksp_lk
  refine wpAny_mono one (fun r s' hr' => ?_) fun _ _ e => e
  obtain ⟨v, rfl, hq⟩ := hr'
  ksp_lk
  exact hq
 | true =>
  ksp_lk
  refine wpAny_mono one (fun r s' hr' => ?_) fun _ _ e => e
  obtain ⟨v, rfl, hq⟩ := hr'
  ksp_lk
  exact hq
end
/-- what may stand to the right -/
def RgtOk (K : PySem.W.Frag) (C : Addr) (nm : String) : Value → Prop
 | .type T => (∃ fo, PySem.W.findIn K (.type T) (PySem.dunder nm) = some fo) ∧ (∃ ro, PySem.W.findIn K (.type T) (dunderR nm) = some ro) ∧ PySem.W.subIn K (.type T) (.ref C) = some false
 | .ref C2 => noSlot K C2 nm = true ∧ C2 ≠ C
 | _ => False
/-- an own class C whose f stands for the operator, asked with any built-in thing or things of the classes cs -/
structure OpX (K : PySem.W.Frag) (C f : Addr) (nm : String) (cs : List Addr) : Prop where
 sf : PySem.W.selfFirst K C = true
 fi : PySem.W.findIn K (.ref C) (PySem.dunder nm) = some (some (.ref f))
 fn : PySem.W.isFn K (.ref f) = true
 fr : PySem.W.findIn K (.ref C) (dunderR nm) = some none
 ty : ∀ T ∈ kinds, RgtOk K C nm (.type T)
 no : ∀ c ∈ cs, noSlot K c nm = true
theorem OpX.rgt {K : PySem.W.Frag} {C f : Addr} {nm : String} {cs : List Addr} (c : OpX K C f nm cs) {D : Addr} (hd : D ∈ cs) : RgtOk K C nm (.ref D) := ⟨c.no D hd, fun e => by
 subst e
 obtain ⟨cd, rest, hcd, hm⟩ := PySem.W.ksp_first c.sf
 have h := c.no _ hd
 unfold noSlot at h
 rw [hcd] at h
 simp only [hm, List.all_cons, Bool.and_eq_true, beq_iff_eq] at h
 rw [c.fi] at h
 cases h.1.1.2⟩
section
variable {X : Cx} {n : Nat} {C f : Addr} {fd : FuncData} {ps : List Str} {sp : Sp} {cx : CXT} {W : WX} {cs : List Addr}
theorem run2x {pins : List (Addr × Obj)} {σ : L2.St} {H : Hp} {s : Shared} {A : Around} {Q : VK} {x y : V} {u v : Value} {E : XK} (F : FnOk X.prog X.w X.K X.mg X.base cx n f fd ps sp) (hb : Binds X.K fd ps []) (I : L2.Inv X pins σ H s) (hr : Room n A) (hfr : A.frames = X.A.frames) (hx : PassesAt cx X σ E)
  (rx : RelV x u) (ry : RelV y v) (h : sp [x, y] H Q E) : wpAny (model X.prog X.w) A (call (.ref f) [u, v]) (EP X pins σ Q) X.xe s := by
 have e0 : Env0 X.prog X.w X.K X.mg X.base A X.stack s H := by
  have e := I.env0
  exact ⟨by rw [hfr]; exact e.frames, e.mod, e.bs, e.bsz, e.funs, e.frf, e.hok, e.bare⟩
 have hl := F.len _ _ _ _ h
 refine wpAny_call (codeAny_mono (F.run A X.stack s H ⟨[u, v], []⟩ [u, v] [x, y] Q E hr e0 (by
  have := hb s [u, v] I.kIn (by simpa using hl)
  simpa using this) (.cons rx (.cons ry .nil)) h) fun r s' hq => ?_)
 cases r with
 | error e => exact hx pins H s e s' I hq
 | ok fl =>
  cases fl with
  | ret w =>
   obtain ⟨z, H', I', rz, q⟩ := I.after hq
   exact ⟨z, H', I', rz, q⟩
  | next => exact False.elim hq
  | brk => exact False.elim hq
  | cont => exact False.elim hq
def tSubOX (C : Addr) (sp : Sp) (E : L2.St → XK) (ta ti : TE) : TE := fun σ H Q => ta σ H fun x H1 => ti σ H1 fun y H2 => ∃ a dx fs, x = .ref a ∧ H2 a = some (.ins C dx fs) ∧ sp [x, y] H2 Q (E σ)
theorem pe_subOX {o i : Expr} {pos : Pos} {ta ti : TE} (c : GetC X.K C f) (F : FnOk X.prog X.w X.K X.mg X.base (L2.CX X.prog X.w) n f fd ps sp) (hb : Binds X.K fd ps []) (hr : Room (n + 1) X.A) (tk : Takes X W) (ho : PE X o ta) (hi : PE X i ti)
  (hsl : ∀ a v, subscripted i true (.ref a) v = runValue (.builtin "lifetime.subscript" ⟨[.ref a, v], []⟩) := by intro _ _; with_unfolding_all rfl) : PE X (.Subscript o i pos) (tSubOX C sp (WE W) ta ti) := by
 refine ⟨fun pins s σ H Q I h => ?_⟩
 refine Subscript_ (thn (ho.run pins s σ H _ I h) fun u s1 ⟨x, H1, I1, rx, q1⟩ => thn (hi.run pins s1 σ H1 _ I1 q1) fun iv s2 ⟨y, H2, I2, ry, a, dx, fs, ex, hx, q2⟩ => ?_)
 subst ex
 obtain rfl : u = Value.ref a := rx
 obtain ⟨mA, J, _⟩ := ins_get I2.hok hx
 obtain ⟨od, J, _⟩ := J.look
 obtain ⟨m, hF⟩ := I2.fr
 exact PySem.W.sub_K hF I2.ok.mod.kin J c.get c.fi c.fn (run2x (x := .ref a) F hb I2 (hr.in1) rfl (passAt tk σ) (show RelV (.ref a) (.ref a) from rfl) ry q2) (hsl a iv)
def tOpX (K : PySem.W.Frag) (C : Addr) (nm : String) (sp : Sp) (E : L2.St → XK) (ta tb : TE) : TE := fun σ H Q => tOp (fun x y H2 Q => ∃ a dx fs t, x = .ref a ∧ H2 a = some (.ins C dx fs) ∧ TyX K H2 y t ∧ RgtOk K C nm t ∧ sp [x, y] H2 Q (E σ)) ta tb σ H Q
theorem pe_opX {K : PySem.W.Frag} {op : Operator} {l r : Expr} {pos : Pos} {ta tb : TE} (hK : X.K = K) (c : OpX K C f op.info.2 cs) (F : FnOk X.prog X.w X.K X.mg X.base (L2.CX X.prog X.w) n f fd ps sp) (hb : Binds X.K fd ps []) (hr : Room n X.A) (tk : Takes X W) (hl : PE X l ta) (hh : PE X r tb) :
  PE X (.BinOp l op r pos) (tOpX K C op.info.2 sp (WE W) ta tb) := by
 subst hK
 refine ⟨fun pins s σ H Q I h => ?_⟩
 refine wpAny_BinOp (binT hl hh I h fun v u s2 x y H2 I2 rx ry q => ?_)
 obtain ⟨a, dx, fs, t, rfl, ha, ht, hg, q⟩ := q
 cases rx
 obtain ⟨mA, J, _⟩ := ins_get I2.hok ha
 obtain ⟨od, J, _⟩ := J.look
 obtain ⟨m, hF⟩ := I2.fr
 obtain ⟨Pk, kx, hp, _⟩ := kit_of I2 ry ht
 have run := wpAny_mono (run2x (x := .ref a) F hb I2 hr rfl (passAt tk σ) (show RelV (.ref a) (.ref a) from rfl) ry q) (fun z s' hz => ep_cmp hz) fun _ _ e => e
 have lk := kx.ty (model X.prog X.w) _ I2.kIn hp
 unfold RgtOk at hg
 split at hg
 ·obtain ⟨⟨fo, h1⟩, ⟨ro, h2⟩, h3⟩ := hg
  exact binopT_K hF I2.ok.mod.kin J lk c.sf c.fi c.fn c.fr h1 h2 h3 run
 ·exact binopO_K hF I2.ok.mod.kin J lk hg.2 hg.1 c.sf c.fi c.fn run
 ·exact hg.elim
end
section
variable {K : PySem.W.Frag} {W : WX} {ta tb : TE} {aa ab : AE}
def aSubX (C : Addr) (sp : ASp) (ms : List Bool) (a b : AE) (ax : AX) (env : AEnv) (Q : B → Prop) : Prop := a ax env fun x => b ax env fun y => match x.get with
 | .obj C' fs => C' = C ∧ sp (coes ms [x, y]) (fun d => Q (.st d)) (ax env)
 | _ => False
theorem ea_subX {C : Addr} {sp : ASp} (ms : List Bool) (ha : EA K W ta aa) (hb : EA K W tb ab) : EA K W (tSubOX C (cSp K sp) (WE W) ta tb) (aSubX C sp ms aa ab) := fun o H0 S H σ env ax Q Qc es q k xl =>
 ha o H0 S H σ env ax _ _ es q (fun v b S1 H1 g1 w1 r1 q1 =>
  hb o H0 S1 H1 σ env ax _ _ (es.mono g1 w1) q1 (fun v2 b2 S2 H2 g2 w2 r2 q2 => by
   have kp := (g1.trans g2).kp es.kp
   split at q2
   ·rename_i C' fds e
    obtain ⟨rfl, q2⟩ := q2
    obtain ⟨a, dx, fs, rfl, h1, _⟩ := (r1.mono g2).obj w2 kp e
    obtain ⟨p1, p2⟩ := coes_ok w2 kp ms (.cons (r1.mono g2) (.cons r2 .nil))
    exact ⟨a, dx, fs, rfl, h1, o, S2, _, _, _, w2, p1, p2, q2, fun v d S' H' g w r q => k v (.st d) S' H' ((g1.trans g2).trans g) w r q, fun C' fs dd S' H' g w n e q => xl C' fs dd S' H' ((g1.trans g2).trans g) w ((g1.trans g2).bk n) e q⟩
   ·exact q2.elim) (xl.mono g1)) xl
def aOpX (K : PySem.W.Frag) (C : Addr) (cs : List Addr) (sp : ASp) (a b : AE) (ax : AX) (env : AEnv) (Q : B → Prop) : Prop := a ax env fun x => b ax env fun y => ∃ fs, x.get = .obj C fs ∧ ((∃ C2 gs, y.get = .obj C2 gs ∧ C2 ∈ cs ∧ ClK K C2) ∨ ∃ m, knD y.get = some m) ∧ sp (coes [] [x, y]) (fun d => Q (.st d)) (ax env)
theorem ea_opX {C f : Addr} {nm : String} {cs : List Addr} {sp : ASp} (c : OpX K C f nm cs) (ha : EA K W ta aa) (hb : EA K W tb ab) : EA K W (tOpX K C nm (cSp K sp) (WE W) ta tb) (aOpX K C cs sp aa ab) := fun o H0 S H σ env ax Q Qc es q k xl =>
 ha o H0 S H σ env ax _ _ es q (fun v b S1 H1 g1 w1 r1 q1 =>
  hb o H0 S1 H1 σ env ax _ _ (es.mono g1 w1) q1 (fun v2 b2 S2 H2 g2 w2 r2 q2 => by
   have kp := (g1.trans g2).kp es.kp
   obtain ⟨fds, e1, hy, q2⟩ := q2
   obtain ⟨a, dx, fs, rfl, h1, _⟩ := (r1.mono g2).obj w2 kp e1
   obtain ⟨p1, p2⟩ := coes_ok w2 kp [] (.cons (r1.mono g2) (.cons r2 .nil))
   have rn := r2.now w2 kp
   obtain ⟨t, t1, t2⟩ : ∃ t, TyX K H2 v2 t ∧ RgtOk K C nm t := by
    rcases hy with ⟨C2, gs, e2, hm, kl⟩ | ⟨m, e2⟩
    ·rw [e2] at rn
     obtain ⟨b', dy, gv, rfl, h2, _⟩ := rep_obj rn
     exact ⟨_, kl.tyx h2, c.rgt hm⟩
    ·obtain ⟨z1, z2⟩ := kn_ty rn e2
     exact ⟨_, z1, c.ty m z2⟩
   exact ⟨a, dx, fs, t, rfl, h1, t1, t2, o, S2, _, _, _, w2, p1, p2, q2, fun v d S' H' g w r q => k v (.st d) S' H' ((g1.trans g2).trans g) w r q, fun C' fs dd S' H' g w n e q => xl C' fs dd S' H' ((g1.trans g2).trans g) w ((g1.trans g2).bk n) e q⟩) (xl.mono g1)) xl
/-- xs.clear() -/
def aClr (i : Nat) (E : AEnds) (env : AEnv) : Prop := match slot env i with
 | some (.ow x (.lst _)) => E.nx (env.set i (some (.ow x (.lst []))))
 | _ => False
theorem sa_clr (i : Nat) : SA K W (tDrop (tBM K "list" rClear (tVar i) tNil)) (aClr i) := fun o S0 H0 S H σ env E Dc st lk q => by
 unfold aClr at q
 split at q
 ·rename_i x ds e
  obtain ⟨v, e1, rfl, ns, np, t⟩ := st.es.sl i _ e
  generalize hx : H x = z at t
  cases t with
  | @lst xs _ r =>
   refine ⟨_, e1, .inl ⟨rfl, xs, SqL.of hx⟩, ?_⟩
   refine ⟨x, xs, rfl, rfl, hx, ?_⟩
   exact lk.nx _ _ S _ (st.put e (.lst .nil)) q
 ·exact q.elim
end
end
section
def fNinS0 (x y : D) (Q : D → Prop) : Prop := match x, y with
 | .str z, .str s => ∃ c, z = ⟨#[c]⟩ ∧ Q (.bl (!decide (c ∈ s.cps.toList)))
 | _, _ => False
section
variable {X : Cx}
def tListVals (te : TE) : TE := fun σ H Q => te σ H fun x H1 => ∃ (a : Addr) (kvs : List (Key × V)), x = .ref a ∧ Rd H1 a (.dK kvs) ∧ ∀ l, H1 l = none → Q (.ref l) (upd H1 l (.lst (kvs.map (·.2))))
theorem pe_listVals {e : Expr} {te : TE} {p apos cpos pos : Pos} (hc : X.calm = true) (he : PE X e te) (hm : X.mg ("list" : Str) = none) (hg : Gl X "list" := by rfl) (hv : bootBuiltins ("list" : Str) = some (.type "list") := by decide +kernel) (hbase : attributeBase e "values" X.env (eval e X.env) = eval e X.env := by rfl) (hline : (apos.endLine == cpos.line) = true := by rfl)
  (hs : starEach [.Call (.Attribute e "values" apos) [] [] cpos] X.env = (false, eval (.Call (.Attribute e "values" apos) [] [] cpos) X.env) :: starEach [] X.env := by rfl) :
  PE X (.Call (.Name "list" p) [.Call (.Attribute e "values" apos) [] [] cpos] [] pos) (tListVals te) :=
 ⟨fun pins s σ H Q I hq => wpAny_Call_Name_kw (ld_blt I hg hm hv (PyProof.Rows.callWith_type1 (by
  rw [hs]
  exact Calls.spliced_cons (wpAny_Call_method hbase rfl hline PySem.F.plainAttrs_dict PySem.F.slot_dict_values PySem.F.type_dict_values (thn (he.run pins s σ H _ I hq) fun u s1 ⟨x, H1, I1, rx, d, kvs, ex, hd, q⟩ => by
   subst ex
   obtain rfl : u = Value.ref d := rx
   obtain ⟨hz, hs0, vs, kv, hdo⟩ := (show ObjOk X.prog X.w H1 s1.heap d (.dK kvs) from Rd.ok hd I1.hok)
   obtain ⟨ep, hat⟩ := hdo.dictAt
   have lk : kvs.length = vs.length := Paired.length kv
   have I2 := I1.kept (h' := s1.heap.push { cls := .type "dict_values", dict := none, data := .fields #[.ref d], slots := #[] }) (t' := s1.toks) fun b ob q => Heap.get?_push_of_some _ q
   refine ⟨hdo.typeIs, hdo.mapOf.noDict, method_meetsIn PySem.F.slot_dict_values PySem.F.entry_dict_values rfl (PySem.evalArgs_none ⟨rfl, hdo.typeIs, PySem.F.args_dict_values_1 _, _, meets_dict_values (mixKind X.prog X.w) d hs0, ⟨vs, hdo⟩, Calls.spliced_nil (PySem.W.kdl_call (PySem.W.kdl_values (knd := mixKind X.prog X.w) (kvs := vs) (ep := ep)) (I1.ok.hd hc) ⟨⟨_, Heap.get?_push_size s1.heap rfl, rfl, rfl⟩, hat.push _⟩ (by rw [← lk]; exact hz) fun h' tk acc c hk hS hacc => ?_)⟩)⟩
   refine ⟨.ref _, upd H1 _ (.lst (kvs.map (·.2))), I2.laid hk (Nat.le_refl _) (show ObjOk X.prog X.w _ _ _ (.lst (kvs.map (·.2))) from ⟨by rw [List.length_map]; exact hz, acc.toList, c, ?_, by rw [Array.toArray_toList]; exact hS⟩), rfl, q _ (I2.hok.fresh (Nat.le_refl _))⟩
   have el : acc.toList.length = acc.size := by simp
   refine vals_of_at (by rw [List.length_map, el, hacc.1, lk]) fun j x w h1 h2 => ?_
   obtain ⟨k, hkk⟩ := hacc.2 j w (by rw [← Array.getElem?_toList]; exact h2)
   rw [List.getElem?_map, Option.map_eq_some_iff] at h1
   obtain ⟨y, hy, rfl⟩ := h1
   obtain ⟨z, hz2, r1, r2⟩ := LiI.paired_get kv hy
   rw [hkk] at hz2
   cases hz2
   exact r2)))))⟩
end
section
variable {K : PySem.W.Frag} {W : WX} {td : TE} {ad : AE}
def aListVals (a : AE) (ax : AX) (env : AEnv) (Q : D → Prop) : Prop := a ax env fun x => match x with
 | .st (.dK kvs) => Q (.lst (kvs.map (·.2)))
 | _ => False
theorem en_listVals (ha : EA K W td ad) : EN K W (tListVals td) (aListVals ad) := fun o H0 S H σ env ax Q Qc es q k xl =>
 ha o H0 S H σ env ax _ _ es q (fun v b S1 H1 g1 w1 r1 q1 => by
  split at q1
  ·rename_i kds
   obtain ⟨a, kvs, rfl, h3, h4, h5⟩ := rep_dK (show Rep K S1 v (.dK kds) from r1)
   refine ⟨a, kvs, rfl, ?_, fun l hl => en_newL g1 w1 k h5 q1 l hl⟩
   rcases h3 with h3 | ⟨o, h3⟩
   ·exact .inl (w1.1 _ _ h3)
   ·exact .inr ⟨o, w1.1 _ _ h3⟩
  ·exact q1.elim) xl
end
end
section
section
variable {K : PySem.W.Frag} {W : WX} {ta : TE} {aa : AE}
def aMethF (C : Addr) (n : Str) (sp : ASp) (ms : List Bool) (a : AE) (r : AA) (ax : AX) (env : AEnv) (Q : D → Prop) : Prop := a ax env fun x => match x.get with
 | .obj C' fs => C' = C ∧ fs.lookup n = none ∧ r ax env fun bs => sp (coes ms (x :: bs)) Q fun _ _ => False
 | _ => False
theorem en_methF {C : Addr} {n : Str} {sp : ASp} {c : Nat} {t : TA} {r : AA} (ms : List Bool) (ha : EA K W ta aa) (hl : EL K W c t r) : EN K W (tMeth C n (cSpF K sp) [] E0 ta t) (aMethF C n sp ms aa r) := fun o H0 S H σ env ax Q Qc es q k xl =>
 ha o H0 S H σ env ax _ _ es q (fun v b S1 H1 g1 w1 r1 q1 => by
  split at q1
  ·rename_i C' fds e
   obtain ⟨rfl, hn, q1⟩ := q1
   obtain ⟨a, dx, fs, rfl, h1, h2, S', h3, h4⟩ := r1.obj w1 (g1.kp es.kp) e
   refine ⟨a, dx, fs, rfl, h1, lookup_none h2 hn, hl o H0 S1 H1 σ env ax _ _ (es.mono g1 w1) q1 (fun vs bs S2 H2 g2 w2 r2 _ q2 => ?_) (xl.mono g1)⟩
   rw [List.append_nil]
   obtain ⟨p1, p2⟩ := coes_ok w2 ((g1.trans g2).kp es.kp) ms (.cons (r1.mono g2) r2)
   exact ⟨o, S2, _, _, _, w2, p1, p2, q2, fun a d S' H' g w n ns t q => k a d S' H' ((g1.trans g2).trans g) w ((g1.trans g2).bk n) ns t q, fun C fs dd S' H' g w n e q => q.elim⟩
  ·exact q1.elim) xl
end
end
section
/-- a thing that holds no list of these things -/
def Surv (K : PySem.W.Frag) (ds : List D) (d : D) : Prop := ∀ S a xs v, S a = some (.lst xs) → RepL K S xs ds → Rep K S v d → Rep K (offA a S) v d
def aLendMk (K : PySem.W.Frag) (C : Addr) (sp : ISp) (i j : Nat) (E : AEnds) (env : AEnv) : Prop := match slot env i with
 | some (.ow a (.lst ds)) => (∃ C' fs' r, ds = .obj C' fs' :: r) ∧ sp [.st (.lst ds)] (fun fs => Surv K ds (.obj C fs) ∧ E.nx (env.set j (some (.st (.obj C fs))))) fun _ _ => False
 | _ => False
section
variable {K : PySem.W.Frag} {W : WX}
theorem sa_lendMk {C : Addr} {sp : ISp} (i j : Nat) : SA K W (tAsg (tMake C (cIn K C sp) [] E0 (tCons (tVar i) tNil)) (gName j)) (aLendMk K C sp i j) := fun o S0 H0 S H σ env E Dc st lk q => by
 unfold aLendMk at q
 split at q
 ·rename_i a ds e
  obtain ⟨⟨C', fs', r, hd⟩, q⟩ := q
  obtain ⟨v, e1, rfl, ns, np, t⟩ := st.es.sl i _ e
  generalize hx : H a = z at t
  cases t with
  | @lst xs _ rl =>
   have w1 : Wl o (upd S a (.lst xs)) H := st.es.wl.fix hx ns np
   have sS : Same S (upd S a (.lst xs)) := same_upd ns
   have ra : Rep K (upd S a (.lst xs)) (.ref a) (.lst ds) := .lst upd_same (RepL.same sS rl)
   refine ⟨_, e1, ?_⟩
   intro x dx nx ndx ne
   show cIn K C sp [V.ref x, V.ref a] _ _ _
   refine make_ok (C := C) (Qc := fun v H1 => gName j v σ H1 Dc.nx) (E := E0) (ms := []) (o := o) (H0 := H0) (S := upd S a (.lst xs)) (bs := [.st (.lst ds)]) w1 st.es.kp (.cons ra .nil) q (fun x fs S' H' g w' rx hq => ?_) (fun _ _ _ _ _ _ _ _ _ q => q.elim) nx ndx ne
   obtain ⟨sv, q1⟩ := hq
   have sa : S' a = some (.lst xs) := g.st _ _ upd_same
   have off : ∀ b, b ≠ a → offA a S' b = S' b := fun b hb => offA_ne hb
   have wl2 : Wl o (offA a S') H' := ⟨fun b u hb => w'.1 _ _ (offA_sub _ _ hb), fun p hp => by
    obtain ⟨ss, npp, g1, sm, cur, cnt, gs, nn, h1, hg, hs, lg, ls⟩ := w'.2 p hp
    have xsr : ∃ r1 rs1, xs = V.ref r1 :: rs1 := by
     rw [hd] at rl
     cases rl with
     | cons hh ht =>
      obtain ⟨a', dx', fv', rfl, _⟩ := rep_obj hh
      exact ⟨_, _, rfl⟩
    have nea : ∀ (b : Addr) (is : List Int), S' b = some (.lst (is.map V.int)) → b ≠ a := fun b is hb ee => by
     rw [ee, sa] at hb
     obtain ⟨r1, rs1, hr⟩ := xsr
     rw [hr] at hb
     cases is with
     | nil => cases hb
     | cons z zs => cases hb
    refine ⟨fun b u hb => w'.1 _ _ (offA_sub _ _ hb), ?_, g1, sm, cur, cnt, gs, nn, h1, (offA_ne (nea _ _ hg)).trans hg, (offA_ne (nea _ _ hs)).trans hs, lg, ls⟩
    unfold offA
    split
    ·rfl
    ·exact npp⟩
   have gr2 : GrO o S H (offA a S') H' := by
    refine ⟨fun b u hb => ?_, g.rs, fun b h1 h2 ht => ?_, g.ex⟩
    ·have hne : b ≠ a := fun z => by rw [z, ns] at hb; cases hb
     rw [offA_ne hne]
     exact g.st _ _ ((upd_ne hne).trans hb)
    ·by_cases hb : b = a
     ·subst hb
      refine ⟨offA_same, fun ys hy => ?_⟩
      have := g.rs b _ np hx
      rw [this] at hy
      cases hy
     ·have := g.fr b ((upd_ne hb).trans h1) h2 ht
      exact ⟨(offA_ne hb).trans this.1, this.2⟩
   have r2 : Rep K (offA a S') (.ref x) (.obj C fs) := sv S' a xs _ sa (RepL.same (sS.trans g.st) rl) rx
   exact (ga_name (K := K) (js := [j]) j (by simp)) o H0 (offA a S') H' σ env (.ref x) (.st (.obj C fs)) _ _ (st.es.mono gr2 wl2) r2 q1 fun σ' env' es' _ ow q2 => lk.nx σ' env' _ H' ((st.mono gr2 wl2).upd es' ow) q2
 ·exact q.elim
end
section
variable {X : Cx}
/-- a test in one of two readings -/
def ttEi (t u : TT) : TT := fun σ H Q => t σ H Q ∨ u σ H Q
theorem pt_ei {e : Expr} {t u : TT} (h1 : PT X e t) (h2 : PT X e u) : PT X e (ttEi t u) := ⟨fun pins s σ H Q I hw => by
 rcases hw with hw | hw
 ·exact h1.run pins s σ H Q I hw
 ·exact h2.run pins s σ H Q I hw⟩
end
section
variable {K : PySem.W.Frag} {W : WX} {ta tb : TT} {aa ab : AT}
def aEiT (a b : AT) (ax : AX) (env : AEnv) (Q : Bool → Prop) : Prop := a ax env Q ∨ b ax env Q
theorem et_ei (ha : ET K W ta aa) (hb : ET K W tb ab) : ET K W (ttEi ta tb) (aEiT aa ab) := fun o H0 S H σ env ax Q Qc es q k xl => by
 rcases q with q | q
 ·exact .inl (ha o H0 S H σ env ax Q Qc es q k xl)
 ·exact .inr (hb o H0 S H σ env ax Q Qc es q k xl)
end
end
section
section
variable {K : PySem.W.Frag} {W : WX} {td : TE} {ad : AE}
def aForK (ad : AE) (g : B → AEnv → (AEnv → Prop) → Prop) (ab : AS) (E : AEnds) (env : AEnv) : Prop := ad E.ax env fun x => match x with
 | .st (.dK kvs) => aLoop g ab ⟨E.nx, fun _ => False, fun _ => False, fun _ => False, fun _ => False, fun _ _ _ => False⟩ (kvs.map fun kv => .st (kD kv.1)) env
 | _ => False
end
end
section
def fSum (x : D) (Q : D → Prop) : Prop := match x with
 | .lst ds => ∃ ns : List Int, ds = ns.map D.int ∧ Q (.int ns.sum)
 | _ => False
def rEq0 : R2 := fun x y H Q => ∃ a b, x = .ref a ∧ y = .ref b ∧ Rd H a (.dK []) ∧ Rd H b (.dK []) ∧ Q (.bl true) H
theorem op_eq0 {X : Cx} (hu : X.A.units < cLine) : OpR X (compareOp .Eq) rEq0 := by
 intro pins s σ H x y v u Q I rx ry h
 obtain ⟨a, b, rfl, rfl, ea, eb, q⟩ := h
 obtain rfl : v = Value.ref a := rx
 obtain rfl : u = Value.ref b := ry
 obtain ⟨_, ya, va, ra, da⟩ := (show ObjOk X.prog X.w H s.heap a (.dK (vS [])) from Rd.ok ea I.hok)
 obtain ⟨_, yb, vb, rb, db⟩ := (show ObjOk X.prog X.w H s.heap b (.dK (vS [])) from Rd.ok eb I.hok)
 have l1 : va.length = ([] : KS).length := by rw [← ra.length, vS_len]
 have l2 : vb.length = ([] : KS).length := by rw [← rb.length, vS_len]
 exact PySem.W.keq_eq (knd := mixKind X.prog X.w) (r := ([] : KS).all fun p => decide (valS [] p.1 = some p.2)) ya yb da db hu (fun _ => hits_S rb ra) (fin_bl I q (by rw [l1, l2]; rfl))
def fEq0 (x y : D) (Q : D → Prop) : Prop := x = .dK [] ∧ y = .dK [] ∧ Q (.bl true)
theorem rep_dK0 {K : PySem.W.Frag} {H : Hp} {v : V} (h : Rep K H v (.dK [])) : ∃ a, v = .ref a ∧ Rd H a (.dK []) := by
 obtain ⟨a, kvs, rfl, h1, h2, h3⟩ := rep_dK h
 have : kvs = [] := by simpa using h2
 subst this
 exact ⟨a, rfl, h1⟩
theorem r2_eq0 {K : PySem.W.Frag} : R2S K rEq0 fEq0 := fun H x y dx dy Q Qc rx ry ⟨e1, e2, q⟩ k => by
 subst e1
 subst e2
 obtain ⟨a, rfl, h1⟩ := rep_dK0 rx
 obtain ⟨b, rfl, h2⟩ := rep_dK0 ry
 exact ⟨a, b, rfl, rfl, h1, h2, k _ _ rfl q⟩
end
section
section
variable {K : PySem.W.Frag} {W : WX} {ta tb : TE} {aa ab : AE}
/-- t + u, tuples -/
def aCatT (a b : AE) (ax : AX) (env : AEnv) (Q : B → Prop) : Prop := a ax env fun x => b ax env fun y => match x, y with
 | .st (.tup xs), .st (.tup ys) => xs.length + ys.length ≤ 1000 ∧ Q (.st (.tup (xs ++ ys)))
 | _, _ => False
theorem ea_catT (ha : EA K W ta aa) (hb : EA K W tb ab) : EA K W (tOp (rCatA K) ta tb) (aCatT aa ab) := fun o H0 S H σ env ax Q Qc es q k xl =>
 ha o H0 S H σ env ax _ _ es q (fun v b S1 H1 g1 w1 r1 q1 =>
  hb o H0 S1 H1 σ env ax _ _ (es.mono g1 w1) q1 (fun v2 b2 S2 H2 g2 w2 r2 q2 => by
   split at q2
   ·rename_i xs ys
    have r1 : Rep K S2 v (.tup xs) := Rep.same g2.st r1
    have r2' : Rep K S2 v2 (.tup ys) := r2
    obtain ⟨a, us, rfl, h1, h2⟩ := rep_tupX r1
    obtain ⟨b, vs, rfl, h3, h4⟩ := rep_tupX r2'
    have l1 := h2.len
    have l2 := h4.len
    refine ⟨a, b, us, vs, rfl, rfl, SqT.of (w2.1 _ _ h1), SqT.of (w2.1 _ _ h3), Nat.le_of_lt (small1000 (by rw [l1, l2]; exact q2.1)), fun e => ?_, fun _ e => ?_, fun _ _ p hp => ?_⟩
    ·subst e
     cases h2
     have r3 : Rep K S2 (.ref b) (.tup ([] ++ ys)) := by rw [List.nil_append]; exact r2'
     exact k _ (.st (.tup ([] ++ ys))) S2 H2 (g1.trans g2) w2 r3 q2.2
    ·subst e
     cases h4
     have q3 := q2.2
     rw [List.append_nil] at q3
     exact k _ (.st (.tup xs)) S2 H2 (g1.trans g2) w2 r1 q3
    ·have ns := w2.1.free hp
     refine k (.ref p) (.st (.tup (xs ++ ys))) (upd S2 p (.tup (us ++ vs))) _ ((g1.trans g2).trans (GrO.new w2 hp)) (w2.new hp) ?_ q2.2
     exact Rep.tup upd_same ((RepL.same (same_upd ns) h2).append (RepL.same (same_upd ns) h4))
   ·exact q2.elim) (xl.mono g1)) xl
end
end
section
def aSlT (a : AE) (lo hi : AO) (ax : AX) (env : AEnv) (Q : B → Prop) : Prop := a ax env fun x => lo ax env fun l => hi ax env fun h => match x with
 | .st (.tup ds) => Q (.st (.tup (cutD ds l h)))
 | _ => False
section
variable {K : PySem.W.Frag} {W : WX} {ta tb : TE} {aa ab : AE}
theorem ea_slT {tl th : TO} {al ah : AO} (ha : EA K W ta aa) (hl : EO K W tl al) (hh : EO K W th ah) : EA K W (tSl (rSlA K) ta tl th) (aSlT aa al ah) := fun o H0 S H σ env ax Q Qc es q k xl =>
 ha o H0 S H σ env ax _ _ es q (fun v b S1 H1 g1 w1 r1 q1 =>
  hl o H0 S1 H1 σ env ax _ _ (es.mono g1 w1) q1 (fun l S2 H2 g2 w2 q2 =>
   hh o H0 S2 H2 σ env ax _ _ ((es.mono g1 w1).mono g2 w2) q2 (fun h S3 H3 g3 w3 q3 => by
    split at q3
    ·rename_i ds
     have r1 : Rep K S1 v (.tup ds) := r1
     have r : Rep K S3 v (.tup ds) := Rep.same g3.st (Rep.same g2.st r1)
     obtain ⟨a, xs, rfl, h1, h2⟩ := rep_tupX r
     have g := (g1.trans g2).trans g3
     refine ⟨a, xs, rfl, SqT.of (w3.1 _ _ h1), fun e => ?_, fun _ p hp => ?_⟩
     ·have e4 : cutD ds l h = ds := by
       unfold cutD
       rw [← h2.len, e.1, e.2, List.drop_zero, Nat.sub_zero, h2.len, List.take_length]
      rw [e4] at q3
      exact k (.ref a) (.st (.tup ds)) S3 H3 g w3 r q3
     ·have ns := w3.1.free hp
      exact k (.ref p) (.st (.tup (cutD ds l h))) (upd S3 p (.tup (cutV xs l h))) _ (g.trans (GrO.new w3 hp)) (w3.new hp) (Rep.tup upd_same (RepL.same (same_upd ns) (cut_rep h2 l h))) q3
    ·exact q3.elim) (xl.mono (g1.trans g2))) (xl.mono g1)) xl
end
end
section
theorem RepL.set {K : PySem.W.Frag} {S : Hp} {v : V} {d : D} (h : Rep K S v d) : ∀ {xs : List V} {ds : List D} (j : Nat), RepL K S xs ds → RepL K S (xs.set j v) (ds.set j d)
 | _, _, _, .nil => .nil
 | _, _, 0, .cons a b => .cons h b
 | _, _, j + 1, .cons a b => .cons a (RepL.set h j b)
section
variable {K : PySem.W.Frag} {W : WX} {ty tv : TE} {ay av : AE}
def aLset (i : Nat) (a b : AE) (E : AEnds) (env : AEnv) : Prop := match slot env i with
 | some (.ow x (.lst ds)) => b E.ax env fun y => a E.ax env fun z => match z.get, y with
  | .int k, .st d => ∃ j, ixN ds.length k = some j ∧ E.nx (env.set i (some (.ow x (.lst (ds.set j d)))))
  | _, _ => False
 | _ => False
theorem sa_lset (i : Nat) (hy : EA K W ty ay) (hv : EA K W tv av) : SA K W (tAsg tv (gSub (tVar i) ty rSetL)) (aLset i ay av) := fun o S0 H0 S H σ env E Dc st lk q => by
 unfold aLset at q
 split at q
 ·rename_i x ds e
  refine hv o H0 S H σ env E.ax _ _ st.es q (fun v b S1 H1 g1 w1 r1 q1 => ?_) (lk.xl st)
  have st1 := st.mono g1 w1
  obtain ⟨vx, e1, rfl, ns, np, t⟩ := st1.es.sl i _ e
  generalize hx : H1 x = z at t
  cases t with
  | @lst xs _ t =>
   refine ⟨_, e1, hy o H0 S1 H1 σ env E.ax _ _ st1.es q1 (fun v2 b2 S2 H2 g2 w2 r2 q2 => ?_) (lk.xl st1)⟩
   have st2 := st1.mono g2 w2
   split at q2
   ·rename_i kk d ek
    obtain ⟨j, hj, q2⟩ := q2
    have r3 := r2.now w2 st2.es.kp
    rw [ek] at r3
    rw [rep_int r3]
    exact ⟨x, xs, kk, j, rfl, rfl, g2.rs x _ np hx, by rw [t.len]; exact hj, lk.nx _ _ S2 _ (st2.put e (.lst (RepL.set (Rep.same g2.st r1) j (RepL.same g2.st t)))) q2⟩
   ·exact q2.elim
 ·exact q.elim
end
end
local macro_rules | `(tactic| sleep 1) => `(tactic| dsimp only [slot, aVar, aC, aOp, ifB_t, ifB_f, aTest, aAnd, aOr, aNot, aAndV, aOrT, aOrV, aNotV, aIfE, aChain, aNil, aCons, aName, aGNil, aGCons, aGTup, aNext, aIf, aRet, aRetO, aRetN, aDrop, aAsg, aNew, aPar, aParN, aPar3, frz, aFz, aNever, aLoop, aFor, aCol, aLc, aYes, fAdd, fSub, fMul, fMod, fDiv, fPow, fLt, fLe, fGt, fGe, fI, fIc, fCatS, fLtS, eqD, fEq, fNe, fIsN, fNotN, aFn1, fNeg, fLen, fInt, fAbs, fAll, fAny, aFn2, fMax, truD, aTru, aIxL, aIxT, aIxQ, fIxS, stabs, aTup, aLst, aFix, B.solid, B.get, B.sub, aCat, aListOf, aTupOf, aONone, aOSome, aSlL, aRevL, aSortSet, aListAny, aListDK, aCopyD, aLenSet, aSortDK, aSortS, aRetNw, aMethN, aEi, aIQ, aDgN, aDget, aDgetN, fDin, fDnin, aDnew, aDput, fLenD, D.key, aFld, aProp, aMeth, aMeth0, putFD, aSetF, aMake, aMake0, aRaise, isIn, isBo, isS, isL, isT, isDi, isRow, isNo, knD, aIs, aIsRow, D.fl, fInF, fNinF, fInS, fEqY, fNeY, fEqP, fNeP, fInP, fNinP, aLcK, aDc, aIE, aIS, aTry, aHand, aXf, aXis, aIL, aICL, aIT, aIR1, aIR2, coe1, coes, aCall, aCall0, aApp, awipe, List.set, List.map, List.cons_append, List.nil_append, List.replicate, List.length, Nat.reduceSub, Nat.reduceAdd, aLc2, aSc, aSc2, aSortSt, aPop, aExt, aTget, fTin, fTnin, aTnew, aTput, aLenT, aCont, aBrk, aSortIt, aSortI, aSortDI, aSortST, fStr, aJoin, aSubO, aMakeK, aMethO, keysD, aOpO, aOpS, aLenO, aEqDO, aEqO, fEqS, fNinS, aCallN, fInPT, fNinPT, aSubX, aOpX, aClr, aListVals, fNinS0, aEqDV, aMethF, aForK, fSum, aLset, aLendMk, aEiT, aSlT, aCatT])
local macro_rules | `(tactic| sleep 3000) => `(tactic| try sleep 1)
local macro_rules | `(tactic| sleep 3001) => `(tactic| (try sleep 1; repeat (with_reducible refine go_seq ?_; try sleep 1)))
section
section
variable {P : Program} {w : World} {K : PySem.W.Frag} {mg : Str → Option Value} {base : Heap}
def spDrawA : ASp := fun bs Q _ => ∃ n : Int, bs = [.pool, .st (.int n)] ∧ 0 < n ∧ n < 1000000 ∧ ∀ d : Int, 0 ≤ d → d < n → Q (.int d)
theorem ok_drawA (DLdraw : Df K mg "_law_draw" sLdraw ["_law_pool_here", "_law_many"] fLdraw fdLdraw) (T : Bl mg) : FnOk P w K mg base CX0 1 fLdraw fdLdraw ["_law_pool_here", "_law_many"] (cSp K spDrawA) := (ok_draw DLdraw T).imp fun vs H Q E h => by
 obtain ⟨o, S, bs, Qa, Xa, wl, hp, _, ⟨n, rfl, n0, n1, q⟩, k1, _⟩ := h
 match vs, hp with
 | [v, u], .cons ⟨p, ho, hv⟩ (.cons hu .nil) =>
  subst ho hv
  rw [rep_int (show Rep K S u (.int n) from hu)]
  exact ⟨p, S, n, rfl, n0, n1, wl.2 p rfl, fun d S' H' P' g' d0 d1 => k1 (.int d) (.int d) S' H' (GrO.of g') ⟨P'.ss, fun p' e => by cases e; exact P'⟩ (.int d) (q d d0 d1)⟩
def spPickA : ASp := fun bs Q _ => ∃ ds : List D, (bs = [.pool, .st (.lst ds)] ∨ bs = [.pool, .st (.tup ds)]) ∧ 0 < ds.length ∧ ds.length < 1000 ∧ ∀ (i : Nat) d, ds[i]? = some d → Q d
theorem ok_pickA (DLpick : Df K mg "_law_pick" sLpick ["_law_pool_here", "_law_items"] fLpick fdLpick) (DLdraw : Df K mg "_law_draw" sLdraw ["_law_pool_here", "_law_many"] fLdraw fdLdraw) (GLdraw : FnOk P w K mg base CX0 1 fLdraw fdLdraw ["_law_pool_here", "_law_many"] (cSp K spDrawA)) (T : Bl mg) : FnOk P w K mg base CX0 2 fLpick fdLpick ["_law_pool_here", "_law_items"] (cSp K spPickA) := by
 refine DLpick.fn.ok scLpick (fun vs H Q E h => cSp_len (fun bs Q X h => by obtain ⟨ds, rfl | rfl, _⟩ := h <;> rfl) h) (fun cdv A outer s H vs Q E hr h => ?_)
 refine ⟨_, (pss_one (ps_ret (pe_ix ix_seq (pv 1) (pe_df DLdraw GLdraw (hr.mono (by decide)) (pa_cons (pv 0) (pa_cons (pe_callB call_len (by rfl) T.len (by decide +kernel) (pa_cons (pv 1) pa_nil)) pa_nil))) (fun _ _ => rfl)))), ?_⟩
 refine fn_A ((sa_ret (ea_ixQ (ea_var 1) (ea_call [] (el_cons (ea_var 0) (el_cons (ea_b1 rc_len (ea_var 1)) el_nil)))))) h fun bs Qa Xa h => ?_
 obtain ⟨ds, rfl | rfl, l0, l1, q⟩ := h
 ·sleep 3001
  refine ⟨_, rfl, by omega, by omega, fun d d0 d1 => ?_⟩
  sleep 3001
  have hd : d.toNat < ds.length := by omega
  exact ⟨ds[d.toNat], at_ofG (j := d.toNat) (by omega) (List.getElem?_eq_getElem hd), q _ _ (List.getElem?_eq_getElem hd)⟩
 ·sleep 3001
  refine ⟨_, rfl, by omega, by omega, fun d d0 d1 => ?_⟩
  sleep 3001
  have hd : d.toNat < ds.length := by omega
  exact ⟨ds[d.toNat], at_ofG (j := d.toNat) (by omega) (List.getElem?_eq_getElem hd), q _ _ (List.getElem?_eq_getElem hd)⟩
def spNameA : ASp := fun bs Q _ => ∃ ts : List Str, bs = [.pool, .br (.lst (ts.map D.str))] ∧ ts.length < 26 ∧ ∀ z, NameOk z → z ∉ ts → Q (.str z)
theorem ok_nameA (DLname : Df K mg "_law_name" sLname ["_law_pool_here", "_law_taken"] fLname fdLname) (DLdraw : Df K mg "_law_draw" sLdraw ["_law_pool_here", "_law_many"] fLdraw fdLdraw) (T : Bl mg) : FnOk P w K mg base CX0 2 fLname fdLname ["_law_pool_here", "_law_taken"] (cSp K spNameA) := (ok_name DLname DLdraw T).imp fun vs H Q E h => by
 obtain ⟨o, S, bs, Qa, Xa, wl, hp, _, ⟨ts, rfl, l1, q⟩, k1, _⟩ := h
 match vs, hp with
 | [v, u], .cons ⟨p, ho, hv⟩ (.cons hu .nil) =>
  subst ho hv
  obtain ⟨a, xs, rfl, h1, h2⟩ := rep_lst (show Rep K (offp (some p) H) u (.lst (ts.map D.str)) from hu)
  rw [repL_strs h2] at h1
  have nap : a ≠ p := fun e => by
   unfold offp at h1
   rw [e, if_pos rfl] at h1
   cases h1
  have h3 : H a = some (.lst (ts.map V.str)) := off_same (fun _ _ _ h => h) _ _ h1
  exact ⟨p, a, S, ts, rfl, wl.2 p rfl, h3, nap, l1, fun z S' H' hz hn P' g' => k1 (.str z) (.str z) S' H' (GrO.of g') ⟨P'.ss, fun p' e => by cases e; exact P'⟩ (.str z) (q z hz hn)⟩
def spNamesA : ASp := fun bs Q _ => ∃ n : Int, bs = [.pool, .st (.int n)] ∧ 0 ≤ n ∧ n ≤ 26 ∧ ∀ zs : List Str, zs.length = n.toNat → zs.Nodup → (∀ z ∈ zs, NameOk z) → Q (.lst (zs.map D.str))
theorem ok_namesA (DLnames : Df K mg "_law_names" sLnames ["_law_pool_here", "_law_many"] fLnames fdLnames) (DLname : Df K mg "_law_name" sLname ["_law_pool_here", "_law_taken"] fLname fdLname) (GLname : FnOk P w K mg base CX0 2 fLname fdLname ["_law_pool_here", "_law_taken"] (cSp K spNameA)) (T : Bl mg) : FnOk P w K mg base CX0 3 fLnames fdLnames ["_law_pool_here", "_law_many"] (cSp K spNamesA) := by
 refine DLnames.fn.ok scLnames (fun vs H Q E h => cSp_len (fun bs Q X h => by obtain ⟨ds, rfl, _⟩ := h; rfl) h) (fun cdv A outer s H vs Q E hr h => ?_)
 refine ⟨_, (pss_cons (ps_set (i := 2) scLnames.nd rfl (Or.inl rfl) (pe_lst pa_nil))
   (pss_cons (ps_for PassesOwn.never rfl (pi_range1 (by rfl) T.range (pa_cons (pv 1) pa_nil)) (pg_name (i := 3) scLnames.nd rfl (Or.inl rfl)) (pss_one (ps_expr (pe_bm PySem.F.plainAttrs_list PySem.F.slot_list_append PySem.F.type_list_append mt_append (pv 2) (pa_cons (pe_df DLname GLname (hr.mono (by decide)) (pa_cons (pv 0) (pa_cons (pv 2) pa_nil))) pa_nil)))))
   (pss_one (ps_ret (pv 2))))), ?_⟩
 refine fn_A ((sa_seq (sa_new 2 (en_lst el_nil))
   (sa_seq (sa_for (ei_range1 (ea_var 1)) (ga_name (js := [3]) 3) (sa_app 2 (ea_call [false, true] (el_cons (ea_var 0) (el_cons (ea_var 2) el_nil)))))
   (sa_retO 2)))) h fun bs Qa Xa h => ?_
 obtain ⟨n, rfl, n0, n1, q⟩ := h
 sleep 3001
 intro a
 refine ⟨⟨by omega, by omega⟩, ?_⟩
 refine aLoop_inv (fun i env => ∃ u zs, env = [some .pool, some (.st (.int n)), some (.ow a (.lst (zs.map D.str))), u] ∧ zs.length = i ∧ zs.Nodup ∧ ∀ z ∈ zs, NameOk z) ⟨_, [], rfl, rfl, List.nodup_nil, fun z h => by simp at h⟩ ?_ ?_
 ·rintro i x env R hx ⟨u, zs, rfl, hl, nd, ok⟩ hR
  have hi : i < n.toNat := by
   have := (List.getElem?_eq_some_iff.mp hx).1
   simpa [rngB] using this
  obtain ⟨v, rfl⟩ : ∃ v : Int, x = .st (.int v) := by
   unfold rngB at hx
   rw [List.getElem?_map] at hx
   obtain ⟨y, _, e⟩ := Option.map_eq_some_iff.mp hx
   exact ⟨_, e.symm⟩
  sleep 3001
  refine ⟨zs, rfl, by omega, fun z hz hn => ⟨by rw [List.length_map]; omega, hR _ ⟨some (.st (.int v)), zs ++ [z], ?_, by simp [hl], ?_, ?_⟩⟩⟩
  ·simp
  ·rw [List.nodup_append]
   exact ⟨nd, by simp, fun x hx y hy e => hn (by rw [List.mem_singleton.mp hy] at e; rw [← e]; exact hx)⟩
  ·intro y hy
   rcases List.mem_append.mp hy with h | h
   ·exact ok y h
   ·rw [List.mem_singleton.mp h]; exact hz
 ·rintro env ⟨u, zs, rfl, hl, nd, ok⟩
  sleep 3001
  exact q zs (by rw [hl]; simp [rngB]) nd ok
end
end
section
/-- a thing of a built-in kind -/
structure Thg (d : D) : Prop where
 k : knD d ≠ none
 s : ∀ z, d = .str z → z.length ≤ sizeLine
def dBtw (lo hi : Int) : D → Bool
 | .int i => decide (lo ≤ i) && decide (i ≤ hi)
 | _ => false
def dNm : D → Bool
 | .str z => nmB z
 | _ => false
def dRow : D → Bool
 | .lst _ => true
 | .tup _ => true
 | _ => false
theorem thg_str {z : Str} (h : NameOk z) : Thg (.str z) := ⟨by simp [knD], fun y e => by cases e; exact Nat.le_trans h.2.1 (by decide)⟩
theorem thg_int (i : Int) : Thg (.int i) := ⟨by simp [knD], fun y e => by cases e⟩
theorem thg_lst (ds : List D) : Thg (.lst ds) := ⟨by simp [knD], fun y e => by cases e⟩
theorem thg_tup (ds : List D) : Thg (.tup ds) := ⟨by simp [knD], fun y e => by cases e⟩
section
variable {K : PySem.W.Frag}
theorem kd_rep {H : Hp} {v : V} {d : D} (r : Rep K H v d) (t : Thg d) : ∃ n, Kd K H v n := by
 cases e : knD d with
 | none => exact absurd e t.k
 | some n =>
  obtain ⟨h1, h2⟩ := kn_ty r e
  refine ⟨n, h1, h2, fun z hz => ?_⟩
  subst hz
  cases r with
  | str => exact t.s z rfl
  | opq => exact absurd rfl t.k
  | kt => exact absurd rfl t.k
theorem btw_rep {H : Hp} {v : V} {d : D} {lo hi : Int} (r : Rep K H v d) (t : Thg d) : btw lo hi v = dBtw lo hi d := by
 cases r <;> first | rfl | exact absurd rfl t.k
theorem nm_rep {H : Hp} {v : V} {d : D} (r : Rep K H v d) (t : Thg d) : isNm v = dNm d := by
 cases r <;> first | rfl | exact absurd rfl t.k
end
section
variable {P : Program} {w : World} {K : PySem.W.Frag} {mg : Str → Option Value} {base : Heap}
def spBtwA : ASp := fun bs Q _ => ∃ (d : D) (lo hi : Int), bs = [.st d, .st (.int lo), .st (.int hi)] ∧ Thg d ∧ Q (.bl (dBtw lo hi d))
theorem ok_btwA (DIs_between : Df K mg "is_between" sIs_between ["thing", "low", "high"] fIs_between fdIs_between) (DIs_integer : Df K mg "is_integer" sIs_integer ["thing"] fIs_integer fdIs_integer) (T : Bl mg) : FnOk P w K mg base CX0 2 fIs_between fdIs_between ["thing", "low", "high"] (cSp K spBtwA) := (ok_is_between DIs_between DIs_integer T).imp fun vs H Q E h => by
 obtain ⟨o, S, bs, Qa, Xa, wl, hp, _, ⟨d, lo, hi, rfl, td, q⟩, k1, _⟩ := h
 match vs, hp with
 | [v, u, u2], .cons hv (.cons hu (.cons hu2 .nil)) =>
  have hv : Rep K S v d := hv
  rw [rep_int (show Rep K S u (.int lo) from hu), rep_int (show Rep K S u2 (.int hi) from hu2)]
  obtain ⟨n, hk⟩ := kd_rep (Rep.same wl.1 hv) td
  refine ⟨v, n, lo, hi, rfl, hk, ?_⟩
  rw [btw_rep hv td]
  exact k1 _ _ S H GrO.refl wl (.bl _) q
def spNmA : ASp := fun bs Q _ => ∃ d : D, bs = [.st d] ∧ Thg d ∧ Q (.bl (dNm d))
theorem ok_nmA (DIs_name : Df K mg "is_name" sIs_name ["thing"] fIs_name fdIs_name) (T : Bl mg) (C : Cst mg) : FnOk P w K mg base CX0 1 fIs_name fdIs_name ["thing"] (cSp K spNmA) := (ok_is_name DIs_name T C).imp fun vs H Q E h => by
 obtain ⟨o, S, bs, Qa, Xa, wl, hp, _, ⟨d, rfl, td, q⟩, k1, _⟩ := h
 match vs, hp with
 | [v], .cons hv .nil =>
  have hv : Rep K S v d := hv
  obtain ⟨n, hk⟩ := kd_rep (Rep.same wl.1 hv) td
  refine ⟨v, n, rfl, hk, fun H' s => ?_⟩
  rw [nm_rep hv td]
  exact k1 _ _ S H' (GrO.same s) (wl.same s) (.bl _) q
def spRowA : ASp := fun bs Q _ => ∃ d : D, (bs = [.st d] ∨ bs = [.br d]) ∧ Thg d ∧ Q (.bl (dRow d))
theorem row_kn {d : D} {n : String} (h : knD d = some n) : (n == "list" || n == "tuple") = dRow d := by
 cases d <;> simp [knD] at h <;> subst h <;> simp [dRow]
theorem ok_rowA (DIs_row : Df K mg "is_row" sIs_row ["thing"] fIs_row fdIs_row) (T : Bl mg) : FnOk P w K mg base CX0 1 fIs_row fdIs_row ["thing"] (cSp K spRowA) := (ok_is_row DIs_row T).imp fun vs H Q E h => by
 obtain ⟨o, S, bs, Qa, Xa, wl, hp, _, ⟨d, hb, td, q⟩, k1, _⟩ := h
 have fin : ∀ v, Rep K H v d → spIsRow K [v] H Q E := fun v hv => by
  cases e : knD d with
  | none => exact absurd e td.k
  | some n =>
   obtain ⟨h1, h2⟩ := kn_ty hv e
   refine ⟨v, n, rfl, ⟨h1, h2, fun z hz => ?_⟩, fun H' s => ?_⟩
   ·subst hz
    cases hv with
    | str => exact td.s z rfl
    | opq => cases e
    | kt => cases e
   ·rw [row_kn e]
    exact k1 _ _ S H' (GrO.same s) (wl.same s) (.bl _) q
 rcases hb with rfl | rfl
 ·match vs, hp with
  | [v], .cons hv .nil => exact fin v (Rep.same wl.1 hv)
 ·match vs, hp with
  | [v], .cons hv .nil => exact fin v (Rep.same (off_same fun _ _ _ h => h) (show Rep K (offp o H) v d from hv))
end
end
section
structure Cm (mg : Str → Option Value) : Prop where
 mw : ∃ t, mg "MOST_WORDS" = some (.int 10 t)
 mc : ∃ t, mg "MOST_COST" = some (.int 1000 t)
def zD (zs : ZZ) : List (Key × D) := zs.map fun p => (Sum.inr p.1, D.str p.2)
theorem zD_keys (zs : ZZ) : (zD zs).map (·.1) = (zs.map (·.1)).map Sum.inr := by
 unfold zD
 rw [List.map_map, List.map_map]
 rfl
theorem zD_val {zs : ZZ} (nd : (zs.map (·.1)).Nodup) {p : Str × Str} (h : p ∈ zs) : valD (zD zs) (Sum.inr p.1) = some (.str p.2) := by
 refine valD_mem ?_ (List.mem_map.mpr ⟨p, h, rfl⟩)
 rw [zD_keys]
 exact List.pairwise_map.mpr (nd.imp fun {a b} n e => n (Sum.inr.inj e))
def senF (n : Str) (p c : Int) (zs : ZZ) : List (Str × D) := [("title", .str n), ("place", .int p), ("fee", .int c), ("shows", .dK (zD (showZ zs)))]
def lokF (n : Str) (p c : Int) (ws : List Str) : List (Str × D) := [("title", .str n), ("place", .int p), ("fee", .int c), ("stops", .lst ((ws.mergeSort leS).map D.str))]
theorem dNm_ok {z : Str} (h : NameOk z) : dNm (.str z) = true := (nmB_iff z).mpr h
section
variable {K : PySem.W.Frag} {W : WX} {ta tb tc te : TE} {aa ab ac ae : AE} {us : TS} {bs : AS}
def aSup (K : PySem.W.Frag) (C : Addr) (a b c : AE) (r : AS) (E : AEnds) (env : AEnv) : Prop := match slot env 0 with
 | some (.ow s (.obj C' [])) => C' = C ∧ Kl K C ∧ a E.ax env fun x => b E.ax env fun y => c E.ax env fun z => match x, y, z with
  | .st d1, .st d2, .st d3 => r E (env.set 0 (some (.ow s (.obj C [("title", d1), ("place", d2), ("fee", d3)]))))
  | _, _, _ => False
 | _ => False
theorem sa_sup {C : Addr} (ha : EA K W ta aa) (hb : EA K W tb ab) (hc : EA K W tc ac) (hu : SA K W us bs) : SA K W (tSupO C (spIInit K) (tCons ta (tCons tb (tCons tc tNil))) us) (aSup K C aa ab ac bs) := fun o S0 H0 S H σ env E Dc st lk q => by
 unfold aSup at q
 split at q
 ·rename_i s C' e
  obtain ⟨rfl, kl, q⟩ := q
  obtain ⟨v, e1, rfl, ns, np, t⟩ := st.es.sl 0 _ e
  generalize hx : H s = z at t
  cases t with
  | @ins _ dx fs _ t1 t2 =>
   have hf : fs = [] := by
    cases fs with
    | nil => rfl
    | cons _ _ => simp at t1
   subst hf
   refine ⟨s, dx, [], e1, hx, ?_⟩
   refine ha o H0 S H σ env E.ax _ _ st.es q (fun v1 b1 S1 H1 g1 w1 r1 q1 => ?_) (lk.xl st)
   have st1 := st.mono g1 w1
   refine hb o H0 S1 H1 σ env E.ax _ _ st1.es q1 (fun v2 b2 S2 H2 g2 w2 r2 q2 => ?_) (lk.xl st1)
   have st2 := st1.mono g2 w2
   refine hc o H0 S2 H2 σ env E.ax _ _ st2.es q2 (fun v3 b3 S3 H3 g3 w3 r3 q3 => ?_) (lk.xl st2)
   have st3 := st2.mono g3 w3
   split at q3
   ·rename_i d1 d2 d3
    have hx3 := g3.rs s _ np (g2.rs s _ np (g1.rs s _ np hx))
    refine ⟨s, dx, C', v1, v2, v3, rfl, hx3, kl, ?_⟩
    have i1 : iF v1 v2 v3 = [(("title" : Str), v1), (("place" : Str), v2), (("fee" : Str), v3)] := by
     unfold iF
     simp only [putF, fn1, fn2, fn3, if_false]
    rw [i1]
    refine hu o S0 H0 S3 _ σ _ E Dc (st3.put (u := .ins C' dx [(("title" : Str), v1), (("place" : Str), v2), (("fee" : Str), v3)]) e ?_) lk q3
    exact .ins rfl (.cons ((r1.mono g2).mono g3) (.cons (r2.mono g3) (.cons r3 .nil)))
   ·exact q3.elim
 ·exact q.elim
/-- len(set(x)) -/
theorem ea_lenSet {P : Program} {w : World} (ha : EA K W ta aa) : EA K W (tCB (fun xs H Q => ∃ (a : Addr) (ks : List Key), xs = [.ref a] ∧ H a = some (SetKo P w a ks) ∧ ks.length ≤ 1000 ∧ Q (.int (ks.length : Int)) H)
  (tCons (tCB (fun xs H Q => ∃ (l : Addr) (zs : List Str), xs = [.ref l] ∧ SqL K H l (zs.map V.str) ∧ zs.length ≤ 100 ∧ ∀ a, H a = none → Q (.ref a) (upd H a (SetKo P w a ((insAll zs).map Sum.inr)))) (tCons ta tNil)) tNil)) (aLenSet aa) := fun o H0 S H σ env ax Q Qc es q k xl =>
 ha o H0 S H σ env ax _ _ es q (fun v b S1 H1 g1 w1 r1 q1 => by
  have rn := r1.now w1 (g1.kp es.kp)
  have fin : ∀ (zs : List Str), zs.length ≤ 100 → Q (.st (.int ((insAll zs).length : Nat))) → ∀ s, H1 s = none → ∃ (a : Addr) (ks : List Key), ([.ref s] : List V) = [.ref a] ∧ upd H1 s (SetKo P w s ((insAll zs).map Sum.inr)) a = some (SetKo P w a ks) ∧ ks.length ≤ 1000 ∧ Qc (.int (ks.length : Int)) (upd H1 s (SetKo P w s ((insAll zs).map Sum.inr))) := fun zs h1 q s hs => by
   have := insAll_len zs
   refine ⟨s, _, rfl, upd_same, by rw [List.length_map]; omega, ?_⟩
   rw [List.length_map]
   exact k _ (.st (.int _)) S1 _ (g1.trans (GrO.lay hs)) (w1.put (w1.1.free hs) (w1.np hs)) (BR.ofSc rfl) q
  split at q1
  ·rename_i ds e
   obtain ⟨zs, rfl, h1, q1⟩ := q1
   rw [e] at rn
   obtain ⟨a, xs, rfl, h3, h4⟩ := rep_lst rn
   rw [repL_strs h4] at h3
   exact ⟨a, zs, rfl, SqL.of h3, h1, fin zs h1 q1⟩
  ·exact q1.elim) xl
end
section
variable {P : Program} {w : World} {K : PySem.W.Frag} {mg : Str → Option Value} {base : Heap}
abbrev sCheck_head : Stmt := topS 20
abbrev nCheck_head : List Str := ["name", "post"]
theorem scCheck_head : FnScope nCheck_head ["name", "post"] (defScope sCheck_head) := by sleep 2000
def spHeadA : ASp := fun bs Q _ => ∃ (n : Str) (p : Int), bs = [.st (.str n), .st (.int p)] ∧ NameOk n ∧ (0 ≤ p ∧ p ≤ 1) ∧ Q .non
theorem ok_headA (DCheck_head : Df K mg "check_head" sCheck_head ["name", "post"] fCheck_head fdCheck_head) (DIs_name : Df K mg "is_name" sIs_name ["thing"] fIs_name fdIs_name) (GIs_name : FnOk P w K mg base CX0 1 fIs_name fdIs_name ["thing"] (cSp K spNmA)) (DIs_between : Df K mg "is_between" sIs_between ["thing", "low", "high"] fIs_between fdIs_between) (GIs_between : FnOk P w K mg base CX0 2 fIs_between fdIs_between ["thing", "low", "high"] (cSp K spBtwA)) : FnOk P w K mg base CX0 3 fCheck_head fdCheck_head ["name", "post"] (cSp K spHeadA) := by
 refine DCheck_head.fn.ok scCheck_head (fun vs H Q E h => cSp_len (fun bs Q X h => by obtain ⟨n, p, rfl, _⟩ := h; rfl) h) (fun cdv A outer s H vs Q E hr h => ?_)
 refine ⟨_, (pss_cons (ps_if (pt_not (pt_val (pe_df DIs_name GIs_name (hr.mono (by decide)) (pa_cons (pv 0) pa_nil)))) (pss_one ps_never) pss_nil)
   (pss_one (ps_if (pt_not (pt_val (pe_df DIs_between GIs_between (hr.mono (by decide)) (pa_cons (pv 1) (pa_cons pe_int (pa_cons pe_int pa_nil)))))) (pss_one ps_never) pss_nil))), ?_⟩
 refine fn_A ((sa_seq (sa_if (et_not (et_B (ea_call [] (el_cons (ea_var 0) el_nil)))) sa_never sa_next)
   (sa_if (et_not (et_B (ea_call [] (el_cons (ea_var 1) (el_cons ea_cI (el_cons ea_cI el_nil)))))) sa_never sa_next))) h fun bs Qa Xa h => ?_
 obtain ⟨n, p, rfl, hn, hp, q⟩ := h
 sleep 3001
 refine ⟨_, rfl, thg_str hn, ?_⟩
 rw [dNm_ok hn]
 sleep 3001
 refine ⟨_, _, _, rfl, thg_int p, ?_⟩
 rw [show dBtw 0 1 (.int p) = true by simp [dBtw, hp.1, hp.2]]
 exact q
abbrev sCheck_cost : Stmt := topS 21
abbrev nCheck_cost : List Str := ["cost"]
theorem scCheck_cost : FnScope nCheck_cost ["cost"] (defScope sCheck_cost) := by sleep 2000
def spCostA : ASp := fun bs Q _ => ∃ c : Int, bs = [.st (.int c)] ∧ (1 ≤ c ∧ c ≤ 1000) ∧ Q .non
theorem ok_costA (DCheck_cost : Df K mg "check_cost" sCheck_cost ["cost"] fCheck_cost fdCheck_cost) (DIs_between : Df K mg "is_between" sIs_between ["thing", "low", "high"] fIs_between fdIs_between) (GIs_between : FnOk P w K mg base CX0 2 fIs_between fdIs_between ["thing", "low", "high"] (cSp K spBtwA)) (C : Cm mg) : FnOk P w K mg base CX0 3 fCheck_cost fdCheck_cost ["cost"] (cSp K spCostA) := by
 obtain ⟨t, hMC⟩ := C.mc
 refine DCheck_cost.fn.ok scCheck_cost (fun vs H Q E h => cSp_len (fun bs Q X h => by obtain ⟨n, rfl, _⟩ := h; rfl) h) (fun cdv A outer s H vs Q E hr h => ?_)
 refine ⟨_, (pss_one (ps_if (pt_not (pt_val (pe_df DIs_between GIs_between (hr.mono (by decide)) (pa_cons (pv 0) (pa_cons pe_int (pa_cons (pe_glob (v := .int 1000) (by rfl) hMC ⟨_, rfl⟩) pa_nil)))))) (pss_one ps_never) pss_nil)), ?_⟩
 refine fn_A ((sa_if (et_not (et_B (ea_call [] (el_cons (ea_var 0) (el_cons ea_cI (el_cons ea_cI el_nil)))))) sa_never sa_next)) h fun bs Qa Xa h => ?_
 obtain ⟨c, rfl, hc, q⟩ := h
 sleep 3001
 refine ⟨_, _, _, rfl, thg_int c, ?_⟩
 rw [show dBtw 1 1000 (.int c) = true by simp [dBtw, hc.1, hc.2]]
 exact q
abbrev sAre_sights : Stmt := topS 22
abbrev nAre_sights : List Str := ["thing", "word"]
theorem scAre_sights : FnScope nAre_sights ["thing"] (defScope sAre_sights) := by sleep 2000
def spAreSA : ASp := fun bs Q _ => ∃ zs : ZZ, bs = [.st (.dK (zD zs))] ∧ goodZ zs ∧ Q (.bl true)
theorem ok_areSA (DAre_sights : Df K mg "are_sights" sAre_sights ["thing"] fAre_sights fdAre_sights) (DIs_name : Df K mg "is_name" sIs_name ["thing"] fIs_name fdIs_name) (GIs_name : FnOk P w K mg base CX0 1 fIs_name fdIs_name ["thing"] (cSp K spNmA)) (T : Bl mg) (Tdict : mg "dict" = none) (C : Cm mg) : FnOk P w K mg base CX0 2 fAre_sights fdAre_sights ["thing"] (cSp K spAreSA) := by
 obtain ⟨t, hMW⟩ := C.mw
 refine DAre_sights.fn.ok scAre_sights (fun vs H Q E h => cSp_len (fun bs Q X h => by obtain ⟨n, rfl, _⟩ := h; rfl) h) (fun cdv A outer s H vs Q E hr h => ?_)
 refine ⟨_, (pss_cons (ps_if (PW.pt (pw_or (pt_not (pt_val (pe_callB call_isi (by rfl) T.isinstance (by decide +kernel) (pa_cons (pv 0) (pa_cons (pe_bltn (v := .ty "dict") (by rfl) Tdict (by decide +kernel) rfl) pa_nil))))) (pw_or1 (pt_not (pt_chain op_le op_le pe_int (pe_callB cr_lenRd (by rfl) T.len (by decide +kernel) (pa_cons (pv 0) pa_nil)) (pe_glob (v := .int 10) (by rfl) hMW ⟨_, rfl⟩)))))) (pss_one (ps_ret pe_bl)) pss_nil)
   (pss_one (ps_ret (pe_callB (cr_all rfl) (by rfl) T.all (by decide +kernel) (pa_cons (pe_lockR (pe_lc (own := [("word", 1)]) rfl scAre_sights.nd (pi_keysR (pv 0)) (blkOk_by (own := [("word", 1)]) (N := nAre_sights) (sc := defScope sAre_sights) (by decide +kernel)) (fun _ _ _ _ _ => (pg_name (i := 1) scAre_sights.nd rfl (Or.inl rfl))) (fun _ _ _ _ _ => pts_nil) (fun _ _ _ _ _ => (pe_and (pe_df DIs_name GIs_name (hr.mono (by decide)) (pa_cons (pv 1) pa_nil)) (pe_one (pe_df DIs_name GIs_name (hr.mono (by decide)) (pa_cons (pe_dget (hu1 hr) (pv 0) (pv 1) (fun _ _ => rfl)) pa_nil))))))) pa_nil))))), ?_⟩
 refine fn_A ((sa_seq (sa_if (et_or (et_not (et_B (ea_isB is_D (ea_var 0)))) (et_not (et_test (ea_chain r2_le r2_le ea_cI (ea_b1 rc_lenD (ea_var 0)) ea_cI)))) (sa_ret ea_cB) sa_next)
   (sa_ret (ea_b1 rc_all (ea_fix (en_lcK (ep_var 0) (ga_name (js := [1]) 1) et_yes (ea_and (ea_call [] (el_cons (ea_var 1) el_nil)) (ea_call [] (el_cons (ea_dget (ea_var 0) (ea_var 1)) el_nil))))))))) h fun bs Qa Xa h => ?_
 obtain ⟨zs, rfl, ⟨znd, zok, z1, z2⟩, q⟩ := h
 have hl : (zD zs).length = zs.length := List.length_map ..
 sleep 3001
 rw [hl, decide_eq_true (show (1 : Int) ≤ (zs.length : Int) by omega)]
 sleep 3001
 rw [decide_eq_true (show (zs.length : Int) ≤ 10 by omega)]
 sleep 3001
 refine ⟨by omega, ?_⟩
 have e0 : ((zD zs).map fun kv => B.st (kD kv.1)) = zs.map fun p => B.st (.str p.1) := by
  unfold zD
  rw [List.map_map]
  rfl
 rw [e0]
 refine aCol_map (fun _ => D.bl true) (fun p hp R hR => ?_) ?_
 ·sleep 3001
  refine ⟨_, rfl, thg_str (zok p hp).1, ?_⟩
  rw [dNm_ok (zok p hp).1]
  sleep 3001
  refine ⟨_, zD_val znd hp, _, rfl, thg_str (zok p hp).2, ?_⟩
  rw [dNm_ok (zok p hp).2]
  exact hR
 ·sleep 3001
  refine ⟨zs.map fun _ => true, by rw [List.map_map]; rfl, ?_⟩
  rw [show (zs.map fun _ => true).all id = true by simp]
  exact q
abbrev sAre_names : Stmt := topS 7
abbrev nAre_names : List Str := ["thing", "item"]
theorem scAre_names : FnScope nAre_names ["thing"] (defScope sAre_names) := by sleep 2000
def spAreNA : ASp := fun bs Q _ => ∃ ws : List Str, bs = [.st (.lst (ws.map D.str))] ∧ (∀ z ∈ ws, NameOk z) ∧ ws.length ≤ 1000 ∧ Q (.bl true)
theorem ok_areNA (DAre_names : Df K mg "are_names" sAre_names ["thing"] fAre_names fdAre_names) (DIs_row : Df K mg "is_row" sIs_row ["thing"] fIs_row fdIs_row) (GIs_row : FnOk P w K mg base CX0 1 fIs_row fdIs_row ["thing"] (cSp K spRowA)) (DIs_name : Df K mg "is_name" sIs_name ["thing"] fIs_name fdIs_name) (GIs_name : FnOk P w K mg base CX0 1 fIs_name fdIs_name ["thing"] (cSp K spNmA)) (T : Bl mg) : FnOk P w K mg base CX0 2 fAre_names fdAre_names ["thing"] (cSp K spAreNA) := by
 refine DAre_names.fn.ok scAre_names (fun vs H Q E h => cSp_len (fun bs Q X h => by obtain ⟨n, rfl, _⟩ := h; rfl) h) (fun cdv A outer s H vs Q E hr h => ?_)
 refine ⟨_, (pss_one (ps_ret (pe_and (pe_df DIs_row GIs_row (hr.mono (by decide)) (pa_cons (pv 0) pa_nil)) (pe_one (pe_callB (cr_all rfl) (by rfl) T.all (by decide +kernel) (pa_cons (pe_lc (own := [("item", 1)]) rfl scAre_names.nd (pi_list (pv 0)) (blkOk_by (own := [("item", 1)]) (N := nAre_names) (sc := defScope sAre_names) (by decide +kernel)) (fun _ _ _ _ _ => (pg_name (i := 1) scAre_names.nd rfl (Or.inl rfl))) (fun _ _ _ _ _ => pts_nil) (fun _ _ _ _ _ => (pe_df DIs_name GIs_name (hr.mono (by decide)) (pa_cons (pv 1) pa_nil)))) pa_nil)))))), ?_⟩
 refine fn_A ((sa_ret (ea_and (ea_call [] (el_cons (ea_var 0) el_nil)) (ea_b1 rc_all (ea_fix (en_lc (ec_list (ea_var 0)) (ga_name (js := [1]) 1) et_yes (ea_call [] (el_cons (ea_var 1) el_nil)))))))) h fun bs Qa Xa h => ?_
 obtain ⟨ws, rfl, ok, l1, q⟩ := h
 sleep 3001
 refine ⟨_, .inl rfl, thg_lst _, ?_⟩
 unfold dRow
 sleep 3001
 refine ⟨by rw [List.length_map, List.length_map]; exact l1, ?_⟩
 rw [List.map_map]
 refine aCol_map (fun _ => D.bl true) (fun z hz R hR => ?_) ?_
 ·unfold Function.comp
  sleep 3001
  refine ⟨_, rfl, thg_str (ok z hz), ?_⟩
  rw [dNm_ok (ok z hz)]
  exact hR
 ·sleep 3001
  refine ⟨ws.map fun _ => true, by rw [List.map_map]; rfl, ?_⟩
  rw [show (ws.map fun _ => true).all id = true by simp]
  exact q
abbrev sSensor_init : Stmt := inClass (topS 24) 0
abbrev nSensor_init : List Str := ["self", "name", "post", "sights", "cost", "word"]
theorem csS : CScope nSensor_init ["self", "name", "post", "sights", "cost"] (defScope sSensor_init) := ⟨rfl, rfl, rfl, by decide +kernel, rfl, by decide +kernel, by decide +kernel, rfl, by decide +kernel⟩
structure NDx (N : List Str) : Prop where
 nd : N.Nodup
theorem scSensor_init : NDx nSensor_init := ⟨by decide +kernel⟩
def spSenI : ISp := fun bs Q _ => ∃ (n : Str) (p c : Int) (zs : ZZ), bs = [.st (.str n), .st (.int p), .st (.dK (zD zs)), .st (.int c)] ∧ NameOk n ∧ (0 ≤ p ∧ p ≤ 1) ∧ goodZ zs ∧ (1 ≤ c ∧ c ≤ 1000) ∧ Q (senF n p c zs)
theorem ok_senI {f cda cc CS g : Addr} {fdg : FuncData} {oc doc pm ct : Value} {od : Option Addr} {osl : Array (Option Value)} (lk : K.lookup f = some ⟨oc, od, .func (PySem.W.fnX "__init__" "Sensor.__init__" (defArgs sSensor_init) (defBody sSensor_init) (defScope sSensor_init) [("__class__", cc)] .none .none doc pm none (.ref cda) ct), osl⟩) (hcd : PySem.W.codeIn K (.ref cda) "Sensor.__init__" = true)
  (TX : SupTxt P K mg f cda cc CS) (kl : Kl K CS) (hsub : PySem.W.mroIn K CS (.ref CS) = some true) (hm : PySem.W.ks_superIn K CS CS "__init__" = some (some (.ref g))) (hfi : PySem.W.fnIn K g = true) (hti : PySem.W.typeIn K (.ref g) = some (.type "function"))
  (Gi : FnOk P w K mg base CX0 1 g fdg ["self", "name", "post", "cost"] (spIInit K)) (bi : Binds K fdg ["self", "name", "post", "cost"] []) (DCheck_head : Df K mg "check_head" sCheck_head ["name", "post"] fCheck_head fdCheck_head) (GCheck_head : FnOk P w K mg base CX0 3 fCheck_head fdCheck_head ["name", "post"] (cSp K spHeadA)) (DCheck_cost : Df K mg "check_cost" sCheck_cost ["cost"] fCheck_cost fdCheck_cost) (GCheck_cost : FnOk P w K mg base CX0 3 fCheck_cost fdCheck_cost ["cost"] (cSp K spCostA)) (DAre_sights : Df K mg "are_sights" sAre_sights ["thing"] fAre_sights fdAre_sights) (GAre_sights : FnOk P w K mg base CX0 2 fAre_sights fdAre_sights ["thing"] (cSp K spAreSA)) (T : Bl mg) :
  FnOk P w K mg base CX0 5 f (PySem.W.fnX "__init__" "Sensor.__init__" (defArgs sSensor_init) (defBody sSensor_init) (defScope sSensor_init) [("__class__", cc)] .none .none doc pm none (.ref cda) ct) ["self", "name", "post", "sights", "cost"] (cIn K CS spSenI) := by
 obtain ⟨cl, cld, csl, hcell⟩ := TX.cell
 refine fn_supC (N := nSensor_init) lk hcd hcell csS (fun vs H Q E h => cIn_len (n := 4) (fun bs Q X h => by obtain ⟨n, p, c, zs, rfl, _⟩ := h; rfl) h) (fun A outer s H vs Q E hr h => ?_)
 have hX : SupX (scx CX0 P w K mg base nSensor_init "Sensor.__init__" (defScope sSensor_init) f cda cc A outer s H E) f cda cc :=
  ⟨rfl, rfl, cf_keep _ _ _ csS.nown (by simp [List.lookup]), rfl, rfl, rfl, rfl⟩
 refine ⟨_, pat_cons (ps_expr (pe_df DCheck_head GCheck_head (hr.mono (by decide)) (pa_cons (pv 1) (pa_cons (pv 2) pa_nil))))
  (pat_cons (ps_if (pt_not (pt_val (pe_df DAre_sights GAre_sights (hr.mono (by decide)) (pa_cons (pv 3) pa_nil)))) (pss_one ps_never) pss_nil)
  (pat_cons (ps_expr (pe_df DCheck_cost GCheck_cost (hr.mono (by decide)) (pa_cons (pv 4) pa_nil)))
  (pat_supO TX hX hsub hm hfi hti Gi (hr.mono (by decide)) bi (pa_cons (pv 1) (pa_cons (pv 2) (pa_cons (pv 4) pa_nil)))
  (pat_of (pss_one (ps_fld (pv 0) (pe_dc (own := [("word", 5)]) rfl scSensor_init.nd (pi_list (pe_callB (call_sortedD rfl) (by rfl) T.sorted (by decide +kernel) (pa_cons (pv 3) pa_nil))) (blkOk_by (own := [("word", 5)]) (N := nSensor_init) (sc := defScope sSensor_init) (by decide +kernel)) (fun _ _ _ _ _ => (pg_name (i := 5) scSensor_init.nd rfl (Or.inl rfl))) (fun _ _ _ _ _ => pts_nil) (fun _ _ _ _ _ => (pv 5)) (fun _ _ _ _ _ => (pe_dget (hu1 hr) (pv 3) (pv 5) (fun _ _ => rfl)))) rfl)))))), ?_⟩
 refine fn_I (sa_seq (sa_expr (ea_call [] (el_cons (ea_var 1) (el_cons (ea_var 2) el_nil)))) (sa_seq (sa_if (et_not (et_B (ea_call [] (el_cons (ea_var 3) el_nil)))) sa_never sa_next) (sa_seq (sa_expr (ea_call [] (el_cons (ea_var 4) el_nil))) (sa_sup (ea_var 1) (ea_var 2) (ea_var 4) (sa_fld 0 (ea_fix (en_dc (ec_list (ea_fix (en_sortDK (ea_var 3)))) (ga_name (js := [5]) 5) et_yes (ea_var 5) (ea_dget (ea_var 3) (ea_var 5))))))))) h fun x bs Qa Xa h => ?_
 obtain ⟨n, p, c, zs, rfl, hn, hp, gz, hc, q⟩ := h
 sleep 3001
 refine ⟨n, p, rfl, hn, hp, ?_⟩
 sleep 3001
 refine ⟨zs, rfl, gz, ?_⟩
 sleep 3001
 refine ⟨c, rfl, hc, ?_⟩
 unfold aSup
 sleep 3001
 refine ⟨rfl, kl, zs.map (·.1), zD_keys zs, by rw [List.length_map]; have := gz.2.2.2; omega, ?_⟩
 have hl : ((zs.map (·.1)).mergeSort leS).length = zs.length := by rw [List.length_mergeSort, List.length_map]
 sleep 3001
 refine ⟨by rw [List.length_map, List.length_map, hl]; have := gz.2.2.2; omega, ?_⟩
 rw [List.map_map]
 have e1 : ((zs.map (·.1)).mergeSort leS).map (fun y => ((Sum.inr y : Key), D.str ((look zs y).getD ""))) = zD (showZ zs) := by
  unfold zD showZ
  rw [List.map_map]
  rfl
 refine aColD_map (fun y : Str => ((Sum.inr y : Key), D.str ((look zs y).getD ""))) ?_ (fun y hy R hR => ?_) ?_
 ·rw [List.nil_append, List.map_map]
  refine List.pairwise_map.mpr (List.Pairwise.imp (fun {a b} h e => h (Sum.inr.inj e)) ((List.mergeSort_perm _ _).nodup_iff.mpr gz.1))
 ·have hm : y ∈ zs.map (·.1) := (List.mergeSort_perm _ _).mem_iff.mp hy
  obtain ⟨pr, hpr, rfl⟩ := List.mem_map.mp hm
  unfold Function.comp
  sleep 3001
  refine ⟨_, zD_val gz.1 hpr, ?_⟩
  rw [look_mem gz.1 hpr] at hR
  exact hR
 ·rw [List.nil_append, e1]
  refine ⟨kl.cl, kl.nS, by decide, _, rfl, ?_⟩
  exact q
theorem startF_eq {N : List Str} {vs : List V} (h : vs.length + 1 ≤ N.length) : NdefX.startF N vs [none] = L2.start N vs := by
 unfold NdefX.startF L2.start
 congr 1
 obtain ⟨k, hk⟩ : ∃ k, N.length - vs.length = k + 1 := ⟨N.length - vs.length - 1, by omega⟩
 rw [hk, List.replicate_succ]
 simp
theorem insAll_nd {zs : List Str} (nd : zs.Nodup) : (insAll zs).length = zs.length := (nodup_mem_perm (insAll_nodup zs) nd fun x => insAll_mem x zs).length_eq
abbrev sLock_init : Stmt := inClass (topS 25) 0
abbrev nLock_init : List Str := ["self", "name", "post", "words", "cost", "__class__"]
theorem csL : NdefX.NScope nLock_init ["self", "name", "post", "words", "cost"] ["__class__"] (defScope sLock_init) := NdefX.nscope_by (by decide +kernel)
def spLokI : ISp := fun bs Q _ => ∃ (n : Str) (p c : Int) (ws : List Str), bs = [.st (.str n), .st (.int p), .st (.lst (ws.map D.str)), .st (.int c)] ∧ NameOk n ∧ (0 ≤ p ∧ p ≤ 1) ∧ (1 ≤ ws.length ∧ ws.length ≤ 10 ∧ ws.Nodup ∧ ∀ z ∈ ws, NameOk z) ∧ (1 ≤ c ∧ c ≤ 1000) ∧ Q (lokF n p c ws)
theorem ok_lokI {f cda cc CL g : Addr} {fdg : FuncData} {oc doc pm ct : Value} {od : Option Addr} {osl : Array (Option Value)} (lk : K.lookup f = some ⟨oc, od, .func (PySem.W.fnX "__init__" "Lock.__init__" (defArgs sLock_init) (defBody sLock_init) (defScope sLock_init) [("__class__", cc)] .none .none doc pm none (.ref cda) ct), osl⟩) (hcd : PySem.W.codeIn K (.ref cda) "Lock.__init__" = true)
  (TX : SupTxt P K mg f cda cc CL) (kl : Kl K CL) (hsub : PySem.W.mroIn K CL (.ref CL) = some true) (hm : PySem.W.ks_superIn K CL CL "__init__" = some (some (.ref g))) (hfi : PySem.W.fnIn K g = true) (hti : PySem.W.typeIn K (.ref g) = some (.type "function"))
  (Gi : FnOk P w K mg base CX0 1 g fdg ["self", "name", "post", "cost"] (spIInit K)) (bi : Binds K fdg ["self", "name", "post", "cost"] []) (DCheck_head : Df K mg "check_head" sCheck_head ["name", "post"] fCheck_head fdCheck_head) (GCheck_head : FnOk P w K mg base CX0 3 fCheck_head fdCheck_head ["name", "post"] (cSp K spHeadA)) (DCheck_cost : Df K mg "check_cost" sCheck_cost ["cost"] fCheck_cost fdCheck_cost) (GCheck_cost : FnOk P w K mg base CX0 3 fCheck_cost fdCheck_cost ["cost"] (cSp K spCostA)) (DAre_names : Df K mg "are_names" sAre_names ["thing"] fAre_names fdAre_names) (GAre_names : FnOk P w K mg base CX0 2 fAre_names fdAre_names ["thing"] (cSp K spAreNA)) (T : Bl mg) (Tset : mg "set" = none) (C : Cm mg) :
  FnOk P w K mg base CX0 5 f (PySem.W.fnX "__init__" "Lock.__init__" (defArgs sLock_init) (defBody sLock_init) (defScope sLock_init) [("__class__", cc)] .none .none doc pm none (.ref cda) ct) ["self", "name", "post", "words", "cost"] (cIn K CL spLokI) := by
 obtain ⟨tmw, hMW⟩ := C.mw
 obtain ⟨cl, cld, csl, hcell⟩ := TX.cell
 refine fn_sup (N := nLock_init) lk hcd hcell csL (fun vs H Q E h => cIn_len (n := 4) (fun bs Q X h => by obtain ⟨n, p, c, zs, rfl, _⟩ := h; rfl) h) (fun A outer s H vs Q E hr h => ?_)
 have hX : SupX (NdefX.ncx CX0 P w K mg base nLock_init ⟨"__init__", "Lock.__init__", defArgs sLock_init, defBody sLock_init, defScope sLock_init, [("__class__", cc)], cda⟩ f A outer s H E) f cda cc :=
  ⟨rfl, rfl, by show ([("__class__", cc)] : List (Str × Addr)).lookup ("__class__" : Str) = some cc; simp [List.lookup], rfl, rfl, rfl, rfl⟩
 refine ⟨_, pat_cons (ps_expr (pe_df DCheck_head GCheck_head (hr.mono (by decide)) (pa_cons (pv 1) (pa_cons (pv 2) pa_nil))))
  (pat_cons (ps_if (PW.pt (pw_or (pt_not (pt_val (pe_df DAre_names GAre_names (hr.mono (by decide)) (pa_cons (pv 3) pa_nil)))) (pw_or (pt_not (pt_chain op_le op_le pe_int (pe_callB call_len (by rfl) T.len (by decide +kernel) (pa_cons (pv 3) pa_nil)) (pe_glob (v := .int 10) (by rfl) hMW ⟨_, rfl⟩))) (pw_or1 (pt_cmpR op_lt (pe_callB cr_lenSt (by rfl) T.len (by decide +kernel) (pa_cons (pe_callTy (cr_setOfR rfl) (by rfl) Tset (by decide +kernel) (pa_cons (pv 3) pa_nil)) pa_nil)) (pe_callB call_len (by rfl) T.len (by decide +kernel) (pa_cons (pv 3) pa_nil)) (nomark _)))))) (pss_one ps_never) pss_nil)
  (pat_cons (ps_expr (pe_df DCheck_cost GCheck_cost (hr.mono (by decide)) (pa_cons (pv 4) pa_nil)))
  (pat_supO TX hX hsub hm hfi hti Gi (hr.mono (by decide)) bi (pa_cons (pv 1) (pa_cons (pv 2) (pa_cons (pv 4) pa_nil)))
  (pat_of (pss_one (ps_fld (pv 0) (pe_callB (cr_sortedD (hu70 hr)) (by rfl) T.sorted (by decide +kernel) (pa_cons (pv 3) pa_nil)) rfl)))))), ?_⟩
 rw [startF_eq (by rw [cIn_len (n := 4) (fun bs Q X h => by obtain ⟨n, p, c, zs, rfl, _⟩ := h; rfl) h]; decide)]
 refine fn_I (sa_seq (sa_expr (ea_call [] (el_cons (ea_var 1) (el_cons (ea_var 2) el_nil)))) (sa_seq (sa_if (et_or (et_not (et_B (ea_call [] (el_cons (ea_var 3) el_nil)))) (et_or (et_not (et_test (ea_chain r2_le r2_le ea_cI (ea_b1 rc_len (ea_var 3)) ea_cI))) (et_test (ea_op r2_lt (ea_lenSet (ea_var 3)) (ea_b1 rc_len (ea_var 3)))))) sa_never sa_next) (sa_seq (sa_expr (ea_call [] (el_cons (ea_var 4) el_nil))) (sa_sup (ea_var 1) (ea_var 2) (ea_var 4) (sa_fld 0 (ea_fix (en_sortS (ea_var 3)))))))) h fun x bs Qa Xa h => ?_
 obtain ⟨n, p, c, ws, rfl, hn, hp, ⟨w1, w2, w3, w4⟩, hc, q⟩ := h
 have hl : (ws.map D.str).length = ws.length := List.length_map ..
 sleep 3001
 refine ⟨n, p, rfl, hn, hp, ?_⟩
 sleep 3001
 refine ⟨ws, rfl, w4, by omega, ?_⟩
 sleep 3001
 rw [hl, decide_eq_true (show (1 : Int) ≤ (ws.length : Int) by omega)]
 sleep 3001
 rw [decide_eq_true (show (ws.length : Int) ≤ 10 by omega)]
 sleep 3001
 refine ⟨ws, rfl, by omega, ?_⟩
 sleep 3001
 rw [insAll_nd w3, decide_eq_false (show ¬ (ws.length : Int) < (ws.length : Int) by omega)]
 sleep 3001
 refine ⟨c, rfl, hc, ?_⟩
 unfold aSup
 sleep 3001
 refine ⟨rfl, kl, ws, rfl, w4, ?_⟩
 refine ⟨kl.cl, kl.nO, by decide, _, rfl, ?_⟩
 exact q
end
end
section
abbrev Stp := Int × Str × Int
def StpOk (t : Stp) : Prop := (0 ≤ t.1 ∧ t.1 ≤ 99) ∧ NameOk t.2.1 ∧ (0 ≤ t.2.2 ∧ t.2.2 ≤ 99)
def stpV (t : Stp) : List V := [.int t.1, .str t.2.1, .int t.2.2]
/-- v is the tuple of the step t -/
def IsStp (H : Hp) (v : V) (t : Stp) : Prop := ∃ a, v = .ref a ∧ H a = some (.tup (stpV t))
theorem IsStp.mono {H H' : Hp} {v : V} {t : Stp} (s : Same H H') (h : IsStp H v t) : IsStp H' v t := by
 obtain ⟨a, e, h⟩ := h
 exact ⟨a, e, s _ _ h⟩
abbrev Stps (H : Hp) : List V → List Stp → Prop := Paired (IsStp H)
theorem Stps.mono {H H' : Hp} (s : Same H H') {xs : List V} {ts : List Stp} (h : Stps H xs ts) : Stps H' xs ts := L2.Paired.mapP h fun _ _ q => q.mono s
theorem Stps.take {H : Hp} : ∀ (i : Nat) {xs : List V} {ts : List Stp}, Stps H xs ts → Stps H (xs.take i) (ts.take i)
 | 0, _, _, _ => .nil
 | _ + 1, _, _, .nil => .nil
 | i + 1, _, _, .cons r t => .cons r (Stps.take i t)
def cnt (i : Int) (ts : List Stp) : Nat := (ts.filter fun t => decide (t.1 = i)).length
/-- the steps are good: of the right form, none twice, at most three from one state -/
structure GoodS (ts : List Stp) : Prop where
 l1 : 1 ≤ ts.length
 l2 : ts.length ≤ 20
 ok : ∀ t ∈ ts, StpOk t
 nd : ts.Nodup
 few : ∀ i t, ts[i]? = some t → cnt t.1 (ts.take i) ≠ 3
structure Fine (ts : List Stp) : Prop where
 l1 : 1 ≤ ts.length
 l2 : ts.length ≤ 20
 ok : ∀ t ∈ ts, StpOk t
 nd : ts.Nodup
 few : ∀ s, cnt s ts ≤ 3
theorem cnt_append (s : Int) (a b : List Stp) : cnt s (a ++ b) = cnt s a + cnt s b := by
 unfold cnt
 rw [List.filter_append, List.length_append]
theorem cnt_one (t : Stp) : cnt t.1 [t] = 1 := by simp [cnt]
theorem cnt_other {s : Int} {t : Stp} (h : t.1 ≠ s) : cnt s [t] = 0 := by simp [cnt, h]
theorem Fine.good {ts : List Stp} (F : Fine ts) : GoodS ts := by
 refine ⟨F.l1, F.l2, F.ok, F.nd, fun i t h e => ?_⟩
 have h1 := F.few t.1
 have h2 : ts = ts.take (i + 1) ++ ts.drop (i + 1) := (List.take_append_drop _ _).symm
 rw [h2, cnt_append, take_next h, cnt_append, cnt_one] at h1
 omega
/-- the states are at most 96 -/
def Low (ts : List Stp) : Prop := ∀ t ∈ ts, (0 ≤ t.1 ∧ t.1 ≤ 96) ∧ NameOk t.2.1 ∧ (0 ≤ t.2.2 ∧ t.2.2 ≤ 96)
theorem Low.ok {ts : List Stp} (h : Low ts) : ∀ t ∈ ts, StpOk t := fun t ht => by
 obtain ⟨⟨h1, h2⟩, h3, h4, h5⟩ := h t ht
 exact ⟨⟨h1, by omega⟩, h3, h4, by omega⟩
def plc (first gap : Int) (m : Nat) : List Int := (List.range m).map fun (k : Nat) => first + gap * (k : Int)
theorem plc_len (first gap : Int) (m : Nat) : (plc first gap m).length = m := by simp [plc]
theorem plc_get {first gap : Int} {m k : Nat} (h : k < m) : (plc first gap m)[k]? = some (first + gap * (k : Int)) := by
 unfold plc
 rw [List.getElem?_map, List.getElem?_range h]
 rfl
theorem plc_mem {first gap : Int} {m : Nat} {x : Int} (h : x ∈ plc first gap m) : ∃ k : Nat, k < m ∧ x = first + gap * (k : Int) := by
 obtain ⟨k, hk, rfl⟩ := List.mem_map.mp h
 exact ⟨k, List.mem_range.mp hk, rfl⟩
theorem plc_bound {first gap : Int} {m : Nat} {x : Int} (f0 : 0 ≤ first) (f1 : first < 70) (g0 : 1 ≤ gap) (g1 : gap ≤ 9) (hm : m ≤ 4) (h : x ∈ plc first gap m) : 0 ≤ x ∧ x ≤ 96 := by
 obtain ⟨k, hk, rfl⟩ := plc_mem h
 obtain rfl | rfl | rfl | rfl : k = 0 ∨ k = 1 ∨ k = 2 ∨ k = 3 := by omega
 all_goals omega
theorem plc_succ (first gap : Int) (m : Nat) : plc first gap (m + 1) = plc first gap m ++ [first + gap * (m : Int)] := by
 unfold plc
 rw [List.range_succ, List.map_append]
 rfl
theorem plc_nodup {first gap : Int} (g0 : 1 ≤ gap) : ∀ m, (plc first gap m).Nodup
 | 0 => List.nodup_nil
 | m + 1 => by
  rw [plc_succ, List.nodup_append]
  refine ⟨plc_nodup g0 m, by simp, fun a ha b hb e => ?_⟩
  obtain ⟨k, hk, rfl⟩ := plc_mem ha
  rw [List.mem_singleton.mp hb] at e
  have h1 : gap * (k : Int) = gap * (m : Int) := by omega
  have h2 := Int.eq_of_mul_eq_mul_left (by omega) h1
  omega
theorem cnt_count (s : Int) : ∀ ts : List Stp, cnt s ts = (ts.map (·.1)).count s
 | [] => rfl
 | t :: r => by
  have ih := cnt_count s r
  unfold cnt at ih ⊢
  rw [List.map_cons, List.count_cons, ← ih, List.filter_cons]
  by_cases h : t.1 = s <;> simp [h]
theorem nodup_of_fst {ts : List Stp} (h : (ts.map (·.1)).Nodup) : ts.Nodup := List.Pairwise.of_map _ (fun _ _ hne e => hne (congrArg _ e)) h
theorem Stps.snoc {H : Hp} {xs : List V} {ts : List Stp} {v : V} {t : Stp} (h : Stps H xs ts) (r : IsStp H v t) : Stps H (xs ++ [v]) (ts ++ [t]) := paired_snoc h r
section
variable {P : Program} {w : World} {K : PySem.W.Frag} {mg : Str → Option Value} {base : Heap} {f fA fB : Addr} {fd fdA fdB : FuncData}
abbrev sLhand : Stmt := topS 39
abbrev nLhand : List Str := ["_law_pool_here", "_law_words_here", "_law_most", "_law_shape", "_law_first", "_law_gap", "_law_places", "_law_steps", "_law_k", "_law_step", "_law_old"]
theorem scLhand : FnScope nLhand ["_law_pool_here", "_law_words_here", "_law_most"] (defScope sLhand) := by sleep 2000
end
end
section
abbrev Hnd := Int × List Stp
def stpD (t : Stp) : D := .tup [.int t.1, .str t.2.1, .int t.2.2]
def hndD (h : Hnd) : D := .tup [.int h.1, .tup (h.2.map stpD)]
def hsD (hs : List Hnd) : D := .tup (hs.map hndD)
structure HndOk (h : Hnd) : Prop where
 fine : Fine h.2
 low : Low h.2
 st : 0 ≤ h.1 ∧ h.1 ≤ 96
 few : h.2.length ≤ 20
theorem stpD_inj {t u : Stp} (h : stpD t = stpD u) : t = u := by
 obtain ⟨a, b, c⟩ := t
 obtain ⟨a', b', c'⟩ := u
 simp only [stpD, D.tup.injEq, List.cons.injEq, D.int.injEq, D.str.injEq] at h
 obtain ⟨rfl, rfl, rfl, _⟩ := h
 rfl
theorem stpD_pl {n : Nat} {t : Stp} (h : StpOk t) : D.pl (n + 1) (stpD t) = true := pl_tup (by simp) fun d hd => by
 simp only [List.mem_cons, List.not_mem_nil, or_false] at hd
 rcases hd with rfl | rfl | rfl
 ·cases n <;> rfl
 ·exact pl_name h.2.1
 ·cases n <;> rfl
theorem stpsD_pl {n : Nat} {ts : List Stp} (h : ∀ t ∈ ts, StpOk t) (l : ts.length ≤ 900) : D.pl (n + 2) (.lst (ts.map stpD)) = true := pl_lst (by rw [List.length_map]; exact l) fun d hd => by
 obtain ⟨t, ht, rfl⟩ := List.mem_map.mp hd
 exact stpD_pl (h t ht)
theorem stpD_mem {t : Stp} {ts : List Stp} : stpD t ∈ ts.map stpD ↔ t ∈ ts := by
 rw [List.mem_map]
 constructor
 ·rintro ⟨u, hu, e⟩
  rw [← stpD_inj e]
  exact hu
 ·intro h
  exact ⟨t, h, rfl⟩
theorem rng_at {lo : Int} {n i : Nat} {x : B} (h : (rngB lo n)[i]? = some x) : i < n ∧ x = .st (.int (lo + (i : Nat))) := by
 unfold rngB at h
 rw [List.getElem?_map] at h
 obtain ⟨y, h1, e⟩ := Option.map_eq_some_iff.mp h
 obtain ⟨h2, h3⟩ := List.getElem?_eq_some_iff.mp h1
 rw [List.length_range] at h2
 rw [List.getElem_range] at h3
 subst h3
 exact ⟨h2, e.symm⟩
theorem rng_len (lo : Int) (n : Nat) : (rngB lo n).length = n := by simp [rngB]
theorem map_at {α : Type} {f : α → D} {l : List α} {i : Nat} {d : D} (h : (l.map f)[i]? = some d) : ∃ a, l[i]? = some a ∧ d = f a := by
 rw [List.getElem?_map] at h
 obtain ⟨a, h1, e⟩ := Option.map_eq_some_iff.mp h
 exact ⟨a, h1, e.symm⟩
theorem oneD_len (x : Int) : ∀ ts : List Stp, (ts.filterMap fun t : Stp => if t.1 = x then some (D.int 1) else none).length = cnt x ts
 | [] => rfl
 | t :: r => by
  have ih := oneD_len x r
  unfold cnt at ih ⊢
  by_cases e : t.1 = x
  ·simp only [List.filterMap_cons, List.filter_cons, e, if_true, decide_true, List.length_cons, ih]
  ·simp only [List.filterMap_cons, List.filter_cons, e, if_false, decide_false, ih]
   rfl
section
variable {P : Program} {w : World} {K : PySem.W.Frag} {mg : Str → Option Value} {base : Heap}
/-- few places -/
def PlH (n : Nat) (h : Hnd) : Prop := ∃ ps : List Int, ps.length ≤ n ∧ (∀ x ∈ ps, 0 ≤ x ∧ x ≤ 96) ∧ h.1 ∈ ps ∧ ∀ t ∈ h.2, t.1 ∈ ps ∧ t.2.2 ∈ ps
def spHandA : ASp := fun bs Q _ => ∃ (n : Int) (ws : List Str), bs = [.pool, .st (.lst (ws.map D.str)), .st (.int n)] ∧ 0 < ws.length ∧ ws.length < 1000 ∧ (∀ z ∈ ws, NameOk z) ∧ 1 ≤ n ∧ n ≤ 4 ∧
 ∀ h : Hnd, HndOk h → (∀ t ∈ h.2, t.2.1 ∈ ws) → PlH n.toNat h → Q (hndD h)
theorem ok_handA (DLhand : Df K mg "_law_hand" sLhand ["_law_pool_here", "_law_words_here", "_law_most"] fLhand fdLhand) (DLdraw : Df K mg "_law_draw" sLdraw ["_law_pool_here", "_law_many"] fLdraw fdLdraw) (GLdraw : FnOk P w K mg base CX0 1 fLdraw fdLdraw ["_law_pool_here", "_law_many"] (cSp K spDrawA)) (DLpick : Df K mg "_law_pick" sLpick ["_law_pool_here", "_law_items"] fLpick fdLpick) (GLpick : FnOk P w K mg base CX0 2 fLpick fdLpick ["_law_pool_here", "_law_items"] (cSp K spPickA)) (T : Bl mg) : FnOk P w K mg base CX0 3 fLhand fdLhand ["_law_pool_here", "_law_words_here", "_law_most"] (cSp K spHandA) := by
 refine DLhand.fn.ok scLhand (fun vs H Q E h => cSp_len (fun bs Q X h => by obtain ⟨n, ws, rfl, _⟩ := h; rfl) h) (fun cdv A outer s H vs Q E hr h => ?_)
 refine ⟨_, (pss_cons (ps_asg (pe_tup (pa_cons (pe_df DLdraw GLdraw (hr.mono (by decide)) (pa_cons (pv 0) (pa_cons pe_int pa_nil))) (pa_cons (pe_df DLdraw GLdraw (hr.mono (by decide)) (pa_cons (pv 0) (pa_cons pe_int pa_nil))) (pa_cons (pe_op op_add pe_int (pe_df DLdraw GLdraw (hr.mono (by decide)) (pa_cons (pv 0) (pa_cons pe_int pa_nil)))) pa_nil)))) (pg_tup rfl (pgs_cons (pg_name (i := 3) scLhand.nd rfl (Or.inl rfl)) (pgs_cons (pg_name (i := 4) scLhand.nd rfl (Or.inr rfl)) (pgs_cons (pg_name (i := 5) scLhand.nd rfl (Or.inr rfl)) pgs_nil)))))
   (pss_cons (ps_setLc (i := 6) (own := [("_law_k", 8)]) rfl scLhand.nd rfl rfl (sw_true rfl rfl rfl (by decide +kernel)) (pi_range1 (by rfl) T.range (pa_cons (pe_op op_add pe_int (pe_df DLdraw GLdraw (hr.mono (by decide)) (pa_cons (pv 0) (pa_cons (pv 2) pa_nil)))) pa_nil)) (blkOk_by (own := [("_law_k", 8)]) (N := nLhand) (sc := defScope sLhand) (by decide +kernel)) (fun _ _ _ _ _ => (pg_name (i := 8) scLhand.nd rfl (Or.inl rfl))) (fun _ _ _ _ _ => pts_nil) (fun _ _ _ _ _ => (pe_op op_add (pv 4) (pe_op op_mul (pv 5) (pv 8)))))
   (pss_cons (ps_set (i := 7) scLhand.nd rfl (Or.inl rfl) (pe_lst pa_nil))
   (pss_cons (ps_for PassesOwn.never rfl (pi_range1 (by rfl) T.range (pa_cons (pe_op op_mul (pe_callB call_len (by rfl) T.len (by decide +kernel) (pa_cons (pv 6) pa_nil)) (pe_callTy call_int1 (by rfl) T.int (by decide +kernel) (pa_cons (pe_cmpR op_gt (pv 3) pe_int (nomark _)) pa_nil))) pa_nil)) (pg_name (i := 8) scLhand.nd rfl (Or.inl rfl)) (pss_one (ps_expr (pe_bm PySem.F.plainAttrs_list PySem.F.slot_list_append PySem.F.type_list_append mt_append (pv 7) (pa_cons (pe_tup (pa_cons (pe_ix ix_list (pv 6) (pv 8) (fun _ _ => rfl)) (pa_cons (pe_df DLpick GLpick (hr.mono (by decide)) (pa_cons (pv 0) (pa_cons (pv 1) pa_nil))) (pa_cons (pe_ix ix_list (pv 6) (pe_op op_mod (pe_callTy call_int1 (by rfl) T.int (by decide +kernel) (pa_cons (pe_op op_add (pv 8) pe_int) pa_nil)) (pe_callB call_len (by rfl) T.len (by decide +kernel) (pa_cons (pv 6) pa_nil))) (fun _ _ => rfl)) pa_nil)))) pa_nil)))))
   (pss_cons (ps_for PassesOwn.never rfl (pi_range1 (by rfl) T.range (pa_cons (pe_op op_add (pe_df DLdraw GLdraw (hr.mono (by decide)) (pa_cons (pv 0) (pa_cons pe_int pa_nil))) (pe_callTy call_int1 (by rfl) T.int (by decide +kernel) (pa_cons (pe_cmpR op_eq (pv 3) pe_int (nomark _)) pa_nil))) pa_nil)) (pg_name (i := 8) scLhand.nd rfl (Or.inl rfl)) (pss_cons (ps_set (i := 9) scLhand.nd rfl (Or.inr rfl) (pe_tup (pa_cons (pe_df DLpick GLpick (hr.mono (by decide)) (pa_cons (pv 0) (pa_cons (pv 6) pa_nil))) (pa_cons (pe_df DLpick GLpick (hr.mono (by decide)) (pa_cons (pv 0) (pa_cons (pv 1) pa_nil))) (pa_cons (pe_df DLpick GLpick (hr.mono (by decide)) (pa_cons (pv 0) (pa_cons (pv 6) pa_nil))) pa_nil)))))
   (pss_one (ps_if (PW.pt (pw_and (pt_cmpR (op_notInD (hu65 hr)) (pv 9) (pv 7) (by rfl)) (pw_and1 (pt_cmpR op_lt (pe_callB call_len (by rfl) T.len (by decide +kernel) (pa_cons (pe_lc (own := [("_law_old", 10)]) rfl scLhand.nd (pi_list (pv 7)) (blkOk_by (own := [("_law_old", 10)]) (N := nLhand) (sc := defScope sLhand) (by decide +kernel)) (fun _ _ _ _ _ => (pg_name (i := 10) scLhand.nd rfl (Or.inl rfl))) (fun _ _ _ _ _ => (pts_one (pt_cmpR op_eq (pe_ix (r := rIxT K) ix_tup (pv 10) pe_int (fun _ _ => rfl)) (pe_ix (r := rIxT K) ix_tup (pv 9) pe_int (fun _ _ => rfl)) (nomark _)))) (fun _ _ _ _ _ => pe_int)) pa_nil)) pe_int (nomark _))))) (pss_one (ps_expr (pe_bm PySem.F.plainAttrs_list PySem.F.slot_list_append PySem.F.type_list_append mt_append (pv 7) (pa_cons (pv 9) pa_nil)))) pss_nil))))
   (pss_one (ps_ret (pe_tup (pa_cons (pe_df DLpick GLpick (hr.mono (by decide)) (pa_cons (pv 0) (pa_cons (pv 6) pa_nil))) (pa_cons (pe_callTy call_tuple_of (by rfl) T.tuple (by decide +kernel) (pa_cons (pv 7) pa_nil)) pa_nil)))))))))), ?_⟩
 refine fn_A ((sa_seq (sa_asg (ea_tup (el_cons (ea_call [] (el_cons (ea_var 0) (el_cons ea_cI el_nil))) (el_cons (ea_call [] (el_cons (ea_var 0) (el_cons ea_cI el_nil))) (el_cons (ea_op r2_add ea_cI (ea_call [] (el_cons (ea_var 0) (el_cons ea_cI el_nil)))) el_nil)))) (ga_tup (n := 3) (js := [3, 4, 5]) (gas_cons (ga_name (js := [3, 4, 5]) 3) (gas_cons (ga_name (js := [3, 4, 5]) 4) (gas_cons (ga_name (js := [3, 4, 5]) 5) gas_nil)))))
   (sa_seq (sa_set 6 (ea_fix (en_lc (EI.ec (ei_range1 (ea_op r2_add ea_cI (ea_call [] (el_cons (ea_var 0) (el_cons (ea_var 2) el_nil)))))) (ga_name (js := [8]) 8) et_yes (ea_op r2_add (ea_var 4) (ea_op r2_mul (ea_var 5) (ea_var 8))))))
   (sa_seq (sa_new 7 (en_lst el_nil))
   (sa_seq (sa_for (ei_range1 (ea_op r2_mul (ea_b1 rc_len (ea_var 6)) (ea_b1 rc_int (ea_op r2_gt (ea_var 3) ea_cI)))) (ga_name (js := [8]) 8) (sa_app 7 (ea_tup (el_cons (ea_ixL (ea_var 6) (ea_var 8)) (el_cons (ea_call [] (el_cons (ea_var 0) (el_cons (ea_var 1) el_nil))) (el_cons (ea_ixL (ea_var 6) (ea_op r2_mod (ea_b1 rc_int (ea_op r2_add (ea_var 8) ea_cI)) (ea_b1 rc_len (ea_var 6)))) el_nil))))))
   (sa_seq (sa_for (ei_range1 (ea_op r2_add (ea_call [] (el_cons (ea_var 0) (el_cons ea_cI el_nil))) (ea_b1 rc_int (ea_op r2_eq (ea_var 3) ea_cI)))) (ga_name (js := [8]) 8) (sa_seq (sa_set 9 (ea_tup (el_cons (ea_call [] (el_cons (ea_var 0) (el_cons (ea_var 6) el_nil))) (el_cons (ea_call [] (el_cons (ea_var 0) (el_cons (ea_var 1) el_nil))) (el_cons (ea_call [] (el_cons (ea_var 0) (el_cons (ea_var 6) el_nil))) el_nil)))))
   (sa_if (et_and (et_test (ea_op r2_ninP (ea_var 9) (ea_var 7))) (et_test (ea_op r2_lt (ea_b1 rc_len (ea_fix (en_lc (ec_list (ea_var 7)) (ga_name (js := [10]) 10) (et_test (ea_op r2_eq (ea_ixT (ea_var 10) ea_cI) (ea_ixT (ea_var 9) ea_cI))) ea_cI))) ea_cI))) (sa_app 7 (ea_var 9)) sa_next)))
   (sa_ret (ea_tup (el_cons (ea_call [] (el_cons (ea_var 0) (el_cons (ea_var 6) el_nil))) (el_cons (ea_tupOf (ea_var 7)) el_nil)))))))))) h fun bs Qa Xa h => ?_
 obtain ⟨n, ws, rfl, w0, w1, hws, n0, n1, q⟩ := h
 sleep 3001
 refine ⟨3, rfl, by decide, by decide, fun sh s0 s1 => ⟨70, rfl, by decide, by decide, fun fi f0 f1 => ⟨9, rfl, by decide, by decide, fun ga a0 a1 => ?_⟩⟩⟩
 sleep 3001
 refine ⟨rfl, n, rfl, by omega, by omega, fun m m0 m1 => ?_⟩
 sleep 3001
 refine ⟨⟨by omega, by omega⟩, by rw [rng_len]; omega, ?_⟩
 obtain ⟨M, hM, M0, M1⟩ : ∃ M : Nat, (1 + m).toNat = M ∧ 1 ≤ M ∧ M ≤ 4 := ⟨_, rfl, by omega, by omega⟩
 rw [hM]
 unfold rngB
 refine aCol_map (fun (i : Nat) => D.int (fi + (1 + ga) * (0 + (i : Nat)))) (fun i hi R hR => ?_) ?_
 ·sleep 3001
  exact ⟨.inl ⟨by omega, by omega⟩, hR⟩
 have e0 : ([] : List D) ++ (List.range M).map (fun (i : Nat) => D.int (fi + (1 + ga) * (0 + (i : Nat)))) = (plc fi (1 + ga) M).map D.int := by
  unfold plc
  rw [List.nil_append, List.map_map]
  refine List.map_congr_left fun i _ => ?_
  simp
 rw [e0]
 have pb : ∀ x ∈ plc fi (1 + ga) M, 0 ≤ x ∧ x ≤ 96 := fun x hx => plc_bound f0 f1 (by omega) (by omega) M1 hx
 have pl : ((plc fi (1 + ga) M).map D.int).length = M := by rw [List.length_map, plc_len]
 intro l
 sleep 3001
 refine ⟨?_, ?_⟩
 ·rw [pl]
  exact .inl ⟨by omega, by omega⟩
 sleep 3001
 obtain ⟨N1, eN1, hN1⟩ : ∃ N1 : Nat, ((((plc fi (1 + ga) M).map D.int).length : Int) * (if decide (0 < sh) = true then 1 else 0)).toNat = N1 ∧ ((0 < sh ∧ N1 = M) ∨ (sh = 0 ∧ N1 = 0)) := by
  refine ⟨_, rfl, ?_⟩
  rw [pl]
  by_cases h : 0 < sh
  ·rw [decide_eq_true h, if_pos rfl]
   exact .inl ⟨h, by omega⟩
  ·rw [decide_eq_false h, if_neg Bool.false_ne_true]
   exact .inr ⟨by omega, by omega⟩
 rw [eN1]
 refine ⟨⟨by rw [pl]; split <;> omega, by rw [pl]; split <;> omega⟩, ?_⟩
 refine aLoop_inv (fun i env => ∃ u ts, env = [some .pool, some (.st (.lst (ws.map D.str))), some (.st (.int n)), some (.st (.int sh)), some (.st (.int fi)), some (.st (.int (1 + ga))), some (.st (.lst ((plc fi (1 + ga) M).map D.int))), some (.ow l (.lst (ts.map stpD))), u, none, none] ∧
  ts.map (·.1) = (plc fi (1 + ga) M).take i ∧ Low ts ∧ ∀ t ∈ ts, t.2.1 ∈ ws ∧ t.1 ∈ plc fi (1 + ga) M ∧ t.2.2 ∈ plc fi (1 + ga) M) ⟨_, [], rfl, rfl, fun t h => (by cases h), fun t h => (by cases h)⟩ ?_ ?_
 ·rintro i x env R hx ⟨u, ts, rfl, hfs, low, hw⟩ hR
  obtain ⟨hi, rfl⟩ := rng_at hx
  have hiM : i < M := by omega
  have lts : ts.length = i := by
   have := congrArg List.length hfs
   rw [List.length_map, List.length_take, plc_len] at this
   omega
  sleep 3001
  refine ⟨_, at_ofG (j := i) (by omega) (by rw [List.getElem?_map, plc_get hiM]; rfl), ws.map D.str, .inl rfl, by rw [List.length_map]; exact w0, by rw [List.length_map]; exact w1, fun j d hd => ?_⟩
  obtain ⟨z, hz, rfl⟩ := map_at hd
  have hz := List.mem_of_getElem? hz
  sleep 3001
  obtain ⟨k, hk, ek⟩ : ∃ k : Nat, k < M ∧ ((0 : Int) + (i : Int) + 1) % (((plc fi (1 + ga) M).map D.int).length : Int) = (k : Int) := by
   have a1 := Int.emod_nonneg ((0 : Int) + (i : Int) + 1) (b := (((plc fi (1 + ga) M).map D.int).length : Int)) (by rw [pl]; omega)
   have a2 := Int.emod_lt_of_pos ((0 : Int) + (i : Int) + 1) (b := (((plc fi (1 + ga) M).map D.int).length : Int)) (by rw [pl]; omega)
   refine ⟨(((0 : Int) + (i : Int) + 1) % (((plc fi (1 + ga) M).map D.int).length : Int)).toNat, ?_, by omega⟩
   rw [pl] at a1 a2 ⊢
   omega
  refine ⟨by rw [pl]; omega, _, at_ofG (j := k) ek (by rw [List.getElem?_map, plc_get hk]; rfl), by rw [List.length_map]; omega, ?_⟩
  refine hR _ ⟨_, ts ++ [(fi + (1 + ga) * (i : Int), z, fi + (1 + ga) * (k : Int))], by simp only [List.map_append]; rfl, ?_, fun v hv => ?_, fun v hv => ?_⟩
  ·rw [List.map_append, hfs, take_next (plc_get hiM)]
   rfl
  ·rcases List.mem_append.mp hv with h | h
   ·exact low v h
   ·rw [List.mem_singleton.mp h]
    exact ⟨pb _ (List.mem_of_getElem? (plc_get hiM)), hws z hz, pb _ (List.mem_of_getElem? (plc_get hk))⟩
  ·rcases List.mem_append.mp hv with h | h
   ·exact hw v h
   ·rw [List.mem_singleton.mp h]
    exact ⟨hz, List.mem_of_getElem? (plc_get hiM), List.mem_of_getElem? (plc_get hk)⟩
 rintro env ⟨u8, ts8, rfl, hfs8, low8, hw8⟩
 rw [rng_len] at hfs8
 have nd8 : (ts8.map (·.1)).Nodup := by
  rw [hfs8]
  exact (plc_nodup (by omega) M).sublist (List.take_sublist _ _)
 have few8 : ∀ s, cnt s ts8 ≤ 3 := fun s => by
  rw [cnt_count]
  have := List.nodup_iff_count.mp nd8 s
  omega
 have len8 : ts8.length = N1 := by
  have := congrArg List.length hfs8
  rw [List.length_map, List.length_take, plc_len] at this
  omega
 sleep 3001
 refine ⟨4, rfl, by decide, by decide, fun e e0 e1 => ?_⟩
 sleep 3001
 refine ⟨⟨by split <;> omega, by split <;> omega⟩, ?_⟩
 obtain ⟨N2, eN2, hN2, hN3⟩ : ∃ N2 : Nat, (e + (if decide (sh = 0) = true then 1 else 0)).toNat = N2 ∧ N2 ≤ 4 ∧ (sh = 0 → 1 ≤ N2) := by
  refine ⟨_, rfl, by split <;> omega, fun h => ?_⟩
  rw [decide_eq_true h, if_pos rfl]
  omega
 rw [eN2]
 refine aLoop_inv (fun i env => ∃ u v ts, env = [some .pool, some (.st (.lst (ws.map D.str))), some (.st (.int n)), some (.st (.int sh)), some (.st (.int fi)), some (.st (.int (1 + ga))), some (.st (.lst ((plc fi (1 + ga) M).map D.int))), some (.ow l (.lst (ts.map stpD))), u, v, none] ∧
  ts.Nodup ∧ (∀ s, cnt s ts ≤ 3) ∧ Low ts ∧ (∀ t ∈ ts, t.2.1 ∈ ws ∧ t.1 ∈ plc fi (1 + ga) M ∧ t.2.2 ∈ plc fi (1 + ga) M) ∧ ts.length ≤ N1 + i ∧ (0 < N1 ∨ 0 < i → 1 ≤ ts.length)) ⟨_, _, ts8, rfl, nodup_of_fst nd8, few8, low8, hw8, by omega, fun h => by omega⟩ ?_ ?_
 ·rintro i x env R hx ⟨u, v, ts, rfl, nd, few, low, hw, len, ne⟩ hR
  obtain ⟨hi, rfl⟩ := rng_at hx
  have isP : ∀ {j : Nat} {d : D}, ((plc fi (1 + ga) M).map D.int)[j]? = some d → ∃ x, d = .int x ∧ x ∈ plc fi (1 + ga) M ∧ 0 ≤ x ∧ x ≤ 96 := fun {j d} h => by
   obtain ⟨x, hx, rfl⟩ := map_at h
   exact ⟨x, rfl, List.mem_of_getElem? hx, pb x (List.mem_of_getElem? hx)⟩
  sleep 3001
  refine ⟨_, .inl rfl, by rw [pl]; omega, by rw [pl]; omega, fun j1 d1 h1 => ⟨_, .inl rfl, by rw [List.length_map]; exact w0, by rw [List.length_map]; exact w1, fun j2 d2 h2 => ⟨_, .inl rfl, by rw [pl]; omega, by rw [pl]; omega, fun j3 d3 h3 => ?_⟩⟩⟩
  obtain ⟨x1, rfl, m1', b1, c1⟩ := isP h1
  obtain ⟨x3, rfl, m3', b3, c3⟩ := isP h3
  obtain ⟨z, hz, rfl⟩ := map_at h2
  have hz := List.mem_of_getElem? hz
  sleep 3001
  have okt : StpOk (x1, z, x3) := ⟨⟨b1, by show x1 ≤ 99; omega⟩, hws z hz, b3, by show x3 ≤ 99; omega⟩
  refine ⟨stpD_pl okt, stpsD_pl low.ok (by omega), fun b hb => ?_⟩
  rw [show ([D.int x1, D.str z, D.int x3] : List D) = [D.int (x1, z, x3).1, D.str (x1, z, x3).2.1, D.int (x1, z, x3).2.2] from rfl] at hb
  have hb : b = true ↔ (x1, z, x3) ∉ ts := hb.trans (not_congr stpD_mem)
  cases b with
  | false =>
   have hm : (x1, z, x3) ∈ ts := Classical.byContradiction fun c => by cases hb.mpr c
   sleep 3001
   exact hR _ ⟨_, _, ts, rfl, nd, few, low, hw, by omega, fun _ => by have := List.length_pos_of_mem hm; omega⟩
  | true =>
   have hm := hb.mp rfl
   sleep 3001
   refine ⟨by rw [List.length_map, List.length_map]; omega, ?_⟩
   rw [List.map_map]
   refine aCol_fm (fun t : Stp => if t.1 = x1 then some (D.int 1) else none) (fun t ht S hS => ?_) ?_
   ·sleep 3001
    refine ⟨_, rfl, _, rfl, ?_⟩
    sleep 3001
    by_cases e : t.1 = x1
    ·rw [if_pos e] at hS
     rw [decide_eq_true e]
     exact hS
    ·rw [if_neg e] at hS
     rw [decide_eq_false e]
     exact hS
   have hc := oneD_len x1 ts
   sleep 3001
   refine ifB_dec (fun c => ?_) (fun c => ?_)
   ·rw [hc] at c
    refine ⟨by rw [List.length_map]; omega, hR _ ⟨_, _, ts ++ [(x1, z, x3)], by simp only [List.map_append]; rfl, ?_, fun s => ?_, fun v hv => ?_, fun v hv => ?_, by simp; omega, fun _ => by simp⟩⟩
    ·rw [List.nodup_append]
     exact ⟨nd, by simp, fun a ha b hb e => hm (by rw [List.mem_singleton.mp hb] at e; exact e ▸ ha)⟩
    ·rw [cnt_append]
     by_cases hs : x1 = s
     ·subst hs
      have h1 : cnt x1 [(x1, z, x3)] = 1 := cnt_one (x1, z, x3)
      omega
     ·rw [cnt_other (t := (x1, z, x3)) hs]
      exact few s
    ·rcases List.mem_append.mp hv with h | h
     ·exact low v h
     ·rw [List.mem_singleton.mp h]
      exact ⟨⟨b1, c1⟩, hws z hz, b3, c3⟩
    ·rcases List.mem_append.mp hv with h | h
     ·exact hw v h
     ·rw [List.mem_singleton.mp h]
      exact ⟨hz, m1', m3'⟩
   ·rw [hc] at c
    refine hR _ ⟨_, _, ts, rfl, nd, few, low, hw, by omega, fun _ => ?_⟩
    have : cnt x1 ts ≤ ts.length := List.length_filter_le _ _
    omega
 ·rintro env ⟨u, v, ts, rfl, nd, few, low, hw, len, ne⟩
  rw [rng_len] at len ne
  sleep 3001
  refine ⟨_, .inl rfl, by rw [pl]; omega, by rw [pl]; omega, fun j d hd => ?_⟩
  obtain ⟨x, hx, rfl⟩ := map_at hd
  have hxm := List.mem_of_getElem? hx
  have hx := pb x hxm
  sleep 3001
  refine q (x, ts) ⟨⟨ne ?_, by show ts.length ≤ 20; omega, low.ok, nd, few⟩, low, hx, by show ts.length ≤ 20; omega⟩ (fun t ht => (hw t ht).1) ⟨plc fi (1 + ga) M, by rw [plc_len]; omega, pb, hxm, fun t ht => (hw t ht).2⟩
  rcases hN1 with ⟨h, e⟩ | ⟨h, e⟩
  ·exact .inl (by omega)
  ·exact .inr (by have := hN3 h; omega)
end
end
section
structure HsOk (hs : List Hnd) : Prop where
 l1 : 1 ≤ hs.length
 l2 : hs.length ≤ 3
 ok : ∀ h ∈ hs, HndOk h
abbrev Ptn := List (Int × Int)
def ptL (pt : Ptn) : List (Key × D) := pt.map fun q => (Sum.inl q.1, D.int q.2)
def ptD (pt : Ptn) : D := .dK (ptL pt)
structure PtOk (n : Nat) (pt : Ptn) : Prop where
 ne : pt ≠ []
 nd : (pt.map (·.1)).Nodup
 ok : ∀ q ∈ pt, (0 ≤ q.1 ∧ q.1 < n) ∧ (0 ≤ q.2 ∧ q.2 ≤ 96)
theorem ptn_keys (pt : Ptn) : (ptL pt).map (·.1) = (pt.map (·.1)).map Sum.inl := by
 unfold ptL
 rw [List.map_map, List.map_map]
 rfl
theorem ptn_put {pt : Ptn} {k x : Int} (h : k ∉ pt.map (·.1)) : putD (ptL pt) (Sum.inl k) (.int x) = ptL (pt ++ [(k, x)]) := by
 rw [putD_new]
 ·unfold ptL
  rw [List.map_append]
  rfl
 ·rw [ptn_keys]
  intro c
  obtain ⟨q, hq, e⟩ := List.mem_map.mp c
  exact h (by rw [← Sum.inl.inj e]; exact hq)
theorem ptn_val {pt : Ptn} (nd : (pt.map (·.1)).Nodup) {q : Int × Int} (h : q ∈ pt) : valD (ptL pt) (Sum.inl q.1) = some (.int q.2) := by
 refine valD_mem ?_ (List.mem_map.mpr ⟨q, h, rfl⟩)
 rw [ptn_keys]
 exact List.pairwise_map.mpr (nd.imp fun {a b} n e => n (Sum.inl.inj e))
theorem ptn_len {n : Nat} {pt : Ptn} (nd : (pt.map (·.1)).Nodup) (ok : ∀ q ∈ pt, (0 ≤ q.1 ∧ q.1 < n) ∧ (0 ≤ q.2 ∧ q.2 ≤ 96)) : pt.length ≤ n := by
 have h1 := pigeon (pt.map (·.1)) ((List.range n).map fun (k : Nat) => (k : Int)) nd (fun c hc => by
  obtain ⟨q, hq, rfl⟩ := List.mem_map.mp hc
  have := (ok q hq).1
  exact List.mem_map.mpr ⟨q.1.toNat, List.mem_range.mpr (by omega), by omega⟩)
 rw [List.length_map, List.length_map, List.length_range] at h1
 exact h1
/-- what a pattern says of a standing -/
def agB (pt : Ptn) (st : List Int) : Bool := pt.all fun q => decide (st[q.1.toNat]? = some q.2)
section
variable {P : Program} {w : World} {K : PySem.W.Frag} {mg : Str → Option Value} {base : Heap}
abbrev sLpattern : Stmt := topS 40
abbrev nLpattern : List Str := ["_law_pool_here", "_law_hands", "_law_pattern_here", "_law_k", "_law_step"]
theorem scLpattern : FnScope nLpattern ["_law_pool_here", "_law_hands"] (defScope sLpattern) := by sleep 2000
def spPatternA : ASp := fun bs Q _ => ∃ hs : List Hnd, bs = [.pool, .st (hsD hs)] ∧ HsOk hs ∧ ∀ pt, PtOk hs.length pt → Q (ptD pt)
theorem ok_patternA (DLpattern : Df K mg "_law_pattern" sLpattern ["_law_pool_here", "_law_hands"] fLpattern fdLpattern) (DLdraw : Df K mg "_law_draw" sLdraw ["_law_pool_here", "_law_many"] fLdraw fdLdraw) (GLdraw : FnOk P w K mg base CX0 1 fLdraw fdLdraw ["_law_pool_here", "_law_many"] (cSp K spDrawA)) (DLpick : Df K mg "_law_pick" sLpick ["_law_pool_here", "_law_items"] fLpick fdLpick) (GLpick : FnOk P w K mg base CX0 2 fLpick fdLpick ["_law_pool_here", "_law_items"] (cSp K spPickA)) (T : Bl mg) : FnOk P w K mg base CX0 3 fLpattern fdLpattern ["_law_pool_here", "_law_hands"] (cSp K spPatternA) := by
 refine DLpattern.fn.ok scLpattern (fun vs H Q E h => cSp_len (fun bs Q X h => by obtain ⟨hs, rfl, _⟩ := h; rfl) h) (fun cdv A outer s H vs Q E hr h => ?_)
 refine ⟨_, (pss_cons (ps_set (i := 2) scLpattern.nd rfl (Or.inl rfl) pe_dnewK)
   (pss_cons (ps_for PassesOwn.never rfl (pi_range1 (by rfl) T.range (pa_cons (pe_callB call_len (by rfl) T.len (by decide +kernel) (pa_cons (pv 1) pa_nil)) pa_nil)) (pg_name (i := 3) scLpattern.nd rfl (Or.inl rfl)) (pss_one (ps_if (pt_cmpR op_eq (pe_df DLdraw GLdraw (hr.mono (by decide)) (pa_cons (pv 0) (pa_cons pe_int pa_nil))) pe_int (nomark _)) (pss_cons (ps_set (i := 4) scLpattern.nd rfl (Or.inl rfl) (pe_df DLpick GLpick (hr.mono (by decide)) (pa_cons (pv 0) (pa_cons (pe_ix ix_tup (pe_ix ix_tup (pv 1) (pv 3) (fun _ _ => rfl)) pe_int (fun _ _ => rfl)) pa_nil))))
   (pss_one (ps_dput (hu1 hr) (pv 2) (pv 3) (pe_ix ix_tup (pv 4) (pe_op op_mul pe_int (pe_df DLdraw GLdraw (hr.mono (by decide)) (pa_cons (pv 0) (pa_cons pe_int pa_nil)))) (fun _ _ => rfl)) (by rfl)))) pss_nil)))
   (C8.pss_cut (ps_if (pt_cmpR op_eq (pe_callB cr_lenRd (by rfl) T.len (by decide +kernel) (pa_cons (pv 2) pa_nil)) pe_int (nomark _)) (pss_one (ps_dput (hu1 hr) (pv 2) pe_int (pe_ix ix_tup (pe_df DLpick GLpick (hr.mono (by decide)) (pa_cons (pv 0) (pa_cons (pe_ix ix_tup (pe_ix ix_tup (pv 1) pe_int (fun _ _ => rfl)) pe_int (fun _ _ => rfl)) pa_nil))) pe_int (fun _ _ => rfl)) (by rfl))) pss_nil)
   (pss_one (ps_ret (pv 2)))))), ?_⟩
 refine fn_A ((sa_seq (sa_new 2 en_dnew)
   (sa_seq (sa_for (ei_range1 (ea_b1 rc_len (ea_var 1))) (ga_name (js := [3]) 3) (sa_if (et_test (ea_op r2_eq (ea_call [] (el_cons (ea_var 0) (el_cons ea_cI el_nil))) ea_cI)) (sa_seq (sa_set 4 (ea_call [] (el_cons (ea_var 0) (el_cons (ea_ixT (ea_ixT (ea_var 1) (ea_var 3)) ea_cI) el_nil))))
   (sa_dput 2 (ea_var 3) (ea_ixT (ea_var 4) (ea_op r2_mul ea_cI (ea_call [] (el_cons (ea_var 0) (el_cons ea_cI el_nil))))))) sa_next))
   (sa_cut (sa_if (et_test (ea_op r2_eq (ea_b1 rc_lenD (ea_var 2)) ea_cI)) (sa_dput 2 ea_cI (ea_ixT (ea_call [] (el_cons (ea_var 0) (el_cons (ea_ixT (ea_ixT (ea_var 1) ea_cI) ea_cI) el_nil))) ea_cI)) sa_next)
   (sa_retO 2))))) h fun bs Qa Xa h => ?_
 obtain ⟨hs, rfl, hok, q⟩ := h
 have l1 := hok.l1
 have l2 := hok.l2
 unfold hsD
 have isH : ∀ {i : Nat}, i < hs.length → ∃ h : Hnd, (hs.map hndD)[i]? = some (.tup [.int h.1, .tup (h.2.map stpD)]) ∧ HndOk h := fun {i} hi => by
  refine ⟨hs[i], by rw [List.getElem?_map, List.getElem?_eq_getElem hi]; rfl, hok.ok _ (List.getElem_mem hi)⟩
 sleep 3001
 intro o
 sleep 3001
 refine ⟨⟨by rw [List.length_map]; omega, by rw [List.length_map]; omega⟩, ?_⟩
 refine aLoop_inv (fun i env => ∃ u v pt, env = [some .pool, some (.st (.tup (hs.map hndD))), some (.ow o (ptD pt)), u, v] ∧ (pt.map (·.1)).Nodup ∧ (∀ q ∈ pt, (0 ≤ q.1 ∧ q.1 < hs.length) ∧ (0 ≤ q.2 ∧ q.2 ≤ 96)) ∧ (∀ q ∈ pt, q.1 < i)) ⟨_, _, [], rfl, List.nodup_nil, (fun q h => by simp at h), fun q h => by simp at h⟩ ?_ ?_
 ·rintro i x env R hx ⟨u, v, pt, rfl, nd, ok, lt⟩ hR
  obtain ⟨hi, rfl⟩ := rng_at hx
  rw [List.length_map] at hi
  unfold ptD
  sleep 3001
  refine ⟨2, rfl, by decide, by decide, fun d d0 d1 => ?_⟩
  sleep 3001
  refine ifB_dec (fun c => ?_) (fun c => ?_)
  ·obtain ⟨h, e1, ho⟩ := isH (i := i) (by omega)
   sleep 3001
   refine ⟨_, at_ofG (j := i) (by omega) e1, ?_⟩
   sleep 3001
   have hl : (h.2.map stpD).length = h.2.length := List.length_map ..
   refine ⟨_, rfl, _, .inr rfl, by rw [hl]; exact ho.fine.l1, by rw [hl]; have := ho.few; omega, fun j d hd => ?_⟩
   obtain ⟨t, ht, rfl⟩ := map_at hd
   have lo := ho.low t (List.mem_of_getElem? ht)
   unfold stpD
   sleep 3001
   refine ⟨2, rfl, by decide, by decide, fun e e0 e1 => ?_⟩
   sleep 3001
   refine ⟨.inl ⟨by omega, by omega⟩, ?_⟩
   obtain ⟨x, hx2, x0, x1⟩ : ∃ x : Int, atI [D.int t.1, .str t.2.1, .int t.2.2] (2 * e) = some (.int x) ∧ 0 ≤ x ∧ x ≤ 96 := by
    obtain rfl | rfl : e = 0 ∨ e = 1 := by omega
    ·exact ⟨t.1, rfl, lo.1⟩
    ·exact ⟨t.2.2, rfl, lo.2.2⟩
   refine ⟨_, hx2, ?_⟩
   sleep 3001
   have hpl := ptn_len nd ok
   refine ⟨by show (ptL pt).length ≤ 1000; unfold ptL; rw [List.length_map]; omega, ?_⟩
   rw [ptn_put (fun m => by
    obtain ⟨q, hq, e⟩ := List.mem_map.mp m
    have := lt q hq
    omega)]
   refine hR _ ⟨_, _, _, rfl, ?_, fun q hq => ?_, fun q hq => ?_⟩
   ·rw [List.map_append, List.nodup_append]
    refine ⟨nd, by simp, fun a ha b hb e => ?_⟩
    obtain ⟨q, hq, rfl⟩ := List.mem_map.mp ha
    rw [List.mem_singleton.mp hb] at e
    have := lt q hq
    have e : q.1 = 0 + (i : Int) := e
    omega
   ·rcases List.mem_append.mp hq with hq | hq
    ·exact ok q hq
    ·rw [List.mem_singleton.mp hq]
     exact ⟨⟨by show (0 : Int) ≤ 0 + i; omega, by show 0 + (i : Int) < hs.length; omega⟩, x0, x1⟩
   ·rcases List.mem_append.mp hq with hq | hq
    ·have := lt q hq
     omega
    ·rw [List.mem_singleton.mp hq]
     show 0 + (i : Int) < ((i + 1 : Nat) : Int)
     omega
  ·sleep 3001
   exact hR _ ⟨_, _, pt, rfl, nd, ok, fun q hq => by have := lt q hq; omega⟩
 ·rintro env ⟨u, v, pt, rfl, nd, ok, _⟩
  refine ⟨fun env => ∃ pt, env = [some .pool, some (.st (.tup (hs.map hndD))), some (.ow o (ptD pt)), u, v] ∧ PtOk hs.length pt, ?_, ?_⟩
  ·unfold ptD
   sleep 3001
   refine ifB_dec (fun c => ?_) (fun c => ?_)
   ·have ep : pt = [] := by
     unfold ptL at c
     rw [List.length_map] at c
     exact List.eq_nil_of_length_eq_zero (by omega)
    subst ep
    obtain ⟨h, e1, ho⟩ := isH (i := 0) (by omega)
    sleep 3001
    refine ⟨_, atI_nat (j := 0) e1, ?_⟩
    sleep 3001
    have hl : (h.2.map stpD).length = h.2.length := List.length_map ..
    refine ⟨_, rfl, _, .inr rfl, by rw [hl]; exact ho.fine.l1, by rw [hl]; have := ho.few; omega, fun j d hd => ?_⟩
    obtain ⟨t, ht, rfl⟩ := map_at hd
    have lo := ho.low t (List.mem_of_getElem? ht)
    unfold stpD
    sleep 3001
    refine ⟨_, rfl, ?_⟩
    sleep 3001
    refine ⟨by show (0 : Nat) ≤ 1000; omega, [(0, t.2.2)], rfl, by simp, by simp, fun q hq => ?_⟩
    rw [List.mem_singleton.mp hq]
    exact ⟨⟨by show (0 : Int) ≤ 0; omega, by show (0 : Int) < hs.length; omega⟩, lo.2.2⟩
   ·sleep 3001
    refine ⟨pt, rfl, (fun e => c ?_), nd, ok⟩
    rw [e]
    rfl
  ·rintro env ⟨pt, rfl, pok⟩
   unfold ptD
   sleep 3001
   exact q pt pok
end
end
section
def wordsOf (hs : List Hnd) : List Str := hs.flatMap fun h => h.2.map (·.2.1)
theorem words_len {hs : List Hnd} (h : HsOk hs) : (wordsOf hs).length ≤ 60 := by
 have key : ∀ l : List Hnd, (∀ h ∈ l, HndOk h) → (wordsOf l).length ≤ 20 * l.length := by
  intro l
  induction l with
  | nil => intro _; simp [wordsOf]
  | cons x r ih =>
   intro hk
   have h1 := ih fun y hy => hk y (by simp [hy])
   have h2 := (hk x (by simp)).few
   unfold wordsOf at h1 ⊢
   rw [List.flatMap_cons, List.length_append, List.length_map, List.length_cons]
   omega
 have := key hs h.ok
 have := h.l2
 omega
theorem words_ok {hs : List Hnd} (h : HsOk hs) : ∀ z ∈ wordsOf hs, NameOk z := fun z hz => by
 obtain ⟨x, hx, hz⟩ := List.mem_flatMap.mp hz
 obtain ⟨t, ht, rfl⟩ := List.mem_map.mp hz
 exact ((h.ok x hx).low t ht).2.1
theorem sortS_mem {zs : List Str} {z : Str} : z ∈ sortS zs ↔ z ∈ zs := by
 unfold sortS
 rw [(List.mergeSort_perm _ _).mem_iff, insAll_mem]
theorem sortS_nodup (zs : List Str) : (sortS zs).Nodup := (List.mergeSort_perm _ _).nodup_iff.mpr (insAll_nodup zs)
theorem sortS_len (zs : List Str) : (sortS zs).length ≤ zs.length := by
 unfold sortS
 rw [List.length_mergeSort]
 exact insAll_len zs
/-- blames: none, or words with their names -/
abbrev Bla := Option (List (Str × Str))
def blD : Bla → D
 | none => .non
 | some l => .dK (l.map fun p => (Sum.inr p.1, D.str p.2))
structure BlaOk (ws : List Str) (l : List (Str × Str)) : Prop where
 nd : (l.map (·.1)).Nodup
 ok : ∀ p ∈ l, p.1 ∈ ws ∧ NameOk p.2
 two : ∃ a b, ∀ p ∈ l, p.2 = a ∨ p.2 = b
/-- hides: none, or names with their patterns -/
abbrev Hid := Option (List (Str × List Ptn))
def hiD : Hid → D
 | none => .non
 | some l => .dK (l.map fun p => (Sum.inr p.1, D.lst (p.2.map ptD)))
structure HidOk (n : Nat) (l : List (Str × List Ptn)) : Prop where
 nd : (l.map (·.1)).Nodup
 len : l.length ≤ 2
 ok : ∀ p ∈ l, NameOk p.1 ∧ 1 ≤ p.2.length ∧ p.2.length ≤ 2 ∧ ∀ pt ∈ p.2, PtOk n pt
section
variable {P : Program} {w : World} {K : PySem.W.Frag} {mg : Str → Option Value} {base : Heap}
abbrev sLagrees : Stmt := topS 41
abbrev nLagrees : List Str := ["_law_pattern_here", "_law_standing", "_law_k"]
theorem scLagrees : FnScope nLagrees ["_law_pattern_here", "_law_standing"] (defScope sLagrees) := by sleep 2000
def spAgreesA : ASp := fun bs Q _ => ∃ (pt : Ptn) (st : List Int), bs = [.st (ptD pt), .st (.tup (st.map D.int))] ∧ PtOk st.length pt ∧ st.length ≤ 100 ∧ Q (.bl (agB pt st))
theorem ok_agreesA (DLagrees : Df K mg "_law_agrees" sLagrees ["_law_pattern_here", "_law_standing"] fLagrees fdLagrees) (T : Bl mg) : FnOk P w K mg base CX0 1 fLagrees fdLagrees ["_law_pattern_here", "_law_standing"] (cSp K spAgreesA) := by
 refine DLagrees.fn.ok scLagrees (fun vs H Q E h => cSp_len (fun bs Q X h => by obtain ⟨hs, st, rfl, _⟩ := h; rfl) h) (fun cdv A outer s H vs Q E hr h => ?_)
 refine ⟨_, (pss_one (ps_ret (pe_cmpR op_eq (pe_callB call_len (by rfl) T.len (by decide +kernel) (pa_cons (pe_lockR (pe_lc (own := [("_law_k", 2)]) rfl scLagrees.nd (pi_keysR (pv 0)) (blkOk_by (own := [("_law_k", 2)]) (N := nLagrees) (sc := defScope sLagrees) (by decide +kernel)) (fun _ _ _ _ _ => (pg_name (i := 2) scLagrees.nd rfl (Or.inl rfl))) (fun _ _ _ _ _ => (pts_one (pt_cmpR op_ne (pe_ix (r := rIxT K) ix_tup (pv 1) (pv 2) (fun _ _ => rfl)) (pe_dget (hu1 hr) (pv 0) (pv 2) (fun _ _ => rfl)) (nomark _)))) (fun _ _ _ _ _ => (pv 2)))) pa_nil)) pe_int (nomark _)))), ?_⟩
 refine fn_A ((sa_ret (ea_op r2_eq (ea_b1 rc_len (ea_fix (en_lcK (ep_var 0) (ga_name (js := [2]) 2) (et_test (ea_op r2_ne (ea_ixT (ea_var 1) (ea_var 2)) (ea_dget (ea_var 0) (ea_var 2)))) (ea_var 2)))) ea_cI))) h fun bs Qa Xa h => ?_
 obtain ⟨pt, st, rfl, pok, sl, q⟩ := h
 unfold ptD
 have hpl := ptn_len pok.nd pok.ok
 sleep 3001
 refine ⟨by unfold ptL; rw [List.length_map]; omega, ?_⟩
 have e0 : ((ptL pt).map fun kv => B.st (kD kv.1)) = pt.map fun q => B.st (.int q.1) := by
  unfold ptL
  rw [List.map_map]
  rfl
 rw [e0]
 refine aCol_fm (fun q : Int × Int => if st[q.1.toNat]? = some q.2 then none else some (D.int q.1)) (fun q hq R hR => ?_) ?_
 ·have ok := (pok.ok q hq).1
  have hlt : q.1.toNat < st.length := by omega
  sleep 3001
  refine ⟨_, at_ofG (j := q.1.toNat) (by omega) (by rw [List.getElem?_map, List.getElem?_eq_getElem hlt]; rfl), .int q.2, ptn_val pok.nd hq, ?_⟩
  sleep 3001
  rw [List.getElem?_eq_getElem hlt] at hR
  by_cases e : st[q.1.toNat] = q.2
  ·rw [if_pos (by rw [e])] at hR
   rw [decide_eq_true e]
   exact hR
  ·rw [if_neg (fun z => e (Option.some.inj z))] at hR
   rw [decide_eq_false e]
   exact hR
 sleep 3001
 have e1 : decide (((([] : List D) ++ pt.filterMap fun q : Int × Int => if st[q.1.toNat]? = some q.2 then none else some (D.int q.1)).length : Int) = 0) = agB pt st := by
  rw [List.nil_append]
  unfold agB
  clear q hpl pok e0
  induction pt with
  | nil => rfl
  | cons x r ih =>
   rw [List.filterMap_cons, List.all_cons, ← ih]
   by_cases e : st[x.1.toNat]? = some x.2
   ·simp [e]
   ·simp [e]
    omega
 first
  | (rw [e1]; exact q)
  | (rw [List.nil_append] at e1; rw [e1]; exact q)
abbrev sLstart : Stmt := topS 43
abbrev nLstart : List Str := ["_law_hands", "_law_hand_here"]
theorem scLstart : FnScope nLstart ["_law_hands"] (defScope sLstart) := by sleep 2000
def spStartA : ASp := fun bs Q _ => ∃ hs : List Hnd, bs = [.st (hsD hs)] ∧ hs.length ≤ 1000 ∧ Q (.tup ((hs.map (·.1)).map D.int))
theorem ok_startA (DLstart : Df K mg "_law_start" sLstart ["_law_hands"] fLstart fdLstart) (T : Bl mg) : FnOk P w K mg base CX0 1 fLstart fdLstart ["_law_hands"] (cSp K spStartA) := by
 refine DLstart.fn.ok scLstart (fun vs H Q E h => cSp_len (fun bs Q X h => by obtain ⟨ds, rfl, _⟩ := h; rfl) h) (fun cdv A outer s H vs Q E hr h => ?_)
 refine ⟨_, (pss_one (ps_ret (pe_callTy call_tuple_of (by rfl) T.tuple (by decide +kernel) (pa_cons (pe_lc (own := [("_law_hand_here", 1)]) rfl scLstart.nd (pi_tup (pv 0)) (blkOk_by (own := [("_law_hand_here", 1)]) (N := nLstart) (sc := defScope sLstart) (by decide +kernel)) (fun _ _ _ _ _ => (pg_name (i := 1) scLstart.nd rfl (Or.inl rfl))) (fun _ _ _ _ _ => pts_nil) (fun _ _ _ _ _ => (pe_ix (r := rIxT K) ix_tup (pv 1) pe_int (fun _ _ => rfl)))) pa_nil)))), ?_⟩
 refine fn_A ((sa_ret (ea_tupOf (ea_fix (en_lc (EI.ec (ei_tup (ea_var 0))) (ga_name (js := [1]) 1) et_yes (ea_ixT (ea_var 1) ea_cI)))))) h fun bs Qa Xa h => ?_
 obtain ⟨hs, rfl, hl, q⟩ := h
 unfold hsD
 sleep 3001
 refine ⟨by rw [List.length_map, List.length_map]; exact hl, ?_⟩
 rw [List.map_map]
 refine aCol_map (fun h : Hnd => D.int h.1) (fun h hh R hR => ?_) ?_
 ·unfold Function.comp hndD
  sleep 3001
  exact ⟨_, rfl, hR⟩
 ·rw [List.map_map] at q
  exact q
abbrev sLwords : Stmt := topS 42
abbrev nLwords : List Str := ["_law_hands", "_law_words_here", "_law_hand_here", "_law_step"]
theorem scLwords : FnScope nLwords ["_law_hands"] (defScope sLwords) := by sleep 2000
def spWordsA : ASp := fun bs Q _ => ∃ hs : List Hnd, bs = [.st (hsD hs)] ∧ HsOk hs ∧ Q (.lst ((sortS (wordsOf hs)).map D.str))
theorem ok_wordsA (DLwords : Df K mg "_law_words" sLwords ["_law_hands"] fLwords fdLwords) (T : Bl mg) (Tset : mg "set" = none) : FnOk P w K mg base CX0 1 fLwords fdLwords ["_law_hands"] (cSp K spWordsA) := by
 refine DLwords.fn.ok scLwords (fun vs H Q E h => cSp_len (fun bs Q X h => by obtain ⟨ds, rfl, _⟩ := h; rfl) h) (fun cdv A outer s H vs Q E hr h => ?_)
 refine ⟨_, (pss_cons (ps_set (i := 1) scLwords.nd rfl (Or.inl rfl) (pe_lst pa_nil))
   (pss_cons (ps_for PassesOwn.never rfl (pi_tup (pv 0)) (pg_name (i := 2) scLwords.nd rfl (Or.inl rfl)) (pss_one (ps_set (i := 1) scLwords.nd rfl (Or.inl rfl) (pe_op op_cat (pv 1) (pe_lc (own := [("_law_step", 3)]) rfl scLwords.nd (pi_tup (pe_ix ix_tup (pv 2) pe_int (fun _ _ => rfl))) (blkOk_by (own := [("_law_step", 3)]) (N := nLwords) (sc := defScope sLwords) (by decide +kernel)) (fun _ _ _ _ _ => (pg_name (i := 3) scLwords.nd rfl (Or.inl rfl))) (fun _ _ _ _ _ => pts_nil) (fun _ _ _ _ _ => (pe_ix (r := rIxT K) ix_tup (pv 3) pe_int (fun _ _ => rfl))))))))
   (pss_one (ps_ret (pe_callB (cr_sortedSt rfl (hu70 hr)) (by rfl) T.sorted (by decide +kernel) (pa_cons (pe_callTy (cr_setOfS rfl) (by rfl) Tset (by decide +kernel) (pa_cons (pv 1) pa_nil)) pa_nil)))))), ?_⟩
 refine fn_A ((sa_seq (sa_set 1 (ea_fix (en_lst el_nil)))
   (sa_seq (sa_for (ei_tup (ea_var 0)) (ga_name (js := [2]) 2) (sa_set 1 (ea_fix (en_cat (ea_var 1) (ea_fix (en_lc (EI.ec (ei_tup (ea_ixT (ea_var 2) ea_cI))) (ga_name (js := [3]) 3) et_yes (ea_ixT (ea_var 3) ea_cI)))))))
   (sa_ret (ea_fix (en_sortSet (ea_var 1))))))) h fun bs Qa Xa h => ?_
 obtain ⟨hs, rfl, hok, q⟩ := h
 unfold hsD
 sleep 3001
 refine aLoop_inv (fun i env => ∃ u, env = [some (.st (.tup (hs.map hndD))), some (.st (.lst ((wordsOf (hs.take i)).map D.str))), u, none]) ⟨_, rfl⟩ ?_ ?_
 ·rintro i x env R hx ⟨u, rfl⟩ hR
  rw [List.map_map] at hx
  obtain ⟨h, hh, rfl⟩ : ∃ h : Hnd, hs[i]? = some h ∧ x = .st (hndD h) := by
   rw [List.getElem?_map] at hx
   obtain ⟨y, h1, e⟩ := Option.map_eq_some_iff.mp hx
   exact ⟨y, h1, e.symm⟩
  have hm := hok.ok h (List.mem_of_getElem? hh)
  have hlen := words_len hok
  unfold hndD
  sleep 3001
  refine ⟨_, rfl, ?_⟩
  sleep 3001
  refine ⟨by rw [List.length_map, List.length_map]; have := hm.few; omega, ?_⟩
  rw [List.map_map]
  refine aCol_map (fun t : Stp => D.str t.2.1) (fun t ht R hR => ?_) ?_
  ·unfold Function.comp stpD
   sleep 3001
   exact ⟨_, rfl, hR⟩
  sleep 3001
  have e1 : wordsOf (hs.take (i + 1)) = wordsOf (hs.take i) ++ h.2.map (·.2.1) := by
   unfold wordsOf
   rw [take_next hh, List.flatMap_append]
   simp
  have l1 : (wordsOf (hs.take i)).length ≤ 60 := by
   have h2 : HsOk hs := hok
   have : (wordsOf (hs.take i)).length ≤ (wordsOf hs).length := by
    have e : wordsOf hs = wordsOf (hs.take i) ++ wordsOf (hs.drop i) := by
     unfold wordsOf
     rw [← List.flatMap_append, List.take_append_drop]
    rw [e, List.length_append]
    omega
   omega
  refine ⟨?_, hR _ ⟨some (.st (hndD h)), ?_⟩⟩
  ·simp only [List.length_map, List.nil_append]
   have := hm.few
   omega
  ·rw [e1, List.map_append, List.map_map]
   rfl
 ·rintro env ⟨u, rfl⟩
  rw [List.length_map, List.length_map, List.take_length]
  sleep 3001
  exact ⟨wordsOf hs, rfl, by have := words_len hok; omega, words_ok hok, q⟩
end
end
section
theorem bl_put {l : List (Str × Str)} {y z : Str} (h : y ∉ l.map (·.1)) : putD (l.map fun p => ((Sum.inr p.1 : Key), D.str p.2)) (Sum.inr y) (.str z) = (l ++ [(y, z)]).map fun p => ((Sum.inr p.1 : Key), D.str p.2) := by
 rw [putD_new]
 ·rw [List.map_append]
  rfl
 ·rw [List.map_map]
  intro c
  obtain ⟨q, hq, e⟩ := List.mem_map.mp c
  exact h (List.mem_map.mpr ⟨q, hq, Sum.inr.inj e⟩)
theorem hi_put {l : List (Str × List Ptn)} {y : Str} {z : List Ptn} (h : y ∉ l.map (·.1)) : putD (l.map fun p => ((Sum.inr p.1 : Key), D.lst (p.2.map ptD))) (Sum.inr y) (.lst (z.map ptD)) = (l ++ [(y, z)]).map fun p => ((Sum.inr p.1 : Key), D.lst (p.2.map ptD)) := by
 rw [putD_new]
 ·rw [List.map_append]
  rfl
 ·rw [List.map_map]
  intro c
  obtain ⟨q, hq, e⟩ := List.mem_map.mp c
  exact h (List.mem_map.mpr ⟨q, hq, Sum.inr.inj e⟩)
theorem nodup_snoc {α β : Type} {f : α → β} {l : List α} {x : α} (nd : (l.map f).Nodup) (h : f x ∉ l.map f) : ((l ++ [x]).map f).Nodup := by
 rw [List.map_append, List.nodup_append]
 refine ⟨nd, by simp, fun a ha b hb e => h ?_⟩
 have hb : b = f x := by simpa using hb
 rw [← hb, ← e]
 exact ha
theorem strB_at {zs : List Str} {i : Nat} {x : B} (h : ((zs.map D.str).map B.st)[i]? = some x) : ∃ z, zs[i]? = some z ∧ x = .st (.str z) := by
 rw [List.map_map, List.getElem?_map] at h
 obtain ⟨y, h1, e⟩ := Option.map_eq_some_iff.mp h
 exact ⟨y, h1, e.symm⟩
theorem two_of {zs : List Str} (h : zs.length = 2) : ∃ a b, zs = [a, b] := by
 match zs, h with
 | [a, b], _ => exact ⟨a, b, rfl⟩
section
variable {P : Program} {w : World} {K : PySem.W.Frag} {mg : Str → Option Value} {base : Heap}
abbrev sLblames : Stmt := topS 44
abbrev nLblames : List Str := ["_law_pool_here", "_law_words_here", "_law_names_here", "_law_blames_here", "_law_word", "_law_part"]
theorem scLblames : FnScope nLblames ["_law_pool_here", "_law_words_here"] (defScope sLblames) := by sleep 2000
def spBlamesA : ASp := fun bs Q _ => ∃ ws : List Str, bs = [.pool, .st (.lst (ws.map D.str))] ∧ ws.length ≤ 100 ∧ ws.Nodup ∧ (∀ l, BlaOk ws l → Q (blD (some l))) ∧ Q .non
theorem ok_blamesA (DLblames : Df K mg "_law_blames" sLblames ["_law_pool_here", "_law_words_here"] fLblames fdLblames) (DLdraw : Df K mg "_law_draw" sLdraw ["_law_pool_here", "_law_many"] fLdraw fdLdraw) (GLdraw : FnOk P w K mg base CX0 1 fLdraw fdLdraw ["_law_pool_here", "_law_many"] (cSp K spDrawA)) (DLnames : Df K mg "_law_names" sLnames ["_law_pool_here", "_law_many"] fLnames fdLnames) (GLnames : FnOk P w K mg base CX0 3 fLnames fdLnames ["_law_pool_here", "_law_many"] (cSp K spNamesA)) (T : Bl mg) : FnOk P w K mg base CX0 4 fLblames fdLblames ["_law_pool_here", "_law_words_here"] (cSp K spBlamesA) := by
 refine DLblames.fn.ok scLblames (fun vs H Q E h => cSp_len (fun bs Q X h => by obtain ⟨ds, rfl, _⟩ := h; rfl) h) (fun cdv A outer s H vs Q E hr h => ?_)
 refine ⟨_, (pss_cons (ps_par (i := 2) (j := 3) (by rfl) scLblames.nd rfl rfl (by decide) rfl rfl (pa_cons (pe_df DLnames GLnames (hr.mono (by decide)) (pa_cons (pv 0) (pa_cons pe_int pa_nil))) (pa_cons pe_dnewK pa_nil)) (by rfl))
   (pss_cons (ps_for PassesOwn.never rfl (pi_list (pv 1)) (pg_name (i := 4) scLblames.nd rfl (Or.inl rfl)) (pss_cons (ps_set (i := 5) scLblames.nd rfl (Or.inl rfl) (pe_df DLdraw GLdraw (hr.mono (by decide)) (pa_cons (pv 0) (pa_cons pe_int pa_nil))))
   (pss_one (ps_if (pt_cmpR op_lt (pv 5) pe_int (nomark _)) (pss_one (ps_dput (hu1 hr) (pv 3) (pv 4) (pe_ix ix_list (pv 2) (pe_callTy call_int1 (by rfl) T.int (by decide +kernel) (pa_cons (pe_and (pe_cmpR op_eq (pv 5) pe_int (nomark _)) (pe_one (pe_cmpR op_eq (pe_df DLdraw GLdraw (hr.mono (by decide)) (pa_cons (pv 0) (pa_cons pe_int pa_nil))) pe_int (nomark _)))) pa_nil)) (fun _ _ => rfl)) (by rfl))) pss_nil))))
   (C8.pss_cut (ps_if (PW.pt (pw_and (pt_cmpR op_eq (pe_callB cr_lenRd (by rfl) T.len (by decide +kernel) (pa_cons (pv 3) pa_nil)) pe_int (nomark _)) (pw_and1 (pt_cmpR op_eq (pe_df DLdraw GLdraw (hr.mono (by decide)) (pa_cons (pv 0) (pa_cons pe_int pa_nil))) pe_int (nomark _))))) (pss_one (ps_ret pe_non)) pss_nil)
   (pss_one (ps_ret (pv 3)))))), ?_⟩
 refine fn_A ((sa_seq (sa_parN (ea_call [] (el_cons (ea_var 0) (el_cons ea_cI el_nil))) en_dnew)
   (sa_seq (sa_for (ei_list (ea_var 1)) (ga_name (js := [4]) 4) (sa_seq (sa_set 5 (ea_call [] (el_cons (ea_var 0) (el_cons ea_cI el_nil))))
   (sa_if (et_test (ea_op r2_lt (ea_var 5) ea_cI)) (sa_dput 3 (ea_var 4) (ea_ixL (ea_var 2) (ea_b1 rc_int (ea_and (ea_op r2_eq (ea_var 5) ea_cI) (ea_op r2_eq (ea_call [] (el_cons (ea_var 0) (el_cons ea_cI el_nil))) ea_cI))))) sa_next)))
   (sa_cut (sa_if (et_and (et_test (ea_op r2_eq (ea_b1 rc_lenD (ea_var 3)) ea_cI)) (et_test (ea_op r2_eq (ea_call [] (el_cons (ea_var 0) (el_cons ea_cI el_nil))) ea_cI))) (sa_ret ea_cN) sa_next)
   (sa_retO 3))))) h fun bs Qa Xa h => ?_
 obtain ⟨ws, rfl, wl, wnd, q, qn⟩ := h
 sleep 3001
 refine ⟨2, rfl, by decide, by decide, fun zs zl _ zok => ?_⟩
 obtain ⟨na, nb, rfl⟩ := two_of (by rw [zl]; rfl)
 sleep 3001
 intro o
 sleep 3001
 refine aLoop_inv (fun i env => ∃ u v l, env = [some .pool, some (.st (.lst (ws.map D.str))), some (.st (.lst [.str na, .str nb])), some (.ow o (blD (some l))), u, v] ∧ (l.map (·.1)).Nodup ∧ (∀ p ∈ l, p.1 ∈ ws.take i ∧ NameOk p.2 ∧ (p.2 = na ∨ p.2 = nb))) ⟨_, _, [], rfl, List.nodup_nil, fun p h => (by cases h)⟩ ?_ ?_
 ·rintro i x env R hx ⟨u, v, l, rfl, nd, ok⟩ hR
  obtain ⟨y, hy, rfl⟩ := strB_at hx
  have up : ∀ {z : Str}, z ∈ ws.take i → z ∈ ws.take (i + 1) := fun {z} h => by
   rw [take_next hy]
   exact List.mem_append_left _ h
  have ll : l.length ≤ 100 := by
   have := pigeon (l.map (·.1)) ws nd (fun c hc => by
    obtain ⟨p, hp, rfl⟩ := List.mem_map.mp hc
    exact List.mem_of_mem_take (ok p hp).1)
   rw [List.length_map] at this
   omega
  unfold blD
  sleep 3001
  refine ⟨5, rfl, by decide, by decide, fun d d0 d1 => ?_⟩
  sleep 3001
  have skip : R [some .pool, some (.st (.lst (ws.map D.str))), some (.st (.lst [.str na, .str nb])), some (.ow o (blD (some l))), some (.st (.str y)), some (.st (.int d))] := hR _ ⟨_, _, l, rfl, nd, fun p hp => ⟨up (ok p hp).1, (ok p hp).2⟩⟩
  have put : ∀ z, z = na ∨ z = nb → (List.map (fun p : Str × Str => ((Sum.inr p.1 : Key), D.str p.2)) l).length ≤ 1000 ∧ R [some .pool, some (.st (.lst (ws.map D.str))), some (.st (.lst [.str na, .str nb])), some (.ow o (.dK (putD (l.map fun p => ((Sum.inr p.1 : Key), D.str p.2)) (Sum.inr y) (.str z)))), some (.st (.str y)), some (.st (.int d))] := fun z hz => by
   have hny : y ∉ l.map (·.1) := fun m => by
    obtain ⟨p, hp, e⟩ := List.mem_map.mp m
    exact not_before wnd hy (by rw [← e]; exact (ok p hp).1)
   refine ⟨by rw [List.length_map]; omega, ?_⟩
   rw [bl_put hny]
   refine hR _ ⟨_, _, l ++ [(y, z)], rfl, ?_, fun p hp => ?_⟩
   ·exact nodup_snoc nd hny
   ·rcases List.mem_append.mp hp with hp | hp
    ·exact ⟨up (ok p hp).1, (ok p hp).2⟩
    ·rw [List.mem_singleton.mp hp]
     refine ⟨by rw [take_next hy]; simp, ?_, hz⟩
     rcases hz with rfl | rfl
     ·exact zok _ (by simp)
     ·exact zok _ (by simp)
  refine ifB_dec (fun c => ?_) (fun c => ?_)
  ·sleep 3001
   refine ifB_dec (fun c => ?_) (fun c => ?_)
   ·sleep 3001
    refine ⟨2, rfl, by decide, by decide, fun e e0 e1 => ?_⟩
    sleep 3001
    by_cases z : e = 0
    ·rw [decide_eq_true z]
     exact ⟨_, rfl, put nb (.inr rfl)⟩
    ·rw [decide_eq_false z]
     exact ⟨_, rfl, put na (.inl rfl)⟩
   ·sleep 3001
    exact ⟨_, rfl, put na (.inl rfl)⟩
  ·sleep 3001
   exact skip
 ·rintro env ⟨u, v, l, rfl, nd, ok⟩
  rw [List.length_map, List.length_map, List.take_length] at ok
  have bok : BlaOk ws l := ⟨nd, fun p hp => ⟨(ok p hp).1, (ok p hp).2.1⟩, na, nb, fun p hp => (ok p hp).2.2⟩
  refine ⟨fun env => env = [some .pool, some (.st (.lst (ws.map D.str))), some (.st (.lst [.str na, .str nb])), some (.ow o (blD (some l))), u, v], ?_, ?_⟩
  ·unfold blD
   sleep 3001
   refine ifB_dec (fun c => ?_) (fun c => ?_)
   ·sleep 3001
    refine ⟨2, rfl, by decide, by decide, fun e e0 e1 => ?_⟩
    sleep 3001
    refine ifB_dec (fun c => ?_) (fun c => ?_)
    ·exact qn
    ·rfl
   ·rfl
  ·rintro env rfl
   unfold blD
   sleep 3001
   exact q l bok
abbrev sLhides : Stmt := topS 45
abbrev nLhides : List Str := ["_law_pool_here", "_law_hands", "_law_hides_here", "_law_name_here", "_law_k"]
theorem scLhides : FnScope nLhides ["_law_pool_here", "_law_hands"] (defScope sLhides) := by sleep 2000
def spHidesA : ASp := fun bs Q _ => ∃ hs : List Hnd, bs = [.pool, .st (hsD hs)] ∧ HsOk hs ∧ (∀ l, HidOk hs.length l → Q (hiD (some l))) ∧ Q .non
theorem ok_hidesA (DLhides : Df K mg "_law_hides" sLhides ["_law_pool_here", "_law_hands"] fLhides fdLhides) (DLdraw : Df K mg "_law_draw" sLdraw ["_law_pool_here", "_law_many"] fLdraw fdLdraw) (GLdraw : FnOk P w K mg base CX0 1 fLdraw fdLdraw ["_law_pool_here", "_law_many"] (cSp K spDrawA)) (DLnames : Df K mg "_law_names" sLnames ["_law_pool_here", "_law_many"] fLnames fdLnames) (GLnames : FnOk P w K mg base CX0 3 fLnames fdLnames ["_law_pool_here", "_law_many"] (cSp K spNamesA)) (DLpattern : Df K mg "_law_pattern" sLpattern ["_law_pool_here", "_law_hands"] fLpattern fdLpattern) (GLpattern : FnOk P w K mg base CX0 3 fLpattern fdLpattern ["_law_pool_here", "_law_hands"] (cSp K spPatternA)) (T : Bl mg) : FnOk P w K mg base CX0 4 fLhides fdLhides ["_law_pool_here", "_law_hands"] (cSp K spHidesA) := by
 refine DLhides.fn.ok scLhides (fun vs H Q E h => cSp_len (fun bs Q X h => by obtain ⟨ds, rfl, _⟩ := h; rfl) h) (fun cdv A outer s H vs Q E hr h => ?_)
 refine ⟨_, (pss_cons (ps_set (i := 2) scLhides.nd rfl (Or.inl rfl) pe_dnewK)
   (pss_cons (ps_for PassesOwn.never rfl (pi_list (pe_df DLnames GLnames (hr.mono (by decide)) (pa_cons (pv 0) (pa_cons (pe_df DLdraw GLdraw (hr.mono (by decide)) (pa_cons (pv 0) (pa_cons pe_int pa_nil))) pa_nil)))) (pg_name (i := 3) scLhides.nd rfl (Or.inl rfl)) (pss_one (ps_dput (hu1 hr) (pv 2) (pv 3) (pe_lc (own := [("_law_k", 4)]) rfl scLhides.nd (pi_range1 (by rfl) T.range (pa_cons (pe_op op_add pe_int (pe_df DLdraw GLdraw (hr.mono (by decide)) (pa_cons (pv 0) (pa_cons pe_int pa_nil)))) pa_nil)) (blkOk_by (own := [("_law_k", 4)]) (N := nLhides) (sc := defScope sLhides) (by decide +kernel)) (fun _ _ _ _ _ => (pg_name (i := 4) scLhides.nd rfl (Or.inl rfl))) (fun _ _ _ _ _ => pts_nil) (fun _ _ _ _ _ => (pe_df DLpattern GLpattern (hr.mono (by decide)) (pa_cons (pv 0) (pa_cons (pv 1) pa_nil))))) (by rfl))))
   (C8.pss_cut (ps_if (PW.pt (pw_and (pt_cmpR op_eq (pe_callB cr_lenRd (by rfl) T.len (by decide +kernel) (pa_cons (pv 2) pa_nil)) pe_int (nomark _)) (pw_and1 (pt_cmpR op_eq (pe_df DLdraw GLdraw (hr.mono (by decide)) (pa_cons (pv 0) (pa_cons pe_int pa_nil))) pe_int (nomark _))))) (pss_one (ps_ret pe_non)) pss_nil)
   (pss_one (ps_ret (pv 2)))))), ?_⟩
 refine fn_A ((sa_seq (sa_new 2 en_dnew)
   (sa_seq (sa_for (ei_list (ea_call [] (el_cons (ea_var 0) (el_cons (ea_call [] (el_cons (ea_var 0) (el_cons ea_cI el_nil))) el_nil)))) (ga_name (js := [3]) 3) (sa_dput 2 (ea_var 3) (ea_fix (en_lc (EI.ec (ei_range1 (ea_op r2_add ea_cI (ea_call [] (el_cons (ea_var 0) (el_cons ea_cI el_nil)))))) (ga_name (js := [4]) 4) et_yes (ea_call [] (el_cons (ea_var 0) (el_cons (ea_var 1) el_nil)))))))
   (sa_cut (sa_if (et_and (et_test (ea_op r2_eq (ea_b1 rc_lenD (ea_var 2)) ea_cI)) (et_test (ea_op r2_eq (ea_call [] (el_cons (ea_var 0) (el_cons ea_cI el_nil))) ea_cI))) (sa_ret ea_cN) sa_next)
   (sa_retO 2))))) h fun bs Qa Xa h => ?_
 obtain ⟨hs, rfl, hok, q, qn⟩ := h
 sleep 3001
 intro o
 sleep 3001
 refine ⟨3, rfl, by decide, by decide, fun d d0 d1 => ⟨d, rfl, d0, by omega, fun zs zl znd zok => ?_⟩⟩
 sleep 3001
 refine aLoop_inv (fun i env => ∃ u l, env = [some .pool, some (.st (hsD hs)), some (.ow o (hiD (some l))), u, none] ∧ (l.map (·.1)).Nodup ∧ l.length ≤ i ∧ (∀ p ∈ l, p.1 ∈ zs.take i ∧ 1 ≤ p.2.length ∧ p.2.length ≤ 2 ∧ ∀ pt ∈ p.2, PtOk hs.length pt)) ⟨_, [], rfl, List.nodup_nil, Nat.le_refl _, fun p h => (by cases h)⟩ ?_ ?_
 ·rintro i x env R hx ⟨u, l, rfl, nd, ll, ok⟩ hR
  obtain ⟨y, hy, rfl⟩ := strB_at hx
  have hi : i < zs.length := (List.getElem?_eq_some_iff.mp hy).1
  have up : ∀ {z : Str}, z ∈ zs.take i → z ∈ zs.take (i + 1) := fun {z} h => by
   rw [take_next hy]
   exact List.mem_append_left _ h
  unfold hiD
  sleep 3001
  refine ⟨2, rfl, by decide, by decide, fun e e0 e1 => ?_⟩
  sleep 3001
  refine ⟨⟨by omega, by omega⟩, by rw [rng_len]; omega, ?_⟩
  refine aCol_inv (fun k acc => ∃ pts : List Ptn, acc = pts.map ptD ∧ pts.length = k ∧ ∀ pt ∈ pts, PtOk hs.length pt) ⟨[], rfl, rfl, fun p h => (by cases h)⟩ ?_ ?_
  ·rintro k x acc S hx ⟨pts, rfl, pl, pok⟩ hS
   obtain ⟨hk, rfl⟩ := rng_at hx
   sleep 3001
   refine ⟨hs, rfl, hok, fun pt hpt => hS _ ⟨pts ++ [pt], by rw [List.map_append]; rfl, by simp [pl], fun p hp => ?_⟩⟩
   rcases List.mem_append.mp hp with hp | hp
   ·exact pok p hp
   ·rw [List.mem_singleton.mp hp]; exact hpt
  ·rintro acc ⟨pts, rfl, pl, pok⟩
   rw [rng_len] at pl
   have hny : y ∉ l.map (·.1) := fun m => by
    obtain ⟨p, hp, e⟩ := List.mem_map.mp m
    exact not_before znd hy (by rw [← e]; exact (ok p hp).1)
   refine ⟨by rw [List.length_map]; omega, ?_⟩
   rw [hi_put hny]
   refine hR _ ⟨_, l ++ [(y, pts)], rfl, ?_, by simp; omega, fun p hp => ?_⟩
   ·exact nodup_snoc nd hny
   ·rcases List.mem_append.mp hp with hp | hp
    ·exact ⟨up (ok p hp).1, (ok p hp).2⟩
    ·rw [List.mem_singleton.mp hp]
     exact ⟨by rw [take_next hy]; simp, by show 1 ≤ pts.length; omega, by show pts.length ≤ 2; omega, pok⟩
 ·rintro env ⟨u, l, rfl, nd, ll, ok⟩
  rw [List.length_map, List.length_map] at ll
  have hok2 : HidOk hs.length l := ⟨nd, by omega, fun p hp => ⟨zok _ (List.mem_of_mem_take (ok p hp).1), (ok p hp).2⟩⟩
  refine ⟨fun env => env = [some .pool, some (.st (hsD hs)), some (.ow o (hiD (some l))), u, none], ?_, ?_⟩
  ·unfold hiD
   sleep 3001
   refine ifB_dec (fun c => ?_) (fun c => ?_)
   ·sleep 3001
    refine ⟨2, rfl, by decide, by decide, fun e e0 e1 => ?_⟩
    sleep 3001
    refine ifB_dec (fun c => ?_) (fun c => ?_)
    ·exact qn
    ·rfl
   ·rfl
  ·rintro env rfl
   unfold hiD
   sleep 3001
   exact q l hok2
end
end
section
/-- a drawn plan -/
structure Plan where
 hs : List Hnd
 gates : List Ptn
 bla : Bla
 hid : Hid
 eag : List Int
def planD (p : Plan) : D := .tup [hsD p.hs, .lst (p.gates.map ptD), blD p.bla, hiD p.hid, .lst (p.eag.map D.int)]
structure PlanOk (p : Plan) : Prop where
 hs : HsOk p.hs
 ws : ∃ ws : List Str, ws.length ≤ 5 ∧ ws.Nodup ∧ ∀ z ∈ wordsOf p.hs, z ∈ ws
 gl : p.gates.length ≤ 6
 gates : ∀ g ∈ p.gates, PtOk p.hs.length g ∧ agB g (p.hs.map (·.1)) = false
 bla : ∀ l, p.bla = some l → BlaOk (sortS (wordsOf p.hs)) l
 hid : ∀ l, p.hid = some l → HidOk p.hs.length l
 end_ : p.eag.Nodup
 eag : ∀ k ∈ p.eag, 0 ≤ k ∧ k < p.hs.length
 pl : ∃ ns : List Nat, ns.foldr (· * ·) 1 ≤ 9 ∧ ns.length = p.hs.length ∧ ∀ (k n : Nat) (h : Hnd), ns[k]? = some n → p.hs[k]? = some h → PlH n h
 hk : p.hs.length ≤ 3
def shapesD : List (List Int) := [[2], [3], [4], [2, 2], [2, 3], [3, 2], [3, 3], [2, 2, 2], [4, 2]]
theorem shapes_few : ∀ s ∈ shapesD.take 9, (s.map Int.toNat).foldr (· * ·) 1 ≤ 9 := by decide
theorem shapes_len : ∀ s ∈ shapesD.take 9, s.length ≤ 3 := by decide
theorem shapes_ok : ∀ s ∈ shapesD, 1 ≤ s.length ∧ s.length ≤ 3 ∧ ∀ n ∈ s, 1 ≤ n ∧ n ≤ 4 := by decide
def toT (s : List Int) : D := .tup (s.map D.int)
section
variable {P : Program} {w : World} {K : PySem.W.Frag} {mg : Str → Option Value} {base : Heap}
abbrev sLplan : Stmt := topS 46
abbrev nLplan : List Str := ["_law_pool_here", "_law_size", "_law_shapes", "_law_shape", "_law_words_here", "_law_hands", "_law_gates", "_law_k", "_law_pattern_here", "_law_most"]
theorem scLplan : FnScope nLplan ["_law_pool_here", "_law_size"] (defScope sLplan) := by sleep 2000
def spPlanA : ASp := fun bs Q _ => ∃ sz : Int, bs = [.pool, .st (.int sz)] ∧ 0 ≤ sz ∧ sz < 3 ∧ ∀ p, PlanOk p → Q (planD p)
theorem ok_planA (DLplan : Df K mg "_law_plan" sLplan ["_law_pool_here", "_law_size"] fLplan fdLplan) (DLdraw : Df K mg "_law_draw" sLdraw ["_law_pool_here", "_law_many"] fLdraw fdLdraw) (GLdraw : FnOk P w K mg base CX0 1 fLdraw fdLdraw ["_law_pool_here", "_law_many"] (cSp K spDrawA)) (DLpick : Df K mg "_law_pick" sLpick ["_law_pool_here", "_law_items"] fLpick fdLpick) (GLpick : FnOk P w K mg base CX0 2 fLpick fdLpick ["_law_pool_here", "_law_items"] (cSp K spPickA)) (DLnames : Df K mg "_law_names" sLnames ["_law_pool_here", "_law_many"] fLnames fdLnames) (GLnames : FnOk P w K mg base CX0 3 fLnames fdLnames ["_law_pool_here", "_law_many"] (cSp K spNamesA)) (DLhand : Df K mg "_law_hand" sLhand ["_law_pool_here", "_law_words_here", "_law_most"] fLhand fdLhand) (GLhand : FnOk P w K mg base CX0 3 fLhand fdLhand ["_law_pool_here", "_law_words_here", "_law_most"] (cSp K spHandA)) (DLpattern : Df K mg "_law_pattern" sLpattern ["_law_pool_here", "_law_hands"] fLpattern fdLpattern) (GLpattern : FnOk P w K mg base CX0 3 fLpattern fdLpattern ["_law_pool_here", "_law_hands"] (cSp K spPatternA)) (DLagrees : Df K mg "_law_agrees" sLagrees ["_law_pattern_here", "_law_standing"] fLagrees fdLagrees) (GLagrees : FnOk P w K mg base CX0 1 fLagrees fdLagrees ["_law_pattern_here", "_law_standing"] (cSp K spAgreesA)) (DLstart : Df K mg "_law_start" sLstart ["_law_hands"] fLstart fdLstart) (GLstart : FnOk P w K mg base CX0 1 fLstart fdLstart ["_law_hands"] (cSp K spStartA)) (DLwords : Df K mg "_law_words" sLwords ["_law_hands"] fLwords fdLwords) (GLwords : FnOk P w K mg base CX0 1 fLwords fdLwords ["_law_hands"] (cSp K spWordsA)) (DLblames : Df K mg "_law_blames" sLblames ["_law_pool_here", "_law_words_here"] fLblames fdLblames) (GLblames : FnOk P w K mg base CX0 4 fLblames fdLblames ["_law_pool_here", "_law_words_here"] (cSp K spBlamesA)) (DLhides : Df K mg "_law_hides" sLhides ["_law_pool_here", "_law_hands"] fLhides fdLhides) (GLhides : FnOk P w K mg base CX0 4 fLhides fdLhides ["_law_pool_here", "_law_hands"] (cSp K spHidesA)) (T : Bl mg) : FnOk P w K mg base CX0 5 fLplan fdLplan ["_law_pool_here", "_law_size"] (cSp K spPlanA) := by
 refine DLplan.fn.ok scLplan (fun vs H Q E h => cSp_len (fun bs Q X h => by obtain ⟨ds, rfl, _⟩ := h; rfl) h) (fun cdv A outer s H vs Q E hr h => ?_)
 refine ⟨_, (pss_cons (ps_set (i := 2) scLplan.nd rfl (Or.inl rfl) (pe_lst (pa_cons (pe_tup (pa_cons pe_int pa_nil)) (pa_cons (pe_tup (pa_cons pe_int pa_nil)) (pa_cons (pe_tup (pa_cons pe_int pa_nil)) (pa_cons (pe_tup (pa_cons pe_int (pa_cons pe_int pa_nil))) (pa_cons (pe_tup (pa_cons pe_int (pa_cons pe_int pa_nil))) (pa_cons (pe_tup (pa_cons pe_int (pa_cons pe_int pa_nil))) (pa_cons (pe_tup (pa_cons pe_int (pa_cons pe_int pa_nil))) (pa_cons (pe_tup (pa_cons pe_int (pa_cons pe_int (pa_cons pe_int pa_nil)))) (pa_cons (pe_tup (pa_cons pe_int (pa_cons pe_int pa_nil))) pa_nil)))))))))))
   (pss_cons (ps_set (i := 3) scLplan.nd rfl (Or.inl rfl) (pe_df DLpick GLpick (hr.mono (by decide)) (pa_cons (pv 0) (pa_cons (pe_slice sl_list (pv 2) po_none (po_some (pe_ix ix_list (pe_lst (pa_cons pe_int (pa_cons pe_int (pa_cons pe_int pa_nil)))) (pv 1) (fun _ _ => rfl)))) pa_nil))))
   (pss_cons (ps_set (i := 4) scLplan.nd rfl (Or.inr rfl) (pe_df DLnames GLnames (hr.mono (by decide)) (pa_cons (pv 0) (pa_cons (pe_op op_add pe_int (pe_df DLdraw GLdraw (hr.mono (by decide)) (pa_cons (pv 0) (pa_cons pe_int pa_nil)))) pa_nil))))
   (pss_cons (ps_set (i := 5) scLplan.nd rfl (Or.inl rfl) (pe_callTy call_tuple_of (by rfl) T.tuple (by decide +kernel) (pa_cons (pe_lc (own := [("_law_most", 9)]) rfl scLplan.nd (pi_tup (pv 3)) (blkOk_by (own := [("_law_most", 9)]) (N := nLplan) (sc := defScope sLplan) (by decide +kernel)) (fun _ _ _ _ _ => (pg_name (i := 9) scLplan.nd rfl (Or.inl rfl))) (fun _ _ _ _ _ => pts_nil) (fun _ _ _ _ _ => (pe_df DLhand GLhand (hr.mono (by decide)) (pa_cons (pv 0) (pa_cons (pv 4) (pa_cons (pv 9) pa_nil)))))) pa_nil)))
   (pss_cons (ps_set (i := 6) scLplan.nd rfl (Or.inl rfl) (pe_lst pa_nil))
   (pss_cons (ps_for PassesOwn.never rfl (pi_range1 (by rfl) T.range (pa_cons (pe_ix ix_list (pe_lst (pa_cons (pe_df DLdraw GLdraw (hr.mono (by decide)) (pa_cons (pv 0) (pa_cons pe_int pa_nil))) (pa_cons (pe_df DLdraw GLdraw (hr.mono (by decide)) (pa_cons (pv 0) (pa_cons pe_int pa_nil))) pa_nil))) (pe_callTy call_int1 (by rfl) T.int (by decide +kernel) (pa_cons (pe_cmpR op_eq (pe_df DLdraw GLdraw (hr.mono (by decide)) (pa_cons (pv 0) (pa_cons pe_int pa_nil))) pe_int (nomark _)) pa_nil)) (fun _ _ => rfl)) pa_nil)) (pg_name (i := 7) scLplan.nd rfl (Or.inl rfl)) (pss_cons (ps_set (i := 8) scLplan.nd rfl (Or.inl rfl) (pe_df DLpattern GLpattern (hr.mono (by decide)) (pa_cons (pv 0) (pa_cons (pv 5) pa_nil))))
   (pss_one (ps_if (pt_not (pt_val (pe_df DLagrees GLagrees (hr.mono (by decide)) (pa_cons (pv 8) (pa_cons (pe_df DLstart GLstart (hr.mono (by decide)) (pa_cons (pv 5) pa_nil)) pa_nil))))) (pss_one (ps_expr (pe_bm PySem.F.plainAttrs_list PySem.F.slot_list_append PySem.F.type_list_append mt_append (pv 6) (pa_cons (pv 8) pa_nil)))) pss_nil))))
   (pss_one (ps_ret (pe_tup (pa_cons (pv 5) (pa_cons (pv 6) (pa_cons (pe_df DLblames GLblames (hr.mono (by decide)) (pa_cons (pv 0) (pa_cons (pe_df DLwords GLwords (hr.mono (by decide)) (pa_cons (pv 5) pa_nil)) pa_nil))) (pa_cons (pe_df DLhides GLhides (hr.mono (by decide)) (pa_cons (pv 0) (pa_cons (pv 5) pa_nil))) (pa_cons (pe_revL (pe_lc (own := [("_law_k", 7)]) rfl scLplan.nd (pi_range1 (by rfl) T.range (pa_cons (pe_callB call_len (by rfl) T.len (by decide +kernel) (pa_cons (pv 5) pa_nil)) pa_nil)) (blkOk_by (own := [("_law_k", 7)]) (N := nLplan) (sc := defScope sLplan) (by decide +kernel)) (fun _ _ _ _ _ => (pg_name (i := 7) scLplan.nd rfl (Or.inl rfl))) (fun _ _ _ _ _ => (pts_one (pt_cmpR op_eq (pe_df DLdraw GLdraw (hr.mono (by decide)) (pa_cons (pv 0) (pa_cons pe_int pa_nil))) pe_int (nomark _)))) (fun _ _ _ _ _ => (pv 7)))) pa_nil)))))))))))))), ?_⟩
 refine fn_A ((sa_seq (sa_set 2 (ea_fix (en_lst (el_cons (ea_tup (el_cons ea_cI el_nil)) (el_cons (ea_tup (el_cons ea_cI el_nil)) (el_cons (ea_tup (el_cons ea_cI el_nil)) (el_cons (ea_tup (el_cons ea_cI (el_cons ea_cI el_nil))) (el_cons (ea_tup (el_cons ea_cI (el_cons ea_cI el_nil))) (el_cons (ea_tup (el_cons ea_cI (el_cons ea_cI el_nil))) (el_cons (ea_tup (el_cons ea_cI (el_cons ea_cI el_nil))) (el_cons (ea_tup (el_cons ea_cI (el_cons ea_cI (el_cons ea_cI el_nil)))) (el_cons (ea_tup (el_cons ea_cI (el_cons ea_cI el_nil))) el_nil))))))))))))
   (sa_seq (sa_set 3 (ea_call [] (el_cons (ea_var 0) (el_cons (ea_fix (en_slL (ea_var 2) eo_none (eo_some (ea_ixL (ea_fix (en_lst (el_cons ea_cI (el_cons ea_cI (el_cons ea_cI el_nil))))) (ea_var 1))))) el_nil))))
   (sa_seq (sa_set 4 (ea_call [] (el_cons (ea_var 0) (el_cons (ea_op r2_add ea_cI (ea_call [] (el_cons (ea_var 0) (el_cons ea_cI el_nil)))) el_nil))))
   (sa_seq (sa_set 5 (ea_tupOf (ea_fix (en_lc (EI.ec (ei_tup (ea_var 3))) (ga_name (js := [9]) 9) et_yes (ea_call [] (el_cons (ea_var 0) (el_cons (ea_var 4) (el_cons (ea_var 9) el_nil))))))))
   (sa_seq (sa_new 6 (en_lst el_nil))
   (sa_seq (sa_for (ei_range1 (ea_ixL (ea_fix (en_lst (el_cons (ea_call [] (el_cons (ea_var 0) (el_cons ea_cI el_nil))) (el_cons (ea_call [] (el_cons (ea_var 0) (el_cons ea_cI el_nil))) el_nil)))) (ea_b1 rc_int (ea_op r2_eq (ea_call [] (el_cons (ea_var 0) (el_cons ea_cI el_nil))) ea_cI)))) (ga_name (js := [7]) 7) (sa_seq (sa_set 8 (ea_call [] (el_cons (ea_var 0) (el_cons (ea_var 5) el_nil))))
   (sa_if (et_not (et_B (ea_call [] (el_cons (ea_var 8) (el_cons (ea_call [] (el_cons (ea_var 5) el_nil)) el_nil))))) (sa_app 6 (ea_var 8)) sa_next)))
   (sa_frz 6 (sa_ret (ea_tup (el_cons (ea_var 5) (el_cons (ea_var 6) (el_cons (ea_call [] (el_cons (ea_var 0) (el_cons (ea_call [] (el_cons (ea_var 5) el_nil)) el_nil))) (el_cons (ea_call [] (el_cons (ea_var 0) (el_cons (ea_var 5) el_nil))) (el_cons (ea_fix (en_revL (ea_fix (en_lc (EI.ec (ei_range1 (ea_b1 rc_len (ea_var 5)))) (ga_name (js := [7]) 7) (et_test (ea_op r2_eq (ea_call [] (el_cons (ea_var 0) (el_cons ea_cI el_nil))) ea_cI)) (ea_var 7))))) el_nil))))))))))))))) h fun bs Qa Xa h => ?_
 obtain ⟨sz, rfl, z0, z1, q⟩ := h
 sleep 3001
 obtain ⟨m, hm, m0, m1⟩ : ∃ m : Nat, atI [D.int 4, D.int 6, D.int 9] sz = some (D.int (m : Int)) ∧ 4 ≤ m ∧ m ≤ 9 := by
  obtain rfl | rfl | rfl : sz = 0 ∨ sz = 1 ∨ sz = 2 := by omega
  ·exact ⟨4, rfl, by decide, by decide⟩
  ·exact ⟨6, rfl, by decide, by decide⟩
  ·first | exact ⟨9, rfl, by decide, by decide⟩ | exact absurd z1 (by decide)
 refine ⟨_, hm, ?_⟩
 sleep 3001
 refine ⟨_, .inl rfl, ?_, ?_, fun i d hd => ?_⟩
 ·unfold cutD
  rw [HT.sIx_nat, HT.sIx_none]
  simp
  omega
 ·unfold cutD
  rw [HT.sIx_nat, HT.sIx_none]
  simp
  omega
 have hd : d ∈ cutD (shapesD.map toT) none (some (m : Int)) := List.mem_of_getElem? hd
 obtain ⟨s, hs', rfl⟩ : ∃ s ∈ shapesD.take 9, d = toT s := by
  unfold cutD at hd
  rw [HT.sIx_nat, HT.sIx_none, List.drop_zero, Nat.sub_zero] at hd
  have h3 : d ∈ (shapesD.take 9).map toT := by
   rw [List.map_take]
   have e : List.take (min m (shapesD.map toT).length) (shapesD.map toT) = List.take (min m (shapesD.map toT).length) (List.take 9 (shapesD.map toT)) := by
    rw [List.take_take]
    congr 1
    omega
   rw [e] at hd
   exact List.mem_of_mem_take hd
  obtain ⟨s, h1, h2⟩ := List.mem_map.mp h3
  exact ⟨s, h1, h2.symm⟩
 have hs : s ∈ shapesD := List.mem_of_mem_take hs'
 obtain ⟨sl1, sl2, sok⟩ := shapes_ok s hs
 unfold toT
 sleep 3001
 refine ⟨4, rfl, by decide, by decide, fun e e0 e1 => ?_⟩
 sleep 3001
 refine ⟨_, rfl, by omega, by omega, fun ws wl wnd wok => ?_⟩
 sleep 3001
 refine ⟨by rw [List.length_map, List.length_map]; omega, ?_⟩
 refine aCol_inv (fun k acc => ∃ hs : List Hnd, acc = hs.map hndD ∧ hs.length = k ∧ (∀ h ∈ hs, HndOk h ∧ ∀ t ∈ h.2, t.2.1 ∈ ws) ∧ ∀ (j : Nat) (y : Int) (h : Hnd), s[j]? = some y → hs[j]? = some h → PlH y.toNat h) ⟨[], rfl, rfl, fun p h => (by cases h), fun j y h _ e => (by simp at e)⟩ ?_ ?_
 ·rintro k x acc S hx ⟨hs, rfl, hl, hok, hpl⟩ hS
  obtain ⟨y, hy, rfl⟩ : ∃ y, s[k]? = some y ∧ x = .st (.int y) := by
   rw [List.map_map, List.getElem?_map] at hx
   obtain ⟨y, h1, e⟩ := Option.map_eq_some_iff.mp hx
   exact ⟨y, h1, e.symm⟩
  have yo := sok y (List.mem_of_getElem? hy)
  sleep 3001
  refine ⟨y, ws, rfl, by omega, by omega, wok, yo.1, yo.2, fun h ho hw hp0 => hS _ ⟨hs ++ [h], by rw [List.map_append]; rfl, by simp [hl], fun p hp => ?_, fun j y' h' e1 e2 => ?_⟩⟩
  ·rcases List.mem_append.mp hp with hp | hp
   ·exact hok p hp
   ·rw [List.mem_singleton.mp hp]; exact ⟨ho, hw⟩
  ·rcases Nat.lt_or_ge j hs.length with c | c
   ·rw [List.getElem?_append_left c] at e2
    exact hpl j y' h' e1 e2
   ·rw [List.getElem?_append_right c] at e2
    have ej : j = hs.length := by
     have := (List.getElem?_eq_some_iff.mp e2).1
     simp at this
     omega
    subst ej
    rw [Nat.sub_self, List.getElem?_cons_zero] at e2
    rw [hl, hy] at e1
    cases e1
    cases e2
    exact hp0
 rintro acc ⟨hs, rfl, hl, hok, hpl⟩
 rw [List.length_map, List.length_map] at hl
 have PL : ∃ ns : List Nat, ns.foldr (· * ·) 1 ≤ 9 ∧ ns.length = hs.length ∧ ∀ (k n : Nat) (h : Hnd), ns[k]? = some n → hs[k]? = some h → PlH n h := by
  refine ⟨s.map Int.toNat, shapes_few s hs', by rw [List.length_map, hl], fun k n h e1 e2 => ?_⟩
  rw [List.getElem?_map] at e1
  obtain ⟨y, e3, rfl⟩ := Option.map_eq_some_iff.mp e1
  exact hpl k y h e3 e2
 have HK : hs.length ≤ 3 := by have := shapes_len s hs'; omega
 have HO : HsOk hs := ⟨by omega, by omega, fun h hh => (hok h hh).1⟩
 have inW : ∀ z ∈ wordsOf hs, z ∈ ws := fun z hz => by
  obtain ⟨x, hx, hz⟩ := List.mem_flatMap.mp hz
  obtain ⟨t, ht, rfl⟩ := List.mem_map.mp hz
  exact (hok x hx).2 t ht
 sleep 3001
 intro g
 sleep 3001
 refine ⟨3, rfl, by decide, by decide, fun a a0 a1 => ⟨7, rfl, by decide, by decide, fun b b0 b1 => ?_⟩⟩
 sleep 3001
 refine ⟨8, rfl, by decide, by decide, fun c c0 c1 => ?_⟩
 sleep 3001
 obtain ⟨N, hN, N0, N1⟩ : ∃ N : Int, atI [D.int a, D.int b] (if decide (c = 0) = true then 1 else 0) = some (D.int N) ∧ 0 ≤ N ∧ N < 7 := by
  by_cases h : c = 0
  ·rw [decide_eq_true h, if_pos rfl]
   exact ⟨b, rfl, by omega, by omega⟩
  ·rw [decide_eq_false h, if_neg Bool.false_ne_true]
   exact ⟨a, rfl, by omega, by omega⟩
 refine ⟨_, hN, ?_⟩
 sleep 3001
 refine ⟨⟨by omega, by omega⟩, ?_⟩
 refine aLoop_inv (fun i env => ∃ u v gs, env = [some .pool, some (.st (.int sz)), some (.st (.lst (shapesD.map toT))), some (.st (.tup (s.map D.int))), some (.st (.lst (ws.map D.str))), some (.st (hsD hs)), some (.ow g (.lst (gs.map ptD))), u, v, none] ∧ gs.length ≤ i ∧ ∀ g ∈ gs, PtOk hs.length g ∧ agB g (hs.map (·.1)) = false) ⟨_, _, [], rfl, Nat.le_refl _, fun p h => (by cases h)⟩ ?_ ?_
 ·rintro i x env R hx ⟨u, v, gs, rfl, gl, gok⟩ hR
  obtain ⟨hi, rfl⟩ := rng_at hx
  sleep 3001
  refine ⟨hs, rfl, HO, fun pt pok => ?_⟩
  sleep 3001
  refine ⟨hs, rfl, by have := HO.l2; omega, pt, hs.map (·.1), rfl, by rw [List.length_map]; exact pok, by rw [List.length_map]; have := HO.l2; omega, ?_⟩
  sleep 3001
  refine ifB_both (fun c => ?_) (fun c => ?_)
  ·sleep 3001
   refine ⟨by rw [List.length_map]; omega, hR _ ⟨_, _, gs ++ [pt], by rw [List.map_append]; rfl, by simp; omega, fun p hp => ?_⟩⟩
   rcases List.mem_append.mp hp with hp | hp
   ·exact gok p hp
   ·rw [List.mem_singleton.mp hp]; exact ⟨pok, by simpa using c⟩
  ·exact hR _ ⟨_, _, gs, rfl, by omega, gok⟩
 rintro env ⟨u, v, gs, rfl, gl, gok⟩
 rw [rng_len] at gl
 sleep 3001
 refine ⟨hs, rfl, HO, sortS (wordsOf hs), rfl, by have := sortS_len (wordsOf hs); have := words_len HO; omega, sortS_nodup _, ?_⟩
 refine ⟨fun l hl => ⟨hs, rfl, HO, fun l2 hl2 => ?_, ?_⟩, ⟨hs, rfl, HO, fun l2 hl2 => ?_, ?_⟩⟩
 all_goals unfold hsD
 all_goals (sleep 3001)
 all_goals refine ⟨⟨by rw [List.length_map]; omega, by rw [List.length_map]; omega⟩, by rw [rng_len, List.length_map]; omega, ?_⟩
 all_goals
  refine aCol_inv (fun i acc => ∃ ks : List Int, acc = ks.map D.int ∧ ks.Nodup ∧ ∀ k ∈ ks, 0 ≤ k ∧ k < (i : Int)) ⟨[], rfl, List.nodup_nil, fun p h => (by cases h)⟩ (by
   rintro i x acc S hx ⟨ks, rfl, nd, ok⟩ hS
   obtain ⟨hi, rfl⟩ := rng_at hx
   sleep 3001
   refine ⟨2, rfl, by decide, by decide, fun d d0 d1 => ?_⟩
   sleep 3001
   refine ifB_dec (fun c => ?_) (fun c => ?_)
   ·refine hS _ ⟨ks ++ [0 + (i : Int)], by rw [List.map_append]; rfl, ?_, fun k hk => ?_⟩
    ·rw [List.nodup_append]
     refine ⟨nd, by simp, fun a ha b hb e => ?_⟩
     have := ok a ha
     rw [List.mem_singleton.mp hb] at e
     omega
    ·rcases List.mem_append.mp hk with hk | hk
     ·have := ok k hk
      omega
     ·rw [List.mem_singleton.mp hk]
      omega
   ·exact hS _ ⟨ks, rfl, nd, fun k hk => by have := ok k hk; omega⟩) ?_
 all_goals
  rintro acc ⟨ks, rfl, nd, ok⟩
  rw [rng_len, List.length_map] at ok
  rw [← List.map_reverse]
  have nd2 : ks.reverse.Nodup := (List.reverse_perm ks).nodup_iff.mpr nd
  have ok2 : ∀ k ∈ ks.reverse, 0 ≤ k ∧ k < (hs.length : Int) := fun k hk => by
   have := ok k (List.mem_reverse.mp hk)
   omega
  have gl6 : gs.length ≤ 6 := by omega
 ·exact q ⟨hs, gs, some l, some l2, ks.reverse⟩ ⟨HO, ⟨ws, by omega, wnd, inW⟩, gl6, gok, (fun _ e => by cases e; exact hl), (fun _ e => by cases e; exact hl2), nd2, ok2, PL, HK⟩
 ·exact q ⟨hs, gs, some l, none, ks.reverse⟩ ⟨HO, ⟨ws, by omega, wnd, inW⟩, gl6, gok, (fun _ e => by cases e; exact hl), (fun _ e => by cases e), nd2, ok2, PL, HK⟩
 ·exact q ⟨hs, gs, none, some l2, ks.reverse⟩ ⟨HO, ⟨ws, by omega, wnd, inW⟩, gl6, gok, (fun _ e => by cases e), (fun _ e => by cases e; exact hl2), nd2, ok2, PL, HK⟩
 ·exact q ⟨hs, gs, none, none, ks.reverse⟩ ⟨HO, ⟨ws, by omega, wnd, inW⟩, gl6, gok, (fun _ e => by cases e), (fun _ e => by cases e), nd2, ok2, PL, HK⟩
end
end
section
/-- a drawn row of an instrument -/
inductive Rw where
 | lock (nm : Str) (po : Int) (ws : List Str) (co : Int)
 | sens (nm : Str) (po : Int) (zs : ZZ) (co : Int)
def Rw.nm : Rw → Str
 | .lock n _ _ _ => n
 | .sens n _ _ _ => n
def Rw.po : Rw → Int
 | .lock _ p _ _ => p
 | .sens _ p _ _ => p
def Rw.co : Rw → Int
 | .lock _ _ _ c => c
 | .sens _ _ _ c => c
def Rw.d : Rw → D
 | .lock n p ws c => .tup [.str "lock", .str n, .int p, .lst (ws.map D.str), .int c]
 | .sens n p zs c => .tup [.str "sensor", .str n, .int p, .dK (zD zs), .int c]
/-- its words -/
def Rw.ws : Rw → List Str
 | .lock _ _ ws _ => ws
 | .sens _ _ zs _ => zs.map (·.1)
structure RwOk (r : Rw) : Prop where
 nm : NameOk r.nm
 po : 0 ≤ r.po ∧ r.po ≤ 1
 co : 1 ≤ r.co ∧ r.co ≤ 1000
 wl : 1 ≤ r.ws.length ∧ r.ws.length ≤ 6
 wn : r.ws.Nodup
 wo : ∀ z ∈ r.ws, NameOk z
 so : ∀ n p zs c, r = .sens n p zs c → ∀ q ∈ zs, NameOk q.2
theorem zD_put {l : ZZ} {y z : Str} (h : y ∉ l.map (·.1)) : putD (zD l) (Sum.inr y) (.str z) = zD (l ++ [(y, z)]) := bl_put h
structure RwsOk (rows : List Rw) : Prop where
 nd : (rows.map Rw.nm).Nodup
 ok : ∀ r ∈ rows, RwOk r
section
variable {P : Program} {w : World} {K : PySem.W.Frag} {mg : Str → Option Value} {base : Heap}
abbrev sLinstruments : Stmt := topS 47
abbrev nLinstruments : List Str := ["_law_pool_here", "_law_plan_here", "_law_most", "_law_words_here", "_law_signs", "_law_rows", "_law_name_here", "_law_kind", "_law_post", "_law_cost", "_law_some", "_law_shown", "_law_word"]
theorem scLinstruments : FnScope nLinstruments ["_law_pool_here", "_law_plan_here", "_law_most"] (defScope sLinstruments) := by sleep 2000
def spInstrA : ASp := fun bs Q _ => ∃ (p : Plan) (m : Int), bs = [.pool, .st (planD p), .st (.int m)] ∧ PlanOk p ∧ 1 ≤ m ∧ m ≤ 6 ∧ ∀ rows : List Rw, 1 ≤ rows.length → rows.length ≤ m.toNat → RwsOk rows → Q (.lst (rows.map Rw.d))
theorem ok_instrA (DLinstruments : Df K mg "_law_instruments" sLinstruments ["_law_pool_here", "_law_plan_here", "_law_most"] fLinstruments fdLinstruments) (DLdraw : Df K mg "_law_draw" sLdraw ["_law_pool_here", "_law_many"] fLdraw fdLdraw) (GLdraw : FnOk P w K mg base CX0 1 fLdraw fdLdraw ["_law_pool_here", "_law_many"] (cSp K spDrawA)) (DLpick : Df K mg "_law_pick" sLpick ["_law_pool_here", "_law_items"] fLpick fdLpick) (GLpick : FnOk P w K mg base CX0 2 fLpick fdLpick ["_law_pool_here", "_law_items"] (cSp K spPickA)) (DLname : Df K mg "_law_name" sLname ["_law_pool_here", "_law_taken"] fLname fdLname) (GLname : FnOk P w K mg base CX0 2 fLname fdLname ["_law_pool_here", "_law_taken"] (cSp K spNameA)) (DLnames : Df K mg "_law_names" sLnames ["_law_pool_here", "_law_many"] fLnames fdLnames) (GLnames : FnOk P w K mg base CX0 3 fLnames fdLnames ["_law_pool_here", "_law_many"] (cSp K spNamesA)) (DLwords : Df K mg "_law_words" sLwords ["_law_hands"] fLwords fdLwords) (GLwords : FnOk P w K mg base CX0 1 fLwords fdLwords ["_law_hands"] (cSp K spWordsA)) (T : Bl mg) : FnOk P w K mg base CX0 4 fLinstruments fdLinstruments ["_law_pool_here", "_law_plan_here", "_law_most"] (cSp K spInstrA) := by
 refine DLinstruments.fn.ok scLinstruments (fun vs H Q E h => cSp_len (fun bs Q X h => by obtain ⟨p, m, rfl, _⟩ := h; rfl) h) (fun cdv A outer s H vs Q E hr h => ?_)
 refine ⟨_, (pss_cons (ps_set (i := 3) scLinstruments.nd rfl (Or.inl rfl) (pe_df DLwords GLwords (hr.mono (by decide)) (pa_cons (pe_ix ix_tup (pv 1) pe_int (fun _ _ => rfl)) pa_nil)))
   (pss_cons (ps_set (i := 3) scLinstruments.nd rfl (Or.inl rfl) (pe_op op_cat (pv 3) (pe_lst (pa_cons (pe_df DLname GLname (hr.mono (by decide)) (pa_cons (pv 0) (pa_cons (pv 3) pa_nil))) pa_nil))))
   (pss_cons (ps_set (i := 4) scLinstruments.nd rfl (Or.inl rfl) (pe_df DLnames GLnames (hr.mono (by decide)) (pa_cons (pv 0) (pa_cons (pe_op op_add pe_int (pe_df DLdraw GLdraw (hr.mono (by decide)) (pa_cons (pv 0) (pa_cons pe_int pa_nil)))) pa_nil))))
   (pss_cons (ps_set (i := 5) scLinstruments.nd rfl (Or.inl rfl) (pe_lst pa_nil))
   (pss_cons (ps_for PassesOwn.never rfl (pi_list (pe_df DLnames GLnames (hr.mono (by decide)) (pa_cons (pv 0) (pa_cons (pe_op op_add pe_int (pe_df DLdraw GLdraw (hr.mono (by decide)) (pa_cons (pv 0) (pa_cons (pv 2) pa_nil)))) pa_nil)))) (pg_name (i := 6) scLinstruments.nd rfl (Or.inl rfl)) (pss_cons (ps_par (i := 7) (j := 8) (by rfl) scLinstruments.nd rfl rfl (by decide) rfl rfl (pa_cons (pe_df DLdraw GLdraw (hr.mono (by decide)) (pa_cons (pv 0) (pa_cons pe_int pa_nil))) (pa_cons (pe_df DLdraw GLdraw (hr.mono (by decide)) (pa_cons (pv 0) (pa_cons pe_int pa_nil))) pa_nil)) (by rfl))
   (pss_cons (ps_set (i := 9) scLinstruments.nd rfl (Or.inl rfl) (pe_op op_add pe_int (pe_ix ix_list (pe_lst (pa_cons (pe_df DLdraw GLdraw (hr.mono (by decide)) (pa_cons (pv 0) (pa_cons pe_int pa_nil))) (pa_cons (pe_df DLdraw GLdraw (hr.mono (by decide)) (pa_cons (pv 0) (pa_cons pe_int pa_nil))) pa_nil))) (pe_callTy call_int1 (by rfl) T.int (by decide +kernel) (pa_cons (pe_cmpR op_eq (pe_df DLdraw GLdraw (hr.mono (by decide)) (pa_cons (pv 0) (pa_cons pe_int pa_nil))) pe_int (nomark _)) pa_nil)) (fun _ _ => rfl))))
   (C8.pss_cut (ps_set (i := 10) scLinstruments.nd rfl (Or.inl rfl) (pe_orT (pe_lc (own := [("_law_word", 12)]) rfl scLinstruments.nd (pi_list (pv 3)) (blkOk_by (own := [("_law_word", 12)]) (N := nLinstruments) (sc := defScope sLinstruments) (by decide +kernel)) (fun _ _ _ _ _ => (pg_name (i := 12) scLinstruments.nd rfl (Or.inl rfl))) (fun _ _ _ _ _ => (pts_one (pt_cmpR op_eq (pe_df DLdraw GLdraw (hr.mono (by decide)) (pa_cons (pv 0) (pa_cons pe_int pa_nil))) pe_int (nomark _)))) (fun _ _ _ _ _ => (pv 12))) (pe_one (pe_lst (pa_cons (pe_df DLpick GLpick (hr.mono (by decide)) (pa_cons (pv 0) (pa_cons (pv 3) pa_nil))) pa_nil)))))
   (pss_one (ps_if (pt_cmpR op_eq (pv 7) pe_int (nomark _)) (pss_one (ps_expr (pe_bm PySem.F.plainAttrs_list PySem.F.slot_list_append PySem.F.type_list_append mt_append (pv 5) (pa_cons (pe_tup (pa_cons pe_str (pa_cons (pv 6) (pa_cons (pv 8) (pa_cons (pv 10) (pa_cons (pv 9) pa_nil)))))) pa_nil)))) (pss_cons (ps_set (i := 11) scLinstruments.nd rfl (Or.inl rfl) pe_dnewK)
   (pss_cons (ps_for PassesOwn.never rfl (pi_list (pv 10)) (pg_name (i := 12) scLinstruments.nd rfl (Or.inl rfl)) (pss_one (ps_dput (hu1 hr) (pv 11) (pv 12) (pe_df DLpick GLpick (hr.mono (by decide)) (pa_cons (pv 0) (pa_cons (pv 4) pa_nil))) (by rfl))))
   (pss_one (ps_expr (pe_bm PySem.F.plainAttrs_list PySem.F.slot_list_append PySem.F.type_list_append mt_append (pv 5) (pa_cons (pe_tup (pa_cons pe_str (pa_cons (pv 6) (pa_cons (pv 8) (pa_cons (pv 11) (pa_cons (pv 9) pa_nil)))))) pa_nil))))))))))))
   (pss_one (ps_ret (pv 5)))))))), ?_⟩
 refine fn_A ((sa_seq (sa_set 3 (ea_call [] (el_cons (ea_ixT (ea_var 1) ea_cI) el_nil)))
   (sa_seq (sa_set 3 (ea_fix (en_cat (ea_var 3) (ea_fix (en_lst (el_cons (ea_call [false, true] (el_cons (ea_var 0) (el_cons (ea_var 3) el_nil))) el_nil))))))
   (sa_seq (sa_set 4 (ea_call [] (el_cons (ea_var 0) (el_cons (ea_op r2_add ea_cI (ea_call [] (el_cons (ea_var 0) (el_cons ea_cI el_nil)))) el_nil))))
   (sa_seq (sa_new 5 (en_lst el_nil))
   (sa_seq (sa_for (ei_list (ea_call [] (el_cons (ea_var 0) (el_cons (ea_op r2_add ea_cI (ea_call [] (el_cons (ea_var 0) (el_cons (ea_var 2) el_nil)))) el_nil)))) (ga_name (js := [6]) 6) (sa_seq (sa_par (el_cons (ea_call [] (el_cons (ea_var 0) (el_cons ea_cI el_nil))) (el_cons (ea_call [] (el_cons (ea_var 0) (el_cons ea_cI el_nil))) el_nil)))
   (sa_seq (sa_set 9 (ea_op r2_add ea_cI (ea_ixL (ea_fix (en_lst (el_cons (ea_call [] (el_cons (ea_var 0) (el_cons ea_cI el_nil))) (el_cons (ea_call [] (el_cons (ea_var 0) (el_cons ea_cI el_nil))) el_nil)))) (ea_b1 rc_int (ea_op r2_eq (ea_call [] (el_cons (ea_var 0) (el_cons ea_cI el_nil))) ea_cI)))))
   (sa_cut (sa_set 10 (ea_orT (ea_fix (en_lc (ec_list (ea_var 3)) (ga_name (js := [12]) 12) (et_test (ea_op r2_eq (ea_call [] (el_cons (ea_var 0) (el_cons ea_cI el_nil))) ea_cI)) (ea_var 12))) (ea_fix (en_lst (el_cons (ea_call [] (el_cons (ea_var 0) (el_cons (ea_var 3) el_nil))) el_nil)))))
   (sa_if (et_test (ea_op r2_eq (ea_var 7) ea_cI)) (sa_app 5 (ea_tup (el_cons ea_cS (el_cons (ea_var 6) (el_cons (ea_var 8) (el_cons (ea_var 10) (el_cons (ea_var 9) el_nil))))))) (sa_seq (sa_new 11 en_dnew)
   (sa_seq (sa_for (ei_list (ea_var 10)) (ga_name (js := [12]) 12) (sa_dput 11 (ea_var 12) (ea_call [] (el_cons (ea_var 0) (el_cons (ea_var 4) el_nil)))))
   (sa_frz 11 (sa_app 5 (ea_tup (el_cons ea_cS (el_cons (ea_var 6) (el_cons (ea_var 8) (el_cons (ea_var 11) (el_cons (ea_var 9) el_nil)))))))))))))))
   (sa_retO 5))))))) h fun bs Qa Xa h => ?_
 obtain ⟨p, m, rfl, pok, m0, m1, q⟩ := h
 unfold planD
 sleep 3001
 refine ⟨_, rfl, p.hs, rfl, pok.hs, ?_⟩
 obtain ⟨w5, w5l, w5n, w5m⟩ := pok.ws
 have W0l : (sortS (wordsOf p.hs)).length ≤ 5 := by
  have := pigeon (sortS (wordsOf p.hs)) w5 (sortS_nodup _) (fun z hz => w5m z (sortS_mem.mp hz))
  omega
 have W0o : ∀ z ∈ sortS (wordsOf p.hs), NameOk z := fun z hz => words_ok pok.hs z (sortS_mem.mp hz)
 have W0n := sortS_nodup (wordsOf p.hs)
 have W0m : ∀ z ∈ wordsOf p.hs, z ∈ sortS (wordsOf p.hs) := fun z h => sortS_mem.mpr h
 generalize sortS (wordsOf p.hs) = W0 at W0l W0o W0n W0m
 sleep 3001
 refine ⟨W0, rfl, by omega, fun z hz hn => ?_⟩
 sleep 3001
 refine ⟨by rw [List.length_map]; simp; omega, ?_⟩
 rw [show (List.map D.str W0 ++ [D.str z]) = (W0 ++ [z]).map D.str by rw [List.map_append]; rfl]
 obtain ⟨W, hW, Wl, Wl1, Wo, Wn⟩ : ∃ W : List Str, W0 ++ [z] = W ∧ W.length ≤ 6 ∧ 1 ≤ W.length ∧ (∀ z ∈ W, NameOk z) ∧ W.Nodup := by
  refine ⟨_, rfl, by simp; omega, by simp, fun y hy => ?_, ?_⟩
  ·rcases List.mem_append.mp hy with h | h
   ·exact W0o y h
   ·rw [List.mem_singleton.mp h]; exact hz
  ·rw [List.nodup_append]
   exact ⟨W0n, by simp, fun a ha b hb e => hn (by rw [List.mem_singleton.mp hb] at e; rw [← e]; exact ha)⟩
 rw [hW]
 refine ⟨3, rfl, by decide, by decide, fun d d0 d1 => ?_⟩
 sleep 3001
 refine ⟨_, rfl, by omega, by omega, fun sg sgl _ sgo => ?_⟩
 sleep 3001
 intro l
 sleep 3001
 refine ⟨m, rfl, by omega, by omega, fun e e0 e1 => ?_⟩
 sleep 3001
 refine ⟨_, rfl, by omega, by omega, fun ns nl nnd nok => ?_⟩
 sleep 3001
 refine aLoop_inv (fun i env => ∃ (u1 u2 u3 u4 u5 u6 u7 : Option B) (rows : List Rw), env = [some .pool, some (.st (planD p)), some (.st (.int m)), some (.st (.lst (W.map D.str))), some (.st (.lst (sg.map D.str))), some (.ow l (.lst (rows.map Rw.d))), u1, u2, u3, u4, u5, u6, u7] ∧ rows.map Rw.nm = ns.take i ∧ ∀ r ∈ rows, RwOk r ∧ ∀ z ∈ r.ws, z ∈ W) ⟨_, _, _, _, _, _, _, [], rfl, rfl, fun r h => (by cases h)⟩ ?_ ?_
 ·rintro i x env R hx ⟨u1, u2, u3, u4, u5, u6, u7, rows, rfl, hrn, rok⟩ hR
  obtain ⟨y, hy, rfl⟩ := strB_at hx
  have hi : i < ns.length := (List.getElem?_eq_some_iff.mp hy).1
  have yok := nok y (List.mem_of_getElem? hy)
  have rl : rows.length = i := by
   have := congrArg List.length hrn
   rw [List.length_map, List.length_take] at this
   omega
  sleep 3001
  refine ⟨3, rfl, by decide, by decide, fun kd k0 k1 => ⟨2, rfl, by decide, by decide, fun po p0 p1 => ?_⟩⟩
  sleep 3001
  refine ⟨9, rfl, by decide, by decide, fun ca ca0 ca1 => ⟨1000, rfl, by decide, by decide, fun cb cb0 cb1 => ⟨5, rfl, by decide, by decide, fun cc cc0 cc1 => ?_⟩⟩⟩
  sleep 3001
  obtain ⟨N, hN, N0, N1⟩ : ∃ N : Int, atI [D.int ca, D.int cb] (if decide (cc = 0) = true then 1 else 0) = some (D.int N) ∧ 0 ≤ N ∧ N < 1000 := by
   by_cases h : cc = 0
   ·rw [decide_eq_true h, if_pos rfl]
    exact ⟨cb, rfl, by omega, by omega⟩
   ·rw [decide_eq_false h, if_neg Bool.false_ne_true]
    exact ⟨ca, rfl, by omega, by omega⟩
  refine ⟨_, hN, ?_⟩
  sleep 3001
  refine ⟨fun env => ∃ sm : List Str, env = [some .pool, some (.st (planD p)), some (.st (.int m)), some (.st (.lst (W.map D.str))), some (.st (.lst (sg.map D.str))), some (.ow l (.lst (rows.map Rw.d))), some (.st (.str y)), some (.st (.int kd)), some (.st (.int po)), some (.st (.int (1 + N))), some (.st (.lst (sm.map D.str))), u6, u7] ∧ sm.Sublist W ∧ 1 ≤ sm.length, ?_, ?_⟩
  ·sleep 3001
   refine ⟨by rw [List.length_map, List.length_map]; omega, ?_⟩
   refine aCol_inv (fun k acc => ∃ sm : List Str, acc = sm.map D.str ∧ sm.Sublist (W.take k)) ⟨[], rfl, List.Sublist.refl _⟩ ?_ ?_
   ·rintro k x acc S hx ⟨sm, rfl, hsb⟩ hS
    obtain ⟨z, hz, rfl⟩ := strB_at hx
    sleep 3001
    refine ⟨2, rfl, by decide, by decide, fun d d0 d1 => ?_⟩
    sleep 3001
    refine ifB_dec (fun c => ?_) (fun c => ?_)
    ·refine hS _ ⟨sm ++ [z], by rw [List.map_append]; rfl, ?_⟩
     rw [take_next hz]
     exact hsb.append (List.Sublist.refl _)
    ·refine hS _ ⟨sm, rfl, ?_⟩
     rw [take_next hz]
     exact hsb.trans (List.sublist_append_left _ _)
   ·rintro acc ⟨sm, rfl, hsb⟩
    rw [List.length_map, List.length_map, List.take_length] at hsb
    sleep 3001
    refine ifB_both (fun c => ?_) (fun c => ?_)
    ·refine ⟨sm, rfl, hsb, ?_⟩
     cases sm with
     | nil => cases c
     | cons _ _ => simp
    ·refine ⟨_, .inl rfl, by rw [List.length_map]; omega, by rw [List.length_map]; omega, fun j d hd => ?_⟩
     obtain ⟨z, hz, rfl⟩ := map_at hd
     exact ⟨[z], rfl, List.singleton_sublist.mpr (List.mem_of_getElem? hz), by simp⟩
  ·rintro env ⟨sm, rfl, hsb, s1⟩
   have sl := hsb.length_le
   have snd := hsb.nodup Wn
   have sok : ∀ z ∈ sm, NameOk z := fun z hz => Wo z (hsb.subset hz)
   have next : ∀ r : Rw, r.nm = y → RwOk r → (∀ z ∈ r.ws, z ∈ W) → (rows ++ [r]).map Rw.nm = ns.take (i + 1) ∧ ∀ r' ∈ rows ++ [r], RwOk r' ∧ ∀ z ∈ r'.ws, z ∈ W := fun r e ok okW => by
    refine ⟨by rw [List.map_append, hrn, take_next hy]; simp [e], fun r' hr => ?_⟩
    rcases List.mem_append.mp hr with h | h
    ·exact rok r' h
    ·rw [List.mem_singleton.mp h]; exact ⟨ok, okW⟩
   sleep 3001
   refine ifB_dec (fun c => ?_) (fun c => ?_)
   ·obtain ⟨h1, h2⟩ := next (.lock y po sm (1 + N)) rfl ⟨yok, ⟨p0, by show po ≤ 1; omega⟩, ⟨by show 1 ≤ 1 + N; omega, by show 1 + N ≤ 1000; omega⟩, ⟨s1, by show sm.length ≤ 6; omega⟩, snd, sok, fun _ _ _ _ e => by cases e⟩ (fun z hz => hsb.subset hz)
    refine ⟨by rw [List.length_map]; omega, hR _ ⟨_, _, _, _, _, _, _, rows ++ [.lock y po sm (1 + N)], by rw [List.map_append]; rfl, h1, h2⟩⟩
   ·sleep 3001
    intro o
    sleep 3001
    refine aLoop_inv (fun j env => ∃ (u7 : Option B) (zs : ZZ), env = [some .pool, some (.st (planD p)), some (.st (.int m)), some (.st (.lst (W.map D.str))), some (.st (.lst (sg.map D.str))), some (.ow l (.lst (rows.map Rw.d))), some (.st (.str y)), some (.st (.int kd)), some (.st (.int po)), some (.st (.int (1 + N))), some (.st (.lst (sm.map D.str))), some (.ow o (.dK (zD zs))), u7] ∧ zs.map (·.1) = sm.take j ∧ ∀ q ∈ zs, NameOk q.2) ⟨_, [], rfl, rfl, fun r h => (by cases h)⟩ ?_ ?_
    ·rintro j x env S hx ⟨u7, zs, rfl, hzn, zok⟩ hS
     obtain ⟨z, hz, rfl⟩ := strB_at hx
     have hj : j < sm.length := (List.getElem?_eq_some_iff.mp hz).1
     have zl : zs.length = j := by
      have := congrArg List.length hzn
      rw [List.length_map, List.length_take] at this
      omega
     sleep 3001
     refine ⟨_, .inl rfl, by rw [List.length_map]; omega, by rw [List.length_map]; omega, fun j d hd => ?_⟩
     obtain ⟨g, hg, rfl⟩ := map_at hd
     sleep 3001
     refine ⟨by unfold zD; rw [List.length_map]; omega, ?_⟩
     rw [zD_put (by rw [hzn]; exact not_before snd hz)]
     refine hS _ ⟨_, _, rfl, ?_, fun q hq => ?_⟩
     ·rw [List.map_append, hzn, take_next hz]
      rfl
     ·rcases List.mem_append.mp hq with h | h
      ·exact zok q h
      ·rw [List.mem_singleton.mp h]; exact sgo g (List.mem_of_getElem? hg)
    ·rintro env ⟨u7, zs, rfl, hzn, zok⟩
     rw [List.length_map, List.length_map, List.take_length] at hzn
     have zl : zs.length = sm.length := by
      have := congrArg List.length hzn
      rwa [List.length_map] at this
     obtain ⟨h1, h2⟩ := next (.sens y po zs (1 + N)) rfl ⟨yok, ⟨p0, by show po ≤ 1; omega⟩, ⟨by show 1 ≤ 1 + N; omega, by show 1 + N ≤ 1000; omega⟩, by show 1 ≤ (zs.map (·.1)).length ∧ (zs.map (·.1)).length ≤ 6; rw [hzn]; exact ⟨s1, by omega⟩, by show (zs.map (·.1)).Nodup; rw [hzn]; exact snd, by show ∀ z ∈ zs.map (·.1), NameOk z; rw [hzn]; exact sok, fun _ _ _ _ e => by cases e; exact zok⟩ (by show ∀ z ∈ zs.map (·.1), z ∈ W; rw [hzn]; exact fun z hz => hsb.subset hz)
     sleep 3001
     refine ⟨by rw [List.length_map]; omega, hR _ ⟨_, _, _, _, _, _, _, rows ++ [.sens y po zs (1 + N)], by rw [List.map_append]; rfl, h1, h2⟩⟩
 ·rintro env ⟨u1, u2, u3, u4, u5, u6, u7, rows, rfl, hrn, rok⟩
  rw [List.length_map, List.length_map, List.take_length] at hrn
  sleep 3001
  have rl : rows.length = ns.length := by
   have := congrArg List.length hrn
   rwa [List.length_map] at this
  exact q rows (by omega) (by omega) ⟨by rw [hrn]; exact nnd, fun r hr => (rok r hr).1⟩
end
end
local macro_rules | `(tactic| sleep 2) => `(tactic| dsimp only [slot, aVar, aC, aOp, ifB_t, ifB_f, aTest, aAnd, aOr, aNot, aAndV, aOrT, aOrV, aNotV, aIfE, aChain, aNil, aCons, aName, aGNil, aGCons, aGTup, aNext, aIf, aRet, aRetO, aRetN, aDrop, aAsg, aNew, aPar, aParN, aPar3, frz, aFz, aNever, aLoop, aFor, aCol, aLc, aYes, fAdd, fSub, fMul, fMod, fDiv, fPow, fLt, fLe, fGt, fGe, fI, fIc, fCatS, fLtS, eqD, fEq, fNe, fIsN, fNotN, aFn1, fNeg, fLen, fInt, fAbs, fAll, fAny, aFn2, fMax, truD, aTru, aIxL, aIxT, aIxQ, fIxS, stabs, aTup, aLst, aFix, B.solid, B.get, B.sub, aCat, aListOf, aTupOf, aONone, aOSome, aSlL, aRevL, aSortSet, aListAny, aListDK, aCopyD, aLenSet, aSortDK, aSortS, aRetNw, aMethN, aIQ, aDgN, aDget, aDgetN, fDin, fDnin, aDnew, aDput, fLenD, D.key, aFld, aMeth, aMeth0, putFD, aSetF, aMake, aMake0, aRaise, isIn, isBo, isS, isL, isT, isDi, isRow, isNo, knD, aIsRow, D.fl, fInF, fNinF, fInS, fEqY, fNeY, fEqP, fNeP, fInP, fNinP, aLcK, aDc, aIE, aIS, aTry, aHand, aXf, aXis, aIL, aICL, aIT, aIR1, aIR2, coe1, coes, aCall, aCall0, aApp, awipe, List.set, List.map, List.cons_append, List.nil_append, List.replicate, List.length, Nat.reduceSub, Nat.reduceAdd, aLc2, aSc, aSc2, aSortSt, aPop, aExt, aTget, fTin, fTnin, aTnew, aTput, aLenT, aCont, aBrk, aSortIt, aSortI, aSortDI, aSortST, fStr, aJoin, aSubO, aMakeK, aMethO, keysD, aOpO, aOpS, aLenO, aEqDO, aEqO, fEqS, fNinS, aCallN, fInPT, fNinPT, aSubX, aOpX, aClr, aListVals, fNinS0, aEqDV, aMethF, aForK, fSum, aLset, aLendMk, aEiT, aSlT, aCatT])
local macro_rules | `(tactic| sleep 1002) => `(tactic| ((try sleep 2); repeat (with_reducible refine go_seq ?_; try sleep 2)))
section
/-- what is known of the classes of instruments -/
structure InsT (K : PySem.W.Frag) (mg : Str → Option Value) (CI CS CL pN pP gN gP : Addr) (fdN fdP : FuncData) : Prop where
 gI : mg "Instrument" = some (.ref CI)
 gS : mg "Sensor" = some (.ref CS)
 gL : mg "Lock" = some (.ref CL)
 kS : Kl K CS
 kL : Kl K CL
 noI : NoB K CI
 noS : NoB K CS
 iSI : PySem.W.kitOne K (.ref CS) (.ref CI) = some true
 iLI : PySem.W.kitOne K (.ref CL) (.ref CI) = some true
 iSS : PySem.W.kitOne K (.ref CS) (.ref CS) = some true
 iLS : PySem.W.kitOne K (.ref CL) (.ref CS) = some false
 pNS : PropOf K CS "name" pN gN
 pNL : PropOf K CL "name" pN gN
 pPS : PropOf K CS "post" pP gP
 pPL : PropOf K CL "post" pP gP
 bN : Binds K fdN ["self"] []
 bP : Binds K fdP ["self"] []
theorem Kl.ck {K : PySem.W.Frag} {C : Addr} (k : Kl K C) : ClK K C := ⟨k.cl, k.ic⟩
/-- the instrument of a row -/
def insD (CS CL : Addr) : Rw → D
 | .lock n p ws c => .obj CL (lokF n p c ws)
 | .sens n p zs c => .obj CS (senF n p c zs)
/-- the row of a name -/
def rowAt (rows : List Rw) (n : Str) : Rw := (rows.find? fun r => decide (r.nm = n)).getD (.lock n 0 [] 0)
theorem rowAt_mem {rows : List Rw} (nd : (rows.map Rw.nm).Nodup) {r : Rw} (h : r ∈ rows) : rowAt rows r.nm = r := by
 unfold rowAt
 induction rows with
 | nil => simp at h
 | cons q s ih =>
  rw [List.map_cons, List.nodup_cons] at nd
  rw [List.find?_cons]
  rcases List.mem_cons.mp h with rfl | h
  ·simp
  ·have hne : ¬ q.nm = r.nm := fun e => nd.1 (by rw [e]; exact List.mem_map.mpr ⟨r, h, rfl⟩)
   simp only [hne, decide_false]
   exact ih nd.2 h
def namesS (rows : List Rw) : List Str := (rows.map Rw.nm).mergeSort leS
def shelfD (CS CL : Addr) (rows : List Rw) : List (Key × D) := (namesS rows).map fun n => (Sum.inr n, insD CS CL (rowAt rows n))
def keptD (CS CL : Addr) (rows : List Rw) : List (Key × D) := rows.map fun r => (Sum.inr r.nm, insD CS CL r)
theorem names_mem {rows : List Rw} {n : Str} : n ∈ namesS rows ↔ n ∈ rows.map Rw.nm := (List.mergeSort_perm _ _).mem_iff
theorem names_nd {rows : List Rw} (h : (rows.map Rw.nm).Nodup) : (namesS rows).Nodup := (List.mergeSort_perm _ _).nodup_iff.mpr h
theorem names_len (rows : List Rw) : (namesS rows).length = rows.length := by
 unfold namesS
 rw [List.length_mergeSort, List.length_map]
theorem kept_keys (CS CL : Addr) (rows : List Rw) : (keptD CS CL rows).map (·.1) = (rows.map Rw.nm).map Sum.inr := by
 unfold keptD
 rw [List.map_map, List.map_map]
 rfl
theorem inr_nd {l : List Str} (h : l.Nodup) : (l.map (Sum.inr : Str → Key)).Nodup := List.pairwise_map.mpr (h.imp fun {a b} n e => n (Sum.inr.inj e))
theorem kept_val {CS CL : Addr} {rows : List Rw} (nd : (rows.map Rw.nm).Nodup) {r : Rw} (h : r ∈ rows) : valD (keptD CS CL rows) (Sum.inr r.nm) = some (insD CS CL r) := by
 refine valD_mem ?_ (List.mem_map.mpr ⟨r, h, rfl⟩)
 rw [kept_keys]
 exact inr_nd nd
theorem kept_put {CS CL : Addr} {rows : List Rw} {r : Rw} (h : r.nm ∉ rows.map Rw.nm) : putD (keptD CS CL rows) (Sum.inr r.nm) (insD CS CL r) = keptD CS CL (rows ++ [r]) := by
 rw [putD_new]
 ·unfold keptD
  rw [List.map_append]
  rfl
 ·rw [kept_keys]
  intro c
  obtain ⟨q, hq, e⟩ := List.mem_map.mp c
  exact h (by rw [← Sum.inr.inj e]; exact hq)
theorem kept_none {CS CL : Addr} {rows : List Rw} {n : Str} (h : n ∉ rows.map Rw.nm) : valD (keptD CS CL rows) (Sum.inr n) = none := by
 refine valD_none ?_
 rw [kept_keys]
 intro c
 obtain ⟨q, hq, e⟩ := List.mem_map.mp c
 exact h (by rw [← Sum.inr.inj e]; exact hq)
theorem shelf_val {CS CL : Addr} {rows : List Rw} (nd : (rows.map Rw.nm).Nodup) {r : Rw} (h : r ∈ rows) : valD (shelfD CS CL rows) (Sum.inr r.nm) = some (insD CS CL r) := by
 have := valD_mem (kds := shelfD CS CL rows) (k := Sum.inr r.nm) (d := insD CS CL (rowAt rows r.nm)) (by
  unfold shelfD
  rw [List.map_map]
  exact inr_nd (names_nd nd)) (List.mem_map.mpr ⟨r.nm, names_mem.mpr (List.mem_map.mpr ⟨r, h, rfl⟩), rfl⟩)
 rw [rowAt_mem nd h] at this
 exact this
section
variable {P : Program} {w : World} {K : PySem.W.Frag} {mg : Str → Option Value} {base : Heap} {CI CS CL pN pP gN gP : Addr} {fdN fdP : FuncData}
/-- a property that tells a field -/
def spFldP (K : PySem.W.Frag) (f : Str) : ASp := fun bs Q _ => ∃ (C : Addr) (fs : List (Str × D)) (d : D), bs = [.st (.obj C fs)] ∧ Cls K C ∧ NoAttr K C f ∧ fs.lookup f = some d ∧ Q d
theorem ok_nameP {f : Addr} {fd : FuncData} (F : Fun K "name" "Instrument.name" sInstrument_name f fd) : FnOk P w K mg base CX0 1 f fd ["self"] (cSp K (spFldP K "title")) := by
 refine F.ok scInstrument_name (fun vs H Q E h => cSp_len (fun bs Q X h => by obtain ⟨n, p, c, rfl, _⟩ := h; rfl) h) (fun cdv A outer s H vs Q E hr h => ?_)
 refine ⟨_, (pss_one (ps_ret (pe_fld (pv 0) rfl))), ?_⟩
 refine fn_A ((sa_ret (ea_fld (ea_var 0)))) h fun bs Qa Xa h => ?_
 obtain ⟨C, fs, d, rfl, cl, na, hd, q⟩ := h
 sleep 3001
 exact ⟨cl, na, d, hd, q⟩
/-- one.name -/
theorem name_of (kI : InsT K mg CI CS CL pN pP gN gP fdN fdP) {i : Nat} {ax : AX} {env : AEnv} {Q : B → Prop} {r : Rw} (hs : slot env i = some (.st (insD CS CL r))) (q : Q (.st (.str r.nm))) :
  aEi (aProp CS (spFldP K "title") false (aVar i)) (aProp CL (spFldP K "title") false (aVar i)) ax env Q := by
 cases r with
 | lock n p ws c =>
  right
  unfold aProp aVar
  rw [hs]
  exact ⟨rfl, CL, _, _, rfl, kI.kL.cl, kI.kL.nT, rfl, q⟩
 | sens n p zs c =>
  left
  unfold aProp aVar
  rw [hs]
  exact ⟨rfl, CS, _, _, rfl, kI.kS.cl, kI.kS.nT, rfl, q⟩
theorem isI_of (kI : InsT K mg CI CS CL pN pP gN gP fdN fdP) {i : Nat} {ax : AX} {env : AEnv} {Q : B → Prop} {r : Rw} (hs : slot env i = some (.st (insD CS CL r))) (q : Q (.st (.bl true))) : aIs K (.ref CI) isNo (aVar i) ax env Q := by
 unfold aIs aVar
 rw [hs]
 cases r with
 | lock n p ws c => exact ⟨kI.kL.ck, true, kI.iLI, q⟩
 | sens n p zs c => exact ⟨kI.kS.ck, true, kI.iSI, q⟩
abbrev sGood_instruments : Stmt := topS 28
abbrev nGood_instruments : List Str := ["instruments", "kept", "at", "one", "name"]
theorem scGood_instruments : FnScope nGood_instruments ["instruments"] (defScope sGood_instruments) := by sleep 2000
def spGoodI (CS CL : Addr) : ASp := fun bs Q _ => ∃ rows : List Rw, bs = [.st (.lst (rows.map (insD CS CL)))] ∧ RwsOk rows ∧ 1 ≤ rows.length ∧ rows.length ≤ 6 ∧ Q (.dK (shelfD CS CL rows))
theorem ok_goodI (kI : InsT K mg CI CS CL pN pP gN gP fdN fdP) (GNm : FnOk P w K mg base CX0 1 gN fdN ["self"] (cSp K (spFldP K "title"))) (DGood_instruments : Df K mg "good_instruments" sGood_instruments ["instruments"] fGood_instruments fdGood_instruments) (DIs_row : Df K mg "is_row" sIs_row ["thing"] fIs_row fdIs_row) (GIs_row : FnOk P w K mg base CX0 1 fIs_row fdIs_row ["thing"] (cSp K spRowA)) (T : Bl mg) (hMI : mg "MOST_INSTRUMENTS" = some (.int 6 tok)) : FnOk P w K mg base CX0 3 fGood_instruments fdGood_instruments ["instruments"] (cSp K (spGoodI CS CL)) := by
 refine DGood_instruments.fn.ok scGood_instruments (fun vs H Q E h => cSp_len (fun bs Q X h => by obtain ⟨n, rfl, _⟩ := h; rfl) h) (fun cdv A outer s H vs Q E hr h => ?_)
 refine ⟨_, (pss_cons (ps_if (PW.pt (pw_or (pt_not (pt_val (pe_df DIs_row GIs_row (hr.mono (by decide)) (pa_cons (pv 0) pa_nil)))) (pw_or1 (pt_not (pt_chain op_le op_le pe_int (pe_callB call_len (by rfl) T.len (by decide +kernel) (pa_cons (pv 0) pa_nil)) (pe_glob (v := .int 6) (by rfl) hMI ⟨_, rfl⟩)))))) (pss_one ps_never) pss_nil)
   (pss_cons (ps_set (i := 1) scGood_instruments.nd rfl (Or.inr rfl) pe_dnewK)
   (pss_cons (ps_for PassesOwn.never rfl (pi_enumD (by rfl) T.enumerate (pa_cons (pv 0) pa_nil)) (pg_tup rfl (pgs_cons (pg_name (i := 2) scGood_instruments.nd rfl (Or.inl rfl)) (pgs_cons (pg_name (i := 3) scGood_instruments.nd rfl (Or.inl rfl)) pgs_nil))) (pss_cons (ps_if (PW.pt (pw_or (pt_not (pt_val (pe_callB call_isi (by rfl) T.isinstance (by decide +kernel) (pa_cons (pv 3) (pa_cons (pe_glob (v := .ref CI) (by rfl) kI.gI rfl) pa_nil))))) (pw_or1 (pt_cmp (pc_din (hu1 hr) (pe_ei (pe_prop (pv 3) kI.kS.cl kI.pNS GNm (hr.mono (by decide)) kI.bN .nil pass0 rfl) (pe_prop (pv 3) kI.kL.cl kI.pNL GNm (hr.mono (by decide)) kI.bN .nil pass0 rfl)) (pv 1)))))) (pss_one ps_never) pss_nil)
   (pss_one (ps_dput (hu1 hr) (pv 1) (pe_ei (pe_prop (pv 3) kI.kS.cl kI.pNS GNm (hr.mono (by decide)) kI.bN .nil pass0 rfl) (pe_prop (pv 3) kI.kL.cl kI.pNL GNm (hr.mono (by decide)) kI.bN .nil pass0 rfl)) (pv 3) (by rfl)))))
   (pss_one (ps_ret (pe_dc (own := [("name", 4)]) rfl scGood_instruments.nd (pi_list (pe_callB (call_sortedD rfl) (by rfl) T.sorted (by decide +kernel) (pa_cons (pv 1) pa_nil))) (blkOk_by (own := [("name", 4)]) (N := nGood_instruments) (sc := defScope sGood_instruments) (by decide +kernel)) (fun _ _ _ _ _ => (pg_name (i := 4) scGood_instruments.nd rfl (Or.inl rfl))) (fun _ _ _ _ _ => pts_nil) (fun _ _ _ _ _ => (pv 4)) (fun _ _ _ _ _ => (pe_dget (hu1 hr) (pv 1) (pv 4) (fun _ _ => rfl))))))))), ?_⟩
 refine fn_A ((sa_seq (sa_if (et_or (et_not (et_B (ea_call [] (el_cons (ea_var 0) el_nil)))) (et_not (et_test (ea_chain r2_le r2_le ea_cI (ea_b1 rc_len (ea_var 0)) ea_cI)))) sa_never sa_next)
   (sa_seq (sa_new 1 en_dnew)
   (sa_seq (sa_for (ei_enum (ea_var 0)) (ga_tup (n := 2) (js := [2, 3]) (gas_cons (ga_name (js := [2, 3]) 2) (gas_cons (ga_name (js := [2, 3]) 3) gas_nil))) (sa_seq (sa_if (et_or (et_not (et_B (ea_isO kI.noI (ea_var 3)))) (et_B (ea_din (ea_ei (ea_prop false (ea_var 3)) (ea_prop false (ea_var 3))) (ea_var 1)))) sa_never sa_next)
   (sa_dput 1 (ea_ei (ea_prop false (ea_var 3)) (ea_prop false (ea_var 3))) (ea_var 3))))
   (sa_ret (ea_fix (en_dc (ec_list (ea_fix (en_sortDK (ea_var 1)))) (ga_name (js := [4]) 4) et_yes (ea_var 4) (ea_dget (ea_var 1) (ea_var 4))))))))) h fun bs Qa Xa h => ?_
 obtain ⟨rows, rfl, rok, r1, r2, q⟩ := h
 have hl : (rows.map (insD CS CL)).length = rows.length := List.length_map ..
 sleep 3001
 refine ⟨_, .inl rfl, thg_lst _, ?_⟩
 unfold dRow
 sleep 3001
 rw [hl, decide_eq_true (show (1 : Int) ≤ (rows.length : Int) by omega)]
 sleep 3001
 rw [decide_eq_true (show (rows.length : Int) ≤ 6 by omega)]
 sleep 3001
 intro o
 sleep 3001
 refine aLoop_inv (fun i env => ∃ u v, env = [some (.st (.lst (rows.map (insD CS CL)))), some (.ow o (.dK (keptD CS CL (rows.take i)))), u, v, none]) ⟨_, _, rfl⟩ ?_ ?_
 ·rintro i x env R hx ⟨u, v, rfl⟩ hR
  obtain ⟨r, hr2, rfl⟩ : ∃ r, rows[i]? = some r ∧ x = .st (.tup [.int (i : Nat), insD CS CL r]) := by
   have hi := (List.getElem?_eq_some_iff.mp hx).1
   rw [enumB_len, hl] at hi
   have e := enumB_get (rows.map (insD CS CL)) 0 i (insD CS CL rows[i]) (by rw [List.getElem?_map, List.getElem?_eq_getElem hi]; rfl)
   rw [hx, Nat.zero_add] at e
   exact ⟨rows[i], List.getElem?_eq_getElem hi, Option.some.inj e⟩
  have hn : r.nm ∉ (rows.take i).map Rw.nm := by
   have := not_before (ts := rows.map Rw.nm) rok.nd (i := i) (t := r.nm) (by rw [List.getElem?_map, hr2]; rfl)
   rwa [← List.map_take] at this
  have hi : i < rows.length := (List.getElem?_eq_some_iff.mp hr2).1
  sleep 1002
  refine ⟨rfl, ?_⟩
  sleep 1002
  refine isI_of kI rfl ?_
  sleep 1002
  refine name_of kI rfl ?_
  sleep 1002
  rw [kept_none hn]
  sleep 1002
  refine name_of kI rfl ?_
  sleep 1002
  refine ⟨by unfold keptD; rw [List.length_map, List.length_take]; omega, ?_⟩
  rw [kept_put hn, ← take_next hr2]
  exact hR _ ⟨_, _, rfl⟩
 ·rintro env ⟨u, v, rfl⟩
  rw [enumB_len, hl, List.take_length]
  sleep 3001
  refine ⟨rows.map Rw.nm, kept_keys CS CL rows, by rw [List.length_map]; omega, ?_⟩
  sleep 3001
  have hl2 := names_len rows
  unfold namesS at hl2
  refine ⟨by rw [List.length_map, List.length_map, hl2]; omega, ?_⟩
  rw [List.map_map]
  refine aColD_map (fun n : Str => ((Sum.inr n : Key), insD CS CL (rowAt rows n))) ?_ (fun n hn S hS => ?_) ?_
  ·rw [List.nil_append, List.map_map]
   exact inr_nd (names_nd rok.nd)
  ·obtain ⟨r, hr2, rfl⟩ := List.mem_map.mp (names_mem.mp hn)
   unfold Function.comp
   sleep 3001
   refine ⟨_, kept_val rok.nd hr2, ?_⟩
   rw [rowAt_mem rok.nd hr2] at hS
   exact hS
  ·exact q
end
end
section
def boxD (CB CS CL : Addr) (rows : List Rw) : D := .obj CB [("shelf", .dK (shelfD CS CL rows))]
structure BoxT (K : PySem.W.Frag) (CB : Addr) : Prop where
 cl : Cls K CB
 nS : NoAttr K CB "shelf"
end
local macro_rules | `(tactic| sleep 3) => `(tactic| dsimp only [slot, aVar, aC, aOp, ifB_t, ifB_f, aTest, aAnd, aOr, aNot, aAndV, aOrT, aOrV, aNotV, aIfE, aChain, aNil, aCons, aName, aGNil, aGCons, aGTup, aNext, aIf, aRet, aRetO, aRetN, aDrop, aAsg, aNew, aPar, aParN, aPar3, frz, aFz, aNever, aLoop, aFor, aCol, aLc, aYes, fAdd, fSub, fMul, fMod, fDiv, fPow, fLt, fLe, fGt, fGe, fI, fIc, fCatS, fLtS, eqD, fEq, fNe, fIsN, fNotN, aFn1, fNeg, fLen, fInt, fAbs, fAll, fAny, aFn2, fMax, truD, aTru, aIxL, aIxT, aIxQ, fIxS, stabs, aTup, aLst, aFix, B.solid, B.get, B.sub, aCat, aListOf, aTupOf, aONone, aOSome, aSlL, aRevL, aSortSet, aListAny, aListDK, aCopyD, aLenSet, aSortDK, aSortS, aRetNw, aMethN, aEi, aIQ, aDgN, aDget, aDgetN, fDin, fDnin, aDnew, aDput, fLenD, D.key, aFld, aProp, aMeth, aMeth0, putFD, aSetF, aMake, aMake0, aRaise, isIn, isBo, isS, isL, isT, isDi, isRow, isNo, knD, aIs, aIsRow, D.fl, fInF, fNinF, fInS, fEqY, fNeY, fEqP, fNeP, fInP, fNinP, aLcK, aDc, aIE, aIS, aTry, aHand, aXf, aXis, aIL, aICL, aIT, aIR1, aIR2, coe1, coes, aCall, aCall0, aApp, awipe, List.set, List.map, List.cons_append, List.nil_append, List.replicate, List.length, Nat.reduceSub, Nat.reduceAdd, aLc2, aSc, aSc2, aSortSt, aPop, aExt, aTget, fTin, fTnin, aTnew, aTput, aLenT, aCont, aBrk, aSortIt, aSortI, aSortDI, aSortST, fStr, aJoin, aOrD, aSubO, aMakeK, aMethO, D.tkey, keysD, Option.isSome_none, Option.isSome_some, aOpO, aOpS, aLenO, aEqDO, aEqO, fEqS, fNinS, aCallN, fInPT, fNinPT, aSubX, aOpX, aClr, aListVals, fNinS0, aEqDV, aMethF, aForK, fSum, aLset, aLendMk, aEiT, aSlT, aCatT])
local macro_rules | `(tactic| sleep 3002) => `(tactic| try sleep 3)
local macro_rules | `(tactic| sleep 3003) => `(tactic| (try sleep 3; repeat (with_reducible refine go_seq ?_; try sleep 3)))
section
/-- what the classes want to be compared -/
structure EqT (K : PySem.W.Frag) (CL CB : Addr) : Prop where
 noL : NoB K CL
 iLL : PySem.W.kitOne K (.ref CL) (.ref CL) = some true
 noB : NoB K CB
 iBB : PySem.W.kitOne K (.ref CB) (.ref CB) = some true
 ck : ClK K CB
section
variable {P : Program} {w : World} {K : PySem.W.Frag} {mg : Str → Option Value} {base : Heap} {CB CI CS CL pN pP gN gP fH fSE fLE : Addr} {fdN fdP fdH fdSE fdLE : FuncData}
def headD (r : Rw) : D := .tup [.str r.nm, .int r.po, .int r.co]
def spHead (CS CL : Addr) : ASp := fun bs Q _ => ∃ r : Rw, bs = [.st (insD CS CL r)] ∧ Q (headD r)
theorem ok_head {f : Addr} {fd : FuncData} (kI : InsT K mg CI CS CL pN pP gN gP fdN fdP) (F : Fun K "head" "Instrument.head" sInstrument_head f fd) (T : Bl mg) : FnOk P w K mg base CX0 1 f fd ["self"] (cSp K (spHead CS CL)) := by
 refine F.ok scInstrument_head (fun vs H Q E h => cSp_len (fun bs Q X h => by obtain ⟨n, rfl, _⟩ := h; rfl) h) (fun cdv A outer s H vs Q E hr h => ?_)
 refine ⟨_, (pss_one (ps_ret (pe_tup (pa_cons (pe_fld (pv 0) rfl) (pa_cons (pe_fld (pv 0) rfl) (pa_cons (pe_fld (pv 0) rfl) pa_nil)))))), ?_⟩
 refine fn_A ((sa_ret (ea_tup (el_cons (ea_fld (ea_var 0)) (el_cons (ea_fld (ea_var 0)) (el_cons (ea_fld (ea_var 0)) el_nil)))))) h fun bs Qa Xa h => ?_
 obtain ⟨r, rfl, q⟩ := h
 cases r with
 | lock n p ws c =>
  unfold insD lokF
  sleep 3003
  exact ⟨kI.kL.cl, kI.kL.nT, _, rfl, kI.kL.cl, kI.kL.nP, _, rfl, kI.kL.cl, kI.kL.nF, _, rfl, q⟩
 | sens n p zs c =>
  unfold insD senF
  sleep 3003
  exact ⟨kI.kS.cl, kI.kS.nT, _, rfl, kI.kS.cl, kI.kS.nP, _, rfl, kI.kS.cl, kI.kS.nF, _, rfl, q⟩
end
end
section
section
variable {P : Program} {w : World} {K : PySem.W.Frag} {mg : Str → Option Value} {base : Heap} {CB CI CS CL pN pP pC gN gP gC fBI fSI fLI : Addr} {fdN fdP fdC fdBI fdSI fdLI : FuncData}
abbrev sBox_init : Stmt := inClass (topS 31) 0
abbrev nBox_init : List Str := ["self", "instruments"]
theorem scBox_init : FnScope nBox_init ["self", "instruments"] (defScope sBox_init) := by sleep 2000
def spBoxI (CS CL : Addr) : ISp := fun bs Q _ => ∃ rows : List Rw, bs = [.st (.lst (rows.map (insD CS CL)))] ∧ RwsOk rows ∧ 1 ≤ rows.length ∧ rows.length ≤ 6 ∧ Q [("shelf", .dK (shelfD CS CL rows))]
theorem ok_boxI {f : Addr} {fd : FuncData} (kB : BoxT K CB) (F : Fun K "__init__" "Box.__init__" sBox_init f fd) (DGood_instruments : Df K mg "good_instruments" sGood_instruments ["instruments"] fGood_instruments fdGood_instruments) (GGood_instruments : FnOk P w K mg base CX0 3 fGood_instruments fdGood_instruments ["instruments"] (cSp K (spGoodI CS CL))) : FnOk P w K mg base CX0 4 f fd ["self", "instruments"] (cIn K CB (spBoxI CS CL)) := by
 refine F.ok scBox_init (fun vs H Q E h => cIn_len (n := 1) (fun bs Q X h => by obtain ⟨n, rfl, _⟩ := h; rfl) h) (fun cdv A outer s H vs Q E hr h => ?_)
 refine ⟨_, (pss_one (ps_fld (pv 0) (pe_df DGood_instruments GGood_instruments (hr.mono (by decide)) (pa_cons (pv 1) pa_nil)) rfl)), ?_⟩
 refine fn_I ((sa_fld 0 (ea_call [] (el_cons (ea_var 1) el_nil)))) h fun x bs Qa Xa h => ?_
 obtain ⟨rows, rfl, rok, r1, r2, q⟩ := h
 sleep 3001
 refine ⟨rows, rfl, rok, r1, r2, ?_⟩
 sleep 3001
 exact ⟨kB.cl, kB.nS, by decide, _, rfl, q⟩
end
end
section
section
variable {P : Program} {w : World} {K : PySem.W.Frag} {mg : Str → Option Value} {base : Heap}
theorem calm {n : Nat} {f : Addr} {fd : FuncData} {ps : List Str} {sp sp' : Sp} (F : FnOk P w K mg base (L2.CX P w) n f fd ps sp) (h : ∀ vs H Q E, sp' vs H Q E → sp vs H Q E0) : FnOk P w K mg base CX0 n f fd ps sp' :=
 ⟨fun vs H Q E q => F.len vs H Q E0 (h _ _ _ _ q), fun A outer s H args us vs Q E hr he hb hv hs => codeAny_mono (F.run A outer s H args us vs Q E0 hr he hb hv (h _ _ _ _ hs)) fun r s' hq => by
  cases r with
  | error e =>
   obtain ⟨a, B, H', cls, d, _, _, _, _, _, _, _, hE⟩ := hq
   exact hE
  | ok fl => cases fl <;> exact hq⟩
end
end
local macro_rules | `(tactic| sleep 4) => `(tactic| dsimp only [slot, aVar, aC, aOp, ifB_t, ifB_f, aTest, aAnd, aOr, aNot, aAndV, aOrT, aOrV, aNotV, aIfE, aChain, aNil, aCons, aName, aGNil, aGCons, aGTup, aNext, aIf, aRet, aRetO, aRetN, aDrop, aAsg, aNew, aPar, aParN, aPar3, frz, aFz, aNever, aLoop, aFor, aCol, aLc, aYes, fAdd, fSub, fMul, fMod, fDiv, fPow, fLt, fLe, fGt, fGe, fI, fIc, fCatS, fLtS, eqD, fEq, fNe, fIsN, fNotN, aFn1, fNeg, fLen, fInt, fAbs, fAll, fAny, aFn2, fMax, truD, aTru, aIxL, aIxT, aIxQ, fIxS, stabs, aTup, aLst, aFix, B.solid, B.get, B.sub, aCat, aListOf, aTupOf, aONone, aOSome, aSlL, aRevL, aSortSet, aListAny, aListDK, aCopyD, aLenSet, aSortDK, aSortS, aRetNw, aMethN, aIQ, aDgN, aDget, aDgetN, fDin, fDnin, aDnew, aDput, fLenD, D.key, aFld, aMeth, aMeth0, putFD, aSetF, aMake, aMake0, aRaise, isIn, isBo, isS, isL, isT, isDi, isRow, isNo, knD, aIsRow, D.fl, fInF, fNinF, fInS, fEqY, fNeY, fEqP, fNeP, fInP, fNinP, aLcK, aDc, aIE, aIS, aTry, aHand, aXf, aXis, aIL, aICL, aIT, aIR1, aIR2, coe1, coes, aCall, aCall0, aApp, awipe, List.set, List.map, List.cons_append, List.nil_append, List.replicate, List.length, Nat.reduceSub, Nat.reduceAdd, aLc2, aSc, aSc2, aSortSt, aPop, aExt, aTget, fTin, fTnin, aTnew, aTput, aLenT, aCont, aBrk, aSortIt, aSortI, aSortDI, aSortST, fStr, aJoin, aOrD, aSubO, aMakeK, aMethO, D.tkey, keysD, Option.isSome_none, Option.isSome_some, aOpO, aOpS, aLenO, aEqDO, aEqO, fEqS, fNinS, aCallN, fInPT, fNinPT, aSubX, aOpX, aClr, aListVals, fNinS0, aEqDV, aMethF, aForK, fSum, aLset, aLendMk, aEiT, aSlT, aCatT])
local macro_rules | `(tactic| sleep 1004) => `(tactic| ((try sleep 4); repeat (with_reducible refine go_seq ?_; try sleep 4)))
section
section
variable {P : Program} {w : World} {K : PySem.W.Frag} {mg : Str → Option Value} {base : Heap} {n : Nat} {f : Addr} {fd : FuncData} {ps : List Str}
theorem FnOk.orC {n1 n2 : Nat} {sp1 sp2 : ASp} (F1 : FnOk P w K mg base CX0 n1 f fd ps (cSp K sp1)) (F2 : FnOk P w K mg base CX0 n2 f fd ps (cSp K sp2)) (h1 : n1 ≤ n := by decide) (h2 : n2 ≤ n := by decide) : FnOk P w K mg base CX0 n f fd ps (cSp K fun bs Q X => sp1 bs Q X ∨ sp2 bs Q X) :=
  ⟨fun vs H Q E ⟨o, S, bs, Qa, Xa, w, hp, no, q, k1, k2⟩ => q.elim (fun q => F1.len vs H Q E ⟨o, S, bs, Qa, Xa, w, hp, no, q, k1, k2⟩) (fun q => F2.len vs H Q E ⟨o, S, bs, Qa, Xa, w, hp, no, q, k1, k2⟩),
   fun A outer s H args us vs Q E hr he hb hv ⟨o, S, bs, Qa, Xa, w, hp, no, q, k1, k2⟩ => q.elim (fun q => F1.run A outer s H args us vs Q E (hr.mono h1) he hb hv ⟨o, S, bs, Qa, Xa, w, hp, no, q, k1, k2⟩) (fun q => F2.run A outer s H args us vs Q E (hr.mono h2) he hb hv ⟨o, S, bs, Qa, Xa, w, hp, no, q, k1, k2⟩)⟩
theorem FnOk.orX {n1 n2 : Nat} {sp1 sp2 : ASp} (F1 : FnOk P w K mg base CX0 n1 f fd ps (cSp K sp1)) (F2 : FnOk P w K mg base (L2.CX P w) n2 f fd ps (cSp K sp2)) (h1 : n1 ≤ n := by decide) (h2 : n2 ≤ n := by decide) : FnOk P w K mg base (L2.CX P w) n f fd ps (cSp K fun bs Q X => sp1 bs Q X ∨ sp2 bs Q X) :=
  ⟨fun vs H Q E ⟨o, S, bs, Qa, Xa, w, hp, no, q, k1, k2⟩ => q.elim (fun q => F1.len vs H Q E ⟨o, S, bs, Qa, Xa, w, hp, no, q, k1, k2⟩) (fun q => F2.len vs H Q E ⟨o, S, bs, Qa, Xa, w, hp, no, q, k1, k2⟩),
   fun A outer s H args us vs Q E hr he hb hv ⟨o, S, bs, Qa, Xa, w, hp, no, q, k1, k2⟩ => q.elim (fun q => codeAny_mono (F1.run A outer s H args us vs Q E (hr.mono h1) he hb hv ⟨o, S, bs, Qa, Xa, w, hp, no, q, k1, k2⟩) fun r s' hq => by
      cases r with
      | error e => exact False.elim hq
      | ok fl => cases fl <;> exact hq) (fun q => F2.run A outer s H args us vs Q E (hr.mono h2) he hb hv ⟨o, S, bs, Qa, Xa, w, hp, no, q, k1, k2⟩)⟩
end
/-- what is no instrument of another name -/
inductive BadIt (CS CL : Addr) (rs : List Rw) : D → Prop
 | no {d : D} {m : String} (h : knD d = some m) : BadIt CS CL rs d
 | tw {r : Rw} (ok : RwOk r) (h : r.nm ∈ rs.map Rw.nm) : BadIt CS CL rs (insD CS CL r)
/-- what Box makes of a thing: the rows, or the refusal's number -/
inductive GoI (CS CL : Addr) : D → Sum (List Rw) Int → Prop
 | notRow {d : D} (ht : Thg d) (hd : dRow d = false) : GoI CS CL d (.inr (-1))
 | ob (r : Rw) : GoI CS CL (insD CS CL r) (.inr (-1))
 | size {d : D} {ds : List D} (e : d = .lst ds ∨ d = .tup ds) (h : ds.length = 0 ∨ 6 < ds.length) (l : ds.length ≤ 900) : GoI CS CL d (.inr (-1))
 | good {d : D} {rows : List Rw} (e : d = .lst (rows.map (insD CS CL)) ∨ d = .tup (rows.map (insD CS CL))) (ok : RwsOk rows) (h1 : 1 ≤ rows.length) (h6 : rows.length ≤ 6) : GoI CS CL d (.inl rows)
 | bad {d x : D} {rs : List Rw} {rest : List D} (e : d = .lst (rs.map (insD CS CL) ++ x :: rest) ∨ d = .tup (rs.map (insD CS CL) ++ x :: rest)) (ok : RwsOk rs) (h6 : rs.length + rest.length ≤ 5) (hx : BadIt CS CL rs x) : GoI CS CL d (.inr rs.length)
section
variable {P : Program} {w : World} {K : PySem.W.Frag} {mg : Str → Option Value} {base : Heap} {CB CI CS CL CN pN pP gN gP fX : Addr} {fdN fdP fdX : FuncData}
theorem isN_of {CI : Addr} {i : Nat} {ax : AX} {env : AEnv} {Q : B → Prop} {d : D} {m : String} (hk : knD d = some m) (hs : slot env i = some (.st d)) (q : Q (.st (.bl false))) : aIs K (.ref CI) isNo (aVar i) ax env Q := by
 unfold aIs aVar
 rw [hs]
 cases d <;> simp [knD] at hk <;> exact q
def spRowO (CS CL : Addr) : ASp := fun bs Q _ => ∃ r : Rw, bs = [.st (insD CS CL r)] ∧ Q (.bl false)
theorem ok_rowO (kI : InsT K mg CI CS CL pN pP gN gP fdN fdP) (nS : PySem.W.kitAny K (.ref CS) [.type "list", .type "tuple"] = some false) (nL : PySem.W.kitAny K (.ref CL) [.type "list", .type "tuple"] = some false) (DIs_row : Df K mg "is_row" sIs_row ["thing"] fIs_row fdIs_row) (T : Bl mg) : FnOk P w K mg base CX0 1 fIs_row fdIs_row ["thing"] (cSp K (spRowO CS CL)) := by
 refine DIs_row.fn.ok scIs_row (fun vs H Q E h => cSp_len (fun bs Q X h => by obtain ⟨n, rfl, _⟩ := h; rfl) h) (fun cdv A outer s H vs Q E hr h => ?_)
 refine ⟨_, (pss_one (ps_ret (pe_callB call_isiT (by rfl) T.isinstance (by decide +kernel) (pa_cons (pv 0) (pa_cons (pe_tup (pa_cons (pe_bltn (v := .ty "list") (by rfl) T.list (by decide +kernel) rfl) (pa_cons (pe_bltn (v := .ty "tuple") (by rfl) T.tuple (by decide +kernel) rfl) pa_nil))) pa_nil))))), ?_⟩
 refine fn_A ((sa_ret (ea_isRow (ea_var 0)))) h fun bs Qa Xa h => ?_
 obtain ⟨r, rfl, q⟩ := h
 cases r with
 | lock n p ws c => exact ⟨kI.kL.ck, false, nL, q⟩
 | sens n p zs c => exact ⟨kI.kS.ck, false, nS, q⟩
def spGoodIX (CS CL CN : Addr) : ASp := fun bs Q X => ∃ (d : D) (o : Sum (List Rw) Int), bs = [.st d] ∧ GoI CS CL d o ∧ match o with
 | .inl rows => Q (.dK (shelfD CS CL rows))
 | .inr v => X CN [("at", .int v)]
theorem ok_goodIX (kI : InsT K mg CI CS CL pN pP gN gP fdN fdP) (XBadInstrument : ExcT P w K mg "BadInstrument" CN fX "at" fdX) (GNm : FnOk P w K mg base CX0 1 gN fdN ["self"] (cSp K (spFldP K "title"))) (DGood_instruments : Df K mg "good_instruments" sGood_instruments ["instruments"] fGood_instruments fdGood_instruments) (DIs_row : Df K mg "is_row" sIs_row ["thing"] fIs_row fdIs_row) (GIs_row : FnOk P w K mg base CX0 1 fIs_row fdIs_row ["thing"] (cSp K fun bs Q X => spRowA bs Q X ∨ spRowO CS CL bs Q X)) (T : Bl mg) (hMI : mg "MOST_INSTRUMENTS" = some (.int 6 tok)) : FnOk P w K mg base (L2.CX P w) 3 fGood_instruments fdGood_instruments ["instruments"] (cSp K (spGoodIX CS CL CN)) := by
 refine DGood_instruments.fn.okX scGood_instruments (fun vs H Q E h => cSp_len (fun bs Q X h => by obtain ⟨n, m, rfl, _⟩ := h; rfl) h) (fun cdv A outer s H vs Q E hr h => ?_)
 refine ⟨_, (pss_cons (ps_if (PW.pt (pw_or (pt_not (pt_val (pe_df DIs_row GIs_row (hr.mono (by decide)) (pa_cons (pv 0) pa_nil)))) (pw_or1 (pt_not (pt_chain op_le op_le pe_int (pe_callB call_len (by rfl) T.len (by decide +kernel) (pa_cons (pv 0) pa_nil)) (pe_glob (v := .int 6) (by rfl) hMI ⟨_, rfl⟩)))))) (pss_one (ps_raiseX XBadInstrument (hr.mono (by decide)) (by rfl) rfl (takes_of rfl rfl rfl rfl) (pa_cons (pe_un un_neg pe_int) pa_nil))) pss_nil)
   (pss_cons (ps_set (i := 1) scGood_instruments.nd rfl (Or.inr rfl) pe_dnewK)
   (pss_cons (ps_for (passes_of rfl) rfl (pi_enumD (by rfl) T.enumerate (pa_cons (pv 0) pa_nil)) (pg_tup rfl (pgs_cons (pg_name (i := 2) scGood_instruments.nd rfl (Or.inl rfl)) (pgs_cons (pg_name (i := 3) scGood_instruments.nd rfl (Or.inl rfl)) pgs_nil))) (pss_cons (ps_if (PW.pt (pw_or (pt_not (pt_val (pe_callB call_isi (by rfl) T.isinstance (by decide +kernel) (pa_cons (pv 3) (pa_cons (pe_glob (v := .ref CI) (by rfl) kI.gI rfl) pa_nil))))) (pw_or1 (pt_cmp (pc_din (hu1 hr) (pe_ei (pe_prop (pv 3) kI.kS.cl kI.pNS GNm (hr.mono (by decide)) kI.bN .nil pass0 rfl) (pe_prop (pv 3) kI.kL.cl kI.pNL GNm (hr.mono (by decide)) kI.bN .nil pass0 rfl)) (pv 1)))))) (pss_one (ps_raiseX XBadInstrument (hr.mono (by decide)) (by rfl) rfl (takes_of rfl rfl rfl rfl) (pa_cons (pv 2) pa_nil))) pss_nil)
   (pss_one (ps_dput (hu1 hr) (pv 1) (pe_ei (pe_prop (pv 3) kI.kS.cl kI.pNS GNm (hr.mono (by decide)) kI.bN .nil pass0 rfl) (pe_prop (pv 3) kI.kL.cl kI.pNL GNm (hr.mono (by decide)) kI.bN .nil pass0 rfl)) (pv 3) (by rfl)))))
   (pss_one (ps_ret (pe_dc (own := [("name", 4)]) rfl scGood_instruments.nd (pi_list (pe_callB (call_sortedD rfl) (by rfl) T.sorted (by decide +kernel) (pa_cons (pv 1) pa_nil))) (blkOk_by (own := [("name", 4)]) (N := nGood_instruments) (sc := defScope sGood_instruments) (by decide +kernel)) (fun _ _ _ _ _ => (pg_name (i := 4) scGood_instruments.nd rfl (Or.inl rfl))) (fun _ _ _ _ _ => pts_nil) (fun _ _ _ _ _ => (pv 4)) (fun _ _ _ _ _ => (pe_dget (hu1 hr) (pv 1) (pv 4) (fun _ _ => rfl))))))))), ?_⟩
 refine fn_AX ((sa_seq (sa_if (et_or (et_not (et_B (ea_call [] (el_cons (ea_var 0) el_nil)))) (et_not (et_test (ea_chain r2_le r2_le ea_cI (ea_b1 rc_len (ea_var 0)) ea_cI)))) (sa_raise (ea_un r1_neg ea_cI)) sa_next)
   (sa_seq (sa_new 1 en_dnew)
   (sa_seq (sa_for (ei_enum (ea_var 0)) (ga_tup (n := 2) (js := [2, 3]) (gas_cons (ga_name (js := [2, 3]) 2) (gas_cons (ga_name (js := [2, 3]) 3) gas_nil))) (sa_seq (sa_if (et_or (et_not (et_B (ea_isO kI.noI (ea_var 3)))) (et_B (ea_din (ea_ei (ea_prop false (ea_var 3)) (ea_prop false (ea_var 3))) (ea_var 1)))) (sa_raise (ea_var 2)) sa_next)
   (sa_dput 1 (ea_ei (ea_prop false (ea_var 3)) (ea_prop false (ea_var 3))) (ea_var 3))))
   (sa_ret (ea_fix (en_dc (ec_list (ea_fix (en_sortDK (ea_var 1)))) (ga_name (js := [4]) 4) et_yes (ea_var 4) (ea_dget (ea_var 1) (ea_var 4))))))))) h fun bs Qa Xa h => ?_
 obtain ⟨d, o, rfl, hg, q⟩ := h
 cases hg with
 | notRow ht hd =>
  sleep 3003
  refine .inl ⟨_, .inl rfl, ht, ?_⟩
  rw [hd]
  exact q
 | ob r =>
  sleep 3003
  exact .inr ⟨r, rfl, q⟩
 | @size d ds e h l =>
  rcases e with rfl | rfl
  ·sleep 3003
   refine .inl ⟨_, .inl rfl, thg_lst _, ?_⟩
   unfold dRow
   sleep 3003
   rcases h with h | h
   ·rw [decide_eq_false (show ¬ (1 : Int) ≤ (ds.length : Int) by omega)]
    exact q
   ·rw [decide_eq_true (show (1 : Int) ≤ (ds.length : Int) by omega), decide_eq_false (show ¬ (ds.length : Int) ≤ 6 by omega)]
    exact q
  ·sleep 3003
   refine .inl ⟨_, .inl rfl, thg_tup _, ?_⟩
   unfold dRow
   sleep 3003
   rcases h with h | h
   ·rw [decide_eq_false (show ¬ (1 : Int) ≤ (ds.length : Int) by omega)]
    exact q
   ·rw [decide_eq_true (show (1 : Int) ≤ (ds.length : Int) by omega), decide_eq_false (show ¬ (ds.length : Int) ≤ 6 by omega)]
    exact q
 | @good d rows e ok h1 h6 =>
  rcases e with rfl | rfl
  ·have hl : (rows.map (insD CS CL)).length = rows.length := List.length_map ..
   sleep 3003
   refine .inl ⟨_, .inl rfl, thg_lst _, ?_⟩
   unfold dRow
   sleep 3003
   rw [hl, decide_eq_true (show (1 : Int) ≤ (rows.length : Int) by omega)]
   sleep 3003
   rw [decide_eq_true (show (rows.length : Int) ≤ 6 by omega)]
   sleep 3003
   intro o
   sleep 3003
   refine aLoop_inv (fun i env => ∃ u v, env = [some (.st (.lst (rows.map (insD CS CL)))), some (.ow o (.dK (keptD CS CL (rows.take i)))), u, v, none]) ⟨_, _, rfl⟩ ?_ ?_
   ·rintro i x env R hx ⟨u, v, rfl⟩ hR
    obtain ⟨r, hr2, rfl⟩ : ∃ r, rows[i]? = some r ∧ x = .st (.tup [.int (i : Nat), insD CS CL r]) := by
     have hi := (List.getElem?_eq_some_iff.mp hx).1
     rw [enumB_len, hl] at hi
     have e := enumB_get (rows.map (insD CS CL)) 0 i (insD CS CL rows[i]) (by rw [List.getElem?_map, List.getElem?_eq_getElem hi]; rfl)
     rw [hx, Nat.zero_add] at e
     exact ⟨rows[i], List.getElem?_eq_getElem hi, Option.some.inj e⟩
    have hn : r.nm ∉ (rows.take i).map Rw.nm := by
     have := not_before (ts := rows.map Rw.nm) ok.nd (i := i) (t := r.nm) (by rw [List.getElem?_map, hr2]; rfl)
     rwa [← List.map_take] at this
    have hi : i < rows.length := (List.getElem?_eq_some_iff.mp hr2).1
    sleep 1004
    refine ⟨rfl, ?_⟩
    sleep 1004
    refine isI_of kI rfl ?_
    sleep 1004
    refine name_of kI rfl ?_
    sleep 1004
    rw [kept_none hn]
    sleep 1004
    refine name_of kI rfl ?_
    sleep 1004
    refine ⟨by unfold keptD; rw [List.length_map, List.length_take]; omega, ?_⟩
    rw [kept_put hn, ← take_next hr2]
    exact hR _ ⟨_, _, rfl⟩
   ·rintro env ⟨u, v, rfl⟩
    rw [enumB_len, hl, List.take_length]
    sleep 3003
    refine ⟨rows.map Rw.nm, kept_keys CS CL rows, by rw [List.length_map]; omega, ?_⟩
    sleep 3003
    have hl2 := names_len rows
    unfold namesS at hl2
    refine ⟨by rw [List.length_map, List.length_map, hl2]; omega, ?_⟩
    rw [List.map_map]
    refine aColD_map (fun n : Str => ((Sum.inr n : Key), insD CS CL (rowAt rows n))) ?_ (fun n hn S hS => ?_) ?_
    ·rw [List.nil_append, List.map_map]
     exact inr_nd (names_nd ok.nd)
    ·obtain ⟨r, hr2, rfl⟩ := List.mem_map.mp (names_mem.mp hn)
     unfold Function.comp
     sleep 3003
     refine ⟨_, kept_val ok.nd hr2, ?_⟩
     rw [rowAt_mem ok.nd hr2] at hS
     exact hS
    ·exact q
  ·have hl : (rows.map (insD CS CL)).length = rows.length := List.length_map ..
   sleep 3003
   refine .inl ⟨_, .inl rfl, thg_tup _, ?_⟩
   unfold dRow
   sleep 3003
   rw [hl, decide_eq_true (show (1 : Int) ≤ (rows.length : Int) by omega)]
   sleep 3003
   rw [decide_eq_true (show (rows.length : Int) ≤ 6 by omega)]
   sleep 3003
   intro o
   sleep 3003
   refine aLoop_inv (fun i env => ∃ u v, env = [some (.st (.tup (rows.map (insD CS CL)))), some (.ow o (.dK (keptD CS CL (rows.take i)))), u, v, none]) ⟨_, _, rfl⟩ ?_ ?_
   ·rintro i x env R hx ⟨u, v, rfl⟩ hR
    obtain ⟨r, hr2, rfl⟩ : ∃ r, rows[i]? = some r ∧ x = .st (.tup [.int (i : Nat), insD CS CL r]) := by
     have hi := (List.getElem?_eq_some_iff.mp hx).1
     rw [enumB_len, hl] at hi
     have e := enumB_get (rows.map (insD CS CL)) 0 i (insD CS CL rows[i]) (by rw [List.getElem?_map, List.getElem?_eq_getElem hi]; rfl)
     rw [hx, Nat.zero_add] at e
     exact ⟨rows[i], List.getElem?_eq_getElem hi, Option.some.inj e⟩
    have hn : r.nm ∉ (rows.take i).map Rw.nm := by
     have := not_before (ts := rows.map Rw.nm) ok.nd (i := i) (t := r.nm) (by rw [List.getElem?_map, hr2]; rfl)
     rwa [← List.map_take] at this
    have hi : i < rows.length := (List.getElem?_eq_some_iff.mp hr2).1
    sleep 1004
    refine ⟨rfl, ?_⟩
    sleep 1004
    refine isI_of kI rfl ?_
    sleep 1004
    refine name_of kI rfl ?_
    sleep 1004
    rw [kept_none hn]
    sleep 1004
    refine name_of kI rfl ?_
    sleep 1004
    refine ⟨by unfold keptD; rw [List.length_map, List.length_take]; omega, ?_⟩
    rw [kept_put hn, ← take_next hr2]
    exact hR _ ⟨_, _, rfl⟩
   ·rintro env ⟨u, v, rfl⟩
    rw [enumB_len, hl, List.take_length]
    sleep 3003
    refine ⟨rows.map Rw.nm, kept_keys CS CL rows, by rw [List.length_map]; omega, ?_⟩
    sleep 3003
    have hl2 := names_len rows
    unfold namesS at hl2
    refine ⟨by rw [List.length_map, List.length_map, hl2]; omega, ?_⟩
    rw [List.map_map]
    refine aColD_map (fun n : Str => ((Sum.inr n : Key), insD CS CL (rowAt rows n))) ?_ (fun n hn S hS => ?_) ?_
    ·rw [List.nil_append, List.map_map]
     exact inr_nd (names_nd ok.nd)
    ·obtain ⟨r, hr2, rfl⟩ := List.mem_map.mp (names_mem.mp hn)
     unfold Function.comp
     sleep 3003
     refine ⟨_, kept_val ok.nd hr2, ?_⟩
     rw [rowAt_mem ok.nd hr2] at hS
     exact hS
    ·exact q
 | @bad d x rs rest e ok h6 hx =>
  rcases e with rfl | rfl
  ·have hl : (rs.map (insD CS CL) ++ x :: rest).length = rs.length + 1 + rest.length := by rw [List.length_append, List.length_map, List.length_cons]; omega
   sleep 3003
   refine .inl ⟨_, .inl rfl, thg_lst _, ?_⟩
   unfold dRow
   sleep 3003
   rw [hl, decide_eq_true (show (1 : Int) ≤ ((rs.length + 1 + rest.length : Nat) : Int) by omega)]
   sleep 3003
   rw [decide_eq_true (show ((rs.length + 1 + rest.length : Nat) : Int) ≤ 6 by omega)]
   sleep 3003
   intro o
   sleep 3003
   refine aLoop_inv (fun i env => i ≤ rs.length ∧ ∃ u v, env = [some (.st (.lst (rs.map (insD CS CL) ++ x :: rest))), some (.ow o (.dK (keptD CS CL (rs.take i)))), u, v, none]) ⟨Nat.zero_le _, _, _, rfl⟩ ?_ ?_
   ·rintro i y env R hy ⟨hil, u, v, rfl⟩ hR
    rcases Nat.lt_or_ge i rs.length with hi | hi
    ·obtain ⟨r, hr2, rfl⟩ : ∃ r, rs[i]? = some r ∧ y = .st (.tup [.int (i : Nat), insD CS CL r]) := by
      have e := enumB_get (rs.map (insD CS CL) ++ x :: rest) 0 i (insD CS CL rs[i]) (by rw [List.getElem?_append_left (by rw [List.length_map]; exact hi), List.getElem?_map, List.getElem?_eq_getElem hi]; rfl)
      rw [hy, Nat.zero_add] at e
      exact ⟨rs[i], List.getElem?_eq_getElem hi, Option.some.inj e⟩
     have hn : r.nm ∉ (rs.take i).map Rw.nm := by
      have := not_before (ts := rs.map Rw.nm) ok.nd (i := i) (t := r.nm) (by rw [List.getElem?_map, hr2]; rfl)
      rwa [← List.map_take] at this
     sleep 1004
     refine ⟨rfl, ?_⟩
     sleep 1004
     refine isI_of kI rfl ?_
     sleep 1004
     refine name_of kI rfl ?_
     sleep 1004
     rw [kept_none hn]
     sleep 1004
     refine name_of kI rfl ?_
     sleep 1004
     refine ⟨by unfold keptD; rw [List.length_map, List.length_take]; omega, ?_⟩
     rw [kept_put hn, ← take_next hr2]
     exact hR _ ⟨hi, _, _, rfl⟩
    ·obtain rfl : i = rs.length := by omega
     have e := enumB_get (rs.map (insD CS CL) ++ x :: rest) 0 rs.length x (by rw [List.getElem?_append_right (by rw [List.length_map]; omega), List.length_map, Nat.sub_self]; rfl)
     rw [hy, Nat.zero_add] at e
     obtain rfl := Option.some.inj e
     rw [List.take_length]
     sleep 1004
     refine ⟨rfl, ?_⟩
     sleep 1004
     cases hx with
     | no hk =>
      refine isN_of hk rfl ?_
      sleep 1004
      exact q
     | tw ro h =>
      refine isI_of kI rfl ?_
      sleep 1004
      refine name_of kI rfl ?_
      sleep 1004
      obtain ⟨r2, hr2, en⟩ := List.mem_map.mp h
      rw [← en, kept_val ok.nd hr2]
      sleep 1004
      exact q
   ·rintro env ⟨hil, _⟩
    rw [enumB_len, hl] at hil
    omega
  ·have hl : (rs.map (insD CS CL) ++ x :: rest).length = rs.length + 1 + rest.length := by rw [List.length_append, List.length_map, List.length_cons]; omega
   sleep 3003
   refine .inl ⟨_, .inl rfl, thg_tup _, ?_⟩
   unfold dRow
   sleep 3003
   rw [hl, decide_eq_true (show (1 : Int) ≤ ((rs.length + 1 + rest.length : Nat) : Int) by omega)]
   sleep 3003
   rw [decide_eq_true (show ((rs.length + 1 + rest.length : Nat) : Int) ≤ 6 by omega)]
   sleep 3003
   intro o
   sleep 3003
   refine aLoop_inv (fun i env => i ≤ rs.length ∧ ∃ u v, env = [some (.st (.tup (rs.map (insD CS CL) ++ x :: rest))), some (.ow o (.dK (keptD CS CL (rs.take i)))), u, v, none]) ⟨Nat.zero_le _, _, _, rfl⟩ ?_ ?_
   ·rintro i y env R hy ⟨hil, u, v, rfl⟩ hR
    rcases Nat.lt_or_ge i rs.length with hi | hi
    ·obtain ⟨r, hr2, rfl⟩ : ∃ r, rs[i]? = some r ∧ y = .st (.tup [.int (i : Nat), insD CS CL r]) := by
      have e := enumB_get (rs.map (insD CS CL) ++ x :: rest) 0 i (insD CS CL rs[i]) (by rw [List.getElem?_append_left (by rw [List.length_map]; exact hi), List.getElem?_map, List.getElem?_eq_getElem hi]; rfl)
      rw [hy, Nat.zero_add] at e
      exact ⟨rs[i], List.getElem?_eq_getElem hi, Option.some.inj e⟩
     have hn : r.nm ∉ (rs.take i).map Rw.nm := by
      have := not_before (ts := rs.map Rw.nm) ok.nd (i := i) (t := r.nm) (by rw [List.getElem?_map, hr2]; rfl)
      rwa [← List.map_take] at this
     sleep 1004
     refine ⟨rfl, ?_⟩
     sleep 1004
     refine isI_of kI rfl ?_
     sleep 1004
     refine name_of kI rfl ?_
     sleep 1004
     rw [kept_none hn]
     sleep 1004
     refine name_of kI rfl ?_
     sleep 1004
     refine ⟨by unfold keptD; rw [List.length_map, List.length_take]; omega, ?_⟩
     rw [kept_put hn, ← take_next hr2]
     exact hR _ ⟨hi, _, _, rfl⟩
    ·obtain rfl : i = rs.length := by omega
     have e := enumB_get (rs.map (insD CS CL) ++ x :: rest) 0 rs.length x (by rw [List.getElem?_append_right (by rw [List.length_map]; omega), List.length_map, Nat.sub_self]; rfl)
     rw [hy, Nat.zero_add] at e
     obtain rfl := Option.some.inj e
     rw [List.take_length]
     sleep 1004
     refine ⟨rfl, ?_⟩
     sleep 1004
     cases hx with
     | no hk =>
      refine isN_of hk rfl ?_
      sleep 1004
      exact q
     | tw ro h =>
      refine isI_of kI rfl ?_
      sleep 1004
      refine name_of kI rfl ?_
      sleep 1004
      obtain ⟨r2, hr2, en⟩ := List.mem_map.mp h
      rw [← en, kept_val ok.nd hr2]
      sleep 1004
      exact q
   ·rintro env ⟨hil, _⟩
    rw [enumB_len, hl] at hil
    omega
end
end
section
section
variable {P : Program} {w : World} {K : PySem.W.Frag} {mg : Str → Option Value} {base : Heap} {CH CW CB CI CS CL : Addr}
abbrev sBox_getitem : Stmt := inClass (topS 31) 2
abbrev nBox_getitem : List Str := ["self", "name"]
theorem scBox_getitem : FnScope nBox_getitem ["self", "name"] (defScope sBox_getitem) := by sleep 2000
def spBGet (CB CS CL : Addr) : ASp := fun bs Q _ => ∃ (rows : List Rw) (n : Str), bs = [.st (boxD CB CS CL rows), .st (.str n)] ∧ (rows.map Rw.nm).Nodup ∧ n ∈ rows.map Rw.nm ∧ Q (insD CS CL (rowAt rows n))
theorem ok_bget {f : Addr} {fd : FuncData} (kB : BoxT K CB) (F : Fun K "__getitem__" "Box.__getitem__" sBox_getitem f fd) (T : Bl mg) : FnOk P w K mg base CX0 1 f fd ["self", "name"] (cSp K (spBGet CB CS CL)) := by
 refine F.ok scBox_getitem (fun vs H Q E h => cSp_len (fun bs Q X h => by obtain ⟨n, m, rfl, _⟩ := h; rfl) h) (fun cdv A outer s H vs Q E hr h => ?_)
 refine ⟨_, (pss_cons (ps_if (PW.pt (pw_or (pt_not (pt_val (pe_callB call_isi (by rfl) T.isinstance (by decide +kernel) (pa_cons (pv 1) (pa_cons (pe_bltn (v := .ty "str") (by rfl) T.str (by decide +kernel) rfl) pa_nil))))) (pw_or1 (pt_cmp (pc_dnotin (hu1 hr) (pv 1) (pe_fld (pv 0) rfl)))))) (pss_one ps_never) pss_nil)
   (pss_one (ps_ret (pe_dget (hu1 hr) (pe_fld (pv 0) rfl) (pv 1) (fun _ _ => rfl))))), ?_⟩
 refine fn_A ((sa_seq (sa_if (et_or (et_not (et_B (ea_isB is_S (ea_var 1)))) (et_B (ea_dnin (ea_var 1) (ea_fld (ea_var 0))))) sa_never sa_next)
   (sa_ret (ea_dget (ea_fld (ea_var 0)) (ea_var 1))))) h fun bs Qa Xa h => ?_
 obtain ⟨rows, n, rfl, nd, hn, q⟩ := h
 obtain ⟨r, hr2, rfl⟩ := List.mem_map.mp hn
 have hv := shelf_val (CS := CS) (CL := CL) nd hr2
 rw [rowAt_mem nd hr2] at q
 unfold boxD
 sleep 3003
 refine ⟨kB.cl, kB.nS, _, rfl, ?_⟩
 sleep 3003
 rw [hv]
 sleep 3003
 refine ⟨kB.cl, kB.nS, _, rfl, ?_⟩
 sleep 3003
 exact ⟨_, hv, q⟩
end
end
section
/-- the rows in the order of a shelf -/
def shelfR (rows : List Rw) : List Rw := (namesS rows).map (rowAt rows)
theorem shelfR_nm {rows : List Rw} (ok : RwsOk rows) : (shelfR rows).map Rw.nm = namesS rows := by
 unfold shelfR
 rw [List.map_map]
 refine (List.map_congr_left fun n hn => ?_).trans (List.map_id _)
 obtain ⟨r, hr, rfl⟩ := List.mem_map.mp (names_mem.mp hn)
 show (rowAt rows r.nm).nm = r.nm
 rw [rowAt_mem ok.nd hr]
theorem shelfR_len (rows : List Rw) : (shelfR rows).length = rows.length := by
 unfold shelfR
 rw [List.length_map, names_len]
theorem shelfR_mem {rows : List Rw} (ok : RwsOk rows) {r : Rw} : r ∈ shelfR rows ↔ r ∈ rows := by
 unfold shelfR
 rw [List.mem_map]
 constructor
 ·rintro ⟨n, hn, rfl⟩
  obtain ⟨r, hr, rfl⟩ := List.mem_map.mp (names_mem.mp hn)
  rw [rowAt_mem ok.nd hr]
  exact hr
 ·intro h
  exact ⟨r.nm, names_mem.mpr (List.mem_map.mpr ⟨r, h, rfl⟩), rowAt_mem ok.nd h⟩
theorem shelf_vals (CS CL : Addr) (rows : List Rw) : (shelfD CS CL rows).map (·.2) = (shelfR rows).map (insD CS CL) := by
 unfold shelfD shelfR
 rw [List.map_map, List.map_map]
 rfl
theorem shelf_len (CS CL : Addr) (rows : List Rw) : (shelfD CS CL rows).length = rows.length := by
 unfold shelfD
 rw [List.length_map, names_len]
theorem more_ok {rows : List Rw} (ok : RwsOk rows) {r : Rw} (hr : RwOk r) (hn : r.nm ∉ rows.map Rw.nm) : RwsOk (shelfR rows ++ [r]) := by
 refine ⟨?_, fun x hx => ?_⟩
 ·rw [List.map_append, shelfR_nm ok]
  refine List.nodup_append.mpr ⟨names_nd ok.nd, by simp, ?_⟩
  intro a ha b hb e
  simp only [List.map_cons, List.map_nil, List.mem_singleton] at hb
  subst hb e
  exact hn (names_mem.mp ha)
 ·rcases List.mem_append.mp hx with h | h
  ·exact ok.ok x ((shelfR_mem ok).mp h)
  ·rw [List.mem_singleton.mp h]; exact hr
theorem shelf_keysK (CS CL : Addr) (rows : List Rw) : (shelfD CS CL rows).map (·.1) = (namesS rows).map Sum.inr := by
 unfold shelfD
 rw [List.map_map]
 rfl
theorem valD_iff {κ : Type} [DecidableEq κ] {kvs : List (κ × D)} {k : κ} : (valD kvs k).isSome = true ↔ k ∈ kvs.map (·.1) := by
 unfold valD
 rw [Option.isSome_map, List.find?_isSome]
 simp [eq_comm]
theorem shelf_in {CS CL : Addr} {rows : List Rw} {n : Str} : (valD (shelfD CS CL rows) (Sum.inr n)).isSome = decide (n ∈ rows.map Rw.nm) := by
 rw [Bool.eq_iff_iff, valD_iff, shelf_keysK, decide_eq_true_eq]
 simp only [List.mem_map, Sum.inr.injEq, exists_eq_right]
 rw [names_mem, List.mem_map]
theorem bshelf_keys (CS CL : Addr) (rows : List Rw) : (shelfD CS CL rows).map (fun kd => kD kd.1) = (namesS rows).map D.str := by
 unfold shelfD
 rw [List.map_map]
 rfl
section
variable {P : Program} {w : World} {K : PySem.W.Frag} {mg : Str → Option Value} {base : Heap} {CB CI CS CL pN pP pC gN gP gC fBI fSI fLI : Addr} {fdN fdP fdC fdBI fdSI fdLI : FuncData}
abbrev sBox_names : Stmt := inClass (topS 31) 1
abbrev nBox_names : List Str := ["self"]
theorem scBox_names : FnScope nBox_names ["self"] (defScope sBox_names) := by sleep 2000
abbrev sBox_len : Stmt := inClass (topS 31) 4
abbrev nBox_len : List Str := ["self"]
theorem scBox_len : FnScope nBox_len ["self"] (defScope sBox_len) := by sleep 2000
def spBLen (CB CS CL : Addr) : ASp := fun bs Q _ => ∃ rows : List Rw, bs = [.st (boxD CB CS CL rows)] ∧ Q (.int rows.length)
theorem ok_blen {f : Addr} {fd : FuncData} (kB : BoxT K CB) (F : Fun K "__len__" "Box.__len__" sBox_len f fd) (T : Bl mg) : FnOk P w K mg base CX0 1 f fd ["self"] (cSp K (spBLen CB CS CL)) := by
 refine F.ok scBox_len (fun vs H Q E h => cSp_len (fun bs Q X h => by obtain ⟨n, rfl, _⟩ := h; rfl) h) (fun cdv A outer s H vs Q E hr h => ?_)
 refine ⟨_, (pss_one (ps_ret (pe_callB cr_lenRd (by rfl) T.len (by decide +kernel) (pa_cons (pe_fld (pv 0) rfl) pa_nil)))), ?_⟩
 refine fn_A ((sa_ret (ea_b1 rc_lenD (ea_fld (ea_var 0))))) h fun bs Qa Xa h => ?_
 obtain ⟨rows, rfl, q⟩ := h
 unfold boxD
 sleep 3003
 refine ⟨kB.cl, kB.nS, _, rfl, ?_⟩
 sleep 3003
 rw [shelf_len]
 exact q
abbrev sBox_or : Stmt := inClass (topS 31) 6
abbrev nBox_or : List Str := ["self", "instrument", "full"]
theorem scBox_or : FnScope nBox_or ["self", "instrument"] (defScope sBox_or) := by sleep 2000
def spBOr (CB CS CL : Addr) : ASp := fun bs Q _ => ∃ (rows : List Rw) (r : Rw), bs = [.st (boxD CB CS CL rows), .st (insD CS CL r)] ∧ RwsOk rows ∧ rows.length < 6 ∧ RwOk r ∧ r.nm ∉ rows.map Rw.nm ∧ Q (boxD CB CS CL (shelfR rows ++ [r]))
theorem ok_bor {f : Addr} {fd : FuncData} (kB : BoxT K CB) (kI : InsT K mg CI CS CL pN pP gN gP fdN fdP) (GNm : FnOk P w K mg base CX0 1 gN fdN ["self"] (cSp K (spFldP K "title"))) (gBx : mg "Box" = some (.ref CB)) (MBox : Mk K CB fBI) (GIBox : FnOk P w K mg base CX0 4 fBI fdBI ["self", "instruments"] (cIn K CB (spBoxI CS CL))) (bIBox : Binds K fdBI ["self", "instruments"] []) (F : Fun K "__or__" "Box.__or__" sBox_or f fd) (T : Bl mg) (hMI : mg "MOST_INSTRUMENTS" = some (.int 6 tok)) : FnOk P w K mg base CX0 6 f fd ["self", "instrument"] (cSp K (spBOr CB CS CL)) := by
 refine F.ok scBox_or (fun vs H Q E h => cSp_len (fun bs Q X h => by obtain ⟨n, c, rfl, _⟩ := h; rfl) h) (fun cdv A outer s H vs Q E hr h => ?_)
 refine ⟨_, (pss_cons (ps_set (i := 2) scBox_or.nd rfl (Or.inl rfl) (pe_cmpR op_eq (pe_callB cr_lenRd (by rfl) T.len (by decide +kernel) (pa_cons (pe_fld (pv 0) rfl) pa_nil)) (pe_glob (v := .int 6) (by rfl) hMI ⟨_, rfl⟩) (nomark _)))
   (pss_cons (ps_if (PW.pt (pw_or (pt_val (pv 2)) (pw_or (pt_not (pt_val (pe_callB call_isi (by rfl) T.isinstance (by decide +kernel) (pa_cons (pv 1) (pa_cons (pe_glob (v := .ref CI) (by rfl) kI.gI rfl) pa_nil))))) (pw_or1 (pt_cmp (pc_din (hu1 hr) (pe_ei (pe_prop (pv 1) kI.kS.cl kI.pNS GNm (hr.mono (by decide)) kI.bN .nil pass0 rfl) (pe_prop (pv 1) kI.kL.cl kI.pNL GNm (hr.mono (by decide)) kI.bN .nil pass0 rfl)) (pe_fld (pv 0) rfl))))))) (pss_one ps_never) pss_nil)
   (pss_one (ps_ret (pe_make MBox GIBox (hr.mono (by decide)) (by rfl) gBx bIBox .nil pass0 (pa_cons (pe_op op_cat (pe_listVals rfl (pe_fld (pv 0) rfl) T.list) (pe_lst (pa_cons (pv 1) pa_nil))) pa_nil)))))), ?_⟩
 refine fn_A ((sa_seq (sa_set 2 (ea_op r2_eq (ea_b1 rc_lenD (ea_fld (ea_var 0))) ea_cI))
   (sa_seq (sa_if (et_or (et_B (ea_var 2)) (et_or (et_not (et_B (ea_isO kI.noI (ea_var 1)))) (et_B (ea_din (ea_ei (ea_prop false (ea_var 1)) (ea_prop false (ea_var 1))) (ea_fld (ea_var 0)))))) sa_never sa_next)
   (sa_ret (ea_make [] (el_cons (ea_fix (en_cat (ea_fix (en_listVals (ea_fld (ea_var 0)))) (ea_fix (en_lst (el_cons (ea_var 1) el_nil))))) el_nil)))))) h fun bs Qa Xa h => ?_
 obtain ⟨rows, r, rfl, rok, hl, ok, hn, q⟩ := h
 unfold boxD
 sleep 1004
 refine ⟨kB.cl, kB.nS, _, rfl, ?_⟩
 sleep 1004
 rw [shelf_len, decide_eq_false (show ¬ (rows.length : Int) = 6 by omega)]
 sleep 1004
 refine isI_of kI rfl ?_
 sleep 1004
 refine name_of kI rfl ?_
 sleep 1004
 refine ⟨kB.cl, kB.nS, _, rfl, ?_⟩
 sleep 1004
 rw [shelf_in, decide_eq_false hn]
 sleep 1004
 refine ⟨kB.cl, kB.nS, _, rfl, ?_⟩
 sleep 1004
 refine ⟨by rw [List.length_map, shelf_len]; omega, shelfR rows ++ [r], ?_, more_ok rok ok hn, by rw [List.length_append]; show 1 ≤ _ + 1; omega, by rw [List.length_append, shelfR_len]; show _ + 1 ≤ 6; omega, q⟩
 rw [shelf_vals, List.map_append]
 rfl
end
end
section
/-- what is no name of the rows -/
def NoNm (rows : List Rw) (d : D) : Prop := (∃ m, knD d = some m ∧ m ≠ "str") ∨ ∃ z, d = .str z ∧ z ∉ rows.map Rw.nm
theorem shelf_no {CS CL : Addr} {rows : List Rw} {z : Str} (h : z ∉ rows.map Rw.nm) : valD (shelfD CS CL rows) (Sum.inr z) = none := by
 cases e : valD (shelfD CS CL rows) (Sum.inr z) with
 | none => rfl
 | some d =>
  have := shelf_in (CS := CS) (CL := CL) (rows := rows) (n := z)
  rw [e, decide_eq_false h] at this
  cases this
theorem nt {A B : Prop} (h : B) : ifB (!true) A B := h
theorem sub_rows (CS CL : Addr) {rows : List Rw} (rok : RwsOk rows) (z : Str) : (namesS rows).filterMap (fun n => if n = z then none else some (insD CS CL (rowAt rows n))) = ((shelfR rows).filter fun r => decide (r.nm ≠ z)).map (insD CS CL) := by
 unfold shelfR
 have : ∀ l : List Str, (∀ n ∈ l, (rowAt rows n).nm = n) → l.filterMap (fun n => if n = z then none else some (insD CS CL (rowAt rows n))) = ((l.map (rowAt rows)).filter fun r => decide (r.nm ≠ z)).map (insD CS CL) := fun l => by
  induction l with
  | nil => intro _; rfl
  | cons a r ih =>
   intro h
   have e := h a (by simp)
   rw [List.filterMap_cons, List.map_cons, List.filter_cons, e]
   by_cases c : a = z
   ·rw [if_pos c, decide_eq_false (fun k => k c)]
    exact ih fun n hn => h n (List.mem_cons_of_mem _ hn)
   ·rw [if_neg c, decide_eq_true c]
    show _ = insD CS CL (rowAt rows a) :: _
    rw [← ih fun n hn => h n (List.mem_cons_of_mem _ hn)]
 exact this _ fun n hn => by
  obtain ⟨r, hr, rfl⟩ := List.mem_map.mp (names_mem.mp hn)
  rw [rowAt_mem rok.nd hr]
theorem sub_ok {rows : List Rw} (rok : RwsOk rows) (z : Str) : RwsOk ((shelfR rows).filter fun r => decide (r.nm ≠ z)) :=
 ⟨(List.Sublist.map Rw.nm List.filter_sublist).nodup (by rw [shelfR_nm rok]; exact names_nd rok.nd), fun r hr => rok.ok r ((shelfR_mem rok).mp (List.mem_filter.mp hr).1)⟩
theorem sub_pos {rows : List Rw} (rok : RwsOk rows) (h2 : 2 ≤ rows.length) (z : Str) : 1 ≤ ((shelfR rows).filter fun r => decide (r.nm ≠ z)).length := by
 refine Nat.pos_of_ne_zero fun e => ?_
 have e := List.length_eq_zero_iff.mp e
 have : ∀ n ∈ rows.map Rw.nm, n ∈ [z] := fun n hn => by
  obtain ⟨r, hr, rfl⟩ := List.mem_map.mp hn
  refine Classical.byContradiction fun c => ?_
  have hm : r ∈ (shelfR rows).filter fun r => decide (r.nm ≠ z) := List.mem_filter.mpr ⟨(shelfR_mem rok).mpr hr, decide_eq_true fun h => c (by rw [h]; simp)⟩
  rw [e] at hm
  cases hm
 have := List.Nodup.length_le_of_subset rok.nd this
 rw [List.length_map] at this
 have : rows.length ≤ 1 := this
 omega
section
variable {P : Program} {w : World} {K : PySem.W.Frag} {mg : Str → Option Value} {base : Heap} {CB CI CS CL CN CM pN pP gN gP fX fM fBI : Addr} {fdN fdP fdX fdM fdBI : FuncData}
def spBoxIX (CS CL CN : Addr) : ISp := fun bs Q X => ∃ (d : D) (o : Sum (List Rw) Int), bs = [.st d] ∧ GoI CS CL d o ∧ match o with
 | .inl rows => Q [("shelf", .dK (shelfD CS CL rows))]
 | .inr v => X CN [("at", .int v)]
theorem ok_boxIX {f : Addr} {fd : FuncData} (kB : BoxT K CB) (F : Fun K "__init__" "Box.__init__" sBox_init f fd) (DGood_instruments : Df K mg "good_instruments" sGood_instruments ["instruments"] fGood_instruments fdGood_instruments) (GGood_instruments : FnOk P w K mg base (L2.CX P w) 3 fGood_instruments fdGood_instruments ["instruments"] (cSp K (spGoodIX CS CL CN))) : FnOk P w K mg base (L2.CX P w) 4 f fd ["self", "instruments"] (cIn K CB (spBoxIX CS CL CN)) := by
 refine F.okX scBox_init (fun vs H Q E h => cIn_len (n := 1) (fun bs Q X h => by obtain ⟨n, m, rfl, _⟩ := h; rfl) h) (fun cdv A outer s H vs Q E hr h => ?_)
 refine ⟨_, (pss_one (ps_fld (pv 0) (pe_dfS DGood_instruments GGood_instruments (hr.mono (by decide)) (takes_of rfl rfl rfl rfl) (pa_cons (pv 1) pa_nil)) rfl)), ?_⟩
 refine fn_IX ((sa_fld 0 (ea_callX [] (el_cons (ea_var 1) el_nil)))) h fun x bs Qa Xa h => ?_
 obtain ⟨d, o, rfl, hg, q⟩ := h
 sleep 3003
 refine ⟨d, o, rfl, hg, ?_⟩
 cases o with
 | inl rows => exact ⟨kB.cl, kB.nS, by decide, _, rfl, q⟩
 | inr v => exact q
def spBGetX (CB CS CL CM : Addr) : ASp := fun bs Q X => ∃ (rows : List Rw) (d : D), bs = [.st (boxD CB CS CL rows), .st d] ∧ NoNm rows d ∧ X CM [("value", d)]
theorem ok_bgetX {f : Addr} {fd : FuncData} (kB : BoxT K CB) (XBadName : ExcT P w K mg "BadName" CM fM "value" fdM) (F : Fun K "__getitem__" "Box.__getitem__" sBox_getitem f fd) (T : Bl mg) : FnOk P w K mg base (L2.CX P w) 3 f fd ["self", "name"] (cSp K (spBGetX CB CS CL CM)) := by
 refine F.okX scBox_getitem (fun vs H Q E h => cSp_len (fun bs Q X h => by obtain ⟨n, m, rfl, _⟩ := h; rfl) h) (fun cdv A outer s H vs Q E hr h => ?_)
 refine ⟨_, (pss_cons (ps_if (PW.pt (pw_or (pt_not (pt_val (pe_callB call_isi (by rfl) T.isinstance (by decide +kernel) (pa_cons (pv 1) (pa_cons (pe_bltn (v := .ty "str") (by rfl) T.str (by decide +kernel) rfl) pa_nil))))) (pw_or1 (pt_cmp (pc_dnotin (hu1 hr) (pv 1) (pe_fld (pv 0) rfl)))))) (pss_one (ps_raiseX XBadName (hr.mono (by decide)) (by rfl) rfl (takes_of rfl rfl rfl rfl) (pa_cons (pv 1) pa_nil))) pss_nil)
   (pss_one (ps_ret (pe_dget (hu1 hr) (pe_fld (pv 0) rfl) (pv 1) (fun _ _ => rfl))))), ?_⟩
 refine fn_AX ((sa_seq (sa_if (et_or (et_not (et_B (ea_isB is_S (ea_var 1)))) (et_B (ea_dnin (ea_var 1) (ea_fld (ea_var 0))))) (sa_raise (ea_var 1)) sa_next)
   (sa_ret (ea_dget (ea_fld (ea_var 0)) (ea_var 1))))) h fun bs Qa Xa h => ?_
 obtain ⟨rows, d, rfl, hn, q⟩ := h
 unfold boxD
 rcases hn with ⟨m, hk, hm⟩ | ⟨z, rfl, hz⟩
 ·cases d <;> simp [knD] at hk <;> subst hk <;> first | exact absurd rfl hm | (sleep 3003; exact q)
 ·sleep 3003
  refine ⟨kB.cl, kB.nS, _, rfl, ?_⟩
  sleep 3003
  rw [shelf_no hz]
  exact q
def spBOrX (CB CS CL CN : Addr) : ASp := fun bs Q X => ∃ (rows : List Rw) (d : D), bs = [.st (boxD CB CS CL rows), .st d] ∧ (rows.length = 6 ∨ BadIt CS CL rows d) ∧ rows.length ≤ 6 ∧ X CN [("at", .int rows.length)]
theorem ok_borX {f : Addr} {fd : FuncData} (kB : BoxT K CB) (kI : InsT K mg CI CS CL pN pP gN gP fdN fdP) (XBadInstrument : ExcT P w K mg "BadInstrument" CN fX "at" fdX) (GNm : FnOk P w K mg base CX0 1 gN fdN ["self"] (cSp K (spFldP K "title"))) (gBx : mg "Box" = some (.ref CB)) (MBox : Mk K CB fBI) (GIBox : FnOk P w K mg base CX0 4 fBI fdBI ["self", "instruments"] (cIn K CB (spBoxI CS CL))) (bIBox : Binds K fdBI ["self", "instruments"] []) (F : Fun K "__or__" "Box.__or__" sBox_or f fd) (T : Bl mg) (hMI : mg "MOST_INSTRUMENTS" = some (.int 6 tok)) : FnOk P w K mg base (L2.CX P w) 6 f fd ["self", "instrument"] (cSp K (spBOrX CB CS CL CN)) := by
 refine F.okX scBox_or (fun vs H Q E h => cSp_len (fun bs Q X h => by obtain ⟨n, c, rfl, _⟩ := h; rfl) h) (fun cdv A outer s H vs Q E hr h => ?_)
 refine ⟨_, (pss_cons (ps_set (i := 2) scBox_or.nd rfl (Or.inl rfl) (pe_cmpR op_eq (pe_callB cr_lenRd (by rfl) T.len (by decide +kernel) (pa_cons (pe_fld (pv 0) rfl) pa_nil)) (pe_glob (v := .int 6) (by rfl) hMI ⟨_, rfl⟩) (nomark _)))
   (pss_cons (ps_if (PW.pt (pw_or (pt_val (pv 2)) (pw_or (pt_not (pt_val (pe_callB call_isi (by rfl) T.isinstance (by decide +kernel) (pa_cons (pv 1) (pa_cons (pe_glob (v := .ref CI) (by rfl) kI.gI rfl) pa_nil))))) (pw_or1 (pt_cmp (pc_din (hu1 hr) (pe_ei (pe_prop (pv 1) kI.kS.cl kI.pNS GNm (hr.mono (by decide)) kI.bN .nil pass0 rfl) (pe_prop (pv 1) kI.kL.cl kI.pNL GNm (hr.mono (by decide)) kI.bN .nil pass0 rfl)) (pe_fld (pv 0) rfl))))))) (pss_one (ps_raiseX XBadInstrument (hr.mono (by decide)) (by rfl) rfl (takes_of rfl rfl rfl rfl) (pa_cons (pe_callB cr_lenRd (by rfl) T.len (by decide +kernel) (pa_cons (pe_fld (pv 0) rfl) pa_nil)) pa_nil))) pss_nil)
   (pss_one (ps_ret (pe_make MBox GIBox (hr.mono (by decide)) (by rfl) gBx bIBox .nil pass0 (pa_cons (pe_op op_cat (pe_listVals rfl (pe_fld (pv 0) rfl) T.list) (pe_lst (pa_cons (pv 1) pa_nil))) pa_nil)))))), ?_⟩
 refine fn_AX ((sa_seq (sa_set 2 (ea_op r2_eq (ea_b1 rc_lenD (ea_fld (ea_var 0))) ea_cI))
   (sa_seq (sa_if (et_or (et_B (ea_var 2)) (et_or (et_not (et_B (ea_isO kI.noI (ea_var 1)))) (et_B (ea_din (ea_ei (ea_prop false (ea_var 1)) (ea_prop false (ea_var 1))) (ea_fld (ea_var 0)))))) (sa_raise (ea_b1 rc_lenD (ea_fld (ea_var 0)))) sa_next)
   (sa_ret (ea_make [] (el_cons (ea_fix (en_cat (ea_fix (en_listVals (ea_fld (ea_var 0)))) (ea_fix (en_lst (el_cons (ea_var 1) el_nil))))) el_nil)))))) h fun bs Qa Xa h => ?_
 obtain ⟨rows, d, rfl, hn, h6, q⟩ := h
 have q0 : Xa CN [("at", .int ((shelfD CS CL rows).length : Nat))] := by rw [shelf_len]; exact q
 unfold boxD
 sleep 1004
 refine ⟨kB.cl, kB.nS, _, rfl, ?_⟩
 sleep 1004
 by_cases h6 : rows.length = 6
 ·rw [shelf_len, decide_eq_true (show (rows.length : Int) = 6 by omega)]
  sleep 1004
  exact ⟨kB.cl, kB.nS, _, rfl, q0⟩
 ·rw [shelf_len, decide_eq_false (show ¬ (rows.length : Int) = 6 by omega)]
  sleep 1004
  rcases hn with hn | hn
  ·exact absurd hn h6
  ·cases hn with
   | no hk =>
    refine isN_of hk rfl ?_
    sleep 1004
    exact ⟨kB.cl, kB.nS, _, rfl, q0⟩
   | tw ro hh =>
    refine isI_of kI rfl ?_
    sleep 1004
    refine name_of kI rfl ?_
    sleep 1004
    refine ⟨kB.cl, kB.nS, _, rfl, ?_⟩
    sleep 1004
    rw [shelf_in, decide_eq_true hh]
    sleep 1004
    exact ⟨kB.cl, kB.nS, _, rfl, q0⟩
abbrev sBox_sub : Stmt := inClass (topS 31) 7
abbrev nBox_sub : List Str := ["self", "name", "one"]
theorem scBox_sub : FnScope nBox_sub ["self", "name"] (defScope sBox_sub) := by sleep 2000
def spBSub (CB CS CL : Addr) : ASp := fun bs Q _ => ∃ (rows : List Rw) (z : Str), bs = [.st (boxD CB CS CL rows), .st (.str z)] ∧ RwsOk rows ∧ z ∈ rows.map Rw.nm ∧ 2 ≤ rows.length ∧ rows.length ≤ 6 ∧ Q (boxD CB CS CL ((shelfR rows).filter fun r => decide (r.nm ≠ z)))
theorem ok_bsub {f : Addr} {fd : FuncData} (kB : BoxT K CB) (gBx : mg "Box" = some (.ref CB)) (MBox : Mk K CB fBI) (GIBox : FnOk P w K mg base CX0 4 fBI fdBI ["self", "instruments"] (cIn K CB (spBoxI CS CL))) (bIBox : Binds K fdBI ["self", "instruments"] []) (F : Fun K "__sub__" "Box.__sub__" sBox_sub f fd) (T : Bl mg) : FnOk P w K mg base CX0 6 f fd ["self", "name"] (cSp K (spBSub CB CS CL)) := by
 refine F.ok scBox_sub (fun vs H Q E h => cSp_len (fun bs Q X h => by obtain ⟨n, c, rfl, _⟩ := h; rfl) h) (fun cdv A outer s H vs Q E hr h => ?_)
 refine ⟨_, (pss_cons (ps_if (PW.pt (pw_or (pt_not (pt_val (pe_callB call_isi (by rfl) T.isinstance (by decide +kernel) (pa_cons (pv 1) (pa_cons (pe_bltn (v := .ty "str") (by rfl) T.str (by decide +kernel) rfl) pa_nil))))) (pw_or (pt_cmp (pc_dnotin (hu1 hr) (pv 1) (pe_fld (pv 0) rfl))) (pw_or1 (pt_cmpR op_eq (pe_callB cr_lenRd (by rfl) T.len (by decide +kernel) (pa_cons (pe_fld (pv 0) rfl) pa_nil)) pe_int (nomark _)))))) (pss_one ps_never) pss_nil)
   (pss_one (ps_ret (pe_make MBox GIBox (hr.mono (by decide)) (by rfl) gBx bIBox .nil pass0 (pa_cons (pe_lockR (pe_lc (own := [("one", 2)]) rfl scBox_sub.nd (pi_keysR (pe_fld (pv 0) rfl)) (blkOk_by (own := [("one", 2)]) (N := nBox_sub) (sc := defScope sBox_sub) (by decide +kernel)) (fun _ _ _ _ _ => (pg_name (i := 2) scBox_sub.nd rfl (Or.inl rfl))) (fun _ _ _ _ _ => (pts_one (pt_cmpR op_ne (pv 2) (pv 1) (nomark _)))) (fun _ _ _ _ _ => (pe_dget (hu1 hr) (pe_fldK (K := K) rfl (pv 0) rfl) (pv 2) (fun _ _ => rfl))))) pa_nil))))), ?_⟩
 refine fn_A ((sa_seq (sa_if (et_or (et_not (et_B (ea_isB is_S (ea_var 1)))) (et_or (et_B (ea_dnin (ea_var 1) (ea_fld (ea_var 0)))) (et_test (ea_op r2_eq (ea_b1 rc_lenD (ea_fld (ea_var 0))) ea_cI)))) sa_never sa_next)
   (sa_ret (ea_make [] (el_cons (ea_fix (en_lcK (ep_fld (ep_var 0)) (ga_name (js := [2]) 2) (et_test (ea_op r2_ne (ea_var 2) (ea_var 1))) (ea_dget (ea_fld (ea_var 0)) (ea_var 2)))) el_nil))))) h fun bs Qa Xa h => ?_
 obtain ⟨rows, z, rfl, rok, hz, h2, h6, q⟩ := h
 unfold boxD
 sleep 3003
 refine nt ⟨kB.cl, kB.nS, _, rfl, ?_⟩
 sleep 3003
 rw [shelf_in, decide_eq_true hz]
 refine nt ⟨kB.cl, kB.nS, _, rfl, ?_⟩
 sleep 3003
 rw [shelf_len, decide_eq_false (show ¬ (rows.length : Int) = 1 by omega)]
 refine ⟨kB.cl, kB.nS, _, rfl, by rw [shelf_len]; omega, ?_⟩
 have ek : ((shelfD CS CL rows).map fun kv => B.st (kD kv.1)) = (namesS rows).map fun n => B.st (D.str n) := by
  unfold shelfD
  rw [List.map_map]
  rfl
 rw [ek]
 refine aCol_fm (fun n => if n = z then none else some (insD CS CL (rowAt rows n))) (fun n hn R hR => ?_) ?_
 ·obtain ⟨r, hr2, rfl⟩ := List.mem_map.mp (names_mem.mp hn)
  sleep 3003
  by_cases c : r.nm = z
  ·rw [if_pos c] at hR
   rw [decide_eq_true c]
   exact hR
  ·rw [if_neg c] at hR
   rw [decide_eq_false c]
   sleep 3003
   exact ⟨kB.cl, kB.nS, _, rfl, _, shelf_val rok.nd hr2, by rw [rowAt_mem rok.nd hr2] at hR; exact hR⟩
 ·rw [List.nil_append, sub_rows CS CL rok z]
  refine ⟨_, rfl, sub_ok rok z, sub_pos rok h2 z, Nat.le_trans (List.length_filter_le ..) (by rw [shelfR_len]; exact h6), q⟩
def spBSubX (CB CS CL CM : Addr) : ASp := fun bs Q X => ∃ (rows : List Rw) (d : D), bs = [.st (boxD CB CS CL rows), .st d] ∧ (NoNm rows d ∨ ∃ z, d = .str z ∧ rows.length = 1) ∧ X CM [("value", d)]
theorem ok_bsubX {f : Addr} {fd : FuncData} (kB : BoxT K CB) (XBadName : ExcT P w K mg "BadName" CM fM "value" fdM) (gBx : mg "Box" = some (.ref CB)) (MBox : Mk K CB fBI) (GIBox : FnOk P w K mg base CX0 4 fBI fdBI ["self", "instruments"] (cIn K CB (spBoxI CS CL))) (bIBox : Binds K fdBI ["self", "instruments"] []) (F : Fun K "__sub__" "Box.__sub__" sBox_sub f fd) (T : Bl mg) : FnOk P w K mg base (L2.CX P w) 6 f fd ["self", "name"] (cSp K (spBSubX CB CS CL CM)) := by
 refine F.okX scBox_sub (fun vs H Q E h => cSp_len (fun bs Q X h => by obtain ⟨n, c, rfl, _⟩ := h; rfl) h) (fun cdv A outer s H vs Q E hr h => ?_)
 refine ⟨_, (pss_cons (ps_if (PW.pt (pw_or (pt_not (pt_val (pe_callB call_isi (by rfl) T.isinstance (by decide +kernel) (pa_cons (pv 1) (pa_cons (pe_bltn (v := .ty "str") (by rfl) T.str (by decide +kernel) rfl) pa_nil))))) (pw_or (pt_cmp (pc_dnotin (hu1 hr) (pv 1) (pe_fld (pv 0) rfl))) (pw_or1 (pt_cmpR op_eq (pe_callB cr_lenRd (by rfl) T.len (by decide +kernel) (pa_cons (pe_fld (pv 0) rfl) pa_nil)) pe_int (nomark _)))))) (pss_one (ps_raiseX XBadName (hr.mono (by decide)) (by rfl) rfl (takes_of rfl rfl rfl rfl) (pa_cons (pv 1) pa_nil))) pss_nil)
   (pss_one (ps_ret (pe_make MBox GIBox (hr.mono (by decide)) (by rfl) gBx bIBox .nil pass0 (pa_cons (pe_lockR (pe_lc (own := [("one", 2)]) rfl scBox_sub.nd (pi_keysR (pe_fld (pv 0) rfl)) (blkOk_by (own := [("one", 2)]) (N := nBox_sub) (sc := defScope sBox_sub) (by decide +kernel)) (fun _ _ _ _ _ => (pg_name (i := 2) scBox_sub.nd rfl (Or.inl rfl))) (fun _ _ _ _ _ => (pts_one (pt_cmpR op_ne (pv 2) (pv 1) (nomark _)))) (fun _ _ _ _ _ => (pe_dget (hu1 hr) (pe_fldK (K := K) rfl (pv 0) rfl) (pv 2) (fun _ _ => rfl))))) pa_nil))))), ?_⟩
 refine fn_AX ((sa_seq (sa_if (et_or (et_not (et_B (ea_isB is_S (ea_var 1)))) (et_or (et_B (ea_dnin (ea_var 1) (ea_fld (ea_var 0)))) (et_test (ea_op r2_eq (ea_b1 rc_lenD (ea_fld (ea_var 0))) ea_cI)))) (sa_raise (ea_var 1)) sa_next)
   (sa_ret (ea_make [] (el_cons (ea_fix (en_lcK (ep_fld (ep_var 0)) (ga_name (js := [2]) 2) (et_test (ea_op r2_ne (ea_var 2) (ea_var 1))) (ea_dget (ea_fld (ea_var 0)) (ea_var 2)))) el_nil))))) h fun bs Qa Xa h => ?_
 obtain ⟨rows, d, rfl, hn, q⟩ := h
 unfold boxD
 rcases hn with (⟨m, hk, hm⟩ | ⟨z, rfl, hz⟩) | ⟨z, rfl, hl⟩
 ·cases d <;> simp [knD] at hk <;> subst hk <;> first | exact absurd rfl hm | (sleep 3003; exact q)
 ·sleep 3003
  refine ⟨kB.cl, kB.nS, _, rfl, ?_⟩
  sleep 3003
  rw [shelf_no hz]
  exact q
 ·sleep 3003
  refine ⟨kB.cl, kB.nS, _, rfl, ?_⟩
  sleep 3003
  by_cases hz : z ∈ rows.map Rw.nm
  ·rw [shelf_in, decide_eq_true hz]
   refine nt ⟨kB.cl, kB.nS, _, rfl, ?_⟩
   sleep 3003
   rw [shelf_len, decide_eq_true (show (rows.length : Int) = 1 by omega)]
   exact q
  ·rw [shelf_no hz]
   exact q
end
end
section
theorem head_plV {r : Rw} (h : RwOk r) : D.pl 8 (headD r) = true := pl_tup (n := 7) (by show 3 ≤ 900; decide) fun d hd => by
 simp only [List.mem_cons, List.not_mem_nil, or_false] at hd
 rcases hd with rfl | rfl | rfl
 ·exact pl_name h.nm
 ·rfl
 ·rfl
/-- the row at another cost -/
def atCost (c : Int) : Rw → Rw
 | .lock n p ws _ => .lock n p ws c
 | .sens n p zs _ => .sens n p zs c
theorem atCost_id (r : Rw) : atCost r.co r = r := by cases r <;> rfl
theorem atCost_nm (c : Int) (r : Rw) : (atCost c r).nm = r.nm := by cases r <;> rfl
theorem atCost_co (c : Int) (r : Rw) : (atCost c r).co = c := by cases r <;> rfl
theorem head_cost (c : Int) (r : Rw) : headD r = headD (atCost c r) ↔ r.co = c := by
 unfold headD
 rw [atCost_co]
 constructor
 ·intro h
  injection h with h
  simp only [List.cons.injEq, D.int.injEq] at h
  exact h.2.2.1
 ·rintro rfl
  rw [atCost_id]
theorem all_strV {zs : ZZ} : AllV (fun d e c => ∃ z z', d = D.str z ∧ e = D.str z' ∧ c = decide (z = z')) (((zD zs).map (·.2)).zip ((zD zs).map (·.2))) true := by
 unfold zD
 induction zs with
 | nil => rfl
 | cons a r ih => exact ⟨true, ⟨a.2, a.2, rfl, rfl, (decide_eq_true rfl).symm⟩, fun _ => ih, fun h => (by cases h)⟩
section
variable {P : Program} {w : World} {K : PySem.W.Frag} {mg : Str → Option Value} {base : Heap} {CB CI CS CL pN pP gN gP fH fSE fLE : Addr} {fdN fdP fdH fdSE fdLE : FuncData}
abbrev sSensor_eq : Stmt := inClass (topS 24) 3
abbrev nSensor_eq : List Str := ["self", "other"]
theorem scSensor_eq : FnScope nSensor_eq ["self", "other"] (defScope sSensor_eq) := by sleep 2000
def spSEqV (CS CL : Addr) : ASp := fun bs Q _ => ∃ (n : Str) (p : Int) (zs : ZZ) (c c' : Int), bs = [.st (insD CS CL (.sens n p zs c)), .st (insD CS CL (.sens n p zs c'))] ∧ RwOk (.sens n p zs c) ∧ RwOk (.sens n p zs c') ∧ Q (.bl (decide (c = c')))
theorem ok_seqV {f : Addr} {fd : FuncData} (kI : InsT K mg CI CS CL pN pP gN gP fdN fdP) (mSH : Meth K CS "head" fH) (GHead : FnOk P w K mg base CX0 1 fH fdH ["self"] (cSp K (spHead CS CL))) (bHead : Binds K fdH ["self"] []) (F : Fun K "__eq__" "Sensor.__eq__" sSensor_eq f fd) (T : Bl mg) : FnOk P w K mg base CX0 2 f fd ["self", "other"] (cSp K (spSEqV CS CL)) := by
 refine F.ok scSensor_eq (fun vs H Q E h => cSp_len (fun bs Q X h => by obtain ⟨n, p, z, c, c', rfl, _⟩ := h; rfl) h) (fun cdv A outer s H vs Q E hr h => ?_)
 refine ⟨_, (pss_one (ps_ret (pe_and (pe_callB call_isi (by rfl) T.isinstance (by decide +kernel) (pa_cons (pv 1) (pa_cons (pe_glob (v := .ref CS) (by rfl) kI.gS rfl) pa_nil))) (pe_and (pe_cmpR (op_eqD hr.units) (pe_meth0 (pv 0) kI.kS.cl mSH GHead (hr.mono (by decide)) bHead .nil pass0) (pe_meth0 (pv 1) kI.kS.cl mSH GHead (hr.mono (by decide)) bHead .nil pass0) (nomark _)) (pe_one (pe_lockR (pe_lockR (pe_cmpR (op_eqDV (hu0 hr)) (pe_fldK (K := K) rfl (pv 0) rfl) (pe_fldK (K := K) rfl (pv 1) rfl) (nomark _))))))))), ?_⟩
 refine fn_A ((sa_ret (ea_and (ea_isO kI.noS (ea_var 1)) (ea_and (ea_op r2_eqP (ea_meth [] (ea_var 0) el_nil) (ea_meth [] (ea_var 1) el_nil)) (ea_eqDV (E := fun d e c => ∃ z z', d = D.str z ∧ e = D.str z' ∧ c = decide (z = z')) (fun d e c h => .inl h) (ep_fld (ep_var 0)) (ep_fld (ep_var 1))))))) h fun bs Qa Xa h => ?_
 obtain ⟨n, p, zs, c, c', rfl, ro, ro', q⟩ := h
 sleep 3003
 refine ⟨kI.kS.ck, true, kI.iSS, ?_⟩
 refine ⟨rfl, rfl, .sens n p zs c, rfl, ?_⟩
 refine ⟨rfl, rfl, .sens n p zs c', rfl, ?_⟩
 refine ⟨head_plV ro, head_plV ro', fun b hb => ?_⟩
 have hc := head_cost c' (.sens n p zs c)
 by_cases e : c = c'
 ·obtain rfl : b = true := hb.mpr (hc.mpr e)
  rw [decide_eq_true e] at q
  exact ⟨kI.kS.cl, kI.kS.nS, _, rfl, kI.kS.cl, kI.kS.nS, _, rfl, rfl, true, all_strV, q⟩
 ·obtain rfl : b = false := Bool.eq_false_iff.mpr fun h => e (hc.mp (hb.mp h))
  rw [decide_eq_false e] at q
  exact q
abbrev sLock_eq : Stmt := inClass (topS 25) 2
abbrev nLock_eq : List Str := ["self", "other"]
theorem scLock_eq : FnScope nLock_eq ["self", "other"] (defScope sLock_eq) := by sleep 2000
def spLEqV (CS CL : Addr) : ASp := fun bs Q _ => ∃ (n : Str) (p : Int) (ws : List Str) (c c' : Int), bs = [.st (insD CS CL (.lock n p ws c)), .st (insD CS CL (.lock n p ws c'))] ∧ RwOk (.lock n p ws c) ∧ RwOk (.lock n p ws c') ∧ Q (.bl (decide (c = c')))
theorem ok_leqV {f : Addr} {fd : FuncData} (kI : InsT K mg CI CS CL pN pP gN gP fdN fdP) (kE : EqT K CL CB) (mLH : Meth K CL "head" fH) (GHead : FnOk P w K mg base CX0 1 fH fdH ["self"] (cSp K (spHead CS CL))) (bHead : Binds K fdH ["self"] []) (F : Fun K "__eq__" "Lock.__eq__" sLock_eq f fd) (T : Bl mg) : FnOk P w K mg base CX0 2 f fd ["self", "other"] (cSp K (spLEqV CS CL)) := by
 refine F.ok scLock_eq (fun vs H Q E h => cSp_len (fun bs Q X h => by obtain ⟨n, p, z, c, c', rfl, _⟩ := h; rfl) h) (fun cdv A outer s H vs Q E hr h => ?_)
 refine ⟨_, (pss_one (ps_ret (pe_and (pe_callB call_isi (by rfl) T.isinstance (by decide +kernel) (pa_cons (pv 1) (pa_cons (pe_glob (v := .ref CL) (by rfl) kI.gL rfl) pa_nil))) (pe_and (pe_cmpR (op_eqD hr.units) (pe_meth0 (pv 0) kI.kL.cl mLH GHead (hr.mono (by decide)) bHead .nil pass0) (pe_meth0 (pv 1) kI.kL.cl mLH GHead (hr.mono (by decide)) bHead .nil pass0) (nomark _)) (pe_one (pe_cmpR (op_eqD hr.units) (pe_fld (pv 0) rfl) (pe_fld (pv 1) rfl) (nomark _))))))), ?_⟩
 refine fn_A ((sa_ret (ea_and (ea_isO kE.noL (ea_var 1)) (ea_and (ea_op r2_eqP (ea_meth [] (ea_var 0) el_nil) (ea_meth [] (ea_var 1) el_nil)) (ea_op r2_eqP (ea_fld (ea_var 0)) (ea_fld (ea_var 1))))))) h fun bs Qa Xa h => ?_
 obtain ⟨n, p, ws, c, c', rfl, ro, ro', q⟩ := h
 have wl : ws.length ≤ 6 := ro.wl.2
 sleep 3003
 refine ⟨kI.kL.ck, true, kE.iLL, ?_⟩
 refine ⟨rfl, rfl, .lock n p ws c, rfl, ?_⟩
 refine ⟨rfl, rfl, .lock n p ws c', rfl, ?_⟩
 refine ⟨head_plV ro, head_plV ro', fun b hb => ?_⟩
 have hc := head_cost c' (.lock n p ws c)
 by_cases e : c = c'
 ·obtain rfl : b = true := hb.mpr (hc.mpr e)
  rw [decide_eq_true e] at q
  have pl : D.pl 8 (.lst ((ws.mergeSort leS).map D.str)) = true := pl_lst (n := 7) (by rw [List.length_map, List.length_mergeSort]; omega) fun d hd => by
   obtain ⟨_, _, rfl⟩ := List.mem_map.mp hd
   exact pl_name (ro.wo _ ((List.mergeSort_perm _ _).mem_iff.mp ‹_›))
  refine ⟨kI.kL.cl, kI.kL.nO, _, rfl, kI.kL.cl, kI.kL.nO, _, rfl, pl, pl, fun b hb => ?_⟩
  obtain rfl : b = true := hb.mpr rfl
  exact q
 ·obtain rfl : b = false := Bool.eq_false_iff.mpr fun h => e (hc.mp (hb.mp h))
  rw [decide_eq_false e] at q
  exact q
abbrev sBox_eq : Stmt := inClass (topS 31) 5
abbrev nBox_eq : List Str := ["self", "other"]
theorem scBox_eq : FnScope nBox_eq ["self", "other"] (defScope sBox_eq) := by sleep 2000
/-- the rows of two boxes that differ in costs alone -/
structure CostR (rows rows2 : List Rw) : Prop where
 ok : RwsOk rows
 ok2 : RwsOk rows2
 nm : namesS rows2 = namesS rows
 at_ : ∀ n ∈ namesS rows, rowAt rows2 n = atCost (rowAt rows2 n).co (rowAt rows n)
def EqI (CS CL : Addr) (d e : D) (c : Bool) : Prop := ∃ (r : Rw) (k : Int), RwOk r ∧ RwOk (atCost k r) ∧ d = insD CS CL r ∧ e = insD CS CL (atCost k r) ∧ c = decide (r.co = k)
theorem all_insV {CS CL : Addr} {rows rows2 : List Rw} : ∀ l : List Str, (∀ n ∈ l, RwOk (rowAt rows n) ∧ RwOk (rowAt rows2 n) ∧ rowAt rows2 n = atCost (rowAt rows2 n).co (rowAt rows n)) →
  AllV (EqI CS CL) ((l.map fun n => insD CS CL (rowAt rows n)).zip (l.map fun n => insD CS CL (rowAt rows2 n))) (decide (∀ n ∈ l, (rowAt rows n).co = (rowAt rows2 n).co))
 | [], _ => by simp [AllV]
 | n :: l, h => by
  obtain ⟨h1, h2, h3⟩ := h n (by simp)
  refine ⟨decide ((rowAt rows n).co = (rowAt rows2 n).co), ⟨rowAt rows n, (rowAt rows2 n).co, h1, by rw [← h3]; exact h2, rfl, by rw [← h3], rfl⟩, fun c => ?_, fun c => ?_⟩
  ·have c := of_decide_eq_true c
   have := all_insV (CS := CS) (CL := CL) l fun m hm => h m (List.mem_cons_of_mem _ hm)
   have e : decide (∀ m ∈ n :: l, (rowAt rows m).co = (rowAt rows2 m).co) = decide (∀ m ∈ l, (rowAt rows m).co = (rowAt rows2 m).co) := by
    rw [Bool.eq_iff_iff, decide_eq_true_eq, decide_eq_true_eq]
    exact ⟨fun q m hm => q m (List.mem_cons_of_mem _ hm), fun q m hm => by
     rcases List.mem_cons.mp hm with rfl | hm
     ·exact c
     ·exact q m hm⟩
   rw [e]
   exact this
  ·have c := of_decide_eq_false c
   exact decide_eq_false fun q => c (q n (by simp))
theorem same_cost {CS CL : Addr} {r : Rw} {k : Int} {S : Hp} {p : Addr} (h1 : Rep K S (.ref p) (insD CS CL r)) (h2 : Rep K S (.ref p) (insD CS CL (atCost k r))) : decide (r.co = k) = true := by
 have key : ∀ {C : Addr} {a b : D} {x : List (Str × D)} {c c' : Int}, Rep K S (.ref p) (.obj C (("title", a) :: ("place", b) :: ("fee", .int c) :: x)) → Rep K S (.ref p) (.obj C (("title", a) :: ("place", b) :: ("fee", .int c') :: x)) → c = c' := fun {C a b x c c'} h1 h2 => by
  obtain ⟨q, dx, us, e, e1, _, r1⟩ := rep_obj h1
  obtain ⟨q2, dx2, us2, e', e2, _, r2⟩ := rep_obj h2
  cases e
  cases e'
  rw [e1] at e2
  cases e2
  generalize us.map (·.2) = L at r1 r2
  cases r1 with
  | cons _ r1 => cases r1 with
   | cons _ r1 => cases r1 with
    | cons v1 _ =>
     cases r2 with
     | cons _ r2 => cases r2 with
      | cons _ r2 => cases r2 with
       | cons v2 _ =>
        have a1 := rep_int v1
        have a2 := rep_int v2
        rw [a1] at a2
        injection a2
 cases r with
 | lock n q ws c => exact decide_eq_true (key h1 h2)
 | sens n q zs c => exact decide_eq_true (key h1 h2)
def spBEqV (CB CS CL : Addr) : ASp := fun bs Q _ => ∃ rows rows2 : List Rw, bs = [.st (boxD CB CS CL rows), .st (boxD CB CS CL rows2)] ∧ CostR rows rows2 ∧ Q (.bl (decide (∀ n ∈ namesS rows, (rowAt rows n).co = (rowAt rows2 n).co)))
theorem ok_beqV {f : Addr} {fd : FuncData} (kB : BoxT K CB) (kE : EqT K CL CB) (gBx : mg "Box" = some (.ref CB)) (eqS : EqC K CS fSE) (GSEq : FnOk P w K mg base CX0 2 fSE fdSE ["self", "other"] (cSp K (spSEqV CS CL))) (bSEq : Binds K fdSE ["self", "other"] []) (eqL : EqC K CL fLE) (GLEq : FnOk P w K mg base CX0 2 fLE fdLE ["self", "other"] (cSp K (spLEqV CS CL))) (bLEq : Binds K fdLE ["self", "other"] [])
  (F : Fun K "__eq__" "Box.__eq__" sBox_eq f fd) (T : Bl mg) : FnOk P w K mg base CX0 5 f fd ["self", "other"] (cSp K (spBEqV CB CS CL)) := by
 refine F.ok scBox_eq (fun vs H Q E h => cSp_len (fun bs Q X h => by obtain ⟨n, m, rfl, _⟩ := h; rfl) h) (fun cdv A outer s H vs Q E hr h => ?_)
 have hE : ∀ d e c, EqI CS CL d e c → EqOkV (cxOf CX0 P w K mg base nBox_eq "Box.__eq__" (defScope sBox_eq) f cdv A outer s H E).nox d e c := fun d e c ⟨r, k, ro, ro', e1, e2, e3⟩ => by
  subst e1 e2 e3
  cases r with
  | sens n p zs c => exact .inr ⟨CS, _, _, fSE, fdSE, 2, spSEqV CS CL, rfl, rfl, eqS, GSEq, bSEq, hr.in1.mono (by decide), ⟨n, p, zs, c, k, rfl, ro, ro', rfl⟩, fun S p h1 h2 => same_cost (r := .sens n _ zs c) h1 h2⟩
  | lock n p ws c => exact .inr ⟨CL, _, _, fLE, fdLE, 2, spLEqV CS CL, rfl, rfl, eqL, GLEq, bLEq, hr.in1.mono (by decide), ⟨n, p, ws, c, k, rfl, ro, ro', rfl⟩, fun S p h1 h2 => same_cost (r := .lock n _ ws c) h1 h2⟩
 refine ⟨_, (pss_one (ps_ret (pe_and (pe_callB call_isi (by rfl) T.isinstance (by decide +kernel) (pa_cons (pv 1) (pa_cons (pe_glob (v := .ref CB) (by rfl) gBx rfl) pa_nil))) (pe_one (pe_lockR (pe_lockR (pe_cmpR (op_eqDV (hu0 hr)) (pe_fldK (K := K) rfl (pv 0) rfl) (pe_fldK (K := K) rfl (pv 1) rfl) (nomark _)))))))), ?_⟩
 refine fn_A ((sa_ret (ea_and (ea_isO kE.noB (ea_var 1)) (ea_eqDV hE (ep_fld (ep_var 0)) (ep_fld (ep_var 1)))))) h fun bs Qa Xa h => ?_
 obtain ⟨rows, rows2, rfl, hc, q⟩ := h
 unfold boxD
 sleep 3003
 refine ⟨kE.ck, true, kE.iBB, ?_⟩
 have okA : ∀ {rs : List Rw}, RwsOk rs → ∀ n ∈ namesS rs, RwOk (rowAt rs n) := fun {rs} ok n hn => by
  obtain ⟨r, hr2, rfl⟩ := List.mem_map.mp (names_mem.mp hn)
  rw [rowAt_mem ok.nd hr2]
  exact ok.ok r hr2
 refine ⟨kB.cl, kB.nS, _, rfl, kB.cl, kB.nS, _, rfl, ?_, _, ?_, q⟩
 ·rw [shelf_keysK, shelf_keysK, hc.nm]
 ·unfold shelfD
  rw [List.map_map, List.map_map, hc.nm]
  exact all_insV (namesS rows) fun n hn => ⟨okA hc.ok n hn, okA hc.ok2 n (by rw [hc.nm]; exact hn), hc.at_ n hn⟩
end
end
section
structure RefA (K : PySem.W.Frag) (mg : Str → Option Value) (CQ CE : Addr) (at_ : Str) : Prop where
 x : XfC K CQ
 c : ExcC K CQ
 n : PySem.W.findIn K (.ref CQ) at_ = some none
 k : PySem.W.kitOne K (.ref CQ) (.ref CE) = some true
 gE : mg "WorksError" = some (.ref CE)
 e : PySem.W.exmOne K (.ref CQ) (.ref CQ) = some true
def toldD (x : D) : D := .tup [.str "told", x]
def badD (x : D) : D := .tup [.str "bad", x, .bl true]
section
variable {P : Program} {w : World} {K : PySem.W.Frag} {mg : Str → Option Value} {base : Heap} {CB CI CS CL CN CM CE pN pP gN gP fX fM fBI fBG fBOr fBSu fBN fBL fSI fLI : Addr} {fdN fdP fdX fdM fdBI fdBG fdBOr fdBSu fdBN fdBL fdSI fdLI : FuncData}
def spBNmF (CB CS CL : Addr) : ASp := fun bs Q _ => ∃ rows : List Rw, bs = [.st (boxD CB CS CL rows)] ∧ Q (.lst ((namesS rows).map D.str))
theorem ok_bnmF {f : Addr} {fd : FuncData} (kB : BoxT K CB) (F : Fun K "names" "Box.names" sBox_names f fd) (T : Bl mg) : FnOk P w K mg base CX0 1 f fd ["self"] (cSpF K (spBNmF CB CS CL)) := by
 refine F.ok scBox_names (fun vs H Q E h => cSpF_len (fun bs Q X h => by obtain ⟨n, rfl, _⟩ := h; rfl) h) (fun cdv A outer s H vs Q E hr h => ?_)
 refine ⟨_, (pss_one (ps_ret (pe_callTy (cr_listRd rfl) (by rfl) T.list (by decide +kernel) (pa_cons (pe_fld (pv 0) rfl) pa_nil)))), ?_⟩
 refine fn_AXF (sa_retNw (en_listDK (ea_fld (ea_var 0)))) h fun bs Qa Xa h => ?_
 obtain ⟨rows, rfl, q⟩ := h
 unfold boxD
 sleep 3003
 refine ⟨kB.cl, kB.nS, _, rfl, ?_⟩
 sleep 3003
 rw [← bshelf_keys CS CL rows] at q
 exact q
abbrev sLone : Stmt := topS 49
abbrev nLone : List Str := ["_law_row"]
theorem scLone : FnScope nLone ["_law_row"] (defScope sLone) := by sleep 2000
def spOne (CS CL : Addr) : ASp := fun bs Q _ => ∃ r : Rw, bs = [.st r.d] ∧ RwOk r ∧ Q (insD CS CL r)
theorem ok_one (DLone : Df K mg "_law_one" sLone ["_law_row"] fLone fdLone) (kI : InsT K mg CI CS CL pN pP gN gP fdN fdP) (MSensor : Mk K CS fSI) (GISensor : FnOk P w K mg base CX0 5 fSI fdSI ["self", "name", "post", "sights", "cost"] (cIn K CS spSenI)) (bISensor : Binds K fdSI ["self", "name", "post", "sights", "cost"] []) (MLock : Mk K CL fLI) (GILock : FnOk P w K mg base CX0 5 fLI fdLI ["self", "name", "post", "words", "cost"] (cIn K CL spLokI)) (bILock : Binds K fdLI ["self", "name", "post", "words", "cost"] []) (T : Bl mg) : FnOk P w K mg base CX0 7 fLone fdLone ["_law_row"] (cSp K (spOne CS CL)) := by
 refine DLone.fn.ok scLone (fun vs H Q E h => cSp_len (fun bs Q X h => by obtain ⟨n, rfl, _⟩ := h; rfl) h) (fun cdv A outer s H vs Q E hr h => ?_)
 refine ⟨_, (pss_cons (ps_if (pt_cmpR op_eq (pe_ix ix_tup (pv 0) pe_int (fun _ _ => rfl)) pe_str (nomark _)) (pss_one (ps_ret (pe_make MLock GILock (hr.mono (by decide)) (by rfl) kI.gL bILock .nil pass0 (pa_cons (pe_ix ix_tup (pv 0) pe_int (fun _ _ => rfl)) (pa_cons (pe_ix ix_tup (pv 0) pe_int (fun _ _ => rfl)) (pa_cons (pe_callTy call_list_of (by rfl) T.list (by decide +kernel) (pa_cons (pe_ix ix_tup (pv 0) pe_int (fun _ _ => rfl)) pa_nil)) (pa_cons (pe_ix ix_tup (pv 0) pe_int (fun _ _ => rfl)) pa_nil))))))) pss_nil)
   (pss_one (ps_ret (pe_make MSensor GISensor (hr.mono (by decide)) (by rfl) kI.gS bISensor .nil pass0 (pa_cons (pe_ix ix_tup (pv 0) pe_int (fun _ _ => rfl)) (pa_cons (pe_ix ix_tup (pv 0) pe_int (fun _ _ => rfl)) (pa_cons (pe_copyR (pe_ix ix_tup (pv 0) pe_int (fun _ _ => rfl))) (pa_cons (pe_ix ix_tup (pv 0) pe_int (fun _ _ => rfl)) pa_nil)))))))), ?_⟩
 refine fn_A ((sa_seq (sa_if (et_test (ea_op r2_eq (ea_ixT (ea_var 0) ea_cI) ea_cS)) (sa_ret (ea_make [] (el_cons (ea_ixT (ea_var 0) ea_cI) (el_cons (ea_ixT (ea_var 0) ea_cI) (el_cons (ea_fix (en_listOf (ea_ixT (ea_var 0) ea_cI))) (el_cons (ea_ixT (ea_var 0) ea_cI) el_nil)))))) sa_next)
   (sa_ret (ea_make [] (el_cons (ea_ixT (ea_var 0) ea_cI) (el_cons (ea_ixT (ea_var 0) ea_cI) (el_cons (ea_fix (en_copyD (ea_ixT (ea_var 0) ea_cI))) (el_cons (ea_ixT (ea_var 0) ea_cI) el_nil)))))))) h fun bs Qa Xa h => ?_
 obtain ⟨r, rfl, ro, q⟩ := h
 cases r with
 | lock n p ws c =>
  sleep 3003
  refine ⟨_, rfl, ?_⟩
  refine ifB_dec (fun _ => ?_) (fun c => absurd rfl c)
  refine ⟨_, rfl, _, rfl, _, rfl, _, rfl, n, p, c, ws, rfl, ro.nm, ro.po, ⟨ro.wl.1, by have := ro.wl.2; show ws.length ≤ 10; have : ws.length ≤ 6 := this; omega, ro.wn, ro.wo⟩, ro.co, q⟩
 | sens n p zs c =>
  sleep 3003
  refine ⟨_, rfl, ?_⟩
  refine ifB_dec (fun c => absurd c (by decide +kernel)) (fun _ => ?_)
  sleep 3003
  refine ⟨_, rfl, _, rfl, _, rfl, _, rfl, n, p, c, zs, rfl, ro.nm, ro.po, ?_, ro.co, q⟩
  exact ⟨ro.wn, fun q hq => ⟨ro.wo q.1 (List.mem_map.mpr ⟨q, hq, rfl⟩), ro.so n p zs c rfl q hq⟩, by have : 1 ≤ (zs.map (·.1)).length := ro.wl.1; rwa [List.length_map] at this, by have : (zs.map (·.1)).length ≤ 6 := ro.wl.2; rw [List.length_map] at this; omega⟩
abbrev sLtold : Stmt := topS 51
abbrev nLtold : List Str := ["_law_things", "e"]
theorem scLtold : FnScope nLtold ["_law_things"] (defScope sLtold) := by sleep 2000
def spTold (CS CL : Addr) : ASp := fun bs Q _ => ∃ (d : D) (o : Sum (List Rw) Int), bs = [.st d] ∧ GoI CS CL d o ∧ match o with
 | .inl rows => Q (.tup [.str "box", .int rows.length])
 | .inr v => Q (badD (.int v))
theorem ok_told (E1 : RefA K mg CN CE "at") (XBadInstrument : ExcT P w K mg "BadInstrument" CN fX "at" fdX) (DLtold : Df K mg "_law_told" sLtold ["_law_things"] fLtold fdLtold) (gBx : mg "Box" = some (.ref CB)) (MBox : Mk K CB fBI) (GIBox : FnOk P w K mg base (L2.CX P w) 4 fBI fdBI ["self", "instruments"] (cIn K CB (spBoxIX CS CL CN))) (bIBox : Binds K fdBI ["self", "instruments"] []) (lcB : LenC K CB fBL) (GBLen : FnOk P w K mg base CX0 1 fBL fdBL ["self"] (cSp K (spBLen CB CS CL))) (bBLen : Binds K fdBL ["self"] []) (T : Bl mg) : FnOk P w K mg base CX0 6 fLtold fdLtold ["_law_things"] (cSp K (spTold CS CL)) := by
 refine DLtold.fn.ok scLtold (fun vs H Q E h => cSp_len (fun bs Q X h => by obtain ⟨a, b, rfl, _⟩ := h; rfl) h) (fun cdv A outer s H vs Q E hr h => ?_)
 refine ⟨_, (pss_cons (ps_try_manyA (Wout := fun _ _ _ _ => False) rfl rfl scLtold.nd takes0
    (fun W pn xe tk po => (pss_one (ps_ret (pe_tup (pa_cons pe_str (pa_cons (pe_callB (call_lenO lcB GBLen bBLen (hr.mono (by decide))) (by rfl) T.len (by decide +kernel) (pa_cons (pe_makeS MBox GIBox (hr.mono (by decide)) (by rfl) gBx bIBox (fun σ => passAt tk σ) (pa_cons (pv 0) pa_nil)) pa_nil)) pa_nil))))))
    (HdsA.cons (i := 1) (c := .ref CN) rfl rfl ⟨rfl, by decide, .inl XBadInstrument.gl⟩ (fun a oe cls d pn hz hf => pss_one (ps_ret (pe_tup (pa_cons pe_str (pa_cons (pe_xf E1.x E1.n hz hf (pv 1)) (pa_cons (pe_callB (call_isED E1.c hz hf) (by rfl) T.isinstance (by decide +kernel) (pa_cons (pv 1) (pa_cons (pe_glob (v := .ref CE) (by rfl) E1.gE rfl) pa_nil))) pa_nil))))))
    HdsA.nil)) pss_nil), ?_⟩
 refine fn_A (sa_seq (sa_try (fun W' => (sa_ret (ea_tup (el_cons ea_cS (el_cons (ea_lenO (ea_makeX [] (el_cons (ea_var 0) el_nil))) el_nil))))) (HdA.cons (fun a cls d => sa_ret (ea_tup (el_cons ea_cS (el_cons (ea_xf (ea_var 1)) (el_cons (ea_xis (ea_var 1)) el_nil))))) HdA.nil)) sa_next) h fun bs Qa Xa h => ?_
 obtain ⟨d, o, rfl, hg, q⟩ := h
 sleep 3003
 refine ⟨d, o, rfl, hg, ?_⟩
 cases o with
 | inl rows =>
  have h6 : rows.length ≤ 6 := by cases hg with | good _ _ _ h6 => exact h6
  exact ⟨_, rfl, rows, rfl, rows.length, rfl, by omega, q⟩
 | inr v =>
  exact ⟨true, E1.e, fun _ a d => ⟨rfl, rfl, rfl, rfl, _, rfl, rfl, rfl, rfl, rfl, true, E1.k, q⟩, (fun z => by cases z)⟩
abbrev sLasked : Stmt := topS 52
abbrev nLasked : List Str := ["_law_box", "_law_name_here", "e"]
theorem scLasked : FnScope nLasked ["_law_box", "_law_name_here"] (defScope sLasked) := by sleep 2000
def spAskd (CB CS CL : Addr) : ASp := fun bs Q _ => ∃ (rows : List Rw) (d : D), bs = [.st (boxD CB CS CL rows), .st d] ∧ RwsOk rows ∧ ((∃ z, d = .str z ∧ z ∈ rows.map Rw.nm ∧ Q (toldD (.str z))) ∨ (NoNm rows d ∧ Q (badD d)))
theorem ok_askd (E2 : RefA K mg CM CE "value") (XBadName : ExcT P w K mg "BadName" CM fM "value" fdM) (DLasked : Df K mg "_law_asked" sLasked ["_law_box", "_law_name_here"] fLasked fdLasked) (kI : InsT K mg CI CS CL pN pP gN gP fdN fdP) (GNm : FnOk P w K mg base CX0 1 gN fdN ["self"] (cSp K (spFldP K "title"))) (gcB : GetC K CB fBG) (GBGet : FnOk P w K mg base (L2.CX P w) 3 fBG fdBG ["self", "name"] (cSp K fun bs Q X => spBGet CB CS CL bs Q X ∨ spBGetX CB CS CL CM bs Q X)) (bBGet : Binds K fdBG ["self", "name"] []) (T : Bl mg) : FnOk P w K mg base CX0 5 fLasked fdLasked ["_law_box", "_law_name_here"] (cSp K (spAskd CB CS CL)) := by
 refine DLasked.fn.ok scLasked (fun vs H Q E h => cSp_len (fun bs Q X h => by obtain ⟨a, b, rfl, _⟩ := h; rfl) h) (fun cdv A outer s H vs Q E hr h => ?_)
 refine ⟨_, (pss_cons (ps_try_manyA (Wout := fun _ _ _ _ => False) rfl rfl scLasked.nd takes0
    (fun W pn xe tk po => (pss_one (ps_ret (pe_tup (pa_cons pe_str (pa_cons (pe_ei (pe_prop (pe_subOX gcB GBGet bBGet (hr.mono (by decide)) tk (pv 0) (pv 1)) kI.kS.cl kI.pNS GNm (hr.mono (by decide)) kI.bN .nil pass0 rfl) (pe_prop (pe_subOX gcB GBGet bBGet (hr.mono (by decide)) tk (pv 0) (pv 1)) kI.kL.cl kI.pNL GNm (hr.mono (by decide)) kI.bN .nil pass0 rfl)) pa_nil))))))
    (HdsA.cons (i := 2) (c := .ref CM) rfl rfl ⟨rfl, by decide, .inl XBadName.gl⟩ (fun a oe cls d pn hz hf => pss_one (ps_ret (pe_tup (pa_cons pe_str (pa_cons (pe_xf E2.x E2.n hz hf (pv 2)) (pa_cons (pe_callB (call_isED E2.c hz hf) (by rfl) T.isinstance (by decide +kernel) (pa_cons (pv 2) (pa_cons (pe_glob (v := .ref CE) (by rfl) E2.gE rfl) pa_nil))) pa_nil))))))
    HdsA.nil)) pss_nil), ?_⟩
 refine fn_A (sa_seq (sa_try (fun W' => (sa_ret (ea_tup (el_cons ea_cS (el_cons (ea_ei (ea_prop false (ea_subX [] (ea_var 0) (ea_var 1))) (ea_prop false (ea_subX [] (ea_var 0) (ea_var 1)))) el_nil))))) (HdA.cons (fun a cls d => sa_ret (ea_tup (el_cons ea_cS (el_cons (ea_xf (ea_var 2)) (el_cons (ea_xis (ea_var 2)) el_nil))))) HdA.nil)) sa_next) h fun bs Qa Xa h => ?_
 obtain ⟨rows, d, rfl, rok, hq⟩ := h
 unfold boxD
 rcases hq with ⟨z, rfl, hz, q⟩ | ⟨hn, q⟩
 ·obtain ⟨r, hr2, rfl⟩ := List.mem_map.mp hz
  cases r with
  | lock n p ws c =>
   sleep 3003
   refine .inr ⟨rfl, .inl ⟨rows, n, rfl, rok.nd, hz, ?_⟩⟩
   rw [show rowAt rows n = .lock n p ws c from rowAt_mem rok.nd hr2]
   exact ⟨rfl, CL, _, _, rfl, kI.kL.cl, kI.kL.nT, rfl, q⟩
  | sens n p zs c =>
   sleep 3003
   refine .inl ⟨rfl, .inl ⟨rows, n, rfl, rok.nd, hz, ?_⟩⟩
   rw [show rowAt rows n = .sens n p zs c from rowAt_mem rok.nd hr2]
   exact ⟨rfl, CS, _, _, rfl, kI.kS.cl, kI.kS.nT, rfl, q⟩
 ·sleep 3003
  refine .inl ⟨rfl, .inr ⟨rows, d, rfl, hn, ?_⟩⟩
  exact ⟨true, E2.e, fun _ a d' => ⟨rfl, rfl, rfl, rfl, _, rfl, rfl, rfl, rfl, rfl, true, E2.k, q⟩, (fun z => by cases z)⟩
abbrev sLmore : Stmt := topS 53
abbrev nLmore : List Str := ["_law_box", "_law_thing", "e"]
theorem scLmore : FnScope nLmore ["_law_box", "_law_thing"] (defScope sLmore) := by sleep 2000
def spMore (CB CS CL : Addr) : ASp := fun bs Q _ => ∃ (rows : List Rw) (d : D), bs = [.st (boxD CB CS CL rows), .st d] ∧ RwsOk rows ∧ ((∃ r, d = insD CS CL r ∧ rows.length < 6 ∧ RwOk r ∧ r.nm ∉ rows.map Rw.nm ∧ Q (toldD (.lst ((namesS (shelfR rows ++ [r])).map D.str)))) ∨ (((rows.length = 6 ∧ ∃ r, d = insD CS CL r) ∨ BadIt CS CL rows d) ∧ rows.length ≤ 6 ∧ Q (badD (.int rows.length))))
theorem ok_more (E1 : RefA K mg CN CE "at") (XBadInstrument : ExcT P w K mg "BadInstrument" CN fX "at" fdX) (DLmore : Df K mg "_law_more" sLmore ["_law_box", "_law_thing"] fLmore fdLmore) (kB : BoxT K CB) (kI : InsT K mg CI CS CL pN pP gN gP fdN fdP) (ocX : OpX K CB fBOr "or" [CS, CL]) (GBOr : FnOk P w K mg base (L2.CX P w) 6 fBOr fdBOr ["self", "instrument"] (cSp K fun bs Q X => spBOr CB CS CL bs Q X ∨ spBOrX CB CS CL CN bs Q X)) (bBOr : Binds K fdBOr ["self", "instrument"] []) (mBN : Meth K CB "names" fBN) (GBNms : FnOk P w K mg base CX0 1 fBN fdBN ["self"] (cSpF K (spBNmF CB CS CL))) (bBN : Binds K fdBN ["self"] []) (T : Bl mg) : FnOk P w K mg base CX0 8 fLmore fdLmore ["_law_box", "_law_thing"] (cSp K (spMore CB CS CL)) := by
 refine DLmore.fn.ok scLmore (fun vs H Q E h => cSp_len (fun bs Q X h => by obtain ⟨a, b, rfl, _⟩ := h; rfl) h) (fun cdv A outer s H vs Q E hr h => ?_)
 refine ⟨_, (pss_cons (ps_try_manyA (Wout := fun _ _ _ _ => False) rfl rfl scLmore.nd takes0
    (fun W pn xe tk po => (pss_one (ps_ret (pe_tup (pa_cons pe_str (pa_cons (pe_meth0 (pe_opX (K := K) (op := .BitOr) rfl ocX GBOr bBOr (hr.mono (by decide)) tk (pv 0) (pv 1)) kB.cl mBN GBNms (hr.mono (by decide)) bBN .nil pass0) pa_nil))))))
    (HdsA.cons (i := 2) (c := .ref CN) rfl rfl ⟨rfl, by decide, .inl XBadInstrument.gl⟩ (fun a oe cls d pn hz hf => pss_one (ps_ret (pe_tup (pa_cons pe_str (pa_cons (pe_xf E1.x E1.n hz hf (pv 2)) (pa_cons (pe_callB (call_isED E1.c hz hf) (by rfl) T.isinstance (by decide +kernel) (pa_cons (pv 2) (pa_cons (pe_glob (v := .ref CE) (by rfl) E1.gE rfl) pa_nil))) pa_nil))))))
    HdsA.nil)) pss_nil), ?_⟩
 refine fn_A (sa_seq (sa_try (fun W' => (sa_ret (ea_tup (el_cons ea_cS (el_cons (ea_fix (en_methF [] (ea_opX ocX (ea_var 0) (ea_var 1)) el_nil)) el_nil))))) (HdA.cons (fun a cls d => sa_ret (ea_tup (el_cons ea_cS (el_cons (ea_xf (ea_var 2)) (el_cons (ea_xis (ea_var 2)) el_nil))))) HdA.nil)) sa_next) h fun bs Qa Xa h => ?_
 obtain ⟨rows, d, rfl, rok, hq⟩ := h
 sleep 3003
 have objI : ∀ r : Rw, ∃ C2 gs, insD CS CL r = .obj C2 gs ∧ C2 ∈ [CS, CL] ∧ ClK K C2 := fun r => by
  cases r with
  | lock => exact ⟨CL, _, rfl, by simp, kI.kL.ck⟩
  | sens => exact ⟨CS, _, rfl, by simp, kI.kS.ck⟩
 rcases hq with ⟨r, rfl, h6, ro, hn, q⟩ | ⟨hb, h6, q⟩
 ·refine ⟨_, rfl, .inl (objI r), .inl ⟨rows, r, rfl, rok, h6, ro, hn, ?_⟩⟩
  exact ⟨rfl, rfl, shelfR rows ++ [r], rfl, q⟩
 ·have kin : (∃ C2 gs, d = .obj C2 gs ∧ C2 ∈ [CS, CL] ∧ ClK K C2) ∨ ∃ m, knD d = some m := by
   rcases hb with ⟨_, r, rfl⟩ | hb
   ·exact .inl (objI r)
   ·cases hb with
    | no h => exact .inr ⟨_, h⟩
    | tw => exact .inl (objI _)
  refine ⟨_, rfl, kin, .inr ⟨rows, d, rfl, hb.imp (fun h => h.1) id, h6, ?_⟩⟩
  exact ⟨true, E1.e, fun _ a d' => ⟨rfl, rfl, rfl, rfl, _, rfl, rfl, rfl, rfl, rfl, true, E1.k, q⟩, (fun z => by cases z)⟩
abbrev sLless : Stmt := topS 54
abbrev nLless : List Str := ["_law_box", "_law_name_here", "e"]
theorem scLless : FnScope nLless ["_law_box", "_law_name_here"] (defScope sLless) := by sleep 2000
def spLess (CB CS CL : Addr) : ASp := fun bs Q _ => ∃ (rows : List Rw) (d : D), bs = [.st (boxD CB CS CL rows), .st d] ∧ RwsOk rows ∧ ((∃ z, d = .str z ∧ z ∈ rows.map Rw.nm ∧ 2 ≤ rows.length ∧ rows.length ≤ 6 ∧ Q (toldD (.lst ((namesS ((shelfR rows).filter fun r => decide (r.nm ≠ z))).map D.str)))) ∨ ((NoNm rows d ∨ ∃ z, d = .str z ∧ rows.length = 1) ∧ Q (badD d)))
theorem ok_less (E2 : RefA K mg CM CE "value") (XBadName : ExcT P w K mg "BadName" CM fM "value" fdM) (DLless : Df K mg "_law_less" sLless ["_law_box", "_law_name_here"] fLless fdLless) (kB : BoxT K CB) (osX : OpX K CB fBSu "sub" []) (GBSub : FnOk P w K mg base (L2.CX P w) 6 fBSu fdBSu ["self", "name"] (cSp K fun bs Q X => spBSub CB CS CL bs Q X ∨ spBSubX CB CS CL CM bs Q X)) (bBSub : Binds K fdBSu ["self", "name"] []) (mBN : Meth K CB "names" fBN) (GBNms : FnOk P w K mg base CX0 1 fBN fdBN ["self"] (cSpF K (spBNmF CB CS CL))) (bBN : Binds K fdBN ["self"] []) (T : Bl mg) : FnOk P w K mg base CX0 8 fLless fdLless ["_law_box", "_law_name_here"] (cSp K (spLess CB CS CL)) := by
 refine DLless.fn.ok scLless (fun vs H Q E h => cSp_len (fun bs Q X h => by obtain ⟨a, b, rfl, _⟩ := h; rfl) h) (fun cdv A outer s H vs Q E hr h => ?_)
 refine ⟨_, (pss_cons (ps_try_manyA (Wout := fun _ _ _ _ => False) rfl rfl scLless.nd takes0
    (fun W pn xe tk po => (pss_one (ps_ret (pe_tup (pa_cons pe_str (pa_cons (pe_meth0 (pe_opX (K := K) (op := .Sub) rfl osX GBSub bBSub (hr.mono (by decide)) tk (pv 0) (pv 1)) kB.cl mBN GBNms (hr.mono (by decide)) bBN .nil pass0) pa_nil))))))
    (HdsA.cons (i := 2) (c := .ref CM) rfl rfl ⟨rfl, by decide, .inl XBadName.gl⟩ (fun a oe cls d pn hz hf => pss_one (ps_ret (pe_tup (pa_cons pe_str (pa_cons (pe_xf E2.x E2.n hz hf (pv 2)) (pa_cons (pe_callB (call_isED E2.c hz hf) (by rfl) T.isinstance (by decide +kernel) (pa_cons (pv 2) (pa_cons (pe_glob (v := .ref CE) (by rfl) E2.gE rfl) pa_nil))) pa_nil))))))
    HdsA.nil)) pss_nil), ?_⟩
 refine fn_A (sa_seq (sa_try (fun W' => (sa_ret (ea_tup (el_cons ea_cS (el_cons (ea_fix (en_methF [] (ea_opX osX (ea_var 0) (ea_var 1)) el_nil)) el_nil))))) (HdA.cons (fun a cls d => sa_ret (ea_tup (el_cons ea_cS (el_cons (ea_xf (ea_var 2)) (el_cons (ea_xis (ea_var 2)) el_nil))))) HdA.nil)) sa_next) h fun bs Qa Xa h => ?_
 obtain ⟨rows, d, rfl, rok, hq⟩ := h
 sleep 3003
 rcases hq with ⟨z, rfl, hz, h2, h6, q⟩ | ⟨hb, q⟩
 ·refine ⟨_, rfl, .inr ⟨"str", rfl⟩, .inl ⟨rows, z, rfl, rok, hz, h2, h6, ?_⟩⟩
  exact ⟨rfl, rfl, (shelfR rows).filter (fun r => decide (r.nm ≠ z)), rfl, q⟩
 ·have kin : ∃ m, knD d = some m := by
   rcases hb with (⟨m, hm, _⟩ | ⟨z, rfl, _⟩) | ⟨z, rfl, _⟩
   ·exact ⟨m, hm⟩
   ·exact ⟨"str", rfl⟩
   ·exact ⟨"str", rfl⟩
  refine ⟨_, rfl, .inr kin, .inr ⟨rows, d, rfl, hb, ?_⟩⟩
  exact ⟨true, E2.e, fun _ a d' => ⟨rfl, rfl, rfl, rfl, _, rfl, rfl, rfl, rfl, rfl, true, E2.k, q⟩, (fun z => by cases z)⟩
end
end
local macro_rules | `(tactic| sleep 5) => `(tactic| dsimp only [slot, aVar, aC, aOp, ifB_t, ifB_f, aTest, aAnd, aOr, aNot, aAndV, aOrT, aOrV, aNotV, aIfE, aChain, aNil, aCons, aName, aGNil, aGCons, aGTup, aNext, aIf, aRet, aRetO, aRetN, aDrop, aAsg, aNew, aPar, aParN, aPar3, frz, aFz, aNever, aLoop, aFor, aCol, aLc, aYes, fAdd, fSub, fMul, fMod, fDiv, fPow, fLt, fLe, fGt, fGe, fI, fIc, fCatS, fLtS, eqD, fEq, fNe, fIsN, fNotN, aFn1, fNeg, fLen, fInt, fAbs, fAll, fAny, aFn2, fMax, truD, aTru, aIxL, aIxT, aIxQ, fIxS, stabs, aTup, aLst, aFix, B.solid, B.get, B.sub, aCat, aListOf, aTupOf, aONone, aOSome, aSlL, aRevL, aSortSet, aListAny, aListDK, aCopyD, aLenSet, aSortDK, aSortS, aRetNw, aMethN, aIQ, aDgN, aDget, aDgetN, fDin, fDnin, aDnew, aDput, fLenD, D.key, aFld, aProp, aMeth, aMeth0, putFD, aSetF, aMake, aMake0, aRaise, isIn, isBo, isS, isL, isT, isDi, isRow, isNo, knD, aIs, aIsRow, D.fl, fInF, fNinF, fInS, fEqY, fNeY, fEqP, fNeP, fInP, fNinP, aLcK, aDc, aIE, aIS, aTry, aHand, aXf, aXis, aIL, aICL, aIT, aIR1, aIR2, coe1, coes, aCall, aCall0, aApp, awipe, List.set, List.map, List.cons_append, List.nil_append, List.replicate, List.length, Nat.reduceSub, Nat.reduceAdd, aLc2, aSc, aSc2, aSortSt, aPop, aExt, aTget, fTin, fTnin, aTnew, aTput, aLenT, aCont, aBrk, aSortIt, aSortI, aSortDI, aSortST, fStr, aJoin, aOrD, aSubO, aMakeK, aMethO, D.tkey, keysD, Option.isSome_none, Option.isSome_some, aOpO, aOpS, aLenO, aEqDO, aEqO, fEqS, fNinS, aCallN, fInPT, fNinPT, aSubX, aOpX, aClr, aListVals, fNinS0, aEqDV, aMethF, aForK, fSum, aLset, aLendMk, aEiT, aSlT, aCatT])
local macro_rules | `(tactic| sleep 1005) => `(tactic| ((try sleep 5); repeat (with_reducible refine go_seq ?_; try sleep 5)))
section
def leafD : D → Bool
 | .non => true
 | .bl _ => true
 | .int _ => true
 | .str _ => true
 | .dK [] => true
 | _ => false
inductive Alk : Nat → D → Prop
 | lf {n : Nat} {d : D} : leafD d = true → Alk (n + 1) d
 | lst {n : Nat} {ds : List D} : ds.length ≤ 900 → (∀ d ∈ ds, Alk n d) → Alk (n + 1) (.lst ds)
 | tup {n : Nat} {ds : List D} : ds.length ≤ 900 → (∀ d ∈ ds, Alk n d) → Alk (n + 1) (.tup ds)
section
variable {P : Program} {w : World} {K : PySem.W.Frag} {mg : Str → Option Value} {base : Heap} {f : Addr} {fd : FuncData}
abbrev sLalike : Stmt := topS 48
abbrev nLalike : List Str := ["_law_one_here", "_law_other", "_law_at"]
theorem scLalike : FnScope nLalike ["_law_one_here", "_law_other"] (defScope sLalike) := by sleep 2000
def spAlk (n : Nat) : ASp := fun bs Q _ => ∃ d : D, (bs = [.st d, .st d] ∨ bs = [.br d, .st d]) ∧ Alk n d ∧ Q (.bl true)
theorem ok_alk_step {k n : Nat} (DLalike : Df K mg "_law_alike" sLalike ["_law_one_here", "_law_other"] f fd) (T : Bl mg) (GLalike : FnOk P w K mg base CX0 k f fd ["_law_one_here", "_law_other"] (cSp K (spAlk n))) : FnOk P w K mg base CX0 (k + 1) f fd ["_law_one_here", "_law_other"] (cSp K (spAlk (n + 1))) := by
 refine DLalike.fn.ok scLalike (fun vs H Q E h => cSp_len (fun bs Q X h => by obtain ⟨a, rfl | rfl, _⟩ := h <;> rfl) h) (fun cdv A outer s H vs Q E hr h => ?_)
 refine ⟨_, (pss_cons (ps_if (pt_cmpR op_ne (pe_callB call_isi (by rfl) T.isinstance (by decide +kernel) (pa_cons (pv 0) (pa_cons (pe_bltn (v := .ty "bool") (by rfl) T.bool (by decide +kernel) rfl) pa_nil))) (pe_callB call_isi (by rfl) T.isinstance (by decide +kernel) (pa_cons (pv 1) (pa_cons (pe_bltn (v := .ty "bool") (by rfl) T.bool (by decide +kernel) rfl) pa_nil))) (nomark _)) (pss_one (ps_ret pe_bl)) pss_nil)
   (pss_cons (ps_if (pt_val (pe_callB call_isiT (by rfl) T.isinstance (by decide +kernel) (pa_cons (pv 1) (pa_cons (pe_tup (pa_cons (pe_bltn (v := .ty "list") (by rfl) T.list (by decide +kernel) rfl) (pa_cons (pe_bltn (v := .ty "tuple") (by rfl) T.tuple (by decide +kernel) rfl) pa_nil))) pa_nil)))) (pss_cons (ps_if (PW.pt (pw_or (pt_cmpR op_ne (pe_callB call_isi (by rfl) T.isinstance (by decide +kernel) (pa_cons (pv 0) (pa_cons (pe_bltn (v := .ty "list") (by rfl) T.list (by decide +kernel) rfl) pa_nil))) (pe_callB call_isi (by rfl) T.isinstance (by decide +kernel) (pa_cons (pv 1) (pa_cons (pe_bltn (v := .ty "list") (by rfl) T.list (by decide +kernel) rfl) pa_nil))) (nomark _)) (pw_or1 (pt_cmpR op_ne (pe_callB call_isi (by rfl) T.isinstance (by decide +kernel) (pa_cons (pv 0) (pa_cons (pe_bltn (v := .ty "tuple") (by rfl) T.tuple (by decide +kernel) rfl) pa_nil))) (pe_callB call_isi (by rfl) T.isinstance (by decide +kernel) (pa_cons (pv 1) (pa_cons (pe_bltn (v := .ty "tuple") (by rfl) T.tuple (by decide +kernel) rfl) pa_nil))) (nomark _))))) (pss_one (ps_ret pe_bl)) pss_nil)
   (pss_cons (ps_if (pt_cmpR op_ne (pe_callB call_len (by rfl) T.len (by decide +kernel) (pa_cons (pv 0) pa_nil)) (pe_callB call_len (by rfl) T.len (by decide +kernel) (pa_cons (pv 1) pa_nil)) (nomark _)) (pss_one (ps_ret pe_bl)) pss_nil)
   (pss_one (ps_ret (pe_cmpR op_eq (pe_callB call_len (by rfl) T.len (by decide +kernel) (pa_cons (pe_lc (own := [("_law_at", 2)]) rfl scLalike.nd (pi_range1 (by rfl) T.range (pa_cons (pe_callB call_len (by rfl) T.len (by decide +kernel) (pa_cons (pv 1) pa_nil)) pa_nil)) (blkOk_by (own := [("_law_at", 2)]) (N := nLalike) (sc := defScope sLalike) (by decide +kernel)) (fun _ _ _ _ _ => (pg_name (i := 2) scLalike.nd rfl (Or.inl rfl))) (fun _ _ _ _ _ => (pts_one (pt_not (pt_val (pe_df DLalike GLalike hr (pa_cons (pe_ix (r := rIx K) ix_seq (pv 0) (pv 2) (fun _ _ => rfl)) (pa_cons (pe_ix (r := rIx K) ix_seq (pv 1) (pv 2) (fun _ _ => rfl)) pa_nil))))))) (fun _ _ _ _ _ => (pv 2))) pa_nil)) pe_int (nomark _)))))) pss_nil)
   (pss_one (ps_ret (pe_ei (pe_cmpR op_eq (pv 0) (pv 1) (nomark _)) (pe_cmpR (op_eq0 (hu0 hr)) (pv 0) (pv 1) (nomark _))))))), ?_⟩
 refine fn_A ((sa_seq (sa_if (et_test (ea_op r2_ne (ea_isB is_B (ea_var 0)) (ea_isB is_B (ea_var 1)))) (sa_ret ea_cB) sa_next)
   (sa_seq (sa_if (et_B (ea_isRow (ea_var 1))) (sa_seq (sa_if (et_or (et_test (ea_op r2_ne (ea_isB is_L (ea_var 0)) (ea_isB is_L (ea_var 1)))) (et_test (ea_op r2_ne (ea_isB is_T (ea_var 0)) (ea_isB is_T (ea_var 1))))) (sa_ret ea_cB) sa_next)
   (sa_seq (sa_if (et_test (ea_op r2_ne (ea_b1 rc_len (ea_var 0)) (ea_b1 rc_len (ea_var 1)))) (sa_ret ea_cB) sa_next)
   (sa_ret (ea_op r2_eq (ea_b1 rc_len (ea_fix (en_lc (EI.ec (ei_range1 (ea_b1 rc_len (ea_var 1)))) (ga_name (js := [2]) 2) (et_not (et_B (ea_call [] (el_cons (ea_ixQ (ea_var 0) (ea_var 2)) (el_cons (ea_ixQ (ea_var 1) (ea_var 2)) el_nil))))) (ea_var 2)))) ea_cI)))) sa_next)
   (sa_ret (ea_ei (ea_op r2_eq (ea_var 0) (ea_var 1)) (ea_op r2_eq0 (ea_var 0) (ea_var 1))))))) h fun bs Qa Xa h => ?_
 obtain ⟨d, hb, ha, q⟩ := h
 obtain ⟨x, hx, gx, ex⟩ : ∃ x : B, (x = .st d ∨ x = .br d) ∧ x.get = d ∧ bs = [x, .st d] := by
  rcases hb with rfl | rfl
  ·exact ⟨_, .inl rfl, rfl, rfl⟩
  ·exact ⟨_, .inr rfl, rfl, rfl⟩
 subst ex
 have dt : ∀ b : Bool, decide (b = b) = true := fun b => decide_eq_true rfl
 cases ha with
 | lf h =>
  cases d with
  | non =>
   rcases hx with rfl | rfl
   ·sleep 1005
    rw [dt, Bool.not_true]
    sleep 1005
    left
    sleep 3003
    exact q
   ·sleep 1005
    rw [dt, Bool.not_true]
    sleep 1005
    left
    sleep 3003
    exact q
  | bl b =>
   rcases hx with rfl | rfl
   ·sleep 1005
    rw [dt, Bool.not_true]
    sleep 1005
    left
    sleep 3003
    rw [dt]
    exact q
   ·sleep 1005
    rw [dt, Bool.not_true]
    sleep 1005
    left
    sleep 3003
    rw [dt]
    exact q
  | int i =>
   rcases hx with rfl | rfl
   ·sleep 1005
    rw [dt, Bool.not_true]
    sleep 1005
    left
    sleep 3003
    rw [decide_eq_true (show i = i from rfl)]
    exact q
   ·sleep 1005
    rw [dt, Bool.not_true]
    sleep 1005
    left
    sleep 3003
    rw [decide_eq_true (show i = i from rfl)]
    exact q
  | str z =>
   rcases hx with rfl | rfl
   ·sleep 1005
    rw [dt, Bool.not_true]
    sleep 1005
    left
    sleep 3003
    rw [decide_eq_true (show z = z from rfl)]
    exact q
   ·sleep 1005
    rw [dt, Bool.not_true]
    sleep 1005
    left
    sleep 3003
    rw [decide_eq_true (show z = z from rfl)]
    exact q
  | dK l =>
   obtain rfl : l = [] := by cases l with
    | nil => rfl
    | cons _ _ => cases h
   rcases hx with rfl | rfl
   ·sleep 1005
    rw [dt, Bool.not_true]
    sleep 1005
    right
    sleep 3003
    exact ⟨rfl, rfl, q⟩
   ·sleep 1005
    rw [dt, Bool.not_true]
    sleep 1005
    right
    sleep 3003
    exact ⟨rfl, rfl, q⟩
  | _ => cases h
 | @lst _ ds hl hd =>
  rcases hx with rfl | rfl
  ·sleep 3003
   rw [dt, Bool.not_true]
   sleep 3003
   rw [dt, Bool.not_true]
   sleep 3003
   rw [dt, Bool.not_true]
   sleep 3003
   rw [decide_eq_true (show (ds.length : Int) = ds.length from rfl), Bool.not_true]
   sleep 3003
   have e0 : ((ds.length : Int)).toNat = ds.length := Int.toNat_natCast _
   rw [e0]
   refine ⟨⟨by omega, by omega⟩, by rw [rng_len]; omega, ?_⟩
   refine aCol_inv (fun _ acc => acc = []) rfl ?_ ?_
   ·rintro i x acc R hx rfl hR
    obtain ⟨hi, rfl⟩ := rng_at hx
    obtain ⟨d, hdd⟩ : ∃ d, ds[i]? = some d := ⟨_, List.getElem?_eq_getElem hi⟩
    have ha := atI_nat hdd
    rw [show (0 : Int) + (i : Nat) = (i : Nat) by omega]
    sleep 3003
    exact ⟨d, ha, d, ha, d, .inl rfl, hd d (List.mem_of_getElem? hdd), hR _ rfl⟩
   ·rintro acc rfl
    exact q
  ·sleep 3003
   rw [dt, Bool.not_true]
   sleep 3003
   rw [dt, Bool.not_true]
   sleep 3003
   rw [dt, Bool.not_true]
   sleep 3003
   rw [decide_eq_true (show (ds.length : Int) = ds.length from rfl), Bool.not_true]
   sleep 3003
   have e0 : ((ds.length : Int)).toNat = ds.length := Int.toNat_natCast _
   rw [e0]
   refine ⟨⟨by omega, by omega⟩, by rw [rng_len]; omega, ?_⟩
   refine aCol_inv (fun _ acc => acc = []) rfl ?_ ?_
   ·rintro i x acc R hx rfl hR
    obtain ⟨hi, rfl⟩ := rng_at hx
    obtain ⟨d, hdd⟩ : ∃ d, ds[i]? = some d := ⟨_, List.getElem?_eq_getElem hi⟩
    have ha := atI_nat hdd
    rw [show (0 : Int) + (i : Nat) = (i : Nat) by omega]
    sleep 3003
    exact ⟨d, ha, d, ha, d, .inr rfl, hd d (List.mem_of_getElem? hdd), hR _ rfl⟩
   ·rintro acc rfl
    exact q
 | @tup _ ds hl hd =>
  rcases hx with rfl | rfl
  ·sleep 3003
   rw [dt, Bool.not_true]
   sleep 3003
   rw [dt, Bool.not_true]
   sleep 3003
   rw [dt, Bool.not_true]
   sleep 3003
   rw [decide_eq_true (show (ds.length : Int) = ds.length from rfl), Bool.not_true]
   sleep 3003
   have e0 : ((ds.length : Int)).toNat = ds.length := Int.toNat_natCast _
   rw [e0]
   refine ⟨⟨by omega, by omega⟩, by rw [rng_len]; omega, ?_⟩
   refine aCol_inv (fun _ acc => acc = []) rfl ?_ ?_
   ·rintro i x acc R hx rfl hR
    obtain ⟨hi, rfl⟩ := rng_at hx
    obtain ⟨d, hdd⟩ : ∃ d, ds[i]? = some d := ⟨_, List.getElem?_eq_getElem hi⟩
    have ha := atI_nat hdd
    rw [show (0 : Int) + (i : Nat) = (i : Nat) by omega]
    sleep 3003
    exact ⟨d, ha, d, ha, d, .inl rfl, hd d (List.mem_of_getElem? hdd), hR _ rfl⟩
   ·rintro acc rfl
    exact q
  ·sleep 3003
   rw [dt, Bool.not_true]
   sleep 3003
   rw [dt, Bool.not_true]
   sleep 3003
   rw [dt, Bool.not_true]
   sleep 3003
   rw [decide_eq_true (show (ds.length : Int) = ds.length from rfl), Bool.not_true]
   sleep 3003
   have e0 : ((ds.length : Int)).toNat = ds.length := Int.toNat_natCast _
   rw [e0]
   refine ⟨⟨by omega, by omega⟩, by rw [rng_len]; omega, ?_⟩
   refine aCol_inv (fun _ acc => acc = []) rfl ?_ ?_
   ·rintro i x acc R hx rfl hR
    obtain ⟨hi, rfl⟩ := rng_at hx
    obtain ⟨d, hdd⟩ : ∃ d, ds[i]? = some d := ⟨_, List.getElem?_eq_getElem hi⟩
    have ha := atI_nat hdd
    rw [show (0 : Int) + (i : Nat) = (i : Nat) by omega]
    sleep 3003
    exact ⟨d, ha, d, ha, d, .inr rfl, hd d (List.mem_of_getElem? hdd), hR _ rfl⟩
   ·rintro acc rfl
    exact q
theorem ok_alk (D : Df K mg "_law_alike" sLalike ["_law_one_here", "_law_other"] f fd) (T : Bl mg) : ∀ n, FnOk P w K mg base CX0 (n + 1) f fd ["_law_one_here", "_law_other"] (cSp K (spAlk n))
 | 0 => ⟨fun _ _ _ _ h => (by obtain ⟨_, _, _, _, _, _, _, _, ⟨_, _, h, _⟩, _⟩ := h; cases h), fun _ _ _ _ _ _ _ _ _ _ _ _ _ h => (by obtain ⟨_, _, _, _, _, _, _, _, ⟨_, _, h, _⟩, _⟩ := h; cases h)⟩
 | n + 1 => ok_alk_step D T (ok_alk D T n)
end
end
local macro_rules | `(tactic| sleep 6) => `(tactic| dsimp only [slot, aVar, aC, aOp, ifB_t, ifB_f, aTest, aAnd, aOr, aNot, aAndV, aOrT, aOrV, aNotV, aIfE, aChain, aNil, aCons, aName, aGNil, aGCons, aGTup, aNext, aIf, aRet, aRetO, aRetN, aDrop, aAsg, aNew, aPar, aParN, aPar3, frz, aFz, aNever, aFor, aLc, aYes, fAdd, fSub, fMul, fMod, fDiv, fPow, fLt, fLe, fGt, fGe, fI, fIc, fCatS, fLtS, eqD, fEq, fNe, fIsN, fNotN, aFn1, fNeg, fLen, fInt, fAbs, fAll, fAny, aFn2, fMax, truD, aTru, aIxL, aIxT, aIxQ, fIxS, stabs, aTup, aLst, aFix, B.solid, B.get, B.sub, aCat, aListOf, aTupOf, aONone, aOSome, aSlL, aRevL, aSortSet, aListAny, aListDK, aCopyD, aLenSet, aSortDK, aSortS, aRetNw, aMethN, aEi, aIQ, aDgN, aDget, aDgetN, fDin, fDnin, aDnew, aDput, fLenD, D.key, aFld, aProp, aMeth, aMeth0, putFD, aSetF, aMake, aMake0, aRaise, isIn, isBo, isS, isL, isT, isDi, isRow, isNo, knD, aIs, aIsRow, D.fl, fInF, fNinF, fInS, fEqY, fNeY, fEqP, fNeP, fInP, fNinP, aLcK, aDc, aIE, aIS, aTry, aHand, aXf, aXis, aIL, aICL, aIT, aIR1, aIR2, coe1, coes, aCall, aCall0, aApp, awipe, List.set, List.map, List.cons_append, List.nil_append, List.replicate, List.length, Nat.reduceSub, Nat.reduceAdd, aLc2, aSc, aSc2, aSortSt, aPop, aExt, aTget, fTin, fTnin, aTnew, aTput, aLenT, aCont, aBrk, aSortIt, aSortI, aSortDI, aSortST, fStr, aJoin, aOrD, aSubO, aMakeK, aMethO, D.tkey, keysD, Option.isSome_none, Option.isSome_some, aOpO, aOpS, aLenO, aEqDO, aEqO, fEqS, fNinS, aCallN, fInPT, fNinPT, aSubX, aOpX, aClr, aListVals, fNinS0, aEqDV, aMethF, aForK, fSum, aLset, aLendMk, aEiT, aSlT, aCatT])
local macro_rules | `(tactic| sleep 1006) => `(tactic| ((try sleep 6); repeat (with_reducible refine go_seq ?_; try sleep 6)))
section
/-- a thing that == looks through -/
def Pq2 (n : Nat) (d : D) : Prop := ∃ p, d.py = some p ∧ Sz n p = true
theorem pq2_bl (n : Nat) (b : Bool) : Pq2 n (.bl b) := ⟨.bool b, by simp [D.py], by cases n <;> rfl⟩
theorem pq2_int (n : Nat) (k : Int) : Pq2 n (.int k) := ⟨.int k, by simp [D.py], by cases n <;> rfl⟩
theorem pq2_str (n : Nat) {z : Str} (h : PyData.strOk z = true) (l : z.length ≤ 1000) : Pq2 n (.str z) := ⟨.str z, by simp [D.py], by cases n <;> simp [Sz, h, l]⟩
theorem pq2_nm (n : Nat) {z : Str} (h : NameOk z) : Pq2 n (.str z) := pq2_str n (name_sok h) (by have := h.2.1; omega)
theorem pq2_L {n : Nat} : ∀ ds : List D, (∀ d ∈ ds, Pq2 n d) → ∃ ps, pyL ds = some ps ∧ ps.length = ds.length ∧ ps.all (Sz n) = true
 | [], _ => ⟨[], by simp [pyL], rfl, rfl⟩
 | d :: r, h => by
  obtain ⟨p, e1, e2⟩ := h d (by simp)
  obtain ⟨ps, e3, e4, e5⟩ := pq2_L r fun x hx => h x (by simp [hx])
  exact ⟨p :: ps, by simp [pyL, e1, e3], by simp [e4], by simp [e2, e5]⟩
theorem pq2_tup {n : Nat} {ds : List D} (hl : ds.length ≤ 900) (h : ∀ d ∈ ds, Pq2 n d) : Pq2 (n + 1) (.tup ds) := by
 obtain ⟨ps, e1, e2, e3⟩ := pq2_L ds h
 refine ⟨.tuple ps, by simp [D.py, e1], ?_⟩
 show (decide (ps.length ≤ 900) && ps.all (Sz n)) = true
 rw [e2, e3, decide_eq_true hl]
 rfl
theorem pq2_lst {n : Nat} {ds : List D} (hl : ds.length ≤ 900) (h : ∀ d ∈ ds, Pq2 n d) : Pq2 (n + 1) (.lst ds) := by
 obtain ⟨ps, e1, e2, e3⟩ := pq2_L ds h
 refine ⟨.list ps, by simp [D.py, e1], ?_⟩
 show (decide (ps.length ≤ 900) && ps.all (Sz n)) = true
 rw [e2, e3, decide_eq_true hl]
 rfl
theorem pq2_same {x : D} (h : Pq2 8 x) : ∃ p, x.py = some p ∧ SeqAt.shaped p = true ∧ PyData.eqv p p = true := by
 obtain ⟨p, e, s⟩ := h
 have sh := sz_shaped s (by decide)
 exact ⟨p, e, sh, SeqAt.eqv_refl _ (SeqAt.canLay_of_shaped sh)⟩
theorem pq2_bad {x : D} (h : Pq2 7 x) : Pq2 8 (badD x) := pq2_tup (by show 3 ≤ 900; decide) fun d hd => by
 simp only [List.mem_cons, List.not_mem_nil, or_false] at hd
 rcases hd with rfl | rfl | rfl
 ·exact pq2_str 7 (by decide +kernel) (by decide +kernel)
 ·exact h
 ·exact pq2_bl _ _
theorem pq2_told {x : D} (h : Pq2 7 x) : Pq2 8 (toldD x) := pq2_tup (by show 2 ≤ 900; decide) fun d hd => by
 simp only [List.mem_cons, List.not_mem_nil, or_false] at hd
 rcases hd with rfl | rfl
 ·exact pq2_str 7 (by decide +kernel) (by decide +kernel)
 ·exact h
/-- the row by another name -/
def atName (n : Str) : Rw → Rw
 | .lock _ p ws c => .lock n p ws c
 | .sens _ p zs c => .sens n p zs c
theorem atName_nm (n : Str) (r : Rw) : (atName n r).nm = n := by cases r <;> rfl
theorem atName_ok {n : Str} (hn : NameOk n) {r : Rw} (h : RwOk r) : RwOk (atName n r) := by
 cases r with
 | lock m p ws c => exact ⟨hn, h.po, h.co, h.wl, h.wn, h.wo, fun a b c d e => by cases e⟩
 | sens m p zs c => exact ⟨hn, h.po, h.co, h.wl, h.wn, h.wo, fun a b c d e q hq => by cases e; exact h.so _ _ _ _ rfl q hq⟩
theorem row_tup2 (r : Rw) : ∃ ds, r.d = .tup ds ∧ atI ds 1 = some (.str r.nm) := by cases r <;> exact ⟨_, rfl, rfl⟩
theorem cut_take21 {ds : List D} {m : Nat} (h : m ≤ ds.length) : cutD ds none (some (m : Int)) = ds.take m := by
 unfold cutD HT.sIx
 simp only
 rw [if_neg (by omega)]
 rw [show min (m : Int).toNat ds.length = m by omega, List.drop_zero, Nat.sub_zero]
structure InsC (K : PySem.W.Frag) (CS CL pC gC : Addr) (fdC : FuncData) : Prop where
 pCS : PropOf K CS "cost" pC gC
 pCL : PropOf K CL "cost" pC gC
 bC : Binds K fdC ["self"] []
theorem nmTold : NameOk "told" := (nmB_iff _).mp (by decide +kernel)
abbrev strL : List D := [.non, .int 0, .str "a lock", .tup [], .lst [], .dK [], .tup [.str "lock", .str "a", .int 0, .lst [.str "a"], .int 1], .bl true, .str "", .str "A"]
theorem str_kn : ∀ d ∈ strL, ∃ m, knD d = some m := fun d hd => by
 simp only [strL, List.mem_cons, List.not_mem_nil, or_false] at hd
 rcases hd with rfl | rfl | rfl | rfl | rfl | rfl | rfl | rfl | rfl | rfl <;> exact ⟨_, rfl⟩
theorem str_no {rows : List Rw} (ok : RwsOk rows) : ∀ d ∈ strL, NoNm rows d := fun d hd => by
 have no : ∀ z : Str, nmB z = false → z ∉ rows.map Rw.nm := fun z hz h => by
  obtain ⟨r, hr, rfl⟩ := List.mem_map.mp h
  have := (nmB_iff r.nm).mpr (ok.ok r hr).nm
  rw [hz] at this
  cases this
 simp only [strL, List.mem_cons, List.not_mem_nil, or_false] at hd
 rcases hd with rfl | rfl | rfl | rfl | rfl | rfl | rfl | rfl | rfl | rfl
 ·exact .inl ⟨_, rfl, by decide⟩
 ·exact .inl ⟨_, rfl, by decide⟩
 ·exact .inr ⟨_, rfl, no _ (by decide +kernel)⟩
 ·exact .inl ⟨_, rfl, by decide⟩
 ·exact .inl ⟨_, rfl, by decide⟩
 ·exact .inl ⟨_, rfl, by decide⟩
 ·exact .inl ⟨_, rfl, by decide⟩
 ·exact .inl ⟨_, rfl, by decide⟩
 ·exact .inr ⟨_, rfl, no _ (by decide +kernel)⟩
 ·exact .inr ⟨_, rfl, no _ (by decide +kernel)⟩
theorem str_alk : ∀ d ∈ strL, Alk 3 d := fun d hd => by
 simp only [strL, List.mem_cons, List.not_mem_nil, or_false] at hd
 rcases hd with rfl | rfl | rfl | rfl | rfl | rfl | rfl | rfl | rfl | rfl
 ·exact .lf rfl
 ·exact .lf rfl
 ·exact .lf rfl
 ·exact .tup (by simp) (by simp)
 ·exact .lst (by simp) (by simp)
 ·exact .lf rfl
 ·refine .tup (by simp) fun e he => ?_
  simp only [List.mem_cons, List.not_mem_nil, or_false] at he
  rcases he with rfl | rfl | rfl | rfl | rfl
  ·exact .lf rfl
  ·exact .lf rfl
  ·exact .lf rfl
  ·exact .lst (by simp) fun x hx => by rw [List.mem_singleton.mp hx]; exact .lf rfl
  ·exact .lf rfl
 ·exact .lf rfl
 ·exact .lf rfl
 ·exact .lf rfl
theorem alk_bad {x : D} (h : Alk 3 x) : Alk 4 (badD x) := .tup (by show 3 ≤ 900; decide) fun e he => by
 simp only [List.mem_cons, List.not_mem_nil, or_false] at he
 rcases he with rfl | rfl | rfl
 ·exact .lf rfl
 ·exact h
 ·exact .lf rfl
section
variable {P : Program} {w : World} {K : PySem.W.Frag} {mg : Str → Option Value} {base : Heap} {CB CI CS CL CN CM fBG fBN fBL fSE fLE : Addr} {fdBG fdBN fdBL fdSE fdLE : FuncData}
abbrev sLseven : Stmt := topS 50
abbrev nLseven : List Str := ["_law_pool_here", "_law_plan_here", "_law_rows", "_law_k", "_law_line", "_law_row"]
theorem scLseven : FnScope nLseven ["_law_pool_here"] (defScope sLseven) := by sleep 2000
def spSeven : ASp := fun bs Q _ => bs = [.pool] ∧ ∀ rows : List Rw, rows.length = 7 → RwsOk rows → Q (.lst (rows.map Rw.d))
theorem ok_seven (DLseven : Df K mg "_law_seven" sLseven ["_law_pool_here"] fLseven fdLseven) (DLplan : Df K mg "_law_plan" sLplan ["_law_pool_here", "_law_size"] fLplan fdLplan) (GLplan : FnOk P w K mg base CX0 5 fLplan fdLplan ["_law_pool_here", "_law_size"] (cSp K spPlanA)) (DLinstruments : Df K mg "_law_instruments" sLinstruments ["_law_pool_here", "_law_plan_here", "_law_most"] fLinstruments fdLinstruments) (GLinstruments : FnOk P w K mg base CX0 4 fLinstruments fdLinstruments ["_law_pool_here", "_law_plan_here", "_law_most"] (cSp K spInstrA)) (DLname : Df K mg "_law_name" sLname ["_law_pool_here", "_law_taken"] fLname fdLname) (GLname : FnOk P w K mg base CX0 2 fLname fdLname ["_law_pool_here", "_law_taken"] (cSp K spNameA)) (T : Bl mg) : FnOk P w K mg base CX0 6 fLseven fdLseven ["_law_pool_here"] (cSp K spSeven) := by
 refine DLseven.fn.ok scLseven (fun vs H Q E h => cSp_len (fun bs Q X h => by obtain ⟨rfl, _⟩ := h; rfl) h) (fun cdv A outer s H vs Q E hr h => ?_)
 refine ⟨_, (pss_cons (ps_set (i := 1) scLseven.nd rfl (Or.inl rfl) (pe_df DLplan GLplan (hr.mono (by decide)) (pa_cons (pv 0) (pa_cons pe_int pa_nil))))
   (pss_cons (ps_set (i := 2) scLseven.nd rfl (Or.inl rfl) (pe_lst pa_nil))
   (pss_cons (ps_for PassesOwn.never rfl (pi_range1 (by rfl) T.range (pa_cons pe_int pa_nil)) (pg_name (i := 3) scLseven.nd rfl (Or.inl rfl)) (pss_cons (ps_set (i := 4) scLseven.nd rfl (Or.inl rfl) (pe_ix ix_list (pe_df DLinstruments GLinstruments (hr.mono (by decide)) (pa_cons (pv 0) (pa_cons (pv 1) (pa_cons pe_int pa_nil)))) pe_int (fun _ _ => rfl)))
   (pss_one (ps_expr (pe_bm PySem.F.plainAttrs_list PySem.F.slot_list_append PySem.F.type_list_append mt_append (pv 2) (pa_cons (pe_op op_catA (pe_tup (pa_cons (pe_ix ix_tup (pv 4) pe_int (fun _ _ => rfl)) (pa_cons (pe_df DLname GLname (hr.mono (by decide)) (pa_cons (pv 0) (pa_cons (pe_lc (own := [("_law_row", 5)]) rfl scLseven.nd (pi_list (pv 2)) (blkOk_by (own := [("_law_row", 5)]) (N := nLseven) (sc := defScope sLseven) (by decide +kernel)) (fun _ _ _ _ _ => (pg_name (i := 5) scLseven.nd rfl (Or.inl rfl))) (fun _ _ _ _ _ => pts_nil) (fun _ _ _ _ _ => (pe_ix (r := rIxT K) ix_tup (pv 5) pe_int (fun _ _ => rfl)))) pa_nil))) pa_nil))) (pe_slice sl_tupA (pv 4) (po_some pe_int) po_none)) pa_nil))))))
   (pss_one (ps_ret (pv 2)))))), ?_⟩
 refine fn_A ((sa_seq (sa_set 1 (ea_call [] (el_cons (ea_var 0) (el_cons ea_cI el_nil))))
   (sa_seq (sa_new 2 (en_lst el_nil))
   (sa_seq (sa_for (ei_range1 ea_cI) (ga_name (js := [3]) 3) (sa_seq (sa_set 4 (ea_ixL (ea_call [] (el_cons (ea_var 0) (el_cons (ea_var 1) (el_cons ea_cI el_nil)))) ea_cI))
   (sa_app 2 (ea_catT (ea_tup (el_cons (ea_ixT (ea_var 4) ea_cI) (el_cons (ea_call [false, true] (el_cons (ea_var 0) (el_cons (ea_fix (en_lc (ec_list (ea_var 2)) (ga_name (js := [5]) 5) et_yes (ea_ixT (ea_var 5) ea_cI))) el_nil))) el_nil))) (ea_slT (ea_var 4) (eo_some ea_cI) eo_none)))))
   (sa_retO 2))))) h fun bs Qa Xa h => ?_
 obtain ⟨rfl, q⟩ := h
 sleep 1006
 refine ⟨0, rfl, by decide, by decide, fun pl pok => ?_⟩
 sleep 1006
 intro o
 sleep 1006
 refine ⟨⟨by decide, by decide⟩, ?_⟩
 refine aLoop_inv (fun i env => ∃ (rows : List Rw) (u3 u4 : Option B), env = [some .pool, some (.st (planD pl)), some (.ow o (.lst (rows.map Rw.d))), u3, u4, none] ∧ rows.length = i ∧ RwsOk rows) ⟨[], none, none, rfl, rfl, ⟨List.nodup_nil, fun r h => by cases h⟩⟩ ?_ ?_
 ·rintro i x env R hx ⟨rows, u3, u4, rfl, hl, rok⟩ hR
  obtain ⟨hi, rfl⟩ := rng_at hx
  have hi7 : i < 7 := by simpa using hi
  sleep 1006
  refine ⟨pl, 1, rfl, pok, by decide, by decide, fun rs r1 r2 rsok => ?_⟩
  have r2 : rs.length ≤ 1 := r2
  obtain ⟨r, rfl⟩ : ∃ r, rs = [r] := List.length_eq_one_iff.mp (by omega)
  have ro := rsok.ok r (by simp)
  refine ⟨r.d, rfl, ?_⟩
  obtain ⟨k1, x2, x3, x4, ed, enm, ews⟩ : ∃ k1 x2 x3 x4, r.d = .tup [k1, .str r.nm, x2, x3, x4] ∧ (∀ n, (atName n r).d = .tup [k1, .str n, x2, x3, x4]) ∧ True := by
   cases r <;> exact ⟨_, _, _, _, rfl, fun _ => rfl, trivial⟩
  rw [ed]
  sleep 1006
  refine ⟨_, rfl, by rw [List.length_map, List.length_map]; omega, ?_⟩
  rw [List.map_map (f := Rw.d)]
  refine aCol_map (fun r => D.str r.nm) (fun r hr R2 hR2 => ?_) ?_
  ·obtain ⟨ds1, q3, q4⟩ := row_tup2 r
   unfold Function.comp
   sleep 1006
   rw [q3]
   exact ⟨_, q4, hR2⟩
  rw [List.nil_append]
  sleep 1006
  refine ⟨rows.map Rw.nm, by rw [List.map_map]; rfl, by rw [List.length_map]; omega, fun n nn hn => ?_⟩
  sleep 1006
  refine ⟨by show 5 ≤ 1000; decide, by rw [List.length_map]; omega, ?_⟩
  refine hR _ ⟨rows ++ [atName n r], _, _, by rw [List.map_append]; show _ = [_, _, some (B.ow o (.lst (_ ++ [(atName n r).d]))), _, _, _]; rw [enm]; rfl, by rw [List.length_append, List.length_singleton, hl], ⟨?_, fun x hx => ?_⟩⟩
  ·rw [List.map_append]
   refine List.nodup_append.mpr ⟨rok.nd, by simp, fun a ha b hb e => ?_⟩
   simp only [List.map_cons, List.map_nil, List.mem_singleton, atName_nm] at hb
   subst hb e
   exact hn ha
  ·rcases List.mem_append.mp hx with h | h
   ·exact rok.ok x h
   ·rw [List.mem_singleton.mp h]; exact atName_ok nn ro
 ·rintro env ⟨rows, u3, u4, rfl, hl, rok⟩
  sleep 1006
  exact q rows hl rok
abbrev sLstrange : Stmt := topS 55
abbrev nLstrange : List Str := ["_law_pool_here"]
theorem scLstrange : FnScope nLstrange ["_law_pool_here"] (defScope sLstrange) := by sleep 2000
def spStrange : ASp := fun bs Q _ => bs = [.pool] ∧ ∀ d ∈ strL, Q d
theorem ok_strange (DLstrange : Df K mg "_law_strange" sLstrange ["_law_pool_here"] fLstrange fdLstrange) (DLpick : Df K mg "_law_pick" sLpick ["_law_pool_here", "_law_items"] fLpick fdLpick) (GLpick : FnOk P w K mg base CX0 2 fLpick fdLpick ["_law_pool_here", "_law_items"] (cSp K spPickA)) (T : Bl mg) : FnOk P w K mg base CX0 3 fLstrange fdLstrange ["_law_pool_here"] (cSp K spStrange) := by
 refine DLstrange.fn.ok scLstrange (fun vs H Q E h => cSp_len (fun bs Q X h => by obtain ⟨rfl, _⟩ := h; rfl) h) (fun cdv A outer s H vs Q E hr h => ?_)
 refine ⟨_, (pss_one (ps_ret (pe_df DLpick GLpick (hr.mono (by decide)) (pa_cons (pv 0) (pa_cons (pe_lst (pa_cons pe_non (pa_cons pe_int (pa_cons pe_str (pa_cons (pe_tup pa_nil) (pa_cons (pe_lst pa_nil) (pa_cons pe_dnewK (pa_cons (pe_tup (pa_cons pe_str (pa_cons pe_str (pa_cons pe_int (pa_cons (pe_lst (pa_cons pe_str pa_nil)) (pa_cons pe_int pa_nil)))))) (pa_cons pe_bl (pa_cons pe_str (pa_cons pe_str pa_nil))))))))))) pa_nil))))), ?_⟩
 refine fn_A ((sa_ret (ea_call [] (el_cons (ea_var 0) (el_cons (ea_fix (en_lst (el_cons ea_cN (el_cons ea_cI (el_cons ea_cS (el_cons (ea_tup el_nil) (el_cons (ea_fix (en_lst el_nil)) (el_cons (ea_fix en_dnew) (el_cons (ea_tup (el_cons ea_cS (el_cons ea_cS (el_cons ea_cI (el_cons (ea_fix (en_lst (el_cons ea_cS el_nil))) (el_cons ea_cI el_nil)))))) (el_cons ea_cB (el_cons ea_cS (el_cons ea_cS el_nil)))))))))))) el_nil))))) h fun bs Qa Xa h => ?_
 obtain ⟨rfl, q⟩ := h
 sleep 3003
 refine ⟨strL, .inl rfl, by decide, by decide, fun i d hd => q d (List.mem_of_getElem? hd)⟩
abbrev sLstands : Stmt := topS 57
abbrev nLstands : List Str := ["_law_box", "_law_rows", "_law_names_here", "_law_said", "_law_row"]
theorem scLstands : FnScope nLstands ["_law_box", "_law_rows"] (defScope sLstands) := by sleep 2000
def spStands (CB CS CL : Addr) : ASp := fun bs Q _ => ∃ rows : List Rw, bs = [.st (boxD CB CS CL rows), .st (.lst (rows.map Rw.d))] ∧ RwsOk rows ∧ rows.length ≤ 6 ∧ Q (.bl true)
theorem ok_stands (kB : BoxT K CB) (gcB : GetC K CB fBG) (GBGet0 : FnOk P w K mg base CX0 1 fBG fdBG ["self", "name"] (cSp K (spBGet CB CS CL))) (bBGet : Binds K fdBG ["self", "name"] []) (lcB : LenC K CB fBL) (GBLen : FnOk P w K mg base CX0 1 fBL fdBL ["self"] (cSp K (spBLen CB CS CL))) (bBLen : Binds K fdBL ["self"] []) (mBN : Meth K CB "names" fBN) (GBNms : FnOk P w K mg base CX0 1 fBN fdBN ["self"] (cSpF K (spBNmF CB CS CL))) (bBN : Binds K fdBN ["self"] [])
  (eqS : EqC K CS fSE) (GSEq : FnOk P w K mg base CX0 2 fSE fdSE ["self", "other"] (cSp K (spSEqV CS CL))) (bSEq : Binds K fdSE ["self", "other"] []) (eqL : EqC K CL fLE) (GLEq : FnOk P w K mg base CX0 2 fLE fdLE ["self", "other"] (cSp K (spLEqV CS CL))) (bLEq : Binds K fdLE ["self", "other"] [])
  (DLstands : Df K mg "_law_stands" sLstands ["_law_box", "_law_rows"] fLstands fdLstands) (DLalike : Df K mg "_law_alike" sLalike ["_law_one_here", "_law_other"] fLalike fdLalike) (GLalike : FnOk P w K mg base CX0 5 fLalike fdLalike ["_law_one_here", "_law_other"] (cSp K (spAlk 4))) (DLone : Df K mg "_law_one" sLone ["_law_row"] fLone fdLone) (GLone : FnOk P w K mg base CX0 7 fLone fdLone ["_law_row"] (cSp K (spOne CS CL))) (DLasked : Df K mg "_law_asked" sLasked ["_law_box", "_law_name_here"] fLasked fdLasked) (GLasked : FnOk P w K mg base CX0 5 fLasked fdLasked ["_law_box", "_law_name_here"] (cSp K (spAskd CB CS CL))) (T : Bl mg) : FnOk P w K mg base CX0 8 fLstands fdLstands ["_law_box", "_law_rows"] (cSp K (spStands CB CS CL)) := by
 refine DLstands.fn.ok scLstands (fun vs H Q E h => cSp_len (fun bs Q X h => by obtain ⟨a, rfl, _⟩ := h; rfl) h) (fun cdv A outer s H vs Q E hr h => ?_)
 refine ⟨_, (pss_cons (ps_set (i := 2) scLstands.nd rfl (Or.inl rfl) (pe_callB (cr_sortedD (hu70 hr)) (by rfl) T.sorted (by decide +kernel) (pa_cons (pe_lc (own := [("_law_row", 4)]) rfl scLstands.nd (pi_list (pv 1)) (blkOk_by (own := [("_law_row", 4)]) (N := nLstands) (sc := defScope sLstands) (by decide +kernel)) (fun _ _ _ _ _ => (pg_name (i := 4) scLstands.nd rfl (Or.inl rfl))) (fun _ _ _ _ _ => pts_nil) (fun _ _ _ _ _ => (pe_ix (r := rIxT K) ix_tup (pv 4) pe_int (fun _ _ => rfl)))) pa_nil)))
   (pss_cons (ps_set (i := 3) scLstands.nd rfl (Or.inl rfl) (pe_meth0 (pv 0) kB.cl mBN GBNms (hr.mono (by decide)) bBN .nil pass0))
   (pss_cons (ps_if (PW.pt (pw_or (pt_not (pt_val (pe_df DLalike GLalike (hr.mono (by decide)) (pa_cons (pv 3) (pa_cons (pv 2) pa_nil))))) (pw_or1 (pt_cmpR op_ne (pe_callB (call_lenO lcB GBLen bBLen (hr.mono (by decide))) (by rfl) T.len (by decide +kernel) (pa_cons (pv 0) pa_nil)) (pe_callB call_len (by rfl) T.len (by decide +kernel) (pa_cons (pv 2) pa_nil)) (nomark _))))) (pss_one (ps_ret pe_bl)) pss_nil)
   (pss_cons (ps_expr (pe_bm0 PySem.F.plainAttrs_list PySem.F.slot_list_clear PySem.F.type_list_clear mt_clear (pv 3)))
   (pss_cons (ps_for PassesOwn.never rfl (pi_list (pv 1)) (pg_name (i := 4) scLstands.nd rfl (Or.inl rfl)) (pss_one (ps_if (PW.pt (pw_or (pt_not (pt_ei (pt_cmpR (op_eqO eqS GSEq bSEq (hr.mono (by decide))) (pe_subO gcB GBGet0 bBGet (hr.mono (by decide)) (pv 0) (pe_ix ix_tup (pv 4) pe_int (fun _ _ => rfl))) (pe_df DLone GLone (hr.mono (by decide)) (pa_cons (pv 4) pa_nil)) (nomark _)) (pt_cmpR (op_eqO eqL GLEq bLEq (hr.mono (by decide))) (pe_subO gcB GBGet0 bBGet (hr.mono (by decide)) (pv 0) (pe_ix ix_tup (pv 4) pe_int (fun _ _ => rfl))) (pe_df DLone GLone (hr.mono (by decide)) (pa_cons (pv 4) pa_nil)) (nomark _)))) (pw_or1 (pt_cmpR (op_neD hr.units) (pe_df DLasked GLasked (hr.mono (by decide)) (pa_cons (pv 0) (pa_cons (pe_ix ix_tup (pv 4) pe_int (fun _ _ => rfl)) pa_nil))) (pe_tup (pa_cons pe_str (pa_cons (pe_ix ix_tup (pv 4) pe_int (fun _ _ => rfl)) pa_nil))) (nomark _))))) (pss_one (ps_ret pe_bl)) pss_nil)))
   (pss_one (ps_ret (pe_df DLalike GLalike (hr.mono (by decide)) (pa_cons (pe_meth0 (pv 0) kB.cl mBN GBNms (hr.mono (by decide)) bBN .nil pass0) (pa_cons (pv 2) pa_nil)))))))))), ?_⟩
 refine fn_A ((sa_seq (sa_set 2 (ea_fix (en_sortS (ea_fix (en_lc (ec_list (ea_var 1)) (ga_name (js := [4]) 4) et_yes (ea_ixT (ea_var 4) ea_cI))))))
   (sa_seq (sa_new 3 (en_methF [] (ea_var 0) el_nil))
   (sa_seq (sa_if (et_or (et_not (et_B (ea_call [true, false] (el_cons (ea_var 3) (el_cons (ea_var 2) el_nil))))) (et_test (ea_op r2_ne (ea_lenO (ea_var 0)) (ea_b1 rc_len (ea_var 2))))) (sa_ret ea_cB) sa_next)
   (sa_seq (sa_clr 3)
   (sa_seq (sa_for (ei_list (ea_var 1)) (ga_name (js := [4]) 4) (sa_if (et_or (et_not (et_ei (et_test (ea_eqO (ea_subO [] (ea_var 0) (ea_ixT (ea_var 4) ea_cI)) (ea_call [] (el_cons (ea_var 4) el_nil)))) (et_test (ea_eqO (ea_subO [] (ea_var 0) (ea_ixT (ea_var 4) ea_cI)) (ea_call [] (el_cons (ea_var 4) el_nil)))))) (et_test (ea_op r2_neP (ea_call [] (el_cons (ea_var 0) (el_cons (ea_ixT (ea_var 4) ea_cI) el_nil))) (ea_tup (el_cons ea_cS (el_cons (ea_ixT (ea_var 4) ea_cI) el_nil)))))) (sa_ret ea_cB) sa_next))
   (sa_ret (ea_call [] (el_cons (ea_fix (en_methF [] (ea_var 0) el_nil)) (el_cons (ea_var 2) el_nil)))))))))) h fun bs Qa Xa h => ?_
 obtain ⟨rows, rfl, rok, r6, q⟩ := h
 sleep 1006
 refine ⟨by rw [List.length_map, List.length_map]; omega, ?_⟩
 rw [List.map_map (f := Rw.d)]
 refine aCol_map (fun r => D.str r.nm) (fun r hr R2 hR2 => ?_) ?_
 ·obtain ⟨ds1, q3, q4⟩ := row_tup2 r
  unfold Function.comp
  sleep 1006
  rw [q3]
  exact ⟨_, q4, hR2⟩
 rw [List.nil_append]
 have nok : ∀ z ∈ rows.map Rw.nm, NameOk z := fun z hz => by
  obtain ⟨r, hr, rfl⟩ := List.mem_map.mp hz
  exact (rok.ok r hr).nm
 refine ⟨rows.map Rw.nm, by rw [List.map_map]; rfl, nok, ?_⟩
 obtain ⟨NS, hNS⟩ : ∃ NS, NS = (rows.map Rw.nm).mergeSort leS := ⟨_, rfl⟩
 have hNS2 : namesS rows = NS := hNS.symm
 have NSl : NS.length = rows.length := by rw [← hNS2]; exact names_len rows
 have alk : Alk 4 (.lst (NS.map D.str)) := .lst (by rw [List.length_map, NSl]; omega) fun d hd => by
  obtain ⟨_, _, rfl⟩ := List.mem_map.mp hd
  exact .lf rfl
 rw [← hNS]
 sleep 1006
 refine ⟨rfl, rfl, rows, rfl, ?_⟩
 rw [hNS2]
 intro o
 sleep 1006
 refine ⟨_, .inr rfl, alk, ?_⟩
 sleep 1006
 refine ⟨_, rfl, rows, rfl, rows.length, rfl, by omega, ?_⟩
 sleep 1006
 rw [List.length_map, NSl, decide_eq_true rfl]
 refine nt ?_
 sleep 1006
 refine aLoop_inv (fun i env => ∃ u4 : Option B, env = [some (.st (boxD CB CS CL rows)), some (.st (.lst (rows.map Rw.d))), some (.st (.lst (NS.map D.str))), some (.ow o (.lst [])), u4]) ⟨none, rfl⟩ ?_ ?_
 ·rintro i x env R hx ⟨u4, rfl⟩ hR
  rw [List.map_map, List.getElem?_map, Option.map_eq_some_iff] at hx
  obtain ⟨r, hr, rfl⟩ := hx
  have hin := List.mem_of_getElem? hr
  have ro := rok.ok r hin
  unfold Function.comp
  cases r with
  | lock n p ws c =>
   have mem : n ∈ rows.map Rw.nm := List.mem_map.mpr ⟨_, hin, rfl⟩
   have pl : D.pl 8 (.tup [.str "told", .str n]) = true := pl_tup (n := 7) (by show 2 ≤ 900; decide) fun d hd => by
    simp only [List.mem_cons, List.not_mem_nil, or_false] at hd
    rcases hd with rfl | rfl
    ·exact pl_name nmTold
    ·exact pl_name ro.nm
   sleep 1006
   refine .inr ⟨_, rfl, rfl, rows, n, rfl, rok.nd, mem, ?_⟩
   rw [show rowAt rows n = .lock n p ws c from rowAt_mem rok.nd hin]
   refine ⟨.lock n p ws c, rfl, ro, _, _, rfl, rfl, n, p, ws, c, c, rfl, ro, ro, ?_⟩
   rw [decide_eq_true rfl]
   sleep 1006
   refine ⟨_, rfl, rows, .str n, rfl, rok, .inl ⟨n, rfl, mem, ?_⟩⟩
   sleep 1006
   refine ⟨_, rfl, pl, pl, fun b hb => ?_⟩
   obtain rfl : b = false := Bool.eq_false_iff.mpr fun e => (hb.mp e) rfl
   exact hR _ ⟨_, rfl⟩
  | sens n p zs c =>
   have mem : n ∈ rows.map Rw.nm := List.mem_map.mpr ⟨_, hin, rfl⟩
   have pl : D.pl 8 (.tup [.str "told", .str n]) = true := pl_tup (n := 7) (by show 2 ≤ 900; decide) fun d hd => by
    simp only [List.mem_cons, List.not_mem_nil, or_false] at hd
    rcases hd with rfl | rfl
    ·exact pl_name nmTold
    ·exact pl_name ro.nm
   sleep 1006
   refine .inl ⟨_, rfl, rfl, rows, n, rfl, rok.nd, mem, ?_⟩
   rw [show rowAt rows n = .sens n p zs c from rowAt_mem rok.nd hin]
   refine ⟨.sens n p zs c, rfl, ro, _, _, rfl, rfl, n, p, zs, c, c, rfl, ro, ro, ?_⟩
   rw [decide_eq_true rfl]
   sleep 1006
   refine ⟨_, rfl, rows, .str n, rfl, rok, .inl ⟨n, rfl, mem, ?_⟩⟩
   sleep 1006
   refine ⟨_, rfl, pl, pl, fun b hb => ?_⟩
   obtain rfl : b = false := Bool.eq_false_iff.mpr fun e => (hb.mp e) rfl
   exact hR _ ⟨_, rfl⟩
 rintro env ⟨u4, rfl⟩
 sleep 1006
 refine ⟨rfl, rfl, rows, rfl, ?_⟩
 rw [hNS2]
 exact ⟨_, .inl rfl, alk, q⟩
abbrev sLnames_refused : Stmt := topS 58
abbrev nLnames_refused : List Str := ["_law_pool_here", "_law_box", "_law_rows", "_law_other", "_law_thing"]
theorem scLnames_refused : FnScope nLnames_refused ["_law_pool_here", "_law_box", "_law_rows", "_law_other"] (defScope sLnames_refused) := by sleep 2000
def spNmRef (CB CS CL : Addr) : ASp := fun bs Q _ => ∃ (rows : List Rw) (z : Str), bs = [.pool, .st (boxD CB CS CL rows), .st (.lst (rows.map Rw.d)), .st (.str z)] ∧ RwsOk rows ∧ 1 ≤ rows.length ∧ rows.length ≤ 6 ∧ NameOk z ∧ z ∉ rows.map Rw.nm ∧ Q (.bl true)
theorem ok_nmref (DLnames_refused : Df K mg "_law_names_refused" sLnames_refused ["_law_pool_here", "_law_box", "_law_rows", "_law_other"] fLnames_refused fdLnames_refused) (DLalike : Df K mg "_law_alike" sLalike ["_law_one_here", "_law_other"] fLalike fdLalike) (GLalike : FnOk P w K mg base CX0 5 fLalike fdLalike ["_law_one_here", "_law_other"] (cSp K (spAlk 4))) (DLstrange : Df K mg "_law_strange" sLstrange ["_law_pool_here"] fLstrange fdLstrange) (GLstrange : FnOk P w K mg base CX0 3 fLstrange fdLstrange ["_law_pool_here"] (cSp K spStrange)) (DLasked : Df K mg "_law_asked" sLasked ["_law_box", "_law_name_here"] fLasked fdLasked) (GLasked : FnOk P w K mg base CX0 5 fLasked fdLasked ["_law_box", "_law_name_here"] (cSp K (spAskd CB CS CL))) (DLless : Df K mg "_law_less" sLless ["_law_box", "_law_name_here"] fLless fdLless) (GLless : FnOk P w K mg base CX0 8 fLless fdLless ["_law_box", "_law_name_here"] (cSp K (spLess CB CS CL))) (T : Bl mg) : FnOk P w K mg base CX0 9 fLnames_refused fdLnames_refused ["_law_pool_here", "_law_box", "_law_rows", "_law_other"] (cSp K (spNmRef CB CS CL)) := by
 refine DLnames_refused.fn.ok scLnames_refused (fun vs H Q E h => cSp_len (fun bs Q X h => by obtain ⟨a, b, rfl, _⟩ := h; rfl) h) (fun cdv A outer s H vs Q E hr h => ?_)
 refine ⟨_, (pss_cons (ps_for PassesOwn.never rfl (pi_list (pe_lst (pa_cons (pv 3) (pa_cons (pe_df DLstrange GLstrange (hr.mono (by decide)) (pa_cons (pv 0) pa_nil)) (pa_cons pe_non (pa_cons (pe_tup (pa_cons (pe_ix ix_tup (pe_ix ix_list (pv 2) pe_int (fun _ _ => rfl)) pe_int (fun _ _ => rfl)) pa_nil)) pa_nil)))))) (pg_name (i := 4) scLnames_refused.nd rfl (Or.inl rfl)) (pss_cons (ps_if (pt_not (pt_val (pe_df DLalike GLalike (hr.mono (by decide)) (pa_cons (pe_df DLasked GLasked (hr.mono (by decide)) (pa_cons (pv 1) (pa_cons (pv 4) pa_nil))) (pa_cons (pe_tup (pa_cons pe_str (pa_cons (pv 4) (pa_cons pe_bl pa_nil)))) pa_nil))))) (pss_one (ps_ret pe_bl)) pss_nil)
   (pss_one (ps_if (pt_not (pt_val (pe_df DLalike GLalike (hr.mono (by decide)) (pa_cons (pe_df DLless GLless (hr.mono (by decide)) (pa_cons (pv 1) (pa_cons (pv 4) pa_nil))) (pa_cons (pe_tup (pa_cons pe_str (pa_cons (pv 4) (pa_cons pe_bl pa_nil)))) pa_nil))))) (pss_one (ps_ret pe_bl)) pss_nil))))
   (pss_one (ps_ret pe_bl))), ?_⟩
 refine fn_A ((sa_seq (sa_for (ei_list (ea_fix (en_lst (el_cons (ea_var 3) (el_cons (ea_call [] (el_cons (ea_var 0) el_nil)) (el_cons ea_cN (el_cons (ea_tup (el_cons (ea_ixT (ea_ixL (ea_var 2) ea_cI) ea_cI) el_nil)) el_nil))))))) (ga_name (js := [4]) 4) (sa_seq (sa_if (et_not (et_B (ea_call [] (el_cons (ea_call [] (el_cons (ea_var 1) (el_cons (ea_var 4) el_nil))) (el_cons (ea_tup (el_cons ea_cS (el_cons (ea_var 4) (el_cons ea_cB el_nil)))) el_nil))))) (sa_ret ea_cB) sa_next)
   (sa_if (et_not (et_B (ea_call [] (el_cons (ea_call [] (el_cons (ea_var 1) (el_cons (ea_var 4) el_nil))) (el_cons (ea_tup (el_cons ea_cS (el_cons (ea_var 4) (el_cons ea_cB el_nil)))) el_nil))))) (sa_ret ea_cB) sa_next)))
   (sa_ret ea_cB))) h fun bs Qa Xa h => ?_
 obtain ⟨rows, z, rfl, rok, r1, r6, nz, hz, q⟩ := h
 sleep 1006
 refine ⟨rfl, fun d hd => ?_⟩
 obtain ⟨r0, rt, hrows⟩ : ∃ r0 rt, rows = r0 :: rt := by
  cases hh : rows with
  | nil => rw [hh] at r1; cases r1
  | cons a b => exact ⟨a, b, rfl⟩
 refine ⟨r0.d, at_ofG (j := 0) rfl (by rw [hrows]; rfl), ?_⟩
 obtain ⟨ds0, q1, q2⟩ := row_tup2 r0
 rw [q1]
 refine ⟨_, q2, ?_⟩
 have all : ∀ x : B, x ∈ [B.st (D.str z), B.st d, B.st D.non, B.st (D.tup [.str r0.nm])] → ∃ e, x = .st e ∧ NoNm rows e ∧ Alk 3 e := fun x hx => by
  simp only [List.mem_cons, List.not_mem_nil, or_false] at hx
  rcases hx with rfl | rfl | rfl | rfl
  ·exact ⟨_, rfl, .inr ⟨z, rfl, hz⟩, .lf rfl⟩
  ·exact ⟨_, rfl, str_no rok d hd, str_alk d hd⟩
  ·exact ⟨_, rfl, .inl ⟨_, rfl, by decide⟩, .lf rfl⟩
  ·exact ⟨_, rfl, .inl ⟨_, rfl, by decide⟩, .tup (by simp) fun e he => by rw [List.mem_singleton.mp he]; exact .lf rfl⟩
 refine aLoop_inv (fun i env => ∃ u4 : Option B, env = [some .pool, some (.st (boxD CB CS CL rows)), some (.st (.lst (rows.map Rw.d))), some (.st (.str z)), u4]) ⟨none, rfl⟩ ?_ ?_
 ·rintro i x env R hx ⟨u4, rfl⟩ hR
  obtain ⟨e, rfl, hn, ha⟩ := all x (List.mem_of_getElem? hx)
  sleep 1006
  refine ⟨rows, e, rfl, rok, .inr ⟨hn, ?_⟩⟩
  sleep 1006
  refine ⟨badD e, .inl rfl, alk_bad ha, ?_⟩
  sleep 1006
  refine ⟨rows, e, rfl, rok, .inr ⟨.inl hn, ?_⟩⟩
  sleep 1006
  exact ⟨badD e, .inl rfl, alk_bad ha, hR _ ⟨_, rfl⟩⟩
 rintro env ⟨u4, rfl⟩
 exact q
abbrev sLrows_refused : Stmt := topS 56
abbrev nLrows_refused : List Str := ["_law_pool_here", "_law_rows", "_law_made", "_law_many", "_law_at", "_law_spoiled", "_law_twice", "_law_thing", "_law_row"]
theorem scLrows_refused : FnScope nLrows_refused ["_law_pool_here", "_law_rows"] (defScope sLrows_refused) := by sleep 2000
def spRowsRef : ASp := fun bs Q _ => ∃ rows : List Rw, bs = [.pool, .st (.lst (rows.map Rw.d))] ∧ RwsOk rows ∧ rows.length = 7 ∧ Q (.bl true)
theorem ok_rowsref (DLrows_refused : Df K mg "_law_rows_refused" sLrows_refused ["_law_pool_here", "_law_rows"] fLrows_refused fdLrows_refused) (DLdraw : Df K mg "_law_draw" sLdraw ["_law_pool_here", "_law_many"] fLdraw fdLdraw) (GLdraw : FnOk P w K mg base CX0 1 fLdraw fdLdraw ["_law_pool_here", "_law_many"] (cSp K spDrawA)) (DLone : Df K mg "_law_one" sLone ["_law_row"] fLone fdLone) (GLone : FnOk P w K mg base CX0 7 fLone fdLone ["_law_row"] (cSp K (spOne CS CL))) (DLstrange : Df K mg "_law_strange" sLstrange ["_law_pool_here"] fLstrange fdLstrange) (GLstrange : FnOk P w K mg base CX0 3 fLstrange fdLstrange ["_law_pool_here"] (cSp K spStrange)) (DLtold : Df K mg "_law_told" sLtold ["_law_things"] fLtold fdLtold) (GLtold : FnOk P w K mg base CX0 6 fLtold fdLtold ["_law_things"] (cSp K (spTold CS CL))) (T : Bl mg) : FnOk P w K mg base CX0 8 fLrows_refused fdLrows_refused ["_law_pool_here", "_law_rows"] (cSp K spRowsRef) := by
 refine DLrows_refused.fn.ok scLrows_refused (fun vs H Q E h => cSp_len (fun bs Q X h => by obtain ⟨a, rfl, _⟩ := h; rfl) h) (fun cdv A outer s H vs Q E hr h => ?_)
 refine ⟨_, (pss_cons (ps_setLc (i := 2) (own := [("_law_row", 8)]) rfl scLrows_refused.nd rfl rfl (sw_true rfl rfl rfl (by decide +kernel)) (pi_list (pv 1)) (blkOk_by (own := [("_law_row", 8)]) (N := nLrows_refused) (sc := defScope sLrows_refused) (by decide +kernel)) (fun _ _ _ _ _ => (pg_name (i := 8) scLrows_refused.nd rfl (Or.inl rfl))) (fun _ _ _ _ _ => pts_nil) (fun _ _ _ _ _ => (pe_df DLone GLone (hr.mono (by decide)) (pa_cons (pv 8) pa_nil))))
   (pss_cons (ps_set (i := 3) scLrows_refused.nd rfl (Or.inl rfl) (pe_op op_add pe_int (pe_df DLdraw GLdraw (hr.mono (by decide)) (pa_cons (pv 0) (pa_cons pe_int pa_nil)))))
   (pss_cons (ps_set (i := 4) scLrows_refused.nd rfl (Or.inl rfl) (pe_df DLdraw GLdraw (hr.mono (by decide)) (pa_cons (pv 0) (pa_cons (pv 3) pa_nil))))
   (pss_cons (ps_set (i := 5) scLrows_refused.nd rfl (Or.inl rfl) (pe_callTy call_list_of (by rfl) T.list (by decide +kernel) (pa_cons (pe_slice sl_list (pv 2) po_none (po_some (pv 3))) pa_nil)))
   (pss_cons (ps_asg (pe_df DLstrange GLstrange (hr.mono (by decide)) (pa_cons (pv 0) pa_nil)) (pg_sub (pv 5) (pv 4) set_list))
   (pss_cons (ps_if (pt_cmpR (op_neD hr.units) (pe_df DLtold GLtold (hr.mono (by decide)) (pa_cons (pv 5) pa_nil)) (pe_tup (pa_cons pe_str (pa_cons (pv 4) (pa_cons pe_bl pa_nil)))) (nomark _)) (pss_one (ps_ret pe_bl)) pss_nil)
   (pss_cons (ps_set (i := 6) scLrows_refused.nd rfl (Or.inl rfl) (pe_op op_cat (pe_slice sl_list (pv 2) po_none (po_some (pv 3))) (pe_lst (pa_cons (pe_df DLone GLone (hr.mono (by decide)) (pa_cons (pe_ix ix_list (pv 1) (pv 4) (fun _ _ => rfl)) pa_nil)) pa_nil))))
   (C8.pss_cut (ps_if (PW.pt (pw_and (pt_cmpR op_lt (pv 3) pe_int (nomark _)) (pw_and1 (pt_cmpR (op_neD hr.units) (pe_df DLtold GLtold (hr.mono (by decide)) (pa_cons (pv 6) pa_nil)) (pe_tup (pa_cons pe_str (pa_cons (pv 3) (pa_cons pe_bl pa_nil)))) (nomark _))))) (pss_one (ps_ret pe_bl)) pss_nil)
   (pss_cons (ps_for PassesOwn.never rfl (pi_list (pe_lst (pa_cons (pe_lst pa_nil) (pa_cons (pe_tup pa_nil) (pa_cons pe_non (pa_cons (pe_ix ix_list (pv 2) pe_int (fun _ _ => rfl)) (pa_cons pe_str (pa_cons pe_dnewK (pa_cons (pv 2) (pa_cons (pe_callTy call_tuple_of (by rfl) T.tuple (by decide +kernel) (pa_cons (pv 2) pa_nil)) (pa_cons pe_int pa_nil))))))))))) (pg_name (i := 7) scLrows_refused.nd rfl (Or.inl rfl)) (pss_one (ps_if (pt_cmpR (op_neD hr.units) (pe_df DLtold GLtold (hr.mono (by decide)) (pa_cons (pv 7) pa_nil)) (pe_tup (pa_cons pe_str (pa_cons (pe_un un_neg pe_int) (pa_cons pe_bl pa_nil)))) (nomark _)) (pss_one (ps_ret pe_bl)) pss_nil)))
   (pss_one (ps_ret (pe_cmpR (op_eqD hr.units) (pe_df DLtold GLtold (hr.mono (by decide)) (pa_cons (pe_callTy call_tuple_of (by rfl) T.tuple (by decide +kernel) (pa_cons (pe_slice sl_list (pv 2) po_none (po_some (pv 3))) pa_nil)) pa_nil)) (pe_tup (pa_cons pe_str (pa_cons (pv 3) pa_nil))) (nomark _))))))))))))), ?_⟩
 refine fn_A ((sa_seq (sa_set 2 (ea_fix (en_lc (ec_list (ea_var 1)) (ga_name (js := [8]) 8) et_yes (ea_call [] (el_cons (ea_var 8) el_nil)))))
   (sa_seq (sa_set 3 (ea_op r2_add ea_cI (ea_call [] (el_cons (ea_var 0) (el_cons ea_cI el_nil)))))
   (sa_seq (sa_set 4 (ea_call [] (el_cons (ea_var 0) (el_cons (ea_var 3) el_nil))))
   (sa_seq (sa_new 5 (en_listOf (ea_fix (en_slL (ea_var 2) eo_none (eo_some (ea_var 3))))))
   (sa_seq (sa_lset 5 (ea_var 4) (ea_call [] (el_cons (ea_var 0) el_nil)))
   (sa_seq (sa_frz 5 (sa_if (et_test (ea_op r2_neY (ea_call [] (el_cons (ea_var 5) el_nil)) (ea_tup (el_cons ea_cS (el_cons (ea_var 4) (el_cons ea_cB el_nil)))))) (sa_ret ea_cB) sa_next))
   (sa_seq (sa_set 6 (ea_fix (en_cat (ea_fix (en_slL (ea_var 2) eo_none (eo_some (ea_var 3)))) (ea_fix (en_lst (el_cons (ea_call [] (el_cons (ea_ixL (ea_var 1) (ea_var 4)) el_nil)) el_nil))))))
   (sa_cut (sa_if (et_and (et_test (ea_op r2_lt (ea_var 3) ea_cI)) (et_test (ea_op r2_neY (ea_call [] (el_cons (ea_var 6) el_nil)) (ea_tup (el_cons ea_cS (el_cons (ea_var 3) (el_cons ea_cB el_nil))))))) (sa_ret ea_cB) sa_next)
   (sa_seq (sa_for (ei_list (ea_fix (en_lst (el_cons (ea_fix (en_lst el_nil)) (el_cons (ea_tup el_nil) (el_cons ea_cN (el_cons (ea_ixL (ea_var 2) ea_cI) (el_cons ea_cS (el_cons (ea_fix en_dnew) (el_cons (ea_var 2) (el_cons (ea_tupOf (ea_var 2)) (el_cons ea_cI el_nil)))))))))))) (ga_name (js := [7]) 7) (sa_if (et_test (ea_op r2_neY (ea_call [] (el_cons (ea_var 7) el_nil)) (ea_tup (el_cons ea_cS (el_cons (ea_un r1_neg ea_cI) (el_cons ea_cB el_nil)))))) (sa_ret ea_cB) sa_next))
   (sa_ret (ea_op r2_eqP (ea_call [] (el_cons (ea_tupOf (ea_fix (en_slL (ea_var 2) eo_none (eo_some (ea_var 3))))) el_nil)) (ea_tup (el_cons ea_cS (el_cons (ea_var 3) el_nil))))))))))))))) h fun bs Qa Xa h => ?_
 obtain ⟨rows, rfl, rok, r7, q⟩ := h
 sleep 1006
 refine ⟨by rw [List.length_map, List.length_map]; omega, ?_⟩
 rw [List.map_map (f := Rw.d)]
 refine aCol_map (fun r => insD CS CL r) (fun r hr R2 hR2 => ?_) ?_
 ·unfold Function.comp
  sleep 1006
  exact ⟨r, rfl, rok.ok r hr, hR2⟩
 rw [List.nil_append]
 obtain ⟨L, hL⟩ : ∃ L, L = rows.map (insD CS CL) := ⟨_, rfl⟩
 have hLe : (rows.map fun r => insD CS CL r) = L := hL.symm
 have Ll : L.length = 7 := by rw [hL, List.length_map, r7]
 rw [hLe]
 sleep 1006
 refine ⟨6, rfl, by decide, by decide, fun d d0 d1 => ?_⟩
 obtain ⟨m, hm⟩ : ∃ m : Nat, 1 + d = (m : Int) := ⟨(1 + d).toNat, by omega⟩
 sleep 1006
 rw [hm]
 have m1 : 1 ≤ m := by omega
 have m6 : m ≤ 6 := by omega
 sleep 1006
 refine ⟨m, rfl, by omega, by omega, fun a a0 a1 => ?_⟩
 obtain ⟨k, rfl⟩ : ∃ k : Nat, a = (k : Int) := ⟨a.toNat, by omega⟩
 have km : k < m := by omega
 have et : cutD L none (some (m : Int)) = L.take m := cut_take21 (by omega)
 have lt : (L.take m).length = m := by rw [List.length_take]; omega
 sleep 1006
 rw [et]
 intro o
 sleep 1006
 refine ⟨rfl, fun e he => ?_⟩
 sleep 1006
 refine ⟨k, ixN_at k rfl (by rw [lt]; exact km), ?_⟩
 have okT : ∀ j, RwsOk (rows.take j) := fun j => ⟨(List.Sublist.map Rw.nm (List.take_sublist _ _)).nodup rok.nd, fun r hr => rok.ok r (List.mem_of_mem_take hr)⟩
 have Lt : ∀ j, L.take j = (rows.take j).map (insD CS CL) := fun j => by rw [hL, List.map_take]
 have tl : ∀ j, j ≤ 7 → (rows.take j).length = j := fun j hj => by rw [List.length_take]; omega
 have eset : (L.take m).set k e = (rows.take k).map (insD CS CL) ++ e :: (L.take m).drop (k + 1) := by
  rw [List.set_eq_take_append_cons_drop, if_pos (by rw [lt]; exact km), List.take_take, Nat.min_eq_left (by omega), Lt]
 obtain ⟨mm, hkn⟩ := str_kn e he
 have bad : ∀ j : Int, ∃ p, (badD (.int j)).py = some p ∧ SeqAt.shaped p = true ∧ PyData.eqv p p = true := fun j => pq2_same (pq2_bad (pq2_int _ _))
 sleep 1006
 refine ⟨_, .inr (((rows.take k).length : Nat) : Int), rfl, by rw [eset]; exact .bad (.inl rfl) (okT k) (by rw [tl k (by omega), List.length_drop, lt]; omega) (.no hkn), ?_⟩
 rw [tl k (by omega)]
 obtain ⟨p1, e1, sh1, ev1⟩ := bad k
 refine ⟨p1, p1, e1, e1, sh1, sh1, ?_⟩
 rw [ev1, Bool.not_true]
 sleep 1006
 have hkr : k < rows.length := by omega
 have rkm : rows[k].nm ∈ (rows.take m).map Rw.nm := List.mem_map.mpr ⟨rows[k], List.mem_iff_getElem?.mpr ⟨k, by rw [List.getElem?_take, if_pos km, List.getElem?_eq_getElem hkr]⟩, rfl⟩
 refine ⟨_, at_ofG (j := k) rfl (by rw [List.getElem?_map, List.getElem?_eq_getElem hkr]; rfl), rows[k], rfl, rok.ok _ (List.getElem_mem hkr), ?_⟩
 rw [et]
 refine ⟨by rw [lt]; omega, ?_⟩
 refine ⟨fun env => env = [some .pool, some (.st (.lst (rows.map Rw.d))), some (.st (.lst L)), some (.st (.int (m : Int))), some (.st (.int (k : Int))), some (.st (.lst ((L.take m).set k e))), some (.st (.lst (L.take m ++ [insD CS CL rows[k]]))), none, none], ?_, ?_⟩
 ·sleep 1006
  refine ifB_dec (fun c => ?_) (fun c => rfl)
  sleep 1006
  refine ⟨_, .inr (((rows.take m).length : Nat) : Int), rfl, .bad (rs := rows.take m) (rest := []) (.inl (by rw [Lt])) (okT m) (by rw [tl m (by omega)]; simp; omega) (.tw (rok.ok _ (List.getElem_mem hkr)) rkm), ?_⟩
  rw [tl m (by omega)]
  obtain ⟨p1, e1, sh1, ev1⟩ := bad m
  refine ⟨p1, p1, e1, e1, sh1, sh1, ?_⟩
  rw [ev1, Bool.not_true]
  rfl
 rintro env rfl
 obtain ⟨r0, rt, hrows⟩ : ∃ r0 rt, rows = r0 :: rt := by
  cases hh : rows with
  | nil => rw [hh] at r7; cases r7
  | cons a b => exact ⟨a, b, rfl⟩
 sleep 1006
 refine ⟨insD CS CL r0, at_ofG (j := 0) rfl (by rw [hL, hrows]; rfl), ?_⟩
 have all : ∀ x : B, x ∈ [B.st (D.lst []), B.st (D.tup []), B.st D.non, B.st (insD CS CL r0), B.st (D.str "ab"), B.st (D.dK []), B.st (D.lst L), B.st (D.tup L), B.st (D.int 0)] → ∃ y, x = .st y ∧ GoI CS CL y (.inr (-1)) := fun x hx => by
  simp only [List.mem_cons, List.not_mem_nil, or_false] at hx
  rcases hx with rfl | rfl | rfl | rfl | rfl | rfl | rfl | rfl | rfl
  ·exact ⟨_, rfl, .size (.inl rfl) (.inl rfl) (by simp)⟩
  ·exact ⟨_, rfl, .size (.inr rfl) (.inl rfl) (by simp)⟩
  ·exact ⟨_, rfl, .notRow ⟨by simp [knD], fun y e => by cases e⟩ rfl⟩
  ·exact ⟨_, rfl, .ob r0⟩
  ·exact ⟨_, rfl, .notRow (thg_str ((nmB_iff _).mp (by decide +kernel))) rfl⟩
  ·exact ⟨_, rfl, .notRow ⟨by simp [knD], fun y e => by cases e⟩ rfl⟩
  ·exact ⟨_, rfl, .size (.inl rfl) (.inr (by omega)) (by omega)⟩
  ·exact ⟨_, rfl, .size (.inr rfl) (.inr (by omega)) (by omega)⟩
  ·exact ⟨_, rfl, .notRow (thg_int _) rfl⟩
 refine aLoop_inv (fun i env => ∃ u7 : Option B, env = [some .pool, some (.st (.lst (rows.map Rw.d))), some (.st (.lst L)), some (.st (.int (m : Int))), some (.st (.int (k : Int))), some (.st (.lst ((L.take m).set k e))), some (.st (.lst (L.take m ++ [insD CS CL rows[k]]))), u7, none]) ⟨none, rfl⟩ ?_ ?_
 ·rintro i x env R hx ⟨u7, rfl⟩ hR
  obtain ⟨y, rfl, go⟩ := all x (List.mem_of_getElem? hx)
  sleep 1006
  refine ⟨y, .inr (-1), rfl, go, ?_⟩
  sleep 1006
  obtain ⟨p1, e1, sh1, ev1⟩ := bad (-1)
  refine ⟨p1, p1, e1, e1, sh1, sh1, ?_⟩
  rw [ev1, Bool.not_true]
  exact hR _ ⟨_, rfl⟩
 rintro env ⟨u7, rfl⟩
 sleep 1006
 rw [et]
 refine ⟨_, .inl (rows.take m), rfl, .good (.inr (by rw [Lt])) (okT m) (by rw [tl m (by omega)]; exact m1) (by rw [tl m (by omega)]; exact m6), ?_⟩
 sleep 1006
 rw [tl m (by omega)]
 have pl : D.pl 8 (.tup [.str "box", .int (m : Int)]) = true := pl_tup (n := 7) (by show 2 ≤ 900; decide) fun d hd => by
  simp only [List.mem_cons, List.not_mem_nil, or_false] at hd
  rcases hd with rfl | rfl
  ·exact pl_name ((nmB_iff _).mp (by decide +kernel))
  ·rfl
 refine ⟨pl, pl, fun b hb => ?_⟩
 obtain rfl : b = true := hb.mpr rfl
 exact q
end
end
section
section
variable {K : PySem.W.Frag} {S : Hp} {a b : Addr} {xs : List V}
theorem surv_strs : ∀ {ws : List Str} {vs : List V}, RepL K S vs (ws.map D.str) → RepL K (offA a S) vs (ws.map D.str)
 | [], _, .nil => .nil
 | w :: ws, _, .cons h r => .cons (by cases h; exact .str _) (surv_strs r)
theorem rd_off21 {d : Addr} {k : List (Key × V)} (sa : S a = some (.lst xs)) (h : Rd S d (.dK k)) : Rd (offA a S) d (.dK k) := by
 rcases h with h | ⟨o, h⟩
 ·have ne : d ≠ a := fun e => by rw [e, sa] at h; cases h
  exact .inl ((offA_ne ne).trans h)
 ·have ne : d ≠ a := fun e => by rw [e, sa] at h; cases h
  exact .inr ⟨o, (offA_ne ne).trans h⟩
theorem surv_ins {CS CL : Addr} {r : Rw} (ro : RwOk r) {v : V} (sa : S a = some (.lst (V.ref b :: xs))) (h : Rep K S v (insD CS CL r)) : Rep K (offA a S) v (insD CS CL r) := by
 cases r with
 | lock n p ws c =>
  obtain ⟨q, dx, us, rfl, e1, e2, rl⟩ := rep_obj (show Rep K S v (.obj CL (lokF n p c ws)) from h)
  have ne : q ≠ a := fun e => by rw [e, sa] at e1; cases e1
  refine .obj ((offA_ne ne).trans e1) e2 ?_
  generalize us.map (·.2) = L at rl ⊢
  cases rl with
  | cons h1 rl => cases rl with
   | cons h2 rl => cases rl with
    | cons h3 rl => cases rl with
     | cons h4 rl =>
      cases rl
      refine .cons (by cases h1; exact .str _) (.cons (by cases h2; exact .int _) (.cons (by cases h3; exact .int _) (.cons ?_ .nil)))
      obtain ⟨a', vs, rfl, e3, r3⟩ := rep_lst h4
      have ne2 : a' ≠ a := fun e => by
       subst e
       rw [sa] at e3
       cases e3
       cases hw : ws.mergeSort leS with
       | nil =>
        have := congrArg List.length hw
        rw [List.length_mergeSort] at this
        have : ws.length = 0 := this
        have : 1 ≤ ws.length := ro.wl.1
        omega
       | cons z zs =>
        rw [hw] at r3
        cases r3 with
        | cons x y => cases x
      exact .lst ((offA_ne ne2).trans e3) (surv_strs r3)
 | sens n p zs c =>
  obtain ⟨q, dx, us, rfl, e1, e2, rl⟩ := rep_obj (show Rep K S v (.obj CS (senF n p c zs)) from h)
  have ne : q ≠ a := fun e => by rw [e, sa] at e1; cases e1
  refine .obj ((offA_ne ne).trans e1) e2 ?_
  generalize us.map (·.2) = L at rl ⊢
  cases rl with
  | cons h1 rl => cases rl with
   | cons h2 rl => cases rl with
    | cons h3 rl => cases rl with
     | cons h4 rl =>
      cases rl
      refine .cons (by cases h1; exact .str _) (.cons (by cases h2; exact .int _) (.cons (by cases h3; exact .int _) (.cons ?_ .nil)))
      obtain ⟨d1, kva, rfl, hd1, ka, ra⟩ := rep_dK h4
      refine .dK (rd_off21 sa hd1) ka ?_
      have ez : (zD (showZ zs)).map (·.2) = ((showZ zs).map (·.2)).map D.str := by unfold zD; rw [List.map_map, List.map_map]; rfl
      rw [ez] at ra ⊢
      exact surv_strs ra
theorem surv_insL {CS CL : Addr} (sa : S a = some (.lst (V.ref b :: xs))) : ∀ {rs : List Rw} {vs : List V}, (∀ r ∈ rs, RwOk r) → RepL K S vs (rs.map (insD CS CL)) → RepL K (offA a S) vs (rs.map (insD CS CL))
 | [], _, _, .nil => .nil
 | r :: rs, _, h, .cons x y => .cons (surv_ins (h r (by simp)) sa x) (surv_insL sa (fun r hr => h r (List.mem_cons_of_mem _ hr)) y)
end
theorem surv_box {K : PySem.W.Frag} {CB CS CL : Addr} {rows : List Rw} (ok : RwsOk rows) (h1 : 1 ≤ rows.length) : Surv K (rows.map (insD CS CL)) (boxD CB CS CL rows) := fun S a xs v sa rl h => by
 obtain ⟨b, ys, rfl⟩ : ∃ b ys, xs = V.ref b :: ys := by
  cases rows with
  | nil => cases h1
  | cons r rs =>
   cases rl with
   | cons x y =>
    cases r with
    | lock n p ws c => obtain ⟨q, _, _, rfl, _⟩ := rep_obj (show Rep K S _ (.obj CL (lokF n p c ws)) from x); exact ⟨_, _, rfl⟩
    | sens n p zs c => obtain ⟨q, _, _, rfl, _⟩ := rep_obj (show Rep K S _ (.obj CS (senF n p c zs)) from x); exact ⟨_, _, rfl⟩
 obtain ⟨q, dx, us, rfl, e1, e2, r2⟩ := rep_obj (show Rep K S v (.obj CB [("shelf", .dK (shelfD CS CL rows))]) from h)
 have ne : q ≠ a := fun e => by rw [e, sa] at e1; cases e1
 refine .obj ((offA_ne ne).trans e1) e2 ?_
 generalize us.map (·.2) = L at r2 ⊢
 cases r2 with
 | cons x y =>
  cases y
  refine .cons ?_ .nil
  obtain ⟨d1, kva, rfl, hd1, ka, ra⟩ := rep_dK x
  refine .dK (rd_off21 sa hd1) ka ?_
  rw [shelf_vals] at ra ⊢
  exact surv_insL sa (fun r hr => ok.ok r ((shelfR_mem ok).mp hr)) ra
theorem rowAt_no21 {rows : List Rw} {n : Str} (h : n ∉ rows.map Rw.nm) : rowAt rows n = .lock n 0 [] 0 := by
 unfold rowAt
 rw [List.find?_eq_none.mpr fun r hr e => h (List.mem_map.mpr ⟨r, hr, of_decide_eq_true e⟩)]
 rfl
theorem box_set (CB CS CL : Addr) {rows rows' : List Rw} (nd : (rows.map Rw.nm).Nodup) (nd' : (rows'.map Rw.nm).Nodup) (h : ∀ r, r ∈ rows' ↔ r ∈ rows) : boxD CB CS CL rows' = boxD CB CS CL rows := by
 have hn : ∀ n, n ∈ rows'.map Rw.nm ↔ n ∈ rows.map Rw.nm := fun n => by
  rw [List.mem_map, List.mem_map]
  exact ⟨fun ⟨r, a, b⟩ => ⟨r, (h r).mp a, b⟩, fun ⟨r, a, b⟩ => ⟨r, (h r).mpr a, b⟩⟩
 have e : namesS rows' = namesS rows := sortS_perm (nodup_mem_perm nd' nd hn)
 have e2 : rowAt rows' = rowAt rows := funext fun n => by
  by_cases c : n ∈ rows.map Rw.nm
  ·obtain ⟨r, hr, rfl⟩ := List.mem_map.mp c
   rw [rowAt_mem nd hr, rowAt_mem nd' ((h r).mpr hr)]
  ·rw [rowAt_no21 c, rowAt_no21 fun q => c ((hn n).mp q)]
 unfold boxD shelfD
 rw [e, e2]
theorem cost_refl {rows : List Rw} (ok : RwsOk rows) : CostR rows rows := ⟨ok, ok, rfl, fun n _ => (atCost_id _).symm⟩
/-- one row at another cost -/
theorem cost_one {A B : List Rw} {r : Rw} {c : Int} (ok : RwsOk (A ++ r :: B)) (oc : RwOk (atCost c r)) : CostR (A ++ r :: B) (A ++ atCost c r :: B) ∧ (r.co ≠ c → decide (∀ n ∈ namesS (A ++ r :: B), (rowAt (A ++ r :: B) n).co = (rowAt (A ++ atCost c r :: B) n).co) = false) := by
 have en : (A ++ atCost c r :: B).map Rw.nm = (A ++ r :: B).map Rw.nm := by
  rw [List.map_append, List.map_append, List.map_cons, List.map_cons, atCost_nm]
 have nd2 : ((A ++ atCost c r :: B).map Rw.nm).Nodup := by rw [en]; exact ok.nd
 have ok2 : RwsOk (A ++ atCost c r :: B) := ⟨nd2, fun x hx => by
  rcases List.mem_append.mp hx with h | h
  ·exact ok.ok x (List.mem_append_left _ h)
  ·rcases List.mem_cons.mp h with rfl | h
   ·exact oc
   ·exact ok.ok x (List.mem_append_right _ (List.mem_cons_of_mem _ h))⟩
 have at1 : rowAt (A ++ r :: B) r.nm = r := rowAt_mem ok.nd (by simp)
 have at2 : rowAt (A ++ atCost c r :: B) r.nm = atCost c r := by
  have := rowAt_mem nd2 (r := atCost c r) (by simp)
  rw [atCost_nm] at this
  exact this
 refine ⟨⟨ok, ok2, by unfold namesS; rw [en], fun n hn => ?_⟩, fun hc => decide_eq_false fun q => hc ?_⟩
 ·obtain ⟨x, hx, rfl⟩ := List.mem_map.mp (names_mem.mp hn)
  have same : x ∈ A ∨ x ∈ B → rowAt (A ++ atCost c r :: B) x.nm = atCost (rowAt (A ++ atCost c r :: B) x.nm).co (rowAt (A ++ r :: B) x.nm) := fun hh => by
   rw [rowAt_mem ok.nd hx, rowAt_mem nd2 (r := x) (by
    rcases hh with h | h
    ·exact List.mem_append_left _ h
    ·exact List.mem_append_right _ (List.mem_cons_of_mem _ h)), atCost_id]
  rcases List.mem_append.mp hx with h | h
  ·exact same (.inl h)
  ·rcases List.mem_cons.mp h with rfl | h
   ·rw [at1, at2, atCost_co]
   ·exact same (.inr h)
 ·have := q r.nm (names_mem.mpr (List.mem_map.mpr ⟨r, by simp, rfl⟩))
  rw [at1, at2, atCost_co] at this
  exact this
theorem atCost_ok {r : Rw} (h : RwOk r) {c : Int} (hc : 1 ≤ c ∧ c ≤ 1000) : RwOk (atCost c r) := by
 cases r with
 | lock n p ws d => exact ⟨h.nm, h.po, hc, h.wl, h.wn, h.wo, fun a b c d e => by cases e⟩
 | sens n p zs d => exact ⟨h.nm, h.po, hc, h.wl, h.wn, h.wo, fun a b c d e q hq => by cases e; exact h.so _ _ _ _ rfl q hq⟩
/-- the instrument taken out and put in again -/
theorem box_back (CB CS CL : Addr) {A B : List Rw} {r : Rw} {c : Int} (ok : RwsOk (A ++ r :: B)) (ok2 : RwsOk (A ++ atCost c r :: B)) :
  let R := (shelfR (A ++ atCost c r :: B)).filter fun x => decide (x.nm ≠ r.nm)
  RwsOk R ∧ R.length < (A ++ r :: B).length ∧ r.nm ∉ R.map Rw.nm ∧ boxD CB CS CL (shelfR R ++ [r]) = boxD CB CS CL (A ++ r :: B) := by
 intro R
 have okR : RwsOk R := sub_ok ok2 r.nm
 have mR : ∀ x, x ∈ R ↔ x ∈ A ++ r :: B ∧ x.nm ≠ r.nm := fun x => by
  show x ∈ List.filter _ _ ↔ _
  rw [List.mem_filter, shelfR_mem ok2, decide_eq_true_eq]
  simp only [List.mem_append, List.mem_cons]
  constructor
  ·rintro ⟨h | rfl | h, q⟩
   ·exact ⟨.inl h, q⟩
   ·exact absurd (atCost_nm c r) q
   ·exact ⟨.inr (.inr h), q⟩
  ·rintro ⟨h | rfl | h, q⟩
   ·exact ⟨.inl h, q⟩
   ·exact absurd rfl q
   ·exact ⟨.inr (.inr h), q⟩
 have hn : r.nm ∉ R.map Rw.nm := fun h => by
  obtain ⟨x, hx, e⟩ := List.mem_map.mp h
  exact ((mR x).mp hx).2 e
 have hr : r ∈ A ++ r :: B := by simp
 refine ⟨okR, ?_, hn, ?_⟩
 ·have nd : (r.nm :: R.map Rw.nm).Nodup := List.nodup_cons.mpr ⟨hn, okR.nd⟩
  have := List.Nodup.length_le_of_subset nd (l₂ := (A ++ r :: B).map Rw.nm) fun n h => by
   rcases List.mem_cons.mp h with rfl | h
   ·exact List.mem_map.mpr ⟨r, hr, rfl⟩
   ·obtain ⟨x, hx, rfl⟩ := List.mem_map.mp h
    exact List.mem_map.mpr ⟨x, ((mR x).mp hx).1, rfl⟩
  rw [List.length_cons, List.length_map, List.length_map] at this
  omega
 ·refine box_set CB CS CL ok.nd (more_ok okR (ok.ok r hr) hn).nd fun x => ?_
  rw [List.mem_append, List.mem_singleton, shelfR_mem okR, mR]
  constructor
  ·rintro (h | rfl)
   ·exact h.1
   ·exact hr
  ·intro h
   by_cases e : x.nm = r.nm
   ·right
    have h1 := rowAt_mem ok.nd h
    rw [e, rowAt_mem ok.nd hr] at h1
    exact h1.symm
   ·exact .inl ⟨h, e⟩
end
section
theorem law_go {K : PySem.W.Frag} {t : TS} {as : AS} {p : Addr} {S H : Hp} {σ : L2.St} {env : AEnv} {Q : VK} (hs : SA K (fun _ _ _ _ => False) t as) (P0 : Pool S H p) (hl : σ.length = env.length) (hsl : ∀ i b, slot env i = some b → b = .pool ∧ σ[i]? = some (some (.ref p))) (q : ∀ H', Q (.bl true) H')
  (h : as ⟨fun _ => False, fun d => d = .bl true, fun _ => False, fun _ => False, fun _ => False, fun _ _ _ => False⟩ env) : t { nx := fun _ H' => Q .non H', rt := Q } σ H := by
 refine hs (some p) S H S H σ env ⟨fun _ => False, fun d => d = .bl true, fun _ => False, fun _ => False, fun _ => False, fun _ _ _ => False⟩ _ ⟨GrO.refl, ⟨⟨P0.ss, fun p' e => by cases e; exact P0⟩, fun a u _ h => h, hl, fun i b hb => ?_⟩, fun i a d hb => ?_, fun i j a d d' hb _ => ?_⟩
  ⟨fun _ _ _ _ _ z => z.elim, fun _ _ _ _ _ z => z.elim, fun _ _ _ _ _ z => z.elim, fun v d S' H' _ _ r e => ?_, fun _ _ _ _ _ _ _ _ _ z => z.elim, fun _ _ _ _ _ _ _ _ _ _ z => z.elim⟩ h
 ·obtain ⟨rfl, e⟩ := hsl i b hb
  exact ⟨_, e, p, rfl, rfl⟩
 ·cases (hsl i _ hb).1
 ·cases (hsl i _ hb).1
 ·subst e
  rw [rep_bl r]
  exact q H'
theorem law_go1 {K : PySem.W.Frag} {t : TS} {as : AS} {p : Addr} {S H : Hp} {v : Option V} {n : Nat} {Q : VK} (hs : SA K (fun _ _ _ _ => False) t as) (P0 : Pool S H p) (q : ∀ H', Q (.bl true) H')
  (h : as ⟨fun _ => False, fun d => d = .bl true, fun _ => False, fun _ => False, fun _ => False, fun _ _ _ => False⟩ (none :: some .pool :: List.replicate n none)) : t { nx := fun _ H' => Q .non H', rt := Q } (v :: some (.ref p) :: List.replicate n none) H :=
 law_go hs P0 (by simp) (fun i b hb => by
  match i, hb with
  | 0, hb => cases hb
  | 1, hb => cases hb; exact ⟨rfl, rfl⟩
  | i + 2, hb =>
   exfalso
   have h2 : slot (List.replicate n none) i = some b := hb
   rw [slot_eq, List.getElem?_replicate] at h2
   split at h2 <;> cases h2) q h
end
section
theorem fm_ne (n : Str) : ∀ l : List Str, (l.filterMap fun z => if z = n then none else some (D.str z)) = (l.filter fun z => decide (z ≠ n)).map D.str
 | [] => rfl
 | a :: r => by
  rw [List.filterMap_cons, List.filter_cons]
  by_cases c : a = n
  ·rw [if_pos c, decide_eq_false (fun h => h c)]
   exact fm_ne n r
  ·rw [if_neg c, decide_eq_true c]
   show D.str a :: _ = D.str a :: _
   rw [fm_ne n r]
theorem row5 (r : Rw) : ∃ x1 x2 x3, r.d = .tup [x1, .str r.nm, x2, x3, .int r.co] ∧ ∀ c, (atCost c r).d = .tup [x1, .str r.nm, x2, x3, .int c] := by cases r <;> exact ⟨_, _, _, rfl, fun _ => rfl⟩
theorem cut_mid {ds : List D} {a b : Nat} (h : b ≤ ds.length) (ab : a ≤ b) : cutD ds (some (a : Int)) (some (b : Int)) = (ds.take b).drop a := by
 unfold cutD HT.sIx
 simp only
 rw [if_neg (by omega), if_neg (by omega)]
 rw [show min (b : Int).toNat ds.length = b by omega, show min (a : Int).toNat ds.length = a by omega, List.drop_take]
theorem ins_obj21 (CS CL : Addr) (r : Rw) : ∃ C2 gs, insD CS CL r = .obj C2 gs ∧ C2 ∈ [CS, CL] := by cases r <;> exact ⟨_, _, rfl, by simp⟩
section
variable {P : Program} {w : World} {K : PySem.W.Frag} {mg : Str → Option Value} {base : Heap} {CB CS CL CN f f1 fBI fBOr fBSu fBE : Addr} {fd fd1 fdBI fdBOr fdBSu fdBE : FuncData}
def spBoxIC (CS CL : Addr) : ISp := fun bs Q _ => ∃ (d : D) (rows : List Rw), bs = [.st d] ∧ (d = .lst (rows.map (insD CS CL)) ∨ d = .tup (rows.map (insD CS CL))) ∧ RwsOk rows ∧ 1 ≤ rows.length ∧ rows.length ≤ 6 ∧ Q [("shelf", .dK (shelfD CS CL rows))]
theorem ok_boxIC (F : FnOk P w K mg base (L2.CX P w) 4 fBI fdBI ["self", "instruments"] (cIn K CB (spBoxIX CS CL CN))) : FnOk P w K mg base CX0 4 fBI fdBI ["self", "instruments"] (cIn K CB (spBoxIC CS CL)) :=
 calm F fun vs H Q E h => by
  obtain ⟨x, dx, vs', o, S, bs, Qa, Xa, e1, e2, e3, e4, e5, e6, e7, q, k1, k2⟩ := h
  obtain ⟨d, rows, eb, ed, ok, h1, h6, q⟩ := q
  exact ⟨x, dx, vs', o, S, bs, Qa, fun _ _ => False, e1, e2, e3, e4, e5, e6, e7, ⟨d, .inl rows, eb, .good ed ok h1 h6, q⟩, k1, fun _ _ _ _ _ _ _ _ _ q => q.elim⟩
def spLaw (K : PySem.W.Frag) : Sp := fun vs H Q _ => ∃ (a : Addr) (ns : List Int), vs = [.ref a] ∧ SqL K H a (ns.map V.int) ∧ ns.length ≤ 63 ∧ ∀ H', Q (.bl true) H'
abbrev sLaw : Stmt := topS 59
abbrev nLaw : List Str := ["_law_script", "_law_pool_here", "_law_rows", "_law_many", "_law_at", "_law_made", "_law_box", "_law_names_here", "_law_due", "_law_moved", "_law_line", "_law_other", "_law_changed", "_law_row", "_law_name_here"]
theorem scLaw : FnScope nLaw ["_law_script"] (defScope sLaw) := by sleep 2000
theorem ok_law (kB : BoxT K CB) (gBx : mg "Box" = some (.ref CB)) (MBox : Mk K CB fBI) (GIBox : FnOk P w K mg base CX0 4 fBI fdBI ["self", "instruments"] (cIn K CB (spBoxIC CS CL))) (bIBox : Binds K fdBI ["self", "instruments"] [])
  (ocB : OpC K CB fBOr "or" [CS, CL]) (GBOr : FnOk P w K mg base CX0 6 fBOr fdBOr ["self", "instrument"] (cSp K (spBOr CB CS CL))) (bBOr : Binds K fdBOr ["self", "instrument"] [])
  (osB : OpS K CB fBSu "sub") (GBSub : FnOk P w K mg base CX0 6 fBSu fdBSu ["self", "name"] (cSp K (spBSub CB CS CL))) (bBSub : Binds K fdBSu ["self", "name"] [])
  (eqB : EqC K CB fBE) (GBEq : FnOk P w K mg base CX0 5 fBE fdBE ["self", "other"] (cSp K (spBEqV CB CS CL))) (bBEq : Binds K fdBE ["self", "other"] [])
  (F : Fun K "law" "law" sLaw f fd) (T : Bl mg) (DLpool : Df K mg "_law_pool" sLpool ["_law_script"] f1 fd1) (GLpool : FnOk P w K mg base CX0 1 f1 fd1 ["_law_script"] (spPool K))
  (DLseven : Df K mg "_law_seven" sLseven ["_law_pool_here"] fLseven fdLseven) (GLseven : FnOk P w K mg base CX0 6 fLseven fdLseven ["_law_pool_here"] (cSp K spSeven)) (DLrows_refused : Df K mg "_law_rows_refused" sLrows_refused ["_law_pool_here", "_law_rows"] fLrows_refused fdLrows_refused) (GLrows_refused : FnOk P w K mg base CX0 8 fLrows_refused fdLrows_refused ["_law_pool_here", "_law_rows"] (cSp K spRowsRef)) (DLdraw : Df K mg "_law_draw" sLdraw ["_law_pool_here", "_law_many"] fLdraw fdLdraw) (GLdraw : FnOk P w K mg base CX0 1 fLdraw fdLdraw ["_law_pool_here", "_law_many"] (cSp K spDrawA)) (DLone : Df K mg "_law_one" sLone ["_law_row"] fLone fdLone) (GLone : FnOk P w K mg base CX0 7 fLone fdLone ["_law_row"] (cSp K (spOne CS CL))) (DLstands : Df K mg "_law_stands" sLstands ["_law_box", "_law_rows"] fLstands fdLstands) (GLstands : FnOk P w K mg base CX0 8 fLstands fdLstands ["_law_box", "_law_rows"] (cSp K (spStands CB CS CL))) (DLnames_refused : Df K mg "_law_names_refused" sLnames_refused ["_law_pool_here", "_law_box", "_law_rows", "_law_other"] fLnames_refused fdLnames_refused) (GLnames_refused : FnOk P w K mg base CX0 9 fLnames_refused fdLnames_refused ["_law_pool_here", "_law_box", "_law_rows", "_law_other"] (cSp K (spNmRef CB CS CL))) (DLmore : Df K mg "_law_more" sLmore ["_law_box", "_law_thing"] fLmore fdLmore) (GLmore : FnOk P w K mg base CX0 8 fLmore fdLmore ["_law_box", "_law_thing"] (cSp K (spMore CB CS CL))) (DLstrange : Df K mg "_law_strange" sLstrange ["_law_pool_here"] fLstrange fdLstrange) (GLstrange : FnOk P w K mg base CX0 3 fLstrange fdLstrange ["_law_pool_here"] (cSp K spStrange)) (DLless : Df K mg "_law_less" sLless ["_law_box", "_law_name_here"] fLless fdLless) (GLless : FnOk P w K mg base CX0 8 fLless fdLless ["_law_box", "_law_name_here"] (cSp K (spLess CB CS CL))) : FnOk P w K mg base CX0 11 f fd ["_law_script"] (spLaw K) := by
 refine F.ok scLaw (fun vs H Q E h => by obtain ⟨a, ns, rfl, _⟩ := h; rfl) (fun cdv A outer s H vs Q E hr h => ?_)
 obtain ⟨sc, ns, rfl, hsc, hns, q⟩ := h
 refine ⟨_, (pss_cons (ps_set (i := 1) scLaw.nd rfl (Or.inl rfl) (pe_df DLpool GLpool (hr.mono (by decide)) (pa_cons (pv 0) pa_nil)))
   (pss_cons (ps_set (i := 2) scLaw.nd rfl (Or.inr rfl) (pe_df DLseven GLseven (hr.mono (by decide)) (pa_cons (pv 1) pa_nil)))
   (pss_cons (ps_if (pt_not (pt_val (pe_df DLrows_refused GLrows_refused (hr.mono (by decide)) (pa_cons (pv 1) (pa_cons (pv 2) pa_nil))))) (pss_one (ps_ret pe_bl)) pss_nil)
   (pss_cons (ps_set (i := 3) scLaw.nd rfl (Or.inl rfl) (pe_op op_add pe_int (pe_df DLdraw GLdraw (hr.mono (by decide)) (pa_cons (pv 1) (pa_cons pe_int pa_nil)))))
   (pss_cons (ps_set (i := 4) scLaw.nd rfl (Or.inr rfl) (pe_df DLdraw GLdraw (hr.mono (by decide)) (pa_cons (pv 1) (pa_cons (pv 3) pa_nil))))
   (pss_cons (ps_setLc (i := 5) (own := [("_law_row", 13)]) rfl scLaw.nd rfl rfl (sw_true rfl rfl rfl (by decide +kernel)) (pi_list (pe_slice sl_list (pv 2) po_none (po_some (pv 3)))) (blkOk_by (own := [("_law_row", 13)]) (N := nLaw) (sc := defScope sLaw) (by decide +kernel)) (fun _ _ _ _ _ => (pg_name (i := 13) scLaw.nd rfl (Or.inl rfl))) (fun _ _ _ _ _ => pts_nil) (fun _ _ _ _ _ => (pe_df DLone GLone (hr.mono (by decide)) (pa_cons (pv 13) pa_nil))))
   (pss_cons (ps_set (i := 6) scLaw.nd rfl (Or.inl rfl) (pe_make MBox GIBox (hr.mono (by decide)) (by rfl) gBx bIBox .nil pass0 (pa_cons (pv 5) pa_nil)))
   (pss_cons (ps_expr (pe_bm0 PySem.F.plainAttrs_list PySem.F.slot_list_clear PySem.F.type_list_clear mt_clear (pv 5)))
   (pss_cons (ps_if (PW.pt (pw_or (pt_not (pt_val (pe_df DLstands GLstands (hr.mono (by decide)) (pa_cons (pv 6) (pa_cons (pe_slice sl_list (pv 2) po_none (po_some (pv 3))) pa_nil))))) (pw_or1 (pt_not (pt_val (pe_df DLnames_refused GLnames_refused (hr.mono (by decide)) (pa_cons (pv 1) (pa_cons (pv 6) (pa_cons (pe_slice sl_list (pv 2) po_none (po_some (pv 3))) (pa_cons (pe_ix ix_tup (pe_ix ix_list (pv 2) pe_int (fun _ _ => rfl)) pe_int (fun _ _ => rfl)) pa_nil)))))))))) (pss_one (ps_ret pe_bl)) pss_nil)
   (pss_cons (ps_set (i := 7) scLaw.nd rfl (Or.inl rfl) (pe_callB (cr_sortedD (hu70 hr)) (by rfl) T.sorted (by decide +kernel) (pa_cons (pe_lc (own := [("_law_row", 13)]) rfl scLaw.nd (pi_list (pe_slice sl_list (pv 2) po_none (po_some (pv 3)))) (blkOk_by (own := [("_law_row", 13)]) (N := nLaw) (sc := defScope sLaw) (by decide +kernel)) (fun _ _ _ _ _ => (pg_name (i := 13) scLaw.nd rfl (Or.inl rfl))) (fun _ _ _ _ _ => pts_nil) (fun _ _ _ _ _ => (pe_ix (r := rIxT K) ix_tup (pv 13) pe_int (fun _ _ => rfl)))) pa_nil)))
   (pss_cons (ps_set (i := 8) scLaw.nd rfl (Or.inl rfl) (pe_tup (pa_cons pe_str (pa_cons (pv 3) (pa_cons pe_bl pa_nil)))))
   (C8.pss_cut (ps_if (pt_cmpR op_lt (pv 3) pe_int (nomark _)) (pss_one (ps_set (i := 8) scLaw.nd rfl (Or.inl rfl) (pe_tup (pa_cons pe_str (pa_cons (pe_callB (cr_sortedD (hu70 hr)) (by rfl) T.sorted (by decide +kernel) (pa_cons (pe_op op_cat (pv 7) (pe_lst (pa_cons (pe_ix ix_tup (pe_ix ix_list (pv 2) pe_int (fun _ _ => rfl)) pe_int (fun _ _ => rfl)) pa_nil))) pa_nil)) pa_nil))))) pss_nil)
   (pss_cons (ps_if (PW.pt (pw_or (pt_cmpR (op_neD hr.units) (pe_df DLmore GLmore (hr.mono (by decide)) (pa_cons (pv 6) (pa_cons (pe_df DLone GLone (hr.mono (by decide)) (pa_cons (pe_ix ix_list (pv 2) pe_int (fun _ _ => rfl)) pa_nil)) pa_nil))) (pv 8) (nomark _)) (pw_or1 (pt_cmpR (op_neD hr.units) (pe_df DLmore GLmore (hr.mono (by decide)) (pa_cons (pv 6) (pa_cons (pe_df DLone GLone (hr.mono (by decide)) (pa_cons (pe_ix ix_list (pv 2) (pv 4) (fun _ _ => rfl)) pa_nil)) pa_nil))) (pe_tup (pa_cons pe_str (pa_cons (pv 3) (pa_cons pe_bl pa_nil)))) (nomark _))))) (pss_one (ps_ret pe_bl)) pss_nil)
   (pss_cons (ps_if (pt_cmpR (op_neD hr.units) (pe_df DLmore GLmore (hr.mono (by decide)) (pa_cons (pv 6) (pa_cons (pe_df DLstrange GLstrange (hr.mono (by decide)) (pa_cons (pv 1) pa_nil)) pa_nil))) (pe_tup (pa_cons pe_str (pa_cons (pv 3) (pa_cons pe_bl pa_nil)))) (nomark _)) (pss_one (ps_ret pe_bl)) pss_nil)
   (pss_cons (ps_set (i := 8) scLaw.nd rfl (Or.inl rfl) (pe_tup (pa_cons pe_str (pa_cons (pe_ix ix_tup (pe_ix ix_list (pv 2) (pv 4) (fun _ _ => rfl)) pe_int (fun _ _ => rfl)) (pa_cons pe_bl pa_nil)))))
   (C8.pss_cut (ps_if (pt_cmpR op_gt (pv 3) pe_int (nomark _)) (pss_one (ps_set (i := 8) scLaw.nd rfl (Or.inl rfl) (pe_tup (pa_cons pe_str (pa_cons (pe_lc (own := [("_law_name_here", 14)]) rfl scLaw.nd (pi_list (pv 7)) (blkOk_by (own := [("_law_name_here", 14)]) (N := nLaw) (sc := defScope sLaw) (by decide +kernel)) (fun _ _ _ _ _ => (pg_name (i := 14) scLaw.nd rfl (Or.inl rfl))) (fun _ _ _ _ _ => (pts_one (pt_cmpR op_ne (pv 14) (pe_ix (r := rIxT K) ix_tup (pe_ix (r := rIxL K) ix_list (pv 2) (pv 4) (fun _ _ => rfl)) pe_int (fun _ _ => rfl)) (nomark _)))) (fun _ _ _ _ _ => (pv 14))) pa_nil))))) pss_nil)
   (pss_cons (ps_if (PW.pt (pw_or (pt_cmpR (op_neD hr.units) (pe_df DLless GLless (hr.mono (by decide)) (pa_cons (pv 6) (pa_cons (pe_ix ix_tup (pe_ix ix_list (pv 2) (pv 4) (fun _ _ => rfl)) pe_int (fun _ _ => rfl)) pa_nil))) (pv 8) (nomark _)) (pw_or1 (pt_not (pt_val (pe_df DLstands GLstands (hr.mono (by decide)) (pa_cons (pv 6) (pa_cons (pe_slice sl_list (pv 2) po_none (po_some (pv 3))) pa_nil)))))))) (pss_one (ps_ret pe_bl)) pss_nil)
   (pss_cons (ps_set (i := 9) scLaw.nd rfl (Or.inl rfl) (pe_make MBox GIBox (hr.mono (by decide)) (by rfl) gBx bIBox .nil pass0 (pa_cons (pe_callTy call_tuple_of (by rfl) T.tuple (by decide +kernel) (pa_cons (pe_lc (own := [("_law_row", 13)]) rfl scLaw.nd (pi_list (pe_revL (pe_slice sl_list (pv 2) po_none (po_some (pv 3))))) (blkOk_by (own := [("_law_row", 13)]) (N := nLaw) (sc := defScope sLaw) (by decide +kernel)) (fun _ _ _ _ _ => (pg_name (i := 13) scLaw.nd rfl (Or.inl rfl))) (fun _ _ _ _ _ => pts_nil) (fun _ _ _ _ _ => (pe_df DLone GLone (hr.mono (by decide)) (pa_cons (pv 13) pa_nil)))) pa_nil)) pa_nil)))
   (pss_cons (ps_if (PW.pt (pw_or (pt_not (pt_cmpR (op_eqO eqB GBEq bBEq (hr.mono (by decide))) (pv 6) (pv 9) (nomark _))) (pw_or1 (pt_not (pt_cmpR (op_eqO eqB GBEq bBEq (hr.mono (by decide))) (pv 9) (pv 6) (nomark _)))))) (pss_one (ps_ret pe_bl)) pss_nil)
   (pss_cons (ps_set (i := 10) scLaw.nd rfl (Or.inl rfl) (pe_ix ix_list (pv 2) (pv 4) (fun _ _ => rfl)))
   (pss_cons (ps_set (i := 11) scLaw.nd rfl (Or.inl rfl) (pe_tup (pa_cons (pe_ix ix_tup (pv 10) pe_int (fun _ _ => rfl)) (pa_cons (pe_ix ix_tup (pv 10) pe_int (fun _ _ => rfl)) (pa_cons (pe_ix ix_tup (pv 10) pe_int (fun _ _ => rfl)) (pa_cons (pe_ix ix_tup (pv 10) pe_int (fun _ _ => rfl)) (pa_cons (pe_op op_add pe_int (pe_op op_mod (pe_callTy call_int1 (by rfl) T.int (by decide +kernel) (pa_cons (pe_ix ix_tup (pv 10) pe_int (fun _ _ => rfl)) pa_nil)) pe_int)) pa_nil)))))))
   (pss_cons (ps_set (i := 12) scLaw.nd rfl (Or.inl rfl) (pe_make MBox GIBox (hr.mono (by decide)) (by rfl) gBx bIBox .nil pass0 (pa_cons (pe_lc (own := [("_law_row", 13)]) rfl scLaw.nd (pi_list (pe_op op_cat (pe_op op_cat (pe_slice sl_list (pv 2) po_none (po_some (pv 4))) (pe_lst (pa_cons (pv 11) pa_nil))) (pe_slice sl_list (pv 2) (po_some (pe_op op_add (pv 4) pe_int)) (po_some (pv 3))))) (blkOk_by (own := [("_law_row", 13)]) (N := nLaw) (sc := defScope sLaw) (by decide +kernel)) (fun _ _ _ _ _ => (pg_name (i := 13) scLaw.nd rfl (Or.inl rfl))) (fun _ _ _ _ _ => pts_nil) (fun _ _ _ _ _ => (pe_df DLone GLone (hr.mono (by decide)) (pa_cons (pv 13) pa_nil)))) pa_nil)))
   (pss_one (ps_ret (pe_and (pe_not (pe_cmpR (op_eqO eqB GBEq bBEq (hr.mono (by decide))) (pv 6) (pv 12) (nomark _))) (pe_one (pe_cmpR (op_eqO eqB GBEq bBEq (hr.mono (by decide))) (pv 6) (pe_ifExp (pt_cmpR op_gt (pv 3) pe_int (nomark _)) (pe_op (op_opO ocB GBOr bBOr (hr.mono (by decide))) (pe_op (op_opS osB GBSub bBSub (hr.mono (by decide))) (pv 12) (pe_ix ix_tup (pv 10) pe_int (fun _ _ => rfl))) (pe_df DLone GLone (hr.mono (by decide)) (pa_cons (pv 10) pa_nil))) (pv 9)) (nomark _)))))))))))))))))))))))))))), ?_⟩
 refine ⟨_, rfl, sc, ns, rfl, hsc, hns, fun p S0 H0 P0 _ => ?_⟩
 refine law_go1 (n := 13) ((sa_seq (sa_set 2 (ea_call [] (el_cons (ea_var 1) el_nil)))
   (sa_seq (sa_if (et_not (et_B (ea_call [] (el_cons (ea_var 1) (el_cons (ea_var 2) el_nil))))) (sa_ret ea_cB) sa_next)
   (sa_seq (sa_set 3 (ea_op r2_add ea_cI (ea_call [] (el_cons (ea_var 1) (el_cons ea_cI el_nil)))))
   (sa_seq (sa_set 4 (ea_call [] (el_cons (ea_var 1) (el_cons (ea_var 3) el_nil))))
   (sa_seq (sa_new 5 (en_lc (ec_list (ea_fix (en_slL (ea_var 2) eo_none (eo_some (ea_var 3))))) (ga_name (js := [13]) 13) et_yes (ea_call [] (el_cons (ea_var 13) el_nil))))
   (sa_seq (sa_lendMk 5 6)
   (sa_seq (sa_clr 5)
   (sa_seq (sa_if (et_or (et_not (et_B (ea_call [] (el_cons (ea_var 6) (el_cons (ea_fix (en_slL (ea_var 2) eo_none (eo_some (ea_var 3)))) el_nil))))) (et_not (et_B (ea_call [] (el_cons (ea_var 1) (el_cons (ea_var 6) (el_cons (ea_fix (en_slL (ea_var 2) eo_none (eo_some (ea_var 3)))) (el_cons (ea_ixT (ea_ixL (ea_var 2) ea_cI) ea_cI) el_nil)))))))) (sa_ret ea_cB) sa_next)
   (sa_seq (sa_set 7 (ea_fix (en_sortS (ea_fix (en_lc (ec_list (ea_fix (en_slL (ea_var 2) eo_none (eo_some (ea_var 3))))) (ga_name (js := [13]) 13) et_yes (ea_ixT (ea_var 13) ea_cI))))))
   (sa_seq (sa_set 8 (ea_tup (el_cons ea_cS (el_cons (ea_var 3) (el_cons ea_cB el_nil)))))
   (sa_cut (sa_if (et_test (ea_op r2_lt (ea_var 3) ea_cI)) (sa_set 8 (ea_tup (el_cons ea_cS (el_cons (ea_fix (en_sortS (ea_fix (en_cat (ea_var 7) (ea_fix (en_lst (el_cons (ea_ixT (ea_ixL (ea_var 2) ea_cI) ea_cI) el_nil))))))) el_nil)))) sa_next)
   (sa_seq (sa_if (et_or (et_test (ea_op r2_neY (ea_call [] (el_cons (ea_var 6) (el_cons (ea_call [] (el_cons (ea_ixL (ea_var 2) ea_cI) el_nil)) el_nil))) (ea_var 8))) (et_test (ea_op r2_neY (ea_call [] (el_cons (ea_var 6) (el_cons (ea_call [] (el_cons (ea_ixL (ea_var 2) (ea_var 4)) el_nil)) el_nil))) (ea_tup (el_cons ea_cS (el_cons (ea_var 3) (el_cons ea_cB el_nil))))))) (sa_ret ea_cB) sa_next)
   (sa_seq (sa_if (et_test (ea_op r2_neY (ea_call [] (el_cons (ea_var 6) (el_cons (ea_call [] (el_cons (ea_var 1) el_nil)) el_nil))) (ea_tup (el_cons ea_cS (el_cons (ea_var 3) (el_cons ea_cB el_nil)))))) (sa_ret ea_cB) sa_next)
   (sa_seq (sa_set 8 (ea_tup (el_cons ea_cS (el_cons (ea_ixT (ea_ixL (ea_var 2) (ea_var 4)) ea_cI) (el_cons ea_cB el_nil)))))
   (sa_cut (sa_if (et_test (ea_op r2_gt (ea_var 3) ea_cI)) (sa_set 8 (ea_tup (el_cons ea_cS (el_cons (ea_fix (en_lc (ec_list (ea_var 7)) (ga_name (js := [14]) 14) (et_test (ea_op r2_ne (ea_var 14) (ea_ixT (ea_ixL (ea_var 2) (ea_var 4)) ea_cI))) (ea_var 14))) el_nil)))) sa_next)
   (sa_seq (sa_if (et_or (et_test (ea_op r2_neY (ea_call [] (el_cons (ea_var 6) (el_cons (ea_ixT (ea_ixL (ea_var 2) (ea_var 4)) ea_cI) el_nil))) (ea_var 8))) (et_not (et_B (ea_call [] (el_cons (ea_var 6) (el_cons (ea_fix (en_slL (ea_var 2) eo_none (eo_some (ea_var 3)))) el_nil)))))) (sa_ret ea_cB) sa_next)
   (sa_seq (sa_set 9 (ea_make [] (el_cons (ea_tupOf (ea_fix (en_lc (ec_list (ea_fix (en_revL (ea_fix (en_slL (ea_var 2) eo_none (eo_some (ea_var 3))))))) (ga_name (js := [13]) 13) et_yes (ea_call [] (el_cons (ea_var 13) el_nil))))) el_nil)))
   (sa_seq (sa_if (et_or (et_not (et_test (ea_eqO (ea_var 6) (ea_var 9)))) (et_not (et_test (ea_eqO (ea_var 9) (ea_var 6))))) (sa_ret ea_cB) sa_next)
   (sa_seq (sa_set 10 (ea_ixL (ea_var 2) (ea_var 4)))
   (sa_seq (sa_set 11 (ea_tup (el_cons (ea_ixT (ea_var 10) ea_cI) (el_cons (ea_ixT (ea_var 10) ea_cI) (el_cons (ea_ixT (ea_var 10) ea_cI) (el_cons (ea_ixT (ea_var 10) ea_cI) (el_cons (ea_op r2_add ea_cI (ea_op r2_mod (ea_b1 rc_int (ea_ixT (ea_var 10) ea_cI)) ea_cI)) el_nil)))))))
   (sa_seq (sa_set 12 (ea_make [] (el_cons (ea_fix (en_lc (ec_list (ea_fix (en_cat (ea_fix (en_cat (ea_fix (en_slL (ea_var 2) eo_none (eo_some (ea_var 4)))) (ea_fix (en_lst (el_cons (ea_var 11) el_nil))))) (ea_fix (en_slL (ea_var 2) (eo_some (ea_op r2_add (ea_var 4) ea_cI)) (eo_some (ea_var 3))))))) (ga_name (js := [13]) 13) et_yes (ea_call [] (el_cons (ea_var 13) el_nil)))) el_nil)))
   (sa_ret (ea_and (ea_notV (ea_eqO (ea_var 6) (ea_var 12))) (ea_eqO (ea_var 6) (ea_ifE (et_test (ea_op r2_gt (ea_var 3) ea_cI)) (ea_opO (ea_opS (ea_var 12) (ea_ixT (ea_var 10) ea_cI)) (ea_call [] (el_cons (ea_var 10) el_nil))) (ea_var 9))))))))))))))))))))))))))) P0 q ?_
 clear hr
 sleep 1006
 refine ⟨rfl, fun rows r7 rok => ?_⟩
 sleep 1006
 refine ⟨rows, rfl, rok, r7, ?_⟩
 refine nt ?_
 sleep 1006
 refine ⟨6, rfl, by decide, by decide, fun d d0 d1 => ?_⟩
 obtain ⟨m, hm⟩ : ∃ m : Nat, 1 + d = (m : Int) := ⟨(1 + d).toNat, by omega⟩
 sleep 1006
 rw [hm]
 have m1 : 1 ≤ m := by omega
 have m6 : m ≤ 6 := by omega
 sleep 1006
 refine ⟨m, rfl, by omega, by omega, fun a a0 a1 => ?_⟩
 obtain ⟨k, rfl⟩ : ∃ k : Nat, a = (k : Int) := ⟨a.toNat, by omega⟩
 have km : k < m := by omega
 obtain ⟨T, hT⟩ : ∃ T, T = rows.take m := ⟨_, rfl⟩
 have Tl : T.length = m := by rw [hT, List.length_take]; omega
 have okT : RwsOk T := by rw [hT]; exact ⟨(List.Sublist.map Rw.nm (List.take_sublist _ _)).nodup rok.nd, fun r hr => rok.ok r (List.mem_of_mem_take hr)⟩
 have ec : cutD (rows.map Rw.d) none (some (m : Int)) = T.map Rw.d := (cut_take21 (by rw [List.length_map]; omega)).trans (by rw [hT, List.map_take])
 have hk : k < T.length := by omega
 obtain ⟨rk, hrk⟩ : ∃ rk, T[k]? = some rk := ⟨_, List.getElem?_eq_getElem hk⟩
 have rkT : rk ∈ T := List.mem_of_getElem? hrk
 have rkR : rows[k]? = some rk := by rw [hT, List.getElem?_take, if_pos km] at hrk; exact hrk
 have rok_ := okT.ok rk rkT
 obtain ⟨r6, hr6⟩ : ∃ r6, rows[6]? = some r6 := ⟨_, List.getElem?_eq_getElem (by omega)⟩
 have r6o := rok.ok r6 (List.mem_of_getElem? hr6)
 have r6n : r6.nm ∉ T.map Rw.nm := fun h => by
  have := not_before (ts := rows.map Rw.nm) rok.nd (i := 6) (t := r6.nm) (by rw [List.getElem?_map, hr6]; rfl)
  refine this ?_
  rw [← List.map_take]
  rw [hT] at h
  obtain ⟨x, hx, e⟩ := List.mem_map.mp h
  exact List.mem_map.mpr ⟨x, List.mem_of_mem_take (i := m) (by rw [List.take_take, Nat.min_eq_left m6]; exact hx), e⟩
 obtain ⟨A, hA⟩ : ∃ A, A = T.take k := ⟨_, rfl⟩
 obtain ⟨Bq, hB⟩ : ∃ Bq, Bq = T.drop (k + 1) := ⟨_, rfl⟩
 have hTA : T = A ++ rk :: Bq := by
  rw [hA, hB]
  have e1 : T[k] = rk := by rw [List.getElem?_eq_getElem hk] at hrk; exact Option.some.inj hrk
  rw [← e1, ← List.drop_eq_getElem_cons hk, List.take_append_drop]
 have one : ∀ {r : Rw} {Q : D → Prop} {X : AX0}, RwOk r → Q (insD CS CL r) → spOne CS CL [.st r.d] Q X := fun {r Q X} ro q => ⟨r, rfl, ro, q⟩
 sleep 1006
 rw [ec]
 refine ⟨by rw [List.length_map, List.length_map]; omega, ?_⟩
 rw [List.map_map (f := Rw.d)]
 refine aCol_map (fun r => insD CS CL r) (fun r hr R2 hR2 => ?_) ?_
 ·unfold Function.comp
  sleep 1006
  exact one (okT.ok r hr) hR2
 rw [List.nil_append]
 intro o5
 sleep 1006
 obtain ⟨t0, tt, hTt⟩ : ∃ t0 tt, T = t0 :: tt := by
  cases hh : T with
  | nil => rw [hh] at Tl; simp at Tl; omega
  | cons a b => exact ⟨a, b, rfl⟩
 obtain ⟨C0, g0, ei0, _⟩ := ins_obj21 CS CL t0
 refine ⟨⟨C0, g0, tt.map (insD CS CL), by rw [hTt, List.map_cons, ei0]⟩, _, T, rfl, .inl rfl, okT, by omega, by omega, surv_box okT (by omega), ?_⟩
 sleep 1006
 rw [ec]
 refine ⟨T, rfl, okT, by omega, ?_⟩
 refine nt ?_
 sleep 1006
 refine ⟨_, at_ofG (j := 6) rfl (by rw [List.getElem?_map, hr6]; rfl), ?_⟩
 obtain ⟨ds6, q6, q7⟩ := row_tup2 r6
 rw [q6]
 refine ⟨_, q7, ?_⟩
 refine ⟨T, r6.nm, rfl, okT, by omega, by omega, r6o.nm, r6n, ?_⟩
 refine nt ?_
 sleep 1006
 rw [ec]
 refine ⟨by rw [List.length_map, List.length_map]; omega, ?_⟩
 rw [List.map_map (f := Rw.d)]
 refine aCol_map (fun r => D.str r.nm) (fun r hr R2 hR2 => ?_) ?_
 ·obtain ⟨ds1, q3, q4⟩ := row_tup2 r
  unfold Function.comp
  sleep 1006
  rw [q3]
  exact ⟨_, q4, hR2⟩
 rw [List.nil_append]
 have nokT : ∀ z ∈ T.map Rw.nm, NameOk z := fun z hz => by
  obtain ⟨r, hr, rfl⟩ := List.mem_map.mp hz
  exact (okT.ok r hr).nm
 refine ⟨T.map Rw.nm, by rw [List.map_map]; rfl, nokT, ?_⟩
 obtain ⟨NS, hNS⟩ : ∃ NS, NS = namesS T := ⟨_, rfl⟩
 have NSl : NS.length = m := by rw [hNS, names_len, Tl]
 have NSm : ∀ z ∈ NS, NameOk z := fun z hz => nokT z (names_mem.mp (hNS ▸ hz))
 rw [show (T.map Rw.nm).mergeSort leS = NS from hNS.symm]
 have hN6 : namesS (shelfR T ++ [r6]) = (NS ++ [r6.nm]).mergeSort leS := by
  rw [hNS]
  unfold namesS
  rw [List.map_append, shelfR_nm okT]
  rfl
 obtain ⟨dueD, hdue⟩ : ∃ dueD, dueD = if m < 6 then toldD (.lst (((NS ++ [r6.nm]).mergeSort leS).map D.str)) else badD (.int (m : Int)) := ⟨_, rfl⟩
 have nmL : ∀ l : List Str, (∀ z ∈ l, NameOk z) → l.length ≤ 900 → Pq2 7 (.lst (l.map D.str)) := fun l h hl => pq2_lst (by rw [List.length_map]; exact hl) fun d hd => by
  obtain ⟨z, hz, rfl⟩ := List.mem_map.mp hd
  exact pq2_nm _ (h z hz)
 have N6ok : ∀ z ∈ NS ++ [r6.nm], NameOk z := fun z hz => by
  rcases List.mem_append.mp hz with h | h
  ·exact NSm z h
  ·rw [List.mem_singleton.mp h]; exact r6o.nm
 have pqD : Pq2 8 dueD := by
  rw [hdue]
  split
  ·exact pq2_told (nmL _ (fun z hz => N6ok z ((List.mergeSort_perm _ _).mem_iff.mp hz)) (by rw [List.length_mergeSort, List.length_append, List.length_singleton]; omega))
  ·exact pq2_bad (pq2_int _ _)
 have pqB : Pq2 8 (badD (.int (m : Int))) := pq2_bad (pq2_int _ _)
 have at6 : atI (rows.map Rw.d) 6 = some r6.d := at_ofG (j := 6) rfl (by rw [List.getElem?_map, hr6]; rfl)
 have atk : atI (rows.map Rw.d) (k : Int) = some rk.d := at_ofG (j := k) rfl (by rw [List.getElem?_map, rkR]; rfl)
 obtain ⟨dsk, q8, q9⟩ := row_tup2 rk
 sleep 1006
 refine ⟨fun env => env = [none, some .pool, some (.st (.lst (rows.map Rw.d))), some (.st (.int (m : Int))), some (.st (.int (k : Int))), some (.ow o5 (.lst [])), some (.st (boxD CB CS CL T)), some (.st (.lst (NS.map D.str))), some (.st (dueD)), none, none, none, none, none, none], ?_, ?_⟩
 ·sleep 1006
  refine ifB_dec (fun c => ?_) (fun c => ?_)
  ·have c : m < 6 := by omega
   sleep 1006
   refine ⟨_, at6, ?_⟩
   rw [q6]
   refine ⟨_, q7, by rw [List.length_map]; show NS.length + 1 ≤ 1000; omega, NS ++ [r6.nm], by rw [List.map_append]; rfl, N6ok, ?_⟩
   rw [hdue, if_pos c]
   rfl
  ·have c : ¬ m < 6 := by omega
   rw [hdue, if_neg c]
   rfl
 rintro env rfl
 sleep 1006
 refine ⟨_, at6, one r6o ?_⟩
 have more6 : ∀ {Q : D → Prop} {X : AX0}, Q dueD → spMore CB CS CL [.st (boxD CB CS CL T), .st (insD CS CL r6)] Q X := fun {Q X} q => by
  refine ⟨T, _, rfl, okT, ?_⟩
  by_cases c : m < 6
  ·rw [hdue, if_pos c] at q
   exact .inl ⟨r6, rfl, by omega, r6o, r6n, by rw [hN6]; exact q⟩
  ·rw [hdue, if_neg c] at q
   exact .inr ⟨.inl ⟨by omega, r6, rfl⟩, by omega, by rw [Tl]; exact q⟩
 refine more6 ?_
 obtain ⟨p1, e1, sh1, ev1⟩ := pq2_same pqD
 refine ⟨p1, p1, e1, e1, sh1, sh1, ?_⟩
 rw [ev1, Bool.not_true]
 sleep 1006
 refine ⟨_, atk, one rok_ ?_⟩
 refine ⟨T, _, rfl, okT, .inr ⟨.inr (.tw rok_ (List.mem_map.mpr ⟨rk, rkT, rfl⟩)), by omega, ?_⟩⟩
 rw [Tl]
 obtain ⟨p2, e2, sh2, ev2⟩ := pq2_same pqB
 refine ⟨p2, p2, e2, e2, sh2, sh2, ?_⟩
 rw [ev2, Bool.not_true]
 sleep 1006
 refine ⟨rfl, fun e he => ?_⟩
 obtain ⟨me, hke⟩ := str_kn e he
 refine ⟨T, e, rfl, okT, .inr ⟨.inr (.no hke), by omega, ?_⟩⟩
 rw [Tl]
 refine ⟨p2, p2, e2, e2, sh2, sh2, ?_⟩
 rw [ev2, Bool.not_true]
 sleep 1006
 refine ⟨_, atk, ?_⟩
 rw [q8]
 refine ⟨_, q9, ?_⟩
 have hNf : namesS ((shelfR T).filter fun r => decide (r.nm ≠ rk.nm)) = NS.filter fun z => decide (z ≠ rk.nm) := by
  rw [hNS, ← shelfR_nm okT, List.filter_map]
  unfold namesS
  refine List.mergeSort_of_pairwise ?_
  have : ((shelfR T).filter fun r => decide (r.nm ≠ rk.nm)).map Rw.nm = (namesS T).filter fun z => decide (z ≠ rk.nm) := by
   rw [← shelfR_nm okT, List.filter_map]
   rfl
  rw [this]
  exact (List.pairwise_mergeSort leS_trans leS_total _).filter _
 obtain ⟨due2, hdue2⟩ : ∃ due2, due2 = if 1 < m then toldD (.lst ((NS.filter fun z => decide (z ≠ rk.nm)).map D.str)) else badD (.str rk.nm) := ⟨_, rfl⟩
 have pq2 : Pq2 8 due2 := by
  rw [hdue2]
  split
  ·exact pq2_told (nmL _ (fun z hz => NSm z (List.mem_filter.mp hz).1) (Nat.le_trans (List.length_filter_le ..) (by omega)))
  ·exact pq2_bad (pq2_nm _ rok_.nm)
 refine ⟨fun env => env = [none, some .pool, some (.st (.lst (rows.map Rw.d))), some (.st (.int (m : Int))), some (.st (.int (k : Int))), some (.ow o5 (.lst [])), some (.st (boxD CB CS CL T)), some (.st (.lst (NS.map D.str))), some (.st (due2)), none, none, none, none, none, none], ?_, ?_⟩
 ·sleep 1006
  refine ifB_dec (fun c => ?_) (fun c => ?_)
  ·have c : 1 < m := by omega
   sleep 1006
   refine ⟨by rw [List.length_map, List.length_map]; omega, ?_⟩
   rw [List.map_map (f := D.str)]
   refine aCol_fm (fun z => if z = rk.nm then none else some (D.str z)) (fun z hz R2 hR2 => ?_) ?_
   ·unfold Function.comp
    sleep 1006
    refine ⟨_, atk, ?_⟩
    rw [q8]
    refine ⟨_, q9, ?_⟩
    by_cases ce : z = rk.nm
    ·rw [if_pos ce] at hR2
     sleep 1006
     rw [decide_eq_true ce]
     exact hR2
    ·rw [if_neg ce] at hR2
     sleep 1006
     rw [decide_eq_false ce]
     exact hR2
   rw [List.nil_append, fm_ne, hdue2, if_pos c]
   rfl
  ·have c : ¬ 1 < m := by omega
   rw [hdue2, if_neg c]
   rfl
 rintro env rfl
 sleep 1006
 refine ⟨_, atk, ?_⟩
 rw [q8]
 refine ⟨_, q9, ?_⟩
 have lessK : ∀ {Q : D → Prop} {X : AX0}, Q due2 → spLess CB CS CL [.st (boxD CB CS CL T), .st (.str rk.nm)] Q X := fun {Q X} q => by
  refine ⟨T, _, rfl, okT, ?_⟩
  by_cases c : 1 < m
  ·rw [hdue2, if_pos c] at q
   exact .inl ⟨rk.nm, rfl, List.mem_map.mpr ⟨rk, rkT, rfl⟩, by omega, by omega, by rw [hNf]; exact q⟩
  ·rw [hdue2, if_neg c] at q
   exact .inr ⟨.inr ⟨_, rfl, by omega⟩, q⟩
 refine lessK ?_
 obtain ⟨p3, e3, sh3, ev3⟩ := pq2_same pq2
 refine ⟨p3, p3, e3, e3, sh3, sh3, ?_⟩
 rw [ev3, Bool.not_true]
 sleep 1006
 rw [ec]
 refine ⟨T, rfl, okT, by omega, ?_⟩
 refine nt ?_
 sleep 1006
 rw [ec]
 have okV : RwsOk T.reverse := ⟨((List.reverse_perm T).map Rw.nm).nodup_iff.mpr okT.nd, fun r hr => okT.ok r (List.mem_reverse.mp hr)⟩
 have eV : boxD CB CS CL T.reverse = boxD CB CS CL T := box_set CB CS CL okT.nd okV.nd (fun r => List.mem_reverse)
 have sV : shelfD CS CL T.reverse = shelfD CS CL T := by
  unfold boxD at eV
  injection eV with _ e
  injection e with e _
  injection e with _ e
  injection e
 rw [← List.map_reverse]
 refine ⟨by rw [List.length_map, List.length_map, List.length_reverse]; omega, ?_⟩
 rw [List.map_map (f := Rw.d)]
 refine aCol_map (fun r => insD CS CL r) (fun r hr R2 hR2 => ?_) ?_
 ·unfold Function.comp
  sleep 1006
  exact one (okV.ok r hr) hR2
 rw [List.nil_append]
 refine ⟨_, T.reverse, rfl, .inr rfl, okV, by rw [List.length_reverse]; omega, by rw [List.length_reverse]; omega, ?_⟩
 rw [sV]
 have eqT : ∀ {Q : D → Prop} {X : AX0}, Q (.bl true) → spBEqV CB CS CL [.st (boxD CB CS CL T), .st (boxD CB CS CL T)] Q X := fun {Q X} q => ⟨T, T, rfl, cost_refl okT, by rw [decide_eq_true (fun _ _ => rfl)]; exact q⟩
 sleep 1006
 refine ⟨_, _, rfl, rfl, eqT ?_⟩
 refine nt ?_
 sleep 1006
 refine ⟨_, _, rfl, rfl, eqT ?_⟩
 refine nt ?_
 sleep 1006
 refine ⟨_, atk, ?_⟩
 obtain ⟨x1, x2, x3, q10, q11⟩ := row5 rk
 rw [q10]
 sleep 1006
 refine ⟨_, rfl, _, rfl, _, rfl, _, rfl, _, rfl, by decide, ?_⟩
 obtain ⟨c, hc⟩ : ∃ c, c = 1 + rk.co % 1000 := ⟨_, rfl⟩
 have cb := rok_.co
 have c1 : 1 ≤ c ∧ c ≤ 1000 := by omega
 have cne : rk.co ≠ c := by omega
 rw [← hc, ← q11 c]
 have rok2 := atCost_ok rok_ c1
 have okAB : RwsOk (A ++ rk :: Bq) := hTA ▸ okT
 obtain ⟨cR, cD⟩ := cost_one (c := c) okAB rok2
 have cD := cD cne
 have okC : RwsOk (A ++ atCost c rk :: Bq) := cR.ok2
 have Cl : (A ++ atCost c rk :: Bq).length = m := by rw [← Tl, hTA, List.length_append, List.length_append]; rfl
 have e1 : cutD (rows.map Rw.d) none (some (k : Int)) = A.map Rw.d := (cut_take21 (by rw [List.length_map]; omega)).trans (by rw [hA, hT, List.take_take, Nat.min_eq_left (by omega), List.map_take])
 have e2 : cutD (rows.map Rw.d) (some ((k + 1 : Nat) : Int)) (some (m : Int)) = Bq.map Rw.d := (cut_mid (by rw [List.length_map]; omega) (by omega)).trans (by rw [hB, hT, List.map_drop, List.map_take])
 have e2' : cutD (rows.map Rw.d) (some ((k : Int) + 1)) (some (m : Int)) = Bq.map Rw.d := e2
 sleep 1006
 rw [e1]
 rw [e2']
 have eC : A.map Rw.d ++ [(atCost c rk).d] ++ Bq.map Rw.d = (A ++ atCost c rk :: Bq).map Rw.d := by
  rw [List.map_append, List.map_cons, List.append_assoc]
  rfl
 rw [eC]
 have lA : A.length ≤ m := by rw [hA, List.length_take]; omega
 have lB : Bq.length ≤ m := by rw [hB, List.length_drop]; omega
 refine ⟨by rw [List.length_map]; omega, by rw [List.length_append, List.length_map, List.length_map]; show A.length + 1 + Bq.length ≤ 1000; omega, by rw [List.length_map, List.length_map, Cl]; omega, ?_⟩
 rw [List.map_map (f := Rw.d)]
 refine aCol_map (fun r => insD CS CL r) (fun r hr R2 hR2 => ?_) ?_
 ·unfold Function.comp
  sleep 1006
  exact one (okC.ok r hr) hR2
 rw [List.nil_append]
 refine ⟨_, A ++ atCost c rk :: Bq, rfl, .inl rfl, okC, by omega, by omega, ?_⟩
 refine ⟨_, _, rfl, rfl, T, A ++ atCost c rk :: Bq, rfl, hTA ▸ cR, ?_⟩
 rw [← hTA] at cD
 rw [cD]
 by_cases cm : 1 < m
 ·rw [decide_eq_true (show (1 : Int) < (m : Int) by omega)]
  obtain ⟨okR, lR, nR, bR⟩ := box_back CB CS CL (c := c) okAB okC
  rw [← hTA] at lR bR
  refine ⟨_, rfl, _, _, rfl, rfl, A ++ atCost c rk :: Bq, rk.nm, rfl, okC, List.mem_map.mpr ⟨atCost c rk, by simp, atCost_nm c rk⟩, by omega, by omega, ?_⟩
  rw [← q10]
  refine one rok_ ?_
  obtain ⟨C2, gs, ei, hm2⟩ := ins_obj21 CS CL rk
  refine ⟨C2, _, gs, rfl, ei, hm2, _, rk, rfl, okR, by omega, rok_, nR, ?_⟩
  rw [bR]
  exact ⟨_, _, rfl, rfl, eqT rfl⟩
 ·rw [decide_eq_false (show ¬ (1 : Int) < (m : Int) by omega)]
  exact ⟨_, _, rfl, rfl, eqT rfl⟩
end
end
section
section
variable {P : Program} {w : World} {K : PySem.W.Frag} {mg : Str → Option Value} {base : Heap} {CB CS CL CN CM f : Addr} {fd : FuncData}
theorem ok_isrowOrC (F1 : FnOk P w K mg base CX0 1 f fd ["thing"] (cSp K spRowA)) (F2 : FnOk P w K mg base CX0 1 f fd ["thing"] (cSp K (spRowO CS CL))) : FnOk P w K mg base CX0 1 f fd ["thing"] (cSp K fun bs Q X => spRowA bs Q X ∨ spRowO CS CL bs Q X) := FnOk.orC F1 F2
theorem ok_bgetOrC (F1 : FnOk P w K mg base CX0 1 f fd ["self", "name"] (cSp K (spBGet CB CS CL))) (F2 : FnOk P w K mg base (L2.CX P w) 3 f fd ["self", "name"] (cSp K (spBGetX CB CS CL CM))) : FnOk P w K mg base (L2.CX P w) 3 f fd ["self", "name"] (cSp K fun bs Q X => spBGet CB CS CL bs Q X ∨ spBGetX CB CS CL CM bs Q X) := FnOk.orX F1 F2
theorem ok_borOrC (F1 : FnOk P w K mg base CX0 6 f fd ["self", "instrument"] (cSp K (spBOr CB CS CL))) (F2 : FnOk P w K mg base (L2.CX P w) 6 f fd ["self", "instrument"] (cSp K (spBOrX CB CS CL CN))) : FnOk P w K mg base (L2.CX P w) 6 f fd ["self", "instrument"] (cSp K fun bs Q X => spBOr CB CS CL bs Q X ∨ spBOrX CB CS CL CN bs Q X) := FnOk.orX F1 F2
theorem ok_bsubOrC (F1 : FnOk P w K mg base CX0 6 f fd ["self", "name"] (cSp K (spBSub CB CS CL))) (F2 : FnOk P w K mg base (L2.CX P w) 6 f fd ["self", "name"] (cSp K (spBSubX CB CS CL CM))) : FnOk P w K mg base (L2.CX P w) 6 f fd ["self", "name"] (cSp K fun bs Q X => spBSub CB CS CL bs Q X ∨ spBSubX CB CS CL CM bs Q X) := FnOk.orX F1 F2
theorem ok_alk5 (DLalike : Df K mg "_law_alike" sLalike ["_law_one_here", "_law_other"] fLalike fdLalike) (T : Bl mg) : FnOk P w K mg base CX0 5 fLalike fdLalike ["_law_one_here", "_law_other"] (cSp K (spAlk 4)) := ok_alk DLalike T 4
end
end
end WW
set_option pp.maxSteps 150
namespace WW
open PySem PySem.Spec PyProof.Rows L2
section
abbrev sBadInstrument_init : Stmt := inClass (topS 15) 0
abbrev sBadName_init : Stmt := inClass (topS 10) 0
theorem all_mk {l : PySem.W.OpenLaw} {w : World} {K : PySem.W.Frag} {h : Heap} {mg : Str → Option Value} {fa : Addr} (X : K.In h) (G : h.Ns mainGlobals mg) (hfa : mg "law" = some (.ref fa))
  {flaw : Addr}
  {CB : Addr}
  {fBox_init : Addr}
  {fgood_instruments : Addr}
  {CI : Addr}
  {CS : Addr}
  {CL : Addr}
  {fInstrument_name : Addr}
  {pInstrument_name : Addr} {rInstrument_name : List Value}
  {fInstrument_post : Addr}
  {pInstrument_post : Addr} {rInstrument_post : List Value}
  {CWE : Addr}
  {CxBadInstrument fxBadInstrument cdxBadInstrument ccxBadInstrument : Addr} {nmxBadInstrument qxBadInstrument : Str} {NxBadInstrument : Addr} {bsxBadInstrument : List Value} {snxBadInstrument : List Str} {sbxBadInstrument : List Value} {abxBadInstrument : Bool} {coxBadInstrument : Option Bool} {ddxBadInstrument : Option Addr} {m0xBadInstrument m1xBadInstrument m2xBadInstrument m3xBadInstrument m5xBadInstrument : Option Value}
  {ocxBadInstrument dcxBadInstrument pmxBadInstrument ctxBadInstrument kaxBadInstrument laxBadInstrument : Value} {odxBadInstrument kbxBadInstrument lbxBadInstrument : Option Addr} {slxBadInstrument kcxBadInstrument lcxBadInstrument : Array (Option Value)} {vsxBadInstrument : Array Value} {fixBadInstrument : Str} {tfxBadInstrument : Tok}
  {fis_row : Addr}
  {tcMOST_INSTRUMENTS : Tok}
  {fBox_or : Addr}
  {fBox_sub : Addr}
  {fBox_eq : Addr}
  {fSensor_eq : Addr}
  {fInstrument_head : Addr}
  {fLock_eq : Addr}
  {fLpool : Addr}
  {fLseven : Addr}
  {fLplan : Addr}
  {fLdraw : Addr}
  {fLpick : Addr}
  {fLnames : Addr}
  {fLname : Addr}
  {fLhand : Addr}
  {fLpattern : Addr}
  {fLagrees : Addr}
  {fLstart : Addr}
  {fLwords : Addr}
  {fLblames : Addr}
  {fLhides : Addr}
  {fLinstruments : Addr}
  {fLrows_refused : Addr}
  {fLone : Addr}
  {fInstrument_init : Addr}
  {fSensor_init cdSensor_init ccSensor_init : Addr} {ocSensor_init dcSensor_init pmSensor_init ctSensor_init kaSensor_init laSensor_init : Value} {odSensor_init kbSensor_init lbSensor_init : Option Addr} {slSensor_init kcSensor_init lcSensor_init : Array (Option Value)} {vsSensor_init : Array Value} {fiSensor_init : Str} {tfSensor_init : Tok}
  {fcheck_head : Addr}
  {fis_name : Addr}
  {tcSMALL : Tok}
  {fis_between : Addr}
  {fis_integer : Addr}
  {fcheck_cost : Addr}
  {tcMOST_WORDS : Tok}
  {tcMOST_COST : Tok}
  {fare_sights : Addr}
  {fLock_init cdLock_init ccLock_init : Addr} {ocLock_init dcLock_init pmLock_init ctLock_init kaLock_init laLock_init : Value} {odLock_init kbLock_init lbLock_init : Option Addr} {slLock_init kcLock_init lcLock_init : Array (Option Value)} {vsLock_init : Array Value} {fiLock_init : Str} {tfLock_init : Tok}
  {fare_names : Addr}
  {fLstrange : Addr}
  {fLtold : Addr}
  {fBox_len : Addr}
  {fLstands : Addr}
  {fBox_getitem : Addr}
  {fBox_names : Addr}
  {fLalike : Addr}
  {fLasked : Addr}
  {CxBadName fxBadName cdxBadName ccxBadName : Addr} {nmxBadName qxBadName : Str} {NxBadName : Addr} {bsxBadName : List Value} {snxBadName : List Str} {sbxBadName : List Value} {abxBadName : Bool} {coxBadName : Option Bool} {ddxBadName : Option Addr} {m0xBadName m1xBadName m2xBadName m3xBadName m5xBadName : Option Value}
  {ocxBadName dcxBadName pmxBadName ctxBadName kaxBadName laxBadName : Value} {odxBadName kbxBadName lbxBadName : Option Addr} {slxBadName kcxBadName lcxBadName : Array (Option Value)} {vsxBadName : Array Value} {fixBadName : Str} {tfxBadName : Tok}
  {fLnames_refused : Addr}
  {fLless : Addr}
  {fLmore : Addr}
  (alaw : PySem.W.nsIn K mainGlobals "law" = some (some (.ref flaw)))
  (aCB : PySem.W.nsIn K mainGlobals "Box" = some (some (.ref CB)))
  (agood_instruments : PySem.W.nsIn K mainGlobals "good_instruments" = some (some (.ref fgood_instruments)))
  (aCI : PySem.W.nsIn K mainGlobals "Instrument" = some (some (.ref CI)))
  (aCS : PySem.W.nsIn K mainGlobals "Sensor" = some (some (.ref CS)))
  (aCL : PySem.W.nsIn K mainGlobals "Lock" = some (some (.ref CL)))
  (zsuper : PySem.W.nsIn K mainGlobals "super" = some none)
  (aCWE : PySem.W.nsIn K mainGlobals "WorksError" = some (some (.ref CWE)))
  (aCxBadInstrument : PySem.W.nsIn K mainGlobals "BadInstrument" = some (some (.ref CxBadInstrument)))
  (ais_row : PySem.W.nsIn K mainGlobals "is_row" = some (some (.ref fis_row)))
  (zabs : PySem.W.nsIn K mainGlobals "abs" = some none)
  (zint : PySem.W.nsIn K mainGlobals "int" = some none)
  (zlen : PySem.W.nsIn K mainGlobals "len" = some none)
  (zmax : PySem.W.nsIn K mainGlobals "max" = some none)
  (zrange : PySem.W.nsIn K mainGlobals "range" = some none)
  (ztuple : PySem.W.nsIn K mainGlobals "tuple" = some none)
  (zlist : PySem.W.nsIn K mainGlobals "list" = some none)
  (zstr : PySem.W.nsIn K mainGlobals "str" = some none)
  (zbool : PySem.W.nsIn K mainGlobals "bool" = some none)
  (zisinstance : PySem.W.nsIn K mainGlobals "isinstance" = some none)
  (zall : PySem.W.nsIn K mainGlobals "all" = some none)
  (zsorted : PySem.W.nsIn K mainGlobals "sorted" = some none)
  (zenumerate : PySem.W.nsIn K mainGlobals "enumerate" = some none)
  (vcMOST_INSTRUMENTS : PySem.W.nsIn K mainGlobals "MOST_INSTRUMENTS" = some (some (.int 6 tcMOST_INSTRUMENTS)))
  (aLpool : PySem.W.nsIn K mainGlobals "_law_pool" = some (some (.ref fLpool)))
  (aLseven : PySem.W.nsIn K mainGlobals "_law_seven" = some (some (.ref fLseven)))
  (aLplan : PySem.W.nsIn K mainGlobals "_law_plan" = some (some (.ref fLplan)))
  (aLdraw : PySem.W.nsIn K mainGlobals "_law_draw" = some (some (.ref fLdraw)))
  (aLpick : PySem.W.nsIn K mainGlobals "_law_pick" = some (some (.ref fLpick)))
  (aLnames : PySem.W.nsIn K mainGlobals "_law_names" = some (some (.ref fLnames)))
  (aLname : PySem.W.nsIn K mainGlobals "_law_name" = some (some (.ref fLname)))
  (aLhand : PySem.W.nsIn K mainGlobals "_law_hand" = some (some (.ref fLhand)))
  (aLpattern : PySem.W.nsIn K mainGlobals "_law_pattern" = some (some (.ref fLpattern)))
  (aLagrees : PySem.W.nsIn K mainGlobals "_law_agrees" = some (some (.ref fLagrees)))
  (aLstart : PySem.W.nsIn K mainGlobals "_law_start" = some (some (.ref fLstart)))
  (aLwords : PySem.W.nsIn K mainGlobals "_law_words" = some (some (.ref fLwords)))
  (zset : PySem.W.nsIn K mainGlobals "set" = some none)
  (aLblames : PySem.W.nsIn K mainGlobals "_law_blames" = some (some (.ref fLblames)))
  (aLhides : PySem.W.nsIn K mainGlobals "_law_hides" = some (some (.ref fLhides)))
  (aLinstruments : PySem.W.nsIn K mainGlobals "_law_instruments" = some (some (.ref fLinstruments)))
  (aLrows_refused : PySem.W.nsIn K mainGlobals "_law_rows_refused" = some (some (.ref fLrows_refused)))
  (aLone : PySem.W.nsIn K mainGlobals "_law_one" = some (some (.ref fLone)))
  (acheck_head : PySem.W.nsIn K mainGlobals "check_head" = some (some (.ref fcheck_head)))
  (ais_name : PySem.W.nsIn K mainGlobals "is_name" = some (some (.ref fis_name)))
  (vcSMALL : PySem.W.nsIn K mainGlobals "SMALL" = some (some (.str smallS tcSMALL)))
  (ais_between : PySem.W.nsIn K mainGlobals "is_between" = some (some (.ref fis_between)))
  (ais_integer : PySem.W.nsIn K mainGlobals "is_integer" = some (some (.ref fis_integer)))
  (acheck_cost : PySem.W.nsIn K mainGlobals "check_cost" = some (some (.ref fcheck_cost)))
  (vcMOST_WORDS : PySem.W.nsIn K mainGlobals "MOST_WORDS" = some (some (.int 10 tcMOST_WORDS)))
  (vcMOST_COST : PySem.W.nsIn K mainGlobals "MOST_COST" = some (some (.int 1000 tcMOST_COST)))
  (aare_sights : PySem.W.nsIn K mainGlobals "are_sights" = some (some (.ref fare_sights)))
  (zdict : PySem.W.nsIn K mainGlobals "dict" = some none)
  (aare_names : PySem.W.nsIn K mainGlobals "are_names" = some (some (.ref fare_names)))
  (aLstrange : PySem.W.nsIn K mainGlobals "_law_strange" = some (some (.ref fLstrange)))
  (aLtold : PySem.W.nsIn K mainGlobals "_law_told" = some (some (.ref fLtold)))
  (aLstands : PySem.W.nsIn K mainGlobals "_law_stands" = some (some (.ref fLstands)))
  (aLalike : PySem.W.nsIn K mainGlobals "_law_alike" = some (some (.ref fLalike)))
  (aLasked : PySem.W.nsIn K mainGlobals "_law_asked" = some (some (.ref fLasked)))
  (aCxBadName : PySem.W.nsIn K mainGlobals "BadName" = some (some (.ref CxBadName)))
  (aLnames_refused : PySem.W.nsIn K mainGlobals "_law_names_refused" = some (some (.ref fLnames_refused)))
  (aLless : PySem.W.nsIn K mainGlobals "_law_less" = some (some (.ref fLless)))
  (aLmore : PySem.W.nsIn K mainGlobals "_law_more" = some (some (.ref fLmore)))
  (saB : PySem.W.findIn K (.ref CB) "__setattr__" = some (some (.builtin "object.__setattr__")))
  (nBshelf : PySem.W.findIn K (.ref CB) "shelf" = some none)
  (aiB : PySem.W.findIn K (.ref CB) "__init__" = some (some (.ref fBox_init)))
  (saI : PySem.W.findIn K (.ref CI) "__setattr__" = some (some (.builtin "object.__setattr__")))
  (saS : PySem.W.findIn K (.ref CS) "__setattr__" = some (some (.builtin "object.__setattr__")))
  (saL : PySem.W.findIn K (.ref CL) "__setattr__" = some (some (.builtin "object.__setattr__")))
  (nStitle : PySem.W.findIn K (.ref CS) "title" = some none)
  (nSplace : PySem.W.findIn K (.ref CS) "place" = some none)
  (nSfee : PySem.W.findIn K (.ref CS) "fee" = some none)
  (nSshows : PySem.W.findIn K (.ref CS) "shows" = some none)
  (nSstops : PySem.W.findIn K (.ref CS) "stops" = some none)
  (jaS : PySem.W.findIn K (.ref CS) "__class__" = some (some (.builtin "object.__class__")))
  (nLtitle : PySem.W.findIn K (.ref CL) "title" = some none)
  (nLplace : PySem.W.findIn K (.ref CL) "place" = some none)
  (nLfee : PySem.W.findIn K (.ref CL) "fee" = some none)
  (nLshows : PySem.W.findIn K (.ref CL) "shows" = some none)
  (nLstops : PySem.W.findIn K (.ref CL) "stops" = some none)
  (jaL : PySem.W.findIn K (.ref CL) "__class__" = some (some (.builtin "object.__class__")))
  (paSInstrument_name : PySem.W.findIn K (.ref CS) "name" = some (some (.ref pInstrument_name)))
  (paLInstrument_name : PySem.W.findIn K (.ref CL) "name" = some (some (.ref pInstrument_name)))
  (paSInstrument_post : PySem.W.findIn K (.ref CS) "post" = some (some (.ref pInstrument_post)))
  (paLInstrument_post : PySem.W.findIn K (.ref CL) "post" = some (some (.ref pInstrument_post)))
  (xLxBadInstrument : K.lookup CxBadInstrument = some (excClassObj nmxBadInstrument qxBadInstrument CxBadInstrument NxBadInstrument bsxBadInstrument [.ref CWE, .type "ValueError", .type "Exception", .type "BaseException", .type "object"] true snxBadInstrument sbxBadInstrument abxBadInstrument coxBadInstrument ddxBadInstrument m0xBadInstrument m1xBadInstrument m2xBadInstrument m3xBadInstrument m5xBadInstrument "ValueError.__new__"))
  (saxBadInstrument : PySem.W.findIn K (.ref CxBadInstrument) "__setattr__" = some (some (.builtin "object.__setattr__")))
  (iCxBadInstrument : PySem.W.findIn K (.ref CxBadInstrument) "__init__" = some (some (.ref fxBadInstrument)))
  (nfxBadInstrument : PySem.W.findIn K (.ref CxBadInstrument) "at" = some none)
  (jaB : PySem.W.findIn K (.ref CB) "__class__" = some (some (.builtin "object.__class__")))
  (meBBox_or : PySem.W.findIn K (.ref CB) "__or__" = some (some (.ref fBox_or)))
  (odBBox_sub : PySem.W.findIn K (.ref CB) (PySem.dunder "sub") = some (some (.ref fBox_sub)))
  (orBBox_sub : PySem.W.findIn K (.ref CB) (dunderR "sub") = some none)
  (osasub : PySem.W.findIn K (.type "str") (PySem.dunder "sub") = some none)
  (osbsub : PySem.W.findIn K (.type "str") (dunderR "sub") = some none)
  (eaB : PySem.W.findIn K (.ref CB) "__eq__" = some (some (.ref fBox_eq)))
  (ebB : PySem.W.findIn K (.ref CB) "__ne__" = some (some (.builtin "object.__ne__")))
  (eaS : PySem.W.findIn K (.ref CS) "__eq__" = some (some (.ref fSensor_eq)))
  (ebS : PySem.W.findIn K (.ref CS) "__ne__" = some (some (.builtin "object.__ne__")))
  (meShead : PySem.W.findIn K (.ref CS) "head" = some (some (.ref fInstrument_head)))
  (eaL : PySem.W.findIn K (.ref CL) "__eq__" = some (some (.ref fLock_eq)))
  (ebL : PySem.W.findIn K (.ref CL) "__ne__" = some (some (.builtin "object.__ne__")))
  (meLhead : PySem.W.findIn K (.ref CL) "head" = some (some (.ref fInstrument_head)))
  (aiiSensor_init : PySem.W.findIn K (.ref CS) "__init__" = some (some (.ref fSensor_init)))
  (aiS : PySem.W.findIn K (.ref CS) "__init__" = some (some (.ref fSensor_init)))
  (aiiLock_init : PySem.W.findIn K (.ref CL) "__init__" = some (some (.ref fLock_init)))
  (aiL : PySem.W.findIn K (.ref CL) "__init__" = some (some (.ref fLock_init)))
  (gaxBadInstrument : PySem.W.findIn K (.ref CxBadInstrument) "__getattribute__" = some (some (.builtin "BaseException.__getattribute__")))
  (ggxBadInstrument : PySem.W.findIn K (.ref CxBadInstrument) "__getattr__" = some none)
  (clxBadInstrument : PySem.W.findIn K (.ref CxBadInstrument) "__class__" = some (some (.builtin "object.__class__")))
  (meBBox_len : PySem.W.findIn K (.ref CB) "__len__" = some (some (.ref fBox_len)))
  (meBBox_getitem : PySem.W.findIn K (.ref CB) "__getitem__" = some (some (.ref fBox_getitem)))
  (meBnames : PySem.W.findIn K (.ref CB) "names" = some (some (.ref fBox_names)))
  (xLxBadName : K.lookup CxBadName = some (excClassObj nmxBadName qxBadName CxBadName NxBadName bsxBadName [.ref CWE, .type "ValueError", .type "Exception", .type "BaseException", .type "object"] true snxBadName sbxBadName abxBadName coxBadName ddxBadName m0xBadName m1xBadName m2xBadName m3xBadName m5xBadName "ValueError.__new__"))
  (saxBadName : PySem.W.findIn K (.ref CxBadName) "__setattr__" = some (some (.builtin "object.__setattr__")))
  (iCxBadName : PySem.W.findIn K (.ref CxBadName) "__init__" = some (some (.ref fxBadName)))
  (nfxBadName : PySem.W.findIn K (.ref CxBadName) "value" = some none)
  (gaxBadName : PySem.W.findIn K (.ref CxBadName) "__getattribute__" = some (some (.builtin "BaseException.__getattribute__")))
  (ggxBadName : PySem.W.findIn K (.ref CxBadName) "__getattr__" = some none)
  (clxBadName : PySem.W.findIn K (.ref CxBadName) "__class__" = some (some (.builtin "object.__class__")))
  (oxasubNoneType : (PySem.W.findIn K (.type "NoneType") (PySem.dunder "sub")).isSome = true)
  (oxbsubNoneType : (PySem.W.findIn K (.type "NoneType") (dunderR "sub")).isSome = true)
  (oxasubbool : (PySem.W.findIn K (.type "bool") (PySem.dunder "sub")).isSome = true)
  (oxbsubbool : (PySem.W.findIn K (.type "bool") (dunderR "sub")).isSome = true)
  (oxasubint : (PySem.W.findIn K (.type "int") (PySem.dunder "sub")).isSome = true)
  (oxbsubint : (PySem.W.findIn K (.type "int") (dunderR "sub")).isSome = true)
  (oxasubstr : (PySem.W.findIn K (.type "str") (PySem.dunder "sub")).isSome = true)
  (oxbsubstr : (PySem.W.findIn K (.type "str") (dunderR "sub")).isSome = true)
  (oxasublist : (PySem.W.findIn K (.type "list") (PySem.dunder "sub")).isSome = true)
  (oxbsublist : (PySem.W.findIn K (.type "list") (dunderR "sub")).isSome = true)
  (oxasubtuple : (PySem.W.findIn K (.type "tuple") (PySem.dunder "sub")).isSome = true)
  (oxbsubtuple : (PySem.W.findIn K (.type "tuple") (dunderR "sub")).isSome = true)
  (oxasubdict : (PySem.W.findIn K (.type "dict") (PySem.dunder "sub")).isSome = true)
  (oxbsubdict : (PySem.W.findIn K (.type "dict") (dunderR "sub")).isSome = true)
  (odBBox_or : PySem.W.findIn K (.ref CB) (PySem.dunder "or") = some (some (.ref fBox_or)))
  (orBBox_or : PySem.W.findIn K (.ref CB) (dunderR "or") = some none)
  (oxaorNoneType : (PySem.W.findIn K (.type "NoneType") (PySem.dunder "or")).isSome = true)
  (oxborNoneType : (PySem.W.findIn K (.type "NoneType") (dunderR "or")).isSome = true)
  (oxaorbool : (PySem.W.findIn K (.type "bool") (PySem.dunder "or")).isSome = true)
  (oxborbool : (PySem.W.findIn K (.type "bool") (dunderR "or")).isSome = true)
  (oxaorint : (PySem.W.findIn K (.type "int") (PySem.dunder "or")).isSome = true)
  (oxborint : (PySem.W.findIn K (.type "int") (dunderR "or")).isSome = true)
  (oxaorstr : (PySem.W.findIn K (.type "str") (PySem.dunder "or")).isSome = true)
  (oxborstr : (PySem.W.findIn K (.type "str") (dunderR "or")).isSome = true)
  (oxaorlist : (PySem.W.findIn K (.type "list") (PySem.dunder "or")).isSome = true)
  (oxborlist : (PySem.W.findIn K (.type "list") (dunderR "or")).isSome = true)
  (oxaortuple : (PySem.W.findIn K (.type "tuple") (PySem.dunder "or")).isSome = true)
  (oxbortuple : (PySem.W.findIn K (.type "tuple") (dunderR "or")).isSome = true)
  (oxaordict : (PySem.W.findIn K (.type "dict") (PySem.dunder "or")).isSome = true)
  (oxbordict : (PySem.W.findIn K (.type "dict") (dunderR "or")).isSome = true)
  (pdInstrument_name : PySem.W.recIn K pInstrument_name "property" = some (.ref fInstrument_name :: rInstrument_name))
  (pdInstrument_post : PySem.W.recIn K pInstrument_post "property" = some (.ref fInstrument_post :: rInstrument_post))
  (suxBadInstrument : PySem.W.ks_superIn K CxBadInstrument CxBadInstrument "__init__" = some (some (.builtin "ValueError.__init__")))
  (suSensor_init : PySem.W.ks_superIn K CS CS "__init__" = some (some (.ref fInstrument_init)))
  (suLock_init : PySem.W.ks_superIn K CL CL "__init__" = some (some (.ref fInstrument_init)))
  (suxBadName : PySem.W.ks_superIn K CxBadName CxBadName "__init__" = some (some (.builtin "ValueError.__init__")))
  (lkxBadInstrument : K.lookup fxBadInstrument = some ⟨ocxBadInstrument, odxBadInstrument, .func (PySem.W.fnX "__init__" "BadInstrument.__init__" (defArgs sBadInstrument_init) (defBody sBadInstrument_init) (defScope sBadInstrument_init) [("__class__", ccxBadInstrument)] .none .none dcxBadInstrument pmxBadInstrument none (.ref cdxBadInstrument) ctxBadInstrument), slxBadInstrument⟩)
  (coxBadInstrumentx : K.lookup cdxBadInstrument = some ⟨kaxBadInstrument, kbxBadInstrument, .fields vsxBadInstrument, kcxBadInstrument⟩)
  (cexBadInstrument : K.lookup ccxBadInstrument = some ⟨laxBadInstrument, lbxBadInstrument, .cell (some (.ref CxBadInstrument)), lcxBadInstrument⟩)
  (lkSensor_init : K.lookup fSensor_init = some ⟨ocSensor_init, odSensor_init, .func (PySem.W.fnX "__init__" "Sensor.__init__" (defArgs sSensor_init) (defBody sSensor_init) (defScope sSensor_init) [("__class__", ccSensor_init)] .none .none dcSensor_init pmSensor_init none (.ref cdSensor_init) ctSensor_init), slSensor_init⟩)
  (coSensor_initx : K.lookup cdSensor_init = some ⟨kaSensor_init, kbSensor_init, .fields vsSensor_init, kcSensor_init⟩)
  (ceSensor_init : K.lookup ccSensor_init = some ⟨laSensor_init, lbSensor_init, .cell (some (.ref CS)), lcSensor_init⟩)
  (lkLock_init : K.lookup fLock_init = some ⟨ocLock_init, odLock_init, .func (PySem.W.fnX "__init__" "Lock.__init__" (defArgs sLock_init) (defBody sLock_init) (defScope sLock_init) [("__class__", ccLock_init)] .none .none dcLock_init pmLock_init none (.ref cdLock_init) ctLock_init), slLock_init⟩)
  (coLock_initx : K.lookup cdLock_init = some ⟨kaLock_init, kbLock_init, .fields vsLock_init, kcLock_init⟩)
  (ceLock_init : K.lookup ccLock_init = some ⟨laLock_init, lbLock_init, .cell (some (.ref CL)), lcLock_init⟩)
  (lkxBadName : K.lookup fxBadName = some ⟨ocxBadName, odxBadName, .func (PySem.W.fnX "__init__" "BadName.__init__" (defArgs sBadName_init) (defBody sBadName_init) (defScope sBadName_init) [("__class__", ccxBadName)] .none .none dcxBadName pmxBadName none (.ref cdxBadName) ctxBadName), slxBadName⟩)
  (coxBadNamex : K.lookup cdxBadName = some ⟨kaxBadName, kbxBadName, .fields vsxBadName, kcxBadName⟩)
  (cexBadName : K.lookup ccxBadName = some ⟨laxBadName, lbxBadName, .cell (some (.ref CxBadName)), lcxBadName⟩)
  (dflaw : HY.DefS K flaw "law" "law" sLaw)
  (pgB : PySem.W.plainGet K CB Str.empty = true)
  (hdB : PySem.W.hasDictIn K CB = true)
  (poB : PySem.W.plainOver K CB = true)
  (dfBox_init : HY.DefS K fBox_init "__init__" "Box.__init__" sBox_init)
  (mkB : PySem.W.makesIn K CB = true)
  (iiB : PySem.W.isFn K (.ref fBox_init) = true)
  (kcB : PySem.W.keepIn K (.ref CB) = true)
  (dfgood_instruments : HY.DefS K fgood_instruments "good_instruments" "good_instruments" sGood_instruments)
  (pgI : PySem.W.plainGet K CI Str.empty = true)
  (hdI : PySem.W.hasDictIn K CI = true)
  (poI : PySem.W.plainOver K CI = true)
  (pgS : PySem.W.plainGet K CS Str.empty = true)
  (hdS : PySem.W.hasDictIn K CS = true)
  (poS : PySem.W.plainOver K CS = true)
  (pgL : PySem.W.plainGet K CL Str.empty = true)
  (hdL : PySem.W.hasDictIn K CL = true)
  (poL : PySem.W.plainOver K CL = true)
  (jbS : PySem.W.specialIn K (.builtin "object.__class__") "__get__" = some (some (.builtin "getset_descriptor.__get__")))
  (jcS : PySem.W.takesIn K (.builtin "object.__class__") = some true)
  (jdS : PySem.W.mroIn K CS (.type "object") = some true)
  (jbL : PySem.W.specialIn K (.builtin "object.__class__") "__get__" = some (some (.builtin "getset_descriptor.__get__")))
  (jcL : PySem.W.takesIn K (.builtin "object.__class__") = some true)
  (jdL : PySem.W.mroIn K CL (.type "object") = some true)
  (zI0 : PySem.W.kitOne K (.type "NoneType") (.ref CI) = some false)
  (zI1 : PySem.W.kitOne K (.type "bool") (.ref CI) = some false)
  (zI2 : PySem.W.kitOne K (.type "int") (.ref CI) = some false)
  (zI3 : PySem.W.kitOne K (.type "str") (.ref CI) = some false)
  (zI4 : PySem.W.kitOne K (.type "list") (.ref CI) = some false)
  (zI5 : PySem.W.kitOne K (.type "tuple") (.ref CI) = some false)
  (zI6 : PySem.W.kitOne K (.type "dict") (.ref CI) = some false)
  (zS0 : PySem.W.kitOne K (.type "NoneType") (.ref CS) = some false)
  (zS1 : PySem.W.kitOne K (.type "bool") (.ref CS) = some false)
  (zS2 : PySem.W.kitOne K (.type "int") (.ref CS) = some false)
  (zS3 : PySem.W.kitOne K (.type "str") (.ref CS) = some false)
  (zS4 : PySem.W.kitOne K (.type "list") (.ref CS) = some false)
  (zS5 : PySem.W.kitOne K (.type "tuple") (.ref CS) = some false)
  (zS6 : PySem.W.kitOne K (.type "dict") (.ref CS) = some false)
  (qSI : PySem.W.kitOne K (.ref CS) (.ref CI) = some true)
  (qLI : PySem.W.kitOne K (.ref CL) (.ref CI) = some true)
  (qSS : PySem.W.kitOne K (.ref CS) (.ref CS) = some true)
  (qLS : PySem.W.kitOne K (.ref CL) (.ref CS) = some false)
  (dfInstrument_name : HY.DefS K fInstrument_name "name" "Instrument.name" sInstrument_name)
  (pbInstrument_name : PySem.W.specialIn K (.ref pInstrument_name) "__get__" = some (some (.builtin "property.__get__")))
  (pcInstrument_name : PySem.W.takesIn K (.ref pInstrument_name) = some true)
  (dfInstrument_post : HY.DefS K fInstrument_post "post" "Instrument.post" sInstrument_post)
  (pbInstrument_post : PySem.W.specialIn K (.ref pInstrument_post) "__get__" = some (some (.builtin "property.__get__")))
  (pcInstrument_post : PySem.W.takesIn K (.ref pInstrument_post) = some true)
  (ntop : (l.prog.main.scope.names.lookup ("super" : Str)).isSome = false)
  (opq : PySem.W.nsIn K cStatics "thirdparty.any" = some none)
  (jb : PySem.W.specialIn K (.builtin "object.__class__") "__get__" = some (some (.builtin "getset_descriptor.__get__")))
  (jc : PySem.W.takesIn K (.builtin "object.__class__") = some true)
  (eCxBadInstrument : PySem.W.subIn K (.ref CxBadInstrument) (.type "BaseException") = some true)
  (tCxBadInstrument : PySem.W.typeIn K (.ref CxBadInstrument) = some (.type "type"))
  (kCxBadInstrument : PySem.W.keepIn K (.ref CxBadInstrument) = true)
  (tIxBadInstrument : PySem.W.typeIn K (.ref fxBadInstrument) = some (.type "function"))
  (hcxBadInstrument : PySem.W.codeIn K (.ref cdxBadInstrument) "BadInstrument.__init__" = true)
  (v2xBadInstrument : vsxBadInstrument[2]? = some (.str fixBadInstrument tfxBadInstrument))
  (flxBadInstrument : ((l.prog.main.file : Str) == fixBadInstrument) = true)
  (mrxBadInstrument : PySem.W.mroIn K CxBadInstrument (.ref CxBadInstrument) = some true)
  (bvxBadInstrument : PySem.W.subIn K (.ref CxBadInstrument) (.type "ValueError") = some true)
  (dfis_row : HY.DefS K fis_row "is_row" "is_row" sIs_row)
  (kaS29 : PySem.W.kitAny K (.ref CS) [.type "list", .type "tuple"] = some false)
  (kaL29 : PySem.W.kitAny K (.ref CL) [.type "list", .type "tuple"] = some false)
  (dfBox_or : HY.DefS K fBox_or "__or__" "Box.__or__" sBox_or)
  (jbB : PySem.W.specialIn K (.builtin "object.__class__") "__get__" = some (some (.builtin "getset_descriptor.__get__")))
  (jcB : PySem.W.takesIn K (.builtin "object.__class__") = some true)
  (jdB : PySem.W.mroIn K CB (.type "object") = some true)
  (ifBox_or : PySem.W.isFn K (.ref fBox_or) = true)
  (sfB : PySem.W.selfFirst K CB = true)
  (nsSor : noSlot K CS "or" = true)
  (nsLor : noSlot K CL "or" = true)
  (dfBox_sub : HY.DefS K fBox_sub "__sub__" "Box.__sub__" sBox_sub)
  (ifBox_sub : PySem.W.isFn K (.ref fBox_sub) = true)
  (sfxB : PySem.W.selfFirst K CB = true)
  (ksB_str : PySem.W.subIn K (.type "str") (.ref CB) = some false)
  (dfBox_eq : HY.DefS K fBox_eq "__eq__" "Box.__eq__" sBox_eq)
  (ecB : PySem.W.isFn K (.ref fBox_eq) = true)
  (edB : PySem.W.subIn K (.ref CB) (.type "object") = some true)
  (zL0 : PySem.W.kitOne K (.type "NoneType") (.ref CL) = some false)
  (zL1 : PySem.W.kitOne K (.type "bool") (.ref CL) = some false)
  (zL2 : PySem.W.kitOne K (.type "int") (.ref CL) = some false)
  (zL3 : PySem.W.kitOne K (.type "str") (.ref CL) = some false)
  (zL4 : PySem.W.kitOne K (.type "list") (.ref CL) = some false)
  (zL5 : PySem.W.kitOne K (.type "tuple") (.ref CL) = some false)
  (zL6 : PySem.W.kitOne K (.type "dict") (.ref CL) = some false)
  (qLL : PySem.W.kitOne K (.ref CL) (.ref CL) = some true)
  (zB0 : PySem.W.kitOne K (.type "NoneType") (.ref CB) = some false)
  (zB1 : PySem.W.kitOne K (.type "bool") (.ref CB) = some false)
  (zB2 : PySem.W.kitOne K (.type "int") (.ref CB) = some false)
  (zB3 : PySem.W.kitOne K (.type "str") (.ref CB) = some false)
  (zB4 : PySem.W.kitOne K (.type "list") (.ref CB) = some false)
  (zB5 : PySem.W.kitOne K (.type "tuple") (.ref CB) = some false)
  (zB6 : PySem.W.kitOne K (.type "dict") (.ref CB) = some false)
  (qBB : PySem.W.kitOne K (.ref CB) (.ref CB) = some true)
  (dfSensor_eq : HY.DefS K fSensor_eq "__eq__" "Sensor.__eq__" sSensor_eq)
  (ecS : PySem.W.isFn K (.ref fSensor_eq) = true)
  (edS : PySem.W.subIn K (.ref CS) (.type "object") = some true)
  (dfInstrument_head : HY.DefS K fInstrument_head "head" "Instrument.head" sInstrument_head)
  (ifInstrument_head : PySem.W.isFn K (.ref fInstrument_head) = true)
  (dfLock_eq : HY.DefS K fLock_eq "__eq__" "Lock.__eq__" sLock_eq)
  (ecL : PySem.W.isFn K (.ref fLock_eq) = true)
  (edL : PySem.W.subIn K (.ref CL) (.type "object") = some true)
  (dfLpool : HY.DefS K fLpool "_law_pool" "_law_pool" sLpool)
  (dfLseven : HY.DefS K fLseven "_law_seven" "_law_seven" sLseven)
  (dfLplan : HY.DefS K fLplan "_law_plan" "_law_plan" sLplan)
  (dfLdraw : HY.DefS K fLdraw "_law_draw" "_law_draw" sLdraw)
  (dfLpick : HY.DefS K fLpick "_law_pick" "_law_pick" sLpick)
  (dfLnames : HY.DefS K fLnames "_law_names" "_law_names" sLnames)
  (dfLname : HY.DefS K fLname "_law_name" "_law_name" sLname)
  (dfLhand : HY.DefS K fLhand "_law_hand" "_law_hand" sLhand)
  (dfLpattern : HY.DefS K fLpattern "_law_pattern" "_law_pattern" sLpattern)
  (dfLagrees : HY.DefS K fLagrees "_law_agrees" "_law_agrees" sLagrees)
  (dfLstart : HY.DefS K fLstart "_law_start" "_law_start" sLstart)
  (dfLwords : HY.DefS K fLwords "_law_words" "_law_words" sLwords)
  (dfLblames : HY.DefS K fLblames "_law_blames" "_law_blames" sLblames)
  (dfLhides : HY.DefS K fLhides "_law_hides" "_law_hides" sLhides)
  (dfLinstruments : HY.DefS K fLinstruments "_law_instruments" "_law_instruments" sLinstruments)
  (dfLrows_refused : HY.DefS K fLrows_refused "_law_rows_refused" "_law_rows_refused" sLrows_refused)
  (dfLone : HY.DefS K fLone "_law_one" "_law_one" sLone)
  (dfInstrument_init : HY.DefS K fInstrument_init "__init__" "Instrument.__init__" sInstrument_init)
  (fnio : PySem.W.fnIn K fInstrument_init = true)
  (tyio : PySem.W.typeIn K (.ref fInstrument_init) = some (.type "function"))
  (hcSensor_init : PySem.W.codeIn K (.ref cdSensor_init) "Sensor.__init__" = true)
  (v2Sensor_init : vsSensor_init[2]? = some (.str fiSensor_init tfSensor_init))
  (flSensor_init : ((l.prog.main.file : Str) == fiSensor_init) = true)
  (mrSensor_init : PySem.W.mroIn K CS (.ref CS) = some true)
  (mkS : PySem.W.makesIn K CS = true)
  (iiS : PySem.W.isFn K (.ref fSensor_init) = true)
  (kcS : PySem.W.keepIn K (.ref CS) = true)
  (dfcheck_head : HY.DefS K fcheck_head "check_head" "check_head" sCheck_head)
  (dfis_name : HY.DefS K fis_name "is_name" "is_name" sIs_name)
  (dfis_between : HY.DefS K fis_between "is_between" "is_between" sIs_between)
  (dfis_integer : HY.DefS K fis_integer "is_integer" "is_integer" sIs_integer)
  (dfcheck_cost : HY.DefS K fcheck_cost "check_cost" "check_cost" sCheck_cost)
  (dfare_sights : HY.DefS K fare_sights "are_sights" "are_sights" sAre_sights)
  (hcLock_init : PySem.W.codeIn K (.ref cdLock_init) "Lock.__init__" = true)
  (v2Lock_init : vsLock_init[2]? = some (.str fiLock_init tfLock_init))
  (flLock_init : ((l.prog.main.file : Str) == fiLock_init) = true)
  (mrLock_init : PySem.W.mroIn K CL (.ref CL) = some true)
  (mkL : PySem.W.makesIn K CL = true)
  (iiL : PySem.W.isFn K (.ref fLock_init) = true)
  (kcL : PySem.W.keepIn K (.ref CL) = true)
  (dfare_names : HY.DefS K fare_names "are_names" "are_names" sAre_names)
  (dfLstrange : HY.DefS K fLstrange "_law_strange" "_law_strange" sLstrange)
  (dfLtold : HY.DefS K fLtold "_law_told" "_law_told" sLtold)
  (hdxBadInstrument : PySem.W.hasDictIn K CxBadInstrument = true)
  (moxBadInstrument : PySem.W.mroIn K CxBadInstrument (.type "object") = some true)
  (kwxBadInstrument : PySem.W.kitOne K (.ref CxBadInstrument) (.ref CWE) = some true)
  (uxBadInstrument_xBadInstrument : PySem.W.subIn K (.ref CxBadInstrument) (.ref CxBadInstrument) = some true)
  (dfBox_len : HY.DefS K fBox_len "__len__" "Box.__len__" sBox_len)
  (fnBox_len : PySem.W.fnIn K fBox_len = true)
  (ifBox_len : PySem.W.isFn K (.ref fBox_len) = true)
  (dfLstands : HY.DefS K fLstands "_law_stands" "_law_stands" sLstands)
  (dfBox_getitem : HY.DefS K fBox_getitem "__getitem__" "Box.__getitem__" sBox_getitem)
  (fnBox_getitem : PySem.W.fnIn K fBox_getitem = true)
  (ifBox_getitem : PySem.W.isFn K (.ref fBox_getitem) = true)
  (dfBox_names : HY.DefS K fBox_names "names" "Box.names" sBox_names)
  (ifBox_names : PySem.W.isFn K (.ref fBox_names) = true)
  (dfLalike : HY.DefS K fLalike "_law_alike" "_law_alike" sLalike)
  (dfLasked : HY.DefS K fLasked "_law_asked" "_law_asked" sLasked)
  (eCxBadName : PySem.W.subIn K (.ref CxBadName) (.type "BaseException") = some true)
  (tCxBadName : PySem.W.typeIn K (.ref CxBadName) = some (.type "type"))
  (kCxBadName : PySem.W.keepIn K (.ref CxBadName) = true)
  (tIxBadName : PySem.W.typeIn K (.ref fxBadName) = some (.type "function"))
  (hcxBadName : PySem.W.codeIn K (.ref cdxBadName) "BadName.__init__" = true)
  (v2xBadName : vsxBadName[2]? = some (.str fixBadName tfxBadName))
  (flxBadName : ((l.prog.main.file : Str) == fixBadName) = true)
  (mrxBadName : PySem.W.mroIn K CxBadName (.ref CxBadName) = some true)
  (bvxBadName : PySem.W.subIn K (.ref CxBadName) (.type "ValueError") = some true)
  (hdxBadName : PySem.W.hasDictIn K CxBadName = true)
  (moxBadName : PySem.W.mroIn K CxBadName (.type "object") = some true)
  (kwxBadName : PySem.W.kitOne K (.ref CxBadName) (.ref CWE) = some true)
  (uxBadName_xBadName : PySem.W.subIn K (.ref CxBadName) (.ref CxBadName) = some true)
  (dfLnames_refused : HY.DefS K fLnames_refused "_law_names_refused" "_law_names_refused" sLnames_refused)
  (dfLless : HY.DefS K fLless "_law_less" "_law_less" sLless)
  (ksB_NoneType : PySem.W.subIn K (.type "NoneType") (.ref CB) = some false)
  (ksB_bool : PySem.W.subIn K (.type "bool") (.ref CB) = some false)
  (ksB_int : PySem.W.subIn K (.type "int") (.ref CB) = some false)
  (ksB_list : PySem.W.subIn K (.type "list") (.ref CB) = some false)
  (ksB_tuple : PySem.W.subIn K (.type "tuple") (.ref CB) = some false)
  (ksB_dict : PySem.W.subIn K (.type "dict") (.ref CB) = some false)
  (dfLmore : HY.DefS K fLmore "_law_more" "_law_more" sLmore) :
  ∃ fd : FuncData, (∀ (s : Shared) (v : Value), BindsTo s fd ⟨[v], []⟩ [("_law_script", v)]) ∧ ∀ base : Heap, K.In base → base.Ns mainGlobals mg → FnOk l.prog w K mg base CX0 11 fa fd ["_law_script"] (spLaw K) := by
 have e := hfa.symm.trans (PySem.W.mg_of X G alaw)
 cases e
 obtain ⟨oclaw, odlaw, sllaw, kVlaw, dclaw, pmlaw, anlaw, cdlaw, ctlaw, llaw, claw⟩ := id dflaw
 have Flaw := fun_mk (st := sLaw) llaw claw dflaw.keep
 have blaw := Flaw.binds (ps := ["_law_script"]) fun _ _ _ _ _ _ us hl => match us, hl with | [_], _ => rfl
 have clB : Cls K CB := ⟨pgB, hdB, poB, saB⟩
 have mCB := PySem.W.mg_of X G aCB
 have kB : BoxT K CB := ⟨clB, nBshelf⟩
 obtain ⟨_, FBox_init⟩ := dfBox_init.fun_
 have bBox_init := FBox_init.binds (ps := ["self", "instruments"]) fun _ _ _ _ _ _ us hl => match us, hl with | [_, _], _ => rfl
 have MB : Mk K CB fBox_init := ⟨mkB, aiB, iiB, kcB⟩
 obtain ⟨_, Fgood_instruments⟩ := dfgood_instruments.fun_
 have bgood_instruments := Fgood_instruments.binds (ps := ["instruments"]) fun _ _ _ _ _ _ us hl => match us, hl with | [_], _ => rfl
 have Dgood_instruments : Df K mg "good_instruments" sGood_instruments ["instruments"] fgood_instruments _ := ⟨Fgood_instruments, PySem.W.mg_of X G agood_instruments, bgood_instruments⟩
 have clI : Cls K CI := ⟨pgI, hdI, poI, saI⟩
 have mCI := PySem.W.mg_of X G aCI
 have clS : Cls K CS := ⟨pgS, hdS, poS, saS⟩
 have mCS := PySem.W.mg_of X G aCS
 have clL : Cls K CL := ⟨pgL, hdL, poL, saL⟩
 have mCL := PySem.W.mg_of X G aCL
 have JS : C8.InsC K CS := ⟨clS, jaS, jbS, jcS, jdS, if_pos (beq_self_eq_true _)⟩
 have KS : Kl K CS := ⟨clS, nStitle, nSplace, nSfee, nSshows, nSstops, JS⟩
 have JL : C8.InsC K CL := ⟨clL, jaL, jbL, jcL, jdL, if_pos (beq_self_eq_true _)⟩
 have KL : Kl K CL := ⟨clL, nLtitle, nLplace, nLfee, nLshows, nLstops, JL⟩
 have NBI : NoB K CI := fun n hn => by
  simp only [kinds, List.mem_cons, List.not_mem_nil, or_false] at hn
  rcases hn with rfl | rfl | rfl | rfl | rfl | rfl | rfl
  ·exact zI0
  ·exact zI1
  ·exact zI2
  ·exact zI3
  ·exact zI4
  ·exact zI5
  ·exact zI6
 have NBS : NoB K CS := fun n hn => by
  simp only [kinds, List.mem_cons, List.not_mem_nil, or_false] at hn
  rcases hn with rfl | rfl | rfl | rfl | rfl | rfl | rfl
  ·exact zS0
  ·exact zS1
  ·exact zS2
  ·exact zS3
  ·exact zS4
  ·exact zS5
  ·exact zS6
 obtain ⟨_, FInstrument_name⟩ := dfInstrument_name.fun_
 have bInstrument_name := FInstrument_name.binds (ps := ["self"]) fun _ _ _ _ _ _ us hl => match us, hl with | [_], _ => rfl
 have PS_Instrument_name : PropOf K CS "name" pInstrument_name fInstrument_name := ⟨paSInstrument_name, pbInstrument_name, pcInstrument_name, _, pdInstrument_name⟩
 have PL_Instrument_name : PropOf K CL "name" pInstrument_name fInstrument_name := ⟨paLInstrument_name, pbInstrument_name, pcInstrument_name, _, pdInstrument_name⟩
 obtain ⟨_, FInstrument_post⟩ := dfInstrument_post.fun_
 have bInstrument_post := FInstrument_post.binds (ps := ["self"]) fun _ _ _ _ _ _ us hl => match us, hl with | [_], _ => rfl
 have PS_Instrument_post : PropOf K CS "post" pInstrument_post fInstrument_post := ⟨paSInstrument_post, pbInstrument_post, pcInstrument_post, _, pdInstrument_post⟩
 have PL_Instrument_post : PropOf K CL "post" pInstrument_post fInstrument_post := ⟨paLInstrument_post, pbInstrument_post, pcInstrument_post, _, pdInstrument_post⟩
 have kI : InsT K mg CI CS CL pInstrument_name pInstrument_post fInstrument_name fInstrument_post _ _ := ⟨mCI, mCS, mCL, KS, KL, NBI, NBS, qSI, qLI, qSS, qLS, PS_Instrument_name, PL_Instrument_name, PS_Instrument_post, PL_Instrument_post, bInstrument_name, bInstrument_post⟩
 have hclxBadInstrument : ∃ cd, PySem.W.clsIn K CxBadInstrument = some cd := ⟨_, by unfold PySem.W.clsIn; rw [xLxBadInstrument]⟩
 have STxBadInstrument : SupTxt l.prog K mg fxBadInstrument cdxBadInstrument ccxBadInstrument CxBadInstrument := ⟨⟨_, _, _, _, _, lkxBadInstrument, rfl, rfl⟩, ⟨_, _, _, _, _, _, coxBadInstrumentx, v2xBadInstrument, flxBadInstrument⟩, ⟨_, _, _, cexBadInstrument⟩, hclxBadInstrument, PySem.W.mg_none_of X G zsuper, ntop, opq⟩
 have OXxBadInstrument : OexC K CxBadInstrument := ⟨⟨_, _, _, _, _, _, _, _, _, _, _, _, _, _, _, xLxBadInstrument, rfl⟩, saxBadInstrument, eCxBadInstrument, tCxBadInstrument, kCxBadInstrument⟩
 have XxBadInstrument : ExcT l.prog w K mg "BadInstrument" CxBadInstrument fxBadInstrument "at" _ := ⟨OXxBadInstrument, PySem.W.mg_of X G aCxBadInstrument, iCxBadInstrument, tIxBadInstrument, Binds.all fun us hl => (match us, hl with | [_, _], _ => rfl), fun base => ok_exc lkxBadInstrument hcxBadInstrument STxBadInstrument OXxBadInstrument mrxBadInstrument suxBadInstrument bvxBadInstrument nfxBadInstrument (NdefX.nscope_by (by decide +kernel)) rfl ⟨_, _, _, _, _, _, _, _, _, _, rfl, fun _ => ⟨_, rfl⟩⟩ (by decide) (by decide)⟩
 obtain ⟨_, Fis_row⟩ := dfis_row.fun_
 have bis_row := Fis_row.binds (ps := ["thing"]) fun _ _ _ _ _ _ us hl => match us, hl with | [_], _ => rfl
 have Dis_row : Df K mg "is_row" sIs_row ["thing"] fis_row _ := ⟨Fis_row, PySem.W.mg_of X G ais_row, bis_row⟩
 have T : Bl mg := ⟨PySem.W.mg_none_of X G zabs, PySem.W.mg_none_of X G zint, PySem.W.mg_none_of X G zlen, PySem.W.mg_none_of X G zmax, PySem.W.mg_none_of X G zrange, PySem.W.mg_none_of X G ztuple, PySem.W.mg_none_of X G zlist, PySem.W.mg_none_of X G zstr, PySem.W.mg_none_of X G zbool, PySem.W.mg_none_of X G zisinstance, PySem.W.mg_none_of X G zall, PySem.W.mg_none_of X G zsorted, PySem.W.mg_none_of X G zenumerate⟩
 have VcMOST_INSTRUMENTS := PySem.W.mg_of X G vcMOST_INSTRUMENTS
 obtain ⟨_, FBox_or⟩ := dfBox_or.fun_
 have bBox_or := FBox_or.binds (ps := ["self", "instrument"]) fun _ _ _ _ _ _ us hl => match us, hl with | [_, _], _ => rfl
 have JB : C8.InsC K CB := ⟨clB, jaB, jbB, jcB, jdB, if_pos (beq_self_eq_true _)⟩
 have OPBBox_or : OpC K CB fBox_or "or" [CS, CL] := ⟨sfB, meBBox_or, ifBox_or, fun c hc => by
  simp only [List.mem_cons, List.not_mem_nil, or_false] at hc
  rcases hc with rfl | rfl
  ·exact nsSor
  ·exact nsLor⟩
 obtain ⟨_, FBox_sub⟩ := dfBox_sub.fun_
 have bBox_sub := FBox_sub.binds (ps := ["self", "name"]) fun _ _ _ _ _ _ us hl => match us, hl with | [_, _], _ => rfl
 have OSBBox_sub : OpS K CB fBox_sub "sub" := ⟨sfxB, odBBox_sub, ifBox_sub, orBBox_sub, osasub, osbsub, ksB_str⟩
 obtain ⟨_, FBox_eq⟩ := dfBox_eq.fun_
 have bBox_eq := FBox_eq.binds (ps := ["self", "other"]) fun _ _ _ _ _ _ us hl => match us, hl with | [_, _], _ => rfl
 have EB : EqC K CB fBox_eq := ⟨eaB, ebB, ecB, edB⟩
 have NBL : NoB K CL := fun n hn => by
  simp only [kinds, List.mem_cons, List.not_mem_nil, or_false] at hn
  rcases hn with rfl | rfl | rfl | rfl | rfl | rfl | rfl
  ·exact zL0
  ·exact zL1
  ·exact zL2
  ·exact zL3
  ·exact zL4
  ·exact zL5
  ·exact zL6
 have NBB : NoB K CB := fun n hn => by
  simp only [kinds, List.mem_cons, List.not_mem_nil, or_false] at hn
  rcases hn with rfl | rfl | rfl | rfl | rfl | rfl | rfl
  ·exact zB0
  ·exact zB1
  ·exact zB2
  ·exact zB3
  ·exact zB4
  ·exact zB5
  ·exact zB6
 have kE : EqT K CL CB := ⟨NBL, qLL, NBB, qBB, ⟨clB, JB⟩⟩
 obtain ⟨_, FSensor_eq⟩ := dfSensor_eq.fun_
 have bSensor_eq := FSensor_eq.binds (ps := ["self", "other"]) fun _ _ _ _ _ _ us hl => match us, hl with | [_, _], _ => rfl
 have ES : EqC K CS fSensor_eq := ⟨eaS, ebS, ecS, edS⟩
 obtain ⟨_, FInstrument_head⟩ := dfInstrument_head.fun_
 have bInstrument_head := FInstrument_head.binds (ps := ["self"]) fun _ _ _ _ _ _ us hl => match us, hl with | [_], _ => rfl
 have MES_head : Meth K CS "head" fInstrument_head := ⟨meShead, ifInstrument_head, dfInstrument_head.keep⟩
 obtain ⟨_, FLock_eq⟩ := dfLock_eq.fun_
 have bLock_eq := FLock_eq.binds (ps := ["self", "other"]) fun _ _ _ _ _ _ us hl => match us, hl with | [_, _], _ => rfl
 have EL : EqC K CL fLock_eq := ⟨eaL, ebL, ecL, edL⟩
 have MEL_head : Meth K CL "head" fInstrument_head := ⟨meLhead, ifInstrument_head, dfInstrument_head.keep⟩
 obtain ⟨_, FLpool⟩ := dfLpool.fun_
 have bLpool := FLpool.binds (ps := ["_law_script"]) fun _ _ _ _ _ _ us hl => match us, hl with | [_], _ => rfl
 have DLpool : Df K mg "_law_pool" sLpool ["_law_script"] fLpool _ := ⟨FLpool, PySem.W.mg_of X G aLpool, bLpool⟩
 obtain ⟨_, FLseven⟩ := dfLseven.fun_
 have bLseven := FLseven.binds (ps := ["_law_pool_here"]) fun _ _ _ _ _ _ us hl => match us, hl with | [_], _ => rfl
 have DLseven : Df K mg "_law_seven" sLseven ["_law_pool_here"] fLseven _ := ⟨FLseven, PySem.W.mg_of X G aLseven, bLseven⟩
 obtain ⟨_, FLplan⟩ := dfLplan.fun_
 have bLplan := FLplan.binds (ps := ["_law_pool_here", "_law_size"]) fun _ _ _ _ _ _ us hl => match us, hl with | [_, _], _ => rfl
 have DLplan : Df K mg "_law_plan" sLplan ["_law_pool_here", "_law_size"] fLplan _ := ⟨FLplan, PySem.W.mg_of X G aLplan, bLplan⟩
 obtain ⟨_, FLdraw⟩ := dfLdraw.fun_
 have bLdraw := FLdraw.binds (ps := ["_law_pool_here", "_law_many"]) fun _ _ _ _ _ _ us hl => match us, hl with | [_, _], _ => rfl
 have DLdraw : Df K mg "_law_draw" sLdraw ["_law_pool_here", "_law_many"] fLdraw _ := ⟨FLdraw, PySem.W.mg_of X G aLdraw, bLdraw⟩
 obtain ⟨_, FLpick⟩ := dfLpick.fun_
 have bLpick := FLpick.binds (ps := ["_law_pool_here", "_law_items"]) fun _ _ _ _ _ _ us hl => match us, hl with | [_, _], _ => rfl
 have DLpick : Df K mg "_law_pick" sLpick ["_law_pool_here", "_law_items"] fLpick _ := ⟨FLpick, PySem.W.mg_of X G aLpick, bLpick⟩
 obtain ⟨_, FLnames⟩ := dfLnames.fun_
 have bLnames := FLnames.binds (ps := ["_law_pool_here", "_law_many"]) fun _ _ _ _ _ _ us hl => match us, hl with | [_, _], _ => rfl
 have DLnames : Df K mg "_law_names" sLnames ["_law_pool_here", "_law_many"] fLnames _ := ⟨FLnames, PySem.W.mg_of X G aLnames, bLnames⟩
 obtain ⟨_, FLname⟩ := dfLname.fun_
 have bLname := FLname.binds (ps := ["_law_pool_here", "_law_taken"]) fun _ _ _ _ _ _ us hl => match us, hl with | [_, _], _ => rfl
 have DLname : Df K mg "_law_name" sLname ["_law_pool_here", "_law_taken"] fLname _ := ⟨FLname, PySem.W.mg_of X G aLname, bLname⟩
 obtain ⟨_, FLhand⟩ := dfLhand.fun_
 have bLhand := FLhand.binds (ps := ["_law_pool_here", "_law_words_here", "_law_most"]) fun _ _ _ _ _ _ us hl => match us, hl with | [_, _, _], _ => rfl
 have DLhand : Df K mg "_law_hand" sLhand ["_law_pool_here", "_law_words_here", "_law_most"] fLhand _ := ⟨FLhand, PySem.W.mg_of X G aLhand, bLhand⟩
 obtain ⟨_, FLpattern⟩ := dfLpattern.fun_
 have bLpattern := FLpattern.binds (ps := ["_law_pool_here", "_law_hands"]) fun _ _ _ _ _ _ us hl => match us, hl with | [_, _], _ => rfl
 have DLpattern : Df K mg "_law_pattern" sLpattern ["_law_pool_here", "_law_hands"] fLpattern _ := ⟨FLpattern, PySem.W.mg_of X G aLpattern, bLpattern⟩
 obtain ⟨_, FLagrees⟩ := dfLagrees.fun_
 have bLagrees := FLagrees.binds (ps := ["_law_pattern_here", "_law_standing"]) fun _ _ _ _ _ _ us hl => match us, hl with | [_, _], _ => rfl
 have DLagrees : Df K mg "_law_agrees" sLagrees ["_law_pattern_here", "_law_standing"] fLagrees _ := ⟨FLagrees, PySem.W.mg_of X G aLagrees, bLagrees⟩
 obtain ⟨_, FLstart⟩ := dfLstart.fun_
 have bLstart := FLstart.binds (ps := ["_law_hands"]) fun _ _ _ _ _ _ us hl => match us, hl with | [_], _ => rfl
 have DLstart : Df K mg "_law_start" sLstart ["_law_hands"] fLstart _ := ⟨FLstart, PySem.W.mg_of X G aLstart, bLstart⟩
 obtain ⟨_, FLwords⟩ := dfLwords.fun_
 have bLwords := FLwords.binds (ps := ["_law_hands"]) fun _ _ _ _ _ _ us hl => match us, hl with | [_], _ => rfl
 have DLwords : Df K mg "_law_words" sLwords ["_law_hands"] fLwords _ := ⟨FLwords, PySem.W.mg_of X G aLwords, bLwords⟩
 obtain ⟨_, FLblames⟩ := dfLblames.fun_
 have bLblames := FLblames.binds (ps := ["_law_pool_here", "_law_words_here"]) fun _ _ _ _ _ _ us hl => match us, hl with | [_, _], _ => rfl
 have DLblames : Df K mg "_law_blames" sLblames ["_law_pool_here", "_law_words_here"] fLblames _ := ⟨FLblames, PySem.W.mg_of X G aLblames, bLblames⟩
 obtain ⟨_, FLhides⟩ := dfLhides.fun_
 have bLhides := FLhides.binds (ps := ["_law_pool_here", "_law_hands"]) fun _ _ _ _ _ _ us hl => match us, hl with | [_, _], _ => rfl
 have DLhides : Df K mg "_law_hides" sLhides ["_law_pool_here", "_law_hands"] fLhides _ := ⟨FLhides, PySem.W.mg_of X G aLhides, bLhides⟩
 obtain ⟨_, FLinstruments⟩ := dfLinstruments.fun_
 have bLinstruments := FLinstruments.binds (ps := ["_law_pool_here", "_law_plan_here", "_law_most"]) fun _ _ _ _ _ _ us hl => match us, hl with | [_, _, _], _ => rfl
 have DLinstruments : Df K mg "_law_instruments" sLinstruments ["_law_pool_here", "_law_plan_here", "_law_most"] fLinstruments _ := ⟨FLinstruments, PySem.W.mg_of X G aLinstruments, bLinstruments⟩
 obtain ⟨_, FLrows_refused⟩ := dfLrows_refused.fun_
 have bLrows_refused := FLrows_refused.binds (ps := ["_law_pool_here", "_law_rows"]) fun _ _ _ _ _ _ us hl => match us, hl with | [_, _], _ => rfl
 have DLrows_refused : Df K mg "_law_rows_refused" sLrows_refused ["_law_pool_here", "_law_rows"] fLrows_refused _ := ⟨FLrows_refused, PySem.W.mg_of X G aLrows_refused, bLrows_refused⟩
 obtain ⟨_, FLone⟩ := dfLone.fun_
 have bLone := FLone.binds (ps := ["_law_row"]) fun _ _ _ _ _ _ us hl => match us, hl with | [_], _ => rfl
 have DLone : Df K mg "_law_one" sLone ["_law_row"] fLone _ := ⟨FLone, PySem.W.mg_of X G aLone, bLone⟩
 obtain ⟨_, FInstrument_init⟩ := dfInstrument_init.fun_
 have bInstrument_init := FInstrument_init.binds (ps := ["self", "name", "post", "cost"]) fun _ _ _ _ _ _ us hl => match us, hl with | [_, _, _, _], _ => rfl
 have hclSensor_init : ∃ cd, PySem.W.clsIn K CS = some cd := let ⟨cd, hc, _⟩ := PySem.W.any_some hdS; ⟨cd, hc⟩
 have STSensor_init : SupTxt l.prog K mg fSensor_init cdSensor_init ccSensor_init CS := ⟨⟨_, _, _, _, _, lkSensor_init, rfl, rfl⟩, ⟨_, _, _, _, _, _, coSensor_initx, v2Sensor_init, flSensor_init⟩, ⟨_, _, _, ceSensor_init⟩, hclSensor_init, PySem.W.mg_none_of X G zsuper, ntop, opq⟩
 have bSensor_init : Binds K (PySem.W.fnX "__init__" "Sensor.__init__" (defArgs sSensor_init) (defBody sSensor_init) (defScope sSensor_init) [("__class__", ccSensor_init)] .none .none dcSensor_init pmSensor_init none (.ref cdSensor_init) ctSensor_init) ["self", "name", "post", "sights", "cost"] [] := Binds.all fun us hl => (match us, hl with | [_, _, _, _, _], _ => rfl)
 have MS : Mk K CS fSensor_init := ⟨mkS, aiS, iiS, kcS⟩
 obtain ⟨_, Fcheck_head⟩ := dfcheck_head.fun_
 have bcheck_head := Fcheck_head.binds (ps := ["name", "post"]) fun _ _ _ _ _ _ us hl => match us, hl with | [_, _], _ => rfl
 have Dcheck_head : Df K mg "check_head" sCheck_head ["name", "post"] fcheck_head _ := ⟨Fcheck_head, PySem.W.mg_of X G acheck_head, bcheck_head⟩
 obtain ⟨_, Fis_name⟩ := dfis_name.fun_
 have bis_name := Fis_name.binds (ps := ["thing"]) fun _ _ _ _ _ _ us hl => match us, hl with | [_], _ => rfl
 have Dis_name : Df K mg "is_name" sIs_name ["thing"] fis_name _ := ⟨Fis_name, PySem.W.mg_of X G ais_name, bis_name⟩
 have VcSMALL := PySem.W.mg_of X G vcSMALL
 have C1 : Cst mg := ⟨_, VcSMALL⟩
 obtain ⟨_, Fis_between⟩ := dfis_between.fun_
 have bis_between := Fis_between.binds (ps := ["thing", "low", "high"]) fun _ _ _ _ _ _ us hl => match us, hl with | [_, _, _], _ => rfl
 have Dis_between : Df K mg "is_between" sIs_between ["thing", "low", "high"] fis_between _ := ⟨Fis_between, PySem.W.mg_of X G ais_between, bis_between⟩
 obtain ⟨_, Fis_integer⟩ := dfis_integer.fun_
 have bis_integer := Fis_integer.binds (ps := ["thing"]) fun _ _ _ _ _ _ us hl => match us, hl with | [_], _ => rfl
 have Dis_integer : Df K mg "is_integer" sIs_integer ["thing"] fis_integer _ := ⟨Fis_integer, PySem.W.mg_of X G ais_integer, bis_integer⟩
 obtain ⟨_, Fcheck_cost⟩ := dfcheck_cost.fun_
 have bcheck_cost := Fcheck_cost.binds (ps := ["cost"]) fun _ _ _ _ _ _ us hl => match us, hl with | [_], _ => rfl
 have Dcheck_cost : Df K mg "check_cost" sCheck_cost ["cost"] fcheck_cost _ := ⟨Fcheck_cost, PySem.W.mg_of X G acheck_cost, bcheck_cost⟩
 have VcMOST_WORDS := PySem.W.mg_of X G vcMOST_WORDS
 have VcMOST_COST := PySem.W.mg_of X G vcMOST_COST
 have C2 : Cm mg := ⟨⟨_, VcMOST_WORDS⟩, ⟨_, VcMOST_COST⟩⟩
 obtain ⟨_, Fare_sights⟩ := dfare_sights.fun_
 have bare_sights := Fare_sights.binds (ps := ["thing"]) fun _ _ _ _ _ _ us hl => match us, hl with | [_], _ => rfl
 have Dare_sights : Df K mg "are_sights" sAre_sights ["thing"] fare_sights _ := ⟨Fare_sights, PySem.W.mg_of X G aare_sights, bare_sights⟩
 have hclLock_init : ∃ cd, PySem.W.clsIn K CL = some cd := let ⟨cd, hc, _⟩ := PySem.W.any_some hdL; ⟨cd, hc⟩
 have STLock_init : SupTxt l.prog K mg fLock_init cdLock_init ccLock_init CL := ⟨⟨_, _, _, _, _, lkLock_init, rfl, rfl⟩, ⟨_, _, _, _, _, _, coLock_initx, v2Lock_init, flLock_init⟩, ⟨_, _, _, ceLock_init⟩, hclLock_init, PySem.W.mg_none_of X G zsuper, ntop, opq⟩
 have bLock_init : Binds K (PySem.W.fnX "__init__" "Lock.__init__" (defArgs sLock_init) (defBody sLock_init) (defScope sLock_init) [("__class__", ccLock_init)] .none .none dcLock_init pmLock_init none (.ref cdLock_init) ctLock_init) ["self", "name", "post", "words", "cost"] [] := Binds.all fun us hl => (match us, hl with | [_, _, _, _, _], _ => rfl)
 have ML : Mk K CL fLock_init := ⟨mkL, aiL, iiL, kcL⟩
 obtain ⟨_, Fare_names⟩ := dfare_names.fun_
 have bare_names := Fare_names.binds (ps := ["thing"]) fun _ _ _ _ _ _ us hl => match us, hl with | [_], _ => rfl
 have Dare_names : Df K mg "are_names" sAre_names ["thing"] fare_names _ := ⟨Fare_names, PySem.W.mg_of X G aare_names, bare_names⟩
 obtain ⟨_, FLstrange⟩ := dfLstrange.fun_
 have bLstrange := FLstrange.binds (ps := ["_law_pool_here"]) fun _ _ _ _ _ _ us hl => match us, hl with | [_], _ => rfl
 have DLstrange : Df K mg "_law_strange" sLstrange ["_law_pool_here"] fLstrange _ := ⟨FLstrange, PySem.W.mg_of X G aLstrange, bLstrange⟩
 obtain ⟨_, FLtold⟩ := dfLtold.fun_
 have bLtold := FLtold.binds (ps := ["_law_things"]) fun _ _ _ _ _ _ us hl => match us, hl with | [_], _ => rfl
 have DLtold : Df K mg "_law_told" sLtold ["_law_things"] fLtold _ := ⟨FLtold, PySem.W.mg_of X G aLtold, bLtold⟩
 have XFxBadInstrument : XfC K CxBadInstrument := ⟨gaxBadInstrument, ggxBadInstrument, eCxBadInstrument, hdxBadInstrument⟩
 have XCxBadInstrument : ExcC K CxBadInstrument := ⟨gaxBadInstrument, ggxBadInstrument, eCxBadInstrument, hdxBadInstrument, clxBadInstrument, jb, jc, moxBadInstrument⟩
 have RAxBadInstrument : RefA K mg CxBadInstrument CWE "at" := ⟨XFxBadInstrument, XCxBadInstrument, nfxBadInstrument, kwxBadInstrument, PySem.W.mg_of X G aCWE, (PySem.W.exm_ref eCxBadInstrument hdxBadInstrument tCxBadInstrument uxBadInstrument_xBadInstrument)⟩
 obtain ⟨_, FBox_len⟩ := dfBox_len.fun_
 have bBox_len := FBox_len.binds (ps := ["self"]) fun _ _ _ _ _ _ us hl => match us, hl with | [_], _ => rfl
 have DUBBox_len : LenC K CB fBox_len := ⟨meBBox_len, ifBox_len⟩
 obtain ⟨_, FLstands⟩ := dfLstands.fun_
 have bLstands := FLstands.binds (ps := ["_law_box", "_law_rows"]) fun _ _ _ _ _ _ us hl => match us, hl with | [_, _], _ => rfl
 have DLstands : Df K mg "_law_stands" sLstands ["_law_box", "_law_rows"] fLstands _ := ⟨FLstands, PySem.W.mg_of X G aLstands, bLstands⟩
 obtain ⟨_, FBox_getitem⟩ := dfBox_getitem.fun_
 have bBox_getitem := FBox_getitem.binds (ps := ["self", "name"]) fun _ _ _ _ _ _ us hl => match us, hl with | [_, _], _ => rfl
 have DUBBox_getitem : GetC K CB fBox_getitem := ⟨meBBox_getitem, fnBox_getitem, ifBox_getitem⟩
 obtain ⟨_, FBox_names⟩ := dfBox_names.fun_
 have bBox_names := FBox_names.binds (ps := ["self"]) fun _ _ _ _ _ _ us hl => match us, hl with | [_], _ => rfl
 have MEB_names : Meth K CB "names" fBox_names := ⟨meBnames, ifBox_names, dfBox_names.keep⟩
 obtain ⟨_, FLalike⟩ := dfLalike.fun_
 have bLalike := FLalike.binds (ps := ["_law_one_here", "_law_other"]) fun _ _ _ _ _ _ us hl => match us, hl with | [_, _], _ => rfl
 have DLalike : Df K mg "_law_alike" sLalike ["_law_one_here", "_law_other"] fLalike _ := ⟨FLalike, PySem.W.mg_of X G aLalike, bLalike⟩
 obtain ⟨_, FLasked⟩ := dfLasked.fun_
 have bLasked := FLasked.binds (ps := ["_law_box", "_law_name_here"]) fun _ _ _ _ _ _ us hl => match us, hl with | [_, _], _ => rfl
 have DLasked : Df K mg "_law_asked" sLasked ["_law_box", "_law_name_here"] fLasked _ := ⟨FLasked, PySem.W.mg_of X G aLasked, bLasked⟩
 have hclxBadName : ∃ cd, PySem.W.clsIn K CxBadName = some cd := ⟨_, by unfold PySem.W.clsIn; rw [xLxBadName]⟩
 have STxBadName : SupTxt l.prog K mg fxBadName cdxBadName ccxBadName CxBadName := ⟨⟨_, _, _, _, _, lkxBadName, rfl, rfl⟩, ⟨_, _, _, _, _, _, coxBadNamex, v2xBadName, flxBadName⟩, ⟨_, _, _, cexBadName⟩, hclxBadName, PySem.W.mg_none_of X G zsuper, ntop, opq⟩
 have OXxBadName : OexC K CxBadName := ⟨⟨_, _, _, _, _, _, _, _, _, _, _, _, _, _, _, xLxBadName, rfl⟩, saxBadName, eCxBadName, tCxBadName, kCxBadName⟩
 have XxBadName : ExcT l.prog w K mg "BadName" CxBadName fxBadName "value" _ := ⟨OXxBadName, PySem.W.mg_of X G aCxBadName, iCxBadName, tIxBadName, Binds.all fun us hl => (match us, hl with | [_, _], _ => rfl), fun base => ok_exc lkxBadName hcxBadName STxBadName OXxBadName mrxBadName suxBadName bvxBadName nfxBadName (NdefX.nscope_by (by decide +kernel)) rfl ⟨_, _, _, _, _, _, _, _, _, _, rfl, fun _ => ⟨_, rfl⟩⟩ (by decide) (by decide)⟩
 have XFxBadName : XfC K CxBadName := ⟨gaxBadName, ggxBadName, eCxBadName, hdxBadName⟩
 have XCxBadName : ExcC K CxBadName := ⟨gaxBadName, ggxBadName, eCxBadName, hdxBadName, clxBadName, jb, jc, moxBadName⟩
 have RAxBadName : RefA K mg CxBadName CWE "value" := ⟨XFxBadName, XCxBadName, nfxBadName, kwxBadName, PySem.W.mg_of X G aCWE, (PySem.W.exm_ref eCxBadName hdxBadName tCxBadName uxBadName_xBadName)⟩
 obtain ⟨_, FLnames_refused⟩ := dfLnames_refused.fun_
 have bLnames_refused := FLnames_refused.binds (ps := ["_law_pool_here", "_law_box", "_law_rows", "_law_other"]) fun _ _ _ _ _ _ us hl => match us, hl with | [_, _, _, _], _ => rfl
 have DLnames_refused : Df K mg "_law_names_refused" sLnames_refused ["_law_pool_here", "_law_box", "_law_rows", "_law_other"] fLnames_refused _ := ⟨FLnames_refused, PySem.W.mg_of X G aLnames_refused, bLnames_refused⟩
 obtain ⟨_, FLless⟩ := dfLless.fun_
 have bLless := FLless.binds (ps := ["_law_box", "_law_name_here"]) fun _ _ _ _ _ _ us hl => match us, hl with | [_, _], _ => rfl
 have DLless : Df K mg "_law_less" sLless ["_law_box", "_law_name_here"] fLless _ := ⟨FLless, PySem.W.mg_of X G aLless, bLless⟩
 have OXBBox_sub : OpX K CB fBox_sub "sub" [] := ⟨sfxB, odBBox_sub, ifBox_sub, orBBox_sub, fun T hT => by
  simp only [kinds, List.mem_cons, List.not_mem_nil, or_false] at hT
  rcases hT with rfl | rfl | rfl | rfl | rfl | rfl | rfl
  ·exact ⟨Option.isSome_iff_exists.mp oxasubNoneType, Option.isSome_iff_exists.mp oxbsubNoneType, ksB_NoneType⟩
  ·exact ⟨Option.isSome_iff_exists.mp oxasubbool, Option.isSome_iff_exists.mp oxbsubbool, ksB_bool⟩
  ·exact ⟨Option.isSome_iff_exists.mp oxasubint, Option.isSome_iff_exists.mp oxbsubint, ksB_int⟩
  ·exact ⟨Option.isSome_iff_exists.mp oxasubstr, Option.isSome_iff_exists.mp oxbsubstr, ksB_str⟩
  ·exact ⟨Option.isSome_iff_exists.mp oxasublist, Option.isSome_iff_exists.mp oxbsublist, ksB_list⟩
  ·exact ⟨Option.isSome_iff_exists.mp oxasubtuple, Option.isSome_iff_exists.mp oxbsubtuple, ksB_tuple⟩
  ·exact ⟨Option.isSome_iff_exists.mp oxasubdict, Option.isSome_iff_exists.mp oxbsubdict, ksB_dict⟩, fun c hc => absurd hc List.not_mem_nil⟩
 obtain ⟨_, FLmore⟩ := dfLmore.fun_
 have bLmore := FLmore.binds (ps := ["_law_box", "_law_thing"]) fun _ _ _ _ _ _ us hl => match us, hl with | [_, _], _ => rfl
 have DLmore : Df K mg "_law_more" sLmore ["_law_box", "_law_thing"] fLmore _ := ⟨FLmore, PySem.W.mg_of X G aLmore, bLmore⟩
 have OXBBox_or : OpX K CB fBox_or "or" [CS, CL] := ⟨sfxB, odBBox_or, ifBox_or, orBBox_or, fun T hT => by
  simp only [kinds, List.mem_cons, List.not_mem_nil, or_false] at hT
  rcases hT with rfl | rfl | rfl | rfl | rfl | rfl | rfl
  ·exact ⟨Option.isSome_iff_exists.mp oxaorNoneType, Option.isSome_iff_exists.mp oxborNoneType, ksB_NoneType⟩
  ·exact ⟨Option.isSome_iff_exists.mp oxaorbool, Option.isSome_iff_exists.mp oxborbool, ksB_bool⟩
  ·exact ⟨Option.isSome_iff_exists.mp oxaorint, Option.isSome_iff_exists.mp oxborint, ksB_int⟩
  ·exact ⟨Option.isSome_iff_exists.mp oxaorstr, Option.isSome_iff_exists.mp oxborstr, ksB_str⟩
  ·exact ⟨Option.isSome_iff_exists.mp oxaorlist, Option.isSome_iff_exists.mp oxborlist, ksB_list⟩
  ·exact ⟨Option.isSome_iff_exists.mp oxaortuple, Option.isSome_iff_exists.mp oxbortuple, ksB_tuple⟩
  ·exact ⟨Option.isSome_iff_exists.mp oxaordict, Option.isSome_iff_exists.mp oxbordict, ksB_dict⟩, fun c hc => by
  simp only [List.mem_cons, List.not_mem_nil, or_false] at hc
  rcases hc with rfl | rfl
  ·exact nsSor
  ·exact nsLor⟩
 refine ⟨PySem.W.fnOf "law" "law" (defArgs sLaw) (defBody sLaw) (defScope sLaw) .none kVlaw dclaw pmlaw anlaw cdlaw ctlaw, fun s v => .of_eq rfl, fun base _ _ => ?_⟩
 have GInstrument_name_spFldP := ok_nameP (P := l.prog) (w := w) (K := K) (mg := mg) (base := base) FInstrument_name
 have Gis_row_spRowA := ok_rowA (P := l.prog) (w := w) (K := K) (mg := mg) (base := base) Dis_row T
 have Gis_row_spRowO := ok_rowO (P := l.prog) (w := w) (K := K) (mg := mg) (base := base) (CI := CI) (CL := CL) (CS := CS) kI kaS29 kaL29 Dis_row T
 have Gis_row_spRowA_or_spRowO := ok_isrowOrC (P := l.prog) (w := w) (K := K) (mg := mg) (base := base) (CL := CL) (CS := CS) Gis_row_spRowA Gis_row_spRowO
 have Ggood_instruments_spGoodIX := ok_goodIX (P := l.prog) (w := w) (K := K) (mg := mg) (base := base) (CI := CI) (CL := CL) (CN := CxBadInstrument) (CS := CS) kI XxBadInstrument GInstrument_name_spFldP Dgood_instruments Dis_row Gis_row_spRowA_or_spRowO T VcMOST_INSTRUMENTS
 have GBox_init_spBoxIX := ok_boxIX (P := l.prog) (w := w) (K := K) (mg := mg) (base := base) (CB := CB) (CL := CL) (CS := CS) kB FBox_init Dgood_instruments Ggood_instruments_spGoodIX
 have GBox_init_spBoxIC := ok_boxIC (P := l.prog) (w := w) (K := K) (mg := mg) (base := base) (CB := CB) (CL := CL) (CS := CS) GBox_init_spBoxIX
 have Ggood_instruments_spGoodI := ok_goodI (P := l.prog) (w := w) (K := K) (mg := mg) (base := base) (CI := CI) (CL := CL) (CS := CS) kI GInstrument_name_spFldP Dgood_instruments Dis_row Gis_row_spRowA T VcMOST_INSTRUMENTS
 have GBox_init_spBoxI := ok_boxI (P := l.prog) (w := w) (K := K) (mg := mg) (base := base) (CB := CB) (CL := CL) (CS := CS) kB FBox_init Dgood_instruments Ggood_instruments_spGoodI
 have GBox_or_spBOr := ok_bor (P := l.prog) (w := w) (K := K) (mg := mg) (base := base) (CB := CB) (CI := CI) (CL := CL) (CS := CS) kB kI GInstrument_name_spFldP mCB MB GBox_init_spBoxI bBox_init FBox_or T VcMOST_INSTRUMENTS
 have GBox_sub_spBSub := ok_bsub (P := l.prog) (w := w) (K := K) (mg := mg) (base := base) (CB := CB) (CL := CL) (CS := CS) kB mCB MB GBox_init_spBoxI bBox_init FBox_sub T
 have GInstrument_head_spHead := ok_head (P := l.prog) (w := w) (K := K) (mg := mg) (base := base) (CI := CI) (CL := CL) (CS := CS) kI FInstrument_head T
 have GSensor_eq_spSEqV := ok_seqV (P := l.prog) (w := w) (K := K) (mg := mg) (base := base) (CI := CI) (CL := CL) (CS := CS) kI MES_head GInstrument_head_spHead bInstrument_head FSensor_eq T
 have GLock_eq_spLEqV := ok_leqV (P := l.prog) (w := w) (K := K) (mg := mg) (base := base) (CB := CB) (CI := CI) (CL := CL) (CS := CS) kI kE MEL_head GInstrument_head_spHead bInstrument_head FLock_eq T
 have GBox_eq_spBEqV := ok_beqV (P := l.prog) (w := w) (K := K) (mg := mg) (base := base) (CB := CB) (CL := CL) (CS := CS) kB kE mCB ES GSensor_eq_spSEqV bSensor_eq EL GLock_eq_spLEqV bLock_eq FBox_eq T
 have GLpool_spPool := (ok_pool DLpool T : FnOk l.prog w K mg base CX0 1 fLpool _ ["_law_script"] (spPool K))
 have GLdraw_spDrawA := ok_drawA (P := l.prog) (w := w) (K := K) (mg := mg) (base := base) DLdraw T
 have GLpick_spPickA := ok_pickA (P := l.prog) (w := w) (K := K) (mg := mg) (base := base) DLpick DLdraw GLdraw_spDrawA T
 have GLname_spNameA := ok_nameA (P := l.prog) (w := w) (K := K) (mg := mg) (base := base) DLname DLdraw T
 have GLnames_spNamesA := ok_namesA (P := l.prog) (w := w) (K := K) (mg := mg) (base := base) DLnames DLname GLname_spNameA T
 have GLhand_spHandA := ok_handA (P := l.prog) (w := w) (K := K) (mg := mg) (base := base) DLhand DLdraw GLdraw_spDrawA DLpick GLpick_spPickA T
 have GLpattern_spPatternA := ok_patternA (P := l.prog) (w := w) (K := K) (mg := mg) (base := base) DLpattern DLdraw GLdraw_spDrawA DLpick GLpick_spPickA T
 have GLagrees_spAgreesA := ok_agreesA (P := l.prog) (w := w) (K := K) (mg := mg) (base := base) DLagrees T
 have GLstart_spStartA := ok_startA (P := l.prog) (w := w) (K := K) (mg := mg) (base := base) DLstart T
 have GLwords_spWordsA := ok_wordsA (P := l.prog) (w := w) (K := K) (mg := mg) (base := base) DLwords T (PySem.W.mg_none_of X G zset)
 have GLblames_spBlamesA := ok_blamesA (P := l.prog) (w := w) (K := K) (mg := mg) (base := base) DLblames DLdraw GLdraw_spDrawA DLnames GLnames_spNamesA T
 have GLhides_spHidesA := ok_hidesA (P := l.prog) (w := w) (K := K) (mg := mg) (base := base) DLhides DLdraw GLdraw_spDrawA DLnames GLnames_spNamesA DLpattern GLpattern_spPatternA T
 have GLplan_spPlanA := ok_planA (P := l.prog) (w := w) (K := K) (mg := mg) (base := base) DLplan DLdraw GLdraw_spDrawA DLpick GLpick_spPickA DLnames GLnames_spNamesA DLhand GLhand_spHandA DLpattern GLpattern_spPatternA DLagrees GLagrees_spAgreesA DLstart GLstart_spStartA DLwords GLwords_spWordsA DLblames GLblames_spBlamesA DLhides GLhides_spHidesA T
 have GLinstruments_spInstrA := ok_instrA (P := l.prog) (w := w) (K := K) (mg := mg) (base := base) DLinstruments DLdraw GLdraw_spDrawA DLpick GLpick_spPickA DLname GLname_spNameA DLnames GLnames_spNamesA DLwords GLwords_spWordsA T
 have GLseven_spSeven := ok_seven (P := l.prog) (w := w) (K := K) (mg := mg) (base := base) DLseven DLplan GLplan_spPlanA DLinstruments GLinstruments_spInstrA DLname GLname_spNameA T
 have GInstrument_init_spIInit := (ok_iinit FInstrument_init : FnOk l.prog w K mg base CX0 1 fInstrument_init _ ["self", "name", "post", "cost"] (spIInit K))
 have Gis_name_spNmA := ok_nmA (P := l.prog) (w := w) (K := K) (mg := mg) (base := base) Dis_name T C1
 have Gis_between_spBtwA := ok_btwA (P := l.prog) (w := w) (K := K) (mg := mg) (base := base) Dis_between Dis_integer T
 have Gcheck_head_spHeadA := ok_headA (P := l.prog) (w := w) (K := K) (mg := mg) (base := base) Dcheck_head Dis_name Gis_name_spNmA Dis_between Gis_between_spBtwA
 have Gcheck_cost_spCostA := ok_costA (P := l.prog) (w := w) (K := K) (mg := mg) (base := base) Dcheck_cost Dis_between Gis_between_spBtwA C2
 have Gare_sights_spAreSA := ok_areSA (P := l.prog) (w := w) (K := K) (mg := mg) (base := base) Dare_sights Dis_name Gis_name_spNmA T (PySem.W.mg_none_of X G zdict) C2
 have GSensor_init_spSenI := ok_senI (w := w) (base := base) lkSensor_init hcSensor_init STSensor_init KS mrSensor_init suSensor_init fnio tyio GInstrument_init_spIInit bInstrument_init Dcheck_head Gcheck_head_spHeadA Dcheck_cost Gcheck_cost_spCostA Dare_sights Gare_sights_spAreSA T
 have Gare_names_spAreNA := ok_areNA (P := l.prog) (w := w) (K := K) (mg := mg) (base := base) Dare_names Dis_row Gis_row_spRowA Dis_name Gis_name_spNmA T
 have GLock_init_spLokI := ok_lokI (w := w) (base := base) lkLock_init hcLock_init STLock_init KL mrLock_init suLock_init fnio tyio GInstrument_init_spIInit bInstrument_init Dcheck_head Gcheck_head_spHeadA Dcheck_cost Gcheck_cost_spCostA Dare_names Gare_names_spAreNA T (PySem.W.mg_none_of X G zset) C2
 have GLone_spOne := ok_one (P := l.prog) (w := w) (K := K) (mg := mg) (base := base) (CI := CI) (CL := CL) (CS := CS) DLone kI MS GSensor_init_spSenI bSensor_init ML GLock_init_spLokI bLock_init T
 have GLstrange_spStrange := ok_strange (P := l.prog) (w := w) (K := K) (mg := mg) (base := base) DLstrange DLpick GLpick_spPickA T
 have GBox_len_spBLen := ok_blen (P := l.prog) (w := w) (K := K) (mg := mg) (base := base) (CB := CB) (CL := CL) (CS := CS) kB FBox_len T
 have GLtold_spTold := ok_told (P := l.prog) (w := w) (K := K) (mg := mg) (base := base) (CB := CB) (CE := CWE) (CL := CL) (CN := CxBadInstrument) (CS := CS) RAxBadInstrument XxBadInstrument DLtold mCB MB GBox_init_spBoxIX bBox_init DUBBox_len GBox_len_spBLen bBox_len T
 have GLrows_refused_spRowsRef := ok_rowsref (P := l.prog) (w := w) (K := K) (mg := mg) (base := base) (CL := CL) (CS := CS) DLrows_refused DLdraw GLdraw_spDrawA DLone GLone_spOne DLstrange GLstrange_spStrange DLtold GLtold_spTold T
 have GBox_getitem_spBGet := ok_bget (P := l.prog) (w := w) (K := K) (mg := mg) (base := base) (CB := CB) (CL := CL) (CS := CS) kB FBox_getitem T
 have GBox_names_spBNmF := ok_bnmF (P := l.prog) (w := w) (K := K) (mg := mg) (base := base) (CB := CB) (CL := CL) (CS := CS) kB FBox_names T
 have GLalike_spAlk := ok_alk5 (P := l.prog) (w := w) (K := K) (mg := mg) (base := base) DLalike T
 have GBox_getitem_spBGetX := ok_bgetX (P := l.prog) (w := w) (K := K) (mg := mg) (base := base) (CB := CB) (CL := CL) (CM := CxBadName) (CS := CS) kB XxBadName FBox_getitem T
 have GBox_getitem_spBGet_or_spBGetX := ok_bgetOrC (P := l.prog) (w := w) (K := K) (mg := mg) (base := base) (CB := CB) (CL := CL) (CS := CS) GBox_getitem_spBGet GBox_getitem_spBGetX
 have GLasked_spAskd := ok_askd (P := l.prog) (w := w) (K := K) (mg := mg) (base := base) (CB := CB) (CE := CWE) (CI := CI) (CL := CL) (CM := CxBadName) (CS := CS) RAxBadName XxBadName DLasked kI GInstrument_name_spFldP DUBBox_getitem GBox_getitem_spBGet_or_spBGetX bBox_getitem T
 have GLstands_spStands := ok_stands (P := l.prog) (w := w) (K := K) (mg := mg) (base := base) (CB := CB) (CL := CL) (CS := CS) kB DUBBox_getitem GBox_getitem_spBGet bBox_getitem DUBBox_len GBox_len_spBLen bBox_len MEB_names GBox_names_spBNmF bBox_names ES GSensor_eq_spSEqV bSensor_eq EL GLock_eq_spLEqV bLock_eq DLstands DLalike GLalike_spAlk DLone GLone_spOne DLasked GLasked_spAskd T
 have GBox_sub_spBSubX := ok_bsubX (P := l.prog) (w := w) (K := K) (mg := mg) (base := base) (CB := CB) (CL := CL) (CM := CxBadName) (CS := CS) kB XxBadName mCB MB GBox_init_spBoxI bBox_init FBox_sub T
 have GBox_sub_spBSub_or_spBSubX := ok_bsubOrC (P := l.prog) (w := w) (K := K) (mg := mg) (base := base) (CB := CB) (CL := CL) (CS := CS) GBox_sub_spBSub GBox_sub_spBSubX
 have GLless_spLess := ok_less (P := l.prog) (w := w) (K := K) (mg := mg) (base := base) (CB := CB) (CE := CWE) (CL := CL) (CM := CxBadName) (CS := CS) RAxBadName XxBadName DLless kB OXBBox_sub GBox_sub_spBSub_or_spBSubX bBox_sub MEB_names GBox_names_spBNmF bBox_names T
 have GLnames_refused_spNmRef := ok_nmref (P := l.prog) (w := w) (K := K) (mg := mg) (base := base) (CB := CB) (CL := CL) (CS := CS) DLnames_refused DLalike GLalike_spAlk DLstrange GLstrange_spStrange DLasked GLasked_spAskd DLless GLless_spLess T
 have GBox_or_spBOrX := ok_borX (P := l.prog) (w := w) (K := K) (mg := mg) (base := base) (CB := CB) (CI := CI) (CL := CL) (CN := CxBadInstrument) (CS := CS) kB kI XxBadInstrument GInstrument_name_spFldP mCB MB GBox_init_spBoxI bBox_init FBox_or T VcMOST_INSTRUMENTS
 have GBox_or_spBOr_or_spBOrX := ok_borOrC (P := l.prog) (w := w) (K := K) (mg := mg) (base := base) (CB := CB) (CL := CL) (CS := CS) GBox_or_spBOr GBox_or_spBOrX
 have GLmore_spMore := ok_more (P := l.prog) (w := w) (K := K) (mg := mg) (base := base) (CB := CB) (CE := CWE) (CI := CI) (CL := CL) (CN := CxBadInstrument) (CS := CS) RAxBadInstrument XxBadInstrument DLmore kB kI OXBBox_or GBox_or_spBOr_or_spBOrX bBox_or MEB_names GBox_names_spBNmF bBox_names T
 exact ok_law (P := l.prog) (w := w) (K := K) (mg := mg) (base := base) (CB := CB) (CL := CL) (CS := CS) kB mCB MB GBox_init_spBoxIC bBox_init OPBBox_or GBox_or_spBOr bBox_or OSBBox_sub GBox_sub_spBSub bBox_sub EB GBox_eq_spBEqV bBox_eq Flaw T DLpool GLpool_spPool DLseven GLseven_spSeven DLrows_refused GLrows_refused_spRowsRef DLdraw GLdraw_spDrawA DLone GLone_spOne DLstands GLstands_spStands DLnames_refused GLnames_refused_spNmRef DLmore GLmore_spMore DLstrange GLstrange_spStrange DLless GLless_spLess
end
end WW
set_option pp.maxSteps 150
namespace WW
open PySem PySem.Spec PyProof.Rows L2
section
theorem facts {w : World} {K : PySem.W.Frag} {h : Heap} {mg : Str → Option Value} {fa : Addr} (X : K.In h) (G : h.Ns mainGlobals mg) (hfa : mg ("law" : Str) = some (.ref fa)) (c : HY.Says exL fnL K) : ∃ fd : FuncData, (∀ (s : Shared) (v : Value), BindsTo s fd ⟨[v], []⟩ [("_law_script", v)]) ∧ ∀ base : Heap, K.In base → base.Ns mainGlobals mg → FnOk (PySem.Challenge.rw_watchedworks_k21_kits_of_instruments).prog w K mg base CX0 11 fa fd ["_law_script"] (spLaw K) := by
 obtain ⟨c, c2⟩ := c.both
 obtain ⟨c0, c1⟩ := c.both
 have dflaw := c0.dd 0 0 
 have dfBox_init := c0.dd 1 1 
 have dfgood_instruments := c0.dd 2 2 
 have dfInstrument_name := c0.dd 3 3 
 have dfInstrument_post := c0.dd 4 4 
 have dfis_row := c0.dd 5 5 
 have dfBox_or := c0.dd 6 6 
 have dfBox_sub := c0.dd 7 7 
 have dfBox_eq := c0.dd 8 8 
 have dfSensor_eq := c0.dd 9 9 
 have dfInstrument_head := c0.dd 10 10 
 have dfLock_eq := c0.dd 11 11 
 have dfLpool := c0.dd 12 12 
 have dfLseven := c0.dd 13 13 
 have dfLplan := c0.dd 14 14 
 have dfLdraw := c0.dd 15 15 
 have dfLpick := c0.dd 16 16 
 have dfLnames := c0.dd 17 17 
 have dfLname := c0.dd 18 18 
 have dfLhand := c0.dd 19 19 
 have dfLpattern := c0.dd 20 20 
 have dfLagrees := c0.dd 21 21 
 have dfLstart := c0.dd 22 22 
 have dfLwords := c0.dd 23 23 
 have dfLblames := c0.dd 24 24 
 have dfLhides := c0.dd 25 25 
 have dfLinstruments := c0.dd 26 26 
 have dfLrows_refused := c0.dd 27 27 
 have dfLone := c0.dd 28 28 
 have dfInstrument_init := c0.dd 29 29 
 have dfcheck_head := c0.dd 30 30 
 have dfis_name := c0.dd 31 31 
 have dfis_between := c0.dd 32 32 
 have dfis_integer := c0.dd 33 33 
 have dfcheck_cost := c0.dd 34 34 
 have dfare_sights := c0.dd 35 35 
 have dfare_names := c0.dd 36 36 
 have dfLstrange := c0.dd 37 37 
 have dfLtold := c0.dd 38 38 
 have dfBox_len := c0.dd 39 39 
 have dfLstands := c0.dd 40 40 
 have dfBox_getitem := c0.dd 41 41 
 have dfBox_names := c0.dd 42 42 
 have dfLalike := c0.dd 43 43 
 have dfLasked := c0.dd 44 44 
 have dfLnames_refused := c0.dd 45 45 
 have dfLless := c0.dd 46 46 
 have dfLmore := c0.dd 47 47 
 obtain ⟨_, _, _, _, _, _, _, _, lkxBadInstrument, hcxBadInstrument, ⟨_, _, _, _, _, _, coxBadInstrumentx, v2xBadInstrument, flxBadInstrument⟩, _, _, _, cexBadInstrument⟩ := c0.sup 48 48 (at_ := fun K => 186) (C := fun K => 189) (name := "__init__") (qual := "BadInstrument.__init__") (file := (PySem.Challenge.rw_watchedworks_k21_kits_of_instruments).prog.main.file) (params := defArgs sBadInstrument_init) (body := defBody sBadInstrument_init) (scope := defScope sBadInstrument_init) rfl rfl
 obtain ⟨_, _, _, _, _, _, _, _, lkSensor_init, hcSensor_init, ⟨_, _, _, _, _, _, coSensor_initx, v2Sensor_init, flSensor_init⟩, _, _, _, ceSensor_init⟩ := c0.sup 49 49 (at_ := fun K => 297) (C := fun K => 323) (name := "__init__") (qual := "Sensor.__init__") (file := (PySem.Challenge.rw_watchedworks_k21_kits_of_instruments).prog.main.file) (params := defArgs sSensor_init) (body := defBody sSensor_init) (scope := defScope sSensor_init) rfl rfl
 obtain ⟨_, _, _, _, _, _, _, _, lkLock_init, hcLock_init, ⟨_, _, _, _, _, _, coLock_initx, v2Lock_init, flLock_init⟩, _, _, _, ceLock_init⟩ := c0.sup 50 50 (at_ := fun K => 341) (C := fun K => 359) (name := "__init__") (qual := "Lock.__init__") (file := (PySem.Challenge.rw_watchedworks_k21_kits_of_instruments).prog.main.file) (params := defArgs sLock_init) (body := defBody sLock_init) (scope := defScope sLock_init) rfl rfl
 obtain ⟨_, _, _, _, _, _, _, _, lkxBadName, hcxBadName, ⟨_, _, _, _, _, _, coxBadNamex, v2xBadName, flxBadName⟩, _, _, _, cexBadName⟩ := c0.sup 51 51 (at_ := fun K => 81) (C := fun K => 84) (name := "__init__") (qual := "BadName.__init__") (file := (PySem.Challenge.rw_watchedworks_k21_kits_of_instruments).prog.main.file) (params := defArgs sBadName_init) (body := defBody sBadName_init) (scope := defScope sBadName_init) rfl rfl
 have alaw := c1.d 0 
 have aCB := c1.d 1 
 have agood_instruments := c1.d 2 
 have aCI := c1.d 3 
 have aCS := c1.d 4 
 have aCL := c1.d 5 
 have zsuper := c1.d 6 
 have aCWE := c1.d 7 
 have aCxBadInstrument := c1.d 8 
 have ais_row := c1.d 9 
 have zabs := c1.d 10 
 have zint := c1.d 11 
 have zlen := c1.d 12 
 have zmax := c1.d 13 
 have zrange := c1.d 14 
 have ztuple := c1.d 15 
 have zlist := c1.d 16 
 have zstr := c1.d 17 
 have zbool := c1.d 18 
 have zisinstance := c1.d 19 
 have zall := c1.d 20 
 have zsorted := c1.d 21 
 have zenumerate := c1.d 22 
 obtain ⟨_, vcMOST_INSTRUMENTS⟩ := HY.int_of (c1.f 23 (f := fun K => HY.intB K "MOST_INSTRUMENTS" (6)) rfl)
 have aLpool := c1.d 24 
 have aLseven := c1.d 25 
 have aLplan := c1.d 26 
 have aLdraw := c1.d 27 
 have aLpick := c1.d 28 
 have aLnames := c1.d 29 
 have aLname := c1.d 30 
 have aLhand := c1.d 31 
 have aLpattern := c1.d 32 
 have aLagrees := c1.d 33 
 have aLstart := c1.d 34 
 have aLwords := c1.d 35 
 have zset := c1.d 36 
 have aLblames := c1.d 37 
 have aLhides := c1.d 38 
 have aLinstruments := c1.d 39 
 have aLrows_refused := c1.d 40 
 have aLone := c1.d 41 
 have acheck_head := c1.d 42 
 have ais_name := c1.d 43 
 obtain ⟨_, vcSMALL⟩ := HY.str_of (c1.f 44 (f := fun K => HY.strB K "SMALL" (smallS)) rfl)
 have ais_between := c1.d 45 
 have ais_integer := c1.d 46 
 have acheck_cost := c1.d 47 
 obtain ⟨_, vcMOST_WORDS⟩ := HY.int_of (c1.f 48 (f := fun K => HY.intB K "MOST_WORDS" (10)) rfl)
 obtain ⟨_, vcMOST_COST⟩ := HY.int_of (c1.f 49 (f := fun K => HY.intB K "MOST_COST" (1000)) rfl)
 have aare_sights := c1.d 50 
 have zdict := c1.d 51 
 have aare_names := c1.d 52 
 have aLstrange := c1.d 53 
 have aLtold := c1.d 54 
 have aLstands := c1.d 55 
 have aLalike := c1.d 56 
 have aLasked := c1.d 57 
 have aCxBadName := c1.d 58 
 have aLnames_refused := c1.d 59 
 have aLless := c1.d 60 
 have aLmore := c1.d 61 
 have saB := c1.d 62 
 have nBshelf := c1.d 63 
 have aiB := c1.d 64 
 have saI := c1.d 65 
 have saS := c1.d 66 
 have saL := c1.d 67 
 have nStitle := c1.d 68 
 have nSplace := c1.d 69 
 have nSfee := c1.d 70 
 have nSshows := c1.d 71 
 have nSstops := c1.d 72 
 have jaS := c1.d 73 
 have nLtitle := c1.d 74 
 have nLplace := c1.d 75 
 have nLfee := c1.d 76 
 have nLshows := c1.d 77 
 have nLstops := c1.d 78 
 have jaL := c1.d 79 
 have paSInstrument_name := c1.d 80 
 have paLInstrument_name := c1.d 81 
 have paSInstrument_post := c1.d 82 
 have paLInstrument_post := c1.d 83 
 obtain ⟨_, _, _, _, _, _, _, _, _, _, _, _, _, _, xLxBadInstrument⟩ := HY.exc_of (c1.f 84 (f := fun K => HY.excB K 189 [.ref 62, .type "ValueError", .type "Exception", .type "BaseException", .type "object"]) rfl)
 have saxBadInstrument := c1.d 85 
 have iCxBadInstrument := c1.d 86 
 have nfxBadInstrument := c1.d 87 
 have jaB := c1.d 88 
 have meBBox_or := c1.d 89 
 have odBBox_sub := c1.d 90 
 have orBBox_sub := c1.d 91 
 have osasub := c1.d 92 
 have osbsub := c1.d 93 
 have eaB := c1.d 94 
 have ebB := c1.d 95 
 have eaS := c1.d 96 
 have ebS := c1.d 97 
 have meShead := c1.d 98 
 have eaL := c1.d 99 
 have ebL := c1.d 100 
 have meLhead := c1.d 101 
 have aiiSensor_init := c1.d 102 
 have aiS := c1.d 103 
 have aiiLock_init := c1.d 104 
 have aiL := c1.d 105 
 have gaxBadInstrument := c1.d 106 
 have ggxBadInstrument := c1.d 107 
 have clxBadInstrument := c1.d 108 
 have meBBox_len := c1.d 109 
 have meBBox_getitem := c1.d 110 
 have meBnames := c1.d 111 
 obtain ⟨_, _, _, _, _, _, _, _, _, _, _, _, _, _, xLxBadName⟩ := HY.exc_of (c1.f 112 (f := fun K => HY.excB K 84 [.ref 62, .type "ValueError", .type "Exception", .type "BaseException", .type "object"]) rfl)
 have saxBadName := c1.d 113 
 have iCxBadName := c1.d 114 
 have nfxBadName := c1.d 115 
 have gaxBadName := c1.d 116 
 have ggxBadName := c1.d 117 
 have clxBadName := c1.d 118 
 have oxasubNoneType := c1.d 119 
 have oxbsubNoneType := c1.d 120 
 have oxasubbool := c1.d 121 
 have oxbsubbool := c1.d 122 
 have oxasubint := c1.d 123 
 have oxbsubint := c1.d 124 
 have oxasubstr := c1.d 125 
 have oxbsubstr := c1.d 126 
 have oxasublist := c1.d 127 
 have oxbsublist := c1.d 128 
 have oxasubtuple := c1.d 129 
 have oxbsubtuple := c1.d 130 
 have oxasubdict := c1.d 131 
 have oxbsubdict := c1.d 132 
 have odBBox_or := c1.d 133 
 have orBBox_or := c1.d 134 
 have oxaorNoneType := c1.d 135 
 have oxborNoneType := c1.d 136 
 have oxaorbool := c1.d 137 
 have oxborbool := c2.d 0 
 have oxaorint := c2.d 1 
 have oxborint := c2.d 2 
 have oxaorstr := c2.d 3 
 have oxborstr := c2.d 4 
 have oxaorlist := c2.d 5 
 have oxborlist := c2.d 6 
 have oxaortuple := c2.d 7 
 have oxbortuple := c2.d 8 
 have oxaordict := c2.d 9 
 have oxbordict := c2.d 10 
 have pdInstrument_name := c2.d 11 
 have pdInstrument_post := c2.d 12 
 have suxBadInstrument := c2.d 13 
 have suSensor_init := c2.d 14 
 have suLock_init := c2.d 15 
 have suxBadName := c2.d 16 
 have pgB := c2.d 17 
 have hdB := c2.d 18 
 have poB := c2.d 19 
 have mkB := c2.d 20 
 have iiB := c2.d 21 
 have kcB := c2.d 22 
 have pgI := c2.d 23 
 have hdI := c2.d 24 
 have poI := c2.d 25 
 have pgS := c2.d 26 
 have hdS := c2.d 27 
 have poS := c2.d 28 
 have pgL := c2.d 29 
 have hdL := c2.d 30 
 have poL := c2.d 31 
 have jbS := c2.d 32 
 have jcS := c2.d 33 
 have jdS := c2.d 34 
 have jbL := c2.d 35 
 have jcL := c2.d 36 
 have jdL := c2.d 37 
 have zI0 := c2.d 38 
 have zI1 := c2.d 39 
 have zI2 := c2.d 40 
 have zI3 := c2.d 41 
 have zI4 := c2.d 42 
 have zI5 := c2.d 43 
 have zI6 := c2.d 44 
 have zS0 := c2.d 45 
 have zS1 := c2.d 46 
 have zS2 := c2.d 47 
 have zS3 := c2.d 48 
 have zS4 := c2.d 49 
 have zS5 := c2.d 50 
 have zS6 := c2.d 51 
 have qSI := c2.d 52 
 have qLI := c2.d 53 
 have qSS := c2.d 54 
 have qLS := c2.d 55 
 have pbInstrument_name := c2.d 56 
 have pcInstrument_name := c2.d 57 
 have pbInstrument_post := c2.d 58 
 have pcInstrument_post := c2.d 59 
 have ntop : ((PySem.Challenge.rw_watchedworks_k21_kits_of_instruments).prog.main.scope.names.lookup ("super" : Str)).isSome = false := by first | rfl | decide +kernel
 have opq := c2.d 60 
 have jb := c2.d 61 
 have jc := c2.d 62 
 have eCxBadInstrument := c2.d 63 
 have tCxBadInstrument := c2.d 64 
 have kCxBadInstrument := c2.d 65 
 have tIxBadInstrument := c2.d 66 
 have mrxBadInstrument := c2.d 67 
 have bvxBadInstrument := c2.d 68 
 have kaS29 := c2.d 69 
 have kaL29 := c2.d 70 
 have jbB := c2.d 71 
 have jcB := c2.d 72 
 have jdB := c2.d 73 
 have ifBox_or := c2.d 74 
 have sfB := c2.d 75 
 have nsSor := c2.d 76 
 have nsLor := c2.d 77 
 have ifBox_sub := c2.d 78 
 have sfxB := c2.d 79 
 have ksB_str := c2.d 80 
 have ecB := c2.d 81 
 have edB := c2.d 82 
 have zL0 := c2.d 83 
 have zL1 := c2.d 84 
 have zL2 := c2.d 85 
 have zL3 := c2.d 86 
 have zL4 := c2.d 87 
 have zL5 := c2.d 88 
 have zL6 := c2.d 89 
 have qLL := c2.d 90 
 have zB0 := c2.d 91 
 have zB1 := c2.d 92 
 have zB2 := c2.d 93 
 have zB3 := c2.d 94 
 have zB4 := c2.d 95 
 have zB5 := c2.d 96 
 have zB6 := c2.d 97 
 have qBB := c2.d 98 
 have ecS := c2.d 99 
 have edS := c2.d 100 
 have ifInstrument_head := c2.d 101 
 have ecL := c2.d 102 
 have edL := c2.d 103 
 have fnio := c2.d 104 
 have tyio := c2.d 105 
 have mrSensor_init := c2.d 106 
 have mkS := c2.d 107 
 have iiS := c2.d 108 
 have kcS := c2.d 109 
 have mrLock_init := c2.d 110 
 have mkL := c2.d 111 
 have iiL := c2.d 112 
 have kcL := c2.d 113 
 have hdxBadInstrument := c2.d 114 
 have moxBadInstrument := c2.d 115 
 have kwxBadInstrument := c2.d 116 
 have uxBadInstrument_xBadInstrument := c2.d 117 
 have fnBox_len := c2.d 118 
 have ifBox_len := c2.d 119 
 have fnBox_getitem := c2.d 120 
 have ifBox_getitem := c2.d 121 
 have ifBox_names := c2.d 122 
 have eCxBadName := c2.d 123 
 have tCxBadName := c2.d 124 
 have kCxBadName := c2.d 125 
 have tIxBadName := c2.d 126 
 have mrxBadName := c2.d 127 
 have bvxBadName := c2.d 128 
 have hdxBadName := c2.d 129 
 have moxBadName := c2.d 130 
 have kwxBadName := c2.d 131 
 have uxBadName_xBadName := c2.d 132 
 have ksB_NoneType := c2.d 133 
 have ksB_bool := c2.d 134 
 have ksB_int := c2.d 135 
 have ksB_list := c2.d 136 
 have ksB_tuple := c2.d 137 
 have ksB_dict := c2.d 138 
 exact all_mk (l := PySem.Challenge.rw_watchedworks_k21_kits_of_instruments) X G hfa alaw aCB agood_instruments aCI aCS aCL zsuper aCWE aCxBadInstrument ais_row zabs zint zlen zmax zrange ztuple zlist zstr zbool zisinstance zall zsorted zenumerate vcMOST_INSTRUMENTS aLpool aLseven aLplan aLdraw aLpick aLnames aLname aLhand aLpattern aLagrees aLstart aLwords zset aLblames aLhides aLinstruments aLrows_refused aLone acheck_head ais_name vcSMALL ais_between ais_integer acheck_cost vcMOST_WORDS vcMOST_COST aare_sights zdict aare_names aLstrange aLtold aLstands aLalike aLasked aCxBadName aLnames_refused aLless aLmore saB nBshelf aiB saI saS saL nStitle nSplace nSfee nSshows nSstops jaS nLtitle nLplace nLfee nLshows nLstops jaL paSInstrument_name paLInstrument_name paSInstrument_post paLInstrument_post xLxBadInstrument saxBadInstrument iCxBadInstrument nfxBadInstrument jaB meBBox_or odBBox_sub orBBox_sub osasub osbsub eaB ebB eaS ebS meShead eaL ebL meLhead aiiSensor_init aiS aiiLock_init aiL gaxBadInstrument ggxBadInstrument clxBadInstrument meBBox_len meBBox_getitem meBnames xLxBadName saxBadName iCxBadName nfxBadName gaxBadName ggxBadName clxBadName oxasubNoneType oxbsubNoneType oxasubbool oxbsubbool oxasubint oxbsubint oxasubstr oxbsubstr oxasublist oxbsublist oxasubtuple oxbsubtuple oxasubdict oxbsubdict odBBox_or orBBox_or oxaorNoneType oxborNoneType oxaorbool oxborbool oxaorint oxborint oxaorstr oxborstr oxaorlist oxborlist oxaortuple oxbortuple oxaordict oxbordict pdInstrument_name pdInstrument_post suxBadInstrument suSensor_init suLock_init suxBadName lkxBadInstrument coxBadInstrumentx cexBadInstrument lkSensor_init coSensor_initx ceSensor_init lkLock_init coLock_initx ceLock_init lkxBadName coxBadNamex cexBadName dflaw pgB hdB poB dfBox_init mkB iiB kcB dfgood_instruments pgI hdI poI pgS hdS poS pgL hdL poL jbS jcS jdS jbL jcL jdL zI0 zI1 zI2 zI3 zI4 zI5 zI6 zS0 zS1 zS2 zS3 zS4 zS5 zS6 qSI qLI qSS qLS dfInstrument_name pbInstrument_name pcInstrument_name dfInstrument_post pbInstrument_post pcInstrument_post ntop opq jb jc eCxBadInstrument tCxBadInstrument kCxBadInstrument tIxBadInstrument hcxBadInstrument v2xBadInstrument flxBadInstrument mrxBadInstrument bvxBadInstrument dfis_row kaS29 kaL29 dfBox_or jbB jcB jdB ifBox_or sfB nsSor nsLor dfBox_sub ifBox_sub sfxB ksB_str dfBox_eq ecB edB zL0 zL1 zL2 zL3 zL4 zL5 zL6 qLL zB0 zB1 zB2 zB3 zB4 zB5 zB6 qBB dfSensor_eq ecS edS dfInstrument_head ifInstrument_head dfLock_eq ecL edL dfLpool dfLseven dfLplan dfLdraw dfLpick dfLnames dfLname dfLhand dfLpattern dfLagrees dfLstart dfLwords dfLblames dfLhides dfLinstruments dfLrows_refused dfLone dfInstrument_init fnio tyio hcSensor_init v2Sensor_init flSensor_init mrSensor_init mkS iiS kcS dfcheck_head dfis_name dfis_between dfis_integer dfcheck_cost dfare_sights hcLock_init v2Lock_init flLock_init mrLock_init mkL iiL kcL dfare_names dfLstrange dfLtold hdxBadInstrument moxBadInstrument kwxBadInstrument uxBadInstrument_xBadInstrument dfBox_len fnBox_len ifBox_len dfLstands dfBox_getitem fnBox_getitem ifBox_getitem dfBox_names ifBox_names dfLalike dfLasked eCxBadName tCxBadName kCxBadName tIxBadName hcxBadName v2xBadName flxBadName mrxBadName bvxBadName hdxBadName moxBadName kwxBadName uxBadName_xBadName dfLnames_refused dfLless ksB_NoneType ksB_bool ksB_int ksB_list ksB_tuple ksB_dict dfLmore
end
end WW
open PySem PySem.W PySem.Calls PyProof.Rows in
set_option maxRecDepth 100000 in
set_option maxHeartbeats 0 in
theorem PySem.Challenge.cw_watchedworks_k21_kits_of_instruments_holds : PySem.Challenge.rw_watchedworks_k21_kits_of_instruments.Holds := by
 refine WW.hd_main ?hc
 case hc =>
  refine L2.walk_ofE (l := PySem.Challenge.rw_watchedworks_k21_kits_of_instruments) (n := 63) (k := 11) (x := "_law_script") (CX := L2.CX0) rfl (by decide) (by kernel_rfl) ⟨rfl, by decide, by decide⟩ ?F (fun _ _ _ _ z => z)
  intro w mg fa h Y G hmg0
  obtain ⟨K, KX, c⟩ := Y
  have hmg : mg ("law" : PySem.Str) = some (.ref fa) := by
   have e : (HandSHeadRun.topDef (OpenLaw.row PySem.Challenge.rw_watchedworks_k21_kits_of_instruments).prog 59).name = ("law" : PySem.Str) := by kernel_rfl
   rw [← e]
   exact hmg0
  obtain ⟨fd, hb, hF⟩ := WW.facts (w := w) KX G hmg c
  exact ⟨K, fd, WW.spLaw K, KX, hb, fun H a ns hl _ hS => ⟨a, ns, rfl, hS, hl, fun _ => rfl⟩, hF⟩
