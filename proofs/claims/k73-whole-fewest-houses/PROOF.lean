import PyProof.Rows.All
import Wide.All
import OpenK.AllK
import Wide.FinOn
import HandS.ForMost
import HandS.ForExc
import HandS.TupAny
import HandS.Walk
import HandS.IsInst
import HandS.TupSets
import HandS.SortRule
import HandS.SortInts
import HandS.NamedTupSort
import HandS.DictTup
import HandS.Conv
import KE.GoesMore
import PySem.Challenge.RW_roundowned_k73_whole_fewest_houses
import HandS.ListItems
import KE.SortData
import KE.DataCmp
import KE.KExcSuper
import KE.RegKSuper
import KE.KEqDeep

section PartRkA
set_option Elab.async false
set_option linter.all false
set_option maxRecDepth 100000
set_option maxHeartbeats 4000000
/-! Rk: what is known (N) within the whole heap (H); readings as evaluations. -/
namespace Rk
open PySem PySem.Spec PyProof.Rows L2

/-! ### heaps -/
def Ex (H H' : Hp) : Prop := ∀ a o, H a = some o → H' a = some o
theorem Ex.refl (H : Hp) : Ex H H := fun _ _ h => h
theorem Ex.trans {H H1 H2 : Hp} (a : Ex H H1) (b : Ex H1 H2) : Ex H H2 := fun x o h => b x o (a x o h)
theorem Ex.new {H : Hp} {p : Addr} {o : HO} (h : H p = none) : Ex H (upd H p o) := fun a u e => by
  rw [upd_ne (ne_of_none e h)]
  exact e
/-- what H does not know may change -/
theorem Ex.mut {H H' : Hp} {p : Addr} {o : HO} (e : Ex H H') (h : H p = none) : Ex H (upd H' p o) := fun a u ha => by
  rw [upd_ne (ne_of_none ha h)]
  exact e a u ha
theorem Ex.back {H H' : Hp} {p : Addr} (e : Ex H H') (h : H' p = none) : H p = none := by
  cases h1 : H p with
  | none => rfl
  | some o =>
    rw [e p o h1] at h
    cases h
/-- from (N, H) to (N', H'): what is newly known is new -/
structure Go (N H N' H' : Hp) : Prop where
  n : Ex N N'
  h : Ex H H'
  s : Ex N' H'
  f : ∀ a o, N' a = some o → N a = some o ∨ H a = none
theorem Go.refl {N H : Hp} (e : Ex N H) : Go N H N H := ⟨Ex.refl _, Ex.refl _, e, fun _ _ h => .inl h⟩
theorem Go.trans {N H N1 H1 N2 H2 : Hp} (a : Go N H N1 H1) (b : Go N1 H1 N2 H2) : Go N H N2 H2 :=
  ⟨a.n.trans b.n, a.h.trans b.h, b.s, fun x o h => by
    rcases b.f x o h with h | h
    · exact a.f x o h
    · exact .inr (a.h.back h)⟩
theorem Go.no {N H N' H' : Hp} (g : Go N H N' H') {a : Addr} {o : HO} (hn : N a = none) (hh : H a = some o) : N' a = none := by
  cases h : N' a with
  | none => rfl
  | some w =>
    rcases g.f a w h with h1 | h1
    · rw [hn] at h1; cases h1
    · rw [hh] at h1; cases h1
/-- a new object, known -/
theorem Go.new {N H : Hp} (e : Ex N H) {p : Addr} {o : HO} (hp : H p = none) : Go N H (upd N p o) (upd H p o) :=
  ⟨Ex.new (e.back hp), Ex.new hp, fun a u h => by
    by_cases ha : a = p
    · subst ha
      rw [upd_same] at h ⊢
      exact h
    · rw [upd_ne ha] at h ⊢
      exact e a u h, fun a u h => by
    by_cases ha : a = p
    · subst ha
      exact .inr hp
    · rw [upd_ne ha] at h
      exact .inl h⟩
def join (N N' : Hp) : Hp := fun a => match N a with
  | some o => some o
  | none => N' a
theorem join_l {N N' : Hp} : Ex N (join N N') := fun a o h => by
  unfold join
  rw [h]
theorem join_r {N N' H : Hp} (e : Ex N H) (e' : Ex N' H) : Ex N' (join N N') := fun a o h => by
  unfold join
  cases h1 : N a with
  | none => exact h
  | some u =>
    have h2 := e a u h1
    have h3 := e' a o h
    rw [h2] at h3
    exact h3
theorem join_in {N N' H : Hp} (e : Ex N H) (e' : Ex N' H) : Ex (join N N') H := fun a o h => by
  unfold join at h
  cases h1 : N a with
  | none =>
    rw [h1] at h
    exact e' a o h
  | some u =>
    rw [h1] at h
    cases h
    exact e a _ h1
theorem Go.lift {N M H N' H' : Hp} (enm : Ex N M) (em : Ex M H) (g : Go N H N' H') : Go M H (join M N') H' ∧ Ex N' (join M N') :=
  ⟨⟨join_l, g.h, join_in (em.trans g.h) g.s, fun a o h => by
    unfold join at h
    cases h1 : M a with
    | some w =>
      rw [h1] at h
      exact .inl h
    | none =>
      rw [h1] at h
      rcases g.f a o h with h2 | h2
      · rw [enm a o h2] at h1
        cases h1
      · exact .inr h2⟩, join_r (em.trans g.h) g.s⟩
end Rk
end PartRkA

section PartRkB
set_option Elab.async false
set_option linter.all false
set_option maxRecDepth 100000
set_option maxHeartbeats 4000000
/-! Rk: what is known of a value; evaluations. -/
namespace Rk
open PySem PySem.Spec PyProof.Rows L2

/-- what is known of a value, stable under growth -/
structure Pr where
  p : V → Hp → Prop
  st : ∀ v N M, Ex N M → p v N → p v M
instance : CoeFun Pr (fun _ => V → Hp → Prop) := ⟨Pr.p⟩

theorem rd_ex {H H' : Hp} {a : Addr} {o : HO} (e : Ex H H') (h : Rd H a o) : Rd H' a o := by
  rcases h with h | ⟨u, h⟩
  · exact .inl (e a _ h)
  · exact .inr ⟨u, e a _ h⟩
theorem sqL_ex {K : PySem.W.Frag} {H H' : Hp} {a : Addr} {xs : List V} (e : Ex H H') (h : SqL K H a xs) : SqL K H' a xs := by
  rcases h with h | h
  · exact .inl (rd_ex e h)
  · exact .inr h
theorem sqT_ex {K : PySem.W.Frag} {H H' : Hp} {a : Addr} {xs : List V} (e : Ex H H') (h : SqT K H a xs) : SqT K H' a xs := by
  rcases h with h | h
  · exact .inl (rd_ex e h)
  · exact .inr h
mutual
theorem dp_ex {K : PySem.W.Frag} {H H' : Hp} (e : Ex H H') : ∀ (d : PyData) (v : V), Dp K H v d → Dp K H' v d
  | .none, _, h => by cases h; exact .non
  | .bool b, _, h => by cases h; exact .bl b
  | .int i, _, h => by cases h; exact .int i
  | .str x, _, h => by cases h; exact .str x
  | .list ds, _, h => by
    cases h with
    | lst hs ha => exact .lst (sqL_ex e hs) (dpAll_ex e ds _ ha)
  | .tuple ds, _, h => by
    cases h with
    | tup hs ha => exact .tup (sqT_ex e hs) (dpAll_ex e ds _ ha)
  | .dict _, _, h => by cases h
theorem dpAll_ex {K : PySem.W.Frag} {H H' : Hp} (e : Ex H H') : ∀ (ds : List PyData) (vs : List V), DpAll K H vs ds → DpAll K H' vs ds
  | [], _, h => by cases h; exact .nil
  | d :: ds, _, h => by
    cases h with
    | cons h1 h2 => exact .cons (dp_ex e d _ h1) (dpAll_ex e ds _ h2)
end
/-- the value is this data -/
def is (K : PySem.W.Frag) (d : PyData) : Pr := ⟨fun v H => Dp K H v d, fun v _ _ e h => dp_ex e d v h⟩
/-- the value itself -/
def eqp (x : V) : Pr := ⟨fun v _ => v = x, fun _ _ _ _ h => h⟩
def Hold : List V → List Pr → Hp → Prop
  | [], [], _ => True
  | v :: vs, f :: fs, H => f v H ∧ Hold vs fs H
  | _, _, _ => False
theorem hold_ex {N M : Hp} (e : Ex N M) : ∀ {vs : List V} {fs : List Pr}, Hold vs fs N → Hold vs fs M
  | [], [], _ => trivial
  | v :: vs, f :: fs, h => ⟨f.st v N M e h.1, hold_ex e h.2⟩
  | [], _ :: _, h => h.elim
  | _ :: _, [], h => h.elim
theorem hold_len {N : Hp} : ∀ {vs : List V} {fs : List Pr}, Hold vs fs N → vs.length = fs.length
  | [], [], _ => rfl
  | _ :: vs, _ :: fs, h => by
    rw [List.length_cons, List.length_cons, hold_len h.2]
  | [], _ :: _, h => h.elim
  | _ :: _, [], h => h.elim
abbrev isL (K : PySem.W.Frag) (ds : List PyData) : List Pr := ds.map (is K)
theorem hold_dp {K : PySem.W.Frag} {N : Hp} : ∀ {vs : List V} {ds : List PyData}, Hold vs (isL K ds) N → DpAll K N vs ds
  | [], [], _ => .nil
  | _ :: _, _ :: _, h => .cons h.1 (hold_dp h.2)
  | [], _ :: _, h => h.elim
  | _ :: _, [], h => h.elim
theorem dp_hold {K : PySem.W.Frag} {N : Hp} : ∀ {ds : List PyData} {vs : List V}, DpAll K N vs ds → Hold vs (isL K ds) N
  | [], _, h => by cases h; exact trivial
  | _ :: _, _, h => by
    cases h with
    | cons h1 h2 => exact ⟨h1, dp_hold h2⟩
section
variable {K : PySem.W.Frag} {N M : Hp} {v : V}
theorem is_int {i : Int} (h : is K (.int i) v N) : v = .int i := by cases h; rfl
theorem is_bl {b : Bool} (h : is K (.bool b) v N) : v = .bl b := by cases h; rfl
theorem is_non (h : is K .none v N) : v = .non := by cases h; rfl
theorem is_str {x : Str} (h : is K (.str x) v N) : v = .str x := by cases h; rfl
theorem is_tup {ds : List PyData} (h : is K (.tuple ds) v N) : ∃ a xs, v = .ref a ∧ SqT K N a xs ∧ DpAll K N xs ds := by
  cases h with
  | tup hs ha => exact ⟨_, _, rfl, hs, ha⟩
theorem is_lst {ds : List PyData} (h : is K (.list ds) v N) : ∃ a xs, v = .ref a ∧ SqL K N a xs ∧ DpAll K N xs ds := by
  cases h with
  | lst hs ha => exact ⟨_, _, rfl, hs, ha⟩
theorem dpAll_len : ∀ {ds : List PyData} {xs : List V}, DpAll K N xs ds → xs.length = ds.length
  | [], _, h => by cases h; rfl
  | _ :: ds, _, h => by
    cases h with
    | cons h1 h2 => rw [List.length_cons, List.length_cons, dpAll_len h2]
theorem dpAll_get : ∀ {ds : List PyData} {xs : List V} {i : Nat} {x : V}, DpAll K N xs ds → xs[i]? = some x → ∃ d, ds[i]? = some d ∧ Dp K N x d
  | [], _, i, x, h, e => by cases h; simp at e
  | d :: ds, _, 0, x, h, e => by
    cases h with
    | cons h1 h2 =>
      simp at e
      subst e
      exact ⟨d, rfl, h1⟩
  | d :: ds, _, i + 1, x, h, e => by
    cases h with
    | cons h1 h2 =>
      simp at e
      obtain ⟨d', e', h'⟩ := dpAll_get h2 e
      exact ⟨d', by simpa using e', h'⟩
theorem dpAll_at : ∀ {ds : List PyData} {xs : List V} {i : Nat} {d : PyData}, DpAll K N xs ds → ds[i]? = some d → ∃ x, xs[i]? = some x ∧ Dp K N x d
  | [], _, i, d, h, e => by simp at e
  | d' :: ds, _, 0, d, h, e => by
    cases h with
    | cons h1 h2 =>
      simp at e
      subst e
      exact ⟨_, rfl, h1⟩
  | d' :: ds, _, i + 1, d, h, e => by
    cases h with
    | cons h1 h2 =>
      simp at e
      obtain ⟨x, e', h'⟩ := dpAll_at h2 e
      exact ⟨x, by simpa using e', h'⟩
theorem dpAll_app : ∀ {ds es : List PyData} {xs ys : List V}, DpAll K N xs ds → DpAll K N ys es → DpAll K N (xs ++ ys) (ds ++ es)
  | [], _, _, _, h, k => by cases h; exact k
  | _ :: _, _, _, _, h, k => by
    cases h with
    | cons h1 h2 => exact .cons h1 (dpAll_app h2 k)
theorem dpAll_one {x : V} {d : PyData} (h : Dp K N x d) : DpAll K N [x] [d] := .cons h .nil
theorem dpAll_drop : ∀ (n : Nat) {ds : List PyData} {xs : List V}, DpAll K N xs ds → DpAll K N (xs.drop n) (ds.drop n)
  | 0, _, _, h => h
  | n + 1, [], _, h => by cases h; exact .nil
  | n + 1, _ :: _, _, h => by
    cases h with
    | cons h1 h2 => exact dpAll_drop n h2
theorem dpAll_take : ∀ (n : Nat) {ds : List PyData} {xs : List V}, DpAll K N xs ds → DpAll K N (xs.take n) (ds.take n)
  | 0, ds, xs, _ => by
    rw [List.take_zero, List.take_zero]
    exact .nil
  | n + 1, [], _, h => by cases h; exact .nil
  | n + 1, _ :: _, _, h => by
    cases h with
    | cons h1 h2 => exact .cons h1 (dpAll_take n h2)
theorem dpAll_ints : ∀ (ns : List Int), DpAll K N (ns.map V.int) (ns.map PyData.int)
  | [] => .nil
  | n :: ns => .cons (.int n) (dpAll_ints ns)
theorem ints_dpAll : ∀ {ns : List Int} {xs : List V}, DpAll K N xs (ns.map PyData.int) → xs = ns.map V.int
  | [], _, h => by cases h; rfl
  | n :: ns, _, h => by
    cases h with
    | cons h1 h2 =>
      cases h1
      rw [ints_dpAll h2] <;> rfl
theorem bls_dpAll : ∀ {ns : List Bool} {xs : List V}, DpAll K N xs (ns.map PyData.bool) → xs = ns.map V.bl
  | [], _, h => by cases h; rfl
  | n :: ns, _, h => by
    cases h with
    | cons h1 h2 =>
      cases h1
      rw [bls_dpAll h2] <;> rfl
theorem mk_tup {a : Addr} {xs : List V} {ds : List PyData} (h : N a = some (.tup xs)) (k : DpAll K N xs ds) : is K (.tuple ds) (.ref a) N := Dp.tup (.inl (.inl h)) k
theorem mk_lst {a : Addr} {xs : List V} {ds : List PyData} (h : N a = some (.lst xs)) (k : DpAll K N xs ds) : is K (.list ds) (.ref a) N := Dp.lst (.inl (.inl h)) k
end

/-! ### evaluations -/
def EvP (te : TE) (σ : L2.St) (N : Hp) (f : Pr) : Prop := ∀ H, Ex N H → ∀ Q : VK, (∀ v N' H', Go N H N' H' → f v N' → Q v H') → te σ H Q
def EvT (t : TT) (σ : L2.St) (N : Hp) (b : Bool) : Prop := ∀ H, Ex N H → ∀ Q : Bool → Hp → Prop, (∀ N' H', Go N H N' H' → Q b H') → t σ H Q
def EvA (t : TA) (σ : L2.St) (N : Hp) (fs : List Pr) : Prop := ∀ H, Ex N H → ∀ Q : List V → Hp → Prop, (∀ vs N' H', Go N H N' H' → Hold vs fs N' → Q vs H') → t σ H Q
/-- by values -/
def RvP (r : R2) (x y : V) (N : Hp) (f : Pr) : Prop := ∀ H, Ex N H → ∀ Q : VK, (∀ v N' H', Go N H N' H' → f v N' → Q v H') → r x y H Q
def RcP (r : List V → Hp → VK → Prop) (vs : List V) (N : Hp) (f : Pr) : Prop := ∀ H, Ex N H → ∀ Q : VK, (∀ v N' H', Go N H N' H' → f v N' → Q v H') → r vs H Q
section
variable {K : PySem.W.Frag} {σ : L2.St} {N M : Hp} {ta tb tc te : TE} {t u : TT} {f g h f1 f2 : Pr} {fs : List Pr} {v : V}
theorem EvP.mono (e : Ex N M) (x : EvP te σ N f) : EvP te σ M f := fun H em Q q => x H (e.trans em) Q fun v N' H' gg fv => by
  obtain ⟨g2, e2⟩ := gg.lift e em
  exact q v _ H' g2 (f.st v _ _ e2 fv)
theorem EvT.mono {b : Bool} (e : Ex N M) (x : EvT t σ N b) : EvT t σ M b := fun H em Q q => x H (e.trans em) Q fun N' H' gg => by
  obtain ⟨g2, e2⟩ := gg.lift e em
  exact q _ H' g2
theorem EvA.mono {ta : TA} (e : Ex N M) (x : EvA ta σ N fs) : EvA ta σ M fs := fun H em Q q => x H (e.trans em) Q fun v N' H' gg fv => by
  obtain ⟨g2, e2⟩ := gg.lift e em
  exact q v _ H' g2 (hold_ex e2 fv)
theorem EvP.imp (x : EvP te σ N f) (k : ∀ v M, Ex N M → f v M → g v M) : EvP te σ N g := fun H e Q q => x H e Q fun v N' H' gg fv => q v N' H' gg (k v N' gg.n fv)
theorem EvP.cast {d d' : PyData} (x : EvP te σ N (is K d)) (e : d = d') : EvP te σ N (is K d') := by
  rw [← e]
  exact x
theorem EvT.cast {b b' : Bool} (x : EvT t σ N b) (e : b = b') : EvT t σ N b' := by
  rw [← e]
  exact x
theorem ev_var {i : Nat} (h : σ[i]? = some (some v)) (hv : f v N) : EvP (tVar i) σ N f := fun H e Q q => ⟨v, h, q v N H (Go.refl e) hv⟩
theorem ev_c (hv : f v N) : EvP (tC v) σ N f := fun H e Q q => q v N H (Go.refl e) hv
theorem ev_int {i : Int} : EvP (tC (.int i)) σ N (is K (.int i)) := ev_c (.int i)
theorem ev_bl {b : Bool} : EvP (tC (.bl b)) σ N (is K (.bool b)) := ev_c (.bl b)
theorem ev_str {x : Str} : EvP (tC (.str x)) σ N (is K (.str x)) := ev_c (.str x)
theorem ev_non : EvP (tC .non) σ N (is K .none) := ev_c .non
theorem ev_op {r : R2} (ha : EvP ta σ N f) (hb : EvP tb σ N g) (hr : ∀ x y M, Ex N M → f x M → g y M → RvP r x y M h) : EvP (tOp r ta tb) σ N h := fun H e Q q =>
  ha H e _ fun x N1 H1 g1 fx => (hb.mono g1.n) H1 g1.s _ fun y N2 H2 g2 fy => hr x y N2 (g1.n.trans g2.n) (f.st _ _ _ g2.n fx) fy H2 g2.s Q fun v N3 H3 g3 fv => q v N3 H3 ((g1.trans g2).trans g3) fv
theorem ev_i0 {gi : Int → Int → V} {i j : Int} (ha : EvP ta σ N (is K (.int i))) (hb : EvP tb σ N (is K (.int j))) (hz : ∀ M, f (gi i j) M) : EvP (tOp (rI0 gi) ta tb) σ N f :=
  ev_op ha hb fun x y M e fx fy H eh Q q => ⟨i, j, is_int fx, is_int fy, q _ M H (Go.refl eh) (hz M)⟩
theorem ev_iC {C : Int → Int → Prop} {gi : Int → Int → V} {i j : Int} (ha : EvP ta σ N (is K (.int i))) (hb : EvP tb σ N (is K (.int j))) (hc : C i j) (hz : ∀ M, f (gi i j) M) : EvP (tOp (rI C gi) ta tb) σ N f :=
  ev_op ha hb fun x y M e fx fy H eh Q q => ⟨i, j, is_int fx, is_int fy, hc, q _ M H (Go.refl eh) (hz M)⟩
theorem ev_add {i j : Int} (ha : EvP ta σ N (is K (.int i))) (hb : EvP tb σ N (is K (.int j))) : EvP (tOp (rI0 fun i j => .int (i + j)) ta tb) σ N (is K (.int (i + j))) := ev_i0 ha hb fun _ => .int _
theorem ev_sub {i j : Int} (ha : EvP ta σ N (is K (.int i))) (hb : EvP tb σ N (is K (.int j))) : EvP (tOp (rI0 fun i j => .int (i - j)) ta tb) σ N (is K (.int (i - j))) := ev_i0 ha hb fun _ => .int _
theorem ev_mul {i j : Int} (ha : EvP ta σ N (is K (.int i))) (hb : EvP tb σ N (is K (.int j))) (hc : CMul i j) : EvP (tOp (rI CMul fun i j => .int (i * j)) ta tb) σ N (is K (.int (i * j))) := ev_iC ha hb hc fun _ => .int _
theorem ev_fdiv {i j : Int} (ha : EvP ta σ N (is K (.int i))) (hb : EvP tb σ N (is K (.int j))) (hc : CDiv i j) : EvP (tOp (rI CDiv fun i j => .int (i / j)) ta tb) σ N (is K (.int (i / j))) := ev_iC ha hb hc fun _ => .int _
theorem ev_mod {i j : Int} (ha : EvP ta σ N (is K (.int i))) (hb : EvP tb σ N (is K (.int j))) (hc : 0 < j) : EvP (tOp (rI (fun _ j => 0 < j) fun i j => .int (i % j)) ta tb) σ N (is K (.int (i % j))) := ev_iC (C := fun _ j => 0 < j) ha hb hc fun _ => .int _
theorem ev_lt {i j : Int} (ha : EvP ta σ N (is K (.int i))) (hb : EvP tb σ N (is K (.int j))) : EvP (tOp (rI0 fun i j => .bl (decide (i < j))) ta tb) σ N (is K (.bool (decide (i < j)))) := ev_i0 ha hb fun _ => .bl _
theorem ev_le {i j : Int} (ha : EvP ta σ N (is K (.int i))) (hb : EvP tb σ N (is K (.int j))) : EvP (tOp (rI0 fun i j => .bl (decide (i ≤ j))) ta tb) σ N (is K (.bool (decide (i ≤ j)))) := ev_i0 ha hb fun _ => .bl _
theorem ev_gt {i j : Int} (ha : EvP ta σ N (is K (.int i))) (hb : EvP tb σ N (is K (.int j))) : EvP (tOp (rI0 fun i j => .bl (decide (j < i))) ta tb) σ N (is K (.bool (decide (j < i)))) := ev_i0 ha hb fun _ => .bl _
theorem ev_ge {i j : Int} (ha : EvP ta σ N (is K (.int i))) (hb : EvP tb σ N (is K (.int j))) : EvP (tOp (rI0 fun i j => .bl (decide (j ≤ i))) ta tb) σ N (is K (.bool (decide (j ≤ i)))) := ev_i0 ha hb fun _ => .bl _
/-- the flat values as data -/
def scD : V → Option PyData
  | .non => some .none
  | .bl b => some (.bool b)
  | .int i => some (.int i)
  | .str x => some (.str x)
  | _ => none
theorem ev_eqV {x y : V} {c d : PyData} (ha : EvP ta σ N (is K c)) (hb : EvP tb σ N (is K d)) (hx : scD x = some c) (hy : scD y = some d) (hs : scal x y = true) : EvP (tOp rEq ta tb) σ N (is K (.bool (decide (x = y)))) :=
  ev_op ha hb fun x' y' M e fx fy H eh Q q => by
    have ex : x' = x := by
      cases x <;> simp [scD] at hx <;> subst hx <;> cases fx <;> rfl
    have ey : y' = y := by
      cases y <;> simp [scD] at hy <;> subst hy <;> cases fy <;> rfl
    subst ex ey
    exact ⟨hs, q _ M H (Go.refl eh) (.bl _)⟩
theorem ev_neV {x y : V} {c d : PyData} (ha : EvP ta σ N (is K c)) (hb : EvP tb σ N (is K d)) (hx : scD x = some c) (hy : scD y = some d) (hs : scal x y = true) : EvP (tOp rNe ta tb) σ N (is K (.bool (!decide (x = y)))) :=
  ev_op ha hb fun x' y' M e fx fy H eh Q q => by
    have ex : x' = x := by
      cases x <;> simp [scD] at hx <;> subst hx <;> cases fx <;> rfl
    have ey : y' = y := by
      cases y <;> simp [scD] at hy <;> subst hy <;> cases fy <;> rfl
    subst ex ey
    exact ⟨hs, q _ M H (Go.refl eh) (.bl _)⟩
theorem dec_inj {i j : Int} : decide (V.int i = V.int j) = decide (i = j) := by
  by_cases h : i = j
  · subst h
    simp
  · have : ¬ V.int i = V.int j := fun z => h (V.int.inj z)
    rw [decide_eq_false h, decide_eq_false this]
theorem dec_injS {i j : Str} : decide (V.str i = V.str j) = decide (i = j) := by
  by_cases h : i = j
  · subst h
    simp
  · have : ¬ V.str i = V.str j := fun z => h (V.str.inj z)
    rw [decide_eq_false h, decide_eq_false this]
theorem dec_injB {i j : Bool} : decide (V.bl i = V.bl j) = decide (i = j) := by
  cases i <;> cases j <;> rfl
theorem ev_eqI {i j : Int} (ha : EvP ta σ N (is K (.int i))) (hb : EvP tb σ N (is K (.int j))) : EvP (tOp rEq ta tb) σ N (is K (.bool (decide (i = j)))) :=
  (ev_eqV (x := .int i) (y := .int j) ha hb rfl rfl rfl).cast (by rw [dec_inj])
theorem ev_eqS {i j : Str} (ha : EvP ta σ N (is K (.str i))) (hb : EvP tb σ N (is K (.str j))) : EvP (tOp rEq ta tb) σ N (is K (.bool (decide (i = j)))) :=
  (ev_eqV (x := .str i) (y := .str j) ha hb rfl rfl rfl).cast (by rw [dec_injS])
theorem ev_neB {i j : Bool} (ha : EvP ta σ N (is K (.bool i))) (hb : EvP tb σ N (is K (.bool j))) : EvP (tOp rNe ta tb) σ N (is K (.bool (!decide (i = j)))) :=
  (ev_neV (x := .bl i) (y := .bl j) ha hb rfl rfl rfl).cast (by rw [dec_injB])
theorem ev_un {r : V → Hp → VK → Prop} (ha : EvP ta σ N f) (hr : ∀ x M, Ex N M → f x M → ∀ H, Ex M H → ∀ Q : VK, (∀ v N' H', Go M H N' H' → h v N' → Q v H') → r x H Q) : EvP (tUn r ta) σ N h := fun H e Q q =>
  ha H e _ fun x N1 H1 g1 fx => hr x N1 g1.n fx H1 g1.s Q fun v N2 H2 g2 fv => q v N2 H2 (g1.trans g2) fv

/-! tests -/
theorem et_test {b : Bool} (x : EvP te σ N (is K (.bool b))) : EvT (tTest te) σ N b := fun H e Q q => x H e _ fun v N' H' g fv => ⟨b, is_bl fv, q N' H' g⟩
theorem et_B {b : Bool} (x : EvP te σ N (is K (.bool b))) : EvT (tB te) σ N b := fun H e Q q => x H e _ fun v N' H' g fv => ⟨b, is_bl fv, q N' H' g⟩
theorem et_and {a b : Bool} (x : EvT t σ N a) (y : a = true → EvT u σ N b) : EvT (tAnd t u) σ N (a && b) := fun H e Q q => x H e _ fun N1 H1 g1 => by
  cases a with
  | true => exact (y rfl).mono g1.n H1 g1.s Q fun N2 H2 g2 => q N2 H2 (g1.trans g2)
  | false => exact q N1 H1 g1
theorem et_or {a b : Bool} (x : EvT t σ N a) (y : a = false → EvT u σ N b) : EvT (tOr t u) σ N (a || b) := fun H e Q q => x H e _ fun N1 H1 g1 => by
  cases a with
  | true => exact q N1 H1 g1
  | false => exact (y rfl).mono g1.n H1 g1.s Q fun N2 H2 g2 => q N2 H2 (g1.trans g2)
theorem et_not {a : Bool} (x : EvT t σ N a) : EvT (tNot t) σ N (!a) := fun H e Q q => x H e _ fun N1 H1 g1 => q N1 H1 g1
theorem et_yes : EvT tYes σ N true := fun H e Q q => q N H (Go.refl e)
theorem ev_andV {a b : Bool} (x : EvP ta σ N (is K (.bool a))) (y : a = true → EvP tb σ N (is K (.bool b))) : EvP (tAndV ta tb) σ N (is K (.bool (a && b))) := fun H e Q q => x H e _ fun v N1 H1 g1 fv => ⟨a, is_bl fv, by
  cases a with
  | true => exact (y rfl).mono g1.n H1 g1.s Q fun v N2 H2 g2 fv => q v N2 H2 (g1.trans g2) fv
  | false => exact q _ N1 H1 g1 (.bl _)⟩
theorem ev_orV {a b : Bool} (x : EvP ta σ N (is K (.bool a))) (y : a = false → EvP tb σ N (is K (.bool b))) : EvP (tOrV ta tb) σ N (is K (.bool (a || b))) := fun H e Q q => x H e _ fun v N1 H1 g1 fv => ⟨a, is_bl fv, by
  cases a with
  | true => exact q _ N1 H1 g1 (.bl _)
  | false => exact (y rfl).mono g1.n H1 g1.s Q fun v N2 H2 g2 fv => q v N2 H2 (g1.trans g2) fv⟩
theorem ev_notV {a : Bool} (x : EvP ta σ N (is K (.bool a))) : EvP (tNotV ta) σ N (is K (.bool (!a))) := fun H e Q q => x H e _ fun v N1 H1 g1 fv => ⟨a, is_bl fv, q _ N1 H1 g1 (.bl _)⟩
theorem ev_if {b : Bool} (x : EvT t σ N b) (h1 : b = true → EvP ta σ N f) (h2 : b = false → EvP tb σ N f) : EvP (tIf t ta tb) σ N f := fun H e Q q => x H e _ fun N1 H1 g1 => by
  cases b with
  | true => exact (h1 rfl).mono g1.n H1 g1.s Q fun v N2 H2 g2 fv => q v N2 H2 (g1.trans g2) fv
  | false => exact (h2 rfl).mono g1.n H1 g1.s Q fun v N2 H2 g2 fv => q v N2 H2 (g1.trans g2) fv

/-! arguments, displays -/
theorem ea_nil : EvA tNil σ N [] := fun H e Q q => q [] N H (Go.refl e) trivial
theorem ea_cons {tr : TA} (x : EvP te σ N f) (y : EvA tr σ N fs) : EvA (tCons te tr) σ N (f :: fs) := fun H e Q q =>
  x H e _ fun v N1 H1 g1 fv => y.mono g1.n H1 g1.s _ fun vs N2 H2 g2 fvs => q _ N2 H2 (g1.trans g2) ⟨f.st _ _ _ g2.n fv, fvs⟩
theorem sz_of {n : Nat} (h : n ≤ 100000) : n ≤ sizeLine := Nat.le_trans h (by decide)
theorem sz_lt {n : Nat} (h : n < 100000) : n < sizeLine := Nat.lt_of_lt_of_le h (by decide)
theorem ev_tup {ta : TA} {ds : List PyData} (x : EvA ta σ N (isL K ds)) (hz : ds.length ≤ 100000) : EvP (tTup ta) σ N (is K (.tuple ds)) := fun H e Q q =>
  x H e _ fun vs N1 H1 g1 fv => ⟨by
    have := dpAll_len (hold_dp fv)
    exact sz_of (by omega), fun p hp => q _ _ _ (g1.trans (Go.new g1.s hp)) (mk_tup upd_same (dpAll_ex (Ex.new (g1.s.back hp)) _ _ (hold_dp fv)))⟩
theorem ev_lst {ta : TA} {ds : List PyData} (x : EvA ta σ N (isL K ds)) (hz : ds.length ≤ 100000) : EvP (tLst ta) σ N (is K (.list ds)) := fun H e Q q =>
  x H e _ fun vs N1 H1 g1 fv => ⟨by
    have := dpAll_len (hold_dp fv)
    exact sz_of (by omega), fun p hp => q _ _ _ (g1.trans (Go.new g1.s hp)) (mk_lst upd_same (dpAll_ex (Ex.new (g1.s.back hp)) _ _ (hold_dp fv)))⟩
/-- a new list that will change: at p, not known -/
def EvN (te : TE) (σ : L2.St) (N : Hp) (ds : PySem.W.Frag → List V → Hp → Prop) (K : PySem.W.Frag) : Prop := ∀ H, Ex N H → ∀ Q : VK, (∀ p vs N' H', Go N H N' H' → H' p = none → ds K vs N' → Q (.ref p) (upd H' p (.lst vs))) → te σ H Q
theorem en_lst {ta : TA} {ds : List PyData} (x : EvA ta σ N (isL K ds)) (hz : ds.length ≤ 100000) : EvN (tLst ta) σ N (fun K vs N' => DpAll K N' vs ds) K := fun H e Q q =>
  x H e _ fun vs N1 H1 g1 fv => ⟨by
    have := dpAll_len (hold_dp fv)
    exact sz_of (by omega), fun p hp => q p vs _ _ g1 hp (hold_dp fv)⟩
theorem ev_cb {r : List V → Hp → VK → Prop} {ta : TA} (x : EvA ta σ N fs) (hr : ∀ vs M, Ex N M → Hold vs fs M → RcP r vs M g) : EvP (tCB r ta) σ N g := fun H e Q q =>
  x H e _ fun vs N1 H1 g1 fv => hr vs N1 g1.n fv H1 g1.s Q fun v N2 H2 g2 fv2 => q v N2 H2 (g1.trans g2) fv2
theorem ev_cb1 {r : List V → Hp → VK → Prop} (x : EvP te σ N f) (hr : ∀ v M, Ex N M → f v M → RcP r [v] M g) : EvP (tCB r (tCons te tNil)) σ N g := ev_cb (ea_cons x ea_nil) fun vs M e hv => by
  match vs, hv with
  | [v], hv => exact hr v M e hv.1

/-! subscripts, membership, calls of builtins -/
theorem atI_dp {ds : List PyData} {xs : List V} {i : Int} {d : PyData} (k : DpAll K N xs ds) (h : atI ds i = some d) : ∃ x, atI xs i = some x ∧ Dp K N x d := by
  unfold atI at h ⊢
  rw [dpAll_len k]
  cases hq : ixN ds.length i with
  | none =>
    rw [hq] at h
    cases h
  | some j =>
    rw [hq] at h
    exact dpAll_at k h
theorem ev_ixL {ds : List PyData} {i : Int} {d : PyData} (ha : EvP ta σ N (is K (.list ds))) (hb : EvP tb σ N (is K (.int i))) (hi : atI ds i = some d) : EvP (tOp (rIxL K) ta tb) σ N (is K d) :=
  ev_op ha hb fun x y M e fx fy H eh Q q => by
    obtain ⟨a, xs, rfl, hs, hd⟩ := is_lst fx
    obtain ⟨z, hz, dz⟩ := atI_dp hd hi
    exact ⟨a, xs, i, z, rfl, is_int fy, sqL_ex eh hs, hz, q _ M H (Go.refl eh) dz⟩
theorem ev_ixT {ds : List PyData} {i : Int} {d : PyData} (ha : EvP ta σ N (is K (.tuple ds))) (hb : EvP tb σ N (is K (.int i))) (hi : atI ds i = some d) : EvP (tOp (rIxT K) ta tb) σ N (is K d) :=
  ev_op ha hb fun x y M e fx fy H eh Q q => by
    obtain ⟨a, xs, rfl, hs, hd⟩ := is_tup fx
    obtain ⟨z, hz, dz⟩ := atI_dp hd hi
    exact ⟨a, xs, i, z, rfl, is_int fy, sqT_ex eh hs, hz, q _ M H (Go.refl eh) dz⟩
theorem inV_int {i : Int} : ∀ {ns : List Int}, inV (.int i) (ns.map V.int) = decide (i ∈ ns)
  | [] => rfl
  | n :: ns => by
    show (eqV (.int n) (.int i) || inV (.int i) (ns.map V.int)) = _
    rw [inV_int (ns := ns)]
    show ((n == i) || _) = _
    by_cases h : n = i
    · subst h
      simp
    · have h' : ¬ i = n := fun z => h z.symm
      simp [h, h']
theorem all_flat : ∀ (ns : List Int), (ns.map V.int).all flatV = true
  | [] => rfl
  | n :: ns => by
    show (flatV (.int n) && (ns.map V.int).all flatV) = true
    rw [all_flat ns] <;> rfl
theorem ev_inT {neg : Bool} {ns : List Int} {i : Int} (ha : EvP ta σ N (is K (.int i))) (hb : EvP tb σ N (is K (.tuple (ns.map .int)))) : EvP (tOp (rIn K neg) ta tb) σ N (is K (.bool (if neg then !decide (i ∈ ns) else decide (i ∈ ns)))) :=
  ev_op ha hb fun x y M e fx fy H eh Q q => by
    obtain ⟨a, xs, rfl, hs, hd⟩ := is_tup fy
    have ex := ints_dpAll hd
    subst ex
    have e1 := is_int fx
    subst e1
    refine ⟨a, _, rfl, .inr (sqT_ex eh hs), rfl, all_flat ns, q _ M H (Go.refl eh) ?_⟩
    rw [inV_int]
    exact .bl _
theorem ev_lenS {ds : List PyData} (ha : EvP ta σ N (is K (.list ds))) : EvP (tCB (fun xs H Q => ∃ p ys, xs = [.ref p] ∧ (SqL K H p ys ∨ SqT K H p ys) ∧ Q (.int ys.length) H) (tCons ta tNil)) σ N (is K (.int ds.length)) :=
  ev_cb1 ha fun v M e fv H eh Q q => by
    obtain ⟨a, xs, rfl, hs, hd⟩ := is_lst fv
    refine ⟨a, xs, rfl, .inl (sqL_ex eh hs), q _ M H (Go.refl eh) ?_⟩
    rw [dpAll_len hd]
    exact .int _
theorem ev_lenT {ds : List PyData} (ha : EvP ta σ N (is K (.tuple ds))) : EvP (tCB (fun xs H Q => ∃ p ys, xs = [.ref p] ∧ (SqL K H p ys ∨ SqT K H p ys) ∧ Q (.int ys.length) H) (tCons ta tNil)) σ N (is K (.int ds.length)) :=
  ev_cb1 ha fun v M e fv H eh Q q => by
    obtain ⟨a, xs, rfl, hs, hd⟩ := is_tup fv
    refine ⟨a, xs, rfl, .inr (sqT_ex eh hs), q _ M H (Go.refl eh) ?_⟩
    rw [dpAll_len hd]
    exact .int _
theorem ev_sum {ns : List Int} (ha : EvP ta σ N (is K (.list (ns.map .int)))) : EvP (tCB (rSum K) (tCons ta tNil)) σ N (is K (.int ns.sum)) :=
  ev_cb1 ha fun v M e fv H eh Q q => by
    obtain ⟨a, xs, rfl, hs, hd⟩ := is_lst fv
    have ex := ints_dpAll hd
    subst ex
    exact ⟨a, ns, rfl, sqL_ex eh hs, q _ M H (Go.refl eh) (.int _)⟩
theorem ev_any {bs : List Bool} (ha : EvP ta σ N (is K (.list (bs.map .bool)))) : EvP (tCB (rAny K) (tCons ta tNil)) σ N (is K (.bool (bs.any id))) :=
  ev_cb1 ha fun v M e fv H eh Q q => by
    obtain ⟨a, xs, rfl, hs, hd⟩ := is_lst fv
    have ex := bls_dpAll hd
    subst ex
    exact ⟨a, bs, rfl, sqL_ex eh hs, q _ M H (Go.refl eh) (.bl _)⟩
theorem ev_all {bs : List Bool} (ha : EvP ta σ N (is K (.list (bs.map .bool)))) : EvP (tCB (rAll K) (tCons ta tNil)) σ N (is K (.bool (bs.all id))) :=
  ev_cb1 ha fun v M e fv H eh Q q => by
    obtain ⟨a, xs, rfl, hs, hd⟩ := is_lst fv
    have ex := bls_dpAll hd
    subst ex
    exact ⟨a, bs, rfl, sqL_ex eh hs, q _ M H (Go.refl eh) (.bl _)⟩

/-! functions of the text -/
/-- a pure def: its arguments are known, its answer is -/
def FnP {T : Type} (args : T → List Pr) (pre : T → Prop) (res : T → Pr) : Sp := fun vs H Q _ => ∃ (x : T) (N : Hp), pre x ∧ Ex N H ∧ Hold vs (args x) N ∧ ∀ v N' H', Go N H N' H' → res x v N' → Q v H'
theorem ev_call {T : Type} {args : T → List Pr} {pre : T → Prop} {res : T → Pr} {ta : TA} {E : XK} (x : T) (hx : pre x) (ha : EvA ta σ N (args x)) : EvP (tCall (FnP args pre res) [] E ta) σ N (res x) := fun H e Q q =>
  ha H e _ fun vs N1 H1 g1 fv => by
    rw [List.append_nil]
    exact ⟨x, N1, hx, g1.s, fv, fun v N2 H2 g2 fv2 => q v N2 H2 (g1.trans g2) fv2⟩
end

/-! ### statements -/
section
variable {K : PySem.W.Frag} {σ : L2.St} {N H : Hp} {ta tb tc te : TE} {t u : TT} {f g : Pr} {fs : List Pr} {v : V} {D : Ends} {tu tw tz : TS}
theorem s_asg {i : Nat} (e : Ex N H) (x : EvP te σ N f) (k : ∀ v N' H', Go N H N' H' → f v N' → D.nx (σ.set i (some v)) H') : tAsg te (gName i) D σ H := x H e _ fun v N' H' g fv => k v N' H' g fv
theorem q_asg {i : Nat} (e : Ex N H) (x : EvP te σ N f) (k : ∀ v N' H', Go N H N' H' → f v N' → tz D (σ.set i (some v)) H') : tSeq (tAsg te (gName i)) tz D σ H := s_asg (D := { D with nx := tz D }) e x k
theorem s_ret (e : Ex N H) (x : EvP te σ N f) (k : ∀ v N' H', Go N H N' H' → f v N' → D.rt v H') : tRet te D σ H := x H e _ k
theorem s_if {b : Bool} (e : Ex N H) (x : EvT t σ N b) (k1 : b = true → ∀ N' H', Go N H N' H' → tu D σ H') (k2 : b = false → ∀ N' H', Go N H N' H' → tw D σ H') : tIfS t tu tw D σ H := x H e _ fun N' H' g => by
  cases b with
  | true => exact k1 rfl N' H' g
  | false => exact k2 rfl N' H' g
theorem q_if {b : Bool} (e : Ex N H) (x : EvT t σ N b) (k1 : b = true → ∀ N' H', Go N H N' H' → tu { D with nx := tz D } σ H') (k2 : b = false → ∀ N' H', Go N H N' H' → tw { D with nx := tz D } σ H') : tSeq (tIfS t tu tw) tz D σ H := s_if (D := { D with nx := tz D }) e x k1 k2
/-- if without else -/
theorem q_when {b : Bool} (e : Ex N H) (x : EvT t σ N b) (k1 : b = true → ∀ N' H', Go N H N' H' → tu { D with nx := tz D } σ H') (k2 : b = false → ∀ N' H', Go N H N' H' → tz D σ H') : tSeq (tIfS t tu tNext) tz D σ H := s_if (D := { D with nx := tz D }) e x k1 k2
theorem s_when {b : Bool} (e : Ex N H) (x : EvT t σ N b) (k1 : b = true → ∀ N' H', Go N H N' H' → tu D σ H') (k2 : b = false → ∀ N' H', Go N H N' H' → D.nx σ H') : tIfS t tu tNext D σ H := s_if e x k1 k2
/-- a new list that will change -/
theorem q_new {i : Nat} {ds : PySem.W.Frag → List V → Hp → Prop} (e : Ex N H) (x : EvN te σ N ds K) (k : ∀ p vs N' H', Go N H N' H' → H' p = none → ds K vs N' → tz D (σ.set i (some (.ref p))) (upd H' p (.lst vs))) : tSeq (tAsg te (gName i)) tz D σ H := x H e _ k
end
end Rk
end PartRkB

section PartRkC
set_option Elab.async false
set_option linter.all false
set_option maxRecDepth 100000
set_option maxHeartbeats 4000000
/-! Rk: what is walked, comprehensions, loops. -/
namespace Rk
open PySem PySem.Spec PyProof.Rows L2

/-- an iterable: items of which ps are known -/
def EvI (wi : TI) (σ : L2.St) (N : Hp) (ps : List Pr) : Prop := ∀ H, Ex N H → ∀ R : It → Hp → Prop, (∀ J N' H', Go N H N' H' →
  Walk J ps.length (fun H2 => Ex N' H2) (fun i H2 x H3 => H3 = H2 ∧ ∃ f, ps[i]? = some f ∧ f x N') → R J H') → wi σ H R
/-- a target -/
def EvG (g : TG) (v : V) (σ : L2.St) (N : Hp) (σ2 : L2.St) : Prop := ∀ H, Ex N H → ∀ Q : L2.St → Hp → Prop, (∀ N' H', Go N H N' H' → Q σ2 H') → g v σ H Q
section
variable {K : PySem.W.Frag} {σ σ2 : L2.St} {N M H : Hp} {ta tb tc te tl : TE} {t u : TT} {f g h : Pr} {fs : List Pr} {v : V} {wi : TI} {tg : TG}
theorem eg_name {i : Nat} : EvG (gName i) v σ N (σ.set i (some v)) := fun H e Q q => q N H (Go.refl e)
theorem eg_tup2 {i j : Nat} {a : Addr} {x y : V} (h : SqT K N a [x, y]) : EvG (gTup K 2 (gCons (gName i) (gCons (gName j) gNil))) (.ref a) σ N ((σ.set i (some x)).set j (some y)) := fun H e Q q =>
  ⟨a, _, rfl, sqT_ex e h, rfl, x, [y], rfl, y, [], rfl, rfl, q N H (Go.refl e)⟩
theorem ei_list {α : Type} {xs : List α} {enc : α → PyData} (x : EvP tl σ N (is K (.list (xs.map enc)))) : EvI (iList K tl) σ N (xs.map fun a => is K (enc a)) := fun H e R r =>
  x H e _ fun v N' H' g fv => by
    obtain ⟨a, ys, rfl, hs, hd⟩ := is_lst fv
    have hl : ys.length = (xs.map fun a => is K (enc a)).length := by
      rw [dpAll_len hd, List.length_map, List.length_map]
    refine ⟨a, rfl, ⟨ys, sqL_ex g.s hs⟩, r _ N' H' g ?_⟩
    rw [← hl]
    refine walk_list.mono (fun H2 e2 => sqL_ex e2 hs) fun i H2 y H3 hi e2 q => ?_
    obtain ⟨rfl, q⟩ := q
    obtain ⟨d, hd1, hd2⟩ := dpAll_get hd q
    rw [List.getElem?_map] at hd1
    cases hx : xs[i]? with
    | none =>
      rw [hx] at hd1
      cases hd1
    | some z =>
      rw [hx] at hd1
      cases hd1
      exact ⟨rfl, is K (enc z), by rw [List.getElem?_map, hx] <;> rfl, hd2⟩
theorem ei_tup {α : Type} {xs : List α} {enc : α → PyData} (x : EvP tl σ N (is K (.tuple (xs.map enc)))) : EvI (iTup K tl) σ N (xs.map fun a => is K (enc a)) := fun H e R r =>
  x H e _ fun v N' H' g fv => by
    obtain ⟨a, ys, rfl, hs, hd⟩ := is_tup fv
    have hl : ys.length = (xs.map fun a => is K (enc a)).length := by
      rw [dpAll_len hd, List.length_map, List.length_map]
    refine ⟨a, rfl, ⟨ys, sqT_ex g.s hs⟩, r _ N' H' g ?_⟩
    rw [← hl]
    refine walk_tup.mono (fun H2 e2 => sqT_ex e2 hs) fun i H2 y H3 hi e2 q => ?_
    obtain ⟨rfl, q⟩ := q
    obtain ⟨d, hd1, hd2⟩ := dpAll_get hd q
    rw [List.getElem?_map] at hd1
    cases hx : xs[i]? with
    | none =>
      rw [hx] at hd1
      cases hd1
    | some z =>
      rw [hx] at hd1
      cases hd1
      exact ⟨rfl, is K (enc z), by rw [List.getElem?_map, hx] <;> rfl, hd2⟩
theorem ei_rng {lo : Int} {n : Nat} {R : It → Hp → Prop} (e : Ex N H) (r : ∀ J N' H', Go N H N' H' →
    Walk J ((List.range n).map fun i => is K (.int (lo + (i : Nat)))).length (fun H2 => Ex N' H2) (fun i H2 x H3 => H3 = H2 ∧ ∃ f : Pr, ((List.range n).map fun i => is K (.int (lo + (i : Nat))))[i]? = some f ∧ f x N') → R J H') : R (Itr lo n) H := by
  refine r _ N H (Go.refl e) ?_
  rw [List.length_map, List.length_range]
  refine walk_range.mono (fun _ _ => trivial) fun i H2 y H3 hi e2 q => ?_
  obtain ⟨rfl, rfl⟩ := q
  refine ⟨rfl, is K (.int (lo + (i : Nat))), ?_, .int _⟩
  rw [List.getElem?_map, List.getElem?_range hi] <;> rfl
theorem ei_rng1 {n : Int} {ta : TA} (x : EvA ta σ N [is K (.int n)]) (h1 : -(2 ^ 62) ≤ n) (h2 : n < 2 ^ 62) : EvI (iRng1 ta) σ N ((List.range n.toNat).map fun i => is K (.int (0 + (i : Nat)))) := fun H e R r =>
  x H e _ fun vs N' H' g fv => by
    match vs, fv with
    | [v], fv =>
      have e1 := is_int fv.1
      subst e1
      exact ⟨n, rfl, h1, h2, ei_rng g.s fun J N2 H2 g2 w => r J N2 H2 (g.trans g2) w⟩
theorem ei_rng2 {lo n : Int} {ta : TA} (x : EvA ta σ N [is K (.int lo), is K (.int n)]) (h1 : -(2 ^ 62) ≤ n) (h2 : n < 2 ^ 62) (h3 : -(2 ^ 62) ≤ lo) (h4 : lo < 2 ^ 62) : EvI (iRng2 ta) σ N ((List.range (n - lo).toNat).map fun i => is K (.int (lo + (i : Nat)))) := fun H e R r =>
  x H e _ fun vs N' H' g fv => by
    match vs, fv with
    | [v, w], fv =>
      have e1 := is_int fv.1
      have e2 := is_int fv.2.1
      subst e1 e2
      exact ⟨lo, n, rfl, ⟨h3, h4, h1, h2⟩, ei_rng g.s fun J N2 H2 g2 w => r J N2 H2 (g.trans g2) w⟩

/-! a comprehension -/
def erase (H : Hp) (p : Addr) : Hp := fun a => if a = p then none else H a
theorem erase_same {p : Addr} : erase H p p = none := if_pos rfl
theorem erase_ne {p a : Addr} (h : a ≠ p) : erase H p a = H a := if_neg h
theorem erase_up {p : Addr} {o : HO} (h : H p = some o) : upd (erase H p) p o = H := by
  funext a
  by_cases ha : a = p
  · subst ha
    rw [upd_same, h]
  · rw [upd_ne ha, erase_ne ha]
theorem Ex.erase {p : Addr} (e : Ex N H) (hp : N p = none) : Ex N (erase H p) := fun a o h => by
  rw [erase_ne (ne_of_none h hp)]
  exact e a o h
theorem take_next {α : Type} : ∀ {l : List α} {i : Nat} {x : α}, l[i]? = some x → l.take (i + 1) = l.take i ++ [x]
  | [], i, x, h => by simp at h
  | a :: l, 0, x, h => by
    have e : a = x := Option.some.inj h
    subst e
    rfl
  | a :: l, i + 1, x, h => by
    have ih := take_next (l := l) (i := i) (x := x) h
    show a :: l.take (i + 1) = a :: l.take i ++ [x]
    rw [ih]
    rfl
theorem en_lc {α : Type} {vs : List Nat} (xs : List α) (F : α → Pr) (fb : α → Bool) (ge : α → PyData) (hi : EvI wi σ N (xs.map F)) (hz : xs.length ≤ 100000)
    (ht : ∀ x ∈ xs, ∀ v N', Ex N N' → F x v N' → ∃ σ2, EvG tg v (wipe σ vs) N' σ2 ∧ wipe σ2 vs = wipe σ vs ∧ EvT t σ2 N' (fb x) ∧ (fb x = true → EvP te σ2 N' (is K (ge x)))) :
    EvN (tLc wi tg t te vs) σ N (fun K ys N' => DpAll K N' ys ((xs.filter fb).map ge)) K := fun H e Q q => hi H e _ fun J N1 H1 g1 W => fun D hD => by
  rw [List.length_map] at W
  have n1 : N1 D = none := g1.s.back hD
  refine lc_it W (Pv := fun i H2 => ∃ N2 H3 acc, Go N1 H1 N2 H3 ∧ H3 D = none ∧ H2 = upd H3 D (.lst acc) ∧ acc.length ≤ i ∧ DpAll K N2 acc (((xs.take i).filter fb).map ge))
    ⟨N1, H1, [], Go.refl g1.s, hD, rfl, Nat.le_refl _, .nil⟩ ?_ ?_ ?_
  · rintro i H2 _ ⟨N2, H3, acc, g2, h3, rfl, _, _⟩
    exact (g2.n.trans g2.s).mut n1
  · rintro i x H2 H2' hlt ⟨N2, H3, acc, g2, h3, rfl, hl, hd⟩ ⟨rfl, f, hf, fx⟩
    rw [List.getElem?_map] at hf
    cases hx : xs[i]? with
    | none =>
      rw [hx] at hf
      cases hf
    | some z =>
      rw [hx] at hf
      cases hf
      have hm : z ∈ xs := List.mem_of_getElem? hx
      have n2 : N2 D = none := g2.s.back h3
      have e2 : Ex N2 (upd H3 D (.lst acc)) := g2.s.mut n2
      obtain ⟨σ2, h1, h2, ht1, ht2⟩ := ht z hm x N2 (g1.n.trans g2.n) ((F z).st _ _ _ g2.n fx)
      have hD2 : (upd H3 D (.lst acc)) D = some (.lst acc) := upd_same
      -- from here on Go N2 (upd H3 D acc) N4 H4 gives the same below
      have step : ∀ N4 H4, Go N2 (upd H3 D (.lst acc)) N4 H4 → Go N1 H1 N4 (erase H4 D) ∧ H4 = upd (erase H4 D) D (.lst acc) ∧ N4 D = none := fun N4 H4 g4 => by
        have h4D : H4 D = some (.lst acc) := g4.h D _ hD2
        have n4 : N4 D = none := g4.no n2 hD2
        refine ⟨⟨g2.n.trans g4.n, ?_, g4.s.erase n4, fun a o ha => ?_⟩, (erase_up h4D).symm, n4⟩
        · intro a o ha
          have hne : a ≠ D := ne_of_none ha hD
          rw [erase_ne hne]
          refine g4.h a o ?_
          rw [upd_ne hne]
          exact g2.h a o ha
        · rcases g4.f a o ha with h5 | h5
          · exact g2.f a o h5
          · right
            by_cases hne : a = D
            · subst hne
              exact hD
            · rw [upd_ne hne] at h5
              exact g2.h.back h5
      refine h1 _ e2 _ fun N4 H4 g4 => ⟨h2, ?_⟩
      refine (ht1.mono g4.n) _ g4.s _ fun N5 H5 g5 => ?_
      have g45 := g4.trans g5
      have htk := take_next hx
      cases hb : fb z with
      | false =>
        rw [if_neg Bool.false_ne_true]
        obtain ⟨s1, s2, s3⟩ := step N5 H5 g45
        refine ⟨N5, erase H5 D, acc, s1, erase_same, s2, by omega, ?_⟩
        rw [htk, List.filter_append, List.filter_cons, if_neg (by rw [hb]; decide), List.filter_nil, List.append_nil]
        exact dpAll_ex g45.n _ _ hd
      | true =>
        rw [if_pos rfl]
        refine ((ht2 hb).mono g45.n) _ g5.s _ fun y N6 H6 g6 fy => ?_
        have g456 := g45.trans g6
        obtain ⟨s1, s2, s3⟩ := step N6 H6 g456
        refine ⟨acc, g456.h D _ hD2, sz_lt (by omega), N6, erase H6 D, acc ++ [y], s1, erase_same, ?_, ?_, ?_⟩
        · funext a
          by_cases ha : a = D
          · subst ha
            rw [upd_same, upd_same]
          · rw [upd_ne ha, upd_ne ha, erase_ne ha]
        · rw [List.length_append, List.length_singleton]
          omega
        · rw [htk, List.filter_append, List.filter_cons, if_pos hb, List.filter_nil, List.map_append]
          exact dpAll_app (dpAll_ex g456.n _ _ hd) (dpAll_one fy)
  · rintro H2 ⟨N2, H3, acc, g2, h3, rfl, hl, hd⟩
    rw [List.take_length] at hd
    exact q D acc N2 H3 (g1.trans g2) h3 hd
theorem EvN.known {ds : List PyData} (x : EvN te σ N (fun K ys N' => DpAll K N' ys ds) K) : EvP te σ N (is K (.list ds)) := fun H e Q q => x H e Q fun p vs N' H' g hp hd =>
  q _ _ _ (g.trans (Go.new g.s hp)) (mk_lst upd_same (dpAll_ex (Ex.new (g.s.back hp)) _ _ hd))
theorem ev_lc {α : Type} {vs : List Nat} (xs : List α) (F : α → Pr) (fb : α → Bool) (ge : α → PyData) (hi : EvI wi σ N (xs.map F)) (hz : xs.length ≤ 100000)
    (ht : ∀ x ∈ xs, ∀ v N', Ex N N' → F x v N' → ∃ σ2, EvG tg v (wipe σ vs) N' σ2 ∧ wipe σ2 vs = wipe σ vs ∧ EvT t σ2 N' (fb x) ∧ (fb x = true → EvP te σ2 N' (is K (ge x)))) :
    EvP (tLc wi tg t te vs) σ N (is K (.list ((xs.filter fb).map ge))) := (en_lc xs F fb ge hi hz ht).known
/-- without a test -/
theorem ev_lc0 {α : Type} {vs : List Nat} (xs : List α) (F : α → Pr) (ge : α → PyData) (hi : EvI wi σ N (xs.map F)) (hz : xs.length ≤ 100000)
    (ht : ∀ x ∈ xs, ∀ v N', Ex N N' → F x v N' → ∃ σ2, EvG tg v (wipe σ vs) N' σ2 ∧ wipe σ2 vs = wipe σ vs ∧ EvP te σ2 N' (is K (ge x))) :
    EvP (tLc wi tg tYes te vs) σ N (is K (.list (xs.map ge))) :=
  (ev_lc xs F (fun _ => true) ge hi hz fun x hx v N' e fv => by
    obtain ⟨σ2, h1, h2, h3⟩ := ht x hx v N' e fv
    exact ⟨σ2, h1, h2, et_yes, fun _ => h3⟩).cast (by rw [List.filter_eq_self.mpr (fun _ _ => rfl)])
end

/-! ### loops -/
section
variable {K : PySem.W.Frag} {σ σ2 : L2.St} {N M H : Hp} {t u : TT} {wi : TI} {tg : TG} {D : Ends} {tu tw tz : TS}
theorem s_for {α : Type} (xs : List α) (F : α → Pr) (e : Ex N H) (hi : EvI wi σ N (xs.map F))
    (k : ∀ N' H', Go N H N' H' → ∃ Pv : Nat → L2.St → Hp → Prop, Pv 0 σ H' ∧ (∀ i σ' H2, Pv i σ' H2 → Ex N' H2) ∧
      (∀ i x v σ' H2, xs[i]? = some x → F x v N' → Pv i σ' H2 → tg v σ' H2 fun σ2 H3 => tu { D with nx := Pv (i + 1), ct := Pv (i + 1), bk := D.nx } σ2 H3) ∧ (∀ σ' H2, Pv xs.length σ' H2 → D.nx σ' H2)) : tFor wi tg tu D σ H :=
  hi H e _ fun J N1 H1 g1 W => by
    rw [List.length_map] at W
    obtain ⟨Pv, h0, hG, hs, hd⟩ := k N1 H1 g1
    refine for_it W Pv h0 (fun i σ' H2 _ p => hG i σ' H2 p) (fun i x σ' H2 H3 hi p y => ?_) hd
    obtain ⟨rfl, f, hf, fx⟩ := y
    rw [List.getElem?_map] at hf
    cases hx : xs[i]? with
    | none =>
      rw [hx] at hf
      cases hf
    | some z =>
      rw [hx] at hf
      cases hf
      exact hs i z x σ' H3 hx fx p
theorem q_for {α : Type} (xs : List α) (F : α → Pr) (e : Ex N H) (hi : EvI wi σ N (xs.map F))
    (k : ∀ N' H', Go N H N' H' → ∃ Pv : Nat → L2.St → Hp → Prop, Pv 0 σ H' ∧ (∀ i σ' H2, Pv i σ' H2 → Ex N' H2) ∧
      (∀ i x v σ' H2, xs[i]? = some x → F x v N' → Pv i σ' H2 → tg v σ' H2 fun σ2 H3 => tu { D with nx := Pv (i + 1), ct := Pv (i + 1), bk := tz D } σ2 H3) ∧ (∀ σ' H2, Pv xs.length σ' H2 → tz D σ' H2)) : tSeq (tFor wi tg tu) tz D σ H :=
  s_for (D := { D with nx := tz D }) xs F e hi k
end
end Rk
namespace Rk
open PySem PySem.Spec PyProof.Rows L2
section
variable {σ : L2.St} {N H : Hp} {te : TE} {f : Pr} {D : Ends} {tz : TS}
theorem s_drop (e : Ex N H) (x : EvP te σ N f) (k : ∀ v N' H', Go N H N' H' → f v N' → D.nx σ H') : tDrop te D σ H := x H e _ k
theorem q_drop (e : Ex N H) (x : EvP te σ N f) (k : ∀ v N' H', Go N H N' H' → f v N' → tz D σ H') : tSeq (tDrop te) tz D σ H := x H e _ k
end
end Rk
end PartRkC

section PartRkS1
set_option Elab.async false
set_option linter.all false
set_option maxRecDepth 100000
set_option maxHeartbeats 4000000
/-! sorting lists of tuples of ints of any lengths -/
namespace RkS
open PySem PySem.W PyProof.Rows SrtO TS
section
variable {prog : Program} {w : World} {A : Around} {E : Value → Shared → Prop} {s : Shared} {Q : Bool → Shared → Prop}
theorem lex_any {b fin : Bool} {xs ys : List Value} {ns ms : List Int} (i : Nat) (hx : IntsAre xs ns) (hy : IntsAre ys ms) (hf : fin = decide (ns.length < ms.length)) (h : Q (HT.lexLt ns ms) s) : KatLex prog w A b fin Q (xs.zip ys) i s := by
  induction hx generalizing ys ms i with
  | nil =>
    cases hy with
    | nil =>
      have e : fin = HT.lexLt [] [] := by
        rw [hf] <;> rfl
      rw [← e] at h
      exact kat_nil h
    | cons q u hy =>
      have e : fin = true := by
        rw [hf]
        exact decide_eq_true (by rw [List.length_nil, List.length_cons]; omega)
      subst e
      exact kat_nil h
  | @cons p t xs ns hx ih =>
    cases hy with
    | nil =>
      have e : fin = false := by
        rw [hf]
        exact decide_eq_false (by rw [List.length_nil, List.length_cons]; omega)
      subst e
      exact kat_nil h
    | @cons q u ys ms hy =>
      have hf' : fin = decide (ns.length < ms.length) := by
        rw [hf, List.length_cons, List.length_cons]
        exact decide_eq_decide.mpr (by omega)
      show KatLex prog w A b fin Q ((Value.int p t, Value.int q u) :: xs.zip ys) i s
      rw [HT.lexLt_cons] at h
      refine kat_cons (wpAny_eqBool_int ?_)
      by_cases e : p = q
      · subst e
        rw [beq_self_eq_true]
        rw [if_pos rfl] at h
        refine kat_yes ?_
        first
          | exact ih (i + 1) hy hf' h
          | exact ih _ _ (i + 1) hy hf' h
      · rw [show (p == q) = false from beq_eq_false_iff_ne.mpr e]
        rw [if_neg e] at h
        exact kat_no (oneLt_ints _ h)
theorem lt_general {v u : Value} {ns ms : List Int} (hu : A.units < cLine) (hv : TupInts s.heap v ns) (hw : TupInts s.heap u ms) (h : Q (HT.lexLt ns ms) s) : wpAny (model prog w) A (keyLt' general' v u) Q E s := by
  obtain ⟨a, xs, rfl, p1, i1⟩ := hv
  obtain ⟨b, ys, rfl, p2, i2⟩ := hw
  show wpAny (model prog w) A (oneLt' false (.ref a) (.ref b)) Q E s
  exact kat_one _ _ (HT.lt_tupInts (Q := PySem.W.BoolBack Q) p1 p2 i1 i2 hu h)
theorem call_tup_lt {a b : Addr} {ns ms : List Int} {xs ys : Array Value} {R : Value → Shared → Prop} (p1 : IsTup s.heap a xs) (p2 : IsTup s.heap b ys) (i1 : IntsAre xs.toList ns) (i2 : IntsAre ys.toList ms) (h : R (.bool (HT.lexLt ns ms)) s) :
    wpAny (model prog w) A (call (.builtin "tuple.__lt__") [.ref a, .ref b]) R E s := by
  obtain ⟨⟨cls, dd, data, sl⟩, ho, hc, n, hd⟩ := id p1
  obtain ⟨⟨cls2, dd2, data2, sl2⟩, ho2, hc2, n2, hd2⟩ := id p2
  simp only at hc hd hc2 hd2
  subst hc hd hc2 hd2
  have hT : s.TypeIs (.ref a) "tuple" := ⟨_, ho, rfl⟩
  refine wpAny_call (codeAny_call_builtin PySem.F.slot_tuple_lt.plain PySem.F.entry_tuple_lt (PySem.F.slot_tuple_lt.check _ _ _ _ _ _ _ _ hT (PySem.F.args_tuple_lt_2 _ _) ?_))
  refine wpAny_mono (HT.tuple_lt_ints a b xs ys n n2 dd dd2 sl sl2 ns ms i1 i2 prog w _ (wants R E) s ⟨ho, ho2, h⟩) (fun fin s' q => ?_) fun _ _ z => z
  cases fin with
  | done f => exact q
  | again c => exact q
theorem lt_oneType {v u : Value} {ns ms : List Int} (hu : A.units < cLine) (hv : TupInts s.heap v ns) (hw : TupInts s.heap u ms) (h : Q (HT.lexLt ns ms) s) : wpAny (model prog w) A (keyLt' oneType' v u) Q E s := by
  obtain ⟨a, xs, rfl, p1, i1⟩ := hv
  obtain ⟨b, ys, rfl, p2, i2⟩ := hw
  have hT : s.TypeIs (.ref a) "tuple" := by
    obtain ⟨o, ho, hc, _⟩ := id p1
    exact ⟨o, ho, hc⟩
  rw [keyLt'_oneType, oneLt'_eq]
  simp only [if_true]
  refine wpAny_bind (wpAny_cRoomFor hu ?_)
  refine wpAny_bind (wpAny_callSpecialIfBound?_slot hT PySem.F.slot_tuple_lt (call_tup_lt p1 p2 i1 i2 ?_))
  exact wpAny_truthy_bool h
theorem lt_tuples {b : Bool} {v u : Value} {ns ms : List Int} (hv : TupInts s.heap v ns) (hw : TupInts s.heap u ms) (h : Q (HT.lexLt ns ms) s) : wpAny (model prog w) A (keyLt' (tuples' b) v u) Q E s := by
  obtain ⟨a, xs, rfl, ⟨o, ho, hc, n, hd⟩, i1⟩ := hv
  obtain ⟨a2, ys, rfl, ⟨o2, ho2, hc2, n2, hd2⟩, i2⟩ := hw
  refine kat_lt ho hd ho2 hd2 (lex_any 0 i1 i2 ?_ h)
  have l1 := i1.length
  have l2 := i2.length
  rw [Array.length_toList] at l1 l2
  rw [l1, l2]
end
section
variable {prog : Program} {w : World} {A : Around} {E : Value → Shared → Prop} {s : Shared}
def KOk (κ : SortKind) : Prop := (∃ b, κ = tuples' b) ∨ κ = oneType' ∨ κ = general'
theorem cmp_tups {κ : SortKind} {vs : List Value} {k : Value → List Int} (hu : A.units < cLine) (hp : ∀ v ∈ vs, TupInts s.heap v (k v)) (hk : KOk κ) : Cmp prog w A s κ (fun p => p.1 ∈ vs) (lt2 fun v u => HT.lexLt (k v) (k u)) := by
  intro p q h1 h2
  have t1 := hp _ h1
  have t2 := hp _ h2
  rcases hk with ⟨b, rfl⟩ | rfl | rfl
  · exact lt_tuples (Q := fun r s' => s' = s ∧ r = HT.lexLt (k p.1) (k q.1)) t1 t2 ⟨rfl, rfl⟩
  · exact lt_oneType (Q := fun r s' => s' = s ∧ r = HT.lexLt (k p.1) (k q.1)) hu t1 t2 ⟨rfl, rfl⟩
  · exact lt_general (Q := fun r s' => s' = s ∧ r = HT.lexLt (k p.1) (k q.1)) hu t1 t2 ⟨rfl, rfl⟩
theorem firsts_ne {h : Heap} {k : Value → List Int} : ∀ vs : List Value, (∀ v ∈ vs, TupInts h v (k v) ∧ k v ≠ []) → ∃ fs, KatTups h vs fs ∧ fs.length = vs.length ∧ ∀ f ∈ fs, ∃ n t, f = Value.int n t
  | [], _ => ⟨[], KatTups.nil, rfl, fun f hf => by simp at hf⟩
  | v :: vs, x => by
    obtain ⟨fs, kt, hl, hi⟩ := firsts_ne vs fun u hu => x u (List.mem_cons_of_mem _ hu)
    obtain ⟨⟨a, xs, rfl, ⟨o, ho, hc, n, hdt⟩, i⟩, hn⟩ := x v (List.mem_cons_self ..)
    obtain ⟨y, ys, e⟩ : ∃ y ys, xs.toList = y :: ys := by
      cases q : xs.toList with
      | nil =>
        rw [q] at i
        have l := i.length
        rw [List.length_nil] at l
        exact absurd (List.eq_nil_of_length_eq_zero l.symm) hn
      | cons y ys => exact ⟨y, ys, rfl⟩
    obtain ⟨m, t, hy⟩ := i.all y (by rw [e]; exact List.mem_cons_self ..)
    refine ⟨y :: fs, KatTups.cons ho hc hdt ?_ kt, by simp [hl], ?_⟩
    · have z := congrArg (fun l : List Value => l[0]?) e
      simpa using z
    · intro f hf
      rcases List.mem_cons.mp hf with rfl | hf
      · exact ⟨m, t, hy⟩
      · exact hi f hf
/-- the first items, none where a tuple is empty -/
theorem firsts_any {M : Model} {k : Value → List Int} : ∀ vs : List Value, (∀ v ∈ vs, TupInts s.heap v (k v)) → ∃ fs : List (Option Value), ((∃ v ∈ vs, k v = []) → none ∈ fs) ∧
    ∀ (Q : List (Option Value) → Shared → Prop) (E : Value → Shared → Prop), Q fs s → wpAny M A (vs.mapM firstOfTuple') Q E s
  | [], _ => ⟨[], fun ⟨v, hv, _⟩ => (by simp at hv), fun Q E h => by rw [List.mapM_nil]; exact wpAny_pure h⟩
  | v :: vs, x => by
    obtain ⟨fs, h1, h2⟩ := firsts_any vs fun u hu => x u (List.mem_cons_of_mem _ hu)
    obtain ⟨a, xs, rfl, ⟨o, ho, hc, n, hd⟩, i⟩ := x v (List.mem_cons_self ..)
    refine ⟨xs[0]? :: fs, fun ⟨u, hu, hku⟩ => ?_, fun Q E h => ?_⟩
    · rcases List.mem_cons.mp hu with rfl | hu
      · have l := i.length
        rw [hku, List.length_nil, Array.length_toList] at l
        have : xs[0]? = none := by
          rw [Array.getElem?_eq_none_iff]
          omega
        rw [this]
        exact List.mem_cons_self ..
      · exact List.mem_cons_of_mem _ (h1 ⟨u, hu, hku⟩)
    · rw [List.mapM_cons]
      refine wpAny_bind ?_
      rw [kas_first_eq]
      refine wpAny_bind (Looks.here (show Looks M s.heap (typeOf (.ref a)) o.cls from (Looks.ld ho).andThen .now) ?_)
      rw [hc, if_neg (by first | decide | simp)]
      refine wpAny_bind (listItems_at ho hd (wpAny_pure ?_))
      exact wpAny_bind (h2 (fun bs s' => wpAny M A (pure (xs[0]? :: bs)) Q E s') E (wpAny_pure h))
theorem kind_any {M : Model} {vs : List Value} {k : Value → List Int} (h2 : 2 ≤ vs.length) (hp : ∀ v ∈ vs, TupInts s.heap v (k v)) :
    ∃ κ, KOk κ ∧ ∀ (Q : SortKind → Shared → Prop) (E : Value → Shared → Prop), Q κ s → wpAny M A (keyKind' vs.toArray) Q E s := by
  by_cases hall : ∀ v ∈ vs, k v ≠ []
  · obtain ⟨fs, kt, hl, hi⟩ := firsts_ne vs fun v hv => ⟨hp v hv, hall v hv⟩
    refine ⟨_, .inl ⟨_, rfl⟩, fun Q E h => kat_kind (T := Value.type "int") kt (by omega) (fun f hf => ?_) rfl h⟩
    obtain ⟨n, t, rfl⟩ := hi f hf
    exact Looks.of_pure rfl
  · have hex : ∃ v ∈ vs, k v = [] := by
      apply Classical.byContradiction
      intro hn
      exact hall fun v hv e => hn ⟨v, hv, e⟩
    obtain ⟨fs, h1, hf⟩ := firsts_any (M := M) (A := A) vs hp
    have hno := h1 hex
    have hany : ¬ (fs.toArray.all fun x => x.isSome) = true := by
      intro z
      rw [List.all_toArray, List.all_eq_true] at z
      exact absurd (z _ hno) (by simp)
    have hT : ∀ v ∈ vs, Looks M s.heap (typeOf v) (.type "tuple") := fun v hv => by
      obtain ⟨a, xs, rfl, ⟨o, ho, hc, _⟩, _⟩ := hp v hv
      have L : Looks M s.heap (typeOf (.ref a)) o.cls := (Looks.ld ho).andThen .now
      rw [hc] at L
      exact L
    by_cases h0 : (fs.toArray[0]?.bind id).isSome = true
    · refine ⟨general', .inr (.inr rfl), fun Q E h => ?_⟩
      rw [kat_kind_eq, List.mapM_toArray, map_eq_pure_bind]
      refine wpAny_bind (wpAny_bind (hf _ _ (wpAny_pure ?_)))
      rw [if_neg hany, if_pos h0]
      exact wpAny_pure h
    · refine ⟨oneType', .inr (.inl rfl), fun Q E h => ?_⟩
      rw [kat_kind_eq, List.mapM_toArray, map_eq_pure_bind]
      refine wpAny_bind (wpAny_bind (hf _ _ (wpAny_pure ?_)))
      rw [if_neg hany, if_neg h0]
      rw [oneTypeOnly'_eq, List.mapM_toArray, map_eq_pure_bind]
      refine wpAny_bind (wpAny_bind (wpAny_bind (kas_mapM (r := Value.type "tuple") _ (fun v hv Q' hq => (hT v hv).here hq) (wpAny_pure ?_))))
      obtain ⟨v1, r, rfl⟩ : ∃ v1 r, vs = v1 :: r := by
        match vs, h2 with
        | v1 :: r, _ => exact ⟨v1, r, rfl⟩
      have hall2 : ((List.map (fun _ => Value.type "tuple") (v1 :: r)).toArray.all fun x => x == Value.type "tuple") = true := by
        simp only [List.all_toArray, List.all_map, List.all_eq_true]
        intro _ _
        rfl
      have h00 : (List.map (fun _ => Value.type "tuple") (v1 :: r)).toArray[0]? = some (Value.type "tuple") := by simp
      rw [h00]
      simp only [hall2, if_true]
      exact wpAny_pure (wpAny_pure h)
theorem tups_sortable {a : Addr} {vs : List Value} {k : Value → List Int} (hu : A.units < cLine) (h2 : 2 ≤ vs.length) (hp : ∀ v ∈ vs, TupInts s.heap v (k v)) (ha : ∀ o, s.heap.get? a = some o → o.cls ≠ .type "tuple") : SortableO prog w A s a vs fun v u => HT.lexLt (k v) (k u) := by
  intro h' keep
  have hp' : ∀ v ∈ vs, TupInts h' v (k v) := fun v hm => (hp v hm).keeps fun b o e c => keep b o (fun z => by subst z; exact ha o e c) e
  obtain ⟨κ, hk, hq⟩ := kind_any (M := model prog w) (A := A) (s := { s with heap := h' }) h2 hp'
  exact ⟨κ, fun Q E h => hq Q E h, cmp_tups (s := { s with heap := h' }) hu hp' hk⟩
theorem units2 (A : Around) : A.in1.in1.units ≤ A.units + 8 := by
  show A.units + 1 + 1 ≤ A.units + 8
  omega
/-- sorted(l) -/
theorem sorted_lex {l : Addr} {vs : List Value} {k : Value → List Int} {Q : Value → Shared → Prop} (hu : A.units + 8 < cLine) (hl : s.heap.IsList l vs.toArray) (hz : vs.length ≤ sizeLine) (hp : ∀ v ∈ vs, TupInts s.heap v (k v))
    (h : ∀ (h' : Heap) (d : Addr) (out : List Value), Srtd (fun v u => HT.lexLt (k v) (k u)) out → out.Perm vs → (∀ b o, s.heap.get? b = some o → h'.get? b = some o) → s.heap.objs.size ≤ d → (∃ n, h'.get? d = some (seqObj "list" out.toArray n)) → Q (.ref d) { s with heap := h' }) :
    wpAny (model prog w) A (call (.builtin "sorted") [.ref l]) Q E s := by
  refine sorted_ord (NtL.swo_lexL k) hl hz (fun h2 h₁ a ha kk => ?_) fun out hs hb => ?_
  · refine tups_sortable (s := { s with heap := h₁ }) (Nat.lt_of_le_of_lt (units2 A) hu) h2 (fun v hm => (hp v hm).keeps fun b o e _ => (kk b o e).2) fun o e => ?_
    have e' : some o = some (seqObj "list" vs.toArray 0) := e.symm.trans ha
    cases e'
    intro c
    exact absurd (Value.type.inj c) (by decide)
  · exact h _ _ out hs hb.perm (fun b o e => sortedAll_old e) (Nat.le_succ _) (sortedAll_at s.heap vs out.toArray)
end
end RkS
end PartRkS1

section PartRkS2
set_option Elab.async false
set_option linter.all false
set_option maxRecDepth 100000
set_option maxHeartbeats 4000000
/-! sorted: the rules -/
namespace Rk
abbrev tupI (ns : List Int) : PySem.PyData := .tuple (ns.map .int)
abbrev tabD (t : List (List Int)) : PySem.PyData := .tuple (t.map tupI)
end Rk
namespace RkS
open PySem PySem.Spec PyProof.Rows L2 SrtO Rk
/-! ### the order -/
theorem lexLt_irrefl : ∀ a : List Int, HT.lexLt a a = false
  | [] => rfl
  | x :: r => by rw [HT.lexLt_cons, if_pos rfl]; exact lexLt_irrefl r
theorem lexLt_tot : ∀ a b : List Int, HT.lexLt a b = false → HT.lexLt b a = false → a = b
  | [], [], _, _ => rfl
  | [], _ :: _, h, _ => by rw [HT.lexLt_nil_cons] at h; cases h
  | _ :: _, [], _, h => by rw [HT.lexLt_nil_cons] at h; cases h
  | x :: r, y :: t, h1, h2 => by
    rw [HT.lexLt_cons] at h1 h2
    by_cases e : x = y
    · subst e
      rw [if_pos rfl] at h1 h2
      rw [lexLt_tot r t h1 h2]
    · rw [if_neg e] at h1
      rw [if_neg (fun z => e z.symm)] at h2
      have := of_decide_eq_false h1
      have := of_decide_eq_false h2
      omega
theorem swoI : Swo HT.lexLt := NtL.swo_lexL (α := List Int) id
abbrev SrtL (l : List (List Int)) : Prop := Srtd HT.lexLt l
theorem srt_uniq : ∀ {l m : List (List Int)}, SrtL l → SrtL m → l.Perm m → l = m
  | [], m, _, _, p => (List.nil_perm.mp p).symm
  | x :: l, [], _, _, p => absurd (List.perm_nil.mp p) (by simp)
  | x :: l, y :: m, hl, hm, p => by
    have hx : x ∈ y :: m := p.mem_iff.mp List.mem_cons_self
    have hy : y ∈ x :: l := p.mem_iff.mpr List.mem_cons_self
    have e1 : HT.lexLt x y = false := by
      rcases List.mem_cons.mp hx with rfl | h
      · exact lexLt_irrefl _
      · exact srtd_head hm x h
    have e2 : HT.lexLt y x = false := by
      rcases List.mem_cons.mp hy with rfl | h
      · exact lexLt_irrefl _
      · exact srtd_head hl y h
    have e := lexLt_tot x y e1 e2
    subst e
    rw [srt_uniq (List.pairwise_cons.mp hl).2 (List.pairwise_cons.mp hm).2 (List.Perm.cons_inv p)]
def insL (x : List Int) : List (List Int) → List (List Int)
  | [] => [x]
  | y :: r => if HT.lexLt y x = true then y :: insL x r else x :: y :: r
def sortL : List (List Int) → List (List Int)
  | [] => []
  | x :: r => insL x (sortL r)
theorem ins_perm (x : List Int) : ∀ l, (insL x l).Perm (x :: l)
  | [] => List.Perm.refl _
  | y :: r => by
    unfold insL
    split
    · exact ((ins_perm x r).cons y).trans (List.Perm.swap x y r)
    · exact List.Perm.refl _
theorem sort_perm : ∀ l, (sortL l).Perm l
  | [] => List.Perm.refl _
  | x :: r => (ins_perm x (sortL r)).trans ((sort_perm r).cons x)
theorem ins_srt (x : List Int) : ∀ l, SrtL l → SrtL (insL x l)
  | [], _ => List.pairwise_singleton _ _
  | y :: r, h => by
    unfold insL
    split
    · rename_i hy
      refine List.pairwise_cons.mpr ⟨fun z hz => ?_, ins_srt x r (List.pairwise_cons.mp h).2⟩
      rcases List.mem_cons.mp ((ins_perm x r).mem_iff.mp hz) with rfl | hz
      · exact swoI.asym _ _ hy
      · exact srtd_head h z hz
    · rename_i hy
      have hy' : HT.lexLt y x = false := by
        cases q : HT.lexLt y x with
        | true => exact absurd q hy
        | false => rfl
      refine List.pairwise_cons.mpr ⟨fun z hz => ?_, h⟩
      rcases List.mem_cons.mp hz with rfl | hz
      · exact hy'
      · exact swoI.tr _ _ _ hy' (srtd_head h z hz)
theorem sort_srt : ∀ l, SrtL (sortL l)
  | [] => List.Pairwise.nil
  | x :: r => ins_srt x _ (sort_srt r)

/-! ### sorted(xs) -/
section
variable {X : Cx} {pins : List (Addr × Obj)} {σ : L2.St} {H : Hp} {s : Shared} {K : PySem.W.Frag}
theorem tup_ref {N : Hp} {ns : List Int} {v : V} (h : Dp K N v (tupI ns)) : ∃ t, v = .ref t ∧ SqT K N t (ns.map V.int) := by
  obtain ⟨a, xs, rfl, hs, hd⟩ := is_tup (K := K) (N := N) h
  rw [ints_dpAll hd] at hs
  exact ⟨a, rfl, hs⟩
theorem ref_tup {N : Hp} {ns : List Int} {t : Addr} (h : SqT K N t (ns.map V.int)) : Dp K N (.ref t) (tupI ns) := .tup h (dpAll_ints ns)
theorem refs_all {N : Hp} : ∀ {ks : List (List Int)} {xs : List V}, DpAll K N xs (ks.map tupI) → ∀ x ∈ xs, ∃ a, x = V.ref a
  | [], _, h, x, hx => by cases h; simp at hx
  | k :: ks, _, h, x, hx => by
    cases h with
    | cons h1 h2 =>
      rcases List.mem_cons.mp hx with rfl | hx
      · obtain ⟨t, e, _⟩ := tup_ref h1
        exact ⟨t, e⟩
      · exact refs_all h2 x hx
/-- the values' ints -/
theorem ints_are {M : Hp} (e : Ex M H) (I : Inv X pins σ H s) : ∀ {ks : List (List Int)} {xs : List V} {us : List Value}, DpAll X.K M xs (ks.map tupI) → Vals xs us → us.map (TS.intsOf s.heap) = ks ∧ (∀ u ∈ us, TS.TupInts s.heap u (TS.intsOf s.heap u)) ∧
    ∀ u ∈ us, Dp X.K M (bkV u) (tupI (TS.intsOf s.heap u))
  | [], _, _, h, r => by
    cases h
    cases r
    exact ⟨rfl, fun u hu => by simp at hu, fun u hu => by simp at hu⟩
  | k :: ks, _, _, h, r => by
    cases h with
    | cons h1 h2 =>
      cases r with
      | cons r1 r2 =>
        obtain ⟨e', a, b⟩ := ints_are e I h2 r2
        obtain ⟨t, rfl, hs⟩ := tup_ref h1
        cases r1
        have ti := tupI_raw I (sqT_ex e hs)
        have ei := ti.ints
        refine ⟨by rw [List.map_cons, ei, e'], fun u hu => ?_, fun u hu => ?_⟩
        · rcases List.mem_cons.mp hu with rfl | hu
          · rw [ei]
            exact ti
          · exact a u hu
        · rcases List.mem_cons.mp hu with rfl | hu
          · rw [ei]
            exact ref_tup hs
          · exact b u hu
theorem dpAll_map {N : Hp} {α : Type} {f : α → V} {g : α → PyData} : ∀ {l : List α}, (∀ x ∈ l, Dp K N (f x) (g x)) → DpAll K N (l.map f) (l.map g)
  | [], _ => .nil
  | x :: l, h => .cons (h x List.mem_cons_self) (dpAll_map fun y hy => h y (List.mem_cons_of_mem _ hy))
/-- sorted(xs), xs a list of tuples of ints -/
def rSortL (K : PySem.W.Frag) : List V → Hp → VK → Prop := fun vs H Q => ∃ (a : Addr) (xs : List V) (ks : List (List Int)) (M : Hp), vs = [V.ref a] ∧ SqL K H a xs ∧ Ex M H ∧ DpAll K M xs (ks.map tupI) ∧
  ∀ (p : Addr) (ys : List V), H p = none → DpAll K M ys ((sortL ks).map tupI) → Q (.ref p) (upd H p (.lst ys))
theorem cr_sortL (hu : X.A.units + 8 < cLine) (hK : X.K = K := by rfl) : CallR X (.builtin "sorted") (rSortL K) := by
  subst hK
  intro pins s σ H vs us Q I r h
  obtain ⟨a, xs, ks, M, rfl, hs, eM, hd, q⟩ := h
  obtain ⟨its, rv, hl, hz⟩ := I.list hs
  rw [Vals.ref1 r]
  obtain ⟨e1, e2⟩ := bkV_refs rv (refs_all hd)
  obtain ⟨i1, i2, i3⟩ := ints_are eM I hd rv
  refine sorted_lex (k := TS.intsOf s.heap) hu hl.isList (by rw [← rv.length]; exact hz) i2 fun h' d out hs' hp kk hd' ⟨n, ho⟩ => ?_
  have h3 : ∀ u ∈ out, ∃ a, u = Value.ref a := fun u hu => e2 u (hp.mem_iff.mp hu)
  have hlen : (out.map bkV).length ≤ sizeLine := by
    rw [List.length_map, hp.length_eq, ← rv.length]
    exact hz
  refine ⟨.ref d, upd H d (.lst (out.map bkV)), I.laid (t' := s.toks) kk hd' ⟨hlen, out, n, bkV_vals h3, ho⟩, rfl, q d _ (I.hok.fresh hd') ?_⟩
  have em : out.map (TS.intsOf s.heap) = sortL ks := by
    refine srt_uniq (List.pairwise_map.mpr hs') (sort_srt ks) ?_
    refine (hp.map _).trans ?_
    rw [i1]
    exact (sort_perm ks).symm
  rw [← em, List.map_map]
  exact dpAll_map fun u hu => i3 u (hp.mem_iff.mp hu)

/-! ### sorted(set) -/
theorem sorted_setX {P : Program} {w : World} {A : Around} {E : Value → Shared → Prop} {s : Shared} {a : Addr} {L : List (Addr × List Int)} {es : Array (Int × Value)} {ep : Nat} {t : SetTable} {Q : Value → Shared → Prop} (R : SetTR P w s.heap a L es ep t) (hh : A.handled = none) (hu : A.units + 8 < cLine)
    (hQ : ∀ s' p (out : Array Value) (c : Nat) (L' : List (Addr × List Int)), (∀ b o, s.heap.get? b = some o → s'.heap.get? b = some o) → s'.gens = s.gens → s'.os = s.os → s.heap.objs.size ≤ p →
      s'.heap.get? p = some (seqObj "list" out c) → out.toList = L'.map (fun q => Value.ref q.1) → L'.Perm L → L'.Pairwise (fun q r => HT.lexLt r.2 q.2 = false) → Q (.ref p) s') :
    wpAny (model P w) A (call (.builtin "sorted") [.ref a]) Q E s := by
  obtain ⟨o, ho, hex, hd⟩ := R.ob
  have hsz := R.size
  have hfew := R.few
  refine Calls.call_function_entry kind_sorted plain_sorted entry_sorted (args_sorted1 _) ?_
  unfold Builtin.«sorted»
  refine wpAny_bind (m := checkCount "sorted" 1 1 _) (wpAny_pure ?_)
  refine wpAny_bind (collect_set (A := A.in1) hh ⟨o, ho, hex.1, hd⟩ R.fits (by unfold scanBound; omega) R.tab.ris R.led fun s1 vs k1 hz g1 o1 pm => ?_)
  have hes : es.toList.map (·.2) = L.map fun q => Value.ref q.1 := by
    rw [R.rows]
    unfold rowsOf
    rw [List.map_map] <;> rfl
  rw [hes] at pm
  have ord : ∀ vs : List Value, (∀ v ∈ vs, ∃ q ∈ L, v = Value.ref q.1) → ∃ L1 : List (Addr × List Int), vs = L1.map (fun q => Value.ref q.1) ∧ ∀ q ∈ L1, q ∈ L := by
    intro vs
    induction vs with
    | nil => intro _; exact ⟨[], rfl, fun q hq => (by cases hq)⟩
    | cons v vs ih =>
      intro hv
      obtain ⟨q, hq, e⟩ := hv v List.mem_cons_self
      obtain ⟨L1, e1, hs⟩ := ih fun u hu => hv u (List.mem_cons_of_mem _ hu)
      refine ⟨q :: L1, by rw [List.map_cons, e, e1], fun r hr => ?_⟩
      rcases List.mem_cons.mp hr with z | z
      · rw [z]; exact hq
      · exact hs r z
  have one : ∀ q ∈ L, ∀ r ∈ L, q.1 = r.1 → q = r := fun q hq r hr e => by
    have a1 := R.tup q hq
    have a2 := R.tup r hr
    rw [e] at a1
    have e2 : q.2 = r.2 := a1.inj a2
    exact Prod.ext e e2
  have perm_of : ∀ L1 : List (Addr × List Int), (∀ q ∈ L1, q ∈ L) → (L1.map (fun q => Value.ref q.1)).Perm (L.map fun q => Value.ref q.1) → L1.Perm L := by
    intro L1 hs pm1
    have nL : L.Nodup := nodup_of_map R.nd
    have nref : (L.map fun q => Value.ref q.1).Nodup := by
      refine List.pairwise_map.mpr (List.Pairwise.imp_of_mem (fun {q r} hq hr hne e => ?_) nL)
      injection e with e
      exact hne (one q hq r hr e)
    have n1 : L1.Nodup := nodup_of_map (pm1.nodup_iff.mpr nref)
    refine (List.perm_ext_iff_of_nodup n1 nL).mpr fun q => ⟨hs q, fun hq => ?_⟩
    have hm : Value.ref q.1 ∈ L1.map (fun q => Value.ref q.1) := pm1.mem_iff.mpr (List.mem_map.mpr ⟨q, hq, rfl⟩)
    obtain ⟨r, hr, e⟩ := List.mem_map.mp hm
    injection e with e
    rw [← one r (hs r hr) q hq e]
    exact hr
  have hvl : vs.length < 64 := by rw [pm.length_eq, List.length_map]; exact hfew
  refine wpAny_bind (wpAny_newList ?_ (by rw [sizeLine_eq]; omega))
  have hoL : (s1.heap.push (seqObj "list" vs.toArray 0)).get? s1.heap.objs.size = some (seqObj "list" vs.toArray 0) := Heap.get?_push_size _ rfl
  have tk : ∀ q ∈ L, TS.TupInts (s1.heap.push (seqObj "list" vs.toArray 0)) (.ref q.1) q.2 := fun q hq => tupInts_of (P := P) (w := w) (isT_keep (R.tup q hq) fun b u e => Heap.get?_push_of_some _ (k1 b u e))
  have x : ∀ v ∈ vs, TS.TupInts (s1.heap.push (seqObj "list" vs.toArray 0)) v (TS.intsOf (s1.heap.push (seqObj "list" vs.toArray 0)) v) := fun v hv => by
    obtain ⟨q, hq, e⟩ := List.mem_map.mp (pm.mem_iff.mp hv)
    rw [← e, (tk q hq).ints]
    exact tk q hq
  refine wpAny_bind (wpAny_holding (wpAny_call_entry slot_list_sort ⟨_, hoL, rfl⟩ entry_list_sort (list_sort_ord (s := { s1 with heap := s1.heap.push (seqObj "list" vs.toArray 0) }) (NtL.swo_lexL (TS.intsOf (s1.heap.push (seqObj "list" vs.toArray 0)))) hoL (by rw [sizeLine_eq]; omega)
    (fun h2 => tups_sortable (Nat.lt_of_le_of_lt (units2 A) hu) h2 x fun o e => ?_) fun out hs hb => ⟨_, rfl, ?_⟩) (args_list_sort _)))
  · have e' : some o = some (seqObj "list" vs.toArray 0) := e.symm.trans hoL
    cases e'
    intro c
    exact absurd (Value.type.inj c) (by decide)
  obtain ⟨c, hc⟩ := sortedHeap_at (vs := vs) (out := out.toArray) hoL
  obtain ⟨L', e', hs'⟩ := ord out fun v hv => by
    obtain ⟨q, hq, e⟩ := List.mem_map.mp (pm.mem_iff.mp (hb.perm.mem_iff.mp hv))
    exact ⟨q, hq, e.symm⟩
  have pL : L'.Perm L := perm_of L' hs' (by rw [← e']; exact hb.perm.trans pm)
  have pw : L'.Pairwise (fun q r => HT.lexLt r.2 q.2 = false) := by
    rw [e'] at hs
    refine List.Pairwise.imp_of_mem (fun {q r} hq hr hle => ?_) (List.pairwise_map.mp hs)
    have f1 : TS.intsOf (s1.heap.push (seqObj "list" vs.toArray 0)) (.ref q.1) = q.2 := (tk q (hs' q hq)).ints
    have f2 : TS.intsOf (s1.heap.push (seqObj "list" vs.toArray 0)) (.ref r.1) = r.2 := (tk r (hs' r hr)).ints
    rw [← f1, ← f2]
    exact hle
  refine wpAny_pure ⟨_, rfl, hQ _ s1.heap.objs.size out.toArray c L' (fun b u e => ?_) g1 o1 hz hc (by simpa using e') pL pw⟩
  have q := k1 b u e
  have hlt := Heap.lt_size q
  show (sortedHeap (s1.heap.push (seqObj "list" vs.toArray 0)) s1.heap.objs.size vs out.toArray).get? b = some u
  rw [sortedHeap_old (Nat.ne_of_lt hlt) (by rw [size_push']; exact Nat.lt_succ_of_lt hlt)]
  exact Heap.get?_push_of_some _ q
def rSortS (K : PySem.W.Frag) (P : Program) (w : World) : List V → Hp → VK → Prop := fun vs H Q => ∃ (a : Addr) (L : List (Addr × List Int)) (M : Hp), vs = [V.ref a] ∧ H a = some (SetTO P w a L) ∧ Ex M H ∧ (∀ p ∈ L, SqT K M p.1 (p.2.map V.int)) ∧
  ∀ (p : Addr) (ys : List V) (ms : List (List Int)), H p = none → ms.Perm (L.map (·.2)) → ms.Nodup → SrtL ms → DpAll K M ys (ms.map tupI) → Q (.ref p) (upd H p (.lst ys))
theorem cr_sortS (hc : X.calm = true) (hu : X.A.units + 8 < cLine) (hK : X.K = K := by rfl) : CallR X (.builtin "sorted") (rSortS K X.prog X.w) := by
  subst hK
  intro pins s σ H vs us Q I r h
  obtain ⟨a, L, M, rfl, ha, eM, hk, q⟩ := h
  have R0 : SetT0 X.prog X.w s.heap a L := (I.hok a _ ha).1
  obtain ⟨es, ep, t, R⟩ := R0.full fun p hp => I.isT (sqT_ex eM (hk p hp))
  rw [Vals.ref1 r]
  refine sorted_setX R (I.ok.hd hc) hu fun s' p out c L' k g o hp hg hout pm pw => ?_
  have hfew : L'.length < 64 := by rw [pm.length_eq]; exact R.few
  have hlen : (L'.map fun q => V.ref q.1).length ≤ sizeLine := by rw [List.length_map, sizeLine_eq]; omega
  have hn : H p = none := I.hok.fresh hp
  have hv : Vals (L'.map fun q => V.ref q.1) out.toList := by rw [hout]; exact vals_of_refs L'
  have J : Inv X pins σ (upd H p (.lst (L'.map fun q => V.ref q.1))) { s with heap := s'.heap, gens := s'.gens, drawn := s'.drawn, toks := s'.toks } :=
    I.call (ch := []) (Un.laid k hp hn) (I.hok.laid k hp ⟨hlen, out.toList, c, hv, hg⟩) (by rw [g]; exact I.bare) (fun _ z => nomatch z)
  have e : s' = { s with heap := s'.heap, gens := s'.gens, drawn := s'.drawn, toks := s'.toks } := by
    cases s'
    cases s
    cases o
    rfl
  rw [e]
  refine ⟨.ref p, _, J, rfl, q p _ (L'.map (·.2)) hn (pm.map _) ((pm.map (·.2)).nodup_iff.mpr R.nd) (List.pairwise_map.mpr pw) ?_⟩
  rw [List.map_map]
  exact dpAll_map fun u hu => ref_tup (hk u (pm.mem_iff.mp hu))
end
end RkS
end PartRkS2

section PartRkK
set_option Elab.async false
set_option linter.all false
set_option maxRecDepth 100000
set_option maxHeartbeats 4000000
/-! Rk: rules with the written part named -/
namespace Rk
open PySem PySem.Spec PyProof.Rows L2
section
variable {X : Cx} {K : PySem.W.Frag}
theorem ixL (h : X.K = K := by rfl) : IxR X (rIxL K) := by
  subst h
  exact ix_list
theorem ixT (h : X.K = K := by rfl) : IxR X (rIxT K) := by
  subst h
  exact ix_tup
theorem op_inK (h : X.K = K := by rfl) : OpR X (compareOp .In) (rIn K false) := by
  subst h
  exact op_in_seq
theorem op_niK (h : X.K = K := by rfl) : OpR X (compareOp .NotIn) (rIn K true) := by
  subst h
  exact op_notIn_seq
abbrev rLen (K : PySem.W.Frag) : List V → Hp → VK → Prop := fun xs H Q => ∃ p ys, xs = [.ref p] ∧ (SqL K H p ys ∨ SqT K H p ys) ∧ Q (.int ys.length) H
theorem cr_len (h : X.K = K := by rfl) : CallR X (.builtin "len") (rLen K) := by
  subst h
  exact call_len_seq
theorem cr_sumK (hc : X.calm = true) (h : X.K = K := by rfl) : CallR X (.builtin "sum") (rSum K) := by
  subst h
  exact cr_sum hc
theorem cr_anyK (hc : X.calm = true) (h : X.K = K := by rfl) : CallR X (.builtin "any") (rAny K) := by
  subst h
  exact cr_any hc
theorem cr_allK (hc : X.calm = true) (h : X.K = K := by rfl) : CallR X (.builtin "all") (rAll K) := by
  subst h
  exact cr_all hc
theorem cr_isi (h : X.K = K := by rfl) : CallR X (.builtin "isinstance") (rIsi K) := by
  subst h
  exact call_isi
theorem op_catAK (h : X.K = K := by rfl) : OpR X (binaryOp .Add) (rCatA K) := by
  subst h
  exact op_catA
theorem sl_tupK (h : X.K = K := by rfl) : SlR X (rSlA K) := by
  subst h
  exact sl_tupA
theorem sl_listK (h : X.K = K := by rfl) : SlR X (rSlL K) := by
  subst h
  exact sl_list
theorem pi_listK {tg l : Expr} {tl : TE} (hl : PE X l tl) (h : X.K = K := by rfl) : PI X tg l (iList K tl) := by
  subst h
  exact pi_list hl
theorem pi_tupK {tg l : Expr} {tl : TE} (hl : PE X l tl) (h : X.K = K := by rfl) : PI X tg l (iTup K tl) := by
  subst h
  exact pi_tup hl
theorem op_eqDK (hu : X.A.units + 64 < cLine) (h : X.K = K := by rfl) : OpR X (compareOp .Eq) (rEqD K) := by
  subst h
  exact op_eqD hu
theorem op_neDK (hu : X.A.units + 64 < cLine) (h : X.K = K := by rfl) : OpR X (compareOp .NotEq) (rNeD K) := by
  subst h
  exact op_neD hu
theorem pe_fldK {e : Expr} {ta : TE} {f : Str} {pos : Pos} (he : PE X e ta) (hb : attributeBase e f X.env (eval e X.env) = eval e X.env) (h : X.K = K := by rfl) : PE X (.Attribute e f pos) (tFld K ta f) := by
  subst h
  exact pe_fld he hb
abbrev rTupOf (K : PySem.W.Frag) : List V → Hp → VK → Prop := fun xs H Q => ∃ p ys, xs = [.ref p] ∧ ((SqL K H p ys ∧ ∀ l, H l = none → Q (.ref l) (upd H l (.tup ys))) ∨ (SqT K H p ys ∧ Q (.ref p) H))
theorem cr_tupOf (h : X.K = K := by rfl) : CallR X (.type "tuple") (rTupOf K) := by
  subst h
  exact call_tuple_of
/-- xs + ys of lists that are read -/
def rCatL (K : PySem.W.Frag) : R2 := fun x y H Q => ∃ l b xs zs, x = .ref l ∧ y = .ref b ∧ SqL K H l xs ∧ SqL K H b zs ∧ xs.length + zs.length ≤ sizeLine ∧ ∀ p, H p = none → Q (.ref p) (upd H p (.lst (xs ++ zs)))
theorem op_catL (h : X.K = K := by rfl) : OpR X (binaryOp .Add) (rCatL K) := by
  subst h
  intro pins s σ H x y v u Q I rx ry h
  obtain ⟨l, b, xs, zs, rfl, rfl, hH, hB, hz, q⟩ := h
  cases rx
  cases ry
  obtain ⟨its, r, p1, hl⟩ := I.list hH
  obtain ⟨its2, r2, p2, hl2⟩ := I.list hB
  have e1 := r.length
  have e2 := r2.length
  obtain ⟨⟨cls, dd, data, sl⟩, n, ho, hc, _, hd⟩ := p1
  obtain ⟨⟨cls2, dd2, data2, sl2⟩, n2, ho2, hc2, _, hd2⟩ := p2
  simp only at hc hd hc2 hd2
  subst hc hd hc2 hd2
  refine concat_meets ⟨_, ho, rfl⟩ ⟨_, ho2, rfl⟩ noFill_list_add seq_list_add PySem.F.slot_list_add PySem.F.entry_list_add (PySem.F.args_list_add_2 _ _) (list_addW l b its.toArray its2.toArray n n2 dd dd2 sl sl2 (by rw [List.size_toArray, List.size_toArray]; omega)) ⟨ho, ho2, ?_⟩
  have ea : its.toArray ++ its2.toArray = (its ++ its2).toArray := by simp
  rw [ea]
  exact ⟨.ref _, _, I.lnew (t' := s.toks) (r.append r2) (by rw [List.length_append]; omega), rfl, q _ I.fresh⟩
def rLtX (K : PySem.W.Frag) : R2 := fun x y H Q => rI0 (fun i j => .bl (decide (i < j))) x y H Q ∨ rLtT K x y H Q
theorem op_ltX (hu : X.A.units < cLine) (h : X.K = K := by rfl) : OpR X (compareOp .Lt) (rLtX K) := by
  subst h
  exact op_lt.or (op_ltT hu)
end
end Rk
end PartRkK

section PartRkM
set_option Elab.async false
set_option linter.all false
set_option maxRecDepth 100000
set_option maxHeartbeats 4000000
/-! Rk: cells that change -/
namespace Rk
open PySem PySem.Spec PyProof.Rows L2 RkS
/-- a cell of one's own: new since H0, not known, holding o -/
structure Cl (H0 N H : Hp) (p : Addr) (o : HO) : Prop where
  f : H0 p = none
  n : N p = none
  h : H p = some o
section
variable {K : PySem.W.Frag} {N0 H0 N H N' H' : Hp} {p q : Addr} {o o' : HO}
theorem Cl.go (c : Cl H0 N H p o) (g : Go N H N' H') : Cl H0 N' H' p o := ⟨c.f, g.no c.n c.h, g.h _ _ c.h⟩
theorem Cl.mk' (g : Go N H N' H') (hp : H' p = none) : Go N H N' (upd H' p o) ∧ Cl H N' (upd H' p o) p o :=
  have n1 : N' p = none := g.s.back hp
  have h1 : H p = none := g.h.back hp
  ⟨⟨g.n, g.h.mut h1, g.s.mut n1, g.f⟩, ⟨h1, n1, upd_same⟩⟩
theorem Go.fresh (g : Go N0 H0 N H) (hp : H p = none) : H0 p = none := g.h.back hp
theorem Cl.early (g : Go N0 H0 N H) (c : Cl H N' H' p o) : Cl H0 N' H' p o := ⟨g.h.back c.f, c.n, c.h⟩
theorem Go.put (g : Go N0 H0 N H) (c : Cl H0 N H p o) : Go N0 H0 N (upd H p o') := ⟨g.n, g.h.mut c.f, g.s.mut c.n, g.f⟩
theorem Cl.put (c : Cl H0 N H p o) : Cl H0 N (upd H p o') p o' := ⟨c.f, c.n, upd_same⟩
theorem Cl.off (c : Cl H0 N H q o) (h : q ≠ p) : Cl H0 N (upd H p o') q o := ⟨c.f, c.n, by rw [upd_ne h]; exact c.h⟩
/-- known from now on -/
theorem Go.know (g : Go N0 H0 N H) (c : Cl H0 N H p o) : Go N0 H0 (upd N p o) H := ⟨g.n.trans (Ex.new c.n), g.h, fun a u h => by
    by_cases ha : a = p
    · subst ha
      rw [upd_same] at h
      cases h
      exact c.h
    · rw [upd_ne ha] at h
      exact g.s a u h, fun a u h => by
    by_cases ha : a = p
    · subst ha
      exact .inr c.f
    · rw [upd_ne ha] at h
      exact g.f a u h⟩
theorem ex_know (e : Ex N H) (h : H p = some o) : Ex (upd N p o) H := fun a u hu => by
  by_cases ha : a = p
  · subst ha
    rw [upd_same] at hu
    cases hu
    exact h
  · rw [upd_ne ha] at hu
    exact e a u hu
/-- known for a while -/
theorem Go.unknow (g : Go N0 H0 N H) (c : Cl H0 N H p o) (g2 : Go (upd N p o) H N' H') : Go N0 H0 (erase N' p) H' ∧ Cl H0 (erase N' p) H' p o ∧ N' p = some o ∧ Ex N (erase N' p) :=
  have e1 : Ex N (erase N' p) := fun a u h => by
    have ha : a ≠ p := ne_of_none h c.n
    rw [erase_ne ha]
    exact g2.n a u (by rw [upd_ne ha]; exact h)
  ⟨⟨g.n.trans e1, g.h.trans g2.h, fun a u h => by
    by_cases ha : a = p
    · subst ha
      rw [erase_same] at h
      cases h
    · rw [erase_ne ha] at h
      exact g2.s a u h, fun a u h => by
    by_cases ha : a = p
    · subst ha
      rw [erase_same] at h
      cases h
    · rw [erase_ne ha] at h
      rcases g2.f a u h with h1 | h1
      · rw [upd_ne ha] at h1
        exact g.f a u h1
      · exact .inr (g.h.back h1)⟩, ⟨c.f, erase_same, g2.h _ _ c.h⟩, g2.n _ _ upd_same, e1⟩
/-- what was read off a wider base is forgotten -/
theorem Go.weak {B B' : Hp} (e : Ex N B) (g : Go B H B' H') : Go N H N H' := ⟨Ex.refl _, g.h, e.trans (g.n.trans g.s), fun _ _ h => .inl h⟩
theorem dp_erase {xs : List V} {ns : List Int} {v : V} (h : Dp K N v (tupI ns)) (hp : N p = some (.lst xs)) : Dp K (erase N p) v (tupI ns) := by
  obtain ⟨t, rfl, hs⟩ := tup_ref h
  refine ref_tup ?_
  rcases hs with (hs | ⟨u, hs⟩) | hs
  · have : t ≠ p := fun z => by
      subst z
      rw [hp] at hs
      cases hs
    exact .inl (.inl (by rw [erase_ne this]; exact hs))
  · have : t ≠ p := fun z => by
      subst z
      rw [hp] at hs
      cases hs
    exact .inl (.inr ⟨u, by rw [erase_ne this]; exact hs⟩)
  · exact .inr hs
theorem dpAll_erase {xs : List V} (hp : N p = some (.lst xs)) : ∀ {ks : List (List Int)} {vs : List V}, DpAll K N vs (ks.map tupI) → DpAll K (erase N p) vs (ks.map tupI)
  | [], _, h => by cases h; exact .nil
  | _ :: _, _, h => by
    cases h with
    | cons h1 h2 => exact .cons (dp_erase h1 hp) (dpAll_erase hp h2)
theorem hu8 {k : Nat} {A : Around} (hr : Room k A) : A.units + 8 < cLine := Nat.lt_of_le_of_lt (Nat.add_le_add_left (by decide : 8 ≤ 64) _) hr.units
end
section
variable {K : PySem.W.Frag} {σ : L2.St} {N H : Hp} {ta te : TE} {D : Ends} {tz : TS} {f : Pr}
theorem ev_sortL {ks : List (List Int)} (h : EvP te σ N (is K (.list (ks.map tupI)))) : EvP (tCB (rSortL K) (tCons te tNil)) σ N (is K (.list ((sortL ks).map tupI))) :=
  ev_cb1 h fun v M e fv H eh Q q => by
    obtain ⟨a, xs, rfl, hs, hd⟩ := is_lst fv
    exact ⟨a, xs, ks, M, rfl, sqL_ex eh hs, eh, hd, fun p ys hp hy => q _ _ _ (Go.new eh hp) (mk_lst upd_same (dpAll_ex (Ex.new (eh.back hp)) _ _ hy))⟩
theorem ev_catLs {σ : L2.St} {tb : TE} {ds es : List PyData} (ha : EvP ta σ N (is K (.list ds))) (hb : EvP tb σ N (is K (.list es))) (hz : ds.length + es.length ≤ 100000) : EvP (tOp (rCatL K) ta tb) σ N (is K (.list (ds ++ es))) :=
  ev_op ha hb fun x y M e fx fy H eh Q q => by
    obtain ⟨a, xs, rfl, hs, hd⟩ := is_lst fx
    obtain ⟨b, ys, rfl, ht, he⟩ := is_lst fy
    have l1 := dpAll_len hd
    have l2 := dpAll_len he
    exact ⟨a, b, xs, ys, rfl, rfl, sqL_ex eh hs, sqL_ex eh ht, sz_of (by omega), fun p hp => q _ _ _ (Go.new eh hp) (mk_lst upd_same (dpAll_app (dpAll_ex (Ex.new (eh.back hp)) _ _ hd) (dpAll_ex (Ex.new (eh.back hp)) _ _ he)))⟩
end
end Rk
end PartRkM

section PartRkE
set_option Elab.async false
set_option linter.all false
set_option maxRecDepth 100000
set_option maxHeartbeats 4000000
/-! enumerate over a tuple -/
namespace PySem
open AutoSeq1 (wpAny_loadPart')
theorem meets_enumerate_newTup (t : Addr) (items : Array Value) :
    Meets (Builtin.«enumerate.__new__» ⟨[.type "enumerate", .ref t], []⟩) (fun _ R s => s.heap.IsTuple t items ∧
      R (.ok (.ret (.ref (s.heap.push { cls := .type "tuple_iterator", data := .fields #[.ref t, .int 0 0] }).objs.size)))
        { s with heap := (s.heap.push { cls := .type "tuple_iterator", data := .fields #[.ref t, .int 0 0] }).push { cls := .type "enumerate", data := .fields #[.none, .bool false, .ref s.heap.objs.size, rawInt 0, .none, .none] } }) :=
  .of_wp fun prog w A R s h => by
    obtain ⟨hp, g, d, tk, os⟩ := s; obtain ⟨hl, h⟩ := h
    have hsub := sub_enumerate
    have hL : Heap.IsTuple (Shared.heap ⟨hp, g, d, tk, os⟩) t items := hl
    wp_walk
    refine wpAny_stack_any fun st => wpAny_pure ?_
    split
    · rename_i c _ _ _ _ _
      cases (c == Value.type "enumerate")
      · wp_walk using wpAny_pyIter_tuple hL
        exact ⟨_, rfl, h⟩
      · wp_walk using wpAny_pyIter_tuple hL
        exact ⟨_, rfl, h⟩
    · wp_walk using wpAny_pyIter_tuple hL
      exact ⟨_, rfl, h⟩
section
variable {prog : Program} {w : World} {A : Around} {E : Value → Shared → Prop} {s : Shared}
theorem call_enumerate_tup {t : Addr} {items : Array Value} {Q : Value → Shared → Prop} (hL : s.heap.IsTuple t items)
    (h : ∀ h', IsEnum h' (s.heap.objs.size + 1) s.heap.objs.size 0 .none → h'.IsTupleIter s.heap.objs.size t 0 → h'.objs.size = s.heap.objs.size + 2 →
      (∀ b o, s.heap.get? b = some o → h'.get? b = some o) → Q (.ref (s.heap.objs.size + 1)) { s with heap := h' }) :
    wpAny (model prog w) A (call (.type "enumerate") [.ref t]) Q E s := by
  refine callType_new F.called_enumerate (by decide) (F.typeCall_enumerate_1 _) (F.newCall_enumerate_1 _) (fun obj => F.args_object_init_2 obj _) F.entry_enumerate_new
    (meets_enumerate_newTup t items) ⟨hL, ?_⟩
  have hz : (s.heap.push { cls := .type "tuple_iterator", data := .fields #[.ref t, .int 0 0] }).objs.size = s.heap.objs.size + 1 := Heap.size_push ..
  show _ ∧ _
  rw [hz]
  have he : IsEnum ((s.heap.push { cls := .type "tuple_iterator", data := .fields #[.ref t, .int 0 0] }).push
      { cls := .type "enumerate", data := .fields #[.none, .bool false, .ref s.heap.objs.size, rawInt 0, .none, .none] }) (s.heap.objs.size + 1) s.heap.objs.size 0 .none := by
    have := Heap.get?_push_size (s.heap.push { cls := .type "tuple_iterator", data := .fields #[.ref t, .int 0 0] })
      (o := { cls := .type "enumerate", data := .fields #[.none, .bool false, .ref s.heap.objs.size, rawInt 0, .none, .none] }) rfl
    rw [hz] at this; exact this
  refine ⟨⟨_, he, rfl⟩, h _ he ⟨_, Heap.get?_push_of_some _ (Heap.get?_push_size _ rfl), rfl, rfl⟩ (by rw [Heap.size_push, hz]) fun b o x => Heap.get?_push_of_some _ (Heap.get?_push_of_some _ x)⟩
end
end PySem
namespace Rk
open PySem PySem.Spec PyProof.Rows L2
def IteT (K : PySem.W.Frag) (a : Addr) : It :=
  ⟨fun i H => ∃ (xs : List V) (x : V), SqT K H a xs ∧ xs[i]? = some x, fun i H v H' => ∃ T x, v = .ref T ∧ H T = none ∧ H' = upd H T (.tup [.int (i : Nat), x]) ∧ ∀ xs, SqT K H a xs → xs[i]? = some x, fun i H => ∃ xs : List V, SqT K H a xs ∧ xs.length ≤ i⟩
theorem turn_enumT {P : Program} {w : World} {K : PySem.W.Frag} {elts : List Expr} {kk : Nat} {tpos : Pos} (a e it : Addr) (hai : a ≠ it) :
    Turn P w K (.Tuple elts kk tpos) (IteT K a) [e, it] e (fun i h => (∃ old, IsEnum h e it ((i : Nat) : Int) old) ∧ h.IsTupleIter it a i ∧ e ≠ it ∧ a ≠ e) where
  mem := by simp
  obj := fun i h st b hb => by
    obtain ⟨⟨old, he⟩, ⟨o, ho, hc, hd⟩, _⟩ := st
    have e' : b = e ∨ b = it := by simpa using hb
    rcases e' with z | z
    · rw [z]; exact ⟨_, he, fun v q => nomatch q⟩
    · rw [z]; exact ⟨o, ho, fun v q => by rw [hd] at q; cases q⟩
  keep := fun i h h' st k => let ⟨⟨old, he⟩, hi, hne⟩ := st; ⟨⟨old, k e (by simp) _ he⟩, hi.at fun o q => k it (by simp) o q, hne⟩
  item := by
    intro X hP hw hK hc i pins s σ H E I hf st hg
    subst hP hw hK
    obtain ⟨⟨old, he⟩, hit, hne, hae⟩ := st
    obtain ⟨xs, x, hq, hx⟩ := hg
    obtain ⟨its, rv, p, hz⟩ := I.tuple hq
    obtain ⟨u, hu, ru⟩ := rv.get hx
    have hel : e < s.heap.objs.size := Heap.lt_size he
    have hil : it < s.heap.objs.size := by obtain ⟨_, q, _⟩ := hit; exact Heap.lt_size q
    have p' : s.heap.IsTuple a its.toArray := p
    have hlt : i < its.toArray.size := by
      rw [List.size_toArray]
      exact (List.getElem?_eq_some_iff.mp hu).1
    refine wpAny_pyNext_enum_itemD (Draws.tuple (A := X.A.in1) (by first | exact I.ok.hd hc | (show X.A.in1.handled = none; exact I.ok.hd hc)) it a hai its.toArray) he ⟨hit, p'⟩ hlt hne (by
      intro z
      have z' : e = it ∨ e = a := by simpa using z
      rcases z' with z' | z'
      · exact hne z'
      · exact hae z'.symm) fun y h' tk hy ho hit' hT hsz hk => ?_
    have ey : y = u := by
      have : its.toArray[i]? = some y := hy
      rw [List.getElem?_toArray, hu] at this
      exact (Option.some.inj this).symm
    subst ey
    refine ⟨_, rfl, wpAny_letOwnedTupleGo_enum (s := { s with heap := h', toks := tk + 1 }) ho fun h'' he' sb => ?_⟩
    have hT2 : h''.get? s.heap.objs.size = some { cls := .type "tuple", data := .seq #[.int i tk, y] } := (sb.2 _ (Nat.ne_of_gt hel)).trans hT
    have new : ObjOk X.prog X.w (upd H s.heap.objs.size (.tup [.int (i : Nat), x])) h'' s.heap.objs.size (.tup [.int (i : Nat), x]) :=
      ⟨by show 2 ≤ sizeLine; decide, [.int i tk, y], .cons ⟨_, rfl⟩ (.cons ru .nil), ⟨_, hT2, rfl, _, rfl⟩⟩
    have I1 : Inv X pins σ (upd H s.heap.objs.size (.tup [.int (i : Nat), x])) { s with heap := h'', toks := tk + 1 } :=
      I.turnedNew (ch := [e, it]) (fun b ob hb q => (sb.2 b (fun z => hb (by simp [z]))).trans (hk b ob (fun z => hb (by simp [z])) (fun z => hb (by simp [z])) q)) hf (Nat.le_refl _) new
    refine ⟨.ref s.heap.objs.size, _, I1, rfl, ⟨_, x, rfl, I.hok.fresh (Nat.le_refl _), rfl, fun ys hy => by rw [I.tuple_inj hy hq]; exact hx⟩, ⟨⟨y, ?_⟩, hit'.1.at fun o q => (sb.2 it (Ne.symm hne)).trans q, hne, hae⟩, fun b hb => ?_⟩
    · have e1 : ((i + 1 : Nat) : Int) = (i : Int) + 1 := by omega
      rw [e1]; exact he'
    · have hb' : b < s.heap.objs.size := by
        have e' : b = e ∨ b = it := by simpa using hb
        rcases e' with z | z
        · rw [z]; exact hel
        · rw [z]; exact hil
      rw [upd_ne (Nat.ne_of_lt hb')]
      exact (hf b hb).1
  done := by
    intro X hP hw hK hc i pins s σ H E I hf st hg
    subst hP hw hK
    obtain ⟨⟨old, he⟩, hit, hne, hae⟩ := st
    obtain ⟨xs, hq, hx⟩ := hg
    obtain ⟨its, rv, p, hz⟩ := I.tuple hq
    obtain ⟨f0, f1, f2, f3, f4, f5⟩ := hf it (by simp)
    have hl := rv.length
    have p' : s.heap.IsTuple a its.toArray := p
    have hT : s.TypeIs (.ref e) "enumerate" := ⟨_, he, rfl⟩
    have hh : X.A.in1.handled = none := by first | exact I.ok.hd hc | (show X.A.handled = none; exact I.ok.hd hc)
    unfold pyNext
    refine wpAny_bind (wpAny_attempt (wpAny_callSpecial?_slot (name := Str.ofString "__next__") hT F.slot_enumerate_next
      (wpAny_call_entry F.slot_enumerate_next hT F.entry_enumerate_next ?_ (F.args_enumerate_next_1 _))))
    show wpAny _ _ (field (.ref e) 2 >>= _) _ _ _
    refine wpAny_bind (wpAny_field he rfl (x := .ref it) rfl ?_)
    refine wpAny_bind (wpAny_nextOf_tuple_end hh hit p' (by rw [Array.getElem?_eq_none_iff, List.size_toArray]; omega) fun h' x he' hx' => ?_)
    obtain ⟨o, ho, hc'⟩ := hx'
    refine wpAny_bind (wpAny_isInstance (T := "StopIteration") (b := true) ⟨o, ho, hc'⟩ isSubtype_stop ?_)
    exact wpAny_pure ⟨rfl, I.turned (t' := s.toks) (fun b o hb q => he' b o hb q) f0 f1 f3 f4 f5⟩
  self := fun A i s Q E st h => let ⟨⟨_, he⟩, _⟩ := st; wpAny_pyIter_enum he h
def iEnumT (K : PySem.W.Frag) (ta : TA) : TI := fun σ H R => ta σ H fun vs H1 => ∃ a xs, vs = [.ref a] ∧ SqT K H1 a xs ∧ R (IteT K a) H1
theorem pi_enumT {X : Cx} {K : PySem.W.Frag} {e : Expr} {ta : TA} {p pos tpos : Pos} {elts : List Expr} {kk : Nat} (hg : Gl X "enumerate") (hm : X.mg "enumerate" = none) (ha : PA X [e] ta) (hs : starEach [e] X.env = [(false, eval e X.env)] := by rfl) (hK : X.K = K := by rfl) :
    PI X (.Tuple elts kk tpos) (.Call (.Name "enumerate" p) [e] [] pos) (iEnumT K ta) := by
  subst hK
  refine ⟨fun pins s σ H R I h => ?_⟩
  refine Call_ (ld_blt I hg hm boot_enumerate (PyProof.Rows.callWith_type1 (thn (ha.run pos pins s σ H _ I h) fun us s1 ⟨vs, H1, I1, r1, q1⟩ => ?_) hs rfl))
  obtain ⟨a, xs, ex, hq, q⟩ := q1
  subst ex
  cases r1 with
  | cons r rr =>
    cases rr
    cases r
    obtain ⟨its, rv, p', hz⟩ := I1.tuple hq
    have p2 : s1.heap.IsTuple a its.toArray := p'
    have hal : a < s1.heap.objs.size := by
      obtain ⟨o, ho, _⟩ := p2
      exact Heap.lt_size ho
    refine call_enumerate_tup p2 fun h' he hit hsz hk => wpAny_pyIter_enum he ?_
    have I2 : Inv X pins σ H1 { s1 with heap := h' } := I1.kept (t' := s1.toks) hk
    refine ⟨s1.heap.objs.size + 1, [s1.heap.objs.size + 1, s1.heap.objs.size], _, _, H1, rfl, I2, turn_enumT a (s1.heap.objs.size + 1) s1.heap.objs.size (Nat.ne_of_lt hal), ⟨⟨.none, he⟩, hit, Nat.succ_ne_self _, Nat.ne_of_lt (Nat.lt_succ_of_lt hal)⟩, fun b hb => ?_, q⟩
    have e' : b = s1.heap.objs.size + 1 ∨ b = s1.heap.objs.size := by simpa using hb
    have hle : s1.heap.objs.size ≤ b := by
      rcases e' with z | z
      · rw [z]; exact Nat.le_add_right _ _
      · rw [z]; exact Nat.le_refl _
    exact I1.fpOk hle (I1.hok.fresh hle)
theorem walk_enumT {K : PySem.W.Frag} {a : Addr} {xs : List V} : Walk (IteT K a) xs.length (fun H => SqT K H a xs) (YPair (fun i => some (.int (i : Nat))) (fun i => xs[i]?)) := by
  refine ⟨fun i _ hi q => ⟨xs, xs[i], q, by simp [hi]⟩, fun _ q => ⟨xs, q, Nat.le_refl _⟩, fun i H v H' _ q y => ?_⟩
  obtain ⟨T, x, h1, h2, h3, h4⟩ := y
  exact ⟨T, .int (i : Nat), x, h1, h2, h3, rfl, h4 xs q⟩
/-- for i, x in enumerate(a tuple) -/
theorem q_forE {α : Type} {K : PySem.W.Frag} {σ : L2.St} {N H : Hp} {te : TE} {D : Ends} {tu tz : TS} {i j : Nat} (xs : List α) (enc : α → PyData) (e : Ex N H) (x : EvP te σ N (is K (.tuple (xs.map enc))))
    (k : ∀ N' H', Go N H N' H' → ∃ Pv : Nat → L2.St → Hp → Prop, Pv 0 σ H' ∧ (∀ n σ' H2, Pv n σ' H2 → Ex N' H2) ∧
      (∀ n y v σ' H2 H3 T, xs[n]? = some y → is K (enc y) v N' → Pv n σ' H2 → H2 T = none → H3 = upd H2 T (.tup [.int (n : Nat), v]) → tu { D with nx := Pv (n + 1), ct := Pv (n + 1), bk := tz D } ((σ'.set i (some (.int (n : Nat)))).set j (some v)) H3) ∧
      (∀ σ' H2, Pv xs.length σ' H2 → tz D σ' H2)) : tSeq (tFor (iEnumT K (tCons te tNil)) (gTup K 2 (gCons (gName i) (gCons (gName j) gNil))) tu) tz D σ H := x H e _ fun v N1 H1 g1 fv => by
  obtain ⟨a, ys, rfl, hs, hd⟩ := is_tup fv
  obtain ⟨Pv, h0, hG, hs', hd'⟩ := k N1 H1 g1
  have hl : ys.length = xs.length := by rw [dpAll_len hd, List.length_map]
  refine ⟨a, ys, rfl, sqT_ex g1.s hs, ?_⟩
  refine for_it (D := { D with nx := tz D }) walk_enumT Pv h0 (fun n σ' H2 _ p => sqT_ex (hG n σ' H2 p) hs) (fun n x σ' H2 H3 hn p y => ?_) (by rw [hl]; exact hd')
  obtain ⟨T, x1, x2, rfl, nT, rfl, e1, e2⟩ := y
  have e1' : x1 = .int (n : Nat) := (Option.some.inj e1).symm
  subst e1'
  obtain ⟨d, hd1, hd2⟩ := dpAll_get hd e2
  rw [List.getElem?_map] at hd1
  cases hx : xs[n]? with
  | none =>
    rw [hx] at hd1
    cases hd1
  | some z =>
    rw [hx] at hd1
    cases hd1
    exact ⟨T, _, rfl, .inl (.inl upd_same), rfl, _, _, rfl, _, _, rfl, rfl, hs' n z x2 σ' H2 _ T hx hd2 p nT rfl⟩
end Rk
end PartRkE

section PartRkT
set_option Elab.async false
set_option linter.all false
set_option maxRecDepth 100000
set_option maxHeartbeats 4000000
/-! the text: its defs, their scopes, what the written part says of them (printed by gen_txt.py) -/
namespace Rk
open PySem PySem.Spec PyProof.Rows L2
def top (i : Nat) : Stmt := PySem.Challenge.pw_roundowned_k73_whole_fewest_houses.main.body.getD i (.Pass ⟨0, 0, 0, 0⟩)
abbrev s_is_integer : Stmt := top 7
abbrev N_is_integer : List Str := ["thing"]
theorem sc_is_integer : FnScope N_is_integer ["thing"] (defScope s_is_integer) := ⟨rfl, rfl, rfl, by decide +kernel, rfl, by decide +kernel, by decide +kernel⟩
abbrev s_is_within : Stmt := top 8
abbrev N_is_within : List Str := ["thing", "least", "most"]
theorem sc_is_within : FnScope N_is_within ["thing", "least", "most"] (defScope s_is_within) := ⟨rfl, rfl, rfl, by decide +kernel, rfl, by decide +kernel, by decide +kernel⟩
abbrev s_are_ascending : Stmt := top 10
abbrev N_are_ascending : List Str := ["things", "at"]
theorem sc_are_ascending : FnScope N_are_ascending ["things"] (defScope s_are_ascending) := ⟨rfl, rfl, rfl, by decide +kernel, rfl, by decide +kernel, by decide +kernel⟩
abbrev s_Web_keep : Stmt := inClass (top 19) 1
abbrev N_Web_keep : List Str := ["self", "folk", "houses", "house", "persons", "owners", "sign", "number", "person"]
theorem sc_Web_keep : FnScope N_Web_keep ["self", "folk", "houses"] (defScope s_Web_keep) := ⟨rfl, rfl, rfl, by decide +kernel, rfl, by decide +kernel, by decide +kernel⟩
abbrev s_RawWeb_init : Stmt := inClass (top 20) 0
abbrev N_RawWeb_init : List Str := ["self", "folk", "houses"]
theorem sc_RawWeb_init : FnScope N_RawWeb_init ["self", "folk", "houses"] (defScope s_RawWeb_init) := ⟨rfl, rfl, rfl, by decide +kernel, rfl, by decide +kernel, by decide +kernel⟩
abbrev s_raw_web : Stmt := top 21
abbrev N_raw_web : List Str := ["folk", "houses", "house"]
theorem sc_raw_web : FnScope N_raw_web ["folk", "houses"] (defScope s_raw_web) := ⟨rfl, rfl, rfl, by decide +kernel, rfl, by decide +kernel, by decide +kernel⟩
abbrev s_is_lot : Stmt := top 22
abbrev N_is_lot : List Str := ["folk", "thing", "person"]
theorem sc_is_lot : FnScope N_is_lot ["folk", "thing"] (defScope s_is_lot) := ⟨rfl, rfl, rfl, by decide +kernel, rfl, by decide +kernel, by decide +kernel⟩
abbrev s_lots_of : Stmt := top 23
abbrev N_lots_of : List Str := ["folk", "found", "person", "lot"]
theorem sc_lots_of : FnScope N_lots_of ["folk"] (defScope s_lots_of) := ⟨rfl, rfl, rfl, by decide +kernel, rfl, by decide +kernel, by decide +kernel⟩
abbrev s_shares_with : Stmt := top 25
abbrev N_shares_with : List Str := ["web", "house", "lot", "houses", "many", "person", "owner", "shares"]
theorem sc_shares_with : FnScope N_shares_with ["web", "house", "lot", "houses"] (defScope s_shares_with) := ⟨rfl, rfl, rfl, by decide +kernel, rfl, by decide +kernel, by decide +kernel⟩
abbrev s_has_half : Stmt := top 26
abbrev N_has_half : List Str := ["web", "house", "lot", "houses"]
theorem sc_has_half : FnScope N_has_half ["web", "house", "lot", "houses"] (defScope s_has_half) := ⟨rfl, rfl, rfl, by decide +kernel, rfl, by decide +kernel, by decide +kernel⟩
abbrev s_carried_of : Stmt := top 27
abbrev N_carried_of : List Str := ["web", "lot", "found", "grown", "house"]
theorem sc_carried_of : FnScope N_carried_of ["web", "lot"] (defScope s_carried_of) := ⟨rfl, rfl, rfl, by decide +kernel, rfl, by decide +kernel, by decide +kernel⟩
abbrev s_carries_house : Stmt := top 28
abbrev N_carries_house : List Str := ["web", "lot", "house"]
theorem sc_carries_house : FnScope N_carries_house ["web", "lot", "house"] (defScope s_carries_house) := ⟨rfl, rfl, rfl, by decide +kernel, rfl, by decide +kernel, by decide +kernel⟩
abbrev s_check_folk : Stmt := top 30
abbrev N_check_folk : List Str := ["thing"]
theorem sc_check_folk : FnScope N_check_folk ["thing"] (defScope s_check_folk) := ⟨rfl, rfl, rfl, by decide +kernel, rfl, by decide +kernel, by decide +kernel⟩
abbrev s_is_part : Stmt := top 31
abbrev N_is_part : List Str := ["lot", "other", "person"]
theorem sc_is_part : FnScope N_is_part ["lot", "other"] (defScope s_is_part) := ⟨rfl, rfl, rfl, by decide +kernel, rfl, by decide +kernel, by decide +kernel⟩
abbrev s_is_table_there : Stmt := top 32
abbrev N_is_table_there : List Str := ["folk", "thing", "at", "lot", "other"]
theorem sc_is_table_there : FnScope N_is_table_there ["folk", "thing"] (defScope s_is_table_there) := ⟨rfl, rfl, rfl, by decide +kernel, rfl, by decide +kernel, by decide +kernel⟩
abbrev s_check_table : Stmt := top 33
abbrev N_check_table : List Str := ["folk", "thing"]
theorem sc_check_table : FnScope N_check_table ["folk", "thing"] (defScope s_check_table) := ⟨rfl, rfl, rfl, by decide +kernel, rfl, by decide +kernel, by decide +kernel⟩
abbrev s_carries_there : Stmt := top 34
abbrev N_carries_there : List Str := ["table", "lot", "least"]
theorem sc_carries_there : FnScope N_carries_there ["table", "lot"] (defScope s_carries_there) := ⟨rfl, rfl, rfl, by decide +kernel, rfl, by decide +kernel, by decide +kernel⟩
abbrev s_unlike_last : Stmt := top 37
abbrev N_unlike_last : List Str := ["folk", "table", "web", "last", "lot"]
theorem sc_unlike_last : FnScope N_unlike_last ["folk", "table", "web"] (defScope s_unlike_last) := ⟨rfl, rfl, rfl, by decide +kernel, rfl, by decide +kernel, by decide +kernel⟩
abbrev s_threes_of : Stmt := top 38
abbrev N_threes_of : List Str := ["folk", "houses", "holders", "found", "one", "two", "person", "house", "three"]
theorem sc_threes_of : FnScope N_threes_of ["folk", "houses"] (defScope s_threes_of) := ⟨rfl, rfl, rfl, by decide +kernel, rfl, by decide +kernel, by decide +kernel⟩
abbrev s__law_pool : Stmt := top 41
abbrev N__law_pool : List Str := ["_law_script", "_law_seed", "_law_cell"]
theorem sc__law_pool : FnScope N__law_pool ["_law_script"] (defScope s__law_pool) := ⟨rfl, rfl, rfl, by decide +kernel, rfl, by decide +kernel, by decide +kernel⟩
abbrev s__law_draw : Stmt := top 42
abbrev N__law_draw : List Str := ["_law_pool_here", "_law_many_here", "_law_cells", "_law_digit", "_law_mixed"]
theorem sc__law_draw : FnScope N__law_draw ["_law_pool_here", "_law_many_here"] (defScope s__law_draw) := ⟨rfl, rfl, rfl, by decide +kernel, rfl, by decide +kernel, by decide +kernel⟩
abbrev s__law_lots : Stmt := top 43
abbrev N__law_lots : List Str := ["_law_folk", "_law_found", "_law_person", "_law_lot"]
theorem sc__law_lots : FnScope N__law_lots ["_law_folk"] (defScope s__law_lots) := ⟨rfl, rfl, rfl, by decide +kernel, rfl, by decide +kernel, by decide +kernel⟩
abbrev s__law_carried : Stmt := top 44
abbrev N__law_carried : List Str := ["_law_told", "_law_lot", "_law_found", "_law_turn", "_law_many_here", "_law_house", "_law_shares", "_law_one"]
theorem sc__law_carried : FnScope N__law_carried ["_law_told", "_law_lot"] (defScope s__law_carried) := ⟨rfl, rfl, rfl, by decide +kernel, rfl, by decide +kernel, by decide +kernel⟩
abbrev s__law_least : Stmt := top 45
abbrev N__law_least : List Str := ["_law_lots_here", "_law_found", "_law_lot", "_law_other", "_law_one"]
theorem sc__law_least : FnScope N__law_least ["_law_lots_here"] (defScope s__law_least) := ⟨rfl, rfl, rfl, by decide +kernel, rfl, by decide +kernel, by decide +kernel⟩
abbrev s__law_by : Stmt := top 46
abbrev N__law_by : List Str := ["_law_made_table", "_law_lot", "_law_one", "_law_person"]
theorem sc__law_by : FnScope N__law_by ["_law_made_table", "_law_lot"] (defScope s__law_by) := ⟨rfl, rfl, rfl, by decide +kernel, rfl, by decide +kernel, by decide +kernel⟩
abbrev s__law_some_table : Stmt := top 47
abbrev N__law_some_table : List Str := ["_law_pool_here", "_law_folk", "_law_kind", "_law_lots_here", "_law_shares", "_law_half", "_law_person", "_law_found", "_law_turn", "_law_lot", "_law_other", "_law_one"]
theorem sc__law_some_table : FnScope N__law_some_table ["_law_pool_here", "_law_folk"] (defScope s__law_some_table) := ⟨rfl, rfl, rfl, by decide +kernel, rfl, by decide +kernel, by decide +kernel⟩
abbrev s__law_threes : Stmt := top 48
abbrev N__law_threes : List Str := ["_law_folk", "_law_houses", "_law_holders", "_law_found", "_law_one", "_law_two", "_law_person", "_law_house", "_law_three"]
theorem sc__law_threes : FnScope N__law_threes ["_law_folk", "_law_houses"] (defScope s__law_threes) := ⟨rfl, rfl, rfl, by decide +kernel, rfl, by decide +kernel, by decide +kernel⟩
abbrev s__law_has : Stmt := top 49
abbrev N__law_has : List Str := ["_law_folk", "_law_houses", "_law_made_table", "_law_last", "_law_lot"]
theorem sc__law_has : FnScope N__law_has ["_law_folk", "_law_houses", "_law_made_table"] (defScope s__law_has) := ⟨rfl, rfl, rfl, by decide +kernel, rfl, by decide +kernel, by decide +kernel⟩
abbrev s__law_fewest : Stmt := top 50
abbrev N__law_fewest : List Str := ["_law_folk", "_law_made_table", "_law_second", "_law_first", "_law_house"]
theorem sc__law_fewest : FnScope N__law_fewest ["_law_folk", "_law_made_table"] (defScope s__law_fewest) := ⟨rfl, rfl, rfl, by decide +kernel, rfl, by decide +kernel, by decide +kernel⟩
abbrev s_check_many : Stmt := top 12
abbrev N_check_many : List Str := ["number", "most"]
theorem sc_check_many : FnScope N_check_many ["number", "most"] (defScope s_check_many) := ⟨rfl, rfl, rfl, by decide +kernel, rfl, by decide +kernel, by decide +kernel⟩
abbrev s_fewest_houses : Stmt := top 39
abbrev N_fewest_houses : List Str := ["folk", "table", "house", "first", "second"]
theorem sc_fewest_houses : FnScope N_fewest_houses ["folk", "table"] (defScope s_fewest_houses) := ⟨rfl, rfl, rfl, by decide +kernel, rfl, by decide +kernel, by decide +kernel⟩
abbrev s__law_many : Stmt := top 51
abbrev N__law_many : List Str := ["_law_folk", "_law_word", "error"]
theorem sc__law_many : FnScope N__law_many ["_law_folk"] (defScope s__law_many) := ⟨rfl, rfl, rfl, by decide +kernel, rfl, by decide +kernel, by decide +kernel⟩
abbrev s_law : Stmt := top 52
abbrev N_law : List Str := ["_law_script", "_law_pool_here", "_law_folk", "_law_some"]
theorem sc_law : FnScope N_law ["_law_script"] (defScope s_law) := ⟨rfl, rfl, rfl, by decide +kernel, rfl, by decide +kernel, by decide +kernel⟩
structure Ad where
  (is_integer : Addr) (is_within : Addr) (are_ascending : Addr) (Web_keep : Addr) (RawWeb_init : Addr) (raw_web : Addr) (is_lot : Addr) (lots_of : Addr) (shares_with : Addr) (has_half : Addr) (carried_of : Addr) (carries_house : Addr) (check_folk : Addr) (is_part : Addr) (is_table_there : Addr) (check_table : Addr) (carries_there : Addr) (unlike_last : Addr) (threes_of : Addr) (_law_pool : Addr) (_law_draw : Addr) (_law_lots : Addr) (_law_carried : Addr) (_law_least : Addr) (_law_by : Addr) (_law_some_table : Addr) (_law_threes : Addr) (_law_has : Addr) (_law_fewest : Addr) (check_many : Addr) (fewest_houses : Addr) (_law_many : Addr) (law : Addr) (RawWeb : Addr)
structure Fd where
  (is_integer : FuncData) (is_within : FuncData) (are_ascending : FuncData) (Web_keep : FuncData) (RawWeb_init : FuncData) (raw_web : FuncData) (is_lot : FuncData) (lots_of : FuncData) (shares_with : FuncData) (has_half : FuncData) (carried_of : FuncData) (carries_house : FuncData) (check_folk : FuncData) (is_part : FuncData) (is_table_there : FuncData) (check_table : FuncData) (carries_there : FuncData) (unlike_last : FuncData) (threes_of : FuncData) (_law_pool : FuncData) (_law_draw : FuncData) (_law_lots : FuncData) (_law_carried : FuncData) (_law_least : FuncData) (_law_by : FuncData) (_law_some_table : FuncData) (_law_threes : FuncData) (_law_has : FuncData) (_law_fewest : FuncData) (check_many : FuncData) (fewest_houses : FuncData) (_law_many : FuncData) (law : FuncData)
structure Txt (K : PySem.W.Frag) (mg : Str → Option Value) (A : Ad) (B : Fd) : Prop where
  n_len : mg "len" = none
  n_sum : mg "sum" = none
  n_all : mg "all" = none
  n_any : mg "any" = none
  n_range : mg "range" = none
  n_sorted : mg "sorted" = none
  n_isinstance : mg "isinstance" = none
  n_abs : mg "abs" = none
  n_min : mg "min" = none
  n_int : mg "int" = none
  n_bool : mg "bool" = none
  n_tuple : mg "tuple" = none
  n_list : mg "list" = none
  n_set : mg "set" = none
  n_enumerate : mg "enumerate" = none
  g_MOST_FOLK_webs : ∃ t, mg "MOST_FOLK_webs" = some (.int 6 t)
  g_MOST_FOLK_building : ∃ t, mg "MOST_FOLK_building" = some (.int 3 t)
  F_is_integer : Fun K "is_integer" "is_integer" s_is_integer A.is_integer B.is_integer
  b_is_integer : Binds K B.is_integer ["thing"] []
  g_is_integer : mg "is_integer" = some (.ref A.is_integer)
  F_is_within : Fun K "is_within" "is_within" s_is_within A.is_within B.is_within
  b_is_within : Binds K B.is_within ["thing", "least", "most"] []
  g_is_within : mg "is_within" = some (.ref A.is_within)
  F_are_ascending : Fun K "are_ascending" "are_ascending" s_are_ascending A.are_ascending B.are_ascending
  b_are_ascending : Binds K B.are_ascending ["things"] []
  g_are_ascending : mg "are_ascending" = some (.ref A.are_ascending)
  F_Web_keep : Fun K "keep" "Web.keep" s_Web_keep A.Web_keep B.Web_keep
  b_Web_keep : Binds K B.Web_keep ["self", "folk", "houses"] []
  F_RawWeb_init : Fun K "__init__" "RawWeb.__init__" s_RawWeb_init A.RawWeb_init B.RawWeb_init
  b_RawWeb_init : Binds K B.RawWeb_init ["self", "folk", "houses"] []
  F_raw_web : Fun K "raw_web" "raw_web" s_raw_web A.raw_web B.raw_web
  b_raw_web : Binds K B.raw_web ["folk", "houses"] []
  g_raw_web : mg "raw_web" = some (.ref A.raw_web)
  F_is_lot : Fun K "is_lot" "is_lot" s_is_lot A.is_lot B.is_lot
  b_is_lot : Binds K B.is_lot ["folk", "thing"] []
  g_is_lot : mg "is_lot" = some (.ref A.is_lot)
  F_lots_of : Fun K "lots_of" "lots_of" s_lots_of A.lots_of B.lots_of
  b_lots_of : Binds K B.lots_of ["folk"] []
  g_lots_of : mg "lots_of" = some (.ref A.lots_of)
  F_shares_with : Fun K "shares_with" "shares_with" s_shares_with A.shares_with B.shares_with
  b_shares_with : Binds K B.shares_with ["web", "house", "lot", "houses"] []
  g_shares_with : mg "shares_with" = some (.ref A.shares_with)
  F_has_half : Fun K "has_half" "has_half" s_has_half A.has_half B.has_half
  b_has_half : Binds K B.has_half ["web", "house", "lot", "houses"] []
  g_has_half : mg "has_half" = some (.ref A.has_half)
  F_carried_of : Fun K "carried_of" "carried_of" s_carried_of A.carried_of B.carried_of
  b_carried_of : Binds K B.carried_of ["web", "lot"] []
  g_carried_of : mg "carried_of" = some (.ref A.carried_of)
  F_carries_house : Fun K "carries_house" "carries_house" s_carries_house A.carries_house B.carries_house
  b_carries_house : Binds K B.carries_house ["web", "lot", "house"] []
  g_carries_house : mg "carries_house" = some (.ref A.carries_house)
  F_check_folk : Fun K "check_folk" "check_folk" s_check_folk A.check_folk B.check_folk
  b_check_folk : Binds K B.check_folk ["thing"] []
  g_check_folk : mg "check_folk" = some (.ref A.check_folk)
  F_is_part : Fun K "is_part" "is_part" s_is_part A.is_part B.is_part
  b_is_part : Binds K B.is_part ["lot", "other"] []
  g_is_part : mg "is_part" = some (.ref A.is_part)
  F_is_table_there : Fun K "is_table_there" "is_table_there" s_is_table_there A.is_table_there B.is_table_there
  b_is_table_there : Binds K B.is_table_there ["folk", "thing"] []
  g_is_table_there : mg "is_table_there" = some (.ref A.is_table_there)
  F_check_table : Fun K "check_table" "check_table" s_check_table A.check_table B.check_table
  b_check_table : Binds K B.check_table ["folk", "thing"] []
  g_check_table : mg "check_table" = some (.ref A.check_table)
  F_carries_there : Fun K "carries_there" "carries_there" s_carries_there A.carries_there B.carries_there
  b_carries_there : Binds K B.carries_there ["table", "lot"] []
  g_carries_there : mg "carries_there" = some (.ref A.carries_there)
  F_unlike_last : Fun K "unlike_last" "unlike_last" s_unlike_last A.unlike_last B.unlike_last
  b_unlike_last : Binds K B.unlike_last ["folk", "table", "web"] []
  g_unlike_last : mg "unlike_last" = some (.ref A.unlike_last)
  F_threes_of : Fun K "threes_of" "threes_of" s_threes_of A.threes_of B.threes_of
  b_threes_of : Binds K B.threes_of ["folk", "houses"] []
  g_threes_of : mg "threes_of" = some (.ref A.threes_of)
  F__law_pool : Fun K "_law_pool" "_law_pool" s__law_pool A._law_pool B._law_pool
  b__law_pool : Binds K B._law_pool ["_law_script"] []
  g__law_pool : mg "_law_pool" = some (.ref A._law_pool)
  F__law_draw : Fun K "_law_draw" "_law_draw" s__law_draw A._law_draw B._law_draw
  b__law_draw : Binds K B._law_draw ["_law_pool_here", "_law_many_here"] []
  g__law_draw : mg "_law_draw" = some (.ref A._law_draw)
  F__law_lots : Fun K "_law_lots" "_law_lots" s__law_lots A._law_lots B._law_lots
  b__law_lots : Binds K B._law_lots ["_law_folk"] []
  g__law_lots : mg "_law_lots" = some (.ref A._law_lots)
  F__law_carried : Fun K "_law_carried" "_law_carried" s__law_carried A._law_carried B._law_carried
  b__law_carried : Binds K B._law_carried ["_law_told", "_law_lot"] []
  g__law_carried : mg "_law_carried" = some (.ref A._law_carried)
  F__law_least : Fun K "_law_least" "_law_least" s__law_least A._law_least B._law_least
  b__law_least : Binds K B._law_least ["_law_lots_here"] []
  g__law_least : mg "_law_least" = some (.ref A._law_least)
  F__law_by : Fun K "_law_by" "_law_by" s__law_by A._law_by B._law_by
  b__law_by : Binds K B._law_by ["_law_made_table", "_law_lot"] []
  g__law_by : mg "_law_by" = some (.ref A._law_by)
  F__law_some_table : Fun K "_law_some_table" "_law_some_table" s__law_some_table A._law_some_table B._law_some_table
  b__law_some_table : Binds K B._law_some_table ["_law_pool_here", "_law_folk"] []
  g__law_some_table : mg "_law_some_table" = some (.ref A._law_some_table)
  F__law_threes : Fun K "_law_threes" "_law_threes" s__law_threes A._law_threes B._law_threes
  b__law_threes : Binds K B._law_threes ["_law_folk", "_law_houses"] []
  g__law_threes : mg "_law_threes" = some (.ref A._law_threes)
  F__law_has : Fun K "_law_has" "_law_has" s__law_has A._law_has B._law_has
  b__law_has : Binds K B._law_has ["_law_folk", "_law_houses", "_law_made_table"] []
  g__law_has : mg "_law_has" = some (.ref A._law_has)
  F__law_fewest : Fun K "_law_fewest" "_law_fewest" s__law_fewest A._law_fewest B._law_fewest
  b__law_fewest : Binds K B._law_fewest ["_law_folk", "_law_made_table"] []
  g__law_fewest : mg "_law_fewest" = some (.ref A._law_fewest)
  F_check_many : Fun K "check_many" "check_many" s_check_many A.check_many B.check_many
  b_check_many : Binds K B.check_many ["number", "most"] []
  g_check_many : mg "check_many" = some (.ref A.check_many)
  F_fewest_houses : Fun K "fewest_houses" "fewest_houses" s_fewest_houses A.fewest_houses B.fewest_houses
  b_fewest_houses : Binds K B.fewest_houses ["folk", "table"] []
  g_fewest_houses : mg "fewest_houses" = some (.ref A.fewest_houses)
  F__law_many : Fun K "_law_many" "_law_many" s__law_many A._law_many B._law_many
  b__law_many : Binds K B._law_many ["_law_folk"] []
  g__law_many : mg "_law_many" = some (.ref A._law_many)
  F_law : Fun K "law" "law" s_law A.law B.law
  b_law : Binds K B.law ["_law_script"] []
  g_law : mg "law" = some (.ref A.law)
  cl : Cls K A.RawWeb
  g_RawWeb : mg "RawWeb" = some (.ref A.RawWeb)
  mkR : Mk K A.RawWeb A.RawWeb_init
  m_keep : Meth K A.RawWeb "keep" A.Web_keep
  a_folk : NoAttr K A.RawWeb "folk"
  a_houses : NoAttr K A.RawWeb "houses"
  a_kept_folk : NoAttr K A.RawWeb "kept_folk"
  a_kept_houses : NoAttr K A.RawWeb "kept_houses"
  a_kept_half : NoAttr K A.RawWeb "kept_half"
end Rk
end PartRkT

section PartRkF1
set_option Elab.async false
set_option linter.all false
set_option maxRecDepth 100000
set_option maxHeartbeats 4000000
namespace Rk
open PySem PySem.Spec PyProof.Rows L2
section
variable {P : Program} {w : World} {K : PySem.W.Frag} {mg : Str → Option Value} {base : Heap} {A : Ad} {B : Fd}
theorem ev_isi {σ : L2.St} {N : Hp} {ta tb : TE} {f : Pr} {c : String} {b : Bool} (ha : EvP ta σ N f) (hb : EvP tb σ N (eqp (.ty c))) (ht : ∀ v M, f v M → ∃ t, TyX K M v (.type t) ∧ kitB t c = some b) : EvP (tCB (rIsi K) (tCons ta (tCons tb tNil))) σ N (is K (.bool b)) :=
  ev_cb (ea_cons ha (ea_cons hb ea_nil)) fun vs M e hv => by
    match vs, hv with
    | [v, y], hv =>
      obtain ⟨h1, h2, _⟩ := hv
      cases (show y = .ty c from h2)
      obtain ⟨t, ht1, ht2⟩ := ht v M h1
      intro H eh Q q
      refine ⟨v, .ty c, .type t, .type c, b, rfl, .ty c, ?_, kit_ty ht2, q _ M H (Go.refl eh) (.bl b)⟩
      cases ht1 with
      | base b =>
        refine .base ?_
        cases b with
        | non => exact .non
        | bl x => exact .bl x
        | int x => exact .int x
        | str x => exact .str x
        | flt x => exact .flt x
        | lst e => exact .lst (eh _ _ e)
        | frz e => exact .frz (eh _ _ e)
        | tup e => exact .tup (eh _ _ e)
        | dK e => exact .dK (eh _ _ e)
        | dT e => exact .dT (eh _ _ e)
      | byt b => exact .byt b
      | set e => exact .set (eh _ _ e)
      | kList e c => exact .kList e c
      | kTuple e c => exact .kTuple e c
      | kDict e c => exact .kDict e c
      | fTuple e => exact .fTuple (eh _ _ e)
      | fDict e => exact .fDict (eh _ _ e)
theorem ty_int {M : Hp} {v : V} {i : Int} (h : is K (.int i) v M) : TyX K M v (.type "int") := by
  rw [is_int h]
  exact .base (.int i)
theorem ty_tup {M : Hp} {v : V} {ds : List PyData} (h : is K (.tuple ds) v M) : TyX K M v (.type "tuple") := by
  obtain ⟨a, xs, rfl, hs, hd⟩ := is_tup h
  rcases hs with (hs | ⟨o, hs⟩) | ⟨o, its, n, h1, h2, _⟩
  · exact .base (.tup hs)
  · exact .fTuple hs
  · exact .kTuple h1 h2
theorem kit_ii : kitB "int" "int" = some true := by decide +kernel
theorem kit_ib : kitB "int" "bool" = some false := by decide +kernel
theorem kit_tt : kitB "tuple" "tuple" = some true := by decide +kernel

/-! is_integer -/
abbrev sp_is_integer (K : PySem.W.Frag) : Sp := FnP (T := Int) (fun i => [is K (.int i)]) (fun _ => True) (fun _ => is K (.bool true))
theorem FnP.len {T : Type} {args : T → List Pr} {pre : T → Prop} {res : T → Pr} {n : Nat} (h : ∀ x, (args x).length = n) : ∀ vs H Q E, FnP args pre res vs H Q E → vs.length = n := fun vs H Q E ⟨x, N, _, _, hv, _⟩ => by
  rw [hold_len hv]
  exact h x
theorem ok_is_integer (T : Txt K mg A B) : FnOk P w K mg base CX0 1 A.is_integer B.is_integer ["thing"] (sp_is_integer K) := by
  refine T.F_is_integer.ok sc_is_integer (FnP.len fun _ => rfl) (fun cdv A' outer s H vs Q E hr h => ?_)
  obtain ⟨i, N, _, e, hv, q⟩ := h
  match vs, hv with
  | [v], hv =>
    refine ⟨_, (pss_one (ps_ret (pe_and (pe_callB call_isi (by rfl) T.n_isinstance (by decide +kernel) (pa_cons (pv 0) (pa_cons (pe_bltn (v := .ty "int") (by rfl) T.n_int (by decide +kernel) rfl) pa_nil))) (pe_one (pe_not (pe_callB call_isi (by rfl) T.n_isinstance (by decide +kernel) (pa_cons (pv 0) (pa_cons (pe_bltn (v := .ty "bool") (by rfl) T.n_bool (by decide +kernel) rfl) pa_nil)))))))), ?_⟩
    refine s_ret e (ev_andV (a := true) (b := true) (ev_isi (f := is K (.int i)) (ev_var rfl hv.1) (ev_c rfl) fun v M h => ⟨_, ty_int h, kit_ii⟩) fun _ =>
      ev_notV (a := false) (ev_isi (f := is K (.int i)) (ev_var rfl hv.1) (ev_c rfl) fun v M h => ⟨_, ty_int h, kit_ib⟩)) fun v N' H' g fv => q v N' H' g fv

/-! is_within -/
abbrev sp_is_within (K : PySem.W.Frag) : Sp := FnP (T := Int × Int × Int) (fun x => [is K (.int x.1), is K (.int x.2.1), is K (.int x.2.2)]) (fun _ => True) (fun x => is K (.bool (decide (x.2.1 ≤ x.1) && decide (x.1 ≤ x.2.2))))
theorem ev_chainI {σ : L2.St} {N : Hp} {ta tb tc : TE} {i j k : Int} (ha : EvP ta σ N (is K (.int i))) (hb : EvP tb σ N (is K (.int j))) (hc : EvP tc σ N (is K (.int k))) :
    EvP (tChain (rI0 fun i j => .bl (decide (i ≤ j))) (rI0 fun i j => .bl (decide (i ≤ j))) ta tb tc) σ N (is K (.bool (decide (i ≤ j) && decide (j ≤ k)))) := fun H e Q q =>
  ha H e _ fun x N1 H1 g1 fx => (hb.mono g1.n) H1 g1.s _ fun y N2 H2 g2 fy => by
    have ex := is_int fx
    have ey := is_int fy
    subst ex ey
    refine ⟨i, j, rfl, rfl, _, rfl, ?_⟩
    have g12 := g1.trans g2
    cases h : decide (i ≤ j) with
    | true =>
      rw [if_pos rfl]
      refine (hc.mono g12.n) H2 g12.s _ fun z N3 H3 g3 fz => ?_
      have ez := is_int fz
      subst ez
      refine ⟨j, k, rfl, rfl, ?_⟩
      refine q _ N3 H3 (g12.trans g3) ?_
      rw [h]
      exact .bl _
    | false =>
      rw [if_neg Bool.false_ne_true]
      refine q _ N2 H2 g12 ?_
      rw [h]
      exact .bl _
theorem ok_is_within (T : Txt K mg A B) : FnOk P w K mg base CX0 2 A.is_within B.is_within ["thing", "least", "most"] (sp_is_within K) := by
  have G_is_integer := ok_is_integer (P := P) (w := w) (base := base) T
  refine T.F_is_within.ok sc_is_within (FnP.len fun _ => rfl) (fun cdv A' outer s H vs Q E hr h => ?_)
  obtain ⟨⟨i, lo, hi⟩, N, _, e, hv, q⟩ := h
  match vs, hv with
  | [v, v1, v2], hv =>
    refine ⟨_, (pss_one (ps_ret (pe_and (pe_call G_is_integer (hr.mono (by decide)) (by rfl) T.g_is_integer T.F_is_integer.kp T.b_is_integer .nil pass0 (pa_cons (pv 0) pa_nil)) (pe_one (pe_chain op_le op_le (pv 1) (pv 0) (pv 2)))))), ?_⟩
    refine s_ret e (ev_andV (a := true) (ev_call i trivial (ea_cons (ev_var rfl hv.1) ea_nil)) fun _ => ev_chainI (ev_var rfl hv.2.1) (ev_var rfl hv.1) (ev_var rfl hv.2.2.1)) fun v N' H' g fv => q v N' H' g ?_
    rw [Bool.true_and] at fv
    exact fv
end
end Rk
end PartRkF1

section PartRkF2
set_option Elab.async false
set_option linter.all false
set_option maxRecDepth 100000
set_option maxHeartbeats 4000000
namespace Rk
open PySem PySem.Spec PyProof.Rows L2 RkS
section
variable {P : Program} {w : World} {K : PySem.W.Frag} {mg : Str → Option Value} {base : Heap} {A : Ad} {B : Fd}
variable {σ : L2.St} {N : Hp} {ta tb tc te : TE} {f : Pr}
/-! ### < of ints, of tuples of ints -/
theorem ev_ltXI {i j : Int} (ha : EvP ta σ N (is K (.int i))) (hb : EvP tb σ N (is K (.int j))) : EvP (tOp (rLtX K) ta tb) σ N (is K (.bool (decide (i < j)))) :=
  ev_op ha hb fun x y M e fx fy H eh Q q => .inl ⟨i, j, is_int fx, is_int fy, q _ M H (Go.refl eh) (.bl _)⟩
theorem ev_ltXT {ns ms : List Int} (ha : EvP ta σ N (is K (tupI ns))) (hb : EvP tb σ N (is K (tupI ms))) : EvP (tOp (rLtX K) ta tb) σ N (is K (.bool (HT.lexLt ns ms))) :=
  ev_op ha hb fun x y M e fx fy H eh Q q => by
    obtain ⟨a, xs, rfl, hs, hd⟩ := is_tup fx
    obtain ⟨b, ys, rfl, ht, he⟩ := is_tup fy
    have e1 := ints_dpAll hd
    have e2 := ints_dpAll he
    subst e1 e2
    exact .inr ⟨a, b, ns, ms, rfl, rfl, sqT_ex eh hs, sqT_ex eh ht, q _ M H (Go.refl eh) (.bl _)⟩
/-! ### are_ascending -/
/-- each item less than the next -/
def Asc {α : Type} (R : α → α → Prop) (l : List α) : Prop := ∀ i x y, l[i]? = some x → l[i + 1]? = some y → R x y
abbrev sp_ascG (K : PySem.W.Frag) {α : Type} (enc : α → PyData) (R : α → α → Prop) : Sp := FnP (T := List α) (fun ns => [is K (.tuple (ns.map enc))]) (fun ns => Asc R ns ∧ ns.length ≤ 100000) (fun _ => is K (.bool true))
abbrev sp_ascI (K : PySem.W.Frag) : Sp := sp_ascG K (α := Int) .int (· < ·)
abbrev sp_ascT (K : PySem.W.Frag) : Sp := sp_ascG K (α := List Int) tupI (fun a b => HT.lexLt a b = true)
theorem atI_n {α : Type} {l : List α} {i : Int} {j : Nat} {x : α} (e : i = (j : Int)) (h : l[j]? = some x) : atI l i = some x := by
  rw [e]
  exact atI_nat h
theorem asc_ev {α : Type} {enc : α → PyData} {R : α → α → Prop} {cnd : α → α → Bool} {v : V} {ns : List α} {op : R2} (hv : is K (.tuple (ns.map enc)) v N) (hR : ∀ x y, R x y → cnd x y = true) (ha : Asc R ns) (hz : ns.length ≤ 100000)
    (hop : ∀ (σ : L2.St) (M : Hp) (ta tb : TE) (x y : α), EvP ta σ M (is K (enc x)) → EvP tb σ M (is K (enc y)) → EvP (tOp op ta tb) σ M (is K (.bool (cnd x y)))) :
    EvP (tCB (rAll K) (tCons (tLc (iRng2 (tCons (tC (.int 1)) (tCons (tCB (fun xs H Q => ∃ p ys, xs = [.ref p] ∧ (SqL K H p ys ∨ SqT K H p ys) ∧ Q (.int ys.length) H) (tCons (tVar 0) tNil)) tNil))) (gName 1) tYes
      (tOp op (tOp (rIxT K) (tVar 0) (tOp (rI0 fun i j => .int (i - j)) (tVar 1) (tC (.int 1)))) (tOp (rIxT K) (tVar 0) (tVar 1))) [1]) tNil)) [some v, none] N (is K (.bool true)) := by
  refine (ev_all (bs := (List.range ((((ns.map enc).length : Nat) : Int) - 1).toNat).map fun _ => true) ?_).cast ?_
  · refine (ev_lc0 _ _ (fun _ => PyData.bool true) (ei_rng2 (lo := 1) (n := ((ns.map enc).length : Nat)) (ea_cons ev_int (ea_cons (ev_lenT (ev_var rfl hv)) ea_nil)) ?_ ?_ (by omega) (by omega)) ?_ fun i hi x M e fx => ?_).cast ?_
    · rw [List.length_map]
      omega
    · rw [List.length_map]
      omega
    · rw [List.length_range, List.length_map]
      omega
    · have hx := is_int fx
      subst hx
      have hi' := List.mem_range.mp hi
      rw [List.length_map] at hi'
      have h1 : i < ns.length := by omega
      have h2 : i + 1 < ns.length := by omega
      have g1 : ns[i]? = some ns[i] := List.getElem?_eq_getElem h1
      have g2 : ns[i + 1]? = some ns[i + 1] := List.getElem?_eq_getElem h2
      have hv' := (is K (.tuple (ns.map enc))).st _ _ _ e hv
      refine ⟨_, eg_name, rfl, (hop _ _ _ _ ns[i] ns[i + 1] (ev_ixT (ev_var rfl hv') (ev_sub (ev_var rfl (Dp.int _)) ev_int) (atI_n (j := i) (by omega) ?_)) (ev_ixT (ev_var rfl hv') (ev_var rfl (Dp.int _)) (atI_n (j := i + 1) (by omega) ?_))).cast ?_⟩
      · rw [List.getElem?_map, g1] <;> rfl
      · rw [List.getElem?_map, g2] <;> rfl
      · rw [hR _ _ (ha i _ _ g1 g2)]
    · rw [List.map_map] <;> rfl
  · have : (((List.range ((((ns.map enc).length : Nat) : Int) - 1).toNat).map fun _ => true).all id) = true := by
      rw [List.all_eq_true]
      intro x hx
      obtain ⟨_, _, rfl⟩ := List.mem_map.mp hx
      rfl
    rw [this]
theorem ok_are_ascending (T : Txt K mg A B) : FnOk P w K mg base CX0 1 A.are_ascending B.are_ascending ["things"] (fun vs H Q E => sp_ascI K vs H Q E ∨ sp_ascT K vs H Q E) := by
  refine T.F_are_ascending.ok sc_are_ascending (fun vs H Q E h => h.elim (fun h => FnP.len (n := 1) (fun _ => rfl) _ _ _ _ h) fun h => FnP.len (n := 1) (fun _ => rfl) _ _ _ _ h) (fun cdv A' outer s H vs Q E hr h => ?_)
  refine ⟨_, (pss_one (ps_ret (pe_callB (cr_allK (K := K) rfl) (by rfl) T.n_all (by decide +kernel) (pa_cons (pe_lc (own := [("at", 1)]) (g := gName 1) (tt := tYes) (by rfl) sc_are_ascending.nd (pi_range2 (by rfl) T.n_range (pa_cons pe_int (pa_cons (pe_callB (cr_len (K := K)) (by rfl) T.n_len (by decide +kernel) (pa_cons (pv 0) pa_nil)) pa_nil))) (blkOk_by (own := [("at", 1)]) (N := N_are_ascending) (sc := defScope s_are_ascending) (by decide +kernel)) (fun _ _ _ _ _ => (pg_name (i := 1) sc_are_ascending.nd rfl (by first | exact Or.inl rfl | exact Or.inr rfl))) (fun _ _ _ _ _ => pts_nil) (fun _ _ _ _ _ => (pe_cmpR (op_ltX (K := K) hr.units0) (pe_ix (ixT (K := K)) (pv 0) (pe_op op_sub (pv 1) pe_int) (fun _ _ => rfl)) (pe_ix (ixT (K := K)) (pv 0) (pv 1) (fun _ _ => rfl)) (nomark _)))) pa_nil)))), ?_⟩
  rcases h with ⟨ns, N, ⟨ha, hz⟩, e, hv, q⟩ | ⟨ns, N, ⟨ha, hz⟩, e, hv, q⟩
  · match vs, hv with
    | [v], hv =>
      exact s_ret e (asc_ev hv.1 (fun x y h => decide_eq_true h) ha hz fun _ _ _ _ x y h1 h2 => ev_ltXI h1 h2) fun v N' H' g fv => q v N' H' g fv
  · match vs, hv with
    | [v], hv =>
      exact s_ret e (asc_ev hv.1 (fun x y h => h) ha hz fun _ _ _ _ x y h1 h2 => ev_ltXT h1 h2) fun v N' H' g fv => q v N' H' g fv
/-! ### is_lot -/
/-- an ascending list of some of the folk -/
def OkLot (folk : Int) (l : List Int) : Prop := (∀ p ∈ l, 0 ≤ p ∧ p ≤ folk - 1) ∧ Asc (· < ·) l ∧ l.length ≤ 1000
abbrev sp_is_lot (K : PySem.W.Frag) : Sp := FnP (T := Int × List Int) (fun x => [is K (.int x.1), is K (tupI x.2)]) (fun x => OkLot x.1 x.2) (fun _ => is K (.bool true))
theorem ok_is_lot (T : Txt K mg A B) : FnOk P w K mg base CX0 3 A.is_lot B.is_lot ["folk", "thing"] (sp_is_lot K) := by
  have G_is_within := ok_is_within (P := P) (w := w) (base := base) T
  have G_are_ascending := (ok_are_ascending (P := P) (w := w) (base := base) T).imp (sp' := sp_ascI K) fun _ _ _ _ h => .inl h
  refine T.F_is_lot.ok sc_is_lot (FnP.len fun _ => rfl) (fun cdv A' outer s H vs Q E hr h => ?_)
  obtain ⟨⟨folk, l⟩, N, ⟨h1, h2, h3⟩, e, hv, q⟩ := h
  replace h3 : l.length ≤ 1000 := h3
  match vs, hv with
  | [v, v1], hv =>
    refine ⟨_, (pss_cons (ps_if (PW.pt (pw_or (pt_not (pt_val (pe_callB (cr_isi (K := K)) (by rfl) T.n_isinstance (by decide +kernel) (pa_cons (pv 1) (pa_cons (pe_bltn (v := .ty "tuple") (by rfl) T.n_tuple (by decide +kernel) rfl) pa_nil))))) (pw_or1 (pt_not (pt_val (pe_callB (cr_allK (K := K) rfl) (by rfl) T.n_all (by decide +kernel) (pa_cons (pe_lc (own := [("person", 2)]) (g := gName 2) (tt := tYes) (by rfl) sc_is_lot.nd (pi_tupK (K := K) (pv 1)) (blkOk_by (own := [("person", 2)]) (N := N_is_lot) (sc := defScope s_is_lot) (by decide +kernel)) (fun _ _ _ _ _ => (pg_name (i := 2) sc_is_lot.nd rfl (by first | exact Or.inl rfl | exact Or.inr rfl))) (fun _ _ _ _ _ => pts_nil) (fun _ _ _ _ _ => (pe_call G_is_within (hr.mono (by decide)) (by rfl) T.g_is_within T.F_is_within.kp T.b_is_within .nil pass0 (pa_cons (pv 2) (pa_cons pe_int (pa_cons (pe_op op_sub (pv 0) pe_int) pa_nil)))))) pa_nil))))))) 
    (pss_one (ps_ret pe_bl)) 
    pss_nil)
    (pss_one (ps_ret (pe_call G_are_ascending (hr.mono (by decide)) (by rfl) T.g_are_ascending T.F_are_ascending.kp T.b_are_ascending .nil pass0 (pa_cons (pv 1) pa_nil))))), ?_⟩
    have ef := is_int hv.1
    subst ef
    refine q_when (b := false) e ((et_or (a := false) (b := false) (et_not (a := true) (et_B (ev_isi (ev_var rfl hv.2.1) (ev_c rfl) fun v M h => ⟨_, ty_tup h, kit_tt⟩))) fun _ => et_not (a := true) (et_B (K := K) ?_))) (fun z => nomatch z) fun _ N1 H1 g1 => ?_
    · refine (ev_all (bs := l.map fun _ => true) ((ev_lc0 l _ (fun _ => PyData.bool true) (ei_tup (enc := .int) (ev_var rfl hv.2.1)) (by omega) fun p hp x M e fx => ?_).cast ?_)).cast ?_
      · have hx := is_int fx
        subst hx
        obtain ⟨p1, p2⟩ := h1 p hp
        refine ⟨_, eg_name, rfl, (ev_call (p, 0, folk - 1) trivial (ea_cons (ev_var rfl (Dp.int _)) (ea_cons ev_int (ea_cons (ev_sub (ev_var rfl (Dp.int _)) ev_int) ea_nil)))).cast ?_⟩
        rw [decide_eq_true p1, decide_eq_true p2] <;> rfl
      · rw [List.map_map] <;> rfl
      · congr 1
        rw [List.all_eq_true]
        intro x hx
        obtain ⟨_, _, rfl⟩ := List.mem_map.mp hx
        rfl
    · exact s_ret g1.s (ev_call l ⟨h2, by omega⟩ (ea_cons (ev_var rfl ((is K (tupI l)).st _ _ _ g1.n hv.2.1)) ea_nil)) fun v N' H' g fv => q v N' H' (g1.trans g) fv
/-! ### is_part, carries_there -/
def part (l m : List Int) : Bool := (l.map fun p => decide (p ∈ m)).all id
abbrev sp_is_part (K : PySem.W.Frag) : Sp := FnP (T := List Int × List Int) (fun x => [is K (tupI x.1), is K (tupI x.2)]) (fun x => x.1.length ≤ 1000) (fun x => is K (.bool (part x.1 x.2)))
theorem ok_is_part (T : Txt K mg A B) : FnOk P w K mg base CX0 1 A.is_part B.is_part ["lot", "other"] (sp_is_part K) := by
  refine T.F_is_part.ok sc_is_part (FnP.len fun _ => rfl) (fun cdv A' outer s H vs Q E hr h => ?_)
  obtain ⟨⟨l, m⟩, N, hz, e, hv, q⟩ := h
  match vs, hv with
  | [v, v1], hv =>
    refine ⟨_, (pss_one (ps_ret (pe_callB (cr_allK (K := K) rfl) (by rfl) T.n_all (by decide +kernel) (pa_cons (pe_lc (own := [("person", 2)]) (g := gName 2) (tt := tYes) (by rfl) sc_is_part.nd (pi_tupK (K := K) (pv 0)) (blkOk_by (own := [("person", 2)]) (N := N_is_part) (sc := defScope s_is_part) (by decide +kernel)) (fun _ _ _ _ _ => (pg_name (i := 2) sc_is_part.nd rfl (by first | exact Or.inl rfl | exact Or.inr rfl))) (fun _ _ _ _ _ => pts_nil) (fun _ _ _ _ _ => (pe_cmpR (op_inK (K := K)) (pv 2) (pv 1) (by rfl)))) pa_nil)))), ?_⟩
    refine s_ret e (ev_all (bs := l.map fun p => decide (p ∈ m)) ((ev_lc0 l _ (fun p => PyData.bool (decide (p ∈ m))) (ei_tup (enc := .int) (ev_var rfl hv.1)) (Nat.le_trans hz (by decide)) fun p hp x M e fx => ?_).cast ?_)) fun v N' H' g fv => q v N' H' g fv
    · exact ⟨_, eg_name, rfl, ev_inT (neg := false) (ev_var rfl fx) (ev_var rfl ((is K (tupI m)).st _ _ _ e hv.2.1))⟩
    · rw [List.map_map] <;> rfl
def carr (t : List (List Int)) (l : List Int) : Bool := (t.map fun m => part m l).any id
abbrev sp_carries_there (K : PySem.W.Frag) : Sp := FnP (T := List (List Int) × List Int) (fun x => [is K (tabD x.1), is K (tupI x.2)]) (fun x => x.1.length ≤ 1000 ∧ ∀ l ∈ x.1, l.length ≤ 1000) (fun x => is K (.bool (carr x.1 x.2)))
theorem ok_carries_there (T : Txt K mg A B) : FnOk P w K mg base CX0 2 A.carries_there B.carries_there ["table", "lot"] (sp_carries_there K) := by
  have G_is_part := ok_is_part (P := P) (w := w) (base := base) T
  refine T.F_carries_there.ok sc_carries_there (FnP.len fun _ => rfl) (fun cdv A' outer s H vs Q E hr h => ?_)
  obtain ⟨⟨t, l⟩, N, ⟨hz, hl⟩, e, hv, q⟩ := h
  match vs, hv with
  | [v, v1], hv =>
    refine ⟨_, (pss_one (ps_ret (pe_callB (cr_anyK (K := K) rfl) (by rfl) T.n_any (by decide +kernel) (pa_cons (pe_lc (own := [("least", 2)]) (g := gName 2) (tt := tYes) (by rfl) sc_carries_there.nd (pi_tupK (K := K) (pv 0)) (blkOk_by (own := [("least", 2)]) (N := N_carries_there) (sc := defScope s_carries_there) (by decide +kernel)) (fun _ _ _ _ _ => (pg_name (i := 2) sc_carries_there.nd rfl (by first | exact Or.inl rfl | exact Or.inr rfl))) (fun _ _ _ _ _ => pts_nil) (fun _ _ _ _ _ => (pe_call G_is_part (hr.mono (by decide)) (by rfl) T.g_is_part T.F_is_part.kp T.b_is_part .nil pass0 (pa_cons (pv 2) (pa_cons (pv 1) pa_nil))))) pa_nil)))), ?_⟩
    refine s_ret e (ev_any (bs := t.map fun m => part m l) ((ev_lc0 t _ (fun m => PyData.bool (part m l)) (ei_tup (enc := tupI) (ev_var rfl hv.1)) (Nat.le_trans hz (by decide)) fun m hm x M e fx => ?_).cast ?_)) fun v N' H' g fv => q v N' H' g fv
    · exact ⟨_, eg_name, rfl, ev_call (m, l) (hl m hm) (ea_cons (ev_var rfl fx) (ea_cons (ev_var rfl ((is K (tupI l)).st _ _ _ e hv.2.1)) ea_nil))⟩
    · rw [List.map_map] <;> rfl
/-! ### check_folk -/
abbrev sp_check_folk (K : PySem.W.Frag) : Sp := FnP (T := Int) (fun x => [is K (.int x)]) (fun x => 1 ≤ x ∧ x ≤ 6) (fun _ => is K .none)
theorem ok_check_folk (T : Txt K mg A B) : FnOk P w K mg base CX0 3 A.check_folk B.check_folk ["thing"] (sp_check_folk K) := by
  have G_is_within := ok_is_within (P := P) (w := w) (base := base) T
  obtain ⟨t6, g_MOST_FOLK_webs⟩ := T.g_MOST_FOLK_webs
  refine T.F_check_folk.ok sc_check_folk (FnP.len fun _ => rfl) (fun cdv A' outer s H vs Q E hr h => ?_)
  obtain ⟨x, N, ⟨h1, h2⟩, e, hv, q⟩ := h
  match vs, hv with
  | [v], hv =>
    refine ⟨_, (pss_one (ps_if (pt_not (pt_val (pe_call G_is_within (hr.mono (by decide)) (by rfl) T.g_is_within T.F_is_within.kp T.b_is_within .nil pass0 (pa_cons (pv 0) (pa_cons pe_int (pa_cons (pe_glob (v := .int 6) (by rfl) g_MOST_FOLK_webs ⟨_, rfl⟩) pa_nil)))))) 
    (pss_one ps_never) 
    pss_nil)), ?_⟩
    refine s_when (b := false) e (et_not (a := true) (et_B ((ev_call (x, 1, 6) trivial (ea_cons (ev_var rfl hv.1) (ea_cons ev_int (ea_cons (ev_c (Dp.int 6)) ea_nil)))).cast ?_))) (fun z => nomatch z) fun _ N1 H1 g1 => q _ N1 H1 g1 .non
    rw [decide_eq_true h1, decide_eq_true h2] <;> rfl
end
end Rk
end PartRkF2

section PartRkF3
set_option Elab.async false
set_option linter.all false
set_option maxRecDepth 100000
set_option maxHeartbeats 4000000
namespace Rk
open PySem PySem.Spec PyProof.Rows L2 RkS
section
variable {P : Program} {w : World} {K : PySem.W.Frag} {mg : Str → Option Value} {base : Heap} {A : Ad} {B : Fd}
variable {σ : L2.St} {N : Hp} {ta tb tc te : TE} {f : Pr}
/-! ### t + u, slices -/
theorem ev_catT {ds es : List PyData} (ha : EvP ta σ N (is K (.tuple ds))) (hb : EvP tb σ N (is K (.tuple es))) (hz : ds.length + es.length ≤ 100000) : EvP (tOp (rCatA K) ta tb) σ N (is K (.tuple (ds ++ es))) :=
  ev_op ha hb fun x y M e fx fy H eh Q q => by
    obtain ⟨a, xs, rfl, hs, hd⟩ := is_tup fx
    obtain ⟨b, ys, rfl, ht, he⟩ := is_tup fy
    have l1 := dpAll_len hd
    have l2 := dpAll_len he
    refine ⟨a, b, xs, ys, rfl, rfl, sqT_ex eh hs, sqT_ex eh ht, sz_of (by omega), fun h0 => ?_, fun h1 h0 => ?_, fun h1 h2 p hp => ?_⟩
    · subst h0
      have : ds = [] := List.eq_nil_of_length_eq_zero l1.symm
      subst this
      exact q _ M H (Go.refl eh) fy
    · subst h0
      have : es = [] := List.eq_nil_of_length_eq_zero l2.symm
      subst this
      rw [List.append_nil] at q
      exact q _ M H (Go.refl eh) fx
    · exact q _ _ _ (Go.new eh hp) (mk_tup upd_same (dpAll_app (dpAll_ex (Ex.new (eh.back hp)) _ _ hd) (dpAll_ex (Ex.new (eh.back hp)) _ _ he)))
def EvO (to : TO) (σ : L2.St) (N : Hp) (o : Option Int) : Prop := ∀ H, Ex N H → ∀ Q : Option Int → Hp → Prop, (∀ N' H', Go N H N' H' → Q o H') → to σ H Q
theorem eo_none : EvO tNoPart σ N none := fun H e Q q => q N H (Go.refl e)
theorem eo_some {i : Int} (h : EvP te σ N (is K (.int i))) : EvO (tPart te) σ N (some i) := fun H e Q q => h H e _ fun v N' H' g fv => ⟨i, is_int fv, q N' H' g⟩
theorem EvO.mono {M : Hp} {to : TO} {o : Option Int} (e : Ex N M) (x : EvO to σ N o) : EvO to σ M o := fun H em Q q => x H (e.trans em) Q fun N' H' gg => by
  obtain ⟨g2, e2⟩ := gg.lift e em
  exact q _ H' g2
def cutL {α : Type} (xs : List α) (lo hi : Option Int) : List α := (xs.drop (HT.sIx xs.length 0 lo)).take (HT.sIx xs.length xs.length hi - HT.sIx xs.length 0 lo)
theorem dpAll_cut {ds : List PyData} {xs : List V} (h : DpAll K N xs ds) (lo hi : Option Int) : DpAll K N (cutV xs lo hi) (cutL ds lo hi) := by
  unfold cutV cutL
  rw [dpAll_len h]
  exact dpAll_take _ (dpAll_drop _ h)
theorem ev_slT {ds : List PyData} {tl th : TO} {lo hi : Option Int} (ha : EvP te σ N (is K (.tuple ds))) (h1 : EvO tl σ N lo) (h2 : EvO th σ N hi) : EvP (tSl (rSlA K) te tl th) σ N (is K (.tuple (cutL ds lo hi))) := fun H e Q q =>
  ha H e _ fun v N1 H1 g1 fv => h1.mono g1.n H1 g1.s _ fun N2 H2 g2 => h2.mono (g1.n.trans g2.n) H2 g2.s _ fun N3 H3 g3 => by
    obtain ⟨a, xs, rfl, hs, hd⟩ := is_tup fv
    have g23 := g2.trans g3
    have g123 := g1.trans g23
    refine ⟨a, xs, rfl, sqT_ex (g23.n.trans g23.s) hs, fun hw => ?_, fun hw p hp => ?_⟩
    · refine q _ N3 H3 g123 ((is K (.tuple (cutL ds lo hi))).st _ _ _ g23.n ?_)
      have : cutL ds lo hi = ds := by
        unfold cutL
        rw [← dpAll_len hd, hw.1, hw.2, List.drop_zero, Nat.sub_zero, dpAll_len hd, List.take_length]
      rw [this]
      exact fv
    · exact q _ _ _ (g123.trans (Go.new g3.s hp)) (mk_tup upd_same (dpAll_ex (g23.n.trans (Ex.new (g3.s.back hp))) _ _ (dpAll_cut hd lo hi)))
theorem cut_take {α : Type} (xs : List α) (n : Nat) : cutL xs none (some (n : Int)) = xs.take n := by
  unfold cutL
  rw [HT.sIx_none, HT.sIx_nat, List.drop_zero, Nat.sub_zero]
  by_cases h : n ≤ xs.length
  · rw [Nat.min_eq_left h]
  · rw [Nat.min_eq_right (by omega), List.take_length, List.take_of_length_le (by omega)]
theorem cut_drop {α : Type} (xs : List α) (n : Nat) : cutL xs (some (n : Int)) none = xs.drop n := by
  unfold cutL
  rw [HT.sIx_none, HT.sIx_nat]
  by_cases h : n ≤ xs.length
  · rw [Nat.min_eq_left h, List.take_of_length_le (by rw [List.length_drop]; exact Nat.le_refl _)]
  · rw [Nat.min_eq_right (by omega), List.drop_length, List.drop_of_length_le (by omega), List.take_nil]
/-! ### is_table_there -/
/-- a table for so many folk -/
structure OkTab (folk : Int) (t : List (List Int)) : Prop where
  few : t.length ≤ 1000
  lots : ∀ l ∈ t, OkLot folk l
  asc : Asc (fun a b => HT.lexLt a b = true) t
  least : ∀ (i j : Nat) l m, t[i]? = some l → t[j]? = some m → i ≠ j → part m l = false
abbrev sp_is_table_there (K : PySem.W.Frag) : Sp := FnP (T := Int × List (List Int)) (fun x => [is K (.int x.1), is K (tabD x.2)]) (fun x => OkTab x.1 x.2) (fun _ => is K (.bool true))
theorem ok_is_table_there (T : Txt K mg A B) : FnOk P w K mg base CX0 4 A.is_table_there B.is_table_there ["folk", "thing"] (sp_is_table_there K) := by
  have G_is_lot := ok_is_lot (P := P) (w := w) (base := base) T
  have G_is_part := ok_is_part (P := P) (w := w) (base := base) T
  have G_are_ascending := (ok_are_ascending (P := P) (w := w) (base := base) T).imp (sp' := sp_ascT K) fun _ _ _ _ h => .inr h
  refine T.F_is_table_there.ok sc_is_table_there (FnP.len fun _ => rfl) (fun cdv A' outer s H vs Q E hr h => ?_)
  obtain ⟨⟨folk, t⟩, N, hp, e, hv, q⟩ := h
  replace hp : OkTab folk t := hp
  have hfew := hp.few
  match vs, hv with
  | [v, v1], hv =>
    refine ⟨_, (pss_cons (ps_if (PW.pt (pw_or (pt_not (pt_val (pe_callB (cr_isi (K := K)) (by rfl) T.n_isinstance (by decide +kernel) (pa_cons (pv 1) (pa_cons (pe_bltn (v := .ty "tuple") (by rfl) T.n_tuple (by decide +kernel) rfl) pa_nil))))) (pw_or (pt_not (pt_val (pe_callB (cr_allK (K := K) rfl) (by rfl) T.n_all (by decide +kernel) (pa_cons (pe_lc (own := [("lot", 3)]) (g := gName 3) (tt := tYes) (by rfl) sc_is_table_there.nd (pi_tupK (K := K) (pv 1)) (blkOk_by (own := [("lot", 3)]) (N := N_is_table_there) (sc := defScope s_is_table_there) (by decide +kernel)) (fun _ _ _ _ _ => (pg_name (i := 3) sc_is_table_there.nd rfl (by first | exact Or.inl rfl | exact Or.inr rfl))) (fun _ _ _ _ _ => pts_nil) (fun _ _ _ _ _ => (pe_call G_is_lot (hr.mono (by decide)) (by rfl) T.g_is_lot T.F_is_lot.kp T.b_is_lot .nil pass0 (pa_cons (pv 0) (pa_cons (pv 3) pa_nil))))) pa_nil)))) (pw_or1 (pt_not (pt_val (pe_call G_are_ascending (hr.mono (by decide)) (by rfl) T.g_are_ascending T.F_are_ascending.kp T.b_are_ascending .nil pass0 (pa_cons (pv 1) pa_nil)))))))) 
    (pss_one (ps_ret pe_bl)) 
    pss_nil)
    (pss_cons (ps_for PassesOwn.never (by rfl) (pi_enumT (K := K) (by rfl) T.n_enumerate (pa_cons (pv 1) pa_nil)) (pg_tup (by rfl) (pgs_cons (pg_name (i := 2) sc_is_table_there.nd rfl (by first | exact Or.inl rfl | exact Or.inr rfl)) (pgs_cons (pg_name (i := 3) sc_is_table_there.nd rfl (by first | exact Or.inl rfl | exact Or.inr rfl)) pgs_nil))) 
    (pss_one (ps_if (pt_val (pe_callB (cr_anyK (K := K) rfl) (by rfl) T.n_any (by decide +kernel) (pa_cons (pe_lc (own := [("other", 4)]) (g := gName 4) (tt := tYes) (by rfl) sc_is_table_there.nd (pi_tupK (K := K) (pe_op (op_catAK (K := K)) (pe_slice (sl_tupK (K := K)) (pv 1) po_none (po_some (pv 2))) (pe_slice (sl_tupK (K := K)) (pv 1) (po_some (pe_op op_add (pv 2) pe_int)) po_none))) (blkOk_by (own := [("other", 4)]) (N := N_is_table_there) (sc := defScope s_is_table_there) (by decide +kernel)) (fun _ _ _ _ _ => (pg_name (i := 4) sc_is_table_there.nd rfl (by first | exact Or.inl rfl | exact Or.inr rfl))) (fun _ _ _ _ _ => pts_nil) (fun _ _ _ _ _ => (pe_call G_is_part (hr.mono (by decide)) (by rfl) T.g_is_part T.F_is_part.kp T.b_is_part .nil pass0 (pa_cons (pv 4) (pa_cons (pv 3) pa_nil))))) pa_nil))) 
      (pss_one (ps_ret pe_bl)) 
      pss_nil)))
    (pss_one (ps_ret pe_bl)))), ?_⟩
    have ef := is_int hv.1
    subst ef
    have ht : is K (tabD t) v1 N := hv.2.1
    refine q_when (b := false) e ((et_or (a := false) (b := false) (et_not (a := true) (et_B (ev_isi (ev_var rfl ht) (ev_c rfl) fun v M h => ⟨_, ty_tup h, kit_tt⟩))) fun _ =>
      et_or (a := false) (b := false) (et_not (a := true) (et_B (K := K) ?_)) fun _ => et_not (a := true) (et_B (ev_call t ⟨hp.asc, by omega⟩ (ea_cons (ev_var rfl ht) ea_nil))))) (fun z => nomatch z) fun _ N1 H1 g1 => ?_
    · refine (ev_all (bs := t.map fun _ => true) ((ev_lc0 t _ (fun _ => PyData.bool true) (ei_tup (enc := tupI) (ev_var rfl ht)) (by omega) fun l hl x M e fx => ?_).cast ?_)).cast ?_
      · exact ⟨_, eg_name, rfl, ev_call (folk, l) (hp.lots l hl) (ea_cons (ev_var rfl (Dp.int _)) (ea_cons (ev_var rfl fx) ea_nil))⟩
      · rw [List.map_map] <;> rfl
      · congr 1
        rw [List.all_eq_true]
        intro x hx
        obtain ⟨_, _, rfl⟩ := List.mem_map.mp hx
        rfl
    · refine q_forE t tupI g1.s (ev_var rfl ((is K (tabD t)).st _ _ _ g1.n ht)) fun N2 H2 g2 => ?_
      refine ⟨fun n σ H3 => ∃ a b N3, σ = [some (.int folk), some v1, a, b, none] ∧ Go N2 H2 N3 H3, ⟨none, none, N2, rfl, Go.refl g2.s⟩, ?_, ?_, ?_⟩
      · rintro n σ H3 ⟨a, b, N3, _, g3⟩
        exact g3.n.trans g3.s
      · rintro n l x σ H3 H4 T' hl fx ⟨a, b, N3, rfl, g3⟩ nT rfl
        have g4 : Go N3 H3 (upd N3 T' _) (upd H3 T' (.tup [.int (n : Nat), x])) := Go.new g3.s nT
        have g34 := g3.trans g4
        have ht4 : is K (tabD t) v1 (upd N3 T' (.tup [.int (n : Nat), x])) := (is K (tabD t)).st _ _ _ (((g1.trans g2).trans g34).n) ht
        have fx4 := (is K (tupI l)).st _ _ _ g34.n fx
        have hn : n < t.length := (List.getElem?_eq_some_iff.mp hl).1
        have hll : l ∈ t := List.mem_of_getElem? hl
        refine s_when (b := false) g4.s (et_B (K := K) ?_) (fun z => nomatch z) fun _ N5 H5 g5 => ⟨_, _, N5, rfl, g34.trans g5⟩
        refine (ev_any (bs := (t.take n ++ t.drop (n + 1)).map fun _ => false) ((ev_lc0 (t.take n ++ t.drop (n + 1)) _ (fun _ => PyData.bool false) (ei_tup (enc := tupI) ((ev_catT (ev_slT (ev_var rfl ht4) eo_none (eo_some (K := K) (ev_var rfl (Dp.int _)))) (ev_slT (ev_var rfl ht4) (eo_some (K := K) (ev_add (ev_var rfl (Dp.int (n : Nat))) ev_int)) eo_none) ?_).cast ?_)) ?_ fun m hm y M e fy => ?_).cast ?_)).cast ?_
        · show (cutL (t.map tupI) none (some ((n : Nat) : Int))).length + (cutL (t.map tupI) (some ((n : Int) + 1)) none).length ≤ 100000
          rw [cut_take, show ((n : Int) + 1) = ((n + 1 : Nat) : Int) by omega, cut_drop, List.length_take, List.length_drop, List.length_map]
          omega
        · show PyData.tuple (cutL (t.map tupI) none (some ((n : Nat) : Int)) ++ cutL (t.map tupI) (some ((n : Int) + 1)) none) = _
          rw [cut_take, show ((n : Int) + 1) = ((n + 1 : Nat) : Int) by omega, cut_drop, ← List.map_take, ← List.map_drop, ← List.map_append]
        · rw [List.length_append, List.length_take, List.length_drop]
          omega
        · have hmt : part m l = false ∧ m ∈ t := by
            rcases List.mem_append.mp hm with h1 | h1
            · obtain ⟨j, hj⟩ := List.getElem?_of_mem h1
              have hjn : j < n := by
                have := (List.getElem?_eq_some_iff.mp hj).1
                rw [List.length_take] at this
                omega
              rw [List.getElem?_take_of_lt hjn] at hj
              exact ⟨hp.least n j l m hl hj (by omega), List.mem_of_getElem? hj⟩
            · obtain ⟨j, hj⟩ := List.getElem?_of_mem h1
              rw [List.getElem?_drop] at hj
              exact ⟨hp.least n _ l m hl hj (by omega), List.mem_of_getElem? hj⟩
          refine ⟨_, eg_name, rfl, (ev_call (m, l) (hp.lots m hmt.2).2.2 (ea_cons (ev_var rfl fy) (ea_cons (ev_var rfl ((is K (tupI l)).st _ _ _ e fx4)) ea_nil))).cast ?_⟩
          rw [hmt.1]
        · rw [List.map_map] <;> rfl
        · congr 1
          rw [List.any_eq_false]
          intro x hx
          obtain ⟨_, _, rfl⟩ := List.mem_map.mp hx
          decide
      · rintro σ H3 ⟨a, b, N3, rfl, g3⟩
        exact s_ret g3.s ev_bl fun v N' H' g fv => q v N' H' (((g1.trans g2).trans g3).trans g) fv
/-! ### check_table -/
abbrev sp_check_table (K : PySem.W.Frag) : Sp := FnP (T := Int × List (List Int)) (fun x => [is K (.int x.1), is K (tabD x.2)]) (fun x => (1 ≤ x.1 ∧ x.1 ≤ 6) ∧ OkTab x.1 x.2) (fun _ => is K .none)
theorem ok_check_table (T : Txt K mg A B) : FnOk P w K mg base CX0 5 A.check_table B.check_table ["folk", "thing"] (sp_check_table K) := by
  have G_check_folk := ok_check_folk (P := P) (w := w) (base := base) T
  have G_is_table_there := ok_is_table_there (P := P) (w := w) (base := base) T
  refine T.F_check_table.ok sc_check_table (FnP.len fun _ => rfl) (fun cdv A' outer s H vs Q E hr h => ?_)
  obtain ⟨⟨folk, t⟩, N, ⟨hf, hp⟩, e, hv, q⟩ := h
  match vs, hv with
  | [v, v1], hv =>
    refine ⟨_, (pss_cons (ps_expr (pe_call G_check_folk (hr.mono (by decide)) (by rfl) T.g_check_folk T.F_check_folk.kp T.b_check_folk .nil pass0 (pa_cons (pv 0) pa_nil)))
    (pss_one (ps_if (pt_not (pt_val (pe_call G_is_table_there (hr.mono (by decide)) (by rfl) T.g_is_table_there T.F_is_table_there.kp T.b_is_table_there .nil pass0 (pa_cons (pv 0) (pa_cons (pv 1) pa_nil))))) 
    (pss_one ps_never) 
    pss_nil))), ?_⟩
    refine q_drop e (ev_call folk hf (ea_cons (ev_var rfl hv.1) ea_nil)) fun _ N1 H1 g1 _ => ?_
    refine s_when (b := false) g1.s (et_not (a := true) (et_B (ev_call (folk, t) hp (ea_cons (ev_var rfl ((is K _).st _ _ _ g1.n hv.1)) (ea_cons (ev_var rfl ((is K _).st _ _ _ g1.n hv.2.1)) ea_nil))))) (fun z => nomatch z) fun _ N2 H2 g2 => q _ N2 H2 (g1.trans g2) .non
end
end Rk
end PartRkF3

section PartRkF4
set_option Elab.async false
set_option linter.all false
set_option maxRecDepth 100000
set_option maxHeartbeats 4000000
namespace Rk
open PySem PySem.Spec PyProof.Rows L2 RkS
/-- all lots of so many folk, as they are made -/
def lotsR : Nat → List (List Int)
  | 0 => [[]]
  | n + 1 => lotsR n ++ (lotsR n).map (· ++ [(n : Int)])
def lotsM (n : Nat) : List (List Int) := sortL (lotsR n)
theorem lotsR_len : ∀ n, (lotsR n).length = 2 ^ n
  | 0 => rfl
  | n + 1 => by
    show (lotsR n ++ (lotsR n).map _).length = _
    rw [List.length_append, List.length_map, lotsR_len n, Nat.pow_succ]
    omega
theorem lotsR_few {n : Nat} (h : n ≤ 6) : (lotsR n).length ≤ 64 := by
  rw [lotsR_len]
  exact Nat.le_trans (Nat.pow_le_pow_right (by decide) h) (by decide)
theorem lotsR_item : ∀ {n : Nat} {l : List Int}, l ∈ lotsR n → l.length ≤ n
  | 0, l, h => by
    rw [List.mem_singleton.mp h]
    exact Nat.le_refl _
  | n + 1, l, h => by
    rcases List.mem_append.mp h with h | h
    · exact Nat.le_succ_of_le (lotsR_item h)
    · obtain ⟨m, hm, rfl⟩ := List.mem_map.mp h
      rw [List.length_append, List.length_singleton]
      exact Nat.succ_le_succ (lotsR_item hm)
section
variable {P : Program} {w : World} {K : PySem.W.Frag} {mg : Str → Option Value} {base : Heap} {A : Ad} {B : Fd}
abbrev sp_lots (K : PySem.W.Frag) : Sp := FnP (T := Nat) (fun n => [is K (.int (n : Nat))]) (fun n => n ≤ 6) (fun n => is K (.list ((lotsM n).map tupI)))
/-- lot + (person,) for lot in found -/
theorem ev_more {σ : L2.St} {N : Hp} {ls : List (List Int)} {n : Int} {tl : TE} {i j : Nat} {x : V} (hl : EvP tl σ N (is K (.list (ls.map tupI)))) (hn : ∀ v, ((wipe σ [j]).set j (some v))[i]? = some (some (.int n))) (hj : ∀ v, ((wipe σ [j]).set j (some v))[j]? = some (some v)) (hw : ∀ v, wipe ((wipe σ [j]).set j (some v)) [j] = wipe σ [j])
    (hz : ls.length ≤ 1000) (hz2 : ∀ l ∈ ls, l.length ≤ 1000) :
    EvN (tLc (iList K tl) (gName j) tYes (tOp (rCatA K) (tVar j) (tTup (tCons (tVar i) tNil))) [j]) σ N (fun K ys N' => DpAll K N' ys ((ls.map (· ++ [n])).map tupI)) K := by
  have h := en_lc (vs := [j]) (K := K) (σ := σ) (N := N) (t := tYes) (te := tOp (rCatA K) (tVar j) (tTup (tCons (tVar i) tNil))) (tg := gName j) ls (fun l => is K (tupI l)) (fun _ => true) (fun l => tupI (l ++ [n])) (ei_list hl) (by omega) (fun l hl' v M e fv =>
    ⟨_, eg_name, hw v, et_yes, fun _ => (ev_catT (ev_var (hj v) fv) (ev_tup (ds := [.int n]) (ea_cons (ev_var (hn v) (Dp.int n)) ea_nil) (Nat.le_of_ble_eq_true rfl)) (by
      have := hz2 l hl'
      rw [List.length_map]
      show l.length + 1 ≤ 100000
      omega)).cast (by
      show PyData.tuple (l.map .int ++ [.int n]) = tupI (l ++ [n])
      rw [show tupI (l ++ [n]) = PyData.tuple ((l ++ [n]).map .int) from rfl, List.map_append] <;> rfl)⟩)
  intro H e Q q
  refine h H e Q fun p vs N' H' g hp hd => q p vs N' H' g hp ?_
  rw [List.filter_eq_self.mpr (fun _ _ => rfl)] at hd
  rw [List.map_map]
  exact hd
theorem ok_lots_of (T : Txt K mg A B) : FnOk P w K mg base CX0 1 A.lots_of B.lots_of ["folk"] (sp_lots K) := by
  refine T.F_lots_of.ok sc_lots_of (FnP.len fun _ => rfl) (fun cdv A' outer s H vs Q E hr h => ?_)
  obtain ⟨n, N, hn6, e, hv, q⟩ := h
  match vs, hv with
  | [v], hv =>
    refine ⟨_, (pss_cons (ps_set (i := 1) sc_lots_of.nd rfl (by first | exact Or.inl rfl | exact Or.inr rfl) (pe_lst (pa_cons (pe_tup pa_nil) pa_nil)))
    (pss_cons (ps_for PassesOwn.never (by rfl) (pi_range1 (by rfl) T.n_range (pa_cons (pv 0) pa_nil)) (pg_name (i := 2) sc_lots_of.nd rfl (by first | exact Or.inl rfl | exact Or.inr rfl)) 
    (pss_one (ps_expr (pe_bm PySem.F.plainAttrs_list PySem.F.slot_list_extend PySem.F.type_list_extend mt_extend (pv 1) (pa_cons (pe_lc (own := [("lot", 3)]) (g := gName 3) (tt := tYes) (by rfl) sc_lots_of.nd (pi_listK (K := K) (pv 1)) (blkOk_by (own := [("lot", 3)]) (N := N_lots_of) (sc := defScope s_lots_of) (by decide +kernel)) (fun _ _ _ _ _ => (pg_name (i := 3) sc_lots_of.nd rfl (by first | exact Or.inl rfl | exact Or.inr rfl))) (fun _ _ _ _ _ => pts_nil) (fun _ _ _ _ _ => (pe_op (op_catAK (K := K)) (pv 3) (pe_tup (pa_cons (pv 2) pa_nil))))) pa_nil)))))
    (pss_one (ps_ret (pe_callB (RkS.cr_sortL (K := K) (hu8 hr)) (by rfl) T.n_sorted (by decide +kernel) (pa_cons (pv 1) pa_nil)))))), ?_⟩
    have ef := is_int hv.1
    subst ef
    refine q_new e (en_lst (K := K) (ds := [tupI []]) (ea_cons (ev_tup (ds := []) ea_nil (Nat.le_of_ble_eq_true rfl)) ea_nil) (Nat.le_of_ble_eq_true rfl)) fun p vs N1 H1 g1 hp hd => ?_
    obtain ⟨g2, c2⟩ := Cl.mk' (o := .lst vs) g1 hp
    refine q_for (List.range n) (fun i => is K (.int (0 + (i : Nat)))) g2.s (ei_rng1 (n := (n : Nat)) (ea_cons (ev_var rfl (Dp.int _)) ea_nil) (by omega) (by omega)) fun N3 H3 g3 => ?_
    refine ⟨fun i σ H4 => ∃ a N4 ws, σ = [some (.int (n : Nat)), some (.ref p), a, none] ∧ Go N H N4 H4 ∧ Ex N3 N4 ∧ Cl H N4 H4 p (.lst ws) ∧ DpAll K N4 ws ((lotsR i).map tupI), ⟨none, N3, vs, rfl, g2.trans g3, Ex.refl _, c2.go g3, dpAll_ex g3.n _ _ hd⟩, ?_, ?_, ?_⟩
    · rintro i σ H4 ⟨a, N4, ws, _, g4, e4, _⟩
      exact e4.trans g4.s
    · rintro i k x σ H4 hk fx ⟨a, N4, ws, rfl, g4, e4, c4, d4⟩
      have hi : i < n := by
        have := (List.getElem?_eq_some_iff.mp hk).1
        rw [List.length_range] at this
        exact this
      have ek : k = i := by
        rw [List.getElem?_range hi] at hk
        exact (Option.some.inj hk).symm
      subst ek
      have ex := is_int fx
      rw [Int.zero_add] at ex
      subst ex
      have hlen : ws.length ≤ 64 := by
        rw [dpAll_len d4, List.length_map]
        exact lotsR_few (by omega)
      have hz : (lotsR k).length ≤ 64 := lotsR_few (by omega)
      -- found.extend(..)
      refine ⟨_, rfl, .inl ⟨rfl, ws, .inl (.inl c4.h)⟩, ?_⟩
      refine ev_more (K := K) (N := upd N4 p (.lst ws)) (ls := lotsR k) (n := (k : Nat)) (i := 2) (j := 3) (x := .non) (ev_var rfl (mk_lst upd_same (dpAll_ex (Ex.new c4.n) _ _ d4))) (fun _ => rfl) (fun _ => rfl) (fun _ => rfl) (by omega) (fun l hl => Nat.le_trans (lotsR_item hl) (by omega)) H4 (ex_know g4.s c4.h) _ fun D ys N5 H5 g5 hD d5 => ?_
      obtain ⟨g6, c6, hp5, e6⟩ := g4.unknow c4 g5
      have nD : p ≠ D := ne_of_none c6.h hD
      have hyl : ys.length ≤ 64 := by
        rw [dpAll_len d5, List.length_map, List.length_map]
        exact hz
      refine ⟨p, D, ws, ys, rfl, rfl, by rw [upd_ne nD]; exact c6.h, upd_same, sz_of (by omega), ?_⟩
      have n5 : (erase N5 p) D = none := g6.s.back hD
      have g7 : Go N H (erase N5 p) (upd H5 D (.lst ys)) := ⟨g6.n, g6.h.mut (g6.fresh hD), g6.s.mut n5, g6.f⟩
      have c7 : Cl H (erase N5 p) (upd H5 D (.lst ys)) p (.lst ws) := c6.off nD
      refine ⟨_, erase N5 p, ws ++ ys, rfl, g7.put c7, e4.trans e6, c7.put, ?_⟩
      show DpAll K (erase N5 p) (ws ++ ys) ((lotsR k ++ (lotsR k).map (· ++ [(k : Int)])).map tupI)
      rw [List.map_append]
      exact dpAll_app (dpAll_ex e6 _ _ d4) (dpAll_erase hp5 d5)
    · rintro σ H4 ⟨a, N4, ws, rfl, g4, e4, c4, d4⟩
      rw [List.length_range] at d4
      have g5 := g4.know c4
      exact s_ret g5.s (ev_sortL (ev_var rfl (mk_lst upd_same (dpAll_ex (Ex.new c4.n) _ _ d4)))) fun v N' H' g fv => q v N' H' (g5.trans g) fv
theorem ok_law_lots (T : Txt K mg A B) : FnOk P w K mg base CX0 1 A._law_lots B._law_lots ["_law_folk"] (sp_lots K) := by
  refine T.F__law_lots.ok sc__law_lots (FnP.len fun _ => rfl) (fun cdv A' outer s H vs Q E hr h => ?_)
  obtain ⟨n, N, hn6, e, hv, q⟩ := h
  match vs, hv with
  | [v], hv =>
    refine ⟨_, (pss_cons (ps_set (i := 1) sc__law_lots.nd rfl (by first | exact Or.inl rfl | exact Or.inr rfl) (pe_lst (pa_cons (pe_tup pa_nil) pa_nil)))
    (pss_cons (ps_for PassesOwn.never (by rfl) (pi_range1 (by rfl) T.n_range (pa_cons (pv 0) pa_nil)) (pg_name (i := 2) sc__law_lots.nd rfl (by first | exact Or.inl rfl | exact Or.inr rfl)) 
    (pss_one (ps_set (i := 1) sc__law_lots.nd rfl (by first | exact Or.inl rfl | exact Or.inr rfl) (pe_op (op_catL (K := K)) (pv 1) (pe_lc (own := [("_law_lot", 3)]) (g := gName 3) (tt := tYes) (by rfl) sc__law_lots.nd (pi_listK (K := K) (pv 1)) (blkOk_by (own := [("_law_lot", 3)]) (N := N__law_lots) (sc := defScope s__law_lots) (by decide +kernel)) (fun _ _ _ _ _ => (pg_name (i := 3) sc__law_lots.nd rfl (by first | exact Or.inl rfl | exact Or.inr rfl))) (fun _ _ _ _ _ => pts_nil) (fun _ _ _ _ _ => (pe_op (op_catAK (K := K)) (pv 3) (pe_tup (pa_cons (pv 2) pa_nil)))))))))
    (pss_one (ps_ret (pe_callB (RkS.cr_sortL (K := K) (hu8 hr)) (by rfl) T.n_sorted (by decide +kernel) (pa_cons (pv 1) pa_nil)))))), ?_⟩
    have ef := is_int hv.1
    subst ef
    refine q_asg e (ev_lst (K := K) (ds := [tupI []]) (ea_cons (ev_tup (ds := []) ea_nil (Nat.le_of_ble_eq_true rfl)) ea_nil) (Nat.le_of_ble_eq_true rfl)) fun p N1 H1 g1 hp => ?_
    refine q_for (List.range n) (fun i => is K (.int (0 + (i : Nat)))) g1.s (ei_rng1 (n := (n : Nat)) (ea_cons (ev_var rfl (Dp.int _)) ea_nil) (by omega) (by omega)) fun N3 H3 g3 => ?_
    refine ⟨fun i σ H4 => ∃ a N4 p, σ = [some (.int (n : Nat)), some p, a, none] ∧ Go N H N4 H4 ∧ Ex N3 N4 ∧ is K (.list ((lotsR i).map tupI)) p N4, ⟨none, N3, p, rfl, g1.trans g3, Ex.refl _, (is K _).st _ _ _ g3.n hp⟩, ?_, ?_, ?_⟩
    · rintro i σ H4 ⟨a, N4, p, _, g4, e4, _⟩
      exact e4.trans g4.s
    · rintro i k x σ H4 hk fx ⟨a, N4, p, rfl, g4, e4, d4⟩
      have hi : i < n := by
        have := (List.getElem?_eq_some_iff.mp hk).1
        rw [List.length_range] at this
        exact this
      have ek : k = i := by
        rw [List.getElem?_range hi] at hk
        exact (Option.some.inj hk).symm
      subst ek
      have ex := is_int fx
      rw [Int.zero_add] at ex
      subst ex
      have hz : (lotsR k).length ≤ 64 := lotsR_few (by omega)
      refine s_asg g4.s ((ev_catLs (ev_var rfl d4) (ev_more (K := K) (ls := lotsR k) (n := (k : Nat)) (i := 2) (j := 3) (x := .non) (ev_var rfl d4) (fun _ => rfl) (fun _ => rfl) (fun _ => rfl) (by omega) (fun l hl => Nat.le_trans (lotsR_item hl) (by omega))).known ?_).cast ?_) fun v N5 H5 g5 fv => ⟨_, N5, v, rfl, g4.trans g5, e4.trans g5.n, fv⟩
      · rw [List.length_map, List.length_map, List.length_map]
        omega
      · rw [← List.map_append]
        rfl
    · rintro σ H4 ⟨a, N4, p, rfl, g4, e4, d4⟩
      rw [List.length_range] at d4
      exact s_ret g4.s (ev_sortL (ev_var rfl d4)) fun v N' H' g fv => q v N' H' (g4.trans g) fv
/-! ### _law_by -/
/-- a list's items that are kept -/
theorem ev_lenL {σ : L2.St} {N : Hp} {te : TE} {ds : List PyData} (h : EvP te σ N (is K (.list ds))) : EvP (tCB (rLen K) (tCons te tNil)) σ N (is K (.int ds.length)) := ev_lenS h
def lawBy (t : List (List Int)) (l : List Int) : Bool := decide (((t.filter fun m => decide (((m.filter fun p => !decide (p ∈ l)).length : Int) = 0)).length : Int) > 0)
abbrev sp_law_by (K : PySem.W.Frag) : Sp := FnP (T := List (List Int) × List Int) (fun x => [is K (tabD x.1), is K (tupI x.2)]) (fun x => x.1.length ≤ 1000 ∧ ∀ l ∈ x.1, l.length ≤ 1000) (fun x => is K (.bool (lawBy x.1 x.2)))
theorem ok_law_by (T : Txt K mg A B) : FnOk P w K mg base CX0 1 A._law_by B._law_by ["_law_made_table", "_law_lot"] (sp_law_by K) := by
  refine T.F__law_by.ok sc__law_by (FnP.len fun _ => rfl) (fun cdv A' outer s H vs Q E hr h => ?_)
  obtain ⟨⟨t, l⟩, N, ⟨hz, hl⟩, e, hv, q⟩ := h
  match vs, hv with
  | [v, v1], hv =>
    refine ⟨_, (pss_one (ps_ret (pe_cmpR op_gt (pe_callB (cr_len (K := K)) (by rfl) T.n_len (by decide +kernel) (pa_cons (pe_lc (own := [("_law_one", 2)]) (g := gName 2) (by rfl) sc__law_by.nd (pi_tupK (K := K) (pv 0)) (blkOk_by (own := [("_law_one", 2)]) (N := N__law_by) (sc := defScope s__law_by) (by decide +kernel)) (fun _ _ _ _ _ => (pg_name (i := 2) sc__law_by.nd rfl (by first | exact Or.inl rfl | exact Or.inr rfl))) (fun _ _ _ _ _ => pts_one (pt_cmpR op_eq (pe_callB (cr_len (K := K)) (by rfl) T.n_len (by decide +kernel) (pa_cons (pe_lc (own := [("_law_person", 3)]) (g := gName 3) (by rfl) sc__law_by.nd (pi_tupK (K := K) (pv 2)) (blkOk_by (own := [("_law_person", 3)]) (N := N__law_by) (sc := _) rfl) (fun _ _ _ _ _ => (pg_name (i := 3) sc__law_by.nd rfl (by first | exact Or.inl rfl | exact Or.inr rfl))) (fun _ _ _ _ _ => pts_one (pt_cmpR (op_niK (K := K)) (pv 3) (pv 1) (by rfl))) (fun _ _ _ _ _ => (pv 3))) pa_nil)) pe_int (nomark _))) (fun _ _ _ _ _ => (pv 2))) pa_nil)) pe_int (nomark _)))), ?_⟩
    refine s_ret e ((ev_gt (j := 0) (ev_lenL (ev_lc t _ (fun m => decide (((m.filter fun p => !decide (p ∈ l)).length : Int) = 0)) (fun m => tupI m) (ei_tup (enc := tupI) (ev_var rfl hv.1)) (Nat.le_trans hz (by decide)) fun m hm x M e fx => ?_)) ev_int).cast ?_) fun v N' H' g fv => q v N' H' g fv
    · have hv1 := (is K (tupI l)).st _ _ _ e hv.2.1
      refine ⟨_, eg_name, rfl, et_test ((ev_eqI (j := 0) (ev_lenL (ev_lc m _ (fun p => !decide (p ∈ l)) (fun p => .int p) (ei_tup (enc := .int) (ev_var rfl fx)) (Nat.le_trans (hl m hm) (by decide)) fun p hp y M2 e2 fy => ?_)) ev_int).cast ?_), fun _ => ev_var rfl fx⟩
      · have ey := is_int fy
        subst ey
        exact ⟨_, eg_name, rfl, et_test (ev_inT (neg := true) (ev_var rfl (Dp.int _)) (ev_var rfl ((is K (tupI l)).st _ _ _ e2 hv1))), fun _ => ev_var rfl (Dp.int _)⟩
      · rw [List.length_map]
    · rw [List.length_map] <;> rfl
end
end Rk
end PartRkF4

section PartRkG1
set_option Elab.async false
set_option linter.all false
set_option maxRecDepth 100000
set_option maxHeartbeats 4000000
/-! Rk: rules the modules do not have -/
namespace Rk
mutual
/-- no list or dict in it -/
def flat : PySem.PyData → Bool
  | .list _ => false
  | .dict _ => false
  | .tuple xs => flatAll xs
  | _ => true
def flatAll : List PySem.PyData → Bool
  | [] => true
  | x :: xs => flat x && flatAll xs
end
open PySem PySem.Spec PyProof.Rows L2 RkS
section
variable {X : Cx} {K : PySem.W.Frag}
/-! ### d <= e -/
def rLeD (K : PySem.W.Frag) : R2 := fun x y H Q => ∃ d e, Dp K H x d ∧ Dp K H y e ∧ PySem.W.alike d e = true ∧ d ≠ .none ∧ min d.depth e.depth ≤ 8 ∧ Q (.bl (!PySem.W.dataLt e d)) H
theorem op_leD (hu : X.A.units + 8 < cLine) (h : X.K = K := by rfl) : OpR X (compareOp .LtE) (rLeD K) := by
  subst h
  intro pins s σ H x y v u Q I rx ry h
  obtain ⟨d, e, hd, he, ha, hn, hm, q⟩ := h
  obtain ⟨as, ra⟩ := Dp.reads I d _ _ hd rx
  obtain ⟨bs, rb⟩ := Dp.reads I e _ _ he ry
  exact PySem.W.le_data ra rb ha hn (by omega) ⟨.bl _, H, I, rfl, q⟩
/-! ### xs[i] op= e -/
theorem pget_list (h : X.K = K := by rfl) : PGet X (rIxL K) := by
  subst h
  intro pins s σ H x y v u Q I rx ry h
  obtain ⟨p, xs, i, z, rfl, rfl, hq, he, q⟩ := h
  cases rx
  obtain ⟨t, rfl⟩ := ry
  obtain ⟨its, r, pl, hz⟩ := I.list hq
  obtain ⟨j, h1, h2, h3, h4, h5⟩ := atI_get he
  obtain ⟨w, ew, rw'⟩ := r.get h2
  have hl := r.length
  have hn := line63
  have fin : EP X pins σ Q w s := ⟨z, H, I, rw', q⟩
  by_cases h0 : 0 ≤ i
  · have hj : i.toNat = j := by
      rw [seqIndex_of h0 h5] at h1
      exact Option.some.inj h1
    exact wpAny_getItem_list pl.isList h0 (by omega) (by rw [hj]; simpa using ew) fin
  · have hj : (i + (its.toArray.size : Int)).toNat = j := by
      rw [seqIndex_neg (by omega) h4] at h1
      rw [List.size_toArray, ← hl]
      exact Option.some.inj h1
    exact wpAny_getItem_list_neg pl.isList (by omega) (by rw [List.size_toArray] <;> omega) (by omega) (by rw [hj]; simpa using ew) fin
/-! ### sorted(t), t a tuple -/
theorem collect_tp {prog : Program} {w : World} {A : Around} {E : Value → Shared → Prop} {s : Shared} {it : Addr} {o : Obj} {items : Array Value} {n : Nat} {Q : List Value → Shared → Prop} (ho : s.heap.get? it = some o) (hc : o.cls = .type "tuple") (hd : o.data = .seq items n) (hsz : items.size ≤ sizeLine)
    (hQ : ∀ h', (∀ b o', s.heap.get? b = some o' → h'.get? b = some o') → s.heap.objs.size ≤ h'.objs.size → Q items.toList { s with heap := h' }) : wpAny (model prog w) A (collect (.ref it)) Q E s := by
  unfold collect
  refine wpAny_bind (wpAny_runValue (codeAny_builtin F.entry_proto_collect ?_))
  rw [Around.under_plainId F.plain_proto_collect _]
  show wpAny _ A.in1 (newList [] >>= fun l => again (.builtin "list.__iadd__" ⟨[l, .ref it], []⟩)) _ _ s
  refine wpAny_bind (wpAny_newObj_type ?_)
  refine wpAny_pure ⟨plainId_quiet F.plain_list_iadd _, codeAny_builtin F.entry_list_iadd ?_⟩
  rw [Around.under_plainId F.plain_list_iadd _]
  show wpAny _ A.in1 (Builtin.List.listExtendWith (.ref s.heap.objs.size) (.ref it) (.ref s.heap.objs.size)) _ _ _
  generalize hp : s.heap.push { cls := .type "list", data := .seq ([] : List Value).toArray } = hP
  have hS : hP.get? s.heap.objs.size = some { cls := .type "list", data := .seq #[] 0 } := by
    rw [← hp]
    exact Heap.get?_push_size _ rfl
  have kP : ∀ b o', s.heap.get? b = some o' → hP.get? b = some o' := fun b o' hb => by
    rw [← hp]
    exact Heap.get?_push_of_some _ hb
  have zP : hP.objs.size = s.heap.objs.size + 1 := by
    rw [← hp]
    exact size_push' _ _
  have hS2 := Heap.get?_update_self (Obj.mapSeq (· ++ items)) hS rfl
  have fin : ∀ E', wpAny (model prog w) A (match Value.ref s.heap.objs.size with
      | Value.ref a => do
        match (← load a).data with
          | Data.seq xs _ => pure xs.toList
          | _ => unsupported "internal:collect"
      | _ => unsupported "internal:collect") Q E' { s with heap := hP.update s.heap.objs.size (Obj.mapSeq (· ++ items)) } := fun E' => by
    show wpAny _ A (load s.heap.objs.size >>= _) _ _ _
    refine wpAny_bind (wpAny_load hS2 ?_)
    refine wpAny_pure ?_
    have e : ((#[] : Array Value) ++ items).toList = items.toList := by simp
    show Q ((#[] : Array Value) ++ items).toList _
    rw [e]
    refine hQ _ (fun b o' hb => (Heap.get?_update_other _ _ (Nat.ne_of_gt (Heap.lt_size hb))).trans (kP b o' hb)) ?_
    rw [Heap.size_update, zP]
    exact Nat.le_succ _
  refine wpAny_mono (wpAny_extend_seq (hsz := hsz) (A := A) (R := fun r s' => r = .ok (.ret (.ref s.heap.objs.size)) ∧ s' = { s with heap := hP.update s.heap.objs.size (Obj.mapSeq (· ++ items)) })
    (s := { s with heap := hP }) _ it _ 0 (.inr rfl) hS (kP _ _ ho) hc hd ⟨rfl, rfl⟩) (fun f s' h => ?_) (fun e s' h => ?_)
  · cases f with
    | done f =>
      obtain ⟨e, rfl⟩ := h
      cases e
      exact fin _
    | again c' => exact ⟨h.1, codeAny_mono h.2 fun r s'' hr => by obtain ⟨rfl, rfl⟩ := hr; exact fin _⟩
  · exact absurd h.1 (by simp)
mutual
theorem no_lists {h : Heap} : ∀ (d : PyData) (v : Value) (as : List Addr), flat d = true → Reads h v d as → as = []
  | .none, _, _, _, r => by cases r; rfl
  | .bool _, _, _, _, r => by cases r; rfl
  | .int _, _, _, _, r => by cases r; rfl
  | .str _, _, _, _, r => by cases r; rfl
  | .tuple xs, _, _, f, r => by
    cases r with
    | tuple _ _ _ ra => exact no_listsAll xs _ _ f ra
  | .list _, _, _, f, _ => by simp [flat] at f
  | .dict _, _, _, f, _ => by simp [flat] at f
theorem no_listsAll {h : Heap} : ∀ (ds : List PyData) (vs : List Value) (as : List Addr), flatAll ds = true → ReadsAll h vs ds as → as = []
  | [], _, _, _, r => by cases r; rfl
  | d :: ds, _, _, f, r => by
    rw [flatAll, Bool.and_eq_true] at f
    cases r with
    | cons r1 r2 => rw [no_lists d _ _ f.1 r1, no_listsAll ds _ _ f.2 r2] <;> rfl
end
theorem sorted_seq {prog : Program} {w : World} {A : Around} {E : Value → Shared → Prop} {s : Shared} {β : Type} {vs : List Value} {bs : List β} {enc : β → PyData} {R : Value → β → Prop} {l : Addr} {Q : Value → Shared → Prop} (hl : ∃ o n, s.heap.get? l = some o ∧ o.cls = .type "tuple" ∧ o.data = .seq vs.toArray n) (e : PySem.W.EachIs R vs bs)
    (er : PySem.W.EachIs (fun v b => ∃ as, Reads s.heap v (enc b) as) vs bs) (hal : PySem.W.AllAlike (bs.map enc)) (hk : PySem.W.Sortable (bs.map enc)) (hL : bs.length ≤ sizeLine) (hna : ∀ b, flat (enc b) = true)
    (hu : ∀ b, A.units + 8 + (enc b).depth < cLine)
    (h : ∀ (h' : Heap) (d : Addr) (n : Nat) out, out.length = bs.length → PySem.W.EachIs R out (bs.mergeSort (PySem.W.dataLe false enc)) → (∀ b o, s.heap.get? b = some o → h'.get? b = some o) → s.heap.objs.size ≤ d → h'.get? d = some (seqObj "list" out.toArray n) → Q (.ref d) { s with heap := h' }) :
    wpAny (model prog w) A (call (.builtin "sorted") [.ref l]) Q E s := by
  obtain ⟨o, n, ho, hc, hd⟩ := hl
  have hlen := e.length
  refine Calls.call_function_entry kind_sorted plain_sorted entry_sorted (args_sorted1 _) ?_
  unfold Builtin.«sorted»
  refine wpAny_bind (m := checkCount "sorted" 1 1 _) (wpAny_pure ?_)
  refine wpAny_bind (collect_tp ho hc hd (by rw [List.size_toArray, hlen]; exact hL) (fun h1 k1 z1 => ?_))
  refine wpAny_bind (wpAny_newList ?_ (by
    show vs.length ≤ sizeLine
    rw [hlen]
    exact hL))
  have hoL : (h1.push (seqObj "list" vs.toArray 0)).get? h1.objs.size = some (seqObj "list" vs.toArray 0) := Heap.get?_push_size _ rfl
  have k2 : ∀ b o, s.heap.get? b = some o → (h1.push (seqObj "list" vs.toArray 0)).get? b = some o := fun b o e => Heap.get?_push_of_some _ (k1 b o e)
  have er2 : PySem.W.EachIs (fun v b => ∃ as, Reads (h1.push (seqObj "list" vs.toArray 0)) v (enc b) as ∧ h1.objs.size ∉ as) vs bs := er.mono fun v b ⟨as, r⟩ => by
    have r' := PyProof.Rows.Reads.keeps (fun b o e => k2 b o e) r
    refine ⟨as, r', ?_⟩
    rw [no_lists _ _ _ (hna b) r']
    simp
  have hu2 : ∀ b, b ∈ bs → A.in1.units + 1 + (enc b).depth < cLine := fun b _ => by
    have := hu b
    show A.units + 1 + 1 + (enc b).depth < cLine
    omega
  have fin : ∀ out : List Value, out.length = bs.length → PySem.W.EachIs R out (bs.mergeSort (PySem.W.dataLe false enc)) → Q (.ref h1.objs.size) { s with heap := sortedHeap (h1.push (seqObj "list" vs.toArray 0)) h1.objs.size vs out.toArray } := fun out o1 o2 => by
    obtain ⟨c, hc2⟩ := sortedHeap_at (vs := vs) (out := out.toArray) hoL
    refine h _ _ c out o1 o2 (fun b o e => ?_) z1 hc2
    have e2 := k1 b o e
    exact (sortedHeap_old (Nat.ne_of_lt (Heap.lt_size e2)) (Heap.lt_size (k2 b o e))).trans (k2 b o e)
  refine wpAny_bind (wpAny_holding (wpAny_mono (PySem.W.list_sort_data (A := A.in1) (s := { s with heap := h1.push (seqObj "list" vs.toArray 0) }) (Q := fun _ s' => Q (.ref h1.objs.size) s') hoL e er2 hal hk hL hu2 fin) (fun _ s' x => wpAny_pure ⟨_, rfl, x⟩) fun _ _ e => e))
/-- the order of such data -/
def rSortTD (K : PySem.W.Frag) {β : Type} (enc : β → PyData) : List V → Hp → VK → Prop := fun vs H Q => ∃ (a : Addr) (xs : List V) (bs : List β) (M : Hp), vs = [V.ref a] ∧ SqT K H a xs ∧ Ex M H ∧ DpAll K M xs (bs.map enc) ∧
  PySem.W.AllAlike (bs.map enc) ∧ PySem.W.Sortable (bs.map enc) ∧ ∀ (p : Addr) (ys : List V), H p = none → DpAll K M ys ((bs.mergeSort (PySem.W.dataLe false enc)).map enc) → Q (.ref p) (upd H p (.lst ys))
theorem each_dp {M : Hp} {β : Type} {enc : β → PyData} : ∀ {bs : List β} {xs : List V} {us : List Value}, DpAll K M xs (bs.map enc) → Vals xs us → PySem.W.EachIs (fun u b => ∃ v, RelV v u ∧ Dp K M v (enc b)) us bs
  | [], _, _, h, r => by
    cases h
    cases r
    exact .nil
  | b :: bs, _, _, h, r => by
    cases h with
    | cons h1 h2 =>
      cases r with
      | cons r1 r2 => exact .cons ⟨_, r1, h1⟩ (each_dp h2 r2)
theorem dp_each {M : Hp} {β : Type} {enc : β → PyData} : ∀ {bs : List β} {us : List Value}, PySem.W.EachIs (fun u b => ∃ v, RelV v u ∧ Dp K M v (enc b)) us bs → ∃ xs, Vals xs us ∧ DpAll K M xs (bs.map enc)
  | [], _, h => by
    cases h
    exact ⟨[], .nil, .nil⟩
  | b :: bs, _, h => by
    cases h with
    | cons h1 h2 =>
      obtain ⟨v, r, d⟩ := h1
      obtain ⟨xs, r2, d2⟩ := dp_each h2
      exact ⟨v :: xs, .cons r r2, .cons d d2⟩
theorem cr_sortTD {β : Type} {enc : β → PyData} (hf : ∀ b, flat (enc b) = true) (hdp : ∀ b, (enc b).depth ≤ 8) (hu : X.A.units + 16 < cLine) (h : X.K = K := by rfl) : CallR X (.builtin "sorted") (rSortTD K enc) := by
  subst h
  intro pins s σ H vs us Q I r h
  obtain ⟨a, xs, bs, M, rfl, hs, eM, hd, hal, hk, q⟩ := h
  obtain ⟨its, rv, ⟨o, ho, hc, n, hdt⟩, hz⟩ := I.tuple hs
  rw [Vals.ref1 r]
  have hl : xs.length = bs.length := by
    have := dpAll_len hd
    rw [List.length_map] at this
    exact this
  have E0 := each_dp hd rv
  refine sorted_seq (enc := enc) ⟨o, n, ho, hc, hdt⟩ E0 (E0.mono fun u b ⟨v, rv, dv⟩ => Dp.reads I _ _ _ (dp_ex eM _ _ dv) rv) hal hk (by rw [← hl]; exact hz) hf (fun b => by have := hdp b; omega) fun h' d n' out ol oe kk hd' ho' => ?_
  obtain ⟨ys, rys, dys⟩ := dp_each oe
  have hly : ys.length = out.length := rys.length
  refine ⟨.ref d, upd H d (.lst ys), I.laid (t' := s.toks) kk hd' ⟨?_, out, n', rys, ho'⟩, rfl, q d ys (I.hok.fresh hd') dys⟩
  rw [hly, ol, ← hl]
  exact hz
end
end Rk
end PartRkG1

section PartRkG2
set_option Elab.async false
set_option linter.all false
set_option maxRecDepth 100000
set_option maxHeartbeats 4000000
/-! Rk: sorted(d.items()) -/
namespace Rk
open PySem PySem.Spec PyProof.Rows L2 RkS DT L2.DX
theorem each_get {α β : Type} {R : α → β → Prop} : ∀ {as : List α} {bs : List β}, as.length = bs.length → (∀ (j : Nat) a b, as[j]? = some a → bs[j]? = some b → R a b) → PySem.W.EachIs R as bs
  | [], [], _, _ => .nil
  | [], _ :: _, h, _ => by simp at h
  | _ :: _, [], h, _ => by simp at h
  | a :: as, b :: bs, h, k => .cons (k 0 a b rfl rfl) (each_get (Nat.succ.inj h) fun j x y h1 h2 => k (j + 1) x y (by simpa using h1) (by simpa using h2))
theorem each_mem {α β : Type} {R : α → β → Prop} : ∀ {as : List α} {bs : List β}, PySem.W.EachIs R as bs → ∀ a ∈ as, ∃ b, R a b
  | _, _, .nil, a, h => by simp at h
  | _, _, .cons h t, a, hm => by
    rcases List.mem_cons.mp hm with rfl | hm
    · exact ⟨_, h⟩
    · exact each_mem t a hm
theorem each_pair {β : Type} {R : Value → β → Prop} {F : V → β → Prop} (f : ∀ u b, R u b → F (bkV u) b) : ∀ {us : List Value} {bs : List β}, PySem.W.EachIs R us bs → Paired F (us.map bkV) bs
  | _, _, .nil => .nil
  | _, _, .cons h t => .cons (f _ _ h) (each_pair f t)
theorem pairs_get {P : Program} {w : World} : ∀ {es : List DictEntry} {kvs : List (Key × Value)}, Pairs (mixKind P w) es kvs → ∀ {j : Nat} {e : DictEntry}, es[j]? = some e → ∃ kv, kvs[j]? = some kv ∧ keyIs kv.1 e.key = true ∧ e.val = kv.2
  | _, _, .nil, j, e, h => by simp at h
  | _, _, .cons h1 h2 t, 0, e, h => by
    have z := Option.some.inj h
    subst z
    exact ⟨_, rfl, h1, h2⟩
  | _, _, .cons h1 h2 t, j + 1, e, h => by
    obtain ⟨kv, a, b⟩ := pairs_get t (j := j) (e := e) (by simpa using h)
    exact ⟨kv, by simpa using a, b⟩
section
variable {X : Cx} {K : PySem.W.Frag}
def rItemsK : V → List V → Hp → VK → Prop := fun x xs H Q => ∃ (a : Addr) (kvs : List (Key × V)), x = .ref a ∧ xs = [] ∧ H a = some (.dK kvs) ∧ ∀ p, H p = none → Q (.ref p) (upd H p (itemsO p a))
theorem raw_of {h : Heap} {P : Program} {w : World} {a : Addr} {vs : List (Key × Value)} (d : h.DictOf (mixKind P w) a vs) : ∃ es ep, DT.Raw h a es ep := by
  obtain ⟨o, es, ep, ho, hx, hd, _⟩ := d
  exact ⟨es, ep, o, ho, hx, hd⟩
theorem mt_itemsK : MtR X "dict.items" rItemsK := by
  intro pins s σ H x xs v us Q I rx rxs h
  obtain ⟨a, kvs, rfl, rfl, ha, q⟩ := h
  cases rx
  cases rxs
  obtain ⟨z, hd, vs, rel, dd⟩ := dk_of I.hok ha
  obtain ⟨es, ep, raw⟩ := raw_of dd
  have hf : H s.heap.objs.size = none := I.hok.fresh (Nat.le_refl _)
  exact DT.callItems (es := es) (ep := ep) hd raw ⟨.ref s.heap.objs.size, upd H s.heap.objs.size (itemsO s.heap.objs.size a), I.laid (t' := s.toks) (fun b u e => Heap.get?_push_of_some _ e) (Nat.le_refl _) (itemsO_ok (Heap.get?_push_size _ rfl)), rfl, q _ hf⟩
abbrev pairI (q : Int × Int) : PyData := .tuple [.int q.1, .int q.2]
abbrev entI (q : Int × Int) : Key × V := (Sum.inl q.1, .int q.2)
/-- a new list of new pairs, the dict's, in an order -/
def rSortIt : List V → Hp → VK → Prop := fun vs H Q => ∃ (p a : Addr) (ps : List (Int × Int)), vs = [.ref p] ∧ H p = some (itemsO p a) ∧ H a = some (.dK (ps.map entI)) ∧ ps.length ≤ 1000 ∧
  ∀ (H' : Hp) (l : Addr) (xs : List V) (qs : List (Int × Int)), (∀ b o, H b = some o → H' b = some o) → H l = none → H' l = some (.lst xs) → qs.Perm ps →
    Paired (fun x (q : Int × Int) => ∃ t, x = V.ref t ∧ H t = none ∧ H' t = some (.tup [.int q.1, .int q.2])) xs qs → Q (.ref l) H'
theorem cr_sortIt (hc : X.calm = true) (hu : X.A.units + 16 < cLine) : CallR X (.builtin "sorted") rSortIt := by
  intro pins s σ H xs us Q I r h
  obtain ⟨p, a, ps, rfl, hp, ha, hz, q⟩ := h
  obtain rfl := Vals.ref1 r
  have view : s.heap.IsItemsView p a := (show ObjOk X.prog X.w H s.heap p (itemsO p a) from I.hok p _ hp).1
  obtain ⟨z, hd, vs, rel, dd⟩ := dk_of I.hok ha
  obtain ⟨ob, es, ep, hob0, hex, hdat, _, prs, _⟩ := dd
  have les : es.size = vs.length := by
    have := prs.length
    rw [Array.length_toList] at this
    exact this
  have hh : X.A.handled = none := I.ok.hd hc
  have lk : ps.length = vs.length := by
    have := Paired.length rel
    rw [List.length_map] at this
    exact this
  refine Calls.call_function_entry kind_sorted plain_sorted entry_sorted (args_sorted1 _) ?_
  unfold Builtin.«sorted»
  refine wpAny_bind (m := checkCount "sorted" 1 1 _) (wpAny_pure ?_)
  refine wpAny_bind (DT.collectI (A := X.A.in1) (es := es) (ep := ep) hh view ⟨ob, hob0, hex, hdat⟩ (by rw [sizeLine_eq]; omega) fun h' tk as hk hlt hl hG => ?_)
  refine wpAny_bind (wpAny_newList ?_ (by rw [List.length_map, sizeLine_eq]; omega))
  have hob : (h'.push (seqObj "list" (as.map Value.ref).toArray 0)).get? h'.objs.size = some (seqObj "list" (as.map Value.ref).toArray 0) := Heap.get?_push_size _ rfl
  have kb : ∀ b o, h'.get? b = some o → (h'.push (seqObj "list" (as.map Value.ref).toArray 0)).get? b = some o := fun b o e => Heap.get?_push_of_some _ e
  let R : Value → Int × Int → Prop := fun u q => ∃ t t1 t2, u = .ref t ∧ t ∈ as ∧ h'.get? t = some { cls := .type "tuple", data := .seq #[.int q.1 t1, .int q.2 t2] }
  have E0 : PySem.W.EachIs R (as.map Value.ref) ps := by
    refine each_get (by rw [List.length_map]; omega) fun j u q0 h1 h2 => ?_
    rw [List.getElem?_map] at h1
    cases hj : as[j]? with
    | none =>
      rw [hj] at h1
      cases h1
    | some t =>
      rw [hj] at h1
      cases h1
      obtain ⟨en, f1, f3⟩ := hG.pairs j t hj
      obtain ⟨kv, f4, f5, f6⟩ := pairs_get prs (j := j) (e := en) (by simpa using f1)
      obtain ⟨qv, g1, g2, g3⟩ := LiI.paired_get rel (show (ps.map entI)[j]? = some (entI q0) by rw [List.getElem?_map, h2] <;> rfl)
      rw [f4] at g1
      cases g1
      have rk : RelV (kV (entI q0).1) en.key := by
        rw [g2]
        exact relV_key f5
      rw [← f6] at g3
      obtain ⟨t1, e1⟩ := (show ∃ t, en.key = Value.int q0.1 t from rk)
      obtain ⟨t2, e2⟩ := (show ∃ t, en.val = Value.int q0.2 t from g3)
      rw [e1, e2] at f3
      exact ⟨t, t1, t2, rfl, List.mem_of_getElem? hj, f3⟩
  have er : PySem.W.EachIs (fun v (q0 : Int × Int) => ∃ as', Reads (h'.push (seqObj "list" (as.map Value.ref).toArray 0)) v (pairI q0) as' ∧ h'.objs.size ∉ as') (as.map Value.ref) ps := E0.mono fun u q0 ⟨t, t1, t2, e, ht, ho⟩ => by
    subst e
    exact ⟨[], Reads.tuple (kb _ _ ho) rfl rfl (ReadsAll.cons (Reads.int _ _) (ReadsAll.cons (Reads.int _ _) ReadsAll.nil)), by simp⟩
  have hal : PySem.W.AllAlike (ps.map pairI) := PySem.W.AllAlike.of fun b b' => rfl
  have hk2 : PySem.W.Sortable (ps.map pairI) := PySem.W.Sortable.tuples fun b => ⟨_, _, rfl⟩
  have nd : as.Nodup := List.Pairwise.imp (fun {a b} (h : a < b) => Nat.ne_of_lt h) hG.rise
  have hBz : s.heap.objs.size ≤ h'.objs.size := Nat.le_of_lt hlt
  have fin : ∀ out : List Value, out.length = ps.length → PySem.W.EachIs R out (ps.mergeSort (PySem.W.dataLe false pairI)) → EP X pins σ Q (.ref h'.objs.size) { s with heap := sortedHeap (h'.push (seqObj "list" (as.map Value.ref).toArray 0)) h'.objs.size (as.map Value.ref) out.toArray, toks := tk } := fun out o1 o2 => by
    obtain ⟨c, hc2⟩ := sortedHeap_at (vs := as.map Value.ref) (out := out.toArray) hob
    have kF : ∀ b o, h'.get? b = some o → (sortedHeap (h'.push (seqObj "list" (as.map Value.ref).toArray 0)) h'.objs.size (as.map Value.ref) out.toArray).get? b = some o := fun b o e => (sortedHeap_old (Nat.ne_of_lt (Heap.lt_size e)) (Heap.lt_size (kb b o e))).trans (kb b o e)
    have I1 : Inv X pins σ H { s with heap := sortedHeap (h'.push (seqObj "list" (as.map Value.ref).toArray 0)) h'.objs.size (as.map Value.ref) out.toArray, toks := tk } := I.kept (t' := tk) fun b o e => kF b o (hk b o e)
    have hn0 : H h'.objs.size = none := I.hok.fresh hBz
    have refs : ∀ u ∈ out, ∃ a, u = Value.ref a := fun u hu => by
      obtain ⟨q0, t, _, _, e, _⟩ := each_mem o2 u hu
      exact ⟨t, e⟩
    have I2 : Inv X pins σ (upd H h'.objs.size (.lst (out.map bkV))) { s with heap := sortedHeap (h'.push (seqObj "list" (as.map Value.ref).toArray 0)) h'.objs.size (as.map Value.ref) out.toArray, toks := tk } :=
      I1.take (t' := tk) (fun b ob _ e => e) (I.fpOk hBz hn0) ⟨by rw [List.length_map, o1, sizeLine_eq]; omega, out, c, bkV_vals refs, hc2⟩
    obtain ⟨H2, I3, g, qt⟩ := takeT (P := fun b vs => ∀ (q0 : Int × Int) t1 t2, h'.get? b = some { cls := .type "tuple", data := .seq #[.int q0.1 t1, .int q0.2 t2] } → vs = [.int q0.1, .int q0.2]) I as _ I2 nd fun b hb => by
      obtain ⟨q0, t, t1, t2, e, ht, ho⟩ := each_mem E0 (.ref b) (List.mem_map.mpr ⟨b, hb, rfl⟩)
      cases e
      have hlt := hG.above b hb
      refine ⟨Nat.le_of_lt hlt, ?_, [.int q0.1, .int q0.2], fun q1 t3 t4 ho' => ?_, fun H2 => ⟨by show 2 ≤ sizeLine; decide, [.int q0.1 t1, .int q0.2 t2], .cons ⟨t1, rfl⟩ (.cons ⟨t2, rfl⟩ .nil), _, kF _ _ ho, rfl, _, rfl⟩⟩
      · rw [upd_ne (Nat.ne_of_lt (hG.there hb))]
        exact I.hok.fresh (Nat.le_of_lt hlt)
      · rw [ho] at ho'
        simp at ho'
        obtain ⟨⟨e1, _⟩, e2, _⟩ := ho'
        rw [e1, e2]
    refine ⟨.ref _, H2, I3, rfl, q H2 _ (out.map bkV) (ps.mergeSort (PySem.W.dataLe false pairI)) (fun b o e => g b o ?_) hn0 (g _ _ upd_same) (List.mergeSort_perm _ _) (each_pair (fun u q0 hu => ?_) o2)⟩
    · rw [upd_ne (ne_of_none e hn0)]
      exact e
    · obtain ⟨t, t1, t2, rfl, ht, ho⟩ := hu
      obtain ⟨vs', h1, h2⟩ := qt t ht
      rw [h1 q0 t1 t2 ho] at h2
      exact ⟨t, rfl, I.hok.fresh (Nat.le_of_lt (hG.above t ht)), h2⟩
  refine wpAny_bind (wpAny_holding (wpAny_mono (PySem.W.list_sort_data (A := X.A.in1) (R := R) (enc := pairI) (bs := ps) (s := { s with heap := h'.push (seqObj "list" (as.map Value.ref).toArray 0), toks := tk }) (Q := fun _ s' => EP X pins σ Q (.ref h'.objs.size) s') hob E0 er hal hk2 (by rw [sizeLine_eq]; omega) (fun b hb => ?_) fin) (fun _ s' x => wpAny_pure ⟨_, rfl, x⟩) fun _ _ e => e))
  show X.A.units + 1 + 1 + (pairI b).depth < cLine
  have : (pairI b).depth ≤ 8 := by
    simp [pairI, PyData.depth, PyData.depthAll]
  omega
end
end Rk
end PartRkG2

section PartRkF5
set_option Elab.async false
set_option linter.all false
set_option maxRecDepth 100000
set_option maxHeartbeats 4000000
namespace Rk
open PySem PySem.Spec PyProof.Rows L2 RkS
/-- a holder: one of the folk, or a house -/
abbrev Ho := Bool × Nat
abbrev encHo (x : Ho) : PyData := .tuple [.str (Str.ofString (if x.1 = true then "h" else "f")), .int (x.2 : Nat)]
abbrev encHs (h : List Ho) : PyData := .tuple (h.map encHo)
def leHo (a b : Ho) : Bool := !PySem.W.dataLt (encHo b) (encHo a)
def holders (f k : Nat) : List Ho := (List.range f).map (fun i => (false, i)) ++ (List.range k).map (fun i => (true, i))
theorem holders_len (f k : Nat) : (holders f k).length = f + k := by
  unfold holders
  rw [List.length_append, List.length_map, List.length_map, List.length_range, List.length_range]
def row3 (hs : List Ho) (a b : Ho) : List (List Ho) := (hs.filter fun c => leHo a b && leHo b c).map fun c => [a, b, c]
def threesM (f k : Nat) : List (List Ho) := (holders f k).flatMap fun a => (holders f k).flatMap fun b => row3 (holders f k) a b
theorem row3_len (hs : List Ho) (a b : Ho) (h : hs.length ≤ 8) : (row3 hs a b).length ≤ 8 := by
  unfold row3
  rw [List.length_map]
  exact Nat.le_trans (List.length_filter_le _ _) h
/-- so far -/
def part3 (hs : List Ho) (i : Nat) : List (List Ho) := (hs.take i).flatMap fun a => hs.flatMap fun b => row3 hs a b
theorem part3_next {hs : List Ho} {i : Nat} {a : Ho} (h : hs[i]? = some a) : part3 hs (i + 1) = part3 hs i ++ hs.flatMap fun b => row3 hs a b := by
  unfold part3
  rw [take_next h, List.flatMap_append, List.flatMap_cons, List.flatMap_nil, List.append_nil]
theorem flat_next {hs : List Ho} {i : Nat} {b : Ho} (h : hs[i]? = some b) (g : Ho → List (List Ho)) : (hs.take (i + 1)).flatMap g = (hs.take i).flatMap g ++ g b := by
  rw [take_next h, List.flatMap_append, List.flatMap_cons, List.flatMap_nil, List.append_nil]
section
variable {K : PySem.W.Frag} {N : Hp} {p : Addr} {o : HO}
theorem sqT_erase {a : Addr} {xs : List V} (hp : N p = some o) (h1 : ∀ xs, o ≠ .tup xs) (h2 : ∀ u xs, o ≠ .frz u (.tup xs)) (h : SqT K N a xs) : SqT K (erase N p) a xs := by
  rcases h with (h | ⟨u, h⟩) | h
  · have : a ≠ p := fun z => by
      subst z
      rw [hp] at h
      exact h1 _ (Option.some.inj h)
    exact .inl (.inl (by rw [erase_ne this]; exact h))
  · have : a ≠ p := fun z => by
      subst z
      rw [hp] at h
      exact h2 _ _ (Option.some.inj h)
    exact .inl (.inr ⟨u, by rw [erase_ne this]; exact h⟩)
  · exact .inr h
mutual
theorem dp_er (hp : N p = some o) (h1 : ∀ xs, o ≠ .tup xs) (h2 : ∀ u xs, o ≠ .frz u (.tup xs)) : ∀ (d : PyData) (v : V), flat d = true → Dp K N v d → Dp K (erase N p) v d
  | .none, _, _, h => by cases h; exact .non
  | .bool b, _, _, h => by cases h; exact .bl b
  | .int i, _, _, h => by cases h; exact .int i
  | .str x, _, _, h => by cases h; exact .str x
  | .list ds, _, f, h => by simp [flat] at f
  | .tuple ds, _, f, h => by
    cases h with
    | tup hs ha => exact .tup (sqT_erase hp h1 h2 hs) (dpAll_er hp h1 h2 ds _ f ha)
  | .dict _, _, _, h => by cases h
theorem dpAll_er (hp : N p = some o) (h1 : ∀ xs, o ≠ .tup xs) (h2 : ∀ u xs, o ≠ .frz u (.tup xs)) : ∀ (ds : List PyData) (vs : List V), flatAll ds = true → DpAll K N vs ds → DpAll K (erase N p) vs ds
  | [], _, _, h => by cases h; exact .nil
  | d :: ds, _, f, h => by
    rw [flatAll, Bool.and_eq_true] at f
    cases h with
    | cons a b => exact .cons (dp_er hp h1 h2 d _ f.1 a) (dpAll_er hp h1 h2 ds _ f.2 b)
end
theorem flatAll_map {α : Type} {g : α → PyData} (h : ∀ a, flat (g a) = true) : ∀ l : List α, flatAll (l.map g) = true
  | [] => rfl
  | a :: l => by
    rw [List.map_cons, flatAll, h a, flatAll_map h l] <;> rfl
theorem flat_ho (x : Ho) : flat (encHo x) = true := rfl
theorem flat_hs (h : List Ho) : flat (encHs h) = true := flatAll_map flat_ho h
end
section
variable {P : Program} {w : World} {K : PySem.W.Frag} {mg : Str → Option Value} {base : Heap} {A : Ad} {B : Fd}
variable {σ : L2.St} {N : Hp} {ta tb tc te : TE}
theorem le_ho_ok (a b : Ho) : PySem.W.alike (encHo a) (encHo b) = true ∧ encHo a ≠ .none ∧ min (encHo a).depth (encHo b).depth ≤ 8 := by
  refine ⟨rfl, by simp, ?_⟩
  exact Nat.le_trans (Nat.min_le_left _ _) (by simp [encHo, PyData.depth, PyData.depthAll])
theorem ev_chainD {a b c : Ho} (ha : EvP ta σ N (is K (encHo a))) (hb : EvP tb σ N (is K (encHo b))) (hc : EvP tc σ N (is K (encHo c))) :
    EvP (tChain (rLeD K) (rLeD K) ta tb tc) σ N (is K (.bool (leHo a b && leHo b c))) := fun H e Q q =>
  ha H e _ fun x N1 H1 g1 fx => (hb.mono g1.n) H1 g1.s _ fun y N2 H2 g2 fy => by
    have g12 := g1.trans g2
    have fx2 := dp_ex (g2.n.trans g2.s) _ _ fx
    have fy2 := dp_ex g2.s _ _ fy
    refine ⟨_, _, fx2, fy2, (le_ho_ok a b).1, (le_ho_ok a b).2.1, (le_ho_ok a b).2.2, _, rfl, ?_⟩
    cases h : (!PySem.W.dataLt (encHo b) (encHo a)) with
    | true =>
      rw [if_pos rfl]
      refine (hc.mono g12.n) H2 g12.s _ fun z N3 H3 g3 fz => ?_
      refine ⟨_, _, dp_ex (g3.n.trans g3.s) _ _ fy, dp_ex g3.s _ _ fz, (le_ho_ok b c).1, (le_ho_ok b c).2.1, (le_ho_ok b c).2.2, q _ N3 H3 (g12.trans g3) ?_⟩
      rw [show leHo a b = true from h]
      exact .bl _
    | false =>
      rw [if_neg Bool.false_ne_true]
      refine q _ N2 H2 g12 ?_
      rw [show leHo a b = false from h]
      exact .bl _
abbrev sp_threes (K : PySem.W.Frag) : Sp := FnP (T := Nat × Nat) (fun x => [is K (.int (x.1 : Nat)), is K (.int (x.2 : Nat))]) (fun x => x.1 + x.2 ≤ 8) (fun x => is K (.list ((threesM x.1 x.2).map encHs)))
/-- the holders -/
theorem ev_holders {f k : Nat} {tn tm : TE} (h0 : EvP tn σ N (is K (.int (f : Nat)))) (h1 : EvP tm σ N (is K (.int (k : Nat)))) (hz : f + k ≤ 8) (hi : ∀ v, ((wipe σ [6]).set 6 (some v))[6]? = some (some v)) (hw : ∀ v, wipe ((wipe σ [6]).set 6 (some v)) [6] = wipe σ [6])
    (hi2 : ∀ v, ((wipe σ [7]).set 7 (some v))[7]? = some (some v)) (hw2 : ∀ v, wipe ((wipe σ [7]).set 7 (some v)) [7] = wipe σ [7]) :
    EvP (tOp (rCatL K) (tLc (iRng1 (tCons tn tNil)) (gName 6) tYes (tTup (tCons (tC (.str (Str.ofString "f"))) (tCons (tVar 6) tNil))) [6]) (tLc (iRng1 (tCons tm tNil)) (gName 7) tYes (tTup (tCons (tC (.str (Str.ofString "h"))) (tCons (tVar 7) tNil))) [7])) σ N (is K (.list ((holders f k).map encHo))) := by
  refine (ev_catLs (ds := (List.range f).map fun i => encHo (false, i)) (es := (List.range k).map fun i => encHo (true, i)) ?_ ?_ ?_).cast ?_
  · refine ev_lc0 (List.range f) _ (fun i => encHo (false, i)) (ei_rng1 (ea_cons h0 ea_nil) (by omega) (by omega)) (by rw [List.length_range]; omega) fun i hi' v N' e fv => ⟨_, eg_name, hw v, ?_⟩
    have ev := is_int fv
    rw [Int.zero_add] at ev
    subst ev
    exact ev_tup (ds := [.str (Str.ofString "f"), .int (i : Nat)]) (ea_cons ev_str (ea_cons (ev_var (hi _) (Dp.int _)) ea_nil)) (Nat.le_of_ble_eq_true rfl)
  · refine ev_lc0 (List.range k) _ (fun i => encHo (true, i)) (ei_rng1 (ea_cons h1 ea_nil) (by omega) (by omega)) (by rw [List.length_range]; omega) fun i hi' v N' e fv => ⟨_, eg_name, hw2 v, ?_⟩
    have ev := is_int fv
    rw [Int.zero_add] at ev
    subst ev
    exact ev_tup (ds := [.str (Str.ofString "h"), .int (i : Nat)]) (ea_cons ev_str (ea_cons (ev_var (hi2 _) (Dp.int _)) ea_nil)) (Nat.le_of_ble_eq_true rfl)
  · rw [List.length_map, List.length_map, List.length_range, List.length_range]
    omega
  · unfold holders
    rw [List.map_append, List.map_map, List.map_map]
    rfl
theorem en_row {hs : List Ho} {a b : Ho} {x y vh : V} (hz : hs.length ≤ 8) (hh : EvP te σ N (is K (.list (hs.map encHo)))) (h4 : ∀ v, ((wipe σ [8]).set 8 (some v))[4]? = some (some x)) (h5 : ∀ v, ((wipe σ [8]).set 8 (some v))[5]? = some (some y)) (h8 : ∀ v, ((wipe σ [8]).set 8 (some v))[8]? = some (some v))
    (hw : ∀ v, wipe ((wipe σ [8]).set 8 (some v)) [8] = wipe σ [8]) (fx : is K (encHo a) x N) (fy : is K (encHo b) y N) :
    EvN (tLc (iList K te) (gName 8) (tTest (tChain (rLeD K) (rLeD K) (tVar 4) (tVar 5) (tVar 8))) (tTup (tCons (tVar 4) (tCons (tVar 5) (tCons (tVar 8) tNil)))) [8]) σ N (fun K ys N' => DpAll K N' ys ((row3 hs a b).map encHs)) K := by
  have h := en_lc (vs := [8]) (K := K) (σ := σ) (N := N) (t := tTest (tChain (rLeD K) (rLeD K) (tVar 4) (tVar 5) (tVar 8))) (te := tTup (tCons (tVar 4) (tCons (tVar 5) (tCons (tVar 8) tNil)))) (tg := gName 8) hs (fun c => is K (encHo c)) (fun c => leHo a b && leHo b c) (fun c => encHs [a, b, c]) (ei_list hh) (by omega) (fun c hc v M e fv =>
    ⟨_, eg_name, hw v, et_test (ev_chainD (ev_var (h4 v) ((is K _).st _ _ _ e fx)) (ev_var (h5 v) ((is K _).st _ _ _ e fy)) (ev_var (h8 v) fv)), fun _ => ev_tup (ds := [encHo a, encHo b, encHo c]) (ea_cons (ev_var (h4 v) ((is K _).st _ _ _ e fx)) (ea_cons (ev_var (h5 v) ((is K _).st _ _ _ e fy)) (ea_cons (ev_var (h8 v) fv) ea_nil))) (Nat.le_of_ble_eq_true rfl)⟩)
  intro H e Q q
  refine h H e Q fun p vs N' H' g hp hd => q p vs N' H' g hp ?_
  unfold row3
  rw [List.map_map]
  exact hd
theorem ok_threes_of (T : Txt K mg A B) : FnOk P w K mg base CX0 1 A.threes_of B.threes_of ["folk", "houses"] (sp_threes K) := by
  refine T.F_threes_of.ok sc_threes_of (FnP.len fun _ => rfl) (fun cdv A' outer s H vs Q E hr h => ?_)
  obtain ⟨⟨f, k⟩, N, hz, e, hv, q⟩ := h
  replace hz : f + k ≤ 8 := hz
  match vs, hv with
  | [v, v1], hv =>
    refine ⟨_, (pss_cons (ps_set (i := 2) sc_threes_of.nd rfl (by first | exact Or.inl rfl | exact Or.inr rfl) (pe_op (op_catL (K := K)) (pe_lc (own := [("person", 6)]) (g := gName 6) (tt := tYes) (by rfl) sc_threes_of.nd (pi_range1 (by rfl) T.n_range (pa_cons (pv 0) pa_nil)) (blkOk_by (own := [("person", 6)]) (N := N_threes_of) (sc := defScope s_threes_of) (by decide +kernel)) (fun _ _ _ _ _ => (pg_name (i := 6) sc_threes_of.nd rfl (by first | exact Or.inl rfl | exact Or.inr rfl))) (fun _ _ _ _ _ => pts_nil) (fun _ _ _ _ _ => (pe_tup (pa_cons pe_str (pa_cons (pv 6) pa_nil))))) (pe_lc (own := [("house", 7)]) (g := gName 7) (tt := tYes) (by rfl) sc_threes_of.nd (pi_range1 (by rfl) T.n_range (pa_cons (pv 1) pa_nil)) (blkOk_by (own := [("house", 7)]) (N := N_threes_of) (sc := defScope s_threes_of) (by decide +kernel)) (fun _ _ _ _ _ => (pg_name (i := 7) sc_threes_of.nd rfl (by first | exact Or.inl rfl | exact Or.inr rfl))) (fun _ _ _ _ _ => pts_nil) (fun _ _ _ _ _ => (pe_tup (pa_cons pe_str (pa_cons (pv 7) pa_nil)))))))
    (pss_cons (ps_set (i := 3) sc_threes_of.nd rfl (by first | exact Or.inl rfl | exact Or.inr rfl) (pe_lst pa_nil))
    (pss_cons (ps_for PassesOwn.never (by rfl) (pi_listK (K := K) (pv 2)) (pg_name (i := 4) sc_threes_of.nd rfl (by first | exact Or.inl rfl | exact Or.inr rfl)) 
    (pss_one (ps_for PassesOwn.never (by rfl) (pi_listK (K := K) (pv 2)) (pg_name (i := 5) sc_threes_of.nd rfl (by first | exact Or.inl rfl | exact Or.inr rfl)) 
      (pss_one (ps_expr (pe_bm PySem.F.plainAttrs_list PySem.F.slot_list_extend PySem.F.type_list_extend mt_extend (pv 3) (pa_cons (pe_lc (own := [("three", 8)]) (g := gName 8) (by rfl) sc_threes_of.nd (pi_listK (K := K) (pv 2)) (blkOk_by (own := [("three", 8)]) (N := N_threes_of) (sc := defScope s_threes_of) (by decide +kernel)) (fun _ _ _ _ _ => (pg_name (i := 8) sc_threes_of.nd rfl (by first | exact Or.inl rfl | exact Or.inr rfl))) (fun _ _ _ _ _ => pts_one (pt_chain (op_leD (K := K) (hu8 hr)) (op_leD (K := K) (hu8 hr)) (pv 4) (pv 5) (pv 8))) (fun _ _ _ _ _ => (pe_tup (pa_cons (pv 4) (pa_cons (pv 5) (pa_cons (pv 8) pa_nil)))))) pa_nil)))))))
    (pss_one (ps_ret (pv 3)))))), ?_⟩
    refine q_asg e (ev_holders (ev_var rfl hv.1) (ev_var rfl hv.2.1) hz (fun _ => rfl) (fun _ => rfl) (fun _ => rfl) (fun _ => rfl)) fun vh N1 H1 g1 fh => ?_
    refine q_new g1.s (en_lst (K := K) (ds := []) ea_nil (Nat.le_of_ble_eq_true rfl)) fun p vs N2 H2 g2 hp hd => ?_
    cases hd
    obtain ⟨g3, c3⟩ := Cl.mk' (o := .lst []) (g1.trans g2) hp
    generalize hhs : holders f k = hs at fh
    have hl : hs.length ≤ 8 := by
      rw [← hhs, holders_len]
      exact hz
    refine q_for hs (fun a => is K (encHo a)) g3.s (ei_list (ev_var rfl ((is K _).st _ _ _ g2.n fh))) fun N4 H4 g4 => ?_
    have fh4 := (is K _).st _ _ _ (g2.n.trans g4.n) fh
    refine ⟨fun i σ H5 => ∃ a b N5 ws, σ = [some v, some v1, some vh, some (.ref p), a, b, none, none, none] ∧ Go N H N5 H5 ∧ Ex N4 N5 ∧ Cl H N5 H5 p (.lst ws) ∧ DpAll K N5 ws ((part3 hs i).map encHs) ∧ ws.length ≤ i * 64,
      ⟨none, none, N4, [], rfl, g3.trans g4, Ex.refl _, c3.go g4, .nil, Nat.zero_le _⟩, ?_, ?_, ?_⟩
    · rintro i σ H5 ⟨a, b, N5, ws, _, g5, e5, _⟩
      exact e5.trans g5.s
    · rintro i one x σ H5 hi fx ⟨a, b, N5, ws, rfl, g5, e5, c5, d5, z5⟩
      have hil : i < hs.length := (List.getElem?_eq_some_iff.mp hi).1
      have fh5 := (is K _).st _ _ _ e5 fh4
      have fx5 := (is K _).st _ _ _ e5 fx
      refine s_for hs (fun a => is K (encHo a)) g5.s (ei_list (ev_var rfl fh5)) fun N6 H6 g6 => ?_
      refine ⟨fun j σ H7 => ∃ b N7 ws, σ = [some v, some v1, some vh, some (.ref p), some x, b, none, none, none] ∧ Go N H N7 H7 ∧ Ex N6 N7 ∧ Cl H N7 H7 p (.lst ws) ∧ DpAll K N7 ws ((part3 hs i ++ (hs.take j).flatMap fun b => row3 hs one b).map encHs) ∧ ws.length ≤ i * 64 + j * 8,
        ⟨b, N6, ws, rfl, g5.trans g6, Ex.refl _, c5.go g6, ?_, by omega⟩, ?_, ?_, ?_⟩
      · rw [List.take_zero, List.flatMap_nil, List.append_nil]
        exact dpAll_ex g6.n _ _ d5
      · rintro j σ H7 ⟨b, N7, ws, _, g7, e7, _⟩
        exact e7.trans g7.s
      · rintro j two y σ H7 hj fy ⟨b, N7, ws, rfl, g7, e7, c7, d7, z7⟩
        have hjl : j < hs.length := (List.getElem?_eq_some_iff.mp hj).1
        have fx7 := (is K _).st _ _ _ (g6.n.trans e7) fx5
        have fy7 := (is K _).st _ _ _ e7 fy
        have fh7 := (is K _).st _ _ _ (g6.n.trans e7) fh5
        have K7 : Ex N7 (upd N7 p (.lst ws)) := Ex.new c7.n
        refine ⟨_, rfl, .inl ⟨rfl, ws, .inl (.inl c7.h)⟩, ?_⟩
        refine en_row (K := K) (N := upd N7 p (.lst ws)) (hs := hs) (a := one) (b := two) (x := x) (y := y) (vh := vh) hl (ev_var rfl ((is K _).st _ _ _ K7 fh7)) (fun _ => rfl) (fun _ => rfl) (fun _ => rfl) (fun _ => rfl) ((is K _).st _ _ _ K7 fx7) ((is K _).st _ _ _ K7 fy7) H7 (ex_know g7.s c7.h) _ fun D ys N8 H8 g8 hD d8 => ?_
        obtain ⟨g9, c9, hp9, e9⟩ := g7.unknow c7 g8
        have nD : p ≠ D := ne_of_none c9.h hD
        have hyl : ys.length ≤ 8 := by
          rw [dpAll_len d8, List.length_map]
          exact row3_len hs one two hl
        refine ⟨p, D, ws, ys, rfl, rfl, by rw [upd_ne nD]; exact c9.h, upd_same, sz_of (by omega), ?_⟩
        have n9 : (erase N8 p) D = none := g9.s.back hD
        have g10 : Go N H (erase N8 p) (upd H8 D (.lst ys)) := ⟨g9.n, g9.h.mut (g9.fresh hD), g9.s.mut n9, g9.f⟩
        have c10 : Cl H (erase N8 p) (upd H8 D (.lst ys)) p (.lst ws) := c9.off nD
        refine ⟨_, erase N8 p, ws ++ ys, rfl, g10.put c10, e7.trans e9, c10.put, ?_, ?_⟩
        · rw [flat_next hj, ← List.append_assoc, List.map_append]
          exact dpAll_app (dpAll_ex e9 _ _ d7) (dpAll_er hp9 (fun _ z => nomatch z) (fun _ _ z => nomatch z) _ _ (flatAll_map flat_hs _) d8)
        · rw [List.length_append]
          omega
      · rintro σ H7 ⟨b, N7, ws, rfl, g7, e7, c7, d7, z7⟩
        refine ⟨_, _, N7, ws, rfl, g7, e5.trans (g6.n.trans e7), c7, ?_, by omega⟩
        rw [List.take_length] at d7
        rw [part3_next hi]
        exact d7
    · rintro σ H5 ⟨a, b, N5, ws, rfl, g5, e5, c5, d5, z5⟩
      have g6 := g5.know c5
      refine s_ret g6.s (ev_var (f := is K (.list ((part3 hs hs.length).map encHs))) rfl (mk_lst upd_same (dpAll_ex (Ex.new c5.n) _ _ d5))) fun v N' H' g fv => q v N' H' (g6.trans g) ?_
      unfold part3 at fv
      rw [List.take_length] at fv
      show (is K (.list ((threesM f k).map encHs))).p v N'
      unfold threesM
      rw [hhs]
      exact fv
theorem ok_law_threes (T : Txt K mg A B) : FnOk P w K mg base CX0 1 A._law_threes B._law_threes ["_law_folk", "_law_houses"] (sp_threes K) := by
  refine T.F__law_threes.ok sc__law_threes (FnP.len fun _ => rfl) (fun cdv A' outer s H vs Q E hr h => ?_)
  obtain ⟨⟨f, k⟩, N, hz, e, hv, q⟩ := h
  replace hz : f + k ≤ 8 := hz
  match vs, hv with
  | [v, v1], hv =>
    refine ⟨_, (pss_cons (ps_set (i := 2) sc__law_threes.nd rfl (by first | exact Or.inl rfl | exact Or.inr rfl) (pe_op (op_catL (K := K)) (pe_lc (own := [("_law_person", 6)]) (g := gName 6) (tt := tYes) (by rfl) sc__law_threes.nd (pi_range1 (by rfl) T.n_range (pa_cons (pv 0) pa_nil)) (blkOk_by (own := [("_law_person", 6)]) (N := N__law_threes) (sc := defScope s__law_threes) (by decide +kernel)) (fun _ _ _ _ _ => (pg_name (i := 6) sc__law_threes.nd rfl (by first | exact Or.inl rfl | exact Or.inr rfl))) (fun _ _ _ _ _ => pts_nil) (fun _ _ _ _ _ => (pe_tup (pa_cons pe_str (pa_cons (pv 6) pa_nil))))) (pe_lc (own := [("_law_house", 7)]) (g := gName 7) (tt := tYes) (by rfl) sc__law_threes.nd (pi_range1 (by rfl) T.n_range (pa_cons (pv 1) pa_nil)) (blkOk_by (own := [("_law_house", 7)]) (N := N__law_threes) (sc := defScope s__law_threes) (by decide +kernel)) (fun _ _ _ _ _ => (pg_name (i := 7) sc__law_threes.nd rfl (by first | exact Or.inl rfl | exact Or.inr rfl))) (fun _ _ _ _ _ => pts_nil) (fun _ _ _ _ _ => (pe_tup (pa_cons pe_str (pa_cons (pv 7) pa_nil)))))))
    (pss_cons (ps_set (i := 3) sc__law_threes.nd rfl (by first | exact Or.inl rfl | exact Or.inr rfl) (pe_lst pa_nil))
    (pss_cons (ps_for PassesOwn.never (by rfl) (pi_listK (K := K) (pv 2)) (pg_name (i := 4) sc__law_threes.nd rfl (by first | exact Or.inl rfl | exact Or.inr rfl)) 
    (pss_one (ps_for PassesOwn.never (by rfl) (pi_listK (K := K) (pv 2)) (pg_name (i := 5) sc__law_threes.nd rfl (by first | exact Or.inl rfl | exact Or.inr rfl)) 
      (pss_one (ps_set (i := 3) sc__law_threes.nd rfl (by first | exact Or.inl rfl | exact Or.inr rfl) (pe_op (op_catL (K := K)) (pv 3) (pe_lc (own := [("_law_three", 8)]) (g := gName 8) (by rfl) sc__law_threes.nd (pi_listK (K := K) (pv 2)) (blkOk_by (own := [("_law_three", 8)]) (N := N__law_threes) (sc := defScope s__law_threes) (by decide +kernel)) (fun _ _ _ _ _ => (pg_name (i := 8) sc__law_threes.nd rfl (by first | exact Or.inl rfl | exact Or.inr rfl))) (fun _ _ _ _ _ => pts_one (pt_chain (op_leD (K := K) (hu8 hr)) (op_leD (K := K) (hu8 hr)) (pv 4) (pv 5) (pv 8))) (fun _ _ _ _ _ => (pe_tup (pa_cons (pv 4) (pa_cons (pv 5) (pa_cons (pv 8) pa_nil))))))))))))
    (pss_one (ps_ret (pv 3)))))), ?_⟩
    refine q_asg e (ev_holders (ev_var rfl hv.1) (ev_var rfl hv.2.1) hz (fun _ => rfl) (fun _ => rfl) (fun _ => rfl) (fun _ => rfl)) fun vh N1 H1 g1 fh => ?_
    refine q_asg g1.s (ev_lst (K := K) (ds := []) ea_nil (Nat.le_of_ble_eq_true rfl)) fun p N2 H2 g2 hp => ?_
    have g3 := g1.trans g2
    generalize hhs : holders f k = hs at fh
    have hl : hs.length ≤ 8 := by
      rw [← hhs, holders_len]
      exact hz
    refine q_for hs (fun a => is K (encHo a)) g3.s (ei_list (ev_var rfl ((is K _).st _ _ _ g2.n fh))) fun N4 H4 g4 => ?_
    have fh4 := (is K _).st _ _ _ (g2.n.trans g4.n) fh
    refine ⟨fun i σ H5 => ∃ a b N5 p, σ = [some v, some v1, some vh, some p, a, b, none, none, none] ∧ Go N H N5 H5 ∧ Ex N4 N5 ∧ is K (.list ((part3 hs i).map encHs)) p N5 ∧ (part3 hs i).length ≤ i * 64,
      ⟨none, none, N4, p, rfl, g3.trans g4, Ex.refl _, (is K _).st _ _ _ g4.n hp, Nat.zero_le _⟩, ?_, ?_, ?_⟩
    · rintro i σ H5 ⟨a, b, N5, p, _, g5, e5, _⟩
      exact e5.trans g5.s
    · rintro i one x σ H5 hi fx ⟨a, b, N5, p, rfl, g5, e5, d5, z5⟩
      have hil : i < hs.length := (List.getElem?_eq_some_iff.mp hi).1
      have fh5 := (is K _).st _ _ _ e5 fh4
      have fx5 := (is K _).st _ _ _ e5 fx
      refine s_for hs (fun a => is K (encHo a)) g5.s (ei_list (ev_var rfl fh5)) fun N6 H6 g6 => ?_
      refine ⟨fun j σ H7 => ∃ b N7 p, σ = [some v, some v1, some vh, some p, some x, b, none, none, none] ∧ Go N H N7 H7 ∧ Ex N6 N7 ∧ is K (.list ((part3 hs i ++ (hs.take j).flatMap fun b => row3 hs one b).map encHs)) p N7 ∧ (part3 hs i ++ (hs.take j).flatMap fun b => row3 hs one b).length ≤ i * 64 + j * 8,
        ⟨b, N6, p, rfl, g5.trans g6, Ex.refl _, ?_, ?_⟩, ?_, ?_, ?_⟩
      · rw [List.take_zero, List.flatMap_nil, List.append_nil]
        exact (is K _).st _ _ _ g6.n d5
      · rw [List.take_zero, List.flatMap_nil, List.append_nil]
        omega
      · rintro j σ H7 ⟨b, N7, p, _, g7, e7, _⟩
        exact e7.trans g7.s
      · rintro j two y σ H7 hj fy ⟨b, N7, p, rfl, g7, e7, d7, z7⟩
        have hjl : j < hs.length := (List.getElem?_eq_some_iff.mp hj).1
        have fx7 := (is K _).st _ _ _ (g6.n.trans e7) fx5
        have fy7 := (is K _).st _ _ _ e7 fy
        have fh7 := (is K _).st _ _ _ (g6.n.trans e7) fh5
        refine s_asg g7.s ((ev_catLs (ev_var rfl d7) (en_row (K := K) (hs := hs) (a := one) (b := two) (x := x) (y := y) (vh := vh) hl (ev_var rfl fh7) (fun _ => rfl) (fun _ => rfl) (fun _ => rfl) (fun _ => rfl) fx7 fy7).known ?_).cast ?_) fun v N8 H8 g8 fv => ⟨_, N8, v, rfl, g7.trans g8, e7.trans g8.n, fv, ?_⟩
        · rw [List.length_map, List.length_map]
          have := row3_len hs one two hl
          omega
        · rw [← List.map_append, List.append_assoc, ← flat_next hj]
        · rw [flat_next hj, ← List.append_assoc, List.length_append]
          have := row3_len hs one two hl
          omega
      · rintro σ H7 ⟨b, N7, p, rfl, g7, e7, d7, z7⟩
        rw [List.take_length] at d7 z7
        rw [← part3_next hi] at d7 z7
        exact ⟨_, _, N7, p, rfl, g7, e5.trans (g6.n.trans e7), d7, by omega⟩
    · rintro σ H5 ⟨a, b, N5, p, rfl, g5, e5, d5, z5⟩
      refine s_ret g5.s (ev_var (f := is K (.list ((part3 hs hs.length).map encHs))) rfl d5) fun v N' H' g fv => q v N' H' (g5.trans g) ?_
      unfold part3 at fv
      rw [List.take_length] at fv
      show (is K (.list ((threesM f k).map encHs))).p v N'
      unfold threesM
      rw [hhs]
      exact fv
end
end Rk
end PartRkF5

section PartRkP1
set_option Elab.async false
set_option linter.all false
set_option maxRecDepth 100000
set_option maxHeartbeats 4000000
/-! what a web keeps of a house -/
namespace Rk
open PySem PySem.Spec PyProof.Rows L2 RkS
def cntF (h : List Ho) (p : Nat) : Nat := (h.filter fun x => decide (x = (false, p))).length
def perM (f : Nat) (h : List Ho) : List Int := (List.range f).map fun p => (cntF h p : Int)
theorem cntF_app (h : List Ho) (x : Ho) (p : Nat) : cntF (h ++ [x]) p = cntF h p + if x = (false, p) then 1 else 0 := by
  unfold cntF
  rw [List.filter_append, List.length_append]
  by_cases e : x = (false, p)
  · rw [if_pos e, List.filter_cons, if_pos (decide_eq_true e), List.filter_nil] <;> rfl
  · rw [if_neg e, List.filter_cons, if_neg (by rw [decide_eq_false e]; decide)] <;> rfl
theorem perM_len (f : Nat) (h : List Ho) : (perM f h).length = f := by
  unfold perM
  rw [List.length_map, List.length_range]
theorem perM_get (f : Nat) (h : List Ho) (n : Nat) (hn : n < f) : (perM f h)[n]? = some (cntF h n : Int) := by
  unfold perM
  rw [List.getElem?_map, List.getElem?_range hn] <;> rfl
theorem perM_set (f : Nat) (h : List Ho) (n : Nat) (hn : n < f) : perM f (h ++ [(false, n)]) = (perM f h).set n ((cntF h n : Int) + 1) := by
  apply List.ext_getElem?
  intro i
  rw [List.getElem?_set]
  by_cases hi : i < f
  · rw [perM_get f _ i hi, cntF_app]
    by_cases e : n = i
    · subst e
      rw [if_pos rfl, if_pos rfl, if_pos (by rw [perM_len]; exact hi)]
      rfl
    · rw [if_neg e, if_neg (fun z => e (by injection z)), perM_get f _ i hi] <;> rfl
  · have h1 : (perM f (h ++ [(false, n)]))[i]? = none := List.getElem?_eq_none (by rw [perM_len]; omega)
    have h2 : (perM f h)[i]? = none := List.getElem?_eq_none (by rw [perM_len]; omega)
    rw [h1, h2, if_neg (by omega)]
theorem perM_same (f : Nat) (h : List Ho) (n : Nat) : perM f (h ++ [(true, n)]) = perM f h := by
  unfold perM
  refine List.map_congr_left fun p _ => ?_
  rw [cntF_app, if_neg (fun z => by injection z with z _; exact absurd z (by decide))] <;> rfl
/-- one more of a key -/
def inc : List (Int × Int) → Int → List (Int × Int)
  | [], n => [(n, 1)]
  | q :: r, n => if q.1 = n then (q.1, q.2 + 1) :: r else q :: inc r n
def has (ps : List (Int × Int)) (n : Int) : Int := ((ps.find? fun q => decide (q.1 = n)).map (·.2)).getD 0
theorem inc_len : ∀ (ps : List (Int × Int)) (n : Int), (inc ps n).length ≤ ps.length + 1
  | [], _ => Nat.le_refl _
  | q :: r, n => by
    unfold inc
    split
    · rw [List.length_cons, List.length_cons]
      omega
    · rw [List.length_cons, List.length_cons]
      have := inc_len r n
      omega
theorem inc_keys : ∀ (ps : List (Int × Int)) (n k : Int), k ∈ (inc ps n).map (·.1) → k ∈ ps.map (·.1) ∨ k = n
  | [], n, k, h => by
    right
    simpa [inc] using h
  | q :: r, n, k, h => by
    unfold inc at h
    split at h
    · left
      exact h
    · rw [List.map_cons] at h
      rcases List.mem_cons.mp h with h | h
      · left
        rw [h]
        exact List.mem_cons_self
      · rcases inc_keys r n k h with h | h
        · left
          exact List.mem_cons_of_mem _ h
        · right
          exact h
theorem inc_nodup : ∀ (ps : List (Int × Int)) (n : Int), (ps.map (·.1)).Nodup → ((inc ps n).map (·.1)).Nodup
  | [], n, _ => by simp [inc]
  | q :: r, n, h => by
    rw [List.map_cons, List.nodup_cons] at h
    unfold inc
    split
    · rw [List.map_cons, List.nodup_cons]
      exact h
    · rename_i hne
      rw [List.map_cons, List.nodup_cons]
      refine ⟨fun z => ?_, inc_nodup r n h.2⟩
      rcases inc_keys r n _ z with z | z
      · exact h.1 z
      · exact hne z
/-- what holders of some kind have -/
def tot (F : Int → Bool) (ps : List (Int × Int)) : Int := ((ps.filter fun q => F q.1).map (·.2)).sum
theorem tot_cons (F : Int → Bool) (q : Int × Int) (r : List (Int × Int)) : tot F (q :: r) = (if F q.1 = true then q.2 else 0) + tot F r := by
  unfold tot
  by_cases h : F q.1 = true
  · rw [List.filter_cons, if_pos h, if_pos h, List.map_cons, List.sum_cons]
  · rw [List.filter_cons, if_neg h, if_neg h, Int.zero_add]
theorem tot_inc (F : Int → Bool) : ∀ (ps : List (Int × Int)) (n : Int), tot F (inc ps n) = tot F ps + if F n = true then 1 else 0
  | [], n => by
    unfold inc
    rw [tot_cons]
    exact Int.add_comm _ _
  | q :: r, n => by
    unfold inc
    split
    · rename_i e
      rw [tot_cons, tot_cons, ← e]
      split <;> omega
    · rw [tot_cons, tot_cons, tot_inc F r n]
      omega
theorem tot_perm (F : Int → Bool) {ps qs : List (Int × Int)} (h : ps.Perm qs) : tot F ps = tot F qs := by
  induction h with
  | nil => rfl
  | cons x _ ih => rw [tot_cons, tot_cons, ih]
  | swap x y l =>
    rw [tot_cons, tot_cons, tot_cons, tot_cons]
    exact Int.add_left_comm _ _ _
  | trans _ _ a b => rw [a, b]
theorem find_none {n : Int} : ∀ {ps : List (Int × Int)}, n ∉ ps.map (·.1) → ps.find? (fun q => decide (q.1 = n)) = none
  | [], _ => rfl
  | q :: r, h => by
    rw [List.map_cons, List.mem_cons, not_or] at h
    rw [List.find?_cons, decide_eq_false (fun z => h.1 z.symm)]
    exact find_none h.2
theorem putK_ent {n v : Int} : ∀ {ps : List (Int × Int)}, (ps.map (·.1)).Nodup → v = has ps n + 1 → putK (ps.map entI) (Sum.inl n : Key) (.int v) = (inc ps n).map entI
  | [], _, h => by
    have : v = 1 := h
    subst this
    rfl
  | q :: r, hn, h => by
    rw [List.map_cons, List.nodup_cons] at hn
    unfold inc
    by_cases e : q.1 = n
    · rw [if_pos e]
      have hv : v = q.2 + 1 := by
        rw [h]
        unfold has
        rw [List.find?_cons, decide_eq_true e] <;> rfl
      have hany : ((List.map entI (q :: r)).any fun kv => decide (kv.1 = (Sum.inl n : Key))) = true := by
        rw [List.map_cons, List.any_cons, decide_eq_true (show (entI q).1 = (Sum.inl n : Key) by rw [show (entI q).1 = Sum.inl q.1 from rfl, e]), Bool.true_or]
      unfold putK
      rw [if_pos hany, List.map_cons, List.map_cons, if_pos (show (entI q).1 = (Sum.inl n : Key) by rw [show (entI q).1 = Sum.inl q.1 from rfl, e]), List.map_cons, hv]
      congr 1
      rw [List.map_map]
      refine List.map_congr_left fun x hx => ?_
      show (if (entI x).1 = (Sum.inl n : Key) then _ else _) = entI x
      rw [if_neg (fun z => hn.1 (by
        have : x.1 = n := Sum.inl.inj z
        rw [e, ← this]
        exact List.mem_map.mpr ⟨x, hx, rfl⟩))]
    · rw [if_neg e]
      have hv : v = has r n + 1 := by
        rw [h]
        unfold has
        rw [List.find?_cons, decide_eq_false e]
      have ih := putK_ent hn.2 hv
      have hne : ¬ (entI q).1 = (Sum.inl n : Key) := fun z => e (Sum.inl.inj z)
      unfold putK at ih ⊢
      rw [List.map_cons, List.any_cons, decide_eq_false hne, Bool.false_or, List.map_cons, if_neg hne, List.map_cons, ← ih]
      split
      · rfl
      · rw [List.cons_append]
theorem valV_ent (n : Int) : ∀ (ps : List (Int × Int)), ((valV (ps.map entI) (Sum.inl n : Key)).getD (.int 0)) = .int (has ps n)
  | [] => rfl
  | q :: r => by
    rw [List.map_cons]
    unfold has
    by_cases e : q.1 = n
    · rw [valV_pos (show (entI q).1 = Sum.inl n by rw [show (entI q).1 = Sum.inl q.1 from rfl, e]), List.find?_cons, decide_eq_true e] <;> rfl
    · rw [valV_neg (show ¬ (entI q).1 = (Sum.inl n : Key) from fun z => e (Sum.inl.inj z)), List.find?_cons, decide_eq_false e]
      exact valV_ent n r
def own (h : List Ho) : List (Int × Int) := h.foldl (fun ps x => if x.1 = true then inc ps (x.2 : Nat) else ps) []
theorem own_app (h : List Ho) (x : Ho) : own (h ++ [x]) = if x.1 = true then inc (own h) (x.2 : Nat) else own h := by
  unfold own
  rw [List.foldl_append] <;> rfl
theorem fold_inv {α β : Type} {f : β → α → β} {I : β → Nat → Prop} (h : ∀ b n a, I b n → I (f b a) (n + 1)) : ∀ (l : List α) (b : β) (n : Nat), I b n → I (l.foldl f b) (n + l.length)
  | [], b, n, i => i
  | a :: l, b, n, i => by
    have := fold_inv h l (f b a) (n + 1) (h b n a i)
    rw [List.length_cons, show n + (l.length + 1) = n + 1 + l.length by omega]
    exact this
theorem own_inv (h : List Ho) : ((own h).map (·.1)).Nodup ∧ (own h).length ≤ h.length := by
  have := fold_inv (f := fun ps (x : Ho) => if x.1 = true then inc ps (x.2 : Nat) else ps) (I := fun ps n => (ps.map (·.1)).Nodup ∧ ps.length ≤ n) (fun b n a i => by
    cases a.1 with
    | true =>
      rw [if_pos rfl]
      exact ⟨inc_nodup _ _ i.1, Nat.le_trans (inc_len _ _) (Nat.succ_le_succ i.2)⟩
    | false =>
      rw [if_neg Bool.false_ne_true]
      exact ⟨i.1, Nat.le_succ_of_le i.2⟩) h [] 0 ⟨List.nodup_nil, Nat.le_refl _⟩
  rw [Nat.zero_add] at this
  exact this
/-- how many shares houses of some kind hold -/
def cntH (F : Int → Bool) (h : List Ho) : Nat := (h.filter fun x => x.1 && F (x.2 : Nat)).length
theorem tot_fold (F : Int → Bool) : ∀ (h : List Ho) (ps : List (Int × Int)), tot F (h.foldl (fun ps x => if x.1 = true then inc ps (x.2 : Nat) else ps) ps) = tot F ps + cntH F h
  | [], ps => by
    show tot F ps = tot F ps + ((0 : Nat) : Int)
    omega
  | x :: h, ps => by
    rw [List.foldl_cons, tot_fold F h]
    have e : cntH F (x :: h) = (if (x.1 && F (x.2 : Nat)) = true then 1 else 0) + cntH F h := by
      unfold cntH
      by_cases z : (x.1 && F (x.2 : Nat)) = true
      · rw [List.filter_cons, if_pos z, if_pos z, List.length_cons]
        omega
      · rw [List.filter_cons, if_neg z, if_neg z, Nat.zero_add]
    rw [e]
    cases hx : x.1 with
    | true =>
      rw [if_pos rfl, tot_inc, Bool.true_and]
      split <;> simp <;> omega
    | false =>
      rw [if_neg Bool.false_ne_true, Bool.false_and, if_neg Bool.false_ne_true]
      simp
theorem tot_own (F : Int → Bool) (h : List Ho) : tot F (own h) = cntH F h := by
  unfold own
  rw [tot_fold]
  show tot F [] + _ = _
  show (0 : Int) + _ = _
  omega
/-- what is kept of the houses that hold shares of a house -/
structure Kh (ps : List (Int × Int)) (h : List Ho) : Prop where
  few : ps.length ≤ h.length
  tot : ∀ F, tot F ps = cntH F h
theorem Kh.of {h : List Ho} {qs : List (Int × Int)} (p : qs.Perm (own h)) : Kh qs h := ⟨by rw [p.length_eq]; exact (own_inv h).2, fun F => (tot_perm F p).trans (tot_own F h)⟩
theorem paired_app {α β : Type} {F : α → β → Prop} : ∀ {xs xs' : List α} {ys ys' : List β}, Paired F xs ys → Paired F xs' ys' → Paired F (xs ++ xs') (ys ++ ys')
  | _, _, _, _, .nil, k => k
  | _, _, _, _, .cons h t, k => .cons h (paired_app t k)
/-- a web -/
def WebP (K : PySem.W.Frag) (C : Addr) (f : Nat) (hs : List (List Ho)) : Pr where
  p v N := ∃ (x dx : Addr) (vh l1 l2 l3 : V) (khs : List (List (Int × Int))), v = V.ref x ∧ N x = some (.ins C dx [("folk", .int (f : Nat)), ("houses", vh), ("kept_folk", l1), ("kept_houses", l2), ("kept_half", l3)]) ∧ is K (.tuple (hs.map encHs)) vh N ∧
    is K (.list (hs.map fun h => .list ((perM f h).map .int))) l1 N ∧ is K (.list (khs.map fun ps => .list (ps.map pairI))) l2 N ∧ is K (.list (hs.map fun h => .int (((h.length : Int) + 1) / 2))) l3 N ∧ Paired Kh khs hs
  st := fun v N M e ⟨x, dx, vh, l1, l2, l3, khs, a, b, c, d, f, g, h⟩ => ⟨x, dx, vh, l1, l2, l3, khs, a, e _ _ b, dp_ex e _ _ c, dp_ex e _ _ d, dp_ex e _ _ f, dp_ex e _ _ g, h⟩
end Rk
end PartRkP1

section PartRkF6
set_option Elab.async false
set_option linter.all false
set_option maxRecDepth 100000
set_option maxHeartbeats 4000000
namespace Rk
open PySem PySem.Spec PyProof.Rows L2 RkS DX
theorem hu16 {k : Nat} {A : Around} (hr : Room k A) : A.units + 16 < cLine := Nat.lt_of_le_of_lt (Nat.add_le_add_left (by decide : 16 ≤ 64) _) hr.units
theorem dep_ho (x : Ho) : (encHo x).depth ≤ 8 := by simp [encHo, PyData.depth, PyData.depthAll]
section
variable {H0 N H N' H' : Hp} {p q : Addr} {o u : HO}
theorem Cl.up (c : Cl H0 N H q o) (h : q ≠ p) : Cl H0 (upd N p u) H q o := ⟨c.f, by rw [upd_ne h]; exact c.n, c.h⟩
theorem Cl.ne {o' : HO} (c : Cl H0 N H q o) (d : Cl H0 N H p o') (h : o ≠ o') : q ≠ p := fun z => by
  subst z
  have := c.h.symm.trans d.h
  exact h (Option.some.inj this)
/-- everything new is known -/
theorem Go.all (e : Ex N H) (e' : Ex H H') : Go N H (fun a => match H a with | none => H' a | some _ => N a) H' := by
  refine ⟨fun a o h => ?_, e', fun a o h => ?_, fun a o h => ?_⟩
  · show (match H a with | none => H' a | some _ => N a) = some o
    rw [e a o h]
    exact h
  · cases hh : H a with
    | none =>
      have h' : (match H a with | none => H' a | some _ => N a) = some o := h
      rw [hh] at h'
      exact h'
    | some z =>
      have h' : (match H a with | none => H' a | some _ => N a) = some o := h
      rw [hh] at h'
      rw [e' a z hh]
      rw [e a o h'] at hh
      exact hh.symm
  · cases hh : H a with
    | none => exact .inr rfl
    | some z =>
      have h' : (match H a with | none => H' a | some _ => N a) = some o := h
      rw [hh] at h'
      exact .inl h'
end
section
variable {K : PySem.W.Frag}
theorem dp_pairs {Hb H' N' : Hp} (hn : ∀ t, Hb t = none → N' t = H' t) : ∀ {xs : List V} {qs : List (Int × Int)}, Paired (fun x (q : Int × Int) => ∃ t, x = V.ref t ∧ Hb t = none ∧ H' t = some (.tup [.int q.1, .int q.2])) xs qs → DpAll K N' xs (qs.map pairI)
  | _, _, .nil => .nil
  | _, _, .cons h t => by
    obtain ⟨a, rfl, h1, h2⟩ := h
    exact .cons (mk_tup ((hn a h1).trans h2) (.cons (.int _) (.cons (.int _) .nil))) (dp_pairs hn t)
end
section
variable {P : Program} {w : World} {K : PySem.W.Frag} {mg : Str → Option Value} {base : Heap} {A : Ad} {B : Fd}
def sp_keep (K : PySem.W.Frag) (C : Addr) : Sp := fun vs H Q _ => ∃ (N H0 : Hp) (x dx : Addr) (f : Nat) (hs : List (List Ho)) (vh : V), vs = [.ref x, .int (f : Nat), vh] ∧ Go N H0 N H ∧ Cl H0 N H x (.ins C dx []) ∧ is K (.tuple (hs.map encHs)) vh N ∧
  (f ≤ 8 ∧ hs.length ≤ 1000 ∧ ∀ h ∈ hs, h.length ≤ 1000 ∧ ∀ y ∈ h, y.1 = false → y.2 < f) ∧ ∀ N' H', Go N H0 N' H' → WebP K C f hs (.ref x) N' → Q .non H'
theorem ok_keep (T : Txt K mg A B) : FnOk P w K mg base CX0 1 A.Web_keep B.Web_keep ["self", "folk", "houses"] (sp_keep K A.RawWeb) := by
  refine T.F_Web_keep.ok sc_Web_keep (fun _ _ _ _ h => ?_) (fun cdv A' outer s H vs Q E hr h => ?_)
  · obtain ⟨_, _, _, _, _, _, _, rfl, _⟩ := h
    rfl
  obtain ⟨N, H0, x, dx, f, hs, vh, rfl, g, c, hh, ⟨hf, hz, hi⟩, q⟩ := h
  refine ⟨_, (pss_cons (ps_fld (pv 0) (pv 1) rfl)
    (pss_cons (ps_fld (pv 0) (pv 2) rfl)
    (pss_cons (ps_fld (pv 0) (pe_lst pa_nil) rfl)
    (pss_cons (ps_fld (pv 0) (pe_lst pa_nil) rfl)
    (pss_cons (ps_fld (pv 0) (pe_lst pa_nil) rfl)
    (pss_one (ps_for PassesOwn.never (by rfl) (pi_tupK (K := K) (pv 2)) (pg_name (i := 3) sc_Web_keep.nd rfl (by first | exact Or.inl rfl | exact Or.inr rfl)) 
    (pss_cons (ps_setLc (i := 4) (own := [("person", 8)]) (g := gName 8) (tt := tYes) (by rfl) sc_Web_keep.nd rfl rfl (sw_true rfl rfl rfl (by decide +kernel)) (pi_range1 (by rfl) T.n_range (pa_cons (pv 1) pa_nil)) (blkOk_by (own := [("person", 8)]) (N := N_Web_keep) (sc := defScope s_Web_keep) (by decide +kernel)) (fun _ _ _ _ _ => (pg_name (i := 8) sc_Web_keep.nd rfl (by first | exact Or.inl rfl | exact Or.inr rfl))) (fun _ _ _ _ _ => pts_nil) (fun _ _ _ _ _ => pe_int))
      (pss_cons (ps_set (i := 5) sc_Web_keep.nd rfl (by first | exact Or.inl rfl | exact Or.inr rfl) pe_dnewK)
      (pss_cons (ps_for PassesOwn.never (by rfl) (pi_tupK (K := K) (pv 3)) (pg_tup (by rfl) (pgs_cons (pg_name (i := 6) sc_Web_keep.nd rfl (by first | exact Or.inl rfl | exact Or.inr rfl)) (pgs_cons (pg_name (i := 7) sc_Web_keep.nd rfl (by first | exact Or.inl rfl | exact Or.inr rfl)) pgs_nil))) 
      (pss_one (ps_if (pt_cmpR op_eq (pv 6) pe_str (nomark _)) 
        (pss_one (ps_augS (pv 4) (pv 7) (pget_list (K := K)) pe_int ip_add set_list)) 
        (pss_one (ps_dput (hu_of hr) (pv 5) (pv 7) (pe_op op_add (pe_dget2 (hu_of hr) (pv 5) (pv 7) pe_int ⟨rfl, rfl, rfl, rfl⟩) pe_int) rfl)))))
      (pss_cons (ps_expr (pe_bm PySem.F.plainAttrs_list PySem.F.slot_list_append PySem.F.type_list_append mt_append (pe_fldK (K := K) (pv 0) rfl) (pa_cons (pv 4) pa_nil)))
      (pss_cons (ps_expr (pe_bm PySem.F.plainAttrs_list PySem.F.slot_list_append PySem.F.type_list_append mt_append (pe_fldK (K := K) (pv 0) rfl) (pa_cons (pe_callB (cr_sortIt rfl (hu16 hr)) (by rfl) T.n_sorted (by decide +kernel) (pa_cons (pe_bm0 PySem.F.plainAttrs_dict PySem.F.slot_dict_items PySem.F.type_dict_items mt_itemsK (pv 5)) pa_nil)) pa_nil)))
      (pss_one (ps_expr (pe_bm PySem.F.plainAttrs_list PySem.F.slot_list_append PySem.F.type_list_append mt_append (pe_fldK (K := K) (pv 0) rfl) (pa_cons (pe_op op_fdiv (pe_op op_add (pe_callB (cr_len (K := K)) (by rfl) T.n_len (by decide +kernel) (pa_cons (pv 3) pa_nil)) pe_int) pe_int) pa_nil)))))))))))))))), ?_⟩
  -- the fields
  refine ⟨_, rfl, _, rfl, x, _, dx, [], rfl, c.h, T.cl, T.a_folk, (Nat.le_of_ble_eq_true rfl), ?_⟩
  have g1 := g.put c (o' := .ins A.RawWeb dx [("folk", .int (f : Nat))])
  have c1 := c.put (o' := .ins A.RawWeb dx [("folk", .int (f : Nat))])
  refine ⟨_, rfl, _, rfl, x, _, dx, _, rfl, c1.h, T.cl, T.a_houses, (Nat.le_of_ble_eq_true rfl), ?_⟩
  have g2 := g1.put c1 (o' := .ins A.RawWeb dx [("folk", .int (f : Nat)), ("houses", vh)])
  have c2 := c1.put (o' := .ins A.RawWeb dx [("folk", .int (f : Nat)), ("houses", vh)])
  refine ⟨(Nat.le_of_ble_eq_true rfl), fun a1 ha1 => ?_⟩
  obtain ⟨g3, d1⟩ := Cl.mk' (o := .lst []) g2 ha1
  have x1 : x ≠ a1 := ne_of_none c2.h ha1
  have c3 := c2.off (o' := .lst []) x1
  refine ⟨_, rfl, x, _, dx, _, rfl, c3.h, T.cl, T.a_kept_folk, (Nat.le_of_ble_eq_true rfl), ?_⟩
  have g4 := g3.put c3 (o' := .ins A.RawWeb dx [("folk", .int (f : Nat)), ("houses", vh), ("kept_folk", .ref a1)])
  have c4 := c3.put (o' := .ins A.RawWeb dx [("folk", .int (f : Nat)), ("houses", vh), ("kept_folk", .ref a1)])
  have d14 := d1.off (o' := .ins A.RawWeb dx [("folk", .int (f : Nat)), ("houses", vh), ("kept_folk", .ref a1)]) x1.symm
  refine ⟨(Nat.le_of_ble_eq_true rfl), fun a2 ha2 => ?_⟩
  obtain ⟨g5, d2⟩ := Cl.mk' (o := .lst []) g4 ha2
  have x2 : x ≠ a2 := ne_of_none c4.h ha2
  have n12 : a1 ≠ a2 := ne_of_none d14.h ha2
  have c5 := c4.off (o' := .lst []) x2
  have d15 := d14.off (o' := .lst []) n12
  refine ⟨_, rfl, x, _, dx, _, rfl, c5.h, T.cl, T.a_kept_houses, (Nat.le_of_ble_eq_true rfl), ?_⟩
  have g6 := g5.put c5 (o' := .ins A.RawWeb dx [("folk", .int (f : Nat)), ("houses", vh), ("kept_folk", .ref a1), ("kept_houses", .ref a2)])
  have c6 := c5.put (o' := .ins A.RawWeb dx [("folk", .int (f : Nat)), ("houses", vh), ("kept_folk", .ref a1), ("kept_houses", .ref a2)])
  have d16 := d15.off (o' := .ins A.RawWeb dx [("folk", .int (f : Nat)), ("houses", vh), ("kept_folk", .ref a1), ("kept_houses", .ref a2)]) x1.symm
  have d26 := d2.off (o' := .ins A.RawWeb dx [("folk", .int (f : Nat)), ("houses", vh), ("kept_folk", .ref a1), ("kept_houses", .ref a2)]) x2.symm
  refine ⟨(Nat.le_of_ble_eq_true rfl), fun a3 ha3 => ?_⟩
  obtain ⟨g7, d3⟩ := Cl.mk' (o := .lst []) g6 ha3
  have x3 : x ≠ a3 := ne_of_none c6.h ha3
  have n13 : a1 ≠ a3 := ne_of_none d16.h ha3
  have n23 : a2 ≠ a3 := ne_of_none d26.h ha3
  have c7 := c6.off (o' := .lst []) x3
  have d17 := d16.off (o' := .lst []) n13
  have d27 := d26.off (o' := .lst []) n23
  refine ⟨_, rfl, x, _, dx, _, rfl, c7.h, T.cl, T.a_kept_half, (Nat.le_of_ble_eq_true rfl), ?_⟩
  have g8 := g7.put c7 (o' := .ins A.RawWeb dx [("folk", .int (f : Nat)), ("houses", vh), ("kept_folk", .ref a1), ("kept_houses", .ref a2), ("kept_half", .ref a3)])
  have c8 := c7.put (o' := .ins A.RawWeb dx [("folk", .int (f : Nat)), ("houses", vh), ("kept_folk", .ref a1), ("kept_houses", .ref a2), ("kept_half", .ref a3)])
  have d18 := d17.off (o' := .ins A.RawWeb dx [("folk", .int (f : Nat)), ("houses", vh), ("kept_folk", .ref a1), ("kept_houses", .ref a2), ("kept_half", .ref a3)]) x1.symm
  have d28 := d27.off (o' := .ins A.RawWeb dx [("folk", .int (f : Nat)), ("houses", vh), ("kept_folk", .ref a1), ("kept_houses", .ref a2), ("kept_half", .ref a3)]) x2.symm
  have d38 := d3.off (o' := .ins A.RawWeb dx [("folk", .int (f : Nat)), ("houses", vh), ("kept_folk", .ref a1), ("kept_houses", .ref a2), ("kept_half", .ref a3)]) x3.symm
  -- the houses
  refine s_for hs (fun h => is K (encHs h)) g8.s (ei_tup (ev_var rfl hh)) fun N4 H4 g9 => ?_
  have c9 := c8.go g9
  have d19 := d18.go g9
  have d29 := d28.go g9
  have d39 := d38.go g9
  have g10 := g8.trans g9
  have vh4 : is K (.tuple (hs.map encHs)) vh N4 := (is K _).st _ _ _ g9.n hh
  clear g1 g2 g3 g4 g5 g6 g7 g8 c1 c2 c3 c4 c5 c6 c7 c8 d1 d14 d15 d16 d17 d18 d2 d26 d27 d28 d3 d38 g9
  obtain ⟨FS, hFS⟩ : ∃ FS : List (Str × V), FS = ([("folk", .int (f : Nat)), ("houses", vh), ("kept_folk", .ref a1), ("kept_houses", .ref a2), ("kept_half", .ref a3)] : List (Str × V)) := ⟨_, rfl⟩
  rw [← hFS] at c9
  have l1 : FS.lookup (Str.ofString "kept_folk") = some (V.ref a1) := by
    rw [hFS] <;> rfl
  have l2 : FS.lookup (Str.ofString "kept_houses") = some (V.ref a2) := by
    rw [hFS] <;> rfl
  have l3 : FS.lookup (Str.ofString "kept_half") = some (V.ref a3) := by
    rw [hFS] <;> rfl
  refine ⟨fun i σ H5 => ∃ a b c d e N5 w1 w2 w3 khs, σ = [some (.ref x), some (.int (f : Nat)), some vh, a, b, c, d, e, none] ∧ Go N H0 N5 H5 ∧ Ex N4 N5 ∧ Cl H0 N5 H5 x (.ins A.RawWeb dx FS) ∧ Cl H0 N5 H5 a1 (.lst w1) ∧ Cl H0 N5 H5 a2 (.lst w2) ∧ Cl H0 N5 H5 a3 (.lst w3) ∧
    DpAll K N5 w1 ((hs.take i).map fun h => .list ((perM f h).map .int)) ∧ DpAll K N5 w2 (khs.map fun ps => .list (ps.map pairI)) ∧ DpAll K N5 w3 ((hs.take i).map fun h => .int (((h.length : Int) + 1) / 2)) ∧ Paired Kh khs (hs.take i),
    ⟨none, none, none, none, none, N4, [], [], [], [], rfl, g10, Ex.refl _, c9, d19, d29, d39, .nil, .nil, .nil, .nil⟩, ?_, ?_, ?_⟩
  · rintro i σ H5 ⟨a, b, c, d, e, N5, w1, w2, w3, khs, _, g5, e5, _⟩
    exact e5.trans g5.s
  · rintro i h v σ H5 hih fv ⟨a, b, c, d, e, N5, w1, w2, w3, khs, rfl, g5, e5, cx, c1, c2, c3, d1, d2, d3, pk⟩
    have hm := List.mem_of_getElem? hih
    obtain ⟨hz1, hi1⟩ := hi h hm
    have fv5 := (is K _).st _ _ _ e5 fv
    -- persons
    refine q_new g5.s (en_lc (K := K) (vs := [8]) (List.range f) _ (fun _ => true) (fun _ => PyData.int 0) (ei_rng1 (K := K) (n := (f : Nat)) (ea_cons (ev_var rfl (Dp.int _)) ea_nil) (by omega) (by omega)) (by rw [List.length_range]; omega) fun i hi v M e fv => ⟨_, eg_name, rfl, et_yes, fun _ => ev_int⟩) fun pp ps N6 H6 g6 hpp dps => ?_
    have eps : ps = (perM f []).map .int := by
      have : ((List.range f).filter fun _ => true).map (fun _ => PyData.int 0) = (perM f []).map PyData.int := by
        unfold perM
        rw [List.filter_eq_self.mpr (fun _ _ => rfl), List.map_map]
        rfl
      rw [this] at dps
      exact ints_dpAll dps
    subst eps
    obtain ⟨g7, cp⟩ := Cl.mk' (o := .lst ((perM f []).map .int)) (g5.trans g6) hpp
    have xp : x ≠ pp := ne_of_none (cx.go g6).h hpp
    have p1 : a1 ≠ pp := ne_of_none (c1.go g6).h hpp
    have p2 : a2 ≠ pp := ne_of_none (c2.go g6).h hpp
    have p3 : a3 ≠ pp := ne_of_none (c3.go g6).h hpp
    have cx7 := (cx.go g6).off (o' := .lst ((perM f []).map .int)) xp
    have c17 := (c1.go g6).off (o' := .lst ((perM f []).map .int)) p1
    have c27 := (c2.go g6).off (o' := .lst ((perM f []).map .int)) p2
    have c37 := (c3.go g6).off (o' := .lst ((perM f []).map .int)) p3
    -- owners
    refine fun dd hdd => ?_
    obtain ⟨g8, cd⟩ := Cl.mk' (o := .dK ([].map entI)) g7 hdd
    have xd : x ≠ dd := ne_of_none cx7.h hdd
    have q1 : a1 ≠ dd := ne_of_none c17.h hdd
    have q2 : a2 ≠ dd := ne_of_none c27.h hdd
    have q3 : a3 ≠ dd := ne_of_none c37.h hdd
    have pd : pp ≠ dd := ne_of_none cp.h hdd
    have cx8 := cx7.off (o' := .dK ([].map entI)) xd
    have c18 := c17.off (o' := .dK ([].map entI)) q1
    have c28 := c27.off (o' := .dK ([].map entI)) q2
    have c38 := c37.off (o' := .dK ([].map entI)) q3
    have cp8 := cp.off (o' := .dK ([].map entI)) pd
    refine q_for h (fun y => is K (encHo y)) g8.s (ei_tup (ev_var rfl ((is K _).st _ _ _ g6.n fv5))) fun N9 H9 g9 => ?_
    refine ⟨fun j σ H10 => ∃ d e N10, σ = [some (.ref x), some (.int (f : Nat)), some vh, some v, some (.ref pp), some (.ref dd), d, e, none] ∧ Go N H0 N10 H10 ∧ Ex N9 N10 ∧ Cl H0 N10 H10 x (.ins A.RawWeb dx FS) ∧ Cl H0 N10 H10 a1 (.lst w1) ∧ Cl H0 N10 H10 a2 (.lst w2) ∧ Cl H0 N10 H10 a3 (.lst w3) ∧
      Cl H0 N10 H10 pp (.lst ((perM f (h.take j)).map .int)) ∧ Cl H0 N10 H10 dd (.dK ((own (h.take j)).map entI)),
      ⟨d, e, N9, rfl, g8.trans g9, Ex.refl _, cx8.go g9, c18.go g9, c28.go g9, c38.go g9, cp8.go g9, cd.go g9⟩, ?_, ?_, ?_⟩
    · rintro j σ H10 ⟨_, _, N10, _, g10, e10, _⟩
      exact e10.trans g10.s
    · rintro j y vy σ H10 hj fy ⟨d, e, N10, rfl, g10, e10, cx, c1, c2, c3, cp, cd⟩
      have fy10 := (is K _).st _ _ _ e10 fy
      have hmy := List.mem_of_getElem? hj
      obtain ⟨t, xs, rfl, hs, hd⟩ := is_tup fy10
      obtain ⟨bb, n⟩ := y
      cases hd with
      | cons hd1 hd2 =>
      cases hd1
      cases hd2 with
      | cons hd2 hd3 =>
      cases hd2
      cases hd3
      refine eg_tup2 hs H10 g10.s _ fun N11 H11 g11 => ?_
      have g12 := g10.trans g11
      have cx' := cx.go g11
      have c1' := c1.go g11
      have c2' := c2.go g11
      have c3' := c3.go g11
      have cp' := cp.go g11
      have cd' := cd.go g11
      cases bb with
      | false =>
        have hn : n < f := hi1 _ hmy rfl
        refine s_if (b := true) g12.s (et_test ((ev_eqS (K := K) (ev_var rfl (Dp.str (Str.ofString "f"))) ev_str).cast rfl)) (fun _ N13 H13 g13 => ?_) (fun z => nomatch z)
        have g14 := g12.trans g13
        have hat : atI ((perM f (h.take j)).map V.int) (n : Nat) = some (.int (cntF (h.take j) n : Nat)) := by
          refine atI_nat ?_
          rw [List.getElem?_map, perM_get f _ n hn] <;> rfl
        refine ⟨_, rfl, _, rfl, pp, _, (n : Nat), _, rfl, rfl, .inl (.inl (cp'.go g13).h), hat, _, _, rfl, rfl, pp, _, (n : Nat), n, rfl, rfl, (cp'.go g13).h, ?_, ?_⟩
        · rw [List.length_map, perM_len]
          unfold ixN
          rw [if_pos (by omega), if_pos (by omega), Int.toNat_natCast]
        · refine ⟨_, _, N13, rfl, g14.put (cp'.go g13), e10.trans (g11.n.trans g13.n), (cx'.go g13).off xp, (c1'.go g13).off p1, (c2'.go g13).off p2, (c3'.go g13).off p3, ?_, ?_⟩
          · rw [take_next hj, perM_set f _ n hn, List.map_set]
            exact (cp'.go g13).put
          · rw [take_next hj, own_app, if_neg Bool.false_ne_true]
            exact (cd'.go g13).off pd.symm
      | true =>
        refine s_if (b := false) g12.s (et_test ((ev_eqS (K := K) (ev_var rfl (Dp.str (Str.ofString "h"))) ev_str).cast rfl)) (fun z => nomatch z) (fun _ N13 H13 g13 => ?_)
        have g14 := g12.trans g13
        have hd := (cd'.go g13).h
        have hlen := (own_inv (h.take j)).2
        have hlj : (h.take j).length ≤ h.length := by
          rw [List.length_take]
          exact Nat.min_le_right _ _
        refine ⟨_, rfl, dd, rfl, .inl ⟨_, .inl hd⟩, _, rfl, _, DGet.k (k := Sum.inl (n : Int)) hd, _, _, valV_ent _ _, rfl, _, rfl, _, rfl, dd, _, rfl, DPut.k (k := Sum.inl (n : Int)) hd (by rw [List.length_map]; exact sz_lt (by omega)), ?_⟩
        rw [putK_ent (own_inv (h.take j)).1 rfl]
        refine ⟨_, _, N13, rfl, g14.put (cd'.go g13), e10.trans (g11.n.trans g13.n), (cx'.go g13).off xd, (c1'.go g13).off q1, (c2'.go g13).off q2, (c3'.go g13).off q3, ?_, ?_⟩
        · rw [take_next hj, perM_same]
          exact (cp'.go g13).off pd
        · rw [take_next hj, own_app, if_pos rfl]
          exact (cd'.go g13).put
    · rintro σ H10 ⟨d, e, N10, rfl, g10, e10, cx, c1, c2, c3, cp, cd⟩
      rw [List.take_length] at cp cd
      have e510 : Ex N5 N10 := g6.n.trans (g9.n.trans e10)
      have hit : (hs.take i).length ≤ 1000 := Nat.le_trans (List.length_take_le _ _) (Nat.le_trans (Nat.le_of_lt (List.getElem?_eq_some_iff.mp hih).1) hz)
      have hl1 : w1.length ≤ 1000 := by
        rw [dpAll_len d1, List.length_map]
        exact hit
      have hl2 : w2.length ≤ 1000 := by
        rw [dpAll_len d2, List.length_map, Paired.length pk]
        exact hit
      have hl3 : w3.length ≤ 1000 := by
        rw [dpAll_len d3, List.length_map]
        exact hit
      have gk := g10.know cp
      have cxk := cx.up (u := .lst ((perM f h).map .int)) xp
      have c1k := c1.up (u := .lst ((perM f h).map .int)) p1
      have c2k := c2.up (u := .lst ((perM f h).map .int)) p2
      have c3k := c3.up (u := .lst ((perM f h).map .int)) p3
      have cdk := cd.up (u := .lst ((perM f h).map .int)) pd.symm
      have ek : Ex N10 (upd N10 pp (.lst ((perM f h).map .int))) := Ex.new cp.n
      refine ⟨_, rfl, x, _, dx, _, .ref a1, rfl, cxk.h, T.cl, T.a_kept_folk, l1, .inl ⟨rfl, w1, .inl (.inl c1k.h)⟩, _, rfl, a1, w1, _, rfl, rfl, c1k.h, sz_lt (by omega), ?_⟩
      have ga := gk.put c1k (o' := .lst (w1 ++ [.ref pp]))
      have c1a := c1k.put (o' := .lst (w1 ++ [.ref pp]))
      have cxa := cxk.off (o' := .lst (w1 ++ [.ref pp])) x1
      have c2a := c2k.off (o' := .lst (w1 ++ [.ref pp])) n12.symm
      have c3a := c3k.off (o' := .lst (w1 ++ [.ref pp])) n13.symm
      have cda := cdk.off (o' := .lst (w1 ++ [.ref pp])) q1.symm
      refine ⟨_, rfl, x, _, dx, _, .ref a2, rfl, cxa.h, T.cl, T.a_kept_houses, l2, .inl ⟨rfl, w2, .inl (.inl c2a.h)⟩, ?_⟩
      refine ⟨_, rfl, .inr (.inr (.inl ⟨rfl, .inl ⟨_, cda.h⟩⟩)), dd, _, rfl, rfl, cda.h, fun pv hpv => ?_⟩
      obtain ⟨gb, _⟩ := Cl.mk' (o := itemsO pv dd) ga hpv
      have cxb := cxa.off (o' := itemsO pv dd) (ne_of_none cxa.h hpv)
      have c1b := c1a.off (o' := itemsO pv dd) (ne_of_none c1a.h hpv)
      have c2b := c2a.off (o' := itemsO pv dd) (ne_of_none c2a.h hpv)
      have c3b := c3a.off (o' := itemsO pv dd) (ne_of_none c3a.h hpv)
      have cdb := cda.off (o' := itemsO pv dd) (ne_of_none cda.h hpv)
      refine ⟨pv, dd, own h, rfl, upd_same, cdb.h, Nat.le_trans (own_inv h).2 hz1, fun H' l xs qs e' hl hl' pm pr => ?_⟩
      have gc := Go.all gb.s e'
      generalize hHb : upd (upd H10 a1 (.lst (w1 ++ [.ref pp]))) pv (itemsO pv dd) = Hb at gb gc cxb c1b c2b c3b cdb e' hl pr
      have hN' : ∀ t, Hb t = none → (fun a => match Hb a with | none => H' a | some _ => (upd N10 pp (.lst ((perM f h).map .int))) a) t = H' t := fun t ht => by
        show (match Hb t with | none => H' t | some _ => _) = H' t
        rw [ht]
      generalize hN : (fun a => match Hb a with | none => H' a | some _ => (upd N10 pp (.lst ((perM f h).map .int))) a) = N12 at gc hN'
      have gbc := gb.trans gc
      have cxc := cxb.go gc
      have c1c := c1b.go gc
      have c2c := c2b.go gc
      have c3c := c3b.go gc
      have fl : is K (.list (qs.map pairI)) (.ref l) N12 := mk_lst ((hN' l hl).trans hl') (dp_pairs hN' pr)
      refine ⟨a2, w2, .ref l, rfl, rfl, c2c.h, sz_lt (by omega), ?_⟩
      have gd := gbc.put c2c (o' := .lst (w2 ++ [.ref l]))
      have cxd := cxc.off (o' := .lst (w2 ++ [.ref l])) x2
      have c1d := c1c.off (o' := .lst (w2 ++ [.ref l])) n12
      have c2d := c2c.put (o' := .lst (w2 ++ [.ref l]))
      have c3d := c3c.off (o' := .lst (w2 ++ [.ref l])) n23.symm
      have e512 : Ex N5 N12 := e510.trans (ek.trans gc.n)
      refine ⟨_, rfl, x, _, dx, _, .ref a3, rfl, cxd.h, T.cl, T.a_kept_half, l3, .inl ⟨rfl, w3, .inl (.inl c3d.h)⟩, ?_⟩
      refine (ev_fdiv (ev_add (ev_lenT (ev_var rfl ((is K _).st _ _ _ e512 fv5))) ev_int) ev_int ⟨by decide, by decide⟩) _ gd.s _ fun y N14 H14 g14 fy => ?_
      have ey := is_int fy
      subst ey
      have cxe := cxd.go g14
      have c1e := c1d.go g14
      have c2e := c2d.go g14
      have c3e := c3d.go g14
      have gde := gd.trans g14
      refine ⟨a3, w3, _, rfl, rfl, c3e.h, sz_lt (by omega), ?_⟩
      have e514 : Ex N5 N14 := e512.trans g14.n
      refine ⟨_, _, _, _, _, N14, _, _, _, khs ++ [qs], rfl, gde.put c3e, e5.trans e514, cxe.off x3, c1e.off n13, c2e.off n23, c3e.put, ?_, ?_, ?_, ?_⟩
      · rw [take_next hih, List.map_append]
        exact dpAll_app (dpAll_ex e514 _ _ d1) (dpAll_one (mk_lst (g14.n _ _ (gc.n _ _ upd_same)) (dpAll_ints _)))
      · rw [List.map_append]
        exact dpAll_app (dpAll_ex e514 _ _ d2) (dpAll_one ((is K _).st _ _ _ g14.n fl))
      · rw [take_next hih, List.map_append]
        refine dpAll_app (dpAll_ex e514 _ _ d3) (dpAll_one ?_)
        rw [List.length_map]
        exact .int _
      · rw [take_next hih]
        exact paired_app pk (.cons (Kh.of pm) .nil)
  · rintro σ H5 ⟨a, b, c, d, e, N5, w1, w2, w3, khs, rfl, g5, e5, cx, c1, c2, c3, d1, d2, d3, pk⟩
    rw [List.take_length] at d1 d3 pk
    have k1 := g5.know c1
    have c2' := c2.up (u := .lst w1) n12.symm
    have c3' := c3.up (u := .lst w1) n13.symm
    have cx' := cx.up (u := .lst w1) x1
    have k2 := k1.know c2'
    have c3'' := c3'.up (u := .lst w2) n23.symm
    have cx'' := cx'.up (u := .lst w2) x2
    have k3 := k2.know c3''
    have cx3 := cx''.up (u := .lst w3) x3
    have k4 := k3.know cx3
    have e1 : Ex N5 (upd N5 a1 (.lst w1)) := Ex.new c1.n
    have e2 : Ex (upd N5 a1 (.lst w1)) (upd (upd N5 a1 (.lst w1)) a2 (.lst w2)) := Ex.new c2'.n
    have e3 : Ex (upd (upd N5 a1 (.lst w1)) a2 (.lst w2)) (upd (upd (upd N5 a1 (.lst w1)) a2 (.lst w2)) a3 (.lst w3)) := Ex.new c3''.n
    have e4 : Ex (upd (upd (upd N5 a1 (.lst w1)) a2 (.lst w2)) a3 (.lst w3)) (upd (upd (upd (upd N5 a1 (.lst w1)) a2 (.lst w2)) a3 (.lst w3)) x (.ins A.RawWeb dx FS)) := Ex.new cx3.n
    have e14 := e1.trans (e2.trans (e3.trans e4))
    refine q _ _ k4 ⟨x, dx, vh, .ref a1, .ref a2, .ref a3, khs, rfl, ?_, (is K _).st _ _ _ (e5.trans e14) vh4, ?_, ?_, ?_, pk⟩
    · rw [upd_same, hFS]
    · exact mk_lst (e4 _ _ (e3 _ _ (e2 _ _ upd_same))) (dpAll_ex e14 _ _ d1)
    · exact mk_lst (e4 _ _ (e3 _ _ upd_same)) (dpAll_ex e14 _ _ d2)
    · exact mk_lst (e4 _ _ upd_same) (dpAll_ex e14 _ _ d3)
end
end Rk
end PartRkF6

section PartRkF7
set_option Elab.async false
set_option linter.all false
set_option maxRecDepth 100000
set_option maxHeartbeats 4000000
namespace Rk
open PySem PySem.Spec PyProof.Rows L2 RkS DX
section
variable {P : Program} {w : World} {K : PySem.W.Frag} {mg : Str → Option Value} {base : Heap} {A : Ad} {B : Fd}
theorem ok_init (T : Txt K mg A B) : FnOk P w K mg base CX0 2 A.RawWeb_init B.RawWeb_init ["self", "folk", "houses"] (sp_keep K A.RawWeb) := by
  have G_keep := ok_keep (P := P) (w := w) (base := base) T
  refine T.F_RawWeb_init.ok sc_RawWeb_init (fun _ _ _ _ h => ?_) (fun cdv A' outer s H vs Q E hr h => ?_)
  · obtain ⟨_, _, _, _, _, _, _, rfl, _⟩ := h
    rfl
  obtain ⟨N, H0, x, dx, f, hs, vh, rfl, g, c, hh, hp, q⟩ := h
  refine ⟨_, (pss_one (ps_expr (pe_meth (pv 0) T.cl T.m_keep G_keep (hr.mono (by decide)) T.b_Web_keep .nil pass0 (pa_cons (pv 1) (pa_cons (pv 2) pa_nil))))), ?_⟩
  exact ⟨_, rfl, x, dx, [], rfl, c.h, rfl, _, rfl, _, rfl, N, H0, x, dx, f, hs, vh, rfl, g, c, hh, hp, fun N' H' g' hw => q N' H' g' hw⟩
/-- the items are in order -/
def srt3 (h : List Ho) : Prop := h ≠ [] ∧ h.Pairwise fun a b => leHo a b = true
theorem alike_ho (a b : Ho) : PySem.W.alike (encHo a) (encHo b) = true := (le_ho_ok a b).1
theorem dataLe_ho : PySem.W.dataLe false encHo = leHo := by
  rw [PySem.W.dataLe_eq]
  rfl
theorem ev_sortTD {σ : L2.St} {N : Hp} {te : TE} {h : List Ho} (hs : h.Pairwise fun a b => leHo a b = true) (x : EvP te σ N (is K (encHs h))) : EvP (tCB (rSortTD K encHo) (tCons te tNil)) σ N (is K (.list (h.map encHo))) :=
  ev_cb1 x fun v M e fv H eh Q q => by
    obtain ⟨a, xs, rfl, hs', hd⟩ := is_tup fv
    refine ⟨a, xs, h, M, rfl, sqT_ex eh hs', eh, hd, PySem.W.AllAlike.of alike_ho, PySem.W.Sortable.tuples fun b => ⟨_, _, rfl⟩, fun p ys hp hy => ?_⟩
    rw [dataLe_ho, List.mergeSort_of_pairwise hs] at hy
    exact q _ _ _ (Go.new eh hp) (mk_lst upd_same (dpAll_ex (Ex.new (eh.back hp)) _ _ hy))
theorem ev_tupOf {σ : L2.St} {N : Hp} {te : TE} {ds : List PyData} (x : EvP te σ N (is K (.list ds))) : EvP (tCB (rTupOf K) (tCons te tNil)) σ N (is K (.tuple ds)) :=
  ev_cb1 x fun v M e fv H eh Q q => by
    obtain ⟨a, xs, rfl, hs', hd⟩ := is_lst fv
    exact ⟨a, xs, rfl, .inl ⟨sqL_ex eh hs', fun l hl => q _ _ _ (Go.new eh hl) (mk_tup upd_same (dpAll_ex (Ex.new (eh.back hl)) _ _ hd))⟩⟩
structure WebIn (f : Nat) (hs : List (List Ho)) : Prop where
  f8 : f ≤ 8
  few : hs.length ≤ 1000
  srt : ∀ h ∈ hs, h.Pairwise fun a b => leHo a b = true
  ok : ∀ h ∈ hs, h.length ≤ 1000 ∧ ∀ y ∈ h, y.1 = false → y.2 < f
abbrev sp_raw (K : PySem.W.Frag) (C : Addr) : Sp := FnP (T := Nat × List (List Ho)) (fun x => [is K (.int (x.1 : Nat)), is K (.list (x.2.map encHs))]) (fun x => WebIn x.1 x.2) (fun x => WebP K C x.1 x.2)
theorem ok_raw_web (T : Txt K mg A B) : FnOk P w K mg base CX0 4 A.raw_web B.raw_web ["folk", "houses"] (sp_raw K A.RawWeb) := by
  have G_init := ok_init (P := P) (w := w) (base := base) T
  refine T.F_raw_web.ok sc_raw_web (FnP.len fun _ => rfl) (fun cdv A' outer s H vs Q E hr h => ?_)
  obtain ⟨⟨f, hs⟩, N, hp, e, hv, q⟩ := h
  replace hp : WebIn f hs := hp
  match vs, hv with
  | [v, v1], hv =>
    refine ⟨_, (pss_one (ps_ret (pe_make T.mkR G_init (hr.mono (by decide)) (by rfl) T.g_RawWeb T.b_RawWeb_init .nil pass0 (pa_cons (pv 0) (pa_cons (pe_callTy (cr_tupOf (K := K)) (by rfl) T.n_tuple (by decide +kernel) (pa_cons (pe_lc (own := [("house", 2)]) (g := gName 2) (tt := tYes) (by rfl) sc_raw_web.nd (pi_listK (K := K) (pv 1)) (blkOk_by (own := [("house", 2)]) (N := N_raw_web) (sc := defScope s_raw_web) (by decide +kernel)) (fun _ _ _ _ _ => (pg_name (i := 2) sc_raw_web.nd rfl (by first | exact Or.inl rfl | exact Or.inr rfl))) (fun _ _ _ _ _ => pts_nil) (fun _ _ _ _ _ => (pe_callTy (cr_tupOf (K := K)) (by rfl) T.n_tuple (by decide +kernel) (pa_cons (pe_callB (cr_sortTD (K := K) (enc := encHo) flat_ho dep_ho (hu16 hr)) (by rfl) T.n_sorted (by decide +kernel) (pa_cons (pv 2) pa_nil)) pa_nil)))) pa_nil)) pa_nil))))), ?_⟩
    have ef := is_int hv.1
    subst ef
    refine ⟨_, rfl, ?_⟩
    have hfew := hp.few
    refine ev_tupOf (ev_lc0 hs _ encHs (ei_list (ev_var rfl hv.2.1)) (by omega) fun h hh v M e fv => ⟨_, eg_name, rfl, ev_tupOf (ev_sortTD (hp.srt h hh) (ev_var rfl fv))⟩) H e _ fun vt N1 H1 g1 ft => ?_
    refine fun x dx hx hdx hne => ?_
    have g2 : Go N1 H1 N1 (upd (upd H1 dx (.own x)) x (.ins A.RawWeb dx [])) := (Cl.mk' (Cl.mk' (Go.refl g1.s) hdx).1 (by rw [upd_ne (fun z => hne z.symm)]; exact hx)).1
    refine ⟨N1, H1, x, dx, f, hs, vt, rfl, g2, ⟨hx, g1.s.back hx, upd_same⟩, ft, ⟨hp.f8, hp.few, hp.ok⟩, fun N' H' g' hw => ⟨rfl, q _ N' H' (g1.trans g') hw⟩⟩
end
end Rk
end PartRkF7

section PartRkP2
set_option Elab.async false
set_option linter.all false
set_option maxRecDepth 100000
set_option maxHeartbeats 4000000
/-! who carries what, as it is reckoned -/
namespace Rk
open PySem PySem.Spec PyProof.Rows L2 RkS DX
def sharesM (h : List Ho) (lot fd : List Int) : Int := (lot.map fun p => (cntF h p.toNat : Int)).sum + (cntH (fun o => decide (o ∈ fd)) h : Int)
def halfM (h : List Ho) (lot fd : List Int) : Bool := decide (((h.length : Int) + 1) / 2 ≤ sharesM h lot fd)
section
variable (T : List Int → Nat → Bool)
def one (fd : List Int) (i : Nat) : List Int := if !decide ((i : Int) ∈ fd) && T fd i then fd ++ [(i : Int)] else fd
def sw (k : Nat) (fd : List Int) : List Int := (List.range k).foldl (one T) fd
def pl (k : Nat) : Nat → List Int → List Int
  | 0, fd => fd
  | n + 1, fd => if (sw T k fd).length ≤ fd.length then sw T k fd else pl k n (sw T k fd)
/-- those who are not in it -/
def free (k : Nat) (fd : List Int) : Nat := ((List.range k).filter fun (i : Nat) => !decide ((i : Int) ∈ fd)).length
theorem filter_lt {α : Type} {p q : α → Bool} : ∀ {l : List α}, (∀ x, p x = true → q x = true) → (∃ x ∈ l, q x = true ∧ p x = false) → (l.filter p).length < (l.filter q).length
  | [], _, h => by
    obtain ⟨x, hx, _⟩ := h
    cases hx
  | a :: l, hpq, h => by
    have le : (l.filter p).length ≤ (l.filter q).length := by
      clear h
      induction l with
      | nil => exact Nat.le_refl _
      | cons b l ih =>
        rw [List.filter_cons, List.filter_cons]
        by_cases hp : p b = true
        · rw [if_pos hp, if_pos (hpq b hp), List.length_cons, List.length_cons]
          omega
        · rw [if_neg hp]
          split
          · rw [List.length_cons]
            omega
          · exact ih
    rw [List.filter_cons, List.filter_cons]
    obtain ⟨x, hx, h1, h2⟩ := h
    rcases List.mem_cons.mp hx with e | hx
    · subst e
      rw [if_pos h1, if_neg (by rw [h2]; decide), List.length_cons]
      omega
    · have ih := filter_lt hpq ⟨x, hx, h1, h2⟩
      by_cases hp : p a = true
      · rw [if_pos hp, if_pos (hpq a hp), List.length_cons, List.length_cons]
        omega
      · rw [if_neg hp]
        split
        · rw [List.length_cons]
          omega
        · exact ih
/-- from fd0 to fd: nothing left, and what is new was not there -/
structure Grow (k : Nat) (fd0 fd : List Int) : Prop where
  le : fd0.length ≤ fd.length
  sub : ∀ x ∈ fd0, x ∈ fd
  new : fd0.length < fd.length → ∃ i, i < k ∧ (i : Int) ∉ fd0 ∧ (i : Int) ∈ fd
theorem Grow.refl (k : Nat) (fd : List Int) : Grow k fd fd := ⟨Nat.le_refl _, fun _ h => h, fun h => absurd h (Nat.lt_irrefl _)⟩
theorem Grow.step {k : Nat} {fd0 fd : List Int} (g : Grow k fd0 fd) {i : Nat} (hi : i < k) : Grow k fd0 (one T fd i) := by
  unfold one
  split
  · rename_i h
    rw [Bool.and_eq_true, Bool.not_eq_true', decide_eq_false_iff_not] at h
    exact ⟨by rw [List.length_append]; exact Nat.le_add_right_of_le g.le, fun x hx => List.mem_append_left _ (g.sub x hx), fun _ => ⟨i, hi, fun z => h.1 (g.sub _ z), List.mem_append_right _ List.mem_cons_self⟩⟩
  · exact g
theorem Grow.fold {k : Nat} {fd0 : List Int} : ∀ (l : List Nat) (fd : List Int), (∀ i ∈ l, i < k) → Grow k fd0 fd → Grow k fd0 (l.foldl (one T) fd)
  | [], _, _, g => g
  | i :: l, fd, h, g => Grow.fold l (one T fd i) (fun j hj => h j (List.mem_cons_of_mem _ hj)) (g.step T (h i List.mem_cons_self))
theorem Grow.free {k : Nat} {fd0 fd : List Int} (g : Grow k fd0 fd) (h : fd0.length < fd.length) : free k fd < free k fd0 := by
  obtain ⟨i, h1, h2, h3⟩ := g.new h
  unfold Rk.free
  refine filter_lt (fun x hx => ?_) ⟨i, List.mem_range.mpr h1, ?_, ?_⟩
  · rw [Bool.not_eq_true', decide_eq_false_iff_not] at hx ⊢
    exact fun z => hx (g.sub _ z)
  · rw [Bool.not_eq_true', decide_eq_false_iff_not]
    exact h2
  · rw [Bool.not_eq_false', decide_eq_true_eq]
    exact h3
theorem sw_grow (k : Nat) (fd : List Int) : Grow k fd (sw T k fd) := Grow.fold T _ _ (fun i hi => List.mem_range.mp hi) (Grow.refl k fd)
theorem free_nil (k : Nat) : free k [] = k := by
  unfold free
  rw [List.filter_eq_self.mpr (fun x _ => by simp), List.length_range]
end
/-- the keys of a dict -/
def Keys (fd : List Int) (kvs : List (Key × V)) : Prop := kvs.map (·.1) = fd.map (Sum.inl : Int → Key)
theorem keys_is {fd : List Int} {kvs : List (Key × V)} (h : Keys fd kvs) (n : Int) : (valV kvs (Sum.inl n : Key)).isSome = decide (n ∈ fd) := by
  rw [← valV_any]
  unfold Keys at h
  induction kvs generalizing fd with
  | nil =>
    cases fd with
    | nil => rfl
    | cons _ _ => cases h
  | cons a r ih =>
    cases fd with
    | nil => cases h
    | cons b l =>
      rw [List.map_cons, List.map_cons] at h
      injection h with h1 h2
      rw [List.any_cons, ih h2, h1]
      by_cases e : n = b
      · subst e
        simp
      · have : ¬ (Sum.inl b : Key) = Sum.inl n := fun z => e (Sum.inl.inj z).symm
        rw [decide_eq_false this, Bool.false_or]
        simp [e]
theorem keys_put {fd : List Int} {kvs : List (Key × V)} (h : Keys fd kvs) {n : Int} (hn : n ∉ fd) (v : V) : Keys (fd ++ [n]) (putK kvs (Sum.inl n : Key) v) := by
  have hk := keys_is h n
  rw [← valV_any, decide_eq_false hn] at hk
  unfold putK
  rw [if_neg (by rw [hk]; decide)]
  unfold Keys at h ⊢
  rw [List.map_append, h, List.map_append] <;> rfl
theorem keys_len {fd : List Int} {kvs : List (Key × V)} (h : Keys fd kvs) : kvs.length = fd.length := by
  have := congrArg List.length h
  rw [List.length_map, List.length_map] at this
  exact this
def DictP (fd : List Int) : Pr where
  p v N := ∃ a kvs, v = V.ref a ∧ N a = some (.dK kvs) ∧ Keys fd kvs
  st := fun _ _ _ e ⟨a, kvs, h1, h2, h3⟩ => ⟨a, kvs, h1, e _ _ h2, h3⟩
end Rk
end PartRkP2

section PartRkF8
set_option Elab.async false
set_option linter.all false
set_option maxRecDepth 100000
set_option maxHeartbeats 200000
namespace Rk
open PySem PySem.Spec PyProof.Rows L2 RkS DX
section
variable {P : Program} {w : World} {K : PySem.W.Frag} {mg : Str → Option Value} {base : Heap} {A : Ad} {B : Fd}
variable {σ : L2.St} {N : Hp} {ta tb tc te ty td : TE}
theorem ev_fldV {C x dx : Addr} {fs : List (Str × V)} {f : Str} {i : Nat} {v : V} {g : Pr} (hσ : σ[i]? = some (some (.ref x))) (hN : N x = some (.ins C dx fs)) (cl : Cls K C) (na : NoAttr K C f) (hl : fs.lookup f = some v) (fv : g v N) : EvP (tFld K (tVar i) f) σ N g :=
  fun H e Q q => ⟨_, hσ, x, _, dx, fs, v, rfl, e _ _ hN, cl, na, hl, q v N H (Go.refl e) fv⟩
theorem ev_din {fd : List Int} {n : Int} (h1 : EvP ty σ N (is K (.int n))) (h2 : EvP td σ N (DictP fd)) : EvP (tDIn ty td) σ N (is K (.bool (decide (n ∈ fd)))) := fun H e Q q =>
  h1 H e _ fun y N1 H1 g1 fy => (h2.mono g1.n) H1 g1.s _ fun x N2 H2 g2 fx => by
    have ey := is_int fy
    subst ey
    obtain ⟨a, kvs, rfl, hN, hk⟩ := fx
    refine ⟨a, _, rfl, DGet.k (k := Sum.inl n) (g2.s _ _ hN), q _ N2 H2 (g1.trans g2) ?_⟩
    rw [keys_is hk]
    exact .bl _
theorem ev_dni {fd : List Int} {n : Int} (h1 : EvP ty σ N (is K (.int n))) (h2 : EvP td σ N (DictP fd)) : EvP (tDNotIn ty td) σ N (is K (.bool (!decide (n ∈ fd)))) := fun H e Q q =>
  h1 H e _ fun y N1 H1 g1 fy => (h2.mono g1.n) H1 g1.s _ fun x N2 H2 g2 fx => by
    have ey := is_int fy
    subst ey
    obtain ⟨a, kvs, rfl, hN, hk⟩ := fx
    refine ⟨a, _, rfl, DGet.k (k := Sum.inl n) (g2.s _ _ hN), q _ N2 H2 (g1.trans g2) ?_⟩
    rw [keys_is hk]
    exact .bl _
theorem atI_map {α : Type} {xs : List α} {enc : α → PyData} {i : Nat} {x : α} (h : xs[i]? = some x) : atI (xs.map enc) (i : Nat) = some (enc x) := by
  refine atI_nat ?_
  rw [List.getElem?_map, h] <;> rfl
theorem hold2 {a b : Pr} : ∀ {vs : List V}, Hold vs [a, b] N → ∃ v v1, vs = [v, v1] ∧ a v N ∧ b v1 N
  | [v, v1], h => ⟨v, v1, rfl, h.1, h.2.1⟩
theorem hold3 {a b c : Pr} : ∀ {vs : List V}, Hold vs [a, b, c] N → ∃ v v1 v2, vs = [v, v1, v2] ∧ a v N ∧ b v1 N ∧ c v2 N
  | [v, v1, v2], h => ⟨v, v1, v2, rfl, h.1, h.2.1, h.2.2.1⟩
theorem hold4 {a b c d : Pr} : ∀ {vs : List V}, Hold vs [a, b, c, d] N → ∃ v v1 v2 v3, vs = [v, v1, v2, v3] ∧ a v N ∧ b v1 N ∧ c v2 N ∧ d v3 N
  | [v, v1, v2, v3], h => ⟨v, v1, v2, v3, rfl, h.1, h.2.1, h.2.2.1, h.2.2.2.1⟩
/-! ### shares_with -/
structure ShIn (f : Nat) (hs : List (List Ho)) (i : Nat) (h : List Ho) (lot : List Int) : Prop where
  hi : hs[i]? = some h
  few : h.length ≤ 1000
  fewl : lot.length ≤ 1000
  ok : ∀ p ∈ lot, 0 ≤ p ∧ p < f
structure ShT where
  f : Nat
  hs : List (List Ho)
  i : Nat
  h : List Ho
  lot : List Int
  fd : List Int
abbrev sp_shares (K : PySem.W.Frag) (C : Addr) : Sp := FnP (T := ShT) (fun x => [WebP K C x.f x.hs, is K (.int (x.i : Nat)), is K (tupI x.lot), DictP x.fd]) (fun x => ShIn x.f x.hs x.i x.h x.lot) (fun x => is K (.int (sharesM x.h x.lot x.fd)))
theorem paired_at {α β : Type} {F : α → β → Prop} : ∀ {xs : List α} {ys : List β}, Paired F xs ys → ∀ {i : Nat} {y : β}, ys[i]? = some y → ∃ x, xs[i]? = some x ∧ F x y
  | _, _, .nil, i, y, h => by simp at h
  | _, _, .cons h t, 0, y, e => by
    have z := Option.some.inj e
    subst z
    exact ⟨_, rfl, h⟩
  | _, _, .cons h t, i + 1, y, e => by
    obtain ⟨x, a, b⟩ := paired_at t (i := i) (y := y) (by simpa using e)
    exact ⟨x, by simpa using a, b⟩
theorem ok_shares_with (T : Txt K mg A B) : FnOk P w K mg base CX0 1 A.shares_with B.shares_with ["web", "house", "lot", "houses"] (sp_shares K A.RawWeb) := by
  refine T.F_shares_with.ok sc_shares_with (FnP.len fun _ => rfl) (fun cdv A' outer s H vs Q E hr h => ?_)
  obtain ⟨⟨f, hs, i, h, lot, fd⟩, N, hp, e, hv, q⟩ := h
  replace hp : ShIn f hs i h lot := hp
  obtain ⟨v, v1, v2, v3, rfl, hw, hv1, hlot, hfd⟩ := hold4 hv
  clear hv
  refine ⟨_, (pss_cons (ps_set (i := 4) sc_shares_with.nd rfl (by first | exact Or.inl rfl | exact Or.inr rfl) (pe_callB (cr_sumK (K := K) rfl) (by rfl) T.n_sum (by decide +kernel) (pa_cons (pe_lc (own := [("person", 5)]) (g := gName 5) (tt := tYes) (by rfl) sc_shares_with.nd (pi_tupK (K := K) (pv 2)) (blkOk_by (own := [("person", 5)]) (N := N_shares_with) (sc := defScope s_shares_with) (by decide +kernel)) (fun _ _ _ _ _ => (pg_name (i := 5) sc_shares_with.nd rfl (by first | exact Or.inl rfl | exact Or.inr rfl))) (fun _ _ _ _ _ => pts_nil) (fun _ _ _ _ _ => (pe_ix (ixL (K := K)) (pe_ix (ixL (K := K)) (pe_fldK (K := K) (pv 0) rfl) (pv 1) (fun _ _ => rfl)) (pv 5) (fun _ _ => rfl)))) pa_nil)))
    (pss_one (ps_ret (pe_op op_add (pv 4) (pe_callB (cr_sumK (K := K) rfl) (by rfl) T.n_sum (by decide +kernel) (pa_cons (pe_lc (own := [("owner", 6), ("shares", 7)]) (g := gTup K 2 (gCons (gName 6) (gCons (gName 7) gNil))) (by rfl) sc_shares_with.nd (pi_listK (K := K) (pe_ix (ixL (K := K)) (pe_fldK (K := K) (pv 0) rfl) (pv 1) (fun _ _ => rfl))) (blkOk_by (own := [("owner", 6), ("shares", 7)]) (N := N_shares_with) (sc := defScope s_shares_with) (by decide +kernel)) (fun _ _ _ _ _ => (pg_tup (by rfl) (pgs_cons (pg_name (i := 6) sc_shares_with.nd rfl (by first | exact Or.inl rfl | exact Or.inr rfl)) (pgs_cons (pg_name (i := 7) sc_shares_with.nd rfl (by first | exact Or.inl rfl | exact Or.inr rfl)) pgs_nil)))) (fun _ _ _ _ _ => pts_one (pt_cmp (pc_din (hu_of hr) (pv 6) (pv 3)))) (fun _ _ _ _ _ => (pv 7))) pa_nil)))))), ?_⟩
  have ei := is_int hv1
  subst ei
  obtain ⟨x, dx, vh, l1, l2, l3, khs, rfl, hN, _, f1, f2, f3, pk⟩ := id hw
  obtain ⟨ps, hps, kh⟩ := paired_at pk hp.hi
  have hf := hp.few
  have hl := hp.fewl
  have hkf := kh.few
  refine q_asg e (ev_sum (ns := lot.map fun p => (cntF h p.toNat : Int)) ((ev_lc0 lot _ (fun p => .int (cntF h p.toNat)) (ei_tup (enc := .int) (ev_var rfl hlot)) (by omega) fun p hpl y M eM fy => ⟨_, eg_name, rfl, ?_⟩).cast ?_)) fun vm N1 H1 g1 fm => ?_
  · have ey := is_int fy
    subst ey
    obtain ⟨p0, p1⟩ := hp.ok p hpl
    have hpn : (p.toNat : Int) = p := Int.toNat_of_nonneg p0
    have hat : atI ((perM f h).map PyData.int) p = some (.int (cntF h p.toNat)) := by
      rw [← hpn]
      exact atI_map (perM_get f h p.toNat (by omega))
    exact ev_ixL (ev_ixL (ev_fldV rfl (eM _ _ hN) T.cl T.a_kept_folk rfl (dp_ex eM _ _ f1)) (ev_var rfl (Dp.int _)) (atI_map hp.hi)) (ev_var rfl (Dp.int _)) hat
  · rw [List.map_map]
    rfl
  · have e1 := g1.n
    refine s_ret g1.s ((ev_add (ev_var rfl fm) (ev_sum (ns := (ps.filter fun q => decide (q.1 ∈ fd)).map (·.2)) ((ev_lc ps _ (fun q => decide (q.1 ∈ fd)) (fun q => .int q.2) (ei_list (enc := pairI) (ev_ixL (ev_fldV rfl (e1 _ _ hN) T.cl T.a_kept_houses rfl (dp_ex e1 _ _ f2)) (ev_var rfl (Dp.int _)) (atI_map hps))) (by omega) fun qq hq y M eM fy => ?_).cast ?_))).cast ?_) fun v' N' H' g fv => q v' N' H' (g1.trans g) fv
    · obtain ⟨t, xs, rfl, hs', hd⟩ := is_tup fy
      cases hd with
      | cons hd1 hd2 =>
      cases hd1
      cases hd2 with
      | cons hd2 hd3 =>
      cases hd2
      cases hd3
      exact ⟨_, eg_tup2 hs', rfl, et_B (K := K) (ev_din (ev_var rfl (Dp.int _)) (ev_var rfl ((DictP fd).st _ _ _ (e1.trans eM) hfd))), fun _ => ev_var rfl (Dp.int _)⟩
    · rw [List.map_map]
      rfl
    · show PyData.int (_ + tot (fun o => decide (o ∈ fd)) ps) = _
      rw [kh.tot]
      rfl
/-! ### has_half -/
abbrev sp_half (K : PySem.W.Frag) (C : Addr) : Sp := FnP (T := ShT) (fun x => [WebP K C x.f x.hs, is K (.int (x.i : Nat)), is K (tupI x.lot), DictP x.fd]) (fun x => ShIn x.f x.hs x.i x.h x.lot) (fun x => is K (.bool (halfM x.h x.lot x.fd)))
theorem ok_has_half (T : Txt K mg A B) : FnOk P w K mg base CX0 2 A.has_half B.has_half ["web", "house", "lot", "houses"] (sp_half K A.RawWeb) := by
  have G_shares_with := ok_shares_with (P := P) (w := w) (base := base) T
  refine T.F_has_half.ok sc_has_half (FnP.len fun _ => rfl) (fun cdv A' outer s H vs Q E hr h => ?_)
  obtain ⟨⟨f, hs, i, h, lot, fd⟩, N, hp, e, hv, q⟩ := h
  replace hp : ShIn f hs i h lot := hp
  obtain ⟨v, v1, v2, v3, rfl, hw, hv1, hlot, hfd⟩ := hold4 hv
  clear hv
  refine ⟨_, (pss_one (ps_ret (pe_cmpR op_ge (pe_call G_shares_with (hr.mono (by decide)) (by rfl) T.g_shares_with T.F_shares_with.kp T.b_shares_with .nil pass0 (pa_cons (pv 0) (pa_cons (pv 1) (pa_cons (pv 2) (pa_cons (pv 3) pa_nil))))) (pe_ix (ixL (K := K)) (pe_fldK (K := K) (pv 0) rfl) (pv 1) (fun _ _ => rfl)) (nomark _)))), ?_⟩
  have ei := is_int hv1
  subst ei
  obtain ⟨x, dx, vh, l1, l2, l3, khs, rfl, hN, _, f1, f2, f3, pk⟩ := id hw
  exact s_ret e (ev_ge (ev_call (⟨f, hs, i, h, lot, fd⟩ : ShT) hp (ea_cons (ev_var rfl hw) (ea_cons (ev_var rfl hv1) (ea_cons (ev_var rfl hlot) (ea_cons (ev_var rfl hfd) ea_nil))))) (ev_ixL (ev_fldV rfl hN T.cl T.a_kept_half rfl f3) (ev_var rfl (Dp.int _)) (atI_map hp.hi))) fun v' N' H' g fv => q v' N' H' g fv
end
end Rk
end PartRkF8

section PartRkF9
set_option Elab.async false
set_option linter.all false
set_option maxRecDepth 100000
set_option maxHeartbeats 400000
namespace Rk
open PySem PySem.Spec PyProof.Rows L2 RkS DX
def GoodF (k : Nat) (fd : List Int) : Prop := fd.length + free k fd ≤ k
theorem GoodF.one {T : List Int → Nat → Bool} {k : Nat} {fd : List Int} (g : GoodF k fd) {i : Nat} (hi : i < k) : GoodF k (one T fd i) := by
  have gr := (Grow.refl k fd).step T hi
  unfold GoodF at g ⊢
  by_cases h : fd.length < (Rk.one T fd i).length
  · have h1 := gr.free h
    have h2 : (Rk.one T fd i).length ≤ fd.length + 1 := by
      unfold Rk.one
      split
      · rw [List.length_append, List.length_singleton]
        omega
      · omega
    omega
  · unfold Rk.one at h ⊢
    split
    · rename_i hc
      rw [if_pos hc, List.length_append, List.length_singleton] at h
      omega
    · exact g
def Tm (hs : List (List Ho)) (lot : List Int) (fd : List Int) (i : Nat) : Bool := halfM (hs.getD i []) lot fd
def carM (hs : List (List Ho)) (lot : List Int) : List Int := pl (Tm hs lot) hs.length (hs.length + 1) []
structure CaIn (f : Nat) (hs : List (List Ho)) (lot : List Int) : Prop where
  fewh : hs.length ≤ 1000
  few : ∀ h ∈ hs, h.length ≤ 1000
  fewl : lot.length ≤ 1000
  ok : ∀ p ∈ lot, 0 ≤ p ∧ p < f
structure CaT where
  f : Nat
  hs : List (List Ho)
  lot : List Int
section
variable {P : Program} {w : World} {K : PySem.W.Frag} {mg : Str → Option Value} {base : Heap} {A : Ad} {B : Fd}
theorem range_foldl_next {α : Type} {f : α → Nat → α} {k j : Nat} {b : α} (h : j < k) : ((List.range k).take (j + 1)).foldl f b = f (((List.range k).take j).foldl f b) j := by
  rw [take_next (List.getElem?_range h), List.foldl_append] <;> rfl
abbrev sp_carried (K : PySem.W.Frag) (C : Addr) : Sp := FnP (T := CaT) (fun x => [WebP K C x.f x.hs, is K (tupI x.lot)]) (fun x => CaIn x.f x.hs x.lot) (fun x => DictP (carM x.hs x.lot))
theorem ok_carried_of (T : Txt K mg A B) : FnOk P w K mg base CX0 3 A.carried_of B.carried_of ["web", "lot"] (sp_carried K A.RawWeb) := by
  have G_has_half := ok_has_half (P := P) (w := w) (base := base) T
  refine T.F_carried_of.ok sc_carried_of (FnP.len fun _ => rfl) (fun cdv A' outer s H vs Q E hr h => ?_)
  obtain ⟨⟨f, hs, lot⟩, N, hp, e, hv, q⟩ := h
  replace hp : CaIn f hs lot := hp
  obtain ⟨v, v1, rfl, hw, hlot⟩ := hold2 hv
  clear hv
  refine ⟨_, (pss_cons (ps_set (i := 2) sc_carried_of.nd rfl (by first | exact Or.inl rfl | exact Or.inr rfl) pe_dnewK)
    (pss_cons (ps_set (i := 3) sc_carried_of.nd rfl (by first | exact Or.inl rfl | exact Or.inr rfl) pe_bl)
    (pss_cons (ps_while PassesOwn.never (pt_val (pv 3)) 
    (pss_cons (ps_set (i := 3) sc_carried_of.nd rfl (by first | exact Or.inl rfl | exact Or.inr rfl) pe_bl)
      (pss_one (ps_for PassesOwn.never (by rfl) (pi_range1 (by rfl) T.n_range (pa_cons (pe_callB (cr_len (K := K)) (by rfl) T.n_len (by decide +kernel) (pa_cons (pe_fldK (K := K) (pv 0) rfl) pa_nil)) pa_nil)) (pg_name (i := 4) sc_carried_of.nd rfl (by first | exact Or.inl rfl | exact Or.inr rfl)) 
      (pss_one (ps_if (PW.pt (pw_and (pt_cmp (pc_dnotin (hu_of hr) (pv 4) (pv 2))) (pw_and1 (pt_val (pe_call G_has_half (hr.mono (by decide)) (by rfl) T.g_has_half T.F_has_half.kp T.b_has_half .nil pass0 (pa_cons (pv 0) (pa_cons (pv 4) (pa_cons (pv 1) (pa_cons (pv 2) pa_nil))))))))) 
        (pss_cons (ps_dput (hu_of hr) (pv 2) (pv 4) (pe_callB call_lenD (by rfl) T.n_len (by decide +kernel) (pa_cons (pv 2) pa_nil)) rfl)
          (pss_one (ps_set (i := 3) sc_carried_of.nd rfl (by first | exact Or.inl rfl | exact Or.inr rfl) pe_bl))) 
        pss_nil))))))
    (pss_one (ps_ret (pv 2)))))), ?_⟩
  have hk := hp.fewh
  refine fun dd hdd => ?_
  obtain ⟨g1, c1⟩ := Cl.mk' (o := .dK []) (Go.refl e) hdd
  refine q_asg (f := is K (.bool true)) g1.s ev_bl fun vg N2 H2 g2 fg => ?_
  have eg := is_bl fg
  subst eg
  have g12 := g1.trans g2
  have c2 := c1.go g2
  obtain ⟨R, hR⟩ : ∃ R, R = carM hs lot := ⟨_, rfl⟩
  refine ⟨fun m σ H5 => ∃ (g : Bool) (fd : List Int) (kvs : List (Key × V)) (a : Option V) (N5 : Hp) (n : Nat), σ = [some v, some v1, some (.ref dd), some (.bl g), a] ∧ Go N H N5 H5 ∧ Ex N2 N5 ∧ Cl H N5 H5 dd (.dK kvs) ∧ Keys fd kvs ∧ GoodF hs.length fd ∧ free hs.length fd ≤ n ∧
    (g = true → pl (Tm hs lot) hs.length (n + 1) fd = R ∧ m = n + 1) ∧ (g = false → fd = R ∧ m = 0), ⟨hs.length + 1, true, [], [], none, N2, hs.length, rfl, g12, Ex.refl _, c2, rfl, ?_, ?_, fun _ => ⟨hR.symm, rfl⟩, fun z => nomatch z⟩, ?_⟩
  · unfold GoodF
    rw [free_nil]
    exact Nat.le_of_eq (Nat.zero_add _)
  · rw [free_nil]
    exact Nat.le_refl _
  rintro m σ H5 ⟨g, fd, kvs, a, N5, n, rfl, g5, e5, c5, k5, gd5, fr5, ht, hf⟩
  refine et_test (K := K) (ev_var rfl (Dp.bl g)) H5 g5.s _ fun N6 H6 g6 => ?_
  have g56 := g5.trans g6
  have c6 := c5.go g6
  cases g with
  | false =>
    rw [if_neg Bool.false_ne_true]
    have gk := g56.know c6
    refine s_ret (f := DictP fd) gk.s (ev_var rfl ⟨dd, kvs, rfl, upd_same, k5⟩) fun v' N' H' g' fv => ?_
    have := (hf rfl).1
    subst this
    rw [hR] at fv
    exact q v' N' H' (gk.trans g') fv
  | true =>
    rw [if_pos rfl]
    obtain ⟨hpl, rfl⟩ := ht rfl
    refine ⟨_, fun σ' H' h => h, ?_⟩
    refine q_asg (f := is K (.bool false)) g56.s ev_bl fun vg N7 H7 g7 fg => ?_
    have eg := is_bl fg
    subst eg
    have g57 := g56.trans g7
    have c7 := c6.go g7
    have hw7 := (WebP K A.RawWeb f hs).st _ _ _ g57.n hw
    obtain ⟨x, dx, vh, l1, l2, l3, khs, ev, hN, fh, _⟩ := id hw7
    have hlen : (hs.map encHs).length = hs.length := List.length_map ..
    refine s_for (List.range hs.length) (fun i => is K (.int (0 + (i : Nat)))) g57.s (ei_rng1 (K := K) (n := (hs.length : Nat)) (ea_cons ((ev_lenT (ev_fldV (by rw [ev]; rfl) hN T.cl T.a_houses rfl fh)).cast (by rw [hlen])) ea_nil) (by omega) (by omega)) fun N8 H8 g8 => ?_
    refine ⟨fun j σ H9 => ∃ (fdj : List Int) (kvs : List (Key × V)) (a : Option V) (N9 : Hp), σ = [some v, some v1, some (.ref dd), some (.bl (decide (fd.length < fdj.length))), a] ∧ fdj = ((List.range hs.length).take j).foldl (one (Tm hs lot)) fd ∧ Go N H N9 H9 ∧ Ex N8 N9 ∧ Cl H N9 H9 dd (.dK kvs) ∧ Keys fdj kvs ∧ GoodF hs.length fdj ∧ fd.length ≤ fdj.length,
      ⟨fd, kvs, a, N8, ?_, rfl, g57.trans g8, Ex.refl _, c7.go g8, k5, gd5, Nat.le_refl _⟩, ?_, ?_, ?_⟩
    · rw [decide_eq_false (Nat.lt_irrefl _)] <;> rfl
    · rintro j σ H9 ⟨_, _, _, N9, _, _, g9, e9, _⟩
      exact e9.trans g9.s
    · rintro j i y σ H9 hj fy ⟨fdj, kvs, a, N9, rfl, hfd, g9, e9, c9, k9, gd9, le9⟩
      have hjk : j < hs.length := by
        have := (List.getElem?_eq_some_iff.mp hj).1
        rw [List.length_range] at this
        exact this
      rw [List.getElem?_range hjk] at hj
      have ej := Option.some.inj hj
      subst ej
      have ey := is_int fy
      rw [Int.zero_add] at ey
      subst ey
      obtain ⟨h, hh⟩ : ∃ h, hs[j]? = some h := ⟨_, List.getElem?_eq_getElem hjk⟩
      have hsh : ShIn f hs j h lot := ⟨hh, hp.few h (List.mem_of_getElem? hh), hp.fewl, hp.ok⟩
      have hTm : Tm hs lot fdj j = halfM h lot fdj := by
        unfold Tm
        rw [List.getD_eq_getElem?_getD, hh] <;> rfl
      have e89 := g57.n.trans (g8.n.trans e9)
      have eK : Ex N9 (upd N9 dd (.dK kvs)) := Ex.new c9.n
      have hwK := (WebP K A.RawWeb f hs).st _ _ _ (e89.trans eK) hw
      have hlK := (is K (tupI lot)).st _ _ _ (e89.trans eK) hlot
      have hdK : DictP fdj (.ref dd) (upd N9 dd (.dK kvs)) := ⟨dd, kvs, rfl, upd_same, k9⟩
      refine et_and (et_B (K := K) (ev_dni (ev_var rfl (Dp.int (j : Nat))) (ev_var rfl hdK))) (fun _ => et_test (K := K) (ev_call (⟨f, hs, j, h, lot, fdj⟩ : ShT) hsh (ea_cons (ev_var rfl hwK) (ea_cons (ev_var rfl (Dp.int _)) (ea_cons (ev_var rfl hlK) (ea_cons (ev_var rfl hdK) ea_nil)))))) H9 (ex_know g9.s c9.h) _ fun N10 H10 g10 => ?_
      obtain ⟨g11, c11, _, e11⟩ := g9.unknow c9 g10
      have hnext : ((List.range hs.length).take (j + 1)).foldl (one (Tm hs lot)) fd = one (Tm hs lot) fdj j := by
        rw [range_foldl_next hjk, ← hfd]
      have hgood := gd9.one (T := Tm hs lot) hjk
      have hmem := keys_len k9
      cases hb : (!decide ((j : Int) ∈ fdj) && halfM h lot fdj) with
      | true =>
        have hone : one (Tm hs lot) fdj j = fdj ++ [(j : Int)] := by
          unfold one
          rw [hTm, if_pos hb]
        rw [if_pos rfl]
        rw [Bool.and_eq_true, Bool.not_eq_true', decide_eq_false_iff_not] at hb
        refine ⟨_, rfl, dd, kvs, rfl, c11.h, _, rfl, _, rfl, dd, _, rfl, DPut.k (k := Sum.inl (j : Int)) c11.h (sz_lt ?_), ?_⟩
        · unfold GoodF at gd9
          omega
        · have g12 := g11.put c11 (o' := .dK (putK kvs (Sum.inl (j : Int) : Key) (.int kvs.length)))
          have c12 := c11.put (o' := .dK (putK kvs (Sum.inl (j : Int) : Key) (.int kvs.length)))
          refine ⟨fdj ++ [(j : Int)], _, some (.int (j : Nat)), erase N10 dd, ?_, by rw [hnext, hone], g12, e9.trans e11, c12, keys_put k9 hb.1 _, by rw [← hone]; exact hgood, by rw [List.length_append]; omega⟩
          rw [show decide (fd.length < (fdj ++ [(j : Int)]).length) = true from decide_eq_true (by rw [List.length_append, List.length_singleton]; omega)] <;> rfl
      | false =>
        have hone : one (Tm hs lot) fdj j = fdj := by
          unfold one
          rw [hTm, if_neg (by rw [hb]; decide)]
        rw [if_neg Bool.false_ne_true]
        exact ⟨fdj, kvs, _, erase N10 dd, rfl, by rw [hnext, hone], g11, e9.trans e11, c11, k9, gd9, le9⟩
    · rintro σ H9 ⟨fdj, kvs, a, N9, rfl, hfd, g9, e9, c9, k9, gd9, le9⟩
      rw [List.length_range] at hfd
      rw [List.take_of_length_le (by rw [List.length_range]; exact Nat.le_refl _)] at hfd
      have hsw : fdj = sw (Tm hs lot) hs.length fd := hfd
      by_cases hlt : fd.length < fdj.length
      · have hfr := (sw_grow (Tm hs lot) hs.length fd).free (by rw [← hsw]; exact hlt)
        rw [← hsw] at hfr
        obtain ⟨n', rfl⟩ : ∃ n', n = n' + 1 := ⟨n - 1, by omega⟩
        refine ⟨n' + 1, Nat.lt_succ_self _, _, fdj, kvs, _, N9, n', rfl, g9, e5.trans (g6.n.trans (g7.n.trans (g8.n.trans e9))), c9, k9, gd9, by omega, fun _ => ⟨?_, rfl⟩, fun z => ?_⟩
        · rw [pl, ← hsw, if_neg (Nat.not_le.mpr hlt)] at hpl
          exact hpl
        · rw [decide_eq_true hlt] at z
          cases z
      · refine ⟨0, Nat.succ_pos _, _, fdj, kvs, _, N9, free hs.length fdj, rfl, g9, e5.trans (g6.n.trans (g7.n.trans (g8.n.trans e9))), c9, k9, gd9, Nat.le_refl _, fun z => ?_, fun _ => ⟨?_, rfl⟩⟩
        · rw [decide_eq_false hlt] at z
          cases z
        · rw [pl, ← hsw, if_pos (Nat.not_lt.mp hlt)] at hpl
          exact hpl
/-! ### carries_house -/
abbrev sp_carries (K : PySem.W.Frag) (C : Addr) : Sp := FnP (T := CaT × Int) (fun x => [WebP K C x.1.f x.1.hs, is K (tupI x.1.lot), is K (.int x.2)]) (fun x => CaIn x.1.f x.1.hs x.1.lot) (fun x => is K (.bool (decide (x.2 ∈ carM x.1.hs x.1.lot))))
theorem ok_carries_house (T : Txt K mg A B) : FnOk P w K mg base CX0 4 A.carries_house B.carries_house ["web", "lot", "house"] (sp_carries K A.RawWeb) := by
  have G_carried_of := ok_carried_of (P := P) (w := w) (base := base) T
  refine T.F_carries_house.ok sc_carries_house (FnP.len fun _ => rfl) (fun cdv A' outer s H vs Q E hr h => ?_)
  obtain ⟨⟨⟨f, hs, lot⟩, i⟩, N, hp, e, hv, q⟩ := h
  replace hp : CaIn f hs lot := hp
  obtain ⟨v, v1, v2, rfl, hw, hlot, hi⟩ := hold3 hv
  clear hv
  refine ⟨_, (pss_one (ps_ret (pe_cmp (pc_din (hu_of hr) (pv 2) (pe_call G_carried_of (hr.mono (by decide)) (by rfl) T.g_carried_of T.F_carried_of.kp T.b_carried_of .nil pass0 (pa_cons (pv 0) (pa_cons (pv 1) pa_nil))))))), ?_⟩
  exact s_ret e (ev_din (ev_var rfl hi) (ev_call (⟨f, hs, lot⟩ : CaT) hp (ea_cons (ev_var rfl hw) (ea_cons (ev_var rfl hlot) ea_nil)))) fun v' N' H' g fv => q v' N' H' g fv
end
end Rk
end PartRkF9

section PartRkF10
set_option Elab.async false
set_option linter.all false
set_option maxRecDepth 100000
set_option maxHeartbeats 400000
namespace Rk
open PySem PySem.Spec PyProof.Rows L2 RkS DX
def alikeM (n : Nat) (t : List (List Int)) (hs : List (List Ho)) : Bool := (lotsM n).all fun l => carr t l == decide (((hs.length : Int) - 1) ∈ carM hs l)
structure UnT where
  n : Nat
  t : List (List Int)
  hs : List (List Ho)
structure UnIn (n : Nat) (t : List (List Int)) (hs : List (List Ho)) : Prop where
  n6 : n ≤ 6
  fewt : t.length ≤ 1000
  fewl : ∀ l ∈ t, l.length ≤ 1000
  fewh : hs.length ≤ 1000
  few : ∀ h ∈ hs, h.length ≤ 1000
/-- None, or something else -/
def UnP (b : Bool) : Pr where
  p v _ := decide (v = V.non) = b
  st := fun _ _ _ _ h => h
theorem lotsR_ok : ∀ {n : Nat} {l : List Int}, l ∈ lotsR n → ∀ p ∈ l, 0 ≤ p ∧ p < n
  | 0, l, h, p, hp => by
    rw [List.mem_singleton.mp h] at hp
    cases hp
  | n + 1, l, h, p, hp => by
    rcases List.mem_append.mp h with h | h
    · have := lotsR_ok h p hp
      omega
    · obtain ⟨m, hm, rfl⟩ := List.mem_map.mp h
      rcases List.mem_append.mp hp with hp | hp
      · have := lotsR_ok hm p hp
        omega
      · have := List.mem_singleton.mp hp
        omega
theorem lotsM_mem {n : Nat} {l : List Int} (h : l ∈ lotsM n) : l ∈ lotsR n := (sort_perm _).mem_iff.mp h
section
variable {P : Program} {w : World} {K : PySem.W.Frag} {mg : Str → Option Value} {base : Heap} {A : Ad} {B : Fd}
variable {σ : L2.St} {N : Hp} {ta tb tc te ty td : TE}
abbrev sp_unlike (K : PySem.W.Frag) (C : Addr) : Sp := FnP (T := UnT) (fun x => [is K (.int (x.n : Nat)), is K (tabD x.t), WebP K C x.n x.hs]) (fun x => UnIn x.n x.t x.hs) (fun x => UnP (alikeM x.n x.t x.hs))
theorem all_take {α : Type} {p : α → Bool} {l : List α} {i : Nat} {x : α} (h : l[i]? = some x) (k : (l.take i).all p = true) (hx : p x = true) : (l.take (i + 1)).all p = true := by
  rw [take_next h, List.all_append, k, Bool.true_and, List.all_cons, List.all_nil, hx] <;> rfl
theorem ok_unlike_last (T : Txt K mg A B) : FnOk P w K mg base CX0 5 A.unlike_last B.unlike_last ["folk", "table", "web"] (sp_unlike K A.RawWeb) := by
  have G_lots_of := ok_lots_of (P := P) (w := w) (base := base) T
  have G_carries_there := ok_carries_there (P := P) (w := w) (base := base) T
  have G_carries_house := ok_carries_house (P := P) (w := w) (base := base) T
  refine T.F_unlike_last.ok sc_unlike_last (FnP.len fun _ => rfl) (fun cdv A' outer s H vs Q E hr h => ?_)
  obtain ⟨⟨n, t, hs⟩, N, hp, e, hv, q⟩ := h
  replace hp : UnIn n t hs := hp
  obtain ⟨v, v1, v2, rfl, hn, ht, hw⟩ := hold3 hv
  clear hv
  refine ⟨_, (pss_cons (ps_set (i := 3) sc_unlike_last.nd rfl (by first | exact Or.inl rfl | exact Or.inr rfl) (pe_op op_sub (pe_callB (cr_len (K := K)) (by rfl) T.n_len (by decide +kernel) (pa_cons (pe_fldK (K := K) (pv 2) rfl) pa_nil)) pe_int))
    (pss_cons (ps_for PassesOwn.never (by rfl) (pi_listK (K := K) (pe_call G_lots_of (hr.mono (by decide)) (by rfl) T.g_lots_of T.F_lots_of.kp T.b_lots_of .nil pass0 (pa_cons (pv 0) pa_nil))) (pg_name (i := 4) sc_unlike_last.nd rfl (by first | exact Or.inl rfl | exact Or.inr rfl)) 
    (pss_one (ps_if (pt_cmpR op_ne (pe_call G_carries_there (hr.mono (by decide)) (by rfl) T.g_carries_there T.F_carries_there.kp T.b_carries_there .nil pass0 (pa_cons (pv 1) (pa_cons (pv 4) pa_nil))) (pe_call G_carries_house (hr.mono (by decide)) (by rfl) T.g_carries_house T.F_carries_house.kp T.b_carries_house .nil pass0 (pa_cons (pv 2) (pa_cons (pv 4) (pa_cons (pv 3) pa_nil)))) (nomark _)) 
      (pss_one (ps_ret (pv 4))) 
      pss_nil)))
    (pss_one (ps_ret pe_non)))), ?_⟩
  obtain ⟨x, dx, vh, l1, l2, l3, khs, rfl, hN, fh, _⟩ := id hw
  refine q_asg e ((ev_sub (ev_lenT (ev_fldV rfl hN T.cl T.a_houses rfl fh)) ev_int).cast (d' := .int ((hs.length : Int) - 1)) (by rw [List.length_map])) fun vl N1 H1 g1 fl => ?_
  refine q_for (lotsM n) (fun l => is K (tupI l)) g1.s (ei_list (ev_call n hp.n6 (ea_cons (ev_var rfl ((is K _).st _ _ _ g1.n hn)) ea_nil))) fun N2 H2 g2 => ?_
  have g12 := g1.trans g2
  refine ⟨fun i σ H3 => ∃ (a : Option V) (N3 : Hp), σ = [some v, some v1, some (.ref x), some vl, a] ∧ Go N H N3 H3 ∧ Ex N2 N3 ∧ ((lotsM n).take i).all (fun l => carr t l == decide (((hs.length : Int) - 1) ∈ carM hs l)) = true,
    ⟨none, N2, rfl, g12, Ex.refl _, rfl⟩, ?_, ?_, ?_⟩
  · rintro i σ H3 ⟨_, N3, _, g3, e3, _⟩
    exact e3.trans g3.s
  · rintro i l y σ H3 hi fy ⟨a, N3, rfl, g3, e3, hall⟩
    have hl := lotsM_mem (List.mem_of_getElem? hi)
    have hll := lotsR_item hl
    have h6 := hp.n6
    have hca : CaIn n hs l := ⟨hp.fewh, hp.few, by omega, lotsR_ok hl⟩
    have fy3 := (is K _).st _ _ _ e3 fy
    have hw3 := (WebP K A.RawWeb n hs).st _ _ _ g3.n hw
    have ht3 := (is K _).st _ _ _ g3.n ht
    have fl3 := (is K _).st _ _ _ (g2.n.trans e3) fl
    refine s_when (b := !decide (carr t l = decide (((hs.length : Int) - 1) ∈ carM hs l))) g3.s (et_test (K := K) (ev_neB (ev_call (t, l) ⟨hp.fewt, hp.fewl⟩ (ea_cons (ev_var rfl ht3) (ea_cons (ev_var rfl fy3) ea_nil))) (ev_call ((⟨n, hs, l⟩ : CaT), (hs.length : Int) - 1) hca (ea_cons (ev_var rfl hw3) (ea_cons (ev_var rfl fy3) (ea_cons (ev_var rfl fl3) ea_nil)))))) (fun hb N4 H4 g4 => ?_) (fun hb N4 H4 g4 => ?_)
    · rw [Bool.not_eq_true', decide_eq_false_iff_not] at hb
      have fy4 := (is K _).st _ _ _ g4.n fy3
      refine s_ret g4.s (ev_var rfl fy4) fun v' N' H' g fv => q v' N' H' ((g3.trans g4).trans g) ?_
      obtain ⟨z, _, rfl, _⟩ := is_tup fv
      show decide (V.ref z = V.non) = alikeM n t hs
      have hf : alikeM n t hs = false := by
        unfold alikeM
        rw [List.all_eq_false]
        exact ⟨l, List.mem_of_getElem? hi, by simpa using hb⟩
      rw [hf]
      rfl
    · rw [Bool.not_eq_false', decide_eq_true_eq] at hb
      exact ⟨_, N4, rfl, g3.trans g4, e3.trans g4.n, all_take hi hall (by rw [hb]; simp)⟩
  · rintro σ H3 ⟨a, N3, rfl, g3, e3, hall⟩
    rw [List.take_length] at hall
    refine s_ret g3.s (ev_c (f := UnP (alikeM n t hs)) (v := .non) ?_) fun v' N' H' g fv => q v' N' H' (g3.trans g) fv
    show decide (V.non = V.non) = alikeM n t hs
    unfold alikeM
    rw [hall]
    rfl
end
end Rk
end PartRkF10

section PartRkX1
set_option Elab.async false
set_option linter.all false
set_option maxRecDepth 100000
set_option maxHeartbeats 400000
/-! TooMany(most): its __init__, made, raised, its field read -/
namespace PySem
namespace TmX
open PySem.W PySem.Calls PyProof.Rows PySem.HandSPX L2
abbrev sTM : Stmt := inClass (Rk.top 4) 0
/-- what the written part says of TooMany, at C, and of its __init__, at fI -/
structure TmTxt (P : Program) (K : Frag) (mg : Str → Option Value) (C fI : Addr) : Prop where
  gC : mg "TooMany" = some (.ref C)
  cls : ∃ nm q N bs bm sn sub ab col dd k0 k1 k2 k3 k5, K.lookup C = some (excClassObj nm q C N bs bm true sn sub ab col dd k0 k1 k2 k3 k5 "ValueError.__new__") ∧ refsVE bm = true
  sa : findIn K (.ref C) "__setattr__" = some (some (.builtin "object.__setattr__"))
  ga : findIn K (.ref C) "__getattribute__" = some (some (.builtin "BaseException.__getattribute__"))
  gg : findIn K (.ref C) "__getattr__" = some none
  noN : findIn K (.ref C) "most" = some none
  iC : findIn K (.ref C) "__init__" = some (some (.ref fI))
  tC : typeIn K (.ref fI) = some (.type "function")
  kC : keepIn K (.ref C) = true
  exC : subIn K (.ref C) (.type "BaseException") = some true
  tyC : typeIn K (.ref C) = some (.type "type")
  hdC : hasDictIn K C = true
  te : exmOne K (.ref C) (.ref C) = some true
  gS : mg "super" = none
  selfC : mroIn K C (.ref C) = some true
  vE : subIn K (.ref C) (.type "ValueError") = some true
  nT : nsIn K cStatics "thirdparty.any" = some none
  sI : ks_superIn K C C "__init__" = some (some (.builtin "ValueError.__init__"))
  htop : (P.main.scope.names.lookup ("super" : Str)).isSome = false
  fn : ∃ (oc : Value) (od : Option Addr) (kV doc pm : Value) (an : Option Addr) (cda cc : Addr) (ct : Value) (osl : Array (Option Value)),
    K.lookup fI = some ⟨oc, od, .func (ksFn "__init__" "TooMany.__init__" (defArgs sTM) (defBody sTM) (defScope sTM) .none kV doc pm an (.ref cda) ct cc), osl⟩ ∧ codeIn K (.ref cda) "TooMany.__init__" = true ∧
    (∃ ccl cdd vs ccs file tf, K.lookup cda = some ⟨ccl, cdd, .fields vs, ccs⟩ ∧ vs[2]? = some (.str file tf) ∧ ((P.main.file : Str) == file) = true) ∧ (∃ cl cld csl, K.lookup cc = some ⟨cl, cld, .cell (some (.ref C)), csl⟩)
section
variable {M : Model} {A : Around} {E : Value → Shared → Prop} {h : Heap} {g : Array GenState} {d : Drawn} {t : Nat} {os : OsState} {prog : Program} {w : World}
variable {nm q : Str} {C N : Addr} {bs bm : List Value} {hdct : Bool} {sn : List Str} {sub : List Value} {ab : Bool} {col : Option Bool} {dd : Option Addr} {k0 k1 k2 k3 k5 : Option Value}
/-- ValueError.__init__, bound to e, called -/
theorem call_mw {u e t0 : Addr} {rest : List Value} {Q : Value → Shared → Prop}
    (hC : h.get? C = some (excClassObj nm q C N bs bm hdct sn sub ab col dd k0 k1 k2 k3 k5 "ValueError.__new__")) (he : h.get? e = some (excO C t0)) (hu : h.get? u = some (kxs_mw "ValueError.__init__" e)) (hrest : rest.length ≤ sizeLine)
    (hq : ∀ h' t1, (∀ b o, b ≠ e → h.get? b = some o → h'.get? b = some o) → h.objs.size ≤ h'.objs.size → h'.get? e = some (excO C t1) → Q .none ⟨h', g, d, t, os⟩) :
    wpAny (model prog w) A (call (.ref u) rest) Q E ⟨h, g, d, t, os⟩ := by
  refine wpAny_call (codeAny_of_tree ?_)
  show wpAny _ A.in1 (callAny (.ref u) ⟨rest, []⟩) _ _ _
  simp only [callAny]
  refine wpAny_bind (wpAny_load hu ?_)
  simp only [kxs_mw, show (Value.type "method-wrapper" == Value.type "method" || Value.type "method-wrapper" == Value.type "builtin_function_or_method" || Value.type "method-wrapper" == Value.type "method-wrapper") = true by decide, if_true]
  refine KFB.if_so (by decide) ?_
  refine wpAny_bind (check_bound_init F.excBase_ValueError.toExcCallFacts hC he rfl ?_)
  refine wpAny_bind (wpAny_pure (wpAny_pure ?_))
  refine ⟨plainId_quiet F.excBase_ValueError.init.plain _, codeAny_builtin F.excBase_ValueError.initEntry ?_⟩
  rw [Around.under_plainId F.excBase_ValueError.init.plain _]
  wp_walk
  refine hq _ h.objs.size (fun b o hb ho => ?_) ?_ ?_
  · rw [Heap.get?_update_other _ _ (Ne.symm hb)]
    exact Heap.get?_push_of_some _ ho
  · rw [Heap.size_update, size_push']
    exact Nat.le_succ _
  · rw [Heap.get?_update_self _ (Heap.get?_push_of_some _ he) rfl]
    rfl
end
theorem callWith_mw1 {M : Model} {A : Around} {E : Value → Shared → Prop} {s : Shared} {pos : Pos} {u x : Addr} {env : Env} {e : Expr} {Q : Value → Shared → Prop}
    (h : wpAny M A (eval e env) (fun v s₁ => KxsAt "ValueError.__init__" u x s₁.heap ∧ wpAny M A (call (.ref u) [v]) Q E s₁) E s) (he : starEach [e] env = [(false, eval e env)] := by rfl) :
    wpAny M A (callWith pos (.ref u) [] (backTo pos (starEach [e] env)) []) Q E s := by
  rw [he]
  refine kxs_callWith (i := "ValueError.__init__") (x := x) rfl (evalArgs_plain ?_)
  show wpAny _ _ (spliced [(false, eval e env)]) _ _ _
  exact Calls.spliced_cons (wpAny_mono h (fun v s' q => Calls.spliced_nil q) fun _ _ z => z)
/-- what __init__ leaves of a fresh exception at x -/
structure InitEnd (h h' : Heap) (x C dx : Addr) (v : Value) : Prop where
  keep : ∀ b o, b ≠ x → h.get? b = some o → h'.get? b = some o
  obj : ∃ t1, h'.get? x = some { cls := .ref C, dict := some dx, data := .fields #[.ref t1, .none, .none, .none, .bool false, .none] }
  dbig : h.objs.size ≤ dx
  dne : dx ≠ x
  ns : h'.Ns1 dx (fun y => if y = "most" then some v else none)
section
variable {prog : Program} {w : World} {A : Around} {E : Value → Shared → Prop} {R : Result → Shared → Prop} {s : Shared} {K : Frag} {mg : Str → Option Value} {C fI : Addr}
theorem tm_init (T : TmTxt prog K mg C fI) {x t0 : Addr} {v : Value} (X : K.In s.heap) (hlim : s.heap.NoLimit) (G : s.heap.Ns mainGlobals mg) (GB : ∃ mb, s.heap.Ns builtinsNs mb ∧ mb "super" = some (.type "super")) (hx : s.heap.get? x = some (excO C t0)) (hnx : K.lookup x = none) (hroom : A.depth < recursionLimit)
    (hq : ∀ h' tk dx, InitEnd s.heap h' x C dx v → R (.ok (.ret .none)) { s with heap := h', toks := tk }) :
    codeAny (model prog w) A (.call (.ref fI) ⟨[.ref x, v], []⟩) R s := by
  obtain ⟨oc, od, kV, doc, pm, an, cda, cc, ct, osl, ho, hcd, ⟨ccl, cdd, vs, ccs, file, tf, hcode, hvs, hfile⟩, ⟨cl, cld, csl, hcell⟩⟩ := T.fn
  obtain ⟨nm, q, N, bs, bm, sn, sub, ab, col, dd, k0, k1, k2, k3, k5, hC, hbm⟩ := T.cls
  obtain ⟨mb, hmb, hms⟩ := GB
  have hcl : clsIn K C = some { name := nm, bases := bs, mro := .ref C :: bm, ns := N, qualname := q, hasDict := true, slotNames := sn, subclasses := sub, abstract := ab, collection := col, hasDel := false } := by unfold clsIn; rw [hC] <;> rfl
  have hxC : x ≠ C := fun z => by
    rw [z, hC] at hnx
    cases hnx
  obtain ⟨hh, g, d, tk, os⟩ := s
  refine ks_codeAny_call_defAt (binds := [("self", .ref x), ("most", v)]) hroom (X _ _ ho) rfl hlim (codeRec_of X hcd) rfl (BindsTo.of_eq (by first | rfl | with_unfolding_all rfl)) (show ∀ x ∈ (defScope sTM).names, x.2 ≠ .cell by decide +kernel) (fun y hy => ?_) (fun h₁ hns k => ?_) rfl rfl rfl
  · rcases List.mem_cons.mp hy with rfl | hy
    · exact (show (defScope sTM).names.lookup ("self" : Str) = some .local by decide +kernel)
    · rw [List.mem_singleton.mp hy]
      exact (show (defScope sTM).names.lookup ("most" : Str) = some .local by decide +kernel)
  have X₁ : K.In h₁ := X.keeps k
  have hx₁ := k _ _ hx
  refine ks_wpAt_execs_cons (ks_wpAt_Expr_any (ks_wpAt_MethodCall ?_))
  refine ks_wpAt_super_base rfl rfl (by decide) rfl (X₁ _ _ ho) rfl rfl rfl (X₁ _ _ hcode) rfl hvs hfile T.htop ?_
  refine ks_loadName_global rfl rfl (Calls.loadGlobal_builtin (G.keeps k) T.gS (hmb.keeps k) hms ⟨rfl, ?_⟩)
  refine wpAny_loadName_free rfl rfl rfl ⟨_, X₁ _ _ hcell, rfl⟩ ?_
  refine wpAny_loadName_local (v := .ref x) rfl rfl hns (by first | rfl | with_unfolding_all rfl) ?_
  refine ks_wpAny_isType_cls (X₁ _ _ hC) rfl ⟨rfl, ?_⟩
  refine ks_wpAny_call_super (X₁ _ _ hC) rfl hx₁ rfl (fun c e => by cases e) (looks_mroIn X₁ T.selfC) (fun h₂ e₂ k₂ => ?_)
  have X₂ : K.In h₂ := X₁.keeps k₂
  have hx₂ := k₂ _ _ hx₁
  have hI : W.Looks (model prog w) h₂ (isInstance (.ref x) (.type "ValueError")) true := (show W.InstAt h₂ x (excO C t0) C none from ⟨hx₂, rfl, rfl, trivial⟩).type.andThen (looks_subIn X₂ T.vE)
  have hm := T.sI
  unfold ks_superIn at hm
  rw [hcl] at hm
  refine kxs_getMethod kxs_ValueError e₂ (looks_opaque X₂ T.nT) (l₀ := .ref C :: bm) ((looks_clsIn X₂ hcl).andThen .now) rfl X₂ hm hI hxC (by decide) ?_
  -- the call
  have hu : (h₂.push (kxs_mw "ValueError.__init__" x)).get? h₂.objs.size = some (kxs_mw "ValueError.__init__" x) := Heap.get?_push_size _ rfl
  have k₃ : ∀ b o, h₂.get? b = some o → (h₂.push (kxs_mw "ValueError.__init__" x)).get? b = some o := fun b o e => Heap.get?_push_of_some _ e
  generalize hh3 : h₂.push (kxs_mw "ValueError.__init__" x) = h₃ at hu k₃
  refine callWith_mw1 (x := x) (Calls.Constant_str ⟨hu, ?_⟩)
  refine call_mw ((X₂.keeps k₃) _ _ hC) (k₃ _ _ hx₂) hu (by rw [sizeLine_eq]; exact (by decide : 1 ≤ 16777216)) fun h₄ t1 k₄ z₄ hx₄ => ?_
  -- self.most = most
  have k₁₄ : ∀ b o, b ≠ x → h₁.get? b = some o → h₄.get? b = some o := fun b o hb e => k₄ b o hb (k₃ b o (k₂ b o e))
  have hLx : hh.objs.size ≠ x := Nat.ne_of_gt (Heap.lt_size hx)
  have hns₄ : h₄.Ns hh.objs.size fun y => [((("self" : Str)), Value.ref x), (("most" : Str), v)].reverse.lookup y := by
    obtain ⟨oL, esL, epL, eL, rL⟩ := hns
    exact ⟨oL, esL, epL, k₁₄ _ _ hLx eL, rL⟩
  have X₄ : K.In h₄ := fun a o e => k₁₄ a o (fun z => by rw [z, hnx] at e; cases e) (X₁ a o e)
  show wpAt _ _ _ (execs _ _) _ _ _
  refine ks_wpAt_execs_cons (ks_wpAt_Assign_Attr (wpAt_of_wpAny ?_))
  refine wpAny_Name (wpAny_loadName_local (v := v) rfl rfl hns₄ (by first | rfl | with_unfolding_all rfl) ?_)
  refine wpAny_Name (wpAny_loadName_local (v := .ref x) rfl rfl hns₄ (by first | rfl | with_unfolding_all rfl) ?_)
  refine set_plain X₄ (ox := excO C t1) (od := none) ⟨hx₄, rfl, rfl, trivial⟩ T.sa ?_
  refine exc_osa X₄ hx₄ hcl (show refsVE (.ref C :: bm) = true from hbm) rfl T.noN (fun h₅ tk₅ dx k₅ dn dne hx₅ hn₅ => ?_)
  show wpAt _ _ _ (execs [] _) _ _ _
  refine wpAt_of_wpAny (wpAny_execs_nil ?_)
  have z1 : hh.objs.size < h₁.objs.size := hns.lt
  refine hq h₅ tk₅ dx ⟨fun b o hb e => k₅ b o hb (k₁₄ b o hb (k b o e)), ⟨t1, hx₅⟩, ?_, dne, hn₅⟩
  have z2 : h₁.objs.size < h₂.objs.size := Heap.lt_size e₂
  have z3 : h₃.objs.size = h₂.objs.size + 1 := by
    rw [← hh3]
    exact size_push' _ _
  have z4 : h₃.objs.size ≤ h₄.objs.size := z₄
  have z5 : h₄.objs.size ≤ dx := dn
  have z6 : hh.objs.size < h₁.objs.size := z1
  show hh.objs.size ≤ dx
  clear z₄ dn z1
  omega
/-- a made TooMany -/
structure OwnMade (h h' : Heap) (e C d : Addr) (v : Value) : Prop where
  keep : ∀ b o, h.get? b = some o → h'.get? b = some o
  new : h.objs.size ≤ e
  obj : ∃ oe vs, h'.get? e = some oe ∧ oe.cls = .ref C ∧ oe.dict = some d ∧ oe.data = .fields vs ∧ vs[1]? = some .none
  dbig : h.objs.size ≤ d
  dne : d ≠ e
  ns : h'.Ns1 d (fun y => if y = "most" then some v else none)
theorem one_size (v : Value) : [v].length ≤ sizeLine := by
  rw [sizeLine_eq]
  exact (by decide : 1 ≤ 16777216)
theorem tm_made (T : TmTxt prog K mg C fI) {v : Value} (X : K.In s.heap) (hlim : s.heap.NoLimit) (G : s.heap.Ns mainGlobals mg) (GB : ∃ mb, s.heap.Ns builtinsNs mb ∧ mb "super" = some (.type "super")) (hroom : A.depth + 1 < recursionLimit)
    (hq : ∀ h' tk e d, OwnMade s.heap h' e C d v → R (.ok (.ret (.ref e))) { s with heap := h', toks := tk }) :
    codeAny (model prog w) A (.call (.ref C) ⟨[v], []⟩) R s := by
  obtain ⟨nm, q, N, bs, bm, sn, sub, ab, col, dd, k0, k1, k2, k3, k5, hC, hbm⟩ := T.cls
  obtain ⟨hp, g, dr, tk, os⟩ := s
  have k : ∀ b o, hp.get? b = some o → ((hp.push (kdv_tup [v])).push (excO C hp.objs.size)).get? b = some o := fun b o e => Heap.get?_push_of_some _ (Heap.get?_push_of_some _ e)
  have hget : ((hp.push (kdv_tup [v])).push (excO C hp.objs.size)).get? (hp.objs.size + 1) = some (excO C hp.objs.size) := by heap_get
  have hnx : K.lookup (hp.objs.size + 1) = none := by
    cases e : K.lookup (hp.objs.size + 1) with
    | none => rfl
    | some o =>
      have z : hp.get? (hp.objs.size + 1) = some o := X _ _ e
      exact absurd (Nat.lt_of_succ_lt (Heap.lt_size z)) (Nat.lt_irrefl _)
  refine call_own F.excBase_ValueError (fun X => refsVE_contains X bm hbm) (X _ _ hC) (looks_findIn X T.iC) (fun self => bind_fn X self T.tC) (one_size v) ?_
  refine tm_init (s := ⟨(hp.push (kdv_tup [v])).push (excO C hp.objs.size), g, dr, tk, os⟩) T (X.keeps k) (hlim.keeps k) (G.keeps k) (GB.imp fun mb z => ⟨z.1.keeps k, z.2⟩) hget hnx ?_ fun h' tk' dx ⟨k', ⟨t1, hx⟩, dn, dne, hns⟩ => ?_
  · show A.depth + 1 < recursionLimit
    exact hroom
  · have old : ∀ b o, hp.get? b = some o → h'.get? b = some o := fun b o e => k' b o (Nat.ne_of_lt (Nat.lt_succ_of_lt (Heap.lt_size e))) (k b o e)
    have z : hp.objs.size + 1 + 1 ≤ dx := by
      first
        | (simpa only [Heap.size_push] using dn)
        | exact dn
        | (have q := dn; rw [Heap.size_push, Heap.size_push] at q; exact q)
    exact ⟨rfl, hq h' tk' (hp.objs.size + 1) dx ⟨old, Nat.le_succ _, ⟨_, _, hx, rfl, rfl, rfl, rfl⟩, Nat.le_trans (Nat.le_trans (Nat.le_succ _) (Nat.le_succ _)) z, dne, hns⟩⟩
end
end TmX
end PySem
namespace L2
open PySem PySem.Spec PyProof.Rows
theorem relO_tm {v : V} {v' : Value} (r : RelV v v') (f : Str) : RelO (List.lookup f [(("most" : Str), v)]) (if f = "most" then some v' else none) := by
  by_cases hw : f = "most"
  · subst hw
    rw [if_pos rfl]
    have q : List.lookup ("most" : Str) [(("most" : Str), v)] = some v := by simp [List.lookup]
    rw [q]
    exact r
  · rw [if_neg hw]
    have qw : (f == ("most" : Str)) = false := by simpa using hw
    have q2 : List.lookup f [(("most" : Str), v)] = none := by simp [List.lookup, qw]
    rw [q2]
    trivial
section
variable {X : Cx} {C fI : Addr}
/-- TooMany(e) -/
def tMkTm (C : Addr) (ta : TA) : St → Hp → XK → Prop := fun σ H Q => ta σ H fun vs H1 => ∃ v, vs = [v] ∧ ∀ d, H1 d = none → Q (.ref C) (some d) (upd H1 d (.xd [(("most" : Str), v)]))
theorem pmk_tm {a : Expr} {ta : TA} {p pos : Pos} {k : Nat} (T : PySem.TmX.TmTxt X.prog X.K X.mg C fI) (hr : Room k X.A) (ha : PA X [a] ta) (hg : Gl X "TooMany" := by rfl)
    (he : starEach (a :: []) X.env = (false, eval a X.env) :: starEach [] X.env := by rfl) (hpl : (backTo pos (starEach [] X.env)).any (·.1) = false := by rfl) :
    PMk X (.Call (.Name "TooMany" p) [a] [] pos) (tMkTm C ta) := by
  intro pins s σ H Q I h
  refine wpAny_Call_Name_kw (ld_glob I hg T.gC ?_)
  refine PySem.W.callWith_K (h₀ := X.base) I.ok.mod.kin T.kC (thn (ha.run pos pins s σ H _ I h) fun us s1 hh => ?_) he hpl
  obtain ⟨vs, H1, I1, r1, v, ev, q1⟩ := hh
  subst ev
  refine ⟨I1.kIn, ?_⟩
  cases r1 with
  | cons rv rn =>
    rename_i v' us'
    cases rn
    show wpAny _ _ (call (.ref C) [v']) _ _ _
    have hlim := I1.nolimit
    have hG : s1.heap.Ns mainGlobals X.mg := I1.mod.glob.keeps I1.bk
    have hGB : ∃ mb, s1.heap.Ns builtinsNs mb ∧ mb "super" = some (.type "super") := by
      obtain ⟨mb, h1, h2⟩ := I1.mod.blt
      exact ⟨mb, h1.keeps I1.bk, (h2 "super" (by decide)).trans (by first | rfl | kernel_rfl)⟩
    obtain ⟨hp, g, dr, tk, os⟩ := s1
    refine wpAny_call (PySem.TmX.tm_made T I1.kIn hlim hG hGB (by have := hr.dp; omega) fun h' tk' e d M => ?_)
    show MkP X pins σ Q (.ref e) ⟨h', g, dr, tk', os⟩
    obtain ⟨oe, fv, hoe, hc, hd, hdat, h1⟩ := M.obj
    have hns := M.ns
    obtain ⟨G', g1, g2⟩ := restrict h' fun b => decide (b ≠ e)
    have gk : ∀ b, b ≠ e → G'.get? b = h'.get? b := fun b hb => g1 b (decide_eq_true hb)
    have ge : G'.get? e = none := g2 e (by simp)
    have old : ∀ b o, hp.get? b = some o → G'.get? b = some o := fun b o q => (gk b (Nat.ne_of_lt (Nat.lt_of_lt_of_le (Heap.lt_size q) M.new))).trans (M.keep b o q)
    have ob : ObjOk X.prog X.w (upd H1 d (.xd [(("most" : Str), v)])) G' d (.xd [(("most" : Str), v)]) :=
      ⟨_, hns.at (fun o q => (gk d M.dne).trans q), fun f => relO_tm rv f⟩
    have J : Inv X pins σ (upd H1 d (.xd [(("most" : Str), v)])) ⟨G', g, dr, tk', os⟩ := I1.laid (t' := tk') old M.dbig ob
    refine ⟨e, oe, fv, ⟨G', g, dr, tk', os⟩, _, .ref C, some d, rfl, J, fun b o q => ?_, ge, hoe, ⟨hc, hd⟩, hdat, h1, ?_, rfl, I1.bare, raises_own T.exC T.tyC, q1 d (I1.hok.fresh M.dbig)⟩
    · by_cases hb : b = e
      · have q' : G'.get? b = some o := q
        rw [hb, ge] at q'; cases q'
      · exact (gk b hb).symm.trans q
    · rw [upd_ne (Ne.symm M.dne)]
      exact I1.hok.fresh M.new
/-- raise TooMany(e) -/
def tRaiseTm (C : Addr) (W : WX) (ta : TA) : TS := fun _ σ H => tMkTm C ta σ H fun cls d H' => W cls d σ H'
theorem ps_raiseTm {a : Expr} {ta : TA} {W : WX} {p pos pos2 : Pos} {k : Nat} (hc : X.calm = true) (T : PySem.TmX.TmTxt X.prog X.K X.mg C fI) (hr : Room k X.A) (tk : Takes X W) (ha : PA X [a] ta) (hg : Gl X "TooMany" := by rfl)
    (he : starEach (a :: []) X.env = (false, eval a X.env) :: starEach [] X.env := by rfl) (hpl : (backTo pos (starEach [] X.env)).any (·.1) = false := by rfl) :
    PS X (.Raise (some (.Call (.Name "TooMany" p) [a] [] pos)) none pos2) (tRaiseTm C W ta) := ps_raise hc tk (pmk_tm T hr ha hg he hpl)
/-- error.most, error the exception that the suite holds -/
def tByTm (C : Addr) (a : Addr) (cls : Value) (d : Option Addr) (te : TE) : TE := fun σ H Q => te σ H fun x H1 => x = .ref a ∧ cls = .ref C ∧ ∃ (dd : Addr) (v : V), d = some dd ∧ H1 dd = some (.xd [(("most" : Str), v)]) ∧ Q v H1
theorem pe_byTm {a : Addr} {oe : Obj} {cls : Value} {d : Option Addr} {pn : List (Addr × Obj)} {e : Expr} {te : TE} {pos : Pos} (T : PySem.TmX.TmTxt X.prog X.K X.mg C fI) (hz : Zc cls d oe) (hf : ∃ vs, oe.data = .fields vs) (he : PE (X.suite a ((a, oe) :: pn)) e te)
    (hb : attributeBase e "most" X.env (eval e X.env) = eval e X.env := by rfl) :
    PE (X.suite a ((a, oe) :: pn)) (.Attribute e "most" pos) (tByTm C a cls d te) := by
  refine ⟨fun pins s σ H Q I h => ?_⟩
  refine attr_of hb (thn (he.run pins s σ H _ I h) fun u s1 hh => ?_)
  obtain ⟨x, H1, I1, rx, ex, ec, dd, v, ed, ea, q⟩ := hh
  subst ex
  obtain rfl : u = Value.ref a := rx
  subst ec
  subst ed
  obtain ⟨ha, _⟩ := I1.pin (a, oe) (List.mem_append_left _ List.mem_cons_self)
  obtain ⟨vs, hd⟩ := hf
  have hx : ObjOk X.prog X.w H1 s1.heap dd (.xd [(("most" : Str), v)]) := I1.hok dd _ ea
  obtain ⟨mA, hns, hr⟩ := hx
  obtain ⟨od, ho, hl⟩ := lookIn_ns hns
  have l : List.lookup ("most" : Str) [(("most" : Str), v)] = some v := by simp [List.lookup]
  obtain ⟨u, hu, ru⟩ := RelO.some_of (v := v) (o := mA "most") (by rw [← l]; exact hr "most")
  have J : PySem.W.InstAt s1.heap a oe C (some od) := ⟨ha, hz.1, by unfold PySem.W.notCls; rw [hd] <;> rfl, by rw [hz.2]; exact ho⟩
  exact HandSPX.exc_get I1.kIn J T.ga T.gg T.exC (PySem.W.findObj_own T.hdC T.noN rfl (by rw [hl, hu])) (handed_of ru) ⟨v, H1, I1.tok _, ru, q⟩
end
end L2
end PartRkX1

section PartRkX2
set_option Elab.async false
set_option linter.all false
set_option maxRecDepth 100000
set_option maxHeartbeats 400000
/-! try: .. except C as n: .. (more clauses behind, never asked: what is raised is a C) -/
namespace L2
open PySem PySem.Spec PyProof.Rows
def wAsT (K : PySem.W.Frag) (c : Value) (i : Nat) (ts : Addr → Value → Option Addr → TS) (D : Ends) : WX := fun cls d σ H =>
  PySem.W.exmOne K cls c = some true ∧ ∀ a, H a = none → ts a cls d { nx := fun σ' H' => D.nx (σ'.set i none) H', rt := D.rt, bk := fun σ' H' => D.bk (σ'.set i none) H', ct := fun σ' H' => D.ct (σ'.set i none) H' } (σ.set i (some (.ref a))) H
section
variable {X : Cx} {x n : Str} {c : Value} {i : Nat} {body suite : List Stmt} {b₀ : Stmt} {np pos pos' : Pos} {tb : WX → TS} {ts : Addr → Value → Option Addr → TS} {hds : List ExceptHandler}
theorem ps_try_asT (hs : X.stack = X.env :: X.outer) (hf : X.env.frame = some X.env.locals) (hN : X.N.Nodup) (hi : X.N[i]? = some n) (hln : X.env.kindOf n = some .local) (hc : Names X x c)
    (hb : ∀ (W : WX) (pn : List (Addr × Obj)) (xe : Value → Shared → Prop), Takes (X.tr pn xe) W → PassesOwn (model X.prog X.w) X.A X.env xe → PSs (X.tr pn xe) body (tb W))
    (hsu : ∀ (a : Addr) (oe : Obj) (cls : Value) (d : Option Addr) (pn : List (Addr × Obj)), Zc cls d oe → (∃ vs, oe.data = .fields vs) → PSs (X.suite a ((a, oe) :: pn)) (b₀ :: suite) (ts a cls d)) :
    PS X (.Try body (.ExceptHandler (some (.Name x np)) (some n) (b₀ :: suite) pos' :: hds) [] [] pos) (fun D σ H => tb (wAsT X.K c i ts D) D σ H) := by
  refine ⟨fun pins s σ H D I h => ?_⟩
  have ok := I.ok
  have hfr : X.A.frames = some (X.env :: X.outer) := by rw [ok.frames, hs]
  have hloc : Loc X.env.scope n := .inl hln
  refine wpAny_Try_except ?_
  refine wpAny_mono ((hb (wAsT X.K c i ts D) (X.pn ++ pins) (fun e s₁ => wpAny (model X.prog X.w) X.A (noteFrame e X.env) (fun _ s₂ => wpAny (model X.prog X.w) X.A (setFlight e none) (fun _ s₃ =>
    wpAny (model X.prog X.w) X.A (handleBy e X.env (.ExceptHandler (some (.Name x np)) (some n) (b₀ :: suite) pos' :: hds)) (SP X pins D) X.xe s₃) X.xe s₂) X.xe s₁) (fun u s' xx => ?_) PassesOwn.looking).run [] s σ H D (I.toTry _) h) (fun f s1 hsp => ?_) (fun e s1 he => he)
  · obtain ⟨a, B, sI, pins', σ', H', cls, d, rfl, J', nb, up, sky, na, os, ag, hb1, hyes⟩ := xx
    have J : Inv X pins σ' H' sI := J'.ofTry ok
    have sky' : Sky B (X.env :: X.outer) a (Zc cls d) X.env.locals s'.heap := by rw [← hs]; exact sky
    show wpAny (model X.prog X.w) X.A (noteFrame (.ref a) X.env) _ _ _
    refine Sky.land Zc.steady hfr hf sky' fun h3 fl3 up3 => ?_
    have J3 : Inv X pins σ' H' { s' with heap := h3 } := J.landed nb fl3.1 (up.trans up3) os ag
    obtain ⟨oe3, vs3, he3, hz3, hd3⟩ := fl3.there
    have notFr : ∀ {h : Heap} {o : Obj} {vs : Array Value}, h.FunFrames B (X.env :: X.outer) → h.get? a = some o → o.data = .fields vs → a ∉ frs (X.env :: X.outer) := fun {h o vs} ff e dd hm => by
      obtain ⟨_, o', e', hnf⟩ := ff.mem hm
      rw [e] at e'; cases e'
      exact hnf _ dd
    have nfr := notFr fl3.2.2.1 he3 hd3
    have nL : a ≠ X.env.locals := fun z => nfr (List.mem_filterMap.mpr ⟨X.env, List.mem_cons_self, by rw [hf, z]⟩)
    have nF : a ∉ X.fs := fun hm => by
      obtain ⟨e, he, q⟩ := List.mem_filterMap.mp hm
      exact nfr (List.mem_filterMap.mpr ⟨e, List.mem_cons_of_mem _ he, q⟩)
    have S3 := J3.suite he3 hd3 na nL nF
    refine wpAny_handleBy_cons (codeAny_handlers_test ?_) (by intro q; cases q)
    have LT : PySem.W.Looks (model X.prog X.w) h3 (typeOf (.ref a)) cls := fun A Q E s k q => wpAny_typeOf_ref (k _ _ he3) (by rw [hz3.1]; exact q)
    have LM := PySem.W.exm_one (M := model X.prog X.w) (J3.kIn) LT hb1
    have test : ∀ {Q : Value → Shared → Prop} {E : Value → Shared → Prop}, Q c { s' with heap := h3 } → wpAny (model X.prog X.w) (X.A.mark (some (.ref a))) (eval (.Name x np) X.env) Q E { s' with heap := h3 } := fun {Q E} q => by
      obtain ⟨hg, hdbg, hm | ⟨hm, hv, hnn⟩⟩ := hc
      · exact ld_glob (X := X.suite a ((a, oe3) :: (X.pn ++ pins))) S3 hg hm q hdbg
      · exact ld_blt (X := X.suite a ((a, oe3) :: (X.pn ++ pins))) S3 hg hm hv q hnn hdbg
    refine test (LM.here ?_)
    refine codeAny_handlers_suite_as ?_
    refine HandSPX.lands_againZ fl3 fun h4 fl4 up4 => ?_
    have J4 : Inv X pins σ' H' { s' with heap := h4 } := J.landed nb fl4.1 ((up.trans up3).trans up4) os ag
    obtain ⟨oe4, vs4, he4, hz4, hd4⟩ := fl4.there
    have S4 := J4.suite he4 hd4 na nL nF
    refine store_ok (X := X.suite a ((a, oe4) :: (X.pn ++ pins))) (v := .ref a) S4 hN hi hloc rfl (fun s5 S5 => ?_) (.inr hln)
    refine wpAny_mono ((hsu a oe4 cls d (X.pn ++ pins) hz4 ⟨_, hd4⟩).run [] s5 _ H' _ S5 (hyes a na)) (fun f s6 hsp => ?_) (fun _ _ z => False.elim z)
    have end_ : ∀ {σ6 : St} {H6 : Hp} {Q : Shared → Prop}, Inv (X.suite a ((a, oe4) :: (X.pn ++ pins))) [] σ6 H6 s6 → (∀ s7, Inv X pins (σ6.set i none) H6 s7 → Q s7) →
        wpAny (model X.prog X.w) X.A (do bindName X.env n .none; unbindBehindTheSuite X.env n pos') (fun _ s7 => Q s7) X.xe s6 := fun {σ6 H6 Q} S6 hq => gone_ok (S6.unsuite ok) hN hi hln hq
    cases f with
    | next =>
      obtain ⟨σ6, H6, S6, q6⟩ := hsp
      exact end_ S6 fun s7 J7 => ⟨_, _, J7, q6⟩
    | brk =>
      obtain ⟨σ6, H6, S6, q6⟩ := hsp
      exact end_ S6 fun s7 J7 => ⟨_, _, J7, q6⟩
    | cont =>
      obtain ⟨σ6, H6, S6, q6⟩ := hsp
      exact end_ S6 fun s7 J7 => ⟨_, _, J7, q6⟩
    | ret u =>
      obtain ⟨v6, σ6, H6, S6, r6, q6⟩ := hsp
      exact end_ S6 fun s7 J7 => ⟨_, _, _, J7, r6, q6⟩
  · cases f with
    | next =>
      obtain ⟨σ', H', J', q⟩ := hsp
      exact wpAny_execs_nil ⟨σ', H', J'.ofTry ok, q⟩
    | brk =>
      obtain ⟨σ', H', J', q⟩ := hsp
      exact ⟨σ', H', J'.ofTry ok, q⟩
    | cont =>
      obtain ⟨σ', H', J', q⟩ := hsp
      exact ⟨σ', H', J'.ofTry ok, q⟩
    | ret u =>
      obtain ⟨v, σ', H', J', r, q⟩ := hsp
      exact ⟨v, σ', H', J'.ofTry ok, r, q⟩
end
end L2
end PartRkX2

section PartRkF11
set_option Elab.async false
set_option linter.all false
set_option maxRecDepth 100000
set_option maxHeartbeats 400000
namespace Rk
open PySem PySem.Spec PyProof.Rows L2 RkS DX
/-- how TooMany goes out -/
def tmE (C : Addr) (E : XK) (H : Hp) (m : Int) : Prop := ∀ d H', Ex H H' → H d = none → H' d = some (.xd [(("most" : Str), .int m)]) → E (.ref C) (some d) H'
section
variable {P : Program} {w : World} {K : PySem.W.Frag} {mg : Str → Option Value} {base : Heap} {A : Ad} {B : Fd} {C fI : Addr}
variable {σ : L2.St} {N : Hp} {ta tb tc te ty td : TE}
def sp_many (C : Addr) : Sp := fun vs H Q E => ∃ (n m : Int), vs = [.int n, .int m] ∧ (m < n → ∀ d, H d = none → E (.ref C) (some d) (upd H d (.xd [(("most" : Str), .int m)]))) ∧ (¬ m < n → Q .non H)
theorem ok_check_many (T : Txt K mg A B) (TM : PySem.TmX.TmTxt P K mg C fI) : FnOk P w K mg base (L2.CX P w) 3 A.check_many B.check_many ["number", "most"] (sp_many C) := by
  refine T.F_check_many.okX sc_check_many (fun vs H Q E h => ?_) (fun cdv A' outer s H vs Q E hr h => ?_)
  · obtain ⟨n, m, rfl, _⟩ := h
    rfl
  obtain ⟨n, m, rfl, hy, hn⟩ := h
  refine ⟨_, (pss_one (ps_if (pt_cmpR op_gt (pv 0) (pv 1) (nomark _)) 
    (pss_one (ps_raiseTm rfl TM hr (takes_of rfl rfl rfl rfl) (by exact (pa_cons (pv 1) pa_nil)))) 
    pss_nil)), ?_⟩
  refine ⟨_, rfl, _, rfl, n, m, rfl, rfl, _, rfl, ?_⟩
  by_cases c : m < n
  · show if decide (m < n) = true then _ else _
    rw [if_pos (decide_eq_true c)]
    exact ⟨_, rfl, _, rfl, fun d hd => hy c d hd⟩
  · show if decide (m < n) = true then _ else _
    rw [if_neg (by rw [decide_eq_false c]; exact Bool.false_ne_true)]
    exact hn c
def fewD (n : Nat) (t : List (List Int)) : PyData :=
  if ((threesM n 1).any fun h => alikeM n t [h]) = true then .int 1
  else if ((threesM n 2).any fun a => (threesM n 2).any fun b => alikeM n t [a, b]) = true then .int 2 else .none
/-- a call that may raise -/
def sp_fewest (K : PySem.W.Frag) (C : Addr) : Sp := fun vs H Q E => ∃ (n : Nat) (t : List (List Int)) (N : Hp), Ex N H ∧ Hold vs [is K (.int (n : Nat)), is K (tabD t)] N ∧ (1 ≤ n ∧ n ≤ 6) ∧ OkTab (n : Nat) t ∧ (∀ h ∈ threesM n 1, WebIn n [h]) ∧ (∀ a ∈ threesM n 2, ∀ b ∈ threesM n 2, WebIn n [a, b]) ∧
  (n ≤ 3 → ∀ v N' H', Go N H N' H' → is K (fewD n t) v N' → Q v H') ∧ (¬ n ≤ 3 → tmE C E H 3)
theorem any_take_false {α : Type} {p : α → Bool} {l : List α} {i : Nat} {x : α} (h : l[i]? = some x) (k : (l.take i).any p = false) (hx : p x = false) : (l.take (i + 1)).any p = false := by
  rw [take_next h, List.any_append, k, Bool.false_or, List.any_cons, List.any_nil, hx] <;> rfl
theorem any_true {α : Type} {p : α → Bool} {l : List α} {x : α} (h : x ∈ l) (hx : p x = true) : l.any p = true := List.any_eq_true.mpr ⟨x, h, hx⟩
theorem unP_non {b : Bool} {v : V} {N : Hp} (h : UnP b v N) : decide (v = V.non) = b := h
theorem et_isN {b : Bool} (ha : EvP ta σ N (UnP b)) : EvT (tTest (tOp (fun x y H Q => y = .non ∧ Q (.bl (decide (x = .non))) H) ta (tC .non))) σ N b := fun H e Q q =>
  ha H e _ fun v N1 H1 g1 fv => ⟨rfl, b, by rw [unP_non fv], q N1 H1 g1⟩
theorem ev_threes {f k : Nat} {E : XK} (h : f + k ≤ 8) (h1 : EvP ta σ N (is K (.int (f : Nat)))) (h2 : EvP tb σ N (is K (.int (k : Nat)))) : EvP (tCall (sp_threes K) [] E (tCons ta (tCons tb tNil))) σ N (is K (.list ((threesM f k).map encHs))) := by
  have := ev_call (σ := σ) (N := N) (E := E) (args := fun x : Nat × Nat => [is K (.int (x.1 : Nat)), is K (.int (x.2 : Nat))]) (pre := fun x => x.1 + x.2 ≤ 8) (res := fun x => is K (.list ((threesM x.1 x.2).map encHs))) (f, k) h (ea_cons h1 (ea_cons h2 ea_nil))
  exact this
theorem okTab_lots {n : Nat} {t : List (List Int)} (h : OkTab (n : Nat) t) (hn : n ≤ 6) : ∀ l ∈ t, l.length ≤ 1000 := by
  exact fun l hl => (h.lots l hl).2.2
theorem ok_fewest_houses (T : Txt K mg A B) (TM : PySem.TmX.TmTxt P K mg C fI) : FnOk P w K mg base (L2.CX P w) 6 A.fewest_houses B.fewest_houses ["folk", "table"] (sp_fewest K C) := by
  have G_check_folk := ok_check_folk (P := P) (w := w) (base := base) T
  have G_check_table := ok_check_table (P := P) (w := w) (base := base) T
  have G_check_many := ok_check_many (P := P) (w := w) (base := base) T TM
  have G_threes_of := ok_threes_of (P := P) (w := w) (base := base) T
  have G_unlike_last := ok_unlike_last (P := P) (w := w) (base := base) T
  have G_raw_web := ok_raw_web (P := P) (w := w) (base := base) T
  obtain ⟨t3, g_MOST_FOLK_building⟩ := T.g_MOST_FOLK_building
  refine T.F_fewest_houses.okX sc_fewest_houses (fun vs H Q E h => ?_) (fun cdv A' outer s H vs Q E hr h => ?_)
  · obtain ⟨n, t, N, _, hv, _⟩ := h
    exact hold_len hv
  obtain ⟨n, t, N, e, hv, hn16, hot, hw1, hw2, hq, hE⟩ := h
  obtain ⟨v, v1, rfl, hn, ht⟩ := hold2 hv
  clear hv
  refine ⟨_, (pss_cons (ps_expr (pe_call G_check_folk (hr.mono (by decide)) (by rfl) T.g_check_folk T.F_check_folk.kp T.b_check_folk .nil pass0 (pa_cons (pv 0) pa_nil)))
    (pss_cons (ps_expr (pe_call G_check_table (hr.mono (by decide)) (by rfl) T.g_check_table T.F_check_table.kp T.b_check_table .nil pass0 (pa_cons (pv 0) (pa_cons (pv 1) pa_nil))))
    (pss_cons (ps_expr (pe_call G_check_many (hr.mono (by decide)) (by rfl) T.g_check_many T.F_check_many.kp T.b_check_many .nil (passes_call (takes_of rfl rfl rfl rfl) (fun _ _ _ _ h => h)) (pa_cons (pv 0) (pa_cons (pe_glob (v := .int 3) (by rfl) g_MOST_FOLK_building ⟨_, rfl⟩) pa_nil))))
    (pss_cons (ps_for (passes_of rfl) (by rfl) (pi_listK (K := K) (pe_call G_threes_of (hr.mono (by decide)) (by rfl) T.g_threes_of T.F_threes_of.kp T.b_threes_of .nil pass0 (pa_cons (pv 0) (pa_cons pe_int pa_nil)))) (pg_name (i := 2) sc_fewest_houses.nd rfl (by first | exact Or.inl rfl | exact Or.inr rfl)) 
    (pss_one (ps_if (pt_cmpR op_isN (pe_call G_unlike_last (hr.mono (by decide)) (by rfl) T.g_unlike_last T.F_unlike_last.kp T.b_unlike_last .nil pass0 (pa_cons (pv 0) (pa_cons (pv 1) (pa_cons (pe_call G_raw_web (hr.mono (by decide)) (by rfl) T.g_raw_web T.F_raw_web.kp T.b_raw_web .nil pass0 (pa_cons (pv 0) (pa_cons (pe_lst (pa_cons (pv 2) pa_nil)) pa_nil))) pa_nil)))) pe_non (nomark _)) 
      (pss_one (ps_ret pe_int)) 
      pss_nil)))
    (pss_cons (ps_for (passes_of rfl) (by rfl) (pi_listK (K := K) (pe_call G_threes_of (hr.mono (by decide)) (by rfl) T.g_threes_of T.F_threes_of.kp T.b_threes_of .nil pass0 (pa_cons (pv 0) (pa_cons pe_int pa_nil)))) (pg_name (i := 3) sc_fewest_houses.nd rfl (by first | exact Or.inl rfl | exact Or.inr rfl)) 
    (pss_one (ps_for (passes_of rfl) (by rfl) (pi_listK (K := K) (pe_call G_threes_of (hr.mono (by decide)) (by rfl) T.g_threes_of T.F_threes_of.kp T.b_threes_of .nil pass0 (pa_cons (pv 0) (pa_cons pe_int pa_nil)))) (pg_name (i := 4) sc_fewest_houses.nd rfl (by first | exact Or.inl rfl | exact Or.inr rfl)) 
      (pss_one (ps_if (pt_cmpR op_isN (pe_call G_unlike_last (hr.mono (by decide)) (by rfl) T.g_unlike_last T.F_unlike_last.kp T.b_unlike_last .nil pass0 (pa_cons (pv 0) (pa_cons (pv 1) (pa_cons (pe_call G_raw_web (hr.mono (by decide)) (by rfl) T.g_raw_web T.F_raw_web.kp T.b_raw_web .nil pass0 (pa_cons (pv 0) (pa_cons (pe_lst (pa_cons (pv 3) (pa_cons (pv 4) pa_nil))) pa_nil))) pa_nil)))) pe_non (nomark _)) 
        (pss_one (ps_ret pe_int)) 
        pss_nil)))))
    (pss_one (ps_ret pe_non))))))), ?_⟩
  have en := is_int hn
  subst en
  have hl := okTab_lots hot (by omega)
  refine q_drop e (ev_call (n : Int) (by omega) (ea_cons (ev_var rfl (Dp.int (n : Nat))) ea_nil)) fun _ N1 H1 g1 _ => ?_
  refine q_drop g1.s (ev_call ((n : Int), t) ⟨by omega, hot⟩ (ea_cons (ev_var rfl (Dp.int (n : Nat))) (ea_cons (ev_var rfl ((is K _).st _ _ _ g1.n ht)) ea_nil))) fun _ N2 H2 g2 _ => ?_
  have g12 := g1.trans g2
  refine ⟨_, rfl, n, 3, rfl, fun c d hd => hE (by omega) d _ (g12.h.trans (Ex.new hd)) (g12.h.back hd) upd_same, fun c => ?_⟩
  have hn3 : n ≤ 3 := by omega
  have ht2 := (is K _).st _ _ _ g12.n ht
  -- one house
  refine q_for (threesM n 1) (fun h => is K (encHs h)) g12.s (ei_list (ev_threes (f := n) (k := 1) (by omega) (ev_var rfl (Dp.int (n : Nat))) ev_int)) fun N3 H3 g3 => ?_
  have g13 := g12.trans g3
  refine ⟨fun i σ H4 => ∃ (a : Option V) (N4 : Hp), σ = [some (.int (n : Nat)), some v1, a, none, none] ∧ Go N H N4 H4 ∧ Ex N3 N4 ∧ ((threesM n 1).take i).any (fun h => alikeM n t [h]) = false,
    ⟨none, N3, rfl, g13, Ex.refl _, rfl⟩, ?_, ?_, ?_⟩
  · rintro i σ H4 ⟨_, N4, _, g4, e4, _⟩
    exact e4.trans g4.s
  · rintro i h y σ H4 hi fy ⟨a, N4, rfl, g4, e4, hany⟩
    have hm := List.mem_of_getElem? hi
    have hw := hw1 h hm
    have fy4 := (is K _).st _ _ _ e4 fy
    have ht4 := (is K _).st _ _ _ g4.n ht
    refine s_when (b := alikeM n t [h]) g4.s (et_isN (ev_call (⟨n, t, [h]⟩ : UnT) ⟨by show n ≤ 6; omega, hot.few, hl, hw.few, fun x hx => (hw.ok x hx).1⟩ (ea_cons (ev_var rfl (Dp.int (n : Nat))) (ea_cons (ev_var rfl ht4) (ea_cons (ev_call (n, [h]) hw (ea_cons (ev_var rfl (Dp.int (n : Nat))) (ea_cons (ev_lst (ds := [encHs h]) (ea_cons (ev_var rfl fy4) ea_nil) (Nat.le_of_ble_eq_true rfl)) ea_nil))) ea_nil))))) (fun hb N5 H5 g5 => ?_) (fun hb N5 H5 g5 => ?_)
    · refine s_ret g5.s (ev_int (K := K)) fun v' N' H' g fv => hq hn3 v' N' H' ((g4.trans g5).trans g) ?_
      unfold fewD
      rw [if_pos (any_true hm hb)]
      exact fv
    · exact ⟨_, N5, rfl, g4.trans g5, e4.trans g5.n, any_take_false hi hany hb⟩
  rintro σ H4 ⟨a, N4, rfl, g4, e4, hany⟩
  rw [List.take_length] at hany
  -- two houses
  refine q_for (threesM n 2) (fun h => is K (encHs h)) g4.s (ei_list (ev_threes (f := n) (k := 2) (by omega) (ev_var rfl (Dp.int (n : Nat))) ev_int)) fun N5 H5 g5 => ?_
  have g15 := g4.trans g5
  refine ⟨fun i σ H6 => ∃ (b c : Option V) (N6 : Hp), σ = [some (.int (n : Nat)), some v1, a, b, c] ∧ Go N H N6 H6 ∧ Ex N5 N6 ∧ ((threesM n 2).take i).any (fun x => (threesM n 2).any fun y => alikeM n t [x, y]) = false,
    ⟨none, none, N5, rfl, g15, Ex.refl _, rfl⟩, ?_, ?_, ?_⟩
  · rintro i σ H6 ⟨_, _, N6, _, g6, e6, _⟩
    exact e6.trans g6.s
  · rintro i x vx σ H6 hi fx ⟨b, c, N6, rfl, g6, e6, hany2⟩
    have hmx := List.mem_of_getElem? hi
    have fx6 := (is K _).st _ _ _ e6 fx
    refine s_for (threesM n 2) (fun h => is K (encHs h)) g6.s (ei_list (ev_threes (f := n) (k := 2) (by omega) (ev_var rfl (Dp.int (n : Nat))) ev_int)) fun N7 H7 g7 => ?_
    have g17 := g6.trans g7
    refine ⟨fun j σ H8 => ∃ (c : Option V) (N8 : Hp), σ = [some (.int (n : Nat)), some v1, a, some vx, c] ∧ Go N H N8 H8 ∧ Ex N7 N8 ∧ ((threesM n 2).take j).any (fun y => alikeM n t [x, y]) = false,
      ⟨c, N7, rfl, g17, Ex.refl _, rfl⟩, ?_, ?_, ?_⟩
    · rintro j σ H8 ⟨_, N8, _, g8, e8, _⟩
      exact e8.trans g8.s
    · rintro j y vy σ H8 hj fy ⟨c, N8, rfl, g8, e8, hany3⟩
      have hmy := List.mem_of_getElem? hj
      have hw := hw2 x hmx y hmy
      have fy8 := (is K _).st _ _ _ e8 fy
      have fx8 := (is K _).st _ _ _ (g7.n.trans e8) fx6
      have ht8 := (is K _).st _ _ _ g8.n ht
      refine s_when (b := alikeM n t [x, y]) g8.s (et_isN (ev_call (⟨n, t, [x, y]⟩ : UnT) ⟨by show n ≤ 6; omega, hot.few, hl, hw.few, fun z hz => (hw.ok z hz).1⟩ (ea_cons (ev_var rfl (Dp.int (n : Nat))) (ea_cons (ev_var rfl ht8) (ea_cons (ev_call (n, [x, y]) hw (ea_cons (ev_var rfl (Dp.int (n : Nat))) (ea_cons (ev_lst (ds := [encHs x, encHs y]) (ea_cons (ev_var rfl fx8) (ea_cons (ev_var rfl fy8) ea_nil)) (Nat.le_of_ble_eq_true rfl)) ea_nil))) ea_nil))))) (fun hb N9 H9 g9 => ?_) (fun hb N9 H9 g9 => ?_)
      · refine s_ret g9.s (ev_int (K := K)) fun v' N' H' g fv => hq hn3 v' N' H' ((g8.trans g9).trans g) ?_
        unfold fewD
        rw [if_neg (by rw [hany]; exact Bool.false_ne_true), if_pos (any_true hmx (any_true hmy hb))]
        exact fv
      · exact ⟨_, N9, rfl, g8.trans g9, e8.trans g9.n, any_take_false hj hany3 hb⟩
    · rintro σ H8 ⟨c, N8, rfl, g8, e8, hany3⟩
      rw [List.take_length] at hany3
      exact ⟨_, _, N8, rfl, g8, e6.trans (g7.n.trans e8), any_take_false hi hany2 hany3⟩
  · rintro σ H6 ⟨b, c, N6, rfl, g6, e6, hany2⟩
    rw [List.take_length] at hany2
    refine s_ret g6.s (ev_non (K := K)) fun v' N' H' g fv => hq hn3 v' N' H' (g6.trans g) ?_
    unfold fewD
    rw [if_neg (by rw [hany]; exact Bool.false_ne_true), if_neg (by rw [hany2]; exact Bool.false_ne_true)]
    exact fv
end
end Rk
end PartRkF11

section PartRkF12
set_option Elab.async false
set_option linter.all false
set_option maxRecDepth 100000
set_option maxHeartbeats 400000
namespace Rk
open PySem PySem.Spec PyProof.Rows L2 RkS DX
theorem cr_sortedK {X : Cx} {K : PySem.W.Frag} (h : X.K = K := by rfl) : CallR X (.builtin "sorted") (rSorted K) := by
  subst h
  exact cr_sorted
def sgn (x : Ho) : Str := Str.ofString (if x.1 = true then "h" else "f")
def selL (lot fd : List Int) (x : Ho) : Bool := (decide (sgn x = Str.ofString "f") && decide ((x.2 : Int) ∈ lot)) || (decide (sgn x = Str.ofString "h") && decide ((x.2 : Int) ∈ fd))
def halfL (h : List Ho) (lot fd : List Int) : Bool := decide ((h.length : Int) < 2 * ((h.filter (selL lot fd)).length : Int))
def Tl (hs : List (List Ho)) (lot : List Int) (fd : List Int) (i : Nat) : Bool := halfL (hs.getD i []) lot fd
def carL (hs : List (List Ho)) (lot : List Int) : List Int := pl (Tl hs lot) hs.length (hs.length + 1) []
/-- a list of these ints in an order -/
def PermP (K : PySem.W.Frag) (R : List Int) : Pr where
  p v N := ∃ ns : List Int, ns.Perm R ∧ is K (.list (ns.map .int)) v N
  st := fun v N M e ⟨ns, h1, h2⟩ => ⟨ns, h1, dp_ex e _ _ h2⟩
structure LcIn (hs : List (List Ho)) (lot : List Int) : Prop where
  fewh : hs.length ≤ 60
  few : ∀ h ∈ hs, h.length ≤ 1000
  fewl : lot.length ≤ 1000
section
variable {P : Program} {w : World} {K : PySem.W.Frag} {mg : Str → Option Value} {base : Heap} {A : Ad} {B : Fd}
variable {σ : L2.St} {N : Hp} {ta tb tc te ty td : TE}
abbrev sp_lcar (K : PySem.W.Frag) : Sp := FnP (T := CaT) (fun x => [is K (.tuple [.int (x.f : Nat), .tuple (x.hs.map encHs)]), is K (tupI x.lot)]) (fun x => LcIn x.hs x.lot) (fun x => PermP K (carL x.hs x.lot))
theorem ev_sel {lot fd : List Int} {x : Ho} {vx : V} {i j k : Nat} (hi : σ[i]? = some (some vx)) (fx : is K (encHo x) vx N) (hl : EvP (tVar j) σ N (is K (tupI lot))) (hd : EvP (tVar k) σ N (DictP fd)) :
    EvT (tOr (tAnd (tTest (tOp rEq (tOp (rIxT K) (tVar i) (tC (.int 0))) (tC (.str (Str.ofString "f"))))) (tTest (tOp (rIn K false) (tOp (rIxT K) (tVar i) (tC (.int 1))) (tVar j)))) (tAnd (tTest (tOp rEq (tOp (rIxT K) (tVar i) (tC (.int 0))) (tC (.str (Str.ofString "h"))))) (tB (tDIn (tOp (rIxT K) (tVar i) (tC (.int 1))) (tVar k))))) σ N (selL lot fd x) := by
  have h0 : EvP (tOp (rIxT K) (tVar i) (tC (.int 0))) σ N (is K (.str (sgn x))) := ev_ixT (ev_var hi fx) ev_int rfl
  have h1 : EvP (tOp (rIxT K) (tVar i) (tC (.int 1))) σ N (is K (.int (x.2 : Nat))) := ev_ixT (ev_var hi fx) ev_int rfl
  exact et_or (et_and (et_test (ev_eqS h0 ev_str)) fun _ => et_test ((ev_inT (neg := false) h1 hl).cast rfl)) fun _ => et_and (et_test (ev_eqS h0 ev_str)) fun _ => et_B (ev_din h1 hd)
theorem ok_law_carried (T : Txt K mg A B) : FnOk P w K mg base CX0 1 A._law_carried B._law_carried ["_law_told", "_law_lot"] (sp_lcar K) := by
  refine T.F__law_carried.ok sc__law_carried (FnP.len fun _ => rfl) (fun cdv A' outer s H vs Q E hr h => ?_)
  obtain ⟨⟨f, hs, lot⟩, N, hp, e, hv, q⟩ := h
  replace hp : LcIn hs lot := hp
  obtain ⟨v, v1, rfl, ht, hlot⟩ := hold2 hv
  clear hv
  refine ⟨_, (pss_cons (ps_set (i := 2) sc__law_carried.nd rfl (by first | exact Or.inl rfl | exact Or.inr rfl) pe_dnewK)
    (pss_cons (ps_for PassesOwn.never (by rfl) (pi_range1 (by rfl) T.n_range (pa_cons (pe_op op_add (pe_callB (cr_len (K := K)) (by rfl) T.n_len (by decide +kernel) (pa_cons (pe_ix (ixT (K := K)) (pv 0) pe_int (fun _ _ => rfl)) pa_nil)) pe_int) pa_nil)) (pg_name (i := 3) sc__law_carried.nd rfl (by first | exact Or.inl rfl | exact Or.inr rfl)) 
    (pss_cons (ps_set (i := 4) sc__law_carried.nd rfl (by first | exact Or.inl rfl | exact Or.inr rfl) (pe_callB call_lenD (by rfl) T.n_len (by decide +kernel) (pa_cons (pv 2) pa_nil)))
      (pss_cons (ps_for PassesOwn.never (by rfl) (pi_range1 (by rfl) T.n_range (pa_cons (pe_callB (cr_len (K := K)) (by rfl) T.n_len (by decide +kernel) (pa_cons (pe_ix (ixT (K := K)) (pv 0) pe_int (fun _ _ => rfl)) pa_nil)) pa_nil)) (pg_name (i := 5) sc__law_carried.nd rfl (by first | exact Or.inl rfl | exact Or.inr rfl)) 
      (pss_one (ps_if (pt_cmp (pc_dnotin (hu_of hr) (pv 5) (pv 2))) 
        (pss_cons (ps_set (i := 6) sc__law_carried.nd rfl (by first | exact Or.inl rfl | exact Or.inr rfl) (pe_callB (cr_len (K := K)) (by rfl) T.n_len (by decide +kernel) (pa_cons (pe_lc (own := [("_law_one", 7)]) (g := gName 7) (by rfl) sc__law_carried.nd (pi_tupK (K := K) (pe_ix (ixT (K := K)) (pe_ix (ixT (K := K)) (pv 0) pe_int (fun _ _ => rfl)) (pv 5) (fun _ _ => rfl))) (blkOk_by (own := [("_law_one", 7)]) (N := N__law_carried) (sc := defScope s__law_carried) (by decide +kernel)) (fun _ _ _ _ _ => (pg_name (i := 7) sc__law_carried.nd rfl (by first | exact Or.inl rfl | exact Or.inr rfl))) (fun _ _ _ _ _ => pts_one (PW.pt (pw_or (PW.pt (pw_and (pt_cmpR op_eq (pe_ix (ixT (K := K)) (pv 7) pe_int (fun _ _ => rfl)) pe_str (nomark _)) (pw_and1 (pt_cmpR (op_inK (K := K)) (pe_ix (ixT (K := K)) (pv 7) pe_int (fun _ _ => rfl)) (pv 1) (by rfl))))) (pw_or1 (PW.pt (pw_and (pt_cmpR op_eq (pe_ix (ixT (K := K)) (pv 7) pe_int (fun _ _ => rfl)) pe_str (nomark _)) (pw_and1 (pt_cmp (pc_din (hu_of hr) (pe_ix (ixT (K := K)) (pv 7) pe_int (fun _ _ => rfl)) (pv 2)))))))))) (fun _ _ _ _ _ => (pv 7))) pa_nil)))
          (pss_one (ps_if (pt_cmpR op_gt (pe_op op_mul pe_int (pv 6)) (pe_callB (cr_len (K := K)) (by rfl) T.n_len (by decide +kernel) (pa_cons (pe_ix (ixT (K := K)) (pe_ix (ixT (K := K)) (pv 0) pe_int (fun _ _ => rfl)) (pv 5) (fun _ _ => rfl)) pa_nil)) (nomark _)) 
          (pss_one (ps_dput (hu_of hr) (pv 2) (pv 5) pe_bl rfl)) 
          pss_nil))) 
        pss_nil)))
      (pss_one (ps_if (pt_cmpR op_eq (pe_callB call_lenD (by rfl) T.n_len (by decide +kernel) (pa_cons (pv 2) pa_nil)) (pv 4) (nomark _)) 
      (pss_one ps_break) 
      pss_nil)))))
    (pss_one (ps_ret (pe_callB (cr_sortedK (K := K)) (by rfl) T.n_sorted (by decide +kernel) (pa_cons (pe_callTy (call_list_dK rfl) (by rfl) T.n_list (by decide +kernel) (pa_cons (pv 2) pa_nil)) pa_nil)))))), ?_⟩
  have hk := hp.fewh
  have hlen : (hs.map encHs).length = hs.length := List.length_map ..
  refine fun dd hdd => ?_
  obtain ⟨g1, c1⟩ := Cl.mk' (o := .dK []) (Go.refl e) hdd
  obtain ⟨R, hR⟩ : ∃ R, R = carL hs lot := ⟨_, rfl⟩
  have fin : ∀ (D : Ends), D.rt = Q → ∀ (a b c d : Option V) (N5 H5 : Hp) (fd : List Int) (kvs : List (Key × V)), Go N H N5 H5 → Cl H N5 H5 dd (.dK kvs) → Keys fd kvs → fd = R → GoodF hs.length fd → tRet (tCB (rSorted K) (tCons (tCB rListD (tCons (tVar 2) tNil)) tNil)) D [some v, some v1, some (.ref dd), a, b, c, d, none] H5 := by
    intro D hD a b c d N5 H5 fd kvs g5 c5 k5 hfd gd
    have hkl := keys_len k5
    unfold GoodF at gd
    refine ⟨_, rfl, dd, kvs, rfl, c5.h, fun p hp => ?_⟩
    have ekv : kvs.map (fun kv => kV kv.1) = fd.map V.int := by
      have := congrArg (List.map kV) k5
      rw [List.map_map, List.map_map] at this
      exact this
    obtain ⟨g6, c6⟩ := Cl.mk' (o := .lst (fd.map V.int)) g5 hp
    refine ⟨p, fd, rfl, .inl (.inl ?_), by omega, fun ns' p2 hpm hpw hp2 => ?_⟩
    · show (upd H5 p _) p = _
      rw [upd_same, ← ekv]
      try rfl
    · rw [hD]
      have hp2' : (upd H5 p (.lst (fd.map V.int))) p2 = none := by
        rw [← ekv]
        exact hp2
      have g7 := Go.new (o := .lst (ns'.map V.int)) g6.s hp2'
      have := q (.ref p2) _ _ (g6.trans g7) ⟨ns', by rw [← hR, ← hfd]; exact hpm, mk_lst upd_same (dpAll_ints ns')⟩
      rw [← ekv] at this
      exact this
  refine q_for (List.range (hs.length + 1)) (fun i => is K (.int (0 + (i : Nat)))) g1.s (ei_rng1 (K := K) (n := ((hs.length + 1 : Nat) : Int)) (ea_cons ((ev_add (ev_lenT (ev_ixT (d := .tuple (hs.map encHs)) (ev_var rfl ht) ev_int rfl)) ev_int).cast (by rw [hlen] <;> rfl)) ea_nil) (by omega) (by omega)) fun N2 H2 g2 => ?_
  have g12 := g1.trans g2
  refine ⟨fun j σ H5 => ∃ (a b c d : Option V) (fd : List Int) (kvs : List (Key × V)) (N5 : Hp), σ = [some v, some v1, some (.ref dd), a, b, c, d, none] ∧ Go N H N5 H5 ∧ Ex N2 N5 ∧ Cl H N5 H5 dd (.dK kvs) ∧ Keys fd kvs ∧ GoodF hs.length fd ∧ pl (Tl hs lot) hs.length (hs.length + 1 - j) fd = R,
    ⟨none, none, none, none, [], [], N2, rfl, g12, Ex.refl _, c1.go g2, rfl, ?_, hR.symm⟩, ?_, ?_, ?_⟩
  · unfold GoodF
    rw [free_nil]
    exact Nat.le_of_eq (Nat.zero_add _)
  · rintro i σ H5 ⟨_, _, _, _, _, _, N5, _, g5, e5, _⟩
    exact e5.trans g5.s
  · rintro j y0 y σ H5 hj fy ⟨a, b, c, d, fd, kvs, N5, rfl, g5, e5, c5, k5, gd5, hpl⟩
    have hjk : j < hs.length + 1 := by
      have := (List.getElem?_eq_some_iff.mp hj).1
      rw [List.length_range] at this
      exact this
    have hkl := keys_len k5
    -- how many there are
    refine ⟨_, rfl, dd, kvs, rfl, c5.h, ?_⟩
    have ht5 := (is K _).st _ _ _ g5.n ht
    refine q_for (List.range hs.length) (fun i => is K (.int (0 + (i : Nat)))) g5.s (ei_rng1 (K := K) (n := (hs.length : Nat)) (ea_cons ((ev_lenT (ev_ixT (d := .tuple (hs.map encHs)) (ev_var rfl ht5) ev_int rfl)).cast (by rw [hlen])) ea_nil) (by omega) (by omega)) fun N8 H8 g8 => ?_
    refine ⟨fun i σ H9 => ∃ (c d : Option V) (fdj : List Int) (kvs' : List (Key × V)) (N9 : Hp), σ = [some v, some v1, some (.ref dd), some y, some (.int kvs.length), c, d, none] ∧ fdj = ((List.range hs.length).take i).foldl (one (Tl hs lot)) fd ∧ Go N H N9 H9 ∧ Ex N8 N9 ∧ Cl H N9 H9 dd (.dK kvs') ∧ Keys fdj kvs' ∧ GoodF hs.length fdj ∧ fd.length ≤ fdj.length,
      ⟨c, d, fd, kvs, N8, rfl, rfl, g5.trans g8, Ex.refl _, c5.go g8, k5, gd5, Nat.le_refl _⟩, ?_, ?_, ?_⟩
    · rintro i σ H9 ⟨_, _, _, _, N9, _, _, g9, e9, _⟩
      exact e9.trans g9.s
    · rintro i i0 z σ H9 hi fz ⟨c, d, fdj, kvs', N9, rfl, hfd, g9, e9, c9, k9, gd9, le9⟩
      have hik : i < hs.length := by
        have := (List.getElem?_eq_some_iff.mp hi).1
        rw [List.length_range] at this
        exact this
      rw [List.getElem?_range hik] at hi
      have ei := Option.some.inj hi
      subst ei
      have ez := is_int fz
      rw [Int.zero_add] at ez
      subst ez
      obtain ⟨h, hh⟩ : ∃ h, hs[i]? = some h := ⟨_, List.getElem?_eq_getElem hik⟩
      have hhm := hp.few h (List.mem_of_getElem? hh)
      have hTl : Tl hs lot fdj i = halfL h lot fdj := by
        unfold Tl
        rw [List.getD_eq_getElem?_getD, hh] <;> rfl
      have hnext : ((List.range hs.length).take (i + 1)).foldl (one (Tl hs lot)) fd = one (Tl hs lot) fdj i := by
        rw [range_foldl_next hik, ← hfd]
      have hgood := gd9.one (T := Tl hs lot) hik
      have hmem := keys_len k9
      have e89 := g5.n.trans (g8.n.trans e9)
      have eK : Ex N9 (upd N9 dd (.dK kvs')) := Ex.new c9.n
      have hlK := (is K (tupI lot)).st _ _ _ (g9.n.trans eK) hlot
      have htK := (is K (.tuple [.int (f : Nat), .tuple (hs.map encHs)])).st _ _ _ (g9.n.trans eK) ht
      have hdK : DictP fdj (.ref dd) (upd N9 dd (.dK kvs')) := ⟨dd, kvs', rfl, upd_same, k9⟩
      refine et_B (K := K) (ev_dni (ev_var rfl (Dp.int (i : Nat))) (ev_var rfl hdK)) H9 (ex_know g9.s c9.h) _ fun N10 H10 g10 => ?_
      obtain ⟨g11, c11, _, e11⟩ := g9.unknow c9 g10
      cases hb : (!decide ((i : Int) ∈ fdj)) with
      | false =>
        rw [if_neg Bool.false_ne_true]
        have hone : one (Tl hs lot) fdj i = fdj := by
          unfold one
          rw [hb, Bool.false_and, if_neg Bool.false_ne_true]
        exact ⟨_, _, fdj, kvs', erase N10 dd, rfl, by rw [hnext, hone], g11, e9.trans e11, c11, k9, gd9, le9⟩
      | true =>
        rw [if_pos rfl]
        have eK2 : Ex (erase N10 dd) (upd (erase N10 dd) dd (.dK kvs')) := Ex.new c11.n
        have hlK2 := (is K (tupI lot)).st _ _ _ (g11.n.trans eK2) hlot
        have htK2 := (is K (.tuple [.int (f : Nat), .tuple (hs.map encHs)])).st _ _ _ (g11.n.trans eK2) ht
        have hdK2 : DictP fdj (.ref dd) (upd (erase N10 dd) dd (.dK kvs')) := ⟨dd, kvs', rfl, upd_same, k9⟩
        -- the shares
        refine (ev_lenL (ev_lc (K := K) (vs := [7]) h _ (selL lot fdj) encHo (ei_tup (enc := encHo) (ev_ixT (d := encHs h) (ev_ixT (d := .tuple (hs.map encHs)) (ev_var rfl htK2) ev_int rfl) (ev_var rfl (Dp.int (i : Nat))) (atI_map hh))) (by omega) fun x hx vx M eM fx => ⟨_, eg_name, rfl, ev_sel rfl fx (ev_var rfl ((is K _).st _ _ _ eM hlK2)) (ev_var rfl ((DictP fdj).st _ _ _ eM hdK2)), fun _ => ev_var rfl fx⟩)) H10 (ex_know g11.s c11.h) _ fun vs2 N12 H12 g12 fs2 => ?_
        obtain ⟨g13, c13, _, e13⟩ := g11.unknow c11 g12
        have es := is_int fs2
        rw [List.length_map] at es
        subst es
        have ht13 := (is K (.tuple [.int (f : Nat), .tuple (hs.map encHs)])).st _ _ _ g13.n ht
        refine s_when (b := halfL h lot fdj) g13.s (et_test (K := K) ((ev_gt (ev_mul ev_int (ev_var rfl (Dp.int ((h.filter (selL lot fdj)).length : Nat))) (.inl ⟨by decide, by decide⟩)) (ev_lenT (ev_ixT (d := encHs h) (ev_ixT (d := .tuple (hs.map encHs)) (ev_var rfl ht13) ev_int rfl) (ev_var rfl (Dp.int (i : Nat))) (atI_map hh)))).cast ?_)) (fun hb2 N14 H14 g14 => ?_) (fun hb2 N14 H14 g14 => ?_)
        · unfold halfL
          rw [List.length_map]
        · have hone : one (Tl hs lot) fdj i = fdj ++ [(i : Int)] := by
            unfold one
            rw [hTl, hb, hb2, Bool.true_and, if_pos rfl]
          have c14 := c13.go g14
          rw [Bool.not_eq_true', decide_eq_false_iff_not] at hb
          refine ⟨_, rfl, _, rfl, dd, _, rfl, DPut.k (k := Sum.inl (i : Int)) c14.h (sz_lt ?_), ?_⟩
          · unfold GoodF at gd9
            omega
          · exact ⟨some (.int (i : Nat)), _, fdj ++ [(i : Int)], _, N14, rfl, by rw [hnext, hone], (g13.trans g14).put c14, (e9.trans (e11.trans e13)).trans g14.n, c14.put, keys_put k9 hb _, by rw [← hone]; exact hgood, by rw [List.length_append]; omega⟩
        · have hone : one (Tl hs lot) fdj i = fdj := by
            unfold one
            rw [hTl, hb, hb2, Bool.true_and, if_neg Bool.false_ne_true]
          exact ⟨some (.int (i : Nat)), _, fdj, kvs', N14, rfl, by rw [hnext, hone], g13.trans g14, (e9.trans (e11.trans e13)).trans g14.n, c13.go g14, k9, gd9, le9⟩
    · rintro σ H9 ⟨c, d, fdj, kvs', N9, rfl, hfd, g9, e9, c9, k9, gd9, le9⟩
      rw [List.length_range, List.take_of_length_le (by rw [List.length_range]; exact Nat.le_refl _)] at hfd
      have hsw : fdj = sw (Tl hs lot) hs.length fd := hfd
      have hkl2 := keys_len k9
      have hm1 : hs.length + 1 - j = (hs.length + 1 - (j + 1)) + 1 := by omega
      rw [hm1, pl, ← hsw] at hpl
      have e59 := e5.trans (g8.n.trans e9)
      -- len(found) == many
      refine ⟨_, rfl, dd, kvs', rfl, c9.h, _, rfl, rfl, _, rfl, ?_⟩
      show if decide (V.int kvs'.length = V.int kvs.length) = true then _ else _
      rw [dec_inj]
      by_cases hle : fdj.length ≤ fd.length
      · rw [if_pos (decide_eq_true (by omega))]
        rw [if_pos hle] at hpl
        exact fin _ rfl (some y) (some (.int kvs.length)) c d N9 H9 fdj kvs' g9 c9 k9 hpl gd9
      · rw [if_neg (by rw [decide_eq_false (by omega)]; exact Bool.false_ne_true)]
        rw [if_neg hle] at hpl
        exact ⟨some y, some (.int kvs.length), c, d, fdj, kvs', N9, rfl, g9, e59, c9, k9, gd9, hpl⟩
  · rintro σ H5 ⟨a, b, c, d, fd, kvs, N5, rfl, g5, e5, c5, k5, gd5, hpl⟩
    rw [List.length_range, Nat.sub_self] at hpl
    exact fin _ rfl a b c d N5 H5 fd kvs g5 c5 k5 hpl gd5
end
end Rk
end PartRkF12

section PartRkF13
set_option Elab.async false
set_option linter.all false
set_option maxRecDepth 100000
set_option maxHeartbeats 400000
namespace Rk
open PySem PySem.Spec PyProof.Rows L2 RkS DX
def hasL (n : Nat) (hs : List (List Ho)) (t : List (List Int)) : Bool := (lotsM n).all fun l => lawBy t l == decide (((hs.length : Int) - 1) ∈ carL hs l)
def fewL (n : Nat) (t : List (List Int)) : PyData :=
  if 0 < ((threesM n 1).filter fun h => hasL n [h] t).length then .int 1
  else if ((threesM n 2).any fun b => (threesM n 2).any fun a => hasL n [a, b] t) = true then .int 2 else .none
structure HaIn (n : Nat) (hs : List (List Ho)) (t : List (List Int)) : Prop where
  n6 : n ≤ 6
  fewt : t.length ≤ 1000
  fewl : ∀ l ∈ t, l.length ≤ 1000
  fewh : hs.length ≤ 60
  few : ∀ h ∈ hs, h.length ≤ 1000
section
variable {P : Program} {w : World} {K : PySem.W.Frag} {mg : Str → Option Value} {base : Heap} {A : Ad} {B : Fd}
variable {σ : L2.St} {N : Hp} {ta tb tc te ty td : TE}
theorem ev_inPerm {R : List Int} {i : Int} (ha : EvP ta σ N (is K (.int i))) (hb : EvP tb σ N (PermP K R)) : EvP (tOp (rIn K false) ta tb) σ N (is K (.bool (decide (i ∈ R)))) :=
  ev_op ha hb fun x y M e fx fy H eh Q q => by
    obtain ⟨ns, hpm, fy⟩ := fy
    obtain ⟨a, xs, rfl, hs, hd⟩ := is_lst fy
    have ex := ints_dpAll hd
    subst ex
    have e1 := is_int fx
    subst e1
    refine ⟨a, _, rfl, .inl (sqL_ex eh hs), rfl, all_flat ns, q _ M H (Go.refl eh) ?_⟩
    rw [inV_int]
    have : decide (i ∈ ns) = decide (i ∈ R) := decide_eq_decide.mpr hpm.mem_iff
    rw [this]
    exact .bl _
abbrev sp_has (K : PySem.W.Frag) : Sp := FnP (T := UnT) (fun x => [is K (.int (x.n : Nat)), is K (.tuple (x.hs.map encHs)), is K (tabD x.t)]) (fun x => HaIn x.n x.hs x.t) (fun x => is K (.bool (hasL x.n x.hs x.t)))
theorem ok_law_has (T : Txt K mg A B) : FnOk P w K mg base CX0 2 A._law_has B._law_has ["_law_folk", "_law_houses", "_law_made_table"] (sp_has K) := by
  have G__law_lots := ok_law_lots (P := P) (w := w) (base := base) T
  have G__law_by := ok_law_by (P := P) (w := w) (base := base) T
  have G__law_carried := ok_law_carried (P := P) (w := w) (base := base) T
  refine T.F__law_has.ok sc__law_has (FnP.len fun _ => rfl) (fun cdv A' outer s H vs Q E hr h => ?_)
  obtain ⟨⟨n, t, hs⟩, N, hp, e, hv, q⟩ := h
  replace hp : HaIn n hs t := hp
  obtain ⟨v, v1, v2, rfl, hn, hh, ht⟩ := hold3 hv
  clear hv
  refine ⟨_, (pss_cons (ps_set (i := 3) sc__law_has.nd rfl (by first | exact Or.inl rfl | exact Or.inr rfl) (pe_op op_sub (pe_callB (cr_len (K := K)) (by rfl) T.n_len (by decide +kernel) (pa_cons (pv 1) pa_nil)) pe_int))
    (pss_cons (ps_for PassesOwn.never (by rfl) (pi_listK (K := K) (pe_call G__law_lots (hr.mono (by decide)) (by rfl) T.g__law_lots T.F__law_lots.kp T.b__law_lots .nil pass0 (pa_cons (pv 0) pa_nil))) (pg_name (i := 4) sc__law_has.nd rfl (by first | exact Or.inl rfl | exact Or.inr rfl)) 
    (pss_one (ps_if (pt_cmpR op_ne (pe_call G__law_by (hr.mono (by decide)) (by rfl) T.g__law_by T.F__law_by.kp T.b__law_by .nil pass0 (pa_cons (pv 2) (pa_cons (pv 4) pa_nil))) (pe_cmpR (op_inK (K := K)) (pv 3) (pe_call G__law_carried (hr.mono (by decide)) (by rfl) T.g__law_carried T.F__law_carried.kp T.b__law_carried .nil pass0 (pa_cons (pe_tup (pa_cons (pv 0) (pa_cons (pv 1) pa_nil))) (pa_cons (pv 4) pa_nil))) (by rfl)) (nomark _)) 
      (pss_one (ps_ret pe_bl)) 
      pss_nil)))
    (pss_one (ps_ret pe_bl)))), ?_⟩
  have en := is_int hn
  subst en
  refine q_asg e ((ev_sub (ev_lenT (ev_var rfl hh)) ev_int).cast (d' := .int ((hs.length : Int) - 1)) (by rw [List.length_map])) fun vl N1 H1 g1 fl => ?_
  refine q_for (lotsM n) (fun l => is K (tupI l)) g1.s (ei_list (ev_call n hp.n6 (ea_cons (ev_var rfl (Dp.int _)) ea_nil))) fun N2 H2 g2 => ?_
  have g12 := g1.trans g2
  refine ⟨fun i σ H3 => ∃ (a : Option V) (N3 : Hp), σ = [some (.int (n : Nat)), some v1, some v2, some vl, a] ∧ Go N H N3 H3 ∧ Ex N2 N3 ∧ ((lotsM n).take i).all (fun l => lawBy t l == decide (((hs.length : Int) - 1) ∈ carL hs l)) = true,
    ⟨none, N2, rfl, g12, Ex.refl _, rfl⟩, ?_, ?_, ?_⟩
  · rintro i σ H3 ⟨_, N3, _, g3, e3, _⟩
    exact e3.trans g3.s
  · rintro i l y σ H3 hi fy ⟨a, N3, rfl, g3, e3, hall⟩
    have hl := lotsM_mem (List.mem_of_getElem? hi)
    have hll := lotsR_item hl
    have h6 := hp.n6
    have fy3 := (is K _).st _ _ _ e3 fy
    have hh3 := (is K _).st _ _ _ g3.n hh
    have ht3 := (is K _).st _ _ _ g3.n ht
    have fl3 := (is K _).st _ _ _ (g2.n.trans e3) fl
    refine s_when (b := !decide (lawBy t l = decide (((hs.length : Int) - 1) ∈ carL hs l))) g3.s (et_test (K := K) (ev_neB (ev_call (t, l) ⟨hp.fewt, hp.fewl⟩ (ea_cons (ev_var rfl ht3) (ea_cons (ev_var rfl fy3) ea_nil))) (ev_inPerm (ev_var rfl fl3) (ev_call (⟨n, hs, l⟩ : CaT) ⟨hp.fewh, hp.few, by show l.length ≤ 1000; omega⟩ (ea_cons (ev_tup (ds := [.int (n : Nat), .tuple (hs.map encHs)]) (ea_cons (ev_var rfl (Dp.int _)) (ea_cons (ev_var rfl hh3) ea_nil)) (Nat.le_of_ble_eq_true rfl)) (ea_cons (ev_var rfl fy3) ea_nil)))))) (fun hb N4 H4 g4 => ?_) (fun hb N4 H4 g4 => ?_)
    · rw [Bool.not_eq_true', decide_eq_false_iff_not] at hb
      refine s_ret g4.s (ev_bl (K := K)) fun v' N' H' g fv => q v' N' H' ((g3.trans g4).trans g) ?_
      have hf : hasL n hs t = false := by
        unfold hasL
        rw [List.all_eq_false]
        exact ⟨l, List.mem_of_getElem? hi, by simpa using hb⟩
      show is K (.bool (hasL n hs t)) v' N'
      rw [hf]
      exact fv
    · rw [Bool.not_eq_false', decide_eq_true_eq] at hb
      exact ⟨_, N4, rfl, g3.trans g4, e3.trans g4.n, all_take hi hall (by rw [hb]; simp)⟩
  · rintro σ H3 ⟨a, N3, rfl, g3, e3, hall⟩
    rw [List.take_length] at hall
    refine s_ret g3.s (ev_bl (K := K)) fun v' N' H' g fv => q v' N' H' (g3.trans g) ?_
    show is K (.bool (hasL n hs t)) v' N'
    unfold hasL
    rw [hall]
    exact fv
abbrev sp_lfew (K : PySem.W.Frag) : Sp := FnP (T := Nat × List (List Int)) (fun x => [is K (.int (x.1 : Nat)), is K (tabD x.2)]) (fun x => (x.1 ≤ 6 ∧ x.2.length ≤ 1000 ∧ ∀ l ∈ x.2, l.length ≤ 1000) ∧ (threesM x.1 1).length ≤ 1000 ∧ (∀ h ∈ threesM x.1 1, h.length ≤ 1000) ∧ (∀ h ∈ threesM x.1 2, h.length ≤ 1000)) (fun x => is K (fewL x.1 x.2))
theorem ev_lthrees {f k : Nat} {E : XK} (h : f + k ≤ 8) (h1 : EvP ta σ N (is K (.int (f : Nat)))) (h2 : EvP tb σ N (is K (.int (k : Nat)))) : EvP (tCall (sp_threes K) [] E (tCons ta (tCons tb tNil))) σ N (is K (.list ((threesM f k).map encHs))) := ev_threes h h1 h2
theorem ok_law_fewest (T : Txt K mg A B) : FnOk P w K mg base CX0 3 A._law_fewest B._law_fewest ["_law_folk", "_law_made_table"] (sp_lfew K) := by
  have G__law_threes := ok_law_threes (P := P) (w := w) (base := base) T
  have G__law_has := ok_law_has (P := P) (w := w) (base := base) T
  refine T.F__law_fewest.ok sc__law_fewest (FnP.len fun _ => rfl) (fun cdv A' outer s H vs Q E hr h => ?_)
  obtain ⟨⟨n, t⟩, N, hp, e, hv, q⟩ := h
  obtain ⟨⟨n6, fewt, fewl⟩, t1000, h1, h2⟩ := hp
  replace n6 : n ≤ 6 := n6
  replace fewt : t.length ≤ 1000 := fewt
  replace fewl : ∀ l ∈ t, l.length ≤ 1000 := fewl
  replace t1000 : (threesM n 1).length ≤ 1000 := t1000
  obtain ⟨v, v1, rfl, hn, ht⟩ := hold2 hv
  clear hv
  refine ⟨_, (pss_cons (ps_if (pt_cmpR op_gt (pe_callB (cr_len (K := K)) (by rfl) T.n_len (by decide +kernel) (pa_cons (pe_lc (own := [("_law_house", 4)]) (g := gName 4) (by rfl) sc__law_fewest.nd (pi_listK (K := K) (pe_call G__law_threes (hr.mono (by decide)) (by rfl) T.g__law_threes T.F__law_threes.kp T.b__law_threes .nil pass0 (pa_cons (pv 0) (pa_cons pe_int pa_nil)))) (blkOk_by (own := [("_law_house", 4)]) (N := N__law_fewest) (sc := defScope s__law_fewest) (by decide +kernel)) (fun _ _ _ _ _ => (pg_name (i := 4) sc__law_fewest.nd rfl (by first | exact Or.inl rfl | exact Or.inr rfl))) (fun _ _ _ _ _ => pts_one (pt_val (pe_call G__law_has (hr.mono (by decide)) (by rfl) T.g__law_has T.F__law_has.kp T.b__law_has .nil pass0 (pa_cons (pv 0) (pa_cons (pe_tup (pa_cons (pv 4) pa_nil)) (pa_cons (pv 1) pa_nil)))))) (fun _ _ _ _ _ => pe_int)) pa_nil)) pe_int (nomark _)) 
    (pss_one (ps_ret pe_int)) 
    pss_nil)
    (pss_cons (ps_for PassesOwn.never (by rfl) (pi_listK (K := K) (pe_call G__law_threes (hr.mono (by decide)) (by rfl) T.g__law_threes T.F__law_threes.kp T.b__law_threes .nil pass0 (pa_cons (pv 0) (pa_cons pe_int pa_nil)))) (pg_name (i := 2) sc__law_fewest.nd rfl (by first | exact Or.inl rfl | exact Or.inr rfl)) 
    (pss_one (ps_for PassesOwn.never (by rfl) (pi_listK (K := K) (pe_call G__law_threes (hr.mono (by decide)) (by rfl) T.g__law_threes T.F__law_threes.kp T.b__law_threes .nil pass0 (pa_cons (pv 0) (pa_cons pe_int pa_nil)))) (pg_name (i := 3) sc__law_fewest.nd rfl (by first | exact Or.inl rfl | exact Or.inr rfl)) 
      (pss_one (ps_if (pt_val (pe_call G__law_has (hr.mono (by decide)) (by rfl) T.g__law_has T.F__law_has.kp T.b__law_has .nil pass0 (pa_cons (pv 0) (pa_cons (pe_tup (pa_cons (pv 3) (pa_cons (pv 2) pa_nil))) (pa_cons (pv 1) pa_nil))))) 
        (pss_one (ps_ret pe_int)) 
        pss_nil)))))
    (pss_one (ps_ret pe_non)))), ?_⟩
  have en := is_int hn
  subst en
  refine q_when (b := decide (0 < (((threesM n 1).filter fun h => hasL n [h] t).length : Int))) e (et_test (K := K) ((ev_gt (ev_lenL (ev_lc (K := K) (vs := [4]) (threesM n 1) _ (fun h => hasL n [h] t) (fun _ => .int 1) (ei_list (enc := encHs) (ev_lthrees (f := n) (k := 1) (by omega) (ev_var rfl (Dp.int _)) ev_int)) (by omega) fun h hh y M eM fy => ⟨_, eg_name, rfl, et_test (K := K) (ev_call (⟨n, t, [h]⟩ : UnT) ⟨n6, fewt, fewl, Nat.le_of_ble_eq_true rfl, fun x hx => by rw [List.mem_singleton.mp hx]; exact h1 h hh⟩ (ea_cons (ev_var rfl (Dp.int _)) (ea_cons (ev_tup (ds := [encHs h]) (ea_cons (ev_var rfl fy) ea_nil) (Nat.le_of_ble_eq_true rfl)) (ea_cons (ev_var rfl ((is K _).st _ _ _ eM ht)) ea_nil)))), fun _ => ev_int⟩)) ev_int).cast (by rw [List.length_map]))) (fun hb N1 H1 g1 => ?_) (fun hb N1 H1 g1 => ?_)
  · rw [decide_eq_true_eq] at hb
    refine s_ret g1.s (ev_int (K := K)) fun v' N' H' g fv => q v' N' H' (g1.trans g) ?_
    show is K (fewL n t) v' N'
    unfold fewL
    rw [if_pos (by omega)]
    exact fv
  rw [decide_eq_false_iff_not] at hb
  refine q_for (threesM n 2) (fun h => is K (encHs h)) g1.s (ei_list (ev_lthrees (f := n) (k := 2) (by omega) (ev_var rfl (Dp.int (n : Nat))) ev_int)) fun N5 H5 g5 => ?_
  have g15 := g1.trans g5
  refine ⟨fun i σ H6 => ∃ (b c : Option V) (N6 : Hp), σ = [some (.int (n : Nat)), some v1, b, c, none] ∧ Go N H N6 H6 ∧ Ex N5 N6 ∧ ((threesM n 2).take i).any (fun x => (threesM n 2).any fun y => hasL n [y, x] t) = false,
    ⟨none, none, N5, rfl, g15, Ex.refl _, rfl⟩, ?_, ?_, ?_⟩
  · rintro i σ H6 ⟨_, _, N6, _, g6, e6, _⟩
    exact e6.trans g6.s
  · rintro i x vx σ H6 hi fx ⟨b, c, N6, rfl, g6, e6, hany2⟩
    have hmx := List.mem_of_getElem? hi
    have fx6 := (is K _).st _ _ _ e6 fx
    refine s_for (threesM n 2) (fun h => is K (encHs h)) g6.s (ei_list (ev_lthrees (f := n) (k := 2) (by omega) (ev_var rfl (Dp.int (n : Nat))) ev_int)) fun N7 H7 g7 => ?_
    have g17 := g6.trans g7
    refine ⟨fun j σ H8 => ∃ (c : Option V) (N8 : Hp), σ = [some (.int (n : Nat)), some v1, some vx, c, none] ∧ Go N H N8 H8 ∧ Ex N7 N8 ∧ ((threesM n 2).take j).any (fun y => hasL n [y, x] t) = false,
      ⟨c, N7, rfl, g17, Ex.refl _, rfl⟩, ?_, ?_, ?_⟩
    · rintro j σ H8 ⟨_, N8, _, g8, e8, _⟩
      exact e8.trans g8.s
    · rintro j y vy σ H8 hj fy ⟨c, N8, rfl, g8, e8, hany3⟩
      have hmy := List.mem_of_getElem? hj
      have fy8 := (is K _).st _ _ _ e8 fy
      have fx8 := (is K _).st _ _ _ (g7.n.trans e8) fx6
      have ht8 := (is K _).st _ _ _ g8.n ht
      refine s_when (b := hasL n [y, x] t) g8.s (et_test (K := K) (ev_call (⟨n, t, [y, x]⟩ : UnT) ⟨n6, fewt, fewl, Nat.le_of_ble_eq_true rfl, fun z hz => by
        rcases List.mem_cons.mp hz with rfl | hz
        · exact h2 _ hmy
        · rw [List.mem_singleton.mp hz]
          exact h2 x hmx⟩ (ea_cons (ev_var rfl (Dp.int _)) (ea_cons (ev_tup (ds := [encHs y, encHs x]) (ea_cons (ev_var rfl fy8) (ea_cons (ev_var rfl fx8) ea_nil)) (Nat.le_of_ble_eq_true rfl)) (ea_cons (ev_var rfl ht8) ea_nil))))) (fun hb2 N9 H9 g9 => ?_) (fun hb2 N9 H9 g9 => ?_)
      · refine s_ret g9.s (ev_int (K := K)) fun v' N' H' g fv => q v' N' H' ((g8.trans g9).trans g) ?_
        show is K (fewL n t) v' N'
        unfold fewL
        rw [if_neg (by omega), if_pos (any_true hmx (any_true hmy hb2))]
        exact fv
      · exact ⟨_, N9, rfl, g8.trans g9, e8.trans g9.n, any_take_false hj hany3 hb2⟩
    · rintro σ H8 ⟨c, N8, rfl, g8, e8, hany3⟩
      rw [List.take_length] at hany3
      exact ⟨_, _, N8, rfl, g8, e6.trans (g7.n.trans e8), any_take_false hi hany2 hany3⟩
  · rintro σ H6 ⟨b, c, N6, rfl, g6, e6, hany2⟩
    rw [List.take_length] at hany2
    refine s_ret g6.s (ev_non (K := K)) fun v' N' H' g fv => q v' N' H' (g6.trans g) ?_
    show is K (fewL n t) v' N'
    unfold fewL
    rw [if_neg (by omega), if_neg (by rw [hany2]; exact Bool.false_ne_true)]
    exact fv
end
end Rk
end PartRkF13

section PartRkF14
set_option Elab.async false
set_option linter.all false
set_option maxRecDepth 100000
set_option maxHeartbeats 400000
namespace Rk
open PySem PySem.Spec PyProof.Rows L2 RkS DX
/-! the threes are in order -/
theorem le_tr : ∀ a ∈ holders 6 2, ∀ b ∈ holders 6 2, ∀ c ∈ holders 6 2, leHo a b = true → leHo b c = true → leHo a c = true := by decide +kernel
theorem holders_in {n k : Nat} (hn : n ≤ 6) (hk : k ≤ 2) {x : Ho} (h : x ∈ holders n k) : x ∈ holders 6 2 := by
  unfold holders at h ⊢
  rw [List.mem_append, List.mem_map, List.mem_map] at h ⊢
  rcases h with ⟨i, hi, rfl⟩ | ⟨i, hi, rfl⟩
  · left
    rw [List.mem_range] at hi
    exact ⟨i, List.mem_range.mpr (by omega), rfl⟩
  · right
    rw [List.mem_range] at hi
    exact ⟨i, List.mem_range.mpr (by omega), rfl⟩
theorem holders_folk {n k : Nat} {x : Ho} (h : x ∈ holders n k) (hx : x.1 = false) : x.2 < n := by
  unfold holders at h
  rw [List.mem_append, List.mem_map, List.mem_map] at h
  rcases h with ⟨i, hi, rfl⟩ | ⟨i, hi, rfl⟩
  · exact List.mem_range.mp hi
  · cases hx
theorem three_ok {n k : Nat} (hn : n ≤ 6) (hk : k ≤ 2) {h : List Ho} (hm : h ∈ threesM n k) : (h.Pairwise fun a b => leHo a b = true) ∧ h.length = 3 ∧ ∀ y ∈ h, y.1 = false → y.2 < n := by
  unfold threesM at hm
  obtain ⟨a, ha, hm⟩ := List.mem_flatMap.mp hm
  obtain ⟨b, hb, hm⟩ := List.mem_flatMap.mp hm
  unfold row3 at hm
  obtain ⟨c, hc, rfl⟩ := List.mem_map.mp hm
  rw [List.mem_filter, Bool.and_eq_true] at hc
  obtain ⟨hc, h1, h2⟩ := hc
  have h3 := le_tr a (holders_in hn hk ha) b (holders_in hn hk hb) c (holders_in hn hk hc) h1 h2
  refine ⟨?_, rfl, fun y hy hf => ?_⟩
  · refine List.pairwise_cons.mpr ⟨fun y hy => ?_, List.pairwise_cons.mpr ⟨fun y hy => ?_, List.pairwise_singleton _ _⟩⟩
    · rcases List.mem_cons.mp hy with rfl | hy
      · exact h1
      · rw [List.mem_singleton.mp hy]
        exact h3
    · rw [List.mem_singleton.mp hy]
      exact h2
  · rcases List.mem_cons.mp hy with rfl | hy
    · exact holders_folk ha hf
    rcases List.mem_cons.mp hy with rfl | hy
    · exact holders_folk hb hf
    · rw [List.mem_singleton.mp hy] at hf ⊢
      exact holders_folk hc hf
theorem web_in1 {n : Nat} (hn : n ≤ 6) : ∀ h ∈ threesM n 1, WebIn n [h] := fun h hm =>
  have z := three_ok hn (by decide) hm
  ⟨by omega, Nat.le_of_ble_eq_true rfl, fun x hx => by rw [List.mem_singleton.mp hx]; exact z.1, fun x hx => by rw [List.mem_singleton.mp hx]; exact ⟨by rw [z.2.1]; decide, z.2.2⟩⟩
theorem web_in2 {n : Nat} (hn : n ≤ 6) : ∀ a ∈ threesM n 2, ∀ b ∈ threesM n 2, WebIn n [a, b] := fun a ha b hb =>
  have z := three_ok hn (by decide) ha
  have y := three_ok hn (by decide) hb
  ⟨by omega, Nat.le_of_ble_eq_true rfl, fun x hx => by
    rcases List.mem_cons.mp hx with rfl | hx
    · exact z.1
    · rw [List.mem_singleton.mp hx]
      exact y.1, fun x hx => by
    rcases List.mem_cons.mp hx with rfl | hx
    · exact ⟨by rw [z.2.1]; decide, z.2.2⟩
    · rw [List.mem_singleton.mp hx]
      exact ⟨by rw [y.2.1]; decide, y.2.2⟩⟩
theorem part_self (l : List Int) : part l l = true := by
  unfold part
  rw [List.all_eq_true]
  intro x hx
  obtain ⟨p, hp, rfl⟩ := List.mem_map.mp hx
  exact decide_eq_true hp
theorem okTab_one {n : Nat} {l : List Int} (h : OkLot (n : Nat) l) : OkTab (n : Nat) [l] := by
  refine ⟨Nat.le_of_ble_eq_true rfl, fun m hm => by rw [List.mem_singleton.mp hm]; exact h, ?_, fun i j a b hi hj hij => ?_⟩
  · intro i x y _ hy
    have := (List.getElem?_eq_some_iff.mp hy).1
    rw [List.length_singleton] at this
    omega
  · have h1 := (List.getElem?_eq_some_iff.mp hi).1
    have h2 := (List.getElem?_eq_some_iff.mp hj).1
    rw [List.length_singleton] at h1 h2
    omega
section
variable {P : Program} {w : World} {K : PySem.W.Frag} {mg : Str → Option Value} {base : Heap} {A : Ad} {B : Fd} {C fI : Addr}
variable {σ : L2.St} {N : Hp} {ta tb tc te ty td : TE}
def manyD (n : Nat) : PyData := if n ≤ 3 then .str (Str.ofString "told") else .int 3
abbrev sp_lmany (K : PySem.W.Frag) : Sp := FnP (T := Nat) (fun n => [is K (.int (n : Nat))]) (fun n => 1 ≤ n ∧ n ≤ 6) (fun n => is K (manyD n))
theorem ok_law_many (T : Txt K mg A B) (TM : PySem.TmX.TmTxt P K mg C fI) : FnOk P w K mg base CX0 7 A._law_many B._law_many ["_law_folk"] (sp_lmany K) := by
  have G_fewest_houses := ok_fewest_houses (P := P) (w := w) (base := base) T TM
  refine T.F__law_many.ok sc__law_many (FnP.len fun _ => rfl) (fun cdv A' outer s H vs Q E hr h => ?_)
  obtain ⟨n, N, hn6, e, hv, q⟩ := h
  replace hn6 : 1 ≤ n ∧ n ≤ 6 := hn6
  match vs, hv with
  | [v], hv =>
    refine ⟨_, (pss_cons (ps_set (i := 1) sc__law_many.nd rfl (by first | exact Or.inl rfl | exact Or.inr rfl) pe_str)
    (pss_cons (ps_try_asT (i := 2) (tb := fun W => tDrop (tCallS (sp_fewest K C) (WE W) (tCons (tVar 0) (tCons (tTup (tCons (tTup (tCons (tC (.int 0)) tNil)) tNil)) tNil)))) (ts := fun a cls d => tAsg (tByTm C a cls d (tVar 2)) (gName 1)) rfl rfl sc__law_many.nd rfl rfl ⟨rfl, by decide, .inl TM.gC⟩
      (fun W pn xe tk _ => pss_one (ps_expr (by exact (pe_callS G_fewest_houses (hr.mono (by decide)) rfl T.g_fewest_houses T.F_fewest_houses.kp T.b_fewest_houses (fun σ => passAt tk σ) (by exact (pa_cons (pv 0) (pa_cons (pe_tup (pa_cons (pe_tup (pa_cons pe_int pa_nil)) pa_nil)) pa_nil)))))))
      (fun a oe cls d pn hz hf => pss_one (ps_set (i := 1) sc__law_many.nd rfl (Or.inl rfl) (by exact (pe_byTm TM hz hf (pv 2))))))
    (pss_one (ps_ret (pv 1))))), ?_⟩
    have en := is_int hv.1
    subst en
    refine q_asg e (ev_str (K := K) (x := Str.ofString "told")) fun vw N1 H1 g1 fw => ?_
    have ew := is_str fw
    subst ew
    have hot : OkTab (n : Nat) [[0]] := okTab_one ⟨fun p hp => by rw [List.mem_singleton.mp hp]; omega, fun i x y _ hy => by
      have := (List.getElem?_eq_some_iff.mp hy).1
      rw [List.length_singleton] at this
      omega, Nat.le_of_ble_eq_true rfl⟩
    have hA : EvA (tCons (tVar 0) (tCons (tTup (tCons (tTup (tCons (tC (.int 0)) tNil)) tNil)) tNil)) [some (.int (n : Nat)), some (.str (Str.ofString "told")), none] N1 [is K (.int (n : Nat)), is K (tabD [[0]])] :=
      ea_cons (ev_var rfl (Dp.int (n : Nat))) (ea_cons (ev_tup (ds := [.tuple [.int 0]]) (ea_cons (ev_tup (ds := [.int 0]) (ea_cons ev_int ea_nil) (Nat.le_of_ble_eq_true rfl)) ea_nil) (Nat.le_of_ble_eq_true rfl)) ea_nil)
    unfold tSeq tDrop tCallS
    refine hA H1 g1.s _ fun vs2 N2 H2 g2 hv2 => ?_
    have g12 := g1.trans g2
    refine ⟨n, [[0]], N2, g2.s, hv2, hn6, hot, web_in1 hn6.2, web_in2 hn6.2, fun h3 v' N' H' g' _ => ?_, fun h3 d H' e' hd hd' => ⟨TM.te, fun a ha => ⟨_, rfl, rfl, rfl, d, _, rfl, hd', ?_⟩⟩⟩
    · refine s_ret g'.s (ev_var (f := is K (.str (Str.ofString "told"))) rfl (Dp.str (Str.ofString "told"))) fun v2 N'' H'' g'' fv => q v2 N'' H'' ((g12.trans g').trans g'') ?_
      show is K (manyD n) v2 N''
      unfold manyD
      rw [if_pos h3]
      exact fv
    · have g3 : Go N2 H2 N2 H' := ⟨Ex.refl _, e', g2.s.trans e', fun _ _ h => .inl h⟩
      refine s_ret g3.s (ev_var (f := is K (.int 3)) rfl (Dp.int 3)) fun v2 N'' H'' g'' fv => q v2 N'' H'' ((g12.trans g3).trans g'') ?_
      show is K (manyD n) v2 N''
      unfold manyD
      rw [if_neg h3]
      exact fv
end
end Rk
end PartRkF14

section PartRkF15
set_option Elab.async false
set_option linter.all false
set_option maxRecDepth 100000
set_option maxHeartbeats 400000
namespace Rk
open PySem PySem.Spec PyProof.Rows L2 RkS DX
/-- the pool at p: its seed a, how many were drawn b, its cells cs at c -/
structure Pool (H0 N H : Hp) (p c : Addr) : Prop where
  hp : ∃ a b : Int, Cl H0 N H p (.lst [.int a, .int b, .ref c])
  hc : ∃ cs : List Int, Cl H0 N H c (.lst (cs.map .int))
  ne : p ≠ c
theorem Pool.go {H0 N H N' H' : Hp} {p c : Addr} (P : Pool H0 N H p c) (g : Go N H N' H') : Pool H0 N' H' p c := by
  obtain ⟨⟨a, b, h1⟩, ⟨cs, h2⟩, h3⟩ := P
  exact ⟨⟨a, b, h1.go g⟩, ⟨cs, h2.go g⟩, h3⟩
theorem Pool.early {N0 H0 N H N' H' : Hp} {p c : Addr} (g : Go N0 H0 N H) (P : Pool H N' H' p c) : Pool H0 N' H' p c := by
  obtain ⟨⟨a, b, h1⟩, ⟨cs, h2⟩, h3⟩ := P
  exact ⟨⟨a, b, h1.early g⟩, ⟨cs, h2.early g⟩, h3⟩
section
variable {P : Program} {w : World} {K : PySem.W.Frag} {mg : Str → Option Value} {base : Heap} {A : Ad} {B : Fd} {C fI : Addr}
variable {σ : L2.St} {N : Hp} {ta tb tc te ty td : TE}
theorem atI_zero {α : Type} {x : α} {r : List α} : atI (x :: r) 0 = some x := atI_nat (j := 0) rfl
def sp_draw (K : PySem.W.Frag) : Sp := fun vs H Q _ => ∃ (N H0 : Hp) (p c : Addr) (m : Int), vs = [.ref p, .int m] ∧ (0 < m ∧ m < 1000) ∧ Go N H0 N H ∧ Pool H0 N H p c ∧ ∀ r H', 0 ≤ r → r < m → Go N H0 N H' → Pool H0 N H' p c → (∀ q, q ≠ p → q ≠ c → H' q = H q) → Q (.int r) H'
theorem ok_law_draw (T : Txt K mg A B) : FnOk P w K mg base CX0 1 A._law_draw B._law_draw ["_law_pool_here", "_law_many_here"] (sp_draw K) := by
  refine T.F__law_draw.ok sc__law_draw (fun _ _ _ _ h => ?_) (fun cdv A' outer s H vs Q E hr h => ?_)
  · obtain ⟨_, _, _, _, _, rfl, _⟩ := h
    rfl
  obtain ⟨N, H0, p, c, m, rfl, ⟨hm, hm2⟩, g, ⟨⟨a, b, cp⟩, ⟨cs, cc⟩, ne⟩, q⟩ := h
  refine ⟨_, (pss_cons (ps_asg (pe_op op_add (pe_ix (ixL (K := K)) (pv 0) pe_int (fun _ _ => rfl)) pe_int) (pg_sub (pv 0) pe_int set_list))
    (pss_cons (ps_set (i := 2) sc__law_draw.nd rfl (by first | exact Or.inl rfl | exact Or.inr rfl) (pe_ix (ixL (K := K)) (pv 0) pe_int (fun _ _ => rfl)))
    (pss_cons (ps_if (pt_cmpR op_gt (pe_callB (cr_len (K := K)) (by rfl) T.n_len (by decide +kernel) (pa_cons (pv 2) pa_nil)) pe_int (nomark _)) 
    (pss_cons (ps_set (i := 3) sc__law_draw.nd rfl (by first | exact Or.inl rfl | exact Or.inr rfl) (pe_op op_mod (pe_callTy call_int1 (by rfl) T.n_int (by decide +kernel) (pa_cons (pe_ix (ixL (K := K)) (pv 2) pe_int (fun _ _ => rfl)) pa_nil)) (pv 1)))
      (pss_cons (ps_asg (pe_op op_fdiv (pe_callTy call_int1 (by rfl) T.n_int (by decide +kernel) (pa_cons (pe_ix (ixL (K := K)) (pv 2) pe_int (fun _ _ => rfl)) pa_nil)) (pv 1)) (pg_sub (pv 2) pe_int set_list))
      (pss_cons (ps_if (pt_cmpR op_eq (pe_ix (ixL (K := K)) (pv 2) pe_int (fun _ _ => rfl)) pe_int (nomark _)) 
      (pss_one (ps_expr (pe_bm PySem.F.plainAttrs_list PySem.F.slot_list_pop PySem.F.type_list_pop mt_popAt (pv 2) (pa_cons pe_int pa_nil)))) 
      pss_nil)
      (pss_one (ps_ret (pv 3)))))) 
    pss_nil)
    (pss_cons (ps_set (i := 4) sc__law_draw.nd rfl (by first | exact Or.inl rfl | exact Or.inr rfl) (pe_op op_mod (pe_callTy call_int1 (by rfl) T.n_int (by decide +kernel) (pa_cons (pe_op op_mul (pe_op op_add (pe_ix (ixL (K := K)) (pv 0) pe_int (fun _ _ => rfl)) (pe_op op_mul pe_int (pe_ix (ixL (K := K)) (pv 0) pe_int (fun _ _ => rfl)))) pe_int) pa_nil)) pe_int))
    (pss_cons (ps_set (i := 4) sc__law_draw.nd rfl (by first | exact Or.inl rfl | exact Or.inr rfl) (pe_op op_mod (pe_callTy call_int1 (by rfl) T.n_int (by decide +kernel) (pa_cons (pe_op op_mul (pv 4) (pe_op op_add (pe_op op_fdiv (pv 4) pe_int) pe_int)) pa_nil)) pe_int))
    (pss_cons (ps_set (i := 4) sc__law_draw.nd rfl (by first | exact Or.inl rfl | exact Or.inr rfl) (pe_op op_mod (pe_callTy call_int1 (by rfl) T.n_int (by decide +kernel) (pa_cons (pe_op op_mul (pv 4) (pe_op op_add (pe_op op_fdiv (pv 4) pe_int) pe_int)) pa_nil)) pe_int))
    (pss_one (ps_ret (pe_op op_mod (pe_callTy call_int1 (by rfl) T.n_int (by decide +kernel) (pa_cons (pe_op op_fdiv (pv 4) pe_int) pa_nil)) (pv 1)))))))))), ?_⟩
  refine ⟨_, rfl, p, _, 1, _, rfl, rfl, .inl (.inl cp.h), rfl, _, _, rfl, rfl, _, rfl, p, _, 1, 1, rfl, rfl, cp.h, rfl, ?_⟩
  have g1 := g.put cp (o' := .lst [.int a, .int (b + 1), .ref c])
  have cp1 := cp.put (o' := .lst [.int a, .int (b + 1), .ref c])
  have cc1 := cc.off (o' := .lst [.int a, .int (b + 1), .ref c]) ne.symm
  have off1 : ∀ q, q ≠ p → q ≠ c → (upd H p (.lst [.int a, .int (b + 1), .ref c])) q = H q := fun q h _ => upd_ne h
  refine ⟨_, rfl, p, _, 2, _, rfl, rfl, .inl (.inl cp1.h), rfl, ?_⟩
  refine ⟨_, rfl, c, _, rfl, .inl (.inl (.inl cc1.h)), _, _, rfl, rfl, _, rfl, ?_⟩
  cases cs with
  | cons x r =>
    show if decide (_ < _) = true then _ else _
    rw [if_pos (decide_eq_true (by simp only [List.map_cons, List.length_cons]; omega))]
    refine ⟨_, rfl, c, _, 0, .int x, rfl, rfl, (.inl (.inl cc1.h)), atI_zero, .inl ⟨x, rfl, _, rfl, x, m, rfl, rfl, hm, ?_⟩⟩
    refine ⟨_, rfl, c, _, 0, .int x, rfl, rfl, (.inl (.inl cc1.h)), atI_zero, .inl ⟨x, rfl, _, rfl, x, m, rfl, rfl, ⟨hm, by omega⟩, _, rfl, c, _, 0, 0, rfl, rfl, cc1.h, ?_, ?_⟩⟩
    · unfold ixN
      rw [if_pos (by omega), if_pos (by simp only [List.map_cons, List.length_cons]; omega)] <;> rfl
    have g2 := g1.put cc1 (o' := .lst (.int (x / m) :: r.map .int))
    have cc2 := cc1.put (o' := .lst (.int (x / m) :: r.map .int))
    have cp2 := cp1.off (o' := .lst (.int (x / m) :: r.map .int)) ne
    have fin : ∀ (H3 : Hp), Go N H0 N H3 → Pool H0 N H3 p c → (∀ q, q ≠ p → q ≠ c → H3 q = H q) → Q (.int (x % m)) H3 := fun H3 g3 P3 o3 => q _ H3 (Int.emod_nonneg _ (by omega)) (Int.emod_lt_of_pos _ hm) g3 P3 o3
    refine ⟨_, rfl, c, _, 0, .int (x / m), rfl, rfl, .inl (.inl cc2.h), atI_zero, rfl, _, rfl, ?_⟩
    have off2 : ∀ q, q ≠ p → q ≠ c → (upd (upd H p (.lst [.int a, .int (b + 1), .ref c])) c (.lst (.int (x / m) :: r.map .int))) q = H q := fun q h h' => by
      rw [upd_ne h', off1 q h h']
    show if decide _ = true then _ else _
    by_cases hz : V.int (x / m) = V.int 0
    · rw [if_pos (decide_eq_true hz)]
      refine ⟨_, rfl, .inl ⟨rfl, _, .inl (.inl cc2.h)⟩, c, _, 0, 0, _, rfl, rfl, cc2.h, by decide, by decide, ?_, rfl, ?_⟩
      · show seqIndex? 0 (List.length _) = some 0
        unfold seqIndex?
        simp
      · refine ⟨_, rfl, fin _ (g2.put cc2) ⟨⟨a, b + 1, cp2.off ne⟩, ⟨r, cc2.put⟩, ne⟩ fun q h h' => ?_⟩
        exact (upd_ne h').trans (off2 q h h')
    · rw [if_neg (by rw [decide_eq_false hz]; exact Bool.false_ne_true)]
      exact ⟨_, rfl, fin _ g2 ⟨⟨a, b + 1, cp2⟩, ⟨x / m :: r, cc2⟩, ne⟩ off2⟩
  | nil =>
    show if decide (_ < _) = true then _ else _
    rw [if_neg (by simp)]
    refine ⟨_, rfl, p, _, 0, _, rfl, rfl, .inl (.inl cp1.h), rfl, _, rfl, p, _, 1, _, rfl, rfl, .inl (.inl cp1.h), rfl, _, _, rfl, rfl, .inl ⟨by decide, by decide⟩, _, _, rfl, rfl, _, _, rfl, rfl, .inr ⟨by decide, by decide⟩, .inl ⟨_, rfl, _, _, rfl, rfl, (show (0 : Int) < 2147483647 by decide), ?_⟩⟩
    generalize hx1 : ((a + 7919 * (b + 1)) * 48271) % 2147483647 = x1
    have b1 : 0 ≤ x1 ∧ x1 < 2147483647 := by
      rw [← hx1]
      exact ⟨Int.emod_nonneg _ (by decide), Int.emod_lt_of_pos _ (by decide)⟩
    refine ⟨_, rfl, _, rfl, _, _, rfl, rfl, ⟨by decide, by decide⟩, _, _, rfl, rfl, _, _, rfl, rfl, .inl ⟨by omega, by omega⟩, .inl ⟨_, rfl, _, _, rfl, rfl, (show (0 : Int) < 2147483647 by decide), ?_⟩⟩
    generalize hx2 : (x1 * (x1 / 1009 + 69621)) % 2147483647 = x2
    have b2 : 0 ≤ x2 ∧ x2 < 2147483647 := by
      rw [← hx2]
      exact ⟨Int.emod_nonneg _ (by decide), Int.emod_lt_of_pos _ (by decide)⟩
    refine ⟨_, rfl, _, rfl, _, _, rfl, rfl, ⟨by decide, by decide⟩, _, _, rfl, rfl, _, _, rfl, rfl, .inl ⟨by omega, by omega⟩, .inl ⟨_, rfl, _, _, rfl, rfl, (show (0 : Int) < 2147483399 by decide), ?_⟩⟩
    refine ⟨_, rfl, _, _, rfl, rfl, ⟨by decide, by decide⟩, .inl ⟨_, rfl, _, rfl, _, m, rfl, rfl, hm, ?_⟩⟩
    exact q _ _ (Int.emod_nonneg _ (by omega)) (Int.emod_lt_of_pos _ hm) g1 ⟨⟨a, b + 1, cp1⟩, ⟨[], cc1⟩, ne⟩ off1
end
end Rk
end PartRkF15

section PartRkF16
set_option Elab.async false
set_option linter.all false
set_option maxRecDepth 100000
set_option maxHeartbeats 400000
namespace Rk
open PySem PySem.Spec PyProof.Rows L2 RkS DX
section
variable {P : Program} {w : World} {K : PySem.W.Frag} {mg : Str → Option Value} {base : Heap} {A : Ad} {B : Fd} {C fI : Addr}
variable {σ : L2.St} {N : Hp} {ta tb tc te ty td : TE}
theorem ev_slL {ds : List PyData} {tl th : TO} {lo hi : Option Int} (ha : EvP te σ N (is K (.list ds))) (h1 : EvO tl σ N lo) (h2 : EvO th σ N hi) : EvP (tSl (rSlL K) te tl th) σ N (is K (.list (cutL ds lo hi))) := fun H e Q q =>
  ha H e _ fun v N1 H1 g1 fv => h1.mono g1.n H1 g1.s _ fun N2 H2 g2 => h2.mono (g1.n.trans g2.n) H2 g2.s _ fun N3 H3 g3 => by
    obtain ⟨a, xs, rfl, hs, hd⟩ := is_lst fv
    have g23 := g2.trans g3
    exact ⟨a, xs, rfl, sqL_ex (g23.n.trans g23.s) hs, fun p hp => q _ _ _ ((g1.trans g23).trans (Go.new g3.s hp)) (mk_lst upd_same (dpAll_ex (g23.n.trans (Ex.new (g3.s.back hp))) _ _ (dpAll_cut hd lo hi)))⟩
theorem ev_int1 {i : Int} (x : EvP te σ N (is K (.int i))) : EvP (tCB (fun xs H Q => (∃ i, xs = [.int i] ∧ Q (.int i) H) ∨ ∃ k, xs = [.bl k] ∧ Q (.int (if k then 1 else 0)) H) (tCons te tNil)) σ N (is K (.int i)) :=
  ev_cb1 x fun v M e fv H eh Q q => .inl ⟨i, by rw [is_int fv], q _ M H (Go.refl eh) (.int _)⟩
theorem ev_int1b {b : Bool} (x : EvP te σ N (is K (.bool b))) : EvP (tCB (fun xs H Q => (∃ i, xs = [.int i] ∧ Q (.int i) H) ∨ ∃ k, xs = [.bl k] ∧ Q (.int (if k then 1 else 0)) H) (tCons te tNil)) σ N (is K (.int (if b = true then 1 else 0))) :=
  ev_cb1 x fun v M e fv H eh Q q => .inr ⟨b, by rw [is_bl fv], q _ M H (Go.refl eh) (.int _)⟩
theorem ev_abs {i : Int} (x : EvP te σ N (is K (.int i))) : EvP (tCB (fun xs H Q => ∃ i, xs = [.int i] ∧ Q (.int (if i < 0 then -i else i)) H) (tCons te tNil)) σ N (is K (.int (if i < 0 then -i else i))) :=
  ev_cb1 x fun v M e fv H eh Q q => ⟨i, by rw [is_int fv], q _ M H (Go.refl eh) (.int _)⟩
theorem ev_pow18 : EvP (tOp (rI CPow fun i j => .int (i ^ j.toNat)) (tC (.int 10)) (tC (.int 18))) σ N (is K (.int ((10 : Int) ^ (18 : Int).toNat))) :=
  ev_iC (K := K) (C := CPow) (gi := fun i j => .int (i ^ j.toNat)) (i := 10) (j := 18) ev_int ev_int ⟨by decide, by decide, by decide⟩ fun _ => .int _
theorem cut_map {α β : Type} (f : α → β) (xs : List α) (lo hi : Option Int) : cutL (xs.map f) lo hi = (cutL xs lo hi).map f := by
  unfold cutL
  rw [List.length_map, List.map_take, List.map_drop]
theorem cut_len {α : Type} (xs : List α) (lo hi : Option Int) : (cutL xs lo hi).length ≤ xs.length := by
  unfold cutL
  rw [List.length_take, List.length_drop]
  omega
theorem ret_pool {H : Hp} {D : Ends} {v : V} {ds : PySem.W.Frag → List V → Hp → Prop} (hσ : σ[1]? = some (some v)) (e : Ex N H) (x : EvN te σ N ds K)
    (k : ∀ c vs N' H', Go N H N' H' → H' c = none → ds K vs N' → ∀ p, (upd H' c (.lst vs)) p = none → D.rt (.ref p) (upd (upd H' c (.lst vs)) p (.lst [v, .int 0, .ref c]))) : tRet (tLst (tCons (tVar 1) (tCons (tC (.int 0)) (tCons te tNil)))) D σ H :=
  ⟨v, hσ, x H e _ fun c vs N' H' g hc hd => ⟨(show 3 ≤ sizeLine by decide), fun p hp => k c vs N' H' g hc hd p hp⟩⟩
def sp_pool (K : PySem.W.Frag) : Sp := fun vs H Q _ => ∃ (N : Hp) (xs : List Int) (v : V), vs = [v] ∧ Ex N H ∧ is K (.list (xs.map .int)) v N ∧ xs.length ≤ 1000 ∧ ∀ N' H' p c, Go N H N' H' → Pool H N' H' p c → Q (.ref p) H'
theorem ok_law_pool (T : Txt K mg A B) : FnOk P w K mg base CX0 1 A._law_pool B._law_pool ["_law_script"] (sp_pool K) := by
  refine T.F__law_pool.ok sc__law_pool (fun _ _ _ _ h => ?_) (fun cdv A' outer s H vs Q E hr h => ?_)
  · obtain ⟨_, _, _, rfl, _⟩ := h
    rfl
  obtain ⟨N, xs, v, rfl, e, hv, hz, q⟩ := h
  refine ⟨_, (pss_cons (ps_set (i := 1) sc__law_pool.nd rfl (by first | exact Or.inl rfl | exact Or.inr rfl) (pe_op op_add (pe_op op_add (pe_op op_mod (pe_callTy call_int1 (by rfl) T.n_int (by decide +kernel) (pa_cons (pe_callB (cr_sumK (K := K) rfl) (by rfl) T.n_sum (by decide +kernel) (pa_cons (pe_slice (sl_listK (K := K)) (pv 0) po_none (po_some pe_int)) pa_nil)) pa_nil)) pe_int) (pe_callB (cr_len (K := K)) (by rfl) T.n_len (by decide +kernel) (pa_cons (pv 0) pa_nil))) pe_int))
    (pss_cons (ps_for PassesOwn.never (by rfl) (pi_listK (K := K) (pe_slice (sl_listK (K := K)) (pv 0) po_none (po_some pe_int))) (pg_name (i := 2) sc__law_pool.nd rfl (by first | exact Or.inl rfl | exact Or.inr rfl)) 
    (pss_one (ps_set (i := 1) sc__law_pool.nd rfl (by first | exact Or.inl rfl | exact Or.inr rfl) (pe_op op_mod (pe_callTy call_int1 (by rfl) T.n_int (by decide +kernel) (pa_cons (pe_op op_add (pe_op op_add (pe_op op_mul (pv 1) pe_int) (pe_op op_mod (pe_callTy call_int1 (by rfl) T.n_int (by decide +kernel) (pa_cons (pv 2) pa_nil)) pe_int)) pe_int) pa_nil)) pe_int))))
    (pss_one (ps_ret (pe_lst (pa_cons (pv 1) (pa_cons pe_int (pa_cons (pe_lc (own := [("_law_cell", 2)]) (g := gName 2) (by rfl) sc__law_pool.nd (pi_listK (K := K) (pe_slice (sl_listK (K := K)) (pv 0) po_none (po_some pe_int))) (blkOk_by (own := [("_law_cell", 2)]) (N := N__law_pool) (sc := defScope s__law_pool) (by decide +kernel)) (fun _ _ _ _ _ => (pg_name (i := 2) sc__law_pool.nd rfl (by first | exact Or.inl rfl | exact Or.inr rfl))) (fun _ _ _ _ _ => pts_one (pt_cmpR op_ge (pe_callB call_abs (by rfl) T.n_abs (by decide +kernel) (pa_cons (pv 2) pa_nil)) (pe_op op_pow pe_int pe_int) (nomark _))) (fun _ _ _ _ _ => (pe_callB call_abs (by rfl) T.n_abs (by decide +kernel) (pa_cons (pv 2) pa_nil)))) pa_nil)))))))), ?_⟩
  have cut : ∀ {σ : L2.St} {M : Hp} (k : Int), σ[0]? = some (some v) → is K (.list (xs.map .int)) v M → EvP (tSl (rSlL K) (tVar 0) tNoPart (tPart (tC (.int k)))) σ M (is K (.list ((cutL xs none (some k)).map .int))) := fun k h hv' =>
    (ev_slL (ev_var h hv') eo_none (eo_some (K := K) ev_int)).cast (by rw [cut_map])
  refine q_asg e (ev_add (ev_add (ev_mod (ev_int1 (ev_sum (cut 1 rfl hv))) ev_int (by decide)) (ev_lenS (ev_var rfl hv))) ev_int) fun v1 N1 H1 g1 f1 => ?_
  have e1 := is_int f1
  have hv1 := (is K _).st _ _ _ g1.n hv
  refine q_for (cutL xs none (some 63)) (fun x => is K (.int x)) g1.s (ei_list (enc := .int) (cut 63 rfl hv1)) fun N2 H2 g2 => ?_
  have hv2 := (is K _).st _ _ _ g2.n hv1
  refine ⟨fun i σ H3 => ∃ (z : Int) (a : Option V) (N3 : Hp), σ = [some v, some (.int z), a] ∧ Go N H N3 H3 ∧ Ex N2 N3, ⟨_, none, N2, by rw [e1] <;> rfl, g1.trans g2, Ex.refl _⟩, ?_, ?_, ?_⟩
  · rintro i σ H3 ⟨_, _, N3, _, g3, e3⟩
    exact e3.trans g3.s
  · rintro i x y σ H3 hi fy ⟨z, a, N3, rfl, g3, e3⟩
    refine s_asg g3.s (ev_mod (ev_int1 (ev_add (ev_add (ev_mul (ev_var rfl (Dp.int z)) ev_int (.inr ⟨by decide, by decide⟩)) (ev_mod (ev_int1 (ev_var rfl ((is K (.int x)).st _ _ _ e3 fy))) ev_int (by decide))) ev_int)) ev_int (by decide)) fun v4 N4 H4 g4 f4 => ?_
    have e4 := is_int f4
    subst e4
    exact ⟨_, some y, N4, rfl, g3.trans g4, e3.trans g4.n⟩
  · rintro σ H3 ⟨z, a, N3, rfl, g3, e3⟩
    have hv3 := (is K _).st _ _ _ e3 hv2
    have hc := cut_len xs none (some 63)
    refine ret_pool rfl g3.s (en_lc (K := K) (σ := [some v, some (.int z), a]) (vs := [2]) (cutL xs none (some 63)) (fun x => is K (.int x)) (fun x => decide ((10 : Int) ^ (18 : Int).toNat ≤ (if x < 0 then -x else x))) (fun x => .int (if x < 0 then -x else x)) (ei_list (enc := .int) (cut 63 rfl hv3)) (by omega) fun x hx y M eM fy => ⟨_, eg_name (i := 2), rfl, et_test (K := K) (ev_ge (ev_abs (ev_var (i := 2) rfl fy)) ev_pow18), fun _ => ev_abs (ev_var (i := 2) rfl fy)⟩) fun c vs N4 H4 g4 hcn hd p hp => ?_
    have evs : vs = (((cutL xs none (some 63)).filter fun x => decide ((10 : Int) ^ (18 : Int).toNat ≤ (if x < 0 then -x else x))).map fun x => if x < 0 then -x else x).map V.int := by
      refine ints_dpAll (K := K) (N := N4) ?_
      rw [List.map_map]
      exact hd
    obtain ⟨g5, c5⟩ := Cl.mk' (o := .lst vs) (g3.trans g4) hcn
    obtain ⟨g6, c6⟩ := Cl.mk' (o := .lst [.int z, .int 0, .ref c]) g5 hp
    have ne : c ≠ p := ne_of_none c5.h hp
    have c5' := c5.off (o' := .lst [.int z, .int 0, .ref c]) ne
    rw [evs] at c5' g6 c6
    exact q _ _ p c (by rw [evs]; exact g6) ⟨⟨z, 0, by rw [evs]; exact c6⟩, ⟨_, by rw [evs]; exact c5'⟩, ne.symm⟩
end
end Rk
end PartRkF16

section PartRkF17
set_option Elab.async false
set_option linter.all false
set_option maxRecDepth 100000
set_option maxHeartbeats 400000
namespace Rk
open PySem PySem.Spec PyProof.Rows L2 RkS DX
theorem canLay_ints : ∀ ns : List Int, PyData.canLayAll0 (ns.map PyData.int) = true
  | [] => rfl
  | n :: ns => by
    rw [List.map_cons, PyData.canLayAll0, canLay_ints ns] <;> rfl
theorem depth_ints2 : ∀ ns : List Int, PyData.depthAll (ns.map PyData.int) = 0
  | [] => rfl
  | n :: ns => by
    rw [List.map_cons, PyData.depthAll, depth_ints2 ns] <;> rfl
theorem shaped_tup (ns : List Int) : SeqAt.shaped (tupI ns) = true := by
  unfold SeqAt.shaped
  rw [Bool.and_eq_true]
  refine ⟨?_, decide_eq_true ?_⟩
  · show PyData.canLayAll0 _ = true
    exact canLay_ints ns
  · show PyData.depth (.tuple _) ≤ 64
    rw [PyData.depth, depth_ints2]
    decide
theorem nodup_len {α : Type} [DecidableEq α] : ∀ {l m : List α}, l.Nodup → (∀ x ∈ l, x ∈ m) → l.length ≤ m.length
  | [], _, _, _ => Nat.zero_le _
  | a :: l, m, hn, hs => by
    rw [List.nodup_cons] at hn
    have ha := hs a List.mem_cons_self
    have ih := nodup_len (l := l) (m := m.erase a) hn.2 fun x hx => (List.mem_erase_of_ne (fun z => hn.1 (by rw [← z]; exact hx))).mpr (hs x (List.mem_cons_of_mem _ hx))
    rw [List.length_erase_of_mem ha] at ih
    have : 0 < m.length := List.length_pos_of_mem ha
    rw [List.length_cons]
    omega
def minB (ls : List (List Int)) (l : List Int) : Bool := decide (((ls.filter fun m => !decide (m = l) && decide (((m.filter fun p => !decide (p ∈ l)).length : Int) = 0)).length : Int) = 0)
theorem part_of {m l : List Int} : part m l = decide (((m.filter fun p => !decide (p ∈ l)).length : Int) = 0) := by
  unfold part
  induction m with
  | nil => rfl
  | cons a m ih =>
    rw [List.map_cons, List.all_cons, ih, List.filter_cons]
    by_cases h : a ∈ l
    · rw [decide_eq_true h, if_neg (by decide)]
      rfl
    · rw [decide_eq_false h, if_pos (by decide), List.length_cons]
      simp
      omega
/-- a table made of the least of some lots -/
theorem okTab_least {n : Int} {ls ms : List (List Int)} (hl : ∀ l ∈ ls, OkLot n l) (hf : ls.length ≤ 60) (hs : SrtL ms) (hn : ms.Nodup) (hm : ∀ m ∈ ms, m ∈ ls.filter (minB ls)) : OkTab n ms := by
  have hin : ∀ m ∈ ms, m ∈ ls ∧ minB ls m = true := fun m h => List.mem_filter.mp (hm m h)
  refine ⟨?_, fun l h => hl l (hin l h).1, fun i x y hx hy => ?_, fun i j l m hi hj hij => ?_⟩
  · have := nodup_len hn fun x hx => (hin x hx).1
    omega
  · have h1 : HT.lexLt y x = false := by
      have hp := List.pairwise_iff_getElem.mp hs i (i + 1) (List.getElem?_eq_some_iff.mp hx).1 (List.getElem?_eq_some_iff.mp hy).1 (Nat.lt_succ_self _)
      rw [(List.getElem?_eq_some_iff.mp hx).2, (List.getElem?_eq_some_iff.mp hy).2] at hp
      exact hp
    cases h2 : HT.lexLt x y with
    | true => exact h2
    | false =>
      have e := lexLt_tot x y h2 h1
      have hne := List.pairwise_iff_getElem.mp hn i (i + 1) (List.getElem?_eq_some_iff.mp hx).1 (List.getElem?_eq_some_iff.mp hy).1 (Nat.lt_succ_self _)
      rw [(List.getElem?_eq_some_iff.mp hx).2, (List.getElem?_eq_some_iff.mp hy).2] at hne
      exact absurd e hne
  · have hlm := hin l (List.mem_of_getElem? hi)
    have hmm := hin m (List.mem_of_getElem? hj)
    have hne : m ≠ l := fun e => by
      subst e
      exact hij ((List.getElem?_inj (List.getElem?_eq_some_iff.mp hi).1 hn).mp (hi.trans hj.symm))
    cases hp : part m l with
    | false => rfl
    | true =>
      have h0 := hlm.2
      unfold minB at h0
      rw [decide_eq_true_eq] at h0
      have hmem : m ∈ ls.filter fun m => !decide (m = l) && decide (((m.filter fun p => !decide (p ∈ l)).length : Int) = 0) := by
        refine List.mem_filter.mpr ⟨hmm.1, ?_⟩
        rw [← part_of, hp, decide_eq_false hne] <;> rfl
      have := List.length_pos_of_mem hmem
      omega
/-- a table for so many -/
def TabP (K : PySem.W.Frag) (n : Int) : Pr where
  p v N := ∃ t, OkTab n t ∧ is K (tabD t) v N
  st := fun v N M e ⟨t, h1, h2⟩ => ⟨t, h1, dp_ex e _ _ h2⟩
section
variable {P : Program} {w : World} {K : PySem.W.Frag} {mg : Str → Option Value} {base : Heap} {A : Ad} {B : Fd} {C fI : Addr}
variable {σ : L2.St} {N : Hp} {ta tb tc te ty td : TE}
theorem ev_neTup {ns ms : List Int} (ha : EvP ta σ N (is K (tupI ns))) (hb : EvP tb σ N (is K (tupI ms))) : EvP (tOp (rNeD K) ta tb) σ N (is K (.bool (!decide (ns = ms)))) :=
  ev_op ha hb fun x y M e fx fy H eh Q q => by
    refine ⟨tupI ns, tupI ms, dp_ex eh _ _ fx, dp_ex eh _ _ fy, shaped_tup ns, shaped_tup ms, q _ M H (Go.refl eh) ?_⟩
    have : PyData.eqv (tupI ns) (tupI ms) = decide (ns = ms) := by
      show PyData.eqv (.tuple _) (.tuple _) = _
      rw [PyData.eqv, PySem.W.ked_eqvAll]
    rw [this]
    exact .bl _
theorem keyed {xs : List V} : ∀ {fs : List (List Int)} {xs : List V}, DpAll K N xs (fs.map tupI) → ∃ ks : List (Addr × List Int), ks.map (·.2) = fs ∧ ks.map (fun p => V.ref p.1) = xs ∧ ∀ p ∈ ks, SqT K N p.1 (p.2.map V.int)
  | [], _, h => by
    cases h
    exact ⟨[], rfl, rfl, fun p hp => by cases hp⟩
  | f :: fs, _, h => by
    cases h with
    | cons h1 h2 =>
      obtain ⟨t, rfl, hs⟩ := tup_ref h1
      obtain ⟨ks, e1, e2, h3⟩ := keyed (xs := xs) h2
      refine ⟨(t, f) :: ks, by rw [List.map_cons, e1], by rw [List.map_cons, e2], fun p hp => ?_⟩
      rcases List.mem_cons.mp hp with rfl | hp
      · exact hs
      · exact h3 p hp
def SetP (K : PySem.W.Frag) (fs : List (List Int)) : Pr where
  p v N := ∃ ms, ms.Nodup ∧ SrtL ms ∧ (∀ m ∈ ms, m ∈ fs) ∧ is K (.list (ms.map tupI)) v N
  st := fun v N M e ⟨t, h1, h2, h3, h4⟩ => ⟨t, h1, h2, h3, dp_ex e _ _ h4⟩
theorem ev_sortSet {fs : List (List Int)} (hz : fs.length < 64) (x : EvP te σ N (is K (.list (fs.map tupI)))) : EvP (tCB (rSortS K P w) (tCons (tCB (rSetOfT K P w) (tCons te tNil)) tNil)) σ N (SetP K fs) := fun H e Q q =>
  x H e _ fun v N1 H1 g1 fv => by
    obtain ⟨l, xs, rfl, hs, hd⟩ := is_lst fv
    obtain ⟨ks, e1, e2, h3⟩ := keyed (xs := xs) hd
    have hkl : ks.length = fs.length := by
      rw [← e1, List.length_map]
    refine ⟨l, ks, rfl, by rw [e2]; exact sqL_ex g1.s hs, fun p hp => sqT_ex g1.s (h3 p hp), by omega, fun a L ha h4 h5 => ?_⟩
    obtain ⟨g2, c2⟩ := Cl.mk' (o := SetTO P w a L) (Go.refl g1.s) ha
    refine ⟨a, L, N1, rfl, c2.h, g2.s, fun p hp => h3 p (h4 p hp), fun p ys ms hp hpm hn hsr hdy => ?_⟩
    have g3 := Go.new (o := .lst ys) g2.s hp
    refine q _ _ _ ((g1.trans g2).trans g3) ⟨ms, hn, hsr, fun m hm => ?_, mk_lst upd_same (dpAll_ex g3.n _ _ hdy)⟩
    obtain ⟨p', hp', e'⟩ := List.mem_map.mp (hpm.mem_iff.mp hm)
    rw [← e', ← e1]
    exact List.mem_map.mpr ⟨p', h4 p' hp', rfl⟩
theorem ev_tupSet {n : Int} {ls : List (List Int)} (hl : ∀ l ∈ ls, OkLot n l) (hf : ls.length ≤ 60) (x : EvP te σ N (SetP K (ls.filter (minB ls)))) : EvP (tCB (rTupOf K) (tCons te tNil)) σ N (TabP K n) :=
  ev_cb1 x fun v M e fv H eh Q q => by
    obtain ⟨ms, hn, hs, hm, fv⟩ := fv
    obtain ⟨a, xs, rfl, hs', hd⟩ := is_lst fv
    exact ⟨a, xs, rfl, .inl ⟨sqL_ex eh hs', fun l hl' => q _ _ _ (Go.new eh hl') ⟨ms, okTab_least hl hf hs hn hm, mk_tup upd_same (dpAll_ex (Ex.new (eh.back hl')) _ _ hd)⟩⟩⟩
abbrev sp_least (K : PySem.W.Frag) : Sp := FnP (T := Int × List (List Int)) (fun x => [is K (.list (x.2.map tupI))]) (fun x => (∀ l ∈ x.2, OkLot x.1 l) ∧ x.2.length ≤ 60) (fun x => TabP K x.1)
theorem ok_law_least (T : Txt K mg A B) : FnOk P w K mg base CX0 1 A._law_least B._law_least ["_law_lots_here"] (sp_least K) := by
  refine T.F__law_least.ok sc__law_least (FnP.len fun _ => rfl) (fun cdv A' outer s H vs Q E hr h => ?_)
  obtain ⟨⟨n, ls⟩, N, ⟨hl, hf⟩, e, hv, q⟩ := h
  replace hl : ∀ l ∈ ls, OkLot n l := hl
  replace hf : ls.length ≤ 60 := hf
  match vs, hv with
  | [v], hv =>
    refine ⟨_, (pss_cons (ps_set (i := 1) sc__law_least.nd rfl (by first | exact Or.inl rfl | exact Or.inr rfl) (pe_lst pa_nil))
    (pss_cons (ps_for PassesOwn.never (by rfl) (pi_listK (K := K) (pv 0)) (pg_name (i := 2) sc__law_least.nd rfl (by first | exact Or.inl rfl | exact Or.inr rfl)) 
    (pss_one (ps_if (pt_cmpR op_eq (pe_callB (cr_len (K := K)) (by rfl) T.n_len (by decide +kernel) (pa_cons (pe_lc (own := [("_law_other", 3)]) (g := gName 3) (by rfl) sc__law_least.nd (pi_listK (K := K) (pv 0)) (blkOk_by (own := [("_law_other", 3)]) (N := N__law_least) (sc := defScope s__law_least) (by decide +kernel)) (fun _ _ _ _ _ => (pg_name (i := 3) sc__law_least.nd rfl (by first | exact Or.inl rfl | exact Or.inr rfl))) (fun _ _ _ _ _ => pts_one (PW.pt (pw_and (pt_cmpR (op_neDK (K := K) hr.units) (pv 3) (pv 2) (nomark _)) (pw_and1 (pt_cmpR op_eq (pe_callB (cr_len (K := K)) (by rfl) T.n_len (by decide +kernel) (pa_cons (pe_lc (own := [("_law_one", 4)]) (g := gName 4) (by rfl) sc__law_least.nd (pi_tupK (K := K) (pv 3)) (blkOk_by (own := [("_law_one", 4)]) (N := N__law_least) (sc := _) rfl) (fun _ _ _ _ _ => (pg_name (i := 4) sc__law_least.nd rfl (by first | exact Or.inl rfl | exact Or.inr rfl))) (fun _ _ _ _ _ => pts_one (pt_cmpR (op_niK (K := K)) (pv 4) (pv 2) (by rfl))) (fun _ _ _ _ _ => (pv 4))) pa_nil)) pe_int (nomark _)))))) (fun _ _ _ _ _ => (pv 3))) pa_nil)) pe_int (nomark _)) 
      (pss_one (ps_expr (pe_bm PySem.F.plainAttrs_list PySem.F.slot_list_append PySem.F.type_list_append mt_append (pv 1) (pa_cons (pv 2) pa_nil)))) 
      pss_nil)))
    (pss_one (ps_ret (pe_callTy (cr_tupOf (K := K)) (by rfl) T.n_tuple (by decide +kernel) (pa_cons (pe_callB (RkS.cr_sortS (K := K) rfl (hu8 hr)) (by rfl) T.n_sorted (by decide +kernel) (pa_cons (pe_callTy (cr_setOfT rfl hr.units) (by rfl) T.n_set (by decide +kernel) (pa_cons (pv 1) pa_nil)) pa_nil)) pa_nil)))))), ?_⟩
    have hv0 := hv.1
    refine q_new e (en_lst (K := K) (ds := []) ea_nil (Nat.le_of_ble_eq_true rfl)) fun p vs N1 H1 g1 hp hd => ?_
    cases hd
    obtain ⟨g2, c2⟩ := Cl.mk' (o := .lst []) g1 hp
    have hv1 := (is K _).st _ _ _ g1.n hv0
    refine q_for ls (fun l => is K (tupI l)) g2.s (ei_list (ev_var rfl hv1)) fun N3 H3 g3 => ?_
    refine ⟨fun i σ H4 => ∃ (a : Option V) (N4 : Hp) (ws : List V), σ = [some v, some (.ref p), a, none, none] ∧ Go N H N4 H4 ∧ Ex N3 N4 ∧ Cl H N4 H4 p (.lst ws) ∧ DpAll K N4 ws (((ls.take i).filter (minB ls)).map tupI) ∧ ws.length ≤ i,
      ⟨none, N3, [], rfl, g2.trans g3, Ex.refl _, c2.go g3, .nil, Nat.le_refl _⟩, ?_, ?_, ?_⟩
    · rintro i σ H4 ⟨_, N4, _, _, g4, e4, _⟩
      exact e4.trans g4.s
    · rintro i l y σ H4 hi fy ⟨a, N4, ws, rfl, g4, e4, c4, d4, z4⟩
      have hil : i < ls.length := (List.getElem?_eq_some_iff.mp hi).1
      have hll := (hl l (List.mem_of_getElem? hi)).2.2
      have fy4 := (is K _).st _ _ _ e4 fy
      have hv4 := (is K _).st _ _ _ g4.n hv0
      refine s_when (b := minB ls l) g4.s (et_test (K := K) ((ev_eqI (ev_lenL (ev_lc (K := K) (vs := [3]) ls _ (fun m => !decide (m = l) && decide (((m.filter fun p => !decide (p ∈ l)).length : Int) = 0)) tupI (ei_list (ev_var rfl hv4)) (by omega) fun m hm z M eM fz => ⟨_, eg_name, rfl, et_and (et_test (K := K) (ev_neTup (ev_var rfl fz) (ev_var rfl ((is K _).st _ _ _ eM fy4)))) (fun _ => et_test (K := K) ((ev_eqI (ev_lenL (ev_lc (K := K) (vs := [4]) m _ (fun p => !decide (p ∈ l)) (fun p => .int p) (ei_tup (enc := .int) (ev_var rfl fz)) (by have := (hl m hm).2.2; omega) fun p hp x M2 eM2 fx => ⟨_, eg_name, rfl, et_test (K := K) ((ev_inT (neg := true) (ev_var rfl (is_int fx ▸ Dp.int p)) (ev_var rfl ((is K _).st _ _ _ (eM.trans eM2) fy4))).cast rfl), fun _ => ev_var rfl fx⟩)) ev_int).cast (by rw [List.length_map]))), fun _ => ev_var rfl fz⟩)) ev_int).cast (by rw [List.length_map]; rfl))) (fun hb N5 H5 g5 => ?_) (fun hb N5 H5 g5 => ?_)
      · have g45 := g4.trans g5
        have c5 := c4.go g5
        refine ⟨_, rfl, .inl ⟨rfl, ws, .inl (.inl c5.h)⟩, _, rfl, p, ws, y, rfl, rfl, c5.h, sz_lt (by omega), ?_⟩
        refine ⟨_, N5, ws ++ [y], rfl, g45.put c5, e4.trans g5.n, c5.put, ?_, by rw [List.length_append, List.length_singleton]; omega⟩
        rw [take_next hi, List.filter_append, List.filter_cons, if_pos hb, List.filter_nil, List.map_append]
        exact dpAll_app (dpAll_ex g5.n _ _ d4) (dpAll_one (dp_ex g5.n _ _ fy4))
      · refine ⟨_, N5, ws, rfl, g4.trans g5, e4.trans g5.n, c4.go g5, ?_, by omega⟩
        rw [take_next hi, List.filter_append, List.filter_cons, if_neg (by rw [hb]; decide), List.filter_nil, List.append_nil]
        exact dpAll_ex g5.n _ _ d4
    · rintro σ H4 ⟨a, N4, ws, rfl, g4, e4, c4, d4, z4⟩
      rw [List.take_length] at d4
      have g5 := g4.know c4
      have hfl := List.length_filter_le (minB ls) ls
      exact s_ret g5.s (ev_tupSet hl hf (ev_sortSet (by omega) (ev_var rfl (mk_lst upd_same (dpAll_ex (Ex.new c4.n) _ _ d4))))) fun v' N' H' g fv => q v' N' H' (g5.trans g) fv
end
end Rk
end PartRkF17

section PartRkF18
set_option Elab.async false
set_option linter.all false
set_option maxRecDepth 100000
set_option maxHeartbeats 400000
namespace Rk
open PySem PySem.Spec PyProof.Rows L2 RkS DX
theorem lots_asc : ∀ {n : Nat} {l : List Int}, l ∈ lotsR n → Asc (· < ·) l
  | 0, l, h => by
    rw [List.mem_singleton.mp h]
    intro i x y hx _
    simp at hx
  | n + 1, l, h => by
    rcases List.mem_append.mp h with h | h
    · exact lots_asc h
    · obtain ⟨m, hm, rfl⟩ := List.mem_map.mp h
      intro i x y hx hy
      have ih := lots_asc hm
      by_cases h1 : i + 1 < m.length
      · rw [List.getElem?_append_left (by omega)] at hx
        rw [List.getElem?_append_left h1] at hy
        exact ih i x y hx hy
      · have h2 : i + 1 < m.length + 1 := by
          have := (List.getElem?_eq_some_iff.mp hy).1
          rw [List.length_append, List.length_singleton] at this
          exact this
        have h3 : i + 1 = m.length := by omega
        rw [List.getElem?_append_left (by omega)] at hx
        rw [List.getElem?_append_right (by omega), h3, Nat.sub_self] at hy
        have ey : (n : Int) = y := Option.some.inj hy
        have := (lotsR_ok hm x (List.mem_of_getElem? hx)).2
        omega
theorem lots_ok {n : Nat} (hn : n ≤ 6) {l : List Int} (h : l ∈ lotsM n) : OkLot (n : Nat) l := by
  have hr := lotsM_mem h
  have hl := lotsR_item hr
  refine ⟨fun p hp => ?_, lots_asc hr, by omega⟩
  have := lotsR_ok hr p hp
  omega
theorem lotsM_len {n : Nat} (hn : n ≤ 3) : (lotsM n).length ≤ 8 := by
  unfold lotsM
  rw [(sort_perm _).length_eq, lotsR_len]
  exact Nat.le_trans (Nat.pow_le_pow_right (by decide) hn) (by decide)
theorem lotsM_pos (n : Nat) : 0 < (lotsM n).length := by
  unfold lotsM
  rw [(sort_perm _).length_eq, lotsR_len]
  exact Nat.pow_pos (by decide)
theorem ifT {A B : Prop} (h : A) : if true = true then A else B := by
  rw [if_pos rfl]
  exact h
theorem Go.self {N H0 N1 H1 : Hp} (g : Go N H0 N1 H1) : Go N1 H0 N1 H1 := ⟨Ex.refl _, g.h, g.s, fun _ _ h => .inl h⟩
theorem Go.re {N H0 N1 H1 H2 : Hp} (g : Go N H0 N1 H1) (g' : Go N1 H0 N1 H2) : Go N H0 N1 H2 := ⟨g.n, g'.h, g'.s, g.f⟩
section
variable {P : Program} {w : World} {K : PySem.W.Frag} {mg : Str → Option Value} {base : Heap} {A : Ad} {B : Fd} {C fI : Addr}
variable {σ : L2.St} {N N0 H0 H : Hp} {ta tb tc te ty td : TE} {p c : Addr} {m : Int} {D : Ends} {tz tu : TS}
theorem t_draw {E : XK} {Q : VK} {jp : Nat} (g : Go N0 H0 N H) (Pl : Pool H0 N H p c) (h0 : σ[jp]? = some (some (.ref p))) (hm : EvP te σ N (is K (.int m))) (hb : 0 < m ∧ m < 1000)
    (k : ∀ r N' H', 0 ≤ r → r < m → Ex N N' → Go N0 H0 N' H' → Pool H0 N' H' p c → (∀ q o, Cl H0 N H q o → q ≠ p → q ≠ c → Cl H0 N' H' q o) → Q (.int r) H') : tCall (sp_draw K) [] E (tCons (tVar jp) (tCons te tNil)) σ H Q :=
  ⟨_, h0, hm H g.s _ fun v N1 H1 g1 fv => by
    have ev := is_int fv
    subst ev
    show sp_draw K ([.ref p, .int m] ++ []) H1 Q E
    rw [List.append_nil]
    exact ⟨N1, H0, p, c, m, rfl, hb, (g.trans g1).self, Pl.go g1, fun r H' h0 h1 g' P' off => k r N1 H' h0 h1 g1.n ((g.trans g1).re g') P' fun q o cq hq1 hq2 => ⟨cq.f, (cq.go g1).n, (off q hq1 hq2).trans (cq.go g1).h⟩⟩⟩
theorem q_draw {i : Nat} {E : XK} (g : Go N0 H0 N H) (Pl : Pool H0 N H p c) (h0 : σ[0]? = some (some (.ref p))) (hm : EvP te σ N (is K (.int m))) (hb : 0 < m ∧ m < 1000)
    (k : ∀ r N' H', 0 ≤ r → r < m → Ex N N' → Go N0 H0 N' H' → Pool H0 N' H' p c → (∀ q o, Cl H0 N H q o → q ≠ p → q ≠ c → Cl H0 N' H' q o) → tz D (σ.set i (some (.int r))) H') : tSeq (tAsg (tCall (sp_draw K) [] E (tCons (tVar 0) (tCons te tNil))) (gName i)) tz D σ H :=
  t_draw g Pl h0 hm hb k
/-- the shares -/
theorem q_shares {E : XK} {n : Nat} (hn : n ≤ 1000) (g : Go N0 H0 N H) (Pl : Pool H0 N H p c) (h0 : (wipe σ [6])[0]? = some (some (.ref p))) (h06 : ∀ x, ((wipe σ [6]).set 6 (some x))[0]? = some (some (.ref p))) (hw : ∀ x, wipe ((wipe σ [6]).set 6 (some x)) [6] = wipe σ [6]) (h1 : EvP (tVar 1) σ N (is K (.int (n : Nat))))
    (k : ∀ D' N' H' (rs : List Int), Ex N N' → Go N0 H0 N' H' → Pool H0 N' H' p c → Cl H0 N' H' D' (.lst (rs.map .int)) → rs.length = n → D' ≠ p → D' ≠ c → (∀ q o, Cl H0 N H q o → q ≠ p → q ≠ c → Cl H0 N' H' q o) → tz D (σ.set 4 (some (.ref D'))) H') :
    tSeq (tAsg (tLc (iRng1 (tCons (tVar 1) tNil)) (gName 6) tYes (tCall (sp_draw K) [] E (tCons (tVar 0) (tCons (tC (.int 4)) tNil))) [6]) (gName 4)) tz D σ H := by
  unfold tSeq tAsg tLc
  refine ei_rng1 (K := K) (n := (n : Nat)) (ea_cons h1 ea_nil) (by omega) (by omega) H g.s _ fun J N1 H1 g1 W => ?_
  intro D1 hD
  rw [List.length_map] at W
  obtain ⟨g2, c2⟩ := Cl.mk' (o := .lst []) (g.trans g1) hD
  have Pl1 := Pl.go g1
  have hDp : D1 ≠ p := by
    obtain ⟨a, b, cp⟩ := Pl1.hp
    exact (ne_of_none cp.h hD).symm
  have hDc : D1 ≠ c := by
    obtain ⟨cs, cc⟩ := Pl1.hc
    exact (ne_of_none cc.h hD).symm
  have pl_off : ∀ (N' H' : Hp) (o : HO), Pool H0 N' H' p c → Pool H0 N' (upd H' D1 o) p c := fun N' H' o Z => by
    obtain ⟨⟨a, b, cp⟩, ⟨cs, cc⟩, ne⟩ := Z
    exact ⟨⟨a, b, cp.off hDp.symm⟩, ⟨cs, cc.off hDc.symm⟩, ne⟩
  refine lc_it W (Pv := fun i H2 => ∃ N2 rs, Ex N1 N2 ∧ Go N0 H0 N2 H2 ∧ Pool H0 N2 H2 p c ∧ Cl H0 N2 H2 D1 (.lst (rs.map V.int)) ∧ rs.length = i ∧ (∀ q o, Cl H0 N H q o → q ≠ p → q ≠ c → Cl H0 N2 H2 q o))
    ⟨N1, [], Ex.refl _, g2, pl_off _ _ _ Pl1, c2, rfl, fun q o cq h1 h2 => (cq.go g1).off (ne_of_none (cq.go g1).h hD)⟩ ?_ ?_ ?_
  · rintro i H2 _ ⟨N2, rs, e2, g3, _⟩
    exact e2.trans g3.s
  · rintro i x H2 H2' hlt ⟨N2, rs, e2, g3, P3, c3, hl, off⟩ ⟨rfl, f, hf, fx⟩
    refine ⟨hw x, ?_⟩
    unfold tYes
    dsimp only
    rw [if_pos rfl]
    refine t_draw g3 P3 (h06 x) ev_int ⟨by decide, by decide⟩ fun r N4 H4 r0 r1 e4 g4 P4 o4 => ?_
    have c4 := o4 _ _ c3 hDp hDc
    refine ⟨rs.map V.int, c4.h, sz_lt (by rw [List.length_map]; rw [List.length_range] at hlt; omega), N4, rs ++ [r], e2.trans e4, g4.put c4, pl_off _ _ _ P4, ?_, ?_, fun q o cq h1 h2 => ?_⟩
    · rw [List.map_append]
      exact c4.put
    · rw [List.length_append, hl] <;> rfl
    · have cq3 := off q o cq h1 h2
      have cq4 := o4 q o cq3 h1 h2
      refine cq4.off fun z => ?_
      subst z
      have hh := (cq.go g1).h
      rw [hD] at hh
      cases hh
  · rintro H2 ⟨N2, rs, e2, g3, P3, c3, hl, off⟩
    rw [List.length_range] at hl
    exact k D1 N2 H2 rs (g1.n.trans e2) g3 P3 c3 hl hDp hDc off
theorem q_half {E : XK} {i j : Int} (hA : EvP ta σ N (is K (.int i))) (hB : EvP tb σ N (is K (.int j))) (hj : 0 ≤ j ∧ j ≤ 1) (g : Go N0 H0 N H) (Pl : Pool H0 N H p c) (h0 : σ[0]? = some (some (.ref p)))
    (k : ∀ z N' H', Ex N N' → Go N0 H0 N' H' → Pool H0 N' H' p c → tz D (σ.set 5 (some (.int z))) H') :
    tSeq (tAsg (tOp (rI0 fun i j => .int (i + j)) ta (tOp (rI CMul fun i j => .int (i * j)) tb (tCall (sp_draw K) [] E (tCons (tVar 0) (tCons (tC (.int 3)) tNil))))) (gName 5)) tz D σ H :=
  hA H g.s _ fun x N1 H1 g1 fx => (hB.mono g1.n) H1 g1.s _ fun y N2 H2 g2 fy => by
    have ex := is_int fx
    have ey := is_int fy
    subst ex ey
    have g12 := g1.trans g2
    refine t_draw (K := K) (te := tC (.int 3)) (m := 3) (N := N2) (g.trans g12) (Pl.go g12) h0 ev_int ⟨by decide, by decide⟩ fun r N' H' r0 r1 e' g' P' _ => ?_
    exact ⟨j, r, rfl, rfl, .inl ⟨by omega, by omega⟩, i, j * r, rfl, rfl, k _ N' H' (g12.n.trans e') g' P'⟩
end
end Rk
end PartRkF18

section PartRkF19
set_option Elab.async false
set_option linter.all false
set_option maxRecDepth 100000
set_option maxHeartbeats 400000
namespace Rk
open PySem PySem.Spec PyProof.Rows L2 RkS DX
section
variable {P : Program} {w : World} {K : PySem.W.Frag} {mg : Str → Option Value} {base : Heap} {A : Ad} {B : Fd} {C fI : Addr}
variable {σ : L2.St} {N N0 H0 H : Hp} {ta tb tc te ty td : TE} {p c : Addr} {m : Int} {D : Ends} {tz tu : TS}
def sp_table (K : PySem.W.Frag) : Sp := fun vs H Q _ => ∃ (N H0 : Hp) (p c : Addr) (n : Nat), vs = [.ref p, .int (n : Nat)] ∧ (1 ≤ n ∧ n ≤ 3) ∧ Go N H0 N H ∧ Pool H0 N H p c ∧ ∀ v N' H', Go N H0 N' H' → Pool H0 N' H' p c → TabP K (n : Nat) v N' → Q v H'
/-- the end: the least of some lots, all known by now -/
theorem s_least {n : Nat} {ls : List (List Int)} {E : XK} (hn : n ≤ 3) (hl : ∀ l ∈ ls, l ∈ lotsM n) (hz : ls.length ≤ 60) (g : Go N0 H0 N H) (Pl : Pool H0 N H p c) (x : EvP te σ N (is K (.list (ls.map tupI))))
    (k : ∀ v N' H', Go N0 H0 N' H' → Pool H0 N' H' p c → TabP K (n : Nat) v N' → D.rt v H') : tRet (tCall (sp_least K) [] E (tCons te tNil)) D σ H :=
  ev_call (args := fun x : Int × List (List Int) => [is K (.list (x.2.map tupI))]) (pre := fun x => (∀ l ∈ x.2, OkLot x.1 l) ∧ x.2.length ≤ 60) (res := fun x => TabP K x.1) (((n : Nat) : Int), ls) ⟨fun l h => lots_ok (by omega) (hl l h), hz⟩ (ea_cons x ea_nil) H g.s _ fun v N' H' g' fv => k v N' H' (g.trans g') (Pl.go g') fv
theorem ev_min2 {i j : Int} (ha : EvP ta σ N (is K (.int i))) (hb : EvP tb σ N (is K (.int j))) : EvP (tCB (fun xs H Q => ∃ i j, xs = [.int i, .int j] ∧ Q (.int (if j < i then j else i)) H) (tCons ta (tCons tb tNil))) σ N (is K (.int (if j < i then j else i))) :=
  ev_cb (ea_cons ha (ea_cons hb ea_nil)) fun vs M e hv H eh Q q => by
    obtain ⟨v, v1, rfl, h1, h2⟩ := hold2 hv
    exact ⟨i, j, by rw [is_int h1, is_int h2], q _ M H (Go.refl eh) (.int _)⟩
theorem q_forDraw {E : XK} (g : Go N0 H0 N H) (Pl : Pool H0 N H p c) (h0 : σ[0]? = some (some (.ref p)))
    (k : ∀ r N' H', 0 ≤ r → r < 4 → Ex N N' → Go N0 H0 N' H' → Pool H0 N' H' p c → (∀ q o, Cl H0 N H q o → q ≠ p → q ≠ c → Cl H0 N' H' q o) → tFor (iRng1 (tCons (tC (.int (1 + r))) tNil)) (gName 8) tu { D with nx := tz D } σ H') :
    tSeq (tFor (iRng1 (tCons (tOp (rI0 fun i j => .int (i + j)) (tC (.int 1)) (tCall (sp_draw K) [] E (tCons (tVar 0) (tCons (tC (.int 4)) tNil)))) tNil)) (gName 8) tu) tz D σ H := by
  unfold tSeq tFor iRng1
  exact t_draw (K := K) (te := tC (.int 4)) (m := 4) g Pl h0 ev_int ⟨by decide, by decide⟩ fun r N' H' r0 r1 e' g' P' o' => ⟨1, r, rfl, rfl, k r N' H' r0 r1 e' g' P' o'⟩
theorem q_lot {E : XK} {n : Nat} {vl : V} (hn : n ≤ 3) (g : Go N0 H0 N H) (Pl : Pool H0 N H p c) (h0 : σ[0]? = some (some (.ref p))) (h3 : σ[3]? = some (some vl)) (fl : is K (.list ((lotsM n).map tupI)) vl N)
    (k : ∀ l z N' H', l ∈ lotsM n → is K (tupI l) z N' → Ex N N' → Go N0 H0 N' H' → Pool H0 N' H' p c → (∀ q o, Cl H0 N H q o → q ≠ p → q ≠ c → Cl H0 N' H' q o) → tz D (σ.set 9 (some z)) H') :
    tSeq (tAsg (tOp (rIxL K) (tVar 3) (tCall (sp_draw K) [] E (tCons (tVar 0) (tCons (tCB (rLen K) (tCons (tVar 3) tNil)) tNil)))) (gName 9)) tz D σ H := by
  have h8 := lotsM_len hn
  have hpos := lotsM_pos n
  refine ⟨vl, h3, ?_⟩
  refine t_draw (K := K) (te := tCB (rLen K) (tCons (tVar 3) tNil)) (m := ((lotsM n).length : Nat)) g Pl h0 ((ev_lenL (ev_var h3 fl)).cast (by rw [List.length_map])) (by omega) fun r N' H' r0 r1 e' g' P' o' => ?_
  have hlt : r.toNat < (lotsM n).length := by omega
  have hget := List.getElem?_eq_getElem hlt
  have fl' := (is K _).st _ _ _ e' fl
  obtain ⟨a, xs, rfl, hs, hd⟩ := is_lst fl'
  have hat := atI_map (enc := tupI) hget
  rw [Int.toNat_of_nonneg r0] at hat
  obtain ⟨z, hz, dz⟩ := atI_dp hd hat
  exact ⟨a, xs, r, z, rfl, rfl, sqL_ex g'.s hs, hz, k _ z N' H' (List.getElem_mem hlt) dz e' g' P' o'⟩
theorem Cl.er {q pp : Addr} {o : HO} (h : Cl H0 N H q o) : Cl H0 (erase N pp) H q o := ⟨h.f, by
  unfold erase
  split
  · rfl
  · exact h.n, h.h⟩
theorem ok_law_some_table (T : Txt K mg A B) : FnOk P w K mg base CX0 2 A._law_some_table B._law_some_table ["_law_pool_here", "_law_folk"] (sp_table K) := by
  have G__law_draw := ok_law_draw (P := P) (w := w) (base := base) T
  have G__law_lots := ok_law_lots (P := P) (w := w) (base := base) T
  have G__law_least := ok_law_least (P := P) (w := w) (base := base) T
  refine T.F__law_some_table.ok sc__law_some_table (fun _ _ _ _ h => ?_) (fun cdv A' outer s H vs Q E hr h => ?_)
  · obtain ⟨_, _, _, _, _, rfl, _⟩ := h
    rfl
  obtain ⟨N, H0, p, c, n, rfl, hn, g, Pl, q⟩ := h
  refine ⟨_, (pss_cons (ps_set (i := 2) sc__law_some_table.nd rfl (by first | exact Or.inl rfl | exact Or.inr rfl) (pe_call G__law_draw (hr.mono (by decide)) (by rfl) T.g__law_draw T.F__law_draw.kp T.b__law_draw .nil pass0 (pa_cons (pv 0) (pa_cons pe_int pa_nil))))
    (pss_cons (ps_set (i := 3) sc__law_some_table.nd rfl (by first | exact Or.inl rfl | exact Or.inr rfl) (pe_call G__law_lots (hr.mono (by decide)) (by rfl) T.g__law_lots T.F__law_lots.kp T.b__law_lots .nil pass0 (pa_cons (pv 1) pa_nil)))
    (pss_cons (ps_if (pt_cmpR op_lt (pv 2) pe_int (nomark _)) 
    (pss_cons (ps_set (i := 4) sc__law_some_table.nd rfl (by first | exact Or.inl rfl | exact Or.inr rfl) (pe_lc (own := [("_law_person", 6)]) (g := gName 6) (tt := tYes) (by rfl) sc__law_some_table.nd (pi_range1 (by rfl) T.n_range (pa_cons (pv 1) pa_nil)) (blkOk_by (own := [("_law_person", 6)]) (N := N__law_some_table) (sc := defScope s__law_some_table) (by decide +kernel)) (fun _ _ _ _ _ => (pg_name (i := 6) sc__law_some_table.nd rfl (by first | exact Or.inl rfl | exact Or.inr rfl))) (fun _ _ _ _ _ => pts_nil) (fun _ _ _ _ _ => (pe_call G__law_draw (hr.mono (by decide)) (by rfl) T.g__law_draw T.F__law_draw.kp T.b__law_draw .nil pass0 (pa_cons (pv 0) (pa_cons pe_int pa_nil))))))
      (pss_cons (ps_set (i := 5) sc__law_some_table.nd rfl (by first | exact Or.inl rfl | exact Or.inr rfl) (pe_op op_add (pe_op op_add (pe_op op_fdiv (pe_callB (cr_sumK (K := K) rfl) (by rfl) T.n_sum (by decide +kernel) (pa_cons (pv 4) pa_nil)) pe_int) pe_int) (pe_op op_mul (pe_callTy call_int1 (by rfl) T.n_int (by decide +kernel) (pa_cons (pe_cmpR op_eq (pv 2) pe_int (nomark _)) pa_nil)) (pe_call G__law_draw (hr.mono (by decide)) (by rfl) T.g__law_draw T.F__law_draw.kp T.b__law_draw .nil pass0 (pa_cons (pv 0) (pa_cons pe_int pa_nil))))))
      (pss_one (ps_ret (pe_call G__law_least (hr.mono (by decide)) (by rfl) T.g__law_least T.F__law_least.kp T.b__law_least .nil pass0 (pa_cons (pe_lc (own := [("_law_lot", 9)]) (g := gName 9) (by rfl) sc__law_some_table.nd (pi_listK (K := K) (pv 3)) (blkOk_by (own := [("_law_lot", 9)]) (N := N__law_some_table) (sc := defScope s__law_some_table) (by decide +kernel)) (fun _ _ _ _ _ => (pg_name (i := 9) sc__law_some_table.nd rfl (by first | exact Or.inl rfl | exact Or.inr rfl))) (fun _ _ _ _ _ => pts_one (pt_cmpR op_ge (pe_callB (cr_sumK (K := K) rfl) (by rfl) T.n_sum (by decide +kernel) (pa_cons (pe_lc (own := [("_law_person", 6)]) (g := gName 6) (tt := tYes) (by rfl) sc__law_some_table.nd (pi_tupK (K := K) (pv 9)) (blkOk_by (own := [("_law_person", 6)]) (N := N__law_some_table) (sc := _) rfl) (fun _ _ _ _ _ => (pg_name (i := 6) sc__law_some_table.nd rfl (by first | exact Or.inl rfl | exact Or.inr rfl))) (fun _ _ _ _ _ => pts_nil) (fun _ _ _ _ _ => (pe_ix (ixL (K := K)) (pv 4) (pv 6) (fun _ _ => rfl)))) pa_nil)) (pv 5) (nomark _))) (fun _ _ _ _ _ => (pv 9))) pa_nil)))))) 
    pss_nil)
    (pss_cons (ps_if (pt_cmpR op_eq (pv 2) pe_int (nomark _)) 
    (pss_cons (ps_set (i := 6) sc__law_some_table.nd rfl (by first | exact Or.inl rfl | exact Or.inr rfl) (pe_call G__law_draw (hr.mono (by decide)) (by rfl) T.g__law_draw T.F__law_draw.kp T.b__law_draw .nil pass0 (pa_cons (pv 0) (pa_cons (pv 1) pa_nil))))
      (pss_one (ps_ret (pe_call G__law_least (hr.mono (by decide)) (by rfl) T.g__law_least T.F__law_least.kp T.b__law_least .nil pass0 (pa_cons (pe_lc (own := [("_law_lot", 9)]) (g := gName 9) (by rfl) sc__law_some_table.nd (pi_listK (K := K) (pv 3)) (blkOk_by (own := [("_law_lot", 9)]) (N := N__law_some_table) (sc := defScope s__law_some_table) (by decide +kernel)) (fun _ _ _ _ _ => (pg_name (i := 9) sc__law_some_table.nd rfl (by first | exact Or.inl rfl | exact Or.inr rfl))) (fun _ _ _ _ _ => pts_one (PW.pt (pw_and (pt_cmpR (op_inK (K := K)) (pv 6) (pv 9) (by rfl)) (pw_and1 (pt_cmpR op_gt (pe_callB (cr_len (K := K)) (by rfl) T.n_len (by decide +kernel) (pa_cons (pv 9) pa_nil)) (pe_callB (call_min2 rfl) (by rfl) T.n_min (by decide +kernel) (pa_cons (pe_op op_sub (pv 1) pe_int) (pa_cons pe_int pa_nil))) (nomark _)))))) (fun _ _ _ _ _ => (pv 9))) pa_nil))))) 
    pss_nil)
    (pss_cons (ps_set (i := 7) sc__law_some_table.nd rfl (by first | exact Or.inl rfl | exact Or.inr rfl) (pe_lst pa_nil))
    (pss_cons (ps_for PassesOwn.never (by rfl) (pi_range1 (by rfl) T.n_range (pa_cons (pe_op op_add pe_int (pe_call G__law_draw (hr.mono (by decide)) (by rfl) T.g__law_draw T.F__law_draw.kp T.b__law_draw .nil pass0 (pa_cons (pv 0) (pa_cons pe_int pa_nil)))) pa_nil)) (pg_name (i := 8) sc__law_some_table.nd rfl (by first | exact Or.inl rfl | exact Or.inr rfl)) 
    (pss_cons (ps_set (i := 9) sc__law_some_table.nd rfl (by first | exact Or.inl rfl | exact Or.inr rfl) (pe_ix (ixL (K := K)) (pv 3) (pe_call G__law_draw (hr.mono (by decide)) (by rfl) T.g__law_draw T.F__law_draw.kp T.b__law_draw .nil pass0 (pa_cons (pv 0) (pa_cons (pe_callB (cr_len (K := K)) (by rfl) T.n_len (by decide +kernel) (pa_cons (pv 3) pa_nil)) pa_nil))) (fun _ _ => rfl)))
      (pss_one (ps_if (PW.pt (pw_or (pt_cmpR op_eq (pv 2) pe_int (nomark _)) (pw_or1 (PW.pt (pw_and (pt_cmpR op_gt (pe_callB (cr_len (K := K)) (by rfl) T.n_len (by decide +kernel) (pa_cons (pv 9) pa_nil)) pe_int (nomark _)) (pw_and1 (pt_cmpR op_eq (pe_callB (cr_len (K := K)) (by rfl) T.n_len (by decide +kernel) (pa_cons (pe_lc (own := [("_law_other", 10)]) (g := gName 10) (by rfl) sc__law_some_table.nd (pi_listK (K := K) (pv 7)) (blkOk_by (own := [("_law_other", 10)]) (N := N__law_some_table) (sc := defScope s__law_some_table) (by decide +kernel)) (fun _ _ _ _ _ => (pg_name (i := 10) sc__law_some_table.nd rfl (by first | exact Or.inl rfl | exact Or.inr rfl))) (fun _ _ _ _ _ => pts_one (pt_cmpR op_eq (pe_callB (cr_len (K := K)) (by rfl) T.n_len (by decide +kernel) (pa_cons (pe_lc (own := [("_law_one", 11)]) (g := gName 11) (by rfl) sc__law_some_table.nd (pi_tupK (K := K) (pv 10)) (blkOk_by (own := [("_law_one", 11)]) (N := N__law_some_table) (sc := _) rfl) (fun _ _ _ _ _ => (pg_name (i := 11) sc__law_some_table.nd rfl (by first | exact Or.inl rfl | exact Or.inr rfl))) (fun _ _ _ _ _ => pts_one (pt_cmpR (op_inK (K := K)) (pv 11) (pv 9) (by rfl))) (fun _ _ _ _ _ => (pv 11))) pa_nil)) pe_int (nomark _))) (fun _ _ _ _ _ => (pv 10))) pa_nil)) pe_int (nomark _)))))))) 
      (pss_one (ps_expr (pe_bm PySem.F.plainAttrs_list PySem.F.slot_list_append PySem.F.type_list_append mt_append (pv 7) (pa_cons (pv 9) pa_nil)))) 
      pss_nil))))
    (pss_one (ps_ret (pe_call G__law_least (hr.mono (by decide)) (by rfl) T.g__law_least T.F__law_least.kp T.b__law_least .nil pass0 (pa_cons (pv 7) pa_nil)))))))))), ?_⟩
  refine q_draw (K := K) (te := tC (.int 6)) (m := 6) g Pl rfl ev_int ⟨by decide, by decide⟩ fun kd N1 H1 _ _ e1 g1 P1 _ => ?_
  refine q_asg g1.s (f := is K (.list ((lotsM n).map tupI))) (ev_call (args := fun n : Nat => [is K (.int (n : Nat))]) (pre := fun n => n ≤ 6) (res := fun n => is K (.list ((lotsM n).map tupI))) n (show n ≤ 6 by omega) (ea_cons (ev_var rfl (Dp.int (n : Nat))) ea_nil)) fun vl N2 H2 g2 fl => ?_
  have gg2 := g1.trans g2
  have P2 := P1.go g2
  have h8 := lotsM_len hn.2
  have hpos := lotsM_pos n
  refine q_when (b := decide (kd < 3)) gg2.s (et_test (K := K) (ev_lt (ev_var rfl (Dp.int kd)) ev_int)) (fun _ N3 H3 g3 => ?_) (fun _ N3 H3 g3 => ?_)
  · -- by shares
    have gg3 := gg2.trans g3
    have P3 := P2.go g3
    refine q_shares (K := K) (n := n) (by omega) gg3 P3 rfl (fun _ => rfl) (fun _ => rfl) (ev_var rfl (Dp.int (n : Nat))) fun D4 N4 H4 rs e4 g4 P4 c4 hrs nDp nDc _ => ?_
    have g5 := g4.know c4
    have e5 : Ex N4 (upd N4 D4 (.lst (rs.map .int))) := Ex.new c4.n
    have P5 : Pool H0 (upd N4 D4 (.lst (rs.map .int))) H4 p c := by
      obtain ⟨⟨a, b, cp⟩, ⟨cs, cc⟩, ne⟩ := P4
      exact ⟨⟨a, b, cp.up nDp.symm⟩, ⟨cs, cc.up nDc.symm⟩, ne⟩
    have fs5 : is K (.list (rs.map .int)) (.ref D4) (upd N4 D4 (.lst (rs.map .int))) := mk_lst upd_same (dpAll_ints rs)
    refine q_half (K := K) (i := rs.sum / 2 + 1) (j := if decide (kd = 2) = true then 1 else 0) (ev_add (ev_fdiv (ev_sum (ev_var rfl fs5)) ev_int ⟨by decide, by decide⟩) ev_int) (ev_int1b (ev_eqI (ev_var rfl (Dp.int kd)) ev_int)) (by split <;> decide) g5 P5 rfl fun z N6 H6 e6 g6 P6 => ?_
    have e26 : Ex N2 N6 := g3.n.trans (e4.trans (e5.trans e6))
    have fl6 := (is K _).st _ _ _ e26 fl
    have fs6 := (is K _).st _ _ _ e6 fs5
    refine s_least (ls := (lotsM n).filter fun l => decide (z ≤ (l.map fun p => rs.getD p.toNat 0).sum)) hn.2 (fun l h => (List.mem_filter.mp h).1) (Nat.le_trans (List.length_filter_le _ _) (by omega)) g6 P6 (ev_lc (K := K) (vs := [9]) (lotsM n) _ (fun l => decide (z ≤ (l.map fun p => rs.getD p.toNat 0).sum)) tupI (ei_list (ev_var rfl fl6)) (by omega) fun l hl x M eM fx => ⟨_, eg_name, rfl, et_test (K := K) (ev_ge (ev_sum (ns := l.map fun p => rs.getD p.toNat 0) ((ev_lc0 (K := K) (vs := [6]) l _ (fun p => .int (rs.getD p.toNat 0)) (ei_tup (enc := .int) (ev_var rfl fx)) (by have := (lots_ok (by omega) hl).2.2; omega) fun pp hpp y M2 eM2 fy => ⟨_, eg_name, rfl, ?_⟩).cast (by rw [List.map_map]; rfl))) (ev_var rfl (Dp.int z))), fun _ => ev_var rfl fx⟩) fun v N' H' g' P' fv => q v N' H' g' P' fv
    have hr := lotsR_ok (lotsM_mem hl) pp hpp
    have ey := is_int fy
    subst ey
    have hpn : (pp.toNat : Int) = pp := Int.toNat_of_nonneg hr.1
    have hlt : pp.toNat < rs.length := by omega
    refine ev_ixL (ds := rs.map .int) (ev_var rfl ((is K _).st _ _ _ (eM.trans eM2) fs6)) (ev_var rfl (Dp.int pp)) ?_
    rw [← hpn]
    have hget : rs[pp.toNat]? = some (rs.getD pp.toNat 0) := by
      rw [List.getD_eq_getElem?_getD, List.getElem?_eq_getElem hlt] <;> rfl
    have := atI_map (enc := PyData.int) hget
    rw [Int.toNat_natCast]
    exact this
  · have gg3 := gg2.trans g3
    have P3 := P2.go g3
    refine q_when (b := decide (kd = 3)) gg3.s (et_test (K := K) (ev_eqI (ev_var rfl (Dp.int kd)) ev_int)) (fun _ N4 H4 g4 => ?_) (fun _ N4 H4 g4 => ?_)
    · -- somebody has to be in it
      have gg4 := gg3.trans g4
      have P4 := P3.go g4
      refine q_draw (K := K) (te := tVar 1) (m := (n : Nat)) gg4 P4 rfl (ev_var rfl (Dp.int (n : Nat))) (by omega) fun r N5 H5 _ _ e5 g5 P5 _ => ?_
      have fl5 := (is K _).st _ _ _ (g3.n.trans (g4.n.trans e5)) fl
      exact s_least (ls := (lotsM n).filter fun l => decide (r ∈ l) && decide ((if (1 : Int) < (n : Int) - 1 then (1 : Int) else (n : Int) - 1) < (l.length : Int))) hn.2 (fun l h => (List.mem_filter.mp h).1) (Nat.le_trans (List.length_filter_le _ _) (by omega)) g5 P5 (ev_lc (K := K) (vs := [9]) (lotsM n) _ (fun l => decide (r ∈ l) && decide ((if (1 : Int) < (n : Int) - 1 then (1 : Int) else (n : Int) - 1) < (l.length : Int))) tupI (ei_list (ev_var rfl fl5)) (by omega) fun l hl x M eM fx => ⟨_, eg_name, rfl, et_and (et_test (K := K) ((ev_inT (neg := false) (ev_var rfl (Dp.int r)) (ev_var rfl fx)).cast rfl)) (fun _ => et_test (K := K) ((ev_gt (ev_lenT (ev_var rfl fx)) (ev_min2 (ev_sub (ev_var rfl (Dp.int (n : Nat))) ev_int) ev_int)).cast (by rw [List.length_map]))), fun _ => ev_var rfl fx⟩) fun v N' H' g' P' fv => q v N' H' g' P' fv
    · -- lots that are drawn
      have gg4 := gg3.trans g4
      have P4 := P3.go g4
      refine q_new gg4.s (en_lst (K := K) (ds := []) ea_nil (Nat.le_of_ble_eq_true rfl)) fun pf vs N5 H5 g5 hpf hd => ?_
      cases hd
      have P5 := P4.go g5
      obtain ⟨g6, c6⟩ := Cl.mk' (o := .lst []) (gg4.trans g5) hpf
      have npf : pf ≠ p := by
        obtain ⟨a, b, cp⟩ := P5.hp
        exact (ne_of_none cp.h hpf).symm
      have ncf : pf ≠ c := by
        obtain ⟨cs, cc⟩ := P5.hc
        exact (ne_of_none cc.h hpf).symm
      have P6 : Pool H0 N5 (upd H5 pf (.lst [])) p c := by
        obtain ⟨⟨a, b, cp⟩, ⟨cs, cc⟩, ne⟩ := P5
        exact ⟨⟨a, b, cp.off npf.symm⟩, ⟨cs, cc.off ncf.symm⟩, ne⟩
      refine q_forDraw (K := K) g6 P6 rfl fun r N7 H7 r0 r1 e7 g7 P7 o7 => ?_
      have c7 := o7 _ _ c6 npf ncf
      have fl7 := (is K _).st _ _ _ (g3.n.trans (g4.n.trans (g5.n.trans e7))) fl
      refine s_for (List.range (1 + r).toNat) (fun i => is K (.int (0 + (i : Nat)))) g7.s (ei_rng1 (K := K) (n := 1 + r) (ea_cons ev_int ea_nil) (by omega) (by omega)) fun N8 H8 g8 => ?_
      refine ⟨fun i σ H9 => ∃ (a b : Option V) (N9 : Hp) (ws : List V) (fs : List (List Int)), σ = [some (.ref p), some (.int (n : Nat)), some (.int kd), some vl, none, none, none, some (.ref pf), a, b, none, none] ∧ Go N H0 N9 H9 ∧ Ex N8 N9 ∧ Pool H0 N9 H9 p c ∧ Cl H0 N9 H9 pf (.lst ws) ∧ DpAll K N9 ws (fs.map tupI) ∧ (∀ l ∈ fs, l ∈ lotsM n) ∧ fs.length ≤ i,
        ⟨none, none, N8, [], [], rfl, g7.trans g8, Ex.refl _, P7.go g8, c7.go g8, .nil, fun l h => by (cases h), Nat.le_refl _⟩, ?_, ?_, ?_⟩
      · rintro i σ H9 ⟨_, _, N9, _, _, _, g9, e9, _⟩
        exact e9.trans g9.s
      · rintro i x0 y σ H9 hi fy ⟨a, b, N9, ws, fs, rfl, g9, e9, P9, c9, d9, hfs, hlen⟩
        have hil : i < 5 := by
          have := (List.getElem?_eq_some_iff.mp hi).1
          rw [List.length_range] at this
          omega
        have fl9 := (is K _).st _ _ _ (g8.n.trans e9) fl7
        refine q_lot (K := K) (n := n) (vl := vl) hn.2 g9 P9 rfl rfl fl9 fun l z N10 H10 hl fz e10 g10 P10 o10 => ?_
        have c10 := o10 _ _ c9 npf ncf
        have d10 := dpAll_ex e10 _ _ d9
        have hwl : ws.length = fs.length := by
          rw [dpAll_len d9, List.length_map]
        have eK : Ex N10 (upd N10 pf (.lst ws)) := Ex.new c10.n
        have fzK := (is K (tupI l)).st _ _ _ eK fz
        have ffK : is K (.list (fs.map tupI)) (.ref pf) (upd N10 pf (.lst ws)) := mk_lst upd_same (dpAll_ex eK _ _ d10)
        have hll := (lots_ok (by omega) hl).2.2
        refine et_or (et_test (K := K) (ev_eqI (ev_var rfl (Dp.int kd)) ev_int)) (fun _ => et_and (et_test (K := K) (ev_gt (ev_lenT (ev_var rfl fzK)) ev_int)) fun _ => et_test (K := K) (ev_eqI (ev_lenL (ev_lc (K := K) (vs := [10]) fs _ (fun m => decide (((((m.filter fun o => decide (o ∈ l)).map PyData.int).length : Nat) : Int) = 0)) tupI (ei_list (ev_var rfl ffK)) (by omega) fun m hm x M eM fx => ⟨_, eg_name, rfl, et_test (K := K) (ev_eqI (ev_lenL (ev_lc (K := K) (vs := [11]) m _ (fun o => decide (o ∈ l)) (fun o => .int o) (ei_tup (enc := .int) (ev_var rfl fx)) (by have := (lots_ok (n := n) (by omega) (hfs m hm)).2.2; omega) fun o ho u M2 eM2 fu => ⟨_, eg_name, rfl, et_test (K := K) ((ev_inT (neg := false) (ev_var rfl (is_int fu ▸ Dp.int o)) (ev_var rfl ((is K _).st _ _ _ (eM.trans eM2) fzK))).cast rfl), fun _ => ev_var rfl fu⟩)) ev_int), fun _ => ev_var rfl fx⟩)) ev_int)) H10 (ex_know g10.s c10.h) _ fun N11 H11 g11 => ?_
        obtain ⟨g12, c12, hp12, e12⟩ := g10.unknow c10 g11
        have P12 : Pool H0 (erase N11 pf) H11 p c := by
          obtain ⟨⟨a, b, cp⟩, ⟨cs, cc⟩, ne⟩ := P10
          exact ⟨⟨a, b, ((cp.up npf.symm).go g11).er⟩, ⟨cs, ((cc.up ncf.symm).go g11).er⟩, ne⟩
        split
        · refine ⟨_, rfl, .inl ⟨rfl, ws, .inl (.inl c12.h)⟩, _, rfl, pf, ws, z, rfl, rfl, c12.h, sz_lt (by omega), ?_⟩
          refine ⟨_, _, erase N11 pf, ws ++ [z], fs ++ [l], rfl, g12.put c12, e9.trans (e10.trans e12), ?_, c12.put, ?_, fun m hm => ?_, by rw [List.length_append, List.length_singleton]; omega⟩
          · obtain ⟨⟨a, b, cp⟩, ⟨cs, cc⟩, ne⟩ := P12
            exact ⟨⟨a, b, cp.off npf.symm⟩, ⟨cs, cc.off ncf.symm⟩, ne⟩
          · rw [List.map_append]
            exact dpAll_app (dpAll_ex (e10.trans e12) _ _ d9) (dpAll_one (dp_ex e12 _ _ fz))
          · rcases List.mem_append.mp hm with hm | hm
            · exact hfs m hm
            · rw [List.mem_singleton.mp hm]
              exact hl
        · exact ⟨_, _, erase N11 pf, ws, fs, rfl, g12, e9.trans (e10.trans e12), P12, c12, dpAll_ex (e10.trans e12) _ _ d9, hfs, by omega⟩
      · rintro σ H9 ⟨a, b, N9, ws, fs, rfl, g9, e9, P9, c9, d9, hfs, hlen⟩
        rw [List.length_range] at hlen
        have g10 := g9.know c9
        have P10 : Pool H0 (upd N9 pf (.lst ws)) H9 p c := by
          obtain ⟨⟨a, b, cp⟩, ⟨cs, cc⟩, ne⟩ := P9
          exact ⟨⟨a, b, cp.up npf.symm⟩, ⟨cs, cc.up ncf.symm⟩, ne⟩
        exact s_least (ls := fs) hn.2 hfs (by omega) g10 P10 (ev_var rfl (mk_lst upd_same (dpAll_ex (Ex.new c9.n) _ _ d9))) fun v N' H' g' P' fv => q v N' H' g' P' fv
end
end Rk
end PartRkF19

section PartRkP3
set_option Elab.async false
set_option linter.all false
set_option maxRecDepth 100000
set_option maxHeartbeats 400000
/-! the plain law -/
namespace Rk
open PySem PySem.Spec PyProof.Rows L2 RkS DX
theorem carr_by (t : List (List Int)) (l : List Int) : carr t l = lawBy t l := by
  unfold carr lawBy
  induction t with
  | nil => rfl
  | cons m t ih =>
    rw [List.map_cons, List.any_cons, ih, List.filter_cons, part_of]
    show (decide (((m.filter fun p => !decide (p ∈ l)).length : Int) = 0) || _) = _
    cases hd : decide (((m.filter fun p => !decide (p ∈ l)).length : Int) = 0) with
    | true =>
      rw [if_pos rfl, List.length_cons, Bool.true_or]
      symm
      rw [decide_eq_true_eq]
      omega
    | false =>
      rw [if_neg Bool.false_ne_true, Bool.false_or]
theorem sw_congr {T T' : List Int → Nat → Bool} {k : Nat} (h : ∀ fd i, i < k → T fd i = T' fd i) (fd : List Int) : sw T k fd = sw T' k fd := by
  unfold sw
  have : ∀ (l : List Nat) (fd : List Int), (∀ i ∈ l, i < k) → l.foldl (one T) fd = l.foldl (one T') fd := by
    intro l
    induction l with
    | nil => intro fd _; rfl
    | cons i l ih =>
      intro fd hl
      rw [List.foldl_cons, List.foldl_cons]
      have e : one T fd i = one T' fd i := by
        unfold one
        rw [h fd i (hl i List.mem_cons_self)]
      rw [e]
      exact ih _ fun j hj => hl j (List.mem_cons_of_mem _ hj)
  exact this _ _ fun i hi => List.mem_range.mp hi
theorem pl_congr {T T' : List Int → Nat → Bool} {k : Nat} (h : ∀ fd i, i < k → T fd i = T' fd i) : ∀ (n : Nat) (fd : List Int), pl T k n fd = pl T' k n fd
  | 0, _ => rfl
  | n + 1, fd => by
    unfold pl
    rw [sw_congr h fd, pl_congr h n]
def cntS (h : List Ho) (lot : List Int) : Nat := (h.filter fun x => !x.1 && decide ((x.2 : Int) ∈ lot)).length
theorem sel_split (lot fd : List Int) : ∀ h : List Ho, (h.filter (selL lot fd)).length = cntS h lot + cntH (fun o => decide (o ∈ fd)) h
  | [] => rfl
  | (b, k) :: h => by
    unfold cntS cntH
    rw [List.filter_cons, List.filter_cons, List.filter_cons]
    have ih := sel_split lot fd h
    unfold cntS cntH at ih
    cases b with
    | true =>
      have e : selL lot fd (true, k) = decide ((k : Int) ∈ fd) := by
        unfold selL
        rw [show decide (sgn (true, k) = Str.ofString "f") = false from rfl, show decide (sgn (true, k) = Str.ofString "h") = true from rfl, Bool.false_and, Bool.false_or, Bool.true_and]
      rw [e]
      show (if decide ((k : Int) ∈ fd) = true then _ else _ : List Ho).length = (if (false && _) = true then _ else _ : List Ho).length + (if (true && decide ((k : Int) ∈ fd)) = true then _ else _ : List Ho).length
      rw [Bool.false_and, if_neg Bool.false_ne_true, Bool.true_and]
      split
      · rw [List.length_cons, List.length_cons, ih]
        omega
      · exact ih
    | false =>
      have e : selL lot fd (false, k) = decide ((k : Int) ∈ lot) := by
        unfold selL
        rw [show decide (sgn (false, k) = Str.ofString "f") = true from rfl, show decide (sgn (false, k) = Str.ofString "h") = false from rfl, Bool.false_and, Bool.or_false, Bool.true_and]
      rw [e]
      show (if decide ((k : Int) ∈ lot) = true then _ else _ : List Ho).length = (if (true && decide ((k : Int) ∈ lot)) = true then _ else _ : List Ho).length + (if (false && _) = true then _ else _ : List Ho).length
      rw [Bool.false_and, if_neg Bool.false_ne_true, Bool.true_and]
      split
      · rw [List.length_cons, List.length_cons, ih]
        omega
      · exact ih
theorem folk_part : ∀ n ∈ [1, 2, 3], ∀ k ∈ [1, 2], ∀ h ∈ threesM n k, ∀ l ∈ lotsM n, (l.map fun p => (cntF h p.toNat : Int)).sum = (cntS h l : Int) := by decide +kernel
theorem half_same {n k : Nat} (hn : n ∈ [1, 2, 3]) (hk : k ∈ [1, 2]) {h : List Ho} (hh : h ∈ threesM n k) {l : List Int} (hl : l ∈ lotsM n) (fd : List Int) : halfM h l fd = halfL h l fd := by
  have h6 : n ≤ 6 := by
    simp at hn
    omega
  have h2 : k ≤ 2 := by
    simp at hk
    omega
  have h3 := (three_ok h6 h2 hh).2.1
  unfold halfM halfL sharesM
  rw [folk_part n hn k hk h hh l hl, sel_split, h3]
  refine decide_eq_decide.mpr ?_
  omega
theorem car_same {n k : Nat} (hn : n ∈ [1, 2, 3]) (hk : k ∈ [1, 2]) {hs : List (List Ho)} (hh : ∀ h ∈ hs, h ∈ threesM n k) {l : List Int} (hl : l ∈ lotsM n) : carM hs l = carL hs l := by
  unfold carM carL
  refine pl_congr (fun fd i hi => ?_) _ _
  unfold Tm Tl
  refine half_same hn hk (hh _ ?_) hl fd
  rw [List.getD_eq_getElem?_getD, List.getElem?_eq_getElem hi]
  exact List.getElem_mem hi
theorem has_same {n k : Nat} (hn : n ∈ [1, 2, 3]) (hk : k ∈ [1, 2]) {hs : List (List Ho)} (hh : ∀ h ∈ hs, h ∈ threesM n k) (t : List (List Int)) : alikeM n t hs = hasL n hs t := by
  unfold alikeM hasL
  have : ∀ ls : List (List Int), (∀ l ∈ ls, l ∈ lotsM n) → (ls.all fun l => carr t l == decide (((hs.length : Int) - 1) ∈ carM hs l)) = ls.all fun l => lawBy t l == decide (((hs.length : Int) - 1) ∈ carL hs l) := by
    intro ls
    induction ls with
    | nil => intro _; rfl
    | cons l ls ih =>
      intro hl
      rw [List.all_cons, List.all_cons, ih fun x hx => hl x (List.mem_cons_of_mem _ hx), carr_by, car_same hn hk hh (hl l List.mem_cons_self)]
  exact this _ fun _ h => h
theorem any_congr {α : Type} {p q : α → Bool} : ∀ {l : List α}, (∀ x ∈ l, p x = q x) → l.any p = l.any q
  | [], _ => rfl
  | a :: l, h => by
    rw [List.any_cons, List.any_cons, h a List.mem_cons_self, any_congr fun x hx => h x (List.mem_cons_of_mem _ hx)]
theorem any_filter {α : Type} {p : α → Bool} : ∀ {l : List α}, l.any p = decide (0 < (l.filter p).length)
  | [] => rfl
  | a :: l => by
    rw [List.any_cons, List.filter_cons, any_filter (l := l)]
    cases h : p a with
    | true =>
      rw [if_pos rfl, Bool.true_or, List.length_cons]
      symm
      exact decide_eq_true (Nat.succ_pos _)
    | false =>
      rw [if_neg Bool.false_ne_true, Bool.false_or]
theorem any_swap {α β : Type} {p : α → β → Bool} (l : List α) (m : List β) : (l.any fun a => m.any fun b => p a b) = m.any fun b => l.any fun a => p a b := by
  rw [Bool.eq_iff_iff]
  simp only [List.any_eq_true]
  constructor
  · rintro ⟨a, ha, b, hb, h⟩
    exact ⟨b, hb, a, ha, h⟩
  · rintro ⟨b, hb, a, ha, h⟩
    exact ⟨a, ha, b, hb, h⟩
theorem few_same {n : Nat} (hn : n ∈ [1, 2, 3]) (t : List (List Int)) : fewD n t = fewL n t := by
  have e1 : ((threesM n 1).any fun h => alikeM n t [h]) = decide (0 < ((threesM n 1).filter fun h => hasL n [h] t).length) := by
    rw [← any_filter]
    exact any_congr fun h hh => has_same hn (k := 1) (by decide) (fun x hx => by rw [List.mem_singleton.mp hx]; exact hh) t
  have e2 : ((threesM n 2).any fun a => (threesM n 2).any fun b => alikeM n t [a, b]) = (threesM n 2).any fun b => (threesM n 2).any fun a => hasL n [a, b] t := by
    rw [any_swap]
    refine any_congr fun b hb => any_congr fun a ha => has_same hn (k := 2) (by decide) (fun x hx => ?_) t
    rcases List.mem_cons.mp hx with rfl | hx
    · exact ha
    · rw [List.mem_singleton.mp hx]
      exact hb
  unfold fewD fewL
  rw [e1, e2]
  by_cases h : 0 < ((threesM n 1).filter fun h => hasL n [h] t).length
  · rw [if_pos (decide_eq_true h), if_pos h]
  · rw [if_neg (by rw [decide_eq_false h]; exact Bool.false_ne_true), if_neg h]
/-! the four tables that are asked -/
theorem k1 : fewD 3 [[0, 1], [0, 2], [1, 2]] = .int 1 := by
  unfold fewD
  rw [if_pos (by decide +kernel)]
theorem k2 : fewD 2 [[0, 1]] = .int 1 := by
  unfold fewD
  rw [if_pos (by decide +kernel)]
theorem k3 : fewD 1 [] = .int 1 := by
  unfold fewD
  rw [if_pos (by decide +kernel)]
theorem k4 : fewD 2 [[0], [1]] = .none := by
  unfold fewD
  rw [if_neg (by decide +kernel), if_neg (by decide +kernel)]
/-! tables by a test -/
def ascB {α : Type} (R : α → α → Bool) : List α → Bool
  | [] => true
  | [_] => true
  | a :: b :: l => R a b && ascB R (b :: l)
theorem asc_of {α : Type} {R : α → α → Bool} {S : α → α → Prop} (hRS : ∀ a b, R a b = true → S a b) : ∀ {l : List α}, ascB R l = true → Asc S l
  | [], _, i, x, y, hx, _ => by simp at hx
  | [_], _, i, x, y, _, hy => by simp at hy
  | a :: b :: l, h, i, x, y, hx, hy => by
    rw [ascB, Bool.and_eq_true] at h
    cases i with
    | zero =>
      have e1 : a = x := Option.some.inj hx
      have e2 : b = y := Option.some.inj hy
      subst e1 e2
      exact hRS _ _ h.1
    | succ i => exact asc_of hRS h.2 i x y (by simpa using hx) (by simpa using hy)
def chk (n : Int) (t : List (List Int)) : Bool := decide (t.length ≤ 1000) && (t.all fun l => (l.all fun p => decide (0 ≤ p) && decide (p ≤ n - 1)) && ascB (fun a b => decide (a < b)) l && decide (l.length ≤ 1000)) && ascB HT.lexLt t &&
  ((List.range t.length).all fun i => (List.range t.length).all fun j => decide (i = j) || !part (t.getD j []) (t.getD i []))
theorem okTab_chk {n : Int} {t : List (List Int)} (h : chk n t = true) : OkTab n t := by
  unfold chk at h
  rw [Bool.and_eq_true, Bool.and_eq_true, Bool.and_eq_true] at h
  obtain ⟨⟨⟨h1, h2⟩, h3⟩, h4⟩ := h
  rw [List.all_eq_true] at h2 h4
  refine ⟨of_decide_eq_true h1, fun l hl => ?_, asc_of (fun _ _ h => h) h3, fun i j l m hi hj hij => ?_⟩
  · have := h2 l hl
    rw [Bool.and_eq_true, Bool.and_eq_true, List.all_eq_true] at this
    refine ⟨fun p hp => ?_, asc_of (fun _ _ h => of_decide_eq_true h) this.1.2, of_decide_eq_true this.2⟩
    have := this.1.1 p hp
    rw [Bool.and_eq_true, decide_eq_true_eq, decide_eq_true_eq] at this
    exact this
  · have a1 := List.getElem?_eq_some_iff.mp hi
    have a2 := List.getElem?_eq_some_iff.mp hj
    have := h4 i (List.mem_range.mpr a1.1)
    rw [List.all_eq_true] at this
    have := this j (List.mem_range.mpr a2.1)
    rw [decide_eq_false hij, Bool.false_or, Bool.not_eq_true', List.getD_eq_getElem?_getD, List.getD_eq_getElem?_getD, hi, hj] at this
    exact this
end Rk
end PartRkP3

section PartRkF20
set_option Elab.async false
set_option linter.all false
set_option maxRecDepth 100000
set_option maxHeartbeats 400000
namespace Rk
open PySem PySem.Spec PyProof.Rows L2 RkS DX
section
variable {P : Program} {w : World} {K : PySem.W.Frag} {mg : Str → Option Value} {base : Heap} {A : Ad} {B : Fd} {C fI : Addr}
variable {σ : L2.St} {N N0 H0 H : Hp} {ta tb tc te ty td : TE} {p c : Addr} {m : Int} {D : Ends} {tz tu : TS}
theorem q_pool {E : XK} {xs : List Int} {v : V} (e : Ex N H) (h0 : σ[0]? = some (some v)) (hv : is K (.list (xs.map .int)) v N) (hz : xs.length ≤ 1000)
    (k : ∀ N' H' p c, Go N H N' H' → Pool H N' H' p c → tz D (σ.set 1 (some (.ref p))) H') : tSeq (tAsg (tCall (sp_pool K) [] E (tCons (tVar 0) tNil)) (gName 1)) tz D σ H :=
  ⟨v, h0, N, xs, v, rfl, e, hv, hz, k⟩
theorem q_folk {E : XK} {tl : TE} (g : Go N0 H0 N H) (Pl : Pool H0 N H p c) (h1 : σ[1]? = some (some (.ref p))) (hL : EvP tl σ N (is K (.list (([1, 2, 2, 2, 3] : List Int).map .int))))
    (k : ∀ (n : Nat) N' H', 1 ≤ n → n ≤ 3 → Ex N N' → Go N0 H0 N' H' → Pool H0 N' H' p c → tz D (σ.set 2 (some (.int (n : Nat)))) H') :
    tSeq (tAsg (tOp (rIxL K) tl (tCall (sp_draw K) [] E (tCons (tVar 1) (tCons (tC (.int 5)) tNil)))) (gName 2)) tz D σ H := hL H g.s _ fun v N1 H1 g1 fv => by
  refine t_draw (K := K) (te := tC (.int 5)) (m := 5) (g.trans g1) (Pl.go g1) h1 ev_int ⟨by decide, by decide⟩ fun r N' H' r0 r1 e' g' P' _ => ?_
  have fv' := (is K _).st _ _ _ e' fv
  obtain ⟨a, xs, rfl, hs, hd⟩ := is_lst fv'
  have hlt : r.toNat < ([1, 2, 2, 2, 3] : List Int).length := by
    show r.toNat < 5
    omega
  have hget := List.getElem?_eq_getElem hlt
  have hat := atI_map (enc := PyData.int) hget
  rw [Int.toNat_of_nonneg r0] at hat
  obtain ⟨z, hz, dz⟩ := atI_dp hd hat
  have ez := is_int dz
  have hb : 1 ≤ ([1, 2, 2, 2, 3] : List Int)[r.toNat] ∧ ([1, 2, 2, 2, 3] : List Int)[r.toNat] ≤ 3 := by
    have : ∀ x ∈ ([1, 2, 2, 2, 3] : List Int), 1 ≤ x ∧ x ≤ 3 := by decide
    exact this _ (List.getElem_mem hlt)
  generalize ([1, 2, 2, 2, 3] : List Int)[r.toNat] = y at hb ez
  have ey : y = ((y.toNat : Nat) : Int) := (Int.toNat_of_nonneg (by omega)).symm
  rw [ey] at ez
  subst ez
  exact ⟨a, xs, r, _, rfl, rfl, sqL_ex g'.s hs, hz, k y.toNat N' H' (by omega) (by omega) (g1.n.trans e') g' P'⟩
theorem q_table {E : XK} {n : Nat} (hn : 1 ≤ n ∧ n ≤ 3) (g : Go N0 H0 N H) (Pl : Pool H0 N H p c) (h1 : σ[1]? = some (some (.ref p))) (h2 : σ[2]? = some (some (.int (n : Nat))))
    (k : ∀ v N' H', Ex N N' → Go N0 H0 N' H' → Pool H0 N' H' p c → TabP K (n : Nat) v N' → tz D (σ.set 3 (some v)) H') : tSeq (tAsg (tCall (sp_table K) [] E (tCons (tVar 1) (tCons (tVar 2) tNil))) (gName 3)) tz D σ H :=
  ⟨_, h1, _, h2, N, H0, p, c, n, rfl, hn, g.self, Pl, fun v N' H' g' P' fv => k v N' H' g'.n ⟨g.n.trans g'.n, g'.h, g'.s, fun a o h => by
    rcases g'.f a o h with h | h
    · exact g.f a o h
    · exact .inr h⟩ P' fv⟩
theorem ev_fewest {n : Nat} {t : List (List Int)} (hn : 1 ≤ n ∧ n ≤ 3) (ht : OkTab (n : Nat) t) (h1 : EvP ta σ N (is K (.int (n : Nat)))) (h2 : EvP tb σ N (is K (tabD t))) : EvP (tCall (sp_fewest K C) [] (fun _ _ _ => False) (tCons ta (tCons tb tNil))) σ N (is K (fewD n t)) := fun H e Q q =>
  h1 H e _ fun x N1 H1 g1 fx => (h2.mono g1.n) H1 g1.s _ fun y N2 H2 g2 fy =>
    ⟨n, t, N2, g2.s, ⟨(is K _).st _ _ _ g2.n fx, fy, trivial⟩, ⟨hn.1, by omega⟩, ht, web_in1 (by omega), web_in2 (by omega), fun _ v N' H' g' fv => q v N' H' ((g1.trans g2).trans g') fv, fun h => absurd hn.2 h⟩
/-- a value that is None or a number, compared with itself -/
theorem ev_neSame {d : PyData} (hd : d = .none ∨ ∃ i, d = .int i) (ha : EvP ta σ N (is K d)) (hb : EvP tb σ N (is K d)) : EvP (tOp rNe ta tb) σ N (is K (.bool false)) := by
  rcases hd with rfl | ⟨i, rfl⟩
  · exact (ev_neV (x := .non) (y := .non) ha hb rfl rfl rfl).cast rfl
  · exact (ev_neV (x := .int i) (y := .int i) ha hb rfl rfl rfl).cast (by simp)
theorem et_notNone (ha : EvP ta σ N (is K .none)) : EvT (tTest (tOp (fun x y H Q => y = .non ∧ Q (.bl (!decide (x = .non))) H) ta (tC .non))) σ N false := fun H e Q q =>
  ha H e _ fun v N1 H1 g1 fv => by
    have ev := is_non fv
    subst ev
    exact ⟨rfl, false, rfl, q N1 H1 g1⟩
theorem few_kind (n : Nat) (t : List (List Int)) : fewD n t = .none ∨ ∃ i, fewD n t = .int i := by
  unfold fewD
  split
  · exact .inr ⟨1, rfl⟩
  · split
    · exact .inr ⟨2, rfl⟩
    · exact .inl rfl
theorem ev_lmany {n : Nat} {E : XK} (hn : 1 ≤ n ∧ n ≤ 6) (h1 : EvP ta σ N (is K (.int (n : Nat)))) : EvP (tCall (sp_lmany K) [] E (tCons ta tNil)) σ N (is K (manyD n)) :=
  ev_call (args := fun n : Nat => [is K (.int (n : Nat))]) (pre := fun n => 1 ≤ n ∧ n ≤ 6) (res := fun n => is K (manyD n)) n hn (ea_cons h1 ea_nil)
theorem ev_eqData {d e : PyData} (hd : SeqAt.shaped d = true) (he : SeqAt.shaped e = true) (ha : EvP ta σ N (is K d)) (hb : EvP tb σ N (is K e)) : EvP (tOp (rEqD K) ta tb) σ N (is K (.bool (PyData.eqv d e))) :=
  ev_op ha hb fun x y M eM fx fy H eh Q q => ⟨d, e, dp_ex eh _ _ fx, dp_ex eh _ _ fy, hd, he, q _ M H (Go.refl eh) (.bl _)⟩
theorem s_end {E1 E2 E3 : XK} (g : Go N0 H0 N H) (Pl : Pool H0 N H p c) (h1 : σ[1]? = some (some (.ref p))) (k : ∀ H', D.rt (.bl true) H') :
    tRet (tOp (rEqD K) (tLst (tCons (tCall (sp_lmany K) [] E1 (tCons (tOp (rI0 fun i j => .int (i + j)) (tC (.int 4)) (tCall (sp_draw K) [] E2 (tCons (tVar 1) (tCons (tC (.int 3)) tNil)))) tNil)) (tCons (tCall (sp_lmany K) [] E3 (tCons (tC (.int 3)) tNil)) tNil)))
      (tLst (tCons (tC (.int 3)) (tCons (tC (.str (Str.ofString "told"))) tNil)))) D σ H := by
  unfold tRet tOp
  unfold tLst
  refine t_draw (K := K) (te := tC (.int 3)) (m := 3) g Pl h1 ev_int ⟨by decide, by decide⟩ fun r N' H' r0 r1 e' g' P' _ => ⟨4, r, rfl, rfl, ?_⟩
  have hn : (4 + r) = (((4 + r).toNat : Nat) : Int) := (Int.toNat_of_nonneg (by omega)).symm
  have hm : manyD (4 + r).toNat = .int 3 := by
    unfold manyD
    rw [if_neg (by omega)]
  have h3 : manyD 3 = .str (Str.ofString "told") := rfl
  have hE : EvP (tOp (rEqD K) (tLst (tCons (tCall (sp_lmany K) [] E1 (tCons (tC (.int (4 + r))) tNil)) (tCons (tCall (sp_lmany K) [] E3 (tCons (tC (.int 3)) tNil)) tNil))) (tLst (tCons (tC (.int 3)) (tCons (tC (.str (Str.ofString "told"))) tNil)))) σ N' (is K (.bool true)) := by
    refine (ev_eqData (d := .list [.int 3, .str (Str.ofString "told")]) (e := .list [.int 3, .str (Str.ofString "told")]) (by decide +kernel) (by decide +kernel) (ev_lst (ds := [.int 3, .str (Str.ofString "told")]) (ea_cons (f := is K (.int 3)) ?_ (ea_cons (f := is K (.str (Str.ofString "told"))) ?_ ea_nil)) (Nat.le_of_ble_eq_true rfl)) (ev_lst (ds := [.int 3, .str (Str.ofString "told")]) (ea_cons ev_int (ea_cons ev_str ea_nil)) (Nat.le_of_ble_eq_true rfl))).cast (by rw [show PyData.eqv (.list [.int 3, .str (Str.ofString "told")]) (.list [.int 3, .str (Str.ofString "told")]) = true by decide +kernel])
    · refine (ev_lmany (n := (4 + r).toNat) (by omega) ?_).cast hm
      rw [← hn]
      exact ev_int
    · exact (ev_lmany (n := 3) ⟨by decide, by decide⟩ ev_int).cast h3
  exact hE H' g'.s _ fun v N'' H'' g'' fv => by
    have ev := is_bl fv
    subst ev
    exact k H''
def sp_law (K : PySem.W.Frag) : Sp := fun vs H Q _ => ∃ (a : Addr) (ns : List Int), vs = [.ref a] ∧ SqL K H a (ns.map V.int) ∧ ns.length ≤ 63 ∧ ∀ H', Q (.bl true) H'
theorem ok_law (T : Txt K mg A B) (TM : PySem.TmX.TmTxt P K mg C fI) : FnOk P w K mg base CX0 8 A.law B.law ["_law_script"] (sp_law K) := by
  have G__law_pool := ok_law_pool (P := P) (w := w) (base := base) T
  have G__law_draw := ok_law_draw (P := P) (w := w) (base := base) T
  have G__law_some_table := ok_law_some_table (P := P) (w := w) (base := base) T
  have G_fewest_houses := ok_fewest_houses (P := P) (w := w) (base := base) T TM
  have G__law_fewest := ok_law_fewest (P := P) (w := w) (base := base) T
  have G__law_many := ok_law_many (P := P) (w := w) (base := base) T TM
  refine T.F_law.ok sc_law (fun _ _ _ _ h => ?_) (fun cdv A' outer s H vs Q E hr h => ?_)
  · obtain ⟨_, _, rfl, _⟩ := h
    rfl
  obtain ⟨a, ns, rfl, hS, hz, q⟩ := h
  refine ⟨_, (pss_cons (ps_set (i := 1) sc_law.nd rfl (by first | exact Or.inl rfl | exact Or.inr rfl) (pe_call G__law_pool (hr.mono (by decide)) (by rfl) T.g__law_pool T.F__law_pool.kp T.b__law_pool .nil pass0 (pa_cons (pv 0) pa_nil)))
    (pss_cons (ps_set (i := 2) sc_law.nd rfl (by first | exact Or.inl rfl | exact Or.inr rfl) (pe_ix (ixL (K := K)) (pe_lst (pa_cons pe_int (pa_cons pe_int (pa_cons pe_int (pa_cons pe_int (pa_cons pe_int pa_nil)))))) (pe_call G__law_draw (hr.mono (by decide)) (by rfl) T.g__law_draw T.F__law_draw.kp T.b__law_draw .nil pass0 (pa_cons (pv 1) (pa_cons pe_int pa_nil))) (fun _ _ => rfl)))
    (pss_cons (ps_set (i := 3) sc_law.nd rfl (by first | exact Or.inl rfl | exact Or.inr rfl) (pe_call G__law_some_table (hr.mono (by decide)) (by rfl) T.g__law_some_table T.F__law_some_table.kp T.b__law_some_table .nil pass0 (pa_cons (pv 1) (pa_cons (pv 2) pa_nil))))
    (pss_cons (ps_if (pt_cmpR op_ne (pe_call G_fewest_houses (hr.mono (by decide)) (by rfl) T.g_fewest_houses T.F_fewest_houses.kp T.b_fewest_houses .nil (passes_call takes0 (fun _ _ _ _ h => h)) (pa_cons (pv 2) (pa_cons (pv 3) pa_nil))) (pe_call G__law_fewest (hr.mono (by decide)) (by rfl) T.g__law_fewest T.F__law_fewest.kp T.b__law_fewest .nil pass0 (pa_cons (pv 2) (pa_cons (pv 3) pa_nil))) (nomark _)) 
    (pss_one (ps_ret pe_bl)) 
    pss_nil)
    (pss_cons (ps_if (PW.pt (pw_or (pt_cmpR op_ne (pe_call G_fewest_houses (hr.mono (by decide)) (by rfl) T.g_fewest_houses T.F_fewest_houses.kp T.b_fewest_houses .nil (passes_call takes0 (fun _ _ _ _ h => h)) (pa_cons pe_int (pa_cons (pe_tup (pa_cons (pe_tup (pa_cons pe_int (pa_cons pe_int pa_nil))) (pa_cons (pe_tup (pa_cons pe_int (pa_cons pe_int pa_nil))) (pa_cons (pe_tup (pa_cons pe_int (pa_cons pe_int pa_nil))) pa_nil)))) pa_nil))) pe_int (nomark _)) (pw_or (pt_cmpR op_ne (pe_call G_fewest_houses (hr.mono (by decide)) (by rfl) T.g_fewest_houses T.F_fewest_houses.kp T.b_fewest_houses .nil (passes_call takes0 (fun _ _ _ _ h => h)) (pa_cons pe_int (pa_cons (pe_tup (pa_cons (pe_tup (pa_cons pe_int (pa_cons pe_int pa_nil))) pa_nil)) pa_nil))) pe_int (nomark _)) (pw_or (pt_cmpR op_ne (pe_call G_fewest_houses (hr.mono (by decide)) (by rfl) T.g_fewest_houses T.F_fewest_houses.kp T.b_fewest_houses .nil (passes_call takes0 (fun _ _ _ _ h => h)) (pa_cons pe_int (pa_cons (pe_tup pa_nil) pa_nil))) pe_int (nomark _)) (pw_or1 (pt_cmpR op_notN (pe_call G_fewest_houses (hr.mono (by decide)) (by rfl) T.g_fewest_houses T.F_fewest_houses.kp T.b_fewest_houses .nil (passes_call takes0 (fun _ _ _ _ h => h)) (pa_cons pe_int (pa_cons (pe_tup (pa_cons (pe_tup (pa_cons pe_int pa_nil)) (pa_cons (pe_tup (pa_cons pe_int pa_nil)) pa_nil))) pa_nil))) pe_non (nomark _))))))) 
    (pss_one (ps_ret pe_bl)) 
    pss_nil)
    (pss_one (ps_ret (pe_cmpR (op_eqDK (K := K) hr.units) (pe_lst (pa_cons (pe_call G__law_many (hr.mono (by decide)) (by rfl) T.g__law_many T.F__law_many.kp T.b__law_many .nil pass0 (pa_cons (pe_op op_add pe_int (pe_call G__law_draw (hr.mono (by decide)) (by rfl) T.g__law_draw T.F__law_draw.kp T.b__law_draw .nil pass0 (pa_cons (pv 1) (pa_cons pe_int pa_nil)))) pa_nil)) (pa_cons (pe_call G__law_many (hr.mono (by decide)) (by rfl) T.g__law_many T.F__law_many.kp T.b__law_many .nil pass0 (pa_cons pe_int pa_nil)) pa_nil))) (pe_lst (pa_cons pe_int (pa_cons pe_str pa_nil))) (nomark _))))))))), ?_⟩
  have hv : is K (.list (ns.map .int)) (.ref a) H := Dp.lst hS (dpAll_ints ns)
  refine q_pool (K := K) (Ex.refl H) rfl hv (by omega) fun N1 H1 p c g1 P1 => ?_
  refine q_folk (K := K) g1 P1 rfl (ev_lst (ds := ([1, 2, 2, 2, 3] : List Int).map .int) (ea_cons ev_int (ea_cons ev_int (ea_cons ev_int (ea_cons ev_int (ea_cons ev_int ea_nil))))) (Nat.le_of_ble_eq_true rfl)) fun n N2 H2 hn1 hn3 e2 g2 P2 => ?_
  refine q_table (K := K) ⟨hn1, hn3⟩ g2 P2 rfl rfl fun v N3 H3 e3 g3 P3 ft => ?_
  obtain ⟨t, hot, ft⟩ := ft
  have hmem : n ∈ [1, 2, 3] := by
    simp
    omega
  have hl := okTab_lots hot (by omega)
  have h1000 : (threesM n 1).length ≤ 1000 := by
    have : ∀ n ∈ [1, 2, 3], (threesM n 1).length ≤ 1000 := by decide +kernel
    exact this n hmem
  refine q_when (b := false) g3.s (et_test (K := K) (ev_neSame (few_kind n t) (ev_fewest (C := C) ⟨hn1, hn3⟩ hot (ev_var rfl (Dp.int (n : Nat))) (ev_var rfl ft)) ((ev_call (args := fun x : Nat × List (List Int) => [is K (.int (x.1 : Nat)), is K (tabD x.2)]) (pre := fun x => (x.1 ≤ 6 ∧ x.2.length ≤ 1000 ∧ ∀ l ∈ x.2, l.length ≤ 1000) ∧ (threesM x.1 1).length ≤ 1000 ∧ (∀ h ∈ threesM x.1 1, h.length ≤ 1000) ∧ (∀ h ∈ threesM x.1 2, h.length ≤ 1000)) (res := fun x => is K (fewL x.1 x.2)) (n, t) ⟨⟨by show n ≤ 6; omega, hot.few, hl⟩, h1000, fun h hh => by rw [(three_ok (n := n) (by omega) (by decide) hh).2.1]; decide, fun h hh => by rw [(three_ok (n := n) (by omega) (by decide) hh).2.1]; decide⟩ (ea_cons (ev_var rfl (Dp.int (n : Nat))) (ea_cons (ev_var rfl ft) ea_nil))).cast (by rw [few_same hmem])))) (fun z => nomatch z) fun _ N4 H4 g4 => ?_
  have gg4 := g3.trans g4
  have P4 := P3.go g4
  refine q_when (b := false) gg4.s (et_or (a := false) (b := false) (et_test (K := K) (ev_neSame (d := .int 1) (.inr ⟨1, rfl⟩) ((ev_fewest (C := C) (n := 3) (t := [[0, 1], [0, 2], [1, 2]]) ⟨by decide, by decide⟩ (okTab_chk (by decide +kernel)) ev_int (ev_tup (ds := [tupI [0, 1], tupI [0, 2], tupI [1, 2]]) (ea_cons (ev_tup (ds := [.int 0, .int 1]) (ea_cons ev_int (ea_cons ev_int ea_nil)) (Nat.le_of_ble_eq_true rfl)) (ea_cons (ev_tup (ds := [.int 0, .int 2]) (ea_cons ev_int (ea_cons ev_int ea_nil)) (Nat.le_of_ble_eq_true rfl)) (ea_cons (ev_tup (ds := [.int 1, .int 2]) (ea_cons ev_int (ea_cons ev_int ea_nil)) (Nat.le_of_ble_eq_true rfl)) ea_nil))) (Nat.le_of_ble_eq_true rfl))).cast k1) ev_int)) fun _ =>
    et_or (a := false) (b := false) (et_test (K := K) (ev_neSame (d := .int 1) (.inr ⟨1, rfl⟩) ((ev_fewest (C := C) (n := 2) (t := [[0, 1]]) ⟨by decide, by decide⟩ (okTab_chk (by decide +kernel)) ev_int (ev_tup (ds := [tupI [0, 1]]) (ea_cons (ev_tup (ds := [.int 0, .int 1]) (ea_cons ev_int (ea_cons ev_int ea_nil)) (Nat.le_of_ble_eq_true rfl)) ea_nil) (Nat.le_of_ble_eq_true rfl))).cast k2) ev_int)) fun _ =>
    et_or (a := false) (b := false) (et_test (K := K) (ev_neSame (d := .int 1) (.inr ⟨1, rfl⟩) ((ev_fewest (C := C) (n := 1) (t := []) ⟨by decide, by decide⟩ (okTab_chk (by decide +kernel)) ev_int (ev_tup (ds := []) ea_nil (Nat.le_of_ble_eq_true rfl))).cast k3) ev_int)) fun _ => ?_) (fun z => nomatch z) fun _ N5 H5 g5 => ?_
  · exact et_notNone (K := K) ((ev_fewest (C := C) (n := 2) (t := [[0], [1]]) ⟨by decide, by decide⟩ (okTab_chk (by decide +kernel)) ev_int (ev_tup (ds := [tupI [0], tupI [1]]) (ea_cons (ev_tup (ds := [.int 0]) (ea_cons ev_int ea_nil) (Nat.le_of_ble_eq_true rfl)) (ea_cons (ev_tup (ds := [.int 1]) (ea_cons ev_int ea_nil) (Nat.le_of_ble_eq_true rfl)) ea_nil)) (Nat.le_of_ble_eq_true rfl))).cast k4)
  · exact s_end (K := K) (gg4.trans g5) (P4.go g5) rfl q
end
end Rk
end PartRkF20

section PartRkZ1
set_option Elab.async false
set_option linter.all false
set_option maxRecDepth 100000
set_option maxHeartbeats 4000000
namespace Rk
open PySem PySem.Spec PyProof.Rows L2
/-- an error of the class at S is what an except clause that names S takes -/
theorem exm_own {K : PySem.W.Frag} {S : Addr} (h1 : PySem.W.subIn K (.ref S) (.type "BaseException") = some true) (h2 : PySem.W.isClsIn K S = true) (h3 : PySem.W.typeIn K (.ref S) = some (.type "type")) (h4 : PySem.W.subIn K (.ref S) (.ref S) = some true) : PySem.W.exmOne K (.ref S) (.ref S) = some true := by
  have e1 : (PySem.W.subIn K (.ref S) (.type "BaseException") == some true) = true := by rw [h1] <;> rfl
  have e2 : ((PySem.W.clsIn K S).isSome && PySem.W.typeIn K (.ref S) == some (.type "type")) = true := by
    have h5 : (PySem.W.clsIn K S).isSome = true := h2
    rw [h5, h3] <;> rfl
  show (if (PySem.W.subIn K (.ref S) (.type "BaseException") == some true) = true then (if ((PySem.W.clsIn K S).isSome && PySem.W.typeIn K (.ref S) == some (.type "type")) = true then PySem.W.subIn K (.ref S) (.ref S) else none) else none) = some true
  rw [if_pos e1, if_pos e2]
  exact h4
theorem all_mk {P : Program} {w : World} {K : PySem.W.Frag} {h : Heap} {mg : Str → Option Value} {fa CR CT CH fT cdT ccT NT : Addr} {f_is_integer f_is_within f_are_ascending f_Web_keep f_RawWeb_init f_raw_web f_is_lot f_lots_of f_shares_with f_has_half f_carried_of f_carries_house f_check_folk f_is_part f_is_table_there f_check_table f_carries_there f_unlike_last f_threes_of f__law_pool f__law_draw f__law_lots f__law_carried f__law_least f__law_by f__law_some_table f__law_threes f__law_has f__law_fewest f_check_many f_fewest_houses f__law_many f_law : Addr} {od_is_integer an_is_integer od_is_within an_is_within od_are_ascending an_are_ascending od_Web_keep an_Web_keep od_RawWeb_init an_RawWeb_init od_raw_web an_raw_web od_is_lot an_is_lot od_lots_of an_lots_of od_shares_with an_shares_with od_has_half an_has_half od_carried_of an_carried_of od_carries_house an_carries_house od_check_folk an_check_folk od_is_part an_is_part od_is_table_there an_is_table_there od_check_table an_check_table od_carries_there an_carries_there od_unlike_last an_unlike_last od_threes_of an_threes_of od__law_pool an__law_pool od__law_draw an__law_draw od__law_lots an__law_lots od__law_carried an__law_carried od__law_least an__law_least od__law_by an__law_by od__law_some_table an__law_some_table od__law_threes an__law_threes od__law_has an__law_has od__law_fewest an__law_fewest od_check_many an_check_many od_fewest_houses an_fewest_houses od__law_many an__law_many od_law an_law : Option Addr} {sl_is_integer sl_is_within sl_are_ascending sl_Web_keep sl_RawWeb_init sl_raw_web sl_is_lot sl_lots_of sl_shares_with sl_has_half sl_carried_of sl_carries_house sl_check_folk sl_is_part sl_is_table_there sl_check_table sl_carries_there sl_unlike_last sl_threes_of sl__law_pool sl__law_draw sl__law_lots sl__law_carried sl__law_least sl__law_by sl__law_some_table sl__law_threes sl__law_has sl__law_fewest sl_check_many sl_fewest_houses sl__law_many sl_law : Array (Option Value)} {oc_is_integer kV_is_integer dc_is_integer pm_is_integer cd_is_integer ct_is_integer oc_is_within kV_is_within dc_is_within pm_is_within cd_is_within ct_is_within oc_are_ascending kV_are_ascending dc_are_ascending pm_are_ascending cd_are_ascending ct_are_ascending oc_Web_keep kV_Web_keep dc_Web_keep pm_Web_keep cd_Web_keep ct_Web_keep oc_RawWeb_init kV_RawWeb_init dc_RawWeb_init pm_RawWeb_init cd_RawWeb_init ct_RawWeb_init oc_raw_web kV_raw_web dc_raw_web pm_raw_web cd_raw_web ct_raw_web oc_is_lot kV_is_lot dc_is_lot pm_is_lot cd_is_lot ct_is_lot oc_lots_of kV_lots_of dc_lots_of pm_lots_of cd_lots_of ct_lots_of oc_shares_with kV_shares_with dc_shares_with pm_shares_with cd_shares_with ct_shares_with oc_has_half kV_has_half dc_has_half pm_has_half cd_has_half ct_has_half oc_carried_of kV_carried_of dc_carried_of pm_carried_of cd_carried_of ct_carried_of oc_carries_house kV_carries_house dc_carries_house pm_carries_house cd_carries_house ct_carries_house oc_check_folk kV_check_folk dc_check_folk pm_check_folk cd_check_folk ct_check_folk oc_is_part kV_is_part dc_is_part pm_is_part cd_is_part ct_is_part oc_is_table_there kV_is_table_there dc_is_table_there pm_is_table_there cd_is_table_there ct_is_table_there oc_check_table kV_check_table dc_check_table pm_check_table cd_check_table ct_check_table oc_carries_there kV_carries_there dc_carries_there pm_carries_there cd_carries_there ct_carries_there oc_unlike_last kV_unlike_last dc_unlike_last pm_unlike_last cd_unlike_last ct_unlike_last oc_threes_of kV_threes_of dc_threes_of pm_threes_of cd_threes_of ct_threes_of oc__law_pool kV__law_pool dc__law_pool pm__law_pool cd__law_pool ct__law_pool oc__law_draw kV__law_draw dc__law_draw pm__law_draw cd__law_draw ct__law_draw oc__law_lots kV__law_lots dc__law_lots pm__law_lots cd__law_lots ct__law_lots oc__law_carried kV__law_carried dc__law_carried pm__law_carried cd__law_carried ct__law_carried oc__law_least kV__law_least dc__law_least pm__law_least cd__law_least ct__law_least oc__law_by kV__law_by dc__law_by pm__law_by cd__law_by ct__law_by oc__law_some_table kV__law_some_table dc__law_some_table pm__law_some_table cd__law_some_table ct__law_some_table oc__law_threes kV__law_threes dc__law_threes pm__law_threes cd__law_threes ct__law_threes oc__law_has kV__law_has dc__law_has pm__law_has cd__law_has ct__law_has oc__law_fewest kV__law_fewest dc__law_fewest pm__law_fewest cd__law_fewest ct__law_fewest oc_check_many kV_check_many dc_check_many pm_check_many cd_check_many ct_check_many oc_fewest_houses kV_fewest_houses dc_fewest_houses pm_fewest_houses cd_fewest_houses ct_fewest_houses oc__law_many kV__law_many dc__law_many pm__law_many cd__law_many ct__law_many oc_law kV_law dc_law pm_law cd_law ct_law : Value} {t6 t3 tfT : Tok}
    {nmT qT fileT : Str} {bsT subT : List Value} {snT : List Str} {abT : Bool} {colT : Option Bool} {ddT odT anT qd1 qd2 : Option Addr} {g0 g1 g2 g3 g5 : Option Value} {ocT kVT dcT pmT ctT qc1 qc2 : Value} {slT qs1 qs2 : Array (Option Value)} {vsT : Array Value}
    (X : K.In h) (G : h.Ns mainGlobals mg) (hfa : mg "law" = some (.ref fa))
    (a_is_integer : PySem.W.nsIn K mainGlobals "is_integer" = some (some (.ref f_is_integer)))
    (l_is_integer : K.lookup f_is_integer = some ⟨oc_is_integer, od_is_integer, .func (PySem.W.fnOf "is_integer" "is_integer" (defArgs s_is_integer) (defBody s_is_integer) (defScope s_is_integer) .none kV_is_integer dc_is_integer pm_is_integer an_is_integer cd_is_integer ct_is_integer), sl_is_integer⟩)
    (c_is_integer : PySem.W.codeIn K cd_is_integer "is_integer" = true)
    (k_is_integer : PySem.W.keepIn K (.ref f_is_integer) = true)
    (a_is_within : PySem.W.nsIn K mainGlobals "is_within" = some (some (.ref f_is_within)))
    (l_is_within : K.lookup f_is_within = some ⟨oc_is_within, od_is_within, .func (PySem.W.fnOf "is_within" "is_within" (defArgs s_is_within) (defBody s_is_within) (defScope s_is_within) .none kV_is_within dc_is_within pm_is_within an_is_within cd_is_within ct_is_within), sl_is_within⟩)
    (c_is_within : PySem.W.codeIn K cd_is_within "is_within" = true)
    (k_is_within : PySem.W.keepIn K (.ref f_is_within) = true)
    (a_are_ascending : PySem.W.nsIn K mainGlobals "are_ascending" = some (some (.ref f_are_ascending)))
    (l_are_ascending : K.lookup f_are_ascending = some ⟨oc_are_ascending, od_are_ascending, .func (PySem.W.fnOf "are_ascending" "are_ascending" (defArgs s_are_ascending) (defBody s_are_ascending) (defScope s_are_ascending) .none kV_are_ascending dc_are_ascending pm_are_ascending an_are_ascending cd_are_ascending ct_are_ascending), sl_are_ascending⟩)
    (c_are_ascending : PySem.W.codeIn K cd_are_ascending "are_ascending" = true)
    (k_are_ascending : PySem.W.keepIn K (.ref f_are_ascending) = true)
    (l_Web_keep : K.lookup f_Web_keep = some ⟨oc_Web_keep, od_Web_keep, .func (PySem.W.fnOf "keep" "Web.keep" (defArgs s_Web_keep) (defBody s_Web_keep) (defScope s_Web_keep) .none kV_Web_keep dc_Web_keep pm_Web_keep an_Web_keep cd_Web_keep ct_Web_keep), sl_Web_keep⟩)
    (c_Web_keep : PySem.W.codeIn K cd_Web_keep "Web.keep" = true)
    (k_Web_keep : PySem.W.keepIn K (.ref f_Web_keep) = true)
    (l_RawWeb_init : K.lookup f_RawWeb_init = some ⟨oc_RawWeb_init, od_RawWeb_init, .func (PySem.W.fnOf "__init__" "RawWeb.__init__" (defArgs s_RawWeb_init) (defBody s_RawWeb_init) (defScope s_RawWeb_init) .none kV_RawWeb_init dc_RawWeb_init pm_RawWeb_init an_RawWeb_init cd_RawWeb_init ct_RawWeb_init), sl_RawWeb_init⟩)
    (c_RawWeb_init : PySem.W.codeIn K cd_RawWeb_init "RawWeb.__init__" = true)
    (k_RawWeb_init : PySem.W.keepIn K (.ref f_RawWeb_init) = true)
    (a_raw_web : PySem.W.nsIn K mainGlobals "raw_web" = some (some (.ref f_raw_web)))
    (l_raw_web : K.lookup f_raw_web = some ⟨oc_raw_web, od_raw_web, .func (PySem.W.fnOf "raw_web" "raw_web" (defArgs s_raw_web) (defBody s_raw_web) (defScope s_raw_web) .none kV_raw_web dc_raw_web pm_raw_web an_raw_web cd_raw_web ct_raw_web), sl_raw_web⟩)
    (c_raw_web : PySem.W.codeIn K cd_raw_web "raw_web" = true)
    (k_raw_web : PySem.W.keepIn K (.ref f_raw_web) = true)
    (a_is_lot : PySem.W.nsIn K mainGlobals "is_lot" = some (some (.ref f_is_lot)))
    (l_is_lot : K.lookup f_is_lot = some ⟨oc_is_lot, od_is_lot, .func (PySem.W.fnOf "is_lot" "is_lot" (defArgs s_is_lot) (defBody s_is_lot) (defScope s_is_lot) .none kV_is_lot dc_is_lot pm_is_lot an_is_lot cd_is_lot ct_is_lot), sl_is_lot⟩)
    (c_is_lot : PySem.W.codeIn K cd_is_lot "is_lot" = true)
    (k_is_lot : PySem.W.keepIn K (.ref f_is_lot) = true)
    (a_lots_of : PySem.W.nsIn K mainGlobals "lots_of" = some (some (.ref f_lots_of)))
    (l_lots_of : K.lookup f_lots_of = some ⟨oc_lots_of, od_lots_of, .func (PySem.W.fnOf "lots_of" "lots_of" (defArgs s_lots_of) (defBody s_lots_of) (defScope s_lots_of) .none kV_lots_of dc_lots_of pm_lots_of an_lots_of cd_lots_of ct_lots_of), sl_lots_of⟩)
    (c_lots_of : PySem.W.codeIn K cd_lots_of "lots_of" = true)
    (k_lots_of : PySem.W.keepIn K (.ref f_lots_of) = true)
    (a_shares_with : PySem.W.nsIn K mainGlobals "shares_with" = some (some (.ref f_shares_with)))
    (l_shares_with : K.lookup f_shares_with = some ⟨oc_shares_with, od_shares_with, .func (PySem.W.fnOf "shares_with" "shares_with" (defArgs s_shares_with) (defBody s_shares_with) (defScope s_shares_with) .none kV_shares_with dc_shares_with pm_shares_with an_shares_with cd_shares_with ct_shares_with), sl_shares_with⟩)
    (c_shares_with : PySem.W.codeIn K cd_shares_with "shares_with" = true)
    (k_shares_with : PySem.W.keepIn K (.ref f_shares_with) = true)
    (a_has_half : PySem.W.nsIn K mainGlobals "has_half" = some (some (.ref f_has_half)))
    (l_has_half : K.lookup f_has_half = some ⟨oc_has_half, od_has_half, .func (PySem.W.fnOf "has_half" "has_half" (defArgs s_has_half) (defBody s_has_half) (defScope s_has_half) .none kV_has_half dc_has_half pm_has_half an_has_half cd_has_half ct_has_half), sl_has_half⟩)
    (c_has_half : PySem.W.codeIn K cd_has_half "has_half" = true)
    (k_has_half : PySem.W.keepIn K (.ref f_has_half) = true)
    (a_carried_of : PySem.W.nsIn K mainGlobals "carried_of" = some (some (.ref f_carried_of)))
    (l_carried_of : K.lookup f_carried_of = some ⟨oc_carried_of, od_carried_of, .func (PySem.W.fnOf "carried_of" "carried_of" (defArgs s_carried_of) (defBody s_carried_of) (defScope s_carried_of) .none kV_carried_of dc_carried_of pm_carried_of an_carried_of cd_carried_of ct_carried_of), sl_carried_of⟩)
    (c_carried_of : PySem.W.codeIn K cd_carried_of "carried_of" = true)
    (k_carried_of : PySem.W.keepIn K (.ref f_carried_of) = true)
    (a_carries_house : PySem.W.nsIn K mainGlobals "carries_house" = some (some (.ref f_carries_house)))
    (l_carries_house : K.lookup f_carries_house = some ⟨oc_carries_house, od_carries_house, .func (PySem.W.fnOf "carries_house" "carries_house" (defArgs s_carries_house) (defBody s_carries_house) (defScope s_carries_house) .none kV_carries_house dc_carries_house pm_carries_house an_carries_house cd_carries_house ct_carries_house), sl_carries_house⟩)
    (c_carries_house : PySem.W.codeIn K cd_carries_house "carries_house" = true)
    (k_carries_house : PySem.W.keepIn K (.ref f_carries_house) = true)
    (a_check_folk : PySem.W.nsIn K mainGlobals "check_folk" = some (some (.ref f_check_folk)))
    (l_check_folk : K.lookup f_check_folk = some ⟨oc_check_folk, od_check_folk, .func (PySem.W.fnOf "check_folk" "check_folk" (defArgs s_check_folk) (defBody s_check_folk) (defScope s_check_folk) .none kV_check_folk dc_check_folk pm_check_folk an_check_folk cd_check_folk ct_check_folk), sl_check_folk⟩)
    (c_check_folk : PySem.W.codeIn K cd_check_folk "check_folk" = true)
    (k_check_folk : PySem.W.keepIn K (.ref f_check_folk) = true)
    (a_is_part : PySem.W.nsIn K mainGlobals "is_part" = some (some (.ref f_is_part)))
    (l_is_part : K.lookup f_is_part = some ⟨oc_is_part, od_is_part, .func (PySem.W.fnOf "is_part" "is_part" (defArgs s_is_part) (defBody s_is_part) (defScope s_is_part) .none kV_is_part dc_is_part pm_is_part an_is_part cd_is_part ct_is_part), sl_is_part⟩)
    (c_is_part : PySem.W.codeIn K cd_is_part "is_part" = true)
    (k_is_part : PySem.W.keepIn K (.ref f_is_part) = true)
    (a_is_table_there : PySem.W.nsIn K mainGlobals "is_table_there" = some (some (.ref f_is_table_there)))
    (l_is_table_there : K.lookup f_is_table_there = some ⟨oc_is_table_there, od_is_table_there, .func (PySem.W.fnOf "is_table_there" "is_table_there" (defArgs s_is_table_there) (defBody s_is_table_there) (defScope s_is_table_there) .none kV_is_table_there dc_is_table_there pm_is_table_there an_is_table_there cd_is_table_there ct_is_table_there), sl_is_table_there⟩)
    (c_is_table_there : PySem.W.codeIn K cd_is_table_there "is_table_there" = true)
    (k_is_table_there : PySem.W.keepIn K (.ref f_is_table_there) = true)
    (a_check_table : PySem.W.nsIn K mainGlobals "check_table" = some (some (.ref f_check_table)))
    (l_check_table : K.lookup f_check_table = some ⟨oc_check_table, od_check_table, .func (PySem.W.fnOf "check_table" "check_table" (defArgs s_check_table) (defBody s_check_table) (defScope s_check_table) .none kV_check_table dc_check_table pm_check_table an_check_table cd_check_table ct_check_table), sl_check_table⟩)
    (c_check_table : PySem.W.codeIn K cd_check_table "check_table" = true)
    (k_check_table : PySem.W.keepIn K (.ref f_check_table) = true)
    (a_carries_there : PySem.W.nsIn K mainGlobals "carries_there" = some (some (.ref f_carries_there)))
    (l_carries_there : K.lookup f_carries_there = some ⟨oc_carries_there, od_carries_there, .func (PySem.W.fnOf "carries_there" "carries_there" (defArgs s_carries_there) (defBody s_carries_there) (defScope s_carries_there) .none kV_carries_there dc_carries_there pm_carries_there an_carries_there cd_carries_there ct_carries_there), sl_carries_there⟩)
    (c_carries_there : PySem.W.codeIn K cd_carries_there "carries_there" = true)
    (k_carries_there : PySem.W.keepIn K (.ref f_carries_there) = true)
    (a_unlike_last : PySem.W.nsIn K mainGlobals "unlike_last" = some (some (.ref f_unlike_last)))
    (l_unlike_last : K.lookup f_unlike_last = some ⟨oc_unlike_last, od_unlike_last, .func (PySem.W.fnOf "unlike_last" "unlike_last" (defArgs s_unlike_last) (defBody s_unlike_last) (defScope s_unlike_last) .none kV_unlike_last dc_unlike_last pm_unlike_last an_unlike_last cd_unlike_last ct_unlike_last), sl_unlike_last⟩)
    (c_unlike_last : PySem.W.codeIn K cd_unlike_last "unlike_last" = true)
    (k_unlike_last : PySem.W.keepIn K (.ref f_unlike_last) = true)
    (a_threes_of : PySem.W.nsIn K mainGlobals "threes_of" = some (some (.ref f_threes_of)))
    (l_threes_of : K.lookup f_threes_of = some ⟨oc_threes_of, od_threes_of, .func (PySem.W.fnOf "threes_of" "threes_of" (defArgs s_threes_of) (defBody s_threes_of) (defScope s_threes_of) .none kV_threes_of dc_threes_of pm_threes_of an_threes_of cd_threes_of ct_threes_of), sl_threes_of⟩)
    (c_threes_of : PySem.W.codeIn K cd_threes_of "threes_of" = true)
    (k_threes_of : PySem.W.keepIn K (.ref f_threes_of) = true)
    (a__law_pool : PySem.W.nsIn K mainGlobals "_law_pool" = some (some (.ref f__law_pool)))
    (l__law_pool : K.lookup f__law_pool = some ⟨oc__law_pool, od__law_pool, .func (PySem.W.fnOf "_law_pool" "_law_pool" (defArgs s__law_pool) (defBody s__law_pool) (defScope s__law_pool) .none kV__law_pool dc__law_pool pm__law_pool an__law_pool cd__law_pool ct__law_pool), sl__law_pool⟩)
    (c__law_pool : PySem.W.codeIn K cd__law_pool "_law_pool" = true)
    (k__law_pool : PySem.W.keepIn K (.ref f__law_pool) = true)
    (a__law_draw : PySem.W.nsIn K mainGlobals "_law_draw" = some (some (.ref f__law_draw)))
    (l__law_draw : K.lookup f__law_draw = some ⟨oc__law_draw, od__law_draw, .func (PySem.W.fnOf "_law_draw" "_law_draw" (defArgs s__law_draw) (defBody s__law_draw) (defScope s__law_draw) .none kV__law_draw dc__law_draw pm__law_draw an__law_draw cd__law_draw ct__law_draw), sl__law_draw⟩)
    (c__law_draw : PySem.W.codeIn K cd__law_draw "_law_draw" = true)
    (k__law_draw : PySem.W.keepIn K (.ref f__law_draw) = true)
    (a__law_lots : PySem.W.nsIn K mainGlobals "_law_lots" = some (some (.ref f__law_lots)))
    (l__law_lots : K.lookup f__law_lots = some ⟨oc__law_lots, od__law_lots, .func (PySem.W.fnOf "_law_lots" "_law_lots" (defArgs s__law_lots) (defBody s__law_lots) (defScope s__law_lots) .none kV__law_lots dc__law_lots pm__law_lots an__law_lots cd__law_lots ct__law_lots), sl__law_lots⟩)
    (c__law_lots : PySem.W.codeIn K cd__law_lots "_law_lots" = true)
    (k__law_lots : PySem.W.keepIn K (.ref f__law_lots) = true)
    (a__law_carried : PySem.W.nsIn K mainGlobals "_law_carried" = some (some (.ref f__law_carried)))
    (l__law_carried : K.lookup f__law_carried = some ⟨oc__law_carried, od__law_carried, .func (PySem.W.fnOf "_law_carried" "_law_carried" (defArgs s__law_carried) (defBody s__law_carried) (defScope s__law_carried) .none kV__law_carried dc__law_carried pm__law_carried an__law_carried cd__law_carried ct__law_carried), sl__law_carried⟩)
    (c__law_carried : PySem.W.codeIn K cd__law_carried "_law_carried" = true)
    (k__law_carried : PySem.W.keepIn K (.ref f__law_carried) = true)
    (a__law_least : PySem.W.nsIn K mainGlobals "_law_least" = some (some (.ref f__law_least)))
    (l__law_least : K.lookup f__law_least = some ⟨oc__law_least, od__law_least, .func (PySem.W.fnOf "_law_least" "_law_least" (defArgs s__law_least) (defBody s__law_least) (defScope s__law_least) .none kV__law_least dc__law_least pm__law_least an__law_least cd__law_least ct__law_least), sl__law_least⟩)
    (c__law_least : PySem.W.codeIn K cd__law_least "_law_least" = true)
    (k__law_least : PySem.W.keepIn K (.ref f__law_least) = true)
    (a__law_by : PySem.W.nsIn K mainGlobals "_law_by" = some (some (.ref f__law_by)))
    (l__law_by : K.lookup f__law_by = some ⟨oc__law_by, od__law_by, .func (PySem.W.fnOf "_law_by" "_law_by" (defArgs s__law_by) (defBody s__law_by) (defScope s__law_by) .none kV__law_by dc__law_by pm__law_by an__law_by cd__law_by ct__law_by), sl__law_by⟩)
    (c__law_by : PySem.W.codeIn K cd__law_by "_law_by" = true)
    (k__law_by : PySem.W.keepIn K (.ref f__law_by) = true)
    (a__law_some_table : PySem.W.nsIn K mainGlobals "_law_some_table" = some (some (.ref f__law_some_table)))
    (l__law_some_table : K.lookup f__law_some_table = some ⟨oc__law_some_table, od__law_some_table, .func (PySem.W.fnOf "_law_some_table" "_law_some_table" (defArgs s__law_some_table) (defBody s__law_some_table) (defScope s__law_some_table) .none kV__law_some_table dc__law_some_table pm__law_some_table an__law_some_table cd__law_some_table ct__law_some_table), sl__law_some_table⟩)
    (c__law_some_table : PySem.W.codeIn K cd__law_some_table "_law_some_table" = true)
    (k__law_some_table : PySem.W.keepIn K (.ref f__law_some_table) = true)
    (a__law_threes : PySem.W.nsIn K mainGlobals "_law_threes" = some (some (.ref f__law_threes)))
    (l__law_threes : K.lookup f__law_threes = some ⟨oc__law_threes, od__law_threes, .func (PySem.W.fnOf "_law_threes" "_law_threes" (defArgs s__law_threes) (defBody s__law_threes) (defScope s__law_threes) .none kV__law_threes dc__law_threes pm__law_threes an__law_threes cd__law_threes ct__law_threes), sl__law_threes⟩)
    (c__law_threes : PySem.W.codeIn K cd__law_threes "_law_threes" = true)
    (k__law_threes : PySem.W.keepIn K (.ref f__law_threes) = true)
    (a__law_has : PySem.W.nsIn K mainGlobals "_law_has" = some (some (.ref f__law_has)))
    (l__law_has : K.lookup f__law_has = some ⟨oc__law_has, od__law_has, .func (PySem.W.fnOf "_law_has" "_law_has" (defArgs s__law_has) (defBody s__law_has) (defScope s__law_has) .none kV__law_has dc__law_has pm__law_has an__law_has cd__law_has ct__law_has), sl__law_has⟩)
    (c__law_has : PySem.W.codeIn K cd__law_has "_law_has" = true)
    (k__law_has : PySem.W.keepIn K (.ref f__law_has) = true)
    (a__law_fewest : PySem.W.nsIn K mainGlobals "_law_fewest" = some (some (.ref f__law_fewest)))
    (l__law_fewest : K.lookup f__law_fewest = some ⟨oc__law_fewest, od__law_fewest, .func (PySem.W.fnOf "_law_fewest" "_law_fewest" (defArgs s__law_fewest) (defBody s__law_fewest) (defScope s__law_fewest) .none kV__law_fewest dc__law_fewest pm__law_fewest an__law_fewest cd__law_fewest ct__law_fewest), sl__law_fewest⟩)
    (c__law_fewest : PySem.W.codeIn K cd__law_fewest "_law_fewest" = true)
    (k__law_fewest : PySem.W.keepIn K (.ref f__law_fewest) = true)
    (a_check_many : PySem.W.nsIn K mainGlobals "check_many" = some (some (.ref f_check_many)))
    (l_check_many : K.lookup f_check_many = some ⟨oc_check_many, od_check_many, .func (PySem.W.fnOf "check_many" "check_many" (defArgs s_check_many) (defBody s_check_many) (defScope s_check_many) .none kV_check_many dc_check_many pm_check_many an_check_many cd_check_many ct_check_many), sl_check_many⟩)
    (c_check_many : PySem.W.codeIn K cd_check_many "check_many" = true)
    (k_check_many : PySem.W.keepIn K (.ref f_check_many) = true)
    (a_fewest_houses : PySem.W.nsIn K mainGlobals "fewest_houses" = some (some (.ref f_fewest_houses)))
    (l_fewest_houses : K.lookup f_fewest_houses = some ⟨oc_fewest_houses, od_fewest_houses, .func (PySem.W.fnOf "fewest_houses" "fewest_houses" (defArgs s_fewest_houses) (defBody s_fewest_houses) (defScope s_fewest_houses) .none kV_fewest_houses dc_fewest_houses pm_fewest_houses an_fewest_houses cd_fewest_houses ct_fewest_houses), sl_fewest_houses⟩)
    (c_fewest_houses : PySem.W.codeIn K cd_fewest_houses "fewest_houses" = true)
    (k_fewest_houses : PySem.W.keepIn K (.ref f_fewest_houses) = true)
    (a__law_many : PySem.W.nsIn K mainGlobals "_law_many" = some (some (.ref f__law_many)))
    (l__law_many : K.lookup f__law_many = some ⟨oc__law_many, od__law_many, .func (PySem.W.fnOf "_law_many" "_law_many" (defArgs s__law_many) (defBody s__law_many) (defScope s__law_many) .none kV__law_many dc__law_many pm__law_many an__law_many cd__law_many ct__law_many), sl__law_many⟩)
    (c__law_many : PySem.W.codeIn K cd__law_many "_law_many" = true)
    (k__law_many : PySem.W.keepIn K (.ref f__law_many) = true)
    (a_law : PySem.W.nsIn K mainGlobals "law" = some (some (.ref f_law)))
    (l_law : K.lookup f_law = some ⟨oc_law, od_law, .func (PySem.W.fnOf "law" "law" (defArgs s_law) (defBody s_law) (defScope s_law) .none kV_law dc_law pm_law an_law cd_law ct_law), sl_law⟩)
    (c_law : PySem.W.codeIn K cd_law "law" = true)
    (k_law : PySem.W.keepIn K (.ref f_law) = true)
    (z_len : PySem.W.nsIn K mainGlobals "len" = some none)
    (z_sum : PySem.W.nsIn K mainGlobals "sum" = some none)
    (z_all : PySem.W.nsIn K mainGlobals "all" = some none)
    (z_any : PySem.W.nsIn K mainGlobals "any" = some none)
    (z_range : PySem.W.nsIn K mainGlobals "range" = some none)
    (z_sorted : PySem.W.nsIn K mainGlobals "sorted" = some none)
    (z_isinstance : PySem.W.nsIn K mainGlobals "isinstance" = some none)
    (z_abs : PySem.W.nsIn K mainGlobals "abs" = some none)
    (z_min : PySem.W.nsIn K mainGlobals "min" = some none)
    (z_int : PySem.W.nsIn K mainGlobals "int" = some none)
    (z_bool : PySem.W.nsIn K mainGlobals "bool" = some none)
    (z_tuple : PySem.W.nsIn K mainGlobals "tuple" = some none)
    (z_list : PySem.W.nsIn K mainGlobals "list" = some none)
    (z_set : PySem.W.nsIn K mainGlobals "set" = some none)
    (z_enumerate : PySem.W.nsIn K mainGlobals "enumerate" = some none)
    (m6 : PySem.W.nsIn K mainGlobals "MOST_FOLK_webs" = some (some (.int 6 t6)))
    (m3 : PySem.W.nsIn K mainGlobals "MOST_FOLK_building" = some (some (.int 3 t3)))
    (aR : PySem.W.nsIn K mainGlobals "RawWeb" = some (some (.ref CR)))
    (pg : PySem.W.plainGet K CR Str.empty = true)
    (hd : PySem.W.hasDictIn K CR = true)
    (po : PySem.W.plainOver K CR = true)
    (saR : PySem.W.findIn K (.ref CR) "__setattr__" = some (some (.builtin "object.__setattr__")))
    (mk : PySem.W.makesIn K CR = true)
    (iR : PySem.W.findIn K (.ref CR) "__init__" = some (some (.ref f_RawWeb_init)))
    (nR : PySem.W.isFn K (.ref f_RawWeb_init) = true)
    (kR : PySem.W.keepIn K (.ref CR) = true)
    (eK : PySem.W.findIn K (.ref CR) "keep" = some (some (.ref f_Web_keep)))
    (nK : PySem.W.isFn K (.ref f_Web_keep) = true)
    (no_folk : PySem.W.findIn K (.ref CR) "folk" = some none)
    (no_houses : PySem.W.findIn K (.ref CR) "houses" = some none)
    (no_kept_folk : PySem.W.findIn K (.ref CR) "kept_folk" = some none)
    (no_kept_houses : PySem.W.findIn K (.ref CR) "kept_houses" = some none)
    (no_kept_half : PySem.W.findIn K (.ref CR) "kept_half" = some none)
    (aT : PySem.W.nsIn K mainGlobals "TooMany" = some (some (.ref CT)))
    (xT : K.lookup CT = some (excClassObj nmT qT CT NT bsT [.ref CH, .type "ValueError", .type "Exception", .type "BaseException", .type "object"] true snT subT abT colT ddT g0 g1 g2 g3 g5 "ValueError.__new__"))
    (saT : PySem.W.findIn K (.ref CT) "__setattr__" = some (some (.builtin "object.__setattr__")))
    (gaT : PySem.W.findIn K (.ref CT) "__getattribute__" = some (some (.builtin "BaseException.__getattribute__")))
    (ggT : PySem.W.findIn K (.ref CT) "__getattr__" = some none)
    (nbT : PySem.W.findIn K (.ref CT) "most" = some none)
    (iT : PySem.W.findIn K (.ref CT) "__init__" = some (some (.ref fT)))
    (tT : PySem.W.typeIn K (.ref fT) = some (.type "function"))
    (kT : PySem.W.keepIn K (.ref CT) = true)
    (eT : PySem.W.subIn K (.ref CT) (.type "BaseException") = some true)
    (yT : PySem.W.typeIn K (.ref CT) = some (.type "type"))
    (hT : PySem.W.hasDictIn K CT = true)
    (jT : PySem.W.isClsIn K CT = true)
    (sT : PySem.W.subIn K (.ref CT) (.ref CT) = some true)
    (zT : PySem.W.nsIn K mainGlobals "super" = some none)
    (mT : PySem.W.mroIn K CT (.ref CT) = some true)
    (vT : PySem.W.subIn K (.ref CT) (.type "ValueError") = some true)
    (nT : PySem.W.nsIn K PySem.cStatics "thirdparty.any" = some none)
    (uT : PySem.W.ks_superIn K CT CT "__init__" = some (some (.builtin "ValueError.__init__")))
    (pT : (P.main.scope.names.lookup ("super" : Str)).isSome = false)
    (lT : K.lookup fT = some ⟨ocT, odT, .func (PySem.W.ksFn "__init__" "TooMany.__init__" (defArgs PySem.TmX.sTM) (defBody PySem.TmX.sTM) (defScope PySem.TmX.sTM) .none kVT dcT pmT anT (.ref cdT) ctT ccT), slT⟩)
    (cT : PySem.W.codeIn K (.ref cdT) "TooMany.__init__" = true)
    (oT : K.lookup cdT = some ⟨qc1, qd1, .fields vsT, qs1⟩)
    (wT : vsT[2]? = some (.str fileT tfT))
    (fT2 : ((P.main.file : Str) == fileT) = true)
    (ceT : K.lookup ccT = some ⟨qc2, qd2, .cell (some (.ref CT)), qs2⟩)
    : ∃ fd : FuncData, (∀ (s : Shared) (v : Value), BindsTo s fd ⟨[v], []⟩ [("_law_script", v)]) ∧ ∀ base : Heap, K.In base → base.Ns mainGlobals mg → FnOk P w K mg base CX0 8 fa fd ["_law_script"] (sp_law K) := by
  have e := hfa.symm.trans (PySem.W.mg_of X G a_law)
  cases e
  have F_is_integer := fun_mk (st := s_is_integer) l_is_integer c_is_integer k_is_integer
  have F_is_within := fun_mk (st := s_is_within) l_is_within c_is_within k_is_within
  have F_are_ascending := fun_mk (st := s_are_ascending) l_are_ascending c_are_ascending k_are_ascending
  have F_Web_keep := fun_mk (st := s_Web_keep) l_Web_keep c_Web_keep k_Web_keep
  have F_RawWeb_init := fun_mk (st := s_RawWeb_init) l_RawWeb_init c_RawWeb_init k_RawWeb_init
  have F_raw_web := fun_mk (st := s_raw_web) l_raw_web c_raw_web k_raw_web
  have F_is_lot := fun_mk (st := s_is_lot) l_is_lot c_is_lot k_is_lot
  have F_lots_of := fun_mk (st := s_lots_of) l_lots_of c_lots_of k_lots_of
  have F_shares_with := fun_mk (st := s_shares_with) l_shares_with c_shares_with k_shares_with
  have F_has_half := fun_mk (st := s_has_half) l_has_half c_has_half k_has_half
  have F_carried_of := fun_mk (st := s_carried_of) l_carried_of c_carried_of k_carried_of
  have F_carries_house := fun_mk (st := s_carries_house) l_carries_house c_carries_house k_carries_house
  have F_check_folk := fun_mk (st := s_check_folk) l_check_folk c_check_folk k_check_folk
  have F_is_part := fun_mk (st := s_is_part) l_is_part c_is_part k_is_part
  have F_is_table_there := fun_mk (st := s_is_table_there) l_is_table_there c_is_table_there k_is_table_there
  have F_check_table := fun_mk (st := s_check_table) l_check_table c_check_table k_check_table
  have F_carries_there := fun_mk (st := s_carries_there) l_carries_there c_carries_there k_carries_there
  have F_unlike_last := fun_mk (st := s_unlike_last) l_unlike_last c_unlike_last k_unlike_last
  have F_threes_of := fun_mk (st := s_threes_of) l_threes_of c_threes_of k_threes_of
  have F__law_pool := fun_mk (st := s__law_pool) l__law_pool c__law_pool k__law_pool
  have F__law_draw := fun_mk (st := s__law_draw) l__law_draw c__law_draw k__law_draw
  have F__law_lots := fun_mk (st := s__law_lots) l__law_lots c__law_lots k__law_lots
  have F__law_carried := fun_mk (st := s__law_carried) l__law_carried c__law_carried k__law_carried
  have F__law_least := fun_mk (st := s__law_least) l__law_least c__law_least k__law_least
  have F__law_by := fun_mk (st := s__law_by) l__law_by c__law_by k__law_by
  have F__law_some_table := fun_mk (st := s__law_some_table) l__law_some_table c__law_some_table k__law_some_table
  have F__law_threes := fun_mk (st := s__law_threes) l__law_threes c__law_threes k__law_threes
  have F__law_has := fun_mk (st := s__law_has) l__law_has c__law_has k__law_has
  have F__law_fewest := fun_mk (st := s__law_fewest) l__law_fewest c__law_fewest k__law_fewest
  have F_check_many := fun_mk (st := s_check_many) l_check_many c_check_many k_check_many
  have F_fewest_houses := fun_mk (st := s_fewest_houses) l_fewest_houses c_fewest_houses k_fewest_houses
  have F__law_many := fun_mk (st := s__law_many) l__law_many c__law_many k__law_many
  have F_law := fun_mk (st := s_law) l_law c_law k_law
  have T : Txt K mg ⟨f_is_integer, f_is_within, f_are_ascending, f_Web_keep, f_RawWeb_init, f_raw_web, f_is_lot, f_lots_of, f_shares_with, f_has_half, f_carried_of, f_carries_house, f_check_folk, f_is_part, f_is_table_there, f_check_table, f_carries_there, f_unlike_last, f_threes_of, f__law_pool, f__law_draw, f__law_lots, f__law_carried, f__law_least, f__law_by, f__law_some_table, f__law_threes, f__law_has, f__law_fewest, f_check_many, f_fewest_houses, f__law_many, fa, CR⟩ ⟨_, _, _, _, _, _, _, _, _, _, _, _, _, _, _, _, _, _, _, _, _, _, _, _, _, _, _, _, _, _, _, _, _⟩ :=
    { n_len := PySem.W.mg_none_of X G z_len,
      n_sum := PySem.W.mg_none_of X G z_sum,
      n_all := PySem.W.mg_none_of X G z_all,
      n_any := PySem.W.mg_none_of X G z_any,
      n_range := PySem.W.mg_none_of X G z_range,
      n_sorted := PySem.W.mg_none_of X G z_sorted,
      n_isinstance := PySem.W.mg_none_of X G z_isinstance,
      n_abs := PySem.W.mg_none_of X G z_abs,
      n_min := PySem.W.mg_none_of X G z_min,
      n_int := PySem.W.mg_none_of X G z_int,
      n_bool := PySem.W.mg_none_of X G z_bool,
      n_tuple := PySem.W.mg_none_of X G z_tuple,
      n_list := PySem.W.mg_none_of X G z_list,
      n_set := PySem.W.mg_none_of X G z_set,
      n_enumerate := PySem.W.mg_none_of X G z_enumerate,
      g_MOST_FOLK_webs := ⟨_, PySem.W.mg_of X G m6⟩,
      g_MOST_FOLK_building := ⟨_, PySem.W.mg_of X G m3⟩,
      F_is_integer := F_is_integer,
      b_is_integer := F_is_integer.binds (ps := ["thing"]) fun _ _ _ _ _ _ us hl => match us, hl with | [_], _ => rfl,
      g_is_integer := PySem.W.mg_of X G a_is_integer,
      F_is_within := F_is_within,
      b_is_within := F_is_within.binds (ps := ["thing", "least", "most"]) fun _ _ _ _ _ _ us hl => match us, hl with | [_, _, _], _ => rfl,
      g_is_within := PySem.W.mg_of X G a_is_within,
      F_are_ascending := F_are_ascending,
      b_are_ascending := F_are_ascending.binds (ps := ["things"]) fun _ _ _ _ _ _ us hl => match us, hl with | [_], _ => rfl,
      g_are_ascending := PySem.W.mg_of X G a_are_ascending,
      F_Web_keep := F_Web_keep,
      b_Web_keep := F_Web_keep.binds (ps := ["self", "folk", "houses"]) fun _ _ _ _ _ _ us hl => match us, hl with | [_, _, _], _ => rfl,
      F_RawWeb_init := F_RawWeb_init,
      b_RawWeb_init := F_RawWeb_init.binds (ps := ["self", "folk", "houses"]) fun _ _ _ _ _ _ us hl => match us, hl with | [_, _, _], _ => rfl,
      F_raw_web := F_raw_web,
      b_raw_web := F_raw_web.binds (ps := ["folk", "houses"]) fun _ _ _ _ _ _ us hl => match us, hl with | [_, _], _ => rfl,
      g_raw_web := PySem.W.mg_of X G a_raw_web,
      F_is_lot := F_is_lot,
      b_is_lot := F_is_lot.binds (ps := ["folk", "thing"]) fun _ _ _ _ _ _ us hl => match us, hl with | [_, _], _ => rfl,
      g_is_lot := PySem.W.mg_of X G a_is_lot,
      F_lots_of := F_lots_of,
      b_lots_of := F_lots_of.binds (ps := ["folk"]) fun _ _ _ _ _ _ us hl => match us, hl with | [_], _ => rfl,
      g_lots_of := PySem.W.mg_of X G a_lots_of,
      F_shares_with := F_shares_with,
      b_shares_with := F_shares_with.binds (ps := ["web", "house", "lot", "houses"]) fun _ _ _ _ _ _ us hl => match us, hl with | [_, _, _, _], _ => rfl,
      g_shares_with := PySem.W.mg_of X G a_shares_with,
      F_has_half := F_has_half,
      b_has_half := F_has_half.binds (ps := ["web", "house", "lot", "houses"]) fun _ _ _ _ _ _ us hl => match us, hl with | [_, _, _, _], _ => rfl,
      g_has_half := PySem.W.mg_of X G a_has_half,
      F_carried_of := F_carried_of,
      b_carried_of := F_carried_of.binds (ps := ["web", "lot"]) fun _ _ _ _ _ _ us hl => match us, hl with | [_, _], _ => rfl,
      g_carried_of := PySem.W.mg_of X G a_carried_of,
      F_carries_house := F_carries_house,
      b_carries_house := F_carries_house.binds (ps := ["web", "lot", "house"]) fun _ _ _ _ _ _ us hl => match us, hl with | [_, _, _], _ => rfl,
      g_carries_house := PySem.W.mg_of X G a_carries_house,
      F_check_folk := F_check_folk,
      b_check_folk := F_check_folk.binds (ps := ["thing"]) fun _ _ _ _ _ _ us hl => match us, hl with | [_], _ => rfl,
      g_check_folk := PySem.W.mg_of X G a_check_folk,
      F_is_part := F_is_part,
      b_is_part := F_is_part.binds (ps := ["lot", "other"]) fun _ _ _ _ _ _ us hl => match us, hl with | [_, _], _ => rfl,
      g_is_part := PySem.W.mg_of X G a_is_part,
      F_is_table_there := F_is_table_there,
      b_is_table_there := F_is_table_there.binds (ps := ["folk", "thing"]) fun _ _ _ _ _ _ us hl => match us, hl with | [_, _], _ => rfl,
      g_is_table_there := PySem.W.mg_of X G a_is_table_there,
      F_check_table := F_check_table,
      b_check_table := F_check_table.binds (ps := ["folk", "thing"]) fun _ _ _ _ _ _ us hl => match us, hl with | [_, _], _ => rfl,
      g_check_table := PySem.W.mg_of X G a_check_table,
      F_carries_there := F_carries_there,
      b_carries_there := F_carries_there.binds (ps := ["table", "lot"]) fun _ _ _ _ _ _ us hl => match us, hl with | [_, _], _ => rfl,
      g_carries_there := PySem.W.mg_of X G a_carries_there,
      F_unlike_last := F_unlike_last,
      b_unlike_last := F_unlike_last.binds (ps := ["folk", "table", "web"]) fun _ _ _ _ _ _ us hl => match us, hl with | [_, _, _], _ => rfl,
      g_unlike_last := PySem.W.mg_of X G a_unlike_last,
      F_threes_of := F_threes_of,
      b_threes_of := F_threes_of.binds (ps := ["folk", "houses"]) fun _ _ _ _ _ _ us hl => match us, hl with | [_, _], _ => rfl,
      g_threes_of := PySem.W.mg_of X G a_threes_of,
      F__law_pool := F__law_pool,
      b__law_pool := F__law_pool.binds (ps := ["_law_script"]) fun _ _ _ _ _ _ us hl => match us, hl with | [_], _ => rfl,
      g__law_pool := PySem.W.mg_of X G a__law_pool,
      F__law_draw := F__law_draw,
      b__law_draw := F__law_draw.binds (ps := ["_law_pool_here", "_law_many_here"]) fun _ _ _ _ _ _ us hl => match us, hl with | [_, _], _ => rfl,
      g__law_draw := PySem.W.mg_of X G a__law_draw,
      F__law_lots := F__law_lots,
      b__law_lots := F__law_lots.binds (ps := ["_law_folk"]) fun _ _ _ _ _ _ us hl => match us, hl with | [_], _ => rfl,
      g__law_lots := PySem.W.mg_of X G a__law_lots,
      F__law_carried := F__law_carried,
      b__law_carried := F__law_carried.binds (ps := ["_law_told", "_law_lot"]) fun _ _ _ _ _ _ us hl => match us, hl with | [_, _], _ => rfl,
      g__law_carried := PySem.W.mg_of X G a__law_carried,
      F__law_least := F__law_least,
      b__law_least := F__law_least.binds (ps := ["_law_lots_here"]) fun _ _ _ _ _ _ us hl => match us, hl with | [_], _ => rfl,
      g__law_least := PySem.W.mg_of X G a__law_least,
      F__law_by := F__law_by,
      b__law_by := F__law_by.binds (ps := ["_law_made_table", "_law_lot"]) fun _ _ _ _ _ _ us hl => match us, hl with | [_, _], _ => rfl,
      g__law_by := PySem.W.mg_of X G a__law_by,
      F__law_some_table := F__law_some_table,
      b__law_some_table := F__law_some_table.binds (ps := ["_law_pool_here", "_law_folk"]) fun _ _ _ _ _ _ us hl => match us, hl with | [_, _], _ => rfl,
      g__law_some_table := PySem.W.mg_of X G a__law_some_table,
      F__law_threes := F__law_threes,
      b__law_threes := F__law_threes.binds (ps := ["_law_folk", "_law_houses"]) fun _ _ _ _ _ _ us hl => match us, hl with | [_, _], _ => rfl,
      g__law_threes := PySem.W.mg_of X G a__law_threes,
      F__law_has := F__law_has,
      b__law_has := F__law_has.binds (ps := ["_law_folk", "_law_houses", "_law_made_table"]) fun _ _ _ _ _ _ us hl => match us, hl with | [_, _, _], _ => rfl,
      g__law_has := PySem.W.mg_of X G a__law_has,
      F__law_fewest := F__law_fewest,
      b__law_fewest := F__law_fewest.binds (ps := ["_law_folk", "_law_made_table"]) fun _ _ _ _ _ _ us hl => match us, hl with | [_, _], _ => rfl,
      g__law_fewest := PySem.W.mg_of X G a__law_fewest,
      F_check_many := F_check_many,
      b_check_many := F_check_many.binds (ps := ["number", "most"]) fun _ _ _ _ _ _ us hl => match us, hl with | [_, _], _ => rfl,
      g_check_many := PySem.W.mg_of X G a_check_many,
      F_fewest_houses := F_fewest_houses,
      b_fewest_houses := F_fewest_houses.binds (ps := ["folk", "table"]) fun _ _ _ _ _ _ us hl => match us, hl with | [_, _], _ => rfl,
      g_fewest_houses := PySem.W.mg_of X G a_fewest_houses,
      F__law_many := F__law_many,
      b__law_many := F__law_many.binds (ps := ["_law_folk"]) fun _ _ _ _ _ _ us hl => match us, hl with | [_], _ => rfl,
      g__law_many := PySem.W.mg_of X G a__law_many,
      F_law := F_law,
      b_law := F_law.binds (ps := ["_law_script"]) fun _ _ _ _ _ _ us hl => match us, hl with | [_], _ => rfl,
      g_law := PySem.W.mg_of X G a_law,
      cl := ⟨pg, hd, po, saR⟩,
      g_RawWeb := PySem.W.mg_of X G aR,
      mkR := ⟨mk, iR, nR, kR⟩,
      m_keep := ⟨eK, nK, k_Web_keep⟩,
      a_folk := no_folk,
      a_houses := no_houses,
      a_kept_folk := no_kept_folk,
      a_kept_houses := no_kept_houses,
      a_kept_half := no_kept_half }
  have TM : PySem.TmX.TmTxt P K mg CT fT :=
    { gC := PySem.W.mg_of X G aT, cls := ⟨nmT, qT, NT, bsT, _, snT, subT, abT, colT, ddT, g0, g1, g2, g3, g5, xT, by rfl⟩, sa := saT, ga := gaT, gg := ggT, noN := nbT, iC := iT, tC := tT, kC := kT, exC := eT, tyC := yT, hdC := hT, te := exm_own eT jT yT sT,
      gS := PySem.W.mg_none_of X G zT, selfC := mT, vE := vT, nT := nT, sI := uT, htop := pT, fn := ⟨ocT, odT, kVT, dcT, pmT, anT, cdT, ccT, ctT, slT, lT, cT, ⟨qc1, qd1, vsT, qs1, fileT, tfT, oT, wT, fT2⟩, ⟨qc2, qd2, qs2, ceT⟩⟩ }
  exact ⟨_, fun s v => .of_eq rfl, fun base _ _ => ok_law T TM⟩
theorem walk {l : PySem.W.OpenLaw} {q : Program} {loose : List Str} {XP : (Str → Option Value) → Heap → Prop} {YP : World → Heap → Prop} {d : DefRec} {K : Params → PySem.W.Frag} (hn : l.most = some 63) (hdf : d.params.defaults = [])
    (hY : ∀ (w : World) (h : Heap), YP w h → (K w.params).In h)
    (F : ∀ (w : World) (mg : Str → Option Value) (fa : Addr) (h : Heap), (K w.params).In h → h.Ns mainGlobals mg → mg d.name = some (.ref fa) →
      ∃ fd : FuncData, (∀ (s : Shared) (u : Value), BindsTo s fd ⟨[u], []⟩ [("_law_script", u)]) ∧ ∀ base : Heap, (K w.params).In base → base.Ns mainGlobals mg → FnOk l.prog w (K w.params) mg base CX0 8 fa fd ["_law_script"] (sp_law (K w.params))) :
    PySem.W.WalkO q loose XP YP l.row.toRowW d [] (fun f vs => PySem.call f vs) :=
  L2.walk_of (n := 63) (k := 8) (x := "_law_script") (CX := fun _ => CX0) (sp := fun w => sp_law (K w.params)) hn (by decide) hdf ⟨rfl, by decide, by decide⟩ hY F (fun _ _ a ns hl _ hS => ⟨a, ns, rfl, hS, hl, fun _ => rfl⟩) fun _ _ _ _ _ z => z
end Rk
end PartRkZ1

section PartRkZ
set_option Elab.async false
open PySem PySem.W PyProof.Rows in
set_option maxRecDepth 100000 in
set_option maxHeartbeats 0 in
theorem PySem.Challenge.cw_roundowned_k73_whole_fewest_houses_holds : PySem.Challenge.rw_roundowned_k73_whole_fewest_houses.Holds := by
  w_on; o_law; k_head; (case hw => w_witness2)
  k_fill
  refine Rk.walk (l := PySem.Challenge.rw_roundowned_k73_whole_fewest_houses) rfl rfl (fun w h Y => PySem.W.kIn_of Y) ?F
  case F =>
    intro w mg fa h KX G hmg
    refine' Rk.all_mk KX G hmg ?a_is_integer ?l_is_integer ?c_is_integer ?k_is_integer ?a_is_within ?l_is_within ?c_is_within ?k_is_within ?a_are_ascending ?l_are_ascending ?c_are_ascending ?k_are_ascending ?l_Web_keep ?c_Web_keep ?k_Web_keep ?l_RawWeb_init ?c_RawWeb_init ?k_RawWeb_init ?a_raw_web ?l_raw_web ?c_raw_web ?k_raw_web ?a_is_lot ?l_is_lot ?c_is_lot ?k_is_lot ?a_lots_of ?l_lots_of ?c_lots_of ?k_lots_of ?a_shares_with ?l_shares_with ?c_shares_with ?k_shares_with ?a_has_half ?l_has_half ?c_has_half ?k_has_half ?a_carried_of ?l_carried_of ?c_carried_of ?k_carried_of ?a_carries_house ?l_carries_house ?c_carries_house ?k_carries_house ?a_check_folk ?l_check_folk ?c_check_folk ?k_check_folk ?a_is_part ?l_is_part ?c_is_part ?k_is_part ?a_is_table_there ?l_is_table_there ?c_is_table_there ?k_is_table_there ?a_check_table ?l_check_table ?c_check_table ?k_check_table ?a_carries_there ?l_carries_there ?c_carries_there ?k_carries_there ?a_unlike_last ?l_unlike_last ?c_unlike_last ?k_unlike_last ?a_threes_of ?l_threes_of ?c_threes_of ?k_threes_of ?a__law_pool ?l__law_pool ?c__law_pool ?k__law_pool ?a__law_draw ?l__law_draw ?c__law_draw ?k__law_draw ?a__law_lots ?l__law_lots ?c__law_lots ?k__law_lots ?a__law_carried ?l__law_carried ?c__law_carried ?k__law_carried ?a__law_least ?l__law_least ?c__law_least ?k__law_least ?a__law_by ?l__law_by ?c__law_by ?k__law_by ?a__law_some_table ?l__law_some_table ?c__law_some_table ?k__law_some_table ?a__law_threes ?l__law_threes ?c__law_threes ?k__law_threes ?a__law_has ?l__law_has ?c__law_has ?k__law_has ?a__law_fewest ?l__law_fewest ?c__law_fewest ?k__law_fewest ?a_check_many ?l_check_many ?c_check_many ?k_check_many ?a_fewest_houses ?l_fewest_houses ?c_fewest_houses ?k_fewest_houses ?a__law_many ?l__law_many ?c__law_many ?k__law_many ?a_law ?l_law ?c_law ?k_law ?z_len ?z_sum ?z_all ?z_any ?z_range ?z_sorted ?z_isinstance ?z_abs ?z_min ?z_int ?z_bool ?z_tuple ?z_list ?z_set ?z_enumerate ?m6 ?m3 ?aR ?pg ?hd ?po ?saR ?mk ?iR ?nR ?kR ?eK ?nK ?no_folk ?no_houses ?no_kept_folk ?no_kept_houses ?no_kept_half ?aT ?xT ?saT ?gaT ?ggT ?nbT ?iT ?tT ?kT ?eT ?yT ?hT ?jT ?sT ?zT ?mT ?vT ?nT ?uT ?pT ?lT ?cT ?oT ?wT ?fT2 ?ceT
    (case aR => k_is)
    (case iR => k_is)
    (case eK => k_is)
    (case a_is_integer => k_is)
    (case l_is_integer => k_is)
    (case c_is_integer => k_is)
    (case k_is_integer => k_is)
    (case a_is_within => k_is)
    (case l_is_within => k_is)
    (case c_is_within => k_is)
    (case k_is_within => k_is)
    (case a_are_ascending => k_is)
    (case l_are_ascending => k_is)
    (case c_are_ascending => k_is)
    (case k_are_ascending => k_is)
    (case l_Web_keep => k_is)
    (case c_Web_keep => k_is)
    (case k_Web_keep => k_is)
    (case l_RawWeb_init => k_is)
    (case c_RawWeb_init => k_is)
    (case k_RawWeb_init => k_is)
    (case a_raw_web => k_is)
    (case l_raw_web => k_is)
    (case c_raw_web => k_is)
    (case k_raw_web => k_is)
    (case a_is_lot => k_is)
    (case l_is_lot => k_is)
    (case c_is_lot => k_is)
    (case k_is_lot => k_is)
    (case a_lots_of => k_is)
    (case l_lots_of => k_is)
    (case c_lots_of => k_is)
    (case k_lots_of => k_is)
    (case a_shares_with => k_is)
    (case l_shares_with => k_is)
    (case c_shares_with => k_is)
    (case k_shares_with => k_is)
    (case a_has_half => k_is)
    (case l_has_half => k_is)
    (case c_has_half => k_is)
    (case k_has_half => k_is)
    (case a_carried_of => k_is)
    (case l_carried_of => k_is)
    (case c_carried_of => k_is)
    (case k_carried_of => k_is)
    (case a_carries_house => k_is)
    (case l_carries_house => k_is)
    (case c_carries_house => k_is)
    (case k_carries_house => k_is)
    (case a_check_folk => k_is)
    (case l_check_folk => k_is)
    (case c_check_folk => k_is)
    (case k_check_folk => k_is)
    (case a_is_part => k_is)
    (case l_is_part => k_is)
    (case c_is_part => k_is)
    (case k_is_part => k_is)
    (case a_is_table_there => k_is)
    (case l_is_table_there => k_is)
    (case c_is_table_there => k_is)
    (case k_is_table_there => k_is)
    (case a_check_table => k_is)
    (case l_check_table => k_is)
    (case c_check_table => k_is)
    (case k_check_table => k_is)
    (case a_carries_there => k_is)
    (case l_carries_there => k_is)
    (case c_carries_there => k_is)
    (case k_carries_there => k_is)
    (case a_unlike_last => k_is)
    (case l_unlike_last => k_is)
    (case c_unlike_last => k_is)
    (case k_unlike_last => k_is)
    (case a_threes_of => k_is)
    (case l_threes_of => k_is)
    (case c_threes_of => k_is)
    (case k_threes_of => k_is)
    (case a__law_pool => k_is)
    (case l__law_pool => k_is)
    (case c__law_pool => k_is)
    (case k__law_pool => k_is)
    (case a__law_draw => k_is)
    (case l__law_draw => k_is)
    (case c__law_draw => k_is)
    (case k__law_draw => k_is)
    (case a__law_lots => k_is)
    (case l__law_lots => k_is)
    (case c__law_lots => k_is)
    (case k__law_lots => k_is)
    (case a__law_carried => k_is)
    (case l__law_carried => k_is)
    (case c__law_carried => k_is)
    (case k__law_carried => k_is)
    (case a__law_least => k_is)
    (case l__law_least => k_is)
    (case c__law_least => k_is)
    (case k__law_least => k_is)
    (case a__law_by => k_is)
    (case l__law_by => k_is)
    (case c__law_by => k_is)
    (case k__law_by => k_is)
    (case a__law_some_table => k_is)
    (case l__law_some_table => k_is)
    (case c__law_some_table => k_is)
    (case k__law_some_table => k_is)
    (case a__law_threes => k_is)
    (case l__law_threes => k_is)
    (case c__law_threes => k_is)
    (case k__law_threes => k_is)
    (case a__law_has => k_is)
    (case l__law_has => k_is)
    (case c__law_has => k_is)
    (case k__law_has => k_is)
    (case a__law_fewest => k_is)
    (case l__law_fewest => k_is)
    (case c__law_fewest => k_is)
    (case k__law_fewest => k_is)
    (case a_check_many => k_is)
    (case l_check_many => k_is)
    (case c_check_many => k_is)
    (case k_check_many => k_is)
    (case a_fewest_houses => k_is)
    (case l_fewest_houses => k_is)
    (case c_fewest_houses => k_is)
    (case k_fewest_houses => k_is)
    (case a__law_many => k_is)
    (case l__law_many => k_is)
    (case c__law_many => k_is)
    (case k__law_many => k_is)
    (case a_law => k_is)
    (case l_law => k_is)
    (case c_law => k_is)
    (case k_law => k_is)
    (case z_len => k_is)
    (case z_sum => k_is)
    (case z_all => k_is)
    (case z_any => k_is)
    (case z_range => k_is)
    (case z_sorted => k_is)
    (case z_isinstance => k_is)
    (case z_abs => k_is)
    (case z_min => k_is)
    (case z_int => k_is)
    (case z_bool => k_is)
    (case z_tuple => k_is)
    (case z_list => k_is)
    (case z_set => k_is)
    (case z_enumerate => k_is)
    (case m6 => k_is)
    (case m3 => k_is)
    (case pg => k_is)
    (case hd => k_is)
    (case po => k_is)
    (case saR => k_is)
    (case mk => k_is)
    (case nR => k_is)
    (case kR => k_is)
    (case nK => k_is)
    (case no_folk => k_is)
    (case no_houses => k_is)
    (case no_kept_folk => k_is)
    (case no_kept_houses => k_is)
    (case no_kept_half => k_is)
    (case aT => k_is)
    (case xT => k_is)
    (case saT => k_is)
    (case gaT => k_is)
    (case ggT => k_is)
    (case nbT => k_is)
    (case iT => k_is)
    (case tT => k_is)
    (case kT => k_is)
    (case eT => k_is)
    (case yT => k_is)
    (case hT => k_is)
    (case jT => k_is)
    (case sT => k_is)
    (case zT => k_is)
    (case mT => k_is)
    (case vT => k_is)
    (case nT => k_is)
    (case uT => ks_is)
    (case pT => first | rfl | decide +kernel | kernel_rfl)
    (case lT => k_is)
    (case cT => k_is)
    (case oT => k_is)
    (case wT => first | rfl | decide +kernel | kernel_rfl)
    (case fT2 => first | rfl | decide +kernel | kernel_rfl)
    (case ceT => k_is)
end PartRkZ

