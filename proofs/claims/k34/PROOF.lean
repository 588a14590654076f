import PyProof.Rows.All
import Wide.All
import OpenK.AllK
import Wide.FinOn
import HandS.ForMost
import HandS.Evl
import HandS.Flow
import HandS.Style
import HandS.IsInst
import HandS.TupAny
import HandS.More
import HandS.Star
import HandS.Zip
import HandS.TryMany
import HandS.WordsExc
import KE.GoesEnum
import HandS.TupSets
import HandS.ExcIs
import HandS.RaiseMore
import PySem.Challenge.RW_suredue_k34_whole_sums_locks_and_ends_of
set_option Elab.async false
set_option linter.all false
set_option autoImplicit false
set_option maxRecDepth 100000
set_option maxHeartbeats 2000000
/-! Ka: data read off the heap, and what an expression evaluates to as data. -/
namespace KD
open PySem PySem.Spec PyProof.Rows L2 Evl

/-! ### data, carried along -/
section
variable {K : PySem.W.Frag} {H H' : Hp}
mutual
theorem dp_ex (e : Ex H H') : ∀ (d : PyData) (v : V), Dp K H v d → Dp K H' v d
  | .none, _, h => by cases h; exact .non
  | .bool b, _, h => by cases h; exact .bl b
  | .int i, _, h => by cases h; exact .int i
  | .str x, _, h => by cases h; exact .str x
  | .list ds, _, h => by
    cases h with
    | lst hs ha => exact .lst (ex_l e hs) (dp_exA e ds _ ha)
  | .tuple ds, _, h => by
    cases h with
    | tup hs ha => exact .tup (ex_t e hs) (dp_exA e ds _ ha)
  | .dict _, _, h => by cases h
theorem dp_exA (e : Ex H H') : ∀ (ds : List PyData) (vs : List V), DpAll K H vs ds → DpAll K H' vs ds
  | [], _, h => by cases h; exact .nil
  | d :: ds, _, h => by
    cases h with
    | cons h1 h2 => exact .cons (dp_ex e d _ h1) (dp_exA e ds _ h2)
end
theorem dpe {d : PyData} {v : V} (h : Dp K H v d) (e : Ex H H') : Dp K H' v d := dp_ex e d v h
theorem dpeA {ds : List PyData} {vs : List V} (h : DpAll K H vs ds) (e : Ex H H') : DpAll K H' vs ds := dp_exA e ds vs h

/-! data without lists: kept by whatever keeps the tuples -/
mutual
def flat : PyData → Bool
  | .list _ => false
  | .dict _ => false
  | .tuple ds => flatA ds
  | _ => true
def flatA : List PyData → Bool
  | [] => true
  | d :: ds => flat d && flatA ds
end
/-- the tuples stay -/
def Tx (H H' : Hp) : Prop := ∀ a xs, Rd H a (.tup xs) → Rd H' a (.tup xs)
theorem Tx.refl (H : Hp) : Tx H H := fun _ _ h => h
theorem Tx.trans {H H1 H2 : Hp} (a : Tx H H1) (b : Tx H1 H2) : Tx H H2 := fun x o h => b x o (a x o h)
theorem tx_ex (e : Ex H H') : Tx H H' := fun _ _ h => ex_rd e h
/-- all but a list at p stays -/
def ExB (p : Addr) (H H' : Hp) : Prop := ∀ a o, a ≠ p → H a = some o → H' a = some o
theorem ExB.refl (p : Addr) (H : Hp) : ExB p H H := fun _ _ _ h => h
theorem ExB.trans {p : Addr} {H H1 H2 : Hp} (a : ExB p H H1) (b : ExB p H1 H2) : ExB p H H2 := fun x o n h => b x o n (a x o n h)
theorem exb_ex {p : Addr} (e : Ex H H') : ExB p H H' := fun a o _ h => e a o h
theorem exb_upd {p : Addr} {o : HO} : ExB p H (upd H p o) := fun a _ n h => by rw [upd_ne n]; exact h
theorem ExB.ex {p : Addr} {H0 : Hp} (b : ExB p H H') (e : Ex H0 H) (n : H0 p = none) : Ex H0 H' := fun a o h => b a o (ne_of_none h n) (e a o h)
theorem exb_tx {p : Addr} {xs : List V} (b : ExB p H H') (h : H p = some (.lst xs)) : Tx H H' := fun a ys r => by
  have n : a ≠ p := fun q => by
    subst q
    rcases r with r | ⟨o, r⟩ <;> (rw [h] at r; cases r)
  rcases r with r | ⟨o, r⟩
  · exact .inl (b a _ n r)
  · exact .inr ⟨o, b a _ n r⟩
theorem tx_upd {p : Addr} {xs : List V} {o : HO} (h : H p = some (.lst xs)) : Tx H (upd H p o) := exb_tx exb_upd h
theorem tx_t {a : Addr} {xs : List V} (e : Tx H H') (h : SqT K H a xs) : SqT K H' a xs := by
  rcases h with h | h
  · exact .inl (e _ _ h)
  · exact .inr h
mutual
theorem dp_tx (e : Tx H H') : ∀ (d : PyData) (v : V), flat d = true → Dp K H v d → Dp K H' v d
  | .none, _, _, h => by cases h; exact .non
  | .bool b, _, _, h => by cases h; exact .bl b
  | .int i, _, _, h => by cases h; exact .int i
  | .str x, _, _, h => by cases h; exact .str x
  | .list ds, _, f, _ => by
    have f' : false = true := f
    cases f'
  | .tuple ds, _, f, h => by
    cases h with
    | tup hs ha => exact .tup (tx_t e hs) (dp_txA e ds _ f ha)
  | .dict _, _, _, h => by cases h
theorem dp_txA (e : Tx H H') : ∀ (ds : List PyData) (vs : List V), flatA ds = true → DpAll K H vs ds → DpAll K H' vs ds
  | [], _, _, h => by cases h; exact .nil
  | d :: ds, _, f, h => by
    have f' : (flat d && flatA ds) = true := f
    obtain ⟨f1, f2⟩ := Bool.and_eq_true_iff.mp f'
    cases h with
    | cons h1 h2 => exact .cons (dp_tx e d _ f1 h1) (dp_txA e ds _ f2 h2)
end
theorem flatA_map {α : Type} {f : α → PyData} (h : ∀ a, flat (f a) = true) : ∀ l : List α, flatA (l.map f) = true
  | [] => rfl
  | a :: l => by
    show (flat (f a) && flatA (l.map f)) = true
    rw [h a, flatA_map h l]
    rfl
theorem flatA_app {xs ys : List PyData} (h1 : flatA xs = true) (h2 : flatA ys = true) : flatA (xs ++ ys) = true := by
  induction xs with
  | nil => exact h2
  | cons d ds ih =>
    have f' : (flat d && flatA ds) = true := h1
    obtain ⟨f1, f2⟩ := Bool.and_eq_true_iff.mp f'
    show (flat d && flatA (ds ++ ys)) = true
    rw [f1, ih f2]
    rfl

/-! places -/
theorem dpA_len : ∀ {vs : List V} {ds : List PyData}, DpAll K H vs ds → vs.length = ds.length
  | _, _, .nil => rfl
  | _, _, .cons _ t => by rw [List.length_cons, List.length_cons, dpA_len t]
theorem dpA_get : ∀ {vs : List V} {ds : List PyData} {i : Nat} {d : PyData}, DpAll K H vs ds → ds[i]? = some d → ∃ v, vs[i]? = some v ∧ Dp K H v d
  | _, _, _, _, .nil, h => by simp at h
  | _, _, 0, d, .cons h1 _, h => by
    have e := Option.some.inj h
    subst e
    exact ⟨_, rfl, h1⟩
  | _, _, i + 1, d, .cons _ h2, h => dpA_get (i := i) h2 h
theorem dpA_getV : ∀ {vs : List V} {ds : List PyData} {i : Nat} {v : V}, DpAll K H vs ds → vs[i]? = some v → ∃ d, ds[i]? = some d ∧ Dp K H v d
  | _, _, _, _, .nil, h => by simp at h
  | _, _, 0, d, .cons h1 _, h => by
    have e := Option.some.inj h
    subst e
    exact ⟨_, rfl, h1⟩
  | _, _, i + 1, d, .cons _ h2, h => dpA_getV (i := i) h2 h
theorem dpA_app : ∀ {vs ws : List V} {ds es : List PyData}, DpAll K H vs ds → DpAll K H ws es → DpAll K H (vs ++ ws) (ds ++ es)
  | _, _, _, _, .nil, h => h
  | _, _, _, _, .cons a t, h => .cons a (dpA_app t h)
theorem dpA_one {v : V} {d : PyData} (h : Dp K H v d) : DpAll K H [v] [d] := .cons h .nil
theorem dpA_take : ∀ {vs : List V} {ds : List PyData} (n : Nat), DpAll K H vs ds → DpAll K H (vs.take n) (ds.take n)
  | _, _, 0, _ => by rw [List.take_zero, List.take_zero]; exact .nil
  | _, _, n + 1, .nil => .nil
  | _, _, n + 1, .cons a t => .cons a (dpA_take n t)
theorem dpA_drop : ∀ {vs : List V} {ds : List PyData} (n : Nat), DpAll K H vs ds → DpAll K H (vs.drop n) (ds.drop n)
  | _, _, 0, h => h
  | _, _, n + 1, .nil => .nil
  | _, _, n + 1, .cons a t => dpA_drop n t
theorem dp_vint {v : V} {i : Int} (h : Dp K H v (.int i)) : v = .int i := by cases h; rfl
theorem dp_vbl {v : V} {b : Bool} (h : Dp K H v (.bool b)) : v = .bl b := by cases h; rfl
theorem dp_vnon {v : V} (h : Dp K H v .none) : v = .non := by cases h; rfl
theorem dp_vstr {v : V} {x : Str} (h : Dp K H v (.str x)) : v = .str x := by cases h; rfl
theorem dp_tup {v : V} {ds : List PyData} (h : Dp K H v (.tuple ds)) : ∃ a xs, v = .ref a ∧ SqT K H a xs ∧ DpAll K H xs ds := by
  cases h with
  | tup hs ha => exact ⟨_, _, rfl, hs, ha⟩
theorem dp_lst {v : V} {ds : List PyData} (h : Dp K H v (.list ds)) : ∃ a xs, v = .ref a ∧ SqL K H a xs ∧ DpAll K H xs ds := by
  cases h with
  | lst hs ha => exact ⟨_, _, rfl, hs, ha⟩
theorem dpA1 {vs : List V} {a : PyData} (h : DpAll K H vs [a]) : ∃ x, vs = [x] ∧ Dp K H x a := by
  cases h with
  | cons h1 t => cases t; exact ⟨_, rfl, h1⟩
theorem dpA2 {vs : List V} {a b : PyData} (h : DpAll K H vs [a, b]) : ∃ x y, vs = [x, y] ∧ Dp K H x a ∧ Dp K H y b := by
  cases h with
  | cons h1 t => obtain ⟨y, rfl, h2⟩ := dpA1 t; exact ⟨_, _, rfl, h1, h2⟩
theorem dpA3 {vs : List V} {a b c : PyData} (h : DpAll K H vs [a, b, c]) : ∃ x y z, vs = [x, y, z] ∧ Dp K H x a ∧ Dp K H y b ∧ Dp K H z c := by
  cases h with
  | cons h1 t => obtain ⟨y, z, rfl, h2, h3⟩ := dpA2 t; exact ⟨_, _, _, rfl, h1, h2, h3⟩
theorem dpA4 {vs : List V} {a b c d : PyData} (h : DpAll K H vs [a, b, c, d]) : ∃ x y z u, vs = [x, y, z, u] ∧ Dp K H x a ∧ Dp K H y b ∧ Dp K H z c ∧ Dp K H u d := by
  cases h with
  | cons h1 t => obtain ⟨y, z, u, rfl, h2, h3, h4⟩ := dpA3 t; exact ⟨_, _, _, _, rfl, h1, h2, h3, h4⟩
theorem dpA5 {vs : List V} {a b c d e : PyData} (h : DpAll K H vs [a, b, c, d, e]) : ∃ x y z u w, vs = [x, y, z, u, w] ∧ Dp K H x a ∧ Dp K H y b ∧ Dp K H z c ∧ Dp K H u d ∧ Dp K H w e := by
  cases h with
  | cons h1 t => obtain ⟨y, z, u, w, rfl, h2, h3, h4, h5⟩ := dpA4 t; exact ⟨_, _, _, _, _, rfl, h1, h2, h3, h4, h5⟩
theorem dpA6 {vs : List V} {a b c d e f : PyData} (h : DpAll K H vs [a, b, c, d, e, f]) : ∃ x y z u w t, vs = [x, y, z, u, w, t] ∧ Dp K H x a ∧ Dp K H y b ∧ Dp K H z c ∧ Dp K H u d ∧ Dp K H w e ∧ Dp K H t f := by
  cases h with
  | cons h1 t => obtain ⟨y, z, u, w, t', rfl, h2, h3, h4, h5, h6⟩ := dpA5 t; exact ⟨_, _, _, _, _, _, rfl, h1, h2, h3, h4, h5, h6⟩
theorem dpA_ints {H : Hp} : ∀ {ns : List Int} {vs : List V}, DpAll K H vs (ns.map .int) → vs = ns.map V.int
  | [], _, .nil => rfl
  | n :: ns, _, .cons h t => by rw [dp_vint h, dpA_ints t]; rfl
theorem dpA_bls {H : Hp} : ∀ {ns : List Bool} {vs : List V}, DpAll K H vs (ns.map .bool) → vs = ns.map V.bl
  | [], _, .nil => rfl
  | n :: ns, _, .cons h t => by rw [dp_vbl h, dpA_bls t]; rfl
theorem ints_dpA {H : Hp} : ∀ (ns : List Int), DpAll K H (ns.map V.int) (ns.map .int)
  | [] => .nil
  | n :: ns => .cons (.int n) (ints_dpA ns)
theorem bls_dpA {H : Hp} : ∀ (ns : List Bool), DpAll K H (ns.map V.bl) (ns.map .bool)
  | [] => .nil
  | n :: ns => .cons (.bl n) (bls_dpA ns)
end

/-! ### evaluates to data -/
def EvD (K : PySem.W.Frag) (te : TE) (σ : L2.St) (H : Hp) (d : PyData) : Prop := ∀ H1, Ex H H1 → ∀ Q : VK, (∀ v H2, Ex H1 H2 → Dp K H2 v d → Q v H2) → te σ H1 Q
def EvDs (K : PySem.W.Frag) (ta : TA) (σ : L2.St) (H : Hp) (ds : List PyData) : Prop := ∀ H1, Ex H H1 → ∀ Q : List V → Hp → Prop, (∀ vs H2, Ex H1 H2 → DpAll K H2 vs ds → Q vs H2) → ta σ H1 Q
/-- a new list that may be changed later -/
def EvDL (K : PySem.W.Frag) (te : TE) (σ : L2.St) (H : Hp) (ds : List PyData) : Prop := ∀ H1, Ex H H1 → ∀ Q : VK, (∀ p vs H2, H1 p = none → Ex H1 H2 → H2 p = some (.lst vs) → DpAll K H2 vs ds → Q (.ref p) H2) → te σ H1 Q

section
variable {K : PySem.W.Frag} {σ : L2.St} {H H' : Hp} {ta tb tc te : TE} {t u : TT} {x y z v : V} {r : R2} {d d' : PyData} {ds es : List PyData}
theorem EvD.mono (h : EvD K te σ H d) (e : Ex H H') : EvD K te σ H' d := fun H1 a Q q => h H1 (e.trans a) Q q
theorem EvDs.mono {ts : TA} (h : EvDs K ts σ H ds) (e : Ex H H') : EvDs K ts σ H' ds := fun H1 a Q q => h H1 (e.trans a) Q q
theorem EvDL.toD (h : EvDL K te σ H ds) : EvD K te σ H (.list ds) := fun H1 e Q q => h H1 e Q fun p vs H2 _ e2 h2 hd => q _ H2 e2 (.lst (sq_of h2) hd)
theorem ed_is (h : EvD K te σ H d) (e : d = d') : EvD K te σ H d' := e ▸ h
theorem ed_var {i : Nat} (h : σ[i]? = some (some v)) (hd : Dp K H v d) : EvD K (tVar i) σ H d := fun H1 e _ q => ⟨v, h, q v H1 (Ex.refl _) (dpe hd e)⟩
theorem ed_of (h : Ev te σ H v) (hd : ∀ H, Dp K H v d) : EvD K te σ H d := fun H1 e Q q => h H1 e Q fun H2 e2 => q v H2 e2 (hd H2)
theorem ed_i {i : Int} (h : Ev te σ H (.int i)) : EvD K te σ H (.int i) := ed_of h fun _ => .int i
theorem ed_b {b : Bool} (h : Ev te σ H (.bl b)) : EvD K te σ H (.bool b) := ed_of h fun _ => .bl b
theorem ed_s {s : Str} (h : Ev te σ H (.str s)) : EvD K te σ H (.str s) := ed_of h fun _ => .str s
theorem ed_n (h : Ev te σ H .non) : EvD K te σ H .none := ed_of h fun _ => .non
theorem ev_i {i : Int} (h : EvD K te σ H (.int i)) : Ev te σ H (.int i) := fun H1 e Q q => h H1 e Q fun v H2 e2 hd => by rw [dp_vint hd]; exact q H2 e2
theorem ev_b {b : Bool} (h : EvD K te σ H (.bool b)) : Ev te σ H (.bl b) := fun H1 e Q q => h H1 e Q fun v H2 e2 hd => by rw [dp_vbl hd]; exact q H2 e2
theorem ev_s {s : Str} (h : EvD K te σ H (.str s)) : Ev te σ H (.str s) := fun H1 e Q q => h H1 e Q fun v H2 e2 hd => by rw [dp_vstr hd]; exact q H2 e2
theorem ev_n (h : EvD K te σ H .none) : Ev te σ H .non := fun H1 e Q q => h H1 e Q fun v H2 e2 hd => by rw [dp_vnon hd]; exact q H2 e2
theorem ed_cint {i : Int} : EvD K (tC (.int i)) σ H (.int i) := ed_i ev_c
theorem ed_cbl {b : Bool} : EvD K (tC (.bl b)) σ H (.bool b) := ed_b ev_c
theorem ed_cstr {s : Str} : EvD K (tC (.str s)) σ H (.str s) := ed_s ev_c
theorem ed_cnon : EvD K (tC .non) σ H .none := ed_n ev_c

/-! lists of arguments, displays -/
theorem eds_nil : EvDs K tNil σ H [] := fun H1 _ _ q => q [] H1 (Ex.refl _) .nil
theorem eds_cons {tr : TA} (h : EvD K te σ H d) (hr : EvDs K tr σ H ds) : EvDs K (tCons te tr) σ H (d :: ds) := fun H1 e _ q =>
  h H1 e _ fun v H2 e2 hv => hr H2 (e.trans e2) _ fun vs H3 e3 hvs => q _ H3 (e2.trans e3) (.cons (dpe hv e3) hvs)
theorem eds_star {tr : TA} (h : EvD K te σ H (.tuple ds)) (hr : EvDs K tr σ H es) : EvDs K (StX.tStar K te tr) σ H (ds ++ es) := fun H1 e _ q =>
  h H1 e _ fun v H2 e2 hv => by
    obtain ⟨a, xs, rfl, hs, ha⟩ := dp_tup hv
    exact ⟨a, xs, rfl, .inl hs, hr H2 (e.trans e2) _ fun vs H3 e3 hvs => q _ H3 (e2.trans e3) (dpA_app (dpeA ha e3) hvs)⟩
theorem ed_tup {tr : TA} (h : EvDs K tr σ H ds) (hl : ds.length ≤ 100000) : EvD K (tTup tr) σ H (.tuple ds) := fun H1 e _ q =>
  h H1 e _ fun vs H2 e2 hv => ⟨sz_of (by rw [dpA_len hv]; exact hl), fun p hp => q _ _ (e2.trans (Ex.new hp)) (.tup (st_of upd_same) (dpeA hv (Ex.new hp)))⟩
theorem edl_lst {tr : TA} (h : EvDs K tr σ H ds) (hl : ds.length ≤ 100000) : EvDL K (tLst tr) σ H ds := fun H1 e _ q =>
  h H1 e _ fun vs H2 e2 hv => ⟨sz_of (by rw [dpA_len hv]; exact hl), fun p hp => q p vs _ (fresh_back e2 hp) (e2.trans (Ex.new hp)) upd_same (dpeA hv (Ex.new hp))⟩
theorem ed_lst {tr : TA} (h : EvDs K tr σ H ds) (hl : ds.length ≤ 100000) : EvD K (tLst tr) σ H (.list ds) := (edl_lst h hl).toD

/-! places, lengths -/
theorem atI_dp {vs : List V} {i : Int} (h : DpAll K H vs ds) (ha : atI ds i = some d) : ∃ v, atI vs i = some v ∧ Dp K H v d := by
  unfold atI at ha ⊢
  rw [dpA_len h]
  cases q : ixN ds.length i with
  | none => rw [q] at ha; cases ha
  | some j =>
    rw [q] at ha
    obtain ⟨v, h1, h2⟩ := dpA_get h ha
    exact ⟨v, h1, h2⟩
theorem ed_ixT {i : Int} (h : EvD K ta σ H (.tuple ds)) (hi : Ev tb σ H (.int i)) (ha : atI ds i = some d) : EvD K (tOp (rIx K) ta tb) σ H d := fun H1 e _ q =>
  h H1 e _ fun v H2 e2 hv => hi H2 (e.trans e2) _ fun H3 e3 => by
    obtain ⟨a, xs, rfl, hs, hx⟩ := dp_tup (dpe hv e3)
    obtain ⟨w, hw, hd⟩ := atI_dp hx ha
    exact .inr (.inl ⟨a, xs, i, w, rfl, rfl, hs, hw, q w H3 (e2.trans e3) hd⟩)
theorem ed_ixL {i : Int} (h : EvD K ta σ H (.list ds)) (hi : Ev tb σ H (.int i)) (ha : atI ds i = some d) : EvD K (tOp (rIx K) ta tb) σ H d := fun H1 e _ q =>
  h H1 e _ fun v H2 e2 hv => hi H2 (e.trans e2) _ fun H3 e3 => by
    obtain ⟨a, xs, rfl, hs, hx⟩ := dp_lst (dpe hv e3)
    obtain ⟨w, hw, hd⟩ := atI_dp hx ha
    exact .inl ⟨a, xs, i, w, rfl, rfl, hs, hw, q w H3 (e2.trans e3) hd⟩
theorem ev_lenT (h : EvD K ta σ H (.tuple ds)) : Ev (tCB (rLenS K) (tCons ta tNil)) σ H (.int (ds.length : Int)) := fun H1 e _ q =>
  h H1 e _ fun v H2 e2 hv => by
    obtain ⟨a, xs, rfl, hs, hx⟩ := dp_tup hv
    exact ⟨a, xs, rfl, .inr hs, by rw [dpA_len hx]; exact q H2 e2⟩
theorem ev_lenL (h : EvD K ta σ H (.list ds)) : Ev (tCB (rLenS K) (tCons ta tNil)) σ H (.int (ds.length : Int)) := fun H1 e _ q =>
  h H1 e _ fun v H2 e2 hv => by
    obtain ⟨a, xs, rfl, hs, hx⟩ := dp_lst hv
    exact ⟨a, xs, rfl, .inl hs, by rw [dpA_len hx]; exact q H2 e2⟩

/-! tuple(..), list(..) -/
def rTupleOf (K : PySem.W.Frag) : List V → Hp → VK → Prop := fun xs H Q => ∃ p ys, xs = [.ref p] ∧ ((SqL K H p ys ∧ ∀ l, H l = none → Q (.ref l) (upd H l (.tup ys))) ∨ (SqT K H p ys ∧ Q (.ref p) H))
theorem ed_tupleL (h : EvD K ta σ H (.list ds)) : EvD K (tCB (rTupleOf K) (tCons ta tNil)) σ H (.tuple ds) := fun H1 e _ q =>
  h H1 e _ fun v H2 e2 hv => by
    obtain ⟨a, xs, rfl, hs, hx⟩ := dp_lst hv
    exact ⟨a, xs, rfl, .inl ⟨hs, fun l hl => q _ _ (e2.trans (Ex.new hl)) (.tup (st_of upd_same) (dpeA hx (Ex.new hl)))⟩⟩
theorem ed_tupleT (h : EvD K ta σ H (.tuple ds)) : EvD K (tCB (rTupleOf K) (tCons ta tNil)) σ H (.tuple ds) := fun H1 e _ q =>
  h H1 e _ fun v H2 e2 hv => by
    obtain ⟨a, xs, rfl, hs, hx⟩ := dp_tup hv
    exact ⟨a, xs, rfl, .inr ⟨hs, q _ _ e2 (.tup hs hx)⟩⟩
theorem edl_listT (h : EvD K ta σ H (.tuple ds)) : EvDL K (tCB (rListS K) (tCons ta tNil)) σ H ds := fun H1 e _ q =>
  h H1 e _ fun v H2 e2 hv => by
    obtain ⟨a, xs, rfl, hs, hx⟩ := dp_tup hv
    exact ⟨a, xs, rfl, .inr hs, fun l hl => q l xs _ (fresh_back e2 hl) (e2.trans (Ex.new hl)) upd_same (dpeA hx (Ex.new hl))⟩
theorem edl_listL (h : EvD K ta σ H (.list ds)) : EvDL K (tCB (rListS K) (tCons ta tNil)) σ H ds := fun H1 e _ q =>
  h H1 e _ fun v H2 e2 hv => by
    obtain ⟨a, xs, rfl, hs, hx⟩ := dp_lst hv
    exact ⟨a, xs, rfl, .inl hs, fun l hl => q l xs _ (fresh_back e2 hl) (e2.trans (Ex.new hl)) upd_same (dpeA hx (Ex.new hl))⟩

/-! isinstance -/
def tyOf : PyData → String
  | .none => "NoneType"
  | .bool _ => "bool"
  | .int _ => "int"
  | .str _ => "str"
  | .list _ => "list"
  | .tuple _ => "tuple"
  | .dict _ => "dict"
theorem dp_ty (h : Dp K H v d) : TyX K H v (.type (tyOf d)) := by
  cases h with
  | non => exact .base .non
  | bl b => exact .base (.bl b)
  | int i => exact .base (.int i)
  | str x => exact .base (.str x)
  | lst hs _ =>
    rcases hs with (hs | ⟨o, hs⟩) | ⟨o, _, _, hk, hc, _⟩
    · exact .base (.lst hs)
    · exact .base (.frz hs)
    · exact .kList hk hc
  | tup hs _ =>
    rcases hs with (hs | ⟨o, hs⟩) | ⟨o, _, _, hk, hc, _⟩
    · exact .base (.tup hs)
    · exact .fTuple hs
    · exact .kTuple hk hc
theorem kit_ok {a T : String} {b : Bool} (h : kitB a T = some b) : PySem.W.kitOne K (.type a) (.type T) = some b := kit_ty h
theorem ev_isi {T : String} {b : Bool} (h : EvD K ta σ H d) (hb : kitB (tyOf d) T = some b) : Ev (tCB (rIsi K) (tCons ta (tCons (tC (.ty T)) tNil))) σ H (.bl b) := fun H1 e _ q =>
  h H1 e _ fun v H2 e2 hv => ⟨v, .ty T, _, .type T, b, rfl, .ty T, dp_ty hv, kit_ok hb, q H2 e2⟩
theorem ev_isiT {T1 T2 : String} {b1 b2 : Bool} (h : EvD K ta σ H d) (h1 : kitB (tyOf d) T1 = some b1) (h2 : kitB (tyOf d) T2 = some b2) :
    Ev (tCB (rIsiT K) (tCons ta (tCons (tTup (tCons (tC (.ty T1)) (tCons (tC (.ty T2)) tNil))) tNil))) σ H (.bl (b1 || b2)) := fun H1 e _ q =>
  h H1 e _ fun v H2 e2 hv => ⟨by show 2 ≤ sizeLine; decide, fun p hp => ⟨v, p, [.ty T1, .ty T2], _, [.type T1, .type T2], b1 || b2, rfl, upd_same, .cons (.ty T1) (.cons (.ty T2) .nil), dp_ty (dpe hv (Ex.new hp)),
    kitAny_cons (kit_ok h1) (fun z => kitAny_cons (kit_ok h2) (fun z2 => by rw [z, z2]; exact kitAny_nil) fun z2 => by rw [z2, Bool.or_true]) (fun z => by rw [z, Bool.true_or]), q _ (e2.trans (Ex.new hp))⟩⟩
theorem kb_int (d : PyData) : kitB (tyOf d) "int" = some (match d with | .bool _ => true | .int _ => true | _ => false) := by
  cases d with
  | none => exact (by decide +kernel : kitB "NoneType" "int" = some false)
  | bool _ => exact (by decide +kernel : kitB "bool" "int" = some true)
  | int _ => exact (by decide +kernel : kitB "int" "int" = some true)
  | str _ => exact (by decide +kernel : kitB "str" "int" = some false)
  | list _ => exact (by decide +kernel : kitB "list" "int" = some false)
  | tuple _ => exact (by decide +kernel : kitB "tuple" "int" = some false)
  | dict _ => exact (by decide +kernel : kitB "dict" "int" = some false)
theorem kb_bool (d : PyData) : kitB (tyOf d) "bool" = some (match d with | .bool _ => true | _ => false) := by
  cases d with
  | none => exact (by decide +kernel : kitB "NoneType" "bool" = some false)
  | bool _ => exact (by decide +kernel : kitB "bool" "bool" = some true)
  | int _ => exact (by decide +kernel : kitB "int" "bool" = some false)
  | str _ => exact (by decide +kernel : kitB "str" "bool" = some false)
  | list _ => exact (by decide +kernel : kitB "list" "bool" = some false)
  | tuple _ => exact (by decide +kernel : kitB "tuple" "bool" = some false)
  | dict _ => exact (by decide +kernel : kitB "dict" "bool" = some false)
theorem kb_str (d : PyData) : kitB (tyOf d) "str" = some (match d with | .str _ => true | _ => false) := by
  cases d with
  | none => exact (by decide +kernel : kitB "NoneType" "str" = some false)
  | bool _ => exact (by decide +kernel : kitB "bool" "str" = some false)
  | int _ => exact (by decide +kernel : kitB "int" "str" = some false)
  | str _ => exact (by decide +kernel : kitB "str" "str" = some true)
  | list _ => exact (by decide +kernel : kitB "list" "str" = some false)
  | tuple _ => exact (by decide +kernel : kitB "tuple" "str" = some false)
  | dict _ => exact (by decide +kernel : kitB "dict" "str" = some false)
theorem kb_list (d : PyData) : kitB (tyOf d) "list" = some (match d with | .list _ => true | _ => false) := by
  cases d with
  | none => exact (by decide +kernel : kitB "NoneType" "list" = some false)
  | bool _ => exact (by decide +kernel : kitB "bool" "list" = some false)
  | int _ => exact (by decide +kernel : kitB "int" "list" = some false)
  | str _ => exact (by decide +kernel : kitB "str" "list" = some false)
  | list _ => exact (by decide +kernel : kitB "list" "list" = some true)
  | tuple _ => exact (by decide +kernel : kitB "tuple" "list" = some false)
  | dict _ => exact (by decide +kernel : kitB "dict" "list" = some false)
theorem kb_tuple (d : PyData) : kitB (tyOf d) "tuple" = some (match d with | .tuple _ => true | _ => false) := by
  cases d with
  | none => exact (by decide +kernel : kitB "NoneType" "tuple" = some false)
  | bool _ => exact (by decide +kernel : kitB "bool" "tuple" = some false)
  | int _ => exact (by decide +kernel : kitB "int" "tuple" = some false)
  | str _ => exact (by decide +kernel : kitB "str" "tuple" = some false)
  | list _ => exact (by decide +kernel : kitB "list" "tuple" = some false)
  | tuple _ => exact (by decide +kernel : kitB "tuple" "tuple" = some true)
  | dict _ => exact (by decide +kernel : kitB "dict" "tuple" = some false)

/-! all, sum, min, max of lists of data -/
theorem ev_all {bs : List Bool} (h : EvD K ta σ H (.list (bs.map .bool))) : Ev (tCB (rAll K) (tCons ta tNil)) σ H (.bl (bs.all id)) := fun H1 e _ q =>
  h H1 e _ fun v H2 e2 hv => by
    obtain ⟨a, xs, rfl, hs, hx⟩ := dp_lst hv
    rw [dpA_bls hx] at hs
    exact ⟨a, bs, rfl, hs, q H2 e2⟩
theorem ev_sumL {ns : List Int} (h : EvD K ta σ H (.list (ns.map .int))) : Ev (tCB (rSum K) (tCons ta tNil)) σ H (.int ns.sum) := fun H1 e _ q =>
  h H1 e _ fun v H2 e2 hv => by
    obtain ⟨a, xs, rfl, hs, hx⟩ := dp_lst hv
    rw [dpA_ints hx] at hs
    exact ⟨a, ns, rfl, hs, q H2 e2⟩
def IsMin (ns : List Int) (m : Int) : Prop := m ∈ ns ∧ ∀ y, y ∈ ns → m ≤ y
def IsMax (ns : List Int) (m : Int) : Prop := m ∈ ns ∧ ∀ y, y ∈ ns → y ≤ m
theorem IsMin.uniq {ns : List Int} {m n : Int} (a : IsMin ns m) (b : IsMin ns n) : m = n := by
  have h1 := a.2 n b.1
  have h2 := b.2 m a.1
  omega
theorem IsMax.uniq {ns : List Int} {m n : Int} (a : IsMax ns m) (b : IsMax ns n) : m = n := by
  have h1 := a.2 n b.1
  have h2 := b.2 m a.1
  omega
theorem ev_min {ns : List Int} {m : Int} (h : EvD K ta σ H (.list (ns.map .int))) (hm : IsMin ns m) : Ev (tCB (rMin K) (tCons ta tNil)) σ H (.int m) := fun H1 e _ q =>
  h H1 e _ fun v H2 e2 hv => by
    obtain ⟨a, xs, rfl, hs, hx⟩ := dp_lst hv
    rw [dpA_ints hx] at hs
    refine ⟨a, ns, rfl, hs, List.length_pos_of_mem hm.1, fun n h1 h2 => ?_⟩
    rw [show n = m from IsMin.uniq ⟨h1, h2⟩ hm]
    exact q H2 e2
theorem ev_max {ns : List Int} {m : Int} (h : EvD K ta σ H (.list (ns.map .int))) (hm : IsMax ns m) : Ev (tCB (rMax K) (tCons ta tNil)) σ H (.int m) := fun H1 e _ q =>
  h H1 e _ fun v H2 e2 hv => by
    obtain ⟨a, xs, rfl, hs, hx⟩ := dp_lst hv
    rw [dpA_ints hx] at hs
    refine ⟨a, ns, rfl, hs, List.length_pos_of_mem hm.1, fun n h1 h2 => ?_⟩
    rw [show n = m from IsMax.uniq ⟨h1, h2⟩ hm]
    exact q H2 e2

/-! list + list, tuple + tuple -/
theorem edl_cat (ha : EvDL K ta σ H ds) (hb : EvDL K tb σ H es) (hl : ds.length + es.length ≤ 100000) : EvDL K (tOp rCat ta tb) σ H (ds ++ es) := fun H1 e _ q =>
  ha H1 e _ fun p vs H2 hp e2 h2 hv => hb H2 (e.trans e2) _ fun p' ws H3 hp' e3 h3 hw =>
    ⟨p, p', vs, ws, rfl, rfl, e3 p _ h2, h3, sz_of (by rw [dpA_len hv, dpA_len hw]; exact hl), fun l hl => q l _ _ (fresh_back (e2.trans e3) hl) ((e2.trans e3).trans (Ex.new hl)) upd_same (dpA_app (dpeA hv (e3.trans (Ex.new hl))) (dpeA hw (Ex.new hl)))⟩
/-- a list that stands at a known place -/
theorem edl_catV {p : Addr} {vs : List V} {ta : TE} (ha : Ev ta σ H (.ref p)) (hp : H p = some (.lst vs)) (hv : DpAll K H vs ds) (hb : EvDL K tb σ H es) (hl : ds.length + es.length ≤ 100000) : EvDL K (tOp rCat ta tb) σ H (ds ++ es) := fun H1 e _ q =>
  ha H1 e _ fun H2 e2 => hb H2 (e.trans e2) _ fun p' ws H3 hp' e3 h3 hw =>
    ⟨p, p', vs, ws, rfl, rfl, ((e.trans e2).trans e3) p _ hp, h3, sz_of (by rw [dpA_len hv, dpA_len hw]; exact hl), fun l hl => q l _ _ (fresh_back (e2.trans e3) hl) ((e2.trans e3).trans (Ex.new hl)) upd_same (dpA_app (dpeA hv (((e.trans e2).trans e3).trans (Ex.new hl))) (dpeA hw (Ex.new hl)))⟩
theorem edl_catW {p : Addr} {vs : List V} {tb : TE} (ha : EvDL K ta σ H es) (hb : Ev tb σ H (.ref p)) (hp : H p = some (.lst vs)) (hv : DpAll K H vs ds) (hl : es.length + ds.length ≤ 100000) : EvDL K (tOp rCat ta tb) σ H (es ++ ds) := fun H1 e _ q =>
  ha H1 e _ fun p' ws H2 hp' e2 h2 hw => hb H2 (e.trans e2) _ fun H3 e3 =>
    ⟨p', p, ws, vs, rfl, rfl, e3 p' _ h2, ((e.trans e2).trans e3) p _ hp, sz_of (by rw [dpA_len hv, dpA_len hw]; exact hl), fun l hl => q l _ _ (fresh_back (e2.trans e3) hl) ((e2.trans e3).trans (Ex.new hl)) upd_same (dpA_app (dpeA hw (e3.trans (Ex.new hl))) (dpeA hv (((e.trans e2).trans e3).trans (Ex.new hl))))⟩
theorem ed_catT (ha : EvD K ta σ H (.tuple ds)) (hb : EvD K tb σ H (.tuple es)) (hl : ds.length + es.length ≤ 100000) : EvD K (tOp (rCatA K) ta tb) σ H (.tuple (ds ++ es)) := fun H1 e _ q =>
  ha H1 e _ fun v H2 e2 hv => hb H2 (e.trans e2) _ fun w H3 e3 hw => by
    obtain ⟨a, xs, rfl, hs, hx⟩ := dp_tup (dpe hv e3)
    obtain ⟨b, ys, rfl, hs', hy⟩ := dp_tup hw
    refine ⟨a, b, xs, ys, rfl, rfl, hs, hs', sz_of (by rw [dpA_len hx, dpA_len hy]; exact hl), fun z => ?_, fun _ z => ?_, fun _ _ p hp => ?_⟩
    · subst z
      cases hx
      exact q _ H3 (e2.trans e3) (.tup hs' hy)
    · subst z
      cases hy
      exact q _ H3 (e2.trans e3) (by rw [List.append_nil]; exact .tup hs hx)
    · exact q _ _ ((e2.trans e3).trans (Ex.new hp)) (.tup (st_of upd_same) (dpA_app (dpeA hx (Ex.new hp)) (dpeA hy (Ex.new hp))))

/-! slices -/
theorem edl_sl {tl th : TO} {lo hi : Option Int} (h : EvD K ta σ H (.list ds)) (h1 : EvO tl σ H lo) (h2 : EvO th σ H hi) : EvDL K (tSl (rSlL K) ta tl th) σ H ((ds.drop (HT.sIx ds.length 0 lo)).take (HT.sIx ds.length ds.length hi - HT.sIx ds.length 0 lo)) := fun H1 e _ q =>
  h H1 e _ fun v H2 e2 hv => h1 H2 (e.trans e2) _ fun H3 e3 => h2 H3 ((e.trans e2).trans e3) _ fun H4 e4 => by
    obtain ⟨a, xs, rfl, hs, hx⟩ := dp_lst (dpe hv (e3.trans e4))
    refine ⟨a, xs, rfl, hs, fun p hp => q p _ _ (fresh_back ((e2.trans e3).trans e4) hp) (((e2.trans e3).trans e4).trans (Ex.new hp)) upd_same ?_⟩
    unfold cutV
    rw [dpA_len hx]
    exact dpA_take _ (dpA_drop _ (dpeA hx (Ex.new hp)))
theorem ed_slT {tl th : TO} {lo hi : Option Int} (h : EvD K ta σ H (.tuple ds)) (h1 : EvO tl σ H lo) (h2 : EvO th σ H hi) : EvD K (tSl (rSlA K) ta tl th) σ H (.tuple ((ds.drop (HT.sIx ds.length 0 lo)).take (HT.sIx ds.length ds.length hi - HT.sIx ds.length 0 lo))) := fun H1 e _ q =>
  h H1 e _ fun v H2 e2 hv => h1 H2 (e.trans e2) _ fun H3 e3 => h2 H3 ((e.trans e2).trans e3) _ fun H4 e4 => by
    obtain ⟨a, xs, rfl, hs, hx⟩ := dp_tup (dpe hv (e3.trans e4))
    refine ⟨a, xs, rfl, hs, fun z => ?_, fun _ p hp => ?_⟩
    · have z' := z
      rw [dpA_len hx] at z'
      exact q _ H4 ((e2.trans e3).trans e4) (by rw [z'.1, z'.2, List.drop_zero, Nat.sub_zero, List.take_length]; exact .tup hs hx)
    · refine q _ _ (((e2.trans e3).trans e4).trans (Ex.new hp)) (.tup (st_of upd_same) ?_)
      unfold cutV
      rw [dpA_len hx]
      exact dpA_take _ (dpA_drop _ (dpeA hx (Ex.new hp)))

/-! conditional values, comparisons of data with the empty -/
theorem ed_if {b : Bool} (h : EvT t σ H b) (h1 : b = true → EvD K ta σ H d) (h2 : b = false → EvD K tb σ H d) : EvD K (tIf t ta tb) σ H d := fun H1 e _ q => h H1 e _ fun H2 e2 => by
  cases b with
  | true =>
    show ta σ H2 _
    exact h1 rfl H2 (e.trans e2) _ fun v H3 e3 => q v H3 (e2.trans e3)
  | false =>
    show tb σ H2 _
    exact h2 rfl H2 (e.trans e2) _ fun v H3 e3 => q v H3 (e2.trans e3)
theorem ev_eqD (ha : EvD K ta σ H d) (hb : EvD K tb σ H d') (s1 : SeqAt.shaped d = true) (s2 : SeqAt.shaped d' = true) : Ev (tOp (rEqD K) ta tb) σ H (.bl (PyData.eqv d d')) := fun H1 e _ q =>
  ha H1 e _ fun v H2 e2 hv => hb H2 (e.trans e2) _ fun w H3 e3 hw => ⟨d, d', dpe hv e3, hw, s1, s2, q H3 (e2.trans e3)⟩
theorem ev_neD (ha : EvD K ta σ H d) (hb : EvD K tb σ H d') (s1 : SeqAt.shaped d = true) (s2 : SeqAt.shaped d' = true) : Ev (tOp (rNeD K) ta tb) σ H (.bl (!PyData.eqv d d')) := fun H1 e _ q =>
  ha H1 e _ fun v H2 e2 hv => hb H2 (e.trans e2) _ fun w H3 e3 hw => ⟨d, d', dpe hv e3, hw, s1, s2, q H3 (e2.trans e3)⟩
def rIsN : R2 := fun x y H Q => y = .non ∧ Q (.bl (decide (x = .non))) H
def rNotN : R2 := fun x y H Q => y = .non ∧ Q (.bl (!decide (x = .non))) H
/-- x is None of any data -/
def isN : PyData → Bool
  | .none => true
  | _ => false
theorem ev_isN (ha : EvD K ta σ H d) : Ev (tOp rIsN ta (tC .non)) σ H (.bl (isN d)) := fun H1 e Q q =>
  ha H1 e _ fun v H2 e2 hv => by
    have z : decide (v = V.non) = isN d := by cases hv <;> rfl
    show V.non = V.non ∧ Q (.bl (decide (v = V.non))) H2
    rw [z]
    exact ⟨rfl, q H2 e2⟩
theorem ev_notN (ha : EvD K ta σ H d) : Ev (tOp rNotN ta (tC .non)) σ H (.bl (!isN d)) := fun H1 e Q q =>
  ha H1 e _ fun v H2 e2 hv => by
    have z : decide (v = V.non) = isN d := by cases hv <;> rfl
    show V.non = V.non ∧ Q (.bl (!decide (v = V.non))) H2
    rw [z]
    exact ⟨rfl, q H2 e2⟩
theorem ev_chain {r r' : R2} {b c : Bool} (ha : Ev ta σ H x) (hb : Ev tb σ H y) (hr : RV r x y H (.bl b)) (hc : b = true → Ev tc σ H z) (hr' : b = true → RV r' y z H (.bl c)) : Ev (tChain r r' ta tb tc) σ H (.bl (b && c)) := fun H1 e Q q =>
  ha H1 e _ fun H2 e2 => hb H2 (e.trans e2) _ fun H3 e3 => hr H3 ((e.trans e2).trans e3) _ fun H4 e4 => ⟨b, rfl, by
    have E4 := ((e.trans e2).trans e3).trans e4
    have F4 := (e2.trans e3).trans e4
    cases b with
    | true =>
      show tc σ H4 fun w' H5 => r' y w' H5 Q
      exact hc rfl H4 E4 _ fun H5 e5 => hr' rfl H5 (E4.trans e5) Q fun H6 e6 => q H6 ((F4.trans e5).trans e6)
    | false =>
      show Q (.bl false) H4
      exact q H4 F4⟩

/-! ### a def's promise by data -/
/-- the arguments bear ds, R says the answer -/
def spF (K : PySem.W.Frag) (R : List PyData → PyData → Prop) : Sp := fun vs H Q _ => ∃ ds d, R ds d ∧ DpAll K H vs ds ∧ ∀ v H', Ex H H' → Dp K H' v d → Q v H'
theorem ed_call {R : List PyData → PyData → Prop} {E : XK} {tr : TA} (h : EvDs K tr σ H ds) (hr : R ds d) : EvD K (tCall (spF K R) [] E tr) σ H d := fun H1 e Q q =>
  h H1 e _ fun vs H2 e2 hv => ⟨ds, d, hr, by rw [List.append_nil]; exact hv, fun v H3 e3 hd => q v H3 (e2.trans e3) hd⟩
/-- a body that ends with data -/
def ExD (K : PySem.W.Frag) (t : TS) (σ : L2.St) (H : Hp) (d : PyData) : Prop := ∀ (Q : VK), (∀ v H2, Ex H H2 → Dp K H2 v d → Q v H2) → t { nx := fun _ H' => Q .non H', rt := Q } σ H

/-! statements over data -/
variable {D : Ends} {tu tw tz : TS} {g : TG}
theorem q_d {i : Nat} (h : EvD K te σ H d) (k : ∀ v H1, Ex H H1 → Dp K H1 v d → tz D (σ.set i (some v)) H1) : tSeq (tAsg te (gName i)) tz D σ H := h H (Ex.refl H) _ fun v H1 e hd => k v H1 e hd
theorem s_d {i : Nat} (h : EvD K te σ H d) (k : ∀ v H1, Ex H H1 → Dp K H1 v d → D.nx (σ.set i (some v)) H1) : tAsg te (gName i) D σ H := h H (Ex.refl H) _ fun v H1 e hd => k v H1 e hd
theorem q_dl {i : Nat} (h : EvDL K te σ H ds) (k : ∀ p vs H1, H p = none → Ex H H1 → H1 p = some (.lst vs) → DpAll K H1 vs ds → tz D (σ.set i (some (.ref p))) H1) : tSeq (tAsg te (gName i)) tz D σ H := h H (Ex.refl H) _ k
theorem s_rd (h : EvD K te σ H d) (k : ∀ v H1, Ex H H1 → Dp K H1 v d → D.rt v H1) : tRet te D σ H := h H (Ex.refl H) _ fun v H1 e hd => k v H1 e hd
end

/-! ### callable defs -/
structure Dfn (P : Program) (w : World) (K : PySem.W.Frag) (mg : Str → Option Value) (base : Heap) (x : Str) (ps : List Str) (CX : CXT) (k : Nat) (sp : Sp) : Prop where
  ex : ∃ f fd, FnOk P w K mg base CX k f fd ps sp ∧ mg x = some (.ref f) ∧ PySem.W.keepIn K (.ref f) = true ∧ Binds K fd ps []
/-- where a def stands -/
structure At (K : PySem.W.Frag) (mg : Str → Option Value) (x : Str) (st : Stmt) (ps : List Str) : Prop where
  ex : ∃ f fd, Fun K x x st f fd ∧ mg x = some (.ref f) ∧ Binds K fd ps []
section
variable {P : Program} {w : World} {K : PySem.W.Frag} {mg : Str → Option Value} {base : Heap}
theorem At.fin {x : Str} {st : Stmt} {ps : List Str} {CX : CXT} {k : Nat} {sp : Sp} (A : At K mg x st ps) (h : ∀ f fd, Fun K x x st f fd → FnOk P w K mg base CX k f fd ps sp) : Dfn P w K mg base x ps CX k sp := by
  obtain ⟨f, fd, F, g, b⟩ := A.ex
  exact ⟨f, fd, h f fd F, g, F.kp, b⟩
/-- a def that raises nothing, by data -/
theorem At.okD {x : Str} {st : Stmt} {N ps : List Str} {k : Nat} {R : List PyData → PyData → Prop} (A : At K mg x st ps) (S : FnScope N ps (defScope st)) (hl : ∀ ds d, R ds d → ds.length = ps.length)
    (hb : ∀ (f : Addr) (cdv : Value) (A : Around) (outer : List Env) (s : Shared) (H0 : Hp) (E : XK), Room k (A.deeper (envOfC x (defScope st) s.heap.objs.size f cdv)) →
      ∃ t, PSs (cxOf CX0 P w K mg base N x (defScope st) f cdv A outer s H0 E).nox (defBody st) t ∧ ∀ (vs : List V) (H : Hp) (ds : List PyData) (d : PyData), R ds d → DpAll K H vs ds → ExD K t (start N vs) H d) :
    Dfn P w K mg base x ps CX0 (k + 1) (spF K R) := by
  refine A.fin fun f fd F => F.ok S (fun vs H Q E h => ?_) (fun cdv A outer s H vs Q E hr h => ?_)
  · obtain ⟨ds, d, r, hv, _⟩ := h
    rw [dpA_len hv, hl ds d r]
  · obtain ⟨ds, d, r, hv, q⟩ := h
    obtain ⟨t, ht, hx⟩ := hb f cdv A outer s H E hr
    exact ⟨t, ht, hx vs H ds d r hv Q q⟩
theorem Dfn.imp {x : Str} {ps : List Str} {CX : CXT} {j k : Nat} {sp sp' : Sp} (C : Dfn P w K mg base x ps CX j sp) (hj : j ≤ k) (h : ∀ vs H Q E, sp' vs H Q E → sp vs H Q E) : Dfn P w K mg base x ps CX k sp' := by
  obtain ⟨f, fd, F, g, kp, b⟩ := C.ex
  exact ⟨f, fd, (F.mono hj).imp h, g, kp, b⟩
theorem pe_fn {X : Cx} {x : Str} {ps : List Str} {j k : Nat} {sp : Sp} {e : Expr} {es : List Expr} {p pos : Pos} {t : TA} (C : Dfn X.prog X.w X.K X.mg X.base x ps CX0 j sp) (hr : Room k X.A) (hj : j ≤ k) (hg : Gl X x) (ha : PA X (e :: es) t)
    (hdb : (x == ("__debug__" : Str)) = false := by decide) (he : starEach (e :: es) X.env = (false, eval e X.env) :: starEach es X.env := by rfl) (hpl : (backTo pos (starEach es X.env)).any (·.1) = false := by rfl) :
    PE X (.Call (.Name x p) (e :: es) [] pos) (tCall sp [] E0 t) := by
  obtain ⟨f, fd, F, g, kp, b⟩ := C.ex
  exact pe_call F (hr.mono hj) hg g kp b .nil pass0 ha hdb he hpl
end
end KD

set_option Elab.async false
set_option linter.all false
set_option autoImplicit false
set_option maxRecDepth 100000
set_option maxHeartbeats 2000000
/-! Kb: what is walked: a list or a tuple, zip of two or three of them, enumerate of one. -/
namespace KD
open PySem PySem.Spec PyProof.Rows L2 Evl

def SqB (K : PySem.W.Frag) (b : Bool) (H : Hp) (a : Addr) (xs : List V) : Prop := match b with
  | true => SqL K H a xs
  | false => SqT K H a xs
def SrcB (b : Bool) (h : Heap) (a : Addr) (its : Array Value) : Prop := match b with
  | true => h.IsList a its
  | false => h.IsTuple a its
def ItrB (b : Bool) (h : Heap) (it a : Addr) (i : Nat) : Prop := match b with
  | true => h.IsListIter it a i
  | false => h.IsTupleIter it a i
def objB (b : Bool) (a : Addr) : Obj := match b with
  | true => { cls := .type "list_iterator", data := .fields #[.ref a, .int 0 0] }
  | false => { cls := .type "tuple_iterator", data := .fields #[.ref a, .int 0 0] }
theorem sqb_ex {K : PySem.W.Frag} {b : Bool} {H H' : Hp} {a : Addr} {xs : List V} (e : Ex H H') (h : SqB K b H a xs) : SqB K b H' a xs := by
  cases b with
  | true => exact ex_l e h
  | false => exact ex_t e h
theorem itrB_new {b : Bool} {h : Heap} {it a : Addr} (e : h.get? it = some (objB b a)) : ItrB b h it a 0 := by
  cases b with
  | true => exact ⟨_, e, rfl, rfl⟩
  | false => exact ⟨_, e, rfl, rfl⟩
theorem itrB_at {b : Bool} {h h' : Heap} {it a : Addr} {i : Nat} (x : ItrB b h it a i) (k : ∀ o, h.get? it = some o → h'.get? it = some o) : ItrB b h' it a i := by
  cases b with
  | true => exact (show h.IsListIter it a i from x).at k
  | false => exact (show h.IsTupleIter it a i from x).at k
theorem itrB_obj {b : Bool} {h : Heap} {it a : Addr} {i : Nat} (x : ItrB b h it a i) : ∃ o, h.get? it = some o ∧ ∀ v, o.data ≠ .cell v := by
  cases b with
  | true =>
    obtain ⟨o, e, _, d⟩ := (show h.IsListIter it a i from x)
    exact ⟨o, e, fun v q => by rw [d] at q; cases q⟩
  | false =>
    obtain ⟨o, e, _, d⟩ := (show h.IsTupleIter it a i from x)
    exact ⟨o, e, fun v q => by rw [d] at q; cases q⟩
theorem srcB_lt {b : Bool} {h : Heap} {a : Addr} {its : Array Value} (x : SrcB b h a its) : a < h.objs.size := by
  cases b with
  | true =>
    obtain ⟨o, e, _⟩ := (show h.IsList a its from x)
    exact Heap.lt_size e
  | false =>
    obtain ⟨o, e, _⟩ := (show h.IsTuple a its from x)
    exact Heap.lt_size e
theorem drawsB {prog : Program} {w : World} {A : Around} (hh : A.handled = none) (b : Bool) (it a : Addr) (hne : a ≠ it) (its : Array Value) :
    Draws prog w A it [it, a] its.size (fun i v => its[i]? = some v) (fun i h => ItrB b h it a i ∧ SrcB b h a its) := by
  cases b with
  | true => exact Draws.list hh it a hne its
  | false => exact Draws.tuple hh it a hne its
theorem beginsB (b : Bool) (a : Addr) (its : Array Value) : Begins (.ref a) (objB b a) fun h => SrcB b h a its := by
  cases b with
  | true => exact begins_list a its
  | false => exact begins_tuple a its
section
variable {X : Cx} {pins : List (Addr × Obj)} {σ : L2.St} {H : Hp} {s : Shared}
theorem sqb_of {b : Bool} {a : Addr} {xs : List V} (I : Inv X pins σ H s) (h : SqB X.K b H a xs) : ∃ its : List Value, Vals xs its ∧ SrcB b s.heap a its.toArray := by
  cases b with
  | true =>
    obtain ⟨its, r, p, _⟩ := I.list h
    exact ⟨its, r, p.isList⟩
  | false =>
    obtain ⟨its, r, p, _⟩ := I.tuple h
    exact ⟨its, r, p⟩
theorem sqb_inj {b : Bool} {a : Addr} {xs ys : List V} (I : Inv X pins σ H s) (h : SqB X.K b H a xs) (h' : SqB X.K b H a ys) : xs = ys := by
  cases b with
  | true => exact I.list_inj h h'
  | false => exact I.tuple_inj h h'
end

/-! ### zip of two -/
def Itz2 (K : PySem.W.Frag) (b1 b2 : Bool) (a1 a2 : Addr) : It :=
  ⟨fun i H => ∃ (xs ys : List V) (x y : V), SqB K b1 H a1 xs ∧ SqB K b2 H a2 ys ∧ xs[i]? = some x ∧ ys[i]? = some y,
    fun i H v H' => ∃ (T : Addr) (x y : V), v = .ref T ∧ H T = none ∧ H' = upd H T (.tup [x, y]) ∧ (∀ xs, SqB K b1 H a1 xs → xs[i]? = some x) ∧ ∀ ys, SqB K b2 H a2 ys → ys[i]? = some y,
    fun i H => ∃ xs ys : List V, SqB K b1 H a1 xs ∧ SqB K b2 H a2 ys ∧ (xs.length = i ∧ i ≤ ys.length ∨ ys.length = i ∧ i ≤ xs.length)⟩
theorem turn_z2 {P : Program} {w : World} {K : PySem.W.Frag} {elts : List Expr} {kk : Nat} {tpos : Pos} {b1 b2 : Bool} {a1 a2 z TI TO i1 i2 : Addr} (S : ZipSep2 z TI TO i1 i2 [i1, a1] [i2, a2]) (n1 : a1 ≠ i1) (n2 : a2 ≠ i2) :
    Turn P w K (.Tuple elts kk tpos) (Itz2 K b1 b2 a1 a2) [z, TI, TO, i1, i2] z
      (fun i h => IsZip h z TI TO .none ∧ IsTupOf2 h TI (.ref i1) (.ref i2) ∧ (∃ x y, IsTupOf2 h TO x y) ∧ ItrB b1 h i1 a1 i ∧ ItrB b2 h i2 a2 i) where
  mem := List.mem_cons_self
  obj := fun i h st c hc => by
    obtain ⟨hz, hTI, ⟨x, y, hTO⟩, g1, g2⟩ := st
    simp only [List.mem_cons, List.not_mem_nil, or_false] at hc
    rcases hc with rfl | rfl | rfl | rfl | rfl
    · exact ⟨_, hz, fun v q => nomatch q⟩
    · exact ⟨_, hTI, fun v q => nomatch q⟩
    · exact ⟨_, hTO, fun v q => nomatch q⟩
    · exact itrB_obj g1
    · exact itrB_obj g2
  keep := fun i h h' st k => by
    obtain ⟨hz, hTI, ⟨x, y, hTO⟩, g1, g2⟩ := st
    exact ⟨k z (by simp) _ hz, k TI (by simp) _ hTI, ⟨x, y, k TO (by simp) _ hTO⟩, itrB_at g1 fun o q => k i1 (by simp) o q, itrB_at g2 fun o q => k i2 (by simp) o q⟩
  item := by
    intro X eP ew eK hc i pins s σ H E I hf st hg
    subst eP ew eK
    obtain ⟨hz, hTI, ⟨x0, y0, hTO⟩, g1, g2⟩ := st
    obtain ⟨xs, ys, x, y, qx, qy, hx, hy⟩ := hg
    obtain ⟨its, rv, p1⟩ := sqb_of I qx
    obtain ⟨jts, rw', p2⟩ := sqb_of I qy
    have hz1 : z < s.heap.objs.size := Heap.lt_size hz
    have hh : X.A.in1.handled = none := I.ok.hd hc
    have li : i < its.toArray.size := by
      have h1 := (List.getElem?_eq_some_iff.mp hx).1
      have h2 := rv.length
      rw [List.size_toArray]
      omega
    have lj : i < jts.toArray.size := by
      have h1 := (List.getElem?_eq_some_iff.mp hy).1
      have h2 := rw'.length
      rw [List.size_toArray]
      omega
    refine wpAny_pyNext_zipD2_item S (drawsB hh b1 i1 a1 n1 its.toArray) (drawsB hh b2 i2 a2 n2 jts.toArray) hz hTI hTO ⟨g1, p1⟩ ⟨g2, p2⟩ li lj fun u1 u2 h' tk e1 e2 z' TO' d1 d2 hT hsz hk => ?_
    obtain ⟨w1, hw1, r1⟩ := rv.get hx
    obtain ⟨w2, hw2, r2⟩ := rw'.get hy
    have ew1 : u1 = w1 := Option.some.inj (e1.symm.trans (by rw [List.getElem?_toArray]; exact hw1))
    have ew2 : u2 = w2 := Option.some.inj (e2.symm.trans (by rw [List.getElem?_toArray]; exact hw2))
    subst ew1 ew2
    refine ⟨_, rfl, wpAny_letOwnedTupleGo_zip (s := { s with heap := h', toks := tk }) z' fun h'' z'' sb => ?_⟩
    have hT2 : h''.get? s.heap.objs.size = some { cls := .type "tuple", data := .seq #[u1, u2] } := (sb.2 _ (Nat.ne_of_gt hz1)).trans hT
    have new : ObjOk X.prog X.w (upd H s.heap.objs.size (.tup [x, y])) h'' s.heap.objs.size (.tup [x, y]) :=
      ⟨by show 2 ≤ sizeLine; decide, [u1, u2], .cons r1 (.cons r2 .nil), ⟨_, hT2, rfl, _, rfl⟩⟩
    have kk' : ∀ c o, c ∉ [z, TI, TO, i1, i2] → s.heap.get? c = some o → h''.get? c = some o := fun c o hb q => by
      simp only [List.mem_cons, List.not_mem_nil, or_false, not_or] at hb
      exact (sb.2 c hb.1).trans (hk c o hb.1 hb.2.2.1 hb.2.2.2.1 hb.2.2.2.2 q)
    have I1 : Inv X pins σ (upd H s.heap.objs.size (.tup [x, y])) { s with heap := h'', toks := tk } := I.turnedNew (ch := [z, TI, TO, i1, i2]) kk' hf (Nat.le_refl _) new
    refine ⟨.ref s.heap.objs.size, _, I1, rfl, ⟨_, x, y, rfl, I.hok.fresh (Nat.le_refl _), rfl, fun l hl => by rw [sqb_inj I hl qx]; exact hx, fun l hl => by rw [sqb_inj I hl qy]; exact hy⟩, ⟨z'', ?_, ⟨u1, u2, ?_⟩, ?_, ?_⟩, fun c hcm => ?_⟩
    · exact (sb.2 _ S.TIz).trans (hk _ _ S.TIz S.TITO S.TIi1 S.TIi2 hTI)
    · exact (sb.2 _ S.TOz).trans TO'
    · exact itrB_at d1.1 fun o q => (sb.2 _ S.zi1.symm).trans q
    · exact itrB_at d2.1 fun o q => (sb.2 _ S.zi2.symm).trans q
    · have hlt : c < s.heap.objs.size := by
        simp only [List.mem_cons, List.not_mem_nil, or_false] at hcm
        rcases hcm with rfl | rfl | rfl | rfl | rfl
        · exact hz1
        · exact Heap.lt_size hTI
        · exact Heap.lt_size hTO
        · obtain ⟨_, q, _⟩ := itrB_obj g1; exact Heap.lt_size q
        · obtain ⟨_, q, _⟩ := itrB_obj g2; exact Heap.lt_size q
      rw [upd_ne (Nat.ne_of_lt hlt)]
      exact (hf c hcm).1
  done := by
    intro X eP ew eK hc i pins s σ H E I hf st hg
    subst eP ew eK
    obtain ⟨hz, hTI, ⟨x0, y0, hTO⟩, g1, g2⟩ := st
    obtain ⟨xs, ys, qx, qy, he⟩ := hg
    obtain ⟨its, rv, p1⟩ := sqb_of I qx
    obtain ⟨jts, rw', p2⟩ := sqb_of I qy
    have hh : X.A.in1.handled = none := I.ok.hd hc
    have l1 := rv.length
    have l2 := rw'.length
    have s1 : its.toArray.size = its.length := List.size_toArray
    have s2 : jts.toArray.size = jts.length := List.size_toArray
    refine wpAny_pyNext_zipD2_end S (drawsB hh b1 i1 a1 n1 its.toArray) (drawsB hh b2 i2 a2 n2 jts.toArray) hz hTI hTO ⟨g1, p1⟩ ⟨g2, p2⟩ (by omega) (by omega) (by omega) fun h' tk hk => ⟨rfl, ?_⟩
    exact I.turnedL (ch := [z, TI, TO, i1, i2]) (fun c o hb q => by
      simp only [List.mem_cons, List.not_mem_nil, or_false, not_or] at hb
      exact hk c o hb.1 hb.2.2.1 hb.2.2.2.1 hb.2.2.2.2 q) hf
  self := fun A i s Q E st h => wpAny_pyIter_zip st.1 h
def iZ2 (K : PySem.W.Frag) (ta : TA) : TI := fun σ H R => ta σ H fun vs H1 => ∃ (a1 a2 : Addr) (b1 b2 : Bool) (xs ys : List V), vs = [.ref a1, .ref a2] ∧ SqB K b1 H1 a1 xs ∧ SqB K b2 H1 a2 ys ∧ R (Itz2 K b1 b2 a1 a2) H1
theorem pi_z2 {X : Cx} {e e2 : Expr} {ta : TA} {p pos tpos : Pos} {elts : List Expr} {kk : Nat} (hg : Gl X "zip") (hm : X.mg "zip" = none) (ha : PA X [e, e2] ta)
    (hs : starEach [e, e2] X.env = (false, eval e X.env) :: starEach [e2] X.env := by rfl) (hpl : (backTo pos (starEach [e2] X.env)).any (·.1) = false := by rfl) :
    PI X (.Tuple elts kk tpos) (.Call (.Name "zip" p) [e, e2] [] pos) (iZ2 X.K ta) := by
  refine ⟨fun pins s σ H R I h => ?_⟩
  refine Call_ (ld_blt I hg hm PyProof.Rows.boot_zip (PyProof.Rows.callWith_type1 (thn (ha.run pos pins s σ H _ I h) fun us s1 ⟨vs, H1, I1, r1, q1⟩ => ?_) hs hpl))
  obtain ⟨a1, a2, b1, b2, xs, ys, rfl, qx, qy, q⟩ := q1
  obtain ⟨u1, u2, rfl, ru1, ru2⟩ := vals2 r1
  cases (show u1 = Value.ref a1 from ru1)
  cases (show u2 = Value.ref a2 from ru2)
  obtain ⟨its, rv, p1⟩ := sqb_of I1 qx
  obtain ⟨jts, rw', p2⟩ := sqb_of I1 qy
  have l1 := srcB_lt p1
  have l2 := srcB_lt p2
  refine zip_begins2 (beginsB b1 a1 its.toArray) (beginsB b2 a2 jts.toArray) p1 p2 fun h' hz hTI hTO o1 o2 hsz hk => wpAny_pyIter_zip hz ?_
  have I2 : Inv X pins σ H1 { s1 with heap := h' } := I1.kept (t' := s1.toks) hk
  refine ⟨s1.heap.objs.size + 4, [s1.heap.objs.size + 4, s1.heap.objs.size + 2, s1.heap.objs.size + 3, s1.heap.objs.size, s1.heap.objs.size + 1], _, _, H1, rfl, I2,
    turn_z2 (zip_sep2 (fp1 := [a1]) (fp2 := [a2]) (fun b hb => by rw [List.mem_singleton.mp hb]; exact l1) (fun b hb => by rw [List.mem_singleton.mp hb]; exact l2)) (Nat.ne_of_lt l1) (Nat.ne_of_lt (Nat.lt_succ_of_lt l2)),
    ⟨hz, hTI, ⟨_, _, hTO⟩, itrB_new o1, itrB_new o2⟩, fun c hcm => ?_, q⟩
  have hle : s1.heap.objs.size ≤ c := by
    simp only [List.mem_cons, List.not_mem_nil, or_false] at hcm
    rcases hcm with rfl | rfl | rfl | rfl | rfl
    · exact Nat.le_add_right _ _
    · exact Nat.le_add_right _ _
    · exact Nat.le_add_right _ _
    · exact Nat.le_refl _
    · exact Nat.le_add_right _ _
  exact I1.fpOk hle (I1.hok.fresh hle)

/-! ### zip of three -/
def Itz3 (K : PySem.W.Frag) (b1 b2 b3 : Bool) (a1 a2 a3 : Addr) : It :=
  ⟨fun i H => ∃ (xs ys zs : List V) (x y v : V), SqB K b1 H a1 xs ∧ SqB K b2 H a2 ys ∧ SqB K b3 H a3 zs ∧ xs[i]? = some x ∧ ys[i]? = some y ∧ zs[i]? = some v,
    fun i H u H' => ∃ (T : Addr) (x y v : V), u = .ref T ∧ H T = none ∧ H' = upd H T (.tup [x, y, v]) ∧ (∀ xs, SqB K b1 H a1 xs → xs[i]? = some x) ∧ (∀ ys, SqB K b2 H a2 ys → ys[i]? = some y) ∧ ∀ zs, SqB K b3 H a3 zs → zs[i]? = some v,
    fun i H => ∃ xs ys zs : List V, SqB K b1 H a1 xs ∧ SqB K b2 H a2 ys ∧ SqB K b3 H a3 zs ∧ i ≤ xs.length ∧ i ≤ ys.length ∧ i ≤ zs.length ∧ (i = xs.length ∨ i = ys.length ∨ i = zs.length)⟩
theorem turn_z3 {P : Program} {w : World} {K : PySem.W.Frag} {elts : List Expr} {kk : Nat} {tpos : Pos} {b1 b2 b3 : Bool} {a1 a2 a3 z TI TO i1 i2 i3 : Addr} (S : ZipSep3 z TI TO i1 i2 i3 [i1, a1] [i2, a2] [i3, a3]) (n1 : a1 ≠ i1) (n2 : a2 ≠ i2) (n3 : a3 ≠ i3)
    (m1 : i1 ≠ z) (m2 : i2 ≠ z) (m3 : i3 ≠ z) :
    Turn P w K (.Tuple elts kk tpos) (Itz3 K b1 b2 b3 a1 a2 a3) [z, TI, TO, i1, i2, i3] z
      (fun i h => IsZip h z TI TO .none ∧ IsTupOf3 h TI (.ref i1) (.ref i2) (.ref i3) ∧ (∃ x y v, IsTupOf3 h TO x y v) ∧ ItrB b1 h i1 a1 i ∧ ItrB b2 h i2 a2 i ∧ ItrB b3 h i3 a3 i) where
  mem := List.mem_cons_self
  obj := fun i h st c hc => by
    obtain ⟨hz, hTI, ⟨x, y, v, hTO⟩, g1, g2, g3⟩ := st
    simp only [List.mem_cons, List.not_mem_nil, or_false] at hc
    rcases hc with rfl | rfl | rfl | rfl | rfl | rfl
    · exact ⟨_, hz, fun v q => nomatch q⟩
    · exact ⟨_, hTI, fun v q => nomatch q⟩
    · exact ⟨_, hTO, fun v q => nomatch q⟩
    · exact itrB_obj g1
    · exact itrB_obj g2
    · exact itrB_obj g3
  keep := fun i h h' st k => by
    obtain ⟨hz, hTI, ⟨x, y, v, hTO⟩, g1, g2, g3⟩ := st
    exact ⟨k z (by simp) _ hz, k TI (by simp) _ hTI, ⟨x, y, v, k TO (by simp) _ hTO⟩, itrB_at g1 fun o q => k i1 (by simp) o q, itrB_at g2 fun o q => k i2 (by simp) o q, itrB_at g3 fun o q => k i3 (by simp) o q⟩
  item := by
    intro X eP ew eK hc i pins s σ H E I hf st hg
    subst eP ew eK
    obtain ⟨hz, hTI, ⟨x0, y0, v0, hTO⟩, g1, g2, g3⟩ := st
    obtain ⟨xs, ys, zs, x, y, v, qx, qy, qz, hx, hy, hv⟩ := hg
    obtain ⟨its, rv, p1⟩ := sqb_of I qx
    obtain ⟨jts, rw', p2⟩ := sqb_of I qy
    obtain ⟨kts, rz, p3⟩ := sqb_of I qz
    have hz1 : z < s.heap.objs.size := Heap.lt_size hz
    have hh : X.A.in1.handled = none := I.ok.hd hc
    have sz : ∀ {l : List V} {us : List Value} {q : V}, Vals l us → l[i]? = some q → i < us.toArray.size := fun {l us q} r e => by
      have h1 := (List.getElem?_eq_some_iff.mp e).1
      have h2 := r.length
      rw [List.size_toArray]
      omega
    refine wpAny_pyNext_zipD3_item S (drawsB hh b1 i1 a1 n1 its.toArray) (drawsB hh b2 i2 a2 n2 jts.toArray) (drawsB hh b3 i3 a3 n3 kts.toArray) hz hTI hTO ⟨g1, p1⟩ ⟨g2, p2⟩ ⟨g3, p3⟩ (sz rv hx) (sz rw' hy) (sz rz hv)
      fun u1 u2 u3 h' tk e1 e2 e3 z' TO' d1 d2 d3 hT hsz hk => ?_
    obtain ⟨w1, hw1, r1⟩ := rv.get hx
    obtain ⟨w2, hw2, r2⟩ := rw'.get hy
    obtain ⟨w3, hw3, r3⟩ := rz.get hv
    have ew1 : u1 = w1 := Option.some.inj (e1.symm.trans (by rw [List.getElem?_toArray]; exact hw1))
    have ew2 : u2 = w2 := Option.some.inj (e2.symm.trans (by rw [List.getElem?_toArray]; exact hw2))
    have ew3 : u3 = w3 := Option.some.inj (e3.symm.trans (by rw [List.getElem?_toArray]; exact hw3))
    subst ew1 ew2 ew3
    refine ⟨_, rfl, wpAny_letOwnedTupleGo_zip (s := { s with heap := h', toks := tk }) z' fun h'' z'' sb => ?_⟩
    have hT2 : h''.get? s.heap.objs.size = some { cls := .type "tuple", data := .seq #[u1, u2, u3] } := (sb.2 _ (Nat.ne_of_gt hz1)).trans hT
    have new : ObjOk X.prog X.w (upd H s.heap.objs.size (.tup [x, y, v])) h'' s.heap.objs.size (.tup [x, y, v]) :=
      ⟨by show 3 ≤ sizeLine; decide, [u1, u2, u3], .cons r1 (.cons r2 (.cons r3 .nil)), ⟨_, hT2, rfl, _, rfl⟩⟩
    have kk' : ∀ c o, c ∉ [z, TI, TO, i1, i2, i3] → s.heap.get? c = some o → h''.get? c = some o := fun c o hb q => by
      simp only [List.mem_cons, List.not_mem_nil, or_false, not_or] at hb
      exact (sb.2 c hb.1).trans (hk c o hb.1 hb.2.2.1 hb.2.2.2.1 hb.2.2.2.2.1 hb.2.2.2.2.2 q)
    have I1 : Inv X pins σ (upd H s.heap.objs.size (.tup [x, y, v])) { s with heap := h'', toks := tk } := I.turnedNew (ch := [z, TI, TO, i1, i2, i3]) kk' hf (Nat.le_refl _) new
    refine ⟨.ref s.heap.objs.size, _, I1, rfl, ⟨_, x, y, v, rfl, I.hok.fresh (Nat.le_refl _), rfl, fun l hl => by rw [sqb_inj I hl qx]; exact hx, fun l hl => by rw [sqb_inj I hl qy]; exact hy, fun l hl => by rw [sqb_inj I hl qz]; exact hv⟩,
      ⟨z'', ?_, ⟨u1, u2, u3, ?_⟩, ?_, ?_, ?_⟩, fun c hcm => ?_⟩
    · exact (sb.2 _ S.TIz).trans (hk _ _ S.TIz S.TITO S.TIi1 S.TIi2 S.TIi3 hTI)
    · exact (sb.2 _ S.TOz).trans TO'
    · exact itrB_at d1.1 fun o q => (sb.2 _ m1).trans q
    · exact itrB_at d2.1 fun o q => (sb.2 _ m2).trans q
    · exact itrB_at d3.1 fun o q => (sb.2 _ m3).trans q
    · have hlt : c < s.heap.objs.size := by
        simp only [List.mem_cons, List.not_mem_nil, or_false] at hcm
        rcases hcm with rfl | rfl | rfl | rfl | rfl | rfl
        · exact hz1
        · exact Heap.lt_size hTI
        · exact Heap.lt_size hTO
        · obtain ⟨_, q, _⟩ := itrB_obj g1; exact Heap.lt_size q
        · obtain ⟨_, q, _⟩ := itrB_obj g2; exact Heap.lt_size q
        · obtain ⟨_, q, _⟩ := itrB_obj g3; exact Heap.lt_size q
      rw [upd_ne (Nat.ne_of_lt hlt)]
      exact (hf c hcm).1
  done := by
    intro X eP ew eK hc i pins s σ H E I hf st hg
    subst eP ew eK
    obtain ⟨hz, hTI, ⟨x0, y0, v0, hTO⟩, g1, g2, g3⟩ := st
    obtain ⟨xs, ys, zs, qx, qy, qz, le1, le2, le3, he⟩ := hg
    obtain ⟨its, rv, p1⟩ := sqb_of I qx
    obtain ⟨jts, rw', p2⟩ := sqb_of I qy
    obtain ⟨kts, rz, p3⟩ := sqb_of I qz
    have hh : X.A.in1.handled = none := I.ok.hd hc
    have l1 := rv.length
    have l2 := rw'.length
    have l3 := rz.length
    have s1 : its.toArray.size = its.length := List.size_toArray
    have s2 : jts.toArray.size = jts.length := List.size_toArray
    have s3 : kts.toArray.size = kts.length := List.size_toArray
    refine wpAny_pyNext_zipD3_end S (drawsB hh b1 i1 a1 n1 its.toArray) (drawsB hh b2 i2 a2 n2 jts.toArray) (drawsB hh b3 i3 a3 n3 kts.toArray) hz hTI hTO ⟨g1, p1⟩ ⟨g2, p2⟩ ⟨g3, p3⟩ (by omega) (by omega) (by omega) (by omega) fun h' tk hk => ⟨rfl, ?_⟩
    exact I.turnedL (ch := [z, TI, TO, i1, i2, i3]) (fun c o hb q => by
      simp only [List.mem_cons, List.not_mem_nil, or_false, not_or] at hb
      exact hk c o hb.1 hb.2.2.1 hb.2.2.2.1 hb.2.2.2.2.1 hb.2.2.2.2.2 q) hf
  self := fun A i s Q E st h => wpAny_pyIter_zip st.1 h
def iZ3 (K : PySem.W.Frag) (ta : TA) : TI := fun σ H R => ta σ H fun vs H1 => ∃ (a1 a2 a3 : Addr) (b1 b2 b3 : Bool) (xs ys zs : List V), vs = [.ref a1, .ref a2, .ref a3] ∧ SqB K b1 H1 a1 xs ∧ SqB K b2 H1 a2 ys ∧ SqB K b3 H1 a3 zs ∧ R (Itz3 K b1 b2 b3 a1 a2 a3) H1
theorem vals3 {x y z : V} {us : List Value} (r : Vals [x, y, z] us) : ∃ u1 u2 u3, us = [u1, u2, u3] ∧ RelV x u1 ∧ RelV y u2 ∧ RelV z u3 := by
  cases r with
  | cons a t =>
    obtain ⟨u2, u3, rfl, r2, r3⟩ := vals2 t
    exact ⟨_, _, _, rfl, a, r2, r3⟩
theorem pi_z3 {X : Cx} {e e2 e3 : Expr} {ta : TA} {p pos tpos : Pos} {elts : List Expr} {kk : Nat} (hg : Gl X "zip") (hm : X.mg "zip" = none) (ha : PA X [e, e2, e3] ta)
    (hs : starEach [e, e2, e3] X.env = (false, eval e X.env) :: starEach [e2, e3] X.env := by rfl) (hpl : (backTo pos (starEach [e2, e3] X.env)).any (·.1) = false := by rfl) :
    PI X (.Tuple elts kk tpos) (.Call (.Name "zip" p) [e, e2, e3] [] pos) (iZ3 X.K ta) := by
  refine ⟨fun pins s σ H R I h => ?_⟩
  refine Call_ (ld_blt I hg hm PyProof.Rows.boot_zip (PyProof.Rows.callWith_type1 (thn (ha.run pos pins s σ H _ I h) fun us s1 ⟨vs, H1, I1, r1, q1⟩ => ?_) hs hpl))
  obtain ⟨a1, a2, a3, b1, b2, b3, xs, ys, zs, rfl, qx, qy, qz, q⟩ := q1
  obtain ⟨u1, u2, u3, rfl, ru1, ru2, ru3⟩ := vals3 r1
  cases (show u1 = Value.ref a1 from ru1)
  cases (show u2 = Value.ref a2 from ru2)
  cases (show u3 = Value.ref a3 from ru3)
  obtain ⟨its, rv, p1⟩ := sqb_of I1 qx
  obtain ⟨jts, rw', p2⟩ := sqb_of I1 qy
  obtain ⟨kts, rz, p3⟩ := sqb_of I1 qz
  have l1 := srcB_lt p1
  have l2 := srcB_lt p2
  have l3 := srcB_lt p3
  refine zip_begins3 (beginsB b1 a1 its.toArray) (beginsB b2 a2 jts.toArray) (beginsB b3 a3 kts.toArray) p1 p2 p3 fun h' hz hTI hTO o1 o2 o3 hsz hk => wpAny_pyIter_zip hz ?_
  have I2 : Inv X pins σ H1 { s1 with heap := h' } := I1.kept (t' := s1.toks) hk
  have sg : ∀ {a : Addr}, a < s1.heap.objs.size → ∀ b ∈ [a], b < s1.heap.objs.size := fun {a} l b hb => by rw [List.mem_singleton.mp hb]; exact l
  refine ⟨s1.heap.objs.size + 5, [s1.heap.objs.size + 5, s1.heap.objs.size + 3, s1.heap.objs.size + 4, s1.heap.objs.size, s1.heap.objs.size + 1, s1.heap.objs.size + 2], _, _, H1, rfl, I2,
    turn_z3 (zip_sep3 (sg l1) (sg l2) (sg l3)) (Nat.ne_of_lt l1) (Nat.ne_of_lt (Nat.lt_add_right 1 l2)) (Nat.ne_of_lt (Nat.lt_add_right 2 l3)) (Nat.ne_of_lt (Nat.lt_add_of_pos_right (by decide))) (Nat.ne_of_lt (Nat.add_lt_add_left (by decide) _)) (Nat.ne_of_lt (Nat.add_lt_add_left (by decide) _)),
    ⟨hz, hTI, ⟨_, _, _, hTO⟩, itrB_new o1, itrB_new o2, itrB_new o3⟩, fun c hcm => ?_, q⟩
  have hle : s1.heap.objs.size ≤ c := by
    simp only [List.mem_cons, List.not_mem_nil, or_false] at hcm
    rcases hcm with rfl | rfl | rfl | rfl | rfl | rfl
    · exact Nat.le_add_right _ _
    · exact Nat.le_add_right _ _
    · exact Nat.le_add_right _ _
    · exact Nat.le_refl _
    · exact Nat.le_add_right _ _
    · exact Nat.le_add_right _ _
  exact I1.fpOk hle (I1.hok.fresh hle)
end KD

set_option Elab.async false
set_option linter.all false
set_option autoImplicit false
set_option maxRecDepth 100000
set_option maxHeartbeats 4000000
/-! Kc: enumerate of any kind, walks by data, loops and comprehensions by data, a few calls. -/
namespace KD
open PySem PySem.Spec PyProof.Rows L2 Evl

/-! ### enumerate of a list or a tuple -/
theorem meets_enum1 {v : Value} {o : Obj} {G : Heap → Prop} (B : Begins v o G) :
    Meets (Builtin.«enumerate.__new__» ⟨[.type "enumerate", v], []⟩) (fun _ R s => G s.heap ∧
      R (.ok (.ret (.ref (s.heap.push o).objs.size))) { s with heap := (s.heap.push o).push { cls := .type "enumerate", data := .fields #[.none, .bool false, .ref s.heap.objs.size, rawInt 0, .none, .none] } }) :=
  .of_wp fun prog w A R s h => by
    obtain ⟨hp, g, dr, tk, os⟩ := s
    obtain ⟨hG, h⟩ := h
    have hsub := sub_enumerate
    have goes : ∀ {A' : Around} {E : Value → Shared → Prop} {Q : Value → Shared → Prop}, Q (.ref hp.objs.size) ⟨hp.push o, g, dr, tk, os⟩ → wpAny (model prog w) A' (pyIter v) Q E ⟨hp, g, dr, tk, os⟩ :=
      fun q => B.iter prog w _ _ ⟨hp, g, dr, tk, os⟩ _ hG q
    wp_walk using goes
    refine wpAny_stack_any fun st => wpAny_pure ?_
    split
    · rename_i c _ _ _ _ _
      cases (c == Value.type "enumerate") with
      | false =>
        wp_walk using goes
        exact ⟨_, rfl, h⟩
      | true =>
        wp_walk using goes
        exact ⟨_, rfl, h⟩
    · wp_walk using goes
      exact ⟨_, rfl, h⟩
section
variable {prog : Program} {w : World} {A : Around} {E : Value → Shared → Prop} {s : Shared}
theorem enum_beg1 {v : Value} {o : Obj} {G : Heap → Prop} {Q : Value → Shared → Prop} (B : Begins v o G) (hG : G s.heap)
    (h : ∀ h', IsEnum h' (s.heap.objs.size + 1) s.heap.objs.size 0 .none → h'.get? s.heap.objs.size = some o → (∀ b x, s.heap.get? b = some x → h'.get? b = some x) → Q (.ref (s.heap.objs.size + 1)) { s with heap := h' }) :
    wpAny (model prog w) A (call (.type "enumerate") [v]) Q E s := by
  refine callType_new F.called_enumerate (by decide) (F.typeCall_enumerate_1 _) (F.newCall_enumerate_1 _) (fun obj => F.args_object_init_2 obj _) F.entry_enumerate_new (meets_enum1 B) ⟨hG, ?_⟩
  have hz : (s.heap.push o).objs.size = s.heap.objs.size + 1 := Heap.size_push ..
  show _ ∧ _
  rw [hz]
  have he : IsEnum ((s.heap.push o).push { cls := .type "enumerate", data := .fields #[.none, .bool false, .ref s.heap.objs.size, rawInt 0, .none, .none] }) (s.heap.objs.size + 1) s.heap.objs.size 0 .none := by
    have z := Heap.get?_push_size (s.heap.push o) (o := { cls := .type "enumerate", data := .fields #[.none, .bool false, .ref s.heap.objs.size, rawInt 0, .none, .none] }) rfl
    rw [hz] at z
    exact z
  exact ⟨⟨_, he, rfl⟩, h _ he (Heap.get?_push_of_some _ (Heap.get?_push_size _ B.free)) fun b x e => Heap.get?_push_of_some _ (Heap.get?_push_of_some _ e)⟩
end
def ItE (K : PySem.W.Frag) (b : Bool) (a : Addr) : It :=
  ⟨fun i H => ∃ (xs : List V) (x : V), SqB K b H a xs ∧ xs[i]? = some x,
    fun i H v H' => ∃ (T : Addr) (x : V), v = .ref T ∧ H T = none ∧ H' = upd H T (.tup [.int (i : Nat), x]) ∧ ∀ xs, SqB K b H a xs → xs[i]? = some x,
    fun i H => ∃ xs : List V, SqB K b H a xs ∧ xs.length = i⟩
theorem turn_e {P : Program} {w : World} {K : PySem.W.Frag} {elts : List Expr} {kk : Nat} {tpos : Pos} {b : Bool} {a e it : Addr} (n1 : e ≠ it) (n2 : e ≠ a) (n3 : a ≠ it) :
    Turn P w K (.Tuple elts kk tpos) (ItE K b a) [e, it] e (fun i h => (∃ old, IsEnum h e it ((i : Nat) : Int) old) ∧ ItrB b h it a i) where
  mem := List.mem_cons_self
  obj := fun i h st c hc => by
    obtain ⟨⟨old, he⟩, g⟩ := st
    simp only [List.mem_cons, List.not_mem_nil, or_false] at hc
    rcases hc with rfl | rfl
    · exact ⟨_, he, fun v q => nomatch q⟩
    · exact itrB_obj g
  keep := fun i h h' st k => by
    obtain ⟨⟨old, he⟩, g⟩ := st
    exact ⟨⟨old, k e (by simp) _ he⟩, itrB_at g fun o q => k it (by simp) o q⟩
  item := by
    intro X eP ew eK hc i pins s σ H E I hf st hg
    subst eP ew eK
    obtain ⟨⟨old, he⟩, g⟩ := st
    obtain ⟨xs, x, qx, hx⟩ := hg
    obtain ⟨its, rv, p1⟩ := sqb_of I qx
    have he1 : e < s.heap.objs.size := Heap.lt_size he
    have hh : X.A.in1.handled = none := I.ok.hd hc
    have li : i < its.toArray.size := by
      have h1 := (List.getElem?_eq_some_iff.mp hx).1
      have h2 := rv.length
      rw [List.size_toArray]
      omega
    refine wpAny_pyNext_enum_itemC (drawsB hh b it a n3 its.toArray) he ⟨g, p1⟩ li n1 (by simp [n1, n2]) fun u h' tk eu ho d1 hT hsz hk => ?_
    obtain ⟨w1, hw1, r1⟩ := rv.get hx
    have ew1 : u = w1 := Option.some.inj (eu.symm.trans (by rw [List.getElem?_toArray]; exact hw1))
    subst ew1
    refine ⟨_, rfl, wpAny_letOwnedTupleGo_enum (s := { s with heap := h', toks := tk + 1 }) ho fun h'' he' sb => ?_⟩
    have hT2 : h''.get? s.heap.objs.size = some { cls := .type "tuple", data := .seq #[.int i tk, u] } := (sb.2 _ (Nat.ne_of_gt he1)).trans hT
    have new : ObjOk X.prog X.w (upd H s.heap.objs.size (.tup [.int (i : Nat), x])) h'' s.heap.objs.size (.tup [.int (i : Nat), x]) :=
      ⟨by show 2 ≤ sizeLine; decide, [.int i tk, u], .cons ⟨_, rfl⟩ (.cons r1 .nil), ⟨_, hT2, rfl, _, rfl⟩⟩
    have kk' : ∀ c o, c ∉ [e, it] → s.heap.get? c = some o → h''.get? c = some o := fun c o hb q => by
      simp only [List.mem_cons, List.not_mem_nil, or_false, not_or] at hb
      exact (sb.2 c hb.1).trans (hk c o hb.1 hb.2 q)
    have I1 : Inv X pins σ (upd H s.heap.objs.size (.tup [.int (i : Nat), x])) { s with heap := h'', toks := tk + 1 } := I.turnedNew (ch := [e, it]) kk' hf (Nat.le_refl _) new
    refine ⟨.ref s.heap.objs.size, _, I1, rfl, ⟨_, x, rfl, I.hok.fresh (Nat.le_refl _), rfl, fun l hl => by rw [sqb_inj I hl qx]; exact hx⟩, ⟨⟨u, ?_⟩, ?_⟩, fun c hcm => ?_⟩
    · have e1 : ((i + 1 : Nat) : Int) = (i : Int) + 1 := by omega
      rw [e1]
      exact he'
    · exact itrB_at d1.1 fun o q => (sb.2 _ n1.symm).trans q
    · have hlt : c < s.heap.objs.size := by
        simp only [List.mem_cons, List.not_mem_nil, or_false] at hcm
        rcases hcm with rfl | rfl
        · exact he1
        · obtain ⟨_, q, _⟩ := itrB_obj g; exact Heap.lt_size q
      rw [upd_ne (Nat.ne_of_lt hlt)]
      exact (hf c hcm).1
  done := by
    intro X eP ew eK hc i pins s σ H E I hf st hg
    subst eP ew eK
    obtain ⟨⟨old, he⟩, g⟩ := st
    obtain ⟨xs, qx, hx⟩ := hg
    obtain ⟨its, rv, p1⟩ := sqb_of I qx
    have hh : X.A.in1.handled = none := I.ok.hd hc
    have l1 := rv.length
    have hi : i = its.toArray.size := by rw [List.size_toArray]; omega
    refine wpAny_pyNext_enum_endD (drawsB hh b it a n3 its.toArray) he (show ItrB b s.heap it a its.toArray.size ∧ SrcB b s.heap a its.toArray by rw [← hi]; exact ⟨g, p1⟩) fun h' hx' => ⟨rfl, ?_⟩
    exact I.turnedL (t' := s.toks) (ch := [e, it]) (fun c o hb q => by
      simp only [List.mem_cons, List.not_mem_nil, or_false, not_or] at hb
      exact hx' c o hb.2 q) hf
  self := fun A i s Q E st h => let ⟨⟨_, he⟩, _⟩ := st; wpAny_pyIter_enum he h
def iE (K : PySem.W.Frag) (ta : TA) : TI := fun σ H R => ta σ H fun vs H1 => ∃ (a : Addr) (b : Bool) (xs : List V), vs = [.ref a] ∧ SqB K b H1 a xs ∧ R (ItE K b a) H1
theorem pi_e {X : Cx} {e : Expr} {ta : TA} {p pos tpos : Pos} {elts : List Expr} {kk : Nat} (hg : Gl X "enumerate") (hm : X.mg "enumerate" = none) (ha : PA X [e] ta) (hs : starEach [e] X.env = [(false, eval e X.env)] := by rfl) :
    PI X (.Tuple elts kk tpos) (.Call (.Name "enumerate" p) [e] [] pos) (iE X.K ta) := by
  refine ⟨fun pins s σ H R I h => ?_⟩
  refine Call_ (ld_blt I hg hm boot_enumerate (PyProof.Rows.callWith_type1 (thn (ha.run pos pins s σ H _ I h) fun us s1 ⟨vs, H1, I1, r1, q1⟩ => ?_) hs rfl))
  obtain ⟨a, b, xs, rfl, qx, q⟩ := q1
  obtain ⟨u, rfl, ru⟩ := vals1 r1
  cases (show u = Value.ref a from ru)
  obtain ⟨its, rv, p1⟩ := sqb_of I1 qx
  have l1 := srcB_lt p1
  refine enum_beg1 (beginsB b a its.toArray) p1 fun h' he o1 hk => wpAny_pyIter_enum he ?_
  have I2 : Inv X pins σ H1 { s1 with heap := h' } := I1.kept (t' := s1.toks) hk
  refine ⟨s1.heap.objs.size + 1, [s1.heap.objs.size + 1, s1.heap.objs.size], _, _, H1, rfl, I2, turn_e (Nat.succ_ne_self _) (Nat.ne_of_gt (Nat.lt_succ_of_lt l1)) (Nat.ne_of_lt l1), ⟨⟨.none, he⟩, itrB_new o1⟩, fun c hcm => ?_, q⟩
  have hle : s1.heap.objs.size ≤ c := by
    simp only [List.mem_cons, List.not_mem_nil, or_false] at hcm
    rcases hcm with rfl | rfl
    · exact Nat.le_add_right _ _
    · exact Nat.le_refl _
  exact I1.fpOk hle (I1.hok.fresh hle)

/-! ### a list or a tuple, walked -/
def iAny (K : PySem.W.Frag) (tl : TE) : TI := fun σ H R => tl σ H fun x H1 => ∃ a, x = .ref a ∧ ((∃ xs, SqL K H1 a xs ∧ R (Itl K a) H1) ∨ ∃ xs, SqT K H1 a xs ∧ R (Itt K a) H1)
theorem pi_any {X : Cx} {tg l : Expr} {tl : TE} (hl : PE X l tl) : PI X tg l (iAny X.K tl) := by
  refine ⟨fun pins s σ H R I h => ?_⟩
  refine thn (hl.run pins s σ H _ I h) fun v s1 ⟨x, H1, I1, r1, a, e, q⟩ => ?_
  subst e
  cases (show v = Value.ref a from r1)
  rcases q with ⟨xs, hq, q⟩ | ⟨xs, hq, q⟩
  · obtain ⟨its, rv, p, hz⟩ := I1.list hq
    refine wpAny_pyIter_list p.isList ?_
    refine ⟨s1.heap.objs.size, [s1.heap.objs.size], _, _, H1, rfl, I1.kept (t' := s1.toks) fun b o e => Heap.get?_push_of_some _ e, turn_list a _, ⟨_, Heap.get?_push_size _ rfl, rfl, rfl⟩, fun b hb => ?_, q⟩
    rw [List.mem_singleton.mp hb]
    exact I1.fpOk (Nat.le_refl _) I1.fresh
  · obtain ⟨its, rv, p, hz⟩ := I1.tuple hq
    refine wpAny_pyIter_tuple (show s1.heap.IsTuple a its.toArray from p) ?_
    refine ⟨s1.heap.objs.size, [s1.heap.objs.size], _, _, H1, rfl, I1.kept (t' := s1.toks) fun b o e => Heap.get?_push_of_some _ e, turn_tuple a _, ⟨_, Heap.get?_push_size _ rfl, rfl, rfl⟩, fun b hb => ?_, q⟩
    rw [List.mem_singleton.mp hb]
    exact I1.fpOk (Nat.le_refl _) I1.fresh

/-! ### what an iterator gives, as data, wherever S holds -/
def ItP (K : PySem.W.Frag) (S : Hp → Prop) (J : It) (ds : List PyData) : Prop := ∀ H, S H → ∀ i, (i = ds.length → J.stop i H) ∧ ∀ d, ds[i]? = some d → J.go i H ∧ ∀ x H', J.yld i H x H' → Ex H H' ∧ Dp K H' x d
section
variable {K : PySem.W.Frag} {S : Hp → Prop} {a : Addr} {xs : List V} {ds es fs : List PyData}
theorem itp_l (h : ∀ H, S H → SqL K H a xs ∧ DpAll K H xs ds) : ItP K S (Itl K a) ds := fun H hS i => by
  obtain ⟨h1, h2⟩ := h H hS
  refine ⟨fun e => ⟨xs, h1, by rw [dpA_len h2, e]; exact Nat.le_refl _⟩, fun d hd => ?_⟩
  obtain ⟨v, hv, hdv⟩ := dpA_get h2 hd
  refine ⟨⟨xs, v, h1, hv⟩, fun x H' y => ?_⟩
  obtain ⟨rfl, y⟩ := y
  have e : v = x := Option.some.inj (hv.symm.trans (y xs h1))
  subst e
  exact ⟨Ex.refl _, hdv⟩
theorem itp_t (h : ∀ H, S H → SqT K H a xs ∧ DpAll K H xs ds) : ItP K S (Itt K a) ds := fun H hS i => by
  obtain ⟨h1, h2⟩ := h H hS
  refine ⟨fun e => ⟨xs, h1, by rw [dpA_len h2, e]; exact Nat.le_refl _⟩, fun d hd => ?_⟩
  obtain ⟨v, hv, hdv⟩ := dpA_get h2 hd
  refine ⟨⟨xs, v, h1, hv⟩, fun x H' y => ?_⟩
  obtain ⟨rfl, y⟩ := y
  have e : v = x := Option.some.inj (hv.symm.trans (y xs h1))
  subst e
  exact ⟨Ex.refl _, hdv⟩
theorem itp_r {lo : Int} {n : Nat} : ItP K S (Itr lo n) ((List.range n).map fun i => .int (lo + (i : Nat))) := fun H hS i => by
  refine ⟨fun e => ?_, fun d hd => ?_⟩
  · rw [List.length_map, List.length_range] at e
    exact Nat.le_of_eq e.symm
  · rw [List.getElem?_map] at hd
    by_cases hi : i < n
    · rw [List.getElem?_range hi] at hd
      have e := Option.some.inj hd
      subst e
      refine ⟨hi, fun x H' y => ?_⟩
      obtain ⟨rfl, rfl⟩ := y
      exact ⟨Ex.refl _, .int _⟩
    · rw [List.getElem?_eq_none (by rw [List.length_range]; omega)] at hd
      cases hd
theorem itp_e {b : Bool} (h : ∀ H, S H → SqB K b H a xs ∧ DpAll K H xs ds) : ItP K S (ItE K b a) (ds.mapIdx fun i d => .tuple [.int (i : Nat), d]) := fun H hS i => by
  obtain ⟨h1, h2⟩ := h H hS
  refine ⟨fun e => ⟨xs, h1, by rw [dpA_len h2, e, List.length_mapIdx]⟩, fun d hd => ?_⟩
  rw [List.getElem?_mapIdx] at hd
  cases q : ds[i]? with
  | none => rw [q] at hd; cases hd
  | some d0 =>
    rw [q] at hd
    have e := Option.some.inj hd
    subst e
    obtain ⟨v, hv, hdv⟩ := dpA_get h2 q
    refine ⟨⟨xs, v, h1, hv⟩, fun x H' y => ?_⟩
    obtain ⟨T, x', rfl, nT, rfl, f⟩ := y
    have e : v = x' := Option.some.inj (hv.symm.trans (f xs h1))
    subst e
    exact ⟨Ex.new nT, .tup (st_of upd_same) (.cons (.int _) (dpA_one (dpe hdv (Ex.new nT))))⟩
theorem itp_z2 {b1 b2 : Bool} {a' : Addr} {ys : List V} (h : ∀ H, S H → SqB K b1 H a xs ∧ DpAll K H xs ds ∧ SqB K b2 H a' ys ∧ DpAll K H ys es) : ItP K S (Itz2 K b1 b2 a a') (List.zipWith (fun d e => .tuple [d, e]) ds es) := fun H hS i => by
  obtain ⟨h1, h2, h3, h4⟩ := h H hS
  have l1 := dpA_len h2
  have l2 := dpA_len h4
  refine ⟨fun e => ⟨xs, ys, h1, h3, ?_⟩, fun d hd => ?_⟩
  · rw [List.length_zipWith] at e
    omega
  · rw [List.getElem?_zipWith] at hd
    cases q1 : ds[i]? with
    | none => rw [q1] at hd; cases hd
    | some d1 =>
      cases q2 : es[i]? with
      | none => rw [q1, q2] at hd; cases hd
      | some d2 =>
        rw [q1, q2] at hd
        have e := Option.some.inj hd
        subst e
        obtain ⟨v, hv, hdv⟩ := dpA_get h2 q1
        obtain ⟨u, hu, hdu⟩ := dpA_get h4 q2
        refine ⟨⟨xs, ys, v, u, h1, h3, hv, hu⟩, fun x H' y => ?_⟩
        obtain ⟨T, x', y', rfl, nT, rfl, f1, f2⟩ := y
        have e1 : v = x' := Option.some.inj (hv.symm.trans (f1 xs h1))
        have e2 : u = y' := Option.some.inj (hu.symm.trans (f2 ys h3))
        subst e1 e2
        exact ⟨Ex.new nT, .tup (st_of upd_same) (.cons (dpe hdv (Ex.new nT)) (dpA_one (dpe hdu (Ex.new nT))))⟩
/-- the three lists have one length -/
theorem itp_z3 {b1 b2 b3 : Bool} {a' a'' : Addr} {ys zs : List V} (hl : ds.length = es.length ∧ es.length = fs.length) (h : ∀ H, S H → (SqB K b1 H a xs ∧ DpAll K H xs ds) ∧ (SqB K b2 H a' ys ∧ DpAll K H ys es) ∧ SqB K b3 H a'' zs ∧ DpAll K H zs fs) :
    ItP K S (Itz3 K b1 b2 b3 a a' a'') (List.zipWith (fun d (q : PyData × PyData) => .tuple [d, q.1, q.2]) ds (es.zip fs)) := fun H hS i => by
  obtain ⟨⟨h1, h2⟩, ⟨h3, h4⟩, h5, h6⟩ := h H hS
  have l1 := dpA_len h2
  have l2 := dpA_len h4
  have l3 := dpA_len h6
  refine ⟨fun e => ⟨xs, ys, zs, h1, h3, h5, ?_⟩, fun d hd => ?_⟩
  · rw [List.length_zipWith, List.length_zip] at e
    omega
  · rw [List.getElem?_zipWith] at hd
    cases q1 : ds[i]? with
    | none => rw [q1] at hd; cases hd
    | some d1 =>
      cases q2 : (es.zip fs)[i]? with
      | none => rw [q1, q2] at hd; cases hd
      | some q =>
        obtain ⟨d2, d3⟩ := q
        rw [q1, q2] at hd
        have e := Option.some.inj hd
        subst e
        obtain ⟨g2, g3⟩ := List.getElem?_zip_eq_some.mp q2
        obtain ⟨v, hv, hdv⟩ := dpA_get h2 q1
        obtain ⟨u, hu, hdu⟩ := dpA_get h4 g2
        obtain ⟨t, ht, hdt⟩ := dpA_get h6 g3
        refine ⟨⟨xs, ys, zs, v, u, t, h1, h3, h5, hv, hu, ht⟩, fun x H' y => ?_⟩
        obtain ⟨T, x', y', z', rfl, nT, rfl, f1, f2, f3⟩ := y
        have e1 : v = x' := Option.some.inj (hv.symm.trans (f1 xs h1))
        have e2 : u = y' := Option.some.inj (hu.symm.trans (f2 ys h3))
        have e3 : t = z' := Option.some.inj (ht.symm.trans (f3 zs h5))
        subst e1 e2 e3
        exact ⟨Ex.new nT, .tup (st_of upd_same) (.cons (dpe hdv (Ex.new nT)) (.cons (dpe hdu (Ex.new nT)) (dpA_one (dpe hdt (Ex.new nT)))))⟩
end

/-! ### a walk's making, as data -/
def EvI (K : PySem.W.Frag) (wi : TI) (σ : L2.St) (H : Hp) (ds : List PyData) : Prop := ∀ H1, Ex H H1 → ∀ R : It → Hp → Prop, (∀ J H2, Ex H1 H2 → ItP K (Ex H2) J ds → R J H2) → wi σ H1 R
section
variable {K : PySem.W.Frag} {σ : L2.St} {H : Hp} {ta tb te : TE} {t : TT} {ds es fs : List PyData}
theorem sqb_l {H : Hp} {a : Addr} {xs : List V} (h : SqL K H a xs) : SqB K true H a xs := h
theorem sqb_t {H : Hp} {a : Addr} {xs : List V} (h : SqT K H a xs) : SqB K false H a xs := h
/-- data that is walked -/
def Sq : PyData → Option (List PyData)
  | .list ds => some ds
  | .tuple ds => some ds
  | _ => none
theorem dp_sq {H : Hp} {v : V} {d : PyData} (h : Dp K H v d) (hs : Sq d = some ds) : ∃ a b xs, v = .ref a ∧ SqB K b H a xs ∧ DpAll K H xs ds := by
  cases h with
  | lst h1 h2 => cases hs; exact ⟨_, true, _, rfl, h1, h2⟩
  | tup h1 h2 => cases hs; exact ⟨_, false, _, rfl, h1, h2⟩
  | _ => cases hs
theorem ei_any {d : PyData} (h : EvD K ta σ H d) (hs : Sq d = some ds) : EvI K (iAny K ta) σ H ds := fun H1 e R k =>
  h H1 e _ fun v H2 e2 hv => by
    obtain ⟨a, b, xs, rfl, h1, h2⟩ := dp_sq hv hs
    refine ⟨a, rfl, ?_⟩
    cases b with
    | true => exact .inl ⟨xs, h1, k _ H2 e2 (itp_l fun H3 e3 => ⟨ex_l e3 h1, dpeA h2 e3⟩)⟩
    | false => exact .inr ⟨xs, h1, k _ H2 e2 (itp_t fun H3 e3 => ⟨ex_t e3 h1, dpeA h2 e3⟩)⟩
theorem ei_L (h : EvD K ta σ H (.list ds)) : EvI K (iAny K ta) σ H ds := ei_any h rfl
theorem ei_T (h : EvD K ta σ H (.tuple ds)) : EvI K (iAny K ta) σ H ds := ei_any h rfl
theorem ei_r1 {n : Int} (h : Ev ta σ H (.int n)) (hn : -100000 ≤ n ∧ n ≤ 100000) : EvI K (iRng1 (tCons ta tNil)) σ H ((List.range n.toNat).map fun i => .int (0 + (i : Nat))) := fun H1 e R k =>
  h H1 e _ fun H2 e2 => ⟨n, rfl, by omega, by omega, k _ H2 e2 itp_r⟩
theorem ei_r2 {lo n : Int} (h : Ev ta σ H (.int lo)) (h' : Ev tb σ H (.int n)) (hl : -100000 ≤ lo ∧ lo ≤ 100000) (hn : -100000 ≤ n ∧ n ≤ 100000) : EvI K (iRng2 (tCons ta (tCons tb tNil))) σ H ((List.range (n - lo).toNat).map fun i => .int (lo + (i : Nat))) := fun H1 e R k =>
  h H1 e _ fun H2 e2 => h' H2 (e.trans e2) _ fun H3 e3 => ⟨lo, n, rfl, ⟨by omega, by omega, by omega, by omega⟩, k _ H3 (e2.trans e3) itp_r⟩
theorem ei_e {d : PyData} (h : EvD K ta σ H d) (hs : Sq d = some ds) : EvI K (iE K (tCons ta tNil)) σ H (ds.mapIdx fun i d => .tuple [.int (i : Nat), d]) := fun H1 e R k =>
  h H1 e _ fun v H2 e2 hv => by
    obtain ⟨a, b, xs, rfl, h1, h2⟩ := dp_sq hv hs
    exact ⟨a, b, xs, rfl, h1, k _ H2 e2 (itp_e fun H3 e3 => ⟨sqb_ex e3 h1, dpeA h2 e3⟩)⟩
theorem ei_z2 {d d' : PyData} (h : EvD K ta σ H d) (h' : EvD K tb σ H d') (hs : Sq d = some ds) (hs' : Sq d' = some es) : EvI K (iZ2 K (tCons ta (tCons tb tNil))) σ H (List.zipWith (fun d e => .tuple [d, e]) ds es) := fun H1 e R k =>
  h H1 e _ fun v H2 e2 hv => h' H2 (e.trans e2) _ fun u H3 e3 hu => by
    obtain ⟨a, b, xs, rfl, h1, h2⟩ := dp_sq (dpe hv e3) hs
    obtain ⟨a', b', ys, rfl, h3, h4⟩ := dp_sq hu hs'
    exact ⟨a, a', b, b', xs, ys, rfl, h1, h3, k _ H3 (e2.trans e3) (itp_z2 fun H4 e4 => ⟨sqb_ex e4 h1, dpeA h2 e4, sqb_ex e4 h3, dpeA h4 e4⟩)⟩
theorem ei_z3 {tc : TE} {d d' d'' : PyData} (h : EvD K ta σ H d) (h' : EvD K tb σ H d') (h'' : EvD K tc σ H d'') (hs : Sq d = some ds) (hs' : Sq d' = some es) (hs'' : Sq d'' = some fs) (hl : ds.length = es.length ∧ es.length = fs.length) :
    EvI K (iZ3 K (tCons ta (tCons tb (tCons tc tNil)))) σ H (List.zipWith (fun d (q : PyData × PyData) => .tuple [d, q.1, q.2]) ds (es.zip fs)) := fun H1 e R k =>
  h H1 e _ fun v H2 e2 hv => h' H2 (e.trans e2) _ fun u H3 e3 hu => h'' H3 ((e.trans e2).trans e3) _ fun t H4 e4 ht => by
    obtain ⟨a, b, xs, rfl, h1, h2⟩ := dp_sq (dpe hv (e3.trans e4)) hs
    obtain ⟨a', b', ys, rfl, h3, h4⟩ := dp_sq (dpe hu e4) hs'
    obtain ⟨a'', b'', zs, rfl, h5, h6⟩ := dp_sq ht hs''
    exact ⟨a, a', a'', b, b', b'', xs, ys, zs, rfl, h1, h3, h5, k _ H4 ((e2.trans e3).trans e4) (itp_z3 hl fun H5 e5 => ⟨⟨sqb_ex e5 h1, dpeA h2 e5⟩, ⟨sqb_ex e5 h3, dpeA h4 e5⟩, sqb_ex e5 h5, dpeA h6 e5⟩)⟩

/-! ### loops -/
/-- the invariant's shape for a loop over data -/
theorem loop_by {S : Hp → Prop} {J : It} {g : TG} {tb : TS} {D : Ends} (hJ : ItP K S J ds) (Pv : Nat → L2.St → Hp → Prop) (h0 : Pv 0 σ H) (hS : ∀ i σ H, Pv i σ H → S H)
    (hs : ∀ i d σ H x H', ds[i]? = some d → Pv i σ H → Ex H H' → Dp K H' x d → g x σ H' fun σ2 H2 => tb { D with nx := Pv (i + 1), ct := Pv (i + 1), bk := D.nx } σ2 H2) (hd : ∀ σ H, Pv ds.length σ H → D.nx σ H) :
    ∃ W : Nat → Nat → L2.St → Hp → Prop, (∃ m, W 0 m σ H) ∧ ∀ i m σ H, W i m σ H →
      (J.stop i H ∧ D.nx σ H) ∨ (J.go i H ∧ ∃ N : L2.St → Hp → Prop, (∀ σ' H', N σ' H' → ∃ m', m' < m ∧ W (i + 1) m' σ' H') ∧ ∀ x H', J.yld i H x H' → g x σ H' fun σ2 H2 => tb { D with nx := N, ct := N, bk := D.nx } σ2 H2) := by
  refine ⟨fun i m σ H => i + m = ds.length ∧ Pv i σ H, ⟨ds.length, Nat.zero_add _, h0⟩, fun i m σ H hw => ?_⟩
  obtain ⟨em, p⟩ := hw
  have q := hJ H (hS i σ H p) i
  cases m with
  | zero =>
    have e : i = ds.length := em
    refine .inl ⟨q.1 e, hd σ H ?_⟩
    rw [← e]
    exact p
  | succ m =>
    have hlt : i < ds.length := by omega
    have hd' := List.getElem?_eq_getElem hlt
    obtain ⟨hgo, hy⟩ := q.2 _ hd'
    refine .inr ⟨hgo, Pv (i + 1), fun σ' H' p' => ⟨m, Nat.lt_succ_self _, by omega, p'⟩, fun x H' y => ?_⟩
    obtain ⟨e1, d1⟩ := hy x H' y
    exact hs i _ σ H x H' hd' p e1 d1

/-! ### comprehensions: o tells what each turn gives (none: it is left out) -/
/-- the tuples of a heap -/
def tpart (H : Hp) : Hp := fun a => match H a with
  | some (.tup xs) => some (.tup xs)
  | some (.frz o u) => some (.frz o u)
  | _ => none
theorem tpart_ex {H : Hp} : Ex (tpart H) H := fun a o h => by
  unfold tpart at h
  cases q : H a with
  | none => rw [q] at h; cases h
  | some u =>
    rw [q] at h
    cases u <;> first | (cases h; rfl) | cases h
theorem tpart_tx {H : Hp} : Tx H (tpart H) := fun a xs h => by
  rcases h with h | ⟨o, h⟩
  · refine .inl ?_
    unfold tpart
    rw [h]
  · refine .inr ⟨o, ?_⟩
    unfold tpart
    rw [h]
theorem tpart_lst {H : Hp} {p : Addr} {us : List V} (h : H p = some (.lst us)) : tpart H p = none := by
  unfold tpart
  rw [h]
/-- evaluates to data that stands apart from the lists made since Hb -/
def EvX (K : PySem.W.Frag) (te : TE) (σ : L2.St) (Hb H : Hp) (d : PyData) : Prop := ∀ H1, Ex H H1 → ∀ Q : VK,
  (∀ v H2 B, Ex H1 H2 → Ex B H2 → (∀ p us, Hb p = none → H1 p = some (.lst us) → B p = none) → Dp K B v d → Q v H2) → te σ H1 Q
theorem evx_flat {Hb : Hp} {d : PyData} (h : EvD K te σ H d) (f : flat d = true) : EvX K te σ Hb H d := fun H1 e _ q =>
  h H1 e _ fun v H2 e2 hv => q v H2 (tpart H2) e2 tpart_ex (fun p us _ hp => tpart_lst (e2 p _ hp)) (dp_tx tpart_tx d v f hv)
def CwD (K : PySem.W.Frag) (H : Hp) (o : List (Option PyData)) (Dl : Addr) (i : Nat) (H' : Hp) : Prop := H Dl = none ∧ Ex H H' ∧ ∃ vs, H' Dl = some (.lst vs) ∧ ∃ B, B Dl = none ∧ Ex B H' ∧ DpAll K B vs ((o.take i).filterMap id)
theorem take_fmN {o : List (Option PyData)} {i : Nat} (h : o[i]? = some none) : (o.take (i + 1)).filterMap id = (o.take i).filterMap id := by
  rw [List.take_add_one, h, List.filterMap_append]
  exact List.append_nil _
theorem take_fmS {o : List (Option PyData)} {i : Nat} {d : PyData} (h : o[i]? = some (some d)) : (o.take (i + 1)).filterMap id = (o.take i).filterMap id ++ [d] := by
  rw [List.take_add_one, h, List.filterMap_append]
  rfl
/-- a heap without one address -/
def del (H : Hp) (p : Addr) : Hp := fun a => if a = p then none else H a
theorem del_self {H : Hp} {p : Addr} : del H p p = none := if_pos rfl
theorem del_ex {H : Hp} {p : Addr} : Ex (del H p) H := fun a o h => by
  unfold del at h
  by_cases e : a = p
  · rw [if_pos e] at h; cases h
  · rw [if_neg e] at h; exact h
theorem ex_del {H H' : Hp} {p : Addr} (e : Ex H H') (n : H p = none) : Ex H (del H' p) := fun a o h => by
  unfold del
  rw [if_neg (ne_of_none h n)]
  exact e a o h
/-- over data that is walked; each turn is shown at the heap ahead of the comprehension, grown -/
theorem edl_lcX {wi : TI} {g : TG} {vs : List Nat} {o : List (Option PyData)} (h : EvI K wi σ H ds) (hz : ds.length ≤ 40000) (ho : o.length = ds.length)
    (ht : ∀ (i : Nat) d od, ds[i]? = some d → o[i]? = some od → ∀ x H1, Ex H H1 → Dp K H1 x d → ∀ Q : L2.St → Hp → Prop,
      (∀ σ2, wipe σ2 vs = wipe σ vs → EvT t σ2 H1 od.isSome → (∀ d', od = some d' → EvX K te σ2 H H1 d') → Q σ2 H1) → g x (wipe σ vs) H1 Q) : EvDL K (tLc wi g t te vs) σ H (o.filterMap id) := fun H0 e Q q =>
  h H0 e _ fun J H1 e1 hJ Dl hD => by
    have nD : H Dl = none := fresh_back (e.trans e1) hD
    have eH1 : Ex H H1 := e.trans e1
    refine ⟨fun i m H' => i + m = ds.length ∧ CwD K H1 o Dl i H', ⟨ds.length, Nat.zero_add _, hD, Ex.new hD, [], upd_same, H1, hD, Ex.new hD, .nil⟩, fun i m H' hw => ?_⟩
    obtain ⟨em, c1, c2, us, c3, B, c4, c5, c6⟩ := hw
    have st := hJ H' c2 i
    cases m with
    | zero =>
      have ei : i = ds.length := em
      have et : o.take i = o := List.take_of_length_le (by rw [ho, ei]; exact Nat.le_refl _)
      rw [et] at c6
      exact .inl ⟨st.1 ei, q Dl us H' (fresh_back e1 hD) (e1.trans c2) c3 (dpeA c6 c5)⟩
    | succ m =>
      have hlt : i < ds.length := by omega
      have hd := List.getElem?_eq_getElem hlt
      obtain ⟨od, hod⟩ : ∃ od, o[i]? = some od := ⟨_, List.getElem?_eq_getElem (by omega)⟩
      obtain ⟨hgo, hy⟩ := st.2 _ hd
      refine .inr ⟨hgo, fun H'' => CwD K H1 o Dl (i + 1) H'', fun H'' c => ⟨m, Nat.lt_succ_self _, by omega, c⟩, fun x H2 y => ?_⟩
      obtain ⟨ey, dy⟩ := hy x H2 y
      have eH2 : Ex H H2 := (eH1.trans c2).trans ey
      refine ht i _ _ hd hod x H2 eH2 dy _ fun σ2 hw hT hE => ⟨hw, hT H2 (Ex.refl _) _ fun H3 e3 => ?_⟩
      have lenf : ((o.take i).filterMap id).length ≤ 40000 := Nat.le_trans (List.length_filterMap_le _ _) (by rw [List.length_take]; omega)
      cases od with
      | none =>
        show CwD K H1 o Dl (i + 1) H3
        refine ⟨c1, (c2.trans ey).trans e3, us, e3 Dl _ (ey Dl _ c3), B, c4, (c5.trans ey).trans e3, ?_⟩
        rw [take_fmN hod]
        exact c6
      | some d' =>
        show te σ2 H3 fun y H4 => ∃ acc, H4 Dl = some (.lst acc) ∧ acc.length < sizeLine ∧ CwD K H1 o Dl (i + 1) (upd H4 Dl (.lst (acc ++ [y])))
        have h3 : H3 Dl = some (.lst us) := e3 Dl _ (ey Dl _ c3)
        refine hE d' rfl H3 e3 _ fun v H4 B' e4 eB' fB dv => ?_
        have h4 : H4 Dl = some (.lst us) := e4 Dl _ h3
        have eB : Ex B (del H4 Dl) := ex_del (((c5.trans ey).trans e3).trans e4) c4
        refine ⟨us, h4, sz_lt (by rw [dpA_len c6]; omega), c1, Ex.mut (((c2.trans ey).trans e3).trans e4) c1, us ++ [v], upd_same, del H4 Dl, del_self, Ex.mut del_ex del_self, ?_⟩
        rw [take_fmS hod]
        exact dpA_app (dpeA c6 eB) (dpA_one (dpe dv (ex_del eB' (fB Dl us nD h3))))

/-- a target of one name -/
theorem edl_lc1 {α : Type} {wi : TI} {j : Nat} {vs : List Nat} {xs : List α} {f : α → PyData} {o : α → Option PyData} (h : EvI K wi σ H (xs.map f)) (hz : xs.length ≤ 40000) (hw : ∀ x, wipe ((wipe σ vs).set j (some x)) vs = wipe σ vs)
    (hx : ∀ a, a ∈ xs → ∀ x H1, Ex H H1 → Dp K H1 x (f a) → EvT t ((wipe σ vs).set j (some x)) H1 (o a).isSome ∧ ∀ d', o a = some d' → EvD K te ((wipe σ vs).set j (some x)) H1 d' ∧ flat d' = true) : EvDL K (tLc wi (gName j) t te vs) σ H (xs.filterMap o) := by
  have z := edl_lcX (K := K) (σ := σ) (H := H) (te := te) (t := t) (ds := xs.map f) (g := gName j) (vs := vs) (o := xs.map o) h (by rw [List.length_map]; exact hz) (by rw [List.length_map, List.length_map]) (fun i d od hd hod x H1 e hv Q k => by
    rw [List.getElem?_map] at hd hod
    cases q : xs[i]? with
    | none => rw [q] at hd; cases hd
    | some a =>
      rw [q] at hd hod
      have e1 := Option.some.inj hd
      have e2 := Option.some.inj hod
      subst e1 e2
      obtain ⟨h1, h2⟩ := hx a (List.mem_of_getElem? q) x H1 e hv
      exact k _ (hw x) h1 fun d' ed => evx_flat (h2 d' ed).1 (h2 d' ed).2)
  rw [List.filterMap_map] at z
  exact z
/-- no test: every turn gives -/
theorem edl_map {α : Type} {wi : TI} {j : Nat} {vs : List Nat} {xs : List α} {f g : α → PyData} (h : EvI K wi σ H (xs.map f)) (hz : xs.length ≤ 40000) (hw : ∀ x, wipe ((wipe σ vs).set j (some x)) vs = wipe σ vs)
    (hx : ∀ a, a ∈ xs → ∀ x H1, Ex H H1 → Dp K H1 x (f a) → EvD K te ((wipe σ vs).set j (some x)) H1 (g a) ∧ flat (g a) = true) : EvDL K (tLc wi (gName j) tYes te vs) σ H (xs.map g) := by
  have z := edl_lc1 (K := K) (σ := σ) (H := H) (te := te) (t := tYes) (o := fun a => some (g a)) h hz hw (fun a ha x H1 e hv => ⟨fun H2 e2 Q k => k H2 (Ex.refl _), fun d' ed => by
    have e := Option.some.inj ed
    subst e
    exact hx a ha x H1 e hv⟩)
  rw [show xs.filterMap (fun a => some (g a)) = xs.map g from by rw [← List.filterMap_eq_map]; rfl] at z
  exact z
/-- unpacking a tuple of two, of three -/
theorem g_pair {i j : Nat} {x : V} {H : Hp} {d1 d2 : PyData} {Q : L2.St → Hp → Prop} (h : Dp K H x (.tuple [d1, d2])) (k : ∀ x1 x2, Dp K H x1 d1 → Dp K H x2 d2 → Q ((σ.set i (some x1)).set j (some x2)) H) :
    gTup K 2 (gCons (gName i) (gCons (gName j) gNil)) x σ H Q := by
  obtain ⟨a, xs, rfl, hs, ha⟩ := dp_tup h
  obtain ⟨x1, x2, rfl, h1, h2⟩ := dpA2 ha
  exact ⟨a, _, rfl, hs, rfl, x1, [x2], rfl, x2, [], rfl, rfl, k x1 x2 h1 h2⟩
theorem g_trip {i j l : Nat} {x : V} {H : Hp} {d1 d2 d3 : PyData} {Q : L2.St → Hp → Prop} (h : Dp K H x (.tuple [d1, d2, d3])) (k : ∀ x1 x2 x3, Dp K H x1 d1 → Dp K H x2 d2 → Dp K H x3 d3 → Q (((σ.set i (some x1)).set j (some x2)).set l (some x3)) H) :
    gTup K 3 (gCons (gName i) (gCons (gName j) (gCons (gName l) gNil))) x σ H Q := by
  obtain ⟨a, xs, rfl, hs, ha⟩ := dp_tup h
  obtain ⟨x1, x2, x3, rfl, h1, h2, h3⟩ := dpA3 ha
  exact ⟨a, _, rfl, hs, rfl, x1, [x2, x3], rfl, x2, [x3], rfl, x3, [], rfl, rfl, k x1 x2 x3 h1 h2 h3⟩
/-- a target of two names -/
theorem edl_lc2 {α : Type} {wi : TI} {j l : Nat} {vs : List Nat} {xs : List α} {f f' : α → PyData} {o : α → Option PyData} (h : EvI K wi σ H (xs.map fun a => .tuple [f a, f' a])) (hz : xs.length ≤ 40000)
    (hw : ∀ x y, wipe (((wipe σ vs).set j (some x)).set l (some y)) vs = wipe σ vs)
    (hx : ∀ a, a ∈ xs → ∀ x y H1, Ex H H1 → Dp K H1 x (f a) → Dp K H1 y (f' a) → EvT t (((wipe σ vs).set j (some x)).set l (some y)) H1 (o a).isSome ∧ ∀ d', o a = some d' → EvD K te (((wipe σ vs).set j (some x)).set l (some y)) H1 d' ∧ flat d' = true) :
    EvDL K (tLc wi (gTup K 2 (gCons (gName j) (gCons (gName l) gNil))) t te vs) σ H (xs.filterMap o) := by
  have z := edl_lcX (K := K) (σ := σ) (H := H) (te := te) (t := t) (ds := xs.map fun a => .tuple [f a, f' a]) (g := gTup K 2 (gCons (gName j) (gCons (gName l) gNil))) (vs := vs) (o := xs.map o) h (by rw [List.length_map]; exact hz) (by rw [List.length_map, List.length_map]) (fun i d od hd hod x H1 e hv Q k => by
    rw [List.getElem?_map] at hd hod
    cases q : xs[i]? with
    | none => rw [q] at hd; cases hd
    | some a =>
      rw [q] at hd hod
      have e1 := Option.some.inj hd
      have e2 := Option.some.inj hod
      subst e1 e2
      refine g_pair hv fun x1 x2 d1 d2 => ?_
      obtain ⟨h1, h2⟩ := hx a (List.mem_of_getElem? q) x1 x2 H1 e d1 d2
      exact k _ (hw x1 x2) h1 fun d' ed => evx_flat (h2 d' ed).1 (h2 d' ed).2)
  rw [List.filterMap_map] at z
  exact z
theorem edl_map2 {α : Type} {wi : TI} {j l : Nat} {vs : List Nat} {xs : List α} {f f' g : α → PyData} (h : EvI K wi σ H (xs.map fun a => .tuple [f a, f' a])) (hz : xs.length ≤ 40000)
    (hw : ∀ x y, wipe (((wipe σ vs).set j (some x)).set l (some y)) vs = wipe σ vs)
    (hx : ∀ a, a ∈ xs → ∀ x y H1, Ex H H1 → Dp K H1 x (f a) → Dp K H1 y (f' a) → EvD K te (((wipe σ vs).set j (some x)).set l (some y)) H1 (g a) ∧ flat (g a) = true) :
    EvDL K (tLc wi (gTup K 2 (gCons (gName j) (gCons (gName l) gNil))) tYes te vs) σ H (xs.map g) := by
  have z := edl_lc2 (K := K) (σ := σ) (H := H) (te := te) (t := tYes) (o := fun a => some (g a)) h hz hw (fun a ha x y H1 e h1 h2 => ⟨fun H2 e2 Q k => k H2 (Ex.refl _), fun d' ed => by
    have e := Option.some.inj ed
    subst e
    exact hx a ha x y H1 e h1 h2⟩)
  rw [show xs.filterMap (fun a => some (g a)) = xs.map g from by rw [← List.filterMap_eq_map]; rfl] at z
  exact z
theorem edl_map3 {α : Type} {wi : TI} {j l m : Nat} {vs : List Nat} {xs : List α} {f f' f'' g : α → PyData} (h : EvI K wi σ H (xs.map fun a => .tuple [f a, f' a, f'' a])) (hz : xs.length ≤ 40000)
    (hw : ∀ x y v, wipe ((((wipe σ vs).set j (some x)).set l (some y)).set m (some v)) vs = wipe σ vs)
    (hx : ∀ a, a ∈ xs → ∀ x y v H1, Ex H H1 → Dp K H1 x (f a) → Dp K H1 y (f' a) → Dp K H1 v (f'' a) → EvD K te ((((wipe σ vs).set j (some x)).set l (some y)).set m (some v)) H1 (g a) ∧ flat (g a) = true) :
    EvDL K (tLc wi (gTup K 3 (gCons (gName j) (gCons (gName l) (gCons (gName m) gNil)))) tYes te vs) σ H (xs.map g) := by
  have z := edl_lcX (K := K) (σ := σ) (H := H) (te := te) (t := tYes) (ds := xs.map fun a => .tuple [f a, f' a, f'' a]) (g := gTup K 3 (gCons (gName j) (gCons (gName l) (gCons (gName m) gNil)))) (vs := vs) (o := xs.map fun a => some (g a)) h (by rw [List.length_map]; exact hz) (by rw [List.length_map, List.length_map]) (fun i d od hd hod x H1 e hv Q k => by
    rw [List.getElem?_map] at hd hod
    cases q : xs[i]? with
    | none => rw [q] at hd; cases hd
    | some a =>
      rw [q] at hd hod
      have e1 := Option.some.inj hd
      have e2 := Option.some.inj hod
      subst e1 e2
      refine g_trip hv fun x1 x2 x3 d1 d2 d3 => ?_
      obtain ⟨h1, h2⟩ := hx a (List.mem_of_getElem? q) x1 x2 x3 H1 e d1 d2 d3
      exact k _ (hw x1 x2 x3) (fun H2 e2 Q k => k H2 (Ex.refl _)) fun d' ed => by
        have e := Option.some.inj ed
        subst e
        exact evx_flat h1 h2)
  rw [List.filterMap_map] at z
  rw [show xs.filterMap (id ∘ fun a => some (g a)) = xs.map g from by rw [← List.filterMap_eq_map]; rfl] at z
  exact z
end

/-! ### sum of a pair -/
section
variable {X : Cx}
def rSumT (K : PySem.W.Frag) : List V → Hp → VK → Prop := fun xs H Q => ∃ a i j, xs = [V.ref a] ∧ SqT K H a [.int i, .int j] ∧ Q (.int (i + j)) H
theorem cr_sumT (hc : X.calm = true) : CallR X (.builtin "sum") (rSumT X.K) := by
  intro pins s σ H xs us Q I r h
  obtain ⟨a, i, j, rfl, hs, q⟩ := h
  obtain ⟨u, rfl, ru⟩ := vals1 r
  cases (show u = Value.ref a from ru)
  obtain ⟨its, rv, p, _⟩ := I.tuple hs
  obtain ⟨w1, w2, rfl, r1, r2⟩ := vals2 rv
  obtain ⟨t1, rfl⟩ := r1
  obtain ⟨t2, rfl⟩ := r2
  have hlt := p.lt
  refine PySem.call_sum_walkG (wpAny_pyIter_tuple (show s.heap.IsTuple a _ from p) ?_)
  refine ⟨_, _, _, _, _, _, fun k => if k = 0 then i else j, rfl, Walks.tuple (A := X.A.in1) (show X.A.in1.handled = none from I.ok.hd hc) _ a (Nat.ne_of_lt hlt) _, ⟨⟨_, Heap.get?_push_size _ rfl, rfl, rfl⟩, (show s.heap.IsTuple a _ from p).at fun o e => Heap.get?_push_of_some _ e⟩, fun b hb => ?_, fun k v hv => ?_, fun h' tk t' hk => ?_⟩
  · show b < (s.heap.push _).objs.size
    rw [Heap.size_push]
    simp only [List.mem_cons, List.not_mem_nil, or_false] at hb
    rcases hb with rfl | rfl
    · exact Nat.lt_succ_self _
    · exact Nat.lt_succ_of_lt hlt
  · match k with
    | 0 => exact ⟨t1, (Option.some.inj hv).symm⟩
    | 1 => exact ⟨t2, (Option.some.inj hv).symm⟩
    | k + 2 => simp at hv
  · have e : preSum (fun k => if k = 0 then i else j) ([Value.int i t1, Value.int j t2].toArray).size = i + j := by
      show 0 + i + j = i + j
      omega
    rw [e]
    refine ⟨.int (i + j), H, I.kept (t' := tk) fun b o eb => hk b o ?_ (Heap.get?_push_of_some _ eb), ⟨t', rfl⟩, q⟩
    intro hb
    rw [List.mem_singleton.mp hb] at eb
    exact absurd (Heap.lt_size eb) (Nat.lt_irrefl _)
end
theorem ev_sumT {K : PySem.W.Frag} {σ : L2.St} {H : Hp} {ta : TE} {i j : Int} (h : EvD K ta σ H (.tuple [.int i, .int j])) : Ev (tCB (rSumT K) (tCons ta tNil)) σ H (.int (i + j)) := fun H1 e _ q =>
  h H1 e _ fun v H2 e2 hv => by
    obtain ⟨a, xs, rfl, hs, hx⟩ := dp_tup hv
    obtain ⟨x1, x2, rfl, h1, h2⟩ := dpA2 hx
    rw [dp_vint h1, dp_vint h2] at hs
    exact ⟨a, i, j, rfl, hs, q H2 e2⟩

/-! ### len(set(ints)) -/
def distinct (ns : List Int) : Nat := (firstMet (fun i => ns.getD i 0) ns.length).length
theorem firstMet_sub (f : Nat → Int) : ∀ i k, k ∈ firstMet f i → ∃ j, j < i ∧ f j = k
  | 0, k, h => by simp [firstMet] at h
  | i + 1, k, h => by
    rw [firstMet_succ] at h
    unfold step_dedup at h
    split at h
    · obtain ⟨j, h1, h2⟩ := firstMet_sub f i k h
      exact ⟨j, Nat.lt_succ_of_lt h1, h2⟩
    · rcases List.mem_append.mp h with h | h
      · obtain ⟨j, h1, h2⟩ := firstMet_sub f i k h
        exact ⟨j, Nat.lt_succ_of_lt h1, h2⟩
      · exact ⟨i, Nat.lt_succ_self _, (List.mem_singleton.mp h).symm⟩
theorem firstMet_all (f : Nat → Int) : ∀ i j, j < i → f j ∈ firstMet f i
  | i + 1, j, h => by
    rw [firstMet_succ]
    unfold step_dedup
    rcases Nat.lt_succ_iff_lt_or_eq.mp h with hj | rfl
    · have ih := firstMet_all f i j hj
      split
      · exact ih
      · exact List.mem_append_left _ ih
    · split
      · rename_i hq
        obtain ⟨y, hy, ey⟩ := List.any_eq_true.mp hq
        have e : y = f j := eq_of_beq ey
        rw [← e]
        exact hy
      · exact List.mem_append_right _ (List.mem_singleton.mpr rfl)
theorem firstMet_inj (f : Nat → Int) : ∀ i, (firstMet f i).length = i → ∀ j k, j < k → k < i → f j ≠ f k
  | i + 1, h, j, k, hjk, hk => by
    have l0 := firstMet_length_le f i
    rw [firstMet_succ] at h
    unfold step_dedup at h
    split at h
    · omega
    · rename_i hq
      rw [List.length_append, List.length_singleton] at h
      rcases Nat.lt_succ_iff_lt_or_eq.mp hk with hk' | rfl
      · exact firstMet_inj f i (by omega) j k hjk hk'
      · intro e
        refine hq (List.any_eq_true.mpr ⟨f j, firstMet_all f _ j hjk, ?_⟩)
        rw [e]
        exact beq_self_eq_true _
theorem distinct_iff (ns : List Int) : (distinct ns = ns.length) ↔ ns.Nodup := by
  refine ⟨fun h => ?_, fun h => ?_⟩
  · refine List.pairwise_iff_getElem.mpr fun j k hj hk hjk => ?_
    have z : ns.getD j 0 ≠ ns.getD k 0 := firstMet_inj _ _ h j k hjk hk
    rw [List.getD_eq_getElem?_getD, List.getD_eq_getElem?_getD, List.getElem?_eq_getElem hj, List.getElem?_eq_getElem hk] at z
    exact z
  · unfold distinct
    rw [RZ.firstMet_nodup h _ (Nat.le_refl _), List.take_length]
def tLenSet (K : PySem.W.Frag) (ta : TE) : TE := fun σ H Q => ta σ H fun x H1 => ∃ (l : Addr) (ns : List Int), x = .ref l ∧ SqL K H1 l (ns.map V.int) ∧ ns.length ≤ 4000 ∧ Q (.int (distinct ns : Nat)) H1
theorem pe_lenSet {X : Cx} {a : Expr} {ta : TE} {p p2 q pos : Pos} (hg : Gl X "len") (hm : X.mg "len" = none) (hg2 : Gl X "set") (hm2 : X.mg "set" = none) (ha : PE X a ta) (hc : X.calm = true := by rfl)
    (na : starEach [a] X.env = (false, eval a X.env) :: starEach [] X.env := by rfl) : PE X (.Call (.Name "len" p) [.Call (.Name "set" p2) [a] [] q] [] pos) (tLenSet X.K ta) := by
  refine ⟨fun pins s σ H Q I h => ?_⟩
  refine Call_ (ld_blt I hg hm boot_len (PyProof.Rows.callWith_builtin1 (PyProof.Rows.args_cons ?_ rfl) rfl rfl))
  refine Call_ (ld_blt I hg2 hm2 boot_set (PyProof.Rows.callWith_type1 (PyProof.Rows.args_cons (thn (ha.run pins s σ H _ I h) fun v s1 hq => PyProof.Rows.args_nil ?_) na) na rfl))
  obtain ⟨x, H1, I1, r1, l, ns, rfl, hs, hl, q1⟩ := hq
  cases (show v = Value.ref l from r1)
  obtain ⟨its, r, pl, hz⟩ := I1.list hs
  have hlen : its.toArray.size = ns.length := by rw [List.size_toArray, ← r.length, List.length_map]
  refine call_set_list (I1.ok.hd hc) pl.isList (by simpa using RZ.intsAre_vals r) (by rw [hlen]; unfold scanBound; omega) fun h' tk hS hk => PyProof.Rows.args_nil ?_
  rw [hlen] at hS
  obtain ⟨o, es, ep, t, ho, hex, hd, _, _, _, hf, hn⟩ := hS
  have I2 : Inv X pins σ H1 { s1 with heap := h', toks := tk } := I1.kept fun b o e => hk b o (Heap.lt_size e) e
  have le := firstMet_length_le (fun i => ns.getD i 0) ns.length
  exact call_len_set ho hex hd hf (by rw [hn]; omega) ⟨.int (distinct ns : Nat), H1, I2.tok _, ⟨_, by rw [hn]; rfl⟩, q1⟩
theorem ev_lenSet {K : PySem.W.Frag} {σ : L2.St} {H : Hp} {ta : TE} {ns : List Int} (h : EvD K ta σ H (.list (ns.map .int))) (hl : ns.length ≤ 4000) : Ev (tLenSet K ta) σ H (.int (distinct ns : Nat)) := fun H1 e _ q =>
  h H1 e _ fun v H2 e2 hv => by
    obtain ⟨a, xs, rfl, hs, hx⟩ := dp_lst hv
    rw [dpA_ints hx] at hs
    exact ⟨a, ns, rfl, hs, hl, q H2 e2⟩
end KD

/-! Km: what the defs compute, as plain functions. -/
set_option autoImplicit false
namespace KM

/-! ### clocks -/
def lookAt (lk m : Int) : Int := lk * -((-m).fdiv lk)
def lookBy (lk m : Int) : Option Int := if m < 0 then none else some (lk * m.fdiv lk)
def showBy (dl lk e : Int) : Option Int := lookBy lk (e - dl)
def closeBy (dl lk e : Int) : Option Int := match showBy dl lk e with
  | none => none
  | some l => lookBy lk (l - dl)
def leastIn (dl lk o : Int) : Int := lookAt lk o + dl
def leastEnds (dl lk : Int) : Nat → List Int → List Int
  | 0, l => l
  | n + 1, l => leastEnds dl lk n (leastIn dl lk (l.headD 0) :: l)
theorem leastEnds_succ (dl lk : Int) : ∀ (n : Nat) (l : List Int), leastEnds dl lk (n + 1) l = leastIn dl lk ((leastEnds dl lk n l).headD 0) :: leastEnds dl lk n l
  | 0, _ => rfl
  | n + 1, l => leastEnds_succ dl lk n (leastIn dl lk (l.headD 0) :: l)
theorem leastEnds_len (dl lk : Int) : ∀ (n : Nat) (l : List Int), (leastEnds dl lk n l).length = n + l.length
  | 0, l => (Nat.zero_add _).symm
  | n + 1, l => by
    show (leastEnds dl lk n (_ :: l)).length = _
    rw [leastEnds_len dl lk n, List.length_cons]
    omega

/-! ### nets and routes -/
abbrev Ch := Int × Int × Int × Int
def inN (N : List Ch) (c : Int) : Prop := 0 ≤ c ∧ c < (N.length : Int)
instance (N : List Ch) (c : Int) : Decidable (inN N c) := inferInstanceAs (Decidable (_ ∧ _))
def chOf (N : List Ch) (c : Int) : Ch := N.getD c.toNat (0, 0, 0, 0)
def sideIn (ch : Ch) (p : Int) : Option Int := if ch.1 = p then some 0 else if ch.2.1 = p then some 1 else none
def sideOf (N : List Ch) (c p : Int) : Option Int := sideIn (chOf N c) p
def endOf (N : List Ch) (c s : Int) : Int := if s = 0 then (chOf N c).1 else (chOf N c).2.1
def walkA (N : List Ch) : List Int → List Int → Option (List Int)
  | [], f => some f
  | c :: r, f => if inN N c then (match sideOf N c (f.getLastD 0) with
      | none => none
      | some s => walkA N r (f ++ [endOf N c (1 - s)])) else none
def goodF (f : List Int) : Bool := decide (f.Nodup ∧ 1 < f.length)
def peopleAlong (N : List Ch) (p : Int) (r : List Int) : Option (List Int) := match walkA N r [p] with
  | none => none
  | some f => if goodF f then some f else none
def paysM (N : List Ch) : List Int → Int → List Int
  | [], _ => []
  | c :: r, p => (if (chOf N c).1 = p then 0 else 1) :: paysM N r (endOf N c (1 - (if (chOf N c).1 = p then 0 else 1)))
def chansOf (N : List Ch) (p : Int) : List Int := ((List.range N.length).filter fun (c : Nat) => (sideOf N c p).isSome).map fun (c : Nat) => (c : Int)
def lastOf (N : List Ch) (p : Int) (row : List Int) : Int := match row with
  | [] => p
  | _ => ((peopleAlong N p row).getD []).getLastD 0
def longerM (N : List Ch) (p : Int) (rows : List (List Int)) : List (List Int) :=
  (rows.flatMap fun row => (chansOf N (lastOf N p row)).map fun c => row ++ [c]).filter fun row => (peopleAlong N p row).isSome
def isTo (N : List Ch) (p q : Int) (row : List Int) : Bool := decide (((peopleAlong N p row).getD []).getLastD 0 = q)
/-- rows of length k -/
def rowsM (N : List Ch) (p : Int) : Nat → List (List Int)
  | 0 => [[]]
  | k + 1 => longerM N p (rowsM N p k)
def routesM (N : List Ch) (p q : Int) : Nat → List (List Int)
  | 0 => []
  | k + 1 => routesM N p q k ++ (rowsM N p (k + 1)).filter (isTo N p q)
/-- the sums that the sides that pay have -/
def sumOf (S : List (Int × Int)) (c s : Int) : Int := if s = 0 then (S.getD c.toNat (0, 0)).1 else (S.getD c.toNat (0, 0)).2
def sumsM (N : List Ch) (S : List (Int × Int)) (r : List Int) (p : Int) : List Int := List.zipWith (sumOf S) r (paysM N r p)
def minL : List Int → Int
  | [] => 0
  | [x] => x
  | x :: y :: l => min x (minL (y :: l))
def maxL : List Int → Int
  | [] => 0
  | [x] => x
  | x :: y :: l => max x (maxL (y :: l))
theorem minL_is : ∀ l : List Int, l ≠ [] → minL l ∈ l ∧ ∀ y, y ∈ l → minL l ≤ y
  | [], h => absurd rfl h
  | [x], _ => ⟨List.mem_singleton.mpr rfl, fun y hy => by rw [List.mem_singleton.mp hy]; exact Int.le_refl _⟩
  | x :: y :: l, _ => by
    obtain ⟨h1, h2⟩ := minL_is (y :: l) (List.cons_ne_nil _ _)
    show min x (minL (y :: l)) ∈ x :: y :: l ∧ ∀ z, z ∈ x :: y :: l → min x (minL (y :: l)) ≤ z
    refine ⟨?_, fun z hz => ?_⟩
    · rcases Int.le_total x (minL (y :: l)) with h | h
      · rw [Int.min_eq_left h]; exact List.mem_cons_self
      · rw [Int.min_eq_right h]; exact List.mem_cons_of_mem _ h1
    · rcases List.mem_cons.mp hz with e | hz
      · rw [e]; exact Int.min_le_left _ _
      · exact Int.le_trans (Int.min_le_right _ _) (h2 z hz)
theorem maxL_is : ∀ l : List Int, l ≠ [] → maxL l ∈ l ∧ ∀ y, y ∈ l → y ≤ maxL l
  | [], h => absurd rfl h
  | [x], _ => ⟨List.mem_singleton.mpr rfl, fun y hy => by rw [List.mem_singleton.mp hy]; exact Int.le_refl _⟩
  | x :: y :: l, _ => by
    obtain ⟨h1, h2⟩ := maxL_is (y :: l) (List.cons_ne_nil _ _)
    show max x (maxL (y :: l)) ∈ x :: y :: l ∧ ∀ z, z ∈ x :: y :: l → z ≤ max x (maxL (y :: l))
    refine ⟨?_, fun z hz => ?_⟩
    · rcases Int.le_total x (maxL (y :: l)) with h | h
      · rw [Int.max_eq_right h]; exact List.mem_cons_of_mem _ h1
      · rw [Int.max_eq_left h]; exact List.mem_cons_self
    · rcases List.mem_cons.mp hz with e | hz
      · rw [e]; exact Int.le_max_left _ _
      · exact Int.le_trans (h2 z hz) (Int.le_max_right _ _)
def mostM (N : List Ch) (S : List (Int × Int)) (p : Int) (r : List Int) : Int := minL (sumsM N S r p)

/-! ### a walk's shape -/
theorem walkA_len (N : List Ch) : ∀ (r f g : List Int), walkA N r f = some g → g.length = f.length + r.length
  | [], f, g, h => by
    have e : f = g := Option.some.inj h
    rw [e]
    rfl
  | c :: r, f, g, h => by
    unfold walkA at h
    split at h
    · split at h
      · cases h
      · have ih := walkA_len N r _ g h
        rw [ih, List.length_append, List.length_singleton, List.length_cons]
        omega
    · cases h
theorem walkA_in (N : List Ch) : ∀ (r f g : List Int), walkA N r f = some g → ∀ c, c ∈ r → inN N c
  | [], _, _, _, c, hc => by cases hc
  | c :: r, f, g, h, d, hd => by
    unfold walkA at h
    split at h
    · rename_i hin
      split at h
      · cases h
      · rcases List.mem_cons.mp hd with e | hd
        · rw [e]; exact hin
        · exact walkA_in N r _ g h d hd
    · cases h
theorem getLastD_app (f : List Int) (x : Int) : (f ++ [x]).getLastD 0 = x := by simp [List.getLastD_eq_getLast?]
/-- the sides along a walk -/
theorem sides_pays (N : List Ch) : ∀ (r f g : List Int) (p : Int), walkA N r (f ++ [p]) = some g →
    List.zipWith (fun c q => sideOf N c q) r (g.drop f.length) = (paysM N r p).map some ∧ g.take (f.length + 1) = f ++ [p]
  | [], f, g, p, h => by
    have e : f ++ [p] = g := Option.some.inj h
    subst e
    refine ⟨rfl, ?_⟩
    rw [List.take_of_length_le (by rw [List.length_append, List.length_singleton]; exact Nat.le_refl _)]
  | c :: r, f, g, p, h => by
    unfold walkA at h
    rw [getLastD_app] at h
    split at h
    · split at h
      · cases h
      · rename_i s hs
        obtain ⟨ih1, ih2⟩ := sides_pays N r (f ++ [p]) g (endOf N c (1 - s)) h
        rw [List.length_append, List.length_singleton] at ih1 ih2
        have es : (if (chOf N c).1 = p then 0 else 1) = s := by
          unfold sideOf sideIn at hs
          split at hs
          · rename_i h1; rw [if_pos h1]; exact Option.some.inj hs
          · rename_i h1
            split at hs
            · rw [if_neg h1]; exact Option.some.inj hs
            · cases hs
        have gt : g.take (f.length + 1) = f ++ [p] := by
          have z := congrArg (List.take (f.length + 1)) ih2
          rw [List.take_take, Nat.min_eq_left (Nat.le_succ _)] at z
          rw [z, List.take_left' (by rw [List.length_append, List.length_singleton])]
        refine ⟨?_, gt⟩
        have gl : f.length < g.length := by
          have z := congrArg List.length gt
          rw [List.length_take, List.length_append, List.length_singleton] at z
          omega
        have gp : g[f.length] = p := by
          have z : (g.take (f.length + 1))[f.length]? = some p := by
            rw [gt, List.getElem?_append_right (Nat.le_refl _), Nat.sub_self]
            rfl
          rw [List.getElem?_take_of_lt (Nat.lt_succ_self _), List.getElem?_eq_getElem gl] at z
          exact Option.some.inj z
        rw [List.drop_eq_getElem_cons gl, gp]
        show sideOf N c p :: List.zipWith (fun c q => sideOf N c q) r (g.drop (f.length + 1)) = _
        rw [ih1, hs]
        have ep : paysM N (c :: r) p = s :: paysM N r (endOf N c (1 - s)) := by
          show (if (chOf N c).1 = p then 0 else 1) :: paysM N r (endOf N c (1 - (if (chOf N c).1 = p then 0 else 1))) = _
          rw [es]
        rw [ep]
        rfl
    · cases h
theorem people_walk {N : List Ch} {p : Int} {r f : List Int} (h : peopleAlong N p r = some f) : walkA N r [p] = some f ∧ f.Nodup ∧ 1 < f.length := by
  unfold peopleAlong at h
  split at h
  · cases h
  · rename_i g hg
    split at h
    · rename_i hq
      have e := Option.some.inj h
      subst e
      exact ⟨hg, of_decide_eq_true hq⟩
    · cases h
theorem people_len {N : List Ch} {p : Int} {r f : List Int} (h : peopleAlong N p r = some f) : f.length = r.length + 1 := by
  have z := walkA_len N r [p] f (people_walk h).1
  rw [z, List.length_singleton, Nat.add_comm]
theorem people_in {N : List Ch} {p : Int} {r f : List Int} (h : peopleAlong N p r = some f) : ∀ c, c ∈ r → inN N c := walkA_in N r [p] f (people_walk h).1
theorem people_sides {N : List Ch} {p : Int} {r f : List Int} (h : peopleAlong N p r = some f) : List.zipWith (fun c q => sideOf N c q) r f = (paysM N r p).map some := by
  have z := (sides_pays N r [] f p (people_walk h).1).1
  rw [List.length_nil, List.drop_zero] at z
  exact z
theorem paysM_len (N : List Ch) : ∀ (r : List Int) (p : Int), (paysM N r p).length = r.length
  | [], _ => rfl
  | c :: r, p => by
    show (paysM N r _).length + 1 = r.length + 1
    rw [paysM_len N r]
theorem paysM_01 (N : List Ch) : ∀ (r : List Int) (p s : Int), s ∈ paysM N r p → s = 0 ∨ s = 1
  | [], _, _, h => by cases h
  | c :: r, p, s, h => by
    unfold paysM at h
    rcases List.mem_cons.mp h with e | h
    · rw [e]
      split
      · exact .inl rfl
      · exact .inr rfl
    · exact paysM_01 N r _ s h
theorem people_ne {N : List Ch} {p : Int} {r f : List Int} (h : peopleAlong N p r = some f) : r ≠ [] := by
  intro e
  have z := people_len h
  have y := (people_walk h).2.2
  rw [e] at z
  rw [z] at y
  exact absurd y (by decide)
end KM

set_option Elab.async false
set_option linter.all false
set_option autoImplicit false
set_option maxRecDepth 100000
set_option maxHeartbeats 4000000
/-! Kt: the defs of the text by their places, their slots. -/
namespace KT
open PySem PySem.Spec PyProof.Rows L2
def topS (i : Nat) : Stmt := PySem.Challenge.pw_suredue_k34_whole_sums_locks_and_ends_of.main.body.getD i (.Pass ⟨0, 0, 0, 0⟩)
abbrev s_is_number : Stmt := topS 5
theorem sc_is_number : FnScope ["thing"] ["thing"] (defScope s_is_number) := ⟨rfl, rfl, rfl, by decide +kernel, rfl, by decide +kernel, by decide +kernel⟩
abbrev s_tuple_of : Stmt := topS 6
theorem sc_tuple_of : FnScope ["thing", "part"] ["thing"] (defScope s_tuple_of) := ⟨rfl, rfl, rfl, by decide +kernel, rfl, by decide +kernel, by decide +kernel⟩
abbrev s_is_tuple_of : Stmt := topS 7
theorem sc_is_tuple_of : FnScope ["thing", "many"] ["thing", "many"] (defScope s_is_tuple_of) := ⟨rfl, rfl, rfl, by decide +kernel, rfl, by decide +kernel, by decide +kernel⟩
abbrev s__is_count : Stmt := topS 9
theorem sc__is_count : FnScope ["thing"] ["thing"] (defScope s__is_count) := ⟨rfl, rfl, rfl, by decide +kernel, rfl, by decide +kernel, by decide +kernel⟩
abbrev s__is_side : Stmt := topS 10
theorem sc__is_side : FnScope ["thing"] ["thing"] (defScope s__is_side) := ⟨rfl, rfl, rfl, by decide +kernel, rfl, by decide +kernel, by decide +kernel⟩
abbrev s_is_image : Stmt := topS 11
theorem sc_is_image : FnScope ["thing"] ["thing"] (defScope s_is_image) := ⟨rfl, rfl, rfl, by decide +kernel, rfl, by decide +kernel, by decide +kernel⟩
abbrev s_is_lock : Stmt := topS 12
theorem sc_is_lock : FnScope ["thing"] ["thing"] (defScope s_is_lock) := ⟨rfl, rfl, rfl, by decide +kernel, rfl, by decide +kernel, by decide +kernel⟩
abbrev s_total : Stmt := topS 13
theorem sc_total : FnScope ["sheet", "lock"] ["sheet"] (defScope s_total) := ⟨rfl, rfl, rfl, by decide +kernel, rfl, by decide +kernel, by decide +kernel⟩
abbrev s_is_sheet : Stmt := topS 14
theorem sc_is_sheet : FnScope ["net", "thing", "images", "own", "lock"] ["net", "thing"] (defScope s_is_sheet) := ⟨rfl, rfl, rfl, by decide +kernel, rfl, by decide +kernel, by decide +kernel⟩
abbrev s_look_at : Stmt := topS 15
theorem sc_look_at : FnScope ["times", "moment"] ["times", "moment"] (defScope s_look_at) := ⟨rfl, rfl, rfl, by decide +kernel, rfl, by decide +kernel, by decide +kernel⟩
abbrev s_look_by : Stmt := topS 16
theorem sc_look_by : FnScope ["times", "moment"] ["times", "moment"] (defScope s_look_by) := ⟨rfl, rfl, rfl, by decide +kernel, rfl, by decide +kernel, by decide +kernel⟩
abbrev s_sure_channel : Stmt := topS 17
theorem sc_sure_channel : FnScope ["net", "channel"] ["net", "channel"] (defScope s_sure_channel) := ⟨rfl, rfl, rfl, by decide +kernel, rfl, by decide +kernel, by decide +kernel⟩
abbrev s_side_of : Stmt := topS 18
theorem sc_side_of : FnScope ["net", "channel", "person"] ["net", "channel", "person"] (defScope s_side_of) := ⟨rfl, rfl, rfl, by decide +kernel, rfl, by decide +kernel, by decide +kernel⟩
abbrev s_channels_of : Stmt := topS 19
theorem sc_channels_of : FnScope ["net", "person", "channel"] ["net", "person"] (defScope s_channels_of) := ⟨rfl, rfl, rfl, by decide +kernel, rfl, by decide +kernel, by decide +kernel⟩
abbrev s_first_sheet : Stmt := topS 20
theorem sc_first_sheet : FnScope ["net", "channel"] ["net", "channel"] (defScope s_first_sheet) := ⟨rfl, rfl, rfl, by decide +kernel, rfl, by decide +kernel, by decide +kernel⟩
abbrev s_image_of : Stmt := topS 21
theorem sc_image_of : FnScope ["secret"] ["secret"] (defScope s_image_of) := ⟨rfl, rfl, rfl, by decide +kernel, rfl, by decide +kernel, by decide +kernel⟩
abbrev s_show_by : Stmt := topS 23
theorem sc_show_by : FnScope ["times", "end"] ["times", "end"] (defScope s_show_by) := ⟨rfl, rfl, rfl, by decide +kernel, rfl, by decide +kernel, by decide +kernel⟩
abbrev s_close_by : Stmt := topS 24
theorem sc_close_by : FnScope ["times", "end", "last"] ["times", "end"] (defScope s_close_by) := ⟨rfl, rfl, rfl, by decide +kernel, rfl, by decide +kernel, by decide +kernel⟩
abbrev s_least_in_end : Stmt := topS 25
theorem sc_least_in_end : FnScope ["times", "out_end"] ["times", "out_end"] (defScope s_least_in_end) := ⟨rfl, rfl, rfl, by decide +kernel, rfl, by decide +kernel, by decide +kernel⟩
abbrev s_enough_gap : Stmt := topS 26
theorem sc_enough_gap : FnScope ["times", "in_end", "out_end"] ["times", "in_end", "out_end"] (defScope s_enough_gap) := ⟨rfl, rfl, rfl, by decide +kernel, rfl, by decide +kernel, by decide +kernel⟩
abbrev s_least_ends : Stmt := topS 27
theorem sc_least_ends : FnScope ["times", "many", "last", "found", "_"] ["times", "many", "last"] (defScope s_least_ends) := ⟨rfl, rfl, rfl, by decide +kernel, rfl, by decide +kernel, by decide +kernel⟩
abbrev s_people_along : Stmt := topS 29
theorem sc_people_along : FnScope ["net", "payer", "route", "found", "channel"] ["net", "payer", "route"] (defScope s_people_along) := ⟨rfl, rfl, rfl, by decide +kernel, rfl, by decide +kernel, by decide +kernel⟩
abbrev s_walked : Stmt := topS 30
theorem sc_walked : FnScope ["net", "payer", "route", "found"] ["net", "payer", "route"] (defScope s_walked) := ⟨rfl, rfl, rfl, by decide +kernel, rfl, by decide +kernel, by decide +kernel⟩
abbrev s_sides : Stmt := topS 31
theorem sc_sides : FnScope ["net", "payer", "route", "own", "channel", "person"] ["net", "payer", "route"] (defScope s_sides) := ⟨rfl, rfl, rfl, by decide +kernel, rfl, by decide +kernel, by decide +kernel⟩
abbrev s_payment_locks : Stmt := topS 32
theorem sc_payment_locks : FnScope ["net", "payer", "route", "amount", "image", "ends", "pays", "own", "channel", "side", "end"] ["net", "payer", "route", "amount", "image", "ends"] (defScope s_payment_locks) := ⟨rfl, rfl, rfl, by decide +kernel, rfl, by decide +kernel, by decide +kernel⟩
abbrev s_most_over : Stmt := topS 33
theorem sc_most_over : FnScope ["net", "sheets", "payer", "route", "pays", "channel", "side"] ["net", "sheets", "payer", "route"] (defScope s_most_over) := ⟨rfl, rfl, rfl, by decide +kernel, rfl, by decide +kernel, by decide +kernel⟩
abbrev s_longer : Stmt := topS 34
theorem sc_longer : FnScope ["net", "payer", "rows", "found", "row", "last", "channel"] ["net", "payer", "rows"] (defScope s_longer) := ⟨rfl, rfl, rfl, by decide +kernel, rfl, by decide +kernel, by decide +kernel⟩
abbrev s_routes : Stmt := topS 35
theorem sc_routes : FnScope ["net", "payer", "payee", "most", "own", "rows", "found", "_", "row"] ["net", "payer", "payee", "most"] (defScope s_routes) := ⟨rfl, rfl, rfl, by decide +kernel, rfl, by decide +kernel, by decide +kernel⟩
abbrev s_routes_for : Stmt := topS 36
theorem sc_routes_for : FnScope ["net", "sheets", "payer", "payee", "amount", "most", "row"] ["net", "sheets", "payer", "payee", "amount", "most"] (defScope s_routes_for) := ⟨rfl, rfl, rfl, by decide +kernel, rfl, by decide +kernel, by decide +kernel⟩
abbrev s_best_route : Stmt := topS 37
theorem sc_best_route : FnScope ["net", "sheets", "payer", "payee", "amount", "found"] ["net", "sheets", "payer", "payee", "amount"] (defScope s_best_route) := ⟨rfl, rfl, rfl, by decide +kernel, rfl, by decide +kernel, by decide +kernel⟩
abbrev s_widest : Stmt := topS 38
theorem sc_widest : FnScope ["net", "sheets", "payer", "payee", "found", "most", "row"] ["net", "sheets", "payer", "payee"] (defScope s_widest) := ⟨rfl, rfl, rfl, by decide +kernel, rfl, by decide +kernel, by decide +kernel⟩
abbrev s_are_safe : Stmt := topS 39
theorem sc_are_safe : FnScope ["times", "ends", "near", "far"] ["times", "ends"] (defScope s_are_safe) := ⟨rfl, rfl, rfl, by decide +kernel, rfl, by decide +kernel, by decide +kernel⟩
abbrev s_last_looks : Stmt := topS 40
theorem sc_last_looks : FnScope ["times", "ends", "end"] ["times", "ends"] (defScope s_last_looks) := ⟨rfl, rfl, rfl, by decide +kernel, rfl, by decide +kernel, by decide +kernel⟩
abbrev s_wish_for : Stmt := topS 41
theorem sc_wish_for : FnScope ["times", "route", "amount", "secret", "moment", "last", "own"] ["times", "route", "amount", "secret", "moment", "last"] (defScope s_wish_for) := ⟨rfl, rfl, rfl, by decide +kernel, rfl, by decide +kernel, by decide +kernel⟩
abbrev s__law_box : Stmt := topS 43
theorem sc__law_box : FnScope ["_law_script", "_law_k", "_law_cell_so"] ["_law_script", "_law_k"] (defScope s__law_box) := ⟨rfl, rfl, rfl, by decide +kernel, rfl, by decide +kernel, by decide +kernel⟩
abbrev s__law_take : Stmt := topS 44
theorem sc__law_take : FnScope ["_law_urn", "_law_low_so", "_law_drawn", "_law_once_so", "_law_wide_so", "_law_twice_so"] ["_law_urn", "_law_low_so"] (defScope s__law_take) := ⟨rfl, rfl, rfl, by decide +kernel, rfl, by decide +kernel, by decide +kernel⟩
abbrev s__law_cells : Stmt := topS 45
theorem sc__law_cells : FnScope ["_law_script", "_law_top_so", "_law_cells_so", "_law_k", "_law_cell_so", "_law_at_so"] ["_law_script", "_law_top_so"] (defScope s__law_cells) := ⟨rfl, rfl, rfl, by decide +kernel, rfl, by decide +kernel, by decide +kernel⟩
abbrev s__law_of : Stmt := topS 46
theorem sc__law_of : FnScope ["_law_urn", "_law_goods_so"] ["_law_urn", "_law_goods_so"] (defScope s__law_of) := ⟨rfl, rfl, rfl, by decide +kernel, rfl, by decide +kernel, by decide +kernel⟩
abbrev s__law_same : Stmt := topS 47
theorem sc__law_same : FnScope ["_law_got", "_law_goal", "_law_its", "_law_own"] ["_law_got", "_law_goal"] (defScope s__law_same) := ⟨rfl, rfl, rfl, by decide +kernel, rfl, by decide +kernel, by decide +kernel⟩
abbrev s__law_lists : Stmt := topS 48
theorem sc__law_lists : FnScope ["_law_matter", "_law_own"] ["_law_matter"] (defScope s__law_lists) := ⟨rfl, rfl, rfl, by decide +kernel, rfl, by decide +kernel, by decide +kernel⟩
abbrev s__law_net : Stmt := topS 49
theorem sc__law_net : FnScope ["_law_urn", "_law_people", "_law_found", "_law_lap", "_law_one", "_law_other"] ["_law_urn"] (defScope s__law_net) := ⟨rfl, rfl, rfl, by decide +kernel, rfl, by decide +kernel, by decide +kernel⟩
abbrev s__law_sheets : Stmt := topS 50
theorem sc__law_sheets : FnScope ["_law_urn", "_law_net_here", "_law_found", "_law_k", "_law_own", "_law_near", "_law_locks", "_law_sums", "_law_payer", "_law_amount"] ["_law_urn", "_law_net_here"] (defScope s__law_sheets) := ⟨rfl, rfl, rfl, by decide +kernel, rfl, by decide +kernel, by decide +kernel⟩
abbrev s__law_pays : Stmt := topS 51
theorem sc__law_pays : FnScope ["_law_net_here", "_law_payer", "_law_row", "_law_found", "_law_now", "_law_k"] ["_law_net_here", "_law_payer", "_law_row"] (defScope s__law_pays) := ⟨rfl, rfl, rfl, by decide +kernel, rfl, by decide +kernel, by decide +kernel⟩
abbrev s__law_most : Stmt := topS 52
theorem sc__law_most : FnScope ["_law_net_here", "_law_sheets_here", "_law_payer", "_law_row", "_law_k", "_law_side"] ["_law_net_here", "_law_sheets_here", "_law_payer", "_law_row"] (defScope s__law_most) := ⟨rfl, rfl, rfl, by decide +kernel, rfl, by decide +kernel, by decide +kernel⟩
abbrev s__law_heard : Stmt := topS 53
theorem sc__law_heard : FnScope ["_law_door", "_law_parts", "error"] ["_law_door", "_law_parts"] (defScope s__law_heard) := ⟨rfl, rfl, rfl, by decide +kernel, rfl, by decide +kernel, by decide +kernel⟩
abbrev s__law_locks_right : Stmt := topS 54
theorem sc__law_locks_right : FnScope ["_law_net_here", "_law_sheets_here", "_law_payer", "_law_row", "_law_amount", "_law_ends", "_law_told", "_law_due", "_law_goods", "_law_k", "_law_lock", "_law_sums", "_law_bad", "_law_side", "_law_end", "_law_own"] ["_law_net_here", "_law_sheets_here", "_law_payer", "_law_row", "_law_amount", "_law_ends"] (defScope s__law_locks_right) := ⟨rfl, rfl, rfl, by decide +kernel, rfl, by decide +kernel, by decide +kernel⟩
abbrev s__law_by : Stmt := topS 55
theorem sc__law_by : FnScope ["_law_times", "_law_moment"] ["_law_times", "_law_moment"] (defScope s__law_by) := ⟨rfl, rfl, rfl, by decide +kernel, rfl, by decide +kernel, by decide +kernel⟩
abbrev s__law_ends_right : Stmt := topS 56
theorem sc__law_ends_right : FnScope ["_law_urn", "_law_row", "_law_times", "_law_ends", "_law_lap", "_law_look", "_law_least", "_law_bent", "_law_gaps", "_law_looks", "_law_own", "_law_show", "_law_heard_here", "_law_near", "_law_far"] ["_law_urn", "_law_row"] (defScope s__law_ends_right) := ⟨rfl, rfl, rfl, by decide +kernel, rfl, by decide +kernel, by decide +kernel⟩
abbrev s__law_right : Stmt := topS 57
theorem sc__law_right : FnScope ["_law_urn", "_law_net_here", "_law_sheets_here", "_law_payer", "_law_payee", "_law_amount", "_law_rows", "_law_mosts", "_law_goods", "_law_heard_here", "_law_none", "_law_due", "_law_row", "_law_most_here", "_law_k"] ["_law_urn"] (defScope s__law_right) := ⟨rfl, rfl, rfl, by decide +kernel, rfl, by decide +kernel, by decide +kernel⟩
abbrev s__law_by_hand_right : Stmt := topS 58
theorem sc__law_by_hand_right : FnScope ["_law_net_here", "_law_sheets_here", "_law_heard_here", "_law_due", "_law_k", "_law_own"] [] (defScope s__law_by_hand_right) := ⟨rfl, rfl, rfl, by decide +kernel, rfl, by decide +kernel, by decide +kernel⟩
abbrev s_law : Stmt := topS 59
theorem sc_law : FnScope ["_law_script"] ["_law_script"] (defScope s_law) := ⟨rfl, rfl, rfl, by decide +kernel, rfl, by decide +kernel, by decide +kernel⟩
end KT

set_option Elab.async false
set_option linter.all false
set_option autoImplicit false
set_option maxRecDepth 100000
set_option maxHeartbeats 4000000
/-! Kd: the small defs of the program. -/
namespace KT
open PySem PySem.Spec PyProof.Rows L2 Evl KD

/-- the built-in names are what they are -/
theorem pa_starK {X : Cx} {K : PySem.W.Frag} {e : Expr} {es : List Expr} {te : TE} {t : TA} {p : Pos} (hK : X.K = K) (he : PE X e te) (hr : PA X es t) (hs : starEach (.Starred e p :: es) X.env = (true, eval e X.env) :: starEach es X.env := by rfl) : PA X (.Starred e p :: es) (StX.tStar K te t) := by
  subst hK
  exact StX.pa_star he hr hs
theorem le5 {n : Nat} (h : Nat.ble n 100000 = true) : n ≤ 100000 := Nat.le_of_ble_eq_true h
structure Bt (mg : Str → Option Value) : Prop where
  len : mg "len" = none
  isinstance : mg "isinstance" = none
  abs : mg "abs" = none
  all : mg "all" = none
  sum : mg "sum" = none
  min : mg "min" = none
  max : mg "max" = none
  int : mg "int" = none
  bool : mg "bool" = none
  str : mg "str" = none
  tuple : mg "tuple" = none
  list : mg "list" = none
  set_ : mg "set" = none
  range : mg "range" = none
  zip : mg "zip" = none
  enumerate : mg "enumerate" = none
  ValueError : mg "ValueError" = none

section
variable {K : PySem.W.Frag} {σ : L2.St} {H : Hp} {ta tb : TE} {d : PyData} {ds : List PyData} {v : V}
theorem ed_ixS {i : Int} (h : EvD K ta σ H d) (hs : Sq d = some ds) (hi : Ev tb σ H (.int i)) {d' : PyData} (ha : atI ds i = some d') : EvD K (tOp (rIx K) ta tb) σ H d' := by
  cases d with
  | list es => cases hs; exact ed_ixL h hi ha
  | tuple es => cases hs; exact ed_ixT h hi ha
  | _ => cases hs
theorem ev_lenS (h : EvD K ta σ H d) (hs : Sq d = some ds) : Ev (tCB (rLenS K) (tCons ta tNil)) σ H (.int (ds.length : Int)) := by
  cases d with
  | list es => cases hs; exact ev_lenL h
  | tuple es => cases hs; exact ev_lenT h
  | _ => cases hs
theorem s_rI {D : Ends} {te : TE} (h : Ev te σ H v) (hd : ∀ H, Dp K H v d) {Q : VK} (q : ∀ v H2, Ex H H2 → Dp K H2 v d → Q v H2) (e : D.rt = Q) : tRet te D σ H := s_ret h fun H1 e1 => by rw [e]; exact q v H1 e1 (hd H1)
end
/-- a body that is one return -/
theorem exd_ret {K : PySem.W.Frag} {te : TE} {σ : L2.St} {H : Hp} {d : PyData} (h : EvD K te σ H d) : ExD K (tRet te) σ H d := fun Q q => h H (Ex.refl H) _ fun v H2 e hd => q v H2 e hd
theorem at0 {α : Type} {a : α} {l : List α} : atI (a :: l) 0 = some a := atI_nat (j := 0) rfl
theorem at1 {α : Type} {a b : α} {l : List α} : atI (a :: b :: l) 1 = some b := atI_nat (j := 1) rfl
theorem at2 {α : Type} {a b c : α} {l : List α} : atI (a :: b :: c :: l) 2 = some c := atI_nat (j := 2) rfl
theorem at3 {α : Type} {a b c d : α} {l : List α} : atI (a :: b :: c :: d :: l) 3 = some d := atI_nat (j := 3) rfl

section
variable {P : Program} {w : World} {K : PySem.W.Frag} {mg : Str → Option Value} {base : Heap}

/-! ### plain.py -/
def isNum : PyData → Bool
  | .int _ => true
  | _ => false
def R_is_number (ds : List PyData) (d : PyData) : Prop := ∃ x, ds = [x] ∧ d = .bool (isNum x)
theorem d_is_number (B : Bt mg) (A : At K mg "is_number" s_is_number ["thing"]) : Dfn P w K mg base "is_number" ["thing"] CX0 1 (spF K R_is_number) := by
  refine A.okD sc_is_number (fun ds d h => by obtain ⟨x, rfl, _⟩ := h; rfl) (fun f cdv A outer s H0 E hr => ⟨_, (pss_one (ps_ret (pe_and (pe_callB (r := rIsi K) call_isi (by rfl) B.isinstance (by decide +kernel) (pa_cons (pv 0) (pa_cons (pe_bltn (v := .ty "int") (by rfl) B.int (by decide +kernel) rfl) pa_nil))) (pe_one (pe_not (pe_callB (r := rIsi K) call_isi (by rfl) B.isinstance (by decide +kernel) (pa_cons (pv 0) (pa_cons (pe_bltn (v := .ty "bool") (by rfl) B.bool (by decide +kernel) rfl) pa_nil)))))))), fun vs H ds d r hv => ?_⟩)
  obtain ⟨x, rfl, rfl⟩ := r
  obtain ⟨v, rfl, hx⟩ := dpA1 hv
  have hv : EvD K (tVar 0) [some v] H x := ed_var rfl hx
  refine exd_ret (ed_b (ev_is (ev_andV (ev_isi hv (kb_int x)) fun _ => ev_notV (ev_isi hv (kb_bool x))) ?_))
  cases x <;> rfl
def R_is_tuple_of (ds : List PyData) (d : PyData) : Prop := ∃ x m, ds = [x, .int m] ∧ d = .bool (match x with | .tuple es => decide ((es.length : Int) = m) | _ => false)
theorem dec_ii {i j : Int} : decide (V.int i = V.int j) = decide (i = j) := by rw [dec_int]; exact (Bool.beq_eq_decide_eq ..)
theorem d_is_tuple_of (B : Bt mg) (A : At K mg "is_tuple_of" s_is_tuple_of ["thing", "many"]) : Dfn P w K mg base "is_tuple_of" ["thing", "many"] CX0 1 (spF K R_is_tuple_of) := by
  refine A.okD sc_is_tuple_of (fun ds d h => by obtain ⟨x, m, rfl, _⟩ := h; rfl) (fun f cdv A outer s H0 E hr => ⟨_, (pss_one (ps_ret (pe_and (pe_callB (r := rIsi K) call_isi (by rfl) B.isinstance (by decide +kernel) (pa_cons (pv 0) (pa_cons (pe_bltn (v := .ty "tuple") (by rfl) B.tuple (by decide +kernel) rfl) pa_nil))) (pe_one (pe_cmpR op_eq (pe_callB (r := rLenS K) call_len_seq (by rfl) B.len PySem.boot_len (pa_cons (pv 0) pa_nil)) (pv 1) (nomark _)))))), fun vs H ds d r hv => ?_⟩)
  obtain ⟨x, m, rfl, rfl⟩ := r
  obtain ⟨v, u, rfl, hx, hm⟩ := dpA2 hv
  have em := dp_vint hm
  subst em
  have hv : EvD K (tVar 0) [some v, some (.int m)] H x := ed_var rfl hx
  cases x with
  | tuple es => exact exd_ret (ed_b (ev_is (ev_andV (ev_isi hv (kb_tuple _)) fun _ => ev_op (ev_lenT hv) (ev_var rfl) (rv_eq rfl)) (by rw [dec_ii]; rfl)))
  | _ => exact exd_ret (ed_b (ev_andV (b := true) (ev_isi hv (kb_tuple _)) fun z => Bool.noConfusion z))

/-! ### tuple_of -/
mutual
def tupD : PyData → PyData
  | .list ds => .tuple (tupDA ds)
  | .tuple ds => .tuple (tupDA ds)
  | d => d
def tupDA : List PyData → List PyData
  | [] => []
  | d :: ds => tupD d :: tupDA ds
end
theorem tupDA_eq : ∀ ds : List PyData, tupDA ds = ds.map tupD
  | [] => rfl
  | d :: ds => by rw [tupDA, tupDA_eq ds]; rfl
theorem tupD_sq {d : PyData} {ds : List PyData} (h : Sq d = some ds) : tupD d = .tuple (ds.map tupD) := by
  cases d with
  | list es => cases h; rw [← tupDA_eq]; rfl
  | tuple es => cases h; rw [← tupDA_eq]; rfl
  | _ => cases h
def isSc : PyData → Bool
  | .none => true
  | .bool _ => true
  | .int _ => true
  | .str _ => true
  | _ => false
def okD : Nat → PyData → Prop
  | 0, _ => False
  | n + 1, d => isSc d = true ∨ ∃ ds, Sq d = some ds ∧ ds.length ≤ 1000 ∧ ∀ e ∈ ds, okD n e
theorem okD_mono : ∀ (n : Nat) (d : PyData), okD n d → okD (n + 1) d
  | 0, _, h => h.elim
  | n + 1, d, h => by
    rcases h with h | ⟨ds, h1, h2, h3⟩
    · exact .inl h
    · exact .inr ⟨ds, h1, h2, fun e he => okD_mono n e (h3 e he)⟩
theorem tupD_flat : ∀ (n : Nat) (d : PyData), okD n d → flat (tupD d) = true
  | 0, _, h => h.elim
  | n + 1, d, h => by
    rcases h with h | ⟨ds, h1, h2, h3⟩
    · cases d <;> first | rfl | cases h
    · rw [tupD_sq h1]
      show flatA (ds.map tupD) = true
      clear h1 h2
      induction ds with
      | nil => rfl
      | cons e es ih =>
        show (flat (tupD e) && flatA (es.map tupD)) = true
        rw [tupD_flat n e (h3 e List.mem_cons_self), ih fun x hx => h3 x (List.mem_cons_of_mem _ hx)]
        rfl
theorem at_dead {x : Str} {st : Stmt} {ps : List Str} {sp : Sp} (A : At K mg x st ps) (h : ∀ vs H Q E, ¬ sp vs H Q E) : Dfn P w K mg base x ps CX0 0 sp := by
  obtain ⟨f, fd, F, g, b⟩ := A.ex
  exact ⟨f, fd, ⟨fun vs H Q E q => absurd q (h vs H Q E), fun _ _ _ _ _ _ _ _ _ _ _ _ _ q => absurd q (h _ _ _ _)⟩, g, F.kp, b⟩
theorem isiT_of {K : PySem.W.Frag} {σ : L2.St} {H : Hp} {ta : TE} {d : PyData} (h : EvD K ta σ H d) : Ev (tCB (rIsiT K) (tCons ta (tCons (tTup (tCons (tC (.ty "list")) (tCons (tC (.ty "tuple")) tNil))) tNil))) σ H (.bl (Sq d).isSome) := by
  refine ev_is (ev_isiT h (kb_list d) (kb_tuple d)) ?_
  cases d <;> rfl
def R_tuple_of (n : Nat) (ds : List PyData) (d : PyData) : Prop := ∃ x, ds = [x] ∧ okD n x ∧ d = tupD x
theorem d_tuple_of (B : Bt mg) (A : At K mg "tuple_of" s_tuple_of ["thing"]) : ∀ n, Dfn P w K mg base "tuple_of" ["thing"] CX0 n (spF K (R_tuple_of n)) := by
  intro n
  induction n with
  | zero => exact at_dead A fun vs H Q E ⟨ds, d, ⟨x, _, h, _⟩, _⟩ => h
  | succ n ih =>
    have c_tuple_of := ih
    refine A.okD sc_tuple_of (fun ds d h => by obtain ⟨x, rfl, _⟩ := h; rfl) (fun f cdv A outer s H0 E hr => ⟨_, (pss_cons (ps_if (pt_val (pe_callB (r := rIsiT K) call_isiT (by rfl) B.isinstance (by decide +kernel) (pa_cons (pv 0) (pa_cons (pe_tup (pa_cons (pe_bltn (v := .ty "list") (by rfl) B.list (by decide +kernel) rfl) (pa_cons (pe_bltn (v := .ty "tuple") (by rfl) B.tuple (by decide +kernel) rfl) pa_nil))) pa_nil)))) (pss_one (ps_ret (pe_callTy (r := rTupleOf K) call_tuple_of (by rfl) B.tuple (by decide +kernel) (pa_cons (pe_lc (own := [("part", 1)]) (g := gName 1) rfl sc_tuple_of.nd (pi_any (pv 0)) (blkOk_by (own := [("part", 1)]) (N := ["thing", "part"]) (sc := defScope s_tuple_of) (by decide +kernel)) (fun _ _ _ _ _ => (pg_name (i := 1) sc_tuple_of.nd rfl (Or.inl rfl))) (fun _ _ _ _ _ => pts_nil) (fun _ _ _ _ _ => (pe_fn c_tuple_of hr (by omega) (by rfl) (pa_cons (pv 1) pa_nil)))) pa_nil)))) pss_nil) (pss_one (ps_ret (pv 0)))), fun vs H ds d r hv => ?_⟩)
    obtain ⟨x, rfl, ok, rfl⟩ := r
    obtain ⟨v, rfl, hx⟩ := dpA1 hv
    intro Q q
    have hv : EvD K (tVar 0) [some v, none] H x := ed_var rfl hx
    rcases ok with ok | ⟨es, h1, h2, h3⟩
    · have e1 : (Sq x).isSome = false := by cases x <;> first | rfl | cases ok
      have e2 : tupD x = x := by cases x <;> first | rfl | cases ok
      refine q_when (et_B (isiT_of hv)) (fun z => by rw [e1] at z; cases z) fun _ H1 ex => ?_
      rw [e2] at q
      exact s_rd (hv.mono ex) fun v H2 e hd => q v H2 (ex.trans e) hd
    · refine q_when (et_B (isiT_of hv)) (fun _ H1 ex => ?_) (fun z => by rw [h1] at z; cases z)
      have hm : EvI K (iAny K (tVar 0)) [some v, none] H (es.map fun d => d) := by rw [List.map_id']; exact ei_any hv h1
      refine s_rd (D := { nx := _, rt := Q }) (EvD.mono (ed_tupleL (edl_map (g := tupD) hm (by omega) (fun _ => rfl) fun a ha x H1 e1 hx => ⟨?_, tupD_flat n a (h3 a ha)⟩).toD) ex) fun v H2 e hd => q v H2 (ex.trans e) (by rw [tupD_sq h1]; exact hd)
      exact ed_call (eds_cons (ed_var rfl hx) eds_nil) ⟨a, rfl, h3 a ha, rfl⟩
end
end KT

set_option Elab.async false
set_option linter.all false
set_option autoImplicit false
set_option maxRecDepth 100000
set_option maxHeartbeats 4000000
/-! Ke: sheets.py and clocks.py. -/
namespace KT
open PySem PySem.Spec PyProof.Rows L2 Evl KD KM

def optI : Option Int → PyData
  | none => .none
  | some i => .int i
def rowD (r : List Int) : PyData := .tuple (r.map .int)
def chD (c : Ch) : PyData := .tuple [.int c.1, .int c.2.1, .int c.2.2.1, .int c.2.2.2]
def netD (N : List Ch) : PyData := .tuple (N.map chD)
/-- times, of whatever kind -/
def Tm (t : PyData) (dl lk wt : Int) : Prop := Sq t = some [.int dl, .int lk, .int wt] ∧ 1 ≤ lk ∧ lk ≤ 1000
theorem rowD_flat (r : List Int) : flat (rowD r) = true := flatA_map (fun _ => rfl) r
theorem chD_flat (c : Ch) : flat (chD c) = true := rfl
theorem netD_flat (N : List Ch) : flat (netD N) = true := flatA_map chD_flat N
theorem optI_flat (o : Option Int) : flat (optI o) = true := by cases o <;> rfl
section
variable {K : PySem.W.Frag} {σ : L2.St} {H : Hp} {ta tb te : TE} {d : PyData} {ds : List PyData} {v : V}
theorem ev_ixS {i x : Int} (h : EvD K ta σ H d) (hs : Sq d = some ds) (hi : Ev tb σ H (.int i)) (ha : atI ds i = some (.int x)) : Ev (tOp (rIx K) ta tb) σ H (.int x) := ev_i (ed_ixS h hs hi ha)
/-- an if without else ahead of what follows, its answer known -/
theorem q_no {D : Ends} {t : TT} {tu tz : TS} (h : EvT t σ H false) (k : ∀ H1, Ex H H1 → tz D σ H1) : tSeq (tIfS t tu tNext) tz D σ H := q_when h (fun z => Bool.noConfusion z) fun _ => k
theorem q_yes {D : Ends} {t : TT} {tu tw tz : TS} (h : EvT t σ H true) (k : ∀ H1, Ex H H1 → tu { D with nx := tz D } σ H1) : tSeq (tIfS t tu tw) tz D σ H := q_if h (fun _ => k) (fun z => Bool.noConfusion z)
theorem et_T {r : R2} {b : Bool} (h : Ev (tOp r ta tb) σ H (.bl b)) : EvT (tTest (tOp r ta tb)) σ H b := et_test h
end

section
variable {P : Program} {w : World} {K : PySem.W.Frag} {mg : Str → Option Value} {base : Heap}

/-! ### counts, sides, images, locks -/
def isCnt : PyData → Bool
  | .int i => decide (0 ≤ i)
  | _ => false
def R_is_count (ds : List PyData) (d : PyData) : Prop := ∃ x, ds = [x] ∧ d = .bool (isCnt x)
theorem d_is_count (B : Bt mg) (A : At K mg "_is_count" s__is_count ["thing"]) (c_is_number : Dfn P w K mg base "is_number" ["thing"] CX0 1 (spF K R_is_number)) : Dfn P w K mg base "_is_count" ["thing"] CX0 2 (spF K R_is_count) := by
  refine A.okD sc__is_count (fun ds d h => by obtain ⟨x, rfl, _⟩ := h; rfl) (fun f cdv A outer s H0 E hr => ⟨_, (pss_one (ps_ret (pe_and (pe_fn c_is_number hr (by omega) (by rfl) (pa_cons (pv 0) pa_nil)) (pe_one (pe_cmpR op_ge (pv 0) pe_int (nomark _)))))), fun vs H ds d r hv => ?_⟩)
  obtain ⟨x, rfl, rfl⟩ := r
  obtain ⟨v, rfl, hx⟩ := dpA1 hv
  have hv : EvD K (tVar 0) [some v] H x := ed_var rfl hx
  have hc := ed_call (R := R_is_number) (E := E0) (eds_cons hv eds_nil) ⟨x, rfl, rfl⟩
  cases x with
  | int i => exact exd_ret (ed_b (ev_andV (b := decide (0 ≤ i)) (ev_b hc) fun _ => ev_op (ev_i hv) ev_c rv_I0))
  | _ => exact exd_ret (ed_b (ev_andV (b := true) (ev_b hc) fun z => Bool.noConfusion z))
def R_is_side (ds : List PyData) (d : PyData) : Prop := ∃ i : Int, ds = [.int i] ∧ (i = 0 ∨ i = 1) ∧ d = .bool true
theorem d_is_side (B : Bt mg) (A : At K mg "_is_side" s__is_side ["thing"]) (c_is_number : Dfn P w K mg base "is_number" ["thing"] CX0 1 (spF K R_is_number)) : Dfn P w K mg base "_is_side" ["thing"] CX0 2 (spF K R_is_side) := by
  refine A.okD sc__is_side (fun ds d h => by obtain ⟨x, rfl, _⟩ := h; rfl) (fun f cdv A outer s H0 E hr => ⟨_, (pss_one (ps_ret (pe_and (pe_fn c_is_number hr (by omega) (by rfl) (pa_cons (pv 0) pa_nil)) (pe_one (pe_cmpR (r := rIn K false) op_in_seq (pv 0) (pe_tup (pa_cons pe_int (pa_cons pe_int pa_nil))) rfl))))), fun vs H ds d r hv => ?_⟩)
  obtain ⟨i, rfl, hi, rfl⟩ := r
  obtain ⟨v, rfl, hx⟩ := dpA1 hv
  have hv : EvD K (tVar 0) [some v] H (.int i) := ed_var rfl hx
  have hc := ed_call (R := R_is_number) (E := E0) (eds_cons hv eds_nil) ⟨_, rfl, rfl⟩
  refine exd_ret (ed_b (ev_is (ev_andV (ev_b hc) fun _ => ev_inU (xs := [.int 0, .int 1]) (ev_i hv) (eu_tup (ea_cons ev_c (ea_cons ev_c ea_nil)) (by decide)) rfl rfl) ?_))
  rcases hi with rfl | rfl <;> rfl
def imgD (s : Int) : PyData := .tuple [.str "image", .int s]
def R_is_image (ds : List PyData) (d : PyData) : Prop := ∃ s : Int, ds = [imgD s] ∧ 0 ≤ s ∧ d = .bool true
theorem d_is_image (B : Bt mg) (A : At K mg "is_image" s_is_image ["thing"]) (c_is_tuple_of : Dfn P w K mg base "is_tuple_of" ["thing", "many"] CX0 1 (spF K R_is_tuple_of))
    (c__is_count : Dfn P w K mg base "_is_count" ["thing"] CX0 2 (spF K R_is_count)) : Dfn P w K mg base "is_image" ["thing"] CX0 3 (spF K R_is_image) := by
  refine A.okD sc_is_image (fun ds d h => by obtain ⟨x, rfl, _⟩ := h; rfl) (fun f cdv A outer s H0 E hr => ⟨_, (pss_one (ps_ret (pe_and (pe_fn c_is_tuple_of hr (by omega) (by rfl) (pa_cons (pv 0) (pa_cons pe_int pa_nil))) (pe_and (pe_callB (r := rIsi K) call_isi (by rfl) B.isinstance (by decide +kernel) (pa_cons (pe_ix (r := rIx K) ix_seq (pv 0) pe_int (fun _ _ => rfl)) (pa_cons (pe_bltn (v := .ty "str") (by rfl) B.str (by decide +kernel) rfl) pa_nil))) (pe_and (pe_cmpR op_eq (pe_ix (r := rIx K) ix_seq (pv 0) pe_int (fun _ _ => rfl)) pe_str (nomark _)) (pe_one (pe_fn c__is_count hr (by omega) (by rfl) (pa_cons (pe_ix (r := rIx K) ix_seq (pv 0) pe_int (fun _ _ => rfl)) pa_nil)))))))), fun vs H ds d r hv => ?_⟩)
  obtain ⟨i, rfl, hi, rfl⟩ := r
  obtain ⟨v, rfl, hx⟩ := dpA1 hv
  have hv : EvD K (tVar 0) [some v] H (imgD i) := ed_var rfl hx
  have h1 := ed_call (R := R_is_tuple_of) (E := E0) (eds_cons hv (eds_cons ed_cint eds_nil)) ⟨_, 2, rfl, rfl⟩
  have g0 : EvD K (tOp (rIx K) (tVar 0) (tC (.int 0))) [some v] H (.str "image") := ed_ixT hv ev_c at0
  have g1 : EvD K (tOp (rIx K) (tVar 0) (tC (.int 1))) [some v] H (.int i) := ed_ixT hv ev_c at1
  have h2 := ed_call (R := R_is_count) (E := E0) (eds_cons g1 eds_nil) ⟨_, rfl, rfl⟩
  have hi' : isCnt (.int i) = true := decide_eq_true hi
  rw [hi'] at h2
  exact exd_ret (ed_b (ev_is (ev_andV (ev_b h1) fun _ => ev_andV (ev_isi g0 (kb_str _)) fun _ => ev_andV (ev_op (ev_s g0) ev_c (rv_eq rfl)) fun _ => ev_b h2) rfl))
def lockD (l : Int × Int × Int × Int) : PyData := .tuple [.int l.1, .int l.2.1, imgD l.2.2.1, .int l.2.2.2]
theorem lockD_flat (l : Int × Int × Int × Int) : flat (lockD l) = true := rfl
def lockOk (l : Int × Int × Int × Int) : Prop := (l.1 = 0 ∨ l.1 = 1) ∧ 1 ≤ l.2.1 ∧ 0 ≤ l.2.2.1 ∧ 0 ≤ l.2.2.2
def R_is_lock (ds : List PyData) (d : PyData) : Prop := ∃ l, ds = [lockD l] ∧ lockOk l ∧ d = .bool true
theorem d_is_lock (B : Bt mg) (A : At K mg "is_lock" s_is_lock ["thing"]) (c_is_tuple_of : Dfn P w K mg base "is_tuple_of" ["thing", "many"] CX0 1 (spF K R_is_tuple_of))
    (c__is_count : Dfn P w K mg base "_is_count" ["thing"] CX0 2 (spF K R_is_count)) (c__is_side : Dfn P w K mg base "_is_side" ["thing"] CX0 2 (spF K R_is_side))
    (c_is_image : Dfn P w K mg base "is_image" ["thing"] CX0 3 (spF K R_is_image)) : Dfn P w K mg base "is_lock" ["thing"] CX0 4 (spF K R_is_lock) := by
  refine A.okD sc_is_lock (fun ds d h => by obtain ⟨x, rfl, _⟩ := h; rfl) (fun f cdv A outer s H0 E hr => ⟨_, (pss_cons (ps_if (PW.pt (pw_or (pt_not (pt_val (pe_fn c_is_tuple_of hr (by omega) (by rfl) (pa_cons (pv 0) (pa_cons pe_int pa_nil))))) (pw_or (pt_not (pt_val (pe_fn c__is_side hr (by omega) (by rfl) (pa_cons (pe_ix (r := rIx K) ix_seq (pv 0) pe_int (fun _ _ => rfl)) pa_nil)))) (pw_or (pt_not (pt_val (pe_fn c__is_count hr (by omega) (by rfl) (pa_cons (pe_ix (r := rIx K) ix_seq (pv 0) pe_int (fun _ _ => rfl)) pa_nil)))) (pw_or1 (pt_cmpR op_eq (pe_ix (r := rIx K) ix_seq (pv 0) pe_int (fun _ _ => rfl)) pe_int (nomark _))))))) (pss_one (ps_ret pe_bl)) pss_nil) (pss_one (ps_ret (pe_and (pe_fn c_is_image hr (by omega) (by rfl) (pa_cons (pe_ix (r := rIx K) ix_seq (pv 0) pe_int (fun _ _ => rfl)) pa_nil)) (pe_one (pe_fn c__is_count hr (by omega) (by rfl) (pa_cons (pe_ix (r := rIx K) ix_seq (pv 0) pe_int (fun _ _ => rfl)) pa_nil))))))), fun vs H ds d r hv => ?_⟩)
  obtain ⟨⟨p, a, s, e⟩, rfl, ⟨hp, ha, hs, he⟩, rfl⟩ := r
  have ha : 1 ≤ a := ha
  obtain ⟨v, rfl, hx⟩ := dpA1 hv
  have hv : EvD K (tVar 0) [some v] H (lockD (p, a, s, e)) := ed_var rfl hx
  have g0 : EvD K (tOp (rIx K) (tVar 0) (tC (.int 0))) [some v] H (.int p) := ed_ixT hv ev_c at0
  have g1 : EvD K (tOp (rIx K) (tVar 0) (tC (.int 1))) [some v] H (.int a) := ed_ixT hv ev_c at1
  have g2 : EvD K (tOp (rIx K) (tVar 0) (tC (.int 2))) [some v] H (imgD s) := ed_ixT hv ev_c at2
  have g3 : EvD K (tOp (rIx K) (tVar 0) (tC (.int 3))) [some v] H (.int e) := ed_ixT hv ev_c at3
  have h1 := ed_call (R := R_is_tuple_of) (E := E0) (eds_cons hv (eds_cons ed_cint eds_nil)) ⟨_, 4, rfl, rfl⟩
  have h2 := ed_call (R := R_is_side) (E := E0) (eds_cons g0 eds_nil) ⟨p, rfl, hp, rfl⟩
  have h3 := ed_call (R := R_is_count) (E := E0) (d := .bool true) (eds_cons g1 eds_nil) ⟨_, rfl, by rw [show isCnt (.int a) = true from decide_eq_true (by omega)]⟩
  have h4 := ed_call (R := R_is_image) (E := E0) (eds_cons g2 eds_nil) ⟨s, rfl, hs, rfl⟩
  have h5 := ed_call (R := R_is_count) (E := E0) (d := .bool true) (eds_cons g3 eds_nil) ⟨_, rfl, by rw [show isCnt (.int e) = true from decide_eq_true he]⟩
  intro Q q
  refine q_no (et_is (et_or (et_not (et_B (ev_b h1))) fun _ => et_or (et_not (et_B (ev_b h2))) fun _ => et_or (et_not (et_B (ev_b h3))) fun _ => et_T (ev_op (ev_i g1) ev_c (rv_eq rfl))) ?_) fun H1 e1 => ?_
  · rw [dec_ii, show decide (a = 0) = false from decide_eq_false (by omega)]
    rfl
  · exact s_rd (D := { nx := _, rt := Q }) (d := .bool true) ((ed_b (ev_andV (b := true) (ev_b h4) fun _ => ev_b h5)).mono e1) fun v H2 e hd => q v H2 (e1.trans e) hd
structure Sheet where
  k : Int
  num : Int
  a : Int
  b : Int
  locks : List (Int × Int × Int × Int)
def sumsD (a b : Int) : PyData := .tuple [.int a, .int b]
def locksD (l : List (Int × Int × Int × Int)) : PyData := .tuple (l.map lockD)
def sheetD (s : Sheet) : PyData := .tuple [.int s.k, .int s.num, sumsD s.a s.b, locksD s.locks]
theorem sheetD_flat (s : Sheet) : flat (sheetD s) = true := by
  show (true && (true && (true && (flat (locksD s.locks) && true)))) = true
  rw [show flat (locksD s.locks) = true from flatA_map lockD_flat _]
  rfl
def totM (s : Sheet) : Int := s.a + s.b + (s.locks.map fun l => l.2.1).sum
def R_total (ds : List PyData) (d : PyData) : Prop := ∃ s : Sheet, ds = [sheetD s] ∧ s.locks.length ≤ 100 ∧ d = .int (totM s)
theorem d_total (B : Bt mg) (A : At K mg "total" s_total ["sheet"]) : Dfn P w K mg base "total" ["sheet"] CX0 1 (spF K R_total) := by
  refine A.okD sc_total (fun ds d h => by obtain ⟨x, rfl, _⟩ := h; rfl) (fun f cdv A outer s H0 E hr => ⟨_, (pss_one (ps_ret (pe_op op_add (pe_callB (r := rSumT K) (cr_sumT rfl) (by rfl) B.sum (by decide +kernel) (pa_cons (pe_ix (r := rIx K) ix_seq (pv 0) pe_int (fun _ _ => rfl)) pa_nil)) (pe_callB (r := rSum K) (cr_sum rfl) (by rfl) B.sum (by decide +kernel) (pa_cons (pe_lc (own := [("lock", 1)]) (g := gName 1) rfl sc_total.nd (pi_any (pe_ix (r := rIx K) ix_seq (pv 0) pe_int (fun _ _ => rfl))) (blkOk_by (own := [("lock", 1)]) (N := ["sheet", "lock"]) (sc := defScope s_total) (by decide +kernel)) (fun _ _ _ _ _ => (pg_name (i := 1) sc_total.nd rfl (Or.inl rfl))) (fun _ _ _ _ _ => pts_nil) (fun _ _ _ _ _ => (pe_ix (r := rIx K) ix_seq (pv 1) pe_int (fun _ _ => rfl)))) pa_nil))))), fun vs H ds d r hv => ?_⟩)
  obtain ⟨s, rfl, hl, rfl⟩ := r
  obtain ⟨v, rfl, hx⟩ := dpA1 hv
  have hv : EvD K (tVar 0) [some v, none] H (sheetD s) := ed_var rfl hx
  have g2 : EvD K (tOp (rIx K) (tVar 0) (tC (.int 2))) [some v, none] H (sumsD s.a s.b) := ed_ixT hv ev_c at2
  have g3 : EvD K (tOp (rIx K) (tVar 0) (tC (.int 3))) [some v, none] H (locksD s.locks) := ed_ixT hv ev_c at3
  refine exd_ret (ed_i (ev_op (ev_sumT g2) (ev_sumL (ns := s.locks.map fun l => l.2.1) ?_) rv_I0))
  rw [List.map_map]
  refine EvDL.toD ?_
  exact edl_map (xs := s.locks) (f := lockD) (g := fun l => .int l.2.1) (ei_T g3) (by omega) (fun _ => rfl) fun l hl x H1 e1 hx => ⟨ed_ixT (ed_var rfl hx) ev_c at1, rfl⟩

/-! ### looks -/
def R_look_at (ds : List PyData) (d : PyData) : Prop := ∃ t dl lk wt m, ds = [t, .int m] ∧ Tm t dl lk wt ∧ d = .int (lookAt lk m)
theorem d_look_at (B : Bt mg) (A : At K mg "look_at" s_look_at ["times", "moment"]) : Dfn P w K mg base "look_at" ["times", "moment"] CX0 1 (spF K R_look_at) := by
  refine A.okD sc_look_at (fun ds d h => by obtain ⟨t, dl, lk, wt, m, rfl, _⟩ := h; rfl) (fun f cdv A outer s H0 E hr => ⟨_, (pss_one (ps_ret (pe_op op_mul (pe_ix (r := rIx K) ix_seq (pv 0) pe_int (fun _ _ => rfl)) (pe_un un_neg (pe_op op_fdivN (pe_un un_neg (pv 1)) (pe_ix (r := rIx K) ix_seq (pv 0) pe_int (fun _ _ => rfl))))))), fun vs H ds d r hv => ?_⟩)
  obtain ⟨t, dl, lk, wt, m, rfl, ⟨ht, l1, l2⟩, rfl⟩ := r
  obtain ⟨v, u, rfl, hx, hm⟩ := dpA2 hv
  have em := dp_vint hm
  subst em
  have g1 : Ev (tOp (rIx K) (tVar 0) (tC (.int 1))) [some v, some (.int m)] H (.int lk) := ev_ixS (ed_var rfl hx) ht ev_c at1
  exact exd_ret (ed_i (ev_op g1 (ev_un (ev_op (ev_un (ev_var rfl) ru_neg) g1 (rv_I ⟨by omega, by omega⟩)) ru_neg) (rv_I (.inl ⟨by omega, by omega⟩))))
def R_look_by (ds : List PyData) (d : PyData) : Prop := ∃ t dl lk wt m, ds = [t, .int m] ∧ Tm t dl lk wt ∧ d = optI (lookBy lk m)
theorem d_look_by (B : Bt mg) (A : At K mg "look_by" s_look_by ["times", "moment"]) : Dfn P w K mg base "look_by" ["times", "moment"] CX0 1 (spF K R_look_by) := by
  refine A.okD sc_look_by (fun ds d h => by obtain ⟨t, dl, lk, wt, m, rfl, _⟩ := h; rfl) (fun f cdv A outer s H0 E hr => ⟨_, (pss_one (ps_ret (pe_ifExp (pt_cmpR op_lt (pv 1) pe_int (nomark _)) pe_non (pe_op op_mul (pe_ix (r := rIx K) ix_seq (pv 0) pe_int (fun _ _ => rfl)) (pe_op op_fdivN (pv 1) (pe_ix (r := rIx K) ix_seq (pv 0) pe_int (fun _ _ => rfl))))))), fun vs H ds d r hv => ?_⟩)
  obtain ⟨t, dl, lk, wt, m, rfl, ⟨ht, l1, l2⟩, rfl⟩ := r
  obtain ⟨v, u, rfl, hx, hm⟩ := dpA2 hv
  have em := dp_vint hm
  subst em
  have g1 : Ev (tOp (rIx K) (tVar 0) (tC (.int 1))) [some v, some (.int m)] H (.int lk) := ev_ixS (ed_var rfl hx) ht ev_c at1
  refine exd_ret (ed_if (et_T (ev_op (ev_var rfl) ev_c rv_I0)) (fun z => ?_) (fun z => ?_))
  · have z' : m < 0 := of_decide_eq_true z
    unfold lookBy
    rw [if_pos z']
    exact ed_cnon
  · have z' : ¬ m < 0 := of_decide_eq_false z
    unfold lookBy
    rw [if_neg z']
    exact ed_i (ev_op g1 (ev_op (ev_var rfl) g1 (rv_I ⟨by omega, by omega⟩)) (rv_I (.inl ⟨by omega, by omega⟩)))
def R_show_by (ds : List PyData) (d : PyData) : Prop := ∃ t dl lk wt m, ds = [t, .int m] ∧ Tm t dl lk wt ∧ d = optI (showBy dl lk m)
theorem d_show_by (B : Bt mg) (A : At K mg "show_by" s_show_by ["times", "end"]) (c_look_by : Dfn P w K mg base "look_by" ["times", "moment"] CX0 1 (spF K R_look_by)) : Dfn P w K mg base "show_by" ["times", "end"] CX0 2 (spF K R_show_by) := by
  refine A.okD sc_show_by (fun ds d h => by obtain ⟨t, dl, lk, wt, m, rfl, _⟩ := h; rfl) (fun f cdv A outer s H0 E hr => ⟨_, (pss_one (ps_ret (pe_fn c_look_by hr (by omega) (by rfl) (pa_cons (pv 0) (pa_cons (pe_op op_sub (pv 1) (pe_ix (r := rIx K) ix_seq (pv 0) pe_int (fun _ _ => rfl))) pa_nil))))), fun vs H ds d r hv => ?_⟩)
  obtain ⟨t, dl, lk, wt, m, rfl, ht, rfl⟩ := r
  obtain ⟨v, u, rfl, hx, hm⟩ := dpA2 hv
  have em := dp_vint hm
  subst em
  have hv : EvD K (tVar 0) [some v, some (.int m)] H t := ed_var rfl hx
  exact exd_ret (ed_call (eds_cons hv (eds_cons (ed_i (ev_op (ev_var rfl) (ev_ixS hv ht.1 ev_c at0) rv_I0)) eds_nil)) ⟨t, dl, lk, wt, m - dl, rfl, ht, rfl⟩)
def R_close_by (ds : List PyData) (d : PyData) : Prop := ∃ t dl lk wt m, ds = [t, .int m] ∧ Tm t dl lk wt ∧ d = optI (closeBy dl lk m)
theorem d_close_by (B : Bt mg) (A : At K mg "close_by" s_close_by ["times", "end"]) (c_look_by : Dfn P w K mg base "look_by" ["times", "moment"] CX0 1 (spF K R_look_by)) (c_show_by : Dfn P w K mg base "show_by" ["times", "end"] CX0 2 (spF K R_show_by)) :
    Dfn P w K mg base "close_by" ["times", "end"] CX0 3 (spF K R_close_by) := by
  refine A.okD sc_close_by (fun ds d h => by obtain ⟨t, dl, lk, wt, m, rfl, _⟩ := h; rfl) (fun f cdv A outer s H0 E hr => ⟨_, (pss_cons (ps_set (i := 2) sc_close_by.nd rfl (Or.inl rfl) (pe_fn c_show_by hr (by omega) (by rfl) (pa_cons (pv 0) (pa_cons (pv 1) pa_nil)))) (pss_one (ps_ret (pe_ifExp (pt_cmpR (r := KD.rIsN) op_isN (pv 2) pe_non (nomark _)) pe_non (pe_fn c_look_by hr (by omega) (by rfl) (pa_cons (pv 0) (pa_cons (pe_op op_sub (pv 2) (pe_ix (r := rIx K) ix_seq (pv 0) pe_int (fun _ _ => rfl))) pa_nil))))))), fun vs H ds d r hv => ?_⟩)
  obtain ⟨t, dl, lk, wt, m, rfl, ht, rfl⟩ := r
  obtain ⟨v, u, rfl, hx, hm⟩ := dpA2 hv
  have em := dp_vint hm
  subst em
  intro Q q
  refine q_d (ed_call (R := R_show_by) (E := E0) (d := optI (showBy dl lk m)) (eds_cons (ed_var rfl hx) (eds_cons (ed_i (ev_var rfl)) eds_nil)) ⟨t, dl, lk, wt, m, rfl, ht, rfl⟩) fun l H1 e1 hl => ?_
  have hv : EvD K (tVar 0) [some v, some (.int m), some l] H1 t := ed_var rfl (dpe hx e1)
  have hl' : EvD K (tVar 2) [some v, some (.int m), some l] H1 (optI (showBy dl lk m)) := ed_var rfl hl
  refine s_rd (D := { nx := _, rt := Q }) (d := optI (closeBy dl lk m)) ?_ fun v H2 e hd => q v H2 (e1.trans e) hd
  unfold closeBy
  cases hs : showBy dl lk m with
  | none =>
    rw [hs] at hl'
    exact ed_if (et_T (ev_isN hl')) (fun _ => ed_cnon) (fun z => Bool.noConfusion z)
  | some y =>
    rw [hs] at hl'
    exact ed_if (et_T (ev_isN hl')) (fun z => Bool.noConfusion z) (fun _ => ed_call (eds_cons hv (eds_cons (ed_i (ev_op (ev_i hl') (ev_ixS hv ht.1 ev_c at0) rv_I0)) eds_nil)) ⟨t, dl, lk, wt, y - dl, rfl, ht, rfl⟩)
def R_least_in (ds : List PyData) (d : PyData) : Prop := ∃ t dl lk wt m, ds = [t, .int m] ∧ Tm t dl lk wt ∧ d = .int (leastIn dl lk m)
theorem d_least_in (B : Bt mg) (A : At K mg "least_in_end" s_least_in_end ["times", "out_end"]) (c_look_at : Dfn P w K mg base "look_at" ["times", "moment"] CX0 1 (spF K R_look_at)) : Dfn P w K mg base "least_in_end" ["times", "out_end"] CX0 2 (spF K R_least_in) := by
  refine A.okD sc_least_in_end (fun ds d h => by obtain ⟨t, dl, lk, wt, m, rfl, _⟩ := h; rfl) (fun f cdv A outer s H0 E hr => ⟨_, (pss_one (ps_ret (pe_op op_add (pe_fn c_look_at hr (by omega) (by rfl) (pa_cons (pv 0) (pa_cons (pv 1) pa_nil))) (pe_ix (r := rIx K) ix_seq (pv 0) pe_int (fun _ _ => rfl))))), fun vs H ds d r hv => ?_⟩)
  obtain ⟨t, dl, lk, wt, m, rfl, ht, rfl⟩ := r
  obtain ⟨v, u, rfl, hx, hm⟩ := dpA2 hv
  have em := dp_vint hm
  subst em
  have hv : EvD K (tVar 0) [some v, some (.int m)] H t := ed_var rfl hx
  exact exd_ret (ed_i (ev_op (ev_i (ed_call (R := R_look_at) (eds_cons hv (eds_cons (ed_i (ev_var rfl)) eds_nil)) ⟨t, dl, lk, wt, m, rfl, ht, rfl⟩)) (ev_ixS hv ht.1 ev_c at0) rv_I0))
def R_enough (ds : List PyData) (d : PyData) : Prop := ∃ t dl lk wt i m, ds = [t, .int i, .int m] ∧ Tm t dl lk wt ∧ d = .bool (decide (leastIn dl lk m ≤ i))
theorem d_enough (B : Bt mg) (A : At K mg "enough_gap" s_enough_gap ["times", "in_end", "out_end"]) (c_least_in_end : Dfn P w K mg base "least_in_end" ["times", "out_end"] CX0 2 (spF K R_least_in)) : Dfn P w K mg base "enough_gap" ["times", "in_end", "out_end"] CX0 3 (spF K R_enough) := by
  refine A.okD sc_enough_gap (fun ds d h => by obtain ⟨t, dl, lk, wt, i, m, rfl, _⟩ := h; rfl) (fun f cdv A outer s H0 E hr => ⟨_, (pss_one (ps_ret (pe_cmpR op_ge (pv 1) (pe_fn c_least_in_end hr (by omega) (by rfl) (pa_cons (pv 0) (pa_cons (pv 2) pa_nil))) (nomark _)))), fun vs H ds d r hv => ?_⟩)
  obtain ⟨t, dl, lk, wt, i, m, rfl, ht, rfl⟩ := r
  obtain ⟨v, u, y, rfl, hx, hi, hm⟩ := dpA3 hv
  have em := dp_vint hm
  have ei := dp_vint hi
  subst em ei
  have hv : EvD K (tVar 0) [some v, some (.int i), some (.int m)] H t := ed_var rfl hx
  exact exd_ret (ed_b (ev_op (ev_var rfl) (ev_i (ed_call (R := R_least_in) (eds_cons hv (eds_cons (ed_i (ev_var rfl)) eds_nil)) ⟨t, dl, lk, wt, m, rfl, ht, rfl⟩)) rv_I0))
def R_image_of (ds : List PyData) (d : PyData) : Prop := ∃ s : Int, ds = [.int s] ∧ d = imgD s
theorem d_image_of (B : Bt mg) (A : At K mg "image_of" s_image_of ["secret"]) : Dfn P w K mg base "image_of" ["secret"] CX0 1 (spF K R_image_of) := by
  refine A.okD sc_image_of (fun ds d h => by obtain ⟨x, rfl, _⟩ := h; rfl) (fun f cdv A outer s H0 E hr => ⟨_, (pss_one (ps_ret (pe_tup (pa_cons pe_str (pa_cons (pv 0) pa_nil))))), fun vs H ds d r hv => ?_⟩)
  obtain ⟨i, rfl, rfl⟩ := r
  obtain ⟨v, rfl, hx⟩ := dpA1 hv
  exact exd_ret (ed_tup (eds_cons ed_cstr (eds_cons (ed_var rfl hx) eds_nil)) (le5 rfl))

/-! ### channels and sides -/
def R_sure (ds : List PyData) (d : PyData) : Prop := ∃ n es c, ds = [n, .int c] ∧ Sq n = some es ∧ 0 ≤ c ∧ c < (es.length : Int) ∧ d = .none
theorem d_sure (B : Bt mg) (A : At K mg "sure_channel" s_sure_channel ["net", "channel"]) : Dfn P w K mg base "sure_channel" ["net", "channel"] CX0 1 (spF K R_sure) := by
  refine A.okD sc_sure_channel (fun ds d h => by obtain ⟨n, es, c, rfl, _⟩ := h; rfl) (fun f cdv A outer s H0 E hr => ⟨_, (pss_one (ps_if (pt_not (pt_chain op_le op_lt pe_int (pv 1) (pe_callB (r := rLenS K) call_len_seq (by rfl) B.len PySem.boot_len (pa_cons (pv 0) pa_nil)))) (pss_one ps_never) pss_nil)), fun vs H ds d r hv => ?_⟩)
  obtain ⟨n, es, c, rfl, hn, h0, h1, rfl⟩ := r
  obtain ⟨v, u, rfl, hx, hm⟩ := dpA2 hv
  have em := dp_vint hm
  subst em
  have hv : EvD K (tVar 0) [some v, some (.int c)] H n := ed_var rfl hx
  intro Q q
  refine s_when (b := false) (et_is (et_not (et_test (ev_chain (b := decide (0 ≤ c)) (c := decide (c < (es.length : Int))) ev_c (ev_var rfl) rv_I0 (fun _ => ev_lenS hv hn) fun _ => rv_I0))) ?_) (fun z => Bool.noConfusion z) fun _ H1 e1 => q .non H1 e1 .non
  rw [decide_eq_true h0, decide_eq_true h1]
  rfl
theorem netD_at {N : List Ch} {c : Int} (h : inN N c) : atI (N.map chD) c = some (chD (chOf N c)) := by
  obtain ⟨h0, h1⟩ := h
  obtain ⟨n, rfl⟩ := Int.eq_ofNat_of_zero_le h0
  refine atI_nat ?_
  rw [List.getElem?_map]
  unfold chOf
  rw [Int.toNat_natCast, List.getD_eq_getElem?_getD, List.getElem?_eq_getElem (show n < N.length by omega)]
  rfl
theorem isN_optI (o : Option Int) : isN (optI o) = !o.isSome := by cases o <;> rfl
def R_side_of (ds : List PyData) (d : PyData) : Prop := ∃ N c p, ds = [netD N, .int c, .int p] ∧ inN N c ∧ d = optI (sideOf N c p)
theorem d_side_of (B : Bt mg) (A : At K mg "side_of" s_side_of ["net", "channel", "person"]) (c_sure_channel : Dfn P w K mg base "sure_channel" ["net", "channel"] CX0 1 (spF K R_sure)) : Dfn P w K mg base "side_of" ["net", "channel", "person"] CX0 2 (spF K R_side_of) := by
  refine A.okD sc_side_of (fun ds d h => by obtain ⟨n, c, p, rfl, _⟩ := h; rfl) (fun f cdv A outer s H0 E hr => ⟨_, (pss_cons (ps_expr (pe_fn c_sure_channel hr (by omega) (by rfl) (pa_cons (pv 0) (pa_cons (pv 1) pa_nil)))) (pss_cons (ps_if (pt_cmpR op_eq (pe_ix (r := rIx K) ix_seq (pe_ix (r := rIx K) ix_seq (pv 0) (pv 1) (fun _ _ => rfl)) pe_int (fun _ _ => rfl)) (pv 2) (nomark _)) (pss_one (ps_ret pe_int)) pss_nil) (pss_one (ps_ret (pe_ifExp (pt_cmpR op_eq (pe_ix (r := rIx K) ix_seq (pe_ix (r := rIx K) ix_seq (pv 0) (pv 1) (fun _ _ => rfl)) pe_int (fun _ _ => rfl)) (pv 2) (nomark _)) pe_int pe_non))))), fun vs H ds d r hv => ?_⟩)
  obtain ⟨N, c, p, rfl, hc, rfl⟩ := r
  obtain ⟨v, u, y, rfl, hx, h1, h2⟩ := dpA3 hv
  have e1 := dp_vint h1
  have e2 := dp_vint h2
  subst e1 e2
  have hv : EvD K (tVar 0) [some v, some (.int c), some (.int p)] H (netD N) := ed_var rfl hx
  intro Q q
  refine q_drop (v := .non) (ev_n (ed_call (R := R_sure) (eds_cons hv (eds_cons (ed_i (ev_var rfl)) eds_nil)) ⟨_, _, c, rfl, rfl, hc.1, by rw [List.length_map]; exact hc.2, rfl⟩)) fun H1 x1 => ?_
  have hv1 := hv.mono x1
  have gc : EvD K (tOp (rIx K) (tVar 0) (tVar 1)) [some v, some (.int c), some (.int p)] H1 (chD (chOf N c)) := ed_ixT hv1 (ev_var rfl) (netD_at hc)
  have g0 : Ev (tOp (rIx K) (tOp (rIx K) (tVar 0) (tVar 1)) (tC (.int 0))) [some v, some (.int c), some (.int p)] H1 (.int (chOf N c).1) := ev_i (ed_ixT gc ev_c at0)
  have g1 : Ev (tOp (rIx K) (tOp (rIx K) (tVar 0) (tVar 1)) (tC (.int 1))) [some v, some (.int c), some (.int p)] H1 (.int (chOf N c).2.1) := ev_i (ed_ixT gc ev_c at1)
  unfold sideOf sideIn at q
  refine q_when (et_T (ev_op g0 (ev_var rfl) (rv_eq rfl))) (fun z H2 x2 => ?_) (fun z H2 x2 => ?_)
  · rw [dec_ii] at z
    rw [if_pos (of_decide_eq_true z)] at q
    exact s_rd (D := { nx := _, rt := Q }) (d := .int 0) ed_cint fun v H3 x3 hd => q v H3 ((x1.trans x2).trans x3) hd
  · rw [dec_ii] at z
    rw [if_neg (of_decide_eq_false z)] at q
    refine s_rd (D := { nx := _, rt := Q }) (ed_if (et_T (ev_op (g1.mono x2) (ev_var rfl) (rv_eq rfl))) (fun z2 => ?_) (fun z2 => ?_)) fun v H3 x3 hd => q v H3 ((x1.trans x2).trans x3) hd
    · rw [dec_ii] at z2
      rw [if_pos (of_decide_eq_true z2)]
      exact ed_cint
    · rw [dec_ii] at z2
      rw [if_neg (of_decide_eq_false z2)]
      exact ed_cnon
def R_channels_of (ds : List PyData) (d : PyData) : Prop := ∃ N p, ds = [netD N, .int p] ∧ N.length ≤ 1000 ∧ d = rowD (chansOf N p)
theorem d_channels_of (B : Bt mg) (A : At K mg "channels_of" s_channels_of ["net", "person"]) (c_side_of : Dfn P w K mg base "side_of" ["net", "channel", "person"] CX0 2 (spF K R_side_of)) : Dfn P w K mg base "channels_of" ["net", "person"] CX0 3 (spF K R_channels_of) := by
  refine A.okD sc_channels_of (fun ds d h => by obtain ⟨n, p, rfl, _⟩ := h; rfl) (fun f cdv A outer s H0 E hr => ⟨_, (pss_one (ps_ret (pe_callTy (r := rTupleOf K) call_tuple_of (by rfl) B.tuple (by decide +kernel) (pa_cons (pe_lc (own := [("channel", 2)]) (g := gName 2) rfl sc_channels_of.nd (pi_range1 (by rfl) B.range (pa_cons (pe_callB (r := rLenS K) call_len_seq (by rfl) B.len PySem.boot_len (pa_cons (pv 0) pa_nil)) pa_nil)) (blkOk_by (own := [("channel", 2)]) (N := ["net", "person", "channel"]) (sc := defScope s_channels_of) (by decide +kernel)) (fun _ _ _ _ _ => (pg_name (i := 2) sc_channels_of.nd rfl (Or.inl rfl))) (fun _ _ _ _ _ => (pts_one (pt_cmpR (r := KD.rNotN) op_notN (pe_fn c_side_of hr (by omega) (by rfl) (pa_cons (pv 0) (pa_cons (pv 2) (pa_cons (pv 1) pa_nil)))) pe_non (nomark _)))) (fun _ _ _ _ _ => (pv 2))) pa_nil)))), fun vs H ds d r hv => ?_⟩)
  obtain ⟨N, p, rfl, hl, rfl⟩ := r
  obtain ⟨v, u, rfl, hx, h1⟩ := dpA2 hv
  have e1 := dp_vint h1
  subst e1
  have hv' := hx
  have hv : EvD K (tVar 0) [some v, some (.int p), none] H (netD N) := ed_var rfl hx
  have hr1 := ei_r1 (K := K) (ev_lenT hv) ⟨by omega, by rw [List.length_map]; omega⟩
  rw [List.length_map, Int.toNat_natCast] at hr1
  refine exd_ret (ed_is (ed_tupleL (edl_lc1 (o := fun (c : Nat) => if (sideOf N c p).isSome then some (.int (c : Int)) else none) hr1 (by rw [List.length_range]; omega) (fun _ => rfl) fun c hc x H1 e1 hx => ?_).toD) ?_)
  · have hc' := List.mem_range.mp hc
    have ex : x = .int (c : Int) := by rw [dp_vint hx, Int.zero_add]
    subst ex
    have hs := ed_call (R := R_side_of) (E := E0) (σ := [some v, some (.int p), some (.int (c : Int))]) (eds_cons (ed_var (i := 0) rfl (dpe hv' e1)) (eds_cons (ed_i (ev_var (i := 2) (v := .int (c : Int)) rfl)) (eds_cons (ed_i (ev_var (i := 1) (v := .int p) rfl)) eds_nil))) ⟨N, c, p, rfl, ⟨by omega, by omega⟩, rfl⟩
    refine ⟨et_is (et_T (ev_notN hs)) ?_, fun d' ed => ?_⟩
    · rw [isN_optI, Bool.not_not]
      cases q : (sideOf N c p).isSome <;> simp [q]
    · have e2 : d' = .int (c : Int) := by
        split at ed
        · exact (Option.some.inj ed).symm
        · cases ed
      subst e2
      exact ⟨ed_i (ev_var rfl), rfl⟩
  · unfold rowD chansOf
    rw [List.map_map]
    congr 1
    rw [← List.filterMap_eq_map, ← List.filterMap_eq_filter, List.filterMap_filterMap]
    congr 1
    funext c
    cases q : (sideOf N c p).isSome <;> simp [Option.guard, q]
end
end KT

set_option Elab.async false
set_option linter.all false
set_option autoImplicit false
set_option maxRecDepth 100000
set_option maxHeartbeats 4000000
/-! Kf: least_ends, people_along, walked, sides, most_over. -/
namespace KT
open PySem PySem.Spec PyProof.Rows L2 Evl KD KM

/-! ### loops while a list changes -/
def EvIS (K : PySem.W.Frag) (wi : TI) (σ : L2.St) (H : Hp) (S : Hp → Prop) (ds : List PyData) : Prop := ∀ R : It → Hp → Prop, (∀ J H2, Ex H H2 → ItP K S J ds → R J H2) → wi σ H R
section
variable {K : PySem.W.Frag} {σ : L2.St} {H Hb : Hp} {ta tb te : TE} {d : PyData} {ds : List PyData} {v : V} {D : Ends} {tu tz : TS} {g : TG} {wi : TI} {S : Hp → Prop}
theorem eis_var {i : Nat} (hσ : σ[i]? = some (some v)) (hv : Dp K Hb v d) (hs : Sq d = some ds) (e : Ex Hb H) : EvIS K (iAny K (tVar i)) σ H (Ex Hb) ds := fun R k => by
  obtain ⟨a, b, xs, rfl, h1, h2⟩ := dp_sq hv hs
  refine ⟨.ref a, hσ, a, rfl, ?_⟩
  cases b with
  | true => exact .inl ⟨xs, ex_l e h1, k _ H (Ex.refl H) (itp_l fun H3 e3 => ⟨ex_l e3 h1, dpeA h2 e3⟩)⟩
  | false => exact .inr ⟨xs, ex_t e h1, k _ H (Ex.refl H) (itp_t fun H3 e3 => ⟨ex_t e3 h1, dpeA h2 e3⟩)⟩
/-- a return of data, Q's word known ahead -/
theorem s_rq {H0 : Hp} {Q : VK} (h : EvD K te σ H d) (q : ∀ v H2, Ex H0 H2 → Dp K H2 v d → Q v H2) (e : Ex H0 H) (hD : D.rt = Q := by rfl) : tRet te D σ H := s_rd h fun v H1 e1 hd => by
  rw [hD]
  exact q v H1 (e.trans e1) hd
theorem q_forS (h : EvIS K wi σ H S ds) (Pv : Nat → L2.St → Hp → Prop) (h0 : ∀ H1, Ex H H1 → Pv 0 σ H1) (hS : ∀ i σ H, Pv i σ H → S H)
    (hs : ∀ i d σ H x H', ds[i]? = some d → Pv i σ H → Ex H H' → Dp K H' x d → g x σ H' fun σ2 H2 => tu { D with nx := Pv (i + 1), ct := Pv (i + 1), bk := tz D } σ2 H2) (hd : ∀ σ H, Pv ds.length σ H → tz D σ H) : tSeq (tFor wi g tu) tz D σ H :=
  h _ fun J H2 e hj => loop_by (D := { D with nx := tz D }) hj Pv (h0 H2 e) hS hs hd
theorem s_forS (h : EvIS K wi σ H S ds) (Pv : Nat → L2.St → Hp → Prop) (h0 : ∀ H1, Ex H H1 → Pv 0 σ H1) (hS : ∀ i σ H, Pv i σ H → S H)
    (hs : ∀ i d σ H x H', ds[i]? = some d → Pv i σ H → Ex H H' → Dp K H' x d → g x σ H' fun σ2 H2 => tu { D with nx := Pv (i + 1), ct := Pv (i + 1), bk := D.nx } σ2 H2) (hd : ∀ σ H, Pv ds.length σ H → D.nx σ H) : tFor wi g tu D σ H :=
  h _ fun J H2 e hj => loop_by hj Pv (h0 H2 e) hS hs hd
def rIns : V → List V → Hp → VK → Prop := fun x vs H Q => ∃ (l : Addr) (xs : List V) (i : Int) (y : V), x = .ref l ∧ vs = [.int i, y] ∧ H l = some (.lst xs) ∧ xs.length < sizeLine ∧ 0 ≤ i ∧ i < 2 ^ 63 ∧
  Q .non (upd H l (.lst (xs.take i.toNat ++ [y] ++ xs.drop i.toNat)))
theorem s_ins0 {l : Addr} {xs : List V} (hl : H l = some (.lst xs)) (ha : Ev ta σ H (.ref l)) (h : Ev te σ H v) (hz : xs.length < 100000) (k : ∀ H1, Ex H H1 → D.nx σ (upd H1 l (.lst (v :: xs)))) :
    tDrop (tBM K "list" rIns ta (tCons (tC (.int 0)) (tCons te tNil))) D σ H := ha H (Ex.refl H) _ fun H1 e1 =>
  ⟨Or.inl ⟨rfl, xs, sq_of (e1 l _ hl)⟩, h H1 e1 _ fun H2 e2 => ⟨l, xs, 0, v, rfl, rfl, e2 l _ (e1 l _ hl), sz_lt hz, by decide, by decide, k H2 (e1.trans e2)⟩⟩
/-- a list of ints that stands at l, as data -/
theorem ed_at {i : Nat} {l : Addr} {xs : List V} {ds : List PyData} (hσ : σ[i]? = some (some (.ref l))) (hl : H l = some (.lst xs)) (hd : DpAll K H xs ds) : EvD K (tVar i) σ H (.list ds) := ed_var hσ (.lst (sq_of hl) hd)
theorem ed_atI {i : Nat} {l : Addr} {ns : List Int} (hσ : σ[i]? = some (some (.ref l))) (hl : H l = some (.lst (ns.map V.int))) : EvD K (tVar i) σ H (.list (ns.map .int)) := ed_at hσ hl (ints_dpA ns)
end
theorem atI_lastD (f : List Int) (h : f ≠ []) : atI (f.map PyData.int) (-1) = some (.int (f.getLastD 0)) := by
  have e : f = f.dropLast ++ [f.getLast h] := (List.dropLast_concat_getLast h).symm
  rw [e, List.map_append, getLastD_app]
  exact atI_last _ _

section
variable {P : Program} {w : World} {K : PySem.W.Frag} {mg : Str → Option Value} {base : Heap}

def R_least_ends (ds : List PyData) (d : PyData) : Prop := ∃ t dl lk wt n m, ds = [t, .int n, .int m] ∧ Tm t dl lk wt ∧ 1 ≤ n ∧ n ≤ 1000 ∧ d = rowD (leastEnds dl lk (n - 1).toNat [m])
theorem d_least_ends (B : Bt mg) (A : At K mg "least_ends" s_least_ends ["times", "many", "last"]) (c_least_in_end : Dfn P w K mg base "least_in_end" ["times", "out_end"] CX0 2 (spF K R_least_in)) : Dfn P w K mg base "least_ends" ["times", "many", "last"] CX0 3 (spF K R_least_ends) := by
  refine A.okD sc_least_ends (fun ds d h => by obtain ⟨t, dl, lk, wt, n, m, rfl, _⟩ := h; rfl) (fun f cdv A outer s H0 E hr => ⟨_, (pss_cons (ps_set (i := 3) sc_least_ends.nd rfl (Or.inl rfl) (pe_lst (pa_cons (pv 2) pa_nil))) (pss_cons (ps_for PassesOwn.never rfl (pi_range1 (by rfl) B.range (pa_cons (pe_op op_sub (pv 1) pe_int) pa_nil)) (pg_name (i := 4) sc_least_ends.nd rfl (Or.inl rfl)) (pss_one (ps_expr (pe_bm PySem.F.plainAttrs_list PySem.F.slot_list_insert PySem.F.type_list_insert mt_insert (pv 3) (pa_cons pe_int (pa_cons (pe_fn c_least_in_end hr (by omega) (by rfl) (pa_cons (pv 0) (pa_cons (pe_ix (r := rIx K) ix_seq (pv 3) pe_int (fun _ _ => rfl)) pa_nil))) pa_nil)))))) (pss_one (ps_ret (pe_callTy (r := rTupleOf K) call_tuple_of (by rfl) B.tuple (by decide +kernel) (pa_cons (pv 3) pa_nil)))))), fun vs H ds d r hv => ?_⟩)
  obtain ⟨t, dl, lk, wt, n, m, rfl, ht, n1, n2, rfl⟩ := r
  obtain ⟨v, u, y, rfl, hx, hn, hm⟩ := dpA3 hv
  have em := dp_vint hm
  have en := dp_vint hn
  subst em en
  intro Q q
  refine q_dl (K := K) (ds := [.int m]) (edl_lst (eds_cons (ed_i (ev_var rfl)) eds_nil) (le5 rfl)) fun p vs H1 hp e1 h1 d1 => ?_
  have e : vs = [V.int m] := dpA_ints (ns := [m]) d1
  subst e
  refine Evl.q_forR1 (n := n - 1) (ea_cons (ev_op (ev_var rfl) ev_c rv_I0) ea_nil) ⟨by omega, by omega⟩ (fun i σ H' => (∃ c, σ = [some v, some (.int n), some (.int m), some (.ref p), c]) ∧ Ex H H' ∧ i ≤ 1000 ∧ H' p = some (.lst ((leastEnds dl lk i [m]).map V.int))) (fun H2 e2 => ⟨⟨_, rfl⟩, e1.trans e2, Nat.zero_le _, e2 p _ h1⟩) (fun i σ H' hi hP => ?_) (fun σ H' hP => ?_)
  · obtain ⟨⟨c, rfl⟩, e2, _, h2⟩ := hP
    have hl : (leastEnds dl lk i [m]).length = i + 1 := by rw [leastEnds_len]; rfl
    have g0 : EvD K (tOp (rIx K) (tVar 3) (tC (.int 0))) [some v, some (.int n), some (.int m), some (.ref p), some (.int (i : Int))] H' (.int ((leastEnds dl lk i [m]).headD 0)) := by
      refine ed_ixL (ed_atI rfl h2) ev_c ?_
      cases q : leastEnds dl lk i [m] with
      | nil => rw [q] at hl; cases hl
      | cons a l => exact at0
    refine s_ins0 h2 (ev_var rfl) (ev_i (ed_call (R := R_least_in) (eds_cons (ed_var rfl (dpe hx e2)) (eds_cons g0 eds_nil)) ⟨t, dl, lk, wt, _, rfl, ht, rfl⟩)) (by rw [List.length_map, hl]; omega) fun H3 e3 => ⟨⟨_, rfl⟩, Ex.mut (e2.trans e3) hp, by omega, ?_⟩
    rw [leastEnds_succ]
    exact upd_same
  · obtain ⟨⟨c, rfl⟩, e2, _, h2⟩ := hP
    exact s_rd (D := { nx := _, rt := Q }) (ed_tupleL (ed_atI rfl h2)) fun v H3 e3 hd => q v H3 (e2.trans e3) hd

/-! ### people_along -/
theorem walkA_cons (N : List Ch) (c : Int) (r f : List Int) : walkA N (c :: r) f = if inN N c then (match sideOf N c (f.getLastD 0) with
      | none => none
      | some s => walkA N r (f ++ [endOf N c (1 - s)])) else none := rfl
def optRow : Option (List Int) → PyData
  | none => .none
  | some f => rowD f
def R_people (ds : List PyData) (d : PyData) : Prop := ∃ N p r, ds = [netD N, .int p, rowD r] ∧ r.length ≤ 1000 ∧ d = optRow (peopleAlong N p r)
theorem d_people (B : Bt mg) (A : At K mg "people_along" s_people_along ["net", "payer", "route"]) (c_is_number : Dfn P w K mg base "is_number" ["thing"] CX0 1 (spF K R_is_number)) (c_side_of : Dfn P w K mg base "side_of" ["net", "channel", "person"] CX0 2 (spF K R_side_of)) :
    Dfn P w K mg base "people_along" ["net", "payer", "route"] CX0 3 (spF K R_people) := by
  refine A.okD sc_people_along (fun ds d h => by obtain ⟨n, p, r, rfl, _⟩ := h; rfl) (fun f cdv A outer s H0 E hr => ⟨_, (pss_cons (ps_if (pt_not (pt_val (pe_callB (r := rIsi K) call_isi (by rfl) B.isinstance (by decide +kernel) (pa_cons (pv 2) (pa_cons (pe_bltn (v := .ty "tuple") (by rfl) B.tuple (by decide +kernel) rfl) pa_nil))))) (pss_one (ps_ret pe_non)) pss_nil) (pss_cons (ps_set (i := 3) sc_people_along.nd rfl (Or.inl rfl) (pe_lst (pa_cons (pv 1) pa_nil))) (pss_cons (ps_for PassesOwn.never rfl (pi_any (pv 2)) (pg_name (i := 4) sc_people_along.nd rfl (Or.inl rfl)) (pss_cons (ps_if (PW.pt (pw_or (pt_not (pt_val (pe_fn c_is_number hr (by omega) (by rfl) (pa_cons (pv 4) pa_nil)))) (pw_or (pt_not (pt_chain op_le op_lt pe_int (pv 4) (pe_callB (r := rLenS K) call_len_seq (by rfl) B.len PySem.boot_len (pa_cons (pv 0) pa_nil)))) (pw_or1 (pt_cmpR (r := KD.rIsN) op_isN (pe_fn c_side_of hr (by omega) (by rfl) (pa_cons (pv 0) (pa_cons (pv 4) (pa_cons (pe_ix (r := rIx K) ix_seq (pv 3) (pe_un un_neg pe_int) (fun _ _ => rfl)) pa_nil)))) pe_non (nomark _)))))) (pss_one (ps_ret pe_non)) pss_nil) (pss_one (ps_expr (pe_bm PySem.F.plainAttrs_list PySem.F.slot_list_append PySem.F.type_list_append mt_append (pv 3) (pa_cons (pe_ix (r := rIx K) ix_seq (pe_ix (r := rIx K) ix_seq (pv 0) (pv 4) (fun _ _ => rfl)) (pe_op op_sub pe_int (pe_fn c_side_of hr (by omega) (by rfl) (pa_cons (pv 0) (pa_cons (pv 4) (pa_cons (pe_ix (r := rIx K) ix_seq (pv 3) (pe_un un_neg pe_int) (fun _ _ => rfl)) pa_nil))))) (fun _ _ => rfl)) pa_nil)))))) (pss_one (ps_ret (pe_ifExp (PW.pt (pw_and (pt_cmpR op_eq (pe_lenSet (by rfl) B.len (by rfl) B.set_ (pv 3)) (pe_callB (r := rLenS K) call_len_seq (by rfl) B.len PySem.boot_len (pa_cons (pv 3) pa_nil)) (nomark _)) (pw_and1 (pt_cmpR op_gt (pe_callB (r := rLenS K) call_len_seq (by rfl) B.len PySem.boot_len (pa_cons (pv 3) pa_nil)) pe_int (nomark _))))) (pe_callTy (r := rTupleOf K) call_tuple_of (by rfl) B.tuple (by decide +kernel) (pa_cons (pv 3) pa_nil)) pe_non)))))), fun vs H ds d r hv => ?_⟩)
  obtain ⟨N, p, r, rfl, hl, rfl⟩ := r
  obtain ⟨v, u, y, rfl, hx, hp, hy⟩ := dpA3 hv
  have ep := dp_vint hp
  subst ep
  intro Q q
  have vy : EvD K (tVar 2) [some v, some (.int p), some y, none, none] H (rowD r) := ed_var rfl hy
  refine q_no (et_is (et_not (et_B (ev_isi vy (kb_tuple _)))) rfl) fun H1 e1 => ?_
  refine q_dl (K := K) (ds := [.int p]) (edl_lst (eds_cons (ed_i (ev_var rfl)) eds_nil) (le5 rfl)) fun l vs H2 hl2 e2 h2 d2 => ?_
  have e : vs = [V.int p] := dpA_ints (ns := [p]) d2
  subst e
  have nl : H l = none := fresh_back e1 hl2
  have E2 : Ex H H2 := e1.trans e2
  refine q_forS (ds := r.map .int) (eis_var rfl hy rfl E2) (fun i σ H' => (∃ c, σ = [some v, some (.int p), some y, some (.ref l), c]) ∧ Ex H H' ∧ i ≤ r.length ∧ ∃ f, f ≠ [] ∧ f.length = i + 1 ∧ H' l = some (.lst (f.map V.int)) ∧ walkA N r [p] = walkA N (r.drop i) f)
    (fun H3 e3 => ⟨⟨_, rfl⟩, E2.trans e3, Nat.zero_le _, [p], List.cons_ne_nil _ _, rfl, e3 l _ h2, rfl⟩) (fun i σ H' hP => hP.2.1) (fun i d σ H3 x H4 hd hP e4 hdx => ?_) (fun σ H3 hP => ?_)
  · obtain ⟨⟨c, rfl⟩, e3, hi, f, f0, fl, h3, hw⟩ := hP
    rw [List.getElem?_map] at hd
    cases qc : r[i]? with
    | none => rw [qc] at hd; cases hd
    | some ch =>
      rw [qc] at hd
      cases hd
      have ex := dp_vint hdx
      subst ex
      have E4 : Ex H H4 := e3.trans e4
      have hlt : i < r.length := (List.getElem?_eq_some_iff.mp qc).1
      have edrop : r.drop i = ch :: r.drop (i + 1) := by
        rw [List.drop_eq_getElem_cons hlt, (List.getElem?_eq_some_iff.mp qc).2]
      have h4 := e4 l _ h3
      have vch : Ev (tVar 4) [some v, some (.int p), some y, some (.ref l), some (.int ch)] H4 (.int ch) := ev_var rfl
      have vn : EvD K (tVar 0) [some v, some (.int p), some y, some (.ref l), some (.int ch)] H4 (netD N) := ed_var rfl (dpe hx E4)
      have vl : EvD K (tOp (rIx K) (tVar 3) (tUn (rU fun i => .int (-i)) (tC (.int 1)))) [some v, some (.int p), some y, some (.ref l), some (.int ch)] H4 (.int (f.getLastD 0)) := ed_ixL (ed_atI rfl h4) (ev_un ev_c ru_neg) (atI_lastD f f0)
      have hnum := ed_call (K := K) (R := R_is_number) (E := E0) (eds_cons (ed_i vch) eds_nil) ⟨_, rfl, rfl⟩
      have hside : inN N ch → _ := fun hin => ed_call (K := K) (R := R_side_of) (E := E0) (eds_cons vn (eds_cons (ed_i vch) (eds_cons vl eds_nil))) ⟨N, ch, _, rfl, hin, rfl⟩
      rw [edrop, walkA_cons] at hw
      show tSeq _ _ _ [some v, some (.int p), some y, some (.ref l), some (.int ch)] H4
      refine q_when (b := if inN N ch then (sideOf N ch (f.getLastD 0)).isNone else true) (et_is (et_or (et_not (et_B (ev_b hnum))) fun _ => et_or (b := if inN N ch then (sideOf N ch (f.getLastD 0)).isNone else false) (et_not (et_test (ev_chain (b := decide (0 ≤ ch)) (c := decide (ch < ((N.map chD).length : Int))) ev_c vch rv_I0 (fun _ => ev_lenT vn) fun _ => rv_I0))) fun z => ?_) ?_) (fun z H5 e5 => ?_) (fun z H5 e5 => ?_)
      · have hin : inN N ch := by
          rw [List.length_map] at z
          have z2 : (decide (0 ≤ ch) && decide (ch < (N.length : Int))) = true := by revert z; cases (decide (0 ≤ ch) && decide (ch < (N.length : Int))) <;> intro z <;> simp_all
          obtain ⟨z3, z4⟩ := Bool.and_eq_true_iff.mp z2
          exact ⟨of_decide_eq_true z3, of_decide_eq_true z4⟩
        rw [if_pos hin]
        refine et_is (et_T (ev_isN (hside hin))) ?_
        cases sideOf N ch (f.getLastD 0) <;> rfl
      · rw [List.length_map]
        by_cases hin : inN N ch
        · rw [if_pos hin, if_pos hin, decide_eq_true hin.1, decide_eq_true hin.2]
          rfl
        · rw [if_neg hin, if_neg hin]
          have z2 : (decide (0 ≤ ch) && decide (ch < (N.length : Int))) = false := by
            rw [← Bool.not_eq_true, Bool.and_eq_true_iff]
            exact fun ⟨a, b⟩ => hin ⟨of_decide_eq_true a, of_decide_eq_true b⟩
          rw [z2]
          rfl
      · have hnone : walkA N r [p] = none := by
          rw [hw]
          by_cases hin : inN N ch
          · rw [if_pos hin] at z ⊢
            cases hs : sideOf N ch (f.getLastD 0) with
            | none => rfl
            | some s => rw [hs] at z; cases z
          · rw [if_neg hin]
        unfold peopleAlong at q
        rw [hnone] at q
        exact s_rq ed_cnon q (E4.trans e5)
      · by_cases hin : inN N ch
        · rw [if_pos hin] at z hw
          cases hs : sideOf N ch (f.getLastD 0) with
          | none => rw [hs] at z; cases z
          | some s =>
            rw [hs] at hw
            have hside' := hside hin
            rw [hs] at hside'
            have s01 : s = 0 ∨ s = 1 := by
              unfold sideOf sideIn at hs
              split at hs
              · exact .inl (Option.some.inj hs).symm
              · split at hs
                · exact .inr (Option.some.inj hs).symm
                · cases hs
            have gc : EvD K (tOp (rIx K) (tVar 0) (tVar 4)) [some v, some (.int p), some y, some (.ref l), some (.int ch)] H4 (chD (chOf N ch)) := ed_ixT vn vch (netD_at hin)
            have gi : Ev (tOp (rI0 fun i j => .int (i - j)) (tC (.int 1)) _) [some v, some (.int p), some y, some (.ref l), some (.int ch)] H4 (.int (1 - s)) := ev_op ev_c (ev_i hside') rv_I0
            refine s_app (e5 l _ h4) (ev_var rfl) (ev_i (EvD.mono (ed_ixT gc gi (d := .int (endOf N ch (1 - s))) ?_) e5)) (by rw [List.length_map, fl]; omega) fun H6 e6 => ?_
            · rcases s01 with rfl | rfl
              · exact at1
              · exact at0
            · refine ⟨⟨_, rfl⟩, Ex.mut ((E4.trans e5).trans e6) nl, hlt, f ++ [endOf N ch (1 - s)], by simp, by rw [List.length_append, fl]; rfl, ?_, hw⟩
              rw [List.map_append]
              exact upd_same
        · rw [if_neg hin] at z
          cases z
  · obtain ⟨⟨c, rfl⟩, e3, _, f, f0, fl, h3, hw⟩ := hP
    rw [List.length_map, List.drop_length] at hw
    rw [List.length_map] at fl
    have hw' : walkA N r [p] = some f := hw
    have vf : EvD K (tVar 3) [some v, some (.int p), some y, some (.ref l), c] H3 (.list (f.map .int)) := ed_atI rfl h3
    have g : goodF f = (decide ((distinct f : Int) = (f.length : Int)) && decide ((1 : Int) < (f.length : Int))) := by
      unfold goodF
      rw [show decide ((distinct f : Int) = (f.length : Int)) = decide f.Nodup from decide_eq_decide.mpr (by rw [Int.ofNat_inj]; exact distinct_iff f), show decide ((1 : Int) < (f.length : Int)) = decide (1 < f.length) from decide_eq_decide.mpr (by omega)]
      by_cases h1 : f.Nodup <;> by_cases h2 : 1 < f.length <;> simp [h1, h2]
    refine s_rd (D := { nx := _, rt := Q }) (d := optRow (peopleAlong N p r)) (ed_if (b := goodF f) (et_is (et_and (et_T (ev_op (ev_lenSet vf (by omega)) (ev_lenL vf) (rv_eq rfl))) fun _ => et_T (ev_op (ev_lenL vf) ev_c rv_I0)) ?_) (fun z => ?_) (fun z => ?_)) fun v H4 e4 hd => q v H4 (e3.trans e4) hd
    · rw [g, dec_ii, List.length_map]
    · unfold peopleAlong
      rw [hw']
      show EvD K _ _ H3 (optRow (if goodF f then some f else none))
      rw [z]
      exact ed_tupleL vf
    · unfold peopleAlong
      rw [hw']
      show EvD K _ _ H3 (optRow (if goodF f then some f else none))
      rw [z]
      exact ed_cnon
end
end KT

set_option Elab.async false
set_option linter.all false
set_option autoImplicit false
set_option maxRecDepth 100000
set_option maxHeartbeats 4000000
/-! Kg: walked, sides, most_over, are_safe, last_looks, wish_for. -/
namespace KT
open PySem PySem.Spec PyProof.Rows L2 Evl KD KM

theorem zip_pairs {α β : Type} (F : α → PyData) (G : β → PyData) : ∀ (xs : List α) (ys : List β), List.zipWith (fun d e => PyData.tuple [d, e]) (xs.map F) (ys.map G) = (xs.zip ys).map fun a => .tuple [F a.1, G a.2]
  | [], _ => rfl
  | _ :: _, [] => rfl
  | x :: xs, y :: ys => by
    exact congrArg (_ :: ·) (zip_pairs F G xs ys)
theorem zip_map {α β γ : Type} (f : α → β → γ) : ∀ (xs : List α) (ys : List β), (xs.zip ys).map (fun a => f a.1 a.2) = List.zipWith f xs ys
  | [], _ => rfl
  | _ :: _, [] => rfl
  | x :: xs, y :: ys => by
    exact congrArg (_ :: ·) (zip_map f xs ys)
/-- a net, a row, the sheets' sums, of whatever kinds -/
def NetL (n : PyData) (N : List Ch) : Prop := okD 3 n ∧ tupD n = netD N
def RowL (r : PyData) (l : List Int) : Prop := Sq r = some (l.map .int) ∧ l.length ≤ 1000
theorem RowL.ok {r : PyData} {l : List Int} (h : RowL r l) : okD 2 r := .inr ⟨_, h.1, by rw [List.length_map]; exact h.2, fun e he => by
  obtain ⟨i, _, rfl⟩ := List.mem_map.mp he
  exact .inl rfl⟩
theorem RowL.tup {r : PyData} {l : List Int} (h : RowL r l) : tupD r = rowD l := by
  rw [tupD_sq h.1, List.map_map]
  rfl
theorem NetL.self {N : List Ch} (h : N.length ≤ 1000) : NetL (netD N) N := by
  refine ⟨.inr ⟨_, rfl, by rw [List.length_map]; exact h, fun e he => ?_⟩, ?_⟩
  · obtain ⟨c, _, rfl⟩ := List.mem_map.mp he
    exact .inr ⟨_, rfl, by show 4 ≤ 1000; decide, fun e he => .inl (by
      simp only [List.mem_cons, List.not_mem_nil, or_false] at he
      rcases he with rfl | rfl | rfl | rfl <;> rfl)⟩
  · rw [tupD_sq (d := netD N) rfl, List.map_map]
    rfl
theorem RowL.self {l : List Int} (h : l.length ≤ 1000) : RowL (rowD l) l := ⟨rfl, h⟩

section
variable {P : Program} {w : World} {K : PySem.W.Frag} {mg : Str → Option Value} {base : Heap}
abbrev TupOf (P : Program) (w : World) (K : PySem.W.Frag) (mg : Str → Option Value) (base : Heap) (n : Nat) : Prop := Dfn P w K mg base "tuple_of" ["thing"] CX0 n (spF K (R_tuple_of n))
def R_walked (ds : List PyData) (d : PyData) : Prop := ∃ n N p rt r f, ds = [n, .int p, rt] ∧ NetL n N ∧ RowL rt r ∧ peopleAlong N p r = some f ∧ d = rowD f
theorem d_walked (B : Bt mg) (A : At K mg "walked" s_walked ["net", "payer", "route"]) (c_tuple_of : TupOf P w K mg base 3) (c_people_along : Dfn P w K mg base "people_along" ["net", "payer", "route"] CX0 3 (spF K R_people)) :
    Dfn P w K mg base "walked" ["net", "payer", "route"] CX0 4 (spF K R_walked) := by
  refine A.okD sc_walked (fun ds d h => by obtain ⟨n, N, p, rt, r, f, rfl, _⟩ := h; rfl) (fun f cdv A outer s H0 E hr => ⟨_, (pss_cons (ps_set (i := 3) sc_walked.nd rfl (Or.inl rfl) (pe_fn c_people_along hr (by omega) (by rfl) (pa_cons (pe_fn c_tuple_of hr (by omega) (by rfl) (pa_cons (pv 0) pa_nil)) (pa_cons (pv 1) (pa_cons (pe_fn c_tuple_of hr (by omega) (by rfl) (pa_cons (pv 2) pa_nil)) pa_nil))))) (pss_cons (ps_if (pt_cmpR (r := KD.rIsN) op_isN (pv 3) pe_non (nomark _)) (pss_one ps_never) pss_nil) (pss_one (ps_ret (pv 3))))), fun vs H ds d r hv => ?_⟩)
  obtain ⟨n, N, p, rt, r, f, rfl, hn, hrt, hp, rfl⟩ := r
  obtain ⟨v, u, y, rfl, hx, hu, hy⟩ := dpA3 hv
  have eu := dp_vint hu
  subst eu
  intro Q q
  have v0 : EvD K (tVar 0) [some v, some (.int p), some y, none] H n := ed_var rfl hx
  have v2 : EvD K (tVar 2) [some v, some (.int p), some y, none] H rt := ed_var rfl hy
  have t0 := ed_call (R := R_tuple_of 3) (E := E0) (eds_cons v0 eds_nil) ⟨n, rfl, hn.1, rfl⟩
  have t2 := ed_call (R := R_tuple_of 3) (E := E0) (eds_cons v2 eds_nil) ⟨rt, rfl, okD_mono 2 _ hrt.ok, rfl⟩
  rw [hn.2] at t0
  rw [hrt.tup] at t2
  refine q_d (ed_call (R := R_people) (E := E0) (d := rowD f) (eds_cons t0 (eds_cons (ed_i (ev_var rfl)) (eds_cons t2 eds_nil))) ⟨N, p, r, rfl, hrt.2, by rw [hp]; rfl⟩) fun g H1 e1 hg => ?_
  have vg : EvD K (tVar 3) [some v, some (.int p), some y, some g] H1 (rowD f) := ed_var rfl hg
  refine q_no (et_T (ev_isN vg)) fun H2 e2 => ?_
  exact s_rq (vg.mono e2) q (e1.trans e2)
theorem people_pairs {N : List Ch} {p : Int} {r f : List Int} (h : peopleAlong N p r = some f) : (r.zip f).map (fun a => optI (sideOf N a.1 a.2)) = (paysM N r p).map .int := by
  have z := congrArg (List.map optI) (people_sides h)
  rw [List.map_zipWith, List.map_map] at z
  rw [zip_map (fun a b => optI (sideOf N a b)), z]
  rfl
def R_sides (ds : List PyData) (d : PyData) : Prop := ∃ n N p rt r f, ds = [n, .int p, rt] ∧ NetL n N ∧ N.length ≤ 1000 ∧ RowL rt r ∧ peopleAlong N p r = some f ∧ d = rowD (paysM N r p)
theorem d_sides (B : Bt mg) (A : At K mg "sides" s_sides ["net", "payer", "route"]) (c_tuple_of : TupOf P w K mg base 3) (c_walked : Dfn P w K mg base "walked" ["net", "payer", "route"] CX0 4 (spF K R_walked)) (c_side_of : Dfn P w K mg base "side_of" ["net", "channel", "person"] CX0 2 (spF K R_side_of)) :
    Dfn P w K mg base "sides" ["net", "payer", "route"] CX0 5 (spF K R_sides) := by
  refine A.okD sc_sides (fun ds d h => by obtain ⟨n, N, p, rt, r, f, rfl, _⟩ := h; rfl) (fun f cdv A outer s H0 E hr => ⟨_, (pss_cons (ps_set (i := 3) sc_sides.nd rfl (Or.inr rfl) (pe_fn c_tuple_of hr (by omega) (by rfl) (pa_cons (pv 0) pa_nil))) (pss_one (ps_ret (pe_callTy (r := rTupleOf K) call_tuple_of (by rfl) B.tuple (by decide +kernel) (pa_cons (pe_lc (own := [("channel", 4), ("person", 5)]) (g := gTup K 2 (gCons (gName 4) (gCons (gName 5) gNil))) rfl sc_sides.nd (pi_z2 (by rfl) B.zip (pa_cons (pv 2) (pa_cons (pe_fn c_walked hr (by omega) (by rfl) (pa_cons (pv 3) (pa_cons (pv 1) (pa_cons (pv 2) pa_nil)))) pa_nil))) (blkOk_by (own := [("channel", 4), ("person", 5)]) (N := ["net", "payer", "route", "own", "channel", "person"]) (sc := defScope s_sides) (by decide +kernel)) (fun _ _ _ _ _ => (pg_tup (by rfl) (pgs_cons (pg_name (i := 4) sc_sides.nd rfl (Or.inl rfl)) (pgs_cons (pg_name (i := 5) sc_sides.nd rfl (Or.inl rfl)) pgs_nil)))) (fun _ _ _ _ _ => pts_nil) (fun _ _ _ _ _ => (pe_fn c_side_of hr (by omega) (by rfl) (pa_cons (pv 3) (pa_cons (pv 4) (pa_cons (pv 5) pa_nil)))))) pa_nil))))), fun vs H ds d r hv => ?_⟩)
  obtain ⟨n, N, p, rt, r, f, rfl, hn, hN, hrt, hp, rfl⟩ := r
  obtain ⟨v, u, y, rfl, hx, hu, hy⟩ := dpA3 hv
  have eu := dp_vint hu
  subst eu
  intro Q q
  have v0 : EvD K (tVar 0) [some v, some (.int p), some y, none, none, none] H n := ed_var rfl hx
  have t0 := ed_call (R := R_tuple_of 3) (E := E0) (eds_cons v0 eds_nil) ⟨n, rfl, hn.1, rfl⟩
  rw [hn.2] at t0
  refine q_d t0 fun g H1 e1 hg => ?_
  have vg : EvD K (tVar 3) [some v, some (.int p), some y, some g, none, none] H1 (netD N) := ed_var rfl hg
  have vr : EvD K (tVar 2) [some v, some (.int p), some y, some g, none, none] H1 rt := ed_var rfl (dpe hy e1)
  have hw := ed_call (R := R_walked) (E := E0) (d := rowD f) (eds_cons vg (eds_cons (ed_i (ev_var (i := 1) (v := .int p) rfl)) (eds_cons vr eds_nil))) ⟨_, N, p, rt, r, f, rfl, NetL.self hN, hrt, hp, rfl⟩
  have hz := ei_z2 vr hw hrt.1 rfl
  rw [zip_pairs] at hz
  have hl : (r.zip f).length ≤ 40000 := by
    have := hrt.2
    rw [List.length_zip]
    omega
  have m := edl_map2 (g := fun a => optI (sideOf N a.1 a.2)) (te := tCall (spF K R_side_of) [] E0 (tCons (tVar 3) (tCons (tVar 4) (tCons (tVar 5) tNil)))) (j := 4) (l := 5) (vs := [4, 5]) hz hl (fun _ _ => rfl) fun a ha x y2 H2 e2 h1 h2 => ⟨by
    have ea := dp_vint h1
    have eb := dp_vint h2
    subst ea eb
    exact ed_call (eds_cons (ed_var rfl (dpe hg e2)) (eds_cons (ed_i (ev_var rfl)) (eds_cons (ed_i (ev_var rfl)) eds_nil))) ⟨N, a.1, a.2, rfl, people_in hp _ (List.of_mem_zip ha).1, rfl⟩, optI_flat _⟩
  rw [people_pairs hp] at m
  exact s_rq (ed_tupleL (EvDL.toD m)) q e1

/-! ### most_over -/
/-- the sums that sheets of whatever kind hold -/
def ShL (sh : PyData) (S : List (Int × Int)) : Prop := ∃ es, Sq sh = some es ∧ ∀ (i : Nat) (s : Int × Int), S[i]? = some s → ∃ e l0 l1 sm l3, es[i]? = some e ∧ Sq e = some [l0, l1, sm, l3] ∧ Sq sm = some [.int s.1, .int s.2]
theorem sumsM_zip (N : List Ch) (S : List (Int × Int)) (r : List Int) (p : Int) : (r.zip (paysM N r p)).map (fun a => sumOf S a.1 a.2) = sumsM N S r p := zip_map _ _ _
theorem sumsM_len (N : List Ch) (S : List (Int × Int)) (r : List Int) (p : Int) : (sumsM N S r p).length = r.length := by
  unfold sumsM
  rw [List.length_zipWith, paysM_len, Nat.min_self]
def R_most (ds : List PyData) (d : PyData) : Prop := ∃ n N sh S p rt r f, ds = [n, sh, .int p, rt] ∧ NetL n N ∧ N.length ≤ 1000 ∧ ShL sh S ∧ S.length = N.length ∧ RowL rt r ∧ peopleAlong N p r = some f ∧ d = .int (mostM N S p r)
theorem d_most_over (B : Bt mg) (A : At K mg "most_over" s_most_over ["net", "sheets", "payer", "route"]) (c_sides : Dfn P w K mg base "sides" ["net", "payer", "route"] CX0 5 (spF K R_sides)) :
    Dfn P w K mg base "most_over" ["net", "sheets", "payer", "route"] CX0 6 (spF K R_most) := by
  refine A.okD sc_most_over (fun ds d h => by obtain ⟨n, N, sh, S, p, rt, r, f, rfl, _⟩ := h; rfl) (fun f cdv A outer s H0 E hr => ⟨_, (pss_cons (ps_set (i := 4) sc_most_over.nd rfl (Or.inl rfl) (pe_fn c_sides hr (by omega) (by rfl) (pa_cons (pv 0) (pa_cons (pv 2) (pa_cons (pv 3) pa_nil))))) (pss_one (ps_ret (pe_callB (r := rMin K) (cr_min rfl) (by rfl) B.min (by decide +kernel) (pa_cons (pe_lc (own := [("channel", 5), ("side", 6)]) (g := gTup K 2 (gCons (gName 5) (gCons (gName 6) gNil))) rfl sc_most_over.nd (pi_z2 (by rfl) B.zip (pa_cons (pv 3) (pa_cons (pv 4) pa_nil))) (blkOk_by (own := [("channel", 5), ("side", 6)]) (N := ["net", "sheets", "payer", "route", "pays", "channel", "side"]) (sc := defScope s_most_over) (by decide +kernel)) (fun _ _ _ _ _ => (pg_tup (by rfl) (pgs_cons (pg_name (i := 5) sc_most_over.nd rfl (Or.inl rfl)) (pgs_cons (pg_name (i := 6) sc_most_over.nd rfl (Or.inl rfl)) pgs_nil)))) (fun _ _ _ _ _ => pts_nil) (fun _ _ _ _ _ => (pe_ix (r := rIx K) ix_seq (pe_ix (r := rIx K) ix_seq (pe_ix (r := rIx K) ix_seq (pv 1) (pv 5) (fun _ _ => rfl)) pe_int (fun _ _ => rfl)) (pv 6) (fun _ _ => rfl)))) pa_nil))))), fun vs H ds d r hv => ?_⟩)
  obtain ⟨n, N, sh, S, p, rt, r, f, rfl, hn, hN, ⟨es, hs1, hs2⟩, hSl, hrt, hp, rfl⟩ := r
  obtain ⟨v, t, u, y, rfl, hx, ht, hu, hy⟩ := dpA4 hv
  have eu := dp_vint hu
  subst eu
  intro Q q
  have v0 : EvD K (tVar 0) [some v, some t, some (.int p), some y, none, none, none] H n := ed_var rfl hx
  have v3 : EvD K (tVar 3) [some v, some t, some (.int p), some y, none, none, none] H rt := ed_var rfl hy
  refine q_d (ed_call (R := R_sides) (E := E0) (d := rowD (paysM N r p)) (eds_cons v0 (eds_cons (ed_i (ev_var rfl)) (eds_cons v3 eds_nil))) ⟨n, N, p, rt, r, f, rfl, hn, hN, hrt, hp, rfl⟩) fun g H1 e1 hg => ?_
  have vg : EvD K (tVar 4) [some v, some t, some (.int p), some y, some g, none, none] H1 (rowD (paysM N r p)) := ed_var rfl hg
  have vr : EvD K (tVar 3) [some v, some t, some (.int p), some y, some g, none, none] H1 rt := ed_var rfl (dpe hy e1)
  have hz := ei_z2 vr vg hrt.1 rfl
  rw [zip_pairs] at hz
  have hl : (r.zip (paysM N r p)).length ≤ 40000 := by
    have := hrt.2
    rw [List.length_zip]
    omega
  have m := edl_map2 (g := fun a => .int (sumOf S a.1 a.2)) (te := tOp (rIx K) (tOp (rIx K) (tOp (rIx K) (tVar 1) (tVar 5)) (tC (.int 2))) (tVar 6)) (j := 5) (l := 6) (vs := [5, 6]) hz hl (fun _ _ => rfl) fun a ha x y2 H2 e2 h1 h2 => ⟨by
    have ea := dp_vint h1
    have eb := dp_vint h2
    subst ea eb
    obtain ⟨ha1, ha2⟩ := List.of_mem_zip ha
    have hin := people_in hp _ ha1
    obtain ⟨k, hk⟩ := Int.eq_ofNat_of_zero_le hin.1
    have hkl : k < S.length := by
      have := hin.2
      omega
    obtain ⟨e, l0, l1, sm, l3, g1, g2, g3⟩ := hs2 k _ (List.getElem?_eq_getElem hkl)
    have gc := ed_ixS (σ := [some v, some t, some (.int p), some y, some g, some (.int a.1), some (.int a.2)]) (H := H2) (ta := tVar 1) (tb := tVar 5) (ed_var rfl (dpe ht (e1.trans e2))) hs1 (ev_var (v := .int a.1) rfl) (by rw [hk]; exact atI_nat g1)
    have gm := ed_ixS (ta := tOp (rIx K) (tVar 1) (tVar 5)) gc g2 (ev_c (v := .int 2)) at2
    refine ed_ixS gm g3 (ev_var (v := .int a.2) rfl) ?_
    have esum : ∀ s, sumOf S a.1 s = if s = 0 then (S[k]).1 else (S[k]).2 := fun s => by
      unfold sumOf
      rw [hk, Int.toNat_natCast, List.getD_eq_getElem?_getD, List.getElem?_eq_getElem hkl]
      rfl
    rcases paysM_01 N r p _ ha2 with z | z
    · rw [z, esum]
      exact at0
    · rw [z, esum]
      exact at1, rfl⟩
  rw [show (fun a : Int × Int => PyData.int (sumOf S a.1 a.2)) = PyData.int ∘ (fun a => sumOf S a.1 a.2) from rfl, ← List.map_map, sumsM_zip] at m
  have hne : sumsM N S r p ≠ [] := fun z => people_ne hp (List.eq_nil_of_length_eq_zero (by rw [← sumsM_len N S r p, z]; rfl))
  exact s_rq (ed_i (ev_min (EvDL.toD m) (minL_is _ hne))) q e1

/-! ### clocks over lists of ends -/
def rSlS (K : PySem.W.Frag) : V → Option Int → Option Int → Hp → VK → Prop := fun x lo hi H Q => rSlL K x lo hi H Q ∨ rSlA K x lo hi H Q
theorem sl_seq {X : Cx} : SlR X (rSlS X.K) := sl_list.or sl_tupA
theorem ed_slS {σ : L2.St} {H : Hp} {ta : TE} {tl th : TO} {lo hi : Option Int} {d : PyData} {ds : List PyData} (h : EvD K ta σ H d) (hs : Sq d = some ds) (h1 : EvO tl σ H lo) (h2 : EvO th σ H hi) :
    ∃ d', Sq d' = some ((ds.drop (HT.sIx ds.length 0 lo)).take (HT.sIx ds.length ds.length hi - HT.sIx ds.length 0 lo)) ∧ EvD K (tSl (rSlS K) ta tl th) σ H d' := by
  cases d with
  | list es =>
    cases hs
    exact ⟨.list _, rfl, fun H1 e Q q => by
      have z := EvDL.toD (edl_sl h h1 h2) H1 e Q q
      unfold tSl at z ⊢
      refine h H1 e _ fun v H2 e2 hv => h1 H2 (e.trans e2) _ fun H3 e3 => h2 H3 ((e.trans e2).trans e3) _ fun H4 e4 => .inl ?_
      obtain ⟨a, xs, rfl, hs, hx⟩ := dp_lst (dpe hv (e3.trans e4))
      refine ⟨a, xs, rfl, hs, fun p hp => q _ _ (((e2.trans e3).trans e4).trans (Ex.new hp)) (.lst (sq_of upd_same) ?_)⟩
      unfold cutV
      rw [dpA_len hx]
      exact dpA_take _ (dpA_drop _ (dpeA hx (Ex.new hp)))⟩
  | tuple es =>
    cases hs
    exact ⟨.tuple _, rfl, fun H1 e Q q => by
      unfold tSl
      refine h H1 e _ fun v H2 e2 hv => h1 H2 (e.trans e2) _ fun H3 e3 => h2 H3 ((e.trans e2).trans e3) _ fun H4 e4 => .inr ?_
      obtain ⟨a, xs, rfl, hs, hx⟩ := dp_tup (dpe hv (e3.trans e4))
      refine ⟨a, xs, rfl, hs, fun z => ?_, fun _ p hp => ?_⟩
      · have z' := z
        rw [dpA_len hx] at z'
        exact q _ H4 ((e2.trans e3).trans e4) (by rw [z'.1, z'.2, List.drop_zero, Nat.sub_zero, List.take_length]; exact .tup hs hx)
      · refine q _ _ (((e2.trans e3).trans e4).trans (Ex.new hp)) (.tup (st_of upd_same) ?_)
        unfold cutV
        rw [dpA_len hx]
        exact dpA_take _ (dpA_drop _ (dpeA hx (Ex.new hp)))⟩
  | _ => cases hs
theorem cut1 {α : Type} (ds : List α) : (ds.drop (HT.sIx ds.length 0 (some 1))).take (HT.sIx ds.length ds.length none - HT.sIx ds.length 0 (some 1)) = ds.drop 1 := by
  have e : HT.sIx ds.length 0 (some 1) = min 1 ds.length := HT.sIx_nat _ _ 1
  rw [e, HT.sIx_none]
  cases ds with
  | nil => rfl
  | cons d l =>
    rw [Nat.min_eq_left (by rw [List.length_cons]; omega)]
    exact List.take_of_length_le (by rw [List.length_drop]; exact Nat.le_refl _)
/-- near and far ends -/
def gapsM (dl lk : Int) (l : List Int) : List Bool := List.zipWith (fun i m => decide (leastIn dl lk m ≤ i)) l (l.drop 1)
def R_are_safe (ds : List PyData) (d : PyData) : Prop := ∃ t dl lk wt e l, ds = [t, e] ∧ Tm t dl lk wt ∧ RowL e l ∧ d = .bool ((gapsM dl lk l).all id)
theorem d_are_safe (B : Bt mg) (A : At K mg "are_safe" s_are_safe ["times", "ends"]) (c_enough_gap : Dfn P w K mg base "enough_gap" ["times", "in_end", "out_end"] CX0 3 (spF K R_enough)) : Dfn P w K mg base "are_safe" ["times", "ends"] CX0 4 (spF K R_are_safe) := by
  refine A.okD sc_are_safe (fun ds d h => by obtain ⟨t, dl, lk, wt, e, l, rfl, _⟩ := h; rfl) (fun f cdv A outer s H0 E hr => ⟨_, (pss_one (ps_ret (pe_callB (r := rAll K) (cr_all rfl) (by rfl) B.all (by decide +kernel) (pa_cons (pe_lc (own := [("near", 2), ("far", 3)]) (g := gTup K 2 (gCons (gName 2) (gCons (gName 3) gNil))) rfl sc_are_safe.nd (pi_z2 (by rfl) B.zip (pa_cons (pv 1) (pa_cons (pe_slice (r := rSlS K) sl_seq (pv 1) (po_some pe_int) po_none) pa_nil))) (blkOk_by (own := [("near", 2), ("far", 3)]) (N := ["times", "ends", "near", "far"]) (sc := defScope s_are_safe) (by decide +kernel)) (fun _ _ _ _ _ => (pg_tup (by rfl) (pgs_cons (pg_name (i := 2) sc_are_safe.nd rfl (Or.inl rfl)) (pgs_cons (pg_name (i := 3) sc_are_safe.nd rfl (Or.inl rfl)) pgs_nil)))) (fun _ _ _ _ _ => pts_nil) (fun _ _ _ _ _ => (pe_fn c_enough_gap hr (by omega) (by rfl) (pa_cons (pv 0) (pa_cons (pv 2) (pa_cons (pv 3) pa_nil)))))) pa_nil)))), fun vs H ds d r hv => ?_⟩)
  obtain ⟨t, dl, lk, wt, e, l, rfl, ht, he, rfl⟩ := r
  obtain ⟨v, u, rfl, hx, hu⟩ := dpA2 hv
  have ve : EvD K (tVar 1) [some v, some u, none, none] H e := ed_var rfl hu
  obtain ⟨d', hd', hs⟩ := ed_slS ve he.1 (eo_some (i := 1) ev_c) eo_none
  rw [cut1, ← List.map_drop] at hd'
  have hz := ei_z2 ve hs he.1 hd'
  rw [zip_pairs] at hz
  have hl : (l.zip (l.drop 1)).length ≤ 40000 := by
    have := he.2
    rw [List.length_zip]
    omega
  have m := edl_map2 (g := fun a => .bool (decide (leastIn dl lk a.2 ≤ a.1))) (te := tCall (spF K R_enough) [] E0 (tCons (tVar 0) (tCons (tVar 2) (tCons (tVar 3) tNil)))) (j := 2) (l := 3) (vs := [2, 3]) hz hl (fun _ _ => rfl) fun a ha x y2 H2 e2 h1 h2 => ⟨by
    have ea := dp_vint h1
    have eb := dp_vint h2
    subst ea eb
    exact ed_call (eds_cons (ed_var rfl (dpe hx e2)) (eds_cons (ed_i (ev_var rfl)) (eds_cons (ed_i (ev_var rfl)) eds_nil))) ⟨t, dl, lk, wt, a.1, a.2, rfl, ht, rfl⟩, rfl⟩
  rw [show (fun a : Int × Int => PyData.bool (decide (leastIn dl lk a.2 ≤ a.1))) = PyData.bool ∘ (fun a => decide (leastIn dl lk a.2 ≤ a.1)) from rfl, ← List.map_map, zip_map (fun i m => decide (leastIn dl lk m ≤ i))] at m
  exact exd_ret (ed_b (ev_all (EvDL.toD m)))
def lookD (dl lk e : Int) : PyData := .tuple [optI (closeBy dl lk e), optI (showBy dl lk e)]
theorem lookD_flat (dl lk e : Int) : flat (lookD dl lk e) = true := by
  show (flat (optI _) && (flat (optI _) && true)) = true
  rw [optI_flat, optI_flat]
  rfl
def R_last_looks (ds : List PyData) (d : PyData) : Prop := ∃ t dl lk wt e l, ds = [t, e] ∧ Tm t dl lk wt ∧ RowL e l ∧ d = .tuple (l.map (lookD dl lk))
theorem d_last_looks (B : Bt mg) (A : At K mg "last_looks" s_last_looks ["times", "ends"]) (c_show_by : Dfn P w K mg base "show_by" ["times", "end"] CX0 2 (spF K R_show_by)) (c_close_by : Dfn P w K mg base "close_by" ["times", "end"] CX0 3 (spF K R_close_by)) :
    Dfn P w K mg base "last_looks" ["times", "ends"] CX0 4 (spF K R_last_looks) := by
  refine A.okD sc_last_looks (fun ds d h => by obtain ⟨t, dl, lk, wt, e, l, rfl, _⟩ := h; rfl) (fun f cdv A outer s H0 E hr => ⟨_, (pss_one (ps_ret (pe_callTy (r := rTupleOf K) call_tuple_of (by rfl) B.tuple (by decide +kernel) (pa_cons (pe_lc (own := [("end", 2)]) (g := gName 2) rfl sc_last_looks.nd (pi_any (pv 1)) (blkOk_by (own := [("end", 2)]) (N := ["times", "ends", "end"]) (sc := defScope s_last_looks) (by decide +kernel)) (fun _ _ _ _ _ => (pg_name (i := 2) sc_last_looks.nd rfl (Or.inl rfl))) (fun _ _ _ _ _ => pts_nil) (fun _ _ _ _ _ => (pe_tup (pa_cons (pe_fn c_close_by hr (by omega) (by rfl) (pa_cons (pv 0) (pa_cons (pv 2) pa_nil))) (pa_cons (pe_fn c_show_by hr (by omega) (by rfl) (pa_cons (pv 0) (pa_cons (pv 2) pa_nil))) pa_nil))))) pa_nil)))), fun vs H ds d r hv => ?_⟩)
  obtain ⟨t, dl, lk, wt, e, l, rfl, ht, he, rfl⟩ := r
  obtain ⟨v, u, rfl, hx, hu⟩ := dpA2 hv
  have ve : EvD K (tVar 1) [some v, some u, none] H e := ed_var rfl hu
  refine exd_ret (ed_tupleL (EvDL.toD (edl_map (xs := l) (f := .int) (g := lookD dl lk) (ei_any ve he.1) (by have := he.2; omega) (fun _ => rfl) fun a ha x H2 e2 h1 => ⟨?_, lookD_flat _ _ _⟩)))
  have vt : EvD K (tVar 0) [some v, some u, some x] H2 t := ed_var rfl (dpe hx e2)
  have vx : EvD K (tVar 2) [some v, some u, some x] H2 (.int a) := ed_var rfl h1
  exact ed_tup (eds_cons (ed_call (R := R_close_by) (eds_cons vt (eds_cons vx eds_nil)) ⟨t, dl, lk, wt, a, rfl, ht, rfl⟩) (eds_cons (ed_call (R := R_show_by) (eds_cons vt (eds_cons vx eds_nil)) ⟨t, dl, lk, wt, a, rfl, ht, rfl⟩) eds_nil)) (le5 rfl)
def R_wish (ds : List PyData) (d : PyData) : Prop := ∃ t dl lk wt rt r am sec mo last, ds = [t, rt, .int am, .int sec, .int mo, .int last] ∧ Tm t dl lk wt ∧ RowL rt r ∧ r ≠ [] ∧
  d = .tuple [.int mo, .tuple [.str "pay", rowD r, .int am, imgD sec, rowD (leastEnds dl lk (r.length - 1) [last])]]
theorem d_wish (B : Bt mg) (A : At K mg "wish_for" s_wish_for ["times", "route", "amount", "secret", "moment", "last"]) (c_tuple_of : TupOf P w K mg base 3) (c_image_of : Dfn P w K mg base "image_of" ["secret"] CX0 1 (spF K R_image_of))
    (c_least_ends : Dfn P w K mg base "least_ends" ["times", "many", "last"] CX0 3 (spF K R_least_ends)) : Dfn P w K mg base "wish_for" ["times", "route", "amount", "secret", "moment", "last"] CX0 4 (spF K R_wish) := by
  refine A.okD sc_wish_for (fun ds d h => by obtain ⟨t, dl, lk, wt, rt, r, am, sec, mo, last, rfl, _⟩ := h; rfl) (fun f cdv A outer s H0 E hr => ⟨_, (pss_cons (ps_set (i := 6) sc_wish_for.nd rfl (Or.inl rfl) (pe_fn c_tuple_of hr (by omega) (by rfl) (pa_cons (pv 1) pa_nil))) (pss_one (ps_ret (pe_tup (pa_cons (pv 4) (pa_cons (pe_tup (pa_cons pe_str (pa_cons (pv 6) (pa_cons (pv 2) (pa_cons (pe_fn c_image_of hr (by omega) (by rfl) (pa_cons (pv 3) pa_nil)) (pa_cons (pe_fn c_least_ends hr (by omega) (by rfl) (pa_cons (pv 0) (pa_cons (pe_callB (r := rLenS K) call_len_seq (by rfl) B.len PySem.boot_len (pa_cons (pv 6) pa_nil)) (pa_cons (pv 5) pa_nil)))) pa_nil)))))) pa_nil)))))), fun vs H ds d r hv => ?_⟩)
  obtain ⟨t, dl, lk, wt, rt, r, am, sec, mo, last, rfl, ht, hrt, hne, rfl⟩ := r
  obtain ⟨v0, v1, v2, v3, v4, v5, rfl, h0, h1, h2, h3, h4, h5⟩ := dpA6 hv
  have e2 := dp_vint h2
  have e3 := dp_vint h3
  have e4 := dp_vint h4
  have e5 := dp_vint h5
  subst e2 e3 e4 e5
  intro Q q
  have vr : EvD K (tVar 1) [some v0, some v1, some (.int am), some (.int sec), some (.int mo), some (.int last), none] H rt := ed_var rfl h1
  have t1 := ed_call (R := R_tuple_of 3) (E := E0) (eds_cons vr eds_nil) ⟨rt, rfl, okD_mono 2 _ hrt.ok, rfl⟩
  rw [hrt.tup] at t1
  refine q_d t1 fun g H1 e1 hg => ?_
  have vg : EvD K (tVar 6) [some v0, some v1, some (.int am), some (.int sec), some (.int mo), some (.int last), some g] H1 (rowD r) := ed_var rfl hg
  have vt : EvD K (tVar 0) [some v0, some v1, some (.int am), some (.int sec), some (.int mo), some (.int last), some g] H1 t := ed_var rfl (dpe h0 e1)
  have hl := ev_lenT vg
  rw [List.length_map] at hl
  have hpos := List.length_pos_iff.mpr hne
  have hle := ed_call (R := R_least_ends) (E := E0) (eds_cons vt (eds_cons (ed_i hl) (eds_cons (ed_i (ev_var (i := 5) (v := .int last) rfl)) eds_nil))) ⟨t, dl, lk, wt, r.length, last, rfl, ht, by omega, by have := hrt.2; omega, rfl⟩
  rw [show ((r.length : Int) - 1).toNat = r.length - 1 by omega] at hle
  refine s_rq (ed_tup (eds_cons (ed_i (ev_var rfl)) (eds_cons (ed_tup (eds_cons ed_cstr (eds_cons vg (eds_cons (ed_i (ev_var rfl)) (eds_cons (ed_call (R := R_image_of) (eds_cons (ed_i (ev_var rfl)) eds_nil) ⟨sec, rfl, rfl⟩) (eds_cons hle eds_nil))))) (le5 rfl)) eds_nil)) (le5 rfl)) q e1
end
end KT

set_option Elab.async false
set_option linter.all false
set_option autoImplicit false
set_option maxRecDepth 100000
set_option maxHeartbeats 4000000
/-! Ks0: a set of at most a few tuples of ints and texts that differ. -/
namespace KT
open PySem PySem.Spec PyProof.Rows L2
abbrev IsK (P : Program) (w : World) (h : Heap) (k : List Key) (a : Addr) : Prop := IsTupleKey (mixKind P w) h k a
abbrev kHash (P : Program) (w : World) (k : List Key) : Int := tupleKeyHash (mixKind P w) k
section
variable {P : Program} {w : World} {A : Around} {E : Value → Shared → Prop} {s : Shared}
/-- an int or a text -/
def leaf (v : Value) : Prop := (∃ i t, v = Value.int i t) ∨ ∃ x t, v = Value.str x t
theorem leaf_items {k : List Key} {vs : List Value} (h : ItemsAre (mixKind P w) k vs) : ∀ v ∈ vs, leaf v := by
  induction h with
  | nil => exact fun _ m => nomatch m
  | cons first _ more =>
    intro v m
    rcases List.mem_cons.mp m with rfl | m
    · rcases keyIs_shape first with ⟨i, t, _, q⟩ | ⟨x, t, _, q⟩
      · exact .inl ⟨i, t, q⟩
      · exact .inr ⟨x, t, q⟩
    · exact more v m
theorem leaf_class (n : Nat) {v : Value} (h : leaf v) : ofAClassStatement n v = pure false := by
  rcases h with ⟨i, t, rfl⟩ | ⟨x, t, rfl⟩ <;> cases n <;> rfl
theorem leaf_hash (n : Nat) {v : Value} (h : leaf v) : hashByValue n v = pure true ∨ hashByValue n v = pure false := by
  rcases h with ⟨i, t, rfl⟩ | ⟨x, t, rfl⟩
  · left; cases n <;> rfl
  · right; cases n <;> rfl
theorem key_class {k : List Key} {b : Addr} {Q : Bool → Shared → Prop} (hk : IsK P w s.heap k b) (done : Q false s) : wpAny (model P w) A (ofAClassStatement 8 (.ref b)) Q E s := by
  have isT := hk.typeIs
  obtain ⟨ob, arr, n, hob, _, hdat, hit⟩ := hk
  unfold ofAClassStatement
  refine wpAny_bind (wpAny_typeOf isT ?_)
  dsimp only
  simp only [show (("tuple" : String) == "tuple") = true from by decide, if_true, Bool.not_true, Bool.false_eq_true, if_false]
  try refine wpAny_bind (wpAny_pure ?_)
  try simp only [Bool.not_true, Bool.false_eq_true, if_false]
  show wpAny _ _ (seqItems? (.ref b) >>= _) _ _ s
  refine wpAny_bind (wpAny_seqItems hob hdat ?_)
  dsimp only
  refine wpAny_bind ?_
  show wpAny _ _ (forIn arr _ _) _ _ s
  rw [← Array.forIn_toList]
  refine wpAny_forIn_list _ (fun todo r s' => r.1 = none ∧ s' = s ∧ ∀ v ∈ todo, leaf v) _ (fun v todo r s' inv => ?_) (fun r s' inv => ?_) _ _ ⟨rfl, rfl, leaf_items hit⟩
  · obtain ⟨hr, rfl, all⟩ := inv
    rw [leaf_class _ (all v List.mem_cons_self)]
    refine wpAny_bind (wpAny_pure ?_)
    simp only [Bool.false_eq_true, if_false]
    exact wpAny_pure ⟨rfl, rfl, fun u m => all u (List.mem_cons_of_mem _ m)⟩
  · obtain ⟨r1, r2⟩ := r
    obtain ⟨hr, rfl, _⟩ := inv
    simp only at hr
    subst hr
    exact wpAny_pure done
theorem key_byValue {k : List Key} {b : Addr} {Q : Bool → Shared → Prop} (hk : IsK P w s.heap k b) (done : ∀ b, Q b s) : wpAny (model P w) A (hashByValue 8 (.ref b)) Q E s := by
  have isT := hk.typeIs
  obtain ⟨ob, arr, n, hob, _, hdat, hit⟩ := hk
  unfold hashByValue
  refine wpAny_bind (wpAny_specialOf isT F.slot_tuple_hash.lookup ?_)
  show wpAny _ _ (seqItems? (.ref b) >>= _) _ _ s
  refine wpAny_bind (wpAny_seqItems hob hdat ?_)
  refine wpAny_bind ?_
  show wpAny _ _ (forIn arr _ _) _ _ s
  rw [← Array.forIn_toList]
  refine wpAny_forIn_list _ (fun todo r s' => r.1 = none ∧ s' = s ∧ ∀ v ∈ todo, leaf v) _ (fun v todo r s' inv => ?_) (fun r s' inv => ?_) _ _ ⟨rfl, rfl, leaf_items hit⟩
  · obtain ⟨hr, rfl, all⟩ := inv
    rcases leaf_hash 7 (all v List.mem_cons_self) with z | z <;> rw [z] <;> refine wpAny_bind (wpAny_pure ?_)
    · simp only [Bool.not_true, Bool.false_eq_true, if_false]
      exact wpAny_pure ⟨rfl, rfl, fun u m => all u (List.mem_cons_of_mem _ m)⟩
    · simp only [Bool.not_false, if_true]
      exact wpAny_pure (wpAny_pure (done false))
  · obtain ⟨r1, r2⟩ := r
    obtain ⟨hr, rfl, _⟩ := inv
    simp only at hr
    subst hr
    exact wpAny_pure (done true)
theorem key_unseen {k : List Key} {b : Addr} {Q : Bool → Shared → Prop} (hk : IsK P w s.heap k b) {ys : List Value} (hy : ∀ y ∈ ys, ∃ k' c, y = Value.ref c ∧ IsK P w s.heap k' c) (done : Q false s) :
    wpAny (model P w) A (searchCouldBeSeen (.ref b) ys) Q E s := by
  unfold searchCouldBeSeen
  refine wpAny_bind (wpAny_forIn_list _ (fun todo r s' => r.1 = none ∧ s' = s ∧ ∀ y ∈ todo, ∃ k' c, y = Value.ref c ∧ IsK P w s.heap k' c) _ (fun v todo r s' inv => ?_) (fun r s' inv => ?_) _ _ ⟨rfl, rfl, hy⟩)
  · obtain ⟨hr, rfl, all⟩ := inv
    obtain ⟨k', c, rfl, hc⟩ := all v List.mem_cons_self
    have left : ∀ y ∈ todo, ∃ k' c, y = Value.ref c ∧ IsK P w s'.heap k' c := fun u m => all u (List.mem_cons_of_mem _ m)
    dsimp only
    by_cases same : (b == c || (carriedByValue (.ref b) && carriedByValue (.ref c))) = true
    · exact wp_if_pos same (wpAny_pure ⟨rfl, rfl, left⟩)
    · refine wp_if_neg same (wpAny_bind (wpAny_eqIsQuiet_tuple hk ?_))
      simp only [Bool.not_true, Bool.false_eq_true, if_false]
      refine wpAny_bind (wpAny_eqIsQuiet_tuple hc ?_)
      simp only [Bool.not_true, Bool.false_eq_true, if_false]
      refine wpAny_bind (key_class hk ?_)
      simp only [Bool.false_eq_true, if_false]
      refine wpAny_bind (key_class hc ?_)
      simp only [Bool.false_eq_true, if_false]
      exact wpAny_pure ⟨rfl, rfl, left⟩
  · obtain ⟨r1, r2⟩ := r
    obtain ⟨hr, rfl, _⟩ := inv
    simp only at hr
    subst hr
    exact wpAny_pure done

/-! the set -/
structure KSet (P : Program) (w : World) (h : Heap) (a : Addr) (L : List (Addr × List Key)) (arr : Array (Int × Value)) (ep : Nat) (tb : SetTable) : Prop where
  obj : ∃ o, h.get? a = some o ∧ o.ExactSet ∧ o.data = .set arr ep tb
  lines : arr.toList = L.map fun p => (kHash P w p.2, Value.ref p.1)
  tab : TabOk tb (L.map fun p => kHash P w p.2)
  keys : ∀ p ∈ L, IsK P w h p.2 p.1
  led : w.params.followText "set-order" = true ∨ tb.led = true
  mask : tb.mask = 7
  few : L.length ≤ 2
variable {a : Addr} {L : List (Addr × List Key)} {arr : Array (Int × Value)} {ep : Nat} {tb : SetTable}
theorem KSet.size (R : KSet P w s.heap a L arr ep tb) : arr.size = L.length := by
  have z := congrArg List.length R.lines
  rw [Array.length_toList, List.length_map] at z
  exact z
theorem KSet.fits (R : KSet P w s.heap a L arr ep tb) : tb.fits arr.size = true := by
  have z1 := R.tab.sz
  rw [List.length_map] at z1
  have z2 := R.size
  have z3 := R.few
  have z4 := R.mask
  unfold SetTable.fits SetTable.fill
  rw [R.tab.dm, Bool.and_eq_true, beq_iff_eq, decide_eq_true_eq]
  exact ⟨by omega, by show tb.place.size + 0 ≤ tb.mask; omega⟩
theorem KSet.line (R : KSet P w s.heap a L arr ep tb) {i : Nat} {p : Addr × List Key} (h : L[i]? = some p) : arr[i]? = some (kHash P w p.2, Value.ref p.1) := by
  rw [← Array.getElem?_toList, R.lines, List.getElem?_map, h]
  rfl
theorem KSet.stays (R : KSet P w s.heap a L arr ep tb) : ¬ tb.gaveWay = true := by
  unfold SetTable.gaveWay
  rw [mask_odd R.tab.mok]
  decide
theorem dummyless (m : Nat) : ∀ (n : Nat) (p : SetTable.Probe), p.dummy = none → (nth m p n).dummy = none
  | 0, _, h => h
  | n + 1, p, h => dummyless m n (adv m p) (by unfold adv; split <;> exact h)
/-- where a key that is not there goes -/
theorem k_search (R : KSet P w s.heap a L arr ep tb) {x : Addr} {k : List Key} (hx : IsK P w s.heap k x) (hu : A.units < cLine) (fresh : ∀ p ∈ L, p.2 ≠ k) {Q : SetFound → Shared → Prop}
    (found : ∀ K, way tb.mask (kHash P w k) K ∉ tb.place.toList → (∀ c, c < K → way tb.mask (kHash P w k) c ∈ tb.place.toList) → Q (.free (way tb.mask (kHash P w k) K) false) s) :
    wpAny (model P w) A (setSearch a (.ref x) (kHash P w k) true) Q E s := by
  have few := R.few
  have mask := R.mask
  obtain ⟨K, K1, K2, K3⟩ := R.tab.first (by rw [List.length_map]; omega) (kHash P w k)
  have Kbig : K < 100000 := by
    have : 10 * SetTable.turns tb.mask ≤ 1420 := by
      unfold SetTable.turns
      omega
    omega
  obtain ⟨o, ho, _, hdat⟩ := R.obj
  have walk : ∀ (f c : Nat) (st : Option SetTable.Probe), st.getD (tb.probeStart (kHash P w k)) = nth tb.mask (runAt tb.mask (SetTable.bits (kHash P w k) % (tb.mask + 1)) (SetTable.bits (kHash P w k))) c → c ≤ K → K - c < f →
      wpAny (model P w) A (setSearchFrom a (.ref x) (kHash P w k) true f st) Q E s := by
    intro f
    induction f with
    | zero => intro c st _ _ z; exact absurd z (Nat.not_lt_zero _)
    | succ f ih =>
      intro c st hst hc hf
      rw [setSearchFrom_succ]
      refine wpAny_bind (wpAny_setState_of ho hdat R.fits ?_)
      dsimp only
      refine wp_if_neg R.stays ?_
      try refine wpAny_bind (wpAny_pure ?_)
      have move : ∀ q, nth tb.mask (nth tb.mask (runAt tb.mask (SetTable.bits (kHash P w k) % (tb.mask + 1)) (SetTable.bits (kHash P w k))) c) q = nth tb.mask (runAt tb.mask (SetTable.bits (kHash P w k) % (tb.mask + 1)) (SetTable.bits (kHash P w k))) (c + q) := fun q => (nth_add tb.mask c _ q).symm
      have moveJ : ∀ q, (nth tb.mask (nth tb.mask (runAt tb.mask (SetTable.bits (kHash P w k) % (tb.mask + 1)) (SetTable.bits (kHash P w k))) c) q).j = way tb.mask (kHash P w k) (c + q) := fun q => congrArg SetTable.Probe.j (move q)
      rcases go_spec tb R.tab.ris R.tab.dm (fun i => (arr[i]?.map (·.1)).getD 0) (kHash P w k) (10 * SetTable.turns tb.mask) (K - c) (nth tb.mask (runAt tb.mask (SetTable.bits (kHash P w k) % (tb.mask + 1)) (SetTable.bits (kHash P w k))) c) (dummyless _ _ _ rfl) (by omega)
        (fun q hq => by rw [moveJ]; exact K3 (c + q) (by omega)) (by rw [moveJ, show c + (K - c) = K by omega]; exact K2) with ⟨q, i, hq, hi, _, _, hgo⟩ | ⟨_, hgo⟩
      · have met : tb.probe (fun i => (arr[i]?.map (·.1)).getD 0) (kHash P w k) (st.getD (tb.probeStart (kHash P w k))) = some (.candidate (way tb.mask (kHash P w k) (c + q)) i (nth tb.mask (runAt tb.mask (SetTable.bits (kHash P w k) % (tb.mask + 1)) (SetTable.bits (kHash P w k))) (c + (q + 1)))) := by
          rw [hst, ← moveJ, ← move]
          exact hgo
        rw [met]
        dsimp only
        rw [moveJ] at hi
        have hil : i < L.length := by
          have z1 := (List.getElem?_eq_some_iff.mp hi).1
          have z2 := R.tab.sz
          rw [List.length_map] at z2
          rw [Array.length_toList] at z1
          omega
        obtain ⟨p, hp⟩ : ∃ p, L[i]? = some p := ⟨_, List.getElem?_eq_getElem hil⟩
        have pm := List.mem_of_getElem? hp
        have differ := fresh p pm
        have onward : wpAny (model P w) A (searchRest a (.ref x) (kHash P w k) true f arr tb (way tb.mask (kHash P w k) (c + q)) i (nth tb.mask (runAt tb.mask (SetTable.bits (kHash P w k) % (tb.mask + 1)) (SetTable.bits (kHash P w k))) (c + (q + 1)))) Q E s := by
          unfold searchRest
          rw [R.line hp]
          dsimp only
          refine wpAny_bind (wpAny_holding (wpAny_eqBool_tuple hu (R.keys p pm) hx (wpAny_bind (wpAny_setState_of ho hdat R.fits ?_))))
          dsimp only
          refine wp_if_neg (by simp [differ]) ?_
          try refine wpAny_bind (wpAny_pure ?_)
          rw [sameMem]
          dsimp only
          simp only [if_true, slot_live R.tab.ris hi, R.line hp]
          refine wpAny_bind (wpAny_isSame_ref_self (wpAny_bind (wpAny_pure ?_)))
          simp only [if_true]
          exact wp_if_neg (by simp [differ]) (ih (c + (q + 1)) _ rfl (by omega) (by omega))
        by_cases led : tb.led = true
        · refine wp_if_neg (by simp [led]) ?_
          try refine wpAny_bind (wpAny_pure ?_)
          exact onward
        · refine wp_if_pos (by simp [led]) (wpAny_bind (key_unseen hx (fun y hy => ?_) ?_))
          · obtain ⟨e, he, ee⟩ := List.mem_map.mp hy
            have he1 : e ∈ arr ∧ e.1 = kHash P w k := by simpa using he
            have he2 : e ∈ arr.toList := by simpa using he1.1
            rw [R.lines] at he2
            obtain ⟨p2, hp2, e2⟩ := List.mem_map.mp he2
            exact ⟨p2.2, p2.1, by rw [← ee, ← e2], R.keys p2 hp2⟩
          · refine wp_if_neg (by decide) ?_
            try refine wpAny_bind (wpAny_pure ?_)
            exact onward
      · have met : tb.probe (fun i => (arr[i]?.map (·.1)).getD 0) (kHash P w k) (st.getD (tb.probeStart (kHash P w k))) = some (.empty (way tb.mask (kHash P w k) K) none) := by
          rw [hst, show way tb.mask (kHash P w k) K = (nth tb.mask (nth tb.mask (runAt tb.mask (SetTable.bits (kHash P w k) % (tb.mask + 1)) (SetTable.bits (kHash P w k))) c) (K - c)).j from by rw [moveJ, show c + (K - c) = K by omega]]
          exact hgo
        rw [met]
        dsimp only
        exact wpAny_pure (found K K2 K3)
  unfold setSearch
  exact walk 100000 0 none rfl (Nat.zero_le _) (by omega)
theorem key_same {h h' : Heap} {k : List Key} {b c : Addr} {o : Obj} (hk : IsK P w h k b) (ho : h.get? c = some o) (hd : o.data = .set arr ep tb) (sb : Heap.SameBut c h h') : IsK P w h' k b := by
  obtain ⟨ob, its, n, hob, hcls, hdat, hit⟩ := hk
  have ne : b ≠ c := fun e => by
    rw [e, ho] at hob
    cases hob
    rw [hd] at hdat
    cases hdat
  exact ⟨ob, its, n, (sb.2 b ne).trans hob, hcls, hdat, hit⟩
/-- one more -/
theorem k_add (R : KSet P w s.heap a L arr ep tb) {x : Addr} {k : List Key} (hx : IsK P w s.heap k x) (hu : A.units < cLine) (fresh : ∀ p ∈ L, p.2 ≠ k) (few : L.length ≤ 1) {Q : Bool → Shared → Prop}
    (done : ∀ h' L' arr' ep' tb', Heap.SameBut a s.heap h' → KSet P w h' a L' arr' ep' tb' → L'.length = L.length + 1 → (∀ p ∈ L', p = (x, k) ∨ p ∈ L) → Q true { s with heap := h' }) :
    wpAny (model P w) A (setAddHashed a (.ref x) (kHash P w k)) Q E s := by
  obtain ⟨o, ho, hex, hdat⟩ := R.obj
  unfold setAddHashed
  refine wpAny_holding ?_
  rw [show (100000 : Nat) = 99999 + 1 from rfl, setAddHashedIn_succ]
  refine wpAny_bind (wpAny_setState_of ho hdat R.fits ?_)
  dsimp only
  refine wp_if_neg (by simp [byScan, Value.scannable]) ?_
  try refine wpAny_bind (wpAny_pure ?_)
  refine wpAny_bind (k_search R hx hu fresh fun K K2 K3 => ?_)
  dsimp only
  refine wpAny_bind (wpAny_setState_of ho hdat R.fits ?_)
  dsimp only
  obtain ⟨q1, q2, q3, q4, q5, q6, q7, q8, q9⟩ := R.tab.put K2 K3
  generalize hput : tb.put (way tb.mask (kHash P w k) K) = pt at q1 q3 q4 q5 q6 q7 q8 q9 ⊢
  obtain ⟨tb1, at1⟩ := pt
  dsimp only at q1 q3 q4 q5 q6 q7 q8 q9 ⊢
  subst q1
  have asked : ∀ {γ : Type} (f : Bool → Sem γ) (Q' : γ → Shared → Prop), (∀ b, wpAny (model P w) A (f b) Q' E s) → wpAny (model P w) A (if tb1.plain = true then (hashByValue 8 (.ref x) >>= f) else (pure true >>= f)) Q' E s := fun f Q' h => by
    by_cases z : tb1.plain = true
    · rw [if_pos z]
      exact wpAny_bind (key_byValue hx h)
    · rw [if_neg z]
      exact wpAny_bind (wpAny_pure (h true))
  refine asked _ _ fun b => ?_
  generalize hat : SetTable.below tb.place (way tb.mask (kHash P w k) K) = n at q2 q3 ⊢
  have lines1 : (SetTable.insertAt arr n (kHash P w k, Value.ref x)).toList = (L.take n ++ (x, k) :: L.drop n).map fun p => (kHash P w p.2, Value.ref p.1) := by
    rw [SetTable.toList_insertAt, R.lines, List.map_append, List.map_cons, List.map_take, List.map_drop]
  have perm := put_perm L n (x, k)
  have len1 : (L.take n ++ (x, k) :: L.drop n).length = L.length + 1 := perm.length_eq
  have hashes : (L.take n ++ (x, k) :: L.drop n).map (fun p => kHash P w p.2) = (L.map fun p => kHash P w p.2).take n ++ kHash P w k :: (L.map fun p => kHash P w p.2).drop n := by
    rw [List.map_append, List.map_cons, List.map_take, List.map_drop]
  rw [← hashes] at q3
  obtain ⟨tb2, htb, f1, f2, f3, f4⟩ : ∃ tb2, (if b = true then tb1 else { tb1 with plain := false }) = tb2 ∧ TabOk tb2 ((L.take n ++ (x, k) :: L.drop n).map fun p => kHash P w p.2) ∧ tb2.led = tb1.led ∧ tb2.mask = tb1.mask ∧ tb2.fill = tb1.fill := by
    cases b with
    | true => exact ⟨_, rfl, q3, rfl, rfl, rfl⟩
    | false => exact ⟨_, rfl, ⟨q3.ris, q3.dm, q3.sz, q3.mok, q3.bd, q3.reach⟩, rfl, rfl, rfl⟩
  simp only [htb]
  have size1 : (SetTable.insertAt arr n (kHash P w k, Value.ref x)).size = L.length + 1 := by
    have z := congrArg List.length lines1
    rw [Array.length_toList, List.length_map, len1] at z
    exact z
  generalize SetTable.insertAt arr n (kHash P w k, Value.ref x) = arr1 at lines1 size1 ⊢
  generalize L.take n ++ (x, k) :: L.drop n = L1 at perm len1 f1 lines1
  refine wpAny_bind (wpAny_storeSet_of ho hdat ?_ (by rw [size1, sizeLine_eq]; omega))
  have sb : Heap.SameBut a s.heap (s.heap.update a (Obj.putSet arr1 tb2)) := Heap.SameBut.update ..
  have ho1 := store_at (es' := arr1) (t' := tb2) ho hdat
  generalize s.heap.update a (Obj.putSet arr1 tb2) = h1 at sb ho1 ⊢
  have members : ∀ p ∈ L1, p = (x, k) ∨ p ∈ L := fun p hp => List.mem_cons.mp (perm.mem_iff.mp hp)
  have room : ¬ tb2.tooFull = true := by
    have mask := R.mask
    unfold SetTable.tooFull
    rw [decide_eq_true_eq, f4, q9, List.length_map, f3, q4]
    omega
  first
    | refine wp_if_neg (by simp [room]) ?_
    | (refine wpAny_bind ?_; refine wp_if_neg (by simp [room]) ?_; refine wpAny_pure ?_)
  refine wpAny_pure (done h1 L1 arr1 (ep + 1) tb2 sb ⟨⟨_, ho1, ⟨hex.1, hex.2.1, hex.2.2⟩, rfl⟩, lines1, f1, fun p hp => ?_, by rw [f2, q5]; exact R.led, by rw [f3, q4]; exact R.mask, by omega⟩ len1 members)
  rcases members p hp with e | hp
  · rw [e]
    exact key_same hx ho hdat sb
  · exact key_same (R.keys p hp) ho hdat sb
end
end KT

set_option Elab.async false
set_option linter.all false
set_option autoImplicit false
set_option maxRecDepth 100000
set_option maxHeartbeats 4000000
/-! Ks1: set(..) of a list of at most two such tuples. -/
namespace KT
open PySem PySem.Spec PyProof.Rows L2
section
variable {P : Program} {w : World} {A : Around} {E : Value → Shared → Prop} {s : Shared}
theorem key_keep {h h' : Heap} {k : List Key} {b : Addr} (x : IsK P w h k b) (keep : ∀ c o, h.get? c = some o → h'.get? c = some o) : IsK P w h' k b := by
  obtain ⟨ob, its, n, hob, more⟩ := x
  exact ⟨ob, its, n, keep b ob hob, more⟩
theorem KSet.keep {h h' : Heap} {a : Addr} {L : List (Addr × List Key)} {arr : Array (Int × Value)} {ep : Nat} {tb : SetTable} (R : KSet P w h a L arr ep tb) (same : ∀ o, h.get? a = some o → h'.get? a = some o) (all : ∀ p ∈ L, IsK P w h' p.2 p.1) : KSet P w h' a L arr ep tb := by
  obtain ⟨o, ho, more⟩ := R.obj
  exact ⟨⟨o, same o ho, more⟩, R.lines, R.tab, all, R.led, R.mask, R.few⟩
theorem kset_new {h : Heap} {a : Addr} (ho : h.get? a = some { cls := .type "set", dict := none, data := .set #[] 0 (.fresh 0 0 (!w.params.followText "set-order")) }) : KSet P w h a [] #[] 0 (.fresh 0 0 (!w.params.followText "set-order")) :=
  ⟨⟨_, ho, ⟨rfl, rfl, rfl⟩, rfl⟩, rfl, ⟨List.Pairwise.nil, rfl, rfl, .inl rfl, fun x hx => (by cases hx), fun i h j hi => (by simp at hi)⟩, fun p hp => (by cases hp),
    (by
      show _ ∨ (!w.params.followText "set-order") = true
      cases w.params.followText "set-order"
      · exact .inr rfl
      · exact .inl rfl), rfl, Nat.zero_le _⟩
theorem fresh_of {ks L : List (Addr × List Key)} {i : Nat} {x : Addr × List Key} (nd : (ks.map (·.2)).Nodup) (sub : ∀ p ∈ L, p ∈ ks.take i) (hx : ks[i]? = some x) : ∀ p ∈ L, p.2 ≠ x.2 := fun p hp e => by
  obtain ⟨j, hj, ej⟩ := List.getElem_of_mem (sub p hp)
  rw [List.length_take] at hj
  rw [List.getElem_take] at ej
  obtain ⟨hi, ei⟩ := List.getElem?_eq_some_iff.mp hx
  have z := List.pairwise_iff_getElem.mp nd j i (by rw [List.length_map]; omega) (by rw [List.length_map]; exact hi) (by omega)
  rw [List.getElem_map, List.getElem_map, ej, ei] at z
  exact z e
theorem k_update {It : Addr} {fp wr : List Addr} {G : Array GenState → Array GenState → Prop} {n : Nat} {Pv : Nat → Value → Prop} {St : Nat → Shared → Prop} {R : Result → Shared → Prop}
    (W : WalksS P w A.in1 It fp wr G n Pv St) (T : Addr) (off : T ∉ fp) (ks : List (Addr × List Key)) (hn : n = ks.length) (few : ks.length ≤ 2) (nd : (ks.map (·.2)).Nodup) (vals : ∀ i v, Pv i v → ∃ p, ks[i]? = some p ∧ v = .ref p.1)
    (h0 : Heap) (keys : ∀ p ∈ ks, IsK P w h0 p.2 p.1) (new0 : h0.get? T = none) (wr0 : ∀ b ∈ wr, h0.get? b = none) (room : A.in1.units < cLine) :
    ∀ (todo i : Nat) (s : Shared), n - i = todo → i ≤ n → St i s → (∀ b o, h0.get? b = some o → s.heap.get? b = some o) → (∃ L arr ep tb, KSet P w s.heap T L arr ep tb ∧ L.length = i ∧ ∀ p ∈ L, p ∈ ks.take i) →
      (∀ s' L arr ep tb, Moved (T :: wr) G s s' → KSet P w s'.heap T L arr ep tb → L.length = n → (∀ b o, h0.get? b = some o → s'.heap.get? b = some o) → R (.ok (.ret .none)) s') →
      codeAny (model P w) A (.builtin "set.update.loop" ⟨[.ref T, .ref It], []⟩) R s := by
  have offW : T ∉ wr := fun m => off (W.sub _ m)
  have into : ∀ b ∈ wr, b ∈ T :: wr := fun b m => List.mem_cons_of_mem _ m
  have carry : ∀ {s1 s2 : Shared}, Moved wr G s1 s2 → (∀ b o, h0.get? b = some o → s1.heap.get? b = some o) → ∀ b o, h0.get? b = some o → s2.heap.get? b = some o := fun mv old b o e =>
    mv.heap b o (fun m => by rw [wr0 b m] at e; cases e) (old b o e)
  intro todo
  induction todo with
  | zero =>
    intro i s left le st old ⟨L, arr, ep, tb, K0, len0, sub0⟩ goOn
    obtain rfl : i = n := by omega
    refine codeAny_builtin F.entry_set_update_loop ?_
    rw [Around.under_plainId F.plain_set_update_loop _]
    show wpAny _ A.in1 (pyNext (.ref It) >>= _) _ _ s
    refine wpAny_bind (W.done s _ _ st fun s' mv => ?_)
    show wpAny _ A.in1 (ret Value.none) _ _ s'
    exact wpAny_pure (goOn s' L arr ep tb (mv.mono into) (K0.keep (fun o e => mv.heap T o offW e) fun p hp => key_keep (keys p (List.mem_of_mem_take (sub0 p hp))) (carry mv old)) len0 (carry mv old))
  | succ todo ih =>
    intro i s left le st old ⟨L, arr, ep, tb, K0, len0, sub0⟩ goOn
    have lt : i < n := by omega
    refine codeAny_builtin F.entry_set_update_loop ?_
    rw [Around.under_plainId F.plain_set_update_loop _]
    show wpAny _ A.in1 (pyNext (.ref It) >>= _) _ _ s
    refine wpAny_bind (W.item i s _ _ lt st fun v s' isV st' mv => ?_)
    obtain ⟨p, hp, rfl⟩ := vals i v isV
    have old' := carry mv old
    have K1 : KSet P w s'.heap T L arr ep tb := K0.keep (fun o e => mv.heap T o offW e) fun q hq => key_keep (keys q (List.mem_of_mem_take (sub0 q hq))) old'
    have isP : IsK P w s'.heap p.2 p.1 := key_keep (keys p (List.mem_of_getElem? hp)) old'
    show wpAny _ A.in1 (holding [Value.ref p.1] (setAdd T (.ref p.1)) >>= _) _ _ s'
    refine wpAny_bind (wpAny_holding ?_)
    unfold setAdd
    refine wpAny_holding (wpAny_bind (wpAny_pyHash_tuple room isP ?_))
    refine k_add (s := { s' with toks := s'.toks + (p.2.length + 1) }) K1 isP room (fresh_of nd sub0 hp) (by omega) fun h' L' arr' ep' tb' sb K2 len2 sub2 => ?_
    have old2 : ∀ b o, h0.get? b = some o → h'.get? b = some o := fun b o e => (sb.2 b (fun z => by rw [z, new0] at e; cases e)).trans (old' b o e)
    refine wpAny_pure ⟨plainId_quiet F.plain_set_update_loop _, ih (i + 1) _ (by omega) lt (W.frame _ s' _ _ st' (Nat.le_add_right _ _) fun b hb o e => ?_) old2 ⟨L', arr', ep', tb', K2, by omega, fun q hq => ?_⟩ fun s2 L2 arr2 ep2 tb2 mv2 K3 len3 old3 => ?_⟩
    · rw [sb.2 b (fun z : b = T => off (by rw [← z]; exact hb))]
      exact e
    · rw [List.take_add_one, hp]
      rcases sub2 q hq with e | hq
      · rw [e]
        exact List.mem_append_right _ (List.mem_singleton.mpr rfl)
      · exact List.mem_append_left _ (sub0 q hq)
    · refine goOn s2 L2 arr2 ep2 tb2 (Moved.trans W.gtrans ((mv.mono into).then_heap (Nat.le_add_right _ _) fun b o hb e => ?_) mv2) K3 len3 old3
      rw [sb.2 b (fun z : b = T => hb (by rw [z]; exact List.mem_cons_self))]
      exact e
set_option maxRecDepth 100000 in
set_option maxHeartbeats 3200000 in
theorem call_set_keys {l : Addr} {items : Array Value} (ks : List (Addr × List Key)) {Q : Value → Shared → Prop} (calm : A.handled = none) (hl : s.heap.IsList l items) (hit : items.toList = ks.map fun p => Value.ref p.1)
    (keys : ∀ p ∈ ks, IsK P w s.heap p.2 p.1) (few : ks.length ≤ 2) (nd : (ks.map (·.2)).Nodup) (room : A.units + 3 < cLine)
    (done : ∀ (h' : Heap) (tk : Nat) L arr ep tb, KSet P w h' s.heap.objs.size L arr ep tb → L.length = ks.length → (∀ b o, s.heap.get? b = some o → h'.get? b = some o) → Q (.ref s.heap.objs.size) { s with heap := h', toks := tk }) :
    wpAny (model P w) A (call (.type "set") [.ref l]) Q E s := by
  have many : items.size = ks.length := by
    have z := congrArg List.length hit
    rw [Array.length_toList, List.length_map] at z
    exact z
  obtain ⟨c1, c2, hmro⟩ := F.called_set.mro
  have f1 := F.called_set.made
  have f2 := F.called_set.sub
  refine wpAny_call (codeAny_of_tree ?_)
  show wpAny _ _ (callAny (.type "set") _) _ _ _
  refine wpAny_pure ⟨Code.quiet_builtin _ (by decide +kernel), codeAny_builtin F.entry_type_call ?_⟩
  rw [Around.under_plain (weight_type_call_type "set" [.ref l] []) rfl]
  have f3 := F.called_set.notType
  have f4 := F.called_set.canCreate
  have f5 := F.typeCall_set_1 (.ref l)
  repeat (any_goals (first | assumption | wp_step))
  refine codeAny_mono (code_set_led1 (.ref l) (E := E) (Q₁ := fun obj s₁ => obj = .ref s.heap.objs.size ∧ s₁ = { s with heap := s.heap.push { cls := .type "set", dict := none, data := .set #[] 0 (.fresh 0 0 (!w.params.followText "set-order")) } }) ⟨rfl, rfl⟩) fun r s₁ hr => ?_
  cases r with
  | error e => exact hr
  | ok fl =>
    cases fl with
    | ret obj =>
      obtain ⟨rfl, rfl⟩ := hr
      have hT0 : (s.heap.push { cls := .type "set", dict := none, data := .set #[] 0 (.fresh 0 0 (!w.params.followText "set-order")) }).get? s.heap.objs.size = some { cls := .type "set", dict := none, data := .set #[] 0 (.fresh 0 0 (!w.params.followText "set-order")) } := Heap.get?_push_size _ rfl
      have isSet : Shared.TypeIs { s with heap := s.heap.push { cls := .type "set", dict := none, data := .set #[] 0 (.fresh 0 0 (!w.params.followText "set-order")) } } (.ref s.heap.objs.size) "set" := ⟨_, hT0, rfl⟩
      have i1 := F.called_set.init.lookup
      have i2 := F.called_set.init.bind (.ref s.heap.objs.size)
      repeat (any_goals (first | assumption | wp_step))
      refine codeAny_mono (codeAny_call_builtin (R := wants (fun r s₂ => r = .none ∧ ∃ h' tk L arr ep tb, s₂ = { s with heap := h', toks := tk } ∧ KSet P w h' s.heap.objs.size L arr ep tb ∧ L.length = ks.length ∧
          (∀ b o, s.heap.get? b = some o → h'.get? b = some o)) E) F.called_set.init.plain F.entry_set_init (check_set_init_1 isSet ?_)) fun r₂ s₂ hr₂ => ?_
      · obtain ⟨ol, hol, hcl, nl, hdl⟩ := hl
        obtain ⟨ocls, odict, odata, oslots⟩ := ol
        simp only at hcl hdl
        subst hcl; subst hdl
        have listAt : (s.heap.push { cls := .type "set", dict := none, data := .set #[] 0 (.fresh 0 0 (!w.params.followText "set-order")) }).get? l = some { cls := .type "list", dict := odict, data := .seq items nl, slots := oslots } := Heap.get?_push_of_some _ hol
        have j1 := F.sub_list_set
        have j2 := F.sub_list_frozenset
        have j3 : (Value.type "list" == Value.type "dict") = false := by decide
        have isL : (s.heap.push { cls := .type "set", dict := none, data := .set #[] 0 (.fresh 0 0 (!w.params.followText "set-order")) }).IsList l items := ⟨_, listAt, rfl, nl, rfl⟩
        unfold Builtin.«set.__init__» noKeywords Builtin.Frozenset.updateFrom
        generalize hIter : pyIter = theIter
        wp_walk
        subst hIter
        refine wpAny_pyIter_list isL ?_
        refine wpAny_bind (wpAny_runValue ?_)
        have lOld : l < s.heap.objs.size := Heap.lt_size hol
        have calm3 : A.in1.in1.in1.handled = none := by simp [calm]
        have apart : l ≠ (s.heap.push { cls := .type "set", dict := none, data := .set #[] 0 (.fresh 0 0 (!w.params.followText "set-order")) }).objs.size := by
          rw [Heap.size_push]
          exact Nat.ne_of_lt (Nat.lt_succ_of_lt lOld)
        have off : s.heap.objs.size ∉ [(s.heap.push { cls := .type "set", dict := none, data := .set #[] 0 (.fresh 0 0 (!w.params.followText "set-order")) }).objs.size, l] := by
          rw [Heap.size_push]
          simp only [List.mem_cons, List.mem_singleton, List.not_mem_nil, or_false, not_or]
          exact ⟨Nat.ne_of_lt (Nat.lt_succ_self _), Nat.ne_of_gt lOld⟩
        have vals : ∀ (i : Nat) (v : Value), items[i]? = some v → ∃ p, ks[i]? = some p ∧ v = .ref p.1 := fun i v hv => by
          have q : items.toList[i]? = some v := by rw [Array.getElem?_toList]; exact hv
          rw [hit, List.getElem?_map] at q
          cases hq : ks[i]? with
          | none => rw [hq] at q; cases q
          | some p =>
            rw [hq] at q
            exact ⟨p, rfl, (Option.some.inj q).symm⟩
        have nothing : ∀ b, s.heap.objs.size ≤ b → s.heap.get? b = none := fun b hb => by
          cases q : s.heap.get? b with
          | none => rfl
          | some o => exact absurd (Nat.lt_of_lt_of_le (Heap.lt_size q) hb) (Nat.lt_irrefl _)
        refine k_update ((Walks.list calm3 _ l apart items).toS) s.heap.objs.size
          off ks many few nd vals s.heap keys (nothing _ (Nat.le_refl _)) (fun b hb => nothing b (by
            rw [List.mem_singleton.mp hb, Heap.size_push]
            exact Nat.le_succ _)) room (items.size - 0) 0 _ (by omega) (Nat.zero_le _)
          ⟨⟨_, Heap.get?_push_size _ rfl, rfl, rfl⟩, (isL.push _)⟩ (fun b o e => Heap.get?_push_of_some _ (Heap.get?_push_of_some _ e)) ?first ?last
        case first =>
          have there : ((s.heap.push { cls := .type "set", dict := none, data := .set #[] 0 (.fresh 0 0 (!w.params.followText "set-order")) }).push { cls := .type "list_iterator", data := .fields #[.ref l, .int 0 0] }).get? s.heap.objs.size
              = some { cls := .type "set", dict := none, data := .set #[] 0 (.fresh 0 0 (!w.params.followText "set-order")) } := Heap.get?_push_of_some _ hT0
          exact ⟨[], #[], 0, _, kset_new there, rfl, fun p hp => by cases hp⟩
        case last =>
          intro s' L arr ep tb mv K2 len2 keep2
          obtain ⟨h', g2, d', tk', os'⟩ := s'
          have eg : g2 = s.gens := mv.gens
          have ed : d' = s.drawn := mv.drawn
          have eo : os' = s.os := mv.os
          subst eg; subst ed; subst eo
          show wpAny _ _ _ _ _ _
          refine wpAny_pure ?_
          show wpAny _ _ (ret Value.none) _ _ _
          exact wpAny_pure ⟨rfl, h', tk', L, arr, ep, tb, rfl, K2, by rw [← many]; exact len2, keep2⟩
      · cases r₂ with
        | error e => exact hr₂
        | ok fl₂ =>
          cases fl₂ with
          | ret r =>
            obtain ⟨rfl, h', tk, L, arr, ep, tb, rfl, K2, len2, keep2⟩ := hr₂
            repeat (any_goals (first | assumption | wp_step))
            exact done _ _ _ _ _ _ K2 len2 keep2
          | _ => exact hr₂.elim
    | _ => exact hr.elim
end
end KT

set_option Elab.async false
set_option linter.all false
set_option autoImplicit false
set_option maxRecDepth 100000
set_option maxHeartbeats 4000000
/-! Ks: len(set(..)) of one or two tuples that differ. -/
namespace KT
open PySem PySem.Spec PyProof.Rows L2 Evl KD KM
def tLenSetT (K : PySem.W.Frag) (ta : TE) : TE := fun σ H Q => ta σ H fun x H1 => ∃ (l : Addr) (ps : List (Addr × List Key)), x = .ref l ∧ SqL K H1 l (ps.map fun p => V.ref p.1) ∧ (∀ p ∈ ps, SqT K H1 p.1 (p.2.map kV)) ∧ (ps.map (·.2)).Nodup ∧ ps.length ≤ 2 ∧ Q (.int (ps.length : Nat)) H1
theorem pe_lenSetT {X : Cx} {a : Expr} {ta : TE} {p p2 q pos : Pos} (hg : Gl X "len") (hm : X.mg "len" = none) (hg2 : Gl X "set") (hm2 : X.mg "set" = none) (ha : PE X a ta) (hu : X.A.units + 64 < cLine) (hc : X.calm = true := by rfl)
    (na : starEach [a] X.env = (false, eval a X.env) :: starEach [] X.env := by rfl) : PE X (.Call (.Name "len" p) [.Call (.Name "set" p2) [a] [] q] [] pos) (tLenSetT X.K ta) := by
  refine ⟨fun pins s σ H Q I h => ?_⟩
  refine Call_ (ld_blt I hg hm boot_len (PyProof.Rows.callWith_builtin1 (PyProof.Rows.args_cons ?_ rfl) rfl rfl))
  refine Call_ (ld_blt I hg2 hm2 boot_set (PyProof.Rows.callWith_type1 (PyProof.Rows.args_cons (thn (ha.run pins s σ H _ I h) fun v s1 hq => PyProof.Rows.args_nil ?_) na) na rfl))
  obtain ⟨x, H1, I1, r1, l, ps, rfl, hs, hk, hn, hl, q1⟩ := hq
  cases (show v = Value.ref l from r1)
  obtain ⟨its, r, pl, hz⟩ := I1.list hs
  have refs : ∀ (ps : List (Addr × List Key)) (us : List Value), Vals (ps.map fun p => V.ref p.1) us → us = ps.map fun p => Value.ref p.1 := fun ps => by
    induction ps with
    | nil => intro us z; cases z; rfl
    | cons a b ih =>
      intro us z
      cases z with
      | cons z1 z2 =>
        rw [ih _ z2]
        cases (show _ = Value.ref a.1 from z1)
        rfl
  have isKey : ∀ p ∈ ps, IsK X.prog X.w s1.heap p.2 p.1 := fun p hp => by
    obtain ⟨us, ru, ⟨o, ho, hc, n, hd⟩, _⟩ := I1.tuple (hk p hp)
    exact ⟨o, us.toArray, n, ho, hc, hd, by simpa using items_are ru⟩
  refine call_set_keys ps (I1.ok.hd hc) pl.isList (by rw [List.toList_toArray]; exact refs ps its r) isKey hl hn (by show X.A.units + 3 < cLine; omega) fun h' tk L arr ep tb K2 len2 keep2 => PyProof.Rows.args_nil ?_
  obtain ⟨o, ho, hex, hdat⟩ := K2.obj
  have I2 : Inv X pins σ H1 { s1 with heap := h', toks := tk } := I1.kept keep2
  have size2 : arr.size = ps.length := by rw [← len2]; exact KSet.size (s := { s1 with heap := h', toks := tk }) K2
  have fits2 := KSet.fits (s := { s1 with heap := h', toks := tk }) K2
  exact call_len_set ho hex hdat fits2 (by rw [size2]; omega) ⟨.int (ps.length : Nat), H1, I2.tok _, ⟨_, by rw [size2]⟩, q1⟩
theorem imgs_ps {K : PySem.W.Frag} {H : Hp} : ∀ {xs : List V} {ss : List Int}, DpAll K H xs (ss.map imgD) → ∃ ps : List (Addr × List Key), xs = ps.map (fun p => V.ref p.1) ∧ (∀ p ∈ ps, SqT K H p.1 (p.2.map kV)) ∧ ps.map (·.2) = ss.map fun s => [.inr "image", .inl s]
  | _, [], .nil => ⟨[], rfl, fun _ h => (by cases h), rfl⟩
  | _, s :: ss, .cons h t => by
    obtain ⟨ps, rfl, h2, h3⟩ := imgs_ps t
    obtain ⟨a, xs, rfl, hs, hx⟩ := dp_tup h
    obtain ⟨x1, x2, rfl, h4, h5⟩ := dpA2 hx
    rw [dp_vstr h4, dp_vint h5] at hs
    refine ⟨(a, [.inr "image", .inl s]) :: ps, rfl, fun p hp => ?_, ?_⟩
    · rcases List.mem_cons.mp hp with e | hp
      · rw [e]; exact hs
      · exact h2 p hp
    · rw [List.map_cons, List.map_cons, h3]
theorem ev_lenSetT {K : PySem.W.Frag} {σ : L2.St} {H : Hp} {ta : TE} {ss : List Int} (h : EvD K ta σ H (.list (ss.map imgD))) (hn : ss.Nodup) (hl : ss.length ≤ 2) : Ev (tLenSetT K ta) σ H (.int (ss.length : Nat)) := fun H1 e _ q =>
  h H1 e _ fun v H2 e2 hv => by
    obtain ⟨a, xs, rfl, hs, hx⟩ := dp_lst hv
    obtain ⟨ps, rfl, h2, h3⟩ := imgs_ps hx
    have el : ps.length = ss.length := by
      have z := congrArg List.length h3
      rw [List.length_map, List.length_map] at z
      exact z
    refine ⟨a, ps, rfl, hs, h2, ?_, by omega, by rw [el]; exact q H2 e2⟩
    rw [h3]
    exact List.pairwise_map.mpr (hn.imp fun {x y} hne e => hne (by
      injection e with _ e
      injection e with e _
      injection e))
end KT

set_option Elab.async false
set_option linter.all false
set_option autoImplicit false
set_option maxRecDepth 100000
set_option maxHeartbeats 4000000
/-! Kh: is_sheet. -/
namespace KT
open PySem PySem.Spec PyProof.Rows L2 Evl KD KM
theorem hu_of {k : Nat} {A : Around} (r : Room k A) : A.units + 64 < cLine := by
  have := r.un
  omega
theorem mem_of_all {α : Type} {l : List α} {f : α → Bool} (h : ∀ a ∈ l, f a = true) : (l.map f).all id = true := by
  rw [List.all_eq_true]
  intro b hb
  obtain ⟨a, ha, rfl⟩ := List.mem_map.mp hb
  exact h a ha
section
variable {P : Program} {w : World} {K : PySem.W.Frag} {mg : Str → Option Value} {base : Heap}
/-- a sheet's shape, all but its sums -/
structure ShOk (N : List Ch) (s : Sheet) : Prop where
  inN : inN N s.k
  num : 1 ≤ s.num
  locks : ∀ l ∈ s.locks, lockOk l
  few : s.locks.length ≤ 2
  dif : (s.locks.map fun l => l.2.2.1).Nodup
  tot : totM s = (chOf N s.k).2.2.1 + (chOf N s.k).2.2.2
def R_is_sheet (ds : List PyData) (d : PyData) : Prop := ∃ N s, ds = [netD N, sheetD s] ∧ ShOk N s ∧ d = .bool (decide (0 ≤ s.a ∧ 0 ≤ s.b))
theorem d_is_sheet (B : Bt mg) (A : At K mg "is_sheet" s_is_sheet ["net", "thing"]) (c_is_tuple_of : Dfn P w K mg base "is_tuple_of" ["thing", "many"] CX0 1 (spF K R_is_tuple_of))
    (c__is_count : Dfn P w K mg base "_is_count" ["thing"] CX0 2 (spF K R_is_count)) (c_is_lock : Dfn P w K mg base "is_lock" ["thing"] CX0 4 (spF K R_is_lock)) (c_total : Dfn P w K mg base "total" ["sheet"] CX0 1 (spF K R_total))
    (c_first_sheet : Dfn P w K mg base "first_sheet" ["net", "channel"] CX0 0 (spF K fun _ _ => False)) : Dfn P w K mg base "is_sheet" ["net", "thing"] CX0 5 (spF K R_is_sheet) := by
  refine A.okD sc_is_sheet (fun ds d h => by obtain ⟨N, s, rfl, _⟩ := h; rfl) (fun f cdv A outer s H0 E hr => ⟨_, (pss_cons (ps_if (PW.pt (pw_or (pt_not (pt_val (pe_fn c_is_tuple_of hr (by omega) (by rfl) (pa_cons (pv 1) (pa_cons pe_int pa_nil))))) (pw_or (pt_not (pt_val (pe_fn c__is_count hr (by omega) (by rfl) (pa_cons (pe_ix (r := rIx K) ix_seq (pv 1) pe_int (fun _ _ => rfl)) pa_nil)))) (pw_or (pt_not (pt_val (pe_fn c__is_count hr (by omega) (by rfl) (pa_cons (pe_ix (r := rIx K) ix_seq (pv 1) pe_int (fun _ _ => rfl)) pa_nil)))) (pw_or1 (pt_cmpR op_ge (pe_ix (r := rIx K) ix_seq (pv 1) pe_int (fun _ _ => rfl)) (pe_callB (r := rLenS K) call_len_seq (by rfl) B.len PySem.boot_len (pa_cons (pv 0) pa_nil)) (nomark _))))))) (pss_one (ps_ret pe_bl)) pss_nil) (pss_cons (ps_if (PW.pt (pw_or (pt_not (pt_val (pe_fn c_is_tuple_of hr (by omega) (by rfl) (pa_cons (pe_ix (r := rIx K) ix_seq (pv 1) pe_int (fun _ _ => rfl)) (pa_cons pe_int pa_nil))))) (pw_or1 (pt_not (pt_val (pe_callB (r := rAll K) (cr_all rfl) (by rfl) B.all (by decide +kernel) (pa_cons (pe_lc (own := [("own", 3)]) (g := gName 3) rfl sc_is_sheet.nd (pi_any (pe_ix (r := rIx K) ix_seq (pv 1) pe_int (fun _ _ => rfl))) (blkOk_by (own := [("own", 3)]) (N := ["net", "thing", "images", "own", "lock"]) (sc := defScope s_is_sheet) (by decide +kernel)) (fun _ _ _ _ _ => (pg_name (i := 3) sc_is_sheet.nd rfl (Or.inl rfl))) (fun _ _ _ _ _ => pts_nil) (fun _ _ _ _ _ => (pe_fn c__is_count hr (by omega) (by rfl) (pa_cons (pv 3) pa_nil)))) pa_nil))))))) (pss_one (ps_ret pe_bl)) pss_nil) (pss_cons (ps_if (PW.pt (pw_or (pt_not (pt_val (pe_callB (r := rIsi K) call_isi (by rfl) B.isinstance (by decide +kernel) (pa_cons (pe_ix (r := rIx K) ix_seq (pv 1) pe_int (fun _ _ => rfl)) (pa_cons (pe_bltn (v := .ty "tuple") (by rfl) B.tuple (by decide +kernel) rfl) pa_nil))))) (pw_or1 (pt_not (pt_val (pe_callB (r := rAll K) (cr_all rfl) (by rfl) B.all (by decide +kernel) (pa_cons (pe_lc (own := [("own", 3)]) (g := gName 3) rfl sc_is_sheet.nd (pi_any (pe_ix (r := rIx K) ix_seq (pv 1) pe_int (fun _ _ => rfl))) (blkOk_by (own := [("own", 3)]) (N := ["net", "thing", "images", "own", "lock"]) (sc := defScope s_is_sheet) (by decide +kernel)) (fun _ _ _ _ _ => (pg_name (i := 3) sc_is_sheet.nd rfl (Or.inl rfl))) (fun _ _ _ _ _ => pts_nil) (fun _ _ _ _ _ => (pe_fn c_is_lock hr (by omega) (by rfl) (pa_cons (pv 3) pa_nil)))) pa_nil))))))) (pss_one (ps_ret pe_bl)) pss_nil) (pss_cons (ps_setLc (i := 2) (own := [("lock", 4)]) (g := gName 4) rfl sc_is_sheet.nd rfl rfl (sw_true rfl rfl rfl (by decide +kernel)) (pi_any (pe_ix (r := rIx K) ix_seq (pv 1) pe_int (fun _ _ => rfl))) (blkOk_by (own := [("lock", 4)]) (N := ["net", "thing", "images", "own", "lock"]) (sc := defScope s_is_sheet) (by decide +kernel)) (fun _ _ _ _ _ => (pg_name (i := 4) sc_is_sheet.nd rfl (Or.inl rfl))) (fun _ _ _ _ _ => pts_nil) (fun _ _ _ _ _ => (pe_ix (r := rIx K) ix_seq (pv 4) pe_int (fun _ _ => rfl)))) (pss_cons (ps_if (PW.pt (pw_or (pt_cmpR op_ne (pe_lenSetT (by rfl) B.len (by rfl) B.set_ (pv 2) (hu_of hr)) (pe_callB (r := rLenS K) call_len_seq (by rfl) B.len PySem.boot_len (pa_cons (pv 2) pa_nil)) (nomark _)) (pw_or1 (pt_cmpR op_ne (pe_fn c_total hr (by omega) (by rfl) (pa_cons (pv 1) pa_nil)) (pe_op op_add (pe_ix (r := rIx K) ix_seq (pe_ix (r := rIx K) ix_seq (pv 0) (pe_ix (r := rIx K) ix_seq (pv 1) pe_int (fun _ _ => rfl)) (fun _ _ => rfl)) pe_int (fun _ _ => rfl)) (pe_ix (r := rIx K) ix_seq (pe_ix (r := rIx K) ix_seq (pv 0) (pe_ix (r := rIx K) ix_seq (pv 1) pe_int (fun _ _ => rfl)) (fun _ _ => rfl)) pe_int (fun _ _ => rfl))) (nomark _))))) (pss_one (ps_ret pe_bl)) pss_nil) (pss_one (ps_ret (pe_or (pe_cmpR op_gt (pe_ix (r := rIx K) ix_seq (pv 1) pe_int (fun _ _ => rfl)) pe_int (nomark _)) (pe_one (pe_cmpR op_eq (pv 1) (pe_fn c_first_sheet hr (by omega) (by rfl) (pa_cons (pv 0) (pa_cons (pe_ix (r := rIx K) ix_seq (pv 1) pe_int (fun _ _ => rfl)) pa_nil))) (nomark _))))))))))), fun vs H ds d r hv => ?_⟩)
  obtain ⟨N, s, rfl, ok, rfl⟩ := r
  obtain ⟨v, u, rfl, hx, hy⟩ := dpA2 hv
  intro Q q
  have vn : EvD K (tVar 0) [some v, some u, none, none, none] H (netD N) := ed_var rfl hx
  have vs : EvD K (tVar 1) [some v, some u, none, none, none] H (sheetD s) := ed_var rfl hy
  have g0 : EvD K (tOp (rIx K) (tVar 1) (tC (.int 0))) [some v, some u, none, none, none] H (.int s.k) := ed_ixT vs ev_c at0
  have g1 : EvD K (tOp (rIx K) (tVar 1) (tC (.int 1))) [some v, some u, none, none, none] H (.int s.num) := ed_ixT vs ev_c at1
  have g2 : EvD K (tOp (rIx K) (tVar 1) (tC (.int 2))) [some v, some u, none, none, none] H (sumsD s.a s.b) := ed_ixT vs ev_c at2
  have g3 : EvD K (tOp (rIx K) (tVar 1) (tC (.int 3))) [some v, some u, none, none, none] H (locksD s.locks) := ed_ixT vs ev_c at3
  have c1 := ed_call (R := R_is_tuple_of) (E := E0) (eds_cons vs (eds_cons (ed_cint (i := 4)) eds_nil)) ⟨_, 4, rfl, rfl⟩
  have c2 := ed_call (R := R_is_count) (E := E0) (d := .bool true) (eds_cons g0 eds_nil) ⟨_, rfl, by rw [show isCnt (.int s.k) = true from decide_eq_true ok.inN.1]⟩
  have c3 := ed_call (R := R_is_count) (E := E0) (d := .bool true) (eds_cons g1 eds_nil) ⟨_, rfl, by rw [show isCnt (.int s.num) = true from decide_eq_true (by have := ok.num; omega)]⟩
  have hln := ev_lenT vn
  rw [List.length_map] at hln
  refine q_no (et_is (et_or (et_not (et_B (ev_b c1))) fun _ => et_or (et_not (et_B (ev_b c2))) fun _ => et_or (et_not (et_B (ev_b c3))) fun _ => et_T (ev_op (ev_i g0) hln rv_I0)) ?_) fun H1 e1 => ?_
  · have h := ok.inN.2
    show ((false || (false || (false || decide (s.k ≥ (N.length : Int))))) = false)
    rw [decide_eq_false (by omega)]
    rfl
  have c4 := ed_call (R := R_is_tuple_of) (E := E0) (eds_cons g2 (eds_cons (ed_cint (i := 2)) eds_nil)) ⟨_, 2, rfl, rfl⟩
  have m1 := edl_map (xs := [s.a, s.b]) (f := .int) (g := fun i => .bool (isCnt (.int i))) (te := tCall (spF K R_is_count) [] E0 (tCons (tVar 3) tNil)) (j := 3) (vs := [3]) (ei_T g2) (by show 2 ≤ 40000; decide) (fun _ => rfl) fun a ha x H2 e2 h1 => ⟨ed_call (eds_cons (ed_var rfl h1) eds_nil) ⟨_, rfl, rfl⟩, rfl⟩
  have m2 := ev_all (bs := [isCnt (.int s.a), isCnt (.int s.b)]) (EvDL.toD m1)
  refine q_when (b := !decide (0 ≤ s.a ∧ 0 ≤ s.b)) (et_is (EvT.mono e1 (et_or (et_not (et_B (ev_b c4))) fun _ => et_not (et_B m2))) ?_) (fun z H2 e2 => ?_) (fun z H2 e2 => ?_)
  · show (false || !(decide (0 ≤ s.a) && (decide (0 ≤ s.b) && true))) = !decide (0 ≤ s.a ∧ 0 ≤ s.b)
    by_cases z1 : 0 ≤ s.a <;> by_cases z2 : 0 ≤ s.b <;> simp [z1, z2]
  · rw [Bool.not_eq_true'] at z
    rw [z] at q
    exact s_rq ed_cbl q (e1.trans e2)
  rw [Bool.not_eq_false'] at z
  rw [z] at q
  have E2 := e1.trans e2
  have m3 := edl_map (xs := s.locks) (f := lockD) (g := fun _ => .bool true) (te := tCall (spF K R_is_lock) [] E0 (tCons (tVar 3) tNil)) (j := 3) (vs := [3]) (ei_T g3) (by have := ok.few; omega) (fun _ => rfl) fun a ha x H2 e2 h1 => ⟨ed_call (eds_cons (ed_var rfl h1) eds_nil) ⟨a, rfl, ok.locks a ha, rfl⟩, rfl⟩
  have m4 := ev_all (bs := s.locks.map fun _ => true) (ed_is (EvDL.toD m3) (by rw [List.map_map]; rfl))
  refine q_no (et_is (EvT.mono E2 (et_or (et_not (et_B (ev_isi g3 (kb_tuple _)))) fun _ => et_not (et_B m4))) ?_) fun H3 e3 => ?_
  · rw [mem_of_all (fun _ _ => rfl)]
    rfl
  have E3 := E2.trans e3
  have m5 := edl_map (xs := s.locks) (f := lockD) (g := fun l => imgD l.2.2.1) (te := tOp (rIx K) (tVar 4) (tC (.int 2))) (j := 4) (vs := [4]) (ei_T (g3.mono E3)) (by have := ok.few; omega) (fun _ => rfl) fun a ha x H2 e2 h1 => ⟨ed_ixT (ed_var rfl h1) ev_c at2, rfl⟩
  refine q_dl m5 fun p us H4 hp e4 h4 d4 => ?_
  have E4 := E3.trans e4
  have vi : EvD K (tVar 2) [some v, some u, some (.ref p), none, none] H4 (.list ((s.locks.map fun l => l.2.2.1).map imgD)) := by
    rw [List.map_map]
    exact ed_at rfl h4 d4
  have vn4 : EvD K (tVar 0) [some v, some u, some (.ref p), none, none] H4 (netD N) := ed_var rfl (dpe hx E4)
  have vs4 : EvD K (tVar 1) [some v, some u, some (.ref p), none, none] H4 (sheetD s) := ed_var rfl (dpe hy E4)
  have gk : EvD K (tOp (rIx K) (tVar 1) (tC (.int 0))) [some v, some u, some (.ref p), none, none] H4 (.int s.k) := ed_ixT vs4 ev_c at0
  have gn : EvD K (tOp (rIx K) (tVar 1) (tC (.int 1))) [some v, some u, some (.ref p), none, none] H4 (.int s.num) := ed_ixT vs4 ev_c at1
  have gc : EvD K (tOp (rIx K) (tVar 0) (tOp (rIx K) (tVar 1) (tC (.int 0)))) [some v, some u, some (.ref p), none, none] H4 (chD (chOf N s.k)) := ed_ixT vn4 (ev_i gk) (netD_at ok.inN)
  have gt := ed_call (R := R_total) (E := E0) (eds_cons vs4 eds_nil) ⟨s, rfl, by have := ok.few; omega, rfl⟩
  have hls := ev_lenSetT vi ok.dif (by rw [List.length_map]; exact ok.few)
  have hli := ev_lenL vi
  rw [List.length_map] at hls
  rw [List.length_map, List.length_map] at hli
  refine q_no (et_is (et_or (et_T (ev_op hls hli (rv_ne rfl))) fun _ => et_T (ev_op (ev_i gt) (ev_op (ev_i (ed_ixT gc (ev_c (v := .int 2)) at2)) (ev_i (ed_ixT gc (ev_c (v := .int 3)) at3)) rv_I0) (rv_ne rfl))) ?_) fun H5 e5 => ?_
  · rw [dec_ii, dec_ii, ok.tot, decide_eq_true rfl, decide_eq_true rfl]
    rfl
  refine s_rq (d := .bool true) (ed_b (ev_is (ev_orV (b := true) (ev_op (ev_i (gn.mono e5)) ev_c rv_I0) fun z => ?_) ?_)) q (E4.trans e5)
  · have h := ok.num
    rw [decide_eq_true (show (0 : Int) < s.num by omega)] at z
    cases z
  · rw [Bool.or_true]
end
end KT

/-! Kn: how many routes there are. -/
set_option autoImplicit false
set_option linter.all false
namespace KM
def freeC (N : List Ch) (f : List Int) (c : Nat) : Bool := decide ((chOf N c).1 ∉ f ∧ (chOf N c).2.1 ∉ f)
def avail (N : List Ch) (f : List Int) : Nat := (List.range N.length).countP (freeC N f)
def pathOf (N : List Ch) (p : Int) (r : List Int) : List Int := match r with
  | [] => [p]
  | _ => (peopleAlong N p r).getD []
def wt (N : List Ch) (p : Int) (r : List Int) : Nat := 2 ^ avail N (pathOf N p r).dropLast
theorem lastOf_path (N : List Ch) (p : Int) (r : List Int) : lastOf N p r = (pathOf N p r).getLastD 0 := by
  cases r <;> rfl
theorem walkA_app (N : List Ch) (r' : List Int) : ∀ (r f : List Int), walkA N (r ++ r') f = (walkA N r f).bind (walkA N r')
  | [], f => rfl
  | c :: r, f => by
    show (if inN N c then (match sideOf N c (f.getLastD 0) with
      | none => none
      | some s => walkA N (r ++ r') (f ++ [endOf N c (1 - s)])) else none) = (if inN N c then (match sideOf N c (f.getLastD 0) with
      | none => none
      | some s => walkA N r (f ++ [endOf N c (1 - s)])) else none).bind (walkA N r')
    split
    · split
      · rfl
      · exact walkA_app N r' r _
    · rfl
theorem child {N : List Ch} {p : Int} {r g : List Int} {c : Int} (h : peopleAlong N p (r ++ [c]) = some g) :
    inN N c ∧ ∃ s, sideOf N c ((pathOf N p r).getLastD 0) = some s ∧ g = pathOf N p r ++ [endOf N c (1 - s)] ∧ g.Nodup ∧ pathOf N p r ≠ [] := by
  obtain ⟨hw, hn, hl⟩ := people_walk h
  rw [walkA_app] at hw
  cases q : walkA N r [p] with
  | none => rw [q] at hw; cases hw
  | some f =>
    rw [q] at hw
    have hw : (if inN N c then (match sideOf N c (f.getLastD 0) with
      | none => none
      | some s => some (f ++ [endOf N c (1 - s)])) else none) = some g := hw
    split at hw
    · rename_i hin
      split at hw
      · cases hw
      · rename_i s hs
        have e := Option.some.inj hw
        have fl := walkA_len N r [p] f q
        have hnf : f.Nodup := by
          rw [← e] at hn
          exact (List.nodup_append.mp hn).1
        have ep : pathOf N p r = f := by
          cases r with
          | nil => exact Option.some.inj q
          | cons a r =>
            show (peopleAlong N p (a :: r)).getD [] = f
            unfold peopleAlong
            rw [q]
            show (if goodF f then some f else none).getD [] = f
            rw [show goodF f = true from decide_eq_true ⟨hnf, by rw [fl, List.length_singleton, List.length_cons]; omega⟩]
            rfl
        rw [ep]
        exact ⟨hin, s, hs, e.symm, hn, fun z => by rw [z] at fl; simp at fl; omega⟩
    · cases hw
theorem child_free {N : List Ch} {p : Int} {r g : List Int} {c : Nat} (h : peopleAlong N p (r ++ [(c : Int)]) = some g) : freeC N (pathOf N p r).dropLast c = true ∧ freeC N (pathOf N p r) c = false := by
  obtain ⟨_, s, hs, eg, hn, hne⟩ := child h
  have ef : pathOf N p r = (pathOf N p r).dropLast ++ [(pathOf N p r).getLastD 0] := by
    have z := (List.dropLast_concat_getLast hne).symm
    rw [List.getLastD_eq_getLast?, List.getLast?_eq_some_getLast hne]
    exact z
  generalize pathOf N p r = f at *
  generalize f.getLastD 0 = v at *
  generalize f.dropLast = f0 at *
  subst ef
  rw [eg] at hn
  obtain ⟨n1, _, n3⟩ := List.nodup_append.mp hn
  obtain ⟨_, _, n4⟩ := List.nodup_append.mp n1
  have hv : v ∉ f0 := fun z => n4 v z v (List.mem_singleton.mpr rfl) rfl
  have hw : endOf N c (1 - s) ∉ f0 := fun z => n3 _ (List.mem_append_left _ z) _ (List.mem_singleton.mpr rfl) rfl
  have hvi : v ∈ f0 ++ [v] := List.mem_append_right _ (List.mem_singleton.mpr rfl)
  unfold sideOf sideIn at hs
  split at hs
  · rename_i e1
    have es := Option.some.inj hs
    subst es
    have ew : endOf N c (1 - 0) = (chOf N c).2.1 := rfl
    rw [ew] at hw
    exact ⟨decide_eq_true ⟨by rw [e1]; exact hv, hw⟩, decide_eq_false fun z => z.1 (by rw [e1]; exact hvi)⟩
  · split at hs
    · rename_i e1
      have es := Option.some.inj hs
      subst es
      have ew : endOf N c (1 - 1) = (chOf N c).1 := rfl
      rw [ew] at hw
      exact ⟨decide_eq_true ⟨hw, by rw [e1]; exact hv⟩, decide_eq_false fun z => z.2 (by rw [e1]; exact hvi)⟩
    · cases hs
theorem child_wt {N : List Ch} {p : Int} {r g : List Int} {c : Int} (h : peopleAlong N p (r ++ [c]) = some g) : wt N p (r ++ [c]) = 2 ^ avail N (pathOf N p r) := by
  obtain ⟨_, s, _, eg, _, _⟩ := child h
  have ep : pathOf N p (r ++ [c]) = g := by
    cases hr : r ++ [c] with
    | nil => simp at hr
    | cons a l =>
      show (peopleAlong N p (a :: l)).getD [] = g
      rw [← hr, h]
      rfl
  unfold wt
  rw [ep, eg, List.dropLast_concat]
def kids (N : List Ch) (p : Int) (r : List Int) : List (List Int) := ((chansOf N (lastOf N p r)).map fun c => r ++ [c]).filter fun row => (peopleAlong N p row).isSome
theorem longerM_cons (N : List Ch) (p : Int) (r : List Int) (rows : List (List Int)) : longerM N p (r :: rows) = kids N p r ++ longerM N p rows := by
  unfold longerM kids
  rw [List.flatMap_cons, List.filter_append]
theorem sum_const {α : Type} (f : α → Nat) (b : Nat) : ∀ l : List α, (∀ a ∈ l, f a = b) → (l.map f).sum = l.length * b
  | [], _ => by simp
  | a :: l, h => by
    rw [List.map_cons, List.sum_cons, sum_const f b l fun x hx => h x (List.mem_cons_of_mem _ hx), h a List.mem_cons_self, List.length_cons, Nat.succ_mul, Nat.add_comm]
theorem countP_split (N : List Ch) (f f0 : List Int) (h : ∀ x, x ∈ f0 → x ∈ f) : ∀ l : List Nat, l.countP (freeC N f0) = l.countP (freeC N f) + l.countP fun c => freeC N f0 c && !freeC N f c
  | [] => rfl
  | c :: l => by
    have ih := countP_split N f f0 h l
    rw [List.countP_cons, List.countP_cons, List.countP_cons, ih]
    have hi : freeC N f c = true → freeC N f0 c = true := fun z => by
      obtain ⟨z1, z2⟩ := of_decide_eq_true z
      exact decide_eq_true ⟨fun m => z1 (h _ m), fun m => z2 (h _ m)⟩
    cases h1 : freeC N f c <;> cases h2 : freeC N f0 c
    · simp
    · simp; omega
    · rw [hi h1] at h2; cases h2
    · simp; omega
theorem le_pow : ∀ d : Nat, 2 * d ≤ 2 ^ d
  | 0 => by decide
  | 1 => by decide
  | d + 2 => by
    have ih := le_pow (d + 1)
    rw [Nat.pow_succ]
    omega
theorem kids_len (N : List Ch) (p : Int) (r : List Int) : (kids N p r).length ≤ (List.range N.length).countP fun c => freeC N (pathOf N p r).dropLast c && !freeC N (pathOf N p r) c := by
  unfold kids chansOf
  rw [List.map_map, List.filter_map, List.length_map, List.filter_filter, ← List.countP_eq_length_filter]
  refine List.countP_mono_left fun c _ hc => ?_
  have h1 := (Bool.and_eq_true_iff.mp hc).1
  obtain ⟨g, hg⟩ := Option.isSome_iff_exists.mp h1
  obtain ⟨a, b⟩ := child_free hg
  rw [a, b]
  rfl
theorem kids_wt (N : List Ch) (p : Int) (r : List Int) : 2 * ((kids N p r).map (wt N p)).sum ≤ wt N p r := by
  have hall : ∀ a ∈ kids N p r, wt N p a = 2 ^ avail N (pathOf N p r) := fun a ha => by
    obtain ⟨h1, h2⟩ := List.mem_filter.mp ha
    obtain ⟨c, _, rfl⟩ := List.mem_map.mp h1
    obtain ⟨g, hg⟩ := Option.isSome_iff_exists.mp h2
    exact child_wt hg
  rw [sum_const _ _ _ hall]
  have hk := kids_len N p r
  have hs := countP_split N (pathOf N p r) (pathOf N p r).dropLast (fun x hx => List.dropLast_subset _ hx) (List.range N.length)
  unfold wt
  show 2 * _ ≤ 2 ^ ((List.range N.length).countP (freeC N (pathOf N p r).dropLast))
  rw [hs]
  show 2 * ((kids N p r).length * 2 ^ avail N (pathOf N p r)) ≤ 2 ^ (avail N (pathOf N p r) + _)
  generalize (List.range N.length).countP (fun c => freeC N (pathOf N p r).dropLast c && !freeC N (pathOf N p r) c) = d at hk ⊢
  rw [Nat.pow_add, ← Nat.mul_assoc, Nat.mul_comm]
  exact Nat.mul_le_mul_left _ (Nat.le_trans (Nat.mul_le_mul_left 2 hk) (le_pow d))
theorem longer_wt (N : List Ch) (p : Int) : ∀ rows : List (List Int), 2 * ((longerM N p rows).map (wt N p)).sum ≤ (rows.map (wt N p)).sum
  | [] => Nat.le_refl 0
  | r :: rows => by
    rw [longerM_cons, List.map_append, List.sum_append, List.map_cons, List.sum_cons]
    have h1 := kids_wt N p r
    have h2 := longer_wt N p rows
    omega
theorem rows_wt (N : List Ch) (p : Int) : ∀ k, 2 ^ k * ((rowsM N p k).map (wt N p)).sum ≤ 2 ^ N.length
  | 0 => by
    show 1 * (2 ^ avail N [] + 0) ≤ 2 ^ N.length
    rw [Nat.one_mul, Nat.add_zero]
    refine Nat.pow_le_pow_right (by decide) ?_
    refine Nat.le_trans List.countP_le_length ?_
    rw [List.length_range]
    exact Nat.le_refl _
  | k + 1 => by
    have ih := rows_wt N p k
    have h := longer_wt N p (rowsM N p k)
    refine Nat.le_trans ?_ ih
    rw [Nat.pow_succ, Nat.mul_assoc]
    exact Nat.mul_le_mul_left _ h
theorem len_sum {α : Type} (f : α → Nat) (h : ∀ a, 1 ≤ f a) : ∀ l : List α, l.length ≤ (l.map f).sum
  | [] => Nat.le_refl 0
  | a :: l => by
    rw [List.length_cons, List.map_cons, List.sum_cons]
    have h1 := len_sum f h l
    have h2 := h a
    omega
theorem rows_le {N : List Ch} (hN : N.length ≤ 6) (p : Int) (k : Nat) : 2 ^ k * (rowsM N p k).length ≤ 64 := by
  have h1 := rows_wt N p k
  have h2 : 2 ^ N.length ≤ 2 ^ 6 := Nat.pow_le_pow_right (by decide) hN
  have h3 := Nat.mul_le_mul_left (2 ^ k) (len_sum (wt N p) (fun a => Nat.one_le_two_pow) (rowsM N p k))
  have h4 : (2 : Nat) ^ 6 = 64 := by decide
  omega
theorem rowsM_le {N : List Ch} (hN : N.length ≤ 6) (p : Int) (k : Nat) : (rowsM N p k).length ≤ 64 := by
  have h := rows_le hN p k
  have h1 : 1 ≤ 2 ^ k := Nat.one_le_two_pow
  exact Nat.le_trans (Nat.le_mul_of_pos_left _ h1) h
theorem rows1 {N : List Ch} (p : Int) : (rowsM N p 1).length ≤ N.length := by
  show (longerM N p [[]]).length ≤ _
  rw [longerM_cons]
  show (kids N p [] ++ []).length ≤ _
  rw [List.append_nil]
  refine Nat.le_trans (List.length_filter_le _ _) ?_
  rw [List.length_map]
  unfold chansOf
  rw [List.length_map]
  refine Nat.le_trans (List.length_filter_le _ _) ?_
  rw [List.length_range]
  exact Nat.le_refl _
theorem routes_step (N : List Ch) (p q : Int) (k : Nat) : (routesM N p q k).length ≤ (routesM N p q (k + 1)).length ∧ (routesM N p q (k + 1)).length ≤ (routesM N p q k).length + (rowsM N p (k + 1)).length := by
  show _ ≤ (routesM N p q k ++ _).length ∧ (routesM N p q k ++ _).length ≤ _
  rw [List.length_append]
  have h := List.length_filter_le (isTo N p q) (rowsM N p (k + 1))
  omega
theorem routes_le {N : List Ch} (hN : N.length ≤ 6) (p q : Int) : (routesM N p q N.length).length ≤ 60 := by
  have r1 := rows1 (N := N) p
  have r2 := rows_le hN p 2
  have r3 := rows_le hN p 3
  have r4 := rows_le hN p 4
  have r5 := rows_le hN p 5
  have r6 := rows_le hN p 6
  have s0 := routes_step N p q 0
  have s1 := routes_step N p q 1
  have s2 := routes_step N p q 2
  have s3 := routes_step N p q 3
  have s4 := routes_step N p q 4
  have s5 := routes_step N p q 5
  have z : (routesM N p q 0).length = 0 := rfl
  have hm : (routesM N p q N.length).length ≤ (routesM N p q 6).length := by
    have mono : ∀ d, (routesM N p q N.length).length ≤ (routesM N p q (N.length + d)).length := by
      intro d
      induction d with
      | zero => exact Nat.le_refl _
      | succ d ih => exact Nat.le_trans ih (routes_step N p q (N.length + d)).1
    have m := mono (6 - N.length)
    rw [Nat.add_sub_cancel' hN] at m
    exact m
  have e0 : (routesM N p q (0 + 1)).length = (routesM N p q 1).length := rfl
  have e1 : (routesM N p q (1 + 1)).length = (routesM N p q 2).length := rfl
  have e2 : (routesM N p q (2 + 1)).length = (routesM N p q 3).length := rfl
  have e3 : (routesM N p q (3 + 1)).length = (routesM N p q 4).length := rfl
  have e4 : (routesM N p q (4 + 1)).length = (routesM N p q 5).length := rfl
  have e5 : (routesM N p q (5 + 1)).length = (routesM N p q 6).length := rfl
  have f0 : (rowsM N p (0 + 1)).length = (rowsM N p 1).length := rfl
  have f1 : (rowsM N p (1 + 1)).length = (rowsM N p 2).length := rfl
  have f2 : (rowsM N p (2 + 1)).length = (rowsM N p 3).length := rfl
  have f3 : (rowsM N p (3 + 1)).length = (rowsM N p 4).length := rfl
  have f4 : (rowsM N p (4 + 1)).length = (rowsM N p 5).length := rfl
  have f5 : (rowsM N p (5 + 1)).length = (rowsM N p 6).length := rfl
  omega
/-- the rows -/
theorem rowsM_row {N : List Ch} {p : Int} : ∀ {k : Nat} {r : List Int}, r ∈ rowsM N p k → r.length = k ∧ (k = 0 ∨ (peopleAlong N p r).isSome = true)
  | 0, r, h => by
    rw [List.mem_singleton.mp h]
    exact ⟨rfl, .inl rfl⟩
  | k + 1, r, h => by
    obtain ⟨h1, h2⟩ := List.mem_filter.mp h
    obtain ⟨r0, h3, h4⟩ := List.mem_flatMap.mp h1
    obtain ⟨c, _, rfl⟩ := List.mem_map.mp h4
    exact ⟨by rw [List.length_append, (rowsM_row h3).1]; rfl, .inr h2⟩
theorem routes_row {N : List Ch} {p q : Int} : ∀ {k : Nat} {r : List Int}, r ∈ routesM N p q k → r.length ≤ k ∧ ∃ f, peopleAlong N p r = some f ∧ f.getLastD 0 = q
  | 0, r, h => by cases h
  | k + 1, r, h => by
    rcases List.mem_append.mp h with h | h
    · obtain ⟨a, b⟩ := routes_row h
      exact ⟨Nat.le_succ_of_le a, b⟩
    · obtain ⟨h1, h2⟩ := List.mem_filter.mp h
      obtain ⟨h3, h4⟩ := rowsM_row h1
      rcases h4 with h4 | h4
      · exact absurd h4 (Nat.succ_ne_zero _)
      · obtain ⟨f, hf⟩ := Option.isSome_iff_exists.mp h4
        have h5 := of_decide_eq_true h2
        rw [hf] at h5
        exact ⟨Nat.le_of_eq h3, f, hf, h5⟩
end KM

set_option Elab.async false
set_option linter.all false
set_option autoImplicit false
set_option maxRecDepth 100000
set_option maxHeartbeats 4000000
/-! Ki: longer, routes, routes_for. -/
namespace KT
open PySem PySem.Spec PyProof.Rows L2 Evl KD KM
/-- a promise of a new list of flat data -/
def spL (K : PySem.W.Frag) (R : List PyData → List PyData → Prop) : Sp := fun vs H Q _ => ∃ ds es, R ds es ∧ DpAll K H vs ds ∧ ∀ p us H', H p = none → Ex H H' → H' p = some (.lst us) → DpAll K H' us es → Q (.ref p) H'
def ExL (K : PySem.W.Frag) (t : TS) (σ : L2.St) (H : Hp) (es : List PyData) : Prop := ∀ (Q : VK), (∀ p us H', H p = none → Ex H H' → H' p = some (.lst us) → DpAll K H' us es → Q (.ref p) H') → t { nx := fun _ H' => Q .non H', rt := Q } σ H
section
variable {K : PySem.W.Frag} {σ : L2.St} {H Hb : Hp} {ta tb tc te : TE} {d : PyData} {ds es : List PyData} {v : V} {D : Ends} {tu tz : TS} {g : TG} {wi : TI} {S : Hp → Prop}
theorem edl_call {R : List PyData → List PyData → Prop} {E : XK} {tr : TA} (h : EvDs K tr σ H ds) (hr : R ds es) : EvDL K (tCall (spL K R) [] E tr) σ H es := fun H1 e Q q =>
  h H1 e _ fun vs H2 e2 hv => ⟨ds, es, hr, by rw [List.append_nil]; exact hv, fun p us H3 hp e3 h3 hd => q p us H3 (fresh_back e2 hp) (e2.trans e3) h3 hd⟩
theorem s_extD {l : Addr} {xs : List V} (hl : H l = some (.lst xs)) (ha : Ev ta σ H (.ref l)) (h : EvDL K te σ H ds) (hz : xs.length + ds.length ≤ 100000) (k : ∀ zs H1, Ex H H1 → DpAll K H1 zs ds → D.nx σ (upd H1 l (.lst (xs ++ zs)))) :
    tDrop (tBM K "list" rExtend ta (tCons te tNil)) D σ H := ha H (Ex.refl H) _ fun H1 e1 =>
  ⟨Or.inl ⟨rfl, xs, sq_of (e1 l _ hl)⟩, h H1 e1 _ fun p zs H2 hp e2 h2 hd => ⟨l, p, xs, zs, rfl, rfl, e2 l _ (e1 l _ hl), h2, sz_of (by rw [dpA_len hd]; exact hz), k zs H2 (e1.trans e2) hd⟩⟩
/-- three names get a value and two new lists -/
theorem q_tri {i j k : Nat} (ha : EvD K ta σ H d) (hb : EvDL K tb σ H ds) (hc : EvDL K tc σ H es)
    (kk : ∀ v p1 us1 p2 us2 H1, Ex H H1 → H p1 = none → H p2 = none → p1 ≠ p2 → Dp K H1 v d → H1 p1 = some (.lst us1) → DpAll K H1 us1 ds → H1 p2 = some (.lst us2) → DpAll K H1 us2 es → tz D (((σ.set i (some v)).set j (some (.ref p1))).set k (some (.ref p2))) H1) :
    tSeq (tAsg (tTup (tCons ta (tCons tb (tCons tc tNil)))) (gTup K 3 (gCons (gName i) (gCons (gName j) (gCons (gName k) gNil))))) tz D σ H :=
  ha H (Ex.refl H) _ fun v H1 e1 h1 => hb H1 e1 _ fun p1 us1 H2 n1 e2 h2 d2 => hc H2 (e1.trans e2) _ fun p2 us2 H3 n2 e3 h3 d3 =>
    ⟨by show 3 ≤ sizeLine; decide, fun p hp => ⟨p, _, rfl, st_of upd_same, rfl, v, _, rfl, .ref p1, _, rfl, .ref p2, _, rfl, rfl,
      kk v p1 us1 p2 us2 _ (((e1.trans e2).trans e3).trans (Ex.new hp)) (fresh_back e1 n1) (fresh_back (e1.trans e2) n2) (fun e => by rw [e] at h2; rw [h2] at n2; cases n2) (dpe h1 ((e2.trans e3).trans (Ex.new hp)))
        ((e3.trans (Ex.new hp)) _ _ h2) (dpeA d2 (e3.trans (Ex.new hp))) ((Ex.new hp) _ _ h3) (dpeA d3 (Ex.new hp))⟩⟩
def rMin2 : List V → Hp → VK → Prop := fun xs H Q => ∃ i j, xs = [.int i, .int j] ∧ Q (.int (if j < i then j else i)) H
theorem ev_min2 {i j : Int} (ha : Ev ta σ H (.int i)) (hb : Ev tb σ H (.int j)) : Ev (tCB rMin2 (tCons ta (tCons tb tNil))) σ H (.int (if j < i then j else i)) := fun H1 e Q q =>
  ha H1 e _ fun H2 e2 => hb H2 (e.trans e2) _ fun H3 e3 => ⟨i, j, rfl, q H3 (e2.trans e3)⟩
theorem scal_depth : ∀ r : List Int, PyData.canLayAll0 (r.map .int) = true ∧ PyData.depthAll (r.map .int) = 0
  | [] => ⟨rfl, rfl⟩
  | i :: r => by
    obtain ⟨a, b⟩ := scal_depth r
    refine ⟨?_, ?_⟩
    · show (true && PyData.canLayAll0 (r.map .int)) = true
      rw [a]
      rfl
    · show max 0 (PyData.depthAll (r.map .int)) = 0
      rw [b]
      rfl
theorem rowD_shaped (r : List Int) : SeqAt.shaped (rowD r) = true := by
  obtain ⟨a, b⟩ := scal_depth r
  show (PyData.canLayAll0 (r.map .int) && decide (PyData.depthAll (r.map .int) + 1 ≤ 64)) = true
  rw [a, b]
  rfl
theorem rows_depth : ∀ rs : List (List Int), PyData.canLayAll0 (rs.map rowD) = true ∧ PyData.depthAll (rs.map rowD) ≤ 1
  | [] => ⟨rfl, Nat.zero_le _⟩
  | r :: rs => by
    obtain ⟨a, b⟩ := rows_depth rs
    obtain ⟨c, d⟩ := scal_depth r
    refine ⟨?_, ?_⟩
    · show (PyData.canLayAll0 (r.map .int) && PyData.canLayAll0 (rs.map rowD)) = true
      rw [a, c]
      rfl
    · show max (PyData.depthAll (r.map .int) + 1) (PyData.depthAll (rs.map rowD)) ≤ 1
      rw [d]
      omega
theorem rows_shaped (rs : List (List Int)) : SeqAt.shaped (.list (rs.map rowD)) = true := by
  obtain ⟨a, b⟩ := rows_depth rs
  show (PyData.canLayAll0 (rs.map rowD) && decide (PyData.depthAll (rs.map rowD) + 1 ≤ 64)) = true
  rw [a, decide_eq_true (by omega)]
  rfl
end
theorem eqv_nil {α : Type} (f : α → PyData) (l : List α) : PyData.eqvAll (l.map f) [] = l.isEmpty := by
  cases l <;> rfl
theorem rowsD_flat (rs : List (List Int)) : flatA (rs.map rowD) = true := flatA_map rowD_flat rs
theorem flatMap_take {α β : Type} (F : α → List β) (l : List α) {i : Nat} {a : α} (h : l[i]? = some a) : (l.take (i + 1)).flatMap F = (l.take i).flatMap F ++ F a := by
  rw [List.take_add_one, h, List.flatMap_append]
  show _ ++ (F a ++ []) = _
  rw [List.append_nil]
theorem flatMap_le {α β : Type} (F : α → List β) (b : Nat) (hF : ∀ a, (F a).length ≤ b) : ∀ l : List α, (l.flatMap F).length ≤ l.length * b
  | [] => Nat.zero_le _
  | a :: l => by
    rw [List.flatMap_cons, List.length_append, List.length_cons, Nat.succ_mul]
    have h1 := flatMap_le F b hF l
    have h2 := hF a
    omega
theorem chans_le (N : List Ch) (p : Int) : (chansOf N p).length ≤ N.length := by
  unfold chansOf
  rw [List.length_map]
  refine Nat.le_trans (List.length_filter_le _ _) ?_
  rw [List.length_range]
  exact Nat.le_refl _

section
variable {P : Program} {w : World} {K : PySem.W.Frag} {mg : Str → Option Value} {base : Heap}
theorem at_okL {x : Str} {st : Stmt} {N ps : List Str} {k : Nat} {R : List PyData → List PyData → Prop} (A : At K mg x st ps) (S : FnScope N ps (defScope st)) (hl : ∀ ds d, R ds d → ds.length = ps.length)
    (hb : ∀ (f : Addr) (cdv : Value) (A : Around) (outer : List Env) (s : Shared) (H0 : Hp) (E : XK), Room k (A.deeper (envOfC x (defScope st) s.heap.objs.size f cdv)) →
      ∃ t, PSs (cxOf CX0 P w K mg base N x (defScope st) f cdv A outer s H0 E).nox (defBody st) t ∧ ∀ (vs : List V) (H : Hp) (ds : List PyData) (d : List PyData), R ds d → DpAll K H vs ds → ExL K t (start N vs) H d) :
    Dfn P w K mg base x ps CX0 (k + 1) (spL K R) := by
  refine A.fin fun f fd F => F.ok S (fun vs H Q E h => ?_) (fun cdv A outer s H vs Q E hr h => ?_)
  · obtain ⟨ds, d, r, hv, _⟩ := h
    rw [dpA_len hv, hl ds d r]
  · obtain ⟨ds, d, r, hv, q⟩ := h
    obtain ⟨t, ht, hx⟩ := hb f cdv A outer s H E hr
    exact ⟨t, ht, hx vs H ds d r hv Q q⟩
def R_longer (ds : List PyData) (es : List PyData) : Prop := ∃ N p rows, ds = [netD N, .int p, .list (rows.map rowD)] ∧ N.length ≤ 6 ∧ rows.length ≤ 64 ∧ (∀ r ∈ rows, r.length ≤ 100 ∧ (r = [] ∨ (peopleAlong N p r).isSome = true)) ∧ es = (longerM N p rows).map rowD
theorem d_longer (B : Bt mg) (A : At K mg "longer" s_longer ["net", "payer", "rows"]) (c_people_along : Dfn P w K mg base "people_along" ["net", "payer", "route"] CX0 3 (spF K R_people)) (c_channels_of : Dfn P w K mg base "channels_of" ["net", "person"] CX0 3 (spF K R_channels_of)) :
    Dfn P w K mg base "longer" ["net", "payer", "rows"] CX0 4 (spL K R_longer) := by
  refine at_okL A sc_longer (fun ds d h => by obtain ⟨N, p, rows, rfl, _⟩ := h; rfl) (fun f cdv A outer s H0 E hr => ⟨_, (pss_cons (ps_set (i := 3) sc_longer.nd rfl (Or.inl rfl) (pe_lst pa_nil)) (pss_cons (ps_for PassesOwn.never rfl (pi_any (pv 2)) (pg_name (i := 4) sc_longer.nd rfl (Or.inr rfl)) (pss_cons (ps_set (i := 5) sc_longer.nd rfl (Or.inl rfl) (pe_ifExp (pt_cmpR (r := rEqD K) (op_eqD (hu_of hr)) (pv 4) (pe_tup pa_nil) (nomark _)) (pv 1) (pe_ix (r := rIx K) ix_seq (pe_fn c_people_along hr (by omega) (by rfl) (pa_cons (pv 0) (pa_cons (pv 1) (pa_cons (pv 4) pa_nil)))) (pe_un un_neg pe_int) (fun _ _ => rfl)))) (pss_one (ps_expr (pe_bm PySem.F.plainAttrs_list PySem.F.slot_list_extend PySem.F.type_list_extend mt_extend (pv 3) (pa_cons (pe_lc (own := [("channel", 6)]) (g := gName 6) rfl sc_longer.nd (pi_any (pe_fn c_channels_of hr (by omega) (by rfl) (pa_cons (pv 0) (pa_cons (pv 5) pa_nil)))) (blkOk_by (own := [("channel", 6)]) (N := ["net", "payer", "rows", "found", "row", "last", "channel"]) (sc := defScope s_longer) (by decide +kernel)) (fun _ _ _ _ _ => (pg_name (i := 6) sc_longer.nd rfl (Or.inl rfl))) (fun _ _ _ _ _ => pts_nil) (fun _ _ _ _ _ => (pe_tup (pa_starK rfl (pv 4) (pa_cons (pv 6) pa_nil))))) pa_nil)))))) (pss_one (ps_ret (pe_lc (own := [("row", 4)]) (g := gName 4) rfl sc_longer.nd (pi_any (pv 3)) (blkOk_by (own := [("row", 4)]) (N := ["net", "payer", "rows", "found", "row", "last", "channel"]) (sc := defScope s_longer) (by decide +kernel)) (fun _ _ _ _ _ => (pg_name (i := 4) sc_longer.nd rfl (Or.inl rfl))) (fun _ _ _ _ _ => (pts_one (pt_cmpR (r := KD.rNotN) op_notN (pe_fn c_people_along hr (by omega) (by rfl) (pa_cons (pv 0) (pa_cons (pv 1) (pa_cons (pv 4) pa_nil)))) pe_non (nomark _)))) (fun _ _ _ _ _ => (pv 4))))))), fun vs H ds d r hv => ?_⟩)
  obtain ⟨N, p, rows, rfl, hN, hrl, hro, rfl⟩ := r
  obtain ⟨v, u, y, rfl, hx, hu, hy⟩ := dpA3 hv
  have eu := dp_vint hu
  subst eu
  intro Q q
  refine q_dl (K := K) (ds := []) (edl_lst eds_nil (le5 rfl)) fun l us H1 hl1 e1 h1 d1 => ?_
  cases d1
  refine q_forS (K := K) (ds := rows.map rowD) (eis_var rfl hy rfl e1) (fun i σ H' => (∃ c4 c5, σ = [some v, some (.int p), some y, some (.ref l), c4, c5, none]) ∧ Ex H H' ∧ ∃ us, H' l = some (.lst us) ∧ DpAll K H' us (((rows.take i).flatMap fun row => (chansOf N (lastOf N p row)).map fun c => row ++ [c]).map rowD))
    (fun H2 e2 => ⟨⟨_, _, rfl⟩, e1.trans e2, [], e2 l _ h1, .nil⟩) (fun i σ H' hP => hP.2.1) (fun i d σ H2 x H3 hd hP e3 hdx => ?_) (fun σ H2 hP => ?_)
  · obtain ⟨⟨c4, c5, rfl⟩, e2, us, h2, d2⟩ := hP
    rw [List.getElem?_map] at hd
    cases qr : rows[i]? with
    | none => rw [qr] at hd; cases hd
    | some row =>
      rw [qr] at hd
      cases hd
      have E3 : Ex H H3 := e2.trans e3
      obtain ⟨hr1, hr2⟩ := hro row (List.mem_of_getElem? qr)
      show tSeq _ _ _ [some v, some (.int p), some y, some (.ref l), some x, c5, none] H3
      have vn : EvD K (tVar 0) [some v, some (.int p), some y, some (.ref l), some x, c5, none] H3 (netD N) := ed_var rfl (dpe hx E3)
      have vr : EvD K (tVar 4) [some v, some (.int p), some y, some (.ref l), some x, c5, none] H3 (rowD row) := ed_var rfl hdx
      have vp : Ev (tVar 1) [some v, some (.int p), some y, some (.ref l), some x, c5, none] H3 (.int p) := ev_var rfl
      refine q_d (K := K) (d := .int (lastOf N p row)) (ed_if (b := row.isEmpty) (et_is (et_T (ev_eqD vr (ed_tup eds_nil (le5 rfl)) (rowD_shaped _) (rowD_shaped []))) (eqv_nil _ _)) (fun z => ?_) (fun z => ?_)) fun lv H4 e4 hlv => ?_
      · cases row with
        | nil => exact ed_i vp
        | cons a b => cases z
      · rcases hr2 with hr2 | hr2
        · rw [hr2] at z; cases z
        · obtain ⟨f, hf⟩ := Option.isSome_iff_exists.mp hr2
          have hc := ed_call (R := R_people) (E := E0) (eds_cons vn (eds_cons (ed_i vp) (eds_cons vr eds_nil))) ⟨N, p, row, rfl, by omega, rfl⟩
          rw [hf] at hc
          have hl : lastOf N p row = f.getLastD 0 := by
            cases row with
            | nil => cases z
            | cons a b =>
              show ((peopleAlong N p (a :: b)).getD []).getLastD 0 = _
              rw [hf]
              rfl
          rw [hl]
          exact ed_ixT hc (ev_un ev_c ru_neg) (atI_lastD f (fun z => by
            have := (people_walk hf).2.2
            rw [z] at this
            simp at this))
      · have el := dp_vint hlv
        subst el
        have E4 := E3.trans e4
        show tDrop _ _ [some v, some (.int p), some y, some (.ref l), some x, some (.int (lastOf N p row)), none] H4
        have vn4 : EvD K (tVar 0) [some v, some (.int p), some y, some (.ref l), some x, some (.int (lastOf N p row)), none] H4 (netD N) := ed_var rfl (dpe hx E4)
        have hch := ed_call (R := R_channels_of) (E := E0) (eds_cons vn4 (eds_cons (ed_i (ev_var (i := 5) (v := .int (lastOf N p row)) rfl)) eds_nil)) ⟨N, lastOf N p row, rfl, by omega, rfl⟩
        have hcl := chans_le N (lastOf N p row)
        have m := edl_map (xs := chansOf N (lastOf N p row)) (f := .int) (g := fun c => rowD (row ++ [c])) (te := tTup (StX.tStar K (tVar 4) (tCons (tVar 6) tNil))) (j := 6) (vs := [6]) (ei_T hch) (by omega) (fun _ => rfl) fun a ha z H5 e5 h5 => ⟨by
          have z1 := ed_tup (K := K) (σ := [some v, some (.int p), some y, some (.ref l), some x, some (.int (lastOf N p row)), some z]) (H := H5) (eds_star (ed_var (i := 4) rfl (dpe hdx (e4.trans e5))) (eds_cons (ed_var (i := 6) rfl h5) eds_nil)) (by rw [List.length_append, List.length_map]; show _ + 1 ≤ _; omega)
          exact ed_is z1 (by unfold rowD; rw [List.map_append]; rfl), rowD_flat _⟩
        have h4 : H4 l = some (.lst us) := (e3.trans e4) l _ h2
        have hul : us.length ≤ 64 * 6 := by
          rw [dpA_len d2, List.length_map]
          refine Nat.le_trans (flatMap_le _ 6 (fun a => by rw [List.length_map]; exact Nat.le_trans (chans_le _ _) hN) _) (Nat.mul_le_mul_right _ ?_)
          rw [List.length_take]
          omega
        refine s_extD h4 (ev_var rfl) m (by rw [List.length_map]; omega) fun zs H5 e5 d5 => ?_
        have h5 : H5 l = some (.lst us) := e5 l _ h4
        refine ⟨⟨_, _, rfl⟩, Ex.mut (E4.trans e5) hl1, _, upd_same, ?_⟩
        rw [flatMap_take _ rows qr, List.map_append, List.map_map]
        exact dpA_app (dp_txA (tx_upd h5) _ _ (rowsD_flat _) (dpeA d2 (((e3.trans e4).trans e5)))) (dp_txA (tx_upd h5) _ _ (flatA_map (fun c => rowD_flat _) _) d5)
  · obtain ⟨⟨c4, c5, rfl⟩, e2, us, h2, d2⟩ := hP
    rw [List.length_map, List.take_length] at d2
    have vf : EvD K (tVar 3) [some v, some (.int p), some y, some (.ref l), c4, c5, none] H2 (.list ((rows.flatMap fun row => (chansOf N (lastOf N p row)).map fun c => row ++ [c]).map rowD)) := ed_at rfl h2 d2
    have hfl : (rows.flatMap fun row => (chansOf N (lastOf N p row)).map fun c => row ++ [c]).length ≤ 384 := by
      refine Nat.le_trans (flatMap_le _ 6 (fun a => by rw [List.length_map]; exact Nat.le_trans (chans_le _ _) hN) _) ?_
      omega
    have m := edl_lc1 (xs := rows.flatMap fun row => (chansOf N (lastOf N p row)).map fun c => row ++ [c]) (f := rowD) (o := fun row => if (peopleAlong N p row).isSome then some (rowD row) else none) (t := tTest (tOp KD.rNotN (tCall (spF K R_people) [] E0 (tCons (tVar 0) (tCons (tVar 1) (tCons (tVar 4) tNil)))) (tC .non))) (te := tVar 4) (j := 4) (vs := [4]) (ei_L vf) (by omega) (fun _ => rfl) fun row hrow x H3 e3 hx3 => ?_
    · refine m H2 (Ex.refl _) _ fun b us' H3 hb e3 h3 d3 => q b us' H3 (fresh_back e2 hb) (e2.trans e3) h3 ?_
      have ee : (longerM N p rows).map rowD = (rows.flatMap fun row => (chansOf N (lastOf N p row)).map fun c => row ++ [c]).filterMap (fun row => if (peopleAlong N p row).isSome then some (rowD row) else none) := by
        unfold longerM
        rw [← List.filterMap_eq_map, ← List.filterMap_eq_filter, List.filterMap_filterMap]
        congr 1
        funext row
        cases hq : (peopleAlong N p row).isSome <;> simp [Option.guard, hq]
      rw [ee]
      exact d3
    · have hrl' : row.length ≤ 101 := by
        obtain ⟨r0, g1, g2⟩ := List.mem_flatMap.mp hrow
        obtain ⟨c, _, rfl⟩ := List.mem_map.mp g2
        have := (hro r0 g1).1
        rw [List.length_append, List.length_singleton]
        omega
      have hc := ed_call (R := R_people) (E := E0) (σ := [some v, some (.int p), some y, some (.ref l), some x, c5, none]) (H := H3) (eds_cons (ed_var (i := 0) rfl (dpe hx (e2.trans e3))) (eds_cons (ed_i (ev_var (i := 1) (v := .int p) rfl)) (eds_cons (ed_var (i := 4) rfl hx3) eds_nil))) ⟨N, p, row, rfl, by omega, rfl⟩
      refine ⟨et_is (et_T (ev_notN hc)) ?_, fun d' ed => ?_⟩
      · cases hq : peopleAlong N p row <;> rfl
      · have e2 : d' = rowD row := by
          split at ed
          · exact (Option.some.inj ed).symm
          · cases ed
        subst e2
        exact ⟨ed_var rfl hx3, rowD_flat _⟩
end
end KT

set_option Elab.async false
set_option linter.all false
set_option autoImplicit false
set_option maxRecDepth 100000
set_option maxHeartbeats 4000000
/-! Kj: routes, routes_for. -/
namespace KT
open PySem PySem.Spec PyProof.Rows L2 Evl KD KM
section
variable {P : Program} {w : World} {K : PySem.W.Frag} {mg : Str → Option Value} {base : Heap}
def R_routes (ds : List PyData) (es : List PyData) : Prop := ∃ n N p q, ds = [n, .int p, .int q, .int (N.length : Nat)] ∧ NetL n N ∧ N.length ≤ 6 ∧ es = (routesM N p q N.length).map rowD
theorem d_routes (B : Bt mg) (A : At K mg "routes" s_routes ["net", "payer", "payee", "most"]) (c_tuple_of : TupOf P w K mg base 3) (c_people_along : Dfn P w K mg base "people_along" ["net", "payer", "route"] CX0 3 (spF K R_people))
    (c_longer : Dfn P w K mg base "longer" ["net", "payer", "rows"] CX0 4 (spL K R_longer)) : Dfn P w K mg base "routes" ["net", "payer", "payee", "most"] CX0 5 (spL K R_routes) := by
  refine at_okL A sc_routes (fun ds d h => by obtain ⟨n, N, p, q, rfl, _⟩ := h; rfl) (fun f cdv A outer s H0 E hr => ⟨_, (pss_cons (ps_asg (pe_tup (pa_cons (pe_fn c_tuple_of hr (by omega) (by rfl) (pa_cons (pv 0) pa_nil)) (pa_cons (pe_lst (pa_cons (pe_tup pa_nil) pa_nil)) (pa_cons (pe_lst pa_nil) pa_nil)))) (pg_tup (by rfl) (pgs_cons (pg_name (i := 4) sc_routes.nd rfl (Or.inr rfl)) (pgs_cons (pg_name (i := 5) sc_routes.nd rfl (Or.inl rfl)) (pgs_cons (pg_name (i := 6) sc_routes.nd rfl (Or.inl rfl)) pgs_nil))))) (pss_cons (ps_for PassesOwn.never rfl (pi_range1 (by rfl) B.range (pa_cons (pe_callB (call_min2 rfl) (by rfl) B.min (by decide +kernel) (pa_cons (pv 3) (pa_cons (pe_callB (r := rLenS K) call_len_seq (by rfl) B.len PySem.boot_len (pa_cons (pv 4) pa_nil)) pa_nil))) pa_nil)) (pg_name (i := 7) sc_routes.nd rfl (Or.inl rfl)) (pss_cons (ps_set (i := 5) sc_routes.nd rfl (Or.inl rfl) (pe_fn c_longer hr (by omega) (by rfl) (pa_cons (pv 4) (pa_cons (pv 1) (pa_cons (pv 5) pa_nil))))) (pss_one (ps_expr (pe_bm PySem.F.plainAttrs_list PySem.F.slot_list_extend PySem.F.type_list_extend mt_extend (pv 6) (pa_cons (pe_lc (own := [("row", 8)]) (g := gName 8) rfl sc_routes.nd (pi_any (pv 5)) (blkOk_by (own := [("row", 8)]) (N := ["net", "payer", "payee", "most", "own", "rows", "found", "_", "row"]) (sc := defScope s_routes) (by decide +kernel)) (fun _ _ _ _ _ => (pg_name (i := 8) sc_routes.nd rfl (Or.inl rfl))) (fun _ _ _ _ _ => (pts_one (pt_cmpR op_eq (pe_ix (r := rIx K) ix_seq (pe_fn c_people_along hr (by omega) (by rfl) (pa_cons (pv 4) (pa_cons (pv 1) (pa_cons (pv 8) pa_nil)))) (pe_un un_neg pe_int) (fun _ _ => rfl)) (pv 2) (nomark _)))) (fun _ _ _ _ _ => (pv 8))) pa_nil)))))) (pss_one (ps_ret (pv 6))))), fun vs H ds d r hv => ?_⟩)
  obtain ⟨n, N, p, q, rfl, hn, hN, rfl⟩ := r
  obtain ⟨v, u, y, m, rfl, hx, hu, hy, hm⟩ := dpA4 hv
  have eu := dp_vint hu
  have ey := dp_vint hy
  have em := dp_vint hm
  subst eu ey em
  intro Q k
  have v0 : EvD K (tVar 0) [some v, some (.int p), some (.int q), some (.int (N.length : Nat)), none, none, none, none, none] H n := ed_var rfl hx
  have t0 := ed_call (R := R_tuple_of 3) (E := E0) (eds_cons v0 eds_nil) ⟨n, rfl, hn.1, rfl⟩
  rw [hn.2] at t0
  refine q_tri (K := K) (ds := [rowD []]) (es := []) t0 (edl_lst (eds_cons (ed_tup eds_nil (le5 rfl)) eds_nil) (le5 rfl)) (edl_lst eds_nil (le5 rfl)) fun o p1 us1 l us2 H1 e1 n1 n2 hne ho h1 d1 h2 d2 => ?_
  cases d2
  have vo : EvD K (tVar 4) [some v, some (.int p), some (.int q), some (.int (N.length : Nat)), some o, some (.ref p1), some (.ref l), none, none] H1 (netD N) := ed_var rfl ho
  have hlen := ev_lenT vo
  rw [List.length_map] at hlen
  refine Evl.q_forR1 (n := (N.length : Nat)) (ea_cons (ev_is (ev_min2 (ev_var (i := 3) (v := .int (N.length : Nat)) rfl) hlen) (by rw [if_neg (by omega)])) ea_nil) ⟨by omega, by omega⟩
    (fun i σ H' => i ≤ N.length ∧ (∃ p1 c, σ = [some v, some (.int p), some (.int q), some (.int (N.length : Nat)), some o, some (.ref p1), some (.ref l), c, none] ∧ p1 ≠ l ∧ ∃ us1, H' p1 = some (.lst us1) ∧ DpAll K H' us1 ((rowsM N p i).map rowD)) ∧ Ex H H' ∧ Dp K H' o (netD N) ∧ ∃ us2, H' l = some (.lst us2) ∧ DpAll K H' us2 ((routesM N p q i).map rowD))
    (fun H2 e2 => ⟨Nat.zero_le _, ⟨p1, _, rfl, hne, us1, e2 _ _ h1, dpeA d1 e2⟩, e1.trans e2, dpe ho e2, [], e2 _ _ h2, .nil⟩) (fun i σ H2 hi hP => ?_) (fun σ H2 hP => ?_)
  · obtain ⟨_, ⟨p1, c, rfl, hne, us1, h1, d1⟩, e2, ho2, us2, h2, d2⟩ := hP
    have hi' : i < N.length := by omega
    show tSeq _ _ _ [some v, some (.int p), some (.int q), some (.int (N.length : Nat)), some o, some (.ref p1), some (.ref l), some (.int (i : Int)), none] H2
    have vo2 : EvD K (tVar 4) [some v, some (.int p), some (.int q), some (.int (N.length : Nat)), some o, some (.ref p1), some (.ref l), some (.int (i : Int)), none] H2 (netD N) := ed_var rfl ho2
    have vr2 : EvD K (tVar 5) [some v, some (.int p), some (.int q), some (.int (N.length : Nat)), some o, some (.ref p1), some (.ref l), some (.int (i : Int)), none] H2 (.list ((rowsM N p i).map rowD)) := ed_at rfl h1 d1
    have hrows : ∀ k, k ≤ 6 → ∀ r ∈ rowsM N p k, r.length ≤ 100 ∧ (r = [] ∨ (peopleAlong N p r).isSome = true) := fun k hk r hr => by
      obtain ⟨a, b⟩ := rowsM_row hr
      refine ⟨by omega, ?_⟩
      rcases b with b | b
      · exact .inl (List.eq_nil_of_length_eq_zero (by omega))
      · exact .inr b
    have hlg := edl_call (R := R_longer) (E := E0) (eds_cons vo2 (eds_cons (ed_i (ev_var (i := 1) (v := .int p) rfl)) (eds_cons vr2 eds_nil))) ⟨N, p, rowsM N p i, rfl, hN, rowsM_le hN p i, hrows i (by omega), rfl⟩
    refine q_dl (K := K) hlg fun p3 us3 H3 n3 e3 h3 d3 => ?_
    have hne3 : p3 ≠ l := fun e => by rw [e] at n3; rw [h2] at n3; cases n3
    show tDrop _ _ [some v, some (.int p), some (.int q), some (.int (N.length : Nat)), some o, some (.ref p3), some (.ref l), some (.int (i : Int)), none] H3
    have vr3 : EvD K (tVar 5) [some v, some (.int p), some (.int q), some (.int (N.length : Nat)), some o, some (.ref p3), some (.ref l), some (.int (i : Int)), none] H3 (.list ((rowsM N p (i + 1)).map rowD)) := ed_at rfl h3 d3
    have hrl := rowsM_le hN p (i + 1)
    have ho3 := dpe ho2 e3
    have m := edl_lc1 (xs := rowsM N p (i + 1)) (f := rowD) (o := fun row => if isTo N p q row then some (rowD row) else none) (t := tTest (tOp rEq (tOp (rIx K) (tCall (spF K R_people) [] E0 (tCons (tVar 4) (tCons (tVar 1) (tCons (tVar 8) tNil)))) (tUn (rU fun i => .int (-i)) (tC (.int 1)))) (tVar 2))) (te := tVar 8) (j := 8) (vs := [8]) (ei_L vr3) (by omega) (fun _ => rfl) fun row hrow x H4 e4 hx4 => ?_
    · have h2' : H3 l = some (.lst us2) := e3 _ _ h2
      have ee : (rowsM N p (i + 1)).filterMap (fun row => if isTo N p q row then some (rowD row) else none) = ((rowsM N p (i + 1)).filter (isTo N p q)).map rowD := by
        rw [← List.filterMap_eq_map, ← List.filterMap_eq_filter, List.filterMap_filterMap]
        congr 1
        funext row
        cases hq : isTo N p q row <;> simp [Option.guard, hq]
      rw [ee] at m
      have hul : us2.length ≤ 6 * 64 := by
        rw [dpA_len d2, List.length_map]
        have gen : ∀ k, (routesM N p q k).length ≤ k * 64 := by
          intro k
          induction k with
          | zero => exact Nat.le_refl 0
          | succ k ih =>
            have h1 := (routes_step N p q k).2
            have h2 := rowsM_le hN p (k + 1)
            omega
        have := gen i
        omega
      have hfl := List.length_filter_le (isTo N p q) (rowsM N p (i + 1))
      refine s_extD h2' (ev_var rfl) m (by rw [List.length_map]; omega) fun zs H5 e5 d5 => ?_
      have h5 : H5 l = some (.lst us2) := e5 _ _ h2'
      refine ⟨hi', ⟨p3, _, rfl, hne3, us3, ?_, dp_txA (tx_upd h5) _ _ (rowsD_flat _) (dpeA d3 e5)⟩, Ex.mut ((e2.trans e3).trans e5) n2, dp_tx (tx_upd h5) _ _ (netD_flat N) (dpe ho3 e5), _, upd_same, ?_⟩
      · rw [upd_ne hne3]
        exact e5 _ _ h3
      · show DpAll K _ _ ((routesM N p q i ++ (rowsM N p (i + 1)).filter (isTo N p q)).map rowD)
        rw [List.map_append]
        exact dpA_app (dp_txA (tx_upd h5) _ _ (rowsD_flat _) (dpeA d2 (e3.trans e5))) (dp_txA (tx_upd h5) _ _ (rowsD_flat _) d5)
    · obtain ⟨a, b⟩ := rowsM_row hrow
      have b' : (peopleAlong N p row).isSome = true := by
        rcases b with b | b
        · exact absurd b (Nat.succ_ne_zero _)
        · exact b
      obtain ⟨fr, hf⟩ := Option.isSome_iff_exists.mp b'
      have hc := ed_call (R := R_people) (E := E0) (σ := [some v, some (.int p), some (.int q), some (.int (N.length : Nat)), some o, some (.ref p3), some (.ref l), some (.int (i : Int)), some x]) (H := H4) (eds_cons (ed_var (i := 4) rfl (dpe ho3 e4)) (eds_cons (ed_i (ev_var (i := 1) (v := .int p) rfl)) (eds_cons (ed_var (i := 8) rfl hx4) eds_nil))) ⟨N, p, row, rfl, by omega, rfl⟩
      rw [hf] at hc
      have hl := ed_ixT hc (ev_un (ev_c (v := .int 1)) ru_neg) (atI_lastD fr (fun z => by
        have := (people_walk hf).2.2
        rw [z] at this
        simp at this))
      refine ⟨et_is (et_T (ev_op (ev_i hl) (ev_var (i := 2) (v := .int q) rfl) (rv_eq rfl))) ?_, fun d' ed => ?_⟩
      · rw [dec_ii]
        unfold isTo
        rw [hf]
        show decide (fr.getLastD 0 = q) = (if decide (fr.getLastD 0 = q) = true then some (rowD row) else none).isSome
        cases decide (fr.getLastD 0 = q) <;> rfl
      · have e2 : d' = rowD row := by
          split at ed
          · exact (Option.some.inj ed).symm
          · cases ed
        subst e2
        exact ⟨ed_var rfl hx4, rowD_flat _⟩
  · obtain ⟨_, ⟨p1, c, rfl, hne, us1, h1, d1⟩, e2, ho2, us2, h2, d2⟩ := hP
    rw [Int.toNat_natCast] at d2
    exact ⟨_, rfl, k l us2 H2 n2 e2 h2 d2⟩
def R_routes_for (ds : List PyData) (es : List PyData) : Prop := ∃ n N sh S p q am, ds = [n, sh, .int p, .int q, .int am, .int (N.length : Nat)] ∧ NetL n N ∧ N.length ≤ 6 ∧ ShL sh S ∧ S.length = N.length ∧ es = ((routesM N p q N.length).filter fun r => decide (mostM N S p r ≥ am)).map rowD
theorem d_routes_for (B : Bt mg) (A : At K mg "routes_for" s_routes_for ["net", "sheets", "payer", "payee", "amount", "most"]) (c_routes : Dfn P w K mg base "routes" ["net", "payer", "payee", "most"] CX0 5 (spL K R_routes)) (c_most_over : Dfn P w K mg base "most_over" ["net", "sheets", "payer", "route"] CX0 6 (spF K R_most)) :
    Dfn P w K mg base "routes_for" ["net", "sheets", "payer", "payee", "amount", "most"] CX0 7 (spL K R_routes_for) := by
  refine at_okL A sc_routes_for (fun ds d h => by obtain ⟨n, N, sh, S, p, q, am, rfl, _⟩ := h; rfl) (fun f cdv A outer s H0 E hr => ⟨_, (pss_one (ps_ret (pe_lc (own := [("row", 6)]) (g := gName 6) rfl sc_routes_for.nd (pi_any (pe_fn c_routes hr (by omega) (by rfl) (pa_cons (pv 0) (pa_cons (pv 2) (pa_cons (pv 3) (pa_cons (pv 5) pa_nil)))))) (blkOk_by (own := [("row", 6)]) (N := ["net", "sheets", "payer", "payee", "amount", "most", "row"]) (sc := defScope s_routes_for) (by decide +kernel)) (fun _ _ _ _ _ => (pg_name (i := 6) sc_routes_for.nd rfl (Or.inl rfl))) (fun _ _ _ _ _ => (pts_one (pt_cmpR op_ge (pe_fn c_most_over hr (by omega) (by rfl) (pa_cons (pv 0) (pa_cons (pv 1) (pa_cons (pv 2) (pa_cons (pv 6) pa_nil))))) (pv 4) (nomark _)))) (fun _ _ _ _ _ => (pv 6))))), fun vs H ds d r hv => ?_⟩)
  obtain ⟨n, N, sh, S, p, q, am, rfl, hn, hN, hsh, hSl, rfl⟩ := r
  obtain ⟨v, t, u, y, a, m, rfl, hx, ht, hu, hy, ha, hm⟩ := dpA6 hv
  have eu := dp_vint hu
  have ey := dp_vint hy
  have ea := dp_vint ha
  have em := dp_vint hm
  subst eu ey ea em
  intro Q k
  have hrt := edl_call (R := R_routes) (E := E0) (σ := [some v, some t, some (.int p), some (.int q), some (.int am), some (.int (N.length : Nat)), none]) (H := H) (eds_cons (ed_var (i := 0) rfl hx) (eds_cons (ed_i (ev_var (i := 2) (v := .int p) rfl)) (eds_cons (ed_i (ev_var (i := 3) (v := .int q) rfl)) (eds_cons (ed_i (ev_var (i := 5) (v := .int (N.length : Nat)) rfl)) eds_nil)))) ⟨n, N, p, q, rfl, hn, hN, rfl⟩
  have hrl := routes_le hN p q
  have z := edl_lc1 (xs := routesM N p q N.length) (f := rowD) (o := fun row => if decide (mostM N S p row ≥ am) then some (rowD row) else none) (t := tTest (tOp (rI0 fun i j => .bl (decide (j ≤ i))) (tCall (spF K R_most) [] E0 (tCons (tVar 0) (tCons (tVar 1) (tCons (tVar 2) (tCons (tVar 6) tNil))))) (tVar 4))) (te := tVar 6) (j := 6) (vs := [6]) (ei_L (EvDL.toD hrt)) (by omega) (fun _ => rfl) fun row hrow x H4 e4 hx4 => ?_
  · have ee : (routesM N p q N.length).filterMap (fun row => if decide (mostM N S p row ≥ am) then some (rowD row) else none) = ((routesM N p q N.length).filter fun r => decide (mostM N S p r ≥ am)).map rowD := by
      rw [← List.filterMap_eq_map, ← List.filterMap_eq_filter, List.filterMap_filterMap]
      congr 1
      funext row
      cases hq : decide (mostM N S p row ≥ am) <;> simp [Option.guard, hq]
    rw [ee] at z
    exact z H (Ex.refl _) _ k
  · obtain ⟨hl, f, hf, _⟩ := routes_row hrow
    have hc := ed_call (R := R_most) (E := E0) (σ := [some v, some t, some (.int p), some (.int q), some (.int am), some (.int (N.length : Nat)), some x]) (H := H4) (eds_cons (ed_var (i := 0) rfl (dpe hx e4)) (eds_cons (ed_var (i := 1) rfl (dpe ht e4)) (eds_cons (ed_i (ev_var (i := 2) (v := .int p) rfl)) (eds_cons (ed_var (i := 6) rfl hx4) eds_nil)))) ⟨n, N, sh, S, p, _, row, f, rfl, hn, by omega, hsh, hSl, RowL.self (by omega), hf, rfl⟩
    refine ⟨et_is (et_T (ev_op (ev_i hc) (ev_var (i := 4) (v := .int am) rfl) rv_I0)) ?_, fun d' ed => ?_⟩
    · show decide (am ≤ mostM N S p row) = (if decide (mostM N S p row ≥ am) = true then some (rowD row) else none).isSome
      cases q : decide (mostM N S p row ≥ am) <;> simpa using q
    · have e2 : d' = rowD row := by
        split at ed
        · exact (Option.some.inj ed).symm
        · cases ed
      subst e2
      exact ⟨ed_var rfl hx4, rowD_flat _⟩
end
end KT

set_option Elab.async false
set_option linter.all false
set_option autoImplicit false
set_option maxRecDepth 100000
set_option maxHeartbeats 4000000
/-! Kx: errors of own classes: X() raised, several clauses «except X as n» with one name, defs that raise. -/
namespace KT
open PySem PySem.Spec PyProof.Rows L2 Evl KD KM

/-- raise X(), X an own class without own __init__ -/
theorem pmk_own0 {X : Cx} {Ca : Addr} {chain : List Value} {Bn newI iniI : String} {x : Str} {p ps : Pos} (facts : ExcBaseFacts Bn newI iniI chain) (hin : PySem.W.excIn X.K Ca chain newI = true) (hglob : X.mg x = some (.ref Ca)) (hkeep : PySem.W.keepIn X.K (.ref Ca) = true)
    (hraise : Raises X (.ref Ca)) (hgl : Gl X x) (hno : (x == ("__debug__" : Str)) = false := by decide) : PMk X (.Call (.Name x p) [] [] ps) (fun _ H Wq => Wq (.ref Ca) none H) := fun pins s σ H Wq J wish => by
  refine wpAny_Call_Name_kw (ld_glob J hgl hglob ?_ hno)
  refine PySem.W.callWith_K0 J.kIn hkeep ?_
  obtain ⟨_, _, _, _, _, _, _, _, _, _, _, _, _, _, _, _, _, ho, hns, hnone, tail⟩ := exc_obj J.kIn hin
  exact wpAny_call_exc_subT (rest := []) facts tail ho hns hnone (fun hNew e made => mk_of J made hraise wish (J.hok.gone made.new)) (Nat.zero_le _)

/-- the wish of clauses that share the slot i -/
def wAsL (K : PySem.W.Frag) (i : Nat) (Wout : WX) (D : Ends) : List (Value × (Addr → Value → Option Addr → TS)) → WX
  | [] => Wout
  | (c, ts) :: more => fun cls d σ H => ∃ yes, PySem.W.exmOne K cls c = some yes ∧ (yes = false → wAsL K i Wout D more cls d σ H) ∧
      (yes = true → ∀ a, H a = none → ts a cls d { nx := fun τ G => D.nx (τ.set i none) G, rt := D.rt, bk := fun τ G => D.bk (τ.set i none) G, ct := fun τ G => D.ct (τ.set i none) G } (σ.set i (some (.ref a))) H)
inductive AsOk (X : Cx) (n : Str) : List ExceptHandler → List (Value × (Addr → Value → Option Addr → TS)) → Prop
  | nil : AsOk X n [] []
  | cons {x : Str} {c : Value} {ts : Addr → Value → Option Addr → TS} {b₀ : Stmt} {suite : List Stmt} {np hp : Pos} {more : List ExceptHandler} {l : List (Value × (Addr → Value → Option Addr → TS))} (named : Names X x c)
      (runs : ∀ (a : Addr) (oe : Obj) (cls : Value) (d : Option Addr) (pn : List (Addr × Obj)), Zc cls d oe → (∃ vs, oe.data = .fields vs) → PSs (X.suite a ((a, oe) :: pn)) (b₀ :: suite) (ts a cls d)) (rest : AsOk X n more l) :
      AsOk X n (.ExceptHandler (some (.Name x np)) (some n) (b₀ :: suite) hp :: more) ((c, ts) :: l)
section
variable {X : Cx} {n : Str} {i : Nat} {body : List Stmt} {h₀ : ExceptHandler} {hds : List ExceptHandler} {l : List (Value × (Addr → Value → Option Addr → TS))} {pos : Pos} {tb : WX → TS} {Wout : WX}
theorem ps_try_asL (hstk : X.stack = X.env :: X.outer) (hfrm : X.env.frame = some X.env.locals) (hnd : X.N.Nodup) (hix : X.N[i]? = some n) (hkind : X.env.kindOf n = some .local) (tk : Takes X Wout)
    (hbody : ∀ (W : WX) (pn : List (Addr × Obj)) (xe : Value → Shared → Prop), Takes (X.tr pn xe) W → PSs (X.tr pn xe) body (tb W))
    (clauses : AsOk X n (h₀ :: hds) l) : PS X (.Try body (h₀ :: hds) [] [] pos) (fun D σ H => tb (wAsL X.K i Wout D l) D σ H) := ⟨fun pins s σ H D J wish => by
  have okX := J.ok
  have hframes : X.A.frames = some (X.env :: X.outer) := by rw [okX.frames, hstk]
  refine wpAny_Try_except (wpAny_mono ((hbody (wAsL X.K i Wout D l) (X.pn ++ pins) (fun e s₁ => wpAny (model X.prog X.w) X.A (noteFrame e X.env) (fun _ s₂ => wpAny (model X.prog X.w) X.A (setFlight e none) (fun _ s₃ =>
    wpAny (model X.prog X.w) X.A (handleBy e X.env (h₀ :: hds)) (SP X pins D) X.xe s₃) X.xe s₂) X.xe s₁) (fun u s' air => ?_)).run [] s σ H D (J.toTry _) wish) (fun f s1 fin => ?_) (fun _ _ z => z))
  · obtain ⟨a, Bg, sI, pinsI, σI, HI, cls, d, rfl, JI, hgr, hup, hsky, hfree, hos, hbare, w⟩ := air
    have JX : Inv X pins σI HI sI := JI.ofTry okX
    rw [hstk] at hsky
    show wpAny (model X.prog X.w) X.A (noteFrame (.ref a) X.env) _ _ _
    refine Sky.land Zc.steady hframes hfrm hsky fun hL flL upL => ?_
    have JL : Inv X pins σI HI { s' with heap := hL } := JX.landed hgr flL.1 (hup.trans upL) hos hbare
    obtain ⟨oL, fsL, getL, zL, dataL⟩ := flL.there
    have apart : a ∉ frs (X.env :: X.outer) := fun hm => by
      obtain ⟨_, o', e', no⟩ := flL.2.2.1.mem hm
      rw [getL] at e'
      cases e'
      exact no _ dataL
    have ne1 : a ≠ X.env.locals := fun z => apart (List.mem_filterMap.mpr ⟨X.env, List.mem_cons_self, by rw [hfrm, z]⟩)
    have ne2 : a ∉ X.fs := fun hm => by
      obtain ⟨ev, hev, eq⟩ := List.mem_filterMap.mp hm
      exact apart (List.mem_filterMap.mpr ⟨ev, List.mem_cons_of_mem _ hev, eq⟩)
    have inSuite := JL.suite getL dataL hfree ne1 ne2
    have each : ∀ {hs' : List ExceptHandler} {l' : List (Value × (Addr → Value → Option Addr → TS))}, AsOk X n hs' l' → wAsL X.K i Wout D l' cls d σI HI →
        wpAny (model X.prog X.w) X.A (handleBy (.ref a) X.env hs') (SP X pins D) X.xe { s' with heap := hL } := by
      intro hs' l' ok
      induction ok with
      | nil =>
        intro w
        refine wpAny_handleBy_nil ?_
        obtain ⟨_, _, _, o, vs, T, oT, tsT, hget, _, hdat, h1, _⟩ := id flL
        unfold PySem.passOn
        refine wpAny_bind (wpAny_field hget hdat h1 ?_)
        rw [if_neg (show ¬ ((Value.ref T == Value.none) = true) from by simp)]
        have out : wpAny (model X.prog X.w) X.A (setFlight (.ref a) X.env.frame) (fun _ s4 => wpAny (model X.prog X.w) X.A (throw (.ref a) : Sem Flow) (SP X pins D) X.xe s4) X.xe { s' with heap := hL } := by
          rw [hfrm]
          refine HandSPX.setFlight_upZ flL fun hU heldU upU => wpAny_throw (tk _ _ ?_)
          exact ⟨a, Bg, sI, pins, σI, HI, cls, d, rfl, JX, hgr, (hup.trans upL).trans upU, .inr (.inr (by rw [hstk]; exact heldU)), hfree, hos, hbare, w⟩
        first
          | exact wpAny_bind (wpAny_pure (wpAny_bind out))
          | exact wpAny_bind out
      | @cons x c ts b₀ suite np hp more l2 named runs rest ih =>
        intro w
        obtain ⟨yes, hyes, wno, wyes⟩ := w
        refine wpAny_handleBy_cons (codeAny_handlers_test ?_) (by intro q; cases q)
        have looks : PySem.W.Looks (model X.prog X.w) hL (typeOf (.ref a)) cls := fun A Q E s k q => wpAny_typeOf_ref (k _ _ getL) (by rw [zL.1]; exact q)
        have asks := PySem.W.exm_one (M := model X.prog X.w) JL.kIn looks hyes
        have named' : ∀ {Q E : Value → Shared → Prop}, Q c { s' with heap := hL } → wpAny (model X.prog X.w) (X.A.mark (some (.ref a))) (eval (.Name x np) X.env) Q E { s' with heap := hL } := fun {Q E} q => by
          obtain ⟨g1, g2, g3 | ⟨g3, g4, g5⟩⟩ := named
          · exact ld_glob (X := X.suite a ((a, oL) :: (X.pn ++ pins))) inSuite g1 g3 q g2
          · exact ld_blt (X := X.suite a ((a, oL) :: (X.pn ++ pins))) inSuite g1 g3 g4 q g5 g2
        refine named' (asks.here ?_)
        cases yes with
        | false =>
          show wpAny _ X.A (handleBy (.ref a) X.env more) _ _ _
          exact ih (wno rfl)
        | true =>
          refine codeAny_handlers_suite_as ?_
          refine HandSPX.lands_againZ flL fun hM flM upM => ?_
          have JM : Inv X pins σI HI { s' with heap := hM } := JX.landed hgr flM.1 ((hup.trans upL).trans upM) hos hbare
          obtain ⟨oM, fsM, getM, zM, dataM⟩ := flM.there
          have suiteM := JM.suite getM dataM hfree ne1 ne2
          refine store_ok (X := X.suite a ((a, oM) :: (X.pn ++ pins))) (v := .ref a) suiteM hnd hix (.inl hkind) rfl (fun s5 J5 => ?_) (.inr hkind)
          refine wpAny_mono ((runs a oM cls d (X.pn ++ pins) zM ⟨_, dataM⟩).run [] s5 _ HI _ J5 (wyes rfl a hfree)) (fun f s6 after => ?_) (fun _ _ z => False.elim z)
          have forget : ∀ {σ6 : L2.St} {H6 : Hp} {Q : Shared → Prop}, Inv (X.suite a ((a, oM) :: (X.pn ++ pins))) [] σ6 H6 s6 → (∀ s7, Inv X pins (σ6.set i none) H6 s7 → Q s7) →
              wpAny (model X.prog X.w) X.A (do bindName X.env n .none; unbindBehindTheSuite X.env n hp) (fun _ s7 => Q s7) X.xe s6 := fun {σ6 H6 Q} J6 hq => gone_ok (J6.unsuite okX) hnd hix hkind hq
          cases f with
          | next =>
            obtain ⟨τ, G, J6, q6⟩ := after
            exact forget J6 fun s7 J7 => ⟨_, _, J7, q6⟩
          | brk =>
            obtain ⟨τ, G, J6, q6⟩ := after
            exact forget J6 fun s7 J7 => ⟨_, _, J7, q6⟩
          | cont =>
            obtain ⟨τ, G, J6, q6⟩ := after
            exact forget J6 fun s7 J7 => ⟨_, _, J7, q6⟩
          | ret u =>
            obtain ⟨v6, τ, G, J6, r6, q6⟩ := after
            exact forget J6 fun s7 J7 => ⟨_, _, _, J7, r6, q6⟩
    exact each clauses w
  · cases f with
    | next =>
      obtain ⟨τ, G, JT, q⟩ := fin
      exact wpAny_execs_nil ⟨τ, G, JT.ofTry okX, q⟩
    | brk =>
      obtain ⟨τ, G, JT, q⟩ := fin
      exact ⟨τ, G, JT.ofTry okX, q⟩
    | cont =>
      obtain ⟨τ, G, JT, q⟩ := fin
      exact ⟨τ, G, JT.ofTry okX, q⟩
    | ret u =>
      obtain ⟨v, τ, G, JT, r, q⟩ := fin
      exact ⟨v, τ, G, JT.ofTry okX, r, q⟩⟩
end

/-! ### defs that may raise -/
/-- data, or an error of the class at C -/
def spE (K : PySem.W.Frag) (C : Addr) (R : List PyData → PyData → Prop) (Rx : List PyData → Prop) : Sp := fun vs H Q E => ∃ ds, DpAll K H vs ds ∧ ((∃ d, R ds d ∧ ∀ v H', Ex H H' → Dp K H' v d → Q v H') ∨ (Rx ds ∧ ∀ H', Ex H H' → E (.ref C) none H'))
/-- what an own class of errors must say -/
structure ErrC (K : PySem.W.Frag) (mg : Str → Option Value) (x : Str) (C : Addr) : Prop where
  gC : mg x = some (.ref C)
  xC : PySem.W.excIn K C [.type "ValueError", .type "Exception", .type "BaseException", .type "object"] "ValueError.__new__" = true
  kC : PySem.W.keepIn K (.ref C) = true
  bC : PySem.W.subIn K (.ref C) (.type "BaseException") = some true
  tC : PySem.W.typeIn K (.ref C) = some (.type "type")
section
variable {P : Program} {w : World} {K : PySem.W.Frag} {mg : Str → Option Value} {base : Heap}
theorem at_okX {x : Str} {st : Stmt} {N ps : List Str} {k : Nat} {C : Addr} {R : List PyData → PyData → Prop} {Rx : List PyData → Prop} (A : At K mg x st ps) (S : FnScope N ps (defScope st)) (hl : ∀ ds d, R ds d → ds.length = ps.length) (hlx : ∀ ds, Rx ds → ds.length = ps.length)
    (hb : ∀ (f : Addr) (cdv : Value) (A : Around) (outer : List Env) (s : Shared) (H0 : Hp) (E : XK), Room k (A.deeper (envOfC x (defScope st) s.heap.objs.size f cdv)) →
      ∃ t, PSs (cxOf (L2.CX P w) P w K mg base N x (defScope st) f cdv A outer s H0 E) (defBody st) t ∧ ∀ (vs : List V) (H : Hp) (ds : List PyData) (Q : VK), DpAll K H vs ds → ((∃ d, R ds d ∧ ∀ v H', Ex H H' → Dp K H' v d → Q v H') ∨ (Rx ds ∧ ∀ H', Ex H H' → E (.ref C) none H')) →
        t { nx := fun _ H' => Q .non H', rt := Q } (start N vs) H) :
    Dfn P w K mg base x ps (L2.CX P w) (k + 1) (spE K C R Rx) := by
  refine A.fin fun f fd F => F.okX S (fun vs H Q E h => ?_) (fun cdv A outer s H vs Q E hr h => ?_)
  · obtain ⟨ds, hv, ⟨d, r, _⟩ | ⟨r, _⟩⟩ := h
    · rw [dpA_len hv, hl ds d r]
    · rw [dpA_len hv, hlx ds r]
  · obtain ⟨ds, hv, h⟩ := h
    obtain ⟨t, ht, hx⟩ := hb f cdv A outer s H E hr
    exact ⟨t, ht, hx vs H ds Q hv h⟩
/-- a call in the body of a try, the wish at the slots -/
theorem pe_fnX {X : Cx} {W : WX} {x : Str} {ps : List Str} {j k : Nat} {sp : Sp} {e : Expr} {es : List Expr} {p pos : Pos} {t : TA} (C : Dfn X.prog X.w X.K X.mg X.base x ps (L2.CX X.prog X.w) j sp) (tk : Takes X W) (hr : Room k X.A) (hj : j ≤ k) (hg : Gl X x) (ha : PA X (e :: es) t)
    (hdb : (x == ("__debug__" : Str)) = false := by decide) (he : starEach (e :: es) X.env = (false, eval e X.env) :: starEach es X.env := by rfl) (hpl : (backTo pos (starEach es X.env)).any (·.1) = false := by rfl) :
    PE X (.Call (.Name x p) (e :: es) [] pos) (tCallS sp (WE W) t) := by
  obtain ⟨f, fd, F, g, kp, b⟩ := C.ex
  exact pe_callS F (hr.mono hj) hg g kp b (fun σ => passAt tk σ) ha hdb he hpl
/-- a call that lets nothing out, of a def that might -/
theorem pe_fnL {X : Cx} {x : Str} {ps : List Str} {j k : Nat} {sp : Sp} {e : Expr} {es : List Expr} {p pos : Pos} {t : TA} (C : Dfn X.prog X.w X.K X.mg X.base x ps (L2.CX X.prog X.w) j sp) (hr : Room k X.A) (hj : j ≤ k) (hg : Gl X x) (ha : PA X (e :: es) t)
    (hdb : (x == ("__debug__" : Str)) = false := by decide) (he : starEach (e :: es) X.env = (false, eval e X.env) :: starEach es X.env := by rfl) (hpl : (backTo pos (starEach es X.env)).any (·.1) = false := by rfl) :
    PE X (.Call (.Name x p) (e :: es) [] pos) (tCall sp [] E0 t) := by
  obtain ⟨f, fd, F, g, kp, b⟩ := C.ex
  exact pe_call F (hr.mono hj) hg g kp b .nil passL ha hdb he hpl
/-- a call without arguments -/
theorem pe_fn0 {X : Cx} {x : Str} {j k : Nat} {sp : Sp} {p pos : Pos} (C : Dfn X.prog X.w X.K X.mg X.base x [] CX0 j sp) (hr : Room k X.A) (hj : j ≤ k) (hg : Gl X x)
    (hdb : (x == ("__debug__" : Str)) = false := by decide) : PE X (.Call (.Name x p) [] [] pos) (tCall sp [] E0 tNil) := by
  obtain ⟨f, fd, F, g, kp, b⟩ := C.ex
  exact pe_call0 F (hr.mono hj) hg g kp b .nil pass0 hdb
theorem ed_callE {C : Addr} {R : List PyData → PyData → Prop} {Rx : List PyData → Prop} {E : XK} {tr : TA} {σ : L2.St} {H : Hp} {ds : List PyData} {d : PyData} (h : EvDs K tr σ H ds) (hr : R ds d) : EvD K (tCall (spE K C R Rx) [] E tr) σ H d := fun H1 e Q q =>
  h H1 e _ fun vs H2 e2 hv => ⟨ds, by rw [List.append_nil]; exact hv, .inl ⟨d, hr, fun v H3 e3 hd => q v H3 (e2.trans e3) hd⟩⟩
end
end KT

set_option Elab.async false
set_option linter.all false
set_option autoImplicit false
set_option maxRecDepth 100000
set_option maxHeartbeats 4000000
/-! Ky: payment_locks, best_route, widest. -/
namespace KT
open PySem PySem.Spec PyProof.Rows L2 Evl KD KM
section
variable {K : PySem.W.Frag} {σ : L2.St} {H Hb : Hp} {ta tb tc te : TE} {d e : PyData} {ds es : List PyData} {v : V} {D : Ends} {tu tz : TS}
theorem q_duo {i j : Nat} (ha : EvD K ta σ H d) (hb : EvD K tb σ H e) (kk : ∀ v u H1, Ex H H1 → Dp K H1 v d → Dp K H1 u e → tz D ((σ.set i (some v)).set j (some u)) H1) :
    tSeq (tAsg (tTup (tCons ta (tCons tb tNil))) (gTup K 2 (gCons (gName i) (gCons (gName j) gNil)))) tz D σ H :=
  ha H (Ex.refl H) _ fun v H1 e1 h1 => hb H1 e1 _ fun u H2 e2 h2 =>
    ⟨by show 2 ≤ sizeLine; decide, fun p hp => ⟨p, _, rfl, st_of upd_same, rfl, v, _, rfl, u, _, rfl, rfl, kk v u _ ((e1.trans e2).trans (Ex.new hp)) (dpe h1 (e2.trans (Ex.new hp))) (dpe h2 (Ex.new hp))⟩⟩
end
theorem fm_if {α : Type} (f : α → PyData) (p : α → Bool) : ∀ l : List α, l.filterMap (fun a => if p a then some (f a) else none) = (l.filter p).map f
  | [] => rfl
  | a :: l => by
    rw [List.filterMap_cons, List.filter_cons, fm_if f p l]
    cases p a <;> rfl
theorem zip3 : ∀ (r p l : List Int), List.zipWith (fun d (q : PyData × PyData) => PyData.tuple [d, q.1, q.2]) (r.map .int) ((p.map PyData.int).zip (l.map .int)) = (r.zip (p.zip l)).map fun a => .tuple [.int a.1, .int a.2.1, .int a.2.2]
  | [], _, _ => rfl
  | _ :: _, [], _ => rfl
  | _ :: _, _ :: _, [] => rfl
  | x :: r, y :: p, z :: l => congrArg (_ :: ·) (zip3 r p l)
theorem NetL.sq {n : PyData} {N : List Ch} (h : NetL n N) : ∃ es, Sq n = some es ∧ es.length = N.length := by
  obtain ⟨h1, h2⟩ := h
  rcases h1 with h1 | ⟨es, h3, _, _⟩
  · cases n <;> first | (have z : tupD _ = PyData.tuple (N.map chD) := h2; cases z; done) | (have z : false = true := h1; cases z; done)
  · refine ⟨es, h3, ?_⟩
    rw [tupD_sq h3] at h2
    injection h2 with h2
    have z := congrArg List.length h2
    rw [List.length_map, List.length_map] at z
    exact z
/-- an image of whatever kind -/
def ImgL (m : PyData) (s : Int) : Prop := okD 3 m ∧ tupD m = imgD s
def entD (am s : Int) (a : Int × Int × Int) : PyData := .tuple [.int a.1, lockD (a.2.1, am, s, a.2.2)]
theorem entD_flat (am s : Int) (a : Int × Int × Int) : flat (entD am s a) = true := rfl
def locksM (N : List Ch) (p : Int) (r : List Int) (am s : Int) (l : List Int) : PyData := .tuple ((r.zip ((paysM N r p).zip l)).map (entD am s))
section
variable {P : Program} {w : World} {K : PySem.W.Frag} {mg : Str → Option Value} {base : Heap} {CU CN : Addr}
/-- what payment_locks is handed -/
def LkIn (ds : List PyData) (N : List Ch) (p : Int) (r : List Int) (am s : Int) (l : List Int) : Prop := ∃ n rt m e f, ds = [n, .int p, rt, .int am, m, e] ∧ NetL n N ∧ N.length ≤ 1000 ∧ RowL rt r ∧ peopleAlong N p r = some f ∧ ImgL m s ∧ RowL e l
def R_pl (ds : List PyData) (d : PyData) : Prop := ∃ N p r am s l, LkIn ds N p r am s l ∧ l.length = r.length ∧ d = locksM N p r am s l
def Rx_pl (ds : List PyData) : Prop := ∃ N p r am s l, LkIn ds N p r am s l ∧ l.length ≠ r.length
theorem d_payment_locks (B : Bt mg) (A : At K mg "payment_locks" s_payment_locks ["net", "payer", "route", "amount", "image", "ends"]) (c_tuple_of : TupOf P w K mg base 3) (c_sides : Dfn P w K mg base "sides" ["net", "payer", "route"] CX0 5 (spF K R_sides)) (e_Unfit : ErrC K mg "Unfit" CU) :
    Dfn P w K mg base "payment_locks" ["net", "payer", "route", "amount", "image", "ends"] (L2.CX P w) 6 (spE K CU R_pl Rx_pl) := by
  refine at_okX A sc_payment_locks (fun ds d h => by obtain ⟨N, p, r, am, s, l, ⟨n, rt, m, e, f, rfl, _⟩, _⟩ := h; rfl) (fun ds h => by obtain ⟨N, p, r, am, s, l, ⟨n, rt, m, e, f, rfl, _⟩, _⟩ := h; rfl)
    (fun f cdv A outer s H0 E hr => ⟨_, (pss_cons (ps_asg (pe_tup (pa_cons (pe_fn c_sides hr (by omega) (by rfl) (pa_cons (pv 0) (pa_cons (pv 1) (pa_cons (pv 2) pa_nil)))) (pa_cons (pe_fn c_tuple_of hr (by omega) (by rfl) (pa_cons (pv 4) pa_nil)) pa_nil))) (pg_tup (by rfl) (pgs_cons (pg_name (i := 6) sc_payment_locks.nd rfl (Or.inl rfl)) (pgs_cons (pg_name (i := 7) sc_payment_locks.nd rfl (Or.inr rfl)) pgs_nil)))) (pss_cons (ps_if (pt_cmpR op_ne (pe_callB (r := rLenS K) call_len_seq (by rfl) B.len PySem.boot_len (pa_cons (pv 5) pa_nil)) (pe_callB (r := rLenS K) call_len_seq (by rfl) B.len PySem.boot_len (pa_cons (pv 6) pa_nil)) (nomark _)) (pss_one (ps_raise rfl (takes_of rfl rfl rfl rfl) (pmk_own0 PySem.F.excBase_ValueError e_Unfit.xC e_Unfit.gC e_Unfit.kC (raises_own e_Unfit.bC e_Unfit.tC) (by rfl)))) pss_nil) (pss_one (ps_ret (pe_callTy (r := rTupleOf K) call_tuple_of (by rfl) B.tuple (by decide +kernel) (pa_cons (pe_lc (own := [("channel", 8), ("side", 9), ("end", 10)]) (g := gTup K 3 (gCons (gName 8) (gCons (gName 9) (gCons (gName 10) gNil)))) rfl sc_payment_locks.nd (pi_z3 (by rfl) B.zip (pa_cons (pv 2) (pa_cons (pv 6) (pa_cons (pv 5) pa_nil)))) (blkOk_by (own := [("channel", 8), ("side", 9), ("end", 10)]) (N := ["net", "payer", "route", "amount", "image", "ends", "pays", "own", "channel", "side", "end"]) (sc := defScope s_payment_locks) (by decide +kernel)) (fun _ _ _ _ _ => (pg_tup (by rfl) (pgs_cons (pg_name (i := 8) sc_payment_locks.nd rfl (Or.inl rfl)) (pgs_cons (pg_name (i := 9) sc_payment_locks.nd rfl (Or.inl rfl)) (pgs_cons (pg_name (i := 10) sc_payment_locks.nd rfl (Or.inl rfl)) pgs_nil))))) (fun _ _ _ _ _ => pts_nil) (fun _ _ _ _ _ => (pe_tup (pa_cons (pv 8) (pa_cons (pe_tup (pa_cons (pv 9) (pa_cons (pv 3) (pa_cons (pv 7) (pa_cons (pv 10) pa_nil))))) pa_nil))))) pa_nil)))))), fun vs H ds Q hv h => ?_⟩)
  obtain ⟨N, p, r, am, s, l, hin, hh⟩ : ∃ N p r am s l, LkIn ds N p r am s l ∧ ((l.length = r.length ∧ ∀ v H', Ex H H' → Dp K H' v (locksM N p r am s l) → Q v H') ∨ (l.length ≠ r.length ∧ ∀ H', Ex H H' → E (.ref CU) none H')) := by
    rcases h with ⟨d, ⟨N, p, r, am, s, l, hin, hl, rfl⟩, q⟩ | ⟨⟨N, p, r, am, s, l, hin, hl⟩, q⟩
    · exact ⟨N, p, r, am, s, l, hin, .inl ⟨hl, q⟩⟩
    · exact ⟨N, p, r, am, s, l, hin, .inr ⟨hl, q⟩⟩
  obtain ⟨n, rt, m, e, f, rfl, hn, hN, hrt, hp, him, he⟩ := hin
  obtain ⟨v0, v1, v2, v3, v4, v5, rfl, h0, h1, h2, h3, h4, h5⟩ := dpA6 hv
  have e1 := dp_vint h1
  have e3 := dp_vint h3
  subst e1 e3
  have x0 : EvD K (tVar 0) [some v0, some (.int p), some v2, some (.int am), some v4, some v5, none, none, none, none, none] H n := ed_var rfl h0
  have x2 : EvD K (tVar 2) [some v0, some (.int p), some v2, some (.int am), some v4, some v5, none, none, none, none, none] H rt := ed_var rfl h2
  have x4 : EvD K (tVar 4) [some v0, some (.int p), some v2, some (.int am), some v4, some v5, none, none, none, none, none] H m := ed_var rfl h4
  have y1 := ed_call (R := R_sides) (E := E0) (eds_cons x0 (eds_cons (ed_i (ev_var (i := 1) (v := .int p) rfl)) (eds_cons x2 eds_nil))) ⟨n, N, p, rt, r, f, rfl, hn, hN, hrt, hp, rfl⟩
  have y2 := ed_call (R := R_tuple_of 3) (E := E0) (eds_cons x4 eds_nil) ⟨m, rfl, him.1, rfl⟩
  rw [him.2] at y2
  refine q_duo (K := K) y1 y2 fun g o H1 ex1 hg ho => ?_
  have z5 : EvD K (tVar 5) [some v0, some (.int p), some v2, some (.int am), some v4, some v5, some g, some o, none, none, none] H1 e := ed_var rfl (dpe h5 ex1)
  have z6 : EvD K (tVar 6) [some v0, some (.int p), some v2, some (.int am), some v4, some v5, some g, some o, none, none, none] H1 (rowD (paysM N r p)) := ed_var rfl hg
  have z2 : EvD K (tVar 2) [some v0, some (.int p), some v2, some (.int am), some v4, some v5, some g, some o, none, none, none] H1 rt := ed_var rfl (dpe h2 ex1)
  have l5 := ev_lenS z5 he.1
  have l6 := ev_lenT z6
  rw [List.length_map] at l5
  rw [List.length_map, paysM_len] at l6
  refine q_when (b := !decide (l.length = r.length)) (et_is (et_T (ev_op l5 l6 (rv_ne rfl))) ?_) (fun z H2 e2 => ?_) (fun z H2 e2 => ?_)
  · rw [dec_ii]
    congr 1
    exact decide_eq_decide.mpr (by omega)
  · rcases hh with ⟨hl, _⟩ | ⟨_, h⟩
    · rw [decide_eq_true hl] at z
      cases z
    · exact h H2 (ex1.trans e2)
  · rcases hh with ⟨hl, q⟩ | ⟨hl, _⟩
    · have hz := ei_z3 (z2.mono e2) (z6.mono e2) (z5.mono e2) hrt.1 rfl he.1 ⟨by rw [List.length_map, List.length_map, paysM_len], by rw [List.length_map, List.length_map, paysM_len, hl]⟩
      rw [zip3] at hz
      have hlen : (r.zip ((paysM N r p).zip l)).length ≤ 40000 := by
        have := hrt.2
        rw [List.length_zip]
        omega
      have mm := edl_map3 (g := entD am s) (te := tTup (tCons (tVar 8) (tCons (tTup (tCons (tVar 9) (tCons (tVar 3) (tCons (tVar 7) (tCons (tVar 10) tNil))))) tNil))) (j := 8) (l := 9) (m := 10) (vs := [8, 9, 10]) hz hlen (fun _ _ _ => rfl) fun a ha x y u H3 e3 hx hy hu => ⟨by
        exact ed_tup (eds_cons (ed_var rfl hx) (eds_cons (ed_tup (eds_cons (ed_var rfl hy) (eds_cons (ed_i (ev_var (i := 3) (v := .int am) rfl)) (eds_cons (ed_var (i := 7) rfl (dpe ho (e2.trans e3))) (eds_cons (ed_var rfl hu) eds_nil)))) (le5 rfl)) eds_nil)) (le5 rfl), rfl⟩
      exact s_rq (ed_tupleL (EvDL.toD mm)) q (ex1.trans e2)
    · rw [decide_eq_false hl] at z
      cases z
/-- what best_route is handed -/
def BrIn (ds : List PyData) (N : List Ch) (S : List (Int × Int)) (p q am : Int) : Prop := ∃ n sh, ds = [n, sh, .int p, .int q, .int am] ∧ NetL n N ∧ N.length ≤ 6 ∧ ShL sh S ∧ S.length = N.length
def goodsM (N : List Ch) (S : List (Int × Int)) (p q am : Int) : List (List Int) := (routesM N p q N.length).filter fun r => decide (mostM N S p r ≥ am)
def R_br (ds : List PyData) (d : PyData) : Prop := ∃ N S p q am r more, BrIn ds N S p q am ∧ goodsM N S p q am = r :: more ∧ d = rowD r
def Rx_br (ds : List PyData) : Prop := ∃ N S p q am, BrIn ds N S p q am ∧ goodsM N S p q am = []
theorem d_best_route (B : Bt mg) (A : At K mg "best_route" s_best_route ["net", "sheets", "payer", "payee", "amount"]) (c_routes_for : Dfn P w K mg base "routes_for" ["net", "sheets", "payer", "payee", "amount", "most"] CX0 7 (spL K R_routes_for)) (e_CanNot : ErrC K mg "CanNot" CN) :
    Dfn P w K mg base "best_route" ["net", "sheets", "payer", "payee", "amount"] (L2.CX P w) 8 (spE K CN R_br Rx_br) := by
  refine at_okX A sc_best_route (fun ds d h => by obtain ⟨N, S, p, q, am, r, more, ⟨n, sh, rfl, _⟩, _⟩ := h; rfl) (fun ds h => by obtain ⟨N, S, p, q, am, ⟨n, sh, rfl, _⟩, _⟩ := h; rfl)
    (fun f cdv A outer s H0 E hr => ⟨_, (pss_cons (ps_set (i := 5) sc_best_route.nd rfl (Or.inl rfl) (pe_fn c_routes_for hr (by omega) (by rfl) (pa_cons (pv 0) (pa_cons (pv 1) (pa_cons (pv 2) (pa_cons (pv 3) (pa_cons (pv 4) (pa_cons (pe_callB (r := rLenS K) call_len_seq (by rfl) B.len PySem.boot_len (pa_cons (pv 0) pa_nil)) pa_nil)))))))) (pss_cons (ps_if (pt_cmpR (r := rEqD K) (op_eqD (hu_of hr)) (pv 5) (pe_lst pa_nil) (nomark _)) (pss_one (ps_raise rfl (takes_of rfl rfl rfl rfl) (pmk_own0 PySem.F.excBase_ValueError e_CanNot.xC e_CanNot.gC e_CanNot.kC (raises_own e_CanNot.bC e_CanNot.tC) (by rfl)))) pss_nil) (pss_one (ps_ret (pe_ix (r := rIx K) ix_seq (pv 5) pe_int (fun _ _ => rfl)))))), fun vs H ds Q hv h => ?_⟩)
  obtain ⟨N, S, p, q, am, hin, hh⟩ : ∃ N S p q am, BrIn ds N S p q am ∧ ((∃ r more, goodsM N S p q am = r :: more ∧ ∀ v H', Ex H H' → Dp K H' v (rowD r) → Q v H') ∨ (goodsM N S p q am = [] ∧ ∀ H', Ex H H' → E (.ref CN) none H')) := by
    rcases h with ⟨d, ⟨N, S, p, q, am, r, more, hin, hg, rfl⟩, k⟩ | ⟨⟨N, S, p, q, am, hin, hg⟩, k⟩
    · exact ⟨N, S, p, q, am, hin, .inl ⟨r, more, hg, k⟩⟩
    · exact ⟨N, S, p, q, am, hin, .inr ⟨hg, k⟩⟩
  obtain ⟨n, sh, rfl, hn, hN, hsh, hS⟩ := hin
  obtain ⟨v0, v1, v2, v3, v4, rfl, h0, h1, h2, h3, h4⟩ := dpA5 hv
  have e2 := dp_vint h2
  have e3 := dp_vint h3
  have e4 := dp_vint h4
  subst e2 e3 e4
  obtain ⟨es, hes, hel⟩ := hn.sq
  have x0 : EvD K (tVar 0) [some v0, some v1, some (.int p), some (.int q), some (.int am), none] H n := ed_var rfl h0
  have hl := ev_lenS x0 hes
  rw [hel] at hl
  have hc := edl_call (R := R_routes_for) (E := E0) (eds_cons x0 (eds_cons (ed_var (i := 1) rfl h1) (eds_cons (ed_i (ev_var (i := 2) (v := .int p) rfl)) (eds_cons (ed_i (ev_var (i := 3) (v := .int q) rfl)) (eds_cons (ed_i (ev_var (i := 4) (v := .int am) rfl)) (eds_cons (ed_i hl) eds_nil)))))) ⟨n, N, sh, S, p, q, am, rfl, hn, hN, hsh, hS, rfl⟩
  refine q_dl (K := K) hc fun l us H1 hl1 ex1 hl2 d2 => ?_
  have vf : EvD K (tVar 5) [some v0, some v1, some (.int p), some (.int q), some (.int am), some (.ref l)] H1 (.list ((goodsM N S p q am).map rowD)) := ed_at rfl hl2 d2
  refine q_when (b := (goodsM N S p q am).isEmpty) (et_is (et_T (ev_eqD vf (ed_lst eds_nil (le5 rfl)) (rows_shaped _) (rows_shaped []))) (eqv_nil _ _)) (fun z H2 e2 => ?_) (fun z H2 e2 => ?_)
  · rcases hh with ⟨r, more, hg, _⟩ | ⟨_, h⟩
    · rw [hg] at z; cases z
    · exact h H2 (ex1.trans e2)
  · rcases hh with ⟨r, more, hg, k⟩ | ⟨hg, _⟩
    · refine s_rq (EvD.mono (ed_ixL vf ev_c (d := rowD r) ?_) e2) k (ex1.trans e2)
      rw [hg]
      exact at0
    · rw [hg] at z; cases z
def WdIn (ds : List PyData) (N : List Ch) (S : List (Int × Int)) (p q : Int) : Prop := ∃ n sh, ds = [n, sh, .int p, .int q] ∧ NetL n N ∧ N.length ≤ 6 ∧ ShL sh S ∧ S.length = N.length
def widesM (N : List Ch) (S : List (Int × Int)) (p q : Int) : List (List Int) := (routesM N p q N.length).filter fun r => decide (mostM N S p r = maxL ((routesM N p q N.length).map (mostM N S p)))
def R_wd (ds : List PyData) (d : PyData) : Prop := ∃ N S p q r more, WdIn ds N S p q ∧ routesM N p q N.length ≠ [] ∧ widesM N S p q = r :: more ∧ d = rowD r
def Rx_wd (ds : List PyData) : Prop := ∃ N S p q, WdIn ds N S p q ∧ routesM N p q N.length = []
theorem d_widest (B : Bt mg) (A : At K mg "widest" s_widest ["net", "sheets", "payer", "payee"]) (c_routes : Dfn P w K mg base "routes" ["net", "payer", "payee", "most"] CX0 5 (spL K R_routes)) (c_most_over : Dfn P w K mg base "most_over" ["net", "sheets", "payer", "route"] CX0 6 (spF K R_most)) (e_CanNot : ErrC K mg "CanNot" CN) :
    Dfn P w K mg base "widest" ["net", "sheets", "payer", "payee"] (L2.CX P w) 7 (spE K CN R_wd Rx_wd) := by
  refine at_okX A sc_widest (fun ds d h => by obtain ⟨N, S, p, q, r, more, ⟨n, sh, rfl, _⟩, _⟩ := h; rfl) (fun ds h => by obtain ⟨N, S, p, q, ⟨n, sh, rfl, _⟩, _⟩ := h; rfl)
    (fun f cdv A outer s H0 E hr => ⟨_, (pss_cons (ps_set (i := 4) sc_widest.nd rfl (Or.inl rfl) (pe_fn c_routes hr (by omega) (by rfl) (pa_cons (pv 0) (pa_cons (pv 2) (pa_cons (pv 3) (pa_cons (pe_callB (r := rLenS K) call_len_seq (by rfl) B.len PySem.boot_len (pa_cons (pv 0) pa_nil)) pa_nil)))))) (pss_cons (ps_if (pt_cmpR (r := rEqD K) (op_eqD (hu_of hr)) (pv 4) (pe_lst pa_nil) (nomark _)) (pss_one (ps_raise rfl (takes_of rfl rfl rfl rfl) (pmk_own0 PySem.F.excBase_ValueError e_CanNot.xC e_CanNot.gC e_CanNot.kC (raises_own e_CanNot.bC e_CanNot.tC) (by rfl)))) pss_nil) (pss_cons (ps_set (i := 5) sc_widest.nd rfl (Or.inr rfl) (pe_callB (r := rMax K) (cr_max rfl) (by rfl) B.max (by decide +kernel) (pa_cons (pe_lc (own := [("row", 6)]) (g := gName 6) rfl sc_widest.nd (pi_any (pv 4)) (blkOk_by (own := [("row", 6)]) (N := ["net", "sheets", "payer", "payee", "found", "most", "row"]) (sc := defScope s_widest) (by decide +kernel)) (fun _ _ _ _ _ => (pg_name (i := 6) sc_widest.nd rfl (Or.inl rfl))) (fun _ _ _ _ _ => pts_nil) (fun _ _ _ _ _ => (pe_fn c_most_over hr (by omega) (by rfl) (pa_cons (pv 0) (pa_cons (pv 1) (pa_cons (pv 2) (pa_cons (pv 6) pa_nil))))))) pa_nil))) (pss_one (ps_ret (pe_ix (r := rIx K) ix_seq (pe_lc (own := [("row", 6)]) (g := gName 6) rfl sc_widest.nd (pi_any (pv 4)) (blkOk_by (own := [("row", 6)]) (N := ["net", "sheets", "payer", "payee", "found", "most", "row"]) (sc := defScope s_widest) (by decide +kernel)) (fun _ _ _ _ _ => (pg_name (i := 6) sc_widest.nd rfl (Or.inl rfl))) (fun _ _ _ _ _ => (pts_one (pt_cmpR op_eq (pe_fn c_most_over hr (by omega) (by rfl) (pa_cons (pv 0) (pa_cons (pv 1) (pa_cons (pv 2) (pa_cons (pv 6) pa_nil))))) (pv 5) (nomark _)))) (fun _ _ _ _ _ => (pv 6))) pe_int (fun _ _ => rfl))))))), fun vs H ds Q hv h => ?_⟩)
  obtain ⟨N, S, p, q, hin, hh⟩ : ∃ N S p q, WdIn ds N S p q ∧ ((∃ r more, routesM N p q N.length ≠ [] ∧ widesM N S p q = r :: more ∧ ∀ v H', Ex H H' → Dp K H' v (rowD r) → Q v H') ∨ (routesM N p q N.length = [] ∧ ∀ H', Ex H H' → E (.ref CN) none H')) := by
    rcases h with ⟨d, ⟨N, S, p, q, r, more, hin, hne, hg, rfl⟩, k⟩ | ⟨⟨N, S, p, q, hin, hg⟩, k⟩
    · exact ⟨N, S, p, q, hin, .inl ⟨r, more, hne, hg, k⟩⟩
    · exact ⟨N, S, p, q, hin, .inr ⟨hg, k⟩⟩
  obtain ⟨n, sh, rfl, hn, hN, hsh, hS⟩ := hin
  obtain ⟨v0, v1, v2, v3, rfl, h0, h1, h2, h3⟩ := dpA4 hv
  have e2 := dp_vint h2
  have e3 := dp_vint h3
  subst e2 e3
  obtain ⟨es, hes, hel⟩ := hn.sq
  have x0 : EvD K (tVar 0) [some v0, some v1, some (.int p), some (.int q), none, none, none] H n := ed_var rfl h0
  have hl := ev_lenS x0 hes
  rw [hel] at hl
  have hc := edl_call (R := R_routes) (E := E0) (eds_cons x0 (eds_cons (ed_i (ev_var (i := 2) (v := .int p) rfl)) (eds_cons (ed_i (ev_var (i := 3) (v := .int q) rfl)) (eds_cons (ed_i hl) eds_nil)))) ⟨n, N, p, q, rfl, hn, hN, rfl⟩
  have hrl := routes_le hN p q
  refine q_dl (K := K) hc fun l us H1 hl1 ex1 hl2 d2 => ?_
  have vf : EvD K (tVar 4) [some v0, some v1, some (.int p), some (.int q), some (.ref l), none, none] H1 (.list ((routesM N p q N.length).map rowD)) := ed_at rfl hl2 d2
  refine q_when (b := (routesM N p q N.length).isEmpty) (et_is (et_T (ev_eqD vf (ed_lst eds_nil (le5 rfl)) (rows_shaped _) (rows_shaped []))) (eqv_nil _ _)) (fun z H2 e2 => ?_) (fun z H2 e2 => ?_)
  · rcases hh with ⟨r, more, hne, _⟩ | ⟨_, h⟩
    · exact absurd (List.isEmpty_iff.mp z) hne
    · exact h H2 (ex1.trans e2)
  · rcases hh with ⟨r, more, hne, hg, k⟩ | ⟨hg, _⟩
    · have E2 := ex1.trans e2
      have one : ∀ (c5 : Option V) (row : List Int), row ∈ routesM N p q N.length → ∀ x H3, Ex H2 H3 → Dp K H3 x (rowD row) → Ev (tCall (spF K R_most) [] E0 (tCons (tVar 0) (tCons (tVar 1) (tCons (tVar 2) (tCons (tVar 6) tNil))))) [some v0, some v1, some (.int p), some (.int q), some (.ref l), c5, some x] H3 (.int (mostM N S p row)) := fun c5 row hrow x H3 e3 hx => by
        obtain ⟨hll, fr, hf, _⟩ := routes_row hrow
        exact ev_i (ed_call (R := R_most) (E := E0) (eds_cons (ed_var (i := 0) rfl (dpe h0 (E2.trans e3))) (eds_cons (ed_var (i := 1) rfl (dpe h1 (E2.trans e3))) (eds_cons (ed_i (ev_var (i := 2) (v := .int p) rfl)) (eds_cons (ed_var (i := 6) rfl hx) eds_nil)))) ⟨n, N, sh, S, p, _, row, fr, rfl, hn, by omega, hsh, hS, RowL.self (by omega), hf, rfl⟩)
      have m1 := edl_map (xs := routesM N p q N.length) (f := rowD) (g := fun row => .int (mostM N S p row)) (te := tCall (spF K R_most) [] E0 (tCons (tVar 0) (tCons (tVar 1) (tCons (tVar 2) (tCons (tVar 6) tNil))))) (j := 6) (vs := [6]) (ei_L (vf.mono e2)) (by omega) (fun _ => rfl) fun row hrow x H3 e3 hx => ⟨ed_i (one none row hrow x H3 e3 hx), rfl⟩
      rw [show (fun row => PyData.int (mostM N S p row)) = PyData.int ∘ mostM N S p from rfl, ← List.map_map] at m1
      have hmx := maxL_is ((routesM N p q N.length).map (mostM N S p)) (fun z => hne (List.map_eq_nil_iff.mp z))
      refine q_d (K := K) (ed_i (ev_max (EvDL.toD m1) hmx)) fun mv H3 e3 hm => ?_
      have em := dp_vint hm
      subst em
      have vf3 : EvD K (tVar 4) [some v0, some v1, some (.int p), some (.int q), some (.ref l), some (.int (maxL ((routesM N p q N.length).map (mostM N S p)))), none] H3 (.list ((routesM N p q N.length).map rowD)) := ed_at rfl (e3 _ _ (e2 _ _ hl2)) (dpeA d2 (e2.trans e3))
      have m2 := edl_lc1 (xs := routesM N p q N.length) (f := rowD) (o := fun row => if decide (mostM N S p row = maxL ((routesM N p q N.length).map (mostM N S p))) then some (rowD row) else none) (t := tTest (tOp rEq (tCall (spF K R_most) [] E0 (tCons (tVar 0) (tCons (tVar 1) (tCons (tVar 2) (tCons (tVar 6) tNil))))) (tVar 5))) (te := tVar 6) (j := 6) (vs := [6]) (ei_L vf3) (by omega) (fun _ => rfl) fun row hrow x H4 e4 hx => ⟨et_is (et_T (ev_op (one _ row hrow x H4 (e3.trans e4) hx) (ev_var (i := 5) rfl) (rv_eq rfl))) (by
        rw [dec_ii]
        cases decide (mostM N S p row = maxL ((routesM N p q N.length).map (mostM N S p))) <;> rfl), fun d' ed => by
        have e2 : d' = rowD row := by
          split at ed
          · exact (Option.some.inj ed).symm
          · cases ed
        subst e2
        exact ⟨ed_var rfl hx, rowD_flat _⟩⟩
      have ee : (routesM N p q N.length).filterMap (fun row => if decide (mostM N S p row = maxL ((routesM N p q N.length).map (mostM N S p))) then some (rowD row) else none) = (widesM N S p q).map rowD := by
        exact fm_if rowD (fun r => decide (mostM N S p r = maxL ((routesM N p q N.length).map (mostM N S p)))) _
      rw [ee, hg] at m2
      exact s_rq (ed_ixL (EvDL.toD m2) ev_c at0) k (E2.trans e3)
    · rw [hg] at z; cases z
end
end KT

set_option Elab.async false
set_option linter.all false
set_option autoImplicit false
set_option maxRecDepth 100000
set_option maxHeartbeats 4000000
/-! Kp: the law's own small defs: take, of, box, cells. -/
namespace KT
open PySem PySem.Spec PyProof.Rows L2 Evl KD KM
/-- an urn: three ints, the third small -/
def Urn (u : Addr) (n : Nat) (H : Hp) : Prop := ∃ a b c : Int, H u = some (.lst [.int a, .int b, .int c]) ∧ 0 ≤ c ∧ c ≤ n
theorem Urn.ex {u : Addr} {n : Nat} {H H' : Hp} (h : Urn u n H) (e : Ex H H') : Urn u n H' := by
  obtain ⟨a, b, c, h1, h2⟩ := h
  exact ⟨a, b, c, e _ _ h1, h2⟩
theorem Urn.lst {u : Addr} {n : Nat} {H : Hp} (h : Urn u n H) : ∃ xs, H u = some (.lst xs) := by
  obtain ⟨a, b, c, h1, _⟩ := h
  exact ⟨_, h1⟩
theorem Urn.tx {u : Addr} {n : Nat} {H H' : Hp} (h : Urn u n H) (e : ExB u H H') : Tx H H' := by
  obtain ⟨xs, h1⟩ := h.lst
  exact exb_tx e h1
theorem Urn.mut {u p : Addr} {n : Nat} {H : Hp} {o : HO} (h : Urn u n H) (ne : u ≠ p) : Urn u n (upd H p o) := by
  obtain ⟨a, b, c, h1, h2⟩ := h
  exact ⟨a, b, c, by rw [upd_ne ne]; exact h1, h2⟩
def rInt1 : List V → Hp → VK → Prop := fun xs H Q => (∃ i, xs = [.int i] ∧ Q (.int i) H) ∨ ∃ k, xs = [.bl k] ∧ Q (.int (if k then 1 else 0)) H
def rAbs : List V → Hp → VK → Prop := fun xs H Q => ∃ i, xs = [.int i] ∧ Q (.int (if i < 0 then -i else i)) H
section
variable {K : PySem.W.Frag} {σ : L2.St} {H H' : Hp} {ta tb tc te : TE} {d : PyData} {ds : List PyData} {v : V} {D : Ends} {tu tz : TS} {u : Addr} {n n' n'' : Nat} {φ ψ : Int → Prop} {r : R2}
theorem ev_int {i : Int} (h : Ev te σ H (.int i)) : Ev (tCB rInt1 (tCons te tNil)) σ H (.int i) := fun H1 e Q q => h H1 e _ fun H2 e2 => .inl ⟨i, rfl, q H2 e2⟩
theorem ev_intB {b : Bool} (h : Ev te σ H (.bl b)) : Ev (tCB rInt1 (tCons te tNil)) σ H (.int (if b then 1 else 0)) := fun H1 e Q q => h H1 e _ fun H2 e2 => .inr ⟨b, rfl, q H2 e2⟩
theorem ev_abs {i : Int} (h : Ev te σ H (.int i)) : Ev (tCB rAbs (tCons te tNil)) σ H (.int (if i < 0 then -i else i)) := fun H1 e Q q => h H1 e _ fun H2 e2 => ⟨i, rfl, q H2 e2⟩
/-- a value that the urn's changes do not touch -/
def EvP (te : TE) (σ : L2.St) (H : Hp) (u : Addr) (v : V) : Prop := ∀ H1, ExB u H H1 → Ev te σ H1 v
theorem EvP.mono (h : EvP te σ H u v) (e : ExB u H H') : EvP te σ H' u v := fun H1 e1 => h H1 (e.trans e1)
theorem ep_c : EvP (tC v) σ H u v := fun _ _ => ev_c
theorem ep_var {i : Nat} (h : σ[i]? = some (some v)) : EvP (tVar i) σ H u v := fun _ _ => ev_var h
theorem ep_op {x y z : V} (ha : EvP ta σ H u x) (hb : EvP tb σ H u y) (hr : ∀ H, RV r x y H z) : EvP (tOp r ta tb) σ H u z := fun H1 e => ev_op (ha H1 e) (hb H1 e) (hr H1)
/-- an int that takes from the urn -/
def EvM (te : TE) (σ : L2.St) (H : Hp) (u : Addr) (n n' : Nat) (φ : Int → Prop) : Prop := ∀ H1, ExB u H H1 → Urn u n H1 → ∀ Q : VK, (∀ i H2, φ i → ExB u H1 H2 → Urn u n' H2 → Q (.int i) H2) → te σ H1 Q
theorem EvM.mono (h : EvM te σ H u n n' φ) (e : ExB u H H') : EvM te σ H' u n n' φ := fun H1 e1 => h H1 (e.trans e1)
theorem em_p {i : Int} (h : EvP te σ H u (.int i)) : EvM te σ H u n n fun x => x = i := fun H1 e hu Q q => h H1 e H1 (Ex.refl _) Q fun H2 e2 => q i H2 rfl (exb_ex e2) (hu.ex e2)
theorem em_op {g : Int → Int → Int} {χ : Int → Prop} (ha : EvM ta σ H u n n' φ) (hb : EvM tb σ H u n' n'' ψ) (hr : ∀ i j H, φ i → ψ j → RV r (.int i) (.int j) H (.int (g i j)) ∧ χ (g i j)) : EvM (tOp r ta tb) σ H u n n'' χ := fun H1 e hu Q q =>
  ha H1 e hu _ fun i H2 pi e2 hu2 => hb H2 (e.trans e2) hu2 _ fun j H3 pj e3 hu3 => (hr i j H3 pi pj).1 H3 (Ex.refl _) Q fun H4 e4 => q _ H4 (hr i j H3 pi pj).2 ((e2.trans e3).trans (exb_ex e4)) (hu3.ex e4)
theorem em_int (h : EvM te σ H u n n' φ) : EvM (tCB rInt1 (tCons te tNil)) σ H u n n' φ := fun H1 e hu Q q => h H1 e hu _ fun i H2 pi e2 hu2 => .inl ⟨i, rfl, q i H2 pi e2 hu2⟩
def spTake : Sp := fun vs H Q _ => ∃ (u : Addr) (n : Nat) (low : Int), vs = [.ref u, .int low] ∧ Urn u n H ∧ n ≤ 100000 ∧ 1 ≤ low ∧ low ≤ 100000 ∧ ∀ i H', 0 ≤ i ∧ i < low → ExB u H H' → Urn u (n + 1) H' → Q (.int i) H'
theorem em_take {i : Nat} {low : Int} (hσ : σ[i]? = some (some (.ref u))) (hl : EvP te σ H u (.int low)) (hn : n ≤ 100000) (h1 : 1 ≤ low ∧ low ≤ 100000) : EvM (tCall spTake [] E0 (tCons (tVar i) (tCons te tNil))) σ H u n (n + 1) fun x => 0 ≤ x ∧ x < low := fun H1 e hu Q q =>
  ⟨_, hσ, hl H1 e H1 (Ex.refl _) _ fun H2 e2 => ⟨u, n, low, rfl, hu.ex e2, hn, h1.1, h1.2, fun x H3 hx e3 hu3 => q x H3 hx ((exb_ex e2).trans e3) hu3⟩⟩
/-- .. whose bound is itself drawn or read -/
theorem em_takeM {i : Nat} {χ : Int → Prop} (hσ : σ[i]? = some (some (.ref u))) (hl : EvM te σ H u n n' φ) (hn : n' ≤ 100000) (h1 : ∀ low, φ low → 1 ≤ low ∧ low ≤ 100000) (h2 : ∀ low x, φ low → 0 ≤ x → x < low → χ x) : EvM (tCall spTake [] E0 (tCons (tVar i) (tCons te tNil))) σ H u n (n' + 1) χ := fun H1 e hu Q q =>
  ⟨_, hσ, hl H1 e hu _ fun low H2 pl e2 hu2 => ⟨u, n', low, rfl, hu2, hn, (h1 low pl).1, (h1 low pl).2, fun x H3 hx e3 hu3 => q x H3 (h2 low x pl hx.1 hx.2) (e2.trans e3) hu3⟩⟩
theorem q_m {i : Nat} (h : EvM te σ H u n n' φ) (hu : Urn u n H) (k : ∀ x H1, φ x → ExB u H H1 → Urn u n' H1 → tz D (σ.set i (some (.int x))) H1) : tSeq (tAsg te (gName i)) tz D σ H := h H (ExB.refl _ _) hu _ k
theorem q_setL0 {l : Addr} {xs : List V} {j : Nat} (hl : H l = some (.lst xs)) (h : Ev te σ H v) (ho : Ev ta σ H (.ref l)) (hi : Ev tb σ H (.int (j : Int))) (hj : j < xs.length) (k : ∀ H1, Ex H H1 → tz D σ (upd H1 l (.lst (xs.set j v)))) :
    tSeq (tAsg te (gSub ta tb rSetL)) tz D σ H := Evl.q_setL hl h ho hi hj k
end
section
variable {P : Program} {w : World} {K : PySem.W.Frag} {mg : Str → Option Value} {base : Heap}
theorem at_ok0 {x : Str} {st : Stmt} {N ps : List Str} {k : Nat} {sp : Sp} (A : At K mg x st ps) (S : FnScope N ps (defScope st)) (hl : ∀ vs H Q E, sp vs H Q E → vs.length = ps.length)
    (hb : ∀ (f : Addr) (cdv : Value) (A : Around) (outer : List Env) (s : Shared) (H0 : Hp) (E : XK), Room k (A.deeper (envOfC x (defScope st) s.heap.objs.size f cdv)) →
      ∃ t, PSs (cxOf CX0 P w K mg base N x (defScope st) f cdv A outer s H0 E).nox (defBody st) t ∧ ∀ (vs : List V) (H : Hp) (Q : VK), sp vs H Q E → t { nx := fun _ H' => Q .non H', rt := Q } (start N vs) H) :
    Dfn P w K mg base x ps CX0 (k + 1) sp := by
  refine A.fin fun f fd F => F.ok S hl (fun cdv A outer s H vs Q E hr h => ?_)
  obtain ⟨t, ht, hx⟩ := hb f cdv A outer s H E hr
  exact ⟨t, ht, hx vs H Q h⟩
abbrev TakeOk (P : Program) (w : World) (K : PySem.W.Frag) (mg : Str → Option Value) (base : Heap) : Prop := Dfn P w K mg base "_law_take" ["_law_urn", "_law_low_so"] CX0 1 spTake
theorem fmod_in {a m : Int} (hm : 1 ≤ m) : 0 ≤ a.fmod m ∧ a.fmod m < m := by
  rw [Int.fmod_eq_emod_of_nonneg a (by omega)]
  exact ⟨Int.emod_nonneg a (by omega), Int.emod_lt_of_pos a (by omega)⟩
theorem d_take (B : Bt mg) (A : At K mg "_law_take" s__law_take ["_law_urn", "_law_low_so"]) : TakeOk P w K mg base := by
  refine at_ok0 A sc__law_take (fun vs H Q E h => by obtain ⟨u, n, low, rfl, _⟩ := h; rfl) (fun f cdv A outer s H0 E hr => ⟨_, (pss_cons (ps_if (pt_cmpR op_gt (pe_ix (r := rIx K) ix_seq (pv 0) pe_int (fun _ _ => rfl)) pe_int (nomark _)) (pss_cons (ps_set (i := 2) sc__law_take.nd rfl (Or.inl rfl) (pe_op op_modN (pe_callTy call_int1 (by rfl) B.int (by decide +kernel) (pa_cons (pe_ix (r := rIx K) ix_seq (pv 0) pe_int (fun _ _ => rfl)) pa_nil)) (pv 1))) (pss_cons (ps_asg (pe_op op_fdivN (pe_ix (r := rIx K) ix_seq (pv 0) pe_int (fun _ _ => rfl)) (pv 1)) (pg_sub (pv 0) pe_int set_list)) (pss_one (ps_ret (pv 2))))) pss_nil) (pss_cons (ps_asg (pe_op op_add (pe_ix (r := rIx K) ix_seq (pv 0) pe_int (fun _ _ => rfl)) pe_int) (pg_sub (pv 0) pe_int set_list)) (pss_cons (ps_set (i := 3) sc__law_take.nd rfl (Or.inl rfl) (pe_op op_modN (pe_callTy call_int1 (by rfl) B.int (by decide +kernel) (pa_cons (pe_op op_mul (pe_op op_add (pe_ix (r := rIx K) ix_seq (pv 0) pe_int (fun _ _ => rfl)) (pe_op op_mul pe_int (pe_ix (r := rIx K) ix_seq (pv 0) pe_int (fun _ _ => rfl)))) (pe_op op_add pe_int (pe_ix (r := rIx K) ix_seq (pv 0) pe_int (fun _ _ => rfl)))) pa_nil)) pe_int)) (pss_cons (ps_set (i := 4) sc__law_take.nd rfl (Or.inl rfl) (pe_op op_add (pe_op op_modN (pe_callTy call_int1 (by rfl) B.int (by decide +kernel) (pa_cons (pv 3) pa_nil)) pe_int) pe_int)) (pss_cons (ps_set (i := 5) sc__law_take.nd rfl (Or.inl rfl) (pe_op op_modN (pe_callTy call_int1 (by rfl) B.int (by decide +kernel) (pa_cons (pe_op op_mul (pe_op op_add (pe_op op_add (pv 3) (pe_ix (r := rIx K) ix_seq (pv 0) pe_int (fun _ _ => rfl))) (pe_op op_fdivN (pe_ix (r := rIx K) ix_seq (pv 0) pe_int (fun _ _ => rfl)) pe_int)) (pv 4)) pa_nil)) pe_int)) (pss_one (ps_ret (pe_op op_modN (pe_callTy call_int1 (by rfl) B.int (by decide +kernel) (pa_cons (pe_op op_fdivN (pe_op op_modN (pe_callTy call_int1 (by rfl) B.int (by decide +kernel) (pa_cons (pe_op op_add (pe_op op_mul (pv 5) pe_int) (pv 3)) pa_nil)) pe_int) pe_int) pa_nil)) (pv 1))))))))), fun vs H Q h => ?_⟩)
  obtain ⟨u, n, low, rfl, ⟨a, b, c, hu, c0, c1⟩, hn, l1, l2, q⟩ := h
  have vu : EvD K (tVar 0) [some (.ref u), some (.int low), none, none, none, none] H (.list ([a, b, c].map .int)) := ed_atI rfl hu
  have ga : Ev (tOp (rIx K) (tVar 0) (tC (.int 0))) [some (.ref u), some (.int low), none, none, none, none] H (.int a) := ev_i (ed_ixL vu ev_c at0)
  refine q_when (et_T (ev_op ga ev_c rv_I0)) (fun z H1 e1 => ?_) (fun z H1 e1 => ?_)
  · refine Evl.q_asg (ev_op (ev_int (ga.mono e1)) (ev_var (v := .int low) rfl) (rv_I (show low ≠ 0 by omega))) fun H2 e2 => ?_
    have hu2 := (e1.trans e2) _ _ hu
    have vu2 : EvD K (tVar 0) [some (.ref u), some (.int low), some (.int (a.fmod low)), none, none, none] H2 (.list ([a, b, c].map .int)) := ed_atI rfl hu2
    refine q_setL0 hu2 (ev_op (ev_i (ed_ixL vu2 (ev_c (v := .int 0)) at0)) (ev_var (v := .int low) rfl) (rv_I ⟨by omega, by omega⟩)) (ev_var rfl) (ev_c (v := .int ((0 : Nat) : Int))) (by show 0 < 3; decide) fun H3 e3 => ?_
    refine s_ret (v := .int (a.fmod low)) (ev_var rfl) fun H4 e4 => q _ H4 (fmod_in l1) ?_ ?_
    · exact ((exb_ex ((e1.trans e2).trans e3)).trans exb_upd).trans (exb_ex e4)
    · exact ⟨a.fdiv low, b, c, e4 _ _ upd_same, c0, by omega⟩
  · have hu1 := e1 _ _ hu
    have vu1 : EvD K (tVar 0) [some (.ref u), some (.int low), none, none, none, none] H1 (.list ([a, b, c].map .int)) := ed_atI rfl hu1
    refine q_setL0 hu1 (ev_op (ev_i (ed_ixL vu1 (ev_c (v := .int 2)) at2)) (ev_c (v := .int 1)) rv_I0) (ev_var rfl) (ev_c (v := .int ((2 : Nat) : Int))) (by show 2 < 3; decide) fun H2 e2 => ?_
    have hu2 : (upd H2 u (.lst ([V.int a, V.int b, V.int c].set 2 (.int (c + 1))))) u = some (.lst ([a, b, c + 1].map V.int)) := upd_same
    have E2 : ExB u H (upd H2 u (.lst ([V.int a, V.int b, V.int c].set 2 (.int (c + 1))))) := (exb_ex (e1.trans e2)).trans exb_upd
    generalize upd H2 u (.lst ([V.int a, V.int b, V.int c].set 2 (.int (c + 1)))) = G at hu2 E2
    have vu2 : EvD K (tVar 0) [some (.ref u), some (.int low), none, none, none, none] G (.list ([a, b, c + 1].map .int)) := ed_atI rfl hu2
    have g1 := ev_i (ed_ixL vu2 (ev_c (v := .int 1)) at1)
    have g2 := ev_i (ed_ixL vu2 (ev_c (v := .int 2)) at2)
    refine Evl.q_asg (v := .int (((b + 48271 * (c + 1)) * (39373 + (c + 1))).fmod 2147483647)) (ev_op (ev_int (ev_op (ev_op g1 (ev_op ev_c g2 (rv_I (.inl ⟨by decide, by decide⟩))) rv_I0) (ev_op ev_c g2 rv_I0) (rv_I (.inr ⟨by omega, by omega⟩)))) ev_c (rv_I (by decide))) fun H3 e3 => ?_
    generalize hon : (((b + 48271 * (c + 1)) * (39373 + (c + 1))).fmod 2147483647) = once
    refine Evl.q_asg (v := .int (once.fmod 40009 + 7)) (ev_op (ev_op (ev_int (ev_var rfl)) ev_c (rv_I (by decide))) ev_c rv_I0) fun H4 e4 => ?_
    have hw := @fmod_in once 40009 (by decide)
    generalize once.fmod 40009 = wide at hw
    have hu4 := (e3.trans e4) _ _ hu2
    have vu4 : EvD K (tVar 0) [some (.ref u), some (.int low), none, some (.int once), some (.int (wide + 7)), none] H4 (.list ([a, b, c + 1].map .int)) := ed_atI rfl hu4
    have k1 := ev_i (ed_ixL vu4 (ev_c (v := .int 1)) at1)
    have k2 := ev_i (ed_ixL vu4 (ev_c (v := .int 2)) at2)
    refine Evl.q_asg (v := .int (((once + (c + 1) + b.fdiv 1000003) * (wide + 7)).fmod 2147483629)) (ev_op (ev_int (ev_op (ev_op (ev_op (ev_var rfl) k2 rv_I0) (ev_op k1 ev_c (rv_I ⟨by decide, by decide⟩)) rv_I0) (ev_var (v := .int (wide + 7)) rfl) (rv_I (.inr ⟨by omega, by omega⟩)))) ev_c (rv_I (by decide))) fun H5 e5 => ?_
    generalize ((once + (c + 1) + b.fdiv 1000003) * (wide + 7)).fmod 2147483629 = twice
    refine s_ret (v := .int ((((twice * 48271 + once).fmod 2147483587).fdiv 64).fmod low)) (ev_op (ev_int (ev_op (ev_op (ev_int (ev_op (ev_op (ev_var rfl) ev_c (rv_I (.inr ⟨by decide, by decide⟩))) (ev_var (v := .int once) rfl) rv_I0)) ev_c (rv_I (by decide))) ev_c (rv_I ⟨by decide, by decide⟩))) (ev_var (v := .int low) rfl) (rv_I (show low ≠ 0 by omega))) fun H6 e6 => q _ H6 (fmod_in l1) ?_ ?_
    · exact E2.trans (exb_ex (((e3.trans e4).trans e5).trans e6))
    · exact ⟨a, b, c + 1, (((e3.trans e4).trans e5).trans e6) _ _ hu2, by omega, by omega⟩

/-! ### of -/
def spOf (K : PySem.W.Frag) : Sp := fun vs H Q _ => ∃ (u : Addr) (n : Nat) (y : V) (ds : List PyData), vs = [.ref u, y] ∧ Urn u n H ∧ n ≤ 100000 ∧ ds ≠ [] ∧ ds.length ≤ 1000 ∧ (∃ p us, y = .ref p ∧ p ≠ u ∧ H p = some (.lst us) ∧ DpAll K H us ds) ∧ flatA ds = true ∧
  ∀ v d H', d ∈ ds → Dp K H' v d → ExB u H H' → Urn u (n + 1) H' → Q v H'
theorem flatA_mem {ds : List PyData} (h : flatA ds = true) : ∀ d ∈ ds, flat d = true := by
  induction ds with
  | nil => intro d hd; cases hd
  | cons e es ih =>
    have z : (flat e && flatA es) = true := h
    obtain ⟨a, b⟩ := Bool.and_eq_true_iff.mp z
    intro d hd
    rcases List.mem_cons.mp hd with e | hd
    · rw [e]; exact a
    · exact ih b d hd
theorem d_of (B : Bt mg) (A : At K mg "_law_of" s__law_of ["_law_urn", "_law_goods_so"]) (c__law_take : TakeOk P w K mg base) : Dfn P w K mg base "_law_of" ["_law_urn", "_law_goods_so"] CX0 2 (spOf K) := by
  refine at_ok0 A sc__law_of (fun vs H Q E h => by obtain ⟨u, n, y, ds, rfl, _⟩ := h; rfl) (fun f cdv A outer s H0 E hr => ⟨_, (pss_one (ps_ret (pe_ix (r := rIx K) ix_seq (pv 1) (pe_fn c__law_take hr (by omega) (by rfl) (pa_cons (pv 0) (pa_cons (pe_callB (r := rLenS K) call_len_seq (by rfl) B.len PySem.boot_len (pa_cons (pv 1) pa_nil)) pa_nil))) (fun _ _ => rfl)))), fun vs H Q h => ?_⟩)
  obtain ⟨u, n, y, ds, rfl, hu, hn, hne, hl, ⟨p, us, rfl, hpu, hp, hd⟩, hf, q⟩ := h
  have hpos := List.length_pos_iff.mpr hne
  have hlen : EvP (tCB (rLenS K) (tCons (tVar 1) tNil)) [some (.ref u), some (.ref p)] H u (.int (ds.length : Nat)) := fun H1 e1 => by
    have z := ev_lenL (K := K) (ed_at (σ := [some (.ref u), some (.ref p)]) (i := 1) rfl (e1 _ _ hpu hp) (dp_txA (hu.tx e1) _ _ hf hd))
    exact z
  refine ⟨_, rfl, (em_take (i := 0) (n := n) rfl hlen hn ⟨by omega, by omega⟩) H (ExB.refl _ _) hu _ fun i H2 hi e2 hu2 => ?_⟩
  obtain ⟨k, rfl⟩ := Int.eq_ofNat_of_zero_le hi.1
  have hk : k < ds.length := by omega
  have hd2 := dp_txA (hu.tx e2) _ _ hf hd
  obtain ⟨v, hv, hdv⟩ := dpA_get hd2 (List.getElem?_eq_getElem hk)
  exact .inl ⟨p, us, k, v, rfl, rfl, sq_of (e2 _ _ hpu hp), atI_nat hv, q v _ H2 (List.getElem_mem hk) hdv e2 hu2⟩

/-! ### cells, box -/
def R_cells (ds : List PyData) (es : List PyData) : Prop := True
def spCells (K : PySem.W.Frag) : Sp := fun vs H Q _ => ∃ (v : V) (ns : List Int), vs = [v, .int 1] ∧ Dp K H v (.list (ns.map .int)) ∧ ns.length ≤ 1000 ∧ ∀ p i H', H p = none → Ex H H' → H' p = some (.lst [.int i]) → Q (.ref p) H'
end
end KT

set_option Elab.async false
set_option linter.all false
set_option autoImplicit false
set_option maxRecDepth 100000
set_option maxHeartbeats 4000000
/-! Kq: cells, box, same. -/
namespace KT
open PySem PySem.Spec PyProof.Rows L2 Evl KD KM
section
variable {K : PySem.W.Frag} {σ : L2.St} {H H' : Hp} {ta tb tc te : TE} {d : PyData} {ds es : List PyData} {v : V}
theorem edl_orT (ha : EvDL K ta σ H ds) (hb : EvDL K tb σ H es) : EvDL K (tOrT K ta tb) σ H (if ds.isEmpty then es else ds) := fun H1 e Q q =>
  ha H1 e _ fun p vs H2 hp e2 h2 hd => ⟨!vs.isEmpty, .inl ⟨vs, sq_of h2, rfl⟩, by
    cases hd with
    | nil =>
      show tb σ H2 Q
      exact hb H2 (e.trans e2) Q fun p' us H3 hp' e3 h3 hd3 => q p' us H3 (fresh_back e2 hp') (e2.trans e3) h3 hd3
    | cons a t =>
      show Q (.ref p) H2
      exact q p _ H2 hp e2 h2 (.cons a t)⟩
theorem dec_self {x : V} : decide (x = x) = true := decide_eq_true rfl
end
theorem zip_self : ∀ es : List PyData, List.zipWith (fun d e => PyData.tuple [d, e]) es es = es.map fun a => .tuple [a, a]
  | [] => rfl
  | e :: es => congrArg (_ :: ·) (zip_self es)
section
variable {P : Program} {w : World} {K : PySem.W.Frag} {mg : Str → Option Value} {base : Heap}
theorem d_cells (B : Bt mg) (A : At K mg "_law_cells" s__law_cells ["_law_script", "_law_top_so"]) : Dfn P w K mg base "_law_cells" ["_law_script", "_law_top_so"] CX0 1 (spCells K) := by
  refine at_ok0 A sc__law_cells (fun vs H Q E h => by obtain ⟨v, ns, rfl, _⟩ := h; rfl) (fun f cdv A outer s H0 E hr => ⟨_, (pss_cons (ps_set (i := 2) sc__law_cells.nd rfl (Or.inl rfl) (pe_orT (pe_callTy (r := rListS K) call_list_of (by rfl) B.list (by decide +kernel) (pa_cons (pe_slice (r := rSlL K) sl_list (pv 0) po_none (po_some (pv 1))) pa_nil)) (pe_one (pe_lst (pa_cons pe_int pa_nil))))) (pss_cons (ps_for PassesOwn.never rfl (pi_e (by rfl) B.enumerate (pa_cons (pe_slice (r := rSlL K) sl_list (pv 0) (po_some (pv 1)) (po_some pe_int)) pa_nil)) (pg_tup (by rfl) (pgs_cons (pg_name (i := 3) sc__law_cells.nd rfl (Or.inl rfl)) (pgs_cons (pg_name (i := 4) sc__law_cells.nd rfl (Or.inl rfl)) pgs_nil))) (pss_cons (ps_set (i := 5) sc__law_cells.nd rfl (Or.inl rfl) (pe_op op_modN (pe_callTy call_int1 (by rfl) B.int (by decide +kernel) (pa_cons (pv 3) pa_nil)) (pv 1))) (pss_one (ps_asg (pe_op op_add (pe_ix (r := rIx K) ix_seq (pv 2) (pv 5) (fun _ _ => rfl)) (pe_op op_mul (pv 4) (pe_op op_add (pv 3) pe_int))) (pg_sub (pv 2) (pv 5) set_list))))) (pss_one (ps_ret (pv 2))))), fun vs H Q h => ?_⟩)
  obtain ⟨v, ns, rfl, hx, hl, q⟩ := h
  have vs0 : EvD K (tVar 0) [some v, some (.int 1), none, none, none, none] H (.list (ns.map .int)) := ed_var rfl hx
  have h1 : ∃ c0 : Int, EvDL K (tOrT K (tCB (rListS K) (tCons (tSl (rSlL K) (tVar 0) tNoPart (tPart (tVar 1))) tNil)) (tLst (tCons (tC (.int 0)) tNil))) [some v, some (.int 1), none, none, none, none] H [.int c0] := by
    have z := edl_orT (edl_listL (EvDL.toD (edl_sl vs0 eo_none (eo_some (te := tVar 1) (i := 1) (ev_var rfl))))) (edl_lst (eds_cons (ed_cint (i := 0)) eds_nil) (le5 rfl))
    cases ns with
    | nil => exact ⟨0, z⟩
    | cons x l =>
      refine ⟨x, ?_⟩
      have e1 : HT.sIx ((x :: l).map PyData.int).length ((x :: l).map PyData.int).length (some 1) = 1 := by
        rw [show (some (1 : Int)) = some ((1 : Nat) : Int) from rfl, HT.sIx_nat, List.length_map, List.length_cons]
        omega
      rw [e1] at z
      exact z
  obtain ⟨c0, h1⟩ := h1
  refine q_dl h1 fun p us H1 hp e1 hp1 d1 => ?_
  have eu : us = [V.int c0] := dpA_ints (ns := [c0]) d1
  subst eu
  have vs1 : EvD K (tVar 0) [some v, some (.int 1), some (.ref p), none, none, none] H1 (.list (ns.map .int)) := ed_var rfl (dpe hx e1)
  refine (edl_sl vs1 (eo_some (te := tVar 1) (i := 1) (ev_var rfl)) (eo_some (i := 63) ev_c)) H1 (Ex.refl _) _ fun a xs H2 ha e2 h2 d2 => ?_
  have nap : a ≠ p := fun z => by rw [z, hp1] at ha; cases ha
  rw [← List.map_drop, ← List.map_take] at d2
  have hms : ((ns.drop (HT.sIx (ns.map PyData.int).length 0 (some 1))).take (HT.sIx (ns.map PyData.int).length (ns.map PyData.int).length (some 63) - HT.sIx (ns.map PyData.int).length 0 (some 1))).length ≤ 1000 := by
    rw [List.length_take, List.length_drop]
    omega
  generalize (ns.drop _).take _ = ms at d2 hms
  have ex : xs = ms.map V.int := dpA_ints d2
  subst ex
  refine ⟨a, true, _, rfl, sq_of h2, loop_by (S := ExB p H2) (itp_e (xs := ms.map V.int) (ds := ms.map .int) fun H3 e3 => ⟨sq_of (e3 _ _ nap h2), ints_dpA ms⟩)
    (fun i σ H' => (∃ x3 x4 x5, σ = [some v, some (.int 1), some (.ref p), x3, x4, x5]) ∧ ExB p H2 H' ∧ ∃ c : Int, H' p = some (.lst [.int c])) ⟨⟨_, _, _, rfl⟩, ExB.refl _ _, c0, e2 _ _ hp1⟩ (fun i σ H' hP => hP.2.1) (fun i d σ H3 x H4 hd hP e4 hdx => ?_) fun σ H3 hP => ?_⟩
  · obtain ⟨⟨x3, x4, x5, rfl⟩, e3, c, hc⟩ := hP
    rw [List.getElem?_mapIdx, List.getElem?_map] at hd
    cases qm : ms[i]? with
    | none => rw [qm] at hd; cases hd
    | some m =>
      rw [qm] at hd
      cases hd
      refine g_pair hdx fun y1 y2 hy1 hy2 => ?_
      have ey1 := dp_vint hy1
      have ey2 := dp_vint hy2
      subst ey1 ey2
      have e0 : Int.fmod ((i : Nat) : Int) 1 = 0 := by
        have := @fmod_in ((i : Nat) : Int) 1 (by decide)
        omega
      refine Evl.q_asg (v := .int 0) (ev_is (ev_op (ev_int (ev_var (i := 3) (v := .int (i : Nat)) rfl)) (ev_var (i := 1) (v := .int 1) rfl) (rv_I (by decide))) (by rw [e0])) fun H5 e5 => ?_
      have hc5 := (e4.trans e5) _ _ hc
      have vc : EvD K (tVar 2) [some v, some (.int 1), some (.ref p), some (.int (i : Nat)), some (.int m), some (.int 0)] H5 (.list ([c].map .int)) := ed_atI rfl hc5
      have hlt : (i : Int) + 2 < 2 ^ 64 := by
        have h3 := (List.getElem?_eq_some_iff.mp qm).1
        omega
      refine s_setL hc5 (ev_op (ev_i (ed_ixL vc (ev_var (v := .int 0) rfl) at0)) (ev_op (ev_var (v := .int m) rfl) (ev_op (ev_var (v := .int (i : Nat)) rfl) ev_c rv_I0) (rv_I (.inr ⟨by omega, hlt⟩))) rv_I0) (ev_var rfl) (ev_var (v := .int ((0 : Nat) : Int)) rfl) (by show 0 < 1; decide) fun H6 e6 => ?_
      exact ⟨⟨_, _, _, rfl⟩, ((e3.trans (exb_ex ((e4.trans e5).trans e6))).trans exb_upd), _, upd_same⟩
  · obtain ⟨⟨x3, x4, x5, rfl⟩, e3, c, hc⟩ := hP
    exact ⟨_, rfl, q p c H3 hp (e3.ex (e1.trans e2) hp) hc⟩
end
end KT

set_option Elab.async false
set_option linter.all false
set_option autoImplicit false
set_option maxRecDepth 100000
set_option maxHeartbeats 4000000
/-! Kr: box, same, lists, by. -/
namespace KT
open PySem PySem.Spec PyProof.Rows L2 Evl KD KM
section
variable {P : Program} {w : World} {K : PySem.W.Frag} {mg : Str → Option Value} {base : Heap}
theorem b01 (b : Bool) : (-(2 ^ 64) : Int) < (if b = true then (1 : Int) else 0) ∧ (if b = true then (1 : Int) else 0) < 2 ^ 64 := by cases b <;> exact ⟨by decide, by decide⟩
def spBox (K : PySem.W.Frag) : Sp := fun vs H Q _ => ∃ (v : V) (i : Int), vs = [v, .int 0] ∧ Dp K H v (.list [.int i]) ∧ ∀ p H', H p = none → Ex H H' → Urn p 0 H' → Q (.ref p) H'
theorem d_box (B : Bt mg) (A : At K mg "_law_box" s__law_box ["_law_script", "_law_k"]) : Dfn P w K mg base "_law_box" ["_law_script", "_law_k"] CX0 1 (spBox K) := by
  refine at_ok0 A sc__law_box (fun vs H Q E h => by obtain ⟨v, i, rfl, _⟩ := h; rfl) (fun f cdv A outer s H0 E hr => ⟨_, (pss_cons (ps_set (i := 2) sc__law_box.nd rfl (Or.inl rfl) (pe_ifExp (pt_cmpR op_lt (pv 1) (pe_callB (r := rLenS K) call_len_seq (by rfl) B.len PySem.boot_len (pa_cons (pv 0) pa_nil)) (nomark _)) (pe_ix (r := rIx K) ix_seq (pv 0) (pv 1) (fun _ _ => rfl)) pe_int)) (pss_one (ps_ret (pe_lst (pa_cons (pe_op op_mul (pe_callB call_abs (by rfl) B.abs (by decide +kernel) (pa_cons (pv 2) pa_nil)) (pe_callTy call_int1 (by rfl) B.int (by decide +kernel) (pa_cons (pe_cmpR op_ge (pe_callB call_abs (by rfl) B.abs (by decide +kernel) (pa_cons (pv 2) pa_nil)) (pe_op op_pow pe_int pe_int) (nomark _)) pa_nil))) (pa_cons (pe_op op_add (pe_op op_add (pe_op op_modN (pe_callTy call_int1 (by rfl) B.int (by decide +kernel) (pa_cons (pv 2) pa_nil)) pe_int) (pe_op op_mul pe_int (pv 1))) pe_int) (pa_cons pe_int pa_nil))))))), fun vs H Q h => ?_⟩)
  obtain ⟨v, i, rfl, hx, q⟩ := h
  have v0 : EvD K (tVar 0) [some v, some (.int 0), none] H (.list [.int i]) := ed_var rfl hx
  refine q_d (K := K) (d := .int i) (ed_if (b := true) (et_T (ev_op (ev_var rfl) (ev_lenL v0) rv_I0)) (fun _ => ed_ixL v0 (ev_var rfl) at0) (fun z => Bool.noConfusion z)) fun c H1 e1 hc => ?_
  have ec := dp_vint hc
  subst ec
  have va : Ev (tCB rAbs (tCons (tVar 2) tNil)) [some v, some (.int 0), some (.int i)] H1 (.int (if i < 0 then -i else i)) := ev_abs (ev_var rfl)
  have g0 := ev_op (r := rI CMul fun i j => .int (i * j)) va (ev_intB (ev_op va (ev_op (r := rI CPow fun i j => .int (i ^ j.toNat)) (ev_c (v := .int 10)) (ev_c (v := .int 18)) (rv_I ⟨by decide, by decide, by decide⟩)) (rv_I0 (g := fun i j => .bl (decide (j ≤ i)))))) (rv_I (.inr (b01 _)))
  have g1 := ev_op (r := rI0 fun i j => .int (i + j)) (ev_op (r := rI0 fun i j => .int (i + j)) (ev_op (r := rI (fun _ j => j ≠ 0) fun i j => .int (i.fmod j)) (ev_int (ev_var (σ := [some v, some (.int 0), some (.int i)]) (H := H1) (i := 2) (v := .int i) rfl)) (ev_c (v := .int 2305843009213693951)) (rv_I (by decide))) (ev_op (r := rI CMul fun i j => .int (i * j)) (ev_c (v := .int 39373)) (ev_var (i := 1) (v := .int 0) rfl) (rv_I (.inl ⟨by decide, by decide⟩))) rv_I0) (ev_c (v := .int 3178934)) rv_I0
  refine (edl_lst (K := K) (eds_cons (ed_i g0) (eds_cons (ed_i g1) (eds_cons (ed_cint (i := 0)) eds_nil))) (le5 rfl)) H1 (Ex.refl _) _ fun p us H2 hp e2 h2 d2 => ?_
  obtain ⟨x1, x2, x3, rfl, f1, f2, f3⟩ := dpA3 d2
  rw [dp_vint f1, dp_vint f2, dp_vint f3] at h2
  exact q p H2 (fresh_back e1 hp) (e1.trans e2) ⟨_, _, 0, h2, Int.le_refl _, Int.le_refl _⟩

/-! ### by -/
def R_by (ds : List PyData) (d : PyData) : Prop := ∃ t dl lk wt m, ds = [t, .int m] ∧ Tm t dl lk wt ∧ d = optI (lookBy lk m)
theorem d_by (B : Bt mg) (A : At K mg "_law_by" s__law_by ["_law_times", "_law_moment"]) : Dfn P w K mg base "_law_by" ["_law_times", "_law_moment"] CX0 1 (spF K R_by) := by
  refine A.okD sc__law_by (fun ds d h => by obtain ⟨t, dl, lk, wt, m, rfl, _⟩ := h; rfl) (fun f cdv A outer s H0 E hr => ⟨_, (pss_one (ps_ret (pe_ifExp (pt_cmpR op_lt (pv 1) pe_int (nomark _)) pe_non (pe_op op_mul (pe_ix (r := rIx K) ix_seq (pv 0) pe_int (fun _ _ => rfl)) (pe_op op_fdivN (pv 1) (pe_ix (r := rIx K) ix_seq (pv 0) pe_int (fun _ _ => rfl))))))), fun vs H ds d r hv => ?_⟩)
  obtain ⟨t, dl, lk, wt, m, rfl, ⟨ht, l1, l2⟩, rfl⟩ := r
  obtain ⟨v, u, rfl, hx, hm⟩ := dpA2 hv
  have em := dp_vint hm
  subst em
  have g1 : Ev (tOp (rIx K) (tVar 0) (tC (.int 1))) [some v, some (.int m)] H (.int lk) := ev_ixS (ed_var rfl hx) ht ev_c at1
  refine exd_ret (ed_if (et_T (ev_op (ev_var rfl) ev_c rv_I0)) (fun z => ?_) (fun z => ?_))
  · have z' : m < 0 := of_decide_eq_true z
    unfold lookBy
    rw [if_pos z']
    exact ed_cnon
  · have z' : ¬ m < 0 := of_decide_eq_false z
    unfold lookBy
    rw [if_neg z']
    exact ed_i (ev_op g1 (ev_op (ev_var rfl) g1 (rv_I ⟨by omega, by omega⟩)) (rv_I (.inl ⟨by omega, by omega⟩)))

/-! ### same -/
def R_same (n : Nat) (ds : List PyData) (d : PyData) : Prop := ∃ x, ds = [x, x] ∧ okD n x ∧ d = .bool true
theorem d_same (B : Bt mg) (A : At K mg "_law_same" s__law_same ["_law_got", "_law_goal"]) : ∀ n, Dfn P w K mg base "_law_same" ["_law_got", "_law_goal"] CX0 n (spF K (R_same n)) := by
  intro n
  induction n with
  | zero => exact at_dead A fun vs H Q E ⟨ds, d, ⟨x, _, h, _⟩, _⟩ => h
  | succ n ih =>
    have c__law_same := ih
    refine A.okD sc__law_same (fun ds d h => by obtain ⟨x, rfl, _⟩ := h; rfl) (fun f cdv A outer s H0 E hr => ⟨_, (pss_cons (ps_if (pt_val (pe_callB (r := rIsiT K) call_isiT (by rfl) B.isinstance (by decide +kernel) (pa_cons (pv 1) (pa_cons (pe_tup (pa_cons (pe_bltn (v := .ty "list") (by rfl) B.list (by decide +kernel) rfl) (pa_cons (pe_bltn (v := .ty "tuple") (by rfl) B.tuple (by decide +kernel) rfl) pa_nil))) pa_nil)))) (pss_cons (ps_if (PW.pt (pw_or (pt_cmpR op_ne (pe_callB (r := rIsi K) call_isi (by rfl) B.isinstance (by decide +kernel) (pa_cons (pv 0) (pa_cons (pe_bltn (v := .ty "list") (by rfl) B.list (by decide +kernel) rfl) pa_nil))) (pe_callB (r := rIsi K) call_isi (by rfl) B.isinstance (by decide +kernel) (pa_cons (pv 1) (pa_cons (pe_bltn (v := .ty "list") (by rfl) B.list (by decide +kernel) rfl) pa_nil))) (nomark _)) (pw_or1 (pt_cmpR op_ne (pe_callB (r := rIsi K) call_isi (by rfl) B.isinstance (by decide +kernel) (pa_cons (pv 0) (pa_cons (pe_bltn (v := .ty "tuple") (by rfl) B.tuple (by decide +kernel) rfl) pa_nil))) (pe_callB (r := rIsi K) call_isi (by rfl) B.isinstance (by decide +kernel) (pa_cons (pv 1) (pa_cons (pe_bltn (v := .ty "tuple") (by rfl) B.tuple (by decide +kernel) rfl) pa_nil))) (nomark _))))) (pss_one (ps_ret pe_bl)) pss_nil) (pss_one (ps_ret (pe_and (pe_cmpR op_eq (pe_callB (r := rLenS K) call_len_seq (by rfl) B.len PySem.boot_len (pa_cons (pv 0) pa_nil)) (pe_callB (r := rLenS K) call_len_seq (by rfl) B.len PySem.boot_len (pa_cons (pv 1) pa_nil)) (nomark _)) (pe_one (pe_callB (r := rAll K) (cr_all rfl) (by rfl) B.all (by decide +kernel) (pa_cons (pe_lc (own := [("_law_its", 2), ("_law_own", 3)]) (g := gTup K 2 (gCons (gName 2) (gCons (gName 3) gNil))) rfl sc__law_same.nd (pi_z2 (by rfl) B.zip (pa_cons (pv 0) (pa_cons (pv 1) pa_nil))) (blkOk_by (own := [("_law_its", 2), ("_law_own", 3)]) (N := ["_law_got", "_law_goal", "_law_its", "_law_own"]) (sc := defScope s__law_same) (by decide +kernel)) (fun _ _ _ _ _ => (pg_tup (by rfl) (pgs_cons (pg_name (i := 2) sc__law_same.nd rfl (Or.inl rfl)) (pgs_cons (pg_name (i := 3) sc__law_same.nd rfl (Or.inl rfl)) pgs_nil)))) (fun _ _ _ _ _ => pts_nil) (fun _ _ _ _ _ => (pe_fn c__law_same hr (by omega) (by rfl) (pa_cons (pv 2) (pa_cons (pv 3) pa_nil))))) pa_nil))))))) pss_nil) (pss_cons (ps_if (PW.pt (pw_or (pt_cmpR (r := KD.rIsN) op_isN (pv 1) pe_non (nomark _)) (pw_or1 (pt_val (pe_callB (r := rIsiT K) call_isiT (by rfl) B.isinstance (by decide +kernel) (pa_cons (pv 1) (pa_cons (pe_tup (pa_cons (pe_bltn (v := .ty "bool") (by rfl) B.bool (by decide +kernel) rfl) (pa_cons (pe_bltn (v := .ty "str") (by rfl) B.str (by decide +kernel) rfl) pa_nil))) pa_nil))))))) (pss_one (ps_ret (pe_and (pe_cmpR op_eq (pv 0) (pv 1) (nomark _)) (pe_and (pe_cmpR op_eq (pe_callB (r := rIsi K) call_isi (by rfl) B.isinstance (by decide +kernel) (pa_cons (pv 0) (pa_cons (pe_bltn (v := .ty "bool") (by rfl) B.bool (by decide +kernel) rfl) pa_nil))) (pe_callB (r := rIsi K) call_isi (by rfl) B.isinstance (by decide +kernel) (pa_cons (pv 1) (pa_cons (pe_bltn (v := .ty "bool") (by rfl) B.bool (by decide +kernel) rfl) pa_nil))) (nomark _)) (pe_one (pe_cmpR op_eq (pe_cmpR (r := KD.rIsN) op_isN (pv 0) pe_non (nomark _)) (pe_cmpR (r := KD.rIsN) op_isN (pv 1) pe_non (nomark _)) (nomark _))))))) pss_nil) (pss_one (ps_ret (pe_and (pe_callB (r := rIsi K) call_isi (by rfl) B.isinstance (by decide +kernel) (pa_cons (pv 0) (pa_cons (pe_bltn (v := .ty "int") (by rfl) B.int (by decide +kernel) rfl) pa_nil))) (pe_and (pe_not (pe_callB (r := rIsi K) call_isi (by rfl) B.isinstance (by decide +kernel) (pa_cons (pv 0) (pa_cons (pe_bltn (v := .ty "bool") (by rfl) B.bool (by decide +kernel) rfl) pa_nil)))) (pe_one (pe_cmpR op_eq (pv 0) (pv 1) (nomark _))))))))), fun vs H ds d r hv => ?_⟩)
    obtain ⟨x, rfl, ok, rfl⟩ := r
    obtain ⟨v, u, rfl, hx, hy⟩ := dpA2 hv
    intro Q q
    have v0 : EvD K (tVar 0) [some v, some u, none, none] H x := ed_var rfl hx
    have v1 : EvD K (tVar 1) [some v, some u, none, none] H x := ed_var rfl hy
    rcases ok with ok | ⟨es, h1, h2, h3⟩
    · have e1 : (Sq x).isSome = false := by cases x <;> first | rfl | cases ok
      refine q_when (et_B (isiT_of v1)) (fun z => by rw [e1] at z; cases z) fun _ H1 ex => ?_
      have w0 := v0.mono ex
      have w1 := v1.mono ex
      have bb := fun b => fun (h : kitB (tyOf x) "bool" = some b) => ev_op (ev_isi w0 h) (ev_isi w1 h) (rv_eq (H := H1) rfl)
      have nn := ev_op (ev_isN w0) (ev_isN w1) (rv_eq (H := H1) rfl)
      have t2 := et_or (et_T (ev_isN w1)) fun _ => et_B (ev_isiT w1 (kb_bool x) (kb_str x))
      cases x with
      | none =>
        refine q_when (b := true) t2 (fun _ H2 e2 => s_rq (d := .bool true) (EvD.mono (ed_b (ev_is (ev_andV (ev_op (ev_n w0) (ev_n w1) (rv_eq rfl)) fun _ => ev_andV (bb _ (kb_bool _)) fun _ => nn) ?_)) e2) q (ex.trans e2)) (fun z => Bool.noConfusion z)
        simp
      | bool b =>
        refine q_when (b := true) t2 (fun _ H2 e2 => s_rq (d := .bool true) (EvD.mono (ed_b (ev_is (ev_andV (ev_op (ev_b w0) (ev_b w1) (rv_eq rfl)) fun _ => ev_andV (bb _ (kb_bool _)) fun _ => nn) ?_)) e2) q (ex.trans e2)) (fun z => Bool.noConfusion z)
        simp
      | str b =>
        refine q_when (b := true) t2 (fun _ H2 e2 => s_rq (d := .bool true) (EvD.mono (ed_b (ev_is (ev_andV (ev_op (ev_s w0) (ev_s w1) (rv_eq rfl)) fun _ => ev_andV (bb _ (kb_bool _)) fun _ => nn) ?_)) e2) q (ex.trans e2)) (fun z => Bool.noConfusion z)
        simp
      | int i =>
        refine q_when (b := false) t2 (fun z => Bool.noConfusion z) (fun _ H2 e2 => s_rq (d := .bool true) (EvD.mono (ed_b (ev_is (ev_andV (ev_isi w0 (kb_int _)) fun _ => ev_andV (ev_notV (ev_isi w0 (kb_bool _))) fun _ => ev_op (ev_i w0) (ev_i w1) (rv_eq rfl)) ?_)) e2) q (ex.trans e2))
        simp
      | list _ => cases ok
      | tuple _ => cases ok
      | dict _ => cases ok
    · refine q_when (et_B (isiT_of v1)) (fun _ H1 ex => ?_) (fun z => by rw [h1] at z; cases z)
      have w0 := v0.mono ex
      have w1 := v1.mono ex
      refine q_no (D := { nx := _, rt := Q }) (et_is (et_or (et_T (ev_op (ev_isi w0 (kb_list x)) (ev_isi w1 (kb_list x)) (rv_ne rfl))) fun _ => et_T (ev_op (ev_isi w0 (kb_tuple x)) (ev_isi w1 (kb_tuple x)) (rv_ne rfl))) (by simp)) fun H2 e2 => ?_
      have y0 := w0.mono e2
      have y1 := w1.mono e2
      have hz := ei_z2 y0 y1 h1 h1
      rw [zip_self] at hz
      have m := edl_map2 (f := fun d => d) (f' := fun d => d) (g := fun _ => .bool true) (te := tCall (spF K (R_same n)) [] E0 (tCons (tVar 2) (tCons (tVar 3) tNil))) (j := 2) (l := 3) (vs := [2, 3]) hz (by omega) (fun _ _ => rfl) fun a ha x1 x2 H3 e3 f1 f2 => ⟨ed_call (eds_cons (ed_var rfl f1) (eds_cons (ed_var rfl f2) eds_nil)) ⟨a, rfl, h3 a ha, rfl⟩, rfl⟩
      have ma := ev_all (bs := es.map fun _ => true) (ed_is (EvDL.toD m) (by rw [List.map_map]; rfl))
      refine s_rq (d := .bool true) (ed_b (ev_is (ev_andV (ev_op (ev_lenS y0 h1) (ev_lenS y1 h1) (rv_eq rfl)) fun _ => ma) ?_)) q (ex.trans e2)
      rw [mem_of_all (fun _ _ => rfl), dec_self]
      rfl
end
end KT

set_option Elab.async false
set_option linter.all false
set_option autoImplicit false
set_option maxRecDepth 100000
set_option maxHeartbeats 4000000
/-! Ku: lists. -/
namespace KT
open PySem PySem.Spec PyProof.Rows L2 Evl KD KM
/-- a heap without the lists that stood in H -/
def cutL (H H' : Hp) : Hp := fun a => match H a with
  | some (.lst _) => none
  | _ => H' a
theorem cutL_ex {H H' : Hp} : Ex (cutL H H') H' := fun a o h => by
  unfold cutL at h
  split at h
  · cases h
  · exact h
theorem cutL_lst {H H' : Hp} {a : Addr} {us : List V} (h : H a = some (.lst us)) : cutL H H' a = none := by
  unfold cutL
  rw [h]
theorem cutL_of {H H' : Hp} {a : Addr} (h : ∀ us, H a ≠ some (.lst us)) : cutL H H' a = H' a := by
  unfold cutL
  split
  · rename_i us e
    exact absurd e (h us)
  · rfl
theorem cutL_some {H H' : Hp} {a : Addr} {o : HO} (h : cutL H H' a = some o) : (∀ us, H a ≠ some (.lst us)) ∧ H' a = some o := by
  refine ⟨fun us e => ?_, cutL_ex a o h⟩
  rw [cutL_lst e] at h
  cases h
def cutD (H : Hp) (p : Addr) (H' : Hp) : Hp := del (cutL H H') p
mutual
def lstD : PyData → PyData
  | .list ds => .list (lstDA ds)
  | .tuple ds => .list (lstDA ds)
  | d => d
def lstDA : List PyData → List PyData
  | [] => []
  | d :: ds => lstD d :: lstDA ds
end
theorem lstDA_eq : ∀ ds : List PyData, lstDA ds = ds.map lstD
  | [] => rfl
  | d :: ds => by rw [lstDA, lstDA_eq ds]; rfl
theorem lstD_sq {d : PyData} {ds : List PyData} (h : Sq d = some ds) : lstD d = .list (ds.map lstD) := by
  cases d with
  | list es => cases h; rw [← lstDA_eq]; rfl
  | tuple es => cases h; rw [← lstDA_eq]; rfl
  | _ => cases h
theorem dp_scal {K : PySem.W.Frag} {H H' : Hp} {v : V} {d : PyData} (h : Dp K H v d) (s : isSc d = true) : Dp K H' v d := by
  cases h with
  | non => exact .non
  | bl b => exact .bl b
  | int i => exact .int i
  | str x => exact .str x
  | lst _ _ => cases s
  | tup _ _ => cases s
def spLists (K : PySem.W.Frag) (n : Nat) : Sp := fun vs H Q _ => ∃ (v : V) (x : PyData), vs = [v] ∧ Dp K H v x ∧ okD n x ∧ ∀ u H', Ex H H' → Dp K (cutL H H') u (lstD x) → Q u H'
section
variable {P : Program} {w : World} {K : PySem.W.Frag} {mg : Str → Option Value} {base : Heap}
theorem d_lists (B : Bt mg) (A : At K mg "_law_lists" s__law_lists ["_law_matter"]) : ∀ n, Dfn P w K mg base "_law_lists" ["_law_matter"] CX0 n (spLists K n) := by
  intro n
  induction n with
  | zero => exact at_dead A fun vs H Q E ⟨v, x, _, _, h, _⟩ => h
  | succ n ih =>
    have c__law_lists := ih
    refine at_ok0 A sc__law_lists (fun vs H Q E h => by obtain ⟨v, x, rfl, _⟩ := h; rfl) (fun f cdv A outer s H0 E hr => ⟨_, (pss_one (ps_ret (pe_ifExp (pt_val (pe_callB (r := rIsiT K) call_isiT (by rfl) B.isinstance (by decide +kernel) (pa_cons (pv 0) (pa_cons (pe_tup (pa_cons (pe_bltn (v := .ty "list") (by rfl) B.list (by decide +kernel) rfl) (pa_cons (pe_bltn (v := .ty "tuple") (by rfl) B.tuple (by decide +kernel) rfl) pa_nil))) pa_nil)))) (pe_lc (own := [("_law_own", 1)]) (g := gName 1) rfl sc__law_lists.nd (pi_any (pv 0)) (blkOk_by (own := [("_law_own", 1)]) (N := ["_law_matter", "_law_own"]) (sc := defScope s__law_lists) (by decide +kernel)) (fun _ _ _ _ _ => (pg_name (i := 1) sc__law_lists.nd rfl (Or.inl rfl))) (fun _ _ _ _ _ => pts_nil) (fun _ _ _ _ _ => (pe_fn c__law_lists hr (by omega) (by rfl) (pa_cons (pv 1) pa_nil)))) (pv 0)))), fun vs H Q h => ?_⟩)
    obtain ⟨v, x, rfl, hx, ok, q⟩ := h
    have v0 : EvD K (tVar 0) [some v, none] H x := ed_var rfl hx
    refine (et_B (isiT_of v0)) H (Ex.refl _) _ fun H1 e1 => ?_
    rcases ok with ok | ⟨es, h1, h2, h3⟩
    · have e2 : (Sq x).isSome = false := by cases x <;> first | rfl | cases ok
      have e3 : lstD x = x := by cases x <;> first | rfl | cases ok
      rw [e2]
      refine ⟨v, rfl, q v H1 e1 ?_⟩
      rw [e3]
      exact dp_scal hx ok
    · rw [h1, if_pos (show (some es).isSome = true from rfl)]
      refine (ei_any v0 h1) H1 e1 _ fun J H2 ex2 hJ Dl hD => ?_
      have E2 := e1.trans ex2
      have nD : H Dl = none := fresh_back E2 hD
      refine ⟨fun i m H' => i + m = es.length ∧ Ex H2 H' ∧ ∃ vs, H' Dl = some (.lst vs) ∧ DpAll K (cutD H Dl H') vs ((es.take i).map lstD), ⟨es.length, Nat.zero_add _, Ex.new hD, [], upd_same, .nil⟩, fun i m H' hw => ?_⟩
      obtain ⟨em, c1, us, c2, c3⟩ := hw
      have st := hJ H' c1 i
      cases m with
      | zero =>
        have ei : i = es.length := em
        refine .inl ⟨st.1 ei, q _ H' (E2.trans c1) ?_⟩
        rw [ei, List.take_length] at c3
        rw [lstD_sq h1]
        refine .lst (sq_of ?_) (dpeA c3 del_ex)
        rw [cutL_of fun us e => by rw [nD] at e; cases e]
        exact c2
      | succ m =>
        have hlt : i < es.length := by omega
        have hd := List.getElem?_eq_getElem hlt
        obtain ⟨hgo, hy⟩ := st.2 _ hd
        refine .inr ⟨hgo, _, fun H'' c => ⟨m, Nat.lt_succ_self _, c⟩, fun y H3 hyl => ?_⟩
        obtain ⟨e3, d3⟩ := hy y H3 hyl
        refine ⟨rfl, ?_⟩
        refine ⟨_, rfl, ⟨y, es[i], rfl, d3, h3 _ (List.getElem_mem hlt), fun u H4 e4 d4 => ?_⟩⟩
        have h3l := e3 _ _ c2
        have h4l := e4 _ _ h3l
        refine ⟨us, h4l, sz_lt (by rw [dpA_len c3, List.length_map, List.length_take]; omega), by omega, Ex.mut ((c1.trans e3).trans e4) hD, us ++ [u], upd_same, ?_⟩
        have g1 : Ex (cutD H Dl H') (cutD H Dl (upd H4 Dl (.lst (us ++ [u])))) := fun a o ha => by
          have z := del_ex a o ha
          have na : a ≠ Dl := fun e => by rw [e] at ha; rw [show cutD H Dl H' Dl = none from del_self] at ha; cases ha
          obtain ⟨z1, z2⟩ := cutL_some z
          show del _ Dl a = some o
          unfold del
          rw [if_neg na, cutL_of z1, upd_ne na]
          exact e4 _ _ (e3 _ _ z2)
        have g2 : Ex (cutL H3 H4) (cutD H Dl (upd H4 Dl (.lst (us ++ [u])))) := fun a o ha => by
          obtain ⟨z1, z2⟩ := cutL_some ha
          have na : a ≠ Dl := fun e => by rw [e] at z1; exact z1 us h3l
          show del _ Dl a = some o
          unfold del
          rw [if_neg na, cutL_of fun us' e => z1 us' (e3 _ _ (c1 _ _ (E2 _ _ e))), upd_ne na]
          exact z2
        rw [List.take_add_one, hd, List.map_append]
        exact dpA_app (dpeA c3 g1) (dpA_one (dpe d4 g2))
theorem ed_lists {σ : L2.St} {H : Hp} {te : TE} {n : Nat} {x : PyData} (h : EvD K te σ H x) (ok : okD n x) : EvD K (tCall (spLists K n) [] E0 (tCons te tNil)) σ H (lstD x) := fun H1 e Q q =>
  h H1 e _ fun v H2 e2 hv => ⟨v, x, rfl, hv, ok, fun u H3 e3 hd => q u H3 (e2.trans e3) (dpe hd cutL_ex)⟩
end
end KT

set_option Elab.async false
set_option linter.all false
set_option autoImplicit false
set_option maxRecDepth 100000
set_option maxHeartbeats 4000000
/-! Kv: net, pays, most. -/
namespace KT
open PySem PySem.Spec PyProof.Rows L2 Evl KD KM
/-- sums of a channel as the law draws them -/
def ChOk (c : Ch) : Prop := (0 ≤ c.2.2.1 ∧ c.2.2.1 ≤ 11) ∧ 0 ≤ c.2.2.2 ∧ c.2.2.2 ≤ 11
structure NetOk (N : List Ch) : Prop where
  few : N.length ≤ 6
  one : 1 ≤ N.length
  ok : ∀ c ∈ N, ChOk c
section
variable {K : PySem.W.Frag} {σ : L2.St} {H H' : Hp} {ta tb tc te : TE} {d : PyData} {ds : List PyData} {v : V} {D : Ends} {tu tz : TS} {u : Addr} {n n' n'' : Nat} {φ ψ : Int → Prop} {r : R2}
theorem s_appM {i : Nat} {l : Addr} {xs : List V} (hσ : σ[i]? = some (some (.ref l))) (hl : H l = some (.lst xs)) (h : te σ H fun v H1 => rAppend (.ref l) [v] H1 fun _ H2 => D.nx σ H2) :
    tDrop (tBM K "list" rAppend (tVar i) (tCons te tNil)) D σ H := ⟨.ref l, hσ, Or.inl ⟨rfl, xs, sq_of hl⟩, h⟩
/-- four values, a new tuple -/
theorem fin4 {a b c e : V} {Q : VK} (h : ∀ p, H p = none → Q (.ref p) (upd H p (.tup [a, b, c, e]))) : [a, b, c, e].length ≤ sizeLine ∧ ∀ p, H p = none → Q (.ref p) (upd H p (.tup [a, b, c, e])) := ⟨by show 4 ≤ sizeLine; decide, h⟩
end
section
variable {P : Program} {w : World} {K : PySem.W.Frag} {mg : Str → Option Value} {base : Heap}
def spNet (K : PySem.W.Frag) : Sp := fun vs H Q _ => ∃ (u : Addr) (n : Nat), vs = [.ref u] ∧ Urn u n H ∧ n ≤ 90000 ∧ ∀ v N H', NetOk N → ExB u H H' → Urn u (n + 30) H' → Dp K H' v (netD N) → Q v H'
theorem urn_le {u : Addr} {n m : Nat} {H : Hp} (h : Urn u n H) (l : n ≤ m) : Urn u m H := by
  obtain ⟨a, b, c, h1, h2, h3⟩ := h
  exact ⟨a, b, c, h1, h2, by omega⟩
theorem d_net (B : Bt mg) (A : At K mg "_law_net" s__law_net ["_law_urn"]) (c__law_take : TakeOk P w K mg base) : Dfn P w K mg base "_law_net" ["_law_urn"] CX0 2 (spNet K) := by
  refine at_ok0 A sc__law_net (fun vs H Q E h => by obtain ⟨u, n, rfl, _⟩ := h; rfl) (fun f cdv A outer s H0 E hr => ⟨_, (pss_cons (ps_par (i := 1) (j := 2) rfl sc__law_net.nd rfl rfl (by decide) rfl rfl (pa_cons (pe_op op_add pe_int (pe_fn c__law_take hr (by omega) (by rfl) (pa_cons (pv 0) (pa_cons pe_int pa_nil)))) (pa_cons (pe_lst pa_nil) pa_nil)) (by rfl)) (pss_cons (ps_for PassesOwn.never rfl (pi_range1 (by rfl) B.range (pa_cons (pe_op op_add pe_int (pe_fn c__law_take hr (by omega) (by rfl) (pa_cons (pv 0) (pa_cons pe_int pa_nil)))) pa_nil)) (pg_name (i := 3) sc__law_net.nd rfl (Or.inl rfl)) (pss_cons (ps_set (i := 4) sc__law_net.nd rfl (Or.inl rfl) (pe_fn c__law_take hr (by omega) (by rfl) (pa_cons (pv 0) (pa_cons (pv 1) pa_nil)))) (pss_cons (ps_set (i := 5) sc__law_net.nd rfl (Or.inl rfl) (pe_op op_modN (pe_callTy call_int1 (by rfl) B.int (by decide +kernel) (pa_cons (pe_op op_add (pe_op op_add (pv 4) pe_int) (pe_fn c__law_take hr (by omega) (by rfl) (pa_cons (pv 0) (pa_cons (pe_op op_sub (pv 1) pe_int) pa_nil)))) pa_nil)) (pv 1))) (pss_one (ps_expr (pe_bm PySem.F.plainAttrs_list PySem.F.slot_list_append PySem.F.type_list_append mt_append (pv 2) (pa_cons (pe_tup (pa_cons (pv 4) (pa_cons (pv 5) (pa_cons (pe_fn c__law_take hr (by omega) (by rfl) (pa_cons (pv 0) (pa_cons pe_int pa_nil))) (pa_cons (pe_fn c__law_take hr (by omega) (by rfl) (pa_cons (pv 0) (pa_cons pe_int pa_nil))) pa_nil))))) pa_nil))))))) (pss_one (ps_ret (pe_callTy (r := rTupleOf K) call_tuple_of (by rfl) B.tuple (by decide +kernel) (pa_cons (pv 2) pa_nil)))))), fun vs H Q h => ?_⟩)
  obtain ⟨u, n, rfl, hu, hn, q⟩ := h
  have nu : ∀ {p : Addr}, H p = none → u ≠ p := fun hp e => by
    obtain ⟨xs, hx⟩ := hu.lst
    rw [e, hp] at hx
    cases hx
  -- people, found
  have t1 : EvM (tOp (rI0 fun i j => .int (i + j)) (tC (.int 2)) (tCall spTake [] E0 (tCons (tVar 0) (tCons (tC (.int 5)) tNil)))) [some (.ref u), none, none, none, none, none] H u n (n + 1) (fun x => 2 ≤ x ∧ x ≤ 6) :=
    em_op (em_p (i := 2) ep_c) (em_take (i := 0) (low := 5) rfl ep_c (by omega) ⟨by decide, by decide⟩) fun i j H hi hj => ⟨rv_I0, by omega, by omega⟩
  refine t1 H (ExB.refl _ _) hu _ fun pe H1 hpe e1 hu1 => ⟨by show 0 ≤ sizeLine; decide, fun p hp => ?_⟩
  have hp0 : H p = none := by
    cases z : H p with
    | none => rfl
    | some o =>
      by_cases hz : p = u
      · obtain ⟨xs, hx⟩ := hu1.lst
        rw [hz, hx] at hp
        cases hp
      · rw [e1 _ _ hz z] at hp
        cases hp
  have hup := nu hp0
  refine ⟨_, _, rfl, ?_⟩
  have hu2 := hu1.mut (o := .lst []) hup
  have E2 : ExB u H (upd H1 p (.lst [])) := fun a o hne ha => by
    rw [upd_ne (ne_of_none ha hp0)]
    exact e1 a o hne ha
  have hp2 : (upd H1 p (.lst [])) p = some (.lst []) := upd_same
  generalize upd H1 p (.lst []) = H2 at hu2 E2 hp2
  -- the loop
  have t2 : EvM (tOp (rI0 fun i j => .int (i + j)) (tC (.int 1)) (tCall spTake [] E0 (tCons (tVar 0) (tCons (tC (.int 6)) tNil)))) [some (.ref u), some (.int pe), some (.ref p), none, none, none] H2 u (n + 1) (n + 2) (fun x => 1 ≤ x ∧ x ≤ 6) :=
    em_op (em_p (i := 1) ep_c) (em_take (i := 0) (low := 6) rfl ep_c (by omega) ⟨by decide, by decide⟩) fun i j H hi hj => ⟨rv_I0, by omega, by omega⟩
  refine t2 H2 (ExB.refl _ _) hu2 _ fun m H3 hm e3 hu3 => ⟨m, rfl, by omega, by omega, loop_by (K := K) (D := { nx := _, rt := Q }) (S := fun _ => True) itp_r
    (fun i σ H' => i ≤ 6 ∧ (∃ x3 x4 x5, σ = [some (.ref u), some (.int pe), some (.ref p), x3, x4, x5]) ∧ ExB u H H' ∧ Urn u (n + 2 + 4 * i) H' ∧ ∃ (N : List Ch) (us : List V), N.length = i ∧ (∀ c ∈ N, ChOk c) ∧ H' p = some (.lst us) ∧ DpAll K H' us (N.map chD))
    ⟨by omega, ⟨_, _, _, rfl⟩, E2.trans e3, hu3, [], [], rfl, fun c hc => (by cases hc), e3 _ _ (fun e => hup e.symm) hp2, .nil⟩ (fun _ _ _ _ => trivial) (fun i d σ H4 x H5 hd hP e5 hdx => ?_) (fun σ H4 hP => ?_)⟩
  · obtain ⟨hi6, ⟨x3, x4, x5, rfl⟩, e4, hu4, N, us, hN, hok, hp4, d4⟩ := hP
    have hilt : i < m.toNat := by
      rw [List.getElem?_map] at hd
      by_cases z : i < m.toNat
      · exact z
      · rw [List.getElem?_eq_none (by rw [List.length_range]; omega)] at hd
        cases hd
    have hu5 := hu4.ex e5
    have E5 : ExB u H H5 := e4.trans (exb_ex e5)
    have hp5 := e5 _ _ hp4
    have d5 := dpeA d4 e5
    show tSeq _ _ _ [some (.ref u), some (.int pe), some (.ref p), some x, x4, x5] H5
    refine q_m (u := u) (em_take (i := 0) (low := pe) (te := tVar 1) rfl (ep_var rfl) (n := n + 2 + 4 * i) (by omega) ⟨by omega, by omega⟩) hu5 fun one H6 ho e6 hu6 => ?_
    show tSeq _ _ _ [some (.ref u), some (.int pe), some (.ref p), some x, some (.int one), x5] H6
    have t3 : EvM (tOp (rI (fun _ j => j ≠ 0) fun i j => .int (i.fmod j)) (tCB rInt1 (tCons (tOp (rI0 fun i j => .int (i + j)) (tOp (rI0 fun i j => .int (i + j)) (tVar 4) (tC (.int 1))) (tCall spTake [] E0 (tCons (tVar 0) (tCons (tOp (rI0 fun i j => .int (i - j)) (tVar 1) (tC (.int 1))) tNil)))) tNil)) (tVar 1))
        [some (.ref u), some (.int pe), some (.ref p), some x, some (.int one), x5] H6 u (n + 2 + 4 * i + 1) (n + 2 + 4 * i + 2) (fun _ => True) :=
      em_op (φ := fun _ => True) (ψ := fun x => x = pe) (em_int (em_op (em_p (i := one + 1) (ep_op (ep_var (v := .int one) rfl) (ep_c (v := .int 1)) fun _ => rv_I0)) (em_take (i := 0) (low := pe - 1) rfl (ep_op (ep_var (v := .int pe) rfl) (ep_c (v := .int 1)) fun _ => rv_I0) (by omega) ⟨by omega, by omega⟩) fun i j H hi hj => ⟨rv_I0, trivial⟩)) (em_p (ep_var rfl)) fun i j H hi hj => ⟨rv_I (by omega), trivial⟩
    refine q_m t3 hu6 fun oth H7 _ e7 hu7 => ?_
    show tDrop _ _ [some (.ref u), some (.int pe), some (.ref p), some x, some (.int one), some (.int oth)] H7
    have t4 : ∀ (k : Nat) (G : Hp), k ≤ 91000 → EvM (tCall spTake [] E0 (tCons (tVar 0) (tCons (tC (.int 12)) tNil))) [some (.ref u), some (.int pe), some (.ref p), some x, some (.int one), some (.int oth)] G u k (k + 1) (fun x => 0 ≤ x ∧ x < 12) := fun k G hk => em_take (i := 0) (low := 12) rfl ep_c (by omega) ⟨by decide, by decide⟩
    have npu : p ≠ u := fun e => hup e.symm
    have hp7 := e7 _ _ npu (e6 _ _ npu hp5)
    have d7 := dp_txA (hu6.tx e7) _ _ (flatA_map chD_flat N) (dp_txA (hu5.tx e6) _ _ (flatA_map chD_flat N) d5)
    refine s_appM rfl hp7 ?_
    refine ⟨_, rfl, _, rfl, t4 _ H7 (by omega) H7 (ExB.refl _ _) hu7 _ fun s1 H8 hs1 e8 hu8 => t4 _ H8 (by omega) H8 (ExB.refl _ _) hu8 _ fun s2 H9 hs2 e9 hu9 => ⟨by show 4 ≤ sizeLine; decide, fun t ht => ?_⟩⟩
    have hp9 := e9 _ _ npu (e8 _ _ npu hp7)
    have d9 := dp_txA (hu8.tx e9) _ _ (flatA_map chD_flat N) (dp_txA (hu7.tx e8) _ _ (flatA_map chD_flat N) d7)
    have ntp : p ≠ t := ne_of_none hp9 ht
    refine ⟨p, us, .ref t, rfl, rfl, by rw [upd_ne ntp]; exact hp9, sz_lt (by rw [dpA_len d9, List.length_map]; omega), ?_⟩
    obtain ⟨xu, hxu⟩ := hu9.lst
    have htu : u ≠ t := ne_of_none hxu ht
    have dn : Dp K (upd H9 t (.tup [.int one, .int oth, .int s1, .int s2])) (.ref t) (chD (one, oth, s1, s2)) := .tup (st_of upd_same) (.cons (.int _) (.cons (.int _) (.cons (.int _) (.cons (.int _) .nil))))
    have hpt : (upd H9 t (.tup [.int one, .int oth, .int s1, .int s2])) p = some (.lst us) := by rw [upd_ne ntp]; exact hp9
    refine ⟨by omega, ⟨_, _, _, rfl⟩, ?_, ?_, N ++ [(one, oth, s1, s2)], us ++ [.ref t], by rw [List.length_append, hN]; rfl, fun c hc => ?_, upd_same, ?_⟩
    · intro a o hne ha
      have z := e9 _ _ hne (e8 _ _ hne (e7 _ _ hne (e6 _ _ hne (E5 _ _ hne ha))))
      rw [upd_ne (ne_of_none ha hp0), upd_ne (ne_of_none z ht)]
      exact z
    · exact urn_le ((hu9.mut htu).mut hup) (by omega)
    · rcases List.mem_append.mp hc with hc | hc
      · exact hok c hc
      · rw [List.mem_singleton.mp hc]
        exact ⟨⟨hs1.1, by show s1 ≤ 11; omega⟩, hs2.1, by show s2 ≤ 11; omega⟩
    · rw [List.map_append]
      exact dpA_app (dp_txA (tx_upd hpt) _ _ (flatA_map chD_flat N) (dpeA d9 (Ex.new ht))) (dp_txA (tx_upd hpt) _ _ rfl (dpA_one dn))
  · obtain ⟨hi6, ⟨x3, x4, x5, rfl⟩, e4, hu4, N, us, hN, hok, hp4, d4⟩ := hP
    rw [List.length_map, List.length_range] at hN hu4
    have vf : EvD K (tVar 2) [some (.ref u), some (.int pe), some (.ref p), x3, x4, x5] H4 (.list (N.map chD)) := ed_at rfl hp4 d4
    exact (ed_tupleL vf) H4 (Ex.refl _) _ fun v H5 e5 hv => q v N H5 ⟨by omega, by omega, hok⟩ (e4.trans (exb_ex e5)) (urn_le (hu4.ex e5) (by omega)) hv
end
end KT

set_option Elab.async false
set_option linter.all false
set_option autoImplicit false
set_option maxRecDepth 100000
set_option maxHeartbeats 4000000
/-! Kw: pays, most. -/
namespace KT
open PySem PySem.Spec PyProof.Rows L2 Evl KD KM
theorem paysM_cons (N : List Ch) (c : Int) (r : List Int) (p : Int) : paysM N (c :: r) p = (if (chOf N c).1 = p then 0 else 1) :: paysM N r (endOf N c (1 - (if (chOf N c).1 = p then 0 else 1))) := rfl
section
variable {P : Program} {w : World} {K : PySem.W.Frag} {mg : Str → Option Value} {base : Heap}
def R_pays (ds : List PyData) (es : List PyData) : Prop := ∃ N p r, ds = [netD N, .int p, rowD r] ∧ (∀ c ∈ r, inN N c) ∧ r.length ≤ 1000 ∧ es = (paysM N r p).map .int
theorem d_pays (B : Bt mg) (A : At K mg "_law_pays" s__law_pays ["_law_net_here", "_law_payer", "_law_row"]) : Dfn P w K mg base "_law_pays" ["_law_net_here", "_law_payer", "_law_row"] CX0 1 (spL K R_pays) := by
  refine at_okL A sc__law_pays (fun ds d h => by obtain ⟨N, p, r, rfl, _⟩ := h; rfl) (fun f cdv A outer s H0 E hr => ⟨_, (pss_cons (ps_par (i := 3) (j := 4) rfl sc__law_pays.nd rfl rfl (by decide) rfl rfl (pa_cons (pe_lst pa_nil) (pa_cons (pv 1) pa_nil)) (by rfl)) (pss_cons (ps_for PassesOwn.never rfl (pi_any (pv 2)) (pg_name (i := 5) sc__law_pays.nd rfl (Or.inl rfl)) (pss_cons (ps_expr (pe_bm PySem.F.plainAttrs_list PySem.F.slot_list_append PySem.F.type_list_append mt_append (pv 3) (pa_cons (pe_ifExp (pt_cmpR op_eq (pe_ix (r := rIx K) ix_seq (pe_ix (r := rIx K) ix_seq (pv 0) (pv 5) (fun _ _ => rfl)) pe_int (fun _ _ => rfl)) (pv 4) (nomark _)) pe_int pe_int) pa_nil))) (pss_one (ps_set (i := 4) sc__law_pays.nd rfl (Or.inl rfl) (pe_ix (r := rIx K) ix_seq (pe_ix (r := rIx K) ix_seq (pv 0) (pv 5) (fun _ _ => rfl)) (pe_op op_sub pe_int (pe_ix (r := rIx K) ix_seq (pv 3) (pe_un un_neg pe_int) (fun _ _ => rfl))) (fun _ _ => rfl)))))) (pss_one (ps_ret (pv 3))))), fun vs H ds d r hv => ?_⟩)
  obtain ⟨N, p, r, rfl, hin, hl, rfl⟩ := r
  obtain ⟨v, u, y, rfl, hx, hp, hy⟩ := dpA3 hv
  have ep := dp_vint hp
  subst ep
  intro Q q
  refine ⟨by show 0 ≤ sizeLine; decide, fun l nl => ⟨_, rfl, _, _, rfl, ?_⟩⟩
  have e1 : Ex H (upd H l (.lst [])) := Ex.new nl
  have h1 : (upd H l (.lst [])) l = some (.lst []) := upd_same
  generalize upd H l (.lst []) = H1 at e1 h1
  show tSeq _ _ _ [some v, some (.int p), some y, some (.ref l), some (.int p), none] H1
  refine q_forS (K := K) (ds := r.map .int) (eis_var rfl hy rfl e1) (fun i σ H' => (∃ now c fs, σ = [some v, some (.int p), some y, some (.ref l), some (.int now), c] ∧ H' l = some (.lst (fs.map V.int)) ∧ fs.length = i ∧ paysM N r p = fs ++ paysM N (r.drop i) now) ∧ Ex H H')
    (fun H2 e2 => ⟨⟨p, _, [], rfl, e2 _ _ h1, rfl, rfl⟩, e1.trans e2⟩) (fun i σ H' hP => hP.2) (fun i d σ H3 x H4 hd hP e4 hdx => ?_) (fun σ H3 hP => ?_)
  · obtain ⟨⟨now, c, fs, rfl, h3, hfl, hpa⟩, e3⟩ := hP
    rw [List.getElem?_map] at hd
    cases qc : r[i]? with
    | none => rw [qc] at hd; cases hd
    | some ch =>
      rw [qc] at hd
      cases hd
      have ex := dp_vint hdx
      subst ex
      have E4 : Ex H H4 := e3.trans e4
      have hlt : i < r.length := (List.getElem?_eq_some_iff.mp qc).1
      have hci := hin ch (List.mem_of_getElem? qc)
      rw [List.drop_eq_getElem_cons hlt, (List.getElem?_eq_some_iff.mp qc).2, paysM_cons] at hpa
      generalize hs : (if (chOf N ch).1 = now then (0 : Int) else 1) = s at hpa
      have s01 : s = 0 ∨ s = 1 := by
        rw [← hs]
        split
        · exact .inl rfl
        · exact .inr rfl
      show tSeq _ _ _ [some v, some (.int p), some y, some (.ref l), some (.int now), some (.int ch)] H4
      have vn : EvD K (tVar 0) [some v, some (.int p), some y, some (.ref l), some (.int now), some (.int ch)] H4 (netD N) := ed_var rfl (dpe hx E4)
      have gc : EvD K (tOp (rIx K) (tVar 0) (tVar 5)) [some v, some (.int p), some y, some (.ref l), some (.int now), some (.int ch)] H4 (chD (chOf N ch)) := ed_ixT vn (ev_var rfl) (netD_at hci)
      have g0 := ev_i (ed_ixT gc (ev_c (v := .int 0)) at0)
      refine q_app (v := .int s) (e4 _ _ h3) (ev_var rfl) (ev_i (K := K) (ed_if (et_T (ev_op g0 (ev_var rfl) (rv_eq rfl))) (fun z => ?_) (fun z => ?_))) (by rw [List.length_map]; omega) fun H5 e5 => ?_
      · rw [dec_ii] at z
        rw [if_pos (of_decide_eq_true z)] at hs
        rw [← hs]
        exact ed_cint
      · rw [dec_ii] at z
        rw [if_neg (of_decide_eq_false z)] at hs
        rw [← hs]
        exact ed_cint
      · have h5 : (upd H5 l (.lst (fs.map V.int ++ [.int s]))) l = some (.lst ((fs ++ [s]).map V.int)) := by rw [upd_same, List.map_append]; rfl
        have E5 : Ex H (upd H5 l (.lst (fs.map V.int ++ [.int s]))) := Ex.mut (E4.trans e5) nl
        generalize upd H5 l (.lst (fs.map V.int ++ [.int s])) = H6 at h5 E5
        have vn6 : EvD K (tVar 0) [some v, some (.int p), some y, some (.ref l), some (.int now), some (.int ch)] H6 (netD N) := ed_var rfl (dpe hx E5)
        have gc6 : EvD K (tOp (rIx K) (tVar 0) (tVar 5)) [some v, some (.int p), some y, some (.ref l), some (.int now), some (.int ch)] H6 (chD (chOf N ch)) := ed_ixT vn6 (ev_var rfl) (netD_at hci)
        have vf : EvD K (tVar 3) [some v, some (.int p), some y, some (.ref l), some (.int now), some (.int ch)] H6 (.list ((fs ++ [s]).map .int)) := ed_atI rfl h5
        have gl := ed_ixL vf (ev_un (ev_c (v := .int 1)) ru_neg) (d := .int s) (by rw [List.map_append]; exact atI_last _ _)
        have gi := ev_op (r := rI0 fun i j => .int (i - j)) (ev_c (v := .int 1)) (ev_i gl) rv_I0
        refine s_asg (v := .int (endOf N ch (1 - s))) (ev_i (ed_ixT gc6 gi ?_)) fun H7 e7 => ?_
        · rcases s01 with rfl | rfl
          · exact at1
          · exact at0
        · refine ⟨⟨_, _, fs ++ [s], rfl, e7 _ _ h5, by rw [List.length_append, hfl]; rfl, ?_⟩, E5.trans e7⟩
          rw [hpa, List.append_assoc]
          rfl
  · obtain ⟨⟨now, c, fs, rfl, h3, hfl, hpa⟩, e3⟩ := hP
    rw [List.length_map, List.drop_length] at hpa
    have e : paysM N r p = fs := by rw [hpa]; exact List.append_nil _
    refine ⟨_, rfl, q l (fs.map V.int) H3 nl e3 h3 ?_⟩
    rw [e]
    exact ints_dpA fs
def R_lmost (ds : List PyData) (d : PyData) : Prop := ∃ N sh S p r, ds = [netD N, sh, .int p, rowD r] ∧ ShL sh S ∧ S.length = N.length ∧ (∀ c ∈ r, inN N c) ∧ r ≠ [] ∧ r.length ≤ 1000 ∧ d = .int (mostM N S p r)
theorem d_most (B : Bt mg) (A : At K mg "_law_most" s__law_most ["_law_net_here", "_law_sheets_here", "_law_payer", "_law_row"]) (c__law_pays : Dfn P w K mg base "_law_pays" ["_law_net_here", "_law_payer", "_law_row"] CX0 1 (spL K R_pays)) :
    Dfn P w K mg base "_law_most" ["_law_net_here", "_law_sheets_here", "_law_payer", "_law_row"] CX0 2 (spF K R_lmost) := by
  refine A.okD sc__law_most (fun ds d h => by obtain ⟨N, sh, S, p, r, rfl, _⟩ := h; rfl) (fun f cdv A outer s H0 E hr => ⟨_, (pss_one (ps_ret (pe_callB (r := rMin K) (cr_min rfl) (by rfl) B.min (by decide +kernel) (pa_cons (pe_lc (own := [("_law_k", 4), ("_law_side", 5)]) (g := gTup K 2 (gCons (gName 4) (gCons (gName 5) gNil))) rfl sc__law_most.nd (pi_z2 (by rfl) B.zip (pa_cons (pv 3) (pa_cons (pe_fn c__law_pays hr (by omega) (by rfl) (pa_cons (pv 0) (pa_cons (pv 2) (pa_cons (pv 3) pa_nil)))) pa_nil))) (blkOk_by (own := [("_law_k", 4), ("_law_side", 5)]) (N := ["_law_net_here", "_law_sheets_here", "_law_payer", "_law_row", "_law_k", "_law_side"]) (sc := defScope s__law_most) (by decide +kernel)) (fun _ _ _ _ _ => (pg_tup (by rfl) (pgs_cons (pg_name (i := 4) sc__law_most.nd rfl (Or.inl rfl)) (pgs_cons (pg_name (i := 5) sc__law_most.nd rfl (Or.inl rfl)) pgs_nil)))) (fun _ _ _ _ _ => pts_nil) (fun _ _ _ _ _ => (pe_ix (r := rIx K) ix_seq (pe_ix (r := rIx K) ix_seq (pe_ix (r := rIx K) ix_seq (pv 1) (pv 4) (fun _ _ => rfl)) pe_int (fun _ _ => rfl)) (pv 5) (fun _ _ => rfl)))) pa_nil)))), fun vs H ds d r hv => ?_⟩)
  obtain ⟨N, sh, S, p, r, rfl, ⟨es, hs1, hs2⟩, hSl, hin, hne0, hl0, rfl⟩ := r
  obtain ⟨v, t, u, y, rfl, hx, ht, hu, hy⟩ := dpA4 hv
  have eu := dp_vint hu
  subst eu
  have vn : EvD K (tVar 0) [some v, some t, some (.int p), some y, none, none] H (netD N) := ed_var rfl hx
  have vr : EvD K (tVar 3) [some v, some t, some (.int p), some y, none, none] H (rowD r) := ed_var rfl hy
  have hpay := edl_call (R := R_pays) (E := E0) (eds_cons vn (eds_cons (ed_i (ev_var (i := 2) (v := .int p) rfl)) (eds_cons vr eds_nil))) ⟨N, p, r, rfl, hin, hl0, rfl⟩
  have hz := ei_z2 vr (EvDL.toD hpay) rfl rfl
  rw [zip_pairs] at hz
  have hl : (r.zip (paysM N r p)).length ≤ 40000 := by
    rw [List.length_zip]
    omega
  have m := edl_map2 (g := fun a => .int (sumOf S a.1 a.2)) (te := tOp (rIx K) (tOp (rIx K) (tOp (rIx K) (tVar 1) (tVar 4)) (tC (.int 2))) (tVar 5)) (j := 4) (l := 5) (vs := [4, 5]) hz hl (fun _ _ => rfl) fun a ha x y2 H2 e2 h1 h2 => ⟨by
    have ea := dp_vint h1
    have eb := dp_vint h2
    subst ea eb
    obtain ⟨ha1, ha2⟩ := List.of_mem_zip ha
    have hci := hin _ ha1
    obtain ⟨k, hk⟩ := Int.eq_ofNat_of_zero_le hci.1
    have hkl : k < S.length := by
      have := hci.2
      omega
    obtain ⟨e, l0, l1, sm, l3, g1, g2, g3⟩ := hs2 k _ (List.getElem?_eq_getElem hkl)
    have gc := ed_ixS (σ := [some v, some t, some (.int p), some y, some (.int a.1), some (.int a.2)]) (H := H2) (ta := tVar 1) (tb := tVar 4) (ed_var rfl (dpe ht e2)) hs1 (ev_var (v := .int a.1) rfl) (by rw [hk]; exact atI_nat g1)
    have gm := ed_ixS (ta := tOp (rIx K) (tVar 1) (tVar 4)) gc g2 (ev_c (v := .int 2)) at2
    refine ed_ixS gm g3 (ev_var (v := .int a.2) rfl) ?_
    have esum : ∀ s, sumOf S a.1 s = if s = 0 then (S[k]).1 else (S[k]).2 := fun s => by
      unfold sumOf
      rw [hk, Int.toNat_natCast, List.getD_eq_getElem?_getD, List.getElem?_eq_getElem hkl]
      rfl
    rcases paysM_01 N r p _ ha2 with z | z
    · rw [z, esum]
      exact at0
    · rw [z, esum]
      exact at1, rfl⟩
  rw [show (fun a : Int × Int => PyData.int (sumOf S a.1 a.2)) = PyData.int ∘ (fun a => sumOf S a.1 a.2) from rfl, ← List.map_map, sumsM_zip] at m
  have hne : sumsM N S r p ≠ [] := fun z => hne0 (List.eq_nil_of_length_eq_zero (by rw [← sumsM_len N S r p, z]; rfl))
  exact exd_ret (ed_i (ev_min (EvDL.toD m) (minL_is _ hne)))
end
end KT

set_option Elab.async false
set_option linter.all false
set_option autoImplicit false
set_option maxRecDepth 100000
set_option maxHeartbeats 4000000
/-! Kz: sheets. -/
namespace KT
open PySem PySem.Spec PyProof.Rows L2 Evl KD KM
structure ShOk1 (c : Ch) (i : Nat) (s : Sheet) : Prop where
  k : s.k = (i : Nat)
  num : 1 ≤ s.num
  a : 0 ≤ s.a
  b : 0 ≤ s.b
  tot : totM s = c.2.2.1 + c.2.2.2
  lk : s.locks = [] ∨ ∃ p m : Int, s.locks = [(p, m, 3, 20)] ∧ (p = 0 ∨ p = 1) ∧ 1 ≤ m
structure ShsOk (N : List Ch) (S : List Sheet) : Prop where
  len : S.length = N.length
  at_ : ∀ (i : Nat) s, S[i]? = some s → ShOk1 (chOf N (i : Nat)) i s
def sheetsD (S : List Sheet) : PyData := .tuple (S.map sheetD)
theorem sheetsA_flat (S : List Sheet) : flatA (S.map sheetD) = true := flatA_map sheetD_flat S
section
variable {K : PySem.W.Frag} {σ : L2.St} {H H' : Hp} {ta tb tc te : TE} {d : PyData} {ds : List PyData} {v : V} {D : Ends} {tu tz : TS} {u : Addr} {n n' n'' : Nat}
theorem ep_ixT {i : Nat} {k x : Int} (hσ : σ[i]? = some (some v)) (hd : Dp K H v (.tuple ds)) (hf : flat (.tuple ds) = true) (hu : Urn u n H) (ha : atI ds k = some (.int x)) : EvP (tOp (rIx K) (tVar i) (tC (.int k))) σ H u (.int x) := fun H1 e =>
  ev_i (ed_ixT (ed_var hσ (dp_tx (hu.tx e) _ _ hf hd)) ev_c ha)
theorem exb_new {p : Addr} {o : HO} (h : H' p = none) (e : ExB u H H') : ExB u H (upd H' p o) := fun a w hne ha => by
  have z := e a w hne ha
  rw [upd_ne (ne_of_none z h)]
  exact z
theorem sh_append {H0 : Hp} {G : Hp} {p l : Addr} {lkv : V} {us : List V} {S : List Sheet} {i : Nat} {a b : Int} {Lk : List (Int × Int × Int × Int)} (s0 : σ[0]? = some (some (.ref u))) (s2 : σ[2]? = some (some (.ref p))) (s3 : σ[3]? = some (some (.int (i : Nat)))) (s6 : σ[6]? = some (some lkv)) (s7 : σ[7]? = some (some (.ref l)))
    (np : H0 p = none) (npu : p ≠ u) (nlu : l ≠ u) (EG : ExB u H0 G) (huG : Urn u n G) (hn : n ≤ 90000) (hpG : G p = some (.lst us)) (dG : DpAll K G us (S.map sheetD)) (hS : S.length ≤ 100) (hlG : G l = some (.lst ([a, b].map V.int))) (dlG : Dp K G lkv (locksD Lk))
    (k : ∀ (nm : Int) H' us', 1 ≤ nm → ExB u H0 H' → Urn u (n + 1) H' → H' p = some (.lst us') → DpAll K H' us' ((S ++ [(⟨(i : Nat), nm, a, b, Lk⟩ : Sheet)]).map sheetD) → D.nx σ H') :
    tDrop (tBM K "list" rAppend (tVar 2) (tCons (tTup (tCons (tVar 3) (tCons (tOp (rI0 fun i j => .int (i + j)) (tC (.int 1)) (tCall spTake [] E0 (tCons (tVar 0) (tCons (tC (.int 5)) tNil)))) (tCons (tCB (rTupleOf K) (tCons (tVar 7) tNil)) (tCons (tVar 6) tNil))))) tNil)) D σ G := by
  refine s_appM s2 hpG ?_
  refine ⟨_, s3, ?_⟩
  have t1 : EvM (tOp (rI0 fun i j => .int (i + j)) (tC (.int 1)) (tCall spTake [] E0 (tCons (tVar 0) (tCons (tC (.int 5)) tNil)))) σ G u n (n + 1) (fun x => 1 ≤ x) := em_op (em_p (i := 1) ep_c) (em_take (i := 0) (low := 5) s0 ep_c (by omega) ⟨by decide, by decide⟩) fun i j H hi hj => ⟨rv_I0, by omega⟩
  refine t1 G (ExB.refl _ _) huG _ fun nm H1 hnm e1 hu1 => ?_
  have hl1 := e1 _ _ nlu hlG
  refine (ed_tupleL (ed_atI (K := K) s7 hl1)) H1 (Ex.refl _) _ fun sv H2 e2 hsv => ⟨lkv, s6, by show 4 ≤ sizeLine; decide, fun t ht => ?_⟩
  have hp2 : H2 p = some (.lst us) := e2 _ _ (e1 _ _ npu hpG)
  have ntp : p ≠ t := ne_of_none hp2 ht
  have d2 := dpeA (dp_txA (huG.tx e1) _ _ (sheetsA_flat S) dG) e2
  have dl2 := dpe (dp_tx (huG.tx e1) _ _ (show flat (locksD Lk) = true from flatA_map lockD_flat _) dlG) e2
  have hu2 := hu1.ex e2
  have ext : Ex H2 (upd H2 t (.tup [.int (i : Nat), .int nm, sv, lkv])) := Ex.new ht
  have dn : Dp K (upd H2 t (.tup [.int (i : Nat), .int nm, sv, lkv])) (.ref t) (sheetD ⟨(i : Nat), nm, a, b, Lk⟩) := .tup (st_of upd_same) (.cons (.int _) (.cons (.int _) (.cons (dpe hsv ext) (.cons (dpe dl2 ext) .nil))))
  have hp3 := ext _ _ hp2
  have hu3 := hu2.ex ext
  have E3 : ExB u H0 (upd H2 t (.tup [.int (i : Nat), .int nm, sv, lkv])) := (EG.trans e1).trans (exb_ex (e2.trans ext))
  have d3 := dpeA d2 ext
  generalize upd H2 t (.tup [.int (i : Nat), .int nm, sv, lkv]) = H3 at dn hp3 hu3 E3 d3
  refine ⟨p, us, .ref t, rfl, rfl, hp3, sz_lt (by rw [dpA_len d3, List.length_map]; omega), k nm _ (us ++ [.ref t]) hnm (fun a o hne ha => ?_) (hu3.mut fun e => npu e.symm) upd_same ?_⟩
  · rw [upd_ne (ne_of_none ha np)]
    exact E3 _ _ hne ha
  · rw [List.map_append]
    exact dpA_app (dp_txA (tx_upd hp3) _ _ (sheetsA_flat S) d3) (dp_txA (tx_upd hp3) _ _ (by show (flat (sheetD _) && true) = true; rw [sheetD_flat]; rfl) (dpA_one dn))
end
section
variable {P : Program} {w : World} {K : PySem.W.Frag} {mg : Str → Option Value} {base : Heap}
def spSheets (K : PySem.W.Frag) : Sp := fun vs H Q _ => ∃ (u : Addr) (n : Nat) (v : V) (N : List Ch), vs = [.ref u, v] ∧ Urn u n H ∧ n ≤ 80000 ∧ Dp K H v (netD N) ∧ NetOk N ∧ ∀ x S H', ShsOk N S → ExB u H H' → Urn u (n + 40) H' → Dp K H' x (sheetsD S) → Q x H'
theorem d_sheets (B : Bt mg) (A : At K mg "_law_sheets" s__law_sheets ["_law_urn", "_law_net_here"]) (c__law_take : TakeOk P w K mg base) : Dfn P w K mg base "_law_sheets" ["_law_urn", "_law_net_here"] CX0 2 (spSheets K) := by
  refine at_ok0 A sc__law_sheets (fun vs H Q E h => by obtain ⟨u, n, v, N, rfl, _⟩ := h; rfl) (fun f cdv A outer s H0 E hr => ⟨_, (pss_cons (ps_set (i := 2) sc__law_sheets.nd rfl (Or.inl rfl) (pe_lst pa_nil)) (pss_cons (ps_for PassesOwn.never rfl (pi_e (by rfl) B.enumerate (pa_cons (pv 1) pa_nil)) (pg_tup (by rfl) (pgs_cons (pg_name (i := 3) sc__law_sheets.nd rfl (Or.inl rfl)) (pgs_cons (pg_name (i := 4) sc__law_sheets.nd rfl (Or.inl rfl)) pgs_nil))) (pss_cons (ps_par (i := 5) (j := 6) rfl sc__law_sheets.nd rfl rfl (by decide) rfl rfl (pa_cons (pe_fn c__law_take hr (by omega) (by rfl) (pa_cons (pv 0) (pa_cons (pe_op op_add (pe_op op_add (pe_ix (r := rIx K) ix_seq (pv 4) pe_int (fun _ _ => rfl)) (pe_ix (r := rIx K) ix_seq (pv 4) pe_int (fun _ _ => rfl))) pe_int) pa_nil))) (pa_cons (pe_tup pa_nil) pa_nil)) (by rfl)) (pss_cons (ps_set (i := 7) sc__law_sheets.nd rfl (Or.inl rfl) (pe_lst (pa_cons (pv 5) (pa_cons (pe_op op_sub (pe_op op_add (pe_ix (r := rIx K) ix_seq (pv 4) pe_int (fun _ _ => rfl)) (pe_ix (r := rIx K) ix_seq (pv 4) pe_int (fun _ _ => rfl))) (pv 5)) pa_nil)))) (pss_cons (ps_set (i := 8) sc__law_sheets.nd rfl (Or.inl rfl) (pe_fn c__law_take hr (by omega) (by rfl) (pa_cons (pv 0) (pa_cons pe_int pa_nil)))) (pss_cons (ps_if (PW.pt (pw_and (pt_cmpR op_gt (pe_ix (r := rIx K) ix_seq (pv 7) (pv 8) (fun _ _ => rfl)) pe_int (nomark _)) (pw_and1 (pt_cmpR op_eq (pe_fn c__law_take hr (by omega) (by rfl) (pa_cons (pv 0) (pa_cons pe_int pa_nil))) pe_int (nomark _))))) (pss_cons (ps_set (i := 9) sc__law_sheets.nd rfl (Or.inl rfl) (pe_op op_add pe_int (pe_fn c__law_take hr (by omega) (by rfl) (pa_cons (pv 0) (pa_cons (pe_op op_sub (pe_ix (r := rIx K) ix_seq (pv 7) (pv 8) (fun _ _ => rfl)) pe_int) pa_nil))))) (pss_one (ps_asg (pe_tup (pa_cons (pe_op op_sub (pe_ix (r := rIx K) ix_seq (pv 7) (pv 8) (fun _ _ => rfl)) (pv 9)) (pa_cons (pe_tup (pa_cons (pe_tup (pa_cons (pv 8) (pa_cons (pv 9) (pa_cons (pe_tup (pa_cons pe_str (pa_cons pe_int pa_nil))) (pa_cons pe_int pa_nil))))) pa_nil)) pa_nil))) (pg_tup (by rfl) (pgs_cons (pg_sub (pv 7) (pv 8) set_list) (pgs_cons (pg_name (i := 6) sc__law_sheets.nd rfl (Or.inl rfl)) pgs_nil)))))) pss_nil) (pss_one (ps_expr (pe_bm PySem.F.plainAttrs_list PySem.F.slot_list_append PySem.F.type_list_append mt_append (pv 2) (pa_cons (pe_tup (pa_cons (pv 3) (pa_cons (pe_op op_add pe_int (pe_fn c__law_take hr (by omega) (by rfl) (pa_cons (pv 0) (pa_cons pe_int pa_nil)))) (pa_cons (pe_callTy (r := rTupleOf K) call_tuple_of (by rfl) B.tuple (by decide +kernel) (pa_cons (pv 7) pa_nil)) (pa_cons (pv 6) pa_nil))))) pa_nil))))))))) (pss_one (ps_ret (pe_callTy (r := rTupleOf K) call_tuple_of (by rfl) B.tuple (by decide +kernel) (pa_cons (pv 2) pa_nil)))))), fun vs H Q h => ?_⟩)
  obtain ⟨u, n, v, N, rfl, hu, hn, hx, ok, q⟩ := h
  have nu : ∀ {p : Addr}, H p = none → u ≠ p := fun hp e => by
    obtain ⟨xs, hx⟩ := hu.lst
    rw [e, hp] at hx
    cases hx
  refine q_dl (K := K) (ds := []) (edl_lst eds_nil (le5 rfl)) fun p us0 H1 hp0 e1 hp1 d1 => ?_
  cases d1
  have hup := nu hp0
  have npu : p ≠ u := fun e => hup e.symm
  obtain ⟨na, nxs, rfl, hnt, hnd⟩ := dp_tup hx
  show tSeq _ _ _ [some (.ref u), some (.ref na), some (.ref p), none, none, none, none, none, none, none] H1
  refine ⟨_, rfl, na, false, nxs, rfl, sqb_t (ex_t e1 hnt), loop_by (K := K) (S := Tx H) (itp_e (b := false) (xs := nxs) (ds := N.map chD) fun H3 e3 => ⟨sqb_t (tx_t e3 hnt), dp_txA e3 _ _ (flatA_map chD_flat N) hnd⟩)
    (fun i σ H' => i ≤ 6 ∧ (∃ x3 x4 x5 x6 x7 x8 x9, σ = [some (.ref u), some (.ref na), some (.ref p), x3, x4, x5, x6, x7, x8, x9]) ∧ ExB u H H' ∧ Urn u (n + 5 * i) H' ∧ ∃ (S : List Sheet) (us : List V), S.length = i ∧ (∀ (j : Nat) s, S[j]? = some s → ShOk1 (chOf N (j : Nat)) j s) ∧ H' p = some (.lst us) ∧ DpAll K H' us (S.map sheetD))
    ⟨by omega, ⟨_, _, _, _, _, _, _, rfl⟩, exb_ex e1, hu.ex e1, [], [], rfl, fun j s hj => (by simp at hj), hp1, .nil⟩ (fun i σ H' hP => hu.tx hP.2.2.1) (fun i d σ H4 x H5 hd hP e5 hdx => ?_) (fun σ H4 hP => ?_)⟩
  · obtain ⟨hi6, ⟨x3, x4, x5, x6, x7, x8, x9, rfl⟩, e4, hu4, S, us, hS, hok, hp4, d4⟩ := hP
    rw [List.getElem?_mapIdx, List.getElem?_map] at hd
    cases qc : N[i]? with
    | none => rw [qc] at hd; cases hd
    | some c =>
      rw [qc] at hd
      cases hd
      have hilt : i < N.length := (List.getElem?_eq_some_iff.mp qc).1
      have hfew := ok.few
      obtain ⟨⟨c0, c1⟩, c2, c3⟩ := ok.ok c (List.mem_of_getElem? qc)
      have hch : chOf N (i : Nat) = c := by
        unfold chOf
        rw [Int.toNat_natCast, List.getD_eq_getElem?_getD, qc]
        rfl
      refine g_pair hdx fun y1 own hy1 hown => ?_
      have ey := dp_vint hy1
      subst ey
      have hu5 := hu4.ex e5
      have E5 : ExB u H H5 := e4.trans (exb_ex e5)
      have hp5 := e5 _ _ hp4
      have d5 := dpeA d4 e5
      -- near, locks
      show tSeq _ _ _ [some (.ref u), some (.ref na), some (.ref p), some (.int (i : Nat)), some own, x5, x6, x7, x8, x9] H5
      have pc2 : EvP (tOp (rIx K) (tVar 4) (tC (.int 2))) [some (.ref u), some (.ref na), some (.ref p), some (.int (i : Nat)), some own, x5, x6, x7, x8, x9] H5 u (.int c.2.2.1) := ep_ixT rfl hown rfl hu5 at2
      have pc3 : EvP (tOp (rIx K) (tVar 4) (tC (.int 3))) [some (.ref u), some (.ref na), some (.ref p), some (.int (i : Nat)), some own, x5, x6, x7, x8, x9] H5 u (.int c.2.2.2) := ep_ixT rfl hown rfl hu5 at3
      refine (em_take (i := 0) (low := c.2.2.1 + c.2.2.2 + 1) (n := n + 5 * i) rfl (ep_op (ep_op pc2 pc3 fun _ => rv_I0) (ep_c (v := .int 1)) fun _ => rv_I0) (by omega) ⟨by omega, by omega⟩) H5 (ExB.refl _ _) hu5 _ fun near H6 hnear e6 hu6 => ⟨by show 0 ≤ sizeLine; decide, fun t0 ht0 => ⟨_, _, rfl, ?_⟩⟩
      have hown6 : Dp K (upd H6 t0 (.tup [])) own (chD c) := dpe (dp_tx (hu5.tx e6) _ _ (chD_flat c) hown) (Ex.new ht0)
      have hp6 : (upd H6 t0 (.tup [])) p = some (.lst us) := Ex.new ht0 _ _ (e6 _ _ npu hp5)
      have d6 := dpeA (dp_txA (hu5.tx e6) _ _ (sheetsA_flat S) d5) (Ex.new (o := .tup []) ht0)
      have hu6' := hu6.ex (Ex.new (o := .tup []) ht0)
      have E6 : ExB u H (upd H6 t0 (.tup [])) := exb_new ht0 (E5.trans e6)
      have dlk : Dp K (upd H6 t0 (.tup [])) (.ref t0) (locksD []) := .tup (st_of upd_same) .nil
      clear e6 hu6 hp5 d5 hu5 E5 e5 d4 hp4 hu4 e4
      generalize upd H6 t0 (.tup []) = H7 at hown6 hp6 d6 hu6' E6 dlk
      -- sums
      show tSeq _ _ _ [some (.ref u), some (.ref na), some (.ref p), some (.int (i : Nat)), some own, some (.int near), some (.ref t0), x7, x8, x9] H7
      have vo : EvD K (tVar 4) [some (.ref u), some (.ref na), some (.ref p), some (.int (i : Nat)), some own, some (.int near), some (.ref t0), x7, x8, x9] H7 (chD c) := ed_var rfl hown6
      refine q_dl (K := K) (ds := [.int near, .int (c.2.2.1 + c.2.2.2 - near)]) (edl_lst (eds_cons (ed_i (ev_var rfl)) (eds_cons (ed_i (ev_op (ev_op (ev_i (ed_ixT vo (ev_c (v := .int 2)) at2)) (ev_i (ed_ixT vo (ev_c (v := .int 3)) at3)) rv_I0) (ev_var (v := .int near) rfl) rv_I0)) eds_nil)) (le5 rfl)) fun l lus H8 hl8 e8 hl dl => ?_
      have elus : lus = [near, c.2.2.1 + c.2.2.2 - near].map V.int := dpA_ints (ns := [near, c.2.2.1 + c.2.2.2 - near]) dl
      subst elus
      have hu8 := hu6'.ex e8
      have E8 : ExB u H H8 := E6.trans (exb_ex e8)
      have hp8 := e8 _ _ hp6
      have d8 := dpeA d6 e8
      have dlk8 := dpe dlk e8
      obtain ⟨uxs, huxs⟩ := hu6'.lst
      have nlu : l ≠ u := fun e => by rw [e, huxs] at hl8; cases hl8
      have nlp : l ≠ p := fun e => by rw [e, hp6] at hl8; cases hl8
      have nHl : H l = none := by
        cases z : H l with
        | none => rfl
        | some o => rw [E6 _ _ nlu z] at hl8; cases hl8
      clear hl8 e8 hp6 d6 hu6' E6 dlk vo hown6 huxs dl
      -- payer
      show tSeq _ _ _ [some (.ref u), some (.ref na), some (.ref p), some (.int (i : Nat)), some own, some (.int near), some (.ref t0), some (.ref l), x8, x9] H8
      refine q_m (em_take (i := 0) (low := 2) (n := n + 5 * i + 1) rfl ep_c (by omega) ⟨by decide, by decide⟩) hu8 fun pa H9 hpa e9 hu9 => ?_
      have E9 := E8.trans e9
      have hp9 := e9 _ _ npu hp8
      have hl9 := e9 _ _ nlu hl
      have d9 := dp_txA (hu8.tx e9) _ _ (sheetsA_flat S) d8
      have dlk9 := dp_tx (hu8.tx e9) _ _ (show flat (locksD []) = true from rfl) dlk8
      clear e9 hu8 E8 hp8 hl d8 dlk8
      show tSeq _ _ _ [some (.ref u), some (.ref na), some (.ref p), some (.int (i : Nat)), some own, some (.int near), some (.ref t0), some (.ref l), some (.int pa), x9] H9
      -- the end of a turn
      have fin : ∀ (D : Ends) (_ : ∀ σ H', (i + 1 ≤ 6 ∧ (∃ x3 x4 x5 x6 x7 x8 x9, σ = [some (.ref u), some (.ref na), some (.ref p), x3, x4, x5, x6, x7, x8, x9]) ∧ ExB u H H' ∧ Urn u (n + 5 * (i + 1)) H' ∧ ∃ (S : List Sheet) (us : List V), S.length = i + 1 ∧ (∀ (j : Nat) s, S[j]? = some s → ShOk1 (chOf N (j : Nat)) j s) ∧ H' p = some (.lst us) ∧ DpAll K H' us (S.map sheetD)) → D.nx σ H') (G : Hp) (lkv : V) (y9 : Option V) (a b : Int) (Lk : List (Int × Int × Int × Int)), ExB u H G → Urn u (n + 5 * i + 4) G → G p = some (.lst us) → DpAll K G us (S.map sheetD) → G l = some (.lst ([a, b].map V.int)) → Dp K G lkv (locksD Lk) → 0 ≤ a → 0 ≤ b →
          a + b + (Lk.map fun l => l.2.1).sum = c.2.2.1 + c.2.2.2 → (Lk = [] ∨ ∃ p m : Int, Lk = [(p, m, 3, 20)] ∧ (p = 0 ∨ p = 1) ∧ 1 ≤ m) →
          tDrop (tBM K "list" rAppend (tVar 2) (tCons (tTup (tCons (tVar 3) (tCons (tOp (rI0 fun i j => .int (i + j)) (tC (.int 1)) (tCall spTake [] E0 (tCons (tVar 0) (tCons (tC (.int 5)) tNil)))) (tCons (tCB (rTupleOf K) (tCons (tVar 7) tNil)) (tCons (tVar 6) tNil))))) tNil))
            D
            [some (.ref u), some (.ref na), some (.ref p), some (.int (i : Nat)), some own, some (.int near), some lkv, some (.ref l), some (.int pa), y9] G := fun D hD G lkv y9 a b Lk EG huG hpG dG hlG dlG ha hb htot hlk => by
        refine sh_append (H0 := H) (n := n + 5 * i + 4) rfl rfl rfl rfl rfl hp0 npu nlu EG huG (by omega) hpG dG (by omega) hlG dlG fun nm H' us' hnm E' hu' hp' d' => hD _ _ ⟨by omega, ⟨_, _, _, _, _, _, _, rfl⟩, E', urn_le hu' (by omega), _, us', by rw [List.length_append, hS]; rfl, fun j s hj => ?_, hp', d'⟩
        rcases Nat.lt_or_ge j S.length with hjl | hjl
        · rw [List.getElem?_append_left hjl] at hj
          exact hok j s hj
        · rw [List.getElem?_append_right hjl] at hj
          have ej : j = i := by
            have := (List.getElem?_eq_some_iff.mp hj).1
            rw [List.length_singleton] at this
            omega
          subst ej
          rw [hS, Nat.sub_self] at hj
          have es := Option.some.inj hj
          subst es
          rw [hch]
          exact ⟨rfl, hnm, ha, hb, htot, hlk⟩
      have vs9 : EvD K (tVar 7) [some (.ref u), some (.ref na), some (.ref p), some (.int (i : Nat)), some own, some (.int near), some (.ref t0), some (.ref l), some (.int pa), x9] H9 (.list ([near, c.2.2.1 + c.2.2.2 - near].map .int)) := ed_atI rfl hl9
      have hat : ∃ sm, (sm = if pa = 0 then near else c.2.2.1 + c.2.2.2 - near) ∧ atI ([near, c.2.2.1 + c.2.2.2 - near].map PyData.int) pa = some (.int sm) := by
        have p01 : pa = 0 ∨ pa = 1 := by omega
        rcases p01 with rfl | rfl
        · exact ⟨_, rfl, at0⟩
        · exact ⟨_, rfl, at1⟩
      obtain ⟨sm, hsm, hat⟩ := hat
      have gs := ev_i (ed_ixL vs9 (ev_var (i := 8) (v := .int pa) rfl) hat)
      refine (et_T (ev_op gs (ev_c (v := .int 1)) rv_I0)) H9 (Ex.refl _) _ fun H10 e10 => ?_
      have tot0 : near + (c.2.2.1 + c.2.2.2 - near) + (([] : List (Int × Int × Int × Int)).map fun l => l.2.1).sum = c.2.2.1 + c.2.2.2 := by
        show near + (c.2.2.1 + c.2.2.2 - near) + 0 = _
        omega
      by_cases hgt : 1 < sm
      · rw [decide_eq_true hgt]
        have hu10 := hu9.ex e10
        have hp10 := e10 _ _ hp9
        have hl10 := e10 _ _ hl9
        have d10 := dpeA d9 e10
        have dlk10 := dpe dlk9 e10
        have E10 := E9.trans (exb_ex e10)
        clear e10 hu9 hp9 hl9 d9 dlk9 E9 gs vs9
        -- the second test
        refine (em_take (i := 0) (low := 2) (te := tC (.int 2)) (n := n + 5 * i + 2) rfl ep_c (by omega) ⟨by decide, by decide⟩) H10 (ExB.refl _ _) hu10 _ fun y H11 hy e11 hu11 => ?_
        have hp11 := e11 _ _ npu hp10
        have hl11 := e11 _ _ nlu hl10
        have d11 := dp_txA (hu10.tx e11) _ _ (sheetsA_flat S) d10
        have dlk11 := dp_tx (hu10.tx e11) _ _ (show flat (locksD []) = true from rfl) dlk10
        have E11 := E10.trans e11
        clear e11 hu10 hp10 hl10 d10 dlk10 E10
        refine ⟨rfl, _, rfl, ?_⟩
        by_cases hy0 : y = 0
        · subst hy0
          rw [dec_self, if_pos (show true = true from rfl)]
          show tSeq _ _ _ [some (.ref u), some (.ref na), some (.ref p), some (.int (i : Nat)), some own, some (.int near), some (.ref t0), some (.ref l), some (.int pa), x9] H11
          have psm : ∀ (y9 : Option V) (G : Hp), G l = some (.lst ([near, c.2.2.1 + c.2.2.2 - near].map V.int)) → Ev (tOp (rIx K) (tVar 7) (tVar 8)) [some (.ref u), some (.ref na), some (.ref p), some (.int (i : Nat)), some own, some (.int near), some (.ref t0), some (.ref l), some (.int pa), y9] G (.int sm) := fun y9 G hG =>
            ev_i (ed_ixL (ed_atI (K := K) rfl hG) (ev_var (i := 8) (v := .int pa) rfl) hat)
          have t5 : EvM (tOp (rI0 fun i j => .int (i + j)) (tC (.int 1)) (tCall spTake [] E0 (tCons (tVar 0) (tCons (tOp (rI0 fun i j => .int (i - j)) (tOp (rIx K) (tVar 7) (tVar 8)) (tC (.int 1))) tNil)))) [some (.ref u), some (.ref na), some (.ref p), some (.int (i : Nat)), some own, some (.int near), some (.ref t0), some (.ref l), some (.int pa), x9] H11 u (n + 5 * i + 3) (n + 5 * i + 4) (fun x => 1 ≤ x ∧ x < sm) :=
            em_op (em_p (i := 1) ep_c) (em_take (i := 0) (low := sm - 1) rfl (fun G eG => ev_op (psm _ G (eG _ _ nlu hl11)) ev_c rv_I0) (by omega) ⟨by omega, by rw [hsm]; split <;> omega⟩) fun i j H hi hj => ⟨rv_I0, by omega, by omega⟩
          refine q_m t5 hu11 fun am H12 ham e12 hu12 => ?_
          show tAsg _ _ _ [some (.ref u), some (.ref na), some (.ref p), some (.int (i : Nat)), some own, some (.int near), some (.ref t0), some (.ref l), some (.int pa), some (.int am)] H12
          have hp12 := e12 _ _ npu hp11
          have hl12 := e12 _ _ nlu hl11
          have d12 := dp_txA (hu11.tx e12) _ _ (sheetsA_flat S) d11
          have E12 := E11.trans e12
          clear e12 hu11 hp11 hl11 d11 dlk11 E11 t5
          refine (ev_op (psm _ H12 hl12) (ev_var (i := 9) (v := .int am) rfl) rv_I0) H12 (Ex.refl _) _ fun H13 e13 => ?_
          have vpa : EvD K (tVar 8) [some (.ref u), some (.ref na), some (.ref p), some (.int (i : Nat)), some own, some (.int near), some (.ref t0), some (.ref l), some (.int pa), some (.int am)] H13 (.int pa) := ed_i (ev_var rfl)
          have vam : EvD K (tVar 9) [some (.ref u), some (.ref na), some (.ref p), some (.int (i : Nat)), some own, some (.int near), some (.ref t0), some (.ref l), some (.int pa), some (.int am)] H13 (.int am) := ed_i (ev_var rfl)
          have lkd := ed_tup (eds_cons (ed_tup (eds_cons vpa (eds_cons vam (eds_cons (ed_tup (eds_cons (ed_cstr (s := "image")) (eds_cons (ed_cint (i := 3)) eds_nil)) (le5 rfl)) (eds_cons (ed_cint (i := 20)) eds_nil)))) (le5 rfl)) eds_nil) (le5 rfl)
          refine lkd H13 (Ex.refl _) _ fun lkv H14 e14 hlkv => ⟨by show 2 ≤ sizeLine; decide, fun t ht => ?_⟩
          have ext : Ex H14 (upd H14 t (.tup [.int (sm - am), lkv])) := Ex.new ht
          have eX := (e13.trans e14).trans ext
          refine ⟨t, _, rfl, st_of upd_same, rfl, _, _, rfl, ?_⟩
          have hl15 := eX _ _ hl12
          have hp15 := eX _ _ hp12
          have d15 := dpeA d12 eX
          have hu15 := hu12.ex eX
          have E15 := E12.trans (exb_ex eX)
          have hlk15 := dpe hlkv ext
          generalize upd H14 t (.tup [.int (sm - am), lkv]) = H15 at hl15 hp15 d15 hu15 E15 hlk15 ⊢
          obtain ⟨a', b', hset, ha', hb', hab⟩ : ∃ a' b' : Int, (([near, c.2.2.1 + c.2.2.2 - near].map V.int).set pa.toNat (.int (sm - am))) = [a', b'].map V.int ∧ 0 ≤ a' ∧ 0 ≤ b' ∧ a' + b' + am = c.2.2.1 + c.2.2.2 := by
            have p01 : pa = 0 ∨ pa = 1 := by omega
            rcases p01 with rfl | rfl
            · rw [if_pos rfl] at hsm
              exact ⟨sm - am, c.2.2.1 + c.2.2.2 - near, rfl, by omega, by omega, by omega⟩
            · rw [if_neg (by decide)] at hsm
              exact ⟨near, sm - am, rfl, by omega, by omega, by omega⟩
          refine ⟨_, rfl, _, rfl, l, _, pa, pa.toNat, rfl, rfl, hl15, ?_, lkv, [], rfl, rfl, ?_⟩
          · have p01 : pa = 0 ∨ pa = 1 := by omega
            rcases p01 with rfl | rfl <;> rfl
          · rw [hset]
            refine fin _ (fun _ _ z => z) _ _ _ a' b' [(pa, am, 3, 20)] (fun x o hne hx => ?_) (hu15.mut fun e => nlu e.symm) (by rw [upd_ne fun e => nlp e.symm]; exact hp15) (dp_txA (tx_upd hl15) _ _ (sheetsA_flat S) d15) upd_same (dp_tx (tx_upd hl15) (locksD [(pa, am, 3, 20)]) _ rfl hlk15) ha' hb' ?_ (.inr ⟨pa, am, rfl, by omega, ham.1⟩)
            · rw [upd_ne (ne_of_none hx nHl)]
              exact E15 _ _ hne hx
            · show a' + b' + (am + 0) = _
              omega
        · rw [show decide (V.int y = V.int 0) = false from decide_eq_false fun e => hy0 (by injection e)]
          exact fin _ (fun _ _ z => z) H11 _ _ near (c.2.2.1 + c.2.2.2 - near) [] E11 (urn_le hu11 (by omega)) hp11 d11 hl11 dlk11 (by omega) (by omega) tot0 (.inl rfl)
      · rw [decide_eq_false hgt]
        exact fin _ (fun _ _ z => z) H10 _ _ near (c.2.2.1 + c.2.2.2 - near) [] (E9.trans (exb_ex e10)) (urn_le (hu9.ex e10) (by omega)) (e10 _ _ hp9) (dpeA d9 e10) (e10 _ _ hl9) (dpe dlk9 e10) (by omega) (by omega) tot0 (.inl rfl)
  · obtain ⟨hi6, ⟨x3, x4, x5, x6, x7, x8, x9, rfl⟩, e4, hu4, S, us, hS, hok, hp4, d4⟩ := hP
    rw [List.length_mapIdx, List.length_map] at hS hu4
    have vf : EvD K (tVar 2) [some (.ref u), some (.ref na), some (.ref p), x3, x4, x5, x6, x7, x8, x9] H4 (.list (S.map sheetD)) := ed_at rfl hp4 d4
    have hfew := ok.few
    exact (ed_tupleL vf) H4 (Ex.refl _) _ fun v H5 e5 hv => q v S H5 ⟨hS, hok⟩ (e4.trans (exb_ex e5)) (urn_le (hu4.ex e5) (by omega)) hv
end
end KT

set_option Elab.async false
set_option linter.all false
set_option autoImplicit false
set_option maxRecDepth 100000
set_option maxHeartbeats 4000000
/-! La: heard. -/
namespace KT
open PySem PySem.Spec PyProof.Rows L2 Evl KD KM
def rIsEd (K : PySem.W.Frag) (C a : Addr) (cls : Value) (d : Option Addr) : List V → Hp → VK → Prop := fun xs H Q => cls = .ref C ∧ d = none ∧ rIsE K C a xs H Q
theorem cr_isE {X : Cx} {a C : Addr} {oe : Obj} {cls : Value} {d : Option Addr} {pn : List (Addr × Obj)} (ok : ExcC X.K C) (hz : Zc cls d oe) (hf : ∃ vs, oe.data = .fields vs) : CallR (X.suite a ((a, oe) :: pn)) (.builtin "isinstance") (rIsEd X.K C a cls d) := by
  intro pins s σ H xs us Q I r h
  obtain ⟨rfl, rfl, h⟩ := h
  exact call_isE ok hz hf pins s σ H xs us Q I r h
/-- a promise of data that stands apart from the lists that stood -/
def spC (K : PySem.W.Frag) (R : List PyData → PyData → Prop) : Sp := fun vs H Q _ => ∃ ds d, R ds d ∧ DpAll K H vs ds ∧ ∀ v H', Ex H H' → Dp K (cutL H H') v d → Q v H'
theorem cut_tx {H H' : Hp} (e : Ex H H') : Tx H' (cutL H H') := fun a xs h => by
  have n : ∀ us, H a ≠ some (.lst us) := fun us z => by
    rcases h with h | ⟨o, h⟩ <;> (rw [e _ _ z] at h; cases h)
  rcases h with h | ⟨o, h⟩
  · exact .inl (by rw [cutL_of n]; exact h)
  · exact .inr ⟨o, by rw [cutL_of n]; exact h⟩
section
variable {K : PySem.W.Frag} {σ : L2.St} {H Hb : Hp} {ds : List PyData} {d : PyData}
theorem ed_callC {R : List PyData → PyData → Prop} {E : XK} {tr : TA} (h : EvDs K tr σ H ds) (hr : R ds d) : EvD K (tCall (spC K R) [] E tr) σ H d := fun H1 e Q q =>
  h H1 e _ fun vs H2 e2 hv => ⟨ds, d, hr, by rw [List.append_nil]; exact hv, fun v H3 e3 hd => q v H3 (e2.trans e3) (dpe hd cutL_ex)⟩
theorem evx_callC {R : List PyData → PyData → Prop} {E : XK} {tr : TA} (h : EvDs K tr σ H ds) (hr : R ds d) : EvX K (tCall (spC K R) [] E tr) σ Hb H d := fun H1 e Q q =>
  h H1 e _ fun vs H2 e2 hv => ⟨ds, d, hr, by rw [List.append_nil]; exact hv, fun v H3 e3 hd => q v H3 (cutL H2 H3) (e2.trans e3) cutL_ex (fun p us _ hp => cutL_lst (e2 _ _ hp)) hd⟩
end
section
variable {P : Program} {w : World} {K : PySem.W.Frag} {mg : Str → Option Value} {base : Heap} {CUnfit CCanNot : Addr}
def toldD (s : Str) : PyData := .list [.str s, .bool true]
def R_heard (ds : List PyData) (d : PyData) : Prop := ∃ (i : Int) (args : List PyData), ds = [.int i, .tuple args] ∧
  ((i = 0 ∧ (R_br args d ∨ (Rx_br args ∧ d = toldD "can not"))) ∨ (i = 1 ∧ (R_wd args d ∨ (Rx_wd args ∧ d = toldD "can not"))) ∨ (i = 2 ∧ (R_pl args d ∨ (Rx_pl args ∧ d = toldD "unfit"))))
structure Catch (K : PySem.W.Frag) (CU CN : Addr) : Prop where
  uu : PySem.W.exmOne K (.ref CU) (.ref CU) = some true
  nu : PySem.W.exmOne K (.ref CN) (.ref CU) = some false
  nn : PySem.W.exmOne K (.ref CN) (.ref CN) = some true
  ku : PySem.W.kitOne K (.ref CU) (.type "ValueError") = some true
  kn : PySem.W.kitOne K (.ref CN) (.type "ValueError") = some true
theorem flat_br {ds : List PyData} {d : PyData} (h : R_br ds d) : flat d = true := by
  obtain ⟨N, S, p, q, am, r, more, _, _, rfl⟩ := h
  exact rowD_flat r
theorem flat_wd {ds : List PyData} {d : PyData} (h : R_wd ds d) : flat d = true := by
  obtain ⟨N, S, p, q, r, more, _, _, _, rfl⟩ := h
  exact rowD_flat r
theorem flat_pl {ds : List PyData} {d : PyData} (h : R_pl ds d) : flat d = true := by
  obtain ⟨N, p, r, am, s, l, _, _, rfl⟩ := h
  exact flatA_map (entD_flat am s) _
theorem at4 {α : Type} {a b c d e : α} {l : List α} : atI (a :: b :: c :: d :: e :: l) 4 = some e := atI_nat (j := 4) rfl
theorem at5 {α : Type} {a b c d e f : α} {l : List α} : atI (a :: b :: c :: d :: e :: f :: l) 5 = some f := atI_nat (j := 5) rfl
theorem ed_part {σ : L2.St} {H : Hp} {v : V} {args : List PyData} (hσ : σ[1]? = some (some v)) (hv : Dp K H v (.tuple args)) {k : Int} {d : PyData} (h : atI args k = some d) : EvD K (tOp (rIx K) (tVar 1) (tC (.int k))) σ H d :=
  ed_ixT (ed_var hσ hv) ev_c h
theorem s_try {C : Addr} {R : List PyData → PyData → Prop} {Rx : List PyData → Prop} {W : WX} {ta : TA} {σ : L2.St} {H : Hp} {ds : List PyData} {D : Ends} (h : EvDs K ta σ H ds)
    (k : (∃ d, R ds d ∧ ∀ v H', Ex H H' → Dp K H' v d → D.rt v H') ∨ (Rx ds ∧ ∀ H', Ex H H' → W (.ref C) none σ H')) : tRet (tCallS (spE K C R Rx) (WE W) ta) D σ H :=
  h H (Ex.refl H) _ fun vs H1 e1 hv => ⟨ds, hv, by
    rcases k with ⟨d, hd, q⟩ | ⟨hd, q⟩
    · exact .inl ⟨d, hd, fun v H2 e2 hv2 => q v H2 (e1.trans e2) hv2⟩
    · exact .inr ⟨hd, fun H2 e2 => q H2 (e1.trans e2)⟩⟩
theorem d_heard (B : Bt mg) (A : At K mg "_law_heard" s__law_heard ["_law_door", "_law_parts"]) (e_Unfit : ErrC K mg "Unfit" CUnfit) (e_CanNot : ErrC K mg "CanNot" CCanNot) (x_Unfit : ExcC K CUnfit) (x_CanNot : ExcC K CCanNot) (T : Catch K CUnfit CCanNot)
    (c_best_route : Dfn P w K mg base "best_route" ["net", "sheets", "payer", "payee", "amount"] (L2.CX P w) 8 (spE K CCanNot R_br Rx_br)) (c_widest : Dfn P w K mg base "widest" ["net", "sheets", "payer", "payee"] (L2.CX P w) 7 (spE K CCanNot R_wd Rx_wd))
    (c_payment_locks : Dfn P w K mg base "payment_locks" ["net", "payer", "route", "amount", "image", "ends"] (L2.CX P w) 6 (spE K CUnfit R_pl Rx_pl)) : Dfn P w K mg base "_law_heard" ["_law_door", "_law_parts"] CX0 9 (spC K R_heard) := by
  refine at_ok0 A sc__law_heard (fun vs H Q E h => by obtain ⟨ds, d, ⟨i, args, rfl, _⟩, hv, _⟩ := h; exact dpA_len hv) (fun f cdv A outer s H0 E hr => ⟨_, (pss_one (ps_try_asL (i := 2) (Wout := fun _ _ _ _ => False) rfl rfl sc__law_heard.nd rfl rfl takes0 (fun W pn xe tk => (pss_cons (ps_if (pt_cmpR op_eq (pv 0) pe_int (nomark _)) (pss_one (ps_ret (pe_fnX c_best_route tk hr (by omega) (by rfl) (pa_cons (pe_ix (r := rIx K) ix_seq (pv 1) pe_int (fun _ _ => rfl)) (pa_cons (pe_ix (r := rIx K) ix_seq (pv 1) pe_int (fun _ _ => rfl)) (pa_cons (pe_ix (r := rIx K) ix_seq (pv 1) pe_int (fun _ _ => rfl)) (pa_cons (pe_ix (r := rIx K) ix_seq (pv 1) pe_int (fun _ _ => rfl)) (pa_cons (pe_ix (r := rIx K) ix_seq (pv 1) pe_int (fun _ _ => rfl)) pa_nil)))))))) pss_nil) (pss_cons (ps_if (pt_cmpR op_eq (pv 0) pe_int (nomark _)) (pss_one (ps_ret (pe_fnX c_widest tk hr (by omega) (by rfl) (pa_cons (pe_ix (r := rIx K) ix_seq (pv 1) pe_int (fun _ _ => rfl)) (pa_cons (pe_ix (r := rIx K) ix_seq (pv 1) pe_int (fun _ _ => rfl)) (pa_cons (pe_ix (r := rIx K) ix_seq (pv 1) pe_int (fun _ _ => rfl)) (pa_cons (pe_ix (r := rIx K) ix_seq (pv 1) pe_int (fun _ _ => rfl)) pa_nil))))))) pss_nil) (pss_one (ps_ret (pe_fnX c_payment_locks tk hr (by omega) (by rfl) (pa_cons (pe_ix (r := rIx K) ix_seq (pv 1) pe_int (fun _ _ => rfl)) (pa_cons (pe_ix (r := rIx K) ix_seq (pv 1) pe_int (fun _ _ => rfl)) (pa_cons (pe_ix (r := rIx K) ix_seq (pv 1) pe_int (fun _ _ => rfl)) (pa_cons (pe_ix (r := rIx K) ix_seq (pv 1) pe_int (fun _ _ => rfl)) (pa_cons (pe_ix (r := rIx K) ix_seq (pv 1) pe_int (fun _ _ => rfl)) (pa_cons (pe_ix (r := rIx K) ix_seq (pv 1) pe_int (fun _ _ => rfl)) pa_nil)))))))))))) (AsOk.cons ⟨rfl, by decide, Or.inl e_Unfit.gC⟩ (fun a oe cls d pn hz hf => (pss_one (ps_ret (pe_lst (pa_cons pe_str (pa_cons (pe_callB (r := rIsEd K CUnfit a cls d) (cr_isE x_Unfit hz hf) (by rfl) B.isinstance (by decide +kernel) (pa_cons (pv 2) (pa_cons (pe_bltn (v := .ty "ValueError") (by rfl) B.ValueError (by decide +kernel) rfl) pa_nil))) pa_nil)))))) (AsOk.cons ⟨rfl, by decide, Or.inl e_CanNot.gC⟩ (fun a oe cls d pn hz hf => (pss_one (ps_ret (pe_lst (pa_cons pe_str (pa_cons (pe_callB (r := rIsEd K CCanNot a cls d) (cr_isE x_CanNot hz hf) (by rfl) B.isinstance (by decide +kernel) (pa_cons (pv 2) (pa_cons (pe_bltn (v := .ty "ValueError") (by rfl) B.ValueError (by decide +kernel) rfl) pa_nil))) pa_nil)))))) AsOk.nil)))), fun vs H Q h => ?_⟩)
  obtain ⟨ds, d, ⟨i, args, rfl, hd⟩, hv, qc⟩ := h
  obtain ⟨v, u, rfl, hi, ha⟩ := dpA2 hv
  have ei := dp_vint hi
  subst ei
  have q : flat d = true → ∀ v H', Ex H H' → Dp K H' v d → Q v H' := fun hf v H' e hv => qc v H' e (dp_tx (cut_tx e) _ _ hf hv)
  have told : ∀ (s : Str) (C a : Addr) (G : Hp), Ex H G → PySem.W.kitOne K (.ref C) (.type "ValueError") = some true → (∀ v H2, Ex H H2 → Dp K (cutL H H2) v (toldD s) → Q v H2) →
      tLst (tCons (tC (.str s)) (tCons (tCB (rIsEd K C a (.ref C) none) (tCons (tVar 2) (tCons (tC (.ty "ValueError")) tNil))) tNil)) [some (.int i), some u, some (.ref a)] G Q := fun s C a G e hk q => by
    refine ⟨_, rfl, rfl, rfl, .ty "ValueError", .type "ValueError", true, rfl, fun u r => r, hk, by show 2 ≤ sizeLine; decide, fun p hp => q _ _ (e.trans (Ex.new hp)) (.lst (sq_of (by rw [cutL_of fun us z => by rw [e _ _ z] at hp; cases hp]; exact upd_same)) (.cons (.str _) (.cons (.bl _) .nil)))⟩
  have vd : Ev (tVar 0) [some (.int i), some u, none] H (.int i) := ev_var rfl
  refine q_when (et_T (ev_op vd (ev_c (v := .int 0)) (rv_eq rfl))) (fun z H1 e1 => ?_) (fun z H1 e1 => ?_)
  · rw [dec_ii] at z
    have ei : i = 0 := of_decide_eq_true z
    subst ei
    have hh : R_br args d ∨ (Rx_br args ∧ d = toldD "can not") := by
      rcases hd with ⟨_, h⟩ | ⟨h, _⟩ | ⟨h, _⟩
      · exact h
      · cases h
      · cases h
    have five : ∃ a b c e f, args = [a, b, c, e, f] := by
      rcases hh with ⟨N, S, p, q, am, r, more, ⟨n, sh, rfl, _⟩, _⟩ | ⟨⟨N, S, p, q, am, ⟨n, sh, rfl, _⟩, _⟩, _⟩ <;> exact ⟨_, _, _, _, _, rfl⟩
    obtain ⟨a0, a1, a2, a3, a4, rfl⟩ := five
    have ha1 := dpe ha e1
    have hargs := eds_cons (ed_part (σ := [some (.int 0), some u, none]) rfl ha1 at0) (eds_cons (ed_part (σ := [some (.int 0), some u, none]) rfl ha1 at1) (eds_cons (ed_part (σ := [some (.int 0), some u, none]) rfl ha1 at2) (eds_cons (ed_part (σ := [some (.int 0), some u, none]) rfl ha1 at3) (eds_cons (ed_part (σ := [some (.int 0), some u, none]) rfl ha1 at4) eds_nil))))
    refine s_try (K := K) hargs ?_
    rcases hh with hh | ⟨hh, rfl⟩
    · exact .inl ⟨d, hh, fun v H3 e3 hv => q (flat_br hh) v H3 (e1.trans e3) hv⟩
    · exact .inr ⟨hh, fun H3 e3 => ⟨false, T.nu, fun _ => ⟨true, T.nn, fun z => (by cases z), fun _ a hfree => told "can not" CCanNot a H3 (e1.trans e3) T.kn qc⟩, fun z => (by cases z)⟩⟩
  · rw [dec_ii] at z
    have ni : i ≠ 0 := of_decide_eq_false z
    refine q_when (et_T (ev_op (vd.mono e1) (ev_c (v := .int 1)) (rv_eq rfl))) (fun z H2 e2 => ?_) (fun z H2 e2 => ?_)
    · rw [dec_ii] at z
      have ei : i = 1 := of_decide_eq_true z
      subst ei
      have hh : R_wd args d ∨ (Rx_wd args ∧ d = toldD "can not") := by
        rcases hd with ⟨h, _⟩ | ⟨_, h⟩ | ⟨h, _⟩
        · cases h
        · exact h
        · cases h
      have four : ∃ a b c e, args = [a, b, c, e] := by
        rcases hh with ⟨N, S, p, q, r, more, ⟨n, sh, rfl, _⟩, _⟩ | ⟨⟨N, S, p, q, ⟨n, sh, rfl, _⟩, _⟩, _⟩ <;> exact ⟨_, _, _, _, rfl⟩
      obtain ⟨a0, a1, a2, a3, rfl⟩ := four
      have ha1 := dpe ha (e1.trans e2)
      have hargs := eds_cons (ed_part (σ := [some (.int 1), some u, none]) rfl ha1 at0) (eds_cons (ed_part (σ := [some (.int 1), some u, none]) rfl ha1 at1) (eds_cons (ed_part (σ := [some (.int 1), some u, none]) rfl ha1 at2) (eds_cons (ed_part (σ := [some (.int 1), some u, none]) rfl ha1 at3) eds_nil)))
      refine s_try (K := K) hargs ?_
      rcases hh with hh | ⟨hh, rfl⟩
      · exact .inl ⟨d, hh, fun v H4 e4 hv => q (flat_wd hh) v H4 ((e1.trans e2).trans e4) hv⟩
      · exact .inr ⟨hh, fun H4 e4 => ⟨false, T.nu, fun _ => ⟨true, T.nn, fun z => (by cases z), fun _ a hfree => told "can not" CCanNot a H4 ((e1.trans e2).trans e4) T.kn qc⟩, fun z => (by cases z)⟩⟩
    · rw [dec_ii] at z
      have ni1 : i ≠ 1 := of_decide_eq_false z
      have hh : R_pl args d ∨ (Rx_pl args ∧ d = toldD "unfit") := by
        rcases hd with ⟨h, _⟩ | ⟨h, _⟩ | ⟨_, h⟩
        · exact absurd h ni
        · exact absurd h ni1
        · exact h
      have six : ∃ a b c e f g, args = [a, b, c, e, f, g] := by
        rcases hh with ⟨N, p, r, am, s, l, ⟨n, rt, m, e, f, rfl, _⟩, _⟩ | ⟨⟨N, p, r, am, s, l, ⟨n, rt, m, e, f, rfl, _⟩, _⟩, _⟩ <;> exact ⟨_, _, _, _, _, _, rfl⟩
      obtain ⟨a0, a1, a2, a3, a4, a5, rfl⟩ := six
      have ha1 := dpe ha (e1.trans e2)
      have hargs := eds_cons (ed_part (σ := [some (.int i), some u, none]) rfl ha1 at0) (eds_cons (ed_part (σ := [some (.int i), some u, none]) rfl ha1 at1) (eds_cons (ed_part (σ := [some (.int i), some u, none]) rfl ha1 at2) (eds_cons (ed_part (σ := [some (.int i), some u, none]) rfl ha1 at3) (eds_cons (ed_part (σ := [some (.int i), some u, none]) rfl ha1 at4) (eds_cons (ed_part (σ := [some (.int i), some u, none]) rfl ha1 at5) eds_nil)))))
      refine s_try (K := K) hargs ?_
      rcases hh with hh | ⟨hh, rfl⟩
      · exact .inl ⟨d, hh, fun v H4 e4 hv => q (flat_pl hh) v H4 ((e1.trans e2).trans e4) hv⟩
      · exact .inr ⟨hh, fun H4 e4 => ⟨true, T.uu, fun z => (by cases z), fun _ a hfree => told "unfit" CUnfit a H4 ((e1.trans e2).trans e4) T.ku qc⟩⟩
end
end KT

set_option Elab.async false
set_option linter.all false
set_option autoImplicit false
set_option maxRecDepth 100000
set_option maxHeartbeats 4000000
/-! Lb: locks_right. -/
namespace KT
open PySem PySem.Spec PyProof.Rows L2 Evl KD KM
theorem okD_le {n m : Nat} {d : PyData} (h : okD n d) (l : n ≤ m) : okD m d := by
  induction l with
  | refl => exact h
  | step _ ih => exact okD_mono _ _ ih
theorem ok_sc {n : Nat} {d : PyData} (h : isSc d = true) : okD (n + 1) d := .inl h
theorem ok_tup {n : Nat} {ds : List PyData} (h : ds.length ≤ 1000) (k : ∀ e ∈ ds, okD n e) : okD (n + 1) (.tuple ds) := .inr ⟨ds, rfl, h, k⟩
theorem ok_lst {n : Nat} {ds : List PyData} (h : ds.length ≤ 1000) (k : ∀ e ∈ ds, okD n e) : okD (n + 1) (.list ds) := .inr ⟨ds, rfl, h, k⟩
theorem ok_nil {n : Nat} : ∀ e ∈ ([] : List PyData), okD n e := fun e h => by cases h
theorem ok_cons {n : Nat} {d : PyData} {ds : List PyData} (h : okD n d) (k : ∀ e ∈ ds, okD n e) : ∀ e ∈ d :: ds, okD n e := fun e he => by
  rcases List.mem_cons.mp he with z | z
  · rw [z]; exact h
  · exact k e z
theorem ok_map {α : Type} {n : Nat} {f : α → PyData} {l : List α} (h : ∀ a ∈ l, okD n (f a)) : ∀ e ∈ l.map f, okD n e := fun e he => by
  obtain ⟨a, ha, rfl⟩ := List.mem_map.mp he
  exact h a ha
theorem ok_row {n : Nat} {r : List Int} (h : r.length ≤ 1000) : okD (n + 2) (rowD r) := ok_tup (by rw [List.length_map]; exact h) (ok_map fun a _ => ok_sc rfl)
theorem ok_img {n : Nat} {s : Int} : okD (n + 2) (imgD s) := ok_tup (by show 2 ≤ 1000; decide) (ok_cons (ok_sc rfl) (ok_cons (ok_sc rfl) ok_nil))
theorem ok_lock {n : Nat} {l : Int × Int × Int × Int} : okD (n + 3) (lockD l) := ok_tup (by show 4 ≤ 1000; decide) (ok_cons (ok_sc rfl) (ok_cons (ok_sc rfl) (ok_cons ok_img (ok_cons (ok_sc rfl) ok_nil))))
theorem ok_ent {n : Nat} {am s : Int} {a : Int × Int × Int} : okD (n + 4) (entD am s a) := ok_tup (by show 2 ≤ 1000; decide) (ok_cons (ok_sc rfl) (ok_cons ok_lock ok_nil))
theorem ok_told {n : Nat} {s : Str} : okD (n + 2) (toldD s) := ok_lst (by show 2 ≤ 1000; decide) (ok_cons (ok_sc rfl) (ok_cons (ok_sc rfl) ok_nil))
theorem ok_net {n : Nat} {N : List Ch} (h : N.length ≤ 6) : okD (n + 3) (netD N) := ok_tup (by rw [List.length_map]; omega) (ok_map fun c _ => ok_tup (by show 4 ≤ 1000; decide) (ok_cons (ok_sc rfl) (ok_cons (ok_sc rfl) (ok_cons (ok_sc rfl) (ok_cons (ok_sc rfl) ok_nil)))))
theorem ok_sheets {n : Nat} {S : List Sheet} (h : S.length ≤ 6) (hl : ∀ s ∈ S, s.locks.length ≤ 2) : okD (n + 6) (sheetsD S) := ok_tup (by rw [List.length_map]; omega) (ok_map fun s hs => ok_tup (by show 4 ≤ 1000; decide) (ok_cons (ok_sc rfl) (ok_cons (ok_sc rfl)
  (ok_cons (ok_tup (by show 2 ≤ 1000; decide) (ok_cons (ok_sc rfl) (ok_cons (ok_sc rfl) ok_nil))) (ok_cons (ok_tup (by rw [List.length_map]; have := hl s hs; omega) (ok_map fun l _ => ok_lock)) ok_nil)))))
/-- lists of a net are a net -/
theorem lstD_sc {d : PyData} (h : isSc d = true) : lstD d = d := by cases d <;> first | rfl | cases h
theorem ch_lst (c : Ch) : lstD (chD c) = .list [.int c.1, .int c.2.1, .int c.2.2.1, .int c.2.2.2] := rfl
theorem NetL.lists {N : List Ch} (h : N.length ≤ 6) : NetL (lstD (netD N)) N := by
  rw [lstD_sq (d := netD N) rfl, List.map_map]
  refine ⟨ok_lst (by rw [List.length_map]; omega) (ok_map fun c _ => ok_lst (by show 4 ≤ 1000; decide) (ok_cons (ok_sc rfl) (ok_cons (ok_sc rfl) (ok_cons (ok_sc rfl) (ok_cons (ok_sc rfl) ok_nil))))), ?_⟩
  rw [tupD_sq (d := .list _) rfl, List.map_map]
  rfl
/-- the sums of sheets -/
def sumsOf (S : List Sheet) : List (Int × Int) := S.map fun s => (s.a, s.b)
theorem ShL.tup (S : List Sheet) : ShL (sheetsD S) (sumsOf S) := ⟨S.map sheetD, rfl, fun i s h => by
  unfold sumsOf at h
  rw [List.getElem?_map] at h
  cases q : S[i]? with
  | none => rw [q] at h; cases h
  | some t =>
    rw [q] at h
    cases h
    exact ⟨sheetD t, _, _, sumsD t.a t.b, _, by rw [List.getElem?_map, q]; rfl, rfl, rfl⟩⟩
theorem ShL.lists (S : List Sheet) : ShL (lstD (sheetsD S)) (sumsOf S) := ⟨(S.map sheetD).map lstD, by rw [lstD_sq (d := sheetsD S) rfl]; rfl, fun i s h => by
  unfold sumsOf at h
  rw [List.getElem?_map] at h
  cases q : S[i]? with
  | none => rw [q] at h; cases h
  | some t =>
    rw [q] at h
    cases h
    exact ⟨lstD (sheetD t), _, _, .list [.int t.a, .int t.b], lstD (locksD t.locks), by rw [List.getElem?_map, List.getElem?_map, q]; rfl, rfl, rfl⟩⟩
theorem sumsOf_len (S : List Sheet) : (sumsOf S).length = S.length := List.length_map ..
theorem min_le (am : Int) : ∀ l : List Int, l ≠ [] → (l.map fun x => decide (am ≤ x)).all id = decide (minL l ≥ am)
  | [], h => absurd rfl h
  | [x], _ => by
    show (decide (am ≤ x) && true) = _
    rw [Bool.and_true]
    rfl
  | x :: y :: l, _ => by
    have ih := min_le am (y :: l) (List.cons_ne_nil _ _)
    show (decide (am ≤ x) && ((y :: l).map fun x => decide (am ≤ x)).all id) = decide (min x (minL (y :: l)) ≥ am)
    rw [ih]
    generalize minL (y :: l) = m
    by_cases h1 : am ≤ x <;> by_cases h2 : m ≥ am <;> simp [h1, h2] <;> omega
theorem zip_mid {α : Type} (g : Int → Int → α) : ∀ (r p l : List Int), l.length = p.length → (r.zip (p.zip l)).map (fun a => g a.1 a.2.1) = List.zipWith g r p
  | [], _, _, _ => rfl
  | _ :: _, [], [], _ => rfl
  | _ :: _, [], _ :: _, h => by cases h
  | _ :: _, _ :: _, [], h => by cases h
  | x :: r, y :: p, z :: l, h => congrArg (_ :: ·) (zip_mid g r p l (Nat.succ.inj h))
section
variable {P : Program} {w : World} {K : PySem.W.Frag} {mg : Str → Option Value} {base : Heap}
def R_lr (ds : List PyData) (d : PyData) : Prop := ∃ N S p r am l f, ds = [netD N, sheetsD S, .int p, rowD r, .int am, rowD l] ∧ NetOk N ∧ ShsOk N S ∧ peopleAlong N p r = some f ∧ r.length ≤ 6 ∧ l.length = r.length ∧ (∀ e ∈ l, 0 ≤ e) ∧ 1 ≤ am ∧ d = .bool true
/-- a sheet with one lock more -/
theorem lock_more {N : List Ch} {S : List Sheet} {s : Sheet} {c side am e : Int} {i : Nat} (hN : NetOk N) (hS : ShsOk N S) (hc : c = (i : Nat)) (hs : S[i]? = some s) (h01 : side = 0 ∨ side = 1) (ham : 1 ≤ am) (he : 0 ≤ e) :
    ShOk N ⟨c, s.num + 1, if side = 0 then s.a - am else s.a, if side = 0 then s.b else s.b - am, s.locks ++ [(side, am, 7, e)]⟩ ∧
    decide (0 ≤ (if side = 0 then s.a - am else s.a) ∧ 0 ≤ (if side = 0 then s.b else s.b - am)) = decide (am ≤ sumOf (sumsOf S) c side) := by
  have k := hS.at_ i s hs
  have hi : i < S.length := (List.getElem?_eq_some_iff.mp hs).1
  have hl := hS.len
  have e1 : sumOf (sumsOf S) c side = if side = 0 then s.a else s.b := by
    unfold sumOf sumsOf
    rw [hc, Int.toNat_natCast, List.getD_eq_getElem?_getD, List.getElem?_map, hs]
    rfl
  have ka := k.a
  have kb := k.b
  have kn := k.num
  refine ⟨⟨⟨by show 0 ≤ c; omega, by show c < _; omega⟩, by show 1 ≤ s.num + 1; omega, fun x hx => ?_, ?_, ?_, ?_⟩, ?_⟩
  · rcases List.mem_append.mp hx with hx | hx
    · rcases k.lk with z | ⟨p, m, z, z1, z2⟩
      · rw [z] at hx; cases hx
      · rw [z] at hx
        rw [List.mem_singleton.mp hx]
        exact ⟨z1, z2, by show (0 : Int) ≤ 3; decide, by show (0 : Int) ≤ 20; decide⟩
    · rw [List.mem_singleton.mp hx]
      exact ⟨h01, ham, by show (0 : Int) ≤ 7; decide, he⟩
  · show (s.locks ++ _).length ≤ 2
    rcases k.lk with z | ⟨p, m, z, _, _⟩ <;> rw [z]
    · show 1 ≤ 2
      decide
    · show 2 ≤ 2
      decide
  · show ((s.locks ++ _).map fun (l : Int × Int × Int × Int) => l.2.2.1).Nodup
    rcases k.lk with z | ⟨p, m, z, _, _⟩ <;> rw [z]
    · show [(7 : Int)].Nodup
      decide
    · show [(3 : Int), 7].Nodup
      decide
  · have kt := k.tot
    unfold totM at kt ⊢
    show (if side = 0 then s.a - am else s.a) + (if side = 0 then s.b else s.b - am) + ((s.locks ++ [(side, am, 7, e)]).map fun (l : Int × Int × Int × Int) => l.2.1).sum = (chOf N c).2.2.1 + (chOf N c).2.2.2
    rw [List.map_append, List.sum_append, hc, ← kt]
    show _ + (_ + (am + 0)) = _
    rcases h01 with rfl | rfl
    · rw [if_pos rfl, if_pos rfl]; omega
    · rw [if_neg (by decide), if_neg (by decide)]; omega
  · rw [e1]
    refine decide_eq_decide.mpr ?_
    rcases h01 with rfl | rfl
    · rw [if_pos rfl, if_pos rfl, if_pos rfl]; omega
    · rw [if_neg (by decide), if_neg (by decide), if_neg (by decide)]; omega
theorem ed_rep {σ : L2.St} {H : Hp} {ta tb : TE} {ds : List PyData} (ha : EvDL K ta σ H ds) (hb : Ev tb σ H (.int 2)) (hl : ds.length ≤ 1000) : EvD K (tOp rRep ta tb) σ H (.list (ds ++ ds)) := fun H1 e Q q =>
  ha H1 e _ fun p vs H2 hp e2 h2 hd => hb H2 (e.trans e2) _ fun H3 e3 => ⟨p, 2, vs, rfl, rfl, e3 _ _ h2, by decide, by decide, sz_of (by rw [dpA_len hd, show (2 : Int).toNat = 2 from rfl]; omega), fun t ht => q _ _ ((e2.trans e3).trans (Ex.new ht)) (.lst (sq_of (by
    rw [upd_same]
    rw [show (List.replicate (2 : Int).toNat vs).flatten = vs ++ vs from by show vs ++ (vs ++ []) = vs ++ vs; rw [List.append_nil]])) (dpA_app (dpeA hd (e3.trans (Ex.new ht))) (dpeA hd (e3.trans (Ex.new ht)))))⟩
theorem d_locks_right (B : Bt mg) (A : At K mg "_law_locks_right" s__law_locks_right ["_law_net_here", "_law_sheets_here", "_law_payer", "_law_row", "_law_amount", "_law_ends"])
    (c__law_lists : Dfn P w K mg base "_law_lists" ["_law_matter"] CX0 9 (spLists K 9)) (c__law_heard : Dfn P w K mg base "_law_heard" ["_law_door", "_law_parts"] CX0 9 (spC K R_heard)) (c__law_pays : Dfn P w K mg base "_law_pays" ["_law_net_here", "_law_payer", "_law_row"] CX0 1 (spL K R_pays))
    (c__law_same : Dfn P w K mg base "_law_same" ["_law_got", "_law_goal"] CX0 9 (spF K (R_same 9))) (c_is_sheet : Dfn P w K mg base "is_sheet" ["net", "thing"] CX0 5 (spF K R_is_sheet))
    (c__law_most : Dfn P w K mg base "_law_most" ["_law_net_here", "_law_sheets_here", "_law_payer", "_law_row"] CX0 2 (spF K R_lmost)) :
    Dfn P w K mg base "_law_locks_right" ["_law_net_here", "_law_sheets_here", "_law_payer", "_law_row", "_law_amount", "_law_ends"] CX0 10 (spF K R_lr) := by
  refine A.okD sc__law_locks_right (fun ds d h => by obtain ⟨N, S, p, r, am, l, f, rfl, _⟩ := h; rfl) (fun f cdv A outer s H0 E hr => ⟨_, (pss_cons (ps_set (i := 6) sc__law_locks_right.nd rfl (Or.inl rfl) (pe_fn c__law_heard hr (by omega) (by rfl) (pa_cons pe_int (pa_cons (pe_tup (pa_cons (pe_fn c__law_lists hr (by omega) (by rfl) (pa_cons (pv 0) pa_nil)) (pa_cons (pv 2) (pa_cons (pv 3) (pa_cons (pv 4) (pa_cons (pe_lst (pa_cons pe_str (pa_cons pe_int pa_nil))) (pa_cons (pv 5) pa_nil))))))) pa_nil)))) (pss_cons (ps_set (i := 7) sc__law_locks_right.nd rfl (Or.inl rfl) (pe_callTy (r := rTupleOf K) call_tuple_of (by rfl) B.tuple (by decide +kernel) (pa_cons (pe_lc (own := [("_law_k", 9), ("_law_side", 13), ("_law_end", 14)]) (g := gTup K 3 (gCons (gName 9) (gCons (gName 13) (gCons (gName 14) gNil)))) rfl sc__law_locks_right.nd (pi_z3 (by rfl) B.zip (pa_cons (pv 3) (pa_cons (pe_fn c__law_pays hr (by omega) (by rfl) (pa_cons (pv 0) (pa_cons (pv 2) (pa_cons (pv 3) pa_nil)))) (pa_cons (pv 5) pa_nil)))) (blkOk_by (own := [("_law_k", 9), ("_law_side", 13), ("_law_end", 14)]) (N := ["_law_net_here", "_law_sheets_here", "_law_payer", "_law_row", "_law_amount", "_law_ends", "_law_told", "_law_due", "_law_goods", "_law_k", "_law_lock", "_law_sums", "_law_bad", "_law_side", "_law_end", "_law_own"]) (sc := defScope s__law_locks_right) (by decide +kernel)) (fun _ _ _ _ _ => (pg_tup (by rfl) (pgs_cons (pg_name (i := 9) sc__law_locks_right.nd rfl (Or.inl rfl)) (pgs_cons (pg_name (i := 13) sc__law_locks_right.nd rfl (Or.inl rfl)) (pgs_cons (pg_name (i := 14) sc__law_locks_right.nd rfl (Or.inl rfl)) pgs_nil))))) (fun _ _ _ _ _ => pts_nil) (fun _ _ _ _ _ => (pe_tup (pa_cons (pv 9) (pa_cons (pe_tup (pa_cons (pv 13) (pa_cons (pv 4) (pa_cons (pe_tup (pa_cons pe_str (pa_cons pe_int pa_nil))) (pa_cons (pv 14) pa_nil))))) pa_nil))))) pa_nil))) (pss_cons (ps_if (pt_not (pt_val (pe_fn c__law_same hr (by omega) (by rfl) (pa_cons (pv 6) (pa_cons (pv 7) pa_nil))))) (pss_one (ps_ret pe_bl)) pss_nil) (pss_cons (ps_set (i := 8) sc__law_locks_right.nd rfl (Or.inl rfl) (pe_lst pa_nil)) (pss_cons (ps_for PassesOwn.never rfl (pi_any (pv 6)) (pg_tup (by rfl) (pgs_cons (pg_name (i := 9) sc__law_locks_right.nd rfl (Or.inl rfl)) (pgs_cons (pg_name (i := 10) sc__law_locks_right.nd rfl (Or.inl rfl)) pgs_nil))) (pss_cons (ps_set (i := 11) sc__law_locks_right.nd rfl (Or.inl rfl) (pe_callTy (r := rListS K) call_list_of (by rfl) B.list (by decide +kernel) (pa_cons (pe_ix (r := rIx K) ix_seq (pe_ix (r := rIx K) ix_seq (pv 1) (pv 9) (fun _ _ => rfl)) pe_int (fun _ _ => rfl)) pa_nil))) (pss_cons (ps_asg (pe_op op_sub (pe_ix (r := rIx K) ix_seq (pv 11) (pe_ix (r := rIx K) ix_seq (pv 10) pe_int (fun _ _ => rfl)) (fun _ _ => rfl)) (pv 4)) (pg_sub (pv 11) (pe_ix (r := rIx K) ix_seq (pv 10) pe_int (fun _ _ => rfl)) set_list)) (pss_one (ps_expr (pe_bm PySem.F.plainAttrs_list PySem.F.slot_list_append PySem.F.type_list_append mt_append (pv 8) (pa_cons (pe_fn c_is_sheet hr (by omega) (by rfl) (pa_cons (pv 0) (pa_cons (pe_tup (pa_cons (pv 9) (pa_cons (pe_op op_add (pe_ix (r := rIx K) ix_seq (pe_ix (r := rIx K) ix_seq (pv 1) (pv 9) (fun _ _ => rfl)) pe_int (fun _ _ => rfl)) pe_int) (pa_cons (pe_callTy (r := rTupleOf K) call_tuple_of (by rfl) B.tuple (by decide +kernel) (pa_cons (pv 11) pa_nil)) (pa_cons (pe_op (r := rCatA K) op_catA (pe_ix (r := rIx K) ix_seq (pe_ix (r := rIx K) ix_seq (pv 1) (pv 9) (fun _ _ => rfl)) pe_int (fun _ _ => rfl)) (pe_tup (pa_cons (pv 10) pa_nil))) pa_nil))))) pa_nil))) pa_nil))))))) (pss_cons (ps_setLc (i := 12) (own := [("_law_own", 15)]) (g := gName 15) rfl sc__law_locks_right.nd rfl rfl (sw_true rfl rfl rfl (by decide +kernel)) (pi_any (pe_tup (pa_cons (pe_op (r := rCatA K) op_catA (pv 5) (pe_tup (pa_cons pe_int pa_nil))) (pa_cons (pe_slice (r := rSlA K) sl_tupA (pv 5) (po_some pe_int) po_none) pa_nil)))) (blkOk_by (own := [("_law_own", 15)]) (N := ["_law_net_here", "_law_sheets_here", "_law_payer", "_law_row", "_law_amount", "_law_ends", "_law_told", "_law_due", "_law_goods", "_law_k", "_law_lock", "_law_sums", "_law_bad", "_law_side", "_law_end", "_law_own"]) (sc := defScope s__law_locks_right) (by decide +kernel)) (fun _ _ _ _ _ => (pg_name (i := 15) sc__law_locks_right.nd rfl (Or.inl rfl))) (fun _ _ _ _ _ => pts_nil) (fun _ _ _ _ _ => (pe_fn c__law_heard hr (by omega) (by rfl) (pa_cons pe_int (pa_cons (pe_tup (pa_cons (pv 0) (pa_cons (pv 2) (pa_cons (pv 3) (pa_cons (pv 4) (pa_cons (pe_tup (pa_cons pe_str (pa_cons pe_int pa_nil))) (pa_cons (pv 15) pa_nil))))))) pa_nil))))) (pss_one (ps_ret (pe_and (pe_cmpR op_eq (pe_callB (r := rAll K) (cr_all rfl) (by rfl) B.all (by decide +kernel) (pa_cons (pv 8) pa_nil)) (pe_cmpR op_ge (pe_fn c__law_most hr (by omega) (by rfl) (pa_cons (pv 0) (pa_cons (pv 1) (pa_cons (pv 2) (pa_cons (pv 3) pa_nil))))) (pv 4) (nomark _)) (nomark _)) (pe_one (pe_fn c__law_same hr (by omega) (by rfl) (pa_cons (pv 12) (pa_cons (pe_op op_rep (pe_lst (pa_cons (pe_lst (pa_cons pe_str (pa_cons pe_bl pa_nil))) pa_nil)) pe_int) pa_nil))))))))))))), fun vs H ds d r hv => ?_⟩)
  obtain ⟨N, S, p, r, am, l, fp, rfl, hN, hS, hp, hr6, hl, hl0, ham, rfl⟩ := r
  obtain ⟨v0, v1, v2, v3, v4, v5, rfl, h0, h1, h2, h3, h4, h5⟩ := dpA6 hv
  have e2 := dp_vint h2
  have e4 := dp_vint h4
  subst e2 e4
  intro Q q
  have hN6 := hN.few
  have hSl := hS.len
  have hin := people_in hp
  have hne := people_ne hp
  have hSlk : ∀ s ∈ S, s.locks.length ≤ 2 := fun s hs => by
    obtain ⟨i, hi, e⟩ := List.getElem_of_mem hs
    rcases (hS.at_ i s (by rw [List.getElem?_eq_getElem hi, e])).lk with z | ⟨a, b, z, _, _⟩ <;> rw [z]
    · exact Nat.zero_le _
    · exact Nat.le_succ 1
  -- told
  have x0 : EvD K (tVar 0) [some v0, some v1, some (.int p), some v3, some (.int am), some v5, none, none, none, none, none, none, none, none, none, none] H (netD N) := ed_var rfl h0
  have x3 : EvD K (tVar 3) [some v0, some v1, some (.int p), some v3, some (.int am), some v5, none, none, none, none, none, none, none, none, none, none] H (rowD r) := ed_var rfl h3
  have x5 : EvD K (tVar 5) [some v0, some v1, some (.int p), some v3, some (.int am), some v5, none, none, none, none, none, none, none, none, none, none] H (rowD l) := ed_var rfl h5
  have xl := ed_lists (n := 9) x0 (okD_le (ok_net (n := 0) hN6) (by omega))
  have imgl : ImgL (.list [.str "image", .int 7]) 7 := ⟨ok_lst (by show 2 ≤ 1000; decide) (ok_cons (ok_sc rfl) (ok_cons (ok_sc rfl) ok_nil)), rfl⟩
  have imgt : ImgL (imgD 7) 7 := ⟨ok_img, rfl⟩
  have told := ed_callC (R := R_heard) (E := E0) (eds_cons (ed_cint (i := 2)) (eds_cons (ed_tup (eds_cons xl (eds_cons (ed_i (ev_var (i := 2) (v := .int p) rfl)) (eds_cons x3 (eds_cons (ed_i (ev_var (i := 4) (v := .int am) rfl)) (eds_cons (ed_lst (eds_cons (ed_cstr (s := "image")) (eds_cons (ed_cint (i := 7)) eds_nil)) (le5 rfl)) (eds_cons x5 eds_nil)))))) (le5 rfl)) eds_nil))
    (d := locksM N p r am 7 l) ⟨2, _, rfl, .inr (.inr ⟨rfl, .inl ⟨N, p, r, am, 7, l, ⟨_, _, _, _, fp, rfl, NetL.lists hN6, by omega, RowL.self (by omega), hp, imgl, RowL.self (by omega)⟩, hl, rfl⟩⟩)⟩
  refine q_d (K := K) told fun g H1 ex1 hg => ?_
  -- due
  have y3 : EvD K (tVar 3) [some v0, some v1, some (.int p), some v3, some (.int am), some v5, some g, none, none, none, none, none, none, none, none, none] H1 (rowD r) := ed_var rfl (dpe h3 ex1)
  have y0 : EvD K (tVar 0) [some v0, some v1, some (.int p), some v3, some (.int am), some v5, some g, none, none, none, none, none, none, none, none, none] H1 (netD N) := ed_var rfl (dpe h0 ex1)
  have y5 : EvD K (tVar 5) [some v0, some v1, some (.int p), some v3, some (.int am), some v5, some g, none, none, none, none, none, none, none, none, none] H1 (rowD l) := ed_var rfl (dpe h5 ex1)
  have hpay := edl_call (R := R_pays) (E := E0) (eds_cons y0 (eds_cons (ed_i (ev_var (i := 2) (v := .int p) rfl)) (eds_cons y3 eds_nil))) ⟨N, p, r, rfl, hin, by omega, rfl⟩
  have hz := ei_z3 y3 (EvDL.toD hpay) y5 rfl rfl rfl ⟨by rw [List.length_map, List.length_map, paysM_len], by rw [List.length_map, List.length_map, paysM_len, hl]⟩
  rw [zip3] at hz
  have hzl : (r.zip ((paysM N r p).zip l)).length ≤ 6 := by
    rw [List.length_zip]
    omega
  have mm := edl_map3 (g := entD am 7) (te := tTup (tCons (tVar 9) (tCons (tTup (tCons (tVar 13) (tCons (tVar 4) (tCons (tTup (tCons (tC (.str "image")) (tCons (tC (.int 7)) tNil))) (tCons (tVar 14) tNil))))) tNil))) (j := 9) (l := 13) (m := 14) (vs := [9, 13, 14]) hz (by omega) (fun _ _ _ => rfl) fun a ha x y u H3 e3 hx hy hu => ⟨by
    exact ed_tup (eds_cons (ed_var rfl hx) (eds_cons (ed_tup (eds_cons (ed_var rfl hy) (eds_cons (ed_i (ev_var (i := 4) (v := .int am) rfl)) (eds_cons (ed_tup (eds_cons (ed_cstr (s := "image")) (eds_cons (ed_cint (i := 7)) eds_nil)) (le5 rfl)) (eds_cons (ed_var rfl hu) eds_nil)))) (le5 rfl)) eds_nil)) (le5 rfl), rfl⟩
  refine q_d (K := K) (d := locksM N p r am 7 l) (ed_tupleL (EvDL.toD mm)) fun g2 H2 ex2 hg2 => ?_
  have E2 := ex1.trans ex2
  have z6 : EvD K (tVar 6) [some v0, some v1, some (.int p), some v3, some (.int am), some v5, some g, some g2, none, none, none, none, none, none, none, none] H2 (locksM N p r am 7 l) := ed_var rfl (dpe hg ex2)
  have z7 : EvD K (tVar 7) [some v0, some v1, some (.int p), some v3, some (.int am), some v5, some g, some g2, none, none, none, none, none, none, none, none] H2 (locksM N p r am 7 l) := ed_var rfl hg2
  have hsm := ed_call (R := R_same 9) (E := E0) (eds_cons z6 (eds_cons z7 eds_nil)) ⟨_, rfl, ok_tup (by rw [List.length_map]; omega) (ok_map fun a _ => ok_ent), rfl⟩
  refine q_no (et_not (et_B (ev_b hsm))) fun H3 ex3 => ?_
  refine q_dl (K := K) (ds := []) (edl_lst eds_nil (le5 rfl)) fun gp us H4 hgp ex4 hgp4 d4 => ?_
  cases d4
  have E3 := E2.trans ex3
  have E4 := E3.trans ex4
  have nH : H gp = none := fresh_back E3 hgp
  have hgH4 := dpe hg ((ex2.trans ex3).trans ex4)
  have ngp3 : H3 gp = none := hgp
  generalize hEn : (r.zip ((paysM N r p).zip l)) = En at *
  -- the loop
  refine q_forS (K := K) (ds := En.map (entD am 7)) (S := Ex H1) (eis_var rfl hg (by rw [← hEn]; rfl) ((ex2.trans ex3).trans ex4)) (fun i σ H' => (∃ x9 x10 x11, σ = [some v0, some v1, some (.int p), some v3, some (.int am), some v5, some g, some g2, some (.ref gp), x9, x10, x11, none, none, none, none]) ∧ Ex H H' ∧ Ex H1 H' ∧ H' gp = some (.lst (((En.take i).map fun a => decide (am ≤ sumOf (sumsOf S) a.1 a.2.1)).map V.bl)))
    (fun H5 e5 => ⟨⟨_, _, _, rfl⟩, E4.trans e5, ((ex2.trans ex3).trans ex4).trans e5, e5 _ _ hgp4⟩) (fun i σ H' hP => hP.2.2.1) (fun i d σ H5 x H6 hd hP e6 hdx => ?_) (fun σ H5 hP => ?_)
  · obtain ⟨⟨x9, x10, x11, rfl⟩, e5, e15, hgp5⟩ := hP
    rw [List.getElem?_map] at hd
    cases qa : En[i]? with
    | none => rw [qa] at hd; cases hd
    | some a =>
      rw [qa] at hd
      cases hd
      have hmem := List.mem_of_getElem? qa
      have hmem' := hmem
      rw [← hEn] at hmem'
      obtain ⟨m1, m23⟩ := List.of_mem_zip hmem'
      obtain ⟨m2, m3⟩ := List.of_mem_zip m23
      have hci := hin _ m1
      have h01 := paysM_01 N r p _ m2
      have he0 := hl0 _ m3
      obtain ⟨k, hk⟩ := Int.eq_ofNat_of_zero_le hci.1
      have hkl : k < S.length := by
        have := hci.2
        omega
      obtain ⟨s, hs⟩ : ∃ s, S[k]? = some s := ⟨_, List.getElem?_eq_getElem hkl⟩
      obtain ⟨shok, hdec⟩ := lock_more (am := am) (e := a.2.2) hN hS hk hs h01 ham he0
      have E6 := e5.trans e6
      refine g_pair (d1 := .int a.1) (d2 := lockD (a.2.1, am, 7, a.2.2)) hdx fun y1 lkv hy1 hlkv => ?_
      have ey := dp_vint hy1
      subst ey
      show tSeq _ _ _ [some v0, some v1, some (.int p), some v3, some (.int am), some v5, some g, some g2, some (.ref gp), some (.int a.1), some lkv, x11, none, none, none, none] H6
      have gsh : EvD K (tOp (rIx K) (tVar 1) (tVar 9)) [some v0, some v1, some (.int p), some v3, some (.int am), some v5, some g, some g2, some (.ref gp), some (.int a.1), some lkv, x11, none, none, none, none] H6 (sheetD s) := ed_ixT (ed_var rfl (dpe h1 E6)) (ev_var (v := .int a.1) rfl) (by
        rw [hk]
        refine atI_nat ?_
        rw [List.getElem?_map, hs]
        rfl)
      refine q_dl (K := K) (ds := [.int s.a, .int s.b]) (edl_listT (ed_ixT gsh (ev_c (v := .int 2)) (d := sumsD s.a s.b) at2)) fun qa2 us H7 nq e7 hq dq => ?_
      have eus : us = [s.a, s.b].map V.int := dpA_ints (ns := [s.a, s.b]) dq
      subst eus
      show tSeq _ _ _ [some v0, some v1, some (.int p), some v3, some (.int am), some v5, some g, some g2, some (.ref gp), some (.int a.1), some lkv, some (.ref qa2), none, none, none, none] H7
      have vlk : ∀ G, Ex H6 G → EvD K (tVar 10) [some v0, some v1, some (.int p), some v3, some (.int am), some v5, some g, some g2, some (.ref gp), some (.int a.1), some lkv, some (.ref qa2), none, none, none, none] G (lockD (a.2.1, am, 7, a.2.2)) := fun G eG => ed_var rfl (dpe hlkv eG)
      have gside := ev_i (ed_ixT (vlk H7 e7) (ev_c (v := .int 0)) (d := .int a.2.1) at0)
      obtain ⟨j, hj, hj2, hat, hset⟩ : ∃ j : Nat, a.2.1 = (j : Int) ∧ j < 2 ∧ atI ([s.a, s.b].map PyData.int) a.2.1 = some (.int (if a.2.1 = 0 then s.a else s.b)) ∧ ([s.a, s.b].map V.int).set j (.int ((if a.2.1 = 0 then s.a else s.b) - am)) = [if a.2.1 = 0 then s.a - am else s.a, if a.2.1 = 0 then s.b else s.b - am].map V.int := by
        rcases h01 with z | z <;> rw [z]
        · exact ⟨0, rfl, by decide, at0, rfl⟩
        · exact ⟨1, rfl, by decide, at1, rfl⟩
      have vsm : EvD K (tVar 11) [some v0, some v1, some (.int p), some v3, some (.int am), some v5, some g, some g2, some (.ref gp), some (.int a.1), some lkv, some (.ref qa2), none, none, none, none] H7 (.list ([s.a, s.b].map .int)) := ed_atI rfl hq
      refine q_setL0 (j := j) hq (ev_op (ev_i (ed_ixL vsm gside hat)) (ev_var (v := .int am) rfl) rv_I0) (ev_var rfl) (by rw [← hj]; exact gside) (by rw [List.length_map]; exact hj2) fun H8 e8 => ?_
      have hq9 : (upd H8 qa2 (.lst (([s.a, s.b].map V.int).set j (.int ((if a.2.1 = 0 then s.a else s.b) - am))))) qa2 = some (.lst ([if a.2.1 = 0 then s.a - am else s.a, if a.2.1 = 0 then s.b else s.b - am].map V.int)) := by rw [upd_same, hset]
      have e69 : Ex H6 (upd H8 qa2 (.lst (([s.a, s.b].map V.int).set j (.int ((if a.2.1 = 0 then s.a else s.b) - am))))) := Ex.mut (e7.trans e8) nq
      generalize upd H8 qa2 (.lst (([s.a, s.b].map V.int).set j (.int ((if a.2.1 = 0 then s.a else s.b) - am)))) = H9 at hq9 e69
      have hgp9 := e69 _ _ (e6 _ _ hgp5)
      have E9 := E6.trans e69
      have vsm9 : EvD K (tVar 11) [some v0, some v1, some (.int p), some v3, some (.int am), some v5, some g, some g2, some (.ref gp), some (.int a.1), some lkv, some (.ref qa2), none, none, none, none] H9 (.list ([if a.2.1 = 0 then s.a - am else s.a, if a.2.1 = 0 then s.b else s.b - am].map .int)) := ed_atI rfl hq9
      have gsh9 : EvD K (tOp (rIx K) (tVar 1) (tVar 9)) [some v0, some v1, some (.int p), some v3, some (.int am), some v5, some g, some g2, some (.ref gp), some (.int a.1), some lkv, some (.ref qa2), none, none, none, none] H9 (sheetD s) := ed_ixT (ed_var rfl (dpe h1 E9)) (ev_var (v := .int a.1) rfl) (by
        rw [hk]
        refine atI_nat ?_
        rw [List.getElem?_map, hs]
        rfl)
      have vn9 : EvD K (tVar 0) [some v0, some v1, some (.int p), some v3, some (.int am), some v5, some g, some g2, some (.ref gp), some (.int a.1), some lkv, some (.ref qa2), none, none, none, none] H9 (netD N) := ed_var rfl (dpe h0 E9)
      have hslk : s.locks.length ≤ 2 := hSlk s (List.mem_of_getElem? hs)
      have hcat := ed_catT (ed_ixT gsh9 (ev_c (v := .int 3)) (d := locksD s.locks) at3) (ed_tup (eds_cons (vlk H9 e69) eds_nil) (le5 rfl)) (by rw [List.length_map]; show _ + 1 ≤ _; omega)
      have hnum := ev_op (r := rI0 fun i j => .int (i + j)) (ev_i (ed_ixT gsh9 (ev_c (v := .int 1)) (d := .int s.num) at1)) (ev_c (v := .int 1)) rv_I0
      have hsheet := ed_tup (eds_cons (ed_i (ev_var (i := 9) (v := .int a.1) rfl)) (eds_cons (ed_i hnum) (eds_cons (ed_tupleL vsm9) (eds_cons hcat eds_nil)))) (le5 rfl)
      have his := ed_call (R := R_is_sheet) (E := E0) (eds_cons vn9 (eds_cons hsheet eds_nil)) (d := .bool (decide (am ≤ sumOf (sumsOf S) a.1 a.2.1))) ⟨N, _, by
        show [netD N, _] = [netD N, sheetD ⟨a.1, s.num + 1, if a.2.1 = 0 then s.a - am else s.a, if a.2.1 = 0 then s.b else s.b - am, s.locks ++ [(a.2.1, am, 7, a.2.2)]⟩]
        unfold sheetD locksD sumsD
        rw [List.map_append]
        rfl, shok, by rw [← hdec]⟩
      refine s_app hgp9 (ev_var rfl) (ev_b his) (by rw [List.length_map, List.length_map, List.length_take]; omega) fun H10 e10 => ⟨⟨_, _, _, rfl⟩, Ex.mut (E9.trans e10) nH, Ex.mut (((e15.trans e6).trans e69).trans e10) ?_, ?_⟩
      · cases z : H1 gp with
        | none => rfl
        | some o => rw [ex3 _ _ (ex2 _ _ z)] at ngp3; cases ngp3
      · rw [List.take_add_one, qa, List.map_append, List.map_append]
        exact upd_same
  · obtain ⟨⟨x9, x10, x11, rfl⟩, e5, e15, hgp5⟩ := hP
    rw [List.length_map, List.take_length] at hgp5
    have w0 : EvD K (tVar 0) [some v0, some v1, some (.int p), some v3, some (.int am), some v5, some g, some g2, some (.ref gp), x9, x10, x11, none, none, none, none] H5 (netD N) := ed_var rfl (dpe h0 e5)
    have w5 : EvD K (tVar 5) [some v0, some v1, some (.int p), some v3, some (.int am), some v5, some g, some g2, some (.ref gp), x9, x10, x11, none, none, none, none] H5 (rowD l) := ed_var rfl (dpe h5 e5)
    have cat5 := ed_catT w5 (ed_tup (eds_cons (ed_cint (i := 5)) eds_nil) (le5 rfl)) (by rw [List.length_map]; show _ + 1 ≤ _; omega)
    have sl1 := ed_slT w5 (eo_some (te := tC (.int 1)) (i := 1) ev_c) eo_none
    rw [cut1] at sl1
    have its := ei_T (ed_tup (eds_cons cat5 (eds_cons sl1 eds_nil)) (le5 rfl))
    have z : [PyData.tuple (l.map .int ++ [.int 5]), .tuple ((l.map .int).drop 1)] = [l ++ [5], l.drop 1].map rowD := by
      show _ = [PyData.tuple ((l ++ [5]).map .int), .tuple ((l.drop 1).map .int)]
      rw [List.map_append, List.map_drop]
      rfl
    rw [z] at its
    have mb := edl_lcX (K := K) (te := tCall (spC K R_heard) [] E0 (tCons (tC (.int 2)) (tCons (tTup (tCons (tVar 0) (tCons (tVar 2) (tCons (tVar 3) (tCons (tVar 4) (tCons (tTup (tCons (tC (.str "image")) (tCons (tC (.int 7)) tNil))) (tCons (tVar 15) tNil))))))) tNil))) (t := tYes) (g := gName 15) (vs := [15]) (o := [some (toldD "unfit"), some (toldD "unfit")]) its (by show 2 ≤ 40000; decide) rfl fun i d od hd hod x H6 e6 hv Q k => by
      refine k _ rfl (by
        have : od.isSome = true := by
          match i, hod with
          | 0, h => cases h; rfl
          | 1, h => cases h; rfl
        rw [this]
        exact fun H2 e2 Q k => k H2 (Ex.refl _)) fun d' ed => ?_
      have hb : ∃ b : List Int, d = rowD b ∧ b.length ≠ r.length ∧ b.length ≤ 1000 ∧ d' = toldD "unfit" := by
        match i, hd, hod with
        | 0, hd, hod => cases hd; cases hod; cases ed; exact ⟨_, rfl, by rw [List.length_append, List.length_singleton]; omega, by rw [List.length_append, List.length_singleton]; omega, rfl⟩
        | 1, hd, hod =>
          cases hd; cases hod; cases ed
          have hpos := List.length_pos_iff.mpr hne
          exact ⟨_, rfl, by rw [List.length_drop]; omega, by rw [List.length_drop]; omega, rfl⟩
      obtain ⟨b, rfl, hbl, hb1, rfl⟩ := hb
      refine evx_callC (R := R_heard) (eds_cons (ed_cint (i := 2)) (eds_cons (ed_tup (eds_cons (ed_var (i := 0) rfl (dpe h0 (e5.trans e6))) (eds_cons (ed_i (ev_var (i := 2) (v := .int p) rfl)) (eds_cons (ed_var (i := 3) rfl (dpe h3 (e5.trans e6))) (eds_cons (ed_i (ev_var (i := 4) (v := .int am) rfl)) (eds_cons (ed_tup (eds_cons (ed_cstr (s := "image")) (eds_cons (ed_cint (i := 7)) eds_nil)) (le5 rfl)) (eds_cons (ed_var (i := 15) rfl hv) eds_nil)))))) (le5 rfl)) eds_nil))
        ⟨2, _, rfl, .inr (.inr ⟨rfl, .inr ⟨⟨N, p, r, am, 7, b, ⟨_, _, _, _, fp, rfl, NetL.self (by omega), by omega, RowL.self (by omega), hp, imgt, RowL.self hb1⟩, hbl⟩, rfl⟩⟩)⟩
    refine q_dl (K := K) mb fun bp bus H6 nb e6 hb6 db => ?_
    have E6 := e5.trans e6
    have hgp6 := e6 _ _ hgp5
    have u0 : EvD K (tVar 0) [some v0, some v1, some (.int p), some v3, some (.int am), some v5, some g, some g2, some (.ref gp), x9, x10, x11, some (.ref bp), none, none, none] H6 (netD N) := ed_var rfl (dpe h0 E6)
    have u1 : EvD K (tVar 1) [some v0, some v1, some (.int p), some v3, some (.int am), some v5, some g, some g2, some (.ref gp), x9, x10, x11, some (.ref bp), none, none, none] H6 (sheetsD S) := ed_var rfl (dpe h1 E6)
    have u3 : EvD K (tVar 3) [some v0, some v1, some (.int p), some v3, some (.int am), some v5, some g, some g2, some (.ref gp), x9, x10, x11, some (.ref bp), none, none, none] H6 (rowD r) := ed_var rfl (dpe h3 E6)
    have ub : EvD K (tVar 12) [some v0, some v1, some (.int p), some v3, some (.int am), some v5, some g, some g2, some (.ref gp), x9, x10, x11, some (.ref bp), none, none, none] H6 (.list [toldD "unfit", toldD "unfit"]) := ed_at rfl hb6 db
    have ug : EvD K (tVar 8) [some v0, some v1, some (.int p), some v3, some (.int am), some v5, some g, some g2, some (.ref gp), x9, x10, x11, some (.ref bp), none, none, none] H6 (.list ((En.map fun a => decide (am ≤ sumOf (sumsOf S) a.1 a.2.1)).map .bool)) := ed_at rfl hgp6 (bls_dpA _)
    have hm := ed_call (R := R_lmost) (E := E0) (eds_cons u0 (eds_cons u1 (eds_cons (ed_i (ev_var (i := 2) (v := .int p) rfl)) (eds_cons u3 eds_nil)))) ⟨N, sheetsD S, sumsOf S, p, r, rfl, ShL.tup S, by rw [sumsOf_len]; exact hSl, hin, hne, by omega, rfl⟩
    have hrep := ed_rep (K := K) (H := H6) (σ := [some v0, some v1, some (.int p), some v3, some (.int am), some v5, some g, some g2, some (.ref gp), x9, x10, x11, some (.ref bp), none, none, none]) (edl_lst (eds_cons (ed_lst (eds_cons (ed_cstr (s := "unfit")) (eds_cons (ed_cbl (b := true)) eds_nil)) (le5 rfl)) eds_nil) (le5 rfl)) (ev_c (v := .int 2)) (by decide)
    have hs2 := ed_call (R := R_same 9) (E := E0) (eds_cons ub (eds_cons hrep eds_nil)) ⟨.list [toldD "unfit", toldD "unfit"], rfl, ok_lst (by show 2 ≤ 1000; decide) (ok_cons ok_told (ok_cons ok_told ok_nil)), rfl⟩
    refine s_rq (d := .bool true) (ed_b (ev_is (ev_andV (ev_op (ev_all ug) (ev_op (ev_i hm) (ev_var (i := 4) (v := .int am) rfl) rv_I0) (rv_eq rfl)) fun _ => ev_b hs2) ?_)) q E6
    have hall : (En.map fun a => decide (am ≤ sumOf (sumsOf S) a.1 a.2.1)).all id = decide (am ≤ mostM N (sumsOf S) p r) := by
      rw [← hEn, zip_mid (fun c s => decide (am ≤ sumOf (sumsOf S) c s)) r (paysM N r p) l (by rw [paysM_len]; exact hl)]
      have hz2 : List.zipWith (fun c s => decide (am ≤ sumOf (sumsOf S) c s)) r (paysM N r p) = (sumsM N (sumsOf S) r p).map fun x => decide (am ≤ x) := by
        unfold sumsM
        rw [List.map_zipWith]
      rw [hz2]
      exact min_le am _ fun z => hne (List.eq_nil_of_length_eq_zero (by rw [← sumsM_len N (sumsOf S) r p, z]; rfl))
    rw [hall, dec_self]
    rfl
end
end KT

set_option Elab.async false
set_option linter.all false
set_option autoImplicit false
set_option maxRecDepth 100000
set_option maxHeartbeats 4000000
/-! Lc: ends_right. -/
namespace KT
open PySem PySem.Spec PyProof.Rows L2 Evl KD KM
theorem look_eq {lk m : Int} (h : 1 ≤ lk) : lookAt lk m = m + (-m) % lk := by
  unfold lookAt
  rw [Int.fdiv_eq_ediv_of_nonneg _ (by omega)]
  have z := Int.mul_ediv_add_emod (-m) lk
  rw [Int.mul_neg]
  omega
theorem gap_eq {dl lk far near : Int} (h : 1 ≤ lk) : decide (far + dl + (0 - far).fmod lk ≤ near) = decide (leastIn dl lk far ≤ near) := by
  unfold leastIn
  rw [look_eq h, Int.fmod_eq_emod_of_nonneg _ (by omega), Int.zero_sub]
  refine decide_eq_decide.mpr ?_
  omega
theorem fm_first {o : Nat → Option PyData} {n j0 : Nat} {d : PyData} (hj : j0 < n) (h1 : o j0 = some d) (h0 : ∀ j, j < j0 → o j = none) : ∃ rest, (List.range n).filterMap o = d :: rest := by
  obtain ⟨k, rfl⟩ : ∃ k, n = j0 + (k + 1) := ⟨n - j0 - 1, by omega⟩
  rw [List.range_add, List.filterMap_append, List.filterMap_eq_nil_iff.mpr fun j hj => h0 j (List.mem_range.mp hj), List.nil_append, List.range_succ_eq_map, List.map_cons, List.filterMap_cons]
  rw [Nat.add_zero, h1]
  exact ⟨_, rfl⟩
theorem look_first {lk e0 : Int} (h : 1 ≤ lk) : ∃ rest, (List.range lk.toNat).filterMap (fun (i : Nat) => if decide ((e0 + (i : Int)).fmod lk = 0) then some (PyData.int (e0 + (i : Int))) else none) = .int (lookAt lk e0) :: rest := by
  have m0 := Int.emod_nonneg (-e0) (show lk ≠ 0 by omega)
  have m1 := Int.emod_lt_of_pos (-e0) (show 0 < lk by omega)
  have dv : lk ∣ e0 + (-e0) % lk := by
    have z := Int.mul_ediv_add_emod (-e0) lk
    exact ⟨-((-e0) / lk), by rw [Int.mul_neg]; omega⟩
  refine fm_first (j0 := ((-e0) % lk).toNat) (by omega) ?_ fun j hj => ?_
  · have e : (((-e0) % lk).toNat : Int) = (-e0) % lk := Int.toNat_of_nonneg m0
    rw [e, look_eq h, if_pos]
    rw [Int.fmod_eq_emod_of_nonneg _ (by omega)]
    exact decide_eq_true (Int.emod_eq_zero_of_dvd dv)
  · rw [if_neg]
    rw [decide_eq_true_eq, Int.fmod_eq_emod_of_nonneg _ (by omega)]
    intro z
    have d2 := Int.dvd_of_emod_eq_zero z
    have d3 := Int.dvd_sub dv d2
    have := Int.le_of_dvd (by omega) d3
    omega
theorem least_last (dl lk e : Int) : ∀ k, ∃ xs, leastEnds dl lk k [e] = xs ++ [e]
  | 0 => ⟨[], rfl⟩
  | k + 1 => by
    obtain ⟨xs, h⟩ := least_last dl lk e k
    rw [leastEnds_succ, h]
    exact ⟨_ :: xs, rfl⟩
theorem least_ne (dl lk e : Int) (k : Nat) : ∃ h t, leastEnds dl lk k [e] = h :: t := by
  obtain ⟨xs, h⟩ := least_last dl lk e k
  rw [h]
  cases xs with
  | nil => exact ⟨_, _, rfl⟩
  | cons a l => exact ⟨_, _, rfl⟩
theorem gaps_least (dl lk e : Int) : ∀ k, (gapsM dl lk (leastEnds dl lk k [e])).all id = true
  | 0 => rfl
  | k + 1 => by
    have ih := gaps_least dl lk e k
    obtain ⟨h, t, hq⟩ := least_ne dl lk e k
    rw [leastEnds_succ, hq]
    rw [hq] at ih
    show (decide (leastIn dl lk h ≤ leastIn dl lk h) && (gapsM dl lk (h :: t)).all id) = true
    rw [ih, decide_eq_true (Int.le_refl _)]
    rfl
abbrev rowL (l : List Int) : PyData := .list (l.map .int)
section
variable {K : PySem.W.Frag} {σ : L2.St} {H : Hp} {te : TE} {u : Addr} {n : Nat}
/-- a walk over ints that takes from the urn at each turn -/
theorem lc_urn {i j : Nat} {q : Addr} {es : List Int} {vs : List Nat} {Q : VK} (hσ : σ[i]? = some (some (.ref q))) (hq : H q = some (.lst (es.map V.int))) (nq : q ≠ u) (hu : Urn u n H) (hz : es.length ≤ 1000)
    (hw : ∀ x, wipe ((wipe σ vs).set j (some x)) vs = wipe σ vs) (hm : ∀ (k : Nat) (e : Int) G, k < es.length → ExB u H G → EvM te ((wipe σ vs).set j (some (.int e))) G u (n + k) (n + k + 1) fun _ => True)
    (hQ : ∀ p (bs : List Int) H', H p = none → ExB u H H' → Urn u (n + es.length) H' → H' p = some (.lst (bs.map V.int)) → bs.length = es.length → Q (.ref p) H') : tLc (iAny K (tVar i)) (gName j) tYes te vs σ H Q :=
  ⟨.ref q, hσ, q, rfl, .inl ⟨_, sq_of hq, fun Dl hD => by
    have nuD : u ≠ Dl := fun e => by
      obtain ⟨xs, hx⟩ := hu.lst
      rw [e, hD] at hx
      cases hx
    have hJ : ItP K (fun H' => H' q = some (.lst (es.map V.int))) (Itl K q) (es.map .int) := itp_l fun H' h => ⟨sq_of h, ints_dpA es⟩
    refine ⟨fun i m H' => i + m = es.length ∧ ExB u H H' ∧ Urn u (n + i) H' ∧ ∃ bs : List Int, bs.length = i ∧ H' Dl = some (.lst (bs.map V.int)), ⟨es.length, Nat.zero_add _, exb_ex (Ex.new hD), hu.mut nuD, [], rfl, upd_same⟩, fun i m H' hW => ?_⟩
    obtain ⟨em, c1, c2, bs, c3, c4⟩ := hW
    have st := hJ H' (c1 _ _ nq hq) i
    cases m with
    | zero => exact .inl ⟨st.1 (by rw [List.length_map]; exact em), hQ Dl bs H' hD c1 (by rw [← show i = es.length from em]; exact c2) c4 (by rw [c3]; exact em)⟩
    | succ m =>
      have hlt : i < es.length := by omega
      obtain ⟨hgo, hy⟩ := st.2 (.int es[i]) (by rw [List.getElem?_map, List.getElem?_eq_getElem hlt]; rfl)
      refine .inr ⟨hgo, _, fun H'' c => ⟨m, Nat.lt_succ_self _, c⟩, fun x H2 y => ?_⟩
      obtain ⟨e2, d2⟩ := hy x H2 y
      have ex := dp_vint d2
      subst ex
      refine ⟨hw _, ?_⟩
      refine (hm i es[i] H2 hlt (c1.trans (exb_ex e2))) H2 (ExB.refl _ _) (c2.ex e2) _ fun b H3 _ e3 hu3 => ?_
      have h3 := e3 _ _ (fun e => nuD e.symm) (e2 _ _ c4)
      refine ⟨bs.map V.int, h3, sz_lt (by rw [List.length_map]; omega), by omega, fun a o hne ha => ?_, hu3.mut nuD, bs ++ [b], by rw [List.length_append, c3]; rfl, by rw [upd_same, List.map_append]; rfl⟩
      rw [upd_ne (ne_of_none ha hD)]
      exact e3 _ _ hne (e2 _ _ (c1 _ _ hne ha))⟩⟩
end
section
variable {K : PySem.W.Frag} {σ : L2.St} {H : Hp} {te ta : TE} {D : Ends} {ds : List PyData} {d : PyData}
theorem s_dl {i : Nat} (h : EvDL K te σ H ds) (k : ∀ p vs H1, H p = none → Ex H H1 → H1 p = some (.lst vs) → DpAll K H1 vs ds → D.nx (σ.set i (some (.ref p))) H1) : tAsg te (gName i) D σ H := h H (Ex.refl H) _ k
theorem s_appD {i : Nat} {l : Addr} {xs : List V} (hσ : σ[i]? = some (some (.ref l))) (hl : H l = some (.lst xs)) (h : EvD K te σ H d) (hz : xs.length < 100000) (k : ∀ v H1, Ex H H1 → Dp K H1 v d → D.nx σ (upd H1 l (.lst (xs ++ [v])))) :
    tDrop (tBM K "list" rAppend (tVar i) (tCons te tNil)) D σ H := s_appM hσ hl (h H (Ex.refl H) _ fun v H1 e1 hd => ⟨l, xs, v, rfl, rfl, e1 _ _ hl, sz_lt hz, k v H1 e1 hd⟩)
end
section
variable {P : Program} {w : World} {K : PySem.W.Frag} {mg : Str → Option Value} {base : Heap}
def spEnds (K : PySem.W.Frag) : Sp := fun vs H Q _ => ∃ (u : Addr) (n : Nat) (v : V) (r : List Int), vs = [.ref u, v] ∧ Urn u n H ∧ n ≤ 50000 ∧ Dp K H v (rowD r) ∧ r ≠ [] ∧ r.length ≤ 6 ∧ ∀ H', Q (.bl true) H'
theorem d_ends_right (B : Bt mg) (A : At K mg "_law_ends_right" s__law_ends_right ["_law_urn", "_law_row"]) (c__law_take : TakeOk P w K mg base) (c__law_by : Dfn P w K mg base "_law_by" ["_law_times", "_law_moment"] CX0 1 (spF K R_by))
    (c_are_safe : Dfn P w K mg base "are_safe" ["times", "ends"] CX0 4 (spF K R_are_safe)) (c_last_looks : Dfn P w K mg base "last_looks" ["times", "ends"] CX0 4 (spF K R_last_looks))
    (c_wish_for : Dfn P w K mg base "wish_for" ["times", "route", "amount", "secret", "moment", "last"] CX0 4 (spF K R_wish)) (c__law_same : Dfn P w K mg base "_law_same" ["_law_got", "_law_goal"] CX0 9 (spF K (R_same 9))) :
    Dfn P w K mg base "_law_ends_right" ["_law_urn", "_law_row"] CX0 10 (spEnds K) := by
  refine at_ok0 A sc__law_ends_right (fun vs H Q E h => by obtain ⟨u, n, v, r, rfl, _⟩ := h; rfl) (fun f cdv A outer s H0 E hr => ⟨_, (pss_cons (ps_asg (pe_tup (pa_cons (pe_tup (pa_cons (pe_op op_add pe_int (pe_fn c__law_take hr (by omega) (by rfl) (pa_cons (pv 0) (pa_cons pe_int pa_nil)))) (pa_cons (pe_op op_add pe_int (pe_fn c__law_take hr (by omega) (by rfl) (pa_cons (pv 0) (pa_cons pe_int pa_nil)))) (pa_cons (pe_fn c__law_take hr (by omega) (by rfl) (pa_cons (pv 0) (pa_cons pe_int pa_nil))) pa_nil)))) (pa_cons (pe_lst (pa_cons (pe_op op_add pe_int (pe_fn c__law_take hr (by omega) (by rfl) (pa_cons (pv 0) (pa_cons pe_int pa_nil)))) pa_nil)) pa_nil))) (pg_tup (by rfl) (pgs_cons (pg_name (i := 2) sc__law_ends_right.nd rfl (Or.inr rfl)) (pgs_cons (pg_name (i := 3) sc__law_ends_right.nd rfl (Or.inl rfl)) pgs_nil)))) (pss_cons (ps_for PassesOwn.never rfl (pi_range1 (by rfl) B.range (pa_cons (pe_op op_sub (pe_callB (r := rLenS K) call_len_seq (by rfl) B.len PySem.boot_len (pa_cons (pv 1) pa_nil)) pe_int) pa_nil)) (pg_name (i := 4) sc__law_ends_right.nd rfl (Or.inl rfl)) (pss_cons (ps_set (i := 5) sc__law_ends_right.nd rfl (Or.inl rfl) (pe_ix (r := rIx K) ix_seq (pe_lc (own := [("_law_own", 10)]) (g := gName 10) rfl sc__law_ends_right.nd (pi_range2 (by rfl) B.range (pa_cons (pe_ix (r := rIx K) ix_seq (pv 3) pe_int (fun _ _ => rfl)) (pa_cons (pe_op op_add (pe_ix (r := rIx K) ix_seq (pv 3) pe_int (fun _ _ => rfl)) (pe_ix (r := rIx K) ix_seq (pv 2) pe_int (fun _ _ => rfl))) pa_nil))) (blkOk_by (own := [("_law_own", 10)]) (N := ["_law_urn", "_law_row", "_law_times", "_law_ends", "_law_lap", "_law_look", "_law_least", "_law_bent", "_law_gaps", "_law_looks", "_law_own", "_law_show", "_law_heard_here", "_law_near", "_law_far"]) (sc := defScope s__law_ends_right) (by decide +kernel)) (fun _ _ _ _ _ => (pg_name (i := 10) sc__law_ends_right.nd rfl (Or.inl rfl))) (fun _ _ _ _ _ => (pts_one (pt_cmpR op_eq (pe_op op_modN (pe_callTy call_int1 (by rfl) B.int (by decide +kernel) (pa_cons (pv 10) pa_nil)) (pe_ix (r := rIx K) ix_seq (pv 2) pe_int (fun _ _ => rfl))) pe_int (nomark _)))) (fun _ _ _ _ _ => (pv 10))) pe_int (fun _ _ => rfl))) (pss_one (ps_set (i := 3) sc__law_ends_right.nd rfl (Or.inl rfl) (pe_op op_cat (pe_lst (pa_cons (pe_op op_add (pv 5) (pe_ix (r := rIx K) ix_seq (pv 2) pe_int (fun _ _ => rfl))) pa_nil)) (pv 3)))))) (pss_cons (ps_par (i := 6) (j := 7) rfl sc__law_ends_right.nd rfl rfl (by decide) rfl rfl (pa_cons (pe_callTy (r := rTupleOf K) call_tuple_of (by rfl) B.tuple (by decide +kernel) (pa_cons (pv 3) pa_nil)) (pa_cons (pe_lc (own := [("_law_own", 10)]) (g := gName 10) rfl sc__law_ends_right.nd (pi_any (pv 3)) (blkOk_by (own := [("_law_own", 10)]) (N := ["_law_urn", "_law_row", "_law_times", "_law_ends", "_law_lap", "_law_look", "_law_least", "_law_bent", "_law_gaps", "_law_looks", "_law_own", "_law_show", "_law_heard_here", "_law_near", "_law_far"]) (sc := defScope s__law_ends_right) (by decide +kernel)) (fun _ _ _ _ _ => (pg_name (i := 10) sc__law_ends_right.nd rfl (Or.inl rfl))) (fun _ _ _ _ _ => pts_nil) (fun _ _ _ _ _ => (pe_op op_sub (pe_op op_add (pv 10) (pe_fn c__law_take hr (by omega) (by rfl) (pa_cons (pv 0) (pa_cons pe_int pa_nil)))) pe_int))) pa_nil)) (by rfl)) (pss_cons (ps_setLc (i := 8) (own := [("_law_near", 13), ("_law_far", 14)]) (g := gTup K 2 (gCons (gName 13) (gCons (gName 14) gNil))) rfl sc__law_ends_right.nd rfl rfl (sw_true rfl rfl rfl (by decide +kernel)) (pi_z2 (by rfl) B.zip (pa_cons (pv 7) (pa_cons (pe_slice (r := rSlL K) sl_list (pv 7) (po_some pe_int) po_none) pa_nil))) (blkOk_by (own := [("_law_near", 13), ("_law_far", 14)]) (N := ["_law_urn", "_law_row", "_law_times", "_law_ends", "_law_lap", "_law_look", "_law_least", "_law_bent", "_law_gaps", "_law_looks", "_law_own", "_law_show", "_law_heard_here", "_law_near", "_law_far"]) (sc := defScope s__law_ends_right) (by decide +kernel)) (fun _ _ _ _ _ => (pg_tup (by rfl) (pgs_cons (pg_name (i := 13) sc__law_ends_right.nd rfl (Or.inl rfl)) (pgs_cons (pg_name (i := 14) sc__law_ends_right.nd rfl (Or.inl rfl)) pgs_nil)))) (fun _ _ _ _ _ => pts_nil) (fun _ _ _ _ _ => (pe_cmpR op_le (pe_op op_add (pe_op op_add (pv 14) (pe_ix (r := rIx K) ix_seq (pv 2) pe_int (fun _ _ => rfl))) (pe_op op_modN (pe_callTy call_int1 (by rfl) B.int (by decide +kernel) (pa_cons (pe_op op_sub pe_int (pv 14)) pa_nil)) (pe_ix (r := rIx K) ix_seq (pv 2) pe_int (fun _ _ => rfl)))) (pv 13) (nomark _)))) (pss_cons (ps_set (i := 9) sc__law_ends_right.nd rfl (Or.inl rfl) (pe_lst pa_nil)) (pss_cons (ps_for PassesOwn.never rfl (pi_any (pv 7)) (pg_name (i := 10) sc__law_ends_right.nd rfl (Or.inl rfl)) (pss_cons (ps_set (i := 11) sc__law_ends_right.nd rfl (Or.inl rfl) (pe_fn c__law_by hr (by omega) (by rfl) (pa_cons (pv 2) (pa_cons (pe_op op_sub (pv 10) (pe_ix (r := rIx K) ix_seq (pv 2) pe_int (fun _ _ => rfl))) pa_nil)))) (pss_one (ps_expr (pe_bm PySem.F.plainAttrs_list PySem.F.slot_list_append PySem.F.type_list_append mt_append (pv 9) (pa_cons (pe_tup (pa_cons (pe_ifExp (pt_cmpR (r := KD.rIsN) op_isN (pv 11) pe_non (nomark _)) pe_non (pe_fn c__law_by hr (by omega) (by rfl) (pa_cons (pv 2) (pa_cons (pe_op op_sub (pv 11) (pe_ix (r := rIx K) ix_seq (pv 2) pe_int (fun _ _ => rfl))) pa_nil)))) (pa_cons (pv 11) pa_nil))) pa_nil)))))) (pss_cons (ps_set (i := 12) sc__law_ends_right.nd rfl (Or.inl rfl) (pe_lst (pa_cons (pe_fn c_are_safe hr (by omega) (by rfl) (pa_cons (pe_callTy (r := rListS K) call_list_of (by rfl) B.list (by decide +kernel) (pa_cons (pv 2) pa_nil)) (pa_cons (pv 6) pa_nil))) (pa_cons (pe_fn c_are_safe hr (by omega) (by rfl) (pa_cons (pv 2) (pa_cons (pv 7) pa_nil))) (pa_cons (pe_fn c_last_looks hr (by omega) (by rfl) (pa_cons (pv 2) (pa_cons (pe_callTy (r := rTupleOf K) call_tuple_of (by rfl) B.tuple (by decide +kernel) (pa_cons (pv 7) pa_nil)) pa_nil))) (pa_cons (pe_fn c_wish_for hr (by omega) (by rfl) (pa_cons (pv 2) (pa_cons (pe_callTy (r := rListS K) call_list_of (by rfl) B.list (by decide +kernel) (pa_cons (pv 1) pa_nil)) (pa_cons pe_int (pa_cons pe_int (pa_cons pe_int (pa_cons (pe_ix (r := rIx K) ix_seq (pv 6) (pe_un un_neg pe_int) (fun _ _ => rfl)) pa_nil))))))) pa_nil)))))) (pss_one (ps_ret (pe_fn c__law_same hr (by omega) (by rfl) (pa_cons (pv 12) (pa_cons (pe_lst (pa_cons pe_bl (pa_cons (pe_callB (r := rAll K) (cr_all rfl) (by rfl) B.all (by decide +kernel) (pa_cons (pv 8) pa_nil)) (pa_cons (pe_callTy (r := rTupleOf K) call_tuple_of (by rfl) B.tuple (by decide +kernel) (pa_cons (pv 9) pa_nil)) (pa_cons (pe_tup (pa_cons pe_int (pa_cons (pe_tup (pa_cons pe_str (pa_cons (pv 1) (pa_cons pe_int (pa_cons (pe_tup (pa_cons pe_str (pa_cons pe_int pa_nil))) (pa_cons (pv 6) pa_nil)))))) pa_nil))) pa_nil))))) pa_nil)))))))))))), fun vs H Q h => ?_⟩)
  obtain ⟨u, n, v, r, rfl, hu, hn, hv, hne, hr6, q⟩ := h
  have hpos := List.length_pos_iff.mpr hne
  -- times, ends
  have tk : ∀ (low : Int) (k : Nat) G, 1 ≤ low ∧ low ≤ 100 → k ≤ 60000 → EvM (tCall spTake [] E0 (tCons (tVar 0) (tCons (tC (.int low)) tNil))) [some (.ref u), some v, none, none, none, none, none, none, none, none, none, none, none, none, none] G u k (k + 1) (fun x => 0 ≤ x ∧ x < low) := fun low k G hl hk => em_take (i := 0) rfl ep_c (by omega) ⟨hl.1, by omega⟩
  have t1 : ∀ (low : Int) (k : Nat) G, 1 ≤ low ∧ low ≤ 100 → k ≤ 60000 → EvM (tOp (rI0 fun i j => .int (i + j)) (tC (.int 1)) (tCall spTake [] E0 (tCons (tVar 0) (tCons (tC (.int low)) tNil)))) [some (.ref u), some v, none, none, none, none, none, none, none, none, none, none, none, none, none] G u k (k + 1) (fun x => 1 ≤ x ∧ x ≤ low) :=
    fun low k G hl hk => em_op (em_p (i := 1) ep_c) (tk low k G hl hk) fun i j H hi hj => ⟨rv_I0, by omega, by omega⟩
  refine t1 5 n H ⟨by decide, by decide⟩ (by omega) H (ExB.refl _ _) hu _ fun dl H1 hdl e1 hu1 => ?_
  refine t1 4 (n + 1) H1 ⟨by decide, by decide⟩ (by omega) H1 (ExB.refl _ _) hu1 _ fun lk H2 hlk e2 hu2 => ?_
  refine tk 9 (n + 1 + 1) H2 ⟨by decide, by decide⟩ (by omega) H2 (ExB.refl _ _) hu2 _ fun wt H3 hwt e3 hu3 => ⟨by show 3 ≤ sizeLine; decide, fun tt ht => ?_⟩
  have hu4 := hu3.ex (Ex.new (o := .tup [.int dl, .int lk, .int wt]) ht)
  have E4 : ExB u H (upd H3 tt (.tup [.int dl, .int lk, .int wt])) := exb_new ht ((e1.trans e2).trans e3)
  have dt : Dp K (upd H3 tt (.tup [.int dl, .int lk, .int wt])) (.ref tt) (.tuple [.int dl, .int lk, .int wt]) := .tup (st_of upd_same) (.cons (.int _) (.cons (.int _) (.cons (.int _) .nil)))
  generalize upd H3 tt (.tup [.int dl, .int lk, .int wt]) = H4 at hu4 E4 dt
  refine t1 30 (n + 1 + 1 + 1) H4 ⟨by decide, by decide⟩ (by omega) H4 (ExB.refl _ _) hu4 _ fun e0 H5 he0 e5 hu5 => ⟨by show 1 ≤ sizeLine; decide, fun qe hqe => ⟨by show 2 ≤ sizeLine; decide, fun tp htp => ⟨tp, _, rfl, st_of upd_same, rfl, _, _, rfl, _, _, rfl, rfl, ?_⟩⟩⟩
  have nqu : qe ≠ u := fun e => by
    obtain ⟨xs, hx⟩ := hu5.lst
    rw [e, hx] at hqe
    cases hqe
  have ex6 : Ex H5 (upd H5 qe (.lst [.int e0])) := Ex.new hqe
  have ex7 : Ex (upd H5 qe (.lst [.int e0])) (upd (upd H5 qe (.lst [.int e0])) tp (.tup [.ref tt, .ref qe])) := Ex.new htp
  have hu7 := (hu5.ex ex6).ex ex7
  have E7 : ExB u H (upd (upd H5 qe (.lst [.int e0])) tp (.tup [.ref tt, .ref qe])) := (E4.trans e5).trans (exb_ex (ex6.trans ex7))
  have dt7 := dpe (dp_tx (hu4.tx e5) _ _ rfl dt) (ex6.trans ex7)
  have hq7 : (upd (upd H5 qe (.lst [.int e0])) tp (.tup [.ref tt, .ref qe])) qe = some (.lst ([e0].map V.int)) := ex7 _ _ upd_same
  generalize upd (upd H5 qe (.lst [.int e0])) tp (.tup [.ref tt, .ref qe]) = H7 at hu7 E7 dt7 hq7
  clear ex7 htp hqe e5 hu5 ex6 hu4 E4 dt ht e3 hu3 e2 hu2 e1 hu1
  have dr7 := dp_tx (hu.tx E7) _ _ (rowD_flat r) hv
  have hTm : ∀ t, Sq t = some [.int dl, .int lk, .int wt] → Tm t dl lk wt := fun t h => ⟨h, hlk.1, by omega⟩
  obtain ⟨xu, hxu⟩ := hu7.lst
  -- the laps
  show tSeq _ _ _ [some (.ref u), some v, some (.ref tt), some (.ref qe), none, none, none, none, none, none, none, none, none, none, none] H7
  have hlen := ev_lenT (ed_var (K := K) (σ := [some (.ref u), some v, some (.ref tt), some (.ref qe), none, none, none, none, none, none, none, none, none, none, none]) (i := 1) rfl dr7)
  rw [List.length_map] at hlen
  refine Evl.q_forR1 (n := (r.length : Int) - 1) (ea_cons (ev_op hlen ev_c rv_I0) ea_nil) ⟨by omega, by omega⟩
    (fun i σ H' => i ≤ 6 ∧ (∃ qe x4 x5, σ = [some (.ref u), some v, some (.ref tt), some (.ref qe), x4, x5, none, none, none, none, none, none, none, none, none] ∧ qe ≠ u ∧ H' qe = some (.lst ((leastEnds dl lk i [e0]).map V.int))) ∧ Ex H7 H' ∧ 0 ≤ (leastEnds dl lk i [e0]).headD 0 ∧ (leastEnds dl lk i [e0]).headD 0 ≤ 30 + 10 * i)
    (fun H8 e8 => ⟨by omega, ⟨qe, _, _, rfl, nqu, e8 _ _ hq7⟩, e8, by show (0 : Int) ≤ e0; omega, by show e0 ≤ 30 + 10 * ((0 : Nat) : Int); omega⟩) (fun i σ H8 hi hP => ?_) (fun σ H8 hP => ?_)
  · obtain ⟨hi6, ⟨qe, x4, x5, rfl, nqu, hq8⟩, e8, hh0, hh1⟩ := hP
    obtain ⟨h, tl, hL⟩ := least_ne dl lk e0 i
    have hll : (leastEnds dl lk i [e0]).length = i + 1 := by rw [leastEnds_len]; rfl
    rw [hL] at hh0 hh1 hq8 hll
    have hh0 : 0 ≤ h := hh0
    have hh1 : h ≤ 30 + 10 * i := hh1
    show tSeq _ _ _ [some (.ref u), some v, some (.ref tt), some (.ref qe), some (.int (i : Int)), x5, none, none, none, none, none, none, none, none, none] H8
    have vt : EvD K (tVar 2) [some (.ref u), some v, some (.ref tt), some (.ref qe), some (.int (i : Int)), x5, none, none, none, none, none, none, none, none, none] H8 (.tuple [.int dl, .int lk, .int wt]) := ed_var rfl (dpe dt7 e8)
    have ve : EvD K (tVar 3) [some (.ref u), some v, some (.ref tt), some (.ref qe), some (.int (i : Int)), x5, none, none, none, none, none, none, none, none, none] H8 (.list ((h :: tl).map .int)) := ed_atI rfl hq8
    have gh := ev_i (ed_ixL ve (ev_c (v := .int 0)) (d := .int h) at0)
    have gl := ev_i (ed_ixT vt (ev_c (v := .int 1)) (d := .int lk) at1)
    have hr2 := ei_r2 (K := K) gh (ev_op (r := rI0 fun i j => .int (i + j)) gh gl rv_I0) ⟨by omega, by omega⟩ ⟨by omega, by omega⟩
    rw [show h + lk - h = lk by omega] at hr2
    obtain ⟨rest, hrest⟩ := look_first (lk := lk) (e0 := h) hlk.1
    have m := edl_lc1 (xs := List.range lk.toNat) (f := fun (i : Nat) => .int (h + (i : Int))) (o := fun (i : Nat) => if decide ((h + (i : Int)).fmod lk = 0) then some (PyData.int (h + (i : Int))) else none)
      (t := tTest (tOp rEq (tOp (rI (fun _ j => j ≠ 0) fun i j => .int (i.fmod j)) (tCB rInt1 (tCons (tVar 10) tNil)) (tOp (rIx K) (tVar 2) (tC (.int 1)))) (tC (.int 0)))) (te := tVar 10) (j := 10) (vs := [10]) hr2 (by rw [List.length_range]; omega) (fun _ => rfl) fun c hc x G eG hx => ⟨by
        have ex := dp_vint hx
        subst ex
        have gl' := ev_i (ed_ixT (ed_var (σ := [some (.ref u), some v, some (.ref tt), some (.ref qe), some (.int (i : Int)), x5, none, none, none, none, some (.int (h + (c : Int))), none, none, none, none]) (i := 2) rfl (dpe dt7 (e8.trans eG))) (ev_c (v := .int 1)) (d := .int lk) at1)
        refine et_is (et_T (ev_op (ev_op (ev_int (ev_var (i := 10) (v := .int (h + (c : Int))) rfl)) gl' (rv_I (show lk ≠ 0 by omega))) (ev_c (v := .int 0)) (rv_eq rfl))) ?_
        rw [dec_ii]
        cases decide ((h + (c : Int)).fmod lk = 0) <;> rfl, fun d' ed => by
        have e2 : d' = .int (h + (c : Int)) := by
          split at ed
          · exact (Option.some.inj ed).symm
          · cases ed
        subst e2
        exact ⟨ed_var rfl hx, rfl⟩⟩
    rw [hrest] at m
    refine q_d (K := K) (d := .int (lookAt lk h)) (ed_ixL (EvDL.toD m) ev_c at0) fun lv H9 e9 hlv => ?_
    have el := dp_vint hlv
    subst el
    show tAsg _ _ _ [some (.ref u), some v, some (.ref tt), some (.ref qe), some (.int (i : Int)), some (.int (lookAt lk h)), none, none, none, none, none, none, none, none, none] H9
    have gd9 := ev_i (ed_ixT (ed_var (K := K) (σ := [some (.ref u), some v, some (.ref tt), some (.ref qe), some (.int (i : Int)), some (.int (lookAt lk h)), none, none, none, none, none, none, none, none, none]) (H := H9) (i := 2) rfl (dpe dt7 (e8.trans e9))) (ev_c (v := .int 0)) (d := .int dl) at0)
    refine s_dl (K := K) (ds := [.int (leastIn dl lk h)] ++ (h :: tl).map .int) (edl_catW (edl_lst (eds_cons (ed_i (ev_op (ev_var rfl) gd9 rv_I0)) eds_nil) (le5 rfl)) (ev_var rfl) (e9 _ _ hq8) (ints_dpA _) (by rw [List.length_map, hll]; show 1 + _ ≤ _; omega)) fun np us H10 hnp e10 hnl hnd => ?_
    have eus : us = (leastIn dl lk h :: h :: tl).map V.int := dpA_ints (ns := leastIn dl lk h :: h :: tl) hnd
    subst eus
    have hnu : np ≠ u := fun e => by
      rw [e, e9 _ _ (e8 _ _ hxu)] at hnp
      cases hnp
    have hin : leastIn dl lk h = h + (-h) % lk + dl := by
      unfold leastIn
      rw [look_eq hlk.1]
    have m0 := Int.emod_nonneg (-h) (show lk ≠ 0 by omega)
    have m1 := Int.emod_lt_of_pos (-h) (show 0 < lk by omega)
    refine ⟨by omega, ⟨np, _, _, rfl, hnu, ?_⟩, (e8.trans e9).trans e10, ?_, ?_⟩
    · rw [leastEnds_succ, hL]
      exact hnl
    · rw [leastEnds_succ, hL]
      show 0 ≤ leastIn dl lk h
      omega
    · rw [leastEnds_succ, hL]
      show leastIn dl lk h ≤ 30 + 10 * ((i + 1 : Nat) : Int)
      omega
  · obtain ⟨_, ⟨qe, x4, x5, rfl, nqu, hq8⟩, e8, _, _⟩ := hP
    rw [show ((r.length : Int) - 1).toNat = r.length - 1 by omega] at hq8
    have hLl : (leastEnds dl lk (r.length - 1) [e0]).length = r.length := by
      rw [leastEnds_len]
      show r.length - 1 + 1 = r.length
      omega
    obtain ⟨lxs, hlast⟩ := least_last dl lk e0 (r.length - 1)
    have hgaps := gaps_least dl lk e0 (r.length - 1)
    generalize hLeq : leastEnds dl lk (r.length - 1) [e0] = L at *
    have hu8 := hu7.ex e8
    show tSeq _ _ _ [some (.ref u), some v, some (.ref tt), some (.ref qe), x4, x5, none, none, none, none, none, none, none, none, none] H8
    have vq8 : EvD K (tVar 3) [some (.ref u), some v, some (.ref tt), some (.ref qe), x4, x5, none, none, none, none, none, none, none, none, none] H8 (rowL L) := ed_atI rfl hq8
    refine (ed_tupleL vq8) H8 (Ex.refl _) _ fun lv H9 e9 hlv => ?_
    have hq9 := e9 _ _ hq8
    have hu9 := hu8.ex e9
    refine lc_urn (K := K) (i := 3) (j := 10) (q := qe) (es := L) (n := n + 1 + 1 + 1 + 1) rfl hq9 nqu hu9 (by omega) (fun _ => rfl) (fun k e G hk eG => em_op (φ := fun _ => True) (ψ := fun _ => True) (em_op (φ := fun _ => True) (ψ := fun _ => True) (fun H1 a b Q q => (em_p (ep_var rfl)) H1 a b Q fun i H2 _ => q i H2 trivial) (fun H1 a b Q q => (em_take (i := 0) (low := 3) (te := tC (.int 3)) rfl ep_c (by omega) ⟨by decide, by decide⟩) H1 a b Q fun i H2 _ => q i H2 trivial) fun i j H _ _ => ⟨rv_I0, trivial⟩) (fun H1 a b Q q => (em_p (ep_c (v := .int 1))) H1 a b Q fun i H2 _ => q i H2 trivial) fun i j H _ _ => ⟨rv_I0, trivial⟩)
      fun bp bs H10 hbp e10 hu10 hbs hbl => ⟨_, _, rfl, ?_⟩
    have nqb : qe ≠ bp := fun e => by rw [e, hbp] at hq9; cases hq9
    have E9 := E7.trans (exb_ex (e8.trans e9))
    have dt10 := dp_tx (hu9.tx e10) _ _ rfl (dpe dt7 (e8.trans e9))
    have dv10 := dp_tx (hu9.tx e10) _ _ (rowD_flat r) (dpe dr7 (e8.trans e9))
    have dl10 := dp_tx (hu9.tx e10) (rowD L) _ (rowD_flat L) hlv
    show tSeq _ _ _ [some (.ref u), some v, some (.ref tt), some (.ref qe), x4, x5, some lv, some (.ref bp), none, none, none, none, none, none, none] H10
    have vb10 : EvD K (tVar 7) [some (.ref u), some v, some (.ref tt), some (.ref qe), x4, x5, some lv, some (.ref bp), none, none, none, none, none, none, none] H10 (rowL bs) := ed_atI rfl hbs
    have sl1 := edl_sl vb10 (eo_some (te := tC (.int 1)) (i := 1) ev_c) eo_none
    rw [cut1, ← List.map_drop] at sl1
    have hz := ei_z2 vb10 (EvDL.toD sl1) rfl rfl
    rw [zip_pairs] at hz
    have hzl : (bs.zip (bs.drop 1)).length ≤ 40000 := by
      rw [List.length_zip]
      omega
    refine q_dl (K := K) (edl_map2 (K := K) (xs := bs.zip (bs.drop 1)) (f := fun a => .int a.1) (f' := fun a => .int a.2) (g := fun a => .bool (decide (leastIn dl lk a.2 ≤ a.1))) (j := 13) (l := 14) (vs := [13, 14]) hz hzl (fun _ _ => rfl) fun a ha x y G eG h1 h2 => ⟨?_, rfl⟩) fun gp gus H11 ngp e11 hgp hgd => ?_
    · have ea := dp_vint h1
      have eb := dp_vint h2
      subst ea eb
      have vt : EvD K (tVar 2) [some (.ref u), some v, some (.ref tt), some (.ref qe), x4, x5, some lv, some (.ref bp), none, none, none, none, none, some (.int a.1), some (.int a.2)] G (.tuple [.int dl, .int lk, .int wt]) := ed_var rfl (dpe dt10 eG)
      have gd := ev_i (ed_ixT vt (ev_c (v := .int 0)) (d := .int dl) at0)
      have gl := ev_i (ed_ixT vt (ev_c (v := .int 1)) (d := .int lk) at1)
      refine ed_is (ed_b (ev_op (ev_op (ev_op (ev_var (i := 14) (v := .int a.2) rfl) gd rv_I0) (ev_op (ev_int (ev_op (ev_c (v := .int 0)) (ev_var (i := 14) (v := .int a.2) rfl) rv_I0)) gl (rv_I (show lk ≠ 0 by omega))) rv_I0) (ev_var (i := 13) (v := .int a.1) rfl) rv_I0)) ?_
      rw [gap_eq hlk.1]
    have hgd' : DpAll K H11 gus ((gapsM dl lk bs).map .bool) := by
      rw [show (fun a : Int × Int => PyData.bool (decide (leastIn dl lk a.2 ≤ a.1))) = PyData.bool ∘ (fun a => decide (leastIn dl lk a.2 ≤ a.1)) from rfl, ← List.map_map, zip_map (fun i m => decide (leastIn dl lk m ≤ i))] at hgd
      exact hgd
    show tSeq _ _ _ [some (.ref u), some v, some (.ref tt), some (.ref qe), x4, x5, some lv, some (.ref bp), some (.ref gp), none, none, none, none, none, none] H11
    refine q_dl (K := K) (ds := []) (edl_lst eds_nil (le5 rfl)) fun lp us H12 nlp e12 hlp dlp => ?_
    cases dlp
    have hb11 := e11 _ _ hbs
    have db11 : Dp K H11 (.ref bp) (rowL bs) := .lst (sq_of hb11) (ints_dpA bs)
    refine q_forS (K := K) (ds := bs.map .int) (S := Ex H11) (eis_var (i := 7) rfl db11 rfl e12) (fun i σ H' => (∃ x10 x11, σ = [some (.ref u), some v, some (.ref tt), some (.ref qe), x4, x5, some lv, some (.ref bp), some (.ref gp), some (.ref lp), x10, x11, none, none, none]) ∧ Ex H11 H' ∧ ∃ us, H' lp = some (.lst us) ∧ DpAll K H' us ((bs.take i).map (lookD dl lk)))
      (fun G eG => ⟨⟨_, _, rfl⟩, e12.trans eG, [], eG _ _ hlp, .nil⟩) (fun i σ G hP => hP.2.1) (fun i d σ G x G2 hd hP eG hdx => ?_) (fun σ G hP => ?_)
    · obtain ⟨⟨x10, x11, rfl⟩, e13, us, hus, dus⟩ := hP
      rw [List.getElem?_map] at hd
      cases qb : bs[i]? with
      | none => rw [qb] at hd; cases hd
      | some b =>
        rw [qb] at hd
        cases hd
        have ex := dp_vint hdx
        subst ex
        show tSeq _ _ _ [some (.ref u), some v, some (.ref tt), some (.ref qe), x4, x5, some lv, some (.ref bp), some (.ref gp), some (.ref lp), some (.int b), x11, none, none, none] G2
        have E2 := e11.trans (e13.trans eG)
        have vt : EvD K (tVar 2) [some (.ref u), some v, some (.ref tt), some (.ref qe), x4, x5, some lv, some (.ref bp), some (.ref gp), some (.ref lp), some (.int b), x11, none, none, none] G2 (.tuple [.int dl, .int lk, .int wt]) := ed_var rfl (dpe dt10 E2)
        have gd := ev_i (ed_ixT vt (ev_c (v := .int 0)) (d := .int dl) at0)
        refine q_d (K := K) (d := optI (showBy dl lk b)) (ed_call (R := R_by) (eds_cons vt (eds_cons (ed_i (ev_op (ev_var (i := 10) (v := .int b) rfl) gd rv_I0)) eds_nil)) ⟨_, dl, lk, wt, b - dl, rfl, hTm _ rfl, rfl⟩) fun sv G3 e3 hsv => ?_
        show tDrop _ _ [some (.ref u), some v, some (.ref tt), some (.ref qe), x4, x5, some lv, some (.ref bp), some (.ref gp), some (.ref lp), some (.int b), some sv, none, none, none] G3
        have vt3 : EvD K (tVar 2) [some (.ref u), some v, some (.ref tt), some (.ref qe), x4, x5, some lv, some (.ref bp), some (.ref gp), some (.ref lp), some (.int b), some sv, none, none, none] G3 (.tuple [.int dl, .int lk, .int wt]) := ed_var rfl (dpe dt10 (E2.trans e3))
        have vs3 : EvD K (tVar 11) [some (.ref u), some v, some (.ref tt), some (.ref qe), x4, x5, some lv, some (.ref bp), some (.ref gp), some (.ref lp), some (.int b), some sv, none, none, none] G3 (optI (showBy dl lk b)) := ed_var rfl hsv
        have hus3 := (eG.trans e3) _ _ hus
        refine s_appD (K := K) (d := lookD dl lk b) rfl hus3 (ed_tup (eds_cons (d := optI (closeBy dl lk b)) ?_ (eds_cons vs3 eds_nil)) (le5 rfl)) (by rw [dpA_len dus, List.length_map, List.length_take]; omega) fun w G4 e4 hw => ⟨⟨_, _, rfl⟩, ?_, us ++ [w], upd_same, ?_⟩
        · unfold closeBy
          cases hs : showBy dl lk b with
          | none =>
            rw [hs] at vs3
            exact ed_if (et_T (ev_isN vs3)) (fun _ => ed_cnon) (fun z => Bool.noConfusion z)
          | some y =>
            rw [hs] at vs3
            exact ed_if (et_T (ev_isN vs3)) (fun z => Bool.noConfusion z) (fun _ => ed_call (R := R_by) (eds_cons vt3 (eds_cons (ed_i (ev_op (ev_i vs3) (ev_i (ed_ixT vt3 (ev_c (v := .int 0)) (d := .int dl) at0)) rv_I0)) eds_nil)) ⟨_, dl, lk, wt, y - dl, rfl, hTm _ rfl, rfl⟩)
        · exact Ex.mut ((e13.trans eG).trans (e3.trans e4)) nlp
        · have hus4 := e4 _ _ hus3
          rw [List.take_add_one, qb, List.map_append]
          exact dpA_app (dp_txA (tx_upd hus4) _ _ (flatA_map (lookD_flat dl lk) _) (dpeA dus ((eG.trans e3).trans e4))) (dp_txA (tx_upd hus4) _ _ (by show (flat (lookD dl lk b) && true) = true; rw [lookD_flat]; rfl) (dpA_one hw))
    · obtain ⟨⟨x10, x11, rfl⟩, e13, us, hus, dus⟩ := hP
      rw [List.length_map, List.take_length] at dus
      have E := e11.trans e13
      have y1 : EvD K (tVar 1) [some (.ref u), some v, some (.ref tt), some (.ref qe), x4, x5, some lv, some (.ref bp), some (.ref gp), some (.ref lp), x10, x11, none, none, none] G (rowD r) := ed_var rfl (dpe dv10 E)
      have y2 : EvD K (tVar 2) [some (.ref u), some v, some (.ref tt), some (.ref qe), x4, x5, some lv, some (.ref bp), some (.ref gp), some (.ref lp), x10, x11, none, none, none] G (.tuple [.int dl, .int lk, .int wt]) := ed_var rfl (dpe dt10 E)
      have y6 : EvD K (tVar 6) [some (.ref u), some v, some (.ref tt), some (.ref qe), x4, x5, some lv, some (.ref bp), some (.ref gp), some (.ref lp), x10, x11, none, none, none] G (rowD L) := ed_var rfl (dpe dl10 E)
      have y7 : EvD K (tVar 7) [some (.ref u), some v, some (.ref tt), some (.ref qe), x4, x5, some lv, some (.ref bp), some (.ref gp), some (.ref lp), x10, x11, none, none, none] G (rowL bs) := ed_atI rfl (e13 _ _ hb11)
      have hbs1 : RowL (rowL bs) bs := ⟨rfl, by omega⟩
      have a1 := ed_call (R := R_are_safe) (E := E0) (eds_cons (EvDL.toD (edl_listT y2)) (eds_cons y6 eds_nil)) ⟨_, dl, lk, wt, _, L, rfl, hTm _ rfl, RowL.self (by omega), rfl⟩
      rw [hgaps] at a1
      have a2 := ed_call (R := R_are_safe) (E := E0) (eds_cons y2 (eds_cons y7 eds_nil)) ⟨_, dl, lk, wt, _, bs, rfl, hTm _ rfl, hbs1, rfl⟩
      have a3 := ed_call (R := R_last_looks) (E := E0) (eds_cons y2 (eds_cons (ed_tupleL y7) eds_nil)) ⟨_, dl, lk, wt, _, bs, rfl, hTm _ rfl, RowL.self (by omega), rfl⟩
      have hlst : atI (L.map PyData.int) (-1) = some (.int e0) := by
        rw [hlast, List.map_append]
        exact atI_last _ _
      have a4 := ed_call (R := R_wish) (E := E0) (eds_cons y2 (eds_cons (EvDL.toD (edl_listT y1)) (eds_cons (ed_cint (i := 4)) (eds_cons (ed_cint (i := 9)) (eds_cons (ed_cint (i := 3)) (eds_cons (ed_ixT y6 (ev_un (ev_c (v := .int 1)) ru_neg) hlst) eds_nil)))))) ⟨_, dl, lk, wt, _, r, 4, 9, 3, e0, rfl, hTm _ rfl, ⟨rfl, by omega⟩, hne, rfl⟩
      rw [hLeq] at a4
      refine q_d (K := K) (ed_lst (eds_cons a1 (eds_cons a2 (eds_cons a3 (eds_cons a4 eds_nil)))) (le5 rfl)) fun hh G2 e2 hhh => ?_
      have E2 := E.trans e2
      have z1 : EvD K (tVar 1) [some (.ref u), some v, some (.ref tt), some (.ref qe), x4, x5, some lv, some (.ref bp), some (.ref gp), some (.ref lp), x10, x11, some hh, none, none] G2 (rowD r) := ed_var rfl (dpe dv10 E2)
      have z6 : EvD K (tVar 6) [some (.ref u), some v, some (.ref tt), some (.ref qe), x4, x5, some lv, some (.ref bp), some (.ref gp), some (.ref lp), x10, x11, some hh, none, none] G2 (rowD L) := ed_var rfl (dpe dl10 E2)
      have z8 : EvD K (tVar 8) [some (.ref u), some v, some (.ref tt), some (.ref qe), x4, x5, some lv, some (.ref bp), some (.ref gp), some (.ref lp), x10, x11, some hh, none, none] G2 (.list ((gapsM dl lk bs).map .bool)) := ed_at rfl (e2 _ _ (e13 _ _ hgp)) (dpeA hgd' (e13.trans e2))
      have z9 : EvD K (tVar 9) [some (.ref u), some v, some (.ref tt), some (.ref qe), x4, x5, some lv, some (.ref bp), some (.ref gp), some (.ref lp), x10, x11, some hh, none, none] G2 (.list (bs.map (lookD dl lk))) := ed_at rfl (e2 _ _ hus) (dpeA dus e2)
      have z12 : EvD K (tVar 12) [some (.ref u), some v, some (.ref tt), some (.ref qe), x4, x5, some lv, some (.ref bp), some (.ref gp), some (.ref lp), x10, x11, some hh, none, none] G2 _ := ed_var rfl hhh
      have due := ed_lst (eds_cons (ed_cbl (b := true)) (eds_cons (ed_b (ev_all z8)) (eds_cons (ed_tupleL z9) (eds_cons (ed_tup (eds_cons (ed_cint (i := 3)) (eds_cons (ed_tup (eds_cons (ed_cstr (s := "pay")) (eds_cons z1 (eds_cons (ed_cint (i := 4)) (eds_cons (ed_tup (eds_cons (ed_cstr (s := "image")) (eds_cons (ed_cint (i := 9)) eds_nil)) (le5 rfl)) (eds_cons z6 eds_nil))))) (le5 rfl)) eds_nil)) (le5 rfl)) eds_nil)))) (le5 rfl)
      have oks : ∀ o : Option Int, okD 1 (optI o) := fun o => by cases o <;> exact .inl rfl
      have hs := ed_call (R := R_same 9) (E := E0) (eds_cons z12 (eds_cons due eds_nil)) ⟨_, rfl, ok_lst (by show 4 ≤ 1000; decide) (ok_cons (ok_sc rfl) (ok_cons (ok_sc rfl) (ok_cons (ok_tup (by rw [List.length_map]; omega) (ok_map fun b _ => ok_tup (by show 2 ≤ 1000; decide) (ok_cons (okD_le (oks _) (by omega)) (ok_cons (okD_le (oks _) (by omega)) ok_nil))))
        (ok_cons (ok_tup (by show 2 ≤ 1000; decide) (ok_cons (ok_sc rfl) (ok_cons (ok_tup (by show 5 ≤ 1000; decide) (ok_cons (ok_sc rfl) (ok_cons (ok_row (by omega)) (ok_cons (ok_sc rfl) (ok_cons ok_img (ok_cons (ok_row (by omega)) ok_nil)))))) ok_nil))) ok_nil)))), rfl⟩
      exact (ev_b hs) G2 (Ex.refl _) _ fun G3 _ => q G3
end
end KT

set_option Elab.async false
set_option linter.all false
set_option autoImplicit false
set_option maxRecDepth 100000
set_option maxHeartbeats 4000000
/-! Ld: right. -/
namespace KT
open PySem PySem.Spec PyProof.Rows L2 Evl KD KM
theorem find_first {α : Type} (p : α → Bool) : ∀ l : List α, (∃ a ∈ l, p a = true) → ∃ (j : Nat) (a : α) (more : List α), l[j]? = some a ∧ p a = true ∧ (∀ j', j' < j → ∀ b, l[j']? = some b → p b = false) ∧ l.filter p = a :: more
  | [], h => by
    obtain ⟨a, ha, _⟩ := h
    cases ha
  | x :: l, h => by
    cases q : p x with
    | true => exact ⟨0, x, l.filter p, rfl, q, fun j' hj => absurd hj (Nat.not_lt_zero _), by rw [List.filter_cons, q]; rfl⟩
    | false =>
      obtain ⟨a, ha, pa⟩ := h
      rcases List.mem_cons.mp ha with e | ha
      · rw [e, q] at pa; cases pa
      · obtain ⟨j, b, more, h1, h2, h3, h4⟩ := find_first p l ⟨a, ha, pa⟩
        refine ⟨j + 1, b, more, h1, h2, fun j' hj c hc => ?_, by rw [List.filter_cons, q]; exact h4⟩
        cases j' with
        | zero =>
          have e := Option.some.inj hc
          rw [← e]
          exact q
        | succ j' => exact h3 j' (by omega) c hc
theorem sheetsD_flat (S : List Sheet) : flat (sheetsD S) = true := sheetsA_flat S
theorem sheets_few {N : List Ch} {S : List Sheet} (h : ShsOk N S) : ∀ s ∈ S, s.locks.length ≤ 2 := fun s hs => by
  obtain ⟨i, hi, e⟩ := List.getElem_of_mem hs
  rcases (h.at_ i s (by rw [List.getElem?_eq_getElem hi, e])).lk with z | ⟨a, b, z, _, _⟩ <;> rw [z]
  · exact Nat.zero_le _
  · exact Nat.le_succ 1
theorem scalA_depth (l : List Int) : SeqAt.shaped (.list (l.map .int)) = true := by
  obtain ⟨a, b⟩ := scal_depth l
  show (PyData.canLayAll0 (l.map .int) && decide (PyData.depthAll (l.map .int) + 1 ≤ 64)) = true
  rw [a, b]
  rfl
section
variable {P : Program} {w : World} {K : PySem.W.Frag} {mg : Str → Option Value} {base : Heap}
def spRight (K : PySem.W.Frag) : Sp := fun vs H Q _ => ∃ (u : Addr), vs = [.ref u] ∧ Urn u 0 H ∧ ∀ H', Q (.bl true) H'
theorem d_right (B : Bt mg) (A : At K mg "_law_right" s__law_right ["_law_urn"]) (c__law_take : TakeOk P w K mg base) (c__law_net : Dfn P w K mg base "_law_net" ["_law_urn"] CX0 2 (spNet K)) (c__law_sheets : Dfn P w K mg base "_law_sheets" ["_law_urn", "_law_net_here"] CX0 2 (spSheets K))
    (c_routes : Dfn P w K mg base "routes" ["net", "payer", "payee", "most"] CX0 5 (spL K R_routes)) (c__law_most : Dfn P w K mg base "_law_most" ["_law_net_here", "_law_sheets_here", "_law_payer", "_law_row"] CX0 2 (spF K R_lmost))
    (c_most_over : Dfn P w K mg base "most_over" ["net", "sheets", "payer", "route"] CX0 6 (spF K R_most)) (c__law_lists : Dfn P w K mg base "_law_lists" ["_law_matter"] CX0 9 (spLists K 9))
    (c_routes_for : Dfn P w K mg base "routes_for" ["net", "sheets", "payer", "payee", "amount", "most"] CX0 7 (spL K R_routes_for)) (c__law_heard : Dfn P w K mg base "_law_heard" ["_law_door", "_law_parts"] CX0 9 (spC K R_heard))
    (c__law_same : Dfn P w K mg base "_law_same" ["_law_got", "_law_goal"] CX0 9 (spF K (R_same 9))) (c__law_of : Dfn P w K mg base "_law_of" ["_law_urn", "_law_goods_so"] CX0 2 (spOf K))
    (c__law_locks_right : Dfn P w K mg base "_law_locks_right" ["_law_net_here", "_law_sheets_here", "_law_payer", "_law_row", "_law_amount", "_law_ends"] CX0 10 (spF K R_lr)) (c__law_ends_right : Dfn P w K mg base "_law_ends_right" ["_law_urn", "_law_row"] CX0 10 (spEnds K)) :
    Dfn P w K mg base "_law_right" ["_law_urn"] CX0 11 (spRight K) := by
  refine at_ok0 A sc__law_right (fun vs H Q E h => by obtain ⟨u, rfl, _⟩ := h; rfl) (fun f cdv A outer s H0 E hr => ⟨_, (pss_cons (ps_set (i := 1) sc__law_right.nd rfl (Or.inr rfl) (pe_fn c__law_net hr (by omega) (by rfl) (pa_cons (pv 0) pa_nil))) (pss_cons (ps_asg (pe_tup (pa_cons (pe_fn c__law_sheets hr (by omega) (by rfl) (pa_cons (pv 0) (pa_cons (pv 1) pa_nil))) (pa_cons (pe_fn c__law_take hr (by omega) (by rfl) (pa_cons (pv 0) (pa_cons pe_int pa_nil))) (pa_cons (pe_fn c__law_take hr (by omega) (by rfl) (pa_cons (pv 0) (pa_cons pe_int pa_nil))) (pa_cons (pe_op op_add pe_int (pe_fn c__law_take hr (by omega) (by rfl) (pa_cons (pv 0) (pa_cons pe_int pa_nil)))) pa_nil))))) (pg_tup (by rfl) (pgs_cons (pg_name (i := 2) sc__law_right.nd rfl (Or.inr rfl)) (pgs_cons (pg_name (i := 3) sc__law_right.nd rfl (Or.inr rfl)) (pgs_cons (pg_name (i := 4) sc__law_right.nd rfl (Or.inl rfl)) (pgs_cons (pg_name (i := 5) sc__law_right.nd rfl (Or.inr rfl)) pgs_nil)))))) (pss_cons (ps_set (i := 6) sc__law_right.nd rfl (Or.inl rfl) (pe_fn c_routes hr (by omega) (by rfl) (pa_cons (pv 1) (pa_cons (pv 3) (pa_cons (pv 4) (pa_cons (pe_callB (r := rLenS K) call_len_seq (by rfl) B.len PySem.boot_len (pa_cons (pv 1) pa_nil)) pa_nil)))))) (pss_cons (ps_if (PW.pt (pw_or (pt_not (pt_val (pe_callB (r := rIsi K) call_isi (by rfl) B.isinstance (by decide +kernel) (pa_cons (pv 6) (pa_cons (pe_bltn (v := .ty "list") (by rfl) B.list (by decide +kernel) rfl) pa_nil))))) (pw_or1 (pt_cmpR op_gt (pe_callB (r := rLenS K) call_len_seq (by rfl) B.len PySem.boot_len (pa_cons (pv 6) pa_nil)) pe_int (nomark _))))) (pss_one (ps_ret pe_bl)) pss_nil) (pss_cons (ps_setLc (i := 7) (own := [("_law_row", 12)]) (g := gName 12) rfl sc__law_right.nd rfl rfl (sw_true rfl rfl rfl (by decide +kernel)) (pi_any (pv 6)) (blkOk_by (own := [("_law_row", 12)]) (N := ["_law_urn", "_law_net_here", "_law_sheets_here", "_law_payer", "_law_payee", "_law_amount", "_law_rows", "_law_mosts", "_law_goods", "_law_heard_here", "_law_none", "_law_due", "_law_row", "_law_most_here", "_law_k"]) (sc := defScope s__law_right) (by decide +kernel)) (fun _ _ _ _ _ => (pg_name (i := 12) sc__law_right.nd rfl (Or.inl rfl))) (fun _ _ _ _ _ => pts_nil) (fun _ _ _ _ _ => (pe_fn c__law_most hr (by omega) (by rfl) (pa_cons (pv 1) (pa_cons (pv 2) (pa_cons (pv 3) (pa_cons (pv 12) pa_nil))))))) (pss_cons (ps_setLc (i := 8) (own := [("_law_row", 12), ("_law_most_here", 13)]) (g := gTup K 2 (gCons (gName 12) (gCons (gName 13) gNil))) rfl sc__law_right.nd rfl rfl (sw_true rfl rfl rfl (by decide +kernel)) (pi_z2 (by rfl) B.zip (pa_cons (pv 6) (pa_cons (pv 7) pa_nil))) (blkOk_by (own := [("_law_row", 12), ("_law_most_here", 13)]) (N := ["_law_urn", "_law_net_here", "_law_sheets_here", "_law_payer", "_law_payee", "_law_amount", "_law_rows", "_law_mosts", "_law_goods", "_law_heard_here", "_law_none", "_law_due", "_law_row", "_law_most_here", "_law_k"]) (sc := defScope s__law_right) (by decide +kernel)) (fun _ _ _ _ _ => (pg_tup (by rfl) (pgs_cons (pg_name (i := 12) sc__law_right.nd rfl (Or.inl rfl)) (pgs_cons (pg_name (i := 13) sc__law_right.nd rfl (Or.inl rfl)) pgs_nil)))) (fun _ _ _ _ _ => (pts_one (pt_cmpR op_ge (pv 13) (pv 5) (nomark _)))) (fun _ _ _ _ _ => (pv 12))) (pss_cons (ps_set (i := 9) sc__law_right.nd rfl (Or.inl rfl) (pe_lst (pa_cons (pe_lc (own := [("_law_row", 12)]) (g := gName 12) rfl sc__law_right.nd (pi_any (pv 6)) (blkOk_by (own := [("_law_row", 12)]) (N := ["_law_urn", "_law_net_here", "_law_sheets_here", "_law_payer", "_law_payee", "_law_amount", "_law_rows", "_law_mosts", "_law_goods", "_law_heard_here", "_law_none", "_law_due", "_law_row", "_law_most_here", "_law_k"]) (sc := defScope s__law_right) (by decide +kernel)) (fun _ _ _ _ _ => (pg_name (i := 12) sc__law_right.nd rfl (Or.inl rfl))) (fun _ _ _ _ _ => pts_nil) (fun _ _ _ _ _ => (pe_fn c_most_over hr (by omega) (by rfl) (pa_cons (pv 1) (pa_cons (pe_fn c__law_lists hr (by omega) (by rfl) (pa_cons (pv 2) pa_nil)) (pa_cons (pv 3) (pa_cons (pv 12) pa_nil))))))) (pa_cons (pe_fn c_routes_for hr (by omega) (by rfl) (pa_cons (pv 1) (pa_cons (pv 2) (pa_cons (pv 3) (pa_cons (pv 4) (pa_cons (pv 5) (pa_cons (pe_callB (r := rLenS K) call_len_seq (by rfl) B.len PySem.boot_len (pa_cons (pv 1) pa_nil)) pa_nil))))))) pa_nil)))) (pss_cons (ps_set (i := 9) sc__law_right.nd rfl (Or.inl rfl) (pe_op op_cat (pv 9) (pe_lst (pa_cons (pe_fn c__law_heard hr (by omega) (by rfl) (pa_cons pe_int (pa_cons (pe_tup (pa_cons (pv 1) (pa_cons (pe_fn c__law_lists hr (by omega) (by rfl) (pa_cons (pv 2) pa_nil)) (pa_cons (pv 3) (pa_cons (pv 4) (pa_cons (pv 5) pa_nil)))))) pa_nil))) (pa_cons (pe_fn c__law_heard hr (by omega) (by rfl) (pa_cons pe_int (pa_cons (pe_tup (pa_cons (pe_fn c__law_lists hr (by omega) (by rfl) (pa_cons (pv 1) pa_nil)) (pa_cons (pv 2) (pa_cons (pv 3) (pa_cons (pv 4) pa_nil))))) pa_nil))) pa_nil))))) (pss_cons (ps_set (i := 10) sc__law_right.nd rfl (Or.inl rfl) (pe_lst (pa_cons pe_str (pa_cons pe_bl pa_nil)))) (pss_cons (ps_set (i := 11) sc__law_right.nd rfl (Or.inl rfl) (pe_lst (pa_cons (pv 7) (pa_cons (pv 8) (pa_cons (pe_ifExp (pt_cmpR (r := rNeD K) (op_neD (hu_of hr)) (pv 8) (pe_lst pa_nil) (nomark _)) (pe_ix (r := rIx K) ix_seq (pv 8) pe_int (fun _ _ => rfl)) (pv 10)) (pa_cons (pe_ifExp (pt_cmpR (r := rNeD K) (op_neD (hu_of hr)) (pv 6) (pe_lst pa_nil) (nomark _)) (pe_ix (r := rIx K) ix_seq (pv 6) (pe_bm PySem.F.plainAttrs_list PySem.F.slot_list_index PySem.F.type_list_index mt_index (pv 7) (pa_cons (pe_callB (r := rMax K) (cr_max rfl) (by rfl) B.max (by decide +kernel) (pa_cons (pv 7) pa_nil)) pa_nil)) (fun _ _ => rfl)) (pv 10)) pa_nil)))))) (pss_cons (ps_if (pt_not (pt_val (pe_fn c__law_same hr (by omega) (by rfl) (pa_cons (pv 9) (pa_cons (pv 11) pa_nil))))) (pss_one (ps_ret pe_bl)) pss_nil) (pss_cons (ps_set (i := 12) sc__law_right.nd rfl (Or.inl rfl) (pe_ifExp (pt_cmpR (r := rNeD K) (op_neD (hu_of hr)) (pv 6) (pe_lst pa_nil) (nomark _)) (pe_fn c__law_of hr (by omega) (by rfl) (pa_cons (pv 0) (pa_cons (pv 6) pa_nil))) (pe_tup (pa_cons pe_int pa_nil)))) (pss_cons (ps_if (PW.pt (pw_and (pt_cmpR (r := rNeD K) (op_neD (hu_of hr)) (pv 6) (pe_lst pa_nil) (nomark _)) (pw_and1 (pt_not (pt_val (pe_fn c__law_locks_right hr (by omega) (by rfl) (pa_cons (pv 1) (pa_cons (pv 2) (pa_cons (pv 3) (pa_cons (pv 12) (pa_cons (pv 5) (pa_cons (pe_callTy (r := rTupleOf K) call_tuple_of (by rfl) B.tuple (by decide +kernel) (pa_cons (pe_lc (own := [("_law_k", 14)]) (g := gName 14) rfl sc__law_right.nd (pi_range1 (by rfl) B.range (pa_cons (pe_callB (r := rLenS K) call_len_seq (by rfl) B.len PySem.boot_len (pa_cons (pv 12) pa_nil)) pa_nil)) (blkOk_by (own := [("_law_k", 14)]) (N := ["_law_urn", "_law_net_here", "_law_sheets_here", "_law_payer", "_law_payee", "_law_amount", "_law_rows", "_law_mosts", "_law_goods", "_law_heard_here", "_law_none", "_law_due", "_law_row", "_law_most_here", "_law_k"]) (sc := defScope s__law_right) (by decide +kernel)) (fun _ _ _ _ _ => (pg_name (i := 14) sc__law_right.nd rfl (Or.inl rfl))) (fun _ _ _ _ _ => pts_nil) (fun _ _ _ _ _ => (pe_op op_sub pe_int (pv 14)))) pa_nil)) pa_nil)))))))))))) (pss_one (ps_ret pe_bl)) pss_nil) (pss_one (ps_ret (pe_fn c__law_ends_right hr (by omega) (by rfl) (pa_cons (pv 0) (pa_cons (pv 12) pa_nil)))))))))))))))))), fun vs H Q h => ?_⟩)
  obtain ⟨u, rfl, hu, q⟩ := h
  -- the net
  refine ⟨_, rfl, ⟨u, 0, rfl, hu, by omega, fun nv N H1 hN e1 hu1 hnv => ?_⟩⟩
  have hN6 := hN.few
  have hN1 := hN.one
  show tSeq _ _ _ [some (.ref u), some nv, none, none, none, none, none, none, none, none, none, none, none, none, none] H1
  -- the sheets, payer, payee, amount
  refine ⟨_, rfl, _, rfl, ⟨u, 30, nv, N, rfl, urn_le hu1 (by omega), by omega, hnv, hN, fun sv S H2 hS e2 hu2 hsv => ?_⟩⟩
  have hSl := hS.len
  have tk : ∀ (low : Int) (k : Nat) G, 1 ≤ low ∧ low ≤ 100 → k ≤ 60000 → EvM (tCall spTake [] E0 (tCons (tVar 0) (tCons (tC (.int low)) tNil))) [some (.ref u), some nv, none, none, none, none, none, none, none, none, none, none, none, none, none] G u k (k + 1) (fun x => 0 ≤ x ∧ x < low) := fun low k G hl hk => em_take (i := 0) rfl ep_c (by omega) ⟨hl.1, by omega⟩
  have t1 : EvM (tOp (rI0 fun i j => .int (i + j)) (tC (.int 1)) (tCall spTake [] E0 (tCons (tVar 0) (tCons (tC (.int 8)) tNil)))) [some (.ref u), some nv, none, none, none, none, none, none, none, none, none, none, none, none, none] H2 u 72 73 (fun x => 1 ≤ x) := em_op (em_p (i := 1) ep_c) (tk 8 72 H2 ⟨by decide, by decide⟩ (by omega)) fun i j H hi hj => ⟨rv_I0, by omega⟩
  refine tk 4 70 H2 ⟨by decide, by decide⟩ (by omega) H2 (ExB.refl _ _) (urn_le hu2 (by omega)) _ fun p H3 hp e3 hu3 => ?_
  refine tk 4 71 H3 ⟨by decide, by decide⟩ (by omega) H3 (ExB.refl _ _) hu3 _ fun qq H4 hqq e4 hu4 => ?_
  refine (t1.mono (e3.trans e4)) H4 (ExB.refl _ _) hu4 _ fun am H5 ham e5 hu5 => ⟨by show 4 ≤ sizeLine; decide, fun tp htp => ⟨tp, _, rfl, st_of upd_same, rfl, _, _, rfl, _, _, rfl, _, _, rfl, _, _, rfl, rfl, ?_⟩⟩
  have ext : Ex H5 (upd H5 tp (.tup [sv, .int p, .int qq, .int am])) := Ex.new htp
  have hu6 := hu5.ex ext
  have hsv6 := dpe (dp_tx (hu4.tx e5) _ _ (sheetsD_flat S) (dp_tx (hu3.tx e4) _ _ (sheetsD_flat S) (dp_tx (hu2.tx e3) _ _ (sheetsD_flat S) hsv))) ext
  have hnv6 := dpe (dp_tx (hu4.tx e5) _ _ (netD_flat N) (dp_tx (hu3.tx e4) _ _ (netD_flat N) (dp_tx (hu2.tx e3) _ _ (netD_flat N) (dp_tx (hu1.tx e2) _ _ (netD_flat N) hnv)))) ext
  generalize upd H5 tp (.tup [sv, .int p, .int qq, .int am]) = H6 at hu6 hsv6 hnv6
  clear ext htp e5 hu5 e4 hu4 e3 hu3 e2 hu2 hsv hnv e1 hu1 t1 tk
  show tSeq _ _ _ [some (.ref u), some nv, some sv, some (.int p), some (.int qq), some (.int am), none, none, none, none, none, none, none, none, none] H6
  -- rows
  have x1 : EvD K (tVar 1) [some (.ref u), some nv, some sv, some (.int p), some (.int qq), some (.int am), none, none, none, none, none, none, none, none, none] H6 (netD N) := ed_var rfl hnv6
  have hln := ev_lenT x1
  rw [List.length_map] at hln
  have hrt := edl_call (R := R_routes) (E := E0) (eds_cons x1 (eds_cons (ed_i (ev_var (i := 3) (v := .int p) rfl)) (eds_cons (ed_i (ev_var (i := 4) (v := .int qq) rfl)) (eds_cons (ed_i hln) eds_nil)))) ⟨netD N, N, p, qq, rfl, NetL.self (by omega), hN6, rfl⟩
  refine q_dl (K := K) hrt fun rp rus H7 nrp e7 hrp drp => ?_
  obtain ⟨xu, hxu⟩ := hu6.lst
  have nru : rp ≠ u := fun e => by rw [e, hxu] at nrp; cases nrp
  have hRs := routes_le hN6 p qq
  have hrow := fun (row : List Int) (h : row ∈ routesM N p qq N.length) => routes_row h
  generalize hRsd : routesM N p qq N.length = Rs at *
  have hu7 := hu6.ex e7
  have hn7 := dpe hnv6 e7
  have hs7 := dpe hsv6 e7
  show tSeq _ _ _ [some (.ref u), some nv, some sv, some (.int p), some (.int qq), some (.int am), some (.ref rp), none, none, none, none, none, none, none, none] H7
  have y6 : EvD K (tVar 6) [some (.ref u), some nv, some sv, some (.int p), some (.int qq), some (.int am), some (.ref rp), none, none, none, none, none, none, none, none] H7 (.list (Rs.map rowD)) := ed_at rfl hrp drp
  have hlr := ev_lenL y6
  rw [List.length_map] at hlr
  refine q_no (et_is (et_or (et_not (et_B (ev_isi y6 (kb_list _)))) fun _ => et_T (ev_op hlr (ev_c (v := .int 60)) rv_I0)) ?_) fun H8 e8 => ?_
  · show (false || decide ((60 : Int) < (Rs.length : Int))) = false
    rw [decide_eq_false (by omega)]
    rfl
  have hu8 := hu7.ex e8
  have hn8 := dpe hn7 e8
  have hs8 := dpe hs7 e8
  have hrp8 := e8 _ _ hrp
  have drp8 := dpeA drp e8
  clear e7 hu6 hnv6 hsv6 hln hrt x1 hu7 hn7 hs7 hrp drp y6 hlr nrp hxu
  -- mosts
  have ms : ∀ row ∈ Rs, ∀ (x : V) (G : Hp), Ex H8 G → Dp K G x (rowD row) → EvD K (tCall (spF K R_lmost) [] E0 (tCons (tVar 1) (tCons (tVar 2) (tCons (tVar 3) (tCons (tVar 12) tNil))))) [some (.ref u), some nv, some sv, some (.int p), some (.int qq), some (.int am), some (.ref rp), none, none, none, none, none, some x, none, none] G (.int (mostM N (sumsOf S) p row)) := fun row hr x G eG hx => by
    obtain ⟨h1, f, hf, _⟩ := hrow row hr
    exact ed_call (R := R_lmost) (eds_cons (ed_var (i := 1) rfl (dpe hn8 eG)) (eds_cons (ed_var (i := 2) rfl (dpe hs8 eG)) (eds_cons (ed_i (ev_var (i := 3) (v := .int p) rfl)) (eds_cons (ed_var (i := 12) rfl hx) eds_nil)))) ⟨N, sheetsD S, sumsOf S, p, row, rfl, ShL.tup S, by rw [sumsOf_len]; exact hSl, people_in hf, people_ne hf, by omega, rfl⟩
  have y6 : EvD K (tVar 6) [some (.ref u), some nv, some sv, some (.int p), some (.int qq), some (.int am), some (.ref rp), none, none, none, none, none, none, none, none] H8 (.list (Rs.map rowD)) := ed_at rfl hrp8 drp8
  refine q_dl (K := K) (edl_map (K := K) (xs := Rs) (f := rowD) (g := fun row => .int (mostM N (sumsOf S) p row)) (j := 12) (vs := [12]) (ei_L y6) (by omega) (fun _ => rfl) fun row hr x G eG hx => ⟨ms row hr x G eG hx, rfl⟩) fun mp mus H9 nmp e9 hmp dmp => ?_
  have dmp' : DpAll K H9 mus ((Rs.map (mostM N (sumsOf S) p)).map .int) := by rw [List.map_map]; exact dmp
  have hmus := dpA_ints dmp'
  subst hmus
  clear dmp dmp' y6 ms
  show tSeq _ _ _ [some (.ref u), some nv, some sv, some (.int p), some (.int qq), some (.int am), some (.ref rp), some (.ref mp), none, none, none, none, none, none, none] H9
  -- goods
  have y6 : EvD K (tVar 6) [some (.ref u), some nv, some sv, some (.int p), some (.int qq), some (.int am), some (.ref rp), some (.ref mp), none, none, none, none, none, none, none] H9 (.list (Rs.map rowD)) := ed_at rfl (e9 _ _ hrp8) (dpeA drp8 e9)
  have y7 : EvD K (tVar 7) [some (.ref u), some nv, some sv, some (.int p), some (.int qq), some (.int am), some (.ref rp), some (.ref mp), none, none, none, none, none, none, none] H9 (.list ((Rs.map (mostM N (sumsOf S) p)).map .int)) := ed_atI rfl hmp
  have hz := ei_z2 y6 y7 rfl rfl
  rw [zip_pairs] at hz
  have hzip : Rs.zip (Rs.map (mostM N (sumsOf S) p)) = Rs.map fun row => (row, mostM N (sumsOf S) p row) := by
    clear hz y6 y7 hmp drp8 hrow hRs hRsd hrp8
    induction Rs with
    | nil => rfl
    | cons a l ih => exact congrArg (_ :: ·) ih
  rw [hzip, List.map_map] at hz
  have hgoods : Rs.filterMap (fun row => if decide (mostM N (sumsOf S) p row ≥ am) then some (rowD row) else none) = (goodsM N (sumsOf S) p qq am).map rowD := by
    unfold goodsM
    rw [hRsd]
    exact fm_if rowD (fun row => decide (mostM N (sumsOf S) p row ≥ am)) Rs
  refine q_dl (K := K) (edl_lc2 (K := K) (xs := Rs) (f := rowD) (f' := fun row => .int (mostM N (sumsOf S) p row)) (o := fun row => if decide (mostM N (sumsOf S) p row ≥ am) then some (rowD row) else none) (j := 12) (l := 13) (vs := [12, 13]) hz (by omega) (fun _ _ => rfl) fun row hr x y G eG hx hy => ⟨?_, fun d' ed => ?_⟩) fun gp gus H10 ngp e10 hgp dgp => ?_
  · have ey := dp_vint hy
    subst ey
    refine et_is (et_T (ev_op (ev_var (i := 13) (v := .int (mostM N (sumsOf S) p row)) rfl) (ev_var (i := 5) (v := .int am) rfl) rv_I0)) ?_
    show decide (am ≤ mostM N (sumsOf S) p row) = _
    cases hq : decide (mostM N (sumsOf S) p row ≥ am) <;> simpa using hq
  · have e2 : d' = rowD row := by
      split at ed
      · exact (Option.some.inj ed).symm
      · cases ed
    subst e2
    exact ⟨ed_var rfl hx, rowD_flat _⟩
  rw [hgoods] at dgp
  have hGs : (goodsM N (sumsOf S) p qq am).length ≤ 60 := by
    unfold goodsM
    rw [hRsd]
    exact Nat.le_trans (List.length_filter_le _ _) hRs
  have hGlen : ∀ g ∈ goodsM N (sumsOf S) p qq am, g.length ≤ N.length := fun g hg => by
    unfold goodsM at hg
    rw [hRsd] at hg
    exact (hrow g (List.mem_filter.mp hg).1).1
  show tSeq _ _ _ [some (.ref u), some nv, some sv, some (.int p), some (.int qq), some (.int am), some (.ref rp), some (.ref mp), some (.ref gp), none, none, none, none, none, none] H10
  have E10 := e9.trans e10
  have hrp10 := E10 _ _ hrp8
  have drp10 := dpeA drp8 E10
  have hmp10 := e10 _ _ hmp
  have hn10 := dpe hn8 E10
  have hs10 := dpe hs8 E10
  have hu10 := hu8.ex E10
  clear hz hgoods y6 y7 hzip e10 e9 E10 hrp8 drp8 hmp hn8 hs8 hu8
  -- what is heard
  have x6 : EvD K (tVar 6) [some (.ref u), some nv, some sv, some (.int p), some (.int qq), some (.int am), some (.ref rp), some (.ref mp), some (.ref gp), none, none, none, none, none, none] H10 (.list (Rs.map rowD)) := ed_at rfl hrp10 drp10
  have x1 : EvD K (tVar 1) [some (.ref u), some nv, some sv, some (.int p), some (.int qq), some (.int am), some (.ref rp), some (.ref mp), some (.ref gp), none, none, none, none, none, none] H10 (netD N) := ed_var rfl hn10
  have x2 : EvD K (tVar 2) [some (.ref u), some nv, some sv, some (.int p), some (.int qq), some (.int am), some (.ref rp), some (.ref mp), some (.ref gp), none, none, none, none, none, none] H10 (sheetsD S) := ed_var rfl hs10
  have hln := ev_lenT x1
  rw [List.length_map] at hln
  have mo := edl_map (xs := Rs) (f := rowD) (g := fun row => .int (mostM N (sumsOf S) p row)) (te := tCall (spF K R_most) [] E0 (tCons (tVar 1) (tCons (tCall (spLists K 9) [] E0 (tCons (tVar 2) tNil)) (tCons (tVar 3) (tCons (tVar 12) tNil))))) (j := 12) (vs := [12]) (ei_L x6) (by omega) (fun _ => rfl) fun row hr x G eG hx => ⟨by
    obtain ⟨h1, f, hf, _⟩ := hrow row hr
    exact ed_call (R := R_most) (eds_cons (ed_var (i := 1) rfl (dpe hn10 eG)) (eds_cons (ed_lists (n := 9) (ed_var (i := 2) rfl (dpe hs10 eG)) (okD_le (ok_sheets (n := 0) (by omega) (sheets_few hS)) (by omega))) (eds_cons (ed_i (ev_var (i := 3) (v := .int p) rfl)) (eds_cons (ed_var (i := 12) rfl hx) eds_nil)))) ⟨_, N, _, sumsOf S, p, _, row, f, rfl, NetL.self (by omega), by omega, ShL.lists S, by rw [sumsOf_len]; exact hSl, RowL.self (by omega), hf, rfl⟩, rfl⟩
  have rf := edl_call (R := R_routes_for) (E := E0) (eds_cons x1 (eds_cons x2 (eds_cons (ed_i (ev_var (i := 3) (v := .int p) rfl)) (eds_cons (ed_i (ev_var (i := 4) (v := .int qq) rfl)) (eds_cons (ed_i (ev_var (i := 5) (v := .int am) rfl)) (eds_cons (ed_i hln) eds_nil)))))) ⟨_, N, _, sumsOf S, p, qq, am, rfl, NetL.self (by omega), hN6, ShL.tup S, by rw [sumsOf_len]; exact hSl, rfl⟩
  rw [show ((routesM N p qq N.length).filter fun r => decide (mostM N (sumsOf S) p r ≥ am)) = goodsM N (sumsOf S) p qq am from rfl] at rf
  refine q_dl (K := K) (edl_lst (eds_cons (EvDL.toD mo) (eds_cons (EvDL.toD rf) eds_nil)) (le5 rfl)) fun hp hus H11 nhp e11 hhp dhp => ?_
  show tSeq _ _ _ [some (.ref u), some nv, some sv, some (.int p), some (.int qq), some (.int am), some (.ref rp), some (.ref mp), some (.ref gp), some (.ref hp), none, none, none, none, none] H11
  clear x6 x1 x2 hln mo rf
  have z1 : EvD K (tVar 1) [some (.ref u), some nv, some sv, some (.int p), some (.int qq), some (.int am), some (.ref rp), some (.ref mp), some (.ref gp), some (.ref hp), none, none, none, none, none] H11 (netD N) := ed_var rfl (dpe hn10 e11)
  have z2 : EvD K (tVar 2) [some (.ref u), some nv, some sv, some (.int p), some (.int qq), some (.int am), some (.ref rp), some (.ref mp), some (.ref gp), some (.ref hp), none, none, none, none, none] H11 (sheetsD S) := ed_var rfl (dpe hs10 e11)
  -- the two errors or rows
  obtain ⟨d0, hd0, hD0⟩ : ∃ d0, (R_br [netD N, lstD (sheetsD S), .int p, .int qq, .int am] d0 ∨ (Rx_br [netD N, lstD (sheetsD S), .int p, .int qq, .int am] ∧ d0 = toldD "can not")) ∧ ((goodsM N (sumsOf S) p qq am = [] ∧ d0 = toldD "can not") ∨ ∃ r more, goodsM N (sumsOf S) p qq am = r :: more ∧ d0 = rowD r) := by
    have hin : BrIn [netD N, lstD (sheetsD S), .int p, .int qq, .int am] N (sumsOf S) p qq am := ⟨_, _, rfl, NetL.self (by omega), hN6, ShL.lists S, by rw [sumsOf_len]; exact hSl⟩
    cases hg : goodsM N (sumsOf S) p qq am with
    | nil => exact ⟨_, .inr ⟨⟨N, sumsOf S, p, qq, am, hin, hg⟩, rfl⟩, .inl ⟨rfl, rfl⟩⟩
    | cons r more => exact ⟨_, .inl ⟨N, sumsOf S, p, qq, am, r, more, hin, hg, rfl⟩, .inr ⟨r, more, rfl, rfl⟩⟩
  obtain ⟨d1, hd1, hD1⟩ : ∃ d1, (R_wd [lstD (netD N), sheetsD S, .int p, .int qq] d1 ∨ (Rx_wd [lstD (netD N), sheetsD S, .int p, .int qq] ∧ d1 = toldD "can not")) ∧ ((Rs = [] ∧ d1 = toldD "can not") ∨ (Rs ≠ [] ∧ ∃ (j : Nat) (r : List Int), Rs[j]? = some r ∧ r ∈ Rs ∧ mostM N (sumsOf S) p r = maxL (Rs.map (mostM N (sumsOf S) p)) ∧ (∀ j', j' < j → ∀ b, Rs[j']? = some b → mostM N (sumsOf S) p b ≠ maxL (Rs.map (mostM N (sumsOf S) p))) ∧ d1 = rowD r)) := by
    have hin : WdIn [lstD (netD N), sheetsD S, .int p, .int qq] N (sumsOf S) p qq := ⟨_, _, rfl, NetL.lists hN6, hN6, ShL.tup S, by rw [sumsOf_len]; exact hSl⟩
    cases hg : Rs with
    | nil => exact ⟨_, .inr ⟨⟨N, sumsOf S, p, qq, hin, hRsd.trans hg⟩, rfl⟩, .inl ⟨rfl, rfl⟩⟩
    | cons a l =>
      rw [← hg]
      have hne : Rs ≠ [] := by rw [hg]; exact List.cons_ne_nil _ _
      have hmx := (maxL_is (Rs.map (mostM N (sumsOf S) p)) (fun z => hne (List.map_eq_nil_iff.mp z))).1
      obtain ⟨b, hb, eb⟩ := List.mem_map.mp hmx
      obtain ⟨j, r, more, f1, f2, f3, f4⟩ := find_first (fun r => decide (mostM N (sumsOf S) p r = maxL (Rs.map (mostM N (sumsOf S) p)))) Rs ⟨b, hb, decide_eq_true eb⟩
      refine ⟨rowD r, .inl ⟨N, sumsOf S, p, qq, r, more, hin, by rw [hRsd]; exact hne, ?_, rfl⟩, .inr ⟨hne, j, r, f1, List.mem_of_getElem? f1, of_decide_eq_true f2, fun j' hj b hb => of_decide_eq_false (f3 j' hj b hb), rfl⟩⟩
      unfold widesM
      rw [hRsd]
      exact f4
  have oks := okD_le (ok_sheets (n := 0) (S := S) (by omega) (sheets_few hS)) (show 6 ≤ 9 by omega)
  have okn := okD_le (ok_net (n := 0) (N := N) hN6) (show 3 ≤ 9 by omega)
  have k0 := ed_callC (R := R_heard) (E := E0) (eds_cons (ed_cint (i := 0)) (eds_cons (ed_tup (eds_cons z1 (eds_cons (ed_lists (n := 9) z2 oks) (eds_cons (ed_i (ev_var (i := 3) (v := .int p) rfl)) (eds_cons (ed_i (ev_var (i := 4) (v := .int qq) rfl)) (eds_cons (ed_i (ev_var (i := 5) (v := .int am) rfl)) eds_nil))))) (le5 rfl)) eds_nil)) (d := d0) ⟨0, _, rfl, .inl ⟨rfl, hd0⟩⟩
  have k1 := ed_callC (R := R_heard) (E := E0) (eds_cons (ed_cint (i := 1)) (eds_cons (ed_tup (eds_cons (ed_lists (n := 9) z1 okn) (eds_cons z2 (eds_cons (ed_i (ev_var (i := 3) (v := .int p) rfl)) (eds_cons (ed_i (ev_var (i := 4) (v := .int qq) rfl)) eds_nil)))) (le5 rfl)) eds_nil)) (d := d1) ⟨1, _, rfl, .inr (.inl ⟨rfl, hd1⟩)⟩
  refine q_dl (K := K) (edl_catV (ev_var rfl) hhp dhp (edl_lst (eds_cons k0 (eds_cons k1 eds_nil)) (le5 rfl)) (le5 rfl)) fun ap aus H12 nap e12 hap dap => ?_
  clear k0 k1 z1 z2 hd0 hd1
  show tSeq _ _ _ [some (.ref u), some nv, some sv, some (.int p), some (.int qq), some (.int am), some (.ref rp), some (.ref mp), some (.ref gp), some (.ref ap), none, none, none, none, none] H12
  refine q_d (K := K) (d := toldD "can not") (ed_lst (eds_cons ed_cstr (eds_cons ed_cbl eds_nil)) (le5 rfl)) fun nn H13 e13 hnn => ?_
  have E13 := (e11.trans e12).trans e13
  show tSeq _ _ _ [some (.ref u), some nv, some sv, some (.int p), some (.int qq), some (.int am), some (.ref rp), some (.ref mp), some (.ref gp), some (.ref ap), some nn, none, none, none, none] H13
  -- what is due
  have w6 : EvD K (tVar 6) [some (.ref u), some nv, some sv, some (.int p), some (.int qq), some (.int am), some (.ref rp), some (.ref mp), some (.ref gp), some (.ref ap), some nn, none, none, none, none] H13 (.list (Rs.map rowD)) := ed_at rfl (E13 _ _ hrp10) (dpeA drp10 E13)
  have w7 : EvD K (tVar 7) [some (.ref u), some nv, some sv, some (.int p), some (.int qq), some (.int am), some (.ref rp), some (.ref mp), some (.ref gp), some (.ref ap), some nn, none, none, none, none] H13 (.list ((Rs.map (mostM N (sumsOf S) p)).map .int)) := ed_atI rfl (E13 _ _ hmp10)
  have w8 : EvD K (tVar 8) [some (.ref u), some nv, some sv, some (.int p), some (.int qq), some (.int am), some (.ref rp), some (.ref mp), some (.ref gp), some (.ref ap), some nn, none, none, none, none] H13 (.list ((goodsM N (sumsOf S) p qq am).map rowD)) := ed_at rfl (E13 _ _ hgp) (dpeA dgp E13)
  have w10 : EvD K (tVar 10) [some (.ref u), some nv, some sv, some (.int p), some (.int qq), some (.int am), some (.ref rp), some (.ref mp), some (.ref gp), some (.ref ap), some nn, none, none, none, none] H13 (toldD "can not") := ed_var rfl hnn
  have t8 := et_T (ev_neD w8 (ed_lst eds_nil (le5 rfl)) (rows_shaped _) (rows_shaped []))
  have t6 := et_T (ev_neD w6 (ed_lst eds_nil (le5 rfl)) (rows_shaped _) (rows_shaped []))
  have due2 : EvD K (tIf (tTest (tOp (rNeD K) (tVar 8) (tLst tNil))) (tOp (rIx K) (tVar 8) (tC (.int 0))) (tVar 10)) [some (.ref u), some nv, some sv, some (.int p), some (.int qq), some (.int am), some (.ref rp), some (.ref mp), some (.ref gp), some (.ref ap), some nn, none, none, none, none] H13 d0 := by
    rcases hD0 with ⟨hg, rfl⟩ | ⟨r, more, hg, rfl⟩
    · rw [hg] at t8
      exact ed_if (b := false) t8 (fun z => Bool.noConfusion z) (fun _ => w10)
    · rw [hg] at t8 w8
      exact ed_if (b := true) t8 (fun _ => ed_ixL w8 ev_c at0) (fun z => Bool.noConfusion z)
  have due3 : EvD K (tIf (tTest (tOp (rNeD K) (tVar 6) (tLst tNil))) (tOp (rIx K) (tVar 6) (tBM K "list" (rIndex K) (tVar 7) (tCons (tCB (rMax K) (tCons (tVar 7) tNil)) tNil))) (tVar 10)) [some (.ref u), some nv, some sv, some (.int p), some (.int qq), some (.int am), some (.ref rp), some (.ref mp), some (.ref gp), some (.ref ap), some nn, none, none, none, none] H13 d1 := by
    rcases hD1 with ⟨hg, rfl⟩ | ⟨hne, j, r, f1, f2, f3, f4, rfl⟩
    · rw [hg] at t6
      exact ed_if (b := false) t6 (fun z => Bool.noConfusion z) (fun _ => w10)
    · have ht6 : (!PyData.eqv (.list (Rs.map rowD)) (.list [])) = true := by
        cases hg : Rs with
        | nil => exact absurd hg hne
        | cons a l => rfl
      rw [ht6] at t6
      have hmx := maxL_is (Rs.map (mostM N (sumsOf S) p)) (fun z => hne (List.map_eq_nil_iff.mp z))
      refine ed_if (b := true) t6 (fun _ => ed_ixL w6 (i := (j : Nat)) (fun G eG QQ k => ?_) (atI_nat (by rw [List.getElem?_map, f1]; rfl))) (fun z => Bool.noConfusion z)
      have hmpG := eG _ _ (E13 _ _ hmp10)
      refine ⟨.ref mp, rfl, .inl ⟨rfl, _, sq_of hmpG⟩, ?_⟩
      refine (ev_max w7 hmx) G eG _ fun G2 e2 => ⟨mp, _, _, j, .int (mostM N (sumsOf S) p r), rfl, rfl, sq_of (e2 _ _ hmpG), rfl, ?_, by rw [List.getElem?_map, List.getElem?_map, f1]; rfl, ?_, fun m z hm hz => ?_, k G2 e2⟩
      · rw [List.all_eq_true]
        intro x hx
        obtain ⟨i, _, rfl⟩ := List.mem_map.mp hx
        rfl
      · rw [f3]
        exact beq_self_eq_true _
      · rw [List.getElem?_map, List.getElem?_map] at hz
        cases hb : Rs[m]? with
        | none => rw [hb] at hz; cases hz
        | some b =>
          rw [hb] at hz
          cases hz
          have := f4 m hm b hb
          exact beq_false_of_ne this
  refine q_d (K := K) (ed_lst (eds_cons w7 (eds_cons w8 (eds_cons due2 (eds_cons due3 eds_nil)))) (le5 rfl)) fun dv H14 e14 hdv => ?_
  clear w6 w7 w8 w10 t8 t6 due2 due3
  have E14 := E13.trans e14
  show tSeq _ _ _ [some (.ref u), some nv, some sv, some (.int p), some (.int qq), some (.int am), some (.ref rp), some (.ref mp), some (.ref gp), some (.ref ap), some nn, some dv, none, none, none] H14
  have hdue : DpAll K H12 aus [.list ((Rs.map (mostM N (sumsOf S) p)).map .int), .list ((goodsM N (sumsOf S) p qq am).map rowD), d0, d1] := by
    rw [List.map_map]
    exact dap
  have s9 : EvD K (tVar 9) [some (.ref u), some nv, some sv, some (.int p), some (.int qq), some (.int am), some (.ref rp), some (.ref mp), some (.ref gp), some (.ref ap), some nn, some dv, none, none, none] H14 (.list [.list ((Rs.map (mostM N (sumsOf S) p)).map .int), .list ((goodsM N (sumsOf S) p qq am).map rowD), d0, d1]) := ed_at rfl ((e13.trans e14) _ _ hap) (dpeA hdue (e13.trans e14))
  have s11 : EvD K (tVar 11) [some (.ref u), some nv, some sv, some (.int p), some (.int qq), some (.int am), some (.ref rp), some (.ref mp), some (.ref gp), some (.ref ap), some nn, some dv, none, none, none] H14 (.list [.list ((Rs.map (mostM N (sumsOf S) p)).map .int), .list ((goodsM N (sumsOf S) p qq am).map rowD), d0, d1]) := ed_var rfl hdv
  have ok0 : okD 8 d0 := by
    rcases hD0 with ⟨_, rfl⟩ | ⟨r, more, hg, rfl⟩
    · exact okD_le (ok_told (n := 0)) (by omega)
    · exact okD_le (ok_row (n := 0) (by have := hGlen r (by rw [hg]; exact List.mem_cons_self); omega)) (by omega)
  have ok1 : okD 8 d1 := by
    rcases hD1 with ⟨_, rfl⟩ | ⟨hne, j, r, f1, f2, f3, f4, rfl⟩
    · exact okD_le (ok_told (n := 0)) (by omega)
    · exact okD_le (ok_row (n := 0) (by have := (hrow r f2).1; omega)) (by omega)
  have hsame := ed_call (R := R_same 9) (E := E0) (eds_cons s9 (eds_cons s11 eds_nil)) ⟨_, rfl, ok_lst (by show 4 ≤ 1000; decide) (ok_cons (ok_lst (by rw [List.length_map, List.length_map]; omega) (ok_map fun a _ => ok_sc rfl)) (ok_cons (ok_lst (by rw [List.length_map]; omega) (ok_map fun g hg => okD_le (ok_row (n := 0) (by have := hGlen g hg; omega)) (by omega))) (ok_cons ok0 (ok_cons ok1 ok_nil)))), rfl⟩
  refine q_no (et_not (et_B (ev_b hsame))) fun H15 e15 => ?_
  clear hsame s9 s11 ok0 ok1 hdue dap hap hdv hD0 hD1 hnn
  have E15 := E14.trans e15
  have hrp15 := E15 _ _ hrp10
  have drp15 := dpeA drp10 E15
  have hn15 := dpe hn10 E15
  have hs15 := dpe hs10 E15
  have hu15 := hu10.ex E15
  clear e11 e12 e13 e14 e15 E13 E14 E15 hrp10 drp10 hn10 hs10 hu10
  -- behind the row
  have cont : ∀ (D : Ends) (_ : D.rt = Q) (G : Hp) (rv : V) (row : List Int), ExB u H15 G → Urn u 74 G → Dp K G rv (rowD row) → ((Rs = [] ∧ row = [0]) ∨ row ∈ Rs) →
      tSeq (tIfS (tAnd (tTest (tOp (rNeD K) (tVar 6) (tLst tNil))) (tNot (tB (tCall (spF K R_lr) [] E0 (tCons (tVar 1) (tCons (tVar 2) (tCons (tVar 3) (tCons (tVar 12) (tCons (tVar 5) (tCons (tCB (rTupleOf K) (tCons (tLc (iRng1 (tCons (tCB (rLenS K) (tCons (tVar 12) tNil)) tNil)) (gName 14) tYes (tOp (rI0 fun i j => .int (i - j)) (tC (.int 40)) (tVar 14)) [14]) tNil)) tNil))))))))))
        (tRet (tC (.bl false))) tNext) (tRet (tCall (spEnds K) [] E0 (tCons (tVar 0) (tCons (tVar 12) tNil)))) D
        [some (.ref u), some nv, some sv, some (.int p), some (.int qq), some (.int am), some (.ref rp), some (.ref mp), some (.ref gp), some (.ref ap), some nn, some dv, some rv, none, none] G := fun D hD G rv row eG hG hrv hcase => by
    have g6 : EvD K (tVar 6) [some (.ref u), some nv, some sv, some (.int p), some (.int qq), some (.int am), some (.ref rp), some (.ref mp), some (.ref gp), some (.ref ap), some nn, some dv, some rv, none, none] G (.list (Rs.map rowD)) := ed_at rfl (eG _ _ nru hrp15) (dp_txA (hu15.tx eG) _ _ (rowsD_flat Rs) drp15)
    have g1 : EvD K (tVar 1) [some (.ref u), some nv, some sv, some (.int p), some (.int qq), some (.int am), some (.ref rp), some (.ref mp), some (.ref gp), some (.ref ap), some nn, some dv, some rv, none, none] G (netD N) := ed_var rfl (dp_tx (hu15.tx eG) _ _ (netD_flat N) hn15)
    have g2 : EvD K (tVar 2) [some (.ref u), some nv, some sv, some (.int p), some (.int qq), some (.int am), some (.ref rp), some (.ref mp), some (.ref gp), some (.ref ap), some nn, some dv, some rv, none, none] G (sheetsD S) := ed_var rfl (dp_tx (hu15.tx eG) _ _ (sheetsD_flat S) hs15)
    have g12 : EvD K (tVar 12) [some (.ref u), some nv, some sv, some (.int p), some (.int qq), some (.int am), some (.ref rp), some (.ref mp), some (.ref gp), some (.ref ap), some nn, some dv, some rv, none, none] G (rowD row) := ed_var rfl hrv
    have t6 := et_T (ev_neD g6 (ed_lst eds_nil (le5 rfl)) (rows_shaped _) (rows_shaped []))
    have hrl : row ≠ [] ∧ row.length ≤ 6 := by
      rcases hcase with ⟨_, rfl⟩ | hr
      · exact ⟨List.cons_ne_nil _ _, by show 1 ≤ 6; decide⟩
      · obtain ⟨h1, f, hf, _⟩ := hrow row hr
        exact ⟨people_ne hf, by omega⟩
    have lend : Rs ≠ [] → EvT (tNot (tB (tCall (spF K R_lr) [] E0 (tCons (tVar 1) (tCons (tVar 2) (tCons (tVar 3) (tCons (tVar 12) (tCons (tVar 5) (tCons (tCB (rTupleOf K) (tCons (tLc (iRng1 (tCons (tCB (rLenS K) (tCons (tVar 12) tNil)) tNil)) (gName 14) tYes (tOp (rI0 fun i j => .int (i - j)) (tC (.int 40)) (tVar 14)) [14]) tNil)) tNil)))))))))
        [some (.ref u), some nv, some sv, some (.int p), some (.int qq), some (.int am), some (.ref rp), some (.ref mp), some (.ref gp), some (.ref ap), some nn, some dv, some rv, none, none] G false := fun hne => by
      have hr : row ∈ Rs := by
        rcases hcase with ⟨z, _⟩ | hr
        · exact absurd z hne
        · exact hr
      obtain ⟨h1, f, hf, _⟩ := hrow row hr
      have hl12 := ev_lenT g12
      rw [List.length_map] at hl12
      have hr1 := ei_r1 (K := K) hl12 ⟨by omega, by omega⟩
      rw [Int.toNat_natCast] at hr1
      have me := edl_map (xs := List.range row.length) (f := fun (i : Nat) => .int (0 + (i : Int))) (g := fun (i : Nat) => .int (40 - (i : Int))) (te := tOp (rI0 fun i j => .int (i - j)) (tC (.int 40)) (tVar 14)) (j := 14) (vs := [14]) hr1 (by rw [List.length_range]; omega) (fun _ => rfl) fun i hi x G2 eG2 hx => ⟨by
        have ex : x = .int (i : Int) := by rw [dp_vint hx, Int.zero_add]
        subst ex
        exact ed_i (ev_op (ev_c (v := .int 40)) (ev_var (i := 14) (v := .int (i : Int)) rfl) rv_I0), rfl⟩
      have hlr := ed_call (R := R_lr) (E := E0) (eds_cons g1 (eds_cons g2 (eds_cons (ed_i (ev_var (i := 3) (v := .int p) rfl)) (eds_cons g12 (eds_cons (ed_i (ev_var (i := 5) (v := .int am) rfl)) (eds_cons (ed_tupleL (EvDL.toD me)) eds_nil)))))) (d := .bool true)
        ⟨N, S, p, row, am, (List.range row.length).map fun (i : Nat) => 40 - (i : Int), f, by unfold rowD; rw [List.map_map]; rfl, hN, hS, hf, by omega, by rw [List.length_map, List.length_range], fun e he => by
          obtain ⟨i, hi, rfl⟩ := List.mem_map.mp he
          have := List.mem_range.mp hi
          show (0 : Int) ≤ 40 - (i : Int)
          omega, ham, rfl⟩
      exact et_not (a := true) (et_B (ev_b hlr))
    refine q_no (et_is (et_and (b := false) t6 fun z => lend fun hz => ?_) (Bool.and_false _)) fun G2 eG2 => ?_
    · rw [hz] at z
      cases z
    · refine ⟨_, rfl, _, rfl, ⟨u, 74, rv, row, rfl, hG.ex eG2, by omega, dpe hrv eG2, hrl.1, hrl.2, fun H' => ?_⟩⟩
      rw [hD]
      exact q H'
  have h6 : EvD K (tVar 6) [some (.ref u), some nv, some sv, some (.int p), some (.int qq), some (.int am), some (.ref rp), some (.ref mp), some (.ref gp), some (.ref ap), some nn, some dv, none, none, none] H15 (.list (Rs.map rowD)) := ed_at rfl hrp15 drp15
  have t6 := et_T (ev_neD h6 (ed_lst eds_nil (le5 rfl)) (rows_shaped _) (rows_shaped []))
  by_cases hne : Rs = []
  · rw [hne] at t6
    refine q_d (K := K) (d := rowD [0]) (ed_if (b := false) t6 (fun z => Bool.noConfusion z) (fun _ => ed_tup (eds_cons ed_cint eds_nil) (le5 rfl))) fun rv H16 e16 hrv => cont _ rfl H16 rv [0] (exb_ex e16) (urn_le (hu15.ex e16) (by omega)) hrv (.inl ⟨hne, rfl⟩)
  · have ht6 : (!PyData.eqv (.list (Rs.map rowD)) (.list [])) = true := by
      cases hg : Rs with
      | nil => exact absurd hg hne
      | cons a l => rfl
    rw [ht6] at t6
    refine t6 H15 (Ex.refl _) _ fun H16 e16 => ?_
    refine ⟨_, rfl, _, rfl, ⟨u, 73, .ref rp, Rs.map rowD, rfl, hu15.ex e16, by omega, fun z => hne (List.map_eq_nil_iff.mp z), by rw [List.length_map]; omega, ⟨rp, rus, rfl, nru, e16 _ _ hrp15, dpeA drp15 e16⟩, rowsD_flat Rs, fun rv d H17 hd hrv e17 hu17 => ?_⟩⟩
    obtain ⟨row, hr, rfl⟩ := List.mem_map.mp hd
    exact cont _ rfl H17 rv row ((exb_ex e16).trans e17) hu17 hrv (.inr hr)
end
end KT

set_option Elab.async false
set_option linter.all false
set_option autoImplicit false
set_option maxRecDepth 100000
set_option maxHeartbeats 4000000
/-! Le2: by hand, law. -/
namespace KT
open PySem PySem.Spec PyProof.Rows L2 Evl KD KM
def nB : List Ch := [(0, 1, 5, 5), (1, 2, 4, 6), (0, 2, 3, 7)]
def sB : List Sheet := [⟨0, 0, 5, 5, []⟩, ⟨1, 0, 4, 6, []⟩, ⟨2, 0, 3, 7, []⟩]
def dueB : List PyData := [.int 4, rowD [0, 1], rowD [2], rowD [0, 1], rowD [2], locksM nB 2 [1, 0] 2 1 [9, 5], .bool true, .bool false, .tuple [lookD 2 3 8]]
theorem okB_flat : ∀ d ∈ dueB ++ [.tuple [.int 0, .tuple [.str "pay", rowD [1, 0], .int 2, imgD 1, rowD [8, 5]]]], okD 8 d := by
  have r : ∀ l : List Int, l.length ≤ 1000 → okD 8 (rowD l) := fun l h => okD_le (ok_row (n := 0) h) (by omega)
  refine ok_cons (ok_sc rfl) (ok_cons (r _ (by decide)) (ok_cons (r _ (by decide)) (ok_cons (r _ (by decide)) (ok_cons (r _ (by decide)) (ok_cons ?_ (ok_cons (ok_sc rfl) (ok_cons (ok_sc rfl) (ok_cons ?_ (ok_cons ?_ ok_nil)))))))))
  · exact ok_tup (by decide +kernel) (ok_map fun a _ => okD_le (ok_ent (n := 0)) (by omega))
  · exact ok_tup (by show 1 ≤ 1000; decide) (ok_cons (ok_tup (by show 2 ≤ 1000; decide) (ok_cons (ok_sc rfl) (ok_cons (ok_sc rfl) ok_nil))) ok_nil)
  · exact ok_tup (by show 2 ≤ 1000; decide) (ok_cons (ok_sc rfl) (ok_cons (ok_tup (by show 5 ≤ 1000; decide) (ok_cons (ok_sc rfl) (ok_cons (okD_le (ok_row (n := 0) (by decide)) (by omega)) (ok_cons (ok_sc rfl) (ok_cons (okD_le (ok_img (n := 0)) (by omega)) (ok_cons (okD_le (ok_row (n := 0) (by decide)) (by omega)) ok_nil)))))) ok_nil))
section
variable {P : Program} {w : World} {K : PySem.W.Frag} {mg : Str → Option Value} {base : Heap} {CUnfit CCanNot : Addr}
def R_hand (ds : List PyData) (d : PyData) : Prop := ds = [] ∧ d = .bool true
theorem d_by_hand (B : Bt mg) (A : At K mg "_law_by_hand_right" s__law_by_hand_right []) (c_most_over : Dfn P w K mg base "most_over" ["net", "sheets", "payer", "route"] CX0 6 (spF K R_most)) (c__law_heard : Dfn P w K mg base "_law_heard" ["_law_door", "_law_parts"] CX0 9 (spC K R_heard))
    (c_payment_locks : Dfn P w K mg base "payment_locks" ["net", "payer", "route", "amount", "image", "ends"] (L2.CX P w) 6 (spE K CUnfit R_pl Rx_pl)) (c_are_safe : Dfn P w K mg base "are_safe" ["times", "ends"] CX0 4 (spF K R_are_safe))
    (c_last_looks : Dfn P w K mg base "last_looks" ["times", "ends"] CX0 4 (spF K R_last_looks)) (c_wish_for : Dfn P w K mg base "wish_for" ["times", "route", "amount", "secret", "moment", "last"] CX0 4 (spF K R_wish))
    (c__law_same : Dfn P w K mg base "_law_same" ["_law_got", "_law_goal"] CX0 9 (spF K (R_same 9))) : Dfn P w K mg base "_law_by_hand_right" [] CX0 10 (spF K R_hand) := by
  refine A.okD sc__law_by_hand_right (fun ds d h => by obtain ⟨rfl, _⟩ := h; rfl) (fun f cdv A outer s H0 E hr => ⟨_, (pss_cons (ps_set (i := 0) sc__law_by_hand_right.nd rfl (Or.inr rfl) (pe_tup (pa_cons (pe_tup (pa_cons pe_int (pa_cons pe_int (pa_cons pe_int (pa_cons pe_int pa_nil))))) (pa_cons (pe_tup (pa_cons pe_int (pa_cons pe_int (pa_cons pe_int (pa_cons pe_int pa_nil))))) (pa_cons (pe_tup (pa_cons pe_int (pa_cons pe_int (pa_cons pe_int (pa_cons pe_int pa_nil))))) pa_nil))))) (pss_cons (ps_set (i := 1) sc__law_by_hand_right.nd rfl (Or.inr rfl) (pe_callTy (r := rTupleOf K) call_tuple_of (by rfl) B.tuple (by decide +kernel) (pa_cons (pe_lc (own := [("_law_k", 4), ("_law_own", 5)]) (g := gTup K 2 (gCons (gName 4) (gCons (gName 5) gNil))) rfl sc__law_by_hand_right.nd (pi_e (by rfl) B.enumerate (pa_cons (pv 0) pa_nil)) (blkOk_by (own := [("_law_k", 4), ("_law_own", 5)]) (N := ["_law_net_here", "_law_sheets_here", "_law_heard_here", "_law_due", "_law_k", "_law_own"]) (sc := defScope s__law_by_hand_right) (by decide +kernel)) (fun _ _ _ _ _ => (pg_tup (by rfl) (pgs_cons (pg_name (i := 4) sc__law_by_hand_right.nd rfl (Or.inl rfl)) (pgs_cons (pg_name (i := 5) sc__law_by_hand_right.nd rfl (Or.inl rfl)) pgs_nil)))) (fun _ _ _ _ _ => pts_nil) (fun _ _ _ _ _ => (pe_tup (pa_cons (pv 4) (pa_cons pe_int (pa_cons (pe_slice (r := rSlA K) sl_tupA (pv 5) (po_some pe_int) po_none) (pa_cons (pe_tup pa_nil) pa_nil))))))) pa_nil))) (pss_cons (ps_set (i := 2) sc__law_by_hand_right.nd rfl (Or.inl rfl) (pe_op op_cat (pe_lst (pa_cons (pe_fn c_most_over hr (by omega) (by rfl) (pa_cons (pv 0) (pa_cons (pv 1) (pa_cons pe_int (pa_cons (pe_tup (pa_cons pe_int (pa_cons pe_int pa_nil))) pa_nil))))) pa_nil)) (pe_lc (own := [("_law_own", 5)]) (g := gName 5) rfl sc__law_by_hand_right.nd (pi_any (pe_tup (pa_cons pe_int (pa_cons pe_int pa_nil)))) (blkOk_by (own := [("_law_own", 5)]) (N := ["_law_net_here", "_law_sheets_here", "_law_heard_here", "_law_due", "_law_k", "_law_own"]) (sc := defScope s__law_by_hand_right) (by decide +kernel)) (fun _ _ _ _ _ => (pg_name (i := 5) sc__law_by_hand_right.nd rfl (Or.inl rfl))) (fun _ _ _ _ _ => pts_nil) (fun _ _ _ _ _ => (pe_fn c__law_heard hr (by omega) (by rfl) (pa_cons pe_int (pa_cons (pe_tup (pa_cons (pv 0) (pa_cons (pv 1) (pa_cons pe_int (pa_cons pe_int (pa_cons (pv 5) pa_nil)))))) pa_nil))))))) (pss_cons (ps_set (i := 2) sc__law_by_hand_right.nd rfl (Or.inl rfl) (pe_op op_cat (pv 2) (pe_lc (own := [("_law_own", 5)]) (g := gName 5) rfl sc__law_by_hand_right.nd (pi_any (pe_tup (pa_cons pe_int (pa_cons pe_int pa_nil)))) (blkOk_by (own := [("_law_own", 5)]) (N := ["_law_net_here", "_law_sheets_here", "_law_heard_here", "_law_due", "_law_k", "_law_own"]) (sc := defScope s__law_by_hand_right) (by decide +kernel)) (fun _ _ _ _ _ => (pg_name (i := 5) sc__law_by_hand_right.nd rfl (Or.inl rfl))) (fun _ _ _ _ _ => pts_nil) (fun _ _ _ _ _ => (pe_fn c__law_heard hr (by omega) (by rfl) (pa_cons pe_int (pa_cons (pe_tup (pa_cons (pv 0) (pa_cons (pv 1) (pa_cons (pv 5) (pa_cons (pe_op op_sub pe_int (pv 5)) pa_nil))))) pa_nil))))))) (pss_cons (ps_set (i := 2) sc__law_by_hand_right.nd rfl (Or.inl rfl) (pe_op op_cat (pv 2) (pe_lst (pa_cons (pe_fnL c_payment_locks hr (by omega) (by rfl) (pa_cons (pv 0) (pa_cons pe_int (pa_cons (pe_tup (pa_cons pe_int (pa_cons pe_int pa_nil))) (pa_cons pe_int (pa_cons (pe_tup (pa_cons pe_str (pa_cons pe_int pa_nil))) (pa_cons (pe_tup (pa_cons pe_int (pa_cons pe_int pa_nil))) pa_nil))))))) (pa_cons (pe_fn c_are_safe hr (by omega) (by rfl) (pa_cons (pe_tup (pa_cons pe_int (pa_cons pe_int (pa_cons pe_int pa_nil)))) (pa_cons (pe_tup (pa_cons pe_int (pa_cons pe_int pa_nil))) pa_nil))) (pa_cons (pe_fn c_are_safe hr (by omega) (by rfl) (pa_cons (pe_tup (pa_cons pe_int (pa_cons pe_int (pa_cons pe_int pa_nil)))) (pa_cons (pe_tup (pa_cons pe_int (pa_cons pe_int pa_nil))) pa_nil))) (pa_cons (pe_fn c_last_looks hr (by omega) (by rfl) (pa_cons (pe_tup (pa_cons pe_int (pa_cons pe_int (pa_cons pe_int pa_nil)))) (pa_cons (pe_tup (pa_cons pe_int pa_nil)) pa_nil))) pa_nil))))))) (pss_cons (ps_set (i := 3) sc__law_by_hand_right.nd rfl (Or.inl rfl) (pe_lst (pa_cons pe_int (pa_cons (pe_tup (pa_cons pe_int (pa_cons pe_int pa_nil))) (pa_cons (pe_tup (pa_cons pe_int pa_nil)) (pa_cons (pe_tup (pa_cons pe_int (pa_cons pe_int pa_nil))) (pa_cons (pe_tup (pa_cons pe_int pa_nil)) (pa_cons (pe_tup (pa_cons (pe_tup (pa_cons pe_int (pa_cons (pe_tup (pa_cons pe_int (pa_cons pe_int (pa_cons (pe_tup (pa_cons pe_str (pa_cons pe_int pa_nil))) (pa_cons pe_int pa_nil))))) pa_nil))) (pa_cons (pe_tup (pa_cons pe_int (pa_cons (pe_tup (pa_cons pe_int (pa_cons pe_int (pa_cons (pe_tup (pa_cons pe_str (pa_cons pe_int pa_nil))) (pa_cons pe_int pa_nil))))) pa_nil))) pa_nil))) (pa_cons pe_bl (pa_cons pe_bl (pa_cons (pe_tup (pa_cons (pe_tup (pa_cons pe_int (pa_cons pe_int pa_nil))) pa_nil)) pa_nil))))))))))) (pss_one (ps_ret (pe_fn c__law_same hr (by omega) (by rfl) (pa_cons (pe_op op_cat (pv 2) (pe_lst (pa_cons (pe_fn c_wish_for hr (by omega) (by rfl) (pa_cons (pe_tup (pa_cons pe_int (pa_cons pe_int (pa_cons pe_int pa_nil)))) (pa_cons (pe_tup (pa_cons pe_int (pa_cons pe_int pa_nil))) (pa_cons pe_int (pa_cons pe_int (pa_cons pe_int (pa_cons pe_int pa_nil))))))) pa_nil))) (pa_cons (pe_op op_cat (pv 3) (pe_lst (pa_cons (pe_tup (pa_cons pe_int (pa_cons (pe_tup (pa_cons pe_str (pa_cons (pe_tup (pa_cons pe_int (pa_cons pe_int pa_nil))) (pa_cons pe_int (pa_cons (pe_tup (pa_cons pe_str (pa_cons pe_int pa_nil))) (pa_cons (pe_tup (pa_cons pe_int (pa_cons pe_int pa_nil))) pa_nil)))))) pa_nil))) pa_nil))) pa_nil))))))))))), fun vs H ds d r hv => ?_⟩)
  obtain ⟨rfl, rfl⟩ := r
  cases hv
  intro Q q
  refine q_d (K := K) (d := netD nB) ?_ fun nv H1 e1 hnv => ?_
  · repeat (first | exact eds_nil | exact ed_cint | refine eds_cons ?_ ?_ | refine ed_tup ?_ (le5 rfl))
  show tSeq _ _ _ [some nv, none, none, none, none, none] H1
  have x0 : EvD K (tVar 0) [some nv, none, none, none, none, none] H1 (netD nB) := ed_var rfl hnv
  have he := ei_e (K := K) x0 (ds := nB.map chD) rfl
  have hel : ((nB.map chD).mapIdx fun i d => PyData.tuple [.int (i : Nat), d]) = ([(0, (0, 1, 5, 5)), (1, (1, 2, 4, 6)), (2, (0, 2, 3, 7))] : List (Int × Ch)).map fun a => .tuple [.int a.1, chD a.2] := rfl
  rw [hel] at he
  refine q_d (K := K) (d := sheetsD sB) (ed_is (ed_tupleL (EvDL.toD (edl_map2 (K := K) (xs := ([(0, (0, 1, 5, 5)), (1, (1, 2, 4, 6)), (2, (0, 2, 3, 7))] : List (Int × Ch))) (f := fun a => .int a.1) (f' := fun a => chD a.2) (g := fun a => .tuple [.int a.1, .int 0, .tuple [.int a.2.2.2.1, .int a.2.2.2.2], .tuple []]) (j := 4) (l := 5) (vs := [4, 5]) he (by decide) (fun _ _ => rfl) fun a ha x y G eG hx hy => ⟨?_, rfl⟩))) rfl) fun sv H2 e2 hsv => ?_
  · exact ed_tup (eds_cons (ed_var rfl hx) (eds_cons ed_cint (eds_cons (ed_slT (ed_var rfl hy) (eo_some (te := tC (.int 2)) (i := 2) ev_c) eo_none) (eds_cons (ed_tup eds_nil (le5 rfl)) eds_nil)))) (le5 rfl)
  show tSeq _ _ _ [some nv, some sv, none, none, none, none] H2
  have hnv2 := dpe hnv e2
  have y0 : EvD K (tVar 0) [some nv, some sv, none, none, none, none] H2 (netD nB) := ed_var rfl hnv2
  have y1 : EvD K (tVar 1) [some nv, some sv, none, none, none, none] H2 (sheetsD sB) := ed_var rfl hsv
  have row2 : ∀ (a b : Int) (σ : L2.St) (G : Hp), EvD K (tTup (tCons (tC (.int a)) (tCons (tC (.int b)) tNil))) σ G (rowD [a, b]) := fun a b σ G => ed_tup (eds_cons ed_cint (eds_cons ed_cint eds_nil)) (le5 rfl)
  have nl : NetL (netD nB) nB := NetL.self (by decide)
  have m0 := ed_call (R := R_most) (E := E0) (eds_cons y0 (eds_cons y1 (eds_cons (ed_cint (i := 0)) (eds_cons (row2 0 1 _ _) eds_nil)))) (d := .int 4) ⟨_, nB, _, sumsOf sB, 0, _, [0, 1], [0, 1, 2], rfl, nl, by decide, ShL.tup sB, rfl, RowL.self (by decide), by decide +kernel, by rw [show mostM nB (sumsOf sB) 0 [0, 1] = 4 from by decide +kernel]⟩
  have it1 := ei_T (row2 4 3 [some nv, some sv, none, none, none, none] H2)
  have heard0 : ∀ (a : Int) (r : List Int) (more : List (List Int)) (σ : L2.St) (G : Hp) (x : V), goodsM nB (sumsOf sB) 0 2 a = r :: more → σ[0]? = some (some nv) → σ[1]? = some (some sv) → σ[5]? = some (some x) → Ex H2 G → Dp K G x (.int a) →
      EvD K (tCall (spC K R_heard) [] E0 (tCons (tC (.int 0)) (tCons (tTup (tCons (tVar 0) (tCons (tVar 1) (tCons (tC (.int 0)) (tCons (tC (.int 2)) (tCons (tVar 5) tNil)))))) tNil))) σ G (rowD r) := fun a r more σ G x hg s0 s1 s5 eG hx =>
    ed_callC (eds_cons ed_cint (eds_cons (ed_tup (eds_cons (ed_var s0 (dpe hnv2 eG)) (eds_cons (ed_var s1 (dpe hsv eG)) (eds_cons ed_cint (eds_cons ed_cint (eds_cons (ed_var s5 hx) eds_nil))))) (le5 rfl)) eds_nil)) ⟨0, _, rfl, .inl ⟨rfl, .inl ⟨nB, sumsOf sB, 0, 2, a, r, more, ⟨_, _, rfl, nl, by decide, ShL.tup sB, rfl⟩, hg, rfl⟩⟩⟩
  have c1 := edl_map (xs := [(4 : Int), 3]) (f := .int) (g := fun a => if a = 4 then rowD [0, 1] else rowD [2]) (te := tCall (spC K R_heard) [] E0 (tCons (tC (.int 0)) (tCons (tTup (tCons (tVar 0) (tCons (tVar 1) (tCons (tC (.int 0)) (tCons (tC (.int 2)) (tCons (tVar 5) tNil)))))) tNil))) (j := 5) (vs := [5]) it1 (by decide) (fun _ => rfl) fun a ha x G eG hx => by
    simp only [List.mem_cons, List.not_mem_nil, or_false] at ha
    rcases ha with rfl | rfl
    · exact ⟨heard0 4 [0, 1] _ _ G x (by decide +kernel : goodsM nB (sumsOf sB) 0 2 4 = [0, 1] :: []) rfl rfl rfl eG hx, rfl⟩
    · exact ⟨heard0 3 [2] _ _ G x (by decide +kernel : goodsM nB (sumsOf sB) 0 2 3 = [2] :: [[0, 1]]) rfl rfl rfl eG hx, rfl⟩
  refine q_dl (K := K) (edl_cat (edl_lst (eds_cons m0 eds_nil) (le5 rfl)) c1 (le5 rfl)) fun p3 us3 H3 n3 e3 h3 d3 => ?_
  have d3' : DpAll K H3 us3 [.int 4, rowD [0, 1], rowD [2]] := d3
  clear d3 c1 it1 m0 y0 y1 x0 he
  show tSeq _ _ _ [some nv, some sv, some (.ref p3), none, none, none] H3
  have it2 := ei_T (row2 0 2 [some nv, some sv, some (.ref p3), none, none, none] H3)
  have heard1 : ∀ (a : Int) (r : List Int) (more : List (List Int)) (σ : L2.St) (G : Hp) (x : V), widesM nB (sumsOf sB) a (2 - a) = r :: more → routesM nB a (2 - a) nB.length ≠ [] → σ[0]? = some (some nv) → σ[1]? = some (some sv) → σ[5]? = some (some x) → Ex H3 G → Dp K G x (.int a) →
      EvD K (tCall (spC K R_heard) [] E0 (tCons (tC (.int 1)) (tCons (tTup (tCons (tVar 0) (tCons (tVar 1) (tCons (tVar 5) (tCons (tOp (rI0 fun i j => .int (i - j)) (tC (.int 2)) (tVar 5)) tNil))))) tNil))) σ G (rowD r) := fun a r more σ G x hg hne s0 s1 s5 eG hx => by
    have ex := dp_vint hx
    subst ex
    exact ed_callC (eds_cons ed_cint (eds_cons (ed_tup (eds_cons (ed_var s0 (dpe hnv2 (e3.trans eG))) (eds_cons (ed_var s1 (dpe hsv (e3.trans eG))) (eds_cons (ed_var s5 hx) (eds_cons (ed_i (ev_op ev_c (ev_var s5) rv_I0)) eds_nil)))) (le5 rfl)) eds_nil)) ⟨1, _, rfl, .inr (.inl ⟨rfl, .inl ⟨nB, sumsOf sB, a, 2 - a, r, more, ⟨_, _, rfl, nl, by decide, ShL.tup sB, rfl⟩, hne, hg, rfl⟩⟩)⟩
  have c2 := edl_map (xs := [(0 : Int), 2]) (f := .int) (g := fun a => if a = 0 then rowD [0, 1] else rowD [2]) (te := tCall (spC K R_heard) [] E0 (tCons (tC (.int 1)) (tCons (tTup (tCons (tVar 0) (tCons (tVar 1) (tCons (tVar 5) (tCons (tOp (rI0 fun i j => .int (i - j)) (tC (.int 2)) (tVar 5)) tNil))))) tNil))) (j := 5) (vs := [5]) it2 (by decide) (fun _ => rfl) fun a ha x G eG hx => by
    simp only [List.mem_cons, List.not_mem_nil, or_false] at ha
    rcases ha with rfl | rfl
    · exact ⟨heard1 0 [0, 1] _ _ G x (by decide +kernel : widesM nB (sumsOf sB) 0 (2 - 0) = [0, 1] :: []) (by decide +kernel) rfl rfl rfl eG hx, rfl⟩
    · exact ⟨heard1 2 [2] _ _ G x (by decide +kernel : widesM nB (sumsOf sB) 2 (2 - 2) = [2] :: []) (by decide +kernel) rfl rfl rfl eG hx, rfl⟩
  refine q_dl (K := K) (edl_catV (ev_var rfl) h3 d3' c2 (le5 rfl)) fun p4 us4 H4 n4 e4 h4 d4 => ?_
  have d4' : DpAll K H4 us4 [.int 4, rowD [0, 1], rowD [2], rowD [0, 1], rowD [2]] := d4
  clear d4 c2 it2
  show tSeq _ _ _ [some nv, some sv, some (.ref p4), none, none, none] H4
  have z0 : EvD K (tVar 0) [some nv, some sv, some (.ref p4), none, none, none] H4 (netD nB) := ed_var rfl (dpe hnv2 (e3.trans e4))
  have tm : ∀ (σ : L2.St) (G : Hp), EvD K (tTup (tCons (tC (.int 2)) (tCons (tC (.int 3)) (tCons (tC (.int 0)) tNil)))) σ G (.tuple [.int 2, .int 3, .int 0]) := fun σ G => ed_tup (eds_cons ed_cint (eds_cons ed_cint (eds_cons ed_cint eds_nil))) (le5 rfl)
  have hTm : Tm (.tuple [.int 2, .int 3, .int 0]) 2 3 0 := ⟨rfl, by decide, by decide⟩
  have pl := ed_callE (C := CUnfit) (R := R_pl) (Rx := Rx_pl) (E := E0) (eds_cons z0 (eds_cons (ed_cint (i := 2)) (eds_cons (row2 1 0 _ _) (eds_cons (ed_cint (i := 2)) (eds_cons (ed_tup (eds_cons (ed_cstr (s := "image")) (eds_cons (ed_cint (i := 1)) eds_nil)) (le5 rfl)) (eds_cons (row2 9 5 _ _) eds_nil)))))) (d := locksM nB 2 [1, 0] 2 1 [9, 5])
    ⟨nB, 2, [1, 0], 2, 1, [9, 5], ⟨_, _, _, _, [2, 1, 0], rfl, nl, by decide, RowL.self (by decide), by decide +kernel, ⟨ok_img, rfl⟩, RowL.self (by decide)⟩, rfl, rfl⟩
  have sf : ∀ (a b : Int) (G : Hp), EvD K (tCall (spF K R_are_safe) [] E0 (tCons (tTup (tCons (tC (.int 2)) (tCons (tC (.int 3)) (tCons (tC (.int 0)) tNil)))) (tCons (tTup (tCons (tC (.int a)) (tCons (tC (.int b)) tNil))) tNil))) [some nv, some sv, some (.ref p4), none, none, none] G (.bool ((gapsM 2 3 [a, b]).all id)) := fun a b G =>
    ed_call (eds_cons (tm _ _) (eds_cons (row2 a b _ _) eds_nil)) ⟨_, 2, 3, 0, _, [a, b], rfl, hTm, RowL.self (by show 2 ≤ 1000; decide), rfl⟩
  have s1 := sf 8 5 H4
  have s2 := sf 7 5 H4
  rw [show (gapsM 2 3 [8, 5]).all id = true from by decide +kernel] at s1
  rw [show (gapsM 2 3 [7, 5]).all id = false from by decide +kernel] at s2
  have ll := ed_call (R := R_last_looks) (E := E0) (eds_cons (tm [some nv, some sv, some (.ref p4), none, none, none] H4) (eds_cons (ed_tup (eds_cons (ed_cint (i := 8)) eds_nil) (le5 rfl)) eds_nil)) (d := .tuple [lookD 2 3 8]) ⟨_, 2, 3, 0, rowD [8], [8], rfl, hTm, RowL.self (by decide), rfl⟩
  refine q_dl (K := K) (edl_catV (ev_var rfl) h4 d4' (edl_lst (eds_cons pl (eds_cons s1 (eds_cons s2 (eds_cons ll eds_nil)))) (le5 rfl)) (le5 rfl)) fun p5 us5 H5 n5 e5 h5 d5 => ?_
  have d5' : DpAll K H5 us5 dueB := d5
  clear d5 pl s1 s2 ll sf
  show tSeq _ _ _ [some nv, some sv, some (.ref p5), none, none, none] H5
  refine q_dl (K := K) (ds := dueB) ?_ fun p6 us6 H6 n6 e6 h6 d6 => ?_
  · refine edl_lst (eds_cons ed_cint (eds_cons (row2 0 1 _ _) (eds_cons (ed_tup (eds_cons ed_cint eds_nil) (le5 rfl)) (eds_cons (row2 0 1 _ _) (eds_cons (ed_tup (eds_cons ed_cint eds_nil) (le5 rfl)) (eds_cons ?_ (eds_cons ed_cbl (eds_cons ed_cbl (eds_cons ?_ eds_nil))))))))) (le5 rfl)
    · have z : locksM nB 2 [1, 0] 2 1 [9, 5] = .tuple [.tuple [.int 1, .tuple [.int 1, .int 2, .tuple [.str "image", .int 1], .int 9]], .tuple [.int 0, .tuple [.int 1, .int 2, .tuple [.str "image", .int 1], .int 5]]] := rfl
      rw [z]
      repeat (first | exact eds_nil | exact ed_cint | exact ed_cstr | refine eds_cons ?_ ?_ | refine ed_tup ?_ (le5 rfl))
    · have z : PyData.tuple [lookD 2 3 8] = .tuple [.tuple [.int 3, .int 6]] := by
        unfold lookD
        rw [show closeBy 2 3 8 = some 3 from by decide +kernel, show showBy 2 3 8 = some 6 from by decide +kernel]
        rfl
      rw [z]
      repeat (first | exact eds_nil | exact ed_cint | exact ed_cstr | refine eds_cons ?_ ?_ | refine ed_tup ?_ (le5 rfl))
  show tRet _ _ [some nv, some sv, some (.ref p5), some (.ref p6), none, none] H6
  have wf := ed_call (R := R_wish) (E := E0) (σ := [some nv, some sv, some (.ref p5), some (.ref p6), none, none]) (H := H6) (eds_cons (tm _ _) (eds_cons (row2 1 0 _ _) (eds_cons (ed_cint (i := 2)) (eds_cons (ed_cint (i := 1)) (eds_cons (ed_cint (i := 0)) (eds_cons (ed_cint (i := 5)) eds_nil)))))) (d := .tuple [.int 0, .tuple [.str "pay", rowD [1, 0], .int 2, imgD 1, rowD [8, 5]]])
    ⟨_, 2, 3, 0, _, [1, 0], 2, 1, 0, 5, rfl, hTm, RowL.self (by decide), by decide, by rw [show leastEnds 2 3 (([1, 0] : List Int).length - 1) [5] = [8, 5] from by decide +kernel]⟩
  have g1 := EvDL.toD (edl_catV (ev_var (σ := [some nv, some sv, some (.ref p5), some (.ref p6), none, none]) (i := 2) rfl) (e6 _ _ h5) (dpeA d5' e6) (edl_lst (eds_cons wf eds_nil) (le5 rfl)) (le5 rfl))
  have dw : EvD K (tTup (tCons (tC (.int 0)) (tCons (tTup (tCons (tC (.str "pay")) (tCons (tTup (tCons (tC (.int 1)) (tCons (tC (.int 0)) tNil))) (tCons (tC (.int 2)) (tCons (tTup (tCons (tC (.str "image")) (tCons (tC (.int 1)) tNil))) (tCons (tTup (tCons (tC (.int 8)) (tCons (tC (.int 5)) tNil))) tNil)))))) tNil))) [some nv, some sv, some (.ref p5), some (.ref p6), none, none] H6 (.tuple [.int 0, .tuple [.str "pay", rowD [1, 0], .int 2, imgD 1, rowD [8, 5]]]) := by
    repeat (first | exact eds_nil | exact ed_cint | exact ed_cstr | refine eds_cons ?_ ?_ | refine ed_tup ?_ (le5 rfl))
  have g2 := EvDL.toD (edl_catV (ev_var (σ := [some nv, some sv, some (.ref p5), some (.ref p6), none, none]) (i := 3) rfl) h6 d6 (edl_lst (eds_cons dw eds_nil) (le5 rfl)) (le5 rfl))
  exact s_rq (ed_call (R := R_same 9) (eds_cons g1 (eds_cons g2 eds_nil)) (d := .bool true) ⟨_, rfl, ok_lst (by show 10 ≤ 1000; decide) okB_flat, rfl⟩) q ((((((e1.trans e2).trans e3).trans e4).trans e5).trans e6))
def spLaw (K : PySem.W.Frag) : Sp := fun vs H Q _ => ∃ (v : V) (ns : List Int), vs = [v] ∧ Dp K H v (.list (ns.map .int)) ∧ ns.length ≤ 1000 ∧ ∀ H', Q (.bl true) H'
theorem ok0_fn {x : Str} {st : Stmt} {N ps : List Str} {k : Nat} {sp : Sp} {f : Addr} {fd : FuncData} (F : Fun K x x st f fd) (S : FnScope N ps (defScope st)) (hl : ∀ vs H Q E, sp vs H Q E → vs.length = ps.length)
    (hb : ∀ (f : Addr) (cdv : Value) (A : Around) (outer : List Env) (s : Shared) (H0 : Hp) (E : XK), Room k (A.deeper (envOfC x (defScope st) s.heap.objs.size f cdv)) →
      ∃ t, PSs (cxOf CX0 P w K mg base N x (defScope st) f cdv A outer s H0 E).nox (defBody st) t ∧ ∀ (vs : List V) (H : Hp) (Q : VK), sp vs H Q E → t { nx := fun _ H' => Q .non H', rt := Q } (start N vs) H) :
    FnOk P w K mg base CX0 (k + 1) f fd ps sp := by
  refine F.ok S hl (fun cdv A outer s H vs Q E hr h => ?_)
  obtain ⟨t, ht, hx⟩ := hb f cdv A outer s H E hr
  exact ⟨t, ht, hx vs H Q h⟩
theorem f_law {fa : Addr} {fda : FuncData} (B : Bt mg) (F : Fun K "law" "law" s_law fa fda) (c__law_by_hand_right : Dfn P w K mg base "_law_by_hand_right" [] CX0 10 (spF K R_hand)) (c__law_right : Dfn P w K mg base "_law_right" ["_law_urn"] CX0 11 (spRight K))
    (c__law_box : Dfn P w K mg base "_law_box" ["_law_script", "_law_k"] CX0 1 (spBox K)) (c__law_cells : Dfn P w K mg base "_law_cells" ["_law_script", "_law_top_so"] CX0 1 (spCells K)) : FnOk P w K mg base CX0 12 fa fda ["_law_script"] (spLaw K) := by
  refine ok0_fn F sc_law (fun vs H Q E h => by obtain ⟨v, ns, rfl, _⟩ := h; rfl) (fun f cdv A outer s H0 E hr => ⟨_, (pss_one (ps_ret (pe_and (pe_fn0 c__law_by_hand_right hr (by omega) (by rfl)) (pe_one (pe_fn c__law_right hr (by omega) (by rfl) (pa_cons (pe_fn c__law_box hr (by omega) (by rfl) (pa_cons (pe_fn c__law_cells hr (by omega) (by rfl) (pa_cons (pv 0) (pa_cons pe_int pa_nil))) (pa_cons pe_int pa_nil))) pa_nil)))))), fun vs H Q h => ?_⟩)
  obtain ⟨v, ns, rfl, hv, hl, q⟩ := h
  refine (ev_b (ed_call (K := K) (σ := [some v]) (H := H) (R := R_hand) (E := E0) eds_nil ⟨rfl, rfl⟩)) H (Ex.refl _) _ fun H1 e1 => ⟨true, rfl, ?_⟩
  refine ⟨_, rfl, ⟨v, ns, rfl, dpe hv e1, hl, fun p i H2 hp e2 h2 => ⟨.ref p, i, rfl, .lst (sq_of h2) (.cons (.int i) .nil), fun p3 H3 hp3 e3 hu3 => ⟨p3, rfl, hu3, q⟩⟩⟩⟩
end
end KT

set_option Elab.async false
set_option linter.all false
set_option autoImplicit false
set_option maxRecDepth 100000
set_option maxHeartbeats 4000000
/-! Lf: the end. -/
namespace KT
open PySem PySem.Spec PyProof.Rows L2 Evl KD KM
theorem at_mk {K : PySem.W.Frag} {h : Heap} {mg : Str → Option Value} {x : Str} {st : Stmt} {ps : List Str} {f : Addr} {fd : FuncData} (KX : K.In h) (G : h.Ns mainGlobals mg) (a : PySem.W.nsIn K mainGlobals x = some (some (.ref f))) (F : Fun K x x st f fd) (b : Binds K fd ps []) : At K mg x st ps := ⟨f, fd, F, PySem.W.mg_of KX G a, b⟩
theorem kit_own {K : PySem.W.Frag} {C : Addr} {T : String} (h : PySem.W.subIn K (.ref C) (.type T) = some true) (m : PySem.W.kitMeta T = true) : PySem.W.kitOne K (.ref C) (.type T) = some true := by
  unfold PySem.W.kitOne
  rw [if_neg (by simp)]
  show (if PySem.W.kitMeta T = true then PySem.W.subIn K (.ref C) (.type T) else none) = some true
  rw [if_pos m]
  exact h
theorem end_mk {l : PySem.W.OpenLaw} {w : World} {K : PySem.W.Frag} {h : Heap} {mg : Str → Option Value} {fa CU CN f0 f1 f2 f3 f4 f5 f6 f7 f8 f9 f10 f11 f12 f13 f14 f15 f16 f17 f18 f19 f20 f21 f22 f23 f24 f25 f26 f27 f28 f29 f30 f31 f32 f33 f34 f35 f36 f37 f38 f39 f40 f41 f42 f43 f44 f45 f46 f47 f48 f49 f50 : Addr} (KX : K.In h) (G : h.Ns mainGlobals mg) (hfa : mg "law" = some (.ref fa))
    {od0 an0 od1 an1 od2 an2 od3 an3 od4 an4 od5 an5 od6 an6 od7 an7 od8 an8 od9 an9 od10 an10 od11 an11 od12 an12 od13 an13 od14 an14 od15 an15 od16 an16 od17 an17 od18 an18 od19 an19 od20 an20 od21 an21 od22 an22 od23 an23 od24 an24 od25 an25 od26 an26 od27 an27 od28 an28 od29 an29 od30 an30 od31 an31 od32 an32 od33 an33 od34 an34 od35 an35 od36 an36 od37 an37 od38 an38 od39 an39 od40 an40 od41 an41 od42 an42 od43 an43 od44 an44 od45 an45 od46 an46 od47 an47 od48 an48 od49 an49 od50 an50 : Option Addr} {sl0 sl1 sl2 sl3 sl4 sl5 sl6 sl7 sl8 sl9 sl10 sl11 sl12 sl13 sl14 sl15 sl16 sl17 sl18 sl19 sl20 sl21 sl22 sl23 sl24 sl25 sl26 sl27 sl28 sl29 sl30 sl31 sl32 sl33 sl34 sl35 sl36 sl37 sl38 sl39 sl40 sl41 sl42 sl43 sl44 sl45 sl46 sl47 sl48 sl49 sl50 : Array (Option Value)} {oc0 kV0 dc0 pm0 cd0 ct0 oc1 kV1 dc1 pm1 cd1 ct1 oc2 kV2 dc2 pm2 cd2 ct2 oc3 kV3 dc3 pm3 cd3 ct3 oc4 kV4 dc4 pm4 cd4 ct4 oc5 kV5 dc5 pm5 cd5 ct5 oc6 kV6 dc6 pm6 cd6 ct6 oc7 kV7 dc7 pm7 cd7 ct7 oc8 kV8 dc8 pm8 cd8 ct8 oc9 kV9 dc9 pm9 cd9 ct9 oc10 kV10 dc10 pm10 cd10 ct10 oc11 kV11 dc11 pm11 cd11 ct11 oc12 kV12 dc12 pm12 cd12 ct12 oc13 kV13 dc13 pm13 cd13 ct13 oc14 kV14 dc14 pm14 cd14 ct14 oc15 kV15 dc15 pm15 cd15 ct15 oc16 kV16 dc16 pm16 cd16 ct16 oc17 kV17 dc17 pm17 cd17 ct17 oc18 kV18 dc18 pm18 cd18 ct18 oc19 kV19 dc19 pm19 cd19 ct19 oc20 kV20 dc20 pm20 cd20 ct20 oc21 kV21 dc21 pm21 cd21 ct21 oc22 kV22 dc22 pm22 cd22 ct22 oc23 kV23 dc23 pm23 cd23 ct23 oc24 kV24 dc24 pm24 cd24 ct24 oc25 kV25 dc25 pm25 cd25 ct25 oc26 kV26 dc26 pm26 cd26 ct26 oc27 kV27 dc27 pm27 cd27 ct27 oc28 kV28 dc28 pm28 cd28 ct28 oc29 kV29 dc29 pm29 cd29 ct29 oc30 kV30 dc30 pm30 cd30 ct30 oc31 kV31 dc31 pm31 cd31 ct31 oc32 kV32 dc32 pm32 cd32 ct32 oc33 kV33 dc33 pm33 cd33 ct33 oc34 kV34 dc34 pm34 cd34 ct34 oc35 kV35 dc35 pm35 cd35 ct35 oc36 kV36 dc36 pm36 cd36 ct36 oc37 kV37 dc37 pm37 cd37 ct37 oc38 kV38 dc38 pm38 cd38 ct38 oc39 kV39 dc39 pm39 cd39 ct39 oc40 kV40 dc40 pm40 cd40 ct40 oc41 kV41 dc41 pm41 cd41 ct41 oc42 kV42 dc42 pm42 cd42 ct42 oc43 kV43 dc43 pm43 cd43 ct43 oc44 kV44 dc44 pm44 cd44 ct44 oc45 kV45 dc45 pm45 cd45 ct45 oc46 kV46 dc46 pm46 cd46 ct46 oc47 kV47 dc47 pm47 cd47 ct47 oc48 kV48 dc48 pm48 cd48 ct48 oc49 kV49 dc49 pm49 cd49 ct49 oc50 kV50 dc50 pm50 cd50 ct50 : Value}
    (a0 : PySem.W.nsIn K mainGlobals "is_number" = some (some (.ref f0))) (l0 : K.lookup f0 = some ⟨oc0, od0, .func (PySem.W.fnOf "is_number" "is_number" (defArgs s_is_number) (defBody s_is_number) (defScope s_is_number) .none kV0 dc0 pm0 an0 cd0 ct0), sl0⟩) (c0 : PySem.W.codeIn K cd0 "is_number" = true) (k0 : PySem.W.keepIn K (.ref f0) = true)
    (a1 : PySem.W.nsIn K mainGlobals "tuple_of" = some (some (.ref f1))) (l1 : K.lookup f1 = some ⟨oc1, od1, .func (PySem.W.fnOf "tuple_of" "tuple_of" (defArgs s_tuple_of) (defBody s_tuple_of) (defScope s_tuple_of) .none kV1 dc1 pm1 an1 cd1 ct1), sl1⟩) (c1 : PySem.W.codeIn K cd1 "tuple_of" = true) (k1 : PySem.W.keepIn K (.ref f1) = true)
    (a2 : PySem.W.nsIn K mainGlobals "is_tuple_of" = some (some (.ref f2))) (l2 : K.lookup f2 = some ⟨oc2, od2, .func (PySem.W.fnOf "is_tuple_of" "is_tuple_of" (defArgs s_is_tuple_of) (defBody s_is_tuple_of) (defScope s_is_tuple_of) .none kV2 dc2 pm2 an2 cd2 ct2), sl2⟩) (c2 : PySem.W.codeIn K cd2 "is_tuple_of" = true) (k2 : PySem.W.keepIn K (.ref f2) = true)
    (a3 : PySem.W.nsIn K mainGlobals "_is_count" = some (some (.ref f3))) (l3 : K.lookup f3 = some ⟨oc3, od3, .func (PySem.W.fnOf "_is_count" "_is_count" (defArgs s__is_count) (defBody s__is_count) (defScope s__is_count) .none kV3 dc3 pm3 an3 cd3 ct3), sl3⟩) (c3 : PySem.W.codeIn K cd3 "_is_count" = true) (k3 : PySem.W.keepIn K (.ref f3) = true)
    (a4 : PySem.W.nsIn K mainGlobals "_is_side" = some (some (.ref f4))) (l4 : K.lookup f4 = some ⟨oc4, od4, .func (PySem.W.fnOf "_is_side" "_is_side" (defArgs s__is_side) (defBody s__is_side) (defScope s__is_side) .none kV4 dc4 pm4 an4 cd4 ct4), sl4⟩) (c4 : PySem.W.codeIn K cd4 "_is_side" = true) (k4 : PySem.W.keepIn K (.ref f4) = true)
    (a5 : PySem.W.nsIn K mainGlobals "is_image" = some (some (.ref f5))) (l5 : K.lookup f5 = some ⟨oc5, od5, .func (PySem.W.fnOf "is_image" "is_image" (defArgs s_is_image) (defBody s_is_image) (defScope s_is_image) .none kV5 dc5 pm5 an5 cd5 ct5), sl5⟩) (c5 : PySem.W.codeIn K cd5 "is_image" = true) (k5 : PySem.W.keepIn K (.ref f5) = true)
    (a6 : PySem.W.nsIn K mainGlobals "is_lock" = some (some (.ref f6))) (l6 : K.lookup f6 = some ⟨oc6, od6, .func (PySem.W.fnOf "is_lock" "is_lock" (defArgs s_is_lock) (defBody s_is_lock) (defScope s_is_lock) .none kV6 dc6 pm6 an6 cd6 ct6), sl6⟩) (c6 : PySem.W.codeIn K cd6 "is_lock" = true) (k6 : PySem.W.keepIn K (.ref f6) = true)
    (a7 : PySem.W.nsIn K mainGlobals "total" = some (some (.ref f7))) (l7 : K.lookup f7 = some ⟨oc7, od7, .func (PySem.W.fnOf "total" "total" (defArgs s_total) (defBody s_total) (defScope s_total) .none kV7 dc7 pm7 an7 cd7 ct7), sl7⟩) (c7 : PySem.W.codeIn K cd7 "total" = true) (k7 : PySem.W.keepIn K (.ref f7) = true)
    (a8 : PySem.W.nsIn K mainGlobals "is_sheet" = some (some (.ref f8))) (l8 : K.lookup f8 = some ⟨oc8, od8, .func (PySem.W.fnOf "is_sheet" "is_sheet" (defArgs s_is_sheet) (defBody s_is_sheet) (defScope s_is_sheet) .none kV8 dc8 pm8 an8 cd8 ct8), sl8⟩) (c8 : PySem.W.codeIn K cd8 "is_sheet" = true) (k8 : PySem.W.keepIn K (.ref f8) = true)
    (a9 : PySem.W.nsIn K mainGlobals "look_at" = some (some (.ref f9))) (l9 : K.lookup f9 = some ⟨oc9, od9, .func (PySem.W.fnOf "look_at" "look_at" (defArgs s_look_at) (defBody s_look_at) (defScope s_look_at) .none kV9 dc9 pm9 an9 cd9 ct9), sl9⟩) (c9 : PySem.W.codeIn K cd9 "look_at" = true) (k9 : PySem.W.keepIn K (.ref f9) = true)
    (a10 : PySem.W.nsIn K mainGlobals "look_by" = some (some (.ref f10))) (l10 : K.lookup f10 = some ⟨oc10, od10, .func (PySem.W.fnOf "look_by" "look_by" (defArgs s_look_by) (defBody s_look_by) (defScope s_look_by) .none kV10 dc10 pm10 an10 cd10 ct10), sl10⟩) (c10 : PySem.W.codeIn K cd10 "look_by" = true) (k10 : PySem.W.keepIn K (.ref f10) = true)
    (a11 : PySem.W.nsIn K mainGlobals "sure_channel" = some (some (.ref f11))) (l11 : K.lookup f11 = some ⟨oc11, od11, .func (PySem.W.fnOf "sure_channel" "sure_channel" (defArgs s_sure_channel) (defBody s_sure_channel) (defScope s_sure_channel) .none kV11 dc11 pm11 an11 cd11 ct11), sl11⟩) (c11 : PySem.W.codeIn K cd11 "sure_channel" = true) (k11 : PySem.W.keepIn K (.ref f11) = true)
    (a12 : PySem.W.nsIn K mainGlobals "side_of" = some (some (.ref f12))) (l12 : K.lookup f12 = some ⟨oc12, od12, .func (PySem.W.fnOf "side_of" "side_of" (defArgs s_side_of) (defBody s_side_of) (defScope s_side_of) .none kV12 dc12 pm12 an12 cd12 ct12), sl12⟩) (c12 : PySem.W.codeIn K cd12 "side_of" = true) (k12 : PySem.W.keepIn K (.ref f12) = true)
    (a13 : PySem.W.nsIn K mainGlobals "channels_of" = some (some (.ref f13))) (l13 : K.lookup f13 = some ⟨oc13, od13, .func (PySem.W.fnOf "channels_of" "channels_of" (defArgs s_channels_of) (defBody s_channels_of) (defScope s_channels_of) .none kV13 dc13 pm13 an13 cd13 ct13), sl13⟩) (c13 : PySem.W.codeIn K cd13 "channels_of" = true) (k13 : PySem.W.keepIn K (.ref f13) = true)
    (a14 : PySem.W.nsIn K mainGlobals "first_sheet" = some (some (.ref f14))) (l14 : K.lookup f14 = some ⟨oc14, od14, .func (PySem.W.fnOf "first_sheet" "first_sheet" (defArgs s_first_sheet) (defBody s_first_sheet) (defScope s_first_sheet) .none kV14 dc14 pm14 an14 cd14 ct14), sl14⟩) (c14 : PySem.W.codeIn K cd14 "first_sheet" = true) (k14 : PySem.W.keepIn K (.ref f14) = true)
    (a15 : PySem.W.nsIn K mainGlobals "image_of" = some (some (.ref f15))) (l15 : K.lookup f15 = some ⟨oc15, od15, .func (PySem.W.fnOf "image_of" "image_of" (defArgs s_image_of) (defBody s_image_of) (defScope s_image_of) .none kV15 dc15 pm15 an15 cd15 ct15), sl15⟩) (c15 : PySem.W.codeIn K cd15 "image_of" = true) (k15 : PySem.W.keepIn K (.ref f15) = true)
    (a16 : PySem.W.nsIn K mainGlobals "show_by" = some (some (.ref f16))) (l16 : K.lookup f16 = some ⟨oc16, od16, .func (PySem.W.fnOf "show_by" "show_by" (defArgs s_show_by) (defBody s_show_by) (defScope s_show_by) .none kV16 dc16 pm16 an16 cd16 ct16), sl16⟩) (c16 : PySem.W.codeIn K cd16 "show_by" = true) (k16 : PySem.W.keepIn K (.ref f16) = true)
    (a17 : PySem.W.nsIn K mainGlobals "close_by" = some (some (.ref f17))) (l17 : K.lookup f17 = some ⟨oc17, od17, .func (PySem.W.fnOf "close_by" "close_by" (defArgs s_close_by) (defBody s_close_by) (defScope s_close_by) .none kV17 dc17 pm17 an17 cd17 ct17), sl17⟩) (c17 : PySem.W.codeIn K cd17 "close_by" = true) (k17 : PySem.W.keepIn K (.ref f17) = true)
    (a18 : PySem.W.nsIn K mainGlobals "least_in_end" = some (some (.ref f18))) (l18 : K.lookup f18 = some ⟨oc18, od18, .func (PySem.W.fnOf "least_in_end" "least_in_end" (defArgs s_least_in_end) (defBody s_least_in_end) (defScope s_least_in_end) .none kV18 dc18 pm18 an18 cd18 ct18), sl18⟩) (c18 : PySem.W.codeIn K cd18 "least_in_end" = true) (k18 : PySem.W.keepIn K (.ref f18) = true)
    (a19 : PySem.W.nsIn K mainGlobals "enough_gap" = some (some (.ref f19))) (l19 : K.lookup f19 = some ⟨oc19, od19, .func (PySem.W.fnOf "enough_gap" "enough_gap" (defArgs s_enough_gap) (defBody s_enough_gap) (defScope s_enough_gap) .none kV19 dc19 pm19 an19 cd19 ct19), sl19⟩) (c19 : PySem.W.codeIn K cd19 "enough_gap" = true) (k19 : PySem.W.keepIn K (.ref f19) = true)
    (a20 : PySem.W.nsIn K mainGlobals "least_ends" = some (some (.ref f20))) (l20 : K.lookup f20 = some ⟨oc20, od20, .func (PySem.W.fnOf "least_ends" "least_ends" (defArgs s_least_ends) (defBody s_least_ends) (defScope s_least_ends) .none kV20 dc20 pm20 an20 cd20 ct20), sl20⟩) (c20 : PySem.W.codeIn K cd20 "least_ends" = true) (k20 : PySem.W.keepIn K (.ref f20) = true)
    (a21 : PySem.W.nsIn K mainGlobals "people_along" = some (some (.ref f21))) (l21 : K.lookup f21 = some ⟨oc21, od21, .func (PySem.W.fnOf "people_along" "people_along" (defArgs s_people_along) (defBody s_people_along) (defScope s_people_along) .none kV21 dc21 pm21 an21 cd21 ct21), sl21⟩) (c21 : PySem.W.codeIn K cd21 "people_along" = true) (k21 : PySem.W.keepIn K (.ref f21) = true)
    (a22 : PySem.W.nsIn K mainGlobals "walked" = some (some (.ref f22))) (l22 : K.lookup f22 = some ⟨oc22, od22, .func (PySem.W.fnOf "walked" "walked" (defArgs s_walked) (defBody s_walked) (defScope s_walked) .none kV22 dc22 pm22 an22 cd22 ct22), sl22⟩) (c22 : PySem.W.codeIn K cd22 "walked" = true) (k22 : PySem.W.keepIn K (.ref f22) = true)
    (a23 : PySem.W.nsIn K mainGlobals "sides" = some (some (.ref f23))) (l23 : K.lookup f23 = some ⟨oc23, od23, .func (PySem.W.fnOf "sides" "sides" (defArgs s_sides) (defBody s_sides) (defScope s_sides) .none kV23 dc23 pm23 an23 cd23 ct23), sl23⟩) (c23 : PySem.W.codeIn K cd23 "sides" = true) (k23 : PySem.W.keepIn K (.ref f23) = true)
    (a24 : PySem.W.nsIn K mainGlobals "payment_locks" = some (some (.ref f24))) (l24 : K.lookup f24 = some ⟨oc24, od24, .func (PySem.W.fnOf "payment_locks" "payment_locks" (defArgs s_payment_locks) (defBody s_payment_locks) (defScope s_payment_locks) .none kV24 dc24 pm24 an24 cd24 ct24), sl24⟩) (c24 : PySem.W.codeIn K cd24 "payment_locks" = true) (k24 : PySem.W.keepIn K (.ref f24) = true)
    (a25 : PySem.W.nsIn K mainGlobals "most_over" = some (some (.ref f25))) (l25 : K.lookup f25 = some ⟨oc25, od25, .func (PySem.W.fnOf "most_over" "most_over" (defArgs s_most_over) (defBody s_most_over) (defScope s_most_over) .none kV25 dc25 pm25 an25 cd25 ct25), sl25⟩) (c25 : PySem.W.codeIn K cd25 "most_over" = true) (k25 : PySem.W.keepIn K (.ref f25) = true)
    (a26 : PySem.W.nsIn K mainGlobals "longer" = some (some (.ref f26))) (l26 : K.lookup f26 = some ⟨oc26, od26, .func (PySem.W.fnOf "longer" "longer" (defArgs s_longer) (defBody s_longer) (defScope s_longer) .none kV26 dc26 pm26 an26 cd26 ct26), sl26⟩) (c26 : PySem.W.codeIn K cd26 "longer" = true) (k26 : PySem.W.keepIn K (.ref f26) = true)
    (a27 : PySem.W.nsIn K mainGlobals "routes" = some (some (.ref f27))) (l27 : K.lookup f27 = some ⟨oc27, od27, .func (PySem.W.fnOf "routes" "routes" (defArgs s_routes) (defBody s_routes) (defScope s_routes) .none kV27 dc27 pm27 an27 cd27 ct27), sl27⟩) (c27 : PySem.W.codeIn K cd27 "routes" = true) (k27 : PySem.W.keepIn K (.ref f27) = true)
    (a28 : PySem.W.nsIn K mainGlobals "routes_for" = some (some (.ref f28))) (l28 : K.lookup f28 = some ⟨oc28, od28, .func (PySem.W.fnOf "routes_for" "routes_for" (defArgs s_routes_for) (defBody s_routes_for) (defScope s_routes_for) .none kV28 dc28 pm28 an28 cd28 ct28), sl28⟩) (c28 : PySem.W.codeIn K cd28 "routes_for" = true) (k28 : PySem.W.keepIn K (.ref f28) = true)
    (a29 : PySem.W.nsIn K mainGlobals "best_route" = some (some (.ref f29))) (l29 : K.lookup f29 = some ⟨oc29, od29, .func (PySem.W.fnOf "best_route" "best_route" (defArgs s_best_route) (defBody s_best_route) (defScope s_best_route) .none kV29 dc29 pm29 an29 cd29 ct29), sl29⟩) (c29 : PySem.W.codeIn K cd29 "best_route" = true) (k29 : PySem.W.keepIn K (.ref f29) = true)
    (a30 : PySem.W.nsIn K mainGlobals "widest" = some (some (.ref f30))) (l30 : K.lookup f30 = some ⟨oc30, od30, .func (PySem.W.fnOf "widest" "widest" (defArgs s_widest) (defBody s_widest) (defScope s_widest) .none kV30 dc30 pm30 an30 cd30 ct30), sl30⟩) (c30 : PySem.W.codeIn K cd30 "widest" = true) (k30 : PySem.W.keepIn K (.ref f30) = true)
    (a31 : PySem.W.nsIn K mainGlobals "are_safe" = some (some (.ref f31))) (l31 : K.lookup f31 = some ⟨oc31, od31, .func (PySem.W.fnOf "are_safe" "are_safe" (defArgs s_are_safe) (defBody s_are_safe) (defScope s_are_safe) .none kV31 dc31 pm31 an31 cd31 ct31), sl31⟩) (c31 : PySem.W.codeIn K cd31 "are_safe" = true) (k31 : PySem.W.keepIn K (.ref f31) = true)
    (a32 : PySem.W.nsIn K mainGlobals "last_looks" = some (some (.ref f32))) (l32 : K.lookup f32 = some ⟨oc32, od32, .func (PySem.W.fnOf "last_looks" "last_looks" (defArgs s_last_looks) (defBody s_last_looks) (defScope s_last_looks) .none kV32 dc32 pm32 an32 cd32 ct32), sl32⟩) (c32 : PySem.W.codeIn K cd32 "last_looks" = true) (k32 : PySem.W.keepIn K (.ref f32) = true)
    (a33 : PySem.W.nsIn K mainGlobals "wish_for" = some (some (.ref f33))) (l33 : K.lookup f33 = some ⟨oc33, od33, .func (PySem.W.fnOf "wish_for" "wish_for" (defArgs s_wish_for) (defBody s_wish_for) (defScope s_wish_for) .none kV33 dc33 pm33 an33 cd33 ct33), sl33⟩) (c33 : PySem.W.codeIn K cd33 "wish_for" = true) (k33 : PySem.W.keepIn K (.ref f33) = true)
    (a34 : PySem.W.nsIn K mainGlobals "_law_box" = some (some (.ref f34))) (l34 : K.lookup f34 = some ⟨oc34, od34, .func (PySem.W.fnOf "_law_box" "_law_box" (defArgs s__law_box) (defBody s__law_box) (defScope s__law_box) .none kV34 dc34 pm34 an34 cd34 ct34), sl34⟩) (c34 : PySem.W.codeIn K cd34 "_law_box" = true) (k34 : PySem.W.keepIn K (.ref f34) = true)
    (a35 : PySem.W.nsIn K mainGlobals "_law_take" = some (some (.ref f35))) (l35 : K.lookup f35 = some ⟨oc35, od35, .func (PySem.W.fnOf "_law_take" "_law_take" (defArgs s__law_take) (defBody s__law_take) (defScope s__law_take) .none kV35 dc35 pm35 an35 cd35 ct35), sl35⟩) (c35 : PySem.W.codeIn K cd35 "_law_take" = true) (k35 : PySem.W.keepIn K (.ref f35) = true)
    (a36 : PySem.W.nsIn K mainGlobals "_law_cells" = some (some (.ref f36))) (l36 : K.lookup f36 = some ⟨oc36, od36, .func (PySem.W.fnOf "_law_cells" "_law_cells" (defArgs s__law_cells) (defBody s__law_cells) (defScope s__law_cells) .none kV36 dc36 pm36 an36 cd36 ct36), sl36⟩) (c36 : PySem.W.codeIn K cd36 "_law_cells" = true) (k36 : PySem.W.keepIn K (.ref f36) = true)
    (a37 : PySem.W.nsIn K mainGlobals "_law_of" = some (some (.ref f37))) (l37 : K.lookup f37 = some ⟨oc37, od37, .func (PySem.W.fnOf "_law_of" "_law_of" (defArgs s__law_of) (defBody s__law_of) (defScope s__law_of) .none kV37 dc37 pm37 an37 cd37 ct37), sl37⟩) (c37 : PySem.W.codeIn K cd37 "_law_of" = true) (k37 : PySem.W.keepIn K (.ref f37) = true)
    (a38 : PySem.W.nsIn K mainGlobals "_law_same" = some (some (.ref f38))) (l38 : K.lookup f38 = some ⟨oc38, od38, .func (PySem.W.fnOf "_law_same" "_law_same" (defArgs s__law_same) (defBody s__law_same) (defScope s__law_same) .none kV38 dc38 pm38 an38 cd38 ct38), sl38⟩) (c38 : PySem.W.codeIn K cd38 "_law_same" = true) (k38 : PySem.W.keepIn K (.ref f38) = true)
    (a39 : PySem.W.nsIn K mainGlobals "_law_lists" = some (some (.ref f39))) (l39 : K.lookup f39 = some ⟨oc39, od39, .func (PySem.W.fnOf "_law_lists" "_law_lists" (defArgs s__law_lists) (defBody s__law_lists) (defScope s__law_lists) .none kV39 dc39 pm39 an39 cd39 ct39), sl39⟩) (c39 : PySem.W.codeIn K cd39 "_law_lists" = true) (k39 : PySem.W.keepIn K (.ref f39) = true)
    (a40 : PySem.W.nsIn K mainGlobals "_law_net" = some (some (.ref f40))) (l40 : K.lookup f40 = some ⟨oc40, od40, .func (PySem.W.fnOf "_law_net" "_law_net" (defArgs s__law_net) (defBody s__law_net) (defScope s__law_net) .none kV40 dc40 pm40 an40 cd40 ct40), sl40⟩) (c40 : PySem.W.codeIn K cd40 "_law_net" = true) (k40 : PySem.W.keepIn K (.ref f40) = true)
    (a41 : PySem.W.nsIn K mainGlobals "_law_sheets" = some (some (.ref f41))) (l41 : K.lookup f41 = some ⟨oc41, od41, .func (PySem.W.fnOf "_law_sheets" "_law_sheets" (defArgs s__law_sheets) (defBody s__law_sheets) (defScope s__law_sheets) .none kV41 dc41 pm41 an41 cd41 ct41), sl41⟩) (c41 : PySem.W.codeIn K cd41 "_law_sheets" = true) (k41 : PySem.W.keepIn K (.ref f41) = true)
    (a42 : PySem.W.nsIn K mainGlobals "_law_pays" = some (some (.ref f42))) (l42 : K.lookup f42 = some ⟨oc42, od42, .func (PySem.W.fnOf "_law_pays" "_law_pays" (defArgs s__law_pays) (defBody s__law_pays) (defScope s__law_pays) .none kV42 dc42 pm42 an42 cd42 ct42), sl42⟩) (c42 : PySem.W.codeIn K cd42 "_law_pays" = true) (k42 : PySem.W.keepIn K (.ref f42) = true)
    (a43 : PySem.W.nsIn K mainGlobals "_law_most" = some (some (.ref f43))) (l43 : K.lookup f43 = some ⟨oc43, od43, .func (PySem.W.fnOf "_law_most" "_law_most" (defArgs s__law_most) (defBody s__law_most) (defScope s__law_most) .none kV43 dc43 pm43 an43 cd43 ct43), sl43⟩) (c43 : PySem.W.codeIn K cd43 "_law_most" = true) (k43 : PySem.W.keepIn K (.ref f43) = true)
    (a44 : PySem.W.nsIn K mainGlobals "_law_heard" = some (some (.ref f44))) (l44 : K.lookup f44 = some ⟨oc44, od44, .func (PySem.W.fnOf "_law_heard" "_law_heard" (defArgs s__law_heard) (defBody s__law_heard) (defScope s__law_heard) .none kV44 dc44 pm44 an44 cd44 ct44), sl44⟩) (c44 : PySem.W.codeIn K cd44 "_law_heard" = true) (k44 : PySem.W.keepIn K (.ref f44) = true)
    (a45 : PySem.W.nsIn K mainGlobals "_law_locks_right" = some (some (.ref f45))) (l45 : K.lookup f45 = some ⟨oc45, od45, .func (PySem.W.fnOf "_law_locks_right" "_law_locks_right" (defArgs s__law_locks_right) (defBody s__law_locks_right) (defScope s__law_locks_right) .none kV45 dc45 pm45 an45 cd45 ct45), sl45⟩) (c45 : PySem.W.codeIn K cd45 "_law_locks_right" = true) (k45 : PySem.W.keepIn K (.ref f45) = true)
    (a46 : PySem.W.nsIn K mainGlobals "_law_by" = some (some (.ref f46))) (l46 : K.lookup f46 = some ⟨oc46, od46, .func (PySem.W.fnOf "_law_by" "_law_by" (defArgs s__law_by) (defBody s__law_by) (defScope s__law_by) .none kV46 dc46 pm46 an46 cd46 ct46), sl46⟩) (c46 : PySem.W.codeIn K cd46 "_law_by" = true) (k46 : PySem.W.keepIn K (.ref f46) = true)
    (a47 : PySem.W.nsIn K mainGlobals "_law_ends_right" = some (some (.ref f47))) (l47 : K.lookup f47 = some ⟨oc47, od47, .func (PySem.W.fnOf "_law_ends_right" "_law_ends_right" (defArgs s__law_ends_right) (defBody s__law_ends_right) (defScope s__law_ends_right) .none kV47 dc47 pm47 an47 cd47 ct47), sl47⟩) (c47 : PySem.W.codeIn K cd47 "_law_ends_right" = true) (k47 : PySem.W.keepIn K (.ref f47) = true)
    (a48 : PySem.W.nsIn K mainGlobals "_law_right" = some (some (.ref f48))) (l48 : K.lookup f48 = some ⟨oc48, od48, .func (PySem.W.fnOf "_law_right" "_law_right" (defArgs s__law_right) (defBody s__law_right) (defScope s__law_right) .none kV48 dc48 pm48 an48 cd48 ct48), sl48⟩) (c48 : PySem.W.codeIn K cd48 "_law_right" = true) (k48 : PySem.W.keepIn K (.ref f48) = true)
    (a49 : PySem.W.nsIn K mainGlobals "_law_by_hand_right" = some (some (.ref f49))) (l49 : K.lookup f49 = some ⟨oc49, od49, .func (PySem.W.fnOf "_law_by_hand_right" "_law_by_hand_right" (defArgs s__law_by_hand_right) (defBody s__law_by_hand_right) (defScope s__law_by_hand_right) .none kV49 dc49 pm49 an49 cd49 ct49), sl49⟩) (c49 : PySem.W.codeIn K cd49 "_law_by_hand_right" = true) (k49 : PySem.W.keepIn K (.ref f49) = true)
    (a50 : PySem.W.nsIn K mainGlobals "law" = some (some (.ref f50))) (l50 : K.lookup f50 = some ⟨oc50, od50, .func (PySem.W.fnOf "law" "law" (defArgs s_law) (defBody s_law) (defScope s_law) .none kV50 dc50 pm50 an50 cd50 ct50), sl50⟩) (c50 : PySem.W.codeIn K cd50 "law" = true) (k50 : PySem.W.keepIn K (.ref f50) = true)
    (z_len : PySem.W.nsIn K mainGlobals "len" = some none)
    (z_isinstance : PySem.W.nsIn K mainGlobals "isinstance" = some none)
    (z_abs : PySem.W.nsIn K mainGlobals "abs" = some none)
    (z_all : PySem.W.nsIn K mainGlobals "all" = some none)
    (z_sum : PySem.W.nsIn K mainGlobals "sum" = some none)
    (z_min : PySem.W.nsIn K mainGlobals "min" = some none)
    (z_max : PySem.W.nsIn K mainGlobals "max" = some none)
    (z_int : PySem.W.nsIn K mainGlobals "int" = some none)
    (z_bool : PySem.W.nsIn K mainGlobals "bool" = some none)
    (z_str : PySem.W.nsIn K mainGlobals "str" = some none)
    (z_tuple : PySem.W.nsIn K mainGlobals "tuple" = some none)
    (z_list : PySem.W.nsIn K mainGlobals "list" = some none)
    (z_set : PySem.W.nsIn K mainGlobals "set" = some none)
    (z_range : PySem.W.nsIn K mainGlobals "range" = some none)
    (z_zip : PySem.W.nsIn K mainGlobals "zip" = some none)
    (z_enumerate : PySem.W.nsIn K mainGlobals "enumerate" = some none)
    (z_ValueError : PySem.W.nsIn K mainGlobals "ValueError" = some none)
    (gU : PySem.W.nsIn K mainGlobals "Unfit" = some (some (.ref CU))) (xU : PySem.W.excIn K CU [.type "ValueError", .type "Exception", .type "BaseException", .type "object"] "ValueError.__new__" = true) (kcU : PySem.W.keepIn K (.ref CU) = true) (bU : PySem.W.subIn K (.ref CU) (.type "BaseException") = some true) (tU : PySem.W.typeIn K (.ref CU) = some (.type "type"))
    (haU : PySem.W.findIn K (.ref CU) "__getattribute__" = some (some (.builtin "BaseException.__getattribute__"))) (hbU : PySem.W.findIn K (.ref CU) "__getattr__" = some none) (hdU : PySem.W.hasDictIn K CU = true) (heU : PySem.W.findIn K (.ref CU) "__class__" = some (some (.builtin "object.__class__"))) (hmU : PySem.W.mroIn K CU (.type "object") = some true) (vU : PySem.W.subIn K (.ref CU) (.type "ValueError") = some true)
    (gN : PySem.W.nsIn K mainGlobals "CanNot" = some (some (.ref CN))) (xN : PySem.W.excIn K CN [.type "ValueError", .type "Exception", .type "BaseException", .type "object"] "ValueError.__new__" = true) (kcN : PySem.W.keepIn K (.ref CN) = true) (bN : PySem.W.subIn K (.ref CN) (.type "BaseException") = some true) (tN : PySem.W.typeIn K (.ref CN) = some (.type "type"))
    (haN : PySem.W.findIn K (.ref CN) "__getattribute__" = some (some (.builtin "BaseException.__getattribute__"))) (hbN : PySem.W.findIn K (.ref CN) "__getattr__" = some none) (hdN : PySem.W.hasDictIn K CN = true) (heN : PySem.W.findIn K (.ref CN) "__class__" = some (some (.builtin "object.__class__"))) (hmN : PySem.W.mroIn K CN (.type "object") = some true) (vN : PySem.W.subIn K (.ref CN) (.type "ValueError") = some true)
    (sp1 : PySem.W.specialIn K (.builtin "object.__class__") "__get__" = some (some (.builtin "getset_descriptor.__get__"))) (sp2 : PySem.W.takesIn K (.builtin "object.__class__") = some true)
    (sUU : PySem.W.subIn K (.ref CU) (.ref CU) = some true) (sNU : PySem.W.subIn K (.ref CN) (.ref CU) = some false) (sNN : PySem.W.subIn K (.ref CN) (.ref CN) = some true) :
    ∃ fd : FuncData, (∀ (s : Shared) (v : Value), BindsTo s fd ⟨[v], []⟩ [("_law_script", v)]) ∧ ∀ base : Heap, K.In base → base.Ns mainGlobals mg → FnOk l.prog w K mg base CX0 12 fa fd ["_law_script"] (spLaw K) := by
  have e := hfa.symm.trans (PySem.W.mg_of KX G a50)
  cases e
  have B : Bt mg := ⟨PySem.W.mg_none_of KX G z_len, PySem.W.mg_none_of KX G z_isinstance, PySem.W.mg_none_of KX G z_abs, PySem.W.mg_none_of KX G z_all, PySem.W.mg_none_of KX G z_sum, PySem.W.mg_none_of KX G z_min, PySem.W.mg_none_of KX G z_max, PySem.W.mg_none_of KX G z_int, PySem.W.mg_none_of KX G z_bool, PySem.W.mg_none_of KX G z_str, PySem.W.mg_none_of KX G z_tuple, PySem.W.mg_none_of KX G z_list, PySem.W.mg_none_of KX G z_set, PySem.W.mg_none_of KX G z_range, PySem.W.mg_none_of KX G z_zip, PySem.W.mg_none_of KX G z_enumerate, PySem.W.mg_none_of KX G z_ValueError⟩
  have F0 := fun_mk (st := s_is_number) l0 c0 k0
  have A0 := at_mk (ps := ["thing"]) KX G a0 F0 (F0.binds (ps := ["thing"]) fun _ _ _ _ _ _ us hl => match us, hl with | [_], _ => rfl)
  have F1 := fun_mk (st := s_tuple_of) l1 c1 k1
  have A1 := at_mk (ps := ["thing"]) KX G a1 F1 (F1.binds (ps := ["thing"]) fun _ _ _ _ _ _ us hl => match us, hl with | [_], _ => rfl)
  have F2 := fun_mk (st := s_is_tuple_of) l2 c2 k2
  have A2 := at_mk (ps := ["thing", "many"]) KX G a2 F2 (F2.binds (ps := ["thing", "many"]) fun _ _ _ _ _ _ us hl => match us, hl with | [_, _], _ => rfl)
  have F3 := fun_mk (st := s__is_count) l3 c3 k3
  have A3 := at_mk (ps := ["thing"]) KX G a3 F3 (F3.binds (ps := ["thing"]) fun _ _ _ _ _ _ us hl => match us, hl with | [_], _ => rfl)
  have F4 := fun_mk (st := s__is_side) l4 c4 k4
  have A4 := at_mk (ps := ["thing"]) KX G a4 F4 (F4.binds (ps := ["thing"]) fun _ _ _ _ _ _ us hl => match us, hl with | [_], _ => rfl)
  have F5 := fun_mk (st := s_is_image) l5 c5 k5
  have A5 := at_mk (ps := ["thing"]) KX G a5 F5 (F5.binds (ps := ["thing"]) fun _ _ _ _ _ _ us hl => match us, hl with | [_], _ => rfl)
  have F6 := fun_mk (st := s_is_lock) l6 c6 k6
  have A6 := at_mk (ps := ["thing"]) KX G a6 F6 (F6.binds (ps := ["thing"]) fun _ _ _ _ _ _ us hl => match us, hl with | [_], _ => rfl)
  have F7 := fun_mk (st := s_total) l7 c7 k7
  have A7 := at_mk (ps := ["sheet"]) KX G a7 F7 (F7.binds (ps := ["sheet"]) fun _ _ _ _ _ _ us hl => match us, hl with | [_], _ => rfl)
  have F8 := fun_mk (st := s_is_sheet) l8 c8 k8
  have A8 := at_mk (ps := ["net", "thing"]) KX G a8 F8 (F8.binds (ps := ["net", "thing"]) fun _ _ _ _ _ _ us hl => match us, hl with | [_, _], _ => rfl)
  have F9 := fun_mk (st := s_look_at) l9 c9 k9
  have A9 := at_mk (ps := ["times", "moment"]) KX G a9 F9 (F9.binds (ps := ["times", "moment"]) fun _ _ _ _ _ _ us hl => match us, hl with | [_, _], _ => rfl)
  have F10 := fun_mk (st := s_look_by) l10 c10 k10
  have A10 := at_mk (ps := ["times", "moment"]) KX G a10 F10 (F10.binds (ps := ["times", "moment"]) fun _ _ _ _ _ _ us hl => match us, hl with | [_, _], _ => rfl)
  have F11 := fun_mk (st := s_sure_channel) l11 c11 k11
  have A11 := at_mk (ps := ["net", "channel"]) KX G a11 F11 (F11.binds (ps := ["net", "channel"]) fun _ _ _ _ _ _ us hl => match us, hl with | [_, _], _ => rfl)
  have F12 := fun_mk (st := s_side_of) l12 c12 k12
  have A12 := at_mk (ps := ["net", "channel", "person"]) KX G a12 F12 (F12.binds (ps := ["net", "channel", "person"]) fun _ _ _ _ _ _ us hl => match us, hl with | [_, _, _], _ => rfl)
  have F13 := fun_mk (st := s_channels_of) l13 c13 k13
  have A13 := at_mk (ps := ["net", "person"]) KX G a13 F13 (F13.binds (ps := ["net", "person"]) fun _ _ _ _ _ _ us hl => match us, hl with | [_, _], _ => rfl)
  have F14 := fun_mk (st := s_first_sheet) l14 c14 k14
  have A14 := at_mk (ps := ["net", "channel"]) KX G a14 F14 (F14.binds (ps := ["net", "channel"]) fun _ _ _ _ _ _ us hl => match us, hl with | [_, _], _ => rfl)
  have F15 := fun_mk (st := s_image_of) l15 c15 k15
  have A15 := at_mk (ps := ["secret"]) KX G a15 F15 (F15.binds (ps := ["secret"]) fun _ _ _ _ _ _ us hl => match us, hl with | [_], _ => rfl)
  have F16 := fun_mk (st := s_show_by) l16 c16 k16
  have A16 := at_mk (ps := ["times", "end"]) KX G a16 F16 (F16.binds (ps := ["times", "end"]) fun _ _ _ _ _ _ us hl => match us, hl with | [_, _], _ => rfl)
  have F17 := fun_mk (st := s_close_by) l17 c17 k17
  have A17 := at_mk (ps := ["times", "end"]) KX G a17 F17 (F17.binds (ps := ["times", "end"]) fun _ _ _ _ _ _ us hl => match us, hl with | [_, _], _ => rfl)
  have F18 := fun_mk (st := s_least_in_end) l18 c18 k18
  have A18 := at_mk (ps := ["times", "out_end"]) KX G a18 F18 (F18.binds (ps := ["times", "out_end"]) fun _ _ _ _ _ _ us hl => match us, hl with | [_, _], _ => rfl)
  have F19 := fun_mk (st := s_enough_gap) l19 c19 k19
  have A19 := at_mk (ps := ["times", "in_end", "out_end"]) KX G a19 F19 (F19.binds (ps := ["times", "in_end", "out_end"]) fun _ _ _ _ _ _ us hl => match us, hl with | [_, _, _], _ => rfl)
  have F20 := fun_mk (st := s_least_ends) l20 c20 k20
  have A20 := at_mk (ps := ["times", "many", "last"]) KX G a20 F20 (F20.binds (ps := ["times", "many", "last"]) fun _ _ _ _ _ _ us hl => match us, hl with | [_, _, _], _ => rfl)
  have F21 := fun_mk (st := s_people_along) l21 c21 k21
  have A21 := at_mk (ps := ["net", "payer", "route"]) KX G a21 F21 (F21.binds (ps := ["net", "payer", "route"]) fun _ _ _ _ _ _ us hl => match us, hl with | [_, _, _], _ => rfl)
  have F22 := fun_mk (st := s_walked) l22 c22 k22
  have A22 := at_mk (ps := ["net", "payer", "route"]) KX G a22 F22 (F22.binds (ps := ["net", "payer", "route"]) fun _ _ _ _ _ _ us hl => match us, hl with | [_, _, _], _ => rfl)
  have F23 := fun_mk (st := s_sides) l23 c23 k23
  have A23 := at_mk (ps := ["net", "payer", "route"]) KX G a23 F23 (F23.binds (ps := ["net", "payer", "route"]) fun _ _ _ _ _ _ us hl => match us, hl with | [_, _, _], _ => rfl)
  have F24 := fun_mk (st := s_payment_locks) l24 c24 k24
  have A24 := at_mk (ps := ["net", "payer", "route", "amount", "image", "ends"]) KX G a24 F24 (F24.binds (ps := ["net", "payer", "route", "amount", "image", "ends"]) fun _ _ _ _ _ _ us hl => match us, hl with | [_, _, _, _, _, _], _ => rfl)
  have F25 := fun_mk (st := s_most_over) l25 c25 k25
  have A25 := at_mk (ps := ["net", "sheets", "payer", "route"]) KX G a25 F25 (F25.binds (ps := ["net", "sheets", "payer", "route"]) fun _ _ _ _ _ _ us hl => match us, hl with | [_, _, _, _], _ => rfl)
  have F26 := fun_mk (st := s_longer) l26 c26 k26
  have A26 := at_mk (ps := ["net", "payer", "rows"]) KX G a26 F26 (F26.binds (ps := ["net", "payer", "rows"]) fun _ _ _ _ _ _ us hl => match us, hl with | [_, _, _], _ => rfl)
  have F27 := fun_mk (st := s_routes) l27 c27 k27
  have A27 := at_mk (ps := ["net", "payer", "payee", "most"]) KX G a27 F27 (F27.binds (ps := ["net", "payer", "payee", "most"]) fun _ _ _ _ _ _ us hl => match us, hl with | [_, _, _, _], _ => rfl)
  have F28 := fun_mk (st := s_routes_for) l28 c28 k28
  have A28 := at_mk (ps := ["net", "sheets", "payer", "payee", "amount", "most"]) KX G a28 F28 (F28.binds (ps := ["net", "sheets", "payer", "payee", "amount", "most"]) fun _ _ _ _ _ _ us hl => match us, hl with | [_, _, _, _, _, _], _ => rfl)
  have F29 := fun_mk (st := s_best_route) l29 c29 k29
  have A29 := at_mk (ps := ["net", "sheets", "payer", "payee", "amount"]) KX G a29 F29 (F29.binds (ps := ["net", "sheets", "payer", "payee", "amount"]) fun _ _ _ _ _ _ us hl => match us, hl with | [_, _, _, _, _], _ => rfl)
  have F30 := fun_mk (st := s_widest) l30 c30 k30
  have A30 := at_mk (ps := ["net", "sheets", "payer", "payee"]) KX G a30 F30 (F30.binds (ps := ["net", "sheets", "payer", "payee"]) fun _ _ _ _ _ _ us hl => match us, hl with | [_, _, _, _], _ => rfl)
  have F31 := fun_mk (st := s_are_safe) l31 c31 k31
  have A31 := at_mk (ps := ["times", "ends"]) KX G a31 F31 (F31.binds (ps := ["times", "ends"]) fun _ _ _ _ _ _ us hl => match us, hl with | [_, _], _ => rfl)
  have F32 := fun_mk (st := s_last_looks) l32 c32 k32
  have A32 := at_mk (ps := ["times", "ends"]) KX G a32 F32 (F32.binds (ps := ["times", "ends"]) fun _ _ _ _ _ _ us hl => match us, hl with | [_, _], _ => rfl)
  have F33 := fun_mk (st := s_wish_for) l33 c33 k33
  have A33 := at_mk (ps := ["times", "route", "amount", "secret", "moment", "last"]) KX G a33 F33 (F33.binds (ps := ["times", "route", "amount", "secret", "moment", "last"]) fun _ _ _ _ _ _ us hl => match us, hl with | [_, _, _, _, _, _], _ => rfl)
  have F34 := fun_mk (st := s__law_box) l34 c34 k34
  have A34 := at_mk (ps := ["_law_script", "_law_k"]) KX G a34 F34 (F34.binds (ps := ["_law_script", "_law_k"]) fun _ _ _ _ _ _ us hl => match us, hl with | [_, _], _ => rfl)
  have F35 := fun_mk (st := s__law_take) l35 c35 k35
  have A35 := at_mk (ps := ["_law_urn", "_law_low_so"]) KX G a35 F35 (F35.binds (ps := ["_law_urn", "_law_low_so"]) fun _ _ _ _ _ _ us hl => match us, hl with | [_, _], _ => rfl)
  have F36 := fun_mk (st := s__law_cells) l36 c36 k36
  have A36 := at_mk (ps := ["_law_script", "_law_top_so"]) KX G a36 F36 (F36.binds (ps := ["_law_script", "_law_top_so"]) fun _ _ _ _ _ _ us hl => match us, hl with | [_, _], _ => rfl)
  have F37 := fun_mk (st := s__law_of) l37 c37 k37
  have A37 := at_mk (ps := ["_law_urn", "_law_goods_so"]) KX G a37 F37 (F37.binds (ps := ["_law_urn", "_law_goods_so"]) fun _ _ _ _ _ _ us hl => match us, hl with | [_, _], _ => rfl)
  have F38 := fun_mk (st := s__law_same) l38 c38 k38
  have A38 := at_mk (ps := ["_law_got", "_law_goal"]) KX G a38 F38 (F38.binds (ps := ["_law_got", "_law_goal"]) fun _ _ _ _ _ _ us hl => match us, hl with | [_, _], _ => rfl)
  have F39 := fun_mk (st := s__law_lists) l39 c39 k39
  have A39 := at_mk (ps := ["_law_matter"]) KX G a39 F39 (F39.binds (ps := ["_law_matter"]) fun _ _ _ _ _ _ us hl => match us, hl with | [_], _ => rfl)
  have F40 := fun_mk (st := s__law_net) l40 c40 k40
  have A40 := at_mk (ps := ["_law_urn"]) KX G a40 F40 (F40.binds (ps := ["_law_urn"]) fun _ _ _ _ _ _ us hl => match us, hl with | [_], _ => rfl)
  have F41 := fun_mk (st := s__law_sheets) l41 c41 k41
  have A41 := at_mk (ps := ["_law_urn", "_law_net_here"]) KX G a41 F41 (F41.binds (ps := ["_law_urn", "_law_net_here"]) fun _ _ _ _ _ _ us hl => match us, hl with | [_, _], _ => rfl)
  have F42 := fun_mk (st := s__law_pays) l42 c42 k42
  have A42 := at_mk (ps := ["_law_net_here", "_law_payer", "_law_row"]) KX G a42 F42 (F42.binds (ps := ["_law_net_here", "_law_payer", "_law_row"]) fun _ _ _ _ _ _ us hl => match us, hl with | [_, _, _], _ => rfl)
  have F43 := fun_mk (st := s__law_most) l43 c43 k43
  have A43 := at_mk (ps := ["_law_net_here", "_law_sheets_here", "_law_payer", "_law_row"]) KX G a43 F43 (F43.binds (ps := ["_law_net_here", "_law_sheets_here", "_law_payer", "_law_row"]) fun _ _ _ _ _ _ us hl => match us, hl with | [_, _, _, _], _ => rfl)
  have F44 := fun_mk (st := s__law_heard) l44 c44 k44
  have A44 := at_mk (ps := ["_law_door", "_law_parts"]) KX G a44 F44 (F44.binds (ps := ["_law_door", "_law_parts"]) fun _ _ _ _ _ _ us hl => match us, hl with | [_, _], _ => rfl)
  have F45 := fun_mk (st := s__law_locks_right) l45 c45 k45
  have A45 := at_mk (ps := ["_law_net_here", "_law_sheets_here", "_law_payer", "_law_row", "_law_amount", "_law_ends"]) KX G a45 F45 (F45.binds (ps := ["_law_net_here", "_law_sheets_here", "_law_payer", "_law_row", "_law_amount", "_law_ends"]) fun _ _ _ _ _ _ us hl => match us, hl with | [_, _, _, _, _, _], _ => rfl)
  have F46 := fun_mk (st := s__law_by) l46 c46 k46
  have A46 := at_mk (ps := ["_law_times", "_law_moment"]) KX G a46 F46 (F46.binds (ps := ["_law_times", "_law_moment"]) fun _ _ _ _ _ _ us hl => match us, hl with | [_, _], _ => rfl)
  have F47 := fun_mk (st := s__law_ends_right) l47 c47 k47
  have A47 := at_mk (ps := ["_law_urn", "_law_row"]) KX G a47 F47 (F47.binds (ps := ["_law_urn", "_law_row"]) fun _ _ _ _ _ _ us hl => match us, hl with | [_, _], _ => rfl)
  have F48 := fun_mk (st := s__law_right) l48 c48 k48
  have A48 := at_mk (ps := ["_law_urn"]) KX G a48 F48 (F48.binds (ps := ["_law_urn"]) fun _ _ _ _ _ _ us hl => match us, hl with | [_], _ => rfl)
  have F49 := fun_mk (st := s__law_by_hand_right) l49 c49 k49
  have A49 := at_mk (ps := []) KX G a49 F49 (F49.binds (ps := []) fun _ _ _ _ _ _ us hl => match us, hl with | [], _ => rfl)
  have F50 := fun_mk (st := s_law) l50 c50 k50
  have e_Unfit : ErrC K mg "Unfit" CU := ⟨PySem.W.mg_of KX G gU, xU, kcU, bU, tU⟩
  have x_Unfit : ExcC K CU := ⟨haU, hbU, bU, hdU, heU, sp1, sp2, hmU⟩
  have e_CanNot : ErrC K mg "CanNot" CN := ⟨PySem.W.mg_of KX G gN, xN, kcN, bN, tN⟩
  have x_CanNot : ExcC K CN := ⟨haN, hbN, bN, hdN, heN, sp1, sp2, hmN⟩
  have T : Catch K CU CN := ⟨PySem.W.exm_ref bU hdU tU sUU, PySem.W.exm_ref bU hdU tU sNU, PySem.W.exm_ref bN hdN tN sNN, kit_own vU (by decide +kernel), kit_own vN (by decide +kernel)⟩
  refine ⟨PySem.W.fnOf "law" "law" (defArgs s_law) (defBody s_law) (defScope s_law) .none kV50 dc50 pm50 an50 cd50 ct50, fun s v => .of_eq rfl, fun base _ _ => ?_⟩
  have cN := d_is_number (P := l.prog) (w := w) (base := base) B A0 
  have cTO := d_is_tuple_of (P := l.prog) (w := w) (base := base) B A2 
  have cT := d_tuple_of (P := l.prog) (w := w) (base := base) B A1 3
  have cCo := d_is_count (P := l.prog) (w := w) (base := base) B A3 cN
  have cSi := d_is_side (P := l.prog) (w := w) (base := base) B A4 cN
  have cIm := d_is_image (P := l.prog) (w := w) (base := base) B A5 cTO cCo
  have cLk := d_is_lock (P := l.prog) (w := w) (base := base) B A6 cTO cCo cSi cIm
  have cTt := d_total (P := l.prog) (w := w) (base := base) B A7 
  have cLa := d_look_at (P := l.prog) (w := w) (base := base) B A9 
  have cLb := d_look_by (P := l.prog) (w := w) (base := base) B A10 
  have cSb := d_show_by (P := l.prog) (w := w) (base := base) B A16 cLb
  have cCb := d_close_by (P := l.prog) (w := w) (base := base) B A17 cLb cSb
  have cLi := d_least_in (P := l.prog) (w := w) (base := base) B A18 cLa
  have cEn := d_enough (P := l.prog) (w := w) (base := base) B A19 cLi
  have cIo := d_image_of (P := l.prog) (w := w) (base := base) B A15 
  have cSu := d_sure (P := l.prog) (w := w) (base := base) B A11 
  have cSo := d_side_of (P := l.prog) (w := w) (base := base) B A12 cSu
  have cCh := d_channels_of (P := l.prog) (w := w) (base := base) B A13 cSo
  have cLe := d_least_ends (P := l.prog) (w := w) (base := base) B A20 cLi
  have cPe := d_people (P := l.prog) (w := w) (base := base) B A21 cN cSo
  have cWa := d_walked (P := l.prog) (w := w) (base := base) B A22 cT cPe
  have cSd := d_sides (P := l.prog) (w := w) (base := base) B A23 cT cWa cSo
  have cMo := d_most_over (P := l.prog) (w := w) (base := base) B A25 cSd
  have cSf := d_are_safe (P := l.prog) (w := w) (base := base) B A31 cEn
  have cLl := d_last_looks (P := l.prog) (w := w) (base := base) B A32 cSb cCb
  have cWi := d_wish (P := l.prog) (w := w) (base := base) B A33 cT cIo cLe
  have cFs : Dfn l.prog w K mg base "first_sheet" ["net", "channel"] CX0 0 (spF K fun _ _ => False) := at_dead A14 fun vs H Q E ⟨ds, d, z, _⟩ => z
  have cIs := d_is_sheet (P := l.prog) (w := w) (base := base) B A8 cTO cCo cLk cTt cFs
  have cLo := d_longer (P := l.prog) (w := w) (base := base) B A26 cPe cCh
  have cRo := d_routes (P := l.prog) (w := w) (base := base) B A27 cT cPe cLo
  have cRf := d_routes_for (P := l.prog) (w := w) (base := base) B A28 cRo cMo
  have cPl := d_payment_locks (P := l.prog) (w := w) (base := base) B A24 cT cSd e_Unfit
  have cBr := d_best_route (P := l.prog) (w := w) (base := base) B A29 cRf e_CanNot
  have cWd := d_widest (P := l.prog) (w := w) (base := base) B A30 cRo cMo e_CanNot
  have kTk := d_take (P := l.prog) (w := w) (base := base) B A35 
  have kOf := d_of (P := l.prog) (w := w) (base := base) B A37 kTk
  have kCe := d_cells (P := l.prog) (w := w) (base := base) B A36 
  have kBo := d_box (P := l.prog) (w := w) (base := base) B A34 
  have kBy := d_by (P := l.prog) (w := w) (base := base) B A46 
  have kSa := d_same (P := l.prog) (w := w) (base := base) B A38 9
  have kLs := d_lists (P := l.prog) (w := w) (base := base) B A39 9
  have kNe := d_net (P := l.prog) (w := w) (base := base) B A40 kTk
  have kSh := d_sheets (P := l.prog) (w := w) (base := base) B A41 kTk
  have kPa := d_pays (P := l.prog) (w := w) (base := base) B A42 
  have kMo := d_most (P := l.prog) (w := w) (base := base) B A43 kPa
  have kHe := d_heard (P := l.prog) (w := w) (base := base) B A44 e_Unfit e_CanNot x_Unfit x_CanNot T cBr cWd cPl
  have kLr := d_locks_right (P := l.prog) (w := w) (base := base) B A45 kLs kHe kPa kSa cIs kMo
  have kEr := d_ends_right (P := l.prog) (w := w) (base := base) B A47 kTk kBy cSf cLl cWi kSa
  have kRi := d_right (P := l.prog) (w := w) (base := base) B A48 kTk kNe kSh cRo kMo cMo kLs cRf kHe kSa kOf kLr kEr
  have kHa := d_by_hand (P := l.prog) (w := w) (base := base) B A49 cMo kHe cPl cSf cLl cWi kSa
  exact f_law B F50 kHa kRi kBo kCe
theorem walk {l : PySem.W.OpenLaw} {q : Program} {loose : List Str} {XP : (Str → Option Value) → Heap → Prop} {YP : World → Heap → Prop} {d : DefRec} {K : Params → PySem.W.Frag} (hn : l.most = some 63) (hdf : d.params.defaults = [])
    (hY : ∀ (w : World) (h : Heap), YP w h → (K w.params).In h)
    (F : ∀ (w : World) (mg : Str → Option Value) (fa : Addr) (h : Heap), (K w.params).In h → h.Ns mainGlobals mg → mg d.name = some (.ref fa) →
      ∃ fd : FuncData, (∀ (s : Shared) (u : Value), BindsTo s fd ⟨[u], []⟩ [("_law_script", u)]) ∧ ∀ base : Heap, (K w.params).In base → base.Ns mainGlobals mg → FnOk l.prog w (K w.params) mg base CX0 12 fa fd ["_law_script"] (spLaw (K w.params))) :
    PySem.W.WalkO q loose XP YP l.row.toRowW d [] (fun f vs => PySem.call f vs) :=
  L2.walk_of (n := 63) (k := 12) (x := "_law_script") (CX := fun _ => CX0) (sp := fun w => spLaw (K w.params)) hn (by decide) hdf ⟨rfl, by decide, by decide⟩ hY F (fun _ _ a ns hl _ hS => ⟨.ref a, ns, rfl, .lst hS (ints_dpA ns), Nat.le_trans hl (by decide), fun _ => rfl⟩) fun _ _ _ _ _ z => z
end KT
open PySem PySem.W PyProof.Rows
set_option maxRecDepth 100000 in
set_option maxHeartbeats 0 in
theorem PySem.Challenge.cw_suredue_k34_whole_sums_locks_and_ends_of_holds : PySem.Challenge.rw_suredue_k34_whole_sums_locks_and_ends_of.Holds := by
  w_on; o_law; k_head; (case hw => w_witness2)
  k_fill
  refine KT.walk (l := PySem.Challenge.rw_suredue_k34_whole_sums_locks_and_ends_of) rfl rfl (fun w h Y => PySem.W.kIn_of Y) ?F
  case F =>
    intro w mg fa h KX G hmg
    refine' KT.end_mk KX G hmg ?a0 ?l0 ?c0 ?k0 ?a1 ?l1 ?c1 ?k1 ?a2 ?l2 ?c2 ?k2 ?a3 ?l3 ?c3 ?k3 ?a4 ?l4 ?c4 ?k4 ?a5 ?l5 ?c5 ?k5 ?a6 ?l6 ?c6 ?k6 ?a7 ?l7 ?c7 ?k7 ?a8 ?l8 ?c8 ?k8 ?a9 ?l9 ?c9 ?k9 ?a10 ?l10 ?c10 ?k10 ?a11 ?l11 ?c11 ?k11 ?a12 ?l12 ?c12 ?k12 ?a13 ?l13 ?c13 ?k13 ?a14 ?l14 ?c14 ?k14 ?a15 ?l15 ?c15 ?k15 ?a16 ?l16 ?c16 ?k16 ?a17 ?l17 ?c17 ?k17 ?a18 ?l18 ?c18 ?k18 ?a19 ?l19 ?c19 ?k19 ?a20 ?l20 ?c20 ?k20 ?a21 ?l21 ?c21 ?k21 ?a22 ?l22 ?c22 ?k22 ?a23 ?l23 ?c23 ?k23 ?a24 ?l24 ?c24 ?k24 ?a25 ?l25 ?c25 ?k25 ?a26 ?l26 ?c26 ?k26 ?a27 ?l27 ?c27 ?k27 ?a28 ?l28 ?c28 ?k28 ?a29 ?l29 ?c29 ?k29 ?a30 ?l30 ?c30 ?k30 ?a31 ?l31 ?c31 ?k31 ?a32 ?l32 ?c32 ?k32 ?a33 ?l33 ?c33 ?k33 ?a34 ?l34 ?c34 ?k34 ?a35 ?l35 ?c35 ?k35 ?a36 ?l36 ?c36 ?k36 ?a37 ?l37 ?c37 ?k37 ?a38 ?l38 ?c38 ?k38 ?a39 ?l39 ?c39 ?k39 ?a40 ?l40 ?c40 ?k40 ?a41 ?l41 ?c41 ?k41 ?a42 ?l42 ?c42 ?k42 ?a43 ?l43 ?c43 ?k43 ?a44 ?l44 ?c44 ?k44 ?a45 ?l45 ?c45 ?k45 ?a46 ?l46 ?c46 ?k46 ?a47 ?l47 ?c47 ?k47 ?a48 ?l48 ?c48 ?k48 ?a49 ?l49 ?c49 ?k49 ?a50 ?l50 ?c50 ?k50 ?z_len ?z_isinstance ?z_abs ?z_all ?z_sum ?z_min ?z_max ?z_int ?z_bool ?z_str ?z_tuple ?z_list ?z_set ?z_range ?z_zip ?z_enumerate ?z_ValueError ?gU ?xU ?kcU ?bU ?tU ?haU ?hbU ?hdU ?heU ?hmU ?vU ?gN ?xN ?kcN ?bN ?tN ?haN ?hbN ?hdN ?heN ?hmN ?vN ?sp1 ?sp2 ?sUU ?sNU ?sNN
    (case a0 => k_is)
    (case l0 => k_is)
    (case c0 => k_is)
    (case k0 => k_is)
    (case a1 => k_is)
    (case l1 => k_is)
    (case c1 => k_is)
    (case k1 => k_is)
    (case a2 => k_is)
    (case l2 => k_is)
    (case c2 => k_is)
    (case k2 => k_is)
    (case a3 => k_is)
    (case l3 => k_is)
    (case c3 => k_is)
    (case k3 => k_is)
    (case a4 => k_is)
    (case l4 => k_is)
    (case c4 => k_is)
    (case k4 => k_is)
    (case a5 => k_is)
    (case l5 => k_is)
    (case c5 => k_is)
    (case k5 => k_is)
    (case a6 => k_is)
    (case l6 => k_is)
    (case c6 => k_is)
    (case k6 => k_is)
    (case a7 => k_is)
    (case l7 => k_is)
    (case c7 => k_is)
    (case k7 => k_is)
    (case a8 => k_is)
    (case l8 => k_is)
    (case c8 => k_is)
    (case k8 => k_is)
    (case a9 => k_is)
    (case l9 => k_is)
    (case c9 => k_is)
    (case k9 => k_is)
    (case a10 => k_is)
    (case l10 => k_is)
    (case c10 => k_is)
    (case k10 => k_is)
    (case a11 => k_is)
    (case l11 => k_is)
    (case c11 => k_is)
    (case k11 => k_is)
    (case a12 => k_is)
    (case l12 => k_is)
    (case c12 => k_is)
    (case k12 => k_is)
    (case a13 => k_is)
    (case l13 => k_is)
    (case c13 => k_is)
    (case k13 => k_is)
    (case a14 => k_is)
    (case l14 => k_is)
    (case c14 => k_is)
    (case k14 => k_is)
    (case a15 => k_is)
    (case l15 => k_is)
    (case c15 => k_is)
    (case k15 => k_is)
    (case a16 => k_is)
    (case l16 => k_is)
    (case c16 => k_is)
    (case k16 => k_is)
    (case a17 => k_is)
    (case l17 => k_is)
    (case c17 => k_is)
    (case k17 => k_is)
    (case a18 => k_is)
    (case l18 => k_is)
    (case c18 => k_is)
    (case k18 => k_is)
    (case a19 => k_is)
    (case l19 => k_is)
    (case c19 => k_is)
    (case k19 => k_is)
    (case a20 => k_is)
    (case l20 => k_is)
    (case c20 => k_is)
    (case k20 => k_is)
    (case a21 => k_is)
    (case l21 => k_is)
    (case c21 => k_is)
    (case k21 => k_is)
    (case a22 => k_is)
    (case l22 => k_is)
    (case c22 => k_is)
    (case k22 => k_is)
    (case a23 => k_is)
    (case l23 => k_is)
    (case c23 => k_is)
    (case k23 => k_is)
    (case a24 => k_is)
    (case l24 => k_is)
    (case c24 => k_is)
    (case k24 => k_is)
    (case a25 => k_is)
    (case l25 => k_is)
    (case c25 => k_is)
    (case k25 => k_is)
    (case a26 => k_is)
    (case l26 => k_is)
    (case c26 => k_is)
    (case k26 => k_is)
    (case a27 => k_is)
    (case l27 => k_is)
    (case c27 => k_is)
    (case k27 => k_is)
    (case a28 => k_is)
    (case l28 => k_is)
    (case c28 => k_is)
    (case k28 => k_is)
    (case a29 => k_is)
    (case l29 => k_is)
    (case c29 => k_is)
    (case k29 => k_is)
    (case a30 => k_is)
    (case l30 => k_is)
    (case c30 => k_is)
    (case k30 => k_is)
    (case a31 => k_is)
    (case l31 => k_is)
    (case c31 => k_is)
    (case k31 => k_is)
    (case a32 => k_is)
    (case l32 => k_is)
    (case c32 => k_is)
    (case k32 => k_is)
    (case a33 => k_is)
    (case l33 => k_is)
    (case c33 => k_is)
    (case k33 => k_is)
    (case a34 => k_is)
    (case l34 => k_is)
    (case c34 => k_is)
    (case k34 => k_is)
    (case a35 => k_is)
    (case l35 => k_is)
    (case c35 => k_is)
    (case k35 => k_is)
    (case a36 => k_is)
    (case l36 => k_is)
    (case c36 => k_is)
    (case k36 => k_is)
    (case a37 => k_is)
    (case l37 => k_is)
    (case c37 => k_is)
    (case k37 => k_is)
    (case a38 => k_is)
    (case l38 => k_is)
    (case c38 => k_is)
    (case k38 => k_is)
    (case a39 => k_is)
    (case l39 => k_is)
    (case c39 => k_is)
    (case k39 => k_is)
    (case a40 => k_is)
    (case l40 => k_is)
    (case c40 => k_is)
    (case k40 => k_is)
    (case a41 => k_is)
    (case l41 => k_is)
    (case c41 => k_is)
    (case k41 => k_is)
    (case a42 => k_is)
    (case l42 => k_is)
    (case c42 => k_is)
    (case k42 => k_is)
    (case a43 => k_is)
    (case l43 => k_is)
    (case c43 => k_is)
    (case k43 => k_is)
    (case a44 => k_is)
    (case l44 => k_is)
    (case c44 => k_is)
    (case k44 => k_is)
    (case a45 => k_is)
    (case l45 => k_is)
    (case c45 => k_is)
    (case k45 => k_is)
    (case a46 => k_is)
    (case l46 => k_is)
    (case c46 => k_is)
    (case k46 => k_is)
    (case a47 => k_is)
    (case l47 => k_is)
    (case c47 => k_is)
    (case k47 => k_is)
    (case a48 => k_is)
    (case l48 => k_is)
    (case c48 => k_is)
    (case k48 => k_is)
    (case a49 => k_is)
    (case l49 => k_is)
    (case c49 => k_is)
    (case k49 => k_is)
    (case a50 => k_is)
    (case l50 => k_is)
    (case c50 => k_is)
    (case k50 => k_is)
    (case z_len => k_is)
    (case z_isinstance => k_is)
    (case z_abs => k_is)
    (case z_all => k_is)
    (case z_sum => k_is)
    (case z_min => k_is)
    (case z_max => k_is)
    (case z_int => k_is)
    (case z_bool => k_is)
    (case z_str => k_is)
    (case z_tuple => k_is)
    (case z_list => k_is)
    (case z_set => k_is)
    (case z_range => k_is)
    (case z_zip => k_is)
    (case z_enumerate => k_is)
    (case z_ValueError => k_is)
    (case gU => k_is)
    (case xU => k_exc)
    (case kcU => k_is)
    (case bU => k_is)
    (case tU => k_is)
    (case haU => k_is)
    (case hbU => k_is)
    (case hdU => k_is)
    (case heU => k_is)
    (case hmU => k_is)
    (case vU => k_is)
    (case gN => k_is)
    (case xN => k_exc)
    (case kcN => k_is)
    (case bN => k_is)
    (case tN => k_is)
    (case haN => k_is)
    (case hbN => k_is)
    (case hdN => k_is)
    (case heN => k_is)
    (case hmN => k_is)
    (case vN => k_is)
    (case sp1 => k_is)
    (case sp2 => k_is)
    (case sUU => first | rfl | k_is)
    (case sNU => k_is)
    (case sNN => first | rfl | k_is)

