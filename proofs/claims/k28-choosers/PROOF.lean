import PyProof.Rows.All
import Wide.All
import OpenK.AllK
import Wide.FinOn
import HandS.ForMost
import HandS.TupAny
import HandS.TupMul
import HandS.IsInst
import HandS.Strs
import HandS.Deep
import KE.SortData
import KE.GoesEnum
import HandS.SetFor
import KE.KMinKey
import HandS.SortKw
import PySem.Challenge.RW_selfrights_k28_whole_choosers
set_option Elab.async false
set_option maxRecDepth 100000
set_option maxHeartbeats 4000000
set_option linter.all false
/-! A logic of our own over PyData: what an expression is worth, whatever stands in the heap beside it. -/
namespace Sr
open PySem L2

/-! ### heaps -/
def Kp (H H' : Hp) : Prop := ∀ b o, (∀ kvs, o ≠ HO.dK kvs) → H b = some o → H' b = some o
theorem Kp.refl (H : Hp) : Kp H H := fun _ _ _ h => h
theorem Kp.trans {H1 H2 H3 : Hp} (a : Kp H1 H2) (b : Kp H2 H3) : Kp H1 H3 := fun c o n h => b c o n (a c o n h)
theorem Kp.of_same {H H' : Hp} (e : Same H H') : Kp H H' := fun b o _ h => e b o h
theorem sameN {H : Hp} {p : Addr} (h : H p = none) (o : HO) : Same H (upd H p o) := fun b u q => (upd_ne (ne_of_none q h)).trans q
theorem Kp.mut {H1 H2 : Hp} {p : Addr} {o : HO} (k : Kp H1 H2) (h : H1 p = none) : Kp H1 (upd H2 p o) := fun b u n q => (upd_ne (ne_of_none q h)).trans (k b u n q)
theorem Kp.rdT {H H' : Hp} {a : Addr} {xs : List V} (k : Kp H H') (h : Rd H a (.tup xs)) : Rd H' a (.tup xs) := by
  rcases h with h | ⟨o, h⟩
  · exact .inl (k a _ (fun _ q => nomatch q) h)
  · exact .inr ⟨o, k a _ (fun _ q => nomatch q) h⟩
theorem Kp.rdL {H H' : Hp} {a : Addr} {xs : List V} (k : Kp H H') (h : Rd H a (.lst xs)) : Rd H' a (.lst xs) := by
  rcases h with h | ⟨o, h⟩
  · exact .inl (k a _ (fun _ q => nomatch q) h)
  · exact .inr ⟨o, k a _ (fun _ q => nomatch q) h⟩
section
variable {K : PySem.W.Frag} {H H' : Hp}
theorem Kp.sqT {a : Addr} {xs : List V} (k : Kp H H') (h : SqT K H a xs) : SqT K H' a xs := h.elim (fun q => .inl (k.rdT q)) .inr
theorem Kp.sqL {a : Addr} {xs : List V} (k : Kp H H') (h : SqL K H a xs) : SqL K H' a xs := h.elim (fun q => .inl (k.rdL q)) .inr
mutual
theorem dp_keep (k : Kp H H') : ∀ (d : PyData) (v : V), Dp K H v d → Dp K H' v d
  | .none, _, h => by cases h; exact .non
  | .bool b, _, h => by cases h; exact .bl b
  | .int i, _, h => by cases h; exact .int i
  | .str x, _, h => by cases h; exact .str x
  | .list ds, _, h => by
    cases h with
    | lst a b => exact .lst (k.sqL a) (dps_keep k ds _ b)
  | .tuple ds, _, h => by
    cases h with
    | tup a b => exact .tup (k.sqT a) (dps_keep k ds _ b)
  | .dict _, _, h => by cases h
theorem dps_keep (k : Kp H H') : ∀ (ds : List PyData) (vs : List V), DpAll K H vs ds → DpAll K H' vs ds
  | [], _, h => by cases h; exact .nil
  | d :: ds, _, h => by
    cases h with
    | cons a b => exact .cons (dp_keep k d _ a) (dps_keep k ds _ b)
end
end

/-! ### data without lists: what lists do does not touch it -/
mutual
def nolist : PyData → Bool
  | .list _ => false
  | .tuple xs => nolists xs
  | _ => true
def nolists : List PyData → Bool
  | [] => true
  | x :: xs => nolist x && nolists xs
end
theorem nolists_all : ∀ {xs : List PyData}, (∀ x ∈ xs, nolist x = true) → nolists xs = true
  | [], _ => by simp [nolists]
  | x :: xs, h => by
    rw [nolists, h x List.mem_cons_self, nolists_all fun y hy => h y (List.mem_cons_of_mem _ hy)]
    rfl
theorem nolists_of : ∀ {xs : List PyData}, nolists xs = true → ∀ x ∈ xs, nolist x = true
  | [], _, _, h => by simp at h
  | x :: xs, h, y, hy => by
    rw [nolists, Bool.and_eq_true] at h
    rcases List.mem_cons.mp hy with rfl | hy
    · exact h.1
    · exact nolists_of h.2 y hy
def Kt (H H' : Hp) : Prop := ∀ a xs, Rd H a (.tup xs) → Rd H' a (.tup xs)
theorem Kt.lst {H : Hp} {p : Addr} {us vs : List V} (h : H p = some (.lst us)) : Kt H (upd H p (.lst vs)) := fun a xs r => by
  rcases r with r | ⟨o, r⟩
  · exact .inl ((upd_ne (ne_of r h (fun q => nomatch q))).trans r)
  · exact .inr ⟨o, (upd_ne (ne_of r h (fun q => nomatch q))).trans r⟩
section
variable {K : PySem.W.Frag} {H H' : Hp}
mutual
theorem dp_nolist (k : Kt H H') : ∀ (d : PyData) (v : V), nolist d = true → Dp K H v d → Dp K H' v d
  | .none, _, _, h => by cases h; exact .non
  | .bool b, _, _, h => by cases h; exact .bl b
  | .int i, _, _, h => by cases h; exact .int i
  | .str x, _, _, h => by cases h; exact .str x
  | .list ds, _, n, h => by simp [nolist] at n
  | .tuple ds, _, n, h => by
    rw [nolist] at n
    cases h with
    | tup a b => exact .tup (a.elim (fun q => .inl (k _ _ q)) .inr) (dps_nolist k ds _ n b)
  | .dict _, _, _, h => by cases h
theorem dps_nolist (k : Kt H H') : ∀ (ds : List PyData) (vs : List V), nolists ds = true → DpAll K H vs ds → DpAll K H' vs ds
  | [], _, _, h => by cases h; exact .nil
  | d :: ds, _, n, h => by
    rw [nolists, Bool.and_eq_true] at n
    cases h with
    | cons a b => exact .cons (dp_nolist k d _ n.1 a) (dps_nolist k ds _ n.2 b)
end
end

/-! ### what a value stands for -/
inductive Dv where
  /-- data -/
  | d (x : PyData)
  /-- this very value -/
  | v (x : V)
  /-- a list of our own, of data -/
  | l (xs : List PyData)
  /-- what else it may be, told by the heap; no dict is asked -/
  | s (φ : Hp → V → Prop) (m : ∀ H H' u, Kp H H' → φ H u → φ H' u)
section
variable (K : PySem.W.Frag) (H : Hp)
def Dok : Dv → V → Prop
  | .d x, u => Dp K H u x
  | .v x, u => u = x
  | .l xs, u => ∃ a us, u = .ref a ∧ H a = some (.lst us) ∧ DpAll K H us xs
  | .s φ _, u => φ H u
end
section
variable {K : PySem.W.Frag} {H H' : Hp}
theorem Dok.keep (k : Kp H H') : ∀ {x : Dv} {u : V}, Dok K H x u → Dok K H' x u
  | .d x, u, h => dp_keep k x u h
  | .v _, _, h => h
  | .l xs, _, ⟨a, us, e, h1, h2⟩ => ⟨a, us, e, k a _ (fun _ q => nomatch q) h1, dps_keep k xs us h2⟩
  | .s _ m, u, h => m _ _ u k h
def Fl : Dv → Prop
  | .d x => nolist x = true
  | .v _ => True
  | .l _ => False
  | .s φ _ => ∀ H p us vs u, H p = some (.lst us) → φ H u → φ (upd H p (.lst vs)) u
theorem Dok.fl {p : Addr} {us vs : List V} (hp : H p = some (.lst us)) : ∀ {x : Dv} {u : V}, Fl x → Dok K H x u → Dok K (upd H p (.lst vs)) x u
  | .d x, u, n, h => dp_nolist (Kt.lst hp) x u n h
  | .v _, _, _, h => h
  | .l _, _, n, _ => n.elim
  | .s _ _, u, n, h => n H p us vs u hp h
abbrev Doks (K : PySem.W.Frag) (H : Hp) : List Dv → List V → Prop := Paired (Dok K H)
theorem Doks.keep (k : Kp H H') : ∀ {xs : List Dv} {us : List V}, Doks K H xs us → Doks K H' xs us
  | _, _, .nil => .nil
  | _, _, .cons a b => .cons (a.keep k) (Doks.keep k b)
theorem doks_fl {p : Addr} {vs ws : List V} (hp : H p = some (.lst vs)) : ∀ {xs : List Dv} {us : List V}, (∀ y ∈ xs, Fl y) → Doks K H xs us → Doks K (upd H p (.lst ws)) xs us
  | _, _, _, .nil => .nil
  | _, _, f, .cons a b => .cons (a.fl hp (f _ List.mem_cons_self)) (doks_fl hp (fun y hy => f y (List.mem_cons_of_mem _ hy)) b)
/-- a list of our own -/
def dLs (K : PySem.W.Frag) (xs : List Dv) : Dv := .s (fun H u => ∃ a us, u = .ref a ∧ H a = some (.lst us) ∧ Doks K H xs us) fun H H' u k ⟨a, us, e, h1, h2⟩ => ⟨a, us, e, k a _ (fun _ q => nomatch q) h1, Doks.keep k h2⟩
theorem dpAll_of : ∀ {es : List PyData} {us : List V}, Doks K H (es.map .d) us → DpAll K H us es
  | [], _, h => by cases h; exact .nil
  | _ :: _, _, h => by
    cases h with
    | cons a b => exact .cons a (dpAll_of b)
theorem doks_of : ∀ {es : List PyData} {us : List V}, DpAll K H us es → Doks K H (es.map .d) us
  | [], _, h => by cases h; exact .nil
  | _ :: _, _, h => by
    cases h with
    | cons a b => exact .cons a (doks_of b)
theorem doks_v : ∀ {es : List V} {us : List V}, Doks K H (es.map .v) us → us = es
  | [], _, h => by cases h; rfl
  | _ :: _, _, h => by
    cases h with
    | cons a b =>
      have a' : _ = _ := a
      rw [a', doks_v b]
theorem v_doks : ∀ (es : List V), Doks K H (es.map .v) es
  | [] => .nil
  | _ :: es => .cons rfl (v_doks es)
theorem paired_app {α β : Type} {F : α → β → Prop} : ∀ {a b : List α} {x y : List β}, Paired F a x → Paired F b y → Paired F (a ++ b) (x ++ y)
  | _, _, _, _, .nil, h => h
  | _, _, _, _, .cons p q, h => .cons p (paired_app q h)
theorem paired_at {α β : Type} {F : α → β → Prop} : ∀ {a : List α} {x : List β} {i : Nat} {u : β}, Paired F a x → x[i]? = some u → ∃ e, a[i]? = some e ∧ F e u
  | _, _, _, _, .nil, h => by simp at h
  | _, _, 0, _, .cons p _, h => ⟨_, rfl, by simpa using (Option.some.inj h) ▸ p⟩
  | _, _, i + 1, u, .cons _ q, h => by
    obtain ⟨e, h1, h2⟩ := paired_at (i := i) (u := u) q (by simpa using h)
    exact ⟨e, by simpa using h1, h2⟩
theorem paired_at' {α β : Type} {F : α → β → Prop} : ∀ {a : List α} {x : List β} {i : Nat} {e : α}, Paired F a x → a[i]? = some e → ∃ u, x[i]? = some u ∧ F e u
  | _, _, _, _, .nil, h => by simp at h
  | _, _, 0, _, .cons p _, h => ⟨_, rfl, by simpa using (Option.some.inj h) ▸ p⟩
  | _, _, i + 1, u, .cons _ q, h => by
    obtain ⟨e, h1, h2⟩ := paired_at' (i := i) (e := u) q (by simpa using h)
    exact ⟨e, by simpa using h1, h2⟩
theorem dpAll_app {us vs : List V} {ds es : List PyData} (h : DpAll K H us ds) (h' : DpAll K H vs es) : DpAll K H (us ++ vs) (ds ++ es) :=
  dpAll_of (by rw [List.map_append]; exact paired_app (doks_of h) (doks_of h'))
theorem dpAll_len : ∀ {us : List V} {ds : List PyData}, DpAll K H us ds → us.length = ds.length
  | _, _, .nil => rfl
  | _, _, .cons _ b => congrArg (· + 1) (dpAll_len b)
theorem dpAll_at : ∀ {us : List V} {ds : List PyData} {i : Nat} {d : PyData}, DpAll K H us ds → ds[i]? = some d → ∃ u, us[i]? = some u ∧ Dp K H u d
  | _, _, _, _, .nil, h => by simp at h
  | _, _, 0, _, .cons a _, h => by
    simp at h
    subst h
    exact ⟨_, rfl, a⟩
  | _, _, i + 1, d, .cons _ b, h => by
    obtain ⟨u, h1, h2⟩ := dpAll_at (i := i) (d := d) b (by simpa using h)
    exact ⟨u, by simpa using h1, h2⟩
theorem dpAll_atI {us : List V} {ds : List PyData} {i : Int} {d : PyData} (h : DpAll K H us ds) (e : atI ds i = some d) : ∃ u, atI us i = some u ∧ Dp K H u d := by
  unfold atI at e ⊢
  rw [dpAll_len h]
  cases q : ixN ds.length i with
  | none => rw [q] at e; cases e
  | some j =>
    rw [q] at e
    exact dpAll_at h e
theorem dp_int {u : V} {i : Int} (h : Dp K H u (.int i)) : u = .int i := by cases h; rfl
theorem dp_str {u : V} {i : Str} (h : Dp K H u (.str i)) : u = .str i := by cases h; rfl
theorem dp_bool {u : V} {i : Bool} (h : Dp K H u (.bool i)) : u = .bl i := by cases h; rfl
theorem dp_none {u : V} (h : Dp K H u .none) : u = .non := by cases h; rfl
theorem dp_tup {u : V} {ds : List PyData} (h : Dp K H u (.tuple ds)) : ∃ a us, u = .ref a ∧ SqT K H a us ∧ DpAll K H us ds := by
  cases h with
  | tup a b => exact ⟨_, _, rfl, a, b⟩
theorem dp_lst {u : V} {ds : List PyData} (h : Dp K H u (.list ds)) : ∃ a us, u = .ref a ∧ SqL K H a us ∧ DpAll K H us ds := by
  cases h with
  | lst a b => exact ⟨_, _, rfl, a, b⟩
theorem dpAll_ints : ∀ {ns : List Int} {us : List V}, DpAll K H us (ns.map .int) → us = ns.map V.int
  | [], _, h => by cases h; rfl
  | _ :: _, _, h => by
    cases h with
    | cons a b => rw [dp_int a, dpAll_ints b]; rfl
theorem ints_dpAll : ∀ (ns : List Int), DpAll K H (ns.map V.int) (ns.map .int)
  | [] => .nil
  | n :: ns => .cons (.int n) (ints_dpAll ns)
theorem dpAll_bools : ∀ {ns : List Bool} {us : List V}, DpAll K H us (ns.map .bool) → us = ns.map V.bl
  | [], _, h => by cases h; rfl
  | _ :: _, _, h => by
    cases h with
    | cons a b => rw [dp_bool a, dpAll_bools b]; rfl
theorem dpAll_strs : ∀ {ns : List Str} {us : List V}, DpAll K H us (ns.map .str) → us = ns.map V.str
  | [], _, h => by cases h; rfl
  | _ :: _, _, h => by
    cases h with
    | cons a b => rw [dp_str a, dpAll_strs b]; rfl
theorem Dok.list {xs : List PyData} {u : V} (h : Dok K H (.l xs) u) : Dok K H (.d (.list xs)) u := by
  obtain ⟨a, us, rfl, h1, h2⟩ := h
  exact .lst (SqL.of h1) h2
theorem newT {p : Addr} {us : List V} {es : List PyData} (hp : H p = none) (h : DpAll K H us es) : Dok K (upd H p (.tup us)) (.d (.tuple es)) (.ref p) :=
  .tup (SqT.of upd_same) (dps_keep (Kp.of_same (sameN hp _)) es us h)
theorem newL {p : Addr} {us : List V} {es : List PyData} (hp : H p = none) (h : DpAll K H us es) : Dok K (upd H p (.lst us)) (.l es) (.ref p) :=
  ⟨p, us, rfl, upd_same, dps_keep (Kp.of_same (sameN hp _)) es us h⟩
end

/-! ### worlds: what is kept (R), what holds (I) -/
structure Wd where
  R : Hp → Hp → Prop
  I : Hp → Prop
  refl : ∀ H, R H H
  trans : ∀ {H1 H2 H3}, R H1 H2 → R H2 H3 → R H1 H3
  same : ∀ {H1 H2}, Same H1 H2 → R H1 H2
  keep : ∀ {H1 H2}, R H1 H2 → Kp H1 H2
  im : ∀ {H1 H2}, R H1 H2 → I H1 → I H2
  mu : ∀ {H1 H2 p o}, R H1 H2 → H1 p = none → R H1 (upd H2 p o)
/-- all stays -/
def W0 : Wd where
  R := Same
  I := fun _ => True
  refl := Same.refl
  trans := Same.trans
  same := id
  keep := Kp.of_same
  im := fun _ _ => trivial
  mu := fun k h b u q => (upd_ne (ne_of_none q h)).trans (k b u q)
/-- one thing more that holds -/
def Wd.also (W : Wd) (J : Hp → Prop) (hJ : ∀ H1 H2, Kp H1 H2 → J H1 → J H2) : Wd where
  R := W.R
  I := fun H => W.I H ∧ J H
  refl := W.refl
  trans := W.trans
  same := W.same
  keep := W.keep
  im := fun r h => ⟨W.im r h.1, hJ _ _ (W.keep r) h.2⟩
  mu := W.mu

/-! ### frames -/
abbrev Fm := List (Option Dv)
structure Sl (K : PySem.W.Frag) (H : Hp) (σ : L2.St) (ds : Fm) : Prop where
  len : σ.length = ds.length
  at_ : ∀ (i : Nat) x, ds[i]? = some (some x) → ∃ u, σ[i]? = some (some u) ∧ Dok K H x u
def wipeD (ds : Fm) : List Nat → Fm
  | [] => ds
  | v :: vs => (wipeD ds vs).set v none
def startD (n : Nat) (xs : List Dv) : Fm := xs.map some ++ List.replicate (n - xs.length) none
section
variable {K : PySem.W.Frag} {H H' : Hp} {σ : L2.St} {ds ds' : Fm}
theorem Sl.keep (k : Kp H H') (s : Sl K H σ ds) : Sl K H' σ ds := ⟨s.len, fun i x e => let ⟨u, a, b⟩ := s.at_ i x e; ⟨u, a, b.keep k⟩⟩
theorem Sl.set (s : Sl K H σ ds) {x : Dv} {u : V} (i : Nat) (h : Dok K H x u) : Sl K H (σ.set i (some u)) (ds.set i (some x)) := by
  refine ⟨by rw [List.length_set, List.length_set, s.len], fun j y e => ?_⟩
  by_cases hj : i = j
  · subst hj
    obtain ⟨hi, e'⟩ := List.getElem?_eq_some_iff.mp e
    rw [List.length_set] at hi
    rw [List.getElem_set_self] at e'
    cases e'
    exact ⟨u, List.getElem?_set_self (by rw [s.len]; exact hi), h⟩
  · rw [List.getElem?_set_ne hj] at e
    obtain ⟨u', a, b⟩ := s.at_ j y e
    exact ⟨u', by rw [List.getElem?_set_ne hj]; exact a, b⟩
theorem Sl.unset (s : Sl K H σ ds) (i : Nat) : Sl K H (σ.set i none) (ds.set i none) := by
  refine ⟨by rw [List.length_set, List.length_set, s.len], fun j y e => ?_⟩
  by_cases hj : i = j
  · subst hj
    obtain ⟨hi, e'⟩ := List.getElem?_eq_some_iff.mp e
    rw [List.getElem_set_self] at e'
    cases e'
  · rw [List.getElem?_set_ne hj] at e
    obtain ⟨u', a, b⟩ := s.at_ j y e
    exact ⟨u', by rw [List.getElem?_set_ne hj]; exact a, b⟩
theorem Sl.forget (s : Sl K H σ ds) (i : Nat) : Sl K H σ (ds.set i none) := by
  refine ⟨by rw [List.length_set, s.len], fun j y e => ?_⟩
  by_cases hj : i = j
  · subst hj
    obtain ⟨hi, e'⟩ := List.getElem?_eq_some_iff.mp e
    rw [List.getElem_set_self] at e'
    cases e'
  · rw [List.getElem?_set_ne hj] at e
    exact s.at_ j y e
theorem Sl.wipe (s : Sl K H σ ds) : ∀ vs : List Nat, Sl K H (L2.wipe σ vs) (wipeD ds vs)
  | [] => s
  | v :: vs => (s.wipe vs).unset v
theorem paired_get {α β : Type} {F : α → β → Prop} : ∀ {a : List α} {x : List β}, Paired F a x → ∀ (i : Nat) e, (a.map some)[i]? = some (some e) → ∃ u, (x.map some)[i]? = some (some u) ∧ F e u
  | _, _, .nil, i, e, h => by simp at h
  | _, _, .cons p _, 0, e, h => by simp at h; subst h; exact ⟨_, rfl, p⟩
  | _, _, .cons _ q, i + 1, e, h => by
    obtain ⟨u, h1, h2⟩ := paired_get q i e (by simpa using h)
    exact ⟨u, by simpa using h1, h2⟩
theorem Sl.start {N : List Str} {xs : List Dv} {us : List V} (h : Doks K H xs us) : Sl K H (L2.start N us) (startD N.length xs) := by
  have hl := h.length
  unfold L2.start startD
  refine ⟨by simp [hl], fun i x e => ?_⟩
  by_cases hi : i < xs.length
  · rw [List.getElem?_append_left (by simpa using hi)] at e
    obtain ⟨u, h1, h2⟩ := paired_get h i x e
    exact ⟨u, by rw [List.getElem?_append_left (by simpa [← hl] using hi)]; exact h1, h2⟩
  · rw [List.getElem?_append_right (by simpa using hi)] at e
    obtain ⟨_, e2⟩ := List.getElem?_eq_some_iff.mp e
    simp at e2
end

/-! ### expressions, tests, arguments, targets, walks, statements -/
section
variable (K : PySem.W.Frag) (W : Wd)
def Yp (te : TE) (ds : Fm) (P : Dv → Prop) : Prop := ∀ σ H, W.I H → Sl K H σ ds → ∀ Q : VK, (∀ u H' x, W.R H H' → Dok K H' x u → P x → Q u H') → te σ H Q
def Tp (tt : TT) (ds : Fm) (P : Bool → Prop) : Prop := ∀ σ H, W.I H → Sl K H σ ds → ∀ Q : Bool → Hp → Prop, (∀ b H', W.R H H' → P b → Q b H') → tt σ H Q
def Ap (ta : TA) (ds : Fm) (P : List Dv → Prop) : Prop := ∀ σ H, W.I H → Sl K H σ ds → ∀ Q : List V → Hp → Prop, (∀ us H' xs, W.R H H' → Doks K H' xs us → P xs → Q us H') → ta σ H Q
def Rp (r : R2) (x y : Dv) (P : Dv → Prop) : Prop := ∀ H u v, W.I H → Dok K H x u → Dok K H y v → ∀ Q : VK, (∀ z H' d, W.R H H' → Dok K H' d z → P d → Q z H') → r u v H Q
def Up (r : V → Hp → VK → Prop) (x : Dv) (P : Dv → Prop) : Prop := ∀ H u, W.I H → Dok K H x u → ∀ Q : VK, (∀ z H' d, W.R H H' → Dok K H' d z → P d → Q z H') → r u H Q
def Cp (r : List V → Hp → VK → Prop) (xs : List Dv) (P : Dv → Prop) : Prop := ∀ H us, W.I H → Doks K H xs us → ∀ Q : VK, (∀ z H' d, W.R H H' → Dok K H' d z → P d → Q z H') → r us H Q
def Sps (sp : Sp) (xs : List Dv) (P : Dv → Prop) : Prop := ∀ H us, W.I H → Doks K H xs us → ∀ (Q : VK) (E : XK), (∀ z H' d, W.R H H' → Dok K H' d z → P d → Q z H') → sp us H Q E
def Gp (g : TG) (x : Dv) (ds : Fm) (N : Fm → Prop) : Prop := ∀ σ H u, W.I H → Sl K H σ ds → Dok K H x u → ∀ Q : L2.St → Hp → Prop, (∀ σ' H' ds', W.R H H' → Sl K H' σ' ds' → N ds' → Q σ' H') → g u σ H Q
def Gps (g : TGs) (xs : List Dv) (ds : Fm) (N : Fm → Prop) : Prop := ∀ σ H us, W.I H → Sl K H σ ds → Doks K H xs us → ∀ Q : L2.St → Hp → Prop, (∀ σ' H' ds', W.R H H' → Sl K H' σ' ds' → N ds' → Q σ' H') → g us σ H Q
structure ItD (J : It) (xs : List Dv) (H0 : Hp) : Prop where
  go : ∀ i H, W.R H0 H → i < xs.length → J.go i H
  stop : ∀ H, W.R H0 H → J.stop xs.length H
  yld : ∀ i H u H', W.R H0 H → i < xs.length → J.yld i H u H' → W.R H H' ∧ ∃ x, xs[i]? = some x ∧ Dok K H' x u
def Ip (wi : TI) (ds : Fm) (A : List Dv → Prop) : Prop := ∀ σ H, W.I H → Sl K H σ ds → ∀ R' : It → Hp → Prop, (∀ J H' xs, W.R H H' → ItD K W J xs H' → A xs → R' J H') → wi σ H R'
def Zp (ts : TS) (ds : Fm) (N : Fm → Prop) (Rt : Dv → Prop) : Prop :=
  ∀ (D : Ends) σ H, W.I H → Sl K H σ ds → (∀ σ' H' ds', W.R H H' → Sl K H' σ' ds' → N ds' → D.nx σ' H') → (∀ u H' x, W.R H H' → Dok K H' x u → Rt x → D.rt u H') → ts D σ H
end

section
variable {K : PySem.W.Frag} {W : Wd} {ds : Fm} {te ta' tb' : TE} {tt tu : TT} {ta : TA} {P A B : Dv → Prop} {r : R2}

/-! ### expressions -/
theorem y_mono (h : Yp K W te ds A) (k : ∀ x, A x → P x) : Yp K W te ds P := fun σ H i s Q q => h σ H i s Q fun u H' x r d p => q u H' x r d (k x p)
theorem y_var {i : Nat} {x : Dv} (h : ds[i]? = some (some x)) (p : P x) : Yp K W (tVar i) ds P := fun σ H _ s Q q => by
  obtain ⟨u, a, b⟩ := s.at_ i x h
  exact ⟨u, a, q u H x (W.refl H) b p⟩
theorem y_int {i : Int} (p : P (.d (.int i))) : Yp K W (tC (.int i)) ds P := fun _ H _ _ _ q => q (.int i) H (.d (.int i)) (W.refl H) (Dp.int i) p
theorem y_str {i : Str} (p : P (.d (.str i))) : Yp K W (tC (.str i)) ds P := fun _ H _ _ _ q => q (.str i) H (.d (.str i)) (W.refl H) (Dp.str i) p
theorem y_bl {i : Bool} (p : P (.d (.bool i))) : Yp K W (tC (.bl i)) ds P := fun _ H _ _ _ q => q (.bl i) H (.d (.bool i)) (W.refl H) (Dp.bl i) p
theorem y_non (p : P (.d .none)) : Yp K W (tC .non) ds P := fun _ H _ _ _ q => q .non H (.d .none) (W.refl H) Dp.non p
theorem y_c {v : V} (p : P (.v v)) : Yp K W (tC v) ds P := fun _ H _ _ _ q => q v H (.v v) (W.refl H) rfl p
theorem y_op (ha : Yp K W ta' ds A) (hb : Yp K W tb' ds B) (hr : ∀ x y, A x → B y → Rp K W r x y P) : Yp K W (tOp r ta' tb') ds P := fun σ H i s Q q =>
  ha σ H i s _ fun u H1 x r1 d1 p1 => hb σ H1 (W.im r1 i) (s.keep (W.keep r1)) _ fun v H2 y r2 d2 p2 =>
    hr x y p1 p2 H2 u v (W.im r2 (W.im r1 i)) (d1.keep (W.keep r2)) d2 Q fun z H3 d r3 d3 p3 => q z H3 d (W.trans r1 (W.trans r2 r3)) d3 p3
theorem y_opE {x y : Dv} (ha : Yp K W ta' ds (· = x)) (hb : Yp K W tb' ds (· = y)) (hr : Rp K W r x y P) : Yp K W (tOp r ta' tb') ds P :=
  y_op ha hb (by rintro _ _ rfl rfl; exact hr)
theorem y_un {r : V → Hp → VK → Prop} (ha : Yp K W ta' ds A) (hr : ∀ x, A x → Up K W r x P) : Yp K W (tUn r ta') ds P := fun σ H i s Q q =>
  ha σ H i s _ fun u H1 x r1 d1 p1 => hr x p1 H1 u (W.im r1 i) d1 Q fun z H3 d r3 d3 p3 => q z H3 d (W.trans r1 r3) d3 p3
theorem y_if {tc : TT} {A : Bool → Prop} (ht : Tp K W tc ds A) (h1 : A true → Yp K W ta' ds P) (h0 : A false → Yp K W tb' ds P) : Yp K W (tIf tc ta' tb') ds P := fun σ H i s Q q =>
  ht σ H i s _ fun b H1 r1 p1 => by
    cases b with
    | true => exact h1 p1 σ H1 (W.im r1 i) (s.keep (W.keep r1)) Q fun u H' x r d p => q u H' x (W.trans r1 r) d p
    | false => exact h0 p1 σ H1 (W.im r1 i) (s.keep (W.keep r1)) Q fun u H' x r d p => q u H' x (W.trans r1 r) d p
theorem y_andV {A : Bool → Prop} (ha : Yp K W ta' ds fun x => ∃ b, x = .d (.bool b) ∧ A b) (h1 : A true → Yp K W tb' ds P) (h0 : A false → P (.d (.bool false))) : Yp K W (tAndV ta' tb') ds P := fun σ H i s Q q =>
  ha σ H i s _ fun u H1 x r1 d1 p1 => by
    obtain ⟨b, rfl, p⟩ := p1
    obtain rfl := dp_bool d1
    refine ⟨b, rfl, ?_⟩
    cases b with
    | true => exact h1 p σ H1 (W.im r1 i) (s.keep (W.keep r1)) Q fun u H' x r d p => q u H' x (W.trans r1 r) d p
    | false => exact q (.bl false) H1 (.d (.bool false)) r1 (Dp.bl false) (h0 p)
theorem y_orV {A : Bool → Prop} (ha : Yp K W ta' ds fun x => ∃ b, x = .d (.bool b) ∧ A b) (h0 : A false → Yp K W tb' ds P) (h1 : A true → P (.d (.bool true))) : Yp K W (tOrV ta' tb') ds P := fun σ H i s Q q =>
  ha σ H i s _ fun u H1 x r1 d1 p1 => by
    obtain ⟨b, rfl, p⟩ := p1
    obtain rfl := dp_bool d1
    refine ⟨b, rfl, ?_⟩
    cases b with
    | false => exact h0 p σ H1 (W.im r1 i) (s.keep (W.keep r1)) Q fun u H' x r d p => q u H' x (W.trans r1 r) d p
    | true => exact q (.bl true) H1 (.d (.bool true)) r1 (Dp.bl true) (h1 p)
theorem y_notV (ha : Yp K W ta' ds fun x => ∃ b, x = .d (.bool b) ∧ P (.d (.bool (!b)))) : Yp K W (tNotV ta') ds P := fun σ H i s Q q =>
  ha σ H i s _ fun u H1 x r1 d1 p1 => by
    obtain ⟨b, rfl, p⟩ := p1
    obtain rfl := dp_bool d1
    exact ⟨b, rfl, q (.bl (!b)) H1 (.d (.bool (!b))) r1 (Dp.bl _) p⟩

/-! ### arguments, displays, calls -/
theorem ap_nil {P : List Dv → Prop} (p : P []) : Ap K W tNil ds P := fun _ H _ _ _ q => q [] H [] (W.refl H) .nil p
theorem ap_cons {P : List Dv → Prop} (h : Yp K W te ds A) (hr : ∀ x, A x → Ap K W ta ds fun xs => P (x :: xs)) : Ap K W (tCons te ta) ds P := fun σ H i s Q q =>
  h σ H i s _ fun u H1 x r1 d1 p1 => hr x p1 σ H1 (W.im r1 i) (s.keep (W.keep r1)) _ fun us H2 xs r2 d2 p2 => q _ H2 _ (W.trans r1 r2) (.cons (d1.keep (W.keep r2)) d2) p2
theorem ap_consE {x : Dv} {P : List Dv → Prop} (h : Yp K W te ds (· = x)) (hr : Ap K W ta ds fun xs => P (x :: xs)) : Ap K W (tCons te ta) ds P := ap_cons h (by rintro _ rfl; exact hr)
theorem sz1000 {n : Nat} (h : n ≤ 1000) : n ≤ sizeLine := Nat.le_trans h (by decide)
theorem y_tup {n : Nat} (h : Ap K W ta ds fun xs => ∃ es : List PyData, xs = es.map .d ∧ es.length = n ∧ P (.d (.tuple es))) (hn : n ≤ 1000 := by decide) : Yp K W (tTup ta) ds P := fun σ H i s Q q =>
  h σ H i s _ fun us H1 xs r1 d1 p1 => by
    obtain ⟨es, rfl, hl, p⟩ := p1
    have hd := dpAll_of d1
    refine ⟨by rw [dpAll_len hd, hl]; exact sz1000 hn, fun a ha => ?_⟩
    exact q _ _ _ (W.trans r1 (W.same (sameN ha _))) (newT ha hd) p
theorem y_lst {n : Nat} (h : Ap K W ta ds fun xs => ∃ es : List PyData, xs = es.map .d ∧ es.length = n ∧ P (.l es)) (hn : n ≤ 1000 := by decide) : Yp K W (tLst ta) ds P := fun σ H i s Q q =>
  h σ H i s _ fun us H1 xs r1 d1 p1 => by
    obtain ⟨es, rfl, hl, p⟩ := p1
    have hd := dpAll_of d1
    refine ⟨by rw [dpAll_len hd, hl]; exact sz1000 hn, fun a ha => ?_⟩
    exact q _ _ _ (W.trans r1 (W.same (sameN ha _))) (newL ha hd) p
theorem y_cb {r : List V → Hp → VK → Prop} {A : List Dv → Prop} (h : Ap K W ta ds A) (hr : ∀ xs, A xs → Cp K W r xs P) : Yp K W (tCB r ta) ds P := fun σ H i s Q q =>
  h σ H i s _ fun us H1 xs r1 d1 p1 => hr xs p1 H1 us (W.im r1 i) d1 Q fun z H' d r2 d2 p2 => q z H' d (W.trans r1 r2) d2 p2
theorem y_call {sp : Sp} {E : XK} {A : List Dv → Prop} (h : Ap K W ta ds A) (hs : ∀ xs, A xs → Sps K W sp xs P) : Yp K W (tCall sp [] E ta) ds P := fun σ H i s Q q =>
  h σ H i s _ fun us H1 xs r1 d1 p1 => by
    show sp (us ++ []) H1 Q E
    rw [List.append_nil]
    exact hs xs p1 H1 us (W.im r1 i) d1 Q E fun z H' d r2 d2 p2 => q z H' d (W.trans r1 r2) d2 p2
/-! ### tests -/
theorem t_mono {A P : Bool → Prop} (h : Tp K W tt ds A) (k : ∀ b, A b → P b) : Tp K W tt ds P := fun σ H i s Q q => h σ H i s Q fun b H' r p => q b H' r (k b p)
theorem t_test {P : Bool → Prop} (h : Yp K W te ds fun x => ∃ b, x = .d (.bool b) ∧ P b) : Tp K W (tTest te) ds P := fun σ H i s Q q =>
  h σ H i s _ fun u H1 x r1 d1 p1 => by
    obtain ⟨b, rfl, p⟩ := p1
    exact ⟨b, dp_bool d1, q b H1 r1 p⟩
theorem t_B {P : Bool → Prop} (h : Yp K W te ds fun x => ∃ b, x = .d (.bool b) ∧ P b) : Tp K W (tB te) ds P := fun σ H i s Q q =>
  h σ H i s _ fun u H1 x r1 d1 p1 => by
    obtain ⟨b, rfl, p⟩ := p1
    exact ⟨b, dp_bool d1, q b H1 r1 p⟩
theorem t_and {A P : Bool → Prop} (h : Tp K W tt ds A) (h1 : A true → Tp K W tu ds P) (h0 : A false → P false) : Tp K W (tAnd tt tu) ds P := fun σ H i s Q q =>
  h σ H i s _ fun b H1 r1 p1 => by
    cases b with
    | true => exact h1 p1 σ H1 (W.im r1 i) (s.keep (W.keep r1)) Q fun b H' r p => q b H' (W.trans r1 r) p
    | false => exact q false H1 r1 (h0 p1)
theorem t_or {A P : Bool → Prop} (h : Tp K W tt ds A) (h0 : A false → Tp K W tu ds P) (h1 : A true → P true) : Tp K W (tOr tt tu) ds P := fun σ H i s Q q =>
  h σ H i s _ fun b H1 r1 p1 => by
    cases b with
    | false => exact h0 p1 σ H1 (W.im r1 i) (s.keep (W.keep r1)) Q fun b H' r p => q b H' (W.trans r1 r) p
    | true => exact q true H1 r1 (h1 p1)
theorem t_not {P : Bool → Prop} (h : Tp K W tt ds fun b => P (!b)) : Tp K W (tNot tt) ds P := fun σ H i s Q q => h σ H i s _ fun b H1 r1 p1 => q (!b) H1 r1 p1
theorem t_yes {P : Bool → Prop} (p : P true) : Tp K W tYes ds P := fun _ H _ _ _ q => q true H (W.refl H) p

/-! ### targets -/
variable {N : Fm → Prop} {g : TG}
theorem gp_name {i : Nat} {x : Dv} (n : N (ds.set i (some x))) : Gp K W (gName i) x ds N := fun _ H _ _ s d _ q => q _ H _ (W.refl H) (s.set i d) n
theorem gps_nil (n : N ds) : Gps K W gNil [] ds N := fun σ H us _ s d Q q => by
  cases d
  exact ⟨rfl, q σ H ds (W.refl H) s n⟩
theorem gps_cons {g : TG} {gs : TGs} {x : Dv} {xs : List Dv} (h : Gp K W g x ds fun d2 => Gps K W gs xs d2 N) : Gps K W (gCons g gs) (x :: xs) ds N := fun σ H us i s d Q q => by
  cases d with
  | cons a b =>
    refine ⟨_, _, rfl, h σ H _ i s a _ fun σ' H' ds' r s' n => ?_⟩
    exact n σ' H' _ (W.im r i) s' (Doks.keep (W.keep r) b) Q fun σ2 H2 d2 r2 s2 n2 => q σ2 H2 d2 (W.trans r r2) s2 n2
theorem gp_tup {gs : TGs} {es : List PyData} {n : Nat} (hn : es.length = n) (h : Gps K W gs (es.map .d) ds N) : Gp K W (gTup K n gs) (.d (.tuple es)) ds N := fun σ H u i s d Q q => by
  obtain ⟨a, us, rfl, h1, h2⟩ := dp_tup d
  exact ⟨a, us, rfl, h1, by rw [dpAll_len h2, hn], h σ H us i s (doks_of h2) Q q⟩

/-! ### statements -/
variable {ts t1 t2 : TS} {M : Fm → Prop} {Rt : Dv → Prop}
theorem z_mono {N' : Fm → Prop} {Rt' : Dv → Prop} (h : Zp K W ts ds N' Rt') (k : ∀ d, N' d → N d) (k2 : ∀ x, Rt' x → Rt x) : Zp K W ts ds N Rt := fun D σ H i s a b =>
  h D σ H i s (fun σ' H' d r s' n => a σ' H' d r s' (k d n)) fun u H' x r d p => b u H' x r d (k2 x p)
theorem z_seq (h : Zp K W t1 ds M Rt) (h2 : ∀ d, M d → Zp K W t2 d N Rt) : Zp K W (tSeq t1 t2) ds N Rt := fun D σ H i s a b =>
  h _ σ H i s (fun σ' H' d r s' m => h2 d m D σ' H' (W.im r i) s' (fun σ2 H2 d2 r2 s2 n => a σ2 H2 d2 (W.trans r r2) s2 n) fun u H2 x r2 d2 p => b u H2 x (W.trans r r2) d2 p) b
theorem z_next (n : N ds) : Zp K W tNext ds N Rt := fun _ σ H _ s a _ => a σ H ds (W.refl H) s n
theorem z_asg (h : Yp K W te ds A) (hg : ∀ x, A x → Gp K W g x ds N) : Zp K W (tAsg te g) ds N Rt := fun D σ H i s a _ =>
  h σ H i s _ fun u H1 x r1 d1 p1 => hg x p1 σ H1 u (W.im r1 i) (s.keep (W.keep r1)) d1 _ fun σ' H' ds' r s' n => a σ' H' ds' (W.trans r1 r) s' n
theorem z_set {i : Nat} (h : Yp K W te ds fun x => N (ds.set i (some x))) : Zp K W (tAsg te (gName i)) ds N Rt := z_asg h fun _ n => gp_name n
theorem z_ret (h : Yp K W te ds Rt) : Zp K W (tRet te) ds N Rt := fun D σ H i s _ b => h σ H i s _ b
theorem z_drop (h : Yp K W te ds A) (n : N ds) : Zp K W (tDrop te) ds N Rt := fun D σ H i s a _ => h σ H i s _ fun _ H1 _ r1 _ _ => a σ H1 ds r1 (s.keep (W.keep r1)) n
theorem z_if {A : Bool → Prop} (ht : Tp K W tt ds A) (h1 : A true → Zp K W t1 ds N Rt) (h0 : A false → Zp K W t2 ds N Rt) : Zp K W (tIfS tt t1 t2) ds N Rt := fun D σ H i s a b =>
  ht σ H i s _ fun c H1 r1 p1 => by
    cases c with
    | true => exact h1 p1 D σ H1 (W.im r1 i) (s.keep (W.keep r1)) (fun σ2 H2 d2 r2 s2 n => a σ2 H2 d2 (W.trans r1 r2) s2 n) fun u H2 x r2 d2 p => b u H2 x (W.trans r1 r2) d2 p
    | false => exact h0 p1 D σ H1 (W.im r1 i) (s.keep (W.keep r1)) (fun σ2 H2 d2 r2 s2 n => a σ2 H2 d2 (W.trans r1 r2) s2 n) fun u H2 x r2 d2 p => b u H2 x (W.trans r1 r2) d2 p
/-- a test that is false: what stands behind it is not come to -/
theorem z_ifF {A : Bool → Prop} (ht : Tp K W tt ds A) (hA : ∀ b, A b → b = false) (n : N ds) : Zp K W (tIfS tt t1 tNext) ds N Rt :=
  z_if ht (fun h => nomatch hA true h) fun _ => z_next n
theorem z_for {wi : TI} {A : List Dv → Prop} (Jv : List Dv → Nat → Fm → Prop) (hi : Ip K W wi ds A) (h0 : ∀ xs, A xs → Jv xs 0 ds)
    (hs : ∀ xs, A xs → ∀ i x d, xs[i]? = some x → Jv xs i d → Gp K W g x d fun d2 => Zp K W ts d2 (Jv xs (i + 1)) Rt) (hd : ∀ xs d, A xs → Jv xs xs.length d → N d) : Zp K W (tFor wi g ts) ds N Rt := fun D σ H i s a b =>
  hi σ H i s _ fun J H0 xs r0 it ha => by
    refine ⟨fun j m σ' H' => m = xs.length - j ∧ j ≤ xs.length ∧ W.R H0 H' ∧ ∃ d, Sl K H' σ' d ∧ Jv xs j d, ⟨xs.length, by simp, Nat.zero_le _, W.refl _, ds, s.keep (W.keep r0), h0 xs ha⟩, ?_⟩
    rintro j m σ' H' ⟨rfl, hj, r1, d, s1, jv⟩
    by_cases hlt : j < xs.length
    · refine .inr ⟨it.go j H' r1 hlt, fun σ2 H2 => W.R H0 H2 ∧ ∃ d, Sl K H2 σ2 d ∧ Jv xs (j + 1) d, fun σ2 H2 w => ⟨xs.length - (j + 1), by omega, rfl, hlt, w⟩, fun u H2 y => ?_⟩
      obtain ⟨r2, x, hx, dx⟩ := it.yld j H' u H2 r1 hlt y
      refine hs xs ha j x d hx jv σ' H2 u (W.im (W.trans r0 (W.trans r1 r2)) i) (s1.keep (W.keep r2)) dx _ fun σ3 H3 d3 r3 s3 z => ?_
      refine z _ σ3 H3 (W.im (W.trans r0 (W.trans r1 (W.trans r2 r3))) i) s3 (fun σ4 H4 d4 r4 s4 n => ?_) fun v H4 x4 r4 d4 p => ?_
      · exact ⟨W.trans r1 (W.trans r2 (W.trans r3 r4)), d4, s4, n⟩
      · exact b v H4 x4 (W.trans r0 (W.trans r1 (W.trans r2 (W.trans r3 r4)))) d4 p
    · have e : j = xs.length := by omega
      subst e
      exact .inl ⟨it.stop H' r1, a σ' H' d (W.trans r0 r1) s1 (hd xs d ha jv)⟩
theorem z_while (Jv : Nat → Fm → Prop) {m : Nat} (h0 : Jv m ds) {tc : TT} (hs : ∀ m d, Jv m d → Tp K W tc d fun b => if b = true then Zp K W ts d (fun d2 => ∃ m', m' < m ∧ Jv m' d2) Rt else N d) : Zp K W (tWhile tc ts) ds N Rt := fun D σ H i s a b => by
  refine ⟨fun m σ' H' => W.R H H' ∧ ∃ d, Sl K H' σ' d ∧ Jv m d, ⟨m, W.refl _, ds, s, h0⟩, ?_⟩
  rintro m σ' H' ⟨r1, d, s1, jv⟩
  refine hs m d jv σ' H' (W.im r1 i) s1 _ fun c H2 r2 p => ?_
  cases c with
  | true =>
    rw [if_pos rfl] at p ⊢
    refine ⟨fun σ2 H2 => ∃ m', m' < m ∧ W.R H H2 ∧ ∃ d, Sl K H2 σ2 d ∧ Jv m' d, fun σ2 H2 w => w, ?_⟩
    refine p _ σ' H2 (W.im (W.trans r1 r2) i) (s1.keep (W.keep r2)) (fun σ4 H4 d4 r4 s4 n => ?_) fun v H4 x4 r4 d4 p => ?_
    · obtain ⟨m', hm, j⟩ := n
      exact ⟨m', hm, W.trans r1 (W.trans r2 r4), d4, s4, j⟩
    · exact b v H4 x4 (W.trans r1 (W.trans r2 r4)) d4 p
  | false =>
    rw [if_neg Bool.false_ne_true] at p ⊢
    exact a σ' H2 d (W.trans r1 r2) (s1.keep (W.keep r2)) p

/-! ### walks -/
theorem ip_list {A : List Dv → Prop} (h : Yp K W te ds fun x => ∃ es, (x = .d (.list es) ∨ x = .l es) ∧ A (es.map .d)) : Ip K W (iList K te) ds A := fun σ H i s R' q =>
  h σ H i s _ fun u H1 x r1 d1 p1 => by
    obtain ⟨es, hx, p⟩ := p1
    have d2 : Dok K H1 (.d (.list es)) u := by
      rcases hx with rfl | rfl
      · exact d1
      · exact d1.list
    obtain ⟨a, us, rfl, h1, h2⟩ := dp_lst d2
    refine ⟨a, rfl, ⟨us, h1⟩, q (Itl K a) H1 _ r1 ⟨fun j H2 r2 hj => ?_, fun H2 r2 => ?_, fun j H2 u H3 r2 hj y => ?_⟩ p⟩
    · rw [List.length_map, ← dpAll_len h2] at hj
      exact ⟨us, us[j], (W.keep r2).sqL h1, List.getElem?_eq_getElem hj⟩
    · exact ⟨us, (W.keep r2).sqL h1, by rw [List.length_map, ← dpAll_len h2]; exact Nat.le_refl _⟩
    · obtain ⟨rfl, hy⟩ := y
      obtain ⟨e, q1, q2⟩ := paired_at (doks_of h2) (hy us ((W.keep r2).sqL h1))
      exact ⟨W.refl _, e, q1, q2.keep (W.keep r2)⟩
theorem ip_tup {A : List Dv → Prop} (h : Yp K W te ds fun x => ∃ es, x = .d (.tuple es) ∧ A (es.map .d)) : Ip K W (iTup K te) ds A := fun σ H i s R' q =>
  h σ H i s _ fun u H1 x r1 d1 p1 => by
    obtain ⟨es, rfl, p⟩ := p1
    obtain ⟨a, us, rfl, h1, h2⟩ := dp_tup d1
    refine ⟨a, rfl, ⟨us, h1⟩, q (Itt K a) H1 _ r1 ⟨fun j H2 r2 hj => ?_, fun H2 r2 => ?_, fun j H2 u H3 r2 hj y => ?_⟩ p⟩
    · rw [List.length_map, ← dpAll_len h2] at hj
      exact ⟨us, us[j], (W.keep r2).sqT h1, List.getElem?_eq_getElem hj⟩
    · exact ⟨us, (W.keep r2).sqT h1, by rw [List.length_map, ← dpAll_len h2]; exact Nat.le_refl _⟩
    · obtain ⟨rfl, hy⟩ := y
      obtain ⟨e, q1, q2⟩ := paired_at (doks_of h2) (hy us ((W.keep r2).sqT h1))
      exact ⟨W.refl _, e, q1, q2.keep (W.keep r2)⟩
/-- a list of our own -/
theorem ip_dl {A : List Dv → Prop} (h : Yp K W te ds fun x => ∃ es, x = dLs K es ∧ A es) : Ip K W (iList K te) ds A := fun σ H i s R' q =>
  h σ H i s _ fun u H1 x r1 d1 p1 => by
    obtain ⟨es, rfl, p⟩ := p1
    obtain ⟨a, us, rfl, h0, h2⟩ := d1
    have h1 : SqL K H1 a us := SqL.of h0
    refine ⟨a, rfl, ⟨us, h1⟩, q (Itl K a) H1 es r1 ⟨fun j H2 r2 hj => ?_, fun H2 r2 => ?_, fun j H2 u H3 r2 hj y => ?_⟩ p⟩
    · rw [h2.length] at hj
      exact ⟨us, us[j], (W.keep r2).sqL h1, List.getElem?_eq_getElem hj⟩
    · exact ⟨us, (W.keep r2).sqL h1, by rw [h2.length]; exact Nat.le_refl _⟩
    · obtain ⟨rfl, hy⟩ := y
      obtain ⟨e, q1, q2⟩ := paired_at h2 (hy us ((W.keep r2).sqL h1))
      exact ⟨W.refl _, e, q1, q2.keep (W.keep r2)⟩
/-- the ints below n -/
abbrev rng (n : Nat) : List Dv := (List.range n).map fun (i : Nat) => .d (.int (i : Int))
theorem rng_len (n : Nat) : (rng n).length = n := by simp [rng]
theorem rng_at {n i : Nat} (h : i < n) : (rng n)[i]? = some (.d (.int (i : Int))) := by simp [rng, h]
theorem rng_of {n i : Nat} {x : Dv} (h : (rng n)[i]? = some x) : x = .d (.int (i : Int)) ∧ i < n := by
  have hi : i < n := by
    have q := (List.getElem?_eq_some_iff.mp h).1
    rwa [rng_len] at q
  rw [rng_at hi] at h
  exact ⟨(Option.some.inj h).symm, hi⟩
theorem ip_range {A : List Dv → Prop} (h : Ap K W ta ds fun xs => ∃ n : Nat, xs = [.d (.int (n : Int))] ∧ n ≤ 1000 ∧ A (rng n)) : Ip K W (iRng1 ta) ds A := fun σ H i s R' q =>
  h σ H i s _ fun us H1 xs r1 d1 p1 => by
    obtain ⟨n, rfl, hn, p⟩ := p1
    cases d1 with
    | cons a b =>
      cases b
      obtain rfl := dp_int a
      have hz : (n : Int).toNat = n := by omega
      refine ⟨(n : Int), rfl, by omega, by omega, ?_⟩
      rw [hz]
      refine q (Itr 0 n) H1 (rng n) r1 ⟨fun j H2 r2 hj => by rw [rng_len] at hj; exact hj, fun H2 r2 => by rw [rng_len]; exact Nat.le_refl n, fun j H2 u H3 r2 hj y => ?_⟩ p
      rw [rng_len] at hj
      obtain ⟨rfl, rfl⟩ := y
      refine ⟨W.refl _, _, rng_at hj, ?_⟩
      rw [Int.zero_add]
      exact .int _

/-! ### a list comprehension over one name -/
theorem y_lc {wi : TI} {i : Nat} {A : List Dv → Prop} (Jv : List Dv → Nat → List Dv → Prop) (hi : Ip K W wi ds A) (h0 : ∀ xs, A xs → Jv xs 0 [])
    (hs : ∀ xs, A xs → ∀ j x acc, xs[j]? = some x → acc.length ≤ j → Jv xs j acc → Tp K W tt ((ds.set i none).set i (some x)) fun b =>
      if b = true then Yp K W te ((ds.set i none).set i (some x)) fun y => Fl y ∧ Jv xs (j + 1) (acc ++ [y]) else Jv xs (j + 1) acc)
    (hz : ∀ xs, A xs → xs.length ≤ 1000) (hd : ∀ xs acc, A xs → Jv xs xs.length acc → ∃ z, P z ∧ ∀ H a us, H a = some (.lst us) → Doks K H acc us → Dok K H z (.ref a)) : Yp K W (tLc wi (gName i) tt te [i]) ds P := fun σ H ii s Q q =>
  hi σ H ii s _ fun J H0 xs r0 it ha D hD => by
    have hlen := hz xs ha
    refine ⟨fun j m H' => m = xs.length - j ∧ j ≤ xs.length ∧ W.R H0 H' ∧ ∃ acc us, H' D = some (.lst us) ∧ Doks K H' acc us ∧ (∀ y ∈ acc, Fl y) ∧ acc.length ≤ j ∧ Jv xs j acc, ⟨xs.length, by simp, Nat.zero_le _, W.same (sameN hD _), [], [], upd_same, .nil, fun _ q => (by simp at q), Nat.le_refl _, h0 xs ha⟩, ?_⟩
    rintro j m H' ⟨rfl, hj, r1, acc, us, hD1, ok, hf, hl, jv⟩
    by_cases hlt : j < xs.length
    · refine .inr ⟨it.go j H' r1 hlt, fun H2 => W.R H0 H2 ∧ ∃ acc us, H2 D = some (.lst us) ∧ Doks K H2 acc us ∧ (∀ y ∈ acc, Fl y) ∧ acc.length ≤ j + 1 ∧ Jv xs (j + 1) acc, fun H2 w => ⟨xs.length - (j + 1), by omega, rfl, hlt, w⟩, fun u H2 y => ?_⟩
      obtain ⟨r2, x, hx, dx⟩ := it.yld j H' u H2 r1 hlt y
      have s2 : Sl K H2 σ ds := s.keep (W.keep (W.trans r0 (W.trans r1 r2)))
      have s3 : Sl K H2 ((L2.wipe σ [i]).set i (some u)) ((ds.set i none).set i (some x)) := (s2.unset i).set i dx
      show L2.wipe ((L2.wipe σ [i]).set i (some u)) [i] = L2.wipe σ [i] ∧ _
      refine ⟨by show (((σ.set i none).set i (some u)).set i none) = σ.set i none; rw [List.set_set, List.set_set], ?_⟩
      refine hs xs ha j x acc hx hl jv _ H2 (W.im (W.trans r0 (W.trans r1 r2)) ii) s3 _ fun b H3 r3 p3 => ?_
      have r13 : W.R H0 H3 := W.trans r1 (W.trans r2 r3)
      have k13 := W.keep (W.trans r2 r3)
      cases b with
      | true =>
        rw [if_pos rfl] at p3 ⊢
        refine p3 _ H3 (W.im (W.trans r0 r13) ii) (s3.keep (W.keep r3)) _ fun v H4 y r4 d4 p4 => ?_
        have k4 := W.keep r4
        have hD4 : H4 D = some (.lst us) := (k13.trans k4) D _ (fun _ q => nomatch q) hD1
        have ok4 : Doks K H4 acc us := Doks.keep (k13.trans k4) ok
        have hlu : us.length = acc.length := ok4.length.symm
        refine ⟨us, hD4, by rw [hlu]; exact Nat.lt_of_le_of_lt (Nat.le_trans hl (Nat.le_trans hj hlen)) (by decide), W.mu (W.trans r13 r4) hD, acc ++ [y], us ++ [v], upd_same, ?_, fun z hz => ?_, by rw [List.length_append, List.length_singleton]; omega, p4.2⟩
        · exact paired_app (doks_fl hD4 hf ok4) (.cons (d4.fl hD4 p4.1) .nil)
        · rcases List.mem_append.mp hz with q | q
          · exact hf z q
          · rw [List.mem_singleton.mp q]
            exact p4.1
      | false =>
        rw [if_neg Bool.false_ne_true] at p3 ⊢
        exact ⟨r13, acc, us, k13 D _ (fun _ q => nomatch q) hD1, Doks.keep k13 ok, hf, Nat.le_succ_of_le hl, p3⟩
    · have e : j = xs.length := by omega
      subst e
      obtain ⟨z, pz, hk⟩ := hd xs acc ha jv
      exact .inl ⟨it.stop H' r1, q _ _ z (W.trans r0 r1) (hk H' D us hD1 ok) pz⟩
end
end Sr

/-! The operators and built-ins by data. -/
namespace Sr
open PySem L2
section
variable {K : PySem.W.Frag} {W : Wd} {ds : Fm} {P : Dv → Prop}

/-! ### whole numbers -/
theorem rp_int {f : Int → Int → Int} {a b : Int} (p : P (.d (.int (f a b)))) : Rp K W (rI0 fun i j => .int (f i j)) (.d (.int a)) (.d (.int b)) P := fun H u v _ hu hv Q q => by
  obtain rfl := dp_int hu
  obtain rfl := dp_int hv
  exact ⟨a, b, rfl, rfl, q (.int (f a b)) H (.d (.int (f a b))) (W.refl H) (Dp.int _) p⟩
theorem rp_intC {C : Int → Int → Prop} {f : Int → Int → Int} {a b : Int} (c : C a b) (p : P (.d (.int (f a b)))) : Rp K W (rI C fun i j => .int (f i j)) (.d (.int a)) (.d (.int b)) P := fun H u v _ hu hv Q q => by
  obtain rfl := dp_int hu
  obtain rfl := dp_int hv
  exact ⟨a, b, rfl, rfl, c, q (.int (f a b)) H (.d (.int (f a b))) (W.refl H) (Dp.int _) p⟩
theorem rp_cmp {f : Int → Int → Bool} {a b : Int} (p : P (.d (.bool (f a b)))) : Rp K W (rI0 fun i j => .bl (f i j)) (.d (.int a)) (.d (.int b)) P := fun H u v _ hu hv Q q => by
  obtain rfl := dp_int hu
  obtain rfl := dp_int hv
  exact ⟨a, b, rfl, rfl, q (.bl (f a b)) H (.d (.bool (f a b))) (W.refl H) (Dp.bl _) p⟩
theorem up_int {f : Int → Int} {a : Int} (p : P (.d (.int (f a)))) : Up K W (rU fun i => .int (f i)) (.d (.int a)) P := fun H u _ hu Q q => by
  obtain rfl := dp_int hu
  exact ⟨a, rfl, q (.int (f a)) H (.d (.int (f a))) (W.refl H) (Dp.int _) p⟩

/-! ### == and != -/
theorem rp_eqS {a b : Str} (p : P (.d (.bool (decide (a = b))))) : Rp K W rEq (.d (.str a)) (.d (.str b)) P := fun H u v _ hu hv Q q => by
  obtain rfl := dp_str hu
  obtain rfl := dp_str hv
  have e : decide (V.str a = V.str b) = decide (a = b) := by
    by_cases h : a = b
    · subst h; simp
    · rw [decide_eq_false h]; exact decide_eq_false fun q => h (V.str.inj q)
  refine ⟨rfl, ?_⟩
  rw [e]
  exact q (.bl _) H (.d (.bool _)) (W.refl H) (Dp.bl _) p
theorem rp_neS {a b : Str} (p : P (.d (.bool (!decide (a = b))))) : Rp K W rNe (.d (.str a)) (.d (.str b)) P := fun H u v _ hu hv Q q => by
  obtain rfl := dp_str hu
  obtain rfl := dp_str hv
  have e : decide (V.str a = V.str b) = decide (a = b) := by
    by_cases h : a = b
    · subst h; simp
    · rw [decide_eq_false h]; exact decide_eq_false fun q => h (V.str.inj q)
  refine ⟨rfl, ?_⟩
  rw [e]
  exact q (.bl _) H (.d (.bool _)) (W.refl H) (Dp.bl _) p
theorem rp_eqI {a b : Int} (p : P (.d (.bool (decide (a = b))))) : Rp K W rEq (.d (.int a)) (.d (.int b)) P := fun H u v _ hu hv Q q => by
  obtain rfl := dp_int hu
  obtain rfl := dp_int hv
  have e : decide (V.int a = V.int b) = decide (a = b) := by
    by_cases h : a = b
    · subst h; simp
    · rw [decide_eq_false h]; exact decide_eq_false fun q => h (V.int.inj q)
  refine ⟨rfl, ?_⟩
  rw [e]
  exact q (.bl _) H (.d (.bool _)) (W.refl H) (Dp.bl _) p
theorem rp_neI {a b : Int} (p : P (.d (.bool (!decide (a = b))))) : Rp K W rNe (.d (.int a)) (.d (.int b)) P := fun H u v _ hu hv Q q => by
  obtain rfl := dp_int hu
  obtain rfl := dp_int hv
  have e : decide (V.int a = V.int b) = decide (a = b) := by
    by_cases h : a = b
    · subst h; simp
    · rw [decide_eq_false h]; exact decide_eq_false fun q => h (V.int.inj q)
  refine ⟨rfl, ?_⟩
  rw [e]
  exact q (.bl _) H (.d (.bool _)) (W.refl H) (Dp.bl _) p
/-- as data -/
def asD : Dv → Option PyData
  | .d x => some x
  | .l xs => some (.list xs)
  | _ => none
theorem asD_ok {H : Hp} : ∀ {x : Dv} {d : PyData} {u : V}, asD x = some d → Dok K H x u → Dp K H u d
  | .d x, d, u, e, h => by cases e; exact h
  | .l xs, d, u, e, h => by cases e; exact h.list
  | .v _, _, _, e, _ => by cases e
  | .s _ _, _, _, e, _ => by cases e
theorem rp_eqD {x y : Dv} {a b : PyData} (hx : asD x = some a) (hy : asD y = some b) (s1 : SeqAt.shaped a = true) (s2 : SeqAt.shaped b = true) (p : P (.d (.bool (PyData.eqv a b)))) : Rp K W (rEqD K) x y P := fun H u v _ hu hv Q q =>
  ⟨a, b, asD_ok hx hu, asD_ok hy hv, s1, s2, q (.bl _) H (.d (.bool _)) (W.refl H) (Dp.bl _) p⟩
theorem rp_neD {x y : Dv} {a b : PyData} (hx : asD x = some a) (hy : asD y = some b) (s1 : SeqAt.shaped a = true) (s2 : SeqAt.shaped b = true) (p : P (.d (.bool (!PyData.eqv a b)))) : Rp K W (rNeD K) x y P := fun H u v _ hu hv Q q =>
  ⟨a, b, asD_ok hx hu, asD_ok hy hv, s1, s2, q (.bl _) H (.d (.bool _)) (W.refl H) (Dp.bl _) p⟩
def isNo : PyData → Bool
  | .none => true
  | _ => false
theorem rp_isN {x : PyData} (p : P (.d (.bool (isNo x)))) : Rp K W (fun x y H Q => y = .non ∧ Q (.bl (decide (x = .non))) H) (.d x) (.d .none) P := fun H u v _ hu hv Q q => by
  refine ⟨dp_none hv, ?_⟩
  have e : decide (u = .non) = isNo x := by
    have hu' : Dp K H u x := hu
    cases hu' <;> simp [isNo]
  rw [e]
  exact q (.bl _) H (.d (.bool _)) (W.refl H) (Dp.bl _) p
theorem rp_notN {x : PyData} (p : P (.d (.bool (!isNo x)))) : Rp K W (fun x y H Q => y = .non ∧ Q (.bl (!decide (x = .non))) H) (.d x) (.d .none) P := fun H u v _ hu hv Q q => by
  refine ⟨dp_none hv, ?_⟩
  have e : (!decide (u = .non)) = !isNo x := by
    have hu' : Dp K H u x := hu
    cases hu' <;> simp [isNo]
  rw [e]
  exact q (.bl _) H (.d (.bool _)) (W.refl H) (Dp.bl _) p
/-- an item deep in a list -/
theorem rp_notInD {x y : Dv} {d : PyData} {es : List PyData} (hx : asD x = some d) (hy : asD y = some (.list es)) (s1 : SeqAt.shaped d = true) (s2 : SeqAt.shaped (.list es) = true) (p : P (.d (.bool (!es.any fun z => PyData.eqv z d)))) : Rp K W (rNotInD K) x y P := fun H u v _ hu hv Q q =>
  ⟨d, es, asD_ok hx hu, asD_ok hy hv, s1, s2, q (.bl _) H (.d (.bool _)) (W.refl H) (Dp.bl _) p⟩

/-! ### in, not in: numbers, texts -/
theorem inV_ints (a : Int) : ∀ ns : List Int, inV (.int a) (ns.map V.int) = decide (a ∈ ns)
  | [] => by simp [inV]
  | n :: ns => by
    have ih := inV_ints a ns
    unfold inV at ih ⊢
    rw [List.map_cons, List.any_cons, ih]
    show ((n == a) || _) = _
    by_cases h : a = n
    · subst h; simp
    · have h' : (n == a) = false := beq_eq_false_iff_ne.mpr fun q => h q.symm
      simp [h, h']
theorem inV_strs (a : Str) : ∀ ns : List Str, inV (.str a) (ns.map V.str) = decide (a ∈ ns)
  | [] => by simp [inV]
  | n :: ns => by
    have ih := inV_strs a ns
    unfold inV at ih ⊢
    rw [List.map_cons, List.any_cons, ih]
    show ((n == a) || _) = _
    by_cases h : a = n
    · subst h; simp
    · have h' : (n == a) = false := beq_eq_false_iff_ne.mpr fun q => h q.symm
      simp [h, h']
/-- a tuple or a list of these -/
def seqD : Dv → Option (List PyData)
  | .d (.tuple xs) => some xs
  | .d (.list xs) => some xs
  | .l xs => some xs
  | _ => none
theorem seqD_ok {H : Hp} {x : Dv} {es : List PyData} {u : V} (e : seqD x = some es) (h : Dok K H x u) : ∃ a us, u = .ref a ∧ (SqL K H a us ∨ SqT K H a us) ∧ DpAll K H us es := by
  cases x with
  | d x =>
    cases x with
    | tuple xs =>
      cases e
      obtain ⟨a, us, h1, h2, h3⟩ := dp_tup h
      exact ⟨a, us, h1, .inr h2, h3⟩
    | list xs =>
      cases e
      obtain ⟨a, us, h1, h2, h3⟩ := dp_lst h
      exact ⟨a, us, h1, .inl h2, h3⟩
    | _ => cases e
  | l xs =>
    cases e
    obtain ⟨a, us, h1, h2, h3⟩ := h
    exact ⟨a, us, h1, .inl (SqL.of h2), h3⟩
  | v _ => cases e
  | s _ _ => cases e
theorem flat_ints (ns : List Int) : (ns.map V.int).all flatV = true := by simp [flatV]
theorem flat_strs (ns : List Str) : (ns.map V.str).all flatV = true := by simp [flatV]
theorem rp_inI {neg : Bool} {a : Int} {y : Dv} {ns : List Int} (hy : seqD y = some (ns.map .int)) (p : P (.d (.bool (if neg then !decide (a ∈ ns) else decide (a ∈ ns))))) : Rp K W (rIn K neg) (.d (.int a)) y P := fun H u v _ hu hv Q q => by
  obtain rfl := dp_int hu
  obtain ⟨b, us, rfl, h1, h2⟩ := seqD_ok hy hv
  obtain rfl := dpAll_ints h2
  refine ⟨b, _, rfl, h1, rfl, flat_ints ns, ?_⟩
  rw [inV_ints]
  exact q (.bl _) H (.d (.bool _)) (W.refl H) (Dp.bl _) p
theorem rp_inS {neg : Bool} {a : Str} {y : Dv} {ns : List Str} (hy : seqD y = some (ns.map .str)) (p : P (.d (.bool (if neg then !decide (a ∈ ns) else decide (a ∈ ns))))) : Rp K W (rIn K neg) (.d (.str a)) y P := fun H u v _ hu hv Q q => by
  obtain rfl := dp_str hu
  obtain ⟨b, us, rfl, h1, h2⟩ := seqD_ok hy hv
  obtain rfl := dpAll_strs h2
  refine ⟨b, _, rfl, h1, rfl, flat_strs ns, ?_⟩
  rw [inV_strs]
  exact q (.bl _) H (.d (.bool _)) (W.refl H) (Dp.bl _) p

/-! ### items, slices, sums of sequences -/
theorem rp_ixT {es : List PyData} {i : Int} {e : PyData} (h : atI es i = some e) (p : P (.d e)) : Rp K W (rIxT K) (.d (.tuple es)) (.d (.int i)) P := fun H u v _ hu hv Q q => by
  obtain ⟨a, us, rfl, h1, h2⟩ := dp_tup hu
  obtain rfl := dp_int hv
  obtain ⟨w, h3, h4⟩ := dpAll_atI h2 h
  exact ⟨a, us, i, w, rfl, rfl, h1, h3, q w H (.d e) (W.refl H) h4 p⟩
theorem rp_ixL {y : Dv} {es : List PyData} {i : Int} {e : PyData} (hy : asD y = some (.list es)) (h : atI es i = some e) (p : P (.d e)) : Rp K W (rIxL K) y (.d (.int i)) P := fun H u v _ hu hv Q q => by
  obtain ⟨a, us, rfl, h1, h2⟩ := dp_lst (asD_ok hy hu)
  obtain rfl := dp_int hv
  obtain ⟨w, h3, h4⟩ := dpAll_atI h2 h
  exact ⟨a, us, i, w, rfl, rfl, h1, h3, q w H (.d e) (W.refl H) h4 p⟩
theorem rp_cat {xs ys : List PyData} (hz : xs.length + ys.length ≤ 1000) (p : P (.l (xs ++ ys))) : Rp K W rCat (.l xs) (.l ys) P := fun H u v _ hu hv Q q => by
  obtain ⟨a, us, rfl, h1, h2⟩ := hu
  obtain ⟨b, vs, rfl, h3, h4⟩ := hv
  refine ⟨a, b, us, vs, rfl, rfl, h1, h3, by rw [dpAll_len h2, dpAll_len h4]; exact sz1000 hz, fun c hc => ?_⟩
  exact q _ _ _ (W.same (sameN hc _)) (newL hc (dpAll_app h2 h4)) p
theorem dpAll_rep {H : Hp} {us : List V} {es : List PyData} (h : DpAll K H us es) : ∀ k : Nat, DpAll K H (List.replicate k us).flatten (List.replicate k es).flatten
  | 0 => .nil
  | k + 1 => by
    rw [List.replicate_succ, List.replicate_succ, List.flatten_cons, List.flatten_cons]
    exact dpAll_app h (dpAll_rep h k)
theorem rp_rep {xs : List PyData} {k : Int} (hk : 0 ≤ k ∧ k ≤ 1000) (hz : xs.length * k.toNat ≤ 1000) (p : P (.l (List.replicate k.toNat xs).flatten)) : Rp K W rRep (.l xs) (.d (.int k)) P := fun H u v _ hu hv Q q => by
  obtain ⟨a, us, rfl, h1, h2⟩ := hu
  obtain rfl := dp_int hv
  refine ⟨a, k, us, rfl, rfl, h1, by omega, by omega, by rw [dpAll_len h2]; exact sz1000 hz, fun c hc => ?_⟩
  exact q _ _ _ (W.same (sameN hc _)) (newL hc (dpAll_rep h2 _)) p
theorem rp_catA {xs ys : List PyData} (hz : xs.length + ys.length ≤ 1000) (p : P (.d (.tuple (xs ++ ys)))) : Rp K W (rCatA K) (.d (.tuple xs)) (.d (.tuple ys)) P := fun H u v _ hu hv Q q => by
  obtain ⟨a, us, rfl, h1, h2⟩ := dp_tup hu
  obtain ⟨b, vs, rfl, h3, h4⟩ := dp_tup hv
  refine ⟨a, b, us, vs, rfl, rfl, h1, h3, by rw [dpAll_len h2, dpAll_len h4]; exact sz1000 hz, fun e => ?_, fun _ e => ?_, fun _ _ c hc => ?_⟩
  · subst e
    have l := dpAll_len h2
    cases xs with
    | cons a b => simp at l
    | nil => exact q _ H _ (W.refl H) hv p
  · subst e
    have l := dpAll_len h4
    cases ys with
    | cons a b => simp at l
    | nil =>
      rw [List.append_nil] at p
      exact q _ H _ (W.refl H) hu p
  · exact q _ _ _ (W.same (sameN hc _)) (newT hc (dpAll_app h2 h4)) p
/-- a slice's part -/
def Op (K : PySem.W.Frag) (W : Wd) (t : TO) (ds : Fm) (A : Option Int → Prop) : Prop := ∀ σ H, W.I H → Sl K H σ ds → ∀ Q : Option Int → Hp → Prop, (∀ o H', W.R H H' → A o → Q o H') → t σ H Q
theorem o_none {A : Option Int → Prop} (p : A none) : Op K W tNoPart ds A := fun _ H _ _ _ q => q none H (W.refl H) p
theorem o_some {te : TE} {A : Option Int → Prop} (h : Yp K W te ds fun x => ∃ i : Int, x = .d (.int i) ∧ A (some i)) : Op K W (tPart te) ds A := fun σ H i s Q q =>
  h σ H i s _ fun u H1 x r1 d1 p1 => by
    obtain ⟨j, rfl, p⟩ := p1
    exact ⟨j, dp_int d1, q _ H1 r1 p⟩
/-- a cut of data -/
def cutD (xs : List PyData) (lo hi : Option Int) : List PyData := (xs.drop (HT.sIx xs.length 0 lo)).take (HT.sIx xs.length xs.length hi - HT.sIx xs.length 0 lo)
theorem dpAll_drop {H : Hp} : ∀ {us : List V} {es : List PyData} (n : Nat), DpAll K H us es → DpAll K H (us.drop n) (es.drop n)
  | _, _, 0, h => h
  | _, _, _ + 1, .nil => .nil
  | _, _, n + 1, .cons _ t => dpAll_drop n t
theorem dpAll_take {H : Hp} : ∀ {us : List V} {es : List PyData} (n : Nat), DpAll K H us es → DpAll K H (us.take n) (es.take n)
  | _, _, 0, _ => .nil
  | _, _, _ + 1, .nil => .nil
  | _, _, n + 1, .cons a t => .cons a (dpAll_take n t)
theorem dpAll_cut {H : Hp} {us : List V} {es : List PyData} {lo hi : Option Int} (h : DpAll K H us es) : DpAll K H (cutV us lo hi) (cutD es lo hi) := by
  unfold cutV cutD
  rw [dpAll_len h]
  exact dpAll_take _ (dpAll_drop _ h)
theorem y_slL {te : TE} {tl th : TO} {A : Dv → Prop} {B C : Option Int → Prop} (h : Yp K W te ds A) (hl : Op K W tl ds B) (hh : Op K W th ds C)
    (k : ∀ x lo hi, A x → B lo → C hi → ∃ es, asD x = some (.list es) ∧ P (.l (cutD es lo hi))) : Yp K W (tSl (rSlL K) te tl th) ds P := fun σ H i s Q q =>
  h σ H i s _ fun u H1 x r1 d1 p1 => hl σ H1 (W.im r1 i) (s.keep (W.keep r1)) _ fun lo H2 r2 p2 => hh σ H2 (W.im (W.trans r1 r2) i) (s.keep (W.keep (W.trans r1 r2))) _ fun hi H3 r3 p3 => by
    obtain ⟨es, ex, p⟩ := k x lo hi p1 p2 p3
    obtain ⟨a, us, rfl, h1, h2⟩ := dp_lst (asD_ok ex (d1.keep (W.keep (W.trans r2 r3))))
    exact ⟨a, us, rfl, h1, fun c hc => q _ _ _ (W.trans r1 (W.trans r2 (W.trans r3 (W.same (sameN hc _))))) (newL hc (dpAll_cut h2)) p⟩

/-! ### built-ins -/
abbrev rLenS (K : PySem.W.Frag) : List V → Hp → VK → Prop := fun xs H Q => ∃ p ys, xs = [.ref p] ∧ (SqL K H p ys ∨ SqT K H p ys) ∧ Q (.int ys.length) H
theorem cp_len {x : Dv} {es : List PyData} (hx : seqD x = some es) (p : P (.d (.int (es.length : Int)))) : Cp K W (rLenS K) [x] P := fun H us _ hu Q q => by
  cases hu with
  | cons a b =>
    cases b
    obtain ⟨c, us, rfl, h1, h2⟩ := seqD_ok hx a
    refine ⟨c, us, rfl, h1, ?_⟩
    rw [dpAll_len h2]
    exact q (.int _) H (.d (.int _)) (W.refl H) (Dp.int _) p
theorem cp_lenL {es : List Dv} (p : P (.d (.int (es.length : Int)))) : Cp K W (rLenS K) [dLs K es] P := fun H us _ hu Q q => by
  cases hu with
  | cons a b =>
    cases b
    obtain ⟨c, us, rfl, h1, h2⟩ := a
    refine ⟨c, us, rfl, .inl (SqL.of h1), ?_⟩
    rw [← h2.length]
    exact q (.int _) H (.d (.int _)) (W.refl H) (Dp.int _) p
abbrev rListS (K : PySem.W.Frag) : List V → Hp → VK → Prop := fun xs H Q => ∃ p ys, xs = [.ref p] ∧ (SqL K H p ys ∨ SqT K H p ys) ∧ ∀ l, H l = none → Q (.ref l) (upd H l (.lst ys))
theorem cp_list {x : Dv} {es : List PyData} (hx : seqD x = some es) (p : P (.l es)) : Cp K W (rListS K) [x] P := fun H us _ hu Q q => by
  cases hu with
  | cons a b =>
    cases b
    obtain ⟨c, us, rfl, h1, h2⟩ := seqD_ok hx a
    exact ⟨c, us, rfl, h1, fun l hl => q _ _ _ (W.same (sameN hl _)) (newL hl h2) p⟩
abbrev rTupS (K : PySem.W.Frag) : List V → Hp → VK → Prop := fun xs H Q => ∃ p ys, xs = [.ref p] ∧ ((SqL K H p ys ∧ ∀ l, H l = none → Q (.ref l) (upd H l (.tup ys))) ∨ (SqT K H p ys ∧ Q (.ref p) H))
theorem cp_tup {x : Dv} {es : List PyData} (hx : seqD x = some es) (p : P (.d (.tuple es))) : Cp K W (rTupS K) [x] P := fun H us _ hu Q q => by
  cases hu with
  | cons a b =>
    cases b
    obtain ⟨c, us, rfl, h1, h2⟩ := seqD_ok hx a
    refine ⟨c, us, rfl, ?_⟩
    rcases h1 with h1 | h1
    · exact .inl ⟨h1, fun l hl => q _ _ _ (W.same (sameN hl _)) (newT hl h2) p⟩
    · exact .inr ⟨h1, q _ H (.d (.tuple es)) (W.refl H) (Dp.tup h1 h2) p⟩
abbrev rInt1 : List V → Hp → VK → Prop := fun xs H Q => (∃ i, xs = [.int i] ∧ Q (.int i) H) ∨ ∃ k, xs = [.bl k] ∧ Q (.int (if k then 1 else 0)) H
theorem cp_intB {b : Bool} (p : P (.d (.int (if b then 1 else 0)))) : Cp K W rInt1 [.d (.bool b)] P := fun H us _ hu Q q => by
  cases hu with
  | cons a c =>
    cases c
    obtain rfl := dp_bool a
    exact .inr ⟨b, rfl, q (.int _) H (.d (.int _)) (W.refl H) (Dp.int _) p⟩
abbrev rMax2 : List V → Hp → VK → Prop := fun xs H Q => ∃ i j, xs = [.int i, .int j] ∧ Q (.int (if j > i then j else i)) H
theorem cp_max2 {i j : Int} (p : P (.d (.int (if j > i then j else i)))) : Cp K W rMax2 [.d (.int i), .d (.int j)] P := fun H us _ hu Q q => by
  cases hu with
  | cons a c =>
    cases c with
    | cons b e =>
      cases e
      obtain rfl := dp_int a
      obtain rfl := dp_int b
      exact ⟨i, j, rfl, q (.int _) H (.d (.int _)) (W.refl H) (Dp.int _) p⟩
theorem cp_all {x : Dv} {bs : List Bool} (hx : asD x = some (.list (bs.map .bool))) (p : P (.d (.bool (bs.all id)))) : Cp K W (rAll K) [x] P := fun H us _ hu Q q => by
  cases hu with
  | cons a c =>
    cases c
    obtain ⟨b, us, rfl, h1, h2⟩ := dp_lst (asD_ok hx a)
    obtain rfl := dpAll_bools h2
    exact ⟨b, bs, rfl, h1, q (.bl _) H (.d (.bool _)) (W.refl H) (Dp.bl _) p⟩
theorem tyX_int {H : Hp} (i : Int) : TyX K H (.int i) (.type "int") := .base (.int i)
theorem tyX_tup {H : Hp} {a : Addr} {xs : List V} (h : SqT K H a xs) : TyX K H (.ref a) (.type "tuple") := by
  rcases h with (h | ⟨o, h⟩) | ⟨o, its, n, h1, h2, _⟩
  · exact .base (.tup h)
  · exact .fTuple h
  · exact .kTuple h1 h2
theorem cp_isInt {i : Int} {T : String} {b : Bool} (hb : kitB "int" T = some b) (p : P (.d (.bool b))) : Cp K W (rIsi K) [.d (.int i), .v (.ty T)] P := fun H us _ hu Q q => by
  cases hu with
  | cons a c =>
    cases c with
    | cons d e =>
      cases e
      obtain rfl := dp_int a
      obtain rfl : _ = _ := d
      exact ⟨.int i, .ty T, _, _, b, rfl, .ty T, tyX_int i, kit_ty hb, q (.bl b) H (.d (.bool b)) (W.refl H) (Dp.bl _) p⟩
theorem cp_isTup {xs : List PyData} {T : String} {b : Bool} (hb : kitB "tuple" T = some b) (p : P (.d (.bool b))) : Cp K W (rIsi K) [.d (.tuple xs), .v (.ty T)] P := fun H us _ hu Q q => by
  cases hu with
  | cons a c =>
    cases c with
    | cons d e =>
      cases e
      obtain ⟨t, us, rfl, h1, h2⟩ := dp_tup a
      obtain rfl : _ = _ := d
      exact ⟨.ref t, .ty T, _, _, b, rfl, .ty T, tyX_tup h1, kit_ty hb, q (.bl b) H (.d (.bool b)) (W.refl H) (Dp.bl _) p⟩
end
end Sr

/-! Rules that the hand layer lacks: sorted of data, a tuple's set, enumerate of a tuple, a tuple once. -/
namespace Sr
open PySem L2 PyProof.Rows

/-! ### sorted of data -/
section
variable {X : Cx}
def rSortD (K : PySem.W.Frag) : List V → Hp → VK → Prop := fun vs H Q => ∃ (a : Addr) (us : List V) (es : List PyData), vs = [.ref a] ∧ SqL K H a us ∧ DpAll K H us es ∧ PySem.W.AllAlike es ∧ PySem.W.Sortable es ∧ (∀ e ∈ es, e.depth ≤ 60) ∧
  ∀ p out, H p = none → DpAll K H out (es.mergeSort (PySem.W.dataLe false id)) → out.length = us.length → Q (.ref p) (upd H p (.lst out))
theorem each_of {K : PySem.W.Frag} {H : Hp} : ∀ {us : List V} {es : List PyData} {vs : List Value}, DpAll K H us es → Vals us vs → PySem.W.EachIs (fun v (b : V × PyData) => RelV b.1 v ∧ Dp K H b.1 b.2) vs (us.zip es)
  | _, _, _, .nil, .nil => .nil
  | _, _, _, .cons a b, .cons r t => .cons ⟨r, a⟩ (each_of b t)
theorem of_each {K : PySem.W.Frag} {H : Hp} : ∀ {bs : List (V × PyData)} {vs : List Value}, PySem.W.EachIs (fun v (b : V × PyData) => RelV b.1 v ∧ Dp K H b.1 b.2) vs bs → Vals (bs.map (·.1)) vs ∧ DpAll K H (bs.map (·.1)) (bs.map (·.2))
  | _, _, .nil => ⟨.nil, .nil⟩
  | _, _, .cons a b => ⟨.cons a.1 (of_each b).1, .cons a.2 (of_each b).2⟩
theorem zip_snd {K : PySem.W.Frag} {H : Hp} : ∀ {us : List V} {es : List PyData}, DpAll K H us es → (us.zip es).map (·.2) = es
  | _, _, .nil => rfl
  | _, _, .cons _ b => congrArg (_ :: ·) (zip_snd b)
theorem cr_sortD (hu : X.A.units + 64 < cLine) : CallR X (.builtin "sorted") (rSortD X.K) := by
  intro pins s σ H vs us Q I r h
  obtain ⟨a, xs, es, rfl, hs, hd, hal, hso, hdep, q⟩ := h
  rw [Vals.ref1 r]
  obtain ⟨its, rv, hl, hz⟩ := I.list hs
  have e1 := each_of hd rv
  have ez := zip_snd hd
  have lz : (xs.zip es).length = xs.length := by rw [List.length_zip, dpAll_len hd, Nat.min_self]
  refine PySem.W.sorted_data (enc := fun b : V × PyData => b.2) hl.isList e1 (e1.mono fun v b h => Dp.reads I b.2 b.1 v h.2 h.1) (by rw [ez]; exact hal) (by rw [ez]; exact hso) (by rw [lz]; exact hz) (fun b hb => ?_) fun out hlen he => ?_
  · have hm : b.2 ∈ es := by rw [← ez]; exact List.mem_map.mpr ⟨b, hb, rfl⟩
    have := hdep _ hm
    omega
  · obtain ⟨v1, v2⟩ := of_each he
    have em : ((xs.zip es).mergeSort (PySem.W.dataLe false fun b : V × PyData => b.2)).map (·.2) = es.mergeSort (PySem.W.dataLe false id) := by
      have q := List.map_mergeSort (r := PySem.W.dataLe false fun b : V × PyData => b.2) (s := PySem.W.dataLe false id) (f := fun b : V × PyData => b.2) (l := xs.zip es) (fun _ _ _ _ => rfl)
      rw [ez] at q
      exact q
    rw [em] at v2
    have ll : (((xs.zip es).mergeSort (PySem.W.dataLe false fun b : V × PyData => b.2)).map (·.1)).length = xs.length := by rw [List.length_map, List.length_mergeSort, lz]
    obtain ⟨ep, hp⟩ := sortedAll_at s.heap its out.toArray
    exact ⟨.ref (s.heap.objs.size + 1), upd H (s.heap.objs.size + 1) (.lst _), I.laid (t' := s.toks) (fun _ _ => sortedAll_old) (Nat.le_succ _) ⟨by rw [ll]; exact hz, out, ep, v1, hp⟩, rfl, q _ _ (I.hok.fresh (Nat.le_succ _)) v2 ll⟩

/-! ### set(t), t a tuple of whole numbers -/
def rSetT (K : PySem.W.Frag) (w : World) : List V → Hp → VK → Prop := fun vs H Q => ∃ (a : Addr) (ns : List Int), vs = [.ref a] ∧ SqT K H a (ns.map V.int) ∧ ns.length ≤ 60 ∧
  ∀ p c, H p = none → c ≤ ns.length → Q (.ref p) (upd H p (SetO w p (fun j => decide (j ∈ ns)) c))
theorem cr_setT (hc : X.calm = true) : CallR X (.type "set") (rSetT X.K X.w) := by
  intro pins s σ H vs us Q I r h
  obtain ⟨a, ns, rfl, hs, hn, q⟩ := h
  rw [Vals.ref1 r]
  obtain ⟨its, rv, hl, hz⟩ := I.tuple hs
  refine call_set_tupI ns (I.ok.hd hc) (items := its.toArray) hl rv.ints (by unfold scanBound; omega) fun h' tk c R hcn k => ?_
  exact ⟨.ref s.heap.objs.size, _, I.laid (t' := tk) k (Nat.le_refl _) (setO_new R), rfl, q _ c (I.hok.fresh (Nat.le_refl _)) hcn⟩
end

/-! ### for i, x in enumerate(t) -/
def IteT (K : PySem.W.Frag) (a : Addr) : It where
  go := fun i H => ∃ (xs : List V) (x : V), SqT K H a xs ∧ xs[i]? = some x
  yld := fun i H v H' => ∃ T x, v = .ref T ∧ H T = none ∧ H' = upd H T (.tup [.int (i : Nat), x]) ∧ ∀ xs, SqT K H a xs → xs[i]? = some x
  stop := fun i H => ∃ xs : List V, SqT K H a xs ∧ xs.length = i
/-- where enumerate stands ahead of turn i -/
def EnT (a e it : Addr) (i : Nat) (h : Heap) : Prop := (∃ old, IsEnum h e it ((i : Nat) : Int) old) ∧ h.IsTupleIter it a i ∧ e ≠ it ∧ a ≠ it ∧ a ≠ e
theorem turn_enT {P : Program} {w : World} {K : PySem.W.Frag} {elts : List Expr} {kk : Nat} {tpos : Pos} (a e it : Addr) : Turn P w K (.Tuple elts kk tpos) (IteT K a) [e, it] e (EnT a e it) where
  mem := List.mem_cons_self
  obj := fun i h st b hb => by
    obtain ⟨⟨old, he⟩, ⟨o, ho, hc, hd⟩, _⟩ := st
    rcases List.mem_cons.mp hb with rfl | hb
    · exact ⟨_, he, fun v q => nomatch q⟩
    · rw [List.mem_singleton.mp hb]; exact ⟨o, ho, fun v q => by rw [hd] at q; cases q⟩
  keep := fun i h h' ⟨⟨old, he⟩, hi, ne⟩ k => ⟨⟨old, k e List.mem_cons_self _ he⟩, hi.at fun o q => k it (List.mem_cons_of_mem _ List.mem_cons_self) o q, ne⟩
  item := by
    rintro X rfl rfl rfl hc i pins s σ H E I hf ⟨⟨old, he⟩, hit, n1, n2, n3⟩ ⟨xs, x, hq, hx⟩
    obtain ⟨its, rv, ht, hz⟩ := I.tuple hq
    obtain ⟨u, hu, ru⟩ := rv.get hx
    have sz : i < its.toArray.size := by simpa using (List.getElem?_eq_some_iff.mp hu).1
    have el : e < s.heap.objs.size := Heap.lt_size he
    have il : it < s.heap.objs.size := hit.elim fun _ q => Heap.lt_size q.1
    refine wpAny_pyNext_enum_itemD (Draws.tuple (A := X.A.in1) (I.ok.hd hc) it a n2 its.toArray) he ⟨hit, ht⟩ sz n1 (by simp [n1, n3.symm]) fun z h' tk hz' ho hst hT hsz hk => ?_
    obtain rfl : z = u := by
      have q : its[i]? = some z := by simpa using hz'
      exact Option.some.inj (q.symm.trans hu)
    refine ⟨_, rfl, wpAny_letOwnedTupleGo_enum (s := { s with heap := h', toks := tk + 1 }) ho fun g he' sb => ?_⟩
    have hT2 := (sb.2 _ (Nat.ne_of_gt el)).trans hT
    have mem : ∀ {b : Addr}, b ∉ [e, it] → b ≠ e ∧ b ≠ it := fun hb => ⟨fun z => hb (by simp [z]), fun z => hb (by simp [z])⟩
    have J := I.turnedNew (t' := tk + 1) (ch := [e, it]) (T := s.heap.objs.size) (ob := .tup [.int (i : Nat), x]) (fun b ob hb q => (sb.2 b (mem hb).1).trans (hk b ob (mem hb).1 (mem hb).2 q)) hf (Nat.le_refl _)
      ⟨sz1000 (show 2 ≤ 1000 by decide), [.int i tk, z], .cons ⟨tk, rfl⟩ (.cons ru .nil), ⟨_, hT2, rfl, _, rfl⟩⟩
    refine ⟨.ref s.heap.objs.size, _, J, rfl, ⟨_, x, rfl, I.hok.fresh (Nat.le_refl _), rfl, fun ys hy => by rw [I.tuple_inj hy hq]; exact hx⟩, ⟨⟨z, ?_⟩, hst.1.at fun o q => (sb.2 it n1.symm).trans q, n1, n2, n3⟩, fun b hb => ?_⟩
    · rw [show ((i + 1 : Nat) : Int) = (i : Int) + 1 by omega]; exact he'
    · have lt : b < s.heap.objs.size := by
        rcases List.mem_cons.mp hb with rfl | hb
        · exact el
        · rw [List.mem_singleton.mp hb]; exact il
      rw [upd_ne (Nat.ne_of_lt lt)]; exact (hf b hb).1
  done := by
    rintro X rfl rfl rfl hc i pins s σ H E I hf ⟨⟨old, he⟩, hit, n1, n2, n3⟩ ⟨xs, hq, hx⟩
    obtain ⟨its, rv, ht, hz⟩ := I.tuple hq
    obtain ⟨f0, f1, f2, f3, f4, f5⟩ := hf it (List.mem_cons_of_mem _ List.mem_cons_self)
    have hl : its.toArray.size = i := by rw [List.size_toArray, ← rv.length, hx]
    exact wpAny_pyNext_enum_endD (Draws.tuple (A := X.A.in1) (I.ok.hd hc) it a n2 its.toArray) he (by rw [hl]; exact ⟨hit, ht⟩) fun h' eb => ⟨rfl, I.turned (t' := s.toks) (fun b o hb q => eb b o hb q) f0 f1 f3 f4 f5⟩
  self := fun A i s Q E ⟨⟨_, he⟩, _⟩ h => wpAny_pyIter_enum he h
set_option maxHeartbeats 2000000 in
theorem new_enT {a : Addr} {its : Array Value} : Meets (Builtin.«enumerate.__new__» ⟨[.type "enumerate", .ref a], []⟩) (fun _ R s => s.heap.IsTuple a its ∧
    R (.ok (.ret (.ref (s.heap.push { cls := .type "tuple_iterator", data := .fields #[.ref a, .int 0 0] }).objs.size)))
      { s with heap := (s.heap.push { cls := .type "tuple_iterator", data := .fields #[.ref a, .int 0 0] }).push { cls := .type "enumerate", data := .fields #[.none, .bool false, .ref s.heap.objs.size, rawInt 0, .none, .none] } }) :=
  .of_wp fun prog w A R s h => by
    obtain ⟨hp, g, d, tk, os⟩ := s; obtain ⟨h1, h⟩ := h
    have sub := sub_enumerate
    have q1 : ∀ {A' : Around} {E : Value → Shared → Prop} {Q : Value → Shared → Prop}, Q (.ref hp.objs.size) ⟨hp.push { cls := .type "tuple_iterator", data := .fields #[.ref a, .int 0 0] }, g, d, tk, os⟩ → wpAny (model prog w) A' (pyIter (.ref a)) Q E ⟨hp, g, d, tk, os⟩ :=
      fun q => (begins_tuple a its).iter prog w _ _ ⟨hp, g, d, tk, os⟩ _ h1 q
    wp_walk using q1
    refine wpAny_stack_any fun st => wpAny_pure ?_
    split
    · rename_i c _ _ _ _ _; cases (c == Value.type "enumerate") <;> (wp_walk using q1; exact ⟨_, rfl, h⟩)
    · wp_walk using q1; exact ⟨_, rfl, h⟩
theorem call_enT {prog : Program} {w : World} {A : Around} {E : Value → Shared → Prop} {s : Shared} {a : Addr} {its : Array Value} {Q : Value → Shared → Prop} (ht : s.heap.IsTuple a its)
    (h : ∀ h', IsEnum h' (s.heap.objs.size + 1) s.heap.objs.size 0 .none → h'.IsTupleIter s.heap.objs.size a 0 → (∀ b o, s.heap.get? b = some o → h'.get? b = some o) → Q (.ref (s.heap.objs.size + 1)) { s with heap := h' }) :
    wpAny (model prog w) A (call (.type "enumerate") [.ref a]) Q E s := by
  refine callType_new F.called_enumerate (by decide) (F.typeCall_enumerate_1 _) (F.newCall_enumerate_1 _) (fun obj => F.args_object_init_2 obj _) F.entry_enumerate_new (new_enT (a := a) (its := its)) ⟨ht, ?_⟩
  generalize hg : s.heap.push { cls := .type "tuple_iterator", data := .fields #[.ref a, .int 0 0] } = g
  have hgs : g.objs.size = s.heap.objs.size + 1 := by rw [← hg]; exact size_push' ..
  have gI : g.get? s.heap.objs.size = some { cls := .type "tuple_iterator", data := .fields #[.ref a, .int 0 0] } := by rw [← hg]; exact Heap.get?_push_size _ rfl
  have he : IsEnum (g.push { cls := .type "enumerate", data := .fields #[.none, .bool false, .ref s.heap.objs.size, rawInt 0, .none, .none] }) (s.heap.objs.size + 1) s.heap.objs.size 0 .none := by
    rw [← hgs]; exact Heap.get?_push_size _ rfl
  show _ ∧ _
  rw [hgs]
  exact ⟨⟨_, he, rfl⟩, h _ he ⟨_, Heap.get?_push_of_some _ gI, rfl, rfl⟩ fun b o q => Heap.get?_push_of_some _ (by rw [← hg]; exact Heap.get?_push_of_some _ q)⟩
def iEnT (K : PySem.W.Frag) (ta : TA) : TI := fun σ H R => ta σ H fun vs H1 => ∃ a xs, vs = [.ref a] ∧ SqT K H1 a xs ∧ R (IteT K a) H1
theorem pi_enT {X : Cx} {e : Expr} {ta : TA} {p pos tpos : Pos} {elts : List Expr} {kk : Nat} (hg : Gl X "enumerate") (hm : X.mg "enumerate" = none) (ha : PA X [e] ta) (hs : starEach [e] X.env = [(false, eval e X.env)] := by rfl) :
    PI X (.Tuple elts kk tpos) (.Call (.Name "enumerate" p) [e] [] pos) (iEnT X.K ta) := ⟨fun pins s σ H R I h => by
  refine Call_ (ld_blt I hg hm boot_enumerate (callWith_type1 (thn (ha.run pos pins s σ H _ I h) fun us s1 ⟨vs, H1, I1, r1, q1⟩ => ?_) hs rfl))
  obtain ⟨a, xs, rfl, hq, q⟩ := q1
  obtain rfl := Vals.ref1 r1
  obtain ⟨its, rv, ht, hz⟩ := I1.tuple hq
  have al : a < s1.heap.objs.size := ht.elim fun _ q => Heap.lt_size q.1
  refine call_enT ht fun h' he hit hk => wpAny_pyIter_enum he ?_
  refine ⟨_, [s1.heap.objs.size + 1, s1.heap.objs.size], _, _, H1, rfl, I1.kept (t' := s1.toks) hk, turn_enT a (s1.heap.objs.size + 1) s1.heap.objs.size, ⟨⟨.none, he⟩, hit, Nat.succ_ne_self _, Nat.ne_of_lt al, Nat.ne_of_lt (Nat.lt_succ_of_lt al)⟩, fun b hb => ?_, q⟩
  have hle : s1.heap.objs.size ≤ b := by
    rcases List.mem_cons.mp hb with rfl | hb
    · exact Nat.le_succ _
    · rw [List.mem_singleton.mp hb]; exact Nat.le_refl _
  exact I1.fpOk hle (I1.hok.fresh hle)⟩

/-! ### the same by data -/
section
variable {K : PySem.W.Frag} {W : Wd} {ds : Fm} {ta : TA} {te : TE} {P : Dv → Prop}
/-- the pairs (0, x), (1, y), .. -/
abbrev enu (es : List PyData) : List Dv := (List.range es.length).map fun i => .d (.tuple [.int (i : Nat), es.getD i .none])
theorem enu_len (es : List PyData) : (enu es).length = es.length := by simp [enu]
theorem enu_at {es : List PyData} {i : Nat} {e : PyData} (h : es[i]? = some e) : (enu es)[i]? = some (.d (.tuple [.int (i : Nat), e])) := by
  have hi := (List.getElem?_eq_some_iff.mp h).1
  simp [enu, hi, List.getD_eq_getElem?_getD]
  exact (List.getElem?_eq_some_iff.mp h).2
theorem enu_of {es : List PyData} {i : Nat} {x : Dv} (h : (enu es)[i]? = some x) : ∃ e, es[i]? = some e ∧ x = .d (.tuple [.int (i : Nat), e]) := by
  have hi : i < es.length := by
    have q := (List.getElem?_eq_some_iff.mp h).1
    rwa [enu_len] at q
  refine ⟨es[i], List.getElem?_eq_getElem hi, ?_⟩
  rw [enu_at (List.getElem?_eq_getElem hi)] at h
  exact (Option.some.inj h).symm
theorem ip_enT {A : List Dv → Prop} (h : Ap K W ta ds fun xs => ∃ es, xs = [.d (.tuple es)] ∧ A (enu es)) : Ip K W (iEnT K ta) ds A := fun σ H i s R' q =>
  h σ H i s _ fun us H1 xs r1 d1 p1 => by
    obtain ⟨es, rfl, p⟩ := p1
    cases d1 with
    | cons a b =>
      cases b
      obtain ⟨c, us, rfl, h1, h2⟩ := dp_tup a
      refine ⟨c, us, rfl, h1, q (IteT K c) H1 _ r1 ⟨fun j H2 r2 hj => ?_, fun H2 r2 => ?_, fun j H2 u H3 r2 hj y => ?_⟩ p⟩
      · rw [enu_len, ← dpAll_len h2] at hj
        exact ⟨us, us[j], (W.keep r2).sqT h1, List.getElem?_eq_getElem hj⟩
      · exact ⟨us, (W.keep r2).sqT h1, by rw [enu_len, ← dpAll_len h2]⟩
      · obtain ⟨T, x, rfl, hT, rfl, hy⟩ := y
        rw [enu_len] at hj
        obtain ⟨x', g1, g2⟩ := dpAll_at h2 (List.getElem?_eq_getElem hj)
        obtain rfl : x = x' := Option.some.inj ((hy us ((W.keep r2).sqT h1)).symm.trans g1)
        refine ⟨W.same (sameN hT _), _, enu_at (List.getElem?_eq_getElem hj), newT hT (.cons (.int _) (.cons (dp_keep (W.keep r2) _ _ g2) .nil))⟩
/-- sorted of data -/
theorem cp_sortD {x : Dv} {es : List PyData} (hx : x = .l es ∨ x = .d (.list es)) (h1 : PySem.W.AllAlike es) (h2 : PySem.W.Sortable es) (h3 : ∀ e ∈ es, e.depth ≤ 60) (p : P (.l (es.mergeSort (PySem.W.dataLe false id)))) : Cp K W (rSortD K) [x] P := fun H us _ hu Q q => by
  cases hu with
  | cons a b =>
    cases b
    have a' : ∀ u, Dok K H x u → Dp K H u (.list es) := fun u a => by
      rcases hx with rfl | rfl
      · exact a.list
      · exact a
    obtain ⟨c, us, rfl, g1, g2⟩ := dp_lst (a' _ a)
    exact ⟨c, us, es, rfl, g1, g2, h1, h2, h3, fun p' out hp hd _ => q (.ref p') _ (.l _) (W.same (sameN hp _)) (newL hp hd) p⟩
/-- sorted(set(t)) of whole numbers: rising, each once -/
theorem y_sortSet {w : World} {A : List Int → Prop} (h : Yp K W te ds fun x => ∃ ns : List Int, x = .d (.tuple (ns.map .int)) ∧ ns.length ≤ 60 ∧ A ns)
    (k : ∀ ns ms : List Int, A ns → ms.Pairwise (· < ·) → (∀ k, k ∈ ms ↔ k ∈ ns) → P (.l (ms.map .int))) : Yp K W (tCB (rSortedSet w) (tCons (tCB (rSetT K w) (tCons te tNil)) tNil)) ds P := fun σ H i s Q q =>
  h σ H i s _ fun u H1 x r1 d1 p1 => by
    obtain ⟨ns, rfl, hn, p⟩ := p1
    obtain ⟨a, us, rfl, g1, g2⟩ := dp_tup d1
    obtain rfl := dpAll_ints g2
    refine ⟨a, ns, rfl, g1, hn, fun p' c hp hc => ⟨p', _, c, rfl, upd_same, by omega, fun ms p2 hs hm _ hp2 => ?_⟩⟩
    refine q _ _ (.l (ms.map .int)) (W.trans r1 (W.trans (W.same (sameN hp _)) (W.same (sameN hp2 _)))) (newL hp2 (ints_dpAll ms)) (k ns ms p hs fun j => ?_)
    rw [hm j]
    exact decide_eq_true_iff
end
end Sr

/-! a tuple a few times -/
namespace Sr
open PySem L2 PyProof.Rows
theorem mul_once (l : Addr) (items : Array Value) (n : Nat) (dd : Option Addr) (sl : Array (Option Value)) (u : Tok) :
    Meets (Builtin.«tuple.__mul__» ⟨[.ref l, .int 1 u], []⟩) (fun _ R s => s.heap.get? l = some { cls := .type "tuple", dict := dd, data := .seq items n, slots := sl } ∧ R (.ok (.ret (Value.ref l))) s) :=
  .of_wp fun prog w A R s h => by
    obtain ⟨hp, g, d, tk, os⟩ := s; obtain ⟨hl, h⟩ := h
    have f1 := AutoSeq1.idx_int
    wp_walk using wpAny_loadPart' hl
    exact ⟨_, rfl, h⟩
def rRep1 (K : PySem.W.Frag) : R2 := fun x y H Q => ∃ l xs, x = .ref l ∧ y = .int 1 ∧ SqT K H l xs ∧ Q (.ref l) H
section
variable {X : Cx}
theorem op_rep1 : OpR X (binaryOp .Mult) (rRep1 X.K) := by
  intro pins s σ H x y v u Q I rx ry h
  obtain ⟨l, xs, rfl, rfl, hT, q⟩ := h
  cases rx
  obtain ⟨t, rfl⟩ := ry
  obtain ⟨its, r, ⟨⟨cls, dd, data, sl⟩, ho, hc, n, hd⟩, hs⟩ := I.tuple hT
  obtain rfl : cls = .type "tuple" := hc
  obtain rfl : data = .seq its.toArray n := hd
  exact wpAny_binaryOp_repeat_ref (T := "tuple") (U := "int") (by decide) ⟨_, ho, rfl⟩ (fun s' => typeIs_int s' 1 t) noFill_tuple_mul F.fills_int_mul F.slot_int_rmul repeat_tuple F.slot_int_index.lookup
    (call_meets F.slot_int_rmul (typeIs_int s 1 t) F.entry_int_rmul (F.args_int_rmul_2 _ _) (int_rmul_tuple 1 t l its.toArray n dd sl)
      ⟨ho, rfl, ⟨_, ho, rfl⟩, call_meets F.slot_tuple_mul ⟨_, ho, rfl⟩ F.entry_tuple_mul (F.args_tuple_mul_2 _ _) (mul_once l its.toArray n dd sl t) ⟨ho, ⟨.ref l, H, I, rfl, q⟩⟩⟩)
abbrev rRepA (K : PySem.W.Frag) : R2 := fun x y H Q => rRep1 K x y H Q ∨ rRepT K x y H Q
theorem op_repA : OpR X (binaryOp .Mult) (rRepA X.K) := op_rep1.or op_repT
end
theorem rp_repA {K : PySem.W.Frag} {W : Wd} {P : Dv → Prop} {xs : List PyData} {k : Int} (hk : 1 ≤ k ∧ k ≤ 1000) (hne : xs ≠ []) (hz : xs.length ≤ 1000) (p : P (.d (.tuple (List.replicate k.toNat xs).flatten))) : Rp K W (rRepA K) (.d (.tuple xs)) (.d (.int k)) P := fun H u v _ hu hv Q q => by
  obtain ⟨a, us, rfl, h1, h2⟩ := dp_tup hu
  obtain rfl := dp_int hv
  by_cases e : k = 1
  · subst e
    have e1 : (List.replicate (1 : Int).toNat xs).flatten = xs := by simp
    rw [e1] at p
    exact .inl ⟨a, us, rfl, rfl, h1, q _ H (.d (.tuple xs)) (W.refl H) hu p⟩
  · refine .inr ⟨a, k, us, rfl, rfl, h1, fun z => hne ?_, by omega, hk.2, by rw [dpAll_len h2]; exact hz, fun c hc => ?_⟩
    · have l := dpAll_len h2
      rw [z] at l
      exact List.eq_nil_of_length_eq_zero l.symm
    · exact q _ _ (.d (.tuple _)) (W.same (sameN hc _)) (newT hc (dpAll_rep h2 _)) p
end Sr

/-! What a def promises, by data. -/
namespace Sr
open PySem L2 PyProof.Rows

/-- on arguments xs (the heap being so) what comes back is P -/
abbrev Pre := Hp → List Dv → (Dv → Prop) → Prop
def spD (K : PySem.W.Frag) (W : Wd) (pre : Pre) : Sp := fun us H Q _ => ∃ xs P, W.I H ∧ Doks K H xs us ∧ pre H xs P ∧ ∀ u H' x, W.R H H' → Dok K H' x u → P x → Q u H'
section
variable {K : PySem.W.Frag} {W W' : Wd} {pre : Pre} {P : Dv → Prop} {xs : List Dv}
theorem sps_D (h : ∀ H, W.I H → pre H xs P) : Sps K W (spD K W pre) xs P := fun H us i d Q E q => ⟨xs, P, i, d, h H i, q⟩
/-- from a world that keeps less -/
theorem sps_sub (hi : ∀ H, W'.I H → W.I H) (hr : ∀ H H', W.R H H' → W'.R H H') (h : ∀ H, W'.I H → pre H xs P) : Sps K W' (spD K W pre) xs P := fun H us i d Q E q =>
  ⟨xs, P, hi H i, d, h H i, fun u H' x r => q u H' x (hr H H' r)⟩
theorem sps_0 (h : ∀ H, pre H xs P) : Sps K W (spD K W0 pre) xs P := sps_sub (fun _ _ => trivial) (fun _ _ r => W.same r) fun H _ => h H
end
section
variable {p : Program} {w : World} {K : PySem.W.Frag} {mg : Str → Option Value} {base : Heap}
/-- a def of the top, with its promise -/
structure Cal (p : Program) (w : World) (K : PySem.W.Frag) (mg : Str → Option Value) (base : Heap) (nm : Str) (k : Nat) (ps : List Str) (sp : Sp) : Prop where
  ex : ∃ (f : Addr) (fd : FuncData), mg nm = some (.ref f) ∧ FnOk p w K mg base CX0 k f fd ps sp ∧ PySem.W.keepIn K (.ref f) = true ∧ Binds K fd ps []
theorem Cal.mono {nm : Str} {j k : Nat} {ps : List Str} {sp : Sp} (c : Cal p w K mg base nm j ps sp) (h : j ≤ k) : Cal p w K mg base nm k ps sp := by
  obtain ⟨f, fd, a, b, c, d⟩ := c.ex
  exact ⟨f, fd, a, b.mono h, c, d⟩
theorem pe_cal {X : Cx} {nm : Str} {k : Nat} {ps : List Str} {sp : Sp} {ppos pos : Pos} {e : Expr} {es : List Expr} {t : TA} (c : Cal X.prog X.w X.K X.mg X.base nm k ps sp) (hr : Room k X.A) (hg : Gl X nm) (ha : PA X (e :: es) t)
    (hdb : (nm == ("__debug__" : Str)) = false := by decide) (he : starEach (e :: es) X.env = (false, eval e X.env) :: starEach es X.env := by rfl) (hpl : (backTo pos (starEach es X.env)).any (·.1) = false := by rfl) :
    PE X (.Call (.Name nm ppos) (e :: es) [] pos) (tCall sp [] E0 t) := by
  obtain ⟨f, fd, a, b, c, d⟩ := c.ex
  exact pe_call b hr hg a c d .nil pass0 ha hdb he hpl
/-- a def by its body -/
theorem ok_D {x qual : Str} {st : Stmt} {f : Addr} {fd : FuncData} {N ps : List Str} {k : Nat} {W : Wd} {pre : Pre} (F : Fun K x qual st f fd) (S : FnScope N ps (defScope st)) (hl : ∀ H xs P, pre H xs P → xs.length = ps.length)
    (hb : ∀ (cdv : Value) (A : Around) (outer : List Env) (s : Shared) (H : Hp) (E : XK), Room k (A.deeper (envOfC qual (defScope st) s.heap.objs.size f cdv)) →
      ∃ t, PSs (cxOf CX0 p w K mg base N qual (defScope st) f cdv A outer s H E).nox (defBody st) t ∧ ∀ H xs P, W.I H → pre H xs P → ∃ W2 : Wd, (∀ a b, W2.R a b → W.R a b) ∧ W2.I H ∧ Zp K W2 t (startD N.length xs) (fun _ => P (.d .none)) P) :
    FnOk p w K mg base CX0 (k + 1) f fd ps (spD K W pre) := by
  refine F.ok S (fun vs H Q E h => ?_) (fun cdv A outer s H vs Q E hr h => ?_)
  · obtain ⟨xs, P, _, d, h, _⟩ := h
    rw [← d.length]
    exact hl H xs P h
  · obtain ⟨t, h1, h2⟩ := hb cdv A outer s H E hr
    obtain ⟨xs, P, i, d, h, q⟩ := h
    obtain ⟨W2, r2, i2, z⟩ := h2 H xs P i h
    exact ⟨t, h1, z _ _ H i2 (Sl.start d) (fun σ' H' ds' r _ n => q .non H' (.d .none) (r2 _ _ r) .non n) fun u H' x r dx px => q u H' x (r2 _ _ r) dx px⟩
/-- .. read at the very heap -/
theorem ok_H {x qual : Str} {st : Stmt} {f : Addr} {fd : FuncData} {N ps : List Str} {k : Nat} {W : Wd} {pre : Pre} (F : Fun K x qual st f fd) (S : FnScope N ps (defScope st)) (hl : ∀ H xs P, pre H xs P → xs.length = ps.length)
    (hb : ∀ (cdv : Value) (A : Around) (outer : List Env) (s : Shared) (H : Hp) (E : XK), Room k (A.deeper (envOfC qual (defScope st) s.heap.objs.size f cdv)) →
      ∃ t, PSs (cxOf CX0 p w K mg base N qual (defScope st) f cdv A outer s H E).nox (defBody st) t ∧ ∀ H xs P, W.I H → pre H xs P → ∀ σ, Sl K H σ (startD N.length xs) → ∀ Q : VK, (∀ u H' x, W.R H H' → Dok K H' x u → P x → Q u H') → t { nx := fun _ H' => Q .non H', rt := Q } σ H) :
    FnOk p w K mg base CX0 (k + 1) f fd ps (spD K W pre) := by
  refine F.ok S (fun vs H Q E h => ?_) (fun cdv A outer s H vs Q E hr h => ?_)
  · obtain ⟨xs, P, _, d, h, _⟩ := h
    rw [← d.length]
    exact hl H xs P h
  · obtain ⟨t, h1, h2⟩ := hb cdv A outer s H E hr
    obtain ⟨xs, P, i, d, h, q⟩ := h
    exact ⟨t, h1, h2 H xs P i h _ (Sl.start d) Q q⟩
end
/-- the built-ins are the built-ins -/
structure Blt (mg : Str → Option Value) : Prop where
  range : mg "range" = none
  len : mg "len" = none
  enumerate : mg "enumerate" = none
  tuple : mg "tuple" = none
  list : mg "list" = none
  isinstance : mg "isinstance" = none
  int : mg "int" = none
  bool : mg "bool" = none
  all : mg "all" = none
  sorted : mg "sorted" = none
  set : mg "set" = none
  min : mg "min" = none
  max : mg "max" = none
end Sr

/-! min and max of a list of whole numbers with default= -/
namespace Sr
open PySem PyProof.Rows
section
variable {prog : Program} {w : World} {A : Around} {E : Value → Shared → Prop} {l I S : Addr} {vs : List Value} {ns : List Int} {d : Value} {R : Result → Shared → Prop}
/-- the lesser one, the first of two alike -/
def pick_min (b n : Int) : Int := if n < b then n else b
theorem min_loopD (hh : A.handled = none) (hi : IntsAre vs ns) (hlI : l ≠ I) (hSI : S ≠ I) (hSl : S ≠ l) :
    ∀ (r j : Nat) (s : Shared) (kb : Int) (tb : Tok) (c : Nat), ns.length - j = r → j ≤ ns.length → s.heap.IsListIter I l j → s.heap.IsList l vs.toArray → s.heap.get? S = some (seqObj "list" #[.int kb tb, .int kb tb] c) →
      (∀ h' tk t, (∀ b o, b ≠ I → b ≠ S → s.heap.get? b = some o → h'.get? b = some o) → R (.ok (.ret (.int ((ns.drop j).foldl pick_min kb) t))) { s with heap := h', toks := tk }) →
      codeAny (model prog w) A (.builtin "min.loop" ⟨[.ref I, .none, .ref S], [(Str.ofString "default", d)]⟩) R s := by
  have nm : (toString "min" ++ toString ".loop" : String) = "min.loop" := by decide
  have Wk := Walks.list (prog := prog) (w := w) (A := A.in1) hh I l hlI vs.toArray
  have len : vs.toArray.size = ns.length := by rw [List.size_toArray]; exact hi.length
  intro r
  induction r with
  | zero =>
    intro j s kb tb c hr hj hit hl hS hR
    have hjn : j = ns.length := by omega
    refine codeAny_builtin PySem.F.entry_min_loop ?_
    rw [Around.under_plainId PySem.F.plain_min_loop _]
    show wpAny _ A.in1 (seqItems? (.ref S) >>= _) _ _ _; refine wpAny_bind (wpAny_seqItems hS rfl ?_)
    show wpAny _ A.in1 (tryCatch (pyNext (.ref I)) _ >>= _) _ _ _; refine wpAny_bind (wpAny_tryCatch (Wk.done _ _ _ ⟨by rw [len, ← hjn]; exact hit, hl⟩ fun h' tk hk => ?_))
    have hS' := hk S _ (by simpa using hSI) hS
    show wpAny _ A.in1 (updateSeq S (fun _ => #[]) >>= _) _ _ _; refine wpAny_bind (wpAny_updateSeq hS' rfl (wpAny_bind (wpAny_letGo (wpAny_pure ?_))))
    have e : ns.drop j = [] := List.drop_eq_nil_of_le (by omega)
    rw [e] at hR
    refine hR _ _ tb fun b o h1 h2 q => ?_
    exact (Heap.get?_update_other _ _ (fun z => h2 z.symm)).trans (hk b o (by simpa using h1) q)
  | succ r ih =>
    intro j s kb tb c hr hj hit hl hS hR
    have hlt : j < ns.length := by omega
    refine codeAny_builtin PySem.F.entry_min_loop ?_
    rw [Around.under_plainId PySem.F.plain_min_loop _]
    show wpAny _ A.in1 (seqItems? (.ref S) >>= _) _ _ _; refine wpAny_bind (wpAny_seqItems hS rfl ?_)
    show wpAny _ A.in1 (tryCatch (pyNext (.ref I)) _ >>= _) _ _ _; refine wpAny_bind (wpAny_tryCatch (Wk.item j _ _ _ (by rw [len]; exact hlt) ⟨hit, hl⟩ fun v h' tk hP hst hk => ?_))
    have hv : vs[j]? = some v := by simpa using hP
    obtain ⟨k, hk1⟩ : ∃ k, ns[j]? = some k := ⟨_, List.getElem?_eq_getElem hlt⟩
    obtain ⟨t, ht⟩ := hi.get j k hk1
    obtain rfl : v = .int k t := Option.some.inj (hv.symm.trans ht)
    have hS' := hk S _ (by simpa using hSI) hS
    have hdrop : ns.drop j = k :: ns.drop (j + 1) := by
      have q := List.drop_eq_getElem_cons hlt
      rw [List.getElem?_eq_getElem hlt] at hk1
      rw [q, Option.some.inj hk1]
    rw [hdrop, List.foldl_cons] at hR
    show wpAny _ A.in1 (tryCatch (holding [.int k t, .int k t] (richCompare .Lt (.int k t) (.int kb tb) >>= _)) _ >>= _) _ _ _; refine wpAny_bind (wpAny_tryCatch (wpAny_holding (wpAny_bind (CmpOf.ints_lt (prog := prog) (w := w) (A := A.in1) (P := fun i v => ∃ t, v = .int (if i = 0 then k else kb) t) (fun i => if i = 0 then k else kb) (fun _ _ h => h) 0 1 _ _ _ _ _ ⟨t, rfl⟩ ⟨tb, rfl⟩ ?_))))
    refine wpAny_bind (wpAny_holding (wpAny_truthy_bool ?_))
    refine wpAny_bind (wpAny_letGo (wpAny_pure ?_))
    simp only [if_true, Nat.one_ne_zero, if_false]
    by_cases hb : k < kb
    · have eb : pick_min kb k = k := if_pos hb
      rw [eb] at hR
      simp only [hb, decide_true, if_true]
      refine wpAny_bind (wpAny_updateSeq hS' rfl (wpAny_bind (wpAny_letGo ?_)))
      rw [nm]
      have sb := Heap.SameBut.update h' S (Obj.mapSeq fun _ => #[Value.int k t, Value.int k t])
      refine wpAny_pure ⟨plainId_quiet PySem.F.plain_min_loop _, ih (j + 1) _ k t _ (by omega) hlt (hst.1.at fun o q => (sb.2 I hSI.symm).trans q) (hst.2.at fun o q => (sb.2 l hSl.symm).trans q) (get?_update_seq hS' fun _ => #[Value.int k t, Value.int k t]) fun h2 tk2 t2 q => ?_⟩
      exact hR h2 tk2 t2 fun b o h1 h3 z => q b o h1 h3 ((sb.2 b h3).trans (hk b o (by simpa using h1) z))
    · have eb : pick_min kb k = kb := if_neg hb
      rw [eb] at hR
      simp only [hb, decide_false, Bool.false_eq_true, if_false]
      refine wpAny_bind (wpAny_letGo ?_)
      rw [nm]
      refine wpAny_pure ⟨plainId_quiet PySem.F.plain_min_loop _, ih (j + 1) _ kb tb c (by omega) hlt hst.1 hst.2 hS' fun h2 tk2 t2 q => ?_⟩
      exact hR h2 tk2 t2 fun b o h1 h3 z => q b o h1 h3 (hk b o (by simpa using h1) z)
/-- of none the default -/
def best_min (dv : Int) : List Int → Int
  | [] => dv
  | n :: ns => ns.foldl pick_min n
theorem min_argsD (a v : Value) : argsOk "min" ⟨[a], [(Str.ofString "default", v)]⟩ := by unfold argsOk; kernel_rfl
theorem min_listD {s : Shared} {dv : Int} {td : Tok} {Q : Value → Shared → Prop} (hh : A.handled = none) (hi : IntsAre vs ns) (hl : s.heap.IsList l vs.toArray)
    (hQ : ∀ h' tk t, (∀ b o, s.heap.get? b = some o → h'.get? b = some o) → Q (.int (best_min dv ns) t) { s with heap := h', toks := tk }) :
    wpAny (model prog w) A (call (.builtin "min") [.ref l] [(Str.ofString "default", .int dv td)]) Q E s := by
  have nm : (toString "min" ++ toString ".loop" : String) = "min.loop" := by decide
  obtain ⟨ol, hol, _⟩ := id hl
  have hll : l < s.heap.objs.size := Heap.lt_size hol
  refine kmk_tree PySem.F.kind_min PySem.F.plain_min PySem.F.entry_min (min_argsD _ _) ?_
  show wpAny _ A.in1 (Builtin.Builtins.bindParams "min" ["key", "default"] 0 ⟨[], [(Str.ofString "default", .int dv td)]⟩ >>= _) _ _ s; refine wpAny_bind (wpAny_of_eq (show Builtin.Builtins.bindParams "min" ["key", "default"] 0 ⟨[], [(Str.ofString "default", .int dv td)]⟩ = pure [none, some (.int dv td)] from rfl) ?_)
  refine wpAny_bind (wpAny_pure ?_)
  refine wpAny_bind (wpAny_pyIter_list hl ?_)
  refine wpAny_bind (wpAny_newList ?_ (Nat.zero_le _))
  rw [nm]
  generalize hg : s.heap.push { cls := .type "list_iterator", data := .fields #[.ref l, .int 0 0] } = g
  have hgs : g.objs.size = s.heap.objs.size + 1 := by rw [← hg]; exact size_push' ..
  have kg : ∀ b o, s.heap.get? b = some o → g.get? b = some o := fun b o q => by rw [← hg]; exact Heap.get?_push_of_some _ q
  have gI : g.get? s.heap.objs.size = some { cls := .type "list_iterator", data := .fields #[.ref l, .int 0 0] } := by rw [← hg]; exact Heap.get?_push_size _ rfl
  refine wpAny_pure ⟨plainId_quiet PySem.F.plain_min_loop _, ?_⟩
  have hlI : l ≠ s.heap.objs.size := Nat.ne_of_lt hll
  have hSI : g.objs.size ≠ s.heap.objs.size := by rw [hgs]; exact Nat.succ_ne_self _
  have hSl : g.objs.size ≠ l := by rw [hgs]; exact Nat.ne_of_gt (Nat.lt_succ_of_lt hll)
  have kS : ∀ b o, s.heap.get? b = some o → (g.push (seqObj "list" #[] 0)).get? b = some o := fun b o q => Heap.get?_push_of_some _ (kg b o q)
  have gS : (g.push (seqObj "list" #[] 0)).get? g.objs.size = some (seqObj "list" #[] 0) := Heap.get?_push_size _ rfl
  have it0 : (g.push (seqObj "list" #[] 0)).IsListIter s.heap.objs.size l 0 := ⟨_, Heap.get?_push_of_some _ gI, rfl, rfl⟩
  have hl0 : (g.push (seqObj "list" #[] 0)).IsList l vs.toArray := hl.at fun o q => kS l o q
  have Wk := Walks.list (prog := prog) (w := w) (A := A.in1) hh s.heap.objs.size l hlI vs.toArray
  have len : vs.toArray.size = ns.length := by rw [List.size_toArray]; exact hi.length
  have ne1 : ∀ b o, s.heap.get? b = some o → b ≠ s.heap.objs.size ∧ b ≠ g.objs.size := fun b o q => by
    have z := Heap.lt_size q
    exact ⟨Nat.ne_of_lt z, by rw [hgs]; exact Nat.ne_of_lt (Nat.lt_succ_of_lt z)⟩
  cases hn : ns with
  | nil =>
    rw [hn] at hQ len
    refine codeAny_builtin PySem.F.entry_min_loop ?_
    rw [Around.under_plainId PySem.F.plain_min_loop _]
    show wpAny _ A.in1 (seqItems? (.ref g.objs.size) >>= _) _ _ _; refine wpAny_bind (wpAny_seqItems gS rfl ?_)
    show wpAny _ A.in1 (tryCatch (pyNext (.ref _)) _ >>= _) _ _ _; refine wpAny_bind (wpAny_tryCatch (Wk.done _ _ _ ⟨by rw [len]; exact it0, hl0⟩ fun h' tk hk => ?_))
    refine wpAny_bind (wpAny_rule (wpAny_pure ?_))
    exact hQ h' tk td fun b o q => hk b o (by simpa using (ne1 b o q).1) (kS b o q)
  | cons k rest =>
    have h0 : 0 < ns.length := by rw [hn]; exact Nat.succ_pos _
    refine codeAny_builtin PySem.F.entry_min_loop ?_
    rw [Around.under_plainId PySem.F.plain_min_loop _]
    show wpAny _ A.in1 (seqItems? (.ref g.objs.size) >>= _) _ _ _; refine wpAny_bind (wpAny_seqItems gS rfl ?_)
    show wpAny _ A.in1 (tryCatch (pyNext (.ref _)) _ >>= _) _ _ _; refine wpAny_bind (wpAny_tryCatch (Wk.item 0 _ _ _ (by rw [len]; exact h0) ⟨it0, hl0⟩ fun v h' tk hP hst hk => ?_))
    have hv : vs[0]? = some v := by simpa using hP
    obtain ⟨t, ht⟩ := hi.get 0 k (by rw [hn]; rfl)
    obtain rfl : v = .int k t := Option.some.inj (hv.symm.trans ht)
    have hS' := hk g.objs.size _ (by simpa using hSI) gS
    show wpAny _ A.in1 (updateSeq g.objs.size (fun _ => #[.int k t, .int k t]) >>= _) _ _ _; refine wpAny_bind (wpAny_updateSeq hS' rfl ?_)
    rw [nm]
    have sb := Heap.SameBut.update h' g.objs.size (Obj.mapSeq fun _ => #[Value.int k t, Value.int k t])
    refine wpAny_pure ⟨plainId_quiet PySem.F.plain_min_loop _, min_loopD hh hi hlI hSI hSl _ 1 _ k t _ rfl h0 (hst.1.at fun o q => (sb.2 _ hSI.symm).trans q) (hst.2.at fun o q => (sb.2 l hSl.symm).trans q) (get?_update_seq hS' fun _ => #[Value.int k t, Value.int k t]) fun h2 tk2 t2 q => ?_⟩
    rw [hn] at hQ ⊢
    exact hQ h2 tk2 t2 fun b o z => q b o (ne1 b o z).1 (ne1 b o z).2 ((sb.2 b (ne1 b o z).2).trans (hk b o (by simpa using (ne1 b o z).1) (kS b o z)))
end
section
variable {prog : Program} {w : World} {A : Around} {E : Value → Shared → Prop} {l I S : Addr} {vs : List Value} {ns : List Int} {d : Value} {R : Result → Shared → Prop}
/-- the greater one, the first of two alike -/
def pick_max (b n : Int) : Int := if b < n then n else b
theorem max_loopD (hh : A.handled = none) (hi : IntsAre vs ns) (hlI : l ≠ I) (hSI : S ≠ I) (hSl : S ≠ l) :
    ∀ (r j : Nat) (s : Shared) (kb : Int) (tb : Tok) (c : Nat), ns.length - j = r → j ≤ ns.length → s.heap.IsListIter I l j → s.heap.IsList l vs.toArray → s.heap.get? S = some (seqObj "list" #[.int kb tb, .int kb tb] c) →
      (∀ h' tk t, (∀ b o, b ≠ I → b ≠ S → s.heap.get? b = some o → h'.get? b = some o) → R (.ok (.ret (.int ((ns.drop j).foldl pick_max kb) t))) { s with heap := h', toks := tk }) →
      codeAny (model prog w) A (.builtin "max.loop" ⟨[.ref I, .none, .ref S], [(Str.ofString "default", d)]⟩) R s := by
  have nm : (toString "max" ++ toString ".loop" : String) = "max.loop" := by decide
  have Wk := Walks.list (prog := prog) (w := w) (A := A.in1) hh I l hlI vs.toArray
  have len : vs.toArray.size = ns.length := by rw [List.size_toArray]; exact hi.length
  intro r
  induction r with
  | zero =>
    intro j s kb tb c hr hj hit hl hS hR
    have hjn : j = ns.length := by omega
    refine codeAny_builtin PySem.F.entry_max_loop ?_
    rw [Around.under_plainId PySem.F.plain_max_loop _]
    show wpAny _ A.in1 (seqItems? (.ref S) >>= _) _ _ _; refine wpAny_bind (wpAny_seqItems hS rfl ?_)
    show wpAny _ A.in1 (tryCatch (pyNext (.ref I)) _ >>= _) _ _ _; refine wpAny_bind (wpAny_tryCatch (Wk.done _ _ _ ⟨by rw [len, ← hjn]; exact hit, hl⟩ fun h' tk hk => ?_))
    have hS' := hk S _ (by simpa using hSI) hS
    show wpAny _ A.in1 (updateSeq S (fun _ => #[]) >>= _) _ _ _; refine wpAny_bind (wpAny_updateSeq hS' rfl (wpAny_bind (wpAny_letGo (wpAny_pure ?_))))
    have e : ns.drop j = [] := List.drop_eq_nil_of_le (by omega)
    rw [e] at hR
    refine hR _ _ tb fun b o h1 h2 q => ?_
    exact (Heap.get?_update_other _ _ (fun z => h2 z.symm)).trans (hk b o (by simpa using h1) q)
  | succ r ih =>
    intro j s kb tb c hr hj hit hl hS hR
    have hlt : j < ns.length := by omega
    refine codeAny_builtin PySem.F.entry_max_loop ?_
    rw [Around.under_plainId PySem.F.plain_max_loop _]
    show wpAny _ A.in1 (seqItems? (.ref S) >>= _) _ _ _; refine wpAny_bind (wpAny_seqItems hS rfl ?_)
    show wpAny _ A.in1 (tryCatch (pyNext (.ref I)) _ >>= _) _ _ _; refine wpAny_bind (wpAny_tryCatch (Wk.item j _ _ _ (by rw [len]; exact hlt) ⟨hit, hl⟩ fun v h' tk hP hst hk => ?_))
    have hv : vs[j]? = some v := by simpa using hP
    obtain ⟨k, hk1⟩ : ∃ k, ns[j]? = some k := ⟨_, List.getElem?_eq_getElem hlt⟩
    obtain ⟨t, ht⟩ := hi.get j k hk1
    obtain rfl : v = .int k t := Option.some.inj (hv.symm.trans ht)
    have hS' := hk S _ (by simpa using hSI) hS
    have hdrop : ns.drop j = k :: ns.drop (j + 1) := by
      have q := List.drop_eq_getElem_cons hlt
      rw [List.getElem?_eq_getElem hlt] at hk1
      rw [q, Option.some.inj hk1]
    rw [hdrop, List.foldl_cons] at hR
    show wpAny _ A.in1 (tryCatch (holding [.int k t, .int k t] (richCompare .Gt (.int k t) (.int kb tb) >>= _)) _ >>= _) _ _ _; refine wpAny_bind (wpAny_tryCatch (wpAny_holding (wpAny_bind (CmpOf.ints_gt (prog := prog) (w := w) (A := A.in1) (P := fun i v => ∃ t, v = .int (if i = 0 then k else kb) t) (fun i => if i = 0 then k else kb) (fun _ _ h => h) 0 1 _ _ _ _ _ ⟨t, rfl⟩ ⟨tb, rfl⟩ ?_))))
    refine wpAny_bind (wpAny_holding (wpAny_truthy_bool ?_))
    refine wpAny_bind (wpAny_letGo (wpAny_pure ?_))
    simp only [if_true, Nat.one_ne_zero, if_false, gt_iff_lt]
    by_cases hb : kb < k
    · have eb : pick_max kb k = k := if_pos hb
      rw [eb] at hR
      simp only [hb, decide_true, if_true]
      refine wpAny_bind (wpAny_updateSeq hS' rfl (wpAny_bind (wpAny_letGo ?_)))
      rw [nm]
      have sb := Heap.SameBut.update h' S (Obj.mapSeq fun _ => #[Value.int k t, Value.int k t])
      refine wpAny_pure ⟨plainId_quiet PySem.F.plain_max_loop _, ih (j + 1) _ k t _ (by omega) hlt (hst.1.at fun o q => (sb.2 I hSI.symm).trans q) (hst.2.at fun o q => (sb.2 l hSl.symm).trans q) (get?_update_seq hS' fun _ => #[Value.int k t, Value.int k t]) fun h2 tk2 t2 q => ?_⟩
      exact hR h2 tk2 t2 fun b o h1 h3 z => q b o h1 h3 ((sb.2 b h3).trans (hk b o (by simpa using h1) z))
    · have eb : pick_max kb k = kb := if_neg hb
      rw [eb] at hR
      simp only [hb, decide_false, Bool.false_eq_true, if_false]
      refine wpAny_bind (wpAny_letGo ?_)
      rw [nm]
      refine wpAny_pure ⟨plainId_quiet PySem.F.plain_max_loop _, ih (j + 1) _ kb tb c (by omega) hlt hst.1 hst.2 hS' fun h2 tk2 t2 q => ?_⟩
      exact hR h2 tk2 t2 fun b o h1 h3 z => q b o h1 h3 (hk b o (by simpa using h1) z)
/-- of none the default -/
def best_max (dv : Int) : List Int → Int
  | [] => dv
  | n :: ns => ns.foldl pick_max n
theorem max_argsD (a v : Value) : argsOk "max" ⟨[a], [(Str.ofString "default", v)]⟩ := by unfold argsOk; kernel_rfl
theorem max_listD {s : Shared} {dv : Int} {td : Tok} {Q : Value → Shared → Prop} (hh : A.handled = none) (hi : IntsAre vs ns) (hl : s.heap.IsList l vs.toArray)
    (hQ : ∀ h' tk t, (∀ b o, s.heap.get? b = some o → h'.get? b = some o) → Q (.int (best_max dv ns) t) { s with heap := h', toks := tk }) :
    wpAny (model prog w) A (call (.builtin "max") [.ref l] [(Str.ofString "default", .int dv td)]) Q E s := by
  have nm : (toString "max" ++ toString ".loop" : String) = "max.loop" := by decide
  obtain ⟨ol, hol, _⟩ := id hl
  have hll : l < s.heap.objs.size := Heap.lt_size hol
  refine kmk_tree PySem.F.kind_max PySem.F.plain_max PySem.F.entry_max (max_argsD _ _) ?_
  show wpAny _ A.in1 (Builtin.Builtins.bindParams "max" ["key", "default"] 0 ⟨[], [(Str.ofString "default", .int dv td)]⟩ >>= _) _ _ s; refine wpAny_bind (wpAny_of_eq (show Builtin.Builtins.bindParams "max" ["key", "default"] 0 ⟨[], [(Str.ofString "default", .int dv td)]⟩ = pure [none, some (.int dv td)] from rfl) ?_)
  refine wpAny_bind (wpAny_pure ?_)
  refine wpAny_bind (wpAny_pyIter_list hl ?_)
  refine wpAny_bind (wpAny_newList ?_ (Nat.zero_le _))
  rw [nm]
  generalize hg : s.heap.push { cls := .type "list_iterator", data := .fields #[.ref l, .int 0 0] } = g
  have hgs : g.objs.size = s.heap.objs.size + 1 := by rw [← hg]; exact size_push' ..
  have kg : ∀ b o, s.heap.get? b = some o → g.get? b = some o := fun b o q => by rw [← hg]; exact Heap.get?_push_of_some _ q
  have gI : g.get? s.heap.objs.size = some { cls := .type "list_iterator", data := .fields #[.ref l, .int 0 0] } := by rw [← hg]; exact Heap.get?_push_size _ rfl
  refine wpAny_pure ⟨plainId_quiet PySem.F.plain_max_loop _, ?_⟩
  have hlI : l ≠ s.heap.objs.size := Nat.ne_of_lt hll
  have hSI : g.objs.size ≠ s.heap.objs.size := by rw [hgs]; exact Nat.succ_ne_self _
  have hSl : g.objs.size ≠ l := by rw [hgs]; exact Nat.ne_of_gt (Nat.lt_succ_of_lt hll)
  have kS : ∀ b o, s.heap.get? b = some o → (g.push (seqObj "list" #[] 0)).get? b = some o := fun b o q => Heap.get?_push_of_some _ (kg b o q)
  have gS : (g.push (seqObj "list" #[] 0)).get? g.objs.size = some (seqObj "list" #[] 0) := Heap.get?_push_size _ rfl
  have it0 : (g.push (seqObj "list" #[] 0)).IsListIter s.heap.objs.size l 0 := ⟨_, Heap.get?_push_of_some _ gI, rfl, rfl⟩
  have hl0 : (g.push (seqObj "list" #[] 0)).IsList l vs.toArray := hl.at fun o q => kS l o q
  have Wk := Walks.list (prog := prog) (w := w) (A := A.in1) hh s.heap.objs.size l hlI vs.toArray
  have len : vs.toArray.size = ns.length := by rw [List.size_toArray]; exact hi.length
  have ne1 : ∀ b o, s.heap.get? b = some o → b ≠ s.heap.objs.size ∧ b ≠ g.objs.size := fun b o q => by
    have z := Heap.lt_size q
    exact ⟨Nat.ne_of_lt z, by rw [hgs]; exact Nat.ne_of_lt (Nat.lt_succ_of_lt z)⟩
  cases hn : ns with
  | nil =>
    rw [hn] at hQ len
    refine codeAny_builtin PySem.F.entry_max_loop ?_
    rw [Around.under_plainId PySem.F.plain_max_loop _]
    show wpAny _ A.in1 (seqItems? (.ref g.objs.size) >>= _) _ _ _; refine wpAny_bind (wpAny_seqItems gS rfl ?_)
    show wpAny _ A.in1 (tryCatch (pyNext (.ref _)) _ >>= _) _ _ _; refine wpAny_bind (wpAny_tryCatch (Wk.done _ _ _ ⟨by rw [len]; exact it0, hl0⟩ fun h' tk hk => ?_))
    refine wpAny_bind (wpAny_rule (wpAny_pure ?_))
    exact hQ h' tk td fun b o q => hk b o (by simpa using (ne1 b o q).1) (kS b o q)
  | cons k rest =>
    have h0 : 0 < ns.length := by rw [hn]; exact Nat.succ_pos _
    refine codeAny_builtin PySem.F.entry_max_loop ?_
    rw [Around.under_plainId PySem.F.plain_max_loop _]
    show wpAny _ A.in1 (seqItems? (.ref g.objs.size) >>= _) _ _ _; refine wpAny_bind (wpAny_seqItems gS rfl ?_)
    show wpAny _ A.in1 (tryCatch (pyNext (.ref _)) _ >>= _) _ _ _; refine wpAny_bind (wpAny_tryCatch (Wk.item 0 _ _ _ (by rw [len]; exact h0) ⟨it0, hl0⟩ fun v h' tk hP hst hk => ?_))
    have hv : vs[0]? = some v := by simpa using hP
    obtain ⟨t, ht⟩ := hi.get 0 k (by rw [hn]; rfl)
    obtain rfl : v = .int k t := Option.some.inj (hv.symm.trans ht)
    have hS' := hk g.objs.size _ (by simpa using hSI) gS
    show wpAny _ A.in1 (updateSeq g.objs.size (fun _ => #[.int k t, .int k t]) >>= _) _ _ _; refine wpAny_bind (wpAny_updateSeq hS' rfl ?_)
    rw [nm]
    have sb := Heap.SameBut.update h' g.objs.size (Obj.mapSeq fun _ => #[Value.int k t, Value.int k t])
    refine wpAny_pure ⟨plainId_quiet PySem.F.plain_max_loop _, max_loopD hh hi hlI hSI hSl _ 1 _ k t _ rfl h0 (hst.1.at fun o q => (sb.2 _ hSI.symm).trans q) (hst.2.at fun o q => (sb.2 l hSl.symm).trans q) (get?_update_seq hS' fun _ => #[Value.int k t, Value.int k t]) fun h2 tk2 t2 q => ?_⟩
    rw [hn] at hQ ⊢
    exact hQ h2 tk2 t2 fun b o z => q b o (ne1 b o z).1 (ne1 b o z).2 ((sb.2 b (ne1 b o z).2).trans (hk b o (by simpa using (ne1 b o z).1) (kS b o z)))
end

/-! as rules of the layer -/
open L2
section
variable {X : Cx}
def rBestD (K : PySem.W.Frag) (f : Int → List Int → Int) : List V → List V → Hp → VK → Prop := fun us zs H Q => ∃ (a : Addr) (ns : List Int) (dv : Int), us = [.ref a] ∧ zs = [.int dv] ∧ SqL K H a (ns.map V.int) ∧ Q (.int (f dv ns)) H
theorem cr_minD (hc : X.calm = true) : CallRK X (.builtin "min") [Str.ofString "default"] (rBestD X.K best_min) := by
  intro pins s σ H us zs vs ws Q I r rz h
  obtain ⟨a, ns, dv, rfl, rfl, hs, q⟩ := h
  obtain rfl := Vals.ref1 r
  obtain ⟨w1, rfl, t, rfl⟩ := vals1 rz
  obtain ⟨its, rv, hl, hz⟩ := I.list hs
  exact min_listD (I.ok.hd hc) rv.ints hl.isList fun h' tk t' k => ⟨.int _, H, I.kept (t' := tk) k, ⟨t', rfl⟩, q⟩
theorem cr_maxD (hc : X.calm = true) : CallRK X (.builtin "max") [Str.ofString "default"] (rBestD X.K best_max) := by
  intro pins s σ H us zs vs ws Q I r rz h
  obtain ⟨a, ns, dv, rfl, rfl, hs, q⟩ := h
  obtain rfl := Vals.ref1 r
  obtain ⟨w1, rfl, t, rfl⟩ := vals1 rz
  obtain ⟨its, rv, hl, hz⟩ := I.list hs
  exact max_listD (I.ok.hd hc) rv.ints hl.isList fun h' tk t' k => ⟨.int _, H, I.kept (t' := tk) k, ⟨t', rfl⟩, q⟩
end
end Sr

/-! The defs of the text by their places. -/
namespace Sr
open PySem L2
def topS (i : Nat) : Stmt := PySem.Challenge.pw_selfrights_k28_whole_choosers.main.body.getD i (.Pass ⟨0, 0, 0, 0⟩)
abbrev s_S_init : Stmt := inClass (topS 5) 0
theorem sc_S_init : FnScope ["self", "eyes", "stand", "hand", "other"] ["self", "eyes", "stand", "hand", "other"] (defScope s_S_init) := ⟨rfl, rfl, rfl, by decide +kernel, rfl, by decide +kernel, by decide +kernel⟩
abbrev s_S_over_others : Stmt := inClass (topS 5) 1
theorem sc_S_over_others : FnScope ["self", "found", "other"] ["self"] (defScope s_S_over_others) := ⟨rfl, rfl, rfl, by decide +kernel, rfl, by decide +kernel, by decide +kernel⟩
abbrev s_S_plain : Stmt := inClass (topS 5) 2
theorem sc_S_plain : FnScope ["self", "term", "word"] ["self", "term"] (defScope s_S_plain) := ⟨rfl, rfl, rfl, by decide +kernel, rfl, by decide +kernel, by decide +kernel⟩
abbrev s_S_by_eye : Stmt := inClass (topS 5) 3
theorem sc_S_by_eye : FnScope ["self", "place", "box", "seen"] ["self", "place", "box"] (defScope s_S_by_eye) := ⟨rfl, rfl, rfl, by decide +kernel, rfl, by decide +kernel, by decide +kernel⟩
abbrev s_S_reckoned : Stmt := inClass (topS 5) 4
theorem sc_S_reckoned : FnScope ["self", "term", "word"] ["self", "term"] (defScope s_S_reckoned) := ⟨rfl, rfl, rfl, by decide +kernel, rfl, by decide +kernel, by decide +kernel⟩
abbrev s_S_number_at : Stmt := inClass (topS 5) 5
theorem sc_S_number_at : FnScope ["self", "term", "word", "one"] ["self", "term"] (defScope s_S_number_at) := ⟨rfl, rfl, rfl, by decide +kernel, rfl, by decide +kernel, by decide +kernel⟩
abbrev s_S_is_so : Stmt := inClass (topS 5) 6
theorem sc_S_is_so : FnScope ["self", "claim", "word"] ["self", "claim"] (defScope s_S_is_so) := ⟨rfl, rfl, rfl, by decide +kernel, rfl, by decide +kernel, by decide +kernel⟩
abbrev s_value_at : Stmt := topS 6
theorem sc_value_at : FnScope ["eyes", "stand", "hand", "term"] ["eyes", "stand", "hand", "term"] (defScope s_value_at) := ⟨rfl, rfl, rfl, by decide +kernel, rfl, by decide +kernel, by decide +kernel⟩
abbrev s_holds_at : Stmt := topS 7
theorem sc_holds_at : FnScope ["eyes", "stand", "hand", "claim"] ["eyes", "stand", "hand", "claim"] (defScope s_holds_at) := ⟨rfl, rfl, rfl, by decide +kernel, rfl, by decide +kernel, by decide +kernel⟩
abbrev s_is_whole : Stmt := topS 9
theorem sc_is_whole : FnScope ["thing"] ["thing"] (defScope s_is_whole) := ⟨rfl, rfl, rfl, by decide +kernel, rfl, by decide +kernel, by decide +kernel⟩
abbrev s_rule_at : Stmt := topS 11
theorem sc_rule_at : FnScope ["system", "stand", "hand", "eyes", "sizes", "kinds", "rules", "number", "rule"] ["system", "stand", "hand"] (defScope s_rule_at) := ⟨rfl, rfl, rfl, by decide +kernel, rfl, by decide +kernel, by decide +kernel⟩
abbrev s_ready_hands : Stmt := topS 12
theorem sc_ready_hands : FnScope ["system", "stand", "hand"] ["system", "stand"] (defScope s_ready_hands) := ⟨rfl, rfl, rfl, by decide +kernel, rfl, by decide +kernel, by decide +kernel⟩
abbrev s_boxes_behind : Stmt := topS 13
theorem sc_boxes_behind : FnScope ["system", "stand", "hand", "eyes", "sizes", "kinds", "rules", "boxes", "box", "term"] ["system", "stand", "hand"] (defScope s_boxes_behind) := ⟨rfl, rfl, rfl, by decide +kernel, rfl, by decide +kernel, by decide +kernel⟩
abbrev s_ask_acting : Stmt := topS 14
theorem sc_ask_acting : FnScope ["system", "stand", "hands", "able", "last", "place", "hand"] ["system", "stand", "hands"] (defScope s_ask_acting) := ⟨rfl, rfl, rfl, by decide +kernel, rfl, by decide +kernel, by decide +kernel⟩
abbrev s_acted : Stmt := topS 15
theorem sc_acted : FnScope ["system", "stand", "hands", "found", "hand"] ["system", "stand", "hands"] (defScope s_acted) := ⟨rfl, rfl, rfl, by decide +kernel, rfl, by decide +kernel, by decide +kernel⟩
abbrev s_choices : Stmt := topS 18
theorem sc_choices : FnScope ["chooser", "ready", "hand", "found", "some"] ["chooser", "ready"] (defScope s_choices) := ⟨rfl, rfl, rfl, by decide +kernel, rfl, by decide +kernel, by decide +kernel⟩
abbrev s_steps_at : Stmt := topS 19
theorem sc_steps_at : FnScope ["system", "chooser", "stand", "ready", "hands"] ["system", "chooser", "stand"] (defScope s_steps_at) := ⟨rfl, rfl, rfl, by decide +kernel, rfl, by decide +kernel, by decide +kernel⟩
abbrev s_may_act : Stmt := topS 20
theorem sc_may_act : FnScope ["system", "chooser", "stand", "thing", "hand", "ready"] ["system", "chooser", "stand", "thing"] (defScope s_may_act) := ⟨rfl, rfl, rfl, by decide +kernel, rfl, by decide +kernel, by decide +kernel⟩
abbrev s_walked : Stmt := topS 22
theorem sc_walked : FnScope ["system", "chooser", "stand", "row", "here", "number", "hands"] ["system", "chooser", "stand", "row"] (defScope s_walked) := ⟨rfl, rfl, rfl, by decide +kernel, rfl, by decide +kernel, by decide +kernel⟩
abbrev s_law_feed : Stmt := topS 24
theorem sc_law_feed : FnScope ["_law_script"] ["_law_script"] (defScope s_law_feed) := ⟨rfl, rfl, rfl, by decide +kernel, rfl, by decide +kernel, by decide +kernel⟩
abbrev s_law_draw : Stmt := topS 25
theorem sc_law_draw : FnScope ["_law_feed_here", "_law_many", "_law_cells", "_law_found", "_law_turn", "_law_cell", "_law_mixed"] ["_law_feed_here", "_law_many"] (defScope s_law_draw) := ⟨rfl, rfl, rfl, by decide +kernel, rfl, by decide +kernel, by decide +kernel⟩
abbrev s_law_shuffled : Stmt := topS 26
theorem sc_law_shuffled : FnScope ["_law_feed_here", "_law_some", "_law_left", "_law_found", "_law_k"] ["_law_feed_here", "_law_some"] (defScope s_law_shuffled) := ⟨rfl, rfl, rfl, by decide +kernel, rfl, by decide +kernel, by decide +kernel⟩
abbrev s_law_web : Stmt := topS 27
theorem sc_law_web : FnScope ["_law_feed_here", "_law_many", "_law_way", "_law_found", "_law_hand", "_law_others", "_law_other"] ["_law_feed_here", "_law_many"] (defScope s_law_web) := ⟨rfl, rfl, rfl, by decide +kernel, rfl, by decide +kernel, by decide +kernel⟩
abbrev s_law_leaf : Stmt := topS 28
theorem sc_law_leaf : FnScope ["_law_feed_here", "_law_sizes", "_law_inner", "_law_box", "_law_some"] ["_law_feed_here", "_law_sizes", "_law_inner"] (defScope s_law_leaf) := ⟨rfl, rfl, rfl, by decide +kernel, rfl, by decide +kernel, by decide +kernel⟩
abbrev s_law_term : Stmt := topS 29
theorem sc_law_term : FnScope ["_law_feed_here", "_law_sizes", "_law_deep", "_law_inner", "_law_way", "_law_word", "_law_one", "_law_other"] ["_law_feed_here", "_law_sizes", "_law_deep", "_law_inner"] (defScope s_law_term) := ⟨rfl, rfl, rfl, by decide +kernel, rfl, by decide +kernel, by decide +kernel⟩
abbrev s_law_claim : Stmt := topS 30
theorem sc_law_claim : FnScope ["_law_feed_here", "_law_sizes", "_law_deep", "_law_inner", "_law_way", "_law_one"] ["_law_feed_here", "_law_sizes", "_law_deep", "_law_inner"] (defScope s_law_claim) := ⟨rfl, rfl, rfl, by decide +kernel, rfl, by decide +kernel, by decide +kernel⟩
abbrev s_law_rules : Stmt := topS 31
theorem sc_law_rules : FnScope ["_law_feed_here", "_law_sizes", "_law_found", "_law_k", "_law_lays", "_law_box"] ["_law_feed_here", "_law_sizes"] (defScope s_law_rules) := ⟨rfl, rfl, rfl, by decide +kernel, rfl, by decide +kernel, by decide +kernel⟩
abbrev s_law_product : Stmt := topS 32
theorem sc_law_product : FnScope ["_law_some", "_law_found", "_law_one"] ["_law_some"] (defScope s_law_product) := ⟨rfl, rfl, rfl, by decide +kernel, rfl, by decide +kernel, by decide +kernel⟩
abbrev s_law_token : Stmt := topS 33
theorem sc_law_token : FnScope ["_law_feed_here", "_law_most", "_law_many", "_law_size", "_law_like", "_law_first", "_law_other", "_law_web_here", "_law_hand"] ["_law_feed_here", "_law_most"] (defScope s_law_token) := ⟨rfl, rfl, rfl, by decide +kernel, rfl, by decide +kernel, by decide +kernel⟩
abbrev s_law_system : Stmt := topS 34
theorem sc_law_system : FnScope ["_law_feed_here", "_law_most", "_law_many", "_law_sizes", "_law_rules_here", "_law_k", "_law_kinds", "_law_hand"] ["_law_feed_here", "_law_most"] (defScope s_law_system) := ⟨rfl, rfl, rfl, by decide +kernel, rfl, by decide +kernel, by decide +kernel⟩
abbrev s_law_stand : Stmt := topS 35
theorem sc_law_stand : FnScope ["_law_feed_here", "_law_system_here", "_law_found", "_law_hand", "_law_size"] ["_law_feed_here", "_law_system_here"] (defScope s_law_stand) := ⟨rfl, rfl, rfl, by decide +kernel, rfl, by decide +kernel, by decide +kernel⟩
abbrev s_law_apart : Stmt := topS 36
theorem sc_law_apart : FnScope ["_law_web_here", "_law_hands", "_law_hand", "_law_other"] ["_law_web_here", "_law_hands"] (defScope s_law_apart) := ⟨rfl, rfl, rfl, by decide +kernel, rfl, by decide +kernel, by decide +kernel⟩
abbrev s_law_right : Stmt := topS 37
theorem sc_law_right : FnScope ["_law_feed_here", "_law_system_here", "_law_stand_here", "_law_some", "_law_ones", "_law_told", "_law_step", "_law_hands", "_law_behind", "_law_hand", "_law_row"] ["_law_feed_here", "_law_system_here", "_law_stand_here"] (defScope s_law_right) := ⟨rfl, rfl, rfl, by decide +kernel, rfl, by decide +kernel, by decide +kernel⟩
abbrev s_law : Stmt := topS 38
theorem sc_law : FnScope ["_law_script", "_law_feed_here", "_law_turn", "_law_system_here", "_law_k"] ["_law_script"] (defScope s_law) := ⟨rfl, rfl, rfl, by decide +kernel, rfl, by decide +kernel, by decide +kernel⟩
end Sr

/-! The program as plain functions. -/
namespace Sr
open PySem L2

mutual
inductive Tm where
  | num (k : Int) | own (b : Nat) | eye (e b : Nat) | me | its (b : Nat) | it
  | plus (a b : Tm) | less (a b : Tm) | rest (a : Tm) (k : Int) | least (a : Tm) | most (a : Tm) | many (c : Cl) | ite (c : Cl) (a b : Tm)
inductive Cl where
  | yes | like (a b : Tm) | bel (a b : Tm) | not (c : Cl) | and (a b : Cl) | or (a b : Cl)
end
def dS (s : String) : PyData := .str (Str.ofString s)
def dN (n : Nat) : PyData := .int (n : Int)
mutual
def Tm.dat : Tm → PyData
  | .num k => .tuple [dS "num", .int k]
  | .own b => .tuple [dS "own", dN b]
  | .eye e b => .tuple [dS "eye", dN e, dN b]
  | .me => .tuple [dS "me"]
  | .its b => .tuple [dS "its", dN b]
  | .it => .tuple [dS "it"]
  | .plus a b => .tuple [dS "plus", a.dat, b.dat]
  | .less a b => .tuple [dS "less", a.dat, b.dat]
  | .rest a k => .tuple [dS "rest", a.dat, .int k]
  | .least a => .tuple [dS "least", a.dat]
  | .most a => .tuple [dS "most", a.dat]
  | .many c => .tuple [dS "many", c.dat]
  | .ite c a b => .tuple [dS "if", c.dat, a.dat, b.dat]
def Cl.dat : Cl → PyData
  | .yes => .tuple [dS "yes"]
  | .like a b => .tuple [dS "like", a.dat, b.dat]
  | .bel a b => .tuple [dS "below", a.dat, b.dat]
  | .not c => .tuple [dS "not", c.dat]
  | .and a b => .tuple [dS "and", a.dat, b.dat]
  | .or a b => .tuple [dS "or", a.dat, b.dat]
end
/-- what a hand sees: its boxes, whom it sees with their boxes, its number -/
structure Sg where
  own : List Int
  seen : List (Nat × List Int)
  me : Nat
mutual
def Tm.val (s : Sg) (o : Nat × List Int) : Tm → Int
  | .num k => k
  | .own b => s.own.getD b 0
  | .eye e b => (s.seen.getD e (0, [])).2.getD b 0
  | .me => s.me
  | .its b => o.2.getD b 0
  | .it => o.1
  | .plus a b => a.val s o + b.val s o
  | .less a b => if a.val s o - b.val s o > 0 then a.val s o - b.val s o else 0
  | .rest a k => a.val s o % k
  | .least a => best_min 0 (s.seen.map fun x => a.val s x)
  | .most a => best_max 0 (s.seen.map fun x => a.val s x)
  | .many c => (((s.seen.filter fun x => c.so s x).length : Nat) : Int)
  | .ite c a b => if c.so s o = true then a.val s o else b.val s o
def Cl.so (s : Sg) (o : Nat × List Int) : Cl → Bool
  | .yes => true
  | .like a b => decide (a.val s o = b.val s o)
  | .bel a b => decide (a.val s o < b.val s o)
  | .not c => !c.so s o
  | .and a b => a.so s o && b.so s o
  | .or a b => a.so s o || b.so s o
end
/-! terms as they may stand: nb boxes, within a look at others or not -/
mutual
def Tm.Ok (nb : Nat) (inn : Bool) : Tm → Prop
  | .num _ => True
  | .own b => b < nb
  | .eye _ b => b < nb
  | .me => True
  | .its b => inn = true ∧ b < nb
  | .it => inn = true
  | .plus a b => a.Ok nb inn ∧ b.Ok nb inn
  | .less a b => a.Ok nb inn ∧ b.Ok nb inn
  | .rest a k => a.Ok nb inn ∧ 0 < k
  | .least a => a.Ok nb true
  | .most a => a.Ok nb true
  | .many c => c.Ok nb true
  | .ite c a b => c.Ok nb inn ∧ a.Ok nb inn ∧ b.Ok nb inn
def Cl.Ok (nb : Nat) (inn : Bool) : Cl → Prop
  | .yes => True
  | .like a b => a.Ok nb inn ∧ b.Ok nb inn
  | .bel a b => a.Ok nb inn ∧ b.Ok nb inn
  | .not c => c.Ok nb inn
  | .and a b => a.Ok nb inn ∧ b.Ok nb inn
  | .or a b => a.Ok nb inn ∧ b.Ok nb inn
end
mutual
def Tm.rk : Tm → Nat
  | .plus a b => max a.rk b.rk + 1
  | .less a b => max a.rk b.rk + 1
  | .rest a _ => a.rk + 1
  | .least a => a.rk + 1
  | .most a => a.rk + 1
  | .many c => c.rk + 1
  | .ite c a b => max c.rk (max a.rk b.rk) + 1
  | _ => 0
def Cl.rk : Cl → Nat
  | .yes => 0
  | .like a b => max a.rk b.rk + 1
  | .bel a b => max a.rk b.rk + 1
  | .not c => c.rk + 1
  | .and a b => max a.rk b.rk + 1
  | .or a b => max a.rk b.rk + 1
end

/-! ### systems, stands -/
abbrev Rule := Cl × List (Nat × Tm)
structure Sys where
  eyes : List (List Nat)
  sizes : List Int
  kinds : List Nat
  rules : List (List Rule)
abbrev Stand := List (List Int)
def dNs (l : List Nat) : PyData := .tuple (l.map dN)
def dIs (l : List Int) : PyData := .tuple (l.map .int)
def dEyes (e : List (List Nat)) : PyData := .tuple (e.map dNs)
def dStand (s : Stand) : PyData := .tuple (s.map dIs)
def dLay (l : Nat × Tm) : PyData := .tuple [dN l.1, l.2.dat]
def dRule (r : Rule) : PyData := .tuple [r.1.dat, .tuple (r.2.map dLay)]
def dRules (rs : List Rule) : PyData := .tuple (rs.map dRule)
def Sys.dat (S : Sys) : PyData := .tuple [dEyes S.eyes, dIs S.sizes, dNs S.kinds, .tuple (S.rules.map dRules)]
structure Sys.Ok (S : Sys) : Prop where
  many : S.eyes.length ≤ 4
  wide : ∀ l ∈ S.eyes, l.length ≤ 6
  eye : ∀ l ∈ S.eyes, ∀ e ∈ l, e < S.eyes.length
  nb : S.sizes.length ≤ 3
  size : ∀ z ∈ S.sizes, 0 < z
  kinds : S.kinds.length = S.eyes.length
  kind : ∀ k ∈ S.kinds, k < S.rules.length
  few : ∀ rs ∈ S.rules, rs.length ≤ 10
  cl : ∀ rs ∈ S.rules, ∀ r ∈ rs, r.1.Ok S.sizes.length false ∧ r.1.rk < 4
  tm : ∀ rs ∈ S.rules, ∀ r ∈ rs, ∀ l ∈ r.2, l.1 < S.sizes.length ∧ l.2.Ok S.sizes.length false ∧ l.2.rk < 4
  lays : ∀ rs ∈ S.rules, ∀ r ∈ rs, r.2.length ≤ 10
structure StOk (S : Sys) (st : Stand) : Prop where
  len : st.length = S.eyes.length
  box : ∀ b ∈ st, b.length = S.sizes.length
def seen (eyes : List (List Nat)) (st : Stand) (h : Nat) : List (Nat × List Int) := (eyes.getD h []).map fun e => (e, st.getD e [])
def sight (eyes : List (List Nat)) (st : Stand) (h : Nat) : Sg := ⟨st.getD h [], seen eyes st h, h⟩
def Sys.ruleOf (S : Sys) (h : Nat) : List Rule := S.rules.getD (S.kinds.getD h 0) []
def Sys.ruleAt (S : Sys) (st : Stand) (h : Nat) : Option Nat := (S.ruleOf h).findIdx? fun r => r.1.so (sight S.eyes st h) (0, [])
def Sys.ready (S : Sys) (st : Stand) : List Nat := (List.range st.length).filter fun h => (S.ruleAt st h).isSome
def Sys.laysAt (S : Sys) (st : Stand) (h : Nat) : List (Nat × Tm) := (((S.ruleOf h).getD ((S.ruleAt st h).getD 0) (.yes, []))).2
def Sys.laid (S : Sys) (st : Stand) (h : Nat) (bx : List Int) (l : Nat × Tm) : List Int := bx.set l.1 (l.2.val (sight S.eyes st h) (0, []) % S.sizes.getD l.1 1)
def Sys.boxes (S : Sys) (st : Stand) (h : Nat) : List Int := (S.laysAt st h).foldl (S.laid st h) (st.getD h [])
def Sys.act (S : Sys) (st : Stand) (hs : List Nat) : Stand := hs.foldl (fun f h => f.set h (S.boxes st h)) st
/-! ### choosing -/
def subs : List Nat → List (List Nat)
  | l => l.foldl (fun f h => f ++ f.map (· ++ [h])) [[]]
def leHs (a b : List Nat) : Bool := PySem.W.dataLe false id (dNs a) (dNs b)
inductive Ch where
  | one | some | all | fair
def Ch.s : Ch → Str
  | .one => "one"
  | .some => "some"
  | .all => "all"
  | .fair => "fair"
def choices : Ch → List Nat → List (List Nat)
  | .all, r => if r = [] then [] else [r]
  | .some, r => (subs r).tail.mergeSort leHs
  | _, r => r.map ([·])
def Sys.steps (S : Sys) (ch : Ch) (st : Stand) : List (List Nat × Stand) := (choices ch (S.ready st)).map fun hs => (hs, S.act st hs)
def dStep (x : List Nat × Stand) : PyData := .tuple [dNs x.1, dStand x.2]
end Sr

/-! Plain facts: sets of hands, their order, data of bounded depth. -/
namespace Sr
open PySem L2
/-! ### shapes -/
def Sh (k : Nat) (d : PyData) : Prop := d.canLay0 = true ∧ d.depth ≤ k
theorem Sh.ok {k : Nat} {d : PyData} (h : Sh k d) (hk : k ≤ 64) : SeqAt.shaped d = true := by
  show (d.canLay0 && decide (d.depth ≤ 64)) = true
  rw [h.1, Bool.true_and]
  exact decide_eq_true (Nat.le_trans h.2 hk)
theorem Sh.mono {j k : Nat} {d : PyData} (h : Sh j d) (hk : j ≤ k) : Sh k d := ⟨h.1, Nat.le_trans h.2 hk⟩
theorem sh_int (i : Int) : Sh 0 (.int i) := ⟨by simp [PyData.canLay0], by simp [PyData.depth]⟩
theorem sh_all {k : Nat} : ∀ {xs : List PyData}, (∀ x ∈ xs, Sh k x) → PyData.canLayAll0 xs = true ∧ PyData.depthAll xs ≤ k
  | [], _ => ⟨by simp [PyData.canLayAll0], by simp [PyData.depthAll]⟩
  | x :: xs, h => by
    obtain ⟨a, b⟩ := sh_all fun y hy => h y (List.mem_cons_of_mem _ hy)
    obtain ⟨c, d⟩ := h x List.mem_cons_self
    refine ⟨by rw [PyData.canLayAll0, a, c]; rfl, ?_⟩
    rw [PyData.depthAll]
    omega
theorem sh_tup {k : Nat} {xs : List PyData} (h : ∀ x ∈ xs, Sh k x) : Sh (k + 1) (.tuple xs) := by
  obtain ⟨a, b⟩ := sh_all h
  refine ⟨by rw [PyData.canLay0]; exact a, ?_⟩
  rw [PyData.depth]
  omega
theorem sh_lst {k : Nat} {xs : List PyData} (h : ∀ x ∈ xs, Sh k x) : Sh (k + 1) (.list xs) := by
  obtain ⟨a, b⟩ := sh_all h
  refine ⟨by rw [PyData.canLay0]; exact a, ?_⟩
  rw [PyData.depth]
  omega
theorem sh_map {α : Type} {k : Nat} {g : α → PyData} (h : ∀ a, Sh k (g a)) (l : List α) : ∀ x ∈ l.map g, Sh k x := fun x hx => by
  obtain ⟨n, _, rfl⟩ := List.mem_map.mp hx
  exact h n
theorem sh_N (n : Nat) : Sh 0 (dN n) := sh_int _
theorem sh_Ns (l : List Nat) : Sh 1 (dNs l) := sh_tup (sh_map sh_N l)
theorem sh_Is (l : List Int) : Sh 1 (dIs l) := sh_tup (sh_map sh_int l)
theorem sh_Stand (l : Stand) : Sh 2 (dStand l) := sh_tup (sh_map sh_Is l)
theorem sh_Step (x : List Nat × Stand) : Sh 3 (dStep x) := sh_tup fun y hy => by
  simp only [List.mem_cons, List.not_mem_nil, or_false] at hy
  rcases hy with rfl | rfl
  · exact (sh_Ns _).mono (by decide)
  · exact sh_Stand _
/-! ### == of these -/
theorem eqvAll_map {α : Type} {g : α → PyData} (h : ∀ a b, PyData.eqv (g a) (g b) = true ↔ a = b) : ∀ (xs ys : List α), PyData.eqvAll (xs.map g) (ys.map g) = true ↔ xs = ys
  | [], [] => by simp [PyData.eqvAll]
  | [], _ :: _ => by simp [PyData.eqvAll]
  | _ :: _, [] => by simp [PyData.eqvAll]
  | x :: xs, y :: ys => by
    rw [List.map_cons, List.map_cons, PyData.eqvAll, Bool.and_eq_true, h, eqvAll_map h xs ys, List.cons.injEq]
theorem eqv_tup {α : Type} {g : α → PyData} (h : ∀ a b, PyData.eqv (g a) (g b) = true ↔ a = b) (xs ys : List α) : PyData.eqv (.tuple (xs.map g)) (.tuple (ys.map g)) = true ↔ xs = ys := by
  rw [PyData.eqv]; exact eqvAll_map h xs ys
theorem eqv_lst {α : Type} {g : α → PyData} (h : ∀ a b, PyData.eqv (g a) (g b) = true ↔ a = b) (xs ys : List α) : PyData.eqv (.list (xs.map g)) (.list (ys.map g)) = true ↔ xs = ys := by
  rw [PyData.eqv]; exact eqvAll_map h xs ys
theorem eqv_I (a b : Int) : PyData.eqv (.int a) (.int b) = true ↔ a = b := by simp [PyData.eqv]
theorem eqv_N (a b : Nat) : PyData.eqv (dN a) (dN b) = true ↔ a = b := by simp [dN, PyData.eqv]; omega
theorem eqv_Ns (a b : List Nat) : PyData.eqv (dNs a) (dNs b) = true ↔ a = b := eqv_tup eqv_N a b
theorem eqv_Is (a b : List Int) : PyData.eqv (dIs a) (dIs b) = true ↔ a = b := eqv_tup eqv_I a b
theorem eqv_Stand (a b : Stand) : PyData.eqv (dStand a) (dStand b) = true ↔ a = b := eqv_tup eqv_Is a b
theorem eqv_Step (a b : List Nat × Stand) : PyData.eqv (dStep a) (dStep b) = true ↔ a = b := by
  obtain ⟨a1, a2⟩ := a
  obtain ⟨b1, b2⟩ := b
  unfold dStep
  simp only [PyData.eqv, PyData.eqvAll, Bool.and_eq_true, Bool.and_true, eqv_Ns, eqv_Stand, Prod.mk.injEq]
theorem bool_eq {a b : Bool} (h : a = true ↔ b = true) : a = b := by cases a <;> cases b <;> simp_all
/-! ### sets of hands -/
theorem subs_snoc (l : List Nat) (h : Nat) : subs (l ++ [h]) = subs l ++ (subs l).map (· ++ [h]) := by unfold subs; rw [List.foldl_append]; rfl
/-- from behind -/
theorem snoc_ind {P : List Nat → Prop} (h0 : P []) (h1 : ∀ l h, P l → P (l ++ [h])) (l : List Nat) : P l := by
  have q : ∀ l : List Nat, P l.reverse := fun l => by
    induction l with
    | nil => exact h0
    | cons a r ih => rw [List.reverse_cons]; exact h1 _ _ ih
  have := q l.reverse
  rwa [List.reverse_reverse] at this
theorem subs_len (l : List Nat) : (subs l).length = 2 ^ l.length := by
  induction l using snoc_ind with
  | h0 => rfl
  | h1 l h ih => rw [subs_snoc, List.length_append, List.length_map, ih, List.length_append, List.length_singleton, Nat.pow_succ]; omega
theorem subs_head (l : List Nat) : ∃ t, subs l = [] :: t ∧ ∀ x ∈ t, x ≠ [] := by
  induction l using snoc_ind with
  | h0 => exact ⟨[], rfl, fun x hx => by simp at hx⟩
  | h1 l h ih =>
    obtain ⟨t, e, ht⟩ := ih
    refine ⟨t ++ (subs l).map (· ++ [h]), by rw [subs_snoc, e]; rfl, fun x hx => ?_⟩
    rcases List.mem_append.mp hx with z | z
    · exact ht x z
    · obtain ⟨y, _, rfl⟩ := List.mem_map.mp z
      simp
theorem subs_sub (l : List Nat) : ∀ x ∈ subs l, x.Sublist l := by
  induction l using snoc_ind with
  | h0 => intro x hx; simp [subs] at hx; subst hx; exact List.Sublist.refl _
  | h1 l h ih =>
    intro x hx
    rw [subs_snoc] at hx
    rcases List.mem_append.mp hx with z | z
    · exact (ih x z).trans (List.sublist_append_left l [h])
    · obtain ⟨y, hy, rfl⟩ := List.mem_map.mp z
      exact (ih y hy).append (List.Sublist.refl _)
theorem subs_tail_ne {l x : List Nat} (h : x ∈ (subs l).tail) : x ≠ [] := by
  obtain ⟨t, e, ht⟩ := subs_head l
  rw [e] at h
  exact ht x h
theorem subs_tail_sub {l x : List Nat} (h : x ∈ (subs l).tail) : x.Sublist l := subs_sub l x (List.mem_of_mem_tail h)
theorem subs_all (l : List Nat) : l ∈ subs l := by
  induction l using snoc_ind with
  | h0 => simp [subs]
  | h1 l h ih => rw [subs_snoc]; exact List.mem_append_right _ (List.mem_map.mpr ⟨l, ih, rfl⟩)
theorem subs_one {l : List Nat} {a : Nat} (ha : a ∈ l) : [a] ∈ subs l := by
  induction l using snoc_ind with
  | h0 => simp at ha
  | h1 l h ih =>
    rw [subs_snoc]
    rcases List.mem_append.mp ha with z | z
    · exact List.mem_append_left _ (ih z)
    · rw [List.mem_singleton.mp z]
      obtain ⟨t, e, _⟩ := subs_head l
      exact List.mem_append_right _ (List.mem_map.mpr ⟨[], by rw [e]; exact List.mem_cons_self, rfl⟩)
theorem tail_of_ne {l x : List Nat} (h : x ∈ subs l) (hx : x ≠ []) : x ∈ (subs l).tail := by
  obtain ⟨t, e, _⟩ := subs_head l
  rw [e] at h ⊢
  rcases List.mem_cons.mp h with z | z
  · exact (hx z).elim
  · exact z
theorem ready_up (S : Sys) (st : Stand) : (S.ready st).Pairwise (· < ·) := List.Pairwise.filter _ List.pairwise_lt_range
/-- each once -/
theorem subs_nodup {l : List Nat} (h : l.Pairwise (· < ·)) : (subs l).Nodup := by
  induction l using snoc_ind with
  | h0 => simp [subs]
  | h1 l a ih =>
    have hl := (List.pairwise_append.mp h)
    rw [subs_snoc]
    refine List.nodup_append.mpr ⟨ih hl.1, ?_, fun x hx y hy e => ?_⟩
    · refine List.Pairwise.map _ (fun x y hxy e => hxy (List.append_cancel_right e)) (ih hl.1)
    · obtain ⟨z, _, rfl⟩ := List.mem_map.mp hy
      have s := subs_sub l x hx
      have ma : a ∈ l := s.subset (by rw [e]; exact List.mem_append_right _ (List.mem_singleton.mpr rfl))
      exact absurd (hl.2.2 a ma a (List.mem_singleton.mpr rfl)) (Nat.lt_irrefl _)
/-! ### two rising lists of the same -/
theorem rise_eq : ∀ {xs ys : List Int}, xs.Pairwise (· < ·) → ys.Pairwise (· < ·) → (∀ k, k ∈ xs ↔ k ∈ ys) → xs = ys
  | [], [], _, _, _ => rfl
  | [], y :: ys, _, _, h => by have := (h y).mpr List.mem_cons_self; simp at this
  | x :: xs, [], _, _, h => by have := (h x).mp List.mem_cons_self; simp at this
  | x :: xs, y :: ys, hx, hy, h => by
    obtain ⟨x1, x2⟩ := List.pairwise_cons.mp hx
    obtain ⟨y1, y2⟩ := List.pairwise_cons.mp hy
    have e : x = y := by
      rcases List.mem_cons.mp ((h x).mp List.mem_cons_self) with z | z
      · exact z
      · rcases List.mem_cons.mp ((h y).mpr List.mem_cons_self) with w | w
        · exact w.symm
        · have a := y1 x z
          have b := x1 y w
          omega
    subst e
    congr 1
    refine rise_eq x2 y2 fun k => ⟨fun hk => ?_, fun hk => ?_⟩
    · rcases List.mem_cons.mp ((h k).mp (List.mem_cons_of_mem _ hk)) with z | z
      · have := x1 k hk
        omega
      · exact z
    · rcases List.mem_cons.mp ((h k).mpr (List.mem_cons_of_mem _ hk)) with z | z
      · have := y1 k hk
        omega
      · exact z
theorem rise_nat {hs : List Nat} (h : hs.Pairwise (· < ·)) : (hs.map fun n : Nat => (n : Int)).Pairwise (· < ·) := List.Pairwise.map _ (fun a b h => by omega) h
/-! ### hands and their order -/
theorem alike_Ns (a b : List Nat) : PySem.W.alike (dNs a) (dNs b) = true := by
  show PySem.W.alike (.tuple (a.map dN)) (.tuple (b.map dN)) = true
  rw [PySem.W.alike]
  induction a generalizing b with
  | nil => simp [PySem.W.alikeAll]
  | cons x a ih =>
    cases b with
    | nil => simp [PySem.W.alikeAll]
    | cons y b => rw [List.map_cons, List.map_cons, PySem.W.alikeAll, ih]; rfl
theorem lt_Ns (a b : List Nat) : PySem.W.dataLt (dNs a) (dNs b) = decide ((a.map fun n : Nat => (n : Int)) < (b.map fun n : Nat => (n : Int))) := by
  unfold dNs
  rw [show a.map dN = (a.map fun n : Nat => (n : Int)).map PyData.int by rw [List.map_map]; rfl, show b.map dN = (b.map fun n : Nat => (n : Int)).map PyData.int by rw [List.map_map]; rfl, PySem.W.dataLt_tuple]
  exact PySem.W.dataLt_ints _ _
theorem le_Hs (a b : List Nat) : leHs a b = !decide ((b.map fun n : Nat => (n : Int)) < (a.map fun n : Nat => (n : Int))) := by
  unfold leHs
  rw [PySem.W.dataLe_eq]
  show (!PySem.W.dataLt (dNs b) (dNs a)) = _
  rw [lt_Ns]
theorem le_trans' (a b c : List Nat) (h1 : leHs a b = true) (h2 : leHs b c = true) : leHs a c = true := by
  rw [le_Hs] at *
  simp only [Bool.not_eq_true', decide_eq_false_iff_not] at *
  exact List.not_lt.mpr (List.le_trans (List.not_lt.mp h1) (List.not_lt.mp h2))
theorem le_total' (a b : List Nat) : (leHs a b || leHs b a) = true := by
  rw [le_Hs, le_Hs]
  by_cases h : (b.map fun n : Nat => (n : Int)) < (a.map fun n : Nat => (n : Int))
  · have h' : ¬ (a.map fun n : Nat => (n : Int)) < (b.map fun n : Nat => (n : Int)) := List.not_lt.mpr (List.le_of_lt h)
    simp [h']
  · simp [h]
end Sr

/-! A list of a def's own that a loop fills or changes. -/
namespace Sr
open PySem L2
/-- what no list bears -/
def FmFl (d : Fm) : Prop := ∀ (i : Nat) x, d[i]? = some (some x) → Fl x
/-- no more is said -/
def Fle (d e : Fm) : Prop := d.length = e.length ∧ ∀ (i : Nat) x, d[i]? = some (some x) → e[i]? = some (some x)
theorem Fle.refl (d : Fm) : Fle d d := ⟨rfl, fun _ _ h => h⟩
theorem Fle.trans {a b c : Fm} (h : Fle a b) (k : Fle b c) : Fle a c := ⟨h.1.trans k.1, fun i x q => k.2 i x (h.2 i x q)⟩
theorem Fle.nil : Fle [] [] := Fle.refl []
theorem Fle.none {x : Option Dv} {d e : Fm} (h : Fle d e) : Fle (none :: d) (x :: e) := ⟨congrArg (· + 1) h.1, fun i y q => by
  cases i with
  | zero => simp at q
  | succ i => exact h.2 i y (by simpa using q)⟩
theorem Fle.cons {x : Option Dv} {d e : Fm} (h : Fle d e) : Fle (x :: d) (x :: e) := ⟨congrArg (· + 1) h.1, fun i y q => by
  cases i with
  | zero => simpa using q
  | succ i => exact h.2 i y (by simpa using q)⟩
theorem FmFl.nil : FmFl [] := fun i x h => by simp at h
theorem FmFl.none {d : Fm} (h : FmFl d) : FmFl (none :: d) := fun i x e => by
  cases i with
  | zero => simp at e
  | succ i => exact h i x (by simpa using e)
theorem FmFl.some {x : Dv} {d : Fm} (hx : Fl x) (h : FmFl d) : FmFl (some x :: d) := fun i y e => by
  cases i with
  | zero => simp at e; subst e; exact hx
  | succ i => exact h i y (by simpa using e)
section
variable {K : PySem.W.Frag} {W : Wd} {d ds : Fm} {te ti : TE} {ta : TA}
theorem Sl.le {H : Hp} {σ : L2.St} {e : Fm} (s : Sl K H σ e) (h : Fle d e) : Sl K H σ d := ⟨by rw [s.len, h.1], fun i x q => s.at_ i x (h.2 i x q)⟩
theorem Sl.lst {H : Hp} {σ : L2.St} {p : Addr} {us vs : List V} (s : Sl K H σ d) (hf : FmFl d) (hp : H p = some (.lst us)) : Sl K (upd H p (.lst vs)) σ d := ⟨s.len, fun i x e => by
  obtain ⟨u, a, b⟩ := s.at_ i x e
  exact ⟨u, a, b.fl hp (hf i x e)⟩⟩
theorem Wd.lst {H H' : Hp} {p : Addr} {us : List V} (r : W.R H H') (h : H p = some (.lst us)) : H' p = some (.lst us) := W.keep r p _ (fun _ z => nomatch z) h
theorem Kt.trans {H1 H2 H3 : Hp} (a : Kt H1 H2) (b : Kt H2 H3) : Kt H1 H3 := fun c xs r => b c xs (a c xs r)
theorem Wd.kt {H H' : Hp} (r : W.R H H') : Kt H H' := fun _ _ q => (W.keep r).rdT q
theorem Kt.sqT {H H' : Hp} {a : Addr} {xs : List V} (k : Kt H H') (h : SqT K H a xs) : SqT K H' a xs := h.elim (fun q => .inl (k _ _ q)) .inr
/-- a walk that leans on tuples alone -/
structure ItF (K : PySem.W.Frag) (J : It) (xs : List Dv) (H0 : Hp) : Prop where
  go : ∀ i H, Kt H0 H → i < xs.length → J.go i H
  stop : ∀ H, Kt H0 H → J.stop xs.length H
  yld : ∀ i H u H', Kt H0 H → i < xs.length → J.yld i H u H' → H' = H ∧ ∃ x, xs[i]? = some x ∧ Dok K H' x u
def If (K : PySem.W.Frag) (W : Wd) (wi : TI) (ds : Fm) (A : List Dv → Prop) : Prop := ∀ σ H, W.I H → Sl K H σ ds → ∀ R' : It → Hp → Prop, (∀ J H' xs, W.R H H' → ItF K J xs H' → A xs → R' J H') → wi σ H R'
theorem if_tup {A : List Dv → Prop} (h : Yp K W te ds fun x => ∃ es, x = .d (.tuple es) ∧ (∀ e ∈ es, nolist e = true) ∧ A (es.map .d)) : If K W (iTup K te) ds A := fun σ H i s R' q =>
  h σ H i s _ fun u H1 x r1 d1 p1 => by
    obtain ⟨es, rfl, hn, p⟩ := p1
    obtain ⟨a, us, rfl, h1, h2⟩ := dp_tup d1
    refine ⟨a, rfl, ⟨us, h1⟩, q (Itt K a) H1 _ r1 ⟨fun j H2 r2 hj => ?_, fun H2 r2 => ?_, fun j H2 u H3 r2 hj y => ?_⟩ p⟩
    · rw [List.length_map, ← dpAll_len h2] at hj
      exact ⟨us, us[j], r2.sqT h1, List.getElem?_eq_getElem hj⟩
    · exact ⟨us, r2.sqT h1, by rw [List.length_map, ← dpAll_len h2]; exact Nat.le_refl _⟩
    · obtain ⟨rfl, hy⟩ := y
      rw [List.length_map] at hj
      have h3 : DpAll K H3 us es := dps_nolist r2 es us (nolists_all hn) h2
      obtain ⟨w, g1, g2⟩ := dpAll_at h3 (List.getElem?_eq_getElem hj)
      obtain rfl : u = w := Option.some.inj ((hy us (r2.sqT h1)).symm.trans g1)
      exact ⟨rfl, .d es[j], by simp [hj], g2⟩
theorem if_range {A : List Dv → Prop} (h : Ap K W ta ds fun xs => ∃ n : Nat, xs = [.d (.int (n : Int))] ∧ n ≤ 1000 ∧ A (rng n)) : If K W (iRng1 ta) ds A := fun σ H i s R' q =>
  h σ H i s _ fun us H1 xs r1 d1 p1 => by
    obtain ⟨n, rfl, hn, p⟩ := p1
    cases d1 with
    | cons a b =>
      cases b
      obtain rfl := dp_int a
      have hz : (n : Int).toNat = n := by omega
      refine ⟨(n : Int), rfl, by omega, by omega, ?_⟩
      rw [hz]
      refine q (Itr 0 n) H1 (rng n) r1 ⟨fun j H2 r2 hj => by rw [rng_len] at hj; exact hj, fun H2 r2 => by rw [rng_len]; exact Nat.le_refl n, fun j H2 u H3 r2 hj y => ?_⟩ p
      rw [rng_len] at hj
      obtain ⟨rfl, rfl⟩ := y
      refine ⟨rfl, _, rng_at hj, ?_⟩
      rw [Int.zero_add]
      exact Dp.int _
theorem z_assoc {a b c : TS} {N : Fm → Prop} {Rt : Dv → Prop} (h : Zp K W (tSeq (tSeq a b) c) ds N Rt) : Zp K W (tSeq a (tSeq b c)) ds N Rt := h
/-- less is known -/
theorem z_le {a : TS} {N : Fm → Prop} {Rt : Dv → Prop} (hl : Fle d ds) (h : Zp K W a d N Rt) : Zp K W a ds N Rt := fun D σ H i s => h D σ H i (s.le hl)
/-- with the list's own slot -/
abbrev wf (d : Fm) (f : Nat) (p : Addr) : Fm := d.set f (some (.v (.ref p)))
/-- a new list -/
def Ynew (K : PySem.W.Frag) (W : Wd) (te : TE) (ds : Fm) (A : List Dv → Prop) : Prop := ∀ σ H, W.I H → Sl K H σ ds → ∀ Q : VK, (∀ p us H' acc, W.R H H' → H' p = none → Doks K H' acc us → (∀ y ∈ acc, Fl y) → acc.length ≤ 500 → A acc → Q (.ref p) (upd H' p (.lst us))) → te σ H Q
theorem ynew_nil {A : List Dv → Prop} (h : A []) : Ynew K W (tLst tNil) ds A := fun σ H i s Q q => ⟨Nat.zero_le _, fun p hp => q p [] H [] (W.refl H) hp .nil (fun _ z => (by simp at z)) (Nat.zero_le _) h⟩
theorem ynew_list {A : List Dv → Prop} (h : Yp K W te ds fun x => ∃ es, seqD x = some es ∧ (∀ e ∈ es, nolist e = true) ∧ es.length ≤ 500 ∧ A (es.map .d)) : Ynew K W (tCB (rListS K) (tCons te tNil)) ds A := fun σ H i s Q q =>
  h σ H i s _ fun u H1 x r1 d1 p1 => by
    obtain ⟨es, hx, hn, hl, ha⟩ := p1
    obtain ⟨c, us, rfl, h1, h2⟩ := seqD_ok hx d1
    refine ⟨c, us, rfl, h1, fun l hl' => q l us H1 _ r1 hl' (doks_of h2) (fun y hy => ?_) (by rw [List.length_map]; exact hl) ha⟩
    obtain ⟨e, he, rfl⟩ := List.mem_map.mp hy
    exact hn e he
/-- a statement that changes the list last of all -/
def Zm (K : PySem.W.Frag) (W : Wd) (ts : TS) (p : Addr) (d : Fm) (acc : List Dv) (N : Fm → List Dv → Prop) : Prop := ∀ (D : Ends) σ H us, W.I H → Sl K H σ d → H p = some (.lst us) → Doks K H acc us → us.length ≤ 900 →
  (∀ σ' H1 us' d3 acc', W.R H H1 → H1 p = some (.lst us) → Sl K H1 σ' d3 → Doks K H1 acc' us' → N d3 acc' → D.nx σ' (upd H1 p (.lst us'))) → ts D σ H
theorem zm_seq {t1 t2 : TS} {p : Addr} {acc : List Dv} {M : Fm → Prop} {N : Fm → List Dv → Prop} (h : Zp K W t1 d M (fun _ => False)) (h2 : ∀ d', M d' → Zm K W t2 p d' acc N) : Zm K W (tSeq t1 t2) p d acc N := fun D σ H us i s hp ok hl q =>
  h _ σ H i s (fun σ' H' d' r s' m => h2 d' m D σ' H' us (W.im r i) s' (Wd.lst r hp) (Doks.keep (W.keep r) ok) hl fun σ2 H2 us' d3 acc' r2 hp2 s2 ok2 n => q σ2 H2 us' d3 acc' (W.trans r r2) hp2 s2 ok2 n) fun _ _ _ _ _ z => z.elim
theorem zm_if {t1 t2 : TS} {tt : TT} {p : Addr} {acc : List Dv} {A : Bool → Prop} {N : Fm → List Dv → Prop} (ht : Tp K W tt d A) (h1 : A true → Zm K W t1 p d acc N) (h0 : A false → Zm K W t2 p d acc N) : Zm K W (tIfS tt t1 t2) p d acc N := fun D σ H us i s hp ok hl q =>
  ht σ H i s _ fun c H1 r1 p1 => by
    have hp1 := Wd.lst r1 hp
    cases c with
    | true => exact h1 p1 D σ H1 us (W.im r1 i) (s.keep (W.keep r1)) hp1 (Doks.keep (W.keep r1) ok) hl fun σ2 H2 us' d3 acc' r2 hp2 s2 ok2 n => q σ2 H2 us' d3 acc' (W.trans r1 r2) hp2 s2 ok2 n
    | false => exact h0 p1 D σ H1 us (W.im r1 i) (s.keep (W.keep r1)) hp1 (Doks.keep (W.keep r1) ok) hl fun σ2 H2 us' d3 acc' r2 hp2 s2 ok2 n => q σ2 H2 us' d3 acc' (W.trans r1 r2) hp2 s2 ok2 n
theorem zm_app {p : Addr} {f : Nat} {acc : List Dv} {N : Fm → List Dv → Prop} (hf : d[f]? = some (some (.v (.ref p)))) (h : Yp K W te d fun y => N d (acc ++ [y])) :
    Zm K W (tDrop (tBM K "list" rAppend (tVar f) (tCons te tNil))) p d acc N := fun D σ H us i s hp ok hl q => by
  obtain ⟨u, hu, e⟩ := s.at_ f _ hf
  obtain rfl : u = .ref p := e
  refine ⟨.ref p, hu, .inl ⟨rfl, us, SqL.of hp⟩, h σ H i s _ fun v H1 y r1 d1 n => ?_⟩
  have hp1 := Wd.lst r1 hp
  exact ⟨p, us, v, rfl, rfl, hp1, Nat.lt_of_le_of_lt hl (by decide), q σ H1 _ d _ r1 hp1 (s.keep (W.keep r1)) (paired_app (Doks.keep (W.keep r1) ok) (.cons d1 .nil)) n⟩
theorem doks_set {H : Hp} {y : Dv} {v : V} (h : Dok K H y v) : ∀ {acc : List Dv} {us : List V} (j : Nat), Doks K H acc us → Doks K H (acc.set j y) (us.set j v)
  | _, _, _, .nil => .nil
  | _, _, 0, .cons _ t => .cons h t
  | _, _, j + 1, .cons a t => .cons a (doks_set h j t)
theorem zm_set {p : Addr} {f : Nat} {acc : List Dv} {N : Fm → List Dv → Prop} (hf : d[f]? = some (some (.v (.ref p)))) {A : Dv → Prop} (h : Yp K W te d A)
    (hi : Yp K W ti d fun x => ∃ j : Nat, x = .d (.int (j : Int)) ∧ j < acc.length ∧ ∀ y, A y → N d (acc.set j y)) :
    Zm K W (tAsg te (gSub (tVar f) ti rSetL)) p d acc N := fun D σ H us i s hp ok hl q => by
  refine h σ H i s _ fun v H1 y r1 d1 py => ?_
  obtain ⟨u, hu, e⟩ := (s.keep (W.keep r1)).at_ f _ hf
  obtain rfl : u = .ref p := e
  refine ⟨.ref p, hu, hi σ H1 (W.im r1 i) (s.keep (W.keep r1)) _ fun w H2 x r2 d2 px => ?_⟩
  obtain ⟨j, rfl, hj, hN⟩ := px
  obtain rfl := dp_int d2
  have r12 := W.trans r1 r2
  have hp1 := Wd.lst r12 hp
  have ok2 := Doks.keep (W.keep r12) ok
  have hju : j < us.length := by rw [← ok.length]; exact hj
  refine ⟨p, us, (j : Int), j, rfl, rfl, hp1, ?_, q σ H2 _ d _ r12 hp1 (s.keep (W.keep r12)) (doks_set (d1.keep (W.keep r2)) j ok2) (hN y py)⟩
  unfold ixN
  rw [if_pos (by omega), if_pos (by omega)]
  simp
/-- found = NEW; for ..: .. found .. -/
theorem z_build {f : Nat} {wi : TI} {g : TG} {ts : TS} {A0 : List Dv → Prop} {A : List Dv → Prop} {N : Fm → Prop} {Rt : Dv → Prop} (Jv : List Dv → Nat → Fm → List Dv → Prop) (hn : Ynew K W te ds A0) (hds : FmFl (ds.set f none)) (hf : f < ds.length)
    (hi : ∀ p, If K W wi (wf ds f p) A) (h0 : ∀ xs acc, A xs → A0 acc → Jv xs 0 (ds.set f none) acc)
    (hs : ∀ p xs, A xs → ∀ i x d acc, xs[i]? = some x → d.length = ds.length → Jv xs i d acc → Gp K W g x (wf d f p) fun d2 => Zm K W ts p d2 acc fun d3 acc' => acc'.length ≤ acc.length + 1 ∧ (∀ y ∈ acc', y ∈ acc ∨ Fl y) ∧ d3[f]? = some (some (.v (.ref p))) ∧
      ∃ d4, Fle d4 d3 ∧ d4.length = ds.length ∧ FmFl d4 ∧ Jv xs (i + 1) d4 acc')
    (hz : ∀ xs, A xs → xs.length ≤ 300) (hd : ∀ xs d acc, A xs → d.length = ds.length → Jv xs xs.length d acc → N (d.set f (some (dLs K acc)))) : Zp K W (tSeq (tAsg te (gName f)) (tFor wi g ts)) ds N Rt := fun D σ H ii s a b => by
  refine hn σ H ii s _ fun p us H0 acc0 r0 hp0 ok0 fl0 len0 pa0 => ?_
  have i00 : W.I H0 := W.im r0 ii
  have i0 : W.I (upd H0 p (.lst us)) := W.im (W.same (sameN hp0 _)) i00
  have s0 : Sl K (upd H0 p (.lst us)) (σ.set f (some (.ref p))) (wf ds f p) := ((s.keep (W.keep r0)).keep (Kp.of_same (sameN hp0 _))).set f rfl
  refine hi p _ _ i0 s0 _ fun J H1 xs r1 it ha => ?_
  have zx := hz xs ha
  have wfle : ∀ {d e : Fm}, Fle d e → e[f]? = some (some (Dv.v (.ref p))) → Fle (wf d f p) e := fun {d e} h hfe => ⟨by unfold wf; rw [List.length_set]; exact h.1, fun i x q => by
    unfold wf at q
    by_cases hfi : f = i
    · subst hfi
      obtain ⟨hlt, e'⟩ := List.getElem?_eq_some_iff.mp q
      rw [List.getElem_set_self] at e'
      rw [hfe, e']
    · rw [List.getElem?_set_ne hfi] at q
      exact h.2 i x q⟩
  have wffl : ∀ {d : Fm}, FmFl d → FmFl (wf d f p) := fun {d} h i x q => by
    unfold wf at q
    by_cases hfi : f = i
    · subst hfi
      obtain ⟨hlt, e'⟩ := List.getElem?_eq_some_iff.mp q
      rw [List.getElem_set_self] at e'
      cases e'
      trivial
    · rw [List.getElem?_set_ne hfi] at q
      exact h i x q
  have okn : Doks K H1 acc0 us := Doks.keep (W.keep r1) (Doks.keep (Kp.of_same (sameN hp0 _)) ok0)
  have hp1 : H1 p = some (.lst us) := Wd.lst r1 upd_same
  have r01 : W.R H0 H1 := W.trans (W.same (sameN hp0 _)) r1
  have s1 : Sl K H1 (σ.set f (some (.ref p))) (wf (ds.set f none) f p) := by
    have e : wf (ds.set f none) f p = wf ds f p := by unfold wf; rw [List.set_set]
    rw [e]
    exact s0.keep (W.keep r1)
  -- the state at turn j: from H0 all is kept
  refine ⟨fun j m σ' H' => m = xs.length - j ∧ j ≤ xs.length ∧ ∃ us' d acc, W.R H0 H' ∧ Kt H1 H' ∧ H' p = some (.lst us') ∧ d.length = ds.length ∧ FmFl d ∧ Sl K H' σ' (wf d f p) ∧ Doks K H' acc us' ∧ (∀ y ∈ acc, Fl y) ∧ acc.length ≤ 500 + j ∧ Jv xs j d acc,
    ⟨xs.length, by simp, Nat.zero_le _, us, ds.set f none, acc0, r01, fun _ _ r => r, hp1, by simp, hds, s1, okn, fl0, len0, h0 xs acc0 ha pa0⟩, ?_⟩
  rintro j m σ' H' ⟨rfl, hj, us', d, acc, r2, kt, hp, hdl, hfl, s2, ok, fl, len, jv⟩
  by_cases hlt : j < xs.length
  · refine .inr ⟨it.go j H' kt hlt, fun σ2 H2 => ∃ us' d acc, W.R H0 H2 ∧ Kt H1 H2 ∧ H2 p = some (.lst us') ∧ d.length = ds.length ∧ FmFl d ∧ Sl K H2 σ2 (wf d f p) ∧ Doks K H2 acc us' ∧ (∀ y ∈ acc, Fl y) ∧ acc.length ≤ 500 + (j + 1) ∧ Jv xs (j + 1) d acc, fun σ2 H2 w => ⟨xs.length - (j + 1), by omega, rfl, hlt, w⟩, fun u H2 y => ?_⟩
    obtain ⟨rfl, x, hx, dx⟩ := it.yld j H' u H2 kt hlt y
    have hlu : us'.length = acc.length := ok.length.symm
    refine hs p xs ha j x d acc hx hdl jv σ' H2 u (W.im r2 i00) s2 dx _ fun σ3 H3 d3 r3 s3 z => ?_
    refine z _ σ3 H3 us' (W.im r3 (W.im r2 i00)) s3 (Wd.lst r3 hp) (Doks.keep (W.keep r3) ok) (by omega) fun σ4 H4 us4 d5 acc4 r4 hp4 s4 ok4 n => ?_
    obtain ⟨n1, n2, n3, d4, n4, n5, n6, n7⟩ := n
    have r34 := W.trans r3 r4
    have fl4 : ∀ y ∈ acc4, Fl y := fun y hy => (n2 y hy).elim (fl y) id
    have le4 := wfle n4 n3
    exact ⟨us4, d4, acc4, W.mu (W.trans r2 r34) hp0, (kt.trans (Wd.kt r34)).trans (Kt.lst hp4), upd_same, n5, n6, (s4.le le4).lst (wffl n6) hp4, doks_fl hp4 fl4 ok4, fl4, by omega, n7⟩
  · have e : j = xs.length := by omega
    subst e
    refine .inl ⟨it.stop H' kt, a σ' H' _ (W.trans r0 r2) ?_ (hd xs d acc ha hdl jv)⟩
    have hfd : (wf d f p)[f]? = some (some (Dv.v (.ref p))) := by unfold wf; rw [List.getElem?_set_self (by rw [hdl]; exact hf)]
    obtain ⟨u, hu, eu⟩ := s2.at_ f _ hfd
    obtain rfl : u = .ref p := eu
    refine ⟨by rw [s2.len]; simp [wf], fun i x e => ?_⟩
    by_cases hfi : f = i
    · subst hfi
      obtain ⟨hlt2, e'⟩ := List.getElem?_eq_some_iff.mp e
      rw [List.getElem_set_self] at e'
      cases e'
      exact ⟨_, hu, p, us', rfl, hp, ok⟩
    · rw [List.getElem?_set_ne hfi] at e
      exact s2.at_ i x (by unfold wf; rw [List.getElem?_set_ne hfi]; exact e)
end
end Sr

/-! The class Sight. -/
namespace Sr
open PySem L2
structure Sgt (K : PySem.W.Frag) (mg : Str → Option Value) (C : Addr) : Prop where
  cl : Cls K C
  nE : NoAttr K C "eyes_told"
  nS : NoAttr K C "stand_told"
  nO : NoAttr K C "own_hand"
  nL : NoAttr K C "looked_at"
  mg : mg "Sight" = some (.ref C)
def sgF (ve vs vh vo : V) : List (Str × V) := putF "looked_at" vo (putF "own_hand" vh (putF "stand_told" vs (putF "eyes_told" ve [])))
theorem k1 : ¬ (("eyes_told" : Str) = "looked_at") := by decide +kernel
theorem k2 : ¬ (("eyes_told" : Str) = "own_hand") := by decide +kernel
theorem k3 : ¬ (("eyes_told" : Str) = "stand_told") := by decide +kernel
theorem k4 : ¬ (("stand_told" : Str) = "looked_at") := by decide +kernel
theorem k5 : ¬ (("stand_told" : Str) = "own_hand") := by decide +kernel
theorem k6 : ¬ (("own_hand" : Str) = "looked_at") := by decide +kernel
section
variable {ve vs vh vo : V}
theorem sgF_e : (sgF ve vs vh vo).lookup ("eyes_told" : Str) = some ve := by unfold sgF; rw [lookup_putF, if_neg k1, lookup_putF, if_neg k2, lookup_putF, if_neg k3, lookup_putF, if_pos rfl]
theorem sgF_s : (sgF ve vs vh vo).lookup ("stand_told" : Str) = some vs := by unfold sgF; rw [lookup_putF, if_neg k4, lookup_putF, if_neg k5, lookup_putF, if_pos rfl]
theorem sgF_h : (sgF ve vs vh vo).lookup ("own_hand" : Str) = some vh := by unfold sgF; rw [lookup_putF, if_neg k6, lookup_putF, if_pos rfl]
theorem sgF_l : (sgF ve vs vh vo).lookup ("looked_at" : Str) = some vo := by unfold sgF; rw [lookup_putF, if_pos rfl]
theorem sgF_no {m : Str} (h1 : ¬ m = "looked_at") (h2 : ¬ m = "own_hand") (h3 : ¬ m = "stand_told") (h4 : ¬ m = "eyes_told") : (sgF ve vs vh vo).lookup m = none := by
  unfold sgF; rw [lookup_putF, if_neg h1, lookup_putF, if_neg h2, lookup_putF, if_neg h3, lookup_putF, if_neg h4]; rfl
end
def dO : Option Nat → PyData
  | none => .none
  | some j => dN j
/-- a Sight stands at u -/
def SgAt (K : PySem.W.Frag) (C : Addr) (eyes : List (List Nat)) (st : Stand) (h : Nat) (o : Option Nat) (H : Hp) (u : V) : Prop :=
  ∃ p dx ve vs vh vo, u = .ref p ∧ H p = some (.ins C dx (sgF ve vs vh vo)) ∧ Dp K H ve (dEyes eyes) ∧ Dp K H vs (dStand st) ∧ Dp K H vh (dN h) ∧ Dp K H vo (dO o)
def dSg (K : PySem.W.Frag) (C : Addr) (eyes : List (List Nat)) (st : Stand) (h : Nat) (o : Option Nat) : Dv := .s (SgAt K C eyes st h o) fun _ _ _ k ⟨p, dx, ve, vs, vh, vo, e, a, b, c, d, f⟩ =>
  ⟨p, dx, ve, vs, vh, vo, e, k p _ (fun _ q => nomatch q) a, dp_keep k _ _ b, dp_keep k _ _ c, dp_keep k _ _ d, dp_keep k _ _ f⟩
theorem nl_N (n : Nat) : nolist (dN n) = true := rfl
theorem nl_Ns (l : List Nat) : nolist (dNs l) = true := by
  unfold dNs; rw [nolist]
  exact nolists_all fun x hx => by obtain ⟨n, _, rfl⟩ := List.mem_map.mp hx; exact nl_N n
theorem nl_Is (l : List Int) : nolist (dIs l) = true := by
  unfold dIs; rw [nolist]
  exact nolists_all fun x hx => by obtain ⟨n, _, rfl⟩ := List.mem_map.mp hx; rfl
theorem nl_Eyes (l : List (List Nat)) : nolist (dEyes l) = true := by
  unfold dEyes; rw [nolist]
  exact nolists_all fun x hx => by obtain ⟨n, _, rfl⟩ := List.mem_map.mp hx; exact nl_Ns n
theorem nl_Stand (l : Stand) : nolist (dStand l) = true := by
  unfold dStand; rw [nolist]
  exact nolists_all fun x hx => by obtain ⟨n, _, rfl⟩ := List.mem_map.mp hx; exact nl_Is n
theorem nl_O (o : Option Nat) : nolist (dO o) = true := by cases o <;> rfl
section
variable {K : PySem.W.Frag} {C : Addr} {eyes : List (List Nat)} {st : Stand} {h : Nat} {o : Option Nat} {W : Wd} {ds : Fm} {te : TE} {P : Dv → Prop} {mg : Str → Option Value}
theorem fl_Sg : Fl (dSg K C eyes st h o) := fun H q us ws u hq ⟨p, dx, ve, vs, vh, vo, e, a, b, c, d, f⟩ =>
  ⟨p, dx, ve, vs, vh, vo, e, (upd_ne (ne_of a hq (fun z => nomatch z))).trans a, dp_nolist (Kt.lst hq) _ _ (nl_Eyes _) b, dp_nolist (Kt.lst hq) _ _ (nl_Stand _) c, dp_nolist (Kt.lst hq) _ _ (nl_N _) d, dp_nolist (Kt.lst hq) _ _ (nl_O _) f⟩
theorem y_fE (T : Sgt K mg C) (hy : Yp K W te ds (· = dSg K C eyes st h o)) (p : P (.d (dEyes eyes))) : Yp K W (tFld K te "eyes_told") ds P := fun σ H i s Q q =>
  hy σ H i s _ fun u H1 x r1 d1 e1 => by
    subst e1
    obtain ⟨a, dx, ve, vs, vh, vo, rfl, g1, g2, g3, g4, g5⟩ := d1
    exact ⟨a, C, dx, _, ve, rfl, g1, T.cl, T.nE, sgF_e, q ve H1 (.d (dEyes eyes)) r1 g2 p⟩
theorem y_fS (T : Sgt K mg C) (hy : Yp K W te ds (· = dSg K C eyes st h o)) (p : P (.d (dStand st))) : Yp K W (tFld K te "stand_told") ds P := fun σ H i s Q q =>
  hy σ H i s _ fun u H1 x r1 d1 e1 => by
    subst e1
    obtain ⟨a, dx, ve, vs, vh, vo, rfl, g1, g2, g3, g4, g5⟩ := d1
    exact ⟨a, C, dx, _, vs, rfl, g1, T.cl, T.nS, sgF_s, q vs H1 (.d (dStand st)) r1 g3 p⟩
theorem y_fO (T : Sgt K mg C) (hy : Yp K W te ds (· = dSg K C eyes st h o)) (p : P (.d (dN h))) : Yp K W (tFld K te "own_hand") ds P := fun σ H i s Q q =>
  hy σ H i s _ fun u H1 x r1 d1 e1 => by
    subst e1
    obtain ⟨a, dx, ve, vs, vh, vo, rfl, g1, g2, g3, g4, g5⟩ := d1
    exact ⟨a, C, dx, _, vh, rfl, g1, T.cl, T.nO, sgF_h, q vh H1 (.d (dN h)) r1 g4 p⟩
theorem y_fL (T : Sgt K mg C) (hy : Yp K W te ds (· = dSg K C eyes st h o)) (p : P (.d (dO o))) : Yp K W (tFld K te "looked_at") ds P := fun σ H i s Q q =>
  hy σ H i s _ fun u H1 x r1 d1 e1 => by
    subst e1
    obtain ⟨a, dx, ve, vs, vh, vo, rfl, g1, g2, g3, g4, g5⟩ := d1
    exact ⟨a, C, dx, _, vo, rfl, g1, T.cl, T.nL, sgF_l, q vo H1 (.d (dO o)) r1 g5 p⟩
/-- a name that is no attribute -/
def NoF (m : Str) : Prop := ¬ m = "looked_at" ∧ ¬ m = "own_hand" ∧ ¬ m = "stand_told" ∧ ¬ m = "eyes_told"
theorem y_meth {m : Str} {sp : Sp} {E : XK} {ta : TA} {B : List Dv → Prop} (hm : NoF m) (hy : Yp K W te ds (· = dSg K C eyes st h o)) (ha : Ap K W ta ds B) (hs : ∀ xs, B xs → Sps K W sp (dSg K C eyes st h o :: xs) P) : Yp K W (tMeth C m sp [] E te ta) ds P := fun σ H i s Q q =>
  hy σ H i s _ fun u H1 x r1 d1 e1 => by
    subst e1
    obtain ⟨a, dx, ve, vs, vh, vo, rfl, g1, _⟩ := id d1
    refine ⟨a, dx, _, rfl, g1, sgF_no hm.1 hm.2.1 hm.2.2.1 hm.2.2.2, ha σ H1 (W.im r1 i) (s.keep (W.keep r1)) _ fun us H2 xs r2 d2 b => ?_⟩
    rw [List.append_nil]
    exact hs xs b H2 (.ref a :: us) (W.im (W.trans r1 r2) i) (.cons (Dok.keep (W.keep r2) (x := dSg K C eyes st h o) d1) d2) Q E fun z H' d r3 d3 p3 => q z H' d (W.trans r1 (W.trans r2 r3)) d3 p3
/-- __init__ -/
def spIni (C : Addr) : Sp := fun us H Q _ => ∃ p dx ve vs vh vo, us = [.ref p, ve, vs, vh, vo] ∧ H p = some (.ins C dx []) ∧ Q .non (upd H p (.ins C dx (sgF ve vs vh vo)))
theorem y_mk {E : XK} {ta : TA} (ha : Ap K W ta ds fun xs => ∃ eyes st h o, xs = [.d (dEyes eyes), .d (dStand st), .d (dN h), .d (dO o)] ∧ P (dSg K C eyes st h o)) : Yp K W (tMake C (spIni C) [] E ta) ds P := fun σ H i s Q q =>
  ha σ H i s _ fun us H1 xs r1 d1 e1 => by
    obtain ⟨eyes, st, h, o, rfl, p⟩ := e1
    cases d1 with
    | cons a1 t1 =>
      cases t1 with
      | cons a2 t2 =>
        cases t2 with
        | cons a3 t3 =>
          cases t3 with
          | cons a4 t4 =>
            cases t4
            intro x dx nx ndx ne
            refine ⟨x, dx, _, _, _, _, rfl, upd_same, rfl, ?_⟩
            rw [upd_upd]
            have sm : ∀ fs, Same H1 (upd (upd H1 dx (.own x)) x (.ins C dx fs)) := fun fs b ob e => (upd_ne (ne_of_none e nx)).trans ((upd_ne (ne_of_none e ndx)).trans e)
            have kp := fun fs => Kp.of_same (sm fs)
            exact q _ _ (dSg K C eyes st h o) (W.trans r1 (W.same (sm _))) ⟨x, dx, _, _, _, _, rfl, upd_same, dp_keep (kp _) _ _ a1, dp_keep (kp _) _ _ a2, dp_keep (kp _) _ _ a3, dp_keep (kp _) _ _ a4⟩ p
end
section
variable {p : Program} {w : World} {K : PySem.W.Frag} {mg : Str → Option Value} {base : Heap} {C : Addr}
/-- a method of the class, with its promise -/
structure CalM (p : Program) (w : World) (K : PySem.W.Frag) (mg : Str → Option Value) (base : Heap) (C : Addr) (m : Str) (k : Nat) (ps : List Str) (sp : Sp) : Prop where
  ex : ∃ (f : Addr) (fd : FuncData), Meth K C m f ∧ FnOk p w K mg base CX0 k f fd ps sp ∧ Binds K fd ps []
theorem CalM.mono {m : Str} {j k : Nat} {ps : List Str} {sp : Sp} (c : CalM p w K mg base C m j ps sp) (h : j ≤ k) : CalM p w K mg base C m k ps sp := by
  obtain ⟨f, fd, a, b, c⟩ := c.ex
  exact ⟨f, fd, a, b.mono h, c⟩
theorem pe_calm {X : Cx} {C : Addr} {m : Str} {k : Nat} {ps : List Str} {sp : Sp} {apos pos : Pos} {o e : Expr} {es : List Expr} {ta : TE} {t : TA} {pl : Sem Bool} (c : CalM X.prog X.w X.K X.mg X.base C m k ps sp) (cl : Cls X.K C) (hr : Room k X.A) (ho : PE X o ta) (ha : PA X (e :: es) t)
    (hst : starEach (e :: es) X.env = (false, eval e X.env) :: starEach es X.env := by rfl) (hpl : (backTo pos (starEach es X.env)).any (·.1) = false := by rfl)
    (ht : eval (.Call (.Attribute o m apos) (e :: es) [] pos) X.env = (do
      let ov ← eval o X.env; standAt apos.atName
      let (f, first) ← holding [ov] (getMethod ov m pl); callWith pos f first (backTo pos (starEach (e :: es) X.env)) (backToKw pos (keywordEach [] X.env))) := by rfl) :
    PE X (.Call (.Attribute o m apos) (e :: es) [] pos) (tMeth C m sp [] E0 ta t) := by
  obtain ⟨f, fd, a, b, c⟩ := c.ex
  exact pe_meth (pl := pl) ho cl a b hr c .nil pass0 ha hst hpl ht
theorem pe_calm0 {X : Cx} {C : Addr} {m : Str} {k : Nat} {ps : List Str} {sp : Sp} {apos pos : Pos} {o : Expr} {ta : TE} {pl : Sem Bool} (c : CalM X.prog X.w X.K X.mg X.base C m k ps sp) (cl : Cls X.K C) (hr : Room k X.A) (ho : PE X o ta)
    (ht : eval (.Call (.Attribute o m apos) [] [] pos) X.env = (do
      let ov ← eval o X.env; standAt apos.atName
      let (f, first) ← holding [ov] (getMethod ov m pl); callWith pos f first (backTo pos (starEach [] X.env)) (backToKw pos (keywordEach [] X.env))) := by rfl) :
    PE X (.Call (.Attribute o m apos) [] [] pos) (tMeth C m sp [] E0 ta tNil) := by
  obtain ⟨f, fd, a, b, c⟩ := c.ex
  exact pe_meth0 (pl := pl) ho cl a b hr c .nil pass0 ht
/-- the making of one -/
structure CalI (p : Program) (w : World) (K : PySem.W.Frag) (mg : Str → Option Value) (base : Heap) (C : Addr) (k : Nat) (ps : List Str) (sp : Sp) : Prop where
  ex : ∃ (f : Addr) (fd : FuncData), Mk K C f ∧ FnOk p w K mg base CX0 k f fd ps sp ∧ Binds K fd ps []
theorem pe_mk {X : Cx} {C : Addr} {k : Nat} {ps : List Str} {sp : Sp} {nm : Str} {ppos pos : Pos} {e : Expr} {es : List Expr} {t : TA} (c : CalI X.prog X.w X.K X.mg X.base C k ps sp) (hm : X.mg nm = some (.ref C)) (hr : Room (k + 1) X.A) (ha : PA X (e :: es) t) (hg : Gl X nm := by rfl)
    (hdb : (nm == ("__debug__" : Str)) = false := by decide) (he : starEach (e :: es) X.env = (false, eval e X.env) :: starEach es X.env := by rfl) (hpl : (backTo pos (starEach es X.env)).any (·.1) = false := by rfl) :
    PE X (.Call (.Name nm ppos) (e :: es) [] pos) (tMake C sp [] E0 t) := by
  obtain ⟨f, fd, a, b, c⟩ := c.ex
  exact pe_make a b hr hg hm c .nil pass0 ha hdb he hpl
theorem ok_init {f : Addr} {fd : FuncData} (F : Fun K "__init__" "Sight.__init__" s_S_init f fd) (T : Sgt K mg C) : FnOk p w K mg base CX0 1 f fd ["self", "eyes", "stand", "hand", "other"] (spIni C) := by
  refine F.ok sc_S_init (fun vs H Q E h => ?_) (fun cdv A outer s H vs Q E hr h => ?_)
  · obtain ⟨p, dx, ve, vs, vh, vo, rfl, _⟩ := h
    rfl
  · obtain ⟨p, dx, ve, vs, vh, vo, rfl, hp, k⟩ := h
    refine ⟨_, (pss_cons (ps_fld (pv 0) (pv 1) rfl) (pss_cons (ps_fld (pv 0) (pv 2) rfl) (pss_cons (ps_fld (pv 0) (pv 3) rfl) (pss_one (ps_fld (pv 0) (pv 4) rfl))))), ?_⟩
    refine ⟨_, rfl, _, rfl, p, C, dx, _, rfl, hp, T.cl, T.nE, (by show 0 < 1000; decide), _, rfl, _, rfl, p, C, dx, _, rfl, upd_same, T.cl, T.nS, (by show 1 < 1000; decide), _, rfl, _, rfl, p, C, dx, _, rfl, upd_same, T.cl, T.nO, (by show 2 < 1000; decide), _, rfl, _, rfl, p, C, dx, _, rfl, upd_same, T.cl, T.nL, (by show 3 < 1000; decide), ?_⟩
    rw [upd_upd, upd_upd, upd_upd]
    exact k
end
end Sr

/-! What terms come to: the methods of Sight. -/
namespace Sr
open PySem L2
structure Vw (nb : Nat) (inn : Bool) (eyes : List (List Nat)) (st : Stand) (h : Nat) (o : Option Nat) : Prop where
  hs : h < st.length
  he : h < eyes.length
  ey : ∀ l ∈ eyes, ∀ e ∈ l, e < st.length
  wide : ∀ l ∈ eyes, l.length ≤ 6
  bx : ∀ b ∈ st, b.length = nb
  ot : inn = true → ∃ j, o = some j ∧ j < st.length
def oth (st : Stand) : Option Nat → Nat × List Int
  | some j => (j, st.getD j [])
  | none => (0, [])
section
variable {K : PySem.W.Frag} {W : Wd} {ds : Fm} {te : TE} {P : Dv → Prop}
theorem y_strE {x : Str} : Yp K W (tC (.str x)) ds (· = .d (.str x)) := y_str rfl
theorem y_intE {x : Int} : Yp K W (tC (.int x)) ds (· = .d (.int x)) := y_int rfl
theorem y_varE {i : Nat} {x : Dv} (h : ds[i]? = some (some x)) : Yp K W (tVar i) ds (· = x) := y_var h rfl
theorem atI_map {α : Type} {f : α → PyData} {l : List α} {j : Nat} {a : α} (h : l[j]? = some a) : atI (l.map f) (j : Int) = some (f a) := atI_nat (by rw [List.getElem?_map, h]; rfl)
theorem getD_of {α : Type} {l : List α} {j : Nat} {a b : α} (h : l[j]? = some a) : l.getD j b = a := by rw [List.getD_eq_getElem?_getD, h]; rfl
theorem at_lt {α : Type} {l : List α} {j : Nat} {b : α} (h : j < l.length) : l[j]? = some (l.getD j b) := by rw [List.getD_eq_getElem?_getD, List.getElem?_eq_getElem h]; rfl
theorem getD_mem {α : Type} {l : List α} {j : Nat} {b : α} (h : j < l.length) : l.getD j b ∈ l := List.mem_of_getElem? (at_lt h)
/-- an item of a tuple of hands, boxes, .. -/
theorem rp_ixN {l : List Nat} {j : Nat} {b : Nat} (h : j < l.length) (p : P (.d (dN (l.getD j b)))) : Rp K W (rIxT K) (.d (dNs l)) (.d (dN j)) P := rp_ixT (atI_map (at_lt h)) p
theorem rp_ixI {l : List Int} {j : Nat} {b : Int} (h : j < l.length) (p : P (.d (.int (l.getD j b)))) : Rp K W (rIxT K) (.d (dIs l)) (.d (dN j)) P := rp_ixT (atI_map (at_lt h)) p
theorem rp_ixE {l : List (List Nat)} {j : Nat} (h : j < l.length) (p : P (.d (dNs (l.getD j [])))) : Rp K W (rIxT K) (.d (dEyes l)) (.d (dN j)) P := rp_ixT (atI_map (at_lt h)) p
theorem rp_ixS {l : Stand} {j : Nat} (h : j < l.length) (p : P (.d (dIs (l.getD j [])))) : Rp K W (rIxT K) (.d (dStand l)) (.d (dN j)) P := rp_ixT (atI_map (at_lt h)) p
/-- one that is written -/
theorem rp_ixW {es : List PyData} {j : Nat} {e : PyData} (h : es[j]? = some e) (p : P (.d e)) : Rp K W (rIxT K) (.d (.tuple es)) (.d (.int ((j : Nat) : Int))) P := rp_ixT (atI_nat h) p
theorem rp_inI_S {a : Str} {ns : List Str} {b : Bool} (e : decide (a ∈ ns) = b) : Rp K W (rIn K false) (.d (.str a)) (.d (.tuple (ns.map .str))) (fun x => ∃ c, x = .d (.bool c) ∧ c = b) := rp_inS (ns := ns) rfl ⟨_, rfl, e⟩
/-- if word == x: .. -/
theorem z_hit {i : Nat} {x w : Str} {t1 rest : TS} {N : Fm → Prop} {Rt : Dv → Prop} (hw : ds[i]? = some (some (.d (.str w)))) (e : w = x) (h : Zp K W t1 ds (fun _ => False) Rt) : Zp K W (tSeq (tIfS (tTest (tOp rEq (tVar i) (tC (.str x)))) t1 tNext) rest) ds N Rt :=
  z_seq (M := fun _ => False) (z_if (t_test (y_opE (y_varE hw) y_strE (rp_eqS ⟨true, by rw [decide_eq_true e], rfl⟩))) (fun _ => h) fun h => nomatch h) fun _ z => z.elim
theorem z_miss {i : Nat} {x w : Str} {t1 rest : TS} {N : Fm → Prop} {Rt : Dv → Prop} (hw : ds[i]? = some (some (.d (.str w)))) (e : ¬ w = x) (h : Zp K W rest ds N Rt) : Zp K W (tSeq (tIfS (tTest (tOp rEq (tVar i) (tC (.str x)))) t1 tNext) rest) ds N Rt :=
  z_seq (M := fun d => d = ds) (z_if (A := fun b => b = false) (t_test (y_opE (y_varE hw) y_strE (rp_eqS ⟨false, by rw [decide_eq_false e], rfl⟩))) (fun h => nomatch h) fun _ => z_next rfl) (by rintro _ rfl; exact h)
/-- word = term[0] -/
theorem z_word {i j : Nat} {es : List PyData} {e : PyData} {rest : TS} {N : Fm → Prop} {Rt : Dv → Prop} (ht : ds[j]? = some (some (.d (.tuple (e :: es))))) (h : Zp K W rest (ds.set i (some (.d e))) N Rt) : Zp K W (tSeq (tAsg (tOp (rIxT K) (tVar j) (tC (.int 0))) (gName i)) rest) ds N Rt :=
  z_seq (M := fun d => d = ds.set i (some (.d e))) (z_set (y_opE (y_varE ht) y_intE (rp_ixW (j := 0) rfl rfl))) (by rintro _ rfl; exact h)
/-- term[1], term[2], .. -/
theorem y_part {i : Nat} {j : Int} {es : List PyData} {e : PyData} (ht : ds[i]? = some (some (.d (.tuple es)))) (he : atI es j = some e) : Yp K W (tOp (rIxT K) (tVar i) (tC (.int j))) ds (· = .d e) := y_opE (y_varE ht) y_intE (rp_ixT he rfl)
end
section
variable {p : Program} {w : World} {K : PySem.W.Frag} {mg : Str → Option Value} {base : Heap} {C : Addr} {f : Addr} {fd : FuncData}
/-! ### whom it sees -/
def preOv (K : PySem.W.Frag) (C : Addr) : Pre := fun _ xs P => ∃ nb inn eyes st h o, Vw nb inn eyes st h o ∧ xs = [dSg K C eyes st h o] ∧ P (dLs K ((eyes.getD h []).map fun e => dSg K C eyes st h (some e)))
theorem ok_over (F : Fun K "over_others" "Sight.over_others" s_S_over_others f fd) (T : Sgt K mg C) (k_init : CalI p w K mg base C 1 ["self", "eyes", "stand", "hand", "other"] (spIni C)) : FnOk p w K mg base CX0 3 f fd ["self"] (spD K W0 (preOv K C)) := by
  refine ok_D F sc_S_over_others (fun H xs P h => ?_) fun cdv A outer s H E hr => ⟨_, (pss_cons (ps_set (i := 1) sc_S_over_others.nd rfl (.inl rfl) (pe_lst pa_nil)) (pss_cons (ps_for PassesOwn.never rfl (pi_tup (pe_ix ix_tup (pe_fld (pv 0) rfl) (pe_fld (pv 0) rfl) (fun _ _ => rfl))) (pg_name (i := 2) sc_S_over_others.nd rfl (.inl rfl)) (pss_one (ps_expr (pe_bm PySem.F.plainAttrs_list PySem.F.slot_list_append PySem.F.type_list_append mt_append (pv 1) (pa_cons (pe_mk k_init T.mg (hr.mono (by omega)) (pa_cons (pe_fld (pv 0) rfl) (pa_cons (pe_fld (pv 0) rfl) (pa_cons (pe_fld (pv 0) rfl) (pa_cons (pv 2) pa_nil))))) pa_nil))))) (pss_one (ps_ret (pv 1))))), fun H xs P _ h => ?_⟩
  · obtain ⟨nb, inn, eyes, st, h, o, _, rfl, _⟩ := h
    rfl
  · obtain ⟨nb, inn, eyes, st, h, o, V, rfl, hP⟩ := h
    refine ⟨W0, fun _ _ r => r, trivial, z_assoc (z_seq (M := fun d => d[1]? = some (some (dLs K ((eyes.getD h []).map fun e => dSg K C eyes st h (some e)))))
      (z_build (f := 1) (A0 := fun acc => acc = []) (A := fun xs => xs = ((eyes.getD h []).map dN).map Dv.d) (fun xs i d acc => d = [some (dSg K C eyes st h o), none, none] ∧ acc = ((eyes.getD h []).take i).map fun e => dSg K C eyes st h (some e))
        (ynew_nil rfl) (.some fl_Sg (.none (.none .nil))) (show 1 < 3 by decide) (fun q => if_tup (y_opE (y_fE T (y_varE rfl) rfl) (y_fO T (y_varE rfl) rfl) (rp_ixE V.he ⟨_, rfl, fun e he => ?_, rfl⟩))) ?_ ?_ ?_ ?_) fun d hd => z_ret (y_var hd hP))⟩
    · obtain ⟨n, _, rfl⟩ := List.mem_map.mp he
      rfl
    · rintro xs acc rfl rfl
      exact ⟨rfl, rfl⟩
    · rintro q xs rfl i x d acc hx hd ⟨rfl, rfl⟩
      obtain ⟨e, he, rfl⟩ : ∃ e, (eyes.getD h [])[i]? = some e ∧ x = .d (dN e) := by
        rw [List.getElem?_map, List.getElem?_map] at hx
        cases q : (eyes.getD h [])[i]? with
        | none => rw [q] at hx; simp at hx
        | some e => rw [q] at hx; exact ⟨e, rfl, (by simpa using hx.symm)⟩
      refine gp_name (zm_app rfl (y_mk (ap_consE (y_fE T (y_varE rfl) rfl) (ap_consE (y_fS T (y_varE rfl) rfl) (ap_consE (y_fO T (y_varE rfl) rfl) (ap_consE (y_varE rfl) (ap_nil ⟨eyes, st, h, some e, rfl, ?_⟩)))))))
      refine ⟨by simp, fun y hy => ?_, rfl, _, .cons (.none (.none .nil)), rfl, .some fl_Sg (.none (.none .nil)), rfl, ?_⟩
      · rcases List.mem_append.mp hy with z | z
        · exact .inl z
        · rw [List.mem_singleton.mp z]
          exact .inr fl_Sg
      · rw [List.take_add_one, he, List.map_append]
        rfl
    · rintro xs rfl
      have := V.wide _ (getD_mem (b := []) V.he)
      simp only [List.length_map]
      omega
    · rintro xs d acc rfl hd ⟨rfl, rfl⟩
      simp

/-! ### numbers that stand there -/
theorem nf_num : NoF "number_at" := ⟨by decide +kernel, by decide +kernel, by decide +kernel, by decide +kernel⟩
theorem nf_so : NoF "is_so" := ⟨by decide +kernel, by decide +kernel, by decide +kernel, by decide +kernel⟩
theorem nf_over : NoF "over_others" := ⟨by decide +kernel, by decide +kernel, by decide +kernel, by decide +kernel⟩
theorem nf_plain : NoF "plain" := ⟨by decide +kernel, by decide +kernel, by decide +kernel, by decide +kernel⟩
theorem nf_eye : NoF "by_eye" := ⟨by decide +kernel, by decide +kernel, by decide +kernel, by decide +kernel⟩
theorem nf_rec : NoF "reckoned" := ⟨by decide +kernel, by decide +kernel, by decide +kernel, by decide +kernel⟩
def Tm.leaf : Tm → Prop
  | .num _ => True
  | .own _ => True
  | .me => True
  | .its _ => True
  | .it => True
  | _ => False
def prePl (K : PySem.W.Frag) (C : Addr) : Pre := fun _ xs P => ∃ nb inn eyes st h o, ∃ t : Tm, Vw nb inn eyes st h o ∧ t.Ok nb inn ∧ t.leaf ∧ xs = [dSg K C eyes st h o, .d t.dat] ∧ P (.d (.int (t.val (sight eyes st h) (oth st o))))
theorem ok_plain (F : Fun K "plain" "Sight.plain" s_S_plain f fd) (T : Sgt K mg C) : FnOk p w K mg base CX0 1 f fd ["self", "term"] (spD K W0 (prePl K C)) := by
  refine ok_D F sc_S_plain (fun H xs P h => ?_) fun cdv A outer s H E hr => ⟨_, (pss_cons (ps_set (i := 2) sc_S_plain.nd rfl (.inl rfl) (pe_ix ix_tup (pv 1) pe_int (fun _ _ => rfl))) (pss_cons (ps_if (pt_cmpR  op_eq (pv 2) pe_str (nomark _)) (pss_one (ps_ret (pe_ix ix_tup (pv 1) pe_int (fun _ _ => rfl)))) pss_nil) (pss_cons (ps_if (pt_cmpR  op_eq (pv 2) pe_str (nomark _)) (pss_one (ps_ret (pe_ix ix_tup (pe_ix ix_tup (pe_fld (pv 0) rfl) (pe_fld (pv 0) rfl) (fun _ _ => rfl)) (pe_ix ix_tup (pv 1) pe_int (fun _ _ => rfl)) (fun _ _ => rfl)))) pss_nil) (pss_cons (ps_if (pt_cmpR  op_eq (pv 2) pe_str (nomark _)) (pss_one (ps_ret (pe_fld (pv 0) rfl))) pss_nil) (pss_cons (ps_if (pt_cmpR  op_eq (pv 2) pe_str (nomark _)) (pss_one (ps_ret (pe_ix ix_tup (pe_ix ix_tup (pe_fld (pv 0) rfl) (pe_fld (pv 0) rfl) (fun _ _ => rfl)) (pe_ix ix_tup (pv 1) pe_int (fun _ _ => rfl)) (fun _ _ => rfl)))) pss_nil) (pss_cons (ps_if (pt_cmpR  op_eq (pv 2) pe_str (nomark _)) (pss_one (ps_ret (pe_fld (pv 0) rfl))) pss_nil) (pss_one (ps_ret pe_non)))))))), fun H xs P _ h => ?_⟩
  · obtain ⟨nb, inn, eyes, st, h, o, t, _, _, _, rfl, _⟩ := h
    rfl
  · obtain ⟨nb, inn, eyes, st, h, o, t, V, ok, lf, rfl, hP⟩ := h
    have bxl : ∀ j, j < st.length → (st.getD j []).length = nb := fun j hj => V.bx _ (getD_mem hj)
    refine ⟨W0, fun _ _ r => r, trivial, ?_⟩
    cases t with
    | num k => exact z_word rfl (z_hit rfl rfl (z_ret (y_mono (y_part rfl rfl) (by rintro _ rfl; exact hP))))
    | own b => exact z_word rfl (z_miss rfl (by decide +kernel) (z_hit rfl rfl (z_ret (y_opE (y_opE (y_fS T (y_varE rfl) rfl) (y_fO T (y_varE rfl) rfl) (rp_ixS V.hs rfl)) (y_part rfl rfl) (rp_ixI (b := 0) (by rw [bxl h V.hs]; exact ok) hP)))))
    | me => exact z_word rfl (z_miss rfl (by decide +kernel) (z_miss rfl (by decide +kernel) (z_hit rfl rfl (z_ret (y_fO T (y_varE rfl) hP)))))
    | its b =>
      obtain ⟨j, rfl, hj⟩ := V.ot ok.1
      exact z_word rfl (z_miss rfl (by decide +kernel) (z_miss rfl (by decide +kernel) (z_miss rfl (by decide +kernel) (z_hit rfl rfl (z_ret (y_opE (y_opE (y_fS T (y_varE rfl) rfl) (y_fL T (y_varE rfl) rfl) (rp_ixS hj rfl)) (y_part rfl rfl) (rp_ixI (b := 0) (by rw [bxl j hj]; exact ok.2) hP)))))))
    | it =>
      obtain ⟨j, rfl, hj⟩ := V.ot ok
      exact z_word rfl (z_miss rfl (by decide +kernel) (z_miss rfl (by decide +kernel) (z_miss rfl (by decide +kernel) (z_miss rfl (by decide +kernel) (z_hit rfl rfl (z_ret (y_fL T (y_varE rfl) hP)))))))
    | _ => exact lf.elim
def preEye (K : PySem.W.Frag) (C : Addr) : Pre := fun _ xs P => ∃ nb inn eyes st h o, ∃ e b : Nat, Vw nb inn eyes st h o ∧ b < nb ∧ xs = [dSg K C eyes st h o, .d (dN e), .d (dN b)] ∧ P (.d (.int (((seen eyes st h).getD e (0, [])).2.getD b 0)))
theorem ok_eye (F : Fun K "by_eye" "Sight.by_eye" s_S_by_eye f fd) (T : Sgt K mg C) (B : Blt mg) : FnOk p w K mg base CX0 1 f fd ["self", "place", "box"] (spD K W0 (preEye K C)) := by
  refine ok_D F sc_S_by_eye (fun H xs P h => ?_) fun cdv A outer s H E hr => ⟨_, (pss_cons (ps_set (i := 3) sc_S_by_eye.nd rfl (.inl rfl) (pe_ix ix_tup (pe_fld (pv 0) rfl) (pe_fld (pv 0) rfl) (fun _ _ => rfl))) (pss_cons (ps_if (pt_cmpR  op_ge (pv 1) (pe_callB call_len_seq (by rfl) B.len PySem.boot_len (pa_cons (pv 3) pa_nil)) (nomark _)) (pss_one (ps_ret pe_int)) pss_nil) (pss_one (ps_ret (pe_ix ix_tup (pe_ix ix_tup (pe_fld (pv 0) rfl) (pe_ix ix_tup (pv 3) (pv 1) (fun _ _ => rfl)) (fun _ _ => rfl)) (pv 2) (fun _ _ => rfl)))))), fun H xs P _ h => ?_⟩
  · obtain ⟨nb, inn, eyes, st, h, o, e, b, _, _, rfl, _⟩ := h
    rfl
  · obtain ⟨nb, inn, eyes, st, h, o, e, b, V, hb, rfl, hP⟩ := h
    have bxl : ∀ j, j < st.length → (st.getD j []).length = nb := fun j hj => V.bx _ (getD_mem hj)
    refine ⟨W0, fun _ _ r => r, trivial, z_seq (M := fun d => d = [some (dSg K C eyes st h o), some (.d (dN e)), some (.d (dN b)), some (.d (dNs (eyes.getD h [])))]) (z_set (y_opE (y_fE T (y_varE rfl) rfl) (y_fO T (y_varE rfl) rfl) (rp_ixE V.he rfl))) ?_⟩
    rintro _ rfl
    refine z_seq (M := fun d => e < (eyes.getD h []).length ∧ d = [some (dSg K C eyes st h o), some (.d (dN e)), some (.d (dN b)), some (.d (dNs (eyes.getD h [])))])
      (z_if (A := fun c => c = decide (e ≥ (eyes.getD h []).length)) (t_test (y_opE (y_varE rfl) (y_cb (A := fun xs => xs = [.d (dNs (eyes.getD h []))]) (ap_consE (y_varE rfl) (ap_nil rfl)) (by rintro _ rfl; exact cp_len rfl rfl)) (rp_cmp ⟨_, rfl, ?_⟩))) (fun hc => z_ret (y_int ?_)) fun hc => z_next ⟨?_, rfl⟩) ?_
    · rw [List.length_map]
      exact decide_eq_decide.mpr ⟨fun h => by omega, fun h => by omega⟩
    · have hl : (seen eyes st h).length ≤ e := by unfold seen; rw [List.length_map]; exact of_decide_eq_true hc.symm
      rw [List.getD_eq_getElem?_getD (l := seen eyes st h), List.getElem?_eq_none hl] at hP
      exact hP
    · exact Nat.lt_of_not_le (of_decide_eq_false hc.symm)
    · rintro _ ⟨he, rfl⟩
      have hj : (eyes.getD h []).getD e 0 < st.length := V.ey _ (getD_mem V.he) _ (getD_mem he)
      have es : (seen eyes st h).getD e (0, []) = ((eyes.getD h []).getD e 0, st.getD ((eyes.getD h []).getD e 0) []) := getD_of (by unfold seen; rw [List.getElem?_map, at_lt (b := 0) he]; rfl)
      rw [es] at hP
      exact z_ret (y_opE (y_opE (y_fS T (y_varE rfl) rfl) (y_opE (y_varE rfl) (y_varE rfl) (rp_ixN (b := 0) he rfl)) (rp_ixS hj rfl)) (y_varE rfl) (rp_ixI (b := 0) (by rw [bxl _ hj]; exact hb) hP))

/-! ### sums, looks at others, claims: each by those below it -/
def preT (n : Nat) (K : PySem.W.Frag) (C : Addr) : Pre := fun _ xs P => ∃ nb inn eyes st h o, ∃ t : Tm, Vw nb inn eyes st h o ∧ t.Ok nb inn ∧ t.rk < n ∧ xs = [dSg K C eyes st h o, .d t.dat] ∧ P (.d (.int (t.val (sight eyes st h) (oth st o))))
def preC (n : Nat) (K : PySem.W.Frag) (C : Addr) : Pre := fun _ xs P => ∃ nb inn eyes st h o, ∃ c : Cl, Vw nb inn eyes st h o ∧ c.Ok nb inn ∧ c.rk < n ∧ xs = [dSg K C eyes st h o, .d c.dat] ∧ P (.d (.bool (c.so (sight eyes st h) (oth st o))))
def Tm.sum : Tm → Prop
  | .plus _ _ => True
  | .less _ _ => True
  | .rest _ _ => True
  | .ite _ _ _ => True
  | _ => False
def preRk (n : Nat) (K : PySem.W.Frag) (C : Addr) : Pre := fun _ xs P => ∃ nb inn eyes st h o, ∃ t : Tm, Vw nb inn eyes st h o ∧ t.Ok nb inn ∧ t.rk < n ∧ t.sum ∧ xs = [dSg K C eyes st h o, .d t.dat] ∧ P (.d (.int (t.val (sight eyes st h) (oth st o))))
section
variable {W : Wd} {ds : Fm} {P : Dv → Prop} {n : Nat} {nb : Nat} {inn : Bool} {eyes : List (List Nat)} {st : Stand} {h : Nat} {o : Option Nat}
/-- self.number_at(term[i]) -/
theorem y_num {i j : Nat} {k : Int} {es : List PyData} {t : Tm} (V : Vw nb inn eyes st h o) (ok : t.Ok nb inn) (rk : t.rk < n) (hs : ds[i]? = some (some (dSg K C eyes st h o))) (ht : ds[j]? = some (some (.d (.tuple es)))) (he : atI es k = some t.dat)
    (p : P (.d (.int (t.val (sight eyes st h) (oth st o))))) : Yp K W (tMeth C "number_at" (spD K W0 (preT n K C)) [] E0 (tVar i) (tCons (tOp (rIxT K) (tVar j) (tC (.int k))) tNil)) ds P :=
  y_meth (B := fun xs => xs = [.d t.dat]) nf_num (y_varE hs) (ap_consE (y_part ht he) (ap_nil rfl)) (by rintro _ rfl; exact sps_0 fun H => ⟨nb, inn, eyes, st, h, o, t, V, ok, rk, rfl, p⟩)
theorem y_so {i j : Nat} {k : Int} {es : List PyData} {c : Cl} (V : Vw nb inn eyes st h o) (ok : c.Ok nb inn) (rk : c.rk < n) (hs : ds[i]? = some (some (dSg K C eyes st h o))) (ht : ds[j]? = some (some (.d (.tuple es)))) (he : atI es k = some c.dat)
    (p : P (.d (.bool (c.so (sight eyes st h) (oth st o))))) : Yp K W (tMeth C "is_so" (spD K W0 (preC n K C)) [] E0 (tVar i) (tCons (tOp (rIxT K) (tVar j) (tC (.int k))) tNil)) ds P :=
  y_meth (B := fun xs => xs = [.d c.dat]) nf_so (y_varE hs) (ap_consE (y_part ht he) (ap_nil rfl)) (by rintro _ rfl; exact sps_0 fun H => ⟨nb, inn, eyes, st, h, o, c, V, ok, rk, rfl, p⟩)
end
theorem ok_rec {n : Nat} (F : Fun K "reckoned" "Sight.reckoned" s_S_reckoned f fd) (T : Sgt K mg C) (B : Blt mg) (m_number_at : CalM p w K mg base C "number_at" (4 + 2 * n) ["self", "term"] (spD K W0 (preT n K C)))
    (m_is_so : CalM p w K mg base C "is_so" (4 + 2 * n) ["self", "claim"] (spD K W0 (preC n K C))) : FnOk p w K mg base CX0 (4 + 2 * n + 1) f fd ["self", "term"] (spD K W0 (preRk (n + 1) K C)) := by
  refine ok_D F sc_S_reckoned (fun H xs P h => ?_) fun cdv A outer s H E hr => ⟨_, (pss_cons (ps_set (i := 2) sc_S_reckoned.nd rfl (.inl rfl) (pe_ix ix_tup (pv 1) pe_int (fun _ _ => rfl))) (pss_cons (ps_if (pt_cmpR  op_eq (pv 2) pe_str (nomark _)) (pss_one (ps_ret (pe_op op_add (pe_calm m_number_at T.cl (hr.mono (by omega)) (pv 0) (pa_cons (pe_ix ix_tup (pv 1) pe_int (fun _ _ => rfl)) pa_nil)) (pe_calm m_number_at T.cl (hr.mono (by omega)) (pv 0) (pa_cons (pe_ix ix_tup (pv 1) pe_int (fun _ _ => rfl)) pa_nil))))) pss_nil) (pss_cons (ps_if (pt_cmpR  op_eq (pv 2) pe_str (nomark _)) (pss_one (ps_ret (pe_callB (call_max2 rfl) (by rfl) B.max (by decide +kernel) (pa_cons pe_int (pa_cons (pe_op op_sub (pe_calm m_number_at T.cl (hr.mono (by omega)) (pv 0) (pa_cons (pe_ix ix_tup (pv 1) pe_int (fun _ _ => rfl)) pa_nil)) (pe_calm m_number_at T.cl (hr.mono (by omega)) (pv 0) (pa_cons (pe_ix ix_tup (pv 1) pe_int (fun _ _ => rfl)) pa_nil))) pa_nil))))) pss_nil) (pss_cons (ps_if (pt_cmpR  op_eq (pv 2) pe_str (nomark _)) (pss_one (ps_ret (pe_op op_mod (pe_calm m_number_at T.cl (hr.mono (by omega)) (pv 0) (pa_cons (pe_ix ix_tup (pv 1) pe_int (fun _ _ => rfl)) pa_nil)) (pe_ix ix_tup (pv 1) pe_int (fun _ _ => rfl))))) pss_nil) (pss_cons (ps_if (pt_val (pe_calm m_is_so T.cl (hr.mono (by omega)) (pv 0) (pa_cons (pe_ix ix_tup (pv 1) pe_int (fun _ _ => rfl)) pa_nil))) (pss_one (ps_ret (pe_calm m_number_at T.cl (hr.mono (by omega)) (pv 0) (pa_cons (pe_ix ix_tup (pv 1) pe_int (fun _ _ => rfl)) pa_nil)))) pss_nil) (pss_one (ps_ret (pe_calm m_number_at T.cl (hr.mono (by omega)) (pv 0) (pa_cons (pe_ix ix_tup (pv 1) pe_int (fun _ _ => rfl)) pa_nil))))))))), fun H xs P _ h => ?_⟩
  · obtain ⟨nb, inn, eyes, st, h, o, t, _, _, _, _, rfl, _⟩ := h
    rfl
  · obtain ⟨nb, inn, eyes, st, h, o, t, V, ok, rk, sm, rfl, hP⟩ := h
    refine ⟨W0, fun _ _ r => r, trivial, ?_⟩
    cases t with
    | plus a b =>
      have rk' : max a.rk b.rk + 1 < n + 1 := rk
      exact z_word rfl (z_hit rfl rfl (z_ret (y_opE (y_num V ok.1 (by omega) rfl rfl rfl rfl) (y_num V ok.2 (by omega) rfl rfl rfl rfl) (rp_int hP))))
    | less a b =>
      have rk' : max a.rk b.rk + 1 < n + 1 := rk
      exact z_word rfl (z_miss rfl (by decide +kernel) (z_hit rfl rfl (z_ret (y_cb (A := fun xs => xs = [.d (.int 0), .d (.int (a.val (sight eyes st h) (oth st o) - b.val (sight eyes st h) (oth st o)))]) (ap_consE y_intE (ap_consE (y_opE (y_num V ok.1 (by omega) rfl rfl rfl rfl) (y_num V ok.2 (by omega) rfl rfl rfl rfl) (rp_int rfl)) (ap_nil rfl)))
        (by rintro _ rfl; exact cp_max2 hP)))))
    | rest a k =>
      have rk' : a.rk + 1 < n + 1 := rk
      exact z_word rfl (z_miss rfl (by decide +kernel) (z_miss rfl (by decide +kernel) (z_hit rfl rfl (z_ret (y_opE (y_num V ok.1 (by omega) rfl rfl rfl rfl) (y_part rfl rfl) (rp_intC ok.2 hP))))))
    | ite c a b =>
      have rk' : max c.rk (max a.rk b.rk) + 1 < n + 1 := rk
      refine z_word rfl (z_miss rfl (by decide +kernel) (z_miss rfl (by decide +kernel) (z_miss rfl (by decide +kernel) (z_seq (M := fun d => d = _ ∧ c.so (sight eyes st h) (oth st o) = false) (z_if (A := fun b => b = c.so (sight eyes st h) (oth st o)) (t_B (y_so V ok.1 (by omega) rfl rfl rfl ⟨_, rfl, rfl⟩))
        (fun e => z_ret (y_num V ok.2.1 (by omega) rfl rfl rfl ?_)) fun e => z_next ⟨rfl, e.symm⟩) ?_))))
      · have q : (Tm.ite c a b).val (sight eyes st h) (oth st o) = a.val (sight eyes st h) (oth st o) := if_pos e.symm
        rw [q] at hP
        exact hP
      · rintro _ ⟨rfl, e⟩
        have q : (Tm.ite c a b).val (sight eyes st h) (oth st o) = b.val (sight eyes st h) (oth st o) := if_neg (by rw [e]; exact Bool.false_ne_true)
        rw [q] at hP
        exact z_ret (y_num V ok.2.2 (by omega) rfl rfl rfl hP)
    | _ => exact sm.elim

section
variable {W : Wd} {ds : Fm} {te : TE} {P : Dv → Prop}
theorem z_inHit {i : Nat} {w : Str} {ws : List Str} {ta : TA} {t1 rest : TS} {N : Fm → Prop} {Rt : Dv → Prop} (hw : ds[i]? = some (some (.d (.str w)))) (ht : Yp K W (tTup ta) ds (· = .d (.tuple (ws.map .str)))) (e : decide (w ∈ ws) = true) (h : Zp K W t1 ds (fun _ => False) Rt) :
    Zp K W (tSeq (tIfS (tTest (tOp (rIn K false) (tVar i) (tTup ta))) t1 tNext) rest) ds N Rt :=
  z_seq (M := fun _ => False) (z_if (t_test (y_opE (y_varE hw) ht (rp_inI_S e))) (fun _ => h) fun h => nomatch h) fun _ z => z.elim
theorem z_inMiss {i : Nat} {w : Str} {ws : List Str} {ta : TA} {t1 rest : TS} {N : Fm → Prop} {Rt : Dv → Prop} (hw : ds[i]? = some (some (.d (.str w)))) (ht : Yp K W (tTup ta) ds (· = .d (.tuple (ws.map .str)))) (e : decide (w ∈ ws) = false) (h : Zp K W rest ds N Rt) :
    Zp K W (tSeq (tIfS (tTest (tOp (rIn K false) (tVar i) (tTup ta))) t1 tNext) rest) ds N Rt :=
  z_seq (M := fun d => d = ds) (z_if (A := fun b => b = false) (t_test (y_opE (y_varE hw) ht (rp_inI_S e))) (fun h => nomatch h) fun _ => z_next rfl) (by rintro _ rfl; exact h)
theorem y_best {g : Int → List Int → Int} {ns : List Int} (h : Yp K W te ds (· = .l (ns.map .int))) (q : P (.d (.int (g 0 ns)))) : Yp K W (tCKw (rBestD K g) (tCons te tNil) (tCons (tC (.int 0)) tNil)) ds P := fun σ H i s Q k =>
  h σ H i s _ fun u H1 x r1 d1 e1 => by
    subst e1
    obtain ⟨a, us, rfl, h1, h2⟩ := d1
    obtain rfl := dpAll_ints h2
    exact ⟨a, ns, 0, rfl, rfl, SqL.of h1, k (.int _) H1 (.d (.int _)) r1 (Dp.int _) q⟩
variable {n nb : Nat} {inn : Bool} {eyes : List (List Nat)} {st : Stand} {h : Nat} {o : Option Nat}
theorem Vw.to (V : Vw nb inn eyes st h o) {e : Nat} (he : e ∈ eyes.getD h []) : Vw nb true eyes st h (some e) := ⟨V.hs, V.he, V.ey, V.wide, V.bx, fun _ => ⟨e, rfl, V.ey _ (getD_mem V.he) e he⟩⟩
theorem seen_map {α : Type} (f : Nat × List Int → α) : (seen eyes st h).map f = (eyes.getD h []).map fun e => f (oth st (some e)) := by unfold seen; rw [List.map_map]; rfl
theorem over_at {j : Nat} {x : Dv} (hx : ((eyes.getD h []).map fun e => dSg K C eyes st h (some e))[j]? = some x) : ∃ e, (eyes.getD h [])[j]? = some e ∧ x = dSg K C eyes st h (some e) := by
  rw [List.getElem?_map] at hx
  cases q : (eyes.getD h [])[j]? with
  | none => rw [q] at hx; cases hx
  | some e => rw [q] at hx; exact ⟨e, rfl, (Option.some.inj hx).symm⟩
/-- [one.number_at(term[k]) for one in self.over_others()] -/
theorem y_numAll {i j v : Nat} {k : Int} {es : List PyData} {t : Tm} (V : Vw nb inn eyes st h o) (ok : t.Ok nb true) (rk : t.rk < n) (hs : ds[i]? = some (some (dSg K C eyes st h o))) (ht : ∀ x, ((ds.set v none).set v (some x))[j]? = some (some (.d (.tuple es)))) (hv : ∀ x : Dv, ((ds.set v none).set v (some x))[v]? = some (some x)) (he : atI es k = some t.dat) :
    Yp K W (tLc (iList K (tMeth C "over_others" (spD K W0 (preOv K C)) [] E0 (tVar i) tNil)) (gName v) tYes (tMeth C "number_at" (spD K W0 (preT n K C)) [] E0 (tVar v) (tCons (tOp (rIxT K) (tVar j) (tC (.int k))) tNil)) [v]) ds
      (· = .l (((seen eyes st h).map fun x => t.val (sight eyes st h) x).map .int)) := by
  have len := V.wide _ (getD_mem (b := []) V.he)
  refine y_lc (A := fun xs => xs = (eyes.getD h []).map fun e => dSg K C eyes st h (some e)) (fun xs j acc => acc = ((eyes.getD h []).take j).map fun e => Dv.d (.int (t.val (sight eyes st h) (oth st (some e)))))
    (ip_dl (y_meth (B := fun xs => xs = []) nf_over (y_varE hs) (ap_nil rfl) (by rintro _ rfl; exact sps_0 fun H => ⟨nb, inn, eyes, st, h, o, V, rfl, _, rfl, rfl⟩))) (by rintro xs rfl; rfl) ?_ (by rintro xs rfl; rw [List.length_map]; omega) ?_
  · rintro xs rfl m x acc hx hl rfl
    obtain ⟨e, he', rfl⟩ := over_at hx
    have V' := V.to (List.mem_of_getElem? he')
    refine t_yes ?_
    rw [if_pos rfl]
    refine y_num V' ok rk (hv _) (ht _) he ⟨rfl, ?_⟩
    rw [List.take_add_one, he', List.map_append]
    rfl
  · rintro xs acc rfl rfl
    refine ⟨_, rfl, fun H a us hu hd => ⟨a, us, rfl, hu, dpAll_of (K := K) (H := H) (es := ((seen eyes st h).map fun x => t.val (sight eyes st h) x).map .int) ?_⟩⟩
    rw [seen_map, List.length_map, List.take_length] at *
    rw [List.map_map, List.map_map]
    exact hd
theorem take_filter {α : Type} (q : α → Bool) (l : List α) (j : Nat) (e : α) (he : l[j]? = some e) : (l.take (j + 1)).filter q = (l.take j).filter q ++ (if q e = true then [e] else []) := by
  rw [List.take_add_one, he, List.filter_append]
  cases hq : q e <;> simp [hq]
/-- [one for one in self.over_others() if one.is_so(term[k])] -/
theorem y_soAll {i j v : Nat} {k : Int} {es : List PyData} {c : Cl} (V : Vw nb inn eyes st h o) (ok : c.Ok nb true) (rk : c.rk < n) (hs : ds[i]? = some (some (dSg K C eyes st h o))) (ht : ∀ x, ((ds.set v none).set v (some x))[j]? = some (some (.d (.tuple es)))) (hv : ∀ x : Dv, ((ds.set v none).set v (some x))[v]? = some (some x)) (he : atI es k = some c.dat) :
    Yp K W (tLc (iList K (tMeth C "over_others" (spD K W0 (preOv K C)) [] E0 (tVar i) tNil)) (gName v) (tB (tMeth C "is_so" (spD K W0 (preC n K C)) [] E0 (tVar v) (tCons (tOp (rIxT K) (tVar j) (tC (.int k))) tNil))) (tVar v) [v]) ds
      (fun x => ∃ xs, x = dLs K xs ∧ xs.length = ((seen eyes st h).filter fun x => c.so (sight eyes st h) x).length) := by
  have len := V.wide _ (getD_mem (b := []) V.he)
  refine y_lc (A := fun xs => xs = (eyes.getD h []).map fun e => dSg K C eyes st h (some e)) (fun xs j acc => acc.length = (((eyes.getD h []).take j).filter fun e => c.so (sight eyes st h) (oth st (some e))).length)
    (ip_dl (y_meth (B := fun xs => xs = []) nf_over (y_varE hs) (ap_nil rfl) (by rintro _ rfl; exact sps_0 fun H => ⟨nb, inn, eyes, st, h, o, V, rfl, _, rfl, rfl⟩))) (by rintro xs rfl; rfl) ?_ (by rintro xs rfl; rw [List.length_map]; omega) ?_
  · rintro xs rfl m x acc hx hl hacc
    obtain ⟨e, he', rfl⟩ := over_at hx
    have V' := V.to (List.mem_of_getElem? he')
    refine t_B (y_so V' ok rk (hv _) (ht _) he ⟨_, rfl, ?_⟩)
    have q := take_filter (fun e => c.so (sight eyes st h) (oth st (some e))) (eyes.getD h []) m e he'
    cases hq : c.so (sight eyes st h) (oth st (some e)) with
    | true =>
      rw [if_pos rfl]
      refine y_var (hv _) ⟨fl_Sg, ?_⟩
      rw [q, hq, List.length_append, List.length_append, hacc]
      rfl
    | false =>
      rw [if_neg Bool.false_ne_true]
      rw [q, hq, hacc]
      simp
  · rintro xs acc rfl hacc
    refine ⟨dLs K acc, ⟨acc, rfl, ?_⟩, fun H a us hu hd => ⟨a, us, rfl, hu, hd⟩⟩
    rw [hacc, List.length_map, List.take_length]
    unfold seen
    rw [List.filter_map, List.length_map]
    rfl
end
theorem ok_num {n : Nat} (F : Fun K "number_at" "Sight.number_at" s_S_number_at f fd) (T : Sgt K mg C) (B : Blt mg) (m_plain : CalM p w K mg base C "plain" 1 ["self", "term"] (spD K W0 (prePl K C))) (m_by_eye : CalM p w K mg base C "by_eye" 1 ["self", "place", "box"] (spD K W0 (preEye K C)))
    (m_over_others : CalM p w K mg base C "over_others" 3 ["self"] (spD K W0 (preOv K C))) (m_reckoned : CalM p w K mg base C "reckoned" (4 + 2 * n + 1) ["self", "term"] (spD K W0 (preRk (n + 1) K C)))
    (m_number_at : CalM p w K mg base C "number_at" (4 + 2 * n) ["self", "term"] (spD K W0 (preT n K C))) (m_is_so : CalM p w K mg base C "is_so" (4 + 2 * n) ["self", "claim"] (spD K W0 (preC n K C))) : FnOk p w K mg base CX0 (4 + 2 * (n + 1)) f fd ["self", "term"] (spD K W0 (preT (n + 1) K C)) := by
  refine ok_D F sc_S_number_at (fun H xs P h => ?_) fun cdv A outer s H E hr0 => ?_
  · obtain ⟨nb, inn, eyes, st, h, o, t, _, _, _, rfl, _⟩ := h
    rfl
  have hr : Room (4 + 2 * n + 1) (A.deeper (PyProof.Rows.envOfC "Sight.number_at" (defScope s_S_number_at) s.heap.objs.size f cdv)) := hr0
  have m_plain := m_plain.mono (show 1 ≤ 4 + 2 * n + 1 by omega)
  have m_by_eye := m_by_eye.mono (show 1 ≤ 4 + 2 * n + 1 by omega)
  have m_over_others := m_over_others.mono (show 3 ≤ 4 + 2 * n + 1 by omega)
  have m_number_at := m_number_at.mono (show 4 + 2 * n ≤ 4 + 2 * n + 1 by omega)
  have m_is_so := m_is_so.mono (show 4 + 2 * n ≤ 4 + 2 * n + 1 by omega)
  refine ⟨_, (pss_cons (ps_set (i := 2) sc_S_number_at.nd rfl (.inl rfl) (pe_ix ix_tup (pv 1) pe_int (fun _ _ => rfl))) (pss_cons (ps_if (pt_cmpR  op_in_seq (pv 2) (pe_tup (pa_cons pe_str (pa_cons pe_str (pa_cons pe_str (pa_cons pe_str (pa_cons pe_str pa_nil)))))) rfl) (pss_one (ps_ret (pe_calm m_plain T.cl (hr.mono (by omega)) (pv 0) (pa_cons (pv 1) pa_nil)))) pss_nil) (pss_cons (ps_if (pt_cmpR  op_eq (pv 2) pe_str (nomark _)) (pss_one (ps_ret (pe_calm m_by_eye T.cl (hr.mono (by omega)) (pv 0) (pa_cons (pe_ix ix_tup (pv 1) pe_int (fun _ _ => rfl)) (pa_cons (pe_ix ix_tup (pv 1) pe_int (fun _ _ => rfl)) pa_nil))))) pss_nil) (pss_cons (ps_if (pt_cmpR  op_eq (pv 2) pe_str (nomark _)) (pss_one (ps_ret (pe_callBK (cr_minD rfl) (by rfl) B.min (by decide +kernel) (pa_cons (pe_lc (own := [("one", 3)]) (g := gName 3) (tt := tYes) rfl sc_S_number_at.nd (pi_list (pe_calm0 m_over_others T.cl (hr.mono (by omega)) (pv 0))) (blkOk_by (N := ["self", "term", "word", "one"]) (sc := defScope s_S_number_at) (by decide +kernel)) (fun _ _ _ _ _ => pg_name (i := 3) sc_S_number_at.nd rfl (.inl rfl)) (fun _ _ _ _ _ => pts_nil) (fun _ _ _ _ _ => (pe_calm m_number_at T.cl (hr.mono (by omega)) (pv 3) (pa_cons (pe_ix (r := rIxT K) ix_tup (pv 1) pe_int (fun _ _ => rfl)) pa_nil)))) pa_nil) (pk_cons pe_int pk_nil)))) pss_nil) (pss_cons (ps_if (pt_cmpR  op_eq (pv 2) pe_str (nomark _)) (pss_one (ps_ret (pe_callBK (cr_maxD rfl) (by rfl) B.max (by decide +kernel) (pa_cons (pe_lc (own := [("one", 3)]) (g := gName 3) (tt := tYes) rfl sc_S_number_at.nd (pi_list (pe_calm0 m_over_others T.cl (hr.mono (by omega)) (pv 0))) (blkOk_by (N := ["self", "term", "word", "one"]) (sc := defScope s_S_number_at) (by decide +kernel)) (fun _ _ _ _ _ => pg_name (i := 3) sc_S_number_at.nd rfl (.inl rfl)) (fun _ _ _ _ _ => pts_nil) (fun _ _ _ _ _ => (pe_calm m_number_at T.cl (hr.mono (by omega)) (pv 3) (pa_cons (pe_ix (r := rIxT K) ix_tup (pv 1) pe_int (fun _ _ => rfl)) pa_nil)))) pa_nil) (pk_cons pe_int pk_nil)))) pss_nil) (pss_cons (ps_if (pt_cmpR  op_eq (pv 2) pe_str (nomark _)) (pss_one (ps_ret (pe_callB call_len_seq (by rfl) B.len PySem.boot_len (pa_cons (pe_lc (own := [("one", 3)]) (g := gName 3) rfl sc_S_number_at.nd (pi_list (pe_calm0 m_over_others T.cl (hr.mono (by omega)) (pv 0))) (blkOk_by (N := ["self", "term", "word", "one"]) (sc := defScope s_S_number_at) (by decide +kernel)) (fun _ _ _ _ _ => pg_name (i := 3) sc_S_number_at.nd rfl (.inl rfl)) (fun _ _ _ _ _ => pts_one (pt_val (pe_calm m_is_so T.cl (hr.mono (by omega)) (pv 3) (pa_cons (pe_ix (r := rIxT K) ix_tup (pv 1) pe_int (fun _ _ => rfl)) pa_nil)))) (fun _ _ _ _ _ => (pv 3))) pa_nil)))) pss_nil) (pss_one (ps_ret (pe_calm m_reckoned T.cl (hr.mono (by omega)) (pv 0) (pa_cons (pv 1) pa_nil)))))))))), fun H xs P _ h => ?_⟩
  obtain ⟨nb, inn, eyes, st, h, o, t, V, ok, rk, rfl, hP⟩ := h
  refine ⟨W0, fun _ _ r => r, trivial, ?_⟩
  have words : ∀ ds : Fm, Yp K W0 (tTup (tCons (tC (.str "num")) (tCons (tC (.str "own")) (tCons (tC (.str "me")) (tCons (tC (.str "its")) (tCons (tC (.str "it")) tNil)))))) ds (· = .d (.tuple ((["num", "own", "me", "its", "it"] : List Str).map .str))) := fun ds =>
    y_tup (n := 5) (ap_consE y_strE (ap_consE y_strE (ap_consE y_strE (ap_consE y_strE (ap_consE y_strE (ap_nil ⟨[.str "num", .str "own", .str "me", .str "its", .str "it"], rfl, rfl, rfl⟩))))))
  have lf : ∀ t' : Tm, t = t' → t'.leaf → ∀ ds : Fm, ds[0]? = some (some (dSg K C eyes st h o)) → ds[1]? = some (some (.d t'.dat)) → Zp K W0 (tRet (tMeth C "plain" (spD K W0 (prePl K C)) [] E0 (tVar 0) (tCons (tVar 1) tNil))) ds (fun _ => False) P := fun t' e l ds h0 h1 => by
    subst e
    exact z_ret (y_meth (B := fun xs => xs = [.d t.dat]) nf_plain (y_varE h0) (ap_consE (y_varE h1) (ap_nil rfl)) (by rintro _ rfl; exact sps_0 fun H => ⟨nb, inn, eyes, st, h, o, t, V, ok, l, rfl, hP⟩))
  have sm : ∀ t' : Tm, t = t' → t'.sum → ∀ (ds : Fm) (N : Fm → Prop), ds[0]? = some (some (dSg K C eyes st h o)) → ds[1]? = some (some (.d t'.dat)) → Zp K W0 (tRet (tMeth C "reckoned" (spD K W0 (preRk (n + 1) K C)) [] E0 (tVar 0) (tCons (tVar 1) tNil))) ds N P := fun t' e l ds N h0 h1 => by
    subst e
    exact z_ret (y_meth (B := fun xs => xs = [.d t.dat]) nf_rec (y_varE h0) (ap_consE (y_varE h1) (ap_nil rfl)) (by rintro _ rfl; exact sps_0 fun H => ⟨nb, inn, eyes, st, h, o, t, V, ok, rk, l, rfl, hP⟩))
  cases t with
  | num k => exact z_word rfl (z_inHit rfl (words _) (by decide +kernel) (lf _ rfl trivial _ rfl rfl))
  | own k => exact z_word rfl (z_inHit rfl (words _) (by decide +kernel) (lf _ rfl trivial _ rfl rfl))
  | me => exact z_word rfl (z_inHit rfl (words _) (by decide +kernel) (lf _ rfl trivial _ rfl rfl))
  | its k => exact z_word rfl (z_inHit rfl (words _) (by decide +kernel) (lf _ rfl trivial _ rfl rfl))
  | it => exact z_word rfl (z_inHit rfl (words _) (by decide +kernel) (lf _ rfl trivial _ rfl rfl))
  | eye e b =>
    exact z_word rfl (z_inMiss rfl (words _) (by decide +kernel) (z_hit rfl rfl (z_ret (y_meth (B := fun xs => xs = [.d (dN e), .d (dN b)]) nf_eye (y_varE rfl) (ap_consE (y_part rfl rfl) (ap_consE (y_part rfl rfl) (ap_nil rfl))) (by rintro _ rfl; exact sps_0 fun H => ⟨nb, inn, eyes, st, h, o, e, b, V, ok, rfl, hP⟩)))))
  | least a =>
    have rk' : a.rk + 1 < n + 1 := rk
    exact z_word rfl (z_inMiss rfl (words _) (by decide +kernel) (z_miss rfl (by decide +kernel) (z_hit rfl rfl (z_ret (y_best (y_numAll V ok (by omega) rfl (fun _ => rfl) (fun _ => rfl) rfl) hP)))))
  | most a =>
    have rk' : a.rk + 1 < n + 1 := rk
    exact z_word rfl (z_inMiss rfl (words _) (by decide +kernel) (z_miss rfl (by decide +kernel) (z_miss rfl (by decide +kernel) (z_hit rfl rfl (z_ret (y_best (y_numAll V ok (by omega) rfl (fun _ => rfl) (fun _ => rfl) rfl) hP))))))
  | many c =>
    have rk' : c.rk + 1 < n + 1 := rk
    exact z_word rfl (z_inMiss rfl (words _) (by decide +kernel) (z_miss rfl (by decide +kernel) (z_miss rfl (by decide +kernel) (z_miss rfl (by decide +kernel) (z_hit rfl rfl (z_ret (y_cb (A := fun xs => ∃ l, xs = [dLs K l] ∧ l.length = ((seen eyes st h).filter fun x => c.so (sight eyes st h) x).length)
      (ap_cons (y_soAll V ok (by omega) rfl (fun _ => rfl) (fun _ => rfl) rfl) (by rintro _ ⟨l, rfl, e⟩; exact ap_nil ⟨l, rfl, e⟩)) (by rintro _ ⟨l, rfl, e⟩; exact cp_lenL (by rw [e]; exact hP)))))))))
  | plus a b => exact z_word rfl (z_inMiss rfl (words _) (by decide +kernel) (z_miss rfl (by decide +kernel) (z_miss rfl (by decide +kernel) (z_miss rfl (by decide +kernel) (z_miss rfl (by decide +kernel) (sm _ rfl trivial _ _ rfl rfl))))))
  | less a b => exact z_word rfl (z_inMiss rfl (words _) (by decide +kernel) (z_miss rfl (by decide +kernel) (z_miss rfl (by decide +kernel) (z_miss rfl (by decide +kernel) (z_miss rfl (by decide +kernel) (sm _ rfl trivial _ _ rfl rfl))))))
  | rest a b => exact z_word rfl (z_inMiss rfl (words _) (by decide +kernel) (z_miss rfl (by decide +kernel) (z_miss rfl (by decide +kernel) (z_miss rfl (by decide +kernel) (z_miss rfl (by decide +kernel) (sm _ rfl trivial _ _ rfl rfl))))))
  | ite c a b => exact z_word rfl (z_inMiss rfl (words _) (by decide +kernel) (z_miss rfl (by decide +kernel) (z_miss rfl (by decide +kernel) (z_miss rfl (by decide +kernel) (z_miss rfl (by decide +kernel) (sm _ rfl trivial _ _ rfl rfl))))))
theorem ok_so {n : Nat} (F : Fun K "is_so" "Sight.is_so" s_S_is_so f fd) (T : Sgt K mg C) (m_number_at : CalM p w K mg base C "number_at" (4 + 2 * n) ["self", "term"] (spD K W0 (preT n K C))) (m_is_so : CalM p w K mg base C "is_so" (4 + 2 * n) ["self", "claim"] (spD K W0 (preC n K C))) :
    FnOk p w K mg base CX0 (4 + 2 * n + 1) f fd ["self", "claim"] (spD K W0 (preC (n + 1) K C)) := by
  refine ok_D F sc_S_is_so (fun H xs P h => ?_) fun cdv A outer s H E hr => ⟨_, (pss_cons (ps_set (i := 2) sc_S_is_so.nd rfl (.inl rfl) (pe_ix ix_tup (pv 1) pe_int (fun _ _ => rfl))) (pss_cons (ps_if (pt_cmpR  op_eq (pv 2) pe_str (nomark _)) (pss_one (ps_ret pe_bl)) pss_nil) (pss_cons (ps_if (pt_cmpR  op_eq (pv 2) pe_str (nomark _)) (pss_one (ps_ret (pe_cmpR  op_eq (pe_calm m_number_at T.cl (hr.mono (by omega)) (pv 0) (pa_cons (pe_ix ix_tup (pv 1) pe_int (fun _ _ => rfl)) pa_nil)) (pe_calm m_number_at T.cl (hr.mono (by omega)) (pv 0) (pa_cons (pe_ix ix_tup (pv 1) pe_int (fun _ _ => rfl)) pa_nil)) (nomark _)))) pss_nil) (pss_cons (ps_if (pt_cmpR  op_eq (pv 2) pe_str (nomark _)) (pss_one (ps_ret (pe_cmpR  op_lt (pe_calm m_number_at T.cl (hr.mono (by omega)) (pv 0) (pa_cons (pe_ix ix_tup (pv 1) pe_int (fun _ _ => rfl)) pa_nil)) (pe_calm m_number_at T.cl (hr.mono (by omega)) (pv 0) (pa_cons (pe_ix ix_tup (pv 1) pe_int (fun _ _ => rfl)) pa_nil)) (nomark _)))) pss_nil) (pss_cons (ps_if (pt_cmpR  op_eq (pv 2) pe_str (nomark _)) (pss_one (ps_ret (pe_not (pe_calm m_is_so T.cl (hr.mono (by omega)) (pv 0) (pa_cons (pe_ix ix_tup (pv 1) pe_int (fun _ _ => rfl)) pa_nil))))) pss_nil) (pss_cons (ps_if (pt_cmpR  op_eq (pv 2) pe_str (nomark _)) (pss_one (ps_ret (pe_and (pe_calm m_is_so T.cl (hr.mono (by omega)) (pv 0) (pa_cons (pe_ix ix_tup (pv 1) pe_int (fun _ _ => rfl)) pa_nil)) (pe_one (pe_calm m_is_so T.cl (hr.mono (by omega)) (pv 0) (pa_cons (pe_ix ix_tup (pv 1) pe_int (fun _ _ => rfl)) pa_nil)))))) pss_nil) (pss_one (ps_ret (pe_or (pe_calm m_is_so T.cl (hr.mono (by omega)) (pv 0) (pa_cons (pe_ix ix_tup (pv 1) pe_int (fun _ _ => rfl)) pa_nil)) (pe_one (pe_calm m_is_so T.cl (hr.mono (by omega)) (pv 0) (pa_cons (pe_ix ix_tup (pv 1) pe_int (fun _ _ => rfl)) pa_nil)))))))))))), fun H xs P _ h => ?_⟩
  · obtain ⟨nb, inn, eyes, st, h, o, t, _, _, _, rfl, _⟩ := h
    rfl
  obtain ⟨nb, inn, eyes, st, h, o, c, V, ok, rk, rfl, hP⟩ := h
  refine ⟨W0, fun _ _ r => r, trivial, ?_⟩
  cases c with
  | yes => exact z_word rfl (z_hit rfl rfl (z_ret (y_bl hP)))
  | like a b =>
    have rk' : max a.rk b.rk + 1 < n + 1 := rk
    exact z_word rfl (z_miss rfl (by decide +kernel) (z_hit rfl rfl (z_ret (y_opE (y_num V ok.1 (by omega) rfl rfl rfl rfl) (y_num V ok.2 (by omega) rfl rfl rfl rfl) (rp_eqI hP)))))
  | bel a b =>
    have rk' : max a.rk b.rk + 1 < n + 1 := rk
    exact z_word rfl (z_miss rfl (by decide +kernel) (z_miss rfl (by decide +kernel) (z_hit rfl rfl (z_ret (y_opE (y_num V ok.1 (by omega) rfl rfl rfl rfl) (y_num V ok.2 (by omega) rfl rfl rfl rfl) (rp_cmp hP))))))
  | not a =>
    have rk' : a.rk + 1 < n + 1 := rk
    exact z_word rfl (z_miss rfl (by decide +kernel) (z_miss rfl (by decide +kernel) (z_miss rfl (by decide +kernel) (z_hit rfl rfl (z_ret (y_notV (y_so (c := a) V ok (by omega) rfl rfl rfl ⟨_, rfl, hP⟩)))))))
  | and a b =>
    have rk' : max a.rk b.rk + 1 < n + 1 := rk
    have e : (Cl.and a b).so (sight eyes st h) (oth st o) = (a.so (sight eyes st h) (oth st o) && b.so (sight eyes st h) (oth st o)) := rfl
    rw [e] at hP
    refine z_word rfl (z_miss rfl (by decide +kernel) (z_miss rfl (by decide +kernel) (z_miss rfl (by decide +kernel) (z_miss rfl (by decide +kernel) (z_hit rfl rfl (z_ret (y_andV (A := fun x => x = a.so (sight eyes st h) (oth st o)) (y_so V ok.1 (by omega) rfl rfl rfl ⟨_, rfl, rfl⟩) (fun h1 => ?_) fun h0 => ?_)))))))
    · rw [← h1, Bool.true_and] at hP
      exact y_so V ok.2 (by omega) rfl rfl rfl hP
    · rw [← h0, Bool.false_and] at hP
      exact hP
  | or a b =>
    have rk' : max a.rk b.rk + 1 < n + 1 := rk
    have e : (Cl.or a b).so (sight eyes st h) (oth st o) = (a.so (sight eyes st h) (oth st o) || b.so (sight eyes st h) (oth st o)) := rfl
    rw [e] at hP
    refine z_word rfl (z_miss rfl (by decide +kernel) (z_miss rfl (by decide +kernel) (z_miss rfl (by decide +kernel) (z_miss rfl (by decide +kernel) (z_miss rfl (by decide +kernel) (z_ret (y_orV (A := fun x => x = a.so (sight eyes st h) (oth st o)) (y_so V ok.1 (by omega) rfl rfl rfl ⟨_, rfl, rfl⟩) (fun h0 => ?_) fun h1 => ?_)))))))
    · rw [← h0, Bool.false_or] at hP
      exact y_so V ok.2 (by omega) rfl rfl rfl hP
    · rw [← h1, Bool.true_or] at hP
      exact hP
end
end Sr

/-! The program's defs: rules, ready hands, acts. -/
namespace Sr
open PySem L2
/-- a def as it stands behind the top -/
def DF (K : PySem.W.Frag) (mg : Str → Option Value) (nm : Str) (st : Stmt) (ps : List Str) : Prop := ∃ (f : Addr) (fd : FuncData), mg nm = some (.ref f) ∧ Fun K nm nm st f fd ∧ Binds K fd ps []
def MF (K : PySem.W.Frag) (C : Addr) (m qual : Str) (st : Stmt) (ps : List Str) : Prop := ∃ (f : Addr) (fd : FuncData), Meth K C m f ∧ Fun K m qual st f fd ∧ Binds K fd ps []
section
variable {p : Program} {w : World} {K : PySem.W.Frag} {mg : Str → Option Value} {base : Heap} {C : Addr}
theorem DF.cal {nm : Str} {st : Stmt} {ps : List Str} {k : Nat} {sp : Sp} (D : DF K mg nm st ps) (h : ∀ f fd, Fun K nm nm st f fd → FnOk p w K mg base CX0 k f fd ps sp) : Cal p w K mg base nm k ps sp := by
  obtain ⟨f, fd, a, F, b⟩ := D
  exact ⟨f, fd, a, h f fd F, F.kp, b⟩
theorem MF.cal {m qual : Str} {st : Stmt} {ps : List Str} {k : Nat} {sp : Sp} (D : MF K C m qual st ps) (h : ∀ f fd, Fun K m qual st f fd → FnOk p w K mg base CX0 k f fd ps sp) : CalM p w K mg base C m k ps sp := by
  obtain ⟨f, fd, a, F, b⟩ := D
  exact ⟨f, fd, a, h f fd F, b⟩
/-! ### Sight, all of it -/
structure SgD (K : PySem.W.Frag) (C : Addr) : Prop where
  ini : ∃ (f : Addr) (fd : FuncData), Mk K C f ∧ Fun K "__init__" "Sight.__init__" s_S_init f fd ∧ Binds K fd ["self", "eyes", "stand", "hand", "other"] []
  ov : MF K C "over_others" "Sight.over_others" s_S_over_others ["self"]
  pl : MF K C "plain" "Sight.plain" s_S_plain ["self", "term"]
  ey : MF K C "by_eye" "Sight.by_eye" s_S_by_eye ["self", "place", "box"]
  rc : MF K C "reckoned" "Sight.reckoned" s_S_reckoned ["self", "term"]
  nu : MF K C "number_at" "Sight.number_at" s_S_number_at ["self", "term"]
  so : MF K C "is_so" "Sight.is_so" s_S_is_so ["self", "claim"]
theorem SgD.i (D : SgD K C) (T : Sgt K mg C) : CalI p w K mg base C 1 ["self", "eyes", "stand", "hand", "other"] (spIni C) := by
  obtain ⟨f, fd, a, F, b⟩ := D.ini
  exact ⟨f, fd, a, ok_init F T, b⟩
theorem none_T {f : Addr} {fd : FuncData} {k : Nat} : FnOk p w K mg base CX0 k f fd ["self", "term"] (spD K W0 (preT 0 K C)) := by
  have no : ∀ vs H Q E, ¬ spD K W0 (preT 0 K C) vs H Q E := fun vs H Q E h => by
    obtain ⟨xs, P, _, _, ⟨nb, inn, eyes, st, h, o, t, _, _, r, _⟩, _⟩ := h
    omega
  exact ⟨fun vs H Q E h => (no vs H Q E h).elim, fun A outer s H args us vs Q E _ _ _ _ h => (no vs H Q E h).elim⟩
theorem none_C {f : Addr} {fd : FuncData} {k : Nat} : FnOk p w K mg base CX0 k f fd ["self", "claim"] (spD K W0 (preC 0 K C)) := by
  have no : ∀ vs H Q E, ¬ spD K W0 (preC 0 K C) vs H Q E := fun vs H Q E h => by
    obtain ⟨xs, P, _, _, ⟨nb, inn, eyes, st, h, o, t, _, _, r, _⟩, _⟩ := h
    omega
  exact ⟨fun vs H Q E h => (no vs H Q E h).elim, fun A outer s H args us vs Q E _ _ _ _ h => (no vs H Q E h).elim⟩
theorem SgD.all (D : SgD K C) (T : Sgt K mg C) (B : Blt mg) : ∀ n : Nat, CalM p w K mg base C "number_at" (4 + 2 * n) ["self", "term"] (spD K W0 (preT n K C)) ∧ CalM p w K mg base C "is_so" (4 + 2 * n) ["self", "claim"] (spD K W0 (preC n K C))
  | 0 => ⟨D.nu.cal fun _ _ _ => none_T, D.so.cal fun _ _ _ => none_C⟩
  | n + 1 => by
    obtain ⟨i1, i2⟩ := D.all T B n
    have ov : CalM p w K mg base C "over_others" 3 ["self"] (spD K W0 (preOv K C)) := D.ov.cal fun f fd F => ok_over F T (D.i T)
    have pl : CalM p w K mg base C "plain" 1 ["self", "term"] (spD K W0 (prePl K C)) := D.pl.cal fun f fd F => ok_plain F T
    have ey : CalM p w K mg base C "by_eye" 1 ["self", "place", "box"] (spD K W0 (preEye K C)) := D.ey.cal fun f fd F => ok_eye F T B
    have rc : CalM p w K mg base C "reckoned" (4 + 2 * n + 1) ["self", "term"] (spD K W0 (preRk (n + 1) K C)) := D.rc.cal fun f fd F => ok_rec F T B i1 i2
    exact ⟨D.nu.cal fun f fd F => ok_num F T B pl ey ov rc i1 i2, D.so.cal fun f fd F => (ok_so F T i1 i2).mono (by omega)⟩
/-! ### value_at, holds_at -/
def preVal : Pre := fun _ xs P => ∃ nb eyes st h, ∃ t : Tm, Vw nb false eyes st h none ∧ t.Ok nb false ∧ t.rk < 4 ∧ xs = [.d (dEyes eyes), .d (dStand st), .d (dN h), .d t.dat] ∧ P (.d (.int (t.val (sight eyes st h) (0, []))))
def preHol : Pre := fun _ xs P => ∃ nb eyes st h, ∃ c : Cl, Vw nb false eyes st h none ∧ c.Ok nb false ∧ c.rk < 4 ∧ xs = [.d (dEyes eyes), .d (dStand st), .d (dN h), .d c.dat] ∧ P (.d (.bool (c.so (sight eyes st h) (0, []))))
theorem y_methS {W : Wd} {ds : Fm} {te : TE} {P : Dv → Prop} {m : Str} {sp : Sp} {E : XK} {ta : TA} {A : Dv → Prop} {B : List Dv → Prop} (hm : NoF m) (hA : ∀ x, A x → ∃ eyes st h o, x = dSg K C eyes st h o) (hy : Yp K W te ds A) (ha : Ap K W ta ds B) (hs : ∀ x xs, A x → B xs → Sps K W sp (x :: xs) P) : Yp K W (tMeth C m sp [] E te ta) ds P := fun σ H i s Q q =>
  hy σ H i s _ fun u H1 x r1 d1 e1 => by
    obtain ⟨eyes, st, h, o, rfl⟩ := hA x e1
    obtain ⟨a, dx, ve, vs, vh, vo, rfl, g1, _⟩ := id d1
    refine ⟨a, dx, _, rfl, g1, sgF_no hm.1 hm.2.1 hm.2.2.1 hm.2.2.2, ha σ H1 (W.im r1 i) (s.keep (W.keep r1)) _ fun us H2 xs r2 d2 b => ?_⟩
    rw [List.append_nil]
    exact hs _ xs e1 b H2 (.ref a :: us) (W.im (W.trans r1 r2) i) (.cons (Dok.keep (W.keep r2) (x := dSg K C eyes st h o) d1) d2) Q E fun z H' d r3 d3 p3 => q z H' d (W.trans r1 (W.trans r2 r3)) d3 p3
theorem ok_val {f : Addr} {fd : FuncData} (F : Fun K "value_at" "value_at" s_value_at f fd) (T : Sgt K mg C) (k_init : CalI p w K mg base C 1 ["self", "eyes", "stand", "hand", "other"] (spIni C)) (m_number_at : CalM p w K mg base C "number_at" 12 ["self", "term"] (spD K W0 (preT 4 K C))) :
    FnOk p w K mg base CX0 13 f fd ["eyes", "stand", "hand", "term"] (spD K W0 preVal) := by
  refine ok_D F sc_value_at (fun H xs P h => ?_) fun cdv A outer s H E hr => ⟨_, (pss_one (ps_ret (pe_calm m_number_at T.cl (hr.mono (by omega)) (pe_mk k_init T.mg (hr.mono (by omega)) (pa_cons (pv 0) (pa_cons (pv 1) (pa_cons (pv 2) (pa_cons pe_non pa_nil))))) (pa_cons (pv 3) pa_nil)))), fun H xs P _ h => ?_⟩
  · obtain ⟨nb, eyes, st, h, t, _, _, _, rfl, _⟩ := h
    rfl
  obtain ⟨nb, eyes, st, h, t, V, ok, rk, rfl, hP⟩ := h
  exact ⟨W0, fun _ _ r => r, trivial, z_ret (y_methS (A := fun x => x = dSg K C eyes st h none) (B := fun xs => xs = [.d t.dat]) nf_num (fun x e => ⟨_, _, _, _, e⟩) (y_mk (ap_consE (y_varE rfl) (ap_consE (y_varE rfl) (ap_consE (y_varE rfl) (ap_cons (A := (· = .d .none)) (y_non rfl) (by rintro _ rfl; exact ap_nil ⟨eyes, st, h, none, rfl, rfl⟩))))))
    (ap_consE (y_varE rfl) (ap_nil rfl)) (by rintro _ _ rfl rfl; exact sps_0 fun H => ⟨nb, false, eyes, st, h, none, t, V, ok, rk, rfl, hP⟩))⟩
theorem ok_hol {f : Addr} {fd : FuncData} (F : Fun K "holds_at" "holds_at" s_holds_at f fd) (T : Sgt K mg C) (k_init : CalI p w K mg base C 1 ["self", "eyes", "stand", "hand", "other"] (spIni C)) (m_is_so : CalM p w K mg base C "is_so" 12 ["self", "claim"] (spD K W0 (preC 4 K C))) :
    FnOk p w K mg base CX0 13 f fd ["eyes", "stand", "hand", "claim"] (spD K W0 preHol) := by
  refine ok_D F sc_holds_at (fun H xs P h => ?_) fun cdv A outer s H E hr => ⟨_, (pss_one (ps_ret (pe_calm m_is_so T.cl (hr.mono (by omega)) (pe_mk k_init T.mg (hr.mono (by omega)) (pa_cons (pv 0) (pa_cons (pv 1) (pa_cons (pv 2) (pa_cons pe_non pa_nil))))) (pa_cons (pv 3) pa_nil)))), fun H xs P _ h => ?_⟩
  · obtain ⟨nb, eyes, st, h, t, _, _, _, rfl, _⟩ := h
    rfl
  obtain ⟨nb, eyes, st, h, t, V, ok, rk, rfl, hP⟩ := h
  exact ⟨W0, fun _ _ r => r, trivial, z_ret (y_methS (A := fun x => x = dSg K C eyes st h none) (B := fun xs => xs = [.d t.dat]) nf_so (fun x e => ⟨_, _, _, _, e⟩) (y_mk (ap_consE (y_varE rfl) (ap_consE (y_varE rfl) (ap_consE (y_varE rfl) (ap_cons (A := (· = .d .none)) (y_non rfl) (by rintro _ rfl; exact ap_nil ⟨eyes, st, h, none, rfl, rfl⟩))))))
    (ap_consE (y_varE rfl) (ap_nil rfl)) (by rintro _ _ rfl rfl; exact sps_0 fun H => ⟨nb, false, eyes, st, h, none, t, V, ok, rk, rfl, hP⟩))⟩
/-! ### is_whole -/
def preWh : Pre := fun _ xs P => ∃ i : Int, xs = [.d (.int i)] ∧ P (.d (.bool true))
theorem ok_whole {f : Addr} {fd : FuncData} (F : Fun K "is_whole" "is_whole" s_is_whole f fd) (B : Blt mg) : FnOk p w K mg base CX0 1 f fd ["thing"] (spD K W0 preWh) := by
  refine ok_D F sc_is_whole (fun H xs P h => ?_) fun cdv A outer s H E hr => ⟨_, (pss_one (ps_ret (pe_and (pe_callB call_isi (by rfl) B.isinstance (by decide +kernel) (pa_cons (pv 0) (pa_cons (pe_bltn (v := .ty "int") (by rfl) B.int (by decide +kernel) rfl) pa_nil))) (pe_one (pe_not (pe_callB call_isi (by rfl) B.isinstance (by decide +kernel) (pa_cons (pv 0) (pa_cons (pe_bltn (v := .ty "bool") (by rfl) B.bool (by decide +kernel) rfl) pa_nil)))))))), fun H xs P _ h => ?_⟩
  · obtain ⟨i, rfl, _⟩ := h
    rfl
  obtain ⟨i, rfl, hP⟩ := h
  exact ⟨W0, fun _ _ r => r, trivial, z_ret (y_andV (A := fun b => b = true) (y_cb (A := fun xs => xs = [.d (.int i), .v (.ty "int")]) (ap_consE (y_varE rfl) (ap_consE (y_c rfl) (ap_nil rfl))) (by rintro _ rfl; exact cp_isInt (b := true) (by decide +kernel) ⟨_, rfl, rfl⟩))
    (fun _ => y_notV (y_cb (A := fun xs => xs = [.d (.int i), .v (.ty "bool")]) (ap_consE (y_varE rfl) (ap_consE (y_c rfl) (ap_nil rfl))) (by rintro _ rfl; exact cp_isInt (b := false) (by decide +kernel) ⟨_, rfl, hP⟩))) fun h => nomatch h)⟩
/-! ### rule_at -/
theorem Sys.Ok.vw {S : Sys} {st : Stand} (o : S.Ok) (so : StOk S st) {h : Nat} (hh : h < S.eyes.length) : Vw S.sizes.length false S.eyes st h none :=
  ⟨by rw [so.len]; exact hh, hh, fun l hl e he => by rw [so.len]; exact o.eye l hl e he, o.wide, so.box, fun q => nomatch q⟩
theorem Sys.Ok.kd {S : Sys} (o : S.Ok) {h : Nat} (hh : h < S.eyes.length) : S.kinds.getD h 0 < S.rules.length := o.kind _ (getD_mem (by rw [o.kinds]; exact hh))
theorem Sys.Ok.rl {S : Sys} (o : S.Ok) {h : Nat} (hh : h < S.eyes.length) : S.ruleOf h ∈ S.rules := getD_mem (o.kd hh)
/-- eyes, sizes, kinds, rules = system -/
theorem z_four {W : Wd} {ds : Fm} {i a b c d : Nat} {S : Sys} {rest : TS} {N : Fm → Prop} {Rt : Dv → Prop} (hs : ds[i]? = some (some (.d S.dat))) (h : Zp K W rest ((((ds.set a (some (.d (dEyes S.eyes)))).set b (some (.d (dIs S.sizes)))).set c (some (.d (dNs S.kinds)))).set d (some (.d (.tuple (S.rules.map dRules))))) N Rt) :
    Zp K W (tSeq (tAsg (tVar i) (gTup K 4 (gCons (gName a) (gCons (gName b) (gCons (gName c) (gCons (gName d) gNil)))))) rest) ds N Rt :=
  z_seq (M := fun e => e = ((((ds.set a (some (.d (dEyes S.eyes)))).set b (some (.d (dIs S.sizes)))).set c (some (.d (dNs S.kinds)))).set d (some (.d (.tuple (S.rules.map dRules))))))
    (z_asg (A := fun x => x = .d S.dat) (y_varE hs) (by rintro _ rfl; exact gp_tup (n := 4) rfl (gps_cons (gp_name (gps_cons (gp_name (gps_cons (gp_name (gps_cons (gp_name (gps_nil rfl))))))))))) (by rintro _ rfl; exact h)
theorem gp_le {W : Wd} {d e : Fm} {g : TG} {x : Dv} {N : Fm → Prop} (hl : Fle d e) (h : Gp K W g x d N) : Gp K W g x e N := fun σ H u i s => h σ H u i (s.le hl)
/-- rules[kinds[hand]] -/
theorem y_rules {W : Wd} {ds : Fm} {i j k : Nat} {S : Sys} {h : Nat} (o : S.Ok) (hh : h < S.eyes.length) (hr : ds[i]? = some (some (.d (.tuple (S.rules.map dRules))))) (hk : ds[j]? = some (some (.d (dNs S.kinds)))) (hd : ds[k]? = some (some (.d (dN h)))) :
    Yp K W (tOp (rIxT K) (tVar i) (tOp (rIxT K) (tVar j) (tVar k))) ds (· = .d (dRules (S.ruleOf h))) :=
  y_opE (y_varE hr) (y_opE (y_varE hk) (y_varE hd) (rp_ixN (b := 0) (by rw [o.kinds]; exact hh) rfl)) (rp_ixT (atI_map (at_lt (o.kd hh))) rfl)
def preRu : Pre := fun _ xs P => ∃ S st h, Sys.Ok S ∧ StOk S st ∧ h < S.eyes.length ∧ xs = [.d S.dat, .d (dStand st), .d (dN h)] ∧ P (.d (dO (S.ruleAt st h)))
theorem ok_rule {f : Addr} {fd : FuncData} (F : Fun K "rule_at" "rule_at" s_rule_at f fd) (B : Blt mg) (c_holds_at : Cal p w K mg base "holds_at" 13 ["eyes", "stand", "hand", "claim"] (spD K W0 preHol)) : FnOk p w K mg base CX0 14 f fd ["system", "stand", "hand"] (spD K W0 preRu) := by
  refine ok_D F sc_rule_at (fun H xs P h => ?_) fun cdv A outer s H E hr => ⟨_, (pss_cons (ps_asg (pv 0) (pg_tup rfl (pgs_cons (pg_name (i := 3) sc_rule_at.nd rfl (.inl rfl)) (pgs_cons (pg_name (i := 4) sc_rule_at.nd rfl (.inl rfl)) (pgs_cons (pg_name (i := 5) sc_rule_at.nd rfl (.inl rfl)) (pgs_cons (pg_name (i := 6) sc_rule_at.nd rfl (.inl rfl)) pgs_nil)))))) (pss_cons (ps_for PassesOwn.never rfl (pi_enT rfl B.enumerate (pa_cons (pe_ix ix_tup (pv 6) (pe_ix ix_tup (pv 5) (pv 2) (fun _ _ => rfl)) (fun _ _ => rfl)) pa_nil)) (pg_tup rfl (pgs_cons (pg_name (i := 7) sc_rule_at.nd rfl (.inl rfl)) (pgs_cons (pg_name (i := 8) sc_rule_at.nd rfl (.inl rfl)) pgs_nil))) (pss_one (ps_if (pt_val (pe_cal c_holds_at (hr.mono (by omega)) (by rfl) (pa_cons (pv 3) (pa_cons (pv 1) (pa_cons (pv 2) (pa_cons (pe_ix ix_tup (pv 8) pe_int (fun _ _ => rfl)) pa_nil)))))) (pss_one (ps_ret (pv 7))) pss_nil))) (pss_one (ps_ret pe_non)))), fun H xs P _ h => ?_⟩
  · obtain ⟨S, st, h, _, _, _, rfl, _⟩ := h
    rfl
  obtain ⟨S, st, h, o, so, hh, rfl, hP⟩ := h
  refine ⟨W0, fun _ _ r => r, trivial, z_four rfl (z_seq (M := fun _ => S.ruleAt st h = none) (z_for (A := fun xs => xs = enu ((S.ruleOf h).map dRule))
    (fun xs i d => Fle [none, some (.d (dStand st)), some (.d (dN h)), some (.d (dEyes S.eyes)), none, none, none, none, none] d ∧ ∀ r ∈ (S.ruleOf h).take i, r.1.so (sight S.eyes st h) (0, []) = false)
    (ip_enT (ap_consE (y_rules o hh rfl rfl rfl) (ap_nil ⟨_, rfl, rfl⟩))) ?_ ?_ ?_) ?_)⟩
  · rintro xs rfl
    exact ⟨.none (.cons (.cons (.cons (.none (.none (.none (.none (.none .nil)))))))), fun r hr => by simp at hr⟩
  · rintro xs rfl i x d hx ⟨hd, hb⟩
    obtain ⟨e, he, rfl⟩ := enu_of hx
    obtain ⟨r, hr, rfl⟩ : ∃ r, (S.ruleOf h)[i]? = some r ∧ e = dRule r := by
      rw [List.getElem?_map] at he
      cases q : (S.ruleOf h)[i]? with
      | none => rw [q] at he; cases he
      | some r => rw [q] at he; exact ⟨r, rfl, (Option.some.inj he).symm⟩
    have hmem := List.mem_of_getElem? hr
    obtain ⟨c1, c2⟩ := o.cl _ (o.rl hh) r hmem
    refine gp_le hd (gp_tup rfl (gps_cons (gp_name (gps_cons (gp_name (gps_nil (z_if (A := fun b => b = r.1.so (sight S.eyes st h) (0, [])) (t_B (y_call (A := fun xs => xs = [.d (dEyes S.eyes), .d (dStand st), .d (dN h), .d r.1.dat])
      (ap_consE (y_varE rfl) (ap_consE (y_varE rfl) (ap_consE (y_varE rfl) (ap_consE (y_opE (y_varE rfl) y_intE (rp_ixW (j := 0) rfl rfl)) (ap_nil rfl))))) (by rintro _ rfl; exact sps_0 fun H => ⟨_, _, _, _, r.1, o.vw so hh, c1, c2, rfl, _, rfl, rfl⟩))) (fun hc => z_ret (y_var rfl ?_)) fun hc => z_next ⟨?_, ?_⟩)))))))
    · have e : S.ruleAt st h = some i := by
        unfold Sys.ruleAt
        have hi := (List.getElem?_eq_some_iff.mp hr).1
        rw [List.findIdx?_eq_some_iff_getElem]
        refine ⟨hi, ?_, fun j hj => ?_⟩
        · rw [(List.getElem?_eq_some_iff.mp hr).2]
          exact hc.symm
        · have q := hb ((S.ruleOf h)[j]'(by omega)) (List.mem_take_iff_getElem.mpr ⟨j, by omega, rfl⟩)
          simp [q]
      rw [e] at hP
      exact hP
    · exact .none (.cons (.cons (.cons (.none (.none (.none (.none (.none .nil))))))))
    · intro r' hr'
      rw [List.take_add_one, hr] at hr'
      rcases List.mem_append.mp hr' with z | z
      · exact hb r' z
      · have z' : r' = r := by simpa using z
        rw [z']
        exact hc.symm
  · rintro xs d rfl ⟨_, hb⟩
    unfold Sys.ruleAt
    rw [List.findIdx?_eq_none_iff]
    intro r hr
    refine hb r ?_
    rw [enu_len, List.length_map, List.take_length]
    exact hr
  · intro d e
    rw [e] at hP
    exact z_ret (y_non hP)
end
end Sr

/-! Ready hands, what acts lay. -/
namespace Sr
open PySem L2
section
variable {p : Program} {w : World} {K : PySem.W.Frag} {mg : Str → Option Value} {base : Heap} {C : Addr}
/-! ### ready_hands -/
def preRe : Pre := fun _ xs P => ∃ S st, Sys.Ok S ∧ StOk S st ∧ xs = [.d S.dat, .d (dStand st)] ∧ P (.l ((S.ready st).map dN))
theorem isNo_dO (o : Option Nat) : isNo (dO o) = !o.isSome := by cases o <;> rfl
theorem ok_ready {f : Addr} {fd : FuncData} (F : Fun K "ready_hands" "ready_hands" s_ready_hands f fd) (B : Blt mg) (c_rule_at : Cal p w K mg base "rule_at" 14 ["system", "stand", "hand"] (spD K W0 preRu)) : FnOk p w K mg base CX0 15 f fd ["system", "stand"] (spD K W0 preRe) := by
  refine ok_D F sc_ready_hands (fun H xs P h => ?_) fun cdv A outer s H E hr => ⟨_, (pss_one (ps_ret (pe_lc (own := [("hand", 2)]) (g := gName 2) rfl sc_ready_hands.nd (pi_range1 rfl B.range (pa_cons (pe_callB call_len_seq (by rfl) B.len PySem.boot_len (pa_cons (pv 1) pa_nil)) pa_nil)) (blkOk_by (N := ["system", "stand", "hand"]) (sc := defScope s_ready_hands) (by decide +kernel)) (fun _ _ _ _ _ => pg_name (i := 2) sc_ready_hands.nd rfl (.inl rfl)) (fun _ _ _ _ _ => pts_one (pt_cmpR  op_notN (pe_cal c_rule_at (hr.mono (by omega)) (by rfl) (pa_cons (pv 0) (pa_cons (pv 1) (pa_cons (pv 2) pa_nil)))) pe_non (nomark _))) (fun _ _ _ _ _ => (pv 2))))), fun H xs P _ h => ?_⟩
  · obtain ⟨S, st, _, _, rfl, _⟩ := h
    rfl
  obtain ⟨S, st, o, so, rfl, hP⟩ := h
  have len := o.many
  refine ⟨W0, fun _ _ r => r, trivial, z_ret (y_lc (A := fun xs => xs = rng st.length) (fun xs j acc => acc = (((List.range j).filter fun h => (S.ruleAt st h).isSome).map dN).map Dv.d)
    (ip_range (ap_cons (A := fun x => x = .d (.int (st.length : Int))) (y_cb (A := fun xs => xs = [.d (dStand st)]) (ap_consE (y_varE rfl) (ap_nil rfl)) (by rintro _ rfl; exact cp_len rfl (by rw [List.length_map]))) (by rintro _ rfl; exact ap_nil ⟨st.length, rfl, by rw [so.len]; omega, rfl⟩)))
    (by rintro xs rfl; rfl) ?_ (by rintro xs rfl; rw [rng_len, so.len]; omega) ?_)⟩
  · rintro xs rfl j x acc hx hl rfl
    obtain ⟨rfl, hj⟩ := rng_of hx
    refine t_test (y_opE (x := .d (dO (S.ruleAt st j))) (y_call (A := fun xs => xs = [.d S.dat, .d (dStand st), .d (dN j)]) (ap_consE (y_varE rfl) (ap_consE (y_varE rfl) (ap_consE (y_varE rfl) (ap_nil rfl)))) (by rintro _ rfl; exact sps_0 fun H => ⟨S, st, j, o, so, by rw [← so.len]; exact hj, rfl, rfl⟩)) (y_non (P := (· = .d .none)) rfl) (rp_notN ⟨_, rfl, ?_⟩))
    have q : (List.range (j + 1)).filter (fun h => (S.ruleAt st h).isSome) = (List.range j).filter (fun h => (S.ruleAt st h).isSome) ++ (if (S.ruleAt st j).isSome = true then [j] else []) := by
      rw [List.range_succ, List.filter_append]
      cases hq : (S.ruleAt st j).isSome <;> simp [hq]
    rw [isNo_dO, Bool.not_not]
    cases hq : (S.ruleAt st j).isSome with
    | true =>
      rw [if_pos rfl]
      refine y_var rfl ⟨rfl, ?_⟩
      rw [q, hq, List.map_append, List.map_append]
      rfl
    | false =>
      rw [if_neg Bool.false_ne_true]
      rw [q, hq]
      simp
  · rintro xs acc rfl rfl
    rw [rng_len]
    exact ⟨_, hP, fun H a us hu hd => ⟨a, us, rfl, hu, dpAll_of hd⟩⟩
/-! ### boxes_behind -/
theorem Sys.ready_lt {S : Sys} {st : Stand} {h : Nat} (hm : h ∈ S.ready st) : h < st.length ∧ ∃ i, S.ruleAt st h = some i ∧ i < (S.ruleOf h).length := by
  obtain ⟨a, b⟩ := List.mem_filter.mp hm
  obtain ⟨i, hi⟩ := Option.isSome_iff_exists.mp b
  refine ⟨List.mem_range.mp a, i, hi, ?_⟩
  unfold Sys.ruleAt at hi
  rw [List.findIdx?_eq_some_iff_getElem] at hi
  exact hi.1
def preBx : Pre := fun _ xs P => ∃ S st h, Sys.Ok S ∧ StOk S st ∧ h ∈ S.ready st ∧ xs = [.d S.dat, .d (dStand st), .d (dN h)] ∧ P (.d (dIs (S.boxes st h)))
theorem laid_len (S : Sys) (st : Stand) (h : Nat) : ∀ (ls : List (Nat × Tm)) (bx : List Int), (ls.foldl (S.laid st h) bx).length = bx.length
  | [], _ => rfl
  | l :: ls, bx => by rw [List.foldl_cons, laid_len S st h ls]; unfold Sys.laid; rw [List.length_set]
/-- a list of the def's own, read as data -/
theorem y_varL {W : Wd} {ds : Fm} {i : Nat} {es : List PyData} {P : Dv → Prop} (h : ds[i]? = some (some (dLs K (es.map .d)))) (q : P (.l es)) : Yp K W (tVar i) ds P := fun σ H ii s Q k => by
  obtain ⟨u, a, b⟩ := s.at_ i _ h
  obtain ⟨c, us, rfl, h1, h2⟩ := b
  exact ⟨_, a, k _ H (.l es) (W.refl H) ⟨c, us, rfl, h1, dpAll_of h2⟩ q⟩
theorem map_set_d (l : List PyData) (j : Nat) (e : PyData) : (l.map Dv.d).set j (.d e) = (l.set j e).map Dv.d := by rw [List.map_set]
mutual
theorem nl_Tm : ∀ t : Tm, nolist t.dat = true
  | .num _ => rfl
  | .own _ => rfl
  | .eye _ _ => rfl
  | .me => rfl
  | .its _ => rfl
  | .it => rfl
  | .plus a b => by simp [Tm.dat, nolist, nolists, dS, nl_Tm a, nl_Tm b]
  | .less a b => by simp [Tm.dat, nolist, nolists, dS, nl_Tm a, nl_Tm b]
  | .rest a _ => by simp [Tm.dat, nolist, nolists, dS, nl_Tm a]
  | .least a => by simp [Tm.dat, nolist, nolists, dS, nl_Tm a]
  | .most a => by simp [Tm.dat, nolist, nolists, dS, nl_Tm a]
  | .many c => by simp [Tm.dat, nolist, nolists, dS, nl_Cl c]
  | .ite c a b => by simp [Tm.dat, nolist, nolists, dS, nl_Cl c, nl_Tm a, nl_Tm b]
theorem nl_Cl : ∀ c : Cl, nolist c.dat = true
  | .yes => rfl
  | .like a b => by simp [Cl.dat, nolist, nolists, dS, nl_Tm a, nl_Tm b]
  | .bel a b => by simp [Cl.dat, nolist, nolists, dS, nl_Tm a, nl_Tm b]
  | .not c => by simp [Cl.dat, nolist, nolists, dS, nl_Cl c]
  | .and a b => by simp [Cl.dat, nolist, nolists, dS, nl_Cl a, nl_Cl b]
  | .or a b => by simp [Cl.dat, nolist, nolists, dS, nl_Cl a, nl_Cl b]
end
theorem nl_map {α : Type} {g : α → PyData} (h : ∀ a, nolist (g a) = true) (l : List α) : nolist (.tuple (l.map g)) = true := by
  rw [nolist]
  exact nolists_all fun x hx => by obtain ⟨n, _, rfl⟩ := List.mem_map.mp hx; exact h n
theorem nl_Lay (l : Nat × Tm) : nolist (dLay l) = true := by simp [dLay, dN, nolist, nolists, nl_Tm]
theorem nl_Rule (r : Rule) : nolist (dRule r) = true := by simp [dRule, nolist, nolists, nl_Cl]; exact nolists_all fun x hx => by obtain ⟨n, _, rfl⟩ := List.mem_map.mp hx; exact nl_Lay n
theorem nl_Rules (l : List Rule) : nolist (dRules l) = true := nl_map nl_Rule l
theorem nl_Sys (S : Sys) : nolist S.dat = true := by
  unfold Sys.dat
  rw [nolist]
  refine nolists_all fun x hx => ?_
  simp only [List.mem_cons, List.not_mem_nil, or_false] at hx
  rcases hx with rfl | rfl | rfl | rfl
  · exact nl_Eyes _
  · exact nl_Is _
  · exact nl_Ns _
  · exact nl_map nl_Rules _
theorem ok_boxes {f : Addr} {fd : FuncData} (F : Fun K "boxes_behind" "boxes_behind" s_boxes_behind f fd) (B : Blt mg) (c_rule_at : Cal p w K mg base "rule_at" 14 ["system", "stand", "hand"] (spD K W0 preRu)) (c_value_at : Cal p w K mg base "value_at" 13 ["eyes", "stand", "hand", "term"] (spD K W0 preVal)) :
    FnOk p w K mg base CX0 15 f fd ["system", "stand", "hand"] (spD K W0 preBx) := by
  refine ok_D F sc_boxes_behind (fun H xs P h => ?_) fun cdv A outer s H E hr => ⟨_, (pss_cons (ps_asg (pv 0) (pg_tup rfl (pgs_cons (pg_name (i := 3) sc_boxes_behind.nd rfl (.inl rfl)) (pgs_cons (pg_name (i := 4) sc_boxes_behind.nd rfl (.inl rfl)) (pgs_cons (pg_name (i := 5) sc_boxes_behind.nd rfl (.inl rfl)) (pgs_cons (pg_name (i := 6) sc_boxes_behind.nd rfl (.inl rfl)) pgs_nil)))))) (pss_cons (ps_set (i := 7) sc_boxes_behind.nd rfl (.inl rfl) (pe_callTy call_list_of (by rfl) B.list (by decide +kernel) (pa_cons (pe_ix ix_tup (pv 1) (pv 2) (fun _ _ => rfl)) pa_nil))) (pss_cons (ps_for PassesOwn.never rfl (pi_tup (pe_ix ix_tup (pe_ix ix_tup (pe_ix ix_tup (pv 6) (pe_ix ix_tup (pv 5) (pv 2) (fun _ _ => rfl)) (fun _ _ => rfl)) (pe_cal c_rule_at (hr.mono (by omega)) (by rfl) (pa_cons (pv 0) (pa_cons (pv 1) (pa_cons (pv 2) pa_nil)))) (fun _ _ => rfl)) pe_int (fun _ _ => rfl))) (pg_tup rfl (pgs_cons (pg_name (i := 8) sc_boxes_behind.nd rfl (.inl rfl)) (pgs_cons (pg_name (i := 9) sc_boxes_behind.nd rfl (.inl rfl)) pgs_nil))) (pss_one (ps_asg (pe_op op_mod (pe_cal c_value_at (hr.mono (by omega)) (by rfl) (pa_cons (pv 3) (pa_cons (pv 1) (pa_cons (pv 2) (pa_cons (pv 9) pa_nil))))) (pe_ix ix_tup (pv 4) (pv 8) (fun _ _ => rfl))) (pg_sub (pv 7) (pv 8) set_list)))) (pss_one (ps_ret (pe_callTy call_tuple_of (by rfl) B.tuple (by decide +kernel) (pa_cons (pv 7) pa_nil))))))), fun H xs P _ h => ?_⟩
  · obtain ⟨S, st, h, _, _, _, rfl, _⟩ := h
    rfl
  obtain ⟨S, st, h, o, so, hm, rfl, hP⟩ := h
  obtain ⟨hs, ix, hix, hlt⟩ := Sys.ready_lt hm
  have hh : h < S.eyes.length := by rw [← so.len]; exact hs
  have hrl := o.rl hh
  have hb : (st.getD h []).length = S.sizes.length := so.box _ (getD_mem hs)
  have hrm : (S.ruleOf h).getD ix (.yes, []) ∈ S.ruleOf h := getD_mem hlt
  have hla : S.laysAt st h = ((S.ruleOf h).getD ix (.yes, [])).2 := by unfold Sys.laysAt; rw [hix]; rfl
  have few := o.lays _ hrl _ hrm
  have hnb := o.nb
  refine ⟨W0, fun _ _ r => r, trivial, z_four rfl ?_⟩
  refine z_le (d := [some (.d S.dat), some (.d (dStand st)), some (.d (dN h)), some (.d (dEyes S.eyes)), some (.d (dIs S.sizes)), some (.d (dNs S.kinds)), some (.d (.tuple (S.rules.map dRules))), none, none, none]) (.cons (.cons (.cons (.cons (.cons (.cons (.cons (.none (.none (.none .nil)))))))))) ?_
  have nlS : Fl (.d S.dat) := nl_Sys S
  have d0f : FmFl [some (.d S.dat), some (.d (dStand st)), some (.d (dN h)), some (.d (dEyes S.eyes)), some (.d (dIs S.sizes)), some (.d (dNs S.kinds)), some (.d (.tuple (S.rules.map dRules))), none, none, none] :=
    .some nlS (.some (nl_Stand _) (.some (nl_N _) (.some (nl_Eyes _) (.some (nl_Is _) (.some (nl_Ns _) (.some (nl_map nl_Rules _) (.none (.none (.none .nil)))))))))
  refine z_assoc (z_seq (M := fun d => d[7]? = some (some (dLs K (((S.boxes st h).map PyData.int).map .d)))) (z_build (f := 7) (A0 := fun acc => acc = ((st.getD h []).map PyData.int).map Dv.d) (A := fun xs => xs = ((S.laysAt st h).map dLay).map Dv.d)
    (fun xs i d acc => d = [some (.d S.dat), some (.d (dStand st)), some (.d (dN h)), some (.d (dEyes S.eyes)), some (.d (dIs S.sizes)), some (.d (dNs S.kinds)), some (.d (.tuple (S.rules.map dRules))), none, none, none] ∧ acc = ((((S.laysAt st h).take i).foldl (S.laid st h) (st.getD h [])).map PyData.int).map Dv.d)
    (ynew_list (y_opE (y_varE rfl) (y_varE rfl) (rp_ixS hs ⟨_, rfl, fun e he => ?_, ?_, rfl⟩))) d0f (show 7 < 10 by decide) (fun q => if_tup (y_opE (y_opE (y_rules o hh rfl rfl rfl) (y_call (A := fun xs => xs = [.d S.dat, .d (dStand st), .d (dN h)]) (P := (· = .d (dN ix))) (ap_consE (y_varE rfl) (ap_consE (y_varE rfl) (ap_consE (y_varE rfl) (ap_nil rfl))))
      (by rintro _ rfl; exact sps_0 fun H => ⟨S, st, h, o, so, hh, rfl, by rw [hix]; rfl⟩)) (rp_ixT (atI_map (at_lt (b := (.yes, [])) hlt)) rfl)) y_intE (rp_ixW (j := 1) rfl ⟨_, rfl, fun e he => ?_, ?_⟩))) ?_ ?_ ?_ ?_) fun d hd => z_ret (y_cb (A := fun xs => xs = [.l ((S.boxes st h).map PyData.int)]) (ap_cons (y_varL hd rfl) (by rintro _ rfl; exact ap_nil rfl)) (by rintro _ rfl; exact cp_tup rfl hP)))
  · obtain ⟨n, _, rfl⟩ := List.mem_map.mp he
    rfl
  · rw [List.length_map, hb]
    omega
  · obtain ⟨n, _, rfl⟩ := List.mem_map.mp he
    exact nl_Lay n
  · rw [hla]
  · rintro xs acc rfl rfl
    exact ⟨rfl, rfl⟩
  · rintro q xs rfl i x d acc hx hd ⟨rfl, rfl⟩
    obtain ⟨l, hl, rfl⟩ : ∃ l, (S.laysAt st h)[i]? = some l ∧ x = .d (dLay l) := by
      rw [List.getElem?_map, List.getElem?_map] at hx
      cases q : (S.laysAt st h)[i]? with
      | none => rw [q] at hx; simp at hx
      | some l => rw [q] at hx; exact ⟨l, rfl, (by simpa using hx.symm)⟩
    obtain ⟨t1, t2, t3⟩ := o.tm _ hrl _ hrm l (by rw [← hla]; exact List.mem_of_getElem? hl)
    have z0 : 0 < S.sizes.getD l.1 1 := o.size _ (getD_mem t1)
    have al : ((((S.laysAt st h).take i).foldl (S.laid st h) (st.getD h [])).map PyData.int).length = S.sizes.length := by rw [List.length_map, laid_len, hb]
    refine gp_tup rfl (gps_cons (gp_name (gps_cons (gp_name (gps_nil (zm_set (A := fun y => y = .d (.int (l.2.val (sight S.eyes st h) (0, []) % S.sizes.getD l.1 1))) rfl (y_opE (y_call (A := fun xs => xs = [.d (dEyes S.eyes), .d (dStand st), .d (dN h), .d l.2.dat]) (P := (· = .d (.int (l.2.val (sight S.eyes st h) (0, [])))))
      (ap_consE (y_varE rfl) (ap_consE (y_varE rfl) (ap_consE (y_varE rfl) (ap_consE (y_varE rfl) (ap_nil rfl))))) (by rintro _ rfl; exact sps_0 fun H => ⟨_, _, _, _, l.2, o.vw so hh, t2, t3, rfl, rfl⟩)) (y_opE (y_varE rfl) (y_varE rfl) (rp_ixI (b := 1) t1 rfl)) (rp_intC z0 rfl)) (y_var rfl ⟨l.1, rfl, by rw [List.length_map, al]; exact t1, ?_⟩)))))))
    rintro y rfl
    refine ⟨by rw [List.length_set]; omega, fun y hy => ?_, rfl, _, .cons (.cons (.cons (.cons (.cons (.cons (.cons (.none (.none (.none .nil))))))))), rfl, d0f, rfl, ?_⟩
    · rcases List.mem_or_eq_of_mem_set hy with z | z
      · exact .inl z
      · rw [z]
        exact .inr rfl
    · rw [map_set_d, List.take_add_one, hl, List.foldl_append]
      show _ = List.map Dv.d (List.map PyData.int (S.laid st h _ l))
      unfold Sys.laid
      simp only [List.map_set]
  · rintro xs rfl
    rw [List.length_map, List.length_map, hla]
    omega
  · rintro xs d acc rfl hd ⟨rfl, rfl⟩
    rw [List.length_map, List.length_map, List.take_length]
    rfl

/-! ### ask_acting, acted -/
structure ActOk (S : Sys) (st : Stand) (hs : List Nat) : Prop where
  ne : hs ≠ []
  up : hs.Pairwise (· < ·)
  re : ∀ h ∈ hs, h ∈ S.ready st
theorem Sys.ready_len (S : Sys) (st : Stand) : (S.ready st).length ≤ st.length := by
  have q := List.length_filter_le (fun h => (S.ruleAt st h).isSome) (List.range st.length)
  rw [List.length_range] at q
  exact q
theorem up_len {n : Nat} : ∀ {hs : List Nat} {a : Nat}, hs.Pairwise (· < ·) → (∀ h ∈ hs, a ≤ h ∧ h < n) → a + hs.length ≤ max a n
  | [], a, _, _ => by simp; omega
  | h :: hs, a, u, b => by
    obtain ⟨u1, u2⟩ := List.pairwise_cons.mp u
    have hb := b h List.mem_cons_self
    have q := up_len (n := n) (a := h + 1) u2 fun x hx => ⟨u1 x hx, (b x (List.mem_cons_of_mem _ hx)).2⟩
    rw [List.length_cons]
    omega
theorem ActOk.few {S : Sys} {st : Stand} {hs : List Nat} (a : ActOk S st hs) (o : S.Ok) (so : StOk S st) : hs.length ≤ 4 := by
  have q := up_len (n := st.length) (a := 0) a.up fun h hh => ⟨Nat.zero_le _, (Sys.ready_lt (a.re h hh)).1⟩
  have := o.many
  have := so.len
  omega
def preAsk : Pre := fun _ xs P => ∃ S st hs, Sys.Ok S ∧ StOk S st ∧ ActOk S st hs ∧ xs = [.d S.dat, .d (dStand st), .d (dNs hs)] ∧ P (.d .none)
theorem map_dN (l : List Nat) : l.map dN = (l.map fun n : Nat => (n : Int)).map PyData.int := by rw [List.map_map]; rfl
theorem ok_ask {f : Addr} {fd : FuncData} (F : Fun K "ask_acting" "ask_acting" s_ask_acting f fd) (B : Blt mg) (c_ready_hands : Cal p w K mg base "ready_hands" 15 ["system", "stand"] (spD K W0 preRe)) (c_is_whole : Cal p w K mg base "is_whole" 1 ["thing"] (spD K W0 preWh)) :
    FnOk p w K mg base CX0 16 f fd ["system", "stand", "hands"] (spD K W0 preAsk) := by
  refine ok_D F sc_ask_acting (fun H xs P h => ?_) fun cdv A outer s H E hr => ⟨_, (pss_cons (ps_if (PW.pt (pw_or (pt_not (pt_val (pe_callB call_isi (by rfl) B.isinstance (by decide +kernel) (pa_cons (pv 2) (pa_cons (pe_bltn (v := .ty "tuple") (by rfl) B.tuple (by decide +kernel) rfl) pa_nil))))) (pw_or1 (pt_cmpR  op_eq (pe_callB call_len_seq (by rfl) B.len PySem.boot_len (pa_cons (pv 2) pa_nil)) pe_int (nomark _))))) (pss_one ps_never) pss_nil) (pss_cons (ps_set (i := 3) sc_ask_acting.nd rfl (.inl rfl) (pe_cal c_ready_hands (hr.mono (by omega)) (by rfl) (pa_cons (pv 0) (pa_cons (pv 1) pa_nil)))) (pss_cons (ps_set (i := 4) sc_ask_acting.nd rfl (.inl rfl) (pe_un un_neg pe_int)) (pss_one (ps_for PassesOwn.never rfl (pi_enT rfl B.enumerate (pa_cons (pv 2) pa_nil)) (pg_tup rfl (pgs_cons (pg_name (i := 5) sc_ask_acting.nd rfl (.inl rfl)) (pgs_cons (pg_name (i := 6) sc_ask_acting.nd rfl (.inl rfl)) pgs_nil))) (pss_cons (ps_if (PW.pt (pw_or (pt_not (pt_val (pe_cal c_is_whole (hr.mono (by omega)) (by rfl) (pa_cons (pv 6) pa_nil)))) (pw_or (pt_cmpR  op_notIn_seq (pv 6) (pv 3) rfl) (pw_or1 (pt_cmpR  op_le (pv 6) (pv 4) (nomark _)))))) (pss_one ps_never) pss_nil) (pss_one (ps_set (i := 4) sc_ask_acting.nd rfl (.inl rfl) (pv 6))))))))), fun H xs P _ h => ?_⟩
  · obtain ⟨S, st, hs, _, _, _, rfl, _⟩ := h
    rfl
  obtain ⟨S, st, hs, o, so, a, rfl, hP⟩ := h
  have few := a.few o so
  refine ⟨W0, fun _ _ r => r, trivial, z_seq (M := fun d => d = _) (z_ifF (A := fun b => b = false) (t_or (A := fun b => b = false) (t_not (t_B (y_cb (A := fun xs => xs = [.d (dNs hs), .v (.ty "tuple")]) (ap_consE (y_varE rfl) (ap_consE (y_c rfl) (ap_nil rfl))) (by rintro _ rfl; exact cp_isTup (b := true) (by decide +kernel) ⟨_, rfl, rfl⟩))))
    (fun _ => t_test (y_opE (y_cb (A := fun xs => xs = [.d (dNs hs)]) (ap_consE (y_varE rfl) (ap_nil rfl)) (by rintro _ rfl; exact cp_len rfl rfl)) y_intE (rp_eqI ⟨_, rfl, ?_⟩))) fun h => nomatch h) (fun _ h => h) rfl) ?_⟩
  · refine decide_eq_false fun e => a.ne ?_
    have e' : ((hs.map dN).length : Int) = 0 := e
    rw [List.length_map] at e'
    exact List.eq_nil_of_length_eq_zero (by omega)
  rintro _ rfl
  refine z_seq (M := fun d => d = [some (.d S.dat), some (.d (dStand st)), some (.d (dNs hs)), some (.l ((S.ready st).map dN)), none, none, none]) (z_set (y_call (A := fun xs => xs = [.d S.dat, .d (dStand st)]) (ap_consE (y_varE rfl) (ap_consE (y_varE rfl) (ap_nil rfl))) (by rintro _ rfl; exact sps_0 fun H => ⟨S, st, o, so, rfl, rfl⟩))) ?_
  rintro _ rfl
  refine z_seq (M := fun d => d = [some (.d S.dat), some (.d (dStand st)), some (.d (dNs hs)), some (.l ((S.ready st).map dN)), some (.d (.int (-1))), none, none]) (z_set (y_un y_intE (by rintro _ rfl; exact up_int rfl))) ?_
  rintro _ rfl
  refine z_for (A := fun xs => xs = enu (hs.map dN)) (fun xs i d => ∃ l : Int, Fle [none, none, none, some (.l ((S.ready st).map dN)), some (.d (.int l)), none, none] d ∧ ∀ (j x : Nat), hs[j]? = some x → i ≤ j → l < (x : Int)) (ip_enT (ap_consE (y_varE rfl) (ap_nil ⟨_, rfl, rfl⟩))) ?_ ?_ ?_
  · rintro xs rfl
    exact ⟨-1, .none (.none (.none (.cons (.cons (.none (.none .nil)))))), fun j x _ _ => by omega⟩
  · rintro xs rfl i x d hx ⟨l, hd, hl⟩
    obtain ⟨e, he, rfl⟩ := enu_of hx
    obtain ⟨h, hh, rfl⟩ : ∃ h, hs[i]? = some h ∧ e = dN h := by
      rw [List.getElem?_map] at he
      cases q : hs[i]? with
      | none => rw [q] at he; cases he
      | some r => rw [q] at he; exact ⟨r, rfl, (Option.some.inj he).symm⟩
    have hm := a.re h (List.mem_of_getElem? hh)
    refine gp_le hd (gp_tup rfl (gps_cons (gp_name (gps_cons (gp_name (gps_nil ?_))))))
    refine z_seq (M := fun d => d = _) (z_ifF (A := fun b => b = false) (t_or (A := fun b => b = false) (t_not (t_B (y_call (A := fun xs => xs = [.d (dN h)]) (ap_consE (y_varE rfl) (ap_nil rfl)) (by rintro _ rfl; exact sps_0 fun H => ⟨_, rfl, _, rfl, rfl⟩))))
      (fun _ => t_or (A := fun b => b = false) (t_test (y_opE (y_varE rfl) (y_varE rfl) (rp_inI (neg := true) (ns := (S.ready st).map fun n : Nat => (n : Int)) (by rw [← map_dN]; rfl) ⟨_, rfl, ?_⟩))) (fun _ => t_test (y_opE (y_varE rfl) (y_varE rfl) (rp_cmp ⟨_, rfl, ?_⟩))) fun h => nomatch h) fun h => nomatch h) (fun _ h => h) rfl) ?_
    rotate_left 2
    · rintro _ rfl
      refine z_set (y_var rfl ⟨(h : Int), .none (.none (.none (.cons (.cons (.none (.none .nil)))))), fun j x hj hij => ?_⟩)
      have q := List.pairwise_iff_getElem.mp a.up
      obtain ⟨l1, e1⟩ := List.getElem?_eq_some_iff.mp hh
      obtain ⟨l2, e2⟩ := List.getElem?_eq_some_iff.mp hj
      have := q i j l1 l2 (by omega)
      omega
    · have hm' : (h : Int) ∈ (S.ready st).map fun n : Nat => (n : Int) := List.mem_map.mpr ⟨h, hm, rfl⟩
      rw [if_pos rfl, decide_eq_true hm']
      rfl
    · have := hl i h hh (Nat.le_refl _)
      exact decide_eq_false (by omega)
  · rintro xs d rfl ⟨l, hd, hl⟩
    exact hP
def preAct : Pre := fun _ xs P => ∃ S st hs, Sys.Ok S ∧ StOk S st ∧ ActOk S st hs ∧ xs = [.d S.dat, .d (dStand st), .d (dNs hs)] ∧ P (.d (dStand (S.act st hs)))
theorem act_len (S : Sys) (st : Stand) : ∀ (hs : List Nat) (f : Stand), (hs.foldl (fun f h => f.set h (S.boxes st h)) f).length = f.length
  | [], _ => rfl
  | h :: hs, f => by rw [List.foldl_cons, act_len S st hs, List.length_set]
theorem ok_act {f : Addr} {fd : FuncData} (F : Fun K "acted" "acted" s_acted f fd) (B : Blt mg) (c_ask_acting : Cal p w K mg base "ask_acting" 16 ["system", "stand", "hands"] (spD K W0 preAsk)) (c_boxes_behind : Cal p w K mg base "boxes_behind" 15 ["system", "stand", "hand"] (spD K W0 preBx)) :
    FnOk p w K mg base CX0 17 f fd ["system", "stand", "hands"] (spD K W0 preAct) := by
  refine ok_D F sc_acted (fun H xs P h => ?_) fun cdv A outer s H E hr => ⟨_, (pss_cons (ps_expr (pe_cal c_ask_acting (hr.mono (by omega)) (by rfl) (pa_cons (pv 0) (pa_cons (pv 1) (pa_cons (pv 2) pa_nil))))) (pss_cons (ps_set (i := 3) sc_acted.nd rfl (.inl rfl) (pe_callTy call_list_of (by rfl) B.list (by decide +kernel) (pa_cons (pv 1) pa_nil))) (pss_cons (ps_for PassesOwn.never rfl (pi_tup (pv 2)) (pg_name (i := 4) sc_acted.nd rfl (.inl rfl)) (pss_one (ps_asg (pe_cal c_boxes_behind (hr.mono (by omega)) (by rfl) (pa_cons (pv 0) (pa_cons (pv 1) (pa_cons (pv 4) pa_nil)))) (pg_sub (pv 3) (pv 4) set_list)))) (pss_one (ps_ret (pe_callTy call_tuple_of (by rfl) B.tuple (by decide +kernel) (pa_cons (pv 3) pa_nil))))))), fun H xs P _ h => ?_⟩
  · obtain ⟨S, st, hs, _, _, _, rfl, _⟩ := h
    rfl
  obtain ⟨S, st, hs, o, so, a, rfl, hP⟩ := h
  have few := a.few o so
  have len := so.len
  have many := o.many
  have d0f : FmFl [some (.d S.dat), some (.d (dStand st)), some (.d (dNs hs)), none, none] := .some (nl_Sys S) (.some (nl_Stand _) (.some (nl_Ns _) (.none (.none .nil))))
  refine ⟨W0, fun _ _ r => r, trivial, z_seq (M := fun d => d = _) (z_drop (A := fun _ => True) (y_call (A := fun xs => xs = [.d S.dat, .d (dStand st), .d (dNs hs)]) (ap_consE (y_varE rfl) (ap_consE (y_varE rfl) (ap_consE (y_varE rfl) (ap_nil rfl)))) (by rintro _ rfl; exact sps_0 fun H => ⟨S, st, hs, o, so, a, rfl, trivial⟩)) rfl) ?_⟩
  rintro _ rfl
  refine z_assoc (z_seq (M := fun d => d[3]? = some (some (dLs K (((S.act st hs).map dIs).map .d)))) (z_build (f := 3) (A0 := fun acc => acc = (st.map dIs).map Dv.d) (A := fun xs => xs = (hs.map dN).map Dv.d)
    (fun xs i d acc => d = [some (.d S.dat), some (.d (dStand st)), some (.d (dNs hs)), none, none] ∧ acc = (((hs.take i).foldl (fun f h => f.set h (S.boxes st h)) st).map dIs).map Dv.d)
    (ynew_list (y_var rfl ⟨_, rfl, fun e he => ?_, ?_, rfl⟩)) d0f (show 3 < 5 by decide) (fun q => if_tup (y_var rfl ⟨_, rfl, fun e he => ?_, rfl⟩)) ?_ ?_ ?_ ?_) fun d hd => z_ret (y_cb (A := fun xs => xs = [.l ((S.act st hs).map dIs)]) (ap_cons (y_varL hd rfl) (by rintro _ rfl; exact ap_nil rfl)) (by rintro _ rfl; exact cp_tup rfl hP)))
  · obtain ⟨n, _, rfl⟩ := List.mem_map.mp he
    exact nl_Is n
  · rw [List.length_map]
    omega
  · obtain ⟨n, _, rfl⟩ := List.mem_map.mp he
    exact nl_N n
  · rintro xs acc rfl rfl
    exact ⟨rfl, rfl⟩
  · rintro q xs rfl i x d acc hx hd ⟨rfl, rfl⟩
    obtain ⟨h, hh, rfl⟩ : ∃ h, hs[i]? = some h ∧ x = .d (dN h) := by
      rw [List.getElem?_map, List.getElem?_map] at hx
      cases q : hs[i]? with
      | none => rw [q] at hx; simp at hx
      | some l => rw [q] at hx; exact ⟨l, rfl, (by simpa using hx.symm)⟩
    have hm := a.re h (List.mem_of_getElem? hh)
    have hl := (Sys.ready_lt hm).1
    refine gp_name (zm_set (A := fun y => y = .d (dIs (S.boxes st h))) rfl (y_call (A := fun xs => xs = [.d S.dat, .d (dStand st), .d (dN h)]) (ap_consE (y_varE rfl) (ap_consE (y_varE rfl) (ap_consE (y_varE rfl) (ap_nil rfl)))) (by rintro _ rfl; exact sps_0 fun H => ⟨S, st, h, o, so, hm, rfl, rfl⟩))
      (y_var rfl ⟨h, rfl, by rw [List.length_map, List.length_map, act_len]; exact hl, ?_⟩))
    rintro y rfl
    refine ⟨by rw [List.length_set]; omega, fun y hy => ?_, rfl, _, .cons (.cons (.cons (.none (.none .nil)))), rfl, d0f, rfl, ?_⟩
    · rcases List.mem_or_eq_of_mem_set hy with z | z
      · exact .inl z
      · rw [z]
        exact .inr (nl_Is _)
    · rw [map_set_d, List.take_add_one, hh, List.foldl_append]
      simp only [Option.toList_some, List.foldl_cons, List.foldl_nil, List.map_set]
  · rintro xs rfl
    rw [List.length_map, List.length_map]
    omega
  · rintro xs d acc rfl hd ⟨rfl, rfl⟩
    rw [List.length_map, List.length_map, List.take_length]
    rfl
end
end Sr

/-! Choosers and walks. -/
namespace Sr
open PySem L2
theorem room65 {k : Nat} {A : Around} (r : Room k A) : A.units + 65 < cLine := by have := r.un; omega
theorem cut_tail (xs : List PyData) : cutD xs (some 1) none = xs.drop 1 := by
  have h1 : HT.sIx xs.length 0 (some (1 : Int)) = min 1 xs.length := HT.sIx_nat xs.length 0 1
  unfold cutD
  rw [h1]
  show (xs.drop (min 1 xs.length)).take (xs.length - min 1 xs.length) = xs.drop 1
  rw [List.take_of_length_le (by rw [List.length_drop]; exact Nat.le_refl _)]
  cases xs with
  | nil => rfl
  | cons a b => rw [show min 1 (a :: b).length = 1 by rw [List.length_cons]; omega]
section
variable {p : Program} {w : World} {K : PySem.W.Frag} {mg : Str → Option Value} {base : Heap} {C : Addr}
def preCh : Pre := fun _ xs P => ∃ (ch : Ch) (r : List Nat), r.length ≤ 4 ∧ xs = [.d (.str ch.s), .l (r.map dN)] ∧ P (.l ((choices ch r).map dNs))
theorem subs_small {r : List Nat} (h : r.length ≤ 4) : (subs r).length ≤ 16 := by
  rw [subs_len]
  exact Nat.pow_le_pow_right (by decide) h
theorem ok_choices {f : Addr} {fd : FuncData} (F : Fun K "choices" "choices" s_choices f fd) (B : Blt mg) : FnOk p w K mg base CX0 2 f fd ["chooser", "ready"] (spD K W0 preCh) := by
  refine ok_D F sc_choices (fun H xs P h => ?_) fun cdv A outer s H E hr => ⟨_, (pss_cons (ps_if (pt_cmpR  op_eq (pv 0) pe_str (nomark _)) (pss_one (ps_ret (pe_ifExp (pt_cmpR  (op_neD hr.units) (pv 1) (pe_lst pa_nil) (nomark _)) (pe_lst (pa_cons (pe_callTy call_tuple_of (by rfl) B.tuple (by decide +kernel) (pa_cons (pv 1) pa_nil)) pa_nil)) (pe_lst pa_nil)))) pss_nil) (pss_cons (ps_if (pt_cmpR  op_ne (pv 0) pe_str (nomark _)) (pss_one (ps_ret (pe_lc (own := [("hand", 2)]) (g := gName 2) (tt := tYes) rfl sc_choices.nd (pi_list (pv 1)) (blkOk_by (N := ["chooser", "ready", "hand", "found", "some"]) (sc := defScope s_choices) (by decide +kernel)) (fun _ _ _ _ _ => pg_name (i := 2) sc_choices.nd rfl (.inl rfl)) (fun _ _ _ _ _ => pts_nil) (fun _ _ _ _ _ => (pe_tup (pa_cons (pv 2) pa_nil)))))) pss_nil) (pss_cons (ps_set (i := 3) sc_choices.nd rfl (.inl rfl) (pe_lst (pa_cons (pe_tup pa_nil) pa_nil))) (pss_cons (ps_for PassesOwn.never rfl (pi_list (pv 1)) (pg_name (i := 2) sc_choices.nd rfl (.inr rfl)) (pss_one (ps_set (i := 3) sc_choices.nd rfl (.inl rfl) (pe_op op_cat (pv 3) (pe_lc (own := [("some", 4)]) (g := gName 4) (tt := tYes) rfl sc_choices.nd (pi_list (pv 3)) (blkOk_by (N := ["chooser", "ready", "hand", "found", "some"]) (sc := defScope s_choices) (by decide +kernel)) (fun _ _ _ _ _ => pg_name (i := 4) sc_choices.nd rfl (.inl rfl)) (fun _ _ _ _ _ => pts_nil) (fun _ _ _ _ _ => (pe_op (r := rCatA K) op_catA (pv 4) (pe_tup (pa_cons (pv 2) pa_nil))))))))) (pss_one (ps_ret (pe_callB (cr_sortD hr.units) (by rfl) B.sorted (by decide +kernel) (pa_cons (pe_slice sl_list (pv 3) (po_some pe_int) po_none) pa_nil)))))))), fun H xs P _ h => ?_⟩
  · obtain ⟨ch, r, _, rfl, _⟩ := h
    rfl
  obtain ⟨ch, r, hl, rfl, hP⟩ := h
  refine ⟨W0, fun _ _ r => r, trivial, ?_⟩
  have single : ∀ ds : Fm, ds[1]? = some (some (.l (r.map dN))) → (∀ x, ((ds.set 2 none).set 2 (some x))[2]? = some (some x)) → P (.l ((r.map ([·])).map dNs)) → Zp K W0 (tRet (tLc (iList K (tVar 1)) (gName 2) tYes (tTup (tCons (tVar 2) tNil)) [2])) ds (fun _ => False) P := fun ds h1 h2 hP =>
    z_ret (y_lc (A := fun xs => xs = (r.map dN).map Dv.d) (fun xs j acc => acc = (((r.take j).map ([·])).map dNs).map Dv.d) (ip_list (y_var h1 ⟨_, .inr rfl, rfl⟩)) (by rintro xs rfl; rfl) (by
      rintro xs rfl j x acc hx _ rfl
      obtain ⟨e, he, rfl⟩ : ∃ e, r[j]? = some e ∧ x = .d (dN e) := by
        rw [List.getElem?_map, List.getElem?_map] at hx
        cases q : r[j]? with
        | none => rw [q] at hx; simp at hx
        | some l => rw [q] at hx; exact ⟨l, rfl, (by simpa using hx.symm)⟩
      refine t_yes ?_
      rw [if_pos rfl]
      refine y_tup (n := 1) (ap_consE (y_varE (h2 _)) (ap_nil ⟨[dN e], rfl, rfl, rfl, ?_⟩))
      rw [List.take_add_one, he, List.map_append, List.map_append, List.map_append]
      rfl) (by rintro xs rfl; rw [List.length_map, List.length_map]; omega) (by
      rintro xs acc rfl rfl
      rw [List.length_map, List.length_map, List.take_length]
      exact ⟨_, hP, fun H a us hu hd => ⟨a, us, rfl, hu, dpAll_of hd⟩⟩))
  cases ch with
  | all =>
    refine z_seq (M := fun _ => False) (z_if (A := fun b => b = true) (t_test (y_opE (y_varE rfl) y_strE (rp_eqS ⟨_, rfl, by decide +kernel⟩))) (fun _ => z_ret (y_if (A := fun b => b = decide (r ≠ [])) (t_test (y_opE (y_varE rfl) (y_lst (P := (· = .l [])) (n := 0) (ap_nil ⟨[], rfl, rfl, rfl⟩)) (rp_neD rfl rfl ((sh_lst (sh_map sh_N r)).ok (by decide)) ((sh_lst (k := 0) (xs := []) (fun x hx => by simp at hx)).ok (by decide)) ⟨_, rfl, ?_⟩)))
      (fun h => ?_) fun h => ?_)) fun h => nomatch h) fun _ z => z.elim
    · cases r <;> simp [PyData.eqv, PyData.eqvAll]
    · have hne : r ≠ [] := of_decide_eq_true h.symm
      have e : choices .all r = [r] := if_neg hne
      rw [e] at hP
      exact y_lst (n := 1) (ap_cons (A := (· = .d (dNs r))) (y_cb (A := fun xs => xs = [.l (r.map dN)]) (ap_consE (y_varE rfl) (ap_nil rfl)) (by rintro _ rfl; exact cp_tup rfl rfl)) (by rintro _ rfl; exact ap_nil ⟨[dNs r], rfl, rfl, hP⟩))
    · have hne : r = [] := Decidable.not_not.mp (of_decide_eq_false h.symm)
      have e : choices .all r = [] := if_pos hne
      rw [e] at hP
      exact y_lst (n := 0) (ap_nil ⟨[], rfl, rfl, hP⟩)
  | one => exact z_miss rfl (by decide +kernel) (z_seq (M := fun _ => False) (z_if (A := fun b => b = true) (t_test (y_opE (y_varE rfl) y_strE (rp_neS ⟨_, rfl, by decide +kernel⟩))) (fun _ => single _ rfl (fun _ => rfl) hP) fun h => nomatch h) fun _ z => z.elim)
  | fair => exact z_miss rfl (by decide +kernel) (z_seq (M := fun _ => False) (z_if (A := fun b => b = true) (t_test (y_opE (y_varE rfl) y_strE (rp_neS ⟨_, rfl, by decide +kernel⟩))) (fun _ => single _ rfl (fun _ => rfl) hP) fun h => nomatch h) fun _ z => z.elim)
  | some =>
    refine z_miss rfl (by decide +kernel) (z_seq (M := fun d => d = _) (z_if (A := fun b => b = false) (t_test (y_opE (y_varE rfl) y_strE (rp_neS ⟨_, rfl, by decide +kernel⟩))) (fun h => nomatch h) fun _ => z_next rfl) ?_)
    rintro _ rfl
    refine z_seq (M := fun d => d = [some (.d (.str Ch.some.s)), some (.l (r.map dN)), none, some (.l ((subs []).map dNs)), none]) (z_set (y_lst (n := 1) (ap_cons (A := (· = .d (dNs []))) (y_tup (n := 0) (ap_nil ⟨[], rfl, rfl, rfl⟩)) (by rintro _ rfl; exact ap_nil ⟨[dNs []], rfl, rfl, rfl⟩)))) ?_
    rintro _ rfl
    refine z_seq (M := fun d => Fle [none, none, none, some (.l ((subs r).map dNs)), none] d) (z_for (A := fun xs => xs = (r.map dN).map Dv.d) (fun xs i d => Fle [none, none, none, some (.l ((subs (r.take i)).map dNs)), none] d) (ip_list (y_var rfl ⟨_, .inr rfl, rfl⟩)) ?_ ?_ ?_) ?_
    · rintro xs rfl
      exact .none (.none (.none (.cons (.none .nil))))
    · rintro xs rfl i x d hx hd
      obtain ⟨e, he, rfl⟩ : ∃ e, r[i]? = some e ∧ x = .d (dN e) := by
        rw [List.getElem?_map, List.getElem?_map] at hx
        cases q : r[i]? with
        | none => rw [q] at hx; simp at hx
        | some l => rw [q] at hx; exact ⟨l, rfl, (by simpa using hx.symm)⟩
      have et : subs (r.take (i + 1)) = subs (r.take i) ++ (subs (r.take i)).map (· ++ [e]) := by rw [List.take_add_one, he]; exact subs_snoc _ _
      have l16 : (subs (r.take i)).length ≤ 16 := subs_small (by rw [List.length_take]; omega)
      refine gp_le hd (gp_name (z_set (y_opE (x := .l ((subs (r.take i)).map dNs)) (y := .l (((subs (r.take i)).map (· ++ [e])).map dNs)) (y_varE rfl) ?_ (rp_cat (by rw [List.length_map, List.length_map, List.length_map]; omega) ?_))))
      · refine y_lc (A := fun xs => xs = ((subs (r.take i)).map dNs).map Dv.d) (fun xs j acc => acc = ((((subs (r.take i)).take j).map (· ++ [e])).map dNs).map Dv.d) (ip_list (y_var rfl ⟨_, .inr rfl, rfl⟩)) (by rintro xs rfl; rfl) ?_ (by rintro xs rfl; rw [List.length_map, List.length_map]; omega) ?_
        · rintro xs rfl j x acc hx _ rfl
          obtain ⟨l, hl', rfl⟩ : ∃ l, (subs (r.take i))[j]? = some l ∧ x = .d (dNs l) := by
            rw [List.getElem?_map, List.getElem?_map] at hx
            cases q : (subs (r.take i))[j]? with
            | none => rw [q] at hx; simp at hx
            | some l => rw [q] at hx; exact ⟨l, rfl, (by simpa using hx.symm)⟩
          have ll : l.length ≤ 4 := by
            have := (subs_sub _ l (List.mem_of_getElem? hl')).length_le
            rw [List.length_take] at this
            omega
          refine t_yes ?_
          rw [if_pos rfl]
          refine y_opE (y_varE rfl) (y_tup (P := (· = .d (dNs [e]))) (n := 1) (ap_consE (y_varE rfl) (ap_nil ⟨[dN e], rfl, rfl, rfl⟩))) (rp_catA (by rw [List.length_map, List.length_map, List.length_singleton]; omega) ⟨?_, ?_⟩)
          · rw [← List.map_append]
            exact nl_Ns _
          · rw [List.take_add_one, hl', List.map_append, List.map_append, List.map_append, ← List.map_append]
            rfl
        · rintro xs acc rfl rfl
          rw [List.length_map, List.length_map, List.take_length]
          exact ⟨_, rfl, fun H a us hu hd => ⟨a, us, rfl, hu, dpAll_of hd⟩⟩
      · rw [et, List.map_append]
        exact .none (.none (.none (.cons (.none .nil))))
    · rintro xs d rfl hd
      rw [List.length_map, List.length_map, List.take_length] at hd
      exact hd
    · intro d hd
      refine z_le hd (z_ret (y_cb (A := fun xs => xs = [.l ((subs r).tail.map dNs)]) (ap_cons (y_slL (A := (· = .l ((subs r).map dNs))) (B := (· = some 1)) (C := (· = none)) (y_varE rfl) (o_some (y_int ⟨1, rfl, rfl⟩)) (o_none rfl) (P := (· = .l ((subs r).tail.map dNs))) (by rintro _ _ _ rfl rfl rfl; exact ⟨_, rfl, by rw [cut_tail, List.drop_one, List.map_tail]⟩)) (by rintro _ rfl; exact ap_nil rfl)) (by
        rintro _ rfl
        refine cp_sortD (.inl rfl) (PySem.W.AllAlike.of alike_Ns) (.inl fun x hx => ?_) (fun x hx => ?_) ?_
        · obtain ⟨l, hl, rfl⟩ := List.mem_map.mp hx
          have ne := subs_tail_ne hl
          cases l with
          | nil => exact (ne rfl).elim
          | cons a b => exact ⟨_, _, rfl⟩
        · obtain ⟨l, hl, rfl⟩ := List.mem_map.mp hx
          exact Nat.le_trans (sh_Ns l).2 (by decide)
        · have q := List.map_mergeSort (r := leHs) (s := PySem.W.dataLe false id) (f := dNs) (l := (subs r).tail) (fun _ _ _ _ => rfl)
          rw [← q]
          exact hP)))
/-! ### steps_at -/
theorem choices_ok {S : Sys} {st : Stand} {ch : Ch} {hs : List Nat} (h : hs ∈ choices ch (S.ready st)) : ActOk S st hs := by
  have one : hs ∈ (S.ready st).map ([·]) → ActOk S st hs := fun h => by
    obtain ⟨a, ha, rfl⟩ := List.mem_map.mp h
    exact ⟨by simp, List.pairwise_singleton _ _, fun x hx => by rw [List.mem_singleton.mp hx]; exact ha⟩
  cases ch with
  | one => exact one h
  | fair => exact one h
  | all =>
    have h : hs ∈ (if S.ready st = [] then [] else [S.ready st]) := h
    by_cases e : S.ready st = []
    · rw [if_pos e] at h; simp at h
    · rw [if_neg e] at h
      rw [List.mem_singleton.mp h]
      exact ⟨e, ready_up S st, fun x hx => hx⟩
  | some =>
    have h : hs ∈ (subs (S.ready st)).tail.mergeSort leHs := h
    rw [List.mem_mergeSort] at h
    have s := subs_tail_sub h
    exact ⟨subs_tail_ne h, (ready_up S st).sublist s, fun x hx => s.subset hx⟩
theorem choices_few {S : Sys} {st : Stand} (o : S.Ok) (so : StOk S st) (ch : Ch) : (choices ch (S.ready st)).length ≤ 16 := by
  have l4 : (S.ready st).length ≤ 4 := by
    have := S.ready_len st
    have := so.len
    have := o.many
    omega
  have one : ((S.ready st).map ([·])).length ≤ 16 := by rw [List.length_map]; omega
  cases ch with
  | one => exact one
  | fair => exact one
  | all =>
    show (if S.ready st = [] then [] else [S.ready st]).length ≤ 16
    split <;> simp
  | some =>
    show ((subs (S.ready st)).tail.mergeSort leHs).length ≤ 16
    rw [List.length_mergeSort, List.length_tail]
    have := subs_small l4
    omega
def preSt : Pre := fun _ xs P => ∃ (S : Sys) (st : Stand) (ch : Ch), S.Ok ∧ StOk S st ∧ xs = [.d S.dat, .d (.str ch.s), .d (dStand st)] ∧ P (.l ((S.steps ch st).map dStep))
theorem ok_steps {f : Addr} {fd : FuncData} (F : Fun K "steps_at" "steps_at" s_steps_at f fd) (B : Blt mg) (mM : ∃ t, mg "MOST_READY" = some (.int 10 t)) (c_ready_hands : Cal p w K mg base "ready_hands" 15 ["system", "stand"] (spD K W0 preRe))
    (c_acted : Cal p w K mg base "acted" 17 ["system", "stand", "hands"] (spD K W0 preAct)) (c_choices : Cal p w K mg base "choices" 2 ["chooser", "ready"] (spD K W0 preCh)) : FnOk p w K mg base CX0 18 f fd ["system", "chooser", "stand"] (spD K W0 preSt) := by
  refine ok_D F sc_steps_at (fun H xs P h => ?_) fun cdv A outer s H E hr => ⟨_, (pss_cons (ps_set (i := 3) sc_steps_at.nd rfl (.inl rfl) (pe_cal c_ready_hands (hr.mono (by omega)) (by rfl) (pa_cons (pv 0) (pa_cons (pv 2) pa_nil)))) (pss_cons (ps_if (PW.pt (pw_and (pt_cmpR  op_eq (pv 1) pe_str (nomark _)) (pw_and1 (pt_cmpR  op_gt (pe_callB call_len_seq (by rfl) B.len PySem.boot_len (pa_cons (pv 3) pa_nil)) (pe_glob (v := .int 10) rfl mM.choose_spec ⟨_, rfl⟩) (nomark _))))) (pss_one ps_never) pss_nil) (pss_one (ps_ret (pe_lc (own := [("hands", 4)]) (g := gName 4) (tt := tYes) rfl sc_steps_at.nd (pi_list (pe_cal c_choices (hr.mono (by omega)) (by rfl) (pa_cons (pv 1) (pa_cons (pv 3) pa_nil)))) (blkOk_by (N := ["system", "chooser", "stand", "ready", "hands"]) (sc := defScope s_steps_at) (by decide +kernel)) (fun _ _ _ _ _ => pg_name (i := 4) sc_steps_at.nd rfl (.inl rfl)) (fun _ _ _ _ _ => pts_nil) (fun _ _ _ _ _ => (pe_tup (pa_cons (pv 4) (pa_cons (pe_cal c_acted (hr.mono (by omega)) (by rfl) (pa_cons (pv 0) (pa_cons (pv 2) (pa_cons (pv 4) pa_nil)))) pa_nil))))))))), fun H xs P _ h => ?_⟩
  · obtain ⟨S, st, ch, _, _, rfl, _⟩ := h
    rfl
  obtain ⟨S, st, ch, o, so, rfl, hP⟩ := h
  have l4 : (S.ready st).length ≤ 4 := by
    have := S.ready_len st
    have := so.len
    have := o.many
    omega
  have few := choices_few o so ch
  refine ⟨W0, fun _ _ r => r, trivial, z_seq (M := fun d => d = [some (.d S.dat), some (.d (.str ch.s)), some (.d (dStand st)), some (.l ((S.ready st).map dN)), none]) (z_set (y_call (A := fun xs => xs = [.d S.dat, .d (dStand st)]) (ap_consE (y_varE rfl) (ap_consE (y_varE rfl) (ap_nil rfl))) (by rintro _ rfl; exact sps_0 fun H => ⟨S, st, o, so, rfl, rfl⟩))) ?_⟩
  rintro _ rfl
  refine z_seq (M := fun d => d = _) (z_ifF (A := fun b => b = false) (t_and (A := fun _ => True) (t_test (y_opE (y_varE rfl) y_strE (rp_eqS ⟨_, rfl, trivial⟩))) (fun _ => t_test (y_opE (y_cb (A := fun xs => xs = [.l ((S.ready st).map dN)]) (ap_consE (y_varE rfl) (ap_nil rfl)) (by rintro _ rfl; exact cp_len rfl rfl)) y_intE (rp_cmp ⟨_, rfl, ?_⟩))) fun _ => rfl) (fun _ h => h) rfl) ?_
  · rw [List.length_map]
    exact decide_eq_false (by omega)
  rintro _ rfl
  refine z_ret (y_lc (A := fun xs => xs = ((choices ch (S.ready st)).map dNs).map Dv.d) (fun xs j acc => acc = ((((choices ch (S.ready st)).take j).map fun hs => (hs, S.act st hs)).map dStep).map Dv.d)
    (ip_list (y_call (A := fun xs => xs = [.d (.str ch.s), .l ((S.ready st).map dN)]) (ap_consE (y_varE rfl) (ap_consE (y_varE rfl) (ap_nil rfl))) (by rintro _ rfl; exact sps_0 fun H => ⟨ch, S.ready st, l4, rfl, _, .inr rfl, rfl⟩))) (by rintro xs rfl; rfl) ?_ (by rintro xs rfl; rw [List.length_map, List.length_map]; omega) ?_)
  · rintro xs rfl j x acc hx _ rfl
    obtain ⟨hs, hh, rfl⟩ : ∃ l, (choices ch (S.ready st))[j]? = some l ∧ x = .d (dNs l) := by
      rw [List.getElem?_map, List.getElem?_map] at hx
      cases q : (choices ch (S.ready st))[j]? with
      | none => rw [q] at hx; simp at hx
      | some l => rw [q] at hx; exact ⟨l, rfl, (by simpa using hx.symm)⟩
    have nlp : Fl (.d (.tuple [dNs hs, dStand (S.act st hs)])) := by
      show nolist (.tuple [dNs hs, dStand (S.act st hs)]) = true
      simp only [nolist, nolists, nl_Ns, nl_Stand, Bool.and_self]
    have accp : ((((choices ch (S.ready st)).take j).map fun hs => (hs, S.act st hs)).map dStep).map Dv.d ++ [.d (.tuple [dNs hs, dStand (S.act st hs)])] = ((((choices ch (S.ready st)).take (j + 1)).map fun hs => (hs, S.act st hs)).map dStep).map Dv.d := by
      rw [List.take_add_one, hh, List.map_append, List.map_append, List.map_append]
      rfl
    refine t_yes ?_
    rw [if_pos rfl]
    refine y_tup (n := 2) (ap_consE (y_varE rfl) (ap_cons (A := (· = .d (dStand (S.act st hs)))) (y_call (A := fun xs => xs = [.d S.dat, .d (dStand st), .d (dNs hs)]) (ap_consE (y_varE rfl) (ap_consE (y_varE rfl) (ap_consE (y_varE rfl) (ap_nil rfl)))) (by rintro _ rfl; exact sps_0 fun H => ⟨S, st, hs, o, so, choices_ok (List.mem_of_getElem? hh), rfl, rfl⟩))
      (by rintro _ rfl; exact ap_nil ⟨[dNs hs, dStand (S.act st hs)], rfl, rfl, nlp, accp⟩)))
  · rintro xs acc rfl rfl
    rw [List.length_map, List.length_map, List.take_length]
    exact ⟨_, hP, fun H a us hu hd => ⟨a, us, rfl, hu, dpAll_of hd⟩⟩

/-! ### may_act, walked -/
structure StepOk (S : Sys) (ch : Ch) (st : Stand) (hs : List Nat) : Prop where
  act : ActOk S st hs
  by_ : ch = .some ∨ (ch = .one ∧ hs.length = 1)
def preMay : Pre := fun _ xs P => ∃ (S : Sys) (st : Stand) (ch : Ch) (hs : List Nat), S.Ok ∧ StOk S st ∧ StepOk S ch st hs ∧ xs = [.d S.dat, .d (.str ch.s), .d (dStand st), .d (dNs hs)] ∧ P (.d (.bool true))
/-- [.. for hand in thing], each True -/
theorem y_allTrue {W : Wd} {ds : Fm} {i v : Nat} {te : TE} {hs : List Nat} (hl : hs.length ≤ 4) (h : ds[i]? = some (some (.d (dNs hs)))) (ht : ∀ h ∈ hs, Yp K W te ((ds.set v none).set v (some (.d (dN h)))) (· = .d (.bool true))) :
    Yp K W (tLc (iTup K (tVar i)) (gName v) tYes te [v]) ds (· = .l ((hs.map fun _ => true).map PyData.bool)) := by
  refine y_lc (A := fun xs => xs = (hs.map dN).map Dv.d) (fun xs j acc => acc = (((hs.take j).map fun _ => true).map PyData.bool).map Dv.d) (ip_tup (y_var h ⟨_, rfl, rfl⟩)) (by rintro xs rfl; rfl) ?_ (by rintro xs rfl; rw [List.length_map, List.length_map]; omega) ?_
  · rintro xs rfl j x acc hx _ rfl
    obtain ⟨e, he, rfl⟩ : ∃ e, hs[j]? = some e ∧ x = .d (dN e) := by
      rw [List.getElem?_map, List.getElem?_map] at hx
      cases q : hs[j]? with
      | none => rw [q] at hx; simp at hx
      | some l => rw [q] at hx; exact ⟨l, rfl, (by simpa using hx.symm)⟩
    refine t_yes ?_
    rw [if_pos rfl]
    refine y_mono (ht e (List.mem_of_getElem? he)) ?_
    rintro _ rfl
    refine ⟨rfl, ?_⟩
    rw [List.take_add_one, he, List.map_append, List.map_append, List.map_append]
    rfl
  · rintro xs acc rfl rfl
    rw [List.length_map, List.length_map, List.take_length]
    exact ⟨_, rfl, fun H a us hu hd => ⟨a, us, rfl, hu, dpAll_of hd⟩⟩
theorem all_true (hs : List Nat) : (hs.map fun _ => true).all id = true := by simp
theorem ok_may {f : Addr} {fd : FuncData} (F : Fun K "may_act" "may_act" s_may_act f fd) (B : Blt mg) (c_ready_hands : Cal p w K mg base "ready_hands" 15 ["system", "stand"] (spD K W0 preRe)) : FnOk p w K mg base CX0 16 f fd ["system", "chooser", "stand", "thing"] (spD K W0 preMay) := by
  refine ok_D F sc_may_act (fun H xs P h => ?_) fun cdv A outer s H E hr => ⟨_, (pss_cons (ps_if (PW.pt (pw_or (pt_not (pt_val (pe_callB call_isi (by rfl) B.isinstance (by decide +kernel) (pa_cons (pv 3) (pa_cons (pe_bltn (v := .ty "tuple") (by rfl) B.tuple (by decide +kernel) rfl) pa_nil))))) (pw_or1 (pt_cmpR  op_eq (pe_callB call_len_seq (by rfl) B.len PySem.boot_len (pa_cons (pv 3) pa_nil)) pe_int (nomark _))))) (pss_one (ps_ret pe_bl)) pss_nil) (pss_cons (ps_if (pt_not (pt_val (pe_callB (cr_all rfl) (by rfl) B.all (by decide +kernel) (pa_cons (pe_lc (own := [("hand", 4)]) (g := gName 4) (tt := tYes) rfl sc_may_act.nd (pi_tup (pv 3)) (blkOk_by (N := ["system", "chooser", "stand", "thing", "hand", "ready"]) (sc := defScope s_may_act) (by decide +kernel)) (fun _ _ _ _ _ => pg_name (i := 4) sc_may_act.nd rfl (.inl rfl)) (fun _ _ _ _ _ => pts_nil) (fun _ _ _ _ _ => (pe_and (pe_callB (r := rIsi K) call_isi (by rfl) B.isinstance (by decide +kernel) (pa_cons (pv 4) (pa_cons (pe_bltn (v := .ty "int") (by rfl) B.int (by decide +kernel) rfl) pa_nil))) (pe_one (pe_not (pe_callB (r := rIsi K) call_isi (by rfl) B.isinstance (by decide +kernel) (pa_cons (pv 4) (pa_cons (pe_bltn (v := .ty "bool") (by rfl) B.bool (by decide +kernel) rfl) pa_nil)))))))) pa_nil)))) (pss_one (ps_ret pe_bl)) pss_nil) (pss_cons (ps_set (i := 5) sc_may_act.nd rfl (.inr rfl) (pe_cal c_ready_hands (hr.mono (by omega)) (by rfl) (pa_cons (pv 0) (pa_cons (pv 2) pa_nil)))) (pss_cons (ps_if (PW.pt (pw_or (pt_not (pt_val (pe_callB (cr_all rfl) (by rfl) B.all (by decide +kernel) (pa_cons (pe_lc (own := [("hand", 4)]) (g := gName 4) (tt := tYes) rfl sc_may_act.nd (pi_tup (pv 3)) (blkOk_by (N := ["system", "chooser", "stand", "thing", "hand", "ready"]) (sc := defScope s_may_act) (by decide +kernel)) (fun _ _ _ _ _ => pg_name (i := 4) sc_may_act.nd rfl (.inl rfl)) (fun _ _ _ _ _ => pts_nil) (fun _ _ _ _ _ => (pe_cmpR  (r := rIn K false) op_in_seq (pv 4) (pv 5) rfl))) pa_nil)))) (pw_or1 (pt_cmpR  (op_neD hr.units) (pe_callB (cr_sortedSet rfl) (by rfl) B.sorted (by decide +kernel) (pa_cons (pe_callTy (cr_setT rfl) (by rfl) B.set (by decide +kernel) (pa_cons (pv 3) pa_nil)) pa_nil)) (pe_callTy call_list_of (by rfl) B.list (by decide +kernel) (pa_cons (pv 3) pa_nil)) (nomark _))))) (pss_one (ps_ret pe_bl)) pss_nil) (pss_cons (ps_if (pt_cmpR  op_eq (pv 1) pe_str (nomark _)) (pss_one (ps_ret (pe_cmpR  op_eq (pe_callB call_len_seq (by rfl) B.len PySem.boot_len (pa_cons (pv 3) pa_nil)) (pe_callB call_len_seq (by rfl) B.len PySem.boot_len (pa_cons (pv 5) pa_nil)) (nomark _)))) pss_nil) (pss_one (ps_ret (pe_or (pe_cmpR  op_eq (pv 1) pe_str (nomark _)) (pe_one (pe_cmpR  op_eq (pe_callB call_len_seq (by rfl) B.len PySem.boot_len (pa_cons (pv 3) pa_nil)) pe_int (nomark _))))))))))), fun H xs P _ h => ?_⟩
  · obtain ⟨S, st, ch, hs, _, _, _, rfl, _⟩ := h
    rfl
  obtain ⟨S, st, ch, hs, o, so, ⟨a, hby⟩, rfl, hP⟩ := h
  have few := a.few o so
  refine ⟨W0, fun _ _ r => r, trivial, z_seq (M := fun d => d = _) (z_ifF (A := fun b => b = false) (t_or (A := fun b => b = false) (t_not (t_B (y_cb (A := fun xs => xs = [.d (dNs hs), .v (.ty "tuple")]) (ap_consE (y_varE rfl) (ap_consE (y_c rfl) (ap_nil rfl))) (by rintro _ rfl; exact cp_isTup (b := true) (by decide +kernel) ⟨_, rfl, rfl⟩))))
    (fun _ => t_test (y_opE (y_cb (A := fun xs => xs = [.d (dNs hs)]) (ap_consE (y_varE rfl) (ap_nil rfl)) (by rintro _ rfl; exact cp_len rfl rfl)) y_intE (rp_eqI ⟨_, rfl, ?_⟩))) fun h => nomatch h) (fun _ h => h) rfl) ?_⟩
  · refine decide_eq_false fun e => a.ne ?_
    have e' : ((hs.map dN).length : Int) = 0 := e
    rw [List.length_map] at e'
    exact List.eq_nil_of_length_eq_zero (by omega)
  rintro _ rfl
  refine z_seq (M := fun d => d = _) (z_ifF (A := fun b => b = false) (t_not (t_B (y_cb (A := fun xs => xs = [.l ((hs.map fun _ => true).map PyData.bool)]) (ap_cons (y_allTrue few rfl fun h hh => ?_) (by rintro _ rfl; exact ap_nil rfl)) (by rintro _ rfl; exact cp_all rfl ⟨_, rfl, by rw [all_true]; rfl⟩)))) (fun _ h => h) rfl) ?_
  · exact y_andV (A := fun b => b = true) (y_cb (A := fun xs => xs = [.d (dN h), .v (.ty "int")]) (ap_consE (y_varE rfl) (ap_consE (y_c rfl) (ap_nil rfl))) (by rintro _ rfl; exact cp_isInt (b := true) (by decide +kernel) ⟨_, rfl, rfl⟩))
      (fun _ => y_notV (y_cb (A := fun xs => xs = [.d (dN h), .v (.ty "bool")]) (ap_consE (y_varE rfl) (ap_consE (y_c rfl) (ap_nil rfl))) (by rintro _ rfl; exact cp_isInt (b := false) (by decide +kernel) ⟨_, rfl, rfl⟩))) fun h => nomatch h
  rintro _ rfl
  refine z_seq (M := fun d => d = [some (.d S.dat), some (.d (.str ch.s)), some (.d (dStand st)), some (.d (dNs hs)), none, some (.l ((S.ready st).map dN))]) (z_set (y_call (A := fun xs => xs = [.d S.dat, .d (dStand st)]) (ap_consE (y_varE rfl) (ap_consE (y_varE rfl) (ap_nil rfl))) (by rintro _ rfl; exact sps_0 fun H => ⟨S, st, o, so, rfl, rfl⟩))) ?_
  rintro _ rfl
  refine z_seq (M := fun d => d = _) (z_ifF (A := fun b => b = false) (t_or (A := fun b => b = false) (t_not (t_B (y_cb (A := fun xs => xs = [.l ((hs.map fun _ => true).map PyData.bool)]) (ap_cons (y_allTrue few rfl fun h hh => ?_) (by rintro _ rfl; exact ap_nil rfl)) (by rintro _ rfl; exact cp_all rfl ⟨_, rfl, by rw [all_true]; rfl⟩))))
    (fun _ => t_test (y_opE (x := .l (hs.map dN)) (y := .l (hs.map dN)) (y_sortSet (A := fun ns => ns = hs.map fun n : Nat => (n : Int)) (y_var rfl ⟨_, by rw [← map_dN]; rfl, by rw [List.length_map]; omega, rfl⟩) ?_) (y_cb (A := fun xs => xs = [.d (dNs hs)]) (ap_consE (y_varE rfl) (ap_nil rfl)) (by rintro _ rfl; exact cp_list rfl rfl))
      (rp_neD rfl rfl ((sh_lst (sh_map sh_N hs)).ok (by decide)) ((sh_lst (sh_map sh_N hs)).ok (by decide)) ⟨_, rfl, by rw [(eqv_lst eqv_N hs hs).mpr rfl]; rfl⟩))) fun h => nomatch h) (fun _ h => h) rfl) ?_
  · refine y_opE (y_varE rfl) (y_varE rfl) (rp_inI (neg := false) (ns := (S.ready st).map fun n : Nat => (n : Int)) (by rw [← map_dN]; rfl) ?_)
    have hm : (h : Int) ∈ (S.ready st).map fun n : Nat => (n : Int) := List.mem_map.mpr ⟨h, a.re h hh, rfl⟩
    rw [if_neg Bool.false_ne_true, decide_eq_true hm]
  · rintro ns ms rfl hms hk
    rw [rise_eq hms (rise_nat a.up) hk, ← map_dN]
  rintro _ rfl
  rcases hby with rfl | ⟨rfl, h1⟩
  · exact z_miss rfl (by decide +kernel) (z_ret (y_orV (A := fun b => b = true) (y_opE (y_varE rfl) y_strE (rp_eqS ⟨_, rfl, by decide +kernel⟩)) (fun h => nomatch h) fun _ => hP))
  · refine z_miss rfl (by decide +kernel) (z_ret (y_orV (A := fun b => b = false) (y_opE (y_varE rfl) y_strE (rp_eqS ⟨_, rfl, by decide +kernel⟩)) (fun _ => y_opE (y_cb (A := fun xs => xs = [.d (dNs hs)]) (ap_consE (y_varE rfl) (ap_nil rfl)) (by rintro _ rfl; exact cp_len rfl rfl)) y_intE (rp_eqI ?_)) fun h => nomatch h))
    rw [List.length_map, h1]
    exact hP
def WalkOk (S : Sys) (ch : Ch) : Stand → List (List Nat) → Prop
  | _, [] => True
  | st, hs :: r => StepOk S ch st hs ∧ WalkOk S ch (S.act st hs) r
theorem box_len {S : Sys} {st : Stand} (so : StOk S st) {h : Nat} (hh : h < st.length) : (S.boxes st h).length = S.sizes.length := by
  unfold Sys.boxes
  rw [laid_len, so.box _ (getD_mem hh)]
theorem act_ok {S : Sys} {st : Stand} {hs : List Nat} (so : StOk S st) (a : ∀ h ∈ hs, h < st.length) : StOk S (S.act st hs) := by
  refine ⟨by unfold Sys.act; rw [act_len]; exact so.len, ?_⟩
  have gen : ∀ (hs : List Nat) (f : Stand), (∀ h ∈ hs, h < st.length) → (∀ b ∈ f, b.length = S.sizes.length) → ∀ b ∈ hs.foldl (fun f h => f.set h (S.boxes st h)) f, b.length = S.sizes.length := by
    intro hs
    induction hs with
    | nil => intro f _ h; exact h
    | cons h r ih =>
      intro f hl hf
      refine ih _ (fun x hx => hl x (List.mem_cons_of_mem _ hx)) fun b hb => ?_
      rcases List.mem_or_eq_of_mem_set hb with z | z
      · exact hf b z
      · rw [z]
        exact box_len so (hl h List.mem_cons_self)
  exact gen hs st a so.box
theorem ActOk.lt {S : Sys} {st : Stand} {hs : List Nat} (a : ActOk S st hs) : ∀ h ∈ hs, h < st.length := fun h hh => (Sys.ready_lt (a.re h hh)).1
theorem walk_at {S : Sys} {ch : Ch} : ∀ {row : List (List Nat)} {st : Stand} {i : Nat} {hs : List Nat}, StOk S st → WalkOk S ch st row → row[i]? = some hs → StOk S ((row.take i).foldl S.act st) ∧ StepOk S ch ((row.take i).foldl S.act st) hs
  | [], _, _, _, _, _, h => by simp at h
  | x :: r, st, 0, hs, so, w, h => by
    simp at h
    subst h
    exact ⟨so, w.1⟩
  | x :: r, st, i + 1, hs, so, w, h => walk_at (i := i) (act_ok so w.1.act.lt) w.2 (by simpa using h)
def preWk : Pre := fun _ xs P => ∃ (S : Sys) (st : Stand) (ch : Ch) (row : List (List Nat)), S.Ok ∧ StOk S st ∧ WalkOk S ch st row ∧ xs = [.d S.dat, .d (.str ch.s), .d (dStand st), .d (.tuple (row.map dNs))] ∧ P (.d (dStand (row.foldl S.act st)))
theorem ok_walked {f : Addr} {fd : FuncData} (F : Fun K "walked" "walked" s_walked f fd) (B : Blt mg) (c_may_act : Cal p w K mg base "may_act" 16 ["system", "chooser", "stand", "thing"] (spD K W0 preMay)) (c_acted : Cal p w K mg base "acted" 17 ["system", "stand", "hands"] (spD K W0 preAct)) :
    FnOk p w K mg base CX0 18 f fd ["system", "chooser", "stand", "row"] (spD K W0 preWk) := by
  refine ok_D F sc_walked (fun H xs P h => ?_) fun cdv A outer s H E hr => ⟨_, (pss_cons (ps_if (pt_not (pt_val (pe_callB call_isi (by rfl) B.isinstance (by decide +kernel) (pa_cons (pv 3) (pa_cons (pe_bltn (v := .ty "tuple") (by rfl) B.tuple (by decide +kernel) rfl) pa_nil))))) (pss_one ps_never) pss_nil) (pss_cons (ps_set (i := 4) sc_walked.nd rfl (.inl rfl) (pv 2)) (pss_cons (ps_for PassesOwn.never rfl (pi_enT rfl B.enumerate (pa_cons (pv 3) pa_nil)) (pg_tup rfl (pgs_cons (pg_name (i := 5) sc_walked.nd rfl (.inl rfl)) (pgs_cons (pg_name (i := 6) sc_walked.nd rfl (.inl rfl)) pgs_nil))) (pss_cons (ps_if (pt_not (pt_val (pe_cal c_may_act (hr.mono (by omega)) (by rfl) (pa_cons (pv 0) (pa_cons (pv 1) (pa_cons (pv 4) (pa_cons (pv 6) pa_nil))))))) (pss_one ps_never) pss_nil) (pss_one (ps_set (i := 4) sc_walked.nd rfl (.inl rfl) (pe_cal c_acted (hr.mono (by omega)) (by rfl) (pa_cons (pv 0) (pa_cons (pv 4) (pa_cons (pv 6) pa_nil)))))))) (pss_one (ps_ret (pv 4)))))), fun H xs P _ h => ?_⟩
  · obtain ⟨S, st, ch, row, _, _, _, rfl, _⟩ := h
    rfl
  obtain ⟨S, st, ch, row, o, so, wk, rfl, hP⟩ := h
  refine ⟨W0, fun _ _ r => r, trivial, z_seq (M := fun d => d = _) (z_ifF (A := fun b => b = false) (t_not (t_B (y_cb (A := fun xs => xs = [.d (.tuple (row.map dNs)), .v (.ty "tuple")]) (ap_consE (y_varE rfl) (ap_consE (y_c rfl) (ap_nil rfl))) (by rintro _ rfl; exact cp_isTup (b := true) (by decide +kernel) ⟨_, rfl, rfl⟩)))) (fun _ h => h) rfl) ?_⟩
  rintro _ rfl
  refine z_seq (M := fun d => d = [some (.d S.dat), some (.d (.str ch.s)), some (.d (dStand st)), some (.d (.tuple (row.map dNs))), some (.d (dStand st)), none, none]) (z_set (y_var rfl rfl)) ?_
  rintro _ rfl
  refine z_seq (M := fun d => Fle [none, none, none, none, some (.d (dStand (row.foldl S.act st))), none, none] d) (z_for (A := fun xs => xs = enu (row.map dNs)) (fun xs i d => Fle [some (.d S.dat), some (.d (.str ch.s)), none, none, some (.d (dStand ((row.take i).foldl S.act st))), none, none] d)
    (ip_enT (ap_consE (y_varE rfl) (ap_nil ⟨_, rfl, rfl⟩))) ?_ ?_ ?_) fun d hd => z_le hd (z_ret (y_var rfl hP))
  · rintro xs rfl
    exact .cons (.cons (.none (.none (.cons (.none (.none .nil))))))
  · rintro xs rfl i x d hx hd
    obtain ⟨e, he, rfl⟩ := enu_of hx
    obtain ⟨hs, hh, rfl⟩ : ∃ hs, row[i]? = some hs ∧ e = dNs hs := by
      rw [List.getElem?_map] at he
      cases q : row[i]? with
      | none => rw [q] at he; cases he
      | some r => rw [q] at he; exact ⟨r, rfl, (Option.some.inj he).symm⟩
    obtain ⟨si, sti⟩ := walk_at so wk hh
    have et : (row.take (i + 1)).foldl S.act st = S.act ((row.take i).foldl S.act st) hs := by rw [List.take_add_one, hh, List.foldl_append]; rfl
    refine gp_le hd (gp_tup rfl (gps_cons (gp_name (gps_cons (gp_name (gps_nil ?_))))))
    refine z_seq (M := fun d => d = _) (z_ifF (A := fun b => b = false) (t_not (t_B (y_call (A := fun xs => xs = [.d S.dat, .d (.str ch.s), .d (dStand ((row.take i).foldl S.act st)), .d (dNs hs)]) (ap_consE (y_varE rfl) (ap_consE (y_varE rfl) (ap_consE (y_varE rfl) (ap_consE (y_varE rfl) (ap_nil rfl)))))
      (by rintro _ rfl; exact sps_0 fun H => ⟨S, _, ch, hs, o, si, sti, rfl, _, rfl, rfl⟩)))) (fun _ h => h) rfl) ?_
    rintro _ rfl
    refine z_set (y_call (A := fun xs => xs = [.d S.dat, .d (dStand ((row.take i).foldl S.act st)), .d (dNs hs)]) (ap_consE (y_varE rfl) (ap_consE (y_varE rfl) (ap_consE (y_varE rfl) (ap_nil rfl)))) (by
      rintro _ rfl
      refine sps_0 fun H => ⟨S, _, hs, o, si, sti.act, rfl, ?_⟩
      rw [et]
      exact .cons (.cons (.none (.none (.cons (.none (.none .nil))))))))
  · rintro xs d rfl hd
    rw [enu_len, List.length_map, List.take_length] at hd
    exact (show Fle [none, none, none, none, some (.d (dStand (row.foldl S.act st))), none, none] [some (.d S.dat), some (.d (.str ch.s)), none, none, some (.d (dStand (row.foldl S.act st))), none, none] from .none (.none (.none (.none (.cons (.none (.none .nil))))))).trans hd
end
end Sr

/-! The feed: a dict that is changed by every draw. -/
namespace Sr
open PySem L2
def fdk (ca : Addr) (a l t : Int) : List (Key × V) := [(.inr "cells", .ref ca), (.inr "at", .int a), (.inr "left", .int l), (.inr "turn", .int t)]
theorem k_ca : ¬ (Sum.inr "cells" : Key) = .inr "at" := by decide +kernel
theorem k_cl : ¬ (Sum.inr "cells" : Key) = .inr "left" := by decide +kernel
theorem k_ct : ¬ (Sum.inr "cells" : Key) = .inr "turn" := by decide +kernel
theorem k_al : ¬ (Sum.inr "at" : Key) = .inr "left" := by decide +kernel
theorem k_at : ¬ (Sum.inr "at" : Key) = .inr "turn" := by decide +kernel
theorem k_lt : ¬ (Sum.inr "left" : Key) = .inr "turn" := by decide +kernel
theorem k_la : ¬ (Sum.inr "left" : Key) = .inr "at" := by decide +kernel
theorem k_ta : ¬ (Sum.inr "turn" : Key) = .inr "at" := by decide +kernel
theorem k_tl : ¬ (Sum.inr "turn" : Key) = .inr "left" := by decide +kernel
theorem s_ca : ¬ ("cells" : Str) = "at" := by decide +kernel
theorem s_cl : ¬ ("cells" : Str) = "left" := by decide +kernel
theorem s_ct : ¬ ("cells" : Str) = "turn" := by decide +kernel
theorem s_al : ¬ ("at" : Str) = "left" := by decide +kernel
theorem s_at : ¬ ("at" : Str) = "turn" := by decide +kernel
theorem s_lt : ¬ ("left" : Str) = "turn" := by decide +kernel
section
variable {ca : Addr} {a l t : Int}
theorem get_c : valV (fdk ca a l t) (.inr "cells") = some (.ref ca) := valV_pos rfl
theorem get_a : valV (fdk ca a l t) (.inr "at") = some (.int a) := (valV_neg k_ca).trans (valV_pos rfl)
theorem get_l : valV (fdk ca a l t) (.inr "left") = some (.int l) := (valV_neg k_cl).trans ((valV_neg k_al).trans (valV_pos rfl))
theorem get_t : valV (fdk ca a l t) (.inr "turn") = some (.int t) := (valV_neg k_ct).trans ((valV_neg k_at).trans ((valV_neg k_lt).trans (valV_pos rfl)))
theorem put_a {v : Int} : putK (fdk ca a l t) (.inr "at") (.int v) = fdk ca v l t := by
  unfold putK
  rw [valV_any, get_a]
  simp only [fdk, List.map_cons, List.map_nil, Option.isSome_some, if_true, k_ca, k_la, k_ta, if_false]
theorem put_l {v : Int} : putK (fdk ca a l t) (.inr "left") (.int v) = fdk ca a v t := by
  unfold putK
  rw [valV_any, get_l]
  simp only [fdk, List.map_cons, List.map_nil, Option.isSome_some, if_true, k_cl, k_al, k_tl, if_false]
theorem put_t {v : Int} : putK (fdk ca a l t) (.inr "turn") (.int v) = fdk ca a l v := by
  unfold putK
  rw [valV_any, get_t]
  simp only [fdk, List.map_cons, List.map_nil, Option.isSome_some, if_true, k_ct, k_at, k_lt, if_false]
end
/-- how the feed stands -/
structure Fd (fa ca : Addr) (cells : List Int) (a : Nat) (l t : Int) (H : Hp) : Prop where
  d : H fa = some (.dK (fdk ca (a : Int) l t))
  c : H ca = some (.lst (cells.map V.int))
  pos : 0 ≤ l
def WF (fa ca : Addr) (cells : List Int) (a : Nat) (l t : Int) : Wd where
  R := Same
  I := Fd fa ca cells a l t
  refl := Same.refl
  trans := Same.trans
  same := id
  keep := Kp.of_same
  im := fun r i => ⟨r _ _ i.d, r _ _ i.c, i.pos⟩
  mu := fun k h b u q => (upd_ne (ne_of_none q h)).trans (k b u q)
/-- the feed's world: it stands somehow -/
def FdS (fa ca : Addr) (cells : List Int) (H : Hp) : Prop := ∃ a l t, Fd fa ca cells a l t H
theorem FdS.upd {fa ca : Addr} {cells : List Int} {H1 H2 : Hp} {p : Addr} {o : HO} (h1 : FdS fa ca cells H1) (h : FdS fa ca cells H2) (hp : H1 p = none) : FdS fa ca cells (upd H2 p o) := by
  obtain ⟨a1, l1, t1, f1⟩ := h1
  obtain ⟨a, l, t, f⟩ := h
  exact ⟨a, l, t, (upd_ne (ne_of_none f1.d hp)).trans f.d, (upd_ne (ne_of_none f1.c hp)).trans f.c, f.pos⟩
def WL (fa ca : Addr) (cells : List Int) : Wd where
  R := fun H H' => Kp H H' ∧ (FdS fa ca cells H → FdS fa ca cells H')
  I := fun H => FdS fa ca cells H ∧ cells ≠ [] ∧ cells.length ≤ 63
  refl := fun H => ⟨Kp.refl H, id⟩
  trans := fun a b => ⟨a.1.trans b.1, fun h => b.2 (a.2 h)⟩
  same := fun e => ⟨Kp.of_same e, fun ⟨a, l, t, f⟩ => ⟨a, l, t, e _ _ f.d, e _ _ f.c, f.pos⟩⟩
  keep := fun r => r.1
  im := fun r i => ⟨r.2 i.1, i.2⟩
  mu := fun k h => ⟨k.1.mut h, fun f => f.upd (k.2 f) h⟩
section
variable {K : PySem.W.Frag} {fa ca : Addr} {cells : List Int} {a : Nat} {l t : Int} {ds : Fm} {P : Dv → Prop}
theorem y_get {key : Str} {v : Int} (ht : ds[0]? = some (some (.v (.ref fa)))) (hv : valV (fdk ca (a : Int) l t) (.inr key) = some (.int v)) (p : P (.d (.int v))) : Yp K (WF fa ca cells a l t) (tDGet (tVar 0) (tC (.str key))) ds P := fun σ H i s Q q => by
  obtain ⟨u, hu, e⟩ := s.at_ 0 _ ht
  obtain rfl : u = .ref fa := e
  refine ⟨.ref fa, hu, fa, .int v, rfl, ?_, q (.int v) H (.d (.int v)) (Same.refl H) (Dp.int v) p⟩
  rw [← hv]
  exact DGet.k (k := .inr key) i.d
theorem y_getC (ht : ds[0]? = some (some (.v (.ref fa)))) (p : P (.l (cells.map .int))) : Yp K (WF fa ca cells a l t) (tDGet (tVar 0) (tC (.str "cells"))) ds P := fun σ H i s Q q => by
  obtain ⟨u, hu, e⟩ := s.at_ 0 _ ht
  obtain rfl : u = .ref fa := e
  refine ⟨.ref fa, hu, fa, .ref ca, rfl, ?_, q (.ref ca) H (.l (cells.map .int)) (Same.refl H) ⟨ca, _, rfl, i.c, ints_dpAll cells⟩ p⟩
  rw [← get_c (ca := ca) (a := (a : Int)) (l := l) (t := t)]
  exact DGet.k (k := .inr "cells") i.d
theorem put_feed {D : Ends} {σ : L2.St} {H : Hp} {key : Str} {tv : TE} {N : Int → Prop} (fd : Fd fa ca cells a l t H) (s : Sl K H σ ds) (ht : ds[0]? = some (some (.v (.ref fa))))
    (hv : Yp K (WF fa ca cells a l t) tv ds fun x => ∃ v, x = .d (.int v) ∧ N v)
    (k : ∀ v H', N v → H' fa = some (.dK (putK (fdk ca (a : Int) l t) (.inr key) (.int v))) → H' ca = some (.lst (cells.map V.int)) → Kp H H' → Sl K H' σ ds → D.nx σ H') : sDPut (tVar 0) (tC (.str key)) tv D σ H :=
  hv σ H fd s _ fun u H1 x r dx px => by
    obtain ⟨v, rfl, n⟩ := px
    obtain rfl := dp_int dx
    have r' : Same H H1 := r
    have fd1 : Fd fa ca cells a l t H1 := (WF fa ca cells a l t).im r fd
    obtain ⟨u, hu, e⟩ := (s.keep (Kp.of_same r')).at_ 0 _ ht
    obtain rfl : u = .ref fa := e
    have kp : Kp H1 (upd H1 fa (.dK (putK (fdk ca (a : Int) l t) (.inr key) (.int v)))) := fun b o n q => by
      have hb : b ≠ fa := fun z => by
        subst z
        rw [fd1.d] at q
        exact n _ (Option.some.inj q).symm
      exact (upd_ne hb).trans q
    refine ⟨.ref fa, hu, fa, _, rfl, DPut.k (k := .inr key) fd1.d (by show 4 < sizeLine; decide), ?_⟩
    exact k v _ n upd_same (kp _ _ (fun _ z => nomatch z) fd1.c) ((Kp.of_same r').trans kp) ((s.keep (Kp.of_same r')).keep kp)
end
section
variable {p : Program} {w : World} {K : PySem.W.Frag} {mg : Str → Option Value} {base : Heap}
def spFeed (K : PySem.W.Frag) : Sp := fun us H Q _ => ∃ (u : V) (ns : List Int), us = [u] ∧ Dok K H (.d (.list (ns.map .int))) u ∧ ns.length ≤ 900 ∧
  ∀ (fa ca : Addr) (cells : List Int) (H' : Hp), cells ≠ [] → cells.length ≤ 63 → FdS fa ca cells H' → Same H H' → Q (.ref fa) H'
theorem ok_law_feed {f : Addr} {fd : FuncData} (F : Fun K "_law_feed" "_law_feed" s_law_feed f fd) (B : Blt mg) : FnOk p w K mg base CX0 1 f fd ["_law_script"] (spFeed K) := by
  refine F.ok sc_law_feed (fun vs H Q E h => ?_) (fun cdv A outer s H vs Q E hr h => ⟨_, (pss_one (ps_ret (pe_disp (pps_cons pe_str (pe_op op_cat (pe_callTy call_list_of (by rfl) B.list (by decide +kernel) (pa_cons (pe_slice sl_list (pv 0) po_none (po_some pe_int)) pa_nil)) (pe_op op_rep (pe_lst (pa_cons pe_int pa_nil)) (pe_callTy call_int1 (by rfl) B.int (by decide +kernel) (pa_cons (pe_cmpR  (op_eqD hr.units) (pv 0) (pe_lst pa_nil) (nomark _)) pa_nil)))) (pps_cons pe_str pe_int (pps_cons pe_str pe_int (pps_cons pe_str pe_int pps_nil)))) (by rfl) (by rfl) (fun z => by cases z) (by decide)))), ?_⟩)
  · obtain ⟨u, ns, rfl, _⟩ := h
    rfl
  obtain ⟨u, ns, rfl, hu, hl, k⟩ := h
  intro q hq
  have same1 : Same H (upd H q (.dK [])) := sameN hq _
  have s1 : Sl K (upd H q (.dK [])) (L2.start ["_law_script"] [u]) [some (.d (.list (ns.map .int)))] := Sl.start (N := ["_law_script"]) (.cons (hu.keep (Kp.of_same same1)) .nil)
  have hc : cutD (ns.map PyData.int) none (some (63 : Int)) = (ns.take 63).map PyData.int := by
    have h1 : HT.sIx (ns.map PyData.int).length (ns.map PyData.int).length (some (63 : Int)) = min 63 (ns.map PyData.int).length := HT.sIx_nat (ns.map PyData.int).length (ns.map PyData.int).length 63
    unfold cutD
    rw [h1]
    show (((ns.map PyData.int).drop 0).take (min 63 (ns.map PyData.int).length - 0)) = _
    rw [List.drop_zero, Nat.sub_zero, List.map_take]
    by_cases h : 63 ≤ (ns.map PyData.int).length
    · rw [Nat.min_eq_left h]
    · rw [Nat.min_eq_right (by omega), List.take_of_length_le (Nat.le_refl _), List.take_of_length_le (by omega)]
  have sh : Sh 1 (.list (ns.map PyData.int)) := sh_lst (sh_map sh_int ns)
  have sh0 : Sh 1 (.list []) := sh_lst (fun x hx => by simp at hx)
  refine (show Yp K W0 (tOp rCat (tCB (rListS K) (tCons (tSl (rSlL K) (tVar 0) tNoPart (tPart (tC (.int 63)))) tNil)) (tOp rRep (tLst (tCons (tC (.int 0)) tNil)) (tCB rInt1 (tCons (tOp (rEqD K) (tVar 0) (tLst tNil)) tNil)))) [some (.d (.list (ns.map .int)))]
    (fun x => ∃ cells : List Int, x = .l (cells.map .int) ∧ cells ≠ [] ∧ cells.length ≤ 63) from ?_) _ _ trivial s1 _ fun v H2 x r2 dx px => ?_
  · refine y_opE (x := .l ((ns.take 63).map .int)) (y := .l ((if ns = [] then [0] else []).map .int)) (y_cb (A := fun xs => xs = [.l ((ns.take 63).map .int)]) (ap_cons (A := (· = .l ((ns.take 63).map .int))) (y_slL (A := (· = .d (.list (ns.map .int)))) (B := (· = none)) (C := (· = some 63)) (y_var rfl rfl) (o_none rfl) (o_some (y_int ⟨_, rfl, rfl⟩)) (by
      rintro x lo hi rfl rfl rfl
      exact ⟨_, rfl, by rw [hc]⟩)) (by rintro _ rfl; exact ap_nil rfl)) (by rintro _ rfl; exact cp_list rfl rfl)) (y_opE (x := .l [.int 0]) (y := .d (.int (if ns = [] then 1 else 0))) (y_lst (n := 1) (ap_consE (y_int rfl) (ap_nil ⟨[.int 0], rfl, rfl, rfl⟩))) (y_cb (A := fun xs => xs = [.d (.bool (decide (ns = [])))]) (ap_cons (A := (· = .d (.bool (decide (ns = []))))) (y_opE (x := .d (.list (ns.map .int))) (y := .l []) (y_var rfl rfl) (y_lst (n := 0) (ap_nil ⟨[], rfl, rfl, rfl⟩)) (rp_eqD rfl rfl (sh.ok (by decide)) (sh0.ok (by decide)) ?_)) (by rintro _ rfl; exact ap_nil rfl)) (by
        rintro _ rfl
        refine cp_intB ?_
        by_cases h : ns = [] <;> simp [h])) (rp_rep ?_ ?_ ?_)) (rp_cat ?_ ⟨ns.take 63 ++ (if ns = [] then [0] else []), by rw [List.map_append], ?_, ?_⟩)
    · cases ns <;> simp [PyData.eqv, PyData.eqvAll]
    · split <;> omega
    · split <;> decide
    · by_cases h : ns = [] <;> simp [h]
    · simp only [List.length_map, List.length_take]
      split <;> simp <;> omega
    · cases ns <;> simp
    · cases ns with
      | nil => simp
      | cons a b => simp; omega
  obtain ⟨cells, rfl, hne, hlen⟩ := px
  obtain ⟨ca, us, rfl, h1, h2⟩ := dx
  obtain rfl := dpAll_ints h2
  have r2' : Same (upd H q (.dK [])) H2 := r2
  refine ⟨r2' _ _ upd_same, [(.inr "cells", .ref ca), (.inr "at", .int 0), (.inr "left", .int 0), (.inr "turn", .int 0)], rfl, (by show 4 ≤ 15; decide), ?_⟩
  have em : mergeK [] [((.inr "cells" : Key), V.ref ca), (.inr "at", .int 0), (.inr "left", .int 0), (.inr "turn", .int 0)] = fdk ca ((0 : Nat) : Int) 0 0 := by
    simp [mergeK, putK, fdk, s_ca, s_cl, s_ct, s_al, s_at, s_lt]
  rw [em]
  have hqc : ca ≠ q := fun z => by
    subst z
    rw [r2' _ _ upd_same] at h1
    cases h1
  exact k q ca cells _ hne hlen ⟨0, 0, 0, upd_same, (upd_ne hqc).trans h1, by decide⟩ fun b u hb => (upd_ne (ne_of_none hb hq)).trans (r2' _ _ (same1 b u hb))
end
end Sr

/-! A draw. -/
namespace Sr
open PySem L2
theorem atI_int {ns : List Int} {i : Int} (h0 : 0 ≤ i) (h : i < (ns.length : Int)) : ∃ v, ns[i.toNat]? = some v ∧ atI (ns.map PyData.int) i = some (.int v) := by
  have hn : i.toNat < ns.length := by omega
  refine ⟨ns[i.toNat], List.getElem?_eq_getElem hn, ?_⟩
  unfold atI ixN
  rw [if_pos h0, List.length_map, if_pos (by omega)]
  show (ns.map PyData.int)[i.toNat]? = _
  rw [List.getElem?_map, List.getElem?_eq_getElem hn]
  rfl
section
variable {p : Program} {w : World} {K : PySem.W.Frag} {mg : Str → Option Value} {base : Heap}
def spDraw : Sp := fun us H Q _ => ∃ (fa ca : Addr) (cells : List Int) (a : Nat) (l t many : Int), us = [.ref fa, .int many] ∧ Fd fa ca cells a l t H ∧ cells ≠ [] ∧ cells.length ≤ 63 ∧ 0 < many ∧ many < 1073741824 ∧
  ∀ (r : Int) (H' : Hp), 0 ≤ r → r < many → Kp H H' → FdS fa ca cells H' → Q (.int r) H'
theorem ok_law_draw {f : Addr} {fd : FuncData} (F : Fun K "_law_draw" "_law_draw" s_law_draw f fd) (B : Blt mg) : FnOk p w K mg base CX0 1 f fd ["_law_feed_here", "_law_many"] spDraw := by
  refine F.ok sc_law_draw (fun vs H Q E h => ?_) (fun cdv A outer s H vs Q E hr h => ⟨_, (pss_cons (ps_dput (hu_of hr) (pv 0) pe_str (pe_op op_add (pe_dget (hu_of hr) (pv 0) pe_str (fun _ _ => rfl)) pe_int) rfl) (pss_cons (ps_set (i := 2) sc_law_draw.nd rfl (.inl rfl) (pe_dget (hu_of hr) (pv 0) pe_str (fun _ _ => rfl))) (pss_cons (ps_while PassesOwn.never (PW.pt (pw_and (pt_cmpR  op_eq (pe_dget (hu_of hr) (pv 0) pe_str (fun _ _ => rfl)) pe_int (nomark _)) (pw_and1 (pt_cmpR  op_lt (pe_dget (hu_of hr) (pv 0) pe_str (fun _ _ => rfl)) (pe_callB call_len_seq (by rfl) B.len PySem.boot_len (pa_cons (pv 2) pa_nil)) (nomark _))))) (pss_cons (ps_dput (hu_of hr) (pv 0) pe_str (pe_op op_mul (pe_ix ix_list (pv 2) (pe_dget (hu_of hr) (pv 0) pe_str (fun _ _ => rfl)) (fun _ _ => rfl)) (pe_callTy call_int1 (by rfl) B.int (by decide +kernel) (pa_cons (pe_cmpR  op_ge (pe_ix ix_list (pv 2) (pe_dget (hu_of hr) (pv 0) pe_str (fun _ _ => rfl)) (fun _ _ => rfl)) (pe_op op_pow pe_int pe_int) (nomark _)) pa_nil))) rfl) (pss_one (ps_dput (hu_of hr) (pv 0) pe_str (pe_op op_add (pe_dget (hu_of hr) (pv 0) pe_str (fun _ _ => rfl)) pe_int) rfl)))) (pss_cons (ps_if (pt_cmpR  op_gt (pe_dget (hu_of hr) (pv 0) pe_str (fun _ _ => rfl)) pe_int (nomark _)) (pss_cons (ps_set (i := 3) sc_law_draw.nd rfl (.inl rfl) (pe_op op_mod (pe_dget (hu_of hr) (pv 0) pe_str (fun _ _ => rfl)) (pv 1))) (pss_cons (ps_dput (hu_of hr) (pv 0) pe_str (pe_op op_fdiv (pe_dget (hu_of hr) (pv 0) pe_str (fun _ _ => rfl)) (pv 1)) rfl) (pss_one (ps_ret (pv 3))))) pss_nil) (pss_cons (ps_set (i := 4) sc_law_draw.nd rfl (.inl rfl) (pe_dget (hu_of hr) (pv 0) pe_str (fun _ _ => rfl))) (pss_cons (ps_set (i := 5) sc_law_draw.nd rfl (.inl rfl) (pe_op op_mod (pe_ix ix_list (pv 2) (pe_op op_mod (pv 4) (pe_callB call_len_seq (by rfl) B.len PySem.boot_len (pa_cons (pv 2) pa_nil))) (fun _ _ => rfl)) pe_int)) (pss_cons (ps_set (i := 6) sc_law_draw.nd rfl (.inl rfl) (pe_op op_mod (pe_op op_mul (pe_op op_add (pv 5) (pe_op op_mul pe_int (pv 4))) pe_int) pe_int)) (pss_cons (ps_set (i := 6) sc_law_draw.nd rfl (.inl rfl) (pe_op op_mod (pe_op op_mul (pe_op op_add (pe_op op_fdiv (pv 6) pe_int) (pe_op op_mul pe_int (pv 4))) pe_int) pe_int)) (pss_one (ps_ret (pe_op op_mod (pe_op op_fdiv (pv 6) pe_int) (pv 1)))))))))))), ?_⟩)
  · obtain ⟨fa, ca, cells, a, l, t, many, rfl, _⟩ := h
    rfl
  obtain ⟨fa, ca, cells, a, l, t, many, rfl, f0, hne, h63, hm0, hm1, hQ⟩ := h
  have hlen : 0 < cells.length := List.length_pos_iff.mpr hne
  have s0 : Sl K H (L2.start ["_law_feed_here", "_law_many", "_law_cells", "_law_found", "_law_turn", "_law_cell", "_law_mixed"] [.ref fa, .int many]) [some (.v (.ref fa)), some (.d (.int many)), none, none, none, none, none] := Sl.start (N := ["_law_feed_here", "_law_many", "_law_cells", "_law_found", "_law_turn", "_law_cell", "_law_mixed"]) (xs := [.v (.ref fa), .d (.int many)]) (.cons (show Dok K H (.v (.ref fa)) _ from rfl) (.cons (show Dok K H (.d (.int many)) _ from Dp.int many) .nil))
  refine put_feed (N := fun _ => True) f0 s0 rfl (y_opE (y_get rfl get_t rfl) y_intE (rp_int ⟨_, rfl, trivial⟩)) fun t1 H1 _ e1 c1 k1 s1 => ?_
  have f1 : Fd fa ca cells a l t1 H1 := ⟨e1.trans (by rw [put_t]), c1, f0.pos⟩
  refine (z_set (y_getC rfl rfl) : Zp K (WF fa ca cells a l t1) _ _ (fun d => d = [some (.v (.ref fa)), some (.d (.int many)), some (.l (cells.map .int)), none, none, none, none]) (fun _ => False)) _ _ H1 f1 s1 (fun σ2 H2 d r2 s2 hd => ?_) fun _ _ _ _ _ z => z.elim
  subst hd
  have r2' : Same H1 H2 := r2
  have k2 : Kp H H2 := k1.trans (Kp.of_same r2')
  have f2 : Fd fa ca cells a l t1 H2 := (WF fa ca cells a l t1).im r2 f1
  -- the loop
  refine ⟨fun m σ' H' => ∃ (a : Nat) (l : Int), m = cells.length - a ∧ Fd fa ca cells a l t1 H' ∧ Kp H H' ∧ Sl K H' σ' [some (.v (.ref fa)), some (.d (.int many)), some (.l (cells.map .int)), none, none, none, none], ⟨_, a, l, rfl, f2, k2, s2⟩, ?_⟩
  rintro m σ3 H3 ⟨a3, l3, rfl, f3, k3, s3⟩
  refine (t_and (A := fun b => b = decide (l3 = 0)) (t_test (y_opE (y_get rfl get_l rfl) y_intE (rp_eqI ⟨_, rfl, rfl⟩))) (fun h => t_test (y_opE (y_get rfl get_a rfl) (y_cb (A := fun xs => xs = [.l (cells.map .int)]) (ap_consE (y_var rfl rfl) (ap_nil rfl)) (by rintro _ rfl; exact cp_len rfl rfl)) (rp_cmp ⟨_, rfl, fun h2 => ?_⟩))) (fun _ h => nomatch h) : Tp K (WF fa ca cells a3 l3 t1) _ _ (fun b => b = true → l3 = 0 ∧ a3 < cells.length)) σ3 H3 f3 s3 _ fun b H4 r4 hb => ?_
  · rw [List.length_map] at h2
    have h3 := of_decide_eq_true h2
    exact ⟨of_decide_eq_true h.symm, by omega⟩
  have r4' : Same H3 H4 := r4
  have f4 : Fd fa ca cells a3 l3 t1 H4 := (WF fa ca cells a3 l3 t1).im r4 f3
  have s4 := s3.keep (Kp.of_same r4')
  have k4 := k3.trans (Kp.of_same r4')
  cases b with
  | true =>
    rw [if_pos rfl]
    obtain ⟨rfl, ha⟩ := hb rfl
    obtain ⟨v, hv, hat⟩ := atI_int (ns := cells) (i := (a3 : Int)) (by omega) (by omega)
    refine ⟨fun σ' H' => ∃ m', m' < cells.length - a3 ∧ ∃ (a : Nat) (l : Int), m' = cells.length - a ∧ Fd fa ca cells a l t1 H' ∧ Kp H H' ∧ Sl K H' σ' [some (.v (.ref fa)), some (.d (.int many)), some (.l (cells.map .int)), none, none, none, none], fun _ _ h => h, ?_⟩
    have cell : ∀ Q : Dv → Prop, Q (.d (.int v)) → Yp K (WF fa ca cells a3 0 t1) (tOp (rIxL K) (tVar 2) (tDGet (tVar 0) (tC (.str "at")))) [some (.v (.ref fa)), some (.d (.int many)), some (.l (cells.map .int)), none, none, none, none] Q := fun Q hq =>
      y_opE (x := .l (cells.map .int)) (y := .d (.int (a3 : Int))) (y_var rfl rfl) (y_get rfl get_a rfl) (rp_ixL rfl hat hq)
    refine put_feed (N := fun z => 0 ≤ z) f4 s4 rfl (y_opE (cell _ rfl) (y_cb (A := fun xs => xs = [.d (.bool (decide (v ≥ (10 : Int) ^ (18 : Int).toNat)))]) (ap_cons (A := (· = .d (.bool (decide (v ≥ (10 : Int) ^ (18 : Int).toNat))))) (y_opE (cell _ rfl) (y_opE y_intE y_intE (rp_intC (by unfold CPow; decide) rfl)) (rp_cmp rfl)) (by rintro _ rfl; exact ap_nil rfl)) (by rintro _ rfl; exact cp_intB rfl)) (rp_intC (.inr ?_) ⟨_, rfl, ?_⟩)) fun z5 H5 n5 e5 c5 k5 s5 => ?_
    · split <;> decide
    · have hpow : (0 : Int) ≤ (10 : Int) ^ (18 : Int).toNat := by decide
      by_cases hge : v ≥ (10 : Int) ^ (18 : Int).toNat
      · rw [if_pos (decide_eq_true hge)]; omega
      · rw [if_neg (by simp only [decide_eq_true_eq]; exact hge)]; omega
    have f5 : Fd fa ca cells a3 z5 t1 H5 := ⟨e5.trans (by rw [put_l]), c5, n5⟩
    refine put_feed (N := fun z => z = (a3 : Int) + 1) f5 s5 rfl (y_opE (y_get rfl get_a rfl) y_intE (rp_int ⟨_, rfl, rfl⟩)) fun z6 H6 n6 e6 c6 k6 s6 => ?_
    subst n6
    have f6 : Fd fa ca cells (a3 + 1) z5 t1 H6 := ⟨e6.trans (by rw [put_a]; rfl), c6, n5⟩
    exact ⟨cells.length - (a3 + 1), by omega, a3 + 1, z5, rfl, f6, k4.trans (k5.trans k6), s6⟩
  | false =>
    rw [if_neg Bool.false_ne_true]
    refine (t_test (y_opE (y_get rfl get_l rfl) y_intE (rp_cmp ⟨_, rfl, fun h => of_decide_eq_true h⟩)) : Tp K (WF fa ca cells a3 l3 t1) _ _ (fun b => b = true → l3 > 0)) σ3 H4 f4 s4 _ fun b H5 r5 hb5 => ?_
    have r5' : Same H4 H5 := r5
    have f5 : Fd fa ca cells a3 l3 t1 H5 := (WF fa ca cells a3 l3 t1).im r5 f4
    have s5 := s4.keep (Kp.of_same r5')
    have k5 := k4.trans (Kp.of_same r5')
    -- the last part
    have last : ∀ (D : Ends), D.rt = Q → (tSeq (tAsg (tDGet (tVar 0) (tC (.str "turn"))) (gName 4)) (tSeq (tAsg (tOp (rI (fun _ j => 0 < j) fun i j => .int (i % j)) (tOp (rIxL K) (tVar 2) (tOp (rI (fun _ j => 0 < j) fun i j => .int (i % j)) (tVar 4) (tCB (rLenS K) (tCons (tVar 2) tNil)))) (tC (.int 2147483629))) (gName 5))
        (tSeq (tAsg (tOp (rI (fun _ j => 0 < j) fun i j => .int (i % j)) (tOp (rI CMul fun i j => .int (i * j)) (tOp (rI0 fun i j => .int (i + j)) (tVar 5) (tOp (rI CMul fun i j => .int (i * j)) (tC (.int 1013)) (tVar 4))) (tC (.int 48271))) (tC (.int 2147483647))) (gName 6))
        (tSeq (tAsg (tOp (rI (fun _ j => 0 < j) fun i j => .int (i % j)) (tOp (rI CMul fun i j => .int (i * j)) (tOp (rI0 fun i j => .int (i + j)) (tOp (rI CDiv fun i j => .int (i / j)) (tVar 6) (tC (.int 13))) (tOp (rI CMul fun i j => .int (i * j)) (tC (.int 37)) (tVar 4))) (tC (.int 69621))) (tC (.int 2147483587))) (gName 6))
        (tRet (tOp (rI (fun _ j => 0 < j) fun i j => .int (i % j)) (tOp (rI CDiv fun i j => .int (i / j)) (tVar 6) (tC (.int 7))) (tVar 1))))))) D σ3 H5 := by
      intro D hD
      refine (z_seq (M := fun d => d = [some (.v (.ref fa)), some (.d (.int many)), some (.l (cells.map .int)), none, some (.d (.int t1)), none, none]) (z_set (y_get rfl get_t rfl)) fun d hd => ?_ : Zp K (WF fa ca cells a3 l3 t1) _ _ (fun _ => False) (fun x => ∃ r : Int, x = .d (.int r) ∧ 0 ≤ r ∧ r < many)) D σ3 H5 f5 s5 (fun _ _ _ _ _ z => z.elim) fun u H6 x r6 dx px => ?_
      · subst hd
        have hl0 : (0 : Int) < (cells.length : Int) := by omega
        obtain ⟨v, hv, hat⟩ := atI_int (ns := cells) (i := t1 % (cells.length : Int)) (Int.emod_nonneg _ (by omega)) (Int.emod_lt_of_pos _ hl0)
        refine z_seq (M := fun d => ∃ z : Int, d = [some (.v (.ref fa)), some (.d (.int many)), some (.l (cells.map .int)), none, some (.d (.int t1)), some (.d (.int z)), none]) (z_set (y_opE (y_opE (x := .l (cells.map .int)) (y := .d (.int (t1 % (cells.length : Int)))) (y_varE rfl) (y_opE (x := .d (.int t1)) (y := .d (.int (cells.length : Int))) (y_varE rfl) (y_cb (A := fun xs => xs = [.l (cells.map .int)]) (ap_consE (y_varE rfl) (ap_nil rfl)) (by
          rintro _ rfl
          refine cp_len rfl ?_
          rw [List.length_map])) (rp_intC hl0 rfl)) (rp_ixL rfl hat rfl)) y_intE (rp_intC (by decide) ⟨_, rfl⟩))) ?_
        rintro _ ⟨z, rfl⟩
        refine z_seq (M := fun d => ∃ z' : Int, d = [some (.v (.ref fa)), some (.d (.int many)), some (.l (cells.map .int)), none, some (.d (.int t1)), some (.d (.int z)), some (.d (.int z'))]) (z_set (y_opE (y_opE (y_opE (y_varE rfl) (y_opE y_intE (y_varE rfl) (rp_intC (.inl (by decide)) rfl)) (rp_int rfl)) y_intE (rp_intC (.inr (by decide)) rfl)) y_intE (rp_intC (by decide) ⟨_, rfl⟩))) ?_
        rintro _ ⟨z', rfl⟩
        refine z_seq (M := fun d => ∃ z' : Int, d = [some (.v (.ref fa)), some (.d (.int many)), some (.l (cells.map .int)), none, some (.d (.int t1)), some (.d (.int z)), some (.d (.int z'))]) (z_set (y_opE (y_opE (y_opE (y_opE (y_varE rfl) y_intE (rp_intC (by unfold CDiv; decide) rfl)) (y_opE y_intE (y_varE rfl) (rp_intC (.inl (by decide)) rfl)) (rp_int rfl)) y_intE (rp_intC (.inr (by decide)) rfl)) y_intE (rp_intC (by decide) ⟨_, rfl⟩))) ?_
        rintro _ ⟨z'', rfl⟩
        exact z_ret (y_opE (y_opE (y_varE rfl) y_intE (rp_intC (by unfold CDiv; decide) rfl)) (y_varE rfl) (rp_intC hm0 ⟨_, rfl, Int.emod_nonneg _ (by omega), Int.emod_lt_of_pos _ hm0⟩))
      obtain ⟨r, rfl, hr0, hr1⟩ := px
      obtain rfl := dp_int dx
      have r6' : Same H5 H6 := r6
      rw [hD]
      exact hQ r H6 hr0 hr1 (k5.trans (Kp.of_same r6')) ⟨a3, l3, t1, (WF fa ca cells a3 l3 t1).im r6 f5⟩
    cases b with
    | true =>
      rw [if_pos rfl]
      have hl := hb5 rfl
      refine (z_set (y_opE (y_get rfl get_l rfl) (y_varE rfl) (rp_intC hm0 rfl)) : Zp K (WF fa ca cells a3 l3 t1) _ _ (fun d => d = [some (.v (.ref fa)), some (.d (.int many)), some (.l (cells.map .int)), some (.d (.int (l3 % many))), none, none, none]) (fun _ => False)) _ _ H5 f5 s5 (fun σ6 H6 d r6 s6 hd => ?_) fun _ _ _ _ _ z => z.elim
      subst hd
      have r6' : Same H5 H6 := r6
      have f6 : Fd fa ca cells a3 l3 t1 H6 := (WF fa ca cells a3 l3 t1).im r6 f5
      refine put_feed (N := fun z => z = l3 / many) f6 s6 rfl (y_opE (y_get rfl get_l rfl) (y_varE rfl) (rp_intC ⟨hm0, hm1⟩ ⟨_, rfl, rfl⟩)) fun z7 H7 n7 e7 c7 k7 s7 => ?_
      subst n7
      have f7 : Fd fa ca cells a3 (l3 / many) t1 H7 := ⟨e7.trans (by rw [put_l]), c7, Int.ediv_nonneg f6.pos (by omega)⟩
      obtain ⟨u, hu, e⟩ := s7.at_ 3 _ rfl
      obtain rfl := dp_int e
      exact ⟨_, hu, hQ _ H7 (Int.emod_nonneg _ (by omega)) (Int.emod_lt_of_pos _ hm0) (k5.trans ((Kp.of_same r6').trans k7)) ⟨_, _, _, f7⟩⟩
    | false =>
      rw [if_neg Bool.false_ne_true]
      exact last _ rfl
end
end Sr

/-! What the law draws: orders, webs. -/
namespace Sr
open PySem L2 PyProof.Rows
abbrev vN (n : Nat) : V := .int (n : Int)
theorem erase_perm {α : Type} : ∀ {l : List α} {n : Nat} (h : n < l.length), (l[n] :: l.eraseIdx n).Perm l
  | a :: l, 0, _ => .refl _
  | a :: l, n + 1, h => (List.Perm.swap a _ _).trans (List.Perm.cons a (erase_perm (l := l) (n := n) (by simpa using h)))
theorem map_erase {α β : Type} (f : α → β) : ∀ (l : List α) (n : Nat), (l.map f).eraseIdx n = (l.eraseIdx n).map f
  | [], _ => rfl
  | a :: l, 0 => rfl
  | a :: l, n + 1 => congrArg (f a :: ·) (map_erase f l n)
theorem pi_or {X : Cx} {tg e : Expr} {w1 w2 : TI} (h1 : PI X tg e w1) (h2 : PI X tg e w2) : PI X tg e (fun σ H R => w1 σ H R ∨ w2 σ H R) := ⟨fun pins s σ H R I h => h.elim (h1.run pins s σ H R I) (h2.run pins s σ H R I)⟩
abbrev PreL := List Dv → (Dv → Prop) → Prop
def spL (K : PySem.W.Frag) (pre : PreL) : Sp := fun us H Q _ => ∃ (fa ca : Addr) (cells : List Int) (xs : List Dv) (P : Dv → Prop), (WL fa ca cells).I H ∧ Doks K H (.v (.ref fa) :: xs) us ∧ pre xs P ∧ ∀ u H' x, (WL fa ca cells).R H H' → Dok K H' x u → P x → Q u H'
section
variable {K : PySem.W.Frag} {fa ca : Addr} {cells : List Int} {ds : Fm} {P : Dv → Prop}
theorem sps_L {pre : PreL} {xs : List Dv} (h : pre xs P) : Sps K (WL fa ca cells) (spL K pre) (.v (.ref fa) :: xs) P := fun H us i d Q E q => ⟨fa, ca, cells, xs, P, i, d, h, q⟩
theorem sps_draw {n : Int} (h0 : 0 < n) (h1 : n < 1073741824) (hp : ∀ r : Nat, (r : Int) < n → P (.d (.int (r : Int)))) : Sps K (WL fa ca cells) spDraw [.v (.ref fa), .d (.int n)] P := fun H us i d Q E q => by
  cases d with
  | cons a b =>
    cases b with
    | cons b c =>
      cases c
      obtain rfl : _ = V.ref fa := a
      obtain rfl := dp_int b
      obtain ⟨⟨a, l, t, f⟩, hne, h63⟩ := i
      refine ⟨fa, ca, cells, a, l, t, n, rfl, f, hne, h63, h0, h1, fun r H' r0 r1 k fs => ?_⟩
      obtain ⟨m, rfl⟩ : ∃ m : Nat, r = (m : Int) := ⟨r.toNat, by omega⟩
      exact q (.int (m : Int)) H' (.d (.int (m : Int))) ⟨k, fun _ => fs⟩ (Dp.int _) (hp m r1)
theorem y_draw {te : TE} {n : Int} (hf : ds[0]? = some (some (.v (.ref fa)))) (h : Yp K (WL fa ca cells) te ds (· = .d (.int n))) (h0 : 0 < n) (h1 : n < 1073741824) (hp : ∀ r : Nat, (r : Int) < n → P (.d (.int (r : Int)))) :
    Yp K (WL fa ca cells) (tCall spDraw [] E0 (tCons (tVar 0) (tCons te tNil))) ds P :=
  y_call (A := fun xs => xs = [.v (.ref fa), .d (.int n)]) (ap_consE (y_varE hf) (ap_consE h (ap_nil rfl))) (by rintro _ rfl; exact sps_draw h0 h1 hp)
end
section
variable {p : Program} {w : World} {K : PySem.W.Frag} {mg : Str → Option Value} {base : Heap}
theorem ok_L {x qual : Str} {st : Stmt} {f : Addr} {fd : FuncData} {N ps : List Str} {k : Nat} {pre : PreL} (F : Fun K x qual st f fd) (S : FnScope N ps (defScope st)) (hl : ∀ xs P, pre xs P → xs.length + 1 = ps.length)
    (hb : ∀ (cdv : Value) (A : Around) (outer : List Env) (s : Shared) (H : Hp) (E : XK), Room k (A.deeper (envOfC qual (defScope st) s.heap.objs.size f cdv)) →
      ∃ t, PSs (cxOf CX0 p w K mg base N qual (defScope st) f cdv A outer s H E).nox (defBody st) t ∧ ∀ fa ca cells xs P, pre xs P → Zp K (WL fa ca cells) t (startD N.length (.v (.ref fa) :: xs)) (fun _ => P (.d .none)) P) :
    FnOk p w K mg base CX0 (k + 1) f fd ps (spL K pre) := by
  refine F.ok S (fun vs H Q E h => ?_) (fun cdv A outer s H vs Q E hr h => ?_)
  · obtain ⟨fa, ca, cells, xs, P, _, d, h, _⟩ := h
    rw [← d.length]
    exact hl xs P h
  · obtain ⟨t, h1, h2⟩ := hb cdv A outer s H E hr
    obtain ⟨fa, ca, cells, xs, P, i, d, h, q⟩ := h
    exact ⟨t, h1, h2 fa ca cells xs P h _ _ H i (Sl.start d) (fun σ' H' ds' r _ n => q .non H' (.d .none) r .non n) fun u H' x r dx px => q u H' x r dx px⟩
abbrev c_drawT (p : Program) (w : World) (K : PySem.W.Frag) (mg : Str → Option Value) (base : Heap) : Prop := Cal p w K mg base "_law_draw" 1 ["_law_feed_here", "_law_many"] spDraw
/-! ### an order -/
def preSh : PreL := fun xs P => ∃ (x : Dv) (ns : List Nat), seqD x = some (ns.map dN) ∧ ns.length ≤ 60 ∧ xs = [x] ∧ ∀ ms : List Nat, ms.Perm ns → P (.l (ms.map dN))
theorem map_V (l : List Nat) : l.map vN = (l.map fun n : Nat => (n : Int)).map V.int := by rw [List.map_map]; rfl
theorem dpAll_N {H : Hp} {us : List V} {l : List Nat} (h : DpAll K H us (l.map dN)) : us = l.map vN := by
  rw [map_V]
  rw [map_dN] at h
  exact dpAll_ints h
theorem N_dpAll {H : Hp} (l : List Nat) : DpAll K H (l.map vN) (l.map dN) := by
  rw [map_V, map_dN]
  exact ints_dpAll _
theorem ok_shuffled {f : Addr} {fd : FuncData} (F : Fun K "_law_shuffled" "_law_shuffled" s_law_shuffled f fd) (B : Blt mg) (c_law_draw : c_drawT p w K mg base) : FnOk p w K mg base CX0 2 f fd ["_law_feed_here", "_law_some"] (spL K preSh) := by
  refine F.ok sc_law_shuffled (fun vs H Q E h => ?_) (fun cdv A outer s H vs Q E hr h => ⟨_, (pss_cons (ps_set (i := 2) sc_law_shuffled.nd rfl (.inl rfl) (pe_callTy call_list_of (by rfl) B.list (by decide +kernel) (pa_cons (pv 1) pa_nil))) (pss_cons (ps_set (i := 3) sc_law_shuffled.nd rfl (.inl rfl) (pe_lst pa_nil)) (pss_cons (ps_for PassesOwn.never rfl (pi_range1 rfl B.range (pa_cons (pe_callB call_len_seq (by rfl) B.len PySem.boot_len (pa_cons (pv 2) pa_nil)) pa_nil)) (pg_name (i := 4) sc_law_shuffled.nd rfl (.inl rfl)) (pss_one (ps_expr (pe_bm PySem.F.plainAttrs_list PySem.F.slot_list_append PySem.F.type_list_append mt_append (pv 3) (pa_cons (pe_bm PySem.F.plainAttrs_list PySem.F.slot_list_pop PySem.F.type_list_pop mt_popAt (pv 2) (pa_cons (pe_cal c_law_draw (hr.mono (by omega)) (by rfl) (pa_cons (pv 0) (pa_cons (pe_callB call_len_seq (by rfl) B.len PySem.boot_len (pa_cons (pv 2) pa_nil)) pa_nil))) pa_nil)) pa_nil))))) (pss_one (ps_ret (pv 3)))))), ?_⟩)
  · obtain ⟨fa, ca, cells, xs, P, _, d, ⟨x, ns, _, _, rfl, _⟩, _⟩ := h
    rw [← d.length]
    rfl
  obtain ⟨fa, ca, cells, xs, P, i_, d, ⟨x, ns, hx, hl, rfl, hP⟩, hQ⟩ := h
  cases d with
  | cons d1 d =>
  cases d with
  | cons d2 d =>
  cases d
  obtain rfl : _ = V.ref fa := d1
  obtain ⟨a, us, rfl, h1, h2⟩ := seqD_ok hx d2
  obtain rfl := dpAll_N h2
  refine ⟨_, rfl, a, _, rfl, h1, fun q hq => ?_⟩
  refine ⟨Nat.zero_le _, fun p hp => ?_⟩
  have hpq : p ≠ q := fun z => by subst z; rw [upd_same] at hp; cases hp
  have hp0 : H p = none := by rw [upd_ne hpq] at hp; exact hp
  have hQ0 : upd (upd H q (.lst (ns.map vN))) p (.lst []) q = some (.lst (ns.map vN)) := (upd_ne hpq.symm).trans upd_same
  have r0 : (WL fa ca cells).R H (upd (upd H q (.lst (ns.map vN))) p (.lst [])) := (WL fa ca cells).mu ((WL fa ca cells).mu ((WL fa ca cells).refl H) hq) hp0
  refine ⟨_, rfl, q, _, rfl, .inl (SqL.of hQ0), (ns.length : Int), by rw [List.length_map], by omega, by omega, ?_⟩
  rw [show ((ns.length : Int)).toNat = ns.length by omega]
  refine ⟨fun i m σ H' => m = ns.length - i ∧ i ≤ ns.length ∧ ∃ left found : List Nat, (found ++ left).Perm ns ∧ left.length = ns.length - i ∧ H' q = some (.lst (left.map vN)) ∧ H' p = some (.lst (found.map vN)) ∧
    (WL fa ca cells).R H H' ∧ σ[0]? = some (some (.ref fa)) ∧ σ[2]? = some (some (.ref q)) ∧ σ[3]? = some (some (.ref p)) ∧ σ.length = 5, ⟨ns.length, by simp, Nat.zero_le _, ns, [], .refl _, by simp, hQ0, upd_same, r0, rfl, rfl, rfl, rfl⟩, ?_⟩
  rintro i m σ H1 ⟨rfl, hi, left, found, perm, ll, eq1, ep1, r1, g0, g2, g3, gl⟩
  by_cases hlt : i < ns.length
  · refine .inr ⟨hlt, fun σ2 H2 => ∃ m', m' < ns.length - i ∧ m' = ns.length - (i + 1) ∧ i + 1 ≤ ns.length ∧ ∃ left found : List Nat, (found ++ left).Perm ns ∧ left.length = ns.length - (i + 1) ∧ H2 q = some (.lst (left.map vN)) ∧ H2 p = some (.lst (found.map vN)) ∧
      (WL fa ca cells).R H H2 ∧ σ2[0]? = some (some (.ref fa)) ∧ σ2[2]? = some (some (.ref q)) ∧ σ2[3]? = some (some (.ref p)) ∧ σ2.length = 5, fun _ _ w => w, fun u H2 y => ?_⟩
    obtain ⟨rfl, rfl⟩ := y
    have g0' : (σ.set 4 (some (V.int (0 + (i : Int)))))[0]? = some (some (.ref fa)) := by rw [List.getElem?_set_ne (by decide)]; exact g0
    have g2' : (σ.set 4 (some (V.int (0 + (i : Int)))))[2]? = some (some (.ref q)) := by rw [List.getElem?_set_ne (by decide)]; exact g2
    have g3' : (σ.set 4 (some (V.int (0 + (i : Int)))))[3]? = some (some (.ref p)) := by rw [List.getElem?_set_ne (by decide)]; exact g3
    refine ⟨.ref p, g3', .inl ⟨rfl, _, SqL.of ep1⟩, .ref q, g2', .inl ⟨rfl, _, SqL.of eq1⟩, .ref fa, g0', .ref q, g2', q, _, rfl, .inl (SqL.of eq1), ?_⟩
    have hI := (WL fa ca cells).im r1 i_
    rw [show V.int ((left.map vN).length : Int) = V.int (left.length : Int) by rw [List.length_map]]
    delta tNil
    dsimp only
    refine sps_draw (K := K) (fa := fa) (ca := ca) (cells := cells) (n := (left.length : Int)) (P := fun x => ∃ r : Nat, x = .d (.int (r : Int)) ∧ r < left.length) (by omega) (by omega) (fun r h => ⟨r, rfl, by omega⟩) H2 _ hI (.cons rfl (.cons (Dp.int _) .nil)) _ _ fun u H3 x r3 d3 px => ?_
    obtain ⟨r, rfl, hr⟩ := px
    obtain rfl := dp_int d3
    have eq3 : H3 q = some (.lst (left.map vN)) := r3.1 q _ (fun _ z => nomatch z) eq1
    have ep3 : H3 p = some (.lst (found.map vN)) := r3.1 p _ (fun _ z => nomatch z) ep1
    have flen : found.length ≤ ns.length := by
      have := perm.length_eq
      rw [List.length_append] at this
      omega
    refine ⟨q, _, (r : Int), r, vN left[r], rfl, rfl, eq3, by omega, by omega, ?_, ?_, p, _, _, rfl, rfl, (upd_ne hpq).trans ep3, ?_, ?_⟩
    · unfold seqIndex?
      simp [hr]
      omega
    · rw [List.getElem?_map, List.getElem?_eq_getElem hr]
      rfl
    · rw [List.length_map]
      exact Nat.lt_of_le_of_lt (Nat.le_trans flen hl) (by decide)
    · refine ⟨ns.length - (i + 1), by omega, rfl, by omega, left.eraseIdx r, found ++ [left[r]], ?_, ?_, ?_, ?_, ?_, g0', g2', g3', by rw [List.length_set]; exact gl⟩
      · rw [List.append_assoc]
        exact (List.Perm.append_left found (erase_perm hr)).trans perm
      · rw [List.length_eraseIdx, if_pos hr]
        omega
      · rw [upd_ne hpq.symm, upd_same, map_erase]
      · rw [upd_same, List.map_append]
        rfl
      · exact (WL fa ca cells).mu ((WL fa ca cells).mu ((WL fa ca cells).trans r1 r3) hq) hp0
  · have e : i = ns.length := by omega
    subst e
    refine .inl ⟨Nat.le_refl _, .ref p, g3, hQ (.ref p) H1 (.l (found.map dN)) r1 ⟨p, _, rfl, ep1, N_dpAll found⟩ (hP found ?_)⟩
    have hle : left = [] := List.eq_nil_of_length_eq_zero (by omega)
    rw [hle, List.append_nil] at perm
    exact perm
end
end Sr

/-! Webs. -/
namespace Sr
open PySem L2 PyProof.Rows
theorem cut_take (xs : List PyData) (k : Nat) : cutD xs none (some (k : Int)) = xs.take k := by
  have h1 : HT.sIx xs.length xs.length (some (k : Int)) = min k xs.length := HT.sIx_nat xs.length xs.length k
  unfold cutD
  rw [h1]
  show ((xs.drop 0).take (min k xs.length - 0)) = _
  rw [List.drop_zero, Nat.sub_zero]
  by_cases h : k ≤ xs.length
  · rw [Nat.min_eq_left h]
  · rw [Nat.min_eq_right (by omega), List.take_of_length_le (Nat.le_refl _), List.take_of_length_le (by omega)]
theorem rng_N (n : Nat) : rng n = ((List.range n).map dN).map Dv.d := by
  unfold rng
  rw [List.map_map]
  rfl
section
variable {K : PySem.W.Frag} {W : Wd} {ds : Fm} {P : Dv → Prop}
/-- [x for x in .. if ..] over hands -/
theorem y_filter {wi : TI} {tt : TT} {i : Nat} {ns : List Nat} (J : List Nat → List Nat → Prop) (hi : Ip K W wi ds fun xs => xs = (ns.map dN).map Dv.d) (hn : ns.length ≤ 1000) (hlt : i < ds.length) (h0 : J [] [])
    (ht : ∀ n ∈ ns, Tp K W tt ((ds.set i none).set i (some (.d (dN n)))) fun b => ∀ l ms, J l ms → J (l ++ [n]) (if b = true then ms ++ [n] else ms)) (hd : ∀ ms, J ns ms → P (.l (ms.map dN))) : Yp K W (tLc wi (gName i) tt (tVar i) [i]) ds P :=
  y_lc (A := fun xs => xs = (ns.map dN).map Dv.d) (fun xs j acc => ∃ ms : List Nat, acc = (ms.map dN).map Dv.d ∧ J (ns.take j) ms) hi (by rintro xs rfl; exact ⟨[], rfl, h0⟩) (by
    rintro xs rfl j x acc hx _ ⟨ms, rfl, hj⟩
    obtain ⟨n, hh, rfl⟩ : ∃ h, ns[j]? = some h ∧ x = .d (dN h) := by
      rw [List.getElem?_map, List.getElem?_map] at hx
      cases q : ns[j]? with
      | none => rw [q] at hx; simp at hx
      | some l => rw [q] at hx; exact ⟨l, rfl, (by simpa using hx.symm)⟩
    refine t_mono (ht n (List.mem_of_getElem? hh)) fun b hb => ?_
    have h1 := hb _ _ hj
    have e : ns.take (j + 1) = ns.take j ++ [n] := by rw [List.take_add_one, hh]; rfl
    cases b with
    | true =>
      rw [if_pos rfl] at h1 ⊢
      refine y_var (x := .d (dN n)) (by rw [List.getElem?_set_self]; rw [List.length_set]; exact hlt) ⟨(rfl : nolist (dN n) = true), ms ++ [n], ?_, by rw [e]; exact h1⟩
      rw [List.map_append, List.map_append]
      rfl
    | false =>
      rw [if_neg Bool.false_ne_true] at h1 ⊢
      exact ⟨ms, rfl, by rw [e]; exact h1⟩) (by rintro xs rfl; rw [List.length_map, List.length_map]; exact hn) (by
    rintro xs acc rfl ⟨ms, rfl, hj⟩
    rw [List.length_map, List.length_map, List.take_length] at hj
    exact ⟨_, hd ms hj, fun H a us hu hd => ⟨a, us, rfl, hu, dpAll_of hd⟩⟩)
/-- .. what is kept is told -/
theorem y_filterD {wi : TI} {tt : TT} {i : Nat} {ns : List Nat} (f : Nat → Bool) (hi : Ip K W wi ds fun xs => xs = (ns.map dN).map Dv.d) (hn : ns.length ≤ 1000) (hlt : i < ds.length)
    (ht : ∀ n ∈ ns, Tp K W tt ((ds.set i none).set i (some (.d (dN n)))) fun b => b = f n) (hd : P (.l ((ns.filter f).map dN))) : Yp K W (tLc wi (gName i) tt (tVar i) [i]) ds P :=
  y_filter (fun l ms => ms = l.filter f) hi hn hlt rfl (fun n hn' => t_mono (ht n hn') fun b hb => by
    rintro l ms rfl
    subst hb
    rw [List.filter_append]
    cases h : f n <;> simp [List.filter, h]) fun ms e => by rw [e]; exact hd
end
section
variable {p : Program} {w : World} {K : PySem.W.Frag} {mg : Str → Option Value} {base : Heap}
def preWeb : PreL := fun xs P => ∃ many : Nat, 1 ≤ many ∧ many ≤ 4 ∧ xs = [.d (dN many)] ∧ ∀ eyes : List (List Nat), eyes.length = many → (∀ l ∈ eyes, l.length ≤ 6 ∧ ∀ e ∈ l, e < many) → P (.d (dEyes eyes))
theorem ok_web {f : Addr} {fd : FuncData} (F : Fun K "_law_web" "_law_web" s_law_web f fd) (B : Blt mg) (c_law_draw : c_drawT p w K mg base) (c_law_shuffled : Cal p w K mg base "_law_shuffled" 2 ["_law_feed_here", "_law_some"] (spL K preSh)) :
    FnOk p w K mg base CX0 3 f fd ["_law_feed_here", "_law_many"] (spL K preWeb) := by
  refine ok_L F sc_law_web (fun xs P h => ?_) fun cdv A outer s H E hr => ⟨_, (pss_cons (ps_set (i := 2) sc_law_web.nd rfl (.inl rfl) (pe_cal c_law_draw (hr.mono (by omega)) (by rfl) (pa_cons (pv 0) (pa_cons pe_int pa_nil)))) (pss_cons (ps_set (i := 3) sc_law_web.nd rfl (.inl rfl) (pe_lst pa_nil)) (pss_cons (ps_for PassesOwn.never rfl (pi_range1 rfl B.range (pa_cons (pv 1) pa_nil)) (pg_name (i := 4) sc_law_web.nd rfl (.inr rfl)) (pss_cons (ps_setLc (i := 5) (own := [("_law_other", 6)]) (g := gName 6) rfl sc_law_web.nd rfl rfl (sw_true rfl rfl rfl (by decide +kernel)) (pi_range1 rfl B.range (pa_cons (pv 1) pa_nil)) (blkOk_by (N := ["_law_feed_here", "_law_many", "_law_way", "_law_found", "_law_hand", "_law_others", "_law_other"]) (sc := defScope s_law_web) (by decide +kernel)) (fun _ _ _ _ _ => pg_name (i := 6) sc_law_web.nd rfl (.inl rfl)) (fun _ _ _ _ _ => pts_one (pt_cmpR  op_ne (pv 6) (pv 4) (nomark _))) (fun _ _ _ _ _ => (pv 6))) (pss_cons (ps_if (pt_cmpR  op_eq (pv 2) pe_int (nomark _)) (pss_one (ps_set (i := 5) sc_law_web.nd rfl (.inl rfl) (pe_slice sl_list (pe_lst (pa_cons (pe_op op_mod (pe_op op_sub (pe_op op_add (pv 4) (pv 1)) pe_int) (pv 1)) (pa_cons (pe_op op_mod (pe_op op_add (pv 4) pe_int) (pv 1)) pa_nil))) po_none (po_some (pe_op op_sub (pv 1) pe_int))))) (pss_one (ps_if (pt_cmpR  op_gt (pv 2) pe_int (nomark _)) (pss_one (ps_setLc (i := 5) (own := [("_law_other", 6)]) (g := gName 6) rfl sc_law_web.nd rfl rfl (sw_true rfl rfl rfl (by decide +kernel)) (pi_list (pv 5)) (blkOk_by (N := ["_law_feed_here", "_law_many", "_law_way", "_law_found", "_law_hand", "_law_others", "_law_other"]) (sc := defScope s_law_web) (by decide +kernel)) (fun _ _ _ _ _ => pg_name (i := 6) sc_law_web.nd rfl (.inl rfl)) (fun _ _ _ _ _ => pts_one (pt_cmpR  op_eq (pe_cal c_law_draw (hr.mono (by omega)) (by rfl) (pa_cons (pv 0) (pa_cons pe_int pa_nil))) pe_int (nomark _))) (fun _ _ _ _ _ => (pv 6)))) pss_nil))) (pss_one (ps_expr (pe_bm PySem.F.plainAttrs_list PySem.F.slot_list_append PySem.F.type_list_append mt_append (pv 3) (pa_cons (pe_callTy call_tuple_of (by rfl) B.tuple (by decide +kernel) (pa_cons (pe_slice sl_list (pe_cal c_law_shuffled (hr.mono (by omega)) (by rfl) (pa_cons (pv 0) (pa_cons (pv 5) pa_nil))) po_none (po_some pe_int)) pa_nil)) pa_nil))))))) (pss_one (ps_ret (pe_callTy call_tuple_of (by rfl) B.tuple (by decide +kernel) (pa_cons (pv 3) pa_nil))))))), fun fa ca cells xs P h => ?_⟩
  · obtain ⟨many, _, _, rfl, _⟩ := h
    rfl
  obtain ⟨many, hm1, hm4, rfl, hP⟩ := h
  refine z_seq (M := fun d => ∃ r : Nat, d = [some (.v (.ref fa)), some (.d (dN many)), some (.d (dN r)), none, none, none, none]) (z_set (y_draw rfl y_intE (by decide) (by decide) fun r _ => ⟨r, rfl⟩)) ?_
  rintro _ ⟨way, rfl⟩
  have d0f : FmFl [some (.v (.ref fa)), some (.d (dN many)), some (.d (dN way)), none, none, none, none] := .some trivial (.some rfl (.some rfl (.none (.none (.none (.none .nil))))))
  refine z_assoc (z_seq (M := fun d => ∃ eyes : List (List Nat), eyes.length = many ∧ (∀ l ∈ eyes, l.length ≤ 6 ∧ ∀ e ∈ l, e < many) ∧ d[3]? = some (some (dLs K ((eyes.map dNs).map .d)))) (z_build (f := 3) (A0 := fun acc => acc = []) (A := fun xs => xs = rng many)
    (fun xs i d acc => d = [some (.v (.ref fa)), some (.d (dN many)), some (.d (dN way)), none, none, none, none] ∧ ∃ eyes : List (List Nat), eyes.length = i ∧ (∀ l ∈ eyes, l.length ≤ 6 ∧ ∀ e ∈ l, e < many) ∧ acc = (eyes.map dNs).map Dv.d)
    (ynew_nil rfl) d0f (show 3 < 7 by decide) (fun q => if_range (ap_consE (y_varE rfl) (ap_nil ⟨many, rfl, by omega, rfl⟩))) ?_ ?_ ?_ ?_) fun d hd => ?_)
  · rintro xs acc rfl rfl
    exact ⟨rfl, [], rfl, fun _ h => (by simp at h), rfl⟩
  · rintro q xs rfl i x d acc hx hdl ⟨rfl, eyes, hl, hok, rfl⟩
    obtain ⟨rfl, him⟩ := rng_of hx
    refine gp_name (zm_seq (M := fun d => ∃ os : List Nat, os.length ≤ 4 ∧ (∀ e ∈ os, e < many) ∧ d = [some (.v (.ref fa)), some (.d (dN many)), some (.d (dN way)), some (.v (.ref q)), some (.d (dN i)), some (.l (os.map dN)), none]) (z_set (y_filterD (ns := List.range many) (fun o => !decide (o = i)) (ip_range (ap_consE (y_varE rfl) (ap_nil ⟨many, rfl, by omega, rng_N many⟩))) (by rw [List.length_range]; omega) (by show 6 < 7; decide)
      (fun n _ => t_test (y_opE (x := .d (dN n)) (y := .d (dN i)) (y_varE rfl) (y_varE rfl) (rp_neI ⟨_, rfl, ?_⟩))) ⟨_, ?_, ?_, rfl⟩)) ?_)
    · by_cases h : n = i
      · rw [decide_eq_true h, decide_eq_true (by omega)]
      · rw [decide_eq_false h, decide_eq_false (by omega)]
    · exact Nat.le_trans (List.length_filter_le _ _) (by rw [List.length_range]; exact hm4)
    · intro e he
      exact List.mem_range.mp (List.mem_filter.mp he).1
    rintro _ ⟨os, ol, oe, rfl⟩
    refine zm_seq (M := fun d => ∃ os : List Nat, os.length ≤ 4 ∧ (∀ e ∈ os, e < many) ∧ d = [some (.v (.ref fa)), some (.d (dN many)), some (.d (dN way)), some (.v (.ref q)), some (.d (dN i)), some (.l (os.map dN)), none]) (z_if (A := fun _ => True) (t_test (y_opE (x := .d (dN way)) (y := .d (.int 0)) (y_varE rfl) y_intE (rp_eqI ⟨_, rfl, trivial⟩))) (fun _ => z_set (y_slL (A := (· = .l ([(i + many - 1) % many, (i + 1) % many].map dN))) (B := (· = none)) (C := (· = some ((many - 1 : Nat) : Int))) ?_ (o_none rfl) (o_some (y_opE (x := .d (dN many)) (y := .d (.int 1)) (y_varE rfl) y_intE (rp_int ⟨_, rfl, congrArg some (by omega)⟩))) ?_)) fun _ => z_if (A := fun _ => True) (t_test (y_opE (x := .d (dN way)) (y := .d (.int 1)) (y_varE rfl) y_intE (rp_cmp ⟨_, rfl, trivial⟩))) (fun _ => z_set ?_) fun _ => z_next ⟨os, ol, oe, rfl⟩) ?_
    · refine y_lst (n := 2) (ap_consE (x := .d (dN ((i + many - 1) % many))) (y_opE (y_opE (x := .d (.int ((i : Int) + many))) (y := .d (.int 1)) (y_opE (x := .d (dN i)) (y := .d (dN many)) (y_varE rfl) (y_varE rfl) (rp_int rfl)) y_intE (rp_int rfl)) (y_varE rfl) (rp_intC (by omega) ?_)) (ap_consE (x := .d (dN ((i + 1) % many))) (y_opE (y_opE (x := .d (dN i)) (y := .d (.int 1)) (y_varE rfl) y_intE (rp_int rfl)) (y_varE rfl) (rp_intC (by omega) ?_)) (ap_nil ⟨[_, _], rfl, rfl, rfl⟩)))
      · show Dv.d (.int _) = Dv.d (.int _)
        congr 2
        rw [Int.natCast_emod]
        congr 1
        omega
      · show Dv.d (.int _) = Dv.d (.int _)
        congr 2
    · rintro x lo hi rfl rfl rfl
      refine ⟨_, rfl, [(i + many - 1) % many, (i + 1) % many].take (many - 1), ?_, ?_, ?_⟩
      · exact Nat.le_trans (List.length_take_le _ _) (by omega)
      · intro e he
        have he := List.mem_of_mem_take he
        simp only [List.mem_cons, List.not_mem_nil, or_false] at he
        rcases he with rfl | rfl <;> exact Nat.mod_lt _ (by omega)
      · rw [cut_take, List.map_take]
        rfl
    · refine y_filter (ns := os) (fun l ms => ms.Sublist l) (ip_list (y_var rfl ⟨_, .inr rfl, rfl⟩)) (by omega) (by show 6 < 7; decide) (.refl _) (fun n _ => t_test (y_op (A := fun x => ∃ r : Nat, x = .d (dN r)) (B := fun x => x = .d (.int 0)) (y_draw rfl y_intE (by decide) (by decide) fun r _ => ⟨r, rfl⟩) y_intE (by
        rintro _ _ ⟨r, rfl⟩ rfl
        refine rp_eqI ⟨_, rfl, fun l ms h => ?_⟩
        split
        · exact h.append (.refl _)
        · exact h.trans (List.sublist_append_left _ _)))) fun ms h => ⟨ms, ?_, fun e he => oe e (h.subset he), rfl⟩
      exact Nat.le_trans h.length_le ol
    rintro _ ⟨os, ol, oe, rfl⟩
    refine zm_app rfl (y_cb (A := fun xs => ∃ ms : List Nat, ms.length ≤ 6 ∧ (∀ e ∈ ms, e < many) ∧ xs = [.l (ms.map dN)]) (ap_cons (A := fun x => ∃ ms : List Nat, ms.length ≤ 6 ∧ (∀ e ∈ ms, e < many) ∧ x = .l (ms.map dN)) (y_slL (A := fun x => ∃ ms : List Nat, ms.Perm os ∧ x = .l (ms.map dN)) (B := (· = none)) (C := (· = some ((6 : Nat) : Int))) (y_call (A := fun xs => xs = [.v (.ref fa), .l (os.map dN)]) (ap_consE (y_varE rfl) (ap_consE (y_varE rfl) (ap_nil rfl))) (by
      rintro _ rfl
      exact sps_L ⟨_, os, rfl, by omega, rfl, fun ms h => ⟨ms, h, rfl⟩⟩)) (o_none rfl) (o_some (y_int ⟨_, rfl, rfl⟩)) ?_) (by rintro _ ⟨ms, a, b, rfl⟩; exact ap_nil ⟨ms, a, b, rfl⟩)) ?_)
    · rintro x lo hi ⟨ms, hp, rfl⟩ rfl rfl
      refine ⟨_, rfl, ms.take 6, List.length_take_le _ _, fun e he => oe e (hp.subset (List.mem_of_mem_take he)), ?_⟩
      rw [cut_take, List.map_take]
    · rintro _ ⟨ms, ml, me, rfl⟩
      refine cp_tup rfl ⟨by simp, fun y hy => ?_, rfl, _, .cons (.cons (.cons (.none (.none (.none (.none .nil)))))), rfl, d0f, rfl, eyes ++ [ms], ?_, ?_, ?_⟩
      · rcases List.mem_append.mp hy with z | z
        · exact .inl z
        · rw [List.mem_singleton.mp z]
          exact .inr (nl_Ns _)
      · rw [List.length_append, hl]
        rfl
      · intro l hm
        rcases List.mem_append.mp hm with z | z
        · exact hok l z
        · rw [List.mem_singleton.mp z]
          exact ⟨ml, me⟩
      · rw [List.map_append, List.map_append]
        rfl
  · rintro xs rfl
    rw [rng_len]
    omega
  · rintro xs d acc rfl hdl ⟨rfl, eyes, hl, hok, rfl⟩
    rw [rng_len] at hl
    exact ⟨eyes, hl, hok, rfl⟩
  obtain ⟨eyes, hl, hok, h3⟩ := hd
  exact z_ret (y_cb (A := fun xs => xs = [.l (eyes.map dNs)]) (ap_cons (y_varL h3 rfl) (by rintro _ rfl; exact ap_nil rfl)) (by rintro _ rfl; exact cp_tup rfl (hP eyes hl hok)))
end
end Sr

/-! Leaves, terms, claims. -/
namespace Sr
open PySem L2 PyProof.Rows
theorem atI_nat {α : Type} {es : List α} {r : Nat} (h : r < es.length) : atI es (r : Int) = some es[r] := by
  unfold atI ixN
  rw [if_pos (by omega), if_pos (by omega)]
  simp [h]
theorem sh_S (s : String) (h : PyData.strOk (Str.ofString s) = true) : Sh 0 (dS s) := ⟨by unfold dS; rw [PyData.canLay0]; exact h, by simp [dS, PyData.depth]⟩
theorem sh_cons {k : Nat} {x : PyData} {xs : List PyData} (h : Sh k x) (hs : ∀ y ∈ xs, Sh k y) : ∀ y ∈ x :: xs, Sh k y := fun y hy => (List.mem_cons.mp hy).elim (fun e => e ▸ h) (hs y)
theorem sh_nil {k : Nat} : ∀ y ∈ ([] : List PyData), Sh k y := fun y hy => by simp at hy
mutual
theorem sh_Tm : ∀ t : Tm, Sh (t.rk + 1) t.dat
  | .num k => sh_tup (sh_cons (sh_S _ (by decide +kernel)) (sh_cons (sh_int _) sh_nil))
  | .own b => sh_tup (sh_cons (sh_S _ (by decide +kernel)) (sh_cons (sh_N _) sh_nil))
  | .eye e b => sh_tup (sh_cons (sh_S _ (by decide +kernel)) (sh_cons (sh_N _) (sh_cons (sh_N _) sh_nil)))
  | .me => sh_tup (sh_cons (sh_S _ (by decide +kernel)) sh_nil)
  | .its b => sh_tup (sh_cons (sh_S _ (by decide +kernel)) (sh_cons (sh_N _) sh_nil))
  | .it => sh_tup (sh_cons (sh_S _ (by decide +kernel)) sh_nil)
  | .plus a b => sh_tup (sh_cons ((sh_S _ (by decide +kernel)).mono (Nat.zero_le _)) (sh_cons ((sh_Tm a).mono (by simp only [Tm.rk]; omega)) (sh_cons ((sh_Tm b).mono (by simp only [Tm.rk]; omega)) sh_nil)))
  | .less a b => sh_tup (sh_cons ((sh_S _ (by decide +kernel)).mono (Nat.zero_le _)) (sh_cons ((sh_Tm a).mono (by simp only [Tm.rk]; omega)) (sh_cons ((sh_Tm b).mono (by simp only [Tm.rk]; omega)) sh_nil)))
  | .rest a k => sh_tup (sh_cons ((sh_S _ (by decide +kernel)).mono (Nat.zero_le _)) (sh_cons ((sh_Tm a).mono (by simp only [Tm.rk]; omega)) (sh_cons ((sh_int _).mono (Nat.zero_le _)) sh_nil)))
  | .least a => sh_tup (sh_cons ((sh_S _ (by decide +kernel)).mono (Nat.zero_le _)) (sh_cons ((sh_Tm a).mono (by simp only [Tm.rk]; omega)) sh_nil))
  | .most a => sh_tup (sh_cons ((sh_S _ (by decide +kernel)).mono (Nat.zero_le _)) (sh_cons ((sh_Tm a).mono (by simp only [Tm.rk]; omega)) sh_nil))
  | .many c => sh_tup (sh_cons ((sh_S _ (by decide +kernel)).mono (Nat.zero_le _)) (sh_cons ((sh_Cl c).mono (by simp only [Tm.rk]; omega)) sh_nil))
  | .ite c a b => sh_tup (sh_cons ((sh_S _ (by decide +kernel)).mono (Nat.zero_le _)) (sh_cons ((sh_Cl c).mono (by simp only [Tm.rk]; omega)) (sh_cons ((sh_Tm a).mono (by simp only [Tm.rk]; omega)) (sh_cons ((sh_Tm b).mono (by simp only [Tm.rk]; omega)) sh_nil))))
theorem sh_Cl : ∀ c : Cl, Sh (c.rk + 1) c.dat
  | .yes => sh_tup (sh_cons (sh_S _ (by decide +kernel)) sh_nil)
  | .like a b => sh_tup (sh_cons ((sh_S _ (by decide +kernel)).mono (Nat.zero_le _)) (sh_cons ((sh_Tm a).mono (by simp only [Cl.rk]; omega)) (sh_cons ((sh_Tm b).mono (by simp only [Cl.rk]; omega)) sh_nil)))
  | .bel a b => sh_tup (sh_cons ((sh_S _ (by decide +kernel)).mono (Nat.zero_le _)) (sh_cons ((sh_Tm a).mono (by simp only [Cl.rk]; omega)) (sh_cons ((sh_Tm b).mono (by simp only [Cl.rk]; omega)) sh_nil)))
  | .not c => sh_tup (sh_cons ((sh_S _ (by decide +kernel)).mono (Nat.zero_le _)) (sh_cons ((sh_Cl c).mono (by simp only [Cl.rk]; omega)) sh_nil))
  | .and a b => sh_tup (sh_cons ((sh_S _ (by decide +kernel)).mono (Nat.zero_le _)) (sh_cons ((sh_Cl a).mono (by simp only [Cl.rk]; omega)) (sh_cons ((sh_Cl b).mono (by simp only [Cl.rk]; omega)) sh_nil)))
  | .or a b => sh_tup (sh_cons ((sh_S _ (by decide +kernel)).mono (Nat.zero_le _)) (sh_cons ((sh_Cl a).mono (by simp only [Cl.rk]; omega)) (sh_cons ((sh_Cl b).mono (by simp only [Cl.rk]; omega)) sh_nil)))
end
/-- a term that may stand, of rank at most k -/
def TmK (nb : Nat) (inn : Bool) (k : Nat) (x : Dv) : Prop := ∃ t : Tm, x = .d t.dat ∧ t.Ok nb inn ∧ t.rk ≤ k
def ClK (nb : Nat) (inn : Bool) (k : Nat) (x : Dv) : Prop := ∃ t : Cl, x = .d t.dat ∧ t.Ok nb inn ∧ t.rk ≤ k
section
variable {p : Program} {w : World} {K : PySem.W.Frag} {mg : Str → Option Value} {base : Heap}
def preLeaf : PreL := fun xs P => ∃ (sizes : List Int) (inn : Bool), sizes ≠ [] ∧ sizes.length ≤ 3 ∧ xs = [.d (dIs sizes), .d (.bool inn)] ∧ ∀ x, TmK sizes.length inn 0 x → P x
/-- some terms -/
def TmsK (nb : Nat) (inn : Bool) (x : Dv) : Prop := ∃ ts : List Tm, x = .l (ts.map Tm.dat) ∧ ts ≠ [] ∧ ts.length ≤ 9 ∧ ∀ t ∈ ts, t.Ok nb inn ∧ t.rk ≤ 0
theorem ok_leaf {f : Addr} {fd : FuncData} (F : Fun K "_law_leaf" "_law_leaf" s_law_leaf f fd) (B : Blt mg) (c_law_draw : c_drawT p w K mg base) : FnOk p w K mg base CX0 2 f fd ["_law_feed_here", "_law_sizes", "_law_inner"] (spL K preLeaf) := by
  refine ok_L F sc_law_leaf (fun xs P h => ?_) fun cdv A outer s H E hr => ⟨_, (pss_cons (ps_set (i := 3) sc_law_leaf.nd rfl (.inl rfl) (pe_cal c_law_draw (hr.mono (by omega)) (by rfl) (pa_cons (pv 0) (pa_cons (pe_callB call_len_seq (by rfl) B.len PySem.boot_len (pa_cons (pv 1) pa_nil)) pa_nil)))) (pss_cons (ps_set (i := 4) sc_law_leaf.nd rfl (.inl rfl) (pe_lst (pa_cons (pe_tup (pa_cons pe_str (pa_cons (pe_cal c_law_draw (hr.mono (by omega)) (by rfl) (pa_cons (pv 0) (pa_cons pe_int pa_nil))) pa_nil))) (pa_cons (pe_tup (pa_cons pe_str (pa_cons (pv 3) pa_nil))) (pa_cons (pe_tup (pa_cons pe_str (pa_cons (pv 3) pa_nil))) (pa_cons (pe_tup (pa_cons pe_str (pa_cons (pe_cal c_law_draw (hr.mono (by omega)) (by rfl) (pa_cons (pv 0) (pa_cons pe_int pa_nil))) (pa_cons (pv 3) pa_nil)))) (pa_cons (pe_tup (pa_cons pe_str pa_nil)) pa_nil))))))) (pss_cons (ps_if (pt_val (pv 2)) (pss_one (ps_set (i := 4) sc_law_leaf.nd rfl (.inl rfl) (pe_op op_cat (pv 4) (pe_lst (pa_cons (pe_tup (pa_cons pe_str (pa_cons (pv 3) pa_nil))) (pa_cons (pe_tup (pa_cons pe_str (pa_cons (pv 3) pa_nil))) (pa_cons (pe_tup (pa_cons pe_str (pa_cons (pv 3) pa_nil))) (pa_cons (pe_tup (pa_cons pe_str pa_nil)) pa_nil)))))))) pss_nil) (pss_one (ps_ret (pe_ix ix_list (pv 4) (pe_cal c_law_draw (hr.mono (by omega)) (by rfl) (pa_cons (pv 0) (pa_cons (pe_callB call_len_seq (by rfl) B.len PySem.boot_len (pa_cons (pv 4) pa_nil)) pa_nil))) (fun _ _ => rfl))))))), fun fa ca cells xs P h => ?_⟩
  · obtain ⟨sizes, inn, _, _, rfl, _⟩ := h
    rfl
  obtain ⟨sizes, inn, hne, h3, rfl, hP⟩ := h
  have hl0 : 0 < sizes.length := List.length_pos_iff.mpr hne
  have num : ∀ ds : Fm, ds[0]? = some (some (.v (.ref fa))) → ∀ n : Int, 0 < n → n < 100 → Yp K (WL fa ca cells) (tCall spDraw [] E0 (tCons (tVar 0) (tCons (tC (.int n)) tNil))) ds (fun x => ∃ r : Nat, x = .d (dN r)) := fun ds h n h0 h1 => y_draw h y_intE h0 (by omega) fun r _ => ⟨r, rfl⟩
  refine z_seq (M := fun d => ∃ b : Nat, b < sizes.length ∧ d = [some (.v (.ref fa)), some (.d (dIs sizes)), some (.d (.bool inn)), some (.d (dN b)), none]) (z_set (y_draw (n := (sizes.length : Int)) rfl (y_cb (A := fun xs => xs = [.d (dIs sizes)]) (ap_consE (y_varE rfl) (ap_nil rfl)) (by
    rintro _ rfl
    refine cp_len rfl ?_
    rw [List.length_map])) (by omega) (by omega) fun r hr => ⟨r, by omega, rfl⟩)) ?_
  rintro _ ⟨b, hb, rfl⟩
  have own : ∀ (s : String) (ds : Fm), ds[3]? = some (some (.d (dN b))) → Yp K (WL fa ca cells) (tTup (tCons (tC (.str (Str.ofString s))) (tCons (tVar 3) tNil))) ds (· = .d (.tuple [dS s, dN b])) := fun s ds h => y_tup (n := 2) (ap_consE y_strE (ap_consE (y_varE h) (ap_nil ⟨[dS s, dN b], rfl, rfl, rfl⟩)))
  have one : ∀ (s : String) (ds : Fm), Yp K (WL fa ca cells) (tTup (tCons (tC (.str (Str.ofString s))) tNil)) ds (· = .d (.tuple [dS s])) := fun s ds => y_tup (n := 1) (ap_consE y_strE (ap_nil ⟨[dS s], rfl, rfl, rfl⟩))
  have hnum : ∀ ds : Fm, ds[0]? = some (some (.v (.ref fa))) → Yp K (WL fa ca cells) (tTup (tCons (tC (.str "num")) (tCons (tCall spDraw [] E0 (tCons (tVar 0) (tCons (tC (.int 4)) tNil))) tNil))) ds (fun x => ∃ r : Nat, x = .d (.tuple [dS "num", dN r])) := fun ds h => by
    refine y_tup (n := 2) (ap_consE y_strE (ap_cons (num ds h 4 (by decide) (by decide)) ?_))
    rintro _ ⟨r, rfl⟩
    exact ap_nil ⟨[dS "num", dN r], rfl, rfl, r, rfl⟩
  have heye : ∀ ds : Fm, ds[0]? = some (some (.v (.ref fa))) → ds[3]? = some (some (.d (dN b))) → Yp K (WL fa ca cells) (tTup (tCons (tC (.str "eye")) (tCons (tCall spDraw [] E0 (tCons (tVar 0) (tCons (tC (.int 3)) tNil))) (tCons (tVar 3) tNil)))) ds (fun x => ∃ r : Nat, x = .d (.tuple [dS "eye", dN r, dN b])) := fun ds h h3 => by
    refine y_tup (n := 3) (ap_consE y_strE (ap_cons (num ds h 3 (by decide) (by decide)) ?_))
    rintro _ ⟨r, rfl⟩
    exact ap_consE (y_varE h3) (ap_nil ⟨[dS "eye", dN r, dN b], rfl, rfl, r, rfl⟩)
  refine z_seq (M := fun d => ∃ ts : List Tm, ts.length = 5 ∧ (∀ t ∈ ts, t.Ok sizes.length inn ∧ t.rk ≤ 0) ∧ d = [some (.v (.ref fa)), some (.d (dIs sizes)), some (.d (.bool inn)), some (.d (dN b)), some (.l (ts.map Tm.dat))]) (z_set (y_lst (n := 5) ?_)) ?_
  · refine ap_cons (hnum _ rfl) ?_
    rintro _ ⟨r, rfl⟩
    refine ap_consE (own "own" _ rfl) (ap_consE (own "own" _ rfl) (ap_cons (heye _ rfl rfl) ?_))
    rintro _ ⟨e, rfl⟩
    refine ap_consE (one "me" _) (ap_nil ⟨([.num (r : Int), .own b, .own b, .eye e b, .me] : List Tm).map Tm.dat, rfl, rfl, [.num (r : Int), .own b, .own b, .eye e b, .me], rfl, ?_, rfl⟩)
    simp [Tm.Ok, Tm.rk, hb]
  rintro _ ⟨ts, hl5, hts, rfl⟩
  refine z_seq (M := fun d => ∃ x, TmsK sizes.length inn x ∧ d = [some (.v (.ref fa)), some (.d (dIs sizes)), some (.d (.bool inn)), some (.d (dN b)), some x]) (z_if (A := fun c => c = inn) (t_B (y_var (x := .d (.bool inn)) rfl ⟨inn, rfl, rfl⟩)) (fun hc => ?_) fun _ => z_next ⟨_, ⟨ts, rfl, fun z => (by rw [z] at hl5; simp at hl5), by omega, hts⟩, rfl⟩) ?_
  · subst hc
    refine z_set (y_opE (x := .l (ts.map Tm.dat)) (y := .l (([.its b, .its b, .its b, .it] : List Tm).map Tm.dat)) (y_varE rfl) (y_lst (n := 4) (ap_consE (own "its" _ rfl) (ap_consE (own "its" _ rfl) (ap_consE (own "its" _ rfl) (ap_consE (one "it" _) (ap_nil ⟨_, rfl, rfl, rfl⟩)))))) (rp_cat (by rw [List.length_map, List.length_map]; simp; omega) ⟨_, ⟨ts ++ [.its b, .its b, .its b, .it], by rw [List.map_append], ?_, ?_, ?_⟩, rfl⟩))
    · simp
    · simp
      omega
    · intro t ht
      rcases List.mem_append.mp ht with z | z
      · exact hts t z
      · simp only [List.mem_cons, List.not_mem_nil, or_false] at z
        rcases z with rfl | rfl | rfl | rfl <;> simp [Tm.Ok, Tm.rk, hb]
  rintro _ ⟨x, ⟨ts, rfl, h1, h2, h4⟩, rfl⟩
  have lp : 0 < ts.length := List.length_pos_iff.mpr h1
  refine z_ret (y_op (A := (· = .l (ts.map Tm.dat))) (B := fun x => ∃ r : Nat, r < ts.length ∧ x = .d (dN r)) (y_varE rfl) (y_draw (n := (ts.length : Int)) rfl (y_cb (A := fun xs => xs = [.l (ts.map Tm.dat)]) (ap_consE (y_varE rfl) (ap_nil rfl)) (by
    rintro _ rfl
    refine cp_len rfl ?_
    rw [List.length_map])) (by omega) (by omega) fun r hr => ⟨r, by omega, rfl⟩) ?_)
  rintro _ _ rfl ⟨r, hr, rfl⟩
  have he : atI (ts.map Tm.dat) (r : Int) = some ts[r].dat := by
    rw [atI_nat (by rw [List.length_map]; exact hr)]
    simp
  exact rp_ixL rfl he (hP _ ⟨ts[r], rfl, h4 _ (List.getElem_mem hr)⟩)
end
end Sr

/-! Terms and claims that are drawn. -/
namespace Sr
open PySem L2 PyProof.Rows
section
variable {p : Program} {w : World} {K : PySem.W.Frag} {mg : Str → Option Value} {base : Heap}
def preTe (m : Nat) : PreL := fun xs P => ∃ (sizes : List Int) (deep : Nat) (inn : Bool), deep < m ∧ sizes ≠ [] ∧ sizes.length ≤ 3 ∧ xs = [.d (dIs sizes), .d (dN deep), .d (.bool inn)] ∧ ∀ x, TmK sizes.length inn (2 * deep) x → P x
def preCl (m : Nat) : PreL := fun xs P => ∃ (sizes : List Int) (deep : Nat) (inn : Bool), deep < m ∧ sizes ≠ [] ∧ sizes.length ≤ 3 ∧ xs = [.d (dIs sizes), .d (dN deep), .d (.bool inn)] ∧ ∀ x, ClK sizes.length inn (2 * deep + 1) x → P x
theorem none_Te {f : Addr} {fd : FuncData} {k : Nat} : FnOk p w K mg base CX0 k f fd ["_law_feed_here", "_law_sizes", "_law_deep", "_law_inner"] (spL K (preTe 0)) := by
  have no : ∀ vs H Q E, ¬ spL K (preTe 0) vs H Q E := fun vs H Q E h => by
    obtain ⟨fa, ca, cells, xs, P, _, _, ⟨sizes, deep, inn, r, _⟩, _⟩ := h
    omega
  exact ⟨fun vs H Q E h => (no vs H Q E h).elim, fun A outer s H args us vs Q E _ _ _ _ h => (no vs H Q E h).elim⟩
theorem none_Cl {f : Addr} {fd : FuncData} {k : Nat} : FnOk p w K mg base CX0 k f fd ["_law_feed_here", "_law_sizes", "_law_deep", "_law_inner"] (spL K (preCl 0)) := by
  have no : ∀ vs H Q E, ¬ spL K (preCl 0) vs H Q E := fun vs H Q E h => by
    obtain ⟨fa, ca, cells, xs, P, _, _, ⟨sizes, deep, inn, r, _⟩, _⟩ := h
    omega
  exact ⟨fun vs H Q E h => (no vs H Q E h).elim, fun A outer s H args us vs Q E _ _ _ _ h => (no vs H Q E h).elim⟩
section
variable {fa ca : Addr} {cells : List Int} {ds : Fm} {sizes : List Int} {inn : Bool} {deep m : Nat} {ti tb : TE}
theorem y_te (hne : sizes ≠ []) (h3 : sizes.length ≤ 3) (hd : deep < m) (h0 : ds[0]? = some (some (.v (.ref fa)))) (h1 : ds[1]? = some (some (.d (dIs sizes)))) (hi : Yp K (WL fa ca cells) ti ds (· = .d (dN deep))) (hb : Yp K (WL fa ca cells) tb ds (· = .d (.bool inn))) :
    Yp K (WL fa ca cells) (tCall (spL K (preTe m)) [] E0 (tCons (tVar 0) (tCons (tVar 1) (tCons ti (tCons tb tNil))))) ds (TmK sizes.length inn (2 * deep)) :=
  y_call (A := fun xs => xs = [.v (.ref fa), .d (dIs sizes), .d (dN deep), .d (.bool inn)]) (ap_consE (y_varE h0) (ap_consE (y_varE h1) (ap_consE hi (ap_consE hb (ap_nil rfl))))) (by rintro _ rfl; exact sps_L ⟨sizes, deep, inn, hd, hne, h3, rfl, fun _ h => h⟩)
theorem y_cl (hne : sizes ≠ []) (h3 : sizes.length ≤ 3) (hd : deep < m) (h0 : ds[0]? = some (some (.v (.ref fa)))) (h1 : ds[1]? = some (some (.d (dIs sizes)))) (hi : Yp K (WL fa ca cells) ti ds (· = .d (dN deep))) (hb : Yp K (WL fa ca cells) tb ds (· = .d (.bool inn))) :
    Yp K (WL fa ca cells) (tCall (spL K (preCl m)) [] E0 (tCons (tVar 0) (tCons (tVar 1) (tCons ti (tCons tb tNil))))) ds (ClK sizes.length inn (2 * deep + 1)) :=
  y_call (A := fun xs => xs = [.v (.ref fa), .d (dIs sizes), .d (dN deep), .d (.bool inn)]) (ap_consE (y_varE h0) (ap_consE (y_varE h1) (ap_consE hi (ap_consE hb (ap_nil rfl))))) (by rintro _ rfl; exact sps_L ⟨sizes, deep, inn, hd, hne, h3, rfl, fun _ h => h⟩)
theorem y_less {W : Wd} {i : Nat} (h : ds[i]? = some (some (.d (dN (deep + 1))))) : Yp K W (tOp (rI0 fun i j => .int (i - j)) (tVar i) (tC (.int 1))) ds (· = .d (dN deep)) :=
  y_opE (x := .d (dN (deep + 1))) (y := .d (.int 1)) (y_varE h) y_intE (rp_int (by
    show Dv.d (.int _) = Dv.d (.int _)
    congr 2
    omega))
theorem y_yes {W : Wd} {b : Bool} : Yp K W (tC (.bl b)) ds (· = .d (.bool b)) := y_bl rfl
/-- one of two words by a draw's parity -/
theorem y_word {W : Wd} {i : Nat} {r : Nat} {a b : String} (h : ds[i]? = some (some (.d (dN r)))) : Yp K W (tOp (rIxL K) (tLst (tCons (tC (.str (Str.ofString a))) (tCons (tC (.str (Str.ofString b))) tNil))) (tOp (rI (fun _ j => 0 < j) fun i j => .int (i % j)) (tVar i) (tC (.int 2)))) ds (fun x => x = .d (dS a) ∨ x = .d (dS b)) := by
  refine y_opE (x := .l [dS a, dS b]) (y := .d (dN (r % 2))) (y_lst (n := 2) (ap_consE y_strE (ap_consE y_strE (ap_nil ⟨[dS a, dS b], rfl, rfl, rfl⟩)))) (y_opE (x := .d (dN r)) (y := .d (.int 2)) (y_varE h) y_intE (rp_intC (by decide) ?_)) ?_
  · show Dv.d (.int _) = Dv.d (.int _)
    congr 2
  · rcases Nat.mod_two_eq_zero_or_one r with e | e <;> rw [e]
    · exact rp_ixL (i := ((0 : Nat) : Int)) rfl (atI_nat (by show 0 < 2; decide)) (.inl rfl)
    · exact rp_ixL (i := ((1 : Nat) : Int)) rfl (atI_nat (by show 1 < 2; decide)) (.inr rfl)
end
theorem ok_term {m : Nat} {f : Addr} {fd : FuncData} (F : Fun K "_law_term" "_law_term" s_law_term f fd) (B : Blt mg) (c_law_draw : c_drawT p w K mg base) (c_law_leaf : Cal p w K mg base "_law_leaf" 2 ["_law_feed_here", "_law_sizes", "_law_inner"] (spL K preLeaf))
    (c_law_term : Cal p w K mg base "_law_term" (3 + 2 * m) ["_law_feed_here", "_law_sizes", "_law_deep", "_law_inner"] (spL K (preTe m))) (c_law_claim : Cal p w K mg base "_law_claim" (3 + 2 * m) ["_law_feed_here", "_law_sizes", "_law_deep", "_law_inner"] (spL K (preCl m))) :
    FnOk p w K mg base CX0 (3 + 2 * m + 1) f fd ["_law_feed_here", "_law_sizes", "_law_deep", "_law_inner"] (spL K (preTe (m + 1))) := by
  refine ok_L F sc_law_term (fun xs P h => ?_) fun cdv A outer s H E hr => ⟨_, (pss_cons (ps_set (i := 4) sc_law_term.nd rfl (.inl rfl) (pe_cal c_law_draw (hr.mono (by omega)) (by rfl) (pa_cons (pv 0) (pa_cons pe_int pa_nil)))) (pss_cons (ps_if (PW.pt (pw_or (pt_cmpR  op_eq (pv 2) pe_int (nomark _)) (pw_or (pt_cmpR  op_lt (pv 4) pe_int (nomark _)) (pw_or1 (PW.pt (pw_and (pt_cmpR  op_gt (pv 4) pe_int (nomark _)) (pw_and1 (pt_val (pv 3))))))))) (pss_one (ps_ret (pe_cal c_law_leaf (hr.mono (by omega)) (by rfl) (pa_cons (pv 0) (pa_cons (pv 1) (pa_cons (pv 3) pa_nil)))))) pss_nil) (pss_cons (ps_if (pt_cmpR  op_gt (pv 4) pe_int (nomark _)) (pss_cons (ps_set (i := 5) sc_law_term.nd rfl (.inl rfl) (pe_ix ix_list (pe_lst (pa_cons pe_str (pa_cons pe_str (pa_cons pe_str pa_nil)))) (pe_cal c_law_draw (hr.mono (by omega)) (by rfl) (pa_cons (pv 0) (pa_cons pe_int pa_nil))) (fun _ _ => rfl))) (pss_cons (ps_if (pt_cmpR  op_eq (pv 5) pe_str (nomark _)) (pss_one (ps_ret (pe_tup (pa_cons (pv 5) (pa_cons (pe_cal c_law_claim (hr.mono (by omega)) (by rfl) (pa_cons (pv 0) (pa_cons (pv 1) (pa_cons (pe_op op_sub (pv 2) pe_int) (pa_cons pe_bl pa_nil))))) pa_nil))))) pss_nil) (pss_one (ps_ret (pe_tup (pa_cons (pv 5) (pa_cons (pe_cal c_law_term (hr.mono (by omega)) (by rfl) (pa_cons (pv 0) (pa_cons (pv 1) (pa_cons (pe_op op_sub (pv 2) pe_int) (pa_cons pe_bl pa_nil))))) pa_nil))))))) pss_nil) (pss_cons (ps_set (i := 6) sc_law_term.nd rfl (.inl rfl) (pe_cal c_law_term (hr.mono (by omega)) (by rfl) (pa_cons (pv 0) (pa_cons (pv 1) (pa_cons (pe_op op_sub (pv 2) pe_int) (pa_cons (pv 3) pa_nil)))))) (pss_cons (ps_if (pt_cmpR  op_eq (pv 4) pe_int (nomark _)) (pss_one (ps_ret (pe_tup (pa_cons pe_str (pa_cons (pv 6) (pa_cons (pe_op op_add pe_int (pe_cal c_law_draw (hr.mono (by omega)) (by rfl) (pa_cons (pv 0) (pa_cons pe_int pa_nil)))) pa_nil)))))) pss_nil) (pss_cons (ps_set (i := 7) sc_law_term.nd rfl (.inl rfl) (pe_cal c_law_term (hr.mono (by omega)) (by rfl) (pa_cons (pv 0) (pa_cons (pv 1) (pa_cons (pe_op op_sub (pv 2) pe_int) (pa_cons (pv 3) pa_nil)))))) (pss_cons (ps_if (pt_cmpR  op_eq (pv 4) pe_int (nomark _)) (pss_one (ps_ret (pe_tup (pa_cons pe_str (pa_cons (pe_cal c_law_claim (hr.mono (by omega)) (by rfl) (pa_cons (pv 0) (pa_cons (pv 1) (pa_cons (pe_op op_sub (pv 2) pe_int) (pa_cons (pv 3) pa_nil))))) (pa_cons (pv 6) (pa_cons (pv 7) pa_nil))))))) pss_nil) (pss_one (ps_ret (pe_tup (pa_cons (pe_ix ix_list (pe_lst (pa_cons pe_str (pa_cons pe_str pa_nil))) (pe_op op_mod (pv 4) pe_int) (fun _ _ => rfl)) (pa_cons (pv 6) (pa_cons (pv 7) pa_nil))))))))))))), fun fa ca cells xs P h => ?_⟩
  · obtain ⟨sizes, deep, inn, _, _, _, rfl, _⟩ := h
    rfl
  obtain ⟨sizes, deep, inn, hd, hne, h3, rfl, hP⟩ := h
  refine z_seq (M := fun d => ∃ r : Nat, d = [some (.v (.ref fa)), some (.d (dIs sizes)), some (.d (dN deep)), some (.d (.bool inn)), some (.d (dN r)), none, none, none]) (z_set (y_draw rfl y_intE (by decide) (by decide) fun r _ => ⟨r, rfl⟩)) ?_
  rintro _ ⟨way, rfl⟩
  refine z_seq (M := fun d => 0 < deep ∧ (9 < way → inn = false) ∧ d = [some (.v (.ref fa)), some (.d (dIs sizes)), some (.d (dN deep)), some (.d (.bool inn)), some (.d (dN way)), none, none, none]) (z_if (A := fun b => b = false → 0 < deep ∧ (9 < way → inn = false))
    (t_or (A := fun b => b = false → 0 < deep) (t_test (y_opE (x := .d (dN deep)) (y := .d (.int 0)) (y_varE rfl) y_intE (rp_eqI ⟨_, rfl, fun e => ?_⟩))) (fun h0 => t_or (A := fun _ => True) (t_test (y_opE (x := .d (dN way)) (y := .d (.int 4)) (y_varE rfl) y_intE (rp_cmp ⟨_, rfl, trivial⟩))) (fun _ => t_and (A := fun b => b = false → ¬ 9 < way) (t_test (y_opE (x := .d (dN way)) (y := .d (.int 9)) (y_varE rfl) y_intE (rp_cmp ⟨_, rfl, fun e => ?_⟩)))
      (fun _ => t_B (y_var (x := .d (.bool inn)) rfl ⟨inn, rfl, fun e => ⟨h0 rfl, fun _ => e⟩⟩)) fun h _ => ⟨h0 rfl, fun h9 => absurd h9 (h rfl)⟩) fun _ h => nomatch h) fun _ h => nomatch h)
    (fun _ => z_ret (y_call (A := fun xs => xs = [.v (.ref fa), .d (dIs sizes), .d (.bool inn)]) (ap_consE (y_varE rfl) (ap_consE (y_varE rfl) (ap_consE (y_varE rfl) (ap_nil rfl)))) (by rintro _ rfl; exact sps_L ⟨sizes, inn, hne, h3, rfl, fun x ⟨t, e, ok, rk⟩ => hP x ⟨t, e, ok, by omega⟩⟩))) fun h => z_next ⟨(h rfl).1, (h rfl).2, rfl⟩) ?_
  · have e2 := of_decide_eq_false e
    omega
  · have e2 := of_decide_eq_false e
    omega
  rintro _ ⟨h0, hi9, rfl⟩
  obtain ⟨dp, rfl⟩ : ∃ dp, deep = dp + 1 := ⟨deep - 1, by omega⟩
  have hdm : dp < m := by omega
  refine z_seq (M := fun d => d = [some (.v (.ref fa)), some (.d (dIs sizes)), some (.d (dN (dp + 1))), some (.d (.bool inn)), some (.d (dN way)), none, none, none]) (z_if (A := fun b => b = true → 9 < way) (t_test (y_opE (x := .d (dN way)) (y := .d (.int 9)) (y_varE rfl) y_intE (rp_cmp ⟨_, rfl, fun e => ?_⟩))) (fun h => ?_) fun _ => z_next rfl) ?_
  · have e2 := of_decide_eq_true e
    omega
  · obtain rfl := hi9 (h rfl)
    refine z_seq (M := fun d => ∃ w : String, (w = "least" ∨ w = "most" ∨ w = "many") ∧ d = [some (.v (.ref fa)), some (.d (dIs sizes)), some (.d (dN (dp + 1))), some (.d (.bool false)), some (.d (dN way)), some (.d (dS w)), none, none]) (z_set (y_op (A := (· = .l [dS "least", dS "most", dS "many"])) (B := fun x => ∃ r : Nat, r < 3 ∧ x = .d (dN r)) (y_lst (n := 3) (ap_consE y_strE (ap_consE y_strE (ap_consE y_strE (ap_nil ⟨[dS "least", dS "most", dS "many"], rfl, rfl, rfl⟩))))) (y_draw rfl y_intE (by decide) (by decide) fun r hr => ⟨r, by omega, rfl⟩) ?_)) ?_
    · rintro _ _ rfl ⟨r, hr, rfl⟩
      refine rp_ixL (i := ((r : Nat) : Int)) rfl (atI_nat (by exact hr)) ?_
      match r, hr with
      | 0, _ => exact ⟨"least", .inl rfl, rfl⟩
      | 1, _ => exact ⟨"most", .inr (.inl rfl), rfl⟩
      | 2, _ => exact ⟨"many", .inr (.inr rfl), rfl⟩
    rintro _ ⟨w, hw, rfl⟩
    have last : ∀ (w : String) (C : Tm → Tm), (∀ t : Tm, (C t).dat = .tuple [dS w, t.dat] ∧ ((C t).Ok sizes.length false ↔ t.Ok sizes.length true) ∧ (C t).rk = t.rk + 1) → Zp K (WL fa ca cells) (tRet (tTup (tCons (tVar 5) (tCons (tCall (spL K (preTe m)) [] E0 (tCons (tVar 0) (tCons (tVar 1) (tCons (tOp (rI0 fun i j => .int (i - j)) (tVar 2) (tC (.int 1))) (tCons (tC (.bl true)) tNil))))) tNil))))
        [some (.v (.ref fa)), some (.d (dIs sizes)), some (.d (dN (dp + 1))), some (.d (.bool false)), some (.d (dN way)), some (.d (dS w)), none, none] (fun d => d = [some (.v (.ref fa)), some (.d (dIs sizes)), some (.d (dN (dp + 1))), some (.d (.bool false)), some (.d (dN way)), none, none, none]) P := fun w C hC => by
      refine z_ret (y_tup (n := 2) (ap_consE (y_varE rfl) (ap_cons (y_te hne h3 hdm rfl rfl (y_less rfl) y_yes) ?_)))
      rintro _ ⟨t, rfl, ok, rk⟩
      obtain ⟨e1, e2, e3⟩ := hC t
      exact ap_nil ⟨[dS w, t.dat], rfl, rfl, hP _ ⟨C t, by rw [e1], e2.mpr ok, by rw [e3]; omega⟩⟩
    rcases hw with rfl | rfl | rfl
    · exact z_miss rfl (by decide +kernel) (last "least" .least fun t => ⟨rfl, by rw [Tm.Ok], rfl⟩)
    · exact z_miss rfl (by decide +kernel) (last "most" .most fun t => ⟨rfl, by rw [Tm.Ok], rfl⟩)
    · refine z_hit rfl rfl (z_ret (y_tup (n := 2) (ap_consE (y_varE rfl) (ap_cons (y_cl hne h3 hdm rfl rfl (y_less rfl) y_yes) ?_))))
      rintro _ ⟨c, rfl, ok, rk⟩
      exact ap_nil ⟨[dS "many", c.dat], rfl, rfl, hP _ ⟨.many c, rfl, ok, by rw [Tm.rk]; omega⟩⟩
  rintro _ rfl
  refine z_seq (M := fun d => ∃ a : Tm, a.Ok sizes.length inn ∧ a.rk ≤ 2 * dp ∧ d = [some (.v (.ref fa)), some (.d (dIs sizes)), some (.d (dN (dp + 1))), some (.d (.bool inn)), some (.d (dN way)), none, some (.d a.dat), none]) (z_set (y_mono (y_te (inn := inn) hne h3 hdm rfl rfl (y_less rfl) (y_varE rfl)) (by rintro _ ⟨t, rfl, a, b⟩; exact ⟨t, a, b, rfl⟩))) ?_
  rintro _ ⟨a, aok, ark, rfl⟩
  refine z_seq (M := fun d => d = _) (z_if (A := fun _ => True) (t_test (y_opE (x := .d (dN way)) (y := .d (.int 4)) (y_varE rfl) y_intE (rp_eqI ⟨_, rfl, trivial⟩))) (fun _ => z_ret (y_tup (n := 3) (ap_consE y_strE (ap_consE (y_varE rfl) (ap_cons (A := fun x => ∃ k : Int, 0 < k ∧ x = .d (.int k)) (y_op (A := (· = .d (.int 1))) (B := fun x => ∃ r : Nat, x = .d (dN r)) y_intE (y_draw rfl y_intE (by decide) (by decide) fun r _ => ⟨r, rfl⟩) ?_) ?_))))) fun _ => z_next rfl) ?_
  · rintro _ _ rfl ⟨r, rfl⟩
    exact rp_int ⟨_, by omega, rfl⟩
  · rintro _ ⟨k, hk, rfl⟩
    exact ap_nil ⟨[dS "rest", a.dat, .int k], rfl, rfl, hP _ ⟨.rest a k, rfl, ⟨aok, hk⟩, by rw [Tm.rk]; omega⟩⟩
  rintro _ rfl
  refine z_seq (M := fun d => ∃ b : Tm, b.Ok sizes.length inn ∧ b.rk ≤ 2 * dp ∧ d = [some (.v (.ref fa)), some (.d (dIs sizes)), some (.d (dN (dp + 1))), some (.d (.bool inn)), some (.d (dN way)), none, some (.d a.dat), some (.d b.dat)]) (z_set (y_mono (y_te (inn := inn) hne h3 hdm rfl rfl (y_less rfl) (y_varE rfl)) (by rintro _ ⟨t, rfl, a, b⟩; exact ⟨t, a, b, rfl⟩))) ?_
  rintro _ ⟨b, bok, brk, rfl⟩
  refine z_seq (M := fun d => d = _) (z_if (A := fun _ => True) (t_test (y_opE (x := .d (dN way)) (y := .d (.int 5)) (y_varE rfl) y_intE (rp_eqI ⟨_, rfl, trivial⟩))) (fun _ => z_ret (y_tup (n := 4) (ap_consE y_strE (ap_cons (y_cl (inn := inn) hne h3 hdm rfl rfl (y_less rfl) (y_varE rfl)) ?_)))) fun _ => z_next rfl) ?_
  · rintro _ ⟨c, rfl, cok, crk⟩
    exact ap_consE (y_varE rfl) (ap_consE (y_varE rfl) (ap_nil ⟨[dS "if", c.dat, a.dat, b.dat], rfl, rfl, hP _ ⟨.ite c a b, rfl, ⟨cok, aok, bok⟩, by rw [Tm.rk]; omega⟩⟩))
  rintro _ rfl
  refine z_ret (y_tup (n := 3) (ap_cons (y_word (a := "plus") (b := "less") (r := way) rfl) ?_))
  rintro _ (rfl | rfl)
  · exact ap_consE (y_varE rfl) (ap_consE (y_varE rfl) (ap_nil ⟨[dS "plus", a.dat, b.dat], rfl, rfl, hP _ ⟨.plus a b, rfl, ⟨aok, bok⟩, by rw [Tm.rk]; omega⟩⟩))
  · exact ap_consE (y_varE rfl) (ap_consE (y_varE rfl) (ap_nil ⟨[dS "less", a.dat, b.dat], rfl, rfl, hP _ ⟨.less a b, rfl, ⟨aok, bok⟩, by rw [Tm.rk]; omega⟩⟩))
end
end Sr

/-! Claims, rules. -/
namespace Sr
open PySem L2 PyProof.Rows
section
variable {p : Program} {w : World} {K : PySem.W.Frag} {mg : Str → Option Value} {base : Heap}
theorem y_maxl {W : Wd} {ds : Fm} {i : Nat} {deep : Nat} (h : ds[i]? = some (some (.d (dN deep)))) : Yp K W (tCB rMax2 (tCons (tC (.int 0)) (tCons (tOp (rI0 fun i j => .int (i - j)) (tVar i) (tC (.int 1))) tNil))) ds (· = .d (dN (deep - 1))) :=
  y_cb (A := fun xs => xs = [.d (.int 0), .d (.int ((deep : Int) - 1))]) (ap_consE y_intE (ap_consE (y_opE (x := .d (dN deep)) (y := .d (.int 1)) (y_varE h) y_intE (rp_int rfl)) (ap_nil rfl))) (by
    rintro _ rfl
    refine cp_max2 ?_
    show Dv.d (.int _) = Dv.d (.int _)
    congr 2
    split <;> omega)
theorem ok_claim {m : Nat} {f : Addr} {fd : FuncData} (F : Fun K "_law_claim" "_law_claim" s_law_claim f fd) (B : Blt mg) (c_law_draw : c_drawT p w K mg base)
    (c_law_term : Cal p w K mg base "_law_term" (3 + 2 * m + 1) ["_law_feed_here", "_law_sizes", "_law_deep", "_law_inner"] (spL K (preTe (m + 1)))) (c_law_claim : Cal p w K mg base "_law_claim" (3 + 2 * m) ["_law_feed_here", "_law_sizes", "_law_deep", "_law_inner"] (spL K (preCl m))) :
    FnOk p w K mg base CX0 (3 + 2 * m + 1 + 1) f fd ["_law_feed_here", "_law_sizes", "_law_deep", "_law_inner"] (spL K (preCl (m + 1))) := by
  refine ok_L F sc_law_claim (fun xs P h => ?_) fun cdv A outer s H E hr => ⟨_, (pss_cons (ps_set (i := 4) sc_law_claim.nd rfl (.inl rfl) (pe_cal c_law_draw (hr.mono (by omega)) (by rfl) (pa_cons (pv 0) (pa_cons pe_int pa_nil)))) (pss_cons (ps_if (pt_cmpR  op_eq (pv 4) pe_int (nomark _)) (pss_one (ps_ret (pe_tup (pa_cons pe_str pa_nil)))) pss_nil) (pss_cons (ps_if (PW.pt (pw_or (pt_cmpR  op_eq (pv 2) pe_int (nomark _)) (pw_or1 (pt_cmpR  op_gt (pv 4) pe_int (nomark _))))) (pss_cons (ps_set (i := 5) sc_law_claim.nd rfl (.inl rfl) (pe_cal c_law_term (hr.mono (by omega)) (by rfl) (pa_cons (pv 0) (pa_cons (pv 1) (pa_cons (pe_callB (call_max2 rfl) (by rfl) B.max (by decide +kernel) (pa_cons pe_int (pa_cons (pe_op op_sub (pv 2) pe_int) pa_nil))) (pa_cons (pv 3) pa_nil)))))) (pss_one (ps_ret (pe_tup (pa_cons (pe_ix ix_list (pe_lst (pa_cons pe_str (pa_cons pe_str pa_nil))) (pe_op op_mod (pv 4) pe_int) (fun _ _ => rfl)) (pa_cons (pv 5) (pa_cons (pe_cal c_law_term (hr.mono (by omega)) (by rfl) (pa_cons (pv 0) (pa_cons (pv 1) (pa_cons (pe_callB (call_max2 rfl) (by rfl) B.max (by decide +kernel) (pa_cons pe_int (pa_cons (pe_op op_sub (pv 2) pe_int) pa_nil))) (pa_cons (pv 3) pa_nil))))) pa_nil))))))) pss_nil) (pss_cons (ps_set (i := 5) sc_law_claim.nd rfl (.inl rfl) (pe_cal c_law_claim (hr.mono (by omega)) (by rfl) (pa_cons (pv 0) (pa_cons (pv 1) (pa_cons (pe_op op_sub (pv 2) pe_int) (pa_cons (pv 3) pa_nil)))))) (pss_cons (ps_if (pt_cmpR  op_eq (pv 4) pe_int (nomark _)) (pss_one (ps_ret (pe_tup (pa_cons pe_str (pa_cons (pv 5) pa_nil))))) pss_nil) (pss_one (ps_ret (pe_tup (pa_cons (pe_ix ix_list (pe_lst (pa_cons pe_str (pa_cons pe_str pa_nil))) (pv 4) (fun _ _ => rfl)) (pa_cons (pv 5) (pa_cons (pe_cal c_law_claim (hr.mono (by omega)) (by rfl) (pa_cons (pv 0) (pa_cons (pv 1) (pa_cons (pe_op op_sub (pv 2) pe_int) (pa_cons (pv 3) pa_nil))))) pa_nil))))))))))), fun fa ca cells xs P h => ?_⟩
  · obtain ⟨sizes, deep, inn, _, _, _, rfl, _⟩ := h
    rfl
  obtain ⟨sizes, deep, inn, hd, hne, h3, rfl, hP⟩ := h
  refine z_seq (M := fun d => ∃ r : Nat, r < 9 ∧ d = [some (.v (.ref fa)), some (.d (dIs sizes)), some (.d (dN deep)), some (.d (.bool inn)), some (.d (dN r)), none]) (z_set (y_draw rfl y_intE (by decide) (by decide) fun r hr => ⟨r, by omega, rfl⟩)) ?_
  rintro _ ⟨way, hw9, rfl⟩
  refine z_seq (M := fun d => way ≠ 8 ∧ d = [some (.v (.ref fa)), some (.d (dIs sizes)), some (.d (dN deep)), some (.d (.bool inn)), some (.d (dN way)), none]) (z_if (A := fun b => b = false → way ≠ 8) (t_test (y_opE (x := .d (dN way)) (y := .d (.int 8)) (y_varE rfl) y_intE (rp_eqI ⟨_, rfl, fun e => ?_⟩))) (fun _ => z_ret (y_tup (n := 1) (ap_consE y_strE (ap_nil ⟨[dS "yes"], rfl, rfl, hP _ ⟨.yes, rfl, trivial, Nat.zero_le _⟩⟩)))) fun h => z_next ⟨h rfl, rfl⟩) ?_
  · have e2 := of_decide_eq_false e
    omega
  rintro _ ⟨hw8, rfl⟩
  refine z_seq (M := fun d => 0 < deep ∧ way ≤ 2 ∧ d = [some (.v (.ref fa)), some (.d (dIs sizes)), some (.d (dN deep)), some (.d (.bool inn)), some (.d (dN way)), none]) (z_if (A := fun b => b = false → 0 < deep ∧ way ≤ 2)
    (t_or (A := fun b => b = false → 0 < deep) (t_test (y_opE (x := .d (dN deep)) (y := .d (.int 0)) (y_varE rfl) y_intE (rp_eqI ⟨_, rfl, fun e => ?_⟩))) (fun h0 => t_test (y_opE (x := .d (dN way)) (y := .d (.int 2)) (y_varE rfl) y_intE (rp_cmp ⟨_, rfl, fun e => ⟨h0 rfl, ?_⟩⟩))) fun _ h => nomatch h)
    (fun _ => ?_) fun h => z_next ⟨(h rfl).1, (h rfl).2, rfl⟩) ?_
  · have e2 := of_decide_eq_false e
    omega
  · have e2 := of_decide_eq_false e
    omega
  · refine z_seq (M := fun d => ∃ a : Tm, a.Ok sizes.length inn ∧ a.rk ≤ 2 * (deep - 1) ∧ d = [some (.v (.ref fa)), some (.d (dIs sizes)), some (.d (dN deep)), some (.d (.bool inn)), some (.d (dN way)), some (.d a.dat)]) (z_set (y_mono (y_te (inn := inn) hne h3 (show deep - 1 < m + 1 by omega) rfl rfl (y_maxl rfl) (y_varE rfl)) (by rintro _ ⟨t, rfl, a, b⟩; exact ⟨t, a, b, rfl⟩))) ?_
    rintro _ ⟨a, aok, ark, rfl⟩
    refine z_ret (y_tup (n := 3) (ap_cons (y_word (a := "like") (b := "below") (r := way) rfl) ?_))
    rintro _ (rfl | rfl)
    · refine ap_consE (y_varE rfl) (ap_cons (y_te (inn := inn) hne h3 (show deep - 1 < m + 1 by omega) rfl rfl (y_maxl rfl) (y_varE rfl)) ?_)
      rintro _ ⟨b, rfl, bok, brk⟩
      exact ap_nil ⟨[dS "like", a.dat, b.dat], rfl, rfl, hP _ ⟨.like a b, rfl, ⟨aok, bok⟩, by rw [Cl.rk]; omega⟩⟩
    · refine ap_consE (y_varE rfl) (ap_cons (y_te (inn := inn) hne h3 (show deep - 1 < m + 1 by omega) rfl rfl (y_maxl rfl) (y_varE rfl)) ?_)
      rintro _ ⟨b, rfl, bok, brk⟩
      exact ap_nil ⟨[dS "below", a.dat, b.dat], rfl, rfl, hP _ ⟨.bel a b, rfl, ⟨aok, bok⟩, by rw [Cl.rk]; omega⟩⟩
  rintro _ ⟨h0, hw2, rfl⟩
  obtain ⟨dp, rfl⟩ : ∃ dp, deep = dp + 1 := ⟨deep - 1, by omega⟩
  have hdm : dp < m := by omega
  refine z_seq (M := fun d => ∃ a : Cl, a.Ok sizes.length inn ∧ a.rk ≤ 2 * dp + 1 ∧ d = [some (.v (.ref fa)), some (.d (dIs sizes)), some (.d (dN (dp + 1))), some (.d (.bool inn)), some (.d (dN way)), some (.d a.dat)]) (z_set (y_mono (y_cl (inn := inn) hne h3 hdm rfl rfl (y_less rfl) (y_varE rfl)) (by rintro _ ⟨t, rfl, a, b⟩; exact ⟨t, a, b, rfl⟩))) ?_
  rintro _ ⟨a, aok, ark, rfl⟩
  refine z_seq (M := fun d => way < 2 ∧ d = [some (.v (.ref fa)), some (.d (dIs sizes)), some (.d (dN (dp + 1))), some (.d (.bool inn)), some (.d (dN way)), some (.d a.dat)]) (z_if (A := fun b => b = false → way ≠ 2) (t_test (y_opE (x := .d (dN way)) (y := .d (.int 2)) (y_varE rfl) y_intE (rp_eqI ⟨_, rfl, fun e => ?_⟩))) (fun _ => z_ret (y_tup (n := 2) (ap_consE y_strE (ap_consE (y_varE rfl) (ap_nil ⟨[dS "not", a.dat], rfl, rfl, hP _ ⟨.not a, rfl, aok, by rw [Cl.rk]; omega⟩⟩))))) fun h => z_next ⟨by have := h rfl; omega, rfl⟩) ?_
  · have e2 := of_decide_eq_false e
    omega
  rintro _ ⟨hw, rfl⟩
  refine z_ret (y_tup (n := 3) (ap_cons (A := fun x => x = .d (dS "and") ∨ x = .d (dS "or")) (y_opE (x := .l [dS "and", dS "or"]) (y := .d (dN way)) (y_lst (n := 2) (ap_consE y_strE (ap_consE y_strE (ap_nil ⟨[dS "and", dS "or"], rfl, rfl, rfl⟩)))) (y_varE rfl) (rp_ixL (i := ((way : Nat) : Int)) rfl (atI_nat (by exact hw)) ?_)) ?_))
  · match way, hw with
    | 0, _ => exact .inl rfl
    | 1, _ => exact .inr rfl
  rintro _ (rfl | rfl)
  · refine ap_consE (y_varE rfl) (ap_cons (y_cl (inn := inn) hne h3 hdm rfl rfl (y_less rfl) (y_varE rfl)) ?_)
    rintro _ ⟨b, rfl, bok, brk⟩
    exact ap_nil ⟨[dS "and", a.dat, b.dat], rfl, rfl, hP _ ⟨.and a b, rfl, ⟨aok, bok⟩, by rw [Cl.rk]; omega⟩⟩
  · refine ap_consE (y_varE rfl) (ap_cons (y_cl (inn := inn) hne h3 hdm rfl rfl (y_less rfl) (y_varE rfl)) ?_)
    rintro _ ⟨b, rfl, bok, brk⟩
    exact ap_nil ⟨[dS "or", a.dat, b.dat], rfl, rfl, hP _ ⟨.or a b, rfl, ⟨aok, bok⟩, by rw [Cl.rk]; omega⟩⟩
/-- terms and claims of any depth -/
theorem deep_all (DT : DF K mg "_law_term" s_law_term ["_law_feed_here", "_law_sizes", "_law_deep", "_law_inner"]) (DC : DF K mg "_law_claim" s_law_claim ["_law_feed_here", "_law_sizes", "_law_deep", "_law_inner"]) (B : Blt mg) (c_law_draw : c_drawT p w K mg base) (c_law_leaf : Cal p w K mg base "_law_leaf" 2 ["_law_feed_here", "_law_sizes", "_law_inner"] (spL K preLeaf)) :
    ∀ m : Nat, Cal p w K mg base "_law_term" (3 + 2 * m) ["_law_feed_here", "_law_sizes", "_law_deep", "_law_inner"] (spL K (preTe m)) ∧ Cal p w K mg base "_law_claim" (3 + 2 * m) ["_law_feed_here", "_law_sizes", "_law_deep", "_law_inner"] (spL K (preCl m))
  | 0 => ⟨DT.cal fun _ _ _ => none_Te, DC.cal fun _ _ _ => none_Cl⟩
  | m + 1 => by
    obtain ⟨i1, i2⟩ := deep_all DT DC B c_law_draw c_law_leaf m
    have t1 : Cal p w K mg base "_law_term" (3 + 2 * m + 1) ["_law_feed_here", "_law_sizes", "_law_deep", "_law_inner"] (spL K (preTe (m + 1))) := DT.cal fun f fd F => ok_term F B c_law_draw c_law_leaf i1 i2
    exact ⟨t1.mono (by omega), (DC.cal fun f fd F => ok_claim F B c_law_draw t1 i2)⟩
/-! ### rules -/
def RuOk (nb : Nat) (r : Rule) : Prop := (r.1.Ok nb false ∧ r.1.rk < 4) ∧ (∀ l ∈ r.2, l.1 < nb ∧ l.2.Ok nb false ∧ l.2.rk < 4) ∧ r.2.length ≤ 10
def preRl : PreL := fun xs P => ∃ sizes : List Int, sizes ≠ [] ∧ sizes.length ≤ 3 ∧ xs = [.d (dIs sizes)] ∧ ∀ rs : List Rule, rs.length ≤ 10 → (∀ r ∈ rs, RuOk sizes.length r) → P (.d (dRules rs))
theorem sh_Lay (l : Nat × Tm) (h : l.2.rk < 4) : Sh 5 (dLay l) := sh_tup (sh_cons ((sh_N _).mono (Nat.zero_le _)) (sh_cons ((sh_Tm _).mono (by omega)) sh_nil))
theorem ok_rules {f : Addr} {fd : FuncData} (F : Fun K "_law_rules" "_law_rules" s_law_rules f fd) (B : Blt mg) (c_law_draw : c_drawT p w K mg base)
    (c_law_term : Cal p w K mg base "_law_term" 7 ["_law_feed_here", "_law_sizes", "_law_deep", "_law_inner"] (spL K (preTe 2))) (c_law_claim : Cal p w K mg base "_law_claim" 7 ["_law_feed_here", "_law_sizes", "_law_deep", "_law_inner"] (spL K (preCl 2))) :
    FnOk p w K mg base CX0 8 f fd ["_law_feed_here", "_law_sizes"] (spL K preRl) := by
  refine ok_L F sc_law_rules (fun xs P h => ?_) fun cdv A outer s H E hr => ⟨_, (pss_cons (ps_set (i := 2) sc_law_rules.nd rfl (.inl rfl) (pe_lst pa_nil)) (pss_cons (ps_for PassesOwn.never rfl (pi_range1 rfl B.range (pa_cons (pe_cal c_law_draw (hr.mono (by omega)) (by rfl) (pa_cons (pv 0) (pa_cons pe_int pa_nil))) pa_nil)) (pg_name (i := 3) sc_law_rules.nd rfl (.inl rfl)) (pss_cons (ps_setLc (i := 4) (own := [("_law_box", 5)]) (g := gName 5) rfl sc_law_rules.nd rfl rfl (sw_true rfl rfl rfl (by decide +kernel)) (pi_range1 rfl B.range (pa_cons (pe_callB call_len_seq (by rfl) B.len PySem.boot_len (pa_cons (pv 1) pa_nil)) pa_nil)) (blkOk_by (N := ["_law_feed_here", "_law_sizes", "_law_found", "_law_k", "_law_lays", "_law_box"]) (sc := defScope s_law_rules) (by decide +kernel)) (fun _ _ _ _ _ => pg_name (i := 5) sc_law_rules.nd rfl (.inl rfl)) (fun _ _ _ _ _ => pts_one (pt_cmpR  op_gt (pe_cal c_law_draw (hr.mono (by omega)) (by rfl) (pa_cons (pv 0) (pa_cons pe_int pa_nil))) pe_int (nomark _))) (fun _ _ _ _ _ => (pe_tup (pa_cons (pv 5) (pa_cons (pe_cal c_law_term (hr.mono (by omega)) (by rfl) (pa_cons (pv 0) (pa_cons (pv 1) (pa_cons pe_int (pa_cons pe_bl pa_nil))))) pa_nil))))) (pss_cons (ps_set (i := 4) sc_law_rules.nd rfl (.inl rfl) (pe_op op_cat (pv 4) (pe_op op_rep (pe_lst (pa_cons (pe_tup (pa_cons pe_int (pa_cons (pe_tup (pa_cons pe_str (pa_cons (pe_tup (pa_cons pe_str (pa_cons pe_int pa_nil))) (pa_cons (pe_tup (pa_cons pe_str (pa_cons pe_int pa_nil))) pa_nil)))) pa_nil))) pa_nil)) (pe_callTy call_int1 (by rfl) B.int (by decide +kernel) (pa_cons (pe_cmpR  (op_eqD hr.units) (pv 4) (pe_lst pa_nil) (nomark _)) pa_nil))))) (pss_one (ps_expr (pe_bm PySem.F.plainAttrs_list PySem.F.slot_list_append PySem.F.type_list_append mt_append (pv 2) (pa_cons (pe_tup (pa_cons (pe_cal c_law_claim (hr.mono (by omega)) (by rfl) (pa_cons (pv 0) (pa_cons (pv 1) (pa_cons pe_int (pa_cons pe_bl pa_nil))))) (pa_cons (pe_callTy call_tuple_of (by rfl) B.tuple (by decide +kernel) (pa_cons (pv 4) pa_nil)) pa_nil))) pa_nil))))))) (pss_one (ps_ret (pe_callTy call_tuple_of (by rfl) B.tuple (by decide +kernel) (pa_cons (pv 2) pa_nil)))))), fun fa ca cells xs P h => ?_⟩
  · obtain ⟨sizes, _, _, rfl, _⟩ := h
    rfl
  obtain ⟨sizes, hne, h3, rfl, hP⟩ := h
  have hl0 : 0 < sizes.length := List.length_pos_iff.mpr hne
  have d0f : FmFl [some (.v (.ref fa)), some (.d (dIs sizes)), none, none, none, none] := .some trivial (.some (nl_Is _) (.none (.none (.none (.none .nil)))))
  refine z_assoc (z_seq (M := fun d => ∃ rs : List Rule, rs.length ≤ 10 ∧ (∀ r ∈ rs, RuOk sizes.length r) ∧ d[2]? = some (some (dLs K ((rs.map dRule).map .d)))) (z_build (f := 2) (A0 := fun acc => acc = []) (A := fun xs => ∃ n : Nat, n < 3 ∧ xs = rng n)
    (fun xs i d acc => d = [some (.v (.ref fa)), some (.d (dIs sizes)), none, none, none, none] ∧ ∃ rs : List Rule, rs.length = i ∧ (∀ r ∈ rs, RuOk sizes.length r) ∧ acc = (rs.map dRule).map Dv.d)
    (ynew_nil rfl) d0f (show 2 < 6 by decide) (fun q => if_range (ap_cons (A := fun x => ∃ n : Nat, n < 3 ∧ x = .d (dN n)) (y_draw rfl y_intE (by decide) (by decide) fun r hr => ⟨r, by omega, rfl⟩) (by rintro _ ⟨n, hn, rfl⟩; exact ap_nil ⟨n, rfl, by omega, n, hn, rfl⟩))) ?_ ?_ ?_ ?_) fun d hd => ?_)
  · rintro xs acc ⟨n, hn, rfl⟩ rfl
    exact ⟨rfl, [], rfl, fun _ h => (by simp at h), rfl⟩
  · rintro q xs ⟨n, hn, rfl⟩ i x d acc hx hdl ⟨rfl, rs, hl, hok, rfl⟩
    obtain ⟨rfl, him⟩ := rng_of hx
    refine gp_name (zm_seq (M := fun d => ∃ ls : List (Nat × Tm), ls.length ≤ 3 ∧ (∀ l ∈ ls, l.1 < sizes.length ∧ l.2.Ok sizes.length false ∧ l.2.rk < 4) ∧ d = [some (.v (.ref fa)), some (.d (dIs sizes)), some (.v (.ref q)), some (.d (.int i)), some (.l (ls.map dLay)), none]) (z_set (y_lc (A := fun xs => xs = rng sizes.length) (fun xs j acc => ∃ ls : List (Nat × Tm), ls.length ≤ j ∧ (∀ l ∈ ls, l.1 < sizes.length ∧ l.2.Ok sizes.length false ∧ l.2.rk < 4) ∧ acc = (ls.map dLay).map Dv.d)
      (ip_range (ap_cons (A := (· = .d (dN sizes.length))) (y_cb (A := fun xs => xs = [.d (dIs sizes)]) (ap_consE (y_varE rfl) (ap_nil rfl)) (by
        rintro _ rfl
        refine cp_len rfl ?_
        rw [List.length_map]
        rfl)) (by rintro _ rfl; exact ap_nil ⟨_, rfl, by omega, rfl⟩))) (by rintro xs rfl; exact ⟨[], Nat.le_refl _, fun _ h => (by simp at h), rfl⟩) ?_ (by rintro xs rfl; rw [rng_len]; omega) ?_)) ?_)
    · rintro xs rfl j x acc hx _ ⟨ls, l1, l2, rfl⟩
      obtain ⟨rfl, hj⟩ := rng_of hx
      refine t_test (y_op (A := fun x => ∃ r : Nat, x = .d (dN r)) (B := fun x => x = .d (.int 0)) (y_draw rfl y_intE (by decide) (by decide) fun r _ => ⟨r, rfl⟩) y_intE ?_)
      rintro _ _ ⟨r, rfl⟩ rfl
      refine rp_cmp ⟨_, rfl, ?_⟩
      split
      · refine y_tup (n := 2) (ap_consE (x := .d (dN j)) (y_varE rfl) (ap_cons (y_te (inn := false) (deep := 1) hne h3 (show 1 < 2 by decide) rfl rfl y_intE y_yes) ?_))
        rintro _ ⟨t, rfl, tok, trk⟩
        refine ap_nil ⟨[dN j, t.dat], rfl, rfl, nl_Lay (j, t), ls ++ [(j, t)], ?_, ?_, ?_⟩
        · rw [List.length_append]
          exact Nat.succ_le_succ l1
        · intro l hm
          rcases List.mem_append.mp hm with z | z
          · exact l2 l z
          · rw [List.mem_singleton.mp z]
            exact ⟨hj, tok, (by show t.rk < 4; omega)⟩
        · rw [List.map_append, List.map_append]
          rfl
      · exact ⟨ls, Nat.le_succ_of_le l1, l2, rfl⟩
    · rintro xs acc rfl ⟨ls, l1, l2, rfl⟩
      rw [rng_len] at l1
      exact ⟨.l (ls.map dLay), ⟨ls, by omega, l2, rfl⟩, fun H a us hu hd => ⟨a, us, rfl, hu, dpAll_of hd⟩⟩
    rintro _ ⟨ls, l1, l2, rfl⟩
    refine zm_seq (M := fun d => ∃ ls : List (Nat × Tm), ls.length ≤ 10 ∧ (∀ l ∈ ls, l.1 < sizes.length ∧ l.2.Ok sizes.length false ∧ l.2.rk < 4) ∧ d = [some (.v (.ref fa)), some (.d (dIs sizes)), some (.v (.ref q)), some (.d (.int i)), some (.l (ls.map dLay)), none]) (z_set (y_opE (x := .l (ls.map dLay)) (y := .l ((if ls = [] then [((0, .plus (.own 0) (.num 1)) : Nat × Tm)] else []).map dLay)) (y_varE rfl) ?_ (rp_cat ?_ ⟨ls ++ if ls = [] then [((0, .plus (.own 0) (.num 1)) : Nat × Tm)] else [], ?_, ?_, by rw [List.map_append]; rfl⟩))) ?_
    · refine y_opE (x := .l [dLay (0, .plus (.own 0) (.num 1))]) (y := .d (.int (if ls = [] then 1 else 0))) (y_lst (n := 1) (ap_consE (x := .d (dLay (0, .plus (.own 0) (.num 1)))) (y_tup (n := 2) (ap_consE (x := .d (dN 0)) y_intE (ap_consE (x := .d (Tm.plus (.own 0) (.num 1)).dat) (y_tup (n := 3) (ap_consE y_strE (ap_consE (x := .d (Tm.own 0).dat) (y_tup (n := 2) (ap_consE y_strE (ap_consE (x := .d (dN 0)) y_intE (ap_nil ⟨[_, _], rfl, rfl, rfl⟩)))) (ap_consE (x := .d (Tm.num 1).dat) (y_tup (n := 2) (ap_consE y_strE (ap_consE y_intE (ap_nil ⟨[_, _], rfl, rfl, rfl⟩)))) (ap_nil ⟨[_, _, _], rfl, rfl, rfl⟩))))) (ap_nil ⟨[_, _], rfl, rfl, rfl⟩)))) (ap_nil ⟨[_], rfl, rfl, rfl⟩)))
        (y_cb (A := fun xs => xs = [.d (.bool (decide (ls = [])))]) (ap_cons (A := (· = .d (.bool (decide (ls = []))))) (y_opE (x := .l (ls.map dLay)) (y := .l []) (y_varE rfl) (y_lst (n := 0) (ap_nil ⟨[], rfl, rfl, rfl⟩)) (rp_eqD rfl rfl ((sh_lst (k := 5) (fun x hx => ?_)).ok (by decide)) ((sh_lst (k := 0) sh_nil).ok (by decide)) ?_)) (by rintro _ rfl; exact ap_nil rfl)) (by
          rintro _ rfl
          refine cp_intB ?_
          by_cases h : ls = [] <;> simp [h])) (rp_rep ?_ ?_ ?_)
      · obtain ⟨l, hl, rfl⟩ := List.mem_map.mp hx
        exact sh_Lay l (l2 l hl).2.2
      · cases ls <;> simp [PyData.eqv, PyData.eqvAll]
      · split <;> omega
      · split <;> decide
      · by_cases h : ls = [] <;> simp [h]
    · rw [List.length_map, List.length_map]
      split <;> simp <;> omega
    · rw [List.length_append]
      split <;> simp <;> omega
    · intro l hm
      rcases List.mem_append.mp hm with z | z
      · exact l2 l z
      · split at z
        · rw [List.mem_singleton.mp z]
          exact ⟨hl0, ⟨hl0, trivial⟩, by decide⟩
        · simp at z
    rintro _ ⟨ls, l1, l2, rfl⟩
    refine zm_app rfl (y_tup (n := 2) (ap_cons (y_cl (inn := false) (deep := 1) hne h3 (show 1 < 2 by decide) rfl rfl y_intE y_yes) ?_))
    rintro _ ⟨c, rfl, cok, crk⟩
    refine ap_cons (A := (· = .d (.tuple (ls.map dLay)))) (y_cb (A := fun xs => xs = [.l (ls.map dLay)]) (ap_consE (y_varE rfl) (ap_nil rfl)) (by rintro _ rfl; exact cp_tup rfl rfl)) ?_
    rintro _ rfl
    refine ap_nil ⟨[c.dat, .tuple (ls.map dLay)], rfl, rfl, by simp, fun y hy => ?_, rfl, _, .cons (.cons (.none (.none (.none (.none .nil))))), rfl, d0f, rfl, rs ++ [(c, ls)], ?_, ?_, ?_⟩
    · rcases List.mem_append.mp hy with z | z
      · exact .inl z
      · rw [List.mem_singleton.mp z]
        exact .inr (nl_Rule (c, ls))
    · rw [List.length_append, hl]
      rfl
    · intro r hm
      rcases List.mem_append.mp hm with z | z
      · exact hok r z
      · rw [List.mem_singleton.mp z]
        exact ⟨⟨cok, (by show c.rk < 4; omega)⟩, l2, l1⟩
    · rw [List.map_append, List.map_append]
      rfl
  · rintro xs ⟨n, hn, rfl⟩
    rw [rng_len]
    omega
  · rintro xs d acc ⟨n, hn, rfl⟩ hdl ⟨rfl, rs, hl, hok, rfl⟩
    rw [rng_len] at hl
    exact ⟨rs, by omega, hok, rfl⟩
  obtain ⟨rs, hl, hok, h3⟩ := hd
  exact z_ret (y_cb (A := fun xs => xs = [.l (rs.map dRule)]) (ap_cons (y_varL h3 rfl) (by rintro _ rfl; exact ap_nil rfl)) (by rintro _ rfl; exact cp_tup rfl (hP rs hl hok)))
end
end Sr

/-! Systems, stands. -/
namespace Sr
open PySem L2 PyProof.Rows
section
variable {K : PySem.W.Frag} {W : Wd} {ds : Fm}
theorem ip_orL {w1 w2 : TI} {A : List Dv → Prop} (h : Ip K W w1 ds A) : Ip K W (fun σ H R => w1 σ H R ∨ w2 σ H R) ds A := fun σ H i s R' q => .inl (h σ H i s R' q)
theorem ip_orR {w1 w2 : TI} {A : List Dv → Prop} (h : Ip K W w2 ds A) : Ip K W (fun σ H R => w1 σ H R ∨ w2 σ H R) ds A := fun σ H i s R' q => .inr (h σ H i s R' q)
end
section
variable {p : Program} {w : World} {K : PySem.W.Frag} {mg : Str → Option Value} {base : Heap}
def preProd : Pre := fun _ xs P => ∃ ns : List Int, (∀ n ∈ ns, 0 < n ∧ n < 100) ∧ (xs = [.l (ns.map .int)] ∨ xs = [.d (dIs ns)]) ∧ ∀ i : Int, P (.d (.int i))
theorem ok_product {f : Addr} {fd : FuncData} (F : Fun K "_law_product" "_law_product" s_law_product f fd) (B : Blt mg) : FnOk p w K mg base CX0 1 f fd ["_law_some"] (spD K W0 preProd) := by
  refine ok_D F sc_law_product (fun H xs P h => ?_) fun cdv A outer s H E hr => ⟨_, (pss_cons (ps_set (i := 1) sc_law_product.nd rfl (.inl rfl) pe_int) (pss_cons (ps_for PassesOwn.never rfl (pi_or (pi_list (pv 0)) (pi_tup (pv 0))) (pg_name (i := 2) sc_law_product.nd rfl (.inl rfl)) (pss_one (ps_set (i := 1) sc_law_product.nd rfl (.inl rfl) (pe_op op_mul (pv 1) (pv 2))))) (pss_one (ps_ret (pv 1))))), fun H xs P _ h => ?_⟩
  · obtain ⟨ns, _, rfl | rfl, _⟩ := h <;> rfl
  obtain ⟨ns, hns, h0x, hP⟩ := h
  obtain ⟨x, hxs, hx⟩ : ∃ x, xs = [x] ∧ (x = .l (ns.map .int) ∨ x = .d (dIs ns)) := by
    rcases h0x with h | h
    · exact ⟨_, h, .inl rfl⟩
    · exact ⟨_, h, .inr rfl⟩
  subst hxs
  clear h0x
  refine ⟨W0, fun _ _ r => r, trivial, z_seq (M := fun d => d = [some x, some (.d (.int 1)), none]) (z_set (y_int rfl)) ?_⟩
  rintro _ rfl
  refine z_seq (M := fun d => ∃ i : Int, Fle [none, some (.d (.int i)), none] d) (z_for (A := fun xs => xs = (ns.map PyData.int).map Dv.d) (fun xs j d => ∃ i : Int, Fle [none, some (.d (.int i)), none] d) ?_ ?_ ?_ ?_) ?_
  · rcases hx with rfl | rfl
    · exact ip_orL (ip_list (y_var rfl ⟨_, .inr rfl, rfl⟩))
    · exact ip_orR (ip_tup (y_var rfl ⟨_, rfl, rfl⟩))
  · rintro xs rfl
    exact ⟨1, .none (.cons (.none .nil))⟩
  · rintro xs rfl j x d hx ⟨i, hd⟩
    obtain ⟨n, hh, rfl⟩ : ∃ n, ns[j]? = some n ∧ x = .d (.int n) := by
      rw [List.getElem?_map, List.getElem?_map] at hx
      cases q : ns[j]? with
      | none => rw [q] at hx; simp at hx
      | some l => rw [q] at hx; exact ⟨l, rfl, (by simpa using hx.symm)⟩
    obtain ⟨h1, h2⟩ := hns n (List.mem_of_getElem? hh)
    refine gp_le hd (gp_name (z_set (y_opE (x := .d (.int i)) (y := .d (.int n)) (y_varE rfl) (y_varE rfl) (rp_intC (.inr (by omega)) ⟨_, .none (.cons (.none .nil))⟩))))
  · rintro xs d rfl h
    exact h
  rintro d ⟨i, hd⟩
  exact z_le hd (z_ret (y_var rfl (hP i)))
/-! ### a token ring -/
def SzOk (S : Sys) : Prop := S.Ok ∧ ∀ z ∈ S.sizes, z < 100
def preTok : PreL := fun xs P => ∃ most : Int, xs = [.d (.int most)] ∧ ∀ S : Sys, SzOk S → P (.d S.dat)
def tokLike : Cl := .like (.own 0) (.eye 0 0)
def tokFirst : Rule := (tokLike, [(0, .plus (.own 0) (.num 1))])
def tokOther : Rule := (.not tokLike, [(0, .eye 0 0)])
def tokSys (many size : Nat) : Sys := ⟨(List.range many).map fun h => [(h + many - 1) % many], [(size : Int)], 0 :: List.replicate (many - 1) 1, [[tokFirst], [tokOther]]⟩
theorem tok_ok {many size : Nat} (h2 : 2 ≤ many) (h4 : many ≤ 4) (s0 : 0 < size) (s1 : size < 100) : SzOk (tokSys many size) := by
  have el : (tokSys many size).eyes.length = many := by simp [tokSys]
  refine ⟨⟨by rw [el]; exact h4, ?_, ?_, (by show 1 ≤ 3; decide), ?_, ?_, ?_, ?_, ?_, ?_, ?_⟩, ?_⟩
  · intro l hl
    obtain ⟨h, _, rfl⟩ := List.mem_map.mp hl
    show 1 ≤ 6
    decide
  · intro l hl e he
    obtain ⟨h, _, rfl⟩ := List.mem_map.mp hl
    rw [List.mem_singleton.mp he, el]
    exact Nat.mod_lt _ (by omega)
  · intro z hz
    rw [List.mem_singleton.mp hz]
    omega
  · rw [el]
    simp [tokSys]
    omega
  · intro k hk
    show k < 2
    rcases List.mem_cons.mp hk with rfl | hk
    · omega
    · rw [(List.mem_replicate.mp hk).2]
      omega
  · intro rs hrs
    simp only [tokSys, List.mem_cons, List.not_mem_nil, or_false] at hrs
    rcases hrs with rfl | rfl <;> decide
  · intro rs hrs r hr
    simp only [tokSys, List.mem_cons, List.not_mem_nil, or_false] at hrs
    rcases hrs with rfl | rfl <;> rw [List.mem_singleton.mp hr]
    · exact ⟨⟨show 0 < 1 by decide, show 0 < 1 by decide⟩, by decide⟩
    · exact ⟨⟨show 0 < 1 by decide, show 0 < 1 by decide⟩, by decide⟩
  · intro rs hrs r hr l hl
    simp only [tokSys, List.mem_cons, List.not_mem_nil, or_false] at hrs
    rcases hrs with rfl | rfl <;> rw [List.mem_singleton.mp hr] at hl <;> rw [List.mem_singleton.mp hl]
    · exact ⟨show 0 < 1 by decide, ⟨show 0 < 1 by decide, trivial⟩, by decide⟩
    · exact ⟨show 0 < 1 by decide, show 0 < 1 by decide, by decide⟩
  · intro rs hrs r hr
    simp only [tokSys, List.mem_cons, List.not_mem_nil, or_false] at hrs
    rcases hrs with rfl | rfl <;> rw [List.mem_singleton.mp hr] <;> decide
  · intro z hz
    rw [List.mem_singleton.mp hz]
    omega
theorem ok_token {f : Addr} {fd : FuncData} (F : Fun K "_law_token" "_law_token" s_law_token f fd) (B : Blt mg) (c_law_draw : c_drawT p w K mg base) (c_law_product : Cal p w K mg base "_law_product" 1 ["_law_some"] (spD K W0 preProd)) :
    FnOk p w K mg base CX0 2 f fd ["_law_feed_here", "_law_most"] (spL K preTok) := by
  refine ok_L F sc_law_token (fun xs P h => ?_) fun cdv A outer s H E hr => ⟨_, (pss_cons (ps_set (i := 2) sc_law_token.nd rfl (.inr rfl) (pe_op op_add pe_int (pe_cal c_law_draw (hr.mono (by omega)) (by rfl) (pa_cons (pv 0) (pa_cons pe_int pa_nil))))) (pss_cons (ps_set (i := 3) sc_law_token.nd rfl (.inl rfl) (pe_op op_add pe_int (pe_cal c_law_draw (hr.mono (by omega)) (by rfl) (pa_cons (pv 0) (pa_cons pe_int pa_nil))))) (pss_cons (ps_while PassesOwn.never (PW.pt (pw_and (pt_cmpR  op_gt (pe_cal c_law_product (hr.mono (by omega)) (by rfl) (pa_cons (pe_op op_rep (pe_lst (pa_cons (pv 3) pa_nil)) (pv 2)) pa_nil)) (pv 1) (nomark _)) (pw_and1 (pt_cmpR  op_gt (pv 2) pe_int (nomark _))))) (pss_one (ps_set (i := 2) sc_law_token.nd rfl (.inr rfl) (pe_op op_sub (pv 2) pe_int)))) (pss_cons (ps_set (i := 4) sc_law_token.nd rfl (.inl rfl) (pe_tup (pa_cons pe_str (pa_cons (pe_tup (pa_cons pe_str (pa_cons pe_int pa_nil))) (pa_cons (pe_tup (pa_cons pe_str (pa_cons pe_int (pa_cons pe_int pa_nil)))) pa_nil))))) (pss_cons (ps_set (i := 5) sc_law_token.nd rfl (.inl rfl) (pe_tup (pa_cons (pv 4) (pa_cons (pe_tup (pa_cons (pe_tup (pa_cons pe_int (pa_cons (pe_tup (pa_cons pe_str (pa_cons (pe_tup (pa_cons pe_str (pa_cons pe_int pa_nil))) (pa_cons (pe_tup (pa_cons pe_str (pa_cons pe_int pa_nil))) pa_nil)))) pa_nil))) pa_nil)) pa_nil)))) (pss_cons (ps_set (i := 6) sc_law_token.nd rfl (.inl rfl) (pe_tup (pa_cons (pe_tup (pa_cons pe_str (pa_cons (pv 4) pa_nil))) (pa_cons (pe_tup (pa_cons (pe_tup (pa_cons pe_int (pa_cons (pe_tup (pa_cons pe_str (pa_cons pe_int (pa_cons pe_int pa_nil)))) pa_nil))) pa_nil)) pa_nil)))) (pss_cons (ps_set (i := 7) sc_law_token.nd rfl (.inl rfl) (pe_callTy call_tuple_of (by rfl) B.tuple (by decide +kernel) (pa_cons (pe_lc (own := [("_law_hand", 8)]) (g := gName 8) (tt := tYes) rfl sc_law_token.nd (pi_range1 rfl B.range (pa_cons (pv 2) pa_nil)) (blkOk_by (N := ["_law_feed_here", "_law_most", "_law_many", "_law_size", "_law_like", "_law_first", "_law_other", "_law_web_here", "_law_hand"]) (sc := defScope s_law_token) (by decide +kernel)) (fun _ _ _ _ _ => pg_name (i := 8) sc_law_token.nd rfl (.inl rfl)) (fun _ _ _ _ _ => pts_nil) (fun _ _ _ _ _ => (pe_tup (pa_cons (pe_op op_mod (pe_op op_sub (pe_op op_add (pv 8) (pv 2)) pe_int) (pv 2)) pa_nil)))) pa_nil))) (pss_one (ps_ret (pe_tup (pa_cons (pv 7) (pa_cons (pe_tup (pa_cons (pv 3) pa_nil)) (pa_cons (pe_op op_catA (pe_tup (pa_cons pe_int pa_nil)) (pe_op op_repA (pe_tup (pa_cons pe_int pa_nil)) (pe_op op_sub (pv 2) pe_int))) (pa_cons (pe_tup (pa_cons (pe_tup (pa_cons (pv 5) pa_nil)) (pa_cons (pe_tup (pa_cons (pv 6) pa_nil)) pa_nil))) pa_nil)))))))))))))), fun fa ca cells xs P h => ?_⟩
  · obtain ⟨most, rfl, _⟩ := h
    rfl
  obtain ⟨most, rfl, hP⟩ := h
  have two : ∀ (ds : Fm), ds[0]? = some (some (.v (.ref fa))) → Yp K (WL fa ca cells) (tOp (rI0 fun i j => .int (i + j)) (tC (.int 2)) (tCall spDraw [] E0 (tCons (tVar 0) (tCons (tC (.int 3)) tNil)))) ds (fun x => ∃ r : Nat, 2 ≤ r ∧ r ≤ 4 ∧ x = .d (dN r)) := fun ds h => by
    refine y_op (A := (· = .d (.int 2))) (B := fun x => ∃ r : Nat, r < 3 ∧ x = .d (dN r)) y_intE (y_draw h y_intE (by decide) (by decide) fun r hr => ⟨r, by omega, rfl⟩) ?_
    rintro _ _ rfl ⟨r, hr, rfl⟩
    refine rp_int ⟨2 + r, by omega, by omega, ?_⟩
    show Dv.d (.int _) = Dv.d (.int _)
    congr 2
  refine z_seq (M := fun d => ∃ many : Nat, 2 ≤ many ∧ many ≤ 4 ∧ d = [some (.v (.ref fa)), some (.d (.int most)), some (.d (dN many)), none, none, none, none, none, none]) (z_set (y_mono (two _ rfl) (by rintro _ ⟨r, a, b, rfl⟩; exact ⟨r, a, b, rfl⟩))) ?_
  rintro _ ⟨many, m2, m4, rfl⟩
  refine z_seq (M := fun d => ∃ size : Nat, 2 ≤ size ∧ size ≤ 4 ∧ d = [some (.v (.ref fa)), some (.d (.int most)), some (.d (dN many)), some (.d (dN size)), none, none, none, none, none]) (z_set (y_mono (two _ rfl) (by rintro _ ⟨r, a, b, rfl⟩; exact ⟨r, a, b, rfl⟩))) ?_
  rintro _ ⟨size, s2, s4, rfl⟩
  refine z_seq (M := fun d => ∃ many : Nat, 2 ≤ many ∧ many ≤ 4 ∧ d = [some (.v (.ref fa)), some (.d (.int most)), some (.d (dN many)), some (.d (dN size)), none, none, none, none, none]) (z_while (fun m d => 2 ≤ m ∧ m ≤ 4 ∧ d = [some (.v (.ref fa)), some (.d (.int most)), some (.d (dN m)), some (.d (dN size)), none, none, none, none, none]) (m := many) ⟨m2, m4, rfl⟩ ?_) ?_
  · rintro many _ ⟨m2, m4, rfl⟩
    refine t_and (A := fun _ => True) (t_test (y_op (A := fun x => ∃ i : Int, x = .d (.int i)) (B := (· = .d (.int most))) (y_call (A := fun xs => xs = [.l ((List.replicate many (size : Int)).map .int)]) (ap_cons (A := (· = .l ((List.replicate many (size : Int)).map .int))) (y_opE (x := .l [.int (size : Int)]) (y := .d (dN many)) (y_lst (n := 1) (ap_consE (y_varE rfl) (ap_nil ⟨[dN size], rfl, rfl, rfl⟩))) (y_varE rfl) (rp_rep (by omega) ?_ ?_)) (by rintro _ rfl; exact ap_nil rfl)) (by
      rintro _ rfl
      exact sps_0 fun H => ⟨_, fun n hn => by rw [(List.mem_replicate.mp hn).2]; omega, .inl rfl, fun i => ⟨i, rfl⟩⟩)) (y_varE rfl) ?_)) (fun _ => t_test (y_opE (x := .d (dN many)) (y := .d (.int 2)) (y_varE rfl) y_intE (rp_cmp ⟨_, rfl, ?_⟩))) fun _ => ?_
    · show 1 * ((many : Int)).toNat ≤ 1000
      omega
    · obtain rfl | rfl | rfl : many = 2 ∨ many = 3 ∨ many = 4 := by omega
      all_goals rfl
    · rintro _ _ ⟨i, rfl⟩ rfl
      exact rp_cmp ⟨_, rfl, trivial⟩
    · split
      · rename_i e
        have e2 := of_decide_eq_true e
        exact z_set (y_mono (y_less (deep := many - 1) (i := 2) (by show some (some (Dv.d (dN many))) = some (some (Dv.d (dN (many - 1 + 1)))); rw [Nat.sub_add_cancel (by omega)])) (by rintro _ rfl; exact ⟨many - 1, by omega, by omega, by omega, rfl⟩))
      · exact ⟨many, m2, m4, rfl⟩
    · rw [if_neg Bool.false_ne_true]
      exact ⟨many, m2, m4, rfl⟩
  rintro _ ⟨many, m2, m4, rfl⟩
  have own0 : ∀ ds : Fm, Yp K (WL fa ca cells) (tTup (tCons (tC (.str "own")) (tCons (tC (.int 0)) tNil))) ds (· = .d (Tm.own 0).dat) := fun ds => y_tup (n := 2) (ap_consE y_strE (ap_consE y_intE (ap_nil ⟨[_, _], rfl, rfl, rfl⟩)))
  have eye0 : ∀ ds : Fm, Yp K (WL fa ca cells) (tTup (tCons (tC (.str "eye")) (tCons (tC (.int 0)) (tCons (tC (.int 0)) tNil)))) ds (· = .d (Tm.eye 0 0).dat) := fun ds => y_tup (n := 3) (ap_consE y_strE (ap_consE y_intE (ap_consE y_intE (ap_nil ⟨[_, _, _], rfl, rfl, rfl⟩))))
  have num1 : ∀ ds : Fm, Yp K (WL fa ca cells) (tTup (tCons (tC (.str "num")) (tCons (tC (.int 1)) tNil))) ds (· = .d (Tm.num 1).dat) := fun ds => y_tup (n := 2) (ap_consE y_strE (ap_consE y_intE (ap_nil ⟨[_, _], rfl, rfl, rfl⟩)))
  refine z_seq (M := fun d => d = [some (.v (.ref fa)), some (.d (.int most)), some (.d (dN many)), some (.d (dN size)), some (.d tokLike.dat), none, none, none, none]) (z_set (y_tup (n := 3) (ap_consE y_strE (ap_consE (own0 _) (ap_consE (eye0 _) (ap_nil ⟨[_, _, _], rfl, rfl, rfl⟩)))))) ?_
  rintro _ rfl
  refine z_seq (M := fun d => d = [some (.v (.ref fa)), some (.d (.int most)), some (.d (dN many)), some (.d (dN size)), some (.d tokLike.dat), some (.d (dRule tokFirst)), none, none, none]) (z_set (y_tup (n := 2) (ap_consE (x := .d tokLike.dat) (y_varE rfl) (ap_consE (x := .d (.tuple [dLay (0, .plus (.own 0) (.num 1))])) (y_tup (n := 1) (ap_consE (x := .d (dLay (0, .plus (.own 0) (.num 1)))) (y_tup (n := 2) (ap_consE (x := .d (dN 0)) y_intE (ap_consE (x := .d (Tm.plus (.own 0) (.num 1)).dat) (y_tup (n := 3) (ap_consE y_strE (ap_consE (own0 _) (ap_consE (num1 _) (ap_nil ⟨[_, _, _], rfl, rfl, rfl⟩))))) (ap_nil ⟨[_, _], rfl, rfl, rfl⟩)))) (ap_nil ⟨[_], rfl, rfl, rfl⟩))) (ap_nil ⟨[_, _], rfl, rfl, rfl⟩))))) ?_
  rintro _ rfl
  refine z_seq (M := fun d => d = [some (.v (.ref fa)), some (.d (.int most)), some (.d (dN many)), some (.d (dN size)), some (.d tokLike.dat), some (.d (dRule tokFirst)), some (.d (dRule tokOther)), none, none]) (z_set (y_tup (n := 2) (ap_consE (x := .d (Cl.not tokLike).dat) (y_tup (n := 2) (ap_consE y_strE (ap_consE (x := .d tokLike.dat) (y_varE rfl) (ap_nil ⟨[_, _], rfl, rfl, rfl⟩)))) (ap_consE (x := .d (.tuple [dLay (0, .eye 0 0)])) (y_tup (n := 1) (ap_consE (x := .d (dLay (0, .eye 0 0))) (y_tup (n := 2) (ap_consE (x := .d (dN 0)) y_intE (ap_consE (eye0 _) (ap_nil ⟨[_, _], rfl, rfl, rfl⟩)))) (ap_nil ⟨[_], rfl, rfl, rfl⟩))) (ap_nil ⟨[_, _], rfl, rfl, rfl⟩))))) ?_
  rintro _ rfl
  refine z_seq (M := fun d => d = [some (.v (.ref fa)), some (.d (.int most)), some (.d (dN many)), some (.d (dN size)), some (.d tokLike.dat), some (.d (dRule tokFirst)), some (.d (dRule tokOther)), some (.d (dEyes (tokSys many size).eyes)), none]) (z_set (y_cb (A := fun xs => xs = [.l ((tokSys many size).eyes.map dNs)]) (ap_cons (A := (· = .l ((tokSys many size).eyes.map dNs))) (y_lc (A := fun xs => xs = rng many) (fun xs j acc => acc = (((List.range j).map fun h => [(h + many - 1) % many]).map dNs).map Dv.d) (ip_range (ap_consE (y_varE rfl) (ap_nil ⟨many, rfl, by omega, rfl⟩))) (by rintro xs rfl; rfl) ?_ (by rintro xs rfl; rw [rng_len]; omega) ?_) (by rintro _ rfl; exact ap_nil rfl)) (by rintro _ rfl; exact cp_tup rfl rfl))) ?_
  · rintro xs rfl j x acc hx _ rfl
    obtain ⟨rfl, hj⟩ := rng_of hx
    refine t_yes ?_
    rw [if_pos rfl]
    refine y_tup (n := 1) (ap_consE (x := .d (dN ((j + many - 1) % many))) (y_opE (x := .d (.int ((j : Int) + many - 1))) (y := .d (dN many)) (y_opE (x := .d (.int ((j : Int) + many))) (y := .d (.int 1)) (y_opE (x := .d (dN j)) (y := .d (dN many)) (y_varE rfl) (y_varE rfl) (rp_int rfl)) y_intE (rp_int rfl)) (y_varE rfl) (rp_intC (by omega) ?_)) (ap_nil ⟨[dN ((j + many - 1) % many)], rfl, rfl, nl_Ns [_], ?_⟩))
    · show Dv.d (.int _) = Dv.d (.int _)
      congr 2
      rw [Int.natCast_emod]
      congr 1
      omega
    · rw [List.range_succ, List.map_append, List.map_append, List.map_append]
      rfl
  · rintro xs acc rfl rfl
    rw [rng_len]
    exact ⟨_, rfl, fun H a us hu hd => ⟨a, us, rfl, hu, dpAll_of hd⟩⟩
  rintro _ rfl
  refine z_ret (y_tup (n := 4) (ap_consE (y_varE rfl) (ap_consE (x := .d (dIs [(size : Int)])) (y_tup (n := 1) (ap_consE (x := .d (dN size)) (y_varE rfl) (ap_nil ⟨[_], rfl, rfl, rfl⟩))) (ap_consE (x := .d (dNs (tokSys many size).kinds)) (y_opE (x := .d (.tuple [.int 0])) (y := .d (.tuple (List.replicate ((many : Int) - 1).toNat [.int 1]).flatten)) (y_tup (n := 1) (ap_consE y_intE (ap_nil ⟨[_], rfl, rfl, rfl⟩))) (y_opE (x := .d (.tuple [.int 1])) (y := .d (.int ((many : Int) - 1))) (y_tup (n := 1) (ap_consE y_intE (ap_nil ⟨[_], rfl, rfl, rfl⟩))) (y_opE (x := .d (dN many)) (y := .d (.int 1)) (y_varE rfl) y_intE (rp_int rfl)) (rp_repA (by omega) (by simp) (by decide) rfl)) (rp_catA ?_ ?_))
    (ap_consE (x := .d (.tuple ((tokSys many size).rules.map dRules))) (y_tup (n := 2) (ap_consE (x := .d (dRules [tokFirst])) (y_tup (n := 1) (ap_consE (x := .d (dRule tokFirst)) (y_varE rfl) (ap_nil ⟨[_], rfl, rfl, rfl⟩))) (ap_consE (x := .d (dRules [tokOther])) (y_tup (n := 1) (ap_consE (x := .d (dRule tokOther)) (y_varE rfl) (ap_nil ⟨[_], rfl, rfl, rfl⟩))) (ap_nil ⟨[_, _], rfl, rfl, rfl⟩)))) (ap_nil ⟨[_, _, _, _], rfl, rfl, hP (tokSys many size) (tok_ok m2 m4 (by omega) (by omega))⟩))))))
  · obtain rfl | rfl | rfl : many = 2 ∨ many = 3 ∨ many = 4 := by omega
    all_goals decide
  · obtain rfl | rfl | rfl : many = 2 ∨ many = 3 ∨ many = 4 := by omega
    all_goals rfl
end
end Sr

/-! Systems, stands. -/
namespace Sr
open PySem L2 PyProof.Rows
section
variable {p : Program} {w : World} {K : PySem.W.Frag} {mg : Str → Option Value} {base : Heap}
def allSizes : List (List Int) := [[2], [3], [2], [4], [2, 2], [1, 3], [3, 1, 2]]
theorem sizes_ok : ∀ l ∈ allSizes, l ≠ [] ∧ l.length ≤ 3 ∧ ∀ z ∈ l, 0 < z ∧ z < 100 := by decide
def preSys : PreL := fun xs P => ∃ most : Int, xs = [.d (.int most)] ∧ ∀ S : Sys, SzOk S → P (.d S.dat)
theorem flat_map {α β : Type} (f : α → β) (k : Nat) (l : List α) : (List.replicate k (l.map f)).flatten = ((List.replicate k l).flatten).map f := by
  induction k with
  | zero => rfl
  | succ k ih => rw [List.replicate_succ, List.replicate_succ, List.flatten_cons, List.flatten_cons, List.map_append, ih]
theorem ok_system {f : Addr} {fd : FuncData} (F : Fun K "_law_system" "_law_system" s_law_system f fd) (B : Blt mg) (c_law_draw : c_drawT p w K mg base) (c_law_product : Cal p w K mg base "_law_product" 1 ["_law_some"] (spD K W0 preProd))
    (c_law_token : Cal p w K mg base "_law_token" 2 ["_law_feed_here", "_law_most"] (spL K preTok)) (c_law_rules : Cal p w K mg base "_law_rules" 8 ["_law_feed_here", "_law_sizes"] (spL K preRl)) (c_law_web : Cal p w K mg base "_law_web" 3 ["_law_feed_here", "_law_many"] (spL K preWeb)) :
    FnOk p w K mg base CX0 9 f fd ["_law_feed_here", "_law_most"] (spL K preSys) := by
  refine ok_L F sc_law_system (fun xs P h => ?_) fun cdv A outer s H E hr => ⟨_, (pss_cons (ps_if (pt_cmpR  op_eq (pe_cal c_law_draw (hr.mono (by omega)) (by rfl) (pa_cons (pv 0) (pa_cons pe_int pa_nil))) pe_int (nomark _)) (pss_one (ps_ret (pe_cal c_law_token (hr.mono (by omega)) (by rfl) (pa_cons (pv 0) (pa_cons (pv 1) pa_nil))))) pss_nil) (pss_cons (ps_set (i := 2) sc_law_system.nd rfl (.inl rfl) (pe_op op_add pe_int (pe_cal c_law_draw (hr.mono (by omega)) (by rfl) (pa_cons (pv 0) (pa_cons pe_int pa_nil))))) (pss_cons (ps_set (i := 3) sc_law_system.nd rfl (.inr rfl) (pe_ix ix_list (pe_lst (pa_cons (pe_tup (pa_cons pe_int pa_nil)) (pa_cons (pe_tup (pa_cons pe_int pa_nil)) (pa_cons (pe_tup (pa_cons pe_int pa_nil)) (pa_cons (pe_tup (pa_cons pe_int pa_nil)) (pa_cons (pe_tup (pa_cons pe_int (pa_cons pe_int pa_nil))) (pa_cons (pe_tup (pa_cons pe_int (pa_cons pe_int pa_nil))) (pa_cons (pe_tup (pa_cons pe_int (pa_cons pe_int (pa_cons pe_int pa_nil)))) pa_nil)))))))) (pe_cal c_law_draw (hr.mono (by omega)) (by rfl) (pa_cons (pv 0) (pa_cons pe_int pa_nil))) (fun _ _ => rfl))) (pss_cons (ps_while PassesOwn.never (PW.pt (pw_and (pt_cmpR  op_gt (pe_cal c_law_product (hr.mono (by omega)) (by rfl) (pa_cons (pe_op op_repA (pv 3) (pv 2)) pa_nil)) (pv 1) (nomark _)) (pw_and1 (pt_cmpR  op_gt (pv 2) pe_int (nomark _))))) (pss_one (ps_set (i := 2) sc_law_system.nd rfl (.inl rfl) (pe_op op_sub (pv 2) pe_int)))) (pss_cons (ps_set (i := 4) sc_law_system.nd rfl (.inr rfl) (pe_callTy call_tuple_of (by rfl) B.tuple (by decide +kernel) (pa_cons (pe_lc (own := [("_law_k", 5)]) (g := gName 5) (tt := tYes) rfl sc_law_system.nd (pi_range1 rfl B.range (pa_cons (pe_op op_add pe_int (pe_cal c_law_draw (hr.mono (by omega)) (by rfl) (pa_cons (pv 0) (pa_cons pe_int pa_nil)))) pa_nil)) (blkOk_by (N := ["_law_feed_here", "_law_most", "_law_many", "_law_sizes", "_law_rules_here", "_law_k", "_law_kinds", "_law_hand"]) (sc := defScope s_law_system) (by decide +kernel)) (fun _ _ _ _ _ => pg_name (i := 5) sc_law_system.nd rfl (.inl rfl)) (fun _ _ _ _ _ => pts_nil) (fun _ _ _ _ _ => (pe_cal c_law_rules (hr.mono (by omega)) (by rfl) (pa_cons (pv 0) (pa_cons (pv 3) pa_nil))))) pa_nil))) (pss_cons (ps_set (i := 6) sc_law_system.nd rfl (.inl rfl) (pe_callTy call_tuple_of (by rfl) B.tuple (by decide +kernel) (pa_cons (pe_lc (own := [("_law_hand", 7)]) (g := gName 7) (tt := tYes) rfl sc_law_system.nd (pi_range1 rfl B.range (pa_cons (pv 2) pa_nil)) (blkOk_by (N := ["_law_feed_here", "_law_most", "_law_many", "_law_sizes", "_law_rules_here", "_law_k", "_law_kinds", "_law_hand"]) (sc := defScope s_law_system) (by decide +kernel)) (fun _ _ _ _ _ => pg_name (i := 7) sc_law_system.nd rfl (.inl rfl)) (fun _ _ _ _ _ => pts_nil) (fun _ _ _ _ _ => (pe_cal c_law_draw (hr.mono (by omega)) (by rfl) (pa_cons (pv 0) (pa_cons (pe_callB (r := rLenS K) call_len_seq (by rfl) B.len PySem.boot_len (pa_cons (pv 4) pa_nil)) pa_nil))))) pa_nil))) (pss_one (ps_ret (pe_tup (pa_cons (pe_cal c_law_web (hr.mono (by omega)) (by rfl) (pa_cons (pv 0) (pa_cons (pv 2) pa_nil))) (pa_cons (pv 3) (pa_cons (pv 6) (pa_cons (pv 4) pa_nil))))))))))))), fun fa ca cells xs P h => ?_⟩
  · obtain ⟨most, rfl, _⟩ := h
    rfl
  obtain ⟨most, rfl, hP⟩ := h
  refine z_seq (M := fun d => d = [some (.v (.ref fa)), some (.d (.int most)), none, none, none, none, none, none]) (z_if (A := fun _ => True) (t_test (y_op (A := fun x => ∃ r : Nat, x = .d (dN r)) (B := fun x => x = .d (.int 0)) (y_draw rfl y_intE (by decide) (by decide) fun r _ => ⟨r, rfl⟩) y_intE ?_)) (fun _ => z_ret (y_call (A := fun xs => xs = [.v (.ref fa), .d (.int most)]) (ap_consE (y_varE rfl) (ap_consE (y_varE rfl) (ap_nil rfl))) ?_)) fun _ => z_next rfl) ?_
  · rintro _ _ ⟨r, rfl⟩ rfl
    exact rp_eqI ⟨_, rfl, trivial⟩
  · rintro _ rfl
    exact sps_L ⟨most, rfl, hP⟩
  rintro _ rfl
  refine z_seq (M := fun d => ∃ many : Nat, 1 ≤ many ∧ many ≤ 4 ∧ d = [some (.v (.ref fa)), some (.d (.int most)), some (.d (dN many)), none, none, none, none, none]) (z_set (y_op (A := (· = .d (.int 1))) (B := fun x => ∃ r : Nat, r < 4 ∧ x = .d (dN r)) y_intE (y_draw rfl y_intE (by decide) (by decide) fun r hr => ⟨r, by omega, rfl⟩) ?_)) ?_
  · rintro _ _ rfl ⟨r, hr, rfl⟩
    refine rp_int ⟨1 + r, by omega, by omega, ?_⟩
    show [some _, some _, some (Dv.d (.int _)), none, none, none, none, none] = [some _, some _, some (Dv.d (.int _)), none, none, none, none, none]
    congr 5
  rintro _ ⟨many, m1, m4, rfl⟩
  have i1 : ∀ (a : Int) (ds : Fm), Yp K (WL fa ca cells) (tTup (tCons (tC (.int a)) tNil)) ds (· = .d (dIs [a])) := fun a ds => y_tup (n := 1) (ap_consE y_intE (ap_nil ⟨[_], rfl, rfl, rfl⟩))
  have i2 : ∀ (a b : Int) (ds : Fm), Yp K (WL fa ca cells) (tTup (tCons (tC (.int a)) (tCons (tC (.int b)) tNil))) ds (· = .d (dIs [a, b])) := fun a b ds => y_tup (n := 2) (ap_consE y_intE (ap_consE y_intE (ap_nil ⟨[_, _], rfl, rfl, rfl⟩)))
  have i3 : ∀ (a b c : Int) (ds : Fm), Yp K (WL fa ca cells) (tTup (tCons (tC (.int a)) (tCons (tC (.int b)) (tCons (tC (.int c)) tNil)))) ds (· = .d (dIs [a, b, c])) := fun a b c ds => y_tup (n := 3) (ap_consE y_intE (ap_consE y_intE (ap_consE y_intE (ap_nil ⟨[_, _, _], rfl, rfl, rfl⟩))))
  refine z_seq (M := fun d => ∃ sizes : List Int, (sizes ≠ [] ∧ sizes.length ≤ 3 ∧ ∀ z ∈ sizes, 0 < z ∧ z < 100) ∧ d = [some (.v (.ref fa)), some (.d (.int most)), some (.d (dN many)), some (.d (dIs sizes)), none, none, none, none]) (z_set (y_op (A := (· = .l (allSizes.map dIs))) (B := fun x => ∃ r : Nat, r < 7 ∧ x = .d (dN r)) (y_lst (n := 7) (ap_consE (i1 _ _) (ap_consE (i1 _ _) (ap_consE (i1 _ _) (ap_consE (i1 _ _) (ap_consE (i2 _ _ _) (ap_consE (i2 _ _ _) (ap_consE (i3 _ _ _ _) (ap_nil ⟨allSizes.map dIs, rfl, rfl, rfl⟩))))))))) (y_draw rfl y_intE (by decide) (by decide) fun r hr => ⟨r, by omega, rfl⟩) ?_)) ?_
  · rintro _ _ rfl ⟨r, hr, rfl⟩
    have hr' : r < allSizes.length := hr
    have he : atI (allSizes.map dIs) (r : Int) = some (dIs allSizes[r]) := by
      rw [atI_nat (by rw [List.length_map]; exact hr')]
      simp
    exact rp_ixL rfl he ⟨allSizes[r], sizes_ok _ (List.getElem_mem hr'), rfl⟩
  rintro _ ⟨sizes, ⟨sne, sl, sz⟩, rfl⟩
  refine z_seq (M := fun d => ∃ many : Nat, 1 ≤ many ∧ many ≤ 4 ∧ d = [some (.v (.ref fa)), some (.d (.int most)), some (.d (dN many)), some (.d (dIs sizes)), none, none, none, none]) (z_while (fun m d => 1 ≤ m ∧ m ≤ 4 ∧ d = [some (.v (.ref fa)), some (.d (.int most)), some (.d (dN m)), some (.d (dIs sizes)), none, none, none, none]) (m := many) ⟨m1, m4, rfl⟩ ?_) ?_
  · rintro many _ ⟨m1, m4, rfl⟩
    refine t_and (A := fun _ => True) (t_test (y_op (A := fun x => ∃ i : Int, x = .d (.int i)) (B := (· = .d (.int most))) (y_call (A := fun xs => xs = [.d (dIs (List.replicate many sizes).flatten)]) (ap_cons (A := (· = .d (dIs (List.replicate many sizes).flatten))) (y_opE (x := .d (dIs sizes)) (y := .d (dN many)) (y_varE rfl) (y_varE rfl) (rp_repA (by omega) (fun z => sne (List.map_eq_nil_iff.mp z)) (by rw [List.length_map]; omega) ?_)) (by rintro _ rfl; exact ap_nil rfl)) (by
      rintro _ rfl
      refine sps_0 fun H => ⟨_, fun n hn => ?_, .inr rfl, fun i => ⟨i, rfl⟩⟩
      obtain ⟨l, hl, hnl⟩ := List.mem_flatten.mp hn
      rw [(List.mem_replicate.mp hl).2] at hnl
      exact sz n hnl)) (y_varE rfl) ?_)) (fun _ => t_test (y_opE (x := .d (dN many)) (y := .d (.int 1)) (y_varE rfl) y_intE (rp_cmp ⟨_, rfl, ?_⟩))) fun _ => ?_
    · show Dv.d (.tuple _) = Dv.d (.tuple _)
      congr 2
      rw [show ((many : Int)).toNat = many by omega, flat_map]
    · rintro _ _ ⟨i, rfl⟩ rfl
      exact rp_cmp ⟨_, rfl, trivial⟩
    · split
      · rename_i e
        have e2 := of_decide_eq_true e
        exact z_set (y_mono (y_less (deep := many - 1) (i := 2) (by show some (some (Dv.d (dN many))) = some (some (Dv.d (dN (many - 1 + 1)))); rw [Nat.sub_add_cancel (by omega)])) (by rintro _ rfl; exact ⟨many - 1, by omega, by omega, by omega, rfl⟩))
      · exact ⟨many, m1, m4, rfl⟩
    · rw [if_neg Bool.false_ne_true]
      exact ⟨many, m1, m4, rfl⟩
  rintro _ ⟨many, m1, m4, rfl⟩
  refine z_seq (M := fun d => ∃ rules : List (List Rule), rules ≠ [] ∧ rules.length ≤ 2 ∧ (∀ rs ∈ rules, rs.length ≤ 10 ∧ ∀ r ∈ rs, RuOk sizes.length r) ∧ d = [some (.v (.ref fa)), some (.d (.int most)), some (.d (dN many)), some (.d (dIs sizes)), some (.d (.tuple (rules.map dRules))), none, none, none]) (z_set (y_cb (A := fun xs => ∃ rules : List (List Rule), rules ≠ [] ∧ rules.length ≤ 2 ∧ (∀ rs ∈ rules, rs.length ≤ 10 ∧ ∀ r ∈ rs, RuOk sizes.length r) ∧ xs = [.l (rules.map dRules)]) (ap_cons (A := fun x => ∃ rules : List (List Rule), rules ≠ [] ∧ rules.length ≤ 2 ∧ (∀ rs ∈ rules, rs.length ≤ 10 ∧ ∀ r ∈ rs, RuOk sizes.length r) ∧ x = .l (rules.map dRules))
    (y_lc (A := fun xs => ∃ n : Nat, 0 < n ∧ n ≤ 2 ∧ xs = rng n) (fun xs j acc => ∃ rules : List (List Rule), rules.length = j ∧ (∀ rs ∈ rules, rs.length ≤ 10 ∧ ∀ r ∈ rs, RuOk sizes.length r) ∧ acc = (rules.map dRules).map Dv.d)
      (ip_range (ap_cons (A := fun x => ∃ n : Nat, 0 < n ∧ n ≤ 2 ∧ x = .d (dN n)) (y_op (A := (· = .d (.int 1))) (B := fun x => ∃ r : Nat, r < 2 ∧ x = .d (dN r)) y_intE (y_draw rfl y_intE (by decide) (by decide) fun r hr => ⟨r, by omega, rfl⟩) ?_) (by rintro _ ⟨n, a, b, rfl⟩; exact ap_nil ⟨n, rfl, by omega, n, a, b, rfl⟩)))
      (by rintro _ ⟨n, _, _, rfl⟩; exact ⟨[], rfl, fun _ h => (by simp at h), rfl⟩) ?_ (by rintro _ ⟨n, _, _, rfl⟩; rw [rng_len]; omega) ?_) (by rintro _ ⟨rules, a, b, c, rfl⟩; exact ap_nil ⟨rules, a, b, c, rfl⟩)) (by rintro _ ⟨rules, a, b, c, rfl⟩; exact cp_tup rfl ⟨rules, a, b, c, rfl⟩))) ?_
  · rintro _ _ rfl ⟨r, hr, rfl⟩
    refine rp_int ⟨1 + r, by omega, by omega, ?_⟩
    show Dv.d (.int _) = Dv.d (.int _)
    congr 2
  · rintro _ ⟨n, _, _, rfl⟩ j x acc hx _ ⟨rules, r1, r2, rfl⟩
    obtain ⟨rfl, hj⟩ := rng_of hx
    refine t_yes ?_
    rw [if_pos rfl]
    refine y_call (A := fun xs => xs = [.v (.ref fa), .d (dIs sizes)]) (ap_consE (y_varE rfl) (ap_consE (y_varE rfl) (ap_nil rfl))) ?_
    rintro _ rfl
    refine sps_L ⟨sizes, sne, sl, rfl, fun rs h1 h2 => ⟨nl_Rules rs, rules ++ [rs], ?_, ?_, ?_⟩⟩
    · rw [List.length_append, r1]
      rfl
    · intro l hm
      rcases List.mem_append.mp hm with z | z
      · exact r2 l z
      · rw [List.mem_singleton.mp z]
        exact ⟨h1, h2⟩
    · rw [List.map_append, List.map_append]
      rfl
  · rintro _ acc ⟨n, n0, n2, rfl⟩ ⟨rules, r1, r2, rfl⟩
    rw [rng_len] at r1
    exact ⟨.l (rules.map dRules), ⟨rules, fun z => by rw [z] at r1; simp at r1; omega, by omega, r2, rfl⟩, fun H a us hu hd => ⟨a, us, rfl, hu, dpAll_of hd⟩⟩
  rintro _ ⟨rules, rne, rl, rok, rfl⟩
  have rlp : 0 < rules.length := List.length_pos_iff.mpr rne
  refine z_seq (M := fun d => ∃ kinds : List Nat, kinds.length = many ∧ (∀ k ∈ kinds, k < rules.length) ∧ d = [some (.v (.ref fa)), some (.d (.int most)), some (.d (dN many)), some (.d (dIs sizes)), some (.d (.tuple (rules.map dRules))), none, some (.d (dNs kinds)), none]) (z_set (y_cb (A := fun xs => ∃ kinds : List Nat, kinds.length = many ∧ (∀ k ∈ kinds, k < rules.length) ∧ xs = [.l (kinds.map dN)]) (ap_cons (A := fun x => ∃ kinds : List Nat, kinds.length = many ∧ (∀ k ∈ kinds, k < rules.length) ∧ x = .l (kinds.map dN))
    (y_lc (A := fun xs => xs = rng many) (fun xs j acc => ∃ kinds : List Nat, kinds.length = j ∧ (∀ k ∈ kinds, k < rules.length) ∧ acc = (kinds.map dN).map Dv.d)
      (ip_range (ap_consE (y_varE rfl) (ap_nil ⟨many, rfl, by omega, rfl⟩)))
      (by rintro _ rfl; exact ⟨[], rfl, fun _ h => (by simp at h), rfl⟩) ?_ (by rintro _ rfl; rw [rng_len]; omega) ?_) (by rintro _ ⟨kinds, a, b, rfl⟩; exact ap_nil ⟨kinds, a, b, rfl⟩)) (by rintro _ ⟨kinds, a, b, rfl⟩; exact cp_tup rfl ⟨kinds, a, b, rfl⟩))) ?_
  · rintro _ rfl j x acc hx _ ⟨kinds, r1, r2, rfl⟩
    obtain ⟨rfl, hj⟩ := rng_of hx
    refine t_yes ?_
    rw [if_pos rfl]
    refine y_draw (n := (rules.length : Int)) rfl (y_cb (A := fun xs => xs = [.d (.tuple (rules.map dRules))]) (ap_consE (y_varE rfl) (ap_nil rfl)) (by
      rintro _ rfl
      refine cp_len rfl ?_
      rw [List.length_map])) (by omega) (by omega) fun r hr => ⟨nl_N r, kinds ++ [r], ?_, ?_, ?_⟩
    · rw [List.length_append, r1]
      rfl
    · intro l hm
      rcases List.mem_append.mp hm with z | z
      · exact r2 l z
      · rw [List.mem_singleton.mp z]
        omega
    · rw [List.map_append, List.map_append]
      rfl
  · rintro _ acc rfl ⟨kinds, r1, r2, rfl⟩
    rw [rng_len] at r1
    exact ⟨.l (kinds.map dN), ⟨kinds, r1, r2, rfl⟩, fun H a us hu hd => ⟨a, us, rfl, hu, dpAll_of hd⟩⟩
  rintro _ ⟨kinds, kl, kok, rfl⟩
  refine z_ret (y_tup (n := 4) (ap_cons (A := fun x => ∃ eyes : List (List Nat), eyes.length = many ∧ (∀ l ∈ eyes, l.length ≤ 6 ∧ ∀ e ∈ l, e < many) ∧ x = .d (dEyes eyes)) (y_call (A := fun xs => xs = [.v (.ref fa), .d (dN many)]) (ap_consE (y_varE rfl) (ap_consE (y_varE rfl) (ap_nil rfl))) ?_) ?_))
  · rintro _ rfl
    exact sps_L ⟨many, m1, m4, rfl, fun eyes a b => ⟨eyes, a, b, rfl⟩⟩
  rintro _ ⟨eyes, el, eok, rfl⟩
  refine ap_consE (y_varE rfl) (ap_consE (y_varE rfl) (ap_consE (y_varE rfl) (ap_nil ⟨[_, _, _, _], rfl, rfl, hP ⟨eyes, sizes, kinds, rules⟩ ⟨⟨?_, fun l hl => (eok l hl).1, ?_, sl, fun z hz => (sz z hz).1, ?_, kok, fun rs h => (rok rs h).1, fun rs h r hr => ((rok rs h).2 r hr).1, fun rs h r hr => ((rok rs h).2 r hr).2.1, fun rs h r hr => ((rok rs h).2 r hr).2.2⟩, fun z hz => (sz z hz).2⟩⟩)))
  · show eyes.length ≤ 4
    omega
  · intro l hl e he
    show e < eyes.length
    rw [el]
    exact (eok l hl).2 e he
  · show kinds.length = eyes.length
    omega
end
end Sr

/-! Stands; hands apart. -/
namespace Sr
open PySem L2 PyProof.Rows
section
variable {p : Program} {w : World} {K : PySem.W.Frag} {mg : Str → Option Value} {base : Heap}
def preStd : PreL := fun xs P => ∃ S : Sys, SzOk S ∧ xs = [.d S.dat] ∧ ∀ st, StOk S st → P (.d (dStand st))
theorem ok_stand {f : Addr} {fd : FuncData} (F : Fun K "_law_stand" "_law_stand" s_law_stand f fd) (B : Blt mg) (c_law_draw : c_drawT p w K mg base) : FnOk p w K mg base CX0 2 f fd ["_law_feed_here", "_law_system_here"] (spL K preStd) := by
  refine ok_L F sc_law_stand (fun xs P h => ?_) fun cdv A outer s H E hr => ⟨_, (pss_cons (ps_set (i := 2) sc_law_stand.nd rfl (.inl rfl) (pe_lst pa_nil)) (pss_cons (ps_for PassesOwn.never rfl (pi_tup (pe_ix ix_tup (pv 1) pe_int (fun _ _ => rfl))) (pg_name (i := 3) sc_law_stand.nd rfl (.inl rfl)) (pss_one (ps_expr (pe_bm PySem.F.plainAttrs_list PySem.F.slot_list_append PySem.F.type_list_append mt_append (pv 2) (pa_cons (pe_callTy call_tuple_of (by rfl) B.tuple (by decide +kernel) (pa_cons (pe_lc (own := [("_law_size", 4)]) (g := gName 4) (tt := tYes) rfl sc_law_stand.nd (pi_tup (pe_ix ix_tup (pv 1) pe_int (fun _ _ => rfl))) (blkOk_by (N := ["_law_feed_here", "_law_system_here", "_law_found", "_law_hand", "_law_size"]) (sc := defScope s_law_stand) (by decide +kernel)) (fun _ _ _ _ _ => pg_name (i := 4) sc_law_stand.nd rfl (.inl rfl)) (fun _ _ _ _ _ => pts_nil) (fun _ _ _ _ _ => (pe_cal c_law_draw (hr.mono (by omega)) (by rfl) (pa_cons (pv 0) (pa_cons (pv 4) pa_nil))))) pa_nil)) pa_nil))))) (pss_one (ps_ret (pe_callTy call_tuple_of (by rfl) B.tuple (by decide +kernel) (pa_cons (pv 2) pa_nil)))))), fun fa ca cells xs P h => ?_⟩
  · obtain ⟨S, _, rfl, _⟩ := h
    rfl
  obtain ⟨S, ⟨o, oz⟩, rfl, hP⟩ := h
  have many := o.many
  have nb := o.nb
  have d0f : FmFl [some (.v (.ref fa)), some (.d S.dat), none, none, none] := .some trivial (.some (nl_Sys S) (.none (.none (.none .nil))))
  refine z_assoc (z_seq (M := fun d => ∃ st : Stand, StOk S st ∧ d[2]? = some (some (dLs K ((st.map dIs).map .d)))) (z_build (f := 2) (A0 := fun acc => acc = []) (A := fun xs => xs = (S.eyes.map dNs).map Dv.d)
    (fun xs i d acc => d = [some (.v (.ref fa)), some (.d S.dat), none, none, none] ∧ ∃ st : Stand, st.length = i ∧ (∀ b ∈ st, b.length = S.sizes.length) ∧ acc = (st.map dIs).map Dv.d)
    (ynew_nil rfl) d0f (show 2 < 5 by decide) (fun q => if_tup (y_opE (x := .d S.dat) (y := .d (.int 0)) (y_varE rfl) y_intE (rp_ixT (e := dEyes S.eyes) rfl ⟨_, rfl, fun e he => ?_, rfl⟩))) ?_ ?_ ?_ ?_) fun d hd => ?_)
  · obtain ⟨n, _, rfl⟩ := List.mem_map.mp he
    exact nl_Ns n
  · rintro xs acc rfl rfl
    exact ⟨rfl, [], rfl, fun _ h => (by simp at h), rfl⟩
  · rintro q xs rfl i x d acc hx hdl ⟨rfl, st, hl, hok, rfl⟩
    refine gp_name (zm_app rfl (y_cb (A := fun xs => ∃ b : List Int, b.length = S.sizes.length ∧ xs = [.l (b.map .int)]) (ap_cons (A := fun x => ∃ b : List Int, b.length = S.sizes.length ∧ x = .l (b.map .int)) (y_lc (A := fun xs => xs = (S.sizes.map PyData.int).map Dv.d) (fun xs j acc => ∃ b : List Int, b.length = j ∧ acc = (b.map PyData.int).map Dv.d)
      (ip_tup (y_opE (x := .d S.dat) (y := .d (.int 1)) (y_varE rfl) y_intE (rp_ixT (e := dIs S.sizes) rfl ⟨_, rfl, rfl⟩))) (by rintro _ rfl; exact ⟨[], rfl, rfl⟩) ?_ (by rintro _ rfl; rw [List.length_map, List.length_map]; omega) ?_) (by rintro _ ⟨b, a, rfl⟩; exact ap_nil ⟨b, a, rfl⟩)) ?_))
    · rintro _ rfl j y acc hy _ ⟨b, hb, rfl⟩
      obtain ⟨z, hz, rfl⟩ : ∃ z, S.sizes[j]? = some z ∧ y = .d (.int z) := by
        rw [List.getElem?_map, List.getElem?_map] at hy
        cases q : S.sizes[j]? with
        | none => rw [q] at hy; simp at hy
        | some l => rw [q] at hy; exact ⟨l, rfl, (by simpa using hy.symm)⟩
      have hm := List.mem_of_getElem? hz
      refine t_yes ?_
      rw [if_pos rfl]
      refine y_draw (n := z) rfl (y_varE rfl) (o.size z hm) (by have := oz z hm; omega) fun r _ => ⟨nl_N r, b ++ [(r : Int)], ?_, ?_⟩
      · rw [List.length_append, hb]
        rfl
      · rw [List.map_append, List.map_append]
        rfl
    · rintro _ acc rfl ⟨b, hb, rfl⟩
      rw [List.length_map, List.length_map] at hb
      exact ⟨.l (b.map .int), ⟨b, hb, rfl⟩, fun H a us hu hd => ⟨a, us, rfl, hu, dpAll_of hd⟩⟩
    rintro _ ⟨b, hb, rfl⟩
    refine cp_tup rfl ⟨by simp, fun y hy => ?_, rfl, _, .cons (.cons (.none (.none (.none .nil)))), rfl, d0f, rfl, st ++ [b], ?_, ?_, ?_⟩
    · rcases List.mem_append.mp hy with z | z
      · exact .inl z
      · rw [List.mem_singleton.mp z]
        exact .inr (nl_Is b)
    · rw [List.length_append, hl]
      rfl
    · intro l hm
      rcases List.mem_append.mp hm with z | z
      · exact hok l z
      · rw [List.mem_singleton.mp z]
        exact hb
    · rw [List.map_append, List.map_append]
      rfl
  · rintro xs rfl
    rw [List.length_map, List.length_map]
    omega
  · rintro xs d acc rfl hdl ⟨rfl, st, hl, hok, rfl⟩
    rw [List.length_map, List.length_map] at hl
    exact ⟨st, ⟨hl, hok⟩, rfl⟩
  obtain ⟨st, so, h3⟩ := hd
  exact z_ret (y_cb (A := fun xs => xs = [.l (st.map dIs)]) (ap_cons (y_varL h3 rfl) (by rintro _ rfl; exact ap_nil rfl)) (by rintro _ rfl; exact cp_tup rfl (hP st so)))
/-! ### apart -/
theorem mem_cast {n : Nat} {hs : List Nat} : (n : Int) ∈ (hs.map fun n : Nat => (n : Int)) ↔ n ∈ hs := ⟨fun h => by
  obtain ⟨a, ha, e⟩ := List.mem_map.mp h
  have : a = n := by omega
  exact this ▸ ha, fun h => List.mem_map.mpr ⟨n, h, rfl⟩⟩
def Apart (eyes : List (List Nat)) (hs : List Nat) : Prop := ∀ h ∈ hs, ∀ o ∈ eyes.getD h [], o ∉ hs
def preAp : Pre := fun _ xs P => ∃ (eyes : List (List Nat)) (hs : List Nat), (∀ l ∈ eyes, l.length ≤ 6) ∧ (∀ h ∈ hs, h < eyes.length) ∧ hs.length ≤ 10 ∧ xs = [.d (dEyes eyes), .d (dNs hs)] ∧ ∀ b : Bool, (b = true → Apart eyes hs) → P (.d (.bool b))
theorem ok_apart {f : Addr} {fd : FuncData} (F : Fun K "_law_apart" "_law_apart" s_law_apart f fd) (B : Blt mg) : FnOk p w K mg base CX0 1 f fd ["_law_web_here", "_law_hands"] (spD K W0 preAp) := by
  refine ok_D F sc_law_apart (fun H xs P h => ?_) fun cdv A outer s H E hr => ⟨_, (pss_cons (ps_for PassesOwn.never rfl (pi_tup (pv 1)) (pg_name (i := 2) sc_law_apart.nd rfl (.inl rfl)) (pss_one (ps_if (pt_cmpR  (op_neD hr.units) (pe_lc (own := [("_law_other", 3)]) (g := gName 3) rfl sc_law_apart.nd (pi_tup (pe_ix ix_tup (pv 0) (pv 2) (fun _ _ => rfl))) (blkOk_by (N := ["_law_web_here", "_law_hands", "_law_hand", "_law_other"]) (sc := defScope s_law_apart) (by decide +kernel)) (fun _ _ _ _ _ => pg_name (i := 3) sc_law_apart.nd rfl (.inl rfl)) (fun _ _ _ _ _ => pts_one (pt_cmpR  (r := rIn K false) op_in_seq (pv 3) (pv 1) rfl)) (fun _ _ _ _ _ => (pv 3))) (pe_lst pa_nil) (nomark _)) (pss_one (ps_ret pe_bl)) pss_nil))) (pss_one (ps_ret pe_bl))), fun H xs P _ h => ?_⟩
  · obtain ⟨eyes, hs, _, _, _, rfl, _⟩ := h
    rfl
  obtain ⟨eyes, hs, e6, hl, h10, rfl, hP⟩ := h
  refine ⟨W0, fun _ _ r => r, trivial, z_seq (M := fun _ => Apart eyes hs) (z_for (A := fun xs => xs = (hs.map dN).map Dv.d) (fun xs j d => (∀ h ∈ hs.take j, ∀ o ∈ eyes.getD h [], o ∉ hs) ∧ Fle [some (.d (dEyes eyes)), some (.d (dNs hs)), none, none] d) (ip_tup (y_var rfl ⟨_, rfl, rfl⟩)) ?_ ?_ ?_) fun d hd => z_ret (y_bl (hP true fun _ => hd))⟩
  · rintro _ rfl
    exact ⟨fun h hh => (by simp at hh), .refl _⟩
  · rintro _ rfl j x d hx ⟨hj, hd⟩
    obtain ⟨h, hh, rfl⟩ : ∃ h, hs[j]? = some h ∧ x = .d (dN h) := by
      rw [List.getElem?_map, List.getElem?_map] at hx
      cases q : hs[j]? with
      | none => rw [q] at hx; simp at hx
      | some l => rw [q] at hx; exact ⟨l, rfl, (by simpa using hx.symm)⟩
    have hlt := hl h (List.mem_of_getElem? hh)
    have l6 := e6 _ (getD_mem (b := []) hlt)
    refine gp_le hd (gp_name (z_if (A := fun b => b = !decide ((eyes.getD h []).filter (fun o => decide (o ∈ hs)) = [])) (t_test (y_opE (x := .l (((eyes.getD h []).filter (fun o => decide (o ∈ hs))).map dN)) (y := .l []) (y_filterD (ns := eyes.getD h []) (fun o => decide (o ∈ hs)) (ip_tup (y_opE (x := .d (dEyes eyes)) (y := .d (dN h)) (y_varE rfl) (y_varE rfl) (rp_ixE hlt ⟨_, rfl, rfl⟩))) (by omega) (by show 3 < 4; decide)
      (fun n _ => t_test (y_opE (x := .d (dN n)) (y := .d (dNs hs)) (y_varE rfl) (y_varE rfl) (rp_inI (neg := false) (ns := hs.map fun n : Nat => (n : Int)) (by rw [← map_dN]; rfl) ⟨_, rfl, ?_⟩))) rfl) (y_lst (n := 0) (ap_nil ⟨[], rfl, rfl, rfl⟩)) (rp_neD rfl rfl ((sh_lst (sh_map sh_N _)).ok (by decide)) ((sh_lst (k := 0) sh_nil).ok (by decide)) ⟨_, rfl, ?_⟩))) (fun _ => z_ret (y_bl (hP false fun z => nomatch z))) fun hb => z_next ?_))
    · rw [if_neg Bool.false_ne_true]
      exact decide_eq_decide.mpr mem_cast
    · cases (eyes.getD h []).filter (fun o => decide (o ∈ hs)) <;> simp [PyData.eqv, PyData.eqvAll]
    · have he : (eyes.getD h []).filter (fun o => decide (o ∈ hs)) = [] := of_decide_eq_true (by simpa using hb.symm)
      refine ⟨?_, .cons (.cons (.none (.none .nil)))⟩
      intro a ha o ho hm
      rw [List.take_add_one, hh] at ha
      rcases List.mem_append.mp ha with z | z
      · exact hj a z o ho hm
      · have z' : a = h := by simpa using z
        rw [z'] at ho
        have : o ∈ (eyes.getD h []).filter (fun o => decide (o ∈ hs)) := List.mem_filter.mpr ⟨ho, decide_eq_true hm⟩
        rw [he] at this
        simp at this
  · rintro _ d rfl ⟨h, _⟩
    rw [List.length_map, List.length_map, List.take_length] at h
    exact h
end
end Sr

/-! The law in plain words: choosers, order, acting one by one. -/
namespace Sr
open PySem L2
section
variable {S : Sys} {st : Stand}
theorem mem_some {r x : List Nat} : x ∈ choices .some r ↔ x ∈ (subs r).tail := List.mem_mergeSort
theorem one_in {r x : List Nat} (h : x ∈ choices .one r) : x ∈ choices .some r := by
  obtain ⟨a, ha, rfl⟩ := List.mem_map.mp h
  exact mem_some.mpr (tail_of_ne (subs_one ha) (by simp))
theorem all_in {r x : List Nat} (h : x ∈ choices .all r) : x ∈ choices .some r := by
  by_cases hr : r = []
  · rw [show choices .all r = [] from if_pos hr] at h
    simp at h
  · rw [show choices .all r = [r] from if_neg hr] at h
    rw [List.mem_singleton.mp h]
    exact mem_some.mpr (tail_of_ne (subs_all r) hr)
theorem steps_in {x : List Nat × Stand} (h : x ∈ S.steps .one st ++ S.steps .all st) : x ∈ S.steps .some st := by
  rcases List.mem_append.mp h with z | z
  · obtain ⟨hs, hm, rfl⟩ := List.mem_map.mp z
    exact List.mem_map.mpr ⟨hs, one_in hm, rfl⟩
  · obtain ⟨hs, hm, rfl⟩ := List.mem_map.mp z
    exact List.mem_map.mpr ⟨hs, all_in hm, rfl⟩
theorem steps_fair : S.steps .fair st = S.steps .one st := rfl
theorem some_len : (S.steps .some st).length + 1 = 2 ^ (S.ready st).length := by
  show ((choices .some (S.ready st)).map fun hs => (hs, S.act st hs)).length + 1 = _
  rw [List.length_map]
  show ((subs (S.ready st)).tail.mergeSort leHs).length + 1 = _
  rw [List.length_mergeSort, List.length_tail, ← subs_len]
  obtain ⟨t, e, _⟩ := subs_head (S.ready st)
  rw [e]
  simp
theorem one_len : (S.steps .one st).length = (S.ready st).length := by
  show ((choices .one (S.ready st)).map fun hs => (hs, S.act st hs)).length = _
  rw [List.length_map]
  show ((S.ready st).map ([·])).length = _
  rw [List.length_map]
/-! ### the order of the steps -/
theorem alike_all : ∀ {xs ys : List PyData}, (∀ x ∈ xs, ∀ y ∈ ys, PySem.W.alike x y = true) → PySem.W.alikeAll xs ys = true
  | [], _, _ => by simp [PySem.W.alikeAll]
  | _ :: _, [], _ => by simp [PySem.W.alikeAll]
  | x :: xs, y :: ys, h => by
    rw [PySem.W.alikeAll, h x List.mem_cons_self y List.mem_cons_self, alike_all fun a ha b hb => h a (List.mem_cons_of_mem _ ha) b (List.mem_cons_of_mem _ hb)]
    rfl
theorem alike_Is (a b : List Int) : PySem.W.alike (dIs a) (dIs b) = true := by
  show PySem.W.alike (.tuple _) (.tuple _) = true
  rw [PySem.W.alike]
  refine alike_all fun x hx y hy => ?_
  obtain ⟨i, _, rfl⟩ := List.mem_map.mp hx
  obtain ⟨j, _, rfl⟩ := List.mem_map.mp hy
  simp [PySem.W.alike]
theorem alike_Stand (a b : Stand) : PySem.W.alike (dStand a) (dStand b) = true := by
  show PySem.W.alike (.tuple _) (.tuple _) = true
  rw [PySem.W.alike]
  refine alike_all fun x hx y hy => ?_
  obtain ⟨i, _, rfl⟩ := List.mem_map.mp hx
  obtain ⟨j, _, rfl⟩ := List.mem_map.mp hy
  exact alike_Is i j
theorem alike_Step (a b : List Nat × Stand) : PySem.W.alike (dStep a) (dStep b) = true := by
  show PySem.W.alike (.tuple _) (.tuple _) = true
  rw [PySem.W.alike, PySem.W.alikeAll, PySem.W.alikeAll, alike_Ns, alike_Stand]
  simp [PySem.W.alikeAll]
theorem steps_alike (l : List (List Nat × Stand)) : PySem.W.AllAlike (l.map dStep) := fun d hd d' hd' => by
  obtain ⟨a, _, rfl⟩ := List.mem_map.mp hd
  obtain ⟨b, _, rfl⟩ := List.mem_map.mp hd'
  exact alike_Step a b
theorem steps_sortable (l : List (List Nat × Stand)) : PySem.W.Sortable (l.map dStep) := .inl fun d hd => by
  obtain ⟨a, _, rfl⟩ := List.mem_map.mp hd
  exact ⟨_, _, rfl⟩
theorem step_le {a b : List Nat} (h : leHs a b = true) : PySem.W.dataLe false id (dStep (a, S.act st a)) (dStep (b, S.act st b)) = true := by
  rw [PySem.W.dataLe_eq]
  show (!PySem.W.dataLt (dStep (b, S.act st b)) (dStep (a, S.act st a))) = true
  have h' : PySem.W.dataLt (dNs b) (dNs a) = false := by
    unfold leHs at h
    rw [PySem.W.dataLe_eq] at h
    have h2 : (!PySem.W.dataLt (dNs b) (dNs a)) = true := h
    simpa using h2
  unfold dStep
  rw [PySem.W.dataLt_pair (alike_Ns _ _) (alike_Stand _ _)]
  by_cases e : b = a
  · subst e
    rw [if_pos ((eqv_Ns b b).mpr rfl), if_pos ((eqv_Stand _ _).mpr rfl)]
    rfl
  · rw [if_neg (fun z => e ((eqv_Ns b a).mp z))]
    show (!PySem.W.dataLt (dNs b) (dNs a)) = true
    rw [h']
    rfl
theorem some_sorted : ((S.steps .some st).map dStep).mergeSort (PySem.W.dataLe false id) = (S.steps .some st).map dStep := by
  refine List.mergeSort_of_pairwise ?_
  show List.Pairwise _ (((((subs (S.ready st)).tail.mergeSort leHs).map fun hs => (hs, S.act st hs))).map dStep)
  rw [List.map_map]
  exact List.Pairwise.map _ (fun a b h => step_le h) (List.pairwise_mergeSort le_trans' le_total' _)
/-! ### acting -/
theorem act_get (B : Nat → List Int) : ∀ (hs : List Nat) (f : Stand) (k : Nat), (hs.foldl (fun f h => f.set h (B h)) f)[k]? = if k ∈ hs then (if k < f.length then some (B k) else none) else f[k]?
  | [], f, k => by simp
  | h :: r, f, k => by
    rw [List.foldl_cons, act_get B r, List.length_set]
    by_cases hk : k ∈ r
    · rw [if_pos hk, if_pos (List.mem_cons_of_mem _ hk)]
    · rw [if_neg hk]
      by_cases e : k = h
      · subst e
        rw [if_pos List.mem_cons_self, List.getElem?_set_self']
        by_cases hl : k < f.length
        · simp [hl]
        · simp [hl]
      · rw [if_neg (fun z => (List.mem_cons.mp z).elim e hk), List.getElem?_set_ne (Ne.symm e)]
theorem act_other {hs : List Nat} {k : Nat} (h : k ∉ hs) : (S.act st hs).getD k [] = st.getD k [] := by
  unfold Sys.act
  rw [List.getD_eq_getElem?_getD, List.getD_eq_getElem?_getD, act_get, if_neg h]
/-- what a hand does is told by what it sees -/
theorem seen_same {f : Stand} {h : Nat} (e : sight S.eyes f h = sight S.eyes st h) : S.ruleAt f h = S.ruleAt st h ∧ S.boxes f h = S.boxes st h := by
  have r : S.ruleAt f h = S.ruleAt st h := by unfold Sys.ruleAt; rw [e]
  refine ⟨r, ?_⟩
  have own : f.getD h [] = st.getD h [] := congrArg Sg.own e
  unfold Sys.boxes Sys.laysAt
  rw [r, own]
  congr 1
  funext bx l
  unfold Sys.laid
  rw [e]
theorem ready_iff {h : Nat} : h ∈ S.ready st ↔ h < st.length ∧ (S.ruleAt st h).isSome = true := by
  unfold Sys.ready
  rw [List.mem_filter, List.mem_range]
theorem walk_row {hs : List Nat} (ap : ∀ h ∈ hs, ∀ o ∈ S.eyes.getD h [], o ∉ hs) (re : ∀ h ∈ hs, h ∈ S.ready st) : ∀ (ms : List Nat) (f : Stand), (∀ h ∈ ms, h ∈ hs) → ms.Nodup → f.length = st.length → (∀ k, (k ∉ hs ∨ k ∈ ms) → f.getD k [] = st.getD k []) →
    WalkOk S .one f (ms.map ([·])) ∧ (ms.map ([·])).foldl S.act f = ms.foldl (fun f h => f.set h (S.boxes st h)) f
  | [], _, _, _, _, _ => ⟨trivial, rfl⟩
  | h :: r, f, hm, nd, fl, ag => by
    have hh := hm h List.mem_cons_self
    obtain ⟨nh, nr⟩ := List.nodup_cons.mp nd
    have e : sight S.eyes f h = sight S.eyes st h := by
      unfold sight seen
      rw [ag h (.inr List.mem_cons_self)]
      congr 1
      refine List.map_congr_left fun o ho => ?_
      rw [ag o (.inl (ap h hh o ho))]
    obtain ⟨e1, e2⟩ := seen_same e
    have rdy : h ∈ S.ready f := by
      obtain ⟨a, b⟩ := ready_iff.mp (re h hh)
      exact ready_iff.mpr ⟨by rw [fl]; exact a, by rw [e1]; exact b⟩
    have ea : S.act f [h] = f.set h (S.boxes st h) := by
      show f.set h (S.boxes f h) = _
      rw [e2]
    obtain ⟨w1, w2⟩ := walk_row ap re r (f.set h (S.boxes st h)) (fun x hx => hm x (List.mem_cons_of_mem _ hx)) nr (by rw [List.length_set]; exact fl) fun k hk => by
      have hne : h ≠ k := fun z => by
        subst z
        rcases hk with z | z
        · exact z hh
        · exact nh z
      rw [List.getD_eq_getElem?_getD, List.getElem?_set_ne hne, ← List.getD_eq_getElem?_getD]
      exact ag k (hk.imp id (List.mem_cons_of_mem _))
    refine ⟨⟨⟨⟨by simp, List.pairwise_singleton _ _, fun x hx => by rw [List.mem_singleton.mp hx]; exact rdy⟩, .inr ⟨rfl, rfl⟩⟩, ?_⟩, ?_⟩
    · show WalkOk S .one (S.act f [h]) (r.map ([·]))
      rw [ea]
      exact w1
    · show (r.map ([·])).foldl S.act (S.act f [h]) = r.foldl (fun f h => f.set h (S.boxes st h)) (f.set h (S.boxes st h))
      rw [ea]
      exact w2
theorem walk_apart {hs ms : List Nat} (ap : ∀ h ∈ hs, ∀ o ∈ S.eyes.getD h [], o ∉ hs) (a : ActOk S st hs) (pm : ms.Perm hs) : WalkOk S .one st (ms.map ([·])) ∧ (ms.map ([·])).foldl S.act st = S.act st hs := by
  have nd : hs.Nodup := a.up.imp fun h => Nat.ne_of_lt h
  obtain ⟨w1, w2⟩ := walk_row (st := st) ap a.re ms st (fun h hm => pm.subset hm) (pm.nodup_iff.mpr nd) rfl fun _ _ => rfl
  refine ⟨w1, w2.trans ?_⟩
  refine List.ext_getElem? fun k => ?_
  unfold Sys.act
  rw [act_get, act_get]
  by_cases h : k ∈ hs
  · rw [if_pos h, if_pos (pm.mem_iff.mpr h)]
  · rw [if_neg h, if_neg (fun z => h (pm.mem_iff.mp z))]
end
end Sr

/-! The law at one stand. -/
namespace Sr
open PySem L2 PyProof.Rows
theorem cut_map {α : Type} (f : α → PyData) (l : List α) (lo hi : Option Int) : ∃ l' : List α, cutD (l.map f) lo hi = l'.map f ∧ ∀ x ∈ l', x ∈ l :=
  ⟨(l.drop (HT.sIx (l.map f).length 0 lo)).take (HT.sIx (l.map f).length (l.map f).length hi - HT.sIx (l.map f).length 0 lo), by unfold cutD; rw [List.map_take, List.map_drop], fun x h => List.mem_of_mem_drop (List.mem_of_mem_take h)⟩
theorem map_at {α : Type} {f : α → PyData} {l : List α} {j : Nat} {x : Dv} (h : ((l.map f).map Dv.d)[j]? = some x) : ∃ a, l[j]? = some a ∧ a ∈ l ∧ x = .d (f a) := by
  rw [List.getElem?_map, List.getElem?_map] at h
  cases q : l[j]? with
  | none => rw [q] at h; simp at h
  | some a => rw [q] at h; exact ⟨a, rfl, List.mem_of_getElem? q, (by simpa using h.symm)⟩
section
variable {p : Program} {w : World} {K : PySem.W.Frag} {mg : Str → Option Value} {base : Heap}
def preRight : PreL := fun xs P => ∃ (S : Sys) (st : Stand), S.Ok ∧ StOk S st ∧ xs = [.d S.dat, .d (dStand st)] ∧ P (.d (.bool true))
theorem ok_right {f : Addr} {fd : FuncData} (F : Fun K "_law_right" "_law_right" s_law_right f fd) (B : Blt mg) (c_steps_at : Cal p w K mg base "steps_at" 18 ["system", "chooser", "stand"] (spD K W0 preSt)) (c_walked : Cal p w K mg base "walked" 18 ["system", "chooser", "stand", "row"] (spD K W0 preWk))
    (c_law_apart : Cal p w K mg base "_law_apart" 1 ["_law_web_here", "_law_hands"] (spD K W0 preAp)) (c_law_shuffled : Cal p w K mg base "_law_shuffled" 2 ["_law_feed_here", "_law_some"] (spL K preSh)) :
    FnOk p w K mg base CX0 19 f fd ["_law_feed_here", "_law_system_here", "_law_stand_here"] (spL K preRight) := by
  refine ok_L F sc_law_right (fun xs P h => ?_) fun cdv A outer s H E hr => ⟨_, (pss_cons (ps_set (i := 3) sc_law_right.nd rfl (.inr rfl) (pe_cal c_steps_at (hr.mono (by omega)) (by rfl) (pa_cons (pv 1) (pa_cons pe_str (pa_cons (pv 2) pa_nil))))) (pss_cons (ps_set (i := 4) sc_law_right.nd rfl (.inl rfl) (pe_cal c_steps_at (hr.mono (by omega)) (by rfl) (pa_cons (pv 1) (pa_cons pe_str (pa_cons (pv 2) pa_nil))))) (pss_cons (ps_set (i := 5) sc_law_right.nd rfl (.inl rfl) (pe_op op_cat (pv 4) (pe_cal c_steps_at (hr.mono (by omega)) (by rfl) (pa_cons (pv 1) (pa_cons pe_str (pa_cons (pv 2) pa_nil)))))) (pss_cons (ps_if (PW.pt (pw_or (pt_cmpR  (op_neD hr.units) (pe_lc (own := [("_law_step", 6)]) (g := gName 6) rfl sc_law_right.nd (pi_list (pv 5)) (blkOk_by (N := ["_law_feed_here", "_law_system_here", "_law_stand_here", "_law_some", "_law_ones", "_law_told", "_law_step", "_law_hands", "_law_behind", "_law_hand", "_law_row"]) (sc := defScope s_law_right) (by decide +kernel)) (fun _ _ _ _ _ => pg_name (i := 6) sc_law_right.nd rfl (.inl rfl)) (fun _ _ _ _ _ => pts_one (pt_cmpR  (r := rNotInD K) (op_notInD (room65 hr)) (pv 6) (pv 3) rfl)) (fun _ _ _ _ _ => (pv 6))) (pe_lst pa_nil) (nomark _)) (pw_or1 (pt_cmpR  (op_neD hr.units) (pe_cal c_steps_at (hr.mono (by omega)) (by rfl) (pa_cons (pv 1) (pa_cons pe_str (pa_cons (pv 2) pa_nil)))) (pv 4) (nomark _))))) (pss_one (ps_ret pe_bl)) pss_nil) (pss_cons (ps_if (PW.pt (pw_or (pt_cmpR  op_ne (pe_op op_add (pe_callB call_len_seq (by rfl) B.len PySem.boot_len (pa_cons (pv 3) pa_nil)) pe_int) (pe_op op_shl pe_int (pe_callB call_len_seq (by rfl) B.len PySem.boot_len (pa_cons (pv 4) pa_nil))) (nomark _)) (pw_or1 (pt_cmpR  (op_neD hr.units) (pe_callB (cr_sortD hr.units) (by rfl) B.sorted (by decide +kernel) (pa_cons (pv 3) pa_nil)) (pv 3) (nomark _))))) (pss_one (ps_ret pe_bl)) pss_nil) (pss_cons (ps_for PassesOwn.never rfl (pi_list (pe_op op_cat (pe_slice sl_list (pv 3) po_none (po_some pe_int)) (pe_slice sl_list (pv 3) (po_some (pe_un un_neg pe_int)) po_none))) (pg_tup rfl (pgs_cons (pg_name (i := 7) sc_law_right.nd rfl (.inr rfl)) (pgs_cons (pg_name (i := 8) sc_law_right.nd rfl (.inr rfl)) pgs_nil))) (pss_cons (ps_if (pt_cmpR  (op_neD hr.units) (pe_cal c_walked (hr.mono (by omega)) (by rfl) (pa_cons (pv 1) (pa_cons pe_str (pa_cons (pv 2) (pa_cons (pe_tup (pa_cons (pv 7) pa_nil)) pa_nil))))) (pv 8) (nomark _)) (pss_one (ps_ret pe_bl)) pss_nil) (pss_cons (ps_if (pt_cmpR  (op_neD hr.units) (pe_lc (own := [("_law_hand", 9)]) (g := gName 9) rfl sc_law_right.nd (pi_range1 rfl B.range (pa_cons (pe_callB call_len_seq (by rfl) B.len PySem.boot_len (pa_cons (pv 2) pa_nil)) pa_nil)) (blkOk_by (N := ["_law_feed_here", "_law_system_here", "_law_stand_here", "_law_some", "_law_ones", "_law_told", "_law_step", "_law_hands", "_law_behind", "_law_hand", "_law_row"]) (sc := defScope s_law_right) (by decide +kernel)) (fun _ _ _ _ _ => pg_name (i := 9) sc_law_right.nd rfl (.inl rfl)) (fun _ _ _ _ _ => pts_one (PW.pt (pw_and (pt_cmpR  (r := rIn K true) op_notIn_seq (pv 9) (pv 7) rfl) (pw_and1 (pt_cmpR  (r := rNeD K) (op_neD hr.units) (pe_ix (r := rIxT K) ix_tup (pv 2) (pv 9) (fun _ _ => rfl)) (pe_ix (r := rIxT K) ix_tup (pv 8) (pv 9) (fun _ _ => rfl)) (nomark _)))))) (fun _ _ _ _ _ => (pv 9))) (pe_lst pa_nil) (nomark _)) (pss_one (ps_ret pe_bl)) pss_nil) (pss_one (ps_if (pt_val (pe_cal c_law_apart (hr.mono (by omega)) (by rfl) (pa_cons (pe_ix ix_tup (pv 1) pe_int (fun _ _ => rfl)) (pa_cons (pv 7) pa_nil)))) (pss_cons (ps_set (i := 10) sc_law_right.nd rfl (.inl rfl) (pe_callTy call_tuple_of (by rfl) B.tuple (by decide +kernel) (pa_cons (pe_lc (own := [("_law_hand", 9)]) (g := gName 9) (tt := tYes) rfl sc_law_right.nd (pi_list (pe_cal c_law_shuffled (hr.mono (by omega)) (by rfl) (pa_cons (pv 0) (pa_cons (pv 7) pa_nil)))) (blkOk_by (N := ["_law_feed_here", "_law_system_here", "_law_stand_here", "_law_some", "_law_ones", "_law_told", "_law_step", "_law_hands", "_law_behind", "_law_hand", "_law_row"]) (sc := defScope s_law_right) (by decide +kernel)) (fun _ _ _ _ _ => pg_name (i := 9) sc_law_right.nd rfl (.inl rfl)) (fun _ _ _ _ _ => pts_nil) (fun _ _ _ _ _ => (pe_tup (pa_cons (pv 9) pa_nil)))) pa_nil))) (pss_one (ps_if (pt_cmpR  (op_neD hr.units) (pe_cal c_walked (hr.mono (by omega)) (by rfl) (pa_cons (pv 1) (pa_cons pe_str (pa_cons (pv 2) (pa_cons (pv 10) pa_nil))))) (pv 8) (nomark _)) (pss_one (ps_ret pe_bl)) pss_nil))) pss_nil))))) (pss_one (ps_ret pe_bl)))))))), fun fa ca cells xs P h => ?_⟩
  · obtain ⟨S, st, _, _, rfl, _⟩ := h
    rfl
  obtain ⟨S, st, o, so, rfl, hP⟩ := h
  have few : ∀ ch, (S.steps ch st).length ≤ 16 := fun ch => by
    unfold Sys.steps
    rw [List.length_map]
    exact choices_few o so ch
  have f1 := few .one
  have f2 := few .all
  have f3 := few .some
  have shl : ∀ l : List (List Nat × Stand), SeqAt.shaped (.list (l.map dStep)) = true := fun l => (sh_lst (sh_map sh_Step l)).ok (by decide)
  have sh0 : SeqAt.shaped (.list []) = true := (sh_lst (k := 0) sh_nil).ok (by decide)
  have steps : ∀ (ch : Ch) (s : String) (ds : Fm), ch.s = Str.ofString s → ds[1]? = some (some (.d S.dat)) → ds[2]? = some (some (.d (dStand st))) → Yp K (WL fa ca cells) (tCall (spD K W0 preSt) [] E0 (tCons (tVar 1) (tCons (tC (.str (Str.ofString s))) (tCons (tVar 2) tNil)))) ds (· = .l ((S.steps ch st).map dStep)) := fun ch s ds e h1 h2 =>
    y_call (A := fun xs => xs = [.d S.dat, .d (.str (Str.ofString s)), .d (dStand st)]) (ap_consE (y_varE h1) (ap_consE y_strE (ap_consE (y_varE h2) (ap_nil rfl)))) (by
      rintro _ rfl
      exact sps_0 fun H => ⟨S, st, ch, o, so, by rw [e], rfl⟩)
  refine z_seq (M := fun d => d = [some (.v (.ref fa)), some (.d S.dat), some (.d (dStand st)), some (.l ((S.steps .some st).map dStep)), none, none, none, none, none, none, none]) (z_set (y_mono (steps .some "some" _ rfl rfl rfl) (by rintro _ rfl; rfl))) ?_
  rintro _ rfl
  refine z_seq (M := fun d => d = [some (.v (.ref fa)), some (.d S.dat), some (.d (dStand st)), some (.l ((S.steps .some st).map dStep)), some (.l ((S.steps .one st).map dStep)), none, none, none, none, none, none]) (z_set (y_mono (steps .one "one" _ rfl rfl rfl) (by rintro _ rfl; rfl))) ?_
  rintro _ rfl
  refine z_seq (M := fun d => d = [some (.v (.ref fa)), some (.d S.dat), some (.d (dStand st)), some (.l ((S.steps .some st).map dStep)), some (.l ((S.steps .one st).map dStep)), some (.l ((S.steps .one st ++ S.steps .all st).map dStep)), none, none, none, none, none]) (z_set (y_opE (x := .l ((S.steps .one st).map dStep)) (y := .l ((S.steps .all st).map dStep)) (y_varE rfl) (steps .all "all" _ rfl rfl rfl) (rp_cat (by rw [List.length_map, List.length_map]; omega) (by rw [List.map_append]; rfl)))) ?_
  rintro _ rfl
  refine z_seq (M := fun d => d = _) (z_ifF (A := fun b => b = false) (t_or (A := fun b => b = false) (t_test (y_opE (x := .l []) (y := .l []) (y_lc (A := fun xs => xs = ((S.steps .one st ++ S.steps .all st).map dStep).map Dv.d) (fun xs j acc => acc = []) (ip_list (y_var rfl ⟨_, .inr rfl, rfl⟩)) (by rintro _ rfl; rfl) ?_ (by rintro _ rfl; rw [List.length_map, List.length_map, List.length_append]; omega) ?_) (y_lst (n := 0) (ap_nil ⟨[], rfl, rfl, rfl⟩)) (rp_neD rfl rfl sh0 sh0 ⟨_, rfl, by simp [PyData.eqv, PyData.eqvAll]⟩)))
    (fun _ => t_test (y_opE (x := .l ((S.steps .one st).map dStep)) (y := .l ((S.steps .one st).map dStep)) (steps .fair "fair" _ rfl rfl rfl) (y_varE rfl) (rp_neD rfl rfl (shl _) (shl _) ⟨_, rfl, by rw [(eqv_lst eqv_Step _ _).mpr rfl]; rfl⟩))) fun h => nomatch h) (fun _ h => h) rfl) ?_
  · rintro _ rfl j x acc hx _ rfl
    obtain ⟨a, ha, hm, rfl⟩ := map_at hx
    refine t_test (y_opE (x := .d (dStep a)) (y := .l ((S.steps .some st).map dStep)) (y_varE rfl) (y_varE rfl) (rp_notInD rfl rfl ((sh_Step a).ok (by decide)) (shl _) ⟨_, rfl, ?_⟩))
    have hs : ((S.steps .some st).map dStep).any (fun z => PyData.eqv z (dStep a)) = true := List.any_eq_true.mpr ⟨dStep a, List.mem_map.mpr ⟨a, steps_in hm, rfl⟩, (eqv_Step a a).mpr rfl⟩
    rw [hs]
    rfl
  · rintro _ acc rfl rfl
    exact ⟨.l [], rfl, fun H a us hu hd => ⟨a, us, rfl, hu, dpAll_of hd⟩⟩
  rintro _ rfl
  have n4 : (S.ready st).length ≤ 4 := by
    have := S.ready_len st
    have := so.len
    have := o.many
    omega
  have lenOf : ∀ (i : Nat) (l : List (List Nat × Stand)) (ds : Fm), ds[i]? = some (some (.l (l.map dStep))) → Yp K (WL fa ca cells) (tCB (rLenS K) (tCons (tVar i) tNil)) ds (· = .d (dN l.length)) := fun i l ds h => y_cb (A := fun xs => xs = [.l (l.map dStep)]) (ap_consE (y_varE h) (ap_nil rfl)) (by
    rintro _ rfl
    refine cp_len rfl ?_
    rw [List.length_map]
    rfl)
  refine z_seq (M := fun d => d = _) (z_ifF (A := fun b => b = false) (t_or (A := fun b => b = false) (t_test (y_opE (x := .d (.int ((S.steps .some st).length + 1 : Int))) (y := .d (.int (1 * 2 ^ ((S.steps .one st).length : Int).toNat))) (y_opE (x := .d (dN (S.steps .some st).length)) (y := .d (.int 1)) (lenOf 3 _ _ rfl) y_intE (rp_int rfl)) (y_opE (x := .d (.int 1)) (y := .d (dN (S.steps .one st).length)) y_intE (lenOf 4 _ _ rfl) (rp_intC ?_ rfl)) (rp_neI ⟨_, rfl, ?_⟩)))
    (fun _ => t_test (y_opE (x := .l ((S.steps .some st).map dStep)) (y := .l ((S.steps .some st).map dStep)) (y_cb (A := fun xs => xs = [.l ((S.steps .some st).map dStep)]) (ap_consE (y_varE rfl) (ap_nil rfl)) (by
      rintro _ rfl
      refine cp_sortD (.inl rfl) (steps_alike _) (steps_sortable _) (fun e he => ?_) ?_
      · obtain ⟨a, _, rfl⟩ := List.mem_map.mp he
        exact Nat.le_trans (sh_Step a).2 (by decide)
      · rw [some_sorted])) (y_varE rfl) (rp_neD rfl rfl (shl _) (shl _) ⟨_, rfl, by rw [(eqv_lst eqv_Step _ _).mpr rfl]; rfl⟩))) fun h => nomatch h) (fun _ h => h) rfl) ?_
  · refine ⟨by omega, by omega, by decide⟩
  · have e1 := some_len (S := S) (st := st)
    have e2 := one_len (S := S) (st := st)
    rw [show ((S.steps .one st).length : Int).toNat = (S.ready st).length by omega, Int.one_mul]
    have e3 : ((S.steps .some st).length : Int) + 1 = 2 ^ (S.ready st).length := by
      have : (((S.steps .some st).length + 1 : Nat) : Int) = ((2 ^ (S.ready st).length : Nat) : Int) := congrArg _ e1
      rw [Int.natCast_pow] at this
      exact this
    rw [decide_eq_true e3]
    rfl
  rintro _ rfl
  obtain ⟨l1, c1, m1⟩ := cut_map dStep (S.steps .some st) none (some (8 : Int))
  obtain ⟨l2, c2, m2⟩ := cut_map dStep (S.steps .some st) (some (-8 : Int)) none
  have len1 : ((S.steps .some st).map dStep).length ≤ 16 := by rw [List.length_map]; exact f3
  have cutlen : ∀ lo hi, (cutD ((S.steps .some st).map dStep) lo hi).length ≤ 16 := fun lo hi => by
    unfold cutD
    rw [List.length_take, List.length_drop]
    omega
  have k1 := cutlen none (some (8 : Int))
  have k2 := cutlen (some (-8 : Int)) none
  rw [c1] at k1
  rw [c2] at k2
  refine z_seq (M := fun _ => True) (z_for (A := fun xs => xs = ((l1 ++ l2).map dStep).map Dv.d) (fun xs j d => Fle [some (.v (.ref fa)), some (.d S.dat), some (.d (dStand st)), none, none, none, none, none, none, none, none] d) (ip_list (y_opE (x := .l (l1.map dStep)) (y := .l (l2.map dStep)) (y_slL (A := (· = .l ((S.steps .some st).map dStep))) (B := (· = none)) (C := (· = some 8)) (y_varE rfl) (o_none rfl) (o_some (y_int ⟨_, rfl, rfl⟩)) (by
    rintro x lo hi rfl rfl rfl
    exact ⟨_, rfl, by rw [c1]⟩)) (y_slL (A := (· = .l ((S.steps .some st).map dStep))) (B := (· = some (-8))) (C := (· = none)) (y_varE rfl) (o_some (y_un (A := (· = .d (.int 8))) y_intE (by rintro _ rfl; exact up_int ⟨_, rfl, rfl⟩))) (o_none rfl) (by
    rintro x lo hi rfl rfl rfl
    exact ⟨_, rfl, by rw [c2]⟩)) (rp_cat (by omega) ⟨_, .inr rfl, by simp only [List.map_append]⟩))) ?_ ?_ ?_) fun d _ => z_ret (y_bl hP)
  · rintro _ rfl
    exact .cons (.cons (.cons (.none (.none (.none (.none (.none (.none (.none (.none .nil))))))))))
  · rintro _ rfl j x d hx hd
    obtain ⟨a, ha, hm, rfl⟩ := map_at hx
    have hm' : a ∈ S.steps .some st := (List.mem_append.mp hm).elim (m1 a) (m2 a)
    obtain ⟨hs, hc, rfl⟩ := List.mem_map.mp hm'
    have ac : ActOk S st hs := choices_ok hc
    have hlt := ac.lt
    have hfew := ac.few o so
    refine gp_le hd (gp_tup rfl (gps_cons (gp_name (gps_cons (gp_name (gps_nil ?_))))))
    refine z_seq (M := fun d => d = [some (.v (.ref fa)), some (.d S.dat), some (.d (dStand st)), none, none, none, none, some (.d (dNs hs)), some (.d (dStand (S.act st hs))), none, none]) (z_ifF (A := fun b => b = false) (t_test (y_opE (x := .d (dStand (S.act st hs))) (y := .d (dStand (S.act st hs))) (y_call (A := fun xs => xs = [.d S.dat, .d (.str "some"), .d (dStand st), .d (.tuple ([hs].map dNs))]) (ap_consE (y_varE rfl) (ap_consE y_strE (ap_consE (y_varE rfl) (ap_consE (y_tup (n := 1) (ap_consE (y_varE rfl) (ap_nil ⟨[_], rfl, rfl, rfl⟩))) (ap_nil rfl))))) (by
      rintro _ rfl
      exact sps_0 fun H => ⟨S, st, .some, [hs], o, so, ⟨⟨ac, .inl rfl⟩, trivial⟩, rfl, rfl⟩)) (y_varE rfl) (rp_neD rfl rfl ((sh_Stand _).ok (by decide)) ((sh_Stand _).ok (by decide)) ⟨_, rfl, by rw [(eqv_Stand _ _).mpr rfl]; rfl⟩))) (fun _ h => h) rfl) ?_
    rintro _ rfl
    refine z_seq (M := fun d => d = _) (z_ifF (A := fun b => b = false) (t_test (y_opE (x := .l []) (y := .l []) (y_filterD (ns := List.range st.length) (fun _ => false) (ip_range (ap_cons (A := (· = .d (dN st.length))) (y_cb (A := fun xs => xs = [.d (dStand st)]) (ap_consE (y_varE rfl) (ap_nil rfl)) (by
      rintro _ rfl
      refine cp_len rfl ?_
      rw [List.length_map]
      rfl)) (by rintro _ rfl; exact ap_nil ⟨st.length, rfl, by have := so.len; have := o.many; omega, rng_N _⟩))) (by rw [List.length_range]; have := so.len; have := o.many; omega) (by show 9 < 11; decide) (fun n hn => ?_) (by simp)) (y_lst (n := 0) (ap_nil ⟨[], rfl, rfl, rfl⟩)) (rp_neD rfl rfl sh0 sh0 ⟨_, rfl, by simp [PyData.eqv, PyData.eqvAll]⟩))) (fun _ h => h) rfl) ?_
    · have hn' := List.mem_range.mp hn
      have hn2 : n < (S.act st hs).length := by unfold Sys.act; rw [act_len]; exact hn'
      refine t_and (A := fun b => b = decide (n ∉ hs)) (t_test (y_opE (x := .d (dN n)) (y := .d (dNs hs)) (y_varE rfl) (y_varE rfl) (rp_inI (neg := true) (ns := hs.map fun n : Nat => (n : Int)) (by rw [← map_dN]; rfl) ⟨_, rfl, ?_⟩))) (fun hb => t_test (y_opE (x := .d (dIs (st.getD n []))) (y := .d (dIs (st.getD n []))) (y_opE (x := .d (dStand st)) (y := .d (dN n)) (y_varE rfl) (y_varE rfl) (rp_ixS hn' rfl)) (y_opE (x := .d (dStand (S.act st hs))) (y := .d (dN n)) (y_varE rfl) (y_varE rfl) (rp_ixS hn2 ?_)) (rp_neD rfl rfl ((sh_Is _).ok (by decide)) ((sh_Is _).ok (by decide)) ⟨_, rfl, by rw [(eqv_Is _ _).mpr rfl]; rfl⟩))) fun _ => rfl
      · rw [if_pos rfl, decide_not]
        exact congrArg (! ·) (decide_eq_decide.mpr mem_cast)
      · rw [act_other (of_decide_eq_true hb.symm)]
    rintro _ rfl
    refine z_if (A := fun b => b = true → Apart S.eyes hs) (t_B (y_call (A := fun xs => xs = [.d (dEyes S.eyes), .d (dNs hs)]) (ap_consE (y_opE (x := .d S.dat) (y := .d (.int 0)) (y_varE rfl) y_intE (rp_ixT (e := dEyes S.eyes) rfl rfl)) (ap_consE (y_varE rfl) (ap_nil rfl))) (by
      rintro _ rfl
      exact sps_0 fun H => ⟨S.eyes, hs, o.wide, fun h hh => by rw [← so.len]; exact hlt h hh, by omega, rfl, fun b hb => ⟨b, rfl, hb⟩⟩))) (fun hap => ?_) fun _ => z_next (.cons (.cons (.cons (.none (.none (.none (.none (.none (.none (.none (.none .nil)))))))))))
    have ap := hap rfl
    refine z_seq (M := fun d => ∃ ms : List Nat, ms.Perm hs ∧ d = [some (.v (.ref fa)), some (.d S.dat), some (.d (dStand st)), none, none, none, none, some (.d (dNs hs)), some (.d (dStand (S.act st hs))), none, some (.d (.tuple ((ms.map ([·])).map dNs)))]) (z_set (y_cb (A := fun xs => ∃ ms : List Nat, ms.Perm hs ∧ xs = [.l ((ms.map ([·])).map dNs)]) (ap_cons (A := fun x => ∃ ms : List Nat, ms.Perm hs ∧ x = .l ((ms.map ([·])).map dNs)) (y_lc (A := fun xs => ∃ ms : List Nat, ms.Perm hs ∧ xs = (ms.map dN).map Dv.d) (fun xs j acc => ∃ ms : List Nat, ms.Perm hs ∧ xs = (ms.map dN).map Dv.d ∧ acc = (((ms.take j).map ([·])).map dNs).map Dv.d)
      (ip_list (y_call (A := fun xs => xs = [.v (.ref fa), .d (dNs hs)]) (ap_consE (y_varE rfl) (ap_consE (y_varE rfl) (ap_nil rfl))) (by
        rintro _ rfl
        exact sps_L ⟨_, hs, rfl, by omega, rfl, fun ms h => ⟨_, .inr rfl, ms, h, rfl⟩⟩))) (by rintro _ ⟨ms, h, rfl⟩; exact ⟨ms, h, rfl, rfl⟩) ?_ (by rintro _ ⟨ms, h, rfl⟩; rw [List.length_map, List.length_map, h.length_eq]; omega) ?_) (by rintro _ ⟨ms, h, rfl⟩; exact ap_nil ⟨ms, h, rfl⟩)) (by rintro _ ⟨ms, h, rfl⟩; exact cp_tup rfl ⟨ms, h, rfl⟩))) ?_
    · rintro _ _ i y acc hy _ ⟨ms, hp, rfl, rfl⟩
      obtain ⟨h, hh, _, rfl⟩ := map_at hy
      refine t_yes ?_
      rw [if_pos rfl]
      refine y_tup (n := 1) (ap_consE (y_varE rfl) (ap_nil ⟨[dN h], rfl, rfl, nl_Ns [h], ms, hp, rfl, ?_⟩))
      rw [List.take_add_one, hh, List.map_append, List.map_append, List.map_append]
      rfl
    · rintro _ acc _ ⟨ms, hp, rfl, rfl⟩
      rw [List.length_map, List.length_map, List.take_length]
      exact ⟨_, ⟨ms, hp, rfl⟩, fun H a us hu hd => ⟨a, us, rfl, hu, dpAll_of hd⟩⟩
    rintro _ ⟨ms, hp, rfl⟩
    obtain ⟨w1, w2⟩ := walk_apart ap ac hp
    refine z_ifF (A := fun b => b = false) (t_test (y_opE (x := .d (dStand (S.act st hs))) (y := .d (dStand (S.act st hs))) (y_call (A := fun xs => xs = [.d S.dat, .d (.str "one"), .d (dStand st), .d (.tuple ((ms.map ([·])).map dNs))]) (ap_consE (y_varE rfl) (ap_consE y_strE (ap_consE (y_varE rfl) (ap_consE (y_varE rfl) (ap_nil rfl))))) (by
      rintro _ rfl
      exact sps_0 fun H => ⟨S, st, .one, ms.map ([·]), o, so, w1, rfl, by rw [w2]⟩)) (y_varE rfl) (rp_neD rfl rfl ((sh_Stand _).ok (by decide)) ((sh_Stand _).ok (by decide)) ⟨_, rfl, by rw [(eqv_Stand _ _).mpr rfl]; rfl⟩))) (fun _ h => h) (.cons (.cons (.cons (.none (.none (.none (.none (.none (.none (.none (.none .nil)))))))))))
  · rintro _ _ rfl _
    trivial
end
end Sr

/-! The law. -/
namespace Sr
open PySem L2 PyProof.Rows
section
variable {p : Program} {w : World} {K : PySem.W.Frag} {mg : Str → Option Value} {base : Heap}
def spLaw (K : PySem.W.Frag) : Sp := fun vs H Q _ => ∃ (a : Addr) (ns : List Int), vs = [.ref a] ∧ SqL K H a (ns.map V.int) ∧ ns.length ≤ 63 ∧ ∀ H', Q (.bl true) H'
theorem ok_law {f : Addr} {fd : FuncData} (F : Fun K "law" "law" s_law f fd) (B : Blt mg) (c_law_feed : Cal p w K mg base "_law_feed" 1 ["_law_script"] (spFeed K)) (c_law_system : Cal p w K mg base "_law_system" 9 ["_law_feed_here", "_law_most"] (spL K preSys))
    (c_law_stand : Cal p w K mg base "_law_stand" 2 ["_law_feed_here", "_law_system_here"] (spL K preStd)) (c_law_right : Cal p w K mg base "_law_right" 19 ["_law_feed_here", "_law_system_here", "_law_stand_here"] (spL K preRight)) :
    FnOk p w K mg base CX0 20 f fd ["_law_script"] (spLaw K) := by
  refine F.ok sc_law (fun vs H Q E h => ?_) (fun cdv A outer s H vs Q E hr h => ⟨_, (pss_cons (ps_set (i := 1) sc_law.nd rfl (.inl rfl) (pe_cal c_law_feed (hr.mono (by omega)) (by rfl) (pa_cons (pv 0) pa_nil))) (pss_cons (ps_for PassesOwn.never rfl (pi_range1 rfl B.range (pa_cons pe_int pa_nil)) (pg_name (i := 2) sc_law.nd rfl (.inl rfl)) (pss_cons (ps_set (i := 3) sc_law.nd rfl (.inl rfl) (pe_cal c_law_system (hr.mono (by omega)) (by rfl) (pa_cons (pv 1) (pa_cons pe_int pa_nil)))) (pss_one (ps_for PassesOwn.never rfl (pi_range1 rfl B.range (pa_cons pe_int pa_nil)) (pg_name (i := 4) sc_law.nd rfl (.inl rfl)) (pss_one (ps_if (pt_not (pt_val (pe_cal c_law_right (hr.mono (by omega)) (by rfl) (pa_cons (pv 1) (pa_cons (pv 3) (pa_cons (pe_cal c_law_stand (hr.mono (by omega)) (by rfl) (pa_cons (pv 1) (pa_cons (pv 3) pa_nil))) pa_nil)))))) (pss_one (ps_ret pe_bl)) pss_nil)))))) (pss_one (ps_ret pe_bl)))), ?_⟩)
  · obtain ⟨a, ns, rfl, _⟩ := h
    rfl
  obtain ⟨a, ns, rfl, hS, h63, hQ⟩ := h
  refine ⟨.ref a, rfl, .ref a, ns, rfl, .lst hS (ints_dpAll ns), by omega, fun fa ca cells H1 hne hc63 fs same => ?_⟩
  have s0 : Sl K H1 (L2.start ["_law_script", "_law_feed_here", "_law_turn", "_law_system_here", "_law_k"] [.ref a]) [some (.v (.ref a)), none, none, none, none] := Sl.start (N := ["_law_script", "_law_feed_here", "_law_turn", "_law_system_here", "_law_k"]) (xs := [.v (.ref a)]) (.cons (show Dok K H1 (.v (.ref a)) _ from rfl) .nil)
  have s1 : Sl K H1 ((L2.start ["_law_script", "_law_feed_here", "_law_turn", "_law_system_here", "_law_k"] [.ref a]).set 1 (some (.ref fa))) [some (.v (.ref a)), some (.v (.ref fa)), none, none, none] := s0.set (x := .v (.ref fa)) 1 rfl
  refine (z_seq (M := fun _ => True) (z_for (A := fun xs => xs = rng 2) (fun xs j d => Fle [none, some (.v (.ref fa)), none, none, none] d) (ip_range (ap_consE (x := .d (dN 2)) y_intE (ap_nil ⟨2, rfl, by decide, rfl⟩))) ?_ ?_ ?_) fun d _ => z_ret (y_bl rfl) : Zp K (WL fa ca cells) _ [some (.v (.ref a)), some (.v (.ref fa)), none, none, none] (fun _ => False) (fun x => x = .d (.bool true))) _ _ H1 ⟨fs, hne, hc63⟩ s1 (fun _ _ _ _ _ z => z.elim) fun u H2 x r dx px => ?_
  · rintro _ rfl
    exact .none (.cons (.none (.none (.none .nil))))
  · rintro _ rfl j x d hx hd
    refine gp_le hd (gp_name (z_seq (M := fun d => ∃ S, SzOk S ∧ Fle [none, some (.v (.ref fa)), none, some (.d S.dat), none] d) (z_set (y_call (A := fun xs => xs = [.v (.ref fa), .d (.int 4096)]) (ap_consE (y_varE rfl) (ap_consE y_intE (ap_nil rfl))) ?_)) ?_))
    · rintro _ rfl
      exact sps_L ⟨4096, rfl, fun S ok => ⟨S, ok, .none (.cons (.none (.cons (.none .nil))))⟩⟩
    rintro d ⟨S, ok, hd⟩
    refine z_le hd (z_for (A := fun xs => xs = rng 2) (fun xs j d => Fle [none, some (.v (.ref fa)), none, some (.d S.dat), none] d) (ip_range (ap_consE (x := .d (dN 2)) y_intE (ap_nil ⟨2, rfl, by decide, rfl⟩))) ?_ ?_ ?_)
    · rintro _ rfl
      exact .refl _
    · rintro _ rfl j x d hx hd
      refine gp_le hd (gp_name (z_ifF (A := fun b => b = false) (t_not (t_B (y_call (A := fun xs => ∃ st, StOk S st ∧ xs = [.v (.ref fa), .d S.dat, .d (dStand st)]) (ap_consE (y_varE rfl) (ap_consE (y_varE rfl) (ap_cons (A := fun x => ∃ st, StOk S st ∧ x = .d (dStand st)) (y_call (A := fun xs => xs = [.v (.ref fa), .d S.dat]) (ap_consE (y_varE rfl) (ap_consE (y_varE rfl) (ap_nil rfl))) ?_) ?_))) ?_))) (fun _ h => h) ?_))
      · rintro _ rfl
        exact sps_L ⟨S, ok, rfl, fun st so => ⟨st, so, rfl⟩⟩
      · rintro _ ⟨st, so, rfl⟩
        exact ap_nil ⟨st, so, rfl⟩
      · rintro _ ⟨st, so, rfl⟩
        exact sps_L ⟨S, st, ok.1, so, rfl, _, rfl, rfl⟩
      · exact .none (.cons (.none (.cons (.none .nil))))
    · rintro _ d rfl hd
      exact (show Fle [none, some (.v (.ref fa)), none, none, none] [none, some (.v (.ref fa)), none, some (.d S.dat), none] from .none (.cons (.none (.none (.none .nil))))).trans hd
  · rintro _ _ rfl _
    trivial
  subst px
  obtain rfl := dp_bool dx
  exact hQ H2
end
end Sr

/-! All promises. -/
namespace Sr
open PySem L2 PyProof.Rows
section
variable {K : PySem.W.Frag} {mg : Str → Option Value} {C : Addr}
/-- a def as the top has left it -/
theorem df_of {h : Heap} {nm : Str} {st : Stmt} {ps : List Str} {f : Addr} {od an : Option Addr} {sl : Array (Option Value)} {oc kV dc pm cd ct : Value} (X : K.In h) (G : h.Ns mainGlobals mg)
    (hb : ∀ (kV doc pm : Value) (an : Option Addr) (cdv ct : Value) (us : List Value), us.length = ps.length → bindArgs (PySem.W.fnOf nm nm (defArgs st) (defBody st) (defScope st) .none kV doc pm an cdv ct) ⟨us, []⟩ = pure (ps.zip us))
    (a : PySem.W.nsIn K mainGlobals nm = some (some (.ref f))) (l : K.lookup f = some ⟨oc, od, .func (PySem.W.fnOf nm nm (defArgs st) (defBody st) (defScope st) .none kV dc pm an cd ct), sl⟩) (c : PySem.W.codeIn K cd nm = true) (k : PySem.W.keepIn K (.ref f) = true) : DF K mg nm st ps :=
  ⟨f, _, PySem.W.mg_of X G a, fun_mk l c k, (fun_mk l c k).binds hb⟩
theorem mf_of {nm qual : Str} {st : Stmt} {ps : List Str} {f : Addr} {od an : Option Addr} {sl : Array (Option Value)} {oc kV dc pm cd ct : Value}
    (hb : ∀ (kV doc pm : Value) (an : Option Addr) (cdv ct : Value) (us : List Value), us.length = ps.length → bindArgs (PySem.W.fnOf nm qual (defArgs st) (defBody st) (defScope st) .none kV doc pm an cdv ct) ⟨us, []⟩ = pure (ps.zip us))
    (a : PySem.W.findIn K (.ref C) nm = some (some (.ref f))) (i : PySem.W.isFn K (.ref f) = true) (l : K.lookup f = some ⟨oc, od, .func (PySem.W.fnOf nm qual (defArgs st) (defBody st) (defScope st) .none kV dc pm an cd ct), sl⟩) (c : PySem.W.codeIn K cd qual = true) (k : PySem.W.keepIn K (.ref f) = true) : MF K C nm qual st ps :=
  ⟨f, _, ⟨a, i, k⟩, fun_mk l c k, (fun_mk l c k).binds hb⟩
theorem mk_of {st : Stmt} {nm qual : Str} {ps : List Str} {f : Addr} {od an : Option Addr} {sl : Array (Option Value)} {oc kV dc pm cd ct : Value} (en : nm = "__init__")
    (hb : ∀ (kV doc pm : Value) (an : Option Addr) (cdv ct : Value) (us : List Value), us.length = ps.length → bindArgs (PySem.W.fnOf nm qual (defArgs st) (defBody st) (defScope st) .none kV doc pm an cdv ct) ⟨us, []⟩ = pure (ps.zip us))
    (m : PySem.W.makesIn K C = true) (kc : PySem.W.keepIn K (.ref C) = true)
    (a : PySem.W.findIn K (.ref C) nm = some (some (.ref f))) (i : PySem.W.isFn K (.ref f) = true) (l : K.lookup f = some ⟨oc, od, .func (PySem.W.fnOf nm qual (defArgs st) (defBody st) (defScope st) .none kV dc pm an cd ct), sl⟩) (c : PySem.W.codeIn K cd qual = true) (k : PySem.W.keepIn K (.ref f) = true) :
    ∃ (f : Addr) (fd : FuncData), Mk K C f ∧ Fun K nm qual st f fd ∧ Binds K fd ps [] := by
  subst en
  exact ⟨f, _, ⟨m, a, i, kc⟩, fun_mk l c k, (fun_mk l c k).binds hb⟩
end
theorem df_is {K : PySem.W.Frag} {h : Heap} {mg : Str → Option Value} {nm : Str} {st : Stmt} {ps : List Str} (_ : K.In h) (d : DF K mg nm st ps) : DF K mg nm st ps := d
theorem sg_is {K : PySem.W.Frag} {h : Heap} {mg : Str → Option Value} (_ : K.In h) (d : ∃ C, Sgt K mg C ∧ SgD K C) : ∃ C, Sgt K mg C ∧ SgD K C := d
section
variable {K : PySem.W.Frag} {mg : Str → Option Value} {C : Addr}
theorem sight_of {h : Heap} {f_ini f_ov f_pl f_ey f_rc f_nu f_so : Addr} {od_ini od_ov od_pl od_ey od_rc od_nu od_so an_ini an_ov an_pl an_ey an_rc an_nu an_so : Option Addr} {sl_ini sl_ov sl_pl sl_ey sl_rc sl_nu sl_so : Array (Option Value)} {oc_ini oc_ov oc_pl oc_ey oc_rc oc_nu oc_so kV_ini kV_ov kV_pl kV_ey kV_rc kV_nu kV_so dc_ini dc_ov dc_pl dc_ey dc_rc dc_nu dc_so pm_ini pm_ov pm_pl pm_ey pm_rc pm_nu pm_so cd_ini cd_ov cd_pl cd_ey cd_rc cd_nu cd_so ct_ini ct_ov ct_pl ct_ey ct_rc ct_nu ct_so : Value} (X : K.In h) (G : h.Ns mainGlobals mg)
    (aC : PySem.W.nsIn K mainGlobals "Sight" = some (some (.ref C))) (pg : PySem.W.plainGet K C Str.empty = true) (hd : PySem.W.hasDictIn K C = true) (po : PySem.W.plainOver K C = true) (sa : PySem.W.findIn K (.ref C) "__setattr__" = some (some (.builtin "object.__setattr__"))) (mk : PySem.W.makesIn K C = true) (kc : PySem.W.keepIn K (.ref C) = true)
    (nE : PySem.W.findIn K (.ref C) "eyes_told" = some none) (nS : PySem.W.findIn K (.ref C) "stand_told" = some none) (nO : PySem.W.findIn K (.ref C) "own_hand" = some none) (nL : PySem.W.findIn K (.ref C) "looked_at" = some none)
    (a_ini : PySem.W.findIn K (.ref C) "__init__" = some (some (.ref f_ini))) (i_ini : PySem.W.isFn K (.ref f_ini) = true) (l_ini : K.lookup f_ini = some ⟨oc_ini, od_ini, .func (PySem.W.fnOf "__init__" "Sight.__init__" (defArgs s_S_init) (defBody s_S_init) (defScope s_S_init) .none kV_ini dc_ini pm_ini an_ini cd_ini ct_ini), sl_ini⟩) (c_ini : PySem.W.codeIn K cd_ini "Sight.__init__" = true) (k_ini : PySem.W.keepIn K (.ref f_ini) = true)
    (a_ov : PySem.W.findIn K (.ref C) "over_others" = some (some (.ref f_ov))) (i_ov : PySem.W.isFn K (.ref f_ov) = true) (l_ov : K.lookup f_ov = some ⟨oc_ov, od_ov, .func (PySem.W.fnOf "over_others" "Sight.over_others" (defArgs s_S_over_others) (defBody s_S_over_others) (defScope s_S_over_others) .none kV_ov dc_ov pm_ov an_ov cd_ov ct_ov), sl_ov⟩) (c_ov : PySem.W.codeIn K cd_ov "Sight.over_others" = true) (k_ov : PySem.W.keepIn K (.ref f_ov) = true)
    (a_pl : PySem.W.findIn K (.ref C) "plain" = some (some (.ref f_pl))) (i_pl : PySem.W.isFn K (.ref f_pl) = true) (l_pl : K.lookup f_pl = some ⟨oc_pl, od_pl, .func (PySem.W.fnOf "plain" "Sight.plain" (defArgs s_S_plain) (defBody s_S_plain) (defScope s_S_plain) .none kV_pl dc_pl pm_pl an_pl cd_pl ct_pl), sl_pl⟩) (c_pl : PySem.W.codeIn K cd_pl "Sight.plain" = true) (k_pl : PySem.W.keepIn K (.ref f_pl) = true)
    (a_ey : PySem.W.findIn K (.ref C) "by_eye" = some (some (.ref f_ey))) (i_ey : PySem.W.isFn K (.ref f_ey) = true) (l_ey : K.lookup f_ey = some ⟨oc_ey, od_ey, .func (PySem.W.fnOf "by_eye" "Sight.by_eye" (defArgs s_S_by_eye) (defBody s_S_by_eye) (defScope s_S_by_eye) .none kV_ey dc_ey pm_ey an_ey cd_ey ct_ey), sl_ey⟩) (c_ey : PySem.W.codeIn K cd_ey "Sight.by_eye" = true) (k_ey : PySem.W.keepIn K (.ref f_ey) = true)
    (a_rc : PySem.W.findIn K (.ref C) "reckoned" = some (some (.ref f_rc))) (i_rc : PySem.W.isFn K (.ref f_rc) = true) (l_rc : K.lookup f_rc = some ⟨oc_rc, od_rc, .func (PySem.W.fnOf "reckoned" "Sight.reckoned" (defArgs s_S_reckoned) (defBody s_S_reckoned) (defScope s_S_reckoned) .none kV_rc dc_rc pm_rc an_rc cd_rc ct_rc), sl_rc⟩) (c_rc : PySem.W.codeIn K cd_rc "Sight.reckoned" = true) (k_rc : PySem.W.keepIn K (.ref f_rc) = true)
    (a_nu : PySem.W.findIn K (.ref C) "number_at" = some (some (.ref f_nu))) (i_nu : PySem.W.isFn K (.ref f_nu) = true) (l_nu : K.lookup f_nu = some ⟨oc_nu, od_nu, .func (PySem.W.fnOf "number_at" "Sight.number_at" (defArgs s_S_number_at) (defBody s_S_number_at) (defScope s_S_number_at) .none kV_nu dc_nu pm_nu an_nu cd_nu ct_nu), sl_nu⟩) (c_nu : PySem.W.codeIn K cd_nu "Sight.number_at" = true) (k_nu : PySem.W.keepIn K (.ref f_nu) = true)
    (a_so : PySem.W.findIn K (.ref C) "is_so" = some (some (.ref f_so))) (i_so : PySem.W.isFn K (.ref f_so) = true) (l_so : K.lookup f_so = some ⟨oc_so, od_so, .func (PySem.W.fnOf "is_so" "Sight.is_so" (defArgs s_S_is_so) (defBody s_S_is_so) (defScope s_S_is_so) .none kV_so dc_so pm_so an_so cd_so ct_so), sl_so⟩) (c_so : PySem.W.codeIn K cd_so "Sight.is_so" = true) (k_so : PySem.W.keepIn K (.ref f_so) = true)
    : Sgt K mg C ∧ SgD K C :=
  ⟨⟨⟨pg, hd, po, sa⟩, nE, nS, nO, nL, PySem.W.mg_of X G aC⟩, ⟨mk_of rfl (fun _ _ _ _ _ _ us hl => match us, hl with | [_, _, _, _, _], _ => rfl) mk kc a_ini i_ini l_ini c_ini k_ini, mf_of (fun _ _ _ _ _ _ us hl => match us, hl with | [_], _ => rfl) a_ov i_ov l_ov c_ov k_ov, mf_of (fun _ _ _ _ _ _ us hl => match us, hl with | [_, _], _ => rfl) a_pl i_pl l_pl c_pl k_pl, mf_of (fun _ _ _ _ _ _ us hl => match us, hl with | [_, _, _], _ => rfl) a_ey i_ey l_ey c_ey k_ey, mf_of (fun _ _ _ _ _ _ us hl => match us, hl with | [_, _], _ => rfl) a_rc i_rc l_rc c_rc k_rc, mf_of (fun _ _ _ _ _ _ us hl => match us, hl with | [_, _], _ => rfl) a_nu i_nu l_nu c_nu k_nu, mf_of (fun _ _ _ _ _ _ us hl => match us, hl with | [_, _], _ => rfl) a_so i_so l_so c_so k_so⟩⟩
end
structure AllD (K : PySem.W.Frag) (mg : Str → Option Value) (C : Addr) : Prop where
  T : Sgt K mg C
  D : SgD K C
  B : Blt mg
  mM : ∃ t, mg "MOST_READY" = some (.int 10 t)
  d_value_at : DF K mg "value_at" s_value_at ["eyes", "stand", "hand", "term"]
  d_holds_at : DF K mg "holds_at" s_holds_at ["eyes", "stand", "hand", "claim"]
  d_is_whole : DF K mg "is_whole" s_is_whole ["thing"]
  d_rule_at : DF K mg "rule_at" s_rule_at ["system", "stand", "hand"]
  d_ready_hands : DF K mg "ready_hands" s_ready_hands ["system", "stand"]
  d_boxes_behind : DF K mg "boxes_behind" s_boxes_behind ["system", "stand", "hand"]
  d_ask_acting : DF K mg "ask_acting" s_ask_acting ["system", "stand", "hands"]
  d_acted : DF K mg "acted" s_acted ["system", "stand", "hands"]
  d_choices : DF K mg "choices" s_choices ["chooser", "ready"]
  d_steps_at : DF K mg "steps_at" s_steps_at ["system", "chooser", "stand"]
  d_may_act : DF K mg "may_act" s_may_act ["system", "chooser", "stand", "thing"]
  d_walked : DF K mg "walked" s_walked ["system", "chooser", "stand", "row"]
  d_law_feed : DF K mg "_law_feed" s_law_feed ["_law_script"]
  d_law_draw : DF K mg "_law_draw" s_law_draw ["_law_feed_here", "_law_many"]
  d_law_shuffled : DF K mg "_law_shuffled" s_law_shuffled ["_law_feed_here", "_law_some"]
  d_law_web : DF K mg "_law_web" s_law_web ["_law_feed_here", "_law_many"]
  d_law_leaf : DF K mg "_law_leaf" s_law_leaf ["_law_feed_here", "_law_sizes", "_law_inner"]
  d_law_term : DF K mg "_law_term" s_law_term ["_law_feed_here", "_law_sizes", "_law_deep", "_law_inner"]
  d_law_claim : DF K mg "_law_claim" s_law_claim ["_law_feed_here", "_law_sizes", "_law_deep", "_law_inner"]
  d_law_rules : DF K mg "_law_rules" s_law_rules ["_law_feed_here", "_law_sizes"]
  d_law_product : DF K mg "_law_product" s_law_product ["_law_some"]
  d_law_token : DF K mg "_law_token" s_law_token ["_law_feed_here", "_law_most"]
  d_law_system : DF K mg "_law_system" s_law_system ["_law_feed_here", "_law_most"]
  d_law_stand : DF K mg "_law_stand" s_law_stand ["_law_feed_here", "_law_system_here"]
  d_law_apart : DF K mg "_law_apart" s_law_apart ["_law_web_here", "_law_hands"]
  d_law_right : DF K mg "_law_right" s_law_right ["_law_feed_here", "_law_system_here", "_law_stand_here"]
theorem law_fn {p : Program} {w : World} {K : PySem.W.Frag} {mg : Str → Option Value} {base : Heap} {C : Addr} (A : AllD K mg C) {f : Addr} {fd : FuncData} (F : Fun K "law" "law" s_law f fd) : FnOk p w K mg base CX0 20 f fd ["_law_script"] (spLaw K) := by
  have kI : CalI p w K mg base C 1 ["self", "eyes", "stand", "hand", "other"] (spIni C) := A.D.i A.T
  obtain ⟨num, iso⟩ : CalM p w K mg base C "number_at" 12 ["self", "term"] (spD K W0 (preT 4 K C)) ∧ CalM p w K mg base C "is_so" 12 ["self", "claim"] (spD K W0 (preC 4 K C)) := A.D.all A.T A.B 4
  have c_value_at : Cal p w K mg base "value_at" 13 ["eyes", "stand", "hand", "term"] (spD K W0 preVal) := A.d_value_at.cal fun f fd F => ok_val F A.T kI num
  have c_holds_at : Cal p w K mg base "holds_at" 13 ["eyes", "stand", "hand", "claim"] (spD K W0 preHol) := A.d_holds_at.cal fun f fd F => ok_hol F A.T kI iso
  have c_is_whole : Cal p w K mg base "is_whole" 1 ["thing"] (spD K W0 preWh) := A.d_is_whole.cal fun f fd F => ok_whole F A.B
  have c_rule_at : Cal p w K mg base "rule_at" 14 ["system", "stand", "hand"] (spD K W0 preRu) := A.d_rule_at.cal fun f fd F => ok_rule F A.B c_holds_at
  have c_ready_hands : Cal p w K mg base "ready_hands" 15 ["system", "stand"] (spD K W0 preRe) := A.d_ready_hands.cal fun f fd F => ok_ready F A.B c_rule_at
  have c_boxes_behind : Cal p w K mg base "boxes_behind" 15 ["system", "stand", "hand"] (spD K W0 preBx) := A.d_boxes_behind.cal fun f fd F => ok_boxes F A.B c_rule_at c_value_at
  have c_ask_acting : Cal p w K mg base "ask_acting" 16 ["system", "stand", "hands"] (spD K W0 preAsk) := A.d_ask_acting.cal fun f fd F => ok_ask F A.B c_ready_hands c_is_whole
  have c_acted : Cal p w K mg base "acted" 17 ["system", "stand", "hands"] (spD K W0 preAct) := A.d_acted.cal fun f fd F => ok_act F A.B c_ask_acting c_boxes_behind
  have c_choices : Cal p w K mg base "choices" 2 ["chooser", "ready"] (spD K W0 preCh) := A.d_choices.cal fun f fd F => ok_choices F A.B
  have c_steps_at : Cal p w K mg base "steps_at" 18 ["system", "chooser", "stand"] (spD K W0 preSt) := A.d_steps_at.cal fun f fd F => ok_steps F A.B A.mM c_ready_hands c_acted c_choices
  have c_may_act : Cal p w K mg base "may_act" 16 ["system", "chooser", "stand", "thing"] (spD K W0 preMay) := A.d_may_act.cal fun f fd F => ok_may F A.B c_ready_hands
  have c_walked : Cal p w K mg base "walked" 18 ["system", "chooser", "stand", "row"] (spD K W0 preWk) := A.d_walked.cal fun f fd F => ok_walked F A.B c_may_act c_acted
  have c_law_feed : Cal p w K mg base "_law_feed" 1 ["_law_script"] (spFeed K) := A.d_law_feed.cal fun f fd F => ok_law_feed F A.B
  have c_law_draw : Cal p w K mg base "_law_draw" 1 ["_law_feed_here", "_law_many"] spDraw := A.d_law_draw.cal fun f fd F => ok_law_draw F A.B
  have c_law_shuffled : Cal p w K mg base "_law_shuffled" 2 ["_law_feed_here", "_law_some"] (spL K preSh) := A.d_law_shuffled.cal fun f fd F => ok_shuffled F A.B c_law_draw
  have c_law_web : Cal p w K mg base "_law_web" 3 ["_law_feed_here", "_law_many"] (spL K preWeb) := A.d_law_web.cal fun f fd F => ok_web F A.B c_law_draw c_law_shuffled
  have c_law_leaf : Cal p w K mg base "_law_leaf" 2 ["_law_feed_here", "_law_sizes", "_law_inner"] (spL K preLeaf) := A.d_law_leaf.cal fun f fd F => ok_leaf F A.B c_law_draw
  have deep : Cal p w K mg base "_law_term" 7 ["_law_feed_here", "_law_sizes", "_law_deep", "_law_inner"] (spL K (preTe 2)) ∧ Cal p w K mg base "_law_claim" 7 ["_law_feed_here", "_law_sizes", "_law_deep", "_law_inner"] (spL K (preCl 2)) := deep_all A.d_law_term A.d_law_claim A.B c_law_draw c_law_leaf 2
  have c_law_rules : Cal p w K mg base "_law_rules" 8 ["_law_feed_here", "_law_sizes"] (spL K preRl) := A.d_law_rules.cal fun f fd F => ok_rules F A.B c_law_draw deep.1 deep.2
  have c_law_product : Cal p w K mg base "_law_product" 1 ["_law_some"] (spD K W0 preProd) := A.d_law_product.cal fun f fd F => ok_product F A.B
  have c_law_token : Cal p w K mg base "_law_token" 2 ["_law_feed_here", "_law_most"] (spL K preTok) := A.d_law_token.cal fun f fd F => ok_token F A.B c_law_draw c_law_product
  have c_law_system : Cal p w K mg base "_law_system" 9 ["_law_feed_here", "_law_most"] (spL K preSys) := A.d_law_system.cal fun f fd F => ok_system F A.B c_law_draw c_law_product c_law_token c_law_rules c_law_web
  have c_law_stand : Cal p w K mg base "_law_stand" 2 ["_law_feed_here", "_law_system_here"] (spL K preStd) := A.d_law_stand.cal fun f fd F => ok_stand F A.B c_law_draw
  have c_law_apart : Cal p w K mg base "_law_apart" 1 ["_law_web_here", "_law_hands"] (spD K W0 preAp) := A.d_law_apart.cal fun f fd F => ok_apart F A.B
  have c_law_right : Cal p w K mg base "_law_right" 19 ["_law_feed_here", "_law_system_here", "_law_stand_here"] (spL K preRight) := A.d_law_right.cal fun f fd F => ok_right F A.B c_steps_at c_walked c_law_apart c_law_shuffled
  exact ok_law F A.B c_law_feed c_law_system c_law_stand c_law_right
theorem walk {l : PySem.W.OpenLaw} {q : Program} {loose : List Str} {XP : (Str → Option Value) → Heap → Prop} {YP : World → Heap → Prop} {d : DefRec} {K : Params → PySem.W.Frag} (hn : l.most = some 63) (hdf : d.params.defaults = []) (hdn : d.name = "law")
    (hY : ∀ (w : World) (h : Heap), YP w h → (K w.params).In h)
    (F : ∀ (w : World) (mg : Str → Option Value) (h : Heap), (K w.params).In h → h.Ns mainGlobals mg → (∃ C, AllD (K w.params) mg C) ∧ DF (K w.params) mg "law" s_law ["_law_script"]) :
    PySem.W.WalkO q loose XP YP l.row.toRowW d [] (fun f vs => PySem.call f vs) :=
  L2.walk_of (n := 63) (k := 20) (x := "_law_script") (CX := fun _ => CX0) (sp := fun w => spLaw (K w.params)) hn (by decide) hdf ⟨rfl, by decide, by decide⟩ hY (fun w mg fa h KX G hm => by
    obtain ⟨⟨C, A⟩, f, fd, m, Fn, b⟩ := F w mg h KX G
    rw [hdn] at hm
    cases hm.symm.trans m
    obtain ⟨oc, od, kV, doc, pm, an, cdv, ct, osl, rfl, lk, hcd⟩ := Fn.ex
    exact ⟨_, fun s v => .of_eq rfl, fun base _ _ => law_fn A Fn⟩) (fun _ _ a ns hl _ hS => ⟨a, ns, rfl, hS, hl, fun _ => rfl⟩) fun _ _ _ _ _ z => z
end Sr

open PySem PySem.W PyProof.Rows
set_option maxRecDepth 100000 in
set_option maxHeartbeats 0 in
theorem PySem.Challenge.cw_selfrights_k28_whole_choosers_holds : PySem.Challenge.rw_selfrights_k28_whole_choosers.Holds := by
  w_on; o_law; k_head; (case hw => w_witness2)
  k_fill
  refine Sr.walk (l := PySem.Challenge.rw_selfrights_k28_whole_choosers) rfl rfl rfl (fun w h Y => PySem.W.kIn_of Y) ?F
  case F =>
    intro w mg h KX G
    have d_value_at := Sr.df_is (mg := mg) (nm := "value_at") (st := Sr.s_value_at) (ps := ["eyes", "stand", "hand", "term"]) KX (by
      refine' Sr.df_of KX G (fun _ _ _ _ _ _ us hl => match us, hl with | [_, _, _, _], _ => rfl) ?a ?l ?c ?k
      (case a => k_is); (case l => k_is); (case c => k_is); (case k => k_is))
    have d_holds_at := Sr.df_is (mg := mg) (nm := "holds_at") (st := Sr.s_holds_at) (ps := ["eyes", "stand", "hand", "claim"]) KX (by
      refine' Sr.df_of KX G (fun _ _ _ _ _ _ us hl => match us, hl with | [_, _, _, _], _ => rfl) ?a ?l ?c ?k
      (case a => k_is); (case l => k_is); (case c => k_is); (case k => k_is))
    have d_is_whole := Sr.df_is (mg := mg) (nm := "is_whole") (st := Sr.s_is_whole) (ps := ["thing"]) KX (by
      refine' Sr.df_of KX G (fun _ _ _ _ _ _ us hl => match us, hl with | [_], _ => rfl) ?a ?l ?c ?k
      (case a => k_is); (case l => k_is); (case c => k_is); (case k => k_is))
    have d_rule_at := Sr.df_is (mg := mg) (nm := "rule_at") (st := Sr.s_rule_at) (ps := ["system", "stand", "hand"]) KX (by
      refine' Sr.df_of KX G (fun _ _ _ _ _ _ us hl => match us, hl with | [_, _, _], _ => rfl) ?a ?l ?c ?k
      (case a => k_is); (case l => k_is); (case c => k_is); (case k => k_is))
    have d_ready_hands := Sr.df_is (mg := mg) (nm := "ready_hands") (st := Sr.s_ready_hands) (ps := ["system", "stand"]) KX (by
      refine' Sr.df_of KX G (fun _ _ _ _ _ _ us hl => match us, hl with | [_, _], _ => rfl) ?a ?l ?c ?k
      (case a => k_is); (case l => k_is); (case c => k_is); (case k => k_is))
    have d_boxes_behind := Sr.df_is (mg := mg) (nm := "boxes_behind") (st := Sr.s_boxes_behind) (ps := ["system", "stand", "hand"]) KX (by
      refine' Sr.df_of KX G (fun _ _ _ _ _ _ us hl => match us, hl with | [_, _, _], _ => rfl) ?a ?l ?c ?k
      (case a => k_is); (case l => k_is); (case c => k_is); (case k => k_is))
    have d_ask_acting := Sr.df_is (mg := mg) (nm := "ask_acting") (st := Sr.s_ask_acting) (ps := ["system", "stand", "hands"]) KX (by
      refine' Sr.df_of KX G (fun _ _ _ _ _ _ us hl => match us, hl with | [_, _, _], _ => rfl) ?a ?l ?c ?k
      (case a => k_is); (case l => k_is); (case c => k_is); (case k => k_is))
    have d_acted := Sr.df_is (mg := mg) (nm := "acted") (st := Sr.s_acted) (ps := ["system", "stand", "hands"]) KX (by
      refine' Sr.df_of KX G (fun _ _ _ _ _ _ us hl => match us, hl with | [_, _, _], _ => rfl) ?a ?l ?c ?k
      (case a => k_is); (case l => k_is); (case c => k_is); (case k => k_is))
    have d_choices := Sr.df_is (mg := mg) (nm := "choices") (st := Sr.s_choices) (ps := ["chooser", "ready"]) KX (by
      refine' Sr.df_of KX G (fun _ _ _ _ _ _ us hl => match us, hl with | [_, _], _ => rfl) ?a ?l ?c ?k
      (case a => k_is); (case l => k_is); (case c => k_is); (case k => k_is))
    have d_steps_at := Sr.df_is (mg := mg) (nm := "steps_at") (st := Sr.s_steps_at) (ps := ["system", "chooser", "stand"]) KX (by
      refine' Sr.df_of KX G (fun _ _ _ _ _ _ us hl => match us, hl with | [_, _, _], _ => rfl) ?a ?l ?c ?k
      (case a => k_is); (case l => k_is); (case c => k_is); (case k => k_is))
    have d_may_act := Sr.df_is (mg := mg) (nm := "may_act") (st := Sr.s_may_act) (ps := ["system", "chooser", "stand", "thing"]) KX (by
      refine' Sr.df_of KX G (fun _ _ _ _ _ _ us hl => match us, hl with | [_, _, _, _], _ => rfl) ?a ?l ?c ?k
      (case a => k_is); (case l => k_is); (case c => k_is); (case k => k_is))
    have d_walked := Sr.df_is (mg := mg) (nm := "walked") (st := Sr.s_walked) (ps := ["system", "chooser", "stand", "row"]) KX (by
      refine' Sr.df_of KX G (fun _ _ _ _ _ _ us hl => match us, hl with | [_, _, _, _], _ => rfl) ?a ?l ?c ?k
      (case a => k_is); (case l => k_is); (case c => k_is); (case k => k_is))
    have d_law_feed := Sr.df_is (mg := mg) (nm := "_law_feed") (st := Sr.s_law_feed) (ps := ["_law_script"]) KX (by
      refine' Sr.df_of KX G (fun _ _ _ _ _ _ us hl => match us, hl with | [_], _ => rfl) ?a ?l ?c ?k
      (case a => k_is); (case l => k_is); (case c => k_is); (case k => k_is))
    have d_law_draw := Sr.df_is (mg := mg) (nm := "_law_draw") (st := Sr.s_law_draw) (ps := ["_law_feed_here", "_law_many"]) KX (by
      refine' Sr.df_of KX G (fun _ _ _ _ _ _ us hl => match us, hl with | [_, _], _ => rfl) ?a ?l ?c ?k
      (case a => k_is); (case l => k_is); (case c => k_is); (case k => k_is))
    have d_law_shuffled := Sr.df_is (mg := mg) (nm := "_law_shuffled") (st := Sr.s_law_shuffled) (ps := ["_law_feed_here", "_law_some"]) KX (by
      refine' Sr.df_of KX G (fun _ _ _ _ _ _ us hl => match us, hl with | [_, _], _ => rfl) ?a ?l ?c ?k
      (case a => k_is); (case l => k_is); (case c => k_is); (case k => k_is))
    have d_law_web := Sr.df_is (mg := mg) (nm := "_law_web") (st := Sr.s_law_web) (ps := ["_law_feed_here", "_law_many"]) KX (by
      refine' Sr.df_of KX G (fun _ _ _ _ _ _ us hl => match us, hl with | [_, _], _ => rfl) ?a ?l ?c ?k
      (case a => k_is); (case l => k_is); (case c => k_is); (case k => k_is))
    have d_law_leaf := Sr.df_is (mg := mg) (nm := "_law_leaf") (st := Sr.s_law_leaf) (ps := ["_law_feed_here", "_law_sizes", "_law_inner"]) KX (by
      refine' Sr.df_of KX G (fun _ _ _ _ _ _ us hl => match us, hl with | [_, _, _], _ => rfl) ?a ?l ?c ?k
      (case a => k_is); (case l => k_is); (case c => k_is); (case k => k_is))
    have d_law_term := Sr.df_is (mg := mg) (nm := "_law_term") (st := Sr.s_law_term) (ps := ["_law_feed_here", "_law_sizes", "_law_deep", "_law_inner"]) KX (by
      refine' Sr.df_of KX G (fun _ _ _ _ _ _ us hl => match us, hl with | [_, _, _, _], _ => rfl) ?a ?l ?c ?k
      (case a => k_is); (case l => k_is); (case c => k_is); (case k => k_is))
    have d_law_claim := Sr.df_is (mg := mg) (nm := "_law_claim") (st := Sr.s_law_claim) (ps := ["_law_feed_here", "_law_sizes", "_law_deep", "_law_inner"]) KX (by
      refine' Sr.df_of KX G (fun _ _ _ _ _ _ us hl => match us, hl with | [_, _, _, _], _ => rfl) ?a ?l ?c ?k
      (case a => k_is); (case l => k_is); (case c => k_is); (case k => k_is))
    have d_law_rules := Sr.df_is (mg := mg) (nm := "_law_rules") (st := Sr.s_law_rules) (ps := ["_law_feed_here", "_law_sizes"]) KX (by
      refine' Sr.df_of KX G (fun _ _ _ _ _ _ us hl => match us, hl with | [_, _], _ => rfl) ?a ?l ?c ?k
      (case a => k_is); (case l => k_is); (case c => k_is); (case k => k_is))
    have d_law_product := Sr.df_is (mg := mg) (nm := "_law_product") (st := Sr.s_law_product) (ps := ["_law_some"]) KX (by
      refine' Sr.df_of KX G (fun _ _ _ _ _ _ us hl => match us, hl with | [_], _ => rfl) ?a ?l ?c ?k
      (case a => k_is); (case l => k_is); (case c => k_is); (case k => k_is))
    have d_law_token := Sr.df_is (mg := mg) (nm := "_law_token") (st := Sr.s_law_token) (ps := ["_law_feed_here", "_law_most"]) KX (by
      refine' Sr.df_of KX G (fun _ _ _ _ _ _ us hl => match us, hl with | [_, _], _ => rfl) ?a ?l ?c ?k
      (case a => k_is); (case l => k_is); (case c => k_is); (case k => k_is))
    have d_law_system := Sr.df_is (mg := mg) (nm := "_law_system") (st := Sr.s_law_system) (ps := ["_law_feed_here", "_law_most"]) KX (by
      refine' Sr.df_of KX G (fun _ _ _ _ _ _ us hl => match us, hl with | [_, _], _ => rfl) ?a ?l ?c ?k
      (case a => k_is); (case l => k_is); (case c => k_is); (case k => k_is))
    have d_law_stand := Sr.df_is (mg := mg) (nm := "_law_stand") (st := Sr.s_law_stand) (ps := ["_law_feed_here", "_law_system_here"]) KX (by
      refine' Sr.df_of KX G (fun _ _ _ _ _ _ us hl => match us, hl with | [_, _], _ => rfl) ?a ?l ?c ?k
      (case a => k_is); (case l => k_is); (case c => k_is); (case k => k_is))
    have d_law_apart := Sr.df_is (mg := mg) (nm := "_law_apart") (st := Sr.s_law_apart) (ps := ["_law_web_here", "_law_hands"]) KX (by
      refine' Sr.df_of KX G (fun _ _ _ _ _ _ us hl => match us, hl with | [_, _], _ => rfl) ?a ?l ?c ?k
      (case a => k_is); (case l => k_is); (case c => k_is); (case k => k_is))
    have d_law_right := Sr.df_is (mg := mg) (nm := "_law_right") (st := Sr.s_law_right) (ps := ["_law_feed_here", "_law_system_here", "_law_stand_here"]) KX (by
      refine' Sr.df_of KX G (fun _ _ _ _ _ _ us hl => match us, hl with | [_, _, _], _ => rfl) ?a ?l ?c ?k
      (case a => k_is); (case l => k_is); (case c => k_is); (case k => k_is))
    have d_law := Sr.df_is (mg := mg) (nm := "law") (st := Sr.s_law) (ps := ["_law_script"]) KX (by
      refine' Sr.df_of KX G (fun _ _ _ _ _ _ us hl => match us, hl with | [_], _ => rfl) ?a ?l ?c ?k
      (case a => k_is); (case l => k_is); (case c => k_is); (case k => k_is))
    have z_range : mg "range" = none := PySem.W.mg_none_of KX G (by k_is)
    have z_len : mg "len" = none := PySem.W.mg_none_of KX G (by k_is)
    have z_enumerate : mg "enumerate" = none := PySem.W.mg_none_of KX G (by k_is)
    have z_tuple : mg "tuple" = none := PySem.W.mg_none_of KX G (by k_is)
    have z_list : mg "list" = none := PySem.W.mg_none_of KX G (by k_is)
    have z_isinstance : mg "isinstance" = none := PySem.W.mg_none_of KX G (by k_is)
    have z_int : mg "int" = none := PySem.W.mg_none_of KX G (by k_is)
    have z_bool : mg "bool" = none := PySem.W.mg_none_of KX G (by k_is)
    have z_all : mg "all" = none := PySem.W.mg_none_of KX G (by k_is)
    have z_sorted : mg "sorted" = none := PySem.W.mg_none_of KX G (by k_is)
    have z_set : mg "set" = none := PySem.W.mg_none_of KX G (by k_is)
    have z_min : mg "min" = none := PySem.W.mg_none_of KX G (by k_is)
    have z_max : mg "max" = none := PySem.W.mg_none_of KX G (by k_is)
    have mM : ∃ t, mg "MOST_READY" = some (.int 10 t) := ⟨_, PySem.W.mg_of KX G (by k_is)⟩
    have sg := Sr.sg_is (mg := mg) KX (by
      refine' ⟨_, Sr.sight_of KX G ?aC ?pg ?hd ?po ?sa ?mk ?kc ?nE ?nS ?nO ?nL ?a_ini ?i_ini ?l_ini ?c_ini ?k_ini ?a_ov ?i_ov ?l_ov ?c_ov ?k_ov ?a_pl ?i_pl ?l_pl ?c_pl ?k_pl ?a_ey ?i_ey ?l_ey ?c_ey ?k_ey ?a_rc ?i_rc ?l_rc ?c_rc ?k_rc ?a_nu ?i_nu ?l_nu ?c_nu ?k_nu ?a_so ?i_so ?l_so ?c_so ?k_so⟩
      (case aC => k_is)
      (case pg => k_is)
      (case hd => k_is)
      (case po => k_is)
      (case sa => k_is)
      (case mk => k_is)
      (case kc => k_is)
      (case nE => k_is)
      (case nS => k_is)
      (case nO => k_is)
      (case nL => k_is)
      (case a_ini => k_is)
      (case i_ini => k_is)
      (case l_ini => k_is)
      (case c_ini => k_is)
      (case k_ini => k_is)
      (case a_ov => k_is)
      (case i_ov => k_is)
      (case l_ov => k_is)
      (case c_ov => k_is)
      (case k_ov => k_is)
      (case a_pl => k_is)
      (case i_pl => k_is)
      (case l_pl => k_is)
      (case c_pl => k_is)
      (case k_pl => k_is)
      (case a_ey => k_is)
      (case i_ey => k_is)
      (case l_ey => k_is)
      (case c_ey => k_is)
      (case k_ey => k_is)
      (case a_rc => k_is)
      (case i_rc => k_is)
      (case l_rc => k_is)
      (case c_rc => k_is)
      (case k_rc => k_is)
      (case a_nu => k_is)
      (case i_nu => k_is)
      (case l_nu => k_is)
      (case c_nu => k_is)
      (case k_nu => k_is)
      (case a_so => k_is)
      (case i_so => k_is)
      (case l_so => k_is)
      (case c_so => k_is)
      (case k_so => k_is))
    obtain ⟨C, T, D⟩ := sg
    exact ⟨⟨C, T, D, ⟨z_range, z_len, z_enumerate, z_tuple, z_list, z_isinstance, z_int, z_bool, z_all, z_sorted, z_set, z_min, z_max⟩, mM, d_value_at, d_holds_at, d_is_whole, d_rule_at, d_ready_hands, d_boxes_behind, d_ask_acting, d_acted, d_choices, d_steps_at, d_may_act, d_walked, d_law_feed, d_law_draw, d_law_shuffled, d_law_web, d_law_leaf, d_law_term, d_law_claim, d_law_rules, d_law_product, d_law_token, d_law_system, d_law_stand, d_law_apart, d_law_right⟩, d_law⟩

