import PyProof.Rows.All
import Wide.All
import OpenK.AllK
import Wide.FinOn
import HandS.ForMost
import HandS.Walk
import HandS.Star
import HandS.Deep
import HandS.TupAny
import HandS.TupMul
import HandS.Conv
import HandS.Wide
import HandS.IsInst
import HandS.Flow
import HandS.Nested
import HandS.RevRange
import HandS.Zip
import HandS.EndTab
import HandS.Defaults
import HandS.MakeKw
import HandS.HeadHook4
import HandS.HeadWalk
import HandS.Head0
import HandS.Head1
import HandS.Head2
import HandS.Style
import KE.GoesEnum
import HandS.SortRule
import HandS.NoneIn
import HandS.SortInts
import KE.SortData
import KE.DataCmp
import HandS.TupLe
import PySem.Challenge.RW_signstops_k12_main_whole_crests_near_the
set_option Elab.async false
set_option linter.all false
set_option maxRecDepth 100000
set_option maxHeartbeats 8000000
namespace AX
open PySem PySem.Spec PyProof.Rows L2

/-! ### values, the store, the relation -/
inductive Val where
  | p (d : PyData)
  | ob (r : Nat)
  | clo (g : List PyData → Option PyData)
  | obs (rs : List Nat)
  | pob (d : PyData) (r : Nat)
  | rg (lo hi : Int)
abbrev Sl := L2.St
abbrev Sto := List (List PyData)
abbrev Rho := List (Option Val)
abbrev EF := Rho → Sto → Option (Val × Sto)
abbrev TF := Rho → Sto → Option (Bool × Sto)
abbrev AF := Rho → Sto → Option (List Val × Sto)
inductive Fl where
  | nx | rt (v : Val) | bk | ct
abbrev SF := Rho → Sto → Option (Fl × Rho × Sto)
abbrev Fn := List Val → Sto → Option (Val × Sto)

structure Par where
  K : PySem.W.Frag
  fn : Addr → Hp → (List PyData → Option PyData) → Prop
  tb : List NdefX.NTab

/-- hidden objects (lists that are being made), mutable lists -/
structure Mw where
  hd : List Addr
  m : List Addr
def Mw.all (w : Mw) : List Addr := w.hd ++ w.m
def msk (m : Mw) (H : Hp) : Hp := fun a => if a ∈ m.all then none else match H a with
  | some (.tbl _) => none
  | o => o
theorem msk_some {m : Mw} {H : Hp} {a : Addr} {o : HO} (h : msk m H a = some o) : H a = some o ∧ a ∉ m.all ∧ ∀ ps, o ≠ .tbl ps := by
  unfold msk at h
  split at h
  · cases h
  · rename_i hn
    split at h
    · cases h
    · rename_i h2
      refine ⟨h, hn, fun ps e => ?_⟩
      subst e
      exact h2 ps h
theorem msk_of {m : Mw} {H : Hp} {a : Addr} {o : HO} (h : H a = some o) (hn : a ∉ m.all) (ht : ∀ ps, o ≠ .tbl ps) : msk m H a = some o := by
  unfold msk
  rw [if_neg hn, h]
  cases o <;> first | rfl | exact absurd rfl (ht _)
theorem msk_none {m : Mw} {H : Hp} {a : Addr} (h : H a = none) : msk m H a = none := by
  unfold msk
  split
  · rfl
  · rw [h]
theorem msk_sub (m : Mw) (H : Hp) : Same (msk m H) H := fun _ _ h => (msk_some h).1

structure Ev (m m' : Mw) (H H' : Hp) : Prop where
  pre : ∃ l, m' = ⟨m.hd, m.m ++ l⟩
  same : Same (msk m H) (msk m' H')
  hid : ∀ a ∈ m.hd, H' a = H a
theorem Ev.refl {m : Mw} {H : Hp} : Ev m m H H := ⟨⟨[], by simp⟩, Same.refl _, fun _ _ => rfl⟩
theorem Ev.trans {m m1 m2 : Mw} {H H1 H2 : Hp} (a : Ev m m1 H H1) (b : Ev m1 m2 H1 H2) : Ev m m2 H H2 := by
  obtain ⟨l, rfl⟩ := a.pre
  obtain ⟨l2, rfl⟩ := b.pre
  exact ⟨⟨l ++ l2, by simp⟩, a.same.trans b.same, fun c hc => (b.hid c hc).trans (a.hid c hc)⟩

theorem Same.sqL {K : PySem.W.Frag} {H H' : Hp} (e : Same H H') {a : Addr} {xs : List V} (h : SqL K H a xs) : SqL K H' a xs := by
  rcases h with (h | ⟨o, h⟩) | h
  · exact .inl (.inl (e _ _ h))
  · exact .inl (.inr ⟨o, e _ _ h⟩)
  · exact .inr h
theorem Same.sqT {K : PySem.W.Frag} {H H' : Hp} (e : Same H H') {a : Addr} {xs : List V} (h : SqT K H a xs) : SqT K H' a xs := by
  rcases h with (h | ⟨o, h⟩) | h
  · exact .inl (.inl (e _ _ h))
  · exact .inl (.inr ⟨o, e _ _ h⟩)
  · exact .inr h
mutual
/-- a value reads as data: its lists are tracked -/
inductive Dq (K : PySem.W.Frag) (H : Hp) : V → PyData → Prop
  | non : Dq K H .non .none
  | bl (b : Bool) : Dq K H (.bl b) (.bool b)
  | int (i : Int) : Dq K H (.int i) (.int i)
  | str (x : Str) : Dq K H (.str x) (.str x)
  | lst {a : Addr} {xs : List V} {ds : List PyData} : Rd H a (.lst xs) → DqAll K H xs ds → Dq K H (.ref a) (.list ds)
  | tup {a : Addr} {xs : List V} {ds : List PyData} : SqT K H a xs → DqAll K H xs ds → Dq K H (.ref a) (.tuple ds)
inductive DqAll (K : PySem.W.Frag) (H : Hp) : List V → List PyData → Prop
  | nil : DqAll K H [] []
  | cons {v : V} {vs : List V} {d : PyData} {ds : List PyData} : Dq K H v d → DqAll K H vs ds → DqAll K H (v :: vs) (d :: ds)
end
mutual
theorem dq_dp {K : PySem.W.Frag} {H : Hp} : ∀ (d : PyData) (v : V), Dq K H v d → Dp K H v d
  | .none, _, h => by cases h; exact .non
  | .bool b, _, h => by cases h; exact .bl b
  | .int i, _, h => by cases h; exact .int i
  | .str x, _, h => by cases h; exact .str x
  | .list ds, _, h => by
    cases h with
    | lst hs ha => exact .lst (.inl hs) (dqAll_dp ds _ ha)
  | .tuple ds, _, h => by
    cases h with
    | tup hs ha => exact .tup hs (dqAll_dp ds _ ha)
  | .dict kvs, _, h => by cases h
theorem dqAll_dp {K : PySem.W.Frag} {H : Hp} : ∀ (ds : List PyData) (vs : List V), DqAll K H vs ds → DpAll K H vs ds
  | [], _, h => by cases h; exact .nil
  | d :: ds, _, h => by
    cases h with
    | cons h1 h2 => exact .cons (dq_dp d _ h1) (dqAll_dp ds _ h2)
end
theorem Same.rd {H H' : Hp} (e : Same H H') {a : Addr} {u : HO} (h : Rd H a u) : Rd H' a u := by
  rcases h with h | ⟨o, h⟩
  · exact .inl (e _ _ h)
  · exact .inr ⟨o, e _ _ h⟩
mutual
theorem dp_mono {K : PySem.W.Frag} {H H' : Hp} (e : Same H H') : ∀ (d : PyData) (v : V), Dq K H v d → Dq K H' v d
  | .none, _, h => by cases h; exact .non
  | .bool b, _, h => by cases h; exact .bl b
  | .int i, _, h => by cases h; exact .int i
  | .str x, _, h => by cases h; exact .str x
  | .list ds, _, h => by
    cases h with
    | lst hs ha => exact .lst (Same.rd e hs) (dpAll_mono e ds _ ha)
  | .tuple ds, _, h => by
    cases h with
    | tup hs ha => exact .tup (Same.sqT e hs) (dpAll_mono e ds _ ha)
  | .dict kvs, _, h => by cases h
theorem dpAll_mono {K : PySem.W.Frag} {H H' : Hp} (e : Same H H') : ∀ (ds : List PyData) (vs : List V), DqAll K H vs ds → DqAll K H' vs ds
  | [], _, h => by cases h; exact .nil
  | d :: ds, _, h => by
    cases h with
    | cons h1 h2 => exact .cons (dp_mono e d _ h1) (dpAll_mono e ds _ h2)
end
theorem dpa_len {K : PySem.W.Frag} {H : Hp} : ∀ {vs : List V} {ds : List PyData}, DqAll K H vs ds → vs.length = ds.length
  | _, _, .nil => rfl
  | _, _, .cons _ h => by simp [dpa_len h]
theorem dpa_app {K : PySem.W.Frag} {H : Hp} : ∀ {vs us : List V} {ds es : List PyData}, DqAll K H vs ds → DqAll K H us es → DqAll K H (vs ++ us) (ds ++ es)
  | _, _, _, _, .nil, h => h
  | _, _, _, _, .cons a b, h => .cons a (dpa_app b h)
theorem dpa_get {K : PySem.W.Frag} {H : Hp} : ∀ {vs : List V} {ds : List PyData} {i : Nat} {d : PyData}, DqAll K H vs ds → ds[i]? = some d → ∃ v, vs[i]? = some v ∧ Dq K H v d
  | _, _, _, _, .nil, e => by simp at e
  | _, _, 0, _, .cons a _, e => by
    simp at e; subst e; exact ⟨_, by simp, a⟩
  | _, _, i + 1, _, .cons _ b, e => by
    obtain ⟨v, h1, h2⟩ := dpa_get b (i := i) (by simpa using e)
    exact ⟨v, by simpa using h1, h2⟩
theorem dpa_getr {K : PySem.W.Frag} {H : Hp} : ∀ {vs : List V} {ds : List PyData} {i : Nat} {v : V}, DqAll K H vs ds → vs[i]? = some v → ∃ d, ds[i]? = some d ∧ Dq K H v d
  | _, _, _, _, .nil, e => by simp at e
  | _, _, 0, _, .cons a _, e => by
    simp at e; subst e; exact ⟨_, by simp, a⟩
  | _, _, i + 1, _, .cons _ b, e => by
    obtain ⟨v, h1, h2⟩ := dpa_getr b (i := i) (by simpa using e)
    exact ⟨v, by simpa using h1, h2⟩
theorem dpa_take {K : PySem.W.Frag} {H : Hp} : ∀ {vs : List V} {ds : List PyData} (n : Nat), DqAll K H vs ds → DqAll K H (vs.take n) (ds.take n)
  | _, _, 0, _ => by simp; exact .nil
  | _, _, _ + 1, .nil => by simp; exact .nil
  | _, _, n + 1, .cons a b => by simp; exact .cons a (dpa_take n b)
theorem dpa_drop {K : PySem.W.Frag} {H : Hp} : ∀ {vs : List V} {ds : List PyData} (n : Nat), DqAll K H vs ds → DqAll K H (vs.drop n) (ds.drop n)
  | _, _, 0, h => by simpa using h
  | _, _, _ + 1, .nil => by simp; exact .nil
  | _, _, n + 1, .cons a b => by simp; exact dpa_drop n b
theorem dpa_set {K : PySem.W.Frag} {H : Hp} : ∀ {vs : List V} {ds : List PyData} (i : Nat) {v : V} {d : PyData}, DqAll K H vs ds → Dq K H v d → DqAll K H (vs.set i v) (ds.set i d)
  | _, _, _, _, _, .nil, _ => by simp; exact .nil
  | _, _, 0, _, _, .cons _ b, h => by simp; exact .cons h b
  | _, _, i + 1, _, _, .cons a b, h => by simp; exact .cons a (dpa_set i b h)
theorem dpa_rev {K : PySem.W.Frag} {H : Hp} : ∀ {vs : List V} {ds : List PyData}, DqAll K H vs ds → DqAll K H vs.reverse ds.reverse
  | _, _, .nil => by simp; exact .nil
  | _, _, .cons a b => by simp; exact dpa_app (dpa_rev b) (.cons a .nil)
theorem dpa_rep {K : PySem.W.Frag} {H : Hp} {vs : List V} {ds : List PyData} (h : DqAll K H vs ds) : ∀ k : Nat, DqAll K H (List.replicate k vs).flatten (List.replicate k ds).flatten
  | 0 => by simp; exact .nil
  | k + 1 => by simp only [List.replicate_succ, List.flatten_cons]; exact dpa_app h (dpa_rep h k)
theorem dpa_ints {K : PySem.W.Frag} {H : Hp} : ∀ ns : List Int, DqAll K H (ns.map V.int) (ns.map PyData.int)
  | [] => .nil
  | n :: ns => .cons (.int n) (dpa_ints ns)

theorem obs_pre {l l2 : List Addr} : ∀ {rs : List Nat} {as : List Addr}, rs.map (fun r => l[r]?) = as.map some → rs.map (fun r => (l ++ l2)[r]?) = as.map some
  | [], _, h => h
  | r :: rs, [], h => by cases h
  | r :: rs, a :: as, h => by
    rw [List.map_cons, List.map_cons] at h
    injection h with h1 h2
    have hr := (List.getElem?_eq_some_iff.mp h1).1
    rw [List.map_cons, List.map_cons, List.getElem?_append_left hr, h1, obs_pre h2]
/-- a value and its meaning; obs: a list that stays as it is, of lists that change -/
def RV (P : Par) (m : Mw) (H : Hp) : Val → V → Prop
  | .p d, v => Dq P.K (msk m H) v d
  | .ob r, v => ∃ a, v = .ref a ∧ m.m[r]? = some a
  | .clo g, v => ∃ a H0, v = .ref a ∧ Same H0 (msk m H) ∧ P.fn a H0 g
  | .obs rs, v => ∃ (a : Addr) (as : List Addr), v = .ref a ∧ msk m H a = some (.lst (as.map V.ref)) ∧ rs.map (fun r => m.m[r]?) = as.map some
  | .pob d r, v => ∃ (a : Addr) (u : V) (b : Addr), v = .ref a ∧ SqT P.K (msk m H) a [u, .ref b] ∧ Dq P.K (msk m H) u d ∧ m.m[r]? = some b
  | .rg lo hi, v => ∃ a : Addr, v = .ref a ∧ msk m H a = some (.rng lo hi)
theorem RV.mono {P : Par} {m m' : Mw} {H H' : Hp} {x : Val} {v : V} (e : Ev m m' H H') (h : RV P m H x v) : RV P m' H' x v := by
  cases x with
  | p d => exact dp_mono e.same d v h
  | ob r =>
    obtain ⟨a, rfl, h⟩ := h
    obtain ⟨l, rfl⟩ := e.pre
    refine ⟨a, rfl, ?_⟩
    have hr := (List.getElem?_eq_some_iff.mp h).1
    rw [List.getElem?_append_left hr, h]
  | clo g =>
    obtain ⟨a, H0, rfl, s, q⟩ := h
    exact ⟨a, H0, rfl, s.trans e.same, q⟩
  | obs rs =>
    obtain ⟨a, as, rfl, q1, q2⟩ := h
    obtain ⟨l, rfl⟩ := e.pre
    exact ⟨a, as, rfl, e.same a _ q1, obs_pre q2⟩
  | pob d r =>
    obtain ⟨a, u, b, rfl, q1, q2, q3⟩ := h
    obtain ⟨l, rfl⟩ := e.pre
    have hr := (List.getElem?_eq_some_iff.mp q3).1
    exact ⟨a, u, b, rfl, Same.sqT e.same q1, dp_mono e.same d u q2, by rw [List.getElem?_append_left hr, q3]⟩
  | rg lo hi =>
    obtain ⟨a, rfl, q⟩ := h
    exact ⟨a, rfl, e.same a _ q⟩
inductive RVs (P : Par) (m : Mw) (H : Hp) : List Val → List V → Prop where
  | nil : RVs P m H [] []
  | cons {x : Val} {v : V} {xs : List Val} {vs : List V} : RV P m H x v → RVs P m H xs vs → RVs P m H (x :: xs) (v :: vs)
theorem RVs.mono {P : Par} {m m' : Mw} {H H' : Hp} (e : Ev m m' H H') : ∀ {xs : List Val} {vs : List V}, RVs P m H xs vs → RVs P m' H' xs vs
  | _, _, .nil => .nil
  | _, _, .cons a b => .cons (a.mono e) (RVs.mono e b)
theorem RVs.len {P : Par} {m : Mw} {H : Hp} : ∀ {xs : List Val} {vs : List V}, RVs P m H xs vs → xs.length = vs.length
  | _, _, .nil => rfl
  | _, _, .cons _ b => by simp [RVs.len b]
theorem RVs.get {P : Par} {m : Mw} {H : Hp} : ∀ {xs : List Val} {vs : List V} {i : Nat} {x : Val}, RVs P m H xs vs → xs[i]? = some x → ∃ v, vs[i]? = some v ∧ RV P m H x v
  | _, _, _, _, .nil, e => by simp at e
  | _, _, 0, _, .cons a _, e => by simp at e; subst e; exact ⟨_, by simp, a⟩
  | _, _, i + 1, _, .cons _ b, e => by
    obtain ⟨v, h1, h2⟩ := RVs.get b (i := i) (by simpa using e)
    exact ⟨v, by simpa using h1, h2⟩
/-- pure values alone -/
def pures : List Val → Option (List PyData)
  | [] => some []
  | .p d :: r => match pures r with
    | some ds => some (d :: ds)
    | none => none
  | _ :: _ => none
@[simp] theorem pures_nil : pures [] = some [] := rfl
@[simp] theorem pures_cons (d : PyData) (r : List Val) : pures (.p d :: r) = (pures r).map (d :: ·) := by
  show (match pures r with | some ds => some (d :: ds) | none => none) = _
  cases pures r <;> rfl
theorem RVs.pure {P : Par} {m : Mw} {H : Hp} : ∀ {xs : List Val} {vs : List V} {ds : List PyData}, RVs P m H xs vs → pures xs = some ds → DqAll P.K (msk m H) vs ds
  | _, _, _, .nil, e => by cases e; exact .nil
  | _, _, _, .cons (x := x) (xs := xs) a b, e => by
    cases x with
    | p d =>
      unfold pures at e
      cases h : pures xs with
      | none => rw [h] at e; cases e
      | some es => rw [h] at e; cases e; exact .cons a (RVs.pure b h)
    | ob r => cases e
    | clo g => cases e
    | obs _ => cases e
    | pob _ _ => cases e
    | rg _ _ => cases e

structure RM (P : Par) (m : Mw) (H : Hp) (M : Sto) : Prop where
  nd : m.m.Nodup
  dis : ∀ a ∈ m.m, a ∉ m.hd
  len : m.m.length = M.length
  at_ : ∀ (i : Nat) a, m.m[i]? = some a → ∃ xs vs, M[i]? = some xs ∧ H a = some (.lst vs) ∧ DqAll P.K (msk m H) vs xs
  hid : ∀ a ∈ m.hd, ∃ xs, H a = some (.lst xs)
  tb : NdefX.TabsN P.tb H
structure RS (P : Par) (m : Mw) (H : Hp) (σ : Sl) (ρ : Rho) : Prop where
  len : σ.length = ρ.length
  at_ : ∀ (i : Nat) x, ρ[i]? = some (some x) → ∃ v, σ[i]? = some (some v) ∧ RV P m H x v
theorem RS.mono {P : Par} {m m' : Mw} {H H' : Hp} {σ : Sl} {ρ : Rho} (e : Ev m m' H H') (h : RS P m H σ ρ) : RS P m' H' σ ρ :=
  ⟨h.len, fun i x q => let ⟨v, h1, h2⟩ := h.at_ i x q; ⟨v, h1, h2.mono e⟩⟩
theorem RS.set {P : Par} {m : Mw} {H : Hp} {σ : Sl} {ρ : Rho} {i : Nat} {x : Val} {v : V} (h : RS P m H σ ρ) (r : RV P m H x v) : RS P m H (σ.set i (some v)) (ρ.set i (some x)) := by
  refine ⟨by simp [h.len], fun j y q => ?_⟩
  by_cases hj : i = j
  · subst hj
    by_cases hl : i < ρ.length
    · rw [List.getElem?_set_self hl] at q
      cases q
      exact ⟨v, by rw [List.getElem?_set_self (by rw [h.len]; exact hl)], r⟩
    · rw [List.getElem?_eq_none (by simpa using hl)] at q; cases q
  · rw [List.getElem?_set_ne hj] at q
    obtain ⟨w, h1, h2⟩ := h.at_ j y q
    exact ⟨w, by rw [List.getElem?_set_ne hj]; exact h1, h2⟩
theorem RM.mem {P : Par} {m : Mw} {H : Hp} {M : Sto} (h : RM P m H M) {a : Addr} (ha : a ∈ m.m) : ∃ vs, H a = some (.lst vs) := by
  obtain ⟨i, hi⟩ := List.getElem?_of_mem ha
  obtain ⟨_, vs, _, e, _⟩ := h.at_ i a hi
  exact ⟨vs, e⟩
theorem RM.notin {P : Par} {m : Mw} {H : Hp} {M : Sto} (h : RM P m H M) {p : Addr} (hp : H p = none) : p ∉ m.all := fun hm => by
  rcases List.mem_append.mp hm with hm | hm
  · obtain ⟨o, e⟩ := h.hid p hm
    rw [hp] at e; cases e
  · obtain ⟨vs, e⟩ := h.mem hm
    rw [hp] at e; cases e

/-! ### steps of the heap -/
section
variable {P : Par} {m : Mw} {H : Hp} {M : Sto} {p : Addr} {o : HO}
theorem same_upd (hp : H p = none) : Same H (upd H p o) := fun b u e => by
  rw [upd_ne (ne_of_none e hp)]; exact e
theorem ev_new (h : RM P m H M) (hp : H p = none) : Ev m m H (upd H p o) := by
  refine ⟨⟨[], by simp⟩, fun b u e => ?_, fun a ha => ?_⟩
  · obtain ⟨h1, h2, h3⟩ := msk_some e
    exact msk_of (by rw [upd_ne (ne_of_none h1 hp)]; exact h1) h2 h3
  · obtain ⟨u, e⟩ := h.hid a ha
    rw [upd_ne (ne_of_none e hp)]
theorem RM.ev {H' : Hp} (h : RM P m H M) (e : Ev m m H H') (hk : ∀ a ∈ m.m, H' a = H a) (ht : NdefX.TabsN P.tb H') : RM P m H' M :=
  ⟨h.nd, h.dis, h.len, fun i a q => by
    obtain ⟨xs, vs, h1, h2, h3⟩ := h.at_ i a q
    exact ⟨xs, vs, h1, by rw [hk a (List.mem_of_getElem? q)]; exact h2, dpAll_mono e.same _ _ h3⟩, fun a ha => by rw [e.hid a ha]; exact h.hid a ha, ht⟩
theorem RM.new (h : RM P m H M) (hp : H p = none) : RM P m (upd H p o) M :=
  h.ev (ev_new h hp) (fun a ha => by rw [upd_ne (fun z => h.notin hp (by rw [← z]; exact List.mem_append_right _ ha))]) (h.tb.ext (same_upd hp))
theorem msk_new (h : RM P m H M) (hp : H p = none) (ho : ∀ ps, o ≠ .tbl ps) : msk m (upd H p o) p = some o := msk_of upd_same (h.notin hp) ho
/-- a new mutable list -/
theorem mut_new {vs : List V} {xs : List PyData} (h : RM P m H M) (hp : H p = none) (hd : DqAll P.K (msk m H) vs xs) : Ev m ⟨m.hd, m.m ++ [p]⟩ H (upd H p (.lst vs)) ∧ RM P ⟨m.hd, m.m ++ [p]⟩ (upd H p (.lst vs)) (M ++ [xs]) := by
  have hn := h.notin hp
  have hn1 : p ∉ m.m := fun z => hn (List.mem_append_right _ z)
  have hn2 : p ∉ m.hd := fun z => hn (List.mem_append_left _ z)
  have ev : Ev m ⟨m.hd, m.m ++ [p]⟩ H (upd H p (.lst vs)) := by
    refine ⟨⟨[p], rfl⟩, fun b u e => ?_, fun a ha => ?_⟩
    · obtain ⟨h1, h2, h3⟩ := msk_some e
      have hb : b ≠ p := ne_of_none h1 hp
      refine msk_of (by rw [upd_ne hb]; exact h1) (fun z => ?_) h3
      unfold Mw.all at z h2
      simp only [List.mem_append, List.mem_singleton] at z h2
      rcases z with z | z | z
      · exact h2 (.inl z)
      · exact h2 (.inr z)
      · exact hb z
    · rw [upd_ne (fun z => hn2 (by rw [← z]; exact ha))]
  refine ⟨ev, ⟨?_, fun a ha => ?_, by simp [h.len], fun i a q => ?_, fun a ha => by rw [ev.hid a ha]; exact h.hid a ha, h.tb.ext (same_upd hp)⟩⟩
  · show (m.m ++ [p]).Nodup
    rw [List.nodup_append]
    refine ⟨h.nd, by simp, fun a ha b hb => ?_⟩
    have e : b = p := by simpa using hb
    subst e
    exact fun z => hn1 (z ▸ ha)
  · rcases List.mem_append.mp (show a ∈ m.m ++ [p] from ha) with ha | ha
    · exact h.dis a ha
    · have e : a = p := by simpa using ha
      subst e
      exact hn2
  · have q : (m.m ++ [p])[i]? = some a := q
    by_cases hi : i < m.m.length
    · rw [List.getElem?_append_left hi] at q
      obtain ⟨ys, us, h1, h2, h3⟩ := h.at_ i a q
      have ha := List.mem_of_getElem? q
      refine ⟨ys, us, ?_, ?_, dpAll_mono ev.same _ _ h3⟩
      · rw [List.getElem?_append_left (by rw [← h.len]; exact hi)]; exact h1
      · rw [upd_ne (fun z => hn1 (by rw [← z]; exact ha))]; exact h2
    · rw [List.getElem?_append_right (by omega)] at q
      have hi2 : i - m.m.length = 0 := by
        have := (List.getElem?_eq_some_iff.mp q).1
        simp at this; omega
      rw [hi2] at q
      have e : p = a := by simpa using q
      subst e
      refine ⟨xs, vs, ?_, upd_same, dpAll_mono ev.same _ _ hd⟩
      rw [List.getElem?_append_right (by rw [← h.len]; omega), ← h.len, hi2]; rfl
/-- a mutable list is written -/
theorem mut_set {r : Nat} {a : Addr} {vs : List V} {xs : List PyData} (h : RM P m H M) (ha : m.m[r]? = some a) (hd : DqAll P.K (msk m H) vs xs) : Ev m m H (upd H a (.lst vs)) ∧ RM P m (upd H a (.lst vs)) (M.set r xs) := by
  have hm := List.mem_of_getElem? ha
  have hma : a ∈ m.all := List.mem_append_right _ hm
  obtain ⟨_, us, _, hH, _⟩ := h.at_ r a ha
  have eq : msk m (upd H a (.lst vs)) = msk m H := by
    funext b
    unfold msk
    by_cases hb : b ∈ m.all
    · rw [if_pos hb, if_pos hb]
    · rw [if_neg hb, if_neg hb, upd_ne (fun z => hb (by rw [z]; exact hma))]
  have hh : ∀ b ∈ m.hd, upd H a (.lst vs) b = H b := fun b hb => upd_ne (fun z => h.dis a hm (by rw [← z]; exact hb))
  refine ⟨⟨⟨[], by simp⟩, by rw [eq]; exact Same.refl _, hh⟩, ⟨h.nd, h.dis, by simp [h.len], fun i b q => ?_, fun b hb => by rw [hh b hb]; exact h.hid b hb, ?_⟩⟩
  · rw [eq]
    by_cases hi : i = r
    · subst hi
      rw [ha] at q; cases q
      refine ⟨xs, vs, ?_, upd_same, hd⟩
      have := (List.getElem?_eq_some_iff.mp ha).1
      rw [List.getElem?_set_self (by rw [← h.len]; exact this)]
    · obtain ⟨ys, ws, h1, h2, h3⟩ := h.at_ i b q
      refine ⟨ys, ws, ?_, ?_, h3⟩
      · rw [List.getElem?_set_ne (fun z => hi z.symm)]; exact h1
      · rw [upd_ne (fun z => hi ((List.getElem?_inj (List.getElem?_eq_some_iff.mp q).1 h.nd).mp (q.trans (by rw [z]; exact ha.symm))))]; exact h2
  · intro q hq
    obtain ⟨ps, h1, h2, h3⟩ := h.tb q hq
    refine ⟨ps, ?_, h2, fun pos cv hc => ?_⟩
    · rw [upd_ne (ne_of h1 hH (fun z => by cases z))]; exact h1
    · obtain ⟨c, e1, e2⟩ := h3 pos cv hc
      exact ⟨c, e1, by rw [upd_ne (ne_of e2 hH (fun z => by unfold LamX.CodeO at z; cases z))]; exact e2⟩
end

/-! ### the canonical readings -/
def T (P : Par) (f : EF) : TE := fun σ H Q => ∃ ρ M m x M', RS P m H σ ρ ∧ RM P m H M ∧ f ρ M = some (x, M') ∧ ∀ v m' H', Ev m m' H H' → RV P m' H' x v → RM P m' H' M' → Q v H'
def TB (P : Par) (f : TF) : TT := fun σ H Q => ∃ ρ M m x M', RS P m H σ ρ ∧ RM P m H M ∧ f ρ M = some (x, M') ∧ ∀ m' H', Ev m m' H H' → RM P m' H' M' → Q x H'
def TAr (P : Par) (f : AF) : TA := fun σ H Q => ∃ ρ M m x M', RS P m H σ ρ ∧ RM P m H M ∧ f ρ M = some (x, M') ∧ ∀ vs m' H', Ev m m' H H' → RVs P m' H' x vs → RM P m' H' M' → Q vs H'
def TSt (P : Par) (f : SF) : TS := fun D σ H => ∃ ρ M m fl ρ' M', RS P m H σ ρ ∧ RM P m H M ∧ f ρ M = some (fl, ρ', M') ∧ match fl with
  | .nx => ∀ σ' m' H', Ev m m' H H' → RS P m' H' σ' ρ' → RM P m' H' M' → D.nx σ' H'
  | .rt x => ∀ v m' H', Ev m m' H H' → RV P m' H' x v → RM P m' H' M' → D.rt v H'
  | .bk => ∀ σ' m' H', Ev m m' H H' → RS P m' H' σ' ρ' → RM P m' H' M' → D.bk σ' H'
  | .ct => ∀ σ' m' H', Ev m m' H H' → RS P m' H' σ' ρ' → RM P m' H' M' → D.ct σ' H'
def TGt (P : Par) (g : Val → Rho → Sto → Option (Rho × Sto)) : TG := fun v σ H Q => ∃ ρ M m x ρ' M', RS P m H σ ρ ∧ RM P m H M ∧ RV P m H x v ∧ g x ρ M = some (ρ', M') ∧ ∀ σ' m' H', Ev m m' H H' → RS P m' H' σ' ρ' → RM P m' H' M' → Q σ' H'
theorem PE.weak {X : Cx} {e : Expr} {t t' : TE} (h : PE X e t) (w : ∀ σ H Q, t' σ H Q → t σ H Q) : PE X e t' := ⟨fun pins s σ H Q I q => h.run pins s σ H Q I (w σ H Q q)⟩
theorem PT.weak {X : Cx} {e : Expr} {t t' : TT} (h : PT X e t) (w : ∀ σ H Q, t' σ H Q → t σ H Q) : PT X e t' := ⟨fun pins s σ H Q I q => h.run pins s σ H Q I (w σ H Q q)⟩
theorem PW.weak {X : Cx} {e : Expr} {t t' : TT} (h : PW X e t) (w : ∀ σ H Q, t' σ H Q → t σ H Q) : PW X e t' := ⟨fun wh pins s σ H Q I q => h.run wh pins s σ H Q I (w σ H Q q)⟩
theorem PA.weak {X : Cx} {e : List Expr} {t t' : TA} (h : PA X e t) (w : ∀ σ H Q, t' σ H Q → t σ H Q) : PA X e t' := ⟨fun pos pins s σ H Q I q => h.run pos pins s σ H Q I (w σ H Q q)⟩
theorem PS.weak {X : Cx} {e : Stmt} {t t' : TS} (h : PS X e t) (w : ∀ D σ H, t' D σ H → t D σ H) : PS X e t' := ⟨fun pins s σ H D I q => h.run pins s σ H D I (w D σ H q)⟩
theorem PSs.weak {X : Cx} {e : List Stmt} {t t' : TS} (h : PSs X e t) (w : ∀ D σ H, t' D σ H → t D σ H) : PSs X e t' := ⟨fun pins s σ H D I q => h.run pins s σ H D I (w D σ H q)⟩
theorem PG.weak {X : Cx} {e : Expr} {t t' : TG} (h : PG X e t) (w : ∀ v σ H Q, t' v σ H Q → t v σ H Q) : PG X e t' := ⟨fun pins s σ H v u Q I r q => h.run pins s σ H v u Q I r (w v σ H Q q)⟩

/-- one after another -/
def bnd {α β : Type} : Option (α × Sto) → (α → Sto → Option β) → Option β
  | some (a, M), k => k a M
  | none, _ => none
@[simp] theorem bnd_some {α β : Type} (a : α) (M : Sto) (k : α → Sto → Option β) : bnd (some (a, M)) k = k a M := id rfl
@[simp] theorem bnd_none {α β : Type} (k : α → Sto → Option β) : bnd none k = none := rfl
theorem bnd_eq {α β : Type} {o : Option (α × Sto)} {k : α → Sto → Option β} {b : β} (h : bnd o k = some b) : ∃ a M, o = some (a, M) ∧ k a M = some b := by
  cases o with
  | none => cases h
  | some p => exact ⟨p.1, p.2, rfl, h⟩

/-! ### names, constants -/
section
variable {X : Cx} {P : Par} {pos : Pos}
def eVar (i : Nat) : EF := fun ρ M => match ρ[i]? with
  | some (some x) => some (x, M)
  | _ => none
def eC (d : PyData) : EF := fun _ M => some (.p d, M)
@[simp] theorem eC_run (d : PyData) (ρ : Rho) (M : Sto) : eC d ρ M = some (.p d, M) := rfl
theorem av (i : Nat) {x : Str} (hN : X.N[i]? = some x := by rfl) (hv : Vis X.env.scope x := by first | exact Or.inl rfl | exact Or.inr (Or.inl rfl) | exact Or.inr (Or.inr rfl)) (hd : (x == ("__debug__" : Str)) = false := by decide)
    (hcd : (x == ("__classdict__" : Str)) = false := by decide) : PE X (.Name x pos) (T P (eVar i)) := by
  refine PE.weak (pe_var hN hv hd hcd) fun σ H Q ⟨ρ, M, m, x, M', hs, hm, e, k⟩ => ?_
  unfold eVar at e
  split at e
  · rename_i y hy
    cases e
    obtain ⟨v, h1, h2⟩ := hs.at_ i _ hy
    exact ⟨v, h1, k v m H .refl h2 hm⟩
  · cases e
theorem aC {e : Expr} {v : V} {d : PyData} (h : PE X e (tC v)) (hd : ∀ H, Dq P.K H v d) : PE X e (T P (eC d)) := by
  refine PE.weak h fun σ H Q ⟨ρ, M, m, x, M', hs, hm, e, k⟩ => ?_
  cases e
  exact k v m H .refl (hd _) hm
theorem a_int {i j} : PE X (.Constant (.int i) j pos) (T P (eC (.int i))) := aC pe_int fun _ => .int i
theorem a_bl {i j} : PE X (.Constant (.bool i) j pos) (T P (eC (.bool i))) := aC pe_bl fun _ => .bl i
theorem a_str {i j} : PE X (.Constant (.str i) j pos) (T P (eC (.str i))) := aC pe_str fun _ => .str i
theorem a_non {j} : PE X (.Constant .none j pos) (T P (eC .none)) := aC pe_non fun _ => .non
/-- a constant of the module -/
theorem a_glob {x : Str} {v : V} {u : Value} {d : PyData} (hg : Gl X x) (hm : X.mg x = some u) (r : RelV v u) (hd : ∀ H, Dq P.K H v d) (hdb : (x == ("__debug__" : Str)) = false := by decide) : PE X (.Name x pos) (T P (eC d)) := aC (pe_glob hg hm r hdb) hd
end

/-! ### operators -/
abbrev BF := Val → Val → Sto → Option (Val × Sto)
def eBin (g : BF) (fa fb : EF) : EF := fun ρ M => bnd (fa ρ M) fun x M1 => bnd (fb ρ M1) fun y M2 => g x y M2
/-- the reading r answers for g -/
def SR2 (P : Par) (r : R2) (g : BF) : Prop := ∀ (x y : Val) (v u : V) (m : Mw) (H : Hp) (M : Sto) (z : Val) (M' : Sto) (Q : VK), RV P m H x v → RV P m H y u → RM P m H M → g x y M = some (z, M') →
  (∀ w m' H', Ev m m' H H' → RV P m' H' z w → RM P m' H' M' → Q w H') → r v u H Q
abbrev UF := Val → Sto → Option (Val × Sto)
def SR1 (P : Par) (r : V → Hp → VK → Prop) (g : UF) : Prop := ∀ (x : Val) (v : V) (m : Mw) (H : Hp) (M : Sto) (z : Val) (M' : Sto) (Q : VK), RV P m H x v → RM P m H M → g x M = some (z, M') →
  (∀ w m' H', Ev m m' H H' → RV P m' H' z w → RM P m' H' M' → Q w H') → r v H Q
section
variable {X : Cx} {P : Par} {pos : Pos} {a b c : Expr} {fa fb fc : EF} {g g' : BF} {r r' : R2}
theorem two_run (hr : SR2 P r g) : ∀ σ H Q, T P (eBin g fa fb) σ H Q → tOp r (T P fa) (T P fb) σ H Q := by
  intro σ H Q ⟨ρ, M, m, z, M', hs, hm, e, k⟩
  obtain ⟨x, M1, e1, e⟩ := bnd_eq e
  obtain ⟨y, M2, e2, e⟩ := bnd_eq e
  refine ⟨ρ, M, m, x, M1, hs, hm, e1, fun v m1 H1 ev1 rv1 rm1 => ?_⟩
  refine ⟨ρ, M1, m1, y, M2, hs.mono ev1, rm1, e2, fun u m2 H2 ev2 rv2 rm2 => ?_⟩
  exact hr x y v u m2 H2 M2 z M' Q (rv1.mono ev2) rv2 rm2 e fun w m' H' ev rv rm => k w m' H' ((ev1.trans ev2).trans ev) rv rm
theorem a_op {op : Operator} (ho : OpR X (binaryOp op) r) (hr : SR2 P r g) (ha : PE X a (T P fa)) (hb : PE X b (T P fb)) : PE X (.BinOp a op b pos) (T P (eBin g fa fb)) :=
  PE.weak (pe_op ho ha hb) (two_run hr)
theorem a_cmp {op : CmpOp} (ho : OpR X (compareOp op) r) (hr : SR2 P r g) (ha : PE X a (T P fa)) (hb : PE X b (T P fb)) (hmk : behindInMarks op b = false) : PE X (.Compare a [op] [b] pos) (T P (eBin g fa fb)) :=
  PE.weak (pe_cmpR ho ha hb hmk) (two_run hr)
theorem SR2.or {r1 r2 : R2} {g : BF} (h : ∀ (x y : Val) (v u : V) (m : Mw) (H : Hp) (M : Sto) (z : Val) (M' : Sto) (Q : VK), RV P m H x v → RV P m H y u → RM P m H M → g x y M = some (z, M') →
  (∀ w m' H', Ev m m' H H' → RV P m' H' z w → RM P m' H' M' → Q w H') → r1 v u H Q ∨ r2 v u H Q) : SR2 P (fun x y H Q => r1 x y H Q ∨ r2 x y H Q) g := h
def eUn (g : UF) (fa : EF) : EF := fun ρ M => bnd (fa ρ M) fun x M1 => g x M1
theorem one_run {r : V → Hp → VK → Prop} {g : UF} (hr : SR1 P r g) : ∀ σ H Q, T P (eUn g fa) σ H Q → T P fa σ H fun x H1 => r x H1 Q := by
  intro σ H Q ⟨ρ, M, m, z, M', hs, hm, e, k⟩
  obtain ⟨x, M1, e1, e⟩ := bnd_eq e
  refine ⟨ρ, M, m, x, M1, hs, hm, e1, fun v m1 H1 ev1 rv1 rm1 => ?_⟩
  exact hr x v m1 H1 M1 z M' Q rv1 rm1 e fun w m' H' ev rv rm => k w m' H' (ev1.trans ev) rv rm
theorem a_un {op : UnaryOp} {r : V → Hp → VK → Prop} {g : UF} (ho : UnR X (unaryOp op) r) (hr : SR1 P r g) (ha : PE X a (T P fa)) : PE X (.UnaryOp op a pos) (T P (eUn g fa)) :=
  PE.weak (pe_un ho ha) (one_run hr)

/-! what a value is -/
theorem rv_int {m : Mw} {H : Hp} {i : Int} {v : V} (h : RV P m H (.p (.int i)) v) : v = .int i := by
  cases (show Dq P.K (msk m H) v (.int i) from h); rfl
theorem rv_bl {m : Mw} {H : Hp} {i : Bool} {v : V} (h : RV P m H (.p (.bool i)) v) : v = .bl i := by
  cases (show Dq P.K (msk m H) v (.bool i) from h); rfl
theorem rv_str {m : Mw} {H : Hp} {i : Str} {v : V} (h : RV P m H (.p (.str i)) v) : v = .str i := by
  cases (show Dq P.K (msk m H) v (.str i) from h); rfl
theorem rv_non {m : Mw} {H : Hp} {v : V} (h : RV P m H (.p .none) v) : v = .non := by
  cases (show Dq P.K (msk m H) v .none from h); rfl
theorem rv_tup {m : Mw} {H : Hp} {ds : List PyData} {v : V} (h : RV P m H (.p (.tuple ds)) v) : ∃ a vs, v = .ref a ∧ SqT P.K (msk m H) a vs ∧ DqAll P.K (msk m H) vs ds := by
  cases (show Dq P.K (msk m H) v (.tuple ds) from h) with
  | tup hs ha => exact ⟨_, _, rfl, hs, ha⟩
theorem rv_lst {m : Mw} {H : Hp} {ds : List PyData} {v : V} (h : RV P m H (.p (.list ds)) v) : ∃ a vs, v = .ref a ∧ Rd (msk m H) a (.lst vs) ∧ DqAll P.K (msk m H) vs ds := by
  cases (show Dq P.K (msk m H) v (.list ds) from h) with
  | lst hs ha => exact ⟨_, _, rfl, hs, ha⟩
theorem rv_ob {m : Mw} {H : Hp} {M : Sto} {r : Nat} {v : V} (hm : RM P m H M) (h : RV P m H (.ob r) v) : ∃ a xs vs, v = .ref a ∧ m.m[r]? = some a ∧ M[r]? = some xs ∧ H a = some (.lst vs) ∧ DqAll P.K (msk m H) vs xs := by
  obtain ⟨a, rfl, h⟩ := h
  obtain ⟨xs, vs, h1, h2, h3⟩ := hm.at_ r a h
  exact ⟨a, xs, vs, rfl, h, h1, h2, h3⟩
theorem dq_of {m : Mw} {H : Hp} {d : PyData} {v : V} (h : RV P m H (.p d) v) : Dq P.K H v d := dp_mono (msk_sub m H) d v h
theorem dp_of {m : Mw} {H : Hp} {d : PyData} {v : V} (h : RV P m H (.p d) v) : Dp P.K H v d := dq_dp d v (dq_of h)
/-- a new tuple, a new frozen list -/
theorem new_tup {m : Mw} {H : Hp} {M : Sto} {vs : List V} {ds : List PyData} {p : Addr} (hm : RM P m H M) (hp : H p = none) (hd : DqAll P.K (msk m H) vs ds) :
    RV P m (upd H p (.tup vs)) (.p (.tuple ds)) (.ref p) :=
  Dq.tup (.inl (.inl (msk_new hm hp (fun _ z => by cases z)))) (dpAll_mono (ev_new hm hp).same _ _ hd)
theorem new_lst {m : Mw} {H : Hp} {M : Sto} {vs : List V} {ds : List PyData} {p : Addr} (hm : RM P m H M) (hp : H p = none) (hd : DqAll P.K (msk m H) vs ds) :
    RV P m (upd H p (.lst vs)) (.p (.list ds)) (.ref p) :=
  Dq.lst (.inl (msk_new hm hp (fun _ z => by cases z))) (dpAll_mono (ev_new hm hp).same _ _ hd)
end
end AX

namespace AX
open PySem PySem.Spec PyProof.Rows L2

/-! ### arithmetic by values -/
abbrev szl : Nat := 16777216
theorem szl_eq : sizeLine = szl := sizeLine_eq
/-- what a product asks: a small factor, or both of bounded size -/
def mulOk (i j : Int) : Bool := decide (i.natAbs < 2 ^ 64) || decide (j.natAbs < 2 ^ 64) || (decide (i.natAbs.log2 < 400000) && decide (j.natAbs.log2 < 400000))
def divOk (j : Int) : Bool := decide (0 < j) && decide (j.natAbs.log2 < 9000)
def bAdd : BF
  | .p (.int i), .p (.int j), M => some (.p (.int (i + j)), M)
  | .p (.tuple a), .p (.tuple b), M => if a.length + b.length ≤ szl then some (.p (.tuple (a ++ b)), M) else none
  | .p (.list a), .p (.list b), M => if a.length + b.length ≤ szl then some (.p (.list (a ++ b)), M) else none
  | .p (.str a), .p (.str b), M => if a.length + b.length ≤ szl then some (.p (.str (a ++ b)), M) else none
  | _, _, _ => none
def bSub : BF
  | .p (.int i), .p (.int j), M => some (.p (.int (i - j)), M)
  | _, _, _ => none
def bMul : BF
  | .p (.int i), .p (.int j), M => if mulOk i j then some (.p (.int (i * j)), M) else none
  | .p (.tuple a), .p (.int k), M => if k ≤ 1000 ∧ -1000 ≤ k ∧ a.length ≤ 1000 then some (.p (.tuple (List.replicate k.toNat a).flatten), M) else none
  | .p (.list a), .p (.int k), M => if k ≤ 1000 ∧ -1000 ≤ k ∧ a.length ≤ 1000 then some (.p (.list (List.replicate k.toNat a).flatten), M) else none
  | _, _, _ => none
def bDiv : BF
  | .p (.int i), .p (.int j), M => if divOk j then some (.p (.int (i / j)), M) else none
  | _, _, _ => none
def bMod : BF
  | .p (.int i), .p (.int j), M => if 0 < j then some (.p (.int (i % j)), M) else none
  | _, _, _ => none
def bPow : BF
  | .p (.int i), .p (.int j), M => if 0 ≤ j ∧ j ≤ 1000000 ∧ i.natAbs < 2 ^ 64 then some (.p (.int (i ^ j.toNat)), M) else none
  | _, _, _ => none
def bLt : BF
  | .p (.int i), .p (.int j), M => some (.p (.bool (decide (i < j))), M)
  | _, _, _ => none
def bLe : BF
  | .p (.int i), .p (.int j), M => some (.p (.bool (decide (i ≤ j))), M)
  | _, _, _ => none
def bGt : BF
  | .p (.int i), .p (.int j), M => some (.p (.bool (decide (j < i))), M)
  | _, _, _ => none
def bGe : BF
  | .p (.int i), .p (.int j), M => some (.p (.bool (decide (j ≤ i))), M)
  | _, _, _ => none
def shp (d : PyData) : Bool := SeqAt.shaped d
def bothS : PyData → PyData → Bool
  | .str _, .str _ => true
  | _, _ => false
def bEq : BF
  | .p d, .p e, M => if (shp d && shp e) || bothS d e then some (.p (.bool (PyData.eqv d e)), M) else none
  | _, _, _ => none
def bNe : BF
  | .p d, .p e, M => if (shp d && shp e) || bothS d e then some (.p (.bool (!PyData.eqv d e)), M) else none
  | _, _, _ => none
def bIn : BF
  | .p d, .p (.list xs), M => if shp d && shp (.list xs) then some (.p (.bool (xs.any fun y => PyData.eqv y d)), M) else none
  | .p d, .p (.tuple xs), M => if shp d && shp (.tuple xs) then some (.p (.bool (xs.any fun y => PyData.eqv y d)), M) else none
  | _, _, _ => none
def bNotIn : BF
  | .p d, .p (.list xs), M => if shp d && shp (.list xs) then some (.p (.bool (!xs.any fun y => PyData.eqv y d)), M) else none
  | .p d, .p (.tuple xs), M => if shp d && shp (.tuple xs) then some (.p (.bool (!xs.any fun y => PyData.eqv y d)), M) else none
  | _, _, _ => none
def isNon : PyData → Bool
  | .none => true
  | _ => false
def bIsN : BF
  | .p d, .p .none, M => some (.p (.bool (isNon d)), M)
  | .ob _, .p .none, M => some (.p (.bool false), M)
  | _, _, _ => none
def bNotN : BF
  | .p d, .p .none, M => some (.p (.bool (!isNon d)), M)
  | .ob _, .p .none, M => some (.p (.bool true), M)
  | _, _, _ => none
def uNeg : UF
  | .p (.int i), M => some (.p (.int (-i)), M)
  | _, _ => none

section
variable {X : Cx} {P : Par}
theorem mulOk_ok {i j : Int} (h : mulOk i j = true) : IntMulOk i j := by
  unfold mulOk at h
  simp only [Bool.or_eq_true, Bool.and_eq_true, decide_eq_true_eq] at h
  rcases h with (h | h) | h
  · exact CMul.ok (.inl (by omega))
  · exact CMul.ok (.inr (by omega))
  · exact CMulW.ok (show _ < _ by omega)
def CMulA (i j : Int) : Prop := mulOk i j = true
def CDivA (_ j : Int) : Prop := divOk j = true
theorem op_mulA : OpR X (binaryOp .Mult) (rI CMulA fun i j => .int (i * j)) := opI fun _ _ _ _ _ _ _ hc q => mul_int q (mulOk_ok hc)
theorem op_divA : OpR X (binaryOp .FloorDiv) (rI CDivA fun i j => .int (i / j)) := opI fun i j t u Q E s hc q => by
  unfold CDivA divOk at hc
  simp only [Bool.and_eq_true, decide_eq_true_eq] at hc
  have h1 : (0 : Int) < j := hc.1
  exact floordiv_int (by omega) (by rw [Int.fdiv_eq_ediv_of_nonneg i (by omega)]; exact q) (.inl (PyProof.noPylong_of_log2 hc.2))
/-- a read list's object -/
theorem rd_lst {pins : List (Addr × Obj)} {σ : Sl} {H : Hp} {s : Shared} {l : Addr} {xs : List V} (I : Inv X pins σ H s) (h : Rd H l (.lst xs)) :
    xs.length ≤ sizeLine ∧ ∃ (its : List Value) (n : Nat), Vals xs its ∧ xs.length = its.length ∧ s.heap.get? l = some { cls := .type "list", data := .seq its.toArray n } := by
  obtain ⟨z, its, n, r, e⟩ := h.ok I.hok
  exact ⟨z, its, n, r, r.length, e⟩
def rCatR : R2 := fun x y H Q => ∃ l b xs zs, x = .ref l ∧ y = .ref b ∧ Rd H l (.lst xs) ∧ Rd H b (.lst zs) ∧ xs.length + zs.length ≤ sizeLine ∧ ∀ p, H p = none → Q (.ref p) (upd H p (.lst (xs ++ zs)))
theorem op_catR : OpR X (binaryOp .Add) rCatR := by
  intro pins s σ H x y v u Q I rx ry h
  obtain ⟨l, b, xs, zs, rfl, rfl, hH, hB, hz, q⟩ := h
  cases rx
  cases ry
  obtain ⟨z, its, n, r, hl, e⟩ := rd_lst I hH
  obtain ⟨z2, its2, n2, r2, hl2, e2⟩ := rd_lst I hB
  refine PySem.P.add_list e e2 ?_ (by rw [List.size_toArray, List.size_toArray]; omega)
  have ea : its.toArray ++ its2.toArray = (its ++ its2).toArray := by simp
  rw [ea]
  exact ⟨.ref _, _, L2.Inv.lnew I (t' := s.toks) (r.append r2) (by rw [List.length_append]; omega), rfl, q _ (L2.Inv.fresh I)⟩
def rRepR : R2 := fun x y H Q => ∃ l k xs, x = .ref l ∧ y = .int k ∧ Rd H l (.lst xs) ∧ -(2 ^ 63) ≤ k ∧ k < 2 ^ 63 ∧ xs.length * k.toNat ≤ sizeLine ∧
  ∀ p, H p = none → Q (.ref p) (upd H p (.lst (List.replicate k.toNat xs).flatten))
theorem op_repR : OpR X (binaryOp .Mult) rRepR := by
  intro pins s σ H x y v u Q I rx ry h
  obtain ⟨l, k, xs, rfl, rfl, hH, h1, h2, hz, q⟩ := h
  cases rx
  obtain ⟨t, rfl⟩ := ry
  obtain ⟨z, its, n, r, hl, e⟩ := rd_lst I hH
  have hlen : its.toArray.size * k.toNat ≤ sizeLine := by rw [List.size_toArray, ← hl]; exact hz
  have hcap : ¬ its.toArray.size * k.toNat > (2 ^ 63 - 1) / 8 := by
    have : (sizeLine : Nat) ≤ (2 ^ 63 - 1) / 8 := by decide
    omega
  have hfit : ¬ (!Builtin.List.listFitsIndex k) = true := by
    rw [fitsIndex_both h1 h2]
    exact Bool.false_ne_true
  have hlong : ¬ Builtin.List.listTooLong (its.toArray.size * k.toNat) = true := by
    rw [notLongL hlen]
    exact Bool.false_ne_true
  have hnew : List.foldl (fun x1 x2 => x1 ++ x2) #[] (List.replicate (if its.toArray.isEmpty = true then 0 else k.toNat) its.toArray) = (List.replicate k.toNat its).flatten.toArray := by
    have f0 : ∀ m : Nat, List.foldl (fun x1 x2 => x1 ++ x2) #[] (List.replicate m its.toArray) = (List.replicate m its).flatten.toArray := fun m => by
      have := foldl_rep its m []
      rw [List.nil_append] at this
      exact this
    rw [f0]
    cases its with
    | nil => simp
    | cons a r' => rw [if_neg (by simp)]
  refine wpAny_binaryOp_repeat_ref (T := "list") (U := "int") (by decide) ⟨_, e, rfl⟩ (fun s' => typeIs_int s' k t) noFill_list_mul F.fills_int_mul F.slot_int_rmul repeat_list F.slot_int_index.lookup
    (call_meets F.slot_int_rmul (typeIs_int s k t) F.entry_int_rmul (F.args_int_rmul_2 _ _) (int___rmul___int_list k t l its.toArray n)
      ⟨e, rfl, ⟨_, e, rfl⟩, call_meets F.slot_list_mul ⟨_, e, rfl⟩ F.entry_list_mul (F.args_list_mul_2 _ _) (AutoListH.list___mul___list_int_3 l its.toArray n k t hfit hcap hlong) ⟨e, ?_⟩⟩)
  rw [hnew]
  exact ⟨.ref _, _, L2.Inv.lnew I (t' := s.toks) (r.rep k.toNat) (by rw [PyProof.Rows.lm_len_rep_flat, Nat.mul_comm]; exact hz), rfl, q _ (L2.Inv.fresh I)⟩

/-! tuple times an int, whatever the int -/
theorem tuple_mul1 (l : Addr) (items : Array Value) (n : Nat) (dd : Option Addr) (sl : Array (Option Value)) (x : Int) (u : Tok) (c0 : (decide (x < -(2 ^ 63)) || decide (x ≥ 2 ^ 63)) = false) (c1 : (items.isEmpty || x == 1) = true) :
    Meets (Builtin.«tuple.__mul__» ⟨[.ref l, .int x u], []⟩) (fun _ R s => s.heap.get? l = some { cls := .type "tuple", dict := dd, data := .seq items n, slots := sl } ∧
      R (.ok (.ret (Value.ref l))) s) :=
  .of_wp fun prog w A R s h => by
    obtain ⟨hp, g, d, tk, os⟩ := s
    obtain ⟨hl, h⟩ := h
    have f1 := AutoSeq1.idx_int
    wp_walk using wpAny_loadPart' hl
    repeat (first
      | (refine wpAny_ite_false (decide_eq_false (by rw [c0]; exact Bool.false_ne_true)) ?_; wp_walk using wpAny_loadPart' hl)
      | (refine wpAny_ite_true (decide_eq_true (by rw [c1])) ?_; wp_walk using wpAny_loadPart' hl))
    exact ⟨_, rfl, h⟩
theorem tuple_mul0 (l : Addr) (items : Array Value) (n : Nat) (dd : Option Addr) (sl : Array (Option Value)) (x : Int) (u : Tok) (c0 : (decide (x < -(2 ^ 63)) || decide (x ≥ 2 ^ 63)) = false) (c1 : (items.isEmpty || x == 1) = false) (c2 : (decide (x ≤ 0) || items.isEmpty) = true) :
    Meets (Builtin.«tuple.__mul__» ⟨[.ref l, .int x u], []⟩) (fun _ R s => s.heap.get? l = some { cls := .type "tuple", dict := dd, data := .seq items n, slots := sl } ∧
      R (.ok (.ret (Value.ref s.heap.objs.size))) { s with heap := s.heap.push { cls := Value.type "tuple", data := Data.seq #[] }, toks := s.toks }) :=
  .of_wp fun prog w A R s h => by
    obtain ⟨hp, g, d, tk, os⟩ := s
    obtain ⟨hl, h⟩ := h
    have f1 := AutoSeq1.idx_int
    wp_walk using wpAny_loadPart' hl
    repeat (first
      | (refine wpAny_ite_false (decide_eq_false (by rw [c0]; exact Bool.false_ne_true)) ?_; wp_walk using wpAny_loadPart' hl)
      | (refine wpAny_ite_false (decide_eq_false (by rw [c1]; exact Bool.false_ne_true)) ?_; wp_walk using wpAny_loadPart' hl)
      | (refine wpAny_ite_true (decide_eq_true (by rw [c2])) ?_; wp_walk using wpAny_loadPart' hl))
    exact ⟨_, rfl, h⟩
def rRepA (K : PySem.W.Frag) : R2 := fun x y H Q => ∃ l k xs, x = .ref l ∧ y = .int k ∧ SqT K H l xs ∧ -1000 ≤ k ∧ k ≤ 1000 ∧ xs.length ≤ 1000 ∧
  ((xs = [] ∨ k = 1) → Q (.ref l) H) ∧ (¬ (xs = [] ∨ k = 1) → ∀ p, H p = none → Q (.ref p) (upd H p (.tup (List.replicate k.toNat xs).flatten)))
theorem op_repA : OpR X (binaryOp .Mult) (rRepA X.K) := by
  intro pins s σ H x y v u Q I rx ry h
  obtain ⟨l, k, xs, rfl, rfl, hT, h1, h2, hz, q1, q2⟩ := h
  by_cases hk : ¬ (xs = [] ∨ k = 1) ∧ 2 ≤ k
  · exact op_repT pins s σ H _ _ v u Q I rx ry ⟨l, k, xs, rfl, rfl, hT, fun e => hk.1 (.inl e), hk.2, h2, hz, q2 hk.1⟩
  cases rx
  obtain ⟨t, rfl⟩ := ry
  obtain ⟨its, r, ⟨⟨cls, dd, data, sl⟩, ho, hc, n, hd⟩, hs⟩ := I.tuple hT
  simp only at hc hd
  subst hc hd
  have hle : its.length = xs.length := r.length.symm
  have c0 : (decide (k < -(2 ^ 63)) || decide (k ≥ 2 ^ 63)) = false := by
    rw [decide_eq_false (by omega), decide_eq_false (by omega)] <;> rfl
  by_cases he : xs = [] ∨ k = 1
  · have c1 : (its.toArray.isEmpty || k == 1) = true := by
      rcases he with e | e
      · have : its = [] := List.eq_nil_of_length_eq_zero (by rw [hle, e]; rfl)
        rw [this]; rfl
      · rw [e]; simp
    exact wpAny_binaryOp_repeat_ref (T := "tuple") (U := "int") (by decide) ⟨_, ho, rfl⟩ (fun s' => typeIs_int s' k t) noFill_tuple_mul F.fills_int_mul F.slot_int_rmul repeat_tuple F.slot_int_index.lookup
      (call_meets F.slot_int_rmul (typeIs_int s k t) F.entry_int_rmul (F.args_int_rmul_2 _ _) (int_rmul_tuple k t l its.toArray n dd sl)
        ⟨ho, rfl, ⟨_, ho, rfl⟩, call_meets F.slot_tuple_mul ⟨_, ho, rfl⟩ F.entry_tuple_mul (F.args_tuple_mul_2 _ _) (tuple_mul1 l its.toArray n dd sl k t c0 c1) ⟨ho, ⟨.ref l, H, I, rfl, q1 he⟩⟩⟩)
  · have hk0 : k ≤ 0 := by
      have : ¬ (2 ≤ k) := fun z => hk ⟨he, z⟩
      have : k ≠ 1 := fun z => he (.inr z)
      omega
    have hn : its ≠ [] := fun e => he (.inl (List.eq_nil_of_length_eq_zero (by rw [← hle, e]; rfl)))
    have hi : its.toArray.isEmpty = false := by
      cases its with
      | nil => exact absurd rfl hn
      | cons a b => rfl
    have c1 : (its.toArray.isEmpty || k == 1) = false := by
      rw [hi, Bool.false_or]
      exact beq_eq_false_iff_ne.mpr (fun z => he (.inr z))
    have c2 : (decide (k ≤ 0) || its.toArray.isEmpty) = true := by
      rw [decide_eq_true hk0]; rfl
    have e0 : k.toNat = 0 := by omega
    have q := q2 he
    rw [e0] at q
    refine wpAny_binaryOp_repeat_ref (T := "tuple") (U := "int") (by decide) ⟨_, ho, rfl⟩ (fun s' => typeIs_int s' k t) noFill_tuple_mul F.fills_int_mul F.slot_int_rmul repeat_tuple F.slot_int_index.lookup
      (call_meets F.slot_int_rmul (typeIs_int s k t) F.entry_int_rmul (F.args_int_rmul_2 _ _) (int_rmul_tuple k t l its.toArray n dd sl)
        ⟨ho, rfl, ⟨_, ho, rfl⟩, call_meets F.slot_tuple_mul ⟨_, ho, rfl⟩ F.entry_tuple_mul (F.args_tuple_mul_2 _ _) (tuple_mul0 l its.toArray n dd sl k t c0 c1 c2) ⟨ho, ?_⟩⟩)
    refine ⟨.ref s.heap.objs.size, _, I.laid (t' := s.toks) (o := .tup []) (fun b ob q => Heap.get?_push_of_some _ q) (Nat.le_refl _) ?_, rfl, q _ (I.hok.fresh (Nat.le_refl _))⟩
    exact ⟨Nat.zero_le _, [], .nil, IsTup.new _ _⟩

/-! ### soundness -/
def rAddA (K : PySem.W.Frag) : R2 := fun x y H Q => (rI0 fun i j => .int (i + j)) x y H Q ∨ (rCatA K x y H Q ∨ (rCatR x y H Q ∨ ∃ i j, x = .str i ∧ y = .str j ∧ i.length + j.length ≤ sizeLine ∧ Q (.str (i ++ j)) H))
theorem op_addA : OpR X (binaryOp .Add) (rAddA X.K) := op_add.or (op_catA.or (op_catR.or op_add_str))
theorem kq {m : Mw} {H : Hp} {M M' : Sto} {z z' : Val} {w : V} {Q : VK} (hm : RM P m H M) (e : some (z', M) = some (z, M')) (k : ∀ w m' H', Ev m m' H H' → RV P m' H' z w → RM P m' H' M' → Q w H') (h : RV P m H z' w) : Q w H := by
  cases e
  exact k w m H .refl h hm
theorem kt {m : Mw} {H : Hp} {M M' : Sto} {z : Val} {vs : List V} {ds : List PyData} {Q : VK} {p : Addr} (hm : RM P m H M) (e : some (Val.p (.tuple ds), M) = some (z, M')) (k : ∀ w m' H', Ev m m' H H' → RV P m' H' z w → RM P m' H' M' → Q w H')
    (hd : DqAll P.K (msk m H) vs ds) (hp : H p = none) : Q (.ref p) (upd H p (.tup vs)) := by
  cases e
  exact k _ m _ (ev_new hm hp) (new_tup hm hp hd) (hm.new hp)
theorem kl {m : Mw} {H : Hp} {M M' : Sto} {z : Val} {vs : List V} {ds : List PyData} {Q : VK} {p : Addr} (hm : RM P m H M) (e : some (Val.p (.list ds), M) = some (z, M')) (k : ∀ w m' H', Ev m m' H H' → RV P m' H' z w → RM P m' H' M' → Q w H')
    (hd : DqAll P.K (msk m H) vs ds) (hp : H p = none) : Q (.ref p) (upd H p (.lst vs)) := by
  cases e
  exact k _ m _ (ev_new hm hp) (new_lst hm hp hd) (hm.new hp)
theorem sqT_of {m : Mw} {H : Hp} {a : Addr} {vs : List V} (h : SqT P.K (msk m H) a vs) : SqT P.K H a vs := Same.sqT (msk_sub m H) h
theorem rd_of {m : Mw} {H : Hp} {a : Addr} {u : HO} (h : Rd (msk m H) a u) : Rd H a u := Same.rd (msk_sub m H) h
theorem s_add : SR2 P (rAddA P.K) bAdd := by
  intro x y v u m H M z M' Q rx ry hm e k
  unfold bAdd at e
  split at e
  · rw [rv_int rx, rv_int ry]
    exact .inl ⟨_, _, rfl, rfl, kq hm e k (Dq.int _)⟩
  · rename_i a b
    split at e
    · rename_i hz
      obtain ⟨p, vs, rfl, hp, hd⟩ := rv_tup rx
      obtain ⟨q, us, rfl, hq, hd2⟩ := rv_tup ry
      have l1 := dpa_len hd
      have l2 := dpa_len hd2
      refine .inr (.inl ⟨p, q, vs, us, rfl, rfl, sqT_of hp, sqT_of hq, by rw [szl_eq]; omega, fun e1 => ?_, fun e1 e2 => ?_, fun _ _ p' hp' => kt hm e k (dpa_app hd hd2) hp'⟩)
      · have : a = [] := List.eq_nil_of_length_eq_zero (by rw [← l1, e1]; rfl)
        subst this
        exact kq hm e k ry
      · have : b = [] := List.eq_nil_of_length_eq_zero (by rw [← l2, e2]; rfl)
        subst this
        rw [List.append_nil] at e
        exact kq hm e k rx
    · cases e
  · split at e
    · rename_i hz
      obtain ⟨p, vs, rfl, hp, hd⟩ := rv_lst rx
      obtain ⟨q, us, rfl, hq, hd2⟩ := rv_lst ry
      have l1 := dpa_len hd
      have l2 := dpa_len hd2
      exact .inr (.inr (.inl ⟨p, q, vs, us, rfl, rfl, rd_of hp, rd_of hq, by rw [szl_eq]; omega, fun p' hp' => kl hm e k (dpa_app hd hd2) hp'⟩))
    · cases e
  · split at e
    · rename_i hz
      rw [rv_str rx, rv_str ry]
      exact .inr (.inr (.inr ⟨_, _, rfl, rfl, by rw [szl_eq]; exact hz, kq hm e k (Dq.str _)⟩))
    · cases e
  · cases e
theorem s_sub : SR2 P (rI0 fun i j => .int (i - j)) bSub := by
  intro x y v u m H M z M' Q rx ry hm e k
  unfold bSub at e
  split at e
  · rw [rv_int rx, rv_int ry]
    exact ⟨_, _, rfl, rfl, kq hm e k (Dq.int _)⟩
  · cases e
def rMulA (K : PySem.W.Frag) : R2 := fun x y H Q => (rI CMulA fun i j => .int (i * j)) x y H Q ∨ (rRepA K x y H Q ∨ rRepR x y H Q)
theorem op_mulAll : OpR X (binaryOp .Mult) (rMulA X.K) := op_mulA.or (op_repA.or op_repR)
theorem s_mul : SR2 P (rMulA P.K) bMul := by
  intro x y v u m H M z M' Q rx ry hm e k
  unfold bMul at e
  split at e
  · split at e
    · rename_i hz
      rw [rv_int rx, rv_int ry]
      exact .inl ⟨_, _, rfl, rfl, hz, kq hm e k (Dq.int _)⟩
    · cases e
  · rename_i a j
    split at e
    · rename_i hz
      obtain ⟨p, vs, rfl, hp, hd⟩ := rv_tup rx
      rw [rv_int ry]
      have l1 := dpa_len hd
      refine .inr (.inl ⟨p, j, vs, rfl, rfl, sqT_of hp, hz.2.1, hz.1, by omega, fun e1 => ?_, fun _ p' hp' => kt hm e k (dpa_rep hd _) hp'⟩)
      have e2 : (List.replicate j.toNat a).flatten = a := by
        rcases e1 with e1 | e1
        · have : a = [] := List.eq_nil_of_length_eq_zero (by rw [← l1, e1]; rfl)
          subst this
          simp
        · subst e1
          simp
      rw [e2] at e
      exact kq hm e k rx
    · cases e
  · split at e
    · rename_i hz
      obtain ⟨p, vs, rfl, hp, hd⟩ := rv_lst rx
      rw [rv_int ry]
      have l1 := dpa_len hd
      rename_i a j
      have hb : vs.length * j.toNat ≤ 1000 * 1000 := Nat.mul_le_mul (by omega) (by omega)
      exact .inr (.inr ⟨p, j, vs, rfl, rfl, rd_of hp, by omega, by omega, by rw [szl_eq]; unfold szl; omega, fun p' hp' => kl hm e k (dpa_rep hd _) hp'⟩)
    · cases e
  · cases e
end
end AX

namespace AX
open PySem PySem.Spec PyProof.Rows L2
section
variable {X : Cx} {P : Par}
theorem s_div : SR2 P (rI CDivA fun i j => .int (i / j)) bDiv := by
  intro x y v u m H M z M' Q rx ry hm e k
  unfold bDiv at e
  split at e
  · split at e
    · rename_i hz
      rw [rv_int rx, rv_int ry]
      exact ⟨_, _, rfl, rfl, hz, kq hm e k (Dq.int _)⟩
    · cases e
  · cases e
theorem s_mod : SR2 P (rI (fun _ j => 0 < j) fun i j => .int (i % j)) bMod := by
  intro x y v u m H M z M' Q rx ry hm e k
  unfold bMod at e
  split at e
  · split at e
    · rename_i hz
      rw [rv_int rx, rv_int ry]
      exact ⟨_, _, rfl, rfl, hz, kq hm e k (Dq.int _)⟩
    · cases e
  · cases e
theorem s_pow : SR2 P (rI CPow fun i j => .int (i ^ j.toNat)) bPow := by
  intro x y v u m H M z M' Q rx ry hm e k
  unfold bPow at e
  split at e
  · split at e
    · rename_i hz
      rw [rv_int rx, rv_int ry]
      exact ⟨_, _, rfl, rfl, hz, kq hm e k (Dq.int _)⟩
    · cases e
  · cases e
theorem s_lt : SR2 P (rI0 fun i j => .bl (decide (i < j))) bLt := by
  intro x y v u m H M z M' Q rx ry hm e k
  unfold bLt at e
  split at e
  · rw [rv_int rx, rv_int ry]
    exact ⟨_, _, rfl, rfl, kq hm e k (Dq.bl _)⟩
  · cases e
theorem s_le : SR2 P (rI0 fun i j => .bl (decide (i ≤ j))) bLe := by
  intro x y v u m H M z M' Q rx ry hm e k
  unfold bLe at e
  split at e
  · rw [rv_int rx, rv_int ry]
    exact ⟨_, _, rfl, rfl, kq hm e k (Dq.bl _)⟩
  · cases e
theorem s_gt : SR2 P (rI0 fun i j => .bl (decide (j < i))) bGt := by
  intro x y v u m H M z M' Q rx ry hm e k
  unfold bGt at e
  split at e
  · rw [rv_int rx, rv_int ry]
    exact ⟨_, _, rfl, rfl, kq hm e k (Dq.bl _)⟩
  · cases e
theorem s_ge : SR2 P (rI0 fun i j => .bl (decide (j ≤ i))) bGe := by
  intro x y v u m H M z M' Q rx ry hm e k
  unfold bGe at e
  split at e
  · rw [rv_int rx, rv_int ry]
    exact ⟨_, _, rfl, rfl, kq hm e k (Dq.bl _)⟩
  · cases e
theorem bothS_of {m : Mw} {H : Hp} {d e : PyData} {v u : V} (h : bothS d e = true) (rv : RV P m H (.p d) v) (ru : RV P m H (.p e) u) : ∃ a b, d = .str a ∧ e = .str b ∧ v = .str a ∧ u = .str b ∧ decide (V.str a = V.str b) = PyData.eqv (.str a) (.str b) := by
  cases d with
  | str a =>
    cases e with
    | str b =>
      refine ⟨a, b, rfl, rfl, rv_str rv, rv_str ru, ?_⟩
      simp only [PyData.eqv]
      by_cases hab : a = b
      · simp [hab]
      · simp [hab]
    | _ => cases h
  | _ => cases e <;> cases h
theorem s_eq : SR2 P (fun x y H Q => rEqD P.K x y H Q ∨ rEq x y H Q) bEq := by
  intro x y v u m H M z M' Q rx ry hm e k
  unfold bEq at e
  split at e
  · split at e
    · rename_i hz
      rw [Bool.or_eq_true, Bool.and_eq_true] at hz
      rcases hz with hz | hz
      · exact .inl ⟨_, _, dp_of rx, dp_of ry, hz.1, hz.2, kq hm e k (Dq.bl _)⟩
      · obtain ⟨a, b, rfl, rfl, rfl, rfl, hd⟩ := bothS_of hz rx ry
        refine .inr ⟨rfl, ?_⟩
        rw [hd]
        exact kq hm e k (Dq.bl _)
    · cases e
  · cases e
theorem s_ne : SR2 P (fun x y H Q => rNeD P.K x y H Q ∨ rNe x y H Q) bNe := by
  intro x y v u m H M z M' Q rx ry hm e k
  unfold bNe at e
  split at e
  · split at e
    · rename_i hz
      rw [Bool.or_eq_true, Bool.and_eq_true] at hz
      rcases hz with hz | hz
      · exact .inl ⟨_, _, dp_of rx, dp_of ry, hz.1, hz.2, kq hm e k (Dq.bl _)⟩
      · obtain ⟨a, b, rfl, rfl, rfl, rfl, hd⟩ := bothS_of hz rx ry
        refine .inr ⟨rfl, ?_⟩
        rw [hd]
        exact kq hm e k (Dq.bl _)
    · cases e
  · cases e
/-! in -/
def rInT (K : PySem.W.Frag) : R2 := fun x y H Q => ∃ d ds, Dp K H x d ∧ Dp K H y (.tuple ds) ∧ SeqAt.shaped d = true ∧ SeqAt.shaped (.tuple ds) = true ∧ Q (.bl (ds.any fun z => PyData.eqv z d)) H
def rNotInT (K : PySem.W.Frag) : R2 := fun x y H Q => ∃ d ds, Dp K H x d ∧ Dp K H y (.tuple ds) ∧ SeqAt.shaped d = true ∧ SeqAt.shaped (.tuple ds) = true ∧ Q (.bl (!ds.any fun z => PyData.eqv z d)) H
theorem shaped_tup {ds : List PyData} (h : SeqAt.shaped (.tuple ds) = true) : PyData.canLayAll0 ds = true := by
  unfold SeqAt.shaped at h
  rw [Bool.and_eq_true] at h
  simpa [PyData.canLay0] using h.1
theorem room_in_tup {A : Around} {ds : List PyData} {d : PyData} (sd : SeqAt.shaped d = true) (hu : A.units + 65 < cLine) : A.units + 1 + min (PyData.depthAll ds) d.depth < cLine := by
  unfold SeqAt.shaped at sd
  rw [Bool.and_eq_true, decide_eq_true_eq] at sd
  have := sd.2
  omega
theorem op_inT (hu : X.A.units + 65 < cLine) : OpR X (compareOp .In) (rInT X.K) := by
  intro pins s σ H x y v u Q I rx ry h
  obtain ⟨d, ds, hd, he, sd, se, q⟩ := h
  obtain ⟨as, r1⟩ := Dp.reads I d x v hd rx
  obtain ⟨bs, r2⟩ := Dp.reads I (.tuple ds) y u he ry
  exact SeqAt.in_tuple_reads r2 r1 (shaped_tup se) (SeqAt.canLay_of_shaped sd) (room_in_tup sd hu) ⟨.bl _, H, I, rfl, q⟩
theorem op_notInT (hu : X.A.units + 65 < cLine) : OpR X (compareOp .NotIn) (rNotInT X.K) := by
  intro pins s σ H x y v u Q I rx ry h
  obtain ⟨d, ds, hd, he, sd, se, q⟩ := h
  obtain ⟨as, r1⟩ := Dp.reads I d x v hd rx
  obtain ⟨bs, r2⟩ := Dp.reads I (.tuple ds) y u he ry
  exact SeqAt.notIn_tuple_reads r2 r1 (shaped_tup se) (SeqAt.canLay_of_shaped sd) (room_in_tup sd hu) ⟨.bl _, H, I, rfl, q⟩
def rInA (K : PySem.W.Frag) : R2 := fun x y H Q => rInD K x y H Q ∨ rInT K x y H Q
def rNotInA (K : PySem.W.Frag) : R2 := fun x y H Q => rNotInD K x y H Q ∨ rNotInT K x y H Q
theorem op_inA (hu : X.A.units + 65 < cLine) : OpR X (compareOp .In) (rInA X.K) := (op_inD hu).or (op_inT hu)
theorem op_notInA (hu : X.A.units + 65 < cLine) : OpR X (compareOp .NotIn) (rNotInA X.K) := (op_notInD hu).or (op_notInT hu)
theorem s_in : SR2 P (rInA P.K) bIn := by
  intro x y v u m H M z M' Q rx ry hm e k
  unfold bIn at e
  split at e
  · split at e
    · rename_i hz
      rw [Bool.and_eq_true] at hz
      exact .inl ⟨_, _, dp_of rx, dp_of ry, hz.1, hz.2, kq hm e k (Dq.bl _)⟩
    · cases e
  · split at e
    · rename_i hz
      rw [Bool.and_eq_true] at hz
      exact .inr ⟨_, _, dp_of rx, dp_of ry, hz.1, hz.2, kq hm e k (Dq.bl _)⟩
    · cases e
  · cases e
theorem s_notIn : SR2 P (rNotInA P.K) bNotIn := by
  intro x y v u m H M z M' Q rx ry hm e k
  unfold bNotIn at e
  split at e
  · split at e
    · rename_i hz
      rw [Bool.and_eq_true] at hz
      exact .inl ⟨_, _, dp_of rx, dp_of ry, hz.1, hz.2, kq hm e k (Dq.bl _)⟩
    · cases e
  · split at e
    · rename_i hz
      rw [Bool.and_eq_true] at hz
      exact .inr ⟨_, _, dp_of rx, dp_of ry, hz.1, hz.2, kq hm e k (Dq.bl _)⟩
    · cases e
  · cases e
theorem isNon_ok {m : Mw} {H : Hp} {d : PyData} {v : V} (h : RV P m H (.p d) v) : decide (v = .non) = isNon d := by
  have h : Dq P.K (msk m H) v d := h
  cases h <;> rfl
theorem s_isN : SR2 P (fun x y H Q => y = .non ∧ Q (.bl (decide (x = .non))) H) bIsN := by
  intro x y v u m H M z M' Q rx ry hm e k
  unfold bIsN at e
  split at e
  · refine ⟨rv_non ry, ?_⟩
    rw [isNon_ok rx]
    exact kq hm e k (Dq.bl _)
  · obtain ⟨a, rfl, _⟩ := rx
    exact ⟨rv_non ry, kq hm e k (Dq.bl _)⟩
  · cases e
theorem s_notN : SR2 P (fun x y H Q => y = .non ∧ Q (.bl (!decide (x = .non))) H) bNotN := by
  intro x y v u m H M z M' Q rx ry hm e k
  unfold bNotN at e
  split at e
  · refine ⟨rv_non ry, ?_⟩
    rw [isNon_ok rx]
    exact kq hm e k (Dq.bl _)
  · obtain ⟨a, rfl, _⟩ := rx
    exact ⟨rv_non ry, kq hm e k (Dq.bl _)⟩
  · cases e
theorem s_neg : SR1 P (rU fun i => .int (-i)) uNeg := by
  intro x v m H M z M' Q rx hm e k
  unfold uNeg at e
  split at e
  · rw [rv_int rx]
    exact ⟨_, rfl, kq hm e k (Dq.int _)⟩
  · cases e

/-! ### the operators as rules -/
variable {pos : Pos} {a b c : Expr} {fa fb fc : EF}
theorem a_add (ha : PE X a (T P fa)) (hb : PE X b (T P fb)) (hK : X.K = P.K := by rfl) : PE X (.BinOp a .Add b pos) (T P (eBin bAdd fa fb)) := a_op (by rw [← hK]; exact op_addA) s_add ha hb
theorem a_sub (ha : PE X a (T P fa)) (hb : PE X b (T P fb)) : PE X (.BinOp a .Sub b pos) (T P (eBin bSub fa fb)) := a_op op_sub s_sub ha hb
theorem a_mul (ha : PE X a (T P fa)) (hb : PE X b (T P fb)) (hK : X.K = P.K := by rfl) : PE X (.BinOp a .Mult b pos) (T P (eBin bMul fa fb)) := a_op (by rw [← hK]; exact op_mulAll) s_mul ha hb
theorem a_div (ha : PE X a (T P fa)) (hb : PE X b (T P fb)) : PE X (.BinOp a .FloorDiv b pos) (T P (eBin bDiv fa fb)) := a_op op_divA s_div ha hb
theorem a_mod (ha : PE X a (T P fa)) (hb : PE X b (T P fb)) : PE X (.BinOp a .Mod b pos) (T P (eBin bMod fa fb)) := a_op op_mod s_mod ha hb
theorem a_pow (ha : PE X a (T P fa)) (hb : PE X b (T P fb)) : PE X (.BinOp a .Pow b pos) (T P (eBin bPow fa fb)) := a_op op_pow s_pow ha hb
theorem a_neg (ha : PE X a (T P fa)) : PE X (.UnaryOp .USub a pos) (T P (eUn uNeg fa)) := a_un un_neg s_neg ha
/-- a comparison: its operator, by P; hu: the room -/
structure CmpOk (X : Cx) (P : Par) (op : CmpOp) (g : BF) : Prop where
  ex : ∃ r, OpR X (compareOp op) r ∧ SR2 P r g
theorem c_lt : CmpOk X P .Lt bLt := ⟨_, op_lt, s_lt⟩
theorem c_le : CmpOk X P .LtE bLe := ⟨_, op_le, s_le⟩
theorem c_gt : CmpOk X P .Gt bGt := ⟨_, op_gt, s_gt⟩
theorem c_ge : CmpOk X P .GtE bGe := ⟨_, op_ge, s_ge⟩
theorem hu64 {A : Around} {k : Nat} (hr : Room k A) : A.units + 65 < cLine := by have := hr.un; omega
theorem c_eq {k : Nat} (hr : Room k X.A) (hK : X.K = P.K := by rfl) : CmpOk X P .Eq bEq := ⟨_, (op_eqD (by have := hu64 hr; omega)).or op_eq, by rw [hK]; exact s_eq⟩
theorem c_ne {k : Nat} (hr : Room k X.A) (hK : X.K = P.K := by rfl) : CmpOk X P .NotEq bNe := ⟨_, (op_neD (by have := hu64 hr; omega)).or op_ne, by rw [hK]; exact s_ne⟩
theorem c_in {k : Nat} (hr : Room k X.A) (hK : X.K = P.K := by rfl) : CmpOk X P .In bIn := ⟨_, op_inA (hu64 hr), by rw [hK]; exact s_in⟩
theorem c_notIn {k : Nat} (hr : Room k X.A) (hK : X.K = P.K := by rfl) : CmpOk X P .NotIn bNotIn := ⟨_, op_notInA (hu64 hr), by rw [hK]; exact s_notIn⟩
theorem c_isN : CmpOk X P .Is bIsN := ⟨_, op_isN, s_isN⟩
theorem c_notN : CmpOk X P .IsNot bNotN := ⟨_, op_notN, s_notN⟩
theorem ae_cmp {op : CmpOp} {g : BF} (h : CmpOk X P op g) (ha : PE X a (T P fa)) (hb : PE X b (T P fb)) (hmk : behindInMarks op b = false := by first | exact nomark _ | rfl) : PE X (.Compare a [op] [b] pos) (T P (eBin g fa fb)) := by
  obtain ⟨r, h1, h2⟩ := h.ex
  exact a_cmp h1 h2 ha hb hmk
/-- a < b < c -/
def eChain (g g' : BF) (fa fb fc : EF) : EF := fun ρ M => bnd (fa ρ M) fun x M1 => bnd (fb ρ M1) fun y M2 => bnd (g x y M2) fun z M3 => match z with
  | .p (.bool true) => bnd (fc ρ M3) fun w M4 => g' y w M4
  | .p (.bool false) => some (.p (.bool false), M3)
  | _ => none
theorem chain_run {r r' : R2} {g g' : BF} (hr : SR2 P r g) (hr' : SR2 P r' g') : ∀ σ H Q, T P (eChain g g' fa fb fc) σ H Q → tChain r r' (T P fa) (T P fb) (T P fc) σ H Q := by
  intro σ H Q ⟨ρ, M, m, z, M', hs, hm, e, k⟩
  obtain ⟨x, M1, e1, e⟩ := bnd_eq e
  obtain ⟨y, M2, e2, e⟩ := bnd_eq e
  obtain ⟨t, M3, e3, e⟩ := bnd_eq e
  refine ⟨ρ, M, m, x, M1, hs, hm, e1, fun v m1 H1 ev1 rv1 rm1 => ?_⟩
  refine ⟨ρ, M1, m1, y, M2, hs.mono ev1, rm1, e2, fun u m2 H2 ev2 rv2 rm2 => ?_⟩
  refine hr x y v u m2 H2 M2 t M3 _ (rv1.mono ev2) rv2 rm2 e3 fun w m3 H3 ev3 rv3 rm3 => ?_
  cases t with
  | ob _ => cases e
  | clo _ => cases e
  | obs _ => cases e
  | pob _ _ => cases e
  | rg _ _ => cases e
  | p d =>
    cases d with
    | bool b =>
      refine ⟨b, rv_bl rv3, ?_⟩
      cases b with
      | true =>
        rw [if_pos rfl]
        obtain ⟨w', M4, e4, e⟩ := bnd_eq e
        refine ⟨ρ, M3, m3, w', M4, hs.mono ((ev1.trans ev2).trans ev3), rm3, e4, fun w4 m4 H4 ev4 rv4 rm4 => ?_⟩
        exact hr' y w' u w4 m4 H4 M4 z M' Q ((rv2.mono ev3).mono ev4) rv4 rm4 e fun w m' H' ev rv rm => k w m' H' ((((ev1.trans ev2).trans ev3).trans ev4).trans ev) rv rm
      | false =>
        rw [if_neg Bool.false_ne_true]
        cases e
        exact k _ m3 H3 ((ev1.trans ev2).trans ev3) (Dq.bl false) rm3
    | none => cases e
    | int _ => cases e
    | str _ => cases e
    | list _ => cases e
    | tuple _ => cases e
    | dict _ => cases e
theorem ae_chain {op op' : CmpOp} {g g' : BF} (h : CmpOk X P op g) (h' : CmpOk X P op' g') (ha : PE X a (T P fa)) (hb : PE X b (T P fb)) (hc : PE X c (T P fc)) (hmk : lastMarks [op, op'] [b, c] = false := by with_unfolding_all rfl) : PE X (.Compare a [op, op'] [b, c] pos) (T P (eChain g g' fa fb fc)) := by
  obtain ⟨r, h1, h2⟩ := h.ex
  obtain ⟨r', h1', h2'⟩ := h'.ex
  exact PE.weak (pe_chain h1 h1' ha hb hc hmk) (chain_run h2 h2')

/-! ### tests -/
/-- an expression's value as a test: a bool -/
def tb (f : EF) : TF := fun ρ M => match f ρ M with
  | some (.p (.bool b), M') => some (b, M')
  | _ => none
theorem tb_eq {f : EF} {ρ : Rho} {M M' : Sto} {b : Bool} (h : tb f ρ M = some (b, M')) : f ρ M = some (.p (.bool b), M') := by
  unfold tb at h
  split at h
  · rename_i e
    cases h
    exact e
  · cases h
theorem tb_run {f : EF} : ∀ σ H Q, TB P (tb f) σ H Q → T P f σ H fun x H1 => ∃ k, x = .bl k ∧ Q k H1 := by
  intro σ H Q ⟨ρ, M, m, b, M', hs, hm, e, k⟩
  refine ⟨ρ, M, m, _, M', hs, hm, tb_eq e, fun v m' H' ev rv rm => ⟨b, rv_bl rv, k m' H' ev rm⟩⟩
theorem at_val {e : Expr} {f : EF} (h : PE X e (T P f)) (he : ∀ whole, isTrue e X.env whole = (do let v ← whole; standAt e.pos; holding [v] (truthy v)) := by intro _; rfl) : PT X e (TB P (tb f)) :=
  PT.weak (pt_val h he) tb_run
theorem at_cmp {op : CmpOp} {g : BF} (h : CmpOk X P op g) (ha : PE X a (T P fa)) (hb : PE X b (T P fb)) (hmk : behindInMarks op b = false := by first | exact nomark _ | rfl) : PT X (.Compare a [op] [b] pos) (TB P (tb (eBin g fa fb))) := by
  obtain ⟨r, h1, h2⟩ := h.ex
  exact PT.weak (pt_cmpR h1 ha hb hmk) fun σ H Q q => two_run h2 σ H _ (tb_run σ H Q q)
theorem at_chain {op op' : CmpOp} {g g' : BF} (h : CmpOk X P op g) (h' : CmpOk X P op' g') (ha : PE X a (T P fa)) (hb : PE X b (T P fb)) (hc : PE X c (T P fc)) (hmk : lastMarks [op, op'] [b, c] = false := by with_unfolding_all rfl) : PT X (.Compare a [op, op'] [b, c] pos) (TB P (tb (eChain g g' fa fb fc))) := by
  obtain ⟨r, h1, h2⟩ := h.ex
  obtain ⟨r', h1', h2'⟩ := h'.ex
  exact PT.weak (pt_chain h1 h1' ha hb hc hmk) fun σ H Q q => chain_run h2 h2' σ H _ (tb_run σ H Q q)
def tNotF (t : TF) : TF := fun ρ M => bnd (t ρ M) fun b M1 => some (!b, M1)
def tAndF (t u : TF) : TF := fun ρ M => bnd (t ρ M) fun b M1 => if b = true then u ρ M1 else some (false, M1)
def tOrF (t u : TF) : TF := fun ρ M => bnd (t ρ M) fun b M1 => if b = true then some (true, M1) else u ρ M1
variable {t u : TF} {rest : List Expr}
theorem at_not (ha : PT X a (TB P t)) : PT X (.UnaryOp .Not a pos) (TB P (tNotF t)) := by
  refine PT.weak (pt_not ha) fun σ H Q ⟨ρ, M, m, b, M', hs, hm, e, k⟩ => ?_
  obtain ⟨c, M1, e1, e⟩ := bnd_eq e
  cases e
  exact ⟨ρ, M, m, c, _, hs, hm, e1, fun m' H' ev rm => k m' H' ev rm⟩
theorem aw_and1 (ha : PT X a (TB P t)) : PW X (.BoolOp .And [a] pos) (TB P t) := pw_and1 ha
theorem aw_or1 (ha : PT X a (TB P t)) : PW X (.BoolOp .Or [a] pos) (TB P t) := pw_or1 ha
theorem aw_and (ha : PT X a (TB P t)) (hb : PW X (.BoolOp .And (b :: rest) pos) (TB P u)) : PW X (.BoolOp .And (a :: b :: rest) pos) (TB P (tAndF t u)) := by
  refine PW.weak (pw_and ha hb) fun σ H Q ⟨ρ, M, m, b, M', hs, hm, e, k⟩ => ?_
  obtain ⟨c, M1, e1, e⟩ := bnd_eq e
  refine ⟨ρ, M, m, c, M1, hs, hm, e1, fun m1 H1 ev1 rm1 => ?_⟩
  cases c with
  | true =>
    rw [if_pos rfl] at e ⊢
    exact ⟨ρ, M1, m1, b, M', hs.mono ev1, rm1, e, fun m' H' ev rm => k m' H' (ev1.trans ev) rm⟩
  | false =>
    rw [if_neg Bool.false_ne_true] at e ⊢
    cases e
    exact k m1 H1 ev1 rm1
theorem aw_or (ha : PT X a (TB P t)) (hb : PW X (.BoolOp .Or (b :: rest) pos) (TB P u)) : PW X (.BoolOp .Or (a :: b :: rest) pos) (TB P (tOrF t u)) := by
  refine PW.weak (pw_or ha hb) fun σ H Q ⟨ρ, M, m, b, M', hs, hm, e, k⟩ => ?_
  obtain ⟨c, M1, e1, e⟩ := bnd_eq e
  refine ⟨ρ, M, m, c, M1, hs, hm, e1, fun m1 H1 ev1 rm1 => ?_⟩
  cases c with
  | true =>
    rw [if_pos rfl] at e ⊢
    cases e
    exact k m1 H1 ev1 rm1
  | false =>
    rw [if_neg Bool.false_ne_true] at e ⊢
    exact ⟨ρ, M1, m1, b, M', hs.mono ev1, rm1, e, fun m' H' ev rm => k m' H' (ev1.trans ev) rm⟩
/-- as values -/
def eAnd (f g : EF) : EF := fun ρ M => bnd (f ρ M) fun x M1 => match x with
  | .p (.bool true) => g ρ M1
  | .p (.bool false) => some (.p (.bool false), M1)
  | _ => none
def eOr (f g : EF) : EF := fun ρ M => bnd (f ρ M) fun x M1 => match x with
  | .p (.bool true) => some (.p (.bool true), M1)
  | .p (.bool false) => g ρ M1
  | _ => none
def eNot (f : EF) : EF := fun ρ M => bnd (f ρ M) fun x M1 => match x with
  | .p (.bool b) => some (.p (.bool (!b)), M1)
  | _ => none
theorem ae_one {op} (ha : PE X a (T P fa)) : PE X (.BoolOp op [a] pos) (T P fa) := pe_one ha
theorem ae_and (ha : PE X a (T P fa)) (hb : PE X (.BoolOp .And (b :: rest) pos) (T P fb)) : PE X (.BoolOp .And (a :: b :: rest) pos) (T P (eAnd fa fb)) := by
  refine PE.weak (pe_and ha hb) fun σ H Q ⟨ρ, M, m, z, M', hs, hm, e, k⟩ => ?_
  obtain ⟨x, M1, e1, e⟩ := bnd_eq e
  refine ⟨ρ, M, m, x, M1, hs, hm, e1, fun v m1 H1 ev1 rv1 rm1 => ?_⟩
  split at e
  · refine ⟨true, rv_bl rv1, ?_⟩
    rw [if_pos rfl]
    exact ⟨ρ, M1, m1, z, M', hs.mono ev1, rm1, e, fun v m' H' ev rv rm => k v m' H' (ev1.trans ev) rv rm⟩
  · refine ⟨false, rv_bl rv1, ?_⟩
    rw [if_neg Bool.false_ne_true]
    cases e
    exact k _ m1 H1 ev1 (Dq.bl false) rm1
  · cases e
theorem ae_or (ha : PE X a (T P fa)) (hb : PE X (.BoolOp .Or (b :: rest) pos) (T P fb)) : PE X (.BoolOp .Or (a :: b :: rest) pos) (T P (eOr fa fb)) := by
  refine PE.weak (pe_or ha hb) fun σ H Q ⟨ρ, M, m, z, M', hs, hm, e, k⟩ => ?_
  obtain ⟨x, M1, e1, e⟩ := bnd_eq e
  refine ⟨ρ, M, m, x, M1, hs, hm, e1, fun v m1 H1 ev1 rv1 rm1 => ?_⟩
  split at e
  · refine ⟨true, rv_bl rv1, ?_⟩
    rw [if_pos rfl]
    cases e
    exact k _ m1 H1 ev1 (Dq.bl true) rm1
  · refine ⟨false, rv_bl rv1, ?_⟩
    rw [if_neg Bool.false_ne_true]
    exact ⟨ρ, M1, m1, z, M', hs.mono ev1, rm1, e, fun v m' H' ev rv rm => k v m' H' (ev1.trans ev) rv rm⟩
  · cases e
theorem ae_not (ha : PE X a (T P fa)) : PE X (.UnaryOp .Not a pos) (T P (eNot fa)) := by
  refine PE.weak (pe_not ha) fun σ H Q ⟨ρ, M, m, z, M', hs, hm, e, k⟩ => ?_
  obtain ⟨x, M1, e1, e⟩ := bnd_eq e
  refine ⟨ρ, M, m, x, M1, hs, hm, e1, fun v m1 H1 ev1 rv1 rm1 => ?_⟩
  split at e
  · rename_i b
    refine ⟨b, rv_bl rv1, ?_⟩
    cases e
    exact k _ m1 H1 ev1 (Dq.bl _) rm1
  · cases e
def eIf (t : TF) (f g : EF) : EF := fun ρ M => bnd (t ρ M) fun b M1 => if b = true then f ρ M1 else g ρ M1
theorem ae_if {tc : Expr} (hc : PT X tc (TB P t)) (ha : PE X a (T P fa)) (hb : PE X b (T P fb)) : PE X (.IfExp tc a b pos) (T P (eIf t fa fb)) := by
  refine PE.weak (pe_ifExp hc ha hb) fun σ H Q ⟨ρ, M, m, z, M', hs, hm, e, k⟩ => ?_
  obtain ⟨c, M1, e1, e⟩ := bnd_eq e
  refine ⟨ρ, M, m, c, M1, hs, hm, e1, fun m1 H1 ev1 rm1 => ?_⟩
  cases c with
  | true =>
    rw [if_pos rfl] at e ⊢
    exact ⟨ρ, M1, m1, z, M', hs.mono ev1, rm1, e, fun v m' H' ev rv rm => k v m' H' (ev1.trans ev) rv rm⟩
  | false =>
    rw [if_neg Bool.false_ne_true] at e ⊢
    exact ⟨ρ, M1, m1, z, M', hs.mono ev1, rm1, e, fun v m' H' ev rv rm => k v m' H' (ev1.trans ev) rv rm⟩
end
end AX

namespace AX
open PySem PySem.Spec PyProof.Rows L2

/-! ### places, parts -/
def bIx : BF
  | .p (.list xs), .p (.int i), M => (atI xs i).map fun d => (.p d, M)
  | .p (.tuple xs), .p (.int i), M => (atI xs i).map fun d => (.p d, M)
  | .ob r, .p (.int i), M => (M[r]?.bind fun xs => atI xs i).map fun d => (.p d, M)
  | .p (.str z), .p (.int i), M => if z.length ≤ szl then (atI z.cps.toList i).map fun c => (.p (.str ⟨#[c]⟩), M) else none
  | _, _, _ => none
def cutA {α : Type} (xs : List α) (lo hi : Option Int) : List α := (xs.drop (HT.sIx xs.length 0 lo)).take (HT.sIx xs.length xs.length hi - HT.sIx xs.length 0 lo)
abbrev OF := Rho → Sto → Option (Option Int × Sto)
def oNo : OF := fun _ M => some (none, M)
def oSm (f : EF) : OF := fun ρ M => match f ρ M with
  | some (.p (.int i), M1) => some (some i, M1)
  | _ => none
def uSl (x : Val) (lo hi : Option Int) (M : Sto) : Option (Val × Sto) := match x with
  | .p (.list xs) => some (.p (.list (cutA xs lo hi)), M)
  | .p (.tuple xs) => some (.p (.tuple (cutA xs lo hi)), M)
  | .ob r => match M[r]? with
    | some xs => some (.p (.list (cutA xs lo hi)), M)
    | none => none
  | .p (.str z) => if z.length ≤ szl then some (.p (.str (cutS z lo hi)), M) else none
  | _ => none
def eSl (f : EF) (lo hi : OF) : EF := fun ρ M => bnd (f ρ M) fun x M1 => bnd (lo ρ M1) fun l M2 => bnd (hi ρ M2) fun h M3 => uSl x l h M3
theorem ixN_le {n m : Nat} {i : Int} (h : n = m) : ixN n i = ixN m i := by rw [h]
section
variable {X : Cx} {P : Par} {pos : Pos} {a b c : Expr} {fa fb fc : EF}
theorem at_dq {m : Mw} {H : Hp} {vs : List V} {ds : List PyData} {i : Int} {d : PyData} (h : DqAll P.K (msk m H) vs ds) (e : atI ds i = some d) : ∃ v, atI vs i = some v ∧ Dq P.K (msk m H) v d := by
  unfold atI at e ⊢
  rw [dpa_len h]
  cases q : ixN ds.length i with
  | none => rw [q] at e; cases e
  | some j =>
    rw [q] at e
    exact dpa_get h e
theorem s_ix : SR2 P (rIx P.K) bIx := by
  intro x y v u m H M z M' Q rx ry hm e k
  unfold bIx at e
  split at e
  · obtain ⟨d, e1, e2⟩ := Option.map_eq_some_iff.mp e
    obtain ⟨p, vs, rfl, hp, hd⟩ := rv_lst rx
    rw [rv_int ry]
    obtain ⟨w, h1, h2⟩ := at_dq hd e1
    exact .inl ⟨_, _, _, w, rfl, rfl, .inl (rd_of hp), h1, kq hm (congrArg some e2) k h2⟩
  · obtain ⟨d, e1, e2⟩ := Option.map_eq_some_iff.mp e
    obtain ⟨p, vs, rfl, hp, hd⟩ := rv_tup rx
    rw [rv_int ry]
    obtain ⟨w, h1, h2⟩ := at_dq hd e1
    exact .inr (.inl ⟨_, _, _, w, rfl, rfl, sqT_of hp, h1, kq hm (congrArg some e2) k h2⟩)
  · obtain ⟨d, e1, e2⟩ := Option.map_eq_some_iff.mp e
    obtain ⟨p, xs, vs, rfl, hr, hM, hH, hd⟩ := rv_ob hm rx
    rw [rv_int ry]
    rw [hM] at e1
    obtain ⟨w, h1, h2⟩ := at_dq hd (show atI xs _ = some d from e1)
    exact .inl ⟨_, _, _, w, rfl, rfl, .inl (.inl hH), h1, kq hm (congrArg some e2) k h2⟩
  · split at e
    · rename_i hz
      obtain ⟨d, e1, e2⟩ := Option.map_eq_some_iff.mp e
      rw [rv_str rx, rv_int ry]
      exact .inr (.inr ⟨_, _, _, rfl, rfl, by rw [szl_eq]; exact hz, e1, kq hm (congrArg some e2) k (Dq.str _)⟩)
    · cases e
  · cases e
theorem ae_ix (ha : PE X a (T P fa)) (hb : PE X b (T P fb)) (hs : PlainIx b := by exact fun _ _ => rfl) (hK : X.K = P.K := by rfl) : PE X (.Subscript a b pos) (T P (eBin bIx fa fb)) :=
  PE.weak (pe_ix (by rw [← hK]; exact ix_seq) ha hb hs) (two_run s_ix)
/-! slices -/
def TOp (P : Par) (f : OF) : TO := fun σ H Q => ∃ ρ M m x M', RS P m H σ ρ ∧ RM P m H M ∧ f ρ M = some (x, M') ∧ ∀ m' H', Ev m m' H H' → RM P m' H' M' → Q x H'
theorem PO.weak {e : Option Expr} {t t' : TO} (h : PO X e t) (w : ∀ σ H Q, t' σ H Q → t σ H Q) : PO X e t' := ⟨fun pins s σ H Q I q => h.run pins s σ H Q I (w σ H Q q)⟩
theorem ao_none : PO X none (TOp P oNo) := PO.weak po_none fun σ H Q ⟨ρ, M, m, x, M', hs, hm, e, k⟩ => by
  cases e
  exact k m H .refl hm
theorem ao_some (h : PE X a (T P fa)) : PO X (some a) (TOp P (oSm fa)) := PO.weak (po_some h) fun σ H Q ⟨ρ, M, m, x, M', hs, hm, e, k⟩ => by
  unfold oSm at e
  split at e
  · rename_i i M1 q
    cases e
    exact ⟨ρ, M, m, _, _, hs, hm, q, fun v m' H' ev rv rm => ⟨i, rv_int rv, k m' H' ev rm⟩⟩
  · cases e
def rSlR : V → Option Int → Option Int → Hp → VK → Prop := fun x lo hi H Q => rSlL X.K x lo hi H Q ∨ (rSlA X.K x lo hi H Q ∨ rSlS x lo hi H Q)
theorem sl_all : SlR X (rSlR (X := X)) := sl_list.or (sl_tupA.or sl_str)
theorem cut_dq {m : Mw} {H : Hp} {vs : List V} {ds : List PyData} (lo hi : Option Int) (h : DqAll P.K (msk m H) vs ds) : DqAll P.K (msk m H) (cutV vs lo hi) (cutA ds lo hi) := by
  unfold cutV cutA
  rw [dpa_len h]
  exact dpa_take _ (dpa_drop _ h)
theorem cutA_whole {α : Type} {xs : List α} {lo hi : Option Int} (h : HT.sIx xs.length 0 lo = 0 ∧ HT.sIx xs.length xs.length hi = xs.length) : cutA xs lo hi = xs := by
  unfold cutA
  rw [h.1, h.2]
  simp
variable {lo hi : Option Expr} {fl fh : OF} {p2 : Pos}
theorem ae_sl (ha : PE X a (T P fa)) (hl : PO X lo (TOp P fl)) (hh : PO X hi (TOp P fh)) (hK : X.K = P.K := by rfl) : PE X (.Subscript a (.Slice lo hi none p2) pos) (T P (eSl fa fl fh)) := by
  refine PE.weak (pe_slice sl_all ha hl hh) fun σ H Q ⟨ρ, M, m, z, M', hs, hm, e, k⟩ => ?_
  obtain ⟨x, M1, e1, e⟩ := bnd_eq e
  obtain ⟨l, M2, e2, e⟩ := bnd_eq e
  obtain ⟨h, M3, e3, e⟩ := bnd_eq e
  refine ⟨ρ, M, m, x, M1, hs, hm, e1, fun v m1 H1 ev1 rv1 rm1 => ?_⟩
  refine ⟨ρ, M1, m1, l, M2, hs.mono ev1, rm1, e2, fun m2 H2 ev2 rm2 => ?_⟩
  refine ⟨ρ, M2, m2, h, M3, (hs.mono ev1).mono ev2, rm2, e3, fun m3 H3 ev3 rm3 => ?_⟩
  have rv := (rv1.mono ev2).mono ev3
  have ev := (ev1.trans ev2).trans ev3
  have k' : ∀ w m' H', Ev m3 m' H3 H' → RV P m' H' z w → RM P m' H' M' → Q w H' := fun w m' H' ev' rv' rm' => k w m' H' (ev.trans ev') rv' rm'
  unfold uSl at e
  unfold rSlR
  rw [hK]
  split at e
  · obtain ⟨p, vs, rfl, hp, hd⟩ := rv_lst rv
    exact .inl ⟨_, _, rfl, .inl (rd_of hp), fun p' hp' => kl rm3 e k' (cut_dq _ _ hd) hp'⟩
  · obtain ⟨p, vs, rfl, hp, hd⟩ := rv_tup rv
    refine .inr (.inl ⟨_, _, rfl, sqT_of hp, fun hw => ?_, fun _ p' hp' => kt rm3 e k' (cut_dq _ _ hd) hp'⟩)
    rw [dpa_len hd] at hw
    rw [cutA_whole hw] at e
    exact kq rm3 e k' rv
  · split at e
    · rename_i xs hx
      obtain ⟨p, ys, vs, rfl, hr, hM, hH, hd⟩ := rv_ob rm3 rv
      rw [hM] at hx
      cases hx
      exact .inl ⟨_, _, rfl, .inl (.inl hH), fun p' hp' => kl rm3 e k' (cut_dq _ _ hd) hp'⟩
    · cases e
  · split at e
    · rename_i hz
      rw [rv_str rv]
      exact .inr (.inr ⟨_, rfl, by rw [szl_eq]; exact hz, kq rm3 e k' (Dq.str _)⟩)
    · cases e
  · cases e

/-! ### arguments, displays -/
def aNil : AF := fun _ M => some ([], M)
def aCons (f : EF) (g : AF) : AF := fun ρ M => bnd (f ρ M) fun x M1 => bnd (g ρ M1) fun xs M2 => some (x :: xs, M2)
/-- *e -/
def aStar (f : EF) (g : AF) : AF := fun ρ M => bnd (f ρ M) fun x M1 => match x with
  | .p (.list xs) => bnd (g ρ M1) fun ys M2 => some (xs.map Val.p ++ ys, M2)
  | .p (.tuple xs) => bnd (g ρ M1) fun ys M2 => some (xs.map Val.p ++ ys, M2)
  | _ => none
variable {es : List Expr} {fr : AF}
theorem aa_nil : PA X [] (TAr P aNil) := PA.weak pa_nil fun σ H Q ⟨ρ, M, m, x, M', hs, hm, e, k⟩ => by
  cases e
  exact k [] m H .refl .nil hm
theorem aa_cons (ha : PE X a (T P fa)) (hr : PA X es (TAr P fr)) (hs : starEach (a :: es) X.env = (false, eval a X.env) :: starEach es X.env := by rfl) : PA X (a :: es) (TAr P (aCons fa fr)) := by
  refine PA.weak (pa_cons ha hr hs) fun σ H Q ⟨ρ, M, m, x, M', hs, hm, e, k⟩ => ?_
  obtain ⟨y, M1, e1, e⟩ := bnd_eq e
  obtain ⟨ys, M2, e2, e⟩ := bnd_eq e
  cases e
  refine ⟨ρ, M, m, y, M1, hs, hm, e1, fun v m1 H1 ev1 rv1 rm1 => ?_⟩
  refine ⟨ρ, M1, m1, ys, _, hs.mono ev1, rm1, e2, fun vs m2 H2 ev2 rv2 rm2 => ?_⟩
  exact k _ m2 H2 (ev1.trans ev2) (.cons (rv1.mono ev2) rv2) rm2
theorem rvs_app {m : Mw} {H : Hp} : ∀ {xs : List PyData} {vs : List V} {ys : List Val} {us : List V}, DqAll P.K (msk m H) vs xs → RVs P m H ys us → RVs P m H (xs.map Val.p ++ ys) (vs ++ us)
  | _, _, _, _, .nil, h => h
  | _, _, _, _, .cons a b, h => .cons a (rvs_app b h)
theorem aa_star {pst : Pos} (ha : PE X a (T P fa)) (hr : PA X es (TAr P fr)) (hs : starEach (.Starred a pst :: es) X.env = (true, eval a X.env) :: starEach es X.env := by rfl) (hK : X.K = P.K := by rfl) : PA X (.Starred a pst :: es) (TAr P (aStar fa fr)) := by
  refine PA.weak (StX.pa_star ha hr hs) fun σ H Q ⟨ρ, M, m, x, M', hs, hm, e, k⟩ => ?_
  obtain ⟨y, M1, e1, e⟩ := bnd_eq e
  refine ⟨ρ, M, m, y, M1, hs, hm, e1, fun v m1 H1 ev1 rv1 rm1 => ?_⟩
  split at e
  · obtain ⟨ys, M2, e2, e⟩ := bnd_eq e
    cases e
    obtain ⟨p, vs, rfl, hp, hd⟩ := rv_lst rv1
    refine ⟨p, vs, rfl, .inr (.inl (rd_of hp)), ?_⟩
    refine ⟨ρ, M1, m1, ys, _, hs.mono ev1, rm1, e2, fun us m2 H2 ev2 rv2 rm2 => ?_⟩
    exact k _ m2 H2 (ev1.trans ev2) (rvs_app (dpAll_mono ev2.same _ _ hd) rv2) rm2
  · obtain ⟨ys, M2, e2, e⟩ := bnd_eq e
    cases e
    obtain ⟨p, vs, rfl, hp, hd⟩ := rv_tup rv1
    refine ⟨p, vs, rfl, .inl (by rw [hK]; exact sqT_of hp), ?_⟩
    refine ⟨ρ, M1, m1, ys, _, hs.mono ev1, rm1, e2, fun us m2 H2 ev2 rv2 rm2 => ?_⟩
    exact k _ m2 H2 (ev1.trans ev2) (rvs_app (dpAll_mono ev2.same _ _ hd) rv2) rm2
  · cases e
def eTup (f : AF) : EF := fun ρ M => bnd (f ρ M) fun xs M1 => match pures xs with
  | some ds => if ds.length ≤ szl then some (.p (.tuple ds), M1) else none
  | none => none
def eLst (f : AF) : EF := fun ρ M => bnd (f ρ M) fun xs M1 => match pures xs with
  | some ds => if ds.length ≤ szl then some (.p (.list ds), M1) else none
  | none => none
/-- a list that will be changed -/
def eLstM (f : AF) : EF := fun ρ M => bnd (f ρ M) fun xs M1 => match pures xs with
  | some ds => if ds.length ≤ szl then some (.ob M1.length, M1 ++ [ds]) else none
  | none => none
theorem ae_tup {k1} (h : PA X es (TAr P fr)) : PE X (.Tuple es k1 pos) (T P (eTup fr)) := by
  refine PE.weak (pe_tup h) fun σ H Q ⟨ρ, M, m, x, M', hs, hm, e, k⟩ => ?_
  obtain ⟨xs, M1, e1, e⟩ := bnd_eq e
  refine ⟨ρ, M, m, xs, M1, hs, hm, e1, fun vs m1 H1 ev1 rv1 rm1 => ?_⟩
  split at e
  · rename_i ds hp
    split at e
    · rename_i hz
      have hd := RVs.pure rv1 hp
      exact ⟨by rw [dpa_len hd, szl_eq]; exact hz, fun p hp' => kt rm1 e (fun w m' H' ev rv rm => k w m' H' (ev1.trans ev) rv rm) hd hp'⟩
    · cases e
  · cases e
theorem ae_lst (h : PA X es (TAr P fr)) : PE X (.List es pos) (T P (eLst fr)) := by
  refine PE.weak (pe_lst h) fun σ H Q ⟨ρ, M, m, x, M', hs, hm, e, k⟩ => ?_
  obtain ⟨xs, M1, e1, e⟩ := bnd_eq e
  refine ⟨ρ, M, m, xs, M1, hs, hm, e1, fun vs m1 H1 ev1 rv1 rm1 => ?_⟩
  split at e
  · rename_i ds hp
    split at e
    · rename_i hz
      have hd := RVs.pure rv1 hp
      exact ⟨by rw [dpa_len hd, szl_eq]; exact hz, fun p hp' => kl rm1 e (fun w m' H' ev rv rm => k w m' H' (ev1.trans ev) rv rm) hd hp'⟩
    · cases e
  · cases e
theorem ob_new {m : Mw} {H : Hp} {M : Sto} {p : Addr} (hm : RM P m H M) (vs : List V) : RV P ⟨m.hd, m.m ++ [p]⟩ (upd H p (.lst vs)) (.ob M.length) (.ref p) :=
  ⟨p, rfl, by show (m.m ++ [p])[M.length]? = some p; rw [← hm.len]; simp⟩
theorem ae_lstM (h : PA X es (TAr P fr)) : PE X (.List es pos) (T P (eLstM fr)) := by
  refine PE.weak (pe_lst h) fun σ H Q ⟨ρ, M, m, x, M', hs, hm, e, k⟩ => ?_
  obtain ⟨xs, M1, e1, e⟩ := bnd_eq e
  refine ⟨ρ, M, m, xs, M1, hs, hm, e1, fun vs m1 H1 ev1 rv1 rm1 => ?_⟩
  split at e
  · rename_i ds hp
    split at e
    · rename_i hz
      have hd := RVs.pure rv1 hp
      refine ⟨by rw [dpa_len hd, szl_eq]; exact hz, fun p hp' => ?_⟩
      cases e
      obtain ⟨ev2, rm2⟩ := mut_new rm1 hp' hd
      exact k _ _ _ (ev1.trans ev2) (ob_new rm1 vs) rm2
    · cases e
  · cases e

/-! ### built-ins by name -/
abbrev NF := List Val → Sto → Option (Val × Sto)
def SRn (P : Par) (r : List V → Hp → VK → Prop) (g : NF) : Prop := ∀ (xs : List Val) (vs : List V) (m : Mw) (H : Hp) (M : Sto) (z : Val) (M' : Sto) (Q : VK), RVs P m H xs vs → RM P m H M → g xs M = some (z, M') →
  (∀ w m' H', Ev m m' H H' → RV P m' H' z w → RM P m' H' M' → Q w H') → r vs H Q
def eCB (g : NF) (fr : AF) : EF := fun ρ M => bnd (fr ρ M) fun xs M1 => g xs M1
theorem cb_run {r : List V → Hp → VK → Prop} {g : NF} (hr : SRn P r g) : ∀ σ H Q, T P (eCB g fr) σ H Q → TAr P fr σ H fun vs H1 => r vs H1 Q := by
  intro σ H Q ⟨ρ, M, m, z, M', hs, hm, e, k⟩
  obtain ⟨xs, M1, e1, e⟩ := bnd_eq e
  exact ⟨ρ, M, m, xs, M1, hs, hm, e1, fun vs m1 H1 ev1 rv1 rm1 => hr xs vs m1 H1 M1 z M' Q rv1 rm1 e fun w m' H' ev rv rm => k w m' H' (ev1.trans ev) rv rm⟩
/-- a built-in function, type: its call's meaning -/
structure BuiltF (X : Cx) (P : Par) (bid : String) (g : NF) : Prop where
  ex : ∃ r, CallR X (.builtin bid) r ∧ SRn P r g
structure BuiltT (X : Cx) (P : Par) (bid : String) (g : NF) : Prop where
  ex : ∃ r, CallR X (.type bid) r ∧ SRn P r g
variable {x : Str} {pf : Pos} {bid : String} {g : NF}
theorem ae_cb (h : BuiltF X P bid g) (hm : X.mg x = none) (ha : PA X (a :: es) (TAr P fr)) (hg : Gl X x := by rfl) (hv : bootBuiltins x = some (.builtin bid) := by decide +kernel) (hn : x ≠ "__name__" := by decide) (hdb : (x == ("__debug__" : Str)) = false := by decide)
    (he : starEach (a :: es) X.env = (false, eval a X.env) :: starEach es X.env := by rfl) (hpl : (backTo pos (starEach es X.env)).any (·.1) = false := by rfl) : PE X (.Call (.Name x pf) (a :: es) [] pos) (T P (eCB g fr)) := by
  obtain ⟨r, h1, h2⟩ := h.ex
  exact PE.weak (pe_callB h1 hg hm hv ha hn hdb he hpl) (cb_run h2)
theorem ae_ct (h : BuiltT X P bid g) (hm : X.mg x = none) (ha : PA X (a :: es) (TAr P fr)) (hg : Gl X x := by rfl) (hv : bootBuiltins x = some (.type bid) := by decide +kernel) (hn : x ≠ "__name__" := by decide) (hdb : (x == ("__debug__" : Str)) = false := by decide)
    (he : starEach (a :: es) X.env = (false, eval a X.env) :: starEach es X.env := by rfl) (hpl : (backTo pos (starEach es X.env)).any (·.1) = false := by rfl) : PE X (.Call (.Name x pf) (a :: es) [] pos) (T P (eCB g fr)) := by
  obtain ⟨r, h1, h2⟩ := h.ex
  exact PE.weak (pe_callTy h1 hg hm hv ha hn hdb he hpl) (cb_run h2)
theorem SRn.orL {r r' : List V → Hp → VK → Prop} {g : NF} (h : SRn P r g) : SRn P (fun xs H Q => r xs H Q ∨ r' xs H Q) g := fun xs vs m H M z M' Q a b c d => .inl (h xs vs m H M z M' Q a b c d)
theorem rvs1 {m : Mw} {H : Hp} {x : Val} {vs : List V} (h : RVs P m H [x] vs) : ∃ v, vs = [v] ∧ RV P m H x v := by
  cases h with
  | cons a b => cases b; exact ⟨_, rfl, a⟩
theorem rvs2 {m : Mw} {H : Hp} {x y : Val} {vs : List V} (h : RVs P m H [x, y] vs) : ∃ v u, vs = [v, u] ∧ RV P m H x v ∧ RV P m H y u := by
  cases h with
  | cons a b =>
    obtain ⟨u, rfl, c⟩ := rvs1 b
    exact ⟨_, _, rfl, a, c⟩
def nAbs : NF
  | [.p (.int i)], M => some (.p (.int (if i < 0 then -i else i)), M)
  | _, _ => none
theorem b_abs : BuiltF X P "abs" nAbs := ⟨_, call_abs, by
  intro xs vs m H M z M' Q rv hm e k
  unfold nAbs at e
  split at e
  · obtain ⟨v, rfl, r1⟩ := rvs1 rv
    rw [rv_int r1]
    exact ⟨_, rfl, kq hm e k (Dq.int _)⟩
  · cases e⟩
def nMax : NF
  | [.p (.int i), .p (.int j)], M => some (.p (.int (if j > i then j else i)), M)
  | _, _ => none
theorem b_max (hc : X.calm = true := by rfl) : BuiltF X P "max" nMax := ⟨_, call_max2 hc, by
  intro xs vs m H M z M' Q rv hm e k
  unfold nMax at e
  split at e
  · obtain ⟨v, u, rfl, r1, r2⟩ := rvs2 rv
    rw [rv_int r1, rv_int r2]
    exact ⟨_, _, rfl, kq hm e k (Dq.int _)⟩
  · cases e⟩
def nMin : NF
  | [.p (.int i), .p (.int j)], M => some (.p (.int (if j < i then j else i)), M)
  | _, _ => none
theorem b_min (hc : X.calm = true := by rfl) : BuiltF X P "min" nMin := ⟨_, call_min2 hc, by
  intro xs vs m H M z M' Q rv hm e k
  unfold nMin at e
  split at e
  · obtain ⟨v, u, rfl, r1, r2⟩ := rvs2 rv
    rw [rv_int r1, rv_int r2]
    exact ⟨_, _, rfl, kq hm e k (Dq.int _)⟩
  · cases e⟩
def nInt : NF
  | [.p (.int i)], M => some (.p (.int i), M)
  | _, _ => none
theorem b_int : BuiltT X P "int" nInt := ⟨_, call_int1, by
  intro xs vs m H M z M' Q rv hm e k
  unfold nInt at e
  split at e
  · obtain ⟨v, rfl, r1⟩ := rvs1 rv
    rw [rv_int r1]
    exact .inl ⟨_, rfl, kq hm e k (Dq.int _)⟩
  · cases e⟩
def nDivmod : NF
  | [.p (.int i), .p (.int j)], M => if 0 < j ∧ j < 1073741824 then some (.p (.tuple [.int (i / j), .int (i % j)]), M) else none
  | _, _ => none
theorem b_divmod : BuiltF X P "divmod" nDivmod := ⟨_, call_divmod, by
  intro xs vs m H M z M' Q rv hm e k
  unfold nDivmod at e
  split at e
  · split at e
    · rename_i hz
      obtain ⟨v, u, rfl, r1, r2⟩ := rvs2 rv
      rw [rv_int r1, rv_int r2]
      exact ⟨_, _, rfl, hz, fun p hp => kt hm e k (.cons (.int _) (.cons (.int _) .nil)) hp⟩
    · cases e
  · cases e⟩
def nLen : NF
  | [.p (.list xs)], M => some (.p (.int xs.length), M)
  | [.p (.tuple xs)], M => some (.p (.int xs.length), M)
  | [.ob r], M => match M[r]? with
    | some xs => some (.p (.int xs.length), M)
    | none => none
  | [.p (.str z)], M => if z.length ≤ szl then some (.p (.int z.length), M) else none
  | _, _ => none
theorem b_len (hK : X.K = P.K := by rfl) : BuiltF X P "len" nLen := ⟨_, call_len_seq.or call_len_str, by
  intro xs vs m H M z M' Q rv hm e k
  unfold nLen at e
  rw [hK]
  split at e
  · obtain ⟨v, rfl, r1⟩ := rvs1 rv
    obtain ⟨p, ws, rfl, hp, hd⟩ := rv_lst r1
    rw [← dpa_len hd] at e
    exact .inl ⟨p, ws, rfl, .inl (.inl (rd_of hp)), kq hm e k (Dq.int _)⟩
  · obtain ⟨v, rfl, r1⟩ := rvs1 rv
    obtain ⟨p, ws, rfl, hp, hd⟩ := rv_tup r1
    rw [← dpa_len hd] at e
    exact .inl ⟨p, ws, rfl, .inr (sqT_of hp), kq hm e k (Dq.int _)⟩
  · obtain ⟨v, rfl, r1⟩ := rvs1 rv
    obtain ⟨p, ys, ws, rfl, hr, hM, hH, hd⟩ := rv_ob hm r1
    rw [hM] at e
    have e : some (Val.p (.int (ys.length : Int)), M) = some (z, M') := e
    rw [show (ys.length : Int) = (ws.length : Int) by rw [dpa_len hd]] at e
    exact .inl ⟨p, ws, rfl, .inl (.inl (.inl hH)), kq hm e k (Dq.int _)⟩
  · split at e
    · rename_i hz
      obtain ⟨v, rfl, r1⟩ := rvs1 rv
      rw [rv_str r1]
      exact .inr ⟨_, rfl, by rw [szl_eq]; exact hz, kq hm e k (Dq.int _)⟩
    · cases e
  · cases e⟩
def nList : NF
  | [.p (.list xs)], M => some (.p (.list xs), M)
  | [.p (.tuple xs)], M => some (.p (.list xs), M)
  | [.ob r], M => match M[r]? with
    | some xs => some (.p (.list xs), M)
    | none => none
  | _, _ => none
theorem b_list (hK : X.K = P.K := by rfl) : BuiltT X P "list" nList := ⟨_, call_list_of, by
  intro xs vs m H M z M' Q rv hm e k
  unfold nList at e
  rw [hK]
  split at e
  · obtain ⟨v, rfl, r1⟩ := rvs1 rv
    obtain ⟨p, ws, rfl, hp, hd⟩ := rv_lst r1
    exact ⟨p, ws, rfl, .inl (.inl (rd_of hp)), fun q hq => kl hm e k hd hq⟩
  · obtain ⟨v, rfl, r1⟩ := rvs1 rv
    obtain ⟨p, ws, rfl, hp, hd⟩ := rv_tup r1
    exact ⟨p, ws, rfl, .inr (sqT_of hp), fun q hq => kl hm e k hd hq⟩
  · obtain ⟨v, rfl, r1⟩ := rvs1 rv
    obtain ⟨p, ys, ws, rfl, hr, hM, hH, hd⟩ := rv_ob hm r1
    rw [hM] at e
    exact ⟨p, ws, rfl, .inl (.inl (.inl hH)), fun q hq => kl hm e k hd hq⟩
  · cases e⟩
def nTuple : NF
  | [.p (.list xs)], M => some (.p (.tuple xs), M)
  | [.p (.tuple xs)], M => some (.p (.tuple xs), M)
  | [.ob r], M => match M[r]? with
    | some xs => some (.p (.tuple xs), M)
    | none => none
  | _, _ => none
theorem b_tuple (hK : X.K = P.K := by rfl) : BuiltT X P "tuple" nTuple := ⟨_, call_tuple_of, by
  intro xs vs m H M z M' Q rv hm e k
  unfold nTuple at e
  rw [hK]
  split at e
  · obtain ⟨v, rfl, r1⟩ := rvs1 rv
    obtain ⟨p, ws, rfl, hp, hd⟩ := rv_lst r1
    exact ⟨p, ws, rfl, .inl ⟨.inl (rd_of hp), fun q hq => kt hm e k hd hq⟩⟩
  · obtain ⟨v, rfl, r1⟩ := rvs1 rv
    obtain ⟨p, ws, rfl, hp, hd⟩ := rv_tup r1
    exact ⟨p, ws, rfl, .inr ⟨sqT_of hp, kq hm e k r1⟩⟩
  · obtain ⟨v, rfl, r1⟩ := rvs1 rv
    obtain ⟨p, ys, ws, rfl, hr, hM, hH, hd⟩ := rv_ob hm r1
    rw [hM] at e
    exact ⟨p, ws, rfl, .inl ⟨.inl (.inl hH), fun q hq => kt hm e k hd hq⟩⟩
  · cases e⟩
/-- the bools of a list -/
def bools : List PyData → Option (List Bool)
  | [] => some []
  | .bool b :: r => (bools r).map (b :: ·)
  | _ :: _ => none
theorem bools_dq {m : Mw} {H : Hp} : ∀ {ds : List PyData} {vs : List V} {bs : List Bool}, DqAll P.K (msk m H) vs ds → bools ds = some bs → vs = bs.map V.bl
  | _, _, _, .nil, e => by cases e; rfl
  | _, _, _, .cons (d := d) a b, e => by
    unfold bools at e
    split at e
    · rename_i h; cases h
    · rename_i r h
      cases h
      obtain ⟨bs, e1, rfl⟩ := Option.map_eq_some_iff.mp e
      cases a
      rw [bools_dq b e1]; rfl
    · cases e
def nAll : NF
  | [.p (.list xs)], M => (bools xs).map fun bs => (.p (.bool (bs.all id)), M)
  | _, _ => none
theorem b_all (hc : X.calm = true := by rfl) (hK : X.K = P.K := by rfl) : BuiltF X P "all" nAll := ⟨_, cr_all hc, by
  intro xs vs m H M z M' Q rv hm e k
  unfold nAll at e
  rw [hK]
  split at e
  · obtain ⟨bs, e1, e2⟩ := Option.map_eq_some_iff.mp e
    obtain ⟨v, rfl, r1⟩ := rvs1 rv
    obtain ⟨p, ws, rfl, hp, hd⟩ := rv_lst r1
    have := bools_dq hd e1
    subst this
    exact ⟨p, bs, rfl, .inl (rd_of hp), kq hm (congrArg some e2) k (Dq.bl _)⟩
  · cases e⟩
def nAny : NF
  | [.p (.list xs)], M => (bools xs).map fun bs => (.p (.bool (bs.any id)), M)
  | _, _ => none
theorem b_any (hc : X.calm = true := by rfl) (hK : X.K = P.K := by rfl) : BuiltF X P "any" nAny := ⟨_, cr_any hc, by
  intro xs vs m H M z M' Q rv hm e k
  unfold nAny at e
  rw [hK]
  split at e
  · obtain ⟨bs, e1, e2⟩ := Option.map_eq_some_iff.mp e
    obtain ⟨v, rfl, r1⟩ := rvs1 rv
    obtain ⟨p, ws, rfl, hp, hd⟩ := rv_lst r1
    have := bools_dq hd e1
    subst this
    exact ⟨p, bs, rfl, .inl (rd_of hp), kq hm (congrArg some e2) k (Dq.bl _)⟩
  · cases e⟩
end
end AX

namespace AX
open PySem PySem.Spec PyProof.Rows L2

/-! ### isinstance -/
def tyName : PyData → String
  | .none => "NoneType"
  | .bool _ => "bool"
  | .int _ => "int"
  | .str _ => "str"
  | .list _ => "list"
  | .tuple _ => "tuple"
  | .dict _ => "dict"
def isTy (n : String) : PyData → Bool
  | .none => n == "NoneType"
  | .bool _ => n == "bool" || n == "int"
  | .int _ => n == "int"
  | .str _ => n == "str"
  | .list _ => n == "list"
  | .tuple _ => n == "tuple"
  | .dict _ => n == "dict"
def eIsi (n : String) (f : EF) : EF := fun ρ M => bnd (f ρ M) fun x M1 => match x with
  | .p d => some (.p (.bool (isTy n d)), M1)
  | .ob _ => some (.p (.bool (n == "list")), M1)
  | _ => none
/-- the answer of the model for each pair of built-in types met here -/
structure IsTab (K : PySem.W.Frag) (n : String) : Prop where
  non : PySem.W.kitOne K (.type "NoneType") (.type n) = some (isTy n .none)
  bl : PySem.W.kitOne K (.type "bool") (.type n) = some (isTy n (.bool true))
  int : PySem.W.kitOne K (.type "int") (.type n) = some (isTy n (.int 0))
  str : PySem.W.kitOne K (.type "str") (.type n) = some (isTy n (.str Str.empty))
  lst : PySem.W.kitOne K (.type "list") (.type n) = some (isTy n (.list []))
  tup : PySem.W.kitOne K (.type "tuple") (.type n) = some (isTy n (.tuple []))
section
variable {X : Cx} {P : Par} {pos pf p2 : Pos} {a b c : Expr} {fa fb fc : EF}
theorem sqT_ty {K : PySem.W.Frag} {H : Hp} {a : Addr} {xs : List V} (h : SqT K H a xs) : TyX K H (.ref a) (.type "tuple") := by
  rcases h with (h | ⟨o, h⟩) | ⟨o, its, n, h1, h2, _⟩
  · exact .base (.tup h)
  · exact .fTuple h
  · exact .kTuple h1 h2
theorem rd_ty {K : PySem.W.Frag} {H : Hp} {a : Addr} {xs : List V} (h : Rd H a (.lst xs)) : TyX K H (.ref a) (.type "list") := by
  rcases h with h | ⟨o, h⟩
  · exact .base (.lst h)
  · exact .base (.frz h)
theorem ae_isi {n : Str} {ns : String} (t : IsTab X.K ns) (hm : X.mg "isinstance" = none) (hmn : X.mg n = none) (ha : PE X a (T P fa)) (hg : Gl X "isinstance" := by rfl) (hgn : Gl X n := by rfl) (hv : bootBuiltins n = some (.type ns) := by decide +kernel) (hnn : n ≠ "__name__" := by decide)
    (hdb : (n == ("__debug__" : Str)) = false := by decide) (he : starEach (a :: [.Name n p2]) X.env = (false, eval a X.env) :: starEach [.Name n p2] X.env := by rfl) (he2 : starEach (.Name n p2 :: []) X.env = (false, eval (.Name n p2) X.env) :: starEach [] X.env := by rfl)
    (hpl : (backTo pos (starEach [.Name n p2] X.env)).any (·.1) = false := by rfl) (hK : X.K = P.K := by rfl) : PE X (.Call (.Name "isinstance" pf) [a, .Name n p2] [] pos) (T P (eIsi ns fa)) := by
  refine PE.weak (pe_callB call_isi hg hm (by decide +kernel) (pa_cons ha (pa_cons (pe_bltn (v := .ty ns) hgn hmn hv rfl hnn hdb) pa_nil he2) he) (by decide) (by decide) he hpl) fun σ H Q ⟨ρ, M, m, z, M', hs, hm, e, k⟩ => ?_
  obtain ⟨x, M1, e1, e⟩ := bnd_eq e
  refine ⟨ρ, M, m, x, M1, hs, hm, e1, fun v m1 H1 ev1 rv1 rm1 => ?_⟩
  show rIsi X.K [v, .ty ns] H1 Q
  have k' : ∀ w m' H', Ev m1 m' H1 H' → RV P m' H' z w → RM P m' H' M' → Q w H' := fun w m' H' ev rv rm => k w m' H' (ev1.trans ev) rv rm
  split at e
  · rename_i d
    cases d with
    | none => rw [rv_non rv1]; exact ⟨_, _, _, _, _, rfl, .ty _, .base .non, t.non, kq rm1 e k' (Dq.bl _)⟩
    | bool b => rw [rv_bl rv1]; exact ⟨_, _, _, _, _, rfl, .ty _, .base (.bl _), t.bl, kq rm1 e k' (Dq.bl _)⟩
    | int b => rw [rv_int rv1]; exact ⟨_, _, _, _, _, rfl, .ty _, .base (.int _), t.int, kq rm1 e k' (Dq.bl _)⟩
    | str b => rw [rv_str rv1]; exact ⟨_, _, _, _, _, rfl, .ty _, .base (.str _), t.str, kq rm1 e k' (Dq.bl _)⟩
    | list b =>
      obtain ⟨p, vs, rfl, hp, hd⟩ := rv_lst rv1
      exact ⟨_, _, _, _, _, rfl, .ty _, rd_ty (rd_of hp), t.lst, kq rm1 e k' (Dq.bl _)⟩
    | tuple b =>
      obtain ⟨p, vs, rfl, hp, hd⟩ := rv_tup rv1
      exact ⟨_, _, _, _, _, rfl, .ty _, sqT_ty (by rw [hK]; exact sqT_of hp), t.tup, kq rm1 e k' (Dq.bl _)⟩
    | dict b => cases (show Dq P.K (msk m1 H1) v (.dict b) from rv1)
  · obtain ⟨p, ys, vs, rfl, hr, hM, hH, hd⟩ := rv_ob rm1 rv1
    exact ⟨_, _, _, _, _, rfl, .ty _, .base (.lst hH), t.lst, kq rm1 e k' (Dq.bl _)⟩
  · cases e

/-! ### repr -/
def reprOk (d : PyData) : Bool := PyData.showable d && !PyData.hasDict d && decide (PyData.depth d ≤ 60) && decide ((PyData.shown d).length ≤ szl)
def nRepr : NF
  | [.p d], M => if reprOk d then some (.p (.str (PyData.shown d)), M) else none
  | [.ob r], M => match M[r]? with
    | some xs => if reprOk (.list xs) then some (.p (.str (PyData.shown (.list xs))), M) else none
    | none => none
  | _, _ => none
def rRepr (K : PySem.W.Frag) : List V → Hp → VK → Prop := fun xs H Q => ∃ x d, xs = [x] ∧ Dp K H x d ∧ reprOk d = true ∧ Q (.str (PyData.shown d)) H
theorem call_repr {k : Nat} (hr : Room k X.A) (hgd : X.A.guards = some []) : CallR X (.builtin "repr") (rRepr X.K) := by
  intro pins s σ H xs us Q I r h
  obtain ⟨x, d, rfl, hd, ok, q⟩ := h
  obtain ⟨u, rfl, ru⟩ := vals1 r
  unfold reprOk at ok
  simp only [Bool.and_eq_true, Bool.not_eq_true', decide_eq_true_eq] at ok
  obtain ⟨⟨⟨h1, h2⟩, h3⟩, h4⟩ := ok
  have hl : (PyData.shown d).length ≤ sizeLine := by rw [szl_eq]; exact h4
  obtain ⟨as, rd⟩ := Dp.reads I d x u hd ru
  have hun := hr.un
  cases d with
  | none => cases rd; simp only [PyData.shown] at q; exact PySem.P.repr_of_none ⟨.str _, H, I.tok _, ⟨_, rfl⟩, q⟩
  | bool b => cases rd; simp only [PyData.shown] at q; exact PySem.P.repr_of_bool ⟨.str _, H, I.tok _, ⟨_, rfl⟩, q⟩
  | int i => cases rd; simp only [PyData.shown] at q; simp only [PyData.showable, decide_eq_true_eq] at h1; exact PySem.P.repr_of_int h1 ⟨.str _, H, I.tok _, ⟨_, rfl⟩, q⟩
  | str z => cases rd; simp only [PyData.shown] at q hl; exact PySem.P.repr_of_str ⟨.str _, H, I.tok _, ⟨_, rfl⟩, q⟩ hl
  | list ds =>
    cases rd with
    | list a1 a2 a3 a4 =>
      exact PySem.repr_of_reads' (.list a1 a2 a3 a4) h1 (fun z => by rw [h2] at z; cases z) hgd (by omega) (fun _ _ e => e) (fun h' u tk kp => ⟨.str _, H, I.kept (t' := tk) kp, ⟨_, rfl⟩, q⟩) hl
  | tuple ds =>
    cases rd with
    | tuple a1 a2 a3 a4 =>
      exact PySem.repr_of_reads' (.tuple a1 a2 a3 a4) h1 (fun z => by rw [h2] at z; cases z) hgd (by omega) (fun _ _ e => e) (fun h' u tk kp => ⟨.str _, H, I.kept (t' := tk) kp, ⟨_, rfl⟩, q⟩) hl
  | dict ds => cases hd
theorem b_repr {k : Nat} (hr : Room k X.A) (hgd : X.A.guards = some []) (hK : X.K = P.K := by rfl) : BuiltF X P "repr" nRepr := ⟨_, call_repr hr hgd, by
  intro xs vs m H M z M' Q rv hm e k
  unfold nRepr at e
  rw [hK]
  split at e
  · split at e
    · rename_i ok
      obtain ⟨v, rfl, r1⟩ := rvs1 rv
      exact ⟨v, _, rfl, dp_of r1, ok, kq hm e k (Dq.str _)⟩
    · cases e
  · split at e
    · rename_i zs hz
      split at e
      · rename_i ok
        obtain ⟨v, rfl, r1⟩ := rvs1 rv
        obtain ⟨p, ys, us, rfl, hr, hM, hH, hd⟩ := rv_ob hm r1
        rw [hM] at hz
        cases hz
        exact ⟨_, _, rfl, .lst (.inl (.inl hH)) (dqAll_dp _ _ (dpAll_mono (msk_sub m H) _ _ hd)), ok, kq hm e k (Dq.str _)⟩
      · cases e
    · cases e
  · cases e⟩
end

/-! ### defs -/
/-- the promise: the n arguments, what f makes of them -/
def spOf (P : Par) (n : Nat) (f : Fn) : Sp := fun vs H Q _ => vs.length = n ∧ ∃ xs M m z M', RVs P m H xs vs ∧ RM P m H M ∧ f xs M = some (z, M') ∧ ∀ w m' H', Ev m m' H H' → RV P m' H' z w → RM P m' H' M' → Q w H'
/-- a def that keeps a promise wherever nothing is being shown -/
structure FnG (Pr : Program) (w : World) (K : PySem.W.Frag) (mg : Str → Option Value) (base : Heap) (CX : CXT) (k : Nat) (f : Addr) (fd : FuncData) (ps : List Str) (sp : Sp) : Prop where
  len : ∀ vs H Q E, sp vs H Q E → vs.length = ps.length
  run : ∀ (A : Around) (outer : List Env) (s : Shared) (H : Hp) (args : Args) (us : List Value) (vs : List V) (Q : VK) (E : XK), Room k A → A.guards = some [] → Env0 Pr w K mg base A outer s H → BindsTo s fd args (ps.zip us) → Vals vs us → sp vs H Q E →
    codeAny (model Pr w) A (.call (.ref f) args) (CR CX outer Pr w H s Q E) s
theorem FnG.mono {Pr : Program} {w : World} {K : PySem.W.Frag} {mg : Str → Option Value} {base : Heap} {CX : CXT} {j k : Nat} {f : Addr} {fd : FuncData} {ps : List Str} {sp : Sp} (F : FnG Pr w K mg base CX j f fd ps sp) (h : j ≤ k) : FnG Pr w K mg base CX k f fd ps sp :=
  ⟨F.len, fun A outer s H args us vs Q E hr => F.run A outer s H args us vs Q E (hr.mono h)⟩
/-- the module's name x is a def that does f; ds: its defaults that fill up -/
structure Gd (Pr : Program) (w : World) (P : Par) (mg : Str → Option Value) (base : Heap) (k : Nat) (x : Str) (n : Nat) (ds : List PyData) (f : Fn) : Prop where
  ex : ∃ (ad : Addr) (fd : FuncData) (ps : List Str) (dvs : List V) (dV : List Value), FnG Pr w P.K mg base CX0 k ad fd ps (spOf P n f) ∧ mg x = some (.ref ad) ∧ PySem.W.keepIn P.K (.ref ad) = true ∧ Binds P.K fd ps dV ∧ Vals dvs dV ∧ ∀ H, DqAll P.K H dvs ds
  ar : ∀ xs M r, f xs M = some r → xs.length = n
/-- .. with keywords: np positional values, the keywords ks; g puts all in the parameters' order -/
structure GdK (Pr : Program) (w : World) (P : Par) (mg : Str → Option Value) (base : Heap) (k : Nat) (x : Str) (n np : Nat) (ks : List Str) (g : List Val → List Val → List Val) (f : Fn) : Prop where
  ex : ∃ (ad : Addr) (fd : FuncData) (ps : List Str) (gU : List Value → List Value → List Value) (gV : List V → List V → List V), FnG Pr w P.K mg base CX0 k ad fd ps (spOf P n f) ∧ mg x = some (.ref ad) ∧ PySem.W.keepIn P.K (.ref ad) = true ∧ KBn P.K fd ps np ks gU gV ∧
    ∀ m H xs vs ys zs, RVs P m H xs vs → RVs P m H ys zs → RVs P m H (g xs ys) (gV vs zs)
  ar : ∀ xs M r, f xs M = some r → xs.length = n
def eCall (f : Fn) (ds : List PyData) (fr : AF) : EF := fun ρ M => bnd (fr ρ M) fun xs M1 => f (xs ++ ds.map Val.p) M1
def eCallK (f : Fn) (g : List Val → List Val → List Val) (n m : Nat) (fr fk : AF) : EF := fun ρ M => bnd (fr ρ M) fun xs M1 => bnd (fk ρ M1) fun ys M2 => if xs.length = n ∧ ys.length = m then f (g xs ys) M2 else none
section
variable {X : Cx} {P : Par} {pos pf : Pos} {a b c : Expr} {es : List Expr} {fr fk : AF} {x : Str} {k n : Nat} {ds : List PyData} {f : Fn}
theorem rvs_dq {m : Mw} {H : Hp} : ∀ {ds : List PyData} {vs : List V}, DqAll P.K (msk m H) vs ds → RVs P m H (ds.map Val.p) vs
  | _, _, .nil => .nil
  | _, _, .cons a b => .cons a (rvs_dq b)
theorem rvs_append {m : Mw} {H : Hp} : ∀ {xs ys : List Val} {vs us : List V}, RVs P m H xs vs → RVs P m H ys us → RVs P m H (xs ++ ys) (vs ++ us)
  | _, _, _, _, .nil, h => h
  | _, _, _, _, .cons a b, h => .cons a (rvs_append b h)
/-- the run of a call -/
theorem run_g {CX : CXT} {E : XK} {sp : Sp} {ad : Addr} {fd : FuncData} {ps : List Str} {args : Args} {us : List Value} {vs : List V} {pins : List (Addr × Obj)} {σ : Sl} {H : Hp} {s : Shared} {Q : VK} (F : FnG X.prog X.w X.K X.mg X.base CX k ad fd ps sp) (hr : Room k X.A) (hgd : X.A.guards = some []) (hx : Passes CX X E)
    (I : Inv X pins σ H s) (hb : BindsTo s fd args (ps.zip us)) (r : Vals vs us) (h : sp vs H Q E) : wpAny (model X.prog X.w) X.A (PySem.call (.ref ad) args.pos args.kw) (EP X pins σ Q) X.xe s := by
  refine wpAny_call (codeAny_mono (F.run X.A X.stack s H args us vs Q E hr hgd I.env0 hb r h) fun rr s' hq => ?_)
  cases rr with
  | error e => exact hx pins σ H s e s' I hq
  | ok fl => cases fl <;> first | exact I.after hq | exact False.elim hq
theorem ae_call (G : Gd X.prog X.w P X.mg X.base k x n ds f) (hr : Room k X.A) (hgd : X.A.guards = some []) (ha : PA X (a :: es) (TAr P fr)) (hg : Gl X x := by rfl) (hdb : (x == ("__debug__" : Str)) = false := by decide)
    (he : starEach (a :: es) X.env = (false, eval a X.env) :: starEach es X.env := by rfl) (hpl : (backTo pos (starEach es X.env)).any (·.1) = false := by rfl) (hK : X.K = P.K := by rfl) : PE X (.Call (.Name x pf) (a :: es) [] pos) (T P (eCall f ds fr)) := by
  obtain ⟨ad, fd, ps, dvs, dV, F, h1, h2, h3, h4, h5⟩ := G.ex
  rw [← hK] at F h2 h3
  refine ⟨fun pins s σ H Q I ⟨ρ, M, m, z, M', hs, hm, e, kk⟩ => ?_⟩
  obtain ⟨xs, M1, e1, e⟩ := bnd_eq e
  refine wpAny_Call_Name_kw (ld_glob I hg h1 ?_ hdb)
  refine PySem.W.callWith_K (h₀ := X.base) I.ok.mod.kin h2 (thn (ha.run pos pins s σ H (fun vs H1 => ∃ m1, Ev m m1 H H1 ∧ RVs P m1 H1 xs vs ∧ RM P m1 H1 M1) I ⟨ρ, M, m, xs, M1, hs, hm, e1, fun vs m1 H1 ev1 rv1 rm1 => ⟨m1, ev1, rv1, rm1⟩⟩) fun us s1 ⟨vs, H1, I1, r, m1, ev1, rv1, rm1⟩ => ⟨I1.kIn, ?_⟩) he hpl
  have rr := rvs_append rv1 (rvs_dq (h5 _))
  have hn : (vs ++ dvs).length = n := by rw [← rr.len]; exact G.ar _ _ _ e
  have hs : spOf P n f (vs ++ dvs) H1 Q E0 := ⟨hn, _, M1, m1, z, M', rr, rm1, e, fun w m' H' ev rv rm => kk w m' H' (ev1.trans ev) rv rm⟩
  have hl := F.len _ _ _ _ hs
  exact run_g (args := ⟨us, []⟩) F hr hgd pass0 I1 (h3 s1 us I1.kIn (by rw [← (r.append h4).length]; exact hl)) (r.append h4) hs
theorem ae_call0 (G : Gd X.prog X.w P X.mg X.base k x n ds f) (hr : Room k X.A) (hgd : X.A.guards = some []) (hg : Gl X x := by rfl) (hdb : (x == ("__debug__" : Str)) = false := by decide)
    (hK : X.K = P.K := by rfl) : PE X (.Call (.Name x pf) [] [] pos) (T P (eCall f ds aNil)) := by
  obtain ⟨ad, fd, ps, dvs, dV, F, h1, h2, h3, h4, h5⟩ := G.ex
  rw [← hK] at F h2 h3
  refine ⟨fun pins s σ H Q I ⟨ρ, M, m, z, M', hs, hm, e, kk⟩ => ?_⟩
  have e : f (ds.map Val.p) M = some (z, M') := e
  refine wpAny_Call_Name_kw (ld_glob I hg h1 ?_ hdb)
  refine PySem.W.callWith_K0 I.kIn h2 ?_
  have rr : RVs P m H (ds.map Val.p) dvs := rvs_dq (h5 _)
  have hn : dvs.length = n := by rw [← rr.len]; exact G.ar _ _ _ e
  have hs : spOf P n f dvs H Q E0 := ⟨hn, _, M, m, z, M', rr, hm, e, kk⟩
  have hl := F.len _ _ _ _ hs
  exact run_g (args := ⟨[], []⟩) F hr hgd pass0 I (h3 s [] I.kIn (by rw [List.nil_append, ← h4.length]; exact hl)) h4 hs
/-! keywords -/
def TKw (P : Par) (f : AF) : TA := TAr P f
theorem PK.weak {e : List Keyword} {t t' : TA} (h : PK X e t) (w : ∀ σ H Q, t' σ H Q → t σ H Q) : PK X e t' := ⟨fun pos pins s σ H Q I q => h.run pos pins s σ H Q I (w σ H Q q)⟩
theorem ak_nil : PK X [] (TAr P aNil) := PK.weak pk_nil fun σ H Q ⟨ρ, M, m, x, M', hs, hm, e, k⟩ => by
  cases e
  exact k [] m H .refl .nil hm
variable {kws : List Keyword} {nm : Option Str} {kpos : Pos} {fa : EF}
theorem ak_cons (ha : PE X a (T P fa)) (hr : PK X kws (TAr P fr)) : PK X (⟨nm, a, kpos⟩ :: kws) (TAr P (aCons fa fr)) := by
  refine PK.weak (pk_cons ha hr) fun σ H Q ⟨ρ, M, m, x, M', hs, hm, e, k⟩ => ?_
  obtain ⟨y, M1, e1, e⟩ := bnd_eq e
  obtain ⟨ys, M2, e2, e⟩ := bnd_eq e
  cases e
  refine ⟨ρ, M, m, y, M1, hs, hm, e1, fun v m1 H1 ev1 rv1 rm1 => ?_⟩
  refine ⟨ρ, M1, m1, ys, _, hs.mono ev1, rm1, e2, fun vs m2 H2 ev2 rv2 rm2 => ?_⟩
  exact k _ m2 H2 (ev1.trans ev2) (.cons (rv1.mono ev2) rv2) rm2
variable {np : Nat} {ks : List Str} {g : List Val → List Val → List Val}
theorem run_gk {pins : List (Addr × Obj)} {σ : Sl} {s2 : Shared} {H2 : Hp} {Q : VK} {ad : Addr} {fd : FuncData} {ps : List Str} {gU : List Value → List Value → List Value} {gV : List V → List V → List V} {us ws : List Value} {vs zs : List V} {xs ys : List Val} {m2 : Mw} {M2 : Sto} {z : Val} {M' : Sto}
    (F : FnG X.prog X.w X.K X.mg X.base CX0 k ad fd ps (spOf P n f)) (h3 : KBn X.K fd ps np ks gU gV) (h5 : ∀ m H xs vs ys zs, RVs P m H xs vs → RVs P m H ys zs → RVs P m H (g xs ys) (gV vs zs)) (ar : ∀ xs M r, f xs M = some r → xs.length = n)
    (hr : Room k X.A) (hgd : X.A.guards = some []) (I2 : Inv X pins σ H2 s2) (r1 : Vals vs us) (r2 : Vals zs ws) (rv1 : RVs P m2 H2 xs vs) (rv2 : RVs P m2 H2 ys zs) (rm2 : RM P m2 H2 M2) (hl : xs.length = np ∧ ys.length = ks.length) (e : f (g xs ys) M2 = some (z, M'))
    (kk : ∀ w m' H', Ev m2 m' H2 H' → RV P m' H' z w → RM P m' H' M' → Q w H') : wpAny (model X.prog X.w) X.A (PySem.call (.ref ad) us (ks.zip ws)) (EP X pins σ Q) X.xe s2 := by
  have rr := h5 _ _ _ _ _ _ rv1 rv2
  have hn : (gV vs zs).length = n := by rw [← rr.len]; exact ar _ _ _ e
  have hs : spOf P n f (gV vs zs) H2 Q E0 := ⟨hn, _, M2, m2, z, M', rr, rm2, e, kk⟩
  refine run_g (args := ⟨us, ks.zip ws⟩) F hr hgd pass0 I2 (h3.to s2 us ws I2.kIn ?_ ?_) (h3.rel r1 r2) hs
  · rw [← r1.length, ← rv1.len]; exact hl.1
  · rw [← r2.length, ← rv2.len]; exact hl.2
theorem ae_callK (G : GdK X.prog X.w P X.mg X.base k x n np ks g f) (hr : Room k X.A) (hgd : X.A.guards = some []) (ha : PA X (a :: es) (TAr P fr)) (hk : PK X kws (TAr P fk)) (hg : Gl X x := by rfl) (hdb : (x == ("__debug__" : Str)) = false := by decide)
    (hall : (backToKw pos (keywordEach kws X.env)).all (·.1.isSome) = true := by rfl) (hks : (backToKw pos (keywordEach kws X.env)).filterMap (·.1) = ks := by rfl)
    (he : starEach (a :: es) X.env = (false, eval a X.env) :: starEach es X.env := by rfl)
    (hpl : ((backTo pos (starEach (a :: es) X.env)).any (·.1) || (backToKw pos (keywordEach kws X.env)).any (·.1.isNone)) = false := by rfl) (hK : X.K = P.K := by rfl) {kn : Nat} (hkn : ks.length = kn := by rfl) : PE X (.Call (.Name x pf) (a :: es) kws pos) (T P (eCallK f g np kn fr fk)) := by
  subst hkn
  obtain ⟨ad, fd, ps, gU, gV, F, h1, h2, h3, h5⟩ := G.ex
  rw [← hK] at F h2 h3
  refine ⟨fun pins s σ H Q I ⟨ρ, M, m, z, M', hs, hm, e, kk⟩ => ?_⟩
  obtain ⟨xs, M1, e1, e⟩ := bnd_eq e
  obtain ⟨ys, M2, e2, e⟩ := bnd_eq e
  split at e
  · rename_i hl
    refine wpAny_Call_Name_kw (ld_glob I hg h1 ?_ hdb)
    refine PySem.W.callWith_KW (h₀ := X.base) I.ok.mod.kin h2 hall (thn (ha.run pos pins s σ H (fun vs H1 => ∃ m1, Ev m m1 H H1 ∧ RVs P m1 H1 xs vs ∧ RM P m1 H1 M1) I ⟨ρ, M, m, xs, M1, hs, hm, e1, fun vs m1 H1 ev1 rv1 rm1 => ⟨m1, ev1, rv1, rm1⟩⟩) fun us s1 ⟨vs, H1, I1, r1, m1, ev1, rv1, rm1⟩ => ?_) hpl he
    refine thn (hk.run pos pins s1 σ H1 (fun zs H2 => ∃ m2, Ev m1 m2 H1 H2 ∧ RVs P m2 H2 ys zs ∧ RM P m2 H2 M2) I1 ⟨ρ, M1, m1, ys, M2, hs.mono ev1, rm1, e2, fun zs m2 H2 ev2 rv2 rm2 => ⟨m2, ev2, rv2, rm2⟩⟩) fun ws s2 ⟨zs, H2, I2, r2, m2, ev2, rv2, rm2⟩ => ⟨I2.kIn, ?_⟩
    rw [hks]
    exact run_gk F h3 h5 G.ar hr hgd I2 r1 r2 (rv1.mono ev2) rv2 rm2 hl e fun w m' H' ev rv rm => kk w m' H' ((ev1.trans ev2).trans ev) rv rm
  · cases e
theorem ae_callK0 (G : GdK X.prog X.w P X.mg X.base k x n 0 ks g f) (hr : Room k X.A) (hgd : X.A.guards = some []) (hk : PK X kws (TAr P fk)) (hg : Gl X x := by rfl) (hdb : (x == ("__debug__" : Str)) = false := by decide)
    (hall : (backToKw pos (keywordEach kws X.env)).all (·.1.isSome) = true := by rfl) (hks : (backToKw pos (keywordEach kws X.env)).filterMap (·.1) = ks := by rfl)
    (hpl : ((backTo pos (starEach [] X.env)).any (·.1) || (backToKw pos (keywordEach kws X.env)).any (·.1.isNone)) = false := by rfl) (hK : X.K = P.K := by rfl) {kn : Nat} (hkn : ks.length = kn := by rfl) : PE X (.Call (.Name x pf) [] kws pos) (T P (eCallK f g 0 kn aNil fk)) := by
  subst hkn
  obtain ⟨ad, fd, ps, gU, gV, F, h1, h2, h3, h5⟩ := G.ex
  rw [← hK] at F h2 h3
  refine ⟨fun pins s σ H Q I ⟨ρ, M, m, z, M', hs, hm, e, kk⟩ => ?_⟩
  obtain ⟨xs, M1, e1, e⟩ := bnd_eq e
  cases e1
  obtain ⟨ys, M2, e2, e⟩ := bnd_eq e
  split at e
  · rename_i hl
    refine wpAny_Call_Name_kw (ld_glob I hg h1 ?_ hdb)
    refine PySem.W.callWith_KW0 (h₀ := X.base) I.ok.mod.kin h2 hall ?_ hpl
    refine thn (hk.run pos pins s σ H (fun zs H2 => ∃ m2, Ev m m2 H H2 ∧ RVs P m2 H2 ys zs ∧ RM P m2 H2 M2) I ⟨ρ, M, m, ys, M2, hs, hm, e2, fun zs m2 H2 ev2 rv2 rm2 => ⟨m2, ev2, rv2, rm2⟩⟩) fun ws s2 ⟨zs, H2, I2, r2, m2, ev2, rv2, rm2⟩ => ⟨I2.kIn, ?_⟩
    rw [hks]
    exact run_gk (us := []) F h3 h5 G.ar hr hgd I2 .nil r2 .nil rv2 rm2 hl e fun w m' H' ev rv rm => kk w m' H' (ev2.trans ev) rv rm
  · cases e
end
end AX

namespace AX
open PySem PySem.Spec PyProof.Rows L2

/-! ### targets -/
abbrev GF := Val → Rho → Sto → Option (Rho × Sto)
def TGw (P : Par) (vs : List Nat) (g : GF) : TG := fun v σ H Q => ∃ ρ M m x ρ' M', RS P m H σ ρ ∧ RM P m H M ∧ RV P m H x v ∧ g x ρ M = some (ρ', M') ∧ ∀ σ' m' H', wipe σ' vs = wipe σ vs → Ev m m' H H' → RS P m' H' σ' ρ' → RM P m' H' M' → Q σ' H'
def gN (i : Nat) : GF := fun x ρ M => some (ρ.set i (some x), M)
@[simp] theorem gN_run (i : Nat) (x : Val) (ρ : Rho) (M : Sto) : gN i x ρ M = some (ρ.set i (some x), M) := rfl
/-- one after another -/
def gSeq : List GF → List PyData → Rho → Sto → Option (Rho × Sto)
  | [], [], ρ, M => some (ρ, M)
  | g :: gs, d :: ds, ρ, M => bnd (g (.p d) ρ M) fun ρ1 M1 => gSeq gs ds ρ1 M1
  | _, _, _, _ => none
def gT (gs : List GF) : GF := fun x ρ M => match x with
  | .p (.tuple ds) => gSeq gs ds ρ M
  | _ => none
theorem wipe_at (σ : Sl) (j : Nat) : ∀ vs : List Nat, (wipe σ vs)[j]? = if j ∈ vs then (σ[j]?).map (fun _ => none) else σ[j]?
  | [] => by simp [wipe]
  | v :: vs => by
    unfold wipe
    rw [List.getElem?_set, wipe_at σ j vs, wipe_length]
    by_cases h : v = j
    · subst h
      by_cases hl : v < σ.length
      · simp [hl]
      · simp [hl]
    · rw [if_neg h]
      have : (j ∈ v :: vs) ↔ j ∈ vs := by
        rw [List.mem_cons]
        exact ⟨fun z => z.elim (fun e => absurd e.symm h) id, .inr⟩
      simp only [this]
theorem wipe_set {σ : Sl} {i : Nat} {o : Option V} {vs : List Nat} (h : i ∈ vs) : wipe (σ.set i o) vs = wipe σ vs := by
  apply List.ext_getElem?
  intro j
  rw [wipe_at, wipe_at, List.getElem?_set]
  by_cases hj : i = j
  · subst hj
    rw [if_pos h, if_pos h, if_pos rfl]
    by_cases hl : i < σ.length
    · simp [hl]
    · simp [hl]
  · rw [if_neg hj]
theorem wipe_wipe {σ : Sl} {vs : List Nat} : wipe (wipe σ vs) vs = wipe σ vs := by
  apply List.ext_getElem?
  intro j
  rw [wipe_at, wipe_at]
  by_cases h : j ∈ vs
  · simp [h, Function.comp_def]
  · simp [h]
def wipeR (ρ : Rho) : List Nat → Rho
  | [] => ρ
  | v :: vs => (wipeR ρ vs).set v none
theorem wipeR_len (ρ : Rho) : ∀ vs : List Nat, (wipeR ρ vs).length = ρ.length
  | [] => rfl
  | v :: vs => by unfold wipeR; rw [List.length_set, wipeR_len ρ vs]
theorem wipeR_at {ρ : Rho} {i : Nat} {x : Val} : ∀ {vs : List Nat}, (wipeR ρ vs)[i]? = some (some x) → ρ[i]? = some (some x) ∧ i ∉ vs
  | [], h => ⟨h, by simp⟩
  | v :: vs, h => by
    unfold wipeR at h
    by_cases hi : v = i
    · subst hi
      by_cases hv : v < (wipeR ρ vs).length
      · rw [List.getElem?_set_self hv] at h; cases h
      · rw [List.getElem?_eq_none (by simpa using hv)] at h; cases h
    · rw [List.getElem?_set_ne hi] at h
      obtain ⟨h1, h2⟩ := wipeR_at h
      exact ⟨h1, by simp only [List.mem_cons, not_or]; exact ⟨fun e => hi e.symm, h2⟩⟩
theorem RS.wipe {P : Par} {m : Mw} {H : Hp} {σ : Sl} {ρ : Rho} (h : RS P m H σ ρ) (vs : List Nat) : RS P m H (wipe σ vs) (wipeR ρ vs) := by
  refine ⟨by rw [wipe_length, wipeR_len]; exact h.len, fun i x q => ?_⟩
  obtain ⟨q1, q2⟩ := wipeR_at q
  obtain ⟨v, h1, h2⟩ := h.at_ i x q1
  exact ⟨v, by rw [wipe_at, if_neg q2]; exact h1, h2⟩
section
variable {X : Cx} {P : Par} {pos : Pos} {vs : List Nat}
theorem ag_name {i : Nat} {x : Str} (hN : X.N.Nodup) (hi : X.N[i]? = some x := by rfl) (hx : Loc X.env.scope x := by first | exact Or.inl rfl | exact Or.inr rfl) (hv : i ∈ vs := by decide) (hf : X.fn x = true ∨ X.env.scope.names.lookup x = some .local := by first | exact .inl rfl | exact .inr rfl | assumption) : PG X (.Name x pos) (TGw P vs (gN i)) := by
  refine PG.weak (pg_name hN hi hx hf) fun v σ H Q ⟨ρ, M, m, y, ρ', M', hs, hm, rv, e, k⟩ => ?_
  cases e
  exact k _ m H (wipe_set hv) .refl (hs.set rv) hm
/-- several targets -/
def TGws (P : Par) (vs : List Nat) (gs : List GF) : TGs := fun us σ H Q => ∃ ρ M m ds ρ' M', RS P m H σ ρ ∧ RM P m H M ∧ DqAll P.K (msk m H) us ds ∧ gSeq gs ds ρ M = some (ρ', M') ∧ ∀ σ' m' H', wipe σ' vs = wipe σ vs → Ev m m' H H' → RS P m' H' σ' ρ' → RM P m' H' M' → Q σ' H'
theorem PGs.weak {ts : List Expr} {t t' : TGs} (h : PGs X ts t) (w : ∀ v σ H Q, t' v σ H Q → t v σ H Q) : PGs X ts t' := ⟨fun pins s σ H vs us Q I r q => h.run pins s σ H vs us Q I r (w _ σ H Q q)⟩
theorem ags_nil : PGs X [] (TGws P vs []) := by
  refine PGs.weak pgs_nil fun us σ H Q ⟨ρ, M, m, ds, ρ', M', hs, hm, hd, e, k⟩ => ?_
  cases ds with
  | nil =>
    cases e
    cases hd
    exact ⟨rfl, k σ m H rfl .refl hs hm⟩
  | cons d ds => cases e
theorem ags_cons {t : Expr} {ts : List Expr} {g : GF} {gs : List GF} (h1 : PG X t (TGw P vs g)) (h2 : PGs X ts (TGws P vs gs)) (hs : (assignEach (t :: ts) X.env).map (·.2) = assign t X.env :: (assignEach ts X.env).map (·.2) := by rfl) : PGs X (t :: ts) (TGws P vs (g :: gs)) := by
  refine PGs.weak (pgs_cons h1 h2 hs) fun us σ H Q ⟨ρ, M, m, ds, ρ', M', hs, hm, hd, e, k⟩ => ?_
  cases ds with
  | nil => cases e
  | cons d ds =>
    obtain ⟨ρ1, M1, e1, e2⟩ := bnd_eq e
    cases hd with
    | cons a b =>
      refine ⟨_, _, rfl, ρ, M, m, .p d, ρ1, M1, hs, hm, a, e1, fun σ1 m1 H1 w1 ev1 rs1 rm1 => ?_⟩
      exact ⟨ρ1, M1, m1, ds, ρ', M', rs1, rm1, dpAll_mono ev1.same _ _ b, e2, fun σ2 m2 H2 w2 ev2 rs2 rm2 => k σ2 m2 H2 (w2.trans w1) (ev1.trans ev2) rs2 rm2⟩
theorem gSeq_len : ∀ {gs : List GF} {ds : List PyData} {ρ : Rho} {M : Sto} {r : Rho × Sto}, gSeq gs ds ρ M = some r → ds.length = gs.length
  | [], [], _, _, _, _ => rfl
  | g :: gs, d :: ds, _, _, _, e => by
    obtain ⟨_, _, _, e2⟩ := bnd_eq (b := _) e
    simp [gSeq_len e2]
  | [], _ :: _, _, _, _, e => by cases e
  | _ :: _, [], _, _, _, e => by cases e
theorem ag_tup {es : List Expr} {k1 : Nat} {gs : List GF} {n : Nat} (hl : gs.length = n) (h : PGs X es (TGws P vs gs)) (hc : X.calm = true := by rfl) (hn : (assignEach es X.env).length = n := by rfl) (hst : (assignEach es X.env).findIdx? (·.1) = none := by rfl) (hK : X.K = P.K := by rfl) : PG X (.Tuple es k1 pos) (TGw P vs (gT gs)) := by
  refine PG.weak (pg_tup hc h hn hst) fun v σ H Q ⟨ρ, M, m, y, ρ', M', hs, hm, rv, e, k⟩ => ?_
  unfold gT at e
  split at e
  · rename_i ds
    obtain ⟨p, us, rfl, hp, hd⟩ := rv_tup rv
    exact ⟨p, us, rfl, by rw [hK]; exact sqT_of hp, by rw [dpa_len hd, gSeq_len e, hl], ρ, M, m, ds, ρ', M', hs, hm, hd, e, k⟩
  · cases e
/-- o[i] = v, o a mutable list -/
def gIx (fo fi : EF) : GF := fun x ρ M => bnd (fo ρ M) fun o M1 => bnd (fi ρ M1) fun i M2 => match o, i, x with
  | .ob r, .p (.int j), .p d => match M2[r]? with
    | some xs => match ixN xs.length j with
      | some k => some (ρ, M2.set r (xs.set k d))
      | none => none
    | none => none
  | _, _, _ => none
theorem ag_ix {o i : Expr} {fo fi : EF} (ho : PE X o (T P fo)) (hi : PE X i (T P fi))
    (ha : ∀ v, assign (.Subscript o i pos) X.env v = (do
      let ov ← holding [v] (eval o X.env)
      let iv ← holding [v, ov] (eval i X.env)
      standAt pos
      holding [v, ov, iv] (setItem ov iv v)
      release [v, ov, iv] []) := by intro _; rfl) : PG X (.Subscript o i pos) (TGw P vs (gIx fo fi)) := by
  refine PG.weak (pg_sub ho hi set_list ha) fun v σ H Q ⟨ρ, M, m, y, ρ', M', hs, hm, rv, e, k⟩ => ?_
  obtain ⟨ov, M1, e1, e⟩ := bnd_eq e
  obtain ⟨iv, M2, e2, e⟩ := bnd_eq e
  refine ⟨ρ, M, m, ov, M1, hs, hm, e1, fun w1 m1 H1 ev1 rv1 rm1 => ?_⟩
  refine ⟨ρ, M1, m1, iv, M2, hs.mono ev1, rm1, e2, fun w2 m2 H2 ev2 rv2 rm2 => ?_⟩
  split at e
  · split at e
    · rename_i xs hx
      split at e
      · rename_i j hj
        cases e
        obtain ⟨p, ys, us, rfl, hr, hM, hH, hd⟩ := rv_ob rm2 (rv1.mono ev2)
        rw [hM] at hx
        cases hx
        rw [rv_int rv2]
        have hdv := (rv.mono ev1).mono ev2
        obtain ⟨ev3, rm3⟩ := mut_set rm2 hr (dpa_set j hd hdv)
        refine ⟨p, us, _, j, rfl, rfl, hH, by rw [dpa_len hd]; exact hj, ?_⟩
        exact k σ m2 _ rfl ((ev1.trans ev2).trans ev3) (hs.mono ((ev1.trans ev2).trans ev3)) rm3
      · cases e
    · cases e
  · cases e
end

/-! ### what is walked -/
abbrev IF := Rho → Sto → Option (List PyData × Sto)
def WalkA (P : Par) (J : It) (m0 : Mw) (H0 : Hp) (xs : List PyData) : Prop := ∃ (G : Hp → Prop) (Y : Nat → Hp → V → Hp → Prop), Walk J xs.length G Y ∧ (∀ H, Same (msk m0 H0) H → G H) ∧
  ∀ i H x H' m M, i < xs.length → Same (msk m0 H0) (msk m H) → RM P m H M → Y i H x H' → ∃ d, xs[i]? = some d ∧ Ev m m H H' ∧ RV P m H' (.p d) x ∧ RM P m H' M ∧ ∀ a o, H a = some o → H' a = some o
def TIt (P : Par) (f : IF) : TI := fun σ H R => ∃ ρ M m xs M', RS P m H σ ρ ∧ RM P m H M ∧ f ρ M = some (xs, M') ∧ ∀ J m' H', Ev m m' H H' → RM P m' H' M' → WalkA P J m' H' xs → R J H'
theorem PI.weak {X : Cx} {tg e : Expr} {t t' : TI} (h : PI X tg e t) (w : ∀ σ H Q, t' σ H Q → t σ H Q) : PI X tg e t' := ⟨fun pins s σ H Q I q => h.run pins s σ H Q I (w σ H Q q)⟩
theorem piOr {X : Cx} {tg e : Expr} {t t' : TI} (h : PI X tg e t) (h' : PI X tg e t') : PI X tg e (fun σ H R => t σ H R ∨ t' σ H R) := ⟨fun pins s σ H Q I q => q.elim (fun q => h.run pins s σ H Q I q) fun q => h'.run pins s σ H Q I q⟩
def iSeq (f : EF) : IF := fun ρ M => match f ρ M with
  | some (.p (.list xs), M1) => some (xs, M1)
  | some (.p (.tuple xs), M1) => some (xs, M1)
  | some (.p (.str z), M1) => some (z.cps.toList.map fun c => .str ⟨#[c]⟩, M1)
  | _ => none
section
variable {X : Cx} {P : Par} {tg a : Expr} {fa : EF} {pos pf tpos : Pos}
theorem walk_at {m0 m : Mw} {H0 H : Hp} {M : Sto} {ds : List PyData} {vs : List V} {i : Nat} {x : V} (hd : DqAll P.K (msk m0 H0) vs ds) (e : Same (msk m0 H0) (msk m H)) (rm : RM P m H M) (h : vs[i]? = some x) :
    ∃ d, ds[i]? = some d ∧ Ev m m H H ∧ RV P m H (.p d) x ∧ RM P m H M ∧ ∀ a o, H a = some o → H a = some o := by
  obtain ⟨d, h1, h2⟩ := dpa_getr hd h
  exact ⟨d, h1, .refl, dp_mono e _ _ h2, rm, fun _ _ q => q⟩
theorem ai_seq (h : PE X a (T P fa)) (hK : X.K = P.K := by rfl) : PI X tg a (TIt P (iSeq fa)) := by
  refine PI.weak (piOr (pi_list h) (piOr (pi_tup h) (pi_str h))) fun σ H R ⟨ρ, M, m, xs, M', hs, hm, e, k⟩ => ?_
  unfold iSeq at e
  split at e
  · rename_i ds M1 q
    cases e
    refine .inl ⟨ρ, M, m, _, _, hs, hm, q, fun v m1 H1 ev1 rv1 rm1 => ?_⟩
    obtain ⟨p, vs, rfl, hp, hd⟩ := rv_lst rv1
    refine ⟨p, rfl, ⟨vs, .inl (rd_of hp)⟩, k _ m1 H1 ev1 rm1 ⟨fun H => SqL X.K H p vs, YAt vs, by rw [← dpa_len hd]; exact walk_list, fun H e => .inl (Same.rd e hp), ?_⟩⟩
    rintro i H x H' m M _ e rm ⟨rfl, h⟩
    exact walk_at hd e rm h
  · rename_i ds M1 q
    cases e
    refine .inr (.inl ⟨ρ, M, m, _, _, hs, hm, q, fun v m1 H1 ev1 rv1 rm1 => ?_⟩)
    obtain ⟨p, vs, rfl, hp, hd⟩ := rv_tup rv1
    refine ⟨p, rfl, ⟨vs, by rw [hK]; exact sqT_of hp⟩, k _ m1 H1 ev1 rm1 ⟨fun H => SqT X.K H p vs, YAt vs, by rw [← dpa_len hd]; exact walk_tup, fun H e => by rw [hK]; exact Same.sqT e hp, ?_⟩⟩
    rintro i H x H' m M _ e rm ⟨rfl, h⟩
    exact walk_at hd e rm h
  · rename_i z M1 q
    cases e
    refine .inr (.inr ⟨ρ, M, m, _, _, hs, hm, q, fun v m1 H1 ev1 rv1 rm1 => ?_⟩)
    refine ⟨z, rv_str rv1, k _ m1 H1 ev1 rm1 ⟨fun _ => True, _, by rw [List.length_map, Array.length_toList]; exact walk_str, fun _ _ => trivial, ?_⟩⟩
    rintro i H x H' m M _ e rm ⟨rfl, c, hc, rfl⟩
    exact ⟨.str ⟨#[c]⟩, by rw [List.getElem?_map, Array.getElem?_toList, hc]; rfl, .refl, Dq.str _, rm, fun _ _ q => q⟩
  · cases e
/-! ranges -/
def rangeD (lo : Int) (n : Nat) : List PyData := (List.range n).map fun i => .int (lo + (i : Nat))
def rangeC (lo c : Int) (n : Nat) : List PyData := (List.range n).map fun i => .int (lo + (i : Nat) * c)
def i62 (i : Int) : Bool := decide (-(2 ^ 62) ≤ i) && decide (i < 2 ^ 62)
def iRange1 (fa : EF) : IF := fun ρ M => match fa ρ M with
  | some (.p (.int j), M1) => if i62 j then some (rangeD 0 j.toNat, M1) else none
  | _ => none
def iRange2 (fa fb : EF) : IF := fun ρ M => bnd (fa ρ M) fun x M1 => bnd (fb ρ M1) fun y M2 => match x, y with
  | .p (.int i), .p (.int j) => if i62 i && i62 j then some (rangeD i (j - i).toNat, M2) else none
  | _, _ => none
/-- downwards by ones -/
def iRange3 (fa fb fc : EF) : IF := fun ρ M => bnd (fa ρ M) fun x M1 => bnd (fb ρ M1) fun y M2 => bnd (fc ρ M2) fun z M3 => match x, y, z with
  | .p (.int i), .p (.int j), .p (.int c) => if c = -1 ∧ (i62 i && i62 j) = true then some (rangeC i (-1) (i - j).toNat, M3) else none
  | _, _, _ => none
theorem walk_rng {m1 : Mw} {H1 : Hp} {lo : Int} {n : Nat} : WalkA P (Itr lo n) m1 H1 (rangeD lo n) := by
  refine ⟨fun _ => True, YFn fun i => .int (lo + i), by unfold rangeD; rw [List.length_map, List.length_range]; exact walk_range, fun _ _ => trivial, ?_⟩
  intro i H x H' m M hi e rm y
  obtain ⟨rfl, rfl⟩ := y
  have hi : i < n := by simpa [rangeD] using hi
  exact ⟨.int (lo + i), by unfold rangeD; rw [List.getElem?_map, List.getElem?_range hi]; rfl, .refl, Dq.int _, rm, fun _ _ q => q⟩
theorem walk_rngC {m1 : Mw} {H1 : Hp} {lo c : Int} {n : Nat} : WalkA P (Itc lo c n) m1 H1 (rangeC lo c n) := by
  refine ⟨fun _ => True, YFn fun i => .int (lo + (i : Nat) * c), by unfold rangeC; rw [List.length_map, List.length_range]; exact walk_rangeC, fun _ _ => trivial, ?_⟩
  intro i H x H' m M hi e rm y
  obtain ⟨rfl, rfl⟩ := y
  have hi : i < n := by simpa [rangeC] using hi
  exact ⟨.int (lo + (i : Nat) * c), by unfold rangeC; rw [List.getElem?_map, List.getElem?_range hi]; rfl, .refl, Dq.int _, rm, fun _ _ q => q⟩
theorem i62_ok {i : Int} (h : i62 i = true) : -(2 ^ 62) ≤ i ∧ i < 2 ^ 62 := by
  unfold i62 at h
  simpa only [Bool.and_eq_true, decide_eq_true_eq] using h
variable {fr : AF} {b c : Expr} {fb fc : EF}
theorem ai_range1 (hm : X.mg "range" = none) (ha : PE X a (T P fa)) (hg : Gl X "range" := by rfl) (hs1 : starEach (a :: []) X.env = (false, eval a X.env) :: starEach [] X.env := by rfl) : PI X tg (.Call (.Name "range" pf) [a] [] pos) (TIt P (iRange1 fa)) := by
  refine PI.weak (pi_range1 hg hm (aa_cons ha aa_nil hs1) (by rw [hs1]; rfl)) fun σ H R ⟨ρ, M, m, xs, M', hs, hm, e, k⟩ => ?_
  unfold iRange1 at e
  split at e
  · rename_i j M1 q
    split at e
    · rename_i hj
      cases e
      refine ⟨ρ, M, m, [_], _, hs, hm, by unfold aCons; rw [q]; rfl, fun vs m1 H1 ev1 rv1 rm1 => ?_⟩
      obtain ⟨v, rfl, r1⟩ := rvs1 rv1
      rw [rv_int r1]
      exact ⟨j, rfl, (i62_ok hj).1, (i62_ok hj).2, k _ m1 H1 ev1 rm1 walk_rng⟩
    · cases e
  · cases e
theorem ai_range2 (hm : X.mg "range" = none) (ha : PE X a (T P fa)) (hb : PE X b (T P fb)) (hg : Gl X "range" := by rfl) (hs1 : starEach (a :: [b]) X.env = (false, eval a X.env) :: starEach [b] X.env := by rfl) (hs2 : starEach (b :: []) X.env = (false, eval b X.env) :: starEach [] X.env := by rfl) :
    PI X tg (.Call (.Name "range" pf) [a, b] [] pos) (TIt P (iRange2 fa fb)) := by
  refine PI.weak (pi_range2 hg hm (aa_cons ha (aa_cons hb aa_nil hs2) hs1) (by rw [hs1, hs2]; rfl) (by rw [hs2]; rfl)) fun σ H R ⟨ρ, M, m, xs, M', hs, hm, e, k⟩ => ?_
  obtain ⟨x, M1, e1, e⟩ := bnd_eq e
  obtain ⟨y, M2, e2, e⟩ := bnd_eq e
  split at e
  · rename_i i j _
    split at e
    · rename_i hj
      cases e
      rw [Bool.and_eq_true] at hj
      refine ⟨ρ, M, m, [_, _], _, hs, hm, by unfold aCons; rw [e1]; show bnd (bnd (fb ρ M1) _) _ = _; rw [e2]; rfl, fun vs m1 H1 ev1 rv1 rm1 => ?_⟩
      obtain ⟨v, u, rfl, r1, r2⟩ := rvs2 rv1
      rw [rv_int r1, rv_int r2]
      exact ⟨i, j, rfl, ⟨(i62_ok hj.1).1, (i62_ok hj.1).2, (i62_ok hj.2).1, (i62_ok hj.2).2⟩, k _ m1 H1 ev1 rm1 walk_rng⟩
    · cases e
  · cases e
theorem rvs3 {m : Mw} {H : Hp} {x y z : Val} {vs : List V} (h : RVs P m H [x, y, z] vs) : ∃ v u w, vs = [v, u, w] ∧ RV P m H x v ∧ RV P m H y u ∧ RV P m H z w := by
  cases h with
  | cons a b =>
    obtain ⟨u, w, rfl, c, d⟩ := rvs2 b
    exact ⟨_, _, _, rfl, a, c, d⟩
theorem ai_range3 (hm : X.mg "range" = none) (ha : PE X a (T P fa)) (hb : PE X b (T P fb)) (hc : PE X c (T P fc)) (hg : Gl X "range" := by rfl) (hs1 : starEach (a :: [b, c]) X.env = (false, eval a X.env) :: starEach [b, c] X.env := by rfl) (hs2 : starEach (b :: [c]) X.env = (false, eval b X.env) :: starEach [c] X.env := by rfl)
    (hs3 : starEach (c :: []) X.env = (false, eval c X.env) :: starEach [] X.env := by rfl) : PI X tg (.Call (.Name "range" pf) [a, b, c] [] pos) (TIt P (iRange3 fa fb fc)) := by
  refine PI.weak (pi_range3 hg hm (aa_cons ha (aa_cons hb (aa_cons hc aa_nil hs3) hs2) hs1) hs1 (by rw [hs2, hs3]; rfl)) fun σ H R ⟨ρ, M, m, xs, M', hs, hm, e, k⟩ => ?_
  obtain ⟨x, M1, e1, e⟩ := bnd_eq e
  obtain ⟨y, M2, e2, e⟩ := bnd_eq e
  obtain ⟨z, M3, e3, e⟩ := bnd_eq e
  split at e
  · rename_i i j d _ _
    split at e
    · rename_i hj
      obtain ⟨rfl, hj⟩ := hj
      cases e
      rw [Bool.and_eq_true] at hj
      refine ⟨ρ, M, m, [_, _, _], _, hs, hm, by unfold aCons; rw [e1]; show bnd (bnd (fb ρ M1) _) _ = _; rw [e2]; show bnd (bnd (bnd (fc ρ M2) _) _) _ = _; rw [e3]; rfl, fun vs m1 H1 ev1 rv1 rm1 => ?_⟩
      obtain ⟨v, u, w, rfl, r1, r2, r3⟩ := rvs3 rv1
      rw [rv_int r1, rv_int r2, rv_int r3]
      exact ⟨i, j, -1, (i - j).toNat, rfl, RgC.neg (i62_ok hj.1).1 (i62_ok hj.1).2 (i62_ok hj.2).1 (i62_ok hj.2).2, k _ m1 H1 ev1 rm1 walk_rngC⟩
    · cases e
  · cases e
end

/-! ### list comprehensions -/
def lcL (g : GF) (t : TF) (e : EF) (ρ : Rho) : List PyData → Sto → Option (List PyData × Sto)
  | [], M => some ([], M)
  | x :: xs, M => bnd (g (.p x) ρ M) fun ρ1 M1 => bnd (t ρ1 M1) fun b M2 => if b = true then
      bnd (e ρ1 M2) fun v M3 => match v with
        | .p d => bnd (lcL g t e ρ xs M3) fun ds M4 => some (d :: ds, M4)
        | _ => none
    else lcL g t e ρ xs M2
def eLc (fi : IF) (g : GF) (t : TF) (e : EF) (vs : List Nat) : EF := fun ρ M => bnd (fi ρ M) fun xs M1 => if xs.length ≤ szl then bnd (lcL g t e (wipeR ρ vs) xs M1) fun ds M2 => some (.p (.list ds), M2) else none
/-- the list being made at D is hidden -/
def Mw.hide (m : Mw) (D : Addr) : Mw := ⟨m.hd ++ [D], m.m⟩
section
variable {P : Par} {m m' : Mw} {H H' : Hp} {D : Addr} {M : Sto}
theorem hide_all {a : Addr} : a ∈ (m.hide D).all ↔ a ∈ m.all ∨ a = D := by
  unfold Mw.hide Mw.all
  simp only [List.mem_append, List.mem_singleton]
  constructor
  · rintro ((h | h) | h)
    · exact .inl (.inl h)
    · exact .inr h
    · exact .inl (.inr h)
  · rintro ((h | h) | h)
    · exact .inl (.inl h)
    · exact .inr h
    · exact .inl (.inr h)
theorem msk_hide_sub : Same (msk (m.hide D) H) (msk m H) := fun a o h => by
  obtain ⟨h1, h2, h3⟩ := msk_some h
  exact msk_of h1 (fun z => h2 (hide_all.mpr (.inl z))) h3
/-- a new list, hidden: what was known stays known -/
theorem hide_new (hm : RM P m H M) (hD : H D = none) : Same (msk m H) (msk (m.hide D) (upd H D (.lst []))) ∧ RM P (m.hide D) (upd H D (.lst [])) M := by
  have hn := hm.notin hD
  have sm : Same (msk m H) (msk (m.hide D) (upd H D (.lst []))) := fun a o h => by
    obtain ⟨h1, h2, h3⟩ := msk_some h
    have ha : a ≠ D := ne_of_none h1 hD
    exact msk_of (by rw [upd_ne ha]; exact h1) (fun z => (hide_all.mp z).elim h2 ha) h3
  refine ⟨sm, ⟨hm.nd, fun a ha z => ?_, hm.len, fun i a q => ?_, fun a ha => ?_, hm.tb.ext (same_upd hD)⟩⟩
  · rcases List.mem_append.mp (show a ∈ m.hd ++ [D] from z) with z | z
    · exact hm.dis a ha z
    · have e : a = D := by simpa using z
      exact hn (by rw [← e]; exact List.mem_append_right _ ha)
  · obtain ⟨xs, vs, h1, h2, h3⟩ := hm.at_ i a q
    exact ⟨xs, vs, h1, by rw [upd_ne (ne_of_none h2 hD)]; exact h2, dpAll_mono sm _ _ h3⟩
  · rcases List.mem_append.mp (show a ∈ m.hd ++ [D] from ha) with ha | ha
    · obtain ⟨o, e⟩ := hm.hid a ha
      exact ⟨o, by rw [upd_ne (ne_of_none e hD)]; exact e⟩
    · have e : a = D := by simpa using ha
      exact ⟨_, by rw [e]; exact upd_same⟩
/-- the hidden list grows -/
theorem hide_put {vs : List V} (hm : RM P (m.hide D) H M) (hD : ∃ us, H D = some (.lst us)) : msk (m.hide D) (upd H D (.lst vs)) = msk (m.hide D) H ∧ RM P (m.hide D) (upd H D (.lst vs)) M := by
  obtain ⟨us, hD⟩ := hD
  have eq : msk (m.hide D) (upd H D (.lst vs)) = msk (m.hide D) H := by
    funext b
    unfold msk
    by_cases hb : b ∈ (m.hide D).all
    · rw [if_pos hb, if_pos hb]
    · rw [if_neg hb, if_neg hb, upd_ne (fun z => hb (hide_all.mpr (.inr z)))]
  have hDm : ∀ a ∈ (m.hide D).m, a ≠ D := fun a ha z => hm.dis a ha (List.mem_append_right _ (by simp [z]))
  refine ⟨eq, ⟨hm.nd, hm.dis, hm.len, fun i a q => ?_, fun a ha => ?_, ?_⟩⟩
  · rw [eq]
    obtain ⟨xs, ws, h1, h2, h3⟩ := hm.at_ i a q
    exact ⟨xs, ws, h1, by rw [upd_ne (hDm a (List.mem_of_getElem? q))]; exact h2, h3⟩
  · by_cases h : a = D
    · exact ⟨_, by rw [h]; exact upd_same⟩
    · obtain ⟨o, e⟩ := hm.hid a ha
      exact ⟨o, by rw [upd_ne h]; exact e⟩
  · intro q hq
    obtain ⟨ps, h1, h2, h3⟩ := hm.tb q hq
    refine ⟨ps, by rw [upd_ne (ne_of h1 hD (fun z => by cases z))]; exact h1, h2, fun pos cv hc => ?_⟩
    obtain ⟨c, e1, e2⟩ := h3 pos cv hc
    exact ⟨c, e1, by rw [upd_ne (ne_of e2 hD (fun z => by unfold LamX.CodeO at z; cases z))]; exact e2⟩
/-- at the end it is shown -/
theorem hide_end (hm : RM P (m.hide D) H M) (hn : D ∉ m.hd) : RM P m H M :=
  ⟨hm.nd, fun a ha z => hm.dis a ha (List.mem_append_left _ z), hm.len, fun i a q => by
    obtain ⟨xs, vs, h1, h2, h3⟩ := hm.at_ i a q
    exact ⟨xs, vs, h1, h2, dpAll_mono msk_hide_sub _ _ h3⟩, fun a ha => hm.hid a (List.mem_append_left _ ha), hm.tb⟩
end
/-- where the making of the list stands -/
structure LcAt (P : Par) (m0 : Mw) (H1 : Hp) (D : Addr) (H : Hp) (mm : Mw) (M : Sto) (acc : List PyData) : Prop where
  pre : ∃ l, mm = ⟨m0.hd, m0.m ++ l⟩
  nD : D ∉ m0.hd
  same : Same (msk m0 H1) (msk (mm.hide D) H)
  hid : ∀ a ∈ m0.hd, H a = H1 a
  rm : RM P (mm.hide D) H M
  ac : ∃ vs, H D = some (.lst vs) ∧ DqAll P.K (msk (mm.hide D) H) vs acc
theorem LcAt.next {P : Par} {m0 mm m3 : Mw} {H1 H H3 : Hp} {D : Addr} {M M3 : Sto} {acc : List PyData} (h : LcAt P m0 H1 D H mm M acc) (e : Ev (mm.hide D) m3 H H3) (rm : RM P m3 H3 M3) : ∃ mm3, m3 = mm3.hide D ∧ LcAt P m0 H1 D H3 mm3 M3 acc := by
  obtain ⟨l, rfl⟩ := h.pre
  obtain ⟨l3, rfl⟩ := e.pre
  obtain ⟨vs, h1, h2⟩ := h.ac
  refine ⟨⟨m0.hd, m0.m ++ l ++ l3⟩, rfl, ⟨l ++ l3, by simp⟩, h.nD, h.same.trans e.same, fun a ha => (e.hid a (List.mem_append_left _ ha)).trans (h.hid a ha), rm, vs, (e.hid D (List.mem_append_right _ (by simp))).trans h1, dpAll_mono e.same _ _ h2⟩
theorem LcAt.put {P : Par} {m0 mm : Mw} {H1 H : Hp} {D : Addr} {M : Sto} {acc : List PyData} {vs : List V} {v : V} {d : PyData} (h : LcAt P m0 H1 D H mm M acc) (hv : H D = some (.lst vs)) (hd : RV P (mm.hide D) H (.p d) v) : LcAt P m0 H1 D (upd H D (.lst (vs ++ [v]))) mm M (acc ++ [d]) := by
  obtain ⟨us, h1, h2⟩ := h.ac
  rw [hv] at h1
  cases h1
  obtain ⟨eq, rm⟩ := hide_put (vs := vs ++ [v]) h.rm ⟨vs, hv⟩
  obtain ⟨l, e⟩ := h.pre
  refine ⟨h.pre, h.nD, by rw [eq]; exact h.same, fun a ha => ?_, rm, _, upd_same, by rw [eq]; exact dpa_app h2 (.cons hd .nil)⟩
  rw [← h.hid a ha]
  exact upd_ne (fun z => h.nD (by rw [← z]; exact ha))
theorem LcAt.done {P : Par} {m0 mm : Mw} {H1 H : Hp} {D : Addr} {M : Sto} {acc : List PyData} (h : LcAt P m0 H1 D H mm M acc) : Ev m0 mm H1 H ∧ RM P mm H M ∧ RV P mm H (.p (.list acc)) (.ref D) := by
  obtain ⟨l, rfl⟩ := h.pre
  obtain ⟨vs, h1, h2⟩ := h.ac
  have hDm : D ∉ (⟨m0.hd, m0.m ++ l⟩ : Mw).all := fun z => by
    rcases List.mem_append.mp z with z | z
    · exact h.nD z
    · exact h.rm.dis D z (List.mem_append_right _ (by simp))
  exact ⟨⟨⟨l, rfl⟩, h.same.trans msk_hide_sub, h.hid⟩, hide_end h.rm h.nD, Dq.lst (.inl (msk_of h1 hDm (fun _ z => by cases z))) (dpAll_mono msk_hide_sub _ _ h2)⟩
theorem drop_at {α : Type} {l : List α} {i : Nat} (h : i < l.length) : ∃ x, l[i]? = some x ∧ l.drop i = x :: l.drop (i + 1) := ⟨l[i], by simp [h], by simp⟩
theorem lc_gen {P : Par} {fi : IF} {g : GF} {t : TF} {e : EF} {vs : List Nat} {σ : Sl} {H : Hp} {Q : VK} {ρ : Rho} {M : Sto} {m : Mw} {xs ds : List PyData} {M1 M' : Sto} (hs : RS P m H σ ρ) (hm : RM P m H M) (e1 : fi ρ M = some (xs, M1)) (hz : xs.length ≤ szl) (e2 : lcL g t e (wipeR ρ vs) xs M1 = some (ds, M'))
    (k : ∀ m1 mm H1 H2 D, Ev m m1 H H1 → LcAt P m1 H1 D H2 mm M' ds → Q (.ref D) H2) : tLc (TIt P fi) (TGw P vs g) (TB P t) (T P e) vs σ H Q := by
  · refine ⟨ρ, M, m, xs, M1, hs, hm, e1, fun J m1 H1 ev1 rm1 W => ?_⟩
    intro D hD
    obtain ⟨G, Y, w, hG, hY⟩ := W
    obtain ⟨sm, rmD⟩ := hide_new rm1 hD
    have hDm : D ∉ m1.hd := fun z => rm1.notin hD (List.mem_append_left _ z)
    have start : LcAt P m1 H1 D (upd H1 D (.lst [])) m1 M1 [] := ⟨⟨[], by simp⟩, hDm, sm, fun a ha => by
      obtain ⟨o, q⟩ := rm1.hid a ha
      exact upd_ne (ne_of_none q hD), rmD, [], upd_same, .nil⟩
    refine lc_it w (fun i H => ∃ mm M3 acc ds3, LcAt P m1 H1 D H mm M3 acc ∧ lcL g t e (wipeR ρ vs) (xs.drop i) M3 = some (ds3, M') ∧ acc ++ ds3 = ds ∧ acc.length ≤ i) ⟨m1, M1, [], ds, start, by simpa using e2, rfl, by simp⟩ ?_ ?_ ?_
    · rintro i H' _ ⟨mm, M3, acc, ds3, L, _⟩
      exact hG H' (L.same.trans (msk_sub _ _))
    · rintro i x H2 H3 hi ⟨mm, M3, acc, ds3, L, q, hacc, hlen⟩ y
      obtain ⟨d, hd, hdrop⟩ := drop_at hi
      rw [hdrop] at q
      obtain ⟨d', hd', evy, rvy, rmy, _⟩ := hY i H2 x H3 (mm.hide D) M3 hi L.same L.rm y
      rw [hd] at hd'
      cases hd'
      obtain ⟨mm3, emm, L3⟩ := L.next evy rmy
      obtain ⟨ρ1, M4, q1, q⟩ := bnd_eq q
      obtain ⟨b, M5, q2, q⟩ := bnd_eq q
      have rs0 : RS P (mm.hide D) H3 (wipe σ vs) (wipeR ρ vs) := by
        have r1 := (hs.mono ev1).wipe vs
        refine ⟨r1.len, fun j y h => ?_⟩
        obtain ⟨v, h1, h2⟩ := r1.at_ j y h
        refine ⟨v, h1, ?_⟩
        have sm3 : Same (msk m1 H1) (msk (mm.hide D) H3) := by rw [emm]; exact L3.same
        cases y with
        | p d => exact dp_mono sm3 d v h2
        | ob r =>
          obtain ⟨a, rfl, h2⟩ := h2
          obtain ⟨l, rfl⟩ := L.pre
          have hr := (List.getElem?_eq_some_iff.mp h2).1
          exact ⟨a, rfl, by show (m1.m ++ l)[r]? = some a; rw [List.getElem?_append_left hr, h2]⟩
        | clo g =>
          obtain ⟨a, H0, rfl, s0, q0⟩ := h2
          exact ⟨a, H0, rfl, s0.trans sm3, q0⟩
        | obs rs =>
          obtain ⟨a, as, rfl, q1, q2⟩ := h2
          obtain ⟨l, rfl⟩ := L.pre
          exact ⟨a, as, rfl, sm3 a _ q1, obs_pre q2⟩
        | pob d r =>
          obtain ⟨a, u, b, rfl, q1, q2, q3⟩ := h2
          obtain ⟨l, rfl⟩ := L.pre
          have hr := (List.getElem?_eq_some_iff.mp q3).1
          exact ⟨a, u, b, rfl, Same.sqT sm3 q1, dp_mono sm3 d u q2, by show (m1.m ++ l)[r]? = some b; rw [List.getElem?_append_left hr, q3]⟩
        | rg lo hi =>
          obtain ⟨a, rfl, q⟩ := h2
          exact ⟨a, rfl, sm3 a _ q⟩
      refine ⟨wipeR ρ vs, M3, mm.hide D, .p d, ρ1, M4, rs0, rmy, rvy, q1, fun σ2 m4 H4 w4 ev4 rs4 rm4 => ⟨w4.trans wipe_wipe, ?_⟩⟩
      have L3' : LcAt P m1 H1 D H3 mm M3 acc := by
        have : mm3 = mm := by
          obtain ⟨hd0, ml⟩ := mm
          obtain ⟨hd1, ml1⟩ := mm3
          unfold Mw.hide at emm
          injection emm with a1 a2
          have := L.pre
          have := L3.pre
          obtain ⟨l1, p1⟩ := L.pre
          obtain ⟨l2, p2⟩ := L3.pre
          injection p1 with b1 b2
          injection p2 with c1 c2
          have a3 : ml = ml1 := a2
          rw [b1, c1, a3]
        rw [← this]; exact L3
      obtain ⟨mm4, rfl, L4⟩ := L3'.next ev4 rm4
      refine ⟨ρ1, M4, mm4.hide D, b, M5, rs4, rm4, q2, fun m5 H5 ev5 rm5 => ?_⟩
      obtain ⟨mm5, rfl, L5⟩ := L4.next ev5 rm5
      cases b with
      | true =>
        rw [if_pos rfl] at q ⊢
        obtain ⟨v, M6, q3, q⟩ := bnd_eq q
        refine ⟨ρ1, M5, mm5.hide D, v, M6, rs4.mono ev5, rm5, q3, fun y m6 H6 ev6 rv6 rm6 => ?_⟩
        obtain ⟨mm6, rfl, L6⟩ := L5.next ev6 rm6
        split at q
        · rename_i dd
          obtain ⟨ds4, M7, q4, q5⟩ := bnd_eq q
          cases q5
          obtain ⟨us, hu, hud⟩ := L6.ac
          have hul := dpa_len hud
          refine ⟨us, hu, by rw [szl_eq, hul]; omega, mm6, M6, acc ++ [dd], ds4, L6.put hu rv6, q4, by rw [← hacc]; simp, by simp; omega⟩
        · cases q
      | false =>
        rw [if_neg Bool.false_ne_true] at q ⊢
        exact ⟨mm5, M5, acc, ds3, L5, q, hacc, by omega⟩
    · rintro H2 ⟨mm, M3, acc, ds3, L, q, hacc, _⟩
      rw [List.drop_length] at q
      cases q
      rw [List.append_nil] at hacc
      subst hacc
      exact k m1 mm H1 H2 D ev1 L
theorem lc_run {P : Par} {fi : IF} {g : GF} {t : TF} {e : EF} {vs : List Nat} : ∀ σ H Q, T P (eLc fi g t e vs) σ H Q → tLc (TIt P fi) (TGw P vs g) (TB P t) (T P e) vs σ H Q := by
  intro σ H Q ⟨ρ, M, m, z, M', hs, hm, ee, k⟩
  obtain ⟨xs, M1, e1, ee⟩ := bnd_eq ee
  split at ee
  · rename_i hz
    obtain ⟨ds, M2, e2, ee⟩ := bnd_eq ee
    cases ee
    refine lc_gen hs hm e1 hz e2 fun m1 mm H1 H2 D ev1 L => ?_
    obtain ⟨ev2, rm2, rv2⟩ := L.done
    exact k _ _ _ (ev1.trans ev2) rv2 rm2
  · cases ee
section
variable {X : Cx} {P : Par} {pos : Pos}
def tYesF : TF := fun _ M => some (true, M)
theorem PTs.weak {ifs : List Expr} {t t' : TT} (h : PTs X ifs t) (w : ∀ σ H Q, t' σ H Q → t σ H Q) : PTs X ifs t' := ⟨fun pins s σ H Q I q => h.run pins s σ H Q I (w σ H Q q)⟩
theorem ats_nil : PTs X [] (TB P tYesF) := PTs.weak pts_nil fun σ H Q ⟨ρ, M, m, b, M', hs, hm, e, k⟩ => by
  cases e
  exact k m H .refl hm
theorem ats_one {c : Expr} {t : TF} (h : PT X c (TB P t)) : PTs X [c] (TB P t) := pts_one h
theorem ae_lc {elt tg iter : Expr} {ifs : List Expr} {scope : Scope} (own : List (Str × Nat)) {fi : IF} {g : GF} {t : TF} {e : EF} (hN : X.N.Nodup) (hi : PI X tg iter (TIt P fi)) (ok : BlkOk X.N X.env.scope scope own)
    (hg : ∀ (s : Shared) (H : Hp) (C : Addr) (cl : List (Str × Addr)) (fp : List Addr), PG (X.blk s H scope (compEnvC scope cl C X.env) fp) tg (TGw P (own.map (·.2)) g)) (ht : ∀ (s : Shared) (H : Hp) (C : Addr) (cl : List (Str × Addr)) (fp : List Addr), PTs (X.blk s H scope (compEnvC scope cl C X.env) fp) ifs (TB P t))
    (he : ∀ (s : Shared) (H : Hp) (C : Addr) (cl : List (Str × Addr)) (fp : List Addr), PE (X.blk s H scope (compEnvC scope cl C X.env) fp) elt (T P e)) (hc : X.calm = true := by rfl) (hs : ∀ x, foldedSetIterable iter X.env x = pure x := by intro _; rfl) :
    PE X (.ListComp elt [⟨tg, iter, ifs, 0⟩] scope pos) (T P (eLc fi g t e (own.map (·.2)))) := PE.weak (pe_lc hc hN hi ok hg ht he hs) lc_run
end
end AX

namespace AX
open PySem PySem.Spec PyProof.Rows L2

/-! ### statements -/
def sNx : SF := fun ρ M => some (.nx, ρ, M)
def sBk : SF := fun ρ M => some (.bk, ρ, M)
def sCt : SF := fun ρ M => some (.ct, ρ, M)
def sNo : SF := fun _ _ => none
def sSeq (f g : SF) : SF := fun ρ M => match f ρ M with
  | some (.nx, ρ1, M1) => g ρ1 M1
  | r => r
def sRt (f : EF) : SF := fun ρ M => bnd (f ρ M) fun x M1 => some (.rt x, ρ, M1)
def sEx (f : EF) : SF := fun ρ M => bnd (f ρ M) fun _ M1 => some (.nx, ρ, M1)
def sIf (t : TF) (f g : SF) : SF := fun ρ M => bnd (t ρ M) fun b M1 => if b = true then f ρ M1 else g ρ M1
def sAs (f : EF) (g : GF) : SF := fun ρ M => bnd (f ρ M) fun x M1 => bnd (g x ρ M1) fun ρ1 M2 => some (.nx, ρ1, M2)
/-- a, b = x, y -/
def sPr (i j : Nat) (fr : AF) : SF := fun ρ M => bnd (fr ρ M) fun xs M1 => match xs with
  | [x, y] => some (.nx, (ρ.set i (some x)).set j (some y), M1)
  | _ => none
def forL (g : GF) (f : SF) : List PyData → Rho → Sto → Option (Fl × Rho × Sto)
  | [], ρ, M => some (.nx, ρ, M)
  | x :: xs, ρ, M => bnd (g (.p x) ρ M) fun ρ1 M1 => match f ρ1 M1 with
    | some (.nx, ρ2, M2) => forL g f xs ρ2 M2
    | some (.ct, ρ2, M2) => forL g f xs ρ2 M2
    | some (.bk, ρ2, M2) => some (.nx, ρ2, M2)
    | some (.rt v, ρ2, M2) => some (.rt v, ρ2, M2)
    | none => none
def sFor (fi : IF) (g : GF) (f : SF) : SF := fun ρ M => bnd (fi ρ M) fun xs M1 => forL g f xs ρ M1
def whileN (t : TF) (f : SF) : Nat → Rho → Sto → Option (Fl × Rho × Sto)
  | 0, _, _ => none
  | n + 1, ρ, M => bnd (t ρ M) fun b M1 => if b = true then match f ρ M1 with
      | some (.nx, ρ2, M2) => whileN t f n ρ2 M2
      | some (.ct, ρ2, M2) => whileN t f n ρ2 M2
      | some (.bk, ρ2, M2) => some (.nx, ρ2, M2)
      | some (.rt v, ρ2, M2) => some (.rt v, ρ2, M2)
      | none => none
    else some (.nx, ρ, M1)
open Classical in
noncomputable def sWh (t : TF) (f : SF) : SF := fun ρ M => if h : ∃ n r, whileN t f n ρ M = some r then some (Classical.choose (Classical.choose_spec h)) else none
theorem whileN_succ {t : TF} {f : SF} : ∀ {n : Nat} {ρ : Rho} {M : Sto} {r : Fl × Rho × Sto}, whileN t f n ρ M = some r → whileN t f (n + 1) ρ M = some r
  | 0, _, _, _, h => by cases h
  | n + 1, ρ, M, r, h => by
    unfold whileN at h ⊢
    obtain ⟨b, M1, e1, e⟩ := bnd_eq h
    rw [e1]
    simp only [bnd_some]
    split at e
    · rename_i hb
      rw [if_pos hb]
      split at e
      · exact whileN_succ e
      · exact whileN_succ e
      · exact e
      · exact e
      · cases e
    · rename_i hb
      rw [if_neg hb]
      exact e
theorem whileN_le {t : TF} {f : SF} {n m : Nat} {ρ : Rho} {M : Sto} {r : Fl × Rho × Sto} (h : whileN t f n ρ M = some r) (l : n ≤ m) : whileN t f m ρ M = some r := by
  induction l with
  | refl => exact h
  | step _ ih => exact whileN_succ ih
theorem sWh_of {t : TF} {f : SF} {n : Nat} {ρ : Rho} {M : Sto} {r : Fl × Rho × Sto} (h : whileN t f n ρ M = some r) : sWh t f ρ M = some r := by
  unfold sWh
  have hx : ∃ n r, whileN t f n ρ M = some r := ⟨n, r, h⟩
  rw [dif_pos hx]
  have h2 := Classical.choose_spec (Classical.choose_spec hx)
  have a := whileN_le h (Nat.le_max_left n (Classical.choose hx))
  have b := whileN_le h2 (Nat.le_max_right n (Classical.choose hx))
  rw [a] at b
  exact b.symm
theorem sWh_has {t : TF} {f : SF} {ρ : Rho} {M : Sto} {r : Fl × Rho × Sto} (h : sWh t f ρ M = some r) : ∃ n, whileN t f n ρ M = some r := by
  unfold sWh at h
  split at h
  · rename_i hx
    cases h
    exact ⟨_, Classical.choose_spec (Classical.choose_spec hx)⟩
  · cases h
/-- what a while does at its next test -/
theorem sWh_eq (t : TF) (f : SF) (ρ : Rho) (M : Sto) : sWh t f ρ M = bnd (t ρ M) fun b M1 => if b = true then match f ρ M1 with
      | some (.nx, ρ2, M2) => sWh t f ρ2 M2
      | some (.ct, ρ2, M2) => sWh t f ρ2 M2
      | some (.bk, ρ2, M2) => some (.nx, ρ2, M2)
      | some (.rt v, ρ2, M2) => some (.rt v, ρ2, M2)
      | none => none
    else some (.nx, ρ, M1) := by
  apply Option.ext
  intro r
  constructor
  · intro h
    obtain ⟨n, h⟩ := sWh_has h
    cases n with
    | zero => cases h
    | succ n =>
      unfold whileN at h
      obtain ⟨b, M1, e1, e⟩ := bnd_eq h
      rw [e1]
      simp only [bnd_some]
      split at e
      · rename_i hb
        rw [if_pos hb]
        split at e
        · exact sWh_of e
        · exact sWh_of e
        · exact e
        · exact e
        · cases e
      · rename_i hb
        rw [if_neg hb]
        exact e
  · intro h
    obtain ⟨b, M1, e1, e⟩ := bnd_eq h
    split at e
    · rename_i hb
      split at e
      · rename_i ρ2 M2 q
        obtain ⟨n, hn⟩ := sWh_has e
        exact sWh_of (n := n + 1) (by unfold whileN; rw [e1]; simp only [bnd_some]; rw [if_pos hb, q]; exact hn)
      · rename_i ρ2 M2 q
        obtain ⟨n, hn⟩ := sWh_has e
        exact sWh_of (n := n + 1) (by unfold whileN; rw [e1]; simp only [bnd_some]; rw [if_pos hb, q]; exact hn)
      · rename_i q
        exact sWh_of (n := 1) (by unfold whileN; rw [e1]; simp only [bnd_some]; rw [if_pos hb, q]; exact e)
      · rename_i q
        exact sWh_of (n := 1) (by unfold whileN; rw [e1]; simp only [bnd_some]; rw [if_pos hb, q]; exact e)
      · cases e
    · rename_i hb
      exact sWh_of (n := 1) (by unfold whileN; rw [e1]; simp only [bnd_some]; rw [if_neg hb]; exact e)

section
variable {X : Cx} {P : Par} {pos : Pos} {st : Stmt} {rest : List Stmt} {e a : Expr} {f g : SF} {fa : EF} {t : TF}
theorem as_nil : PSs X [] (TSt P sNx) := PSs.weak pss_nil fun D σ H ⟨ρ, M, m, fl, ρ', M', hs, hm, e, k⟩ => by
  cases e
  exact k σ m H .refl hs hm
theorem as_cons (h1 : PS X st (TSt P f)) (h2 : PSs X rest (TSt P g)) : PSs X (st :: rest) (TSt P (sSeq f g)) := by
  refine PSs.weak (pss_cons h1 h2) fun D σ H ⟨ρ, M, m, fl, ρ', M', hs, hm, e, k⟩ => ?_
  unfold sSeq at e
  split at e
  · rename_i ρ1 M1 q
    exact ⟨ρ, M, m, .nx, ρ1, M1, hs, hm, q, fun σ' m1 H1 ev1 rs1 rm1 => ⟨ρ1, M1, m1, fl, ρ', M', rs1, rm1, e, by
      cases fl with
      | nx => exact fun σ2 m2 H2 ev rs rm => k σ2 m2 H2 (ev1.trans ev) rs rm
      | rt v => exact fun σ2 m2 H2 ev rs rm => k σ2 m2 H2 (ev1.trans ev) rs rm
      | bk => exact fun σ2 m2 H2 ev rs rm => k σ2 m2 H2 (ev1.trans ev) rs rm
      | ct => exact fun σ2 m2 H2 ev rs rm => k σ2 m2 H2 (ev1.trans ev) rs rm⟩⟩
  · rename_i hne
    refine ⟨ρ, M, m, fl, ρ', M', hs, hm, e, ?_⟩
    cases fl with
    | nx => exact absurd e (hne _ _)
    | rt v => exact k
    | bk => exact k
    | ct => exact k
theorem as_one (h1 : PS X st (TSt P f)) : PSs X [st] (TSt P f) := pss_one h1
theorem as_pass : PS X (.Pass pos) (TSt P sNx) := PS.weak ps_pass fun D σ H ⟨ρ, M, m, fl, ρ', M', hs, hm, e, k⟩ => by
  cases e
  exact k σ m H .refl hs hm
theorem as_break : PS X (.Break pos) (TSt P sBk) := PS.weak ps_break fun D σ H ⟨ρ, M, m, fl, ρ', M', hs, hm, e, k⟩ => by
  cases e
  exact k σ m H .refl hs hm
theorem as_cont : PS X (.Continue pos) (TSt P sCt) := PS.weak ps_continue fun D σ H ⟨ρ, M, m, fl, ρ', M', hs, hm, e, k⟩ => by
  cases e
  exact k σ m H .refl hs hm
/-- a statement that is not come to -/
theorem as_no : PS X st (TSt P sNo) := PS.weak ps_never fun D σ H ⟨ρ, M, m, fl, ρ', M', hs, hm, e, k⟩ => by cases e
theorem as_ret (h : PE X e (T P fa)) : PS X (.Return (some e) pos) (TSt P (sRt fa)) := PS.weak (ps_ret h) fun D σ H ⟨ρ, M, m, fl, ρ', M', hs, hm, ee, k⟩ => by
  obtain ⟨x, M1, e1, e2⟩ := bnd_eq ee
  cases e2
  exact ⟨ρ, M, m, x, _, hs, hm, e1, fun v m1 H1 ev rv rm => k v m1 H1 ev rv rm⟩
theorem as_retN : PS X (.Return none pos) (TSt P (sRt (eC .none))) := PS.weak ps_retN fun D σ H ⟨ρ, M, m, fl, ρ', M', hs, hm, e, k⟩ => by
  cases e
  exact k _ m H .refl Dq.non hm
theorem as_ex (h : PE X e (T P fa)) (hs : swapsWith e none pos.line X.env = pure false := by rfl) : PS X (.Expr e pos) (TSt P (sEx fa)) := PS.weak (ps_expr h hs) fun D σ H ⟨ρ, M, m, fl, ρ', M', hs, hm, ee, k⟩ => by
  obtain ⟨x, M1, e1, e2⟩ := bnd_eq ee
  cases e2
  exact ⟨ρ, M, m, x, _, hs, hm, e1, fun v m1 H1 ev rv rm => k σ m1 H1 ev (hs.mono ev) rm⟩
theorem as_if {b1 b2 : List Stmt} (hc : PT X e (TB P t)) (h1 : PSs X b1 (TSt P f)) (h2 : PSs X b2 (TSt P g)) : PS X (.If e b1 b2 pos) (TSt P (sIf t f g)) := PS.weak (ps_if hc h1 h2) fun D σ H ⟨ρ, M, m, fl, ρ', M', hs, hm, ee, k⟩ => by
  obtain ⟨b, M1, e1, e2⟩ := bnd_eq ee
  refine ⟨ρ, M, m, b, M1, hs, hm, e1, fun m1 H1 ev1 rm1 => ?_⟩
  cases b with
  | true =>
    rw [if_pos rfl] at e2 ⊢
    exact ⟨ρ, M1, m1, fl, ρ', M', hs.mono ev1, rm1, e2, by cases fl <;> exact fun x m2 H2 ev rs rm => k x m2 H2 (ev1.trans ev) rs rm⟩
  | false =>
    rw [if_neg Bool.false_ne_true] at e2 ⊢
    exact ⟨ρ, M1, m1, fl, ρ', M', hs.mono ev1, rm1, e2, by cases fl <;> exact fun x m2 H2 ev rs rm => k x m2 H2 (ev1.trans ev) rs rm⟩
theorem as_asg {tg : Expr} {vs : List Nat} {gf : GF} (h : PE X e (T P fa)) (hg : PG X tg (TGw P vs gf)) (hs : swapsWithSole [tg] e pos.line X.env = pure false := by rfl) (hw : swappedStores [tg] e X.env = pure none := by rfl)
    (h1 : (assignEach [tg] X.env).map (·.2) = [assign tg X.env] := by rfl) : PS X (.Assign [tg] e pos) (TSt P (sAs fa gf)) := PS.weak (ps_asg h hg hs hw h1) fun D σ H ⟨ρ, M, m, fl, ρ', M', hs, hm, ee, k⟩ => by
  obtain ⟨x, M1, e1, e2⟩ := bnd_eq ee
  obtain ⟨ρ1, M2, e3, e4⟩ := bnd_eq e2
  cases e4
  refine ⟨ρ, M, m, x, M1, hs, hm, e1, fun v m1 H1 ev1 rv1 rm1 => ?_⟩
  exact ⟨ρ, M1, m1, x, _, _, hs.mono ev1, rm1, rv1, e3, fun σ' m' H' _ ev rs rm => k σ' m' H' (ev1.trans ev) rs rm⟩
theorem as_set {i : Nat} {x : Str} {px : Pos} (hN : X.N.Nodup) (h : PE X e (T P fa)) (hi : X.N[i]? = some x := by rfl) (hx : Loc X.env.scope x := by first | exact Or.inl rfl | exact Or.inr rfl) (hs : swapsWith e (some (.Name x px)) pos.line X.env = pure false := by rfl)
    (hf : X.fn x = true ∨ X.env.scope.names.lookup x = some .local := by first | exact .inl rfl | exact .inr rfl | assumption) : PS X (.Assign [.Name x px] e pos) (TSt P (sAs fa (gN i))) := PS.weak (ps_set hN hi hx h hs hf) fun D σ H ⟨ρ, M, m, fl, ρ', M', hs, hm, ee, k⟩ => by
  obtain ⟨y, M1, e1, e2⟩ := bnd_eq ee
  cases e2
  refine ⟨ρ, M, m, y, _, hs, hm, e1, fun v m1 H1 ev1 rv1 rm1 => ?_⟩
  exact k _ m1 H1 ev1 ((hs.mono ev1).set rv1) rm1
theorem as_par {i j : Nat} {x y : Str} {b : Expr} {px py pt : Pos} {kt k2 pt2} {fr : AF} (hN : X.N.Nodup) (ha : PA X [a, b] (TAr P fr)) (hi : X.N[i]? = some x := by rfl) (hj : X.N[j]? = some y := by rfl) (hij : i ≠ j := by decide)
    (hx : X.env.scope.names.lookup x = some .local := by rfl) (hy : X.env.scope.names.lookup y = some .local := by rfl) (hc : X.calm = true := by rfl)
    (hw : swappedStores [.Tuple [.Name x px, .Name y py] kt pt] (.Tuple [a, b] k2 pt2) X.env = pure (some [x, y]) := by rfl)
    (hs : swapsWithSole [.Tuple [.Name x px, .Name y py] kt pt] (.Tuple [a, b] k2 pt2) pos.line X.env = pure false := by rfl) :
    PS X (.Assign [.Tuple [.Name x px, .Name y py] kt pt] (.Tuple [a, b] k2 pt2) pos) (TSt P (sPr i j fr)) := PS.weak (ps_par hc hN hi hj hij hx hy ha hw hs) fun D σ H ⟨ρ, M, m, fl, ρ', M', hs, hm, ee, k⟩ => by
  obtain ⟨xs, M1, e1, e2⟩ := bnd_eq ee
  split at e2
  · cases e2
    refine ⟨ρ, M, m, _, _, hs, hm, e1, fun vs m1 H1 ev1 rv1 rm1 => ?_⟩
    obtain ⟨v, u, rfl, r1, r2⟩ := rvs2 rv1
    exact ⟨v, u, rfl, k _ m1 H1 ev1 (((hs.mono ev1).set r1).set r2) rm1⟩
  · cases e2
theorem as_for {tg iter : Expr} {body : List Stmt} {fi : IF} {vs : List Nat} {gf : GF} (hi : PI X tg iter (TIt P fi)) (hg : PG X tg (TGw P vs gf)) (hb : PSs X body (TSt P f)) (hp : PassesOwn (model X.prog X.w) X.A X.env X.xe) (hc : X.calm = true := by rfl)
    (hs : ∀ x, foldedSetIterable iter X.env x = pure x := by intro _; rfl) : PS X (.For tg iter body [] pos) (TSt P (sFor fi gf f)) := PS.weak (ps_for hp hc hi hg hb hs) fun D σ H ⟨ρ, M, m, fl, ρ', M', hs, hm, ee, k⟩ => by
  obtain ⟨xs, M1, e1, e2⟩ := bnd_eq ee
  refine ⟨ρ, M, m, xs, M1, hs, hm, e1, fun J m1 H1 ev1 rm1 W => ?_⟩
  obtain ⟨G, Y, w, hG, hY⟩ := W
  refine for_it w (fun i σ2 H2 => ∃ m2 ρ2 M2, Ev m1 m2 H1 H2 ∧ RS P m2 H2 σ2 ρ2 ∧ RM P m2 H2 M2 ∧ forL gf f (xs.drop i) ρ2 M2 = some (fl, ρ', M')) ⟨m1, ρ, M1, .refl, hs.mono ev1, rm1, by simpa using e2⟩ ?_ ?_ ?_
  · rintro i σ2 H2 _ ⟨m2, ρ2, M2, ev2, _⟩
    exact hG H2 (ev2.same.trans (msk_sub _ _))
  · rintro i x σ2 H2 H3 hi' ⟨m2, ρ2, M2, ev2, rs2, rm2, q⟩ y
    obtain ⟨d, hd, hdrop⟩ := drop_at hi'
    rw [hdrop] at q
    obtain ⟨d', hd', evy, rvy, rmy, _⟩ := hY i H2 x H3 m2 M2 hi' ev2.same rm2 y
    rw [hd] at hd'
    cases hd'
    obtain ⟨ρ3, M3, q1, q2⟩ := bnd_eq q
    refine ⟨ρ2, M2, m2, .p d, ρ3, M3, rs2.mono evy, rmy, rvy, q1, fun σ4 m4 H4 _ ev4 rs4 rm4 => ?_⟩
    have evA : Ev m1 m4 H1 H4 := (ev2.trans evy).trans ev4
    split at q2
    · rename_i ρ5 M5 q3
      exact ⟨ρ3, M3, m4, .nx, ρ5, M5, rs4, rm4, q3, fun σ6 m6 H6 ev6 rs6 rm6 => ⟨m6, ρ5, M5, evA.trans ev6, rs6, rm6, q2⟩⟩
    · rename_i ρ5 M5 q3
      exact ⟨ρ3, M3, m4, .ct, ρ5, M5, rs4, rm4, q3, fun σ6 m6 H6 ev6 rs6 rm6 => ⟨m6, ρ5, M5, evA.trans ev6, rs6, rm6, q2⟩⟩
    · rename_i ρ5 M5 q3
      cases q2
      exact ⟨ρ3, M3, m4, .bk, _, _, rs4, rm4, q3, fun σ6 m6 H6 ev6 rs6 rm6 => k σ6 m6 H6 ((ev1.trans evA).trans ev6) rs6 rm6⟩
    · rename_i v ρ5 M5 q3
      cases q2
      exact ⟨ρ3, M3, m4, .rt v, _, _, rs4, rm4, q3, fun w6 m6 H6 ev6 rv6 rm6 => k w6 m6 H6 ((ev1.trans evA).trans ev6) rv6 rm6⟩
    · cases q2
  · rintro σ2 H2 ⟨m2, ρ2, M2, ev2, rs2, rm2, q⟩
    rw [List.drop_length] at q
    cases q
    exact k σ2 m2 H2 (ev1.trans ev2) rs2 rm2
theorem as_while {body : List Stmt} (hc : PT X e (TB P t)) (hb : PSs X body (TSt P f)) (hp : PassesOwn (model X.prog X.w) X.A X.env X.xe) : PS X (.While e body [] pos) (TSt P (sWh t f)) := PS.weak (ps_while hp hc hb) fun D σ H ⟨ρ, M, m, fl, ρ', M', hs, hm, ee, k⟩ => by
  obtain ⟨n, hn⟩ := sWh_has ee
  refine ⟨fun n' σ2 H2 => ∃ m2 ρ2 M2, Ev m m2 H H2 ∧ RS P m2 H2 σ2 ρ2 ∧ RM P m2 H2 M2 ∧ whileN t f n' ρ2 M2 = some (fl, ρ', M'), ⟨n, m, ρ, M, .refl, hs, hm, hn⟩, ?_⟩
  rintro n' σ2 H2 ⟨m2, ρ2, M2, ev2, rs2, rm2, q⟩
  cases n' with
  | zero => cases q
  | succ n' =>
    unfold whileN at q
    obtain ⟨b, M3, q1, q2⟩ := bnd_eq q
    refine ⟨ρ2, M2, m2, b, M3, rs2, rm2, q1, fun m3 H3 ev3 rm3 => ?_⟩
    cases b with
    | true =>
      rw [if_pos rfl] at q2 ⊢
      refine ⟨fun σ6 H6 => ∃ m6 ρ6 M6, Ev m m6 H H6 ∧ RS P m6 H6 σ6 ρ6 ∧ RM P m6 H6 M6 ∧ whileN t f n' ρ6 M6 = some (fl, ρ', M'), fun σ6 H6 h => ⟨n', Nat.lt_succ_self _, h⟩, ?_⟩
      have evA : Ev m m3 H H3 := ev2.trans ev3
      split at q2
      · rename_i ρ5 M5 q3
        exact ⟨ρ2, M3, m3, .nx, ρ5, M5, rs2.mono ev3, rm3, q3, fun σ6 m6 H6 ev6 rs6 rm6 => ⟨m6, ρ5, M5, evA.trans ev6, rs6, rm6, q2⟩⟩
      · rename_i ρ5 M5 q3
        exact ⟨ρ2, M3, m3, .ct, ρ5, M5, rs2.mono ev3, rm3, q3, fun σ6 m6 H6 ev6 rs6 rm6 => ⟨m6, ρ5, M5, evA.trans ev6, rs6, rm6, q2⟩⟩
      · rename_i ρ5 M5 q3
        cases q2
        exact ⟨ρ2, M3, m3, .bk, _, _, rs2.mono ev3, rm3, q3, fun σ6 m6 H6 ev6 rs6 rm6 => k σ6 m6 H6 (evA.trans ev6) rs6 rm6⟩
      · rename_i v ρ5 M5 q3
        cases q2
        exact ⟨ρ2, M3, m3, .rt v, _, _, rs2.mono ev3, rm3, q3, fun w6 m6 H6 ev6 rv6 rm6 => k w6 m6 H6 (evA.trans ev6) rv6 rm6⟩
      · cases q2
    | false =>
      rw [if_neg Bool.false_ne_true] at q2 ⊢
      cases q2
      exact k σ2 m3 H3 (ev2.trans ev3) (rs2.mono ev3) rm3
end
end AX

namespace AX
open PySem PySem.Spec PyProof.Rows L2

section
variable {X : Cx} {P : Par} {pos py spos : Pos}
/-- y = [.. for ..] -/
theorem as_setLc {elt tg iter : Expr} {ifs : List Expr} {scope : Scope} {i : Nat} {y : Str} (own : List (Str × Nat)) {fi : IF} {g : GF} {t : TF} {e : EF} (hN : X.N.Nodup) (hi : PI X tg iter (TIt P fi)) (ok : BlkOk X.N X.env.scope scope own)
    (hg : ∀ (s : Shared) (H : Hp) (C : Addr) (cl : List (Str × Addr)) (fp : List Addr), PG (X.blk s H scope (compEnvC scope cl C X.env) fp) tg (TGw P (own.map (·.2)) g)) (ht : ∀ (s : Shared) (H : Hp) (C : Addr) (cl : List (Str × Addr)) (fp : List Addr), PTs (X.blk s H scope (compEnvC scope cl C X.env) fp) ifs (TB P t))
    (he : ∀ (s : Shared) (H : Hp) (C : Addr) (cl : List (Str × Addr)) (fp : List Addr), PE (X.blk s H scope (compEnvC scope cl C X.env) fp) elt (T P e)) (hsw : swapsWith (.ListComp elt [⟨tg, iter, ifs, 0⟩] scope pos) (some (.Name y py)) spos.line X.env = pure true)
    (hy : X.N[i]? = some y := by rfl) (hyl : X.env.scope.names.lookup y = some .local := by rfl) (hc : X.calm = true := by rfl) (hs : ∀ x, foldedSetIterable iter X.env x = pure x := by intro _; rfl) :
    PS X (.Assign [.Name y py] (.ListComp elt [⟨tg, iter, ifs, 0⟩] scope pos) spos) (TSt P (sAs (eLc fi g t e (own.map (·.2))) (gN i))) := PS.weak (ps_setLc hc hN hy hyl hsw hi ok hg ht he hs) fun D σ H ⟨ρ, M, m, fl, ρ', M', hs, hm, ee, k⟩ => by
  obtain ⟨x, M1, e1, e2⟩ := bnd_eq ee
  cases e2
  refine lc_run σ H _ ⟨ρ, M, m, x, _, hs, hm, e1, fun v m1 H1 ev1 rv1 rm1 => ?_⟩
  exact k _ m1 H1 ev1 ((hs.mono ev1).set rv1) rm1
end

/-! ### methods of a list that changes -/
def eApp (fo : EF) (fr : AF) : EF := fun ρ M => bnd (fo ρ M) fun x M1 => bnd (fr ρ M1) fun ys M2 => match x, ys with
  | .ob r, [.p d] => match M2[r]? with
    | some xs => if xs.length < szl then some (.p .none, M2.set r (xs ++ [d])) else none
    | none => none
  | _, _ => none
def eExt (fo : EF) (fr : AF) : EF := fun ρ M => bnd (fo ρ M) fun x M1 => bnd (fr ρ M1) fun ys M2 => match x, ys with
  | .ob r, [.ob r2] => match M2[r]?, M2[r2]? with
    | some xs, some zs => if xs.length + zs.length ≤ szl then some (.p .none, M2.set r (xs ++ zs)) else none
    | _, _ => none
  | _, _ => none
def ePopI (fo : EF) (fr : AF) : EF := fun ρ M => bnd (fo ρ M) fun x M1 => bnd (fr ρ M1) fun ys M2 => match x, ys with
  | .ob r, [.p (.int i)] => match M2[r]? with
    | some xs => match xs[i.toNat]? with
      | some y => if 0 ≤ i ∧ i < 2 ^ 63 then some (.p y, M2.set r (xs.eraseIdx i.toNat)) else none
      | none => none
    | none => none
  | _, _ => none
theorem dpa_erase {K : PySem.W.Frag} {H : Hp} : ∀ {vs : List V} {ds : List PyData} (i : Nat), DqAll K H vs ds → DqAll K H (vs.eraseIdx i) (ds.eraseIdx i)
  | _, _, _, .nil => .nil
  | _, _, 0, .cons _ b => b
  | _, _, i + 1, .cons a b => .cons a (dpa_erase i b)
section
variable {X : Cx} {P : Par} {o a : Expr} {es : List Expr} {fo : EF} {fr : AF} {apos cpos : Pos}
theorem ae_app (ho : PE X o (T P fo)) (ha : PA X (a :: es) (TAr P fr)) (hbase : attributeBase o "append" X.env (eval o X.env) = eval o X.env := by rfl)
    (hfew : ((backTo cpos (starEach (a :: es) X.env)).all (fun x => !x.1) && (backToKw cpos (keywordEach [] X.env)).all (fun x => x.1.isSome)
      && decide ((a :: es).length + ([] : List Keyword).length + (if ([] : List Keyword).isEmpty then 0 else 1) < 30)) = true := by rfl)
    (hline : (apos.endLine == cpos.line) = true := by rfl) (hs : starEach (a :: es) X.env = (false, eval a X.env) :: starEach es X.env := by rfl) (hplain : (backTo cpos (starEach es X.env)).any (·.1) = false := by rfl) :
    PE X (.Call (.Attribute o "append" apos) (a :: es) [] cpos) (T P (eApp fo fr)) := PE.weak (pe_bm PySem.F.plainAttrs_list PySem.F.slot_list_append PySem.F.type_list_append mt_append ho ha hbase hfew hline hs hplain) fun σ H Q ⟨ρ, M, m, z, M', hs, hm, e, k⟩ => by
  obtain ⟨x, M1, e1, e⟩ := bnd_eq e
  obtain ⟨ys, M2, e2, e⟩ := bnd_eq e
  refine ⟨ρ, M, m, x, M1, hs, hm, e1, fun v m1 H1 ev1 rv1 rm1 => ?_⟩
  split at e
  · rename_i r d
    split at e
    · rename_i xs hx
      split at e
      · rename_i hl
        cases e
        obtain ⟨a1, xs1, vs1, rfl, ha1, hM1, hH1, hd1⟩ := rv_ob rm1 rv1
        refine ⟨.inl ⟨rfl, _, SqL.of hH1⟩, ρ, M1, m1, _, M2, hs.mono ev1, rm1, e2, fun us m2 H2 ev2 rv2 rm2 => ?_⟩
        obtain ⟨a2, xs2, vs2, ea, ha2, hM2, hH2, hd2⟩ := rv_ob rm2 (rv1.mono ev2)
        cases ea
        rw [hx] at hM2
        cases hM2
        obtain ⟨u, rfl, ru⟩ := rvs1 rv2
        obtain ⟨ev3, rm3⟩ := mut_set rm2 ha2 (dpa_app hd2 (.cons ru .nil))
        exact ⟨_, _, _, rfl, rfl, hH2, by rw [szl_eq, dpa_len hd2]; exact hl, k _ m2 _ ((ev1.trans ev2).trans ev3) Dq.non rm3⟩
      · cases e
    · cases e
  · cases e
theorem ae_ext (ho : PE X o (T P fo)) (ha : PA X (a :: es) (TAr P fr)) (hbase : attributeBase o "extend" X.env (eval o X.env) = eval o X.env := by rfl)
    (hfew : ((backTo cpos (starEach (a :: es) X.env)).all (fun x => !x.1) && (backToKw cpos (keywordEach [] X.env)).all (fun x => x.1.isSome)
      && decide ((a :: es).length + ([] : List Keyword).length + (if ([] : List Keyword).isEmpty then 0 else 1) < 30)) = true := by rfl)
    (hline : (apos.endLine == cpos.line) = true := by rfl) (hs : starEach (a :: es) X.env = (false, eval a X.env) :: starEach es X.env := by rfl) (hplain : (backTo cpos (starEach es X.env)).any (·.1) = false := by rfl) :
    PE X (.Call (.Attribute o "extend" apos) (a :: es) [] cpos) (T P (eExt fo fr)) := PE.weak (pe_bm PySem.F.plainAttrs_list PySem.F.slot_list_extend PySem.F.type_list_extend mt_extend ho ha hbase hfew hline hs hplain) fun σ H Q ⟨ρ, M, m, z, M', hs, hm, e, k⟩ => by
  obtain ⟨x, M1, e1, e⟩ := bnd_eq e
  obtain ⟨ys, M2, e2, e⟩ := bnd_eq e
  refine ⟨ρ, M, m, x, M1, hs, hm, e1, fun v m1 H1 ev1 rv1 rm1 => ?_⟩
  split at e
  · rename_i r r2
    split at e
    · rename_i xs zs hx hz
      split at e
      · rename_i hl
        cases e
        obtain ⟨a1, xs1, vs1, rfl, ha1, hM1, hH1, hd1⟩ := rv_ob rm1 rv1
        refine ⟨.inl ⟨rfl, _, SqL.of hH1⟩, ρ, M1, m1, _, M2, hs.mono ev1, rm1, e2, fun us m2 H2 ev2 rv2 rm2 => ?_⟩
        obtain ⟨a2, xs2, vs2, ea, ha2, hM2, hH2, hd2⟩ := rv_ob rm2 (rv1.mono ev2)
        cases ea
        rw [hx] at hM2
        cases hM2
        obtain ⟨u, rfl, ru⟩ := rvs1 rv2
        obtain ⟨a3, xs3, vs3, rfl, ha3, hM3, hH3, hd3⟩ := rv_ob rm2 ru
        rw [hz] at hM3
        cases hM3
        obtain ⟨ev3, rm3⟩ := mut_set rm2 ha2 (dpa_app hd2 hd3)
        exact ⟨_, _, _, _, rfl, rfl, hH2, hH3, by rw [szl_eq, dpa_len hd2, dpa_len hd3]; exact hl, k _ m2 _ ((ev1.trans ev2).trans ev3) Dq.non rm3⟩
      · cases e
    · cases e
  · cases e
end

/-! ### defs: what a body does, seen from outside -/
/-- lists of one's own are frozen where the def ends -/
def finF (n0 : Nat) (v : Val) (M : Sto) : Option (Val × Sto) := match v with
  | .p d => some (.p d, M.take n0)
  | .ob r => if r < n0 then some (.ob r, M.take n0) else match M[r]? with
    | some xs => some (.p (.list xs), M.take n0)
    | none => none
  | .clo g => some (.clo g, M.take n0)
  | .obs _ => none
  | .rg _ _ => none
  | .pob d r => if r < n0 then none else match M[r]? with
    | some xs => some (.p (.tuple [d, .list xs]), M.take n0)
    | none => none
/-- .. or handed over as one that may change -/
def finM (n0 : Nat) (v : Val) (M : Sto) : Option (Val × Sto) := match v with
  | .ob r => if r < n0 then none else match M[r]? with
    | some xs => some (.ob n0, M.take n0 ++ [xs])
    | none => none
  | _ => none
def fnWith (fin : Nat → Val → Sto → Option (Val × Sto)) (n N : Nat) (f : SF) : Fn := fun xs M => if xs.length = n then match f (xs.map some ++ List.replicate (N - n) none) M with
    | some (.rt v, _, M1) => fin M.length v M1
    | some (.nx, _, M1) => fin M.length (.p .none) M1
    | _ => none
  else none
def fnOf (n N : Nat) (f : SF) : Fn := fnWith finF n N f
def fnOfM (n N : Nat) (f : SF) : Fn := fnWith finM n N f
theorem fnWith_ar {fin : Nat → Val → Sto → Option (Val × Sto)} {n N : Nat} {f : SF} : ∀ xs M r, fnWith fin n N f xs M = some r → xs.length = n := fun xs M r h => by
  unfold fnWith at h
  split at h
  · assumption
  · cases h
/-- the end's rule: what stands at the end tells what the caller sees -/
def FinOk (fin : Nat → Val → Sto → Option (Val × Sto)) : Prop := ∀ (P : Par) (m m1 : Mw) (H H1 : Hp) (M M1 : Sto) (v : Val) (w : V) (z : Val) (M' : Sto), RM P m H M → Ev m m1 H H1 → RM P m1 H1 M1 → RV P m1 H1 v w → fin M.length v M1 = some (z, M') → ∃ m', Ev m m' H H1 ∧ RM P m' H1 M' ∧ RV P m' H1 z w
section
variable {P : Par} {m m1 : Mw} {H H1 : Hp} {M M1 : Sto}
theorem msk_cut {hd l l2 : List Addr} : Same (msk ⟨hd, l ++ l2⟩ H) (msk ⟨hd, l⟩ H) := fun a o h => by
  obtain ⟨h1, h2, h3⟩ := msk_some h
  refine msk_of h1 (fun z => h2 ?_) h3
  unfold Mw.all at z ⊢
  simp only [List.mem_append] at z ⊢
  rcases z with z | z
  · exact .inl z
  · exact .inr (.inl z)
theorem rm_cut {hd l l2 : List Addr} (h : RM P ⟨hd, l ++ l2⟩ H M) : RM P ⟨hd, l⟩ H (M.take l.length) := by
  refine ⟨(List.nodup_append.mp h.nd).1, fun a ha => h.dis a (List.mem_append_left _ ha), ?_, fun i a q => ?_, h.hid, h.tb⟩
  · have := h.len
    simp only [List.length_append, List.length_take] at this ⊢
    omega
  · have hi := (List.getElem?_eq_some_iff.mp q).1
    obtain ⟨xs, vs, h1, h2, h3⟩ := h.at_ i a (by show (l ++ l2)[i]? = some a; rw [List.getElem?_append_left hi]; exact q)
    exact ⟨xs, vs, by rw [List.getElem?_take_of_lt hi]; exact h1, h2, dpAll_mono msk_cut _ _ h3⟩
theorem finF_ok : FinOk finF := fun P m m1 H H1 M M1 v w z M' rm ev rm1 rv e => by
  obtain ⟨l, rfl⟩ := ev.pre
  have hlen := rm.len
  have rmc : RM P m H1 (M1.take M.length) := by rw [← hlen]; exact rm_cut rm1
  refine ⟨m, ⟨⟨[], by simp⟩, ev.same.trans msk_cut, ev.hid⟩, ?_⟩
  unfold finF at e
  split at e
  · cases e
    exact ⟨rmc, dp_mono msk_cut _ _ rv⟩
  · rename_i r
    obtain ⟨a, rfl, ha⟩ := rv
    split at e
    · rename_i hr
      cases e
      refine ⟨rmc, a, rfl, ?_⟩
      rw [← ha]
      exact (List.getElem?_append_left (by rw [hlen]; exact hr)).symm
    · rename_i hr
      split at e
      · rename_i xs hx
        cases e
        refine ⟨rmc, ?_⟩
        obtain ⟨ys, vs, h1, h2, h3⟩ := rm1.at_ r a ha
        rw [hx] at h1
        cases h1
        refine Dq.lst (.inl (msk_of h2 (fun hin => ?_) (fun _ z => by cases z))) (dpAll_mono msk_cut _ _ h3)
        rcases List.mem_append.mp hin with hin | hin
        · exact rm1.dis a (List.mem_of_getElem? ha) hin
        · obtain ⟨j, hj, hj2⟩ := List.getElem_of_mem hin
          have e1 : (m.m ++ l)[j]? = some a := by rw [List.getElem?_append_left hj, List.getElem?_eq_getElem hj, hj2]
          have e2 : (m.m ++ l)[r]? = some a := ha
          have := (List.getElem?_inj (List.getElem?_eq_some_iff.mp e1).1 rm1.nd).mp (e1.trans e2.symm)
          omega
      · cases e
  · cases e
    obtain ⟨a, H0, rfl, s0, q0⟩ := rv
    exact ⟨rmc, a, H0, rfl, s0.trans msk_cut, q0⟩
  · cases e
  · cases e
  · rename_i d r
    obtain ⟨a, u, b, rfl, q1, q2, hb⟩ := rv
    split at e
    · cases e
    · rename_i hr
      split at e
      · rename_i xs hx
        cases e
        refine ⟨rmc, ?_⟩
        obtain ⟨ys, vs, h1, h2, h3⟩ := rm1.at_ r b hb
        rw [hx] at h1
        cases h1
        refine Dq.tup (Same.sqT msk_cut q1) (.cons (dp_mono msk_cut _ _ q2) (.cons (Dq.lst (.inl (msk_of h2 (fun hin => ?_) (fun _ z => by cases z))) (dpAll_mono msk_cut _ _ h3)) .nil))
        rcases List.mem_append.mp hin with hin | hin
        · exact rm1.dis b (List.mem_of_getElem? hb) hin
        · obtain ⟨j, hj, hj2⟩ := List.getElem_of_mem hin
          have e1 : (m.m ++ l)[j]? = some b := by rw [List.getElem?_append_left hj, List.getElem?_eq_getElem hj, hj2]
          have e2 : (m.m ++ l)[r]? = some b := hb
          have := (List.getElem?_inj (List.getElem?_eq_some_iff.mp e1).1 rm1.nd).mp (e1.trans e2.symm)
          omega
      · cases e
theorem finM_ok : FinOk finM := fun P m m1 H H1 M M1 v w z M' rm ev rm1 rv e => by
  obtain ⟨l, rfl⟩ := ev.pre
  have hlen := rm.len
  unfold finM at e
  split at e
  · rename_i r
    obtain ⟨a, rfl, ha⟩ := rv
    split at e
    · cases e
    · rename_i hr
      split at e
      · rename_i xs hx
        cases e
        have ha' : (m.m ++ l)[r]? = some a := ha
        have ham : a ∉ m.m := fun hin => by
          obtain ⟨j, hj, hj2⟩ := List.getElem_of_mem hin
          have e1 : (m.m ++ l)[j]? = some a := by rw [List.getElem?_append_left hj, List.getElem?_eq_getElem hj, hj2]
          have := (List.getElem?_inj (List.getElem?_eq_some_iff.mp e1).1 rm1.nd).mp (e1.trans ha'.symm)
          omega
        have sm : Same (msk ⟨m.hd, m.m ++ l⟩ H1) (msk ⟨m.hd, m.m ++ [a]⟩ H1) := fun b o h => by
          obtain ⟨h1, h2, h3⟩ := msk_some h
          refine msk_of h1 (fun z => h2 ?_) h3
          unfold Mw.all at z ⊢
          simp only [List.mem_append, List.mem_singleton] at z ⊢
          rcases z with z | z | z
          · exact .inl z
          · exact .inr (.inl z)
          · subst z
            rw [List.getElem?_append_right (by omega)] at ha'
            exact .inr (.inr (List.mem_of_getElem? ha'))
        refine ⟨⟨m.hd, m.m ++ [a]⟩, ⟨⟨[a], rfl⟩, ev.same.trans sm, ev.hid⟩, ⟨?_, fun b hb => ?_, ?_, fun i b q => ?_, rm1.hid, rm1.tb⟩, a, rfl, ?_⟩
        · refine List.nodup_append.mpr ⟨rm.nd, by simp, fun x hx y hy z => ?_⟩
          have : y = a := by simpa using hy
          subst this
          subst z
          exact ham hx
        · rcases List.mem_append.mp hb with hb | hb
          · exact rm.dis b hb
          · have : b = a := by simpa using hb
            subst this
            exact rm1.dis b (List.mem_of_getElem? ha)
        · have := rm1.len
          simp only [List.length_append, List.length_take, List.length_cons, List.length_nil] at this ⊢
          omega
        · have q' : (m.m ++ [a])[i]? = some b := q
          by_cases hi : i < m.m.length
          · rw [List.getElem?_append_left hi] at q'
            obtain ⟨ys, vs, h1, h2, h3⟩ := rm1.at_ i b (by show (m.m ++ l)[i]? = some b; rw [List.getElem?_append_left hi]; exact q')
            have hi2 : i < (M1.take M.length).length := by
              have := (List.getElem?_eq_some_iff.mp h1).1
              simp only [List.length_take]; omega
            exact ⟨ys, vs, by rw [List.getElem?_append_left hi2, List.getElem?_take_of_lt (by omega)]; exact h1, h2, dpAll_mono sm _ _ h3⟩
          · rw [List.getElem?_append_right (by omega)] at q'
            have hi0 : i - m.m.length = 0 := by
              have := (List.getElem?_eq_some_iff.mp q').1
              simp at this; omega
            rw [hi0] at q'
            have eb : a = b := by simpa using q'
            subst eb
            obtain ⟨ys, vs, h1, h2, h3⟩ := rm1.at_ r a ha
            rw [hx] at h1
            cases h1
            have hl1 : (M1.take M.length).length = M.length := by
              have := (List.getElem?_eq_some_iff.mp hx).1
              simp only [List.length_take]; omega
            exact ⟨_, vs, by rw [List.getElem?_append_right (by omega)]; rw [hl1, ← hlen, hi0]; rfl, h2, dpAll_mono sm _ _ h3⟩
        · show (m.m ++ [a])[M.length]? = some a
          rw [List.getElem?_append_right (by omega), ← hlen]
          simp
      · cases e
  · cases e
theorem rs_start {N : List Str} {xs : List Val} {vs : List V} (h : RVs P m H xs vs) : RS P m H (L2.start N vs) (xs.map some ++ List.replicate (N.length - xs.length) none) := by
  have hl := h.len
  refine ⟨by unfold L2.start; simp [hl], fun i x q => ?_⟩
  unfold L2.start
  by_cases hi : i < xs.length
  · rw [List.getElem?_append_left (by simpa using hi)] at q
    rw [List.getElem?_append_left (by rw [List.length_map, ← hl]; exact hi)]
    rw [List.getElem?_map] at q
    obtain ⟨y, h1, h2⟩ := Option.map_eq_some_iff.mp q
    cases h2
    obtain ⟨v, h3, h4⟩ := h.get h1
    exact ⟨v, by rw [List.getElem?_map, h3]; rfl, h4⟩
  · rw [List.getElem?_append_right (by simpa using hi)] at q
    have := List.mem_of_getElem? q
    simp at this
end
section
variable {Pr : Program} {w : World} {P : Par} {mg : Str → Option Value} {base : Heap} {x qual : Str} {params : Arguments} {body : List Stmt} {scope : Scope} {dvs : List V} {kws : List (Str × V)} {fa : Addr} {fd : FuncData} {N ps : List Str} {k : Nat} {f : SF}
/-- THE RULE for a def -/
theorem fnG_of {fin : Nat → Val → Sto → Option (Val × Sto)} (hfin : FinOk fin) (F : FunD P.K x qual params body scope dvs kws fa fd) (S : FnScope N ps scope)
    (hbody : ∀ (cdv : Value) (A : Around) (outer : List Env) (s : Shared) (H : Hp) (E : XK), Room k (A.deeper (envOfC qual scope s.heap.objs.size fa cdv)) → A.guards = some [] → PSs (cxOf CX0 Pr w P.K mg base N qual scope fa cdv A outer s H E) body (TSt P f)) :
    FnG Pr w P.K mg base CX0 (k + 1) fa fd ps (spOf P ps.length (fnWith fin ps.length N.length f)) := by
  obtain ⟨oc, od, dV, kV, doc, pm, an, cdv, ct, osl, rfl, lk, hcd, _, _⟩ := F.ex
  refine ⟨fun vs H Q E h => h.1, fun A outer s H args us vs Q E hr hgd e0 hb r hsp => ?_⟩
  obtain ⟨hl, xs, M, m, z, M', rvs, rm, e, kk⟩ := hsp
  refine LamX.run_ofS lk hcd S hr e0 hb r hl fun hr' => ⟨TSt P f, hbody cdv A outer s H E hr' hgd, ?_⟩
  unfold fnWith at e
  split at e
  · rename_i hxl
    have rs : RS P m H (L2.start N vs) (xs.map some ++ List.replicate (N.length - ps.length) none) := by rw [← hxl]; exact rs_start rvs
    split at e
    · rename_i v ρ1 M1 q
      exact ⟨_, M, m, .rt v, ρ1, M1, rs, rm, q, fun v1 m1 H1 ev1 rv1 rm1 => by
        obtain ⟨m', e1, e2, e3⟩ := hfin P m m1 H H1 M M1 v v1 z M' rm ev1 rm1 rv1 e
        exact kk v1 m' H1 e1 e3 e2⟩
    · rename_i ρ1 M1 q
      exact ⟨_, M, m, .nx, ρ1, M1, rs, rm, q, fun σ1 m1 H1 ev1 rs1 rm1 => by
        obtain ⟨m', e1, e2, e3⟩ := hfin P m m1 H H1 M M1 (.p .none) .non z M' rm ev1 rm1 Dq.non e
        exact kk .non m' H1 e1 e3 e2⟩
    · cases e
  · cases e
/-- called by place, every argument written -/
theorem gd_of {n : Nat} {ff : Fn} {ds : List PyData} {dV : List Value} {dvs' : List V} (G : FnG Pr w P.K mg base CX0 k fa fd ps (spOf P n ff)) (kp : PySem.W.keepIn P.K (.ref fa) = true) (hm : mg x = some (.ref fa)) (hb : Binds P.K fd ps dV) (hv : Vals dvs' dV) (hd : ∀ H, DqAll P.K H dvs' ds) (ar : ∀ xs M r, ff xs M = some r → xs.length = n) : Gd Pr w P mg base k x n ds ff :=
  ⟨⟨fa, fd, ps, dvs', dV, G, hm, kp, hb, hv, hd⟩, ar⟩
end
end AX

namespace AX
open PySem PySem.Spec PyProof.Rows L2

/-! ### the end of a law: at the start nothing is known but the script and the code tables -/
/-- the script as the claim's caller lays it -/
def scrO (us : List Value) : Obj := { cls := .type "list", data := .seq us.toArray }
def tabO : Obj := { cls := .none, data := .fields #[] }
def hp0 (ts : List Addr) (a : Addr) (us : List Value) (ns : List Int) (K : PySem.W.Frag) : Hp := fun b =>
  if b ∈ ts then some (.tbl #[]) else if b = a ∧ K.lookup a = none then some (.frz (scrO us) (.lst (ns.map V.int))) else none
section
variable {Pr : Program} {w : World} {K : PySem.W.Frag} {mg mb : Str → Option Value} {k : Nat} {fa a : Addr} {cs : List (Addr × Addr)} {fd : FuncData} {x : Str} {sp : Sp} {s : Shared} {us : List Value} {ns : List Int} {ts : List Addr}
theorem hp0_tab {b : Addr} (h : b ∈ ts) : hp0 ts a us ns K b = some (.tbl #[]) := if_pos h
theorem hp0_cases {b : Addr} {o : HO} (h : hp0 ts a us ns K b = some o) : (b ∈ ts ∧ o = .tbl #[]) ∨ (b ∉ ts ∧ b = a ∧ K.lookup a = none ∧ o = .frz (scrO us) (.lst (ns.map V.int))) := by
  unfold hp0 at h
  split at h
  · rename_i ht
    cases h
    exact .inl ⟨ht, rfl⟩
  · rename_i ht
    split at h
    · rename_i hb
      cases h
      exact .inr ⟨ht, hb.1, hb.2, rfl⟩
    · cases h
theorem hp0_at (hn : a ∉ ts) (hk : K.lookup a = none) : hp0 ts a us ns K a = some (.frz (scrO us) (.lst (ns.map V.int))) := by
  unfold hp0
  rw [if_neg hn, if_pos ⟨rfl, hk⟩]
/-- an object that is neither the script nor a table is not tracked -/
theorem hp0_free {b : Addr} {o : Obj} (hT : ∀ t ∈ ts, s.heap.get? t = some tabO) (ha : s.heap.get? a = some (scrO us)) (e : s.heap.get? b = some o) (h1 : o.data ≠ (scrO us).data) (h2 : o.data ≠ tabO.data) : hp0 ts a us ns K b = none := by
  cases q : hp0 ts a us ns K b with
  | none => rfl
  | some u =>
    rcases hp0_cases q with ⟨hb, _⟩ | ⟨_, hb, _, _⟩
    · rw [hT b hb] at e
      exact absurd (congrArg Obj.data (Option.some.inj e).symm) h2
    · rw [hb, ha] at e
      exact absurd (congrArg Obj.data (Option.some.inj e).symm) h1
theorem law_endG (KX : K.In s.heap) (hns : s.heap.Ns mainGlobals mg) (hb : s.heap.Ns builtinsNs mb) (hbb : ∀ x : Str, x ≠ "__name__" → mb x = bootBuiltins x) (hlim : s.heap.NoLimit) (hg : s.gens = #[])
    (hT : ∀ p ∈ cs, s.heap.get? p.2 = some tabO) (nT : ∀ p ∈ cs, K.lookup p.2 = none) (C : ∀ p ∈ cs, PySem.W.CodeHd s.heap p.1 p.2)
    (hbm : ∃ (bm : Addr) (ob : Obj), mg "__builtins__" = some (.ref bm) ∧ bm ≠ builtinsNs ∧ s.heap.get? bm = some ob ∧ ob.cls = .type "module" ∧ ob.dict = some builtinsNs ∧ ob.data = .plain)
    (ha : s.heap.get? a = some (scrO us)) (hi : IntsAre us ns) (hl : ns.length ≤ sizeLine) (hr : Room k callerA)
    (F : ∀ base : Heap, K.In base → base.Ns mainGlobals mg → (∀ p ∈ cs, LamX.TabB base mg p.1 p.2) → FnG Pr w K mg base CX0 k fa fd [x] sp) (hbind : ∀ (s : Shared) (u : Value), BindsTo s fd ⟨[u], []⟩ [(x, u)])
    (hsp : ∀ H : Hp, (∀ p ∈ cs, H p.2 = some (.tbl #[])) → SqL K H a (ns.map V.int) → sp [.ref a] H (fun v _ => v = .bl true) fun _ _ _ => False) :
    codeAny (model Pr w) callerA (.call (.ref fa) ⟨[.ref a], []⟩) (fun r s' => r = .ok (.ret (.bool true)) ∧ OldK s.heap s'.heap ∧ s'.os = s.os ∧ AllBare s'.gens) s := by
  have hT2 : ∀ t ∈ cs.map (·.2), s.heap.get? t = some tabO := fun t ht => by
    obtain ⟨p, hp, e⟩ := List.mem_map.mp ht
    rw [← e]; exact hT p hp
  have aT : a ∉ cs.map (·.2) := fun z => by
    have := hT2 a z
    rw [ha] at this
    cases congrArg Obj.data (Option.some.inj this)
  have mT : ∀ p ∈ cs, p.2 ∈ cs.map (·.2) := fun p hp => List.mem_map.mpr ⟨p, hp, rfl⟩
  generalize hH : hp0 (cs.map (·.2)) a us ns K = H
  have free : ∀ {b : Addr} {o : Obj}, s.heap.get? b = some o → o.data ≠ (scrO us).data → o.data ≠ tabO.data → (hidT s.heap H).get? b = some o := fun {b o} e h1 h2 => hidT_get e (by rw [← hH]; exact hp0_free hT2 ha e h1 h2)
  have freeNs : ∀ {b : Addr} {m : Str → Option Value}, s.heap.Ns b m → (hidT s.heap H).Ns b m := fun ⟨o, es, ep, e, d, r⟩ => ⟨o, es, ep, free e (by rw [d]; exact fun z => by cases z) (by rw [d]; exact fun z => by cases z), d, r⟩
  have kin : K.In (hidT s.heap H) := fun b o e => hidT_get (KX b o e) (by
    cases q : H b with
    | none => rfl
    | some u =>
      rw [← hH] at q
      rcases hp0_cases q with ⟨hb, _⟩ | ⟨_, hb, hk, _⟩
      · obtain ⟨p, hp, ep⟩ := List.mem_map.mp hb
        rw [← ep, nT p hp] at e
        cases e
      · rw [hb, hk] at e
        cases e)
  have tabs : ∀ p ∈ cs, H p.2 = some (.tbl #[]) := fun p hp => by rw [← hH]; exact hp0_tab (mT p hp)
  have script : SqL K H a (ns.map V.int) := by
    cases hk : K.lookup a with
    | none => exact .inl (.inr ⟨scrO us, by rw [← hH]; exact hp0_at aT hk⟩)
    | some o =>
      have e := KX a o hk
      rw [ha] at e
      cases e
      exact .inr ⟨_, us.toArray, _, hk, rfl, rfl, rfl, by rw [List.size_toArray, hi.length]; exact hl, by simpa using vals_ints hi⟩
  have hok : HOk Pr w H s.heap := fun b u q => by
    rw [← hH] at q
    rcases hp0_cases q with ⟨hb, e⟩ | ⟨_, hb, _, e⟩
    · subst e
      exact hT2 b hb
    · subst e
      rw [hb]
      exact ⟨ha, by rw [List.length_map]; exact hl, us, _, vals_ints hi, ha⟩
  have tabB : ∀ p ∈ cs, LamX.TabB (hidT s.heap H) mg p.1 p.2 := fun p hp => by
    refine ⟨?_, ?_, fun z => ?_⟩
    · obtain ⟨o, vs, file, tf, flags, tg, inF, text, tt, e1, r1, r2, r3, rest⟩ := C p hp
      refine ⟨o, vs, file, tf, flags, tg, inF, text, tt, free e1 ?_ ?_, r1, r2, r3, rest⟩
      · rw [r2]; exact fun z => by cases z
      · rw [r2]
        intro z
        cases z
        simp at r3
    · obtain ⟨bm, ob, b1, b2, b3, b4, b5, b6⟩ := hbm
      refine ⟨bm, ob, b1, b2, fun q => ?_, fun q => ?_, free b3 ?_ ?_, b4, b5, b6⟩
      · obtain ⟨o, es, ep, e, hd, _⟩ := hns
        rw [q, e] at b3
        cases b3
        rw [hd] at b6
        cases b6
      · rw [q, hT p hp] at b3
        cases b3
        cases b6
      · rw [b6]; exact fun z => by cases z
      · rw [b6]; exact fun z => by cases z
    · obtain ⟨o, es, ep, e, hd, _⟩ := hns
      rw [z, hT p hp] at e
      cases e
      cases hd
  have e0 : Env0 Pr w K mg (hidT s.heap H) callerA [] s H :=
    ⟨rfl, ⟨kin, freeNs hns, ⟨mb, freeNs hb, hbb⟩, let ⟨mc, q1, q2⟩ := hlim; ⟨mc, freeNs q1, q2⟩⟩, fun b o e => of_hidT e, Nat.le_of_eq (hidT_size _ _), trivial, fun b z => absurd (show b ∈ ([] : List Addr) from z) (by simp), hok, .of_eq hg⟩
  refine codeAny_mono ((F _ kin (freeNs hns) tabB).run callerA [] s H ⟨[.ref a], []⟩ [.ref a] [.ref a] _ _ hr rfl e0 (hbind s (.ref a)) (.cons rfl .nil) (hsp H tabs script)) fun r s' h => ?_
  cases r with
  | error e => exact False.elim (show False from h)
  | ok fl =>
    cases fl with
    | ret u =>
      obtain ⟨v, H2, os, bare, un, hok2, rv, hv⟩ := h
      have hv : v = .bl true := hv
      subst hv
      have hu : u = Value.bool true := rv
      subst hu
      have stays : ∀ b o, b ∉ cs.map (·.2) → s.heap.get? b = some o → s'.heap.get? b = some o := fun b o nb e => by
        cases q : H b with
        | none => exact un.keep b o e q (fun z => absurd (show b ∈ ([] : List Addr) from z) (by simp)) (by simp)
        | some u2 =>
          have q2 := q
          rw [← hH] at q2
          rcases hp0_cases q2 with ⟨hb2, _⟩ | ⟨_, hb2, _, e2⟩
          · exact absurd hb2 nb
          · subst e2
            obtain ⟨e3, _⟩ := hok b _ q
            obtain ⟨e4, _⟩ := hok2 b _ (un.frzs b _ _ q)
            rw [e] at e3
            cases e3
            exact e4
      have grows : ∀ p ∈ cs, ∃ more : Array Value, s'.heap.get? p.2 = some { cls := .none, data := .fields more } := fun p hp => by
        obtain ⟨more, z⟩ := un.tbls p.2 #[] (tabs p hp)
        exact ⟨_, hok2 p.2 _ z⟩
      refine ⟨rfl, ⟨fun b o e => ?_, fun b o e => ?_⟩, os, bare⟩
      · by_cases hb2 : b ∈ cs.map (·.2)
        · obtain ⟨p, hp, ep⟩ := List.mem_map.mp hb2
          obtain ⟨more, hm⟩ := grows p hp
          rw [← ep] at e ⊢
          rw [hT p hp] at e
          cases e
          exact .inr (.inl ⟨((C p hp).tab (hT p hp)).isCodeTable, rfl, #[], more, rfl, by rw [Array.empty_append]; exact hm⟩)
        · exact .inl (stays b o hb2 e)
      · by_cases hb2 : b ∈ cs.map (·.2)
        · obtain ⟨p, hp, ep⟩ := List.mem_map.mp hb2
          obtain ⟨more, hm⟩ := grows p hp
          rw [← ep]
          exact ⟨_, hm⟩
        · exact ⟨o, stays b o hb2 e⟩
    | next => exact False.elim h
    | brk => exact False.elim h
    | cont => exact False.elim h
end

/-- what a law's proof gives at the head's end -/
def LawG (l : PySem.W.OpenLaw) (w : World) (k n : Nat) (x : Str) (mg : Str → Option Value) (fa : Addr) (h : Heap) : Prop :=
  ∃ (K : PySem.W.Frag) (fd : FuncData) (cs : List (Addr × Addr)) (P : Par) (f : Fn), K.In h ∧ P.K = K ∧ (∀ b o, K.lookup b = some o → o.cls ≠ .type "list") ∧ (∀ p ∈ cs, h.get? p.2 = some tabO) ∧ (∀ p ∈ cs, K.lookup p.2 = none) ∧ (∀ p ∈ cs, PySem.W.CodeHd h p.1 p.2) ∧
    (∀ H : Hp, (∀ p ∈ cs, H p.2 = some (.tbl #[])) → NdefX.TabsN P.tb H) ∧ (∀ (s : Shared) (u : Value), BindsTo s fd ⟨[u], []⟩ [(x, u)]) ∧
    (∀ ns : List Int, ns.length ≤ n → (∀ z ∈ ns, Builtin.Int.intBits z ≤ 1048576) → ∃ M, f [.p (.list (ns.map .int))] [] = some (.p (.bool true), M)) ∧
    ∀ base : Heap, K.In base → base.Ns mainGlobals mg → (∀ p ∈ cs, LamX.TabB base mg p.1 p.2) → FnG l.prog w K mg base CX0 k fa fd [x] (spOf P 1 f)
theorem walk_g {l : PySem.W.OpenLaw} {n k : Nat} {q : Program} {loose : List Str} {XP : (Str → Option Value) → Heap → Prop} {YP : World → Heap → Prop} {d : DefRec} {x : Str}
    (hn : l.most = some n) (hn2 : n ≤ sizeLine) (hdf : d.params.defaults = []) (hr : Room k callerA)
    (F : ∀ (w : World) (mg : Str → Option Value) (fa : Addr) (h : Heap), YP w h → h.Ns mainGlobals mg → mg d.name = some (.ref fa) → LawG l w k n x mg fa h) :
    PySem.W.WalkO q loose XP YP l.row.toRowW d [] (fun f vs => PySem.call f vs) := by
  refine Att.attach_callB hn hdf fun w s₀ s₁ mg mb fa o pm cd doc a us ns G Y ho hd hcd hmg hobj hints hlen hbits hg => ?_
  obtain ⟨K, fd, cs, P, f, KX, rfl, nL, hT, nT, C, hTb, hb, hlaw, hF⟩ := F w mg fa _ Y G.T.g hmg
  refine law_endG (sp := spOf P 1 f) KX G.T.g G.T.b G.T.builtins G.T.nolimit hg hT nT C G.T.bmain hobj hints (Nat.le_trans hlen hn2) hr hF hb fun H hH hS => ?_
  obtain ⟨M, e⟩ := hlaw ns hlen hbits
  have hk : P.K.lookup a = none := by
    cases q : P.K.lookup a with
    | none => rfl
    | some u =>
      have e2 := KX a u q
      rw [show s₁.heap.get? a = some (scrO us) from hobj] at e2
      exact absurd (congrArg Obj.cls (Option.some.inj e2).symm) (nL a u q)
  have hR : Rd H a (.lst (ns.map V.int)) := by
    rcases hS with z | ⟨o, its, n, e1, _⟩
    · exact z
    · rw [hk] at e1
      cases e1
  have hR2 : Rd (msk ⟨[], []⟩ H) a (.lst (ns.map V.int)) := by
    rcases hR with z | ⟨o, z⟩
    · exact .inl (msk_of z (by simp [Mw.all]) (fun _ y => by cases y))
    · exact .inr ⟨o, msk_of z (by simp [Mw.all]) (fun _ y => by cases y)⟩
  exact ⟨rfl, [.p (.list (ns.map .int))], [], ⟨[], []⟩, .p (.bool true), M, .cons (Dq.lst hR2 (dpa_ints ns)) .nil, ⟨List.nodup_nil, by simp, rfl, by simp, by simp, hTb H hH⟩, e, fun v m' H' ev rv rm => rv_bl rv⟩
end AX

namespace AX
open PySem PySem.Spec PyProof.Rows L2

/-! ### arguments put in the parameters' order: 0 the written ones, 1 the keywords', 2 the defaults -/
def pick {α : Type} (js : List (Nat × Nat)) (us ws ds : List α) : List α := js.filterMap fun j => (if j.1 = 0 then us else if j.1 = 1 then ws else ds)[j.2]?
theorem vals_get {vs : List V} {us : List Value} (h : Vals vs us) : ∀ i : Nat, (vs[i]? = none ∧ us[i]? = none) ∨ ∃ v u, vs[i]? = some v ∧ us[i]? = some u ∧ RelV v u := by
  induction h with
  | nil => exact fun i => .inl ⟨by simp, by simp⟩
  | cons r _ ih =>
    intro i
    cases i with
    | zero => exact .inr ⟨_, _, by simp, by simp, r⟩
    | succ i => simpa using ih i
theorem rvs_get {P : Par} {m : Mw} {H : Hp} {xs : List Val} {vs : List V} (h : RVs P m H xs vs) : ∀ i : Nat, (xs[i]? = none ∧ vs[i]? = none) ∨ ∃ x v, xs[i]? = some x ∧ vs[i]? = some v ∧ RV P m H x v := by
  induction h with
  | nil => exact fun i => .inl ⟨by simp, by simp⟩
  | cons r _ ih =>
    intro i
    cases i with
    | zero => exact .inr ⟨_, _, by simp, by simp, r⟩
    | succ i => simpa using ih i
theorem pick_cons {α : Type} (j : Nat × Nat) (js : List (Nat × Nat)) (us ws ds : List α) : pick (j :: js) us ws ds = match (if j.1 = 0 then us else if j.1 = 1 then ws else ds)[j.2]? with
    | some x => x :: pick js us ws ds
    | none => pick js us ws ds := by
  unfold pick
  rw [List.filterMap_cons]
  cases (if j.1 = 0 then us else if j.1 = 1 then ws else ds)[j.2]? <;> rfl
theorem pick_vals {vs zs es : List V} {us ws ds : List Value} (h1 : Vals vs us) (h2 : Vals zs ws) (h3 : Vals es ds) : ∀ js : List (Nat × Nat), Vals (pick js vs zs es) (pick js us ws ds)
  | [] => .nil
  | j :: js => by
    rw [pick_cons, pick_cons]
    have hh : Vals (if j.1 = 0 then vs else if j.1 = 1 then zs else es) (if j.1 = 0 then us else if j.1 = 1 then ws else ds) := by
      split
      · exact h1
      · split
        · exact h2
        · exact h3
    rcases vals_get hh j.2 with ⟨a, b⟩ | ⟨v, u, a, b, r⟩
    · rw [a, b]; exact pick_vals h1 h2 h3 js
    · rw [a, b]; exact .cons r (pick_vals h1 h2 h3 js)
theorem pick_rvs {P : Par} {m : Mw} {H : Hp} {xs ys zs : List Val} {us ws ds : List V} (h1 : RVs P m H xs us) (h2 : RVs P m H ys ws) (h3 : RVs P m H zs ds) : ∀ js : List (Nat × Nat), RVs P m H (pick js xs ys zs) (pick js us ws ds)
  | [] => .nil
  | j :: js => by
    rw [pick_cons, pick_cons]
    have hh : RVs P m H (if j.1 = 0 then xs else if j.1 = 1 then ys else zs) (if j.1 = 0 then us else if j.1 = 1 then ws else ds) := by
      split
      · exact h1
      · split
        · exact h2
        · exact h3
    rcases rvs_get hh j.2 with ⟨a, b⟩ | ⟨v, u, a, b, r⟩
    · rw [a, b]; exact pick_rvs h1 h2 h3 js
    · rw [a, b]; exact .cons r (pick_rvs h1 h2 h3 js)
/-- pure constants as values that a def's defaults hold -/
def cV : PyData → V
  | .bool b => .bl b
  | .int i => .int i
  | .str s => .str s
  | _ => .non
def flat1 : PyData → Bool
  | .none | .bool _ | .int _ | .str _ => true
  | _ => false
theorem cV_dq {K : PySem.W.Frag} {H : Hp} {d : PyData} (h : flat1 d = true) : Dq K H (cV d) d := by
  cases d with
  | none => exact .non
  | bool b => exact .bl b
  | int i => exact .int i
  | str s => exact .str s
  | _ => cases h
theorem cVs_dq {K : PySem.W.Frag} {H : Hp} : ∀ {ds : List PyData}, ds.all flat1 = true → DqAll K H (ds.map cV) ds
  | [], _ => .nil
  | d :: ds, h => by
    simp only [List.all_cons, Bool.and_eq_true] at h
    exact .cons (cV_dq h.1) (cVs_dq h.2)
section
variable {Pr : Program} {w : World} {P : Par} {mg : Str → Option Value} {base : Heap} {x qual gx : Str} {params : Arguments} {body : List Stmt} {scope : Scope} {dvs : List V} {kws : List (Str × V)} {fa : Addr} {fd : FuncData} {ps : List Str} {k n : Nat} {ff : Fn} {ds : List PyData}
/-- every argument written, by place -/
theorem gd_all (G : FnG Pr w P.K mg base CX0 k fa fd ps (spOf P n ff)) (F : FunD P.K x qual params body scope [] kws fa fd) (hm : mg gx = some (.ref fa)) (ar : ∀ xs M r, ff xs M = some r → xs.length = n)
    (h : ∀ (kV doc pm : Value) (an : Option Addr) (cdv ct : Value) (us : List Value), us.length = ps.length → bindArgs (PySem.W.fnOf x qual params body scope .none kV doc pm an cdv ct) ⟨us, []⟩ = pure (ps.zip us)) : Gd Pr w P mg base k gx n [] ff :=
  gd_of G F.kp hm (F.bindsN h) .nil (fun _ => .nil) ar
/-- .. where there are defaults: all written (j = their number), or the last ones left out -/
theorem gd_dfl (G : FnG Pr w P.K mg base CX0 k fa fd ps (spOf P n ff)) (F : FunD P.K x qual params body scope (ds.map cV) kws fa fd) (hm : mg gx = some (.ref fa)) (ar : ∀ xs M r, ff xs M = some r → xs.length = n) (m j : Nat) (hd : ds.map cV ≠ []) (hf : ds.all flat1 = true) (hn : m + ((ds.map cV).length - j) = ps.length)
    (h : ∀ (T : Addr) (kV doc pm : Value) (an : Option Addr) (cdv ct : Value) (us its : List Value), us.length = m → its.length = (ds.map cV).length →
      ∃ k, bindArgs (PySem.W.fnOf x qual params body scope (.ref T) kV doc pm an cdv ct) ⟨us, []⟩ = seqItems? (.ref T) >>= k ∧ k (some its.toArray) = pure (ps.zip (us ++ its.drop j))) : Gd Pr w P mg base k gx n (ds.drop j) ff := by
  obtain ⟨dV, r, b⟩ := F.binds1 m j hd hn h
  refine gd_of G F.kp hm b r (fun H => ?_) ar
  rw [← List.map_drop]
  exact cVs_dq (List.all_eq_true.mpr fun d hd => List.all_eq_true.mp hf d (List.mem_of_mem_drop hd))
theorem gdk_all {m : Nat} {ks : List Str} (js : List (Nat × Nat)) (G : FnG Pr w P.K mg base CX0 k fa fd ps (spOf P n ff)) (F : FunD P.K x qual params body scope [] kws fa fd) (hm : mg gx = some (.ref fa)) (ar : ∀ xs M r, ff xs M = some r → xs.length = n)
    (h : ∀ (kV doc pm : Value) (an : Option Addr) (cdv ct : Value) (us ws : List Value), us.length = m → ws.length = ks.length → bindArgs (PySem.W.fnOf x qual params body scope .none kV doc pm an cdv ct) ⟨us, ks.zip ws⟩ = pure (ps.zip (pick js us ws []))) : GdK Pr w P mg base k gx n m ks (fun us ws => pick js us ws []) ff := by
  refine ⟨⟨fa, fd, ps, fun us ws => pick js us ws [], fun us ws => pick js us ws [], G, hm, F.kp, ⟨fun s us ws _ h1 h2 => ?_, fun r1 r2 => pick_vals r1 r2 .nil js⟩, fun m H xs vs ys zs r1 r2 => pick_rvs r1 r2 .nil js⟩, ar⟩
  obtain ⟨oc, od, dV, kV, doc, pm, an, cdv, ct, osl, rfl, lk, hcd, hD, hK⟩ := F.ex
  rcases hD with ⟨_, rfl⟩ | ⟨e, _⟩
  · exact .of_eq (h kV doc pm an cdv ct us ws h1 h2)
  · exact absurd rfl e
/-- keywords, defaults fill up -/
theorem gdk_dfl {m : Nat} {ks : List Str} (js : List (Nat × Nat)) (G : FnG Pr w P.K mg base CX0 k fa fd ps (spOf P n ff)) (F : FunD P.K x qual params body scope (ds.map cV) kws fa fd) (hm : mg gx = some (.ref fa)) (ar : ∀ xs M r, ff xs M = some r → xs.length = n) (hd : ds.map cV ≠ []) (hf : ds.all flat1 = true)
    (h : ∀ (T : Addr) (kV doc pm : Value) (an : Option Addr) (cdv ct : Value) (us its ws : List Value), us.length = m → its.length = (ds.map cV).length → ws.length = ks.length →
      ∃ k, bindArgs (PySem.W.fnOf x qual params body scope (.ref T) kV doc pm an cdv ct) ⟨us, ks.zip ws⟩ = seqItems? (.ref T) >>= k ∧ k (some its.toArray) = pure (ps.zip (pick js us ws its))) : GdK Pr w P mg base k gx n m ks (fun us ws => pick js us ws (ds.map Val.p)) ff := by
  obtain ⟨its, b⟩ := F.kbindsD (ps := ps) m ks (g := fun us its ws => pick js us ws its) hd (fun r1 r2 r3 => pick_vals r1 r3 r2 js) h
  exact ⟨⟨fa, fd, ps, _, _, G, hm, F.kp, b, fun m H xs vs ys zs r1 r2 => pick_rvs r1 r2 (rvs_dq (cVs_dq hf)) js⟩, ar⟩
end

/-! ### constants of the module -/
mutual
def conB (K : PySem.W.Frag) : PyData → Value → Bool
  | .none, .none => true
  | .bool b, .bool c => b == c
  | .int i, .int j _ => decide (i = j)
  | .str s, .str z _ => decide (s = z)
  | .tuple ds, .ref a => match K.lookup a with
    | some ⟨.type c, _, .seq its _, _⟩ => decide (c = "tuple") && (decide (its.size ≤ sizeLine) && conAll K ds its.toList)
    | _ => false
  | _, _ => false
def conAll (K : PySem.W.Frag) : List PyData → List Value → Bool
  | [], [] => true
  | d :: ds, u :: us => conB K d u && conAll K ds us
  | _, _ => false
end
mutual
theorem conB_ok {K : PySem.W.Frag} : ∀ (d : PyData) (u : Value), conB K d u = true → ∃ v, RelV v u ∧ ∀ H, Dq K H v d
  | .none, u, h => by
    cases u <;> first | exact ⟨.non, rfl, fun _ => .non⟩ | (unfold conB at h; cases h)
  | .bool b, u, h => by
    cases u <;> first | (unfold conB at h; have e := eq_of_beq h; subst e; exact ⟨.bl _, rfl, fun _ => .bl _⟩) | (unfold conB at h; cases h)
  | .int i, u, h => by
    cases u <;> first | (unfold conB at h; have e := of_decide_eq_true h; subst e; exact ⟨.int _, ⟨_, rfl⟩, fun _ => .int _⟩) | (unfold conB at h; cases h)
  | .str i, u, h => by
    cases u <;> first | (unfold conB at h; have e := of_decide_eq_true h; subst e; exact ⟨.str _, ⟨_, rfl⟩, fun _ => .str _⟩) | (unfold conB at h; cases h)
  | .tuple ds, u, h => by
    cases u with
    | ref a =>
      unfold conB at h
      split at h
      · rename_i c od its n sl q
        simp only [Bool.and_eq_true, decide_eq_true_eq] at h
        obtain ⟨h1, h2, h3⟩ := h
        obtain ⟨vs, r, hd⟩ := conAll_ok ds its.toList h3
        exact ⟨.ref a, rfl, fun H => .tup (.inr ⟨_, its, n, q, by rw [h1], rfl, h2, r⟩) (hd H)⟩
      · cases h
    | _ => unfold conB at h; cases h
  | .list ds, u, h => by unfold conB at h; cases u <;> cases h
  | .dict ds, u, h => by unfold conB at h; cases u <;> cases h
theorem conAll_ok {K : PySem.W.Frag} : ∀ (ds : List PyData) (us : List Value), conAll K ds us = true → ∃ vs, Vals vs us ∧ ∀ H, DqAll K H vs ds
  | [], [], _ => ⟨[], .nil, fun _ => .nil⟩
  | [], _ :: _, h => by unfold conAll at h; cases h
  | _ :: _, [], h => by unfold conAll at h; cases h
  | d :: ds, u :: us, h => by
    unfold conAll at h
    simp only [Bool.and_eq_true] at h
    obtain ⟨v, r, hd⟩ := conB_ok d u h.1
    obtain ⟨vs, rs, hds⟩ := conAll_ok ds us h.2
    exact ⟨v :: vs, .cons r rs, fun H => .cons (hd H) (hds H)⟩
end
def gloB (K : PySem.W.Frag) (x : Str) (d : PyData) : Bool := match PySem.W.nsIn K mainGlobals x with
  | some (some u) => conB K d u
  | _ => false
/-- the module's name x holds d -/
def Gc (K : PySem.W.Frag) (mg : Str → Option Value) (x : Str) (d : PyData) : Prop := ∃ u v, mg x = some u ∧ RelV v u ∧ ∀ H, Dq K H v d
theorem gc_of {K : PySem.W.Frag} {h : Heap} {mg : Str → Option Value} (X : K.In h) (G : h.Ns mainGlobals mg) {x : Str} {d : PyData} (c : gloB K x d = true) : Gc K mg x d := by
  unfold gloB at c
  split at c
  · rename_i u q
    obtain ⟨v, r, hd⟩ := conB_ok d u c
    exact ⟨u, v, PySem.W.mg_of X G q, r, hd⟩
  · cases c
section
variable {X : Cx} {P : Par} {pos : Pos} {x : Str} {d : PyData}
theorem ae_glc (G : Gc P.K X.mg x d) (hg : Gl X x := by rfl) (hdb : (x == ("__debug__" : Str)) = false := by decide) : PE X (.Name x pos) (T P (eC d)) := by
  obtain ⟨u, v, h1, h2, h3⟩ := G
  exact a_glob hg h1 h2 h3 hdb
end
/-- isinstance's table, looked up -/
def isTabB (K : PySem.W.Frag) (n : String) : Bool :=
  decide (PySem.W.kitOne K (.type "NoneType") (.type n) = some (isTy n .none)) && (decide (PySem.W.kitOne K (.type "bool") (.type n) = some (isTy n (.bool true))) && (decide (PySem.W.kitOne K (.type "int") (.type n) = some (isTy n (.int 0))) &&
  (decide (PySem.W.kitOne K (.type "str") (.type n) = some (isTy n (.str Str.empty))) && (decide (PySem.W.kitOne K (.type "list") (.type n) = some (isTy n (.list []))) && decide (PySem.W.kitOne K (.type "tuple") (.type n) = some (isTy n (.tuple [])))))))
theorem isTab_of {K : PySem.W.Frag} {n : String} (h : isTabB K n = true) : IsTab K n := by
  unfold isTabB at h
  simp only [Bool.and_eq_true, decide_eq_true_eq] at h
  exact ⟨h.1, h.2.1, h.2.2.1, h.2.2.2.1, h.2.2.2.2.1, h.2.2.2.2.2⟩
/-- no list among the module's own objects -/
def noLst (K : PySem.W.Frag) : Bool := K.all fun q => match q.2.cls with
  | .type c => !decide (c = "list")
  | _ => true
theorem noLst_of {K : PySem.W.Frag} (h : noLst K = true) : ∀ b o, K.lookup b = some o → o.cls ≠ .type "list" := fun b o e z => by
  have := List.all_eq_true.mp h _ (He.lookup_mem e)
  simp only [z] at this
  simp at this
end AX

namespace AX
open PySem PySem.Spec PyProof.Rows L2

/-- a, b, c = x, y, z -/
def sPr3 (i j l : Nat) (fr : AF) : SF := fun ρ M => bnd (fr ρ M) fun xs M1 => match xs with
  | [x, y, z] => some (.nx, ((ρ.set i (some x)).set j (some y)).set l (some z), M1)
  | _ => none
section
variable {X : Cx} {P : Par} {pos : Pos}
theorem as_par3 {i j l : Nat} {x y z : Str} {a b c : Expr} {px py pz pt : Pos} {kt k2 pt2} {fr : AF} (hN : X.N.Nodup) (ha : PA X [a, b, c] (TAr P fr)) (hi : X.N[i]? = some x := by rfl) (hj : X.N[j]? = some y := by rfl) (hl : X.N[l]? = some z := by rfl) (hij : i ≠ j := by decide) (hil : i ≠ l := by decide) (hjl : j ≠ l := by decide)
    (hx : X.env.scope.names.lookup x = some .local := by rfl) (hy : X.env.scope.names.lookup y = some .local := by rfl) (hz : X.env.scope.names.lookup z = some .local := by rfl) (hc : X.calm = true := by rfl)
    (hw : swappedStores [.Tuple [.Name x px, .Name y py, .Name z pz] kt pt] (.Tuple [a, b, c] k2 pt2) X.env = pure (some [x, y, z]) := by rfl)
    (hs : swapsWithSole [.Tuple [.Name x px, .Name y py, .Name z pz] kt pt] (.Tuple [a, b, c] k2 pt2) pos.line X.env = pure false := by rfl) :
    PS X (.Assign [.Tuple [.Name x px, .Name y py, .Name z pz] kt pt] (.Tuple [a, b, c] k2 pt2) pos) (TSt P (sPr3 i j l fr)) := PS.weak (ps_par3 hc hN hi hj hl hij hil hjl hx hy hz ha hw hs) fun D σ H ⟨ρ, M, m, fl, ρ', M', hs, hm, ee, k⟩ => by
  obtain ⟨xs, M1, e1, e2⟩ := bnd_eq ee
  split at e2
  · cases e2
    refine ⟨ρ, M, m, _, _, hs, hm, e1, fun vs m1 H1 ev1 rv1 rm1 => ?_⟩
    obtain ⟨v, u, w, rfl, r1, r2, r3⟩ := rvs3 rv1
    exact ⟨v, u, w, rfl, k _ m1 H1 ev1 ((((hs.mono ev1).set r1).set r2).set r3) rm1⟩
  · cases e2
end
section
variable {Pr : Program} {w : World} {P : Par} {mg : Str → Option Value} {base : Heap} {x qual : Str} {params : Arguments} {body : List Stmt} {scope : Scope} {dvs : List V} {kws : List (Str × V)} {fa : Addr} {fd : FuncData} {N ps : List Str} {k : Nat} {f : SF}
/-- a def that lets no exception out -/
theorem fnG_nox {fin : Nat → Val → Sto → Option (Val × Sto)} {n nn : Nat} (hfin : FinOk fin) (F : FunD P.K x qual params body scope dvs kws fa fd) (S : FnScope N ps scope) (hn : ps.length = n) (hnn : N.length = nn)
    (hbody : ∀ (cdv : Value) (A : Around) (outer : List Env) (s : Shared) (H : Hp) (E : XK), Room k (A.deeper (envOfC qual scope s.heap.objs.size fa cdv)) → A.guards = some [] → PSs (cxOf CX0 Pr w P.K mg base N qual scope fa cdv A outer s H E).nox body (TSt P f)) :
    FnG Pr w P.K mg base CX0 (k + 1) fa fd ps (spOf P n (fnWith fin n nn f)) := by
  subst hn
  subst hnn
  exact fnG_of hfin F S fun cdv A outer s H E hr hgd => (hbody cdv A outer s H E hr hgd).nox
end
/-- the context of a def's body -/
abbrev Bx (Pr : Program) (w : World) (P : Par) (mg : Str → Option Value) (base : Heap) (N : List Str) (qual : Str) (scope : Scope) (fa : Addr) (cdv : Value) (A : Around) (outer : List Env) (s : Shared) (H : Hp) (E : XK) : Cx := (cxOf CX0 Pr w P.K mg base N qual scope fa cdv A outer s H E).nox
end AX

namespace AX
open PySem PySem.Spec PyProof.Rows L2

/-! ### x[::-1] -/
section
variable {prog : Program} {w : World} {A : Around} {E : Value → Shared → Prop} {s : Shared}
theorem rev_adjust (n : Nat) : Builtin.Slice.sliceAdjust none none (-1) (n : Int) = ((n : Int) - 1, -1) := by
  unfold Builtin.Slice.sliceAdjust
  simp
theorem rev_places (n : Nat) : Builtin.Slice.slicePlaces ((n : Int) - 1) (-1) (-1) = n := by
  unfold Builtin.Slice.slicePlaces
  rw [if_neg (by decide)]
  by_cases h : (n : Int) - 1 > -1
  · rw [if_pos h]
    have : -(-1 : Int) = 1 := rfl
    rw [this, Int.ediv_one]
    omega
  · rw [if_neg h]
    omega
theorem rev_applied {sl : Addr} {vl vu vs : Value} {n : Nat} {Q : Int × Int × Nat → Shared → Prop} (hs : s.heap.IsSliceOf sl vl vu vs) (pl : IsPart vl none) (pu : IsPart vu none) (ps : IsPart vs (some (-1)))
    (h : Q ((n : Int) - 1, -1, n) s) : wpAny (model prog w) A (Builtin.Slice.sliceApplied (.ref sl) (pure (n : Int))) Q E s := by
  obtain ⟨os, hos, _, hds⟩ := id hs
  unfold Builtin.Slice.sliceApplied
  refine wpAny_bind ?_
  unfold Builtin.Slice.sliceFields
  refine wpAny_bind (wpAny_field hos hds (x := vl) rfl (wpAny_bind (wpAny_field hos hds (x := vu) rfl (wpAny_bind (wpAny_field hos hds (x := vs) rfl (wpAny_pure ?_))))))
  refine wpAny_bind (HT.slicePart_ ps ?_)
  show wpAny _ _ (if ((-1 : Int) == 0) = true then _ else _) _ _ s
  rw [if_neg (by decide)]
  refine wpAny_bind (HT.slicePart_ pl ?_)
  refine wpAny_bind (HT.slicePart_ pu ?_)
  refine wpAny_bind (wpAny_pure ?_)
  show wpAny _ _ (match Builtin.Slice.sliceAdjust none none (-1) (n : Int) with | (lo, hi) => pure (lo, (-1 : Int), Builtin.Slice.slicePlaces lo hi (-1))) _ _ s
  rw [rev_adjust]
  show wpAny _ _ (pure ((n : Int) - 1, (-1 : Int), Builtin.Slice.slicePlaces ((n : Int) - 1) (-1) (-1))) _ _ s
  rw [rev_places]
  exact wpAny_pure h
theorem rev_pick (xs : Array Value) : ((List.range xs.size).filterMap fun (k : Nat) => xs[(((xs.size : Int) - 1) + (k : Int) * (-1)).toNat]?).toArray = xs.toList.reverse.toArray := by
  have hf : (fun (k : Nat) => xs[(((xs.size : Int) - 1) + (k : Int) * (-1)).toNat]?) = (xs[·]?) ∘ fun k => xs.size - 1 - k := funext fun k => by
    show xs[(((xs.size : Int) - 1) + (k : Int) * (-1)).toNat]? = xs[xs.size - 1 - k]?
    congr 1
    omega
  rw [hf, ← List.filterMap_map, PySem.W.krv_range, List.filterMap_reverse, PySem.W.krv_all]
theorem getItem_tuple_rev {t sl : Addr} {items : Array Value} {vl vu vs : Value} {Q : Value → Shared → Prop} (ht : IsTup s.heap t items) (hs : s.heap.IsSliceOf sl vl vu vs) (pl : IsPart vl none) (pu : IsPart vu none) (ps : IsPart vs (some (-1)))
    (h : Q (.ref s.heap.objs.size) { s with heap := s.heap.push { cls := .type "tuple", data := .seq items.toList.reverse.toArray } }) (hz : items.size ≤ sizeLine) : wpAny (model prog w) A (getItem (.ref t) (.ref sl)) Q E s := by
  obtain ⟨os, hos, hcs, hds⟩ := id hs
  have hk : sizeOk (.seq items.toList.reverse.toArray) := by
    show items.toList.reverse.toArray.size ≤ sizeLine
    rw [List.size_toArray, List.length_reverse, Array.length_toList]; exact hz
  unfold getItem
  try with_reducible refine wpAny_holding ?_
  first | refine wpAny_bind (wpAny_pure ?_) | skip
  refine wpAny_bind (wpAny_sequenceKey ht.typeIs (by decide) ?_)
  refine wpAny_bind (wpAny_callSpecial?_slot (name := Str.ofString "__getitem__") ht.typeIs PyProof.Rows.slot_tuple_getitem (wpAny_call_entry PyProof.Rows.slot_tuple_getitem ht.typeIs entry_tuple_getitem ?_ (args_tuple_getitem _ _)))
  show wpAny _ _ (Builtin.Tuple.tupleItemsOf (.ref t) >>= _) _ _ s
  refine wpAny_bind (tupleItemsOf_ ht ?_)
  refine wpAny_bind (wpAny_typeOf (T := "slice") ⟨os, hos, hcs⟩ ?_)
  rw [if_pos (by decide)]
  refine wpAny_bind (rev_applied hs pl pu ps ?_)
  have hno : ¬ ((((items.size : Int) - 1) == 0 && (-1 : Int) == 1 && items.size == items.size) = true) := by simp
  show wpAny _ _ (if (((items.size : Int) - 1) == 0 && (-1 : Int) == 1 && items.size == items.size) = true then _ else _) _ _ s
  rw [if_neg hno, rev_pick]
  first
    | exact wpAny_bind (m := Builtin.Tuple.tupleExact _) (wpAny_newObj_type (wpAny_pure ⟨_, rfl, wpAny_pure h⟩) hk)
    | exact wpAny_bind (m := Builtin.Tuple.tupleExact _) (wpAny_newObj_type (wpAny_bind (wpAny_pure (wpAny_pure ⟨_, rfl, wpAny_pure h⟩))) hk)
    | exact wpAny_bind (wpAny_bind (m := Builtin.Tuple.tupleExact _) (wpAny_newObj_type (wpAny_pure (wpAny_pure ⟨_, rfl, wpAny_pure h⟩)) hk))
    | exact wpAny_bind (wpAny_bind (m := Builtin.Tuple.tupleExact _) (wpAny_newObj_type (wpAny_pure ⟨_, rfl, wpAny_pure h⟩) hk))
end
def eRev (f : EF) : EF := fun ρ M => bnd (f ρ M) fun x M1 => match x with
  | .p (.tuple ds) => some (.p (.tuple ds.reverse), M1)
  | .p (.list ds) => some (.p (.list ds.reverse), M1)
  | .ob r => match M1[r]? with
    | some ds => some (.p (.list ds.reverse), M1)
    | none => none
  | _ => none
theorem ae_rev {X : Cx} {P : Par} {ex : Expr} {f : EF} {k : Nat} {p1 p2 p3 pos : Pos} (he : PE X ex (T P f)) (hK : X.K = P.K := by rfl) : PE X (.Subscript ex (.Slice none none (some (.UnaryOp .USub (.Constant (.int 1) k p1) p2)) p3) pos) (T P (eRev f)) := by
  refine ⟨fun pins s σ H Q I ⟨ρ, M, m, z, M', hs, hm, e, kk⟩ => ?_⟩
  obtain ⟨x, M1, e1, e⟩ := bnd_eq e
  refine Subscript_ (thn (he.run pins s σ H (fun v H1 => ∃ m1, Ev m m1 H H1 ∧ RV P m1 H1 x v ∧ RM P m1 H1 M1) I ⟨ρ, M, m, x, M1, hs, hm, e1, fun v m1 H1 a b c => ⟨m1, a, b, c⟩⟩) fun v s1 ⟨u, H1, I1, r1, m1, ev1, rv1, rm1⟩ => ?_)
  refine wpAny_Slice (thn (po_none.run pins s1 σ H1 (fun o H2 => o = none ∧ H2 = H1) I1 ⟨rfl, rfl⟩) fun vl s2 ⟨l, H2, I2, pl, el, e2⟩ => ?_)
  subst el e2
  refine thn (po_none.run pins s2 σ H2 (fun o H3 => o = none ∧ H3 = H2) I2 ⟨rfl, rfl⟩) fun vu s3 ⟨u3, H3, I3, pu, eu, e3⟩ => ?_
  subst eu e3
  refine thn ((po_some (pe_un un_neg pe_int)).run pins s3 σ H3 (fun o H4 => o = some (-1) ∧ H4 = H3) I3 ⟨1, rfl, -1, rfl, rfl, rfl⟩) fun vs s4 ⟨o, H4, I4, ps, eo, e4⟩ => ?_
  subst eo e4
  have I5 : Inv X pins σ H4 { s4 with heap := s4.heap.push { cls := .type "slice", data := .fields #[vl, vu, vs] } } := I4.kept (t' := s4.toks) fun b ob q => Heap.get?_push_of_some _ q
  have isl := Heap.IsSliceOf.new s4.heap vl vu vs
  have kR : ∀ (xs : List V) (ds : List PyData) (a : Addr), u = .ref a → SqL X.K H4 a xs → DqAll P.K (msk m1 H4) xs ds → some (Val.p (.list ds.reverse), M1) = some (z, M') → wpAny (model X.prog X.w) X.A (subscriptTail ex (.Slice none none (some (.UnaryOp .USub (.Constant (.int 1) k p1) p2)) p3) v (.ref s4.heap.objs.size)) (EP X pins σ Q) X.xe { s4 with heap := s4.heap.push { cls := .type "slice", data := .fields #[vl, vu, vs] } } := fun xs ds a ea hx hd e => by
    subst ea
    cases r1
    obtain ⟨its, r, ht, hz⟩ := I5.list hx
    have hlen := r.length
    refine tail_any (ops := [.ref a, .ref s4.heap.objs.size]) ht.isList.typeIs (PySem.slot_list_getitem.lookup) ?_ (by with_unfolding_all rfl)
    refine wpAny_getItem_list_slice ht.isList isl pl pu ps (by decide) ?_ (by rw [List.size_toArray]; omega)
    rw [PySem.W.krv_pick]
    have hf := I5.hok.fresh (Nat.le_refl _)
    refine ⟨.ref _, _, I5.laid (t' := s4.toks) (o := .lst xs.reverse) (fun b ob q => Heap.get?_push_of_some _ q) (Nat.le_refl _) ?_, rfl, kl rm1 e (fun w m' H' ev' => kk w m' H' (ev1.trans ev')) (dpa_rev hd) hf⟩
    exact ⟨by rw [List.length_reverse]; exact hz, _, 0, r.reverse, Heap.get?_push_size _ rfl⟩
  split at e
  · rename_i ds
    obtain ⟨a, xs, rfl, hx, hd⟩ := rv_tup rv1
    cases r1
    obtain ⟨its, r, ht, hz⟩ := I5.tuple (by rw [hK]; exact sqT_of hx)
    have hlen := r.length
    show wpAny (model X.prog X.w) X.A (subscriptTail ex (.Slice none none (some (.UnaryOp .USub (.Constant (.int 1) k p1) p2)) p3) (.ref a) (.ref s4.heap.objs.size)) (EP X pins σ Q) X.xe { s4 with heap := s4.heap.push { cls := .type "slice", data := .fields #[vl, vu, vs] } }
    refine tail_any (ops := [.ref a, .ref s4.heap.objs.size]) ht.typeIs PyProof.Rows.slot_tuple_getitem.lookup ?_ (by with_unfolding_all rfl)
    have hf := I5.hok.fresh (Nat.le_refl _)
    refine getItem_tuple_rev ht isl pl pu ps ⟨.ref _, _, I5.laid (t' := s4.toks) (o := .tup xs.reverse) (fun b ob q => Heap.get?_push_of_some _ q) (Nat.le_refl _) ⟨by rw [List.length_reverse]; exact hz, _, r.reverse, IsTup.new _ _⟩, rfl, kt rm1 e (fun w m' H' ev' => kk w m' H' (ev1.trans ev')) (dpa_rev hd) hf⟩ (by rw [List.size_toArray]; omega)
  · rename_i ds
    obtain ⟨a, xs, rfl, hx, hd⟩ := rv_lst rv1
    exact kR xs _ a rfl (.inl (rd_of hx)) hd e
  · rename_i r
    split at e
    · rename_i ds hM
      obtain ⟨a, ys, xs, rfl, hr, hM2, hH, hd⟩ := rv_ob rm1 rv1
      rw [hM] at hM2
      cases hM2
      exact kR xs _ a rfl (.inl (.inl hH)) hd e
    · cases e
  · cases e
end AX

namespace AX
open PySem PySem.Spec PyProof.Rows L2

/-! ### functions as values: called by a name -/
/-- whatever P takes for a function runs so in X -/
structure CloOk (X : Cx) (P : Par) : Prop where
  fnAt : ∀ (a : Addr) (H0 : Hp) (g), P.fn a H0 g → ∀ (pins : List (Addr × Obj)) (σ : Sl) (H : Hp) (s : Shared) (m : Mw), Inv X pins σ H s → Same H0 (msk m H) → PySem.W.FnAt a s.heap
  run : ∀ (a : Addr) (H0 : Hp) (g), P.fn a H0 g → ∀ (pins : List (Addr × Obj)) (σ : Sl) (H : Hp) (s : Shared) (m : Mw) (M : Sto) (us : List Value) (vs : List V) (ds : List PyData) (d : PyData) (Q : VK), Inv X pins σ H s → RM P m H M → Same H0 (msk m H) →
    DqAll P.K (msk m H) vs ds → Vals vs us → g ds = some d → (∀ w m' H', Ev m m' H H' → RV P m' H' (.p d) w → RM P m' H' M → Q w H') → wpAny (model X.prog X.w) X.A (PySem.call (.ref a) us []) (EP X pins σ Q) X.xe s
def eCv (i : Nat) (fr : AF) : EF := fun ρ M => bnd (fr ρ M) fun xs M1 => match ρ[i]?, pures xs with
  | some (some (.clo g)), some ds => (g ds).map fun d => (.p d, M1)
  | _, _ => none
theorem ae_cv {X : Cx} {P : Par} {a : Expr} {es : List Expr} {fr : AF} {pf pos : Pos} {x : Str} (i : Nat) (C : CloOk X P) (ha : PA X (a :: es) (TAr P fr)) (hN : X.N[i]? = some x := by rfl) (hv : Vis X.env.scope x := by first | exact Or.inl rfl | exact Or.inr (Or.inl rfl) | exact Or.inr (Or.inr rfl)) (hd : (x == ("__debug__" : Str)) = false := by decide) (hcd : (x == ("__classdict__" : Str)) = false := by decide)
    (he : starEach (a :: es) X.env = (false, eval a X.env) :: starEach es X.env := by rfl) (hpl : (backTo pos (starEach es X.env)).any (·.1) = false := by rfl) : PE X (.Call (.Name x pf) (a :: es) [] pos) (T P (eCv i fr)) := by
  refine ⟨fun pins s σ H Q I ⟨ρ, M, m, z, M', hs, hm, e, kk⟩ => ?_⟩
  obtain ⟨xs, M1, e1, e⟩ := bnd_eq e
  split at e
  · rename_i g ds hg hp
    obtain ⟨d, hd1, hd2⟩ := Option.map_eq_some_iff.mp e
    cases hd2
    obtain ⟨v, hσ, ad, H0, rfl, sm, hfn⟩ := hs.at_ i _ hg
    refine wpAny_Call_Name_kw (thn ((pe_var (pos := pf) hN hv hd hcd).run pins s σ H (fun v H1 => v = .ref ad ∧ H1 = H) I ⟨.ref ad, hσ, rfl, rfl⟩) fun u s1 ⟨v, H1, I1, r1, q1⟩ => ?_)
    obtain ⟨ev, eH⟩ := q1
    subst ev
    rw [eH] at I1
    obtain rfl : u = Value.ref ad := r1
    refine PySem.W.callWith_F (first := []) (C.fnAt ad H0 g hfn pins σ H s1 m I1 sm) (thn (ha.run pos pins s1 σ H (fun vs H2 => ∃ m2, Ev m m2 H H2 ∧ RVs P m2 H2 xs vs ∧ RM P m2 H2 M') I1 ⟨ρ, M, m, xs, M', hs, hm, e1, fun vs m2 H2 a b c => ⟨m2, a, b, c⟩⟩) fun us s2 ⟨vs, H2, I2, r, m2, ev2, rv2, rm2⟩ => ⟨C.fnAt ad H0 g hfn pins σ H2 s2 m2 I2 (sm.trans ev2.same), ?_⟩) he hpl
    show wpAny _ _ (PySem.call (.ref ad) us []) _ _ _
    exact C.run ad H0 g hfn pins σ H2 s2 m2 M' us vs ds d Q I2 rm2 (sm.trans ev2.same) (rv2.pure hp) r hd1 fun w m' H' ev rv rm => kk w m' H' (ev2.trans ev) rv rm
  · cases e

/-! ### lambdas: the object -/
/-- a lambda's words, its captured cells, its code object -/
structure LF where
  qual : Str
  params : Arguments
  body : Expr
  scope : Scope
  cl : List (Str × Addr)
  c : Addr
/-- the frame's words alone (as of a nested def) -/
abbrev LF.nf (L : LF) : NdefX.NF := ⟨"<lambda>", L.qual, L.params, [], L.scope, L.cl, L.c⟩
abbrev LF.obj (L : LF) (pm ctv : Value) : Obj := PySem.W.kla_obj "<lambda>" L.qual L.params L.body L.scope L.cl pm L.c ctv
def LamO (f : Addr) (L : LF) : HO := .ext fun h => ∃ pm ctv, h.get? f = some (L.obj pm ctv)
theorem lamO_ne {f : Addr} {L : LF} (ps : Array Value) : LamO f L ≠ .tbl ps := fun z => by
  unfold LamO at z
  cases z
theorem lamO_at {Pr : Program} {w : World} {H : Hp} {h : Heap} {f : Addr} {L : LF} (hok : HOk Pr w H h) (e : H f = some (LamO f L)) : ∃ pm ctv, h.get? f = some (L.obj pm ctv) := (hok f _ e).1
section
variable {X : Cx} {pins : List (Addr × Obj)} {σ : Sl} {H : Hp} {s : Shared}
theorem inv_lam {L : LF} {pm ctv : Value} {t' : Nat} (I : Inv X pins σ H s) : Inv X pins σ (upd H s.heap.objs.size (LamO s.heap.objs.size L)) { s with heap := s.heap.push (L.obj pm ctv), toks := t' } := by
  refine I.laid (a := s.heap.objs.size) (fun b u e => Heap.get?_push_of_some _ e) (Nat.le_refl _) ?_
  have e : (s.heap.push (L.obj pm ctv)).get? s.heap.objs.size = some (L.obj pm ctv) := Heap.get?_push_size _ rfl
  exact ⟨⟨pm, ctv, e⟩, ⟨_, e⟩, fun h1 h2 ⟨p, t, z⟩ st => ⟨p, t, st _ z⟩⟩
/-- a lambda is made: its code object new, or found in the maker's table -/
theorem lam_new {Tt : List NdefX.NTab} {nm : Nat → Nat → Str} {c Pt : Addr} {params : Arguments} {body : Expr} {scope : Scope} {pos : Pos} {E : Value → Shared → Prop} {Q : Value → Shared → Prop} (I : Inv X pins σ H s) (TB : LamX.TabB X.base X.mg c Pt) (hcode : X.env.code = .ref c)
    (hm : (Pt, nm) ∈ Tt) (hn : nm pos.line pos.col = X.env.qual ++ "<lambda>") (hu : ∀ p ∈ Tt, p.1 = Pt → p.2 = nm) (hT : NdefX.TabsN Tt H) (hdef : defaultsOf params X.env = ([], [])) (hfree : ∀ y ∈ scope.names, y.2 = .free → ∃ c, X.env.cells.lookup y.1 = some c)
    (h : ∀ (f c' : Addr) (H1 : Hp) (s' : Shared), Inv X pins σ H1 s' → LamX.ExtN H H1 → (∀ b, H1 b = none → H b = none) → NdefX.TabsN Tt H1 → H f = none → H c' = none ∨ H c' = some (LamX.CodeO c' (X.env.qual ++ "<lambda>")) → (∀ b, b ≠ Pt → b ≠ c' → b ≠ f → H1 b = H b) → (∃ ps, H1 Pt = some (.tbl ps)) →
      H1 f = some (LamO f ⟨X.env.qual ++ "<lambda>", params, body, scope, cloFrom X.env.cells scope.names [], c'⟩) → H1 c' = some (LamX.CodeO c' (X.env.qual ++ "<lambda>")) → Q (.ref f) s') :
    wpAny (model X.prog X.w) X.A (eval (.Lambda params body scope pos) X.env) Q E s := by
  obtain ⟨ps, hP, ht, ha⟩ := (show NdefX.TabN H Pt nm from hT _ hm)
  refine PySem.W.kla_eval hdef ?_
  have bP : s.heap.BuiltinsAt X.mg Pt := TB.bm.keeps I.bk
  have hP' : s.heap.get? Pt = some { cls := .none, data := .fields ps } := I.hok Pt _ hP
  cases hc : codeAmong pos ps.toList with
  | none =>
    refine PySem.W.kla_makeFunction (mg := X.mg) (c := c) (P := Pt) (ps := ps) (closure_ok hfree) I.ok.glob (I.mod.glob.keeps I.bk) hcode (TB.code.keeps I.bk) hP' ht hc TB.gP bP fun c' ctv h' tk hx hge hlt hrec htb => ?_
    obtain ⟨c2, oc, vs, t, e2, hoc, hd, hv⟩ := hrec
    cases e2
    have nC : H c' = none := I.hok.fresh hge
    have I1 := LamX.inv_table (t' := tk) (more := #[rawInt pos.line, rawInt pos.col, .ref c']) (h' := h') I hP (fun b o hb e => hx b o hb e) htb hge ⟨oc, vs, t, hoc, hd, hv⟩
    have eL : (ps ++ #[rawInt pos.line, rawInt pos.col, .ref c']).toList = ps.toList ++ [rawInt pos.line, rawInt pos.col, .ref c'] := by simp
    have hE : LamX.ExtN H (upd (upd H Pt (.tbl (ps ++ #[rawInt pos.line, rawInt pos.col, .ref c']))) c' (LamX.CodeO c' (X.env.qual ++ "<lambda>"))) := fun b o e n => by
      rw [upd_ne (ne_of_none e nC), upd_ne (fun z => n ps (Option.some.inj (e.symm.trans (by rw [z]; exact hP))))]
      exact e
    have T1 : NdefX.TabsN Tt (upd (upd H Pt (.tbl (ps ++ #[rawInt pos.line, rawInt pos.col, .ref c']))) c' (LamX.CodeO c' (X.env.qual ++ "<lambda>"))) := fun p hp => by
      by_cases hb : p.1 = Pt
      · rw [hu p hp hb, hb]
        refine ⟨_, by rw [upd_ne (ne_of_none hP nC), upd_same], by rw [eL]; exact PySem.TriplesOk_snoc _ _ _ _ ht, fun p' cv hcv => ?_⟩
        rw [eL] at hcv
        rcases NdefX.among_app2 _ ht hcv with z | ⟨z, z1, z2⟩
        · obtain ⟨c0, e1, e2⟩ := ha p' cv z
          exact ⟨c0, e1, hE _ _ e2 LamX.codeO_ne⟩
        · refine ⟨c', z, ?_⟩
          rw [← z1, ← z2, hn]
          exact upd_same
      · obtain ⟨ps', a1, a2, a3⟩ := hT p hp
        refine ⟨ps', by rw [upd_ne (ne_of_none a1 nC), upd_ne hb]; exact a1, a2, fun p' cv hcv => ?_⟩
        obtain ⟨c0, e1, e2⟩ := a3 p' cv hcv
        exact ⟨c0, e1, hE _ _ e2 LamX.codeO_ne⟩
    have nF := I1.hok.fresh (Nat.le_refl _)
    have I2 := inv_lam (L := ⟨X.env.qual ++ "<lambda>", params, body, scope, cloFrom X.env.cells scope.names [], c'⟩) (pm := (X.mg "__name__").getD .none) (ctv := ctv) (t' := tk) I1
    have nPc : Pt ≠ c' := ne_of_none hP nC
    refine h h'.objs.size c' _ _ I2 (fun b o e n => ?_) (fun b e => NdefX.upd_none (NdefX.upd_none (NdefX.upd_none e))) (T1.ext fun b o e => ?_) (I.hok.fresh (Nat.le_trans hge (Nat.le_of_lt hlt))) (.inl nC) (fun b b1 b2 b3 => ?_) ⟨ps ++ #[rawInt pos.line, rawInt pos.col, .ref c'], ?_⟩ upd_same ?_
    · have e1 := hE b o e n
      exact (upd_ne (ne_of_none e1 nF)).trans e1
    · exact (upd_ne (ne_of_none e nF)).trans e
    · rw [upd_ne b3, upd_ne b2, upd_ne b1]
    · exact (upd_ne (ne_of_none ((upd_ne nPc).trans upd_same) nF)).trans ((upd_ne nPc).trans upd_same)
    · exact (upd_ne (Nat.ne_of_lt hlt)).trans upd_same
  | some cv =>
    obtain ⟨c', e, hco⟩ := ha pos cv hc
    subst e
    rw [hn] at hco
    refine PySem.W.kla_makeFunctionHit (mg := X.mg) (c := c) (P := Pt) (ps := ps) (closure_ok hfree) I.ok.glob (I.mod.glob.keeps I.bk) hcode (TB.code.keeps I.bk) hP' ht hc bP fun ctv h' tk hx hsz => ?_
    have I1 : Inv X pins σ H { s with heap := h', toks := tk } := I.kept hx
    have nF : H h'.objs.size = none := I1.hok.fresh (Nat.le_refl _)
    have I2 := inv_lam (L := ⟨X.env.qual ++ "<lambda>", params, body, scope, cloFrom X.env.cells scope.names [], c'⟩) (pm := (X.mg "__name__").getD .none) (ctv := ctv) (t' := tk) I1
    refine h h'.objs.size c' _ _ I2 (fun b o e n => ?_) (fun b e => NdefX.upd_none e) (hT.ext fun b o e => ?_) nF (.inr hco) (fun b b1 b2 b3 => upd_ne b3) ⟨ps, ?_⟩ upd_same ?_
    · exact (upd_ne (ne_of_none e nF)).trans e
    · exact (upd_ne (ne_of_none e nF)).trans e
    · exact (upd_ne (ne_of_none hP nF)).trans hP
    · exact (upd_ne (ne_of_none hco nF)).trans hco
end
/-! ### .. called -/
section
variable {Pr : Program} {w : World} {K : PySem.W.Frag} {mg : Str → Option Value} {base : Heap} {N ps fr : List Str} {L : LF} {f : Addr} {k : Nat}
/-- its body's context -/
abbrev Lx (Pr : Program) (w : World) (K : PySem.W.Frag) (mg : Str → Option Value) (base : Heap) (N : List Str) (L : LF) (f : Addr) (A : Around) (outer : List Env) (s : Shared) (H : Hp) (E : XK) : Cx := (NdefX.ncx CX0 Pr w K mg base N L.nf f A outer s H E)
theorem lam_run (S : NdefX.NScope N ps fr L.scope) (hb : ∀ (pm ctv : Value) (us : List Value), us.length = ps.length → bindArgs (PySem.W.kla_fn "<lambda>" L.qual L.params L.body L.scope L.cl pm (.ref L.c) ctv) ⟨us, []⟩ = pure (ps.zip us))
    {A : Around} {outer : List Env} {s : Shared} {H : Hp} {us : List Value} {vs : List V} {ws : List (Option V)} {Q : VK} {E : XK} {t : TE} (hr : Room (k + 1) A) (e0 : Env0 Pr w K mg base A outer s H) (hf : H f = some (LamO f L)) (hc : H L.c = some (LamX.CodeO L.c L.qual))
    (C : NdefX.CellsAt L.cl fr ws s.heap H) (r : Vals vs us) (hl : vs.length = ps.length) (hbody : PE (Lx Pr w K mg base N L f A outer s H E) L.body t) (q : t (NdefX.startF N vs ws) H Q) :
    codeAny (model Pr w) A (.call (.ref f) ⟨us, []⟩) (CR CX0 outer Pr w H s Q E) s := by
  have lim : s.heap.NoLimit := e0.mod.nolimit.keeps fun b o e => (e0.bs b o e).1
  obtain ⟨pm, ctv, ho⟩ := lamO_at e0.hok hf
  refine PySem.W.kla_callFunE hr.depth ho rfl S.co S.gen rfl (NdefX.codeO_at e0.hok hc) ?_
  rw [hb pm ctv us (by rw [← r.length]; exact hl)]
  refine wpAny_pure (wpAny_newFunctionEnv S.nocell (fun ⟨n, _⟩ hy => S.par n (List.of_mem_zip hy).1) (fun h₁ hns hsb => ⟨lim.fresh _ hsb, ?_⟩) S.kind)
  have kp : ∀ b o, s.heap.get? b = some o → h₁.get? b = some o := fun b o e => hsb.extBut b o (Nat.ne_of_lt (Heap.lt_size e)) (Heap.get?_push_of_some _ e)
  have J : Inv (Lx Pr w K mg base N L f A outer s H E) [] (NdefX.startF N vs ws) H { s with heap := h₁, toks := s.toks + (ps.zip us).length } := NdefX.inv_startN (F := L.nf) S hr.hd e0 hl r C hns kp
  show codeAny _ _ (.expr L.body (NdefX.envF L.nf f s.heap.objs.size)) _ _
  refine PySem.W.kla_codeExpr (wpAny_mono (hbody.run [] _ (NdefX.startF N vs ws) H Q J q) (fun v s' hq => ?_) fun e s' hq => hq)
  obtain ⟨v', H', J', rv, q'⟩ := hq
  exact ⟨v', H', J'.os, J'.bare, J'.base, J'.hok, rv, q'⟩
end
end AX

namespace AX
open PySem PySem.Spec PyProof.Rows L2

/-! ### a lambda handed to a def -/
/-- all lists that change hidden -/
def Mw.shut (m : Mw) : Mw := ⟨m.hd ++ m.m, []⟩
theorem shut_all (m : Mw) : m.shut.all = m.all := by unfold Mw.shut Mw.all; simp
theorem shut_msk (m : Mw) (H : Hp) : msk m.shut H = msk m H := by
  funext a
  unfold msk
  rw [shut_all]
section
variable {P : Par} {m m1 : Mw} {H H1 H2 : Hp} {M M1 : Sto}
theorem RM.shut (h : RM P m H M) : RM P m.shut H [] := by
  refine ⟨List.nodup_nil, fun a z => absurd z (by simp [Mw.shut]), rfl, fun i a q => absurd (show ([] : List Addr)[i]? = some a from q) (by simp), fun a ha => ?_, h.tb⟩
  rcases List.mem_append.mp (show a ∈ m.hd ++ m.m from ha) with z | z
  · exact h.hid a z
  · exact h.mem z
/-- what is done behind shut lists leaves them -/
theorem RM.open' (h : RM P m H M) (e : Ev m.shut m1 H H1) (rm : RM P m1 H1 M1) : Ev m m H H1 ∧ RM P m H1 M ∧ Same (msk m1 H1) (msk m H1) := by
  obtain ⟨l, rfl⟩ := e.pre
  have sub : Same (msk ⟨m.shut.hd, m.shut.m ++ l⟩ H1) (msk m H1) := fun a o q => by
    obtain ⟨q1, q2, q3⟩ := msk_some q
    refine msk_of q1 (fun z => q2 ?_) q3
    show a ∈ (m.hd ++ m.m) ++ ([] ++ l)
    exact List.mem_append_left _ z
  have sm : Same (msk m H) (msk m H1) := by
    have := e.same
    rw [shut_msk] at this
    exact this.trans sub
  refine ⟨⟨⟨[], by simp⟩, sm, fun a ha => e.hid a (List.mem_append_left _ ha)⟩, ⟨h.nd, h.dis, h.len, fun i a q => ?_, fun a ha => ?_, rm.tb⟩, sub⟩
  · obtain ⟨xs, vs, h1, h2, h3⟩ := h.at_ i a q
    exact ⟨xs, vs, h1, by rw [e.hid a (List.mem_append_right _ (List.mem_of_getElem? q))]; exact h2, dpAll_mono sm _ _ h3⟩
  · rw [e.hid a (List.mem_append_left _ ha)]; exact h.hid a ha
/-- a lambda's making moves nothing that is known -/
theorem lam_ev {Pt f c' : Addr} {q : Str} (rm : RM P m H M) (hf : H f = none) (hc : H c' = none ∨ H c' = some (LamX.CodeO c' q)) (hc2 : H2 c' = some (LamX.CodeO c' q)) (hb : ∀ b, b ≠ Pt → b ≠ c' → b ≠ f → H2 b = H b) (hP : ∃ ps, H Pt = some (.tbl ps)) (hT : NdefX.TabsN P.tb H2) : Ev m m H H2 ∧ RM P m H2 M := by
  obtain ⟨ps, hP⟩ := hP
  have keep : ∀ b o, H b = some o → (∀ qs, o ≠ .tbl qs) → H2 b = some o := fun b o e n => by
    by_cases h1 : b = Pt
    · subst h1
      rw [hP] at e
      exact absurd (Option.some.inj e).symm (n ps)
    · by_cases h2 : b = c'
      · subst h2
        rcases hc with z | z
        · rw [z] at e; cases e
        · rw [z] at e
          rw [hc2]
          exact e
      · by_cases h3 : b = f
        · subst h3
          rw [hf] at e; cases e
        · rw [hb b h1 h2 h3]; exact e
  have sm : Same (msk m H) (msk m H2) := fun a o q => by
    obtain ⟨q1, q2, q3⟩ := msk_some q
    exact msk_of (keep a o q1 q3) q2 q3
  have kl : ∀ a xs, H a = some (.lst xs) → H2 a = H a := fun a xs e => by
    rw [e]
    exact keep a _ e (fun _ z => by cases z)
  have hh : ∀ a ∈ m.hd, H2 a = H a := fun a ha => by
    obtain ⟨xs, e⟩ := rm.hid a ha
    exact kl a xs e
  refine ⟨⟨⟨[], by simp⟩, sm, hh⟩, ⟨rm.nd, rm.dis, rm.len, fun i a q => ?_, fun a ha => by rw [hh a ha]; exact rm.hid a ha, hT⟩⟩
  obtain ⟨xs, vs, h1, h2, h3⟩ := rm.at_ i a q
  exact ⟨xs, vs, h1, by rw [kl a vs h2]; exact h2, dpAll_mono sm _ _ h3⟩
end
/-- the same relations under another reading of functions -/
def Par.fns (P : Par) (fn : Addr → Hp → (List PyData → Option PyData) → Prop) : Par := ⟨P.K, fn, P.tb⟩
theorem rm_fns {P : Par} {fn} {m : Mw} {H : Hp} {M : Sto} (h : RM P m H M) : RM (P.fns fn) m H M := ⟨h.nd, h.dis, h.len, h.at_, h.hid, h.tb⟩
theorem rm_fns' {P : Par} {fn} {m : Mw} {H : Hp} {M : Sto} (h : RM (P.fns fn) m H M) : RM P m H M := ⟨h.nd, h.dis, h.len, h.at_, h.hid, h.tb⟩
def notClo : Val → Bool
  | .clo _ => false
  | _ => true
theorem rv_fns {P : Par} {fn} {m : Mw} {H : Hp} {x : Val} {v : V} (hx : notClo x = true) (h : RV P m H x v) : RV (P.fns fn) m H x v := by
  cases x with
  | clo g => cases hx
  | _ => exact h
theorem rv_fns' {P : Par} {fn} {m : Mw} {H : Hp} {x : Val} {v : V} (hx : notClo x = true) (h : RV (P.fns fn) m H x v) : RV P m H x v := by
  cases x with
  | clo g => cases hx
  | _ => exact h
/-- what a lambda does: gb in the slots of its parameters and of the names that it captured (js: their slots at the maker) -/
def cap1 : Option (Option Val) → Option Val
  | some (some (.p d)) => some (.p d)
  | _ => none
def capR (js : List Nat) (ρ : Rho) : Rho := js.map fun j => cap1 ρ[j]?
def lamG (np : Nat) (js : List Nat) (gb : EF) (ρ : Rho) : List PyData → Option PyData := fun ds => if ds.length = np then match gb (ds.map (fun d => some (.p d)) ++ capR js ρ) [] with
  | some (.p d, _) => some d
  | _ => none
  else none
/-- a def that is handed a function, by its body -/
structure HoG (Pr : Program) (w : World) (K : PySem.W.Frag) (mg : Str → Option Value) (base : Heap) (k : Nat) (x : Str) (n nn : Nat) (f : SF) : Prop where
  ex : ∃ (ad : Addr) (fd : FuncData) (nm qual : Str) (params : Arguments) (body : List Stmt) (scope : Scope) (N ps : List Str), FunD K nm qual params body scope [] [] ad fd ∧ mg x = some (.ref ad) ∧ Binds K fd ps [] ∧ FnScope N ps scope ∧ ps.length = n ∧ N.length = nn ∧
    ∀ (P : Par) (cdv : Value) (A : Around) (outer : List Env) (s : Shared) (H : Hp) (E : XK), P.K = K → Room k (A.deeper (envOfC qual scope s.heap.objs.size ad cdv)) → A.guards = some [] → CloOk (cxOf CX0 Pr w K mg base N qual scope ad cdv A outer s H E).nox P →
      PSs (cxOf CX0 Pr w K mg base N qual scope ad cdv A outer s H E).nox body (TSt P f)
/-- f(e, lambda ..: ..) -/
def eHo (fn : Fn) (fa : EF) (h : Rho → List PyData → Option PyData) : EF := fun ρ M => bnd (fa ρ M) fun x M1 => if notClo x then bnd (fn [x, .clo (h ρ)] M1) fun z M2 => if notClo z then some (z, M2) else none else none
end AX

namespace AX
open PySem PySem.Spec PyProof.Rows L2

/-- the table at Pt is one of those that are kept, under its name -/
def TbOk (tb : List NdefX.NTab) (Pt : Addr) (nm : Nat → Nat → Str) : Prop := (Pt, nm) ∈ tb ∧ ∀ p ∈ tb, p.1 = Pt → p.2 = nm
/-- the reading of a lambda: T the tables, the new function known -/
def tLam (Tt : List NdefX.NTab) (Pt : Addr) (mk : Addr → LF) : TE := fun σ H Q => NdefX.TabsN Tt H ∧ ∀ (f c' : Addr) (H1 : Hp), H f = none → H c' = none ∨ H c' = some (LamX.CodeO c' (mk c').qual) → H1 c' = some (LamX.CodeO c' (mk c').qual) → (∀ b, b ≠ Pt → b ≠ c' → b ≠ f → H1 b = H b) → (∃ ps, H Pt = some (.tbl ps)) → NdefX.TabsN Tt H1 → H1 f = some (LamO f (mk c')) → Q (.ref f) H1
theorem pe_lam {X : Cx} {Tt : List NdefX.NTab} {nm : Nat → Nat → Str} {c Pt : Addr} {params : Arguments} {body : Expr} {scope : Scope} {pos : Pos} (TB : LamX.TabB X.base X.mg c Pt) (hcode : X.env.code = .ref c)
    (hm : (Pt, nm) ∈ Tt) (hn : nm pos.line pos.col = X.env.qual ++ "<lambda>") (hu : ∀ p ∈ Tt, p.1 = Pt → p.2 = nm) (hdef : defaultsOf params X.env = ([], [])) (hfree : ∀ y ∈ scope.names, y.2 = .free → X.env.scope.names.lookup y.1 = some .cell ∨ X.env.scope.names.lookup y.1 = some .free) :
    PE X (.Lambda params body scope pos) (tLam Tt Pt fun c' => ⟨X.env.qual ++ "<lambda>", params, body, scope, cloFrom X.env.cells scope.names [], c'⟩) := by
  refine ⟨fun pins s σ H Q I ⟨hT, hq⟩ => ?_⟩
  obtain ⟨ps, hP, _⟩ := (show NdefX.TabN H Pt nm from hT _ hm)
  refine lam_new I TB hcode hm hn hu hT hdef (fun y hy e => (hfree y hy e).elim (fun z => I.ok.has _ (.inl z)) fun z => I.ok.has _ (.inr z)) fun f c' H1 s' I1 _ _ hT1 hf hc hb _ h1 h2 => ?_
  exact ⟨.ref f, H1, I1, rfl, hq f c' H1 hf hc h2 hb ⟨ps, hP⟩ hT1 h1⟩
section
variable {X : Cx} {P : Par} {pf pos lpos : Pos} {a : Expr} {fa gb : EF} {x : Str} {k j nn : Nat} {f : SF} {nm : Nat → Nat → Str} {c Pt : Addr} {params : Arguments} {body : Expr} {scope : Scope} {Nl psl frl : List Str} {js : List Nat}
theorem caps_rs {m : Mw} {H : Hp} {σ : Sl} {ρ : Rho} (hs : RS P m H σ ρ) (js : List Nat) : ∀ (i : Nat) (y : Val), (capR js ρ)[i]? = some (some y) → ∃ v, (js.map (NdefX.slotAt σ))[i]? = some (some v) ∧ RV P m H y v := fun i y e => by
  unfold capR at e
  rw [List.getElem?_map] at e
  obtain ⟨q, h1, h2⟩ := Option.map_eq_some_iff.mp e
  rw [List.getElem?_map, h1]
  unfold cap1 at h2
  split at h2
  · rename_i d hd
    cases h2
    obtain ⟨v, h3, h4⟩ := hs.at_ q _ hd
    exact ⟨v, by rw [Option.map_some, NdefX.slotAt_of h3], h4⟩
  · cases h2
theorem ae_ho (G : HoG X.prog X.w P.K X.mg X.base k x 2 nn f) (hr : Room (k + 1) X.A) (hrj : j + 1 ≤ k) (hgd : X.A.guards = some []) (ha : PE X a (T P fa)) (TB : LamX.TabB X.base X.mg c Pt) (hcode : X.env.code = .ref c) (hmu : TbOk P.tb Pt nm) (hn : nm lpos.line lpos.col = X.env.qual ++ "<lambda>")
    (S : NdefX.NScope Nl psl frl scope) (hNl : Nl = psl ++ frl) (hnd : NdefX.ndefB X.env.scope scope frl = true) (hjs : js.map (fun j => X.N[j]?) = frl.map some)
    (hbl : ∀ (cl : List (Str × Addr)) (c' : Addr) (q : Str) (pm ctv : Value) (us : List Value), us.length = psl.length → bindArgs (PySem.W.kla_fn "<lambda>" q params body scope cl pm (.ref c') ctv) ⟨us, []⟩ = pure (psl.zip us))
    (hb : ∀ (cl : List (Str × Addr)) (ad c' : Addr) (A : Around) (outer : List Env) (s : Shared) (H : Hp) (E : XK), Room j (A.deeper (NdefX.envF (LF.nf ⟨X.env.qual ++ "<lambda>", params, body, scope, cl, c'⟩) ad s.heap.objs.size)) → A.guards = some [] →
      PE (Lx X.prog X.w P.K X.mg X.base Nl ⟨X.env.qual ++ "<lambda>", params, body, scope, cl, c'⟩ ad A outer s H E) body (T P gb))
    (hg : Gl X x := by rfl) (hdb : (x == ("__debug__" : Str)) = false := by decide) (hK : X.K = P.K := by rfl) (hdef : defaultsOf params X.env = ([], []) := by rfl)
    (he : starEach (a :: [.Lambda params body scope lpos]) X.env = (false, eval a X.env) :: starEach [.Lambda params body scope lpos] X.env := by rfl) (he2 : starEach (.Lambda params body scope lpos :: []) X.env = (false, eval (.Lambda params body scope lpos) X.env) :: starEach [] X.env := by rfl)
    (hpl : (backTo pos (starEach [.Lambda params body scope lpos] X.env)).any (·.1) = false := by rfl)
    {np : Nat} (hnp : psl.length = np := by rfl) : PE X (.Call (.Name x pf) [a, .Lambda params body scope lpos] [] pos) (T P (eHo (fnWith finF 2 nn f) fa (lamG np js gb))) := by
  subst hnp
  obtain ⟨hm, hu⟩ := hmu
  obtain ⟨ad, fd, nm2, qual, params2, body2, scope2, N2, ps2, F, hmg, hbd, S2, hps, hN2, hbody⟩ := G.ex
  have hfree := NdefX.ndef_free hnd
  refine ⟨fun pins s σ H Q I ⟨ρ, M, m, z, M', hs, hm0, e, kk⟩ => ?_⟩
  obtain ⟨v, M1, e1, e⟩ := bnd_eq e
  split at e
  · rename_i hv
    obtain ⟨z2, M2, e2, e⟩ := bnd_eq e
    split at e
    · rename_i hz2
      cases e
      refine wpAny_Call_Name_kw (ld_glob I hg hmg ?_ hdb)
      have hlam := pe_lam (X := X) (Tt := P.tb) (pos := lpos) (body := body) TB hcode hm hn hu hdef hfree
      have hargs := pa_cons ha (pa_cons hlam pa_nil he2) he
      refine PySem.W.callWith_K (h₀ := X.base) I.ok.mod.kin (by rw [hK]; exact F.kp) (thn (hargs.run pos pins s σ H (fun vs H2 => ∃ (m1 : Mw) (H1 : Hp) (u : V) (fl c' : Addr), vs = [u, .ref fl] ∧ Ev m m1 H H2 ∧ RV P m1 H2 v u ∧ RM P m1 H2 M1 ∧
          fl ∉ m1.all ∧ c' ∉ m1.all ∧ H2 fl = some (LamO fl ⟨X.env.qual ++ "<lambda>", params, body, scope, cloFrom X.env.cells scope.names [], c'⟩) ∧ H2 c' = some (LamX.CodeO c' (X.env.qual ++ "<lambda>"))) I
          ⟨ρ, M, m, v, M1, hs, hm0, e1, fun u m1 H1 ev1 rv1 rm1 => ⟨rm1.tb, fun fl c' H2 hf hc hc2 hbb hPt hT2 hf2 => ?_⟩⟩) fun us s2 ⟨vs, H2, I2, r, m1, H1, u, fl, c', hvs, ev2, rv2, rm2, nfl, nc', hf2, hc2⟩ => ⟨I2.kIn, ?_⟩) he hpl
      · obtain ⟨ev2, rm2⟩ := lam_ev rm1 hf hc hc2 hbb hPt hT2
        have nfl : fl ∉ m1.all := rm1.notin hf
        have nc' : c' ∉ m1.all := by
          rcases hc with z | z
          · exact rm1.notin z
          · intro hin
            rcases List.mem_append.mp hin with hin | hin
            · obtain ⟨xs, q⟩ := rm1.hid c' hin
              rw [z] at q
              unfold LamX.CodeO at q
              cases q
            · obtain ⟨xs, q⟩ := rm1.mem hin
              rw [z] at q
              unfold LamX.CodeO at q
              cases q
        exact ⟨m1, H1, u, fl, c', rfl, ev1.trans ev2, rv1.mono ev2, rm2, nfl, nc', hf2, hc2⟩
      subst hvs
      -- the call
      let g : List PyData → Option PyData := lamG psl.length js gb ρ
      let fn' : Addr → Hp → (List PyData → Option PyData) → Prop := fun b H0 g' => b = fl ∧ H0 = msk m1 H2 ∧ g' = g
      have sub : ∀ b o, msk m1 H2 b = some o → ∀ m' H', Same (msk m1 H2) (msk m' H') → H' b = some o := fun b o q m' H' sm => (msk_some (sm b o q)).1
      have mf : msk m1 H2 fl = some (LamO fl ⟨X.env.qual ++ "<lambda>", params, body, scope, cloFrom X.env.cells scope.names [], c'⟩) := msk_of hf2 nfl lamO_ne
      have mc : msk m1 H2 c' = some (LamX.CodeO c' (X.env.qual ++ "<lambda>")) := msk_of hc2 nc' LamX.codeO_ne
      obtain ⟨oc, od, dV, kV, doc, pm, an, cdv, ct, osl, rfl, lk, hcd, hD, hKw⟩ := F.ex
      have caps := NdefX.Caps.made I2.ok hfree (NdefX.ndef_fr hnd) hjs
      have cells := NdefX.cells_of I2 caps
      rw [← hK] at lk hcd
      have hrs : RS P m1 H2 σ ρ := hs.mono ev2
      have code : codeAny (model X.prog X.w) X.A (.call (.ref ad) ⟨us, []⟩) (CR CX0 X.stack X.prog X.w H2 s2 Q E0) s2 := by
        have hus : us.length = 2 := by rw [← r.length]; rfl
        have bd := hbd s2 us (by rw [← hK]; exact I2.kIn) (by rw [List.append_nil, hus, hps])
        rw [List.append_nil] at bd
        refine LamX.run_ofS lk hcd S2 hr I2.env0 bd r (by rw [hps]; rfl) fun hr' => ?_
        have C : CloOk (cxOf CX0 X.prog X.w X.K X.mg X.base N2 qual scope2 ad cdv X.A X.stack s2 H2 E0).nox (P.fns fn') := by
          have hLF : ∀ (pins : List (Addr × Obj)) (σZ : Sl) (HZ : Hp) (sZ : Shared) (mZ : Mw), Inv (cxOf CX0 X.prog X.w X.K X.mg X.base N2 qual scope2 ad cdv X.A X.stack s2 H2 E0).nox pins σZ HZ sZ → Same (msk m1 H2) (msk mZ HZ) → HZ fl = some (LamO fl ⟨X.env.qual ++ "<lambda>", params, body, scope, cloFrom X.env.cells scope.names [], c'⟩) ∧ HZ c' = some (LamX.CodeO c' (X.env.qual ++ "<lambda>")) := fun _ _ HZ _ mZ _ sm => ⟨sub fl _ mf mZ HZ sm, sub c' _ mc mZ HZ sm⟩
          refine ⟨fun b H0 g' ⟨eb, eH, eg⟩ pinsZ σZ HZ sZ mZ IZ sm => ?_, fun b H0 g' ⟨eb, eH, eg⟩ pinsZ σZ HZ sZ mZ MZ usZ vsZ ds d QZ IZ rmZ sm hds rZ hgd' kZ => ?_⟩
          · subst eb eH
            obtain ⟨pm2, ctv2, ho⟩ := lamO_at IZ.hok (hLF pinsZ σZ HZ sZ mZ IZ sm).1
            exact ⟨_, _, _, _, ho⟩
          · subst eb eH eg
            obtain ⟨hfZ, hcZ⟩ := hLF pinsZ σZ HZ sZ mZ IZ sm
            have hgd'' : lamG psl.length js gb ρ ds = some d := hgd'
            unfold lamG at hgd''
            split at hgd''
            · rename_i hlen
              split at hgd''
              · rename_i d0 Me heq
                cases hgd''
                -- the captured cells stand
                have cellsZ : NdefX.CellsAt (cloFrom X.env.cells scope.names []) frl (js.map (NdefX.slotAt σ)) sZ.heap HZ := by
                  have kp : ∀ y c0, (cloFrom X.env.cells scope.names []).lookup y = some c0 → ∀ v0, s2.heap.IsCell c0 v0 → sZ.heap.IsCell c0 v0 := fun y c0 ec v0 ⟨o, ho, hd0⟩ => by
                    obtain ⟨sl, q⟩ := IZ.base.any ho (cells.all y c0 ec).1 (fun z => absurd (show c0 ∈ ([] : List Addr) from z) (by simp))
                    exact ⟨_, q, hd0⟩
                  refine ⟨cells.len, fun y c0 ec => ?_, cells.inj, fun i y ey => ?_⟩
                  · obtain ⟨n0, v0, z0⟩ := cells.all y c0 ec
                    refine ⟨?_, v0, kp y c0 ec v0 z0⟩
                    obtain ⟨o, ho, _⟩ := z0
                    exact IZ.base.free c0 o ho n0 (fun z => absurd (show c0 ∈ ([] : List Addr) from z) (by simp))
                  · obtain ⟨c0, hc0, hv0⟩ := cells.has i y ey
                    refine ⟨c0, hc0, fun v0 ev0 => ?_⟩
                    obtain ⟨u0, r0, z0⟩ := hv0 v0 ev0
                    exact ⟨u0, r0, kp y c0 hc0 _ z0⟩
                have hvl : vsZ.length = psl.length := by rw [dpa_len hds, hlen]
                have rs0 : RS P mZ.shut HZ (NdefX.startF Nl vsZ (js.map (NdefX.slotAt σ))) (ds.map (fun d => some (.p d)) ++ capR js ρ) := by
                  have hcl : (js.map (NdefX.slotAt σ)).length = frl.length := cells.len
                  have hjl : js.length = frl.length := by rw [← hcl, List.length_map]
                  have e0 : NdefX.startF Nl vsZ (js.map (NdefX.slotAt σ)) = vsZ.map some ++ js.map (NdefX.slotAt σ) := by
                    unfold NdefX.startF
                    rw [hNl, List.length_append, hvl, hcl, show psl.length + frl.length - psl.length - frl.length = 0 by omega]
                    simp
                  rw [e0]
                  refine ⟨by simp [capR, dpa_len hds], fun i y ey => ?_⟩
                  by_cases hi : i < ds.length
                  · rw [List.getElem?_append_left (by simpa using hi)] at ey
                    rw [List.getElem?_append_left (by rw [List.length_map, dpa_len hds]; exact hi)]
                    rw [List.getElem?_map] at ey
                    obtain ⟨d1, h1, h2⟩ := Option.map_eq_some_iff.mp ey
                    cases h2
                    obtain ⟨v1, h3, h4⟩ := dpa_get hds h1
                    refine ⟨v1, by rw [List.getElem?_map, h3]; rfl, ?_⟩
                    show Dq P.K (msk mZ.shut HZ) v1 d1
                    rw [shut_msk]; exact h4
                  · rw [List.getElem?_append_right (by simpa using hi), List.length_map] at ey
                    rw [List.getElem?_append_right (by rw [List.length_map, dpa_len hds]; omega), List.length_map, dpa_len hds]
                    obtain ⟨v1, h3, h4⟩ := caps_rs hrs js _ _ ey
                    refine ⟨v1, h3, ?_⟩
                    cases y with
                    | p d1 =>
                      show Dq P.K (msk mZ.shut HZ) v1 d1
                      rw [shut_msk]
                      exact dp_mono sm d1 v1 h4
                    | ob r0 =>
                      unfold capR at ey
                      rw [List.getElem?_map] at ey
                      obtain ⟨q, _, h2⟩ := Option.map_eq_some_iff.mp ey
                      unfold cap1 at h2
                      split at h2 <;> cases h2
                    | clo g0 =>
                      unfold capR at ey
                      rw [List.getElem?_map] at ey
                      obtain ⟨q, _, h2⟩ := Option.map_eq_some_iff.mp ey
                      unfold cap1 at h2
                      split at h2 <;> cases h2
                    | obs g0 =>
                      unfold capR at ey
                      rw [List.getElem?_map] at ey
                      obtain ⟨q, _, h2⟩ := Option.map_eq_some_iff.mp ey
                      unfold cap1 at h2
                      split at h2 <;> cases h2
                    | pob g0 g1 =>
                      unfold capR at ey
                      rw [List.getElem?_map] at ey
                      obtain ⟨q, _, h2⟩ := Option.map_eq_some_iff.mp ey
                      unfold cap1 at h2
                      split at h2 <;> cases h2
                    | rg g0 g1 =>
                      unfold capR at ey
                      rw [List.getElem?_map] at ey
                      obtain ⟨q, _, h2⟩ := Option.map_eq_some_iff.mp ey
                      unfold cap1 at h2
                      split at h2 <;> cases h2
                have hrZ : Room (j + 1) (cxOf CX0 X.prog X.w X.K X.mg X.base N2 qual scope2 ad cdv X.A X.stack s2 H2 E0).nox.A := hr'.mono hrj
                have bodyZ := hb (cloFrom X.env.cells scope.names []) b c' _ (cxOf CX0 X.prog X.w X.K X.mg X.base N2 qual scope2 ad cdv X.A X.stack s2 H2 E0).nox.stack sZ HZ E0 (hrZ.deeper _) hgd
                rw [← hK] at bodyZ
                have codeZ := lam_run (L := ⟨X.env.qual ++ "<lambda>", params, body, scope, cloFrom X.env.cells scope.names [], c'⟩) (Q := QZ) (E := E0) S (fun pm2 ctv2 us3 h3 => hbl _ _ _ pm2 ctv2 us3 h3) hrZ IZ.env0 hfZ hcZ cellsZ rZ hvl bodyZ
                  ⟨_, [], mZ.shut, .p d, Me, rs0, (rm_fns' rmZ).shut, heq, fun w m' H' ev rv rm => by
                    obtain ⟨ev3, rm3, sm3⟩ := (rm_fns' rmZ).open' ev rm
                    exact kZ w mZ H' ev3 (dp_mono sm3 d w rv) (rm_fns rm3)⟩
                refine wpAny_call (codeAny_mono codeZ fun rr s' hq => ?_)
                cases rr with
                | error e => exact pass0 pinsZ σZ HZ sZ e s' IZ hq
                | ok fl => cases fl <;> first | exact IZ.after hq | exact False.elim hq
              · cases hgd''
            · cases hgd''
        have der := hbody (P.fns fn') cdv X.A X.stack s2 H2 E0 rfl hr' hgd (by rw [← hK]; exact C)
        rw [← hK] at der
        refine ⟨TSt (P.fns fn') f, der.nox, ?_⟩
        have rvs : RVs (P.fns fn') m1 H2 [v, .clo g] [u, .ref fl] := .cons (rv_fns hv rv2) (.cons ⟨fl, msk m1 H2, rfl, Same.refl _, rfl, rfl, rfl⟩ .nil)
        have rs : RS (P.fns fn') m1 H2 (L2.start N2 [u, .ref fl]) ([v, .clo g].map some ++ List.replicate (nn - 2) none) := by
          have := rs_start (N := N2) rvs
          rw [hN2] at this
          exact this
        have rm' : RM (P.fns fn') m1 H2 M1 := rm_fns rm2
        have e3 : fnWith finF 2 nn f [v, .clo g] M1 = some (z, M') := e2
        unfold fnWith at e3
        rw [if_pos (show ([v, Val.clo g] : List Val).length = 2 from rfl)] at e3
        split at e3
        · rename_i v9 ρ9 M9 q9
          refine ⟨_, M1, m1, .rt v9, ρ9, M9, rs, rm', q9, fun w9 m9 H9 ev9 rv9 rm9 => ?_⟩
          obtain ⟨m', h1, h2, h3⟩ := finF_ok _ m1 m9 H2 H9 M1 M9 v9 w9 z M' rm' ev9 rm9 rv9 e3
          exact kk w9 m' H9 (ev2.trans h1) (rv_fns' hz2 h3) (rm_fns' h2)
        · rename_i ρ9 M9 q9
          refine ⟨_, M1, m1, .nx, ρ9, M9, rs, rm', q9, fun σ9 m9 H9 ev9 rs9 rm9 => ?_⟩
          obtain ⟨m', h1, h2, h3⟩ := finF_ok _ m1 m9 H2 H9 M1 M9 (.p .none) .non z M' rm' ev9 rm9 Dq.non e3
          exact kk .non m' H9 (ev2.trans h1) (rv_fns' hz2 h3) (rm_fns' h2)
        · cases e3
      refine wpAny_call (codeAny_mono code fun rr s' hq => ?_)
      cases rr with
      | error e => exact pass0 pins σ H2 s2 e s' I2 hq
      | ok fl => cases fl <;> first | exact I2.after hq | exact False.elim hq
    · cases e
  · cases e
end
end AX

namespace AX
open PySem PySem.Spec PyProof.Rows L2

/-! ### a list or a tuple that is gone through: k tells which -/
def IsS (k : Bool) (h : Heap) (a : Addr) (items : Array Value) : Prop := if k = true then h.IsList a items else h.IsTuple a items
def ItS (k : Bool) (h : Heap) (it a : Addr) (i : Nat) : Prop := if k = true then h.IsListIter it a i else h.IsTupleIter it a i
def SqS (k : Bool) (K : PySem.W.Frag) (H : Hp) (a : Addr) (xs : List V) : Prop := if k = true then SqL K H a xs else SqT K H a xs
def itO (k : Bool) (a : Addr) : Obj := if k = true then { cls := .type "list_iterator", data := .fields #[.ref a, .int 0 0] } else { cls := .type "tuple_iterator", data := .fields #[.ref a, .int 0 0] }
theorem drawS {prog : Program} {w : World} {A : Around} (hh : A.handled = none) (k : Bool) (it a : Addr) (hne : a ≠ it) (items : Array Value) : Draws prog w A it [it, a] items.size (fun i v => items[i]? = some v) (fun i h => ItS k h it a i ∧ IsS k h a items) := by
  cases k with
  | true => exact Draws.list hh it a hne items
  | false => exact Draws.tuple hh it a hne items
theorem beginS (k : Bool) (a : Addr) (items : Array Value) : Begins (.ref a) (itO k a) fun h => IsS k h a items := by
  cases k with
  | true => exact begins_list a items
  | false => exact begins_tuple a items
theorem itS_start {k : Bool} {h : Heap} {it a : Addr} (e : h.get? it = some (itO k a)) : ItS k h it a 0 := by
  cases k with
  | true => exact ⟨_, e, rfl, rfl⟩
  | false => exact ⟨_, e, rfl, rfl⟩
theorem itS_obj {k : Bool} {h : Heap} {it a : Addr} {i : Nat} (e : ItS k h it a i) : ∃ o, h.get? it = some o ∧ ∀ v, o.data ≠ .cell v := by
  cases k with
  | true => obtain ⟨o, h1, _, h2⟩ := (show h.IsListIter it a i from e); exact ⟨o, h1, fun v q => by rw [h2] at q; cases q⟩
  | false => obtain ⟨o, h1, _, h2⟩ := (show h.IsTupleIter it a i from e); exact ⟨o, h1, fun v q => by rw [h2] at q; cases q⟩
theorem itS_at {k : Bool} {h h' : Heap} {it a : Addr} {i : Nat} (e : ItS k h it a i) (hk : ∀ o, h.get? it = some o → h'.get? it = some o) : ItS k h' it a i := by
  cases k with
  | true => exact Heap.IsListIter.at (show h.IsListIter it a i from e) hk
  | false => exact Heap.IsTupleIter.at (show h.IsTupleIter it a i from e) hk
section
variable {X : Cx} {pins : List (Addr × Obj)} {σ : Sl} {H : Hp} {s : Shared}
theorem sqS_is {k : Bool} {a : Addr} {xs : List V} (I : Inv X pins σ H s) (h : SqS k X.K H a xs) : ∃ its : List Value, Vals xs its ∧ IsS k s.heap a its.toArray ∧ a < s.heap.objs.size := by
  cases k with
  | true =>
    obtain ⟨its, r, p, _⟩ := I.list (show SqL X.K H a xs from h)
    obtain ⟨o, ho, _⟩ := p.isList
    exact ⟨its, r, p.isList, Heap.lt_size ho⟩
  | false =>
    obtain ⟨its, r, p, _⟩ := I.tuple (show SqT X.K H a xs from h)
    obtain ⟨o, ho, _⟩ := id p
    exact ⟨its, r, p, Heap.lt_size ho⟩
/-- a turn of an iterator that hands out new tuples -/
theorem turn_item {It0 : Addr} {fpW wr : List Addr} {n i : Nat} {Pt : Nat → Array Value → Prop} {St : Nat → Heap → Prop} {Mid : Nat → Addr → Heap → Prop} {elts : List Expr} {kk : Nat} {tpos : Pos} {E : Value → Shared → Prop} {R : Value → Shared → Prop} {xs : List V}
    (W : WalksT X.prog X.w X.A It0 fpW wr n Pt St Mid) (I : Inv X pins σ H s) (hf : ∀ b ∈ wr, FpOk X pins H b) (hlt : ∀ b ∈ wr, b < s.heap.objs.size) (st : St i s.heap) (hi : i < n) (hx : ∀ vals, Pt i vals → Vals xs vals.toList) (hz : xs.length ≤ sizeLine)
    (k : ∀ T s2, H T = none → s.heap.objs.size ≤ T → Inv X pins σ (upd H T (.tup xs)) s2 → St (i + 1) s2.heap → (∀ b ∈ wr, upd H T (.tup xs) b = none) → R (.ref T) s2) :
    wpAny (model X.prog X.w) X.A (pyNext (.ref It0)) (fun r s1 => ∃ u, r = some u ∧ wpAny (model X.prog X.w) X.A (letOwnedTupleGo (.Tuple elts kk tpos) (.ref It0) u) (fun _ s2 => R u s2) E s1) E s := by
  refine W.item i s _ E hi st fun T vals h' tk hP hT isT mid hk => ?_
  refine ⟨_, rfl, W.go elts kk tpos i T { s with heap := h', toks := tk } _ E mid fun h'' st' hk2 => ?_⟩
  have nT : H T = none := I.hok.fresh hT
  have isT2 : h''.IsTuple T vals := by
    obtain ⟨o, ho, hc⟩ := isT
    exact ⟨o, hk2 T o (W.apart i T h' mid) ho, hc⟩
  have hxv := hx vals hP
  have new : ObjOk X.prog X.w (upd H T (.tup xs)) h'' T (.tup xs) := ⟨hz, vals.toList, hxv, by
    have e : vals.toList.toArray = vals := by simp
    rw [e]; exact isT2⟩
  have I2 : Inv X pins σ (upd H T (.tup xs)) { s with heap := h'', toks := tk } := I.turnedNew (t' := tk) (ch := wr) (fun b o hb e => hk2 b o hb (hk b o hb e)) hf hT new
  exact k T _ nT hT I2 st' fun b hb => by
    rw [upd_ne (Nat.ne_of_lt (Nat.lt_of_lt_of_le (hlt b hb) hT))]
    exact (hf b hb).1
end
/-! ### what such an iterator hands out -/
/-- n new tuples, the i-th holds xs i; c: what stands all the time -/
def Itx (n : Nat) (xs : Nat → List V) (c : Hp → Prop) : It := ⟨fun i H => i < n ∧ c H, fun i H v H' => ∃ T, v = .ref T ∧ H T = none ∧ H' = upd H T (.tup (xs i)), fun i H => i = n ∧ c H⟩
theorem walk_x {n : Nat} {xs : Nat → List V} {c : Hp → Prop} : Walk (Itx n xs c) n c fun i H v H' => ∃ T, v = .ref T ∧ H T = none ∧ H' = upd H T (.tup (xs i)) := ⟨fun i H h g => ⟨h, g⟩, fun H g => ⟨rfl, g⟩, fun i H x H' _ _ y => y⟩
section
variable {P : Program} {w : World} {K : PySem.W.Frag} {elts : List Expr} {kk : Nat} {tpos : Pos}
theorem turn_enS (k : Bool) (a e it : Addr) (vs : List V) :
    Turn P w K (.Tuple elts kk tpos) (Itx vs.length (fun i => match vs[i]? with | some v => [.int (i : Nat), v] | none => []) fun H => SqS k K H a vs) [e, it] e (fun i h => (∃ old, IsEnum h e it (0 + (i : Int)) old) ∧ ItS k h it a i ∧ e ≠ it ∧ a ≠ it ∧ e ≠ a) where
  mem := by simp
  obj := fun i h st b hb => by
    obtain ⟨⟨old, he⟩, hit, _⟩ := st
    have e' : b = e ∨ b = it := by simpa using hb
    rcases e' with z | z
    · rw [z]; exact ⟨_, he, fun v q => nomatch q⟩
    · rw [z]; exact itS_obj hit
  keep := fun i h h' st kp => let ⟨⟨old, he⟩, hi, hne⟩ := st; ⟨⟨old, kp e (by simp) _ he⟩, itS_at hi fun o q => kp it (by simp) o q, hne⟩
  item := by
    intro X hP hw hK hc i pins s σ H E I hf st hg
    subst hP hw hK
    obtain ⟨hi, hs⟩ := hg
    obtain ⟨he, hit, h1, h2, h3⟩ := st
    obtain ⟨its, r, isS, alt⟩ := sqS_is I hs
    have hl := r.length
    have hh : X.A.in1.handled = none := I.ok.hd hc
    have D := drawS (prog := X.prog) (w := X.w) (A := X.A.in1) hh k it a h2 its.toArray
    have W := WalksT.enumFrom 0 D e h1 (by simp [h1, h3]) (by simp)
    have hel : e < s.heap.objs.size := by obtain ⟨_, q⟩ := he; exact Heap.lt_size q
    have hil : it < s.heap.objs.size := by obtain ⟨_, q, _⟩ := itS_obj hit; exact Heap.lt_size q
    obtain ⟨v, hv⟩ : ∃ v, vs[i]? = some v := ⟨_, List.getElem?_eq_getElem hi⟩
    obtain ⟨u, hu, ru⟩ := r.get hv
    refine turn_item (xs := [.int (i : Nat), v]) W I hf (fun b hb => by
      have e' : b = e ∨ b = it := by simpa using hb
      rcases e' with z | z
      · rw [z]; exact hel
      · rw [z]; exact hil) ⟨he, hit, isS⟩ (by simpa [← hl] using hi) (fun vals ⟨t, x, hx, ev⟩ => ?_) (by show 2 ≤ sizeLine; decide) (fun T s2 nT lT I2 st2 hb => ?_)
    · subst ev
      have : x = u := by
        have hx' : its[i]? = some x := by simpa using hx
        rw [hu] at hx'
        exact (Option.some.inj hx').symm
      subst this
      exact .cons ⟨t, by simp⟩ (.cons ru .nil)
    · refine ⟨.ref T, _, I2, rfl, ⟨T, rfl, nT, by simp only [hv]⟩, ⟨st2.1, st2.2.1, h1, h2, h3⟩, hb⟩
  done := by
    intro X hP hw hK hc i pins s σ H E I hf st hg
    subst hP hw hK
    obtain ⟨hi, hs⟩ := hg
    subst hi
    obtain ⟨he, hit, h1, h2, h3⟩ := st
    obtain ⟨its, r, isS, alt⟩ := sqS_is I hs
    have hl := r.length
    have hh : X.A.in1.handled = none := I.ok.hd hc
    have D := drawS (prog := X.prog) (w := X.w) (A := X.A.in1) hh k it a h2 its.toArray
    have W := WalksT.enumFrom 0 D e h1 (by simp [h1, h3]) (by simp)
    have hn : its.toArray.size = vs.length := by simp [hl]
    rw [hn] at W
    exact W.done s _ E ⟨he, hit, isS⟩ fun h' tk hk => ⟨rfl, I.turnedL (t' := tk) (ch := [e, it]) (fun b o hb q => hk b o hb q) hf⟩
  self := fun A i s Q E st h => let ⟨⟨_, he⟩, _⟩ := st; wpAny_pyIter_enum he h
/-- zip of two -/
theorem turn_zipS (k1 k2 : Bool) (a b z TI TO i1 i2 : Addr) (vs us : List V) (S : ZipSep2 z TI TO i1 i2 [i1, a] [i2, b]) (n1 : a ≠ i1) (n2 : b ≠ i2) :
    Turn P w K (.Tuple elts kk tpos) (Itx (min vs.length us.length) (fun i => match vs[i]?, us[i]? with | some v, some u => [v, u] | _, _ => []) fun H => SqS k1 K H a vs ∧ SqS k2 K H b us) [z, TI, TO, i1, i2] z (fun i h => IsZip h z TI TO .none ∧ IsTupOf2 h TI (.ref i1) (.ref i2) ∧ (∃ a1 a2, IsTupOf2 h TO a1 a2) ∧ ItS k1 h i1 a i ∧ ItS k2 h i2 b i) where
  mem := by simp
  obj := fun i h st c hc => by
    obtain ⟨hz, hTI, ⟨x, y, hTO⟩, h1, h2⟩ := st
    have e' : c = z ∨ c = TI ∨ c = TO ∨ c = i1 ∨ c = i2 := by simpa using hc
    rcases e' with q | q | q | q | q
    · rw [q]; exact ⟨_, hz, fun v q => nomatch q⟩
    · rw [q]; exact ⟨_, hTI, fun v q => nomatch q⟩
    · rw [q]; exact ⟨_, hTO, fun v q => nomatch q⟩
    · rw [q]; exact itS_obj h1
    · rw [q]; exact itS_obj h2
  keep := fun i h h' st kp => by
    obtain ⟨hz, hTI, ⟨x, y, hTO⟩, h1, h2⟩ := st
    exact ⟨kp z (by simp) _ hz, kp TI (by simp) _ hTI, ⟨x, y, kp TO (by simp) _ hTO⟩, itS_at h1 fun o q => kp i1 (by simp) o q, itS_at h2 fun o q => kp i2 (by simp) o q⟩
  item := by
    intro X hP hw hK hc i pins s σ H E I hf st hg
    subst hP hw hK
    obtain ⟨hi, hs1, hs2⟩ := hg
    obtain ⟨hz, hTI, hTO, it1, it2⟩ := st
    obtain ⟨its1, r1, is1, _⟩ := sqS_is I hs1
    obtain ⟨its2, r2, is2, _⟩ := sqS_is I hs2
    have hl1 := r1.length
    have hl2 := r2.length
    have hh : X.A.in1.handled = none := I.ok.hd hc
    have D1 := drawS (prog := X.prog) (w := X.w) (A := X.A.in1) hh k1 i1 a n1 its1.toArray
    have D2 := drawS (prog := X.prog) (w := X.w) (A := X.A.in1) hh k2 i2 b n2 its2.toArray
    have W := WalksT.zipD2 S D1 D2
    obtain ⟨v, hv⟩ : ∃ v, vs[i]? = some v := ⟨_, List.getElem?_eq_getElem (by omega)⟩
    obtain ⟨u, hu⟩ : ∃ u, us[i]? = some u := ⟨_, List.getElem?_eq_getElem (by omega)⟩
    obtain ⟨v', hv', rv⟩ := r1.get hv
    obtain ⟨u', hu', ru⟩ := r2.get hu
    refine turn_item (xs := [v, u]) W I (fun b hb => hf b (by simp only [List.mem_cons, List.not_mem_nil, or_false] at hb ⊢; rcases hb with e | e | e | e <;> simp [e])) (fun b hb => by
      simp only [List.mem_cons, List.not_mem_nil, or_false] at hb
      rcases hb with e | e | e | e
      · rw [e]; exact Heap.lt_size hz
      · rw [e]; obtain ⟨_, _, q⟩ := hTO; exact Heap.lt_size q
      · rw [e]; obtain ⟨_, q, _⟩ := itS_obj it1; exact Heap.lt_size q
      · rw [e]; obtain ⟨_, q, _⟩ := itS_obj it2; exact Heap.lt_size q) ⟨hz, hTI, hTO, ⟨it1, is1⟩, ⟨it2, is2⟩⟩ (by simp only [List.size_toArray]; omega) (fun vals ⟨x, y, hx, hy, ev⟩ => ?_) (by show 2 ≤ sizeLine; decide) (fun T s2 nT lT I2 st2 hb => ?_)
    · subst ev
      have ex : x = v' := by
        have hx' : its1[i]? = some x := by simpa using hx
        rw [hv'] at hx'
        exact (Option.some.inj hx').symm
      have ey : y = u' := by
        have hy' : its2[i]? = some y := by simpa using hy
        rw [hu'] at hy'
        exact (Option.some.inj hy').symm
      subst ex ey
      exact .cons rv (.cons ru .nil)
    · refine ⟨.ref T, _, I2, rfl, ⟨T, rfl, nT, by simp only [hv, hu]⟩, ⟨st2.1, st2.2.1, st2.2.2.1, st2.2.2.2.1.1, st2.2.2.2.2.1⟩, fun c hc => ?_⟩
      simp only [List.mem_cons, List.not_mem_nil, or_false] at hc
      rcases hc with e | e | e | e | e
      · exact hb c (by simp [e])
      · have q : c < s.heap.objs.size := by rw [e]; exact Heap.lt_size hTI
        have nTc : T ≠ c := (Nat.ne_of_lt (Nat.lt_of_lt_of_le q lT)).symm
        rw [upd_ne (Ne.symm nTc)]
        exact (hf c (by simp [e])).1
      · exact hb c (by simp [e])
      · exact hb c (by simp [e])
      · exact hb c (by simp [e])
  done := by
    intro X hP hw hK hc i pins s σ H E I hf st hg
    subst hP hw hK
    obtain ⟨hi, hs1, hs2⟩ := hg
    subst hi
    obtain ⟨hz, hTI, hTO, it1, it2⟩ := st
    obtain ⟨its1, r1, is1, _⟩ := sqS_is I hs1
    obtain ⟨its2, r2, is2, _⟩ := sqS_is I hs2
    have hl1 := r1.length
    have hl2 := r2.length
    have hh : X.A.in1.handled = none := I.ok.hd hc
    have D1 := drawS (prog := X.prog) (w := X.w) (A := X.A.in1) hh k1 i1 a n1 its1.toArray
    have D2 := drawS (prog := X.prog) (w := X.w) (A := X.A.in1) hh k2 i2 b n2 its2.toArray
    have W := WalksT.zipD2 S D1 D2
    have hn : min its1.toArray.size its2.toArray.size = min vs.length us.length := by simp [hl1, hl2]
    rw [hn] at W
    exact W.done s _ E ⟨hz, hTI, hTO, ⟨it1, is1⟩, ⟨it2, is2⟩⟩ fun h' tk hk => ⟨rfl, I.turnedL (t' := tk) (ch := [z, TO, i1, i2]) (fun b o hb q => hk b o hb q) (fun b hb => hf b (by simp only [List.mem_cons, List.not_mem_nil, or_false] at hb ⊢; rcases hb with e | e | e | e <;> simp [e]))⟩
  self := fun A i s Q E st h => wpAny_pyIter_zip st.1 h
end
end AX

namespace AX
open PySem PySem.Spec PyProof.Rows L2
open Sem (wp)
open AutoSeq1 (wpAny_loadPart')

theorem meets_en1 {v : Value} {o : Obj} {Hh : Heap → Prop} (Bg : Begins v o Hh) :
    Meets (Builtin.«enumerate.__new__» ⟨[.type "enumerate", v], []⟩) (fun _ R s => Hh s.heap ∧
      R (.ok (.ret (.ref (s.heap.push o).objs.size))) { s with heap := (s.heap.push o).push { cls := .type "enumerate", data := .fields #[.none, .bool false, .ref s.heap.objs.size, rawInt 0, .none, .none] } }) :=
  .of_wp fun prog w A R s h => by
    obtain ⟨hp, g, d, tk, os⟩ := s; obtain ⟨h1, h⟩ := h
    have hsub := sub_enumerate
    have q1 : ∀ {A' : Around} {E : Value → Shared → Prop} {Q : Value → Shared → Prop}, Q (.ref hp.objs.size) ⟨hp.push o, g, d, tk, os⟩ → wpAny (model prog w) A' (pyIter v) Q E ⟨hp, g, d, tk, os⟩ :=
      fun q => Bg.iter prog w _ _ ⟨hp, g, d, tk, os⟩ _ h1 q
    wp_walk using q1
    refine wpAny_stack_any fun st => wpAny_pure ?_
    split
    · rename_i c _ _ _ _ _
      cases (c == Value.type "enumerate")
      · wp_walk using q1
        exact ⟨_, rfl, h⟩
      · wp_walk using q1
        exact ⟨_, rfl, h⟩
    · wp_walk using q1
      exact ⟨_, rfl, h⟩
theorem call_en1 {prog : Program} {w : World} {A : Around} {E : Value → Shared → Prop} {s : Shared} {v : Value} {o : Obj} {Hh : Heap → Prop} {Q : Value → Shared → Prop} (Bg : Begins v o Hh) (h1 : Hh s.heap)
    (h : ∀ h', IsEnum h' (s.heap.objs.size + 1) s.heap.objs.size 0 .none → h'.get? s.heap.objs.size = some o → h'.objs.size = s.heap.objs.size + 2 →
      (∀ b o, s.heap.get? b = some o → h'.get? b = some o) → Q (.ref (s.heap.objs.size + 1)) { s with heap := h' }) :
    wpAny (model prog w) A (PySem.call (.type "enumerate") [v]) Q E s := by
  refine callType_new F.called_enumerate (by decide) (F.typeCall_enumerate_1 _) (F.newCall_enumerate_1 _) (fun obj => F.args_object_init_2 obj _) F.entry_enumerate_new (meets_en1 Bg) ⟨h1, ?_⟩
  have hz : (s.heap.push o).objs.size = s.heap.objs.size + 1 := Heap.size_push ..
  show _ ∧ _
  rw [hz]
  have he : IsEnum ((s.heap.push o).push { cls := .type "enumerate", data := .fields #[.none, .bool false, .ref s.heap.objs.size, rawInt 0, .none, .none] }) (s.heap.objs.size + 1) s.heap.objs.size 0 .none := by
    have q := Heap.get?_push_size (s.heap.push o) (o := { cls := .type "enumerate", data := .fields #[.none, .bool false, .ref s.heap.objs.size, rawInt 0, .none, .none] }) rfl
    rw [hz] at q; exact q
  exact ⟨⟨_, he, rfl⟩, h _ he (Heap.get?_push_of_some _ (Heap.get?_push_size _ Bg.free)) (by rw [Heap.size_push, hz]) fun b o x => Heap.get?_push_of_some _ (Heap.get?_push_of_some _ x)⟩

/-! ### enumerate, zip: what is gone through -/
def seqOf : Val → Option (List PyData)
  | .p (.list xs) => some xs
  | .p (.tuple xs) => some xs
  | _ => none
def enD (ds : List PyData) : List PyData := ds.mapIdx fun i d => .tuple [.int (i : Nat), d]
def iEn (fa : EF) : IF := fun ρ M => bnd (fa ρ M) fun x M1 => match seqOf x with
  | some ds => some (enD ds, M1)
  | none => none
def zipD (ds es : List PyData) : List PyData := List.zipWith (fun d e => .tuple [d, e]) ds es
def iZp (fa fb : EF) : IF := fun ρ M => bnd (fa ρ M) fun x M1 => bnd (fb ρ M1) fun y M2 => match seqOf x, seqOf y with
  | some ds, some es => some (zipD ds es, M2)
  | _, _ => none
section
variable {X : Cx} {P : Par} {a b : Expr} {fa fb : EF} {elts : List Expr} {kk : Nat} {tpos pf pos : Pos}
theorem seq_is {m : Mw} {H : Hp} {x : Val} {v : V} {ds : List PyData} (h : seqOf x = some ds) (rv : RV P m H x v) : ∃ k a vs, v = .ref a ∧ (∀ m' H', Same (msk m H) (msk m' H') → SqS k P.K H' a vs) ∧ DqAll P.K (msk m H) vs ds := by
  cases x with
  | p d =>
    cases d with
    | list xs =>
      cases h
      obtain ⟨p, vs, rfl, hp, hd⟩ := rv_lst rv
      exact ⟨true, p, vs, rfl, fun m' H' e => .inl (rd_of (Same.rd e hp)), hd⟩
    | tuple xs =>
      cases h
      obtain ⟨p, vs, rfl, hp, hd⟩ := rv_tup rv
      exact ⟨false, p, vs, rfl, fun m' H' e => sqT_of (Same.sqT e hp), hd⟩
    | _ => cases h
  | _ => cases h
theorem seq_sub {m : Mw} {H : Hp} {x : Val} {v : V} {ds : List PyData} (h : seqOf x = some ds) (rv : RV P m H x v) : ∃ k a vs, v = .ref a ∧ (∀ H', Same (msk m H) H' → SqS k P.K H' a vs) ∧ DqAll P.K (msk m H) vs ds := by
  cases x with
  | p d =>
    cases d with
    | list xs =>
      cases h
      obtain ⟨p, vs, rfl, hp, hd⟩ := rv_lst rv
      exact ⟨true, p, vs, rfl, fun H' e => .inl (Same.rd e hp), hd⟩
    | tuple xs =>
      cases h
      obtain ⟨p, vs, rfl, hp, hd⟩ := rv_tup rv
      exact ⟨false, p, vs, rfl, fun H' e => Same.sqT e hp, hd⟩
    | _ => cases h
  | _ => cases h
/-- new tuples of what is known -/
theorem walkA_x {m0 : Mw} {H0 : Hp} {n : Nat} {xs : Nat → List V} {c : Hp → Prop} {es : List PyData} (hl : es.length = n) (hc : ∀ H, Same (msk m0 H0) H → c H) (hx : ∀ i, i < n → ∃ ds, es[i]? = some (.tuple ds) ∧ DqAll P.K (msk m0 H0) (xs i) ds) : WalkA P (Itx n xs c) m0 H0 es := by
  refine ⟨c, _, by rw [hl]; exact walk_x, hc, ?_⟩
  rintro i H x H' m M hi e rm ⟨T, rfl, nT, rfl⟩
  obtain ⟨ds, h1, h2⟩ := hx i (by omega)
  exact ⟨_, h1, ev_new rm nT, new_tup rm nT (dpAll_mono e _ _ h2), rm.new nT, same_upd nT⟩
theorem ai_enum (hm : X.mg "enumerate" = none) (ha : PE X a (T P fa)) (hg : Gl X "enumerate" := by rfl) (hs : starEach [a] X.env = [(false, eval a X.env)] := by rfl) (hs1 : starEach (a :: []) X.env = (false, eval a X.env) :: starEach [] X.env := by rfl) (hK : X.K = P.K := by rfl) :
    PI X (.Tuple elts kk tpos) (.Call (.Name "enumerate" pf) [a] [] pos) (TIt P (iEn fa)) := by
  refine ⟨fun pins s σ H R I ⟨ρ, M, m, xs, M', hs0, hm0, e, k⟩ => ?_⟩
  obtain ⟨x, M1, e1, e⟩ := bnd_eq e
  split at e
  · rename_i ds hds
    cases e
    refine Call_ (ld_blt I hg hm boot_enumerate (PyProof.Rows.callWith_type1 (thn ((pa_cons ha pa_nil hs1).run pos pins s σ H (fun vs H1 => ∃ u m1, vs = [u] ∧ Ev m m1 H H1 ∧ RV P m1 H1 x u ∧ RM P m1 H1 M') I ⟨ρ, M, m, x, M', hs0, hm0, e1, fun v m1 H1 ev1 rv1 rm1 => ⟨v, m1, rfl, ev1, rv1, rm1⟩⟩) fun us s1 ⟨vs, H1, I1, r1, u, m1, hvs, ev1, rv1, rm1⟩ => ?_) hs rfl))
    subst hvs
    obtain ⟨kd, ad, vs, rfl, hsq, hd⟩ := seq_sub hds rv1
    cases r1 with
    | cons r rr =>
      cases rr
      cases r
      obtain ⟨its, rI, isS, alt⟩ := sqS_is I1 (by rw [hK]; exact hsq H1 (msk_sub m1 H1))
      refine call_en1 (beginS kd ad its.toArray) isS fun h' he hit hsz hk => wpAny_pyIter_enum he ?_
      have I2 : Inv X pins σ H1 { s1 with heap := h' } := I1.kept (t' := s1.toks) hk
      have ok : ∀ c, s1.heap.objs.size ≤ c → FpOk X pins H1 c := fun c hle => I1.fpOk hle (I1.hok.fresh hle)
      refine ⟨s1.heap.objs.size + 1, [s1.heap.objs.size + 1, s1.heap.objs.size], _, _, H1, rfl, I2, turn_enS kd ad (s1.heap.objs.size + 1) s1.heap.objs.size vs, ⟨⟨.none, ?_⟩, itS_start hit, Nat.succ_ne_self _, Nat.ne_of_lt alt, ?_⟩, fun c hc => ?_, ?_⟩
      · show IsEnum h' _ _ (0 + ((0 : Nat) : Int)) _
        exact he
      · have : ad < s1.heap.objs.size + 1 := Nat.lt_succ_of_lt alt
        exact (Nat.ne_of_lt this).symm
      · have e' : c = s1.heap.objs.size + 1 ∨ c = s1.heap.objs.size := by simpa using hc
        rcases e' with z | z
        · rw [z]; exact ok _ (Nat.le_add_right _ _)
        · rw [z]; exact ok _ (Nat.le_refl _)
      · refine k _ m1 H1 ev1 rm1 (walkA_x (by simp [enD, dpa_len hd]) (fun H' e => by rw [hK]; exact hsq H' e) fun i hi => ?_)
        obtain ⟨v, hv⟩ : ∃ v, vs[i]? = some v := ⟨_, List.getElem?_eq_getElem hi⟩
        obtain ⟨d, h1, h2⟩ := dpa_getr hd hv
        refine ⟨[.int (i : Nat), d], by simp [enD, h1], ?_⟩
        simp only [hv]
        exact .cons (.int _) (.cons h2 .nil)
  · cases e
theorem ai_zip (hm : X.mg "zip" = none) (ha : PE X a (T P fa)) (hb : PE X b (T P fb)) (hg : Gl X "zip" := by rfl) (hs : starEach [a, b] X.env = (false, eval a X.env) :: starEach [b] X.env := by rfl) (hs2 : starEach (b :: []) X.env = (false, eval b X.env) :: starEach [] X.env := by rfl) (hpl : (backTo pos (starEach [b] X.env)).any (·.1) = false := by rfl) (hK : X.K = P.K := by rfl) :
    PI X (.Tuple elts kk tpos) (.Call (.Name "zip" pf) [a, b] [] pos) (TIt P (iZp fa fb)) := by
  refine ⟨fun pins s σ H R I ⟨ρ, M, m, xs, M', hs0, hm0, e, k⟩ => ?_⟩
  obtain ⟨x, M1, e1, e⟩ := bnd_eq e
  obtain ⟨y, M2, e2, e⟩ := bnd_eq e
  split at e
  · rename_i ds es hds hes
    cases e
    refine Call_ (ld_blt I hg hm PyProof.Rows.boot_zip (PyProof.Rows.callWith_type1 (thn ((pa_cons ha (pa_cons hb pa_nil hs2) hs).run pos pins s σ H (fun vs H1 => ∃ u1 u2 m1, vs = [u1, u2] ∧ Ev m m1 H H1 ∧ RV P m1 H1 x u1 ∧ RV P m1 H1 y u2 ∧ RM P m1 H1 M') I
      ⟨ρ, M, m, x, M1, hs0, hm0, e1, fun v m1 H1 ev1 rv1 rm1 => ⟨ρ, M1, m1, y, M', hs0.mono ev1, rm1, e2, fun v2 m2 H2 ev2 rv2 rm2 => ⟨v, v2, m2, rfl, ev1.trans ev2, rv1.mono ev2, rv2, rm2⟩⟩⟩) fun us s1 ⟨vs, H1, I1, r1, u1, u2, m1, hvs, ev1, rv1, rv2, rm1⟩ => ?_) hs hpl))
    subst hvs
    obtain ⟨k1, a1, vs, rfl, hsq1, hd1⟩ := seq_sub hds rv1
    obtain ⟨k2, a2, us', rfl, hsq2, hd2⟩ := seq_sub hes rv2
    cases r1 with
    | cons r rr =>
      cases rr with
      | cons r' rr =>
        cases rr
        cases r
        cases r'
        obtain ⟨its1, rI1, isS1, alt1⟩ := sqS_is I1 (by rw [hK]; exact hsq1 H1 (msk_sub m1 H1))
        obtain ⟨its2, rI2, isS2, alt2⟩ := sqS_is I1 (by rw [hK]; exact hsq2 H1 (msk_sub m1 H1))
        refine zip_begins2 (beginS k1 a1 its1.toArray) (beginS k2 a2 its2.toArray) isS1 isS2 fun h' hz hTI hTO h1 h2 hsz hk => wpAny_pyIter_zip hz ?_
        have I2 : Inv X pins σ H1 { s1 with heap := h' } := I1.kept (t' := s1.toks) hk
        have ok : ∀ c, s1.heap.objs.size ≤ c → FpOk X pins H1 c := fun c hle => I1.fpOk hle (I1.hok.fresh hle)
        refine ⟨s1.heap.objs.size + 4, [s1.heap.objs.size + 4, s1.heap.objs.size + 2, s1.heap.objs.size + 3, s1.heap.objs.size, s1.heap.objs.size + 1], _, _, H1, rfl, I2, turn_zipS k1 k2 a1 a2 _ _ _ _ _ vs us' (zip_sep2 (N := s1.heap.objs.size) (fp1 := [a1]) (fp2 := [a2]) (by simpa using alt1) (by simpa using alt2)) (Nat.ne_of_lt alt1) (Nat.ne_of_lt (Nat.lt_succ_of_lt alt2)), ⟨hz, hTI, ⟨_, _, hTO⟩, itS_start h1, itS_start h2⟩, fun c hc => ?_, ?_⟩
        · have e' : c = s1.heap.objs.size + 4 ∨ c = s1.heap.objs.size + 2 ∨ c = s1.heap.objs.size + 3 ∨ c = s1.heap.objs.size ∨ c = s1.heap.objs.size + 1 := by simpa using hc
          rcases e' with z | z | z | z | z
          · rw [z]; exact ok _ (Nat.le_add_right _ _)
          · rw [z]; exact ok _ (Nat.le_add_right _ _)
          · rw [z]; exact ok _ (Nat.le_add_right _ _)
          · rw [z]; exact ok _ (Nat.le_refl _)
          · rw [z]; exact ok _ (Nat.le_add_right _ _)
        · refine k _ m1 H1 ev1 rm1 (walkA_x (by simp [zipD, dpa_len hd1, dpa_len hd2]) (fun H' e => by rw [hK]; exact ⟨hsq1 H' e, hsq2 H' e⟩) fun i hi => ?_)
          obtain ⟨v, hv⟩ : ∃ v, vs[i]? = some v := ⟨_, List.getElem?_eq_getElem (by omega)⟩
          obtain ⟨u, hu⟩ : ∃ u, us'[i]? = some u := ⟨_, List.getElem?_eq_getElem (by omega)⟩
          obtain ⟨d, g1, g2⟩ := dpa_getr hd1 hv
          obtain ⟨d2, g3, g4⟩ := dpa_getr hd2 hu
          refine ⟨[d, d2], by simp [zipD, List.getElem?_zipWith, g1, g3], ?_⟩
          simp only [hv, hu]
          exact .cons g2 (.cons g4 .nil)
  · cases e
end
end AX

namespace AX
open PySem PySem.Spec PyProof.Rows L2

section
variable {Pr : Program} {w : World} {P : Par} {mg : Str → Option Value} {base : Heap} {x qual : Str} {params : Arguments} {body : List Stmt} {scope : Scope} {dvs : List V} {kws : List (Str × V)} {fa : Addr} {fd : FuncData} {N ps : List Str} {k : Nat} {f : SF}
/-- a def that makes a lambda: its code object is c -/
theorem fnG_lam {fin : Nat → Val → Sto → Option (Val × Sto)} {n nn : Nat} {c : Addr} (hfin : FinOk fin) (F : FunD P.K x qual params body scope dvs kws fa fd) (hcode : fd.code = .ref c) (S : FnScope N ps scope) (hn : ps.length = n) (hnn : N.length = nn)
    (hbody : ∀ (A : Around) (outer : List Env) (s : Shared) (H : Hp) (E : XK), Room k (A.deeper (envOfC qual scope s.heap.objs.size fa (.ref c))) → A.guards = some [] → PSs (cxOf CX0 Pr w P.K mg base N qual scope fa (.ref c) A outer s H E).nox body (TSt P f)) :
    FnG Pr w P.K mg base CX0 (k + 1) fa fd ps (spOf P n (fnWith fin n nn f)) := by
  subst hn
  subst hnn
  obtain ⟨oc, od, dV, kV, doc, pm, an, cdv, ct, osl, rfl, lk, hcd, h1, h2⟩ := F.ex
  have e : cdv = .ref c := hcode
  subst e
  refine ⟨fun vs H Q E h => h.1, fun A outer s H args us vs Q E hr hgd e0 hb r hsp => ?_⟩
  obtain ⟨hl, xs, M, m, z, M', rvs, rm, e, kk⟩ := hsp
  refine LamX.run_ofS lk hcd S hr e0 hb r hl fun hr' => ⟨TSt P f, (hbody A outer s H E hr' hgd).nox, ?_⟩
  unfold fnWith at e
  split at e
  · rename_i hxl
    have rs : RS P m H (L2.start N vs) (xs.map some ++ List.replicate (N.length - ps.length) none) := by rw [← hxl]; exact rs_start rvs
    split at e
    · rename_i v ρ1 M1 q
      exact ⟨_, M, m, .rt v, ρ1, M1, rs, rm, q, fun v1 m1 H1 ev1 rv1 rm1 => by
        obtain ⟨m', e1, e2, e3⟩ := hfin P m m1 H H1 M M1 v v1 z M' rm ev1 rm1 rv1 e
        exact kk v1 m' H1 e1 e3 e2⟩
    · rename_i ρ1 M1 q
      exact ⟨_, M, m, .nx, ρ1, M1, rs, rm, q, fun σ1 m1 H1 ev1 rs1 rm1 => by
        obtain ⟨m', e1, e2, e3⟩ := hfin P m m1 H H1 M M1 (.p .none) .non z M' rm ev1 rm1 Dq.non e
        exact kk .non m' H1 e1 e3 e2⟩
    · cases e
  · cases e
end
theorem code_of {K : PySem.W.Frag} {x qual : Str} {params : Arguments} {body : List Stmt} {scope : Scope} {dvs : List V} {kws : List (Str × V)} {p : He.Defn} {fd : FuncData} (F : FunD K x qual params body scope dvs kws (He.fAd K p) fd) : fd.code = .ref (He.cT K p).1 := by
  obtain ⟨oc, od, dV, kV, doc, pm, an, cdv, ct, osl, rfl, lk, hcd, _, _⟩ := F.ex
  obtain ⟨c, hc⟩ := He.codeIn_ref hcd
  have e := He.codeOf_eq (p := p) lk hc
  show cdv = .ref (He.codeOf K p)
  rw [e, hc]
/-- a def that takes a function, named -/
theorem hog_of {Pr : Program} {w : World} {K : PySem.W.Frag} {mg : Str → Option Value} {base : Heap} {k n nn : Nat} {gx x qual : Str} {params : Arguments} {body : List Stmt} {scope : Scope} {ad : Addr} {fd : FuncData} {N ps : List Str} {f : SF} (F : FunD K x qual params body scope [] [] ad fd) (hm : mg gx = some (.ref ad)) (S : FnScope N ps scope) (hn : ps.length = n) (hnn : N.length = nn)
    (h : ∀ (kV doc pm : Value) (an : Option Addr) (cdv ct : Value) (us : List Value), us.length = ps.length → bindArgs (PySem.W.fnOf x qual params body scope .none kV doc pm an cdv ct) ⟨us, []⟩ = pure (ps.zip us))
    (hb : ∀ (P : Par) (cdv : Value) (A : Around) (outer : List Env) (s : Shared) (H : Hp) (E : XK), P.K = K → Room k (A.deeper (envOfC qual scope s.heap.objs.size ad cdv)) → A.guards = some [] → CloOk (cxOf CX0 Pr w K mg base N qual scope ad cdv A outer s H E).nox P → PSs (cxOf CX0 Pr w K mg base N qual scope ad cdv A outer s H E).nox body (TSt P f)) : HoG Pr w K mg base k gx n nn f :=
  ⟨⟨ad, fd, x, qual, params, body, scope, N, ps, F, hm, F.bindsN h, S, hn, hnn, hb⟩⟩
/-- the tables' addresses are apart -/
def apartB (K : PySem.W.Frag) : List He.Defn → Bool
  | [] => true
  | p :: ps => (ps.all fun q => !decide ((He.cT K p).2 = (He.cT K q).2)) && apartB K ps
def tbs (K : PySem.W.Frag) (tf : List (He.Defn × Str)) : List NdefX.NTab := tf.map fun p => ((He.cT K p.1).2, fun _ _ => p.2)
theorem tbOk_of {K : PySem.W.Frag} : ∀ {tf : List (He.Defn × Str)}, apartB K (tf.map (·.1)) = true → ∀ p ∈ tf, TbOk (tbs K tf) (He.cT K p.1).2 (fun _ _ => p.2)
  | [], _, p, hp => by cases hp
  | q :: tf, h, p, hp => by
    unfold apartB at h
    simp only [List.map_cons, Bool.and_eq_true, List.all_eq_true, Bool.not_eq_true', decide_eq_false_iff_not] at h
    refine ⟨List.mem_map.mpr ⟨p, hp, rfl⟩, fun r hr e => ?_⟩
    obtain ⟨r0, hr0, rfl⟩ := List.mem_map.mp hr
    rcases List.mem_cons.mp hp with e1 | hp1
    · rcases List.mem_cons.mp hr0 with e2 | hr1
      · rw [e1, e2]
      · have := h.1 r0.1 (List.mem_map.mpr ⟨r0, hr1, rfl⟩)
        rw [← e1] at this
        exact absurd e.symm this
    · rcases List.mem_cons.mp hr0 with e2 | hr1
      · have := h.1 p.1 (List.mem_map.mpr ⟨p, hp1, rfl⟩)
        rw [← e2] at this
        exact absurd e this
      · exact (tbOk_of h.2 p hp1).2 _ (List.mem_map.mpr ⟨r0, hr1, rfl⟩) e
theorem tabsN_of {K : PySem.W.Frag} {tf : List (He.Defn × Str)} {H : Hp} (h : ∀ p ∈ tf.map (fun p => He.cT K p.1), H p.2 = some (.tbl #[])) : NdefX.TabsN (tbs K tf) H := fun p hp => by
  obtain ⟨q, hq, rfl⟩ := List.mem_map.mp hp
  exact NdefX.TabN.nil (h _ (List.mem_map.mpr ⟨q, hq, rfl⟩))
end AX

namespace AX
open PySem PySem.Spec PyProof.Rows L2

/-! ### lists that will change, made by a comprehension, a product, a sum, list(..) -/
def thaw (d : Val) (M : Sto) : Option (Val × Sto) := match d with
  | .p (.list ds) => some (.ob M.length, M ++ [ds])
  | _ => none
def eLcM (fi : IF) (g : GF) (t : TF) (e : EF) (vs : List Nat) : EF := fun ρ M => bnd (fi ρ M) fun xs M1 => if xs.length ≤ szl then bnd (lcL g t e (wipeR ρ vs) xs M1) fun ds M2 => some (.ob M2.length, M2 ++ [ds]) else none
theorem LcAt.doneM {P : Par} {m0 mm : Mw} {H1 H : Hp} {D : Addr} {M : Sto} {acc : List PyData} (h : LcAt P m0 H1 D H mm M acc) : Ev m0 ⟨mm.hd, mm.m ++ [D]⟩ H1 H ∧ RM P ⟨mm.hd, mm.m ++ [D]⟩ H (M ++ [acc]) := by
  obtain ⟨l, rfl⟩ := h.pre
  obtain ⟨vs, h1, h2⟩ := h.ac
  have alls : ∀ a, a ∈ (⟨m0.hd, (m0.m ++ l) ++ [D]⟩ : Mw).all ↔ a ∈ (Mw.hide ⟨m0.hd, m0.m ++ l⟩ D).all := fun a => by
    unfold Mw.all Mw.hide
    simp only [List.mem_append, List.mem_singleton]
    constructor
    · rintro (h | (h | h) | h) <;> simp [h]
    · rintro ((h | h) | (h | h)) <;> simp [h]
  have meq : msk ⟨m0.hd, (m0.m ++ l) ++ [D]⟩ H = msk (Mw.hide ⟨m0.hd, m0.m ++ l⟩ D) H := by
    funext a
    unfold msk
    by_cases hb : a ∈ (⟨m0.hd, (m0.m ++ l) ++ [D]⟩ : Mw).all
    · rw [if_pos hb, if_pos ((alls a).mp hb)]
    · rw [if_neg hb, if_neg (fun z => hb ((alls a).mpr z))]
  have nDm : D ∉ m0.m ++ l := fun z => h.rm.dis D z (List.mem_append_right _ (by simp))
  have rm := h.rm
  refine ⟨⟨⟨l ++ [D], by simp⟩, by rw [meq]; exact h.same, h.hid⟩, ⟨?_, fun a ha => ?_, ?_, fun i a q => ?_, fun a ha => rm.hid a (List.mem_append_left _ ha), rm.tb⟩⟩
  · refine List.nodup_append.mpr ⟨rm.nd, by simp, fun x hx y hy z => ?_⟩
    have : y = D := by simpa using hy
    subst this; subst z
    exact nDm hx
  · rcases List.mem_append.mp ha with ha | ha
    · exact fun z => rm.dis a ha (List.mem_append_left _ z)
    · have : a = D := by simpa using ha
      subst this
      exact h.nD
  · have h3 : (m0.m ++ l).length = M.length := rm.len
    show ((m0.m ++ l) ++ [D]).length = (M ++ [acc]).length
    simp only [List.length_append, List.length_singleton] at h3 ⊢
    omega
  · rw [meq]
    have hlen : (m0.m ++ l).length = M.length := rm.len
    have q' : ((m0.m ++ l) ++ [D])[i]? = some a := q
    by_cases hi : i < (m0.m ++ l).length
    · rw [List.getElem?_append_left hi] at q'
      obtain ⟨ys, ws, g1, g2, g3⟩ := rm.at_ i a q'
      exact ⟨ys, ws, by rw [List.getElem?_append_left (by omega)]; exact g1, g2, g3⟩
    · rw [List.getElem?_append_right (by omega)] at q'
      have hi0 : i - (m0.m ++ l).length = 0 := by
        have := (List.getElem?_eq_some_iff.mp q').1
        simp only [List.length_singleton] at this
        omega
      rw [hi0] at q'
      have e : D = a := by simpa using q'
      subst e
      exact ⟨acc, vs, by rw [List.getElem?_append_right (by omega), ← hlen, hi0]; rfl, h1, h2⟩
theorem lc_runM {P : Par} {fi : IF} {g : GF} {t : TF} {e : EF} {vs : List Nat} : ∀ σ H Q, T P (eLcM fi g t e vs) σ H Q → tLc (TIt P fi) (TGw P vs g) (TB P t) (T P e) vs σ H Q := by
  intro σ H Q ⟨ρ, M, m, z, M', hs, hm, ee, k⟩
  obtain ⟨xs, M1, e1, ee⟩ := bnd_eq ee
  split at ee
  · rename_i hz
    obtain ⟨ds, M2, e2, ee⟩ := bnd_eq ee
    cases ee
    refine lc_gen hs hm e1 hz e2 fun m1 mm H1 H2 D ev1 L => ?_
    obtain ⟨ev2, rm2⟩ := L.doneM
    refine k _ _ _ (ev1.trans ev2) ⟨D, rfl, ?_⟩ rm2
    have hlen : mm.m.length = M2.length := L.rm.len
    show (mm.m ++ [D])[M2.length]? = some D
    rw [← hlen]; simp
  · cases ee
section
variable {X : Cx} {P : Par} {pos py spos : Pos} {a b : Expr} {fa fb : EF} {r : R2}
theorem as_setLcM {elt tg iter : Expr} {ifs : List Expr} {scope : Scope} {i : Nat} {y : Str} (own : List (Str × Nat)) {fi : IF} {g : GF} {t : TF} {e : EF} (hN : X.N.Nodup) (hi : PI X tg iter (TIt P fi)) (ok : BlkOk X.N X.env.scope scope own)
    (hg : ∀ (s : Shared) (H : Hp) (C : Addr) (cl : List (Str × Addr)) (fp : List Addr), PG (X.blk s H scope (compEnvC scope cl C X.env) fp) tg (TGw P (own.map (·.2)) g)) (ht : ∀ (s : Shared) (H : Hp) (C : Addr) (cl : List (Str × Addr)) (fp : List Addr), PTs (X.blk s H scope (compEnvC scope cl C X.env) fp) ifs (TB P t))
    (he : ∀ (s : Shared) (H : Hp) (C : Addr) (cl : List (Str × Addr)) (fp : List Addr), PE (X.blk s H scope (compEnvC scope cl C X.env) fp) elt (T P e)) (hsw : swapsWith (.ListComp elt [⟨tg, iter, ifs, 0⟩] scope pos) (some (.Name y py)) spos.line X.env = pure true)
    (hy : X.N[i]? = some y := by rfl) (hyl : X.env.scope.names.lookup y = some .local := by rfl) (hc : X.calm = true := by rfl) (hs : ∀ x, foldedSetIterable iter X.env x = pure x := by intro _; rfl) :
    PS X (.Assign [.Name y py] (.ListComp elt [⟨tg, iter, ifs, 0⟩] scope pos) spos) (TSt P (sAs (eLcM fi g t e (own.map (·.2))) (gN i))) := PS.weak (ps_setLc hc hN hy hyl hsw hi ok hg ht he hs) fun D σ H ⟨ρ, M, m, fl, ρ', M', hs, hm, ee, k⟩ => by
  obtain ⟨x, M1, e1, e2⟩ := bnd_eq ee
  cases e2
  refine lc_runM σ H _ ⟨ρ, M, m, x, _, hs, hm, e1, fun v m1 H1 ev1 rv1 rm1 => ?_⟩
  exact k _ m1 H1 ev1 ((hs.mono ev1).set rv1) rm1
theorem ae_lcM {elt tg iter : Expr} {ifs : List Expr} {scope : Scope} (own : List (Str × Nat)) {fi : IF} {g : GF} {t : TF} {e : EF} (hN : X.N.Nodup) (hi : PI X tg iter (TIt P fi)) (ok : BlkOk X.N X.env.scope scope own)
    (hg : ∀ (s : Shared) (H : Hp) (C : Addr) (cl : List (Str × Addr)) (fp : List Addr), PG (X.blk s H scope (compEnvC scope cl C X.env) fp) tg (TGw P (own.map (·.2)) g)) (ht : ∀ (s : Shared) (H : Hp) (C : Addr) (cl : List (Str × Addr)) (fp : List Addr), PTs (X.blk s H scope (compEnvC scope cl C X.env) fp) ifs (TB P t))
    (he : ∀ (s : Shared) (H : Hp) (C : Addr) (cl : List (Str × Addr)) (fp : List Addr), PE (X.blk s H scope (compEnvC scope cl C X.env) fp) elt (T P e)) (hc : X.calm = true := by rfl) (hs : ∀ x, foldedSetIterable iter X.env x = pure x := by intro _; rfl) :
    PE X (.ListComp elt [⟨tg, iter, ifs, 0⟩] scope pos) (T P (eLcM fi g t e (own.map (·.2)))) := PE.weak (pe_lc hc hN hi ok hg ht he hs) lc_runM
/-- the end of an operator that makes a new list -/
theorem klM {m : Mw} {H : Hp} {M M' : Sto} {z : Val} {vs : List V} {ds : List PyData} {Q : VK} {p : Addr} (hm : RM P m H M) (e : some (Val.ob M.length, M ++ [ds]) = some (z, M')) (k : ∀ w m' H', Ev m m' H H' → RV P m' H' z w → RM P m' H' M' → Q w H') (hd : DqAll P.K (msk m H) vs ds) (hp : H p = none) : Q (.ref p) (upd H p (.lst vs)) := by
  cases e
  obtain ⟨ev, rm⟩ := mut_new hm hp hd
  refine k _ _ _ ev ⟨p, rfl, ?_⟩ rm
  show (m.m ++ [p])[M.length]? = some p
  rw [← hm.len]; simp
def bMulM : BF
  | .p (.list a), .p (.int k), M => if k ≤ 1000 ∧ -1000 ≤ k ∧ a.length ≤ 1000 then some (.ob M.length, M ++ [(List.replicate k.toNat a).flatten]) else none
  | _, _, _ => none
def lstOf (x : Val) (M : Sto) : Option (List PyData) := match x with
  | .p (.list xs) => some xs
  | .ob r => M[r]?
  | _ => none
def bAddM : BF := fun x y M => match lstOf x M, lstOf y M with
  | some a, some b => if a.length + b.length ≤ szl then some (.ob M.length, M ++ [a ++ b]) else none
  | _, _ => none
theorem lstOf_is {m : Mw} {H : Hp} {M : Sto} {x : Val} {v : V} {xs : List PyData} (hm : RM P m H M) (rv : RV P m H x v) (h : lstOf x M = some xs) : ∃ p vs, v = .ref p ∧ Rd H p (.lst vs) ∧ DqAll P.K (msk m H) vs xs := by
  unfold lstOf at h
  split at h
  · cases h
    obtain ⟨p, vs, rfl, hp, hd⟩ := rv_lst rv
    exact ⟨p, vs, rfl, rd_of hp, hd⟩
  · obtain ⟨p, ys, vs, rfl, hr, hM, hH, hd⟩ := rv_ob hm rv
    rw [hM] at h
    cases h
    exact ⟨p, vs, rfl, .inl hH, hd⟩
  · cases h
theorem s_mulM : SR2 P rRepR bMulM := by
  intro x y v u m H M z M' Q rx ry hm e k
  unfold bMulM at e
  split at e
  · split at e
    · rename_i hz
      obtain ⟨p, vs, rfl, hp, hd⟩ := rv_lst rx
      rw [rv_int ry]
      have hl := dpa_len hd
      refine ⟨_, _, _, rfl, rfl, rd_of hp, by omega, by omega, ?_, fun p' hp' => klM hm e k (dpa_rep hd _) hp'⟩
      rw [szl_eq, hl]
      exact Nat.le_trans (Nat.mul_le_mul hz.2.2 (Int.toNat_le.mpr (show _ ≤ ((1000 : Nat) : Int) from hz.1))) (by decide)
    · cases e
  · cases e
theorem s_addM : SR2 P rCatR bAddM := by
  intro x y v u m H M z M' Q rx ry hm e k
  unfold bAddM at e
  split at e
  · rename_i a b ha hb
    split at e
    · rename_i hz
      obtain ⟨p, vs, rfl, hp, hd⟩ := lstOf_is hm rx ha
      obtain ⟨p2, us, rfl, hp2, hd2⟩ := lstOf_is hm ry hb
      exact ⟨_, _, _, _, rfl, rfl, hp, hp2, by rw [szl_eq, dpa_len hd, dpa_len hd2]; exact hz, fun p' hp' => klM hm e k (dpa_app hd hd2) hp'⟩
    · cases e
  · cases e
theorem a_mulM (ha : PE X a (T P fa)) (hb : PE X b (T P fb)) : PE X (.BinOp a .Mult b pos) (T P (eBin bMulM fa fb)) := a_op op_repR s_mulM ha hb
theorem a_addM (ha : PE X a (T P fa)) (hb : PE X b (T P fb)) : PE X (.BinOp a .Add b pos) (T P (eBin bAddM fa fb)) := a_op op_catR s_addM ha hb
end

/-! ### list(..) that changes, list.index, list.pop(i), sum, max -/
def nListM : NF
  | [.p (.list xs)], M => some (.ob M.length, M ++ [xs])
  | [.p (.tuple xs)], M => some (.ob M.length, M ++ [xs])
  | [.ob r], M => match M[r]? with
    | some xs => some (.ob M.length, M ++ [xs])
    | none => none
  | _, _ => none
section
variable {X : Cx} {P : Par} {pos : Pos}
theorem b_listM (hK : X.K = P.K := by rfl) : BuiltT X P "list" nListM := ⟨_, call_list_of, by
  intro xs vs m H M z M' Q rv hm e k
  unfold nListM at e
  rw [hK]
  split at e
  · obtain ⟨v, rfl, r1⟩ := rvs1 rv
    obtain ⟨p, ws, rfl, hp, hd⟩ := rv_lst r1
    exact ⟨p, ws, rfl, .inl (.inl (rd_of hp)), fun q hq => klM hm e k hd hq⟩
  · obtain ⟨v, rfl, r1⟩ := rvs1 rv
    obtain ⟨p, ws, rfl, hp, hd⟩ := rv_tup r1
    exact ⟨p, ws, rfl, .inr (sqT_of hp), fun q hq => klM hm e k hd hq⟩
  · obtain ⟨v, rfl, r1⟩ := rvs1 rv
    obtain ⟨p, ys, ws, rfl, hr, hM, hH, hd⟩ := rv_ob hm r1
    rw [hM] at e
    exact ⟨p, ws, rfl, .inl (.inl (.inl hH)), fun q hq => klM hm e k hd hq⟩
  · cases e⟩
/-- whole numbers alone -/
def intsOf : List PyData → Option (List Int)
  | [] => some []
  | .int i :: r => (intsOf r).map (i :: ·)
  | _ :: _ => none
theorem intsOf_dq {m : Mw} {H : Hp} : ∀ {ds : List PyData} {vs : List V} {ns : List Int}, DqAll P.K (msk m H) vs ds → intsOf ds = some ns → vs = ns.map V.int
  | [], _, _, h, e => by cases h; cases e; rfl
  | d :: ds, _, ns, h, e => by
    cases h with
    | cons a b =>
      cases d with
      | int i =>
        obtain ⟨r, h1, h2⟩ := Option.map_eq_some_iff.mp (show (intsOf ds).map (i :: ·) = some ns from e)
        subst h2
        cases a
        rw [intsOf_dq b h1]
        rfl
      | _ => cases e
def nSum : NF
  | [.p (.list xs)], M => (intsOf xs).map fun ns => (.p (.int ns.sum), M)
  | [.ob r], M => match M[r]? with
    | some xs => (intsOf xs).map fun ns => (.p (.int ns.sum), M)
    | none => none
  | _, _ => none
def mxL : List Int → Int → Int
  | [], m => m
  | i :: r, m => mxL r (if m < i then i else m)
theorem mxL_le : ∀ (l : List Int) (m : Int), m ≤ mxL l m ∧ ∀ i ∈ l, i ≤ mxL l m
  | [], m => ⟨Int.le_refl _, by simp⟩
  | i :: r, m => by
    obtain ⟨h1, h2⟩ := mxL_le r (if m < i then i else m)
    have : m ≤ (if m < i then i else m) ∧ i ≤ (if m < i then i else m) := by split <;> omega
    refine ⟨Int.le_trans this.1 h1, fun j hj => ?_⟩
    rcases List.mem_cons.mp hj with rfl | hj
    · exact Int.le_trans this.2 h1
    · exact h2 j hj
def nMax1 : NF
  | [.p (.list (.int i :: xs))], M => (intsOf xs).map fun ns => (.p (.int (mxL ns i)), M)
  | _, _ => none
theorem b_sum (hc : X.calm = true := by rfl) (hK : X.K = P.K := by rfl) : BuiltF X P "sum" nSum := ⟨_, cr_sum hc, by
  intro xs vs m H M z M' Q rv hm e k
  unfold nSum at e
  rw [hK]
  split at e
  · obtain ⟨v, rfl, r1⟩ := rvs1 rv
    obtain ⟨p, ws, rfl, hp, hd⟩ := rv_lst r1
    obtain ⟨ns, h1, h2⟩ := Option.map_eq_some_iff.mp e
    have := intsOf_dq hd h1
    subst this
    exact ⟨p, ns, rfl, .inl (rd_of hp), kq hm (congrArg some h2) k (Dq.int _)⟩
  · obtain ⟨v, rfl, r1⟩ := rvs1 rv
    obtain ⟨p, ys, ws, rfl, hr, hM, hH, hd⟩ := rv_ob hm r1
    rw [hM] at e
    obtain ⟨ns, h1, h2⟩ := Option.map_eq_some_iff.mp e
    have := intsOf_dq hd h1
    subst this
    exact ⟨p, ns, rfl, .inl (.inl hH), kq hm (congrArg some h2) k (Dq.int _)⟩
  · cases e⟩
theorem b_max1 (hc : X.calm = true := by rfl) (hK : X.K = P.K := by rfl) : BuiltF X P "max" nMax1 := ⟨_, cr_max hc, by
  intro xs vs m H M z M' Q rv hm e k
  unfold nMax1 at e
  rw [hK]
  split at e
  · rename_i M0 i xs0
    obtain ⟨v, rfl, r1⟩ := rvs1 rv
    obtain ⟨p, ws, rfl, hp, hd⟩ := rv_lst r1
    obtain ⟨ns, h1, h2⟩ := Option.map_eq_some_iff.mp e
    have hall : intsOf (.int i :: xs0) = some (i :: ns) := by
      show (intsOf xs0).map (i :: ·) = _
      rw [h1]; rfl
    have := intsOf_dq hd hall
    subst this
    refine ⟨p, i :: ns, rfl, .inl (rd_of hp), by simp, fun mx hin hmx => ?_⟩
    obtain ⟨g1, g2⟩ := mxL_le ns i
    have e1 : mx = mxL ns i := by
      have mem : ∀ (l : List Int) (m0 : Int), mxL l m0 = m0 ∨ mxL l m0 ∈ l := by
        intro l
        induction l with
        | nil => exact fun m0 => .inl rfl
        | cons a r ih =>
          intro m0
          unfold mxL
          rcases ih (if m0 < a then a else m0) with q | q
          · by_cases c : m0 < a
            · rw [if_pos c] at q ⊢
              exact .inr (by rw [q]; exact List.mem_cons_self ..)
            · rw [if_neg c] at q ⊢
              exact .inl q
          · exact .inr (List.mem_cons_of_mem _ q)
      have up : mx ≤ mxL ns i := by
        rcases List.mem_cons.mp hin with rfl | hin
        · exact g1
        · exact g2 mx hin
      have dn : mxL ns i ≤ mx := by
        rcases mem ns i with q | q
        · rw [q]; exact hmx i (List.mem_cons_self ..)
        · exact hmx _ (List.mem_cons_of_mem _ q)
      omega
    rw [e1]
    exact kq hm (congrArg some h2) k (Dq.int _)
  · cases e⟩
end
/-! ### x.index(y) of a list, x.pop(i) -/
def idxOf (d : PyData) : List PyData → Nat → Option Nat
  | [], _ => none
  | z :: r, j => if PyData.eqv z d then some j else idxOf d r (j + 1)
theorem idxOf_ok {d : PyData} : ∀ {xs : List PyData} {k j : Nat}, idxOf d xs k = some j → ∃ i z, j = k + i ∧ xs[i]? = some z ∧ PyData.eqv z d = true ∧ ∀ (m : Nat) (z' : PyData), m < i → xs[m]? = some z' → PyData.eqv z' d = false
  | [], _, _, h => by cases h
  | z :: r, k, j, h => by
    unfold idxOf at h
    split at h
    · rename_i hz
      cases h
      exact ⟨0, z, rfl, rfl, hz, fun m z' hm => by omega⟩
    · rename_i hz
      obtain ⟨i, y, h1, h2, h3, h4⟩ := idxOf_ok h
      refine ⟨i + 1, y, by omega, by simpa using h2, h3, fun m z' hm hx => ?_⟩
      cases m with
      | zero =>
        simp at hx
        subst hx
        simpa using hz
      | succ m => exact h4 m z' (by omega) (by simpa using hx)
def eIdx (fo : EF) (fr : AF) : EF := fun ρ M => bnd (fo ρ M) fun x M1 => bnd (fr ρ M1) fun ys M2 => match x, ys with
  | .p (.list xs), [.p d] => if shp (.list xs) && shp d then (idxOf d xs 0).map fun (j : Nat) => (Val.p (.int (j : Int)), M2) else none
  | _, _ => none
section
variable {X : Cx} {P : Par} {o a : Expr} {es : List Expr} {fo : EF} {fr : AF} {apos cpos : Pos} {k0 : Nat}
theorem ae_idx (hr : Room k0 X.A) (ho : PE X o (T P fo)) (ha : PA X (a :: es) (TAr P fr)) (hbase : attributeBase o "index" X.env (eval o X.env) = eval o X.env := by rfl)
    (hfew : ((backTo cpos (starEach (a :: es) X.env)).all (fun x => !x.1) && (backToKw cpos (keywordEach [] X.env)).all (fun x => x.1.isSome)
      && decide ((a :: es).length + ([] : List Keyword).length + (if ([] : List Keyword).isEmpty then 0 else 1) < 30)) = true := by rfl)
    (hline : (apos.endLine == cpos.line) = true := by rfl) (hs : starEach (a :: es) X.env = (false, eval a X.env) :: starEach es X.env := by rfl) (hplain : (backTo cpos (starEach es X.env)).any (·.1) = false := by rfl) (hK : X.K = P.K := by rfl) :
    PE X (.Call (.Attribute o "index" apos) (a :: es) [] cpos) (T P (eIdx fo fr)) := PE.weak (pe_bm PySem.F.plainAttrs_list PySem.F.slot_list_index PySem.F.type_list_index (mt_indexD (hu64 hr)) ho ha hbase hfew hline hs hplain) fun σ H Q ⟨ρ, M, m, z, M', hs, hm, e, k⟩ => by
  obtain ⟨x, M1, e1, e⟩ := bnd_eq e
  obtain ⟨ys, M2, e2, e⟩ := bnd_eq e
  refine ⟨ρ, M, m, x, M1, hs, hm, e1, fun v m1 H1 ev1 rv1 rm1 => ?_⟩
  split at e
  · rename_i xs d _
    split at e
    · rename_i hz
      rw [Bool.and_eq_true] at hz
      obtain ⟨j, h1, h2⟩ := Option.map_eq_some_iff.mp e
      cases h2
      obtain ⟨p, ws, rfl, hp, hd⟩ := rv_lst rv1
      refine ⟨.inl ⟨rfl, _, .inl (rd_of hp)⟩, ρ, M1, m1, _, _, hs.mono ev1, rm1, e2, fun us m2 H2 ev2 rv2 rm2 => ?_⟩
      obtain ⟨u, rfl, ru⟩ := rvs1 rv2
      obtain ⟨i, y, g1, g2, g3, g4⟩ := idxOf_ok h1
      rw [Nat.zero_add] at g1
      subst g1
      rw [hK]
      exact ⟨p, u, d, xs, j, y, rfl, rfl, dp_of (rv1.mono ev2), dp_of ru, hz.1, hz.2, g2, g3, g4, k _ m2 H2 (ev1.trans ev2) (Dq.int _) rm2⟩
    · cases e
  · cases e
theorem ae_pop (ho : PE X o (T P fo)) (ha : PA X (a :: es) (TAr P fr)) (hbase : attributeBase o "pop" X.env (eval o X.env) = eval o X.env := by rfl)
    (hfew : ((backTo cpos (starEach (a :: es) X.env)).all (fun x => !x.1) && (backToKw cpos (keywordEach [] X.env)).all (fun x => x.1.isSome)
      && decide ((a :: es).length + ([] : List Keyword).length + (if ([] : List Keyword).isEmpty then 0 else 1) < 30)) = true := by rfl)
    (hline : (apos.endLine == cpos.line) = true := by rfl) (hs : starEach (a :: es) X.env = (false, eval a X.env) :: starEach es X.env := by rfl) (hplain : (backTo cpos (starEach es X.env)).any (·.1) = false := by rfl) :
    PE X (.Call (.Attribute o "pop" apos) (a :: es) [] cpos) (T P (ePopI fo fr)) := PE.weak (pe_bm PySem.F.plainAttrs_list PySem.F.slot_list_pop PySem.F.type_list_pop mt_popAt ho ha hbase hfew hline hs hplain) fun σ H Q ⟨ρ, M, m, z, M', hs, hm, e, k⟩ => by
  obtain ⟨x, M1, e1, e⟩ := bnd_eq e
  obtain ⟨ys, M2, e2, e⟩ := bnd_eq e
  refine ⟨ρ, M, m, x, M1, hs, hm, e1, fun v m1 H1 ev1 rv1 rm1 => ?_⟩
  split at e
  · rename_i r i _
    split at e
    · rename_i xs hx
      split at e
      · rename_i y hy
        split at e
        · rename_i hi
          cases e
          obtain ⟨a1, xs1, vs1, rfl, ha1, hM1, hH1, hd1⟩ := rv_ob rm1 rv1
          refine ⟨.inl ⟨rfl, _, SqL.of hH1⟩, ρ, M1, m1, _, M2, hs.mono ev1, rm1, e2, fun us m2 H2 ev2 rv2 rm2 => ?_⟩
          obtain ⟨a2, xs2, vs2, ea, ha2, hM2, hH2, hd2⟩ := rv_ob rm2 (rv1.mono ev2)
          cases ea
          rw [hx] at hM2
          cases hM2
          obtain ⟨u, rfl, ru⟩ := rvs1 rv2
          rw [rv_int ru]
          obtain ⟨yv, g1, g2⟩ := dpa_get hd2 hy
          obtain ⟨ev3, rm3⟩ := mut_set rm2 ha2 (dpa_erase i.toNat hd2)
          have hlt := (List.getElem?_eq_some_iff.mp g1).1
          refine ⟨_, _, i, i.toNat, yv, rfl, rfl, hH2, by omega, hi.2, ?_, g1, k _ m2 _ ((ev1.trans ev2).trans ev3) (dp_mono ev3.same _ _ g2) rm3⟩
          have hix : ixN vs2.length i = some i.toNat := by
            unfold ixN
            rw [if_pos hi.1, if_pos (by omega)]
          exact (ixN_seq hix).1
        · cases e
      · cases e
    · cases e
  · cases e
end
end AX

namespace AX
open PySem PySem.Spec PyProof.Rows L2

/-! ## The plain side: what the combinators compute, for simp -/
abbrev I (i : Int) : Val := .p (.int i)
abbrev B (b : Bool) : Val := .p (.bool b)
theorem bnd_ite {α β : Type} (c : Prop) [Decidable c] (a b : Option (α × Sto)) (k : α → Sto → Option β) : bnd (if c then a else b) k = if c then bnd a k else bnd b k := by
  split <;> rfl
def kSeq {α β γ : Type} (f : α → Sto → Option (β × Sto)) (k : β → Sto → Option γ) (a : α) (M : Sto) : Option γ := bnd (f a M) k
@[simp] theorem bnd_bnd {α β γ : Type} (o : Option (α × Sto)) (f : α → Sto → Option (β × Sto)) (k : β → Sto → Option γ) : bnd (bnd o f) k = bnd o (kSeq f k) := by
  cases o <;> rfl
@[simp] theorem kSeq_run {α β γ : Type} (f : α → Sto → Option (β × Sto)) (k : β → Sto → Option γ) (a : α) (M : Sto) : kSeq f k a M = bnd (f a M) k := id rfl
/-! statements one behind another -/
def sq (o : Option (Fl × Rho × Sto)) (k : Rho → Sto → Option (Fl × Rho × Sto)) : Option (Fl × Rho × Sto) := match o with
  | some (.nx, ρ, M) => k ρ M
  | r => r
@[simp] theorem sq_nx (ρ : Rho) (M : Sto) (k) : sq (some (.nx, ρ, M)) k = k ρ M := id rfl
@[simp] theorem sq_rt (v : Val) (ρ : Rho) (M : Sto) (k) : sq (some (.rt v, ρ, M)) k = some (.rt v, ρ, M) := id rfl
@[simp] theorem sq_bk (ρ : Rho) (M : Sto) (k) : sq (some (.bk, ρ, M)) k = some (.bk, ρ, M) := id rfl
@[simp] theorem sq_ct (ρ : Rho) (M : Sto) (k) : sq (some (.ct, ρ, M)) k = some (.ct, ρ, M) := id rfl
@[simp] theorem sq_none (k) : sq none k = none := id rfl
def kSq {α : Type} (f : α → Sto → Option (Fl × Rho × Sto)) (k : SF) (a : α) (M : Sto) : Option (Fl × Rho × Sto) := sq (f a M) k
@[simp] theorem kSq_run {α : Type} (f : α → Sto → Option (Fl × Rho × Sto)) (k : SF) (a : α) (M : Sto) : kSq f k a M = sq (f a M) k := id rfl
@[simp] theorem sq_bnd {α : Type} (o : Option (α × Sto)) (f : α → Sto → Option (Fl × Rho × Sto)) (k) : sq (bnd o f) k = bnd o (kSq f k) := by
  cases o <;> rfl
theorem sq_ite (c : Prop) [Decidable c] (a b : Option (Fl × Rho × Sto)) (k) : sq (if c then a else b) k = if c then sq a k else sq b k := by
  split <;> rfl
def kSqq (f k : SF) (ρ : Rho) (M : Sto) : Option (Fl × Rho × Sto) := sq (f ρ M) k
@[simp] theorem kSqq_run (f k : SF) (ρ : Rho) (M : Sto) : kSqq f k ρ M = sq (f ρ M) k := id rfl
@[simp] theorem sq_sq (o : Option (Fl × Rho × Sto)) (f k : SF) : sq (sq o f) k = sq o (kSqq f k) := by
  cases o with
  | none => rfl
  | some p => obtain ⟨fl, ρ, M⟩ := p; cases fl <;> rfl
def fi (fin : Nat → Val → Sto → Option (Val × Sto)) (n0 : Nat) (o : Option (Fl × Rho × Sto)) : Option (Val × Sto) := match o with
  | some (.rt v, _, M1) => fin n0 v M1
  | some (.nx, _, M1) => fin n0 (.p .none) M1
  | _ => none
@[simp] theorem fi_rt (fin) (n0 : Nat) (v : Val) (ρ : Rho) (M : Sto) : fi fin n0 (some (.rt v, ρ, M)) = fin n0 v M := id rfl
@[simp] theorem fi_nx (fin) (n0 : Nat) (ρ : Rho) (M : Sto) : fi fin n0 (some (.nx, ρ, M)) = fin n0 (.p .none) M := id rfl
def kFi {α : Type} (fin : Nat → Val → Sto → Option (Val × Sto)) (n0 : Nat) (f : α → Sto → Option (Fl × Rho × Sto)) (a : α) (M : Sto) : Option (Val × Sto) := fi fin n0 (f a M)
@[simp] theorem kFi_run {α : Type} (fin) (n0 : Nat) (f : α → Sto → Option (Fl × Rho × Sto)) (a : α) (M : Sto) : kFi fin n0 f a M = fi fin n0 (f a M) := id rfl
@[simp] theorem fi_bnd {α : Type} (fin) (n0 : Nat) (o : Option (α × Sto)) (f : α → Sto → Option (Fl × Rho × Sto)) : fi fin n0 (bnd o f) = bnd o (kFi fin n0 f) := by
  cases o <;> rfl
theorem fi_ite (fin) (n0 : Nat) (c : Prop) [Decidable c] (a b : Option (Fl × Rho × Sto)) : fi fin n0 (if c then a else b) = if c then fi fin n0 a else fi fin n0 b := by
  split <;> rfl
@[simp] theorem fnWith_run (fin) (n N : Nat) (f : SF) (xs : List Val) (M : Sto) : fnWith fin n N f xs M = if xs.length = n then fi fin M.length (f (xs.map some ++ List.replicate (N - n) none) M) else none := by
  unfold fnWith fi
  split <;> rfl
@[simp] theorem finF_p (n0 : Nat) (d : PyData) (M : Sto) : finF n0 (.p d) M = some (.p d, M.take n0) := id rfl
/-! values -/
@[simp] theorem eVar_run (i : Nat) (ρ : Rho) (M : Sto) : eVar i ρ M = match ρ[i]? with
  | some (some x) => some (x, M)
  | _ => none := rfl
def kBin (g : BF) (b : EF) (ρ : Rho) (x : Val) (M : Sto) : Option (Val × Sto) := bnd (b ρ M) (g x)
@[simp] theorem kBin_run (g : BF) (b : EF) (ρ : Rho) (x : Val) (M : Sto) : kBin g b ρ x M = bnd (b ρ M) (g x) := id rfl
@[simp] theorem eBin_run (g : BF) (a b : EF) (ρ : Rho) (M : Sto) : eBin g a b ρ M = bnd (a ρ M) (kBin g b ρ) := id rfl
@[simp] theorem eUn_run (g : UF) (a : EF) (ρ : Rho) (M : Sto) : eUn g a ρ M = bnd (a ρ M) g := id rfl
/-- a truth value taken as a test -/
def tv : Val → Sto → Option (Bool × Sto)
  | .p (.bool b), M => some (b, M)
  | _, _ => none
@[simp] theorem tv_b (b : Bool) (M : Sto) : tv (.p (.bool b)) M = some (b, M) := id rfl
def kIf {β : Type} (f g : Rho → Sto → Option β) (ρ : Rho) (b : Bool) (M : Sto) : Option β := if b = true then f ρ M else g ρ M
@[simp] theorem kIf_run {β : Type} (f g : Rho → Sto → Option β) (ρ : Rho) (b : Bool) (M : Sto) : kIf f g ρ b M = if b = true then f ρ M else g ρ M := id rfl
def kC {α : Type} (a : α) (_ : Rho) (M : Sto) : Option (α × Sto) := some (a, M)
@[simp] theorem kC_run {α : Type} (a : α) (ρ : Rho) (M : Sto) : kC a ρ M = some (a, M) := id rfl
def kTv {β : Type} (k : Bool → Sto → Option β) (x : Val) (M : Sto) : Option β := bnd (tv x M) k
@[simp] theorem kTv_run {β : Type} (k : Bool → Sto → Option β) (x : Val) (M : Sto) : kTv k x M = bnd (tv x M) k := id rfl
def kCh1 (g g' : BF) (fb fc : EF) (ρ : Rho) (x : Val) (M : Sto) : Option (Val × Sto) := bnd (fb ρ M) fun y M2 => bnd (g x y M2) (kTv (kIf (fun ρ M3 => bnd (fc ρ M3) (g' y)) (kC (B false)) ρ))
def kCh2 (g g' : BF) (fc : EF) (ρ : Rho) (x y : Val) (M2 : Sto) : Option (Val × Sto) := bnd (g x y M2) (kTv (kIf (fun ρ M3 => bnd (fc ρ M3) (g' y)) (kC (B false)) ρ))
@[simp] theorem kCh2_run (g g' : BF) (fc : EF) (ρ : Rho) (x y : Val) (M2 : Sto) : kCh2 g g' fc ρ x y M2 = bnd (g x y M2) (kTv (kIf (fun ρ M3 => bnd (fc ρ M3) (g' y)) (kC (B false)) ρ)) := id rfl
@[simp] theorem kCh1_run (g g' : BF) (fb fc : EF) (ρ : Rho) (x : Val) (M : Sto) : kCh1 g g' fb fc ρ x M = bnd (fb ρ M) (kCh2 g g' fc ρ x) := id rfl
theorem tv_cases {β : Type} (x : Val) (M : Sto) (k : Bool → Sto → Option β) (r : Option β) (h1 : ∀ b, x = B b → r = k b M) (h2 : (∀ b, x ≠ B b) → r = none) : r = bnd (tv x M) k := by
  cases x with
  | p d =>
    cases d with
    | bool b => exact h1 b rfl
    | _ => exact h2 (fun b z => by cases z)
  | _ => exact h2 (fun b z => by cases z)
@[simp] theorem eChain_run (g g' : BF) (fa fb fc : EF) (ρ : Rho) (M : Sto) : eChain g g' fa fb fc ρ M = bnd (fa ρ M) (kCh1 g g' fb fc ρ) := by
  unfold eChain kCh1 kTv
  congr 1
  funext x M1
  congr 1
  funext y M2
  congr 1
  funext z M3
  refine tv_cases z M3 _ _ (fun b e => ?_) (fun h => ?_)
  · subst e; cases b <;> rfl
  · split <;> first | rfl | exact absurd rfl (h _)
@[simp] theorem tb_run2 (f : EF) (ρ : Rho) (M : Sto) : tb f ρ M = bnd (f ρ M) tv := by
  unfold tb
  cases q : f ρ M with
  | none => rfl
  | some p =>
    obtain ⟨v, M1⟩ := p
    cases v with
    | p d => cases d <;> rfl
    | _ => rfl
def kNot (b : Bool) (M : Sto) : Option (Bool × Sto) := some (!b, M)
@[simp] theorem kNot_run (b : Bool) (M : Sto) : kNot b M = some (!b, M) := id rfl
@[simp] theorem tNotF_run (t : TF) (ρ : Rho) (M : Sto) : tNotF t ρ M = bnd (t ρ M) kNot := id rfl
@[simp] theorem tAndF_run (t u : TF) (ρ : Rho) (M : Sto) : tAndF t u ρ M = bnd (t ρ M) (kIf u (kC false) ρ) := id rfl
@[simp] theorem tOrF_run (t u : TF) (ρ : Rho) (M : Sto) : tOrF t u ρ M = bnd (t ρ M) (kIf (kC true) u ρ) := id rfl
@[simp] theorem tYesF_run (ρ : Rho) (M : Sto) : tYesF ρ M = some (true, M) := id rfl
@[simp] theorem eAnd_run (f g : EF) (ρ : Rho) (M : Sto) : eAnd f g ρ M = bnd (f ρ M) (kTv (kIf g (kC (B false)) ρ)) := by
  unfold eAnd
  congr 1
  funext x M1
  refine tv_cases x M1 _ _ (fun b e => ?_) (fun h => ?_)
  · subst e; cases b <;> rfl
  · split <;> first | rfl | exact absurd rfl (h _)
@[simp] theorem eOr_run (f g : EF) (ρ : Rho) (M : Sto) : eOr f g ρ M = bnd (f ρ M) (kTv (kIf (kC (B true)) g ρ)) := by
  unfold eOr
  congr 1
  funext x M1
  refine tv_cases x M1 _ _ (fun b e => ?_) (fun h => ?_)
  · subst e; cases b <;> rfl
  · split <;> first | rfl | exact absurd rfl (h _)
def kNotV (b : Bool) (M : Sto) : Option (Val × Sto) := some (B (!b), M)
@[simp] theorem kNotV_run (b : Bool) (M : Sto) : kNotV b M = some (B (!b), M) := id rfl
@[simp] theorem eNot_run (f : EF) (ρ : Rho) (M : Sto) : eNot f ρ M = bnd (f ρ M) (kTv kNotV) := by
  unfold eNot
  congr 1
  funext x M1
  refine tv_cases x M1 _ _ (fun b e => ?_) (fun h => ?_)
  · subst e; rfl
  · split <;> first | rfl | exact absurd rfl (h _)
@[simp] theorem eIf_run (t : TF) (f g : EF) (ρ : Rho) (M : Sto) : eIf t f g ρ M = bnd (t ρ M) (kIf f g ρ) := id rfl
@[simp] theorem aNil_run (ρ : Rho) (M : Sto) : aNil ρ M = some ([], M) := id rfl
def kCons2 (x : Val) (xs : List Val) (M : Sto) : Option (List Val × Sto) := some (x :: xs, M)
@[simp] theorem kCons2_run (x : Val) (xs : List Val) (M : Sto) : kCons2 x xs M = some (x :: xs, M) := id rfl
def kCons (g : AF) (ρ : Rho) (x : Val) (M : Sto) : Option (List Val × Sto) := bnd (g ρ M) (kCons2 x)
@[simp] theorem kCons_run (g : AF) (ρ : Rho) (x : Val) (M : Sto) : kCons g ρ x M = bnd (g ρ M) (kCons2 x) := id rfl
@[simp] theorem aCons_run (f : EF) (g : AF) (ρ : Rho) (M : Sto) : aCons f g ρ M = bnd (f ρ M) (kCons g ρ) := id rfl
@[simp] def tupV (xs : List Val) (M : Sto) : Option (Val × Sto) := match pures xs with
  | some ds => if ds.length ≤ szl then some (.p (.tuple ds), M) else none
  | none => none
@[simp] def lstV (xs : List Val) (M : Sto) : Option (Val × Sto) := match pures xs with
  | some ds => if ds.length ≤ szl then some (.p (.list ds), M) else none
  | none => none
@[simp] def lstMV (xs : List Val) (M : Sto) : Option (Val × Sto) := match pures xs with
  | some ds => if ds.length ≤ szl then some (.ob M.length, M ++ [ds]) else none
  | none => none
@[simp] theorem eTup_run (f : AF) (ρ : Rho) (M : Sto) : eTup f ρ M = bnd (f ρ M) tupV := id rfl
@[simp] theorem eLst_run (f : AF) (ρ : Rho) (M : Sto) : eLst f ρ M = bnd (f ρ M) lstV := id rfl
@[simp] theorem eLstM_run (f : AF) (ρ : Rho) (M : Sto) : eLstM f ρ M = bnd (f ρ M) lstMV := id rfl
@[simp] theorem eCB_run (g : NF) (fr : AF) (ρ : Rho) (M : Sto) : eCB g fr ρ M = bnd (fr ρ M) g := id rfl
def isiV (n : String) : Val → Sto → Option (Val × Sto)
  | .p d, M => some (.p (.bool (isTy n d)), M)
  | .ob _, M => some (.p (.bool (n == "list")), M)
  | _, _ => none
@[simp] theorem isiV_p (n : String) (d : PyData) (M : Sto) : isiV n (.p d) M = some (.p (.bool (isTy n d)), M) := id rfl
@[simp] theorem eIsi_run (n : String) (f : EF) (ρ : Rho) (M : Sto) : eIsi n f ρ M = bnd (f ρ M) (isiV n) := by
  unfold eIsi
  congr 1
  funext x M1
  cases x <;> rfl
def kCall (f : Fn) (ds : List PyData) (xs : List Val) (M : Sto) : Option (Val × Sto) := f (xs ++ ds.map Val.p) M
@[simp] theorem kCall_run (f : Fn) (ds : List PyData) (xs : List Val) (M : Sto) : kCall f ds xs M = f (xs ++ ds.map Val.p) M := id rfl
@[simp] theorem eCall_run (f : Fn) (ds : List PyData) (fr : AF) (ρ : Rho) (M : Sto) : eCall f ds fr ρ M = bnd (fr ρ M) (kCall f ds) := id rfl
def kCK2 (f : Fn) (g : List Val → List Val → List Val) (n m : Nat) (xs ys : List Val) (M : Sto) : Option (Val × Sto) := if xs.length = n ∧ ys.length = m then f (g xs ys) M else none
@[simp] theorem kCK2_run (f : Fn) (g : List Val → List Val → List Val) (n m : Nat) (xs ys : List Val) (M : Sto) : kCK2 f g n m xs ys M = if xs.length = n ∧ ys.length = m then f (g xs ys) M else none := id rfl
def kCK1 (f : Fn) (g : List Val → List Val → List Val) (n m : Nat) (fk : AF) (ρ : Rho) (xs : List Val) (M : Sto) : Option (Val × Sto) := bnd (fk ρ M) (kCK2 f g n m xs)
@[simp] theorem kCK1_run (f : Fn) (g : List Val → List Val → List Val) (n m : Nat) (fk : AF) (ρ : Rho) (xs : List Val) (M : Sto) : kCK1 f g n m fk ρ xs M = bnd (fk ρ M) (kCK2 f g n m xs) := id rfl
@[simp] theorem eCallK_run (f : Fn) (g : List Val → List Val → List Val) (n m : Nat) (fr fk : AF) (ρ : Rho) (M : Sto) : eCallK f g n m fr fk ρ M = bnd (fr ρ M) (kCK1 f g n m fk ρ) := id rfl
@[simp] theorem oNo_run (ρ : Rho) (M : Sto) : oNo ρ M = some (none, M) := id rfl
def oV : Val → Sto → Option (Option Int × Sto)
  | .p (.int i), M => some (some i, M)
  | _, _ => none
@[simp] theorem oV_i (i : Int) (M : Sto) : oV (.p (.int i)) M = some (some i, M) := id rfl
@[simp] theorem oSm_run (f : EF) (ρ : Rho) (M : Sto) : oSm f ρ M = bnd (f ρ M) oV := by
  unfold oSm
  cases q : f ρ M with
  | none => rfl
  | some p =>
    obtain ⟨v, M1⟩ := p
    cases v with
    | p d => cases d <;> rfl
    | _ => rfl
def kSl2 (hi : OF) (ρ : Rho) (x : Val) (l : Option Int) (M : Sto) : Option (Val × Sto) := bnd (hi ρ M) (uSl x l)
@[simp] theorem kSl2_run (hi : OF) (ρ : Rho) (x : Val) (l : Option Int) (M : Sto) : kSl2 hi ρ x l M = bnd (hi ρ M) (uSl x l) := id rfl
def kSl1 (lo hi : OF) (ρ : Rho) (x : Val) (M : Sto) : Option (Val × Sto) := bnd (lo ρ M) (kSl2 hi ρ x)
@[simp] theorem kSl1_run (lo hi : OF) (ρ : Rho) (x : Val) (M : Sto) : kSl1 lo hi ρ x M = bnd (lo ρ M) (kSl2 hi ρ x) := id rfl
@[simp] theorem eSl_run (f : EF) (lo hi : OF) (ρ : Rho) (M : Sto) : eSl f lo hi ρ M = bnd (f ρ M) (kSl1 lo hi ρ) := id rfl
@[simp] theorem uSl_t (xs : List PyData) (lo hi : Option Int) (M : Sto) : uSl (.p (.tuple xs)) lo hi M = some (.p (.tuple (cutA xs lo hi)), M) := id rfl
@[simp] theorem uSl_l (xs : List PyData) (lo hi : Option Int) (M : Sto) : uSl (.p (.list xs)) lo hi M = some (.p (.list (cutA xs lo hi)), M) := id rfl
def revV : Val → Sto → Option (Val × Sto)
  | .p (.tuple ds), M1 => some (.p (.tuple ds.reverse), M1)
  | .p (.list ds), M1 => some (.p (.list ds.reverse), M1)
  | .ob r, M1 => match M1[r]? with
    | some ds => some (.p (.list ds.reverse), M1)
    | none => none
  | _, _ => none
@[simp] theorem revV_t (ds : List PyData) (M : Sto) : revV (.p (.tuple ds)) M = some (.p (.tuple ds.reverse), M) := id rfl
@[simp] theorem revV_l (ds : List PyData) (M : Sto) : revV (.p (.list ds)) M = some (.p (.list ds.reverse), M) := id rfl
@[simp] theorem eRev_run (f : EF) (ρ : Rho) (M : Sto) : eRev f ρ M = bnd (f ρ M) revV := by
  unfold eRev
  congr 1
  funext x M1
  cases x with
  | p d => cases d <;> rfl
  | _ => rfl
/-! targets -/
@[simp] theorem gSeq_nil (ρ : Rho) (M : Sto) : gSeq [] [] ρ M = some (ρ, M) := id rfl
@[simp] theorem gSeq_cons (g : GF) (gs : List GF) (d : PyData) (ds : List PyData) (ρ : Rho) (M : Sto) : gSeq (g :: gs) (d :: ds) ρ M = bnd (g (.p d) ρ M) (gSeq gs ds) := id rfl
@[simp] theorem gT_run (gs : List GF) (ds : List PyData) (ρ : Rho) (M : Sto) : gT gs (.p (.tuple ds)) ρ M = gSeq gs ds ρ M := id rfl
def ixS (x : Val) (ρ : Rho) (o i : Val) (M : Sto) : Option (Rho × Sto) := match o, i, x with
  | .ob r, .p (.int j), .p d => match M[r]? with
    | some xs => match ixN xs.length j with
      | some k => some (ρ, M.set r (xs.set k d))
      | none => none
    | none => none
  | _, _, _ => none
def kGI (fi : EF) (x : Val) (ρ : Rho) (o : Val) (M : Sto) : Option (Rho × Sto) := bnd (fi ρ M) (ixS x ρ o)
@[simp] theorem kGI_run (fi : EF) (x : Val) (ρ : Rho) (o : Val) (M : Sto) : kGI fi x ρ o M = bnd (fi ρ M) (ixS x ρ o) := id rfl
@[simp] theorem gIx_run (fo fi : EF) (x : Val) (ρ : Rho) (M : Sto) : gIx fo fi x ρ M = bnd (fo ρ M) (kGI fi x ρ) := id rfl
/-! statements -/
@[simp] theorem sNx_run (ρ : Rho) (M : Sto) : sNx ρ M = some (.nx, ρ, M) := id rfl
@[simp] theorem sBk_run (ρ : Rho) (M : Sto) : sBk ρ M = some (.bk, ρ, M) := id rfl
@[simp] theorem sCt_run (ρ : Rho) (M : Sto) : sCt ρ M = some (.ct, ρ, M) := id rfl
@[simp] theorem sNo_run (ρ : Rho) (M : Sto) : sNo ρ M = none := id rfl
@[simp] theorem sSeq_run (f g : SF) (ρ : Rho) (M : Sto) : sSeq f g ρ M = sq (f ρ M) g := by
  unfold sSeq sq
  cases f ρ M with
  | none => rfl
  | some p => obtain ⟨fl, ρ1, M1⟩ := p; cases fl <;> rfl
def kRt (ρ : Rho) (x : Val) (M : Sto) : Option (Fl × Rho × Sto) := some (.rt x, ρ, M)
@[simp] theorem kRt_run (ρ : Rho) (x : Val) (M : Sto) : kRt ρ x M = some (.rt x, ρ, M) := id rfl
@[simp] theorem sRt_run (f : EF) (ρ : Rho) (M : Sto) : sRt f ρ M = bnd (f ρ M) (kRt ρ) := id rfl
def kEx (ρ : Rho) (_ : Val) (M : Sto) : Option (Fl × Rho × Sto) := some (.nx, ρ, M)
@[simp] theorem kEx_run (ρ : Rho) (x : Val) (M : Sto) : kEx ρ x M = some (.nx, ρ, M) := id rfl
@[simp] theorem sEx_run (f : EF) (ρ : Rho) (M : Sto) : sEx f ρ M = bnd (f ρ M) (kEx ρ) := id rfl
@[simp] theorem sIf_run (t : TF) (f g : SF) (ρ : Rho) (M : Sto) : sIf t f g ρ M = bnd (t ρ M) (kIf f g ρ) := id rfl
def kNx (ρ : Rho) (M : Sto) : Option (Fl × Rho × Sto) := some (.nx, ρ, M)
@[simp] theorem kNx_run (ρ : Rho) (M : Sto) : kNx ρ M = some (.nx, ρ, M) := id rfl
def kAs (g : GF) (ρ : Rho) (x : Val) (M : Sto) : Option (Fl × Rho × Sto) := bnd (g x ρ M) kNx
@[simp] theorem kAs_run (g : GF) (ρ : Rho) (x : Val) (M : Sto) : kAs g ρ x M = bnd (g x ρ M) kNx := id rfl
@[simp] theorem sAs_run (f : EF) (g : GF) (ρ : Rho) (M : Sto) : sAs f g ρ M = bnd (f ρ M) (kAs g ρ) := id rfl
def prV (i j : Nat) (ρ : Rho) (xs : List Val) (M : Sto) : Option (Fl × Rho × Sto) := match xs with
  | [x, y] => some (.nx, (ρ.set i (some x)).set j (some y), M)
  | _ => none
@[simp] theorem prV_run (i j : Nat) (ρ : Rho) (x y : Val) (M : Sto) : prV i j ρ [x, y] M = some (.nx, (ρ.set i (some x)).set j (some y), M) := id rfl
@[simp] theorem sPr_run (i j : Nat) (fr : AF) (ρ : Rho) (M : Sto) : sPr i j fr ρ M = bnd (fr ρ M) (prV i j ρ) := id rfl
def prV3 (i j l : Nat) (ρ : Rho) (xs : List Val) (M : Sto) : Option (Fl × Rho × Sto) := match xs with
  | [x, y, z] => some (.nx, ((ρ.set i (some x)).set j (some y)).set l (some z), M)
  | _ => none
@[simp] theorem prV3_run (i j l : Nat) (ρ : Rho) (x y z : Val) (M : Sto) : prV3 i j l ρ [x, y, z] M = some (.nx, ((ρ.set i (some x)).set j (some y)).set l (some z), M) := id rfl
@[simp] theorem sPr3_run (i j l : Nat) (fr : AF) (ρ : Rho) (M : Sto) : sPr3 i j l fr ρ M = bnd (fr ρ M) (prV3 i j l ρ) := id rfl
def kFor (g : GF) (f : SF) (ρ : Rho) (xs : List PyData) (M : Sto) : Option (Fl × Rho × Sto) := forL g f xs ρ M
@[simp] theorem kFor_run (g : GF) (f : SF) (ρ : Rho) (xs : List PyData) (M : Sto) : kFor g f ρ xs M = forL g f xs ρ M := id rfl
@[simp] theorem sFor_run (fi : IF) (g : GF) (f : SF) (ρ : Rho) (M : Sto) : sFor fi g f ρ M = bnd (fi ρ M) (kFor g f ρ) := id rfl
def seqV : Val → Sto → Option (List PyData × Sto)
  | .p (.list xs), M => some (xs, M)
  | .p (.tuple xs), M => some (xs, M)
  | .p (.str z), M => some (z.cps.toList.map fun c => .str ⟨#[c]⟩, M)
  | _, _ => none
@[simp] theorem seqV_l (xs : List PyData) (M : Sto) : seqV (.p (.list xs)) M = some (xs, M) := id rfl
@[simp] theorem seqV_t (xs : List PyData) (M : Sto) : seqV (.p (.tuple xs)) M = some (xs, M) := id rfl
@[simp] theorem iSeq_run (f : EF) (ρ : Rho) (M : Sto) : iSeq f ρ M = bnd (f ρ M) seqV := by
  unfold iSeq
  cases q : f ρ M with
  | none => rfl
  | some p =>
    obtain ⟨v, M1⟩ := p
    cases v with
    | p d => cases d <;> rfl
    | _ => rfl
def rngV : Val → Sto → Option (List PyData × Sto)
  | .p (.int j), M => if i62 j then some (rangeD 0 j.toNat, M) else none
  | _, _ => none
@[simp] theorem rngV_i (j : Int) (M : Sto) : rngV (.p (.int j)) M = if i62 j then some (rangeD 0 j.toNat, M) else none := id rfl
@[simp] theorem iRange1_run (f : EF) (ρ : Rho) (M : Sto) : iRange1 f ρ M = bnd (f ρ M) rngV := by
  unfold iRange1
  cases q : f ρ M with
  | none => rfl
  | some p =>
    obtain ⟨v, M1⟩ := p
    cases v with
    | p d => cases d <;> rfl
    | _ => rfl
def rngV2 (x y : Val) (M : Sto) : Option (List PyData × Sto) := match x, y with
  | .p (.int i), .p (.int j) => if i62 i && i62 j then some (rangeD i (j - i).toNat, M) else none
  | _, _ => none
@[simp] theorem rngV2_i (i j : Int) (M : Sto) : rngV2 (.p (.int i)) (.p (.int j)) M = if i62 i && i62 j then some (rangeD i (j - i).toNat, M) else none := id rfl
def kRng2 (fb : EF) (ρ : Rho) (x : Val) (M : Sto) : Option (List PyData × Sto) := bnd (fb ρ M) (rngV2 x)
@[simp] theorem kRng2_run (fb : EF) (ρ : Rho) (x : Val) (M : Sto) : kRng2 fb ρ x M = bnd (fb ρ M) (rngV2 x) := id rfl
@[simp] theorem iRange2_run (fa fb : EF) (ρ : Rho) (M : Sto) : iRange2 fa fb ρ M = bnd (fa ρ M) (kRng2 fb ρ) := id rfl
def kLcE (ds : List PyData) (M : Sto) : Option (Val × Sto) := some (.p (.list ds), M)
@[simp] theorem kLcE_run (ds : List PyData) (M : Sto) : kLcE ds M = some (.p (.list ds), M) := id rfl
def kLc (g : GF) (t : TF) (e : EF) (ρ : Rho) (xs : List PyData) (M : Sto) : Option (Val × Sto) := if xs.length ≤ szl then bnd (lcL g t e ρ xs M) kLcE else none
@[simp] theorem kLc_run (g : GF) (t : TF) (e : EF) (ρ : Rho) (xs : List PyData) (M : Sto) : kLc g t e ρ xs M = if xs.length ≤ szl then bnd (lcL g t e ρ xs M) kLcE else none := id rfl
@[simp] theorem eLc_run (fi : IF) (g : GF) (t : TF) (e : EF) (vs : List Nat) (ρ : Rho) (M : Sto) : eLc fi g t e vs ρ M = bnd (fi ρ M) (kLc g t e (wipeR ρ vs)) := id rfl
def appV (x : Val) (ys : List Val) (M : Sto) : Option (Val × Sto) := match x, ys with
  | .ob r, [.p d] => match M[r]? with
    | some xs => if xs.length < szl then some (.p .none, M.set r (xs ++ [d])) else none
    | none => none
  | _, _ => none
def kApp (fr : AF) (ρ : Rho) (x : Val) (M : Sto) : Option (Val × Sto) := bnd (fr ρ M) (appV x)
@[simp] theorem kApp_run (fr : AF) (ρ : Rho) (x : Val) (M : Sto) : kApp fr ρ x M = bnd (fr ρ M) (appV x) := id rfl
@[simp] theorem eApp_run (fo : EF) (fr : AF) (ρ : Rho) (M : Sto) : eApp fo fr ρ M = bnd (fo ρ M) (kApp fr ρ) := id rfl
/-! operators at numbers -/
@[simp] theorem bAdd_i (i j : Int) (M : Sto) : bAdd (I i) (I j) M = some (I (i + j), M) := id rfl
@[simp] theorem bSub_i (i j : Int) (M : Sto) : bSub (I i) (I j) M = some (I (i - j), M) := id rfl
@[simp] theorem bMul_i (i j : Int) (M : Sto) : bMul (I i) (I j) M = if mulOk i j then some (I (i * j), M) else none := id rfl
@[simp] theorem bDiv_i (i j : Int) (M : Sto) : bDiv (I i) (I j) M = if divOk j then some (I (i / j), M) else none := id rfl
@[simp] theorem bMod_i (i j : Int) (M : Sto) : bMod (I i) (I j) M = if 0 < j then some (I (i % j), M) else none := id rfl
@[simp] theorem bLt_i (i j : Int) (M : Sto) : bLt (I i) (I j) M = some (B (decide (i < j)), M) := id rfl
@[simp] theorem bLe_i (i j : Int) (M : Sto) : bLe (I i) (I j) M = some (B (decide (i ≤ j)), M) := id rfl
@[simp] theorem bGt_i (i j : Int) (M : Sto) : bGt (I i) (I j) M = some (B (decide (j < i)), M) := id rfl
@[simp] theorem bGe_i (i j : Int) (M : Sto) : bGe (I i) (I j) M = some (B (decide (j ≤ i)), M) := id rfl
@[simp] theorem uNeg_i (i : Int) (M : Sto) : uNeg (I i) M = some (I (-i), M) := id rfl
@[simp] theorem bIsN_p (d : PyData) (M : Sto) : bIsN (.p d) (.p .none) M = some (B (isNon d), M) := by cases d <;> rfl
@[simp] theorem bNotN_p (d : PyData) (M : Sto) : bNotN (.p d) (.p .none) M = some (B (!isNon d), M) := by cases d <;> rfl
@[simp] theorem bothS_s (a b : Str) : bothS (.str a) (.str b) = true := id rfl
@[simp] theorem bEq_p (d e : PyData) (M : Sto) : bEq (.p d) (.p e) M = if (shp d && shp e) || bothS d e then some (B (PyData.eqv d e), M) else none := id rfl
@[simp] theorem bNe_p (d e : PyData) (M : Sto) : bNe (.p d) (.p e) M = if (shp d && shp e) || bothS d e then
      some (B (!PyData.eqv d e), M) else none := rfl
@[simp] theorem bIx_t (xs : List PyData) (i : Int) (M : Sto) : bIx (.p (.tuple xs)) (I i) M = (atI xs i).map fun d => (.p d, M) := id rfl
@[simp] theorem bIx_l (xs : List PyData) (i : Int) (M : Sto) : bIx (.p (.list xs)) (I i) M = (atI xs i).map fun d => (.p d, M) := id rfl
@[simp] theorem bIx_o (r : Nat) (i : Int) (M : Sto) : bIx (.ob r) (I i) M = (M[r]?.bind fun xs => atI xs i).map fun d => (.p d, M) := id rfl
@[simp] theorem nInt_i (i : Int) (M : Sto) : nInt [I i] M = some (I i, M) := id rfl
@[simp] theorem nAbs_i (i : Int) (M : Sto) : nAbs [I i] M = some (I (i.natAbs : Int), M) := by
  have e : (if i < 0 then -i else i) = (i.natAbs : Int) := by split <;> omega
  show some (I (if i < 0 then -i else i), M) = _
  rw [e]
@[simp] theorem szl_val : szl = 16777216 := id rfl
@[simp] theorem nMax_i (i j : Int) (M : Sto) : nMax [I i, I j] M = some (I (if j > i then j else i), M) := id rfl
@[simp] theorem nLen_t (xs : List PyData) (M : Sto) : nLen [.p (.tuple xs)] M = some (I xs.length, M) := id rfl
@[simp] theorem nLen_l (xs : List PyData) (M : Sto) : nLen [.p (.list xs)] M = some (I xs.length, M) := id rfl
@[simp] theorem nTuple_l (xs : List PyData) (M : Sto) : nTuple [.p (.list xs)] M = some (.p (.tuple xs), M) := id rfl
@[simp] theorem nTuple_t (xs : List PyData) (M : Sto) : nTuple [.p (.tuple xs)] M = some (.p (.tuple xs), M) := id rfl
@[simp] theorem nList_l (xs : List PyData) (M : Sto) : nList [.p (.list xs)] M = some (.p (.list xs), M) := id rfl
@[simp] theorem nList_t (xs : List PyData) (M : Sto) : nList [.p (.tuple xs)] M = some (.p (.list xs), M) := id rfl
/-! places -/
theorem atI_nat {α : Type} (xs : List α) (i : Nat) : atI xs (i : Int) = xs[i]? := by
  unfold atI ixN
  rw [if_pos (by omega)]
  by_cases h : i < xs.length
  · rw [if_pos (by omega)]
    simp
  · rw [if_neg (by omega)]
    simp; omega
@[simp] theorem atI_0 {α : Type} (xs : List α) : atI xs 0 = xs[0]? := atI_nat xs 0
@[simp] theorem atI_1 {α : Type} (xs : List α) : atI xs 1 = xs[1]? := atI_nat xs 1
@[simp] theorem atI_2 {α : Type} (xs : List α) : atI xs 2 = xs[2]? := atI_nat xs 2
@[simp] theorem atI_3 {α : Type} (xs : List α) : atI xs 3 = xs[3]? := atI_nat xs 3
@[simp] theorem atI_m1 {α : Type} (xs : List α) (x : α) : atI (xs ++ [x]) (-1) = some x := by
  unfold atI ixN
  rw [if_neg (by omega), if_pos (by simp; omega)]
  have e : ((-1 : Int) + ((xs ++ [x]).length : Int)).toNat = xs.length := by simp; omega
  rw [e]
  simp
theorem ixN_nat (n i : Nat) (h : i < n) : ixN n (i : Int) = some i := by
  unfold ixN
  rw [if_pos (by omega), if_pos (by omega)]
  simp
/-! while -/
noncomputable def lpW (t : TF) (f : SF) (o : Option (Fl × Rho × Sto)) : Option (Fl × Rho × Sto) := match o with
  | some (.nx, ρ2, M2) => sWh t f ρ2 M2
  | some (.ct, ρ2, M2) => sWh t f ρ2 M2
  | some (.bk, ρ2, M2) => some (.nx, ρ2, M2)
  | some (.rt v, ρ2, M2) => some (.rt v, ρ2, M2)
  | none => none
@[simp] theorem lpW_nx (t : TF) (f : SF) (ρ : Rho) (M : Sto) : lpW t f (some (.nx, ρ, M)) = sWh t f ρ M := id rfl
@[simp] theorem lpW_ct (t : TF) (f : SF) (ρ : Rho) (M : Sto) : lpW t f (some (.ct, ρ, M)) = sWh t f ρ M := id rfl
@[simp] theorem lpW_bk (t : TF) (f : SF) (ρ : Rho) (M : Sto) : lpW t f (some (.bk, ρ, M)) = some (.nx, ρ, M) := id rfl
@[simp] theorem lpW_rt (t : TF) (f : SF) (v : Val) (ρ : Rho) (M : Sto) : lpW t f (some (.rt v, ρ, M)) = some (.rt v, ρ, M) := id rfl
noncomputable def kLpW {α : Type} (t : TF) (f : SF) (k : α → Sto → Option (Fl × Rho × Sto)) (a : α) (M : Sto) : Option (Fl × Rho × Sto) := lpW t f (k a M)
@[simp] theorem kLpW_run {α : Type} (t : TF) (f : SF) (k : α → Sto → Option (Fl × Rho × Sto)) (a : α) (M : Sto) : kLpW t f k a M = lpW t f (k a M) := id rfl
@[simp] theorem lpW_bnd {α : Type} (t : TF) (f : SF) (o : Option (α × Sto)) (k : α → Sto → Option (Fl × Rho × Sto)) : lpW t f (bnd o k) = bnd o (kLpW t f k) := by
  cases o <;> rfl
noncomputable def kWh (t : TF) (f : SF) (ρ : Rho) (b : Bool) (M : Sto) : Option (Fl × Rho × Sto) := if b = true then lpW t f (f ρ M) else some (.nx, ρ, M)
@[simp] theorem kWh_run (t : TF) (f : SF) (ρ : Rho) (b : Bool) (M : Sto) : kWh t f ρ b M = if b = true then lpW t f (f ρ M) else some (.nx, ρ, M) := id rfl
theorem sWh_run (t : TF) (f : SF) (ρ : Rho) (M : Sto) : sWh t f ρ M = bnd (t ρ M) (kWh t f ρ) := by
  rw [sWh_eq]
  rfl
/-! small facts -/
theorem pures_ps (ds : List PyData) : pures (ds.map Val.p) = some ds := by
  induction ds with
  | nil => rfl
  | cons d ds ih => simp [ih]
theorem mulOk_l {i j : Int} (h : i.natAbs < 2 ^ 64) : mulOk i j = true := by
  unfold mulOk
  simp [h]
theorem mulOk_r {i j : Int} (h : j.natAbs < 2 ^ 64) : mulOk i j = true := by
  unfold mulOk
  simp [h]
theorem log2_lt {n k : Nat} (h : n < 2 ^ k) (hk : 0 < k) : n.log2 < k := by
  by_cases hn : n = 0
  · subst hn; simpa using hk
  · exact (Nat.log2_lt hn).mpr h
theorem mulOk_p {i j : Int} {k l : Nat} (hi : i.natAbs < 2 ^ k) (hj : j.natAbs < 2 ^ l) (h1 : k ≤ 400000) (h2 : l ≤ 400000) : mulOk i j = true := by
  unfold mulOk
  by_cases hk : k = 0
  · subst hk
    have : i.natAbs = 0 := by omega
    simp [this]
  · by_cases hl : l = 0
    · subst hl
      have : j.natAbs = 0 := by omega
      simp [this]
    · have a := log2_lt hi (by omega)
      have b := log2_lt hj (by omega)
      simp only [Bool.or_eq_true, Bool.and_eq_true, decide_eq_true_eq]
      exact .inr ⟨by omega, by omega⟩
theorem divOk_p {j : Int} {k : Nat} (h0 : 0 < j) (h : j.natAbs < 2 ^ k) (hk : k ≤ 9000) : divOk j = true := by
  unfold divOk
  have : 0 < k := by
    by_cases z : k = 0
    · subst z; omega
    · omega
  have := log2_lt h this
  simp only [Bool.and_eq_true, decide_eq_true_eq]
  exact ⟨h0, by omega⟩
end AX

namespace AX
open PySem PySem.Spec PyProof.Rows L2

/-! ## a tuple of values, lists that will be changed among them, taken apart at once -/
def gSeqV : List GF → List Val → Rho → Sto → Option (Rho × Sto)
  | [], [], ρ, M => some (ρ, M)
  | g :: gs, d :: ds, ρ, M => bnd (g d ρ M) (gSeqV gs ds)
  | _, _, _, _ => none
@[simp] theorem gSeqV_nil (ρ : Rho) (M : Sto) : gSeqV [] [] ρ M = some (ρ, M) := id rfl
@[simp] theorem gSeqV_cons (g : GF) (gs : List GF) (d : Val) (ds : List Val) (ρ : Rho) (M : Sto) : gSeqV (g :: gs) (d :: ds) ρ M = bnd (g d ρ M) (gSeqV gs ds) := id rfl
theorem gSeqV_len : ∀ {gs : List GF} {ds : List Val} {ρ : Rho} {M : Sto} {r : Rho × Sto}, gSeqV gs ds ρ M = some r → ds.length = gs.length
  | [], [], _, _, _, _ => rfl
  | g :: gs, d :: ds, _, _, _, e => by
    obtain ⟨_, _, _, e2⟩ := bnd_eq (b := _) e
    simp [gSeqV_len e2]
  | [], _ :: _, _, _, _, e => by cases e
  | _ :: _, [], _, _, _, e => by cases e
def kAsV (gs : List GF) (ρ : Rho) (xs : List Val) (M : Sto) : Option (Fl × Rho × Sto) := bnd (gSeqV gs xs ρ M) kNx
@[simp] theorem kAsV_run (gs : List GF) (ρ : Rho) (xs : List Val) (M : Sto) : kAsV gs ρ xs M = bnd (gSeqV gs xs ρ M) kNx := id rfl
def sAsV (fr : AF) (gs : List GF) : SF := fun ρ M => bnd (fr ρ M) (kAsV gs ρ)
@[simp] theorem sAsV_run (fr : AF) (gs : List GF) (ρ : Rho) (M : Sto) : sAsV fr gs ρ M = bnd (fr ρ M) (kAsV gs ρ) := id rfl
section
variable {X : Cx} {P : Par} {pos : Pos} {vs : List Nat}
def TGwV (P : Par) (vs : List Nat) (gs : List GF) : TGs := fun us σ H Q => ∃ ρ M m ds ρ' M', RS P m H σ ρ ∧ RM P m H M ∧ RVs P m H ds us ∧ gSeqV gs ds ρ M = some (ρ', M') ∧ ∀ σ' m' H', wipe σ' vs = wipe σ vs → Ev m m' H H' → RS P m' H' σ' ρ' → RM P m' H' M' → Q σ' H'
theorem agv_nil : PGs X [] (TGwV P vs []) := by
  refine PGs.weak pgs_nil fun us σ H Q ⟨ρ, M, m, ds, ρ', M', hs, hm, hd, e, k⟩ => ?_
  cases ds with
  | nil =>
    cases e
    cases hd
    exact ⟨rfl, k σ m H rfl .refl hs hm⟩
  | cons d ds => cases e
theorem agv_cons {t : Expr} {ts : List Expr} {g : GF} {gs : List GF} (h1 : PG X t (TGw P vs g)) (h2 : PGs X ts (TGwV P vs gs)) (hs : (assignEach (t :: ts) X.env).map (·.2) = assign t X.env :: (assignEach ts X.env).map (·.2) := by rfl) : PGs X (t :: ts) (TGwV P vs (g :: gs)) := by
  refine PGs.weak (pgs_cons h1 h2 hs) fun us σ H Q ⟨ρ, M, m, ds, ρ', M', hs, hm, hd, e, k⟩ => ?_
  cases ds with
  | nil => cases e
  | cons d ds =>
    obtain ⟨ρ1, M1, e1, e2⟩ := bnd_eq e
    cases hd with
    | cons a b =>
      refine ⟨_, _, rfl, ρ, M, m, d, ρ1, M1, hs, hm, a, e1, fun σ1 m1 H1 w1 ev1 rs1 rm1 => ?_⟩
      exact ⟨ρ1, M1, m1, ds, ρ', M', rs1, rm1, b.mono ev1, e2, fun σ2 m2 H2 w2 ev2 rs2 rm2 => k σ2 m2 H2 (w2.trans w1) (ev1.trans ev2) rs2 rm2⟩
theorem as_asgV {ts es : List Expr} {kt k2 : Nat} {pt pt2 : Pos} {gs : List GF} {fr : AF} {n : Nat} (ha : PA X es (TAr P fr)) (hg : PGs X ts (TGwV P vs gs)) (hl : gs.length = n := by rfl) (hz : n ≤ szl := by decide) (hc : X.calm = true := by rfl) (hn : (assignEach ts X.env).length = n := by rfl) (hst : (assignEach ts X.env).findIdx? (·.1) = none := by rfl) (hs : swapsWithSole [.Tuple ts kt pt] (.Tuple es k2 pt2) pos.line X.env = pure false := by rfl) (hw : swappedStores [.Tuple ts kt pt] (.Tuple es k2 pt2) X.env = pure none := by rfl)
    (h1 : (assignEach [.Tuple ts kt pt] X.env).map (·.2) = [assign (.Tuple ts kt pt) X.env] := by rfl) : PS X (.Assign [.Tuple ts kt pt] (.Tuple es k2 pt2) pos) (TSt P (sAsV fr gs)) :=
  PS.weak (ps_asg (pe_tup ha) (pg_tup hc hg hn hst) hs hw h1) fun D σ H ⟨ρ, M, m, fl, ρ', M', hs, hm, ee, k⟩ => by
  obtain ⟨xs, M1, e1, e2⟩ := bnd_eq ee
  obtain ⟨ρ1, M2, e3, e4⟩ := bnd_eq e2
  cases e4
  refine ⟨ρ, M, m, xs, M1, hs, hm, e1, fun us m1 H1 ev1 rv1 rm1 => ?_⟩
  have ln : us.length = n := by rw [← rv1.len, gSeqV_len e3, hl]
  refine ⟨by rw [ln]; exact hz, fun p hp => ?_⟩
  have ev2 := ev1.trans (ev_new (o := .tup us) rm1 hp)
  refine ⟨p, us, rfl, .inl ?_, ln, ρ, M1, m1, xs, _, _, hs.mono ev2, rm1.new hp, rv1.mono (ev_new rm1 hp), e3, fun σ' m' H' _ ev rs rm => k σ' m' H' (ev2.trans ev) rs rm⟩
  exact rd_of (.inl (msk_new rm1 hp (fun _ z => by cases z)))
end
end AX

namespace AX
open PySem PySem.Spec PyProof.Rows L2

/-! ## going through a list that may change: as long as it does not -/
abbrev IFO := Rho → Sto → Option ((List PyData × (Sto → Prop)) × Sto)
def WalkO (P : Par) (J : It) (m0 : Mw) (H0 : Hp) (L : Sto → Prop) (xs : List PyData) : Prop := ∃ (G : Hp → Prop) (Y : Nat → Hp → V → Hp → Prop), Walk J xs.length G Y ∧ (∀ H m M, Same (msk m0 H0) (msk m H) → (∃ l, m.m = m0.m ++ l) → RM P m H M → L M → G H) ∧
  ∀ i H x H' m M, i < xs.length → Same (msk m0 H0) (msk m H) → (∃ l, m.m = m0.m ++ l) → RM P m H M → L M → Y i H x H' → ∃ d, xs[i]? = some d ∧ Ev m m H H' ∧ RV P m H' (.p d) x ∧ RM P m H' M ∧ ∀ a o, H a = some o → H' a = some o
def TItO (P : Par) (f : IFO) : TI := fun σ H R => ∃ ρ M m xs L M', RS P m H σ ρ ∧ RM P m H M ∧ f ρ M = some ((xs, L), M') ∧ ∀ J m' H', Ev m m' H H' → RM P m' H' M' → WalkO P J m' H' L xs → R J H'
def obV (x : Val) (M : Sto) : Option ((List PyData × (Sto → Prop)) × Sto) := match x with
  | .ob r => match M[r]? with
    | some xs => some ((xs, fun M => M[r]? = some xs), M)
    | none => none
  | _ => none
def iObj (fa : EF) : IFO := fun ρ M => bnd (fa ρ M) obV
open Classical in
noncomputable def lcG (L : Sto → Prop) (g : GF) (t : TF) (e : EF) (ρ : Rho) : List PyData → Sto → Option (List PyData × Sto)
  | [], M => if L M then some ([], M) else none
  | x :: xs, M => if L M then bnd (g (.p x) ρ M) fun ρ1 M1 => bnd (t ρ1 M1) fun b M2 => if b = true then
      bnd (e ρ1 M2) fun v M3 => match v with
        | .p d => bnd (lcG L g t e ρ xs M3) fun ds M4 => some (d :: ds, M4)
        | _ => none
    else lcG L g t e ρ xs M2 else none
theorem lcG_L {L : Sto → Prop} {g : GF} {t : TF} {e : EF} {ρ : Rho} {xs : List PyData} {M : Sto} {r : List PyData × Sto} (h : lcG L g t e ρ xs M = some r) : L M := by
  cases xs <;> · unfold lcG at h
                 split at h
                 · assumption
                 · cases h
theorem lcG_c {L : Sto → Prop} {g : GF} {t : TF} {e : EF} {ρ : Rho} {x : PyData} {xs : List PyData} {M : Sto} {r : List PyData × Sto} (h : lcG L g t e ρ (x :: xs) M = some r) : (bnd (g (.p x) ρ M) fun ρ1 M1 => bnd (t ρ1 M1) fun b M2 => if b = true then
      bnd (e ρ1 M2) fun v M3 => match v with
        | .p d => bnd (lcG L g t e ρ xs M3) fun ds M4 => some (d :: ds, M4)
        | _ => none
    else lcG L g t e ρ xs M2) = some r := by
  have hL := lcG_L h
  unfold lcG at h
  rwa [if_pos hL] at h
theorem lcG_n {L : Sto → Prop} {g : GF} {t : TF} {e : EF} {ρ : Rho} {M : Sto} {r : List PyData × Sto} (h : lcG L g t e ρ [] M = some r) : some (([] : List PyData), M) = some r := by
  have hL := lcG_L h
  unfold lcG at h
  rwa [if_pos hL] at h
open Classical in
noncomputable def forG (L : Sto → Prop) (g : GF) (f : SF) : List PyData → Rho → Sto → Option (Fl × Rho × Sto)
  | [], ρ, M => if L M then some (.nx, ρ, M) else none
  | x :: xs, ρ, M => if L M then bnd (g (.p x) ρ M) fun ρ1 M1 => match f ρ1 M1 with
    | some (.nx, ρ2, M2) => forG L g f xs ρ2 M2
    | some (.ct, ρ2, M2) => forG L g f xs ρ2 M2
    | some (.bk, ρ2, M2) => some (.nx, ρ2, M2)
    | some (.rt v, ρ2, M2) => some (.rt v, ρ2, M2)
    | none => none
    else none
theorem forG_L {L : Sto → Prop} {g : GF} {f : SF} {xs : List PyData} {ρ : Rho} {M : Sto} {r : Fl × Rho × Sto} (h : forG L g f xs ρ M = some r) : L M := by
  cases xs <;> · unfold forG at h
                 split at h
                 · assumption
                 · cases h
theorem forG_c {L : Sto → Prop} {g : GF} {f : SF} {x : PyData} {xs : List PyData} {ρ : Rho} {M : Sto} {r : Fl × Rho × Sto} (h : forG L g f (x :: xs) ρ M = some r) : (bnd (g (.p x) ρ M) fun ρ1 M1 => match f ρ1 M1 with
    | some (.nx, ρ2, M2) => forG L g f xs ρ2 M2
    | some (.ct, ρ2, M2) => forG L g f xs ρ2 M2
    | some (.bk, ρ2, M2) => some (.nx, ρ2, M2)
    | some (.rt v, ρ2, M2) => some (.rt v, ρ2, M2)
    | none => none) = some r := by
  have hL := forG_L h
  unfold forG at h
  rwa [if_pos hL] at h
theorem forG_n {L : Sto → Prop} {g : GF} {f : SF} {ρ : Rho} {M : Sto} {r : Fl × Rho × Sto} (h : forG L g f [] ρ M = some r) : some (Fl.nx, ρ, M) = some r := by
  have hL := forG_L h
  unfold forG at h
  rwa [if_pos hL] at h
noncomputable def eLcO (fi : IFO) (g : GF) (t : TF) (e : EF) (vs : List Nat) : EF := fun ρ M => bnd (fi ρ M) fun xL M1 => if xL.1.length ≤ szl then bnd (lcG xL.2 g t e (wipeR ρ vs) xL.1 M1) fun ds M2 => some (.p (.list ds), M2) else none
noncomputable def eLcMO (fi : IFO) (g : GF) (t : TF) (e : EF) (vs : List Nat) : EF := fun ρ M => bnd (fi ρ M) fun xL M1 => if xL.1.length ≤ szl then bnd (lcG xL.2 g t e (wipeR ρ vs) xL.1 M1) fun ds M2 => some (.ob M2.length, M2 ++ [ds]) else none
noncomputable def sForO (fi : IFO) (g : GF) (f : SF) : SF := fun ρ M => bnd (fi ρ M) fun xL M1 => forG xL.2 g f xL.1 ρ M1
theorem lc_genO {P : Par} {fi : IFO} {g : GF} {t : TF} {e : EF} {vs : List Nat} {σ : Sl} {H : Hp} {Q : VK} {ρ : Rho} {M : Sto} {m : Mw} {xs ds : List PyData} {L0 : Sto → Prop} {M1 M' : Sto} (hs : RS P m H σ ρ) (hm : RM P m H M) (e1 : fi ρ M = some ((xs, L0), M1)) (hz : xs.length ≤ szl) (e2 : lcG L0 g t e (wipeR ρ vs) xs M1 = some (ds, M'))
    (k : ∀ m1 mm H1 H2 D, Ev m m1 H H1 → LcAt P m1 H1 D H2 mm M' ds → Q (.ref D) H2) : tLc (TItO P fi) (TGw P vs g) (TB P t) (T P e) vs σ H Q := by
  · refine ⟨ρ, M, m, xs, L0, M1, hs, hm, e1, fun J m1 H1 ev1 rm1 W => ?_⟩
    intro D hD
    obtain ⟨G, Y, w, hG, hY⟩ := W
    obtain ⟨sm, rmD⟩ := hide_new rm1 hD
    have hDm : D ∉ m1.hd := fun z => rm1.notin hD (List.mem_append_left _ z)
    have start : LcAt P m1 H1 D (upd H1 D (.lst [])) m1 M1 [] := ⟨⟨[], by simp⟩, hDm, sm, fun a ha => by
      obtain ⟨o, q⟩ := rm1.hid a ha
      exact upd_ne (ne_of_none q hD), rmD, [], upd_same, .nil⟩
    refine lc_it w (fun i H => ∃ mm M3 acc ds3, LcAt P m1 H1 D H mm M3 acc ∧ lcG L0 g t e (wipeR ρ vs) (xs.drop i) M3 = some (ds3, M') ∧ acc ++ ds3 = ds ∧ acc.length ≤ i) ⟨m1, M1, [], ds, start, by simpa using e2, rfl, by simp⟩ ?_ ?_ ?_
    · rintro i H' hi' ⟨mm, M3, acc, ds3, L, q, _⟩
      exact hG H' (mm.hide D) M3 L.same (by obtain ⟨l, rfl⟩ := L.pre; exact ⟨l, rfl⟩) L.rm (lcG_L q)
    · rintro i x H2 H3 hi ⟨mm, M3, acc, ds3, L, q, hacc, hlen⟩ y
      obtain ⟨d, hd, hdrop⟩ := drop_at hi
      rw [hdrop] at q
      obtain ⟨d', hd', evy, rvy, rmy, _⟩ := hY i H2 x H3 (mm.hide D) M3 hi L.same (by obtain ⟨l, rfl⟩ := L.pre; exact ⟨l, rfl⟩) L.rm (lcG_L q) y
      rw [hd] at hd'
      cases hd'
      obtain ⟨mm3, emm, L3⟩ := L.next evy rmy
      obtain ⟨ρ1, M4, q1, q⟩ := bnd_eq (lcG_c q)
      obtain ⟨b, M5, q2, q⟩ := bnd_eq q
      have rs0 : RS P (mm.hide D) H3 (wipe σ vs) (wipeR ρ vs) := by
        have r1 := (hs.mono ev1).wipe vs
        refine ⟨r1.len, fun j y h => ?_⟩
        obtain ⟨v, h1, h2⟩ := r1.at_ j y h
        refine ⟨v, h1, ?_⟩
        have sm3 : Same (msk m1 H1) (msk (mm.hide D) H3) := by rw [emm]; exact L3.same
        cases y with
        | p d => exact dp_mono sm3 d v h2
        | ob r =>
          obtain ⟨a, rfl, h2⟩ := h2
          obtain ⟨l, rfl⟩ := L.pre
          have hr := (List.getElem?_eq_some_iff.mp h2).1
          exact ⟨a, rfl, by show (m1.m ++ l)[r]? = some a; rw [List.getElem?_append_left hr, h2]⟩
        | clo g =>
          obtain ⟨a, H0, rfl, s0, q0⟩ := h2
          exact ⟨a, H0, rfl, s0.trans sm3, q0⟩
        | obs rs =>
          obtain ⟨a, as, rfl, q1, q2⟩ := h2
          obtain ⟨l, rfl⟩ := L.pre
          exact ⟨a, as, rfl, sm3 a _ q1, obs_pre q2⟩
        | pob d r =>
          obtain ⟨a, u, b, rfl, q1, q2, q3⟩ := h2
          obtain ⟨l, rfl⟩ := L.pre
          have hr := (List.getElem?_eq_some_iff.mp q3).1
          exact ⟨a, u, b, rfl, Same.sqT sm3 q1, dp_mono sm3 d u q2, by show (m1.m ++ l)[r]? = some b; rw [List.getElem?_append_left hr, q3]⟩
        | rg lo hi =>
          obtain ⟨a, rfl, q⟩ := h2
          exact ⟨a, rfl, sm3 a _ q⟩
      refine ⟨wipeR ρ vs, M3, mm.hide D, .p d, ρ1, M4, rs0, rmy, rvy, q1, fun σ2 m4 H4 w4 ev4 rs4 rm4 => ⟨w4.trans wipe_wipe, ?_⟩⟩
      have L3' : LcAt P m1 H1 D H3 mm M3 acc := by
        have : mm3 = mm := by
          obtain ⟨hd0, ml⟩ := mm
          obtain ⟨hd1, ml1⟩ := mm3
          unfold Mw.hide at emm
          injection emm with a1 a2
          have := L.pre
          have := L3.pre
          obtain ⟨l1, p1⟩ := L.pre
          obtain ⟨l2, p2⟩ := L3.pre
          injection p1 with b1 b2
          injection p2 with c1 c2
          have a3 : ml = ml1 := a2
          rw [b1, c1, a3]
        rw [← this]; exact L3
      obtain ⟨mm4, rfl, L4⟩ := L3'.next ev4 rm4
      refine ⟨ρ1, M4, mm4.hide D, b, M5, rs4, rm4, q2, fun m5 H5 ev5 rm5 => ?_⟩
      obtain ⟨mm5, rfl, L5⟩ := L4.next ev5 rm5
      cases b with
      | true =>
        rw [if_pos rfl] at q ⊢
        obtain ⟨v, M6, q3, q⟩ := bnd_eq q
        refine ⟨ρ1, M5, mm5.hide D, v, M6, rs4.mono ev5, rm5, q3, fun y m6 H6 ev6 rv6 rm6 => ?_⟩
        obtain ⟨mm6, rfl, L6⟩ := L5.next ev6 rm6
        split at q
        · rename_i dd
          obtain ⟨ds4, M7, q4, q5⟩ := bnd_eq q
          cases q5
          obtain ⟨us, hu, hud⟩ := L6.ac
          have hul := dpa_len hud
          refine ⟨us, hu, by rw [szl_eq, hul]; omega, mm6, M6, acc ++ [dd], ds4, L6.put hu rv6, q4, by rw [← hacc]; simp, by simp; omega⟩
        · cases q
      | false =>
        rw [if_neg Bool.false_ne_true] at q ⊢
        exact ⟨mm5, M5, acc, ds3, L5, q, hacc, by omega⟩
    · rintro H2 ⟨mm, M3, acc, ds3, L, q, hacc, _⟩
      rw [List.drop_length] at q
      cases lcG_n q
      rw [List.append_nil] at hacc
      subst hacc
      exact k m1 mm H1 H2 D ev1 L
theorem lc_runO {P : Par} {fi : IFO} {g : GF} {t : TF} {e : EF} {vs : List Nat} : ∀ σ H Q, T P (eLcO fi g t e vs) σ H Q → tLc (TItO P fi) (TGw P vs g) (TB P t) (T P e) vs σ H Q := by
  intro σ H Q ⟨ρ, M, m, z, M', hs, hm, ee, k⟩
  obtain ⟨⟨xs, L0⟩, M1, e1, ee⟩ := bnd_eq ee
  split at ee
  · rename_i hz
    obtain ⟨ds, M2, e2, ee⟩ := bnd_eq ee
    cases ee
    refine lc_genO hs hm e1 hz e2 fun m1 mm H1 H2 D ev1 L => ?_
    obtain ⟨ev2, rm2, rv2⟩ := L.done
    exact k _ _ _ (ev1.trans ev2) rv2 rm2
  · cases ee
theorem lc_runMO {P : Par} {fi : IFO} {g : GF} {t : TF} {e : EF} {vs : List Nat} : ∀ σ H Q, T P (eLcMO fi g t e vs) σ H Q → tLc (TItO P fi) (TGw P vs g) (TB P t) (T P e) vs σ H Q := by
  intro σ H Q ⟨ρ, M, m, z, M', hs, hm, ee, k⟩
  obtain ⟨⟨xs, L0⟩, M1, e1, ee⟩ := bnd_eq ee
  split at ee
  · rename_i hz
    obtain ⟨ds, M2, e2, ee⟩ := bnd_eq ee
    cases ee
    refine lc_genO hs hm e1 hz e2 fun m1 mm H1 H2 D ev1 L => ?_
    obtain ⟨ev2, rm2⟩ := L.doneM
    refine k _ _ _ (ev1.trans ev2) ⟨D, rfl, ?_⟩ rm2
    have hlen : mm.m.length = M2.length := L.rm.len
    show (mm.m ++ [D])[M2.length]? = some D
    rw [← hlen]; simp
  · cases ee
section
variable {X : Cx} {P : Par} {pos py spos : Pos} {a b : Expr} {fa fb : EF} {f : SF}
theorem ae_lcO {elt tg iter : Expr} {ifs : List Expr} {scope : Scope} (own : List (Str × Nat)) {fi : IFO} {g : GF} {t : TF} {e : EF} (hN : X.N.Nodup) (hi : PI X tg iter (TItO P fi)) (ok : BlkOk X.N X.env.scope scope own)
    (hg : ∀ (s : Shared) (H : Hp) (C : Addr) (cl : List (Str × Addr)) (fp : List Addr), PG (X.blk s H scope (compEnvC scope cl C X.env) fp) tg (TGw P (own.map (·.2)) g)) (ht : ∀ (s : Shared) (H : Hp) (C : Addr) (cl : List (Str × Addr)) (fp : List Addr), PTs (X.blk s H scope (compEnvC scope cl C X.env) fp) ifs (TB P t))
    (he : ∀ (s : Shared) (H : Hp) (C : Addr) (cl : List (Str × Addr)) (fp : List Addr), PE (X.blk s H scope (compEnvC scope cl C X.env) fp) elt (T P e)) (hc : X.calm = true := by rfl) (hs : ∀ x, foldedSetIterable iter X.env x = pure x := by intro _; rfl) :
    PE X (.ListComp elt [⟨tg, iter, ifs, 0⟩] scope pos) (T P (eLcO fi g t e (own.map (·.2)))) := PE.weak (pe_lc hc hN hi ok hg ht he hs) lc_runO
theorem ae_lcMO {elt tg iter : Expr} {ifs : List Expr} {scope : Scope} (own : List (Str × Nat)) {fi : IFO} {g : GF} {t : TF} {e : EF} (hN : X.N.Nodup) (hi : PI X tg iter (TItO P fi)) (ok : BlkOk X.N X.env.scope scope own)
    (hg : ∀ (s : Shared) (H : Hp) (C : Addr) (cl : List (Str × Addr)) (fp : List Addr), PG (X.blk s H scope (compEnvC scope cl C X.env) fp) tg (TGw P (own.map (·.2)) g)) (ht : ∀ (s : Shared) (H : Hp) (C : Addr) (cl : List (Str × Addr)) (fp : List Addr), PTs (X.blk s H scope (compEnvC scope cl C X.env) fp) ifs (TB P t))
    (he : ∀ (s : Shared) (H : Hp) (C : Addr) (cl : List (Str × Addr)) (fp : List Addr), PE (X.blk s H scope (compEnvC scope cl C X.env) fp) elt (T P e)) (hc : X.calm = true := by rfl) (hs : ∀ x, foldedSetIterable iter X.env x = pure x := by intro _; rfl) :
    PE X (.ListComp elt [⟨tg, iter, ifs, 0⟩] scope pos) (T P (eLcMO fi g t e (own.map (·.2)))) := PE.weak (pe_lc hc hN hi ok hg ht he hs) lc_runMO
theorem as_setLcO {elt tg iter : Expr} {ifs : List Expr} {scope : Scope} {i : Nat} {y : Str} (own : List (Str × Nat)) {fi : IFO} {g : GF} {t : TF} {e : EF} (hN : X.N.Nodup) (hi : PI X tg iter (TItO P fi)) (ok : BlkOk X.N X.env.scope scope own)
    (hg : ∀ (s : Shared) (H : Hp) (C : Addr) (cl : List (Str × Addr)) (fp : List Addr), PG (X.blk s H scope (compEnvC scope cl C X.env) fp) tg (TGw P (own.map (·.2)) g)) (ht : ∀ (s : Shared) (H : Hp) (C : Addr) (cl : List (Str × Addr)) (fp : List Addr), PTs (X.blk s H scope (compEnvC scope cl C X.env) fp) ifs (TB P t))
    (he : ∀ (s : Shared) (H : Hp) (C : Addr) (cl : List (Str × Addr)) (fp : List Addr), PE (X.blk s H scope (compEnvC scope cl C X.env) fp) elt (T P e)) (hsw : swapsWith (.ListComp elt [⟨tg, iter, ifs, 0⟩] scope pos) (some (.Name y py)) spos.line X.env = pure true)
    (hy : X.N[i]? = some y := by rfl) (hyl : X.env.scope.names.lookup y = some .local := by rfl) (hc : X.calm = true := by rfl) (hs : ∀ x, foldedSetIterable iter X.env x = pure x := by intro _; rfl) :
    PS X (.Assign [.Name y py] (.ListComp elt [⟨tg, iter, ifs, 0⟩] scope pos) spos) (TSt P (sAs (eLcO fi g t e (own.map (·.2))) (gN i))) := PS.weak (ps_setLc hc hN hy hyl hsw hi ok hg ht he hs) fun D σ H ⟨ρ, M, m, fl, ρ', M', hs, hm, ee, k⟩ => by
  obtain ⟨x, M1, e1, e2⟩ := bnd_eq ee
  cases e2
  refine lc_runO σ H _ ⟨ρ, M, m, x, _, hs, hm, e1, fun v m1 H1 ev1 rv1 rm1 => ?_⟩
  exact k _ m1 H1 ev1 ((hs.mono ev1).set rv1) rm1
theorem as_setLcMO {elt tg iter : Expr} {ifs : List Expr} {scope : Scope} {i : Nat} {y : Str} (own : List (Str × Nat)) {fi : IFO} {g : GF} {t : TF} {e : EF} (hN : X.N.Nodup) (hi : PI X tg iter (TItO P fi)) (ok : BlkOk X.N X.env.scope scope own)
    (hg : ∀ (s : Shared) (H : Hp) (C : Addr) (cl : List (Str × Addr)) (fp : List Addr), PG (X.blk s H scope (compEnvC scope cl C X.env) fp) tg (TGw P (own.map (·.2)) g)) (ht : ∀ (s : Shared) (H : Hp) (C : Addr) (cl : List (Str × Addr)) (fp : List Addr), PTs (X.blk s H scope (compEnvC scope cl C X.env) fp) ifs (TB P t))
    (he : ∀ (s : Shared) (H : Hp) (C : Addr) (cl : List (Str × Addr)) (fp : List Addr), PE (X.blk s H scope (compEnvC scope cl C X.env) fp) elt (T P e)) (hsw : swapsWith (.ListComp elt [⟨tg, iter, ifs, 0⟩] scope pos) (some (.Name y py)) spos.line X.env = pure true)
    (hy : X.N[i]? = some y := by rfl) (hyl : X.env.scope.names.lookup y = some .local := by rfl) (hc : X.calm = true := by rfl) (hs : ∀ x, foldedSetIterable iter X.env x = pure x := by intro _; rfl) :
    PS X (.Assign [.Name y py] (.ListComp elt [⟨tg, iter, ifs, 0⟩] scope pos) spos) (TSt P (sAs (eLcMO fi g t e (own.map (·.2))) (gN i))) := PS.weak (ps_setLc hc hN hy hyl hsw hi ok hg ht he hs) fun D σ H ⟨ρ, M, m, fl, ρ', M', hs, hm, ee, k⟩ => by
  obtain ⟨x, M1, e1, e2⟩ := bnd_eq ee
  cases e2
  refine lc_runMO σ H _ ⟨ρ, M, m, x, _, hs, hm, e1, fun v m1 H1 ev1 rv1 rm1 => ?_⟩
  exact k _ m1 H1 ev1 ((hs.mono ev1).set rv1) rm1
theorem as_forO {tg iter : Expr} {body : List Stmt} {fi : IFO} {vs : List Nat} {gf : GF} (hi : PI X tg iter (TItO P fi)) (hg : PG X tg (TGw P vs gf)) (hb : PSs X body (TSt P f)) (hp : PassesOwn (model X.prog X.w) X.A X.env X.xe) (hc : X.calm = true := by rfl)
    (hs : ∀ x, foldedSetIterable iter X.env x = pure x := by intro _; rfl) : PS X (.For tg iter body [] pos) (TSt P (sForO fi gf f)) := PS.weak (ps_for hp hc hi hg hb hs) fun D σ H ⟨ρ, M, m, fl, ρ', M', hs, hm, ee, k⟩ => by
  obtain ⟨⟨xs, L0⟩, M1, e1, e2⟩ := bnd_eq ee
  refine ⟨ρ, M, m, xs, L0, M1, hs, hm, e1, fun J m1 H1 ev1 rm1 W => ?_⟩
  obtain ⟨G, Y, w, hG, hY⟩ := W
  refine for_it w (fun i σ2 H2 => ∃ m2 ρ2 M2, Ev m1 m2 H1 H2 ∧ RS P m2 H2 σ2 ρ2 ∧ RM P m2 H2 M2 ∧ forG L0 gf f (xs.drop i) ρ2 M2 = some (fl, ρ', M')) ⟨m1, ρ, M1, .refl, hs.mono ev1, rm1, by simpa using e2⟩ ?_ ?_ ?_
  · rintro i σ2 H2 _ ⟨m2, ρ2, M2, ev2, _, rm2, q⟩
    exact hG H2 m2 M2 ev2.same (by obtain ⟨l, rfl⟩ := ev2.pre; exact ⟨l, rfl⟩) rm2 (forG_L q)
  · rintro i x σ2 H2 H3 hi' ⟨m2, ρ2, M2, ev2, rs2, rm2, q⟩ y
    obtain ⟨d, hd, hdrop⟩ := drop_at hi'
    rw [hdrop] at q
    obtain ⟨d', hd', evy, rvy, rmy, _⟩ := hY i H2 x H3 m2 M2 hi' ev2.same (by obtain ⟨l, rfl⟩ := ev2.pre; exact ⟨l, rfl⟩) rm2 (forG_L q) y
    rw [hd] at hd'
    cases hd'
    obtain ⟨ρ3, M3, q1, q2⟩ := bnd_eq (forG_c q)
    refine ⟨ρ2, M2, m2, .p d, ρ3, M3, rs2.mono evy, rmy, rvy, q1, fun σ4 m4 H4 _ ev4 rs4 rm4 => ?_⟩
    have evA : Ev m1 m4 H1 H4 := (ev2.trans evy).trans ev4
    split at q2
    · rename_i ρ5 M5 q3
      exact ⟨ρ3, M3, m4, .nx, ρ5, M5, rs4, rm4, q3, fun σ6 m6 H6 ev6 rs6 rm6 => ⟨m6, ρ5, M5, evA.trans ev6, rs6, rm6, q2⟩⟩
    · rename_i ρ5 M5 q3
      exact ⟨ρ3, M3, m4, .ct, ρ5, M5, rs4, rm4, q3, fun σ6 m6 H6 ev6 rs6 rm6 => ⟨m6, ρ5, M5, evA.trans ev6, rs6, rm6, q2⟩⟩
    · rename_i ρ5 M5 q3
      cases q2
      exact ⟨ρ3, M3, m4, .bk, _, _, rs4, rm4, q3, fun σ6 m6 H6 ev6 rs6 rm6 => k σ6 m6 H6 ((ev1.trans evA).trans ev6) rs6 rm6⟩
    · rename_i v ρ5 M5 q3
      cases q2
      exact ⟨ρ3, M3, m4, .rt v, _, _, rs4, rm4, q3, fun w6 m6 H6 ev6 rv6 rm6 => k w6 m6 H6 ((ev1.trans evA).trans ev6) rv6 rm6⟩
    · cases q2
  · rintro σ2 H2 ⟨m2, ρ2, M2, ev2, rs2, rm2, q⟩
    rw [List.drop_length] at q
    cases forG_n q
    exact k σ2 m2 H2 (ev1.trans ev2) rs2 rm2
theorem walk_ob {K : PySem.W.Frag} {a : Addr} {n : Nat} : Walk (Itl K a) n (fun H => ∃ xs, SqL K H a xs ∧ xs.length = n) (fun i H x H' => H' = H ∧ ∀ xs, SqL K H a xs → xs[i]? = some x) :=
  ⟨fun i H hi ⟨xs, q, l⟩ => ⟨xs, xs[i]'(by omega), q, by simp [l, hi]⟩, fun _ ⟨xs, q, l⟩ => ⟨xs, q, by omega⟩, fun _ _ _ _ _ _ y => ⟨y.1, y.2⟩⟩
theorem ai_obj {tg : Expr} (h : PE X a (T P fa)) : PI X tg a (TItO P (iObj fa)) := by
  refine PI.weak (pi_list h) fun σ H R ⟨ρ, M, m, xs, L, M', hs, hm, e, k⟩ => ?_
  obtain ⟨x, M1, e1, e⟩ := bnd_eq e
  unfold obV at e
  split at e
  · rename_i r
    split at e
    · rename_i ds hr
      cases e
      refine ⟨ρ, M, m, _, _, hs, hm, e1, fun v m1 H1 ev1 rv1 rm1 => ?_⟩
      obtain ⟨p, ys, vs, rfl, hp, hM, hH, hd⟩ := rv_ob rm1 rv1
      have hq : ∀ H m M, (∃ l, m.m = m1.m ++ l) → RM P m H M → M[r]? = some xs → ∃ vs, SqL X.K H p vs ∧ DqAll P.K (msk m H) vs xs := fun H m M ⟨l, hl⟩ rm hx => by
        have hlt := (List.getElem?_eq_some_iff.mp hp).1
        obtain ⟨zs, ws, h1, h2, h3⟩ := rm.at_ r p (by rw [hl, List.getElem?_append_left hlt, hp])
        rw [hx] at h1
        cases h1
        exact ⟨ws, .inl (.inl h2), h3⟩
      refine ⟨p, rfl, ⟨vs, .inl (.inl hH)⟩, k _ m1 H1 ev1 rm1 ⟨_, _, walk_ob, fun H m M _ pre rm hL => ?_, ?_⟩⟩
      · obtain ⟨ws, q, hd2⟩ := hq H m M pre rm hL
        exact ⟨ws, q, dpa_len hd2⟩
      · rintro i H x H' m M hi _ pre rm hL ⟨rfl, hy⟩
        obtain ⟨ws, q, hd2⟩ := hq _ m M pre rm hL
        obtain ⟨d, h1, h2⟩ := dpa_getr hd2 (hy ws q)
        exact ⟨d, h1, .refl, h2, rm, fun _ _ q => q⟩
    · cases e
  · cases e
/-- one list behind another: a list of its own that does not change -/
def bAddO : BF := fun x y M => match lstOf x M, lstOf y M with
  | some a, some b => if a.length + b.length ≤ szl then some (.p (.list (a ++ b)), M) else none
  | _, _ => none
theorem s_addO : SR2 P rCatR bAddO := by
  intro x y v u m H M z M' Q rx ry hm e k
  unfold bAddO at e
  split at e
  · rename_i a b ha hb
    split at e
    · rename_i hz
      obtain ⟨p, vs, rfl, hp, hd⟩ := lstOf_is hm rx ha
      obtain ⟨p2, us, rfl, hp2, hd2⟩ := lstOf_is hm ry hb
      exact ⟨_, _, _, _, rfl, rfl, hp, hp2, by rw [szl_eq, dpa_len hd, dpa_len hd2]; exact hz, fun p' hp' => kl hm e k (dpa_app hd hd2) hp'⟩
    · cases e
  · cases e
theorem a_addO (ha : PE X a (T P fa)) (hb : PE X b (T P fb)) : PE X (.BinOp a .Add b pos) (T P (eBin bAddO fa fb)) := a_op op_catR s_addO ha hb
end
end AX

namespace AX
open PySem PySem.Spec PyProof.Rows L2

/-! ## list(range(..)) -/
def rgL (x : Val) (M : Sto) : Option (Val × Sto) := match x with
  | .p (.int j) => if 0 ≤ j ∧ j ≤ 16777216 then some (.p (.list (rangeD 0 j.toNat)), M) else none
  | _ => none
@[simp] theorem rgL_i (j : Int) (M : Sto) : rgL (.p (.int j)) M = if 0 ≤ j ∧ j ≤ 16777216 then some (.p (.list (rangeD 0 j.toNat)), M) else none := id rfl
def eLRg1 (fa : EF) : EF := fun ρ M => bnd (fa ρ M) rgL
@[simp] theorem eLRg1_run (fa : EF) (ρ : Rho) (M : Sto) : eLRg1 fa ρ M = bnd (fa ρ M) rgL := id rfl
theorem dqa_ints {K : PySem.W.Frag} {H : Hp} : ∀ ns : List Int, DqAll K H (ns.map V.int) (ns.map PyData.int)
  | [] => .nil
  | n :: r => .cons (.int n) (dqa_ints r)
section
variable {X : Cx} {P : Par} {pos : Pos} {a : Expr} {fa : EF}
theorem ae_lrg1 {p1 p2 p3 : Pos} (hm : X.mg "list" = none) (hm2 : X.mg "range" = none) (ha : PE X a (T P fa)) (hc : X.calm = true := by rfl) (hg : Gl X "list" := by rfl) (hg2 : Gl X "range" := by rfl)
    (na : starEach [a] X.env = (false, eval a X.env) :: starEach [] X.env := by rfl)
    (nb : starEach [.Call (.Name "range" p2) [a] [] p3] X.env = (false, eval (.Call (.Name "range" p2) [a] [] p3) X.env) :: starEach [] X.env := by rfl) :
    PE X (.Call (.Name "list" p1) [.Call (.Name "range" p2) [a] [] p3] [] pos) (T P (eLRg1 fa)) := by
  refine PE.weak (pe_listRg hc hg hm (prg_1 hg2 hm2 ha na) nb) fun σ H Q ⟨ρ, M, m, x, M', hs, hm, e, k⟩ => ?_
  obtain ⟨z, M1, e1, e⟩ := bnd_eq e
  refine ⟨ρ, M, m, z, M1, hs, hm, e1, fun v m1 H1 ev1 rv1 rm1 => ?_⟩
  unfold rgL at e
  split at e
  · rename_i j
    split at e
    · rename_i hj
      refine ⟨j, rv_int rv1, RgOk.of_le (Int.le_refl _) hj.2 (by omega) hj.1, fun q hq => ?_⟩
      have hd : DqAll P.K (msk m1 H1) (rgV 0 j) (rangeD 0 j.toNat) := by
        have := dqa_ints (K := P.K) (H := msk m1 H1) ((List.range j.toNat).map fun i : Nat => (0 : Int) + (i : Nat))
        unfold rgV rangeD
        rw [List.map_map, List.map_map] at this
        rw [Int.sub_zero]
        exact this
      exact kl rm1 e (fun w m' H' ev rv rm => k w m' H' (ev1.trans ev) rv rm) hd hq
    · cases e
  · cases e
end

/-! ## a tuple or a list taken apart -/
def gTA (gs : List GF) : GF := fun x ρ M => match x with
  | .p (.tuple ds) => gSeq gs ds ρ M
  | .p (.list ds) => gSeq gs ds ρ M
  | _ => none
@[simp] theorem gTA_t (gs : List GF) (ds : List PyData) (ρ : Rho) (M : Sto) : gTA gs (.p (.tuple ds)) ρ M = gSeq gs ds ρ M := id rfl
@[simp] theorem gTA_l (gs : List GF) (ds : List PyData) (ρ : Rho) (M : Sto) : gTA gs (.p (.list ds)) ρ M = gSeq gs ds ρ M := id rfl
theorem ag_tupA {X : Cx} {P : Par} {vs : List Nat} {pos : Pos} {es : List Expr} {k1 : Nat} {gs : List GF} {n : Nat} (hl : gs.length = n) (h : PGs X es (TGws P vs gs)) (hc : X.calm = true := by rfl) (hn : (assignEach es X.env).length = n := by rfl) (hst : (assignEach es X.env).findIdx? (·.1) = none := by rfl) (hK : X.K = P.K := by rfl) : PG X (.Tuple es k1 pos) (TGw P vs (gTA gs)) := by
  have both : PG X (.Tuple es k1 pos) (fun v σ H Q => gTup X.K n (TGws P vs gs) v σ H Q ∨ gUnl X.K n (TGws P vs gs) v σ H Q) :=
    ⟨fun pins s σ H v u Q I r hw => hw.elim (fun h1 => (pg_tup hc h hn hst).run pins s σ H v u Q I r h1) (fun h1 => (pg_unl hc h hn hst).run pins s σ H v u Q I r h1)⟩
  refine PG.weak both fun v σ H Q ⟨ρ, M, m, y, ρ', M', hs, hm, rv, e, k⟩ => ?_
  unfold gTA at e
  split at e
  · rename_i ds
    obtain ⟨p, us, rfl, hp, hd⟩ := rv_tup rv
    exact .inl ⟨p, us, rfl, by rw [hK]; exact sqT_of hp, by rw [dpa_len hd, gSeq_len e, hl], ρ, M, m, ds, ρ', M', hs, hm, hd, e, k⟩
  · rename_i ds
    obtain ⟨p, us, rfl, hp, hd⟩ := rv_lst rv
    exact .inr ⟨p, us, rfl, .inl (rd_of hp), by rw [dpa_len hd, gSeq_len e, hl], ρ, M, m, ds, ρ', M', hs, hm, hd, e, k⟩
  · cases e

/-! ## sorted(..) of a list of pairs of whole numbers -/
/-- the pairs of a list -/
def ePr (p : Int × Int) : PyData := .tuple [.int p.1, .int p.2]
def leP (p q : Int × Int) : Bool := !SrtO.lexB q p
def rSortPQ (K : PySem.W.Frag) : List V → Hp → VK → Prop := fun vs H Q => ∃ (a : Addr) (l : List (V × (Int × Int))), vs = [V.ref a] ∧ SqL K H a (l.map (·.1)) ∧ (∀ z ∈ l, ∃ t, z.1 = V.ref t ∧ SqT K H t [.int z.2.1, .int z.2.2]) ∧
  ∀ (l' : List (V × (Int × Int))) p, l'.Perm l → (l'.map (·.2)).Pairwise (fun a b => leP a b = true) → H p = none → Q (.ref p) (upd H p (.lst (l'.map (·.1))))
open Classical in
noncomputable def kyP (K : PySem.W.Frag) (H : Hp) (v : V) : Int × Int := if h : ∃ p : Int × Int, ∃ t, v = V.ref t ∧ SqT K H t [.int p.1, .int p.2] then Classical.choose h else (0, 0)
theorem cr_sortPQ {X : Cx} : CallR X (.builtin "sorted") (rSortPQ X.K) := by
  intro pins s σ H vs us Q I r h
  obtain ⟨a, l, rfl, hs, hx, q⟩ := h
  have hk : ∀ z ∈ l, kyP X.K H z.1 = z.2 := fun z hz => by
    obtain ⟨t, e, ht⟩ := hx z hz
    have hp : ∃ p : Int × Int, ∃ t, z.1 = V.ref t ∧ SqT X.K H t [.int p.1, .int p.2] := ⟨z.2, t, e, ht⟩
    unfold kyP
    rw [dif_pos hp]
    obtain ⟨t2, e2, ht2⟩ := Classical.choose_spec hp
    rw [e] at e2
    cases e2
    have := I.tuple_inj ht2 ht
    simp only [List.cons.injEq, V.int.injEq, and_true] at this
    exact Prod.ext this.1 this.2
  obtain ⟨xs, hxs⟩ : ∃ xs, xs = l.map (·.1) := ⟨_, rfl⟩
  have hl2 : l = xs.map fun x => (x, kyP X.K H x) := by
    rw [hxs, List.map_map]
    conv => lhs; rw [← List.map_id l]
    exact List.map_congr_left fun z hz => by
      show z = (z.1, kyP X.K H z.1)
      rw [hk z hz]
  rw [← hxs] at hs
  have hx1 : ∀ x ∈ xs, ∃ t, x = V.ref t ∧ SqT X.K H t [.int (kyP X.K H x).1, .int (kyP X.K H x).2] := fun x m => by
    rw [hxs] at m
    obtain ⟨z, hz, rfl⟩ := List.mem_map.mp m
    obtain ⟨t, e, ht⟩ := hx z hz
    rw [hk z hz]
    exact ⟨t, e, ht⟩
  obtain ⟨its, rv, hl, hz⟩ := I.list hs
  obtain ⟨u, rfl, ru⟩ := vals1 r
  obtain rfl : u = Value.ref a := ru
  obtain ⟨e1, e2⟩ := refs_back rv fun x m => by
    obtain ⟨t, e, _⟩ := hx1 x m
    exact ⟨t, e⟩
  refine SrtO.sorted_pairsO (k := fun u => kyP X.K H (backV u)) hl.isList (by rw [← rv.length]; exact hz) (fun v hv => ?_) fun h' d out h1 h2 kp hd hn => ?_
  · obtain ⟨t, rfl⟩ := e2 v hv
    have hm : V.ref t ∈ xs := by rw [e1]; exact List.mem_map.mpr ⟨_, hv, rfl⟩
    obtain ⟨t', e, ht⟩ := hx1 _ hm
    cases e
    obtain ⟨its2, r2, ⟨o, ho, hc, n, hd⟩, _⟩ := I.tuple ht
    obtain ⟨u1, u2, rfl, ri, rj⟩ := vals2 r2
    obtain ⟨t1, rfl⟩ := ri
    obtain ⟨t2, rfl⟩ := rj
    exact ⟨t, o, t1, t2, n, rfl, ho, hc, hd⟩
  · have h3 : ∀ u ∈ out, ∃ a, u = Value.ref a := fun u hu => e2 u (h2.perm.mem_iff.mp hu)
    obtain ⟨n, hn⟩ := hn
    have hb : SrtO.Stb (ltP (kyP X.K H)) (out.map backV) xs := by
      rw [e1]
      exact SrtO.Stb.map (ltP_swo (kyP X.K H)) backV h2
    have hso := SrtO.srtd_map (f := backV) (lt := ltP (kyP X.K H)) h1
    have q1 := q ((out.map backV).map fun x => (x, kyP X.K H x)) d (by rw [hl2]; exact hb.perm.map _) (by
      rw [List.map_map]
      refine List.pairwise_map.mpr ?_
      exact List.Pairwise.imp (fun {a b} hab => by
        show (!SrtO.lexB (kyP X.K H b) (kyP X.K H a)) = true
        rw [show SrtO.lexB (kyP X.K H b) (kyP X.K H a) = false from hab]; rfl) hso) (I.hok.fresh hd)
    have em : ((out.map backV).map fun x => (x, kyP X.K H x)).map (·.1) = out.map backV := by
      rw [List.map_map]
      conv => rhs; rw [← List.map_id (out.map backV)]
      rfl
    rw [em] at q1
    refine ⟨.ref d, upd H d (.lst (out.map backV)), I.laid (t' := s.toks) kp hd ⟨?_, out, n, vals_back h3, hn⟩, rfl, q1⟩
    rw [hb.len]
    exact hz
def prs : List PyData → Option (List (Int × Int))
  | [] => some []
  | .tuple [.int i, .int j] :: r => (prs r).map ((i, j) :: ·)
  | _ => none
def srtP (ps : List (Int × Int)) : List (Int × Int) := ps.mergeSort leP
def nSortP : NF
  | [.p (.list xs)], M => (prs xs).map fun ps => (.p (.list ((srtP ps).map ePr)), M)
  | _, _ => none
theorem leP_iff (p q : Int × Int) : leP p q = true ↔ p.1 < q.1 ∨ (p.1 = q.1 ∧ p.2 ≤ q.2) := by
  unfold leP
  rw [Bool.not_eq_true', SrtO.lexB_no]
  omega
theorem leP_trans (a b c : Int × Int) (h1 : leP a b = true) (h2 : leP b c = true) : leP a c = true := by
  rw [leP_iff] at *
  omega
theorem leP_total (a b : Int × Int) : (leP a b || leP b a) = true := by
  rw [Bool.or_eq_true, leP_iff, leP_iff]
  omega
theorem leP_anti (a b : Int × Int) (h1 : leP a b = true) (h2 : leP b a = true) : a = b := by
  rw [leP_iff] at *
  exact Prod.ext (by omega) (by omega)
theorem srtP_perm (ps : List (Int × Int)) : (srtP ps).Perm ps := List.mergeSort_perm _ _
theorem srtP_sorted (ps : List (Int × Int)) : (srtP ps).Pairwise fun a b => leP a b = true := List.pairwise_mergeSort leP_trans leP_total _
theorem srtP_uniq {ps qs : List (Int × Int)} (hp : qs.Perm ps) (hs : qs.Pairwise fun a b => leP a b = true) : qs = srtP ps :=
  List.Perm.eq_of_pairwise (le := fun a b => leP a b = true) (fun a b _ _ h1 h2 => leP_anti a b h1 h2) hs (srtP_sorted ps) (hp.trans (srtP_perm ps).symm)
theorem prs_dq {K : PySem.W.Frag} {H : Hp} : ∀ {vs : List V} {ds : List PyData} {ps : List (Int × Int)}, DqAll K H vs ds → prs ds = some ps → ∃ l : List (V × (Int × Int)), vs = l.map (·.1) ∧ ps = l.map (·.2) ∧ ∀ z ∈ l, ∃ t, z.1 = V.ref t ∧ SqT K H t [.int z.2.1, .int z.2.2]
  | [], _, ps, .nil, e => by
    cases e
    exact ⟨[], rfl, rfl, by simp⟩
  | v :: vs, d :: ds, ps, .cons h1 h2, e => by
    unfold prs at e
    split at e
    · cases ‹_ :: _ = []›
    · rename_i i j r heq
      cases heq
      obtain ⟨ps', h3, rfl⟩ := Option.map_eq_some_iff.mp e
      obtain ⟨l, a3, a4, a5⟩ := prs_dq h2 h3
      cases h1 with
      | tup hs ha =>
        cases ha with
        | cons x1 x2 =>
          cases x1
          cases x2 with
          | cons y1 y2 =>
            cases y1
            cases y2
            refine ⟨(_, (i, j)) :: l, by rw [a3]; rfl, by rw [a4]; rfl, fun z hz => ?_⟩
            rcases List.mem_cons.mp hz with rfl | hz
            · exact ⟨_, rfl, hs⟩
            · exact a5 z hz
    · cases e
theorem dqa_mem {K : PySem.W.Frag} {H : Hp} : ∀ {l : List (V × (Int × Int))}, (∀ z ∈ l, ∃ t, z.1 = V.ref t ∧ SqT K H t [.int z.2.1, .int z.2.2]) → DqAll K H (l.map (·.1)) ((l.map (·.2)).map ePr)
  | [], _ => .nil
  | (v, p) :: l, h => by
    obtain ⟨t, e, hs⟩ := h (v, p) (List.mem_cons_self ..)
    refine .cons ?_ (dqa_mem fun y hy => h y (List.mem_cons_of_mem _ hy))
    obtain rfl : v = V.ref t := e
    exact .tup hs (.cons (.int _) (.cons (.int _) .nil))
theorem prs_map : ∀ ps : List (Int × Int), prs (ps.map ePr) = some ps
  | [] => rfl
  | p :: r => by
    show (prs (r.map ePr)).map (p :: ·) = _
    rw [prs_map r]; rfl
theorem nSortP_l (ps : List (Int × Int)) (M : Sto) : nSortP [.p (.list (ps.map ePr))] M = some (.p (.list ((srtP ps).map ePr)), M) := by
  show (prs (ps.map ePr)).map (fun ps => (Val.p (.list ((srtP ps).map ePr)), M)) = _
  rw [prs_map]; rfl
section
variable {X : Cx} {P : Par}
theorem b_sortP (hK : X.K = P.K := by rfl) : BuiltF X P "sorted" nSortP := ⟨_, cr_sortPQ, by
  intro xs vs m H M z M' Q rv hm e k
  unfold nSortP at e
  rw [hK]
  split at e
  · obtain ⟨v, rfl, r1⟩ := rvs1 rv
    obtain ⟨p, ws, rfl, hp, hd⟩ := rv_lst r1
    obtain ⟨ps, h1, h2⟩ := Option.map_eq_some_iff.mp e
    obtain ⟨l, rfl, rfl, a5⟩ := prs_dq hd h1
    refine ⟨p, l, rfl, .inl (rd_of hp), fun y hy => ?_, fun l' q hperm hs hq => ?_⟩
    · obtain ⟨t, e1, e2⟩ := a5 y hy
      exact ⟨t, e1, sqT_of e2⟩
    · have u := srtP_uniq (hperm.map (·.2)) hs
      have hd' := dqa_mem (l := l') fun y hy => a5 y (hperm.mem_iff.mp hy)
      rw [u] at hd'
      exact kl hm (congrArg some h2) k hd' hq
  · cases e⟩
end
end AX

namespace AX
open PySem PySem.Spec PyProof.Rows L2
/-! ## sorted(..) of a list or a tuple of whole numbers, or of tuples of whole numbers -/
def lexL : List Int → List Int → Bool
  | [], [] => false
  | [], _ :: _ => true
  | _ :: _, [] => false
  | a :: r, b :: t => if a = b then lexL r t else decide (a < b)
theorem lexL_self : ∀ a : List Int, lexL a a = false
  | [] => rfl
  | a :: r => by unfold lexL; rw [if_pos rfl]; exact lexL_self r
theorem lexL_asy : ∀ a b : List Int, lexL a b = true → lexL b a = false
  | [], [], h => rfl
  | [], _ :: _, _ => rfl
  | _ :: _, [], h => by cases h
  | a :: r, b :: t, h => by
    unfold lexL at h ⊢
    by_cases e : a = b
    · rw [if_pos e] at h
      rw [if_pos e.symm]
      exact lexL_asy r t h
    · rw [if_neg e] at h
      rw [if_neg (Ne.symm e)]
      have := of_decide_eq_true h
      exact decide_eq_false (by omega)
theorem lexL_ntr : ∀ a b c : List Int, lexL a b = false → lexL b c = false → lexL a c = false
  | [], [], c, _, h => h
  | [], _ :: _, _, h, _ => by cases h
  | _ :: _, [], [], _, _ => rfl
  | _ :: _, [], _ :: _, _, h => by cases h
  | _ :: _, _ :: _, [], _, _ => rfl
  | a :: r, b :: t, c :: u, h1, h2 => by
    unfold lexL at h1 h2 ⊢
    by_cases e : a = b
    · rw [if_pos e] at h1
      by_cases f : b = c
      · rw [if_pos f] at h2
        rw [if_pos (e.trans f)]
        exact lexL_ntr r t u h1 h2
      · rw [if_neg f] at h2
        rw [if_neg (fun z => f (e.symm.trans z)), e]
        exact h2
    · rw [if_neg e] at h1
      have x1 := of_decide_eq_false h1
      by_cases f : b = c
      · rw [if_neg (fun z => e (z.trans f.symm)), ← f]
        exact h1
      · rw [if_neg f] at h2
        have x2 := of_decide_eq_false h2
        rw [if_neg (fun z : a = c => by omega)]
        exact decide_eq_false (by omega)
theorem lexL_eq : ∀ a b : List Int, lexL a b = false → lexL b a = false → a = b
  | [], [], _, _ => rfl
  | [], _ :: _, h, _ => by cases h
  | _ :: _, [], _, h => by cases h
  | a :: r, b :: t, h1, h2 => by
    unfold lexL at h1 h2
    by_cases e : a = b
    · rw [if_pos e] at h1
      rw [if_pos e.symm] at h2
      rw [e, lexL_eq r t h1 h2]
    · rw [if_neg e] at h1
      rw [if_neg (Ne.symm e)] at h2
      have x1 := of_decide_eq_false h1
      have x2 := of_decide_eq_false h2
      omega
theorem lexL_swo {α : Type} (k : α → List Int) : SrtO.Swo fun v u => lexL (k v) (k u) := ⟨fun x y => lexL_asy _ _, fun x y z h1 h2 => lexL_ntr _ _ _ h2 h1⟩
section
open SrtO Srt
variable {prog : Program} {w : World} {A : Around} {E : Value → Shared → Prop} {s : Shared}
theorem lexL_wp {b : Bool} {Q : Bool → Shared → Prop} {xs : List Value} {ns : List Int} (hx : IntsAre xs ns) : ∀ {ys : List Value} {ms : List Int} (i : Nat), IntsAre ys ms → Q (lexL ns ms) s → PySem.W.KatLex prog w A b (decide (xs.length < ys.length)) Q (xs.zip ys) i s := by
  induction hx with
  | nil =>
    intro ys ms i hy h
    cases hy with
    | nil => exact PySem.W.kat_nil h
    | cons q u hy => exact PySem.W.kat_nil h
  | @cons p t xs ns hx ih =>
    intro ys ms i hy h
    cases hy with
    | nil => exact PySem.W.kat_nil h
    | @cons q u ys ms hy =>
      have el : decide ((Value.int p t :: xs).length < (Value.int q u :: ys).length) = decide (xs.length < ys.length) := by
        rw [List.length_cons, List.length_cons]
        exact decide_eq_decide.mpr (by omega)
      rw [el]
      refine (PySem.W.kat_cons (wpAny_eqBool_int ?_) : PySem.W.KatLex prog w A b _ Q ((Value.int p t, Value.int q u) :: xs.zip ys) i s)
      unfold lexL at h
      by_cases e : p = q
      · rw [if_pos e] at h
        subst e
        rw [beq_self_eq_true]
        exact PySem.W.kat_yes (ih (i + 1) hy h)
      · rw [if_neg e] at h
        rw [show (p == q) = false from beq_eq_false_iff_ne.mpr e]
        exact PySem.W.kat_no (TS.oneLt_ints _ h)
theorem lexL_cmp {vs : List Value} {k : Value → List Int} (hp : ∀ v ∈ vs, TS.TupInts s.heap v (k v)) : Cmp prog w A s (tuples' true) (fun p => p.1 ∈ vs) (lt2 fun v u => lexL (k v) (k u)) := by
  intro p q hm hm'
  obtain ⟨a, xs, e1, ⟨o, ho, hc, n, hd⟩, i⟩ := hp _ hm
  obtain ⟨a', ys, e2, ⟨o', ho', hc', n', hd'⟩, i'⟩ := hp _ hm'
  show wpAny (model prog w) A (keyLt' (tuples' true) p.1 q.1) (fun r s' => s' = s ∧ r = lexL (k p.1) (k q.1)) (fun _ _ => False) s
  generalize k p.1 = ns at *
  generalize k q.1 = ms at *
  rw [e1, e2]
  refine PySem.W.kat_lt ho hd ho' hd' ?_
  have := lexL_wp (prog := prog) (w := w) (A := A) (s := s) (b := true) (Q := fun r s' => s' = s ∧ r = lexL ns ms) i (ys := ys.toList) (ms := ms) 0 i' ⟨rfl, rfl⟩
  rw [Array.length_toList, Array.length_toList] at this
  exact this
theorem firsts_L {h : Heap} {k : Value → List Int} : ∀ {vs : List Value}, (∀ v ∈ vs, TS.TupInts h v (k v) ∧ k v ≠ []) → ∃ fs : List Value, PySem.W.KatTups h vs fs ∧ fs.length = vs.length ∧ ∀ f ∈ fs, ∃ x t, f = Value.int x t
  | [], _ => ⟨[], trivial, rfl, fun _ hm => absurd hm (by simp)⟩
  | v :: vs, hp => by
    obtain ⟨fs, h1, h2, h3⟩ := firsts_L (k := k) (vs := vs) fun v' hm => hp v' (List.mem_cons_of_mem _ hm)
    obtain ⟨⟨a, xs, e, ⟨o, ho, hc, n, hd⟩, i⟩, hne⟩ := hp v (List.mem_cons_self ..)
    generalize k v = ns at *
    subst e
    obtain ⟨c, hc0⟩ : ∃ c, ns[0]? = some c := by
      cases ns with
      | nil => exact absurd rfl hne
      | cons c r => exact ⟨c, rfl⟩
    obtain ⟨t, ht⟩ := i.get 0 c hc0
    refine ⟨.int c t :: fs, PySem.W.KatTups.cons ho hc hd (by rw [← ht, Array.getElem?_toList]) h1, congrArg (· + 1) h2, fun f hm => ?_⟩
    rcases List.mem_cons.mp hm with z | hm
    · exact ⟨c, t, z⟩
    · exact h3 f hm
theorem lexL_sortable {a : Addr} {vs : List Value} {k : Value → List Int} (h0 : 0 < vs.length) (hp : ∀ v ∈ vs, TS.TupInts s.heap v (k v) ∧ k v ≠ []) (ha : ∀ o, s.heap.get? a = some o → o.cls ≠ .type "tuple") : SortableO prog w A s a vs fun v u => lexL (k v) (k u) := fun h' keep => by
  have hp' : ∀ v ∈ vs, TS.TupInts h' v (k v) ∧ k v ≠ [] := fun v hm => ⟨(hp v hm).1.keeps fun b o e c => keep b o (fun z => ha o (z ▸ e) c) e, (hp v hm).2⟩
  obtain ⟨fs, h1, h2, h3⟩ := firsts_L (h := h') (k := k) hp'
  refine ⟨tuples' true, fun Q E hq => PySem.W.kat_kind (T := .type "int") h1 (by omega) (fun f hm => ?_) rfl ?_, lexL_cmp fun v hv => (hp' v hv).1⟩
  · obtain ⟨x, t, z⟩ := h3 f hm
    subst z
    exact PySem.W.Looks.of_pure rfl
  · have e : (Value.type "int" != Value.type "tuple") = true := by decide +kernel
    rw [e]; exact hq
theorem sorted_seq {it : Addr} {T : String} {o : Obj} {vs : List Value} {n : Nat} {ltv : Value → Value → Bool} {Q : Value → Shared → Prop} (O : Swo ltv) (hT : T = "list" ∨ T = "tuple") (ho : s.heap.get? it = some o) (hc : o.cls = .type T) (hd : o.data = .seq vs.toArray n) (hz : vs.length ≤ sizeLine)
    (hS : 2 ≤ vs.length → ∀ (h₁ : Heap) (a : Addr), h₁.get? a = some (seqObj "list" vs.toArray 0) → (∀ b o, s.heap.get? b = some o → b ≠ a ∧ h₁.get? b = some o) → SortableO prog w A.in1.in1 { s with heap := h₁ } a vs ltv)
    (h : ∀ (h1 h2 : Heap) (out : List Value), (∀ b o, s.heap.get? b = some o → h1.get? b = some o) → (∀ b o, h1.get? b = some o → h2.get? b = some o) → Srtd ltv out → Stb ltv out vs → (∃ n, h2.get? h1.objs.size = some (seqObj "list" out.toArray n)) → Q (.ref h1.objs.size) { s with heap := h2 }) :
    wpAny (model prog w) A (call (.builtin "sorted") [.ref it]) Q E s := by
  refine Calls.call_function_entry kind_sorted plain_sorted entry_sorted (args_sorted1 _) (id ?_); unfold Builtin.«sorted»
  refine wpAny_bind (m := checkCount "sorted" 1 1 _) (wpAny_pure (wpAny_bind (wpAny_collect_seq it hT ho hc hd (fun h1 k1 => ?_) (by rw [List.size_toArray]; exact hz))))
  rw [show vs.toArray.toList = vs by simp]
  refine wpAny_bind (wpAny_newList ?_ hz); show wpAny _ _ _ _ _ { s with heap := h1.push (seqObj "list" vs.toArray 0) }
  have hoL : (h1.push (seqObj "list" vs.toArray 0)).get? h1.objs.size = some (seqObj "list" vs.toArray 0) := Heap.get?_push_size _ rfl
  have keep : ∀ b o, s.heap.get? b = some o → b ≠ h1.objs.size ∧ (h1.push (seqObj "list" vs.toArray 0)).get? b = some o := fun b o q => ⟨Nat.ne_of_lt (Heap.lt_size (k1 b o q)), Heap.get?_push_of_some _ (k1 b o q)⟩
  refine wpAny_bind (wpAny_holding (wpAny_call_entry slot_list_sort ⟨_, hoL, rfl⟩ entry_list_sort (list_sort_ord O hoL hz (fun h2 => hS h2 _ _ hoL keep) fun out hs hb => ⟨_, rfl, wpAny_pure ⟨_, rfl, ?_⟩⟩) (args_list_sort _)))
  exact h h1 _ out k1 (fun b o q => by
    have hl := Heap.lt_size q
    have q2 : (h1.push (seqObj "list" vs.toArray 0)).get? b = some o := Heap.get?_push_of_some _ q
    rw [sortedHeap_old (Nat.ne_of_lt hl) (Heap.lt_size q2)]
    exact q2) hs hb (sortedHeap_at hoL)
end

/-! the rule -/
def rSortS (K : PySem.W.Frag) : List V → Hp → VK → Prop := fun vs H Q => ∃ (a : Addr) (l : List (V × List Int)), vs = [V.ref a] ∧ (SqL K H a (l.map (·.1)) ∨ SqT K H a (l.map (·.1))) ∧ (∀ z ∈ l, (∃ t, z.1 = V.ref t ∧ SqT K H t (z.2.map V.int)) ∧ z.2 ≠ []) ∧
  ∀ (l' : List (V × List Int)) p, l'.Perm l → (l'.map (·.2)).Pairwise (fun a b => lexL b a = false) → H p = none → Q (.ref p) (upd H p (.lst (l'.map (·.1))))
def rSortN (K : PySem.W.Frag) : List V → Hp → VK → Prop := fun vs H Q => ∃ (a : Addr) (ns : List Int), vs = [V.ref a] ∧ (SqL K H a (ns.map V.int) ∨ SqT K H a (ns.map V.int)) ∧
  ∀ (ns' : List Int) p, ns'.Perm ns → ns'.Pairwise (· ≤ ·) → H p = none → Q (.ref p) (upd H p (.lst (ns'.map V.int)))
def refOf : V → Value
  | .ref t => .ref t
  | _ => .none
section
variable {X : Cx}
theorem seq_of {pins : List (Addr × Obj)} {s : Shared} {σ : L2.St} {H : Hp} {a : Addr} {xs : List V} (I : Inv X pins σ H s) (hs : SqL X.K H a xs ∨ SqT X.K H a xs) : ∃ (its : List Value) (T : String) (o : Obj) (n : Nat), Vals xs its ∧ (T = "list" ∨ T = "tuple") ∧ s.heap.get? a = some o ∧ o.cls = .type T ∧ o.data = .seq its.toArray n ∧ its.length ≤ sizeLine := by
  rcases hs with hs | hs
  · obtain ⟨its, rv, pl, hz⟩ := I.list hs
    obtain ⟨o, ho, hc, n, hd⟩ := pl.isList
    exact ⟨its, "list", o, n, rv, .inl rfl, ho, hc, hd, rv.length ▸ hz⟩
  · obtain ⟨its, rv, ⟨o, ho, hc, n, hd⟩, hz⟩ := I.tuple hs
    exact ⟨its, "tuple", o, n, rv, .inr rfl, ho, hc, hd, rv.length ▸ hz⟩
theorem cr_sortN : CallR X (.builtin "sorted") (rSortN X.K) := by
  intro pins s σ H vs us Q I r h
  obtain ⟨a, ns, rfl, hs, q⟩ := h
  obtain ⟨its, T, o, n, rv, hT, ho, hc, hd, hz⟩ := seq_of I hs
  rw [Vals.ref1 r]
  have hi := rv.ints
  refine sorted_seq SrtO.swo_int hT ho hc hd hz (fun h2 h₁ a' _ _ => SrtO.ints_sortable hi h2) fun h1 h2 out k1 k2 q1 q2 ⟨ep, he'⟩ => ?_
  obtain ⟨z1, z2, z3⟩ := SrtO.ints_out hi q1 q2
  have hlen : ((out.map SrtO.iv).map V.int).length ≤ sizeLine := by
    rw [List.length_map, z2.length_eq, ← hi.length]
    exact hz
  have I1 : Inv X pins σ H { s with heap := h1 } := I.kept (t' := s.toks) k1
  exact ⟨.ref _, upd H h1.objs.size (.lst ((out.map SrtO.iv).map V.int)), I1.laid (t' := s.toks) k2 (Nat.le_refl _) ⟨hlen, out, ep, vals_of_ints z1, he'⟩, rfl, q _ _ z2 z3 (I1.hok.fresh (Nat.le_refl _))⟩
theorem cr_sortS : CallR X (.builtin "sorted") (rSortS X.K) := by
  intro pins s σ H vs us Q I r h
  obtain ⟨a, l, rfl, hs, hx, q⟩ := h
  obtain ⟨its, T, o, n, rv, hT, ho, hc, hd, hz⟩ := seq_of I hs
  rw [Vals.ref1 r]
  obtain ⟨e1, e2⟩ := refs_back rv fun x m => by
    obtain ⟨z, hz, rfl⟩ := List.mem_map.mp m
    obtain ⟨⟨t, e, _⟩, _⟩ := hx z hz
    exact ⟨t, e⟩
  have key : ∀ z ∈ l, ∃ t, z.1 = V.ref t ∧ TS.TupInts s.heap (.ref t) z.2 ∧ z.2 ≠ [] := fun z hz => by
    obtain ⟨⟨t, e, ht⟩, hne⟩ := hx z hz
    obtain ⟨its2, r2, tp, _⟩ := I.tuple ht
    exact ⟨t, e, ⟨t, its2.toArray, rfl, tp, by simpa using r2.ints⟩, hne⟩
  have el : l = its.map fun u => (backV u, TS.intsOf s.heap u) := by
    have h1 : l = (l.map (·.1)).map fun x => (x, TS.intsOf s.heap (refOf x)) := by
      rw [List.map_map]
      conv => lhs; rw [← List.map_id l]
      refine List.map_congr_left fun z hz => ?_
      obtain ⟨t, e, ht, _⟩ := key z hz
      show z = (z.1, TS.intsOf s.heap (refOf z.1))
      rw [e, show refOf (V.ref t) = Value.ref t from rfl, ht.ints, ← e]
    rw [h1, e1, List.map_map]
    refine List.map_congr_left fun u hu => ?_
    obtain ⟨t, rfl⟩ := e2 u hu
    rfl
  have tk : ∀ v ∈ its, TS.TupInts s.heap v (TS.intsOf s.heap v) ∧ TS.intsOf s.heap v ≠ [] := fun v hv => by
    have hm : (backV v, TS.intsOf s.heap v) ∈ l := by rw [el]; exact List.mem_map.mpr ⟨v, hv, rfl⟩
    obtain ⟨t, e, ht, hne⟩ := key _ hm
    obtain ⟨t', rfl⟩ := e2 v hv
    have e : V.ref t' = V.ref t := e
    cases e
    exact ⟨ht, hne⟩
  refine sorted_seq (lexL_swo (TS.intsOf s.heap)) hT ho hc hd hz (fun h2 h₁ a' ha kk => lexL_sortable (by omega) (fun v hv => ⟨(tk v hv).1.keeps fun b o e _ => (kk b o e).2, (tk v hv).2⟩) fun o e c => ?_) fun h1 h2 out k1 k2 q1 q2 ⟨ep, he'⟩ => ?_
  · rw [ha] at e
    cases e
    exact absurd (Value.type.inj c) (by decide)
  · have h3 : ∀ u ∈ out, ∃ a, u = Value.ref a := fun u hu => e2 u (q2.perm.mem_iff.mp hu)
    have I1 : Inv X pins σ H { s with heap := h1 } := I.kept (t' := s.toks) k1
    have w := q (out.map fun u => (backV u, TS.intsOf s.heap u)) h1.objs.size (by rw [el]; exact q2.perm.map _) (by
      rw [List.map_map]
      exact List.pairwise_map.mpr (q1.imp fun {x y} h => h)) (I1.hok.fresh (Nat.le_refl _))
    have em : (out.map fun u => (backV u, TS.intsOf s.heap u)).map (·.1) = out.map backV := by rw [List.map_map]; rfl
    rw [em] at w
    refine ⟨.ref _, upd H h1.objs.size (.lst (out.map backV)), I1.laid (t' := s.toks) k2 (Nat.le_refl _) ⟨?_, out, ep, vals_back h3, he'⟩, rfl, w⟩
    rw [List.length_map, q2.len]
    exact hz
end
/-! as a function -/
def ints? : List PyData → Option (List Int)
  | [] => some []
  | .int i :: r => (ints? r).map (i :: ·)
  | _ => none
def tis? : List PyData → Option (List (List Int))
  | [] => some []
  | .tuple ds :: r => if ds.isEmpty then none else (ints? ds).bind fun ns => (tis? r).map (ns :: ·)
  | _ => none
def eTi (ns : List Int) : PyData := .tuple (ns.map PyData.int)
def leL (a b : List Int) : Bool := !lexL b a
def srtI (ns : List Int) : List Int := ns.mergeSort fun a b => decide (a ≤ b)
def srtK (ks : List (List Int)) : List (List Int) := ks.mergeSort leL
def srtA (xs : List PyData) (M : Sto) : Option (Val × Sto) := match ints? xs with
  | some ns => some (.p (.list ((srtI ns).map PyData.int)), M)
  | none => (tis? xs).map fun ks => (.p (.list ((srtK ks).map eTi)), M)
def nSortA : NF
  | [.p (.list xs)], M => srtA xs M
  | [.p (.tuple xs)], M => srtA xs M
  | _, _ => none
theorem leL_trans (a b c : List Int) (h1 : leL a b = true) (h2 : leL b c = true) : leL a c = true := by
  unfold leL at *
  rw [Bool.not_eq_true'] at *
  exact lexL_ntr _ _ _ h2 h1
theorem leL_total (a b : List Int) : (leL a b || leL b a) = true := by
  unfold leL
  by_cases h : lexL b a = true
  · rw [lexL_asy _ _ h]; simp
  · rw [Bool.not_eq_true] at h
    rw [h]; rfl
theorem leL_anti (a b : List Int) (h1 : leL a b = true) (h2 : leL b a = true) : a = b := by
  unfold leL at *
  rw [Bool.not_eq_true'] at *
  exact lexL_eq _ _ h2 h1
theorem srtK_perm (ks : List (List Int)) : (srtK ks).Perm ks := List.mergeSort_perm _ _
theorem srtK_sorted (ks : List (List Int)) : (srtK ks).Pairwise fun a b => leL a b = true := List.pairwise_mergeSort leL_trans leL_total _
theorem srtK_uniq {ks qs : List (List Int)} (hp : qs.Perm ks) (hs : qs.Pairwise fun a b => leL a b = true) : qs = srtK ks :=
  List.Perm.eq_of_pairwise (le := fun a b => leL a b = true) (fun a b _ _ h1 h2 => leL_anti a b h1 h2) hs (srtK_sorted ks) (hp.trans (srtK_perm ks).symm)
theorem srtI_perm (ns : List Int) : (srtI ns).Perm ns := List.mergeSort_perm _ _
theorem srtI_sorted (ns : List Int) : (srtI ns).Pairwise (· ≤ ·) := by
  have := List.pairwise_mergeSort (le := fun a b : Int => decide (a ≤ b)) (fun a b c h1 h2 => by simp at *; omega) (fun a b => by simp; omega) ns
  exact this.imp fun {a b} h => of_decide_eq_true h
theorem srtI_uniq {ns qs : List Int} (hp : qs.Perm ns) (hs : qs.Pairwise (· ≤ ·)) : qs = srtI ns :=
  List.Perm.eq_of_pairwise (le := fun a b : Int => a ≤ b) (fun a b _ _ h1 h2 => by omega) hs (srtI_sorted ns) (hp.trans (srtI_perm ns).symm)
theorem ints?_map : ∀ ns : List Int, ints? (ns.map PyData.int) = some ns
  | [] => rfl
  | n :: r => by
    show (ints? (r.map PyData.int)).map (n :: ·) = _
    rw [ints?_map r]; rfl
theorem ints?_of : ∀ {ds : List PyData} {ns : List Int}, ints? ds = some ns → ds = ns.map PyData.int
  | [], ns, e => by cases e; rfl
  | d :: r, ns, e => by
    unfold ints? at e
    split at e
    · cases ‹_ :: _ = []›
    · rename_i i r' heq
      cases heq
      obtain ⟨ms, h1, rfl⟩ := Option.map_eq_some_iff.mp e
      rw [ints?_of h1]; rfl
    · cases e
theorem tis?_map : ∀ {ks : List (List Int)}, (∀ k ∈ ks, k ≠ []) → tis? (ks.map eTi) = some ks
  | [], _ => rfl
  | k :: r, h => by
    have hk := h k (List.mem_cons_self ..)
    show (if (k.map PyData.int).isEmpty then none else (ints? (k.map PyData.int)).bind fun ns => (tis? (r.map eTi)).map (ns :: ·)) = _
    rw [tis?_map fun x hx => h x (List.mem_cons_of_mem _ hx), ints?_map, if_neg (by cases k with
      | nil => exact absurd rfl hk
      | cons a t => simp)]
    rfl
theorem ints_dqi {K : PySem.W.Frag} {H : Hp} : ∀ {vs : List V} {ns : List Int}, DqAll K H vs (ns.map PyData.int) → vs = ns.map V.int
  | _, [], h => by cases h; rfl
  | _, n :: r, h => by
    cases h with
    | cons h1 h2 =>
      cases h1
      rw [ints_dqi h2]; rfl
theorem tis_dq {K : PySem.W.Frag} {H : Hp} : ∀ {vs : List V} {ds : List PyData} {ks : List (List Int)}, DqAll K H vs ds → tis? ds = some ks → ∃ l : List (V × List Int), vs = l.map (·.1) ∧ ks = l.map (·.2) ∧ ∀ z ∈ l, (∃ t, z.1 = V.ref t ∧ Dq K H (V.ref t) (eTi z.2) ∧ SqT K H t (z.2.map V.int)) ∧ z.2 ≠ []
  | [], _, ks, .nil, e => by
    cases e
    exact ⟨[], rfl, rfl, by simp⟩
  | v :: vs, d :: ds, ks, .cons h1 h2, e => by
    unfold tis? at e
    split at e
    · cases ‹_ :: _ = []›
    · rename_i cs r heq
      cases heq
      split at e
      · cases e
      · rename_i hne
        obtain ⟨ns, a1, e⟩ := Option.bind_eq_some_iff.mp e
        obtain ⟨ks', a2, rfl⟩ := Option.map_eq_some_iff.mp e
        obtain ⟨l, a3, a4, a5⟩ := tis_dq h2 a2
        obtain rfl := ints?_of a1
        have h1' := h1
        cases h1 with
        | tup hs ha =>
          rw [ints_dqi ha] at hs
          refine ⟨(_, ns) :: l, by rw [a3]; rfl, by rw [a4]; rfl, fun z hz => ?_⟩
          rcases List.mem_cons.mp hz with rfl | hz
          · exact ⟨⟨_, rfl, h1', hs⟩, fun z => hne (by rw [show ns = [] from z]; rfl)⟩
          · exact a5 z hz
    · cases e
theorem dqa_keys {K : PySem.W.Frag} {H : Hp} : ∀ {l : List (V × List Int)}, (∀ z ∈ l, Dq K H z.1 (eTi z.2)) → DqAll K H (l.map (·.1)) ((l.map (·.2)).map eTi)
  | [], _ => .nil
  | (v, p) :: l, h => .cons (h (v, p) (List.mem_cons_self ..)) (dqa_keys fun y hy => h y (List.mem_cons_of_mem _ hy))
theorem nSortA_i {xs : List PyData} {ns : List Int} (h : xs = ns.map PyData.int) (M : Sto) : nSortA [.p (.tuple xs)] M = some (.p (.list ((srtI ns).map PyData.int)), M) ∧ nSortA [.p (.list xs)] M = some (.p (.list ((srtI ns).map PyData.int)), M) := by
  have : srtA xs M = some (.p (.list ((srtI ns).map PyData.int)), M) := by
    unfold srtA
    rw [h, ints?_map]
  exact ⟨this, this⟩
theorem nSortA_k {ks : List (List Int)} (h : ∀ k ∈ ks, k ≠ []) (h0 : ks ≠ []) (M : Sto) : nSortA [.p (.tuple (ks.map eTi))] M = some (.p (.list ((srtK ks).map eTi)), M) ∧ nSortA [.p (.list (ks.map eTi))] M = some (.p (.list ((srtK ks).map eTi)), M) := by
  have : srtA (ks.map eTi) M = some (.p (.list ((srtK ks).map eTi)), M) := by
    unfold srtA
    have : ints? (ks.map eTi) = none := by
      cases ks with
      | nil => exact absurd rfl h0
      | cons k r => rfl
    rw [this, tis?_map h]
    rfl
  exact ⟨this, this⟩
section
variable {X : Cx} {P : Par}
theorem b_sortA (hK : X.K = P.K := by rfl) : BuiltF X P "sorted" nSortA := ⟨_, cr_sortN.or cr_sortS, by
  intro xs vs m H M z M' Q rv hm e k
  rw [hK]
  have main : ∀ (p : Addr) (ws : List V) (ds : List PyData), (SqL P.K H p ws ∨ SqT P.K H p ws) → DqAll P.K (msk m H) ws ds → srtA ds M = some (z, M') → rSortN P.K [V.ref p] H Q ∨ rSortS P.K [V.ref p] H Q := fun p ws ds hs hd e => by
    unfold srtA at e
    split at e
    · rename_i ns hn
      refine .inl ⟨p, ns, rfl, ?_, fun ns' q hperm hsrt hq => ?_⟩
      · rw [← ints_dqi (by rw [← ints?_of hn]; exact hd)]
        exact hs
      · have u := srtI_uniq hperm hsrt
        refine kl hm e k ?_ hq
        rw [u]
        have : ∀ ms : List Int, DqAll P.K (msk m H) (ms.map V.int) (ms.map PyData.int) := fun ms => by
          induction ms with
          | nil => exact .nil
          | cons a r ih => exact .cons (.int a) ih
        exact this _
    · obtain ⟨ks, h1, h2⟩ := Option.map_eq_some_iff.mp e
      obtain ⟨l, rfl, rfl, a5⟩ := tis_dq hd h1
      refine .inr ⟨p, l, rfl, hs, fun y hy => ?_, fun l' q hperm hsrt hq => ?_⟩
      · obtain ⟨⟨t, e1, _, e2⟩, e3⟩ := a5 y hy
        exact ⟨⟨t, e1, sqT_of e2⟩, e3⟩
      · have u := srtK_uniq (hperm.map (·.2)) (hsrt.imp fun {a b} h => by unfold leL; rw [h]; rfl)
        have hd' := dqa_keys (l := l') fun y hy => by
          obtain ⟨⟨t, e1, e2, _⟩, _⟩ := a5 y (hperm.mem_iff.mp hy)
          rw [e1]
          exact e2
        rw [u] at hd'
        exact kl hm (congrArg some h2) k hd' hq
  unfold nSortA at e
  split at e
  · obtain ⟨v, rfl, r1⟩ := rvs1 rv
    obtain ⟨p, ws, rfl, hp, hd⟩ := rv_lst r1
    exact main p ws _ (.inl (.inl (rd_of hp))) hd e
  · obtain ⟨v, rfl, r1⟩ := rvs1 rv
    obtain ⟨p, ws, rfl, hp, hd⟩ := rv_tup r1
    exact main p ws _ (.inr (sqT_of hp)) hd e
  · cases e⟩
end
end AX

namespace AX
open PySem PySem.Spec PyProof.Rows L2
/-! ## sorted(..) of pairs of a whole number and a tuple of whole numbers -/
theorem lexLt_L : ∀ a b : List Int, HT.lexLt a b = lexL a b
  | [], [] => rfl
  | [], _ :: _ => rfl
  | _ :: _, [] => rfl
  | a :: r, b :: t => by
    rw [HT.lexLt_cons]
    unfold lexL
    rw [lexLt_L r t]
def TupPr (h : Heap) (v : Value) (k : List Int) : Prop := ∃ a o n t b m ns, v = .ref a ∧ h.get? a = some o ∧ o.cls = .type "tuple" ∧ o.data = .seq #[.int n t, .ref b] m ∧ TS.TupInts h (.ref b) ns ∧ k = n :: ns
theorem TupPr.keeps {h h' : Heap} {v : Value} {k : List Int} (x : TupPr h v k) (kp : ∀ b o, h.get? b = some o → o.cls = .type "tuple" → h'.get? b = some o) : TupPr h' v k := by
  obtain ⟨a, o, n, t, b, m, ns, e, ho, hc, hd, ht, ek⟩ := x
  exact ⟨a, o, n, t, b, m, ns, e, kp _ _ ho hc, hc, hd, ht.keeps kp, ek⟩
def prOf (h : Heap) (v : Value) : List Int := match v with
  | .ref a => match h.get? a with
    | some o => match o.data with
      | .seq xs _ => match xs.toList with
        | .int n _ :: u :: _ => n :: TS.intsOf h u
        | _ => []
      | _ => []
    | none => []
  | _ => []
theorem TupPr.key {h : Heap} {v : Value} {k : List Int} (x : TupPr h v k) : prOf h v = k := by
  obtain ⟨a, o, n, t, b, m, ns, e, ho, hc, hd, ht, ek⟩ := x
  subst e ek
  unfold prOf
  simp only [ho, hd]
  rw [ht.ints]
section
open SrtO Srt
variable {prog : Program} {w : World} {A : Around} {E : Value → Shared → Prop} {s : Shared}
theorem tupKey_of {v : Value} {b : Addr} {ns : List Int} (e : v = .ref b) (h : TS.TupInts s.heap v ns) : IsTupleKey (PySem.intKind prog w) s.heap ns b := by
  obtain ⟨a, xs, e2, ⟨o, ho, hc, n, hd⟩, i⟩ := h
  rw [e] at e2
  cases e2
  refine ⟨o, xs, n, ho, hc, hd, ?_⟩
  have go : ∀ {vs : List Value} {ks : List Int}, IntsAre vs ks → ItemsAre (PySem.intKind prog w) ks vs := fun i => by
    induction i with
    | nil => exact .nil
    | cons n t _ ih => exact .cons (by simp [PySem.intKind, Value.isInt]) ih
  exact go i
theorem prL_cmp {vs : List Value} {k : Value → List Int} (hu : A.units < cLine) (hp : ∀ v ∈ vs, TupPr s.heap v (k v)) : Cmp prog w A s (tuples' true) (fun p => p.1 ∈ vs) (lt2 fun v u => lexL (k v) (k u)) := by
  intro p q hm hm'
  obtain ⟨a, o, n, t, b, m, ns, e1, ho, hc, hd, ht, ek⟩ := hp _ hm
  obtain ⟨a', o', n', t', b', m', ns', e1', ho', hc', hd', ht', ek'⟩ := hp _ hm'
  show wpAny (model prog w) A (keyLt' (tuples' true) p.1 q.1) (fun r s' => s' = s ∧ r = lexL (k p.1) (k q.1)) (fun _ _ => False) s
  rw [ek, ek', e1, e1']
  refine PySem.W.kat_lt ho hd ho' hd' ?_
  show PySem.W.KatLex prog w A true (decide (2 < 2)) (fun r s' => s' = s ∧ r = lexL (n :: ns) (n' :: ns')) [(.int n t, .int n' t'), (.ref b, .ref b')] 0 s
  unfold lexL
  refine PySem.W.kat_cons (wpAny_eqBool_int ?_)
  by_cases e : n = n'
  · subst e
    rw [beq_self_eq_true, if_pos rfl]
    refine PySem.W.kat_yes (PySem.W.kat_cons (wpAny_eqBool_tuple hu (tupKey_of rfl ht) (tupKey_of rfl ht') ?_))
    by_cases e2 : ns = ns'
    · subst e2
      rw [decide_eq_true rfl]
      exact PySem.W.kat_yes (PySem.W.kat_nil ⟨rfl, (lexL_self ns).symm⟩)
    · rw [decide_eq_false e2]
      obtain ⟨x, xs, z, p1, i1⟩ := ht
      obtain ⟨x', xs', z', p1', i1'⟩ := ht'
      cases z
      cases z'
      refine PySem.W.kat_no (PySem.W.kat_one _ _ (HT.lt_tupInts (Q := PySem.W.BoolBack fun r s' => s' = s ∧ r = lexL ns ns') p1 p1' i1 i1' hu ?_))
      exact (show s = s ∧ HT.lexLt ns ns' = lexL ns ns' from ⟨rfl, lexLt_L ns ns'⟩)
  · rw [show (n == n') = false from beq_eq_false_iff_ne.mpr e, if_neg e]
    exact PySem.W.kat_no (TS.oneLt_ints _ ⟨rfl, rfl⟩)
theorem firsts_P {h : Heap} {k : Value → List Int} : ∀ {vs : List Value}, (∀ v ∈ vs, TupPr h v (k v)) → ∃ fs : List Value, PySem.W.KatTups h vs fs ∧ fs.length = vs.length ∧ ∀ f ∈ fs, ∃ x t, f = Value.int x t
  | [], _ => ⟨[], trivial, rfl, fun _ hm => absurd hm (by simp)⟩
  | v :: vs, hp => by
    obtain ⟨fs, h1, h2, h3⟩ := firsts_P (k := k) (vs := vs) fun v' hm => hp v' (List.mem_cons_of_mem _ hm)
    obtain ⟨a, o, n, t, b, m, ns, e, ho, hc, hd, ht, ek⟩ := hp v (List.mem_cons_self ..)
    subst e
    refine ⟨.int n t :: fs, PySem.W.KatTups.cons ho hc hd rfl h1, congrArg (· + 1) h2, fun f hm => ?_⟩
    rcases List.mem_cons.mp hm with z | hm
    · exact ⟨n, t, z⟩
    · exact h3 f hm
theorem prL_sortable {a : Addr} {vs : List Value} {k : Value → List Int} (hu : A.units < cLine) (h0 : 0 < vs.length) (hp : ∀ v ∈ vs, TupPr s.heap v (k v)) (ha : ∀ o, s.heap.get? a = some o → o.cls ≠ .type "tuple") : SortableO prog w A s a vs fun v u => lexL (k v) (k u) := fun h' keep => by
  have hp' : ∀ v ∈ vs, TupPr h' v (k v) := fun v hm => (hp v hm).keeps fun b o e c => keep b o (fun z => ha o (z ▸ e) c) e
  obtain ⟨fs, h1, h2, h3⟩ := firsts_P (h := h') (k := k) hp'
  refine ⟨tuples' true, fun Q E hq => PySem.W.kat_kind (T := .type "int") h1 (by omega) (fun f hm => ?_) rfl ?_, prL_cmp (s := { s with heap := h' }) hu hp'⟩
  · obtain ⟨x, t, z⟩ := h3 f hm
    subst z
    exact PySem.W.Looks.of_pure rfl
  · have e : (Value.type "int" != Value.type "tuple") = true := by decide +kernel
    rw [e]; exact hq
end
/-! the rule -/
def rSortQ (K : PySem.W.Frag) : List V → Hp → VK → Prop := fun vs H Q => ∃ (a : Addr) (l : List (V × List Int)), vs = [V.ref a] ∧ (SqL K H a (l.map (·.1)) ∨ SqT K H a (l.map (·.1))) ∧ (∀ z ∈ l, ∃ t n b ns, z.1 = V.ref t ∧ SqT K H t [.int n, .ref b] ∧ SqT K H b (ns.map V.int) ∧ z.2 = n :: ns) ∧
  ∀ (l' : List (V × List Int)) p, l'.Perm l → (l'.map (·.2)).Pairwise (fun a b => lexL b a = false) → H p = none → Q (.ref p) (upd H p (.lst (l'.map (·.1))))
section
variable {X : Cx}
theorem cr_sortQ {k : Nat} (hr : Room k X.A) : CallR X (.builtin "sorted") (rSortQ X.K) := by
  intro pins s σ H vs us Q I r h
  obtain ⟨a, l, rfl, hs, hx, q⟩ := h
  obtain ⟨its, T, o, n, rv, hT, ho, hc, hd, hz⟩ := seq_of I hs
  rw [Vals.ref1 r]
  obtain ⟨e1, e2⟩ := refs_back rv fun x m => by
    obtain ⟨z, hz, rfl⟩ := List.mem_map.mp m
    obtain ⟨t, n, b, ns, e, _⟩ := hx z hz
    exact ⟨t, e⟩
  have key : ∀ z ∈ l, ∃ t, z.1 = V.ref t ∧ TupPr s.heap (.ref t) z.2 := fun z hz => by
    obtain ⟨t, n, b, ns, e, ht, hb, ek⟩ := hx z hz
    obtain ⟨its2, r2, ⟨o2, ho2, hc2, n2, hd2⟩, _⟩ := I.tuple ht
    obtain ⟨u1, u2, rfl, ri, rj⟩ := vals2 r2
    obtain ⟨t1, rfl⟩ := ri
    obtain rfl : u2 = Value.ref b := rj
    obtain ⟨its3, r3, tp3, _⟩ := I.tuple hb
    exact ⟨t, e, t, o2, n, t1, b, n2, ns, rfl, ho2, hc2, hd2, ⟨b, its3.toArray, rfl, tp3, by simpa using r3.ints⟩, ek⟩
  have el : l = its.map fun u => (backV u, prOf s.heap u) := by
    have h1 : l = (l.map (·.1)).map fun x => (x, prOf s.heap (refOf x)) := by
      rw [List.map_map]
      conv => lhs; rw [← List.map_id l]
      refine List.map_congr_left fun z hz => ?_
      obtain ⟨t, e, ht⟩ := key z hz
      show z = (z.1, prOf s.heap (refOf z.1))
      rw [e, show refOf (V.ref t) = Value.ref t from rfl, ht.key, ← e]
    rw [h1, e1, List.map_map]
    refine List.map_congr_left fun u hu => ?_
    obtain ⟨t, rfl⟩ := e2 u hu
    rfl
  have tk : ∀ v ∈ its, TupPr s.heap v (prOf s.heap v) := fun v hv => by
    have hm : (backV v, prOf s.heap v) ∈ l := by rw [el]; exact List.mem_map.mpr ⟨v, hv, rfl⟩
    obtain ⟨t, e, ht⟩ := key _ hm
    obtain ⟨t', rfl⟩ := e2 v hv
    have e : V.ref t' = V.ref t := e
    cases e
    exact ht
  have hu : X.A.in1.in1.units < cLine := by
    have := hr.un
    show X.A.units + 1 + 1 < cLine
    omega
  refine sorted_seq (lexL_swo (prOf s.heap)) hT ho hc hd hz (fun h2 h₁ a' ha kk => prL_sortable hu (by omega) (fun v hv => (tk v hv).keeps fun b o e _ => (kk b o e).2) fun o e c => ?_) fun h1 h2 out k1 k2 q1 q2 ⟨ep, he'⟩ => ?_
  · rw [ha] at e
    cases e
    exact absurd (Value.type.inj c) (by decide)
  · have h3 : ∀ u ∈ out, ∃ a, u = Value.ref a := fun u hu => e2 u (q2.perm.mem_iff.mp hu)
    have I1 : Inv X pins σ H { s with heap := h1 } := I.kept (t' := s.toks) k1
    have w := q (out.map fun u => (backV u, prOf s.heap u)) h1.objs.size (by rw [el]; exact q2.perm.map _) (by
      rw [List.map_map]
      exact List.pairwise_map.mpr (q1.imp fun {x y} h => h)) (I1.hok.fresh (Nat.le_refl _))
    have em : (out.map fun u => (backV u, prOf s.heap u)).map (·.1) = out.map backV := by rw [List.map_map]; rfl
    rw [em] at w
    refine ⟨.ref _, upd H h1.objs.size (.lst (out.map backV)), I1.laid (t' := s.toks) k2 (Nat.le_refl _) ⟨?_, out, ep, vals_back h3, he'⟩, rfl, w⟩
    rw [List.length_map, q2.len]
    exact hz
end
/-! as a function -/
def prk? : List PyData → Option (List (List Int))
  | [] => some []
  | .tuple [.int n, .tuple cs] :: r => (ints? cs).bind fun ns => (prk? r).map ((n :: ns) :: ·)
  | _ => none
def ePk : List Int → PyData
  | n :: ns => .tuple [.int n, .tuple (ns.map PyData.int)]
  | [] => .none
def nSortB : NF
  | [.p (.list xs)], M => (prk? xs).map fun ks => (.p (.list ((srtK ks).map ePk)), M)
  | _, _ => none
theorem prk?_map : ∀ {ks : List (List Int)}, (∀ k ∈ ks, k ≠ []) → prk? (ks.map ePk) = some ks
  | [], _ => rfl
  | [] :: r, h => absurd rfl (h [] (List.mem_cons_self ..))
  | (n :: ns) :: r, h => by
    show ((ints? (ns.map PyData.int)).bind fun ns => (prk? (r.map ePk)).map ((n :: ns) :: ·)) = _
    rw [prk?_map fun x hx => h x (List.mem_cons_of_mem _ hx), ints?_map]
    rfl
theorem prk_dq {K : PySem.W.Frag} {H : Hp} : ∀ {vs : List V} {ds : List PyData} {ks : List (List Int)}, DqAll K H vs ds → prk? ds = some ks → ∃ l : List (V × List Int), vs = l.map (·.1) ∧ ks = l.map (·.2) ∧ ∀ z ∈ l, (∃ t n b ns, z.1 = V.ref t ∧ SqT K H t [.int n, .ref b] ∧ SqT K H b (ns.map V.int) ∧ z.2 = n :: ns) ∧ Dq K H z.1 (ePk z.2)
  | [], _, ks, .nil, e => by
    cases e
    exact ⟨[], rfl, rfl, by simp⟩
  | v :: vs, d :: ds, ks, .cons h1 h2, e => by
    unfold prk? at e
    split at e
    · cases ‹_ :: _ = []›
    · rename_i n cs r heq
      cases heq
      obtain ⟨ns, a1, e⟩ := Option.bind_eq_some_iff.mp e
      obtain ⟨ks', a2, rfl⟩ := Option.map_eq_some_iff.mp e
      obtain ⟨l, a3, a4, a5⟩ := prk_dq h2 a2
      obtain rfl := ints?_of a1
      have h1' := h1
      cases h1 with
      | tup hs ha =>
        cases ha with
        | cons x1 x2 =>
          cases x1
          cases x2 with
          | cons y1 y2 =>
            cases y2
            cases y1 with
            | tup hs2 ha2 =>
              rw [ints_dqi ha2] at hs2
              refine ⟨(_, n :: ns) :: l, by rw [a3]; rfl, by rw [a4]; rfl, fun z hz => ?_⟩
              rcases List.mem_cons.mp hz with rfl | hz
              · exact ⟨⟨_, n, _, ns, rfl, hs, hs2, rfl⟩, h1'⟩
              · exact a5 z hz
    · cases e
theorem dqa_pk {K : PySem.W.Frag} {H : Hp} : ∀ {l : List (V × List Int)}, (∀ z ∈ l, Dq K H z.1 (ePk z.2)) → DqAll K H (l.map (·.1)) ((l.map (·.2)).map ePk)
  | [], _ => .nil
  | (v, p) :: l, h => .cons (h (v, p) (List.mem_cons_self ..)) (dqa_pk fun y hy => h y (List.mem_cons_of_mem _ hy))
theorem nSortB_k {ks : List (List Int)} (h : ∀ k ∈ ks, k ≠ []) (M : Sto) : nSortB [.p (.list (ks.map ePk))] M = some (.p (.list ((srtK ks).map ePk)), M) := by
  show (prk? (ks.map ePk)).map (fun ks => (Val.p (.list ((srtK ks).map ePk)), M)) = _
  rw [prk?_map h]
  rfl
section
variable {X : Cx} {P : Par}
theorem b_sortB {k : Nat} (hr : Room k X.A) (hK : X.K = P.K := by rfl) : BuiltF X P "sorted" nSortB := ⟨_, cr_sortQ hr, by
  intro xs vs m H M z M' Q rv hm e k
  rw [hK]
  unfold nSortB at e
  split at e
  · obtain ⟨v, rfl, r1⟩ := rvs1 rv
    obtain ⟨p, ws, rfl, hp, hd⟩ := rv_lst r1
    obtain ⟨ks, h1, h2⟩ := Option.map_eq_some_iff.mp e
    obtain ⟨l, rfl, rfl, a5⟩ := prk_dq hd h1
    refine ⟨p, l, rfl, .inl (.inl (rd_of hp)), fun y hy => ?_, fun l' q hperm hsrt hq => ?_⟩
    · obtain ⟨⟨t, n, b, ns, e1, e2, e3, e4⟩, _⟩ := a5 y hy
      exact ⟨t, n, b, ns, e1, sqT_of e2, sqT_of e3, e4⟩
    · have u := srtK_uniq (hperm.map (·.2)) (hsrt.imp fun {a b} h => by unfold leL; rw [h]; rfl)
      have hd' := dqa_pk (l := l') fun y hy => (a5 y (hperm.mem_iff.mp hy)).2
      rw [u] at hd'
      exact kl hm (congrArg some h2) k hd' hq
  · cases e⟩
end
/-! ## a tuple of whole numbers above another one -/
theorem lexL_dec : ∀ a b : List Int, lexL a b = decide (a < b)
  | [], [] => by simp [lexL]
  | [], _ :: _ => by simp [lexL]
  | _ :: _, [] => by simp [lexL]
  | a :: r, b :: t => by
    unfold lexL
    rw [lexL_dec r t]
    by_cases e : a = b
    · subst e
      rw [if_pos rfl]
      exact decide_eq_decide.mpr (by rw [List.cons_lt_cons_iff]; simp)
    · rw [if_neg e]
      exact decide_eq_decide.mpr (by rw [List.cons_lt_cons_iff]; simp [e])
theorem lt_tupD (a b : List Int) : PySem.W.dataLt (.tuple (a.map PyData.int)) (.tuple (b.map PyData.int)) = lexL a b := by
  rw [PySem.W.dataLt_tuple, lexL_dec]
  exact PySem.W.dataLt_ints a b
theorem alike_ints : ∀ a b : List Int, PySem.W.alikeAll (a.map PyData.int) (b.map PyData.int) = true
  | [], _ => by simp [PySem.W.alikeAll]
  | _ :: _, [] => by simp [PySem.W.alikeAll]
  | a :: r, b :: t => by
    rw [List.map_cons, List.map_cons, PySem.W.alikeAll, alike_ints r t]
    simp [PySem.W.alike]
theorem depth_ints : ∀ a : List Int, PyData.depthAll (a.map PyData.int) = 0
  | [] => by simp [PyData.depthAll]
  | a :: r => by
    rw [List.map_cons, PyData.depthAll, depth_ints r]
    simp [PyData.depth]
def rGtT (K : PySem.W.Frag) : R2 := fun x y H Q => ∃ ns ms : List Int, Dp K H x (.tuple (ns.map PyData.int)) ∧ Dp K H y (.tuple (ms.map PyData.int)) ∧ Q (.bl (lexL ms ns)) H
theorem op_gtT {X : Cx} (hu : X.A.units + 65 < cLine) : OpR X (compareOp .Gt) (rGtT X.K) := by
  intro pins s σ H x y v u Q I rx ry h
  obtain ⟨ns, ms, hd, he, q⟩ := h
  obtain ⟨as, r1⟩ := Dp.reads I _ x v hd rx
  obtain ⟨bs, r2⟩ := Dp.reads I _ y u he ry
  refine PySem.W.gt_data r1 r2 (by simp [PySem.W.alike, alike_ints]) (fun z => by cases z) ?_ ?_
  · have : PyData.depth (.tuple (ns.map PyData.int)) ≤ 1 := by simp [PyData.depth, depth_ints]
    omega
  · rw [lt_tupD]
    exact ⟨.bl _, H, I, rfl, q⟩
def bGtA : BF
  | .p (.int i), .p (.int j), M => some (.p (.bool (decide (j < i))), M)
  | .p (.tuple a), .p (.tuple b), M => match ints? a, ints? b with
    | some ns, some ms => some (.p (.bool (lexL ms ns)), M)
    | _, _ => none
  | _, _, _ => none
theorem bGtA_t (a b : List Int) (M : Sto) : bGtA (.p (.tuple (a.map PyData.int))) (.p (.tuple (b.map PyData.int))) M = some (B (lexL b a), M) := by
  show (match ints? (a.map PyData.int), ints? (b.map PyData.int) with
    | some ns, some ms => some (Val.p (.bool (lexL ms ns)), M)
    | _, _ => none) = _
  rw [ints?_map, ints?_map]
theorem s_gtA {P : Par} : SR2 P (fun x y H Q => rGtT P.K x y H Q ∨ rI0 (fun i j => .bl (decide (j < i))) x y H Q) bGtA := by
  intro x y v u m H M z M' Q rx ry hm e k
  unfold bGtA at e
  split at e
  · rw [rv_int rx, rv_int ry]
    exact .inr ⟨_, _, rfl, rfl, kq hm e k (Dq.bl _)⟩
  · split at e
    · rename_i a b ns ms h1 h2
      obtain rfl := ints?_of h1
      obtain rfl := ints?_of h2
      exact .inl ⟨ns, ms, dp_of rx, dp_of ry, kq hm e k (Dq.bl _)⟩
    · cases e
  · cases e
theorem c_gtA {X : Cx} {P : Par} {k : Nat} (hr : Room k X.A) (hK : X.K = P.K := by rfl) : CmpOk X P .Gt bGtA := ⟨_, (op_gtT (hu64 hr)).or op_gt, by rw [hK]; exact s_gtA⟩
end AX

namespace AX
open PySem PySem.Spec PyProof.Rows L2
/-! ## places by a step upwards -/
def cntS (i j c : Nat) : Nat := if i < j then (j - i - 1) / c + 1 else 0
theorem cntS_le (i j c : Nat) : cntS i j c ≤ j := by
  unfold cntS
  split
  · have := Nat.div_le_self (j - i - 1) c
    omega
  · omega
/-! range with such a step -/
def iRangeS (fa fb fc : EF) : IF := fun ρ M => bnd (fa ρ M) fun x M1 => bnd (fb ρ M1) fun y M2 => bnd (fc ρ M2) fun z M3 => match x, y, z with
  | .p (.int i), .p (.int j), .p (.int c) => if 0 ≤ i ∧ i ≤ 100000 ∧ 0 ≤ j ∧ j ≤ 100000 ∧ 1 ≤ c ∧ c ≤ 100000 then some (rangeC i c (cntS i.toNat j.toNat c.toNat), M3) else none
  | _, _, _ => none
theorem rgc_up {i j c : Int} (h : 0 ≤ i ∧ i ≤ 100000 ∧ 0 ≤ j ∧ j ≤ 100000 ∧ 1 ≤ c ∧ c ≤ 100000) : RgC i j c (cntS i.toNat j.toNat c.toNat) := by
  have e : Builtin.Range.rangeSize i j c = ((cntS i.toNat j.toNat c.toNat : Nat) : Int) := by
    unfold Builtin.Range.rangeSize cntS
    rw [if_pos (by omega)]
    by_cases hh : i < j
    · rw [if_pos hh, if_pos (by omega), Int.natCast_add, Int.natCast_ediv, show ((j.toNat - i.toNat - 1 : Nat) : Int) = j - i - 1 by omega, show ((c.toNat : Nat) : Int) = c by omega]
      rfl
    · rw [if_neg hh, if_neg (by omega)]
      rfl
  refine ⟨by omega, by omega, ?_, e⟩
  have k := cntS_le i.toNat j.toNat c.toNat
  unfold Builtin.Range.small
  rw [e]
  simp only [Builtin.Range.rangeFitsLong, Bool.and_eq_true, Bool.or_eq_true, decide_eq_true_eq, beq_iff_eq]
  rw [if_pos (by omega)]
  refine ⟨by omega, .inr ?_⟩
  rw [Bool.and_eq_true, decide_eq_true_eq, decide_eq_true_eq]
  omega
section
variable {X : Cx} {P : Par} {tg : Expr} {pf pos : Pos} {fa fb fc : EF} {a b c : Expr}
theorem ai_rangeS (hm : X.mg "range" = none) (ha : PE X a (T P fa)) (hb : PE X b (T P fb)) (hc : PE X c (T P fc)) (hg : Gl X "range" := by rfl) (h1 : starEach (a :: [b, c]) X.env = (false, eval a X.env) :: starEach [b, c] X.env := by rfl) (h2 : starEach (b :: [c]) X.env = (false, eval b X.env) :: starEach [c] X.env := by rfl)
    (h3 : starEach (c :: []) X.env = (false, eval c X.env) :: starEach [] X.env := by rfl) : PI X tg (.Call (.Name "range" pf) [a, b, c] [] pos) (TIt P (iRangeS fa fb fc)) := by
  refine PI.weak (pi_range3 hg hm (aa_cons ha (aa_cons hb (aa_cons hc aa_nil h3) h2) h1) h1 (by rw [h2, h3]; rfl)) fun σ H R ⟨ρ, M, m, xs, M', hs, hm, e, k⟩ => ?_
  obtain ⟨x, M1, e1, e⟩ := bnd_eq e
  obtain ⟨y, M2, e2, e⟩ := bnd_eq e
  obtain ⟨z, M3, e3, e⟩ := bnd_eq e
  split at e
  · rename_i i j d _ _
    split at e
    · rename_i hj
      cases e
      refine ⟨ρ, M, m, [_, _, _], _, hs, hm, by unfold aCons; rw [e1]; show bnd (bnd (fb ρ M1) _) _ = _; rw [e2]; show bnd (bnd (bnd (fc ρ M2) _) _) _ = _; rw [e3]; rfl, fun vs m1 H1 ev1 rv1 rm1 => ?_⟩
      obtain ⟨v, u, w, rfl, r1, r2, r3⟩ := rvs3 rv1
      rw [rv_int r1, rv_int r2, rv_int r3]
      exact ⟨i, j, d, _, rfl, rgc_up hj, k _ m1 H1 ev1 rm1 walk_rngC⟩
    · cases e
  · cases e
end
/-! x[i::c] of a list -/
def stepA {α : Type} (xs : List α) (l k : Nat) : List α := (List.range (cntS l xs.length k)).filterMap fun i => xs[l + i * k]?
theorem stepA_len {α : Type} (xs : List α) (l k : Nat) : (stepA xs l k).length ≤ xs.length := by
  unfold stepA
  refine Nat.le_trans (List.length_filterMap_le _ _) ?_
  rw [List.length_range]
  exact cntS_le _ _ _
theorem step_pick {its : List Value} {l k : Int} (hl : 0 ≤ l) (hk : 1 ≤ k) : slicePick its.toArray (some l) none (some k) = (stepA its l.toNat k.toNat).toArray := by
  obtain ⟨p, rfl⟩ : ∃ p : Nat, l = (p : Int) := ⟨l.toNat, by omega⟩
  obtain ⟨c, rfl⟩ : ∃ c : Nat, k = (c : Int) := ⟨k.toNat, by omega⟩
  rw [Int.toNat_natCast, Int.toNat_natCast]
  obtain ⟨q, hq⟩ : ∃ q : Nat, q = min p its.length := ⟨_, rfl⟩
  have hb : sliceBounds (some (p : Int)) none (some (c : Int)) its.toArray.size = ((q : Int), (its.length : Int), (c : Int)) := by
    unfold sliceBounds
    simp only [Option.getD_some, List.size_toArray, gt_iff_lt]
    rw [if_pos (by omega), if_neg (by omega), if_pos (by omega)]
    congr 1
    omega
  unfold slicePick
  rw [hb]
  congr 1
  show (sliceRange (q : Int) (its.length : Int) (c : Int)).filterMap (its.toArray[·]?) = _
  unfold sliceRange stepA cntS
  simp only [gt_iff_lt]
  rw [if_pos (by omega)]
  by_cases hh : p < its.length
  · have hqp : q = p := by omega
    rw [hqp, if_pos (by omega), if_pos hh]
    have e : (((its.length : Int) - (p : Int) + (c : Int) - 1) / (c : Int)).toNat = (its.length - p - 1) / c + 1 := by
      have e1 : (its.length : Int) - (p : Int) + (c : Int) - 1 = ((its.length - p - 1 + c : Nat) : Int) := by omega
      rw [e1, ← Int.natCast_ediv, Int.toNat_natCast, Nat.add_div_right _ (by omega)]
    rw [e, List.filterMap_map]
    have ef : (fun i : Nat => its[p + i * c]?) = (fun j : Nat => its.toArray[j]?) ∘ fun i : Nat => ((p : Int) + (c : Int) * (i : Int)).toNat := funext fun i => by
      show its[p + i * c]? = its.toArray[((p : Int) + (c : Int) * (i : Int)).toNat]?
      have e3 : ((p : Int) + (c : Int) * (i : Int)).toNat = p + i * c := by
        rw [Int.mul_comm, ← Int.natCast_mul, ← Int.natCast_add, Int.toNat_natCast]
      rw [e3]
      simp
    rw [ef]
  · rw [if_neg (by omega), if_neg hh]
    rfl
theorem dqa_get {K : PySem.W.Frag} {H : Hp} : ∀ {vs : List V} {ds : List PyData}, DqAll K H vs ds → ∀ i : Nat, (vs[i]? = none ∧ ds[i]? = none) ∨ ∃ v d, vs[i]? = some v ∧ ds[i]? = some d ∧ Dq K H v d
  | [], _, .nil, i => .inl ⟨by simp, by simp⟩
  | v :: vs, d :: ds, .cons h1 h2, 0 => .inr ⟨v, d, rfl, rfl, h1⟩
  | v :: vs, d :: ds, .cons h1 h2, i + 1 => by simpa using dqa_get h2 i
theorem dqa_pick {K : PySem.W.Frag} {H : Hp} {vs : List V} {ds : List PyData} (h : DqAll K H vs ds) (f : Nat → Nat) : ∀ is : List Nat, DqAll K H (is.filterMap fun i => vs[f i]?) (is.filterMap fun i => ds[f i]?)
  | [] => .nil
  | i :: is => by
    rcases dqa_get h (f i) with ⟨a, b⟩ | ⟨v, d, a, b, c⟩
    · rw [List.filterMap_cons_none (f := fun i => vs[f i]?) a, List.filterMap_cons_none (f := fun i => ds[f i]?) b]
      exact dqa_pick h f is
    · rw [List.filterMap_cons_some (f := fun i => vs[f i]?) a, List.filterMap_cons_some (f := fun i => ds[f i]?) b]
      exact .cons c (dqa_pick h f is)
theorem vget : ∀ {vs : List V} {us : List Value}, Vals vs us → ∀ i : Nat, (vs[i]? = none ∧ us[i]? = none) ∨ ∃ v u, vs[i]? = some v ∧ us[i]? = some u ∧ RelV v u
  | _, _, .nil, i => .inl ⟨by simp, by simp⟩
  | v :: _, u :: _, .cons h1 h2, 0 => .inr ⟨v, u, rfl, rfl, h1⟩
  | _ :: _, _ :: _, .cons h1 h2, i + 1 => by simpa using vget h2 i
theorem vals_pick {vs : List V} {us : List Value} (h : Vals vs us) (f : Nat → Nat) : ∀ is : List Nat, Vals (is.filterMap fun i => vs[f i]?) (is.filterMap fun i => us[f i]?)
  | [] => .nil
  | i :: is => by
    rcases vget h (f i) with ⟨a, b⟩ | ⟨v, d, a, b, c⟩
    · rw [List.filterMap_cons_none (f := fun i => vs[f i]?) a, List.filterMap_cons_none (f := fun i => us[f i]?) b]
      exact vals_pick h f is
    · rw [List.filterMap_cons_some (f := fun i => vs[f i]?) a, List.filterMap_cons_some (f := fun i => us[f i]?) b]
      exact .cons c (vals_pick h f is)
def slS (x : Val) (l k : Option Int) (M : Sto) : Option (Val × Sto) := match x, l, k with
  | .p (.list ds), some l, some k => if 0 ≤ l ∧ 1 ≤ k then some (.p (.list (stepA ds l.toNat k.toNat)), M) else none
  | _, _, _ => none
theorem slS_inv {x : Val} {l k : Option Int} {M M' : Sto} {z : Val} (h : slS x l k M = some (z, M')) : ∃ (ds : List PyData) (l0 k0 : Int), x = .p (.list ds) ∧ l = some l0 ∧ k = some k0 ∧ 0 ≤ l0 ∧ 1 ≤ k0 ∧ some (Val.p (.list (stepA ds l0.toNat k0.toNat)), M) = some (z, M') := by
  unfold slS at h
  split at h
  · split at h
    · rename_i hh
      exact ⟨_, _, _, rfl, rfl, rfl, hh.1, hh.2, h⟩
    · cases h
  · cases h
def eSlS (f : EF) (fl fs : OF) : EF := fun ρ M => bnd (f ρ M) fun x M1 => bnd (fl ρ M1) fun l M2 => bnd (fs ρ M2) fun k M3 => slS x l k M3
theorem ae_slS {X : Cx} {P : Par} {ex : Expr} {lo st : Expr} {f : EF} {fl fs : OF} {p3 pos : Pos} (he : PE X ex (T P f)) (hlo : PO X (some lo) (TOp P fl)) (hst : PO X (some st) (TOp P fs)) (hK : X.K = P.K := by rfl) : PE X (.Subscript ex (.Slice (some lo) none (some st) p3) pos) (T P (eSlS f fl fs)) := by
  refine ⟨fun pins s σ H Q I ⟨ρ, M, m, z, M', hs, hm, e, kk⟩ => ?_⟩
  obtain ⟨x, M1, e1, e⟩ := bnd_eq e
  obtain ⟨l, M2, e2, e⟩ := bnd_eq e
  obtain ⟨k, M3, e3, e⟩ := bnd_eq e
  refine Subscript_ (thn (he.run pins s σ H (fun v H1 => ∃ m1, Ev m m1 H H1 ∧ RV P m1 H1 x v ∧ RM P m1 H1 M1 ∧ RS P m1 H1 σ ρ) I ⟨ρ, M, m, x, M1, hs, hm, e1, fun v m1 H1 a b c => ⟨m1, a, b, c, hs.mono a⟩⟩) fun v s1 ⟨u, H1, I1, r1, m1, ev1, rv1, rm1, rs1⟩ => ?_)
  refine wpAny_Slice (thn (hlo.run pins s1 σ H1 (fun o H2 => o = l ∧ ∃ m2, Ev m1 m2 H1 H2 ∧ RM P m2 H2 M2) I1 ⟨ρ, M1, m1, l, M2, rs1, rm1, e2, fun m2 H2 a b => ⟨rfl, m2, a, b⟩⟩) fun vl s2 ⟨l', H2, I2, pl, el, m2, ev2, rm2⟩ => ?_)
  subst el
  refine thn (po_none.run pins s2 σ H2 (fun o H3 => o = none ∧ H3 = H2) I2 ⟨rfl, rfl⟩) fun vu s3 ⟨u3, H3, I3, pu, eu, eh⟩ => ?_
  subst eu eh
  refine thn (hst.run pins s3 σ H3 (fun o H4 => o = k ∧ ∃ m4, Ev m2 m4 H3 H4 ∧ RM P m4 H4 M3) I3 ⟨ρ, M2, m2, k, M3, rs1.mono ev2, rm2, e3, fun m4 H4 a b => ⟨rfl, m4, a, b⟩⟩) fun vs s4 ⟨k', H4, I4, ps, ek, m4, ev4, rm4⟩ => ?_
  subst ek
  have I5 : Inv X pins σ H4 { s4 with heap := s4.heap.push { cls := .type "slice", data := .fields #[vl, vu, vs] } } := I4.kept (t' := s4.toks) fun b ob q => Heap.get?_push_of_some _ q
  have isl := Heap.IsSliceOf.new s4.heap vl vu vs
  have rv := (rv1.mono ev2).mono ev4
  obtain ⟨ds, l0, k0, rfl, rfl, rfl, hl0, hk0, e⟩ := slS_inv e
  obtain ⟨a, xs, rfl, hx, hd⟩ := rv_lst rv
  cases r1
  obtain ⟨its, r, ht, hz⟩ := I5.list (show SqL X.K H4 a xs from .inl (rd_of hx))
  have hlen := r.length
  have hdl := dpa_len hd
  refine tail_any (ops := [.ref a, .ref s4.heap.objs.size]) ht.isList.typeIs (PySem.slot_list_getitem.lookup) ?_ (by with_unfolding_all rfl)
  refine wpAny_getItem_list_slice ht.isList isl pl pu ps (fun z => by have := Option.some.inj z; omega) ?_ (by rw [List.size_toArray]; omega)
  rw [step_pick hl0 hk0]
  have hf := I5.hok.fresh (Nat.le_refl _)
  have rp : Vals (stepA xs l0.toNat k0.toNat) (stepA its l0.toNat k0.toNat) := by
    unfold stepA
    rw [hlen]
    exact vals_pick r _ _
  have dp : DqAll P.K (msk m4 H4) (stepA xs l0.toNat k0.toNat) (stepA ds l0.toNat k0.toNat) := by
    unfold stepA
    rw [hdl]
    exact dqa_pick hd _ _
  refine ⟨.ref _, _, I5.laid (t' := s4.toks) (o := .lst (stepA xs l0.toNat k0.toNat)) (fun b ob q => Heap.get?_push_of_some _ q) (Nat.le_refl _) ?_, rfl, kl rm4 e (fun w m' H' ev' => kk w m' H' (((ev1.trans ev2).trans ev4).trans ev')) dp hf⟩
  exact ⟨Nat.le_trans (stepA_len _ _ _) hz, _, 0, rp, Heap.get?_push_size _ rfl⟩
end AX

namespace AX
open PySem PySem.Spec PyProof.Rows L2
/-! ## truths that are one -/
def bIsB : BF := fun x y M => match x, y with
  | .p (.bool a), .p (.bool b) => some (.p (.bool (decide (a = b))), M)
  | _, _ => none
def bNotB : BF := fun x y M => match x, y with
  | .p (.bool a), .p (.bool b) => some (.p (.bool (!decide (a = b))), M)
  | _, _ => none
variable {P : Par} {X : Cx}
theorem s_isB : SR2 P (fun x y H Q => ∃ a b, x = V.bl a ∧ y = V.bl b ∧ Q (.bl (decide (a = b))) H) bIsB := by
  intro x y v u m H M z M' Q rx ry hm e k
  unfold bIsB at e
  split at e
  · rw [rv_bl rx, rv_bl ry]
    exact ⟨_, _, rfl, rfl, kq hm e k (Dq.bl _)⟩
  · cases e
theorem s_notB : SR2 P (fun x y H Q => ∃ a b, x = V.bl a ∧ y = V.bl b ∧ Q (.bl (!decide (a = b))) H) bNotB := by
  intro x y v u m H M z M' Q rx ry hm e k
  unfold bNotB at e
  split at e
  · rw [rv_bl rx, rv_bl ry]
    exact ⟨_, _, rfl, rfl, kq hm e k (Dq.bl _)⟩
  · cases e
theorem c_isB : CmpOk X P .Is bIsB := ⟨_, op_is_bl, s_isB⟩
theorem c_notB : CmpOk X P .IsNot bNotB := ⟨_, op_isnot_bl, s_notB⟩
/-! ## tuples of whole numbers that are not below one another -/
def rGeT (K : PySem.W.Frag) : R2 := fun x y H Q => ∃ ns ms : List Int, Dp K H x (.tuple (ns.map PyData.int)) ∧ Dp K H y (.tuple (ms.map PyData.int)) ∧ Q (.bl (!lexL ns ms)) H
theorem op_geT {X : Cx} (hu : X.A.units + 65 < cLine) : OpR X (compareOp .GtE) (rGeT X.K) := by
  intro pins s σ H x y v u Q I rx ry h
  obtain ⟨ns, ms, hd, he, q⟩ := h
  obtain ⟨as, r1⟩ := Dp.reads I _ x v hd rx
  obtain ⟨bs, r2⟩ := Dp.reads I _ y u he ry
  refine PySem.W.ge_data r1 r2 (by simp [PySem.W.alike, alike_ints]) (fun z => by cases z) ?_ ?_
  · have : PyData.depth (.tuple (ns.map PyData.int)) ≤ 1 := by simp [PyData.depth, depth_ints]
    omega
  · rw [lt_tupD]
    exact ⟨.bl _, H, I, rfl, q⟩
def bGeA : BF
  | .p (.int i), .p (.int j), M => some (.p (.bool (decide (j ≤ i))), M)
  | .p (.tuple a), .p (.tuple b), M => match ints? a, ints? b with
    | some ns, some ms => some (.p (.bool (!lexL ns ms)), M)
    | _, _ => none
  | _, _, _ => none
theorem bGeA_t (a b : List Int) (M : Sto) : bGeA (.p (.tuple (a.map PyData.int))) (.p (.tuple (b.map PyData.int))) M = some (B (!lexL a b), M) := by
  show (match ints? (a.map PyData.int), ints? (b.map PyData.int) with
    | some ns, some ms => some (Val.p (.bool (!lexL ns ms)), M)
    | _, _ => none) = _
  rw [ints?_map, ints?_map]
theorem s_geA : SR2 P (fun x y H Q => rGeT P.K x y H Q ∨ rI0 (fun i j => .bl (decide (j ≤ i))) x y H Q) bGeA := by
  intro x y v u m H M z M' Q rx ry hm e k
  unfold bGeA at e
  split at e
  · rw [rv_int rx, rv_int ry]
    exact .inr ⟨_, _, rfl, rfl, kq hm e k (Dq.bl _)⟩
  · split at e
    · rename_i a b ns ms h1 h2
      obtain rfl := ints?_of h1
      obtain rfl := ints?_of h2
      exact .inl ⟨ns, ms, dp_of rx, dp_of ry, kq hm e k (Dq.bl _)⟩
    · cases e
  · cases e
theorem c_geA {k : Nat} (hr : Room k X.A) (hK : X.K = P.K := by rfl) : CmpOk X P .GtE bGeA := ⟨_, (op_geT (hu64 hr)).or op_ge, by rw [hK]; exact s_geA⟩
/-- a body of which nothing is told -/
theorem as_none {X : Cx} {P : Par} {body : List Stmt} : PSs X body (TSt P sNo) := by
  refine ⟨fun pins s σ H D I h => ?_⟩
  obtain ⟨ρ, M, m, fl, ρ', M', hs, hm0, e, kk⟩ := h
  cases e
@[simp] theorem bIsB_p (a b : Bool) (M : Sto) : bIsB (B a) (B b) M = some (B (decide (a = b)), M) := rfl
@[simp] theorem bNotB_p (a b : Bool) (M : Sto) : bNotB (B a) (B b) M = some (B (!decide (a = b)), M) := rfl
end AX

namespace AX
open PySem PySem.Spec PyProof.Rows L2
/-! ## a list, made by a comprehension, of lists that will change; one of them, by its place -/
def lcW (g : GF) (t : TF) (e : EF) (ρ : Rho) : List PyData → Sto → Option (List Nat × Sto)
  | [], M => some ([], M)
  | x :: xs, M => bnd (g (.p x) ρ M) fun ρ1 M1 => bnd (t ρ1 M1) fun b M2 => if b = true then
      bnd (e ρ1 M2) fun v M3 => match v with
        | .ob r => bnd (lcW g t e ρ xs M3) fun rs M4 => some (r :: rs, M4)
        | _ => none
    else lcW g t e ρ xs M2
def eLcW (fi : IF) (g : GF) (t : TF) (e : EF) (vs : List Nat) : EF := fun ρ M => bnd (fi ρ M) fun xs M1 => if xs.length ≤ szl then bnd (lcW g t e (wipeR ρ vs) xs M1) fun ds M2 => some (.obs ds, M2) else none
theorem refs_inj : ∀ {as bs : List Addr}, as.map V.ref = bs.map V.ref → as = bs
  | [], [], _ => rfl
  | [], _ :: _, h => by cases h
  | _ :: _, [], h => by cases h
  | a :: as, b :: bs, h => by
    rw [List.map_cons, List.map_cons] at h
    injection h with h1 h2
    injection h1 with h1
    rw [h1, refs_inj h2]
structure LcAtW (P : Par) (m0 : Mw) (H1 : Hp) (D : Addr) (H : Hp) (mm : Mw) (M : Sto) (acc : List Nat) : Prop where
  pre : ∃ l, mm = ⟨m0.hd, m0.m ++ l⟩
  nD : D ∉ m0.hd
  same : Same (msk m0 H1) (msk (mm.hide D) H)
  hid : ∀ a ∈ m0.hd, H a = H1 a
  rm : RM P (mm.hide D) H M
  ac : ∃ as : List Addr, H D = some (.lst (as.map V.ref)) ∧ acc.map (fun r => mm.m[r]?) = as.map some
theorem LcAtW.next {P : Par} {m0 mm m3 : Mw} {H1 H H3 : Hp} {D : Addr} {M M3 : Sto} {acc : List Nat} (h : LcAtW P m0 H1 D H mm M acc) (e : Ev (mm.hide D) m3 H H3) (rm : RM P m3 H3 M3) : ∃ mm3, m3 = mm3.hide D ∧ LcAtW P m0 H1 D H3 mm3 M3 acc := by
  obtain ⟨l, rfl⟩ := h.pre
  obtain ⟨l3, rfl⟩ := e.pre
  obtain ⟨as, h1, h2⟩ := h.ac
  exact ⟨⟨m0.hd, m0.m ++ l ++ l3⟩, rfl, ⟨l ++ l3, by simp⟩, h.nD, h.same.trans e.same, fun a ha => (e.hid a (List.mem_append_left _ ha)).trans (h.hid a ha), rm, as, (e.hid D (List.mem_append_right _ (by simp))).trans h1, obs_pre h2⟩
theorem LcAtW.put {P : Par} {m0 mm : Mw} {H1 H : Hp} {D : Addr} {M : Sto} {acc : List Nat} {as : List Addr} {v : V} {r : Nat} (h : LcAtW P m0 H1 D H mm M acc) (hv : H D = some (.lst (as.map V.ref))) (hd : RV P (mm.hide D) H (.ob r) v) : LcAtW P m0 H1 D (upd H D (.lst (as.map V.ref ++ [v]))) mm M (acc ++ [r]) := by
  obtain ⟨bs, h1, h2⟩ := h.ac
  rw [hv] at h1
  have hb : as.map V.ref = bs.map V.ref := by injection h1 with h1; injection h1
  have hab : as = bs := refs_inj hb
  subst hab
  obtain ⟨a, rfl, ha⟩ := hd
  obtain ⟨eq, rm⟩ := hide_put (vs := as.map V.ref ++ [.ref a]) h.rm ⟨_, hv⟩
  obtain ⟨l, e⟩ := h.pre
  refine ⟨h.pre, h.nD, by rw [eq]; exact h.same, fun b hb => ?_, rm, as ++ [a], by rw [List.map_append]; exact upd_same, ?_⟩
  · rw [← h.hid b hb]
    exact upd_ne (fun z => h.nD (by rw [← z]; exact hb))
  · have ha' : mm.m[r]? = some a := ha
    rw [List.map_append, List.map_append, h2, List.map_singleton, List.map_singleton, ha']
theorem LcAtW.done {P : Par} {m0 mm : Mw} {H1 H : Hp} {D : Addr} {M : Sto} {acc : List Nat} (h : LcAtW P m0 H1 D H mm M acc) : Ev m0 mm H1 H ∧ RM P mm H M ∧ RV P mm H (.obs acc) (.ref D) := by
  obtain ⟨l, rfl⟩ := h.pre
  obtain ⟨as, h1, h2⟩ := h.ac
  have hDm : D ∉ (⟨m0.hd, m0.m ++ l⟩ : Mw).all := fun z => by
    rcases List.mem_append.mp z with z | z
    · exact h.nD z
    · exact h.rm.dis D z (List.mem_append_right _ (by simp))
  exact ⟨⟨⟨l, rfl⟩, h.same.trans msk_hide_sub, h.hid⟩, hide_end h.rm h.nD, D, as, rfl, msk_of h1 hDm (fun _ z => by cases z), h2⟩
theorem lc_genW {P : Par} {fi : IF} {g : GF} {t : TF} {e : EF} {vs : List Nat} {σ : Sl} {H : Hp} {Q : VK} {ρ : Rho} {M : Sto} {m : Mw} {xs : List PyData} {ds : List Nat} {M1 M' : Sto} (hs : RS P m H σ ρ) (hm : RM P m H M) (e1 : fi ρ M = some (xs, M1)) (hz : xs.length ≤ szl) (e2 : lcW g t e (wipeR ρ vs) xs M1 = some (ds, M'))
    (k : ∀ m1 mm H1 H2 D, Ev m m1 H H1 → LcAtW P m1 H1 D H2 mm M' ds → Q (.ref D) H2) : tLc (TIt P fi) (TGw P vs g) (TB P t) (T P e) vs σ H Q := by
  · refine ⟨ρ, M, m, xs, M1, hs, hm, e1, fun J m1 H1 ev1 rm1 W => ?_⟩
    intro D hD
    obtain ⟨G, Y, w, hG, hY⟩ := W
    obtain ⟨sm, rmD⟩ := hide_new rm1 hD
    have hDm : D ∉ m1.hd := fun z => rm1.notin hD (List.mem_append_left _ z)
    have start : LcAtW P m1 H1 D (upd H1 D (.lst [])) m1 M1 [] := ⟨⟨[], by simp⟩, hDm, sm, fun a ha => by
      obtain ⟨o, q⟩ := rm1.hid a ha
      exact upd_ne (ne_of_none q hD), rmD, [], upd_same, rfl⟩
    refine lc_it w (fun i H => ∃ mm M3 acc ds3, LcAtW P m1 H1 D H mm M3 acc ∧ lcW g t e (wipeR ρ vs) (xs.drop i) M3 = some (ds3, M') ∧ acc ++ ds3 = ds ∧ acc.length ≤ i) ⟨m1, M1, [], ds, start, by simpa using e2, rfl, by simp⟩ ?_ ?_ ?_
    · rintro i H' _ ⟨mm, M3, acc, ds3, L, _⟩
      exact hG H' (L.same.trans (msk_sub _ _))
    · rintro i x H2 H3 hi ⟨mm, M3, acc, ds3, L, q, hacc, hlen⟩ y
      obtain ⟨d, hd, hdrop⟩ := drop_at hi
      rw [hdrop] at q
      obtain ⟨d', hd', evy, rvy, rmy, _⟩ := hY i H2 x H3 (mm.hide D) M3 hi L.same L.rm y
      rw [hd] at hd'
      cases hd'
      obtain ⟨mm3, emm, L3⟩ := L.next evy rmy
      obtain ⟨ρ1, M4, q1, q⟩ := bnd_eq q
      obtain ⟨b, M5, q2, q⟩ := bnd_eq q
      have rs0 : RS P (mm.hide D) H3 (wipe σ vs) (wipeR ρ vs) := by
        have r1 := (hs.mono ev1).wipe vs
        refine ⟨r1.len, fun j y h => ?_⟩
        obtain ⟨v, h1, h2⟩ := r1.at_ j y h
        refine ⟨v, h1, ?_⟩
        have sm3 : Same (msk m1 H1) (msk (mm.hide D) H3) := by rw [emm]; exact L3.same
        cases y with
        | p d => exact dp_mono sm3 d v h2
        | ob r =>
          obtain ⟨a, rfl, h2⟩ := h2
          obtain ⟨l, rfl⟩ := L.pre
          have hr := (List.getElem?_eq_some_iff.mp h2).1
          exact ⟨a, rfl, by show (m1.m ++ l)[r]? = some a; rw [List.getElem?_append_left hr, h2]⟩
        | clo g =>
          obtain ⟨a, H0, rfl, s0, q0⟩ := h2
          exact ⟨a, H0, rfl, s0.trans sm3, q0⟩
        | obs rs =>
          obtain ⟨a, as, rfl, q1, q2⟩ := h2
          obtain ⟨l, rfl⟩ := L.pre
          exact ⟨a, as, rfl, sm3 a _ q1, obs_pre q2⟩
        | pob d r =>
          obtain ⟨a, u, b, rfl, q1, q2, q3⟩ := h2
          obtain ⟨l, rfl⟩ := L.pre
          have hr := (List.getElem?_eq_some_iff.mp q3).1
          exact ⟨a, u, b, rfl, Same.sqT sm3 q1, dp_mono sm3 d u q2, by show (m1.m ++ l)[r]? = some b; rw [List.getElem?_append_left hr, q3]⟩
        | rg lo hi =>
          obtain ⟨a, rfl, q⟩ := h2
          exact ⟨a, rfl, sm3 a _ q⟩
      refine ⟨wipeR ρ vs, M3, mm.hide D, .p d, ρ1, M4, rs0, rmy, rvy, q1, fun σ2 m4 H4 w4 ev4 rs4 rm4 => ⟨w4.trans wipe_wipe, ?_⟩⟩
      have L3' : LcAtW P m1 H1 D H3 mm M3 acc := by
        have : mm3 = mm := by
          obtain ⟨hd0, ml⟩ := mm
          obtain ⟨hd1, ml1⟩ := mm3
          unfold Mw.hide at emm
          injection emm with a1 a2
          have := L.pre
          have := L3.pre
          obtain ⟨l1, p1⟩ := L.pre
          obtain ⟨l2, p2⟩ := L3.pre
          injection p1 with b1 b2
          injection p2 with c1 c2
          have a3 : ml = ml1 := a2
          rw [b1, c1, a3]
        rw [← this]; exact L3
      obtain ⟨mm4, rfl, L4⟩ := L3'.next ev4 rm4
      refine ⟨ρ1, M4, mm4.hide D, b, M5, rs4, rm4, q2, fun m5 H5 ev5 rm5 => ?_⟩
      obtain ⟨mm5, rfl, L5⟩ := L4.next ev5 rm5
      cases b with
      | true =>
        rw [if_pos rfl] at q ⊢
        obtain ⟨v, M6, q3, q⟩ := bnd_eq q
        refine ⟨ρ1, M5, mm5.hide D, v, M6, rs4.mono ev5, rm5, q3, fun y m6 H6 ev6 rv6 rm6 => ?_⟩
        obtain ⟨mm6, rfl, L6⟩ := L5.next ev6 rm6
        split at q
        · rename_i dd
          obtain ⟨ds4, M7, q4, q5⟩ := bnd_eq q
          cases q5
          obtain ⟨us, hu, hud⟩ := L6.ac
          have hul : us.length = acc.length := by have := congrArg List.length hud; simpa using this.symm
          refine ⟨us.map V.ref, hu, by rw [szl_eq, List.length_map, hul]; omega, mm6, M6, acc ++ [dd], ds4, L6.put hu rv6, q4, by rw [← hacc]; simp, by simp; omega⟩
        · cases q
      | false =>
        rw [if_neg Bool.false_ne_true] at q ⊢
        exact ⟨mm5, M5, acc, ds3, L5, q, hacc, by omega⟩
    · rintro H2 ⟨mm, M3, acc, ds3, L, q, hacc, _⟩
      rw [List.drop_length] at q
      cases q
      rw [List.append_nil] at hacc
      subst hacc
      exact k m1 mm H1 H2 D ev1 L
theorem lc_runW {P : Par} {fi : IF} {g : GF} {t : TF} {e : EF} {vs : List Nat} : ∀ σ H Q, T P (eLcW fi g t e vs) σ H Q → tLc (TIt P fi) (TGw P vs g) (TB P t) (T P e) vs σ H Q := by
  intro σ H Q ⟨ρ, M, m, z, M', hs, hm, ee, k⟩
  obtain ⟨xs, M1, e1, ee⟩ := bnd_eq ee
  split at ee
  · rename_i hz
    obtain ⟨ds, M2, e2, ee⟩ := bnd_eq ee
    cases ee
    refine lc_genW hs hm e1 hz e2 fun m1 mm H1 H2 D ev1 L => ?_
    obtain ⟨ev2, rm2, rv2⟩ := L.done
    exact k _ _ _ (ev1.trans ev2) rv2 rm2
  · cases ee
section
variable {X : Cx} {P : Par} {pos py spos : Pos} {a b : Expr} {fa fb : EF}
theorem as_setLcW {elt tg iter : Expr} {ifs : List Expr} {scope : Scope} {i : Nat} {y : Str} (own : List (Str × Nat)) {fi : IF} {g : GF} {t : TF} {e : EF} (hN : X.N.Nodup) (hi : PI X tg iter (TIt P fi)) (ok : BlkOk X.N X.env.scope scope own)
    (hg : ∀ (s : Shared) (H : Hp) (C : Addr) (cl : List (Str × Addr)) (fp : List Addr), PG (X.blk s H scope (compEnvC scope cl C X.env) fp) tg (TGw P (own.map (·.2)) g)) (ht : ∀ (s : Shared) (H : Hp) (C : Addr) (cl : List (Str × Addr)) (fp : List Addr), PTs (X.blk s H scope (compEnvC scope cl C X.env) fp) ifs (TB P t))
    (he : ∀ (s : Shared) (H : Hp) (C : Addr) (cl : List (Str × Addr)) (fp : List Addr), PE (X.blk s H scope (compEnvC scope cl C X.env) fp) elt (T P e)) (hsw : swapsWith (.ListComp elt [⟨tg, iter, ifs, 0⟩] scope pos) (some (.Name y py)) spos.line X.env = pure true)
    (hy : X.N[i]? = some y := by rfl) (hyl : X.env.scope.names.lookup y = some .local := by rfl) (hc : X.calm = true := by rfl) (hs : ∀ x, foldedSetIterable iter X.env x = pure x := by intro _; rfl) :
    PS X (.Assign [.Name y py] (.ListComp elt [⟨tg, iter, ifs, 0⟩] scope pos) spos) (TSt P (sAs (eLcW fi g t e (own.map (·.2))) (gN i))) := PS.weak (ps_setLc hc hN hy hyl hsw hi ok hg ht he hs) fun D σ H ⟨ρ, M, m, fl, ρ', M', hs, hm, ee, k⟩ => by
  obtain ⟨x, M1, e1, e2⟩ := bnd_eq ee
  cases e2
  refine lc_runW σ H _ ⟨ρ, M, m, x, _, hs, hm, e1, fun v m1 H1 ev1 rv1 rm1 => ?_⟩
  exact k _ m1 H1 ev1 ((hs.mono ev1).set rv1) rm1
theorem ae_lcW {elt tg iter : Expr} {ifs : List Expr} {scope : Scope} (own : List (Str × Nat)) {fi : IF} {g : GF} {t : TF} {e : EF} (hN : X.N.Nodup) (hi : PI X tg iter (TIt P fi)) (ok : BlkOk X.N X.env.scope scope own)
    (hg : ∀ (s : Shared) (H : Hp) (C : Addr) (cl : List (Str × Addr)) (fp : List Addr), PG (X.blk s H scope (compEnvC scope cl C X.env) fp) tg (TGw P (own.map (·.2)) g)) (ht : ∀ (s : Shared) (H : Hp) (C : Addr) (cl : List (Str × Addr)) (fp : List Addr), PTs (X.blk s H scope (compEnvC scope cl C X.env) fp) ifs (TB P t))
    (he : ∀ (s : Shared) (H : Hp) (C : Addr) (cl : List (Str × Addr)) (fp : List Addr), PE (X.blk s H scope (compEnvC scope cl C X.env) fp) elt (T P e)) (hc : X.calm = true := by rfl) (hs : ∀ x, foldedSetIterable iter X.env x = pure x := by intro _; rfl) :
    PE X (.ListComp elt [⟨tg, iter, ifs, 0⟩] scope pos) (T P (eLcW fi g t e (own.map (·.2)))) := PE.weak (pe_lc hc hN hi ok hg ht he hs) lc_runW
/-- one of them, by its place -/
def bIxW : BF
  | .obs rs, .p (.int i), M => (atI rs i).map fun r => (.ob r, M)
  | _, _, _ => none
theorem at_obs {m : Mw} {rs : List Nat} {as : List Addr} {i : Int} {r : Nat} (h : rs.map (fun r => m.m[r]?) = as.map some) (e : atI rs i = some r) : ∃ a, atI (as.map V.ref) i = some (.ref a) ∧ m.m[r]? = some a := by
  have hl : rs.length = as.length := by have := congrArg List.length h; simpa using this
  unfold atI at e ⊢
  rw [List.length_map, ← hl]
  cases q : ixN rs.length i with
  | none => rw [q] at e; cases e
  | some j =>
    rw [q] at e
    have e : rs[j]? = some r := e
    have hj := congrArg (fun l => l[j]?) h
    simp only [List.getElem?_map, e, Option.map_some] at hj
    cases ha : as[j]? with
    | none => rw [ha] at hj; cases hj
    | some a =>
      rw [ha] at hj
      refine ⟨a, ?_, Option.some.inj hj⟩
      show (as.map V.ref)[j]? = some (V.ref a)
      rw [List.getElem?_map, ha]; rfl
theorem s_ixW : SR2 P (rIx P.K) bIxW := by
  intro x y v u m H M z M' Q rx ry hm e k
  unfold bIxW at e
  split at e
  · obtain ⟨d, e1, e2⟩ := Option.map_eq_some_iff.mp e
    cases e2
    obtain ⟨p, as, rfl, hp, hd⟩ := rx
    rw [rv_int ry]
    obtain ⟨a, h1, h2⟩ := at_obs hd e1
    exact .inl ⟨_, _, _, .ref a, rfl, rfl, .inl (rd_of (.inl hp)), h1, k _ m H .refl ⟨a, rfl, h2⟩ hm⟩
  · cases e
theorem ae_ixW (ha : PE X a (T P fa)) (hb : PE X b (T P fb)) (hs : PlainIx b := by exact fun _ _ => rfl) (hK : X.K = P.K := by rfl) : PE X (.Subscript a b pos) (T P (eBin bIxW fa fb)) :=
  PE.weak (pe_ix (by rw [← hK]; exact ix_seq) ha hb hs) (two_run s_ixW)
/-- a tuple of something and a list that may change -/
def tupOV (xs : List Val) (M : Sto) : Option (Val × Sto) := match xs with
  | [.p d, .ob r] => some (.pob d r, M)
  | _ => none
def eTupO (f : AF) : EF := fun ρ M => bnd (f ρ M) tupOV
theorem ae_tupO {es : List Expr} {fr : AF} {k1} (h : PA X es (TAr P fr)) : PE X (.Tuple es k1 pos) (T P (eTupO fr)) := by
  refine PE.weak (pe_tup h) fun σ H Q ⟨ρ, M, m, x, M', hs, hm, e, k⟩ => ?_
  obtain ⟨xs, M1, e1, e⟩ := bnd_eq e
  refine ⟨ρ, M, m, xs, M1, hs, hm, e1, fun vs m1 H1 ev1 rv1 rm1 => ?_⟩
  unfold tupOV at e
  split at e
  · rename_i d r
    cases e
    cases rv1 with
    | cons ra rb => cases rb with
      | cons rc rd =>
        cases rd
        rename_i u w
        obtain ⟨b, rfl, hb⟩ := rc
        refine ⟨by rw [szl_eq]; show 2 ≤ szl; decide, fun p hp' => ?_⟩
        refine k _ m1 _ (ev1.trans (ev_new rm1 hp')) ⟨p, u, b, rfl, .inl (.inl (msk_new rm1 hp' (fun _ z => by cases z))), dp_mono (ev_new rm1 hp').same d u ra, hb⟩ (rm1.new hp')
  · cases e
@[simp] theorem eTupO_run (f : AF) (ρ : Rho) (M : Sto) : eTupO f ρ M = bnd (f ρ M) tupOV := id rfl
end
end AX

namespace AX
open PySem PySem.Spec PyProof.Rows L2
/-! ## a range as a value -/
section
variable {X : Cx}
theorem cr_range1 : CallR X (.type "range") (fun vs H Q => ∃ j, vs = [V.int j] ∧ ∀ p, H p = none → Q (.ref p) (upd H p (.rng 0 j))) := by
  intro pins s σ H vs us Q I r h
  obtain ⟨j, rfl, q⟩ := h
  obtain ⟨u1, rfl, ri⟩ := vals1 r
  obtain ⟨t, rfl⟩ := ri
  refine call_range_1 ⟨.ref s.heap.objs.size, upd H s.heap.objs.size (.rng 0 j), I.laid (t' := s.toks + 2) (fun b o e => Heap.get?_push_of_some _ e) (Nat.le_refl _) ?_, rfl, q _ (I.hok.fresh (Nat.le_refl _))⟩
  exact ⟨s.toks, t, s.toks + 1, Heap.get?_push_size _ rfl⟩
/-- a range object that is known, walked -/
def iRgT (tl : TE) : TI := fun σ H R => tl σ H fun x H1 => ∃ (a : Addr) (lo hi : Int), x = .ref a ∧ H1 a = some (.rng lo hi) ∧ (-(2 ^ 62) ≤ lo ∧ lo < 2 ^ 62 ∧ -(2 ^ 62) ≤ hi ∧ hi < 2 ^ 62) ∧ R (Itr lo (hi - lo).toNat) H1
theorem pi_rgT {tg l : Expr} {tl : TE} (hl : PE X l tl) : PI X tg l (iRgT tl) := by
  refine ⟨fun pins s σ H R I h => ?_⟩
  refine thn (hl.run pins s σ H _ I h) fun v s1 ⟨x, H1, I1, r1, q1⟩ => ?_
  obtain ⟨a, lo, hi, e, ha, ⟨h1, h2, h3, h4⟩, q⟩ := q1
  subst e
  cases r1
  obtain ⟨t, u, v, ho⟩ := I1.hok a _ ha
  refine wpAny_pyIter_range (show IsRange s1.heap a lo hi 1 t u v from ho) (small_one h1 h2 h3 h4) ?_
  refine ⟨s1.heap.objs.size, [s1.heap.objs.size], _, _, H1, rfl, I1.kept (t' := s1.toks) fun b o e => Heap.get?_push_of_some _ e, turn_range _ lo (hi - lo).toNat, ?_, fun b hb => ?_, q⟩
  · have e1 : lo + ((0 : Nat) : Int) * 1 = lo := by simp
    have e2 : (((hi - lo).toNat : Nat) : Int) - ((0 : Nat) : Int) = Builtin.Range.rangeSize lo hi 1 := by rw [rangeSize_one]; split <;> omega
    show IsRangeIter _ _ (lo + ((0 : Nat) : Int) * 1) ((((hi - lo).toNat : Nat) : Int) - ((0 : Nat) : Int)) 1
    rw [e1, e2]
    exact Heap.get?_push_size _ rfl
  · have e : b = s1.heap.objs.size := by simpa using hb
    subst e
    exact I1.fpOk (Nat.le_refl _) (I1.hok.fresh (Nat.le_refl _))
variable {P : Par} {tg a : Expr} {fa : EF}
def nRg : NF
  | [.p (.int j)], M => some (.rg 0 j, M)
  | _, _ => none
theorem b_rg : BuiltT X P "range" nRg := ⟨_, cr_range1, by
  intro xs vs m H M z M' Q rv hm e k
  unfold nRg at e
  split at e
  · obtain ⟨v, rfl, r1⟩ := rvs1 rv
    rw [rv_int r1]
    cases e
    exact ⟨_, rfl, fun p hp => k _ m _ (ev_new hm hp) ⟨p, rfl, msk_new hm hp (fun _ z => by cases z)⟩ (hm.new hp)⟩
  · cases e⟩
def rgD (x : Val) (M : Sto) : Option (List PyData × Sto) := match x with
  | .rg lo hi => if i62 lo && i62 hi then some (rangeD lo (hi - lo).toNat, M) else none
  | _ => none
def iRg (fa : EF) : IF := fun ρ M => bnd (fa ρ M) rgD
theorem ai_rg (h : PE X a (T P fa)) : PI X tg a (TIt P (iRg fa)) := by
  refine PI.weak (pi_rgT h) fun σ H R ⟨ρ, M, m, xs, M', hs, hm, e, k⟩ => ?_
  obtain ⟨x, M1, e1, e⟩ := bnd_eq e
  refine ⟨ρ, M, m, x, M1, hs, hm, e1, fun v m1 H1 ev1 rv1 rm1 => ?_⟩
  unfold rgD at e
  split at e
  · rename_i lo hi
    split at e
    · rename_i hj
      cases e
      obtain ⟨p, rfl, hp⟩ := rv1
      rw [Bool.and_eq_true] at hj
      have b1 := i62_ok hj.1
      have b2 := i62_ok hj.2
      exact ⟨p, lo, hi, rfl, (msk_some hp).1, ⟨b1.1, b1.2, b2.1, b2.2⟩, k _ m1 H1 ev1 rm1 walk_rng⟩
    · cases e
  · cases e
end
@[simp] theorem nRg_i (j : Int) (M : Sto) : nRg [.p (.int j)] M = some (.rg 0 j, M) := id rfl
@[simp] theorem iRg_run (fa : EF) (ρ : Rho) (M : Sto) : iRg fa ρ M = bnd (fa ρ M) rgD := id rfl
end AX

namespace AX
open PySem PySem.Spec PyProof.Rows L2

/-! ## What may be shown and compared: d no deeper than n, its text no longer than w, its numbers not too large -/
def Bg (i : Int) : Prop := i.natAbs < 2 ^ 1900
structure Sh (n w : Nat) (d : PyData) : Prop where
  dp : d.depth ≤ n
  ln : (PyData.shown d).length ≤ w
  sh : PyData.showable d = true
  cl : PyData.canLay0 d = true
theorem Sh.mono {n n' w w' : Nat} {d : PyData} (h : Sh n w d) (h1 : n ≤ n') (h2 : w ≤ w') : Sh n' w' d := ⟨Nat.le_trans h.dp h1, Nat.le_trans h.ln h2, h.sh, h.cl⟩
theorem sh_repr {n w : Nat} {d : PyData} (h : Sh n w d) (h1 : n ≤ 60) (h2 : w ≤ szl) : reprOk d = true := by
  unfold reprOk
  have a := h.dp
  have b := h.ln
  rw [h.sh, PyData.hasDict_of_canLay d h.cl]
  simp only [Bool.true_and, Bool.not_false, Bool.and_eq_true, decide_eq_true_eq]
  exact ⟨by omega, by omega⟩
theorem sh_shp {n w : Nat} {d : PyData} (h : Sh n w d) (h1 : n ≤ 60) : shp d = true := by
  unfold shp SeqAt.shaped
  have a := h.dp
  rw [h.cl]
  simp only [Bool.true_and, decide_eq_true_eq]
  omega
theorem len_nat {n k : Nat} (hk : 0 < k) (h : n < 10 ^ k) : n.repr.length ≤ k := (Nat.length_repr_le_iff hk).mpr h
theorem len_int {i : Int} {k : Nat} (hk : 0 < k) (h : i.natAbs < 10 ^ k) : (Str.ofString (toString i)).length ≤ k + 1 := by
  rw [PySem.ofString_length]
  cases i with
  | ofNat n =>
    have := len_nat (n := n) hk (by simpa using h)
    have e : (toString (Int.ofNat n)) = n.repr := rfl
    rw [e]
    omega
  | negSucc n =>
    have := len_nat (n := n + 1) hk (by simpa using h)
    have e : (toString (Int.negSucc n)) = "-" ++ (n + 1).repr := rfl
    rw [e, String.length_append]
    have : "-".length = 1 := rfl
    omega
theorem sh_int {i : Int} (h : Bg i) : Sh 0 601 (.int i) := by
  have h2 : i.natAbs < 10 ^ 600 := Nat.lt_of_lt_of_le h (by decide +kernel)
  refine ⟨Nat.le_refl _, ?_, ?_, rfl⟩
  · have := len_int (by decide) h2
    simp only [PyData.shown]
    omega
  · simp only [PyData.showable, decide_eq_true_eq]
    by_cases hn : i.natAbs = 0
    · rw [hn]; decide
    · exact (Nat.log2_lt hn).mpr (Nat.lt_trans h (Nat.pow_lt_pow_right (by decide) (by decide)))
theorem sh_bool (b : Bool) : Sh 0 601 (.bool b) := by
  refine ⟨Nat.le_refl _, ?_, rfl, rfl⟩
  cases b <;> simp only [PyData.shown] <;> decide +kernel
theorem sh_none : Sh 0 601 .none := by
  refine ⟨Nat.le_refl _, ?_, rfl, rfl⟩
  simp only [PyData.shown]
  decide +kernel
theorem sh_str {s : Str} {w : Nat} (h1 : (reprText s).length ≤ w) (h2 : PyData.strOk s = true) : Sh 0 w (.str s) := ⟨Nat.le_refl _, by simp only [PyData.shown]; exact h1, by simp only [PyData.showable], by simp only [PyData.canLay0]; exact h2⟩
theorem from_le : ∀ (ts : List Str) (k w : Nat) (acc : Str), (∀ t ∈ ts, t.length ≤ w) → (textFrom k acc ts).length ≤ acc.length + ts.length * (w + 2)
  | [], k, w, acc, _ => by show acc.length ≤ _; omega
  | t :: r, k, w, acc, h => by
    have ih := from_le r (k + 1) w (acc ++ (if k > 0 then ", " else "" : String) ++ t) (fun x hx => h x (List.mem_cons_of_mem _ hx))
    have ht := h t (List.mem_cons_self ..)
    have e : (acc ++ (if k > 0 then ", " else "" : String) ++ t).length = acc.length + (if k > 0 then 2 else 0) + t.length := by
      rw [strLen_append, strLen_append]
      by_cases hk : k > 0
      · rw [if_pos hk, if_pos hk]; rfl
      · rw [if_neg hk, if_neg hk]; rfl
    have e2 : (textFrom k acc (t :: r)).length = (textFrom (k + 1) (acc ++ (if k > 0 then ", " else "" : String) ++ t) r).length := rfl
    have e3 : (if k > 0 then 2 else 0) ≤ 2 := by split <;> omega
    have e4 : (t :: r).length * (w + 2) = r.length * (w + 2) + (w + 2) := by rw [List.length_cons, Nat.succ_mul]
    omega
theorem list_le {ts : List Str} {w : Nat} (h : ∀ t ∈ ts, t.length ≤ w) : (listText ts).length ≤ 2 + ts.length * (w + 2) := by
  unfold listText
  rw [strLen_append]
  have := from_le ts 0 w "[" h
  have e1 : (("[" : String) : Str).length = 1 := rfl
  have e2 : (("]" : String) : Str).length = 1 := rfl
  rw [e1] at this
  rw [e2]
  omega
theorem join_le : ∀ (ts : List Str) (w : Nat), (∀ t ∈ ts, t.length ≤ w) → (Str.join ", " ts).length ≤ ts.length * (w + 2)
  | [], w, _ => by show (0 : Nat) ≤ _; omega
  | [x], w, h => by
    have := h x (by simp)
    show x.length ≤ 1 * (w + 2)
    omega
  | x :: y :: r, w, h => by
    have ih := join_le (y :: r) w (fun t ht => h t (List.mem_cons_of_mem _ ht))
    have hx := h x (by simp)
    show (x ++ ", " ++ Str.join ", " (y :: r)).length ≤ _
    rw [strLen_append, strLen_append]
    have e2 : ((", " : String) : Str).length = 2 := rfl
    have e4 : (x :: y :: r).length * (w + 2) = (y :: r).length * (w + 2) + (w + 2) := by rw [List.length_cons, Nat.succ_mul]
    rw [e2]
    omega
theorem tuple_le {ts : List Str} {w : Nat} (h : ∀ t ∈ ts, t.length ≤ w) : (tupleText ts).length ≤ 3 + ts.length * (w + 2) := by
  unfold tupleText
  rw [strLen_append, strLen_append]
  have := join_le ts w h
  have e1 : (("(" : String) : Str).length = 1 := rfl
  have e2 : ((if ts.length == 1 then ",)" else ")" : String) : Str).length ≤ 2 := by
    split <;> decide
  omega
theorem all_shown {n w : Nat} : ∀ {ds : List PyData}, (∀ d ∈ ds, Sh n w d) → (∀ t ∈ PyData.shownAll ds, t.length ≤ w) ∧ (PyData.shownAll ds).length = ds.length ∧ PyData.depthAll ds ≤ n ∧ PyData.showableAll ds = true ∧ PyData.canLayAll0 ds = true
  | [], _ => ⟨by simp [PyData.shownAll], by simp [PyData.shownAll], by simp [PyData.depthAll], by simp [PyData.showableAll], by simp [PyData.canLayAll0]⟩
  | d :: ds, h => by
    obtain ⟨h1, h2, h3, h4, h5⟩ := all_shown (ds := ds) (fun x hx => h x (List.mem_cons_of_mem _ hx))
    have hd := h d (List.mem_cons_self ..)
    refine ⟨fun t ht => ?_, ?_, ?_, ?_, ?_⟩
    · simp only [PyData.shownAll, List.mem_cons] at ht
      rcases ht with rfl | ht
      · exact hd.ln
      · exact h1 t ht
    · simp [PyData.shownAll, h2]
    · have := hd.dp
      simp only [PyData.depthAll]
      omega
    · simp only [PyData.showableAll, hd.sh, h4, Bool.and_self]
    · simp only [PyData.canLayAll0, hd.cl, h5, Bool.and_self]
theorem sh_list {n w : Nat} {ds : List PyData} (h : ∀ d ∈ ds, Sh n w d) : Sh (n + 1) (2 + ds.length * (w + 2)) (.list ds) := by
  obtain ⟨h1, h2, h3, h4, h5⟩ := all_shown h
  refine ⟨?_, ?_, ?_, ?_⟩
  · simp only [PyData.depth]; omega
  · simp only [PyData.shown]
    have := list_le h1
    rw [h2] at this
    exact this
  · simp only [PyData.showable]; exact h4
  · simp only [PyData.canLay0]; exact h5
theorem sh_tup {n w : Nat} {ds : List PyData} (h : ∀ d ∈ ds, Sh n w d) : Sh (n + 1) (3 + ds.length * (w + 2)) (.tuple ds) := by
  obtain ⟨h1, h2, h3, h4, h5⟩ := all_shown h
  refine ⟨?_, ?_, ?_, ?_⟩
  · simp only [PyData.depth]; omega
  · simp only [PyData.shown]
    have := tuple_le h1
    rw [h2] at this
    exact this
  · simp only [PyData.showable]; exact h4
  · simp only [PyData.canLay0]; exact h5
/-! flat values are compared without more -/
@[simp] theorem shp_int (i : Int) : shp (.int i) = true := by simp [shp, SeqAt.shaped, PyData.canLay0, PyData.depth]
@[simp] theorem shp_bool (b : Bool) : shp (.bool b) = true := by simp [shp, SeqAt.shaped, PyData.canLay0, PyData.depth]
@[simp] theorem shp_none : shp .none = true := by simp [shp, SeqAt.shaped, PyData.canLay0, PyData.depth]
theorem shp_str {s : Str} (h : PyData.strOk s = true) : shp (.str s) = true := by simp [shp, SeqAt.shaped, PyData.canLay0, PyData.depth, h]
@[simp] theorem shp_nil : shp (.tuple []) = true := by simp [shp, SeqAt.shaped, PyData.canLay0, PyData.canLayAll0, PyData.depth, PyData.depthAll]
@[simp] theorem shp_nil' : shp (.list []) = true := by simp [shp, SeqAt.shaped, PyData.canLay0, PyData.canLayAll0, PyData.depth, PyData.depthAll]
theorem ints_lay : ∀ ns : List Int, PyData.canLayAll0 (ns.map PyData.int) = true ∧ PyData.depthAll (ns.map PyData.int) = 0
  | [] => ⟨by simp [PyData.canLayAll0], by simp [PyData.depthAll]⟩
  | n :: ns => by
    obtain ⟨a, b⟩ := ints_lay ns
    exact ⟨by simp [PyData.canLayAll0, PyData.canLay0, a], by simp [PyData.depthAll, PyData.depth, b]⟩
@[simp] theorem shp_tints (ns : List Int) : shp (.tuple (ns.map PyData.int)) = true := by simp [shp, SeqAt.shaped, PyData.canLay0, PyData.depth, ints_lay]
@[simp] theorem shp_lints (ns : List Int) : shp (.list (ns.map PyData.int)) = true := by simp [shp, SeqAt.shaped, PyData.canLay0, PyData.depth, ints_lay]
@[simp] theorem eqv_int (i j : Int) : PyData.eqv (.int i) (.int j) = decide (i = j) := by
  simp only [PyData.eqv]
  by_cases h : i = j
  · simp [h]
  · simp [h]
@[simp] theorem eqv_bool (a b : Bool) : PyData.eqv (.bool a) (.bool b) = decide (a = b) := by
  cases a <;> cases b <;> rfl
@[simp] theorem eqv_str (a b : Str) : PyData.eqv (.str a) (.str b) = decide (a = b) := by
  simp only [PyData.eqv]
  by_cases h : a = b
  · simp [h]
  · simp [h]
/-! fractions -/
def F (q : Rat) : PyData := .tuple [.int q.num, .int q.den]
def Bq (k : Nat) (q : Rat) : Prop := q.num.natAbs < 2 ^ k ∧ q.den < 2 ^ k
theorem sh_F {q : Rat} {k : Nat} (h : Bq k q) (hk : k ≤ 1900) : Sh 1 1209 (F q) := by
  have a : Bg q.num := Nat.lt_of_lt_of_le h.1 (Nat.pow_le_pow_right (by decide) hk)
  have b : Bg (q.den : Int) := Nat.lt_of_lt_of_le (by simpa using h.2) (Nat.pow_le_pow_right (by decide) hk)
  exact (sh_tup (n := 0) (w := 601) (ds := [.int q.num, .int q.den]) (fun d hd => by
    simp only [List.mem_cons, List.not_mem_nil, or_false] at hd
    rcases hd with rfl | rfl
    · exact sh_int a
    · exact sh_int b)).mono (Nat.le_refl _) (by simp)
end AX

namespace AX
open PySem PySem.Spec PyProof.Rows L2

/-! ## loops -/
theorem forL_run {g : GF} {f : SF} (J : Nat → Rho → Sto → Prop) : ∀ (xs : List PyData) (k : Nat) (ρ : Rho) (M : Sto), J k ρ M →
    (∀ i x ρ M, xs[i]? = some x → J (k + i) ρ M → ∃ ρ1 M1 ρ2 M2, g (.p x) ρ M = some (ρ1, M1) ∧ (f ρ1 M1 = some (.nx, ρ2, M2) ∨ f ρ1 M1 = some (.ct, ρ2, M2)) ∧ J (k + i + 1) ρ2 M2) →
    ∃ ρ' M', forL g f xs ρ M = some (.nx, ρ', M') ∧ J (k + xs.length) ρ' M'
  | [], k, ρ, M, h0, _ => ⟨ρ, M, rfl, h0⟩
  | x :: xs, k, ρ, M, h0, hs => by
    obtain ⟨ρ1, M1, ρ2, M2, e1, e2, h1⟩ := hs 0 x ρ M rfl h0
    obtain ⟨ρ', M', e3, h2⟩ := forL_run J xs (k + 1) ρ2 M2 h1 (fun i y ρ M hy hj => by
      have := hs (i + 1) y ρ M (by simpa using hy) (by rw [show k + (i + 1) = k + 1 + i by omega]; exact hj)
      rw [show k + (i + 1) + 1 = k + 1 + i + 1 by omega] at this
      exact this)
    refine ⟨ρ', M', ?_, by rw [List.length_cons, show k + (xs.length + 1) = k + 1 + xs.length by omega]; exact h2⟩
    unfold forL
    rw [e1, bnd_some]
    rcases e2 with e2 | e2
    · rw [e2]; exact e3
    · rw [e2]; exact e3
/-- a loop that may end by a return (R), or go on to its end -/
theorem forL_ret {g : GF} {f : SF} (J : Nat → Rho → Sto → Prop) (R : Val → Sto → Prop) : ∀ (xs : List PyData) (k : Nat) (ρ : Rho) (M : Sto), J k ρ M →
    (∀ i x ρ M, xs[i]? = some x → J (k + i) ρ M → ∃ ρ1 M1 ρ2 M2, g (.p x) ρ M = some (ρ1, M1) ∧ ((f ρ1 M1 = some (.nx, ρ2, M2) ∧ J (k + i + 1) ρ2 M2) ∨ (f ρ1 M1 = some (.ct, ρ2, M2) ∧ J (k + i + 1) ρ2 M2) ∨ ∃ v, f ρ1 M1 = some (.rt v, ρ2, M2) ∧ R v M2)) →
    (∃ ρ' M', forL g f xs ρ M = some (.nx, ρ', M') ∧ J (k + xs.length) ρ' M') ∨ ∃ v ρ' M', forL g f xs ρ M = some (.rt v, ρ', M') ∧ R v M'
  | [], k, ρ, M, h0, _ => .inl ⟨ρ, M, rfl, h0⟩
  | x :: xs, k, ρ, M, h0, hs => by
    obtain ⟨ρ1, M1, ρ2, M2, e1, h1⟩ := hs 0 x ρ M rfl h0
    have go : J (k + 0 + 1) ρ2 M2 → (f ρ1 M1 = some (.nx, ρ2, M2) ∨ f ρ1 M1 = some (.ct, ρ2, M2)) → (∃ ρ' M', forL g f (x :: xs) ρ M = some (.nx, ρ', M') ∧ J (k + (x :: xs).length) ρ' M') ∨ ∃ v ρ' M', forL g f (x :: xs) ρ M = some (.rt v, ρ', M') ∧ R v M' := fun h1 e2 => by
      have e : forL g f (x :: xs) ρ M = forL g f xs ρ2 M2 := by
        conv => lhs; unfold forL
        rw [e1, bnd_some]
        rcases e2 with e2 | e2 <;> rw [e2]
      rw [e, List.length_cons, show k + (xs.length + 1) = k + 1 + xs.length by omega]
      exact forL_ret J R xs (k + 1) ρ2 M2 h1 (fun i y ρ M hy hj => by
        have := hs (i + 1) y ρ M (by simpa using hy) (by rw [show k + (i + 1) = k + 1 + i by omega]; exact hj)
        rw [show k + (i + 1) + 1 = k + 1 + i + 1 by omega] at this
        exact this)
    rcases h1 with ⟨e2, h1⟩ | ⟨e2, h1⟩ | ⟨v, e2, h1⟩
    · exact go h1 (.inl e2)
    · exact go h1 (.inr e2)
    · refine .inr ⟨v, ρ2, M2, ?_, h1⟩
      unfold forL
      rw [e1, bnd_some, e2]
/-- a loop whose body changes values alone -/
theorem forL_pure {g : GF} {f : SF} {α : Type} (st : α → Rho) (step : PyData → α → α) (M : Sto) : ∀ (xs : List PyData) (a : α), (∀ x ∈ xs, ∀ a, ∃ ρ1, g (.p x) (st a) M = some (ρ1, M) ∧ f ρ1 M = some (.nx, st (step x a), M)) → forL g f xs (st a) M = some (.nx, st (xs.foldl (fun a x => step x a) a), M)
  | [], a, _ => rfl
  | x :: xs, a, h => by
    obtain ⟨ρ1, e1, e2⟩ := h x (List.mem_cons_self ..) a
    unfold forL
    rw [e1, bnd_some, e2]
    exact forL_pure st step M xs (step x a) (fun y hy => h y (List.mem_cons_of_mem _ hy))
/-! ## comprehensions -/
theorem lcL_filter {g : GF} {t : TF} {e : EF} {ρ : Rho} {M : Sto} (c : PyData → Bool) (h : PyData → PyData) (ρ1 : PyData → Rho) : ∀ (xs : List PyData), (∀ x ∈ xs, g (.p x) ρ M = some (ρ1 x, M) ∧ t (ρ1 x) M = some (c x, M) ∧ (c x = true → e (ρ1 x) M = some (.p (h x), M))) → lcL g t e ρ xs M = some ((xs.filter c).map h, M)
  | [], _ => rfl
  | x :: xs, hh => by
    obtain ⟨h1, h2, h3⟩ := hh x (List.mem_cons_self ..)
    have ih := lcL_filter c h ρ1 xs (fun y hy => hh y (List.mem_cons_of_mem _ hy))
    unfold lcL
    rw [h1, bnd_some, h2, bnd_some, List.filter_cons]
    cases hc : c x with
    | true =>
      rw [if_pos rfl, if_pos rfl, h3 hc, bnd_some]
      simp only []
      rw [ih]
      rfl
    | false =>
      rw [if_neg Bool.false_ne_true, if_neg Bool.false_ne_true]
      exact ih
theorem lcL_map {g : GF} {e : EF} {ρ : Rho} {M : Sto} (h : PyData → PyData) (ρ1 : PyData → Rho) (xs : List PyData) (hh : ∀ x ∈ xs, g (.p x) ρ M = some (ρ1 x, M) ∧ e (ρ1 x) M = some (.p (h x), M)) : lcL g tYesF e ρ xs M = some (xs.map h, M) := by
  have := lcL_filter (g := g) (t := tYesF) (e := e) (ρ := ρ) (M := M) (fun _ => true) h ρ1 xs (fun x hx => ⟨(hh x hx).1, rfl, fun _ => (hh x hx).2⟩)
  rwa [List.filter_eq_self.mpr (fun _ _ => rfl)] at this
/-- .. with a state -/
theorem lcL_run {g : GF} {e : EF} {ρ : Rho} (J : Sto → Prop) (R : PyData → PyData → Prop) (ρ1 : PyData → Rho) : ∀ (xs : List PyData) (M : Sto), J M → (∀ x ∈ xs, ∀ M, J M → g (.p x) ρ M = some (ρ1 x, M) ∧ ∃ d M1, e (ρ1 x) M = some (.p d, M1) ∧ R x d ∧ J M1) →
    ∃ ds M1, lcL g tYesF e ρ xs M = some (ds, M1) ∧ J M1 ∧ ds.length = xs.length ∧ ∀ (i : Nat) (x d : PyData), xs[i]? = some x → ds[i]? = some d → R x d
  | [], M, h0, _ => ⟨[], M, rfl, h0, rfl, by simp⟩
  | x :: xs, M, h0, hs => by
    obtain ⟨e1, d, M1, e2, r, h1⟩ := hs x (List.mem_cons_self ..) M h0
    obtain ⟨ds, M2, e3, h2, hl, hr⟩ := lcL_run J R ρ1 xs M1 h1 (fun y hy => hs y (List.mem_cons_of_mem _ hy))
    refine ⟨d :: ds, M2, ?_, h2, by simp [hl], fun i y z hy hz => ?_⟩
    · unfold lcL
      rw [e1, bnd_some, tYesF_run, bnd_some, if_pos rfl, e2, bnd_some]
      simp only []
      rw [e3]
      rfl
    · cases i with
      | zero =>
        simp at hy hz
        subst hy hz
        exact r
      | succ i => exact hr i y z (by simpa using hy) (by simpa using hz)
@[simp] theorem rangeD_len (a : Int) (n : Nat) : (rangeD a n).length = n := by simp [rangeD]
theorem rangeD_at {a : Int} {n i : Nat} {x : PyData} (h : (rangeD a n)[i]? = some x) : i < n ∧ x = .int (a + i) := by
  unfold rangeD at h
  rw [List.getElem?_map] at h
  obtain ⟨j, h1, h2⟩ := Option.map_eq_some_iff.mp h
  obtain ⟨h3, h4⟩ := List.getElem?_eq_some_iff.mp h1
  simp at h3 h4
  subst h4
  exact ⟨h3, h2.symm⟩
theorem rangeD_mem {a : Int} {n : Nat} {x : PyData} (h : x ∈ rangeD a n) : ∃ i : Nat, i < n ∧ x = .int (a + i) := by
  obtain ⟨i, h⟩ := List.mem_iff_getElem?.mp h
  exact ⟨i, rangeD_at h⟩
theorem i62_nat {n : Nat} (h : n < 2 ^ 62) : i62 (n : Int) = true := by
  unfold i62
  simp only [Bool.and_eq_true, decide_eq_true_eq]
  constructor <;> omega
theorem i62_int {i : Int} (h1 : -(2 ^ 62) ≤ i) (h2 : i < 2 ^ 62) : i62 i = true := by
  unfold i62
  simp only [Bool.and_eq_true, decide_eq_true_eq]
  exact ⟨h1, h2⟩
theorem map_int (ns : List Int) : (ns.map PyData.int).map Val.p = ns.map I := by simp
end AX

namespace AX
open PySem PySem.Spec PyProof.Rows L2

/-! ## the plain side of AX13 .. AX19 -/
def cvV (i : Nat) (ρ : Rho) (xs : List Val) (M : Sto) : Option (Val × Sto) := match ρ[i]?, pures xs with
  | some (some (.clo g)), some ds => (g ds).map fun d => (.p d, M)
  | _, _ => none
@[simp] theorem eCv_run (i : Nat) (fr : AF) (ρ : Rho) (M : Sto) : eCv i fr ρ M = bnd (fr ρ M) (cvV i ρ) := id rfl
theorem cvV_run {i : Nat} {ρ : Rho} {xs : List Val} {M : Sto} {g : List PyData → Option PyData} {ds : List PyData} (h1 : ρ[i]? = some (some (.clo g))) (h2 : pures xs = some ds) : cvV i ρ xs M = (g ds).map fun d => (.p d, M) := by
  unfold cvV
  rw [h1, h2]
def hoZ (z : Val) (M2 : Sto) : Option (Val × Sto) := if notClo z then some (z, M2) else none
@[simp] theorem hoZ_p (d : PyData) (M : Sto) : hoZ (.p d) M = some (.p d, M) := id rfl
def hoV (fn : Fn) (g : List PyData → Option PyData) (x : Val) (M1 : Sto) : Option (Val × Sto) := if notClo x then bnd (fn [x, .clo g] M1) hoZ else none
@[simp] theorem hoV_p (fn : Fn) (g : List PyData → Option PyData) (d : PyData) (M : Sto) : hoV fn g (.p d) M = bnd (fn [.p d, .clo g] M) hoZ := id rfl
@[simp] theorem eHo_run (fn : Fn) (fa : EF) (h : Rho → List PyData → Option PyData) (ρ : Rho) (M : Sto) : eHo fn fa h ρ M = bnd (fa ρ M) (hoV fn (h ρ)) := id rfl
def enV (x : Val) (M : Sto) : Option (List PyData × Sto) := match seqOf x with
  | some ds => some (enD ds, M)
  | none => none
@[simp] theorem enV_l (xs : List PyData) (M : Sto) : enV (.p (.list xs)) M = some (enD xs, M) := id rfl
@[simp] theorem enV_t (xs : List PyData) (M : Sto) : enV (.p (.tuple xs)) M = some (enD xs, M) := id rfl
@[simp] theorem iEn_run (fa : EF) (ρ : Rho) (M : Sto) : iEn fa ρ M = bnd (fa ρ M) enV := id rfl
def zpV (x y : Val) (M : Sto) : Option (List PyData × Sto) := match seqOf x, seqOf y with
  | some ds, some es => some (zipD ds es, M)
  | _, _ => none
@[simp] theorem zpV_ll (xs ys : List PyData) (M : Sto) : zpV (.p (.list xs)) (.p (.list ys)) M = some (zipD xs ys, M) := id rfl
@[simp] theorem zpV_lt (xs ys : List PyData) (M : Sto) : zpV (.p (.list xs)) (.p (.tuple ys)) M = some (zipD xs ys, M) := id rfl
@[simp] theorem zpV_tl (xs ys : List PyData) (M : Sto) : zpV (.p (.tuple xs)) (.p (.list ys)) M = some (zipD xs ys, M) := id rfl
@[simp] theorem zpV_tt (xs ys : List PyData) (M : Sto) : zpV (.p (.tuple xs)) (.p (.tuple ys)) M = some (zipD xs ys, M) := id rfl
def kZp (fb : EF) (ρ : Rho) (x : Val) (M : Sto) : Option (List PyData × Sto) := bnd (fb ρ M) (zpV x)
@[simp] theorem kZp_run (fb : EF) (ρ : Rho) (x : Val) (M : Sto) : kZp fb ρ x M = bnd (fb ρ M) (zpV x) := id rfl
@[simp] theorem iZp_run (fa fb : EF) (ρ : Rho) (M : Sto) : iZp fa fb ρ M = bnd (fa ρ M) (kZp fb ρ) := id rfl
@[simp] theorem enD_len (ds : List PyData) : (enD ds).length = ds.length := by simp [enD]
@[simp] theorem zipD_len (ds es : List PyData) : (zipD ds es).length = min ds.length es.length := by simp [zipD]
theorem enD_at {ds : List PyData} {i : Nat} {x : PyData} (h : (enD ds)[i]? = some x) : ∃ d, ds[i]? = some d ∧ x = .tuple [.int (i : Nat), d] := by
  unfold enD at h
  rw [List.getElem?_mapIdx] at h
  obtain ⟨d, h1, h2⟩ := Option.map_eq_some_iff.mp h
  exact ⟨d, h1, h2.symm⟩
def kLcM (ds : List PyData) (M : Sto) : Option (Val × Sto) := some (.ob M.length, M ++ [ds])
@[simp] theorem kLcM_run (ds : List PyData) (M : Sto) : kLcM ds M = some (.ob M.length, M ++ [ds]) := id rfl
def kLcMu (g : GF) (t : TF) (e : EF) (ρ : Rho) (xs : List PyData) (M : Sto) : Option (Val × Sto) := if xs.length ≤ szl then bnd (lcL g t e ρ xs M) kLcM else none
@[simp] theorem kLcMu_run (g : GF) (t : TF) (e : EF) (ρ : Rho) (xs : List PyData) (M : Sto) : kLcMu g t e ρ xs M = if xs.length ≤ szl then bnd (lcL g t e ρ xs M) kLcM else none := id rfl
@[simp] theorem eLcM_run (fi : IF) (g : GF) (t : TF) (e : EF) (vs : List Nat) (ρ : Rho) (M : Sto) : eLcM fi g t e vs ρ M = bnd (fi ρ M) (kLcMu g t e (wipeR ρ vs)) := id rfl
@[simp] theorem bAdd_ll (a b : List PyData) (M : Sto) : bAdd (.p (.list a)) (.p (.list b)) M = if a.length + b.length ≤ szl then some (.p (.list (a ++ b)), M) else none := id rfl
@[simp] theorem bAdd_tt (a b : List PyData) (M : Sto) : bAdd (.p (.tuple a)) (.p (.tuple b)) M = if a.length + b.length ≤ szl then some (.p (.tuple (a ++ b)), M) else none := id rfl
/-! slices, places -/
theorem sIx_nat (n d i : Nat) : HT.sIx n d (some (i : Int)) = min i n := by
  show (if (i : Int) < 0 then ((i : Int) + (n : Int)).toNat else min ((i : Int)).toNat n) = _
  rw [if_neg (by omega)]
  simp
@[simp] theorem cut_take (ds : List PyData) (i : Nat) : cutA ds none (some (i : Int)) = ds.take i := by
  unfold cutA
  rw [sIx_nat]
  show (ds.drop 0).take (min i ds.length - 0) = _
  rw [List.drop_zero, Nat.sub_zero, List.take_eq_take_iff]
  omega
@[simp] theorem cut_drop (ds : List PyData) (i : Nat) : cutA ds (some (i : Int)) none = ds.drop i := by
  unfold cutA
  rw [sIx_nat]
  show (ds.drop (min i ds.length)).take (ds.length - min i ds.length) = _
  have : (ds.drop (min i ds.length)).length = ds.length - min i ds.length := by simp
  rw [← this, List.take_length]
  by_cases h : i ≤ ds.length
  · rw [Nat.min_eq_left h]
  · rw [Nat.min_eq_right (by omega), List.drop_eq_nil_of_le (Nat.le_refl _), List.drop_eq_nil_of_le (by omega)]
@[simp] theorem cut_take' (ds : List PyData) (i : Int) (h : 0 ≤ i) : cutA ds none (some i) = ds.take i.toNat := by
  obtain ⟨n, rfl⟩ := Int.eq_ofNat_of_zero_le h
  simp
theorem cut_drop' (ds : List PyData) (i : Int) (h : 0 ≤ i) : cutA ds (some i) none = ds.drop i.toNat := by
  obtain ⟨n, rfl⟩ := Int.eq_ofNat_of_zero_le h
  simp
theorem atI_last {α : Type} (xs : List α) (h : xs ≠ []) : atI xs (-1) = xs.getLast? := by
  obtain ⟨ys, y, rfl⟩ : ∃ ys y, xs = ys ++ [y] := ⟨_, _, (List.dropLast_concat_getLast h).symm⟩
  simp
theorem map_F_cut (qs : List Rat) (i : Nat) : (qs.map F).take i = (qs.take i).map F ∧ (qs.map F).drop i = (qs.drop i).map F := by simp
/-! one function called with the elements of a tuple, till it tells False -/
theorem forL_ended {g : GF} {f : SF} (J : Nat → Rho → Sto → Prop) {v : Val} {ρe : Rho → Rho} {M0 : Sto} : ∀ (xs : List PyData) (k n : Nat) (ρ : Rho) (M : Sto), n < xs.length → J k ρ M →
    (∀ i x ρ M, i < n → xs[i]? = some x → J (k + i) ρ M → ∃ ρ1 M1 ρ2 M2, g (.p x) ρ M = some (ρ1, M1) ∧ f ρ1 M1 = some (.nx, ρ2, M2) ∧ J (k + i + 1) ρ2 M2) →
    (∀ x ρ M, xs[n]? = some x → J (k + n) ρ M → ∃ ρ1 M1 ρ2, g (.p x) ρ M = some (ρ1, M1) ∧ f ρ1 M1 = some (.rt v, ρ2, M0)) → ∃ ρ2, forL g f xs ρ M = some (.rt v, ρ2, M0)
  | [], k, n, ρ, M, hn, _, _, _ => absurd hn (by simp)
  | x :: xs, k, 0, ρ, M, _, h0, _, he => by
    obtain ⟨ρ1, M1, ρ2, e1, e2⟩ := he x ρ M rfl h0
    refine ⟨ρ2, ?_⟩
    unfold forL
    rw [e1, bnd_some, e2]
  | x :: xs, k, n + 1, ρ, M, hn, h0, hs, he => by
    obtain ⟨ρ1, M1, ρ2, M2, e1, e2, h1⟩ := hs 0 x ρ M (by omega) rfl h0
    obtain ⟨ρ3, e3⟩ := forL_ended (ρe := ρe) J xs (k + 1) n ρ2 M2 (by simpa using hn) h1 (fun i y ρ M hi hy hj => by
      have := hs (i + 1) y ρ M (by omega) (by simpa using hy) (by rw [show k + (i + 1) = k + 1 + i by omega]; exact hj)
      rw [show k + (i + 1) + 1 = k + 1 + i + 1 by omega] at this
      exact this) (fun y ρ M hy hj => he y ρ M (by simpa using hy) (by rw [show k + (n + 1) = k + 1 + n by omega]; exact hj))
    refine ⟨ρ3, ?_⟩
    unfold forL
    rw [e1, bnd_some, e2]
    exact e3
/-! loops over a list of which something is known -/
theorem forL_take {β : Type} {g : GF} {f : SF} (enc : List β → β → PyData) (J : List β → Rho → Sto → Prop) (bs : List β) (xs : List PyData) (hxs : xs.length = bs.length) (hat : ∀ (pre : List β) (b : β), pre ++ [b] <+: bs → xs[pre.length]? = some (enc pre b)) (ρ : Rho) (M : Sto) (h0 : J [] ρ M)
    (hs : ∀ (pre : List β) (b : β) (ρ : Rho) (M : Sto), pre ++ [b] <+: bs → J pre ρ M → ∃ ρ1 M1 ρ2 M2, g (.p (enc pre b)) ρ M = some (ρ1, M1) ∧ (f ρ1 M1 = some (.nx, ρ2, M2) ∨ f ρ1 M1 = some (.ct, ρ2, M2)) ∧ J (pre ++ [b]) ρ2 M2) :
    ∃ ρ' M', forL g f xs ρ M = some (.nx, ρ', M') ∧ J bs ρ' M' := by
  obtain ⟨ρ', M', e, h⟩ := forL_run (g := g) (f := f) (fun i ρ M => J (bs.take i) ρ M) xs 0 ρ M (by simpa using h0) (fun i x ρ M hx hj => by
    rw [Nat.zero_add] at hj ⊢
    have hi : i < bs.length := by rw [← hxs]; exact (List.getElem?_eq_some_iff.mp hx).1
    have et : bs.take (i + 1) = bs.take i ++ [bs[i]] := by rw [List.take_append_getElem]
    have hp : bs.take i ++ [bs[i]] <+: bs := by rw [← et]; exact List.take_prefix _ _
    have hl : (bs.take i).length = i := by rw [List.length_take]; omega
    have := hat _ _ hp
    rw [hl, hx] at this
    cases this
    rw [et]
    exact hs _ _ ρ M hp hj)
  rw [Nat.zero_add, hxs, List.take_length] at h
  exact ⟨ρ', M', e, h⟩
theorem pre_at {β : Type} {pre bs : List β} {b : β} (h : pre ++ [b] <+: bs) : bs[pre.length]? = some b := by
  obtain ⟨t, rfl⟩ := h
  simp
/-- over values written by one way of writing -/
theorem forL_map {β : Type} {g : GF} {f : SF} (enc : β → PyData) (J : List β → Rho → Sto → Prop) (bs : List β) (ρ : Rho) (M : Sto) (h0 : J [] ρ M)
    (hs : ∀ (pre : List β) (b : β) (ρ : Rho) (M : Sto), pre ++ [b] <+: bs → J pre ρ M → ∃ ρ1 M1 ρ2 M2, g (.p (enc b)) ρ M = some (ρ1, M1) ∧ (f ρ1 M1 = some (.nx, ρ2, M2) ∨ f ρ1 M1 = some (.ct, ρ2, M2)) ∧ J (pre ++ [b]) ρ2 M2) :
    ∃ ρ' M', forL g f (bs.map enc) ρ M = some (.nx, ρ', M') ∧ J bs ρ' M' :=
  forL_take (fun _ b => enc b) J bs (bs.map enc) (by simp) (fun pre b h => by rw [List.getElem?_map, pre_at h]; rfl) ρ M h0 hs
theorem forL_en {β : Type} {g : GF} {f : SF} (enc : β → PyData) (J : List β → Rho → Sto → Prop) (bs : List β) (ρ : Rho) (M : Sto) (h0 : J [] ρ M)
    (hs : ∀ (pre : List β) (b : β) (ρ : Rho) (M : Sto), pre ++ [b] <+: bs → J pre ρ M → ∃ ρ1 M1 ρ2 M2, g (.p (.tuple [.int (pre.length : Nat), enc b])) ρ M = some (ρ1, M1) ∧ (f ρ1 M1 = some (.nx, ρ2, M2) ∨ f ρ1 M1 = some (.ct, ρ2, M2)) ∧ J (pre ++ [b]) ρ2 M2) :
    ∃ ρ' M', forL g f (enD (bs.map enc)) ρ M = some (.nx, ρ', M') ∧ J bs ρ' M' :=
  forL_take (fun pre b => .tuple [.int (pre.length : Nat), enc b]) J bs (enD (bs.map enc)) (by simp) (fun pre b h => by
    unfold enD
    rw [List.getElem?_mapIdx, List.getElem?_map, pre_at h]
    rfl) ρ M h0 hs
theorem lcL_filterM {β : Type} {g : GF} {t : TF} {e : EF} {ρ : Rho} {M : Sto} (enc : β → PyData) (c : β → Bool) (h : β → PyData) (ρ1 : β → Rho) : ∀ (bs : List β), (∀ b ∈ bs, g (.p (enc b)) ρ M = some (ρ1 b, M) ∧ t (ρ1 b) M = some (c b, M) ∧ (c b = true → e (ρ1 b) M = some (.p (h b), M))) → lcL g t e ρ (bs.map enc) M = some ((bs.filter c).map h, M)
  | [], _ => rfl
  | x :: xs, hh => by
    obtain ⟨h1, h2, h3⟩ := hh x (List.mem_cons_self ..)
    have ih := lcL_filterM enc c h ρ1 xs (fun y hy => hh y (List.mem_cons_of_mem _ hy))
    rw [List.map_cons]
    unfold lcL
    rw [h1, bnd_some, h2, bnd_some, List.filter_cons]
    cases hc : c x with
    | true =>
      rw [if_pos rfl, if_pos rfl, h3 hc, bnd_some]
      simp only []
      rw [ih]
      rfl
    | false =>
      rw [if_neg Bool.false_ne_true, if_neg Bool.false_ne_true]
      exact ih
theorem lcL_mapM {β : Type} {g : GF} {e : EF} {ρ : Rho} {M : Sto} (enc : β → PyData) (h : β → PyData) (ρ1 : β → Rho) (bs : List β) (hh : ∀ b ∈ bs, g (.p (enc b)) ρ M = some (ρ1 b, M) ∧ e (ρ1 b) M = some (.p (h b), M)) : lcL g tYesF e ρ (bs.map enc) M = some (bs.map h, M) := by
  have := lcL_filterM (g := g) (t := tYesF) (e := e) (ρ := ρ) (M := M) enc (fun _ => true) h ρ1 bs (fun x hx => ⟨(hh x hx).1, rfl, fun _ => (hh x hx).2⟩)
  rwa [List.filter_eq_self.mpr (fun _ _ => rfl)] at this
end AX

namespace AX
open PySem PySem.Spec PyProof.Rows L2

/-! ## runs: a list that may change gone through -/
@[simp] theorem iObj_run (fa : EF) (ρ : Rho) (M : Sto) : iObj fa ρ M = bnd (fa ρ M) obV := id rfl
theorem obV_o {r : Nat} {M : Sto} {xs : List PyData} (h : M[r]? = some xs) : obV (.ob r) M = some ((xs, fun M => M[r]? = some xs), M) := by
  unfold obV
  simp only [h]
noncomputable def kLcO (g : GF) (t : TF) (e : EF) (ρ : Rho) (xL : List PyData × (Sto → Prop)) (M : Sto) : Option (Val × Sto) := if xL.1.length ≤ szl then bnd (lcG xL.2 g t e ρ xL.1 M) kLcE else none
@[simp] theorem kLcO_run (g : GF) (t : TF) (e : EF) (ρ : Rho) (xs : List PyData) (L : Sto → Prop) (M : Sto) : kLcO g t e ρ (xs, L) M = if xs.length ≤ szl then bnd (lcG L g t e ρ xs M) kLcE else none := id rfl
@[simp] theorem eLcO_run (fi : IFO) (g : GF) (t : TF) (e : EF) (vs : List Nat) (ρ : Rho) (M : Sto) : eLcO fi g t e vs ρ M = bnd (fi ρ M) (kLcO g t e (wipeR ρ vs)) := id rfl
noncomputable def kLcMO (g : GF) (t : TF) (e : EF) (ρ : Rho) (xL : List PyData × (Sto → Prop)) (M : Sto) : Option (Val × Sto) := if xL.1.length ≤ szl then bnd (lcG xL.2 g t e ρ xL.1 M) kLcM else none
@[simp] theorem kLcMO_run (g : GF) (t : TF) (e : EF) (ρ : Rho) (xs : List PyData) (L : Sto → Prop) (M : Sto) : kLcMO g t e ρ (xs, L) M = if xs.length ≤ szl then bnd (lcG L g t e ρ xs M) kLcM else none := id rfl
@[simp] theorem eLcMO_run (fi : IFO) (g : GF) (t : TF) (e : EF) (vs : List Nat) (ρ : Rho) (M : Sto) : eLcMO fi g t e vs ρ M = bnd (fi ρ M) (kLcMO g t e (wipeR ρ vs)) := id rfl
noncomputable def kForO (g : GF) (f : SF) (ρ : Rho) (xL : List PyData × (Sto → Prop)) (M : Sto) : Option (Fl × Rho × Sto) := forG xL.2 g f xL.1 ρ M
@[simp] theorem kForO_run (g : GF) (f : SF) (ρ : Rho) (xs : List PyData) (L : Sto → Prop) (M : Sto) : kForO g f ρ (xs, L) M = forG L g f xs ρ M := id rfl
@[simp] theorem sForO_run (fi : IFO) (g : GF) (f : SF) (ρ : Rho) (M : Sto) : sForO fi g f ρ M = bnd (fi ρ M) (kForO g f ρ) := id rfl
theorem lcG_filterM {β : Type} {L : Sto → Prop} {g : GF} {t : TF} {e : EF} {ρ : Rho} {M : Sto} (hL : L M) (enc : β → PyData) (c : β → Bool) (h : β → PyData) (ρ1 : β → Rho) : ∀ (bs : List β), (∀ b ∈ bs, g (.p (enc b)) ρ M = some (ρ1 b, M) ∧ t (ρ1 b) M = some (c b, M) ∧ (c b = true → e (ρ1 b) M = some (.p (h b), M))) → lcG L g t e ρ (bs.map enc) M = some ((bs.filter c).map h, M)
  | [], _ => by rw [List.map_nil]; unfold lcG; rw [if_pos hL]; rfl
  | x :: xs, hh => by
    obtain ⟨h1, h2, h3⟩ := hh x (List.mem_cons_self ..)
    have ih := lcG_filterM hL enc c h ρ1 xs (fun y hy => hh y (List.mem_cons_of_mem _ hy))
    rw [List.map_cons]
    unfold lcG
    rw [if_pos hL, h1, bnd_some, h2, bnd_some, List.filter_cons]
    cases hc : c x with
    | true =>
      rw [if_pos rfl, if_pos rfl, h3 hc, bnd_some]
      simp only []
      rw [ih]
      rfl
    | false =>
      rw [if_neg Bool.false_ne_true, if_neg Bool.false_ne_true]
      exact ih
theorem lcG_mapM {β : Type} {L : Sto → Prop} {g : GF} {e : EF} {ρ : Rho} {M : Sto} (hL : L M) (enc : β → PyData) (h : β → PyData) (ρ1 : β → Rho) (bs : List β) (hh : ∀ b ∈ bs, g (.p (enc b)) ρ M = some (ρ1 b, M) ∧ e (ρ1 b) M = some (.p (h b), M)) : lcG L g tYesF e ρ (bs.map enc) M = some (bs.map h, M) := by
  have := lcG_filterM (g := g) (t := tYesF) (e := e) (ρ := ρ) (M := M) hL enc (fun _ => true) h ρ1 bs (fun x hx => ⟨(hh x hx).1, rfl, fun _ => (hh x hx).2⟩)
  rwa [List.filter_eq_self.mpr (fun _ _ => rfl)] at this
/-! *xs in a list -/
def stV (g : AF) (ρ : Rho) (x : Val) (M : Sto) : Option (List Val × Sto) := aStar (fun _ M => some (x, M)) g ρ M
@[simp] theorem aStar_run (f : EF) (g : AF) (ρ : Rho) (M : Sto) : aStar f g ρ M = bnd (f ρ M) (stV g ρ) := id rfl
def stC (xs : List PyData) (ys : List Val) (M : Sto) : Option (List Val × Sto) := some (xs.map Val.p ++ ys, M)
@[simp] theorem stC_run (xs : List PyData) (ys : List Val) (M : Sto) : stC xs ys M = some (xs.map Val.p ++ ys, M) := id rfl
@[simp] theorem stV_l (g : AF) (ρ : Rho) (xs : List PyData) (M : Sto) : stV g ρ (.p (.list xs)) M = bnd (g ρ M) (stC xs) := id rfl
@[simp] theorem stV_t (g : AF) (ρ : Rho) (xs : List PyData) (M : Sto) : stV g ρ (.p (.tuple xs)) M = bnd (g ρ M) (stC xs) := id rfl
theorem pures_app (xs : List PyData) (ys : List Val) : pures (xs.map Val.p ++ ys) = (pures ys).map (xs ++ ·) := by
  induction xs with
  | nil =>
    show pures ys = _
    cases pures ys <;> rfl
  | cons x xs ih =>
    show (match pures (xs.map Val.p ++ ys) with | some ds => some (x :: ds) | none => none) = _
    rw [ih]
    cases pures ys <;> rfl
theorem lstV_star (xs : List PyData) (y : PyData) (M : Sto) (h : xs.length + 1 ≤ 16777216) : lstV (xs.map Val.p ++ [.p y]) M = some (.p (.list (xs ++ [y])), M) := by
  have e : pures (xs.map Val.p ++ [Val.p y]) = some (xs ++ [y]) := by rw [pures_app]; rfl
  have l : (xs ++ [y]).length ≤ szl := by rw [List.length_append, szl_val]; exact h
  unfold lstV
  simp only [e]
  rw [if_pos l]
/-! statement by statement -/
theorem sSeq_nx {f g : SF} {ρ ρ1 : Rho} {M M1 : Sto} {r : Option (Fl × Rho × Sto)} (h1 : f ρ M = some (.nx, ρ1, M1)) (h2 : g ρ1 M1 = r) : sSeq f g ρ M = r := by
  rw [sSeq_run, h1, sq_nx, h2]
/-! ranges -/
theorem iRange2_of {fa fb : EF} {ρ : Rho} {M : Sto} {i j : Int} {n : Nat} (h1 : fa ρ M = some (I i, M)) (h2 : fb ρ M = some (I j, M)) (hi : i62 i = true) (hj : i62 j = true) (hn : (j - i).toNat = n) : iRange2 fa fb ρ M = some (rangeD i n, M) := by
  rw [iRange2_run, h1, bnd_some, kRng2_run, h2, bnd_some, rngV2_i, hi, hj, hn, Bool.and_self, if_pos rfl]
theorem rngV_of {j : Int} {n : Nat} (hn : j = (n : Int)) (hs : n < 1000000000) (M : Sto) : rngV (.p (.int j)) M = some ((List.range n).map fun i : Nat => PyData.int (i : Int), M) := by
  subst hn
  have h : i62 (n : Int) = true := i62_nat (by omega)
  rw [rngV_i, if_pos h, Int.toNat_natCast]
  have e : (fun i : Nat => PyData.int (0 + (i : Int))) = fun i : Nat => PyData.int (i : Int) := by
    funext i
    rw [Int.zero_add]
  unfold rangeD
  rw [e]
theorem rngV2_of {j : Int} {m n : Nat} (hn : j = (n : Int)) (hm : m ≤ n) (hs : n < 1000000000) (M : Sto) : rngV2 (.p (.int (m : Int))) (.p (.int j)) M = some ((List.range (n - m)).map fun i : Nat => PyData.int ((m + i : Nat) : Int), M) := by
  subst hn
  have h : i62 (n : Int) = true := i62_nat (by omega)
  have h' : i62 (m : Int) = true := i62_nat (by omega)
  rw [rngV2_i, h, h', Bool.and_self, if_pos rfl]
  have e : (fun i : Nat => PyData.int ((m : Int) + (i : Int))) = fun i : Nat => PyData.int ((m + i : Nat) : Int) := by
    funext i
    rw [Int.natCast_add]
  have : ((n : Int) - (m : Int)).toNat = n - m := by omega
  rw [this]
  unfold rangeD
  rw [e]
theorem iRange3_down {fa fb fc : EF} {ρ : Rho} {M : Sto} {n : Nat} (h1 : fa ρ M = some (I ((n : Int) - 1), M)) (h2 : fb ρ M = some (I (-1), M)) (h3 : fc ρ M = some (I (-1), M)) (hn : n < 1000000000) : iRange3 fa fb fc ρ M = some ((List.range n).map fun i : Nat => PyData.int ((n - 1 - i : Nat) : Int), M) := by
  have a1 : i62 ((n : Int) - 1) = true := i62_int (by omega) (by omega)
  have a2 : i62 (-1) = true := by decide
  have a3 : ((n : Int) - 1 - -1).toNat = n := by omega
  have e : rangeC ((n : Int) - 1) (-1) n = (List.range n).map fun i : Nat => PyData.int ((n - 1 - i : Nat) : Int) := by
    unfold rangeC
    refine List.map_congr_left fun i hi => ?_
    have hi := List.mem_range.mp hi
    congr 1
    omega
  unfold iRange3
  rw [h1, bnd_some, h2, bnd_some, h3, bnd_some]
  show (if (-1 : Int) = -1 ∧ (i62 ((n : Int) - 1) && i62 (-1)) = true then some (rangeC ((n : Int) - 1) (-1) ((n : Int) - 1 - -1).toNat, M) else none) = _
  rw [a1, a2, a3, e, if_pos ⟨rfl, rfl⟩]
theorem cut_mid (ds : List PyData) (i j : Nat) : cutA ds (some (i : Int)) (some (j : Int)) = (ds.drop i).take (j - i) := by
  unfold cutA
  rw [sIx_nat, sIx_nat]
  by_cases h : i ≤ ds.length
  · rw [Nat.min_eq_left h, List.take_eq_take_iff, List.length_drop]
    omega
  · rw [List.drop_eq_nil_of_le (by omega), List.drop_eq_nil_of_le (by omega), List.take_nil, List.take_nil]
def idxV (ys : List Val) (xs : List PyData) (M : Sto) : Option (Val × Sto) := match ys with
  | [.p d] => if shp (.list xs) && shp d then (idxOf d xs 0).map fun (j : Nat) => (Val.p (.int (j : Int)), M) else none
  | _ => none
theorem eIdx_of {fo : EF} {fr : AF} {ρ : Rho} {M M1 M2 : Sto} {xs : List PyData} {d : PyData} {j : Nat} (h1 : fo ρ M = some (.p (.list xs), M1)) (h2 : fr ρ M1 = some ([.p d], M2)) (hs : shp (.list xs) = true) (hd : shp d = true) (hj : idxOf d xs 0 = some j) : eIdx fo fr ρ M = some (I j, M2) := by
  unfold eIdx
  rw [h1, bnd_some, h2, bnd_some]
  show (if shp (.list xs) && shp d then (idxOf d xs 0).map fun (j : Nat) => (Val.p (.int (j : Int)), M2) else none) = _
  rw [hs, hd, Bool.and_self, if_pos rfl, hj]
  rfl
theorem idx_bools (P : Nat → Bool) : ∀ (n k : Nat), idxOf (.bool true) ((List.range' k n).map fun i => PyData.bool (P i)) k = (List.range' k n).find? P := fun n => by
  induction n with
  | zero => intro k; rfl
  | succ n ih =>
    intro k
    rw [List.range'_succ, List.map_cons, List.find?_cons]
    unfold idxOf
    rw [eqv_bool, ih]
    cases P k <;> rfl
theorem idx_range (P : Nat → Bool) (n : Nat) : idxOf (.bool true) ((List.range n).map fun i => PyData.bool (P i)) 0 = (List.range n).find? P := by
  rw [List.range_eq_range']
  exact idx_bools P n 0
theorem bools_lay : ∀ bs : List Bool, PyData.canLayAll0 (bs.map PyData.bool) = true ∧ PyData.depthAll (bs.map PyData.bool) = 0
  | [] => ⟨rfl, rfl⟩
  | b :: bs => by
    have := bools_lay bs
    exact ⟨by simp [PyData.canLayAll0, PyData.canLay0, this.1], by simp [PyData.depthAll, PyData.depth, this.2]⟩
theorem shp_bools (bs : List Bool) : shp (.list (bs.map PyData.bool)) = true := by
  have h := bools_lay bs
  simp [shp, SeqAt.shaped, PyData.canLay0, PyData.depth, h.1, h.2]
theorem eqv_nilT (ds : List PyData) : PyData.eqv (.tuple ds) (.tuple []) = ds.isEmpty := by
  cases ds <;> simp [PyData.eqv, PyData.eqvAll]
theorem bNe_nilT {ds : List PyData} (h : shp (.tuple ds) = true) (M : Sto) : bNe (.p (.tuple ds)) (.p (.tuple [])) M = some (B (!ds.isEmpty), M) := by
  rw [bNe_p, h, shp_nil, eqv_nilT]
  rfl
theorem bEq_nilT {ds : List PyData} (h : shp (.tuple ds) = true) (M : Sto) : bEq (.p (.tuple ds)) (.p (.tuple [])) M = some (B ds.isEmpty, M) := by
  rw [bEq_p, h, shp_nil, eqv_nilT]
  rfl
/-! equality with the empty list -/
theorem eqv_nil (ds : List PyData) : PyData.eqv (.list ds) (.list []) = ds.isEmpty := by
  cases ds <;> simp [PyData.eqv, PyData.eqvAll]
theorem bNe_nil {ds : List PyData} (h : shp (.list ds) = true) (M : Sto) : bNe (.p (.list ds)) (.p (.list [])) M = some (B (!ds.isEmpty), M) := by
  rw [bNe_p, h, shp_nil', eqv_nil]
  rfl
theorem bEq_nil {ds : List PyData} (h : shp (.list ds) = true) (M : Sto) : bEq (.p (.list ds)) (.p (.list [])) M = some (B ds.isEmpty, M) := by
  rw [bEq_p, h, shp_nil', eqv_nil]
  rfl
theorem shp_nats (c : List Nat) : shp (.list (c.map fun a : Nat => PyData.int (a : Int))) = true := by
  have e : (c.map fun a : Nat => PyData.int (a : Int)) = (c.map fun a : Nat => (a : Int)).map PyData.int := by rw [List.map_map]; rfl
  rw [e]; exact shp_lints _
end AX

namespace AX
open PySem PySem.Spec PyProof.Rows L2
/-! ## sizes of fractions -/
theorem Bq.num {k : Nat} {q : Rat} (h : Bq k q) : q.num.natAbs < 2 ^ k := h.1
theorem Bq.den {k : Nat} {q : Rat} (h : Bq k q) : q.den < 2 ^ k := h.2
theorem Bq.mono {j k : Nat} {q : Rat} (h : Bq j q) (l : j ≤ k) : Bq k q := ⟨Nat.lt_of_lt_of_le h.1 (Nat.pow_le_pow_right (by decide) l), Nat.lt_of_lt_of_le h.2 (Nat.pow_le_pow_right (by decide) l)⟩
theorem natAbs_mul_lt {a b : Int} {j k : Nat} (h1 : a.natAbs < 2 ^ j) (h2 : b.natAbs < 2 ^ k) : (a * b).natAbs < 2 ^ (j + k) := by
  rw [Int.natAbs_mul, Nat.pow_add]
  have hj : 0 < 2 ^ j := Nat.two_pow_pos j
  calc a.natAbs * b.natAbs ≤ a.natAbs * 2 ^ k := Nat.mul_le_mul_left _ (Nat.le_of_lt h2)
    _ < 2 ^ j * 2 ^ k := Nat.mul_lt_mul_of_pos_right h1 (Nat.two_pow_pos k)
theorem bq_divInt {n s : Int} {k : Nat} (hs : s ≠ 0) (h1 : n.natAbs < 2 ^ k) (h2 : s.natAbs < 2 ^ k) : Bq k (Rat.divInt n s) := by
  have hg : 0 < s.gcd n := by
    rw [Int.gcd_eq_natAbs_gcd_natAbs]
    exact Nat.gcd_pos_of_pos_left _ (by omega)
  refine ⟨?_, ?_⟩
  · rw [Rat.num_divInt, Int.natAbs_ediv_of_dvd]
    · rw [Int.natAbs_mul]
      have : s.sign.natAbs = 1 := by
        rw [Int.natAbs_sign, if_neg hs]
      rw [this, Nat.one_mul]
      exact Nat.lt_of_le_of_lt (Nat.div_le_self _ _) h1
    · exact Int.dvd_trans (Int.gcd_dvd_right ..) (Int.dvd_mul_left ..)
  · rw [Rat.den_divInt, if_neg hs]
    exact Nat.lt_of_le_of_lt (Nat.div_le_self _ _) h2
theorem Bq.mul {j k : Nat} {a b : Rat} (h1 : Bq j a) (h2 : Bq k b) : Bq (j + k) (a * b) := by
  rw [Rat.mul_def', ← Rat.divInt_ofNat]
  refine bq_divInt ?_ (natAbs_mul_lt h1.1 h2.1) ?_
  · have := a.den_nz; have := b.den_nz
    exact Int.ofNat_ne_zero.mpr (Nat.mul_ne_zero ‹_› ‹_›)
  · rw [Int.natCast_mul]
    exact natAbs_mul_lt (by simpa using h1.2) (by simpa using h2.2)
theorem natAbs_add_lt {a b : Int} {k : Nat} (h1 : a.natAbs < 2 ^ k) (h2 : b.natAbs < 2 ^ k) : (a + b).natAbs < 2 ^ (k + 1) := by
  have := Int.natAbs_add_le a b
  rw [Nat.pow_succ]
  omega
theorem natAbs_sub_lt {a b : Int} {k : Nat} (h1 : a.natAbs < 2 ^ k) (h2 : b.natAbs < 2 ^ k) : (a - b).natAbs < 2 ^ (k + 1) := by
  rw [Nat.pow_succ]
  omega
theorem Bq.add {j k : Nat} {a b : Rat} (h1 : Bq j a) (h2 : Bq k b) : Bq (j + k + 1) (a + b) := by
  rw [Rat.add_def', ← Rat.divInt_ofNat]
  refine bq_divInt ?_ (natAbs_add_lt (natAbs_mul_lt h1.1 (by simpa using h2.2)) ?_) ?_
  · have := a.den_nz; have := b.den_nz
    exact Int.ofNat_ne_zero.mpr (Nat.mul_ne_zero ‹_› ‹_›)
  · rw [Nat.add_comm j k]
    exact natAbs_mul_lt h2.1 (by simpa using h1.2)
  · rw [Int.natCast_mul]
    exact Nat.lt_of_lt_of_le (natAbs_mul_lt (by simpa using h1.2) (by simpa using h2.2)) (Nat.pow_le_pow_right (by decide) (by omega))
theorem Bq.one : Bq 1 1 := ⟨by decide, by decide⟩
theorem Bq.zero : Bq 1 0 := ⟨by decide, by decide⟩
theorem Bq.neg {k : Nat} {q : Rat} (h : Bq k q) : Bq k (-q) := ⟨by rw [Rat.neg_num, Int.natAbs_neg]; exact h.1, by rw [Rat.neg_den]; exact h.2⟩
theorem Bq.sub {j k : Nat} {a b : Rat} (h1 : Bq j a) (h2 : Bq k b) : Bq (j + k + 1) (a - b) := by
  rw [Rat.sub_eq_add_neg]
  exact h1.add h2.neg
theorem div_divInt (a b : Rat) : a / b = Rat.divInt (a.num * b.den) (a.den * b.num) := by
  rw [Rat.div_def, Rat.inv_def]
  conv => lhs; rw [← Rat.num_divInt_den a]
  rw [Rat.divInt_mul_divInt]
theorem Bq.div {j k : Nat} {a b : Rat} (h1 : Bq j a) (h2 : Bq k b) : Bq (j + k) (a / b) := by
  by_cases hb : b.num = 0
  · have : b = 0 := Rat.num_eq_zero.mp hb
    subst this
    have : a / 0 = 0 := by rw [Rat.div_def, Rat.inv_zero, Rat.mul_zero]
    rw [this]
    have : 1 ≤ j + k := by
      have := h2.2
      have : (0 : Rat).den = 1 := rfl
      by_cases hk : k = 0
      · subst hk; simp at *
      · omega
    exact Bq.zero.mono this
  · rw [div_divInt]
    refine bq_divInt ?_ (natAbs_mul_lt h1.1 (by simpa using h2.2)) (natAbs_mul_lt (by simpa using h1.2) h2.1)
    have := a.den_nz
    exact Int.mul_ne_zero (by omega) hb
theorem F_ix0 (q : Rat) (M : Sto) : bIx (.p (F q)) (I 0) M = some (I q.num, M) := by simp [F]
theorem F_ix1 (q : Rat) (M : Sto) : bIx (.p (F q)) (I 1) M = some (I q.den, M) := by simp [F]
theorem one_sub_parts (q : Rat) : (1 - q).num = q.den - q.num ∧ (1 - q).den = q.den := by
  have h := q.reduced
  have hd := q.den_nz
  have hc : Nat.gcd ((q.den : Int) - q.num).natAbs q.den = 1 := by
    have : Int.gcd ((q.den : Int) - q.num) q.den = Int.gcd q.num q.den := by
      rw [Int.gcd_comm, Int.gcd_self_sub_right, Int.gcd_comm]
    rw [Int.gcd_eq_natAbs_gcd_natAbs, Int.gcd_eq_natAbs_gcd_natAbs] at this
    simp only [Int.natAbs_natCast] at this
    rw [this]
    exact h
  have e : (1 : Rat) - q = ⟨(q.den : Int) - q.num, q.den, hd, hc⟩ := by
    rw [Rat.sub_def', Rat.mk_eq_mkRat]
    simp
  rw [e]
  exact ⟨rfl, rfl⟩
theorem F_one_sub (q : Rat) : F (1 - q) = .tuple [.int (q.den - q.num), .int q.den] := by
  obtain ⟨h1, h2⟩ := one_sub_parts q
  unfold F
  rw [h1, h2]
theorem Bq.rest {k : Nat} {q : Rat} (h : Bq k q) : Bq (k + 1) (1 - q) := by
  obtain ⟨h1, h2⟩ := one_sub_parts q
  exact ⟨by rw [h1]; exact natAbs_sub_lt (by simpa using h.2) h.1, by rw [h2]; exact Nat.lt_of_lt_of_le h.2 (Nat.pow_le_pow_right (by decide) (by omega))⟩
end AX

namespace AX
open PySem PySem.Spec PyProof.Rows L2

/-! ## Plain sums: rows of fractions, how many signs come, all courses -/
theorem snocRec {α : Type} {P : List α → Prop} (h0 : P []) (hs : ∀ xs x, P xs → P (xs ++ [x])) (xs : List α) : P xs := by
  have : ∀ ys : List α, P ys.reverse := fun ys => by
    induction ys with
    | nil => exact h0
    | cons y ys ih => rw [List.reverse_cons]; exact hs _ _ ih
  have := this xs.reverse
  rwa [List.reverse_reverse] at this
/-! ### fractions of a scale, of a size -/
theorem mul_den (q : Rat) : q * (q.den : Rat) = (q.num : Rat) := by
  have h : q = (q.num : Rat) / (q.den : Rat) := by rw [← Rat.mkRat_eq_div, Rat.mkRat_self]
  have d : (q.den : Rat) ≠ 0 := by exact_mod_cast q.den_nz
  have e : q * (q.den : Rat) = (q.num : Rat) / (q.den : Rat) * (q.den : Rat) := by rw [← h]
  rw [e]; grind
def Bd (D c : Nat) (q : Rat) : Prop := (∃ x : Int, q * (D : Rat) = (x : Rat)) ∧ -(c : Rat) ≤ q ∧ q ≤ (c : Rat)
theorem den_dvd {q : Rat} {D : Nat} {x : Int} (h : q * (D : Rat) = (x : Rat)) : (q.den : Int) ∣ D := by
  by_cases hD : D = 0
  · subst hD; exact Int.dvd_zero _
  have hc : Int.gcd q.num q.den = 1 := by
    have := q.reduced
    rwa [Int.gcd_eq_natAbs_gcd_natAbs]
  have e : q.num * (D : Int) = x * q.den := by
    have h1 : q * (q.den : Rat) = (q.num : Rat) := mul_den q
    have h2 : (q.num : Rat) * (D : Rat) = (x : Rat) * (q.den : Rat) := by
      rw [← h1, ← h]; grind
    exact_mod_cast h2
  have d : (q.den : Int) ∣ q.num * D := ⟨x, by rw [e]; exact Int.mul_comm _ _⟩
  have c : Nat.Coprime q.den q.num.natAbs := by rw [Nat.coprime_comm]; exact q.reduced
  have d2 : q.den ∣ q.num.natAbs * D := by
    have := Int.natAbs_dvd_natAbs.mpr d
    rwa [Int.natAbs_mul, Int.natAbs_natCast, Int.natAbs_natCast] at this
  exact Int.natCast_dvd_natCast.mpr (c.dvd_of_dvd_mul_left d2)
theorem Bd.den {D c : Nat} {q : Rat} (h : Bd D c q) (hD : 0 < D) : q.den ≤ D := by
  obtain ⟨⟨x, hx⟩, _⟩ := h
  have := Int.le_of_dvd (by omega) (den_dvd hx)
  omega
theorem Bd.num {D c : Nat} {q : Rat} (h : Bd D c q) : q.num.natAbs ≤ c * q.den := by
  obtain ⟨_, h1, h2⟩ := h
  have e : q * (q.den : Rat) = (q.num : Rat) := mul_den q
  have hd : (0 : Rat) ≤ (q.den : Rat) := by exact_mod_cast Nat.zero_le _
  have a : (q.num : Rat) ≤ (c : Rat) * (q.den : Rat) := by rw [← e]; exact Rat.mul_le_mul_of_nonneg_right h2 hd
  have b : -(c : Rat) * (q.den : Rat) ≤ (q.num : Rat) := by rw [← e]; exact Rat.mul_le_mul_of_nonneg_right h1 hd
  have a' : q.num ≤ (c : Int) * q.den := by exact_mod_cast a
  have b' : -((c : Int) * q.den) ≤ q.num := by
    have : ((-((c : Int) * q.den) : Int) : Rat) ≤ (q.num : Rat) := by
      have e2 : ((-((c : Int) * q.den) : Int) : Rat) = -(c : Rat) * (q.den : Rat) := by
        rw [Rat.intCast_neg, Rat.intCast_mul, Rat.neg_mul]; rfl
      rw [e2]; exact b
    exact_mod_cast this
  have : ((c * q.den : Nat) : Int) = (c : Int) * q.den := Int.natCast_mul _ _
  omega
theorem Bd.bq {D c k : Nat} {q : Rat} (h : Bd D c q) (hD : 0 < D) (h1 : D < 2 ^ k) (h2 : c * D < 2 ^ k) : Bq k q :=
  ⟨Nat.lt_of_le_of_lt h.num (Nat.lt_of_le_of_lt (Nat.mul_le_mul_left _ (h.den hD)) h2), Nat.lt_of_le_of_lt (h.den hD) h1⟩
theorem natCast_le' {a b : Nat} (h : a ≤ b) : (a : Rat) ≤ (b : Rat) := by exact_mod_cast h
theorem natCast_nn (a : Nat) : (0 : Rat) ≤ (a : Rat) := by exact_mod_cast Nat.zero_le a
theorem Bd.mono {D c e : Nat} {q : Rat} (h : Bd D c q) (l : c ≤ e) : Bd D e q := by
  obtain ⟨h0, h1, h2⟩ := h
  have := natCast_le' l
  exact ⟨h0, by grind, by grind⟩
theorem Bd.scale {D c : Nat} {q : Rat} (h : Bd D c q) (E : Nat) : Bd (D * E) c q := by
  obtain ⟨⟨x, h0⟩, h⟩ := h
  refine ⟨⟨x * E, ?_⟩, h⟩
  rw [Rat.natCast_mul, Rat.intCast_mul, ← h0]
  have : (((E : Nat) : Int) : Rat) = (E : Rat) := rfl
  rw [this]; grind
theorem Bd.zero (D c : Nat) : Bd D c 0 := ⟨⟨0, by rw [Rat.zero_mul]; rfl⟩, by have := natCast_nn c; grind, natCast_nn c⟩
theorem Bd.one (D : Nat) : Bd D 1 1 := ⟨⟨D, by rw [Rat.one_mul]; rfl⟩, by have : ((1 : Nat) : Rat) = 1 := rfl; grind, by have : ((1 : Nat) : Rat) = 1 := rfl; grind⟩
theorem Bd.add {D c e : Nat} {a b : Rat} (h : Bd D c a) (g : Bd D e b) : Bd D (c + e) (a + b) := by
  obtain ⟨⟨x, h0⟩, h1, h2⟩ := h
  obtain ⟨⟨y, g0⟩, g1, g2⟩ := g
  have : ((c + e : Nat) : Rat) = c + e := Rat.natCast_add _ _
  refine ⟨⟨x + y, ?_⟩, by grind, by grind⟩
  rw [Rat.intCast_add, ← h0, ← g0]; grind
theorem Bd.neg {D c : Nat} {a : Rat} (h : Bd D c a) : Bd D c (-a) := by
  obtain ⟨⟨x, h0⟩, h1, h2⟩ := h
  refine ⟨⟨-x, ?_⟩, by grind, by grind⟩
  rw [Rat.intCast_neg, ← h0]; grind
theorem Bd.mul {D E c e : Nat} {a b : Rat} (h : Bd D c a) (g : Bd E e b) : Bd (D * E) (c * e) (a * b) := by
  obtain ⟨⟨x, h0⟩, h1, h2⟩ := h
  obtain ⟨⟨y, g0⟩, g1, g2⟩ := g
  have e1 : ((c * e : Nat) : Rat) = c * e := Rat.natCast_mul _ _
  have p1 : 0 ≤ ((c : Rat) - a) * (e + b) := Rat.mul_nonneg (by grind) (by grind)
  have p2 : 0 ≤ ((c : Rat) + a) * (e - b) := Rat.mul_nonneg (by grind) (by grind)
  have p3 : 0 ≤ ((c : Rat) - a) * (e - b) := Rat.mul_nonneg (by grind) (by grind)
  have p4 : 0 ≤ ((c : Rat) + a) * (e + b) := Rat.mul_nonneg (by grind) (by grind)
  refine ⟨⟨x * y, ?_⟩, by rw [e1]; grind, by rw [e1]; grind⟩
  rw [Rat.natCast_mul, Rat.intCast_mul, ← h0, ← g0]; grind
theorem bd_of {q : Rat} {D c : Nat} (h0 : 0 ≤ q) (h1 : q ≤ c) (hd : q.den ∣ D) : Bd D c q := by
  obtain ⟨E, rfl⟩ := hd
  refine ⟨⟨q.num * E, ?_⟩, by have := natCast_nn c; grind, h1⟩
  have e : q * (q.den : Rat) = (q.num : Rat) := mul_den q
  rw [Rat.natCast_mul, Rat.intCast_mul, ← e]
  have : (((E : Nat) : Int) : Rat) = (E : Rat) := rfl
  rw [this]; grind
/-- within 0 and 1, of a scale -/
theorem Bd.unit {D c : Nat} {q : Rat} (h : Bd D c q) (h0 : 0 ≤ q) (h1 : q ≤ 1) : Bd D 1 q := ⟨h.1, by have : ((1 : Nat) : Rat) = 1 := rfl; grind, by have : ((1 : Nat) : Rat) = 1 := rfl; grind⟩
/-! ### sums, products -/
def sumQ : List Rat → Rat
  | [] => 0
  | q :: qs => q + sumQ qs
@[simp] theorem sumQ_nil : sumQ [] = 0 := rfl
@[simp] theorem sumQ_cons (q : Rat) (qs : List Rat) : sumQ (q :: qs) = q + sumQ qs := rfl
@[simp] theorem sumQ_app : ∀ (a b : List Rat), sumQ (a ++ b) = sumQ a + sumQ b
  | [], b => by simp [Rat.zero_add]
  | q :: qs, b => by
    have := sumQ_app qs b
    simp only [List.cons_append, sumQ_cons]; grind
theorem sumQ_mul {α : Type} (c : Rat) (f : α → Rat) : ∀ xs : List α, sumQ (xs.map fun x => f x * c) = sumQ (xs.map f) * c
  | [] => by simp [Rat.zero_mul]
  | x :: xs => by
    have := sumQ_mul c f xs
    simp only [List.map_cons, sumQ_cons]; grind
theorem sumQ_add {α : Type} (f g : α → Rat) : ∀ xs : List α, sumQ (xs.map fun x => f x + g x) = sumQ (xs.map f) + sumQ (xs.map g)
  | [] => by simp; grind
  | x :: xs => by
    have := sumQ_add f g xs
    simp only [List.map_cons, sumQ_cons]; grind
theorem sumQ_nn : ∀ {qs : List Rat}, (∀ q ∈ qs, 0 ≤ q) → 0 ≤ sumQ qs
  | [], _ => Rat.le_refl
  | q :: qs, h => by
    have a := sumQ_nn (qs := qs) (fun x hx => h x (List.mem_cons_of_mem _ hx))
    have b := h q (List.mem_cons_self ..)
    simp only [sumQ_cons]; grind
theorem sumQ_bd {D c : Nat} : ∀ {qs : List Rat}, (∀ q ∈ qs, Bd D c q) → Bd D (c * qs.length) (sumQ qs)
  | [], _ => Bd.zero _ _
  | q :: qs, h => by
    have a := sumQ_bd (qs := qs) (fun x hx => h x (List.mem_cons_of_mem _ hx))
    have b := (h q (List.mem_cons_self ..)).add a
    rw [List.length_cons, Nat.mul_succ, Nat.add_comm]
    exact b
def prodQ : List Rat → Rat
  | [] => 1
  | q :: qs => q * prodQ qs
@[simp] theorem prodQ_nil : prodQ [] = 1 := rfl
@[simp] theorem prodQ_cons (q : Rat) (qs : List Rat) : prodQ (q :: qs) = q * prodQ qs := rfl
@[simp] theorem prodQ_app : ∀ (a b : List Rat), prodQ (a ++ b) = prodQ a * prodQ b
  | [], b => by simp [Rat.one_mul]
  | q :: qs, b => by
    have := prodQ_app qs b
    simp only [List.cons_append, prodQ_cons]; grind
theorem prodQ_bq {k : Nat} : ∀ {qs : List Rat}, (∀ q ∈ qs, Bq k q) → Bq (k * qs.length + 1) (prodQ qs)
  | [], _ => Bq.one
  | q :: qs, h => by
    have a := prodQ_bq (qs := qs) (fun x hx => h x (List.mem_cons_of_mem _ hx))
    have b := (h q (List.mem_cons_self ..)).mul a
    rw [List.length_cons, Nat.mul_succ]
    have e : k + (k * qs.length + 1) = k * qs.length + k + 1 := by omega
    rw [e] at b
    exact b
end AX

namespace AX
open PySem PySem.Spec PyProof.Rows L2

/-! ### how many signs come -/
def cfR : List Rat → Nat → Rat
  | [], 0 => 1
  | [], _ + 1 => 0
  | p :: r, 0 => cfR r 0 * (1 - p)
  | p :: r, k + 1 => cfR r k * p + cfR r (k + 1) * (1 - p)
def cf (row : List Rat) (k : Nat) : Rat := cfR row.reverse k
@[simp] theorem cf_nil0 : cf [] 0 = 1 := rfl
@[simp] theorem cf_nil (k : Nat) : cf [] (k + 1) = 0 := rfl
theorem cf_snoc0 (row : List Rat) (p : Rat) : cf (row ++ [p]) 0 = cf row 0 * (1 - p) := by unfold cf; simp [cfR]
theorem cf_snoc (row : List Rat) (p : Rat) (k : Nat) : cf (row ++ [p]) (k + 1) = cf row k * p + cf row (k + 1) * (1 - p) := by unfold cf; simp [cfR]
def Rw (row : List Rat) : Prop := ∀ q ∈ row, 0 ≤ q ∧ q ≤ 1
theorem Rw.snoc {row : List Rat} {p : Rat} (h : Rw (row ++ [p])) : Rw row ∧ 0 ≤ p ∧ p ≤ 1 := ⟨fun q hq => h q (List.mem_append_left _ hq), h p (by simp)⟩
theorem Rw.drop {row : List Rat} (h : Rw row) (n : Nat) : Rw (row.drop n) := fun q hq => h q (List.mem_of_mem_drop hq)
theorem Rw.take {row : List Rat} (h : Rw row) (n : Nat) : Rw (row.take n) := fun q hq => h q (List.mem_of_mem_take hq)
theorem cf_zero : ∀ (row : List Rat) (k : Nat), row.length < k → cf row k = 0 := fun row => by
  induction row using snocRec with
  | h0 => intro k h; cases k with
    | zero => simp at h
    | succ k => rfl
  | hs row p ih =>
    intro k h
    rw [List.length_append, List.length_singleton] at h
    cases k with
    | zero => omega
    | succ k =>
      rw [cf_snoc, ih k (by omega), ih (k + 1) (by omega)]; grind
theorem cf_unit : ∀ (row : List Rat), Rw row → ∀ k : Nat, 0 ≤ cf row k ∧ cf row k ≤ 1 := fun row => by
  induction row using snocRec with
  | h0 =>
    intro _ k
    cases k with
    | zero => rw [cf_nil0]; grind
    | succ k => rw [cf_nil]; grind
  | hs row p ih =>
    intro h k
    obtain ⟨h1, h2, h3⟩ := h.snoc
    have i := ih h1
    have hq : 0 ≤ 1 - p := by grind
    cases k with
    | zero =>
      obtain ⟨a, b⟩ := i 0
      rw [cf_snoc0]
      have c := Rat.mul_nonneg a hq
      have d := Rat.mul_nonneg a h2
      constructor <;> grind
    | succ k =>
      obtain ⟨a, b⟩ := i k
      obtain ⟨a', b'⟩ := i (k + 1)
      rw [cf_snoc]
      have c := Rat.mul_nonneg a' hq
      have d := Rat.mul_nonneg a h2
      have c2 := Rat.mul_nonneg (show 0 ≤ 1 - cf row (k + 1) by grind) hq
      have d2 := Rat.mul_nonneg (show 0 ≤ 1 - cf row k by grind) h2
      constructor <;> grind
/-! the scale of a row -/
def dn (row : List Rat) : Nat := row.foldl (fun d q => d * q.den) 1
@[simp] theorem dn_nil : dn [] = 1 := rfl
@[simp] theorem dn_snoc (row : List Rat) (p : Rat) : dn (row ++ [p]) = dn row * p.den := by unfold dn; simp
theorem dn_pos : ∀ row : List Rat, 0 < dn row := fun row => by
  induction row using snocRec with
  | h0 => decide
  | hs row p ih => rw [dn_snoc]; exact Nat.mul_pos ih p.den_pos
theorem dn_le {k : Nat} : ∀ row : List Rat, (∀ q ∈ row, q.den ≤ k) → dn row ≤ k ^ row.length := fun row => by
  induction row using snocRec with
  | h0 => intro _; exact Nat.le_refl 1
  | hs row p ih =>
    intro h
    rw [dn_snoc, List.length_append, List.length_singleton, Nat.pow_succ]
    exact Nat.mul_le_mul (ih fun q hq => h q (List.mem_append_left _ hq)) (h p (by simp))
theorem bd_self {p : Rat} (h0 : 0 ≤ p) (h1 : p ≤ 1) : Bd p.den 1 p := bd_of h0 (by have : ((1 : Nat) : Rat) = 1 := rfl; grind) (Nat.dvd_refl _)
theorem bd_rest {p : Rat} (h0 : 0 ≤ p) (h1 : p ≤ 1) : Bd p.den 1 (1 - p) := bd_of (by grind) (by have : ((1 : Nat) : Rat) = 1 := rfl; grind) (by rw [(one_sub_parts p).2]; exact Nat.dvd_refl _)
theorem cf_bd : ∀ (row : List Rat), Rw row → ∀ k : Nat, Bd (dn row) 1 (cf row k) := fun row => by
  induction row using snocRec with
  | h0 =>
    intro _ k
    cases k with
    | zero => exact Bd.one _
    | succ k => exact Bd.zero _ _
  | hs row p ih =>
    intro h k
    obtain ⟨u0, u1⟩ := cf_unit _ h k
    obtain ⟨h1, h2, h3⟩ := h.snoc
    have i := ih h1
    cases k with
    | zero => rw [cf_snoc0, dn_snoc]; exact ((i 0).mul (bd_rest h2 h3)).mono (by omega)
    | succ k =>
      rw [cf_snoc] at u0 u1 ⊢
      rw [dn_snoc]
      exact (((i k).mul (bd_self h2 h3)).add ((i (k + 1)).mul (bd_rest h2 h3))).unit u0 u1
def cntL (row : List Rat) : List Rat := (List.range (row.length + 1)).map (cf row)
@[simp] theorem cntL_len (row : List Rat) : (cntL row).length = row.length + 1 := by simp [cntL]
theorem cntL_at {row : List Rat} {k : Nat} (h : k ≤ row.length) : (cntL row)[k]? = some (cf row k) := by
  unfold cntL
  rw [List.getElem?_map, List.getElem?_range (by omega)]
  rfl
theorem cntL_mem {row : List Rat} {q : Rat} (h : q ∈ cntL row) : ∃ k, k ≤ row.length ∧ q = cf row k := by
  unfold cntL at h
  obtain ⟨k, hk, rfl⟩ := List.mem_map.mp h
  exact ⟨k, by simpa [Nat.lt_succ_iff] using hk, rfl⟩
theorem cntL_snoc (row : List Rat) (p : Rat) : List.zipWith (fun a b => a + b) (0 :: (cntL row).map (· * p)) ((cntL row).map (· * (1 - p)) ++ [0]) = cntL (row ++ [p]) := by
  apply List.ext_getElem?
  intro i
  rw [List.getElem?_zipWith]
  by_cases h : i ≤ row.length + 1
  · have e := cntL_at (row := row ++ [p]) (k := i) (by simpa using h)
    rw [e]
    have b : ((cntL row).map (· * (1 - p)) ++ [0])[i]? = some (cf row i * (1 - p)) := by
      by_cases hi : i ≤ row.length
      · rw [List.getElem?_append_left (by simp; omega), List.getElem?_map, cntL_at hi]; rfl
      · rw [List.getElem?_append_right (by simp; omega)]
        have : i = row.length + 1 := by omega
        subst this
        rw [cf_zero row _ (by omega)]
        simp [Rat.zero_mul]
    rw [b]
    cases i with
    | zero =>
      rw [cf_snoc0]
      simp; grind
    | succ i =>
      rw [List.getElem?_cons_succ, List.getElem?_map, cntL_at (by omega), cf_snoc]
      simp
  · rw [List.getElem?_eq_none (l := cntL (row ++ [p])) (by simp; omega), List.getElem?_eq_none (l := 0 :: _) (by simp; omega)]
theorem sum_range (f : Nat → Rat) : ∀ n, sumQ ((List.range (n + 1)).map f) = sumQ ((List.range n).map f) + f n := fun n => by
  rw [List.range_succ, List.map_append, sumQ_app]
  simp; grind
theorem cf_step (row : List Rat) (p : Rat) (n : Nat) : sumQ ((List.range (n + 1)).map (cf (row ++ [p]))) = sumQ ((List.range (n + 1)).map (cf row)) - cf row n * p := by
  induction n with
  | zero => simp [List.range_succ, cf_snoc0]; grind
  | succ n ih => rw [sum_range, ih, cf_snoc, sum_range _ (n + 1)]; grind
theorem cf_sum : ∀ (row : List Rat), sumQ (cntL row) = 1 := fun row => by
  induction row using snocRec with
  | h0 => simp [cntL, List.range_succ]; grind
  | hs row p ih =>
    unfold cntL at ih ⊢
    rw [List.length_append, List.length_singleton, cf_step, sum_range, ih, cf_zero row (row.length + 1) (by omega)]
    grind
/-! ### all courses -/
def crsR : List Rat → List (List Nat × Rat)
  | [] => [([], 1)]
  | p :: r => (crsR r).map (fun c => (c.1, c.2 * (1 - p))) ++ (crsR r).map (fun c => (c.1 ++ [r.length], c.2 * p))
def crs (row : List Rat) : List (List Nat × Rat) := crsR row.reverse
@[simp] theorem crs_nil : crs [] = [([], 1)] := rfl
theorem crs_snoc (row : List Rat) (p : Rat) : crs (row ++ [p]) = (crs row).map (fun c => (c.1, c.2 * (1 - p))) ++ (crs row).map (fun c => (c.1 ++ [row.length], c.2 * p)) := by
  unfold crs
  simp [crsR]
theorem crs_len : ∀ row : List Rat, (crs row).length = 2 ^ row.length := fun row => by
  induction row using snocRec with
  | h0 => rfl
  | hs row p ih =>
    rw [crs_snoc, List.length_append, List.length_map, List.length_map, ih, List.length_append, List.length_singleton, Nat.pow_succ]
    omega
theorem crs_cases {row : List Rat} {p : Rat} {c : List Nat × Rat} (h : c ∈ crs (row ++ [p])) : ∃ d ∈ crs row, c = (d.1, d.2 * (1 - p)) ∨ c = (d.1 ++ [row.length], d.2 * p) := by
  rw [crs_snoc] at h
  rcases List.mem_append.mp h with h | h
  · obtain ⟨d, hd, rfl⟩ := List.mem_map.mp h; exact ⟨d, hd, .inl rfl⟩
  · obtain ⟨d, hd, rfl⟩ := List.mem_map.mp h; exact ⟨d, hd, .inr rfl⟩
def Asc (c : List Nat) (n : Nat) : Prop := c.Pairwise (· < ·) ∧ ∀ a ∈ c, a < n
theorem Asc.snoc {c : List Nat} {n : Nat} (h : Asc c n) : Asc (c ++ [n]) (n + 1) := by
  refine ⟨?_, fun a ha => ?_⟩
  · rw [List.pairwise_append]
    exact ⟨h.1, by simp, fun a ha b hb => by
      have : b = n := by simpa using hb
      subst this; exact h.2 a ha⟩
  · rcases List.mem_append.mp ha with ha | ha
    · have := h.2 a ha; omega
    · have : a = n := by simpa using ha
      omega
theorem Asc.mono {c : List Nat} {n m : Nat} (h : Asc c n) (l : n ≤ m) : Asc c m := ⟨h.1, fun a ha => Nat.lt_of_lt_of_le (h.2 a ha) l⟩
theorem crs_asc : ∀ (row : List Rat), ∀ c ∈ crs row, Asc c.1 row.length := fun row => by
  induction row using snocRec with
  | h0 => intro c hc; rw [crs_nil] at hc; have : c = ([], 1) := by simpa using hc
          subst this; exact ⟨by simp, by simp⟩
  | hs row p ih =>
    intro c hc
    rw [List.length_append, List.length_singleton]
    obtain ⟨d, hd, rfl | rfl⟩ := crs_cases hc
    · exact (ih d hd).mono (by omega)
    · exact (ih d hd).snoc
theorem crs_bd : ∀ (row : List Rat), Rw row → ∀ c ∈ crs row, Bd (dn row) 1 c.2 := fun row => by
  induction row using snocRec with
  | h0 => intro _ c hc; rw [crs_nil] at hc; have : c = ([], 1) := by simpa using hc
          subst this; exact Bd.one _
  | hs row p ih =>
    intro h c hc
    obtain ⟨h1, h2, h3⟩ := h.snoc
    rw [dn_snoc]
    obtain ⟨d, hd, rfl | rfl⟩ := crs_cases hc
    · exact ((ih h1 d hd).mul (bd_rest h2 h3)).mono (by omega)
    · exact ((ih h1 d hd).mul (bd_self h2 h3)).mono (by omega)
theorem crs_nn : ∀ (row : List Rat), Rw row → ∀ c ∈ crs row, 0 ≤ c.2 := fun row => by
  induction row using snocRec with
  | h0 => intro _ c hc; rw [crs_nil] at hc; have : c = ([], 1) := by simpa using hc
          subst this; show (0 : Rat) ≤ 1; decide
  | hs row p ih =>
    intro h c hc
    obtain ⟨h1, h2, h3⟩ := h.snoc
    obtain ⟨d, hd, rfl | rfl⟩ := crs_cases hc
    · exact Rat.mul_nonneg (ih h1 d hd) (by grind)
    · exact Rat.mul_nonneg (ih h1 d hd) h2
/-- the chance of a course -/
def chIn (row : List Rat) (c : List Nat) : Rat := prodQ (row.mapIdx fun i p => if i ∈ c then p else 1 - p)
theorem chIn_snoc (row : List Rat) (p : Rat) (c : List Nat) : chIn (row ++ [p]) c = chIn row c * (if row.length ∈ c then p else 1 - p) := by
  unfold chIn
  rw [List.mapIdx_append, prodQ_app]
  simp
theorem mapIdx_congr' {α β : Type} {f g : Nat → α → β} {l : List α} (h : ∀ i (hi : i < l.length), f i l[i] = g i l[i]) : l.mapIdx f = l.mapIdx g := by
  apply List.ext_getElem?
  intro i
  rw [List.getElem?_mapIdx, List.getElem?_mapIdx]
  by_cases hi : i < l.length
  · rw [List.getElem?_eq_getElem hi]
    simp [h i hi]
  · rw [List.getElem?_eq_none (by omega)]
    rfl
theorem chIn_last (row : List Rat) (c : List Nat) : chIn row (c ++ [row.length]) = chIn row c := by
  unfold chIn
  congr 1
  apply mapIdx_congr'
  intro i hi
  have : (i ∈ c ++ [row.length]) ↔ i ∈ c := by
    simp; omega
  simp only [this]
theorem crs_chance : ∀ (row : List Rat), ∀ c ∈ crs row, chIn row c.1 = c.2 := fun row => by
  induction row using snocRec with
  | h0 => intro c hc; rw [crs_nil] at hc; have : c = ([], 1) := by simpa using hc
          subst this; rfl
  | hs row p ih =>
    intro c hc
    obtain ⟨d, hd, rfl | rfl⟩ := crs_cases hc
    · have : row.length ∉ d.1 := fun z => by have := (crs_asc row d hd).2 _ z; omega
      rw [chIn_snoc, ih d hd, if_neg this]
    · rw [chIn_snoc, chIn_last, ih d hd, if_pos (by simp)]
/-- the chance of the courses that are so -/
def Pr (row : List Rat) (t : List Nat → Bool) : Rat := sumQ (((crs row).filter fun c => t c.1).map (·.2))
theorem pr_nil (t : List Nat → Bool) : Pr [] t = if t [] then 1 else 0 := by
  unfold Pr
  rw [crs_nil]
  cases h : t [] <;> simp [List.filter, h]; grind
theorem pr_snoc (row : List Rat) (p : Rat) (t : List Nat → Bool) : Pr (row ++ [p]) t = Pr row t * (1 - p) + Pr row (fun c => t (c ++ [row.length])) * p := by
  unfold Pr
  rw [crs_snoc, List.filter_append, List.map_append, sumQ_app, List.filter_map, List.filter_map, List.map_map, List.map_map]
  have e1 := sumQ_mul (1 - p) (fun c : List Nat × Rat => c.2) ((crs row).filter fun c => t c.1)
  have e2 := sumQ_mul p (fun c : List Nat × Rat => c.2) ((crs row).filter fun c => t (c.1 ++ [row.length]))
  exact (congrArg (· + _) e1).trans (congrArg (_ + ·) e2)
theorem pr_congr {row : List Rat} {t u : List Nat → Bool} (h : ∀ c, Asc c row.length → t c = u c) : Pr row t = Pr row u := by
  unfold Pr
  congr 2
  apply List.filter_congr
  intro c hc
  exact h _ (crs_asc row c hc)
theorem pr_false (row : List Rat) : Pr row (fun _ => false) = 0 := by
  unfold Pr
  rw [List.filter_eq_nil_iff.mpr (by simp)]
  rfl
/-- so many signs come from a moment on -/
def cntF (s : Nat) (c : List Nat) : Nat := (c.filter fun a => decide (s ≤ a)).length
theorem cntF_snoc (s n : Nat) (c : List Nat) : cntF s (c ++ [n]) = cntF s c + if s ≤ n then 1 else 0 := by
  unfold cntF
  rw [List.filter_append, List.length_append]
  by_cases h : s ≤ n <;> simp [List.filter, h]
theorem pr_from (s : Nat) : ∀ (row : List Rat) (j : Nat), Pr row (fun c => decide (cntF s c = j)) = cf (row.drop s) j := fun row => by
  induction row using snocRec with
  | h0 => intro j; rw [pr_nil]; cases j with
    | zero => simp [cntF]
    | succ j => simp [cntF]
  | hs row p ih =>
    intro j
    rw [pr_snoc, ih]
    by_cases h : s ≤ row.length
    · rw [List.drop_append_of_le_length h]
      cases j with
      | zero =>
        have : Pr row (fun c => decide (cntF s (c ++ [row.length]) = 0)) = 0 := by
          rw [← pr_false row]; congr 1; funext c; rw [cntF_snoc, if_pos h]; simp
        rw [this, cf_snoc0]; grind
      | succ j =>
        have : Pr row (fun c => decide (cntF s (c ++ [row.length]) = j + 1)) = Pr row (fun c => decide (cntF s c = j)) := by
          congr 1; funext c; rw [cntF_snoc, if_pos h]; simp
        rw [this, ih, cf_snoc]; grind
    · have e1 : row.drop s = [] := List.drop_eq_nil_iff.mpr (by omega)
      have e2 : (row ++ [p]).drop s = [] := List.drop_eq_nil_iff.mpr (by simp; omega)
      have : Pr row (fun c => decide (cntF s (c ++ [row.length]) = j)) = Pr row (fun c => decide (cntF s c = j)) := by
        congr 1; funext c; rw [cntF_snoc, if_neg h]; simp
      rw [this, ih, e1, e2]; grind
end AX

namespace AX
open PySem PySem.Spec PyProof.Rows L2

/-! ### sums of products -/
def esR : List Rat → Nat → Rat
  | _, 0 => 1
  | [], _ + 1 => 0
  | r :: rs, k + 1 => esR rs (k + 1) + r * esR rs k
def es (rs : List Rat) (k : Nat) : Rat := esR rs.reverse k
@[simp] theorem es_0 (rs : List Rat) : es rs 0 = 1 := by unfold es esR; cases rs.reverse <;> rfl
@[simp] theorem es_nil (k : Nat) : es [] (k + 1) = 0 := rfl
theorem es_snoc (rs : List Rat) (r : Rat) (k : Nat) : es (rs ++ [r]) (k + 1) = es rs (k + 1) + r * es rs k := by unfold es; simp [esR]
def esL (rs : List Rat) (m : Nat) : List Rat := (List.range (m + 1)).map (es rs)
theorem esL_cons (rs : List Rat) (m : Nat) : esL rs m = 1 :: (List.range m).map fun i => es rs (i + 1) := by
  unfold esL
  rw [List.range_succ_eq_map, List.map_cons, es_0, List.map_map]
  rfl
theorem esL_nil (m : Nat) : esL [] m = 1 :: List.replicate m 0 := by
  rw [esL_cons]
  congr 1
  apply List.ext_getElem
  · simp
  · intro i h1 h2
    simp
theorem esL_at {rs : List Rat} {m k : Nat} (h : k ≤ m) : (esL rs m)[k]? = some (es rs k) := by
  unfold esL
  rw [List.getElem?_map, List.getElem?_range (by omega)]
  rfl
@[simp] theorem esL_len (rs : List Rat) (m : Nat) : (esL rs m).length = m + 1 := by simp [esL]
theorem es_bd {c : Nat} : ∀ (rs : List Rat), (∀ r ∈ rs, Bd r.den c r) → ∀ k : Nat, Bd (dn rs) ((1 + c) ^ rs.length) (es rs k) := fun rs => by
  induction rs using snocRec with
  | h0 =>
    intro _ k
    cases k with
    | zero => exact Bd.one _
    | succ k => exact Bd.zero _ _
  | hs rs r ih =>
    intro h k
    have i := ih (fun q hq => h q (List.mem_append_left _ hq))
    have hr := h r (by simp)
    rw [List.length_append, List.length_singleton]
    cases k with
    | zero => rw [es_0]; exact (Bd.one _).mono (Nat.pow_pos (by omega))
    | succ k =>
      rw [es_snoc, dn_snoc]
      have a := (i (k + 1)).scale r.den
      have b := hr.mul (i k)
      rw [Nat.mul_comm r.den] at b
      have e : (1 + c) ^ (rs.length + 1) = (1 + c) ^ rs.length + c * (1 + c) ^ rs.length := by
        rw [Nat.pow_succ, Nat.mul_add, Nat.mul_one, Nat.mul_comm c]
      rw [e]
      exact a.add b
theorem bd_bq {K : Nat} {q : Rat} (h : Bq K q) : Bd q.den (2 ^ K) q := by
  have e := mul_den q
  have hd : (1 : Rat) ≤ (q.den : Rat) := by exact_mod_cast q.den_pos
  have h1 : (q.num : Rat) ≤ ((2 ^ K : Nat) : Rat) := by
    have := h.1
    have : q.num ≤ ((2 ^ K : Nat) : Int) := by omega
    exact_mod_cast this
  have h2 : -((2 ^ K : Nat) : Rat) ≤ (q.num : Rat) := by
    have := h.1
    have : -((2 ^ K : Nat) : Int) ≤ q.num := by omega
    have : ((-((2 ^ K : Nat) : Int) : Int) : Rat) ≤ (q.num : Rat) := by exact_mod_cast this
    rw [Rat.intCast_neg] at this
    exact this
  refine ⟨⟨q.num, e⟩, ?_, ?_⟩
  · by_cases hq : 0 ≤ q
    · have := natCast_nn (2 ^ K); grind
    · have := Rat.mul_nonneg (show 0 ≤ -q by grind) (show 0 ≤ (q.den : Rat) - 1 by grind)
      grind
  · by_cases hq : 0 ≤ q
    · have := Rat.mul_nonneg hq (show 0 ≤ (q.den : Rat) - 1 by grind)
      grind
    · have := natCast_nn (2 ^ K); grind
theorem dn_lt {K : Nat} {rs : List Rat} (h : ∀ r ∈ rs, Bq K r) : dn rs ≤ 2 ^ (K * rs.length) := by
  rw [Nat.pow_mul]
  exact dn_le rs (fun q hq => Nat.le_of_lt (h q hq).2)
theorem Bd.bq' {D c k : Nat} {q : Rat} (h : Bd D c q) (hD : 0 < D) (hc : 1 ≤ c) (h1 : c * D < 2 ^ k) : Bq k q := h.bq hD (Nat.lt_of_le_of_lt (Nat.le_mul_of_pos_left _ hc) h1) h1
theorem es_bq {K n : Nat} {rs : List Rat} (h : ∀ r ∈ rs, Bq K r) (hn : (2 * K + 1) * rs.length < n) (k : Nat) : Bq n (es rs k) := by
  refine (es_bd rs (fun r hr => bd_bq (h r hr)) k).bq' (dn_pos _) (Nat.pow_pos (Nat.lt_of_lt_of_le Nat.zero_lt_one (Nat.le_add_right 1 _))) ?_
  have a : (1 + 2 ^ K) ^ rs.length ≤ 2 ^ ((K + 1) * rs.length) := by
    rw [Nat.pow_mul]
    apply Nat.pow_le_pow_left
    rw [Nat.pow_succ]
    have := Nat.two_pow_pos K
    omega
  calc (1 + 2 ^ K) ^ rs.length * dn rs ≤ 2 ^ ((K + 1) * rs.length) * 2 ^ (K * rs.length) := Nat.mul_le_mul a (dn_lt h)
    _ = 2 ^ ((2 * K + 1) * rs.length) := by
      rw [← Nat.pow_add]; congr 1; rw [← Nat.add_mul]; congr 1; omega
    _ < 2 ^ n := Nat.pow_lt_pow_right (by decide) hn
theorem cf_bq {K n : Nat} {row : List Rat} (hr : Rw row) (h : ∀ r ∈ row, Bq K r) (hn : K * row.length < n) (k : Nat) : Bq n (cf row k) := by
  refine (cf_bd row hr k).bq' (dn_pos _) (Nat.le_refl _) ?_
  rw [Nat.one_mul]
  exact Nat.lt_of_le_of_lt (dn_lt h) (Nat.pow_lt_pow_right (by decide) hn)
/-! ### odds -/
def od (p : Rat) : Rat := p / (1 - p)
def noneQ (row : List Rat) : Rat := prodQ (row.map fun p => 1 - p)
@[simp] theorem noneQ_nil : noneQ [] = 1 := rfl
@[simp] theorem noneQ_snoc (row : List Rat) (p : Rat) : noneQ (row ++ [p]) = noneQ row * (1 - p) := by unfold noneQ; simp
@[simp] theorem noneQ_cons (row : List Rat) (p : Rat) : noneQ (p :: row) = (1 - p) * noneQ row := rfl
theorem od_rest {p : Rat} (h : p < 1) : od p * (1 - p) = p := by
  have : 1 - p ≠ 0 := fun z => by grind
  unfold od; grind
theorem od_nn {p : Rat} (h0 : 0 ≤ p) (h : p < 1) : 0 ≤ od p := by
  have := Rat.inv_pos.mpr (show (0 : Rat) < 1 - p by grind)
  unfold od
  rw [Rat.div_def]
  exact Rat.mul_nonneg h0 (by grind)
theorem cf_none (row : List Rat) : cf row 0 = noneQ row := by
  induction row using snocRec with
  | h0 => rfl
  | hs row p ih => rw [cf_snoc0, ih, noneQ_snoc]
/-- just so many signs: the products of so many odds, by the chance of none -/
theorem cf_es : ∀ (row : List Rat), (∀ p ∈ row, p < 1) → ∀ k, cf row k = es (row.map od) k * noneQ row := fun row => by
  induction row using snocRec with
  | h0 =>
    intro _ k
    cases k with
    | zero => rw [cf_nil0, es_0, noneQ_nil]; grind
    | succ k => rw [cf_nil, List.map_nil, es_nil]; grind
  | hs row p ih =>
    intro h k
    have i := ih (fun q hq => h q (List.mem_append_left _ hq))
    have o := od_rest (h p (by simp))
    cases k with
    | zero => rw [cf_snoc0, i, es_0, es_0, noneQ_snoc]; grind
    | succ k =>
      rw [cf_snoc, i, i, noneQ_snoc, List.map_append, List.map_singleton, es_snoc]
      grind
theorem es_1 (rs : List Rat) : es rs 1 = sumQ rs := by
  induction rs using snocRec with
  | h0 => rfl
  | hs rs r ih => rw [es_snoc, ih, es_0, sumQ_app]; simp; grind
theorem noneQ_nn {row : List Rat} (h : Rw row) : 0 ≤ noneQ row := by
  rw [← cf_none]; exact (cf_unit row h 0).1
theorem noneQ_pos : ∀ {row : List Rat}, (∀ p ∈ row, p < 1) → 0 < noneQ row
  | [], _ => by show (0 : Rat) < 1; decide
  | p :: row, h => by
    have a := noneQ_pos (row := row) (fun q hq => h q (List.mem_cons_of_mem _ hq))
    have b := h p (List.mem_cons_self ..)
    rw [noneQ_cons]
    exact Rat.mul_pos (by grind) a
/-! ### just one sign from a moment on -/
def won (row : List Rat) : Rat := sumQ (row.map od) * noneQ row
theorem won_cf {row : List Rat} (h : ∀ p ∈ row, p < 1) : won row = cf row 1 := by
  rw [cf_es row h, es_1]; rfl
theorem won_step {p : Rat} (row : List Rat) (h : p < 1) : won (p :: row) - won row = noneQ row * p * (1 - sumQ (row.map od)) := by
  have o := od_rest h
  unfold won
  rw [List.map_cons, sumQ_cons, noneQ_cons]
  grind
theorem won_le {p : Rat} {row : List Rat} (h0 : 0 ≤ p) (h : p < 1) (hr : ∀ q ∈ row, q < 1) : (sumQ (row.map od) ≤ 1 → won row ≤ won (p :: row)) ∧ (1 ≤ sumQ (row.map od) → won (p :: row) ≤ won row) := by
  have s := won_step row h
  have n := noneQ_pos hr
  have a := Rat.mul_nonneg (Rat.le_of_lt n) h0
  refine ⟨fun z => ?_, fun z => ?_⟩
  · have := Rat.mul_nonneg a (show 0 ≤ 1 - sumQ (row.map od) by grind)
    grind
  · have := Rat.mul_nonneg a (show 0 ≤ sumQ (row.map od) - 1 by grind)
    grind
theorem sum_od_drop {row : List Rat} (h : ∀ p ∈ row, 0 ≤ p ∧ p < 1) : ∀ (i j : Nat), i ≤ j → sumQ ((row.drop j).map od) ≤ sumQ ((row.drop i).map od) := fun i j hij => by
  have e : row.drop i = (row.drop i).take (j - i) ++ row.drop j := by
    conv => lhs; rw [← List.take_append_drop (j - i) (row.drop i)]
    rw [List.drop_drop]
    congr 2; omega
  rw [e, List.map_append, sumQ_app]
  have : 0 ≤ sumQ (((row.drop i).take (j - i)).map od) := sumQ_nn (fun q hq => by
    obtain ⟨p, hp, rfl⟩ := List.mem_map.mp hq
    have := h p (List.mem_of_mem_drop (List.mem_of_mem_take hp))
    exact od_nn this.1 this.2)
  grind
end AX

namespace AX
open PySem PySem.Spec PyProof.Rows L2

/-! ## means over how many signs come, over all courses -/
def exR : List Rat → (Nat → Rat) → Rat
  | [], g => g 0
  | p :: r, g => exR r g * (1 - p) + exR r (fun k => g (k + 1)) * p
/-- the mean of g at how many signs come -/
def ex (row : List Rat) (g : Nat → Rat) : Rat := exR row.reverse g
@[simp] theorem ex_nil (g : Nat → Rat) : ex [] g = g 0 := rfl
theorem ex_snoc (row : List Rat) (p : Rat) (g : Nat → Rat) : ex (row ++ [p]) g = ex row g * (1 - p) + ex row (fun k => g (k + 1)) * p := by
  unfold ex; rw [List.reverse_append]; rfl
theorem ex_congr : ∀ {row : List Rat} {g h : Nat → Rat}, (∀ k, k ≤ row.length → g k = h k) → ex row g = ex row h := fun {row} => by
  induction row using snocRec with
  | h0 => intro g h e; exact e 0 (Nat.le_refl _)
  | hs row p ih =>
    intro g h e
    rw [List.length_append, List.length_singleton] at e
    rw [ex_snoc, ex_snoc, ih (fun k hk => e k (by omega)), ih (g := fun k => g (k + 1)) (h := fun k => h (k + 1)) (fun k hk => e (k + 1) (by omega))]
theorem ex_add : ∀ (row : List Rat) (g h : Nat → Rat), ex row (fun k => g k + h k) = ex row g + ex row h := fun row => by
  induction row using snocRec with
  | h0 => intro g h; rfl
  | hs row p ih =>
    intro g h
    rw [ex_snoc, ex_snoc, ex_snoc, ih, ih (fun k => g (k + 1)) (fun k => h (k + 1))]
    grind
theorem ex_mul : ∀ (row : List Rat) (g : Nat → Rat) (a : Rat), ex row (fun k => g k * a) = ex row g * a := fun row => by
  induction row using snocRec with
  | h0 => intro g a; rfl
  | hs row p ih =>
    intro g a
    rw [ex_snoc, ex_snoc, ih, ih (fun k => g (k + 1))]
    grind
theorem ex_const (row : List Rat) (a : Rat) : ex row (fun _ => a) = a := by
  induction row using snocRec with
  | h0 => rfl
  | hs row p ih => rw [ex_snoc, ih]; grind
theorem ex_mono : ∀ {row : List Rat}, Rw row → ∀ {g h : Nat → Rat}, (∀ k, k ≤ row.length → g k ≤ h k) → ex row g ≤ ex row h := fun {row} => by
  induction row using snocRec with
  | h0 => intro _ g h e; exact e 0 (Nat.le_refl _)
  | hs row p ih =>
    intro hr g h e
    obtain ⟨hr1, p0, p1⟩ := hr.snoc
    rw [List.length_append, List.length_singleton] at e
    rw [ex_snoc, ex_snoc]
    have a := Rat.mul_le_mul_of_nonneg_right (ih hr1 (g := g) (h := h) (fun k hk => e k (by omega))) (show 0 ≤ 1 - p by grind)
    have b := Rat.mul_le_mul_of_nonneg_right (ih hr1 (g := fun k => g (k + 1)) (h := fun k => h (k + 1)) (fun k hk => e (k + 1) (by omega))) p0
    grind
theorem ex_sum {α : Type} (row : List Rat) (g : α → Nat → Rat) : ∀ xs : List α, ex row (fun k => sumQ (xs.map fun x => g x k)) = sumQ (xs.map fun x => ex row (g x))
  | [] => ex_const row 0
  | x :: xs => by
    rw [List.map_cons, sumQ_cons, ← ex_sum row g xs]
    exact ex_add row (g x) fun k => sumQ (xs.map fun x => g x k)
theorem ex_cf : ∀ (row : List Rat) (k : Nat), ex row (fun j => if j = k then 1 else 0) = cf row k := fun row => by
  induction row using snocRec with
  | h0 =>
    intro k
    cases k with
    | zero => rfl
    | succ k => rw [ex_nil, cf_nil]; exact if_neg (by omega)
  | hs row p ih =>
    intro k
    cases k with
    | zero =>
      rw [ex_snoc, ih, cf_snoc0, ex_congr (h := fun _ => 0) (fun k _ => if_neg (by omega)), ex_const]
      grind
    | succ k =>
      rw [ex_snoc, ih, cf_snoc, ex_congr (g := fun j => if j + 1 = k + 1 then (1 : Rat) else 0) (h := fun j => if j = k then 1 else 0) (fun j _ => by
        by_cases h : j = k
        · rw [if_pos h, if_pos (by omega)]
        · rw [if_neg h, if_neg (by omega)]), ih]
      grind
theorem sum_delta (g : Nat → Rat) : ∀ (n j : Nat), sumQ ((List.range n).map fun k => (if j = k then 1 else 0) * g k) = if j < n then g j else 0 := fun n => by
  induction n with
  | zero => intro j; rfl
  | succ n ih =>
    intro j
    rw [sum_range, ih]
    by_cases h : j < n
    · rw [if_pos h, if_neg (by omega), if_pos (by omega)]; grind
    · by_cases h2 : j = n
      · rw [if_neg h, if_pos h2, if_pos (by omega), h2]; grind
      · rw [if_neg h, if_neg h2, if_neg (by omega)]; grind
theorem ex_eq (row : List Rat) (g : Nat → Rat) : ex row g = sumQ ((List.range (row.length + 1)).map fun k => cf row k * g k) := by
  rw [ex_congr (h := fun j => sumQ ((List.range (row.length + 1)).map fun k => (if j = k then 1 else 0) * g k)) (fun j hj => by rw [sum_delta, if_pos (by omega)]), ex_sum]
  congr 1
  refine List.map_congr_left fun k _ => ?_
  rw [ex_mul, ex_cf]
theorem ex_id (row : List Rat) : ex row (fun k => (k : Rat)) = sumQ row := by
  induction row using snocRec with
  | h0 => rfl
  | hs row p ih =>
    have e : ex row (fun k => ((k + 1 : Nat) : Rat)) = ex row (fun k => (k : Rat)) + 1 := by
      rw [← ex_const row 1, ← ex_add]
      refine ex_congr fun k _ => ?_
      exact_mod_cast rfl
    rw [ex_snoc, e, ih, sumQ_app, sumQ_cons, sumQ_nil]
    grind
theorem ex_insert (A : List Rat) (p : Rat) : ∀ (B : List Rat) (g : Nat → Rat), ex (A ++ p :: B) g = ex (A ++ B) g * (1 - p) + ex (A ++ B) (fun k => g (k + 1)) * p := fun B => by
  induction B using snocRec with
  | h0 => intro g; rw [List.append_nil]; exact ex_snoc A p g
  | hs B q ih =>
    intro g
    have e1 : A ++ p :: (B ++ [q]) = (A ++ p :: B) ++ [q] := by simp
    have e2 : A ++ (B ++ [q]) = (A ++ B) ++ [q] := by simp
    rw [e1, e2, ex_snoc, ex_snoc, ex_snoc, ih, ih (fun k => g (k + 1))]
    grind
theorem sum_drop (f : Nat → Rat) (m : Nat) : ∀ n, sumQ (((List.range n).map f).drop m) = sumQ ((List.range n).map fun k => f k * (if m ≤ k then 1 else 0)) := fun n => by
  induction n with
  | zero => rw [List.range_zero, List.map_nil, List.drop_nil]; rfl
  | succ n ih =>
    rw [sum_range, ← ih, List.range_succ, List.map_append]
    by_cases h : m ≤ n
    · rw [List.drop_append_of_le_length (by rw [List.length_map, List.length_range]; exact h), sumQ_app, if_pos h]
      simp
      grind
    · rw [List.drop_eq_nil_of_le (by simp; omega), List.drop_eq_nil_of_le (by simp; omega), if_neg h]
      rw [sumQ_nil]; grind
theorem sum_take (f : Nat → Rat) (m : Nat) : ∀ n, sumQ (((List.range n).map f).take m) = sumQ ((List.range n).map fun k => f k * (if k < m then 1 else 0)) := fun n => by
  induction n with
  | zero => rw [List.range_zero, List.map_nil, List.take_nil]; rfl
  | succ n ih =>
    rw [sum_range, ← ih, List.range_succ, List.map_append]
    by_cases h : n < m
    · rw [List.take_of_length_le (by simp; omega), List.take_of_length_le (by simp; omega), sumQ_app, if_pos h]
      simp
      grind
    · rw [List.take_append_of_le_length (by simp; omega), if_neg h]
      grind
/-- so many signs or more, or fewer -/
def atL (row : List Rat) (m : Nat) : Rat := ex row (fun k => if m ≤ k then 1 else 0)
def atM (row : List Rat) (m : Nat) : Rat := ex row (fun k => if k ≤ m then 1 else 0)
theorem atL_eq (row : List Rat) (m : Nat) : sumQ ((cntL row).drop m) = atL row m := by
  unfold cntL atL
  rw [sum_drop, ex_eq]
theorem atM_eq (row : List Rat) (m : Nat) : sumQ ((cntL row).take (m + 1)) = atM row m := by
  unfold cntL atM
  rw [sum_take, ex_eq]
  congr 1
  refine List.map_congr_left fun k _ => ?_
  by_cases h : k ≤ m
  · rw [if_pos h, if_pos (by omega)]
  · rw [if_neg h, if_neg (by omega)]
theorem atL_unit {row : List Rat} (h : Rw row) (m : Nat) : 0 ≤ atL row m ∧ atL row m ≤ 1 := by
  constructor
  · have := ex_mono h (g := fun _ => 0) (h := fun k => if m ≤ k then 1 else 0) (fun k _ => by split <;> decide)
    rwa [ex_const] at this
  · have := ex_mono h (g := fun k => if m ≤ k then 1 else 0) (h := fun _ => 1) (fun k _ => by split <;> decide)
    rwa [ex_const] at this
theorem atM_unit {row : List Rat} (h : Rw row) (m : Nat) : 0 ≤ atM row m ∧ atM row m ≤ 1 := by
  constructor
  · have := ex_mono h (g := fun _ => 0) (h := fun k => if k ≤ m then 1 else 0) (fun k _ => by split <;> decide)
    rwa [ex_const] at this
  · have := ex_mono h (g := fun k => if k ≤ m then 1 else 0) (h := fun _ => 1) (fun k _ => by split <;> decide)
    rwa [ex_const] at this
theorem at_both (row : List Rat) (m : Nat) : atL row m + atM row m = 1 + cf row m := by
  unfold atL atM
  rw [← ex_add, ← ex_cf row m, ← ex_const row 1, ← ex_add]
  refine ex_congr fun k _ => ?_
  rw [ex_const]
  by_cases h1 : k = m
  · rw [if_pos (by omega), if_pos (by omega), if_pos h1]
  · rw [if_neg h1]
    by_cases h2 : k ≤ m
    · rw [if_neg (by omega), if_pos h2, Rat.add_comm]
    · rw [if_pos (by omega), if_neg h2]
theorem ones_sum (m : Nat) : ∀ n k : Nat, sumQ ((List.range n).map fun i => if i + m ≤ k then (1 : Rat) else 0) = ((min n (k + 1 - m) : Nat) : Rat) := fun n => by
  induction n with
  | zero => intro k; rw [Nat.zero_min]; rfl
  | succ n ih =>
    intro k
    rw [sum_range, ih]
    by_cases h : n + m ≤ k
    · rw [if_pos h, show min n (k + 1 - m) = n by omega, show min (n + 1) (k + 1 - m) = n + 1 by omega]
      exact_mod_cast rfl
    · rw [if_neg h, show min (n + 1) (k + 1 - m) = min n (k + 1 - m) by omega]
      grind
/-- all of so many or more, from 1 on, come to the mean -/
theorem atL_mean {row : List Rat} {n : Nat} (h : row.length ≤ n) : sumQ ((List.range n).map fun i => atL row (i + 1)) = sumQ row := by
  unfold atL
  rw [← ex_sum, ← ex_id]
  refine ex_congr fun k hk => ?_
  rw [ones_sum, show min n (k + 1 - 1) = k by omega]
/-! ### over courses -/
def exC (row : List Rat) (G : List Nat → Rat) : Rat := sumQ ((crs row).map fun c => c.2 * G c.1)
theorem exC_nil (G : List Nat → Rat) : exC [] G = G [] := by
  unfold exC
  rw [crs_nil]
  show 1 * G [] + 0 = _
  grind
theorem exC_snoc (row : List Rat) (p : Rat) (G : List Nat → Rat) : exC (row ++ [p]) G = exC row G * (1 - p) + exC row (fun c => G (c ++ [row.length])) * p := by
  unfold exC
  rw [crs_snoc, List.map_append, sumQ_app, List.map_map, List.map_map, ← sumQ_mul, ← sumQ_mul]
  congr 2 <;>
  · refine List.map_congr_left fun c _ => ?_
    simp only [Function.comp]
    grind
theorem exC_congr {row : List Rat} {G K : List Nat → Rat} (h : ∀ c, Asc c row.length → G c = K c) : exC row G = exC row K := by
  unfold exC
  congr 1
  refine List.map_congr_left fun c hc => ?_
  rw [h c.1 (crs_asc row c hc)]
theorem exC_len : ∀ (row : List Rat) (G : Nat → Rat), exC row (fun c => G c.length) = ex row G := fun row => by
  induction row using snocRec with
  | h0 => intro G; exact exC_nil _
  | hs row p ih =>
    intro G
    rw [exC_snoc, ex_snoc, ih, ← ih (fun k => G (k + 1))]
    congr 2
    refine exC_congr fun c _ => ?_
    rw [List.length_append, List.length_singleton]
theorem pr_exC (row : List Rat) (t : List Nat → Bool) : Pr row t = exC row (fun c => if t c then 1 else 0) := by
  unfold Pr exC
  generalize crs row = cs
  induction cs with
  | nil => rfl
  | cons c cs ih =>
    rw [List.filter_cons, List.map_cons, sumQ_cons, ← ih]
    cases h : t c.1 with
    | true => simp only [h, if_true, List.map_cons, sumQ_cons]; grind
    | false => simp only [h, Bool.false_eq_true, if_false]; grind
/-- how many ahead of a moment -/
def cntB (s : Nat) (c : List Nat) : Nat := (c.filter fun a => decide (a < s)).length
theorem cnt_asc {c : List Nat} {s : Nat} (h : Asc c s) : cntB s c = c.length ∧ cntF s c = 0 := by
  unfold cntB cntF
  constructor
  · rw [List.filter_eq_self.mpr fun a ha => decide_eq_true (h.2 a ha)]
  · rw [List.filter_eq_nil_iff.mpr fun a ha z => absurd (h.2 a ha) (Nat.not_lt.mpr (of_decide_eq_true z))]; rfl
theorem cntB_snoc {s n : Nat} (h : s ≤ n) (c : List Nat) : cntB s (c ++ [n]) = cntB s c := by
  unfold cntB
  rw [List.filter_append]
  simp
  omega
theorem exC_sides (A : List Rat) : ∀ (B : List Rat) (G : Nat → Nat → Rat), exC (A ++ B) (fun c => G (cntB A.length c) (cntF A.length c)) = ex A (fun i => ex B (fun j => G i j)) := fun B => by
  induction B using snocRec with
  | h0 =>
    intro G
    rw [List.append_nil]
    rw [exC_congr (K := fun c => G c.length 0) (fun c hc => by rw [(cnt_asc hc).1, (cnt_asc hc).2]), exC_len A fun i => G i 0]
    rfl
  | hs B p ih =>
    intro G
    have e : A ++ (B ++ [p]) = (A ++ B) ++ [p] := by simp
    have hle : A.length ≤ (A ++ B).length := by rw [List.length_append]; omega
    rw [e, exC_snoc, ih, ← ex_mul]
    rw [exC_congr (K := fun c => G (cntB A.length c) (cntF A.length c + 1)) (fun c _ => by rw [cntB_snoc hle, cntF_snoc, if_pos hle]), ih fun i j => G i (j + 1), ← ex_mul, ← ex_add]
    refine ex_congr fun i _ => ?_
    rw [ex_snoc]
end AX

namespace AX
open PySem PySem.Spec PyProof.Rows L2

/-! ## even numbers of signs -/
def evn (k : Nat) : Bool := decide (k = 2 * (k / 2))
theorem evn_succ (k : Nat) : evn (k + 1) = !evn k := by
  unfold evn
  by_cases h : k = 2 * (k / 2)
  · rw [decide_eq_true h, decide_eq_false (by omega)]; rfl
  · rw [decide_eq_false h, decide_eq_true (by omega)]; rfl
def evQ (row : List Rat) : Rat := ex row (fun k => if evn k then 1 else 0)
def altQ (row : List Rat) : Rat := prodQ (row.map fun p => 1 - 2 * p)
theorem altQ_snoc (row : List Rat) (p : Rat) : altQ (row ++ [p]) = altQ row * (1 - 2 * p) := by
  unfold altQ
  rw [List.map_append, prodQ_app]
  show _ * ((1 - 2 * p) * 1) = _
  rw [Rat.mul_one]
theorem ex_flip (row : List Rat) : ex row (fun k => if evn (k + 1) then (1 : Rat) else 0) = 1 - evQ row := by
  have e : ex row (fun k => if evn (k + 1) then (1 : Rat) else 0) + evQ row = 1 := by
    unfold evQ
    rw [← ex_add, ← ex_const row 1]
    refine ex_congr fun k _ => ?_
    rw [evn_succ, ex_const]
    cases evn k
    · show (1 : Rat) + 0 = 1; rw [Rat.add_zero]
    · show (0 : Rat) + 1 = 1; rw [Rat.zero_add]
  grind
theorem evQ_alt (row : List Rat) : 2 * evQ row = 1 + altQ row := by
  induction row using snocRec with
  | h0 =>
    have e1 : evQ [] = 1 := rfl
    have e2 : altQ [] = 1 := rfl
    rw [e1, e2]; grind
  | hs row p ih =>
    have f := ex_flip row
    unfold evQ at *
    rw [ex_snoc, f, altQ_snoc]
    grind
theorem evQ_insert (A B : List Rat) (p : Rat) : evQ (A ++ p :: B) = evQ (A ++ B) * (1 - p) + (1 - evQ (A ++ B)) * p := by
  have f := ex_flip (A ++ B)
  unfold evQ at *
  rw [ex_insert, f]
theorem altQ_zero : ∀ (row : List Rat), altQ row = 0 ↔ (1 / 2 : Rat) ∈ row
  | [] => by
    constructor
    · intro h; exact absurd h (by decide)
    · intro h; cases h
  | p :: row => by
    have ih := altQ_zero row
    have e : altQ (p :: row) = (1 - 2 * p) * altQ row := rfl
    rw [e, List.mem_cons, ← ih, Rat.mul_eq_zero]
    constructor
    · rintro (h | h)
      · left; grind
      · right; exact h
    · rintro (h | h)
      · left; rw [← h]; grind
      · right; exact h
theorem evQ_half (row : List Rat) : evQ row = 1 / 2 ↔ (1 / 2 : Rat) ∈ row := by
  rw [← altQ_zero]
  have := evQ_alt row
  constructor <;> intro h <;> grind
/-- a course with a moment: the chance of it, and of the others -/
theorem exC_with (A : List Rat) (p : Rat) : ∀ (B : List Rat) (G : Nat → Rat), exC (A ++ p :: B) (fun c => if decide (A.length ∈ c) then G c.length else 0) = ex (A ++ B) (fun k => G (k + 1)) * p := fun B => by
  induction B using snocRec with
  | h0 =>
    intro G
    rw [List.append_nil, exC_snoc]
    rw [exC_congr (row := A) (G := fun c => if decide (A.length ∈ c) then G c.length else 0) (K := fun _ => 0) (fun c hc => if_neg (by
      intro h
      exact absurd (hc.2 _ (of_decide_eq_true h)) (Nat.lt_irrefl _)))]
    rw [exC_congr (row := A) (G := fun c => if decide (A.length ∈ c ++ [A.length]) then G (c ++ [A.length]).length else 0) (K := fun c => G (c.length + 1)) (fun c _ => by
      rw [if_pos (decide_eq_true (List.mem_append_right _ (List.mem_singleton.mpr rfl))), List.length_append, List.length_singleton])]
    rw [exC_len A fun k => G (k + 1), exC_len A fun _ => 0, ex_const]
    grind
  | hs B q ih =>
    intro G
    have e : A ++ p :: (B ++ [q]) = (A ++ p :: B) ++ [q] := by simp
    have e2 : A ++ (B ++ [q]) = (A ++ B) ++ [q] := by simp
    rw [e, e2, exC_snoc, ex_snoc, ih]
    rw [exC_congr (row := A ++ p :: B) (G := fun c => if decide (A.length ∈ c ++ [(A ++ p :: B).length]) then G (c ++ [(A ++ p :: B).length]).length else 0) (K := fun c => if decide (A.length ∈ c) then G (c.length + 1) else 0) (fun c _ => by
      have l : (c ++ [(A ++ p :: B).length]).length = c.length + 1 := by rw [List.length_append, List.length_singleton]
      rw [l]
      have : (A.length ∈ c ++ [(A ++ p :: B).length]) = (A.length ∈ c) := by
        apply propext
        rw [List.mem_append, List.mem_singleton, List.length_append, List.length_cons]
        constructor
        · rintro (h | h)
          · exact h
          · omega
        · exact .inl
      simp only [this]), ih fun k => G (k + 1)]
    grind
theorem both_free {A B : List Rat} {p : Rat} (hp : p < 1) : (p * (1 - evQ (A ++ B)) = p * evQ (A ++ p :: B)) ↔ (p = 0 ∨ (1 / 2 : Rat) ∈ A ++ B) := by
  rw [← evQ_half, evQ_insert]
  generalize evQ (A ++ B) = e
  constructor
  · intro h
    by_cases h0 : p = 0
    · exact .inl h0
    · right
      have h1 : p * ((1 - 2 * e) * (1 - p)) = 0 := by grind
      rcases Rat.mul_eq_zero.mp h1 with z | z
      · exact absurd z h0
      · rcases Rat.mul_eq_zero.mp z with z | z
        · grind
        · exfalso; have : p = 1 := by grind
          exact Rat.ne_of_lt hp this
  · rintro (h | h)
    · rw [h]; grind
    · rw [h]; grind
end AX

namespace AX
open PySem PySem.Spec PyProof.Rows L2

/-! ## a greater chance at a moment -/
theorem Rw.mid {A B : List Rat} {p : Rat} (h : Rw (A ++ p :: B)) : Rw (A ++ B) ∧ 0 ≤ p ∧ p ≤ 1 :=
  ⟨fun q hq => h q (by
    rcases List.mem_append.mp hq with z | z
    · exact List.mem_append_left _ z
    · exact List.mem_append_right _ (List.mem_cons_of_mem _ z)), h p (by simp)⟩
theorem ex_up {A B : List Rat} {p h : Rat} (hr : Rw (A ++ p :: B)) (hp : p ≤ h) {g : Nat → Rat} (hg : ∀ k, g k ≤ g (k + 1)) : ex (A ++ p :: B) g ≤ ex (A ++ h :: B) g := by
  have m := ex_mono hr.mid.1 (g := g) (h := fun k => g (k + 1)) (fun k _ => hg k)
  rw [ex_insert, ex_insert]
  generalize ex (A ++ B) g = x at *
  generalize ex (A ++ B) (fun k => g (k + 1)) = y at *
  have := Rat.mul_nonneg (show 0 ≤ h - p by grind) (show 0 ≤ y - x by grind)
  grind
theorem ex_down {A B : List Rat} {p h : Rat} (hr : Rw (A ++ p :: B)) (hp : p ≤ h) {g : Nat → Rat} (hg : ∀ k, g (k + 1) ≤ g k) : ex (A ++ h :: B) g ≤ ex (A ++ p :: B) g := by
  have m := ex_mono hr.mid.1 (g := fun k => g (k + 1)) (h := g) (fun k _ => hg k)
  rw [ex_insert, ex_insert]
  generalize ex (A ++ B) g = x at *
  generalize ex (A ++ B) (fun k => g (k + 1)) = y at *
  have := Rat.mul_nonneg (show 0 ≤ h - p by grind) (show 0 ≤ x - y by grind)
  grind
theorem atL_up {A B : List Rat} {p h : Rat} (hr : Rw (A ++ p :: B)) (hp : p ≤ h) (m : Nat) : atL (A ++ p :: B) m ≤ atL (A ++ h :: B) m := ex_up hr hp fun k => by
  by_cases h1 : m ≤ k
  · rw [if_pos h1, if_pos (by omega)]; exact Rat.le_refl
  · rw [if_neg h1]; split <;> decide
theorem atM_down {A B : List Rat} {p h : Rat} (hr : Rw (A ++ p :: B)) (hp : p ≤ h) (m : Nat) : atM (A ++ h :: B) m ≤ atM (A ++ p :: B) m := ex_down hr hp fun k => by
  by_cases h1 : k + 1 ≤ m
  · rw [if_pos h1, if_pos (by omega)]; exact Rat.le_refl
  · rw [if_neg h1]; split <;> decide
/-- by how much their number is above one, in the mean -/
def exc (row : List Rat) (m : Nat) : Rat := ex row (fun k => ((k - m : Nat) : Rat))
theorem exc_up {A B : List Rat} {p h : Rat} (hr : Rw (A ++ p :: B)) (hp : p ≤ h) (m : Nat) : exc (A ++ p :: B) m ≤ exc (A ++ h :: B) m := ex_up hr hp fun k => natCast_le' (by omega)
theorem od_up {p h : Rat} (h0 : p ≤ h) (h1 : h < 1) : od p ≤ od h := by
  have a : od h - od p = (h - p) * ((1 - h)⁻¹ * (1 - p)⁻¹) := by
    unfold od
    have e1 : 1 - h ≠ 0 := fun z => by grind
    have e2 : 1 - p ≠ 0 := fun z => by grind
    grind
  have b := Rat.mul_nonneg (Rat.le_of_lt (Rat.inv_pos.mpr (show (0 : Rat) < 1 - h by grind))) (Rat.le_of_lt (Rat.inv_pos.mpr (show (0 : Rat) < 1 - p by grind)))
  have c := Rat.mul_nonneg (show 0 ≤ h - p by grind) b
  grind
theorem drop_mid {A B : List Rat} (x : Rat) (s : Nat) : (s ≤ A.length → (A ++ x :: B).drop s = A.drop s ++ x :: B) ∧ (A.length < s → (A ++ x :: B).drop s = B.drop (s - A.length - 1)) := by
  constructor
  · intro h; rw [List.drop_append_of_le_length h]
  · intro h
    rw [List.drop_append, List.drop_eq_nil_of_le (by omega), List.nil_append, show s - A.length = (s - A.length - 1) + 1 by omega, List.drop_succ_cons]
    congr 1
theorem sumOd_up {A B : List Rat} {p h : Rat} (h0 : p ≤ h) (h1 : h < 1) (s : Nat) : sumQ (((A ++ p :: B).drop s).map od) ≤ sumQ (((A ++ h :: B).drop s).map od) := by
  by_cases hs : s ≤ A.length
  · rw [(drop_mid p s).1 hs, (drop_mid h s).1 hs, List.map_append, List.map_append, sumQ_app, sumQ_app, List.map_cons, List.map_cons, sumQ_cons, sumQ_cons]
    have := od_up h0 h1
    grind
  · rw [(drop_mid p s).2 (by omega), (drop_mid h s).2 (by omega)]
    exact Rat.le_refl
theorem noneQ_app (A B : List Rat) : noneQ (A ++ B) = noneQ A * noneQ B := by
  unfold noneQ
  rw [List.map_append, prodQ_app]
theorem none_down {A B : List Rat} {p h : Rat} (hr : ∀ q ∈ A ++ B, q < 1) (h0 : p ≤ h) (s : Nat) : noneQ ((A ++ h :: B).drop s) ≤ noneQ ((A ++ p :: B).drop s) := by
  by_cases hs : s ≤ A.length
  · rw [(drop_mid p s).1 hs, (drop_mid h s).1 hs, noneQ_app, noneQ_app, noneQ_cons, noneQ_cons]
    have a := noneQ_pos (row := A.drop s) fun q hq => hr q (List.mem_append_left _ (List.mem_of_mem_drop hq))
    have b := noneQ_pos (row := B) fun q hq => hr q (List.mem_append_right _ hq)
    have c := Rat.mul_nonneg (show 0 ≤ h - p by grind) (Rat.le_of_lt (Rat.mul_pos a b))
    grind
  · rw [(drop_mid p s).2 (by omega), (drop_mid h s).2 (by omega)]
    exact Rat.le_refl
/-- the least number so many signs or fewer come with a share or more -/
def qtl (row : List Rat) (s : Rat) : Nat := ((List.range (row.length + 1)).find? fun k => !decide (atM row k < s)).getD row.length
theorem qtl_le (row : List Rat) (s : Rat) : qtl row s ≤ row.length := by
  unfold qtl
  cases h : (List.range (row.length + 1)).find? fun k => !decide (atM row k < s) with
  | none => exact Nat.le_refl _
  | some k =>
    have := List.mem_range.mp (List.mem_of_find?_eq_some h)
    show k ≤ _
    omega
theorem qtl_least {row : List Rat} {s : Rat} {k : Nat} (hk : k ≤ row.length) (h : ¬ atM row k < s) : qtl row s ≤ k := by
  unfold qtl
  cases e : (List.range (row.length + 1)).find? fun k => !decide (atM row k < s) with
  | none =>
    have := List.find?_eq_none.mp e k (List.mem_range.mpr (by omega))
    simp [h] at this
  | some j =>
    show j ≤ k
    rw [List.find?_range_eq_some] at e
    rcases Nat.lt_or_ge k j with z | z
    · have := e.2.2 k z
      simp [h] at this
    · exact z
theorem qtl_at {row : List Rat} {s : Rat} (hs : s ≤ 1) : ¬ atM row (qtl row s) < s := by
  unfold qtl
  cases e : (List.range (row.length + 1)).find? fun k => !decide (atM row k < s) with
  | none =>
    have t : atM row row.length = 1 := by
      unfold atM
      rw [ex_congr (h := fun _ => 1) (fun k hk => if_pos hk), ex_const]
    show ¬ atM row row.length < s
    rw [t]
    exact Rat.not_lt.mpr hs
  | some j =>
    have := List.find?_some e
    simpa using this
theorem qtl_up {A B : List Rat} {p h s : Rat} (hr : Rw (A ++ p :: B)) (hp : p ≤ h) (hs : s ≤ 1) : qtl (A ++ p :: B) s ≤ qtl (A ++ h :: B) s := by
  have a := qtl_at (row := A ++ h :: B) hs
  have b := qtl_le (A ++ h :: B) s
  refine qtl_least (by rw [List.length_append, List.length_cons] at *; exact b) fun z => a ?_
  have := atM_down hr hp (qtl (A ++ h :: B) s)
  grind
end AX

namespace AX
open PySem PySem.Spec PyProof.Rows L2

/-! ## going back from the end -/
theorem cf_cons0 (p : Rat) (r : List Rat) : cf (p :: r) 0 = cf r 0 * (1 - p) := by
  have := ex_insert [] p r (fun j => if j = 0 then 1 else 0)
  rw [List.nil_append, List.nil_append, ex_cf, ex_cf, ex_congr (g := fun k => if k + 1 = 0 then (1 : Rat) else 0) (h := fun _ => 0) (fun k _ => if_neg (by omega)), ex_const] at this
  rw [this]; grind
theorem cf_cons (p : Rat) (r : List Rat) (k : Nat) : cf (p :: r) (k + 1) = cf r (k + 1) * (1 - p) + cf r k * p := by
  have := ex_insert [] p r (fun j => if j = k + 1 then 1 else 0)
  rw [List.nil_append, List.nil_append, ex_cf, ex_cf, ex_congr (g := fun j => if j + 1 = k + 1 then (1 : Rat) else 0) (h := fun j => if j = k then 1 else 0) (fun j _ => by
    by_cases h : j = k
    · rw [if_pos h, if_pos (by omega)]
    · rw [if_neg h, if_neg (by omega)]), ex_cf] at this
  exact this
def mxQ (a b : Rat) : Rat := if a < b then b else a
theorem mxQ_l {a b : Rat} (h : b ≤ a) : mxQ a b = a := by
  unfold mxQ
  rw [if_neg (Rat.not_lt.mpr h)]
theorem mxQ_r {a b : Rat} (h : a ≤ b) : mxQ a b = b := by
  unfold mxQ
  by_cases h2 : a < b
  · rw [if_pos h2]
  · rw [if_neg h2]
    exact Rat.le_antisymm h (Rat.not_lt.mp h2)
/-- the law of a moment from which on naming is best -/
theorem go_back {n s : Nat} {p N W V : Nat → Rat} (hp : ∀ t, t < n → 0 ≤ p t ∧ p t ≤ 1) (hW : W n = 0) (hV : V n = 0) (rW : ∀ t, t < n → W t = W (t + 1) * (1 - p t) + N t * p t) (rV : ∀ t, t < n → V t = V (t + 1) * (1 - p t) + p t * mxQ (N t) (V (t + 1)))
    (hs : s ≤ n) (h1 : ∀ t, s ≤ t → t < n → W (t + 1) ≤ N t) (h2 : ∀ t, t < s → N t ≤ W (t + 1)) :
    (∀ t, s ≤ t → t ≤ n → V t = W t) ∧ (∀ t, t ≤ s → V t = W s) ∧ (∀ t, t ≤ s → W t ≤ W s) := by
  have a : ∀ k, k ≤ n - s → V (n - k) = W (n - k) := fun k => by
    induction k with
    | zero => intro _; rw [Nat.sub_zero, hW, hV]
    | succ k ih =>
      intro hk
      have i := ih (by omega)
      have e : n - k = n - (k + 1) + 1 := by omega
      have r1 := rW (n - (k + 1)) (by omega)
      have r2 := rV (n - (k + 1)) (by omega)
      rw [← e] at r1 r2
      have m := h1 (n - (k + 1)) (by omega) (by omega)
      rw [← e] at m
      rw [r2, r1, i, mxQ_l m]
      grind
  have up : ∀ t, s ≤ t → t ≤ n → V t = W t := fun t h h' => by
    have := a (n - t) (by omega)
    rwa [show n - (n - t) = t by omega] at this
  have b : ∀ k, k ≤ s → V (s - k) = W s ∧ W (s - k) ≤ W s := fun k => by
    induction k with
    | zero => intro _; rw [Nat.sub_zero]; exact ⟨up s (Nat.le_refl _) hs, Rat.le_refl⟩
    | succ k ih =>
      intro hk
      obtain ⟨i1, i2⟩ := ih (by omega)
      have e : s - k = s - (k + 1) + 1 := by omega
      have r1 := rW (s - (k + 1)) (by omega)
      have r2 := rV (s - (k + 1)) (by omega)
      have m := h2 (s - (k + 1)) (by omega)
      obtain ⟨p0, p1⟩ := hp (s - (k + 1)) (by omega)
      rw [← e] at r1 r2 m
      generalize p (s - (k + 1)) = q at *
      generalize N (s - (k + 1)) = x at *
      have x1 := Rat.mul_nonneg p0 (show 0 ≤ W (s - k) - x by grind)
      refine ⟨?_, ?_⟩
      · rw [r2, i1, mxQ_r (by grind)]
        grind
      · rw [r1]; grind
  refine ⟨up, fun t ht => ?_, fun t ht => ?_⟩
  · have := (b (s - t) (by omega)).1
    rwa [show s - (s - t) = t by omega] at this
  · have := (b (s - t) (by omega)).2
    rwa [show s - (s - t) = t by omega] at this
/-! ### sums of products of odds -/
theorem es_cons (r : Rat) : ∀ (R : List Rat) (k : Nat), es (r :: R) (k + 1) = es R (k + 1) + r * es R k := fun R => by
  induction R using snocRec with
  | h0 =>
    intro k
    have e : es ([] ++ [r]) (k + 1) = es [] (k + 1) + r * es [] k := es_snoc [] r k
    exact e
  | hs R q ih =>
    intro k
    have e : r :: (R ++ [q]) = (r :: R) ++ [q] := rfl
    rw [e, es_snoc, es_snoc, ih]
    cases k with
    | zero => rw [es_0, es_0, es_0]; grind
    | succ k => rw [ih, es_snoc]; grind
def NN (R : List Rat) : Prop := ∀ r ∈ R, 0 ≤ r
theorem es_nn : ∀ {R : List Rat}, NN R → ∀ k, 0 ≤ es R k
  | [], _, 0 => by rw [es_0]; decide
  | [], _, k + 1 => by rw [es_nil]; exact Rat.le_refl
  | r :: R, _, 0 => by rw [es_0]; decide
  | r :: R, h, k + 1 => by
    rw [es_cons]
    have a := es_nn (R := R) (fun x hx => h x (List.mem_cons_of_mem _ hx)) (k + 1)
    have b := Rat.mul_nonneg (h r (List.mem_cons_self ..)) (es_nn (R := R) (fun x hx => h x (List.mem_cons_of_mem _ hx)) k)
    grind
theorem es_zero : ∀ {R : List Rat}, NN R → ∀ k, es R k = 0 → es R (k + 1) = 0
  | [], _, k, _ => es_nil k
  | r :: R, h, 0, e => by rw [es_0] at e; exact absurd e (by decide)
  | r :: R, h, k + 1, e => by
    have hR : NN R := fun x hx => h x (List.mem_cons_of_mem _ hx)
    have a := es_nn hR (k + 1)
    have b := Rat.mul_nonneg (h r (List.mem_cons_self ..)) (es_nn hR k)
    rw [es_cons] at e
    have e1 : es R (k + 1) = 0 := by grind
    have e2 := es_zero hR (k + 1) e1
    rw [es_cons, e1, e2]; grind
/-- the sums of products of one more and one fewer, together, are not above -/
theorem es_tp2 : ∀ {R : List Rat}, NN R → ∀ (k l : Nat), l ≤ k → es R (k + 2) * es R l ≤ es R (k + 1) * es R (l + 1)
  | [], _, k, l, _ => by rw [es_nil, es_nil]; grind
  | r :: R, h, k, l, hl => by
    have hR : NN R := fun x hx => h x (List.mem_cons_of_mem _ hx)
    have h0 := h r (List.mem_cons_self ..)
    have i := es_tp2 hR k l hl
    cases l with
    | zero =>
      have z : es (r :: R) 0 = 1 := es_0 _
      rw [z, es_cons, es_cons, es_cons, es_0]
      rw [es_0] at i
      have n1 := Rat.mul_nonneg h0 (es_nn hR (k + 1))
      have n2 := Rat.mul_nonneg (Rat.mul_nonneg h0 (es_nn hR k)) (es_nn hR 1)
      have n3 := Rat.mul_nonneg (Rat.mul_nonneg h0 h0) (es_nn hR k)
      grind
    | succ l =>
      obtain ⟨k, rfl⟩ : ∃ j, k = j + 1 := ⟨k - 1, by omega⟩
      have i2 := es_tp2 hR k l (by omega)
      have i3 := es_tp2 hR (k + 1) l (by omega)
      have i4 : es R (k + 3) * es R l ≤ es R (k + 1) * es R (l + 2) := by
        by_cases hkl : k = l
        · subst hkl
          have := es_tp2 hR (k + 1) k (by omega)
          grind
        · have j1 := es_tp2 hR k (l + 1) (by omega)
          have j2 := es_tp2 hR (k + 1) l (by omega)
          exact Rat.le_trans j2 j1
      rw [es_cons, es_cons, es_cons, es_cons]
      have m1 := Rat.mul_le_mul_of_nonneg_left i4 h0
      have m2 := Rat.mul_le_mul_of_nonneg_left i2 (Rat.mul_nonneg h0 h0)
      grind
theorem es_up {R : List Rat} {r : Rat} (h : NN R) (h0 : 0 ≤ r) (k : Nat) : es R k ≤ es (r :: R) k := by
  cases k with
  | zero => rw [es_0, es_0]; exact Rat.le_refl
  | succ k =>
    rw [es_cons]
    have := Rat.mul_nonneg h0 (es_nn h k)
    grind
/-- where so many odds come to those of one less, they do so earlier, too -/
theorem es_ratio {R : List Rat} {r : Rat} (h : NN R) (h0 : 0 ≤ r) (k : Nat) (hp : 0 < es R k) (hk : es R k ≤ es R (k + 1)) : 0 < es (r :: R) k ∧ es (r :: R) k ≤ es (r :: R) (k + 1) := by
  refine ⟨?_, ?_⟩
  · have := es_up h h0 k
    grind
  · cases k with
    | zero =>
      rw [es_cons, es_0, es_0]
      rw [es_0] at hk
      grind
    | succ k =>
      have t := es_tp2 h k k (Nat.le_refl _)
      have nn := es_nn h k
      have m := Rat.mul_le_mul_of_nonneg_right hk nn
      have a : es R (k + 1) * es R k ≤ es R (k + 1) * es R (k + 1) := Rat.le_trans m t
      have b : es R k ≤ es R (k + 1) := Rat.le_of_mul_le_mul_left a hp
      rw [es_cons, es_cons]
      have c := Rat.mul_nonneg h0 (show 0 ≤ es R (k + 1) - es R k by grind)
      grind
/-! ### the last of which something holds -/
def lastI (P : Nat → Bool) (xs : List Nat) : Nat := xs.foldl (fun a t => if P t then t else a) 0
theorem lastI_snoc (P : Nat → Bool) (xs : List Nat) (t : Nat) : lastI P (xs ++ [t]) = if P t then t else lastI P xs := by
  unfold lastI; rw [List.foldl_append]; rfl
theorem lastI_range (P : Nat → Bool) : ∀ n, (lastI P (List.range n) = 0 ∧ ∀ t, t < n → P t = false) ∨ (lastI P (List.range n) < n ∧ P (lastI P (List.range n)) = true ∧ ∀ t, lastI P (List.range n) < t → t < n → P t = false) := fun n => by
  induction n with
  | zero => exact .inl ⟨rfl, fun t h => absurd h (Nat.not_lt_zero t)⟩
  | succ n ih =>
    rw [List.range_succ, lastI_snoc]
    cases hp : P n with
    | true =>
      right
      rw [if_pos rfl]
      exact ⟨by omega, hp, fun t h1 h2 => by omega⟩
    | false =>
      rw [if_neg Bool.false_ne_true]
      rcases ih with ⟨i1, i2⟩ | ⟨i1, i2, i3⟩
      · left
        refine ⟨i1, fun t ht => ?_⟩
        by_cases h : t = n
        · rw [h]; exact hp
        · exact i2 t (by omega)
      · right
        refine ⟨by omega, i2, fun t h1 h2 => ?_⟩
        by_cases h : t = n
        · rw [h]; exact hp
        · exact i3 t h1 (by omega)
/-! ### the last sign but some -/
def mostK (m : Nat) : List Rat → Rat
  | [] => 0
  | p :: r => mostK m r * (1 - p) + p * mxQ (cf r m) (mostK m r)
def kthP (qs : List Rat) (m t : Nat) : Bool := decide (0 < es ((qs.drop t).map od) m) && !decide (es ((qs.drop t).map od) (m + 1) < es ((qs.drop t).map od) m)
def kthS (qs : List Rat) (m : Nat) : Nat := lastI (kthP qs m) (List.range qs.length)
theorem nn_od {qs : List Rat} (h : ∀ p ∈ qs, 0 ≤ p ∧ p < 1) : NN (qs.map od) := fun r hr => by
  obtain ⟨p, hp, rfl⟩ := List.mem_map.mp hr
  exact od_nn (h p hp).1 (h p hp).2
theorem kth_best {qs : List Rat} (h : ∀ p ∈ qs, 0 ≤ p ∧ p < 1) (m : Nat) : mostK m qs = cf (qs.drop (kthS qs m)) (m + 1) := by
  have hd : ∀ t, ∀ p ∈ qs.drop t, 0 ≤ p ∧ p < 1 := fun t p hp => h p (List.mem_of_mem_drop hp)
  have hl : ∀ t, ∀ p ∈ qs.drop t, p < 1 := fun t p hp => (hd t p hp).2
  have nn : ∀ t, NN ((qs.drop t).map od) := fun t => nn_od (hd t)
  have dc : ∀ t (ht : t < qs.length), qs.drop t = qs[t] :: qs.drop (t + 1) := fun t ht => List.drop_eq_getElem_cons ht
  have pos : ∀ t, 0 < noneQ (qs.drop t) := fun t => noneQ_pos (hl t)
  have le1 : ∀ t k l, es ((qs.drop t).map od) k ≤ es ((qs.drop t).map od) l → cf (qs.drop t) k ≤ cf (qs.drop t) l := fun t k l hh => by
    rw [cf_es _ (hl t), cf_es _ (hl t)]
    exact Rat.mul_le_mul_of_nonneg_right hh (Rat.le_of_lt (pos t))
  obtain ⟨s, hs⟩ : ∃ s, s = kthS qs m := ⟨_, rfl⟩
  have hle : s ≤ qs.length := by
    rw [hs]
    rcases lastI_range (kthP qs m) qs.length with ⟨z, _⟩ | ⟨z, _⟩
    · unfold kthS; omega
    · unfold kthS; omega
  have hnot : ∀ t, s < t → t < qs.length → kthP qs m t = false := fun t h1 h2 => by
    rcases lastI_range (kthP qs m) qs.length with ⟨_, z⟩ | ⟨_, _, z⟩
    · exact z t h2
    · exact z t (by rw [hs] at h1; exact h1) h2
  have hyes : 0 < s → kthP qs m s = true := fun h0 => by
    rcases lastI_range (kthP qs m) qs.length with ⟨z, _⟩ | ⟨_, z, _⟩
    · have : s = 0 := by rw [hs]; exact z
      omega
    · rw [hs]; exact z
  have key := go_back (n := qs.length) (s := s) (p := fun t => (qs[t]?).getD 0) (N := fun t => cf (qs.drop (t + 1)) m) (W := fun t => cf (qs.drop t) (m + 1)) (V := fun t => mostK m (qs.drop t))
    (fun t ht => by
      show 0 ≤ (qs[t]?).getD 0 ∧ (qs[t]?).getD 0 ≤ 1
      rw [List.getElem?_eq_getElem ht]
      exact ⟨(h _ (List.getElem_mem ht)).1, Rat.le_of_lt (h _ (List.getElem_mem ht)).2⟩)
    (by show cf (qs.drop qs.length) (m + 1) = 0; rw [List.drop_length]; rfl) (by show mostK m (qs.drop qs.length) = 0; rw [List.drop_length]; rfl)
    (fun t ht => by
      show cf (qs.drop t) (m + 1) = cf (qs.drop (t + 1)) (m + 1) * (1 - (qs[t]?).getD 0) + cf (qs.drop (t + 1)) m * (qs[t]?).getD 0
      rw [dc t ht, cf_cons, List.getElem?_eq_getElem ht]
      rfl)
    (fun t ht => by
      show mostK m (qs.drop t) = mostK m (qs.drop (t + 1)) * (1 - (qs[t]?).getD 0) + (qs[t]?).getD 0 * mxQ (cf (qs.drop (t + 1)) m) (mostK m (qs.drop (t + 1)))
      rw [dc t ht, List.getElem?_eq_getElem ht]
      rfl)
    hle
    (fun t h1 h2 => by
      show cf (qs.drop (t + 1)) (m + 1) ≤ cf (qs.drop (t + 1)) m
      apply le1
      by_cases h3 : t + 1 < qs.length
      · have := hnot (t + 1) (by omega) h3
        unfold kthP at this
        rw [Bool.and_eq_false_iff] at this
        rcases this with z | z
        · have z := of_decide_eq_false z
          have n1 := es_nn (nn (t + 1)) m
          have e0 : es ((qs.drop (t + 1)).map od) m = 0 := Rat.le_antisymm (Rat.not_lt.mp z) n1
          rw [es_zero (nn (t + 1)) m e0]
          exact n1
        · rw [Bool.not_eq_false', decide_eq_true_iff] at z
          exact Rat.le_of_lt z
      · rw [List.drop_eq_nil_of_le (by omega), List.map_nil, es_nil]
        exact es_nn (fun r hr => by cases hr) m)
    (fun t h1 => by
      show cf (qs.drop (t + 1)) m ≤ cf (qs.drop (t + 1)) (m + 1)
      apply le1
      have hy := hyes (by omega)
      unfold kthP at hy
      rw [Bool.and_eq_true, decide_eq_true_iff, Bool.not_eq_true', decide_eq_false_iff_not] at hy
      have ind : ∀ k, k ≤ s → 0 < es ((qs.drop (s - k)).map od) m ∧ es ((qs.drop (s - k)).map od) m ≤ es ((qs.drop (s - k)).map od) (m + 1) := fun k => by
        induction k with
        | zero => intro _; rw [Nat.sub_zero]; exact ⟨hy.1, Rat.not_lt.mp hy.2⟩
        | succ k ih =>
          intro hk
          obtain ⟨i1, i2⟩ := ih (by omega)
          have hlt : s - (k + 1) < qs.length := by omega
          rw [dc _ hlt, List.map_cons, show s - (k + 1) + 1 = s - k by omega]
          exact es_ratio (nn _) (od_nn (h _ (List.getElem_mem hlt)).1 (h _ (List.getElem_mem hlt)).2) m i1 i2
      have := (ind (s - (t + 1)) (by omega)).2
      rwa [show s - (s - (t + 1)) = t + 1 by omega] at this)
  have := key.2.1 0 (Nat.zero_le _)
  rw [← hs]
  exact this
end AX

namespace AX
open PySem PySem.Spec PyProof.Rows L2

/-! ## Newton's inequality for how many signs come -/
/-- the core: from the normed sums a, b, c, d of k-2 .. k+1 of n-1 moments to those of n: (N = n - k, K = k) -/
theorem newton_core (N K x y a b c d : Rat) (h1 : a * c ≤ b * b) (h2 : b * d ≤ c * c) (h3 : a * d ≤ b * c) (hb : 0 ≤ b) (hc : 0 ≤ c) (hx : 0 ≤ x) (hy : 0 ≤ y) (hK : 1 ≤ K) (hN : 1 ≤ N) :
    ((N + 1) * y * b + (K - 1) * x * a) * ((N - 1) * y * d + (K + 1) * x * c) ≤ (N * y * c + K * x * b) * (N * y * c + K * x * b) := by
  have e1 : 0 ≤ (N * N - 1) * (y * y) * (c * c - b * d) := by
    refine Rat.mul_nonneg (Rat.mul_nonneg ?_ (Rat.mul_nonneg hy hy)) (by grind)
    have := Rat.mul_nonneg (show 0 ≤ N - 1 by grind) (show 0 ≤ N + 1 by grind)
    grind
  have e2 : 0 ≤ (K * K - 1) * (x * x) * (b * b - a * c) := by
    refine Rat.mul_nonneg (Rat.mul_nonneg ?_ (Rat.mul_nonneg hx hx)) (by grind)
    have := Rat.mul_nonneg (show 0 ≤ K - 1 by grind) (show 0 ≤ K + 1 by grind)
    grind
  have e3 : 0 ≤ (N - 1) * (K - 1) * (x * y) * (b * c - a * d) := by
    refine Rat.mul_nonneg (Rat.mul_nonneg (Rat.mul_nonneg (by grind) (by grind)) (Rat.mul_nonneg hx hy)) (by grind)
  have e4 : 0 ≤ (y * c - x * b) * (y * c - x * b) := by
    by_cases h : 0 ≤ y * c - x * b
    · exact Rat.mul_nonneg h h
    · have := Rat.mul_nonneg (show 0 ≤ -(y * c - x * b) by grind) (show 0 ≤ -(y * c - x * b) by grind)
      grind
  have key : (N * y * c + K * x * b) * (N * y * c + K * x * b) - ((N + 1) * y * b + (K - 1) * x * a) * ((N - 1) * y * d + (K + 1) * x * c) = (N * N - 1) * (y * y) * (c * c - b * d) + (K * K - 1) * (x * x) * (b * b - a * c) + (N - 1) * (K - 1) * (x * y) * (b * c - a * d) + (y * c - x * b) * (y * c - x * b) := by
    grind
  grind
end AX

namespace AX
open PySem PySem.Spec PyProof.Rows L2

/-! ## run lemmas -/
def popV (x : Val) (ys : List Val) (M : Sto) : Option (Val × Sto) := match x, ys with
  | .ob r, [.p (.int i)] => match M[r]? with
    | some xs => match xs[i.toNat]? with
      | some y => if 0 ≤ i ∧ i < 2 ^ 63 then some (.p y, M.set r (xs.eraseIdx i.toNat)) else none
      | none => none
    | none => none
  | _, _ => none
def kPop (fr : AF) (ρ : Rho) (x : Val) (M : Sto) : Option (Val × Sto) := bnd (fr ρ M) (popV x)
@[simp] theorem kPop_run (fr : AF) (ρ : Rho) (x : Val) (M : Sto) : kPop fr ρ x M = bnd (fr ρ M) (popV x) := id rfl
@[simp] theorem ePopI_run (fo : EF) (fr : AF) (ρ : Rho) (M : Sto) : ePopI fo fr ρ M = bnd (fo ρ M) (kPop fr ρ) := id rfl
theorem popV_of {r : Nat} {M : Sto} {xs : List PyData} {i : Nat} {y : PyData} (h : M[r]? = some xs) (hy : xs[i]? = some y) (hi : i < 2 ^ 63) : popV (.ob r) [I (i : Int)] M = some (.p y, M.set r (xs.eraseIdx i)) := by
  have : (0 : Int) ≤ (i : Int) ∧ (i : Int) < 2 ^ 63 := ⟨by omega, by omega⟩
  simp only [popV, h, Int.toNat_natCast, hy, if_pos this]
@[simp] theorem nListM_l (xs : List PyData) (M : Sto) : nListM [.p (.list xs)] M = some (.ob M.length, M ++ [xs]) := id rfl
@[simp] theorem nListM_t (xs : List PyData) (M : Sto) : nListM [.p (.tuple xs)] M = some (.ob M.length, M ++ [xs]) := id rfl
theorem intsOf_map : ∀ ns : List Int, intsOf (ns.map PyData.int) = some ns
  | [] => rfl
  | i :: r => by
    show (intsOf (r.map PyData.int)).map (i :: ·) = _
    rw [intsOf_map r]; rfl
theorem nMax1_i (i : Int) (ns : List Int) (M : Sto) : nMax1 [.p (.list (.int i :: ns.map PyData.int))] M = some (I (mxL ns i), M) := by
  show (intsOf (ns.map PyData.int)).map (fun ns => (Val.p (.int (mxL ns i)), M)) = _
  rw [intsOf_map]; rfl
theorem mxL_iff (k : Int) : ∀ (l : List Int) (m : Int), mxL l m ≤ k ↔ m ≤ k ∧ ∀ i ∈ l, i ≤ k
  | [], m => by simp [mxL]
  | i :: r, m => by
    unfold mxL
    rw [mxL_iff k r, List.forall_mem_cons]
    constructor
    · rintro ⟨a, b⟩
      refine ⟨?_, ?_, b⟩ <;> split at a <;> omega
    · rintro ⟨a, b, c⟩
      refine ⟨?_, c⟩
      split <;> omega

theorem sIx_neg (n d i : Nat) (h0 : 0 < i) (h : i ≤ n) : HT.sIx n d (some (-(i : Int))) = n - i := by
  show (if -(i : Int) < 0 then (-(i : Int) + (n : Int)).toNat else min (-(i : Int)).toNat n) = _
  rw [if_pos (by omega)]
  omega
theorem cut_neg (ds : List PyData) (i : Nat) (h0 : 0 < i) (h : i ≤ ds.length) : cutA ds none (some (-(i : Int))) = ds.take (ds.length - i) := by
  unfold cutA
  rw [sIx_neg _ _ _ h0 h]
  show (ds.drop 0).take (ds.length - i - 0) = _
  rw [List.drop_zero, Nat.sub_zero]
theorem atI_neg {α : Type} (xs : List α) (i : Nat) (h0 : 0 < i) (h : i ≤ xs.length) : atI xs (-(i : Int)) = xs[xs.length - i]? := by
  unfold atI ixN
  rw [if_neg (by omega), if_pos (by omega)]
  have : (-(i : Int) + (xs.length : Int)).toNat = xs.length - i := by omega
  rw [this]
  rfl
theorem bMul_lk (d : PyData) (k : Nat) (hk : k ≤ 1000) (M : Sto) : bMul (.p (.list [d])) (I (k : Int)) M = some (.p (.list (List.replicate k d)), M) := by
  have h : (k : Int) ≤ 1000 ∧ -1000 ≤ (k : Int) ∧ [d].length ≤ 1000 := ⟨by omega, by omega, by simp⟩
  have e : (List.replicate k [d]).flatten = List.replicate k d := by
    induction k with
    | zero => rfl
    | succ k ih => rw [List.replicate_succ, List.flatten_cons, ih (by omega) (by simp; omega)]; rfl
  show (if (k : Int) ≤ 1000 ∧ -1000 ≤ (k : Int) ∧ [d].length ≤ 1000 then some (Val.p (.list (List.replicate (k : Int).toNat [d]).flatten), M) else none) = _
  rw [if_pos h, Int.toNat_natCast, e]
theorem bMulM_lk (d : PyData) (k : Nat) (hk : k ≤ 1000) (M : Sto) : bMulM (.p (.list [d])) (I (k : Int)) M = some (.ob M.length, M ++ [List.replicate k d]) := by
  have h : (k : Int) ≤ 1000 ∧ -1000 ≤ (k : Int) ∧ [d].length ≤ 1000 := ⟨by omega, by omega, by simp⟩
  have e : (List.replicate k [d]).flatten = List.replicate k d := by
    induction k with
    | zero => rfl
    | succ k ih => rw [List.replicate_succ, List.flatten_cons, ih (by omega) (by simp; omega)]; rfl
  show (if (k : Int) ≤ 1000 ∧ -1000 ≤ (k : Int) ∧ [d].length ≤ 1000 then some (Val.ob M.length, M ++ [(List.replicate (k : Int).toNat [d]).flatten]) else none) = _
  rw [if_pos h, Int.toNat_natCast, e]
/-! a store with one or two lists behind -/
theorem one_at (M : Sto) (a : List PyData) : (M ++ [a])[M.length]? = some a := by simp
theorem one_set (M : Sto) (a b : List PyData) : (M ++ [a]).set M.length b = M ++ [b] := by simp
theorem two_at0 (M : Sto) (a b : List PyData) : (M ++ [a, b])[M.length]? = some a := by simp
theorem two_at1 (M : Sto) (a b : List PyData) : (M ++ [a, b])[M.length + 1]? = some b := by simp
theorem two_set0 (M : Sto) (a b c : List PyData) : (M ++ [a, b]).set M.length c = M ++ [c, b] := by simp
theorem two_set1 (M : Sto) (a b c : List PyData) : (M ++ [a, b]).set (M.length + 1) c = M ++ [a, c] := by simp

/-! ## gaps -/
def gpL (c : List Nat) : List Int := (List.range (c.length - 1)).map fun i => ((c.getD (i + 1) 0 : Nat) : Int) - ((c.getD i 0 : Nat) : Int) - 1
def gapI (c : List Nat) : Int := mxL (gpL c) 0
def gOk (m : Nat) (c : List Nat) : Bool := decide (gapI c ≤ (m : Int))
theorem gOk_iff (m : Nat) (c : List Nat) : gOk m c = true ↔ ∀ i ∈ gpL c, i ≤ (m : Int) := by
  unfold gOk gapI
  rw [decide_eq_true_iff, mxL_iff]
  exact ⟨fun h => h.2, fun h => ⟨by omega, h⟩⟩
theorem gpL_snoc (c : List Nat) (l n : Nat) : gpL (c ++ [l] ++ [n]) = gpL (c ++ [l]) ++ [(n : Int) - (l : Int) - 1] := by
  unfold gpL
  have e1 : (c ++ [l] ++ [n]).length - 1 = c.length + 1 := by simp
  have e2 : (c ++ [l]).length - 1 = c.length := by simp
  rw [e1, e2, List.range_succ, List.map_append]
  congr 1
  · refine List.map_congr_left fun i hi => ?_
    have hi := List.mem_range.mp hi
    have a1 : (c ++ [l] ++ [n]).getD (i + 1) 0 = (c ++ [l]).getD (i + 1) 0 := by
      rw [List.getD_eq_getElem?_getD, List.getD_eq_getElem?_getD, List.getElem?_append_left (by simp; omega)]
    have a2 : (c ++ [l] ++ [n]).getD i 0 = (c ++ [l]).getD i 0 := by
      rw [List.getD_eq_getElem?_getD, List.getD_eq_getElem?_getD, List.getElem?_append_left (by simp; omega)]
    rw [a1, a2]
  · have a1 : (c ++ [l] ++ [n]).getD (c.length + 1) 0 = n := by
      rw [List.getD_eq_getElem?_getD, List.getElem?_append_right (by simp)]; simp
    have a2 : (c ++ [l] ++ [n]).getD c.length 0 = l := by
      rw [List.getD_eq_getElem?_getD, List.getElem?_append_left (by simp), List.getElem?_append_right (Nat.le_refl _)]; simp
    simp only [List.map_cons, List.map_nil, a1, a2]
theorem gOk_nil (m : Nat) : gOk m [] = true := (gOk_iff m []).mpr fun i hi => by simp [gpL] at hi
theorem gOk_one (m n : Nat) : gOk m [n] = true := (gOk_iff m [n]).mpr fun i hi => by simp [gpL] at hi
theorem gOk_snoc (m : Nat) (c : List Nat) (l n : Nat) : gOk m (c ++ [l] ++ [n]) = (gOk m (c ++ [l]) && decide ((n : Int) - l - 1 ≤ m)) := by
  rw [Bool.eq_iff_iff, Bool.and_eq_true, gOk_iff, gOk_iff, gpL_snoc, decide_eq_true_iff]
  constructor
  · intro h
    exact ⟨fun i hi => h i (List.mem_append_left _ hi), h _ (by simp)⟩
  · rintro ⟨h1, h2⟩ i hi
    rcases List.mem_append.mp hi with h | h
    · exact h1 i h
    · rw [List.mem_singleton.mp h]; exact h2
theorem gapI_nn (c : List Nat) : 0 ≤ gapI c := (mxL_le (gpL c) 0).1
theorem gapI_lt {c : List Nat} {n : Nat} (h : ∀ a ∈ c, a < n + 1) : gapI c ≤ (n : Int) := by
  unfold gapI
  rw [mxL_iff]
  refine ⟨by omega, fun i hi => ?_⟩
  obtain ⟨k, hk, rfl⟩ := List.mem_map.mp hi
  have hk := List.mem_range.mp hk
  have : c.getD (k + 1) 0 < n + 1 := by
    rw [List.getD_eq_getElem?_getD, List.getElem?_eq_getElem (by omega)]
    exact h _ (List.getElem_mem _)
  omega

/-! ## the walk over the moments: no sign yet, so long since the last one -/
def cls (m n : Nat) (c : List Nat) : Option Nat := c.getLast?.map fun l => min (n - 1 - l) (m + 1)
def gN0 (row : List Rat) : Rat := exC row fun c => if c.isEmpty then 1 else 0
def gS (m : Nat) (row : List Rat) (j : Nat) : Rat := exC row fun c => if gOk m c && (cls m row.length c == some j) then 1 else 0
theorem exC_add (row : List Rat) (G K : List Nat → Rat) : exC row (fun c => G c + K c) = exC row G + exC row K := by
  unfold exC
  rw [← sumQ_add]
  congr 1
  exact List.map_congr_left fun c _ => by grind
theorem exC_zero (row : List Rat) : exC row (fun _ => 0) = 0 := by
  unfold exC
  have : ((crs row).map fun c => c.2 * (0 : Rat)) = (crs row).map fun c => (0 : Rat) * 0 := List.map_congr_left fun c _ => by grind
  rw [this, sumQ_mul (0 : Rat) (fun _ : List Nat × Rat => (0 : Rat))]
  grind
theorem exC_sumr {α : Type} (row : List Rat) (g : α → List Nat → Rat) : ∀ xs : List α, exC row (fun c => sumQ (xs.map fun x => g x c)) = sumQ (xs.map fun x => exC row (g x))
  | [] => exC_zero row
  | x :: xs => by
    show exC row (fun c => g x c + sumQ (xs.map fun x => g x c)) = exC row (g x) + _
    rw [exC_add, exC_sumr row g xs]
theorem cls_sum (b : Bool) (t : Nat) (k : Nat) : sumQ ((List.range k).map fun i => if b && (some t == some i) then (1 : Rat) else 0) = if b && decide (t < k) then 1 else 0 := by
  have e : ((List.range k).map fun i => if b && (some t == some i) then (1 : Rat) else 0) = (List.range k).map fun i => (if t = i then (1 : Rat) else 0) * (if b then 1 else 0) := by
    refine List.map_congr_left fun i _ => ?_
    cases b
    · simp <;> grind
    · by_cases h : t = i
      · simp [h] <;> grind
      · simp [h] <;> grind
  rw [e, sum_delta (fun _ => if b then (1 : Rat) else 0)]
  cases b <;> by_cases h : t < k <;> simp [h]
theorem cls_nosum (b : Bool) (k : Nat) : sumQ ((List.range k).map fun i => if b && ((none : Option Nat) == some i) then (1 : Rat) else 0) = 0 := by
  have e : ((List.range k).map fun i => if b && ((none : Option Nat) == some i) then (1 : Rat) else 0) = (List.range k).map fun i => (0 : Rat) * 0 := by
    refine List.map_congr_left fun i _ => ?_
    cases b <;> simp <;> grind
  rw [e, sumQ_mul (0 : Rat) (fun _ : Nat => (0 : Rat))]
  grind
theorem last_cases (c : List Nat) : c = [] ∨ ∃ d l, c = d ++ [l] := by
  rcases List.eq_nil_or_concat c with h | ⟨d, l, h⟩
  · exact .inl h
  · exact .inr ⟨d, l, by rw [h, List.concat_eq_append]⟩
theorem gN0_snoc (row : List Rat) (p : Rat) : gN0 (row ++ [p]) = (1 - p) * gN0 row := by
  unfold gN0
  rw [exC_snoc]
  have : (fun c : List Nat => if (c ++ [row.length]).isEmpty = true then (1 : Rat) else 0) = fun _ => 0 := funext fun c => by simp
  rw [this, exC_zero]
  grind
theorem gS_all (m : Nat) (row : List Rat) : gN0 row + sumQ ((List.range (m + 2)).map (gS m row)) = exC row fun c => if gOk m c then 1 else 0 := by
  have e : sumQ ((List.range (m + 2)).map (gS m row)) = exC row fun c => sumQ ((List.range (m + 2)).map fun j => if gOk m c && (cls m row.length c == some j) then (1 : Rat) else 0) := (exC_sumr row (fun j c => if gOk m c && (cls m row.length c == some j) then (1 : Rat) else 0) _).symm
  rw [e]
  unfold gN0
  rw [← exC_add]
  refine exC_congr fun c hc => ?_
  rcases last_cases c with rfl | ⟨d, l, rfl⟩
  · have : cls m row.length [] = none := rfl
    rw [this, cls_nosum, gOk_nil]; simp <;> grind
  · have : cls m row.length (d ++ [l]) = some (min (row.length - 1 - l) (m + 1)) := by unfold cls; simp
    rw [this, cls_sum]
    have h : min (row.length - 1 - l) (m + 1) < m + 2 := by omega
    simp [h] <;> grind
theorem gS_new (m : Nat) (row : List Rat) (p : Rat) : gS m (row ++ [p]) 0 = p * (gN0 row + sumQ ((List.range (m + 1)).map (gS m row))) := by
  have e : sumQ ((List.range (m + 1)).map (gS m row)) = exC row fun c => sumQ ((List.range (m + 1)).map fun j => if gOk m c && (cls m row.length c == some j) then (1 : Rat) else 0) := (exC_sumr row (fun j c => if gOk m c && (cls m row.length c == some j) then (1 : Rat) else 0) _).symm
  rw [e]
  unfold gS gN0
  rw [exC_snoc, ← exC_add, List.length_append, List.length_singleton]
  have z : exC row (fun c => if (gOk m c && (cls m (row.length + 1) c == some 0)) = true then (1 : Rat) else 0) = 0 := by
    refine (exC_congr (K := fun _ => 0) fun c hc => ?_).trans (exC_zero row)
    rcases last_cases c with rfl | ⟨d, l, rfl⟩
    · have : cls m (row.length + 1) [] = none := rfl
      rw [this]; simp
    · have : cls m (row.length + 1) (d ++ [l]) = some (min (row.length - l) (m + 1)) := by unfold cls; simp
      have hl : l < row.length := hc.2 l (by simp)
      rw [this]
      have : ¬ min (row.length - l) (m + 1) = 0 := by omega
      simp [this]
  rw [z]
  have y : exC row (fun c => if (gOk m (c ++ [row.length]) && (cls m (row.length + 1) (c ++ [row.length]) == some 0)) = true then (1 : Rat) else 0) = exC row (fun c => (if c.isEmpty = true then (1 : Rat) else 0) + sumQ ((List.range (m + 1)).map fun j => if gOk m c && (cls m row.length c == some j) then (1 : Rat) else 0)) := by
    refine exC_congr fun c hc => ?_
    have c0 : cls m (row.length + 1) (c ++ [row.length]) = some 0 := by unfold cls; simp
    rw [c0]
    rcases last_cases c with rfl | ⟨d, l, rfl⟩
    · have : cls m row.length [] = none := rfl
      rw [this, cls_nosum, List.nil_append, gOk_one]; simp <;> grind
    · have : cls m row.length (d ++ [l]) = some (min (row.length - 1 - l) (m + 1)) := by unfold cls; simp
      have hl : l < row.length := hc.2 l (by simp)
      rw [this, cls_sum, gOk_snoc]
      have h : decide (min (row.length - 1 - l) (m + 1) < m + 1) = decide ((row.length : Int) - l - 1 ≤ m) := by
        rw [decide_eq_decide]; omega
      rw [h]
      simp <;> grind
  rw [y]
  grind
theorem gS_mid (m : Nat) (row : List Rat) (p : Rat) (j : Nat) (hj : j < m) : gS m (row ++ [p]) (j + 1) = (1 - p) * gS m row j := by
  unfold gS
  rw [exC_snoc, List.length_append, List.length_singleton]
  have z : exC row (fun c => if (gOk m (c ++ [row.length]) && (cls m (row.length + 1) (c ++ [row.length]) == some (j + 1))) = true then (1 : Rat) else 0) = 0 := by
    refine (exC_congr (K := fun _ => 0) fun c hc => ?_).trans (exC_zero row)
    have c0 : cls m (row.length + 1) (c ++ [row.length]) = some 0 := by unfold cls; simp
    rw [c0]; simp
  rw [z]
  have y : exC row (fun c => if (gOk m c && (cls m (row.length + 1) c == some (j + 1))) = true then (1 : Rat) else 0) = exC row (fun c => if (gOk m c && (cls m row.length c == some j)) = true then (1 : Rat) else 0) := by
    refine exC_congr fun c hc => ?_
    rcases last_cases c with rfl | ⟨d, l, rfl⟩
    · rfl
    · have h1 : cls m row.length (d ++ [l]) = some (min (row.length - 1 - l) (m + 1)) := by unfold cls; simp
      have h2 : cls m (row.length + 1) (d ++ [l]) = some (min (row.length - l) (m + 1)) := by unfold cls; simp
      have hl : l < row.length := hc.2 l (by simp)
      have h : (min (row.length - l) (m + 1) = j + 1) = (min (row.length - 1 - l) (m + 1) = j) := by
        rw [eq_iff_iff]; omega
      rw [h1, h2]
      simp [h]
  rw [y]
  grind
theorem gS_end (m : Nat) (row : List Rat) (p : Rat) : gS m (row ++ [p]) (m + 1) = (1 - p) * gS m row m + (1 - p) * gS m row (m + 1) := by
  unfold gS
  rw [exC_snoc, List.length_append, List.length_singleton]
  have z : exC row (fun c => if (gOk m (c ++ [row.length]) && (cls m (row.length + 1) (c ++ [row.length]) == some (m + 1))) = true then (1 : Rat) else 0) = 0 := by
    refine (exC_congr (K := fun _ => 0) fun c hc => ?_).trans (exC_zero row)
    have c0 : cls m (row.length + 1) (c ++ [row.length]) = some 0 := by unfold cls; simp
    rw [c0]; simp
  rw [z]
  have y : exC row (fun c => if (gOk m c && (cls m (row.length + 1) c == some (m + 1))) = true then (1 : Rat) else 0) = exC row (fun c => (if (gOk m c && (cls m row.length c == some m)) = true then (1 : Rat) else 0) + (if (gOk m c && (cls m row.length c == some (m + 1))) = true then (1 : Rat) else 0)) := by
    refine exC_congr fun c hc => ?_
    rcases last_cases c with rfl | ⟨d, l, rfl⟩
    · have h1 : ∀ n, cls m n [] = none := fun _ => rfl
      rw [h1, h1]; simp <;> grind
    · have h1 : cls m row.length (d ++ [l]) = some (min (row.length - 1 - l) (m + 1)) := by unfold cls; simp
      have h2 : cls m (row.length + 1) (d ++ [l]) = some (min (row.length - l) (m + 1)) := by unfold cls; simp
      have hl : l < row.length := hc.2 l (by simp)
      rw [h1, h2]
      by_cases g : gOk m (d ++ [l]) = true
      · rw [g]
        by_cases k1 : row.length - 1 - l = m
        · have e1 : min (row.length - 1 - l) (m + 1) = m := by omega
          have e2 : min (row.length - l) (m + 1) = m + 1 := by omega
          rw [e1, e2]; simp <;> grind
        · by_cases k2 : row.length - 1 - l < m
          · have e1 : min (row.length - 1 - l) (m + 1) ≠ m := by omega
            have e2 : min (row.length - 1 - l) (m + 1) ≠ m + 1 := by omega
            have e3 : min (row.length - l) (m + 1) ≠ m + 1 := by omega
            simp [e1, e2, e3] <;> grind
          · have e1 : min (row.length - 1 - l) (m + 1) = m + 1 := by omega
            have e2 : min (row.length - l) (m + 1) = m + 1 := by omega
            rw [e1, e2]; simp <;> grind
      · rw [Bool.not_eq_true] at g
        rw [g]; simp <;> grind
  rw [y, exC_add]
  grind
theorem gS_nil (m j : Nat) : gS m [] j = 0 := by
  unfold gS
  rw [exC_nil]
  have : cls m ([] : List Rat).length [] = none := rfl
  rw [this]; simp
theorem gN0_nil : gN0 [] = 1 := by unfold gN0; rw [exC_nil]; rfl
def gL (m : Nat) (row : List Rat) : List Rat := (List.range (m + 2)).map (gS m row)
theorem gL_len (m : Nat) (row : List Rat) : (gL m row).length = m + 2 := by simp [gL]
theorem gL_nil (m : Nat) : gL m [] = List.replicate (m + 2) 0 := by
  unfold gL
  rw [List.map_congr_left (fun j _ => gS_nil m j), List.map_const', List.length_range]
theorem gL_snoc (m : Nat) (row : List Rat) (p : Rat) : gL m (row ++ [p]) = (p * (gN0 row + sumQ ((gL m row).take (m + 1)))) :: ((((gL m row).map fun x => (1 - p) * x).take m) ++ [(1 - p) * gS m row m + (1 - p) * gS m row (m + 1)]) := by
  have t1 : (gL m row).take (m + 1) = (List.range (m + 1)).map (gS m row) := by
    unfold gL; rw [← List.map_take, List.take_range]; congr 2; omega
  have t2 : ((gL m row).map fun x => (1 - p) * x).take m = (List.range m).map fun j => (1 - p) * gS m row j := by
    unfold gL; rw [List.map_map, ← List.map_take, List.take_range]; congr 2; omega
  rw [t1, t2, ← gS_new]
  unfold gL
  rw [List.range_succ_eq_map, List.map_cons, List.map_map]
  congr 1
  rw [List.range_succ, List.map_append, List.map_singleton]
  congr 1
  · exact List.map_congr_left fun j hj => gS_mid m row p j (List.mem_range.mp hj)
  · show [gS m (row ++ [p]) (m + 1)] = _
    rw [gS_end]
theorem gN0_bd : ∀ (row : List Rat), Rw row → 0 ≤ gN0 row ∧ Bd (dn row) 1 (gN0 row) := fun row h => by
  have e : gN0 row = cf row 0 := by
    unfold gN0
    have := pr_from 0 row 0
    rw [pr_exC, List.drop_zero] at this
    rw [← this]
    refine exC_congr fun c hc => ?_
    have : cntF 0 c = c.length := by unfold cntF; simp
    rw [this]
    cases c <;> simp
  rw [e]
  exact ⟨(cf_unit row h 0).1, cf_bd row h 0⟩
/-! ## sums over the courses that answer -/
theorem exT_eq (row : List Rat) (t : List Nat → Bool) : exC row (fun c => if t c then 1 else 0) = sumQ (((crs row).filter fun c => t c.1).map (·.2)) := (pr_exC row t).symm
theorem sumF_bd {α : Type} {D : Nat} {w : α → Rat} : ∀ {xs : List α} (t : α → Bool), (∀ x ∈ xs, 0 ≤ w x ∧ Bd D 1 (w x)) → 0 ≤ sumQ ((xs.filter t).map w) ∧ sumQ ((xs.filter t).map w) ≤ sumQ (xs.map w)
  | [], t, _ => by simp
  | x :: xs, t, h => by
    have a := sumF_bd (xs := xs) t fun y hy => h y (List.mem_cons_of_mem _ hy)
    have b := (h x (List.mem_cons_self ..)).1
    by_cases hx : t x = true
    · rw [List.filter_cons_of_pos hx, List.map_cons, List.map_cons, sumQ_cons, sumQ_cons]
      grind
    · rw [List.filter_cons_of_neg hx, List.map_cons, sumQ_cons]
      grind
theorem crs_sum (row : List Rat) : sumQ ((crs row).map (·.2)) = 1 := by
  have := exC_len row (fun _ => 1)
  rw [ex_const] at this
  unfold exC at this
  rw [← this]
  congr 1
  exact List.map_congr_left fun c _ => by grind
theorem prT_bd {row : List Rat} (h : Rw row) (t : List Nat → Bool) : Bd (dn row) 1 (sumQ (((crs row).filter fun c => t c.1).map (·.2))) := by
  have a := sumF_bd (D := dn row) (w := fun c : List Nat × Rat => c.2) (xs := crs row) (fun c => t c.1) fun c hc => ⟨crs_nn row h c hc, crs_bd row h c hc⟩
  rw [crs_sum] at a
  have b := sumQ_bd (D := dn row) (c := 1) (qs := ((crs row).filter fun c => t c.1).map (·.2)) fun q hq => by
    obtain ⟨c, hc, rfl⟩ := List.mem_map.mp hq
    exact crs_bd row h c (List.mem_filter.mp hc).1
  exact b.unit a.1 a.2
theorem prT_sub {α : Type} {D : Nat} {w : α → Rat} {xs pre : List α} (hp : pre <+: xs) (h : ∀ x ∈ xs, 0 ≤ w x ∧ Bd D 1 (w x)) (hs : sumQ (xs.map w) ≤ 1) (t : α → Bool) : Bd D 1 (sumQ ((pre.filter t).map w)) := by
  have hm : ∀ x ∈ pre, 0 ≤ w x ∧ Bd D 1 (w x) := fun x hx => h x (hp.subset hx)
  have a := sumF_bd (D := D) (w := w) t hm
  have b := sumQ_bd (D := D) (c := 1) (qs := (pre.filter t).map w) fun q hq => by
    obtain ⟨c, hc, rfl⟩ := List.mem_map.mp hq
    exact (hm c (List.mem_filter.mp hc).1).2
  obtain ⟨z, rfl⟩ := hp
  have c : 0 ≤ sumQ (z.map w) := sumQ_nn fun q hq => by
    obtain ⟨x, hx, rfl⟩ := List.mem_map.mp hq
    exact (h x (List.mem_append_right _ hx)).1
  rw [List.map_append, sumQ_app] at hs
  exact b.unit a.1 (by grind)
theorem bucket_sum {α : Type} (f : α → Nat) (w : α → Rat) (xs : List α) : ∀ k : Nat, sumQ ((List.range k).map fun g => sumQ ((xs.filter fun x => decide (f x = g)).map w)) = sumQ ((xs.filter fun x => decide (f x < k)).map w) := fun k => by
  induction xs with
  | nil =>
    simp only [List.filter_nil, List.map_nil, sumQ_nil]
    induction k with
    | zero => rfl
    | succ k ih => rw [List.range_succ, List.map_append, sumQ_app, ih]; simp <;> grind
  | cons x xs ih =>
    have e : ∀ (t : α → Bool), sumQ (((x :: xs).filter t).map w) = (if t x then w x else 0) + sumQ ((xs.filter t).map w) := fun t => by
      by_cases h : t x = true
      · rw [List.filter_cons_of_pos h]; simp [h]
      · rw [List.filter_cons_of_neg h]; simp [h] <;> grind
    rw [e, List.map_congr_left (fun g _ => e fun x => decide (f x = g)), sumQ_add, ih]
    congr 1
    have := sum_delta (fun _ => w x) k (f x)
    rw [List.map_congr_left (g := fun g => (if decide (f x = g) = true then w x else 0)) (fun g _ => by by_cases h : f x = g <;> simp [h] <;> grind)] at this
    rw [this]
    by_cases h : f x < k <;> simp [h]
end AX

namespace AX
open PySem PySem.Spec PyProof.Rows L2

/-! ## Newton's inequality for how many signs come -/
def fac : Nat → Rat
  | 0 => 1
  | n + 1 => ((n + 1 : Nat) : Rat) * fac n
theorem fac_pos : ∀ n, 0 < fac n
  | 0 => by decide
  | n + 1 => Rat.mul_pos (by exact_mod_cast Nat.succ_pos n) (fac_pos n)
theorem natC_succ (n : Nat) : ((n + 1 : Nat) : Rat) = (n : Rat) + 1 := by exact_mod_cast rfl
/-- the counts, times k! and (n - k)! (the row turned) -/
def nb : List Rat → Nat → Rat
  | [], 0 => 1
  | [], _ + 1 => 0
  | p :: r, 0 => (r.length + 1 : Rat) * (1 - p) * nb r 0
  | p :: r, k + 1 => ((r.length : Rat) - (k : Rat)) * (1 - p) * nb r (k + 1) + ((k : Rat) + 1) * p * nb r k
theorem nb_cons (p : Rat) (r : List Rat) (k : Nat) : nb (p :: r) (k + 1) = ((r.length : Rat) - (k : Rat)) * (1 - p) * nb r (k + 1) + ((k : Rat) + 1) * p * nb r k := rfl
theorem nb_cons0 (p : Rat) (r : List Rat) : nb (p :: r) 0 = (r.length + 1 : Rat) * (1 - p) * nb r 0 := rfl
theorem cfR_zero (r : List Rat) (k : Nat) (h : r.length < k) : cfR r k = 0 := by
  have := cf_zero r.reverse k (by simpa using h)
  unfold cf at this
  rwa [List.reverse_reverse] at this
theorem nb_zero : ∀ (r : List Rat) (k : Nat), r.length < k → nb r k = 0
  | [], k + 1, _ => rfl
  | p :: r, k + 1, h => by
    have h1 : r.length < k := by simpa using h
    unfold nb
    rw [nb_zero r (k + 1) (by omega), nb_zero r k h1]
    grind
theorem nb_eq : ∀ (r : List Rat) (k : Nat), k ≤ r.length → cfR r k * (fac k * fac (r.length - k)) = nb r k
  | [], 0, _ => by simp [cfR, fac, nb]
  | p :: r, 0, _ => by
    have ih := nb_eq r 0 (Nat.zero_le _)
    unfold nb cfR
    rw [← ih]
    have : fac ((p :: r).length - 0) = ((r.length : Rat) + 1) * fac (r.length - 0) := by
      show ((r.length + 1 : Nat) : Rat) * fac r.length = _
      rw [natC_succ, Nat.sub_zero]
    rw [this]
    grind
  | p :: r, k + 1, h => by
    have h1 : k ≤ r.length := by simpa using h
    have ih1 := nb_eq r k h1
    unfold nb cfR
    have e1 : fac (k + 1) = ((k : Rat) + 1) * fac k := by
      show ((k + 1 : Nat) : Rat) * fac k = _
      rw [natC_succ]
    have e2 : (p :: r).length - (k + 1) = r.length - k := by simp
    rw [e2]
    by_cases h2 : k + 1 ≤ r.length
    · have ih2 := nb_eq r (k + 1) h2
      have e3 : fac (r.length - k) = ((r.length : Rat) - k) * fac (r.length - (k + 1)) := by
        obtain ⟨j, hj⟩ : ∃ j, r.length = k + 1 + j := ⟨r.length - (k + 1), by omega⟩
        have a1 : r.length - k = j + 1 := by omega
        have a2 : r.length - (k + 1) = j := by omega
        have a3 : (r.length : Rat) - (k : Rat) = ((j + 1 : Nat) : Rat) := by
          rw [hj]
          have : ((k + 1 + j : Nat) : Rat) = (k : Rat) + ((j + 1 : Nat) : Rat) := by
            rw [← Rat.natCast_add]; congr 1; omega
          rw [this]; grind
        rw [a1, a2, a3]; rfl
      rw [← ih1, ← ih2, e1, e3]
      grind
    · have hk : k = r.length := by omega
      have z := nb_zero r (k + 1) (by omega)
      have z2 := cfR_zero r (k + 1) (by omega)
      rw [z, z2, ← ih1, e1]
      grind
theorem nb_nn : ∀ (r : List Rat), (∀ q ∈ r, 0 ≤ q ∧ q < 1) → ∀ k, 0 ≤ nb r k
  | [], _, 0 => by decide
  | [], _, k + 1 => by show (0 : Rat) ≤ 0; exact Rat.le_refl
  | p :: r, h, 0 => by
    have hp := h p (List.mem_cons_self ..)
    have ih := nb_nn r (fun q hq => h q (List.mem_cons_of_mem _ hq)) 0
    exact Rat.mul_nonneg (Rat.mul_nonneg (by have := natCast_nn r.length; grind) (by grind)) ih
  | p :: r, h, k + 1 => by
    have hp := h p (List.mem_cons_self ..)
    have ih1 := nb_nn r (fun q hq => h q (List.mem_cons_of_mem _ hq)) (k + 1)
    have ih2 := nb_nn r (fun q hq => h q (List.mem_cons_of_mem _ hq)) k
    have a2 : 0 ≤ ((k : Rat) + 1) * p * nb r k := Rat.mul_nonneg (Rat.mul_nonneg (by have := natCast_nn k; grind) hp.1) ih2
    by_cases hk : k ≤ r.length
    · have a1 : 0 ≤ ((r.length : Rat) - (k : Rat)) * (1 - p) * nb r (k + 1) := Rat.mul_nonneg (Rat.mul_nonneg (by have := natCast_le' hk; grind) (by grind)) ih1
      unfold nb
      grind
    · rw [nb_zero (p :: r) (k + 1) (by simp; omega)]
      exact Rat.le_refl
theorem cfR_nn (r : List Rat) (h : ∀ q ∈ r, 0 ≤ q ∧ q < 1) (k : Nat) : 0 ≤ cfR r k := by
  have := (cf_unit r.reverse (fun q hq => by have := h q (by simpa using hq); exact ⟨this.1, Rat.le_of_lt this.2⟩) k).1
  unfold cf at this
  rwa [List.reverse_reverse] at this
theorem cfR_gap : ∀ (r : List Rat), (∀ q ∈ r, 0 ≤ q ∧ q < 1) → ∀ k, cfR r k = 0 → cfR r (k + 1) = 0
  | [], _, 0, h => by simp [cfR] at h
  | [], _, k + 1, _ => rfl
  | p :: r, h, 0, h0 => by
    have hp := h p (List.mem_cons_self ..)
    have hr : ∀ q ∈ r, 0 ≤ q ∧ q < 1 := fun q hq => h q (List.mem_cons_of_mem _ hq)
    unfold cfR at h0
    have c0 : cfR r 0 = 0 := by
      rcases Rat.mul_eq_zero.mp h0 with h | h
      · exact h
      · grind
    have c1 := cfR_gap r hr 0 c0
    unfold cfR
    rw [c0, c1]; grind
  | p :: r, h, k + 1, h0 => by
    have hp := h p (List.mem_cons_self ..)
    have hr : ∀ q ∈ r, 0 ≤ q ∧ q < 1 := fun q hq => h q (List.mem_cons_of_mem _ hq)
    unfold cfR at h0
    have a1 := Rat.mul_nonneg (cfR_nn r hr k) hp.1
    have a2 := Rat.mul_nonneg (cfR_nn r hr (k + 1)) (show 0 ≤ 1 - p by grind)
    have c0 : cfR r (k + 1) = 0 := by
      have : cfR r (k + 1) * (1 - p) = 0 := by grind
      rcases Rat.mul_eq_zero.mp this with h | h
      · exact h
      · grind
    have c1 := cfR_gap r hr (k + 1) c0
    unfold cfR
    rw [c0, c1]; grind
theorem nb_gap (r : List Rat) (h : ∀ q ∈ r, 0 ≤ q ∧ q < 1) (k : Nat) (h0 : nb r k = 0) : nb r (k + 1) = 0 := by
  by_cases hk : k + 1 ≤ r.length
  · have e1 := nb_eq r k (by omega)
    have e2 := nb_eq r (k + 1) hk
    rw [h0] at e1
    have f := Rat.mul_pos (fac_pos k) (fac_pos (r.length - k))
    have c0 : cfR r k = 0 := by
      rcases Rat.mul_eq_zero.mp e1 with h | h
      · exact h
      · rw [h] at f; exact absurd f (by decide)
    rw [← e2, cfR_gap r h k c0]
    grind
  · exact nb_zero r (k + 1) (by omega)
theorem sq_nn (x : Rat) : 0 ≤ x * x := by
  by_cases h : 0 ≤ x
  · exact Rat.mul_nonneg h h
  · have := Rat.mul_nonneg (show 0 ≤ -x by grind) (show 0 ≤ -x by grind)
    grind
theorem far_le {a b c d : Rat} (ha : 0 ≤ a) (hb : 0 ≤ b) (hc : 0 ≤ c) (hd : 0 ≤ d) (h1 : a * c ≤ b * b) (h2 : b * d ≤ c * c) (z1 : b = 0 → c = 0) (z2 : c = 0 → d = 0) : a * d ≤ b * c := by
  by_cases b0 : b = 0
  · have c0 := z1 b0
    have d0 := z2 c0
    rw [b0, c0, d0]; grind
  · by_cases c0 : c = 0
    · have d0 := z2 c0
      rw [c0, d0]; grind
    · have bp : 0 < b := by grind
      have cp : 0 < c := by grind
      have bc := Rat.mul_pos bp cp
      have m1 : a * c * (b * d) ≤ b * b * (b * d) := Rat.mul_le_mul_of_nonneg_right h1 (Rat.mul_nonneg hb hd)
      have m2 : b * b * (b * d) ≤ b * b * (c * c) := Rat.mul_le_mul_of_nonneg_left h2 (Rat.mul_nonneg hb hb)
      have m3 : (a * d) * (b * c) ≤ (b * c) * (b * c) := by grind
      exact Rat.le_of_mul_le_mul_right m3 bc
theorem nb_lc : ∀ (r : List Rat), (∀ q ∈ r, 0 ≤ q ∧ q < 1) → ∀ k, nb r k * nb r (k + 2) ≤ nb r (k + 1) * nb r (k + 1)
  | [], _, k => by
    have : nb ([] : List Rat) (k + 2) = 0 := rfl
    rw [this, Rat.mul_zero]; exact sq_nn _
  | p :: r, h, k => by
    have hp := h p (List.mem_cons_self ..)
    have hr : ∀ q ∈ r, 0 ≤ q ∧ q < 1 := fun q hq => h q (List.mem_cons_of_mem _ hq)
    by_cases hk : k + 1 ≤ r.length
    · have n0 := nb_nn r hr
      have hN : (1 : Rat) ≤ (r.length : Rat) - k := by
        have := natCast_le' hk
        rw [natC_succ] at this
        grind
      have hK : (1 : Rat) ≤ (k : Rat) + 1 := by have := natCast_nn k; grind
      have h2 := nb_lc r hr k
      match k, hk, hN, hK, h2 with
      | 0, hk, hN, hK, h2 =>
        have c := newton_core ((r.length : Rat) - (0 : Nat)) (((0 : Nat) : Rat) + 1) p (1 - p) 0 (nb r 0) (nb r 1) (nb r 2) (by have := sq_nn (nb r 0); grind) h2 (by have := Rat.mul_nonneg (n0 0) (n0 1); grind) (n0 0) (n0 1) hp.1 (by grind) hK hN
        have z0 : ((0 : Nat) : Rat) = 0 := rfl
        have e0 : nb (p :: r) 0 = (r.length + 1 : Rat) * (1 - p) * nb r 0 := rfl
        have e1 : nb (p :: r) 1 = ((r.length : Rat) - ((0 : Nat) : Rat)) * (1 - p) * nb r 1 + (((0 : Nat) : Rat) + 1) * p * nb r 0 := rfl
        have e2 : nb (p :: r) 2 = ((r.length : Rat) - ((1 : Nat) : Rat)) * (1 - p) * nb r 2 + (((1 : Nat) : Rat) + 1) * p * nb r 1 := rfl
        have z1 : ((1 : Nat) : Rat) = 1 := rfl
        rw [z0] at c e1
        rw [z1] at e2
        show nb (p :: r) 0 * nb (p :: r) 2 ≤ nb (p :: r) 1 * nb (p :: r) 1
        rw [e0, e1, e2]
        grind
      | k + 1, hk, hN, hK, h2 =>
        have h1 := nb_lc r hr k
        have h3 := far_le (n0 k) (n0 (k + 1)) (n0 (k + 2)) (n0 (k + 3)) h1 h2 (nb_gap r hr (k + 1)) (nb_gap r hr (k + 2))
        have c := newton_core ((r.length : Rat) - ((k + 1 : Nat) : Rat)) (((k + 1 : Nat) : Rat) + 1) p (1 - p) (nb r k) (nb r (k + 1)) (nb r (k + 2)) (nb r (k + 3)) h1 h2 h3 (n0 (k + 1)) (n0 (k + 2)) hp.1 (by grind) hK hN
        have e0 : nb (p :: r) (k + 1) = ((r.length : Rat) - (k : Rat)) * (1 - p) * nb r (k + 1) + ((k : Rat) + 1) * p * nb r k := rfl
        have e1 : nb (p :: r) (k + 1 + 1) = ((r.length : Rat) - ((k + 1 : Nat) : Rat)) * (1 - p) * nb r (k + 2) + (((k + 1 : Nat) : Rat) + 1) * p * nb r (k + 1) := rfl
        have e2 : nb (p :: r) (k + 1 + 2) = ((r.length : Rat) - ((k + 2 : Nat) : Rat)) * (1 - p) * nb r (k + 3) + (((k + 2 : Nat) : Rat) + 1) * p * nb r (k + 2) := rfl
        have z2 : ((k + 2 : Nat) : Rat) = (k : Rat) + 2 := by rw [natC_succ, natC_succ]; grind
        rw [e0, e1, e2, z2]
        rw [natC_succ] at c ⊢
        grind
    · rw [nb_zero (p :: r) (k + 2) (by simp; omega), Rat.mul_zero]
      exact sq_nn _
/-! ### the room -/
def nRoom (row : List Rat) (k : Nat) : Rat := ((k * (row.length - k) : Nat) : Rat) * (cf row k * cf row k) - (((k + 1) * (row.length - k + 1) : Nat) : Rat) * (cf row (k - 1) * cf row (k + 1))
theorem room_core {n k : Nat} (hk : k + 2 ≤ n) {a0 a1 a2 : Rat} : ((((k + 1) * (n - (k + 1)) : Nat) : Rat) * (a1 * a1) - (((k + 1 + 1) * (n - (k + 1) + 1) : Nat) : Rat) * (a0 * a2)) * ((fac (k + 1) * fac (n - (k + 1))) * (fac (k + 1) * fac (n - (k + 1)))) = (((k + 1) * (n - (k + 1)) : Nat) : Rat) * ((a1 * (fac (k + 1) * fac (n - (k + 1)))) * (a1 * (fac (k + 1) * fac (n - (k + 1)))) - (a0 * (fac k * fac (n - k))) * (a2 * (fac (k + 2) * fac (n - (k + 2))))) := by
  obtain ⟨j, rfl⟩ : ∃ j, n = k + 2 + j := ⟨n - (k + 2), by omega⟩
  have x1 : k + 2 + j - (k + 1) = j + 1 := by omega
  have x2 : k + 2 + j - k = j + 2 := by omega
  have x3 : k + 2 + j - (k + 2) = j := by omega
  rw [x1, x2, x3]
  have f1 : fac (k + 2) = ((k : Rat) + 2) * fac (k + 1) := by
    show ((k + 1 + 1 : Nat) : Rat) * fac (k + 1) = _
    rw [natC_succ, natC_succ]; grind
  have f2 : fac (j + 2) = ((j : Rat) + 2) * fac (j + 1) := by
    show ((j + 1 + 1 : Nat) : Rat) * fac (j + 1) = _
    rw [natC_succ, natC_succ]; grind
  have f3 : fac (k + 1) = ((k : Rat) + 1) * fac k := by
    show ((k + 1 : Nat) : Rat) * fac k = _
    rw [natC_succ]
  have f4 : fac (j + 1) = ((j : Rat) + 1) * fac j := by
    show ((j + 1 : Nat) : Rat) * fac j = _
    rw [natC_succ]
  have n1 : (((k + 1) * (j + 1) : Nat) : Rat) = ((k : Rat) + 1) * ((j : Rat) + 1) := by rw [Rat.natCast_mul, natC_succ, natC_succ]
  have n2 : (((k + 1 + 1) * (j + 1 + 1) : Nat) : Rat) = ((k : Rat) + 2) * ((j : Rat) + 2) := by rw [Rat.natCast_mul, natC_succ, natC_succ, natC_succ, natC_succ]; grind
  rw [n1, n2, f1, f2, f3, f4]
  grind
theorem room_nb {row : List Rat} {k : Nat} (hk : k + 2 ≤ row.length) : nRoom row (k + 1) * ((fac (k + 1) * fac (row.length - (k + 1))) * (fac (k + 1) * fac (row.length - (k + 1)))) = (((k + 1) * (row.length - (k + 1)) : Nat) : Rat) * (nb row.reverse (k + 1) * nb row.reverse (k + 1) - nb row.reverse k * nb row.reverse (k + 2)) := by
  have e := fun j (hj : j ≤ row.length) => nb_eq row.reverse j (by simpa using hj)
  simp only [List.length_reverse] at e
  have c := room_core hk (a0 := cf row k) (a1 := cf row (k + 1)) (a2 := cf row (k + 2))
  have e1 : cf row (k + 1) * (fac (k + 1) * fac (row.length - (k + 1))) = nb row.reverse (k + 1) := e (k + 1) (by omega)
  have e0 : cf row k * (fac k * fac (row.length - k)) = nb row.reverse k := e k (by omega)
  have e2 : cf row (k + 2) * (fac (k + 2) * fac (row.length - (k + 2))) = nb row.reverse (k + 2) := e (k + 2) (by omega)
  rw [e0, e1, e2] at c
  exact c
theorem nRoom_nn {row : List Rat} (h : ∀ q ∈ row, 0 ≤ q ∧ q < 1) {k : Nat} (h1 : 1 ≤ k) (h2 : k < row.length) : 0 ≤ nRoom row k := by
  obtain ⟨k, rfl⟩ : ∃ j, k = j + 1 := ⟨k - 1, by omega⟩
  have e := room_nb (row := row) (k := k) (by omega)
  have f := Rat.mul_pos (fac_pos (k + 1)) (fac_pos (row.length - (k + 1)))
  have ff := Rat.mul_pos f f
  have lc := nb_lc row.reverse (fun q hq => h q (by simpa using hq)) k
  have rhs : 0 ≤ (((k + 1) * (row.length - (k + 1)) : Nat) : Rat) * (nb row.reverse (k + 1) * nb row.reverse (k + 1) - nb row.reverse k * nb row.reverse (k + 2)) := Rat.mul_nonneg (natCast_nn _) (by grind)
  rw [← e] at rhs
  by_cases hz : 0 ≤ nRoom row (k + 1)
  · exact hz
  · have : 0 < (-nRoom row (k + 1)) * ((fac (k + 1) * fac (row.length - (k + 1))) * (fac (k + 1) * fac (row.length - (k + 1)))) := Rat.mul_pos (by grind) ff
    grind
theorem like_step (p : Rat) : ∀ n, ∀ k, k ≤ n → nb (List.replicate (n + 1) p) (k + 1) = ((n : Rat) + 1) * p * nb (List.replicate n p) k ∧ nb (List.replicate (n + 1) p) k = ((n : Rat) + 1) * (1 - p) * nb (List.replicate n p) k
  | 0, k, hk => by
    have : k = 0 := by omega
    subst this
    refine ⟨?_, ?_⟩ <;> simp [nb, List.replicate] <;> grind
  | n + 1, k, hk => by
    have ih := like_step p n
    have lr : (List.replicate (n + 1) p).length = n + 1 := List.length_replicate
    have s1 : nb (List.replicate (n + 1 + 1) p) (k + 1) = (((n + 1 : Nat) : Rat) - (k : Rat)) * (1 - p) * nb (List.replicate (n + 1) p) (k + 1) + ((k : Rat) + 1) * p * nb (List.replicate (n + 1) p) k := by
      rw [List.replicate_succ (n := n + 1), nb_cons, lr]
    refine ⟨?_, ?_⟩
    · rw [s1]
      by_cases h : k ≤ n
      · obtain ⟨a, b⟩ := ih k h
        rw [a, b, natC_succ]; grind
      · have : k = n + 1 := by omega
        subst this
        rw [natC_succ]; grind
    · cases k with
      | zero =>
        rw [List.replicate_succ (n := n + 1), nb_cons0, lr]
      | succ j =>
        obtain ⟨a, b⟩ := ih j (by omega)
        have s2 : nb (List.replicate (n + 1 + 1) p) (j + 1) = (((n + 1 : Nat) : Rat) - (j : Rat)) * (1 - p) * nb (List.replicate (n + 1) p) (j + 1) + ((j : Rat) + 1) * p * nb (List.replicate (n + 1) p) j := by
          rw [List.replicate_succ (n := n + 1), nb_cons, lr]
        rw [s2, a, b, natC_succ]; grind
theorem nb_like (p : Rat) (hp : p < 1) {n k : Nat} (hk : k + 2 ≤ n) : nb (List.replicate n p) k * nb (List.replicate n p) (k + 2) = nb (List.replicate n p) (k + 1) * nb (List.replicate n p) (k + 1) := by
  obtain ⟨n, rfl⟩ : ∃ j, n = j + 1 := ⟨n - 1, by omega⟩
  obtain ⟨a1, a0⟩ := like_step p n k (by omega)
  obtain ⟨b2, b1⟩ := like_step p n (k + 1) (by omega)
  have x : nb (List.replicate (n + 1) p) k * nb (List.replicate (n + 1) p) (k + 2) = (((n : Rat) + 1) * (1 - p) * nb (List.replicate n p) (k + 1)) * (((n : Rat) + 1) * p * nb (List.replicate n p) k) := by
    rw [a0, b2]; grind
  rw [x, ← a1, ← b1]
theorem nRoom_like {row : List Rat} {p : Rat} (hp : p < 1) {n : Nat} (hr : row = List.replicate n p) {k : Nat} (h1 : 1 ≤ k) (h2 : k < row.length) : nRoom row k = 0 := by
  obtain ⟨k, rfl⟩ : ∃ j, k = j + 1 := ⟨k - 1, by omega⟩
  have e := room_nb (row := row) (k := k) (by omega)
  have f := Rat.mul_pos (fac_pos (k + 1)) (fac_pos (row.length - (k + 1)))
  have ff := Rat.mul_pos f f
  have rv : row.reverse = List.replicate n p := by rw [hr, List.reverse_replicate]
  have hn : k + 2 ≤ n := by rw [hr, List.length_replicate] at h2; omega
  rw [rv, nb_like p hp hn] at e
  have : nRoom row (k + 1) * ((fac (k + 1) * fac (row.length - (k + 1))) * (fac (k + 1) * fac (row.length - (k + 1)))) = 0 := by rw [e]; grind
  rcases Rat.mul_eq_zero.mp this with h | h
  · exact h
  · rw [h] at ff; exact absurd ff (by decide)
/-! ### rising and then falling -/
theorem cf_lc {row : List Rat} (h : ∀ q ∈ row, 0 ≤ q ∧ q < 1) {k : Nat} (hk : k + 2 ≤ row.length) : cf row k * cf row (k + 2) ≤ cf row (k + 1) * cf row (k + 1) := by
  have r := nRoom_nn h (k := k + 1) (by omega) (by omega)
  unfold nRoom at r
  have e : (((k + 1 + 1) * (row.length - (k + 1) + 1) : Nat) : Rat) = (((k + 1) * (row.length - (k + 1)) : Nat) : Rat) + ((k + 1 + (row.length - (k + 1)) + 1 : Nat) : Rat) := by
    rw [← Rat.natCast_add]
    congr 1
    generalize row.length - (k + 1) = j
    rw [Nat.add_mul, Nat.mul_add, Nat.one_mul]; omega
  have hr : Rw row := fun q hq => ⟨(h q hq).1, Rat.le_of_lt (h q hq).2⟩
  have x : 0 ≤ cf row k * cf row (k + 2) := Rat.mul_nonneg (cf_unit row hr k).1 (cf_unit row hr (k + 2)).1
  have y := Rat.mul_nonneg (natCast_nn (k + 1 + (row.length - (k + 1)) + 1)) x
  have k0 : k + 1 - 1 = k := by omega
  have k2 : k + 1 + 1 = k + 2 := by omega
  rw [k0, k2] at r
  rw [k2] at e
  rw [e] at r
  have pos : 0 < (((k + 1) * (row.length - (k + 1)) : Nat) : Rat) := by
    have : 0 < (k + 1) * (row.length - (k + 1)) := Nat.mul_pos (by omega) (by omega)
    exact_mod_cast this
  generalize (((k + 1) * (row.length - (k + 1)) : Nat) : Rat) = A at *
  generalize ((k + 1 + (row.length - (k + 1)) + 1 : Nat) : Rat) = C at *
  have m : A * (cf row k * cf row (k + 2)) ≤ A * (cf row (k + 1) * cf row (k + 1)) := by grind
  exact Rat.le_of_mul_le_mul_left m pos
theorem cf_falls {row : List Rat} (h : ∀ q ∈ row, 0 ≤ q ∧ q < 1) {i : Nat} (hf : cf row (i + 1) < cf row i) : ∀ d, i + d < row.length → cf row (i + d + 1) ≤ cf row (i + d)
  | 0, _ => Rat.le_of_lt hf
  | d + 1, hd => by
    have ih := cf_falls h hf d (by omega)
    have lc := cf_lc h (k := i + d) (by omega)
    have hr : Rw row := fun q hq => ⟨(h q hq).1, Rat.le_of_lt (h q hq).2⟩
    have n1 := (cf_unit row hr (i + d + 1)).1
    have n2 := (cf_unit row hr (i + d + 2)).1
    show cf row (i + d + 2) ≤ cf row (i + d + 1)
    by_cases z : cf row (i + d + 1) = 0
    · have := cfR_gap row.reverse (fun q hq => h q (by simpa using hq)) (i + d + 1) z
      have z2 : cf row (i + d + 2) = 0 := this
      rw [z, z2]; exact Rat.le_refl
    · have p : 0 < cf row (i + d + 1) := by grind
      have m : cf row (i + d + 1) * cf row (i + d + 2) ≤ cf row (i + d) * cf row (i + d + 2) := Rat.mul_le_mul_of_nonneg_right ih n2
      have m2 : cf row (i + d + 1) * cf row (i + d + 2) ≤ cf row (i + d + 1) * cf row (i + d + 1) := Rat.le_trans m lc
      exact Rat.le_of_mul_le_mul_left m2 p
theorem cf_rises {row : List Rat} (h : ∀ q ∈ row, 0 ≤ q ∧ q < 1) {i j : Nat} (hij : i < j) (hj : j < row.length) (hf : cf row (i + 1) < cf row i) : ¬ cf row j < cf row (j + 1) := fun g => by
  obtain ⟨d, rfl⟩ : ∃ d, j = i + d := ⟨j - i, by omega⟩
  have := cf_falls h hf d hj
  grind
/-! ### truth values in a list -/
theorem bIn_bools (bs : List Bool) (M : Sto) : bIn (B true) (.p (.list (bs.map PyData.bool))) M = some (B (bs.any id), M) := by
  have s := shp_bools bs
  have a : (bs.map PyData.bool).any (fun y => PyData.eqv y (.bool true)) = bs.any id := by
    rw [List.any_map]
    congr 1
    funext b
    cases b <;> rfl
  show (if shp (.bool true) && shp (.list (bs.map PyData.bool)) then some (B ((bs.map PyData.bool).any fun y => PyData.eqv y (.bool true)), M) else none) = _
  rw [s, a]
  rfl
end AX

namespace AX
open PySem PySem.Spec PyProof.Rows L2

/-! ## the moments in another order; the spread -/
theorem cfR_swap (p q : Rat) (r : List Rat) : ∀ k, cfR (p :: q :: r) k = cfR (q :: p :: r) k
  | 0 => by simp only [cfR]; grind
  | 1 => by simp only [cfR]; grind
  | k + 2 => by simp only [cfR]; grind
theorem cfR_cons_congr {a b : List Rat} (h : ∀ k, cfR a k = cfR b k) (p : Rat) : ∀ k, cfR (p :: a) k = cfR (p :: b) k
  | 0 => by simp only [cfR]; rw [h]
  | k + 1 => by simp only [cfR]; rw [h, h]
theorem cfR_perm {a b : List Rat} (h : a.Perm b) : ∀ k, cfR a k = cfR b k := by
  induction h with
  | nil => exact fun _ => rfl
  | cons x _ ih => exact cfR_cons_congr ih x
  | swap x y l => exact cfR_swap y x l
  | trans _ _ h1 h2 => exact fun k => (h1 k).trans (h2 k)
theorem cf_perm {a b : List Rat} (h : a.Perm b) (k : Nat) : cf a k = cf b k := by
  unfold cf
  exact cfR_perm ((List.reverse_perm a).trans (h.trans (List.reverse_perm b).symm)) k
theorem cntL_perm {a b : List Rat} (h : a.Perm b) : cntL a = cntL b := by
  unfold cntL
  rw [h.length_eq]
  exact List.map_congr_left fun k _ => cf_perm h k
theorem ex_zip (row : List Rat) (g : Nat → Rat) : sumQ ((cntL row).zipIdx.map fun x : Rat × Nat => g x.2 * x.1) = ex row g := by
  rw [ex_eq]
  congr 1
  apply List.ext_getElem?
  intro i
  rw [List.getElem?_map, List.getElem?_zipIdx, List.getElem?_map]
  unfold cntL
  rw [List.getElem?_map]
  cases h : (List.range (row.length + 1))[i]? with
  | none => rfl
  | some k =>
    obtain ⟨h1, h2⟩ := List.getElem?_eq_some_iff.mp h
    rw [List.getElem_range] at h2
    subst h2
    simp [Rat.mul_comm]
def sprd (row : List Rat) : Rat := sumQ (row.map fun p => p * (1 - p))
theorem ex_sq : ∀ row : List Rat, ex row (fun k => ((k * k : Nat) : Rat)) = sumQ row * sumQ row + sprd row := fun row => by
  induction row using snocRec with
  | h0 => show ((0 * 0 : Nat) : Rat) = (0 : Rat) * 0 + 0; decide +kernel
  | hs row p ih =>
    rw [ex_snoc, ih]
    have e : ex row (fun k => (((k + 1) * (k + 1) : Nat) : Rat)) = ex row (fun k => ((k * k : Nat) : Rat)) + (ex row (fun k => (k : Rat)) * 2 + 1) := by
      rw [← ex_mul, ← ex_const row 1, ← ex_add, ← ex_add]
      refine ex_congr fun k _ => ?_
      rw [Rat.natCast_mul, Rat.natCast_mul, natC_succ]
      grind
    rw [e, ih, ex_id]
    unfold sprd
    rw [List.map_append, sumQ_app, sumQ_app]
    simp only [List.map_cons, List.map_nil, sumQ_cons, sumQ_nil]
    grind
theorem erase_perm {α : Type} : ∀ {l : List α} {i : Nat} (h : i < l.length), (l[i] :: l.eraseIdx i).Perm l
  | x :: l, 0, _ => .refl _
  | x :: l, i + 1, h => by
    have h2 : i < l.length := by simpa using h
    have ih := erase_perm h2
    show (l[i]'h2 :: x :: l.eraseIdx i).Perm (x :: l)
    exact (List.Perm.swap _ _ _).trans (ih.cons x)
end AX

namespace AX
open PySem PySem.Spec PyProof.Rows L2

/-! ## chances rising -/
def srtQ (qs : List Rat) : List Rat := qs.mergeSort fun a b => decide (a ≤ b)
theorem srtQ_perm (qs : List Rat) : (srtQ qs).Perm qs := List.mergeSort_perm _ _
theorem srtQ_sorted (qs : List Rat) : (srtQ qs).Pairwise (· ≤ ·) := by
  have := List.pairwise_mergeSort (le := fun a b : Rat => decide (a ≤ b)) (fun a b c h1 h2 => decide_eq_true (Rat.le_trans (of_decide_eq_true h1) (of_decide_eq_true h2))) (fun a b => by
    rcases Rat.le_total (a := a) (b := b) with h | h
    · rw [Bool.or_eq_true]; exact .inl (decide_eq_true h)
    · rw [Bool.or_eq_true]; exact .inr (decide_eq_true h)) qs
  exact this.imp fun h => of_decide_eq_true h
theorem srtQ_uniq {l qs : List Rat} (hp : l.Perm qs) (hs : l.Pairwise (· ≤ ·)) : l = srtQ qs :=
  List.Perm.eq_of_pairwise (le := fun a b : Rat => a ≤ b) (fun a b _ _ h1 h2 => Rat.le_antisymm h1 h2) hs (srtQ_sorted qs) (hp.trans (srtQ_perm qs).symm)
/-- as many as are not greater stand ahead -/
def notLess (p : Rat) (l : List Rat) : Nat := (l.filter fun o => !decide (p < o)).length
theorem notLess_take {p : Rat} : ∀ {l : List Rat}, l.Pairwise (· ≤ ·) → (∀ o ∈ l.take (notLess p l), o ≤ p) ∧ (∀ o ∈ l.drop (notLess p l), p ≤ o)
  | [], _ => by simp
  | x :: l, h => by
    obtain ⟨h1, h2⟩ := List.pairwise_cons.mp h
    by_cases hx : p < x
    · have z : notLess p (x :: l) = 0 := by
        unfold notLess
        rw [List.filter_eq_nil_iff.mpr fun o ho => ?_]
        · rfl
        · rcases List.mem_cons.mp ho with rfl | ho
          · simp [hx]
          · have := h1 o ho
            have : p < o := by grind
            simp [this]
      rw [z]
      refine ⟨by simp, fun o ho => ?_⟩
      rcases List.mem_cons.mp (by simpa using ho) with rfl | ho
      · exact Rat.le_of_lt hx
      · have := h1 o ho
        grind
    · have s : notLess p (x :: l) = notLess p l + 1 := by
        unfold notLess
        rw [List.filter_cons_of_pos (by simp [hx])]
        rfl
      obtain ⟨i1, i2⟩ := notLess_take (p := p) h2
      rw [s]
      refine ⟨fun o ho => ?_, fun o ho => i2 o (by simpa using ho)⟩
      rw [List.take_succ_cons] at ho
      rcases List.mem_cons.mp ho with rfl | ho
      · grind
      · exact i1 o ho
theorem ins_srt {l pre : List Rat} {p : Rat} (hl : l = srtQ pre) : l.take (notLess p l) ++ [p] ++ l.drop (notLess p l) = srtQ (pre ++ [p]) := by
  have hs : l.Pairwise (· ≤ ·) := by rw [hl]; exact srtQ_sorted pre
  have hp : l.Perm pre := by rw [hl]; exact srtQ_perm pre
  obtain ⟨t1, t2⟩ := notLess_take (p := p) hs
  have e : l = l.take (notLess p l) ++ l.drop (notLess p l) := (List.take_append_drop _ _).symm
  refine srtQ_uniq ?_ ?_
  · have : (l.take (notLess p l) ++ [p] ++ l.drop (notLess p l)).Perm (p :: l) := by
      rw [List.append_assoc]
      conv => rhs; rw [e]
      exact List.perm_middle
    refine this.trans ((hp.cons p).trans ?_)
    exact (List.perm_append_singleton p pre).symm
  · rw [List.append_assoc]
    have s2 : (l.take (notLess p l) ++ l.drop (notLess p l)).Pairwise (· ≤ ·) := by rw [← e]; exact hs
    obtain ⟨a1, a2, a3⟩ := List.pairwise_append.mp s2
    refine List.pairwise_append.mpr ⟨a1, ?_, ?_⟩
    · exact List.pairwise_cons.mpr ⟨t2, a2⟩
    · intro a ha b hb
      rcases List.mem_cons.mp hb with rfl | hb
      · exact t1 a ha
      · exact a3 a ha b hb
/-! by ranks -/
def rnk (p : Rat) (qs : List Rat) : Nat := (qs.filter fun q => decide (q < p)).length
theorem rnk_mono {p q : Rat} (h : p < q) : ∀ {qs : List Rat}, p ∈ qs → rnk p qs < rnk q qs := fun {qs} hm => by
  have le : ∀ l : List Rat, rnk p l ≤ rnk q l := fun l => by
    induction l with
    | nil => exact Nat.le_refl _
    | cons x l ih =>
      unfold rnk at *
      by_cases h1 : x < p
      · have h2 : x < q := by grind
        rw [List.filter_cons_of_pos (by simp [h1]), List.filter_cons_of_pos (by simp [h2])]
        simp only [List.length_cons]; omega
      · rw [List.filter_cons_of_neg (by simp [h1])]
        by_cases h2 : x < q
        · rw [List.filter_cons_of_pos (by simp [h2])]; simp only [List.length_cons]; omega
        · rw [List.filter_cons_of_neg (by simp [h2])]; exact ih
  induction qs with
  | nil => cases hm
  | cons x l ih =>
    rcases List.mem_cons.mp hm with rfl | hm
    · have h0 : ¬ p < p := Rat.lt_irrefl
      have := le l
      unfold rnk at *
      rw [List.filter_cons_of_neg (by simp [h0]), List.filter_cons_of_pos (by simp [h])]
      simp only [List.length_cons]; omega
    · have := ih hm
      unfold rnk at *
      by_cases h1 : x < p
      · have h2 : x < q := by grind
        rw [List.filter_cons_of_pos (by simp [h1]), List.filter_cons_of_pos (by simp [h2])]
        simp only [List.length_cons]; omega
      · rw [List.filter_cons_of_neg (by simp [h1])]
        by_cases h2 : x < q
        · rw [List.filter_cons_of_pos (by simp [h2])]; simp only [List.length_cons]; omega
        · rw [List.filter_cons_of_neg (by simp [h2])]; exact this
def rkP (qs : List Rat) : List (Int × Int) := qs.zipIdx.map fun x => (((rnk x.1 qs : Nat) : Int), ((x.2 : Nat) : Int))
theorem rkP_mem {qs : List Rat} {z : Int × Int} (h : z ∈ rkP qs) : ∃ m : Nat, ∃ hm : m < qs.length, z = (((rnk qs[m] qs : Nat) : Int), ((m : Nat) : Int)) := by
  obtain ⟨x, hx, rfl⟩ := List.mem_map.mp h
  have h1 : x.2 < qs.length := List.snd_lt_of_mem_zipIdx hx
  have h2 := List.mem_zipIdx' hx
  exact ⟨x.2, h1, by rw [← h2.2]⟩
theorem risen_srt (qs : List Rat) : ((srtP (rkP qs)).map fun z => qs.getD z.2.toNat 0) = srtQ qs := by
  refine srtQ_uniq ?_ ?_
  · refine ((srtP_perm (rkP qs)).map _).trans ?_
    unfold rkP
    rw [List.map_map]
    have : (qs.zipIdx.map ((fun z : Int × Int => qs.getD z.2.toNat 0) ∘ fun x : Rat × Nat => (((rnk x.1 qs : Nat) : Int), ((x.2 : Nat) : Int)))) = qs := by
      apply List.ext_getElem?
      intro i
      rw [List.getElem?_map, List.getElem?_zipIdx]
      cases h : qs[i]? with
      | none => rfl
      | some q => simp [h]
    rw [this]
  · refine List.pairwise_map.mpr ?_
    have s := srtP_sorted (rkP qs)
    refine List.Pairwise.imp_of_mem (fun {a b} ha hb hab => ?_) s
    obtain ⟨m, hm, rfl⟩ := rkP_mem ((srtP_perm _).mem_iff.mp ha)
    obtain ⟨k, hk, rfl⟩ := rkP_mem ((srtP_perm _).mem_iff.mp hb)
    rw [leP_iff] at hab
    simp only at hab
    have g1 : qs.getD ((m : Nat) : Int).toNat 0 = qs[m] := by
      rw [Int.toNat_natCast, List.getD_eq_getElem?_getD, List.getElem?_eq_getElem hm]; rfl
    have g2 : qs.getD ((k : Nat) : Int).toNat 0 = qs[k] := by
      rw [Int.toNat_natCast, List.getD_eq_getElem?_getD, List.getElem?_eq_getElem hk]; rfl
    show qs.getD ((m : Nat) : Int).toNat 0 ≤ qs.getD ((k : Nat) : Int).toNat 0
    rw [g1, g2]
    by_cases hlt : qs[k] < qs[m]
    · have := rnk_mono hlt (List.getElem_mem hk)
      omega
    · grind
theorem sumQ_rev : ∀ l : List Rat, sumQ l.reverse = sumQ l
  | [] => rfl
  | x :: l => by rw [List.reverse_cons, sumQ_app, sumQ_rev l]; simp <;> grind
/-- going down, the last one that answers is the least -/
def lastO (P : Nat → Bool) (l : List Nat) : Option Nat := l.foldl (fun d s => if P s then some s else d) none
theorem lastO_snoc (P : Nat → Bool) (l : List Nat) (s : Nat) : lastO P (l ++ [s]) = if P s then some s else lastO P l := by
  unfold lastO
  rw [List.foldl_append]; rfl
theorem lastO_find (P : Nat → Bool) (l : List Nat) : lastO P l = l.reverse.find? P := by
  induction l using snocRec with
  | h0 => rfl
  | hs l s ih =>
    rw [lastO_snoc, List.reverse_append, List.reverse_singleton, List.singleton_append, List.find?_cons, ih]
    cases P s <;> rfl
theorem lastI_find (P : Nat → Bool) (l : List Nat) : lastI P l = (l.reverse.find? P).getD 0 := by
  induction l using snocRec with
  | h0 => rfl
  | hs l s ih =>
    rw [lastI_snoc, List.reverse_append, List.reverse_singleton, List.singleton_append, List.find?_cons, ih]
    cases P s <;> rfl
end AX

namespace AX
open PySem PySem.Spec PyProof.Rows L2

/-! ## bent worths, chances evened -/
theorem ex_perm {a b : List Rat} (h : a.Perm b) (g : Nat → Rat) : ex a g = ex b g := by
  rw [ex_eq, ex_eq, h.length_eq]
  congr 1
  exact List.map_congr_left fun k _ => by rw [cf_perm h]
theorem ex_cons (p : Rat) (r : List Rat) (g : Nat → Rat) : ex (p :: r) g = ex r g * (1 - p) + ex r (fun k => g (k + 1)) * p := by
  have := ex_insert [] p r g
  simpa using this
def Cvx (g : Nat → Rat) (n : Nat) : Prop := ∀ k, k + 2 ≤ n → 2 * g (k + 1) ≤ g k + g (k + 2)
theorem ex_two (p q : Rat) (r : List Rat) (g : Nat → Rat) : ex (p :: q :: r) g = ex r g + (p + q) * (ex r (fun k => g (k + 1)) - ex r g) + p * q * ex r (fun k => g k + (g (k + 2) + g (k + 1) * (-2))) := by
  rw [ex_cons, ex_cons, ex_cons, ex_add, ex_add, ex_mul]
  grind
theorem even_le {p q p' q' : Rat} {r : List Rat} {g : Nat → Rat} (hr : Rw r) (hg : Cvx g (r.length + 2)) (hs : p + q = p' + q') (hp : p * q ≤ p' * q') : ex (p :: q :: r) g ≤ ex (p' :: q' :: r) g := by
  have d : 0 ≤ ex r (fun k => g k + (g (k + 2) + g (k + 1) * (-2))) := by
    have := ex_mono hr (g := fun _ => 0) (h := fun k => g k + (g (k + 2) + g (k + 1) * (-2))) fun k hk => by
      have := hg k (by omega)
      grind
    rwa [ex_const] at this
  rw [ex_two, ex_two, hs]
  have m := Rat.mul_le_mul_of_nonneg_right hp d
  grind
theorem sumQ_permR {a b : List Rat} (h : a.Perm b) : sumQ a = sumQ b := by
  induction h with
  | nil => rfl
  | cons x _ ih => rw [sumQ_cons, sumQ_cons, ih]
  | swap x y l => simp only [sumQ_cons]; grind
  | trans _ _ h1 h2 => exact h1.trans h2
theorem all_mean_ge {μ : Rat} : ∀ {r : List Rat}, (∀ x ∈ r, μ ≤ x) → (r.length : Rat) * μ ≤ sumQ r ∧ (sumQ r = (r.length : Rat) * μ → ∀ x ∈ r, x = μ)
  | [], _ => ⟨by show (0 : Rat) * μ ≤ 0; rw [Rat.zero_mul]; exact Rat.le_refl, fun _ x hx => by cases hx⟩
  | x :: r, h => by
    obtain ⟨a, b⟩ := all_mean_ge (r := r) fun y hy => h y (List.mem_cons_of_mem _ hy)
    have hx := h x (List.mem_cons_self ..)
    have e : ((x :: r).length : Rat) = (r.length : Rat) + 1 := natC_succ r.length
    rw [e, sumQ_cons]
    refine ⟨by grind, fun hs y hy => ?_⟩
    rcases List.mem_cons.mp hy with rfl | hy
    · grind
    · exact b (by grind) y hy
theorem all_mean_le {μ : Rat} : ∀ {r : List Rat}, (∀ x ∈ r, x ≤ μ) → sumQ r ≤ (r.length : Rat) * μ ∧ (sumQ r = (r.length : Rat) * μ → ∀ x ∈ r, x = μ)
  | [], _ => ⟨by show (0 : Rat) ≤ 0 * μ; rw [Rat.zero_mul]; exact Rat.le_refl, fun _ x hx => by cases hx⟩
  | x :: r, h => by
    obtain ⟨a, b⟩ := all_mean_le (r := r) fun y hy => h y (List.mem_cons_of_mem _ hy)
    have hx := h x (List.mem_cons_self ..)
    have e : ((x :: r).length : Rat) = (r.length : Rat) + 1 := natC_succ r.length
    rw [e, sumQ_cons]
    refine ⟨by grind, fun hs y hy => ?_⟩
    rcases List.mem_cons.mp hy with rfl | hy
    · grind
    · exact b (by grind) y hy
theorem alike_most {g : Nat → Rat} {μ : Rat} (m0 : 0 ≤ μ) (m1 : μ ≤ 1) : ∀ (n : Nat) (r C : List Rat), r.length = n → sumQ r = (n : Rat) * μ → Rw r → Rw C → Cvx g (n + C.length) → ex (r ++ C) g ≤ ex (List.replicate n μ ++ C) g
  | 0, r, C, hl, _, _, _, _ => by
    have : r = [] := List.eq_nil_of_length_eq_zero hl
    rw [this]; exact Rat.le_refl
  | 1, r, C, hl, hs, _, _, _ => by
    obtain ⟨x, rfl⟩ := List.length_eq_one_iff.mp hl
    have : x = μ := by
      have e : ((1 : Nat) : Rat) = 1 := rfl
      rw [e] at hs
      simp only [sumQ_cons, sumQ_nil] at hs
      grind
    rw [this]; exact Rat.le_refl
  | n + 2, r, C, hl, hs, hr, hC, hg => by
    have hs' : sumQ r = (r.length : Rat) * μ := by rw [hl]; exact hs
    by_cases h1 : ∀ x ∈ r, μ ≤ x
    · have e := (all_mean_ge h1).2 hs'
      rw [List.eq_replicate_iff.mpr ⟨hl, e⟩]; exact Rat.le_refl
    · by_cases h2 : ∀ x ∈ r, x ≤ μ
      · have e := (all_mean_le h2).2 hs'
        rw [List.eq_replicate_iff.mpr ⟨hl, e⟩]; exact Rat.le_refl
      · obtain ⟨p, hp, hpm⟩ : ∃ p ∈ r, p < μ := by
          refine Classical.byContradiction fun hc => h1 fun x hx => ?_
          by_cases hlt : x < μ
          · exact absurd ⟨x, hx, hlt⟩ hc
          · grind
        obtain ⟨q, hq, hqm⟩ : ∃ q ∈ r, μ < q := by
          refine Classical.byContradiction fun hc => h2 fun x hx => ?_
          by_cases hlt : μ < x
          · exact absurd ⟨x, hx, hlt⟩ hc
          · grind
        have pq : q ≠ p := fun e => by rw [e] at hqm; grind
        have P1 := List.perm_cons_erase hp
        have hq2 : q ∈ r.erase p := (List.mem_erase_of_ne pq).mpr hq
        have P2 := List.perm_cons_erase hq2
        have P : r.Perm (p :: q :: (r.erase p).erase q) := P1.trans (P2.cons p)
        obtain ⟨r', hr'⟩ : ∃ r', r' = (r.erase p).erase q := ⟨_, rfl⟩
        rw [← hr'] at P
        have lr : r'.length = n := by have := P.length_eq; simp at this; omega
        have rr : Rw r' := fun x hx => hr x (P.mem_iff.mpr (List.mem_cons_of_mem _ (List.mem_cons_of_mem _ hx)))
        have hpu := hr p hp
        have hqu := hr q hq
        have sr : sumQ r = p + (q + sumQ r') := by
          have := sumQ_permR P
          rw [this]; rfl
        have step := even_le (p := p) (q := q) (p' := μ) (q' := p + q - μ) (r := r' ++ C) (g := g) (fun x hx => by
          rcases List.mem_append.mp hx with h | h
          · exact rr x h
          · exact hC x h) (by rw [List.length_append, lr]; rw [show n + C.length + 2 = n + 2 + C.length by omega]; exact hg) (by grind) (by
          have := Rat.mul_nonneg (show 0 ≤ μ - p by grind) (show 0 ≤ q - μ by grind)
          grind)
        have ih := alike_most m0 m1 (n + 1) ((p + q - μ) :: r') (μ :: C) (by simp [lr]) (by
          rw [natC_succ, natC_succ] at hs
          rw [natC_succ, sumQ_cons]
          grind) (fun x hx => by
          rcases List.mem_cons.mp hx with rfl | h
          · exact ⟨by grind, by grind⟩
          · exact rr x h) (fun x hx => by
          rcases List.mem_cons.mp hx with rfl | h
          · exact ⟨m0, m1⟩
          · exact hC x h) (by rw [List.length_cons, show n + 1 + (C.length + 1) = n + 2 + C.length by omega]; exact hg)
        have e1 : ex (r ++ C) g = ex (p :: q :: (r' ++ C)) g := ex_perm (P.append_right C) g
        have e2 : ex (μ :: (p + q - μ) :: (r' ++ C)) g = ex ((p + q - μ) :: r' ++ μ :: C) g := by
          refine ex_perm ?_ g
          exact (List.perm_middle (a := μ) (l₁ := (p + q - μ) :: r') (l₂ := C)).symm
        have e3 : ex (List.replicate (n + 1) μ ++ μ :: C) g = ex (List.replicate (n + 2) μ ++ C) g := by
          refine ex_perm ?_ g
          rw [List.replicate_succ (n := n + 1)]
          exact List.perm_middle
        rw [e1]
        rw [e2] at step
        rw [e3] at ih
        exact Rat.le_trans step ih
/-! two places put otherwise -/
theorem two_places {α : Type} {l : List α} {i j : Nat} (hi : i < l.length) (hj : j < l.length) (h : i ≠ j) : ∃ rest : List α, rest.length + 2 = l.length ∧ ∀ a b, ((l.set i a).set j b).Perm (b :: a :: rest) := by
  obtain ⟨i', hi', e⟩ : ∃ i', i' < (l.eraseIdx j).length ∧ ∀ a, (l.set i a).eraseIdx j = (l.eraseIdx j).set i' a := by
    have ll : (l.eraseIdx j).length = l.length - 1 := by rw [List.length_eraseIdx, if_pos hj]
    by_cases hlt : i < j
    · exact ⟨i, by omega, fun a => List.eraseIdx_set_gt hlt⟩
    · exact ⟨i - 1, by omega, fun a => List.eraseIdx_set_lt (by omega)⟩
  refine ⟨(l.eraseIdx j).eraseIdx i', ?_, fun a b => ?_⟩
  · rw [List.length_eraseIdx, if_pos hi', List.length_eraseIdx, if_pos hj]
    rw [List.length_eraseIdx, if_pos hj] at hi'
    omega
  · have p1 := erase_perm (l := (l.set i a).set j b) (i := j) (by simpa using hj)
    rw [List.eraseIdx_set_eq, e] at p1
    have g1 : ((l.set i a).set j b)[j]'(by simpa using hj) = b := by simp
    rw [g1] at p1
    have p2 := erase_perm (l := (l.eraseIdx j).set i' a) (i := i') (by simpa using hi')
    rw [List.eraseIdx_set_eq] at p2
    have g2 : ((l.eraseIdx j).set i' a)[i']'(by simpa using hi') = a := by simp
    rw [g2] at p2
    exact p1.symm.trans (p2.symm.cons b)
theorem ev_facts {p q s : Rat} (hp : 0 ≤ p ∧ p < 1) (hq : 0 ≤ q ∧ q < 1) (hs : 0 ≤ s ∧ s ≤ 1) : (0 ≤ p + (q - p) * (1 / 2) * s ∧ p + (q - p) * (1 / 2) * s < 1) ∧ (0 ≤ q - (q - p) * (1 / 2) * s ∧ q - (q - p) * (1 / 2) * s < 1) ∧ p * q ≤ (p + (q - p) * (1 / 2) * s) * (q - (q - p) * (1 / 2) * s) := by
  obtain ⟨x, hx⟩ : ∃ x, x = (1 / 2 : Rat) * s := ⟨_, rfl⟩
  have e : (q - p) * (1 / 2) * s = (q - p) * x := by rw [hx, Rat.mul_assoc]
  have h2 : (1 / 2 : Rat) * 2 = 1 := by decide +kernel
  have x0 : 0 ≤ x := by rw [hx]; exact Rat.mul_nonneg (by decide +kernel) hs.1
  have x1 : 0 ≤ 1 - x := by grind
  rw [e]
  have a1 := Rat.mul_nonneg hp.1 x1
  have a2 := Rat.mul_nonneg hq.1 x0
  have b1 := Rat.mul_nonneg hq.1 x1
  have b2 := Rat.mul_nonneg hp.1 x0
  have c1 := Rat.mul_nonneg (show 0 ≤ 1 - p by grind) x1
  have c2 := Rat.mul_nonneg (show 0 ≤ 1 - q by grind) x0
  have d1 := Rat.mul_nonneg (show 0 ≤ 1 - q by grind) x1
  have d2 := Rat.mul_nonneg (show 0 ≤ 1 - p by grind) x0
  have sq := sq_nn (q - p)
  have xx := Rat.mul_nonneg sq (Rat.mul_nonneg x0 x1)
  refine ⟨⟨by grind, ?_⟩, ⟨by grind, ?_⟩, by grind⟩
  · by_cases hz : x = 1
    · grind
    · have : 0 < 1 - x := by grind
      have := Rat.mul_pos (show 0 < 1 - p by grind) this
      grind
  · by_cases hz : x = 1
    · grind
    · have : 0 < 1 - x := by grind
      have := Rat.mul_pos (show 0 < 1 - q by grind) this
      grind
theorem bMul_tn (d : PyData) (k : Nat) (hk : k ≤ 1000) (M : Sto) : bMul (.p (.tuple [d])) (I (k : Int)) M = some (.p (.tuple (List.replicate k d)), M) := by
  have h : (k : Int) ≤ 1000 ∧ -1000 ≤ (k : Int) ∧ [d].length ≤ 1000 := ⟨by omega, by omega, by simp⟩
  have e : (List.replicate k [d]).flatten = List.replicate k d := by
    induction k with
    | zero => rfl
    | succ k ih => rw [List.replicate_succ, List.flatten_cons, ih (by omega) (by simp; omega)]; rfl
  show (if (k : Int) ≤ 1000 ∧ -1000 ≤ (k : Int) ∧ [d].length ≤ 1000 then some (Val.p (.tuple (List.replicate (k : Int).toNat [d]).flatten), M) else none) = _
  rw [if_pos h, Int.toNat_natCast, e]
end AX

namespace AX
open PySem PySem.Spec PyProof.Rows L2
/-! ## the counts tell the chances -/
theorem cf_of_cntL {a b : List Rat} (h : cntL a = cntL b) : a.length = b.length ∧ ∀ k, cf a k = cf b k := by
  have hl := congrArg List.length h
  rw [cntL_len, cntL_len] at hl
  refine ⟨by omega, fun k => ?_⟩
  by_cases hk : k ≤ a.length
  · have e : (cntL a)[k]? = (cntL b)[k]? := by rw [h]
    rw [cntL_at hk, cntL_at (by omega)] at e
    exact Option.some.inj e
  · rw [cf_zero a k (by omega), cf_zero b k (by omega)]
theorem ratc {x y c : Rat} (hc : c ≠ 0) (h : x * c = y * c) : x = y := by
  have z : (x - y) * c = 0 := by grind
  rcases Rat.mul_eq_zero.mp z with z | z
  · grind
  · exact absurd z hc
theorem decon {p : Rat} (hp : p < 1) {r t : List Rat} (h : ∀ k, cf (p :: r) k = cf (p :: t) k) : ∀ k, cf r k = cf t k
  | 0 => by
    have := h 0
    rw [cf_cons0, cf_cons0] at this
    exact ratc (by grind) this
  | k + 1 => by
    have e := h (k + 1)
    rw [cf_cons, cf_cons, decon hp h k] at e
    exact ratc (c := 1 - p) (by grind) (by grind)
def pw (x : Rat) : Nat → Rat
  | 0 => 1
  | k + 1 => pw x k * x
theorem gf_cons (p : Rat) (r : List Rat) (x : Rat) : ex (p :: r) (pw x) = ex r (pw x) * (1 - p + p * x) := by
  rw [ex_cons]
  have e : ex r (fun k => pw x (k + 1)) = ex r (pw x) * x := ex_mul r (pw x) x
  rw [e]
  grind
theorem gf_zero {x : Rat} : ∀ {b : List Rat}, ex b (pw x) = 0 → ∃ q ∈ b, 1 - q + q * x = 0
  | [], h => by
    have h : (1 : Rat) = 0 := h
    exact absurd h (by decide +kernel)
  | q :: r, h => by
    rw [gf_cons] at h
    rcases Rat.mul_eq_zero.mp h with h | h
    · obtain ⟨t, ht, e⟩ := gf_zero h
      exact ⟨t, List.mem_cons_of_mem _ ht, e⟩
    · exact ⟨q, List.mem_cons_self .., h⟩
theorem top_cons (p : Rat) (r : List Rat) : cf (p :: r) (r.length + 1) = cf r r.length * p := by
  rw [cf_cons, cf_zero r (r.length + 1) (by omega), Rat.zero_mul, Rat.zero_add]
theorem top_zero : ∀ {b : List Rat}, cf b b.length = 0 → ∃ q ∈ b, q = 0
  | [], h => by
    have h : (1 : Rat) = 0 := h
    exact absurd h (by decide +kernel)
  | q :: r, h => by
    rw [List.length_cons, top_cons] at h
    rcases Rat.mul_eq_zero.mp h with h | h
    · obtain ⟨t, ht, e⟩ := top_zero h
      exact ⟨t, List.mem_cons_of_mem _ ht, e⟩
    · exact ⟨q, List.mem_cons_self .., h⟩
theorem ex_of_cf {a b : List Rat} (hl : a.length = b.length) (h : ∀ k, cf a k = cf b k) (g : Nat → Rat) : ex a g = ex b g := by
  rw [ex_eq, ex_eq, hl]
  congr 1
  exact List.map_congr_left fun k _ => by rw [h]
theorem cnt_perm : ∀ {a b : List Rat}, (∀ q ∈ a, q < 1) → (∀ q ∈ b, q < 1) → a.length = b.length → (∀ k, cf a k = cf b k) → a.Perm b
  | [], b, _, _, hl, _ => by
    have : b = [] := List.eq_nil_of_length_eq_zero hl.symm
    rw [this]
  | p :: r, b, ha, hb, hl, h => by
    have hm : p ∈ b := by
      by_cases hp : p = 0
      · have t := top_cons p r
        rw [h, hp, Rat.mul_zero] at t
        rw [List.length_cons] at hl
        rw [hl] at t
        obtain ⟨q, hq, e⟩ := top_zero t
        rw [hp, ← e]; exact hq
      · have i1 : p * p⁻¹ = 1 := Rat.mul_inv_cancel p hp
        obtain ⟨x, hx⟩ : ∃ x, x = -(1 - p) * p⁻¹ := ⟨_, rfl⟩
        have px : p * x = -(1 - p) := by rw [hx]; grind
        have z : ex (p :: r) (pw x) = 0 := by
          rw [gf_cons, px]
          grind
        rw [ex_of_cf hl h] at z
        obtain ⟨q, hq, e⟩ := gf_zero z
        have : p = q := by
          have : p * (1 - q + q * x) = 0 := by rw [e, Rat.mul_zero]
          grind
        rw [this]; exact hq
    have pe := List.perm_cons_erase hm
    have h2 : ∀ k, cf (p :: r) k = cf (p :: b.erase p) k := fun k => by rw [h, cf_perm pe]
    have h3 := decon (ha p (List.mem_cons_self ..)) h2
    have hl2 := pe.length_eq
    rw [List.length_cons] at hl hl2
    have ih := cnt_perm (fun q hq => ha q (List.mem_cons_of_mem _ hq)) (fun q hq => hb q (pe.mem_iff.mpr (List.mem_cons_of_mem _ hq))) (by omega) h3
    exact (ih.cons p).trans pe.symm
theorem cnt_iff {a b : List Rat} (ha : ∀ q ∈ a, q < 1) (hb : ∀ q ∈ b, q < 1) : cntL a = cntL b ↔ a.Perm b :=
  ⟨fun h => cnt_perm ha hb (cf_of_cntL h).1 (cf_of_cntL h).2, cntL_perm⟩
theorem srtQ_iff {a b : List Rat} : srtQ a = srtQ b ↔ a.Perm b :=
  ⟨fun h => (srtQ_perm a).symm.trans (h ▸ srtQ_perm b), fun h => srtQ_uniq ((srtQ_perm a).trans h) (srtQ_sorted a)⟩
/-! ## fractions sorted as pairs -/
def kF (q : Rat) : List Int := [q.num, (q.den : Int)]
def unF : List Int → Rat
  | [a, b] => mkRat a b.toNat
  | _ => 0
theorem unF_kF (q : Rat) : unF (kF q) = q := Rat.mkRat_self q
theorem eTi_kF (q : Rat) : eTi (kF q) = F q := rfl
def ordF (qs : List Rat) : List Rat := (srtK (qs.map kF)).map unF
theorem ordF_k (qs : List Rat) : (ordF qs).map kF = srtK (qs.map kF) := by
  unfold ordF
  rw [List.map_map]
  conv => rhs; rw [← List.map_id (srtK (qs.map kF))]
  refine List.map_congr_left fun k hk => ?_
  obtain ⟨q, _, rfl⟩ := List.mem_map.mp ((srtK_perm _).mem_iff.mp hk)
  show kF (unF (kF q)) = kF q
  rw [unF_kF]
theorem unk (l : List Rat) : (l.map kF).map unF = l := by
  rw [List.map_map]
  conv => rhs; rw [← List.map_id l]
  exact List.map_congr_left fun q _ => unF_kF q
theorem ordF_perm (qs : List Rat) : (ordF qs).Perm qs := by
  have := (srtK_perm (qs.map kF)).map unF
  rw [unk] at this
  exact this
theorem ordF_iff {a b : List Rat} : ordF a = ordF b ↔ a.Perm b :=
  ⟨fun h => (ordF_perm a).symm.trans (h ▸ ordF_perm b), fun h => by
    have := srtK_uniq ((srtK_perm (a.map kF)).trans (h.map kF)) (srtK_sorted _)
    unfold ordF
    rw [this]⟩
theorem nSortF (qs : List Rat) (M : Sto) : nSortA [.p (.tuple (qs.map F))] M = some (.p (.list ((ordF qs).map F)), M) := by
  have e : ∀ l : List Rat, l.map F = (l.map kF).map eTi := fun l => by rw [List.map_map]; rfl
  by_cases h : qs = []
  · subst h
    have e1 : srtI [] = [] := by simp [srtI]
    have e2 : ordF [] = [] := by simp [ordF, srtK]
    have := (nSortA_i (ns := []) rfl M).1
    rw [e1] at this
    rw [e2]
    exact this
  · rw [e qs, e (ordF qs), ordF_k]
    exact (nSortA_k (ks := qs.map kF) (fun k hk => by
      obtain ⟨q, _, rfl⟩ := List.mem_map.mp hk
      simp [kF]) (by simpa using h) M).1
/-! ## rows joined -/
theorem ex_app (A : List Rat) : ∀ (B : List Rat) (g : Nat → Rat), ex (A ++ B) g = ex A (fun i => ex B (fun j => g (i + j))) := fun B => by
  induction B using snocRec with
  | h0 =>
    intro g
    rw [List.append_nil]
    rfl
  | hs B p ih =>
    intro g
    rw [← List.append_assoc, ex_snoc, ih, ih]
    have e : (fun i => ex (B ++ [p]) fun j => g (i + j)) = fun i => ex B (fun j => g (i + j)) * (1 - p) + ex B (fun j => g (i + j + 1)) * p := funext fun i => ex_snoc B p _
    rw [e, ex_add, ex_mul, ex_mul]
/-- the counts of two rows added, of the first ones' numbers alone -/
def cvq (A B : List Rat) (n k : Nat) : Rat := sumQ ((List.range n).map fun i => cf A i * (if i ≤ k then cf B (k - i) else 0))
theorem cvq_succ (A B : List Rat) (n k : Nat) : cvq A B (n + 1) k = cvq A B n k + cf A n * (if n ≤ k then cf B (k - n) else 0) := by
  unfold cvq
  rw [sum_range (fun i => cf A i * (if i ≤ k then cf B (k - i) else 0))]
theorem cvq_all (A B : List Rat) (k : Nat) : cvq A B (A.length + 1) k = cf (A ++ B) k := by
  rw [← ex_cf (A ++ B) k, ex_app]
  unfold cvq
  rw [← ex_eq A fun i => if i ≤ k then cf B (k - i) else 0]
  congr 1
  funext i
  split
  · rename_i h
    rw [← ex_cf B (k - i)]
    congr 1
    funext j
    by_cases e : j = k - i
    · rw [if_pos e, if_pos (by omega)]
    · rw [if_neg e, if_neg (by omega)]
  · rename_i h
    have e : (fun j => if i + j = k then (1 : Rat) else 0) = fun _ => 0 := funext fun j => if_neg (by omega)
    rw [e, ex_const]
theorem set_range {α : Type} (f : Nat → α) (n j : Nat) (v : α) : ((List.range n).map f).set j v = (List.range n).map fun k => if k = j then v else f k := by
  refine List.ext_getElem (by simp) fun k h1 h2 => ?_
  rw [List.getElem_set, List.getElem_map, List.getElem_map, List.getElem_range]
  by_cases e : j = k
  · rw [if_pos e, if_pos e.symm]
  · rw [if_neg e, if_neg (Ne.symm e)]
end AX

namespace AX
open PySem PySem.Spec PyProof.Rows L2
/-! ## the likeliest courses -/
/-- the half -/
def hf : Rat := 1 / 2
theorem hf2 : hf * 2 = 1 := by decide +kernel
theorem hf_pos : 0 < hf := by decide +kernel
def okx (c : List Nat) (x : Rat × Nat) : Bool := (!decide (hf < x.1) || decide (x.2 ∈ c)) && (!decide (x.1 < hf) || !decide (x.2 ∈ c))
def gd (row : List Rat) (c : List Nat) : Bool := row.zipIdx.all (okx c)
def mxf (p : Rat) : Rat := if hf < p then p else 1 - p
def mx (row : List Rat) : Rat := prodQ (row.map mxf)
def c0 (row : List Rat) : List Nat := (row.zipIdx.filter fun x => decide (hf < x.1)).map (·.2)
def hfs (row : List Rat) : Nat := (row.filter fun p => decide (p = hf)).length
theorem zip_snoc (row : List Rat) (p : Rat) : (row ++ [p]).zipIdx = row.zipIdx ++ [(p, row.length)] := by
  rw [List.zipIdx_append]
  simp
theorem gd_snoc (row : List Rat) (p : Rat) (c : List Nat) : gd (row ++ [p]) c = (gd row c && okx c (p, row.length)) := by
  unfold gd
  rw [zip_snoc, List.all_append]
  simp
theorem gd_last (row : List Rat) (c : List Nat) : gd row (c ++ [row.length]) = gd row c := by
  unfold gd
  rw [Bool.eq_iff_iff, List.all_eq_true, List.all_eq_true]
  refine forall_congr' fun x => forall_congr' fun hx => ?_
  have hlt := List.snd_lt_of_mem_zipIdx hx
  have e : decide (x.2 ∈ c ++ [row.length]) = decide (x.2 ∈ c) := decide_eq_decide.mpr (by
    rw [List.mem_append, List.mem_singleton]
    constructor
    · rintro (h | h)
      · exact h
      · omega
    · exact .inl)
  unfold okx
  rw [e]
theorem mx_snoc (row : List Rat) (p : Rat) : mx (row ++ [p]) = mx row * mxf p := by
  unfold mx
  rw [List.map_append, prodQ_app]
  simp
theorem c0_snoc (row : List Rat) (p : Rat) : c0 (row ++ [p]) = if hf < p then c0 row ++ [row.length] else c0 row := by
  unfold c0
  rw [zip_snoc, List.filter_append, List.map_append]
  by_cases h : hf < p
  · simp [h]
  · simp [h]
theorem hfs_snoc (row : List Rat) (p : Rat) : hfs (row ++ [p]) = hfs row + if p = hf then 1 else 0 := by
  unfold hfs
  rw [List.filter_append, List.length_append]
  by_cases h : p = hf
  · simp [h]
  · simp [h]
theorem mxf_pos {p : Rat} (h : 0 ≤ p ∧ p < 1) : 0 < mxf p := by
  unfold mxf
  split
  · have := hf_pos; grind
  · grind
theorem mx_pos : ∀ row : List Rat, (∀ q ∈ row, 0 ≤ q ∧ q < 1) → 0 < mx row := fun row => by
  induction row using snocRec with
  | h0 => intro _; show (0 : Rat) < 1; decide +kernel
  | hs row p ih =>
    intro h
    rw [mx_snoc]
    exact Rat.mul_pos (ih fun q hq => h q (List.mem_append_left _ hq)) (mxf_pos (h p (by simp)))
theorem ok_no {n : Nat} {c : List Nat} (h : n ∉ c) (p : Rat) : okx c (p, n) = !decide (hf < p) := by
  unfold okx
  simp [h]
theorem ok_yes {n : Nat} {c : List Nat} (h : n ∈ c) (p : Rat) : okx c (p, n) = !decide (p < hf) := by
  unfold okx
  simp [h]
theorem crs_best : ∀ row : List Rat, (∀ q ∈ row, 0 ≤ q ∧ q < 1) → ∀ c ∈ crs row, (c.2 ≤ mx row ∧ (c.2 = mx row ↔ gd row c.1 = true)) ∧ (gd row c.1 = true → c.1 = c0 row ∨ (c0 row).length < c.1.length) := fun row => by
  induction row using snocRec with
  | h0 =>
    intro _ c hc
    have hc : c = ([], 1) := by simpa [crs, crsR] using hc
    subst hc
    exact ⟨⟨Rat.le_refl, ⟨fun _ => rfl, fun _ => rfl⟩⟩, fun _ => .inl rfl⟩
  | hs row p ih =>
    intro h c hc
    have hr : ∀ q ∈ row, 0 ≤ q ∧ q < 1 := fun q hq => h q (List.mem_append_left _ hq)
    have hp := h p (by simp)
    have m0 := mx_pos row hr
    have h2 := hf2
    rw [mx_snoc, c0_snoc, gd_snoc]
    obtain ⟨d, hd, rfl | rfl⟩ := crs_cases hc
    · obtain ⟨⟨i1, i2⟩, i3⟩ := ih hr d hd
      have hn : row.length ∉ d.1 := fun z => by have := (crs_asc row d hd).2 _ z; omega
      rw [ok_no hn]
      by_cases hh : hf < p
      · have e : mxf p = p := if_pos hh
        rw [decide_eq_true hh, e]
        have k1 := Rat.mul_le_mul_of_nonneg_right i1 (show 0 ≤ 1 - p by grind)
        have k2 := Rat.mul_pos m0 (show 0 < p - (1 - p) by grind)
        have lt : d.2 * (1 - p) < mx row * p := by grind
        refine ⟨⟨Rat.le_of_lt lt, ⟨fun z => ?_, fun z => by simp at z⟩⟩, fun z => by simp at z⟩
        have z : d.2 * (1 - p) = mx row * p := z
        grind
      · have e : mxf p = 1 - p := if_neg hh
        rw [decide_eq_false hh, e, if_neg hh]
        have k1 := Rat.mul_le_mul_of_nonneg_right i1 (show 0 ≤ 1 - p by grind)
        refine ⟨⟨k1, ?_⟩, fun z => i3 (by simpa using z)⟩
        rw [Bool.not_false, Bool.and_true, ← i2]
        exact ⟨fun z => ratc (c := 1 - p) (by grind) z, fun z => by show d.2 * (1 - p) = _; rw [z]⟩
    · obtain ⟨⟨i1, i2⟩, i3⟩ := ih hr d hd
      rw [gd_last, ok_yes (by simp)]
      by_cases hh : p < hf
      · have e : mxf p = 1 - p := if_neg (by grind)
        rw [decide_eq_true hh, e]
        have k1 := Rat.mul_le_mul_of_nonneg_right i1 hp.1
        have k2 := Rat.mul_pos m0 (show 0 < (1 - p) - p by grind)
        have lt : d.2 * p < mx row * (1 - p) := by grind
        refine ⟨⟨Rat.le_of_lt lt, ⟨fun z => ?_, fun z => by simp at z⟩⟩, fun z => by simp at z⟩
        have z : d.2 * p = mx row * (1 - p) := z
        grind
      · have e : mxf p = p := by
          unfold mxf
          split
          · rfl
          · grind
        rw [decide_eq_false hh, e, Bool.not_false, Bool.and_true]
        have k1 := Rat.mul_le_mul_of_nonneg_right i1 hp.1
        have p0 : p ≠ 0 := by have := hf_pos; grind
        refine ⟨⟨k1, by rw [← i2]; exact ⟨fun z => ratc p0 z, fun z => by show d.2 * p = _; rw [z]⟩⟩, fun z => ?_⟩
        by_cases hq : hf < p
        · rw [if_pos hq]
          rcases i3 z with i | i
          · exact .inl (by show d.1 ++ [row.length] = _; rw [i])
          · right
            show _ < (d.1 ++ [row.length]).length
            rw [List.length_append, List.length_append]
            simpa using i
        · rw [if_neg hq]
          right
          show _ < (d.1 ++ [row.length]).length
          rw [List.length_append, List.length_singleton]
          rcases i3 z with i | i
          · rw [i]; omega
          · omega
theorem c0_in : ∀ row : List Rat, (∀ q ∈ row, 0 ≤ q ∧ q < 1) → (c0 row, mx row) ∈ crs row := fun row => by
  induction row using snocRec with
  | h0 => intro _; simp [crs, crsR, c0, mx]
  | hs row p ih =>
    intro h
    have ih := ih fun q hq => h q (List.mem_append_left _ hq)
    rw [crs_snoc, mx_snoc, c0_snoc]
    by_cases hh : hf < p
    · have e : mxf p = p := if_pos hh
      rw [if_pos hh, e]
      exact List.mem_append_right _ (List.mem_map.mpr ⟨_, ih, rfl⟩)
    · have e : mxf p = 1 - p := if_neg hh
      rw [if_neg hh, e]
      exact List.mem_append_left _ (List.mem_map.mpr ⟨_, ih, rfl⟩)
theorem tops_many : ∀ row : List Rat, ((crs row).filter fun c => gd row c.1).length = 2 ^ hfs row := fun row => by
  induction row using snocRec with
  | h0 => rfl
  | hs row p ih =>
    rw [crs_snoc, List.filter_append, List.length_append, List.filter_map, List.filter_map, List.length_map, List.length_map, hfs_snoc]
    have e1 : ((crs row).filter ((fun c => gd (row ++ [p]) c.1) ∘ fun c => (c.1, c.2 * (1 - p)))) = (crs row).filter fun c => gd row c.1 && !decide (hf < p) := List.filter_congr fun d hd => by
      show gd (row ++ [p]) d.1 = _
      have hn : row.length ∉ d.1 := fun z => by have := (crs_asc row d hd).2 _ z; omega
      rw [gd_snoc, ok_no hn]
    have e2 : ((crs row).filter ((fun c => gd (row ++ [p]) c.1) ∘ fun c => (c.1 ++ [row.length], c.2 * p))) = (crs row).filter fun c => gd row c.1 && !decide (p < hf) := List.filter_congr fun d hd => by
      show gd (row ++ [p]) (d.1 ++ [row.length]) = _
      rw [gd_snoc, gd_last, ok_yes (by simp)]
    rw [e1, e2]
    by_cases h1 : hf < p
    · have h2 : ¬ p < hf := by grind
      have h3 : ¬ p = hf := by grind
      simp [h1, h2, h3, ih]
    · by_cases h2 : p < hf
      · have h3 : ¬ p = hf := by grind
        simp [h1, h2, h3, ih]
      · have h3 : p = hf := by grind
        simp only [h1, h2, decide_false, Bool.not_false, Bool.and_true, if_pos h3, ih]
        rw [Nat.pow_succ]; omega
/-! sorted by how many, then ascending -/
def kyC (c : List Nat) : List Int := (c.length : Int) :: c.map fun a : Nat => (a : Int)
theorem kyC_inj {c d : List Nat} (h : kyC c = kyC d) : c = d := by
  have h := (List.cons.inj h).2
  exact (List.map_inj_right (fun a b h => Int.ofNat_inj.mp h)).mp h
theorem tops_first {row : List Rat} (h : ∀ q ∈ row, 0 ≤ q ∧ q < 1) : ∃ t, srtK (((crs row).filter fun c => decide (c.2 = mx row)).map fun c => kyC c.1) = kyC (c0 row) :: t := by
  have hm : kyC (c0 row) ∈ ((crs row).filter fun c => decide (c.2 = mx row)).map fun c => kyC c.1 := List.mem_map.mpr ⟨_, List.mem_filter.mpr ⟨c0_in row h, by simp⟩, rfl⟩
  generalize hk : (((crs row).filter fun c => decide (c.2 = mx row)).map fun c => kyC c.1) = ks at *
  have hp := srtK_perm ks
  have hs := srtK_sorted ks
  cases e : srtK ks with
  | nil =>
    rw [e] at hp
    have := hp.mem_iff.mpr hm
    cases this
  | cons a t =>
    rw [e] at hp hs
    have ha : a ∈ ks := hp.mem_iff.mp (List.mem_cons_self ..)
    have h0 : kyC (c0 row) ∈ a :: t := hp.mem_iff.mpr hm
    rw [← hk] at ha
    obtain ⟨c, hc, rfl⟩ := List.mem_map.mp ha
    obtain ⟨hc, he⟩ := List.mem_filter.mp hc
    have he := of_decide_eq_true he
    obtain ⟨⟨_, i2⟩, i3⟩ := crs_best row h c hc
    rcases i3 (i2.mp he) with i | i
    · exact ⟨t, by rw [i]⟩
    · exfalso
      rcases List.mem_cons.mp h0 with z | z
      · have := kyC_inj z
        rw [this] at i
        omega
      · have l := (List.pairwise_cons.mp hs).1 _ z
        unfold leL at l
        rw [Bool.not_eq_true'] at l
        unfold kyC lexL at l
        rw [if_neg (by omega)] at l
        have := of_decide_eq_false l
        omega
theorem mx_is {row : List Rat} (h : ∀ q ∈ row, 0 ≤ q ∧ q < 1) {b : Rat} (h1 : ∃ c ∈ crs row, c.2 = b) (h2 : ∀ c ∈ crs row, c.2 ≤ b) : b = mx row := by
  obtain ⟨c, hc, rfl⟩ := h1
  exact Rat.le_antisymm (crs_best row h c hc).1.1 (h2 _ (c0_in row h))
theorem tops_len {row : List Rat} (h : ∀ q ∈ row, 0 ≤ q ∧ q < 1) : ((crs row).filter fun c => decide (c.2 = mx row)).length = 2 ^ hfs row := by
  rw [← tops_many]
  congr 1
  refine List.filter_congr fun c hc => ?_
  rw [Bool.eq_iff_iff, decide_eq_true_iff]
  exact (crs_best row h c hc).1.2
end AX

namespace AX
open PySem PySem.Spec PyProof.Rows L2
/-! ## all courses of so many moments, sights, plans -/
def crsL : Nat → List (List Nat)
  | 0 => [[]]
  | n + 1 => crsL n ++ (crsL n).map (· ++ [n])
theorem crs_fst : ∀ row : List Rat, (crs row).map (·.1) = crsL row.length := fun row => by
  induction row using snocRec with
  | h0 => rfl
  | hs row p ih =>
    rw [crs_snoc, List.map_append, List.map_map, List.map_map, List.length_append, List.length_singleton]
    show (crs row).map (·.1) ++ (crs row).map (fun c => c.1 ++ [row.length]) = crsL row.length ++ (crsL row.length).map (· ++ [row.length])
    rw [← ih, List.map_map]
    rfl
theorem crsL_len : ∀ n, (crsL n).length = 2 ^ n
  | 0 => rfl
  | n + 1 => by
    unfold crsL
    rw [List.length_append, List.length_map, crsL_len n, Nat.pow_succ]
    omega
theorem crsL_asc : ∀ n, ∀ c ∈ crsL n, Asc c n
  | 0, c, h => by
    have : c = [] := by simpa [crsL] using h
    rw [this]
    exact ⟨List.Pairwise.nil, fun a ha => by cases ha⟩
  | n + 1, c, h => by
    unfold crsL at h
    rcases List.mem_append.mp h with h | h
    · exact (crsL_asc n c h).mono (by omega)
    · obtain ⟨d, hd, rfl⟩ := List.mem_map.mp h
      exact (crsL_asc n d hd).snoc
theorem crsL_all : ∀ n, ∀ c, Asc c n → c ∈ crsL n
  | 0, c, h => by
    cases c with
    | nil => simp [crsL]
    | cons a t => have := h.2 a (List.mem_cons_self ..); omega
  | n + 1, c, h => by
    unfold crsL
    rcases List.eq_nil_or_concat c with rfl | ⟨d, a, rfl⟩
    · exact List.mem_append_left _ (crsL_all n [] ⟨List.Pairwise.nil, fun a ha => by cases ha⟩)
    · rw [List.concat_eq_append] at h ⊢
      have ha := h.2 a (by simp)
      have hp := List.pairwise_append.mp h.1
      have hd : ∀ b ∈ d, b < a := fun b hb => hp.2.2 b hb a (by simp)
      by_cases e : a = n
      · subst e
        exact List.mem_append_right _ (List.mem_map.mpr ⟨d, crsL_all _ d ⟨hp.1, hd⟩, rfl⟩)
      · refine List.mem_append_left _ (crsL_all n _ ⟨h.1, fun b hb => ?_⟩)
        rcases List.mem_append.mp hb with hb | hb
        · have := hd b hb; omega
        · rw [List.mem_singleton.mp hb]; omega
theorem crsL_nodup : ∀ n, (crsL n).Nodup
  | 0 => by simp [crsL]
  | n + 1 => by
    unfold crsL
    refine List.nodup_append.mpr ⟨crsL_nodup n, ?_, fun c hc d hd e => ?_⟩
    · exact List.Pairwise.map _ (fun a b hab z => hab (List.append_cancel_right z)) (crsL_nodup n)
    · obtain ⟨x, hx, rfl⟩ := List.mem_map.mp hd
      have := (crsL_asc n c hc).2 n (by rw [e]; simp)
      omega
def unC (k : List Int) : List Nat := k.tail.map Int.toNat
theorem unC_kyC (c : List Nat) : unC (kyC c) = c := by
  unfold unC kyC
  rw [List.tail_cons, List.map_map]
  conv => rhs; rw [← List.map_id c]
  exact List.map_congr_left fun a _ => rfl
def allC (n : Nat) : List (List Nat) := (srtK ((crsL n).map kyC)).map unC
theorem allC_k (n : Nat) : (allC n).map kyC = srtK ((crsL n).map kyC) := by
  unfold allC
  rw [List.map_map]
  conv => rhs; rw [← List.map_id (srtK ((crsL n).map kyC))]
  refine List.map_congr_left fun k hk => ?_
  obtain ⟨q, _, rfl⟩ := List.mem_map.mp ((srtK_perm _).mem_iff.mp hk)
  show kyC (unC (kyC q)) = kyC q
  rw [unC_kyC]
theorem allC_perm (n : Nat) : (allC n).Perm (crsL n) := by
  have := (srtK_perm ((crsL n).map kyC)).map unC
  rw [List.map_map] at this
  have e : (crsL n).map (unC ∘ kyC) = crsL n := by
    conv => rhs; rw [← List.map_id (crsL n)]
    exact List.map_congr_left fun c _ => unC_kyC c
  rw [e] at this
  exact this
theorem allC_asc {n : Nat} {c : List Nat} (h : c ∈ allC n) : Asc c n := crsL_asc n c ((allC_perm n).mem_iff.mp h)
/-! sights of a plan of naming from a moment on -/
def natL (c : List Nat) : List Int := c.map fun a : Nat => (a : Int)
def unN (k : List Int) : List Nat := k.map Int.toNat
theorem unN_natL (c : List Nat) : unN (natL c) = c := by
  unfold unN natL
  rw [List.map_map]
  conv => rhs; rw [← List.map_id c]
  exact List.map_congr_left fun a _ => rfl
def st (s : Nat) (c : List Nat) : Bool := match c.reverse with
  | [] => false
  | [a] => decide (s ≤ a)
  | a :: b :: _ => decide (s ≤ a) && decide (b < s)
theorem st_nil (s : Nat) : st s [] = false := rfl
theorem st_one (s a : Nat) : st s [a] = decide (s ≤ a) := rfl
theorem st_two (s b a : Nat) (d : List Nat) : st s (d ++ [b, a]) = (decide (s ≤ a) && decide (b < s)) := by
  unfold st
  rw [List.reverse_append]
  rfl
theorem cntF_none {s : Nat} {d : List Nat} (h : ∀ x ∈ d, x < s) : cntF s d = 0 := by
  unfold cntF
  rw [List.filter_eq_nil_iff.mpr fun a ha => by
    have := h a ha
    simp; omega]
  rfl
theorem st_cnt {s n : Nat} {c : List Nat} (h : Asc c n) : st s c = decide (cntF s c = 1) := by
  rcases List.eq_nil_or_concat c with rfl | ⟨d, a, rfl⟩
  · rfl
  · rw [List.concat_eq_append] at h ⊢
    have hp := List.pairwise_append.mp h.1
    rcases List.eq_nil_or_concat d with rfl | ⟨e, b, rfl⟩
    · rw [List.nil_append, st_one]
      unfold cntF
      by_cases z : s ≤ a
      · simp [z]
      · simp [z]
    · rw [List.concat_eq_append] at h hp ⊢
      have hb : b < a := hp.2.2 b (by simp) a (by simp)
      have he : ∀ x ∈ e, x < b := fun x hx => (List.pairwise_append.mp hp.1).2.2 x hx b (by simp)
      rw [List.append_assoc]
      show st s (e ++ [b, a]) = _
      rw [st_two]
      have ec : cntF s (e ++ [b, a]) = cntF s e + cntF s [b, a] := by unfold cntF; rw [List.filter_append, List.length_append]
      rw [Bool.eq_iff_iff, decide_eq_true_iff, Bool.and_eq_true, decide_eq_true_iff, decide_eq_true_iff]
      show _ ↔ cntF s (e ++ [b, a]) = 1
      rw [ec]
      constructor
      · rintro ⟨h1, h2⟩
        rw [cntF_none fun x hx => by have := he x hx; omega]
        unfold cntF
        simp [h1, Nat.not_le.mpr h2]
      · intro z
        by_cases h2 : b < s
        · refine ⟨?_, h2⟩
          by_cases h1 : s ≤ a
          · exact h1
          · rw [cntF_none fun x hx => by have := he x hx; omega, cntF_none fun x hx => by
              simp only [List.mem_cons, List.not_mem_nil, or_false] at hx
              rcases hx with rfl | rfl <;> omega] at z
            omega
        · have : cntF s [b, a] = 2 := by
            unfold cntF
            simp [show s ≤ b by omega, show s ≤ a by omega]
          omega
/-- the plan of naming from a moment on, as courses -/
def plC (s n : Nat) : List (List Nat) := (srtK (((allC n).filter (st s)).map natL)).map unN
theorem plC_k (s n : Nat) : (plC s n).map natL = srtK (((allC n).filter (st s)).map natL) := by
  unfold plC
  rw [List.map_map]
  conv => rhs; rw [← List.map_id (srtK (((allC n).filter (st s)).map natL))]
  refine List.map_congr_left fun k hk => ?_
  obtain ⟨q, _, rfl⟩ := List.mem_map.mp ((srtK_perm _).mem_iff.mp hk)
  show natL (unN (natL q)) = natL q
  rw [unN_natL]
theorem plC_perm (s n : Nat) : (plC s n).Perm ((allC n).filter (st s)) := by
  have := (srtK_perm (((allC n).filter (st s)).map natL)).map unN
  rw [List.map_map] at this
  have e : ((allC n).filter (st s)).map (unN ∘ natL) = (allC n).filter (st s) := by
    conv => rhs; rw [← List.map_id ((allC n).filter (st s))]
    exact List.map_congr_left fun c _ => unN_natL c
  rw [e] at this
  exact this
theorem plC_mem {s n : Nat} {c : List Nat} : c ∈ plC s n ↔ Asc c n ∧ st s c = true := by
  rw [(plC_perm s n).mem_iff, List.mem_filter, (allC_perm n).mem_iff]
  exact ⟨fun h => ⟨crsL_asc n c h.1, h.2⟩, fun h => ⟨crsL_all n c h.1, h.2⟩⟩
theorem plC_rise (s n : Nat) : (plC s n).Pairwise fun a b => lexL (natL a) (natL b) = true := by
  have h1 : ((plC s n).map natL).Pairwise fun a b => leL a b = true := by rw [plC_k]; exact srtK_sorted _
  have h2 : (plC s n).Nodup := (plC_perm s n).nodup_iff.mpr (List.Pairwise.filter _ ((allC_perm n).nodup_iff.mpr (crsL_nodup n)))
  have h1 := List.pairwise_map.mp h1
  refine (h1.and h2).imp fun {a b} h => ?_
  obtain ⟨u, v⟩ := h
  cases e : lexL (natL a) (natL b) with
  | true => rfl
  | false =>
    unfold leL at u
    rw [Bool.not_eq_true'] at u
    have := lexL_eq _ _ e u
    have := congrArg unN this
    rw [unN_natL, unN_natL] at this
    exact absurd this v
/-! what a plan names -/
def nmO (P : List (List Nat)) (c : List Nat) : Option Nat := ((List.range c.length).find? fun m => decide (c.take (m + 1) ∈ P)).map fun m => c.getD m 0
theorem st_pre {s m : Nat} {c : List Nat} {n : Nat} (h : Asc c n) (hm : m < c.length) : st s (c.take (m + 1)) = true ↔ s ≤ c.getD m 0 ∧ ∀ j, j < m → c.getD j 0 < s := by
  have g : ∀ j, j < c.length → c.getD j 0 = c[j]?.getD 0 := fun j _ => List.getD_eq_getElem?_getD ..
  have gm : c.getD m 0 = c[m] := by rw [g m hm, List.getElem?_eq_getElem hm]; rfl
  have asc : ∀ i j, i < j → j < c.length → c.getD i 0 < c.getD j 0 := fun i j hij hj => by
    have := List.pairwise_iff_getElem.mp h.1 i j (by omega) hj hij
    rw [g i (by omega), g j hj, List.getElem?_eq_getElem (by omega), List.getElem?_eq_getElem hj]
    exact this
  cases m with
  | zero =>
    have e : c.take (0 + 1) = [c[0]] := by
      rw [List.take_succ, List.take_zero, List.getElem?_eq_getElem hm]; rfl
    rw [e, st_one, decide_eq_true_iff, gm]
    exact ⟨fun z => ⟨z, fun j hj => absurd hj (Nat.not_lt_zero j)⟩, fun z => z.1⟩
  | succ m =>
    have e : c.take (m + 1 + 1) = c.take m ++ [c[m], c[m + 1]] := by
      rw [List.take_succ, List.take_succ, List.getElem?_eq_getElem hm, List.getElem?_eq_getElem (show m < c.length by omega), List.append_assoc]; rfl
    have gm0 : c.getD m 0 = c[m] := by rw [g m (by omega), List.getElem?_eq_getElem (by omega)]; rfl
    rw [e, st_two, Bool.and_eq_true, decide_eq_true_iff, decide_eq_true_iff, gm, ← gm0]
    constructor
    · rintro ⟨a, b⟩
      refine ⟨a, fun j hj => ?_⟩
      by_cases z : j = m
      · rw [z]; exact b
      · have := asc j m (by omega) (by omega)
        omega
    · rintro ⟨a, b⟩
      exact ⟨a, b m (by omega)⟩
theorem nmO_from {s n : Nat} {c : List Nat} (h : Asc c n) (h0 : c ≠ []) : decide (nmO (plC s n) c = c.getLast?) = st s c := by
  obtain ⟨l, hl⟩ : ∃ l, c.length = l + 1 := ⟨c.length - 1, by have := List.length_pos_iff.mpr h0; omega⟩
  have pre : ∀ m, m < c.length → (c.take (m + 1) ∈ plC s n ↔ s ≤ c.getD m 0 ∧ ∀ j, j < m → c.getD j 0 < s) := fun m hm => by
    rw [plC_mem, st_pre h hm]
    refine ⟨fun z => z.2, fun z => ⟨⟨h.1.sublist (List.take_sublist ..), fun a ha => h.2 a (List.mem_of_mem_take ha)⟩, z⟩⟩
  have asc : ∀ i j, i < j → j < c.length → c.getD i 0 < c.getD j 0 := fun i j hij hj => by
    have := List.pairwise_iff_getElem.mp h.1 i j (by omega) hj hij
    rw [List.getD_eq_getElem?_getD, List.getD_eq_getElem?_getD, List.getElem?_eq_getElem (by omega), List.getElem?_eq_getElem hj]
    exact this
  have last : c.getLast? = some (c.getD l 0) := by
    rw [List.getLast?_eq_getElem?, hl, Nat.add_sub_cancel, List.getD_eq_getElem?_getD, List.getElem?_eq_getElem (show l < c.length by omega)]
    rfl
  have full : st s c = true ↔ s ≤ c.getD l 0 ∧ ∀ j, j < l → c.getD j 0 < s := by
    have := st_pre (s := s) h (show l < c.length by omega)
    rwa [← hl, List.take_length] at this
  rw [last, Bool.eq_iff_iff, decide_eq_true_iff, full]
  unfold nmO
  constructor
  · intro z
    obtain ⟨m, hm, e⟩ := Option.map_eq_some_iff.mp z
    rw [List.find?_range_eq_some] at hm
    have ml := List.mem_range.mp hm.2.1
    have mp := (pre m ml).mp (of_decide_eq_true hm.1)
    have : m = l := by
      rcases Nat.lt_trichotomy m l with q | q | q
      · have := asc m l q (by omega); omega
      · exact q
      · omega
    rw [this] at mp
    exact mp
  · intro z
    have e : (List.range c.length).find? (fun m => decide (c.take (m + 1) ∈ plC s n)) = some l := by
      rw [List.find?_range_eq_some]
      refine ⟨decide_eq_true ((pre l (by omega)).mpr z), List.mem_range.mpr (by omega), fun j hj => ?_⟩
      rw [Bool.not_eq_true', decide_eq_false_iff_not, pre j (by omega)]
      intro q
      have := z.2 j hj
      omega
    rw [e]
    rfl
/-! sums over courses -/
theorem sum_courses {qs : List Rat} (t : List Nat → Bool) : sumQ (((allC qs.length).filter t).map (chIn qs)) = Pr qs t := by
  have p : (((allC qs.length).filter t).map (chIn qs)).Perm (((crsL qs.length).filter t).map (chIn qs)) := ((allC_perm qs.length).filter t).map _
  rw [sumQ_permR p, ← crs_fst, List.filter_map, List.map_map]
  unfold Pr
  congr 1
  refine List.map_congr_left fun c hc => ?_
  exact crs_chance qs c (List.mem_filter.mp hc).1
theorem pr_start (qs : List Rat) (s : Nat) : Pr qs (st s) = cf (qs.drop s) 1 := by
  rw [← pr_from s qs 1]
  exact pr_congr fun c hc => st_cnt hc
/-! the most -/
theorem mostK_ge {qs : List Rat} (h : ∀ q ∈ qs, 0 ≤ q ∧ q < 1) : (∀ s, cf (qs.drop s) 1 ≤ mostK 0 qs) ∧ 0 ≤ mostK 0 qs := by
  induction qs with
  | nil =>
    refine ⟨fun s => ?_, by show (0 : Rat) ≤ 0; exact Rat.le_refl⟩
    rw [List.drop_nil]
    exact Rat.le_refl
  | cons p r ih =>
    obtain ⟨i1, i2⟩ := ih fun q hq => h q (List.mem_cons_of_mem _ hq)
    have hp := h p (List.mem_cons_self ..)
    have e : mostK 0 (p :: r) = mostK 0 r * (1 - p) + p * mxQ (cf r 0) (mostK 0 r) := rfl
    have m1 : cf r 0 ≤ mxQ (cf r 0) (mostK 0 r) ∧ mostK 0 r ≤ mxQ (cf r 0) (mostK 0 r) := by
      unfold mxQ
      split <;> constructor <;> grind
    have k1 := Rat.mul_le_mul_of_nonneg_left m1.1 hp.1
    have k2 := Rat.mul_le_mul_of_nonneg_left m1.2 hp.1
    have up : mostK 0 r ≤ mostK 0 (p :: r) := by rw [e]; grind
    refine ⟨fun s => ?_, Rat.le_trans i2 up⟩
    cases s with
    | zero =>
      rw [List.drop_zero, cf_cons, e]
      have i0 := i1 0
      rw [List.drop_zero] at i0
      have k3 := Rat.mul_le_mul_of_nonneg_right i0 (show 0 ≤ 1 - p by grind)
      grind
    | succ s => exact Rat.le_trans (i1 s) up
end AX

namespace AX
open PySem PySem.Spec PyProof.Rows L2
/-! ## no plan wins more than the most -/
/-- means over what comes from a moment on -/
def exS : Nat → List Rat → (List Nat → Rat) → Rat
  | _, [], G => G []
  | i, p :: r, G => exS (i + 1) r G * (1 - p) + exS (i + 1) r (fun c => G (i :: c)) * p
theorem exS_snoc (p : Rat) : ∀ (r : List Rat) (i : Nat) (G : List Nat → Rat), exS i (r ++ [p]) G = exS i r G * (1 - p) + exS i r (fun c => G (c ++ [i + r.length])) * p
  | [], i, G => by
    show exS i [p] G = _
    rfl
  | q :: r, i, G => by
    show exS (i + 1) (r ++ [p]) G * (1 - q) + exS (i + 1) (r ++ [p]) (fun c => G (i :: c)) * q = (exS (i + 1) r G * (1 - q) + exS (i + 1) r (fun c => G (i :: c)) * q) * (1 - p) + (exS (i + 1) r (fun c => G (c ++ [i + (q :: r).length])) * (1 - q) + exS (i + 1) r (fun c => G (i :: (c ++ [i + (q :: r).length]))) * q) * p
    rw [exS_snoc p r, exS_snoc p r, List.length_cons, show i + 1 + r.length = i + (r.length + 1) by omega]
    show _ + _ * q = _
    have e : (fun c : List Nat => G (i :: (c ++ [i + (r.length + 1)]))) = fun c => (fun c => G (i :: c)) (c ++ [i + (r.length + 1)]) := rfl
    rw [e]
    grind
theorem exC_S : ∀ (row : List Rat) (G : List Nat → Rat), exC row G = exS 0 row G := fun row => by
  induction row using snocRec with
  | h0 => intro G; exact exC_nil G
  | hs row p ih =>
    intro G
    rw [exC_snoc, exS_snoc, ih, ih, Nat.zero_add]
/-- the same where only what may come counts -/
theorem exS_congr : ∀ (r : List Rat) (i : Nat) {G K : List Nat → Rat}, (∀ c, (∀ a ∈ c, i ≤ a) → G c = K c) → exS i r G = exS i r K
  | [], i, G, K, h => h [] (fun a ha => by cases ha)
  | p :: r, i, G, K, h => by
    show exS (i + 1) r G * (1 - p) + exS (i + 1) r (fun c => G (i :: c)) * p = exS (i + 1) r K * (1 - p) + exS (i + 1) r (fun c => K (i :: c)) * p
    rw [exS_congr r (i + 1) (G := G) (K := K) fun c hc => h c fun a ha => by have := hc a ha; omega,
      exS_congr r (i + 1) (G := fun c => G (i :: c)) (K := fun c => K (i :: c)) fun c hc => h (i :: c) fun a ha => by
        rcases List.mem_cons.mp ha with e | ha
        · omega
        · have := hc a ha; omega]
theorem exS_none : ∀ (r : List Rat) (i : Nat), exS i r (fun c => if c = [] then 1 else 0) = cf r 0
  | [], _ => rfl
  | p :: r, i => by
    show exS (i + 1) r _ * (1 - p) + exS (i + 1) r (fun c => if i :: c = [] then 1 else 0) * p = _
    rw [exS_none r (i + 1), cf_cons0]
    have e : (fun c : List Nat => if i :: c = [] then (1 : Rat) else 0) = fun _ => 0 := funext fun c => if_neg (by simp)
    have z : ∀ (r : List Rat) (i : Nat), exS i r (fun _ => (0 : Rat)) = 0 := fun r => by
      induction r with
      | nil => intro i; rfl
      | cons q r ih =>
        intro i
        show exS (i + 1) r (fun _ => 0) * (1 - q) + exS (i + 1) r (fun _ => 0) * q = 0
        rw [ih]; grind
    rw [e, z]
    grind
/-- whether the first sign that a plan names is the last one -/
def winI (P : List (List Nat)) (c : List Nat) : Rat := if c ≠ [] ∧ nmO P c = c.getLast? then 1 else 0
/-- none of the parts ahead is a sight of the plan -/
def freeP (P : List (List Nat)) (pre : List Nat) : Prop := ∀ m, m < pre.length → ¬ pre.take (m + 1) ∈ P
theorem nmO_free {P : List (List Nat)} {pre : List Nat} (h : freeP P pre) : nmO P pre = none := by
  unfold nmO
  have e : (List.range pre.length).find? (fun m => decide (pre.take (m + 1) ∈ P)) = none := by
    rw [List.find?_eq_none]
    intro k hk
    simp [h k (List.mem_range.mp hk)]
  rw [e]; rfl
theorem win_free {P : List (List Nat)} {pre : List Nat} (h : freeP P pre) : winI P pre = 0 := by
  unfold winI
  rw [nmO_free h]
  refine if_neg fun z => ?_
  have := List.getLast?_eq_none_iff.mp z.2.symm
  exact z.1 this
theorem free_snoc {P : List (List Nat)} {pre : List Nat} {a : Nat} (h : freeP P pre) (hn : ¬ pre ++ [a] ∈ P) : freeP P (pre ++ [a]) := fun m hm => by
  rw [List.length_append, List.length_singleton] at hm
  by_cases e : m = pre.length
  · rw [e, List.take_of_length_le (by simp)]
    exact hn
  · rw [List.take_append_of_le_length (by omega)]
    exact h m (by omega)
theorem win_named {P : List (List Nat)} {pre c : List Nat} {a : Nat} (h : freeP P pre) (hn : pre ++ [a] ∈ P) (hc : ∀ x ∈ c, a < x) : winI P (pre ++ a :: c) = if c = [] then 1 else 0 := by
  have nm : nmO P (pre ++ a :: c) = some a := by
    unfold nmO
    have e : (List.range (pre ++ a :: c).length).find? (fun m => decide ((pre ++ a :: c).take (m + 1) ∈ P)) = some pre.length := by
      rw [List.find?_range_eq_some]
      refine ⟨?_, List.mem_range.mpr (by simp), fun j hj => ?_⟩
      · rw [decide_eq_true_iff, List.take_append]
        rw [List.take_of_length_le (by omega), show pre.length + 1 - pre.length = 1 by omega]
        exact hn
      · rw [Bool.not_eq_true', decide_eq_false_iff_not, List.take_append_of_le_length (by omega)]
        exact h j hj
    rw [e, Option.map_some, List.getD_eq_getElem?_getD, List.getElem?_append_right (Nat.le_refl _), Nat.sub_self]
    rfl
  unfold winI
  rw [nm]
  by_cases h0 : c = []
  · subst h0
    rw [if_pos rfl, if_pos ⟨by simp, by simp⟩]
  · rw [if_neg h0]
    refine if_neg fun z => ?_
    obtain ⟨d, b, rfl⟩ : ∃ d b, c = d ++ [b] := by
      rcases List.eq_nil_or_concat c with e | ⟨d, b, e⟩
      · exact absurd e h0
      · exact ⟨d, b, by rw [e, List.concat_eq_append]⟩
    have e : pre ++ a :: (d ++ [b]) = (pre ++ a :: d) ++ [b] := by simp
    rw [e, List.getLast?_append] at z
    have := z.2
    simp at this
    have := hc b (by simp)
    omega
theorem mostK_up {p : Rat} {r : List Rat} : cf r 0 ≤ mxQ (cf r 0) (mostK 0 r) ∧ mostK 0 r ≤ mxQ (cf r 0) (mostK 0 r) := by
  unfold mxQ
  split <;> constructor <;> grind
theorem plan_bound {P : List (List Nat)} : ∀ (r : List Rat), (∀ q ∈ r, 0 ≤ q ∧ q < 1) → ∀ (i : Nat) (pre : List Nat), freeP P pre → exS i r (fun c => winI P (pre ++ c)) ≤ mostK 0 r
  | [], _, i, pre, hf => by
    show winI P (pre ++ []) ≤ (0 : Rat)
    rw [List.append_nil, win_free hf]
    exact Rat.le_refl
  | p :: r, h, i, pre, hf => by
    have hp := h p (List.mem_cons_self ..)
    have hr : ∀ q ∈ r, 0 ≤ q ∧ q < 1 := fun q hq => h q (List.mem_cons_of_mem _ hq)
    have a := plan_bound r hr (i + 1) pre hf
    have mu := mostK_up (p := p) (r := r)
    have e : mostK 0 (p :: r) = mostK 0 r * (1 - p) + p * mxQ (cf r 0) (mostK 0 r) := rfl
    have b : exS (i + 1) r (fun c => winI P (pre ++ i :: c)) ≤ mxQ (cf r 0) (mostK 0 r) := by
      by_cases hn : pre ++ [i] ∈ P
      · rw [exS_congr r (i + 1) (K := fun c => if c = [] then 1 else 0) fun c hc => win_named hf hn fun x hx => by have := hc x hx; omega, exS_none]
        exact mu.1
      · have := plan_bound r hr (i + 1) (pre ++ [i]) (free_snoc hf hn)
        have e : (fun c => winI P (pre ++ [i] ++ c)) = fun c => winI P (pre ++ i :: c) := funext fun c => by rw [List.append_assoc]; rfl
        rw [e] at this
        exact Rat.le_trans this mu.2
    show exS (i + 1) r (fun c => winI P (pre ++ c)) * (1 - p) + exS (i + 1) r (fun c => winI P (pre ++ i :: c)) * p ≤ _
    rw [e]
    have k1 := Rat.mul_le_mul_of_nonneg_right a (show 0 ≤ 1 - p by grind)
    have k2 := Rat.mul_le_mul_of_nonneg_right b hp.1
    grind
/-- how often a plan wins -/
def planW (P : List (List Nat)) (row : List Rat) : Rat := Pr row fun c => !c.isEmpty && decide (nmO P c = c.getLast?)
theorem planW_le {row : List Rat} (h : ∀ q ∈ row, 0 ≤ q ∧ q < 1) (P : List (List Nat)) : planW P row ≤ mostK 0 row := by
  unfold planW
  rw [pr_exC, exC_S]
  have e : (fun c : List Nat => if (!c.isEmpty && decide (nmO P c = c.getLast?)) = true then (1 : Rat) else 0) = fun c => winI P ([] ++ c) := funext fun c => by
    unfold winI
    rw [List.nil_append]
    cases c with
    | nil => simp
    | cons a t => simp
  rw [e]
  exact plan_bound row h 0 [] fun m hm => absurd hm (Nat.not_lt_zero m)
theorem nmO_same {P Q : List (List Nat)} (h : ∀ x, x ∈ P ↔ x ∈ Q) (c : List Nat) : nmO P c = nmO Q c := by
  unfold nmO
  have e : (fun m => decide (c.take (m + 1) ∈ P)) = fun m => decide (c.take (m + 1) ∈ Q) := funext fun m => decide_eq_decide.mpr (h _)
  rw [e]
theorem planW_start {row : List Rat} {s : Nat} {P : List (List Nat)} (h : ∀ x, x ∈ P ↔ Asc x row.length ∧ st s x = true) : planW P row = cf (row.drop s) 1 := by
  rw [← pr_start]
  unfold planW
  refine pr_congr fun c hc => ?_
  rw [nmO_same (Q := plC s row.length) (fun x => by rw [h, plC_mem])]
  by_cases h0 : c = []
  · subst h0
    simp [st_nil]
  · rw [nmO_from hc h0]
    cases c with
    | nil => exact absurd rfl h0
    | cons a t => simp
/-! all sights, all plans -/
def sgL (n : Nat) : List (List Nat) := (srtK (((crsL n).filter fun c => !c.isEmpty).map natL)).map unN
theorem sgL_k (n : Nat) : (sgL n).map natL = srtK (((crsL n).filter fun c => !c.isEmpty).map natL) := by
  unfold sgL
  rw [List.map_map]
  conv => rhs; rw [← List.map_id (srtK (((crsL n).filter fun c => !c.isEmpty).map natL))]
  refine List.map_congr_left fun k hk => ?_
  obtain ⟨q, _, rfl⟩ := List.mem_map.mp ((srtK_perm _).mem_iff.mp hk)
  show natL (unN (natL q)) = natL q
  rw [unN_natL]
theorem sgL_perm (n : Nat) : (sgL n).Perm ((crsL n).filter fun c => !c.isEmpty) := by
  have := (srtK_perm (((crsL n).filter fun c => !c.isEmpty).map natL)).map unN
  rw [List.map_map] at this
  have e : ((crsL n).filter fun c => !c.isEmpty).map (unN ∘ natL) = (crsL n).filter fun c => !c.isEmpty := by
    conv => rhs; rw [← List.map_id ((crsL n).filter fun c => !c.isEmpty)]
    exact List.map_congr_left fun c _ => unN_natL c
  rw [e] at this
  exact this
theorem sgL_mem {n : Nat} {c : List Nat} : c ∈ sgL n ↔ Asc c n ∧ c ≠ [] := by
  rw [(sgL_perm n).mem_iff, List.mem_filter]
  constructor
  · rintro ⟨h1, h2⟩
    exact ⟨crsL_asc n c h1, fun z => by rw [z] at h2; simp at h2⟩
  · rintro ⟨h1, h2⟩
    refine ⟨crsL_all n c h1, ?_⟩
    cases c with
    | nil => exact absurd rfl h2
    | cons a t => rfl
def plsR : List (List Nat) → List (List (List Nat))
  | [] => [[]]
  | x :: S => plsR S ++ (plsR S).map (· ++ [x])
/-- all plans of these sights -/
def pls (S : List (List Nat)) : List (List (List Nat)) := plsR S.reverse
theorem pls_snoc (S : List (List Nat)) (x : List Nat) : pls (S ++ [x]) = pls S ++ (pls S).map (· ++ [x]) := by
  unfold pls
  rw [List.reverse_append]
  rfl
theorem pls_len : ∀ S : List (List Nat), (pls S).length = 2 ^ S.length := fun S => by
  induction S using snocRec with
  | h0 => rfl
  | hs S x ih =>
    rw [pls_snoc, List.length_append, List.length_map, ih, List.length_append, List.length_singleton, Nat.pow_succ]
    omega
theorem pls_sub : ∀ {S : List (List Nat)}, ∀ P ∈ pls S, (∀ c ∈ P, c ∈ S) ∧ P.length ≤ S.length := fun {S} => by
  induction S using snocRec with
  | h0 =>
    intro P hP
    have : P = [] := by simpa [pls, plsR] using hP
    rw [this]
    exact ⟨fun c hc => (by cases hc), Nat.le_refl _⟩
  | hs S x ih =>
    intro P hP
    rw [pls_snoc] at hP
    rcases List.mem_append.mp hP with hP | hP
    · obtain ⟨a, b⟩ := ih P hP
      exact ⟨fun c hc => List.mem_append_left _ (a c hc), by rw [List.length_append]; omega⟩
    · obtain ⟨Q, hQ, rfl⟩ := List.mem_map.mp hP
      obtain ⟨a, b⟩ := ih Q hQ
      refine ⟨fun c hc => ?_, by rw [List.length_append, List.length_append]; simpa using b⟩
      rcases List.mem_append.mp hc with hc | hc
      · exact List.mem_append_left _ (a c hc)
      · exact List.mem_append_right _ hc
theorem pls_filter (t : List Nat → Bool) : ∀ S : List (List Nat), S.filter t ∈ pls S := fun S => by
  induction S using snocRec with
  | h0 => simp [pls, plsR]
  | hs S x ih =>
    rw [pls_snoc, List.filter_append]
    cases h : t x with
    | true =>
      refine List.mem_append_right _ (List.mem_map.mpr ⟨_, ih, ?_⟩)
      simp [h]
    | false =>
      refine List.mem_append_left _ ?_
      simpa [h] using ih
theorem pls_best {row : List Rat} (s : Nat) : ∃ P ∈ pls (sgL row.length), planW P row = cf (row.drop s) 1 := by
  refine ⟨_, pls_filter (st s) (sgL row.length), planW_start fun x => ?_⟩
  rw [List.mem_filter, sgL_mem]
  refine ⟨fun h => ⟨h.1.1, h.2⟩, fun h => ⟨⟨h.1, fun z => ?_⟩, h.2⟩⟩
  have := h.2
  rw [z] at this
  cases this
theorem planW_nil (row : List Rat) : planW [] row = 0 := by
  unfold planW
  rw [← pr_false row]
  refine pr_congr fun c _ => ?_
  cases c with
  | nil => rfl
  | cons a t =>
    have : nmO [] (a :: t) = none := nmO_free fun m _ h => (by cases h)
    rw [this, decide_eq_false fun z => by
      have := List.getLast?_eq_none_iff.mp z.symm
      cases this]
    rfl
end AX

namespace AX
open PySem PySem.Spec PyProof.Rows L2
/-! ## going back from the end, naming having its worth -/
def gbk : List (Rat × Rat) → Rat
  | [] => 0
  | z :: t => z.1 * mxQ z.2 (gbk t) + (1 - z.1) * gbk t
/-- prizes: a sign that is named is worth its prize where none comes behind -/
def pwz : List Rat → List Nat → List (Rat × Rat)
  | p :: t, c :: cs => (p, noneQ t * (c : Rat)) :: pwz t cs
  | _, _ => []
theorem pwz_len : ∀ (row : List Rat) (cs : List Nat), row.length = cs.length → (pwz row cs).length = row.length
  | [], _, _ => by simp [pwz]
  | p :: t, [], h => by cases h
  | p :: t, c :: cs, h => by simp [pwz, pwz_len t cs (by simpa using h)]
theorem pwz_drop : ∀ (row : List Rat) (cs : List Nat) (k : Nat), row.length = cs.length → (pwz row cs).drop k = pwz (row.drop k) (cs.drop k)
  | _, _, 0, _ => rfl
  | [], cs, k + 1, h => by simp [pwz]
  | p :: t, [], k + 1, h => by cases h
  | p :: t, c :: cs, k + 1, h => by
    show ((p, noneQ t * (c : Rat)) :: pwz t cs).drop (k + 1) = _
    rw [List.drop_succ_cons, List.drop_succ_cons, List.drop_succ_cons]
    exact pwz_drop t cs k (by simpa using h)
theorem pwz_at : ∀ (row : List Rat) (cs : List Nat) (k : Nat), row.length = cs.length → (h : k < row.length) → (pwz row cs)[k]? = some (row[k], noneQ (row.drop (k + 1)) * ((cs.getD k 0 : Nat) : Rat))
  | [], _, _, _, h => by simp at h
  | p :: t, [], _, h, _ => by cases h
  | p :: t, c :: cs, 0, _, _ => by simp [pwz]
  | p :: t, c :: cs, k + 1, h, hk => by
    simp only [pwz, List.getElem?_cons_succ, List.drop_succ_cons, List.getElem_cons_succ, List.getD_cons_succ]
    exact pwz_at t cs k (by simpa using h) (by simpa using hk)
/-! sizes -/
def dp : List Rat → Nat
  | [] => 1
  | p :: t => p.den * dp t
theorem dp_pos : ∀ row : List Rat, 0 < dp row
  | [] => by decide
  | p :: t => Nat.mul_pos p.den_pos (dp_pos t)
theorem dp_le {k : Nat} : ∀ row : List Rat, (∀ q ∈ row, Bq k q) → dp row ≤ 2 ^ (k * row.length)
  | [], _ => by simp [dp]
  | p :: t, h => by
    have a := dp_le t fun q hq => h q (List.mem_cons_of_mem _ hq)
    have b := (h p (List.mem_cons_self ..)).2
    show p.den * dp t ≤ _
    rw [List.length_cons, Nat.mul_succ, Nat.pow_add, Nat.mul_comm]
    exact Nat.mul_le_mul a (Nat.le_of_lt b)
theorem mxQ_ge (a b : Rat) : a ≤ mxQ a b ∧ b ≤ mxQ a b := by
  unfold mxQ
  split <;> constructor <;> grind
theorem mxQ_or (a b : Rat) : mxQ a b = a ∨ mxQ a b = b := by
  unfold mxQ
  split
  · exact .inr rfl
  · exact .inl rfl
theorem mxQ_mono {a b c d : Rat} (h1 : a ≤ c) (h2 : b ≤ d) : mxQ a b ≤ mxQ c d := by
  have := mxQ_ge c d
  rcases mxQ_or a b with e | e <;> rw [e] <;> grind
theorem scale_mix {p v w : Rat} {D : Nat} {x y : Int} (hx : v * (D : Rat) = x) (hy : w * (D : Rat) = y) : ∃ z : Int, (p * v + (1 - p) * w) * ((p.den * D : Nat) : Rat) = z := by
  have e : p * (p.den : Rat) = (p.num : Rat) := mul_den p
  have e2 : (1 - p) * (p.den : Rat) = ((p.den : Int) - p.num : Int) := by
    rw [Rat.intCast_sub, ← e]
    have : (((p.den : Nat) : Int) : Rat) = (p.den : Rat) := rfl
    rw [this]
    grind
  refine ⟨p.num * x + ((p.den : Int) - p.num) * y, ?_⟩
  rw [Rat.natCast_mul, Rat.intCast_add, Rat.intCast_mul, Rat.intCast_mul, ← hx, ← hy, ← e, ← e2]
  grind
theorem noneQ_scale : ∀ row : List Rat, ∃ x : Int, noneQ row * (dp row : Rat) = x
  | [] => ⟨1, by rw [noneQ_nil, Rat.one_mul]; rfl⟩
  | p :: t => by
    obtain ⟨x, hx⟩ := noneQ_scale t
    obtain ⟨z, hz⟩ := scale_mix (p := p) (v := 0) (w := noneQ t) (D := dp t) (x := 0) (by rw [Rat.zero_mul]; rfl) hx
    refine ⟨z, ?_⟩
    rw [← hz, noneQ_cons, Rat.mul_zero, Rat.zero_add]
    rfl
theorem worth_scale {n : Rat} {D : Nat} {x : Int} (h : n * (D : Rat) = x) (c : Nat) : n * (c : Rat) * (D : Rat) = ((x * c : Int) : Rat) := by
  rw [Rat.intCast_mul, ← h]
  have : (((c : Nat) : Int) : Rat) = (c : Rat) := rfl
  rw [this]; grind
theorem none_unit {row : List Rat} (h : ∀ q ∈ row, 0 ≤ q ∧ q < 1) : 0 ≤ noneQ row ∧ noneQ row ≤ 1 := by
  have hr : Rw row := fun q hq => ⟨(h q hq).1, Rat.le_of_lt (h q hq).2⟩
  have := cf_unit row hr 0
  rwa [cf_none] at this
theorem gbk_bd {C : Nat} : ∀ (row : List Rat) (cs : List Nat), (∀ q ∈ row, 0 ≤ q ∧ q < 1) → (∀ c ∈ cs, c ≤ C) → Bd (dp row) C (gbk (pwz row cs)) ∧ 0 ≤ gbk (pwz row cs)
  | [], _, _, _ => by simp only [pwz, gbk]; exact ⟨Bd.zero _ _, Rat.le_refl⟩
  | p :: t, [], _, _ => by simp only [pwz, gbk]; exact ⟨Bd.zero _ _, Rat.le_refl⟩
  | p :: t, c :: cs, h, hc => by
    have ht : ∀ q ∈ t, 0 ≤ q ∧ q < 1 := fun q hq => h q (List.mem_cons_of_mem _ hq)
    have hp := h p (List.mem_cons_self ..)
    obtain ⟨⟨⟨x, hx⟩, b1, b2⟩, b3⟩ := gbk_bd t cs ht fun c hc' => hc c (List.mem_cons_of_mem _ hc')
    obtain ⟨y, hy⟩ := noneQ_scale t
    have hw := worth_scale hy c
    have n := none_unit ht
    have cC : (c : Rat) ≤ (C : Rat) := natCast_le' (hc c (List.mem_cons_self ..))
    have c0 := natCast_nn c
    have C0 := natCast_nn C
    have w0 := Rat.mul_nonneg n.1 c0
    have w1 := Rat.mul_le_mul_of_nonneg_right n.2 c0
    show Bd (p.den * dp t) C (p * mxQ (noneQ t * (c : Rat)) (gbk (pwz t cs)) + (1 - p) * gbk (pwz t cs)) ∧ 0 ≤ p * mxQ (noneQ t * (c : Rat)) (gbk (pwz t cs)) + (1 - p) * gbk (pwz t cs)
    obtain ⟨z, hz⟩ : ∃ z : Int, mxQ (noneQ t * (c : Rat)) (gbk (pwz t cs)) * (dp t : Rat) = z := by
      rcases mxQ_or (noneQ t * (c : Rat)) (gbk (pwz t cs)) with e | e <;> rw [e]
      · exact ⟨_, hw⟩
      · exact ⟨_, hx⟩
    have m0 := (mxQ_ge (noneQ t * (c : Rat)) (gbk (pwz t cs))).1
    have m1 : mxQ (noneQ t * (c : Rat)) (gbk (pwz t cs)) ≤ (C : Rat) := by
      rcases mxQ_or (noneQ t * (c : Rat)) (gbk (pwz t cs)) with e | e <;> rw [e] <;> grind
    generalize mxQ (noneQ t * (c : Rat)) (gbk (pwz t cs)) = m at *
    generalize gbk (pwz t cs) = v at *
    have a1 := Rat.mul_nonneg hp.1 (show 0 ≤ m by grind)
    have a2 := Rat.mul_nonneg (show 0 ≤ 1 - p by grind) b3
    have a3 := Rat.mul_le_mul_of_nonneg_left m1 hp.1
    have a4 := Rat.mul_le_mul_of_nonneg_left b2 (show 0 ≤ 1 - p by grind)
    refine ⟨⟨scale_mix hz hx, ?_, ?_⟩, ?_⟩ <;> grind
theorem gbk_bq {row : List Rat} {cs : List Nat} (h : ∀ q ∈ row, 0 ≤ q ∧ q < 1) (hb : ∀ q ∈ row, Bq 4 q) (hl : row.length ≤ 12) (hc : ∀ c ∈ cs, c ≤ 99) : Bq 60 (gbk (pwz row cs)) := by
  have b := (gbk_bd row cs h hc).1
  have d := dp_le row hb
  have e : 2 ^ (4 * row.length) ≤ 2 ^ 48 := Nat.pow_le_pow_right (by decide) (by omega)
  exact b.bq (dp_pos _) (by omega) (by omega)
theorem worth_bq {row : List Rat} {c : Nat} (h : ∀ q ∈ row, 0 ≤ q ∧ q < 1) (hb : ∀ q ∈ row, Bq 4 q) (hl : row.length ≤ 12) (hc : c ≤ 99) : Bq 60 (noneQ row * (c : Rat)) := by
  have d := dp_le row hb
  have e : 2 ^ (4 * row.length) ≤ 2 ^ 48 := Nat.pow_le_pow_right (by decide) (by omega)
  obtain ⟨y, hy⟩ := noneQ_scale row
  have n := none_unit h
  have c0 := natCast_nn c
  have w0 := Rat.mul_nonneg n.1 c0
  have w1 := Rat.mul_le_mul_of_nonneg_right n.2 c0
  have cC : (c : Rat) ≤ ((99 : Nat) : Rat) := natCast_le' hc
  have b : Bd (dp row) 99 (noneQ row * (c : Rat)) := ⟨⟨_, worth_scale hy c⟩, by grind, by grind⟩
  exact b.bq (dp_pos _) (by omega) (by omega)
/-! higher prizes, all alike -/
theorem gbk_up : ∀ (row : List Rat) (cs ds : List Nat), (∀ q ∈ row, 0 ≤ q ∧ q < 1) → cs.length = ds.length → (∀ k, cs.getD k 0 ≤ ds.getD k 0) → gbk (pwz row cs) ≤ gbk (pwz row ds)
  | [], _, _, _, _, _ => by simp only [pwz, gbk]; exact Rat.le_refl
  | p :: t, [], [], _, _, _ => by simp only [pwz, gbk]; exact Rat.le_refl
  | p :: t, [], _ :: _, _, h, _ => by cases h
  | p :: t, _ :: _, [], _, h, _ => by cases h
  | p :: t, c :: cs, d :: ds, h, hl, hk => by
    have ht : ∀ q ∈ t, 0 ≤ q ∧ q < 1 := fun q hq => h q (List.mem_cons_of_mem _ hq)
    have hp := h p (List.mem_cons_self ..)
    have i := gbk_up t cs ds ht (by simpa using hl) fun k => by
      have := hk (k + 1)
      simpa using this
    have h0 : c ≤ d := by
      have := hk 0
      simpa using this
    have w := Rat.mul_le_mul_of_nonneg_left (natCast_le' h0) (none_unit ht).1
    have m := Rat.mul_le_mul_of_nonneg_left (mxQ_mono w i) hp.1
    have r := Rat.mul_le_mul_of_nonneg_left i (show 0 ≤ 1 - p by grind)
    show p * _ + (1 - p) * _ ≤ p * _ + (1 - p) * _
    grind
theorem mxQ_times {a b : Rat} {c : Rat} (h : 0 ≤ c) : mxQ (a * c) (b * c) = mxQ a b * c := by
  by_cases hab : b ≤ a
  · rw [mxQ_l hab, mxQ_l (Rat.mul_le_mul_of_nonneg_right hab h)]
  · have lt : a < b := Rat.not_le.mp hab
    have e : mxQ a b = b := by unfold mxQ; rw [if_pos lt]
    have le := Rat.mul_le_mul_of_nonneg_right (Rat.le_of_lt lt) h
    rw [e]
    unfold mxQ
    split <;> grind
theorem gbk_like (c : Nat) : ∀ row : List Rat, gbk (pwz row (List.replicate row.length c)) = mostK 0 row * (c : Rat)
  | [] => by simp only [pwz, gbk, mostK]; grind
  | p :: t => by
    have i := gbk_like c t
    show p * mxQ (noneQ t * (c : Rat)) (gbk (pwz t (List.replicate t.length c))) + (1 - p) * gbk (pwz t (List.replicate t.length c)) = _
    rw [i, mxQ_times (natCast_nn c)]
    show _ = (mostK 0 t * (1 - p) + p * mxQ (cf t 0) (mostK 0 t)) * (c : Rat)
    rw [cf_none]
    grind
/-- naming is best where the odds behind come to no more than 1 -/
theorem mostK_small : ∀ row : List Rat, (∀ q ∈ row, 0 ≤ q ∧ q < 1) → sumQ (row.map od) ≤ 1 → mostK 0 row = cf row 1
  | [], _, _ => rfl
  | p :: t, h, ho => by
    have ht : ∀ q ∈ t, 0 ≤ q ∧ q < 1 := fun q hq => h q (List.mem_cons_of_mem _ hq)
    have hp := h p (List.mem_cons_self ..)
    have op := od_nn hp.1 hp.2
    rw [List.map_cons, sumQ_cons] at ho
    have o1 : sumQ (t.map od) ≤ 1 := by grind
    have i := mostK_small t ht o1
    have w : cf t 1 ≤ cf t 0 := by
      rw [← won_cf fun q hq => (ht q hq).2, cf_none]
      have := Rat.mul_le_mul_of_nonneg_right o1 (none_unit ht).1
      unfold won
      grind
    show mostK 0 t * (1 - p) + p * mxQ (cf t 0) (mostK 0 t) = _
    rw [i, mxQ_l w, cf_cons]
    grind
theorem best_iff {row : List Rat} (h : ∀ q ∈ row, 0 ≤ q ∧ q < 1) : noneQ row < mostK 0 row ↔ 1 < sumQ (row.map od) := by
  have hl : ∀ q ∈ row, q < 1 := fun q hq => (h q hq).2
  have n0 := noneQ_pos hl
  constructor
  · intro z
    rcases (Rat.le_total : sumQ (row.map od) ≤ 1 ∨ _) with o | o
    · rw [mostK_small row h o, ← won_cf hl] at z
      have := Rat.mul_le_mul_of_nonneg_right o (Rat.le_of_lt n0)
      unfold won at z
      grind
    · by_cases e : sumQ (row.map od) = 1
      · rw [mostK_small row h (by rw [e]; exact Rat.le_refl), ← won_cf hl] at z
        unfold won at z
        rw [e] at z
        grind
      · exact Rat.lt_of_le_of_ne o (fun q => e q.symm)
  · intro o
    have g := (mostK_ge h).1 0
    rw [List.drop_zero, ← won_cf hl] at g
    have := Rat.mul_lt_mul_of_pos_right o n0
    unfold won at g
    grind
end AX

namespace AX
open PySem PySem.Spec PyProof.Rows L2
/-! ## stretches without a sign -/
/-- how long the last stretch is, of the first so many moments -/
def hG (c : List Nat) : Nat → Nat
  | 0 => 0
  | m + 1 => if m ∈ c then 0 else hG c m + 1
/-- how long the longest one is -/
def bG (c : List Nat) : Nat → Nat
  | 0 => 0
  | m + 1 => max (bG c m) (hG c (m + 1))
theorem hG_le (c : List Nat) : ∀ m, hG c m ≤ bG c m
  | 0 => Nat.le_refl _
  | m + 1 => by unfold bG; exact Nat.le_max_right _ _
theorem hG_new (c : List Nat) {n : Nat} : ∀ m, m ≤ n → hG (c ++ [n]) m = hG c m
  | 0, _ => rfl
  | m + 1, h => by
    unfold hG
    have i := hG_new c (n := n) m (by omega)
    have : (m ∈ c ++ [n]) ↔ m ∈ c := by simp; omega
    by_cases hm : m ∈ c
    · rw [if_pos hm, if_pos (this.mpr hm)]
    · rw [if_neg hm, if_neg (fun z => hm (this.mp z)), i]
theorem bG_new (c : List Nat) {n : Nat} : ∀ m, m ≤ n → bG (c ++ [n]) m = bG c m
  | 0, _ => rfl
  | m + 1, h => by
    unfold bG
    rw [bG_new c m (by omega), hG_new c (m + 1) h]
theorem hG_snoc (c : List Nat) (n : Nat) : hG (c ++ [n]) (n + 1) = 0 := by unfold hG; rw [if_pos (by simp)]
theorem bG_snoc (c : List Nat) (n : Nat) : bG (c ++ [n]) (n + 1) = bG c n := by
  show max (bG (c ++ [n]) n) (hG (c ++ [n]) (n + 1)) = _
  rw [bG_new c n (Nat.le_refl _), hG_snoc]; omega
theorem hG_out {c : List Nat} {n : Nat} (h : ∀ a ∈ c, a < n) : hG c (n + 1) = hG c n + 1 := by
  show (if n ∈ c then 0 else hG c n + 1) = _
  rw [if_neg (fun z => by have := h n z; omega)]
theorem bG_out {c : List Nat} {n : Nat} (h : ∀ a ∈ c, a < n) : bG c (n + 1) = max (bG c n) (hG c n + 1) := by
  show max (bG c n) (hG c (n + 1)) = _
  rw [hG_out h]
/-! the chances of stretches -/
def gF (w : Nat) (row : List Rat) (j : Nat) : Rat := Pr row fun c => decide (bG c row.length < w) && decide (hG c row.length = j)
theorem sum_dlt (a : Nat) (x : Rat) (X : Nat → Rat) : ∀ w, sumQ ((List.range w).map fun j => (if a = j then x else 0) + X j) = (if a < w then x else 0) + sumQ ((List.range w).map X)
  | 0 => by simp; grind
  | w + 1 => by
    rw [List.range_succ, List.map_append, List.map_append, sumQ_app, sumQ_app, sum_dlt a x X w]
    show (if a < w then x else 0) + sumQ ((List.range w).map X) + (((if a = w then x else 0) + X w) + 0) = (if a < w + 1 then x else 0) + (sumQ ((List.range w).map X) + (X w + 0))
    by_cases h1 : a < w
    · rw [if_pos h1, if_neg (by omega), if_pos (by omega)]; grind
    · by_cases h2 : a = w
      · rw [if_neg h1, if_pos h2, if_pos (by omega)]; grind
      · rw [if_neg h1, if_neg h2, if_neg (by omega)]; grind
theorem sum_split {α : Type} {t : α → Bool} {f : α → Nat} {v : α → Rat} (w : Nat) : ∀ L : List α, (∀ c ∈ L, t c = true → f c < w) → sumQ ((L.filter t).map v) = sumQ ((List.range w).map fun j => sumQ ((L.filter fun c => t c && decide (f c = j)).map v))
  | [], _ => by
    have : ∀ w, sumQ ((List.range w).map fun _ => (0 : Rat)) = 0 := fun w => by
      induction w with
      | zero => rfl
      | succ w ih => rw [List.range_succ, List.map_append, sumQ_app, ih]; show (0 : Rat) + (0 + 0) = 0; grind
    exact (this w).symm
  | c :: L, h => by
    have ih := sum_split (t := t) (f := f) (v := v) w L fun c hc => h c (List.mem_cons_of_mem _ hc)
    by_cases ht : t c = true
    · have hl := h c (List.mem_cons_self ..) ht
      have e : ((List.range w).map fun j => sumQ (((c :: L).filter fun c => t c && decide (f c = j)).map v)) = (List.range w).map fun j => (if f c = j then v c else 0) + sumQ ((L.filter fun c => t c && decide (f c = j)).map v) := by
        refine List.map_congr_left fun j _ => ?_
        by_cases hj : f c = j
        · rw [List.filter_cons_of_pos (by simp [ht, hj]), if_pos hj]; rfl
        · rw [List.filter_cons_of_neg (by simp [hj]), if_neg hj]; grind
      rw [e, sum_dlt, if_pos hl, ← ih, List.filter_cons_of_pos ht]; rfl
    · have e : ((List.range w).map fun j => sumQ (((c :: L).filter fun c => t c && decide (f c = j)).map v)) = (List.range w).map fun j => sumQ ((L.filter fun c => t c && decide (f c = j)).map v) := by
        refine List.map_congr_left fun j _ => ?_
        rw [List.filter_cons_of_neg (by simp [ht])]
      rw [e, ← ih, List.filter_cons_of_neg ht]
/-- no stretch so long: by how long the last one is -/
theorem cov_split (w : Nat) (row : List Rat) : Pr row (fun c => decide (bG c row.length < w)) = sumQ ((List.range w).map (gF w row)) := by
  unfold Pr gF
  exact sum_split (t := fun c : List Nat × Rat => decide (bG c.1 row.length < w)) (f := fun c => hG c.1 row.length) (v := fun c => c.2) w (crs row) fun c _ ht => Nat.lt_of_le_of_lt (hG_le _ _) (of_decide_eq_true ht)
theorem gF_nil {w : Nat} (hw : 0 < w) (j : Nat) : gF w [] j = if j = 0 then 1 else 0 := by
  unfold gF
  rw [pr_nil]
  by_cases h : j = 0
  · subst h; rw [if_pos (by simp [bG, hG, hw]), if_pos rfl]
  · rw [if_neg (by simp [hG]; omega), if_neg h]
theorem gF_zero (w : Nat) (row : List Rat) (p : Rat) : gF w (row ++ [p]) 0 = sumQ ((List.range w).map (gF w row)) * p := by
  rw [← cov_split]
  unfold gF
  rw [pr_snoc]
  have e1 : Pr row (fun c => decide (bG c (row ++ [p]).length < w) && decide (hG c (row ++ [p]).length = 0)) = 0 := by
    rw [← pr_false row]
    refine pr_congr fun c hc => ?_
    rw [List.length_append, List.length_singleton, hG_out hc.2]
    simp
  have e2 : Pr row (fun c => decide (bG (c ++ [row.length]) (row ++ [p]).length < w) && decide (hG (c ++ [row.length]) (row ++ [p]).length = 0)) = Pr row fun c => decide (bG c row.length < w) := by
    refine pr_congr fun c hc => ?_
    rw [List.length_append, List.length_singleton, hG_snoc, bG_snoc]
    simp
  rw [e1, e2]
  grind
theorem gF_succ {w j : Nat} (hj : j + 1 < w) (row : List Rat) (p : Rat) : gF w (row ++ [p]) (j + 1) = gF w row j * (1 - p) := by
  unfold gF
  rw [pr_snoc]
  have e1 : Pr row (fun c => decide (bG c (row ++ [p]).length < w) && decide (hG c (row ++ [p]).length = j + 1)) = Pr row fun c => decide (bG c row.length < w) && decide (hG c row.length = j) := by
    refine pr_congr fun c hc => ?_
    rw [List.length_append, List.length_singleton, hG_out hc.2, bG_out hc.2, Bool.eq_iff_iff]
    simp only [Bool.and_eq_true, decide_eq_true_eq]
    omega
  have e2 : Pr row (fun c => decide (bG (c ++ [row.length]) (row ++ [p]).length < w) && decide (hG (c ++ [row.length]) (row ++ [p]).length = j + 1)) = 0 := by
    rw [← pr_false row]
    refine pr_congr fun c hc => ?_
    rw [List.length_append, List.length_singleton, hG_snoc]
    simp
  rw [e1, e2]
  grind
/-! each window has a sign -/
theorem hG_win {c : List Nat} : ∀ (m w : Nat), 0 < w → (hG c m < w ↔ (w ≤ m → ∃ i ∈ c, m - w ≤ i ∧ i < m))
  | 0, w, hw => by simp [hG]; omega
  | m + 1, w, hw => by
    unfold hG
    by_cases hm : m ∈ c
    · rw [if_pos hm]
      exact ⟨fun _ _ => ⟨m, hm, by omega, by omega⟩, fun _ => hw⟩
    · rw [if_neg hm]
      by_cases h1 : w = 1
      · subst h1
        constructor
        · intro z; omega
        · intro z
          obtain ⟨i, hi, h2, h3⟩ := z (by omega)
          have : i = m := by omega
          exact absurd (this ▸ hi) hm
      · have ih := hG_win (c := c) m (w - 1) (by omega)
        constructor
        · intro z hw2
          obtain ⟨i, hi, h2, h3⟩ := ih.mp (by omega) (by omega)
          exact ⟨i, hi, by omega, by omega⟩
        · intro z
          have : hG c m < w - 1 := ih.mpr fun h2 => by
            obtain ⟨i, hi, h3, h4⟩ := z (by omega)
            have : i ≠ m := fun q => hm (q ▸ hi)
            exact ⟨i, hi, by omega, by omega⟩
          omega
theorem bG_win {c : List Nat} {w : Nat} (hw : 0 < w) : ∀ n, (bG c n < w ↔ ∀ k, k + w ≤ n → ∃ i ∈ c, k ≤ i ∧ i < k + w)
  | 0 => ⟨fun _ k h => by omega, fun _ => by simp [bG]; exact hw⟩
  | n + 1 => by
    have ih := bG_win (c := c) hw n
    have hh := hG_win (c := c) (n + 1) w hw
    have e : bG c (n + 1) < w ↔ bG c n < w ∧ hG c (n + 1) < w := by
      show max (bG c n) (hG c (n + 1)) < w ↔ _
      omega
    rw [e, ih, hh]
    constructor
    · rintro ⟨h1, h2⟩ k hk
      by_cases q : k + w ≤ n
      · exact h1 k q
      · obtain ⟨i, hi, h3, h4⟩ := h2 (by omega)
        exact ⟨i, hi, by omega, by omega⟩
    · intro h
      refine ⟨fun k hk => h k (by omega), fun h2 => ?_⟩
      obtain ⟨i, hi, h3, h4⟩ := h (n + 1 - w) (by omega)
      exact ⟨i, hi, h3, by omega⟩
/-! the widest, from sign to sign -/
def wdL (c : List Nat) (n : Nat) : List Int := List.zipWith (fun one two => two - one - 1) ((-1 : Int) :: c.map fun a : Nat => (a : Int)) ((c.map fun a : Nat => (a : Int)) ++ [(n : Int)])
theorem wdL_snoc (c : List Nat) (a n : Nat) : wdL (c ++ [a]) n = wdL c a ++ [(n : Int) - a - 1] := by
  unfold wdL
  rw [List.map_append, ← List.cons_append, List.zipWith_append (by simp)]
  rfl
theorem bG_far {c : List Nat} {a : Nat} (h : ∀ b ∈ c, b < a) : ∀ d, bG (c ++ [a]) (a + 1 + d) = max (bG c a) d ∧ hG (c ++ [a]) (a + 1 + d) = d
  | 0 => ⟨by rw [Nat.add_zero, bG_snoc]; omega, by rw [Nat.add_zero, hG_snoc]⟩
  | d + 1 => by
    obtain ⟨h1, h2⟩ := bG_far h d
    have hn : ∀ b ∈ c ++ [a], b < a + 1 + d := fun b hb => by
      rcases List.mem_append.mp hb with q | q
      · have := h b q; omega
      · have := List.mem_singleton.mp q; omega
    rw [← Nat.add_assoc]
    exact ⟨by rw [bG_out hn, h1, h2]; omega, by rw [hG_out hn, h2]⟩
theorem bG_none : ∀ n, bG [] n = n ∧ hG [] n = n
  | 0 => ⟨rfl, rfl⟩
  | n + 1 => by
    obtain ⟨h1, h2⟩ := bG_none n
    have hn : ∀ b ∈ ([] : List Nat), b < n := fun b hb => by cases hb
    exact ⟨by rw [bG_out hn, h1, h2]; omega, by rw [hG_out hn, h2]⟩
theorem wdL_max {n : Nat} : ∀ (c : List Nat) (n : Nat), Asc c n → ∀ k : Int, ((∀ x ∈ wdL c n, x ≤ k) ↔ (bG c n : Int) ≤ k) := fun c => by
  induction c using snocRec with
  | h0 =>
    intro n _ k
    rw [(bG_none n).1]
    simp [wdL]
  | hs c a ih =>
    intro n h k
    have ha : a < n := h.2 a (by simp)
    have hc : ∀ b ∈ c, b < a := fun b hb => (List.pairwise_append.mp h.1).2.2 b hb a (by simp)
    have i := ih a ⟨(List.pairwise_append.mp h.1).1, hc⟩ k
    obtain ⟨d, rfl⟩ : ∃ d, n = a + 1 + d := ⟨n - a - 1, by omega⟩
    rw [wdL_snoc, (bG_far hc d).1]
    constructor
    · intro z
      have z1 := i.mp fun x hx => z x (List.mem_append_left _ hx)
      have z2 := z _ (List.mem_append_right _ (List.mem_singleton.mpr rfl))
      omega
    · intro z x hx
      rcases List.mem_append.mp hx with q | q
      · exact i.mpr (by omega) x q
      · rw [List.mem_singleton.mp q]; omega
theorem widest_eq {c : List Nat} {n : Nat} (h : Asc c n) : ∃ x xs, wdL c n = x :: xs ∧ mxL xs x = (bG c n : Int) := by
  have key := wdL_max (n := n) c n h
  cases e : wdL c n with
  | nil =>
    exfalso
    have : (wdL c n).length = c.length + 1 := by unfold wdL; simp
    rw [e] at this
    simp at this
  | cons x xs =>
    refine ⟨x, xs, rfl, ?_⟩
    rw [e] at key
    have k1 := (key (mxL xs x)).mp fun y hy => by
      rcases List.mem_cons.mp hy with rfl | q
      · exact ((mxL_iff _ xs y).mp (Int.le_refl _)).1
      · exact ((mxL_iff _ xs x).mp (Int.le_refl _)).2 y q
    have k2 := (key (bG c n)).mpr (Int.le_refl _)
    have k3 := (mxL_iff (bG c n) xs x).mpr ⟨k2 x (List.mem_cons_self ..), fun i hi => k2 i (List.mem_cons_of_mem _ hi)⟩
    omega
end AX

namespace AX
open PySem PySem.Spec PyProof.Rows L2
/-! ## rows that may end ahead: pairs of a chance and a share -/
/-- what is behind: an end, or a moment without a sign and the same there -/
def bE : List (Rat × Rat) → Rat
  | [] => 0
  | y :: t => (1 - y.1) * (y.2 + bE t)
def epz : List (Rat × Rat) → List (Rat × Rat)
  | [] => []
  | z :: t => (z.1, z.2 + bE t) :: epz t
theorem epz_len : ∀ zs : List (Rat × Rat), (epz zs).length = zs.length
  | [] => rfl
  | z :: t => by simp [epz, epz_len t]
theorem epz_drop : ∀ (zs : List (Rat × Rat)) (k : Nat), (epz zs).drop k = epz (zs.drop k)
  | _, 0 => rfl
  | [], k + 1 => rfl
  | z :: t, k + 1 => epz_drop t k
theorem epz_at : ∀ (zs : List (Rat × Rat)) (k : Nat) (h : k < zs.length), (epz zs)[k]? = some (zs[k].1, zs[k].2 + bE (zs.drop (k + 1)))
  | [], _, h => by simp at h
  | z :: t, 0, _ => rfl
  | z :: t, k + 1, h => by
    simp only [epz, List.getElem?_cons_succ, List.drop_succ_cons, List.getElem_cons_succ]
    exact epz_at t k (by simpa using h)
theorem bE_sum : ∀ zs : List (Rat × Rat), bE zs = sumQ ((List.range zs.length).map fun j => (zs.getD j (0, 0)).2 * noneQ ((zs.map (·.1)).take (j + 1)))
  | [] => rfl
  | y :: t => by
    have i := bE_sum t
    rw [List.length_cons, List.range_succ_eq_map, List.map_cons, List.map_map, sumQ_cons]
    have e : (fun j => ((y :: t).getD j (0, 0)).2 * noneQ (((y :: t).map (·.1)).take (j + 1))) ∘ Nat.succ = fun j => ((t.getD j (0, 0)).2 * noneQ ((t.map (·.1)).take (j + 1))) * (1 - y.1) := by
      funext j
      show ((y :: t).getD (j + 1) (0, 0)).2 * noneQ (((y :: t).map (·.1)).take (j + 1 + 1)) = _
      rw [List.getD_cons_succ, List.map_cons, List.take_succ_cons, noneQ_cons]
      grind
    rw [e, sumQ_mul, ← i]
    show (1 - y.1) * (y.2 + bE t) = y.2 * noneQ (((y :: t).map (·.1)).take 1) + bE t * (1 - y.1)
    rw [List.map_cons, List.take_succ_cons, List.take_zero, noneQ_cons, noneQ_nil]
    grind
/-! sizes -/
def dz (zs : List (Rat × Rat)) : Nat := dp (zs.map (·.1))
/-- shares of a common scale -/
def Ez (S : Nat) (zs : List (Rat × Rat)) : Prop := ∀ z ∈ zs, (0 ≤ z.1 ∧ z.1 < 1 ∧ Bq 4 z.1) ∧ 0 ≤ z.2 ∧ ∃ x : Int, z.2 * (S : Rat) = x
theorem Ez.drop {S : Nat} {zs : List (Rat × Rat)} (h : Ez S zs) (k : Nat) : Ez S (zs.drop k) := fun z hz => h z (List.mem_of_mem_drop hz)
theorem share_scale {v : Rat} {S : Nat} {x : Int} (h : v * (S : Rat) = x) (D : Nat) : v * ((D * S : Nat) : Rat) = ((x * D : Int) : Rat) := by
  rw [Rat.intCast_mul, ← h, Rat.natCast_mul]
  have : (((D : Nat) : Int) : Rat) = (D : Rat) := rfl
  rw [this]; grind
theorem bE_sc {S : Nat} : ∀ {zs : List (Rat × Rat)}, Ez S zs → (∃ x : Int, bE zs * ((dz zs * S : Nat) : Rat) = x) ∧ 0 ≤ bE zs ∧ bE zs ≤ sumQ (zs.map (·.2))
  | [], _ => ⟨⟨0, by show (0 : Rat) * _ = _; rw [Rat.zero_mul]; rfl⟩, Rat.le_refl, Rat.le_refl⟩
  | y :: t, h => by
    obtain ⟨⟨hp0, hp1, _⟩, hz, ⟨x, hx⟩⟩ := h y (List.mem_cons_self ..)
    obtain ⟨⟨w, hw⟩, b0, b1⟩ := bE_sc (zs := t) fun z hz => h z (List.mem_cons_of_mem _ hz)
    have s := share_scale hx (dz t)
    have e : (y.2 + bE t) * ((dz t * S : Nat) : Rat) = ((x * (dz t : Int) + w : Int) : Rat) := by
      rw [Rat.intCast_add, ← hw, ← s]; grind
    obtain ⟨z, hz'⟩ := scale_mix (p := y.1) (v := 0) (w := y.2 + bE t) (D := dz t * S) (x := 0) (by rw [Rat.zero_mul]; rfl) e
    have g := Rat.mul_nonneg (show 0 ≤ 1 - y.1 by grind) (show 0 ≤ y.2 + bE t by grind)
    have g2 := Rat.mul_nonneg hp0 (show 0 ≤ y.2 + bE t by grind)
    refine ⟨⟨z, ?_⟩, g, ?_⟩
    · rw [← hz']
      show (1 - y.1) * (y.2 + bE t) * ((y.1.den * dz t * S : Nat) : Rat) = _
      rw [Rat.mul_zero, Rat.zero_add, Nat.mul_assoc]
    · show (1 - y.1) * (y.2 + bE t) ≤ y.2 + sumQ (t.map (·.2))
      grind
theorem ge_sc {S : Nat} : ∀ {zs : List (Rat × Rat)}, Ez S zs → (∃ x : Int, gbk (epz zs) * ((dz zs * S : Nat) : Rat) = x) ∧ 0 ≤ gbk (epz zs) ∧ gbk (epz zs) ≤ sumQ (zs.map (·.2))
  | [], _ => ⟨⟨0, by show (0 : Rat) * _ = _; rw [Rat.zero_mul]; rfl⟩, Rat.le_refl, Rat.le_refl⟩
  | y :: t, h => by
    have ht : Ez S t := fun z hz => h z (List.mem_cons_of_mem _ hz)
    obtain ⟨⟨hp0, hp1, _⟩, hz, ⟨x, hx⟩⟩ := h y (List.mem_cons_self ..)
    obtain ⟨⟨w, hw⟩, b0, b1⟩ := bE_sc ht
    obtain ⟨⟨u, hu⟩, c0, c1⟩ := ge_sc ht
    have s := share_scale hx (dz t)
    have e : (y.2 + bE t) * ((dz t * S : Nat) : Rat) = ((x * (dz t : Int) + w : Int) : Rat) := by
      rw [Rat.intCast_add, ← hw, ← s]; grind
    obtain ⟨m, hm⟩ : ∃ z : Int, mxQ (y.2 + bE t) (gbk (epz t)) * ((dz t * S : Nat) : Rat) = z := by
      rcases mxQ_or (y.2 + bE t) (gbk (epz t)) with q | q <;> rw [q]
      · exact ⟨_, e⟩
      · exact ⟨_, hu⟩
    have m0 := (mxQ_ge (y.2 + bE t) (gbk (epz t))).1
    have m1 : mxQ (y.2 + bE t) (gbk (epz t)) ≤ y.2 + sumQ (t.map (·.2)) := by
      rcases mxQ_or (y.2 + bE t) (gbk (epz t)) with q | q <;> rw [q] <;> grind
    obtain ⟨z, hz'⟩ := scale_mix (p := y.1) hm hu
    have eg : gbk (epz (y :: t)) = y.1 * mxQ (y.2 + bE t) (gbk (epz t)) + (1 - y.1) * gbk (epz t) := rfl
    rw [eg]
    generalize mxQ (y.2 + bE t) (gbk (epz t)) = v at *
    generalize gbk (epz t) = g at *
    have a1 := Rat.mul_nonneg hp0 (show 0 ≤ v by grind)
    have a2 := Rat.mul_nonneg (show 0 ≤ 1 - y.1 by grind) c0
    have a3 := Rat.mul_le_mul_of_nonneg_left m1 hp0
    have a4 := Rat.mul_le_mul_of_nonneg_left (show g ≤ y.2 + sumQ (t.map (·.2)) by grind) (show 0 ≤ 1 - y.1 by grind)
    refine ⟨⟨z, ?_⟩, by grind, ?_⟩
    · rw [← hz', ← Nat.mul_assoc]; rfl
    · show _ ≤ y.2 + sumQ (t.map (·.2))
      grind
theorem sum_drop_le {zs : List (Rat × Rat)} {S : Nat} (h : Ez S zs) (k : Nat) : sumQ ((zs.drop k).map (·.2)) ≤ sumQ (zs.map (·.2)) := by
  have e : sumQ (zs.map (·.2)) = sumQ ((zs.take k).map (·.2)) + sumQ ((zs.drop k).map (·.2)) := by
    rw [← sumQ_app, ← List.map_append, List.take_append_drop]
  have n : 0 ≤ sumQ ((zs.take k).map (·.2)) := sumQ_nn fun q hq => by
    obtain ⟨z, hz, rfl⟩ := List.mem_map.mp hq
    exact (h z (List.mem_of_mem_take hz)).2.1
  grind
theorem dz_le {S : Nat} {zs : List (Rat × Rat)} (h : Ez S zs) (hl : zs.length ≤ 12) : dz zs ≤ 2 ^ 48 := by
  have d := dp_le (k := 4) (zs.map (·.1)) fun q hq => by
    obtain ⟨z, hz, rfl⟩ := List.mem_map.mp hq
    exact (h z hz).1.2.2
  exact Nat.le_trans d (Nat.pow_le_pow_right (by decide) (by rw [List.length_map]; omega))
theorem Ez.bq {S : Nat} {zs : List (Rat × Rat)} (h : Ez S zs) (h0 : 0 < S) (hS : S ≤ 1000) (hl : zs.length ≤ 12) {v : Rat} (hv : ∃ x : Int, v * ((dz zs * S : Nat) : Rat) = x) (v0 : 0 ≤ v) (v1 : v ≤ 1) : Bq 60 v := by
  have d := dz_le h hl
  have dpos : 0 < dz zs := dp_pos _
  have p : 0 < dz zs * S := Nat.mul_pos dpos h0
  have l : dz zs * S ≤ 2 ^ 48 * 1000 := Nat.mul_le_mul d hS
  have b : Bd (dz zs * S) 1 v := ⟨hv, by have : ((1 : Nat) : Rat) = 1 := rfl; grind, by have : ((1 : Nat) : Rat) = 1 := rfl; grind⟩
  exact b.bq p (by omega) (by omega)
theorem Ez.gb {S : Nat} {zs : List (Rat × Rat)} (h : Ez S zs) (h0 : 0 < S) (hS : S ≤ 1000) (hl : zs.length ≤ 12) (h1 : sumQ (zs.map (·.2)) = 1) (k : Nat) : Bq 60 (gbk (epz (zs.drop k))) ∧ Bq 60 (bE (zs.drop k)) ∧ Bq 60 (sumQ ((zs.drop k).map (·.2))) := by
  have hd := h.drop k
  have ld : (zs.drop k).length ≤ 12 := by rw [List.length_drop]; omega
  have sl := sum_drop_le h k
  obtain ⟨g1, g2, g3⟩ := ge_sc hd
  obtain ⟨b1, b2, b3⟩ := bE_sc hd
  refine ⟨hd.bq h0 hS ld g1 g2 (by grind), hd.bq h0 hS ld b1 b2 (by grind), ?_⟩
  have sc : ∀ ws : List (Rat × Rat), Ez S ws → ∃ x : Int, sumQ (ws.map (·.2)) * (S : Rat) = x := fun ws => by
    induction ws with
    | nil => exact fun _ => ⟨0, by show (0 : Rat) * _ = _; rw [Rat.zero_mul]; rfl⟩
    | cons z t ih =>
      intro hz
      obtain ⟨x, hx⟩ := (hz z (List.mem_cons_self ..)).2.2
      obtain ⟨y, hy⟩ := ih fun w hw => hz w (List.mem_cons_of_mem _ hw)
      exact ⟨x + y, by rw [Rat.intCast_add, ← hx, ← hy]; show (z.2 + _) * _ = _; grind⟩
  obtain ⟨x, hx⟩ := sc _ hd
  have n : 0 ≤ sumQ ((zs.drop k).map (·.2)) := by grind
  have b : Bd S 1 (sumQ ((zs.drop k).map (·.2))) := ⟨⟨x, hx⟩, by have : ((1 : Nat) : Rat) = 1 := rfl; grind, by have : ((1 : Nat) : Rat) = 1 := rfl; grind⟩
  exact b.bq h0 (by omega) (by omega)
/-- the worth of naming at a moment -/
theorem Ez.wb {S : Nat} {zs : List (Rat × Rat)} (h : Ez S zs) (h0 : 0 < S) (hS : S ≤ 1000) (hl : zs.length ≤ 12) (h1 : sumQ (zs.map (·.2)) = 1) (k : Nat) (hk : k < zs.length) : Bq 60 (zs[k].2 + bE (zs.drop (k + 1))) := by
  have sl := sum_drop_le h k
  have hd := h.drop k
  have ed : zs.drop k = zs[k] :: zs.drop (k + 1) := List.drop_eq_getElem_cons hk
  rw [ed] at sl hd
  obtain ⟨b1, b2, b3⟩ := bE_sc (h.drop (k + 1))
  obtain ⟨⟨hp0, hp1, hb⟩, hz, ⟨x, hx⟩⟩ := h zs[k] (List.getElem_mem hk)
  obtain ⟨w, hw⟩ := b1
  have s := share_scale hx (dz (zs.drop (k + 1)))
  have e : (zs[k].2 + bE (zs.drop (k + 1))) * ((dz (zs.drop (k + 1)) * S : Nat) : Rat) = ((x * (dz (zs.drop (k + 1)) : Int) + w : Int) : Rat) := by
    rw [Rat.intCast_add, ← hw, ← s]; grind
  have sl' : zs[k].2 + sumQ ((zs.drop (k + 1)).map (·.2)) ≤ 1 := by rw [← h1]; exact sl
  exact (h.drop (k + 1)).bq h0 hS (by rw [List.length_drop]; omega) ⟨_, e⟩ (by grind) (by grind)
/-! the end is known -/
def lastE : Nat → List Rat
  | 0 => []
  | 1 => [1]
  | n + 2 => 0 :: lastE (n + 1)
theorem lastE_eq : ∀ n, lastE (n + 1) = List.replicate n 0 ++ [1]
  | 0 => rfl
  | n + 1 => by
    show 0 :: lastE (n + 1) = _
    rw [lastE_eq n]; rfl
theorem lastE_len : ∀ n, (lastE n).length = n
  | 0 => rfl
  | 1 => rfl
  | n + 2 => by
    show (lastE (n + 1)).length + 1 = _
    rw [lastE_len (n + 1)]
theorem bE_last : ∀ (p : Rat) (t : List Rat), bE (List.zip (p :: t) (lastE (t.length + 1))) = noneQ (p :: t)
  | p, [] => by
    show (1 - p) * (1 + 0) = (1 - p) * 1
    grind
  | p, q :: t => by
    show (1 - p) * (0 + bE (List.zip (q :: t) (lastE (t.length + 1)))) = (1 - p) * noneQ (q :: t)
    rw [bE_last q t]
    grind
theorem epz_last : ∀ row : List Rat, epz (List.zip row (lastE row.length)) = pwz row (List.replicate row.length 1)
  | [] => rfl
  | [p] => by
    show [(p, (1 : Rat) + 0)] = [(p, (1 : Rat) * ((1 : Nat) : Rat))]
    have : ((1 : Nat) : Rat) = 1 := rfl
    rw [this, Rat.mul_one, Rat.add_zero]
  | p :: q :: t => by
    show (p, (0 : Rat) + bE (List.zip (q :: t) (lastE (t.length + 1)))) :: epz (List.zip (q :: t) (lastE (q :: t).length)) = (p, noneQ (q :: t) * ((1 : Nat) : Rat)) :: pwz (q :: t) (List.replicate (q :: t).length 1)
    rw [epz_last (q :: t), bE_last q t]
    have : ((1 : Nat) : Rat) = 1 := rfl
    rw [this, Rat.zero_add, Rat.mul_one]
theorem gbk_last (row : List Rat) : gbk (epz (List.zip row (lastE row.length))) = mostK 0 row := by
  rw [epz_last, gbk_like]
  have : ((1 : Nat) : Rat) = 1 := rfl
  rw [this, Rat.mul_one]
theorem sum_lastE : ∀ n, sumQ (lastE (n + 1)) = 1
  | 0 => by show (1 : Rat) + 0 = 1; grind
  | n + 1 => by
    show 0 + sumQ (lastE (n + 1)) = 1
    rw [sum_lastE n, Rat.zero_add]
theorem lastE_mem : ∀ n, ∀ q ∈ lastE n, q = 0 ∨ q = 1
  | 0, _, h => by cases h
  | 1, q, h => by
    have : q = 1 := by simpa [lastE] using h
    exact .inr this
  | n + 2, q, h => by
    rcases List.mem_cons.mp h with z | z
    · exact .inl z
    · exact lastE_mem (n + 1) q z
end AX

namespace AX
open PySem PySem.Spec PyProof.Rows L2
/-! ## days of one row: the shares are likeliest -/
def rp (x : Rat) : Nat → Rat
  | 0 => 1
  | n + 1 => rp x n * x
theorem rp_nn {x : Rat} (h : 0 ≤ x) : ∀ n, 0 ≤ rp x n
  | 0 => by show (0 : Rat) ≤ 1; decide
  | n + 1 => Rat.mul_nonneg (rp_nn h n) h
theorem rp_one : ∀ n, rp 1 n = 1
  | 0 => rfl
  | n + 1 => by show rp 1 n * 1 = 1; rw [rp_one n, Rat.mul_one]
theorem rp_mono {x y : Rat} (h0 : 0 ≤ x) (h : x ≤ y) : ∀ n, rp x n ≤ rp y n
  | 0 => Rat.le_refl
  | n + 1 => by
    have a := Rat.mul_le_mul_of_nonneg_right (rp_mono h0 h n) h0
    have b := Rat.mul_le_mul_of_nonneg_left h (rp_nn (Rat.le_trans h0 h) n)
    exact Rat.le_trans a b
theorem rp_le_one {x : Rat} (h0 : 0 ≤ x) (h : x ≤ 1) (n : Nat) : rp x n ≤ 1 := by
  have := rp_mono h0 h n
  rwa [rp_one] at this
theorem rp_add (x : Rat) (m : Nat) : ∀ n, rp x (m + n) = rp x m * rp x n
  | 0 => by show rp x m = rp x m * 1; rw [Rat.mul_one]
  | n + 1 => by
    show rp x (m + n) * x = rp x m * (rp x n * x)
    rw [rp_add x m n, Rat.mul_assoc]
theorem rp_rp (x : Rat) (m : Nat) : ∀ n, rp (rp x m) n = rp x (m * n)
  | 0 => rfl
  | n + 1 => by
    show rp (rp x m) n * rp x m = rp x (m * (n + 1))
    rw [Nat.mul_succ, rp_add, rp_rp x m n]
theorem rp_mul (x y : Rat) : ∀ n, rp (x * y) n = rp x n * rp y n
  | 0 => by show (1 : Rat) = 1 * 1; rw [Rat.mul_one]
  | n + 1 => by
    show rp (x * y) n * (x * y) = rp x n * x * (rp y n * y)
    rw [rp_mul x y n]; grind
theorem bern {x : Rat} (h : 0 ≤ 1 + x) : ∀ n : Nat, 1 + (n : Rat) * x ≤ rp (1 + x) n
  | 0 => by
    have : ((0 : Nat) : Rat) = 0 := rfl
    rw [this]; show 1 + 0 * x ≤ 1; grind
  | n + 1 => by
    have i := Rat.mul_le_mul_of_nonneg_right (bern h n) h
    have e : ((n + 1 : Nat) : Rat) = (n : Rat) + 1 := by rw [Rat.natCast_add]; rfl
    have sq : 0 ≤ (n : Rat) * (x * x) := Rat.mul_nonneg (natCast_nn n) (by
      rcases (Rat.le_total : 0 ≤ x ∨ _) with z | z
      · exact Rat.mul_nonneg z z
      · have := Rat.mul_nonneg (show 0 ≤ -x by grind) (show 0 ≤ -x by grind); grind)
    show 1 + ((n + 1 : Nat) : Rat) * x ≤ rp (1 + x) n * (1 + x)
    rw [e]
    refine Rat.le_trans ?_ i
    grind
theorem two_le {a b : Nat} {u v : Rat} (hb : 1 ≤ b) (hu : 0 ≤ u) (hv : 0 ≤ v) (h1 : u ≤ 1) (h : (a : Rat) * u + (b : Rat) * v = (a : Rat) + (b : Rat)) : rp u a * rp v b ≤ 1 := by
  have b1 : (1 : Rat) ≤ (b : Rat) := by
    have := natCast_le' hb
    have e : ((1 : Nat) : Rat) = 1 := rfl
    rwa [e] at this
  have bne : (b : Rat) ≠ 0 := by grind
  obtain ⟨s, hs⟩ : ∃ s, s = (1 - u) * (1 / (b : Rat)) := ⟨_, rfl⟩
  have inv : (1 / (b : Rat)) * (b : Rat) = 1 := Rat.div_mul_cancel bne
  have sb : s * (b : Rat) = 1 - u := by rw [hs, Rat.mul_assoc, inv, Rat.mul_one]
  have inv0 : 0 ≤ 1 / (b : Rat) := by
    rcases (Rat.le_total : 0 ≤ 1 / (b : Rat) ∨ _) with z | z
    · exact z
    · have := Rat.mul_le_mul_of_nonneg_right z (show (0 : Rat) ≤ b by grind)
      rw [inv, Rat.zero_mul] at this
      exact absurd this (by decide)
  have s0 : 0 ≤ s := by rw [hs]; exact Rat.mul_nonneg (by grind) inv0
  have s1 : s ≤ 1 := by
    have := Rat.mul_le_mul_of_nonneg_left b1 s0
    rw [sb] at this
    grind
  have va : v = 1 + (a : Rat) * s := by
    have e : (b : Rat) * v = (b : Rat) * (1 + (a : Rat) * s) := by
      have : (a : Rat) * (s * (b : Rat)) = (a : Rat) * (1 - u) := by rw [sb]
      grind
    have q : (1 / (b : Rat)) * ((b : Rat) * v) = (1 / (b : Rat)) * ((b : Rat) * (1 + (a : Rat) * s)) := by rw [e]
    rw [← Rat.mul_assoc, ← Rat.mul_assoc, inv, Rat.one_mul, Rat.one_mul] at q
    exact q
  have ub : u = 1 + (b : Rat) * (-s) := by grind
  have l1 : u ≤ rp (1 + -s) b := by
    have := bern (x := -s) (by grind) b
    rw [← ub] at this; exact this
  have l2 : v ≤ rp (1 + s) a := by
    have := bern (x := s) (by grind) a
    rw [← va] at this; exact this
  have m1 := rp_mono hu l1 a
  have m2 := rp_mono hv l2 b
  rw [rp_rp] at m1 m2
  have p := Rat.mul_le_mul_of_nonneg_right m1 (rp_nn hv b)
  have q := Rat.mul_le_mul_of_nonneg_left m2 (rp_nn (show 0 ≤ 1 + -s by grind) (b * a))
  have e : rp (1 + -s) (b * a) * rp (1 + s) (a * b) = rp ((1 + -s) * (1 + s)) (a * b) := by rw [rp_mul, Nat.mul_comm b a]
  have sq : 0 ≤ s * s := Rat.mul_nonneg s0 s0
  have sq1 : s * s ≤ 1 := by
    have := Rat.mul_le_mul_of_nonneg_left s1 s0
    grind
  have f := rp_le_one (x := (1 + -s) * (1 + s)) (by grind) (by grind) (a * b)
  rw [← e] at f
  exact Rat.le_trans p (Rat.le_trans q f)
theorem two_le' {a b : Nat} {u v : Rat} (ha : 1 ≤ a) (hb : 1 ≤ b) (hu : 0 ≤ u) (hv : 0 ≤ v) (h : (a : Rat) * u + (b : Rat) * v = (a : Rat) + (b : Rat)) : rp u a * rp v b ≤ 1 := by
  rcases (Rat.le_total : u ≤ 1 ∨ _) with z | z
  · exact two_le hb hu hv z h
  · have a0 := natCast_nn a
    have b1 : (1 : Rat) ≤ (b : Rat) := by
      have := natCast_le' hb
      have e : ((1 : Nat) : Rat) = 1 := rfl
      rwa [e] at this
    have v1 : v ≤ 1 := by
      rcases (Rat.le_total : v ≤ 1 ∨ _) with w | w
      · exact w
      · have p1 := Rat.mul_le_mul_of_nonneg_left z a0
        have p2 := Rat.mul_nonneg (show 0 ≤ (b : Rat) - 1 by grind) (show 0 ≤ v - 1 by grind)
        grind
    have := two_le (a := b) (b := a) (u := v) (v := u) ha hv hu v1 (by grind)
    rwa [Rat.mul_comm] at this
/-- no chance makes so many signs and none likelier than their share -/
theorem share_best {a b : Nat} {p q : Rat} (h : 1 ≤ a + b) (p0 : 0 ≤ p) (p1 : p ≤ 1) (hq : q * ((a + b : Nat) : Rat) = (a : Rat)) : rp p a * rp (1 - p) b ≤ rp q a * rp (1 - q) b := by
  have n1 : (1 : Rat) ≤ ((a + b : Nat) : Rat) := by
    have := natCast_le' h
    have e : ((1 : Nat) : Rat) = 1 := rfl
    rwa [e] at this
  have nab : ((a + b : Nat) : Rat) = (a : Rat) + (b : Rat) := Rat.natCast_add ..
  have a0 := natCast_nn a
  have b0 := natCast_nn b
  obtain ⟨i, hi, hi0⟩ : ∃ i : Rat, ((a + b : Nat) : Rat) * i = 1 ∧ 0 ≤ i := by
    refine ⟨1 / ((a + b : Nat) : Rat), ?_, ?_⟩
    · rw [Rat.mul_comm]; exact Rat.div_mul_cancel (by grind)
    · rcases (Rat.le_total : 0 ≤ 1 / ((a + b : Nat) : Rat) ∨ _) with z | z
      · exact z
      · have := Rat.mul_le_mul_of_nonneg_right z (show (0 : Rat) ≤ ((a + b : Nat) : Rat) by grind)
        rw [Rat.div_mul_cancel (by grind), Rat.zero_mul] at this
        exact absurd this (by decide)
  have qe : q = (a : Rat) * i := by rw [← hq, Rat.mul_assoc, hi, Rat.mul_one]
  have q1e : 1 - q = (b : Rat) * i := by
    have : ((a : Rat) + (b : Rat)) * i = 1 := by rw [← nab]; exact hi
    rw [qe]; grind
  have q0 : 0 ≤ q := by rw [qe]; exact Rat.mul_nonneg a0 hi0
  have q10 : 0 ≤ 1 - q := by rw [q1e]; exact Rat.mul_nonneg b0 hi0
  rcases Nat.eq_zero_or_pos a with rfl | ha
  · have : q = 0 := by
      rw [qe]; have : ((0 : Nat) : Rat) = 0 := rfl
      rw [this, Rat.zero_mul]
    rw [this]
    show 1 * rp (1 - p) b ≤ 1 * rp (1 - 0) b
    rw [Rat.one_mul, Rat.one_mul, show (1 : Rat) - 0 = 1 by grind, rp_one]
    exact rp_le_one (by grind) (by grind) b
  rcases Nat.eq_zero_or_pos b with rfl | hb
  · have : 1 - q = 0 := by
      rw [q1e]; have : ((0 : Nat) : Rat) = 0 := rfl
      rw [this, Rat.zero_mul]
    rw [show q = 1 by grind]
    show rp p a * 1 ≤ rp 1 a * 1
    rw [rp_one, Rat.mul_one, Rat.mul_one]
    exact rp_le_one p0 p1 a
  have a1 : (1 : Rat) ≤ (a : Rat) := by
    have := natCast_le' (show 1 ≤ a from ha)
    have e : ((1 : Nat) : Rat) = 1 := rfl
    rwa [e] at this
  have b1 : (1 : Rat) ≤ (b : Rat) := by
    have := natCast_le' (show 1 ≤ b from hb)
    have e : ((1 : Nat) : Rat) = 1 := rfl
    rwa [e] at this
  obtain ⟨ia, hia, hia0⟩ : ∃ i : Rat, (a : Rat) * i = 1 ∧ 0 ≤ i := by
    refine ⟨1 / (a : Rat), by rw [Rat.mul_comm]; exact Rat.div_mul_cancel (by grind), ?_⟩
    rcases (Rat.le_total : 0 ≤ 1 / (a : Rat) ∨ _) with z | z
    · exact z
    · have := Rat.mul_le_mul_of_nonneg_right z a0
      rw [Rat.div_mul_cancel (by grind), Rat.zero_mul] at this
      exact absurd this (by decide)
  obtain ⟨ib, hib, hib0⟩ : ∃ i : Rat, (b : Rat) * i = 1 ∧ 0 ≤ i := by
    refine ⟨1 / (b : Rat), by rw [Rat.mul_comm]; exact Rat.div_mul_cancel (by grind), ?_⟩
    rcases (Rat.le_total : 0 ≤ 1 / (b : Rat) ∨ _) with z | z
    · exact z
    · have := Rat.mul_le_mul_of_nonneg_right z b0
      rw [Rat.div_mul_cancel (by grind), Rat.zero_mul] at this
      exact absurd this (by decide)
  have n0 : 0 ≤ ((a + b : Nat) : Rat) := by grind
  -- p = q u, 1 - p = (1 - q) v
  obtain ⟨u, hu⟩ : ∃ u, u = p * ((a + b : Nat) : Rat) * ia := ⟨_, rfl⟩
  obtain ⟨v, hv⟩ : ∃ v, v = (1 - p) * ((a + b : Nat) : Rat) * ib := ⟨_, rfl⟩
  have au : (a : Rat) * u = p * ((a + b : Nat) : Rat) := by
    rw [hu, Rat.mul_comm, Rat.mul_assoc, Rat.mul_comm ia, hia, Rat.mul_one]
  have bv : (b : Rat) * v = (1 - p) * ((a + b : Nat) : Rat) := by
    rw [hv, Rat.mul_comm, Rat.mul_assoc, Rat.mul_comm ib, hib, Rat.mul_one]
  have t := two_le' (u := u) (v := v) ha hb (by rw [hu]; exact Rat.mul_nonneg (Rat.mul_nonneg p0 n0) hia0) (by rw [hv]; exact Rat.mul_nonneg (Rat.mul_nonneg (by grind) n0) hib0) (by rw [au, bv, ← nab]; grind)
  have pu : p = q * u := by
    have : q * u = i * ((a : Rat) * u) := by rw [qe]; grind
    rw [this, au]
    have : i * (p * ((a + b : Nat) : Rat)) = p * (((a + b : Nat) : Rat) * i) := by grind
    rw [this, hi, Rat.mul_one]
  have pv : 1 - p = (1 - q) * v := by
    have : (1 - q) * v = i * ((b : Rat) * v) := by rw [q1e]; grind
    rw [this, bv]
    have : i * ((1 - p) * ((a + b : Nat) : Rat)) = (1 - p) * (((a + b : Nat) : Rat) * i) := by grind
    rw [this, hi, Rat.mul_one]
  have e : rp p a * rp (1 - p) b = rp q a * rp (1 - q) b * (rp u a * rp v b) := by
    rw [pv, rp_mul, pu, rp_mul]; grind
  rw [e]
  have nn := Rat.mul_nonneg (rp_nn q0 a) (rp_nn q10 b)
  have := Rat.mul_le_mul_of_nonneg_left t nn
  rwa [Rat.mul_one] at this
/-! products over days and moments -/
theorem prodQ_one {α : Type} : ∀ xs : List α, prodQ (xs.map fun _ => (1 : Rat)) = 1
  | [] => rfl
  | x :: xs => by rw [List.map_cons, prodQ_cons, prodQ_one xs, Rat.mul_one]
theorem prodQ_times {α : Type} (f g : α → Rat) : ∀ xs : List α, prodQ (xs.map fun x => f x * g x) = prodQ (xs.map f) * prodQ (xs.map g)
  | [] => by show (1 : Rat) = 1 * 1; rw [Rat.mul_one]
  | x :: xs => by
    rw [List.map_cons, prodQ_cons, prodQ_times f g xs, List.map_cons, List.map_cons, prodQ_cons, prodQ_cons]; grind
theorem prodQ_swap {α β : Type} (f : α → β → Rat) (ys : List β) : ∀ xs : List α, prodQ (xs.map fun x => prodQ (ys.map (f x))) = prodQ (ys.map fun y => prodQ (xs.map fun x => f x y))
  | [] => by show 1 = _; exact (prodQ_one ys).symm
  | x :: xs => by
    rw [List.map_cons, prodQ_cons, prodQ_swap f ys xs, ← prodQ_times]
    rfl
theorem prodQ_le {α : Type} {f g : α → Rat} : ∀ {xs : List α}, (∀ x ∈ xs, 0 ≤ f x ∧ f x ≤ g x) → prodQ (xs.map f) ≤ prodQ (xs.map g) ∧ 0 ≤ prodQ (xs.map f)
  | [], _ => ⟨Rat.le_refl, by show (0 : Rat) ≤ 1; decide⟩
  | x :: xs, h => by
    obtain ⟨a, b⟩ := h x (List.mem_cons_self ..)
    obtain ⟨i, j⟩ := prodQ_le (xs := xs) fun y hy => h y (List.mem_cons_of_mem _ hy)
    rw [List.map_cons, List.map_cons, prodQ_cons, prodQ_cons]
    have p1 := Rat.mul_le_mul_of_nonneg_left i a
    have p2 := Rat.mul_le_mul_of_nonneg_right b (Rat.le_trans j i)
    exact ⟨Rat.le_trans p1 p2, Rat.mul_nonneg a j⟩
/-- on how many days there is a sign at a moment -/
def onD (days : List (List Nat)) (k : Nat) : Nat := (days.filter fun c => decide (k ∈ c)).length
theorem onD_le (days : List (List Nat)) (k : Nat) : onD days k ≤ days.length := List.length_filter_le ..
theorem day_prod (p : Rat) (k : Nat) : ∀ days : List (List Nat), prodQ (days.map fun c => if k ∈ c then p else 1 - p) = rp p (onD days k) * rp (1 - p) (days.length - onD days k)
  | [] => by show (1 : Rat) = 1 * 1; rw [Rat.mul_one]
  | c :: days => by
    have i := day_prod p k days
    have l := onD_le days k
    rw [List.map_cons, prodQ_cons, i]
    by_cases h : k ∈ c
    · have e : onD (c :: days) k = onD days k + 1 := by unfold onD; rw [List.filter_cons, if_pos (decide_eq_true h)]; rfl
      rw [if_pos h, e, List.length_cons, show days.length + 1 - (onD days k + 1) = days.length - onD days k by omega]
      show p * (rp p (onD days k) * _) = rp p (onD days k) * p * _
      grind
    · have e : onD (c :: days) k = onD days k := by unfold onD; rw [List.filter_cons, if_neg (by simpa using h)]
      rw [if_neg h, e, List.length_cons, show days.length + 1 - onD days k = days.length - onD days k + 1 by omega]
      show (1 - p) * _ = _ * (rp (1 - p) (days.length - onD days k) * (1 - p))
      grind
def facD (row : List Rat) (c : List Nat) (k : Nat) : Rat := if k ∈ c then row.getD k 0 else 1 - row.getD k 0
theorem chIn_fac (row : List Rat) (c : List Nat) : chIn row c = prodQ ((List.range row.length).map (facD row c)) := by
  unfold chIn
  congr 1
  refine List.ext_getElem (by simp) fun i h1 h2 => ?_
  have hi : i < row.length := by simpa using h1
  simp [facD, List.getD_eq_getElem?_getD, List.getElem?_eq_getElem hi]
/-- how often just these days are seen -/
def dcQ (row : List Rat) (days : List (List Nat)) : Rat := prodQ (days.map (chIn row))
def dueS (days : List (List Nat)) (many : Nat) : List Rat := (List.range many).map fun k => Rat.divInt (onD days k : Int) (days.length : Int)
theorem dcQ_eq (row : List Rat) (days : List (List Nat)) : dcQ row days = prodQ ((List.range row.length).map fun k => rp (row.getD k 0) (onD days k) * rp (1 - row.getD k 0) (days.length - onD days k)) := by
  unfold dcQ
  have e : days.map (chIn row) = days.map fun c => prodQ ((List.range row.length).map (facD row c)) := List.map_congr_left fun c _ => chIn_fac row c
  rw [e, prodQ_swap]
  congr 1
  refine List.map_congr_left fun k _ => ?_
  exact day_prod (row.getD k 0) k days
theorem due_len (days : List (List Nat)) (many : Nat) : (dueS days many).length = many := by simp [dueS]
theorem due_at (days : List (List Nat)) {many k : Nat} (hk : k < many) : (dueS days many).getD k 0 = Rat.divInt (onD days k : Int) (days.length : Int) := by
  unfold dueS
  rw [List.getD_eq_getElem?_getD, List.getElem?_map, List.getElem?_range hk]; rfl
theorem days_best {row : List Rat} {days : List (List Nat)} (h : ∀ q ∈ row, 0 ≤ q ∧ q ≤ 1) (hd : 0 < days.length) : dcQ row days ≤ dcQ (dueS days row.length) days := by
  rw [dcQ_eq, dcQ_eq, due_len]
  refine (prodQ_le fun k hk => ?_).1
  have hk := List.mem_range.mp hk
  have g : row.getD k 0 = row[k] := by rw [List.getD_eq_getElem?_getD, List.getElem?_eq_getElem hk]; rfl
  have hb := h row[k] (List.getElem_mem hk)
  rw [due_at days hk, g]
  have l := onD_le days k
  have e : onD days k + (days.length - onD days k) = days.length := by omega
  have dne : ((days.length : Nat) : Rat) ≠ 0 := by
    have := natCast_le' (show 1 ≤ days.length from hd)
    have e1 : ((1 : Nat) : Rat) = 1 := rfl
    grind
  refine ⟨Rat.mul_nonneg (rp_nn hb.1 _) (rp_nn (by grind) _), share_best (by omega) hb.1 hb.2 ?_⟩
  rw [e, Rat.divInt_eq_div]
  exact Rat.div_mul_cancel dne
/-! greater chances bring more, moment by moment -/
theorem atL_le (m : Nat) : ∀ (A B P : List Rat), A.length = B.length → (∀ i, A.getD i 0 ≤ B.getD i 0) → Rw (P ++ A) → Rw (P ++ B) → atL (P ++ A) m ≤ atL (P ++ B) m
  | [], [], _, _, _, _, _ => Rat.le_refl
  | [], _ :: _, _, h, _, _, _ => by cases h
  | _ :: _, [], _, h, _, _, _ => by cases h
  | a :: A, b :: B, P, hl, h, ra, rb => by
    have h0 : a ≤ b := h 0
    have hb : 0 ≤ b ∧ b ≤ 1 := rb b (by simp)
    have s1 := atL_up (A := P) (B := A) ra h0 m
    have i := atL_le m A B (P ++ [b]) (by simpa using hl) (fun i => h (i + 1)) (fun q hq => by
      simp only [List.append_assoc, List.singleton_append, List.mem_append, List.mem_cons] at hq
      rcases hq with z | rfl | z
      · exact ra q (by simp [z])
      · exact hb
      · exact ra q (by simp [z])) (by simpa using rb)
    simp only [List.append_assoc, List.singleton_append] at i
    exact Rat.le_trans s1 i
end AX

namespace AX
open PySem PySem.Spec PyProof.Rows L2
/-! ## runs of signs -/
/-- how long the run is that ends ahead of a moment -/
def hR (c : List Nat) : Nat → Nat
  | 0 => 0
  | m + 1 => if m ∈ c then hR c m + 1 else 0
/-- how long the longest one is -/
def bR (c : List Nat) : Nat → Nat
  | 0 => 0
  | m + 1 => max (bR c m) (hR c (m + 1))
theorem hR_le (c : List Nat) : ∀ m, hR c m ≤ bR c m
  | 0 => Nat.le_refl _
  | m + 1 => by unfold bR; exact Nat.le_max_right _ _
theorem hR_len (c : List Nat) : ∀ m, hR c m ≤ m
  | 0 => Nat.le_refl _
  | m + 1 => by
    have := hR_len c m
    unfold hR
    split <;> omega
theorem bR_len (c : List Nat) : ∀ m, bR c m ≤ m
  | 0 => Nat.le_refl _
  | m + 1 => by
    have := bR_len c m
    have := hR_len c (m + 1)
    unfold bR
    omega
theorem hR_new (c : List Nat) {n : Nat} : ∀ m, m ≤ n → hR (c ++ [n]) m = hR c m
  | 0, _ => rfl
  | m + 1, h => by
    unfold hR
    have i := hR_new c (n := n) m (by omega)
    have : (m ∈ c ++ [n]) ↔ m ∈ c := by simp; omega
    by_cases hm : m ∈ c
    · rw [if_pos hm, if_pos (this.mpr hm), i]
    · rw [if_neg hm, if_neg (fun z => hm (this.mp z))]
theorem bR_new (c : List Nat) {n : Nat} : ∀ m, m ≤ n → bR (c ++ [n]) m = bR c m
  | 0, _ => rfl
  | m + 1, h => by
    unfold bR
    rw [bR_new c m (by omega), hR_new c (m + 1) h]
theorem hR_snoc (c : List Nat) (n : Nat) : hR (c ++ [n]) (n + 1) = hR c n + 1 := by
  show (if n ∈ c ++ [n] then hR (c ++ [n]) n + 1 else 0) = _
  rw [if_pos (by simp), hR_new c n (Nat.le_refl _)]
theorem bR_snoc (c : List Nat) (n : Nat) : bR (c ++ [n]) (n + 1) = max (bR c n) (hR c n + 1) := by
  show max (bR (c ++ [n]) n) (hR (c ++ [n]) (n + 1)) = _
  rw [bR_new c n (Nat.le_refl _), hR_snoc]
theorem hR_out {c : List Nat} {n : Nat} (h : ∀ a ∈ c, a < n) : hR c (n + 1) = 0 := by
  show (if n ∈ c then hR c n + 1 else 0) = _
  rw [if_neg (fun z => by have := h n z; omega)]
theorem bR_out {c : List Nat} {n : Nat} (h : ∀ a ∈ c, a < n) : bR c (n + 1) = bR c n := by
  show max (bR c n) (hR c (n + 1)) = _
  rw [hR_out h]; omega
theorem bR_far {c : List Nat} {n : Nat} (h : ∀ a ∈ c, a < n) : ∀ d, bR c (n + d) = bR c n
  | 0 => rfl
  | d + 1 => by
    show bR c (n + d + 1) = _
    rw [bR_out (fun a ha => by have := h a ha; omega), bR_far h d]
theorem hR_far {c : List Nat} {n : Nat} (h : ∀ a ∈ c, a < n) {m : Nat} (hm : n < m) : hR c m = 0 := by
  obtain ⟨d, rfl⟩ : ∃ d, m = n + d + 1 := ⟨m - n - 1, by omega⟩
  exact hR_out fun a ha => by have := h a ha; omega
/-! along a course -/
/-- behind the last sign -/
def endR (c : List Nat) : Nat := match c.getLast? with
  | some a => a + 1
  | none => 0
theorem endR_nil : endR [] = 0 := rfl
theorem endR_snoc (c : List Nat) (a : Nat) : endR (c ++ [a]) = a + 1 := by unfold endR; simp
theorem endR_lt {c : List Nat} {n : Nat} (h : Asc c n) : ∀ a ∈ c, a < endR c := by
  induction c using snocRec generalizing n with
  | h0 => intro a ha; cases ha
  | hs c b ih =>
    intro a ha
    rw [endR_snoc]
    have hc : ∀ x ∈ c, x < b := fun x hx => (List.pairwise_append.mp h.1).2.2 x hx b (by simp)
    rcases List.mem_append.mp ha with z | z
    · have := hc a z; omega
    · have := List.mem_singleton.mp z; omega
/-- a sign more: its run -/
theorem run_step {c : List Nat} {b n : Nat} (h : Asc (c ++ [b]) n) : hR (c ++ [b]) (b + 1) = (if c ≠ [] ∧ b = endR c then hR c (endR c) + 1 else 1) ∧ bR (c ++ [b]) (b + 1) = max (bR c (endR c)) (hR (c ++ [b]) (b + 1)) := by
  have hc : ∀ x ∈ c, x < b := fun x hx => (List.pairwise_append.mp h.1).2.2 x hx b (by simp)
  have ha : Asc c b := ⟨(List.pairwise_append.mp h.1).1, hc⟩
  have el := endR_lt ha
  have eb : endR c ≤ b := by
    unfold endR
    cases e : c.getLast? with
    | none => simp
    | some a => have := hc a (List.mem_of_getLast? e); simp; omega
  have e1 : hR c b + 1 = (if c ≠ [] ∧ b = endR c then hR c (endR c) + 1 else 1) := by
    by_cases h1 : c ≠ [] ∧ b = endR c
    · rw [if_pos h1, ← h1.2]
    · rw [if_neg h1]
      by_cases h2 : c = []
      · subst h2
        have : ∀ m, hR [] m = 0 := fun m => by cases m <;> simp [hR]
        rw [this]
      · have : endR c < b := by
          have : b ≠ endR c := fun z => h1 ⟨h2, z⟩
          omega
        rw [hR_far el this]
  have e2 : bR c b = bR c (endR c) := by
    have := bR_far el (b - endR c)
    rwa [show endR c + (b - endR c) = b by omega] at this
  rw [hR_snoc, bR_snoc, e2, e1]
  exact ⟨rfl, rfl⟩
theorem run_end {c : List Nat} {n : Nat} (h : Asc c n) : bR c n = bR c (endR c) := by
  have el := endR_lt h
  have eb : endR c ≤ n := by
    unfold endR
    cases e : c.getLast? with
    | none => simp
    | some a => have := h.2 a (List.mem_of_getLast? e); simp; omega
  have := bR_far el (n - endR c)
  rwa [show endR c + (n - endR c) = n by omega] at this
/-! chances -/
/-- no run has so many signs -/
def noR (w : Nat) (row : List Rat) : Rat := Pr row fun c => decide (bR c row.length < w)
def rF (w : Nat) (row : List Rat) (j : Nat) : Rat := Pr row fun c => decide (bR c row.length < w) && decide (hR c row.length = j)
theorem noR_split (w : Nat) (row : List Rat) : noR w row = sumQ ((List.range w).map (rF w row)) := by
  unfold noR Pr rF
  exact sum_split (t := fun c : List Nat × Rat => decide (bR c.1 row.length < w)) (f := fun c => hR c.1 row.length) (v := fun c => c.2) w (crs row) fun c _ ht => Nat.lt_of_le_of_lt (hR_le _ _) (of_decide_eq_true ht)
theorem rF_nil {w : Nat} (hw : 0 < w) (j : Nat) : rF w [] j = if j = 0 then 1 else 0 := by
  unfold rF
  rw [pr_nil]
  by_cases h : j = 0
  · subst h; rw [if_pos (by simp [bR, hR, hw]), if_pos rfl]
  · rw [if_neg (by simp [hR]; omega), if_neg h]
theorem rF_zero (w : Nat) (row : List Rat) (p : Rat) : rF w (row ++ [p]) 0 = noR w row * (1 - p) := by
  unfold rF noR
  rw [pr_snoc]
  have e1 : Pr row (fun c => decide (bR c (row ++ [p]).length < w) && decide (hR c (row ++ [p]).length = 0)) = Pr row fun c => decide (bR c row.length < w) := by
    refine pr_congr fun c hc => ?_
    rw [List.length_append, List.length_singleton, hR_out hc.2, bR_out hc.2]
    simp
  have e2 : Pr row (fun c => decide (bR (c ++ [row.length]) (row ++ [p]).length < w) && decide (hR (c ++ [row.length]) (row ++ [p]).length = 0)) = 0 := by
    rw [← pr_false row]
    refine pr_congr fun c hc => ?_
    rw [List.length_append, List.length_singleton, hR_snoc]
    simp
  rw [e1, e2]
  grind
theorem rF_succ {w j : Nat} (hj : j + 1 < w) (row : List Rat) (p : Rat) : rF w (row ++ [p]) (j + 1) = rF w row j * p := by
  unfold rF
  rw [pr_snoc]
  have e1 : Pr row (fun c => decide (bR c (row ++ [p]).length < w) && decide (hR c (row ++ [p]).length = j + 1)) = 0 := by
    rw [← pr_false row]
    refine pr_congr fun c hc => ?_
    rw [List.length_append, List.length_singleton, hR_out hc.2]
    simp
  have e2 : Pr row (fun c => decide (bR (c ++ [row.length]) (row ++ [p]).length < w) && decide (hR (c ++ [row.length]) (row ++ [p]).length = j + 1)) = Pr row fun c => decide (bR c row.length < w) && decide (hR c row.length = j) := by
    refine pr_congr fun c hc => ?_
    rw [List.length_append, List.length_singleton, hR_snoc, bR_snoc, Bool.eq_iff_iff]
    simp only [Bool.and_eq_true, decide_eq_true_eq]
    omega
  rw [e1, e2]
  grind
theorem noR_zero (row : List Rat) : noR 0 row = 0 := by
  unfold noR
  rw [← pr_false row]
  exact pr_congr fun c _ => by simp
theorem noR_all {w : Nat} {row : List Rat} (h : row.length < w) : noR w row = 1 := by
  unfold noR Pr
  rw [← crs_sum row]
  congr 2
  rw [List.filter_eq_self]
  intro c _
  have := bR_len c.1 row.length
  exact decide_eq_true (by omega)
/-- the longest has just so many -/
def dR (row : List Rat) (g : Nat) : Rat := noR (g + 1) row - noR g row
theorem dR_sum (row : List Rat) (m : Nat) : ∀ N, m ≤ N → sumQ (((List.range N).map (dR row)).drop m) = noR N row - noR m row := fun N => by
  induction N with
  | zero =>
    intro h
    have : m = 0 := by omega
    subst this
    show (0 : Rat) = _
    grind
  | succ N ih =>
    intro h
    by_cases hm : m ≤ N
    · have i := ih hm
      rw [List.range_succ, List.map_append, List.drop_append_of_le_length (by simpa using hm), sumQ_app, i]
      show _ + (dR row N + 0) = _
      unfold dR
      grind
    · have : m = N + 1 := by omega
      subst this
      rw [List.drop_eq_nil_of_le (by simp)]
      show (0 : Rat) = _
      grind
theorem dR_eq (row : List Rat) (g : Nat) : sumQ (((crs row).filter fun c => decide (bR c.1 row.length = g)).map (·.2)) = dR row g := by
  have b1 := bucket_sum (fun c : List Nat × Rat => bR c.1 row.length) (fun c => c.2) (crs row) (g + 1)
  have b0 := bucket_sum (fun c : List Nat × Rat => bR c.1 row.length) (fun c => c.2) (crs row) g
  rw [List.range_succ, List.map_append, sumQ_app, b0] at b1
  unfold dR noR Pr
  rw [← b1]
  show _ = _ + (_ + 0) - _
  grind
end AX

namespace AX
open PySem PySem.Spec PyProof.Rows L2
/-! ## crests are near the mean -/
theorem nn_tl {r : Rat} {R : List Rat} (h : NN (r :: R)) : 0 ≤ r ∧ NN R := ⟨h r (List.mem_cons_self ..), fun x hx => h x (List.mem_cons_of_mem _ hx)⟩
theorem es_down : ∀ {R : List Rat}, NN R → ∀ k, 0 < es R (k + 1) → 0 < es R k
  | [], _, k, h => by rw [es_nil] at h; exact absurd h (by decide)
  | r :: R, h, 0, _ => by rw [es_0]; decide
  | r :: R, h, k + 1, hp => by
    obtain ⟨h0, hR⟩ := nn_tl h
    rw [es_cons] at hp ⊢
    have a0 := es_nn hR k
    have a1 := es_nn hR (k + 1)
    have b0 := Rat.mul_nonneg h0 a0
    have key : 0 < es R (k + 1) := by
      rcases (Rat.le_total : es R (k + 2) ≤ 0 ∨ _) with z | z
      · have : 0 < r * es R (k + 1) := by grind
        rcases (Rat.le_total : es R (k + 1) ≤ 0 ∨ _) with w | w
        · have e : es R (k + 1) = 0 := Rat.le_antisymm w a1
          rw [e, Rat.mul_zero] at this
          exact absurd this (by decide)
        · refine Rat.lt_of_le_of_ne w fun e => ?_
          rw [← e, Rat.mul_zero] at this
          exact absurd this (by decide)
      · by_cases e : es R (k + 2) = 0
        · have : 0 < r * es R (k + 1) := by grind
          refine Rat.lt_of_le_of_ne a1 fun q => ?_
          rw [← q, Rat.mul_zero] at this
          exact absurd this (by decide)
        · exact es_down hR (k + 1) (Rat.lt_of_le_of_ne z fun q => e q.symm)
    grind
theorem es_strict : ∀ {R : List Rat}, NN R → ∀ k, 0 < es R (k + 1) → es R (k + 2) * es R k < es R (k + 1) * es R (k + 1)
  | [], _, k, h => by rw [es_nil] at h; exact absurd h (by decide)
  | r :: R, h, 0, hp => by
    obtain ⟨h0, hR⟩ := nn_tl h
    rw [es_cons] at hp
    rw [es_cons, es_cons, es_0]
    rw [es_0] at hp ⊢
    have t := es_tp2 hR 0 0 (Nat.le_refl _)
    rw [es_0] at t
    have t : es R 2 * 1 ≤ es R 1 * es R 1 := t
    have a1 := es_nn hR 1
    have m1 := Rat.mul_nonneg h0 a1
    have m2 := Rat.mul_nonneg h0 h0
    show (es R 2 + r * es R 1) * 1 < (es R 1 + r * 1) * (es R 1 + r * 1)
    by_cases hr : r = 0
    · subst hr
      have hp1 : 0 < es R (0 + 1) := by
        have : es R (0 + 1) + 0 * 1 = es R (0 + 1) := by grind
        rwa [this] at hp
      have s := es_strict hR 0 hp1
      rw [es_0] at s
      have s : es R 2 * 1 < es R 1 * es R 1 := s
      grind
    · have r0 : 0 < r := Rat.lt_of_le_of_ne h0 fun q => hr q.symm
      have := Rat.mul_pos r0 r0
      grind
  | r :: R, h, k + 1, hp => by
    obtain ⟨h0, hR⟩ := nn_tl h
    rw [es_cons] at hp
    rw [es_cons, es_cons, es_cons]
    have t1 := es_tp2 hR (k + 1) (k + 1) (Nat.le_refl _)
    have t2 := es_tp2 hR k k (Nat.le_refl _)
    have t3 := es_tp2 hR (k + 1) k (by omega)
    have t1 : es R (k + 3) * es R (k + 1) ≤ es R (k + 2) * es R (k + 2) := t1
    have t3 : es R (k + 3) * es R k ≤ es R (k + 2) * es R (k + 1) := t3
    have a0 := es_nn hR k
    have a1 := es_nn hR (k + 1)
    have a2 := es_nn hR (k + 2)
    have rr := Rat.mul_nonneg h0 h0
    have hp : 0 < es R (k + 2) + r * es R (k + 1) := hp
    show (es R (k + 3) + r * es R (k + 2)) * (es R (k + 1) + r * es R k) < (es R (k + 2) + r * es R (k + 1)) * (es R (k + 2) + r * es R (k + 1))
    have m3 := Rat.mul_nonneg h0 (show 0 ≤ es R (k + 2) * es R (k + 1) - es R (k + 3) * es R k by grind)
    have m2 := Rat.mul_nonneg rr (show 0 ≤ es R (k + 1) * es R (k + 1) - es R (k + 2) * es R k by grind)
    by_cases e2 : es R (k + 2) = 0
    · have pr : 0 < r * es R (k + 1) := by grind
      have hr : r ≠ 0 := fun q => by rw [q, Rat.zero_mul] at pr; exact absurd pr (by decide)
      have h1 : es R (k + 1) ≠ 0 := fun q => by rw [q, Rat.mul_zero] at pr; exact absurd pr (by decide)
      have s := es_strict hR k (Rat.lt_of_le_of_ne a1 fun q => h1 q.symm)
      have r0 : 0 < r := Rat.lt_of_le_of_ne h0 fun q => hr q.symm
      have p2 := Rat.mul_pos (Rat.mul_pos r0 r0) (show 0 < es R (k + 1) * es R (k + 1) - es R (k + 2) * es R k by grind)
      grind
    · have s := es_strict hR (k + 1) (Rat.lt_of_le_of_ne a2 fun q => e2 q.symm)
      have s : es R (k + 3) * es R (k + 1) < es R (k + 2) * es R (k + 2) := s
      grind
theorem es_some : ∀ {R : List Rat}, NN R → ∀ k, 0 < es R (k + 1) → ∃ i, ∃ h : i < R.length, 0 < R[i]
  | [], _, k, h => by rw [es_nil] at h; exact absurd h (by decide)
  | r :: R, h, k, hp => by
    obtain ⟨h0, hR⟩ := nn_tl h
    rw [es_cons] at hp
    by_cases hr : r = 0
    · rw [hr, Rat.zero_mul, Rat.add_zero] at hp
      obtain ⟨i, hi, p⟩ := es_some hR k hp
      exact ⟨i + 1, by simpa using hi, by simpa using p⟩
    · exact ⟨0, by simp, Rat.lt_of_le_of_ne h0 fun q => hr q.symm⟩
theorem es_over : ∀ (R : List Rat) (k : Nat), R.length ≤ k → es R (k + 1) = 0
  | [], k, _ => es_nil k
  | r :: R, 0, h => by simp at h
  | r :: R, k + 1, h => by
    have hl : R.length ≤ k := by simpa using h
    rw [es_cons, es_over R (k + 1) (by omega), es_over R k hl, Rat.mul_zero, Rat.zero_add]
/-! without one of them -/
theorem es_erase : ∀ (R : List Rat) (i k : Nat) (h : i < R.length), es R (k + 1) = es (R.eraseIdx i) (k + 1) + R[i] * es (R.eraseIdx i) k
  | [], _, _, h => by simp at h
  | x :: R, 0, k, _ => es_cons x R k
  | x :: R, i + 1, 0, h => by
    have hi : i < R.length := by simpa using h
    have i0 := es_erase R i 0 hi
    rw [es_0, Rat.mul_one] at i0
    show es (x :: R) 1 = es (x :: R.eraseIdx i) 1 + R[i] * es (x :: R.eraseIdx i) 0
    rw [es_cons, es_cons, es_0, es_0, es_0, i0]
    grind
  | x :: R, i + 1, k + 1, h => by
    have hi : i < R.length := by simpa using h
    have i1 := es_erase R i (k + 1) hi
    have i0 := es_erase R i k hi
    show es (x :: R) (k + 1 + 1) = es (x :: R.eraseIdx i) (k + 1 + 1) + R[i] * es (x :: R.eraseIdx i) (k + 1)
    rw [es_cons, es_cons, es_cons, i1, i0]
    grind
theorem nn_erase {R : List Rat} (h : NN R) (i : Nat) : NN (R.eraseIdx i) := fun x hx => h x (List.mem_of_mem_eraseIdx hx)
theorem sum_ones {α : Type} : ∀ xs : List α, sumQ (xs.map fun _ => (1 : Rat)) = (xs.length : Rat)
  | [] => rfl
  | x :: xs => by
    rw [List.map_cons, sumQ_cons, sum_ones xs, List.length_cons, Rat.natCast_add]
    show 1 + (xs.length : Rat) = (xs.length : Rat) + 1
    grind
theorem er_sum1 : ∀ (R : List Rat) (k : Nat), sumQ ((List.range R.length).map fun i => es (R.eraseIdx i) k) + (k : Rat) * es R k = (R.length : Rat) * es R k
  | [], 0 => by
    show sumQ [] + ((0 : Nat) : Rat) * es [] 0 = ((0 : Nat) : Rat) * es [] 0
    show (0 : Rat) + _ = _
    grind
  | [], k + 1 => by
    show sumQ [] + ((k + 1 : Nat) : Rat) * es [] (k + 1) = ((0 : Nat) : Rat) * es [] (k + 1)
    rw [es_nil]; show (0 : Rat) + _ = _; grind
  | x :: R, 0 => by
    have e : (List.range (x :: R).length).map (fun i => es ((x :: R).eraseIdx i) 0) = (List.range (x :: R).length).map fun _ => (1 : Rat) := List.map_congr_left fun i _ => es_0 _
    rw [e, sum_ones, List.length_range, es_0]
    have : ((0 : Nat) : Rat) = 0 := rfl
    rw [this]; grind
  | x :: R, k + 1 => by
    have i1 := er_sum1 R (k + 1)
    have i0 := er_sum1 R k
    have e : (List.range (x :: R).length).map (fun i => es ((x :: R).eraseIdx i) (k + 1)) = es R (k + 1) :: (List.range R.length).map fun i => es (R.eraseIdx i) (k + 1) + es (R.eraseIdx i) k * x := by
      rw [List.length_cons, List.range_succ_eq_map, List.map_cons, List.map_map]
      congr 1
      refine List.map_congr_left fun i _ => ?_
      show es (x :: R.eraseIdx i) (k + 1) = _
      rw [es_cons, Rat.mul_comm x]
    rw [e, sumQ_cons, sumQ_add, sumQ_mul x (fun i => es (R.eraseIdx i) k), es_cons, List.length_cons]
    have n1 : ((R.length + 1 : Nat) : Rat) = (R.length : Rat) + 1 := Rat.natCast_add ..
    have k1 : ((k + 1 : Nat) : Rat) = (k : Rat) + 1 := Rat.natCast_add ..
    rw [k1] at i1
    rw [n1, k1]
    generalize sumQ ((List.range R.length).map fun i => es (R.eraseIdx i) (k + 1)) = S1 at *
    generalize sumQ ((List.range R.length).map fun i => es (R.eraseIdx i) k) = S0 at *
    generalize es R (k + 1) = a1 at *
    generalize es R k = a0 at *
    grind
theorem er_sum2 : ∀ (R : List Rat) (k : Nat), sumQ ((List.range R.length).map fun i => R.getD i 0 * es (R.eraseIdx i) k) = ((k : Rat) + 1) * es R (k + 1)
  | [], k => by rw [es_nil, Rat.mul_zero]; rfl
  | x :: R, 0 => by
    have i0 := er_sum2 R 0
    have e : (List.range (x :: R).length).map (fun i => (x :: R).getD i 0 * es ((x :: R).eraseIdx i) 0) = x :: (List.range R.length).map fun i => R.getD i 0 * es (R.eraseIdx i) 0 := by
      rw [List.length_cons, List.range_succ_eq_map, List.map_cons, List.map_map]
      congr 1
      · show x * es _ 0 = x
        rw [es_0, Rat.mul_one]
      · refine List.map_congr_left fun i _ => ?_
        show (x :: R).getD (i + 1) 0 * es _ 0 = _
        rw [es_0, es_0, List.getD_cons_succ]
    rw [e, sumQ_cons, i0, es_cons, es_0]
    have : ((0 : Nat) : Rat) = 0 := rfl
    rw [this]; grind
  | x :: R, k + 1 => by
    have i1 := er_sum2 R (k + 1)
    have i0 := er_sum2 R k
    have e : (List.range (x :: R).length).map (fun i => (x :: R).getD i 0 * es ((x :: R).eraseIdx i) (k + 1)) = x * es R (k + 1) :: (List.range R.length).map fun i => R.getD i 0 * es (R.eraseIdx i) (k + 1) + R.getD i 0 * es (R.eraseIdx i) k * x := by
      rw [List.length_cons, List.range_succ_eq_map, List.map_cons, List.map_map]
      congr 1
      refine List.map_congr_left fun i _ => ?_
      show (x :: R).getD (i + 1) 0 * es (x :: R.eraseIdx i) (k + 1) = _
      rw [es_cons, List.getD_cons_succ]
      grind
    rw [e, sumQ_cons, sumQ_add, sumQ_mul x (fun i => R.getD i 0 * es (R.eraseIdx i) k), i1, i0, es_cons]
    have k1 : ((k + 1 : Nat) : Rat) = (k : Rat) + 1 := Rat.natCast_add ..
    rw [k1]
    grind
theorem sumQ_pos : ∀ {qs : List Rat}, (∀ q ∈ qs, 0 ≤ q) → (∃ q ∈ qs, 0 < q) → 0 < sumQ qs
  | [], _, ⟨_, h, _⟩ => by cases h
  | q :: qs, h, ⟨p, hp, p0⟩ => by
    have h0 := h q (List.mem_cons_self ..)
    have ht := sumQ_nn fun x hx => h x (List.mem_cons_of_mem q hx)
    rw [sumQ_cons]
    rcases List.mem_cons.mp hp with rfl | z
    · grind
    · have := sumQ_pos (fun x hx => h x (List.mem_cons_of_mem q hx)) ⟨p, z, p0⟩
      grind
theorem od_rel {p : Rat} (h1 : p < 1) : od p * (1 - p) = p := by
  unfold od
  exact Rat.div_mul_cancel (by grind)
theorem od_pos {p : Rat} (h0 : 0 < p) (h1 : p < 1) : 0 < od p := by
  have r := od_rel h1
  rcases (Rat.le_total : od p ≤ 0 ∨ _) with z | z
  · have := Rat.mul_le_mul_of_nonneg_right z (show 0 ≤ 1 - p by grind)
    grind
  · refine Rat.lt_of_le_of_ne z fun q => ?_
    rw [← q, Rat.zero_mul] at r
    grind
section
variable {qs : List Rat} (h : ∀ q ∈ qs, 0 ≤ q ∧ q < 1)
include h
theorem nn_ods : NN (qs.map od) := nn_od h
theorem od_at {i : Nat} (hi : i < qs.length) : (qs.map od)[i]'(by simpa using hi) = od qs[i] := by simp
theorem mean_rest (n : Nat) (hn : n = qs.length) (e : Rat) : sumQ ((List.range n).map fun i => (1 - qs.getD i 0) * e) = ((n : Rat) - sumQ qs) * e := by
  subst hn
  have e1 : (List.range qs.length).map (fun i => (1 - qs.getD i 0) * e) = (qs.map fun q => 1 - q).map fun q => q * e := by
    refine List.ext_getElem (by simp) fun i h1 h2 => ?_
    have hi : i < qs.length := by simpa using h1
    simp [List.getD_eq_getElem?_getD, List.getElem?_eq_getElem hi]
  rw [e1, sumQ_mul e (fun q => q) (qs.map fun q => 1 - q)]
  congr 1
  rw [List.map_id']
  clear h e1
  induction qs with
  | nil => show (0 : Rat) = ((0 : Nat) : Rat) - 0; have : ((0 : Nat) : Rat) = 0 := rfl; rw [this]; grind
  | cons q t ih =>
    rw [List.map_cons, sumQ_cons, ih, List.length_cons, sumQ_cons]
    have : ((t.length + 1 : Nat) : Rat) = (t.length : Rat) + 1 := Rat.natCast_add ..
    rw [this]; grind
/-- where one more is likelier, the mean is above -/
theorem mean_above {k : Nat} (h1 : es (qs.map od) k ≤ es (qs.map od) (k + 1)) (hp : 0 < es (qs.map od) (k + 1)) : (k : Rat) < sumQ qs := by
  obtain ⟨R, hR⟩ : ∃ R, R = qs.map od := ⟨_, rfl⟩
  have nn : NN R := by rw [hR]; exact nn_ods h
  have lR : R.length = qs.length := by rw [hR]; simp
  rw [← hR] at h1 hp
  have e0 := es_down nn k hp
  have each : ∀ i (hi : i < qs.length), (1 - qs[i]) * es R k ≤ es (R.eraseIdx i) k ∧ (0 < qs[i] → (1 - qs[i]) * es R k < es (R.eraseIdx i) k) := fun i hi => by
    have hq := h qs[i] (List.getElem_mem hi)
    have ro : R[i]'(by omega) = od qs[i] := by
      have := od_at h hi
      subst hR
      exact this
    have rel := od_rel hq.2
    have nne := nn_erase nn i
    have op := od_nn hq.1 hq.2
    cases k with
    | zero =>
      rw [es_0, es_0]
      exact ⟨by grind, fun _ => by grind⟩
    | succ k =>
      have d1 := es_erase R i k (by omega)
      have d2 := es_erase R i (k + 1) (by omega)
      rw [ro] at d1 d2
      have na := es_nn nne (k + 1)
      have nb := es_nn nne k
      have nc := es_nn nne (k + 2)
      have tp := es_tp2 nne k k (Nat.le_refl _)
      have d2 : es R (k + 2) = es (R.eraseIdx i) (k + 2) + od qs[i] * es (R.eraseIdx i) (k + 1) := d2
      have strict : 0 < qs[i] → es (R.eraseIdx i) k < es (R.eraseIdx i) (k + 1) := fun p0 => by
        have o0 := od_pos p0 hq.2
        have hp : 0 < es R (k + 2) := hp
        have h1 : es R (k + 1) ≤ es R (k + 2) := h1
        have st := es_strict nne k
        have dn := es_down nne (k + 1)
        have dn : 0 < es (R.eraseIdx i) (k + 2) → 0 < es (R.eraseIdx i) (k + 1) := dn
        rw [d1, d2] at h1
        rw [d2] at hp
        clear d1 d2 e0
        generalize es (R.eraseIdx i) (k + 2) = c at *
        generalize es (R.eraseIdx i) (k + 1) = a at *
        generalize es (R.eraseIdx i) k = b at *
        generalize od qs[i] = o at *
        refine Rat.not_le.mp fun ab => ?_
        have m := Rat.mul_nonneg op (show 0 ≤ b - a by grind)
        have ca : a ≤ c := by grind
        by_cases a0 : a = 0
        · subst a0
          rw [Rat.mul_zero, Rat.add_zero] at hp
          exact absurd (dn hp) (by decide)
        · have ap : 0 < a := Rat.lt_of_le_of_ne na fun q => a0 q.symm
          have s := st ap
          have m1 := Rat.mul_le_mul_of_nonneg_right ca nb
          have m2 := Rat.mul_le_mul_of_nonneg_left ab na
          grind
      have ev : (1 - qs[i]) * es R (k + 1) = (1 - qs[i]) * es (R.eraseIdx i) (k + 1) + qs[i] * es (R.eraseIdx i) k := by
        rw [d1]
        have : (1 - qs[i]) * (od qs[i] * es (R.eraseIdx i) k) = od qs[i] * (1 - qs[i]) * es (R.eraseIdx i) k := by grind
        rw [rel] at this
        grind
      rw [ev]
      have lt : 0 < qs[i] → (1 - qs[i]) * es (R.eraseIdx i) (k + 1) + qs[i] * es (R.eraseIdx i) k < es (R.eraseIdx i) (k + 1) := fun p0 => by
        have s := strict p0
        have := Rat.mul_lt_mul_of_pos_left s p0
        grind
      refine ⟨?_, lt⟩
      by_cases p0 : qs[i] = 0
      · rw [p0]; grind
      · exact Rat.le_of_lt (lt (Rat.lt_of_le_of_ne hq.1 fun q => p0 q.symm))
  obtain ⟨i, hi, po⟩ := es_some nn k hp
  have hi' : i < qs.length := by omega
  have po : 0 < qs[i] := by
    have ro : R[i]'(by omega) = od qs[i] := by
      have := od_at h hi'
      subst hR
      exact this
    rw [ro] at po
    have hq := h qs[i] (List.getElem_mem hi')
    refine Rat.lt_of_le_of_ne hq.1 fun q => ?_
    rw [← q] at po
    exact absurd po (by unfold od; decide +kernel)
  have pos : 0 < sumQ ((List.range qs.length).map fun i => es (R.eraseIdx i) k + -((1 - qs.getD i 0) * es R k)) := sumQ_pos (fun q hq => by
    obtain ⟨j, hj, rfl⟩ := List.mem_map.mp hq
    have hj := List.mem_range.mp hj
    have g : qs.getD j 0 = qs[j] := by rw [List.getD_eq_getElem?_getD, List.getElem?_eq_getElem hj]; rfl
    rw [g]
    have := (each j hj).1
    grind) ⟨_, List.mem_map.mpr ⟨i, List.mem_range.mpr hi', rfl⟩, by
    have g : qs.getD i 0 = qs[i] := by rw [List.getD_eq_getElem?_getD, List.getElem?_eq_getElem hi']; rfl
    rw [g]
    have := (each i hi').2 po
    grind⟩
  have s1 := er_sum1 R k
  rw [lR] at s1
  have s2 := mean_rest h qs.length rfl (es R k)
  have neg : ∀ xs : List Nat, sumQ (xs.map fun i => es (R.eraseIdx i) k + -((1 - qs.getD i 0) * es R k)) = sumQ (xs.map fun i => es (R.eraseIdx i) k) - sumQ (xs.map fun i => (1 - qs.getD i 0) * es R k) := fun xs => by
    induction xs with
    | nil => show (0 : Rat) = 0 - 0; grind
    | cons x xs ih => rw [List.map_cons, List.map_cons, List.map_cons, sumQ_cons, sumQ_cons, sumQ_cons, ih]; grind
  rw [neg, s2] at pos
  have fin : 0 < (sumQ qs - (k : Rat)) * es R k := by grind
  rcases (Rat.le_total : sumQ qs - (k : Rat) ≤ 0 ∨ _) with z | z
  · have := Rat.mul_le_mul_of_nonneg_right z (Rat.le_of_lt e0)
    rw [Rat.zero_mul] at this
    grind
  · refine Rat.lt_of_le_of_ne (by grind) fun q => ?_
    rw [← q] at fin
    grind
/-- where one less is likelier, the mean is below -/
theorem mean_below {k : Nat} (h1 : es (qs.map od) (k + 1) ≤ es (qs.map od) k) (hp : 0 < es (qs.map od) k) : sumQ qs < (k : Rat) + 1 := by
  obtain ⟨R, hR⟩ : ∃ R, R = qs.map od := ⟨_, rfl⟩
  have nn : NN R := by rw [hR]; exact nn_ods h
  have lR : R.length = qs.length := by rw [hR]; simp
  rw [← hR] at h1 hp
  have ro : ∀ i (hi : i < qs.length), R[i]'(by omega) = od qs[i] := fun i hi => by
    have := od_at h hi
    subst hR
    exact this
  have g : ∀ i (hi : i < qs.length), qs.getD i 0 = qs[i] := fun i hi => by rw [List.getD_eq_getElem?_getD, List.getElem?_eq_getElem hi]; rfl
  have gR : ∀ i (hi : i < qs.length), R.getD i 0 = od qs[i] := fun i hi => by rw [List.getD_eq_getElem?_getD, List.getElem?_eq_getElem (by omega)]; exact ro i hi
  by_cases z : es R (k + 1) = 0
  · -- no more signs than k
    have each : ∀ i (hi : i < qs.length), es (R.eraseIdx i) k ≤ (1 - qs[i]) * es R k := fun i hi => by
      have hq := h qs[i] (List.getElem_mem hi)
      have nne := nn_erase nn i
      have d := es_erase R i k (by omega)
      rw [ro i hi, z] at d
      have na := es_nn nne (k + 1)
      have nb := es_nn nne k
      have m := Rat.mul_nonneg (od_nn hq.1 hq.2) nb
      by_cases p0 : qs[i] = 0
      · have o0 : od qs[i] = 0 := by rw [p0]; unfold od; decide +kernel
        have e : es R k = es (R.eraseIdx i) k := by
          cases k with
          | zero => rw [es_0, es_0]
          | succ k =>
            have := es_erase R i k (by omega)
            rw [ro i hi, o0, Rat.zero_mul, Rat.add_zero] at this
            exact this
        rw [p0, e]; grind
      · have o0 := od_pos (Rat.lt_of_le_of_ne hq.1 fun q => p0 q.symm) hq.2
        have b0 : es (R.eraseIdx i) k = 0 := by
          have e : od qs[i] * es (R.eraseIdx i) k = 0 := by grind
          rcases Rat.mul_eq_zero.mp e with w | w
          · rw [w] at o0; exact absurd o0 (by decide)
          · exact w
        rw [b0]
        exact Rat.mul_nonneg (by grind) (Rat.le_of_lt hp)
    have nn2 : 0 ≤ sumQ ((List.range qs.length).map fun i => (1 - qs.getD i 0) * es R k + -(es (R.eraseIdx i) k)) := sumQ_nn fun q hq => by
      obtain ⟨j, hj, rfl⟩ := List.mem_map.mp hq
      have hj := List.mem_range.mp hj
      rw [g j hj]
      have := each j hj
      grind
    have neg : ∀ xs : List Nat, sumQ (xs.map fun i => (1 - qs.getD i 0) * es R k + -(es (R.eraseIdx i) k)) = sumQ (xs.map fun i => (1 - qs.getD i 0) * es R k) - sumQ (xs.map fun i => es (R.eraseIdx i) k) := fun xs => by
      induction xs with
      | nil => show (0 : Rat) = 0 - 0; grind
      | cons x xs ih => rw [List.map_cons, List.map_cons, List.map_cons, sumQ_cons, sumQ_cons, sumQ_cons, ih]; grind
    have s1 := er_sum1 R k
    rw [lR] at s1
    rw [neg, mean_rest h qs.length rfl (es R k)] at nn2
    have fin : 0 ≤ ((k : Rat) - sumQ qs) * es R k := by grind
    rcases (Rat.le_total : sumQ qs ≤ (k : Rat) ∨ _) with w | w
    · grind
    · by_cases e : sumQ qs = (k : Rat)
      · grind
      · have lt : (k : Rat) < sumQ qs := Rat.lt_of_le_of_ne w fun q => e q.symm
        have := Rat.mul_pos (show 0 < sumQ qs - (k : Rat) by grind) hp
        grind
  · have e1 : 0 < es R (k + 1) := Rat.lt_of_le_of_ne (es_nn nn (k + 1)) fun q => z q.symm
    have each : ∀ i (hi : i < qs.length), qs[i] * es R (k + 1) ≤ od qs[i] * es (R.eraseIdx i) k ∧ (0 < qs[i] → qs[i] * es R (k + 1) < od qs[i] * es (R.eraseIdx i) k) := fun i hi => by
      have hq := h qs[i] (List.getElem_mem hi)
      have rel := od_rel hq.2
      have nne := nn_erase nn i
      have op := od_nn hq.1 hq.2
      have d := es_erase R i k (by omega)
      rw [ro i hi] at d
      have na := es_nn nne (k + 1)
      have nb := es_nn nne k
      have ab : 0 < qs[i] → es (R.eraseIdx i) (k + 1) < es (R.eraseIdx i) k := fun p0 => by
        have o0 := od_pos p0 hq.2
        refine Rat.not_le.mp fun ba => ?_
        cases k with
        | zero =>
          rw [es_0] at h1 ba d
          grind
        | succ k =>
          have d0 := es_erase R i k (by omega)
          rw [ro i hi] at d0
          have tp := es_tp2 nne k k (Nat.le_refl _)
          have st := es_strict nne k
          have dn := es_down nne (k + 1)
          rw [d, d0] at h1
          rw [d] at e1
          have nc := es_nn nne k
          have d' := d
          clear d d0 d' z
          have h1 : es (R.eraseIdx i) (k + 2) + od qs[i] * es (R.eraseIdx i) (k + 1) ≤ es (R.eraseIdx i) (k + 1) + od qs[i] * es (R.eraseIdx i) k := h1
          have ba : es (R.eraseIdx i) (k + 1) ≤ es (R.eraseIdx i) (k + 2) := ba
          have e1 : 0 < es (R.eraseIdx i) (k + 2) + od qs[i] * es (R.eraseIdx i) (k + 1) := e1
          have dn : 0 < es (R.eraseIdx i) (k + 2) → 0 < es (R.eraseIdx i) (k + 1) := dn
          have na : 0 ≤ es (R.eraseIdx i) (k + 2) := na
          generalize es (R.eraseIdx i) (k + 2) = a at *
          generalize es (R.eraseIdx i) (k + 1) = b at *
          generalize es (R.eraseIdx i) k = c at *
          generalize od qs[i] = o at *
          have cb : b ≤ c := by
            rcases (Rat.le_total : b ≤ c ∨ _) with w | w
            · exact w
            · by_cases e : c = b
              · rw [e]; exact Rat.le_refl
              · have := Rat.mul_pos o0 (show 0 < b - c by
                  have : c < b := Rat.lt_of_le_of_ne w e
                  grind)
                grind
          by_cases b0 : b = 0
          · subst b0
            rw [Rat.mul_zero, Rat.add_zero] at e1
            exact absurd (dn e1) (by decide)
          · have bp : 0 < b := Rat.lt_of_le_of_ne nb fun q => b0 q.symm
            have s := st bp
            have m1 := Rat.mul_le_mul_of_nonneg_right ba nc
            have m2 := Rat.mul_le_mul_of_nonneg_left cb nb
            grind
      have lt : 0 < qs[i] → qs[i] * es R (k + 1) < od qs[i] * es (R.eraseIdx i) k := fun p0 => by
        have s := ab p0
        have o0 := od_pos p0 hq.2
        rw [d]
        have q1 : 0 < 1 - qs[i] := by grind
        -- p (a + o b) < o b, from o (1 - p) = p
        have e : od qs[i] * es (R.eraseIdx i) k - qs[i] * (es (R.eraseIdx i) (k + 1) + od qs[i] * es (R.eraseIdx i) k) = od qs[i] * (1 - qs[i]) * es (R.eraseIdx i) k - qs[i] * es (R.eraseIdx i) (k + 1) := by grind
        rw [rel] at e
        have m := Rat.mul_lt_mul_of_pos_left s p0
        grind
      refine ⟨?_, lt⟩
      by_cases p0 : qs[i] = 0
      · have o0 : od qs[i] = 0 := by rw [p0]; unfold od; decide +kernel
        rw [o0, p0, Rat.zero_mul, Rat.zero_mul]; exact Rat.le_refl
      · exact Rat.le_of_lt (lt (Rat.lt_of_le_of_ne hq.1 fun q => p0 q.symm))
    obtain ⟨i, hi, po⟩ := es_some nn k e1
    have hi' : i < qs.length := by omega
    have po : 0 < qs[i] := by
      rw [ro i hi'] at po
      have hq := h qs[i] (List.getElem_mem hi')
      refine Rat.lt_of_le_of_ne hq.1 fun q => ?_
      rw [← q] at po
      exact absurd po (by unfold od; decide +kernel)
    have pos : 0 < sumQ ((List.range qs.length).map fun i => R.getD i 0 * es (R.eraseIdx i) k + -(qs.getD i 0 * es R (k + 1))) := sumQ_pos (fun q hq => by
      obtain ⟨j, hj, rfl⟩ := List.mem_map.mp hq
      have hj := List.mem_range.mp hj
      rw [g j hj, gR j hj]
      have := (each j hj).1
      grind) ⟨_, List.mem_map.mpr ⟨i, List.mem_range.mpr hi', rfl⟩, by
      rw [g i hi', gR i hi']
      have := (each i hi').2 po
      grind⟩
    have neg : ∀ xs : List Nat, sumQ (xs.map fun i => R.getD i 0 * es (R.eraseIdx i) k + -(qs.getD i 0 * es R (k + 1))) = sumQ (xs.map fun i => R.getD i 0 * es (R.eraseIdx i) k) - sumQ (xs.map fun i => qs.getD i 0 * es R (k + 1)) := fun xs => by
      induction xs with
      | nil => show (0 : Rat) = 0 - 0; grind
      | cons x xs ih => rw [List.map_cons, List.map_cons, List.map_cons, sumQ_cons, sumQ_cons, sumQ_cons, ih]; grind
    have s2 := er_sum2 R k
    rw [lR] at s2
    have s3 : sumQ ((List.range qs.length).map fun i => qs.getD i 0 * es R (k + 1)) = sumQ qs * es R (k + 1) := by
      have e1 : (List.range qs.length).map (fun i => qs.getD i 0 * es R (k + 1)) = qs.map fun q => q * es R (k + 1) := by
        refine List.ext_getElem (by simp) fun i h1 h2 => ?_
        have hi : i < qs.length := by simpa using h1
        simp [List.getD_eq_getElem?_getD, List.getElem?_eq_getElem hi]
      rw [e1, sumQ_mul (es R (k + 1)) (fun q => q), List.map_id']
    rw [neg, s2, s3] at pos
    have fin : 0 < ((k : Rat) + 1 - sumQ qs) * es R (k + 1) := by grind
    rcases (Rat.le_total : (k : Rat) + 1 - sumQ qs ≤ 0 ∨ _) with w | w
    · have := Rat.mul_le_mul_of_nonneg_right w (Rat.le_of_lt e1)
      rw [Rat.zero_mul] at this
      grind
    · refine Rat.lt_of_le_of_ne (by grind) fun q => ?_
      rw [q] at fin
      grind
/-- a likeliest number is nearer than 1 to the mean -/
theorem crest_near {k : Nat} (hk : k ≤ qs.length) (hm : ∀ j, j ≤ qs.length → cf qs j ≤ cf qs k) : (k : Rat) - 1 < sumQ qs ∧ sumQ qs < (k : Rat) + 1 := by
  have hl : ∀ q ∈ qs, q < 1 := fun q hq => (h q hq).2
  have n0 := noneQ_pos hl
  have nn := nn_ods h
  have es_le : ∀ j, j ≤ qs.length → es (qs.map od) j ≤ es (qs.map od) k := fun j hj => by
    have := hm j hj
    rw [cf_es _ hl, cf_es _ hl] at this
    exact Rat.le_of_mul_le_mul_right this n0
  have e0 := es_le 0 (by omega)
  rw [es_0] at e0
  have ep : 0 < es (qs.map od) k := by grind
  refine ⟨?_, mean_below h ?_ ep⟩
  · cases k with
    | zero =>
      have : ((0 : Nat) : Rat) = 0 := rfl
      have s := sumQ_nn fun q hq => (h q hq).1
      rw [this]; grind
    | succ k =>
      have a := mean_above h (es_le k (by omega)) ep
      have : ((k + 1 : Nat) : Rat) = (k : Rat) + 1 := Rat.natCast_add ..
      rw [this]; grind
  · by_cases hl2 : k + 1 ≤ qs.length
    · exact es_le (k + 1) hl2
    · rw [es_over (qs.map od) k (by rw [List.length_map]; omega)]
      exact Rat.le_of_lt ep
end
end AX

namespace AX
open PySem PySem.Spec PyProof.Rows L2
abbrev top (i : Nat) : Stmt := PySem.Challenge.pw_signstops_k12_main_whole_crests_near_the.main.body.getD i (.Pass ⟨0, 0, 0, 0⟩)
abbrev s41 : Stmt := top 41
abbrev n41 : List Str := ["well", "limit", "mixed", "figure"]
theorem sc41 : FnScope n41 ["well", "limit"] (defScope s41) := ⟨rfl, rfl, rfl, by decide +kernel, rfl, by decide +kernel, by decide +kernel⟩
noncomputable def m__law_draw : SF := (sSeq (sIf (tb (eBin bGt (eBin bIx (eVar 0) (eC (.int 0))) (eC (.int 0)))) (sSeq (sAs (eCB nDivmod (aCons (eBin bIx (eVar 0) (eC (.int 0))) (aCons (eVar 1) aNil))) (gT [(gIx (eVar 0) (eC (.int 0))), (gN 3)])) (sRt (eVar 3))) sNx) (sSeq (sAs (eBin bAdd (eBin bIx (eVar 0) (eC (.int 2))) (eC (.int 1))) (gIx (eVar 0) (eC (.int 2)))) (sSeq (sAs (eBin bMod (eCB nInt (aCons (eBin bAdd (eBin bMul (eBin bIx (eVar 0) (eC (.int 1))) (eC (.int 40009))) (eBin bMul (eC (.int 15013)) (eBin bIx (eVar 0) (eC (.int 2))))) aNil)) (eC (.int 2147483629))) (gN 2)) (sSeq (sAs (eBin bMod (eCB nInt (aCons (eBin bAdd (eBin bMul (eVar 2) (eBin bAdd (eBin bMod (eCB nInt (aCons (eVar 2) aNil)) (eC (.int 5003))) (eC (.int 20011)))) (eBin bIx (eVar 0) (eC (.int 2)))) aNil)) (eC (.int 2147483629))) (gIx (eVar 0) (eC (.int 1)))) (sRt (eBin bMod (eCB nInt (aCons (eBin bDiv (eBin bIx (eVar 0) (eC (.int 1))) (eC (.int 1031))) aNil)) (eVar 1)))))))
noncomputable def fn__law_draw : Fn := fnWith finF 2 4 m__law_draw
abbrev s42 : Stmt := top 42
abbrev n42 : List Str := ["well", "some"]
theorem sc42 : FnScope n42 ["well", "some"] (defScope s42) := ⟨rfl, rfl, rfl, by decide +kernel, rfl, by decide +kernel, by decide +kernel⟩
noncomputable def m__law_of : SF := (sRt (eBin bIx (eVar 1) (eCall fn__law_draw [] (aCons (eVar 0) (aCons (eCB nLen (aCons (eVar 1) aNil)) aNil)))))
noncomputable def fn__law_of : Fn := fnWith finF 2 2 m__law_of
abbrev s45 : Stmt := top 45
abbrev n45 : List Str := ["number", "scale", "one", "two"]
theorem sc45 : FnScope n45 ["number", "scale"] (defScope s45) := ⟨rfl, rfl, rfl, by decide +kernel, rfl, by decide +kernel, by decide +kernel⟩
noncomputable def b__law_cut_0 : SF := (sPr 2 3 (aCons (eVar 3) (aCons (eBin bSub (eVar 2) (eBin bMul (eVar 3) (eBin bDiv (eVar 2) (eVar 3)))) aNil)))
noncomputable def m__law_cut : SF := (sSeq (sPr 2 3 (aCons (eCB nAbs (aCons (eVar 0) aNil)) (aCons (eVar 1) aNil))) (sSeq (sWh (tb (eBin bGt (eVar 3) (eC (.int 0)))) b__law_cut_0) (sRt (eTup (aCons (eBin bDiv (eVar 0) (eVar 2)) (aCons (eBin bDiv (eVar 1) (eVar 2)) aNil))))))
noncomputable def fn__law_cut : Fn := fnWith finF 2 4 m__law_cut
abbrev s51 : Stmt := top 51
abbrev n51 : List Str := ["well", "scale"]
theorem sc51 : FnScope n51 ["well"] (defScope s51) := ⟨rfl, rfl, rfl, by decide +kernel, rfl, by decide +kernel, by decide +kernel⟩
noncomputable def m__law_chance : SF := (sSeq (sAs (eBin bAdd (eC (.int 2)) (eCall fn__law_draw [] (aCons (eVar 0) (aCons (eCall fn__law_of [] (aCons (eVar 0) (aCons (eTup (aCons (eC (.int 3)) (aCons (eC (.int 9)) (aCons (eC (.int 14)) aNil)))) aNil))) aNil)))) (gN 1)) (sRt (eCall fn__law_cut [] (aCons (eCall fn__law_draw [] (aCons (eVar 0) (aCons (eVar 1) aNil))) (aCons (eVar 1) aNil)))))
noncomputable def fn__law_chance : Fn := fnWith finF 1 2 m__law_chance
abbrev s52 : Stmt := top 52
abbrev n52 : List Str := ["well", "most", "some", "found", "lap"]
theorem sc52 : FnScope n52 ["well", "most"] (defScope s52) := ⟨rfl, rfl, rfl, by decide +kernel, rfl, by decide +kernel, by decide +kernel⟩
noncomputable def l__law_row_0 : EF := (eCall fn__law_chance [] (aCons (eVar 0) aNil))
noncomputable def b__law_row_0 : SF := (sEx (eApp (eVar 3) (aCons (eIf (tb (eBin bEq (eCall fn__law_draw [] (aCons (eVar 0) (aCons (eC (.int 3)) aNil))) (eC (.int 0)))) (eCall fn__law_of [] (aCons (eVar 0) (aCons (eVar 2) aNil))) (eCall fn__law_chance [] (aCons (eVar 0) aNil))) aNil)))
noncomputable def m__law_row : SF := (sSeq (sAs (eLc (iRange1 (eC (.int 4))) (gN 4) tYesF l__law_row_0 [4]) (gN 2)) (sSeq (sAs (eLstM aNil) (gN 3)) (sSeq (sFor (iRange1 (eCall fn__law_draw [] (aCons (eVar 0) (aCons (eBin bAdd (eVar 1) (eC (.int 1))) aNil)))) (gN 4) b__law_row_0) (sRt (eCB nTuple (aCons (eVar 3) aNil))))))
noncomputable def fn__law_row : Fn := fnWith finF 2 5 m__law_row
abbrev s49 : Stmt := top 49
abbrev n49 : List Str := ["chance"]
theorem sc49 : FnScope n49 ["chance"] (defScope s49) := ⟨rfl, rfl, rfl, by decide +kernel, rfl, by decide +kernel, by decide +kernel⟩
noncomputable def m__law_rest : SF := (sRt (eTup (aCons (eBin bSub (eBin bIx (eVar 0) (eC (.int 1))) (eBin bIx (eVar 0) (eC (.int 0)))) (aCons (eBin bIx (eVar 0) (eC (.int 1))) aNil))))
noncomputable def fn__law_rest : Fn := fnWith finF 1 1 m__law_rest
abbrev s43 : Stmt := top 43
abbrev n43 : List Str := ["well", "some", "turn", "left", "found"]
theorem sc43 : FnScope n43 ["well", "some"] (defScope s43) := ⟨rfl, rfl, rfl, by decide +kernel, rfl, by decide +kernel, by decide +kernel⟩
noncomputable def b__law_mixed_0 : SF := (sEx (eApp (eVar 4) (aCons (ePopI (eVar 3) (aCons (eCall fn__law_draw [] (aCons (eVar 0) (aCons (eCB nLen (aCons (eVar 3) aNil)) aNil))) aNil)) aNil)))
noncomputable def m__law_mixed : SF := (sSeq (sPr 3 4 (aCons (eCB nListM (aCons (eVar 1) aNil)) (aCons (eLstM aNil) aNil))) (sSeq (sFor (iRange1 (eCB nLen (aCons (eVar 1) aNil))) (gN 2) b__law_mixed_0) (sRt (eVar 4))))
noncomputable def fn__law_mixed : Fn := fnWith finF 2 5 m__law_mixed
abbrev s56 : Stmt := top 56
abbrev n56 : List Str := ["well", "found", "lap", "chance"]
theorem sc56 : FnScope n56 ["well"] (defScope s56) := ⟨rfl, rfl, rfl, by decide +kernel, rfl, by decide +kernel, by decide +kernel⟩
noncomputable def b__law_whole_0 : SF := (sSeq (sAs (eCall fn__law_chance [] (aCons (eVar 0) aNil)) (gN 3)) (sAs (eBin bAdd (eVar 1) (eIf (tb (eBin bGt (eBin bIx (eVar 3) (eC (.int 0))) (eC (.int 0)))) (eLst (aCons (eVar 3) (aCons (eCall fn__law_rest [] (aCons (eVar 3) aNil)) aNil))) (eLst (aCons (eTup (aCons (eC (.int 1)) (aCons (eC (.int 2)) aNil))) (aCons (eTup (aCons (eC (.int 1)) (aCons (eC (.int 2)) aNil))) aNil))))) (gN 1)))
noncomputable def m__law_whole : SF := (sSeq (sAs (eLst aNil) (gN 1)) (sSeq (sFor (iRange1 (eBin bAdd (eC (.int 1)) (eCall fn__law_draw [] (aCons (eVar 0) (aCons (eC (.int 3)) aNil))))) (gN 2) b__law_whole_0) (sRt (eCB nTuple (aCons (eCall fn__law_mixed [] (aCons (eVar 0) (aCons (eVar 1) aNil))) aNil)))))
noncomputable def fn__law_whole : Fn := fnWith finF 1 4 m__law_whole
abbrev s48 : Stmt := top 48
abbrev n48 : List Str := ["one", "two"]
theorem sc48 : FnScope n48 ["one", "two"] (defScope s48) := ⟨rfl, rfl, rfl, by decide +kernel, rfl, by decide +kernel, by decide +kernel⟩
noncomputable def m__law_times : SF := (sRt (eCall fn__law_cut [] (aCons (eBin bMul (eBin bIx (eVar 0) (eC (.int 0))) (eBin bIx (eVar 1) (eC (.int 0)))) (aCons (eBin bMul (eBin bIx (eVar 0) (eC (.int 1))) (eBin bIx (eVar 1) (eC (.int 1)))) aNil))))
noncomputable def fn__law_times : Fn := fnWith finF 2 2 m__law_times
abbrev s53 : Stmt := top 53
abbrev n53 : List Str := ["row", "found", "at", "chance", "more", "own", "part"]
theorem sc53 : FnScope n53 ["row"] (defScope s53) := ⟨rfl, rfl, rfl, by decide +kernel, rfl, by decide +kernel, by decide +kernel⟩
noncomputable def l__law_courses_0 : EF := (eTup (aCons (eVar 5) (aCons (eCall fn__law_times [] (aCons (eVar 6) (aCons (eCall fn__law_rest [] (aCons (eVar 3) aNil)) aNil))) aNil)))
noncomputable def l__law_courses_1 : EF := (eTup (aCons (eBin bAdd (eVar 5) (eTup (aCons (eVar 2) aNil))) (aCons (eCall fn__law_times [] (aCons (eVar 6) (aCons (eVar 3) aNil))) aNil)))
noncomputable def b__law_courses_0 : SF := (sSeq (sAs (eLc (iSeq (eVar 1)) (gT [(gN 5), (gN 6)]) tYesF l__law_courses_0 [5, 6]) (gN 4)) (sAs (eBin bAdd (eVar 4) (eLc (iSeq (eVar 1)) (gT [(gN 5), (gN 6)]) tYesF l__law_courses_1 [5, 6])) (gN 1)))
noncomputable def m__law_courses : SF := (sSeq (sAs (eLst (aCons (eTup (aCons (eTup aNil) (aCons (eTup (aCons (eC (.int 1)) (aCons (eC (.int 1)) aNil))) aNil))) aNil)) (gN 1)) (sSeq (sFor (iEn (eVar 0)) (gT [(gN 2), (gN 3)]) b__law_courses_0) (sRt (eVar 1))))
noncomputable def fn__law_courses : Fn := fnWith finF 1 7 m__law_courses
abbrev s46 : Stmt := top 46
abbrev n46 : List Str := ["one", "two"]
theorem sc46 : FnScope n46 ["one", "two"] (defScope s46) := ⟨rfl, rfl, rfl, by decide +kernel, rfl, by decide +kernel, by decide +kernel⟩
noncomputable def m__law_sum_of : SF := (sRt (eCall fn__law_cut [] (aCons (eBin bAdd (eBin bMul (eBin bIx (eVar 0) (eC (.int 0))) (eBin bIx (eVar 1) (eC (.int 1)))) (eBin bMul (eBin bIx (eVar 1) (eC (.int 0))) (eBin bIx (eVar 0) (eC (.int 1))))) (aCons (eBin bMul (eBin bIx (eVar 0) (eC (.int 1))) (eBin bIx (eVar 1) (eC (.int 1)))) aNil))))
noncomputable def fn__law_sum_of : Fn := fnWith finF 2 2 m__law_sum_of
abbrev s54 : Stmt := top 54
abbrev n54 : List Str := ["row", "found", "course", "part", "at"]
theorem sc54 : FnScope n54 ["row"] (defScope s54) := ⟨rfl, rfl, rfl, by decide +kernel, rfl, by decide +kernel, by decide +kernel⟩
noncomputable def l__law_counts_0 : EF := (eTup (aCons (eC (.int 0)) (aCons (eC (.int 1)) aNil)))
noncomputable def b__law_counts_0 : SF := (sAs (eCall fn__law_sum_of [] (aCons (eBin bIx (eVar 1) (eCB nLen (aCons (eVar 2) aNil))) (aCons (eVar 3) aNil))) (gIx (eVar 1) (eCB nLen (aCons (eVar 2) aNil))))
noncomputable def m__law_counts : SF := (sSeq (sAs (eLcM (iRange1 (eBin bAdd (eCB nLen (aCons (eVar 0) aNil)) (eC (.int 1)))) (gN 4) tYesF l__law_counts_0 [4]) (gN 1)) (sSeq (sFor (iSeq (eCall fn__law_courses [] (aCons (eVar 0) aNil))) (gT [(gN 2), (gN 3)]) b__law_counts_0) (sRt (eCB nTuple (aCons (eVar 1) aNil)))))
noncomputable def fn__law_counts : Fn := fnWith finF 1 5 m__law_counts
abbrev s55 : Stmt := top 55
abbrev n55 : List Str := ["some", "found", "own"]
theorem sc55 : FnScope n55 ["some"] (defScope s55) := ⟨rfl, rfl, rfl, by decide +kernel, rfl, by decide +kernel, by decide +kernel⟩
noncomputable def b__law_together_0 : SF := (sAs (eCall fn__law_sum_of [] (aCons (eVar 1) (aCons (eVar 2) aNil))) (gN 1))
noncomputable def m__law_together : SF := (sSeq (sAs (eTup (aCons (eC (.int 0)) (aCons (eC (.int 1)) aNil))) (gN 1)) (sSeq (sFor (iSeq (eVar 0)) (gN 2) b__law_together_0) (sRt (eVar 1))))
noncomputable def fn__law_together : Fn := fnWith finF 1 3 m__law_together
abbrev s50 : Stmt := top 50
abbrev n50 : List Str := ["one", "two"]
theorem sc50 : FnScope n50 ["one", "two"] (defScope s50) := ⟨rfl, rfl, rfl, by decide +kernel, rfl, by decide +kernel, by decide +kernel⟩
noncomputable def m__law_below : SF := (sRt (eBin bLt (eBin bMul (eBin bIx (eVar 0) (eC (.int 0))) (eBin bIx (eVar 1) (eC (.int 1)))) (eBin bMul (eBin bIx (eVar 1) (eC (.int 0))) (eBin bIx (eVar 0) (eC (.int 1))))))
noncomputable def fn__law_below : Fn := fnWith finF 2 2 m__law_below
abbrev s47 : Stmt := top 47
abbrev n47 : List Str := ["one", "two"]
theorem sc47 : FnScope n47 ["one", "two"] (defScope s47) := ⟨rfl, rfl, rfl, by decide +kernel, rfl, by decide +kernel, by decide +kernel⟩
noncomputable def m__law_less : SF := (sRt (eCall fn__law_sum_of [] (aCons (eVar 0) (aCons (eTup (aCons (eBin bSub (eC (.int 0)) (eBin bIx (eVar 1) (eC (.int 0)))) (aCons (eBin bIx (eVar 1) (eC (.int 1))) aNil))) aNil))))
noncomputable def fn__law_less : Fn := fnWith finF 2 2 m__law_less
abbrev s6 : Stmt := top 6
abbrev n6 : List Str := ["value", "is_right", "index", "each"]
theorem sc6 : FnScope n6 ["value", "is_right"] (defScope s6) := ⟨rfl, rfl, rfl, by decide +kernel, rfl, by decide +kernel, by decide +kernel⟩
noncomputable def b_first_wrong_0 : SF := (sIf (tNotF (tb (eCv 1 (aCons (eVar 3) (aCons (eSl (eVar 0) oNo (oSm (eVar 2))) aNil))))) (sRt (eVar 2)) sNx)
noncomputable def m_first_wrong : SF := (sSeq (sFor (iEn (eVar 0)) (gT [(gN 2), (gN 3)]) b_first_wrong_0) (sRt (eC .none)))
noncomputable def fn_first_wrong : Fn := fnWith finF 2 4 m_first_wrong
abbrev s5 : Stmt := top 5
abbrev n5 : List Str := ["value", "many"]
theorem sc5 : FnScope n5 ["value", "many"] (defScope s5) := ⟨rfl, rfl, rfl, by decide +kernel, rfl, by decide +kernel, by decide +kernel⟩
noncomputable def m_is_tuple_of : SF := (sRt (eAnd (eIsi "tuple" (eVar 0)) (eBin bEq (eCB nLen (aCons (eVar 0) aNil)) (eVar 1))))
noncomputable def fn_is_tuple_of : Fn := fnWith finF 2 2 m_is_tuple_of
abbrev s3 : Stmt := top 3
abbrev n3 : List Str := ["value"]
theorem sc3 : FnScope n3 ["value"] (defScope s3) := ⟨rfl, rfl, rfl, by decide +kernel, rfl, by decide +kernel, by decide +kernel⟩
noncomputable def m_is_whole : SF := (sRt (eAnd (eIsi "int" (eVar 0)) (eNot (eIsi "bool" (eVar 0)))))
noncomputable def fn_is_whole : Fn := fnWith finF 1 1 m_is_whole
abbrev s4 : Stmt := top 4
abbrev n4 : List Str := ["value", "low", "high"]
theorem sc4 : FnScope n4 ["value", "low", "high"] (defScope s4) := ⟨rfl, rfl, rfl, by decide +kernel, rfl, by decide +kernel, by decide +kernel⟩
noncomputable def m_is_number : SF := (sRt (eAnd (eCall fn_is_whole [] (aCons (eVar 0) aNil)) (eAnd (eBin bLe (eVar 1) (eVar 0)) (eOr (eBin bIsN (eVar 2) (eC .none)) (eBin bLe (eVar 0) (eVar 2))))))
noncomputable def fn_is_number : Fn := fnWith finF 3 3 m_is_number
abbrev s7 : Stmt := top 7
abbrev n7 : List Str := ["one", "two"]
theorem sc7 : FnScope n7 ["one", "two"] (defScope s7) := ⟨rfl, rfl, rfl, by decide +kernel, rfl, by decide +kernel, by decide +kernel⟩
noncomputable def b_common_divisor_0 : SF := (sPr 0 1 (aCons (eVar 1) (aCons (eBin bMod (eVar 0) (eVar 1)) aNil)))
noncomputable def m_common_divisor : SF := (sSeq (sWh (tb (eBin bGt (eVar 1) (eC (.int 0)))) b_common_divisor_0) (sRt (eVar 0)))
noncomputable def fn_common_divisor : Fn := fnWith finF 2 2 m_common_divisor
abbrev s9 : Stmt := top 9
abbrev n9 : List Str := ["value"]
theorem sc9 : FnScope n9 ["value"] (defScope s9) := ⟨rfl, rfl, rfl, by decide +kernel, rfl, by decide +kernel, by decide +kernel⟩
noncomputable def m_is_fraction : SF := (sSeq (sIf (tOrF (tNotF (tb (eCall fn_is_tuple_of [] (aCons (eVar 0) (aCons (eC (.int 2)) aNil))))) (tOrF (tNotF (tb (eCall fn_is_whole [] (aCons (eBin bIx (eVar 0) (eC (.int 0))) aNil)))) (tNotF (tb (eCall fn_is_number [.none] (aCons (eBin bIx (eVar 0) (eC (.int 1))) (aCons (eC (.int 1)) aNil))))))) (sRt (eC (.bool false))) sNx) (sRt (eBin bEq (eCall fn_common_divisor [] (aCons (eCB nAbs (aCons (eBin bIx (eVar 0) (eC (.int 0))) aNil)) (aCons (eBin bIx (eVar 0) (eC (.int 1))) aNil))) (eC (.int 1)))))
noncomputable def fn_is_fraction : Fn := fnWith finF 1 1 m_is_fraction
abbrev s19 : Stmt := top 19
abbrev n19 : List Str := ["value"]
theorem sc19 : FnScope n19 ["value"] (defScope s19) := ⟨rfl, rfl, rfl, by decide +kernel, rfl, by decide +kernel, by decide +kernel⟩
noncomputable def m_is_chance_form : SF := (sRt (eAnd (eCall fn_is_fraction [] (aCons (eVar 0) aNil)) (eChain bLe bLt (eC (.int 0)) (eBin bIx (eVar 0) (eC (.int 0))) (eBin bIx (eVar 0) (eC (.int 1))))))
noncomputable def fn_is_chance_form : Fn := fnWith finF 1 1 m_is_chance_form
abbrev s28 : Stmt := top 28
abbrev n28 : List Str := ["value", "most", "wrong"]
theorem sc28 : FnScope n28 ["value", "most"] (defScope s28) := ⟨rfl, rfl, rfl, by decide +kernel, rfl, by decide +kernel, by decide +kernel⟩
noncomputable def g_row_fault_0 : EF := (eAnd (eBin bLt (eCB nLen (aCons (eVar 1) aNil)) (eVar 2)) (eCall fn_is_chance_form [] (aCons (eVar 0) aNil)))
noncomputable def m_row_fault : SF := (sSeq (sIf (tNotF (tb (eIsi "tuple" (eVar 0)))) (sRt (eTup (aCons (eC .none) aNil))) sNx) (sSeq (sAs (eHo fn_first_wrong (eSl (eVar 0) oNo (oSm (eBin bAdd (eVar 1) (eC (.int 1))))) (lamG 2 [1] g_row_fault_0)) (gN 2)) (sRt (eIf (tb (eBin bIsN (eVar 2) (eC .none))) (eTup aNil) (eTup (aCons (eVar 2) aNil))))))
noncomputable def fn_row_fault : Fn := fnWith finF 2 3 m_row_fault
abbrev s29 : Stmt := top 29
abbrev n29 : List Str := ["value", "fault"]
theorem sc29 : FnScope n29 ["value"] (defScope s29) := ⟨rfl, rfl, rfl, by decide +kernel, rfl, by decide +kernel, by decide +kernel⟩
noncomputable def m_check_row : SF := (sSeq (sAs (eCall fn_row_fault [.int 12] (aCons (eVar 0) aNil)) (gN 1)) (sIf (tb (eBin bGt (eCB nLen (aCons (eVar 1) aNil)) (eC (.int 0)))) sNo sNx))
noncomputable def fn_check_row : Fn := fnWith finF 1 2 m_check_row
abbrev s8 : Stmt := top 8
abbrev n8 : List Str := ["number", "scale", "by"]
theorem sc8 : FnScope n8 ["number", "scale"] (defScope s8) := ⟨rfl, rfl, rfl, by decide +kernel, rfl, by decide +kernel, by decide +kernel⟩
noncomputable def m_lowest : SF := (sSeq (sIf (tb (eBin bLt (eVar 1) (eC (.int 0)))) (sPr 0 1 (aCons (eUn uNeg (eVar 0)) (aCons (eUn uNeg (eVar 1)) aNil))) sNx) (sSeq (sAs (eCall fn_common_divisor [] (aCons (eCB nAbs (aCons (eVar 0) aNil)) (aCons (eVar 1) aNil))) (gN 2)) (sRt (eTup (aCons (eBin bDiv (eVar 0) (eVar 2)) (aCons (eBin bDiv (eVar 1) (eVar 2)) aNil))))))
noncomputable def fn_lowest : Fn := fnWith finF 2 3 m_lowest
abbrev s11 : Stmt := top 11
abbrev n11 : List Str := ["one", "two"]
theorem sc11 : FnScope n11 ["one", "two"] (defScope s11) := ⟨rfl, rfl, rfl, by decide +kernel, rfl, by decide +kernel, by decide +kernel⟩
noncomputable def m_multiplied : SF := (sRt (eCall fn_lowest [] (aCons (eBin bMul (eBin bIx (eVar 0) (eC (.int 0))) (eBin bIx (eVar 1) (eC (.int 0)))) (aCons (eBin bMul (eBin bIx (eVar 0) (eC (.int 1))) (eBin bIx (eVar 1) (eC (.int 1)))) aNil))))
noncomputable def fn_multiplied : Fn := fnWith finF 2 2 m_multiplied
abbrev s12 : Stmt := top 12
abbrev n12 : List Str := ["one"]
theorem sc12 : FnScope n12 ["one"] (defScope s12) := ⟨rfl, rfl, rfl, by decide +kernel, rfl, by decide +kernel, by decide +kernel⟩
noncomputable def m_rest_of : SF := (sRt (eTup (aCons (eBin bSub (eBin bIx (eVar 0) (eC (.int 1))) (eBin bIx (eVar 0) (eC (.int 0)))) (aCons (eBin bIx (eVar 0) (eC (.int 1))) aNil))))
noncomputable def fn_rest_of : Fn := fnWith finF 1 1 m_rest_of
abbrev s10 : Stmt := top 10
abbrev n10 : List Str := ["one", "two"]
theorem sc10 : FnScope n10 ["one", "two"] (defScope s10) := ⟨rfl, rfl, rfl, by decide +kernel, rfl, by decide +kernel, by decide +kernel⟩
noncomputable def m_added : SF := (sRt (eCall fn_lowest [] (aCons (eBin bAdd (eBin bMul (eBin bIx (eVar 0) (eC (.int 0))) (eBin bIx (eVar 1) (eC (.int 1)))) (eBin bMul (eBin bIx (eVar 1) (eC (.int 0))) (eBin bIx (eVar 0) (eC (.int 1))))) (aCons (eBin bMul (eBin bIx (eVar 0) (eC (.int 1))) (eBin bIx (eVar 1) (eC (.int 1)))) aNil))))
noncomputable def fn_added : Fn := fnWith finF 2 2 m_added
abbrev s21 : Stmt := top 21
abbrev n21 : List Str := ["row", "found", "chance", "come", "stay", "each", "one", "two"]
theorem sc21 : FnScope n21 ["row"] (defScope s21) := ⟨rfl, rfl, rfl, by decide +kernel, rfl, by decide +kernel, by decide +kernel⟩
noncomputable def l_counts_in_0 : EF := (eCall fn_multiplied [] (aCons (eVar 5) (aCons (eVar 2) aNil)))
noncomputable def l_counts_in_1 : EF := (eCall fn_multiplied [] (aCons (eVar 5) (aCons (eCall fn_rest_of [] (aCons (eVar 2) aNil)) aNil)))
noncomputable def l_counts_in_2 : EF := (eCall fn_added [] (aCons (eVar 6) (aCons (eVar 7) aNil)))
noncomputable def b_counts_in_0 : SF := (sSeq (sAs (eBin bAdd (eLst (aCons (eC (.tuple [.int 0, .int 1])) aNil)) (eLc (iSeq (eVar 1)) (gN 5) tYesF l_counts_in_0 [5])) (gN 3)) (sSeq (sAs (eBin bAdd (eLc (iSeq (eVar 1)) (gN 5) tYesF l_counts_in_1 [5]) (eLst (aCons (eC (.tuple [.int 0, .int 1])) aNil))) (gN 4)) (sAs (eLc (iZp (eVar 3) (eVar 4)) (gT [(gN 6), (gN 7)]) tYesF l_counts_in_2 [6, 7]) (gN 1))))
noncomputable def m_counts_in : SF := (sSeq (sAs (eLst (aCons (eC (.tuple [.int 1, .int 1])) aNil)) (gN 1)) (sSeq (sFor (iSeq (eVar 0)) (gN 2) b_counts_in_0) (sRt (eVar 1))))
noncomputable def fn_counts_in : Fn := fnWith finF 1 8 m_counts_in
abbrev s13 : Stmt := top 13
abbrev n13 : List Str := ["one", "two"]
theorem sc13 : FnScope n13 ["one", "two"] (defScope s13) := ⟨rfl, rfl, rfl, by decide +kernel, rfl, by decide +kernel, by decide +kernel⟩
noncomputable def m_is_less : SF := (sRt (eBin bLt (eBin bMul (eBin bIx (eVar 0) (eC (.int 0))) (eBin bIx (eVar 1) (eC (.int 1)))) (eBin bMul (eBin bIx (eVar 1) (eC (.int 0))) (eBin bIx (eVar 0) (eC (.int 1))))))
noncomputable def fn_is_less : Fn := fnWith finF 2 2 m_is_less
abbrev s14 : Stmt := top 14
abbrev n14 : List Str := ["one", "two"]
theorem sc14 : FnScope n14 ["one", "two"] (defScope s14) := ⟨rfl, rfl, rfl, by decide +kernel, rfl, by decide +kernel, by decide +kernel⟩
noncomputable def m_greater : SF := (sRt (eIf (tb (eCall fn_is_less [] (aCons (eVar 0) (aCons (eVar 1) aNil)))) (eVar 1) (eVar 0)))
noncomputable def fn_greater : Fn := fnWith finF 2 2 m_greater
abbrev s16 : Stmt := top 16
abbrev n16 : List Str := ["fractions", "found", "each"]
theorem sc16 : FnScope n16 ["fractions"] (defScope s16) := ⟨rfl, rfl, rfl, by decide +kernel, rfl, by decide +kernel, by decide +kernel⟩
noncomputable def b_greatest_0 : SF := (sAs (eCall fn_greater [] (aCons (eVar 1) (aCons (eVar 2) aNil))) (gN 1))
noncomputable def m_greatest : SF := (sSeq (sAs (eBin bIx (eVar 0) (eC (.int 0))) (gN 1)) (sSeq (sFor (iSeq (eVar 0)) (gN 2) b_greatest_0) (sRt (eVar 1))))
noncomputable def fn_greatest : Fn := fnWith finF 1 3 m_greatest
abbrev s33 : Stmt := top 33
abbrev n33 : List Str := ["row", "found", "most", "number", "chance"]
theorem sc33 : FnScope n33 ["row"] (defScope s33) := ⟨rfl, rfl, rfl, by decide +kernel, rfl, by decide +kernel, by decide +kernel⟩
noncomputable def m_crests_in : SF := (sSeq (sAs (eCall fn_counts_in [] (aCons (eVar 0) aNil)) (gN 1)) (sSeq (sAs (eCall fn_greatest [] (aCons (eVar 1) aNil)) (gN 2)) (sRt (eCB nTuple (aCons (eLc (iEn (eVar 1)) (gT [(gN 3), (gN 4)]) (tb (eBin bEq (eVar 4) (eVar 2))) (eVar 3) [3, 4]) aNil)))))
noncomputable def fn_crests_in : Fn := fnWith finF 1 5 m_crests_in
abbrev s34 : Stmt := top 34
abbrev n34 : List Str := ["row"]
theorem sc34 : FnScope n34 ["row"] (defScope s34) := ⟨rfl, rfl, rfl, by decide +kernel, rfl, by decide +kernel, by decide +kernel⟩
noncomputable def m_crests : SF := (sSeq (sEx (eCall fn_check_row [] (aCons (eVar 0) aNil))) (sRt (eCall fn_crests_in [] (aCons (eVar 0) aNil))))
noncomputable def fn_crests : Fn := fnWith finF 1 1 m_crests
abbrev s15 : Stmt := top 15
abbrev n15 : List Str := ["fractions", "found", "each"]
theorem sc15 : FnScope n15 ["fractions"] (defScope s15) := ⟨rfl, rfl, rfl, by decide +kernel, rfl, by decide +kernel, by decide +kernel⟩
noncomputable def b_sum_of_0 : SF := (sAs (eCall fn_added [] (aCons (eVar 1) (aCons (eVar 2) aNil))) (gN 1))
noncomputable def m_sum_of : SF := (sSeq (sAs (eC (.tuple [.int 0, .int 1])) (gN 1)) (sSeq (sFor (iSeq (eVar 0)) (gN 2) b_sum_of_0) (sRt (eVar 1))))
noncomputable def fn_sum_of : Fn := fnWith finF 1 3 m_sum_of
abbrev s20 : Stmt := top 20
abbrev n20 : List Str := ["row"]
theorem sc20 : FnScope n20 ["row"] (defScope s20) := ⟨rfl, rfl, rfl, by decide +kernel, rfl, by decide +kernel, by decide +kernel⟩
noncomputable def m_mean_of : SF := (sRt (eCall fn_sum_of [] (aCons (eVar 0) aNil)))
noncomputable def fn_mean_of : Fn := fnWith finF 1 1 m_mean_of
abbrev s35 : Stmt := top 35
abbrev n35 : List Str := ["row", "number", "scale", "each"]
theorem sc35 : FnScope n35 ["row"] (defScope s35) := ⟨rfl, rfl, rfl, by decide +kernel, rfl, by decide +kernel, by decide +kernel⟩
noncomputable def t_near_mean_0 : TF := (tb (eBin bLt (eCB nAbs (aCons (eBin bSub (eBin bMul (eVar 3) (eVar 2)) (eVar 1)) aNil)) (eVar 2)))
noncomputable def m_near_mean : SF := (sSeq (sEx (eCall fn_check_row [] (aCons (eVar 0) aNil))) (sSeq (sAs (eCall fn_mean_of [] (aCons (eVar 0) aNil)) (gT [(gN 1), (gN 2)])) (sRt (eCB nTuple (aCons (eLc (iRange1 (eBin bAdd (eCB nLen (aCons (eVar 0) aNil)) (eC (.int 2)))) (gN 3) t_near_mean_0 (eVar 3) [3]) aNil)))))
noncomputable def fn_near_mean : Fn := fnWith finF 1 4 m_near_mean
abbrev s38 : Stmt := top 38
abbrev n38 : List Str := ["row"]
theorem sc38 : FnScope n38 ["row"] (defScope s38) := ⟨rfl, rfl, rfl, by decide +kernel, rfl, by decide +kernel, by decide +kernel⟩
noncomputable def m_mean : SF := (sSeq (sEx (eCall fn_check_row [] (aCons (eVar 0) aNil))) (sRt (eCall fn_mean_of [] (aCons (eVar 0) aNil))))
noncomputable def fn_mean : Fn := fnWith finF 1 1 m_mean
abbrev s44 : Stmt := top 44
abbrev n44 : List Str := ["told", "due"]
theorem sc44 : FnScope n44 ["told", "due"] (defScope s44) := ⟨rfl, rfl, rfl, by decide +kernel, rfl, by decide +kernel, by decide +kernel⟩
noncomputable def m__law_is : SF := (sRt (eBin bEq (eCB nRepr (aCons (eVar 0) aNil)) (eCB nRepr (aCons (eVar 1) aNil))))
noncomputable def fn__law_is : Fn := fnWith finF 2 2 m__law_is
abbrev s30 : Stmt := top 30
abbrev n30 : List Str := ["value", "low", "high"]
theorem sc30 : FnScope n30 ["value", "low", "high"] (defScope s30) := ⟨rfl, rfl, rfl, by decide +kernel, rfl, by decide +kernel, by decide +kernel⟩
noncomputable def m_check_number : SF := (sIf (tNotF (tb (eCall fn_is_number [] (aCons (eVar 0) (aCons (eVar 1) (aCons (eVar 2) aNil)))))) sNo sNx)
noncomputable def fn_check_number : Fn := fnWith finF 3 3 m_check_number
abbrev s31 : Stmt := top 31
abbrev n31 : List Str := ["value", "low"]
theorem sc31 : FnScope n31 ["value", "low"] (defScope s31) := ⟨rfl, rfl, rfl, by decide +kernel, rfl, by decide +kernel, by decide +kernel⟩
noncomputable def m_check_many : SF := (sEx (eCall fn_check_number [] (aCons (eVar 0) (aCons (eVar 1) (aCons (eC (.int 12)) aNil)))))
noncomputable def fn_check_many : Fn := fnWith finF 2 2 m_check_many
abbrev s36 : Stmt := top 36
abbrev n36 : List Str := ["row", "many"]
theorem sc36 : FnScope n36 ["row", "many"] (defScope s36) := ⟨rfl, rfl, rfl, by decide +kernel, rfl, by decide +kernel, by decide +kernel⟩
noncomputable def m_is_crest : SF := (sSeq (sEx (eCall fn_check_row [] (aCons (eVar 0) aNil))) (sSeq (sEx (eCall fn_check_many [.int 0] (aCons (eVar 1) aNil))) (sRt (eBin bIn (eVar 1) (eCall fn_crests_in [] (aCons (eVar 0) aNil))))))
noncomputable def fn_is_crest : Fn := fnWith finF 2 2 m_is_crest
abbrev s57 : Stmt := top 57
abbrev n57 : List Str := ["well", "turn", "row", "best", "part", "tops", "near", "at", "had", "due", "middle", "gap"]
theorem sc57 : FnScope n57 ["well"] (defScope s57) := ⟨rfl, rfl, rfl, by decide +kernel, rfl, by decide +kernel, by decide +kernel⟩
noncomputable def b__law_right_0 : SF := (sAs (eIf (tb (eCall fn__law_below [] (aCons (eVar 3) (aCons (eVar 4) aNil)))) (eVar 4) (eVar 3)) (gN 3))
noncomputable def b__law_right_1 : SF := (sSeq (sAs (eCall fn__law_less [] (aCons (eTup (aCons (eVar 7) (aCons (eC (.int 1)) aNil))) (aCons (eVar 10) aNil))) (gN 11)) (sAs (eBin bAdd (eVar 6) (eIf (tb (eCall fn__law_below [] (aCons (eTup (aCons (eCB nAbs (aCons (eBin bIx (eVar 11) (eC (.int 0))) aNil)) (aCons (eBin bIx (eVar 11) (eC (.int 1))) aNil))) (aCons (eTup (aCons (eC (.int 1)) (aCons (eC (.int 1)) aNil))) aNil)))) (eLst (aCons (eVar 7) aNil)) (eLst aNil))) (gN 6)))
noncomputable def b__law_right_2 : SF := (sIf (tNotF (tb (eCall fn__law_is [] (aCons (eLst (aCons (eCall fn_is_crest [] (aCons (eVar 2) (aCons (eVar 7) aNil))) (aCons (eCallK fn_is_crest (fun us ws => pick [(1, 1), (1, 0)] us ws []) 0 2 aNil (aCons (eVar 7) (aCons (eVar 2) aNil))) aNil))) (aCons (eLst (aCons (eBin bIn (eVar 7) (eVar 5)) (aCons (eBin bIn (eVar 7) (eVar 5)) aNil))) aNil))))) (sRt (eC (.bool false))) sNx)
noncomputable def b__law_right_3 : SF := (sSeq (sPr 9 10 (aCons (eCall fn__law_counts [] (aCons (eVar 2) aNil)) (aCons (eCall fn__law_together [] (aCons (eVar 2) aNil)) aNil))) (sSeq (sAs (eBin bIx (eVar 9) (eC (.int 0))) (gN 3)) (sSeq (sFor (iSeq (eVar 9)) (gN 4) b__law_right_0) (sSeq (sAs (eCB nTuple (aCons (eLc (iEn (eVar 9)) (gT [(gN 7), (gN 4)]) (tb (eBin bEq (eVar 4) (eVar 3))) (eVar 7) [7, 4]) aNil)) (gN 5)) (sSeq (sAs (eLst aNil) (gN 6)) (sSeq (sFor (iRange1 (eC (.int 14))) (gN 7) b__law_right_1) (sSeq (sAs (eLst (aCons (eCall fn_crests [] (aCons (eVar 2) aNil)) (aCons (eCallK fn_crests (fun us ws => pick [(1, 0)] us ws []) 0 1 aNil (aCons (eVar 2) aNil)) (aCons (eCall fn_near_mean [] (aCons (eVar 2) aNil)) (aCons (eCallK fn_near_mean (fun us ws => pick [(1, 0)] us ws []) 0 1 aNil (aCons (eVar 2) aNil)) (aCons (eCall fn_mean [] (aCons (eVar 2) aNil)) aNil)))))) (gN 8)) (sSeq (sIf (tNotF (tb (eCall fn__law_is [] (aCons (eVar 8) (aCons (eLst (aCons (eVar 5) (aCons (eVar 5) (aCons (eCB nTuple (aCons (eVar 6) aNil)) (aCons (eCB nTuple (aCons (eVar 6) aNil)) (aCons (eVar 10) aNil)))))) aNil))))) (sRt (eC (.bool false))) sNx) (sSeq (sIf (tOrF (tb (eBin bGt (eCB nLen (aCons (eVar 5) aNil)) (eC (.int 2)))) (tOrF (tb (eBin bGt (eBin bSub (eBin bIx (eVar 5) (eUn uNeg (eC (.int 1)))) (eBin bIx (eVar 5) (eC (.int 0)))) (eC (.int 1)))) (tb (eBin bNe (eLc (iSeq (eVar 5)) (gN 7) (tb (eBin bNotIn (eVar 7) (eVar 6))) (eC (.int 1)) [7]) (eLst aNil))))) (sRt (eC (.bool false))) sNx) (sSeq (sIf (tAndF (tb (eBin bEq (eBin bIx (eVar 10) (eC (.int 1))) (eC (.int 1)))) (tb (eBin bNe (eVar 5) (eTup (aCons (eBin bIx (eVar 10) (eC (.int 0))) aNil))))) (sRt (eC (.bool false))) sNx) (sFor (iRange1 (eC (.int 13))) (gN 7) b__law_right_2)))))))))))
noncomputable def b__law_right_4 : SF := (sFor (iSeq (eTup (aCons (eCall fn__law_row [] (aCons (eVar 0) (aCons (eC (.int 8)) aNil))) (aCons (eCall fn__law_whole [] (aCons (eVar 0) aNil)) aNil)))) (gN 2) b__law_right_3)
noncomputable def m__law_right : SF := (sSeq (sFor (iRange1 (eC (.int 5))) (gN 1) b__law_right_4) (sRt (eC (.bool true))))
noncomputable def fn__law_right : Fn := fnWith finF 1 12 m__law_right
abbrev s40 : Stmt := top 40
abbrev n40 : List Str := ["script", "lap", "stirred", "cell", "own"]
theorem sc40 : FnScope n40 ["script", "lap"] (defScope s40) := ⟨rfl, rfl, rfl, by decide +kernel, rfl, by decide +kernel, by decide +kernel⟩
noncomputable def b__law_well_0 : SF := (sAs (eBin bMod (eCB nInt (aCons (eBin bAdd (eBin bAdd (eBin bMul (eVar 2) (eC (.int 47521))) (eBin bMod (eCB nInt (aCons (eVar 3) aNil)) (eC (.int 2147483549)))) (eC (.int 41))) aNil)) (eC (.int 2147483629))) (gN 2))
noncomputable def m__law_well : SF := (sSeq (sAs (eBin bAdd (eC (.int 3823956)) (eBin bMul (eC (.int 5231)) (eVar 1))) (gN 2)) (sSeq (sFor (iSeq (eSl (eVar 0) oNo (oSm (eC (.int 9))))) (gN 3) b__law_well_0) (sSeq (sAs (eIf (tb (eBin bLt (eVar 1) (eCB nLen (aCons (eVar 0) aNil)))) (eCB nInt (aCons (eBin bIx (eVar 0) (eVar 1)) aNil)) (eC (.int 0))) (gN 4)) (sSeq (sAs (eBin bMod (eCB nInt (aCons (eBin bAdd (eBin bAdd (eBin bMul (eVar 2) (eC (.int 61))) (eBin bMul (eBin bMod (eCB nInt (aCons (eVar 4) aNil)) (eC (.int 2147483549))) (eC (.int 16007)))) (eC (.int 17))) aNil)) (eC (.int 2147483629))) (gN 2)) (sRt (eLstM (aCons (eIf (tOrF (tb (eBin bLt (eVar 4) (eC (.int 0)))) (tb (eBin bGe (eVar 4) (eBin bPow (eC (.int 10)) (eC (.int 15)))))) (eCB nAbs (aCons (eVar 4) aNil)) (eC (.int 0))) (aCons (eVar 2) (aCons (eC (.int 0)) aNil)))))))))
noncomputable def fn__law_well : Fn := fnWith finM 2 5 m__law_well
abbrev s58 : Stmt := top 58
abbrev n58 : List Str := ["script", "lap"]
theorem sc58 : FnScope n58 ["script"] (defScope s58) := ⟨rfl, rfl, rfl, by decide +kernel, rfl, by decide +kernel, by decide +kernel⟩
noncomputable def l_law_0 : EF := (eCall fn__law_right [] (aCons (eCall fn__law_well [] (aCons (eVar 0) (aCons (eVar 1) aNil))) aNil))
noncomputable def m_law : SF := (sRt (eCB nAll (aCons (eLc (iRange1 (eCB nMax (aCons (eC (.int 1)) (aCons (eCB nMin (aCons (eCB nLen (aCons (eVar 0) aNil)) (aCons (eC (.int 3)) aNil))) aNil)))) (gN 1) tYesF l_law_0 [1]) aNil)))
noncomputable def fn_law : Fn := fnWith finF 1 2 m_law

/-! ## fractions -/
theorem common_divisor_loop (M : Sto) : ∀ (b a : Nat), sWh (tb (eBin bGt (eVar 1) (eC (.int 0)))) (sPr 0 1 (aCons (eVar 1) (aCons (eBin bMod (eVar 0) (eVar 1)) aNil))) [some (I a), some (I b)] M = some (.nx, [some (I (Nat.gcd a b : Nat)), some (I 0)], M) := fun b => by
  induction b using Nat.strongRecOn with
  | ind b ih =>
    intro a
    rw [sWh_run]
    by_cases hb : b = 0
    · subst hb
      simp
    · have h1 : 0 < b := by omega
      have h2 := ih (a % b) (Nat.mod_lt _ (by omega)) b
      rw [Int.natCast_emod] at h2
      have eg : Nat.gcd a b = Nat.gcd b (a % b) := by rw [Nat.gcd_comm a b, Nat.gcd_rec b a, Nat.gcd_comm]
      rw [eg]
      simp [h1, h2]
theorem common_divisor_eq (a b : Nat) (M : Sto) : fn_common_divisor [I a, I b] M = some (I (Nat.gcd a b : Nat), M) := by
  unfold fn_common_divisor m_common_divisor b_common_divisor_0
  simp [common_divisor_loop]
/-- n / s in lowest terms -/
theorem lowest_eq {n s : Int} {k : Nat} (hs : s ≠ 0) (hk : s.natAbs < 2 ^ k) (h9 : k ≤ 9000) (M : Sto) : fn_lowest [I n, I s] M = some (.p (F (Rat.divInt n s)), M) := by
  have hg : ∀ m : Int, divOk ((Nat.gcd m.natAbs s.natAbs : Nat) : Int) = true := fun m => by
    have h0 : 0 < Nat.gcd m.natAbs s.natAbs := Nat.gcd_pos_of_pos_right _ (by omega)
    refine divOk_p (k := k) (by omega) ?_ h9
    have := Nat.gcd_le_right m.natAbs (n := s.natAbs) (by omega)
    simp only [Int.natAbs_natCast]
    omega
  have eg : ∀ m t : Int, t.natAbs = s.natAbs → m.natAbs = n.natAbs → t.gcd m = Nat.gcd m.natAbs s.natAbs := fun m t h1 h2 => by
    rw [Int.gcd_eq_natAbs_gcd_natAbs, h1, Nat.gcd_comm]
  unfold fn_lowest m_lowest
  by_cases h : s < 0
  · have e1 : ((-s).natAbs : Int) = -s := by omega
    have c := common_divisor_eq (-n).natAbs (-s).natAbs M
    rw [e1] at c
    have hg1 := hg (-n)
    have e3 : (-s).natAbs = s.natAbs := by omega
    have ed : Rat.divInt n s = Rat.divInt (-n) (-s) := (Rat.neg_divInt_neg n s).symm
    have e2 : F (Rat.divInt n s) = .tuple [.int (-n / ((Nat.gcd (-n).natAbs s.natAbs : Nat) : Int)), .int (-s / ((Nat.gcd (-n).natAbs s.natAbs : Nat) : Int))] := by
      unfold F
      rw [ed, Rat.num_divInt, Rat.den_divInt, if_neg (by omega), eg (-n) (-s) (by omega) (by omega)]
      have : (-s).sign = 1 := Int.sign_eq_one_of_pos (by omega)
      rw [this, Int.one_mul]
      congr 3
      rw [Int.natCast_ediv, e1]
    rw [e2]
    simp only [Int.natAbs_neg] at c hg1 ⊢
    simp [h, c, hg1, tupV]
  · have h' : 0 < s := by omega
    have e1 : (s.natAbs : Int) = s := by omega
    have c := common_divisor_eq n.natAbs s.natAbs M
    rw [e1] at c
    have hg1 := hg n
    have e2 : F (Rat.divInt n s) = .tuple [.int (n / ((Nat.gcd n.natAbs s.natAbs : Nat) : Int)), .int (s / ((Nat.gcd n.natAbs s.natAbs : Nat) : Int))] := by
      unfold F
      rw [Rat.num_divInt, Rat.den_divInt, if_neg (by omega), eg n s rfl rfl]
      have : s.sign = 1 := Int.sign_eq_one_of_pos h'
      rw [this, Int.one_mul]
      congr 3
      rw [Int.natCast_ediv, e1]
    rw [e2]
    simp [h, c, hg1, tupV]
theorem multiplied_eq {a b : Rat} {j k : Nat} (h1 : Bq j a) (h2 : Bq k b) (hk : j + k ≤ 9000) (M : Sto) : fn_multiplied [.p (F a), .p (F b)] M = some (.p (F (a * b)), M) := by
  have e : F (a * b) = F (Rat.divInt (a.num * b.num) ((a.den : Int) * (b.den : Int))) := by
    rw [Rat.mul_def', ← Rat.divInt_ofNat, Int.natCast_mul]
  have hs : (a.den : Int) * (b.den : Int) ≠ 0 := by
    have := a.den_nz; have := b.den_nz
    exact Int.mul_ne_zero (by omega) (by omega)
  have hl := lowest_eq (n := a.num * b.num) hs (natAbs_mul_lt (j := j) (k := k) (by simpa using h1.2) (by simpa using h2.2)) hk M
  have m1 : mulOk a.num b.num = true := mulOk_p h1.1 h2.1 (by omega) (by omega)
  have m2 : mulOk a.den b.den = true := mulOk_p (i := (a.den : Int)) (j := (b.den : Int)) (k := j) (l := k) (by simpa using h1.2) (by simpa using h2.2) (by omega) (by omega)
  unfold fn_multiplied m_multiplied
  simp [F_ix0, F_ix1, m1, m2, hl, e]
theorem added_eq {a b : Rat} {j k : Nat} (h1 : Bq j a) (h2 : Bq k b) (hk : j + k ≤ 9000) (M : Sto) : fn_added [.p (F a), .p (F b)] M = some (.p (F (a + b)), M) := by
  have e : F (a + b) = F (Rat.divInt (a.num * (b.den : Int) + b.num * (a.den : Int)) ((a.den : Int) * (b.den : Int))) := by
    rw [Rat.add_def', ← Rat.divInt_ofNat, Int.natCast_mul]
  have hs : (a.den : Int) * (b.den : Int) ≠ 0 := by
    have := a.den_nz; have := b.den_nz
    exact Int.mul_ne_zero (by omega) (by omega)
  have hl := lowest_eq (n := a.num * (b.den : Int) + b.num * (a.den : Int)) hs (natAbs_mul_lt (j := j) (k := k) (by simpa using h1.2) (by simpa using h2.2)) hk M
  have m1 : mulOk a.num b.den = true := mulOk_p (j := (b.den : Int)) h1.1 (by simpa using h2.2) (by omega) (by omega)
  have m3 : mulOk b.num a.den = true := mulOk_p (j := (a.den : Int)) h2.1 (by simpa using h1.2) (by omega) (by omega)
  have m2 : mulOk a.den b.den = true := mulOk_p (i := (a.den : Int)) (j := (b.den : Int)) (k := j) (l := k) (by simpa using h1.2) (by simpa using h2.2) (by omega) (by omega)
  unfold fn_added m_added
  simp [F_ix0, F_ix1, m1, m2, m3, hl, e]
theorem rest_of_eq (a : Rat) (M : Sto) : fn_rest_of [.p (F a)] M = some (.p (F (1 - a)), M) := by
  unfold fn_rest_of m_rest_of
  simp [F_ix0, F_ix1, F_one_sub, tupV]



/-! ## draws -/
def Wl (xs : List PyData) : Prop := ∃ a b c : Int, xs = [.int a, .int b, .int c] ∧ 0 ≤ a ∧ 0 ≤ b
def At (r : Nat) (M : Sto) : Prop := ∃ xs, M[r]? = some xs ∧ Wl xs
/-- from M to M1 nothing has changed but the well at r -/
def St (r : Nat) (M M1 : Sto) : Prop := ∃ xs, Wl xs ∧ M1 = M.set r xs
theorem At.lt {r : Nat} {M : Sto} (h : At r M) : r < M.length := by
  obtain ⟨xs, h, _⟩ := h
  exact (List.getElem?_eq_some_iff.mp h).1
theorem St.refl {r : Nat} {M : Sto} (h : At r M) : St r M M := by
  obtain ⟨xs, h, w⟩ := h
  refine ⟨xs, w, ?_⟩
  apply List.ext_getElem?
  intro i
  by_cases e : r = i
  · subst e
    rw [List.getElem?_set_self (List.getElem?_eq_some_iff.mp h).1, h]
  · rw [List.getElem?_set_ne e]
theorem St.trans {r : Nat} {M M1 M2 : Sto} (a : St r M M1) (b : St r M1 M2) : St r M M2 := by
  obtain ⟨xs, _, rfl⟩ := a
  obtain ⟨ys, w, rfl⟩ := b
  exact ⟨ys, w, by rw [List.set_set]⟩
theorem St.len {r : Nat} {M M1 : Sto} (a : St r M M1) : M1.length = M.length := by
  obtain ⟨xs, _, rfl⟩ := a
  simp
theorem St.at {r : Nat} {M M1 : Sto} (a : St r M M1) (h : At r M) : At r M1 := by
  obtain ⟨xs, w, rfl⟩ := a
  exact ⟨xs, by rw [List.getElem?_set_self h.lt], w⟩
theorem St.take {r : Nat} {M M1 : Sto} (a : St r M M1) : M1.take M.length = M1 := by
  rw [← a.len, List.take_length]
theorem At.app {r : Nat} {M : Sto} (h : At r M) (ys : List (List PyData)) : At r (M ++ ys) := by
  obtain ⟨xs, h, w⟩ := h
  exact ⟨xs, by rw [List.getElem?_append_left (List.getElem?_eq_some_iff.mp h).1]; exact h, w⟩
theorem St.app {r : Nat} {M M2 : Sto} {ys : List (List PyData)} (h : r < M.length) (a : St r (M ++ ys) M2) : ∃ M1, M2 = M1 ++ ys ∧ St r M M1 := by
  obtain ⟨xs, w, rfl⟩ := a
  exact ⟨M.set r xs, by rw [List.set_append_left _ _ h], xs, w, rfl⟩
/-- a run that draws from the well at r and tells a value of which P holds -/
def Dr {α : Type} (r : Nat) (M : Sto) (P : α → Prop) (o : Option (α × Sto)) : Prop := ∃ v M1, St r M M1 ∧ P v ∧ o = some (v, M1)
theorem dr_bnd {α β : Type} {r : Nat} {M : Sto} {P : α → Prop} {Q : β → Prop} {o : Option (α × Sto)} {k : α → Sto → Option (β × Sto)} (hM : At r M) (h : Dr r M P o) (hk : ∀ v M1, At r M1 → St r M M1 → P v → Dr r M1 Q (k v M1)) : Dr r M Q (bnd o k) := by
  obtain ⟨v, M1, s, p, rfl⟩ := h
  obtain ⟨v2, M2, s2, q, e⟩ := hk v M1 (s.at hM) s p
  exact ⟨v2, M2, s.trans s2, q, e⟩
theorem dr_some {α : Type} {r : Nat} {M : Sto} {P : α → Prop} {v : α} (hM : At r M) (h : P v) : Dr r M P (some (v, M)) := ⟨v, M, .refl hM, h, rfl⟩
theorem Dr.imp {α : Type} {r : Nat} {M : Sto} {P Q : α → Prop} {o : Option (α × Sto)} (h : Dr r M P o) (hq : ∀ v, P v → Q v) : Dr r M Q o := by
  obtain ⟨v, M1, s, p, e⟩ := h
  exact ⟨v, M1, s, hq v p, e⟩
/-- the same of a def's body -/
def DrS (r : Nat) (M : Sto) (P : Val → Prop) (n0 : Nat) (o : Option (Fl × Rho × Sto)) : Prop := Dr r M P (fi finF n0 o)
theorem draw_ok {r : Nat} {M : Sto} (hM : At r M) {l : Int} (h0 : 0 < l) (h1 : l < 1073741824) : Dr r M (fun v => ∃ i : Int, v = I i ∧ 0 ≤ i ∧ i < l) (fn__law_draw [.ob r, I l] M) := by
  obtain ⟨xs, hx, a, b, c, rfl, ha, hb⟩ := id hM
  have hr := hM.lt
  have hlen : ∀ ys : List PyData, (M.set r ys).take M.length = M.set r ys := fun ys => by
    rw [List.take_of_length_le (by simp)]
  have g : ∀ ys : List PyData, (M.set r ys)[r]? = some ys := fun ys => by rw [List.getElem?_set_self hr]
  unfold fn__law_draw m__law_draw
  by_cases hp : 0 < a
  · refine ⟨I (a % l), M.set r [.int (a / l), .int b, .int c], ⟨_, ⟨a / l, b, c, rfl, Int.ediv_nonneg ha (by omega), hb⟩, rfl⟩, ⟨_, rfl, Int.emod_nonneg _ (by omega), Int.emod_lt_of_pos _ h0⟩, ?_⟩
    simp [hx, hp, nDivmod, h0, h1, ixS, ixN, hlen]
  · have m1 : mulOk b 40009 = true := mulOk_r (by decide)
    have m2 : mulOk 15013 (c + 1) = true := mulOk_l (by decide)
    have p0 : ∀ x : Int, 0 ≤ x % 2147483629 := fun x => Int.emod_nonneg _ (by decide)
    have m3 : ∀ x y : Int, mulOk (x % 2147483629) (y % 5003 + 20011) = true := fun x y => mulOk_r (by
      have := Int.emod_nonneg y (b := 5003) (by decide)
      have := Int.emod_lt_of_pos y (b := 5003) (by decide)
      omega)
    have d1 : divOk 1031 = true := by decide
    obtain ⟨w, hw⟩ : ∃ w : Int, w = ((b * 40009 + 15013 * (c + 1)) % 2147483629 * ((b * 40009 + 15013 * (c + 1)) % 2147483629 % 5003 + 20011) + (c + 1)) % 2147483629 := ⟨_, rfl⟩
    have hw0 : 0 ≤ w := by rw [hw]; exact p0 _
    refine ⟨I (w / 1031 % l), M.set r [.int a, .int w, .int (c + 1)], ⟨_, ⟨a, w, c + 1, rfl, ha, hw0⟩, rfl⟩, ⟨_, rfl, Int.emod_nonneg _ (by omega), Int.emod_lt_of_pos _ h0⟩, ?_⟩
    simp [hx, hp, ixS, ixN, hlen, g, m1, m2, m3, d1, h0, List.set_set, hw]
theorem of_ok {r : Nat} {M : Sto} (hM : At r M) {ds : List PyData} (h0 : ds ≠ []) (h1 : ds.length < 1000000) : Dr r M (fun v => ∃ d, v = .p d ∧ d ∈ ds) (fn__law_of [.ob r, .p (.tuple ds)] M) := by
  have hl : 0 < ds.length := List.length_pos_iff.mpr h0
  obtain ⟨v, M1, s, ⟨i, rfl, i0, i1⟩, e⟩ := draw_ok hM (l := ds.length) (by omega) (by omega)
  obtain ⟨n, rfl⟩ := Int.eq_ofNat_of_zero_le i0
  have hn : n < ds.length := by omega
  refine ⟨.p ds[n], M1, s, ⟨_, rfl, List.getElem_mem _⟩, ?_⟩
  unfold fn__law_of m__law_of
  simp [e, atI_nat, hn, s.take]
theorem of_okL {r : Nat} {M : Sto} (hM : At r M) {ds : List PyData} (h0 : ds ≠ []) (h1 : ds.length < 1000000) : Dr r M (fun v => ∃ d, v = .p d ∧ d ∈ ds) (fn__law_of [.ob r, .p (.list ds)] M) := by
  have hl : 0 < ds.length := List.length_pos_iff.mpr h0
  obtain ⟨v, M1, s, ⟨i, rfl, i0, i1⟩, e⟩ := draw_ok hM (l := ds.length) (by omega) (by omega)
  obtain ⟨n, rfl⟩ := Int.eq_ofNat_of_zero_le i0
  have hn : n < ds.length := by omega
  refine ⟨.p ds[n], M1, s, ⟨_, rfl, List.getElem_mem _⟩, ?_⟩
  unfold fn__law_of m__law_of
  simp [e, atI_nat, hn, s.take]
/-! ## the law's own fractions -/
theorem cut_loop (n s : Val) (M : Sto) (k : Nat) (hk : k ≤ 9000) : ∀ (b a : Nat), a < 2 ^ k → b < 2 ^ k → sWh (tb (eBin bGt (eVar 3) (eC (.int 0)))) (sPr 2 3 (aCons (eVar 3) (aCons (eBin bSub (eVar 2) (eBin bMul (eVar 3) (eBin bDiv (eVar 2) (eVar 3)))) aNil))) [some n, some s, some (I a), some (I b)] M = some (.nx, [some n, some s, some (I (Nat.gcd a b : Nat)), some (I 0)], M) := fun b => by
  induction b using Nat.strongRecOn with
  | ind b ih =>
    intro a ha hb'
    rw [sWh_run]
    by_cases hb : b = 0
    · subst hb
      simp
    · have h1 : 0 < b := by omega
      have hm := Nat.mod_lt a h1
      have h2 := ih (a % b) hm b hb' (by omega)
      have eg : Nat.gcd a b = Nat.gcd b (a % b) := by rw [Nat.gcd_comm a b, Nat.gcd_rec b a, Nat.gcd_comm]
      have e : (a : Int) - (b : Int) * ((a : Int) / (b : Int)) = ((a % b : Nat) : Int) := by
        have := Int.emod_add_mul_ediv (a : Int) (b : Int)
        rw [Int.natCast_emod]
        omega
      rw [← e] at h2
      have d1 : divOk (b : Int) = true := divOk_p (k := k) (by omega) (by simpa using hb') hk
      have m1 : mulOk (b : Int) ((a : Int) / (b : Int)) = true := mulOk_p (k := k) (l := k) (by simpa using hb') (by
        rw [← Int.natCast_ediv, Int.natAbs_natCast]
        exact Nat.lt_of_le_of_lt (Nat.div_le_self _ _) ha) (by omega) (by omega)
      rw [eg]
      simp [h1, d1, m1, h2]
theorem cut_eq {n s : Int} {k : Nat} (hs : 0 < s) (hn : n.natAbs < 2 ^ k) (hk : s.natAbs < 2 ^ k) (h9 : k ≤ 9000) (M : Sto) : fn__law_cut [I n, I s] M = some (.p (F (Rat.divInt n s)), M) := by
  have h0 : 0 < Nat.gcd n.natAbs s.natAbs := Nat.gcd_pos_of_pos_right _ (by omega)
  have hg1 : divOk ((Nat.gcd n.natAbs s.natAbs : Nat) : Int) = true := by
    refine divOk_p (k := k) (by omega) ?_ h9
    have := Nat.gcd_le_right n.natAbs (n := s.natAbs) (by omega)
    simp only [Int.natAbs_natCast]
    omega
  have e1 : (s.natAbs : Int) = s := by omega
  have c := cut_loop (I n) (I s) M k h9 s.natAbs n.natAbs hn hk
  rw [e1] at c
  have eg : s.gcd n = Nat.gcd n.natAbs s.natAbs := by rw [Int.gcd_eq_natAbs_gcd_natAbs, Nat.gcd_comm]
  have e2 : F (Rat.divInt n s) = .tuple [.int (n / ((Nat.gcd n.natAbs s.natAbs : Nat) : Int)), .int (s / ((Nat.gcd n.natAbs s.natAbs : Nat) : Int))] := by
    unfold F
    rw [Rat.num_divInt, Rat.den_divInt, if_neg (by omega), eg]
    have : s.sign = 1 := Int.sign_eq_one_of_pos hs
    rw [this, Int.one_mul]
    congr 3
    rw [Int.natCast_ediv, e1]
  unfold fn__law_cut m__law_cut b__law_cut_0
  rw [e2]
  simp [c, hg1, tupV]
theorem law_rest_eq (a : Rat) (M : Sto) : fn__law_rest [.p (F a)] M = some (.p (F (1 - a)), M) := by
  unfold fn__law_rest m__law_rest
  simp [F_ix0, F_ix1, F_one_sub, tupV]
theorem law_times_eq {a b : Rat} {j k : Nat} (h1 : Bq j a) (h2 : Bq k b) (hk : j + k ≤ 9000) (M : Sto) : fn__law_times [.p (F a), .p (F b)] M = some (.p (F (a * b)), M) := by
  have e : F (a * b) = F (Rat.divInt (a.num * b.num) ((a.den : Int) * (b.den : Int))) := by
    rw [Rat.mul_def', ← Rat.divInt_ofNat, Int.natCast_mul]
  have hs : 0 < (a.den : Int) * (b.den : Int) := by
    have := a.den_pos; have := b.den_pos
    exact Int.mul_pos (by omega) (by omega)
  have hl := cut_eq (n := a.num * b.num) hs (natAbs_mul_lt h1.1 h2.1) (natAbs_mul_lt (j := j) (k := k) (by simpa using h1.2) (by simpa using h2.2)) hk M
  have m1 : mulOk a.num b.num = true := mulOk_p h1.1 h2.1 (by omega) (by omega)
  have m2 : mulOk a.den b.den = true := mulOk_p (i := (a.den : Int)) (j := (b.den : Int)) (k := j) (l := k) (by simpa using h1.2) (by simpa using h2.2) (by omega) (by omega)
  unfold fn__law_times m__law_times
  simp [F_ix0, F_ix1, m1, m2, hl, e]
/-- a drawn chance: from 0 on, below 1, of at most 15 parts -/
def Ch (q : Rat) : Prop := 0 ≤ q ∧ q < 1 ∧ Bq 4 q
theorem ch_of {n s : Int} (h0 : 0 ≤ n) (h1 : n < s) (h2 : s < 16) : Ch (Rat.divInt n s) := by
  refine ⟨Rat.divInt_nonneg h0 (by omega), ?_, bq_divInt (by omega) (by omega) (by omega)⟩
  rw [Rat.divInt_eq_div, Rat.div_lt_iff (by exact_mod_cast (by omega : (0 : Int) < s))]
  simp
  exact_mod_cast h1
theorem chance_ok {r : Nat} {M : Sto} (hM : At r M) : Dr r M (fun v => ∃ q : Rat, v = .p (F q) ∧ Ch q) (fn__law_chance [.ob r] M) := by
  unfold fn__law_chance m__law_chance
  obtain ⟨v1, M1, s1, ⟨d, rfl, hd⟩, e1⟩ := of_ok hM (ds := [.int 3, .int 9, .int 14]) (by simp) (by simp)
  have hd : ∃ l : Int, d = .int l ∧ 0 < l ∧ l ≤ 14 := by
    simp only [List.mem_cons, List.not_mem_nil, or_false] at hd
    rcases hd with rfl | rfl | rfl
    · exact ⟨3, rfl, by decide, by decide⟩
    · exact ⟨9, rfl, by decide, by decide⟩
    · exact ⟨14, rfl, by decide, by decide⟩
  obtain ⟨l, rfl, l0, l1⟩ := hd
  have a1 := s1.at hM
  obtain ⟨v2, M2, s2, ⟨i, rfl, i0, i1⟩, e2⟩ := draw_ok a1 l0 (by omega)
  have a2 := s2.at a1
  obtain ⟨v3, M3, s3, ⟨j, rfl, j0, j1⟩, e3⟩ := draw_ok a2 (l := 2 + i) (by omega) (by omega)
  have s := (s1.trans s2).trans s3
  have ec := cut_eq (n := j) (s := 2 + i) (k := 4) (by omega) (by omega) (by omega) (by decide) M3
  refine ⟨_, M3, s, ⟨_, rfl, ch_of (n := j) (s := 2 + i) j0 j1 (by omega)⟩, ?_⟩
  simp [tupV, e1, e2, e3, ec, s.take]



theorem unmap {α β : Type} {f : α → β} {p : α → Prop} : ∀ {ds : List β}, (∀ d ∈ ds, ∃ q, d = f q ∧ p q) → ∃ qs : List α, ds = qs.map f ∧ ∀ q ∈ qs, p q
  | [], _ => ⟨[], rfl, by simp⟩
  | d :: ds, h => by
    obtain ⟨q, rfl, hq⟩ := h d (List.mem_cons_self ..)
    obtain ⟨qs, rfl, hqs⟩ := unmap (ds := ds) (fun x hx => h x (List.mem_cons_of_mem _ hx))
    exact ⟨q :: qs, rfl, by simpa using ⟨hq, hqs⟩⟩
theorem row_ok {r : Nat} {M : Sto} (hM : At r M) {most : Int} (h0 : 0 ≤ most) (h1 : most < 1000) : Dr r M (fun v => ∃ qs : List Rat, v = .p (.tuple (qs.map F)) ∧ (qs.length : Int) ≤ most ∧ ∀ q ∈ qs, Ch q) (fn__law_row [.ob r, I most] M) := by
  have hr := hM.lt
  -- the chances
  obtain ⟨ds, M1, e1, s1, hl1, hr1⟩ := lcL_run (g := gN 4) (e := eCall fn__law_chance [] (aCons (eVar 0) aNil)) (ρ := [some (.ob r), some (I most), none, none, none]) (St r M) (fun _ d => ∃ q, d = F q ∧ Ch q) (fun x => [some (.ob r), some (I most), none, none, some (.p x)]) (rangeD 0 4) M (.refl hM) (fun x _ M1 s => ⟨by simp, by
    obtain ⟨v, M2, s2, ⟨q, rfl, hq⟩, e⟩ := chance_ok (s.at hM)
    exact ⟨F q, M2, by simp [e], ⟨q, rfl, hq⟩, s.trans s2⟩⟩)
  have a1 := s1.at hM
  have hds : ∀ d ∈ ds, ∃ q, d = F q ∧ Ch q := fun d hd => by
    obtain ⟨i, hi⟩ := List.mem_iff_getElem?.mp hd
    have hlt : i < (rangeD 0 4).length := by rw [← hl1]; exact (List.getElem?_eq_some_iff.mp hi).1
    exact hr1 i _ d (List.getElem?_eq_getElem hlt) hi
  simp at hl1
  -- how many
  obtain ⟨v2, M2', s2', ⟨l, rfl, l0, l1⟩, e2⟩ := draw_ok (a1.app [[]]) (l := most + 1) (by omega) (by omega)
  obtain ⟨M2, rfl, s2⟩ := s2'.app a1.lt
  have a2 := s2.at a1
  have n1 : M1.length = M.length := s1.len
  have n2 : M2.length = M.length := by rw [s2.len, n1]
  obtain ⟨ρ3, M3', e3, Ma, qs, rfl, sa, hq1, hq2, y, rfl⟩ := forL_run (g := gN 4) (f := sEx (eApp (eVar 3) (aCons (eIf (tb (eBin bEq (eCall fn__law_draw [] (aCons (eVar 0) (aCons (eC (.int 3)) aNil))) (eC (.int 0)))) (eCall fn__law_of [] (aCons (eVar 0) (aCons (eVar 2) aNil))) (eCall fn__law_chance [] (aCons (eVar 0) aNil))) aNil)))
    (fun i ρ M' => ∃ Ma qs, M' = Ma ++ [qs.map F] ∧ St r M2 Ma ∧ qs.length = i ∧ (∀ q ∈ qs, Ch q) ∧ ∃ y, ρ = [some (.ob r), some (I most), some (.p (.list ds)), some (.ob M.length), y]) (rangeD 0 l.toNat) 0
    [some (.ob r), some (I most), some (.p (.list ds)), some (.ob M.length), none] (M2 ++ [[]]) ⟨M2, [], rfl, .refl a2, rfl, by simp, none, rfl⟩ (fun i x ρ M' hx ⟨Ma, qs, hM', sa, hq1, hq2, y, hρ⟩ => by
      subst hM' hρ
      have aa := sa.at a2
      have na : Ma.length = M.length := by rw [sa.len, n2]
      obtain ⟨v4, M4', s4', ⟨c, rfl, c0, c1⟩, e4⟩ := draw_ok (aa.app [qs.map F]) (l := 3) (by omega) (by omega)
      obtain ⟨M4, rfl, s4⟩ := s4'.app aa.lt
      have a4 := s4.at aa
      have hi : i < l.toNat := by simpa using (List.getElem?_eq_some_iff.mp hx).1
      have fin : ∀ (M5' : Sto) (q : Rat), Ch q → St r (M4 ++ [qs.map F]) M5' → ∃ M5, M5' = M5 ++ [qs.map F] ∧ St r Ma M5 ∧ appV (.ob M.length) [.p (F q)] M5' = some (.p .none, M5 ++ [(qs ++ [q]).map F]) := fun M5' q hq s5' => by
        obtain ⟨M5, rfl, s5⟩ := s5'.app a4.lt
        have n5 : M5.length = M.length := by rw [s5.len, s4.len, na]
        refine ⟨M5, rfl, s4.trans s5, ?_⟩
        have : (M5 ++ [qs.map F])[M.length]? = some (qs.map F) := by rw [List.getElem?_append_right (by omega), n5]; simp
        have hlen : (qs.map F).length < 16777216 := by simp; omega
        have hset : (M5 ++ [qs.map F]).set M.length (qs.map F ++ [F q]) = M5 ++ [(qs ++ [q]).map F] := by
          rw [List.set_append_right _ _ (by omega), n5]; simp
        unfold appV
        simp only [this]
        rw [if_pos hlen, hset]
      by_cases hc : c = 0
      · subst hc
        have hne : ds ≠ [] := fun z => by rw [z] at hl1; simp at hl1
        obtain ⟨v5, M5', s5, ⟨d, rfl, hd⟩, e5⟩ := of_okL (a4.app [qs.map F]) hne (by omega)
        obtain ⟨q, rfl, hq⟩ := hds d hd
        obtain ⟨M5, rfl, s6, e6⟩ := fin M5' q hq s5
        refine ⟨_, _, [some (.ob r), some (I most), some (.p (.list ds)), some (.ob M.length), some (.p x)], M5 ++ [(qs ++ [q]).map F], rfl, .inl ?_, M5, qs ++ [q], rfl, sa.trans s6, by simp; omega, fun z hz => ?_, some (.p x), rfl⟩
        · simp [e4, e5, e6]
        · rcases List.mem_append.mp hz with hz | hz
          · exact hq2 z hz
          · simp at hz; subst hz; exact hq
      · obtain ⟨v5, M5', s5, ⟨q, rfl, hq⟩, e5⟩ := chance_ok (a4.app [qs.map F])
        obtain ⟨M5, rfl, s6, e6⟩ := fin M5' q hq s5
        refine ⟨_, _, [some (.ob r), some (I most), some (.p (.list ds)), some (.ob M.length), some (.p x)], M5 ++ [(qs ++ [q]).map F], rfl, .inl ?_, M5, qs ++ [q], rfl, sa.trans s6, by simp; omega, fun z hz => ?_, some (.p x), rfl⟩
        · simp [e4, e5, e6, hc]
        · rcases List.mem_append.mp hz with hz | hz
          · exact hq2 z hz
          · simp at hz; subst hz; exact hq)
  have na : Ma.length = M.length := by rw [sa.len, n2]
  refine ⟨.p (.tuple (qs.map F)), Ma, (s1.trans s2).trans sa, ⟨qs, rfl, ?_, hq2⟩, ?_⟩
  · simp at hq1; omega
  · have g3 : (Ma ++ [qs.map F])[M.length]? = some (qs.map F) := by rw [List.getElem?_append_right (by omega), na]; simp
    have i6 : i62 l = true := i62_int (by omega) (by omega)
    have i4 : i62 4 = true := by decide
    unfold fn__law_row m__law_row l__law_row_0 b__law_row_0
    have tk : (Ma ++ [qs.map F]).take M.length = Ma := by rw [← na]; simp
    simp [wipeR, i4, e1, lstMV, n1, e2, i6, e3, nTuple, g3, tk]
/-! ## the well, the law over its laps -/
theorem well_ok (ns : List Int) (lap : Nat) (M : Sto) : ∃ xs, Wl xs ∧ fn__law_well [.p (.list (ns.map .int)), I lap] M = some (.ob M.length, M ++ [xs]) := by
  have p0 : ∀ x : Int, 0 ≤ x % 2147483629 := fun x => Int.emod_nonneg _ (by decide)
  have m1 : ∀ x : Int, mulOk x 47521 = true := fun x => mulOk_r (by decide)
  have m2 : mulOk 5231 (lap : Int) = true := mulOk_l (by decide)
  have m3 : ∀ x : Int, mulOk x 61 = true := fun x => mulOk_r (by decide)
  have m4 : ∀ x : Int, mulOk x 16007 = true := fun x => mulOk_r (by decide)
  obtain ⟨ρ', M', e1, hM', s1, y1, rfl⟩ := forL_run (g := gN 3) (f := sAs (eBin bMod (eCB nInt (aCons (eBin bAdd (eBin bAdd (eBin bMul (eVar 2) (eC (.int 47521))) (eBin bMod (eCB nInt (aCons (eVar 3) aNil)) (eC (.int 2147483549)))) (eC (.int 41))) aNil)) (eC (.int 2147483629))) (gN 2))
    (fun _ ρ M' => M' = M ∧ ∃ (s : Int) (y : Option Val), ρ = [some (.p (.list (ns.map .int))), some (I lap), some (I s), y, none]) ((ns.map PyData.int).take 9) 0 [some (.p (.list (ns.map .int))), some (I lap), some (I (3823956 + 5231 * lap)), none, none] M ⟨rfl, _, none, rfl⟩
    (fun i x ρ M1 hx ⟨hM, s, y, hρ⟩ => by
      subst hM hρ
      have hx := List.mem_of_mem_take (List.mem_of_getElem? hx)
      obtain ⟨z, _, rfl⟩ := List.mem_map.mp hx
      exact ⟨_, _, _, _, rfl, .inl (by simp [m1]; exact ⟨rfl, rfl⟩), rfl, _, _, rfl⟩)
  have cut : cutA (ns.map PyData.int) none (some 9) = (ns.map PyData.int).take 9 := by
    unfold cutA HT.sIx
    simp [List.take_eq_take_iff]
  rw [hM'] at e1
  have p9 : (1000000000000000 : Int).natAbs < 2 ^ 64 := by decide
  have b9 : bPow (I 10) (I 15) M = some (I 1000000000000000, M) := rfl
  have fin : ∀ o : Int, ∃ xs, Wl xs ∧ fi finM M.length (sq (some (.nx, [some (.p (.list (ns.map PyData.int))), some (I lap), some (I s1), y1, some (I o)], M)) (sSeq (sAs (eBin bMod (eCB nInt (aCons (eBin bAdd (eBin bAdd (eBin bMul (eVar 2) (eC (.int 61))) (eBin bMul (eBin bMod (eCB nInt (aCons (eVar 4) aNil)) (eC (.int 2147483549))) (eC (.int 16007)))) (eC (.int 17))) aNil)) (eC (.int 2147483629))) (gN 2)) (sRt (eLstM (aCons (eIf (tOrF (tb (eBin bLt (eVar 4) (eC (.int 0)))) (tb (eBin bGe (eVar 4) (eBin bPow (eC (.int 10)) (eC (.int 15)))))) (eCB nAbs (aCons (eVar 4) aNil)) (eC (.int 0))) (aCons (eVar 2) (aCons (eC (.int 0)) aNil))))))) = some (.ob M.length, M ++ [xs]) := fun o => by
    by_cases h1 : o < 0
    · refine ⟨_, ⟨(o.natAbs : Int), (s1 * 61 + o % 2147483549 * 16007 + 17) % 2147483629, 0, rfl, by omega, p0 _⟩, ?_⟩
      simp [m3, m4, h1, lstMV, finM]
    · by_cases h2 : 1000000000000000 ≤ o
      · refine ⟨_, ⟨(o.natAbs : Int), (s1 * 61 + o % 2147483549 * 16007 + 17) % 2147483629, 0, rfl, by omega, p0 _⟩, ?_⟩
        simp [m3, m4, h1, h2, b9, lstMV, finM]
      · refine ⟨_, ⟨0, (s1 * 61 + o % 2147483549 * 16007 + 17) % 2147483629, 0, rfl, by omega, p0 _⟩, ?_⟩
        simp [m3, m4, h1, h2, b9, lstMV, finM]
  by_cases h : lap < ns.length
  · obtain ⟨xs, w, e⟩ := fin ns[lap]
    refine ⟨xs, w, ?_⟩
    rw [← e]
    unfold fn__law_well m__law_well b__law_well_0
    simp [m2, cut, e1, h, atI_nat]
  · obtain ⟨xs, w, e⟩ := fin 0
    refine ⟨xs, w, ?_⟩
    rw [← e]
    unfold fn__law_well m__law_well b__law_well_0
    simp [m2, cut, e1, h]
/-- what a law has to show of one lap -/
theorem laps_ok {right : Fn} (hr : ∀ (r : Nat) (M : Sto), At r M → ∃ M1, right [.ob r] M = some (B true, M1)) (e : EF) (well : Fn) (he : e = eCall right [] (aCons (eCall well [] (aCons (eVar 0) (aCons (eVar 1) aNil))) aNil)) (ns : List Int)
    (hw : ∀ (lap : Nat) (M : Sto), ∃ xs, Wl xs ∧ well [.p (.list (ns.map .int)), I lap] M = some (.ob M.length, M ++ [xs])) (k : Nat) (y : Option Val) : ∃ ds M1, lcL (gN 1) tYesF e [some (.p (.list (ns.map .int))), y] (rangeD 0 k) [] = some (ds, M1) ∧ ∃ bs : List Bool, ds = bs.map PyData.bool ∧ ∀ b ∈ bs, b = true := by
  subst he
  obtain ⟨ds, M1, e1, _, hl, hd⟩ := lcL_run (g := gN 1) (e := eCall right [] (aCons (eCall well [] (aCons (eVar 0) (aCons (eVar 1) aNil))) aNil)) (ρ := [some (.p (.list (ns.map .int))), y]) (fun _ => True) (fun _ d => ∃ b : Bool, d = .bool b ∧ b = true) (fun x => [some (.p (.list (ns.map .int))), some (.p x)]) (rangeD 0 k) [] trivial (fun x hx M _ => ⟨by simp, by
    obtain ⟨i, _, rfl⟩ := rangeD_mem hx
    obtain ⟨xs, w, ew⟩ := hw i M
    obtain ⟨M1, er⟩ := hr M.length (M ++ [xs]) ⟨xs, by simp, w⟩
    exact ⟨.bool true, M1, by simp [ew, er], ⟨true, rfl, rfl⟩, trivial⟩⟩)
  refine ⟨ds, M1, e1, unmap fun d hd' => ?_⟩
  obtain ⟨i, hi⟩ := List.mem_iff_getElem?.mp hd'
  have hlt : i < (rangeD 0 k).length := by rw [← hl]; exact (List.getElem?_eq_some_iff.mp hi).1
  obtain ⟨b, h1, h2⟩ := hd i _ d (List.getElem?_eq_getElem hlt) hi
  exact ⟨b, h1, h2⟩
theorem bools_map : ∀ bs : List Bool, bools (bs.map PyData.bool) = some bs
  | [] => rfl
  | b :: bs => by
    show (bools (bs.map PyData.bool)).map (b :: ·) = _
    rw [bools_map bs]
    rfl



/-! ## what is a chance, a row -/
def isW : PyData → Bool
  | .int _ => true
  | _ => false
theorem is_whole_eq (d : PyData) (M : Sto) : fn_is_whole [.p d] M = some (B (isW d), M) := by
  unfold fn_is_whole m_is_whole
  cases d <;> simp [isTy, isW]
theorem is_tuple_of_t (ds : List PyData) (k : Int) (M : Sto) : fn_is_tuple_of [.p (.tuple ds), I k] M = some (B (decide ((ds.length : Int) = k)), M) := by
  unfold fn_is_tuple_of m_is_tuple_of
  simp [isTy]
def isT : PyData → Bool
  | .tuple _ => true
  | _ => false
theorem is_tuple_of_f {d : PyData} (h : isT d = false) (k : Int) (M : Sto) : fn_is_tuple_of [.p d, I k] M = some (B false, M) := by
  unfold fn_is_tuple_of m_is_tuple_of
  cases d <;> first | (cases h; done) | simp [isTy]
theorem is_number_1 (d : PyData) (a : Int) (M : Sto) : fn_is_number [.p d, I a, .p .none] M = some (B (match d with | .int i => decide (a ≤ i) | _ => false), M) := by
  unfold fn_is_number m_is_number
  cases d with
  | int i => 
    by_cases h : a ≤ i
    · simp [is_whole_eq, isW, isNon, h]
    · simp [is_whole_eq, isW, isNon, h]
  | _ => simp [is_whole_eq, isW]
def isFr : PyData → Bool
  | .tuple [.int a, .int b] => decide (1 ≤ b) && decide (Nat.gcd a.natAbs b.natAbs = 1)
  | _ => false
theorem gcd_int {a b : Int} (h : 1 ≤ b) (M : Sto) : fn_common_divisor [I (a.natAbs : Int), I b] M = some (I (Nat.gcd a.natAbs b.natAbs : Nat), M) := by
  have e : ((b.natAbs : Nat) : Int) = b := by omega
  have := common_divisor_eq a.natAbs b.natAbs M
  rwa [e] at this
theorem is_fraction_eq (d : PyData) (M : Sto) : fn_is_fraction [.p d] M = some (B (isFr d), M) := by
  unfold fn_is_fraction m_is_fraction
  by_cases ht : isT d = true
  · cases d with
    | tuple ds =>
      match ds with
      | [] => simp [is_tuple_of_t, isFr]
      | [x] => simp [is_tuple_of_t, isFr]
      | x :: y :: z :: r =>
        have : ¬ ((r.length : Int) + 1 + 1 + 1 = 2) := by omega
        simp [is_tuple_of_t, isFr, this]
      | [x, y] =>
        cases x with
        | int a =>
          cases y with
          | int b =>
            by_cases hb : 1 ≤ b
            · have eg := gcd_int (a := a) hb M
              simp [is_tuple_of_t, isFr, is_whole_eq, isW, is_number_1, hb, eg]
              omega
            · simp [is_tuple_of_t, isFr, is_whole_eq, isW, is_number_1, hb]
          | _ => simp [is_tuple_of_t, isFr, is_whole_eq, isW, is_number_1]
        | _ => simp [is_tuple_of_t, isFr, is_whole_eq, isW]
    | _ => cases ht
  · have ht : isT d = false := by simpa using ht
    have hf : isFr d = false := by cases d <;> first | rfl | cases ht
    rw [hf]
    simp [is_tuple_of_f ht]
def isCh : PyData → Bool
  | .tuple [.int a, .int b] => decide (0 ≤ a) && decide (a < b) && decide (Nat.gcd a.natAbs b.natAbs = 1)
  | _ => false
theorem fr_cases {d : PyData} (h : isFr d = true) : ∃ a b : Int, d = .tuple [.int a, .int b] ∧ 1 ≤ b ∧ Nat.gcd a.natAbs b.natAbs = 1 := by
  unfold isFr at h
  split at h
  · simp at h; exact ⟨_, _, rfl, h⟩
  · cases h
theorem is_chance_form_eq (d : PyData) (M : Sto) : fn_is_chance_form [.p d] M = some (B (isCh d), M) := by
  unfold fn_is_chance_form m_is_chance_form
  cases hf : isFr d with
  | true =>
    obtain ⟨a, b, rfl, hb, hg⟩ := fr_cases hf
    by_cases h0 : 0 ≤ a
    · simp [is_fraction_eq, hf, isCh, h0, hg]
    · simp [is_fraction_eq, hf, isCh, h0]
  | false =>
    have : isCh d = false := by
      cases hc : isCh d with
      | false => rfl
      | true =>
        unfold isCh at hc
        split at hc
        · simp at hc
          unfold isFr at hf
          simp at hf
          exact absurd hc.2 (hf (by omega))
        · cases hc
    simp [is_fraction_eq, hf, this]

theorem is_number_2 (i a b : Int) (M : Sto) : fn_is_number [I i, I a, I b] M = some (B (decide (a ≤ i) && decide (i ≤ b)), M) := by
  unfold fn_is_number m_is_number
  by_cases h : a ≤ i <;> simp [is_whole_eq, isW, isNon, h]
theorem ch_is {q : Rat} (h0 : 0 ≤ q) (h1 : q < 1) : isCh (F q) = true := by
  have a : 0 ≤ q.num := Rat.num_nonneg.mpr h0
  have b : q.num < q.den := by
    have := (Rat.lt_iff q 1).mp h1
    simpa using this
  have c := q.reduced
  unfold F isCh
  simp [a, b, c]
theorem isFr_F (q : Rat) : isFr (F q) = true := by
  have := q.den_pos
  have c := q.reduced
  unfold F isFr
  simp [c]; omega
theorem first_wrong_ok {g : List PyData → Option PyData} {ds : List PyData} (h : ∀ (i : Nat) (d : PyData), ds[i]? = some d → g [d, .tuple (ds.take i)] = some (.bool true)) (M : Sto) : fn_first_wrong [.p (.tuple ds), .clo g] M = some (.p .none, M) := by
  obtain ⟨ρ', M', e, hM, y1, y2, rfl⟩ := forL_run (g := gT [(gN 2), (gN 3)]) (f := b_first_wrong_0) (fun _ ρ M' => M' = M ∧ ∃ y1 y2, ρ = [some (.p (.tuple ds)), some (.clo g), y1, y2]) (enD ds) 0 [some (.p (.tuple ds)), some (.clo g), none, none] M ⟨rfl, none, none, rfl⟩
    (fun i x ρ M' hx ⟨hM, y1, y2, hρ⟩ => by
      subst hM hρ
      obtain ⟨d, hd, rfl⟩ := enD_at hx
      refine ⟨_, _, _, _, rfl, .inl ?_, rfl, some (I i), some (.p d), rfl⟩
      have hg := h i d hd
      unfold b_first_wrong_0
      simp [cvV, hg])
  subst hM
  unfold fn_first_wrong m_first_wrong
  simp [e]
def Row (qs : List Rat) : Prop := (∀ q ∈ qs, 0 ≤ q ∧ q < 1) ∧ qs.length ≤ 12
theorem Row.drop {qs : List Rat} (h : Row qs) (n : Nat) : Row (qs.drop n) := ⟨fun q hq => h.1 q (List.mem_of_mem_drop hq), by have := h.2; simp; omega⟩
theorem Row.take {qs : List Rat} (h : Row qs) (n : Nat) : Row (qs.take n) := ⟨fun q hq => h.1 q (List.mem_of_mem_take hq), by have := h.2; simp; omega⟩
theorem Row.rw {qs : List Rat} (h : Row qs) : Rw qs := fun q hq => ⟨(h.1 q hq).1, Rat.le_of_lt (h.1 q hq).2⟩
theorem row_fault_ok {ds : List PyData} (h : ∀ d ∈ ds, isCh d = true) (hl : ds.length ≤ 12) (M : Sto) : fn_row_fault [.p (.tuple ds), I 12] M = some (.p (.tuple []), M) := by
  have e := first_wrong_ok (g := lamG 2 [1] g_row_fault_0 [some (.p (.tuple ds)), some (I 12), none]) (ds := ds.take 13) (fun i d hi => by
    have hi' : i < (ds.take 13).length := (List.getElem?_eq_some_iff.mp hi).1
    rw [List.length_take] at hi'
    have hd : isCh d = true := h d (List.mem_of_mem_take (List.mem_of_getElem? hi))
    have h1 : min i (min 13 ds.length) = i := by omega
    have h2 : (i : Int) < 12 := by omega
    unfold lamG g_row_fault_0
    simp [capR, cap1, is_chance_form_eq, hd, List.take_take, h1, h2]) M
  unfold fn_row_fault m_row_fault
  simp [isTy, e, isNon, cut_take', tupV]
theorem check_row_ok {ds : List PyData} (h : ∀ d ∈ ds, isCh d = true) (hl : ds.length ≤ 12) (M : Sto) : fn_check_row [.p (.tuple ds)] M = some (.p .none, M) := by
  unfold fn_check_row m_check_row
  simp [row_fault_ok h hl]
/-- a row: chances from 0 on and below 1, up to twelve -/
theorem check_row_eq {qs : List Rat} (h : Row qs) (M : Sto) : fn_check_row [.p (.tuple (qs.map F))] M = some (.p .none, M) :=
  check_row_ok (fun d hd => by
    obtain ⟨q, hq, rfl⟩ := List.mem_map.mp hd
    exact ch_is (h.1 q hq).1 (h.1 q hq).2) (by simpa using h.2) M
theorem check_number_2 {i a b : Int} (h1 : a ≤ i) (h2 : i ≤ b) (M : Sto) : fn_check_number [I i, I a, I b] M = some (.p .none, M) := by
  unfold fn_check_number m_check_number
  simp [is_number_2, h1, h2]
theorem check_number_1 {i a : Int} (h1 : a ≤ i) (M : Sto) : fn_check_number [I i, I a, .p .none] M = some (.p .none, M) := by
  unfold fn_check_number m_check_number
  simp [is_number_1, h1]
theorem check_many_eq {i a : Int} (h1 : a ≤ i) (h2 : i ≤ 12) (M : Sto) : fn_check_many [I i, I a] M = some (.p .none, M) := by
  unfold fn_check_many m_check_many
  simp [check_number_2 h1 h2]



/-! ## sums, products, counts as the program tells them -/
theorem F0 : PyData.tuple [.int 0, .int 1] = F 0 := rfl
theorem F1 : PyData.tuple [.int 1, .int 1] = F 1 := rfl
theorem len_pre {α : Type} {pre bs : List α} {b : α} (h : pre ++ [b] <+: bs) : pre.length < bs.length := by
  have := h.length_le
  rw [List.length_append, List.length_singleton] at this
  omega
theorem mem_pre {α : Type} {pre bs : List α} {b : α} (h : pre ++ [b] <+: bs) : b ∈ bs ∧ ∀ x ∈ pre, x ∈ bs := ⟨h.subset (by simp), fun x hx => h.subset (by simp [hx])⟩
theorem sum_of_eq {d : PyData} {qs : List Rat} {D c k : Nat} (hd : ∀ M, seqV (.p d) M = some (qs.map F, M)) (h : ∀ q ∈ qs, Bd D c q) (hD : 0 < D) (hk : (c * qs.length + 1) * D < 2 ^ k) (h9 : k ≤ 4500) (M : Sto) : fn_sum_of [.p d] M = some (.p (F (sumQ qs)), M) := by
  obtain ⟨ρ', M', e, hM, y, rfl⟩ := forL_map (g := gN 2) (f := b_sum_of_0) F (fun pre ρ M' => M' = M ∧ ∃ y, ρ = [some (.p d), some (.p (F (sumQ pre))), y]) qs [some (.p d), some (.p (F 0)), none] M ⟨rfl, none, rfl⟩
    (fun pre b ρ M' hp ⟨hM, y, hρ⟩ => by
      subst hM hρ
      have sz : ∀ i, i ≤ qs.length → c * i * D < 2 ^ k := fun i hi => Nat.lt_of_le_of_lt (Nat.mul_le_mul_right _ (Nat.le_succ_of_le (Nat.mul_le_mul_left _ hi))) hk
      have sD : D < 2 ^ k := Nat.lt_of_le_of_lt (Nat.le_mul_of_pos_left _ (Nat.succ_pos _)) hk
      have hl := len_pre hp
      have b1 : Bq k (sumQ pre) := (sumQ_bd fun q hq => h q ((mem_pre hp).2 q hq)).bq hD sD (sz _ (by omega))
      have b2 : Bq k b := (h b (mem_pre hp).1).bq hD sD (by have := sz 1 (by omega); rwa [Nat.mul_one] at this)
      have a := added_eq b1 b2 (by omega) M'
      refine ⟨_, _, [some (.p d), some (.p (F (sumQ (pre ++ [b])))), some (.p (F b))], M', rfl, .inl ?_, rfl, _, rfl⟩
      have es : sumQ (pre ++ [b]) = sumQ pre + b := by rw [sumQ_app]; show sumQ pre + (b + 0) = _; rw [Rat.add_zero]
      rw [es]
      unfold b_sum_of_0
      simp [a])
  subst hM
  unfold fn_sum_of m_sum_of
  simp [F0, hd, e]
theorem counts_in_eq {d : PyData} {qs : List Rat} {k : Nat} (hd : ∀ M, seqV (.p d) M = some (qs.map F, M)) (hr : Rw qs) (h : ∀ q ∈ qs, Bq k q) (hk : k * qs.length ≤ 2000) (hk2 : k ≤ 2000) (hl : qs.length ≤ 900) (M : Sto) : fn_counts_in [.p d] M = some (.p (.list ((cntL qs).map F)), M) := by
  obtain ⟨ρ', M', e, hM, y3, y4, y5, y6, y7, y8, rfl⟩ := forL_map (g := gN 2) (f := b_counts_in_0) F (fun pre ρ M' => M' = M ∧ ∃ y3 y4 y5 y6 y7 y8, ρ = [some (.p d), some (.p (.list ((cntL pre).map F))), y3, y4, y5, y6, y7, y8]) qs [some (.p d), some (.p (.list ((cntL []).map F))), none, none, none, none, none, none] M ⟨rfl, none, none, none, none, none, none, rfl⟩
    (fun pre b ρ M' hp ⟨hM, y3, y4, y5, y6, y7, y8, hρ⟩ => by
      subst hM hρ
      have hb := h b (mem_pre hp).1
      have hw : Rw pre := fun q hq => hr q ((mem_pre hp).2 q hq)
      have hw2 : Rw (pre ++ [b]) := fun q hq => hr q (hp.subset hq)
      have hlt := len_pre hp
      have hl1 : k * pre.length ≤ k * qs.length := Nat.mul_le_mul_left _ (Nat.le_of_lt hlt)
      have bq : ∀ q ∈ cntL pre, Bq 2001 q := fun q hq => by
        obtain ⟨i, _, rfl⟩ := cntL_mem hq
        exact cf_bq hw (fun r hr => h r ((mem_pre hp).2 r hr)) (by omega) i
      obtain ⟨V, hV⟩ : ∃ V : PyData, V = .list ((cntL pre).map F) := ⟨_, rfl⟩
      have e1 := lcL_mapM (g := gN 5) (e := l_counts_in_0) (ρ := [some (.p d), some (.p V), some (.p (F b)), y4, y5, none, y7, y8]) (M := M') F (fun q => F (q * b)) (fun q => [some (.p d), some (.p V), some (.p (F b)), y4, y5, some (.p (F q)), y7, y8]) (cntL pre) (fun q hq => ⟨rfl, by
        have a := multiplied_eq (bq q hq) hb (by omega) M'
        unfold l_counts_in_0
        simp [a]⟩)
      obtain ⟨V1, hV1⟩ : ∃ V1 : PyData, V1 = .list ((0 :: (cntL pre).map (· * b)).map F) := ⟨_, rfl⟩
      have e2 := lcL_mapM (g := gN 5) (e := l_counts_in_1) (ρ := [some (.p d), some (.p V), some (.p (F b)), some (.p V1), y5, none, y7, y8]) (M := M') F (fun q => F (q * (1 - b))) (fun q => [some (.p d), some (.p V), some (.p (F b)), some (.p V1), y5, some (.p (F q)), y7, y8]) (cntL pre) (fun q hq => ⟨rfl, by
        have a := multiplied_eq (bq q hq) hb.rest (by omega) M'
        unfold l_counts_in_1
        simp [rest_of_eq, a]⟩)
      obtain ⟨V2, hV2⟩ : ∃ V2 : PyData, V2 = .list (((cntL pre).map (· * (1 - b)) ++ [0]).map F) := ⟨_, rfl⟩
      have e3 := lcL_mapM (g := gT [(gN 6), (gN 7)]) (e := l_counts_in_2) (ρ := [some (.p d), some (.p V), some (.p (F b)), some (.p V1), some (.p V2), y6, none, none]) (M := M') (fun x : Rat × Rat => .tuple [F x.1, F x.2]) (fun x => F (x.1 + x.2)) (fun x => [some (.p d), some (.p V), some (.p (F b)), some (.p V1), some (.p V2), y6, some (.p (F x.1)), some (.p (F x.2))]) (List.zip (0 :: (cntL pre).map (· * b)) ((cntL pre).map (· * (1 - b)) ++ [0])) (fun x hx => ⟨by simp, by
        have h1 : Bq 4001 x.1 := by
          have := List.of_mem_zip hx
          rcases List.mem_cons.mp this.1 with z | z
          · rw [z]; exact Bq.zero.mono (by omega)
          · obtain ⟨q, hq, e⟩ := List.mem_map.mp z
            rw [← e]; exact ((bq q hq).mul hb).mono (by omega)
        have h2 : Bq 4002 x.2 := by
          have := List.of_mem_zip hx
          rcases List.mem_append.mp this.2 with z | z
          · obtain ⟨q, hq, e⟩ := List.mem_map.mp z
            rw [← e]; exact ((bq q hq).mul hb.rest).mono (by omega)
          · have : x.2 = 0 := by simpa using z
            rw [this]; exact Bq.zero.mono (by omega)
        have a := added_eq h1 h2 (by omega) M'
        unfold l_counts_in_2
        simp [a]⟩)
      have ez : zipD (F 0 :: (cntL pre).map (fun q => F (q * b))) ((cntL pre).map (fun q => F (q * (1 - b))) ++ [F 0]) = (List.zip (0 :: (cntL pre).map (· * b)) ((cntL pre).map (· * (1 - b)) ++ [0])).map (fun x : Rat × Rat => .tuple [F x.1, F x.2]) := by
        have q1 : (F 0 :: (cntL pre).map (fun q => F (q * b))) = (0 :: (cntL pre).map (· * b)).map F := by simp
        have q2 : ((cntL pre).map (fun q => F (q * (1 - b))) ++ [F 0]) = ((cntL pre).map (· * (1 - b)) ++ [0]).map F := by simp
        rw [q1, q2]
        unfold zipD
        rw [List.zipWith_map, List.zip, List.map_zipWith]
      have ec : (List.zip (0 :: (cntL pre).map (· * b)) ((cntL pre).map (· * (1 - b)) ++ [0])).map (fun x : Rat × Rat => F (x.1 + x.2)) = (cntL (pre ++ [b])).map F := by
        rw [← cntL_snoc, List.zip, List.map_zipWith, List.map_zipWith]
      rw [ec, ← ez] at e3
      have v1 : V1 = .list (F 0 :: (cntL pre).map (fun q => F (q * b))) := by rw [hV1]; simp
      have v2 : V2 = .list ((cntL pre).map (fun q => F (q * (1 - b))) ++ [F 0]) := by rw [hV2]; simp
      have l0 : pre.length + 1 ≤ 16777216 := by omega
      have l1 : 1 + (pre.length + 1) ≤ 16777216 := by omega
      have l2 : pre.length + 1 + 1 ≤ 16777216 := by omega
      refine ⟨_, _, [some (.p d), some (.p (.list ((cntL (pre ++ [b])).map F))), some (.p (F b)), some (.p V1), some (.p V2), y6, y7, y8], M', rfl, .inl ?_, rfl, _, _, _, _, _, _, rfl⟩
      rw [v1, v2] at e3
      rw [v1] at e2
      rw [v1, v2]
      subst hV
      unfold b_counts_in_0
      simp [F0, lstV, wipeR, e1, e2, e3, l0, l1, l2])
  subst hM
  have e0 : (cntL []).map F = [F 1] := rfl
  rw [e0] at e
  unfold fn_counts_in m_counts_in
  simp [F1, hd, e, lstV]



/-! ## courses, rows as the program takes them -/
def encN (c : List Nat) : PyData := .tuple (c.map fun a : Nat => .int (a : Int))
theorem any_int (c : List Nat) (i : Nat) : (c.map fun a : Nat => PyData.int (a : Int)).any (fun y => PyData.eqv y (.int (i : Int))) = decide (i ∈ c) := by
  rw [Bool.eq_iff_iff, List.any_eq_true, decide_eq_true_iff]
  constructor
  · rintro ⟨y, hy, e⟩
    obtain ⟨a, ha, rfl⟩ := List.mem_map.mp hy
    rw [eqv_int, decide_eq_true_iff] at e
    have : a = i := by omega
    rwa [← this]
  · intro h
    exact ⟨.int (i : Int), List.mem_map.mpr ⟨i, h, rfl⟩, by rw [eqv_int]; exact decide_eq_true rfl⟩
theorem shp_N (c : List Nat) : shp (encN c) = true := by
  have e : (c.map fun a : Nat => PyData.int (a : Int)) = (c.map fun a : Nat => (a : Int)).map PyData.int := by rw [List.map_map]; rfl
  unfold encN
  rw [e]; exact shp_tints _
theorem bIn_N (i : Nat) (c : List Nat) (M : Sto) : bIn (I (i : Int)) (.p (encN c)) M = some (B (decide (i ∈ c)), M) := by
  have s := shp_N c
  unfold encN at s ⊢
  show (if shp (.int (i : Int)) && shp (.tuple (c.map fun a : Nat => .int (a : Int))) then some (B ((c.map fun a : Nat => PyData.int (a : Int)).any fun y => PyData.eqv y (.int (i : Int))), M) else none) = _
  rw [shp_int, s, any_int]
  rfl
theorem len_N (c : List Nat) (M : Sto) : nLen [.p (encN c)] M = some (I c.length, M) := by
  unfold encN
  rw [nLen_t, List.length_map]
theorem enD_zip (qs : List Rat) : enD (qs.map F) = qs.zipIdx.map fun x : Rat × Nat => .tuple [.int (x.2 : Int), F x.1] := by
  unfold enD
  apply List.ext_getElem?
  intro i
  rw [List.getElem?_mapIdx, List.getElem?_map, List.getElem?_map, List.getElem?_zipIdx]
  cases qs[i]? with
  | none => rfl
  | some q => simp
/-- a row whose chances are not large in writing -/
def R4 (qs : List Rat) : Prop := Row qs ∧ ∀ q ∈ qs, Bq 40 q
theorem R4.drop {qs : List Rat} (h : R4 qs) (n : Nat) : R4 (qs.drop n) := ⟨h.1.drop n, fun q hq => h.2 q (List.mem_of_mem_drop hq)⟩
theorem R4.take {qs : List Rat} (h : R4 qs) (n : Nat) : R4 (qs.take n) := ⟨h.1.take n, fun q hq => h.2 q (List.mem_of_mem_take hq)⟩
theorem R4.len {qs : List Rat} (h : R4 qs) : qs.length ≤ 12 := h.1.2
theorem r4_of {qs : List Rat} (hl : qs.length ≤ 12) (h : ∀ q ∈ qs, Ch q) : R4 qs := ⟨⟨fun q hq => ⟨(h q hq).1, (h q hq).2.1⟩, hl⟩, fun q hq => (h q hq).2.2.mono (by decide)⟩
theorem R4.cf {qs : List Rat} (h : R4 qs) (k : Nat) : Bq 481 (cf qs k) := cf_bq h.1.rw h.2 (by have := h.len; omega) k
theorem R4.crs {qs : List Rat} (h : R4 qs) : ∀ c ∈ crs qs, Bq 481 c.2 := fun c hc => by
  refine (crs_bd qs h.1.rw c hc).bq' (dn_pos _) (Nat.le_refl _) ?_
  rw [Nat.one_mul]
  exact Nat.lt_of_le_of_lt (dn_lt h.2) (Nat.pow_lt_pow_right (by decide) (by have := h.len; omega))
theorem R4.dn {qs : List Rat} (h : R4 qs) : dn qs < 2 ^ 481 := Nat.lt_of_le_of_lt (dn_lt h.2) (Nat.pow_lt_pow_right (by decide) (by have := h.len; omega))
theorem R4.none {qs : List Rat} (h : R4 qs) : Bq 481 (noneQ qs) := by rw [← cf_none]; exact h.cf 0
theorem R4.od {qs : List Rat} (h : R4 qs) : ∀ r ∈ qs.map od, Bq 81 r := fun r hr => by
  obtain ⟨q, hq, rfl⟩ := List.mem_map.mp hr
  exact (h.2 q hq).div (h.2 q hq).rest
theorem R4.es {qs : List Rat} (h : R4 qs) (k : Nat) : Bq 1960 (es (qs.map AX.od) k) := es_bq h.od (by rw [List.length_map]; have := h.len; omega) k
theorem sumQ_bq {k : Nat} : ∀ {qs : List Rat}, (∀ q ∈ qs, Bq k q) → Bq ((k + 1) * qs.length + 1) (sumQ qs)
  | [], _ => Bq.zero.mono (by omega)
  | q :: qs, h => by
    have a := sumQ_bq (qs := qs) fun x hx => h x (List.mem_cons_of_mem _ hx)
    rw [sumQ_cons, List.length_cons]
    exact ((h q (List.mem_cons_self ..)).add a).mono (by rw [Nat.mul_succ]; omega)
theorem R4.sum {qs : List Rat} (h : R4 qs) : Bq 493 (sumQ qs) := (sumQ_bq h.2).mono (by have := h.len; omega)
theorem R4.sumOd {qs : List Rat} (h : R4 qs) : Bq 985 (sumQ (qs.map AX.od)) := (sumQ_bq h.od).mono (by rw [List.length_map]; have := h.len; omega)
theorem sum_of_bq {d : PyData} {qs : List Rat} {k : Nat} (hd : ∀ M, seqV (.p d) M = some (qs.map F, M)) (h : ∀ q ∈ qs, Bq k q) (hk : (k + 1) * qs.length + 1 + k ≤ 9000) (M : Sto) : fn_sum_of [.p d] M = some (.p (F (sumQ qs)), M) := by
  obtain ⟨ρ', M', e, hM, y, rfl⟩ := forL_map (g := gN 2) (f := b_sum_of_0) F (fun pre ρ M' => M' = M ∧ ∃ y, ρ = [some (.p d), some (.p (F (sumQ pre))), y]) qs [some (.p d), some (.p (F 0)), none] M ⟨rfl, none, rfl⟩
    (fun pre b ρ M' hp ⟨hM, y, hρ⟩ => by
      subst hM hρ
      have hl := len_pre hp
      have b1 := sumQ_bq fun q hq => h q ((mem_pre hp).2 q hq)
      have b2 := h b (mem_pre hp).1
      have : (k + 1) * pre.length ≤ (k + 1) * qs.length := Nat.mul_le_mul_left _ (by omega)
      have a := added_eq b1 b2 (by omega) M'
      refine ⟨_, _, [some (.p d), some (.p (F (sumQ (pre ++ [b])))), some (.p (F b))], M', rfl, .inl ?_, rfl, _, rfl⟩
      have es : sumQ (pre ++ [b]) = sumQ pre + b := by rw [sumQ_app]; show sumQ pre + (b + 0) = _; rw [Rat.add_zero]
      rw [es]
      unfold b_sum_of_0
      simp [a])
  subst hM
  unfold fn_sum_of m_sum_of
  simp [F0, hd, e]
theorem sh_Fs {qs : List Rat} {k : Nat} (h : ∀ q ∈ qs, Bq k q) (hk : k ≤ 1900) (hl : qs.length ≤ 1000) : Sh 2 1300000 (.list (qs.map F)) :=
  (sh_list (n := 1) (w := 1209) (fun d hd => by
    obtain ⟨q, hq, rfl⟩ := List.mem_map.mp hd
    exact sh_F (h q hq) hk)).mono (by omega) (by rw [List.length_map]; omega)
theorem sh_Ft {qs : List Rat} {k : Nat} (h : ∀ q ∈ qs, Bq k q) (hk : k ≤ 1900) (hl : qs.length ≤ 1000) : Sh 2 1300000 (.tuple (qs.map F)) :=
  (sh_tup (n := 1) (w := 1209) (fun d hd => by
    obtain ⟨q, hq, rfl⟩ := List.mem_map.mp hd
    exact sh_F (h q hq) hk)).mono (by omega) (by rw [List.length_map]; omega)
def encC (c : List Nat × Rat) : PyData := .tuple [encN c.1, F c.2]
theorem crs_clen : ∀ row : List Rat, ∀ c ∈ crs row, c.1.length ≤ row.length := fun row => by
  induction row using snocRec with
  | h0 => intro c hc; rw [crs_nil, List.mem_singleton] at hc; subst hc; exact Nat.le_refl _
  | hs row p ih =>
    intro c hc
    obtain ⟨d, hd, rfl | rfl⟩ := crs_cases hc
    · have := ih d hd; rw [List.length_append]; exact Nat.le_trans this (Nat.le_add_right _ _)
    · have := ih d hd; rw [List.length_append, List.length_append]; exact Nat.add_le_add_right this _
theorem crs_bq {K n : Nat} {row : List Rat} (hr : Rw row) (h : ∀ r ∈ row, Bq K r) (hn : K * row.length < n) : ∀ c ∈ crs row, Bq n c.2 := fun c hc => by
  refine (crs_bd row hr c hc).bq' (dn_pos _) (Nat.le_refl _) ?_
  rw [Nat.one_mul]
  exact Nat.lt_of_le_of_lt (dn_lt h) (Nat.pow_lt_pow_right (by decide) hn)



/-! ## the law's own sums, courses, counts -/
theorem law_sum_of_eq {a b : Rat} {j k : Nat} (h1 : Bq j a) (h2 : Bq k b) (hk : j + k + 1 ≤ 9000) (M : Sto) : fn__law_sum_of [.p (F a), .p (F b)] M = some (.p (F (a + b)), M) := by
  have e : F (a + b) = F (Rat.divInt (a.num * (b.den : Int) + b.num * (a.den : Int)) ((a.den : Int) * (b.den : Int))) := by
    rw [Rat.add_def', ← Rat.divInt_ofNat, Int.natCast_mul]
  have hs : 0 < (a.den : Int) * (b.den : Int) := by
    have := a.den_pos; have := b.den_pos
    exact Int.mul_pos (by omega) (by omega)
  have l1 : (a.num * (b.den : Int)).natAbs < 2 ^ (j + k) := natAbs_mul_lt h1.1 (by simpa using h2.2)
  have l2 : (b.num * (a.den : Int)).natAbs < 2 ^ (j + k) := by rw [Nat.add_comm j k]; exact natAbs_mul_lt h2.1 (by simpa using h1.2)
  have l3 : ((a.den : Int) * (b.den : Int)).natAbs < 2 ^ (j + k) := natAbs_mul_lt (by simpa using h1.2) (by simpa using h2.2)
  have hl := cut_eq hs (natAbs_add_lt l1 l2) (Nat.lt_of_lt_of_le l3 (Nat.pow_le_pow_right (by decide) (Nat.le_succ _))) hk M
  have m1 : mulOk a.num b.den = true := mulOk_p (j := (b.den : Int)) h1.1 (by simpa using h2.2) (by omega) (by omega)
  have m3 : mulOk b.num a.den = true := mulOk_p (j := (a.den : Int)) h2.1 (by simpa using h1.2) (by omega) (by omega)
  have m2 : mulOk a.den b.den = true := mulOk_p (i := (a.den : Int)) (j := (b.den : Int)) (k := j) (l := k) (by simpa using h1.2) (by simpa using h2.2) (by omega) (by omega)
  unfold fn__law_sum_of m__law_sum_of
  simp [F_ix0, F_ix1, m1, m2, m3, hl, e]
theorem law_below_eq {a b : Rat} {j k : Nat} (h1 : Bq j a) (h2 : Bq k b) (hk : j + k ≤ 9000) (M : Sto) : fn__law_below [.p (F a), .p (F b)] M = some (B (decide (a < b)), M) := by
  have m1 : mulOk a.num b.den = true := mulOk_p (j := (b.den : Int)) h1.1 (by simpa using h2.2) (by omega) (by omega)
  have m3 : mulOk b.num a.den = true := mulOk_p (j := (a.den : Int)) h2.1 (by simpa using h1.2) (by omega) (by omega)
  have e : decide (a.num * (b.den : Int) < b.num * (a.den : Int)) = decide (a < b) := by
    rw [decide_eq_decide]; exact (Rat.lt_iff a b).symm
  unfold fn__law_below m__law_below
  simp [F_ix0, F_ix1, m1, m3, e]
theorem law_less_eq {a b : Rat} {j k : Nat} (h1 : Bq j a) (h2 : Bq k b) (hk : j + k + 1 ≤ 9000) (M : Sto) : fn__law_less [.p (F a), .p (F b)] M = some (.p (F (a - b)), M) := by
  have e := law_sum_of_eq h1 h2.neg hk M
  have n : F (-b) = .tuple [.int (-b.num), .int b.den] := by unfold F; rw [Rat.neg_num, Rat.neg_den]
  rw [n, ← Rat.sub_eq_add_neg] at e
  unfold fn__law_less m__law_less
  simp [F_ix0, F_ix1, tupV, pures, e]
theorem law_together_eq {d : PyData} {qs : List Rat} {D c k : Nat} (hd : ∀ M, seqV (.p d) M = some (qs.map F, M)) (h : ∀ q ∈ qs, Bd D c q) (hD : 0 < D) (hk : (c * qs.length + 1) * D < 2 ^ k) (h9 : k ≤ 4400) (M : Sto) : fn__law_together [.p d] M = some (.p (F (sumQ qs)), M) := by
  obtain ⟨ρ', M', e, hM, y, rfl⟩ := forL_map (g := gN 2) (f := b__law_together_0) F (fun pre ρ M' => M' = M ∧ ∃ y, ρ = [some (.p d), some (.p (F (sumQ pre))), y]) qs [some (.p d), some (.p (F 0)), none] M ⟨rfl, none, rfl⟩
    (fun pre b ρ M' hp ⟨hM, y, hρ⟩ => by
      subst hM hρ
      have sz : ∀ i, i ≤ qs.length → c * i * D < 2 ^ k := fun i hi => Nat.lt_of_le_of_lt (Nat.mul_le_mul_right _ (Nat.le_succ_of_le (Nat.mul_le_mul_left _ hi))) hk
      have sD : D < 2 ^ k := Nat.lt_of_le_of_lt (Nat.le_mul_of_pos_left _ (Nat.succ_pos _)) hk
      have hl := len_pre hp
      have b1 : Bq k (sumQ pre) := (sumQ_bd fun q hq => h q ((mem_pre hp).2 q hq)).bq hD sD (sz _ (by omega))
      have b2 : Bq k b := (h b (mem_pre hp).1).bq hD sD (by have := sz 1 (by omega); rwa [Nat.mul_one] at this)
      have a := law_sum_of_eq b1 b2 (by omega) M'
      refine ⟨_, _, [some (.p d), some (.p (F (sumQ (pre ++ [b])))), some (.p (F b))], M', rfl, .inl ?_, rfl, _, rfl⟩
      have es : sumQ (pre ++ [b]) = sumQ pre + b := by rw [sumQ_app]; show sumQ pre + (b + 0) = _; rw [Rat.add_zero]
      rw [es]
      unfold b__law_together_0
      simp [a])
  subst hM
  unfold fn__law_together m__law_together
  simp [F0, hd, e]
theorem law_together_bq {d : PyData} {qs : List Rat} {k : Nat} (hd : ∀ M, seqV (.p d) M = some (qs.map F, M)) (h : ∀ q ∈ qs, Bq k q) (hk : (k + 1) * qs.length + 2 + k ≤ 9000) (M : Sto) : fn__law_together [.p d] M = some (.p (F (sumQ qs)), M) := by
  obtain ⟨ρ', M', e, hM, y, rfl⟩ := forL_map (g := gN 2) (f := b__law_together_0) F (fun pre ρ M' => M' = M ∧ ∃ y, ρ = [some (.p d), some (.p (F (sumQ pre))), y]) qs [some (.p d), some (.p (F 0)), none] M ⟨rfl, none, rfl⟩
    (fun pre b ρ M' hp ⟨hM, y, hρ⟩ => by
      subst hM hρ
      have hl := len_pre hp
      have b1 := sumQ_bq fun q hq => h q ((mem_pre hp).2 q hq)
      have b2 := h b (mem_pre hp).1
      have : (k + 1) * pre.length ≤ (k + 1) * qs.length := Nat.mul_le_mul_left _ (by omega)
      have a := law_sum_of_eq b1 b2 (by omega) M'
      refine ⟨_, _, [some (.p d), some (.p (F (sumQ (pre ++ [b])))), some (.p (F b))], M', rfl, .inl ?_, rfl, _, rfl⟩
      have es : sumQ (pre ++ [b]) = sumQ pre + b := by rw [sumQ_app]; show sumQ pre + (b + 0) = _; rw [Rat.add_zero]
      rw [es]
      unfold b__law_together_0
      simp [a])
  subst hM
  unfold fn__law_together m__law_together
  simp [F0, hd, e]
theorem law_courses_eq {qs : List Rat} {k : Nat} (hr : Rw qs) (h : ∀ q ∈ qs, Bq k q) (hk : k * qs.length ≤ 2000) (hk2 : k ≤ 2000) (hl : qs.length ≤ 12) (M : Sto) : fn__law_courses [.p (.tuple (qs.map F))] M = some (.p (.list ((crs qs).map encC)), M) := by
  obtain ⟨d, hd⟩ : ∃ d : PyData, d = .tuple (qs.map F) := ⟨_, rfl⟩
  obtain ⟨ρ', M', e, hM, y2, y3, y4, y5, y6, rfl⟩ := forL_en (g := gT [(gN 2), (gN 3)]) (f := b__law_courses_0) F (fun pre ρ M' => M' = M ∧ ∃ y2 y3 y4 y5 y6, ρ = [some (.p d), some (.p (.list ((crs pre).map encC))), y2, y3, y4, y5, y6]) qs [some (.p d), some (.p (.list ((crs []).map encC))), none, none, none, none, none] M ⟨rfl, none, none, none, none, none, rfl⟩
    (fun pre b ρ M' hp ⟨hM, y2, y3, y4, y5, y6, hρ⟩ => by
      subst hM hρ
      have hb := h b (mem_pre hp).1
      have hw : Rw pre := fun q hq => hr q ((mem_pre hp).2 q hq)
      have hlt := len_pre hp
      have hl1 : k * pre.length ≤ k * qs.length := Nat.mul_le_mul_left _ (Nat.le_of_lt hlt)
      have bq : ∀ c ∈ crs pre, Bq 2001 c.2 := crs_bq hw (fun r hr => h r ((mem_pre hp).2 r hr)) (by omega)
      have hle : (crs pre).length ≤ 4096 := by
        rw [crs_len]
        exact Nat.le_trans (Nat.pow_le_pow_right (by decide) (show pre.length ≤ 12 by omega)) (by decide)
      obtain ⟨n, hn⟩ : ∃ n : Int, n = (pre.length : Int) := ⟨_, rfl⟩
      obtain ⟨V, hV⟩ : ∃ V : PyData, V = .list ((crs pre).map encC) := ⟨_, rfl⟩
      have e1 := lcL_mapM (g := gT [(gN 5), (gN 6)]) (e := l__law_courses_0) (ρ := [some (.p d), some (.p V), some (I n), some (.p (F b)), y4, none, none]) (M := M') encC (fun c => encC (c.1, c.2 * (1 - b))) (fun c => [some (.p d), some (.p V), some (I n), some (.p (F b)), y4, some (.p (encN c.1)), some (.p (F c.2))]) (crs pre) (fun c hc => ⟨by simp [encC], by
        have a := law_times_eq (bq c hc) hb.rest (by omega) M'
        unfold l__law_courses_0
        simp [law_rest_eq, a, tupV, pures, encC]⟩)
      obtain ⟨V1, hV1⟩ : ∃ V1 : PyData, V1 = .list ((crs pre).map fun c => encC (c.1, c.2 * (1 - b))) := ⟨_, rfl⟩
      have e2 := lcL_mapM (g := gT [(gN 5), (gN 6)]) (e := l__law_courses_1) (ρ := [some (.p d), some (.p V), some (I n), some (.p (F b)), some (.p V1), none, none]) (M := M') encC (fun c => encC (c.1 ++ [pre.length], c.2 * b)) (fun c => [some (.p d), some (.p V), some (I n), some (.p (F b)), some (.p V1), some (.p (encN c.1)), some (.p (F c.2))]) (crs pre) (fun c hc => ⟨by simp [encC], by
        have a := law_times_eq (bq c hc) hb (by omega) M'
        have cl := crs_clen pre c hc
        have cl2 : c.1.length + 1 ≤ 16777216 := by omega
        unfold l__law_courses_1
        simp [a, tupV, pures, encC, encN, cl2, hn]⟩)
      have ec : (crs (pre ++ [b])).map encC = ((crs pre).map fun c => encC (c.1, c.2 * (1 - b))) ++ ((crs pre).map fun c => encC (c.1 ++ [pre.length], c.2 * b)) := by
        rw [crs_snoc, List.map_append, List.map_map, List.map_map]; rfl
      have l0 : (crs pre).length ≤ 16777216 := by omega
      have l1 : (crs pre).length + (crs pre).length ≤ 16777216 := by omega
      refine ⟨_, _, [some (.p d), some (.p (.list ((crs (pre ++ [b])).map encC))), some (I n), some (.p (F b)), some (.p V1), y5, y6], M', by simp only [gT_run, gSeq_cons, gSeq_nil, ← hn]; rfl, .inl ?_, rfl, _, _, _, _, _, rfl⟩
      rw [ec]
      subst hV1 hV
      unfold b__law_courses_0
      simp [wipeR, e1, e2, l0, l1])
  subst hM hd
  have e0 : (crs []).map encC = [.tuple [.tuple [], F 1]] := rfl
  rw [e0] at e
  unfold fn__law_courses m__law_courses
  simp [F1, lstV, e]
def cnP (n : Nat) (cs : List (List Nat × Rat)) : List Rat := (List.range (n + 1)).map fun k => sumQ ((cs.filter fun c => decide (c.1.length = k)).map (·.2))
theorem cnP_all (row : List Rat) : cnP row.length (crs row) = cntL row := by
  unfold cnP cntL
  refine List.map_congr_left fun k _ => ?_
  have e := pr_from 0 row k
  rw [List.drop_zero] at e
  rw [← e]
  unfold Pr cntF
  congr 2
  refine List.filter_congr fun c _ => ?_
  show _ = decide ((c.1.filter fun a => decide (0 ≤ a)).length = k)
  rw [List.filter_eq_self.mpr (fun a _ => decide_eq_true (Nat.zero_le a))]
theorem law_counts_eq {qs : List Rat} {k : Nat} (hr : Rw qs) (h : ∀ q ∈ qs, Bq k q) (hk : k * qs.length ≤ 2000) (hk2 : k ≤ 2000) (hl : qs.length ≤ 12) (M : Sto) : fn__law_counts [.p (.tuple (qs.map F))] M = some (.p (.tuple ((cntL qs).map F)), M) := by
  obtain ⟨d, hd⟩ : ∃ d : PyData, d = .tuple (qs.map F) := ⟨_, rfl⟩
  have hcl : (crs qs).length ≤ 4096 := by
    rw [crs_len]
    exact Nat.le_trans (Nat.pow_le_pow_right (by decide) hl) (by decide)
  have hdn : dn qs < 2 ^ 2001 := Nat.lt_of_le_of_lt (dn_lt h) (Nat.pow_lt_pow_right (by decide) (by omega))
  have hsub : ∀ (cs : List (List Nat × Rat)) (t : List Nat × Rat → Bool), (∀ c ∈ cs, c ∈ crs qs) → cs.length ≤ 4096 → Bq 2100 (sumQ ((cs.filter t).map (·.2))) := fun cs t hc hl' => by
    have b := sumQ_bd (D := dn qs) (c := 1) (qs := (cs.filter t).map (·.2)) (fun q hq => by
      obtain ⟨c, hc', rfl⟩ := List.mem_map.mp hq
      exact crs_bd qs hr c (hc c (List.mem_filter.mp hc').1))
    have l : ((cs.filter t).map (·.2)).length ≤ 4096 := by rw [List.length_map]; exact Nat.le_trans (List.length_filter_le _ _) hl'
    refine (b.mono (e := 4096) (by omega)).bq' (dn_pos _) (by decide) ?_
    calc 4096 * dn qs < 4096 * 2 ^ 2001 := Nat.mul_lt_mul_of_pos_left hdn (by decide)
      _ = 2 ^ 2013 := by rw [show (4096 : Nat) = 2 ^ 12 by rfl, ← Nat.pow_add]
      _ ≤ 2 ^ 2100 := Nat.pow_le_pow_right (by decide) (by decide)
  have i0 := lcL_map (g := gN 4) (e := l__law_counts_0) (ρ := [some (.p d), none, none, none, none]) (M := M) (fun _ => F 0) (fun x => [some (.p d), none, none, none, some (.p x)]) (rangeD 0 (qs.length + 1)) (fun x _ => ⟨rfl, rfl⟩)
  have i1 : (rangeD 0 (qs.length + 1)).map (fun _ => F 0) = (cnP qs.length []).map F := by
    unfold cnP rangeD
    rw [List.map_map, List.map_map]
    rfl
  rw [i1] at i0
  obtain ⟨ρ', M', e, hM, y2, y3, y4, rfl⟩ := forL_map (g := gT [(gN 2), (gN 3)]) (f := b__law_counts_0) encC (fun pre ρ M' => M' = M ++ [(cnP qs.length pre).map F] ∧ ∃ y2 y3 y4, ρ = [some (.p d), some (.ob M.length), y2, y3, y4]) (crs qs) [some (.p d), some (.ob M.length), none, none, none] (M ++ [(cnP qs.length []).map F]) ⟨rfl, none, none, none, rfl⟩
    (fun pre b ρ M' hp ⟨hM, y2, y3, y4, hρ⟩ => by
      subst hM hρ
      have hlt := len_pre hp
      obtain ⟨hbm, hpm⟩ := mem_pre hp
      have bl := crs_clen qs b hbm
      have s1 := hsub pre (fun c => decide (c.1.length = b.1.length)) hpm (by omega)
      have s2 := crs_bq (n := 2001) hr h (by omega) b hbm
      have a := law_sum_of_eq s1 s2 (by omega) (M ++ [(cnP qs.length pre).map F])
      obtain ⟨V, hV⟩ : ∃ V, V = (cnP qs.length pre).map F := ⟨_, rfl⟩
      have vl : V.length = qs.length + 1 := by rw [hV]; simp [cnP]
      have at1 : atI V ((b.1.length : Nat) : Int) = some (F (sumQ ((pre.filter fun c => decide (c.1.length = b.1.length)).map (·.2)))) := by
        rw [hV, atI_nat, List.getElem?_map]
        unfold cnP
        rw [List.getElem?_map, List.getElem?_range (by omega)]
        rfl
      have set1 : V.set b.1.length (F (sumQ ((pre.filter fun c => decide (c.1.length = b.1.length)).map (·.2)) + b.2)) = (cnP qs.length (pre ++ [b])).map F := by
        rw [hV]
        apply List.ext_getElem?
        intro i
        rw [List.getElem?_set]
        unfold cnP
        simp only [List.length_map, List.length_range, List.getElem?_map]
        by_cases hi : i < qs.length + 1
        · rw [List.getElem?_range hi]
          simp only [Option.map_some, List.filter_append, List.map_append, sumQ_app]
          by_cases hb : b.1.length = i
          · simp [hb, hi, List.filter_cons, Rat.add_zero]
          · simp [hb, List.filter_cons, Rat.add_zero]
        · rw [List.getElem?_eq_none (by simp; omega)]
          simp
          omega
      rw [← hV] at a
      rw [← hV]
      have hen : gT [(gN 2), (gN 3)] (.p (encC b)) [some (.p d), some (.ob M.length), y2, y3, y4] (M ++ [V]) = some ([some (.p d), some (.ob M.length), some (.p (encN b.1)), some (.p (F b.2)), y4], M ++ [V]) := rfl
      refine ⟨_, _, [some (.p d), some (.ob M.length), some (.p (encN b.1)), some (.p (F b.2)), y4], M ++ [(cnP qs.length (pre ++ [b])).map F], hen, .inl ?_, rfl, _, _, _, rfl⟩
      rw [← set1]
      have g1 : (M ++ [V])[M.length]? = some V := by simp
      have x1 : ixN V.length ((b.1.length : Nat) : Int) = some b.1.length := ixN_nat _ _ (by omega)
      unfold b__law_counts_0
      simp [encN, g1, at1, a, ixS, x1])
  subst hM hd
  have c := law_courses_eq hr h hk hk2 hl (M ++ [(cnP qs.length []).map F])
  rw [cnP_all] at e
  have g1 : ∀ x : List PyData, (M ++ [x])[M.length]? = some x := fun x => by simp
  have l0 : qs.length + 1 ≤ 16777216 := by omega
  have j0 : i62 ((qs.length : Int) + 1) = true := i62_int (by omega) (by omega)
  have j1 : ((qs.length : Int) + 1).toNat = qs.length + 1 := by omega
  unfold fn__law_counts m__law_counts
  simp [wipeR, j0, j1, l0, i0, c, e, nTuple, g1]
theorem law_is_eq {d : PyData} {n w : Nat} (h : Sh n w d) (hn : n ≤ 60) (hw : w ≤ 16777216) (M : Sto) : fn__law_is [.p d, .p d] M = some (B true, M) := by
  have e := sh_repr h hn hw
  unfold fn__law_is m__law_is
  simp [nRepr, e]



/-! ## counts, tails, sides -/
theorem r4_cnt {qs : List Rat} (h : R4 qs) : ∀ q ∈ cntL qs, Bd (dn qs) 1 q := fun q hq => by
  obtain ⟨k, _, rfl⟩ := cntL_mem hq
  exact cf_bd qs h.1.rw k
theorem unit_bq {row : List Rat} {q : Rat} (h : R4 row) (hb : ∃ c, Bd (dn row) c q) (h0 : 0 ≤ q) (h1 : q ≤ 1) : Bq 481 q := by
  obtain ⟨c, hb⟩ := hb
  exact (hb.unit h0 h1).bq' (dn_pos _) (Nat.le_refl _) (by rw [Nat.one_mul]; exact h.dn)
theorem atL_bq {row : List Rat} (h : R4 row) (m : Nat) : Bq 481 (atL row m) := by
  have u := atL_unit h.1.rw m
  refine unit_bq h ⟨1 * ((cntL row).drop m).length, ?_⟩ u.1 u.2
  · rw [← atL_eq]
    exact sumQ_bd fun q hq => r4_cnt h q (List.mem_of_mem_drop hq)
theorem atM_bq {row : List Rat} (h : R4 row) (m : Nat) : Bq 481 (atM row m) := by
  have u := atM_unit h.1.rw m
  refine unit_bq h ⟨1 * ((cntL row).take (m + 1)).length, ?_⟩ u.1 u.2
  · rw [← atM_eq]
    exact sumQ_bd fun q hq => r4_cnt h q (List.mem_of_mem_take hq)
theorem dn_scaled {row : List Rat} (h : R4 row) {n : Nat} (hn : n ≤ 4096) : n * dn row < 2 ^ 494 := by
  calc n * dn row ≤ 4096 * dn row := Nat.mul_le_mul_right _ hn
    _ < 8192 * 2 ^ 481 := Nat.mul_lt_mul_of_le_of_lt (by decide) h.dn (by decide)
    _ = 2 ^ (13 + 481) := by rw [show (8192 : Nat) = 2 ^ 13 by rfl, ← Nat.pow_add]
theorem counts_in_r4 {qs : List Rat} (h : R4 qs) (M : Sto) : fn_counts_in [.p (.tuple (qs.map F))] M = some (.p (.list ((cntL qs).map F)), M) := by
  have hl := h.len
  exact counts_in_eq (d := .tuple (qs.map F)) (fun _ => rfl) h.1.rw h.2 (by omega) (by omega) (by omega) M
theorem F_int (i : Int) : F (i : Rat) = .tuple [.int i, .int 1] := rfl
theorem F_nat (n : Nat) : F (n : Rat) = .tuple [.int (n : Int), .int 1] := rfl
theorem nat_bq {n k : Nat} (h : n < 2 ^ (k + 1)) : Bq (k + 1) (n : Rat) := ⟨by simpa using h, Nat.lt_of_lt_of_le (by decide : 1 < 2 ^ 1) (Nat.pow_le_pow_right (by decide) (by omega))⟩
theorem exc_eq (row : List Rat) (m : Nat) : sumQ ((cntL row).zipIdx.map fun x : Rat × Nat => x.1 * ((x.2 - m : Nat) : Rat)) = exc row m := by
  unfold exc
  rw [ex_eq]
  congr 1
  apply List.ext_getElem?
  intro i
  rw [List.getElem?_map, List.getElem?_zipIdx, List.getElem?_map]
  unfold cntL
  rw [List.getElem?_map]
  cases h : (List.range (row.length + 1))[i]? with
  | none => rfl
  | some k =>
    obtain ⟨h1, h2⟩ := List.getElem?_eq_some_iff.mp h
    rw [List.getElem_range] at h2
    subst h2
    simp
theorem mean_of_eq {qs : List Rat} (h : R4 qs) (M : Sto) : fn_mean_of [.p (.tuple (qs.map F))] M = some (.p (F (sumQ qs)), M) := by
  have hl := h.len
  have s := sum_of_bq (d := .tuple (qs.map F)) (fun _ => rfl) h.2 (by omega) M
  obtain ⟨U, hU⟩ : ∃ U, U = qs.map F := ⟨_, rfl⟩
  rw [← hU] at s ⊢
  unfold fn_mean_of m_mean_of
  simp [s]
theorem mean_eq {qs : List Rat} (h : R4 qs) (M : Sto) : fn_mean [.p (.tuple (qs.map F))] M = some (.p (F (sumQ qs)), M) := by
  have s := mean_of_eq h M
  have c1 := check_row_eq h.1 M
  obtain ⟨U, hU⟩ : ∃ U, U = qs.map F := ⟨_, rfl⟩
  rw [← hU] at s c1 ⊢
  unfold fn_mean m_mean
  simp [c1, s]
theorem is_less_eq {a b : Rat} {j k : Nat} (h1 : Bq j a) (h2 : Bq k b) (hk : j + k ≤ 9000) (M : Sto) : fn_is_less [.p (F a), .p (F b)] M = some (B (decide (a < b)), M) := by
  have m1 : mulOk a.num b.den = true := mulOk_p (j := (b.den : Int)) h1.1 (by simpa using h2.2) (by omega) (by omega)
  have m3 : mulOk b.num a.den = true := mulOk_p (j := (a.den : Int)) h2.1 (by simpa using h1.2) (by omega) (by omega)
  have e : decide (a.num * (b.den : Int) < b.num * (a.den : Int)) = decide (a < b) := by
    rw [decide_eq_decide]; exact (Rat.lt_iff a b).symm
  unfold fn_is_less m_is_less
  simp [F_ix0, F_ix1, m1, m3, e]



/-! ## fractions, rows compared -/
theorem eqv_F (a b : Rat) : PyData.eqv (F a) (F b) = decide (a = b) := by
  have e : PyData.eqv (F a) (F b) = (decide (a.num = b.num) && (decide ((a.den : Int) = b.den) && true)) := by
    unfold F
    simp [PyData.eqv, PyData.eqvAll]
    rfl
  rw [e, Bool.and_true, Bool.eq_iff_iff, Bool.and_eq_true, decide_eq_true_iff, decide_eq_true_iff, decide_eq_true_iff]
  constructor
  · rintro ⟨h1, h2⟩
    exact Rat.ext h1 (by omega)
  · rintro rfl
    exact ⟨rfl, rfl⟩
theorem shp_F (q : Rat) : shp (F q) = true := shp_tints [q.num, q.den]
theorem bEq_F (a b : Rat) (M : Sto) : bEq (.p (F a)) (.p (F b)) M = some (B (decide (a = b)), M) := by
  rw [bEq_p, shp_F, shp_F, eqv_F]
  rfl
theorem bNe_F (a b : Rat) (M : Sto) : bNe (.p (F a)) (.p (F b)) M = some (B (!decide (a = b)), M) := by
  rw [bNe_p, shp_F, shp_F, eqv_F]
  rfl
theorem shp_Ft {qs : List Rat} {k : Nat} (h : ∀ q ∈ qs, Bq k q) (hk : k ≤ 1900) (hl : qs.length ≤ 1000) : shp (.tuple (qs.map F)) = true := sh_shp (sh_Ft h hk hl) (by decide)
theorem shp_Fs {qs : List Rat} {k : Nat} (h : ∀ q ∈ qs, Bq k q) (hk : k ≤ 1900) (hl : qs.length ≤ 1000) : shp (.list (qs.map F)) = true := sh_shp (sh_Fs h hk hl) (by decide)
theorem any_F (qs : List Rat) (q : Rat) : (qs.map F).any (fun y => PyData.eqv y (F q)) = decide (q ∈ qs) := by
  rw [Bool.eq_iff_iff, List.any_eq_true, decide_eq_true_iff]
  constructor
  · rintro ⟨y, hy, e⟩
    obtain ⟨a, ha, rfl⟩ := List.mem_map.mp hy
    rw [eqv_F, decide_eq_true_iff] at e
    rwa [← e]
  · intro h
    exact ⟨F q, List.mem_map.mpr ⟨q, h, rfl⟩, by rw [eqv_F]; exact decide_eq_true rfl⟩
theorem bIn_F {qs : List Rat} {k : Nat} (h : ∀ q ∈ qs, Bq k q) (hk : k ≤ 1900) (hl : qs.length ≤ 1000) (q : Rat) (M : Sto) : bIn (.p (F q)) (.p (.tuple (qs.map F))) M = some (B (decide (q ∈ qs)), M) := by
  show (if shp (F q) && shp (.tuple (qs.map F)) then some (B ((qs.map F).any fun y => PyData.eqv y (F q)), M) else none) = _
  rw [shp_F, shp_Ft h hk hl, any_F]
  rfl
theorem bIn_Fs {qs : List Rat} {k : Nat} (h : ∀ q ∈ qs, Bq k q) (hk : k ≤ 1900) (hl : qs.length ≤ 1000) (q : Rat) (M : Sto) : bIn (.p (F q)) (.p (.list (qs.map F))) M = some (B (decide (q ∈ qs)), M) := by
  show (if shp (F q) && shp (.list (qs.map F)) then some (B ((qs.map F).any fun y => PyData.eqv y (F q)), M) else none) = _
  rw [shp_F, shp_Fs h hk hl, any_F]
  rfl
theorem eqvAll_Fs : ∀ qs ls : List Rat, PyData.eqvAll (qs.map F) (ls.map F) = decide (qs = ls)
  | [], [] => by simp [PyData.eqvAll]
  | [], l :: ls => by simp [PyData.eqvAll]
  | q :: qs, [] => by simp [PyData.eqvAll]
  | q :: qs, l :: ls => by
    have e : PyData.eqvAll ((q :: qs).map F) ((l :: ls).map F) = (PyData.eqv (F q) (F l) && PyData.eqvAll (qs.map F) (ls.map F)) := by
      rw [List.map_cons, List.map_cons]; simp [PyData.eqvAll]
    rw [e, eqv_F, eqvAll_Fs qs ls, Bool.eq_iff_iff]
    simp
theorem bEq_Fts {qs ls : List Rat} {k : Nat} (h1 : ∀ q ∈ qs, Bq k q) (h2 : ∀ q ∈ ls, Bq k q) (hk : k ≤ 1900) (hl : qs.length ≤ 1000) (hm : ls.length ≤ 1000) (M : Sto) : bEq (.p (.tuple (qs.map F))) (.p (.tuple (ls.map F))) M = some (B (decide (qs = ls)), M) := by
  have e : PyData.eqv (.tuple (qs.map F)) (.tuple (ls.map F)) = decide (qs = ls) := by
    rw [← eqvAll_Fs]; simp [PyData.eqv]
  rw [bEq_p, shp_Ft h1 hk hl, shp_Ft h2 hk hm, e]
  rfl
theorem bNe_Fts {qs ls : List Rat} {k : Nat} (h1 : ∀ q ∈ qs, Bq k q) (h2 : ∀ q ∈ ls, Bq k q) (hk : k ≤ 1900) (hl : qs.length ≤ 1000) (hm : ls.length ≤ 1000) (M : Sto) : bNe (.p (.tuple (qs.map F))) (.p (.tuple (ls.map F))) M = some (B (!decide (qs = ls)), M) := by
  have e : PyData.eqv (.tuple (qs.map F)) (.tuple (ls.map F)) = decide (qs = ls) := by
    rw [← eqvAll_Fs]; simp [PyData.eqv]
  rw [bNe_p, shp_Ft h1 hk hl, shp_Ft h2 hk hm, e]
  rfl



/-! ## things in a drawn order; the row turned; the spread -/
theorem law_mixed_ok {r : Nat} {M : Sto} (hM : At r M) {d : PyData} {ds : List PyData} (n1 : ∀ M, nListM [.p d] M = some (.ob M.length, M ++ [ds])) (n2 : ∀ M, nLen [.p d] M = some (I ds.length, M)) (h1 : ds.length < 1000000) : Dr r M (fun v => ∃ es, v = .p (.list es) ∧ es.Perm ds) (fn__law_mixed [.ob r, .p d] M) := by
  obtain ⟨ρ', M', e, M2, s2, left, found, y2, a1, a2, a3, rfl, rfl⟩ := forL_run (g := gN 2) (f := b__law_mixed_0) (fun k ρ M' => ∃ M2, St r M M2 ∧ ∃ (left found : List PyData) (y2 : Option Val), left.length + k = ds.length ∧ found.length = k ∧ (found ++ left).Perm ds ∧ M' = M2 ++ [left, found] ∧ ρ = [some (.ob r), some (.p d), y2, some (.ob M.length), some (.ob (M.length + 1))]) ((List.range ds.length).map fun i : Nat => PyData.int (i : Int)) 0 [some (.ob r), some (.p d), none, some (.ob M.length), some (.ob (M.length + 1))] (M ++ [ds, []]) ⟨M, .refl hM, ds, [], none, rfl, rfl, .refl _, rfl, rfl⟩
    (fun i x ρ M1 hx ⟨M2, s2, left, found, y2, a1, a2, a3, hM1, hρ⟩ => by
      subst hρ hM1
      have hi : i < ds.length := by
        have := (List.getElem?_eq_some_iff.mp hx).1
        simpa using this
      have at2 : At r (M2 ++ [left, found]) := (s2.at hM).app _
      have lt : r < M2.length := (s2.at hM).lt
      obtain ⟨v, M3, s3, ⟨j, rfl, j0, j1⟩, e3⟩ := draw_ok at2 (l := left.length) (by omega) (by omega)
      obtain ⟨M4, rfl, s4⟩ := s3.app lt
      obtain ⟨j, rfl⟩ : ∃ k : Nat, j = (k : Int) := ⟨j.toNat, by omega⟩
      have hj : j < left.length := by omega
      have l2 := s2.len
      have l4 := s4.len
      have m1 : M.length = M4.length := by omega
      have p1 : popV (.ob M.length) [I (j : Int)] (M4 ++ [left, found]) = some (.p left[j], M4 ++ [left.eraseIdx j, found]) := by
        rw [m1, popV_of (two_at0 M4 left found) (List.getElem?_eq_getElem hj) (by omega), two_set0]
      have p2 : (M4 ++ [left.eraseIdx j, found])[M.length + 1]? = some found := by rw [m1, two_at1]
      have p3 : (M4 ++ [left.eraseIdx j, found]).set (M.length + 1) (found ++ [left[j]]) = M4 ++ [left.eraseIdx j, found ++ [left[j]]] := by rw [m1, two_set1]
      have p0 : (M2 ++ [left, found])[M.length]? = some left := by rw [show M.length = M2.length by omega, two_at0]
      have z : found.length < 16777216 := by omega
      have ap : appV (.ob (M.length + 1)) [.p left[j]] (M4 ++ [left.eraseIdx j, found]) = some (.p .none, M4 ++ [left.eraseIdx j, found ++ [left[j]]]) := by
        show (match (M4 ++ [left.eraseIdx j, found])[M.length + 1]? with
          | some xs => if xs.length < szl then some (Val.p .none, (M4 ++ [left.eraseIdx j, found]).set (M.length + 1) (xs ++ [left[j]])) else none
          | none => none) = _
        rw [p2]
        have : found.length < szl := by rw [szl_val]; exact z
        simp only [if_pos this, p3]
      refine ⟨_, _, [some (.ob r), some (.p d), some (.p x), some (.ob M.length), some (.ob (M.length + 1))], M4 ++ [left.eraseIdx j, found ++ [left[j]]], rfl, .inl ?_, M4, s2.trans s4, left.eraseIdx j, found ++ [left[j]], some (.p x), ?_, ?_, ?_, rfl, rfl⟩
      · generalize left[j] = y at *
        generalize left.eraseIdx j = L2 at *
        unfold b__law_mixed_0
        simp [nLen, p0, e3, p1, ap]
      · rw [List.length_eraseIdx, if_pos hj]; omega
      · simp; omega
      · refine List.Perm.trans ?_ a3
        rw [List.append_assoc]
        exact (erase_perm hj).append_left found)
  have r1 : rngV (.p (.int (ds.length : Int))) (M ++ [ds, []]) = some ((List.range ds.length).map fun i : Nat => PyData.int (i : Int), M ++ [ds, []]) := rngV_of rfl (by omega) _
  have l2 := s2.len
  have lr : ((List.range ds.length).map fun i : Nat => PyData.int (i : Int)).length = ds.length := by simp
  have q1 : (M2 ++ [left, found])[M.length + 1]? = some found := by rw [← l2, two_at1]
  have tk : (M2 ++ [left, found]).take M.length = M2 := by rw [← l2]; simp
  have q2 := n2 (M ++ [ds, []])
  have l0 : left = [] := List.eq_nil_of_length_eq_zero (by omega)
  rw [l0, List.append_nil] at a3
  refine ⟨.p (.list found), M2, s2, ⟨found, rfl, a3⟩, ?_⟩
  generalize ((List.range ds.length).map fun i : Nat => PyData.int (i : Int)) = G at *
  have n1' := n1 M
  unfold fn__law_mixed m__law_mixed
  simp [n1', lstMV, pures, q2, r1, e, finF, q1, tk]
theorem rangeD_0 (n : Nat) : rangeD 0 n = (List.range n).map fun i : Nat => PyData.int (i : Int) := by
  unfold rangeD
  exact List.map_congr_left fun i _ => by rw [Int.zero_add]



/-! ## going back from the end -/
theorem greater_eq {a b : Rat} {j k : Nat} (h1 : Bq j a) (h2 : Bq k b) (hk : j + k ≤ 9000) (M : Sto) : fn_greater [.p (F a), .p (F b)] M = some (.p (F (mxQ a b)), M) := by
  have l := is_less_eq h1 h2 hk M
  unfold fn_greater m_greater mxQ
  by_cases h : a < b <;> simp [l, h]
/-- whether naming is best, moment by moment -/
def bsts : List (Rat × Rat) → List Bool
  | [] => []
  | z :: t => (!decide (z.2 < gbk t)) :: bsts t
/-- what is had from each moment on -/
def gbks : List (Rat × Rat) → List Rat
  | [] => [0]
  | z :: t => gbk (z :: t) :: gbks t
theorem gbks_len : ∀ zs : List (Rat × Rat), (gbks zs).length = zs.length + 1
  | [] => rfl
  | z :: t => by simp [gbks, gbks_len t]
theorem bsts_len : ∀ zs : List (Rat × Rat), (bsts zs).length = zs.length
  | [] => rfl
  | z :: t => by simp [bsts, bsts_len t]
theorem gbks_hd (zs : List (Rat × Rat)) : ∃ t, gbks zs = gbk zs :: t := by
  cases zs with
  | nil => exact ⟨[], rfl⟩
  | cons z t => exact ⟨_, rfl⟩



/-! ## k12: crests, the mean -/
theorem foldl_or : ∀ (qs : List Rat) (a : Rat), qs.foldl mxQ a = a ∨ qs.foldl mxQ a ∈ qs
  | [], a => .inl rfl
  | q :: qs, a => by
    show qs.foldl mxQ (mxQ a q) = a ∨ qs.foldl mxQ (mxQ a q) ∈ q :: qs
    rcases foldl_or qs (mxQ a q) with z | z
    · rw [z]
      rcases mxQ_or a q with w | w <;> rw [w]
      · exact .inl rfl
      · exact .inr (List.mem_cons_self ..)
    · exact .inr (List.mem_cons_of_mem _ z)
theorem foldl_ge : ∀ (qs : List Rat) (a : Rat), a ≤ qs.foldl mxQ a ∧ ∀ q ∈ qs, q ≤ qs.foldl mxQ a
  | [], a => ⟨Rat.le_refl, fun q h => by cases h⟩
  | q :: qs, a => by
    obtain ⟨h1, h2⟩ := foldl_ge qs (mxQ a q)
    have m := mxQ_ge a q
    refine ⟨Rat.le_trans m.1 h1, fun p hp => ?_⟩
    rcases List.mem_cons.mp hp with rfl | z
    · exact Rat.le_trans m.2 h1
    · exact h2 p z
/-- the greatest is the one that all others keep below -/
theorem top_of {qs : List Rat} {v : Rat} (hv : v ∈ qs) (h : ∀ q ∈ qs, q ≤ v) : qs.foldl mxQ (qs.getD 0 0) = v := by
  have h0 : qs.getD 0 0 ∈ qs := by
    cases qs with
    | nil => cases hv
    | cons q t => exact List.mem_cons_self ..
  have a := (foldl_ge qs (qs.getD 0 0)).2 v hv
  rcases foldl_or qs (qs.getD 0 0) with z | z
  · have := h _ h0
    rw [← z] at this
    exact Rat.le_antisymm this a
  · exact Rat.le_antisymm (h _ z) a
/-- the greatest chance of a number -/
def mxC (qs : List Rat) : Rat := (cntL qs).foldl mxQ ((cntL qs).getD 0 0)
/-- the likeliest numbers -/
def crQ (qs : List Rat) : List Nat := (List.range (qs.length + 1)).filter fun k => decide (cf qs k = mxC qs)
/-- nearer than 1 to the mean -/
def nP (v : Rat) (k : Nat) : Bool := decide (-1 < (k : Rat) - v) && decide ((k : Rat) - v < 1)
def nrQ (qs : List Rat) : List Nat := (List.range (qs.length + 2)).filter (nP (sumQ qs))
theorem cnt_max (qs : List Rat) : (∃ k, k < qs.length + 1 ∧ cf qs k = mxC qs) ∧ ∀ k, k < qs.length + 1 → cf qs k ≤ mxC qs := by
  have ne : 0 < (cntL qs).length := by simp
  have h0 : (cntL qs).getD 0 0 ∈ cntL qs := by
    rw [List.getD_eq_getElem?_getD, List.getElem?_eq_getElem ne]; exact List.getElem_mem ne
  have ge := foldl_ge (cntL qs) ((cntL qs).getD 0 0)
  refine ⟨?_, fun k hk => ge.2 _ (List.mem_map.mpr ⟨k, List.mem_range.mpr hk, rfl⟩)⟩
  have hm : mxC qs ∈ cntL qs := by
    unfold mxC
    rcases foldl_or (cntL qs) ((cntL qs).getD 0 0) with z | z
    · rw [z]; exact h0
    · exact z
  obtain ⟨k, hk, e⟩ := List.mem_map.mp hm
  exact ⟨k, List.mem_range.mp hk, e⟩
theorem cr_ne (qs : List Rat) : crQ qs ≠ [] := fun z => by
  obtain ⟨k, hk, e⟩ := (cnt_max qs).1
  have : k ∈ crQ qs := List.mem_filter.mpr ⟨List.mem_range.mpr hk, decide_eq_true e⟩
  rw [z] at this
  cases this
theorem cr_lt {qs : List Rat} : ∀ k ∈ crQ qs, k < qs.length + 1 := fun k hk => List.mem_range.mp (List.mem_filter.mp hk).1
theorem cr_near {qs : List Rat} (h : ∀ q ∈ qs, 0 ≤ q ∧ q < 1) : ∀ k ∈ crQ qs, nP (sumQ qs) k = true := fun k hk => by
  have hk' := cr_lt k hk
  have e : cf qs k = mxC qs := of_decide_eq_true (List.mem_filter.mp hk).2
  obtain ⟨a, b⟩ := crest_near h (k := k) (by omega) fun j hj => by rw [e]; exact (cnt_max qs).2 j (by omega)
  unfold nP
  rw [Bool.and_eq_true, decide_eq_true_eq, decide_eq_true_eq]
  constructor <;> grind
theorem near_two {v : Rat} {a b : Nat} (ha : nP v a = true) (hb : nP v b = true) : b ≤ a + 1 := by
  unfold nP at ha hb
  rw [Bool.and_eq_true, decide_eq_true_eq, decide_eq_true_eq] at ha hb
  rcases Nat.lt_or_ge (a + 1) b with z | z
  · exfalso
    have := natCast_le' (show a + 2 ≤ b from z)
    have e : ((a + 2 : Nat) : Rat) = (a : Rat) + 2 := Rat.natCast_add ..
    rw [e] at this
    grind
  · exact z
theorem cr_sorted (qs : List Rat) : (crQ qs).Pairwise (· < ·) := List.Pairwise.filter _ List.pairwise_lt_range
/-- one or two neighbours -/
theorem cr_few {qs : List Rat} (h : ∀ q ∈ qs, 0 ≤ q ∧ q < 1) : (∃ a, crQ qs = [a]) ∨ ∃ a, crQ qs = [a, a + 1] := by
  have near := cr_near h
  have so := cr_sorted qs
  cases e : crQ qs with
  | nil => exact absurd e (cr_ne qs)
  | cons a t =>
    rw [e] at near so
    have ha := near a (List.mem_cons_self ..)
    cases t with
    | nil => exact .inl ⟨a, rfl⟩
    | cons b t =>
      have hb := near_two ha (near b (by simp))
      have lt : a < b := (List.pairwise_cons.mp so).1 b (List.mem_cons_self ..)
      have eb : b = a + 1 := by omega
      subst eb
      cases t with
      | nil => exact .inr ⟨a, rfl⟩
      | cons c t =>
        have hc := near_two ha (near c (by simp))
        have lt2 : a + 1 < c := (List.pairwise_cons.mp (List.pairwise_cons.mp so).2).1 c (List.mem_cons_self ..)
        omega
theorem cr_whole {qs : List Rat} (h : ∀ q ∈ qs, 0 ≤ q ∧ q < 1) (hd : (sumQ qs).den = 1) : ∃ a : Nat, crQ qs = [a] ∧ (sumQ qs).num = (a : Int) := by
  have near := cr_near h
  have ev : sumQ qs = ((sumQ qs).num : Rat) := by
    have := mul_den (sumQ qs)
    rw [hd] at this
    have e1 : ((1 : Nat) : Rat) = 1 := rfl
    rw [e1, Rat.mul_one] at this
    exact this
  have only : ∀ k ∈ crQ qs, (k : Int) = (sumQ qs).num := fun k hk => by
    have n := near k hk
    unfold nP at n
    rw [Bool.and_eq_true, decide_eq_true_eq, decide_eq_true_eq, ev] at n
    have e1 : (k : Rat) = (((k : Nat) : Int) : Rat) := rfl
    rw [e1, ← Rat.intCast_sub] at n
    have a1 : (((-1 : Int)) : Rat) < (((k : Int) - (sumQ qs).num : Int) : Rat) := n.1
    have a2 : (((k : Int) - (sumQ qs).num : Int) : Rat) < ((1 : Int) : Rat) := n.2
    have b1 := Rat.intCast_lt_intCast.mp a1
    have b2 := Rat.intCast_lt_intCast.mp a2
    omega
  rcases cr_few h with ⟨a, e⟩ | ⟨a, e⟩
  · exact ⟨a, e, (only a (by rw [e]; simp)).symm⟩
  · have x := only a (by rw [e]; simp)
    have y := only (a + 1) (by rw [e]; simp)
    omega
theorem sum_lt_len {qs : List Rat} (h : ∀ q ∈ qs, 0 ≤ q ∧ q < 1) : 0 ≤ sumQ qs ∧ sumQ qs ≤ (qs.length : Rat) := by
  refine ⟨sumQ_nn fun q hq => (h q hq).1, ?_⟩
  induction qs with
  | nil => exact Rat.le_refl
  | cons q t ih =>
    have i := ih fun x hx => h x (List.mem_cons_of_mem _ hx)
    have hq := h q (List.mem_cons_self ..)
    rw [sumQ_cons, List.length_cons]
    have : ((t.length + 1 : Nat) : Rat) = (t.length : Rat) + 1 := Rat.natCast_add ..
    rw [this]; grind
/-- beyond the row none is near -/
theorem near_14 {qs : List Rat} (h : ∀ q ∈ qs, 0 ≤ q ∧ q < 1) (hl : qs.length ≤ 12) : (List.range 14).filter (nP (sumQ qs)) = nrQ qs := by
  have e : List.range 14 = List.range (qs.length + 2) ++ (List.range (12 - qs.length)).map (fun i => qs.length + 2 + i) := by
    have := List.range_add (n := qs.length + 2) (m := 12 - qs.length)
    rw [show qs.length + 2 + (12 - qs.length) = 14 by omega] at this
    exact this
  unfold nrQ
  rw [e, List.filter_append]
  have z : ((List.range (12 - qs.length)).map (fun i => qs.length + 2 + i)).filter (nP (sumQ qs)) = [] := by
    rw [List.filter_eq_nil_iff]
    intro k hk
    obtain ⟨i, _, rfl⟩ := List.mem_map.mp hk
    have s := (sum_lt_len h).2
    have l := natCast_le' (show qs.length + 2 ≤ qs.length + 2 + i by omega)
    have e2 : ((qs.length + 2 : Nat) : Rat) = (qs.length : Rat) + 2 := Rat.natCast_add ..
    rw [e2] at l
    unfold nP
    rw [Bool.and_eq_true, decide_eq_true_eq, decide_eq_true_eq]
    grind
  rw [z, List.append_nil]
theorem greatest_eq {xs : List Rat} {k : Nat} (h0 : 0 < xs.length) (h : ∀ q ∈ xs, Bq k q) (hk : k ≤ 4000) (M : Sto) : fn_greatest [.p (.list (xs.map F))] M = some (.p (F (xs.foldl mxQ (xs.getD 0 0))), M) := by
  have a0 : atI (xs.map F) 0 = some (F (xs.getD 0 0)) := by
    rw [show (0 : Int) = ((0 : Nat) : Int) from rfl, atI_nat, List.getElem?_map, List.getD_eq_getElem?_getD, List.getElem?_eq_getElem h0]; rfl
  have b0 : Bq k (xs.getD 0 0) := by rw [List.getD_eq_getElem?_getD, List.getElem?_eq_getElem h0]; exact h _ (List.getElem_mem h0)
  obtain ⟨ρ', M', e, hM, y2, rfl⟩ := forL_map (g := gN 2) (f := b_greatest_0) F (fun pre ρ M' => M' = M ∧ ∃ y2, ρ = [some (.p (.list (xs.map F))), some (.p (F (pre.foldl mxQ (xs.getD 0 0)))), y2]) xs [some (.p (.list (xs.map F))), some (.p (F (xs.getD 0 0))), none] M ⟨rfl, none, rfl⟩
    (fun pre q ρ M' hp ⟨hM, y2, hρ⟩ => by
      subst hM hρ
      have bq := h q (mem_pre hp).1
      have bp : Bq k (pre.foldl mxQ (xs.getD 0 0)) := by
        rcases foldl_or pre (xs.getD 0 0) with z | z
        · rw [z]; exact b0
        · exact h _ ((mem_pre hp).2 _ z)
      have g := greater_eq bp bq (by omega) M'
      have ev : (pre ++ [q]).foldl mxQ (xs.getD 0 0) = mxQ (pre.foldl mxQ (xs.getD 0 0)) q := by rw [List.foldl_append]; rfl
      refine ⟨_, _, [some (.p (.list (xs.map F))), some (.p (F ((pre ++ [q]).foldl mxQ (xs.getD 0 0)))), some (.p (F q))], M', rfl, .inl ?_, rfl, _, rfl⟩
      rw [ev]
      generalize mxQ (pre.foldl mxQ (xs.getD 0 0)) q = v at *
      generalize pre.foldl mxQ (xs.getD 0 0) = a at *
      generalize xs.map F = U at *
      unfold b_greatest_0
      simp [g])
  subst hM
  generalize xs.foldl mxQ (xs.getD 0 0) = v at *
  generalize xs.getD 0 0 = w at *
  generalize xs.map F = U at *
  unfold fn_greatest m_greatest
  simp [a0, e]
theorem enD_cnt (qs : List Rat) : enD ((cntL qs).map F) = (List.range (qs.length + 1)).map fun k : Nat => PyData.tuple [.int (k : Int), F (cf qs k)] := by
  unfold enD cntL
  apply List.ext_getElem?
  intro i
  rw [List.getElem?_mapIdx, List.getElem?_map, List.getElem?_map, List.getElem?_map]
  by_cases hi : i < qs.length + 1
  · rw [List.getElem?_range hi]; rfl
  · rw [List.getElem?_eq_none (by rw [List.length_range]; omega)]; rfl
theorem mx_bq {qs : List Rat} (h : R4 qs) : Bq 481 (mxC qs) := by
  obtain ⟨k, _, e⟩ := (cnt_max qs).1
  rw [← e]; exact h.cf k
theorem crests_in_eq {qs : List Rat} (h : R4 qs) (M : Sto) : fn_crests_in [.p (.tuple (qs.map F))] M = some (.p (encN (crQ qs)), M) := by
  have hl := h.len
  have c := counts_in_r4 h M
  have g := greatest_eq (xs := cntL qs) (k := 481) (by simp) (fun q hq => by
    obtain ⟨k, _, rfl⟩ := List.mem_map.mp hq
    exact h.cf k) (by decide) M
  have hg : (cntL qs).foldl mxQ ((cntL qs).getD 0 0) = mxC qs := rfl
  rw [hg] at g
  have e := lcL_filterM (g := gT [(gN 3), (gN 4)]) (t := tb (eBin bEq (eVar 4) (eVar 2))) (e := eVar 3) (ρ := [some (.p (.tuple (qs.map F))), some (.p (.list ((cntL qs).map F))), some (.p (F (mxC qs))), none, none]) (M := M) (fun k : Nat => PyData.tuple [.int (k : Int), F (cf qs k)]) (fun k => decide (cf qs k = mxC qs)) (fun k : Nat => PyData.int (k : Int)) (fun k => [some (.p (.tuple (qs.map F))), some (.p (.list ((cntL qs).map F))), some (.p (F (mxC qs))), some (I k), some (.p (F (cf qs k)))]) (List.range (qs.length + 1)) (fun k hk => ⟨rfl, by
    have b := bEq_F (cf qs k) (mxC qs) M
    generalize cf qs k = v at *
    generalize mxC qs = w at *
    generalize (cntL qs).map F = C at *
    generalize qs.map F = U at *
    simp [-bEq_p, b], fun _ => by simp⟩)
  rw [← enD_cnt] at e
  have el : ((List.range (qs.length + 1)).filter fun k => decide (cf qs k = mxC qs)).map (fun k : Nat => PyData.int (k : Int)) = (crQ qs).map fun k : Nat => PyData.int (k : Int) := rfl
  rw [el] at e
  have zE : (enD ((cntL qs).map F)).length ≤ 16777216 := by rw [enD_len, List.length_map, cntL_len]; omega
  unfold encN
  clear el hg
  generalize hE : enD ((cntL qs).map F) = E at *
  generalize (cntL qs).map F = C at *
  generalize (crQ qs).map (fun k : Nat => PyData.int (k : Int)) = L at *
  generalize mxC qs = w at *
  generalize qs.map F = U at *
  have body : m_crests_in [some (.p (.tuple U)), none, none, none, none] M = some (.rt (.p (.tuple L)), [some (.p (.tuple U)), some (.p (.list C)), some (.p (F w)), none, none], M) := by
    unfold m_crests_in
    refine sSeq_nx (ρ1 := [some (.p (.tuple U)), some (.p (.list C)), none, none, none]) (M1 := M) (by simp [c]) ?_
    refine sSeq_nx (ρ1 := [some (.p (.tuple U)), some (.p (.list C)), some (.p (F w)), none, none]) (M1 := M) (by simp [g]) ?_
    simp [hE, wipeR, zE, e, nTuple]
  unfold fn_crests_in
  simp [body]
theorem crests_eq {qs : List Rat} (h : R4 qs) (M : Sto) : fn_crests [.p (.tuple (qs.map F))] M = some (.p (encN (crQ qs)), M) := by
  have c := check_row_eq h.1 M
  have m := crests_in_eq h M
  generalize encN (crQ qs) = d at *
  generalize qs.map F = U at *
  unfold fn_crests m_crests
  simp [c, m]
theorem is_crest_eq {qs : List Rat} (h : R4 qs) {k : Nat} (hk : k ≤ 12) (M : Sto) : fn_is_crest [.p (.tuple (qs.map F)), I k] M = some (B (decide (k ∈ crQ qs)), M) := by
  have c := check_row_eq h.1 M
  have c2 := check_many_eq (i := (k : Int)) (a := 0) (by omega) (by omega) M
  have m := crests_in_eq h M
  have b := bIn_N k (crQ qs) M
  generalize encN (crQ qs) = d at *
  generalize qs.map F = U at *
  unfold fn_is_crest m_is_crest
  simp [c, c2, m, b]
theorem near_int (v : Rat) (k : Nat) : decide ((((k : Int) * (v.den : Int) - v.num).natAbs : Int) < (v.den : Int)) = nP v k := by
  have dp := v.den_pos
  have d0 : (0 : Rat) < (v.den : Rat) := by
    have := natCast_le' (show 1 ≤ v.den from dp)
    have e1 : ((1 : Nat) : Rat) = 1 := rfl
    grind
  have md := mul_den v
  have key : ((k : Rat) - v) * (v.den : Rat) = (((k : Int) * (v.den : Int) - v.num : Int) : Rat) := by
    rw [Rat.intCast_sub, Rat.intCast_mul, ← md]
    have e1 : (((k : Nat) : Int) : Rat) = (k : Rat) := rfl
    have e2 : (((v.den : Nat) : Int) : Rat) = (v.den : Rat) := rfl
    rw [e1, e2]; grind
  obtain ⟨g, hg⟩ : ∃ g, g = (k : Int) * (v.den : Int) - v.num := ⟨_, rfl⟩
  rw [← hg] at key ⊢
  have e2 : (((v.den : Nat) : Int) : Rat) = (v.den : Rat) := rfl
  unfold nP
  rw [Bool.eq_iff_iff, Bool.and_eq_true, decide_eq_true_eq, decide_eq_true_eq, decide_eq_true_eq]
  constructor
  · intro z
    have a1 : -(v.den : Int) < g := by omega
    have a2 : g < (v.den : Int) := by omega
    have b1 := Rat.intCast_lt_intCast.mpr a1
    have b2 := Rat.intCast_lt_intCast.mpr a2
    rw [Rat.intCast_neg, e2, ← key] at b1
    rw [e2, ← key] at b2
    refine ⟨?_, ?_⟩
    · refine Rat.not_le.mp fun w => ?_
      have := Rat.mul_le_mul_of_nonneg_right w (Rat.le_of_lt d0)
      grind
    · refine Rat.not_le.mp fun w => ?_
      have := Rat.mul_le_mul_of_nonneg_right w (Rat.le_of_lt d0)
      grind
  · rintro ⟨z1, z2⟩
    have b1 := Rat.mul_lt_mul_of_pos_right z1 d0
    have b2 := Rat.mul_lt_mul_of_pos_right z2 d0
    rw [key] at b1 b2
    have a1 : ((-(v.den : Int) : Int) : Rat) < ((g : Int) : Rat) := by rw [Rat.intCast_neg, e2]; grind
    have a2 : ((g : Int) : Rat) < (((v.den : Nat) : Int) : Rat) := by rw [e2]; grind
    have c1 := Rat.intCast_lt_intCast.mp a1
    have c2 := Rat.intCast_lt_intCast.mp a2
    omega
theorem near_mean_eq {qs : List Rat} (h : R4 qs) (M : Sto) : fn_near_mean [.p (.tuple (qs.map F))] M = some (.p (encN (nrQ qs)), M) := by
  have hl := h.len
  have c := check_row_eq h.1 M
  have mo := mean_of_eq h M
  have zU : (qs.map F).length = qs.length := by simp
  have sb : Bq 600 (sumQ qs) := (sumQ_bq h.2).mono (by omega)
  have e := lcL_filterM (g := gN 3) (t := t_near_mean_0) (e := eVar 3) (ρ := [some (.p (.tuple (qs.map F))), some (I (sumQ qs).num), some (I (sumQ qs).den), none]) (M := M) (fun k : Nat => PyData.int (k : Int)) (nP (sumQ qs)) (fun k : Nat => PyData.int (k : Int)) (fun k => [some (.p (.tuple (qs.map F))), some (I (sumQ qs).num), some (I (sumQ qs).den), some (I k)]) (List.range (qs.length + 2)) (fun k hk => ⟨rfl, by
    have hk := List.mem_range.mp hk
    have m1 : mulOk (k : Int) ((sumQ qs).den : Int) = true := mulOk_p (i := (k : Int)) (j := ((sumQ qs).den : Int)) (k := 4) (l := 600) (by simp only [Int.natAbs_natCast]; omega) (by simpa using sb.2) (by decide) (by decide)
    have n := near_int (sumQ qs) k
    generalize nP (sumQ qs) k = b at *
    generalize ((sumQ qs).den : Int) = d at *
    generalize (sumQ qs).num = u at *
    generalize qs.map F = U at *
    unfold t_near_mean_0
    simp [m1, n], fun _ => by simp⟩)
  have r1 : ∀ M, rngV (.p (.int ((qs.length : Int) + 2))) M = some ((List.range (qs.length + 2)).map fun i : Nat => PyData.int (i : Int), M) := fun M => rngV_of (by omega) (by omega) _
  have zG : ((List.range (qs.length + 2)).map fun i : Nat => PyData.int (i : Int)).length ≤ 16777216 := by rw [List.length_map, List.length_range]; omega
  have el : ((List.range (qs.length + 2)).filter (nP (sumQ qs))).map (fun k : Nat => PyData.int (k : Int)) = (nrQ qs).map fun k : Nat => PyData.int (k : Int) := rfl
  rw [el] at e
  unfold encN
  clear el
  have fe : F (sumQ qs) = .tuple [.int (sumQ qs).num, .int (sumQ qs).den] := rfl
  rw [fe] at mo
  generalize (nrQ qs).map (fun k : Nat => PyData.int (k : Int)) = L at *
  generalize ((List.range (qs.length + 2)).map fun i : Nat => PyData.int (i : Int)) = G at *
  generalize ((sumQ qs).den : Int) = d at *
  generalize (sumQ qs).num = u at *
  generalize qs.map F = U at *
  unfold fn_near_mean m_near_mean
  simp [-rngV_i, c, mo, zU, r1, wipeR, zG, e, nTuple]



/-! ## k12: the law -/
theorem law_whole_ok {r : Nat} {M : Sto} (hM : At r M) : Dr r M (fun v => ∃ qs : List Rat, v = .p (.tuple (qs.map F)) ∧ qs.length ≤ 6 ∧ ∀ q ∈ qs, Ch q) (fn__law_whole [.ob r] M) := by
  obtain ⟨v0, Ma, s0, ⟨i, rfl, i0, i1⟩, e0⟩ := draw_ok hM (l := 3) (by decide) (by decide)
  obtain ⟨n, hn⟩ : ∃ n : Nat, 1 + i = (n : Int) ∧ n ≤ 3 := ⟨(1 + i).toNat, by omega, by omega⟩
  obtain ⟨hn, n3⟩ := hn
  have a0 := s0.at hM
  obtain ⟨ρ', M', e, s1, qs, hql, hqs, y2, y3, rfl⟩ := forL_map (g := gN 2) (f := b__law_whole_0) (fun i : Nat => PyData.int (i : Int)) (fun pre ρ M' => St r Ma M' ∧ ∃ qs : List Rat, qs.length ≤ 2 * pre.length ∧ (∀ q ∈ qs, Ch q) ∧ ∃ y2 y3, ρ = [some (.ob r), some (.p (.list (qs.map F))), y2, y3]) (List.range n) [some (.ob r), some (.p (.list [])), none, none] Ma ⟨.refl a0, [], by simp, fun q h => (by cases h), none, none, rfl⟩
    (fun pre i ρ M1 hp ⟨s, qs, hql, hqs, y2, y3, hρ⟩ => by
      subst hρ
      have lp := len_pre hp
      rw [List.length_range] at lp
      obtain ⟨v, M2, s2, ⟨q, rfl, hq⟩, e⟩ := chance_ok (s.at a0)
      have re := law_rest_eq q M2
      have z : (qs.map F).length + 2 ≤ 16777216 := by rw [List.length_map]; omega
      by_cases h0 : 0 < q.num
      · have q0 : 0 < q := by
          refine Rat.not_le.mp fun w => ?_
          have e0 : q = 0 := Rat.le_antisymm w hq.1
          rw [e0] at h0
          exact absurd h0 (by decide)
        have h1 : Ch (1 - q) := by
          obtain ⟨b1, b2⟩ := one_sub_parts q
          refine ⟨by have := hq.2.1; grind, by grind, ?_, by rw [b2]; exact hq.2.2.2⟩
          rw [b1]
          have d := hq.2.2.2
          have hl : q.num < (q.den : Int) := by
            have := hq.2.1
            rw [Rat.lt_iff] at this
            simpa using this
          omega
        have em : (qs ++ [q, 1 - q]).map F = qs.map F ++ [F q, F (1 - q)] := by rw [List.map_append]; rfl
        refine ⟨_, _, [some (.ob r), some (.p (.list ((qs ++ [q, 1 - q]).map F))), some (I (i : Int)), some (.p (F q))], M2, rfl, .inl ?_, s.trans s2, qs ++ [q, 1 - q], by simp; omega, fun x hx => ?_, _, _, rfl⟩
        · rw [em]
          generalize qs.map F = U at *
          unfold b__law_whole_0
          refine sSeq_nx (ρ1 := [some (.ob r), some (.p (.list U)), some (I (i : Int)), some (.p (F q))]) (M1 := M2) (by simp [e]) ?_
          simp [F_ix0, h0, lstV, pures, re, z]
        · rcases List.mem_append.mp hx with w | w
          · exact hqs x w
          · simp only [List.mem_cons, List.not_mem_nil, or_false] at w
            rcases w with rfl | rfl
            · exact hq
            · exact h1
      · have hh : Ch (1 / 2) := ⟨by decide +kernel, by decide +kernel, by decide +kernel, by decide +kernel⟩
        have fh : F (1 / 2) = .tuple [.int 1, .int 2] := by kernel_rfl
        have em : (qs ++ [1 / 2, 1 / 2]).map F = qs.map F ++ [.tuple [.int 1, .int 2], .tuple [.int 1, .int 2]] := by rw [List.map_append, List.map_cons, List.map_cons, fh]; rfl
        refine ⟨_, _, [some (.ob r), some (.p (.list ((qs ++ [1 / 2, 1 / 2]).map F))), some (I (i : Int)), some (.p (F q))], M2, rfl, .inl ?_, s.trans s2, qs ++ [1 / 2, 1 / 2], by simp; omega, fun x hx => ?_, _, _, rfl⟩
        · rw [em]
          generalize qs.map F = U at *
          unfold b__law_whole_0
          refine sSeq_nx (ρ1 := [some (.ob r), some (.p (.list U)), some (I (i : Int)), some (.p (F q))]) (M1 := M2) (by simp [e]) ?_
          simp [F_ix0, h0, lstV, tupV, pures, z]
        · rcases List.mem_append.mp hx with w | w
          · exact hqs x w
          · simp only [List.mem_cons, List.not_mem_nil, or_false, or_self] at w
            rw [w]; exact hh)
  rw [List.length_range] at hql
  have a1 := s1.at a0
  obtain ⟨v2, Mb, s2, ⟨es, rfl, pe⟩, e2⟩ := law_mixed_ok a1 (d := .list (qs.map F)) (ds := qs.map F) (fun _ => rfl) (fun _ => rfl) (by rw [List.length_map]; omega)
  obtain ⟨rs, rfl, hrs⟩ := unmap (f := F) (p := Ch) (fun d hd => by
    obtain ⟨q, hq, rfl⟩ := List.mem_map.mp (pe.mem_iff.mp hd)
    exact ⟨q, rfl, hqs q hq⟩)
  have lr : rs.length ≤ 6 := by
    have := pe.length_eq
    rw [List.length_map, List.length_map] at this
    omega
  have r1 : ∀ M, rngV (.p (.int (n : Int))) M = some ((List.range n).map fun i : Nat => PyData.int (i : Int), M) := fun M => rngV_of rfl (by omega) _
  refine ⟨_, Mb, (s0.trans s1).trans s2, ⟨rs, rfl, lr, hrs⟩, ?_⟩
  have st := ((s0.trans s1).trans s2).take
  clear pe
  generalize ((List.range n).map fun i : Nat => PyData.int (i : Int)) = G at *
  generalize qs.map F = U at *
  generalize rs.map F = V at *
  unfold fn__law_whole m__law_whole
  simp [-rngV_i, lstV, pures, e0, hn, r1, e, e2, nTuple, st]
theorem bg_12 {a : Nat} (h : a < 1024) : Bg (a : Int) := Nat.lt_of_lt_of_le (show (a : Int).natAbs < 2 ^ 10 by omega) (Nat.pow_le_pow_right (by decide) (by decide))
theorem sh_K {ks : List Nat} (h : ∀ k ∈ ks, k < 1024) (hl : ks.length ≤ 15) : Sh 1 10000 (encN ks) := (sh_tup (n := 0) (w := 601) fun d hd => by
  obtain ⟨a, ha, rfl⟩ := List.mem_map.mp hd
  exact sh_int (bg_12 (h a ha))).mono (by decide) (by rw [List.length_map]; omega)
theorem had_sh {as bs : List Nat} {v : Rat} (ha : ∀ k ∈ as, k < 1024) (la : as.length ≤ 15) (hb : ∀ k ∈ bs, k < 1024) (lb : bs.length ≤ 15) (hv : Bq 600 v) : Sh 2 51000 (.list [encN as, encN as, encN bs, encN bs, F v]) := (sh_list (n := 1) (w := 10000) fun d hd => by
  simp only [List.mem_cons, List.not_mem_nil, or_false] at hd
  rcases hd with rfl | rfl | rfl | rfl | rfl
  · exact sh_K ha la
  · exact sh_K ha la
  · exact sh_K hb lb
  · exact sh_K hb lb
  · exact (sh_F hv (by decide)).mono (by decide) (by decide)).mono (by decide) (by show 2 + 5 * 10002 ≤ 51000; decide)
theorem bEq_den (v : Rat) (M : Sto) : bEq (I (v.den : Int)) (I 1) M = some (B (decide (v.den = 1)), M) := by
  have : decide ((v.den : Int) = 1) = decide (v.den = 1) := by rw [decide_eq_decide]; omega
  simp [this]
theorem crest_turn {qs : List Rat} (h : R4 qs) {k : Nat} (hk : k < 13) {r : Nat} (M : Sto) (y1 y3 y4 y6 y8 y9 y10 y11 : Option Val) : b__law_right_2 [some (.ob r), y1, some (.p (.tuple (qs.map F))), y3, y4, some (.p (encN (crQ qs))), y6, some (I k), y8, y9, y10, y11] M = some (.nx, [some (.ob r), y1, some (.p (.tuple (qs.map F))), y3, y4, some (.p (encN (crQ qs))), y6, some (I k), y8, y9, y10, y11], M) := by
  have ic := is_crest_eq h (k := k) (by omega) M
  have b := bIn_N k (crQ qs) M
  have sh : Sh 1 1208 (.list [.bool (decide (k ∈ crQ qs)), .bool (decide (k ∈ crQ qs))]) := (sh_list (n := 0) (w := 601) (ds := [.bool (decide (k ∈ crQ qs)), .bool (decide (k ∈ crQ qs))]) fun d hd => by
    have : d = .bool (decide (k ∈ crQ qs)) := by simpa using hd
    rw [this]
    exact sh_bool _).mono (by decide) (by show 2 + 2 * 603 ≤ 1208; decide)
  have li := law_is_eq sh (by decide) (by decide) M
  clear sh
  generalize decide (k ∈ crQ qs) = x at *
  generalize encN (crQ qs) = T at *
  generalize qs.map F = U at *
  unfold b__law_right_2
  simp [ic, b, pick, lstV, pures, li]
theorem raw_below (a b : Int) (M : Sto) : fn__law_below [.p (.tuple [.int a, .int b]), .p (.tuple [.int 1, .int 1])] M = some (B (decide (a < b)), M) := by
  have m1 : mulOk a 1 = true := mulOk_r (by decide)
  have m2 : mulOk 1 b = true := mulOk_l (by decide)
  unfold fn__law_below m__law_below
  simp [m1, m2]
theorem near_gap (v : Rat) (j : Nat) : decide ((((j : Rat) - v).num.natAbs : Int) < (((j : Rat) - v).den : Int)) = nP v j := by
  unfold nP
  generalize (j : Rat) - v = g
  have a : g < 1 ↔ g.num < (g.den : Int) := by
    rw [Rat.lt_iff]; simp
  have b : -1 < g ↔ -(g.den : Int) < g.num := by
    rw [Rat.lt_iff]; simp
  rw [Bool.eq_iff_iff, Bool.and_eq_true, decide_eq_true_eq, decide_eq_true_eq, decide_eq_true_eq, a, b]
  omega
theorem near_turn {v : Rat} (hv : Bq 600 v) {j : Nat} (hj : j < 14) {r : Nat} (L : List PyData) (hL : L.length ≤ 1000) (M : Sto) (y1 y2 y3 y4 y5 y8 y9 y11 : Option Val) : ∃ z11,
    b__law_right_1 [some (.ob r), y1, y2, y3, y4, y5, some (.p (.list L)), some (I j), y8, y9, some (.p (F v)), y11] M = some (.nx, [some (.ob r), y1, y2, y3, y4, y5, some (.p (.list (L ++ if nP v j = true then [.int (j : Int)] else []))), some (I j), y8, y9, some (.p (F v)), z11], M) := by
  have jb : Bq 4 ((j : Nat) : Rat) := ⟨by simp; omega, by simp⟩
  have fj : F ((j : Nat) : Rat) = .tuple [.int (j : Int), .int 1] := by unfold F; simp
  have le := law_less_eq jb hv (by decide) M
  rw [fj] at le
  have rb := raw_below (((j : Rat) - v).num.natAbs : Int) (((j : Rat) - v).den : Int) M
  rw [near_gap] at rb
  have z1 : L.length + 1 ≤ 16777216 := by omega
  have z0 : L.length ≤ 16777216 := by omega
  refine ⟨some (.p (F ((j : Rat) - v))), ?_⟩
  generalize nP v j = b at *
  generalize (j : Rat) - v = g at *
  generalize F v = fv at *
  unfold b__law_right_1
  refine sSeq_nx (ρ1 := [some (.ob r), y1, y2, y3, y4, y5, some (.p (.list L)), some (I j), y8, y9, some (.p fv), some (.p (F g))]) (M1 := M) (by simp [tupV, pures, le]) ?_
  cases b
  · simp [F_ix0, F_ix1, tupV, lstV, pures, rb, z0]
  · simp [F_ix0, F_ix1, tupV, lstV, pures, rb, z1]
theorem row_turn {qs : List Rat} (h4 : ∀ q ∈ qs, Ch q) (hl : qs.length ≤ 8) {r : Nat} (M : Sto) (y1 y3 y4 y5 y6 y7 y8 y9 y10 y11 : Option Val) : ∃ z3 z4 z5 z6 z7 z8 z9 z10 z11,
    b__law_right_3 [some (.ob r), y1, some (.p (.tuple (qs.map F))), y3, y4, y5, y6, y7, y8, y9, y10, y11] M = some (.nx, [some (.ob r), y1, some (.p (.tuple (qs.map F))), z3, z4, z5, z6, z7, z8, z9, z10, z11], M) := by
  have h : R4 qs := r4_of (by omega) h4
  have h01 : ∀ q ∈ qs, 0 ≤ q ∧ q < 1 := h.1.1
  have b4 : ∀ q ∈ qs, Bq 4 q := fun q hq => (h4 q hq).2.2
  have lc := law_counts_eq (k := 4) h.1.rw b4 (by omega) (by decide) (by omega) M
  have lt := law_together_bq (d := .tuple (qs.map F)) (k := 4) (fun _ => rfl) b4 (by omega) M
  have sb : Bq 600 (sumQ qs) := (sumQ_bq h.2).mono (by have := h.len; omega)
  have cb : ∀ q ∈ cntL qs, Bq 481 q := fun q hq => by
    obtain ⟨k, _, rfl⟩ := List.mem_map.mp hq
    exact h.cf k
  have a0 : atI ((cntL qs).map F) 0 = some (F ((cntL qs).getD 0 0)) := by
    rw [show (0 : Int) = ((0 : Nat) : Int) from rfl, atI_nat, List.getElem?_map, List.getD_eq_getElem?_getD, List.getElem?_eq_getElem (by simp)]; rfl
  have cb0 : Bq 481 ((cntL qs).getD 0 0) := by rw [List.getD_eq_getElem?_getD, List.getElem?_eq_getElem (by simp)]; exact cb _ (List.getElem_mem _)
  -- the greatest
  obtain ⟨ρ', M', e3, hM', u4, rfl⟩ := forL_map (g := gN 4) (f := b__law_right_0) F (fun pre ρ M' => M' = M ∧ ∃ u4, ρ = [some (.ob r), y1, some (.p (.tuple (qs.map F))), some (.p (F (pre.foldl mxQ ((cntL qs).getD 0 0)))), u4, y5, y6, y7, y8, some (.p (.tuple ((cntL qs).map F))), some (.p (F (sumQ qs))), y11]) (cntL qs) [some (.ob r), y1, some (.p (.tuple (qs.map F))), some (.p (F ((cntL qs).getD 0 0))), y4, y5, y6, y7, y8, some (.p (.tuple ((cntL qs).map F))), some (.p (F (sumQ qs))), y11] M ⟨rfl, _, rfl⟩
    (fun pre q ρ M' hp ⟨hM, u4, hρ⟩ => by
      subst hM hρ
      have bq := cb q (mem_pre hp).1
      have bp : Bq 481 (pre.foldl mxQ ((cntL qs).getD 0 0)) := by
        rcases foldl_or pre ((cntL qs).getD 0 0) with z | z
        · rw [z]; exact cb0
        · exact cb _ ((mem_pre hp).2 _ z)
      have l := law_below_eq bp bq (by decide) M'
      have ev : (pre ++ [q]).foldl mxQ ((cntL qs).getD 0 0) = mxQ (pre.foldl mxQ ((cntL qs).getD 0 0)) q := by rw [List.foldl_append]; rfl
      refine ⟨_, _, [some (.ob r), y1, some (.p (.tuple (qs.map F))), some (.p (F ((pre ++ [q]).foldl mxQ ((cntL qs).getD 0 0)))), some (.p (F q)), y5, y6, y7, y8, some (.p (.tuple ((cntL qs).map F))), some (.p (F (sumQ qs))), y11], M', rfl, .inl ?_, rfl, _, rfl⟩
      rw [ev]
      clear ev bp
      generalize pre.foldl mxQ ((cntL qs).getD 0 0) = a at *
      generalize (cntL qs).map F = C at *
      generalize F (sumQ qs) = m at *
      generalize qs.map F = U at *
      unfold b__law_right_0 mxQ
      by_cases hlt : a < q <;> simp [l, hlt])
  subst hM'
  have hmx : (cntL qs).foldl mxQ ((cntL qs).getD 0 0) = mxC qs := rfl
  rw [hmx] at e3
  -- the crests
  have e4 := lcL_filterM (g := gT [(gN 7), (gN 4)]) (t := tb (eBin bEq (eVar 4) (eVar 3))) (e := eVar 7) (ρ := [some (.ob r), y1, some (.p (.tuple (qs.map F))), some (.p (F (mxC qs))), none, y5, y6, none, y8, some (.p (.tuple ((cntL qs).map F))), some (.p (F (sumQ qs))), y11]) (M := M') (fun k : Nat => PyData.tuple [.int (k : Int), F (cf qs k)]) (fun k => decide (cf qs k = mxC qs)) (fun k : Nat => PyData.int (k : Int)) (fun k => [some (.ob r), y1, some (.p (.tuple (qs.map F))), some (.p (F (mxC qs))), some (.p (F (cf qs k))), y5, y6, some (I k), y8, some (.p (.tuple ((cntL qs).map F))), some (.p (F (sumQ qs))), y11]) (List.range (qs.length + 1)) (fun k hk => ⟨rfl, by
    have b := bEq_F (cf qs k) (mxC qs) M'
    generalize cf qs k = v at *
    generalize mxC qs = w at *
    generalize (cntL qs).map F = C at *
    generalize F (sumQ qs) = m at *
    generalize qs.map F = U at *
    simp [-bEq_p, b], fun _ => by simp⟩)
  rw [← enD_cnt] at e4
  have el : ((List.range (qs.length + 1)).filter fun k => decide (cf qs k = mxC qs)).map (fun k : Nat => PyData.int (k : Int)) = (crQ qs).map fun k : Nat => PyData.int (k : Int) := rfl
  rw [el] at e4
  have zE : (enD ((cntL qs).map F)).length ≤ 16777216 := by rw [enD_len, List.length_map, cntL_len]; omega
  -- what is near
  obtain ⟨ρ', M'', e6, hM'', v7, v11, rfl⟩ := forL_map (g := gN 7) (f := b__law_right_1) (fun i : Nat => PyData.int (i : Int)) (fun pre ρ Mx => Mx = M' ∧ ∃ v7 v11, ρ = [some (.ob r), y1, some (.p (.tuple (qs.map F))), some (.p (F (mxC qs))), u4, some (.p (encN (crQ qs))), some (.p (.list ((pre.filter (nP (sumQ qs))).map fun k : Nat => PyData.int (k : Int)))), v7, y8, some (.p (.tuple ((cntL qs).map F))), some (.p (F (sumQ qs))), v11]) (List.range 14) [some (.ob r), y1, some (.p (.tuple (qs.map F))), some (.p (F (mxC qs))), u4, some (.p (encN (crQ qs))), some (.p (.list [])), y7, y8, some (.p (.tuple ((cntL qs).map F))), some (.p (F (sumQ qs))), y11] M' ⟨rfl, _, _, rfl⟩
    (fun pre j ρ Mx hp ⟨hM, v7, v11, hρ⟩ => by
      subst hM hρ
      have hj := List.mem_range.mp (mem_pre hp).1
      have lp := len_pre hp
      rw [List.length_range] at lp
      obtain ⟨x, e⟩ := near_turn sb hj (r := r) ((pre.filter (nP (sumQ qs))).map fun k : Nat => PyData.int (k : Int)) (by
        rw [List.length_map]
        have := List.length_filter_le (nP (sumQ qs)) pre
        omega) Mx y1 (some (.p (.tuple (qs.map F)))) (some (.p (F (mxC qs)))) u4 (some (.p (encN (crQ qs)))) y8 (some (.p (.tuple ((cntL qs).map F)))) v11
      have ef : ((pre ++ [j]).filter (nP (sumQ qs))).map (fun k : Nat => PyData.int (k : Int)) = ((pre.filter (nP (sumQ qs))).map fun k : Nat => PyData.int (k : Int)) ++ if nP (sumQ qs) j = true then [.int (j : Int)] else [] := by
        rw [List.filter_append, List.map_append]
        by_cases hn : nP (sumQ qs) j = true
        · simp [hn]
        · simp [hn]
      rw [← ef] at e
      exact ⟨_, _, _, _, rfl, .inl e, rfl, _, _, rfl⟩)
  subst hM''
  rw [near_14 h01 (by omega)] at e6
  have cr := crests_eq h M''
  have nm := near_mean_eq h M''
  have mm := mean_eq h M''
  have crl : ∀ k ∈ crQ qs, k < 1024 := fun k hk => by have := cr_lt k hk; omega
  have crn : (crQ qs).length ≤ 15 := by rcases cr_few h01 with ⟨a, e⟩ | ⟨a, e⟩ <;> rw [e] <;> simp
  have nrl : ∀ k ∈ nrQ qs, k < 1024 := fun k hk => by
    have := List.mem_range.mp (List.mem_filter.mp hk).1
    omega
  have nrn : (nrQ qs).length ≤ 15 := by
    unfold nrQ
    have := List.length_filter_le (nP (sumQ qs)) (List.range (qs.length + 2))
    rw [List.length_range] at this
    omega
  have li := law_is_eq (had_sh crl crn nrl nrn sb) (by decide) (by decide) M''
  have n13 : (nrQ qs).map (fun k : Nat => PyData.int (k : Int)) = (nrQ qs).map fun k : Nat => PyData.int (k : Int) := rfl
  -- few, near
  have chk : (tOrF (tb (eBin bGt (eCB nLen (aCons (eVar 5) aNil)) (eC (.int 2)))) (tOrF (tb (eBin bGt (eBin bSub (eBin bIx (eVar 5) (eUn uNeg (eC (.int 1)))) (eBin bIx (eVar 5) (eC (.int 0)))) (eC (.int 1)))) (tb (eBin bNe (eLc (iSeq (eVar 5)) (gN 7) (tb (eBin bNotIn (eVar 7) (eVar 6))) (eC (.int 1)) [7]) (eLst aNil))))) [some (.ob r), y1, some (.p (.tuple (qs.map F))), some (.p (F (mxC qs))), u4, some (.p (encN (crQ qs))), some (.p (.list ((nrQ qs).map fun k : Nat => PyData.int (k : Int)))), v7, some (.p (.list [encN (crQ qs), encN (crQ qs), encN (nrQ qs), encN (nrQ qs), F (sumQ qs)])), some (.p (.tuple ((cntL qs).map F))), some (.p (F (sumQ qs))), v11] M'' = some (false, M'') := by
    have f := lcL_filterM (g := gN 7) (t := tb (eBin bNotIn (eVar 7) (eVar 6))) (e := eC (.int 1)) (ρ := [some (.ob r), y1, some (.p (.tuple (qs.map F))), some (.p (F (mxC qs))), u4, some (.p (encN (crQ qs))), some (.p (.list ((nrQ qs).map fun k : Nat => PyData.int (k : Int)))), none, some (.p (.list [encN (crQ qs), encN (crQ qs), encN (nrQ qs), encN (nrQ qs), F (sumQ qs)])), some (.p (.tuple ((cntL qs).map F))), some (.p (F (sumQ qs))), v11]) (M := M'') (fun k : Nat => PyData.int (k : Int)) (fun k => !decide (k ∈ nrQ qs)) (fun _ => .int 1) (fun k => [some (.ob r), y1, some (.p (.tuple (qs.map F))), some (.p (F (mxC qs))), u4, some (.p (encN (crQ qs))), some (.p (.list ((nrQ qs).map fun k : Nat => PyData.int (k : Int)))), some (I k), some (.p (.list [encN (crQ qs), encN (crQ qs), encN (nrQ qs), encN (nrQ qs), F (sumQ qs)])), some (.p (.tuple ((cntL qs).map F))), some (.p (F (sumQ qs))), v11]) (crQ qs) (fun k hk => ⟨rfl, by
      have ni : bNotIn (I (k : Int)) (.p (.list ((nrQ qs).map fun k : Nat => PyData.int (k : Int)))) M'' = some (B (!decide (k ∈ nrQ qs)), M'') := by
        have s : shp (.list ((nrQ qs).map fun k : Nat => PyData.int (k : Int))) = true := sh_shp (sh_list (n := 0) (w := 601) fun d hd => by
          obtain ⟨a, ha, rfl⟩ := List.mem_map.mp hd
          exact sh_int (bg_12 (nrl a ha))) (by decide)
        show (if shp (.int (k : Int)) && shp (.list ((nrQ qs).map fun a : Nat => .int (a : Int))) then some (B (!((nrQ qs).map fun a : Nat => PyData.int (a : Int)).any fun y => PyData.eqv y (.int (k : Int))), M'') else none) = _
        rw [shp_int, s, any_int]
        rfl
      generalize [encN (crQ qs), encN (crQ qs), encN (nrQ qs), encN (nrQ qs), F (sumQ qs)] = H at *
      generalize ((nrQ qs).map fun k : Nat => PyData.int (k : Int)) = N at *
      generalize encN (crQ qs) = T at *
      generalize (cntL qs).map F = C at *
      generalize F (sumQ qs) = m at *
      generalize mxC qs = w at *
      generalize qs.map F = U at *
      simp [ni], fun _ => by simp⟩)
    have fe : (crQ qs).filter (fun k => !decide (k ∈ nrQ qs)) = [] := by
      rw [List.filter_eq_nil_iff]
      intro k hk
      have := cr_near h01 k hk
      have hk2 := cr_lt k hk
      have : k ∈ nrQ qs := List.mem_filter.mpr ⟨List.mem_range.mpr (by omega), this⟩
      simp [this]
    rw [fe, List.map_nil] at f
    have nl := len_N (crQ qs) M''
    have ne0 : bNe (.p (.list [])) (.p (.list [])) M'' = some (B false, M'') := rfl
    have zT : ((crQ qs).map fun k : Nat => PyData.int (k : Int)).length ≤ 16777216 := by rw [List.length_map]; omega
    have gl : ∀ M, bIx (.p (encN (crQ qs))) (I (-1)) M = some (I (((crQ qs).getLast (cr_ne qs) : Nat) : Int), M) := fun M => by
      show bIx (.p (.tuple ((crQ qs).map fun a : Nat => PyData.int (a : Int)))) (I (-1)) M = _
      rw [bIx_t, atI_last _ (by simpa using cr_ne qs), List.getLast?_map, List.getLast?_eq_some_getLast (cr_ne qs)]; rfl
    have g0 : ∀ M, bIx (.p (encN (crQ qs))) (I 0) M = some (I (((crQ qs).head (cr_ne qs) : Nat) : Int), M) := fun M => by
      show bIx (.p (.tuple ((crQ qs).map fun a : Nat => PyData.int (a : Int)))) (I 0) M = _
      have : atI ((crQ qs).map fun a : Nat => PyData.int (a : Int)) 0 = some (.int (((crQ qs).head (cr_ne qs) : Nat) : Int)) := by
        rw [show (0 : Int) = ((0 : Nat) : Int) from rfl, atI_nat, List.getElem?_map, ← List.head?_eq_getElem?, List.head?_eq_some_head (cr_ne qs)]; rfl
      rw [bIx_t, this]; rfl
    have d2 : ¬ ((crQ qs).length : Int) > 2 ∧ ¬ (((crQ qs).getLast (cr_ne qs) : Nat) : Int) - (((crQ qs).head (cr_ne qs) : Nat) : Int) > 1 := by
      rcases cr_few h01 with ⟨a, e⟩ | ⟨a, e⟩
      · simp [e]
      · simp [e]; omega
    have sq : ∀ M, seqV (.p (encN (crQ qs))) M = some ((crQ qs).map fun k : Nat => PyData.int (k : Int), M) := fun _ => rfl
    clear fe el
    generalize [encN (crQ qs), encN (crQ qs), encN (nrQ qs), encN (nrQ qs), F (sumQ qs)] = H at *
    generalize ((nrQ qs).map fun k : Nat => PyData.int (k : Int)) = N at *
    generalize (((crQ qs).getLast (cr_ne qs) : Nat) : Int) = gb at *
    generalize (((crQ qs).head (cr_ne qs) : Nat) : Int) = ga at *
    generalize ((crQ qs).length : Int) = gn at *
    generalize (crQ qs).map (fun k : Nat => PyData.int (k : Int)) = TL at *
    generalize encN (crQ qs) = T at *
    generalize (cntL qs).map F = C at *
    generalize F (sumQ qs) = m at *
    generalize mxC qs = w at *
    generalize qs.map F = U at *
    have d3 : ¬ (2 < gn) := d2.1
    have d4 : ¬ (1 < gb - ga) := d2.2
    simp [-bNe_p, nl, d3, gl, g0, d4, sq, wipeR, zT, f, lstV, pures, ne0]
  have chk2 : (tAndF (tb (eBin bEq (eBin bIx (eVar 10) (eC (.int 1))) (eC (.int 1)))) (tb (eBin bNe (eVar 5) (eTup (aCons (eBin bIx (eVar 10) (eC (.int 0))) aNil))))) [some (.ob r), y1, some (.p (.tuple (qs.map F))), some (.p (F (mxC qs))), u4, some (.p (encN (crQ qs))), some (.p (.list ((nrQ qs).map fun k : Nat => PyData.int (k : Int)))), v7, some (.p (.list [encN (crQ qs), encN (crQ qs), encN (nrQ qs), encN (nrQ qs), F (sumQ qs)])), some (.p (.tuple ((cntL qs).map F))), some (.p (F (sumQ qs))), v11] M'' = some (false, M'') := by
    have bd := bEq_den (sumQ qs) M''
    by_cases hd : (sumQ qs).den = 1
    · obtain ⟨a, e, en⟩ := cr_whole h01 hd
      have al : a < 1024 := crl a (by rw [e]; simp)
      have ne : bNe (.p (encN [a])) (.p (.tuple [.int (sumQ qs).num])) M'' = some (B false, M'') := by
        have s := shp_N [a]
        have s' : shp (.tuple [.int (a : Int)]) = true := s
        rw [en]
        show bNe (.p (.tuple [.int (a : Int)])) (.p (.tuple [.int (a : Int)])) M'' = _
        rw [bNe_p, s']
        simp [PyData.eqv, PyData.eqvAll]
      rw [decide_eq_true hd] at bd
      have i0 := F_ix0 (sumQ qs) M''
      have i1 := F_ix1 (sumQ qs) M''
      rw [e]
      generalize [encN [a], encN [a], encN (nrQ qs), encN (nrQ qs), F (sumQ qs)] = H at *
      generalize ((nrQ qs).map fun k : Nat => PyData.int (k : Int)) = N at *
      generalize encN [a] = T at *
      generalize (cntL qs).map F = C at *
      generalize ((sumQ qs).den : Int) = d at *
      generalize (sumQ qs).num = nu at *
      generalize F (sumQ qs) = m at *
      generalize mxC qs = w at *
      generalize qs.map F = U at *
      simp [-bNe_p, -bEq_p, i0, i1, bd, tupV, pures, ne]
    · rw [decide_eq_false hd] at bd
      have i1 := F_ix1 (sumQ qs) M''
      generalize [encN (crQ qs), encN (crQ qs), encN (nrQ qs), encN (nrQ qs), F (sumQ qs)] = H at *
      generalize ((nrQ qs).map fun k : Nat => PyData.int (k : Int)) = N at *
      generalize encN (crQ qs) = T at *
      generalize (cntL qs).map F = C at *
      generalize ((sumQ qs).den : Int) = d at *
      generalize F (sumQ qs) = m at *
      generalize mxC qs = w at *
      generalize qs.map F = U at *
      simp [-bNe_p, -bEq_p, i1, bd]
  obtain ⟨ρ', M3, e9, hM3, x7, rfl⟩ := forL_map (g := gN 7) (f := b__law_right_2) (fun i : Nat => PyData.int (i : Int)) (fun pre ρ Mx => Mx = M'' ∧ ∃ x7, ρ = [some (.ob r), y1, some (.p (.tuple (qs.map F))), some (.p (F (mxC qs))), u4, some (.p (encN (crQ qs))), some (.p (.list ((nrQ qs).map fun k : Nat => PyData.int (k : Int)))), x7, some (.p (.list [encN (crQ qs), encN (crQ qs), encN (nrQ qs), encN (nrQ qs), F (sumQ qs)])), some (.p (.tuple ((cntL qs).map F))), some (.p (F (sumQ qs))), v11]) (List.range 13) [some (.ob r), y1, some (.p (.tuple (qs.map F))), some (.p (F (mxC qs))), u4, some (.p (encN (crQ qs))), some (.p (.list ((nrQ qs).map fun k : Nat => PyData.int (k : Int)))), v7, some (.p (.list [encN (crQ qs), encN (crQ qs), encN (nrQ qs), encN (nrQ qs), F (sumQ qs)])), some (.p (.tuple ((cntL qs).map F))), some (.p (F (sumQ qs))), v11] M'' ⟨rfl, _, rfl⟩
    (fun pre j ρ Mx hp ⟨hM, x7, hρ⟩ => by
      subst hM hρ
      have hj := List.mem_range.mp (mem_pre hp).1
      have e := crest_turn h hj (r := r) Mx y1 (some (.p (F (mxC qs)))) u4 (some (.p (.list ((nrQ qs).map fun k : Nat => PyData.int (k : Int))))) (some (.p (.list [encN (crQ qs), encN (crQ qs), encN (nrQ qs), encN (nrQ qs), F (sumQ qs)]))) (some (.p (.tuple ((cntL qs).map F)))) (some (.p (F (sumQ qs)))) v11
      exact ⟨_, _, _, _, rfl, .inl e, rfl, _, rfl⟩)
  subst hM3
  have sq9 : ∀ M, seqV (.p (.tuple ((cntL qs).map F))) M = some ((cntL qs).map F, M) := fun _ => rfl
  have et : encN (nrQ qs) = .tuple ((nrQ qs).map fun k : Nat => PyData.int (k : Int)) := rfl
  have ec : encN (crQ qs) = .tuple ((crQ qs).map fun k : Nat => PyData.int (k : Int)) := rfl
  have r14 : ∀ M, rngV (.p (.int 14)) M = some ((List.range 14).map fun i : Nat => PyData.int (i : Int), M) := fun M => rngV_of (n := 14) rfl (by decide) _
  have r13 : ∀ M, rngV (.p (.int 13)) M = some ((List.range 13).map fun i : Nat => PyData.int (i : Int), M) := fun M => rngV_of (n := 13) rfl (by decide) _
  generalize ((List.range 14).map fun i : Nat => PyData.int (i : Int)) = G14 at *
  generalize ((List.range 13).map fun i : Nat => PyData.int (i : Int)) = G13 at *
  refine ⟨some (.p (F (mxC qs))), u4, some (.p (encN (crQ qs))), some (.p (.list ((nrQ qs).map fun k : Nat => PyData.int (k : Int)))), x7, some (.p (.list [encN (crQ qs), encN (crQ qs), encN (nrQ qs), encN (nrQ qs), F (sumQ qs)])), some (.p (.tuple ((cntL qs).map F))), some (.p (F (sumQ qs))), v11, ?_⟩
  clear el hmx n13 sq9
  obtain ⟨H, hH⟩ : ∃ H, H = [encN (crQ qs), encN (crQ qs), encN (nrQ qs), encN (nrQ qs), F (sumQ qs)] := ⟨_, rfl⟩
  rw [← hH] at li chk chk2 e9 ⊢
  rw [et] at hH nm
  rw [ec] at hH cr chk chk2 e6 e9 ⊢
  generalize hN : (nrQ qs).map (fun k : Nat => PyData.int (k : Int)) = N at *
  generalize hT : (crQ qs).map (fun k : Nat => PyData.int (k : Int)) = TL at *
  generalize hEd : enD ((cntL qs).map F) = E at *
  generalize (cntL qs).getD 0 0 = c0 at *
  generalize hC : (cntL qs).map F = C at *
  generalize F (sumQ qs) = m at *
  generalize mxC qs = w at *
  generalize qs.map F = U at *
  unfold b__law_right_3
  refine sSeq_nx (ρ1 := [some (.ob r), y1, some (.p (.tuple U)), y3, y4, y5, y6, y7, y8, some (.p (.tuple C)), some (.p m), y11]) (M1 := M3) (by simp [lc, lt]) ?_
  refine sSeq_nx (ρ1 := [some (.ob r), y1, some (.p (.tuple U)), some (.p (F c0)), y4, y5, y6, y7, y8, some (.p (.tuple C)), some (.p m), y11]) (M1 := M3) (by simp [a0]) ?_
  refine sSeq_nx (ρ1 := [some (.ob r), y1, some (.p (.tuple U)), some (.p (F w)), u4, y5, y6, y7, y8, some (.p (.tuple C)), some (.p m), y11]) (M1 := M3) (by simp [e3]) ?_
  refine sSeq_nx (ρ1 := [some (.ob r), y1, some (.p (.tuple U)), some (.p (F w)), u4, some (.p (.tuple TL)), y6, y7, y8, some (.p (.tuple C)), some (.p m), y11]) (M1 := M3) (by simp [hEd, wipeR, zE, e4, nTuple]) ?_
  refine sSeq_nx (ρ1 := [some (.ob r), y1, some (.p (.tuple U)), some (.p (F w)), u4, some (.p (.tuple TL)), some (.p (.list [])), y7, y8, some (.p (.tuple C)), some (.p m), y11]) (M1 := M3) (by simp [lstV, pures]) ?_
  refine sSeq_nx (ρ1 := [some (.ob r), y1, some (.p (.tuple U)), some (.p (F w)), u4, some (.p (.tuple TL)), some (.p (.list N)), v7, y8, some (.p (.tuple C)), some (.p m), v11]) (M1 := M3) (by simp [-rngV_i, r14, e6]) ?_
  refine sSeq_nx (ρ1 := [some (.ob r), y1, some (.p (.tuple U)), some (.p (F w)), u4, some (.p (.tuple TL)), some (.p (.list N)), v7, some (.p (.list H)), some (.p (.tuple C)), some (.p m), v11]) (M1 := M3) (by simp [cr, nm, mm, pick, lstV, pures, hH]) ?_
  refine sSeq_nx (ρ1 := [some (.ob r), y1, some (.p (.tuple U)), some (.p (F w)), u4, some (.p (.tuple TL)), some (.p (.list N)), v7, some (.p (.list H)), some (.p (.tuple C)), some (.p m), v11]) (M1 := M3) (by
    have li2 : fn__law_is [.p (.list H), .p (.list [.tuple TL, .tuple TL, .tuple N, .tuple N, m])] M3 = some (B true, M3) := by rw [← hH]; exact li
    simp [nTuple, lstV, pures, li2]) ?_
  refine sSeq_nx (ρ1 := [some (.ob r), y1, some (.p (.tuple U)), some (.p (F w)), u4, some (.p (.tuple TL)), some (.p (.list N)), v7, some (.p (.list H)), some (.p (.tuple C)), some (.p m), v11]) (M1 := M3) (by rw [sIf_run, chk]; simp) ?_
  refine sSeq_nx (ρ1 := [some (.ob r), y1, some (.p (.tuple U)), some (.p (F w)), u4, some (.p (.tuple TL)), some (.p (.list N)), v7, some (.p (.list H)), some (.p (.tuple C)), some (.p m), v11]) (M1 := M3) (by rw [sIf_run, chk2]; simp) ?_
  simp [-rngV_i, r13, e9]
theorem turn_ok {r : Nat} {M : Sto} (hM : At r M) (y1 y2 y3 y4 y5 y6 y7 y8 y9 y10 y11 : Option Val) : ∃ M1 z2 z3 z4 z5 z6 z7 z8 z9 z10 z11, At r M1 ∧ b__law_right_4 [some (.ob r), y1, y2, y3, y4, y5, y6, y7, y8, y9, y10, y11] M = some (.nx, [some (.ob r), y1, z2, z3, z4, z5, z6, z7, z8, z9, z10, z11], M1) := by
  obtain ⟨v1, Ma, s1, ⟨qs, rfl, hl, h4⟩, e1⟩ := row_ok hM (most := 8) (by omega) (by omega)
  have a1 := s1.at hM
  obtain ⟨v2, Mb, s2, ⟨rs, rfl, hr, h5⟩, e2⟩ := law_whole_ok a1
  have a2 := s2.at a1
  obtain ⟨ρ', M', e, hM', z2, z3, z4, z5, z6, z7, z8, z9, z10, z11, rfl⟩ := forL_map (g := gN 2) (f := b__law_right_3) (fun qs : List Rat => PyData.tuple (qs.map F)) (fun _ ρ Mx => Mx = Mb ∧ ∃ z2 z3 z4 z5 z6 z7 z8 z9 z10 z11, ρ = [some (.ob r), y1, z2, z3, z4, z5, z6, z7, z8, z9, z10, z11]) [qs, rs] [some (.ob r), y1, y2, y3, y4, y5, y6, y7, y8, y9, y10, y11] Mb ⟨rfl, y2, y3, y4, y5, y6, y7, y8, y9, y10, y11, rfl⟩
    (fun pre ps ρ Mx hp ⟨hM, z2, z3, z4, z5, z6, z7, z8, z9, z10, z11, hρ⟩ => by
      subst hM hρ
      have hm := (mem_pre hp).1
      have hp4 : (∀ q ∈ ps, Ch q) ∧ ps.length ≤ 8 := by
        simp only [List.mem_cons, List.not_mem_nil, or_false] at hm
        rcases hm with rfl | rfl
        · exact ⟨h4, by omega⟩
        · exact ⟨h5, by omega⟩
      obtain ⟨w3, w4, w5, w6, w7, w8, w9, w10, w11, e⟩ := row_turn hp4.1 hp4.2 (r := r) Mx y1 z3 z4 z5 z6 z7 z8 z9 z10 z11
      exact ⟨_, _, _, _, rfl, .inl e, rfl, _, _, _, _, _, _, _, _, _, _, rfl⟩)
  subst hM'
  have e' : forL (gN 2) b__law_right_3 [.tuple (qs.map F), .tuple (rs.map F)] _ M' = _ := e
  refine ⟨M', z2, z3, z4, z5, z6, z7, z8, z9, z10, z11, a2, ?_⟩
  generalize qs.map F = U at *
  generalize rs.map F = V at *
  unfold b__law_right_4
  simp [e1, e2, tupV, pures, e']
theorem right_ok (r : Nat) (M : Sto) (hM : At r M) : ∃ M1, fn__law_right [.ob r] M = some (B true, M1) := by
  obtain ⟨ρ', Mx, e, aX, z1, z2, z3, z4, z5, z6, z7, z8, z9, z10, z11, rfl⟩ := forL_run (g := gN 1) (f := b__law_right_4) (fun _ ρ M' => At r M' ∧ ∃ z1 z2 z3 z4 z5 z6 z7 z8 z9 z10 z11, ρ = [some (.ob r), z1, z2, z3, z4, z5, z6, z7, z8, z9, z10, z11]) (rangeD 0 5) 0 [some (.ob r), none, none, none, none, none, none, none, none, none, none, none] M ⟨hM, _, _, _, _, _, _, _, _, _, _, _, rfl⟩
    (fun i x ρ M1 hx ⟨h1, z1, z2, z3, z4, z5, z6, z7, z8, z9, z10, z11, hρ⟩ => by
      subst hρ
      obtain ⟨M2, w2, w3, w4, w5, w6, w7, w8, w9, w10, w11, a, e⟩ := turn_ok h1 (some (.p x)) z2 z3 z4 z5 z6 z7 z8 z9 z10 z11
      exact ⟨_, _, _, _, rfl, .inl e, a, _, _, _, _, _, _, _, _, _, _, _, rfl⟩)
  have i5 : i62 5 = true := by decide
  refine ⟨Mx.take M.length, ?_⟩
  unfold fn__law_right m__law_right
  simp [i5, e]



theorem law_pure (ns : List Int) (hl : ns.length ≤ 63) (_ : ∀ z ∈ ns, Builtin.Int.intBits z ≤ 1048576) : ∃ M, fn_law [.p (.list (ns.map .int))] [] = some (.p (.bool true), M) := by
  obtain ⟨ds, M1, e, bs, rfl, hb⟩ := laps_ok right_ok l_law_0 fn__law_well (by rfl) ns (fun lap M => well_ok ns lap M) (max 1 (min ns.length 3)) none
  have hall : bs.all id = true := List.all_eq_true.mpr fun b h => by simpa using hb b h
  have hk : i62 (if 1 < (if 3 < (ns.length : Int) then (3 : Int) else ns.length) then (if 3 < (ns.length : Int) then (3 : Int) else ns.length) else 1) = true := by
    apply i62_int <;> (split <;> split <;> omega)
  have hn : (if 1 < (if 3 < (ns.length : Int) then (3 : Int) else ns.length) then (if 3 < (ns.length : Int) then (3 : Int) else ns.length) else 1).toNat = max 1 (min ns.length 3) := by
    split <;> split <;> omega
  refine ⟨M1.take 0, ?_⟩
  unfold fn_law m_law
  have hz : max 1 (min ns.length 3) ≤ 16777216 := by omega
  simp [nMin, hk, hn, wipeR, e, hz, nAll, bools_map, hall]

section
variable {Pr : Program} {w : World} {P : Par} {mg : Str → Option Value} {base : Heap} {fa : Addr} {fd : FuncData}
theorem g41 (F : FunD P.K "_law_draw" "_law_draw" (defArgs s41) (defBody s41) (defScope s41) [] [] fa fd) (h_divmod : mg "divmod" = none) (h_int : mg "int" = none) : FnG Pr w P.K mg base CX0 1 fa fd ["well", "limit"] (spOf P 2 fn__law_draw) :=
  fnG_nox (k := 0) (f := m__law_draw) (n := 2) (nn := 4) finF_ok F sc41 rfl rfl fun cdv A outer s H E hr hgd => by
    refine as_cons ?_ ?_
    refine as_if ?_ ?_ ?_
    refine at_cmp c_gt ?_ ?_
    refine ae_ix ?_ ?_
    exact av 0
    exact a_int
    exact a_int
    refine as_cons ?_ ?_
    refine as_asg (vs := [3]) ?_ ?_
    refine ae_cb b_divmod h_divmod ?_
    refine aa_cons ?_ ?_
    refine ae_ix ?_ ?_
    exact av 0
    exact a_int
    refine aa_cons ?_ ?_
    exact av 1
    exact aa_nil
    refine ag_tup (n := 2) rfl ?_
    refine ags_cons ?_ ?_
    refine ag_ix ?_ ?_
    exact av 0
    exact a_int
    refine ags_cons ?_ ?_
    exact ag_name (i := 3) sc41.nd
    exact ags_nil
    refine as_one ?_
    refine as_ret ?_
    exact av 3
    exact as_nil
    refine as_cons ?_ ?_
    refine as_asg (vs := []) ?_ ?_
    refine a_add ?_ ?_
    refine ae_ix ?_ ?_
    exact av 0
    exact a_int
    exact a_int
    refine ag_ix ?_ ?_
    exact av 0
    exact a_int
    refine as_cons ?_ ?_
    refine as_set sc41.nd (i := 2) ?_
    refine a_mod ?_ ?_
    refine ae_ct b_int h_int ?_
    refine aa_cons ?_ ?_
    refine a_add ?_ ?_
    refine a_mul ?_ ?_
    refine ae_ix ?_ ?_
    exact av 0
    exact a_int
    exact a_int
    refine a_mul ?_ ?_
    exact a_int
    refine ae_ix ?_ ?_
    exact av 0
    exact a_int
    exact aa_nil
    exact a_int
    refine as_cons ?_ ?_
    refine as_asg (vs := []) ?_ ?_
    refine a_mod ?_ ?_
    refine ae_ct b_int h_int ?_
    refine aa_cons ?_ ?_
    refine a_add ?_ ?_
    refine a_mul ?_ ?_
    exact av 2
    refine a_add ?_ ?_
    refine a_mod ?_ ?_
    refine ae_ct b_int h_int ?_
    refine aa_cons ?_ ?_
    exact av 2
    exact aa_nil
    exact a_int
    exact a_int
    refine ae_ix ?_ ?_
    exact av 0
    exact a_int
    exact aa_nil
    exact a_int
    refine ag_ix ?_ ?_
    exact av 0
    exact a_int
    refine as_one ?_
    refine as_ret ?_
    refine a_mod ?_ ?_
    refine ae_ct b_int h_int ?_
    refine aa_cons ?_ ?_
    refine a_div ?_ ?_
    refine ae_ix ?_ ?_
    exact av 0
    exact a_int
    exact a_int
    exact aa_nil
    exact av 1
theorem g42 (F : FunD P.K "_law_of" "_law_of" (defArgs s42) (defBody s42) (defScope s42) [] [] fa fd) (c__law_draw : Gd Pr w P mg base 1 "_law_draw" 2 [] fn__law_draw) (h_len : mg "len" = none) : FnG Pr w P.K mg base CX0 2 fa fd ["well", "some"] (spOf P 2 fn__law_of) :=
  fnG_nox (k := 1) (f := m__law_of) (n := 2) (nn := 2) finF_ok F sc42 rfl rfl fun cdv A outer s H E hr hgd => by
    refine as_one ?_
    refine as_ret ?_
    refine ae_ix ?_ ?_
    exact av 1
    refine ae_call c__law_draw (hr.mono (by decide)) hgd ?_
    refine aa_cons ?_ ?_
    exact av 0
    refine aa_cons ?_ ?_
    refine ae_cb b_len h_len ?_
    refine aa_cons ?_ ?_
    exact av 1
    exact aa_nil
    exact aa_nil
theorem g45 (F : FunD P.K "_law_cut" "_law_cut" (defArgs s45) (defBody s45) (defScope s45) [] [] fa fd) (h_abs : mg "abs" = none) : FnG Pr w P.K mg base CX0 1 fa fd ["number", "scale"] (spOf P 2 fn__law_cut) :=
  fnG_nox (k := 0) (f := m__law_cut) (n := 2) (nn := 4) finF_ok F sc45 rfl rfl fun cdv A outer s H E hr hgd => by
    refine as_cons ?_ ?_
    refine as_par sc45.nd (i := 2) (j := 3) ?_
    refine aa_cons ?_ ?_
    refine ae_cb b_abs h_abs ?_
    refine aa_cons ?_ ?_
    exact av 0
    exact aa_nil
    refine aa_cons ?_ ?_
    exact av 1
    exact aa_nil
    refine as_cons ?_ ?_
    refine as_while ?_ ?_ PassesOwn.never
    refine at_cmp c_gt ?_ ?_
    exact av 3
    exact a_int
    refine as_one ?_
    refine as_par sc45.nd (i := 2) (j := 3) ?_
    refine aa_cons ?_ ?_
    exact av 3
    refine aa_cons ?_ ?_
    refine a_sub ?_ ?_
    exact av 2
    refine a_mul ?_ ?_
    exact av 3
    refine a_div ?_ ?_
    exact av 2
    exact av 3
    exact aa_nil
    refine as_one ?_
    refine as_ret ?_
    refine ae_tup ?_
    refine aa_cons ?_ ?_
    refine a_div ?_ ?_
    exact av 0
    exact av 2
    refine aa_cons ?_ ?_
    refine a_div ?_ ?_
    exact av 1
    exact av 2
    exact aa_nil
theorem g51 (F : FunD P.K "_law_chance" "_law_chance" (defArgs s51) (defBody s51) (defScope s51) [] [] fa fd) (c__law_draw : Gd Pr w P mg base 1 "_law_draw" 2 [] fn__law_draw) (c__law_of : Gd Pr w P mg base 2 "_law_of" 2 [] fn__law_of) (c__law_cut : Gd Pr w P mg base 1 "_law_cut" 2 [] fn__law_cut) : FnG Pr w P.K mg base CX0 3 fa fd ["well"] (spOf P 1 fn__law_chance) :=
  fnG_nox (k := 2) (f := m__law_chance) (n := 1) (nn := 2) finF_ok F sc51 rfl rfl fun cdv A outer s H E hr hgd => by
    refine as_cons ?_ ?_
    refine as_set sc51.nd (i := 1) ?_
    refine a_add ?_ ?_
    exact a_int
    refine ae_call c__law_draw (hr.mono (by decide)) hgd ?_
    refine aa_cons ?_ ?_
    exact av 0
    refine aa_cons ?_ ?_
    refine ae_call c__law_of (hr.mono (by decide)) hgd ?_
    refine aa_cons ?_ ?_
    exact av 0
    refine aa_cons ?_ ?_
    refine ae_tup ?_
    refine aa_cons ?_ ?_
    exact a_int
    refine aa_cons ?_ ?_
    exact a_int
    refine aa_cons ?_ ?_
    exact a_int
    exact aa_nil
    exact aa_nil
    exact aa_nil
    refine as_one ?_
    refine as_ret ?_
    refine ae_call c__law_cut (hr.mono (by decide)) hgd ?_
    refine aa_cons ?_ ?_
    refine ae_call c__law_draw (hr.mono (by decide)) hgd ?_
    refine aa_cons ?_ ?_
    exact av 0
    refine aa_cons ?_ ?_
    exact av 1
    exact aa_nil
    refine aa_cons ?_ ?_
    exact av 1
    exact aa_nil
theorem g52 (F : FunD P.K "_law_row" "_law_row" (defArgs s52) (defBody s52) (defScope s52) [] [] fa fd) (h_range : mg "range" = none) (c__law_chance : Gd Pr w P mg base 3 "_law_chance" 1 [] fn__law_chance) (c__law_draw : Gd Pr w P mg base 1 "_law_draw" 2 [] fn__law_draw) (c__law_of : Gd Pr w P mg base 2 "_law_of" 2 [] fn__law_of) (h_tuple : mg "tuple" = none) : FnG Pr w P.K mg base CX0 4 fa fd ["well", "most"] (spOf P 2 fn__law_row) :=
  fnG_nox (k := 3) (f := m__law_row) (n := 2) (nn := 5) finF_ok F sc52 rfl rfl fun cdv A outer s H E hr hgd => by
    refine as_cons ?_ ?_
    refine as_setLc (i := 2) (own := [("lap", 4)]) sc52.nd ?_ (blkOk_by (by kernel_rfl)) (fun _ _ _ _ _ => ?_) (fun _ _ _ _ _ => ?_) (fun _ _ _ _ _ => ?_) (sw_true rfl rfl rfl (by kernel_rfl))
    refine ai_range1 h_range ?_
    exact a_int
    exact ag_name (i := 4) sc52.nd
    exact ats_nil
    refine ae_call c__law_chance (hr.mono (by decide)) hgd ?_
    refine aa_cons ?_ ?_
    exact av 0
    exact aa_nil
    refine as_cons ?_ ?_
    refine as_set sc52.nd (i := 3) ?_
    refine ae_lstM ?_
    exact aa_nil
    refine as_cons ?_ ?_
    refine as_for (vs := [4]) ?_ ?_ ?_ PassesOwn.never
    refine ai_range1 h_range ?_
    refine ae_call c__law_draw (hr.mono (by decide)) hgd ?_
    refine aa_cons ?_ ?_
    exact av 0
    refine aa_cons ?_ ?_
    refine a_add ?_ ?_
    exact av 1
    exact a_int
    exact aa_nil
    exact ag_name (i := 4) sc52.nd
    refine as_one ?_
    refine as_ex ?_
    refine ae_app ?_ ?_
    exact av 3
    refine aa_cons ?_ ?_
    refine ae_if ?_ ?_ ?_
    refine at_cmp (c_eq hr) ?_ ?_
    refine ae_call c__law_draw (hr.mono (by decide)) hgd ?_
    refine aa_cons ?_ ?_
    exact av 0
    refine aa_cons ?_ ?_
    exact a_int
    exact aa_nil
    exact a_int
    refine ae_call c__law_of (hr.mono (by decide)) hgd ?_
    refine aa_cons ?_ ?_
    exact av 0
    refine aa_cons ?_ ?_
    exact av 2
    exact aa_nil
    refine ae_call c__law_chance (hr.mono (by decide)) hgd ?_
    refine aa_cons ?_ ?_
    exact av 0
    exact aa_nil
    exact aa_nil
    refine as_one ?_
    refine as_ret ?_
    refine ae_ct b_tuple h_tuple ?_
    refine aa_cons ?_ ?_
    exact av 3
    exact aa_nil
theorem g49 (F : FunD P.K "_law_rest" "_law_rest" (defArgs s49) (defBody s49) (defScope s49) [] [] fa fd)  : FnG Pr w P.K mg base CX0 1 fa fd ["chance"] (spOf P 1 fn__law_rest) :=
  fnG_nox (k := 0) (f := m__law_rest) (n := 1) (nn := 1) finF_ok F sc49 rfl rfl fun cdv A outer s H E hr hgd => by
    refine as_one ?_
    refine as_ret ?_
    refine ae_tup ?_
    refine aa_cons ?_ ?_
    refine a_sub ?_ ?_
    refine ae_ix ?_ ?_
    exact av 0
    exact a_int
    refine ae_ix ?_ ?_
    exact av 0
    exact a_int
    refine aa_cons ?_ ?_
    refine ae_ix ?_ ?_
    exact av 0
    exact a_int
    exact aa_nil
theorem g43 (F : FunD P.K "_law_mixed" "_law_mixed" (defArgs s43) (defBody s43) (defScope s43) [] [] fa fd) (h_list : mg "list" = none) (h_range : mg "range" = none) (h_len : mg "len" = none) (c__law_draw : Gd Pr w P mg base 1 "_law_draw" 2 [] fn__law_draw) : FnG Pr w P.K mg base CX0 2 fa fd ["well", "some"] (spOf P 2 fn__law_mixed) :=
  fnG_nox (k := 1) (f := m__law_mixed) (n := 2) (nn := 5) finF_ok F sc43 rfl rfl fun cdv A outer s H E hr hgd => by
    refine as_cons ?_ ?_
    refine as_par sc43.nd (i := 3) (j := 4) ?_
    refine aa_cons ?_ ?_
    refine ae_ct b_listM h_list ?_
    refine aa_cons ?_ ?_
    exact av 1
    exact aa_nil
    refine aa_cons ?_ ?_
    refine ae_lstM ?_
    exact aa_nil
    exact aa_nil
    refine as_cons ?_ ?_
    refine as_for (vs := [2]) ?_ ?_ ?_ PassesOwn.never
    refine ai_range1 h_range ?_
    refine ae_cb b_len h_len ?_
    refine aa_cons ?_ ?_
    exact av 1
    exact aa_nil
    exact ag_name (i := 2) sc43.nd
    refine as_one ?_
    refine as_ex ?_
    refine ae_app ?_ ?_
    exact av 4
    refine aa_cons ?_ ?_
    refine ae_pop ?_ ?_
    exact av 3
    refine aa_cons ?_ ?_
    refine ae_call c__law_draw (hr.mono (by decide)) hgd ?_
    refine aa_cons ?_ ?_
    exact av 0
    refine aa_cons ?_ ?_
    refine ae_cb b_len h_len ?_
    refine aa_cons ?_ ?_
    exact av 3
    exact aa_nil
    exact aa_nil
    exact aa_nil
    exact aa_nil
    refine as_one ?_
    refine as_ret ?_
    exact av 4
theorem g56 (F : FunD P.K "_law_whole" "_law_whole" (defArgs s56) (defBody s56) (defScope s56) [] [] fa fd) (h_range : mg "range" = none) (c__law_draw : Gd Pr w P mg base 1 "_law_draw" 2 [] fn__law_draw) (c__law_chance : Gd Pr w P mg base 3 "_law_chance" 1 [] fn__law_chance) (c__law_rest : Gd Pr w P mg base 1 "_law_rest" 1 [] fn__law_rest) (h_tuple : mg "tuple" = none) (c__law_mixed : Gd Pr w P mg base 2 "_law_mixed" 2 [] fn__law_mixed) : FnG Pr w P.K mg base CX0 4 fa fd ["well"] (spOf P 1 fn__law_whole) :=
  fnG_nox (k := 3) (f := m__law_whole) (n := 1) (nn := 4) finF_ok F sc56 rfl rfl fun cdv A outer s H E hr hgd => by
    refine as_cons ?_ ?_
    refine as_set sc56.nd (i := 1) ?_
    refine ae_lst ?_
    exact aa_nil
    refine as_cons ?_ ?_
    refine as_for (vs := [2]) ?_ ?_ ?_ PassesOwn.never
    refine ai_range1 h_range ?_
    refine a_add ?_ ?_
    exact a_int
    refine ae_call c__law_draw (hr.mono (by decide)) hgd ?_
    refine aa_cons ?_ ?_
    exact av 0
    refine aa_cons ?_ ?_
    exact a_int
    exact aa_nil
    exact ag_name (i := 2) sc56.nd
    refine as_cons ?_ ?_
    refine as_set sc56.nd (i := 3) ?_
    refine ae_call c__law_chance (hr.mono (by decide)) hgd ?_
    refine aa_cons ?_ ?_
    exact av 0
    exact aa_nil
    refine as_one ?_
    refine as_set sc56.nd (i := 1) ?_
    refine a_add ?_ ?_
    exact av 1
    refine ae_if ?_ ?_ ?_
    refine at_cmp c_gt ?_ ?_
    refine ae_ix ?_ ?_
    exact av 3
    exact a_int
    exact a_int
    refine ae_lst ?_
    refine aa_cons ?_ ?_
    exact av 3
    refine aa_cons ?_ ?_
    refine ae_call c__law_rest (hr.mono (by decide)) hgd ?_
    refine aa_cons ?_ ?_
    exact av 3
    exact aa_nil
    exact aa_nil
    refine ae_lst ?_
    refine aa_cons ?_ ?_
    refine ae_tup ?_
    refine aa_cons ?_ ?_
    exact a_int
    refine aa_cons ?_ ?_
    exact a_int
    exact aa_nil
    refine aa_cons ?_ ?_
    refine ae_tup ?_
    refine aa_cons ?_ ?_
    exact a_int
    refine aa_cons ?_ ?_
    exact a_int
    exact aa_nil
    exact aa_nil
    refine as_one ?_
    refine as_ret ?_
    refine ae_ct b_tuple h_tuple ?_
    refine aa_cons ?_ ?_
    refine ae_call c__law_mixed (hr.mono (by decide)) hgd ?_
    refine aa_cons ?_ ?_
    exact av 0
    refine aa_cons ?_ ?_
    exact av 1
    exact aa_nil
    exact aa_nil
theorem g48 (F : FunD P.K "_law_times" "_law_times" (defArgs s48) (defBody s48) (defScope s48) [] [] fa fd) (c__law_cut : Gd Pr w P mg base 1 "_law_cut" 2 [] fn__law_cut) : FnG Pr w P.K mg base CX0 2 fa fd ["one", "two"] (spOf P 2 fn__law_times) :=
  fnG_nox (k := 1) (f := m__law_times) (n := 2) (nn := 2) finF_ok F sc48 rfl rfl fun cdv A outer s H E hr hgd => by
    refine as_one ?_
    refine as_ret ?_
    refine ae_call c__law_cut (hr.mono (by decide)) hgd ?_
    refine aa_cons ?_ ?_
    refine a_mul ?_ ?_
    refine ae_ix ?_ ?_
    exact av 0
    exact a_int
    refine ae_ix ?_ ?_
    exact av 1
    exact a_int
    refine aa_cons ?_ ?_
    refine a_mul ?_ ?_
    refine ae_ix ?_ ?_
    exact av 0
    exact a_int
    refine ae_ix ?_ ?_
    exact av 1
    exact a_int
    exact aa_nil
theorem g53 (F : FunD P.K "_law_courses" "_law_courses" (defArgs s53) (defBody s53) (defScope s53) [] [] fa fd) (h_enumerate : mg "enumerate" = none) (c__law_times : Gd Pr w P mg base 2 "_law_times" 2 [] fn__law_times) (c__law_rest : Gd Pr w P mg base 1 "_law_rest" 1 [] fn__law_rest) : FnG Pr w P.K mg base CX0 3 fa fd ["row"] (spOf P 1 fn__law_courses) :=
  fnG_nox (k := 2) (f := m__law_courses) (n := 1) (nn := 7) finF_ok F sc53 rfl rfl fun cdv A outer s H E hr hgd => by
    refine as_cons ?_ ?_
    refine as_set sc53.nd (i := 1) ?_
    refine ae_lst ?_
    refine aa_cons ?_ ?_
    refine ae_tup ?_
    refine aa_cons ?_ ?_
    refine ae_tup ?_
    exact aa_nil
    refine aa_cons ?_ ?_
    refine ae_tup ?_
    refine aa_cons ?_ ?_
    exact a_int
    refine aa_cons ?_ ?_
    exact a_int
    exact aa_nil
    exact aa_nil
    exact aa_nil
    refine as_cons ?_ ?_
    refine as_for (vs := [2, 3]) ?_ ?_ ?_ PassesOwn.never
    refine ai_enum h_enumerate ?_
    exact av 0
    refine ag_tup (n := 2) rfl ?_
    refine ags_cons ?_ ?_
    exact ag_name (i := 2) sc53.nd
    refine ags_cons ?_ ?_
    exact ag_name (i := 3) sc53.nd
    exact ags_nil
    refine as_cons ?_ ?_
    refine as_setLc (i := 4) (own := [("own", 5), ("part", 6)]) sc53.nd ?_ (blkOk_by (by kernel_rfl)) (fun _ _ _ _ _ => ?_) (fun _ _ _ _ _ => ?_) (fun _ _ _ _ _ => ?_) (sw_true rfl rfl rfl (by kernel_rfl))
    refine ai_seq ?_
    exact av 1
    refine ag_tup (n := 2) rfl ?_
    refine ags_cons ?_ ?_
    exact ag_name (i := 5) sc53.nd
    refine ags_cons ?_ ?_
    exact ag_name (i := 6) sc53.nd
    exact ags_nil
    exact ats_nil
    refine ae_tup ?_
    refine aa_cons ?_ ?_
    exact av 5
    refine aa_cons ?_ ?_
    refine ae_call c__law_times (hr.mono (by decide)) hgd ?_
    refine aa_cons ?_ ?_
    exact av 6
    refine aa_cons ?_ ?_
    refine ae_call c__law_rest (hr.mono (by decide)) hgd ?_
    refine aa_cons ?_ ?_
    exact av 3
    exact aa_nil
    exact aa_nil
    exact aa_nil
    refine as_one ?_
    refine as_set sc53.nd (i := 1) ?_
    refine a_add ?_ ?_
    exact av 4
    refine ae_lc (own := [("own", 5), ("part", 6)]) sc53.nd ?_ (blkOk_by (by kernel_rfl)) (fun _ _ _ _ _ => ?_) (fun _ _ _ _ _ => ?_) (fun _ _ _ _ _ => ?_)
    refine ai_seq ?_
    exact av 1
    refine ag_tup (n := 2) rfl ?_
    refine ags_cons ?_ ?_
    exact ag_name (i := 5) sc53.nd
    refine ags_cons ?_ ?_
    exact ag_name (i := 6) sc53.nd
    exact ags_nil
    exact ats_nil
    refine ae_tup ?_
    refine aa_cons ?_ ?_
    refine a_add ?_ ?_
    exact av 5
    refine ae_tup ?_
    refine aa_cons ?_ ?_
    exact av 2
    exact aa_nil
    refine aa_cons ?_ ?_
    refine ae_call c__law_times (hr.mono (by decide)) hgd ?_
    refine aa_cons ?_ ?_
    exact av 6
    refine aa_cons ?_ ?_
    exact av 3
    exact aa_nil
    exact aa_nil
    refine as_one ?_
    refine as_ret ?_
    exact av 1
theorem g46 (F : FunD P.K "_law_sum_of" "_law_sum_of" (defArgs s46) (defBody s46) (defScope s46) [] [] fa fd) (c__law_cut : Gd Pr w P mg base 1 "_law_cut" 2 [] fn__law_cut) : FnG Pr w P.K mg base CX0 2 fa fd ["one", "two"] (spOf P 2 fn__law_sum_of) :=
  fnG_nox (k := 1) (f := m__law_sum_of) (n := 2) (nn := 2) finF_ok F sc46 rfl rfl fun cdv A outer s H E hr hgd => by
    refine as_one ?_
    refine as_ret ?_
    refine ae_call c__law_cut (hr.mono (by decide)) hgd ?_
    refine aa_cons ?_ ?_
    refine a_add ?_ ?_
    refine a_mul ?_ ?_
    refine ae_ix ?_ ?_
    exact av 0
    exact a_int
    refine ae_ix ?_ ?_
    exact av 1
    exact a_int
    refine a_mul ?_ ?_
    refine ae_ix ?_ ?_
    exact av 1
    exact a_int
    refine ae_ix ?_ ?_
    exact av 0
    exact a_int
    refine aa_cons ?_ ?_
    refine a_mul ?_ ?_
    refine ae_ix ?_ ?_
    exact av 0
    exact a_int
    refine ae_ix ?_ ?_
    exact av 1
    exact a_int
    exact aa_nil
theorem g54 (F : FunD P.K "_law_counts" "_law_counts" (defArgs s54) (defBody s54) (defScope s54) [] [] fa fd) (h_range : mg "range" = none) (h_len : mg "len" = none) (c__law_courses : Gd Pr w P mg base 3 "_law_courses" 1 [] fn__law_courses) (c__law_sum_of : Gd Pr w P mg base 2 "_law_sum_of" 2 [] fn__law_sum_of) (h_tuple : mg "tuple" = none) : FnG Pr w P.K mg base CX0 4 fa fd ["row"] (spOf P 1 fn__law_counts) :=
  fnG_nox (k := 3) (f := m__law_counts) (n := 1) (nn := 5) finF_ok F sc54 rfl rfl fun cdv A outer s H E hr hgd => by
    refine as_cons ?_ ?_
    refine as_setLcM (i := 1) (own := [("at", 4)]) sc54.nd ?_ (blkOk_by (by kernel_rfl)) (fun _ _ _ _ _ => ?_) (fun _ _ _ _ _ => ?_) (fun _ _ _ _ _ => ?_) (sw_true rfl rfl rfl (by kernel_rfl))
    refine ai_range1 h_range ?_
    refine a_add ?_ ?_
    refine ae_cb b_len h_len ?_
    refine aa_cons ?_ ?_
    exact av 0
    exact aa_nil
    exact a_int
    exact ag_name (i := 4) sc54.nd
    exact ats_nil
    refine ae_tup ?_
    refine aa_cons ?_ ?_
    exact a_int
    refine aa_cons ?_ ?_
    exact a_int
    exact aa_nil
    refine as_cons ?_ ?_
    refine as_for (vs := [2, 3]) ?_ ?_ ?_ PassesOwn.never
    refine ai_seq ?_
    refine ae_call c__law_courses (hr.mono (by decide)) hgd ?_
    refine aa_cons ?_ ?_
    exact av 0
    exact aa_nil
    refine ag_tup (n := 2) rfl ?_
    refine ags_cons ?_ ?_
    exact ag_name (i := 2) sc54.nd
    refine ags_cons ?_ ?_
    exact ag_name (i := 3) sc54.nd
    exact ags_nil
    refine as_one ?_
    refine as_asg (vs := []) ?_ ?_
    refine ae_call c__law_sum_of (hr.mono (by decide)) hgd ?_
    refine aa_cons ?_ ?_
    refine ae_ix ?_ ?_
    exact av 1
    refine ae_cb b_len h_len ?_
    refine aa_cons ?_ ?_
    exact av 2
    exact aa_nil
    refine aa_cons ?_ ?_
    exact av 3
    exact aa_nil
    refine ag_ix ?_ ?_
    exact av 1
    refine ae_cb b_len h_len ?_
    refine aa_cons ?_ ?_
    exact av 2
    exact aa_nil
    refine as_one ?_
    refine as_ret ?_
    refine ae_ct b_tuple h_tuple ?_
    refine aa_cons ?_ ?_
    exact av 1
    exact aa_nil
theorem g55 (F : FunD P.K "_law_together" "_law_together" (defArgs s55) (defBody s55) (defScope s55) [] [] fa fd) (c__law_sum_of : Gd Pr w P mg base 2 "_law_sum_of" 2 [] fn__law_sum_of) : FnG Pr w P.K mg base CX0 3 fa fd ["some"] (spOf P 1 fn__law_together) :=
  fnG_nox (k := 2) (f := m__law_together) (n := 1) (nn := 3) finF_ok F sc55 rfl rfl fun cdv A outer s H E hr hgd => by
    refine as_cons ?_ ?_
    refine as_set sc55.nd (i := 1) ?_
    refine ae_tup ?_
    refine aa_cons ?_ ?_
    exact a_int
    refine aa_cons ?_ ?_
    exact a_int
    exact aa_nil
    refine as_cons ?_ ?_
    refine as_for (vs := [2]) ?_ ?_ ?_ PassesOwn.never
    refine ai_seq ?_
    exact av 0
    exact ag_name (i := 2) sc55.nd
    refine as_one ?_
    refine as_set sc55.nd (i := 1) ?_
    refine ae_call c__law_sum_of (hr.mono (by decide)) hgd ?_
    refine aa_cons ?_ ?_
    exact av 1
    refine aa_cons ?_ ?_
    exact av 2
    exact aa_nil
    refine as_one ?_
    refine as_ret ?_
    exact av 1
theorem g50 (F : FunD P.K "_law_below" "_law_below" (defArgs s50) (defBody s50) (defScope s50) [] [] fa fd)  : FnG Pr w P.K mg base CX0 1 fa fd ["one", "two"] (spOf P 2 fn__law_below) :=
  fnG_nox (k := 0) (f := m__law_below) (n := 2) (nn := 2) finF_ok F sc50 rfl rfl fun cdv A outer s H E hr hgd => by
    refine as_one ?_
    refine as_ret ?_
    refine ae_cmp c_lt ?_ ?_
    refine a_mul ?_ ?_
    refine ae_ix ?_ ?_
    exact av 0
    exact a_int
    refine ae_ix ?_ ?_
    exact av 1
    exact a_int
    refine a_mul ?_ ?_
    refine ae_ix ?_ ?_
    exact av 1
    exact a_int
    refine ae_ix ?_ ?_
    exact av 0
    exact a_int
theorem g47 (F : FunD P.K "_law_less" "_law_less" (defArgs s47) (defBody s47) (defScope s47) [] [] fa fd) (c__law_sum_of : Gd Pr w P mg base 2 "_law_sum_of" 2 [] fn__law_sum_of) : FnG Pr w P.K mg base CX0 3 fa fd ["one", "two"] (spOf P 2 fn__law_less) :=
  fnG_nox (k := 2) (f := m__law_less) (n := 2) (nn := 2) finF_ok F sc47 rfl rfl fun cdv A outer s H E hr hgd => by
    refine as_one ?_
    refine as_ret ?_
    refine ae_call c__law_sum_of (hr.mono (by decide)) hgd ?_
    refine aa_cons ?_ ?_
    exact av 0
    refine aa_cons ?_ ?_
    refine ae_tup ?_
    refine aa_cons ?_ ?_
    refine a_sub ?_ ?_
    exact a_int
    refine ae_ix ?_ ?_
    exact av 1
    exact a_int
    refine aa_cons ?_ ?_
    refine ae_ix ?_ ?_
    exact av 1
    exact a_int
    exact aa_nil
    exact aa_nil
theorem g6 {K : PySem.W.Frag} {k : Nat} (F : FunD K "first_wrong" "first_wrong" (defArgs s6) (defBody s6) (defScope s6) [] [] fa fd) (h_enumerate : mg "enumerate" = none) (hk : 0 ≤ k) : ∀ (P : Par) (cdv : Value) (A : Around) (outer : List Env) (s : Shared) (H : Hp) (E : XK), P.K = K → Room k (A.deeper (envOfC "first_wrong" (defScope s6) s.heap.objs.size fa cdv)) → A.guards = some [] → CloOk (cxOf CX0 Pr w K mg base n6 "first_wrong" (defScope s6) fa cdv A outer s H E).nox P → PSs (cxOf CX0 Pr w K mg base n6 "first_wrong" (defScope s6) fa cdv A outer s H E).nox (defBody s6) (TSt P m_first_wrong) := by
    rintro P cdv A outer s H E rfl hr hgd C
    refine as_cons ?_ ?_
    refine as_for (vs := [2, 3]) ?_ ?_ ?_ PassesOwn.never
    refine ai_enum h_enumerate ?_
    exact av 0
    refine ag_tup (n := 2) rfl ?_
    refine ags_cons ?_ ?_
    exact ag_name (i := 2) sc6.nd
    refine ags_cons ?_ ?_
    exact ag_name (i := 3) sc6.nd
    exact ags_nil
    refine as_one ?_
    refine as_if ?_ ?_ ?_
    refine at_not ?_
    refine at_val ?_
    refine ae_cv 1 C ?_
    refine aa_cons ?_ ?_
    exact av 3
    refine aa_cons ?_ ?_
    refine ae_sl ?_ ?_ ?_
    exact av 0
    exact ao_none
    refine ao_some ?_
    exact av 2
    exact aa_nil
    refine as_one ?_
    refine as_ret ?_
    exact av 2
    exact as_nil
    refine as_one ?_
    refine as_ret ?_
    exact a_non
theorem g5 (F : FunD P.K "is_tuple_of" "is_tuple_of" (defArgs s5) (defBody s5) (defScope s5) [] [] fa fd) (h_isinstance : mg "isinstance" = none) (h_tuple : mg "tuple" = none) (t_tuple : IsTab P.K "tuple") (h_len : mg "len" = none) : FnG Pr w P.K mg base CX0 1 fa fd ["value", "many"] (spOf P 2 fn_is_tuple_of) :=
  fnG_nox (k := 0) (f := m_is_tuple_of) (n := 2) (nn := 2) finF_ok F sc5 rfl rfl fun cdv A outer s H E hr hgd => by
    refine as_one ?_
    refine as_ret ?_
    refine ae_and ?_ ?_
    refine ae_isi t_tuple h_isinstance h_tuple ?_
    exact av 0
    refine ae_one ?_
    refine ae_cmp (c_eq hr) ?_ ?_
    refine ae_cb b_len h_len ?_
    refine aa_cons ?_ ?_
    exact av 0
    exact aa_nil
    exact av 1
theorem g3 (F : FunD P.K "is_whole" "is_whole" (defArgs s3) (defBody s3) (defScope s3) [] [] fa fd) (h_isinstance : mg "isinstance" = none) (h_int : mg "int" = none) (t_int : IsTab P.K "int") (h_bool : mg "bool" = none) (t_bool : IsTab P.K "bool") : FnG Pr w P.K mg base CX0 1 fa fd ["value"] (spOf P 1 fn_is_whole) :=
  fnG_nox (k := 0) (f := m_is_whole) (n := 1) (nn := 1) finF_ok F sc3 rfl rfl fun cdv A outer s H E hr hgd => by
    refine as_one ?_
    refine as_ret ?_
    refine ae_and ?_ ?_
    refine ae_isi t_int h_isinstance h_int ?_
    exact av 0
    refine ae_one ?_
    refine ae_not ?_
    refine ae_isi t_bool h_isinstance h_bool ?_
    exact av 0
theorem g4 (F : FunD P.K "is_number" "is_number" (defArgs s4) (defBody s4) (defScope s4) ([.none].map cV) [] fa fd) (c_is_whole : Gd Pr w P mg base 1 "is_whole" 1 [] fn_is_whole) : FnG Pr w P.K mg base CX0 2 fa fd ["value", "low", "high"] (spOf P 3 fn_is_number) :=
  fnG_nox (k := 1) (f := m_is_number) (n := 3) (nn := 3) finF_ok F sc4 rfl rfl fun cdv A outer s H E hr hgd => by
    refine as_one ?_
    refine as_ret ?_
    refine ae_and ?_ ?_
    refine ae_call c_is_whole (hr.mono (by decide)) hgd ?_
    refine aa_cons ?_ ?_
    exact av 0
    exact aa_nil
    refine ae_and ?_ ?_
    refine ae_cmp c_le ?_ ?_
    exact av 1
    exact av 0
    refine ae_one ?_
    refine ae_or ?_ ?_
    refine ae_cmp c_isN ?_ ?_
    exact av 2
    exact a_non
    refine ae_one ?_
    refine ae_cmp c_le ?_ ?_
    exact av 0
    exact av 2
theorem g7 (F : FunD P.K "common_divisor" "common_divisor" (defArgs s7) (defBody s7) (defScope s7) [] [] fa fd)  : FnG Pr w P.K mg base CX0 1 fa fd ["one", "two"] (spOf P 2 fn_common_divisor) :=
  fnG_nox (k := 0) (f := m_common_divisor) (n := 2) (nn := 2) finF_ok F sc7 rfl rfl fun cdv A outer s H E hr hgd => by
    refine as_cons ?_ ?_
    refine as_while ?_ ?_ PassesOwn.never
    refine at_cmp c_gt ?_ ?_
    exact av 1
    exact a_int
    refine as_one ?_
    refine as_par sc7.nd (i := 0) (j := 1) ?_
    refine aa_cons ?_ ?_
    exact av 1
    refine aa_cons ?_ ?_
    refine a_mod ?_ ?_
    exact av 0
    exact av 1
    exact aa_nil
    refine as_one ?_
    refine as_ret ?_
    exact av 0
theorem g9 (F : FunD P.K "is_fraction" "is_fraction" (defArgs s9) (defBody s9) (defScope s9) [] [] fa fd) (c_is_tuple_of : Gd Pr w P mg base 1 "is_tuple_of" 2 [] fn_is_tuple_of) (c_is_whole : Gd Pr w P mg base 1 "is_whole" 1 [] fn_is_whole) (c_is_number_2 : Gd Pr w P mg base 2 "is_number" 3 [.none] fn_is_number) (c_common_divisor : Gd Pr w P mg base 1 "common_divisor" 2 [] fn_common_divisor) (h_abs : mg "abs" = none) : FnG Pr w P.K mg base CX0 3 fa fd ["value"] (spOf P 1 fn_is_fraction) :=
  fnG_nox (k := 2) (f := m_is_fraction) (n := 1) (nn := 1) finF_ok F sc9 rfl rfl fun cdv A outer s H E hr hgd => by
    refine as_cons ?_ ?_
    refine as_if ?_ ?_ ?_
    refine PW.pt ?_
    refine aw_or ?_ ?_
    refine at_not ?_
    refine at_val ?_
    refine ae_call c_is_tuple_of (hr.mono (by decide)) hgd ?_
    refine aa_cons ?_ ?_
    exact av 0
    refine aa_cons ?_ ?_
    exact a_int
    exact aa_nil
    refine aw_or ?_ ?_
    refine at_not ?_
    refine at_val ?_
    refine ae_call c_is_whole (hr.mono (by decide)) hgd ?_
    refine aa_cons ?_ ?_
    refine ae_ix ?_ ?_
    exact av 0
    exact a_int
    exact aa_nil
    refine aw_or1 ?_
    refine at_not ?_
    refine at_val ?_
    refine ae_call c_is_number_2 (hr.mono (by decide)) hgd ?_
    refine aa_cons ?_ ?_
    refine ae_ix ?_ ?_
    exact av 0
    exact a_int
    refine aa_cons ?_ ?_
    exact a_int
    exact aa_nil
    refine as_one ?_
    refine as_ret ?_
    exact a_bl
    exact as_nil
    refine as_one ?_
    refine as_ret ?_
    refine ae_cmp (c_eq hr) ?_ ?_
    refine ae_call c_common_divisor (hr.mono (by decide)) hgd ?_
    refine aa_cons ?_ ?_
    refine ae_cb b_abs h_abs ?_
    refine aa_cons ?_ ?_
    refine ae_ix ?_ ?_
    exact av 0
    exact a_int
    exact aa_nil
    refine aa_cons ?_ ?_
    refine ae_ix ?_ ?_
    exact av 0
    exact a_int
    exact aa_nil
    exact a_int
theorem g19 (F : FunD P.K "is_chance_form" "is_chance_form" (defArgs s19) (defBody s19) (defScope s19) [] [] fa fd) (c_is_fraction : Gd Pr w P mg base 3 "is_fraction" 1 [] fn_is_fraction) : FnG Pr w P.K mg base CX0 4 fa fd ["value"] (spOf P 1 fn_is_chance_form) :=
  fnG_nox (k := 3) (f := m_is_chance_form) (n := 1) (nn := 1) finF_ok F sc19 rfl rfl fun cdv A outer s H E hr hgd => by
    refine as_one ?_
    refine as_ret ?_
    refine ae_and ?_ ?_
    refine ae_call c_is_fraction (hr.mono (by decide)) hgd ?_
    refine aa_cons ?_ ?_
    exact av 0
    exact aa_nil
    refine ae_one ?_
    refine ae_chain c_le c_lt ?_ ?_ ?_
    exact a_int
    refine ae_ix ?_ ?_
    exact av 0
    exact a_int
    refine ae_ix ?_ ?_
    exact av 0
    exact a_int
theorem g28 (F : FunD P.K "row_fault" "row_fault" (defArgs s28) (defBody s28) (defScope s28) ([.int 12].map cV) [] fa fd) {c Pt : Addr} (hcode : fd.code = .ref c) (TB : LamX.TabB base mg c Pt) (htb : TbOk P.tb Pt (fun _ _ => "row_fault.<locals>.<lambda>")) (h_isinstance : mg "isinstance" = none) (h_tuple : mg "tuple" = none) (t_tuple : IsTab P.K "tuple") (h_len : mg "len" = none) (c_is_chance_form : Gd Pr w P mg base 4 "is_chance_form" 1 [] fn_is_chance_form) (hg_first_wrong : ∀ k, 0 ≤ k → HoG Pr w P.K mg base k "first_wrong" 2 4 m_first_wrong) : FnG Pr w P.K mg base CX0 7 fa fd ["value", "most"] (spOf P 2 fn_row_fault) :=
  fnG_lam (k := 6) (f := m_row_fault) (n := 2) (nn := 3) finF_ok F hcode sc28 rfl rfl fun A outer s H E hr hgd => by
    refine as_cons ?_ ?_
    refine as_if ?_ ?_ ?_
    refine at_not ?_
    refine at_val ?_
    refine ae_isi t_tuple h_isinstance h_tuple ?_
    exact av 0
    refine as_one ?_
    refine as_ret ?_
    refine ae_tup ?_
    refine aa_cons ?_ ?_
    exact a_non
    exact aa_nil
    exact as_nil
    refine as_cons ?_ ?_
    refine as_set sc28.nd (i := 2) ?_
    refine ae_ho (k := 5) (j := 4) (Nl := ["each", "ahead", "most"]) (psl := ["each", "ahead"]) (frl := ["most"]) (js := [1]) (np := 2) (hg_first_wrong 5 (by decide)) (hr.mono (by decide)) (by decide) hgd ?_ TB rfl htb (by kernel_rfl) (NdefX.nscope_by (by kernel_rfl)) rfl (by kernel_rfl) rfl (fun _ _ _ _ _ us hl => match us, hl with | [_, _], _ => rfl) (fun cl ad c2 A outer s H E hr hgd => ?_)
    refine ae_sl ?_ ?_ ?_
    exact av 0
    exact ao_none
    refine ao_some ?_
    refine a_add ?_ ?_
    exact av 1
    exact a_int
    refine ae_and ?_ ?_
    refine ae_cmp c_lt ?_ ?_
    refine ae_cb b_len h_len ?_
    refine aa_cons ?_ ?_
    exact av 1
    exact aa_nil
    exact av 2
    refine ae_one ?_
    refine ae_call c_is_chance_form (hr.mono (by decide)) hgd ?_
    refine aa_cons ?_ ?_
    exact av 0
    exact aa_nil
    refine as_one ?_
    refine as_ret ?_
    refine ae_if ?_ ?_ ?_
    refine at_cmp c_isN ?_ ?_
    exact av 2
    exact a_non
    refine ae_tup ?_
    exact aa_nil
    refine ae_tup ?_
    refine aa_cons ?_ ?_
    exact av 2
    exact aa_nil
theorem g29 (F : FunD P.K "check_row" "check_row" (defArgs s29) (defBody s29) (defScope s29) [] [] fa fd) (c_row_fault_1 : Gd Pr w P mg base 7 "row_fault" 2 [.int 12] fn_row_fault) (h_len : mg "len" = none) : FnG Pr w P.K mg base CX0 8 fa fd ["value"] (spOf P 1 fn_check_row) :=
  fnG_nox (k := 7) (f := m_check_row) (n := 1) (nn := 2) finF_ok F sc29 rfl rfl fun cdv A outer s H E hr hgd => by
    refine as_cons ?_ ?_
    refine as_set sc29.nd (i := 1) ?_
    refine ae_call c_row_fault_1 (hr.mono (by decide)) hgd ?_
    refine aa_cons ?_ ?_
    exact av 0
    exact aa_nil
    refine as_one ?_
    refine as_if ?_ ?_ ?_
    refine at_cmp c_gt ?_ ?_
    refine ae_cb b_len h_len ?_
    refine aa_cons ?_ ?_
    exact av 1
    exact aa_nil
    exact a_int
    refine as_one ?_
    exact as_no
    exact as_nil
theorem g8 (F : FunD P.K "lowest" "lowest" (defArgs s8) (defBody s8) (defScope s8) [] [] fa fd) (c_common_divisor : Gd Pr w P mg base 1 "common_divisor" 2 [] fn_common_divisor) (h_abs : mg "abs" = none) : FnG Pr w P.K mg base CX0 2 fa fd ["number", "scale"] (spOf P 2 fn_lowest) :=
  fnG_nox (k := 1) (f := m_lowest) (n := 2) (nn := 3) finF_ok F sc8 rfl rfl fun cdv A outer s H E hr hgd => by
    refine as_cons ?_ ?_
    refine as_if ?_ ?_ ?_
    refine at_cmp c_lt ?_ ?_
    exact av 1
    exact a_int
    refine as_one ?_
    refine as_par sc8.nd (i := 0) (j := 1) ?_
    refine aa_cons ?_ ?_
    refine a_neg ?_
    exact av 0
    refine aa_cons ?_ ?_
    refine a_neg ?_
    exact av 1
    exact aa_nil
    exact as_nil
    refine as_cons ?_ ?_
    refine as_set sc8.nd (i := 2) ?_
    refine ae_call c_common_divisor (hr.mono (by decide)) hgd ?_
    refine aa_cons ?_ ?_
    refine ae_cb b_abs h_abs ?_
    refine aa_cons ?_ ?_
    exact av 0
    exact aa_nil
    refine aa_cons ?_ ?_
    exact av 1
    exact aa_nil
    refine as_one ?_
    refine as_ret ?_
    refine ae_tup ?_
    refine aa_cons ?_ ?_
    refine a_div ?_ ?_
    exact av 0
    exact av 2
    refine aa_cons ?_ ?_
    refine a_div ?_ ?_
    exact av 1
    exact av 2
    exact aa_nil
theorem g11 (F : FunD P.K "multiplied" "multiplied" (defArgs s11) (defBody s11) (defScope s11) [] [] fa fd) (c_lowest : Gd Pr w P mg base 2 "lowest" 2 [] fn_lowest) : FnG Pr w P.K mg base CX0 3 fa fd ["one", "two"] (spOf P 2 fn_multiplied) :=
  fnG_nox (k := 2) (f := m_multiplied) (n := 2) (nn := 2) finF_ok F sc11 rfl rfl fun cdv A outer s H E hr hgd => by
    refine as_one ?_
    refine as_ret ?_
    refine ae_call c_lowest (hr.mono (by decide)) hgd ?_
    refine aa_cons ?_ ?_
    refine a_mul ?_ ?_
    refine ae_ix ?_ ?_
    exact av 0
    exact a_int
    refine ae_ix ?_ ?_
    exact av 1
    exact a_int
    refine aa_cons ?_ ?_
    refine a_mul ?_ ?_
    refine ae_ix ?_ ?_
    exact av 0
    exact a_int
    refine ae_ix ?_ ?_
    exact av 1
    exact a_int
    exact aa_nil
theorem g12 (F : FunD P.K "rest_of" "rest_of" (defArgs s12) (defBody s12) (defScope s12) [] [] fa fd)  : FnG Pr w P.K mg base CX0 1 fa fd ["one"] (spOf P 1 fn_rest_of) :=
  fnG_nox (k := 0) (f := m_rest_of) (n := 1) (nn := 1) finF_ok F sc12 rfl rfl fun cdv A outer s H E hr hgd => by
    refine as_one ?_
    refine as_ret ?_
    refine ae_tup ?_
    refine aa_cons ?_ ?_
    refine a_sub ?_ ?_
    refine ae_ix ?_ ?_
    exact av 0
    exact a_int
    refine ae_ix ?_ ?_
    exact av 0
    exact a_int
    refine aa_cons ?_ ?_
    refine ae_ix ?_ ?_
    exact av 0
    exact a_int
    exact aa_nil
theorem g10 (F : FunD P.K "added" "added" (defArgs s10) (defBody s10) (defScope s10) [] [] fa fd) (c_lowest : Gd Pr w P mg base 2 "lowest" 2 [] fn_lowest) : FnG Pr w P.K mg base CX0 3 fa fd ["one", "two"] (spOf P 2 fn_added) :=
  fnG_nox (k := 2) (f := m_added) (n := 2) (nn := 2) finF_ok F sc10 rfl rfl fun cdv A outer s H E hr hgd => by
    refine as_one ?_
    refine as_ret ?_
    refine ae_call c_lowest (hr.mono (by decide)) hgd ?_
    refine aa_cons ?_ ?_
    refine a_add ?_ ?_
    refine a_mul ?_ ?_
    refine ae_ix ?_ ?_
    exact av 0
    exact a_int
    refine ae_ix ?_ ?_
    exact av 1
    exact a_int
    refine a_mul ?_ ?_
    refine ae_ix ?_ ?_
    exact av 1
    exact a_int
    refine ae_ix ?_ ?_
    exact av 0
    exact a_int
    refine aa_cons ?_ ?_
    refine a_mul ?_ ?_
    refine ae_ix ?_ ?_
    exact av 0
    exact a_int
    refine ae_ix ?_ ?_
    exact av 1
    exact a_int
    exact aa_nil
theorem g21 (F : FunD P.K "counts_in" "counts_in" (defArgs s21) (defBody s21) (defScope s21) [] [] fa fd) (k_ONE : Gc P.K mg "ONE" (.tuple [.int 1, .int 1])) (k_NONE : Gc P.K mg "NONE" (.tuple [.int 0, .int 1])) (c_multiplied : Gd Pr w P mg base 3 "multiplied" 2 [] fn_multiplied) (c_rest_of : Gd Pr w P mg base 1 "rest_of" 1 [] fn_rest_of) (h_zip : mg "zip" = none) (c_added : Gd Pr w P mg base 3 "added" 2 [] fn_added) : FnG Pr w P.K mg base CX0 4 fa fd ["row"] (spOf P 1 fn_counts_in) :=
  fnG_nox (k := 3) (f := m_counts_in) (n := 1) (nn := 8) finF_ok F sc21 rfl rfl fun cdv A outer s H E hr hgd => by
    refine as_cons ?_ ?_
    refine as_set sc21.nd (i := 1) ?_
    refine ae_lst ?_
    refine aa_cons ?_ ?_
    exact ae_glc k_ONE
    exact aa_nil
    refine as_cons ?_ ?_
    refine as_for (vs := [2]) ?_ ?_ ?_ PassesOwn.never
    refine ai_seq ?_
    exact av 0
    exact ag_name (i := 2) sc21.nd
    refine as_cons ?_ ?_
    refine as_set sc21.nd (i := 3) ?_
    refine a_add ?_ ?_
    refine ae_lst ?_
    refine aa_cons ?_ ?_
    exact ae_glc k_NONE
    exact aa_nil
    refine ae_lc (own := [("each", 5)]) sc21.nd ?_ (blkOk_by (by kernel_rfl)) (fun _ _ _ _ _ => ?_) (fun _ _ _ _ _ => ?_) (fun _ _ _ _ _ => ?_)
    refine ai_seq ?_
    exact av 1
    exact ag_name (i := 5) sc21.nd
    exact ats_nil
    refine ae_call c_multiplied (hr.mono (by decide)) hgd ?_
    refine aa_cons ?_ ?_
    exact av 5
    refine aa_cons ?_ ?_
    exact av 2
    exact aa_nil
    refine as_cons ?_ ?_
    refine as_set sc21.nd (i := 4) ?_
    refine a_add ?_ ?_
    refine ae_lc (own := [("each", 5)]) sc21.nd ?_ (blkOk_by (by kernel_rfl)) (fun _ _ _ _ _ => ?_) (fun _ _ _ _ _ => ?_) (fun _ _ _ _ _ => ?_)
    refine ai_seq ?_
    exact av 1
    exact ag_name (i := 5) sc21.nd
    exact ats_nil
    refine ae_call c_multiplied (hr.mono (by decide)) hgd ?_
    refine aa_cons ?_ ?_
    exact av 5
    refine aa_cons ?_ ?_
    refine ae_call c_rest_of (hr.mono (by decide)) hgd ?_
    refine aa_cons ?_ ?_
    exact av 2
    exact aa_nil
    exact aa_nil
    refine ae_lst ?_
    refine aa_cons ?_ ?_
    exact ae_glc k_NONE
    exact aa_nil
    refine as_one ?_
    refine as_setLc (i := 1) (own := [("one", 6), ("two", 7)]) sc21.nd ?_ (blkOk_by (by kernel_rfl)) (fun _ _ _ _ _ => ?_) (fun _ _ _ _ _ => ?_) (fun _ _ _ _ _ => ?_) (sw_true rfl rfl rfl (by kernel_rfl))
    refine ai_zip h_zip ?_ ?_
    exact av 3
    exact av 4
    refine ag_tup (n := 2) rfl ?_
    refine ags_cons ?_ ?_
    exact ag_name (i := 6) sc21.nd
    refine ags_cons ?_ ?_
    exact ag_name (i := 7) sc21.nd
    exact ags_nil
    exact ats_nil
    refine ae_call c_added (hr.mono (by decide)) hgd ?_
    refine aa_cons ?_ ?_
    exact av 6
    refine aa_cons ?_ ?_
    exact av 7
    exact aa_nil
    refine as_one ?_
    refine as_ret ?_
    exact av 1
theorem g13 (F : FunD P.K "is_less" "is_less" (defArgs s13) (defBody s13) (defScope s13) [] [] fa fd)  : FnG Pr w P.K mg base CX0 1 fa fd ["one", "two"] (spOf P 2 fn_is_less) :=
  fnG_nox (k := 0) (f := m_is_less) (n := 2) (nn := 2) finF_ok F sc13 rfl rfl fun cdv A outer s H E hr hgd => by
    refine as_one ?_
    refine as_ret ?_
    refine ae_cmp c_lt ?_ ?_
    refine a_mul ?_ ?_
    refine ae_ix ?_ ?_
    exact av 0
    exact a_int
    refine ae_ix ?_ ?_
    exact av 1
    exact a_int
    refine a_mul ?_ ?_
    refine ae_ix ?_ ?_
    exact av 1
    exact a_int
    refine ae_ix ?_ ?_
    exact av 0
    exact a_int
theorem g14 (F : FunD P.K "greater" "greater" (defArgs s14) (defBody s14) (defScope s14) [] [] fa fd) (c_is_less : Gd Pr w P mg base 1 "is_less" 2 [] fn_is_less) : FnG Pr w P.K mg base CX0 2 fa fd ["one", "two"] (spOf P 2 fn_greater) :=
  fnG_nox (k := 1) (f := m_greater) (n := 2) (nn := 2) finF_ok F sc14 rfl rfl fun cdv A outer s H E hr hgd => by
    refine as_one ?_
    refine as_ret ?_
    refine ae_if ?_ ?_ ?_
    refine at_val ?_
    refine ae_call c_is_less (hr.mono (by decide)) hgd ?_
    refine aa_cons ?_ ?_
    exact av 0
    refine aa_cons ?_ ?_
    exact av 1
    exact aa_nil
    exact av 1
    exact av 0
theorem g16 (F : FunD P.K "greatest" "greatest" (defArgs s16) (defBody s16) (defScope s16) [] [] fa fd) (c_greater : Gd Pr w P mg base 2 "greater" 2 [] fn_greater) : FnG Pr w P.K mg base CX0 3 fa fd ["fractions"] (spOf P 1 fn_greatest) :=
  fnG_nox (k := 2) (f := m_greatest) (n := 1) (nn := 3) finF_ok F sc16 rfl rfl fun cdv A outer s H E hr hgd => by
    refine as_cons ?_ ?_
    refine as_set sc16.nd (i := 1) ?_
    refine ae_ix ?_ ?_
    exact av 0
    exact a_int
    refine as_cons ?_ ?_
    refine as_for (vs := [2]) ?_ ?_ ?_ PassesOwn.never
    refine ai_seq ?_
    exact av 0
    exact ag_name (i := 2) sc16.nd
    refine as_one ?_
    refine as_set sc16.nd (i := 1) ?_
    refine ae_call c_greater (hr.mono (by decide)) hgd ?_
    refine aa_cons ?_ ?_
    exact av 1
    refine aa_cons ?_ ?_
    exact av 2
    exact aa_nil
    refine as_one ?_
    refine as_ret ?_
    exact av 1
theorem g33 (F : FunD P.K "crests_in" "crests_in" (defArgs s33) (defBody s33) (defScope s33) [] [] fa fd) (c_counts_in : Gd Pr w P mg base 4 "counts_in" 1 [] fn_counts_in) (c_greatest : Gd Pr w P mg base 3 "greatest" 1 [] fn_greatest) (h_tuple : mg "tuple" = none) (h_enumerate : mg "enumerate" = none) : FnG Pr w P.K mg base CX0 5 fa fd ["row"] (spOf P 1 fn_crests_in) :=
  fnG_nox (k := 4) (f := m_crests_in) (n := 1) (nn := 5) finF_ok F sc33 rfl rfl fun cdv A outer s H E hr hgd => by
    refine as_cons ?_ ?_
    refine as_set sc33.nd (i := 1) ?_
    refine ae_call c_counts_in (hr.mono (by decide)) hgd ?_
    refine aa_cons ?_ ?_
    exact av 0
    exact aa_nil
    refine as_cons ?_ ?_
    refine as_set sc33.nd (i := 2) ?_
    refine ae_call c_greatest (hr.mono (by decide)) hgd ?_
    refine aa_cons ?_ ?_
    exact av 1
    exact aa_nil
    refine as_one ?_
    refine as_ret ?_
    refine ae_ct b_tuple h_tuple ?_
    refine aa_cons ?_ ?_
    refine ae_lc (own := [("number", 3), ("chance", 4)]) sc33.nd ?_ (blkOk_by (by kernel_rfl)) (fun _ _ _ _ _ => ?_) (fun _ _ _ _ _ => ?_) (fun _ _ _ _ _ => ?_)
    refine ai_enum h_enumerate ?_
    exact av 1
    refine ag_tup (n := 2) rfl ?_
    refine ags_cons ?_ ?_
    exact ag_name (i := 3) sc33.nd
    refine ags_cons ?_ ?_
    exact ag_name (i := 4) sc33.nd
    exact ags_nil
    refine ats_one ?_
    refine at_cmp (c_eq hr) ?_ ?_
    exact av 4
    exact av 2
    exact av 3
    exact aa_nil
theorem g34 (F : FunD P.K "crests" "crests" (defArgs s34) (defBody s34) (defScope s34) [] [] fa fd) (c_check_row : Gd Pr w P mg base 8 "check_row" 1 [] fn_check_row) (c_crests_in : Gd Pr w P mg base 5 "crests_in" 1 [] fn_crests_in) : FnG Pr w P.K mg base CX0 9 fa fd ["row"] (spOf P 1 fn_crests) :=
  fnG_nox (k := 8) (f := m_crests) (n := 1) (nn := 1) finF_ok F sc34 rfl rfl fun cdv A outer s H E hr hgd => by
    refine as_cons ?_ ?_
    refine as_ex ?_
    refine ae_call c_check_row (hr.mono (by decide)) hgd ?_
    refine aa_cons ?_ ?_
    exact av 0
    exact aa_nil
    refine as_one ?_
    refine as_ret ?_
    refine ae_call c_crests_in (hr.mono (by decide)) hgd ?_
    refine aa_cons ?_ ?_
    exact av 0
    exact aa_nil
theorem g15 (F : FunD P.K "sum_of" "sum_of" (defArgs s15) (defBody s15) (defScope s15) [] [] fa fd) (k_NONE : Gc P.K mg "NONE" (.tuple [.int 0, .int 1])) (c_added : Gd Pr w P mg base 3 "added" 2 [] fn_added) : FnG Pr w P.K mg base CX0 4 fa fd ["fractions"] (spOf P 1 fn_sum_of) :=
  fnG_nox (k := 3) (f := m_sum_of) (n := 1) (nn := 3) finF_ok F sc15 rfl rfl fun cdv A outer s H E hr hgd => by
    refine as_cons ?_ ?_
    refine as_set sc15.nd (i := 1) ?_
    exact ae_glc k_NONE
    refine as_cons ?_ ?_
    refine as_for (vs := [2]) ?_ ?_ ?_ PassesOwn.never
    refine ai_seq ?_
    exact av 0
    exact ag_name (i := 2) sc15.nd
    refine as_one ?_
    refine as_set sc15.nd (i := 1) ?_
    refine ae_call c_added (hr.mono (by decide)) hgd ?_
    refine aa_cons ?_ ?_
    exact av 1
    refine aa_cons ?_ ?_
    exact av 2
    exact aa_nil
    refine as_one ?_
    refine as_ret ?_
    exact av 1
theorem g20 (F : FunD P.K "mean_of" "mean_of" (defArgs s20) (defBody s20) (defScope s20) [] [] fa fd) (c_sum_of : Gd Pr w P mg base 4 "sum_of" 1 [] fn_sum_of) : FnG Pr w P.K mg base CX0 5 fa fd ["row"] (spOf P 1 fn_mean_of) :=
  fnG_nox (k := 4) (f := m_mean_of) (n := 1) (nn := 1) finF_ok F sc20 rfl rfl fun cdv A outer s H E hr hgd => by
    refine as_one ?_
    refine as_ret ?_
    refine ae_call c_sum_of (hr.mono (by decide)) hgd ?_
    refine aa_cons ?_ ?_
    exact av 0
    exact aa_nil
theorem g35 (F : FunD P.K "near_mean" "near_mean" (defArgs s35) (defBody s35) (defScope s35) [] [] fa fd) (c_check_row : Gd Pr w P mg base 8 "check_row" 1 [] fn_check_row) (c_mean_of : Gd Pr w P mg base 5 "mean_of" 1 [] fn_mean_of) (h_tuple : mg "tuple" = none) (h_range : mg "range" = none) (h_len : mg "len" = none) (h_abs : mg "abs" = none) : FnG Pr w P.K mg base CX0 9 fa fd ["row"] (spOf P 1 fn_near_mean) :=
  fnG_nox (k := 8) (f := m_near_mean) (n := 1) (nn := 4) finF_ok F sc35 rfl rfl fun cdv A outer s H E hr hgd => by
    refine as_cons ?_ ?_
    refine as_ex ?_
    refine ae_call c_check_row (hr.mono (by decide)) hgd ?_
    refine aa_cons ?_ ?_
    exact av 0
    exact aa_nil
    refine as_cons ?_ ?_
    refine as_asg (vs := [1, 2]) ?_ ?_
    refine ae_call c_mean_of (hr.mono (by decide)) hgd ?_
    refine aa_cons ?_ ?_
    exact av 0
    exact aa_nil
    refine ag_tup (n := 2) rfl ?_
    refine ags_cons ?_ ?_
    exact ag_name (i := 1) sc35.nd
    refine ags_cons ?_ ?_
    exact ag_name (i := 2) sc35.nd
    exact ags_nil
    refine as_one ?_
    refine as_ret ?_
    refine ae_ct b_tuple h_tuple ?_
    refine aa_cons ?_ ?_
    refine ae_lc (own := [("each", 3)]) sc35.nd ?_ (blkOk_by (by kernel_rfl)) (fun _ _ _ _ _ => ?_) (fun _ _ _ _ _ => ?_) (fun _ _ _ _ _ => ?_)
    refine ai_range1 h_range ?_
    refine a_add ?_ ?_
    refine ae_cb b_len h_len ?_
    refine aa_cons ?_ ?_
    exact av 0
    exact aa_nil
    exact a_int
    exact ag_name (i := 3) sc35.nd
    refine ats_one ?_
    refine at_cmp c_lt ?_ ?_
    refine ae_cb b_abs h_abs ?_
    refine aa_cons ?_ ?_
    refine a_sub ?_ ?_
    refine a_mul ?_ ?_
    exact av 3
    exact av 2
    exact av 1
    exact aa_nil
    exact av 2
    exact av 3
    exact aa_nil
theorem g38 (F : FunD P.K "mean" "mean" (defArgs s38) (defBody s38) (defScope s38) [] [] fa fd) (c_check_row : Gd Pr w P mg base 8 "check_row" 1 [] fn_check_row) (c_mean_of : Gd Pr w P mg base 5 "mean_of" 1 [] fn_mean_of) : FnG Pr w P.K mg base CX0 9 fa fd ["row"] (spOf P 1 fn_mean) :=
  fnG_nox (k := 8) (f := m_mean) (n := 1) (nn := 1) finF_ok F sc38 rfl rfl fun cdv A outer s H E hr hgd => by
    refine as_cons ?_ ?_
    refine as_ex ?_
    refine ae_call c_check_row (hr.mono (by decide)) hgd ?_
    refine aa_cons ?_ ?_
    exact av 0
    exact aa_nil
    refine as_one ?_
    refine as_ret ?_
    refine ae_call c_mean_of (hr.mono (by decide)) hgd ?_
    refine aa_cons ?_ ?_
    exact av 0
    exact aa_nil
theorem g44 (F : FunD P.K "_law_is" "_law_is" (defArgs s44) (defBody s44) (defScope s44) [] [] fa fd) (h_repr : mg "repr" = none) : FnG Pr w P.K mg base CX0 1 fa fd ["told", "due"] (spOf P 2 fn__law_is) :=
  fnG_nox (k := 0) (f := m__law_is) (n := 2) (nn := 2) finF_ok F sc44 rfl rfl fun cdv A outer s H E hr hgd => by
    refine as_one ?_
    refine as_ret ?_
    refine ae_cmp (c_eq hr) ?_ ?_
    refine ae_cb (b_repr hr hgd) h_repr ?_
    refine aa_cons ?_ ?_
    exact av 0
    exact aa_nil
    refine ae_cb (b_repr hr hgd) h_repr ?_
    refine aa_cons ?_ ?_
    exact av 1
    exact aa_nil
theorem g30 (F : FunD P.K "check_number" "check_number" (defArgs s30) (defBody s30) (defScope s30) ([.none].map cV) [] fa fd) (c_is_number : Gd Pr w P mg base 2 "is_number" 3 [] fn_is_number) : FnG Pr w P.K mg base CX0 3 fa fd ["value", "low", "high"] (spOf P 3 fn_check_number) :=
  fnG_nox (k := 2) (f := m_check_number) (n := 3) (nn := 3) finF_ok F sc30 rfl rfl fun cdv A outer s H E hr hgd => by
    refine as_one ?_
    refine as_if ?_ ?_ ?_
    refine at_not ?_
    refine at_val ?_
    refine ae_call c_is_number (hr.mono (by decide)) hgd ?_
    refine aa_cons ?_ ?_
    exact av 0
    refine aa_cons ?_ ?_
    exact av 1
    refine aa_cons ?_ ?_
    exact av 2
    exact aa_nil
    refine as_one ?_
    exact as_no
    exact as_nil
theorem g31 (F : FunD P.K "check_many" "check_many" (defArgs s31) (defBody s31) (defScope s31) ([.int 0].map cV) [] fa fd) (c_check_number : Gd Pr w P mg base 3 "check_number" 3 [] fn_check_number) (k_MOST_MANY : Gc P.K mg "MOST_MANY" (.int 12)) : FnG Pr w P.K mg base CX0 4 fa fd ["value", "low"] (spOf P 2 fn_check_many) :=
  fnG_nox (k := 3) (f := m_check_many) (n := 2) (nn := 2) finF_ok F sc31 rfl rfl fun cdv A outer s H E hr hgd => by
    refine as_one ?_
    refine as_ex ?_
    refine ae_call c_check_number (hr.mono (by decide)) hgd ?_
    refine aa_cons ?_ ?_
    exact av 0
    refine aa_cons ?_ ?_
    exact av 1
    refine aa_cons ?_ ?_
    exact ae_glc k_MOST_MANY
    exact aa_nil
theorem g36 (F : FunD P.K "is_crest" "is_crest" (defArgs s36) (defBody s36) (defScope s36) [] [] fa fd) (c_check_row : Gd Pr w P mg base 8 "check_row" 1 [] fn_check_row) (c_check_many_1 : Gd Pr w P mg base 4 "check_many" 2 [.int 0] fn_check_many) (c_crests_in : Gd Pr w P mg base 5 "crests_in" 1 [] fn_crests_in) : FnG Pr w P.K mg base CX0 9 fa fd ["row", "many"] (spOf P 2 fn_is_crest) :=
  fnG_nox (k := 8) (f := m_is_crest) (n := 2) (nn := 2) finF_ok F sc36 rfl rfl fun cdv A outer s H E hr hgd => by
    refine as_cons ?_ ?_
    refine as_ex ?_
    refine ae_call c_check_row (hr.mono (by decide)) hgd ?_
    refine aa_cons ?_ ?_
    exact av 0
    exact aa_nil
    refine as_cons ?_ ?_
    refine as_ex ?_
    refine ae_call c_check_many_1 (hr.mono (by decide)) hgd ?_
    refine aa_cons ?_ ?_
    exact av 1
    exact aa_nil
    refine as_one ?_
    refine as_ret ?_
    refine ae_cmp (c_in hr) ?_ ?_
    exact av 1
    refine ae_call c_crests_in (hr.mono (by decide)) hgd ?_
    refine aa_cons ?_ ?_
    exact av 0
    exact aa_nil
theorem g57 (F : FunD P.K "_law_right" "_law_right" (defArgs s57) (defBody s57) (defScope s57) [] [] fa fd) (h_range : mg "range" = none) (c__law_row : Gd Pr w P mg base 4 "_law_row" 2 [] fn__law_row) (c__law_whole : Gd Pr w P mg base 4 "_law_whole" 1 [] fn__law_whole) (c__law_counts : Gd Pr w P mg base 4 "_law_counts" 1 [] fn__law_counts) (c__law_together : Gd Pr w P mg base 3 "_law_together" 1 [] fn__law_together) (c__law_below : Gd Pr w P mg base 1 "_law_below" 2 [] fn__law_below) (h_tuple : mg "tuple" = none) (h_enumerate : mg "enumerate" = none) (c__law_less : Gd Pr w P mg base 3 "_law_less" 2 [] fn__law_less) (h_abs : mg "abs" = none) (c_crests : Gd Pr w P mg base 9 "crests" 1 [] fn_crests) (ck_crests_0_row : GdK Pr w P mg base 9 "crests" 1 0 ["row"] (fun us ws => pick [(1, 0)] us ws []) fn_crests) (c_near_mean : Gd Pr w P mg base 9 "near_mean" 1 [] fn_near_mean) (ck_near_mean_0_row : GdK Pr w P mg base 9 "near_mean" 1 0 ["row"] (fun us ws => pick [(1, 0)] us ws []) fn_near_mean) (c_mean : Gd Pr w P mg base 9 "mean" 1 [] fn_mean) (c__law_is : Gd Pr w P mg base 1 "_law_is" 2 [] fn__law_is) (h_len : mg "len" = none) (c_is_crest : Gd Pr w P mg base 9 "is_crest" 2 [] fn_is_crest) (ck_is_crest_0_many_row : GdK Pr w P mg base 9 "is_crest" 2 0 ["many", "row"] (fun us ws => pick [(1, 1), (1, 0)] us ws []) fn_is_crest) : FnG Pr w P.K mg base CX0 10 fa fd ["well"] (spOf P 1 fn__law_right) :=
  fnG_nox (k := 9) (f := m__law_right) (n := 1) (nn := 12) finF_ok F sc57 rfl rfl fun cdv A outer s H E hr hgd => by
    refine as_cons ?_ ?_
    refine as_for (vs := [1]) ?_ ?_ ?_ PassesOwn.never
    refine ai_range1 h_range ?_
    exact a_int
    exact ag_name (i := 1) sc57.nd
    refine as_one ?_
    refine as_for (vs := [2]) ?_ ?_ ?_ PassesOwn.never
    refine ai_seq ?_
    refine ae_tup ?_
    refine aa_cons ?_ ?_
    refine ae_call c__law_row (hr.mono (by decide)) hgd ?_
    refine aa_cons ?_ ?_
    exact av 0
    refine aa_cons ?_ ?_
    exact a_int
    exact aa_nil
    refine aa_cons ?_ ?_
    refine ae_call c__law_whole (hr.mono (by decide)) hgd ?_
    refine aa_cons ?_ ?_
    exact av 0
    exact aa_nil
    exact aa_nil
    exact ag_name (i := 2) sc57.nd
    refine as_cons ?_ ?_
    refine as_par sc57.nd (i := 9) (j := 10) ?_
    refine aa_cons ?_ ?_
    refine ae_call c__law_counts (hr.mono (by decide)) hgd ?_
    refine aa_cons ?_ ?_
    exact av 2
    exact aa_nil
    refine aa_cons ?_ ?_
    refine ae_call c__law_together (hr.mono (by decide)) hgd ?_
    refine aa_cons ?_ ?_
    exact av 2
    exact aa_nil
    exact aa_nil
    refine as_cons ?_ ?_
    refine as_set sc57.nd (i := 3) ?_
    refine ae_ix ?_ ?_
    exact av 9
    exact a_int
    refine as_cons ?_ ?_
    refine as_for (vs := [4]) ?_ ?_ ?_ PassesOwn.never
    refine ai_seq ?_
    exact av 9
    exact ag_name (i := 4) sc57.nd
    refine as_one ?_
    refine as_set sc57.nd (i := 3) ?_
    refine ae_if ?_ ?_ ?_
    refine at_val ?_
    refine ae_call c__law_below (hr.mono (by decide)) hgd ?_
    refine aa_cons ?_ ?_
    exact av 3
    refine aa_cons ?_ ?_
    exact av 4
    exact aa_nil
    exact av 4
    exact av 3
    refine as_cons ?_ ?_
    refine as_set sc57.nd (i := 5) ?_
    refine ae_ct b_tuple h_tuple ?_
    refine aa_cons ?_ ?_
    refine ae_lc (own := [("at", 7), ("part", 4)]) sc57.nd ?_ (blkOk_by (by kernel_rfl)) (fun _ _ _ _ _ => ?_) (fun _ _ _ _ _ => ?_) (fun _ _ _ _ _ => ?_)
    refine ai_enum h_enumerate ?_
    exact av 9
    refine ag_tup (n := 2) rfl ?_
    refine ags_cons ?_ ?_
    exact ag_name (i := 7) sc57.nd
    refine ags_cons ?_ ?_
    exact ag_name (i := 4) sc57.nd
    exact ags_nil
    refine ats_one ?_
    refine at_cmp (c_eq hr) ?_ ?_
    exact av 4
    exact av 3
    exact av 7
    exact aa_nil
    refine as_cons ?_ ?_
    refine as_set sc57.nd (i := 6) ?_
    refine ae_lst ?_
    exact aa_nil
    refine as_cons ?_ ?_
    refine as_for (vs := [7]) ?_ ?_ ?_ PassesOwn.never
    refine ai_range1 h_range ?_
    exact a_int
    exact ag_name (i := 7) sc57.nd
    refine as_cons ?_ ?_
    refine as_set sc57.nd (i := 11) ?_
    refine ae_call c__law_less (hr.mono (by decide)) hgd ?_
    refine aa_cons ?_ ?_
    refine ae_tup ?_
    refine aa_cons ?_ ?_
    exact av 7
    refine aa_cons ?_ ?_
    exact a_int
    exact aa_nil
    refine aa_cons ?_ ?_
    exact av 10
    exact aa_nil
    refine as_one ?_
    refine as_set sc57.nd (i := 6) ?_
    refine a_add ?_ ?_
    exact av 6
    refine ae_if ?_ ?_ ?_
    refine at_val ?_
    refine ae_call c__law_below (hr.mono (by decide)) hgd ?_
    refine aa_cons ?_ ?_
    refine ae_tup ?_
    refine aa_cons ?_ ?_
    refine ae_cb b_abs h_abs ?_
    refine aa_cons ?_ ?_
    refine ae_ix ?_ ?_
    exact av 11
    exact a_int
    exact aa_nil
    refine aa_cons ?_ ?_
    refine ae_ix ?_ ?_
    exact av 11
    exact a_int
    exact aa_nil
    refine aa_cons ?_ ?_
    refine ae_tup ?_
    refine aa_cons ?_ ?_
    exact a_int
    refine aa_cons ?_ ?_
    exact a_int
    exact aa_nil
    exact aa_nil
    refine ae_lst ?_
    refine aa_cons ?_ ?_
    exact av 7
    exact aa_nil
    refine ae_lst ?_
    exact aa_nil
    refine as_cons ?_ ?_
    refine as_set sc57.nd (i := 8) ?_
    refine ae_lst ?_
    refine aa_cons ?_ ?_
    refine ae_call c_crests (hr.mono (by decide)) hgd ?_
    refine aa_cons ?_ ?_
    exact av 2
    exact aa_nil
    refine aa_cons ?_ ?_
    refine ae_callK0 ck_crests_0_row (hr.mono (by decide)) hgd ?_
    refine ak_cons ?_ ?_
    exact av 2
    exact ak_nil
    refine aa_cons ?_ ?_
    refine ae_call c_near_mean (hr.mono (by decide)) hgd ?_
    refine aa_cons ?_ ?_
    exact av 2
    exact aa_nil
    refine aa_cons ?_ ?_
    refine ae_callK0 ck_near_mean_0_row (hr.mono (by decide)) hgd ?_
    refine ak_cons ?_ ?_
    exact av 2
    exact ak_nil
    refine aa_cons ?_ ?_
    refine ae_call c_mean (hr.mono (by decide)) hgd ?_
    refine aa_cons ?_ ?_
    exact av 2
    exact aa_nil
    exact aa_nil
    refine as_cons ?_ ?_
    refine as_if ?_ ?_ ?_
    refine at_not ?_
    refine at_val ?_
    refine ae_call c__law_is (hr.mono (by decide)) hgd ?_
    refine aa_cons ?_ ?_
    exact av 8
    refine aa_cons ?_ ?_
    refine ae_lst ?_
    refine aa_cons ?_ ?_
    exact av 5
    refine aa_cons ?_ ?_
    exact av 5
    refine aa_cons ?_ ?_
    refine ae_ct b_tuple h_tuple ?_
    refine aa_cons ?_ ?_
    exact av 6
    exact aa_nil
    refine aa_cons ?_ ?_
    refine ae_ct b_tuple h_tuple ?_
    refine aa_cons ?_ ?_
    exact av 6
    exact aa_nil
    refine aa_cons ?_ ?_
    exact av 10
    exact aa_nil
    exact aa_nil
    refine as_one ?_
    refine as_ret ?_
    exact a_bl
    exact as_nil
    refine as_cons ?_ ?_
    refine as_if ?_ ?_ ?_
    refine PW.pt ?_
    refine aw_or ?_ ?_
    refine at_cmp c_gt ?_ ?_
    refine ae_cb b_len h_len ?_
    refine aa_cons ?_ ?_
    exact av 5
    exact aa_nil
    exact a_int
    refine aw_or ?_ ?_
    refine at_cmp c_gt ?_ ?_
    refine a_sub ?_ ?_
    refine ae_ix ?_ ?_
    exact av 5
    refine a_neg ?_
    exact a_int
    refine ae_ix ?_ ?_
    exact av 5
    exact a_int
    exact a_int
    refine aw_or1 ?_
    refine at_cmp (c_ne hr) ?_ ?_
    refine ae_lc (own := [("at", 7)]) sc57.nd ?_ (blkOk_by (by kernel_rfl)) (fun _ _ _ _ _ => ?_) (fun _ _ _ _ _ => ?_) (fun _ _ _ _ _ => ?_)
    refine ai_seq ?_
    exact av 5
    exact ag_name (i := 7) sc57.nd
    refine ats_one ?_
    refine at_cmp (c_notIn hr) ?_ ?_
    exact av 7
    exact av 6
    exact a_int
    refine ae_lst ?_
    exact aa_nil
    refine as_one ?_
    refine as_ret ?_
    exact a_bl
    exact as_nil
    refine as_cons ?_ ?_
    refine as_if ?_ ?_ ?_
    refine PW.pt ?_
    refine aw_and ?_ ?_
    refine at_cmp (c_eq hr) ?_ ?_
    refine ae_ix ?_ ?_
    exact av 10
    exact a_int
    exact a_int
    refine aw_and1 ?_
    refine at_cmp (c_ne hr) ?_ ?_
    exact av 5
    refine ae_tup ?_
    refine aa_cons ?_ ?_
    refine ae_ix ?_ ?_
    exact av 10
    exact a_int
    exact aa_nil
    refine as_one ?_
    refine as_ret ?_
    exact a_bl
    exact as_nil
    refine as_one ?_
    refine as_for (vs := [7]) ?_ ?_ ?_ PassesOwn.never
    refine ai_range1 h_range ?_
    exact a_int
    exact ag_name (i := 7) sc57.nd
    refine as_one ?_
    refine as_if ?_ ?_ ?_
    refine at_not ?_
    refine at_val ?_
    refine ae_call c__law_is (hr.mono (by decide)) hgd ?_
    refine aa_cons ?_ ?_
    refine ae_lst ?_
    refine aa_cons ?_ ?_
    refine ae_call c_is_crest (hr.mono (by decide)) hgd ?_
    refine aa_cons ?_ ?_
    exact av 2
    refine aa_cons ?_ ?_
    exact av 7
    exact aa_nil
    refine aa_cons ?_ ?_
    refine ae_callK0 ck_is_crest_0_many_row (hr.mono (by decide)) hgd ?_
    refine ak_cons ?_ ?_
    exact av 7
    refine ak_cons ?_ ?_
    exact av 2
    exact ak_nil
    exact aa_nil
    refine aa_cons ?_ ?_
    refine ae_lst ?_
    refine aa_cons ?_ ?_
    refine ae_cmp (c_in hr) ?_ ?_
    exact av 7
    exact av 5
    refine aa_cons ?_ ?_
    refine ae_cmp (c_in hr) ?_ ?_
    exact av 7
    exact av 5
    exact aa_nil
    exact aa_nil
    refine as_one ?_
    refine as_ret ?_
    exact a_bl
    exact as_nil
    refine as_one ?_
    refine as_ret ?_
    exact a_bl
theorem g40 (F : FunD P.K "_law_well" "_law_well" (defArgs s40) (defBody s40) (defScope s40) [] [] fa fd) (h_int : mg "int" = none) (h_len : mg "len" = none) (h_abs : mg "abs" = none) : FnG Pr w P.K mg base CX0 1 fa fd ["script", "lap"] (spOf P 2 fn__law_well) :=
  fnG_nox (k := 0) (f := m__law_well) (n := 2) (nn := 5) finM_ok F sc40 rfl rfl fun cdv A outer s H E hr hgd => by
    refine as_cons ?_ ?_
    refine as_set sc40.nd (i := 2) ?_
    refine a_add ?_ ?_
    exact a_int
    refine a_mul ?_ ?_
    exact a_int
    exact av 1
    refine as_cons ?_ ?_
    refine as_for (vs := [3]) ?_ ?_ ?_ PassesOwn.never
    refine ai_seq ?_
    refine ae_sl ?_ ?_ ?_
    exact av 0
    exact ao_none
    refine ao_some ?_
    exact a_int
    exact ag_name (i := 3) sc40.nd
    refine as_one ?_
    refine as_set sc40.nd (i := 2) ?_
    refine a_mod ?_ ?_
    refine ae_ct b_int h_int ?_
    refine aa_cons ?_ ?_
    refine a_add ?_ ?_
    refine a_add ?_ ?_
    refine a_mul ?_ ?_
    exact av 2
    exact a_int
    refine a_mod ?_ ?_
    refine ae_ct b_int h_int ?_
    refine aa_cons ?_ ?_
    exact av 3
    exact aa_nil
    exact a_int
    exact a_int
    exact aa_nil
    exact a_int
    refine as_cons ?_ ?_
    refine as_set sc40.nd (i := 4) ?_
    refine ae_if ?_ ?_ ?_
    refine at_cmp c_lt ?_ ?_
    exact av 1
    refine ae_cb b_len h_len ?_
    refine aa_cons ?_ ?_
    exact av 0
    exact aa_nil
    refine ae_ct b_int h_int ?_
    refine aa_cons ?_ ?_
    refine ae_ix ?_ ?_
    exact av 0
    exact av 1
    exact aa_nil
    exact a_int
    refine as_cons ?_ ?_
    refine as_set sc40.nd (i := 2) ?_
    refine a_mod ?_ ?_
    refine ae_ct b_int h_int ?_
    refine aa_cons ?_ ?_
    refine a_add ?_ ?_
    refine a_add ?_ ?_
    refine a_mul ?_ ?_
    exact av 2
    exact a_int
    refine a_mul ?_ ?_
    refine a_mod ?_ ?_
    refine ae_ct b_int h_int ?_
    refine aa_cons ?_ ?_
    exact av 4
    exact aa_nil
    exact a_int
    exact a_int
    exact a_int
    exact aa_nil
    exact a_int
    refine as_one ?_
    refine as_ret ?_
    refine ae_lstM ?_
    refine aa_cons ?_ ?_
    refine ae_if ?_ ?_ ?_
    refine PW.pt ?_
    refine aw_or ?_ ?_
    refine at_cmp c_lt ?_ ?_
    exact av 4
    exact a_int
    refine aw_or1 ?_
    refine at_cmp c_ge ?_ ?_
    exact av 4
    refine a_pow ?_ ?_
    exact a_int
    exact a_int
    refine ae_cb b_abs h_abs ?_
    refine aa_cons ?_ ?_
    exact av 4
    exact aa_nil
    exact a_int
    refine aa_cons ?_ ?_
    exact av 2
    refine aa_cons ?_ ?_
    exact a_int
    exact aa_nil
theorem g58 (F : FunD P.K "law" "law" (defArgs s58) (defBody s58) (defScope s58) [] [] fa fd) (h_all : mg "all" = none) (h_range : mg "range" = none) (h_max : mg "max" = none) (h_min : mg "min" = none) (h_len : mg "len" = none) (c__law_right : Gd Pr w P mg base 10 "_law_right" 1 [] fn__law_right) (c__law_well : Gd Pr w P mg base 1 "_law_well" 2 [] fn__law_well) : FnG Pr w P.K mg base CX0 11 fa fd ["script"] (spOf P 1 fn_law) :=
  fnG_nox (k := 10) (f := m_law) (n := 1) (nn := 2) finF_ok F sc58 rfl rfl fun cdv A outer s H E hr hgd => by
    refine as_one ?_
    refine as_ret ?_
    refine ae_cb b_all h_all ?_
    refine aa_cons ?_ ?_
    refine ae_lc (own := [("lap", 1)]) sc58.nd ?_ (blkOk_by (by kernel_rfl)) (fun _ _ _ _ _ => ?_) (fun _ _ _ _ _ => ?_) (fun _ _ _ _ _ => ?_)
    refine ai_range1 h_range ?_
    refine ae_cb b_max h_max ?_
    refine aa_cons ?_ ?_
    exact a_int
    refine aa_cons ?_ ?_
    refine ae_cb b_min h_min ?_
    refine aa_cons ?_ ?_
    refine ae_cb b_len h_len ?_
    refine aa_cons ?_ ?_
    exact av 0
    exact aa_nil
    refine aa_cons ?_ ?_
    exact a_int
    exact aa_nil
    exact aa_nil
    exact ag_name (i := 1) sc58.nd
    exact ats_nil
    refine ae_call c__law_right (hr.mono (by decide)) hgd ?_
    refine aa_cons ?_ ?_
    refine ae_call c__law_well (hr.mono (by decide)) hgd ?_
    refine aa_cons ?_ ?_
    exact av 0
    refine aa_cons ?_ ?_
    exact av 1
    exact aa_nil
    exact aa_nil
    exact aa_nil
end
def tfs : List (He.Defn × Str) := [(("row_fault", none), "row_fault.<locals>.<lambda>")]
def tfd : List He.Defn := [("row_fault", none)]
def dfs : List He.DefD := [
  ⟨("_law_draw", none), "_law_draw", "_law_draw", defArgs s41, defBody s41, defScope s41, [], []⟩,
  ⟨("_law_of", none), "_law_of", "_law_of", defArgs s42, defBody s42, defScope s42, [], []⟩,
  ⟨("_law_cut", none), "_law_cut", "_law_cut", defArgs s45, defBody s45, defScope s45, [], []⟩,
  ⟨("_law_chance", none), "_law_chance", "_law_chance", defArgs s51, defBody s51, defScope s51, [], []⟩,
  ⟨("_law_rest", none), "_law_rest", "_law_rest", defArgs s49, defBody s49, defScope s49, [], []⟩,
  ⟨("_law_mixed", none), "_law_mixed", "_law_mixed", defArgs s43, defBody s43, defScope s43, [], []⟩,
  ⟨("_law_times", none), "_law_times", "_law_times", defArgs s48, defBody s48, defScope s48, [], []⟩,
  ⟨("_law_courses", none), "_law_courses", "_law_courses", defArgs s53, defBody s53, defScope s53, [], []⟩,
  ⟨("_law_sum_of", none), "_law_sum_of", "_law_sum_of", defArgs s46, defBody s46, defScope s46, [], []⟩,
  ⟨("is_whole", none), "is_whole", "is_whole", defArgs s3, defBody s3, defScope s3, [], []⟩,
  ⟨("is_tuple_of", none), "is_tuple_of", "is_tuple_of", defArgs s5, defBody s5, defScope s5, [], []⟩,
  ⟨("is_number", none), "is_number", "is_number", defArgs s4, defBody s4, defScope s4, [.non], []⟩,
  ⟨("common_divisor", none), "common_divisor", "common_divisor", defArgs s7, defBody s7, defScope s7, [], []⟩,
  ⟨("is_fraction", none), "is_fraction", "is_fraction", defArgs s9, defBody s9, defScope s9, [], []⟩,
  ⟨("is_chance_form", none), "is_chance_form", "is_chance_form", defArgs s19, defBody s19, defScope s19, [], []⟩,
  ⟨("first_wrong", none), "first_wrong", "first_wrong", defArgs s6, defBody s6, defScope s6, [], []⟩,
  ⟨("row_fault", none), "row_fault", "row_fault", defArgs s28, defBody s28, defScope s28, [.int 12], []⟩,
  ⟨("lowest", none), "lowest", "lowest", defArgs s8, defBody s8, defScope s8, [], []⟩,
  ⟨("multiplied", none), "multiplied", "multiplied", defArgs s11, defBody s11, defScope s11, [], []⟩,
  ⟨("rest_of", none), "rest_of", "rest_of", defArgs s12, defBody s12, defScope s12, [], []⟩,
  ⟨("added", none), "added", "added", defArgs s10, defBody s10, defScope s10, [], []⟩,
  ⟨("is_less", none), "is_less", "is_less", defArgs s13, defBody s13, defScope s13, [], []⟩,
  ⟨("greater", none), "greater", "greater", defArgs s14, defBody s14, defScope s14, [], []⟩,
  ⟨("counts_in", none), "counts_in", "counts_in", defArgs s21, defBody s21, defScope s21, [], []⟩,
  ⟨("greatest", none), "greatest", "greatest", defArgs s16, defBody s16, defScope s16, [], []⟩,
  ⟨("check_row", none), "check_row", "check_row", defArgs s29, defBody s29, defScope s29, [], []⟩,
  ⟨("crests_in", none), "crests_in", "crests_in", defArgs s33, defBody s33, defScope s33, [], []⟩,
  ⟨("sum_of", none), "sum_of", "sum_of", defArgs s15, defBody s15, defScope s15, [], []⟩,
  ⟨("mean_of", none), "mean_of", "mean_of", defArgs s20, defBody s20, defScope s20, [], []⟩,
  ⟨("check_number", none), "check_number", "check_number", defArgs s30, defBody s30, defScope s30, [.non], []⟩,
  ⟨("check_many", none), "check_many", "check_many", defArgs s31, defBody s31, defScope s31, [.int 0], []⟩,
  ⟨("_law_row", none), "_law_row", "_law_row", defArgs s52, defBody s52, defScope s52, [], []⟩,
  ⟨("_law_whole", none), "_law_whole", "_law_whole", defArgs s56, defBody s56, defScope s56, [], []⟩,
  ⟨("_law_counts", none), "_law_counts", "_law_counts", defArgs s54, defBody s54, defScope s54, [], []⟩,
  ⟨("_law_together", none), "_law_together", "_law_together", defArgs s55, defBody s55, defScope s55, [], []⟩,
  ⟨("_law_below", none), "_law_below", "_law_below", defArgs s50, defBody s50, defScope s50, [], []⟩,
  ⟨("_law_less", none), "_law_less", "_law_less", defArgs s47, defBody s47, defScope s47, [], []⟩,
  ⟨("crests", none), "crests", "crests", defArgs s34, defBody s34, defScope s34, [], []⟩,
  ⟨("near_mean", none), "near_mean", "near_mean", defArgs s35, defBody s35, defScope s35, [], []⟩,
  ⟨("mean", none), "mean", "mean", defArgs s38, defBody s38, defScope s38, [], []⟩,
  ⟨("_law_is", none), "_law_is", "_law_is", defArgs s44, defBody s44, defScope s44, [], []⟩,
  ⟨("is_crest", none), "is_crest", "is_crest", defArgs s36, defBody s36, defScope s36, [], []⟩,
  ⟨("_law_right", none), "_law_right", "_law_right", defArgs s57, defBody s57, defScope s57, [], []⟩,
  ⟨("_law_well", none), "_law_well", "_law_well", defArgs s40, defBody s40, defScope s40, [], []⟩,
  ⟨("law", none), "law", "law", defArgs s58, defBody s58, defScope s58, [], []⟩]
def fas : List He.Fa := [.glo "_law_draw", .glo "_law_of", .glo "_law_cut", .glo "_law_chance", .glo "_law_rest", .glo "_law_mixed", .glo "_law_times", .glo "_law_courses", .glo "_law_sum_of", .glo "is_whole", .glo "is_tuple_of", .glo "is_number", .glo "common_divisor", .glo "is_fraction", .glo "is_chance_form", .glo "first_wrong", .glo "row_fault", .glo "lowest", .glo "multiplied", .glo "rest_of", .glo "added", .glo "is_less", .glo "greater", .glo "counts_in", .glo "greatest", .glo "check_row", .glo "crests_in", .glo "sum_of", .glo "mean_of", .glo "check_number", .glo "check_many", .glo "_law_row", .glo "_law_whole", .glo "_law_counts", .glo "_law_together", .glo "_law_below", .glo "_law_less", .glo "crests", .glo "near_mean", .glo "mean", .glo "_law_is", .glo "is_crest", .glo "_law_right", .glo "_law_well", .glo "law", .free "divmod", .free "int", .free "len", .free "abs", .free "range", .free "tuple", .free "list", .free "enumerate", .free "isinstance", .free "bool", .free "zip", .free "repr", .free "all", .free "max", .free "min"]
def exK (K : PySem.W.Frag) : Bool := (gloB K "MOST_MANY" (.int 12) && (gloB K "NONE" (.tuple [.int 0, .int 1]) && (gloB K "ONE" (.tuple [.int 1, .int 1]) && (isTabB K "bool" && (isTabB K "int" && (isTabB K "tuple" && (apartB K tfd && noLst K)))))))
abbrev RwO : PySem.W.OpenRow := PySem.W.OpenLaw.row PySem.Challenge.rw_signstops_k12_main_whole_crests_near_the
abbrev hk : PySem.W.Hook := He.hookX 4 fas dfs [] tfd exK
def ob (s : PySem.W.SharedT) : He.AlX := He.obsX 4 fas dfs [] tfd exK (HandSHeadRun.getT s)
theorem ob_eq (s : PySem.W.SharedT) : ob s = hk.obs s.abs := He.obsX_eq (HandSHeadRun.getT_eq s)
def ls0 : List Str := ["__name__", "NONE", "ONE", "is_whole", "is_number", "is_tuple_of", "first_wrong", "common_divisor", "lowest", "is_fraction", "added", "multiplied", "rest_of", "is_less", "greater", "sum_of", "greatest", "MOST_MOMENTS", "is_chance_form", "mean_of", "counts_in", "SignError", "InvalidNumber", "InvalidRow", "MOST_MANY", "row_fault", "check_row", "check_number", "check_many", "crests_in"]
def ls1 : List Str := ["crests", "near_mean", "is_crest", "mean", "_law_well", "_law_draw", "_law_of", "_law_mixed", "_law_is", "_law_cut", "_law_sum_of", "_law_less", "_law_times", "_law_rest", "_law_below", "_law_chance", "_law_row", "_law_courses", "_law_counts", "_law_together", "_law_whole", "_law_right"]
abbrev loose : List Str := ls0 ++ ls1
theorem run (w : World) : HandSHeadRun.RunEq RwO (PySem.W.view RwO.prog [58]) hk ob 4000 loose w := by
  intro os
  kernel_rfl
theorem facts {w : World} {mg : Str → Option Value} {f : Addr} {h : Heap} (Y : hk.says w h) (G : h.Ns mainGlobals mg) (hfa : mg ("law" : Str) = some (.ref f)) (hlaw : ∀ ns : List Int, ns.length ≤ 63 → (∀ z ∈ ns, Builtin.Int.intBits z ≤ 1048576) → ∃ M, fn_law [.p (.list (ns.map .int))] [] = some (.p (.bool true), M)) : LawG PySem.Challenge.rw_signstops_k12_main_whole_crests_near_the w 11 63 "script" mg f h := by
  obtain ⟨K, KX, c⟩ := Y
  obtain ⟨fd0, F0⟩ := c.t.d.def_ 0 rfl
  have F0 : FunD K "_law_draw" "_law_draw" (defArgs s41) (defBody s41) (defScope s41) [] [] (He.ga K "_law_draw") fd0 := F0
  have m0 : mg ("_law_draw" : Str) = some (.ref (He.ga K "_law_draw")) := He.glo_ok KX G (c.t.d.fact 0 (f := .glo "_law_draw") rfl)
  obtain ⟨fd1, F1⟩ := c.t.d.def_ 1 rfl
  have F1 : FunD K "_law_of" "_law_of" (defArgs s42) (defBody s42) (defScope s42) [] [] (He.ga K "_law_of") fd1 := F1
  have m1 : mg ("_law_of" : Str) = some (.ref (He.ga K "_law_of")) := He.glo_ok KX G (c.t.d.fact 1 (f := .glo "_law_of") rfl)
  obtain ⟨fd2, F2⟩ := c.t.d.def_ 2 rfl
  have F2 : FunD K "_law_cut" "_law_cut" (defArgs s45) (defBody s45) (defScope s45) [] [] (He.ga K "_law_cut") fd2 := F2
  have m2 : mg ("_law_cut" : Str) = some (.ref (He.ga K "_law_cut")) := He.glo_ok KX G (c.t.d.fact 2 (f := .glo "_law_cut") rfl)
  obtain ⟨fd3, F3⟩ := c.t.d.def_ 3 rfl
  have F3 : FunD K "_law_chance" "_law_chance" (defArgs s51) (defBody s51) (defScope s51) [] [] (He.ga K "_law_chance") fd3 := F3
  have m3 : mg ("_law_chance" : Str) = some (.ref (He.ga K "_law_chance")) := He.glo_ok KX G (c.t.d.fact 3 (f := .glo "_law_chance") rfl)
  obtain ⟨fd4, F4⟩ := c.t.d.def_ 4 rfl
  have F4 : FunD K "_law_rest" "_law_rest" (defArgs s49) (defBody s49) (defScope s49) [] [] (He.ga K "_law_rest") fd4 := F4
  have m4 : mg ("_law_rest" : Str) = some (.ref (He.ga K "_law_rest")) := He.glo_ok KX G (c.t.d.fact 4 (f := .glo "_law_rest") rfl)
  obtain ⟨fd5, F5⟩ := c.t.d.def_ 5 rfl
  have F5 : FunD K "_law_mixed" "_law_mixed" (defArgs s43) (defBody s43) (defScope s43) [] [] (He.ga K "_law_mixed") fd5 := F5
  have m5 : mg ("_law_mixed" : Str) = some (.ref (He.ga K "_law_mixed")) := He.glo_ok KX G (c.t.d.fact 5 (f := .glo "_law_mixed") rfl)
  obtain ⟨fd6, F6⟩ := c.t.d.def_ 6 rfl
  have F6 : FunD K "_law_times" "_law_times" (defArgs s48) (defBody s48) (defScope s48) [] [] (He.ga K "_law_times") fd6 := F6
  have m6 : mg ("_law_times" : Str) = some (.ref (He.ga K "_law_times")) := He.glo_ok KX G (c.t.d.fact 6 (f := .glo "_law_times") rfl)
  obtain ⟨fd7, F7⟩ := c.t.d.def_ 7 rfl
  have F7 : FunD K "_law_courses" "_law_courses" (defArgs s53) (defBody s53) (defScope s53) [] [] (He.ga K "_law_courses") fd7 := F7
  have m7 : mg ("_law_courses" : Str) = some (.ref (He.ga K "_law_courses")) := He.glo_ok KX G (c.t.d.fact 7 (f := .glo "_law_courses") rfl)
  obtain ⟨fd8, F8⟩ := c.t.d.def_ 8 rfl
  have F8 : FunD K "_law_sum_of" "_law_sum_of" (defArgs s46) (defBody s46) (defScope s46) [] [] (He.ga K "_law_sum_of") fd8 := F8
  have m8 : mg ("_law_sum_of" : Str) = some (.ref (He.ga K "_law_sum_of")) := He.glo_ok KX G (c.t.d.fact 8 (f := .glo "_law_sum_of") rfl)
  obtain ⟨fd9, F9⟩ := c.t.d.def_ 9 rfl
  have F9 : FunD K "is_whole" "is_whole" (defArgs s3) (defBody s3) (defScope s3) [] [] (He.ga K "is_whole") fd9 := F9
  have m9 : mg ("is_whole" : Str) = some (.ref (He.ga K "is_whole")) := He.glo_ok KX G (c.t.d.fact 9 (f := .glo "is_whole") rfl)
  obtain ⟨fd10, F10⟩ := c.t.d.def_ 10 rfl
  have F10 : FunD K "is_tuple_of" "is_tuple_of" (defArgs s5) (defBody s5) (defScope s5) [] [] (He.ga K "is_tuple_of") fd10 := F10
  have m10 : mg ("is_tuple_of" : Str) = some (.ref (He.ga K "is_tuple_of")) := He.glo_ok KX G (c.t.d.fact 10 (f := .glo "is_tuple_of") rfl)
  obtain ⟨fd11, F11⟩ := c.t.d.def_ 11 rfl
  have F11 : FunD K "is_number" "is_number" (defArgs s4) (defBody s4) (defScope s4) ([.none].map cV) [] (He.ga K "is_number") fd11 := F11
  have m11 : mg ("is_number" : Str) = some (.ref (He.ga K "is_number")) := He.glo_ok KX G (c.t.d.fact 11 (f := .glo "is_number") rfl)
  obtain ⟨fd12, F12⟩ := c.t.d.def_ 12 rfl
  have F12 : FunD K "common_divisor" "common_divisor" (defArgs s7) (defBody s7) (defScope s7) [] [] (He.ga K "common_divisor") fd12 := F12
  have m12 : mg ("common_divisor" : Str) = some (.ref (He.ga K "common_divisor")) := He.glo_ok KX G (c.t.d.fact 12 (f := .glo "common_divisor") rfl)
  obtain ⟨fd13, F13⟩ := c.t.d.def_ 13 rfl
  have F13 : FunD K "is_fraction" "is_fraction" (defArgs s9) (defBody s9) (defScope s9) [] [] (He.ga K "is_fraction") fd13 := F13
  have m13 : mg ("is_fraction" : Str) = some (.ref (He.ga K "is_fraction")) := He.glo_ok KX G (c.t.d.fact 13 (f := .glo "is_fraction") rfl)
  obtain ⟨fd14, F14⟩ := c.t.d.def_ 14 rfl
  have F14 : FunD K "is_chance_form" "is_chance_form" (defArgs s19) (defBody s19) (defScope s19) [] [] (He.ga K "is_chance_form") fd14 := F14
  have m14 : mg ("is_chance_form" : Str) = some (.ref (He.ga K "is_chance_form")) := He.glo_ok KX G (c.t.d.fact 14 (f := .glo "is_chance_form") rfl)
  obtain ⟨fd15, F15⟩ := c.t.d.def_ 15 rfl
  have F15 : FunD K "first_wrong" "first_wrong" (defArgs s6) (defBody s6) (defScope s6) [] [] (He.ga K "first_wrong") fd15 := F15
  have m15 : mg ("first_wrong" : Str) = some (.ref (He.ga K "first_wrong")) := He.glo_ok KX G (c.t.d.fact 15 (f := .glo "first_wrong") rfl)
  obtain ⟨fd16, F16⟩ := c.t.d.def_ 16 rfl
  have F16 : FunD K "row_fault" "row_fault" (defArgs s28) (defBody s28) (defScope s28) ([.int 12].map cV) [] (He.ga K "row_fault") fd16 := F16
  have m16 : mg ("row_fault" : Str) = some (.ref (He.ga K "row_fault")) := He.glo_ok KX G (c.t.d.fact 16 (f := .glo "row_fault") rfl)
  obtain ⟨fd17, F17⟩ := c.t.d.def_ 17 rfl
  have F17 : FunD K "lowest" "lowest" (defArgs s8) (defBody s8) (defScope s8) [] [] (He.ga K "lowest") fd17 := F17
  have m17 : mg ("lowest" : Str) = some (.ref (He.ga K "lowest")) := He.glo_ok KX G (c.t.d.fact 17 (f := .glo "lowest") rfl)
  obtain ⟨fd18, F18⟩ := c.t.d.def_ 18 rfl
  have F18 : FunD K "multiplied" "multiplied" (defArgs s11) (defBody s11) (defScope s11) [] [] (He.ga K "multiplied") fd18 := F18
  have m18 : mg ("multiplied" : Str) = some (.ref (He.ga K "multiplied")) := He.glo_ok KX G (c.t.d.fact 18 (f := .glo "multiplied") rfl)
  obtain ⟨fd19, F19⟩ := c.t.d.def_ 19 rfl
  have F19 : FunD K "rest_of" "rest_of" (defArgs s12) (defBody s12) (defScope s12) [] [] (He.ga K "rest_of") fd19 := F19
  have m19 : mg ("rest_of" : Str) = some (.ref (He.ga K "rest_of")) := He.glo_ok KX G (c.t.d.fact 19 (f := .glo "rest_of") rfl)
  obtain ⟨fd20, F20⟩ := c.t.d.def_ 20 rfl
  have F20 : FunD K "added" "added" (defArgs s10) (defBody s10) (defScope s10) [] [] (He.ga K "added") fd20 := F20
  have m20 : mg ("added" : Str) = some (.ref (He.ga K "added")) := He.glo_ok KX G (c.t.d.fact 20 (f := .glo "added") rfl)
  obtain ⟨fd21, F21⟩ := c.t.d.def_ 21 rfl
  have F21 : FunD K "is_less" "is_less" (defArgs s13) (defBody s13) (defScope s13) [] [] (He.ga K "is_less") fd21 := F21
  have m21 : mg ("is_less" : Str) = some (.ref (He.ga K "is_less")) := He.glo_ok KX G (c.t.d.fact 21 (f := .glo "is_less") rfl)
  obtain ⟨fd22, F22⟩ := c.t.d.def_ 22 rfl
  have F22 : FunD K "greater" "greater" (defArgs s14) (defBody s14) (defScope s14) [] [] (He.ga K "greater") fd22 := F22
  have m22 : mg ("greater" : Str) = some (.ref (He.ga K "greater")) := He.glo_ok KX G (c.t.d.fact 22 (f := .glo "greater") rfl)
  obtain ⟨fd23, F23⟩ := c.t.d.def_ 23 rfl
  have F23 : FunD K "counts_in" "counts_in" (defArgs s21) (defBody s21) (defScope s21) [] [] (He.ga K "counts_in") fd23 := F23
  have m23 : mg ("counts_in" : Str) = some (.ref (He.ga K "counts_in")) := He.glo_ok KX G (c.t.d.fact 23 (f := .glo "counts_in") rfl)
  obtain ⟨fd24, F24⟩ := c.t.d.def_ 24 rfl
  have F24 : FunD K "greatest" "greatest" (defArgs s16) (defBody s16) (defScope s16) [] [] (He.ga K "greatest") fd24 := F24
  have m24 : mg ("greatest" : Str) = some (.ref (He.ga K "greatest")) := He.glo_ok KX G (c.t.d.fact 24 (f := .glo "greatest") rfl)
  obtain ⟨fd25, F25⟩ := c.t.d.def_ 25 rfl
  have F25 : FunD K "check_row" "check_row" (defArgs s29) (defBody s29) (defScope s29) [] [] (He.ga K "check_row") fd25 := F25
  have m25 : mg ("check_row" : Str) = some (.ref (He.ga K "check_row")) := He.glo_ok KX G (c.t.d.fact 25 (f := .glo "check_row") rfl)
  obtain ⟨fd26, F26⟩ := c.t.d.def_ 26 rfl
  have F26 : FunD K "crests_in" "crests_in" (defArgs s33) (defBody s33) (defScope s33) [] [] (He.ga K "crests_in") fd26 := F26
  have m26 : mg ("crests_in" : Str) = some (.ref (He.ga K "crests_in")) := He.glo_ok KX G (c.t.d.fact 26 (f := .glo "crests_in") rfl)
  obtain ⟨fd27, F27⟩ := c.t.d.def_ 27 rfl
  have F27 : FunD K "sum_of" "sum_of" (defArgs s15) (defBody s15) (defScope s15) [] [] (He.ga K "sum_of") fd27 := F27
  have m27 : mg ("sum_of" : Str) = some (.ref (He.ga K "sum_of")) := He.glo_ok KX G (c.t.d.fact 27 (f := .glo "sum_of") rfl)
  obtain ⟨fd28, F28⟩ := c.t.d.def_ 28 rfl
  have F28 : FunD K "mean_of" "mean_of" (defArgs s20) (defBody s20) (defScope s20) [] [] (He.ga K "mean_of") fd28 := F28
  have m28 : mg ("mean_of" : Str) = some (.ref (He.ga K "mean_of")) := He.glo_ok KX G (c.t.d.fact 28 (f := .glo "mean_of") rfl)
  obtain ⟨fd29, F29⟩ := c.t.d.def_ 29 rfl
  have F29 : FunD K "check_number" "check_number" (defArgs s30) (defBody s30) (defScope s30) ([.none].map cV) [] (He.ga K "check_number") fd29 := F29
  have m29 : mg ("check_number" : Str) = some (.ref (He.ga K "check_number")) := He.glo_ok KX G (c.t.d.fact 29 (f := .glo "check_number") rfl)
  obtain ⟨fd30, F30⟩ := c.t.d.def_ 30 rfl
  have F30 : FunD K "check_many" "check_many" (defArgs s31) (defBody s31) (defScope s31) ([.int 0].map cV) [] (He.ga K "check_many") fd30 := F30
  have m30 : mg ("check_many" : Str) = some (.ref (He.ga K "check_many")) := He.glo_ok KX G (c.t.d.fact 30 (f := .glo "check_many") rfl)
  obtain ⟨fd31, F31⟩ := c.t.d.def_ 31 rfl
  have F31 : FunD K "_law_row" "_law_row" (defArgs s52) (defBody s52) (defScope s52) [] [] (He.ga K "_law_row") fd31 := F31
  have m31 : mg ("_law_row" : Str) = some (.ref (He.ga K "_law_row")) := He.glo_ok KX G (c.t.d.fact 31 (f := .glo "_law_row") rfl)
  obtain ⟨fd32, F32⟩ := c.t.d.def_ 32 rfl
  have F32 : FunD K "_law_whole" "_law_whole" (defArgs s56) (defBody s56) (defScope s56) [] [] (He.ga K "_law_whole") fd32 := F32
  have m32 : mg ("_law_whole" : Str) = some (.ref (He.ga K "_law_whole")) := He.glo_ok KX G (c.t.d.fact 32 (f := .glo "_law_whole") rfl)
  obtain ⟨fd33, F33⟩ := c.t.d.def_ 33 rfl
  have F33 : FunD K "_law_counts" "_law_counts" (defArgs s54) (defBody s54) (defScope s54) [] [] (He.ga K "_law_counts") fd33 := F33
  have m33 : mg ("_law_counts" : Str) = some (.ref (He.ga K "_law_counts")) := He.glo_ok KX G (c.t.d.fact 33 (f := .glo "_law_counts") rfl)
  obtain ⟨fd34, F34⟩ := c.t.d.def_ 34 rfl
  have F34 : FunD K "_law_together" "_law_together" (defArgs s55) (defBody s55) (defScope s55) [] [] (He.ga K "_law_together") fd34 := F34
  have m34 : mg ("_law_together" : Str) = some (.ref (He.ga K "_law_together")) := He.glo_ok KX G (c.t.d.fact 34 (f := .glo "_law_together") rfl)
  obtain ⟨fd35, F35⟩ := c.t.d.def_ 35 rfl
  have F35 : FunD K "_law_below" "_law_below" (defArgs s50) (defBody s50) (defScope s50) [] [] (He.ga K "_law_below") fd35 := F35
  have m35 : mg ("_law_below" : Str) = some (.ref (He.ga K "_law_below")) := He.glo_ok KX G (c.t.d.fact 35 (f := .glo "_law_below") rfl)
  obtain ⟨fd36, F36⟩ := c.t.d.def_ 36 rfl
  have F36 : FunD K "_law_less" "_law_less" (defArgs s47) (defBody s47) (defScope s47) [] [] (He.ga K "_law_less") fd36 := F36
  have m36 : mg ("_law_less" : Str) = some (.ref (He.ga K "_law_less")) := He.glo_ok KX G (c.t.d.fact 36 (f := .glo "_law_less") rfl)
  obtain ⟨fd37, F37⟩ := c.t.d.def_ 37 rfl
  have F37 : FunD K "crests" "crests" (defArgs s34) (defBody s34) (defScope s34) [] [] (He.ga K "crests") fd37 := F37
  have m37 : mg ("crests" : Str) = some (.ref (He.ga K "crests")) := He.glo_ok KX G (c.t.d.fact 37 (f := .glo "crests") rfl)
  obtain ⟨fd38, F38⟩ := c.t.d.def_ 38 rfl
  have F38 : FunD K "near_mean" "near_mean" (defArgs s35) (defBody s35) (defScope s35) [] [] (He.ga K "near_mean") fd38 := F38
  have m38 : mg ("near_mean" : Str) = some (.ref (He.ga K "near_mean")) := He.glo_ok KX G (c.t.d.fact 38 (f := .glo "near_mean") rfl)
  obtain ⟨fd39, F39⟩ := c.t.d.def_ 39 rfl
  have F39 : FunD K "mean" "mean" (defArgs s38) (defBody s38) (defScope s38) [] [] (He.ga K "mean") fd39 := F39
  have m39 : mg ("mean" : Str) = some (.ref (He.ga K "mean")) := He.glo_ok KX G (c.t.d.fact 39 (f := .glo "mean") rfl)
  obtain ⟨fd40, F40⟩ := c.t.d.def_ 40 rfl
  have F40 : FunD K "_law_is" "_law_is" (defArgs s44) (defBody s44) (defScope s44) [] [] (He.ga K "_law_is") fd40 := F40
  have m40 : mg ("_law_is" : Str) = some (.ref (He.ga K "_law_is")) := He.glo_ok KX G (c.t.d.fact 40 (f := .glo "_law_is") rfl)
  obtain ⟨fd41, F41⟩ := c.t.d.def_ 41 rfl
  have F41 : FunD K "is_crest" "is_crest" (defArgs s36) (defBody s36) (defScope s36) [] [] (He.ga K "is_crest") fd41 := F41
  have m41 : mg ("is_crest" : Str) = some (.ref (He.ga K "is_crest")) := He.glo_ok KX G (c.t.d.fact 41 (f := .glo "is_crest") rfl)
  obtain ⟨fd42, F42⟩ := c.t.d.def_ 42 rfl
  have F42 : FunD K "_law_right" "_law_right" (defArgs s57) (defBody s57) (defScope s57) [] [] (He.ga K "_law_right") fd42 := F42
  have m42 : mg ("_law_right" : Str) = some (.ref (He.ga K "_law_right")) := He.glo_ok KX G (c.t.d.fact 42 (f := .glo "_law_right") rfl)
  obtain ⟨fd43, F43⟩ := c.t.d.def_ 43 rfl
  have F43 : FunD K "_law_well" "_law_well" (defArgs s40) (defBody s40) (defScope s40) [] [] (He.ga K "_law_well") fd43 := F43
  have m43 : mg ("_law_well" : Str) = some (.ref (He.ga K "_law_well")) := He.glo_ok KX G (c.t.d.fact 43 (f := .glo "_law_well") rfl)
  obtain ⟨fd44, F44⟩ := c.t.d.def_ 44 rfl
  have F44 : FunD K "law" "law" (defArgs s58) (defBody s58) (defScope s58) [] [] (He.ga K "law") fd44 := F44
  have m44 : mg ("law" : Str) = some (.ref (He.ga K "law")) := He.glo_ok KX G (c.t.d.fact 44 (f := .glo "law") rfl)
  have h_divmod : mg ("divmod" : Str) = none := He.free_ok KX G (c.t.d.fact 45 (f := .free "divmod") rfl)
  have h_int : mg ("int" : Str) = none := He.free_ok KX G (c.t.d.fact 46 (f := .free "int") rfl)
  have h_len : mg ("len" : Str) = none := He.free_ok KX G (c.t.d.fact 47 (f := .free "len") rfl)
  have h_abs : mg ("abs" : Str) = none := He.free_ok KX G (c.t.d.fact 48 (f := .free "abs") rfl)
  have h_range : mg ("range" : Str) = none := He.free_ok KX G (c.t.d.fact 49 (f := .free "range") rfl)
  have h_tuple : mg ("tuple" : Str) = none := He.free_ok KX G (c.t.d.fact 50 (f := .free "tuple") rfl)
  have h_list : mg ("list" : Str) = none := He.free_ok KX G (c.t.d.fact 51 (f := .free "list") rfl)
  have h_enumerate : mg ("enumerate" : Str) = none := He.free_ok KX G (c.t.d.fact 52 (f := .free "enumerate") rfl)
  have h_isinstance : mg ("isinstance" : Str) = none := He.free_ok KX G (c.t.d.fact 53 (f := .free "isinstance") rfl)
  have h_bool : mg ("bool" : Str) = none := He.free_ok KX G (c.t.d.fact 54 (f := .free "bool") rfl)
  have h_zip : mg ("zip" : Str) = none := He.free_ok KX G (c.t.d.fact 55 (f := .free "zip") rfl)
  have h_repr : mg ("repr" : Str) = none := He.free_ok KX G (c.t.d.fact 56 (f := .free "repr") rfl)
  have h_all : mg ("all" : Str) = none := He.free_ok KX G (c.t.d.fact 57 (f := .free "all") rfl)
  have h_max : mg ("max" : Str) = none := He.free_ok KX G (c.t.d.fact 58 (f := .free "max") rfl)
  have h_min : mg ("min" : Str) = none := He.free_ok KX G (c.t.d.fact 59 (f := .free "min") rfl)
  have hex := c.more
  unfold exK at hex
  simp only [Bool.and_eq_true] at hex
  have k_MOST_MANY : Gc K mg "MOST_MANY" (.int 12) := gc_of KX G hex.1
  have k_NONE : Gc K mg "NONE" (.tuple [.int 0, .int 1]) := gc_of KX G hex.2.1
  have k_ONE : Gc K mg "ONE" (.tuple [.int 1, .int 1]) := gc_of KX G hex.2.2.1
  have t_bool : IsTab K "bool" := isTab_of hex.2.2.2.1
  have t_int : IsTab K "int" := isTab_of hex.2.2.2.2.1
  have t_tuple : IsTab K "tuple" := isTab_of hex.2.2.2.2.2.1
  have hap : apartB K (tfs.map (·.1)) = true := hex.2.2.2.2.2.2.1
  have nl := noLst_of hex.2.2.2.2.2.2.2
  have e := hfa.symm.trans m44
  cases e
  have hcs : tfs.map (fun p => He.cT K p.1) = tfd.map (He.cT K) := rfl
  refine ⟨K, fd44, tfd.map (He.cT K), ⟨K, fun _ _ _ => False, tbs K tfs⟩, fn_law, KX, rfl, nl, fun p hp => ?_, fun p hp => ?_, fun p hp => ?_, fun H h => tabsN_of (by rw [hcs]; exact h), fun s v => FunD.bindsA (ps := ["script"]) F44 (fun _ _ _ _ _ _ us hl => match us, hl with | [_], _ => rfl) s [v] rfl, hlaw, fun base hb hg hTB => ?_⟩
  · obtain ⟨q, hq, rfl⟩ := List.mem_map.mp hp; exact c.empty q hq
  · obtain ⟨q, hq, rfl⟩ := List.mem_map.mp hp; exact c.out q hq
  · obtain ⟨q, hq, rfl⟩ := List.mem_map.mp hp; exact PySem.W.codeHd_of_K KX (c.hd q hq)
  let P : Par := ⟨K, fun _ _ _ => False, tbs K tfs⟩
  have c__law_draw : Gd (PySem.Challenge.rw_signstops_k12_main_whole_crests_near_the).prog w P mg base 1 "_law_draw" 2 [] fn__law_draw := gd_all (g41 (Pr := (PySem.Challenge.rw_signstops_k12_main_whole_crests_near_the).prog) (w := w) (P := P) (mg := mg) (base := base) F0 h_divmod h_int) F0 m0 fnWith_ar (fun _ _ _ _ _ _ us hl => match us, hl with | [_, _], _ => rfl)
  have c__law_of : Gd (PySem.Challenge.rw_signstops_k12_main_whole_crests_near_the).prog w P mg base 2 "_law_of" 2 [] fn__law_of := gd_all (g42 (Pr := (PySem.Challenge.rw_signstops_k12_main_whole_crests_near_the).prog) (w := w) (P := P) (mg := mg) (base := base) F1 c__law_draw h_len) F1 m1 fnWith_ar (fun _ _ _ _ _ _ us hl => match us, hl with | [_, _], _ => rfl)
  have c__law_cut : Gd (PySem.Challenge.rw_signstops_k12_main_whole_crests_near_the).prog w P mg base 1 "_law_cut" 2 [] fn__law_cut := gd_all (g45 (Pr := (PySem.Challenge.rw_signstops_k12_main_whole_crests_near_the).prog) (w := w) (P := P) (mg := mg) (base := base) F2 h_abs) F2 m2 fnWith_ar (fun _ _ _ _ _ _ us hl => match us, hl with | [_, _], _ => rfl)
  have c__law_chance : Gd (PySem.Challenge.rw_signstops_k12_main_whole_crests_near_the).prog w P mg base 3 "_law_chance" 1 [] fn__law_chance := gd_all (g51 (Pr := (PySem.Challenge.rw_signstops_k12_main_whole_crests_near_the).prog) (w := w) (P := P) (mg := mg) (base := base) F3 c__law_draw c__law_of c__law_cut) F3 m3 fnWith_ar (fun _ _ _ _ _ _ us hl => match us, hl with | [_], _ => rfl)
  have c__law_rest : Gd (PySem.Challenge.rw_signstops_k12_main_whole_crests_near_the).prog w P mg base 1 "_law_rest" 1 [] fn__law_rest := gd_all (g49 (Pr := (PySem.Challenge.rw_signstops_k12_main_whole_crests_near_the).prog) (w := w) (P := P) (mg := mg) (base := base) F4 ) F4 m4 fnWith_ar (fun _ _ _ _ _ _ us hl => match us, hl with | [_], _ => rfl)
  have c__law_mixed : Gd (PySem.Challenge.rw_signstops_k12_main_whole_crests_near_the).prog w P mg base 2 "_law_mixed" 2 [] fn__law_mixed := gd_all (g43 (Pr := (PySem.Challenge.rw_signstops_k12_main_whole_crests_near_the).prog) (w := w) (P := P) (mg := mg) (base := base) F5 h_list h_range h_len c__law_draw) F5 m5 fnWith_ar (fun _ _ _ _ _ _ us hl => match us, hl with | [_, _], _ => rfl)
  have c__law_times : Gd (PySem.Challenge.rw_signstops_k12_main_whole_crests_near_the).prog w P mg base 2 "_law_times" 2 [] fn__law_times := gd_all (g48 (Pr := (PySem.Challenge.rw_signstops_k12_main_whole_crests_near_the).prog) (w := w) (P := P) (mg := mg) (base := base) F6 c__law_cut) F6 m6 fnWith_ar (fun _ _ _ _ _ _ us hl => match us, hl with | [_, _], _ => rfl)
  have c__law_courses : Gd (PySem.Challenge.rw_signstops_k12_main_whole_crests_near_the).prog w P mg base 3 "_law_courses" 1 [] fn__law_courses := gd_all (g53 (Pr := (PySem.Challenge.rw_signstops_k12_main_whole_crests_near_the).prog) (w := w) (P := P) (mg := mg) (base := base) F7 h_enumerate c__law_times c__law_rest) F7 m7 fnWith_ar (fun _ _ _ _ _ _ us hl => match us, hl with | [_], _ => rfl)
  have c__law_sum_of : Gd (PySem.Challenge.rw_signstops_k12_main_whole_crests_near_the).prog w P mg base 2 "_law_sum_of" 2 [] fn__law_sum_of := gd_all (g46 (Pr := (PySem.Challenge.rw_signstops_k12_main_whole_crests_near_the).prog) (w := w) (P := P) (mg := mg) (base := base) F8 c__law_cut) F8 m8 fnWith_ar (fun _ _ _ _ _ _ us hl => match us, hl with | [_, _], _ => rfl)
  have c_is_whole : Gd (PySem.Challenge.rw_signstops_k12_main_whole_crests_near_the).prog w P mg base 1 "is_whole" 1 [] fn_is_whole := gd_all (g3 (Pr := (PySem.Challenge.rw_signstops_k12_main_whole_crests_near_the).prog) (w := w) (P := P) (mg := mg) (base := base) F9 h_isinstance h_int t_int h_bool t_bool) F9 m9 fnWith_ar (fun _ _ _ _ _ _ us hl => match us, hl with | [_], _ => rfl)
  have c_is_tuple_of : Gd (PySem.Challenge.rw_signstops_k12_main_whole_crests_near_the).prog w P mg base 1 "is_tuple_of" 2 [] fn_is_tuple_of := gd_all (g5 (Pr := (PySem.Challenge.rw_signstops_k12_main_whole_crests_near_the).prog) (w := w) (P := P) (mg := mg) (base := base) F10 h_isinstance h_tuple t_tuple h_len) F10 m10 fnWith_ar (fun _ _ _ _ _ _ us hl => match us, hl with | [_, _], _ => rfl)
  have c_is_number_2 : Gd (PySem.Challenge.rw_signstops_k12_main_whole_crests_near_the).prog w P mg base 2 "is_number" 3 [.none] fn_is_number := gd_dfl (ds := [.none]) (g4 (Pr := (PySem.Challenge.rw_signstops_k12_main_whole_crests_near_the).prog) (w := w) (P := P) (mg := mg) (base := base) F11 c_is_whole) F11 m11 fnWith_ar 2 0 (by decide) (by decide) (by decide) (fun _ _ _ _ _ _ _ us its h1 h2 => match us, h1, its, h2 with | [_, _], _, [_], _ => ⟨_, rfl, rfl⟩)
  have c_common_divisor : Gd (PySem.Challenge.rw_signstops_k12_main_whole_crests_near_the).prog w P mg base 1 "common_divisor" 2 [] fn_common_divisor := gd_all (g7 (Pr := (PySem.Challenge.rw_signstops_k12_main_whole_crests_near_the).prog) (w := w) (P := P) (mg := mg) (base := base) F12 ) F12 m12 fnWith_ar (fun _ _ _ _ _ _ us hl => match us, hl with | [_, _], _ => rfl)
  have c_is_fraction : Gd (PySem.Challenge.rw_signstops_k12_main_whole_crests_near_the).prog w P mg base 3 "is_fraction" 1 [] fn_is_fraction := gd_all (g9 (Pr := (PySem.Challenge.rw_signstops_k12_main_whole_crests_near_the).prog) (w := w) (P := P) (mg := mg) (base := base) F13 c_is_tuple_of c_is_whole c_is_number_2 c_common_divisor h_abs) F13 m13 fnWith_ar (fun _ _ _ _ _ _ us hl => match us, hl with | [_], _ => rfl)
  have c_is_chance_form : Gd (PySem.Challenge.rw_signstops_k12_main_whole_crests_near_the).prog w P mg base 4 "is_chance_form" 1 [] fn_is_chance_form := gd_all (g19 (Pr := (PySem.Challenge.rw_signstops_k12_main_whole_crests_near_the).prog) (w := w) (P := P) (mg := mg) (base := base) F14 c_is_fraction) F14 m14 fnWith_ar (fun _ _ _ _ _ _ us hl => match us, hl with | [_], _ => rfl)
  have hg_first_wrong : ∀ k, 0 ≤ k → HoG (PySem.Challenge.rw_signstops_k12_main_whole_crests_near_the).prog w P.K mg base k "first_wrong" 2 4 m_first_wrong := fun k hk => hog_of F15 m15 sc6 rfl rfl (fun _ _ _ _ _ _ us hl => match us, hl with | [_, _], _ => rfl) (g6 (Pr := (PySem.Challenge.rw_signstops_k12_main_whole_crests_near_the).prog) (w := w) (mg := mg) (base := base) F15 h_enumerate hk)
  have c_row_fault_1 : Gd (PySem.Challenge.rw_signstops_k12_main_whole_crests_near_the).prog w P mg base 7 "row_fault" 2 [.int 12] fn_row_fault := gd_dfl (ds := [.int 12]) (g28 (Pr := (PySem.Challenge.rw_signstops_k12_main_whole_crests_near_the).prog) (w := w) (P := P) (mg := mg) (base := base) F16 (code_of (p := ("row_fault", none)) F16) (hTB _ (List.mem_map.mpr ⟨("row_fault", none), by decide, rfl⟩)) (tbOk_of hap (("row_fault", none), "row_fault.<locals>.<lambda>") (by decide)) h_isinstance h_tuple t_tuple h_len c_is_chance_form hg_first_wrong) F16 m16 fnWith_ar 1 0 (by decide) (by decide) (by decide) (fun _ _ _ _ _ _ _ us its h1 h2 => match us, h1, its, h2 with | [_], _, [_], _ => ⟨_, rfl, rfl⟩)
  have c_lowest : Gd (PySem.Challenge.rw_signstops_k12_main_whole_crests_near_the).prog w P mg base 2 "lowest" 2 [] fn_lowest := gd_all (g8 (Pr := (PySem.Challenge.rw_signstops_k12_main_whole_crests_near_the).prog) (w := w) (P := P) (mg := mg) (base := base) F17 c_common_divisor h_abs) F17 m17 fnWith_ar (fun _ _ _ _ _ _ us hl => match us, hl with | [_, _], _ => rfl)
  have c_multiplied : Gd (PySem.Challenge.rw_signstops_k12_main_whole_crests_near_the).prog w P mg base 3 "multiplied" 2 [] fn_multiplied := gd_all (g11 (Pr := (PySem.Challenge.rw_signstops_k12_main_whole_crests_near_the).prog) (w := w) (P := P) (mg := mg) (base := base) F18 c_lowest) F18 m18 fnWith_ar (fun _ _ _ _ _ _ us hl => match us, hl with | [_, _], _ => rfl)
  have c_rest_of : Gd (PySem.Challenge.rw_signstops_k12_main_whole_crests_near_the).prog w P mg base 1 "rest_of" 1 [] fn_rest_of := gd_all (g12 (Pr := (PySem.Challenge.rw_signstops_k12_main_whole_crests_near_the).prog) (w := w) (P := P) (mg := mg) (base := base) F19 ) F19 m19 fnWith_ar (fun _ _ _ _ _ _ us hl => match us, hl with | [_], _ => rfl)
  have c_added : Gd (PySem.Challenge.rw_signstops_k12_main_whole_crests_near_the).prog w P mg base 3 "added" 2 [] fn_added := gd_all (g10 (Pr := (PySem.Challenge.rw_signstops_k12_main_whole_crests_near_the).prog) (w := w) (P := P) (mg := mg) (base := base) F20 c_lowest) F20 m20 fnWith_ar (fun _ _ _ _ _ _ us hl => match us, hl with | [_, _], _ => rfl)
  have c_is_less : Gd (PySem.Challenge.rw_signstops_k12_main_whole_crests_near_the).prog w P mg base 1 "is_less" 2 [] fn_is_less := gd_all (g13 (Pr := (PySem.Challenge.rw_signstops_k12_main_whole_crests_near_the).prog) (w := w) (P := P) (mg := mg) (base := base) F21 ) F21 m21 fnWith_ar (fun _ _ _ _ _ _ us hl => match us, hl with | [_, _], _ => rfl)
  have c_greater : Gd (PySem.Challenge.rw_signstops_k12_main_whole_crests_near_the).prog w P mg base 2 "greater" 2 [] fn_greater := gd_all (g14 (Pr := (PySem.Challenge.rw_signstops_k12_main_whole_crests_near_the).prog) (w := w) (P := P) (mg := mg) (base := base) F22 c_is_less) F22 m22 fnWith_ar (fun _ _ _ _ _ _ us hl => match us, hl with | [_, _], _ => rfl)
  have c_counts_in : Gd (PySem.Challenge.rw_signstops_k12_main_whole_crests_near_the).prog w P mg base 4 "counts_in" 1 [] fn_counts_in := gd_all (g21 (Pr := (PySem.Challenge.rw_signstops_k12_main_whole_crests_near_the).prog) (w := w) (P := P) (mg := mg) (base := base) F23 k_ONE k_NONE c_multiplied c_rest_of h_zip c_added) F23 m23 fnWith_ar (fun _ _ _ _ _ _ us hl => match us, hl with | [_], _ => rfl)
  have c_greatest : Gd (PySem.Challenge.rw_signstops_k12_main_whole_crests_near_the).prog w P mg base 3 "greatest" 1 [] fn_greatest := gd_all (g16 (Pr := (PySem.Challenge.rw_signstops_k12_main_whole_crests_near_the).prog) (w := w) (P := P) (mg := mg) (base := base) F24 c_greater) F24 m24 fnWith_ar (fun _ _ _ _ _ _ us hl => match us, hl with | [_], _ => rfl)
  have c_check_row : Gd (PySem.Challenge.rw_signstops_k12_main_whole_crests_near_the).prog w P mg base 8 "check_row" 1 [] fn_check_row := gd_all (g29 (Pr := (PySem.Challenge.rw_signstops_k12_main_whole_crests_near_the).prog) (w := w) (P := P) (mg := mg) (base := base) F25 c_row_fault_1 h_len) F25 m25 fnWith_ar (fun _ _ _ _ _ _ us hl => match us, hl with | [_], _ => rfl)
  have c_crests_in : Gd (PySem.Challenge.rw_signstops_k12_main_whole_crests_near_the).prog w P mg base 5 "crests_in" 1 [] fn_crests_in := gd_all (g33 (Pr := (PySem.Challenge.rw_signstops_k12_main_whole_crests_near_the).prog) (w := w) (P := P) (mg := mg) (base := base) F26 c_counts_in c_greatest h_tuple h_enumerate) F26 m26 fnWith_ar (fun _ _ _ _ _ _ us hl => match us, hl with | [_], _ => rfl)
  have c_sum_of : Gd (PySem.Challenge.rw_signstops_k12_main_whole_crests_near_the).prog w P mg base 4 "sum_of" 1 [] fn_sum_of := gd_all (g15 (Pr := (PySem.Challenge.rw_signstops_k12_main_whole_crests_near_the).prog) (w := w) (P := P) (mg := mg) (base := base) F27 k_NONE c_added) F27 m27 fnWith_ar (fun _ _ _ _ _ _ us hl => match us, hl with | [_], _ => rfl)
  have c_mean_of : Gd (PySem.Challenge.rw_signstops_k12_main_whole_crests_near_the).prog w P mg base 5 "mean_of" 1 [] fn_mean_of := gd_all (g20 (Pr := (PySem.Challenge.rw_signstops_k12_main_whole_crests_near_the).prog) (w := w) (P := P) (mg := mg) (base := base) F28 c_sum_of) F28 m28 fnWith_ar (fun _ _ _ _ _ _ us hl => match us, hl with | [_], _ => rfl)
  have c_is_number : Gd (PySem.Challenge.rw_signstops_k12_main_whole_crests_near_the).prog w P mg base 2 "is_number" 3 [] fn_is_number := gd_dfl (ds := [.none]) (g4 (Pr := (PySem.Challenge.rw_signstops_k12_main_whole_crests_near_the).prog) (w := w) (P := P) (mg := mg) (base := base) F11 c_is_whole) F11 m11 fnWith_ar 3 1 (by decide) (by decide) (by decide) (fun _ _ _ _ _ _ _ us its h1 h2 => match us, h1, its, h2 with | [_, _, _], _, [_], _ => ⟨_, rfl, rfl⟩)
  have c_check_number : Gd (PySem.Challenge.rw_signstops_k12_main_whole_crests_near_the).prog w P mg base 3 "check_number" 3 [] fn_check_number := gd_dfl (ds := [.none]) (g30 (Pr := (PySem.Challenge.rw_signstops_k12_main_whole_crests_near_the).prog) (w := w) (P := P) (mg := mg) (base := base) F29 c_is_number) F29 m29 fnWith_ar 3 1 (by decide) (by decide) (by decide) (fun _ _ _ _ _ _ _ us its h1 h2 => match us, h1, its, h2 with | [_, _, _], _, [_], _ => ⟨_, rfl, rfl⟩)
  have c_check_many_1 : Gd (PySem.Challenge.rw_signstops_k12_main_whole_crests_near_the).prog w P mg base 4 "check_many" 2 [.int 0] fn_check_many := gd_dfl (ds := [.int 0]) (g31 (Pr := (PySem.Challenge.rw_signstops_k12_main_whole_crests_near_the).prog) (w := w) (P := P) (mg := mg) (base := base) F30 c_check_number k_MOST_MANY) F30 m30 fnWith_ar 1 0 (by decide) (by decide) (by decide) (fun _ _ _ _ _ _ _ us its h1 h2 => match us, h1, its, h2 with | [_], _, [_], _ => ⟨_, rfl, rfl⟩)
  have c__law_row : Gd (PySem.Challenge.rw_signstops_k12_main_whole_crests_near_the).prog w P mg base 4 "_law_row" 2 [] fn__law_row := gd_all (g52 (Pr := (PySem.Challenge.rw_signstops_k12_main_whole_crests_near_the).prog) (w := w) (P := P) (mg := mg) (base := base) F31 h_range c__law_chance c__law_draw c__law_of h_tuple) F31 m31 fnWith_ar (fun _ _ _ _ _ _ us hl => match us, hl with | [_, _], _ => rfl)
  have c__law_whole : Gd (PySem.Challenge.rw_signstops_k12_main_whole_crests_near_the).prog w P mg base 4 "_law_whole" 1 [] fn__law_whole := gd_all (g56 (Pr := (PySem.Challenge.rw_signstops_k12_main_whole_crests_near_the).prog) (w := w) (P := P) (mg := mg) (base := base) F32 h_range c__law_draw c__law_chance c__law_rest h_tuple c__law_mixed) F32 m32 fnWith_ar (fun _ _ _ _ _ _ us hl => match us, hl with | [_], _ => rfl)
  have c__law_counts : Gd (PySem.Challenge.rw_signstops_k12_main_whole_crests_near_the).prog w P mg base 4 "_law_counts" 1 [] fn__law_counts := gd_all (g54 (Pr := (PySem.Challenge.rw_signstops_k12_main_whole_crests_near_the).prog) (w := w) (P := P) (mg := mg) (base := base) F33 h_range h_len c__law_courses c__law_sum_of h_tuple) F33 m33 fnWith_ar (fun _ _ _ _ _ _ us hl => match us, hl with | [_], _ => rfl)
  have c__law_together : Gd (PySem.Challenge.rw_signstops_k12_main_whole_crests_near_the).prog w P mg base 3 "_law_together" 1 [] fn__law_together := gd_all (g55 (Pr := (PySem.Challenge.rw_signstops_k12_main_whole_crests_near_the).prog) (w := w) (P := P) (mg := mg) (base := base) F34 c__law_sum_of) F34 m34 fnWith_ar (fun _ _ _ _ _ _ us hl => match us, hl with | [_], _ => rfl)
  have c__law_below : Gd (PySem.Challenge.rw_signstops_k12_main_whole_crests_near_the).prog w P mg base 1 "_law_below" 2 [] fn__law_below := gd_all (g50 (Pr := (PySem.Challenge.rw_signstops_k12_main_whole_crests_near_the).prog) (w := w) (P := P) (mg := mg) (base := base) F35 ) F35 m35 fnWith_ar (fun _ _ _ _ _ _ us hl => match us, hl with | [_, _], _ => rfl)
  have c__law_less : Gd (PySem.Challenge.rw_signstops_k12_main_whole_crests_near_the).prog w P mg base 3 "_law_less" 2 [] fn__law_less := gd_all (g47 (Pr := (PySem.Challenge.rw_signstops_k12_main_whole_crests_near_the).prog) (w := w) (P := P) (mg := mg) (base := base) F36 c__law_sum_of) F36 m36 fnWith_ar (fun _ _ _ _ _ _ us hl => match us, hl with | [_, _], _ => rfl)
  have c_crests : Gd (PySem.Challenge.rw_signstops_k12_main_whole_crests_near_the).prog w P mg base 9 "crests" 1 [] fn_crests := gd_all (g34 (Pr := (PySem.Challenge.rw_signstops_k12_main_whole_crests_near_the).prog) (w := w) (P := P) (mg := mg) (base := base) F37 c_check_row c_crests_in) F37 m37 fnWith_ar (fun _ _ _ _ _ _ us hl => match us, hl with | [_], _ => rfl)
  have ck_crests_0_row : GdK (PySem.Challenge.rw_signstops_k12_main_whole_crests_near_the).prog w P mg base 9 "crests" 1 0 ["row"] (fun us ws => pick [(1, 0)] us ws []) fn_crests := gdk_all [(1, 0)] (g34 (Pr := (PySem.Challenge.rw_signstops_k12_main_whole_crests_near_the).prog) (w := w) (P := P) (mg := mg) (base := base) F37 c_check_row c_crests_in) F37 m37 fnWith_ar (fun _ _ _ _ _ _ us ws h1 h2 => match us, h1, ws, h2 with | [], _, [_], _ => rfl)
  have c_near_mean : Gd (PySem.Challenge.rw_signstops_k12_main_whole_crests_near_the).prog w P mg base 9 "near_mean" 1 [] fn_near_mean := gd_all (g35 (Pr := (PySem.Challenge.rw_signstops_k12_main_whole_crests_near_the).prog) (w := w) (P := P) (mg := mg) (base := base) F38 c_check_row c_mean_of h_tuple h_range h_len h_abs) F38 m38 fnWith_ar (fun _ _ _ _ _ _ us hl => match us, hl with | [_], _ => rfl)
  have ck_near_mean_0_row : GdK (PySem.Challenge.rw_signstops_k12_main_whole_crests_near_the).prog w P mg base 9 "near_mean" 1 0 ["row"] (fun us ws => pick [(1, 0)] us ws []) fn_near_mean := gdk_all [(1, 0)] (g35 (Pr := (PySem.Challenge.rw_signstops_k12_main_whole_crests_near_the).prog) (w := w) (P := P) (mg := mg) (base := base) F38 c_check_row c_mean_of h_tuple h_range h_len h_abs) F38 m38 fnWith_ar (fun _ _ _ _ _ _ us ws h1 h2 => match us, h1, ws, h2 with | [], _, [_], _ => rfl)
  have c_mean : Gd (PySem.Challenge.rw_signstops_k12_main_whole_crests_near_the).prog w P mg base 9 "mean" 1 [] fn_mean := gd_all (g38 (Pr := (PySem.Challenge.rw_signstops_k12_main_whole_crests_near_the).prog) (w := w) (P := P) (mg := mg) (base := base) F39 c_check_row c_mean_of) F39 m39 fnWith_ar (fun _ _ _ _ _ _ us hl => match us, hl with | [_], _ => rfl)
  have c__law_is : Gd (PySem.Challenge.rw_signstops_k12_main_whole_crests_near_the).prog w P mg base 1 "_law_is" 2 [] fn__law_is := gd_all (g44 (Pr := (PySem.Challenge.rw_signstops_k12_main_whole_crests_near_the).prog) (w := w) (P := P) (mg := mg) (base := base) F40 h_repr) F40 m40 fnWith_ar (fun _ _ _ _ _ _ us hl => match us, hl with | [_, _], _ => rfl)
  have c_is_crest : Gd (PySem.Challenge.rw_signstops_k12_main_whole_crests_near_the).prog w P mg base 9 "is_crest" 2 [] fn_is_crest := gd_all (g36 (Pr := (PySem.Challenge.rw_signstops_k12_main_whole_crests_near_the).prog) (w := w) (P := P) (mg := mg) (base := base) F41 c_check_row c_check_many_1 c_crests_in) F41 m41 fnWith_ar (fun _ _ _ _ _ _ us hl => match us, hl with | [_, _], _ => rfl)
  have ck_is_crest_0_many_row : GdK (PySem.Challenge.rw_signstops_k12_main_whole_crests_near_the).prog w P mg base 9 "is_crest" 2 0 ["many", "row"] (fun us ws => pick [(1, 1), (1, 0)] us ws []) fn_is_crest := gdk_all [(1, 1), (1, 0)] (g36 (Pr := (PySem.Challenge.rw_signstops_k12_main_whole_crests_near_the).prog) (w := w) (P := P) (mg := mg) (base := base) F41 c_check_row c_check_many_1 c_crests_in) F41 m41 fnWith_ar (fun _ _ _ _ _ _ us ws h1 h2 => match us, h1, ws, h2 with | [], _, [_, _], _ => rfl)
  have c__law_right : Gd (PySem.Challenge.rw_signstops_k12_main_whole_crests_near_the).prog w P mg base 10 "_law_right" 1 [] fn__law_right := gd_all (g57 (Pr := (PySem.Challenge.rw_signstops_k12_main_whole_crests_near_the).prog) (w := w) (P := P) (mg := mg) (base := base) F42 h_range c__law_row c__law_whole c__law_counts c__law_together c__law_below h_tuple h_enumerate c__law_less h_abs c_crests ck_crests_0_row c_near_mean ck_near_mean_0_row c_mean c__law_is h_len c_is_crest ck_is_crest_0_many_row) F42 m42 fnWith_ar (fun _ _ _ _ _ _ us hl => match us, hl with | [_], _ => rfl)
  have c__law_well : Gd (PySem.Challenge.rw_signstops_k12_main_whole_crests_near_the).prog w P mg base 1 "_law_well" 2 [] fn__law_well := gd_all (g40 (Pr := (PySem.Challenge.rw_signstops_k12_main_whole_crests_near_the).prog) (w := w) (P := P) (mg := mg) (base := base) F43 h_int h_len h_abs) F43 m43 fnWith_ar (fun _ _ _ _ _ _ us hl => match us, hl with | [_, _], _ => rfl)
  exact g58 (P := P) F44 h_all h_range h_max h_min h_len c__law_right c__law_well
end AX
open PySem PySem.W PySem.Calls PyProof.Rows
theorem PySem.Challenge.cw_signstops_k12_main_whole_crests_near_the_holds : PySem.Challenge.rw_signstops_k12_main_whole_crests_near_the.Holds := by
  w_on; o_law
  refine HandSHeadRun.head_any (r := PySem.W.OpenLaw.row PySem.Challenge.rw_signstops_k12_main_whole_crests_near_the) (q := view (PySem.W.OpenLaw.row PySem.Challenge.rw_signstops_k12_main_whole_crests_near_the).prog [58]) (H := AX.hk) (ob := AX.ob) (M := 4000) (loose := AX.loose) (d := HandSHeadRun.topDef (PySem.W.OpenLaw.row PySem.Challenge.rw_signstops_k12_main_whole_crests_near_the).prog 58) (kwd := []) AX.ob_eq
    (by kernel_rfl) (fun s => by kernel_rfl) AX.run (by kernel_rfl) (by kernel_rfl) (by kernel_rfl) (by rfl) (by first | assumption | decide +kernel) (by decide +kernel) ⟨rfl, rfl, rfl, rfl, rfl, by decide +kernel⟩ ?hw ?hc
  case hw => w_witness2
  case hc =>
    refine AX.walk_g (l := PySem.Challenge.rw_signstops_k12_main_whole_crests_near_the) (n := 63) (k := 11) (x := "script") rfl (by decide) (by kernel_rfl) ⟨rfl, by decide, by decide⟩ ?F
    intro w mg fa h Y G hmg0
    have hmg : mg ("law" : PySem.Str) = some (.ref fa) := by
      have e : (HandSHeadRun.topDef (PySem.W.OpenLaw.row PySem.Challenge.rw_signstops_k12_main_whole_crests_near_the).prog 58).name = ("law" : PySem.Str) := by kernel_rfl
      rw [← e]
      exact hmg0
    exact AX.facts Y G hmg AX.law_pure
