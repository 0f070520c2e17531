import PyProof.Rows.All
import Wide.All
import OpenK.AllK
import Wide.FinOn
import HandS.Base
import HandS.Call
import HandS.List
import HandS.Comp
import HandS.Dict
import HandS.Iter
import HandS.Words
import HandS.Lambda
import HandS.TupAny
import HandS.Style
import HandS.Conv
import KE.GoesEnum
import HandS.Deep
import KE.SortData
import KE.SortKeyHeap
import HandS.SortKw
import HandS.EndTab
import HandS.TupSets
import HandS.IsInst
import KE.KDictDisplayH
import PyProof.ReprRoads
import HandS.NoneIn
import HandS.WordsDict
import PyProof.ReprLen
import HandS.HeadHook4
import HandS.Defaults
import KE.KNestM
import HandS.Head0
import HandS.Head1
import HandS.Head2
import HandS.HeadEnd
import PySem.Challenge.RW_piecetrees_k41_whole_classes_are_arrows
set_option Elab.async false
section
set_option autoImplicit false
set_option linter.all false
/-! K41, plain law, part A: modules, strong lots, parts of a web. No program in sight. -/
namespace K41
open Classical

/-- a lot that no thing outside (below n) tells apart -/
def Mo (n : Nat) (t : Nat → Nat → Bool) (S : Nat → Prop) : Prop :=
  (∀ x, S x → x < n) ∧ ∀ z, z < n → ¬ S z → ∀ x y, S x → S y → t z x = t z y
/-- strong: nested with each module that it meets -/
def Stg (n : Nat) (t : Nat → Nat → Bool) (S : Nat → Prop) : Prop :=
  Mo n t S ∧ (∃ x, S x) ∧ ∀ T, Mo n t T → (∃ x, S x ∧ T x) → (∀ x, S x → T x) ∨ (∀ x, T x → S x)
structure Wb (t : Nat → Nat → Bool) : Prop where
  sym : ∀ x y, t x y = t y x
  irr : ∀ x, t x x = false

/-- walks along a relation -/
inductive Cn {α : Type} (R : α → α → Prop) (a : α) : α → Prop
  | refl : Cn R a a
  | step {y z : α} : Cn R a y → R y z → Cn R a z
section
variable {α : Type} {R R' : α → α → Prop} {a b c : α}
theorem Cn.trans (h : Cn R a b) (k : Cn R b c) : Cn R a c := by
  induction k with
  | refl => exact h
  | step _ r ih => exact .step ih r
theorem Cn.symm (hs : ∀ x y, R x y → R y x) (h : Cn R a b) : Cn R b a := by
  induction h with
  | refl => exact .refl
  | step _ r ih => exact (Cn.step .refl (hs _ _ r)).trans ih
theorem Cn.mono (h : ∀ x y, R x y → R' x y) (k : Cn R a b) : Cn R' a b := by
  induction k with
  | refl => exact .refl
  | step _ r ih => exact .step ih (h _ _ r)
/-- what is closed under R holds along the walk -/
theorem Cn.keep {P : α → Prop} (hP : ∀ x y, P x → R x y → P y) (k : Cn R a b) (h : P a) : P b := by
  induction k with
  | refl => exact h
  | step _ r ih => exact hP _ _ ih r
end

/-- unlike things below n that look the other way than f -/
def Ad (n : Nat) (t : Nat → Nat → Bool) (f : Bool) (x y : Nat) : Prop := x < n ∧ y < n ∧ x ≠ y ∧ t x y = !f
theorem Ad.symm {n : Nat} {t : Nat → Nat → Bool} (w : Wb t) {f : Bool} (x y : Nat) (h : Ad n t f x y) : Ad n t f y x :=
  ⟨h.2.1, h.1, h.2.2.1.symm, by rw [w.sym]; exact h.2.2.2⟩
theorem Cn.lt {n : Nat} {t : Nat → Nat → Bool} {f : Bool} {a b : Nat} (h : Cn (Ad n t f) a b) (ha : a < n) : b < n :=
  h.keep (P := fun x => x < n) (fun _ _ _ r => r.2.1) ha

/-- E tells the sons of the whole -/
structure Parts (n : Nat) (t : Nat → Nat → Bool) (E : Nat → Nat → Prop) : Prop where
  rfl' : ∀ x, x < n → E x x
  lt : ∀ x y, x < n → E x y → y < n
  sym : ∀ x y, x < n → E x y → E y x
  tr : ∀ x y z, x < n → E x y → E y z → E x z
  str : ∀ x, x < n → Stg n t (E x)
  two : ∃ x y, x < n ∧ y < n ∧ ¬ E x y
  ins : ∀ T, Stg n t T → (∃ w, w < n ∧ ¬ T w) → ∀ x y, T x → T y → E x y

section
variable {n : Nat} {t : Nat → Nat → Bool}
theorem mo_all : Mo n t (fun x => x < n) := ⟨fun _ h => h, fun _ h k => absurd h k⟩
theorem mo_one {x : Nat} (h : x < n) : Mo n t (fun y => y = x) := ⟨fun y e => by rw [e]; exact h, fun z _ _ a b ea eb => by rw [ea, eb]⟩
theorem mo_join {S T : Nat → Prop} (hS : Mo n t S) (hT : Mo n t T) (m : ∃ x, S x ∧ T x) : Mo n t (fun x => S x ∨ T x) := by
  obtain ⟨c, cS, cT⟩ := m
  refine ⟨fun x h => h.elim (hS.1 x) (hT.1 x), fun z hz hn x y hx hy => ?_⟩
  have nS : ¬ S z := fun q => hn (.inl q)
  have nT : ¬ T z := fun q => hn (.inr q)
  have key : ∀ x, S x ∨ T x → t z x = t z c := fun x h => h.elim (fun q => hS.2 z hz nS x c q cS) (fun q => hT.2 z hz nT x c q cT)
  rw [key x hx, key y hy]
theorem mo_meet {S T : Nat → Prop} (hS : Mo n t S) (hT : Mo n t T) : Mo n t (fun x => S x ∧ T x) := by
  refine ⟨fun x h => hS.1 x h.1, fun z hz hn x y hx hy => ?_⟩
  by_cases h : S z
  · exact hT.2 z hz (fun q => hn ⟨h, q⟩) x y hx.2 hy.2
  · exact hS.2 z hz h x y hx.1 hy.1
theorem str_all (h : 0 < n) : Stg n t (fun x => x < n) := ⟨mo_all, ⟨0, h⟩, fun T hT _ => .inr hT.1⟩
theorem str_one {x : Nat} (h : x < n) : Stg n t (fun y => y = x) :=
  ⟨mo_one h, ⟨x, rfl⟩, fun T _ ⟨y, e, q⟩ => .inl fun z ez => by rw [ez, ← e]; exact q⟩

/-! ### where the walks of one look part -/
section
variable (w : Wb t) {f : Bool}
include w
theorem cn_out {x y z : Nat} (hx : x < n) (hy : Cn (Ad n t f) x y) (hz : z < n) (hn : ¬ Cn (Ad n t f) x z) : t z y = f := by
  cases e : t z y with
  | true =>
    cases f with
    | true => rfl
    | false => exact absurd (hy.step ⟨hy.lt hx, hz, fun q => hn (q ▸ hy), by rw [w.sym, e]; rfl⟩) hn
  | false =>
    cases f with
    | false => rfl
    | true => exact absurd (hy.step ⟨hy.lt hx, hz, fun q => hn (q ▸ hy), by rw [w.sym, e]; rfl⟩) hn
theorem mo_cn {x : Nat} (hx : x < n) : Mo n t (Cn (Ad n t f) x) :=
  ⟨fun _ h => h.lt hx, fun z hz hn a b ha hb => by rw [cn_out w hx ha hz hn, cn_out w hx hb hz hn]⟩
theorem mo_cn2 {x y : Nat} (hx : x < n) (hy : y < n) : Mo n t (fun z => Cn (Ad n t f) x z ∨ Cn (Ad n t f) y z) := by
  refine ⟨fun _ h => h.elim (fun q => q.lt hx) (fun q => q.lt hy), fun z hz hn a b ha hb => ?_⟩
  have key : ∀ c, Cn (Ad n t f) x c ∨ Cn (Ad n t f) y c → t z c = f := fun c h =>
    h.elim (fun q => cn_out w hx q hz fun k => hn (.inl k)) (fun q => cn_out w hy q hz fun k => hn (.inr k))
  rw [key a ha, key b hb]
theorem cn_sym {a b : Nat} (h : Cn (Ad n t f) a b) : Cn (Ad n t f) b a := h.symm (Ad.symm w)
theorem str_cn {x : Nat} (hx : x < n) : Stg n t (Cn (Ad n t f) x) := by
  refine ⟨mo_cn w hx, ⟨x, .refl⟩, fun T hT ⟨c, cc, cT⟩ => ?_⟩
  by_cases h : ∀ y, T y → Cn (Ad n t f) x y
  · exact .inr h
  refine .inl fun y hy => ?_
  -- a thing u of T outside; from c all that the walk meets is in T
  obtain ⟨u, hu⟩ := Classical.not_forall.mp h
  have uT : T u := Classical.byContradiction fun q => hu fun k => absurd k q
  have nu : ¬ Cn (Ad n t f) x u := fun q => hu fun _ => q
  have hc : Cn (Ad n t f) c y := (cn_sym w cc).trans hy
  have go : T y ∧ Cn (Ad n t f) x y := hc.keep (P := fun z => T z ∧ Cn (Ad n t f) x z) (fun a b ⟨aT, ac⟩ r => by
    have bc : Cn (Ad n t f) x b := ac.step r
    refine ⟨Classical.byContradiction fun bT => ?_, bc⟩
    have e1 : t b a = t b u := hT.2 b r.2.1 bT a u aT uT
    have e2 : t b u = f := by rw [w.sym]; exact cn_out w hx bc (hT.1 u uT) nu
    have e3 : t a b = !f := r.2.2.2
    rw [w.sym, e1, e2] at e3
    cases f <;> cases e3) ⟨cT, cc⟩
  exact go.1
theorem partsA (h2 : ∃ x y, x < n ∧ y < n ∧ ¬ Cn (Ad n t f) x y) : Parts n t (Cn (Ad n t f)) where
  rfl' := fun _ _ => .refl
  lt := fun _ _ h k => k.lt h
  sym := fun _ _ _ h => cn_sym w h
  tr := fun _ _ _ _ h k => h.trans k
  str := fun _ h => str_cn w h
  two := h2
  ins := fun T hT ⟨u, hu, nu⟩ x y hx hy => Classical.byContradiction fun nxy => by
    have lx := hT.1.1 x hx
    have ly := hT.1.1 y hy
    have sub : ∀ z, T z → (∃ v, T v ∧ ¬ Cn (Ad n t f) z v) → ∀ v, Cn (Ad n t f) z v → T v := fun z hz ⟨v, hv, nv⟩ =>
      (hT.2.2 _ (mo_cn w (hT.1.1 z hz)) ⟨z, hz, .refl⟩).elim (fun q => absurd (q v hv) nv) (fun q => q)
    have sx := sub x hx ⟨y, hy, nxy⟩
    have sy := sub y hy ⟨x, hx, fun q => nxy (cn_sym w q)⟩
    rcases hT.2.2 _ (mo_cn2 w lx hu) ⟨x, hx, .inl .refl⟩ with q | q
    · rcases q y hy with q | q
      · exact nxy q
      · exact nu (sy u (cn_sym w q))
    · exact nu (q u (.inr .refl))
end

/-! ### where no look's walks part: the proper modules -/
def Pm (n : Nat) (t : Nat → Nat → Bool) (S : Nat → Prop) : Prop := Mo n t S ∧ ∃ u, u < n ∧ ¬ S u
def Pe (n : Nat) (t : Nat → Nat → Bool) (x y : Nat) : Prop := ∃ S, Pm n t S ∧ S x ∧ S y
section
variable (w : Wb t) (hc : ∀ f x y, x < n → y < n → Cn (Ad n t f) x y)
include w hc
theorem pm_join {S T : Nat → Prop} (hS : Pm n t S) (hT : Pm n t T) (m : ∃ x, S x ∧ T x) : Pm n t (fun x => S x ∨ T x) := by
  refine ⟨mo_join hS.1 hT.1 m, Classical.byContradiction fun hno => ?_⟩
  have all : ∀ x, x < n → S x ∨ T x := fun x hx => Classical.byContradiction fun q => hno ⟨x, hx, q⟩
  obtain ⟨c0, lc, nc⟩ := hS.2
  obtain ⟨a0, la, na⟩ := hT.2
  have aS : S a0 := (all a0 la).elim (fun q => q) (fun q => absurd q na)
  have cT : T c0 := (all c0 lc).elim (fun q => absurd q nc) (fun q => q)
  have key : ∀ a, S a → ¬ T a → ∀ y, T y → t a y = t a0 c0 := fun a ha nTa y hy => by
    rw [hT.1.2 a (hS.1.1 a ha) nTa y c0 hy cT, w.sym, hS.1.2 c0 lc nc a a0 ha aS, w.sym]
  have go := (hc (t a0 c0) a0 c0 la lc).keep (P := fun z => S z ∧ ¬ T z) (fun a b ⟨ha, na⟩ r => by
    by_cases q : T b
    · have e := key a ha na b q
      have e3 := r.2.2.2
      rw [e] at e3
      cases h : t a0 c0 <;> rw [h] at e3 <;> cases e3
    · exact ⟨(all b r.2.1).elim (fun k => k) (fun k => absurd k q), q⟩) ⟨aS, na⟩
  exact go.2 cT
theorem pe_trans {x y z : Nat} (h : Pe n t x y) (k : Pe n t y z) : Pe n t x z := by
  obtain ⟨S, pS, sx, sy⟩ := h
  obtain ⟨T, pT, ty, tz⟩ := k
  exact ⟨_, pm_join w hc pS pT ⟨y, sy, ty⟩, .inl sx, .inr tz⟩
omit w hc in
theorem pe_symm {x y : Nat} (h : Pe n t x y) : Pe n t y x := let ⟨S, p, a, b⟩ := h; ⟨S, p, b, a⟩
omit w hc in
theorem pe_refl (h2 : 2 ≤ n) {x : Nat} (hx : x < n) : Pe n t x x :=
  ⟨fun y => y = x, ⟨mo_one hx, by
    by_cases h : x = 0
    · exact ⟨1, by omega, by omega⟩
    · exact ⟨0, by omega, by omega⟩⟩, rfl, rfl⟩
omit w hc in
theorem mo_pe {x : Nat} : Mo n t (Pe n t x) := by
  refine ⟨fun y ⟨S, p, _, b⟩ => p.1.1 y b, fun z hz hn a b ha hb => ?_⟩
  have key : ∀ a, Pe n t x a → t z a = t z x := fun a ⟨S, p, sx, sa⟩ => p.1.2 z hz (fun q => hn ⟨S, p, sx, q⟩) a x sa sx
  rw [key a ha, key b hb]
theorem pe_list (h2 : 2 ≤ n) {x : Nat} (hx : x < n) : ∀ l : List Nat, (∀ y ∈ l, Pe n t x y) → ∃ S, Pm n t S ∧ S x ∧ ∀ y ∈ l, S y
  | [], _ => let ⟨S, p, a, _⟩ := pe_refl (t := t) h2 hx; ⟨S, p, a, fun _ h => nomatch h⟩
  | y :: l, h => by
    obtain ⟨S, p, a, b⟩ := pe_list h2 hx l fun z hz => h z (List.mem_cons_of_mem _ hz)
    obtain ⟨T, q, c, d⟩ := h y List.mem_cons_self
    exact ⟨_, pm_join w hc p q ⟨x, a, c⟩, .inl a, fun z hz => (List.mem_cons.mp hz).elim (fun e => .inr (e ▸ d)) (fun k => .inl (b z k))⟩
theorem pm_pe (h2 : 2 ≤ n) {x : Nat} (hx : x < n) : Pm n t (Pe n t x) := by
  refine ⟨mo_pe, Classical.byContradiction fun hno => ?_⟩
  have all : ∀ y, y < n → Pe n t x y := fun y hy => Classical.byContradiction fun q => hno ⟨y, hy, q⟩
  obtain ⟨S, p, _, b⟩ := pe_list w hc h2 hx (List.range n) fun y hy => all y (List.mem_range.mp hy)
  obtain ⟨u, lu, nu⟩ := p.2
  exact nu (b u (List.mem_range.mpr lu))
theorem partsB (h2 : 2 ≤ n) : Parts n t (Pe n t) where
  rfl' := fun _ h => pe_refl h2 h
  lt := fun _ y _ ⟨_, p, _, b⟩ => p.1.1 y b
  sym := fun _ _ _ h => pe_symm h
  tr := fun _ _ _ _ h k => pe_trans w hc h k
  str := fun x hx => ⟨mo_pe, ⟨x, pe_refl h2 hx⟩, fun T hT ⟨c, hcx, hcT⟩ => by
    by_cases h : ∃ u, u < n ∧ ¬ T u
    · exact .inr fun y hy => pe_trans w hc hcx ⟨T, ⟨hT, h⟩, hcT, hy⟩
    · exact .inl fun y hy => Classical.byContradiction fun q => h ⟨y, mo_pe.1 y hy, q⟩⟩
  two := by
    obtain ⟨u, lu, nu⟩ := (pm_pe w hc h2 (x := 0) (by omega)).2
    exact ⟨0, u, by omega, lu, nu⟩
  ins := fun T hT h x y hx hy => ⟨T, ⟨hT.1, h⟩, hx, hy⟩
end
end

/-! ### carried from the part of a strong lot to the web -/
/-- the i-th of a lot -/
def at' (l : List Nat) (i : Nat) : Nat := l.getD i 0
/-- the relation of the places, told of the things -/
def Im (l : List Nat) (E : Nat → Nat → Prop) (x y : Nat) : Prop := ∃ i j, i < l.length ∧ j < l.length ∧ at' l i = x ∧ at' l j = y ∧ E i j
/-- the set of places, told of the things -/
def Up (l : List Nat) (S : Nat → Prop) (x : Nat) : Prop := ∃ i, i < l.length ∧ at' l i = x ∧ S i
def Dn (l : List Nat) (T : Nat → Prop) (i : Nat) : Prop := i < l.length ∧ T (at' l i)
theorem at_mem {l : List Nat} {i : Nat} (h : i < l.length) : at' l i ∈ l := by
  unfold at'
  rw [List.getD_eq_getElem?_getD, List.getElem?_eq_getElem h]
  exact List.getElem_mem h
theorem mem_at {l : List Nat} {x : Nat} (h : x ∈ l) : ∃ i, i < l.length ∧ at' l i = x := by
  obtain ⟨i, hi, e⟩ := List.getElem_of_mem h
  refine ⟨i, hi, ?_⟩
  unfold at'
  rw [List.getD_eq_getElem?_getD, List.getElem?_eq_getElem hi]
  exact e
theorem at_inj {l : List Nat} (nd : l.Nodup) {i j : Nat} (hi : i < l.length) (hj : j < l.length) (e : at' l i = at' l j) : i = j := by
  unfold at' at e
  rw [List.getD_eq_getElem?_getD, List.getD_eq_getElem?_getD, List.getElem?_eq_getElem hi, List.getElem?_eq_getElem hj] at e
  exact (List.getElem_inj nd).mp e
/-- the part's looks -/
def pt (t : Nat → Nat → Bool) (l : List Nat) (i j : Nat) : Bool := t (at' l i) (at' l j)
theorem Wb.part {t : Nat → Nat → Bool} (w : Wb t) (l : List Nat) : Wb (pt t l) := ⟨fun _ _ => w.sym _ _, fun _ => w.irr _⟩

/-- what is true of a strong lot whose sons E tells -/
structure PartsL (n : Nat) (t : Nat → Nat → Bool) (l : List Nat) (E : Nat → Nat → Prop) : Prop where
  rfl' : ∀ x, x ∈ l → E x x
  mem : ∀ x y, E x y → x ∈ l ∧ y ∈ l
  sym : ∀ x y, E x y → E y x
  tr : ∀ x y z, E x y → E y z → E x z
  str : ∀ x, x ∈ l → Stg n t (E x)
  two : ∃ x y, x ∈ l ∧ y ∈ l ∧ ¬ E x y
  ins : ∀ T, Stg n t T → (∀ x, T x → x ∈ l) → (∃ u, u ∈ l ∧ ¬ T u) → ∀ x y, T x → T y → E x y
section
variable {n : Nat} {t : Nat → Nat → Bool} {l : List Nat} (nd : l.Nodup)
theorem mo_up (hl : Mo n t (· ∈ l)) {S : Nat → Prop} (h : Mo l.length (pt t l) S) : Mo n t (Up l S) := by
  refine ⟨fun x ⟨i, hi, e, _⟩ => hl.1 x (e ▸ at_mem hi), fun z hz hn x y ⟨i, hi, ei, si⟩ ⟨j, hj, ej, sj⟩ => ?_⟩
  subst ei ej
  by_cases hzl : z ∈ l
  · obtain ⟨k, hk, ek⟩ := mem_at hzl
    subst ek
    exact h.2 k hk (fun q => hn ⟨k, hk, rfl, q⟩) i j si sj
  · exact hl.2 z hz hzl _ _ (at_mem hi) (at_mem hj)
theorem mo_dn (hln : ∀ x ∈ l, x < n) {T : Nat → Prop} (h : Mo n t T) : Mo l.length (pt t l) (Dn l T) :=
  ⟨fun _ q => q.1, fun z hz hn i j hi hj => h.2 _ (hln _ (at_mem hz)) (fun q => hn ⟨hz, q⟩) _ _ hi.2 hj.2⟩
include nd in
theorem str_up (hl : Stg n t (· ∈ l)) {S : Nat → Prop} (h : Stg l.length (pt t l) S) : Stg n t (Up l S) := by
  obtain ⟨m, ⟨i, hi⟩, nest⟩ := h
  refine ⟨mo_up hl.1 m, ⟨at' l i, i, m.1 i hi, rfl, hi⟩, fun T hT ⟨c, ⟨k, hk, ek, sk⟩, cT⟩ => ?_⟩
  subst ek
  rcases hl.2.2 T hT ⟨_, at_mem hk, cT⟩ with q | q
  · exact .inl fun x ⟨j, hj, ej, _⟩ => q x (ej ▸ at_mem hj)
  · rcases nest _ (mo_dn hl.1.1 hT) ⟨k, sk, hk, cT⟩ with r | r
    · exact .inl fun x ⟨j, hj, ej, sj⟩ => ej ▸ (r j sj).2
    · refine .inr fun x hx => ?_
      obtain ⟨j, hj, ej⟩ := mem_at (q x hx)
      subst ej
      exact ⟨j, hj, rfl, r j ⟨hj, hx⟩⟩
include nd in
theorem str_dn (hl : Stg n t (· ∈ l)) {T : Nat → Prop} (h : Stg n t T) (hs : ∀ x, T x → x ∈ l) : Stg l.length (pt t l) (Dn l T) := by
  obtain ⟨m, ⟨x, hx⟩, nest⟩ := h
  obtain ⟨i, hi, ei⟩ := mem_at (hs x hx)
  refine ⟨mo_dn hl.1.1 m, ⟨i, hi, ei ▸ hx⟩, fun S hS ⟨k, ⟨hk, kT⟩, kS⟩ => ?_⟩
  rcases nest _ (mo_up hl.1 hS) ⟨_, kT, k, hk, rfl, kS⟩ with r | r
  · refine .inl fun j ⟨hj, jT⟩ => ?_
    obtain ⟨j', hj', e', sj'⟩ := r _ jT
    rw [at_inj nd hj' hj e'] at sj'
    exact sj'
  · exact .inr fun j hj => ⟨hS.1 j hj, r _ ⟨j, hS.1 j hj, rfl, hj⟩⟩
include nd in
theorem parts_up (hl : Stg n t (· ∈ l)) {E : Nat → Nat → Prop} (h : Parts l.length (pt t l) E) : PartsL n t l (Im l E) where
  rfl' := fun x hx => let ⟨i, hi, e⟩ := mem_at hx; ⟨i, i, hi, hi, e, e, h.rfl' i hi⟩
  mem := fun x y ⟨i, j, hi, hj, ei, ej, _⟩ => ⟨ei ▸ at_mem hi, ej ▸ at_mem hj⟩
  sym := fun x y ⟨i, j, hi, hj, ei, ej, e⟩ => ⟨j, i, hj, hi, ej, ei, h.sym i j hi e⟩
  tr := fun x y z ⟨i, j, hi, hj, ei, ej, e⟩ ⟨j', k, hj', hk, ej', ek, e'⟩ => by
    have q : j' = j := at_inj nd hj' hj (ej'.trans ej.symm)
    subst q
    exact ⟨i, k, hi, hk, ei, ek, h.tr i j' k hi e e'⟩
  str := fun x hx => by
    obtain ⟨i, hi, e⟩ := mem_at hx
    have q : Im l E x = Up l (E i) := by
      funext y
      refine propext ⟨fun ⟨i', j, hi', hj, ei, ej, r⟩ => ?_, fun ⟨j, hj, ej, r⟩ => ⟨i, j, hi, hj, e, ej, r⟩⟩
      have z : i' = i := at_inj nd hi' hi (ei.trans e.symm)
      subst z
      exact ⟨j, hj, ej, r⟩
    rw [q]
    exact str_up nd hl (h.str i hi)
  two := by
    obtain ⟨i, j, hi, hj, ne⟩ := h.two
    refine ⟨_, _, at_mem hi, at_mem hj, fun ⟨i', j', hi', hj', ei, ej, r⟩ => ne ?_⟩
    rw [at_inj nd hi' hi ei, at_inj nd hj' hj ej] at r
    exact r
  ins := fun T hT hs ⟨u, hu, nu⟩ x y hx hy => by
    obtain ⟨i, hi, ei⟩ := mem_at (hs x hx)
    obtain ⟨j, hj, ej⟩ := mem_at (hs y hy)
    obtain ⟨k, hk, ek⟩ := mem_at hu
    refine ⟨i, j, hi, hj, ei, ej, h.ins _ (str_dn nd hl hT hs) ⟨k, hk, fun q => nu (ek ▸ q.2)⟩ i j ⟨hi, ei ▸ hx⟩ ⟨hj, ej ▸ hy⟩⟩
end
end K41
end
section
set_option autoImplicit false
set_option linter.all false
/-! K41, plain law, part B: arrows, what they force, the classes at a knot. -/
namespace K41
open Classical
abbrev Arw := Nat × Nat
def co (a : Arw) : Arw := (a.2, a.1)
theorem co_co (a : Arw) : co (co a) = a := rfl
def Ar (n : Nat) (t : Nat → Nat → Bool) (a : Arw) : Prop := a.1 < n ∧ a.2 < n ∧ t a.1 a.2 = true
def Fo (n : Nat) (t : Nat → Nat → Bool) (a b : Arw) : Prop :=
  (b.1 = a.1 ∧ b.2 < n ∧ b.2 ≠ a.2 ∧ t a.1 b.2 = true ∧ t b.2 a.2 = false) ∨ (b.2 = a.2 ∧ b.1 < n ∧ b.1 ≠ a.1 ∧ t a.2 b.1 = true ∧ t b.1 a.1 = false)
abbrev Cl (n : Nat) (t : Nat → Nat → Bool) (a b : Arw) : Prop := Cn (Fo n t) a b
/-- alike but for the way -/
def Col (n : Nat) (t : Nat → Nat → Bool) (a b : Arw) : Prop := Cl n t a b ∨ Cl n t a (co b)

section
variable {n : Nat} {t : Nat → Nat → Bool} (w : Wb t)
include w
theorem Fo.ar {a b : Arw} (h : Fo n t a b) (ha : Ar n t a) : Ar n t b := by
  obtain ⟨a1, a2⟩ := a
  obtain ⟨b1, b2⟩ := b
  rcases h with ⟨e, h1, h2, h3, h4⟩ | ⟨e, h1, h2, h3, h4⟩ <;> simp only at e h1 h2 h3 h4 <;> subst e
  · exact ⟨ha.1, h1, h3⟩
  · exact ⟨h1, ha.2.1, by simp only; rw [w.sym]; exact h3⟩
theorem Fo.back {a b : Arw} (h : Fo n t a b) (ha : Ar n t a) : Fo n t b a := by
  obtain ⟨a1, a2⟩ := a
  obtain ⟨b1, b2⟩ := b
  rcases h with ⟨e, h1, h2, h3, h4⟩ | ⟨e, h1, h2, h3, h4⟩ <;> simp only at e h1 h2 h3 h4 <;> subst e
  · exact .inl ⟨rfl, ha.2.1, fun q => h2 q.symm, ha.2.2, by simp only; rw [w.sym]; exact h4⟩
  · exact .inr ⟨rfl, ha.1, fun q => h2 q.symm, by simp only; rw [w.sym]; exact ha.2.2, by simp only; rw [w.sym]; exact h4⟩
omit w in
theorem Fo.co {a b : Arw} (h : Fo n t a b) : Fo n t (co a) (co b) := h.elim (fun q => .inr q) (fun q => .inl q)
theorem Cl.ar {a b : Arw} (h : Cl n t a b) (ha : Ar n t a) : Ar n t b := h.keep (fun _ _ k r => Fo.ar w r k) ha
theorem Cl.symm {a b : Arw} (h : Cl n t a b) (ha : Ar n t a) : Cl n t b a := by
  have go : Ar n t b ∧ Cl n t b a := h.keep (P := fun c => Ar n t c ∧ Cl n t c a) (fun x y ⟨kx, c⟩ r => ⟨Fo.ar w r kx, (Cn.step .refl (Fo.back w r kx)).trans c⟩) ⟨ha, .refl⟩
  exact go.2
omit w in
theorem Cl.co {a b : Arw} (h : Cl n t a b) : Cl n t (co a) (co b) :=
  h.keep (P := fun c => Cl n t (K41.co a) (K41.co c)) (fun _ _ k r => k.step (Fo.co r)) .refl
theorem Ar.co {a : Arw} (h : Ar n t a) : Ar n t (co a) := ⟨h.2.1, h.1, by show t a.2 a.1 = true; rw [w.sym]; exact h.2.2⟩
theorem Col.symm {a b : Arw} (h : Col n t a b) (ha : Ar n t a) : Col n t b a := h.elim (fun q => .inl (Cl.symm w q ha)) (fun q => .inr (Cl.co (Cl.symm w q ha)))
omit w in
theorem Col.trans {a b c : Arw} (h : Col n t a b) (k : Col n t b c) : Col n t a c := by
  rcases h with h | h <;> rcases k with k | k
  · exact .inl (Cn.trans h k)
  · exact .inr (Cn.trans h k)
  · exact .inr (Cn.trans h (Cl.co k))
  · exact .inl (Cn.trans h (Cl.co k))
omit w in
theorem Col.co {a b : Arw} (h : Col n t a b) : Col n t a (co b) := h.elim .inr .inl
omit w in
theorem Col.step {a b c : Arw} (h : Col n t a b) (r : Fo n t b c) : Col n t a c := h.trans (.inl (.step .refl r))

/-! ### the things that a class spans are a module -/
omit w in
def Span (n : Nat) (t : Nat → Nat → Bool) (a : Arw) (v : Nat) : Prop := ∃ b, Cl n t a b ∧ (b.1 = v ∨ b.2 = v)
theorem mo_span {a : Arw} (ha : Ar n t a) : Mo n t (Span n t a) := by
  refine ⟨fun v ⟨b, h, e⟩ => ?_, fun z hz hn x y ⟨b, hb, ex⟩ ⟨c, hc, ey⟩ => ?_⟩
  · have q := Cl.ar w h ha
    rcases e with e | e
    · exact e ▸ q.1
    · exact e ▸ q.2.1
  have same : ∀ b, Cl n t a b → t z b.1 = t z b.2 := fun b hb => by
    have q1 : z ≠ b.1 := fun e => hn ⟨b, hb, .inl e.symm⟩
    have q2 : z ≠ b.2 := fun e => hn ⟨b, hb, .inr e.symm⟩
    cases e1 : t z b.1 <;> cases e2 : t z b.2
    · rfl
    · exact absurd ⟨(z, b.2), hb.step (.inr ⟨rfl, hz, q1, by rw [w.sym]; exact e2, e1⟩), .inl rfl⟩ hn
    · exact absurd ⟨(b.1, z), hb.step (.inl ⟨rfl, hz, q2, by rw [w.sym]; exact e1, e2⟩), .inr rfl⟩ hn
    · rfl
  have all : ∀ b, Cl n t a b → t z b.1 = t z a.1 := fun b hb => by
    have go : Cl n t a b ∧ t z b.1 = t z a.1 := hb.keep (P := fun c => Cl n t a c ∧ t z c.1 = t z a.1) (fun c d ⟨hc, e⟩ r => by
      refine ⟨hc.step r, ?_⟩
      rcases id r with ⟨q, _⟩ | ⟨q, _⟩
      · rw [q]; exact e
      · rw [same d (hc.step r), q, ← same c hc]; exact e) ⟨.refl, rfl⟩
    exact go.2
  have val : ∀ b v, Cl n t a b → (b.1 = v ∨ b.2 = v) → t z v = t z a.1 := fun b v hb e => by
    rcases e with e | e
    · rw [← e]; exact all b hb
    · rw [← e, ← same b hb]; exact all b hb
  rw [val b x hb ex, val c y hc ey]
/-- a third thing of a triangle whose two other arrows are of other colours is met by no arrow of the class -/
theorem triangle {a : Arw} {r : Nat} (ha : Ar n t a) (hr : r < n) (h1 : t r a.1 = true) (h2 : t r a.2 = true) (c1 : ¬ Col n t a (r, a.1)) (c2 : ¬ Col n t a (r, a.2)) : ¬ Span n t a r := by
  have go : ∀ b, Cl n t a b → Cl n t a b ∧ t r b.1 = true ∧ t r b.2 = true ∧ ¬ Col n t a (r, b.1) ∧ ¬ Col n t a (r, b.2) := fun b hb =>
    hb.keep (P := fun b => Cl n t a b ∧ t r b.1 = true ∧ t r b.2 = true ∧ ¬ Col n t a (r, b.1) ∧ ¬ Col n t a (r, b.2)) (fun b c ⟨hb, e1, e2, n1, n2⟩ f => by
      have hc := hb.step f
      have ab := Cl.ar w hb ha
      have ac := Cl.ar w hc ha
      obtain ⟨c1, c2⟩ := c
      obtain ⟨b1, b2⟩ := b
      simp only at e1 e2 n1 n2 ⊢
      rcases f with ⟨q, k1, k2, k3, k4⟩ | ⟨q, k1, k2, k3, k4⟩ <;> simp only at q k1 k2 k3 k4 <;> subst q
      · have er : t r c2 = true := by
          cases e : t r c2 with
          | true => rfl
          | false =>
            exfalso
            by_cases z : r = c2
            · subst z
              exact n1 (.inr hc)
            · exact n1 (.inr (hc.step (.inl ⟨rfl, hr, z, by simp only; rw [w.sym]; exact e1, e⟩)))
        refine ⟨hc, e1, er, n1, fun q => n2 (q.step (.inl ⟨rfl, ab.2.1, fun z => k2 z.symm, e2, by simp only; rw [w.sym]; exact k4⟩))⟩
      · have er : t r c1 = true := by
          cases e : t r c1 with
          | true => rfl
          | false =>
            exfalso
            by_cases z : r = c1
            · subst z
              exact n2 (.inl hc)
            · exact n2 (.inl (hc.step (.inr ⟨rfl, hr, z, by simp only; rw [w.sym]; exact e2, e⟩)))
        refine ⟨hc, er, e2, fun q => n1 (q.step (.inl ⟨rfl, ab.1, fun z => k2 z.symm, e1, by simp only; rw [w.sym]; exact k4⟩)), n2⟩) ⟨.refl, h1, h2, c1, c2⟩
  rintro ⟨b, hb, e⟩
  obtain ⟨_, e1, e2, _, _⟩ := go b hb
  rcases e with e | e
  · rw [e, w.irr] at e1; cases e1
  · rw [e, w.irr] at e2; cases e2
end

/-! ### a knot -/
/-- l: a strong lot; E tells its sons; fm: no look is that of all -/
structure Kn (n : Nat) (t : Nat → Nat → Bool) (l : List Nat) (fm : Bool) (E : Nat → Nat → Prop) : Prop where
  str : Stg n t (· ∈ l)
  parts : PartsL n t l E
  all : fm = false → ∃ f, (∀ x y, x ∈ l → y ∈ l → ¬ E x y → t x y = f) ∧ ∀ x y, E x y → Cn (fun a b => E x a ∧ E x b ∧ a ≠ b ∧ t a b = !f) x y
  firm : fm = true → (∀ T, Mo n t T → (∀ x, T x → x ∈ l) → (∃ u, u ∈ l ∧ ¬ T u) → ∀ x y, T x → T y → E x y) ∧
    (∃ x y, x ∈ l ∧ y ∈ l ∧ ¬ E x y ∧ t x y = true) ∧ ∃ x y, x ∈ l ∧ y ∈ l ∧ ¬ E x y ∧ t x y = false
/-- an arrow between things of unlike sons -/
def InK (l : List Nat) (E : Nat → Nat → Prop) (a : Arw) : Prop := a.1 ∈ l ∧ a.2 ∈ l ∧ ¬ E a.1 a.2
section
variable {n : Nat} {t : Nat → Nat → Bool} {l : List Nat} {E : Nat → Nat → Prop} {fm : Bool} (w : Wb t) (K : Kn n t l fm E)
include w K
/-- the looks of two sons -/
theorem Kn.rep {x y x' y' : Nat} (hx : E x x') (hy : E y y') (hn : ¬ E x y) : t x y = t x' y' := by
  have mx := K.parts.mem _ _ hx
  have my := K.parts.mem _ _ hy
  have lt : ∀ z, z ∈ l → z < n := K.str.1.1
  have e1 : t y x = t y x' := (K.parts.str x mx.1).1.2 y (lt y my.1) hn x x' (K.parts.rfl' x mx.1) hx
  have hn2 : ¬ E y x' := fun q => hn (K.parts.sym _ _ (K.parts.tr _ _ _ q (K.parts.sym _ _ hx)))
  have e2 : t x' y = t x' y' := (K.parts.str y my.1).1.2 x' (lt x' mx.2) hn2 y y' (K.parts.rfl' y my.1) hy
  rw [w.sym, e1, w.sym, e2]
theorem Kn.closed {a b : Arw} (h : InK l E a) (ha : Ar n t a) (f : Fo n t a b) : InK l E b := by
  obtain ⟨a1, a2⟩ := a
  obtain ⟨b1, b2⟩ := b
  obtain ⟨m1, m2, ne⟩ := h
  simp only at m1 m2 ne
  rcases f with ⟨q, k1, k2, k3, k4⟩ | ⟨q, k1, k2, k3, k4⟩ <;> simp only at q k1 k2 k3 k4 <;> subst q
  · have ml : b2 ∈ l := Classical.byContradiction fun z => by
      have e := K.str.1.2 b2 k1 z b1 a2 m1 m2
      rw [w.sym, k3, k4] at e
      cases e
    refine ⟨m1, ml, fun e => ?_⟩
    have e1 := (K.parts.str b1 m1).1.2 a2 ha.2.1 ne b1 b2 (K.parts.rfl' _ m1) e
    rw [w.sym a2 b1, ha.2.2, w.sym a2 b2, k4] at e1
    cases e1
  · have ml : b1 ∈ l := Classical.byContradiction fun z => by
      have e := K.str.1.2 b1 k1 z a1 b2 m1 m2
      rw [w.sym b1 b2, k3, k4] at e
      cases e
    refine ⟨ml, m2, fun e => ?_⟩
    have ne' : ¬ E b2 a1 := fun z => ne (K.parts.sym _ _ z)
    have e1 := (K.parts.str b2 m2).1.2 a1 ha.1 ne' b2 b1 (K.parts.rfl' _ m2) (K.parts.sym _ _ e)
    have ha2 : t a1 b2 = true := ha.2.2
    rw [ha2, w.sym a1 b1, k4] at e1
    cases e1
theorem Kn.closedC {a b : Arw} (h : InK l E a) (ha : Ar n t a) (c : Cl n t a b) : InK l E b := by
  have go : Ar n t b ∧ InK l E b := c.keep (P := fun c => Ar n t c ∧ InK l E c) (fun x y ⟨k1, k2⟩ r => ⟨Fo.ar w r k1, Kn.closed w K k2 k1 r⟩) ⟨ha, h⟩
  exact go.2
omit w in
theorem Kn.inCo {a : Arw} (h : InK l E a) : InK l E (co a) := ⟨h.2.1, h.1, fun q => h.2.2 (K.parts.sym _ _ q)⟩

/-- ALL, tied: the class is the arrows from the one son to the other -/
theorem Kn.classAll (hf : fm = false) {a b : Arw} (ha : Ar n t a) (hi : InK l E a) : Cl n t a b ↔ E a.1 b.1 ∧ E a.2 b.2 := by
  obtain ⟨f, h1, h2⟩ := K.all hf
  have ef : f = true := (h1 _ _ hi.1 hi.2.1 hi.2.2).symm.trans ha.2.2
  subst ef
  constructor
  · intro c
    have go : Ar n t b ∧ InK l E b ∧ E a.1 b.1 ∧ E a.2 b.2 := c.keep (P := fun c => Ar n t c ∧ InK l E c ∧ E a.1 c.1 ∧ E a.2 c.2) (fun x y ⟨k1, k2, k3, k4⟩ r => by
      have iy := Kn.closed w K k2 k1 r
      refine ⟨Fo.ar w r k1, iy, ?_⟩
      obtain ⟨x1, x2⟩ := x
      obtain ⟨y1, y2⟩ := y
      simp only at k3 k4
      rcases r with ⟨q, r1, r2, r3, r4⟩ | ⟨q, r1, r2, r3, r4⟩ <;> simp only at q r1 r2 r3 r4 <;> subst q
      · refine ⟨k3, K.parts.tr _ _ _ k4 (Classical.byContradiction fun z => ?_)⟩
        have e := h1 x2 y2 k2.2.1 iy.2.1 z
        rw [w.sym, r4] at e
        cases e
      · refine ⟨K.parts.tr _ _ _ k3 (Classical.byContradiction fun z => ?_), k4⟩
        have e := h1 x1 y1 k2.1 iy.1 z
        rw [w.sym, r4] at e
        cases e) ⟨ha, hi, K.parts.rfl' _ hi.1, K.parts.rfl' _ hi.2.1⟩
    exact go.2.2
  · rintro ⟨e1, e2⟩
    obtain ⟨b1, b2⟩ := b
    obtain ⟨a1, a2⟩ := a
    simp only at e1 e2
    have lt : ∀ z, z ∈ l → z < n := K.str.1.1
    have tied : ∀ x y, E a1 x → E a2 y → t x y = true := fun x y hx hy => h1 x y (K.parts.mem _ _ hx).2 (K.parts.mem _ _ hy).2 fun q =>
      hi.2.2 (K.parts.tr _ _ _ (K.parts.tr _ _ _ hx q) (K.parts.sym _ _ hy))
    have s1 : E a1 b1 ∧ Cl n t (a1, a2) (b1, a2) := (h2 a1 b1 e1).keep (P := fun c => E a1 c ∧ Cl n t (a1, a2) (c, a2)) (fun x y ⟨k1, k2⟩ r =>
      ⟨r.2.1, k2.step (.inr ⟨rfl, lt _ (K.parts.mem _ _ r.2.1).2, fun q => r.2.2.1 q.symm, by simp only; rw [w.sym]; exact tied _ _ r.2.1 (K.parts.rfl' _ hi.2.1), by simp only; rw [w.sym]; exact r.2.2.2⟩)⟩) ⟨K.parts.rfl' _ hi.1, .refl⟩
    have s2 : E a2 b2 ∧ Cl n t (b1, a2) (b1, b2) := (h2 a2 b2 e2).keep (P := fun c => E a2 c ∧ Cl n t (b1, a2) (b1, c)) (fun x y ⟨k1, k2⟩ r =>
      ⟨r.2.1, k2.step (.inl ⟨rfl, lt _ (K.parts.mem _ _ r.2.1).2, fun q => r.2.2.1 q.symm, tied _ _ e1 r.2.1, by simp only; rw [w.sym]; exact r.2.2.2⟩)⟩) ⟨K.parts.rfl' _ hi.2.1, .refl⟩
    exact s1.2.trans s2.2
/-- FIRM: each class of the knot spans all its things -/
theorem Kn.span (hf : fm = true) {a : Arw} (ha : Ar n t a) (hi : InK l E a) {v : Nat} (hv : v ∈ l) : Span n t a v := by
  refine Classical.byContradiction fun q => hi.2.2 ((K.firm hf).1 (Span n t a) (mo_span w ha) (fun x ⟨b, hb, e⟩ => ?_) ⟨v, hv, q⟩ _ _ ⟨a, .refl, .inl rfl⟩ ⟨a, .refl, .inr rfl⟩)
  have ib := Kn.closedC w K hi ha hb
  rcases e with e | e
  · exact e ▸ ib.1
  · exact e ▸ ib.2.1
/-- FIRM: all arrows of the knot are of one colour -/
theorem Kn.colour (hf : fm = true) {a b : Arw} (ha : Ar n t a) (hi : InK l E a) (hb : Ar n t b) (hj : InK l E b) : Col n t a b := by
  refine Classical.byContradiction fun no => ?_
  obtain ⟨c, hc, ec⟩ := Kn.span w K hf ha hi hj.1
  -- an arrow (v, u) of a's colour at v = b's first thing
  obtain ⟨u, cu⟩ : ∃ u, Col n t a (b.1, u) := by
    rcases ec with e | e
    · exact ⟨c.2, .inl (by rw [← e]; exact hc)⟩
    · exact ⟨c.1, .inr (by rw [← e]; exact hc)⟩
  obtain ⟨v, x⟩ := b
  simp only at cu hb hj
  have au : Ar n t (v, u) := by
    rcases cu with q | q
    · exact Cl.ar w q ha
    · exact Ar.co w (Cl.ar w q ha)
  have iu : InK l E (v, u) := by
    rcases cu with q | q
    · exact Kn.closedC w K hi ha q
    · exact Kn.inCo K (Kn.closedC w K hi ha q)
  have nux : x ≠ u := fun e => no (by rw [e]; exact cu)
  have tie : t x u = true := by
    cases e : t x u with
    | true => rfl
    | false => exact (no (cu.step (.inl ⟨rfl, hb.2.1, nux, hb.2.2, e⟩))).elim
  by_cases cxu : Col n t a (u, x)
  · -- seen from b's class, u is the third thing
    refine triangle w hb au.2.1 (by rw [w.sym]; exact au.2.2) (by rw [w.sym]; exact tie) (fun q => no ?_) (fun q => no ?_) (Kn.span w K hf hb hj iu.2.1)
    · exact Col.trans cu.co (Col.symm w q hb)
    · exact Col.trans cxu (Col.symm w q hb)
  · refine triangle w au hb.2.1 (by rw [w.sym]; exact hb.2.2) tie (fun q => no ?_) (fun q => cxu ?_) (Kn.span w K hf au iu hj.2.1)
    · exact Col.trans cu (Col.co q)
    · exact Col.trans cu (Col.co q)
end
end K41
end
section
set_option autoImplicit false
set_option linter.all false
/-! K41, plain law, part C: the list of the classes of a relation on a sorted lot; closing a relation by middles. -/
namespace K41
open Classical
abbrev Asc (l : List Nat) : Prop := l.Pairwise (· < ·)
theorem Asc.nodup {l : List Nat} (h : Asc l) : l.Nodup := h.imp fun h => Nat.ne_of_lt h
theorem asc_ext {l m : List Nat} (hl : Asc l) (hm : Asc m) (h : ∀ x, x ∈ l ↔ x ∈ m) : l = m := by
  have p : l.Perm m := (List.perm_ext_iff_of_nodup hl.nodup hm.nodup).mpr h
  exact p.eq_of_pairwise (fun a b _ _ h k => absurd h (by omega)) hl hm
theorem asc_range (n : Nat) : Asc (List.range n) := List.pairwise_lt_range
theorem asc_filter {l : List Nat} (h : Asc l) (p : Nat → Bool) : Asc (l.filter p) := h.filter p
/-- an equivalence on a lot -/
structure Eqv (l : List Nat) (E : Nat → Nat → Prop) : Prop where
  rfl' : ∀ x, x ∈ l → E x x
  sym : ∀ x y, x ∈ l → y ∈ l → E x y → E y x
  tr : ∀ x y z, x ∈ l → y ∈ l → z ∈ l → E x y → E y z → E x z
noncomputable def clOf (l : List Nat) (E : Nat → Nat → Prop) (x : Nat) : List Nat := l.filter fun y => decide (E x y)
noncomputable def hds (l : List Nat) (E : Nat → Nat → Prop) : List Nat := l.filter fun x => decide (∀ y, y ∈ l → E x y → x ≤ y)
noncomputable def clsL (l : List Nat) (E : Nat → Nat → Prop) : List (List Nat) := (hds l E).map (clOf l E)
section
variable {l : List Nat} {E : Nat → Nat → Prop}
theorem mem_clOf {x y : Nat} : y ∈ clOf l E x ↔ y ∈ l ∧ E x y := by
  unfold clOf
  rw [List.mem_filter, decide_eq_true_eq]
theorem mem_hds {x : Nat} : x ∈ hds l E ↔ x ∈ l ∧ ∀ y, y ∈ l → E x y → x ≤ y := by
  unfold hds
  rw [List.mem_filter, decide_eq_true_eq]
theorem asc_clOf (h : Asc l) (x : Nat) : Asc (clOf l E x) := h.filter _
theorem clOf_eq (q : Eqv l E) {x y : Nat} (hx : x ∈ l) (hy : y ∈ l) (e : E x y) : clOf l E x = clOf l E y := by
  unfold clOf
  refine List.filter_congr fun z hz => ?_
  have : E x z ↔ E y z := ⟨fun a => q.tr _ _ _ hy hx hz (q.sym _ _ hx hy e) a, fun a => q.tr _ _ _ hx hy hz e a⟩
  simp [this]
/-- the least of a class -/
theorem head_ex (h : Asc l) (q : Eqv l E) {x : Nat} (hx : x ∈ l) : ∃ m, m ∈ hds l E ∧ E x m ∧ (clOf l E x).head? = some m := by
  have hne : clOf l E x ≠ [] := List.ne_nil_of_mem (mem_clOf.mpr ⟨hx, q.rfl' x hx⟩)
  obtain ⟨m, r, e⟩ := List.exists_cons_of_ne_nil hne
  have hm : m ∈ clOf l E x := by rw [e]; exact List.mem_cons_self
  obtain ⟨m1, m2⟩ := mem_clOf.mp hm
  have hs := asc_clOf (E := E) h x
  rw [e] at hs
  refine ⟨m, mem_hds.mpr ⟨m1, fun y hy e2 => ?_⟩, m2, by rw [e]; rfl⟩
  have hy2 : y ∈ clOf l E x := mem_clOf.mpr ⟨hy, q.tr _ _ _ hx m1 hy m2 e2⟩
  rw [e] at hy2
  rcases List.mem_cons.mp hy2 with z | z
  · omega
  · exact Nat.le_of_lt ((List.pairwise_cons.mp hs).1 y z)
theorem clOf_hd (h : Asc l) (q : Eqv l E) {m : Nat} (hm : m ∈ hds l E) : (clOf l E m).head? = some m := by
  obtain ⟨m1, m2⟩ := mem_hds.mp hm
  obtain ⟨k, k1, k2, k3⟩ := head_ex h q m1
  obtain ⟨k4, k5⟩ := mem_hds.mp k1
  have a := m2 k k4 k2
  have b := k5 m m1 (q.sym _ _ m1 k4 k2)
  rw [k3, Nat.le_antisymm a b]
theorem mem_clsL (h : Asc l) (q : Eqv l E) {c : List Nat} : c ∈ clsL l E ↔ ∃ x, x ∈ l ∧ c = clOf l E x := by
  unfold clsL
  rw [List.mem_map]
  constructor
  · rintro ⟨m, hm, rfl⟩
    exact ⟨m, (mem_hds.mp hm).1, rfl⟩
  · rintro ⟨x, hx, rfl⟩
    obtain ⟨m, hm, e, _⟩ := head_ex h q hx
    exact ⟨m, hm, (clOf_eq q hx (mem_hds.mp hm).1 e).symm⟩
theorem clsL_heads (h : Asc l) (q : Eqv l E) : (clsL l E).map (·.headD 0) = hds l E := by
  unfold clsL
  rw [List.map_map]
  have : ∀ m ∈ hds l E, ((fun c : List Nat => c.headD 0) ∘ clOf l E) m = m := fun m hm => by
    have e := clOf_hd h q hm
    show (clOf l E m).headD 0 = m
    rw [List.headD_eq_head?_getD, e]
    rfl
  rw [List.map_congr_left this, List.map_id']
theorem asc_hds (h : Asc l) : Asc (hds l E) := h.filter _
/-- the classes, ordered by their heads -/
theorem clsL_uniq (h : Asc l) (q : Eqv l E) {ls : List (List Nat)} (h1 : ∀ c, c ∈ ls ↔ ∃ x, x ∈ l ∧ c = clOf l E x) (h2 : Asc (ls.map (·.headD 0))) : ls = clsL l E := by
  have hd : ∀ c, c ∈ ls → c.headD 0 ∈ hds l E ∧ c = clOf l E (c.headD 0) := fun c hc => by
    obtain ⟨x, hx, e⟩ := (h1 c).mp hc
    obtain ⟨m, hm, em, eh⟩ := head_ex h q hx
    have e2 : c.headD 0 = m := by rw [e, List.headD_eq_head?_getD, eh]; rfl
    rw [e2]
    exact ⟨hm, e.trans (clOf_eq q hx (mem_hds.mp hm).1 em)⟩
  have e1 : ls.map (·.headD 0) = hds l E := asc_ext h2 (asc_hds h) fun x => by
    rw [List.mem_map]
    constructor
    · rintro ⟨c, hc, rfl⟩
      exact (hd c hc).1
    · intro hx
      refine ⟨clOf l E x, (h1 _).mpr ⟨x, (mem_hds.mp hx).1, rfl⟩, ?_⟩
      rw [List.headD_eq_head?_getD, clOf_hd h q hx]
      rfl
  unfold clsL
  rw [← e1, List.map_map]
  have e3 : ∀ c ∈ ls, ((clOf l E) ∘ fun c : List Nat => c.headD 0) c = c := fun c hc => (hd c hc).2.symm
  rw [List.map_congr_left e3, List.map_id']
theorem clsL_ne (h : Asc l) (q : Eqv l E) {c : List Nat} (hc : c ∈ clsL l E) : c ≠ [] := by
  obtain ⟨x, hx, e⟩ := (mem_clsL h q).mp hc
  exact List.ne_nil_of_mem (by rw [e]; exact mem_clOf.mpr ⟨hx, q.rfl' x hx⟩)
theorem clsL_congr {E' : Nat → Nat → Prop} (e : ∀ x y, x ∈ l → y ∈ l → (E x y ↔ E' x y)) : clsL l E = clsL l E' := by
  have e1 : hds l E = hds l E' := List.filter_congr fun x hx => by
    have : (∀ y, y ∈ l → E x y → x ≤ y) ↔ (∀ y, y ∈ l → E' x y → x ≤ y) := ⟨fun a y hy b => a y hy ((e x y hx hy).mpr b), fun a y hy b => a y hy ((e x y hx hy).mp b)⟩
    simp [this]
  unfold clsL
  rw [e1]
  refine List.map_congr_left fun x hx => List.filter_congr fun y hy => ?_
  have hx2 := (mem_hds.mp hx).1
  simp [e x y hx2 hy]
/-- the classes laid end to end: the lot -/
theorem clsL_flat (h : Asc l) (q : Eqv l E) : (clsL l E).flatten.Perm l := by
  refine (List.perm_ext_iff_of_nodup ?_ h.nodup).mpr fun x => ?_
  · show List.Pairwise (· ≠ ·) _
    rw [List.pairwise_flatten]
    refine ⟨fun c hc => ?_, ?_⟩
    · obtain ⟨x, _, e⟩ := (mem_clsL h q).mp hc
      rw [e]
      exact (asc_clOf h x).nodup
    · unfold clsL
      rw [List.pairwise_map]
      refine List.Pairwise.imp_of_mem (fun {a b} ha hb hab => ?_) (asc_hds (E := E) h)
      intro x hx x' hx' exx
      subst exx
      obtain ⟨a1, a2⟩ := mem_hds.mp ha
      obtain ⟨b1, b2⟩ := mem_hds.mp hb
      obtain ⟨x1, x2⟩ := mem_clOf.mp hx
      obtain ⟨x3, x4⟩ := mem_clOf.mp hx'
      have := b2 a a1 (q.tr _ _ _ b1 x1 a1 x4 (q.sym _ _ a1 x1 x2))
      omega
  · rw [List.mem_flatten]
    constructor
    · rintro ⟨c, hc, hx⟩
      obtain ⟨y, _, e⟩ := (mem_clsL h q).mp hc
      rw [e] at hx
      exact (mem_clOf.mp hx).1
    · intro hx
      exact ⟨clOf l E x, (mem_clsL h q).mpr ⟨x, hx, rfl⟩, mem_clOf.mpr ⟨hx, q.rfl' x hx⟩⟩
/-- how many: at least two if two are unlike -/
theorem clsL_two (h : Asc l) (q : Eqv l E) : 1 < (clsL l E).length ↔ ∃ x y, x ∈ l ∧ y ∈ l ∧ ¬ E x y := by
  have hl : (clsL l E).length = (hds l E).length := by unfold clsL; rw [List.length_map]
  rw [hl]
  constructor
  · intro h1
    match hh : hds l E, h1 with
    | a :: b :: r, _ =>
      have hs := asc_hds (E := E) h
      rw [hh] at hs
      have hab : a < b := (List.pairwise_cons.mp hs).1 b List.mem_cons_self
      have ha : a ∈ hds l E := by rw [hh]; exact List.mem_cons_self
      have hb : b ∈ hds l E := by rw [hh]; exact List.mem_cons_of_mem _ List.mem_cons_self
      obtain ⟨a1, a2⟩ := mem_hds.mp ha
      obtain ⟨b1, b2⟩ := mem_hds.mp hb
      exact ⟨a, b, a1, b1, fun e => by have := b2 a a1 (q.sym _ _ a1 b1 e); omega⟩
    | [_], h1 => simp at h1
    | [], h1 => simp at h1
  · rintro ⟨x, y, hx, hy, ne⟩
    obtain ⟨m, hm, em, _⟩ := head_ex h q hx
    obtain ⟨k, hk, ek, _⟩ := head_ex h q hy
    have nmk : m ≠ k := fun z => by
      subst z
      exact ne (q.tr _ _ _ hx (mem_hds.mp hm).1 hy em (q.sym _ _ hy (mem_hds.mp hm).1 ek))
    match hh : hds l E with
    | [] => rw [hh] at hm; cases hm
    | [z] =>
      rw [hh] at hm hk
      simp at hm hk
      exact absurd (hm.trans hk.symm) nmk
    | _ :: _ :: _ => simp
end
/-! ### closing by middles -/
/-- after the middles below k -/
def wl (a : Nat → Nat → Bool) : Nat → Nat → Nat → Bool
  | 0 => a
  | k + 1 => fun x y => wl a k x y || (wl a k x k && wl a k k y)
section
variable {a : Nat → Nat → Bool}
theorem wl_tr : ∀ (k z : Nat), z < k → ∀ x y, wl a k x z = true → wl a k z y = true → wl a k x y = true
  | 0, z, h, _, _, _, _ => absurd h (Nat.not_lt_zero z)
  | k + 1, z, h, x, y, h1, h2 => by
    simp only [wl, Bool.or_eq_true, Bool.and_eq_true] at h1 h2 ⊢
    by_cases hz : z = k
    · subst hz
      have e1 : wl a z x z = true := h1.elim id (·.1)
      have e2 : wl a z z y = true := h2.elim id (·.2)
      exact .inr ⟨e1, e2⟩
    · have hk : z < k := by omega
      rcases h1 with h1 | ⟨h1, h1'⟩ <;> rcases h2 with h2 | ⟨h2, h2'⟩
      · exact .inl (wl_tr k z hk x y h1 h2)
      · exact .inr ⟨wl_tr k z hk x k h1 h2, h2'⟩
      · exact .inr ⟨h1, wl_tr k z hk k y h1' h2⟩
      · exact .inr ⟨h1, h2'⟩
theorem wl_up : ∀ (k x y : Nat), a x y = true → wl a k x y = true
  | 0, _, _, h => h
  | k + 1, x, y, h => by
    simp only [wl, Bool.or_eq_true]
    exact .inl (wl_up k x y h)
theorem wl_dn {R : Nat → Nat → Prop} {n : Nat} (h0 : ∀ x y, x < n → y < n → a x y = true → R x y) (ht : ∀ x y z, R x y → R y z → R x z) : ∀ (k : Nat), k ≤ n → ∀ x y, x < n → y < n → wl a k x y = true → R x y
  | 0, _, x, y, hx, hy, h => h0 x y hx hy h
  | k + 1, hk, x, y, hx, hy, h => by
    simp only [wl, Bool.or_eq_true, Bool.and_eq_true] at h
    rcases h with h | ⟨h1, h2⟩
    · exact wl_dn h0 ht k (by omega) x y hx hy h
    · exact ht _ _ _ (wl_dn h0 ht k (by omega) x k hx (by omega) h1) (wl_dn h0 ht k (by omega) k y (by omega) hy h2)
end
/-- the blocks: connected by unlike looks -/
theorem wl_cn {n : Nat} {t : Nat → Nat → Bool} (f : Bool) {x y : Nat} (hx : x < n) (hy : y < n) : (wl (fun x y => t x y != f) n x y = true ∨ x = y) ↔ Cn (Ad n t f) x y := by
  have ne : ∀ p q : Bool, (p != q) = true ↔ p = !q := fun p q => by cases p <;> cases q <;> simp
  constructor
  · rintro (h | h)
    · refine wl_dn (R := Cn (Ad n t f)) (n := n) (fun x y hx hy h => ?_) (fun _ _ _ a b => a.trans b) n (Nat.le_refl _) x y hx hy h
      by_cases e : x = y
      · rw [e]; exact .refl
      · exact .step .refl ⟨hx, hy, e, (ne _ _).mp h⟩
    · rw [h]; exact .refl
  · intro c
    have : y < n ∧ (wl (fun x y => t x y != f) n x y = true ∨ x = y) := by
      refine c.keep (P := fun y => y < n ∧ (wl (fun x y => t x y != f) n x y = true ∨ x = y)) (fun u v ⟨hu, h⟩ r => ⟨r.2.1, .inl ?_⟩) ⟨hx, .inr rfl⟩
      have s := wl_up (a := fun x y => t x y != f) n u v ((ne _ _).mpr r.2.2.2)
      rcases h with h | h
      · exact wl_tr n u hu x v h s
      · rw [h]; exact s
    exact this.2
theorem eqv_cn {n : Nat} {t : Nat → Nat → Bool} (w : Wb t) (f : Bool) : Eqv (List.range n) (Cn (Ad n t f)) :=
  ⟨fun _ _ => .refl, fun _ _ _ _ h => h.symm (Ad.symm w), fun _ _ _ _ _ _ h k => h.trans k⟩
end K41
end
section
set_option autoImplicit false
set_option linter.all false
/-! K41, plain law, part D: the knot of a whole web, carried to a strong lot; the tree's classes. -/
namespace K41
open Classical
/-- the top knot of a web: E tells its sons -/
structure KnP (n : Nat) (t : Nat → Nat → Bool) (fm : Bool) (E : Nat → Nat → Prop) : Prop where
  parts : Parts n t E
  all : fm = false → ∃ f, (∀ x y, x < n → y < n → ¬ E x y → t x y = f) ∧ ∀ x y, x < n → E x y → Cn (fun a b => E x a ∧ E x b ∧ a ≠ b ∧ t a b = !f) x y
  firm : fm = true → (∀ T, Mo n t T → (∃ u, u < n ∧ ¬ T u) → ∀ x y, T x → T y → E x y) ∧ (∃ x y, x < n ∧ y < n ∧ ¬ E x y ∧ t x y = true) ∧ ∃ x y, x < n ∧ y < n ∧ ¬ E x y ∧ t x y = false
section
variable {n : Nat} {t : Nat → Nat → Bool} (w : Wb t)
include w
theorem knP_all {f : Bool} (h2 : ∃ x y, x < n ∧ y < n ∧ ¬ Cn (Ad n t f) x y) : KnP n t false (Cn (Ad n t f)) where
  parts := partsA w h2
  all := fun _ => ⟨f, fun x y hx hy ne => cn_out w hy .refl hx fun q => ne (cn_sym w q), fun x y hx e => by
    induction e with
    | refl => exact .refl
    | step h r ih => exact .step ih ⟨h, h.step r, r.2.2.1, r.2.2.2⟩⟩
  firm := fun h => (nomatch h)
theorem knP_firm (h2 : 2 ≤ n) (hc : ∀ f x y, x < n → y < n → Cn (Ad n t f) x y) : KnP n t true (Pe n t) where
  parts := partsB w hc h2
  all := fun h => (nomatch h)
  firm := fun _ => by
    have two := (partsB w hc h2).two
    have cross : ∀ f, ∃ x y, x < n ∧ y < n ∧ ¬ Pe n t x y ∧ t x y = !f := fun f => by
      refine Classical.byContradiction fun hno => ?_
      obtain ⟨x, y, hx, hy, ne⟩ := two
      have : Pe n t x y := (hc f x y hx hy).keep (P := Pe n t x) (fun u v hu r => by
        refine Classical.byContradiction fun q => hno ⟨u, v, r.1, r.2.1, fun e => q (pe_trans w hc hu e), r.2.2.2⟩) (pe_refl h2 hx)
      exact ne this
    exact ⟨fun T hT hu x y hx hy => ⟨T, ⟨hT, hu⟩, hx, hy⟩, cross false, cross true⟩
omit w in
theorem eqv_parts {E : Nat → Nat → Prop} (h : Parts n t E) : Eqv (List.range n) E :=
  ⟨fun x hx => h.rfl' x (List.mem_range.mp hx), fun x y hx _ e => h.sym x y (List.mem_range.mp hx) e, fun x y z hx _ _ e e' => h.tr x y z (List.mem_range.mp hx) e e'⟩
omit w in
theorem eqv_partsL {l : List Nat} {E : Nat → Nat → Prop} (h : PartsL n t l E) : Eqv l E :=
  ⟨fun x hx => h.rfl' x hx, fun x y _ _ e => h.sym x y e, fun x y z _ _ _ e e' => h.tr x y z e e'⟩
omit w in
theorem kn_up {l : List Nat} {fm : Bool} {E : Nat → Nat → Prop} (hl : Stg n t (· ∈ l)) (nd : l.Nodup) (h : KnP l.length (pt t l) fm E) : Kn n t l fm (Im l E) where
  str := hl
  parts := parts_up nd hl h.parts
  all := fun e => by
    obtain ⟨f, h1, h2⟩ := h.all e
    refine ⟨f, fun x y hx hy ne => ?_, fun x y ⟨i, j, hi, hj, ei, ej, r⟩ => ?_⟩
    · obtain ⟨i, hi, ei⟩ := mem_at hx
      obtain ⟨j, hj, ej⟩ := mem_at hy
      subst ei ej
      exact h1 i j hi hj fun r => ne ⟨i, j, hi, hj, rfl, rfl, r⟩
    · subst ei ej
      have go : ∀ j, Cn (fun a b => E i a ∧ E i b ∧ a ≠ b ∧ pt t l a b = !f) i j → Cn (fun a b => Im l E (at' l i) a ∧ Im l E (at' l i) b ∧ a ≠ b ∧ t a b = !f) (at' l i) (at' l j) := fun j c => by
        induction c with
        | refl => exact .refl
        | step _ r ih =>
          have la := h.parts.lt i _ hi r.1
          have lb := h.parts.lt i _ hi r.2.1
          exact .step ih ⟨⟨i, _, hi, la, rfl, rfl, r.1⟩, ⟨i, _, hi, lb, rfl, rfl, r.2.1⟩, fun q => r.2.2.1 (at_inj nd la lb q), r.2.2.2⟩
      exact go j (h2 i j hi r)
  firm := fun e => by
    obtain ⟨h1, ⟨i, j, hi, hj, ne, r⟩, i', j', hi', hj', ne', r'⟩ := h.firm e
    have nim : ∀ {i j}, i < l.length → j < l.length → ¬ E i j → ¬ Im l E (at' l i) (at' l j) := fun hi hj ne ⟨a, b, ha, hb, ea, eb, q⟩ => by
      rw [at_inj nd ha hi ea, at_inj nd hb hj eb] at q
      exact ne q
    refine ⟨fun T hT hs ⟨u, hu, nu⟩ x y hx hy => ?_, ⟨_, _, at_mem hi, at_mem hj, nim hi hj ne, r⟩, _, _, at_mem hi', at_mem hj', nim hi' hj' ne', r'⟩
    obtain ⟨a, ha, ea⟩ := mem_at (hs x hx)
    obtain ⟨b, hb, eb⟩ := mem_at (hs y hy)
    obtain ⟨k, hk, ek⟩ := mem_at hu
    exact ⟨a, b, ha, hb, ea, eb, h1 _ (mo_dn hl.1.1 hT) ⟨k, hk, fun q => nu (ek ▸ q.2)⟩ a b ⟨ha, ea ▸ hx⟩ ⟨hb, eb ▸ hy⟩⟩
end
/-! ### the classes of a lot, by places -/
theorem filtMap {α β : Type} {f : α → β} {l : List α} {p : β → Bool} {q : α → Bool} (h : ∀ a, a ∈ l → p (f a) = q a) : (l.map f).filter p = (l.filter q).map f := by
  rw [List.filter_map]
  congr 1
  exact List.filter_congr fun a ha => h a ha
theorem at_mono {l : List Nat} (h : Asc l) {i j : Nat} (hi : i < j) (hj : j < l.length) : at' l i < at' l j := by
  unfold at'
  rw [List.getD_eq_getElem?_getD, List.getD_eq_getElem?_getD, List.getElem?_eq_getElem (by omega), List.getElem?_eq_getElem hj]
  exact List.pairwise_iff_getElem.mp h i j (by omega) hj hi
theorem map_at_range (l : List Nat) : (List.range l.length).map (at' l) = l := by
  apply List.ext_getElem?
  intro i
  rw [List.getElem?_map]
  by_cases h : i < l.length
  · rw [List.getElem?_range h, List.getElem?_eq_getElem h]
    unfold at'
    rw [Option.map_some, List.getD_eq_getElem?_getD, List.getElem?_eq_getElem h]
    rfl
  · rw [List.getElem?_eq_none (by rw [List.length_range]; omega), List.getElem?_eq_none (by omega)]
    rfl
theorem clsL_up {l : List Nat} {E : Nat → Nat → Prop} (h : Asc l) (q : Eqv (List.range l.length) E) : clsL l (Im l E) = (clsL (List.range l.length) E).map fun c => c.map (at' l) := by
  have nd := h.nodup
  have im : ∀ {i j}, i < l.length → j < l.length → (Im l E (at' l i) (at' l j) ↔ E i j) := fun hi hj => ⟨fun ⟨a, b, ha, hb, ea, eb, r⟩ => by
    rw [at_inj nd ha hi ea, at_inj nd hb hj eb] at r
    exact r, fun r => ⟨_, _, hi, hj, rfl, rfl, r⟩⟩
  have hlp : l = (List.range l.length).map (at' l) := (map_at_range l).symm
  have le : ∀ {i j}, i < l.length → j < l.length → (at' l i ≤ at' l j ↔ i ≤ j) := fun {i j} hi hj => by
    constructor
    · intro hh
      refine Classical.byContradiction fun z => ?_
      have := at_mono h (i := j) (j := i) (by omega) hi
      omega
    · intro hh
      rcases Nat.lt_or_eq_of_le hh with z | z
      · exact Nat.le_of_lt (at_mono h z hj)
      · rw [z]; exact Nat.le_refl _
  have hc : ∀ i, i < l.length → clOf l (Im l E) (at' l i) = (clOf (List.range l.length) E i).map (at' l) := fun i hi => by
    unfold clOf
    rw [← filtMap (f := at' l) (l := List.range l.length) (p := fun y => decide (Im l E (at' l i) y)) (q := fun j => decide (E i j)) fun j hj => by
      have := im hi (List.mem_range.mp hj)
      simp [this], ← hlp]
  have hh : hds l (Im l E) = (hds (List.range l.length) E).map (at' l) := by
    unfold hds
    rw [← filtMap (f := at' l) (l := List.range l.length) (p := fun x => decide (∀ y, y ∈ l → Im l E x y → x ≤ y)) (q := fun i => decide (∀ j, j ∈ List.range l.length → E i j → i ≤ j)) fun i hi => by
      have hi' := List.mem_range.mp hi
      have : (∀ y, y ∈ l → Im l E (at' l i) y → at' l i ≤ y) ↔ ∀ j, j ∈ List.range l.length → E i j → i ≤ j := by
        constructor
        · intro a j hj e
          have hj' := List.mem_range.mp hj
          exact (le hi' hj').mp (a _ (at_mem hj') ((im hi' hj').mpr e))
        · intro a y hy e
          obtain ⟨j, hj, ej⟩ := mem_at hy
          subst ej
          exact (le hi' hj).mpr (a j (List.mem_range.mpr hj) ((im hi' hj).mp e))
      simp [this], ← hlp]
  unfold clsL
  rw [hh, List.map_map, List.map_map]
  exact List.map_congr_left fun i hi => hc i (List.mem_range.mp (mem_hds.mp hi).1)
end K41
end
section
set_option autoImplicit false
set_option linter.all false
/-! K41, plain law, part E: lots as masks; the law's strong masks, its sons. -/
namespace K41
open Classical
def msk (l : List Nat) : Nat := (l.map (2 ^ ·)).sum
def lot (m : Nat) : List Nat := (List.range 8).filter fun x => m.testBit x
theorem asc_lot (m : Nat) : Asc (lot m) := (asc_range 8).filter _
theorem mem_lot {m x : Nat} : x ∈ lot m ↔ x < 8 ∧ m.testBit x = true := by
  unfold lot
  rw [List.mem_filter, List.mem_range]
theorem msk_div : ∀ {l : List Nat} {k : Nat}, (∀ x ∈ l, k ≤ x) → ∃ q, msk l = 2 ^ k * q
  | [], k, _ => ⟨0, rfl⟩
  | x :: l, k, h => by
    obtain ⟨q, hq⟩ := msk_div (l := l) (k := k) fun y hy => h y (List.mem_cons_of_mem _ hy)
    have hx := h x List.mem_cons_self
    refine ⟨2 ^ (x - k) + q, ?_⟩
    show 2 ^ x + msk l = _
    rw [hq, Nat.mul_add, ← Nat.pow_add, show k + (x - k) = x by omega]
theorem bit_msk : ∀ {l : List Nat}, Asc l → ∀ y, (msk l).testBit y = decide (y ∈ l)
  | [], _, y => by
    show (0 : Nat).testBit y = _
    simp
  | x :: l, h, y => by
    obtain ⟨h1, h2⟩ := List.pairwise_cons.mp h
    have ih := bit_msk h2 y
    obtain ⟨q, hq⟩ := msk_div (l := l) (k := x + 1) fun z hz => h1 z hz
    have e : msk (x :: l) = 2 ^ (x + 1) * q + 2 ^ x := by
      show 2 ^ x + msk l = _
      rw [hq]
      omega
    rw [e, Nat.testBit_two_pow_mul_add _ (Nat.pow_lt_pow_right (by omega) (by omega))]
    rw [hq, Nat.testBit_two_pow_mul] at ih
    by_cases hy : y < x + 1
    · rw [if_pos hy, Nat.testBit_two_pow]
      have hn : y ∉ l := fun z => by have := h1 y z; omega
      by_cases e2 : x = y
      · subst e2; simp
      · have : ¬ y = x := fun z => e2 z.symm
        simp [e2, this, hn]
    · rw [if_neg hy]
      have : ¬ y = x := by omega
      have hge : y ≥ x + 1 := by omega
      simp only [hge, decide_true, Bool.true_and] at ih
      rw [ih]
      simp [this]
theorem msk_lt {l : List Nat} {n : Nat} (h : Asc l) (hl : ∀ x ∈ l, x < n) : msk l < 2 ^ n := by
  refine Nat.lt_pow_two_of_testBit _ fun i hi => ?_
  rw [bit_msk h]
  exact decide_eq_false fun z => by have := hl i z; omega
theorem lot_msk {l : List Nat} (h : Asc l) (hl : ∀ x ∈ l, x < 8) : lot (msk l) = l := asc_ext (asc_lot _) h fun x => by
  rw [mem_lot, bit_msk h, decide_eq_true_eq]
  exact ⟨fun z => z.2, fun z => ⟨hl x z, z⟩⟩
theorem msk_lot {m : Nat} (h : m < 2 ^ 8) : msk (lot m) = m := by
  refine Nat.eq_of_testBit_eq fun i => ?_
  rw [bit_msk (asc_lot m)]
  by_cases hi : i < 8
  · cases e : m.testBit i with
    | true => exact decide_eq_true (mem_lot.mpr ⟨hi, e⟩)
    | false => exact decide_eq_false fun z => by rw [(mem_lot.mp z).2] at e; cases e
  · rw [decide_eq_false fun z => hi (mem_lot.mp z).1, Nat.testBit_lt_two_pow (Nat.lt_of_lt_of_le h (Nat.pow_le_pow_right (by omega) (by omega)))]
theorem msk_inj {l l' : List Nat} (h : Asc l) (h' : Asc l') (e : msk l = msk l') : l = l' := asc_ext h h' fun x => by
  have h1 := bit_msk h x
  rw [e, bit_msk h' x] at h1
  exact (decide_eq_decide.mp h1).symm
/-! ### and -/
def bits (m : Nat) (x : Nat) : Prop := m.testBit x = true
theorem and_zero {a b : Nat} : a &&& b = 0 ↔ ∀ x, bits a x → ¬ bits b x := by
  constructor
  · intro h x ha hb
    have := congrArg (·.testBit x) h
    simp only [Nat.testBit_and, Nat.zero_testBit] at this
    unfold bits at ha hb
    rw [ha, hb] at this
    cases this
  · intro h
    refine Nat.eq_of_testBit_eq fun x => ?_
    rw [Nat.testBit_and, Nat.zero_testBit]
    cases e : a.testBit x with
    | false => rfl
    | true =>
      cases e2 : b.testBit x with
      | false => rfl
      | true => exact absurd e2 (h x e)
theorem and_sub {a b : Nat} : a &&& b = b ↔ ∀ x, bits b x → bits a x := by
  constructor
  · intro h x hb
    have := congrArg (·.testBit x) h
    simp only [Nat.testBit_and] at this
    unfold bits at hb ⊢
    rw [hb] at this
    simpa using this
  · intro h
    refine Nat.eq_of_testBit_eq fun x => ?_
    rw [Nat.testBit_and]
    cases e : b.testBit x with
    | false => simp
    | true =>
      have h2 : a.testBit x = true := h x e
      rw [h2]
      rfl
theorem and_sub' {a b : Nat} : a &&& b = a ↔ ∀ x, bits a x → bits b x := by rw [Nat.and_comm]; exact and_sub
theorem bits_lt {m n x : Nat} (h : m < 2 ^ n) (hx : bits m x) : x < n := Classical.byContradiction fun q => by
  have := Nat.testBit_lt_two_pow (Nat.lt_of_lt_of_le h (Nat.pow_le_pow_right (n := 2) (by omega) (show n ≤ x by omega)))
  unfold bits at hx
  rw [this] at hx
  cases hx
theorem bits_ne {m : Nat} (h : m ≠ 0) : ∃ x, bits m x := Nat.exists_testBit_of_ne_zero h
theorem bits_msk {l : List Nat} (h : Asc l) : bits (msk l) = (· ∈ l) := funext fun x => propext (by unfold bits; rw [bit_msk h, decide_eq_true_eq])
theorem bits_ext {a b : Nat} (h : ∀ x, bits a x ↔ bits b x) : a = b := Nat.eq_of_testBit_eq fun x => by
  have := h x
  unfold bits at this
  cases e : a.testBit x <;> cases e2 : b.testBit x <;> simp [e, e2] at this ⊢
/-- each set below n is a mask -/
theorem mask_of (n : Nat) (S : Nat → Prop) (hS : ∀ x, S x → x < n) : ∃ m, m < 2 ^ n ∧ ∀ x, bits m x ↔ S x := by
  have asc : Asc ((List.range n).filter fun x => decide (S x)) := (asc_range n).filter _
  refine ⟨msk ((List.range n).filter fun x => decide (S x)), msk_lt asc fun x hx => List.mem_range.mp (List.mem_filter.mp hx).1, fun x => ?_⟩
  rw [bits_msk asc]
  show x ∈ (List.range n).filter (fun x => decide (S x)) ↔ _
  rw [List.mem_filter, List.mem_range, decide_eq_true_eq]
  exact ⟨fun h => h.2, fun h => ⟨hS x h, h⟩⟩
/-! ### the law's near masks, pieces, strong masks -/
def nr (n : Nat) (t : Nat → Nat → Bool) (x : Nat) : Nat := msk ((List.range n).filter fun y => t x y)
section
variable {n : Nat} {t : Nat → Nat → Bool}
theorem bits_nr {x y : Nat} : bits (nr n t x) y ↔ y < n ∧ t x y = true := by
  unfold nr
  rw [bits_msk ((asc_range n).filter _)]
  show y ∈ (List.range n).filter (fun y => t x y) ↔ _
  rw [List.mem_filter, List.mem_range]
theorem nr_lt (x : Nat) : nr n t x < 2 ^ n := msk_lt ((asc_range n).filter _) fun y hy => List.mem_range.mp (List.mem_filter.mp hy).1
theorem mo_bits {m : Nat} (hm : m < 2 ^ n) : (∀ z, z < n → ¬ bits m z → nr n t z &&& m = 0 ∨ nr n t z &&& m = m) ↔ Mo n t (bits m) := by
  constructor
  · intro h
    refine ⟨fun x hx => bits_lt hm hx, fun z hz hn x y hx hy => ?_⟩
    rcases h z hz hn with q | q
    · rw [and_zero] at q
      have hx' : t z x = false := by
        cases e : t z x with
        | false => rfl
        | true => exact absurd hx (q x (bits_nr.mpr ⟨bits_lt hm hx, e⟩))
      have hy' : t z y = false := by
        cases e : t z y with
        | false => rfl
        | true => exact absurd hy (q y (bits_nr.mpr ⟨bits_lt hm hy, e⟩))
      rw [hx', hy']
    · rw [and_sub] at q
      rw [(bits_nr.mp (q x hx)).2, (bits_nr.mp (q y hy)).2]
  · intro h z hz hn
    by_cases q : ∃ x, bits m x ∧ t z x = true
    · obtain ⟨x, hx, ex⟩ := q
      refine .inr (and_sub.mpr fun y hy => bits_nr.mpr ⟨bits_lt hm hy, ?_⟩)
      rw [← h.2 z hz hn x y hx hy, ex]
    · exact .inl (and_zero.mpr fun y hy1 hy2 => q ⟨y, hy2, (bits_nr.mp hy1).2⟩)
/-- the pieces' masks -/
noncomputable def pieces (n : Nat) (t : Nat → Nat → Bool) : List Nat := ((List.range (2 ^ n - 1)).map (· + 1)).filter fun m => decide (Mo n t (bits m))
noncomputable def strM (n : Nat) (t : Nat → Nat → Bool) : List Nat := (pieces n t).filter fun m => decide (∀ o, o ∈ pieces n t → m &&& o = 0 ∨ m &&& o = m ∨ m &&& o = o)
theorem asc_pieces : Asc (pieces n t) := List.Pairwise.filter _ (List.pairwise_map.mpr ((asc_range _).imp fun h => by omega))
theorem asc_strM : Asc (strM n t) := asc_pieces.filter _
theorem mem_pieces {m : Nat} : m ∈ pieces n t ↔ 0 < m ∧ m < 2 ^ n ∧ Mo n t (bits m) := by
  unfold pieces
  rw [List.mem_filter, List.mem_map, decide_eq_true_eq]
  constructor
  · rintro ⟨⟨i, hi, rfl⟩, h⟩
    have := List.mem_range.mp hi
    exact ⟨by omega, by omega, h⟩
  · rintro ⟨h0, h1, h⟩
    exact ⟨⟨m - 1, List.mem_range.mpr (by omega), by omega⟩, h⟩
theorem mem_strM {m : Nat} : m ∈ strM n t ↔ m < 2 ^ n ∧ Stg n t (bits m) := by
  unfold strM
  rw [List.mem_filter, mem_pieces, decide_eq_true_eq]
  constructor
  · rintro ⟨⟨h0, h1, h2⟩, h3⟩
    refine ⟨h1, h2, bits_ne (by omega), fun T hT ⟨x, hx, hxT⟩ => ?_⟩
    obtain ⟨o, ho, eo⟩ := mask_of n T hT.1
    have hb : bits o = T := funext fun x => propext (eo x)
    have ho0 : 0 < o := Nat.pos_of_ne_zero fun z => by
      subst z
      have := (eo x).mpr hxT
      unfold bits at this
      simp at this
    rcases h3 o (mem_pieces.mpr ⟨ho0, ho, by rw [hb]; exact hT⟩) with q | q | q
    · exact absurd ((eo x).mpr hxT) (and_zero.mp q x hx)
    · exact .inl fun y hy => (eo y).mp (and_sub'.mp q y hy)
    · exact .inr fun y hy => and_sub.mp q y ((eo y).mpr hy)
  · rintro ⟨h1, h2, ⟨x, hx⟩, h3⟩
    have h0 : 0 < m := Nat.pos_of_ne_zero fun z => by
      subst z
      unfold bits at hx
      simp at hx
    refine ⟨⟨h0, h1, h2⟩, fun o ho => ?_⟩
    obtain ⟨o0, o1, o2⟩ := mem_pieces.mp ho
    by_cases q : ∃ y, bits m y ∧ bits o y
    · rcases h3 _ o2 q with r | r
      · exact .inr (.inl (and_sub'.mpr r))
      · exact .inr (.inr (and_sub.mpr r))
    · exact .inl (and_zero.mpr fun y a b => q ⟨y, a, b⟩)
/-! ### sons -/
noncomputable def within (n : Nat) (t : Nat → Nat → Bool) (p : Nat) : List Nat := (strM n t).filter fun o => decide (o ≠ p) && decide (o &&& p = o)
noncomputable def tops (n : Nat) (t : Nat → Nat → Bool) (p : Nat) : List Nat := (within n t p).filter fun o => decide (∀ q, q ∈ within n t p → ¬ (q ≠ o ∧ q &&& o = o))
theorem mem_within {p o : Nat} : o ∈ within n t p ↔ o < 2 ^ n ∧ Stg n t (bits o) ∧ o ≠ p ∧ ∀ x, bits o x → bits p x := by
  unfold within
  rw [List.mem_filter, mem_strM, Bool.and_eq_true, decide_eq_true_eq, decide_eq_true_eq, and_sub']
  exact ⟨fun ⟨⟨a, b⟩, c, d⟩ => ⟨a, b, c, d⟩, fun ⟨a, b, c, d⟩ => ⟨⟨a, b⟩, c, d⟩⟩
theorem mem_tops {l : List Nat} {fm : Bool} {E : Nat → Nat → Prop} (asc : Asc l) (k : Kn n t l fm E) {m : Nat} : m ∈ tops n t (msk l) ↔ ∃ c, c ∈ clsL l E ∧ m = msk c := by
  have p := k.parts
  have qE := eqv_partsL p
  have bl : bits (msk l) = (· ∈ l) := bits_msk asc
  have hl : ∀ x ∈ l, x < n := k.str.1.1
  have cl : ∀ c, c ∈ clsL l E → Asc c ∧ (∀ y, y ∈ c → y ∈ l) ∧ ∃ x, x ∈ l ∧ bits (msk c) = E x := fun c hc => by
    obtain ⟨x, hx, e⟩ := (mem_clsL asc qE).mp hc
    have ac : Asc c := by rw [e]; exact asc_clOf asc x
    have mem : ∀ y, y ∈ c ↔ E x y := fun y => by
      rw [e, mem_clOf]
      exact ⟨fun h => h.2, fun h => ⟨(p.mem x y h).2, h⟩⟩
    refine ⟨ac, fun y hy => (p.mem x y ((mem y).mp hy)).2, x, hx, ?_⟩
    rw [bits_msk ac]
    exact funext fun y => propext (mem y)
  have cw : ∀ c, c ∈ clsL l E → msk c ∈ within n t (msk l) := fun c hc => by
    obtain ⟨ac, hs, x, hx, hb⟩ := cl c hc
    refine mem_within.mpr ⟨msk_lt ac fun y hy => hl y (hs y hy), by rw [hb]; exact p.str x hx, fun z => ?_, fun y hy => ?_⟩
    · obtain ⟨a, b, ha, hb', ne⟩ := p.two
      have e2 : ∀ y, E x y ↔ y ∈ l := fun y => by
        have : bits (msk c) y = bits (msk l) y := by rw [z]
        rw [hb, bl] at this
        exact iff_of_eq this
      exact ne (p.tr _ _ _ (p.sym _ _ ((e2 a).mpr ha)) ((e2 b).mpr hb'))
    · rw [bits_msk ac] at hy
      rw [bl]
      exact hs y hy
  -- what is strong within lies in a class
  have inc : ∀ o, o ∈ within n t (msk l) → ∃ c, c ∈ clsL l E ∧ ∀ x, bits o x → bits (msk c) x := fun o ho => by
    obtain ⟨o1, o2, o3, o4⟩ := mem_within.mp ho
    obtain ⟨x, hx⟩ := o2.2.1
    have hxl : x ∈ l := by have := o4 x hx; rw [bl] at this; exact this
    have hsub : ∀ y, bits o y → y ∈ l := fun y hy => by have := o4 y hy; rw [bl] at this; exact this
    have prop : ∃ u, u ∈ l ∧ ¬ bits o u := Classical.byContradiction fun q => o3 (bits_ext fun y => by
      rw [bl]
      exact ⟨hsub y, fun hy => Classical.byContradiction fun r => q ⟨y, hy, r⟩⟩)
    have hc : clOf l E x ∈ clsL l E := (mem_clsL asc qE).mpr ⟨x, hxl, rfl⟩
    refine ⟨_, hc, fun y hy => ?_⟩
    rw [bits_msk (asc_clOf asc x)]
    exact mem_clOf.mpr ⟨hsub y hy, p.ins _ o2 hsub prop x y hx hy⟩
  unfold tops
  rw [List.mem_filter, decide_eq_true_eq]
  constructor
  · rintro ⟨h1, h2⟩
    obtain ⟨c, hc, hs⟩ := inc m h1
    refine ⟨c, hc, Classical.byContradiction fun q => h2 (msk c) (cw c hc) ⟨fun z => q z.symm, and_sub.mpr hs⟩⟩
  · rintro ⟨c, hc, rfl⟩
    refine ⟨cw c hc, fun q hq ⟨q1, q2⟩ => ?_⟩
    obtain ⟨ac, hs, x, hx, hb⟩ := cl c hc
    obtain ⟨c', hc', hs'⟩ := inc q hq
    obtain ⟨ac', hsl', x', hx', hb'⟩ := cl c' hc'
    have sub := and_sub.mp q2
    -- q lies in a class that meets c, so in c
    have hxx' : E x' x := by
      have : bits (msk c') x := hs' x (sub x (by rw [hb]; exact p.rfl' x hx))
      rw [hb'] at this
      exact this
    refine q1 (bits_ext fun y => ⟨fun hy => ?_, fun hy => sub y hy⟩)
    have h3 := hs' y hy
    rw [hb'] at h3
    rw [hb]
    exact p.tr _ _ _ (p.sym _ _ hxx') h3
theorem asc_tops {p : Nat} : Asc (tops n t p) := (asc_strM.filter _).filter _
/-- each strong lot of two or more is a knot -/
theorem kn_ex (w : Wb t) {l : List Nat} (asc : Asc l) (hs : Stg n t (· ∈ l)) (h2 : 2 ≤ l.length) : ∃ fm E, Kn n t l fm E := by
  by_cases h : ∃ f x y, x < l.length ∧ y < l.length ∧ ¬ Cn (Ad l.length (pt t l) f) x y
  · obtain ⟨f, h⟩ := h
    exact ⟨_, _, kn_up hs asc.nodup (knP_all (w.part l) h)⟩
  · exact ⟨_, _, kn_up hs asc.nodup (knP_firm (w.part l) h2 fun f x y hx hy => Classical.byContradiction fun q => h ⟨f, x, y, hx, hy, q⟩)⟩
end
end K41
end
section
set_option autoImplicit false
set_option linter.all false
/-! K41, plain law, part F: ties of sons; lowest bits. -/
namespace K41
open Classical
/-- how many ordered pairs of h look true -/
def tieN (t : Nat → Nat → Bool) (h : List Nat) : Nat := (h.map fun x => (h.filter fun y => t x y).length).sum
section
variable {t : Nat → Nat → Bool} {h : List Nat}
theorem sum_const {α : Type} (l : List α) (g : α → Nat) (c : Nat) (hg : ∀ a ∈ l, g a = c) : (l.map g).sum = l.length * c := by
  induction l with
  | nil => simp
  | cons a l ih =>
    rw [List.map_cons, List.sum_cons, hg a List.mem_cons_self, ih fun b hb => hg b (List.mem_cons_of_mem _ hb), List.length_cons, Nat.succ_mul]
    omega
theorem sum_le {α : Type} (l : List α) (g : α → Nat) (c : Nat) (hg : ∀ a ∈ l, g a ≤ c) : (l.map g).sum ≤ l.length * c := by
  induction l with
  | nil => simp
  | cons a l ih =>
    have h1 := hg a List.mem_cons_self
    have h2 := ih fun b hb => hg b (List.mem_cons_of_mem _ hb)
    rw [List.map_cons, List.sum_cons, List.length_cons, Nat.succ_mul]
    omega
theorem sum_lt {α : Type} (l : List α) (g : α → Nat) (c : Nat) (hg : ∀ a ∈ l, g a ≤ c) (hs : ∃ a, a ∈ l ∧ g a < c) : (l.map g).sum < l.length * c := by
  induction l with
  | nil => obtain ⟨a, ha, _⟩ := hs; cases ha
  | cons a l ih =>
    have h1 := hg a List.mem_cons_self
    have h2 := sum_le l g c fun b hb => hg b (List.mem_cons_of_mem _ hb)
    rw [List.map_cons, List.sum_cons, List.length_cons, Nat.succ_mul]
    obtain ⟨b, hb, lt⟩ := hs
    rcases List.mem_cons.mp hb with e | e
    · subst e; omega
    · have := ih (fun b hb => hg b (List.mem_cons_of_mem _ hb)) ⟨b, e, lt⟩
      omega
theorem sum_pos {α : Type} (l : List α) (g : α → Nat) (hs : ∃ a, a ∈ l ∧ 0 < g a) : 0 < (l.map g).sum := by
  induction l with
  | nil => obtain ⟨a, ha, _⟩ := hs; cases ha
  | cons a l ih =>
    rw [List.map_cons, List.sum_cons]
    obtain ⟨b, hb, lt⟩ := hs
    rcases List.mem_cons.mp hb with e | e
    · subst e; omega
    · have := ih ⟨b, e, lt⟩
      omega
theorem others_len (w : Wb t) (asc : Asc h) {x : Nat} (hx : x ∈ h) : (h.filter fun y => t x y).length ≤ h.length - 1 := by
  have : (h.filter fun y => t x y).length < h.length := List.length_filter_lt_length_iff_exists.mpr ⟨x, hx, by simp [w.irr]⟩
  omega
theorem tie_none (h0 : ∀ x y, x ∈ h → y ∈ h → t x y = false) : tieN t h = 0 := by
  unfold tieN
  rw [sum_const h _ 0 fun x hx => ?_]
  · simp
  · rw [List.length_eq_zero_iff, List.filter_eq_nil_iff]
    intro y hy
    simp [h0 x y hx hy]
theorem tie_all (w : Wb t) (asc : Asc h) (h1 : ∀ x y, x ∈ h → y ∈ h → x ≠ y → t x y = true) : tieN t h = h.length * (h.length - 1) := by
  unfold tieN
  refine sum_const h _ _ fun x hx => ?_
  have e : (h.filter fun y => t x y) = h.filter fun y => decide (y ≠ x) := List.filter_congr fun y hy => by
    by_cases q : y = x
    · subst q; simp [w.irr]
    · simp [q, h1 x y hx hy (Ne.symm q)]
  rw [e]
  have p : h.Perm (x :: h.filter fun y => decide (y ≠ x)) := by
    refine (List.perm_ext_iff_of_nodup asc.nodup (List.nodup_cons.mpr ⟨by simp, asc.nodup.filter _⟩)).mpr fun y => ?_
    rw [List.mem_cons, List.mem_filter, decide_eq_true_eq]
    constructor
    · intro hy
      by_cases q : y = x
      · exact .inl q
      · exact .inr ⟨hy, q⟩
    · rintro (q | q)
      · rw [q]; exact hx
      · exact q.1
  have := p.length_eq
  rw [List.length_cons] at this
  omega
theorem tie_ne0 {x y : Nat} (hx : x ∈ h) (hy : y ∈ h) (e : t x y = true) : tieN t h ≠ 0 := by
  have : 0 < tieN t h := sum_pos h _ ⟨x, hx, List.length_pos_of_mem (List.mem_filter.mpr ⟨hy, e⟩)⟩
  omega
theorem tie_neA (w : Wb t) (asc : Asc h) {x y : Nat} (hx : x ∈ h) (hy : y ∈ h) (ne : x ≠ y) (e : t x y = false) : tieN t h ≠ h.length * (h.length - 1) := by
  have : tieN t h < h.length * (h.length - 1) := sum_lt h _ _ (fun a ha => others_len w asc ha) ⟨x, hx, by
    have nd : (x :: y :: h.filter fun z => t x z).Nodup := by
      refine List.nodup_cons.mpr ⟨fun q => ?_, List.nodup_cons.mpr ⟨fun q => ?_, asc.nodup.filter _⟩⟩
      · rcases List.mem_cons.mp q with r | r
        · exact ne r
        · have := (List.mem_filter.mp r).2
          rw [w.irr] at this
          cases this
      · have := (List.mem_filter.mp q).2
        rw [e] at this
        cases this
    have p : (x :: y :: h.filter fun z => t x z).Perm (h.filter fun z => decide (z ∈ x :: y :: h.filter fun z => t x z)) := (List.perm_ext_iff_of_nodup nd (asc.nodup.filter _)).mpr fun z => by
      rw [List.mem_filter, decide_eq_true_eq]
      refine ⟨fun q => ⟨?_, q⟩, fun q => q.2⟩
      rcases List.mem_cons.mp q with r | r
      · rw [r]; exact hx
      · rcases List.mem_cons.mp r with r | r
        · rw [r]; exact hy
        · exact (List.mem_filter.mp r).1
    have h1 := p.length_eq
    have h2 := List.length_filter_le (fun z => decide (z ∈ x :: y :: h.filter fun z => t x z)) h
    simp only [List.length_cons] at h1
    omega⟩
  omega
end
/-- the heads of two classes are unlike -/
theorem hds_ne {l : List Nat} {E : Nat → Nat → Prop} (q : Eqv l E) {x y : Nat} (hx : x ∈ hds l E) (hy : y ∈ hds l E) (ne : x ≠ y) : ¬ E x y := fun e => by
  obtain ⟨x1, x2⟩ := mem_hds.mp hx
  obtain ⟨y1, y2⟩ := mem_hds.mp hy
  have a := x2 y y1 e
  have b := y2 x x1 (q.sym _ _ x1 y1 e)
  omega
theorem lot_and {n : Nat} {t : Nat → Nat → Bool} (hn : n ≤ 8) {h : List Nat} (asc : Asc h) (hl : ∀ x ∈ h, x < n) (x : Nat) : lot (nr n t x &&& msk h) = h.filter fun y => t x y := asc_ext (asc_lot _) (asc.filter _) fun y => by
  rw [mem_lot, Nat.testBit_and, List.mem_filter, bit_msk asc]
  have h1 : (nr n t x).testBit y = true ↔ y < n ∧ t x y = true := bits_nr
  constructor
  · rintro ⟨a, b⟩
    rw [Bool.and_eq_true, decide_eq_true_eq] at b
    exact ⟨b.2, (h1.mp b.1).2⟩
  · rintro ⟨a, b⟩
    have := hl y a
    refine ⟨by omega, ?_⟩
    rw [Bool.and_eq_true, decide_eq_true_eq]
    exact ⟨h1.mpr ⟨this, b⟩, a⟩
/-- the word of a knot's ties -/
theorem tie_word {n : Nat} {t : Nat → Nat → Bool} (w : Wb t) {l : List Nat} {fm : Bool} {E : Nat → Nat → Prop} (asc : Asc l) (k : Kn n t l fm E) :
    ∃ f, (fm = false → ∀ x y, x ∈ l → y ∈ l → ¬ E x y → t x y = f) ∧ ((tieN t (hds l E) = 0) ↔ (fm = false ∧ f = false)) ∧ (tieN t (hds l E) = (hds l E).length * ((hds l E).length - 1) ↔ (fm = false ∧ f = true)) := by
  have p := k.parts
  have q := eqv_partsL p
  have ah : Asc (hds l E) := asc_hds asc
  have inl : ∀ x, x ∈ hds l E → x ∈ l := fun x hx => (mem_hds.mp hx).1
  have two : ∃ x y, x ∈ hds l E ∧ y ∈ hds l E ∧ x ≠ y := by
    obtain ⟨a, b, ha, hb, ne⟩ := p.two
    obtain ⟨x, hx, ex, _⟩ := head_ex asc q ha
    obtain ⟨y, hy, ey, _⟩ := head_ex asc q hb
    exact ⟨x, y, hx, hy, fun e => by subst e; exact ne (p.tr _ _ _ ex (p.sym _ _ ey))⟩
  -- a look between unlike sons is that of their heads
  have rep : ∀ a b, a ∈ l → b ∈ l → ¬ E a b → ∃ x y, x ∈ hds l E ∧ y ∈ hds l E ∧ x ≠ y ∧ t x y = t a b := fun a b ha hb ne => by
    obtain ⟨x, hx, ex, _⟩ := head_ex asc q ha
    obtain ⟨y, hy, ey, _⟩ := head_ex asc q hb
    exact ⟨x, y, hx, hy, fun e => by subst e; exact ne (p.tr _ _ _ ex (p.sym _ _ ey)), (Kn.rep w k ex ey ne).symm⟩
  cases hfm : fm with
  | false =>
    obtain ⟨f, h1, _⟩ := k.all hfm
    refine ⟨f, fun _ => h1, ?_, ?_⟩
    · constructor
      · intro e
        refine ⟨rfl, ?_⟩
        cases hf : f with
        | false => rfl
        | true =>
          obtain ⟨x, y, hx, hy, ne⟩ := two
          exact absurd e (tie_ne0 hx hy (by rw [h1 x y (inl x hx) (inl y hy) (hds_ne q hx hy ne), hf]))
      · rintro ⟨_, hf⟩
        refine tie_none fun x y hx hy => ?_
        by_cases e : x = y
        · rw [e]; exact w.irr y
        · rw [h1 x y (inl x hx) (inl y hy) (hds_ne q hx hy e), hf]
    · constructor
      · intro e
        refine ⟨rfl, ?_⟩
        cases hf : f with
        | true => rfl
        | false =>
          obtain ⟨x, y, hx, hy, ne⟩ := two
          exact absurd e (tie_neA w ah hx hy ne (by rw [h1 x y (inl x hx) (inl y hy) (hds_ne q hx hy ne), hf]))
      · rintro ⟨_, hf⟩
        exact tie_all w ah fun x y hx hy e => by rw [h1 x y (inl x hx) (inl y hy) (hds_ne q hx hy e), hf]
  | true =>
    obtain ⟨_, ⟨a, b, ha, hb, ne, e1⟩, a', b', ha', hb', ne', e2⟩ := k.firm hfm
    obtain ⟨x, y, hx, hy, _, ex⟩ := rep a b ha hb ne
    obtain ⟨x', y', hx', hy', ne2, ex'⟩ := rep a' b' ha' hb' ne'
    refine ⟨false, fun h => (nomatch h), ⟨fun e => absurd e (tie_ne0 hx hy (ex.trans e1)), fun h => (nomatch h.1)⟩, ⟨fun e => absurd e (tie_neA w ah hx' hy' ne2 (ex'.trans e2)), fun h => (nomatch h.1)⟩⟩
end K41
end
section
set_option autoImplicit false
set_option linter.all false
/-! K41, plain law, part G: one knot of an arrow; counting. -/
namespace K41
open Classical
section
variable {n : Nat} {t : Nat → Nat → Bool} {l l' : List Nat} {fm fm' : Bool} {E E' : Nat → Nat → Prop}
theorem kn_sub {a : Arw} (k : Kn n t l fm E) (k' : Kn n t l' fm' E') (h : InK l E a) (h' : InK l' E' a) : ∀ x, x ∈ l' → x ∈ l := fun u hu => Classical.byContradiction fun nu => by
  rcases k.str.2.2 (· ∈ l') k'.str.1 ⟨a.1, h.1, h'.1⟩ with q | q
  · exact h'.2.2 (k'.parts.ins (· ∈ l) k.str q ⟨u, hu, nu⟩ a.1 a.2 h.1 h.2.1)
  · exact nu (q u hu)
theorem kn_le {a : Arw} (k : Kn n t l fm E) (k' : Kn n t l' fm' E') (h : InK l E a) (h' : InK l' E' a) : ∀ x y, E' x y → E x y := fun x y e => by
  have mx := k'.parts.mem x y e
  refine k.parts.ins (E' x) (k'.parts.str x mx.1) (fun z ez => kn_sub k k' h h' z (k'.parts.mem _ _ ez).2) ?_ x y (k'.parts.rfl' x mx.1) e
  obtain ⟨u, v, hu, hv, ne⟩ := k'.parts.two
  by_cases eu : E' x u
  · exact ⟨v, kn_sub k k' h h' v hv, fun ev => ne (k'.parts.tr _ _ _ (k'.parts.sym _ _ eu) ev)⟩
  · exact ⟨u, kn_sub k k' h h' u hu, eu⟩
/-- an arrow lies in one knot -/
theorem kn_uniq {a : Arw} (k : Kn n t l fm E) (k' : Kn n t l' fm' E') (asc : Asc l) (asc' : Asc l') (h : InK l E a) (h' : InK l' E' a) : l = l' ∧ (∀ x y, E x y ↔ E' x y) ∧ fm = fm' := by
  have el : l = l' := asc_ext asc asc' fun x => ⟨kn_sub k' k h' h x, kn_sub k k' h h' x⟩
  have eE : ∀ x y, E x y ↔ E' x y := fun x y => ⟨kn_le k' k h' h x y, kn_le k k' h h' x y⟩
  refine ⟨el, eE, ?_⟩
  subst el
  have no : ∀ {f f' : Bool} {F F' : Nat → Nat → Prop}, Kn n t l f F → Kn n t l f' F' → (∀ x y, F x y ↔ F' x y) → f = false → f' = true → False := fun q q' e ef ef' => by
    obtain ⟨g, h1, _⟩ := q.all ef
    obtain ⟨_, ⟨x, y, hx, hy, ne, e1⟩, x', y', hx', hy', ne', e2⟩ := q'.firm ef'
    have r1 := h1 x y hx hy fun z => ne ((e x y).mp z)
    have r2 := h1 x' y' hx' hy' fun z => ne' ((e x' y').mp z)
    rw [e1] at r1
    rw [e2, ← r1] at r2
    cases r2
  cases hf : fm with
  | false => cases hf' : fm' with
    | false => rfl
    | true => exact (no k k' eE hf hf').elim
  | true => cases hf' : fm' with
    | false => exact (no k' k (fun x y => (eE x y).symm) hf' hf).elim
    | true => rfl
end
/-! ### counting -/
theorem filter_one {β : Type} (ks : List β) (g : β → Nat) (nd : (ks.map g).Nodup) (q : β → Bool) (ex : ∃ k, k ∈ ks ∧ q k = true) (un : ∀ k k', k ∈ ks → k' ∈ ks → q k = true → q k' = true → g k = g k') : (ks.filter q).length = 1 := by
  induction ks with
  | nil => obtain ⟨_, h, _⟩ := ex; cases h
  | cons k ks ih =>
    rw [List.map_cons, List.nodup_cons] at nd
    cases hq : q k with
    | true =>
      have : ks.filter q = [] := List.filter_eq_nil_iff.mpr fun k' hk' e => nd.1 (List.mem_map.mpr ⟨k', hk', un k' k (List.mem_cons_of_mem _ hk') List.mem_cons_self e hq⟩)
      rw [List.filter_cons_of_pos hq, this]
      rfl
    | false =>
      rw [List.filter_cons_of_neg (by rw [hq]; simp)]
      obtain ⟨k', hk', e⟩ := ex
      refine ih nd.2 ⟨k', (List.mem_cons.mp hk').elim (fun z => by rw [z, hq] at e; cases e) id, e⟩ fun a b ha hb => un a b (List.mem_cons_of_mem _ ha) (List.mem_cons_of_mem _ hb)
theorem sum_add {β : Type} (ks : List β) (f g : β → Nat) : (ks.map fun k => f k + g k).sum = (ks.map f).sum + (ks.map g).sum := by
  induction ks with
  | nil => rfl
  | cons k ks ih => simp only [List.map_cons, List.sum_cons, ih]; omega
theorem sum_ite {β : Type} (ks : List β) (q : β → Bool) : (ks.map fun k => if q k then 1 else 0).sum = (ks.filter q).length := by
  induction ks with
  | nil => rfl
  | cons k ks ih =>
    cases h : q k with
    | true => simp [List.filter_cons_of_pos h, h, ih]; omega
    | false => simp [h, ih]
theorem count_split {α β : Type} (ks : List β) (p : β → α → Bool) : ∀ L : List α, (∀ c ∈ L, (ks.filter fun k => p k c).length = 1) → L.length = (ks.map fun k => (L.filter (p k)).length).sum
  | [], _ => by
    have : ∀ ks : List β, (ks.map fun k => (([] : List α).filter (p k)).length).sum = 0 := fun ks => by
      induction ks with
      | nil => rfl
      | cons k ks ih => rw [List.map_cons, List.sum_cons, ih]; rfl
    rw [this ks]
    rfl
  | c :: L, h => by
    have ih := count_split ks p L fun d hd => h d (List.mem_cons_of_mem _ hd)
    have h1 := h c List.mem_cons_self
    have e : (ks.map fun k => ((c :: L).filter (p k)).length).sum = (ks.map fun k => (if p k c then 1 else 0) + (L.filter (p k)).length).sum := by
      congr 1
      refine List.map_congr_left fun k _ => ?_
      cases hq : p k c with
      | true => rw [List.filter_cons_of_pos hq, List.length_cons, if_pos rfl]; omega
      | false => rw [List.filter_cons_of_neg (by rw [hq]; simp)]; simp
    rw [e, sum_add, sum_ite, h1, List.length_cons, ih]
    omega
section
variable {l : List Nat} {E : Nat → Nat → Prop}
theorem clsL_nodup (h : Asc l) (q : Eqv l E) : (clsL l E).Nodup := by
  have e := clsL_heads h q
  have nd : ((clsL l E).map (·.headD 0)).Nodup := by rw [e]; exact (asc_hds h).nodup
  exact (List.pairwise_map.mp nd).imp fun h e => h (by rw [e])
/-- the classes that hold x: one -/
theorem clsL_home (h : Asc l) (q : Eqv l E) {x : Nat} (hx : x ∈ l) : (clsL l E).filter (fun c => decide (x ∈ c)) = [clOf l E x] := by
  have all : ∀ c ∈ (clsL l E).filter (fun c => decide (x ∈ c)), c = clOf l E x := fun c hc => by
    obtain ⟨h1, h2⟩ := List.mem_filter.mp hc
    obtain ⟨y, hy, e⟩ := (mem_clsL h q).mp h1
    rw [e] at h2 ⊢
    exact clOf_eq q hy hx (mem_clOf.mp (of_decide_eq_true h2)).2
  have nd := (clsL_nodup h q).filter (fun c => decide (x ∈ c))
  have inn : clOf l E x ∈ (clsL l E).filter (fun c => decide (x ∈ c)) := List.mem_filter.mpr ⟨(mem_clsL h q).mpr ⟨x, hx, rfl⟩, decide_eq_true (mem_clOf.mpr ⟨hx, q.rfl' x hx⟩)⟩
  generalize (clsL l E).filter (fun c => decide (x ∈ c)) = L at all nd inn
  match L, all, nd, inn with
  | [c], all, _, _ => rw [all c List.mem_cons_self]
  | c :: d :: L, all, nd, _ =>
    have e1 := all c List.mem_cons_self
    have e2 := all d (List.mem_cons_of_mem _ List.mem_cons_self)
    rw [e1, e2] at nd
    exact absurd List.mem_cons_self (List.nodup_cons.mp nd).1
/-- the pairs of unlike things -/
def prs (h : List Nat) : List (Nat × Nat) := h.flatMap fun x => (h.filter fun y => y != x).map fun y => (x, y)
theorem mem_prs {h : List Nat} {p : Nat × Nat} : p ∈ prs h ↔ p.1 ∈ h ∧ p.2 ∈ h ∧ p.1 ≠ p.2 := by
  unfold prs
  rw [List.mem_flatMap]
  constructor
  · rintro ⟨x, hx, hp⟩
    obtain ⟨y, hy, e⟩ := List.mem_map.mp hp
    subst e
    obtain ⟨h1, h2⟩ := List.mem_filter.mp hy
    exact ⟨hx, h1, fun z => by simp at h2; exact h2 z.symm⟩
  · rintro ⟨h1, h2, h3⟩
    exact ⟨p.1, h1, List.mem_map.mpr ⟨p.2, List.mem_filter.mpr ⟨h2, by simp; exact fun z => h3 z.symm⟩, rfl⟩⟩
theorem nodup_prs {h : List Nat} (nd : h.Nodup) : (prs h).Nodup := by
  unfold prs
  refine List.pairwise_flatMap.mpr ⟨fun x hx => List.pairwise_map.mpr ((nd.filter _).imp fun h e => h (Prod.mk.inj e).2), nd.imp fun {a b} hab p hp q hq e => ?_⟩
  obtain ⟨y, _, e1⟩ := List.mem_map.mp hp
  obtain ⟨z, _, e2⟩ := List.mem_map.mp hq
  rw [← e1, ← e2] at e
  exact hab (Prod.mk.inj e).1
theorem len_prs {h : List Nat} (nd : h.Nodup) : (prs h).length = h.length * (h.length - 1) := by
  unfold prs
  rw [List.length_flatMap]
  refine sum_const h _ _ fun x hx => ?_
  rw [List.length_map]
  have := List.Nodup.erase_eq_filter nd x
  rw [← this, List.length_erase_of_mem hx]
end
end K41
end
section
set_option autoImplicit false
set_option linter.all false
/-! K41, plain law, part H: the written webs: a fan, a path, a ring of five. -/
namespace K41
open Classical
/-- a web by its ties -/
def eg (es : List (Nat × Nat)) (x y : Nat) : Bool := es.any fun e => (e.1 == x && e.2 == y) || (e.1 == y && e.2 == x)
theorem wb_eg {es : List (Nat × Nat)} (h : ∀ e ∈ es, e.1 ≠ e.2) : Wb (eg es) where
  sym := fun x y => by
    unfold eg
    congr 1
    funext e
    exact Bool.or_comm _ _
  irr := fun x => by
    unfold eg
    rw [List.any_eq_false]
    intro e he
    have ne := h e he
    simp only [Bool.or_self, Bool.and_eq_true, beq_iff_eq]
    rintro ⟨a, b⟩
    exact ne (a.trans b.symm)
def rs (n : Nat) (E : Nat → Nat → Prop) (x y : Nat) : Prop := x < n ∧ E x y
/-- the top knot as a knot -/
theorem kn_top {n : Nat} {t : Nat → Nat → Bool} {fm : Bool} {E : Nat → Nat → Prop} (h0 : 0 < n) (h : KnP n t fm E) : Kn n t (List.range n) fm (rs n E) where
  str := by
    have e : (fun x => x ∈ List.range n) = fun x => x < n := funext fun x => propext List.mem_range
    rw [e]
    exact str_all h0
  parts := by
    have p := h.parts
    refine ⟨fun x hx => ⟨List.mem_range.mp hx, p.rfl' x (List.mem_range.mp hx)⟩, fun x y q => ⟨List.mem_range.mpr q.1, List.mem_range.mpr (p.lt x y q.1 q.2)⟩, fun x y q => ⟨p.lt x y q.1 q.2, p.sym x y q.1 q.2⟩,
      fun x y z q r => ⟨q.1, p.tr x y z q.1 q.2 r.2⟩, fun x hx => ?_, ?_, fun T hT _ ⟨u, hu, nu⟩ x y tx ty => ⟨hT.1.1 x tx, p.ins T hT ⟨u, List.mem_range.mp hu, nu⟩ x y tx ty⟩⟩
    · have hx' := List.mem_range.mp hx
      have e : rs n E x = E x := funext fun y => propext ⟨fun q => q.2, fun q => ⟨hx', q⟩⟩
      rw [e]
      exact p.str x hx'
    · obtain ⟨x, y, hx, hy, ne⟩ := p.two
      exact ⟨x, y, List.mem_range.mpr hx, List.mem_range.mpr hy, fun q => ne q.2⟩
  all := fun e => by
    obtain ⟨f, h1, h2⟩ := h.all e
    exact ⟨f, fun x y hx hy ne => h1 x y (List.mem_range.mp hx) (List.mem_range.mp hy) fun q => ne ⟨List.mem_range.mp hx, q⟩, fun x y q => (h2 x y q.1 q.2).mono fun a b r => ⟨⟨q.1, r.1⟩, ⟨q.1, r.2.1⟩, r.2.2⟩⟩
  firm := fun e => by
    obtain ⟨h1, ⟨x, y, hx, hy, ne, r⟩, x', y', hx', hy', ne', r'⟩ := h.firm e
    exact ⟨fun T hT _ ⟨u, hu, nu⟩ x y tx ty => ⟨hT.1 x tx, h1 T hT ⟨u, List.mem_range.mp hu, nu⟩ x y tx ty⟩, ⟨x, y, List.mem_range.mpr hx, List.mem_range.mpr hy, fun q => ne q.2, r⟩, x', y', List.mem_range.mpr hx', List.mem_range.mpr hy', fun q => ne' q.2, r'⟩
/-! ### counted out -/
def clsB (l : List Nat) (e : Nat → Nat → Bool) : List (List Nat) := (l.filter fun x => l.all fun y => !e x y || decide (x ≤ y)).map fun x => l.filter (e x)
theorem clsL_B {l : List Nat} {E : Nat → Nat → Prop} {e : Nat → Nat → Bool} (h : ∀ x y, x ∈ l → y ∈ l → (E x y ↔ e x y = true)) : clsL l E = clsB l e := by
  have h1 : hds l E = l.filter fun x => l.all fun y => !e x y || decide (x ≤ y) := by
    unfold hds
    refine List.filter_congr fun x hx => ?_
    rw [Bool.eq_iff_iff, decide_eq_true_eq, List.all_eq_true]
    refine forall_congr' fun y => forall_congr' fun hy => ?_
    rw [h x y hx hy, Bool.or_eq_true, decide_eq_true_eq]
    cases e x y <;> simp
  unfold clsL clsB
  rw [h1]
  refine List.map_congr_left fun x hx => ?_
  unfold clOf
  refine List.filter_congr fun y hy => ?_
  rw [Bool.eq_iff_iff, decide_eq_true_eq]
  exact h x y (List.mem_filter.mp hx).1 hy
def modB (n : Nat) (t : Nat → Nat → Bool) (m : Nat) : Bool := (List.range n).all fun z => m.testBit z || (nr n t z &&& m == 0 || nr n t z &&& m == m)
def primeB (n : Nat) (t : Nat → Nat → Bool) : Bool := (List.range (2 ^ n)).all fun m => !modB n t m || (((List.range n).all fun u => m.testBit u) || (List.range n).all fun x => (List.range n).all fun y => !(m.testBit x && m.testBit y) || x == y)
theorem pe_prime {n : Nat} {t : Nat → Nat → Bool} (h : primeB n t = true) {x y : Nat} (p : Pe n t x y) : x = y := by
  obtain ⟨S, ⟨hS, u, hu, nu⟩, sx, sy⟩ := p
  obtain ⟨m, hm, hb⟩ := mask_of n S hS.1
  have eb : bits m = S := funext fun x => propext (hb x)
  have q := (List.all_eq_true.mp h) m (List.mem_range.mpr hm)
  have md : modB n t m = true := List.all_eq_true.mpr fun z hz => by
    rw [← eb] at hS
    have r := (mo_bits hm).mpr hS z (List.mem_range.mp hz)
    cases e : m.testBit z with
    | true => rfl
    | false =>
      rcases r (fun q => by unfold bits at q; rw [e] at q; cases q) with r | r
      · rw [r]; rfl
      · rw [r]; simp
  rw [md, Bool.not_true, Bool.false_or] at q
  have bx : m.testBit x = true := (hb x).mpr sx
  have by' : m.testBit y = true := (hb y).mpr sy
  rcases Bool.or_eq_true_iff.mp q with r | r
  · exact absurd ((hb u).mp ((List.all_eq_true.mp r) u (List.mem_range.mpr hu))) nu
  · have s := List.all_eq_true.mp ((List.all_eq_true.mp r) x (List.mem_range.mpr (hS.1 x sx))) y (List.mem_range.mpr (hS.1 y sy))
    rw [bx, by'] at s
    simpa using s
def conB (n : Nat) (t : Nat → Nat → Bool) (f : Bool) : Bool := (List.range n).all fun x => (List.range n).all fun y => wl (fun x y => t x y != f) n x y || x == y
theorem con_of {n : Nat} {t : Nat → Nat → Bool} (h1 : conB n t true = true) (h0 : conB n t false = true) : ∀ f x y, x < n → y < n → Cn (Ad n t f) x y := fun f x y hx hy => by
  have h : conB n t f = true := by
    cases f
    · exact h0
    · exact h1
  have q := (List.all_eq_true.mp ((List.all_eq_true.mp h) x (List.mem_range.mpr hx))) y (List.mem_range.mpr hy)
  refine (wl_cn f hx hy).mp ?_
  rcases Bool.or_eq_true_iff.mp q with r | r
  · exact .inl r
  · exact .inr (by simpa using r)
/-- a firm web whose sons are its things -/
theorem kn_prime {n : Nat} {t : Nat → Nat → Bool} (w : Wb t) (h2 : 2 ≤ n) (h1 : conB n t true = true) (h0 : conB n t false = true) (hp : primeB n t = true) : Kn n t (List.range n) true (rs n (Pe n t)) ∧ (∀ x y, rs n (Pe n t) x y → x = y) ∧ clsL (List.range n) (rs n (Pe n t)) = clsB (List.range n) (· == ·) := by
  refine ⟨kn_top (by omega) (knP_firm w h2 (con_of h1 h0)), fun x y q => pe_prime hp q.2, clsL_B fun x y hx hy => ?_⟩
  rw [beq_iff_eq]
  refine ⟨fun q => pe_prime hp q.2, fun e => ?_⟩
  subst e
  exact ⟨List.mem_range.mp hx, pe_refl h2 (List.mem_range.mp hx)⟩
def tFan : Nat → Nat → Bool := eg [(0, 2), (1, 2)]
def tPath : Nat → Nat → Bool := eg [(0, 1), (1, 2), (2, 3)]
def tRing : Nat → Nat → Bool := eg [(0, 1), (1, 2), (2, 3), (3, 4), (4, 0)]
theorem wbFan : Wb tFan := wb_eg (by decide)
theorem wbPath : Wb tPath := wb_eg (by decide)
theorem wbRing : Wb tRing := wb_eg (by decide)
def eFan (x y : Nat) : Bool := wl (fun x y => tFan x y != true) 3 x y || x == y
theorem eFan_cn {x y : Nat} (hx : x < 3) (hy : y < 3) : Cn (Ad 3 tFan true) x y ↔ eFan x y = true := by
  rw [← wl_cn true hx hy]
  unfold eFan
  rw [Bool.or_eq_true, beq_iff_eq]
theorem knFan : Kn 3 tFan (List.range 3) false (rs 3 (Cn (Ad 3 tFan true))) := kn_top (by omega) (knP_all wbFan ⟨0, 2, by omega, by omega, fun q => absurd ((eFan_cn (by omega) (by omega)).mp q) (by decide)⟩)
theorem clsFan : clsL (List.range 3) (rs 3 (Cn (Ad 3 tFan true))) = [[0, 1], [2]] := by
  have e : clsB (List.range 3) eFan = [[0, 1], [2]] := by decide +kernel
  rw [← e]
  exact clsL_B fun x y hx hy => ⟨fun q => (eFan_cn q.1 (List.mem_range.mp hy)).mp q.2, fun q => ⟨List.mem_range.mp hx, (eFan_cn (List.mem_range.mp hx) (List.mem_range.mp hy)).mpr q⟩⟩
theorem knPath : Kn 4 tPath (List.range 4) true (rs 4 (Pe 4 tPath)) ∧ (∀ x y, rs 4 (Pe 4 tPath) x y → x = y) ∧ clsL (List.range 4) (rs 4 (Pe 4 tPath)) = clsB (List.range 4) (· == ·) := kn_prime wbPath (by omega) (by decide +kernel) (by decide +kernel) (by decide +kernel)
theorem knRing : Kn 5 tRing (List.range 5) true (rs 5 (Pe 5 tRing)) ∧ (∀ x y, rs 5 (Pe 5 tRing) x y → x = y) ∧ clsL (List.range 5) (rs 5 (Pe 5 tRing)) = clsB (List.range 5) (· == ·) := kn_prime wbRing (by omega) (by decide +kernel) (by decide +kernel) (by decide +kernel)
/-- in the ring an arrow comes to its contrary -/
theorem ring_turn : Cl 5 tRing (0, 1) (1, 0) := by
  have h1 : Fo 5 tRing (0, 1) (0, 4) := .inl ⟨rfl, by decide, by decide, by decide +kernel, by decide +kernel⟩
  have h2 : Fo 5 tRing (0, 4) (3, 4) := .inr ⟨rfl, by decide, by decide, by decide +kernel, by decide +kernel⟩
  have h3 : Fo 5 tRing (3, 4) (3, 2) := .inl ⟨rfl, by decide, by decide, by decide +kernel, by decide +kernel⟩
  have h4 : Fo 5 tRing (3, 2) (1, 2) := .inr ⟨rfl, by decide, by decide, by decide +kernel, by decide +kernel⟩
  have h5 : Fo 5 tRing (1, 2) (1, 0) := .inl ⟨rfl, by decide, by decide, by decide +kernel, by decide +kernel⟩
  exact ((((Cn.refl.step h1).step h2).step h3).step h4).step h5
/-- so all its arrows are of one class -/
theorem ring_one {b : Arw} (hb : Ar 5 tRing b) : Cl 5 tRing (0, 1) b := by
  obtain ⟨kn, one, _⟩ := knRing
  have ia : InK (List.range 5) (rs 5 (Pe 5 tRing)) (0, 1) := ⟨by decide, by decide, fun q => absurd (one _ _ q) (by decide)⟩
  have ib : InK (List.range 5) (rs 5 (Pe 5 tRing)) b := ⟨List.mem_range.mpr hb.1, List.mem_range.mpr hb.2.1, fun q => by
    have e := one _ _ q
    have := hb.2.2
    rw [e, wbRing.irr] at this
    cases this⟩
  have aa : Ar 5 tRing (0, 1) := ⟨by decide, by decide, by decide +kernel⟩
  rcases kn.colour wbRing rfl aa ia hb ib with q | q
  · exact q
  · exact ring_turn.trans (Cl.co q)
end K41
end
section
set_option linter.all false
set_option maxRecDepth 100000
/-! K41, layer D: readings on data. The heap is hidden behind a state of slots: data that nobody changes, lists and dicts that the def owns. -/
namespace K41
open PySem PySem.Spec PyProof.Rows L2
open Classical

/-! ### data at a value -/
mutual
inductive Dat (H : Hp) : V → PyData → Prop
  | non : Dat H .non .none
  | bl (b : Bool) : Dat H (.bl b) (.bool b)
  | int (i : Int) : Dat H (.int i) (.int i)
  | str (x : Str) : Dat H (.str x) (.str x)
  | lst {a : Addr} {xs : List V} {ds : List PyData} (h : H a = some (.lst xs)) (k : Dats H xs ds) : Dat H (.ref a) (.list ds)
  | tup {a : Addr} {xs : List V} {ds : List PyData} (h : H a = some (.tup xs)) (k : Dats H xs ds) : Dat H (.ref a) (.tuple ds)
inductive Dats (H : Hp) : List V → List PyData → Prop
  | nil : Dats H [] []
  | cons {v : V} {vs : List V} {d : PyData} {ds : List PyData} (h : Dat H v d) (k : Dats H vs ds) : Dats H (v :: vs) (d :: ds)
end
/-- an object that is no table of code objects -/
def Nt (o : HO) : Prop := ∀ ps, o ≠ .tbl ps
theorem nt_lst {xs : List V} : Nt (.lst xs) := fun _ e => by cases e
theorem nt_tup {xs : List V} : Nt (.tup xs) := fun _ e => by cases e
theorem nt_dT {xs : List (List Key × V)} : Nt (.dT xs) := fun _ e => by cases e
/-- a list or a dict -/
def Ld (o : HO) : Prop := (∃ xs, o = .lst xs) ∨ ∃ kvs, o = .dT kvs
theorem ld_lst {xs : List V} : Ld (.lst xs) := .inl ⟨xs, rfl⟩
theorem ld_dT {xs : List (List Key × V)} : Ld (.dT xs) := .inr ⟨xs, rfl⟩
theorem Ld.nt {o : HO} (h : Ld o) : Nt o := by
  rcases h with ⟨_, rfl⟩ | ⟨_, rfl⟩
  · exact nt_lst
  · exact nt_dT
/-- all but W and tables stay -/
def Keep (W : List Addr) (H H' : Hp) : Prop := ∀ b o, H b = some o → b ∉ W → Nt o → H' b = some o
theorem Keep.refl {W : List Addr} {H : Hp} : Keep W H H := fun _ _ e _ _ => e
theorem Keep.trans {W : List Addr} {H H1 H2 : Hp} (a : Keep W H H1) (b : Keep W H1 H2) : Keep W H H2 := fun c o e n k => b c o (a c o e n k) n k
theorem Keep.wide {W : List Addr} {H H' : Hp} (a : Keep [] H H') : Keep W H H' := fun b o e _ k => a b o e (by simp) k
theorem Keep.new {W : List Addr} {H : Hp} {p : Addr} {o : HO} (h : H p = none) : Keep W H (upd H p o) := fun b u e _ _ => by rw [upd_ne (ne_of_none e h)]; exact e
theorem Keep.ext {W : List Addr} {H H' : Hp} (h : ∀ b o, H b = some o → H' b = some o) : Keep W H H' := fun b o e _ _ => h b o e

/-- what holds of the heap all the time: code tables, and a well at W -/
structure Am (T : List (Addr × Str)) where
  W : List Addr
  inv : Hp → Prop
  tabs : ∀ H, inv H → LamX.Tabs T H
  mono : ∀ H H', inv H → Keep [] H H' → LamX.Tabs T H' → inv H'
  wr : ∀ H l u o, inv H → l ∉ W → H l = some u → ((∃ xs, u = .lst xs) ∨ ∃ kvs, u = .dT kvs) → inv (upd H l o)
  wdom : ∀ H, inv H → ∀ a ∈ W, ∃ o, H a = some o ∧ Ld o
theorem Am.grow {T : List (Addr × Str)} (M : Am T) {H H' : Hp} (h : M.inv H) (e : ∀ b o, H b = some o → H' b = some o) : M.inv H' :=
  M.mono H H' h (Keep.ext e) ((M.tabs H h).ext e)
theorem tabs_wr {T : List (Addr × Str)} {H : Hp} {l : Addr} {u o : HO} (h : LamX.Tabs T H) (hl : H l = some u) (hu : (∃ xs, u = .lst xs) ∨ ∃ kvs, u = .dT kvs) : LamX.Tabs T (upd H l o) := fun p hp => by
  obtain ⟨ps, h1, h2, h3⟩ := h p hp
  have n1 : p.1 ≠ l := fun e => by
    rw [e, hl] at h1
    rcases hu with ⟨_, rfl⟩ | ⟨_, rfl⟩ <;> cases h1
  refine ⟨ps, by rw [upd_ne n1]; exact h1, h2, fun pos cv hc => ?_⟩
  obtain ⟨c, e1, e2⟩ := h3 pos cv hc
  refine ⟨c, e1, ?_⟩
  have n2 : c ≠ l := fun e => by
    rw [e, hl] at e2
    unfold LamX.CodeO at e2
    rcases hu with ⟨_, rfl⟩ | ⟨_, rfl⟩ <;> cases e2
  rw [upd_ne n2]
  exact e2
/-- a pure def's -/
def Am0 (T : List (Addr × Str)) : Am T := ⟨[], LamX.Tabs T, fun _ h => h, fun _ _ _ _ h => h, fun _ _ _ _ h _ hl hu => tabs_wr h hl hu, fun _ _ _ h => nomatch h⟩

/-! ### the heap without what is owned -/
noncomputable def hid (P : Addr → Prop) (H : Hp) : Hp := fun a => if P a then none else H a
theorem hid_some {P : Addr → Prop} {H : Hp} {a : Addr} {o : HO} : hid P H a = some o ↔ ¬ P a ∧ H a = some o := by
  unfold hid
  by_cases h : P a
  · rw [if_pos h]; exact ⟨fun e => (nomatch e), fun e => absurd h e.1⟩
  · rw [if_neg h]; exact ⟨fun e => ⟨h, e⟩, fun e => e.2⟩
mutual
theorem Dat.mono {H H' : Hp} (e : ∀ b o, H b = some o → Nt o → H' b = some o) : ∀ (d : PyData) (v : V), Dat H v d → Dat H' v d
  | .none, _, h => by cases h; exact .non
  | .bool _, _, h => by cases h; exact .bl _
  | .int _, _, h => by cases h; exact .int _
  | .str _, _, h => by cases h; exact .str _
  | .list ds, _, h => by cases h with | lst h k => exact .lst (e _ _ h nt_lst) (Dats.mono e ds _ k)
  | .tuple ds, _, h => by cases h with | tup h k => exact .tup (e _ _ h nt_tup) (Dats.mono e ds _ k)
  | .dict _, _, h => by cases h
theorem Dats.mono {H H' : Hp} (e : ∀ b o, H b = some o → Nt o → H' b = some o) : ∀ (ds : List PyData) (vs : List V), Dats H vs ds → Dats H' vs ds
  | [], _, h => by cases h; exact .nil
  | d :: ds, _, h => by cases h with | cons h k => exact .cons (Dat.mono e d _ h) (Dats.mono e ds _ k)
end
theorem Dat.up {H H' : Hp} {d : PyData} {v : V} (h : Dat H v d) (e : ∀ b o, H b = some o → Nt o → H' b = some o) : Dat H' v d := Dat.mono e d v h
theorem Dats.up {H H' : Hp} {ds : List PyData} {vs : List V} (h : Dats H vs ds) (e : ∀ b o, H b = some o → Nt o → H' b = some o) : Dats H' vs ds := Dats.mono e ds vs h
theorem Dats.len {H : Hp} : ∀ {ds : List PyData} {vs : List V}, Dats H vs ds → vs.length = ds.length
  | [], _, h => by cases h; rfl
  | _ :: _, _, h => by cases h with | cons _ k => simp [Dats.len k]
theorem Dats.get {H : Hp} : ∀ {ds : List PyData} {vs : List V} {i : Nat} {v : V}, Dats H vs ds → vs[i]? = some v → ∃ d, ds[i]? = some d ∧ Dat H v d
  | [], _, _, _, h, e => by cases h; simp at e
  | d :: ds, _, 0, _, h, e => by
    cases h with
    | cons h k =>
      simp only [List.getElem?_cons_zero, Option.some.injEq] at e
      subst e
      exact ⟨d, rfl, h⟩
  | d :: ds, _, i + 1, _, h, e => by
    cases h with
    | cons h k =>
      rw [List.getElem?_cons_succ] at e
      obtain ⟨d', h1, h2⟩ := Dats.get k e
      exact ⟨d', by rw [List.getElem?_cons_succ]; exact h1, h2⟩
theorem Dats.get2 {H : Hp} {ds : List PyData} {vs : List V} {i : Nat} {d : PyData} (h : Dats H vs ds) (e : ds[i]? = some d) : ∃ v, vs[i]? = some v ∧ Dat H v d := by
  have hi : i < vs.length := by rw [h.len]; exact (List.getElem?_eq_some_iff.mp e).1
  obtain ⟨d', h1, h2⟩ := h.get (List.getElem?_eq_getElem hi)
  rw [e] at h1
  cases h1
  exact ⟨_, List.getElem?_eq_getElem hi, h2⟩
theorem Dats.app {H : Hp} : ∀ {ds es : List PyData} {vs ws : List V}, Dats H vs ds → Dats H ws es → Dats H (vs ++ ws) (ds ++ es)
  | [], _, _, _, h, k => by cases h; exact k
  | _ :: _, _, _, _, h, k => by cases h with | cons h t => exact .cons h (Dats.app t k)
theorem Dats.of_get {H : Hp} : ∀ {ds : List PyData} {vs : List V}, vs.length = ds.length → (∀ (i : Nat) (v : V) (d : PyData), vs[i]? = some v → ds[i]? = some d → Dat H v d) → Dats H vs ds
  | [], [], _, _ => .nil
  | [], _ :: _, e, _ => by simp at e
  | _ :: _, [], e, _ => by simp at e
  | d :: ds, v :: vs, e, h => .cons (h 0 v d rfl rfl) (Dats.of_get (by simpa using e) fun i v' d' a b => h (i + 1) v' d' (by simpa using a) (by simpa using b))
/-- values that are data in every heap -/
inductive Sc : V → PyData → Prop
  | non : Sc .non .none
  | bl (b : Bool) : Sc (.bl b) (.bool b)
  | int (i : Int) : Sc (.int i) (.int i)
  | str (x : Str) : Sc (.str x) (.str x)
theorem Sc.dat {v : V} {d : PyData} (h : Sc v d) {H : Hp} : Dat H v d := by
  cases h
  · exact .non
  · exact .bl _
  · exact .int _
  · exact .str _
def IsSc : PyData → Prop
  | .none => True
  | .bool _ => True
  | .int _ => True
  | .str _ => True
  | _ => False
theorem Dat.sc {H : Hp} {v : V} {d : PyData} (h : Dat H v d) (k : IsSc d) : Sc v d := by
  cases h with
  | non => exact .non
  | bl b => exact .bl b
  | int i => exact .int i
  | str x => exact .str x
  | lst _ _ => exact False.elim k
  | tup _ _ => exact False.elim k
theorem Dats.sc {H H' : Hp} : ∀ {ds : List PyData} {vs : List V}, Dats H vs ds → (∀ d ∈ ds, IsSc d) → Dats H' vs ds
  | [], _, h, _ => by cases h; exact .nil
  | d :: ds, _, h, k => by
    cases h with
    | cons h t => exact .cons (h.sc (k d List.mem_cons_self)).dat (Dats.sc t fun e m => k e (List.mem_cons_of_mem _ m))

/-! ### the state -/
inductive Cell where
  /-- data that nobody changes -/
  | dat (d : PyData)
  /-- a value told as it is -/
  | raw (v : V)
  /-- a list of data that the def owns; a dict with tuple keys -/
  | lst (ds : List PyData)
  | dct (kvs : List (List Key × V))
abbrev Env' := List (Option Cell)
def Cell.mine : Cell → Prop
  | .lst _ => True
  | .dct _ => True
  | _ => False
def Mine (Γ : Env') (i : Nat) : Prop := ∃ c, Γ[i]? = some (some c) ∧ c.mine
/-- hidden: the callers' own, and this def's own -/
def Own (O : List Addr) (A : Nat → Addr) (Γ : Env') (a : Addr) : Prop := a ∈ O ∨ ∃ i, Mine Γ i ∧ A i = a
def CellAt' (P : Addr → Prop) (O : List Addr) (a : Addr) (H : Hp) (v : Option (Option V)) : Cell → Prop
  | .dat d => ∃ x, v = some (some x) ∧ Dat (hid P H) x d
  | .raw x => v = some (some x)
  | .lst ds => v = some (some (.ref a)) ∧ a ∉ O ∧ ∃ xs, H a = some (.lst xs) ∧ Dats (hid P H) xs ds
  | .dct kvs => v = some (some (.ref a)) ∧ a ∉ O ∧ H a = some (.dT kvs)
section
variable {T : List (Addr × Str)}
structure Sit (M : Am T) (O : List Addr) (A : Nat → Addr) (Γ : Env') (σ : L2.St) (H : Hp) : Prop where
  len : σ.length = Γ.length
  inv : M.inv H
  wO : ∀ a ∈ M.W, a ∈ O
  dom : ∀ a ∈ O, ∃ o, H a = some o ∧ Ld o
  cell : ∀ i c, Γ[i]? = some (some c) → CellAt' (Own O A Γ) O (A i) H σ[i]? c
  inj : ∀ i j, Mine Γ i → Mine Γ j → A i = A j → i = j
variable {M : Am T} {O : List Addr} {A : Nat → Addr} {Γ : Env'} {σ : L2.St} {H H' : Hp}
theorem Sit.at_ {i : Nat} (S : Sit M O A Γ σ H) (h : Mine Γ i) : A i ∉ O ∧ ((∃ xs, H (A i) = some (.lst xs)) ∨ ∃ kvs, H (A i) = some (.dT kvs)) := by
  obtain ⟨c, e, m⟩ := h
  have q := S.cell i c e
  cases c with
  | dat _ => exact False.elim m
  | raw _ => exact False.elim m
  | lst ds => exact ⟨q.2.1, .inl (let ⟨xs, a, _⟩ := q.2.2; ⟨xs, a⟩)⟩
  | dct kvs => exact ⟨q.2.1, .inr ⟨_, q.2.2⟩⟩
theorem Sit.ownDom (S : Sit M O A Γ σ H) {a : Addr} (h : Own O A Γ a) : ∃ o, H a = some o ∧ Ld o := by
  rcases h with h | ⟨i, m, e⟩
  · exact S.dom a h
  · subst e
    rcases (S.at_ m).2 with ⟨xs, q⟩ | ⟨kvs, q⟩
    · exact ⟨_, q, ld_lst⟩
    · exact ⟨_, q, ld_dT⟩
theorem Sit.ownNew (S : Sit M O A Γ σ H) {p : Addr} (h : H p = none) : ¬ Own O A Γ p := fun q => by
  obtain ⟨o, e, _⟩ := S.ownDom q
  rw [h] at e
  cases e
/-- what a step keeps, seen in the hidden heap -/
theorem Sit.keepHid (S : Sit M O A Γ σ H) (k : Keep M.W H H') {P : Addr → Prop} (hP : ∀ a ∈ O, P a) : ∀ b o, hid P H b = some o → Nt o → hid P H' b = some o := fun b o e n => by
  obtain ⟨h1, h2⟩ := hid_some.mp e
  exact hid_some.mpr ⟨h1, k b o h2 (fun hw => h1 (hP b (S.wO b hw))) n⟩
theorem Sit.step (S : Sit M O A Γ σ H) (k : Keep M.W H H') (hi : M.inv H') : Sit M O A Γ σ H' where
  len := S.len
  inv := hi
  wO := S.wO
  dom := fun a ha => by
    by_cases hw : a ∈ M.W
    · exact M.wdom _ hi a hw
    · obtain ⟨o, e, n⟩ := S.dom a ha
      exact ⟨o, k a o e hw n.nt, n⟩
  cell := fun i c e => by
    have q := S.cell i c e
    have kk := S.keepHid k (P := Own O A Γ) fun a h => .inl h
    cases c with
    | dat d => obtain ⟨x, e1, h1⟩ := q; exact ⟨x, e1, h1.up kk⟩
    | raw x => exact q
    | lst ds =>
      obtain ⟨e1, nO, xs, h1, h2⟩ := q
      exact ⟨e1, nO, xs, k _ _ h1 (fun hw => nO (S.wO _ hw)) nt_lst, h2.up kk⟩
    | dct kvs =>
      obtain ⟨e1, nO, h1⟩ := q
      exact ⟨e1, nO, k _ _ h1 (fun hw => nO (S.wO _ hw)) nt_dT⟩
  inj := S.inj
end
end K41
end
section
set_option linter.all false
set_option maxRecDepth 100000
/-! K41, layer D, second part: readings of expressions on data. -/
namespace K41
open PySem PySem.Spec PyProof.Rows L2
open Classical

section
variable {T : List (Addr × Str)}
/-- the hidden part is sound for the heap -/
structure Wd (M : Am T) (P : Addr → Prop) (H : Hp) : Prop where
  w : ∀ a ∈ M.W, P a
  inv : M.inv H
  new : ∀ p, H p = none → ¬ P p
theorem Sit.wd {M : Am T} {O : List Addr} {A : Nat → Addr} {Γ : Env'} {σ : L2.St} {H : Hp} (S : Sit M O A Γ σ H) : Wd M (Own O A Γ) H :=
  ⟨fun a h => .inl (S.wO a h), S.inv, fun _ h => S.ownNew h⟩
/-- an end that takes each value of the data wanted -/
def Fi (M : Am T) (hd : Addr → Prop) (H : Hp) (P : PyData → Prop) (Q : VK) : Prop := ∀ v d H', P d → Keep M.W H H' → M.inv H' → Dat (hid hd H') v d → Q v H'
def Cln (P : Addr → Prop) (H : Hp) (P' : Addr → Prop) (H' : Hp) : Prop := ∀ b o, hid P H b = some o → Nt o → hid P' H' b = some o
theorem Cln.refl {P : Addr → Prop} {H : Hp} : Cln P H P H := fun _ _ e _ => e
theorem Cln.trans {P P1 P2 : Addr → Prop} {H H1 H2 : Hp} (a : Cln P H P1 H1) (b : Cln P1 H1 P2 H2) : Cln P H P2 H2 := fun c o e n => b c o (a c o e n) n
theorem Cln.of {M : Am T} {P P' : Addr → Prop} {H H' : Hp} (hw : ∀ a ∈ M.W, P a) (k : Keep M.W H H') (h : ∀ b, P' b → P b ∨ H b = none) : Cln P H P' H' := fun b o e n => by
  obtain ⟨h1, h2⟩ := hid_some.mp e
  exact hid_some.mpr ⟨fun q => (h b q).elim h1 (fun z => by rw [h2] at z; cases z), k b o h2 (fun q => h1 (hw b q)) n⟩
variable {M : Am T} {hd : Addr → Prop} {H H' : Hp} {P P' : PyData → Prop} {Q : VK}
theorem Wd.step (w : Wd M hd H) (k : Keep M.W H H') (hi : M.inv H') (hn : ∀ a, hd a → H a ≠ none → H' a ≠ none) : Wd M hd H' :=
  ⟨w.w, hi, fun p h q => hn p q (fun z => w.new p z q) h⟩
theorem Wd.cln (w : Wd M hd H) (k : Keep M.W H H') : Cln hd H hd H' := Cln.of w.w k fun _ h => .inl h
theorem Wd.grow (w : Wd M hd H) (e : ∀ b o, H b = some o → H' b = some o) : Wd M hd H' :=
  ⟨w.w, M.grow w.inv e, fun p h q => w.new p (by cases z : H p with | none => rfl | some o => rw [e p o z] at h; cases h) q⟩
theorem Fi.same (f : Fi M hd H P Q) (w : Wd M hd H) {v : V} {d : PyData} (p : P d) (h : Dat (hid hd H) v d) : Q v H := f v d H p Keep.refl w.inv h
theorem Fi.sc (f : Fi M hd H P Q) (w : Wd M hd H) {v : V} {d : PyData} (p : P d) (h : Sc v d) : Q v H := f.same w p h.dat
theorem hid_new {p : Addr} {o : HO} (hn : ¬ hd p) (h : H p = none) : ∀ b u, hid hd H b = some u → hid hd (upd H p o) b = some u := fun b u e => by
  obtain ⟨h1, h2⟩ := hid_some.mp e
  exact hid_some.mpr ⟨h1, by rw [upd_ne (ne_of_none h2 h)]; exact h2⟩
theorem upd_grow {p : Addr} {o : HO} (h : H p = none) : ∀ b u, H b = some u → upd H p o b = some u := fun b u e => by rw [upd_ne (ne_of_none e h)]; exact e
theorem hid_more {p : Addr} {o : HO} (h : H p = none) : ∀ b u, hid hd H b = some u → hid (fun a => hd a ∨ a = p) (upd H p o) b = some u := fun b u e => by
  obtain ⟨h1, h2⟩ := hid_some.mp e
  exact hid_some.mpr ⟨fun z => z.elim h1 (fun z => by rw [z, h] at h2; cases h2), by rw [upd_ne (ne_of_none h2 h)]; exact h2⟩
theorem Fi.tup (f : Fi M hd H P Q) (w : Wd M hd H) {vs : List V} {ds : List PyData} (p : P (.tuple ds)) (h : Dats (hid hd H) vs ds) {q : Addr} (hq : H q = none) : Q (.ref q) (upd H q (.tup vs)) :=
  f _ _ _ p (Keep.new hq) (M.grow w.inv (upd_grow hq)) (.tup (hid_some.mpr ⟨w.new q hq, upd_same⟩) (h.up fun b o e _ => hid_new (w.new q hq) hq b o e))
theorem Fi.lst (f : Fi M hd H P Q) (w : Wd M hd H) {vs : List V} {ds : List PyData} (p : P (.list ds)) (h : Dats (hid hd H) vs ds) {q : Addr} (hq : H q = none) : Q (.ref q) (upd H q (.lst vs)) :=
  f _ _ _ p (Keep.new hq) (M.grow w.inv (upd_grow hq)) (.lst (hid_some.mpr ⟨w.new q hq, upd_same⟩) (h.up fun b o e _ => hid_new (w.new q hq) hq b o e))
theorem Fi.mono (f : Fi M hd H P Q) (h : ∀ d, P' d → P d) : Fi M hd H P' Q := fun v d H' p => f v d H' (h d p)

/-! ### expressions -/
def EvD (M : Am T) (te : TE) (Γ : Env') (P : PyData → Prop) : Prop := ∀ O A σ H Q, Sit M O A Γ σ H → Fi M (Own O A Γ) H P Q → te σ H Q
def EvT (M : Am T) (tt : TT) (Γ : Env') (P : Bool → Prop) : Prop := ∀ O A σ H (Q : Bool → Hp → Prop), Sit M O A Γ σ H → (∀ b H', P b → Keep M.W H H' → M.inv H' → Q b H') → tt σ H Q
def EvA (M : Am T) (ta : TA) (Γ : Env') (P : List PyData → Prop) : Prop := ∀ O A σ H (Q : List V → Hp → Prop), Sit M O A Γ σ H →
  (∀ vs ds H', P ds → Keep M.W H H' → M.inv H' → Dats (hid (Own O A Γ) H') vs ds → Q vs H') → ta σ H Q
/-- a place where nothing stood but (it may be) a table -/
def Fr (H : Hp) (p : Addr) : Prop := ∀ o, H p = some o → ¬ Nt o
theorem Fr.of {W : List Addr} {H H' : Hp} {p : Addr} (k : Keep W H H') (hw : p ∉ W) (h : H' p = none) : Fr H p := fun o e n => by
  rw [k p o e hw n] at h
  cases h
theorem Fr.back {W : List Addr} {H H' : Hp} {p : Addr} (k : Keep W H H') (hw : p ∉ W) (h : Fr H' p) : Fr H p := fun o e n => h o (k p o e hw n) n
theorem Fr.none {H : Hp} {p : Addr} (h : H p = none) : Fr H p := fun o e => by rw [h] at e; cases e
/-- a new list, reached by nothing else -/
def EvF (M : Am T) (te : TE) (Γ : Env') (P : List PyData → Prop) : Prop := ∀ O A σ H (Q : VK), Sit M O A Γ σ H →
  (∀ p vs ds H', P ds → Fr H p → ¬ Own O A Γ p → Keep M.W H H' → M.inv H' → H' p = some (.lst vs) → Dats (hid (fun a => Own O A Γ a ∨ a = p) H') vs ds → Q (.ref p) H') → te σ H Q
def RD (M : Am T) (r : R2) (a b : PyData) (P : PyData → Prop) : Prop := ∀ hd H x y Q, Wd M hd H → Dat (hid hd H) x a → Dat (hid hd H) y b → Fi M hd H P Q → r x y H Q
def RU (M : Am T) (r : V → Hp → VK → Prop) (a : PyData) (P : PyData → Prop) : Prop := ∀ hd H x Q, Wd M hd H → Dat (hid hd H) x a → Fi M hd H P Q → r x H Q
def RC (M : Am T) (r : List V → Hp → VK → Prop) (ds : List PyData) (P : PyData → Prop) : Prop := ∀ hd H vs Q, Wd M hd H → Dats (hid hd H) vs ds → Fi M hd H P Q → r vs H Q
/-- a call that makes a new list -/
def RCF (M : Am T) (r : List V → Hp → VK → Prop) (ds : List PyData) (P : List PyData → Prop) : Prop := ∀ hd H vs (Q : VK), Wd M hd H → Dats (hid hd H) vs ds →
  (∀ p ws es H', P es → Fr H p → ¬ hd p → Keep M.W H H' → M.inv H' → H' p = some (.lst ws) → Dats (hid (fun a => hd a ∨ a = p) H') ws es → Q (.ref p) H') → r vs H Q
variable {Γ : Env'} {te ta tb : TE} {tt tu : TT}
theorem EvD.mono (h : EvD M te Γ P) (k : ∀ d, P d → P' d) : EvD M te Γ P' := fun O A σ H Q S f => h O A σ H Q S (f.mono k)
theorem d_var {i : Nat} {d : PyData} (h : Γ[i]? = some (some (.dat d))) (p : P d) : EvD M (tVar i) Γ P := fun O A σ H Q S f => by
  obtain ⟨x, e, k⟩ := S.cell i _ h
  exact ⟨x, e, f.same S.wd p k⟩
theorem d_sc {v : V} {d : PyData} (h : Sc v d) (p : P d) : EvD M (tC v) Γ P := fun O A σ H Q S f => f.sc S.wd p h
theorem d_int {i : Int} (p : P (.int i)) : EvD M (tC (.int i)) Γ P := d_sc (.int i) p
theorem d_str {i : Str} (p : P (.str i)) : EvD M (tC (.str i)) Γ P := d_sc (.str i) p
theorem d_bl {i : Bool} (p : P (.bool i)) : EvD M (tC (.bl i)) Γ P := d_sc (.bl i) p
theorem d_non (p : P .none) : EvD M (tC .non) Γ P := d_sc .non p
theorem d_op {r : R2} (h : EvD M ta Γ fun a => EvD M tb Γ fun b => RD M r a b P) : EvD M (tOp r ta tb) Γ P := fun O A σ H Q S f =>
  h O A σ H _ S fun x a H1 hb k1 i1 h1 => by
    have S1 := S.step k1 i1
    refine hb O A σ H1 _ S1 fun y b H2 hr k2 i2 h2 => ?_
    have S2 := S1.step k2 i2
    exact hr _ H2 x y Q S2.wd (h1.up (S1.wd.cln k2)) h2 fun v d H' p k i hh => f v d H' p ((k1.trans k2).trans k) i hh
theorem d_un {r : V → Hp → VK → Prop} (h : EvD M ta Γ fun a => RU M r a P) : EvD M (tUn r ta) Γ P := fun O A σ H Q S f =>
  h O A σ H _ S fun x a H1 hb k1 i1 h1 => hb _ H1 x Q (S.step k1 i1).wd h1 fun v d H' p k i hh => f v d H' p (k1.trans k) i hh
theorem t_test {P'' : Bool → Prop} (h : EvD M te Γ fun d => ∃ b, d = .bool b ∧ P'' b) : EvT M (tTest te) Γ P'' := fun O A σ H Q S f =>
  h O A σ H _ S fun v d H1 ⟨b, e, p⟩ k i hh => by
    subst e
    cases hh
    exact ⟨b, rfl, f b H1 p k i⟩
theorem t_B {P'' : Bool → Prop} (h : EvD M te Γ fun d => ∃ b, d = .bool b ∧ P'' b) : EvT M (tB te) Γ P'' := fun O A σ H Q S f =>
  h O A σ H _ S fun v d H1 ⟨b, e, p⟩ k i hh => by
    subst e
    cases hh
    exact ⟨b, rfl, f b H1 p k i⟩
theorem EvT.mono {R R' : Bool → Prop} (h : EvT M tt Γ R) (k : ∀ b, R b → R' b) : EvT M tt Γ R' := fun O A σ H Q S f => h O A σ H Q S fun b H' p => f b H' (k b p)
theorem t_and {R : Bool → Prop} (h : EvT M tt Γ fun a => (a = false → R false) ∧ (a = true → EvT M tu Γ R)) : EvT M (tAnd tt tu) Γ R := fun O A σ H Q S f =>
  h O A σ H _ S fun b H1 ⟨h0, h1⟩ k i => by
    cases b with
    | false => exact iteF (f false H1 (h0 rfl) k i)
    | true => exact iteT (h1 rfl O A σ H1 Q (S.step k i) fun c H2 p k2 i2 => f c H2 p (k.trans k2) i2)
theorem t_or {R : Bool → Prop} (h : EvT M tt Γ fun a => (a = true → R true) ∧ (a = false → EvT M tu Γ R)) : EvT M (tOr tt tu) Γ R := fun O A σ H Q S f =>
  h O A σ H _ S fun b H1 ⟨h0, h1⟩ k i => by
    cases b with
    | true => exact iteT (f true H1 (h0 rfl) k i)
    | false => exact iteF (h1 rfl O A σ H1 Q (S.step k i) fun c H2 p k2 i2 => f c H2 p (k.trans k2) i2)
theorem t_not {R : Bool → Prop} (h : EvT M tt Γ fun a => R (!a)) : EvT M (tNot tt) Γ R := fun O A σ H Q S f => h O A σ H _ S fun b H1 p k i => f _ H1 p k i
theorem d_if (h : EvT M tt Γ fun c => (c = true → EvD M ta Γ P) ∧ (c = false → EvD M tb Γ P)) : EvD M (tIf tt ta tb) Γ P := fun O A σ H Q S f =>
  h O A σ H _ S fun b H1 ⟨h1, h0⟩ k i => by
    cases b with
    | true => exact iteT (h1 rfl O A σ H1 Q (S.step k i) fun v d H2 p k2 => f v d H2 p (k.trans k2))
    | false => exact iteF (h0 rfl O A σ H1 Q (S.step k i) fun v d H2 p k2 => f v d H2 p (k.trans k2))
theorem d_andV (h : EvD M ta Γ fun a => ∃ b, a = .bool b ∧ (b = false → P (.bool false)) ∧ (b = true → EvD M tb Γ P)) : EvD M (tAndV ta tb) Γ P := fun O A σ H Q S f =>
  h O A σ H _ S fun v d H1 ⟨b, e, h0, h1⟩ k i hh => by
    subst e
    cases hh
    refine ⟨b, rfl, ?_⟩
    cases b with
    | true => exact iteT (h1 rfl O A σ H1 Q (S.step k i) fun v d H2 p k2 => f v d H2 p (k.trans k2))
    | false => exact iteF (f _ _ _ (h0 rfl) k i (.bl false))
theorem d_orV (h : EvD M ta Γ fun a => ∃ b, a = .bool b ∧ (b = true → P (.bool true)) ∧ (b = false → EvD M tb Γ P)) : EvD M (tOrV ta tb) Γ P := fun O A σ H Q S f =>
  h O A σ H _ S fun v d H1 ⟨b, e, h0, h1⟩ k i hh => by
    subst e
    cases hh
    refine ⟨b, rfl, ?_⟩
    cases b with
    | false => exact iteF (h1 rfl O A σ H1 Q (S.step k i) fun v d H2 p k2 => f v d H2 p (k.trans k2))
    | true => exact iteT (f _ _ _ (h0 rfl) k i (.bl true))
theorem d_notV (h : EvD M ta Γ fun a => ∃ b, a = .bool b ∧ P (.bool (!b))) : EvD M (tNotV ta) Γ P := fun O A σ H Q S f =>
  h O A σ H _ S fun v d H1 ⟨b, e, p⟩ k i hh => by
    subst e
    cases hh
    exact ⟨b, rfl, f _ _ _ p k i (.bl _)⟩
/-! argument lists, displays, calls -/
variable {tA : TA} {R : List PyData → Prop}
theorem a_nil (p : R []) : EvA M tNil Γ R := fun O A σ H Q S f => f [] [] H p Keep.refl S.inv .nil
theorem a_cons (h : EvD M te Γ fun d => EvA M tA Γ fun ds => R (d :: ds)) : EvA M (tCons te tA) Γ R := fun O A σ H Q S f =>
  h O A σ H _ S fun v d H1 h1 k1 i1 hh => h1 O A σ H1 _ (S.step k1 i1) fun vs ds H2 p k2 i2 hs =>
    f (v :: vs) (d :: ds) H2 p (k1.trans k2) i2 (.cons (hh.up ((S.step k1 i1).wd.cln k2)) hs)
theorem d_tup (h : EvA M tA Γ fun ds => ds.length ≤ 1000 ∧ P (.tuple ds)) : EvD M (tTup tA) Γ P := fun O A σ H Q S f =>
  h O A σ H _ S fun vs ds H1 ⟨hl, p⟩ k i hs => ⟨by rw [hs.len]; exact Nat.le_of_lt (small1000 hl), fun q hq =>
    Fi.tup (fun v d H' p' k' => f v d H' p' (k.trans k')) (S.step k i).wd p hs hq⟩
theorem f_lst (h : EvA M tA Γ fun ds => ds.length ≤ 1000 ∧ R ds) : EvF M (tLst tA) Γ R := fun O A σ H Q S f =>
  h O A σ H _ S fun vs ds H1 ⟨hl, p⟩ k i hs => ⟨by rw [hs.len]; exact Nat.le_of_lt (small1000 hl), fun q hq => by
    have S1 := S.step k i
    have nO := S1.ownNew hq
    refine f q vs ds _ p (Fr.of k (fun z => nO (S1.wd.w q z)) hq) nO (k.trans (Keep.new hq)) (M.grow S1.inv (upd_grow hq)) upd_same (hs.up fun b o e _ => hid_more hq b o e)⟩
end
end K41
end
section
set_option linter.all false
set_option maxRecDepth 100000
/-! K41, layer D, third part: operators, subscripts, built-in calls, slices, by data. -/
namespace K41
open PySem PySem.Spec PyProof.Rows L2
open Classical
theorem hid_le {P : Addr → Prop} {H : Hp} : ∀ b o, hid P H b = some o → H b = some o := fun b o e => (hid_some.mp e).2
theorem Dat.top {P : Addr → Prop} {H : Hp} {v : V} {d : PyData} (h : Dat (hid P H) v d) : Dat H v d := h.up fun b o e _ => hid_le b o e
theorem Dats.top {P : Addr → Prop} {H : Hp} {v : List V} {d : List PyData} (h : Dats (hid P H) v d) : Dats H v d := h.up fun b o e _ => hid_le b o e
mutual
theorem Dat.dp {K : PySem.W.Frag} {H : Hp} : ∀ (d : PyData) (v : V), Dat H v d → Dp K H v d
  | .none, _, h => by cases h; exact .non
  | .bool _, _, h => by cases h; exact .bl _
  | .int _, _, h => by cases h; exact .int _
  | .str _, _, h => by cases h; exact .str _
  | .list ds, _, h => by cases h with | lst h k => exact .lst (SqL.of h) (Dats.dp ds _ k)
  | .tuple ds, _, h => by cases h with | tup h k => exact .tup (SqT.of h) (Dats.dp ds _ k)
  | .dict _, _, h => by cases h
theorem Dats.dp {K : PySem.W.Frag} {H : Hp} : ∀ (ds : List PyData) (vs : List V), Dats H vs ds → DpAll K H vs ds
  | [], _, h => by cases h; exact .nil
  | d :: ds, _, h => by cases h with | cons h k => exact .cons (Dat.dp d _ h) (Dats.dp ds _ k)
end
theorem Dat.tupAt {H : Hp} {v : V} {ds : List PyData} (h : Dat H v (.tuple ds)) : ∃ a xs, v = .ref a ∧ H a = some (.tup xs) ∧ Dats H xs ds := by
  cases h with | tup h k => exact ⟨_, _, rfl, h, k⟩
theorem Dat.lstAt {H : Hp} {v : V} {ds : List PyData} (h : Dat H v (.list ds)) : ∃ a xs, v = .ref a ∧ H a = some (.lst xs) ∧ Dats H xs ds := by
  cases h with | lst h k => exact ⟨_, _, rfl, h, k⟩
theorem Dat.intAt {H : Hp} {v : V} {i : Int} (h : Dat H v (.int i)) : v = .int i := by cases h; rfl
theorem Dat.blAt {H : Hp} {v : V} {i : Bool} (h : Dat H v (.bool i)) : v = .bl i := by cases h; rfl
theorem Dat.strAt {H : Hp} {v : V} {i : Str} (h : Dat H v (.str i)) : v = .str i := by cases h; rfl
theorem Dats.ints {H : Hp} : ∀ {ns : List Int} {vs : List V}, Dats H vs (ns.map PyData.int) → vs = ns.map V.int
  | [], _, h => by cases h; rfl
  | n :: ns, _, h => by
    have h' : Dats H _ (.int n :: ns.map PyData.int) := h
    cases h' with
    | cons h k => rw [h.intAt, Dats.ints k]; rfl
theorem Dats.bls {H : Hp} : ∀ {ns : List Bool} {vs : List V}, Dats H vs (ns.map PyData.bool) → vs = ns.map V.bl
  | [], _, h => by cases h; rfl
  | n :: ns, _, h => by
    have h' : Dats H _ (.bool n :: ns.map PyData.bool) := h
    cases h' with
    | cons h k => rw [h.blAt, Dats.bls k]; rfl
theorem Dats.two {H : Hp} {vs : List V} {d e : PyData} (h : Dats H vs [d, e]) : ∃ x y, vs = [x, y] ∧ Dat H x d ∧ Dat H y e := by
  cases h with
  | cons h k => cases k with | cons h' k => cases k; exact ⟨_, _, rfl, h, h'⟩
theorem Dats.one {H : Hp} {vs : List V} {d : PyData} (h : Dats H vs [d]) : ∃ x, vs = [x] ∧ Dat H x d := by
  cases h with | cons h k => cases k; exact ⟨_, rfl, h⟩
theorem Dats.ofInts {H : Hp} : ∀ ns : List Int, Dats H (ns.map V.int) (ns.map PyData.int)
  | [] => .nil
  | n :: ns => .cons (.int n) (Dats.ofInts ns)
theorem Dats.dropL {H : Hp} : ∀ {ds : List PyData} {vs : List V} (k : Nat), Dats H vs ds → Dats H (vs.drop k) (ds.drop k)
  | _, _, 0, h => h
  | [], _, k + 1, h => by cases h; exact .nil
  | _ :: _, _, k + 1, h => by cases h with | cons _ t => exact Dats.dropL k t

section
variable {T : List (Addr × Str)} {M : Am T} {P : PyData → Prop} {K : PySem.W.Frag} {Γ : Env'} {R : List PyData → Prop}
theorem rd_I0 {g : Int → Int → V} {i j : Int} {d : PyData} (h : Sc (g i j) d) (p : P d) : RD M (rI0 g) (.int i) (.int j) P := fun hd H x y Q w hx hy f =>
  ⟨i, j, hx.intAt, hy.intAt, f.sc w p h⟩
theorem rd_I {C : Int → Int → Prop} {g : Int → Int → V} {i j : Int} {d : PyData} (hc : C i j) (h : Sc (g i j) d) (p : P d) : RD M (rI C g) (.int i) (.int j) P := fun hd H x y Q w hx hy f =>
  ⟨i, j, hx.intAt, hy.intAt, hc, f.sc w p h⟩
theorem rd_eq {i j : Int} (p : P (.bool (decide (i = j)))) : RD M rEq (.int i) (.int j) P := fun hd H x y Q w hx hy f => by
  rw [hx.intAt, hy.intAt]
  refine ⟨rfl, ?_⟩
  have e : decide (V.int i = V.int j) = decide (i = j) := by
    by_cases q : i = j
    · rw [decide_eq_true q, decide_eq_true (by rw [q])]
    · rw [decide_eq_false q, decide_eq_false (fun z => q (V.int.inj z))]
  rw [e]
  exact f.sc w p (.bl _)
theorem rd_ne {i j : Int} (p : P (.bool (!decide (i = j)))) : RD M rNe (.int i) (.int j) P := fun hd H x y Q w hx hy f => by
  rw [hx.intAt, hy.intAt]
  refine ⟨rfl, ?_⟩
  have e : decide (V.int i = V.int j) = decide (i = j) := by
    by_cases q : i = j
    · rw [decide_eq_true q, decide_eq_true (by rw [q])]
    · rw [decide_eq_false q, decide_eq_false (fun z => q (V.int.inj z))]
  rw [e]
  exact f.sc w p (.bl _)
theorem rd_eqS {i j : Str} (p : P (.bool (decide (i = j)))) : RD M rEq (.str i) (.str j) P := fun hd H x y Q w hx hy f => by
  rw [hx.strAt, hy.strAt]
  refine ⟨rfl, ?_⟩
  have e : decide (V.str i = V.str j) = decide (i = j) := by
    by_cases q : i = j
    · rw [decide_eq_true q, decide_eq_true (by rw [q])]
    · rw [decide_eq_false q, decide_eq_false (fun z => q (V.str.inj z))]
  rw [e]
  exact f.sc w p (.bl _)
theorem rd_neS {i j : Str} (p : P (.bool (!decide (i = j)))) : RD M rNe (.str i) (.str j) P := fun hd H x y Q w hx hy f => by
  rw [hx.strAt, hy.strAt]
  refine ⟨rfl, ?_⟩
  have e : decide (V.str i = V.str j) = decide (i = j) := by
    by_cases q : i = j
    · rw [decide_eq_true q, decide_eq_true (by rw [q])]
    · rw [decide_eq_false q, decide_eq_false (fun z => q (V.str.inj z))]
  rw [e]
  exact f.sc w p (.bl _)
theorem rd_eqD {a b : PyData} (h1 : SeqAt.shaped a = true) (h2 : SeqAt.shaped b = true) (p : P (.bool (PyData.eqv a b))) : RD M (rEqD K) a b P := fun hd H x y Q w hx hy f =>
  ⟨a, b, Dat.dp _ _ hx.top, Dat.dp _ _ hy.top, h1, h2, f.sc w p (.bl _)⟩
theorem rd_neD {a b : PyData} (h1 : SeqAt.shaped a = true) (h2 : SeqAt.shaped b = true) (p : P (.bool (!PyData.eqv a b))) : RD M (rNeD K) a b P := fun hd H x y Q w hx hy f =>
  ⟨a, b, Dat.dp _ _ hx.top, Dat.dp _ _ hy.top, h1, h2, f.sc w p (.bl _)⟩
theorem rd_isN {a : PyData} (p : P (.bool (decide (a = .none)))) : RD M (fun x y H Q => y = .non ∧ Q (.bl (decide (x = .non))) H) a .none P := fun hd H x y Q w hx hy f => by
  refine ⟨by cases hy; rfl, ?_⟩
  have e : decide (x = V.non) = decide (a = PyData.none) := by cases hx <;> simp
  rw [e]
  exact f.sc w p (.bl _)
theorem rd_notN {a : PyData} (p : P (.bool (!decide (a = .none)))) : RD M (fun x y H Q => y = .non ∧ Q (.bl (!decide (x = .non))) H) a .none P := fun hd H x y Q w hx hy f => by
  refine ⟨by cases hy; rfl, ?_⟩
  have e : decide (x = V.non) = decide (a = PyData.none) := by cases hx <;> simp
  rw [e]
  exact f.sc w p (.bl _)
theorem rd_ixT {ds : List PyData} {k : Nat} {d : PyData} (h : ds[k]? = some d) (p : P d) : RD M (rIxT K) (.tuple ds) (.int (k : Int)) P := fun hd H x y Q w hx hy f => by
  obtain ⟨a, xs, rfl, h1, h2⟩ := hx.tupAt
  obtain ⟨v, h3, h4⟩ := h2.get2 h
  exact ⟨a, xs, (k : Int), v, rfl, hy.intAt, SqT.of (hid_le _ _ h1), atI_nat h3, f.same w p h4⟩
theorem rd_ixL {ds : List PyData} {k : Nat} {d : PyData} (h : ds[k]? = some d) (p : P d) : RD M (rIxL K) (.list ds) (.int (k : Int)) P := fun hd H x y Q w hx hy f => by
  obtain ⟨a, xs, rfl, h1, h2⟩ := hx.lstAt
  obtain ⟨v, h3, h4⟩ := h2.get2 h
  exact ⟨a, xs, (k : Int), v, rfl, hy.intAt, SqL.of (hid_le _ _ h1), atI_nat h3, f.same w p h4⟩
theorem inV_ints (i : Int) : ∀ ns : List Int, inV (.int i) (ns.map V.int) = decide (i ∈ ns)
  | [] => by simp [inV]
  | n :: ns => by
    have ih := inV_ints i ns
    unfold inV at ih ⊢
    rw [List.map_cons, List.any_cons, ih]
    by_cases h : n = i
    · subst h; simp [eqV]
    · simp [eqV, h, Ne.symm h]
theorem flat_ints (ns : List Int) : (ns.map V.int).all flatV = true := by
  rw [List.all_eq_true]
  intro x hx
  obtain ⟨n, _, rfl⟩ := List.mem_map.mp hx
  rfl
theorem rd_inT {ns : List Int} {i : Int} {neg : Bool} (p : P (.bool (if neg then !decide (i ∈ ns) else decide (i ∈ ns)))) : RD M (rIn K neg) (.int i) (.tuple (ns.map .int)) P := fun hd H x y Q w hx hy f => by
  obtain ⟨a, xs, rfl, h1, h2⟩ := hy.tupAt
  have e := h2.ints
  subst e
  rw [hx.intAt]
  refine ⟨a, _, rfl, .inr (SqT.of (hid_le _ _ h1)), rfl, flat_ints ns, ?_⟩
  rw [inV_ints]
  exact f.sc w p (.bl _)
theorem rd_inL {ns : List Int} {i : Int} {neg : Bool} (p : P (.bool (if neg then !decide (i ∈ ns) else decide (i ∈ ns)))) : RD M (rIn K neg) (.int i) (.list (ns.map .int)) P := fun hd H x y Q w hx hy f => by
  obtain ⟨a, xs, rfl, h1, h2⟩ := hy.lstAt
  have e := h2.ints
  subst e
  rw [hx.intAt]
  refine ⟨a, _, rfl, .inl (SqL.of (hid_le _ _ h1)), rfl, flat_ints ns, ?_⟩
  rw [inV_ints]
  exact f.sc w p (.bl _)
theorem sz1000 {n : Nat} (h : n ≤ 1000) : n ≤ sizeLine := Nat.le_of_lt (small1000 h)
theorem rd_cat {ds es : List PyData} (hl : ds.length + es.length ≤ 1000) (p : P (.list (ds ++ es))) : RD M rCat (.list ds) (.list es) P := fun hd H x y Q w hx hy f => by
  obtain ⟨a, xs, rfl, h1, h2⟩ := hx.lstAt
  obtain ⟨b, ys, rfl, h3, h4⟩ := hy.lstAt
  refine ⟨a, b, xs, ys, rfl, rfl, hid_le _ _ h1, hid_le _ _ h3, by rw [h2.len, h4.len]; exact sz1000 hl, fun q hq => ?_⟩
  exact f.lst w p (h2.app h4) hq
theorem rd_catA {ds es : List PyData} (hl : ds.length + es.length ≤ 1000) (p : P (.tuple (ds ++ es))) : RD M (rCatA K) (.tuple ds) (.tuple es) P := fun hd H x y Q w hx hy f => by
  have hx' := hx
  have hy' := hy
  obtain ⟨a, xs, rfl, h1, h2⟩ := hx.tupAt
  obtain ⟨b, ys, rfl, h3, h4⟩ := hy.tupAt
  refine ⟨a, b, xs, ys, rfl, rfl, SqT.of (hid_le _ _ h1), SqT.of (hid_le _ _ h3), by rw [h2.len, h4.len]; exact sz1000 hl, fun e => ?_, fun _ e => ?_, fun _ _ q hq => f.tup w p (h2.app h4) hq⟩
  · subst e
    cases h2
    exact f.same w (d := .tuple es) p hy'
  · subst e
    cases h4
    rw [List.append_nil] at p
    exact f.same w p hx'
theorem ru_neg {i : Int} (p : P (.int (-i))) : RU M (rU fun i => .int (-i)) (.int i) P := fun hd H x Q w hx f => ⟨i, hx.intAt, f.sc w p (.int _)⟩
/-! slices -/
def EvO (M : Am T) (to : TO) (Γ : Env') (P : Option Int → Prop) : Prop := ∀ O A σ H (Q : Option Int → Hp → Prop), Sit M O A Γ σ H → (∀ o H', P o → Keep M.W H H' → M.inv H' → Q o H') → to σ H Q
theorem o_none {P : Option Int → Prop} (p : P none) : EvO M tNoPart Γ P := fun O A σ H Q S f => f none H p Keep.refl S.inv
theorem o_some {te : TE} {P : Option Int → Prop} (h : EvD M te Γ fun d => ∃ i, d = .int i ∧ P (some i)) : EvO M (tPart te) Γ P := fun O A σ H Q S f =>
  h O A σ H _ S fun v d H1 ⟨i, e, p⟩ k hi hh => by
    subst e
    exact ⟨i, hh.intAt, f _ _ p k hi⟩
theorem d_slT {te : TE} {tl th : TO} (h : EvD M te Γ fun a => ∃ ds, a = .tuple ds ∧ EvO M tl Γ fun lo => EvO M th Γ fun hi => ∃ k : Nat, lo = some (k : Int) ∧ hi = none ∧ P (.tuple (ds.drop k))) :
    EvD M (tSl (rSlA K) te tl th) Γ P := fun O A σ H Q S f => h O A σ H _ S fun v a H1 ⟨ds, ea, h1⟩ k1 i1 hh => by
  have S1 := S.step k1 i1
  refine h1 O A σ H1 _ S1 fun lo H2 h2 k2 i2 => ?_
  have S2 := S1.step k2 i2
  refine h2 O A σ H2 _ S2 fun hi H3 ⟨k, el, eh, p⟩ k3 i3 => ?_
  have S3 := S2.step k3 i3
  subst ea el eh
  have hh3 := (hh.up (S1.wd.cln k2)).up (S2.wd.cln k3)
  have hh4 := hh3
  obtain ⟨a, xs, rfl, q1, q2⟩ := hh3.tupAt
  have e0 : HT.sIx xs.length 0 (some (k : Int)) = min k xs.length := HT.sIx_nat _ _ _
  have f3 : Fi M (Own O A Γ) H3 P Q := fun v d H' p k => f v d H' p (((k1.trans k2).trans k3).trans k)
  refine ⟨a, xs, rfl, SqT.of (hid_le _ _ q1), fun ⟨z1, z2⟩ => ?_, fun hz q hq => ?_⟩
  · rw [e0] at z1
    have hl := q2.len
    have ek : ds.drop k = ds := by
      by_cases hk : k = 0
      · rw [hk]; rfl
      · have : xs.length = 0 := by omega
        have : ds = [] := List.eq_nil_of_length_eq_zero (by omega)
        rw [this]; simp
    rw [ek] at p
    exact f3.same S3.wd p hh4
  · have ec : cutV xs (some (k : Int)) none = xs.drop k := by
      unfold cutV
      rw [e0, HT.sIx_none]
      by_cases hk : k ≤ xs.length
      · rw [Nat.min_eq_left hk, List.take_of_length_le (by rw [List.length_drop]; exact Nat.le_refl _)]
      · rw [Nat.min_eq_right (by omega), List.drop_of_length_le (Nat.le_refl _), List.drop_of_length_le (by omega)]
        simp
    rw [ec]
    exact f3.tup S3.wd p (q2.dropL k) hq
/-! built-in calls -/
variable {tA : TA} {r : List V → Hp → VK → Prop} {te : TE}
theorem d_callB (h : EvA M tA Γ fun ds => RC M r ds P) : EvD M (tCB r tA) Γ P := fun O A σ H Q S f =>
  h O A σ H _ S fun vs ds H1 hr k i hs => hr _ H1 vs Q (S.step k i).wd hs fun v d H' p k' => f v d H' p (k.trans k')
theorem f_callB (h : EvA M tA Γ fun ds => RCF M r ds R) : EvF M (tCB r tA) Γ R := fun O A σ H Q S f =>
  h O A σ H _ S fun vs ds H1 hr k i hs => hr _ H1 vs Q (S.step k i).wd hs fun p ws es H' pp fr nO k' i' e hd => f p ws es H' pp (Fr.back k (fun z => nO (.inl (S.wO p z))) fr) nO (k.trans k') i' e hd
theorem d_ofF {te : TE} (h : EvF M te Γ fun ds => P (.list ds)) : EvD M te Γ P := fun O A σ H Q S f =>
  h O A σ H _ S fun p vs ds H' pp fr nO k i e hd => f (.ref p) (.list ds) H' pp k i (.lst (hid_some.mpr ⟨nO, e⟩) (hd.up fun b o q _ => by
    obtain ⟨h1, h2⟩ := hid_some.mp q
    exact hid_some.mpr ⟨fun z => h1 (.inl z), h2⟩))
theorem rc_lenT {ds : List PyData} (p : P (.int (ds.length : Int))) : RC M (fun xs H Q => ∃ p ys, xs = [.ref p] ∧ (SqL K H p ys ∨ SqT K H p ys) ∧ Q (.int ys.length) H) [.tuple ds] P := fun hd H vs Q w hs f => by
  obtain ⟨x, rfl, hx⟩ := hs.one
  obtain ⟨a, xs, rfl, h1, h2⟩ := hx.tupAt
  exact ⟨a, xs, rfl, .inr (SqT.of (hid_le _ _ h1)), f.sc w p (by rw [h2.len]; exact .int _)⟩
theorem rc_lenL {ds : List PyData} (p : P (.int (ds.length : Int))) : RC M (fun xs H Q => ∃ p ys, xs = [.ref p] ∧ (SqL K H p ys ∨ SqT K H p ys) ∧ Q (.int ys.length) H) [.list ds] P := fun hd H vs Q w hs f => by
  obtain ⟨x, rfl, hx⟩ := hs.one
  obtain ⟨a, xs, rfl, h1, h2⟩ := hx.lstAt
  exact ⟨a, xs, rfl, .inl (SqL.of (hid_le _ _ h1)), f.sc w p (by rw [h2.len]; exact .int _)⟩
theorem rc_tupOf {ds : List PyData} (p : P (.tuple ds)) :
    RC M (fun xs H Q => ∃ p ys, xs = [.ref p] ∧ ((SqL K H p ys ∧ ∀ l, H l = none → Q (.ref l) (upd H l (.tup ys))) ∨ (SqT K H p ys ∧ Q (.ref p) H))) [.list ds] P := fun hd H vs Q w hs f => by
  obtain ⟨x, rfl, hx⟩ := hs.one
  obtain ⟨a, xs, rfl, h1, h2⟩ := hx.lstAt
  exact ⟨a, xs, rfl, .inl ⟨SqL.of (hid_le _ _ h1), fun l hl => f.tup w p h2 hl⟩⟩
theorem rc_tupOfT {ds : List PyData} (p : P (.tuple ds)) :
    RC M (fun xs H Q => ∃ p ys, xs = [.ref p] ∧ ((SqL K H p ys ∧ ∀ l, H l = none → Q (.ref l) (upd H l (.tup ys))) ∨ (SqT K H p ys ∧ Q (.ref p) H))) [.tuple ds] P := fun hd H vs Q w hs f => by
  obtain ⟨x, rfl, hx⟩ := hs.one
  have hx' := hx
  obtain ⟨a, xs, rfl, h1, h2⟩ := hx.tupAt
  exact ⟨a, xs, rfl, .inr ⟨SqT.of (hid_le _ _ h1), f.same w p hx'⟩⟩
theorem rc_sum {ns : List Int} (p : P (.int ns.sum)) : RC M (rSum K) [.list (ns.map .int)] P := fun hd H vs Q w hs f => by
  obtain ⟨x, rfl, hx⟩ := hs.one
  obtain ⟨a, xs, rfl, h1, h2⟩ := hx.lstAt
  have e := h2.ints
  subst e
  exact ⟨a, ns, rfl, SqL.of (hid_le _ _ h1), f.sc w p (.int _)⟩
theorem rc_any {ns : List Bool} (p : P (.bool (ns.any id))) : RC M (rAny K) [.list (ns.map .bool)] P := fun hd H vs Q w hs f => by
  obtain ⟨x, rfl, hx⟩ := hs.one
  obtain ⟨a, xs, rfl, h1, h2⟩ := hx.lstAt
  have e := h2.bls
  subst e
  exact ⟨a, ns, rfl, SqL.of (hid_le _ _ h1), f.sc w p (.bl _)⟩
theorem rc_abs {i : Int} (p : P (.int (if i < 0 then -i else i))) : RC M (fun xs H Q => ∃ i, xs = [.int i] ∧ Q (.int (if i < 0 then -i else i)) H) [.int i] P := fun hd H vs Q w hs f => by
  obtain ⟨x, rfl, hx⟩ := hs.one
  exact ⟨i, by rw [hx.intAt], f.sc w p (.int _)⟩
theorem rc_int {i : Int} (p : P (.int i)) : RC M (fun xs H Q => (∃ i, xs = [.int i] ∧ Q (.int i) H) ∨ ∃ k, xs = [.bl k] ∧ Q (.int (if k then 1 else 0)) H) [.int i] P := fun hd H vs Q w hs f => by
  obtain ⟨x, rfl, hx⟩ := hs.one
  exact .inl ⟨i, by rw [hx.intAt], f.sc w p (.int _)⟩
theorem rc_intB {k : Bool} (p : P (.int (if k then 1 else 0))) : RC M (fun xs H Q => (∃ i, xs = [.int i] ∧ Q (.int i) H) ∨ ∃ k, xs = [.bl k] ∧ Q (.int (if k then 1 else 0)) H) [.bool k] P := fun hd H vs Q w hs f => by
  obtain ⟨x, rfl, hx⟩ := hs.one
  exact .inr ⟨k, by rw [hx.blAt], f.sc w p (.int _)⟩
theorem rcf_new {hd : Addr → Prop} {H : Hp} {Q : VK} {vs : List V} {ds : List PyData} (w : Wd M hd H) (p : R ds) (h : Dats (hid hd H) vs ds) {q : Addr} (hq : H q = none)
    (f : ∀ p ws es H', R es → Fr H p → ¬ hd p → Keep M.W H H' → M.inv H' → H' p = some (.lst ws) → Dats (hid (fun a => hd a ∨ a = p) H') ws es → Q (.ref p) H') : Q (.ref q) (upd H q (.lst vs)) :=
  f q vs ds _ p (Fr.none hq) (w.new q hq) (Keep.new hq) (M.grow w.inv (upd_grow hq)) upd_same (h.up fun b o e _ => hid_more hq b o e)
theorem rcf_listL {ds : List PyData} (p : R ds) : RCF M (fun xs H Q => ∃ p ys, xs = [.ref p] ∧ (SqL K H p ys ∨ SqT K H p ys) ∧ ∀ l, H l = none → Q (.ref l) (upd H l (.lst ys))) [.list ds] R := fun hd H vs Q w hs f => by
  obtain ⟨x, rfl, hx⟩ := hs.one
  obtain ⟨a, xs, rfl, h1, h2⟩ := hx.lstAt
  exact ⟨a, xs, rfl, .inl (SqL.of (hid_le _ _ h1)), fun l hl => rcf_new w p h2 hl f⟩
theorem rcf_listT {ds : List PyData} (p : R ds) : RCF M (fun xs H Q => ∃ p ys, xs = [.ref p] ∧ (SqL K H p ys ∨ SqT K H p ys) ∧ ∀ l, H l = none → Q (.ref l) (upd H l (.lst ys))) [.tuple ds] R := fun hd H vs Q w hs f => by
  obtain ⟨x, rfl, hx⟩ := hs.one
  obtain ⟨a, xs, rfl, h1, h2⟩ := hx.tupAt
  exact ⟨a, xs, rfl, .inr (SqT.of (hid_le _ _ h1)), fun l hl => rcf_new w p h2 hl f⟩
/-! own defs -/
/-- what is hidden, as a list -/
noncomputable def ownL (O : List Addr) (A : Nat → Addr) (Γ : Env') : List Addr := O ++ ((List.range Γ.length).filter fun i => decide (Mine Γ i)).map A
theorem ownL_iff {O : List Addr} {A : Nat → Addr} {Γ : Env'} {a : Addr} : a ∈ ownL O A Γ ↔ Own O A Γ a := by
  unfold ownL
  rw [List.mem_append]
  refine ⟨fun h => h.elim .inl fun h => ?_, fun h => h.elim .inl fun ⟨i, m, e⟩ => .inr (List.mem_map.mpr ⟨i, List.mem_filter.mpr ⟨List.mem_range.mpr ?_, decide_eq_true m⟩, e⟩)⟩
  · obtain ⟨i, h1, h2⟩ := List.mem_map.mp h
    exact .inr ⟨i, of_decide_eq_true (List.mem_filter.mp h1).2, h2⟩
  · obtain ⟨c, e, _⟩ := m
    exact (List.getElem?_eq_some_iff.mp e).1
theorem ownL_eq {O : List Addr} {A : Nat → Addr} {Γ : Env'} : (fun a => a ∈ ownL O A Γ) = Own O A Γ := funext fun _ => propext ownL_iff
/-- the promise of a pure def: called with the data args i it hands back data of which post i is true -/
def spD {ι : Type} (T : List (Addr × Str)) (ok : ι → Prop) (args : ι → List PyData) (post : ι → PyData → Prop) : Sp := fun vs H Q _ => ∃ (i : ι) (own : List Addr), ok i ∧ (∀ a ∈ own, ∃ o, H a = some o ∧ Ld o) ∧ LamX.Tabs T H ∧ Dats (hid (· ∈ own) H) vs (args i) ∧
  ∀ v d H', post i d → Keep [] H H' → LamX.Tabs T H' → Dat (hid (· ∈ own) H') v d → Q v H'
theorem d_call {ι : Type} {ok : ι → Prop} {args : ι → List PyData} {post : ι → PyData → Prop} {E : XK} (h : EvA M tA Γ fun ds => ∃ i, ok i ∧ ds = args i ∧ ∀ d, post i d → P d) : EvD M (tCall (spD T ok args post) [] E tA) Γ P := fun O A σ H Q S f =>
  h O A σ H _ S fun vs ds H1 ⟨x, hp, e, hq⟩ k i hs => by
    subst e
    have S1 := S.step k i
    refine ⟨x, ownL O A Γ, hp, fun a ha => S1.ownDom (ownL_iff.mp ha), M.tabs _ i, by rw [List.append_nil, ownL_eq]; exact hs, fun v d H' pd k' t' hh => ?_⟩
    rw [ownL_eq] at hh
    exact f v d H' (hq d pd) (k.trans k'.wide) (M.mono _ _ i k' t') hh
end
end K41
end
section
set_option linter.all false
set_option maxRecDepth 100000
/-! K41, layer D, fourth part: what is walked, targets, comprehensions. -/
namespace K41
open PySem PySem.Spec PyProof.Rows L2
open Classical
section
variable {T : List (Addr × Str)} {M : Am T} {P : PyData → Prop} {K : PySem.W.Frag} {Γ : Env'} {R : List PyData → Prop} {te tl : TE} {tA : TA}
/-- J walks the data xs, wherever what was clean at Hs still is -/
def IterD (M : Am T) (hd : Addr → Prop) (Hs : Hp) (J : It) (xs : List PyData) : Prop :=
  ∀ hd' H, Wd M hd' H → Cln hd Hs hd' H → (∀ i, i < xs.length → J.go i H) ∧ J.stop xs.length H ∧
    ∀ i v H', i < xs.length → J.yld i H v H' → ∃ d, xs[i]? = some d ∧ (∀ b o, H b = some o → H' b = some o) ∧ Dat (hid hd' H') v d
def EvI (M : Am T) (wi : TI) (Γ : Env') (R : List PyData → Prop) : Prop := ∀ O A σ H (Q : It → Hp → Prop), Sit M O A Γ σ H →
  (∀ J xs H', R xs → Keep M.W H H' → M.inv H' → IterD M (Own O A Γ) H' J xs → Q J H') → wi σ H Q
theorem iter_tup {hd : Addr → Prop} {Hs : Hp} {a : Addr} {vs : List V} {xs : List PyData} (h : hid hd Hs a = some (.tup vs)) (k : Dats (hid hd Hs) vs xs) : IterD M hd Hs (Itt K a) xs := fun hd' H w c => by
  have e := (hid_some.mp (c _ _ h nt_tup)).2
  have k' := k.up c
  refine ⟨fun i hi => ⟨vs, vs[i]'(by rw [k.len]; exact hi), SqT.of e, List.getElem?_eq_getElem _⟩, ⟨vs, SqT.of e, Nat.le_of_eq k.len⟩, fun i v H' hi y => ?_⟩
  obtain ⟨e1, y⟩ := y
  subst e1
  obtain ⟨d, h1, h2⟩ := k'.get (y vs (SqT.of e))
  exact ⟨d, h1, fun _ _ q => q, h2⟩
theorem iter_lst {hd : Addr → Prop} {Hs : Hp} {a : Addr} {vs : List V} {xs : List PyData} (h : hid hd Hs a = some (.lst vs)) (k : Dats (hid hd Hs) vs xs) : IterD M hd Hs (Itl K a) xs := fun hd' H w c => by
  have e := (hid_some.mp (c _ _ h nt_lst)).2
  have k' := k.up c
  refine ⟨fun i hi => ⟨vs, vs[i]'(by rw [k.len]; exact hi), SqL.of e, List.getElem?_eq_getElem _⟩, ⟨vs, SqL.of e, Nat.le_of_eq k.len⟩, fun i v H' hi y => ?_⟩
  obtain ⟨e1, y⟩ := y
  subst e1
  obtain ⟨d, h1, h2⟩ := k'.get (y vs (SqL.of e))
  exact ⟨d, h1, fun _ _ q => q, h2⟩
/-- the ints of a range -/
def rngD (lo : Int) (n : Nat) : List PyData := (List.range n).map fun i => PyData.int (lo + (i : Nat))
theorem rngD_get {lo : Int} {n i : Nat} (h : i < n) : (rngD lo n)[i]? = some (.int (lo + (i : Nat))) := by
  unfold rngD
  rw [List.getElem?_map, List.getElem?_range h]
  rfl
theorem rngD_len (lo : Int) (n : Nat) : (rngD lo n).length = n := by unfold rngD; rw [List.length_map, List.length_range]
theorem iter_rng {hd : Addr → Prop} {Hs : Hp} {lo : Int} {n : Nat} : IterD M hd Hs (Itr lo n) (rngD lo n) := fun hd' H w c => by
  rw [rngD_len]
  refine ⟨fun i hi => hi, Nat.le_refl _, fun i v H' hi y => ?_⟩
  obtain ⟨e1, e2⟩ := y
  subst e1 e2
  exact ⟨_, rngD_get hi, fun _ _ q => q, .int _⟩
def numD : Nat → List PyData → List PyData
  | _, [] => []
  | k, d :: ds => .tuple [.int (k : Int), d] :: numD (k + 1) ds
theorem numD_len : ∀ (k : Nat) (ds : List PyData), (numD k ds).length = ds.length
  | _, [] => rfl
  | k, _ :: ds => by simp [numD, numD_len (k + 1) ds]
theorem numD_get : ∀ (k : Nat) (ds : List PyData) (i : Nat), (numD k ds)[i]? = (ds[i]?).map fun d => .tuple [.int ((k + i : Nat) : Int), d]
  | _, [], i => by simp [numD]
  | k, d :: ds, 0 => by simp [numD]
  | k, d :: ds, i + 1 => by
    rw [numD, List.getElem?_cons_succ, List.getElem?_cons_succ, numD_get (k + 1) ds i]
    have e : k + 1 + i = k + (i + 1) := by omega
    rw [e]
theorem iter_enum {hd : Addr → Prop} {Hs : Hp} {a : Addr} {vs : List V} {xs : List PyData} (h : hid hd Hs a = some (.lst vs)) (k : Dats (hid hd Hs) vs xs) : IterD M hd Hs (Ite K a) (numD 0 xs) := fun hd' H w c => by
  have e := (hid_some.mp (c _ _ h nt_lst)).2
  have k' := k.up c
  rw [numD_len]
  refine ⟨fun i hi => ⟨vs, vs[i]'(by rw [k.len]; exact hi), SqL.of e, List.getElem?_eq_getElem _⟩, ⟨vs, SqL.of e, Nat.le_of_eq k.len⟩, fun i v H' hi y => ?_⟩
  obtain ⟨p, x, rfl, nT, rfl, y⟩ := y
  obtain ⟨d, h1, h2⟩ := k'.get (y vs (SqL.of e))
  refine ⟨.tuple [.int (i : Int), d], by rw [numD_get, h1]; simp, upd_grow nT, .tup (hid_some.mpr ⟨w.new p nT, upd_same⟩) (.cons (.int _) (.cons (h2.up fun b o q _ => hid_new (w.new p nT) nT b o q) .nil))⟩
def zipD : List PyData → List PyData → List PyData
  | x :: xs, y :: ys => .tuple [x, y] :: zipD xs ys
  | _, _ => []
theorem zipD_len : ∀ xs ys : List PyData, (zipD xs ys).length = min xs.length ys.length
  | [], _ => by simp [zipD]
  | _ :: _, [] => by simp [zipD]
  | x :: xs, y :: ys => by simp only [zipD, List.length_cons, zipD_len xs ys]; omega
theorem zipD_get : ∀ (xs ys : List PyData) (i : Nat) (x y : PyData), xs[i]? = some x → ys[i]? = some y → (zipD xs ys)[i]? = some (.tuple [x, y])
  | [], _, _, _, _, h, _ => by simp at h
  | _ :: _, [], _, _, _, _, h => by simp at h
  | _ :: _, _ :: _, 0, _, _, h, h' => by simp at h h'; subst h h'; rfl
  | _ :: xs, _ :: ys, i + 1, x, y, h, h' => by
    rw [List.getElem?_cons_succ] at h h'
    rw [zipD, List.getElem?_cons_succ]
    exact zipD_get xs ys i x y h h'
theorem iter_zip {hd : Addr → Prop} {Hs : Hp} {a b : Addr} {vs ws : List V} {xs ys : List PyData} (h : hid hd Hs a = some (.lst vs)) (k : Dats (hid hd Hs) vs xs) (h' : hid hd Hs b = some (.lst ws)) (k' : Dats (hid hd Hs) ws ys) :
    IterD M hd Hs (Itz K a b) (zipD xs ys) := fun hd' H w c => by
  have e := (hid_some.mp (c _ _ h nt_lst)).2
  have e' := (hid_some.mp (c _ _ h' nt_lst)).2
  have l1 := k.len
  have l2 := k'.len
  rw [zipD_len]
  refine ⟨fun i hi => ⟨vs, ws, vs[i]'(by omega), ws[i]'(by omega), SqL.of e, SqL.of e', List.getElem?_eq_getElem _, List.getElem?_eq_getElem _⟩, ⟨vs, ws, SqL.of e, SqL.of e', by omega⟩, fun i v H' hi y => ?_⟩
  obtain ⟨p, x, z, rfl, nT, rfl, y1, y2⟩ := y
  obtain ⟨d, h1, h2⟩ := (k.up c).get (y1 vs (SqL.of e))
  obtain ⟨d', h3, h4⟩ := (k'.up c).get (y2 ws (SqL.of e'))
  refine ⟨.tuple [d, d'], zipD_get _ _ _ _ _ h1 h3, upd_grow nT, .tup (hid_some.mpr ⟨w.new p nT, upd_same⟩) (.cons (h2.up fun b o q _ => hid_new (w.new p nT) nT b o q) (.cons (h4.up fun b o q _ => hid_new (w.new p nT) nT b o q) .nil))⟩
theorem i_tup (h : EvD M tl Γ fun a => ∃ ds, a = .tuple ds ∧ R ds) : EvI M (iTup K tl) Γ R := fun O A σ H Q S f => h O A σ H _ S fun v a H1 ⟨ds, e, p⟩ k i hh => by
  subst e
  obtain ⟨a, xs, rfl, h1, h2⟩ := hh.tupAt
  exact ⟨a, rfl, ⟨xs, SqT.of (hid_le _ _ h1)⟩, f _ ds H1 p k i (iter_tup h1 h2)⟩
theorem i_list (h : EvD M tl Γ fun a => ∃ ds, a = .list ds ∧ R ds) : EvI M (iList K tl) Γ R := fun O A σ H Q S f => h O A σ H _ S fun v a H1 ⟨ds, e, p⟩ k i hh => by
  subst e
  obtain ⟨a, xs, rfl, h1, h2⟩ := hh.lstAt
  exact ⟨a, rfl, ⟨xs, SqL.of (hid_le _ _ h1)⟩, f _ ds H1 p k i (iter_lst h1 h2)⟩
theorem i_rng1 (h : EvA M tA Γ fun as => ∃ n : Nat, as = [.int (n : Int)] ∧ n ≤ 100000 ∧ R (rngD 0 n)) : EvI M (iRng1 tA) Γ R := fun O A σ H Q S f => h O A σ H _ S fun vs ds H1 ⟨n, e, hn, p⟩ k i hs => by
  subst e
  obtain ⟨x, rfl, hx⟩ := hs.one
  refine ⟨(n : Int), by rw [hx.intAt], by omega, by omega, ?_⟩
  rw [Int.toNat_natCast]
  exact f _ _ H1 p k i iter_rng
theorem i_rng2 (h : EvA M tA Γ fun as => ∃ a b : Int, as = [.int a, .int b] ∧ (0 ≤ a ∧ a ≤ 100000 ∧ -100000 ≤ b ∧ b ≤ 100000) ∧ R (rngD a (b - a).toNat)) : EvI M (iRng2 tA) Γ R := fun O A σ H Q S f => h O A σ H _ S fun vs ds H1 ⟨a, b, e, hn, p⟩ k i hs => by
  subst e
  obtain ⟨x, y, rfl, hx, hy⟩ := hs.two
  exact ⟨a, b, by rw [hx.intAt, hy.intAt], by omega, f _ _ H1 p k i iter_rng⟩
theorem i_enum (h : EvA M tA Γ fun as => ∃ ds, as = [.list ds] ∧ R (numD 0 ds)) : EvI M (iEnum K tA) Γ R := fun O A σ H Q S f => h O A σ H _ S fun vs ds H1 ⟨es, e, p⟩ k i hs => by
  subst e
  obtain ⟨x, rfl, hx⟩ := hs.one
  obtain ⟨a, xs, rfl, h1, h2⟩ := hx.lstAt
  exact ⟨a, xs, rfl, SqL.of (hid_le _ _ h1), f _ _ H1 p k i (iter_enum h1 h2)⟩
theorem i_zip (h : EvA M tA Γ fun as => ∃ ds es, as = [.list ds, .list es] ∧ R (zipD ds es)) : EvI M (iZip K tA) Γ R := fun O A σ H Q S f => h O A σ H _ S fun vs ds H1 ⟨es, fs, e, p⟩ k i hs => by
  subst e
  obtain ⟨x, y, rfl, hx, hy⟩ := hs.two
  obtain ⟨a, xs, rfl, h1, h2⟩ := hx.lstAt
  obtain ⟨b, ys, rfl, h3, h4⟩ := hy.lstAt
  exact ⟨a, b, xs, ys, rfl, SqL.of (hid_le _ _ h1), SqL.of (hid_le _ _ h3), f _ _ H1 p k i (iter_zip h1 h2 h3 h4)⟩

/-! ### storing in slots -/
theorem mine_set {Γ : Env'} {j i : Nat} {c : Option Cell} (hc : ∀ x, c = some x → ¬ x.mine) (h : Mine (Γ.set j c) i) : Mine Γ i ∧ i ≠ j := by
  obtain ⟨x, e, m⟩ := h
  by_cases q : i = j
  · subst q
    rw [List.getElem?_set] at e
    simp only [if_true] at e
    split at e
    · cases e
      exact absurd m (hc x rfl)
    · cases e
  · rw [List.getElem?_set_ne (Ne.symm q)] at e
    exact ⟨⟨x, e, m⟩, q⟩
theorem CellAt'.less {P P' : Addr → Prop} {O : List Addr} {a : Addr} {H : Hp} {v : Option (Option V)} {c : Cell} (h : CellAt' P O a H v c) (hP : ∀ x, P' x → P x) : CellAt' P' O a H v c := by
  have up : ∀ b o, hid P H b = some o → Nt o → hid P' H b = some o := fun b o e _ => by
    obtain ⟨h1, h2⟩ := hid_some.mp e
    exact hid_some.mpr ⟨fun z => h1 (hP _ z), h2⟩
  cases c with
  | dat d => obtain ⟨x, e, k⟩ := h; exact ⟨x, e, k.up up⟩
  | raw x => exact h
  | lst ds => obtain ⟨e, n, xs, h1, h2⟩ := h; exact ⟨e, n, xs, h1, h2.up up⟩
  | dct kvs => exact h
/-- a slot gets data (or is forgotten) -/
theorem Sit.put {O : List Addr} {A : Nat → Addr} {σ : L2.St} {H : Hp} (S : Sit M O A Γ σ H) {j : Nat} {c : Option Cell} {v : Option V} (hc : ∀ x, c = some x → ¬ x.mine)
    (hv : ∀ x, c = some x → CellAt' (Own O A Γ) O (A j) H (some v) x) : Sit M O A (Γ.set j c) (σ.set j v) H ∧ ∀ a, Own O A (Γ.set j c) a → Own O A Γ a := by
  have less : ∀ a, Own O A (Γ.set j c) a → Own O A Γ a := fun a h => h.elim .inl fun ⟨i, m, e⟩ => .inr ⟨i, (mine_set hc m).1, e⟩
  refine ⟨⟨by rw [List.length_set, List.length_set]; exact S.len, S.inv, S.wO, S.dom, fun i x e => ?_, fun i i' m m' e => S.inj i i' (mine_set hc m).1 (mine_set hc m').1 e⟩, less⟩
  by_cases q : i = j
  · subst q
    have hi : i < Γ.length := by
      by_cases z : i < Γ.length
      · exact z
      · rw [List.getElem?_eq_none (by rw [List.length_set]; omega)] at e; cases e
    rw [List.getElem?_set_self hi] at e
    rw [List.getElem?_set_self (by rw [S.len]; exact hi)]
    exact (hv x (Option.some.inj e)).less less
  · rw [List.getElem?_set_ne (Ne.symm q)] at e
    rw [List.getElem?_set_ne (Ne.symm q)]
    exact (S.cell i x e).less less
/-- a target that takes the data d: only slots of S change -/
def EvG (M : Am T) (g : TG) (S : List Nat) (d : PyData) (Γ : Env') (P : Env' → Prop) : Prop := ∀ O A σ H v (Q : L2.St → Hp → Prop), Sit M O A Γ σ H → Dat (hid (Own O A Γ) H) v d →
  (∀ Γ' σ', P Γ' → Sit M O A Γ' σ' H → (∀ a, Own O A Γ' a → Own O A Γ a) → (∀ i, i ∉ S → σ'[i]? = σ[i]? ∧ Γ'[i]? = Γ[i]?) → σ'.length = σ.length → Q σ' H) → g v σ H Q
def EvGs (M : Am T) (g : TGs) (S : List Nat) (ds : List PyData) (Γ : Env') (P : Env' → Prop) : Prop := ∀ O A σ H vs (Q : L2.St → Hp → Prop), Sit M O A Γ σ H → Dats (hid (Own O A Γ) H) vs ds →
  (∀ Γ' σ', P Γ' → Sit M O A Γ' σ' H → (∀ a, Own O A Γ' a → Own O A Γ a) → (∀ i, i ∉ S → σ'[i]? = σ[i]? ∧ Γ'[i]? = Γ[i]?) → σ'.length = σ.length → Q σ' H) → g vs σ H Q
theorem g_name {j : Nat} {S : List Nat} {d : PyData} {P : Env' → Prop} (hj : j ∈ S) (p : P (Γ.set j (some (.dat d)))) : EvG M (gName j) S d Γ P := fun O A σ H v Q s h f => by
  obtain ⟨s', less⟩ := s.put (j := j) (c := some (.dat d)) (v := some v) (fun x e => by cases e; exact id) fun x e => by cases e; exact ⟨v, rfl, h⟩
  exact f _ _ p s' less (fun i hi => ⟨List.getElem?_set_ne (fun (e : j = i) => hi (e ▸ hj)), List.getElem?_set_ne (fun (e : j = i) => hi (e ▸ hj))⟩) (by rw [List.length_set])
theorem gs_nil {S : List Nat} {P : Env' → Prop} (p : P Γ) : EvGs M gNil S [] Γ P := fun O A σ H vs Q s h f => by
  cases h
  exact ⟨rfl, f Γ σ p s (fun _ h => h) (fun _ _ => ⟨rfl, rfl⟩) rfl⟩
theorem gs_cons {g : TG} {gs : TGs} {S : List Nat} {d : PyData} {ds : List PyData} {P : Env' → Prop} (h : EvG M g S d Γ fun Γ' => EvGs M gs S ds Γ' P) : EvGs M (gCons g gs) S (d :: ds) Γ P := fun O A σ H vs Q s hs f => by
  cases hs with
  | @cons v vs _ _ h1 h2 =>
    refine ⟨v, vs, rfl, h O A σ H v _ s h1 fun Γ' σ' hg s' less same len => ?_⟩
    refine hg O A σ' H vs Q s' (h2.up fun b o e _ => ?_) fun Γ2 σ2 p s2 less2 same2 len2 => f Γ2 σ2 p s2 (fun a h => less a (less2 a h)) (fun i hi => ⟨(same2 i hi).1.trans (same i hi).1, (same2 i hi).2.trans (same i hi).2⟩) (len2.trans len)
    obtain ⟨q1, q2⟩ := hid_some.mp e
    exact hid_some.mpr ⟨fun z => q1 (less _ z), q2⟩
theorem g_tup {n : Nat} {gs : TGs} {S : List Nat} {ds : List PyData} {P : Env' → Prop} (hn : ds.length = n) (h : EvGs M gs S ds Γ P) : EvG M (gTup K n gs) S (.tuple ds) Γ P := fun O A σ H v Q s hh f => by
  obtain ⟨a, xs, rfl, h1, h2⟩ := hh.tupAt
  exact ⟨a, xs, rfl, SqT.of (hid_le _ _ h1), by rw [h2.len]; exact hn, h O A σ H xs Q s h2 f⟩

/-! ### comprehensions -/
def wipeE (Γ : Env') : List Nat → Env'
  | [] => Γ
  | v :: vs => (wipeE Γ vs).set v none
theorem Sit.wipe {O : List Addr} {A : Nat → Addr} {σ : L2.St} {H : Hp} (S : Sit M O A Γ σ H) : ∀ vs : List Nat, Sit M O A (wipeE Γ vs) (L2.wipe σ vs) H ∧ ∀ a, Own O A (wipeE Γ vs) a → Own O A Γ a
  | [] => ⟨S, fun _ h => h⟩
  | v :: vs => by
    obtain ⟨h1, h2⟩ := Sit.wipe S vs
    obtain ⟨h3, h4⟩ := h1.put (j := v) (c := none) (v := none) (fun x e => nomatch e) fun x e => nomatch e
    exact ⟨h3, fun a h => h2 a (h4 a h)⟩
theorem wipe_get (σ : L2.St) : ∀ (vs : List Nat) (i : Nat), (L2.wipe σ vs)[i]? = if i ∈ vs ∧ i < σ.length then some none else σ[i]?
  | [], i => by simp [L2.wipe]
  | v :: vs, i => by
    show ((L2.wipe σ vs).set v none)[i]? = _
    by_cases q : i = v
    · subst q
      by_cases hl : i < σ.length
      · rw [List.getElem?_set_self (by rw [L2.wipe_length]; exact hl), if_pos ⟨List.mem_cons_self, hl⟩]
      · rw [List.getElem?_eq_none (by rw [List.length_set, L2.wipe_length]; omega), if_neg (fun z => hl z.2), List.getElem?_eq_none (by omega)]
    · rw [List.getElem?_set_ne (Ne.symm q), wipe_get σ vs i]
      simp [q]
theorem wipe_eq {σ σ' : L2.St} {vs : List Nat} (hl : σ'.length = σ.length) (h : ∀ i, i ∉ vs → σ'[i]? = σ[i]?) : L2.wipe σ' vs = L2.wipe σ vs := by
  apply List.ext_getElem?
  intro i
  rw [wipe_get, wipe_get, hl]
  by_cases q : i ∈ vs
  · by_cases r : i < σ.length
    · rw [if_pos ⟨q, r⟩, if_pos ⟨q, r⟩]
    · rw [if_neg (fun z => r z.2), if_neg (fun z => r z.2), List.getElem?_eq_none (by omega), List.getElem?_eq_none (by omega)]
  · rw [if_neg (fun z => q z.1), if_neg (fun z => q z.1)]
    exact h i q
/-- a new address is hidden too -/
theorem Sit.more {O : List Addr} {A : Nat → Addr} {σ : L2.St} {H : Hp} (S : Sit M O A Γ σ H) {p : Addr} {o : HO} (hp : H p = none) (ho : Ld o) : Sit M (p :: O) A Γ σ (upd H p o) := by
  have nO := S.ownNew hp
  have own : ∀ a, Own (p :: O) A Γ a → Own O A Γ a ∨ a = p := fun a h => by
    rcases h with h | h
    · rcases List.mem_cons.mp h with h | h
      · exact .inr h
      · exact .inl (.inl h)
    · exact .inl (.inr h)
  have up : ∀ b u, hid (Own O A Γ) H b = some u → Nt u → hid (Own (p :: O) A Γ) (upd H p o) b = some u := fun b u e _ => by
    obtain ⟨h1, h2⟩ := hid_some.mp (hid_more (hd := Own O A Γ) (o := o) hp b u e)
    exact hid_some.mpr ⟨fun z => h1 (own b z), h2⟩
  refine ⟨S.len, M.grow S.inv (upd_grow hp), fun a h => List.mem_cons_of_mem _ (S.wO a h), fun a h => ?_, fun i c e => ?_, S.inj⟩
  · rcases List.mem_cons.mp h with h | h
    · exact ⟨o, by rw [h]; exact upd_same, ho⟩
    · obtain ⟨u, e, n⟩ := S.dom a h
      exact ⟨u, upd_grow hp a u e, n⟩
  · have q := S.cell i c e
    have nA : ∀ a, H a ≠ none → a ≠ p := fun a h z => h (by rw [z]; exact hp)
    cases c with
    | dat d => obtain ⟨x, e1, k⟩ := q; exact ⟨x, e1, k.up up⟩
    | raw x => exact q
    | lst ds =>
      obtain ⟨e1, n, xs, h1, h2⟩ := q
      refine ⟨e1, fun z => ?_, xs, upd_grow hp _ _ h1, h2.up up⟩
      rcases List.mem_cons.mp z with z | z
      · rw [z, hp] at h1; cases h1
      · exact n z
    | dct kvs =>
      obtain ⟨e1, n, h1⟩ := q
      refine ⟨e1, fun z => ?_, upd_grow hp _ _ h1⟩
      rcases List.mem_cons.mp z with z | z
      · rw [z, hp] at h1; cases h1
      · exact n z
/-- no slot of vs is owned -/
def freeOf (Γ : Env') (vs : List Nat) : Bool := vs.all fun i => match Γ[i]? with
  | some (some (.lst _)) => false
  | some (some (.dct _)) => false
  | _ => true
theorem freeOf_not {vs : List Nat} (h : freeOf Γ vs = true) : ∀ i ∈ vs, ¬ Mine Γ i := fun i hi ⟨c, e, m⟩ => by
  have q := (List.all_eq_true.mp h) i hi
  rw [e] at q
  cases c with
  | dat _ => exact m
  | raw _ => exact m
  | lst _ => cases q
  | dct _ => cases q
theorem wipeE_get : ∀ (vs : List Nat) (i : Nat), i ∉ vs → (wipeE Γ vs)[i]? = Γ[i]?
  | [], _, _ => rfl
  | v :: vs, i, h => by
    show ((wipeE Γ vs).set v none)[i]? = _
    rw [List.getElem?_set_ne (fun (e : v = i) => h (e ▸ List.mem_cons_self))]
    exact wipeE_get vs i fun q => h (List.mem_cons_of_mem _ q)
/-- the list of a comprehension: I says, by the turn, what has been made -/
theorem f_lc {wi : TI} {g : TG} {tt : TT} {vs : List Nat} (hf : freeOf Γ vs = true) (h : EvI M wi Γ fun xs => xs.length ≤ 100000 ∧ ∃ I : Nat → List PyData → Prop, I 0 [] ∧
      (∀ (i : Nat) (x : PyData) (acc : List PyData), xs[i]? = some x → I i acc → EvG M g vs x (wipeE Γ vs) fun Γ' => EvT M tt Γ' fun b => (b = false → I (i + 1) acc) ∧ (b = true → EvD M te Γ' fun d => I (i + 1) (acc ++ [d]))) ∧
      ∀ acc, I xs.length acc → R acc) : EvF M (tLc wi g tt te vs) Γ R := fun O A σ H Q S f => by
  refine h O A σ H _ S fun J xs H1 ⟨hl, I, h0, hs, he⟩ k1 i1 it => ?_
  have S1 := S.step k1 i1
  intro D hD
  have nO := S1.ownNew hD
  have nW : D ∉ M.W := fun z => nO (S1.wd.w D z)
  have frD : Fr H D := Fr.of k1 nW hD
  -- the invariant of the turns
  let hd2 : Addr → Prop := fun a => Own O A Γ a ∨ a = D
  let Pv : Nat → Hp → Prop := fun i H2 => Keep M.W H1 H2 ∧ M.inv H2 ∧ ∃ ws acc, H2 D = some (.lst ws) ∧ Dats (hid hd2 H2) ws acc ∧ acc.length ≤ i ∧ I i acc
  have cl : ∀ {H2}, Keep M.W H1 H2 → Cln (Own O A Γ) H1 hd2 H2 := fun {H2} k b u e n => by
    obtain ⟨q1, q2⟩ := hid_some.mp e
    refine hid_some.mpr ⟨fun z => ?_, k b u q2 (fun z => q1 (S1.wd.w b z)) n⟩
    rcases z with z | z
    · exact q1 z
    · rw [z, hD] at q2; cases q2
  have ownE : Own (D :: O) A Γ = hd2 := funext fun a => propext ⟨fun h => by
      rcases h with h | h
      · rcases List.mem_cons.mp h with h | h
        · exact .inr h
        · exact .inl (.inl h)
      · exact .inl (.inr h), fun h => by
      rcases h with h | h
      · rcases h with h | h
        · exact .inl (List.mem_cons_of_mem _ h)
        · exact .inr h
      · exact .inl (by rw [h]; exact List.mem_cons_self)⟩
  have sit : ∀ {i H2}, Pv i H2 → Sit M (D :: O) A Γ σ H2 := fun {i H2} ⟨kb, iv, ws, acc, hw, _⟩ => by
    have Sd := S1.step kb iv
    refine ⟨Sd.len, iv, fun a h => List.mem_cons_of_mem _ (Sd.wO a h), fun a h => ?_, fun i c e => ?_, Sd.inj⟩
    · rcases List.mem_cons.mp h with h | h
      · exact ⟨_, by rw [h]; exact hw, ld_lst⟩
      · exact Sd.dom a h
    · have q0 := S1.cell i c e
      have up := cl kb
      rw [← ownE] at up
      cases c with
      | dat d => obtain ⟨x, e1, k⟩ := q0; exact ⟨x, e1, k.up up⟩
      | raw x => exact q0
      | lst ds =>
        obtain ⟨e1, n, xs, h1, h2⟩ := q0
        refine ⟨e1, fun z => ?_, xs, kb _ _ h1 (fun z => n (S1.wO _ z)) nt_lst, h2.up up⟩
        rcases List.mem_cons.mp z with z | z
        · rw [z, hD] at h1; cases h1
        · exact n z
      | dct kvs =>
        obtain ⟨e1, n, h1⟩ := q0
        refine ⟨e1, fun z => ?_, kb _ _ h1 (fun z => n (S1.wO _ z)) nt_dT⟩
        rcases List.mem_cons.mp z with z | z
        · rw [z, hD] at h1; cases h1
        · exact n z
  refine ⟨fun i m H2 => m = xs.length - i ∧ i ≤ xs.length ∧ Pv i H2, ⟨xs.length, by simp, Nat.zero_le _, Keep.new hD, M.grow S1.inv (upd_grow hD), [], [], upd_same, .nil, Nat.le_refl _, h0⟩, ?_⟩
  rintro i m H2 ⟨rfl, hi, p⟩
  have S2 := sit p
  have W2 : Wd M hd2 H2 := by
    have w := S2.wd
    rw [ownE] at w
    exact w
  obtain ⟨go, stop, yld⟩ := it hd2 H2 W2 (cl p.1)
  by_cases hlt : i < xs.length
  · refine .inr ⟨go i hlt, Pv (i + 1), fun H' p' => ⟨xs.length - (i + 1), by omega, rfl, hlt, p'⟩, fun x H' y => ?_⟩
    obtain ⟨d, hx, gr, hd'⟩ := yld i x H' hlt y
    obtain ⟨kk, iv, ws, acc, hw, hacc, hlen, hI⟩ := p
    have inv' := M.grow iv gr
    have up' : ∀ b o, hid hd2 H2 b = some o → Nt o → hid hd2 H' b = some o := fun b o e _ => by
      obtain ⟨q1, q2⟩ := hid_some.mp e
      exact hid_some.mpr ⟨q1, gr b o q2⟩
    have p' : Pv i H' := ⟨kk.trans (Keep.ext gr), inv', ws, acc, gr _ _ hw, hacc.up up', hlen, hI⟩
    have S3 := sit p'
    obtain ⟨S4, less4⟩ := S3.wipe vs
    -- what is owned is the same in the turn
    refine hs i d acc hx hI (D :: O) A (L2.wipe σ vs) H' x _ S4 (hd'.up fun b o e _ => ?_) fun Γ' σ2 ht S5 less5 same len5 => ?_
    · obtain ⟨q1, q2⟩ := hid_some.mp e
      exact hid_some.mpr ⟨fun z => q1 (ownE ▸ less4 b z), q2⟩
    have own5 : ∀ a, hd2 a → Own (D :: O) A Γ' a := fun a h => by
      rw [← ownE] at h
      refine h.elim .inl fun ⟨j, mj, ej⟩ => .inr ⟨j, ?_, ej⟩
      have nj : j ∉ vs := fun q => freeOf_not hf j q mj
      obtain ⟨c, e, m⟩ := mj
      exact ⟨c, by rw [(same j nj).2, wipeE_get vs j nj]; exact e, m⟩
    refine ⟨?_, ?_⟩
    · have l2 : σ2.length = σ.length := len5.trans (L2.wipe_length σ vs)
      exact wipe_eq l2 fun j hj => by rw [(same j hj).1, wipe_get, if_neg (fun z => hj z.1)]
    · refine ht (D :: O) A σ2 H' _ S5 fun b H3 hb k3 i3 => ?_
      have S6 := S5.step k3 i3
      have c3 : ∀ {Ha Hb : Hp}, Keep M.W Ha Hb → ∀ b o, hid hd2 Ha b = some o → Nt o → hid hd2 Hb b = some o := fun {Ha Hb} k b o e n => by
        obtain ⟨q1, q2⟩ := hid_some.mp e
        exact hid_some.mpr ⟨q1, k b o q2 (fun z => q1 (.inl (S1.wd.w b z))) n⟩
      have hw3 : H3 D = some (.lst ws) := k3 _ _ (gr _ _ hw) nW nt_lst
      have ha3 := (hacc.up up').up (c3 k3)
      cases b with
      | false => exact iteF ⟨(kk.trans (Keep.ext gr)).trans k3, i3, ws, acc, hw3, ha3, by omega, hb.1 rfl⟩
      | true =>
        refine iteT (hb.2 rfl (D :: O) A σ2 H3 _ S6 fun y e H4 pe k4 i4 he => ?_)
        have hw4 : H4 D = some (.lst ws) := k4 _ _ hw3 nW nt_lst
        have ha4 := ha3.up (c3 k4)
        have he4 : Dat (hid hd2 H4) y e := he.up fun b o q _ => by
          obtain ⟨q1, q2⟩ := hid_some.mp q
          exact hid_some.mpr ⟨fun z => q1 (own5 b z), q2⟩
        have lw : ws.length = acc.length := ha4.len
        have hidU : hid hd2 (upd H4 D (.lst (ws ++ [y]))) = hid hd2 H4 := by
          funext b
          unfold hid
          by_cases q : hd2 b
          · rw [if_pos q, if_pos q]
          · rw [if_neg q, if_neg q, upd_ne (fun z => q (.inr z))]
        refine ⟨ws, hw4, Nat.lt_of_lt_of_le (show ws.length < 100001 by omega) (by decide), ?_, M.wr _ _ _ _ i4 nW hw4 (.inl ⟨ws, rfl⟩), ws ++ [y], acc ++ [e], upd_same, ?_, by rw [List.length_append, List.length_singleton]; omega, pe⟩
        · intro b o q w n
          have nb : b ≠ D := ne_of_none q hD
          rw [upd_ne nb]
          exact (((kk.trans (Keep.ext gr)).trans k3).trans k4) b o q w n
        · rw [hidU]
          exact ha4.app (.cons he4 .nil)
  · have e : i = xs.length := by omega
    subst e
    obtain ⟨kk, iv, ws, acc, hw, hacc, hlen, hI⟩ := id p
    exact .inl ⟨stop, f D ws acc H2 (he acc hI) frD nO (k1.trans kk) iv hw hacc⟩
/-- no test: the list of f -/
theorem f_map {wi : TI} {g : TG} {vs : List Nat} (hf : freeOf Γ vs = true) (h : EvI M wi Γ fun xs => xs.length ≤ 100000 ∧ ∃ fn : PyData → PyData,
      (∀ (i : Nat) (x : PyData), xs[i]? = some x → EvG M g vs x (wipeE Γ vs) fun Γ' => EvD M te Γ' fun d => d = fn x) ∧ R (xs.map fn)) : EvF M (tLc wi g tYes te vs) Γ R :=
  f_lc hf fun O A σ H Q S f => h O A σ H Q S fun J xs H' ⟨hl, fn, h1, h2⟩ k i it => f J xs H' ⟨hl, fun i acc => acc = (xs.take i).map fn, rfl, fun i x acc hx ha => by
    refine fun O A σ H v Q s hh f => h1 i x hx O A σ H v Q s hh fun Γ' σ' p => f Γ' σ' fun O A σ H Q S ff => ff true H ⟨fun z => (nomatch z), fun _ => p.mono fun d hd => ?_⟩ Keep.refl S.inv
    dsimp only at ha ⊢
    rw [ha, hd, List.take_add_one, hx, List.map_append]
    rfl, fun acc ha => by dsimp only at ha; rw [ha, List.take_length]; exact h2⟩ k i it
/-- a test: the list of f of those that p takes -/
theorem f_filter {wi : TI} {g : TG} {tt : TT} {vs : List Nat} (hf : freeOf Γ vs = true) (h : EvI M wi Γ fun xs => xs.length ≤ 100000 ∧ ∃ (p : PyData → Bool) (fn : PyData → PyData),
      (∀ (i : Nat) (x : PyData), xs[i]? = some x → EvG M g vs x (wipeE Γ vs) fun Γ' => EvT M tt Γ' fun b => b = p x ∧ (b = true → EvD M te Γ' fun d => d = fn x)) ∧ R ((xs.filter p).map fn)) : EvF M (tLc wi g tt te vs) Γ R :=
  f_lc hf fun O A σ H Q S f => h O A σ H Q S fun J xs H' ⟨hl, p, fn, h1, h2⟩ k i it => f J xs H' ⟨hl, fun i acc => acc = ((xs.take i).filter p).map fn, rfl, fun i x acc hx ha => by
    refine fun O A σ H v Q s hh f => h1 i x hx O A σ H v Q s hh fun Γ' σ' q => f Γ' σ' (q.mono fun b ⟨eb, hb⟩ => ⟨fun e => ?_, fun e => (hb e).mono fun d hd => ?_⟩)
    · dsimp only at ha ⊢
      rw [ha, List.take_add_one, hx, List.filter_append]
      simp [← eb, e]
    · dsimp only at ha ⊢
      rw [ha, hd, List.take_add_one, hx, List.filter_append]
      simp [← eb, e], fun acc ha => by dsimp only at ha; rw [ha, List.take_length]; exact h2⟩ k i it
end
end K41
end
section
set_option linter.all false
set_option maxRecDepth 100000
/-! K41, layer D, fifth part: statements. -/
namespace K41
open PySem PySem.Spec PyProof.Rows L2
open Classical
/-- how a statement ends, by data -/
inductive Out where
  | nx (Γ : Env') | rt (d : PyData) | bk (Γ : Env') | ct (Γ : Env') | rd (kvs : List (List Key × V))
section
variable {T : List (Addr × Str)}
structure SitR (M : Am T) (H0 : Hp) (O : List Addr) (A : Nat → Addr) (Γ : Env') (σ : L2.St) (H : Hp) : Prop where
  sit : Sit M O A Γ σ H
  keep : Keep M.W H0 H
  fr : ∀ i, Mine Γ i → Fr H0 (A i)
variable {M : Am T} {H0 H H' : Hp} {O : List Addr} {A : Nat → Addr} {Γ : Env'} {σ : L2.St} {K : PySem.W.Frag}
theorem SitR.step (S : SitR M H0 O A Γ σ H) (k : Keep M.W H H') (hi : M.inv H') : SitR M H0 O A Γ σ H' := ⟨S.sit.step k hi, S.keep.trans k, S.fr⟩
/-- from O, A, Γ at H one may come to what P lets -/
structure Lands (M : Am T) (H0 : Hp) (O : List Addr) (A : Nat → Addr) (Γ : Env') (H : Hp) (P : Out → Prop) (D : Ends) : Prop where
  nx : ∀ Γ' A' σ' H', P (.nx Γ') → SitR M H0 O A' Γ' σ' H' → Cln (Own O A Γ) H (Own O A' Γ') H' → D.nx σ' H'
  rt : ∀ v d H', P (.rt d) → Keep M.W H0 H' → M.inv H' → Dat (hid (· ∈ O) H') v d → D.rt v H'
  bk : ∀ Γ' A' σ' H', P (.bk Γ') → SitR M H0 O A' Γ' σ' H' → Cln (Own O A Γ) H (Own O A' Γ') H' → D.bk σ' H'
  ct : ∀ Γ' A' σ' H', P (.ct Γ') → SitR M H0 O A' Γ' σ' H' → Cln (Own O A Γ) H (Own O A' Γ') H' → D.ct σ' H'
  rd : ∀ p kvs H', P (.rd kvs) → Keep M.W H0 H' → M.inv H' → p ∉ O → Fr H0 p → H' p = some (.dT kvs) → D.rt (.ref p) H'
def Run (M : Am T) (ts : TS) (Γ : Env') (P : Out → Prop) : Prop := ∀ H0 O A σ H D, SitR M H0 O A Γ σ H → Lands M H0 O A Γ H P D → ts D σ H
theorem Lands.from_ {Γ1 : Env'} {A1 : Nat → Addr} {H1 : Hp} {P : Out → Prop} {D : Ends} (L : Lands M H0 O A Γ H P D) (c : Cln (Own O A Γ) H (Own O A1 Γ1) H1) : Lands M H0 O A1 Γ1 H1 P D :=
  ⟨fun Γ' A' σ' H' p s c' => L.nx Γ' A' σ' H' p s (c.trans c'), L.rt, fun Γ' A' σ' H' p s c' => L.bk Γ' A' σ' H' p s (c.trans c'), fun Γ' A' σ' H' p s c' => L.ct Γ' A' σ' H' p s (c.trans c'), L.rd⟩
theorem SitR.cln (S : SitR M H0 O A Γ σ H) (k : Keep M.W H H') : Cln (Own O A Γ) H (Own O A Γ) H' := S.sit.wd.cln k
variable {P : Out → Prop} {t u : TS} {te ti ta tb : TE} {tt : TT} {wi : TI} {g : TG} {tA : TA}
theorem r_next (p : P (.nx Γ)) : Run M tNext Γ P := fun H0 O A σ H D S L => L.nx Γ A σ H p S Cln.refl
theorem r_cont (p : P (.ct Γ)) : Run M tCont Γ P := fun H0 O A σ H D S L => L.ct Γ A σ H p S Cln.refl
theorem r_brk (p : P (.bk Γ)) : Run M tBreak Γ P := fun H0 O A σ H D S L => L.bk Γ A σ H p S Cln.refl
/-- what a block wants of its first statement -/
def Seq' (M : Am T) (u : TS) (P : Out → Prop) : Out → Prop
  | .nx Γ1 => Run M u Γ1 P
  | o => P o
theorem r_seq (h : Run M t Γ (Seq' M u P)) : Run M (tSeq t u) Γ P := fun H0 O A σ H D S L =>
  h H0 O A σ H { D with nx := u D } S ⟨fun Γ' A' σ' H' p s c => p H0 O A' σ' H' D s (L.from_ c), L.rt, L.bk, L.ct, L.rd⟩
theorem Run.mono {P' : Out → Prop} (h : Run M t Γ P) (k : ∀ o, P o → P' o) : Run M t Γ P' := fun H0 O A σ H D S L =>
  h H0 O A σ H D S ⟨fun Γ' A' σ' H' p => L.nx Γ' A' σ' H' (k _ p), fun v d H' p => L.rt v d H' (k _ p), fun Γ' A' σ' H' p => L.bk Γ' A' σ' H' (k _ p), fun Γ' A' σ' H' p => L.ct Γ' A' σ' H' (k _ p), fun p kvs H' q => L.rd p kvs H' (k _ q)⟩
theorem r_if (h : EvT M tt Γ fun b => (b = true → Run M t Γ P) ∧ (b = false → Run M u Γ P)) : Run M (tIfS tt t u) Γ P := fun H0 O A σ H D S L =>
  h O A σ H _ S.sit fun b H1 ⟨h1, h0⟩ k i => by
    cases b with
    | true => exact iteT (h1 rfl H0 O A σ H1 D (S.step k i) (L.from_ (S.cln k)))
    | false => exact iteF (h0 rfl H0 O A σ H1 D (S.step k i) (L.from_ (S.cln k)))
theorem hid_less {P Q : Addr → Prop} (h : ∀ a, Q a → P a) : ∀ b o, hid P H b = some o → hid Q H b = some o := fun b o e => by
  obtain ⟨h1, h2⟩ := hid_some.mp e
  exact hid_some.mpr ⟨fun z => h1 (h b z), h2⟩
theorem r_ret (h : EvD M te Γ fun d => P (.rt d)) : Run M (tRet te) Γ P := fun H0 O A σ H D S L =>
  h O A σ H _ S.sit fun v d H1 p k i hh => L.rt v d H1 p (S.keep.trans k) i (hh.up fun b o e _ => hid_less (fun a h => .inl h) b o e)
/-- an owned dict is handed back -/
theorem r_retD {j : Nat} {kvs : List (List Key × V)} (h : Γ[j]? = some (some (.dct kvs))) (p : P (.rd kvs)) : Run M (tRet (tVar j)) Γ P := fun H0 O A σ H D S L => by
  obtain ⟨e, nO, h1⟩ := S.sit.cell j _ h
  exact ⟨_, e, L.rd (A j) kvs H p S.keep S.sit.inv nO (S.fr j ⟨_, h, trivial⟩) h1⟩
theorem r_retN (p : P (.rt .none)) : Run M tRetN Γ P := fun H0 O A σ H D S L => L.rt .non .none H p S.keep S.sit.inv .non
theorem r_drop (h : EvD M te Γ fun _ => P (.nx Γ)) : Run M (tDrop te) Γ P := fun H0 O A σ H D S L =>
  h O A σ H _ S.sit fun v d H1 p k i hh => L.nx Γ A σ H1 p (S.step k i) (S.cln k)
/-- any target -/
theorem r_asgG {S : List Nat} (h : EvD M te Γ fun d => EvG M g S d Γ fun Γ' => P (.nx Γ')) : Run M (tAsg te g) Γ P := fun H0 O A σ H D s L =>
  h O A σ H _ s.sit fun v d H1 hg k i hh => by
    have s1 := s.step k i
    refine hg O A σ H1 v _ s1.sit hh fun Γ' σ' p s2 less same len => ?_
    refine L.nx Γ' A σ' H1 p ⟨s2, s1.keep, fun j m => ?_⟩ ((s.cln k).trans fun b o e _ => hid_less less b o e)
    rcases less (A j) (.inr ⟨j, m, rfl⟩) with q | ⟨j', m', e⟩
    · exact absurd q (s2.at_ m).1
    · rw [← e]; exact s.fr j' m'
theorem r_asg {i : Nat} (h : EvD M te Γ fun d => P (.nx (Γ.set i (some (.dat d))))) : Run M (tAsg te (gName i)) Γ P :=
  r_asgG (S := [i]) (h.mono fun d p => g_name (by simp) p)
/-- a fresh list becomes the def's own -/
theorem Sit.putL {p : Addr} {j : Nat} {vs : List V} {ds : List PyData} (S : Sit M O A Γ σ H) (hj : j < Γ.length) (fr : Fr H p) (nO : ¬ Own O A Γ p) (k : Keep M.W H H') (i : M.inv H') (e : H' p = some (.lst vs)) (hd : Dats (hid (fun a => Own O A Γ a ∨ a = p) H') vs ds) :
    Sit M O (fun n => if n = j then p else A n) (Γ.set j (some (.lst ds))) (σ.set j (some (.ref p))) H' ∧
      (∀ a, Own O (fun n => if n = j then p else A n) (Γ.set j (some (.lst ds))) a → Own O A Γ a ∨ a = p) ∧
      Cln (Own O A Γ) H (Own O (fun n => if n = j then p else A n) (Γ.set j (some (.lst ds)))) H' := by
  have mi : ∀ n, n ≠ j → Mine (Γ.set j (some (.lst ds))) n → Mine Γ n := fun n hn ⟨c, e, m⟩ => ⟨c, by rw [List.getElem?_set_ne (Ne.symm hn)] at e; exact e, m⟩
  have less : ∀ a, Own O (fun n => if n = j then p else A n) (Γ.set j (some (.lst ds))) a → Own O A Γ a ∨ a = p := fun a h => by
    rcases h with h | ⟨n, m, en⟩
    · exact .inl (.inl h)
    · dsimp only at en
      by_cases q : n = j
      · rw [if_pos q] at en; exact .inr en.symm
      · rw [if_neg q] at en; exact .inl (.inr ⟨n, mi n q m, en⟩)
  have cln : Cln (Own O A Γ) H (Own O (fun n => if n = j then p else A n) (Γ.set j (some (.lst ds)))) H' := fun b o eb n => by
    obtain ⟨h1, h2⟩ := hid_some.mp eb
    refine hid_some.mpr ⟨fun z => (less b z).elim h1 fun q => fr o (q ▸ h2) n, k b o h2 (fun q => h1 (S.wd.w b q)) n⟩
  have S1 := S.step k i
  refine ⟨⟨by rw [List.length_set, List.length_set]; exact S.len, i, S.wO, S1.dom, fun n c ec => ?_, fun n n' m m' en => ?_⟩, less, cln⟩
  · by_cases q : n = j
    · subst q
      rw [List.getElem?_set_self hj] at ec
      cases Option.some.inj (Option.some.inj ec)
      rw [List.getElem?_set_self (by rw [S.len]; exact hj)]
      refine ⟨by rw [if_pos rfl], by rw [if_pos rfl]; exact fun z => nO (.inl z), vs, by rw [if_pos rfl]; exact e, hd.up fun b o eb _ => ?_⟩
      exact hid_less less b o eb
    · rw [List.getElem?_set_ne (Ne.symm q)] at ec
      rw [List.getElem?_set_ne (Ne.symm q), if_neg q]
      have q0 := S.cell n c ec
      have q1 := S1.cell n c ec
      cases c with
      | dat d => obtain ⟨x, e1, h1⟩ := q0; exact ⟨x, e1, h1.up cln⟩
      | raw x => exact q0
      | lst es =>
        obtain ⟨e1, n1, xs, h1, h2⟩ := q0
        obtain ⟨_, _, xs', h1', _⟩ := q1
        exact ⟨e1, n1, xs, k _ _ h1 (fun z => n1 (S.wO _ z)) nt_lst, h2.up cln⟩
      | dct kvs => exact ⟨q1.1, q1.2.1, q1.2.2⟩
  · have big : ∀ n, n ≠ j → Mine (Γ.set j (some (.lst ds))) n → A n ≠ p := fun n hn m z => nO (.inr ⟨n, mi n hn m, z⟩)
    by_cases q : n = j <;> by_cases q' : n' = j
    · rw [q, q']
    · rw [if_pos q, if_neg q'] at en; exact absurd en.symm (big n' q' m')
    · rw [if_neg q, if_pos q'] at en; exact absurd en (big n q m)
    · rw [if_neg q, if_neg q'] at en; exact S.inj n n' (mi n q m) (mi n' q' m') en
theorem SitR.putL {p : Addr} {j : Nat} {vs : List V} {ds : List PyData} (S : SitR M H0 O A Γ σ H) (hj : j < Γ.length) (fr : Fr H p) (nO : ¬ Own O A Γ p) (k : Keep M.W H H') (i : M.inv H') (e : H' p = some (.lst vs)) (hd : Dats (hid (fun a => Own O A Γ a ∨ a = p) H') vs ds) :
    SitR M H0 O (fun n => if n = j then p else A n) (Γ.set j (some (.lst ds))) (σ.set j (some (.ref p))) H' ∧ Cln (Own O A Γ) H (Own O (fun n => if n = j then p else A n) (Γ.set j (some (.lst ds)))) H' := by
  obtain ⟨h1, h2, h3⟩ := S.sit.putL hj fr nO k i e hd
  refine ⟨⟨h1, S.keep.trans k, fun n m => ?_⟩, h3⟩
  by_cases q : n = j
  · rw [if_pos q]
    exact Fr.back S.keep (fun z => nO (.inl (S.sit.wO p z))) fr
  · rw [if_neg q]
    obtain ⟨c, ec, mc⟩ := m
    exact S.fr n ⟨c, by rw [List.getElem?_set_ne (Ne.symm q)] at ec; exact ec, mc⟩
theorem r_asgF {j : Nat} (hj : j < Γ.length) (h : EvF M te Γ fun ds => P (.nx (Γ.set j (some (.lst ds))))) : Run M (tAsg te (gName j)) Γ P := fun H0 O A σ H D S L =>
  h O A σ H _ S.sit fun p vs ds H' pp fr nO k i e hd => by
    obtain ⟨s, c⟩ := S.putL hj fr nO k i e hd
    exact L.nx _ _ _ H' pp s c
/-- what is owned may be given up: it is data from then on -/
theorem SitR.freeze {j : Nat} {ds : List PyData} (S : SitR M H0 O A Γ σ H) (h : Γ[j]? = some (some (.lst ds))) : SitR M H0 O A (Γ.set j (some (.dat (.list ds)))) σ H ∧ ∀ a, Own O A (Γ.set j (some (.dat (.list ds)))) a → Own O A Γ a := by
  have hc := S.sit.cell j _ h
  obtain ⟨e, nO, xs, h1, h2⟩ := hc
  have less : ∀ a, Own O A (Γ.set j (some (.dat (.list ds)))) a → Own O A Γ a ∧ a ≠ A j := fun a q => by
    rcases q with q | ⟨n, m, en⟩
    · exact ⟨.inl q, fun z => nO (z ▸ q)⟩
    · obtain ⟨m', hn⟩ := mine_set (c := some (.dat (.list ds))) (fun x e => by cases e; exact id) m
      exact ⟨.inr ⟨n, m', en⟩, fun z => hn (S.sit.inj n j m' ⟨_, h, trivial⟩ (en.trans z))⟩
  have hl : j < σ.length := by rw [S.sit.len]; exact (List.getElem?_eq_some_iff.mp h).1
  have es : σ.set j (some (.ref (A j))) = σ := by
    apply List.ext_getElem?
    intro n
    by_cases q : j = n
    · subst q; rw [List.getElem?_set_self hl, e]
    · rw [List.getElem?_set_ne q]
  have up := hid_less (H := H) (fun a q => (less a q).1)
  refine ⟨⟨⟨by rw [List.length_set]; exact S.sit.len, S.sit.inv, S.sit.wO, S.sit.dom, fun n c ec => ?_, fun n n' m m' en => ?_⟩, S.keep, fun n m => ?_⟩, fun a q => (less a q).1⟩
  · by_cases q : n = j
    · subst q
      rw [List.getElem?_set_self (by rw [← S.sit.len]; exact hl)] at ec
      cases Option.some.inj (Option.some.inj ec)
      exact ⟨.ref (A n), e, .lst (hid_some.mpr ⟨fun z => (less _ z).2 rfl, h1⟩) (h2.up fun b o eb _ => up b o eb)⟩
    · rw [List.getElem?_set_ne (Ne.symm q)] at ec
      exact (S.sit.cell n c ec).less fun a q => (less a q).1
  · exact S.sit.inj n n' (mine_set (c := some (.dat (.list ds))) (fun x e => by cases e; exact id) m).1 (mine_set (c := some (.dat (.list ds))) (fun x e => by cases e; exact id) m').1 en
  · exact S.fr n (mine_set (c := some (.dat (.list ds))) (fun x e => by cases e; exact id) m).1
theorem r_freeze {j : Nat} {ds : List PyData} (h : Γ[j]? = some (some (.lst ds))) (r : Run M t (Γ.set j (some (.dat (.list ds)))) P) : Run M t Γ P := fun H0 O A σ H D S L => by
  obtain ⟨s, less⟩ := S.freeze h
  exact r H0 O A σ H D s (L.from_ fun b o e _ => hid_less less b o e)
/-- reading an owned list as data while nothing but scalars comes out -/
theorem Sit.peek {j : Nat} {ds : List PyData} (S : Sit M O A Γ σ H) (h : Γ[j]? = some (some (.lst ds))) : Sit M O A (Γ.set j (some (.dat (.list ds)))) σ H ∧ ∀ a, Own O A (Γ.set j (some (.dat (.list ds)))) a → Own O A Γ a := by
  obtain ⟨s, l⟩ := SitR.freeze (H0 := fun _ => none) ⟨S, fun b o e => (nomatch e), fun i _ o e => (nomatch e)⟩ h
  exact ⟨s.sit, l⟩
theorem t_peek {j : Nat} {ds : List PyData} {R : Bool → Prop} (h : Γ[j]? = some (some (.lst ds))) (r : EvT M tt (Γ.set j (some (.dat (.list ds)))) R) : EvT M tt Γ R := fun O A σ H Q S f =>
  r O A σ H Q (S.peek h).1 f
theorem d_peek {j : Nat} {ds : List PyData} {R : PyData → Prop} (h : Γ[j]? = some (some (.lst ds))) (r : EvD M te (Γ.set j (some (.dat (.list ds)))) fun d => IsSc d ∧ R d) : EvD M te Γ R := fun O A σ H Q S f =>
  r O A σ H Q (S.peek h).1 fun v d H' ⟨s, p⟩ k i hh => f v d H' p k i (hh.sc s).dat
theorem f_peek {j : Nat} {ds : List PyData} {R : List PyData → Prop} (h : Γ[j]? = some (some (.lst ds))) (r : EvF M te (Γ.set j (some (.dat (.list ds)))) fun es => (∀ d ∈ es, IsSc d) ∧ R es) : EvF M te Γ R := fun O A σ H Q S f =>
  r O A σ H Q (S.peek h).1 fun p vs es H' ⟨s, pp⟩ fr nO k i e hd => f p vs es H' pp fr (fun q => by
    rcases q with q | ⟨n, m, en⟩
    · exact nO (.inl q)
    · by_cases z : n = j
      · have hc := S.cell j _ h
        obtain ⟨_, _, xs, h1, _⟩ := hc
        rw [z] at en
        rw [← en] at fr
        exact fr _ h1 nt_lst
      · obtain ⟨c, ec, mc⟩ := m
        exact nO (.inr ⟨n, ⟨c, by rw [List.getElem?_set_ne (Ne.symm z)]; exact ec, mc⟩, en⟩)) k i e (hd.sc s)
/-- an item of an owned list -/
theorem d_ixOwn {j : Nat} {ds : List PyData} {R : PyData → Prop} (h : Γ[j]? = some (some (.lst ds))) (r : EvD M ti Γ fun k => ∃ (n : Nat) (d : PyData), k = .int (n : Int) ∧ ds[n]? = some d ∧ R d) : EvD M (tOp (rIxL K) (tVar j) ti) Γ R := fun O A σ H Q S f => by
  have hc := S.cell j _ h
  refine ⟨_, hc.1, r O A σ H _ S fun v kd H1 ⟨n, d, e, hn, p⟩ k i hh => ?_⟩
  subst e
  have S1 := S.step k i
  obtain ⟨e1, nO, xs, h1, h2⟩ := S1.cell j _ h
  obtain ⟨x, hx, hd⟩ := h2.get2 hn
  exact ⟨A j, xs, (n : Int), x, rfl, hh.intAt, SqL.of h1, atI_nat hx, f x d H1 p k i hd⟩
/-! ### changing what is owned -/
theorem SitR.write {j : Nat} {c c' : Cell} {o' : HO} (S : SitR M H0 O A Γ σ H) (h : Γ[j]? = some (some c)) (m : c.mine) (m' : c'.mine) (hc' : CellAt' (Own O A Γ) O (A j) (upd H (A j) o') (some (some (.ref (A j)))) c') (hσ : σ[j]? = some (some (.ref (A j)))) :
    SitR M H0 O A (Γ.set j (some c')) σ (upd H (A j) o') ∧ Cln (Own O A Γ) H (Own O A (Γ.set j (some c'))) (upd H (A j) o') := by
  have mj : Mine Γ j := ⟨c, h, m⟩
  obtain ⟨nO, hw⟩ := S.sit.at_ mj
  have hj : j < Γ.length := (List.getElem?_eq_some_iff.mp h).1
  have mi : ∀ n, Mine (Γ.set j (some c')) n ↔ Mine Γ n := fun n => by
    by_cases q : j = n
    · subst q
      exact ⟨fun _ => mj, fun _ => ⟨c', List.getElem?_set_self hj, m'⟩⟩
    · exact ⟨fun ⟨c, e, m⟩ => ⟨c, by rw [List.getElem?_set_ne q] at e; exact e, m⟩, fun ⟨c, e, m⟩ => ⟨c, by rw [List.getElem?_set_ne q]; exact e, m⟩⟩
  have own : Own O A (Γ.set j (some c')) = Own O A Γ := funext fun a => propext ⟨fun q => q.elim .inl fun ⟨n, m, e⟩ => .inr ⟨n, (mi n).mp m, e⟩, fun q => q.elim .inl fun ⟨n, m, e⟩ => .inr ⟨n, (mi n).mpr m, e⟩⟩
  have oj : Own O A Γ (A j) := .inr ⟨j, mj, rfl⟩
  have hidE : hid (Own O A Γ) (upd H (A j) o') = hid (Own O A Γ) H := by
    funext b
    unfold hid
    by_cases q : Own O A Γ b
    · rw [if_pos q, if_pos q]
    · rw [if_neg q, if_neg q, upd_ne (fun (z : b = A j) => q (by rw [z]; exact oj))]
  have nW : A j ∉ M.W := fun z => nO (S.sit.wO _ z)
  have inv : M.inv (upd H (A j) o') := by
    rcases hw with ⟨xs, hx⟩ | ⟨kvs, hx⟩
    · exact M.wr _ _ _ _ S.sit.inv nW hx (.inl ⟨xs, rfl⟩)
    · exact M.wr _ _ _ _ S.sit.inv nW hx (.inr ⟨kvs, rfl⟩)
  refine ⟨⟨⟨by rw [List.length_set]; exact S.sit.len, inv, S.sit.wO, fun a ha => ?_, fun n x e => ?_, fun n n' a b => S.sit.inj n n' ((mi n).mp a) ((mi n').mp b)⟩, fun b o e w n => ?_, fun n a => S.fr n ((mi n).mp a)⟩, fun b o e n => ?_⟩
  · obtain ⟨o, e, n⟩ := S.sit.dom a ha
    exact ⟨o, by rw [upd_ne (fun (z : a = A j) => nO (by rw [← z]; exact ha))]; exact e, n⟩
  · rw [own]
    by_cases q : j = n
    · subst q
      rw [List.getElem?_set_self hj] at e
      cases Option.some.inj (Option.some.inj e)
      rw [hσ]
      exact hc'
    · rw [List.getElem?_set_ne q] at e
      have z := S.sit.cell n x e
      cases x with
      | dat d => obtain ⟨y, e1, h1⟩ := z; exact ⟨y, e1, by rw [hidE]; exact h1⟩
      | raw y => exact z
      | lst ds =>
        obtain ⟨e1, n1, xs, h1, h2⟩ := z
        have ne : A n ≠ A j := fun ee => q (S.sit.inj n j ⟨_, e, trivial⟩ mj ee).symm
        exact ⟨e1, n1, xs, by rw [upd_ne ne]; exact h1, by rw [hidE]; exact h2⟩
      | dct kvs =>
        obtain ⟨e1, n1, h1⟩ := z
        have ne : A n ≠ A j := fun ee => q (S.sit.inj n j ⟨_, e, trivial⟩ mj ee).symm
        exact ⟨e1, n1, by rw [upd_ne ne]; exact h1⟩
  · rw [upd_ne (fun (z : b = A j) => S.fr j mj o (by rw [← z]; exact e) n)]
    exact S.keep b o e w n
  · rw [own, hidE]
    exact e
theorem SitR.writeL {j : Nat} {ds es : List PyData} {ws : List V} (S : SitR M H0 O A Γ σ H) (h : Γ[j]? = some (some (.lst ds))) (k : Dats (hid (Own O A Γ) H) ws es) :
    SitR M H0 O A (Γ.set j (some (.lst es))) σ (upd H (A j) (.lst ws)) ∧ Cln (Own O A Γ) H (Own O A (Γ.set j (some (.lst es)))) (upd H (A j) (.lst ws)) := by
  have hc := S.sit.cell j _ h
  refine S.write h trivial trivial ⟨rfl, hc.2.1, ws, upd_same, k.up fun b o e _ => ?_⟩ hc.1
  obtain ⟨h1, h2⟩ := hid_some.mp e
  exact hid_some.mpr ⟨h1, by rw [upd_ne (fun (z : b = A j) => h1 (by rw [z]; exact .inr ⟨j, ⟨_, h, trivial⟩, rfl⟩))]; exact h2⟩
theorem r_app {j : Nat} {ds : List PyData} (h : Γ[j]? = some (some (.lst ds))) (hl : ds.length < 1000) (r : EvD M te Γ fun d => P (.nx (Γ.set j (some (.lst (ds ++ [d])))))) : Run M (tDrop (tBM K "list" rAppend (tVar j) (tCons te tNil))) Γ P := fun H0 O A σ H D S L => by
  obtain ⟨e1, _, xs0, h0, _⟩ := S.sit.cell j _ h
  refine ⟨_, e1, .inl ⟨rfl, _, SqL.of h0⟩, r O A σ H _ S.sit fun v d H1 p k i hh => ?_⟩
  have S1 := S.step k i
  obtain ⟨_, _, xs, h1, h2⟩ := S1.sit.cell j _ h
  refine ⟨A j, xs, v, rfl, rfl, h1, by rw [h2.len]; exact small1000 (by omega), ?_⟩
  obtain ⟨s, c⟩ := S1.writeL h (h2.app (.cons hh .nil))
  exact L.nx _ A σ _ p s ((S.cln k).trans c)
theorem Dats.setAt {H : Hp} : ∀ {ds : List PyData} {vs : List V} (n : Nat) {v : V} {d : PyData}, Dats H vs ds → Dat H v d → Dats H (vs.set n v) (ds.set n d)
  | [], _, _, _, _, h, _ => by cases h; exact .nil
  | _ :: _, _, 0, _, _, h, k => by cases h with | cons _ t => exact .cons k t
  | _ :: _, _, n + 1, _, _, h, k => by cases h with | cons a t => exact .cons a (Dats.setAt n t k)
theorem ixN_nat {n k : Nat} (h : k < n) : ixN n (k : Int) = some k := by
  unfold ixN
  rw [if_pos (by omega), if_pos (by omega), Int.toNat_natCast]
theorem r_setL {j : Nat} {ds : List PyData} (h : Γ[j]? = some (some (.lst ds))) (r : EvD M te Γ fun d => EvD M ti Γ fun k => ∃ n : Nat, k = .int (n : Int) ∧ n < ds.length ∧ P (.nx (Γ.set j (some (.lst (ds.set n d)))))) :
    Run M (tAsg te (gSub (tVar j) ti rSetL)) Γ P := fun H0 O A σ H D S L => r O A σ H _ S.sit fun v d H1 hi k1 i1 hh => by
  have S1 := S.step k1 i1
  refine ⟨_, (S1.sit.cell j _ h).1, hi O A σ H1 _ S1.sit fun w kd H2 ⟨n, e, hn, p⟩ k2 i2 hw => ?_⟩
  subst e
  have S2 := S1.step k2 i2
  obtain ⟨_, _, xs, h1, h2⟩ := S2.sit.cell j _ h
  refine ⟨A j, xs, (n : Int), n, rfl, hw.intAt, h1, ixN_nat (by rw [h2.len]; exact hn), ?_⟩
  obtain ⟨s, c⟩ := S2.writeL h (h2.setAt n (hh.up (S1.cln k2)))
  exact L.nx _ A σ _ p s (((S.cln k1).trans (S1.cln k2)).trans c)
/-! ### loops -/
def Turn' (Iv : Env' → Prop) (P : Out → Prop) : Out → Prop
  | .nx Γ => Iv Γ
  | .ct Γ => Iv Γ
  | .bk Γ => P (.nx Γ)
  | .rt d => P (.rt d)
  | .rd kvs => P (.rd kvs)
theorem r_for (h : EvI M wi Γ fun xs => ∃ Iv : Nat → Env' → Prop, Iv 0 Γ ∧ (∀ (i : Nat) (x : PyData) (Γ1 : Env'), xs[i]? = some x → Iv i Γ1 → ∃ S, EvG M g S x Γ1 fun Γ2 => Run M t Γ2 (Turn' (Iv (i + 1)) P)) ∧ ∀ Γ1, Iv xs.length Γ1 → P (.nx Γ1)) :
    Run M (tFor wi g t) Γ P := fun H0 O A σ H D S L => h O A σ H _ S.sit fun J xs H1 ⟨Iv, h0, hs, he⟩ k1 i1 it => by
  have S1 := S.step k1 i1
  refine ⟨fun i m σ2 H2 => m = xs.length - i ∧ i ≤ xs.length ∧ ∃ A2 Γ2, Iv i Γ2 ∧ SitR M H0 O A2 Γ2 σ2 H2 ∧ Cln (Own O A Γ) H1 (Own O A2 Γ2) H2, ⟨xs.length, by simp, Nat.zero_le _, A, Γ, h0, S1, Cln.refl⟩, ?_⟩
  rintro i m σ2 H2 ⟨rfl, hi, A2, Γ2, inv, S2, c2⟩
  obtain ⟨go, stop, yld⟩ := it _ H2 S2.sit.wd c2
  by_cases hlt : i < xs.length
  · refine .inr ⟨go i hlt, fun σ' H' => ∃ A3 Γ3, Iv (i + 1) Γ3 ∧ SitR M H0 O A3 Γ3 σ' H' ∧ Cln (Own O A Γ) H1 (Own O A3 Γ3) H', fun σ' H' q => ⟨xs.length - (i + 1), by omega, rfl, hlt, q⟩, fun x H' y => ?_⟩
    obtain ⟨d, hx, gr, hd⟩ := yld i x H' hlt y
    obtain ⟨Sl, hg⟩ := hs i d Γ2 hx inv
    have S3 : SitR M H0 O A2 Γ2 σ2 H' := S2.step (Keep.ext gr) (M.grow S2.sit.inv gr)
    have c3 : Cln (Own O A2 Γ2) H2 (Own O A2 Γ2) H' := S2.cln (Keep.ext gr)
    refine hg O A2 σ2 H' x _ S3.sit hd fun Γ4 σ4 r s4 less same len => ?_
    have S4 : SitR M H0 O A2 Γ4 σ4 H' := ⟨s4, S3.keep, fun j m => by
      rcases less (A2 j) (.inr ⟨j, m, rfl⟩) with q | ⟨j', m', e⟩
      · exact absurd q (s4.at_ m).1
      · rw [← e]; exact S3.fr j' m'⟩
    have c4 : Cln (Own O A Γ) H1 (Own O A2 Γ4) H' := (c2.trans c3).trans fun b o e _ => hid_less less b o e
    have c5 : Cln (Own O A Γ) H (Own O A2 Γ4) H' := (S.cln k1).trans c4
    exact r H0 O A2 σ4 H' _ S4 ⟨fun Γ' A' σ' H'' p s c => ⟨A', Γ', p, s, c4.trans c⟩, L.rt, fun Γ' A' σ' H'' p s c => L.nx Γ' A' σ' H'' p s (c5.trans c), fun Γ' A' σ' H'' p s c => ⟨A', Γ', p, s, c4.trans c⟩, L.rd⟩
  · have e : i = xs.length := by omega
    subst e
    exact .inl ⟨stop, L.nx Γ2 A2 σ2 H2 (he Γ2 inv) S2 ((S.cln k1).trans c2)⟩
theorem r_while (Iv : Nat → Env' → Prop) (h0 : ∃ m, Iv m Γ) (hs : ∀ m Γ1, Iv m Γ1 → EvT M tt Γ1 fun b => (b = true → Run M t Γ1 (Turn' (fun Γ2 => ∃ m', m' < m ∧ Iv m' Γ2) P)) ∧ (b = false → P (.nx Γ1))) : Run M (tWhile tt t) Γ P := fun H0 O A σ H D S L => by
  obtain ⟨m0, h0⟩ := h0
  refine ⟨fun m σ2 H2 => ∃ A2 Γ2, Iv m Γ2 ∧ SitR M H0 O A2 Γ2 σ2 H2 ∧ Cln (Own O A Γ) H (Own O A2 Γ2) H2, ⟨m0, A, Γ, h0, S, Cln.refl⟩, ?_⟩
  rintro m σ2 H2 ⟨A2, Γ2, inv, S2, c2⟩
  refine hs m Γ2 inv O A2 σ2 H2 _ S2.sit fun b H3 ⟨h1, h0⟩ k i => ?_
  have S3 := S2.step k i
  have c3 := c2.trans (S2.cln k)
  cases b with
  | true =>
    refine iteT ⟨fun σ' H' => ∃ m', m' < m ∧ ∃ A3 Γ3, Iv m' Γ3 ∧ SitR M H0 O A3 Γ3 σ' H' ∧ Cln (Own O A Γ) H (Own O A3 Γ3) H', fun σ' H' q => q, ?_⟩
    exact h1 rfl H0 O A2 σ2 H3 _ S3 ⟨fun Γ' A' σ' H'' ⟨m', hm, p⟩ s c => ⟨m', hm, A', Γ', p, s, c3.trans c⟩, L.rt, fun Γ' A' σ' H'' p s c => L.nx Γ' A' σ' H'' p s (c3.trans c), fun Γ' A' σ' H'' ⟨m', hm, p⟩ s c => ⟨m', hm, A', Γ', p, s, c3.trans c⟩, L.rd⟩
  | false => exact iteF (L.nx Γ2 A2 σ2 H3 (h0 rfl) S3 c3)
/-! ### two names at once -/
theorem r_par {i j : Nat} (h : EvA M tA Γ fun ds => ∃ d e, ds = [d, e] ∧ P (.nx ((Γ.set i (some (.dat d))).set j (some (.dat e))))) : Run M (tPar i j tA) Γ P := fun H0 O A σ H D S L =>
  h O A σ H _ S.sit fun vs ds H1 ⟨d, e, eq, p⟩ k hi hs => by
    subst eq
    obtain ⟨x, y, rfl, hx, hy⟩ := hs.two
    have S1 := S.step k hi
    obtain ⟨s2, l2⟩ := S1.sit.put (j := i) (c := some (.dat d)) (v := some x) (fun z e => by cases e; exact id) fun z e => by cases e; exact ⟨x, rfl, hx⟩
    obtain ⟨s3, l3⟩ := s2.put (j := j) (c := some (.dat e)) (v := some y) (fun z e => by cases e; exact id) fun z e => by cases e; exact ⟨y, rfl, hy.up fun b o q _ => hid_less l2 b o q⟩
    refine ⟨x, y, rfl, L.nx _ A _ H1 p ⟨s3, S1.keep, fun n m => ?_⟩ ((S.cln k).trans fun b o e _ => hid_less (fun a q => l2 a (l3 a q)) b o e)⟩
    have m2 := (mine_set (c := some (.dat e)) (fun x e => by cases e; exact id) m).1
    exact S.fr n (mine_set (c := some (.dat d)) (fun x e => by cases e; exact id) m2).1
/-- data and a fresh list -/
theorem r_parF {i j : Nat} (hij : i ≠ j) (hj : j < Γ.length) (h : EvD M ta Γ fun d => EvF M tb Γ fun ds => P (.nx ((Γ.set i (some (.dat d))).set j (some (.lst ds))))) : Run M (tPar i j (tCons ta (tCons tb tNil))) Γ P := fun H0 O A σ H D S L =>
  h O A σ H _ S.sit fun x d H1 hf k1 i1 hx => hf O A σ H1 _ (S.step k1 i1).sit fun p vs ds H2 pp fr nO k2 i2 e hd => by
    have S1 := S.step k1 i1
    obtain ⟨s1, l1⟩ := S1.sit.put (j := i) (c := some (.dat d)) (v := some x) (fun z e => by cases e; exact id) fun z e => by cases e; exact ⟨x, rfl, hx⟩
    have S2 : SitR M H0 O A (Γ.set i (some (.dat d))) (σ.set i (some x)) H1 := ⟨s1, S1.keep, fun n m => S.fr n (mine_set (c := some (.dat d)) (fun x e => by cases e; exact id) m).1⟩
    obtain ⟨s3, c3⟩ := S2.putL (j := j) (by rw [List.length_set]; exact hj) fr (fun q => nO (l1 p q)) k2 i2 e (hd.up fun b o q _ => hid_less (fun a z => z.elim (fun z => .inl (l1 a z)) .inr) b o q)
    exact ⟨x, .ref p, rfl, L.nx _ _ _ H2 pp s3 (((S.cln k1).trans fun b o e _ => hid_less l1 b o e).trans c3)⟩
/-- two fresh lists -/
theorem r_parFF {i j : Nat} (hij : i ≠ j) (hi : i < Γ.length) (hj : j < Γ.length) (h : EvF M ta Γ fun ds => EvF M tb (Γ.set i (some (.lst ds))) fun es => P (.nx ((Γ.set i (some (.lst ds))).set j (some (.lst es)))))
    (hb : ∀ (σ : L2.St) (x : Option V) (H : Hp) (Q : VK), tb (σ.set i x) H Q → tb σ H Q) : Run M (tPar i j (tCons ta (tCons tb tNil))) Γ P := fun H0 O A σ H D S L =>
  h O A σ H _ S.sit fun p vs ds H1 hf fr1 nO1 k1 i1 e1 hd1 => by
    obtain ⟨s1, c1⟩ := S.putL hi fr1 nO1 k1 i1 e1 hd1
    refine hb σ (some (.ref p)) H1 _ (hf O _ _ H1 _ s1.sit fun q ws es H2 pp fr nO k2 i2 e hd => ?_)
    obtain ⟨s3, c3⟩ := s1.putL (j := j) (by rw [List.length_set]; exact hj) fr nO k2 i2 e hd
    exact ⟨.ref p, .ref q, rfl, L.nx _ _ _ H2 pp s3 (c1.trans c3)⟩
end
end K41
end
section
set_option linter.all false
set_option maxRecDepth 100000
/-! K41, layer D, sixth part: a pure def by its body; dicts. -/
namespace K41
open PySem PySem.Spec PyProof.Rows L2
open Classical
def startE (N : List Str) (ds : List PyData) : Env' := ds.map (fun d => some (.dat d)) ++ List.replicate (N.length - ds.length) none
def Fin' (post : PyData → Prop) : Out → Prop
  | .rt d => post d
  | .nx _ => post .none
  | _ => False
theorem mine_start {N : List Str} {ds : List PyData} {i : Nat} : ¬ Mine (startE N ds) i := fun ⟨c, e, m⟩ => by
  unfold startE at e
  rw [List.getElem?_append] at e
  split at e
  · rw [List.getElem?_map] at e
    cases h : ds[i]? with
    | none => rw [h] at e; cases e
    | some d =>
      rw [h] at e
      cases Option.some.inj (Option.some.inj e)
      exact m
  · rw [List.getElem?_replicate] at e
    split at e <;> cases e
theorem sit_start {T : List (Addr × Str)} {M : Am T} {own : List Addr} {H : Hp} {N : List Str} {vs : List V} {ds : List PyData} (hi : M.inv H) (hw : ∀ a ∈ M.W, a ∈ own) (hd : ∀ a ∈ own, ∃ o, H a = some o ∧ Ld o) (h : Dats (hid (· ∈ own) H) vs ds) :
    SitR M H own (fun _ => 0) (startE N ds) (L2.start N vs) H := by
  have ho : Own own (fun _ => 0) (startE N ds) = (· ∈ own) := funext fun a => propext ⟨fun q => q.elim id fun ⟨i, m, _⟩ => absurd m mine_start, .inl⟩
  refine ⟨⟨?_, hi, hw, hd, fun i c e => ?_, fun i j m => absurd m mine_start⟩, Keep.refl, fun i m => absurd m mine_start⟩
  · unfold L2.start startE
    rw [List.length_append, List.length_append, List.length_map, List.length_map, List.length_replicate, List.length_replicate, h.len]
  · rw [ho]
    unfold startE at e
    rw [List.getElem?_append] at e
    split at e
    · rename_i hl
      rw [List.length_map] at hl
      rw [List.getElem?_map, List.getElem?_eq_getElem hl] at e
      cases Option.some.inj (Option.some.inj e)
      obtain ⟨v, hv, hd⟩ := h.get2 (List.getElem?_eq_getElem hl)
      refine ⟨v, ?_, hd⟩
      unfold L2.start
      rw [List.getElem?_append_left (by rw [List.length_map, h.len]; exact hl), List.getElem?_map, hv]
      rfl
    · rw [List.getElem?_replicate] at e
      split at e <;> cases e
section
variable {T : List (Addr × Str)} {P : Program} {w : World} {K : PySem.W.Frag} {mg : Str → Option Value} {base : Heap}
theorem fn_D {ι : Type} {x : Str} {st : Stmt} {f : Addr} {fd : FuncData} {N ps : List Str} {k : Nat} {ok : ι → Prop} {args : ι → List PyData} {post : ι → PyData → Prop} (F : Fun K x x st f fd) (S : FnScope N ps (defScope st)) (hlen : ∀ i, (args i).length = ps.length)
    (body : ∀ (cdv : Value) (A : Around) (outer : List Env) (s : Shared) (H : Hp) (E : XK), Room k (A.deeper (envOfC x (defScope st) s.heap.objs.size f cdv)) →
      ∃ t, PSs (cxOf CX0 P w K mg base N x (defScope st) f cdv A outer s H E).nox (defBody st) t ∧ ∀ i, ok i → Run (Am0 T) t (startE N (args i)) (Fin' (post i))) :
    FnOk P w K mg base CX0 (k + 1) f fd ps (spD T ok args post) := by
  refine F.ok S (fun vs H Q E ⟨i, own, _, _, _, hs, _⟩ => by rw [hs.len]; exact hlen i) fun cdv A outer s H vs Q E hr ⟨i, own, hp, hd, ht, hs, q⟩ => ?_
  obtain ⟨t, h1, h2⟩ := body cdv A outer s H E hr
  refine ⟨t, h1, h2 i hp H own (fun _ => 0) _ H _ (sit_start (M := Am0 T) ht (fun _ h => nomatch h) hd hs) ⟨fun Γ' A' σ' H' p s c => ?_, fun v d H' p k i hh => q v d H' p k i hh, fun _ _ _ _ p => False.elim p, fun _ _ _ _ p => False.elim p, fun _ _ _ p => False.elim p⟩⟩
  exact q .non .none H' p s.keep s.sit.inv .non
end
/-! ### dicts keyed by tuples of ints -/
def kI (ns : List Int) : List Key := ns.map Sum.inl
theorem kI_V (ns : List Int) : (kI ns).map kV = ns.map V.int := by
  unfold kI
  rw [List.map_map]
  rfl
theorem kI_inj {a b : List Int} (h : kI a = kI b) : a = b := by
  unfold kI at h
  exact (List.map_inj_right (f := (Sum.inl : Int → Key)) fun x y e => Sum.inl.inj e).mp h
theorem Dat.keyAt {H : Hp} {v : V} {ns : List Int} (h : Dat H v (.tuple (ns.map .int))) : ∃ b, v = .ref b ∧ H b = some (.tup ((kI ns).map kV)) := by
  obtain ⟨a, xs, e, h1, h2⟩ := h.tupAt
  refine ⟨a, e, ?_⟩
  rw [h1, h2.ints, kI_V]
section
variable {T : List (Addr × Str)} {M : Am T} {Γ : Env'} {K : PySem.W.Frag} {P : Out → Prop} {te ty tv : TE}
theorem d_dget {j : Nat} {kvs : List (List Key × V)} {R : PyData → Prop} (h : Γ[j]? = some (some (.dct kvs))) (r : EvD M ty Γ fun kd => ∃ ns v d, kd = .tuple (ns.map .int) ∧ valV kvs (kI ns) = some v ∧ Sc v d ∧ R d) : EvD M (tDGet (tVar j) ty) Γ R := fun O A σ H Q S f => by
  refine ⟨_, (S.cell j _ h).1, r O A σ H _ S fun y kd H1 ⟨ns, v, d, e, hv, hs, p⟩ k i hh => ?_⟩
  subst e
  have S1 := S.step k i
  obtain ⟨_, _, h1⟩ := S1.cell j _ h
  obtain ⟨b, rfl, hb⟩ := hh.top.keyAt
  refine ⟨A j, v, rfl, ?_, f v d H1 p k i hs.dat⟩
  rw [← hv]
  exact DGet.t h1 hb
theorem d_din {j : Nat} {kvs : List (List Key × V)} {R : PyData → Prop} (h : Γ[j]? = some (some (.dct kvs))) (r : EvD M ty Γ fun kd => ∃ ns, kd = .tuple (ns.map .int) ∧ R (.bool (valV kvs (kI ns)).isSome)) : EvD M (tDIn ty (tVar j)) Γ R := fun O A σ H Q S f =>
  r O A σ H _ S fun y kd H1 ⟨ns, e, p⟩ k i hh => by
    subst e
    have S1 := S.step k i
    obtain ⟨e1, _, h1⟩ := S1.cell j _ h
    obtain ⟨b, rfl, hb⟩ := hh.top.keyAt
    exact ⟨_, e1, A j, _, rfl, DGet.t h1 hb, f _ _ H1 p k i (.bl _)⟩
theorem d_dnotin {j : Nat} {kvs : List (List Key × V)} {R : PyData → Prop} (h : Γ[j]? = some (some (.dct kvs))) (r : EvD M ty Γ fun kd => ∃ ns, kd = .tuple (ns.map .int) ∧ R (.bool (!(valV kvs (kI ns)).isSome))) : EvD M (tDNotIn ty (tVar j)) Γ R := fun O A σ H Q S f =>
  r O A σ H _ S fun y kd H1 ⟨ns, e, p⟩ k i hh => by
    subst e
    have S1 := S.step k i
    obtain ⟨e1, _, h1⟩ := S1.cell j _ h
    obtain ⟨b, rfl, hb⟩ := hh.top.keyAt
    exact ⟨_, e1, A j, _, rfl, DGet.t h1 hb, f _ _ H1 p k i (.bl _)⟩
theorem r_dput {j : Nat} {kvs : List (List Key × V)} (h : Γ[j]? = some (some (.dct kvs))) (hl : kvs.length < 1000) (r : EvD M tv Γ fun d => ∃ v, Sc v d ∧ EvD M ty Γ fun kd => ∃ ns, kd = .tuple (ns.map .int) ∧ P (.nx (Γ.set j (some (.dct (putK kvs (kI ns) v)))))) :
    Run M (sDPut (tVar j) ty tv) Γ P := fun H0 O A σ H D S L => r O A σ H _ S.sit fun v d H1 ⟨v', hs, r2⟩ k1 i1 hv => by
  have S1 := S.step k1 i1
  have ev : v = v' := by cases hs <;> cases hv <;> rfl
  subst ev
  refine ⟨_, (S1.sit.cell j _ h).1, r2 O A σ H1 _ S1.sit fun y kd H2 ⟨ns, e, p⟩ k2 i2 hh => ?_⟩
  subst e
  have S2 := S1.step k2 i2
  obtain ⟨e1, nO, h1⟩ := S2.sit.cell j _ h
  obtain ⟨b, rfl, hb⟩ := hh.top.keyAt
  refine ⟨A j, _, rfl, DPut.t h1 hb (small1000 (by omega)), ?_⟩
  obtain ⟨s, c⟩ := S2.write (c' := .dct (putK kvs (kI ns) v)) (o' := .dT (putK kvs (kI ns) v)) h trivial trivial ⟨rfl, nO, upd_same⟩ e1
  exact L.nx _ A σ _ p s (((S.cln k1).trans (S1.cln k2)).trans c)
/-- a new dict becomes the def's own -/
theorem SitR.putD {H0 H : Hp} {O : List Addr} {A : Nat → Addr} {σ : L2.St} {p : Addr} {j : Nat} {kvs : List (List Key × V)} (S : SitR M H0 O A Γ σ H) (hj : j < Γ.length) (hp : H p = none) :
    SitR M H0 O (fun n => if n = j then p else A n) (Γ.set j (some (.dct kvs))) (σ.set j (some (.ref p))) (upd H p (.dT kvs)) ∧ Cln (Own O A Γ) H (Own O (fun n => if n = j then p else A n) (Γ.set j (some (.dct kvs)))) (upd H p (.dT kvs)) := by
  have nO := S.sit.ownNew hp
  have mi : ∀ n, n ≠ j → Mine (Γ.set j (some (.dct kvs))) n → Mine Γ n := fun n hn ⟨c, e, m⟩ => ⟨c, by rw [List.getElem?_set_ne (Ne.symm hn)] at e; exact e, m⟩
  have less : ∀ a, Own O (fun n => if n = j then p else A n) (Γ.set j (some (.dct kvs))) a → Own O A Γ a ∨ a = p := fun a h => by
    rcases h with h | ⟨n, m, en⟩
    · exact .inl (.inl h)
    · dsimp only at en
      by_cases q : n = j
      · rw [if_pos q] at en; exact .inr en.symm
      · rw [if_neg q] at en; exact .inl (.inr ⟨n, mi n q m, en⟩)
  have cln : Cln (Own O A Γ) H (Own O (fun n => if n = j then p else A n) (Γ.set j (some (.dct kvs)))) (upd H p (.dT kvs)) := fun b o eb n => by
    obtain ⟨h1, h2⟩ := hid_some.mp eb
    have nb : b ≠ p := ne_of_none h2 hp
    exact hid_some.mpr ⟨fun z => (less b z).elim h1 nb, upd_grow hp b o h2⟩
  have S1 := S.step (Keep.new (W := M.W) (o := .dT kvs) hp) (M.grow S.sit.inv (upd_grow hp))
  refine ⟨⟨⟨by rw [List.length_set, List.length_set]; exact S.sit.len, S1.sit.inv, S.sit.wO, S1.sit.dom, fun n c ec => ?_, fun n n' m m' en => ?_⟩, S1.keep, fun n m => ?_⟩, cln⟩
  · by_cases q : n = j
    · subst q
      rw [List.getElem?_set_self hj] at ec
      cases Option.some.inj (Option.some.inj ec)
      rw [List.getElem?_set_self (by rw [S.sit.len]; exact hj)]
      exact ⟨by rw [if_pos rfl], by rw [if_pos rfl]; exact fun z => nO (.inl z), by rw [if_pos rfl]; exact upd_same⟩
    · rw [List.getElem?_set_ne (Ne.symm q)] at ec
      rw [List.getElem?_set_ne (Ne.symm q), if_neg q]
      have q0 := S.sit.cell n c ec
      have q1 := S1.sit.cell n c ec
      cases c with
      | dat d => obtain ⟨x, e1, h1⟩ := q0; exact ⟨x, e1, h1.up cln⟩
      | raw x => exact q0
      | lst es =>
        obtain ⟨e1, n1, xs, h1, h2⟩ := q0
        exact ⟨e1, n1, xs, upd_grow hp _ _ h1, h2.up cln⟩
      | dct kvs => exact ⟨q1.1, q1.2.1, q1.2.2⟩
  · have big : ∀ n, n ≠ j → Mine (Γ.set j (some (.dct kvs))) n → A n ≠ p := fun n hn m z => nO (.inr ⟨n, mi n hn m, z⟩)
    by_cases q : n = j <;> by_cases q' : n' = j
    · rw [q, q']
    · rw [if_pos q, if_neg q'] at en; exact absurd en.symm (big n' q' m')
    · rw [if_neg q, if_pos q'] at en; exact absurd en (big n q m)
    · rw [if_neg q, if_neg q'] at en; exact S.sit.inj n n' (mi n q m) (mi n' q' m') en
  · by_cases q : n = j
    · rw [if_pos q]
      exact Fr.back S.keep (fun z => nO (.inl (S.sit.wO p z))) (Fr.none hp)
    · rw [if_neg q]
      exact S.fr n (mi n q m)
theorem r_asgD {j : Nat} (hj : j < Γ.length) (p : P (.nx (Γ.set j (some (.dct []))))) : Run M (tAsg tDNewT (gName j)) Γ P := fun H0 O A σ H D S L => fun q hq => by
  obtain ⟨s, c⟩ := S.putD (kvs := []) hj hq
  exact L.nx _ _ _ _ p s c
end
end K41
end
section
set_option linter.all false
set_option maxRecDepth 100000
/-! K41, layer D, seventh part: enumerate over a tuple; a list or a tuple walked; x in a tuple of data. -/
namespace K41
open PySem PySem.Spec PyProof.Rows L2
set_option maxHeartbeats 2000000 in
theorem enumT_new (l : Addr) (zs : Array Value) : Meets (Builtin.«enumerate.__new__» ⟨[.type "enumerate", .ref l], []⟩) (fun _ R z => z.heap.IsTuple l zs ∧
      R (.ok (.ret (.ref (z.heap.push { cls := .type "tuple_iterator", data := .fields #[.ref l, .int 0 0] }).objs.size)))
        { z with heap := (z.heap.push { cls := .type "tuple_iterator", data := .fields #[.ref l, .int 0 0] }).push { cls := .type "enumerate", data := .fields #[.none, .bool false, .ref z.heap.objs.size, rawInt 0, .none, .none] } }) :=
  .of_wp fun prog w B R z hz => by
    obtain ⟨hp, gn, dr, tk, os⟩ := z
    obtain ⟨hT, hz⟩ := hz
    have hsub := sub_enumerate
    have it1 : ∀ {B' : Around} {E : Value → Shared → Prop} {Q : Value → Shared → Prop}, Q (.ref hp.objs.size) ⟨hp.push { cls := .type "tuple_iterator", data := .fields #[.ref l, .int 0 0] }, gn, dr, tk, os⟩ → wpAny (model prog w) B' (pyIter (.ref l)) Q E ⟨hp, gn, dr, tk, os⟩ :=
      fun q => (begins_tuple l zs).iter prog w _ _ ⟨hp, gn, dr, tk, os⟩ _ hT q
    wp_walk using it1
    refine wpAny_stack_any fun st => wpAny_pure ?_
    split
    · rename_i c _ _ _ _ _
      cases (c == Value.type "enumerate")
      · wp_walk using it1
        exact ⟨_, rfl, hz⟩
      · wp_walk using it1
        exact ⟨_, rfl, hz⟩
    · wp_walk using it1
      exact ⟨_, rfl, hz⟩
section
variable {prog : Program} {w : World} {B : Around} {E : Value → Shared → Prop} {z : Shared}
theorem enumT_call {l : Addr} {zs : Array Value} {Q : Value → Shared → Prop} (hT : z.heap.IsTuple l zs)
    (h : ∀ g, IsEnum g (z.heap.objs.size + 1) z.heap.objs.size 0 .none → g.IsTupleIter z.heap.objs.size l 0 → (∀ b o, z.heap.get? b = some o → g.get? b = some o) → Q (.ref (z.heap.objs.size + 1)) { z with heap := g }) :
    wpAny (model prog w) B (call (.type "enumerate") [.ref l]) Q E z := by
  refine callType_new F.called_enumerate (by decide) (F.typeCall_enumerate_1 _) (F.newCall_enumerate_1 _) (fun ob => F.args_object_init_2 ob _) F.entry_enumerate_new (enumT_new l zs) ⟨hT, ?_⟩
  have sz1 : (z.heap.push { cls := .type "tuple_iterator", data := .fields #[.ref l, .int 0 0] }).objs.size = z.heap.objs.size + 1 := Heap.size_push ..
  have en : IsEnum ((z.heap.push { cls := .type "tuple_iterator", data := .fields #[.ref l, .int 0 0] }).push { cls := .type "enumerate", data := .fields #[.none, .bool false, .ref z.heap.objs.size, rawInt 0, .none, .none] }) (z.heap.objs.size + 1) z.heap.objs.size 0 .none := by
    rw [← sz1]
    exact Heap.get?_push_size _ rfl
  show _ ∧ _
  rw [sz1]
  exact ⟨⟨_, en, rfl⟩, h _ en ⟨_, Heap.get?_push_of_some _ (Heap.get?_push_size _ rfl), rfl, rfl⟩ fun b o x => Heap.get?_push_of_some _ (Heap.get?_push_of_some _ x)⟩
end
/-- the tuple at a, each item in a new pair -/
def ItE (K : PySem.W.Frag) (a : Addr) : It where
  go i H := ∃ (xs : List V) (x : V), SqT K H a xs ∧ xs[i]? = some x
  yld i H v H' := ∃ q x, v = .ref q ∧ H q = none ∧ H' = upd H q (.tup [.int (i : Nat), x]) ∧ ∀ xs, SqT K H a xs → xs[i]? = some x
  stop i H := ∃ xs : List V, SqT K H a xs ∧ xs.length = i
theorem turn_enumT {P : Program} {w : World} {K : PySem.W.Frag} {elts : List Expr} {kk : Nat} {tpos : Pos} (a e it : Addr) (hat : a ≠ it) (hae : e ≠ a) :
    Turn P w K (.Tuple elts kk tpos) (ItE K a) [e, it] e (fun i h => (∃ old, IsEnum h e it ((i : Nat) : Int) old) ∧ h.IsTupleIter it a i ∧ e ≠ it) where
  mem := by simp
  obj := fun i h st b hb => by
    obtain ⟨⟨old, he⟩, ⟨o, ho, hc, hd⟩, _⟩ := st
    rcases (by simpa using hb : b = e ∨ b = it) with z | z
    · rw [z]
      exact ⟨_, he, fun v q => nomatch q⟩
    · rw [z]
      refine ⟨o, ho, fun v q => ?_⟩
      rw [hd] at q
      cases q
  keep := fun i h h' st k => ⟨⟨st.1.choose, k e (by simp) _ st.1.choose_spec⟩, st.2.1.at fun o q => k it (by simp) o q, st.2.2⟩
  item := by
    intro X hP hw hK hc i pins s σ H E I hf st hg
    subst hP hw hK
    obtain ⟨⟨old, he⟩, hit, hne⟩ := st
    obtain ⟨xs, x, hq, hx⟩ := hg
    obtain ⟨its, rv, p, hz⟩ := I.tuple hq
    obtain ⟨u, hu, ru⟩ := rv.get hx
    have hT : s.heap.IsTuple a its.toArray := p
    have hil : i < its.toArray.size := by
      rw [List.size_toArray]
      exact (List.getElem?_eq_some_iff.mp hu).1
    have hel : e < s.heap.objs.size := Heap.lt_size he
    have hitl : it < s.heap.objs.size := by
      obtain ⟨_, q, _⟩ := hit
      exact Heap.lt_size q
    refine wpAny_pyNext_enum_itemC (Draws.tuple (A := X.A.in1) (I.ok.hd hc) it a hat its.toArray) he ⟨hit, hT⟩ hil hne (by simp [hne, hae]) fun y h' tk hy ho hst hnew hsz hk => ?_
    have ey : y = u := by
      have e2 : its.toArray[i]? = some u := by rw [List.getElem?_toArray]; exact hu
      exact Option.some.inj (hy.symm.trans e2)
    subst ey
    refine ⟨_, rfl, wpAny_letOwnedTupleGo_enum (s := { s with heap := h', toks := tk + 1 }) ho fun h2 he2 sb => ?_⟩
    have hN : h2.get? s.heap.objs.size = some { cls := .type "tuple", data := .seq #[.int i tk, y] } := (sb.2 _ (Nat.ne_of_gt hel)).trans hnew
    have new : ObjOk X.prog X.w (upd H s.heap.objs.size (.tup [.int (i : Nat), x])) h2 s.heap.objs.size (.tup [.int (i : Nat), x]) :=
      ⟨by show 2 ≤ sizeLine; decide, [.int i tk, y], .cons ⟨_, rfl⟩ (.cons ru .nil), ⟨_, hN, rfl, _, rfl⟩⟩
    have I1 : Inv X pins σ (upd H s.heap.objs.size (.tup [.int (i : Nat), x])) { s with heap := h2, toks := tk + 1 } :=
      I.turnedNew (ch := [e, it]) (fun b ob hb q => (sb.2 b (fun z => hb (by simp [z]))).trans (hk b ob (fun z => hb (by simp [z])) (fun z => hb (by simp [z])) q)) hf (Nat.le_refl _) new
    refine ⟨.ref s.heap.objs.size, _, I1, rfl, ⟨_, x, rfl, I.hok.fresh (Nat.le_refl _), rfl, fun ys hy' => by rw [I.tuple_inj hy' hq]; exact hx⟩, ⟨⟨y, ?_⟩, hst.1.at fun o q => (sb.2 it (Ne.symm hne)).trans q, hne⟩, fun b hb => ?_⟩
    · rw [show ((i + 1 : Nat) : Int) = (i : Int) + 1 by omega]
      exact he2
    · have hb' : b < s.heap.objs.size := by
        rcases (by simpa using hb : b = e ∨ b = it) with z | z
        · rw [z]; exact hel
        · rw [z]; exact hitl
      rw [upd_ne (Nat.ne_of_lt hb')]
      exact (hf b hb).1
  done := by
    intro X hP hw hK hc i pins s σ H E I hf st hg
    subst hP hw hK
    obtain ⟨⟨old, he⟩, hit, hne⟩ := st
    obtain ⟨xs, hq, hx⟩ := hg
    obtain ⟨its, rv, p, hz⟩ := I.tuple hq
    obtain ⟨f0, f1, f2, f3, f4, f5⟩ := hf it (by simp)
    have hT : s.heap.IsTuple a its.toArray := p
    have hl : its.toArray.size = i := by
      rw [List.size_toArray, ← rv.length]
      exact hx
    subst hl
    exact wpAny_pyNext_enum_endD (Draws.tuple (A := X.A.in1) (I.ok.hd hc) it a hat its.toArray) he ⟨hit, hT⟩ fun h' eb => ⟨rfl, I.turned (t' := s.toks) (fun b o hb q => eb b o hb q) f0 f1 f3 f4 f5⟩
  self := fun B i s Q E st h => wpAny_pyIter_enum st.1.choose_spec h
def iEnumT (K : PySem.W.Frag) (ta : TA) : TI := fun σ H R => ta σ H fun vs H1 => ∃ a xs, vs = [.ref a] ∧ SqT K H1 a xs ∧ R (ItE K a) H1
theorem pi_enumT {X : Cx} {e : Expr} {ta : TA} {p pos tpos : Pos} {elts : List Expr} {kk : Nat} (hg : Gl X "enumerate") (hm : X.mg "enumerate" = none) (ha : PA X [e] ta) (hs : starEach [e] X.env = [(false, eval e X.env)] := by rfl) :
    PI X (.Tuple elts kk tpos) (.Call (.Name "enumerate" p) [e] [] pos) (iEnumT X.K ta) := by
  refine ⟨fun pins s σ H R I h => Call_ (ld_blt I hg hm boot_enumerate (PyProof.Rows.callWith_type1 (thn (ha.run pos pins s σ H _ I h) fun us s1 ⟨vs, H1, I1, r1, q1⟩ => ?_) hs rfl))⟩
  obtain ⟨a, xs, ex, hq, q⟩ := q1
  subst ex
  cases r1 with
  | cons r rr =>
    cases rr
    cases r
    obtain ⟨its, rv, p', hz⟩ := I1.tuple hq
    have hT : s1.heap.IsTuple a its.toArray := p'
    have hlt : a < s1.heap.objs.size := p'.lt
    refine enumT_call hT fun g he hit hk => wpAny_pyIter_enum he ?_
    refine ⟨s1.heap.objs.size + 1, [s1.heap.objs.size + 1, s1.heap.objs.size], _, _, H1, rfl, I1.kept (t' := s1.toks) hk, turn_enumT a (s1.heap.objs.size + 1) s1.heap.objs.size (Nat.ne_of_lt hlt) (Nat.ne_of_gt (Nat.lt_succ_of_lt hlt)), ⟨⟨.none, he⟩, hit, Nat.succ_ne_self _⟩, fun b hb => ?_, q⟩
    have hle : s1.heap.objs.size ≤ b := by
      rcases (by simpa using hb : b = s1.heap.objs.size + 1 ∨ b = s1.heap.objs.size) with z | z
      · rw [z]; exact Nat.le_succ _
      · rw [z]; exact Nat.le_refl _
    exact I1.fpOk hle (I1.hok.fresh hle)
/-! a list or a tuple -/
theorem pi_either {X : Cx} {tg e : Expr} {w1 w2 : TI} (h1 : PI X tg e w1) (h2 : PI X tg e w2) : PI X tg e (fun σ H R => w1 σ H R ∨ w2 σ H R) :=
  ⟨fun pins s σ H R I h => h.elim (h1.run pins s σ H R I) (h2.run pins s σ H R I)⟩
def iSeq (K : PySem.W.Frag) (tl : TE) : TI := fun σ H R => iList K tl σ H R ∨ iTup K tl σ H R
theorem pi_seq {X : Cx} {tg l : Expr} {tl : TE} (hl : PE X l tl) : PI X tg l (iSeq X.K tl) := pi_either (pi_list hl) (pi_tup hl)
def iEnumS (K : PySem.W.Frag) (ta : TA) : TI := fun σ H R => iEnum K ta σ H R ∨ iEnumT K ta σ H R
theorem pi_enumS {X : Cx} {e : Expr} {ta : TA} {p pos tpos : Pos} {elts : List Expr} {kk : Nat} (hg : Gl X "enumerate") (hm : X.mg "enumerate" = none) (ha : PA X [e] ta) (hs : starEach [e] X.env = [(false, eval e X.env)] := by rfl) :
    PI X (.Tuple elts kk tpos) (.Call (.Name "enumerate" p) [e] [] pos) (iEnumS X.K ta) := pi_either (pi_enum hg hm ha hs) (pi_enumT hg hm ha hs)
section
variable {T : List (Addr × Str)} {M : Am T} {P : PyData → Prop} {K : PySem.W.Frag} {Γ : Env'} {R : List PyData → Prop} {te tl : TE} {tA : TA}
theorem i_seqL (h : EvD M tl Γ fun a => ∃ ds, a = .list ds ∧ R ds) : EvI M (iSeq K tl) Γ R := fun O A σ H Q S f => .inl (i_list h O A σ H Q S f)
theorem i_seqT (h : EvD M tl Γ fun a => ∃ ds, a = .tuple ds ∧ R ds) : EvI M (iSeq K tl) Γ R := fun O A σ H Q S f => .inr (i_tup h O A σ H Q S f)
theorem iter_enumT {hd : Addr → Prop} {Hs : Hp} {a : Addr} {vs : List V} {xs : List PyData} (h : hid hd Hs a = some (.tup vs)) (k : Dats (hid hd Hs) vs xs) : IterD M hd Hs (ItE K a) (numD 0 xs) := fun hd' H w c => by
  have e := (hid_some.mp (c _ _ h nt_tup)).2
  have k' := k.up c
  rw [numD_len]
  refine ⟨fun i hi => ⟨vs, vs[i]'(by rw [k.len]; exact hi), SqT.of e, List.getElem?_eq_getElem _⟩, ⟨vs, SqT.of e, k.len⟩, fun i v H' hi y => ?_⟩
  obtain ⟨p, x, rfl, nT, rfl, y⟩ := y
  obtain ⟨d, h1, h2⟩ := k'.get (y vs (SqT.of e))
  refine ⟨.tuple [.int (i : Int), d], by rw [numD_get, h1]; simp, upd_grow nT, .tup (hid_some.mpr ⟨w.new p nT, upd_same⟩) (.cons (.int _) (.cons (h2.up fun b o q _ => hid_new (w.new p nT) nT b o q) .nil))⟩
theorem i_enumL (h : EvA M tA Γ fun as => ∃ ds, as = [.list ds] ∧ R (numD 0 ds)) : EvI M (iEnumS K tA) Γ R := fun O A σ H Q S f => .inl (i_enum h O A σ H Q S f)
theorem i_enumT (h : EvA M tA Γ fun as => ∃ ds, as = [.tuple ds] ∧ R (numD 0 ds)) : EvI M (iEnumS K tA) Γ R := fun O A σ H Q S f => .inr (h O A σ H _ S fun vs ds H1 ⟨es, e, p⟩ k i hs => by
  subst e
  obtain ⟨x, rfl, hx⟩ := hs.one
  obtain ⟨a, xs, rfl, h1, h2⟩ := hx.tupAt
  exact ⟨a, xs, rfl, SqT.of (hid_le _ _ h1), f _ _ H1 p k i (iter_enumT h1 h2)⟩)
/-! o[i] of a list or a tuple -/
theorem rd_xT {ds : List PyData} {k : Nat} {d : PyData} (h : ds[k]? = some d) (p : P d) : RD M (rIx K) (.tuple ds) (.int (k : Int)) P := fun hd H x y Q w hx hy f => .inr (.inl (rd_ixT h p hd H x y Q w hx hy f))
theorem rd_xL {ds : List PyData} {k : Nat} {d : PyData} (h : ds[k]? = some d) (p : P d) : RD M (rIx K) (.list ds) (.int (k : Int)) P := fun hd H x y Q w hx hy f => .inl (rd_ixL h p hd H x y Q w hx hy f)
theorem d_xOwn {j : Nat} {ds : List PyData} {Rr : PyData → Prop} {ti : TE} (h : Γ[j]? = some (some (.lst ds))) (r : EvD M ti Γ fun k => ∃ (n : Nat) (d : PyData), k = .int (n : Int) ∧ ds[n]? = some d ∧ Rr d) : EvD M (tOp (rIx K) (tVar j) ti) Γ Rr := fun O A σ H Q S f => by
  obtain ⟨v, e, q⟩ := d_ixOwn (K := K) h r O A σ H Q S f
  exact ⟨v, e, r O A σ H _ S fun y kd H1 pk k i hh => by
    obtain ⟨n, d, e2, hn, pd⟩ := pk
    subst e2
    have S1 := S.step k i
    obtain ⟨e1, nO, xs, h1, h2⟩ := S1.cell j _ h
    obtain ⟨x, hx, hdx⟩ := h2.get2 hn
    rw [(S.cell j _ h).1] at e
    cases e
    exact .inl ⟨A j, xs, (n : Int), x, rfl, hh.intAt, SqL.of h1, atI_nat hx, f x d H1 pd k i hdx⟩⟩
end
/-! x in a tuple of data -/
section
variable {X : Cx}
def rInTD (K : PySem.W.Frag) : R2 := fun x y H Q => ∃ d ds, Dp K H x d ∧ Dp K H y (.tuple ds) ∧ SeqAt.shaped d = true ∧ SeqAt.shaped (.tuple ds) = true ∧ Q (.bl (ds.any fun z => PyData.eqv z d)) H
theorem op_inTD (hu : X.A.units + 65 < cLine) : OpR X (compareOp .In) (rInTD X.K) := by
  intro pins s σ H x y v u Q I rx ry ⟨d, ds, hd, he, sd, se, q⟩
  obtain ⟨as, r1⟩ := Dp.reads I d x v hd rx
  obtain ⟨bs, r2⟩ := Dp.reads I (.tuple ds) y u he ry
  exact SeqAt.in_tuple_reads r2 r1 (SeqAt.canLay_of_shaped se) (SeqAt.canLay_of_shaped sd) (room_in_shaped sd hu) ⟨.bl _, H, I, rfl, q⟩
end
section
variable {T : List (Addr × Str)} {M : Am T} {P : PyData → Prop} {K : PySem.W.Frag}
theorem rd_inTD {a : PyData} {ds : List PyData} (h1 : SeqAt.shaped a = true) (h2 : SeqAt.shaped (.tuple ds) = true) (p : P (.bool (ds.any fun z => PyData.eqv z a))) : RD M (rInTD K) a (.tuple ds) P := fun hd H x y Q w hx hy f =>
  ⟨a, ds, Dat.dp _ _ hx.top, Dat.dp _ _ hy.top, h1, h2, f.sc w p (.bl _)⟩
end
end K41
end
section
set_option linter.all false
set_option maxRecDepth 100000
/-! K41, layer D, eighth part: sorted of data that has no lists. -/
namespace K41
open PySem PySem.Spec PyProof.Rows L2
open Classical
mutual
/-- no list within -/
def noL : PyData → Bool
  | .list _ => false
  | .dict _ => false
  | .tuple ds => noLs ds
  | _ => true
def noLs : List PyData → Bool
  | [] => true
  | d :: ds => noL d && noLs ds
end
mutual
theorem reads_noL {h : Heap} : ∀ (d : PyData) (v : Value) (as : List Addr), noL d = true → Reads h v d as → as = []
  | .none, _, _, _, r => by cases r; rfl
  | .bool _, _, _, _, r => by cases r; rfl
  | .int _, _, _, _, r => by cases r; rfl
  | .str _, _, _, _, r => by cases r; rfl
  | .tuple ds, _, _, n, r => by cases r with | tuple h1 h2 h3 h4 => exact readsAll_noL ds _ _ n h4
  | .list _, _, _, n, _ => by cases n
  | .dict _, _, _, n, _ => by cases n
theorem readsAll_noL {h : Heap} : ∀ (ds : List PyData) (vs : List Value) (as : List Addr), noLs ds = true → ReadsAll h vs ds as → as = []
  | [], _, _, _, r => by cases r; rfl
  | d :: ds, _, _, n, r => by
    cases r with
    | cons h1 h2 =>
      have n' : (noL d && noLs ds) = true := n
      rw [Bool.and_eq_true] at n'
      rw [reads_noL d _ _ n'.1 h1, readsAll_noL ds _ _ n'.2 h2]
      rfl
end
section
variable {prog : Program} {w : World} {B : Around} {E : Value → Shared → Prop} {z : Shared} {β : Type} {vs : List Value} {bs : List β} {enc : β → PyData} {R : Value → β → Prop}
/-- the heap behind the gathering of a list's or a tuple's items -/
def gath (g : Heap) (zs : Array Value) : Heap := (g.push (seqObj "list" #[] 0)).update g.objs.size (Obj.mapSeq (· ++ zs))
theorem gath_size (g : Heap) (zs : Array Value) : (gath g zs).objs.size = g.objs.size + 1 := by
  unfold gath
  rw [Heap.size_update, size_push']
theorem gath_old (g : Heap) (zs : Array Value) : ∀ b u, g.get? b = some u → (gath g zs).get? b = some u := fun b u q =>
  (Heap.get?_update_other _ _ (Nat.ne_of_gt (Heap.lt_size q))).trans (Heap.get?_push_of_some _ q)
theorem gathered {l : Addr} {T : String} {o : Obj} {zs : Array Value} {n : Nat} {Q : List Value → Shared → Prop} (hT : T = "list" ∨ T = "tuple") (ho : z.heap.get? l = some o) (hc : o.cls = .type T) (hd : o.data = .seq zs n)
    (hz : zs.size ≤ sizeLine) (h : Q zs.toList { z with heap := gath z.heap zs }) : wpAny (model prog w) B (collect (.ref l)) Q E z := by
  have top : (z.heap.push (seqObj "list" #[] 0)).get? z.heap.objs.size = some (seqObj "list" #[] 0) := Heap.get?_push_size _ rfl
  have bot : (gath z.heap zs).get? z.heap.objs.size = some (Obj.mapSeq (· ++ zs) (seqObj "list" #[] 0)) := Heap.get?_update_self (Obj.mapSeq (· ++ zs)) top rfl
  have last : wpAny (model prog w) B (do
      let ob ← load z.heap.objs.size
      match ob.data with
      | .seq xs _ => pure xs.toList
      | _ => unsupported "internal:collect") Q E { z with heap := gath z.heap zs } := by
    refine wpAny_bind (wpAny_load bot ?_)
    show wpAny _ _ (pure ((#[] : Array Value) ++ zs).toList) Q E _
    rw [show ((#[] : Array Value) ++ zs).toList = zs.toList by simp]
    exact wpAny_pure h
  unfold collect
  refine wpAny_bind (wpAny_runValue (codeAny_builtin F.entry_proto_collect ?_))
  rw [Around.under_plainId F.plain_proto_collect _]
  show wpAny _ B.in1 (do again (.builtin "list.__iadd__" ⟨[← newList [], .ref l], []⟩)) _ _ z
  refine wpAny_bind (wpAny_newList (wpAny_pure ⟨plainId_quiet F.plain_list_iadd _, codeAny_builtin F.entry_list_iadd ?_⟩))
  rw [Around.under_plainId F.plain_list_iadd _]
  show wpAny _ B.in1 (Builtin.List.listExtendWith (.ref z.heap.objs.size) (.ref l) (.ref z.heap.objs.size)) _ _ { z with heap := z.heap.push (seqObj "list" #[] 0) }
  refine wpAny_mono (wpAny_extend_seq (hsz := hz) (A := B) (R := fun r s' => r = .ok (.ret (.ref z.heap.objs.size)) ∧ s' = { z with heap := gath z.heap zs }) (s := { z with heap := z.heap.push (seqObj "list" #[] 0) }) _ l _ 0 hT top (Heap.get?_push_of_some _ ho) hc hd ⟨rfl, rfl⟩) (fun fin s' q => ?_) fun _ _ q => absurd q.1 (by simp)
  cases fin with
  | done f =>
    obtain ⟨e1, e2⟩ := q
    cases e1
    rw [e2]
    exact last
  | again c' =>
    refine ⟨q.1, codeAny_mono q.2 fun r s2 hr => ?_⟩
    obtain ⟨e1, e2⟩ := hr
    rw [e1, e2]
    exact last
/-- sorted of a list or a tuple -/
theorem sortedSeq {l : Addr} {T : String} {o : Obj} {n : Nat} {Q : Value → Shared → Prop} (hT : T = "list" ∨ T = "tuple") (ho : z.heap.get? l = some o) (hc : o.cls = .type T) (hd : o.data = .seq vs.toArray n)
    (e : PySem.W.EachIs R vs bs) (er : PySem.W.EachIs (fun v b => ∃ as, Reads z.heap v (enc b) as) vs bs) (hn : ∀ b ∈ bs, noL (enc b) = true) (hal : PySem.W.AllAlike (bs.map enc)) (hk : PySem.W.Sortable (bs.map enc)) (hL : bs.length ≤ sizeLine)
    (hu : ∀ b, b ∈ bs → B.units + 3 + (enc b).depth < cLine)
    (h : ∀ out g p c, (∀ b u, z.heap.get? b = some u → g.get? b = some u) → z.heap.objs.size ≤ p → g.get? p = some (seqObj "list" (List.toArray out) c) → PySem.W.EachIs R out (bs.mergeSort (PySem.W.dataLe false enc)) → out.length = bs.length → Q (.ref p) { z with heap := g }) :
    wpAny (model prog w) B (call (.builtin "sorted") [.ref l]) Q E z := by
  have hlv : vs.length ≤ sizeLine := by rw [e.length]; exact hL
  refine PySem.Calls.call_function_entry kind_sorted plain_sorted entry_sorted (args_sorted1 _) ?_
  unfold Builtin.«sorted»
  refine wpAny_bind (m := checkCount "sorted" 1 1 _) (wpAny_pure ?_)
  have hk' := gath_old z.heap vs.toArray
  have hsz' := gath_size z.heap vs.toArray
  refine wpAny_bind (gathered hT ho hc hd (by rw [List.size_toArray]; exact hlv) ?_)
  generalize hh : gath z.heap vs.toArray = h' at hk' hsz'
  refine wpAny_bind (wpAny_newList ?_ (by simpa using hlv))
  have hnew : (h'.push (seqObj "list" vs.toArray 0)).get? h'.objs.size = some (seqObj "list" vs.toArray 0) := Heap.get?_push_size _ rfl
  have er' : PySem.W.EachIs (fun v b => ∃ as, Reads (h'.push (seqObj "list" vs.toArray 0)) v (enc b) as ∧ h'.objs.size ∉ as) vs bs := (PySem.W.each_mem er).mono fun v b ⟨⟨as, r⟩, hb⟩ => ⟨as, PyProof.Rows.Reads.keeps (fun c u q => Heap.get?_push_of_some _ (hk' c u q)) r, by rw [reads_noL _ _ _ (hn b hb) r]; simp⟩
  have hsl : z.heap.objs.size ≤ h'.objs.size := by omega
  refine wpAny_bind (wpAny_holding (PySem.W.list_sort_data (s := { z with heap := h'.push (seqObj "list" vs.toArray 0) }) hnew e er' hal hk hL (fun b hb => by
    have := hu b hb
    show B.in1.units + 1 + (enc b).depth < cLine
    have e2 : B.in1.units = B.units + 1 := rfl
    omega) fun out hl he => ?_))
  refine wpAny_pure ⟨_, rfl, ?_⟩
  obtain ⟨c, hc2⟩ := sortedHeap_at (vs := vs) (out := out.toArray) hnew
  exact h out _ _ c (fun b u q => (sortedHeap_old (by
      have := Heap.lt_size (hk' b u q)
      exact Nat.ne_of_lt this) (Heap.lt_size (Heap.get?_push_of_some _ (hk' b u q)))).trans (Heap.get?_push_of_some _ (hk' b u q))) hsl hc2 he hl
end
theorem each_of_vals : ∀ {bs : List (V × PyData)} {us : List Value}, Vals (bs.map (·.1)) us → PySem.W.EachIs (fun u (b : V × PyData) => RelV b.1 u) us bs
  | [], _, r => by cases r; exact .nil
  | b :: bs, _, r => by
    have r' : Vals (b.1 :: bs.map (·.1)) _ := r
    cases r' with
    | cons h t => exact .cons h (each_of_vals t)
theorem vals_of_each : ∀ {bs : List (V × PyData)} {us : List Value}, PySem.W.EachIs (fun u (b : V × PyData) => RelV b.1 u) us bs → Vals (bs.map (·.1)) us
  | [], _, r => by cases r; exact .nil
  | b :: bs, _, r => by
    cases r with
    | cons h t => exact .cons h (vals_of_each t)
def rSortD (K : PySem.W.Frag) : List V → Hp → VK → Prop := fun vs H Q => ∃ (a : Addr) (bs : List (V × PyData)), vs = [.ref a] ∧ (SqL K H a (bs.map (·.1)) ∨ SqT K H a (bs.map (·.1))) ∧ (∀ b ∈ bs, Dp K H b.1 b.2 ∧ noL b.2 = true ∧ b.2.depth ≤ 60) ∧
  PySem.W.AllAlike (bs.map (·.2)) ∧ PySem.W.Sortable (bs.map (·.2)) ∧ bs.length ≤ 1000 ∧ ∀ p, H p = none → Q (.ref p) (upd H p (.lst ((bs.mergeSort (PySem.W.dataLe false (·.2))).map (·.1))))
theorem Room.u65 {k : Nat} {A : Around} (r : Room k A) : A.units + 65 < cLine := by
  have := r.un
  omega
theorem cr_sortD {X : Cx} (hu : X.A.units + 65 < cLine) : CallR X (.builtin "sorted") (rSortD X.K) := by
  intro pins s σ H vs us Q I r ⟨a, bs, ev, hsq, hb, hal, hk, hl, q⟩
  subst ev
  obtain rfl := Vals.ref1 r
  obtain ⟨T, its, o, n, hT, ho, hc, hd, rv⟩ : ∃ T its o n, (T = "list" ∨ T = "tuple") ∧ s.heap.get? a = some o ∧ o.cls = .type T ∧ o.data = .seq (List.toArray its) n ∧ Vals (bs.map (·.1)) its := by
    rcases hsq with h | h
    · obtain ⟨its, rv, ⟨o, n, ho, hc, _, hd⟩, _⟩ := I.list h
      exact ⟨"list", its, o, n, .inl rfl, ho, hc, hd, rv⟩
    · obtain ⟨its, rv, ⟨o, ho, hc, n, hd⟩, _⟩ := I.tuple h
      exact ⟨"tuple", its, o, n, .inr rfl, ho, hc, hd, rv⟩
  have he := each_of_vals rv
  have her : PySem.W.EachIs (fun v (b : V × PyData) => ∃ as, Reads s.heap v b.2 as) its bs := (PySem.W.each_mem he).mono fun u b ⟨hr, hm⟩ => Dp.reads I b.2 b.1 u (hb b hm).1 hr
  refine sortedSeq (enc := fun b : V × PyData => b.2) hT ho hc hd he her (fun b m => (hb b m).2.1) hal hk (sz1000 hl) (fun b m => ?_) fun out g p c hk hp hg hout hlen => ?_
  · have h1 := (hb b m).2.2
    show X.A.units + 3 + b.2.depth < cLine
    omega
  · refine ⟨.ref p, _, I.laid (t' := s.toks) (o := .lst ((bs.mergeSort (PySem.W.dataLe false (·.2))).map (·.1))) hk hp ⟨?_, out, c, vals_of_each hout, hg⟩, rfl, q p (I.hok.fresh hp)⟩
    rw [List.length_map, List.length_mergeSort]
    exact sz1000 hl
section
variable {T : List (Addr × Str)} {M : Am T} {K : PySem.W.Frag} {R : List PyData → Prop}
theorem dats_zip {H : Hp} {vs : List V} {ds : List PyData} (h : Dats H vs ds) : (vs.zip ds).map (·.1) = vs ∧ (vs.zip ds).map (·.2) = ds ∧ ∀ b ∈ vs.zip ds, Dat H b.1 b.2 := by
  have e := h.len
  refine ⟨List.map_fst_zip (by omega), List.map_snd_zip (by omega), fun b hb => ?_⟩
  obtain ⟨i, hi, e2⟩ := List.getElem_of_mem hb
  have e3 : (vs.zip ds)[i]? = some b := by rw [List.getElem?_eq_getElem hi, e2]
  rw [List.getElem?_zip_eq_some] at e3
  obtain ⟨d, h1, h2⟩ := h.get e3.1
  rw [e3.2] at h1
  cases h1
  exact h2
theorem dats_of_mem {H : Hp} : ∀ {bs : List (V × PyData)}, (∀ b ∈ bs, Dat H b.1 b.2) → Dats H (bs.map (·.1)) (bs.map (·.2))
  | [], _ => .nil
  | b :: bs, h => .cons (h b List.mem_cons_self) (dats_of_mem fun c m => h c (List.mem_cons_of_mem _ m))
/-- what sorted asks of the data -/
structure SortOk (ds : List PyData) : Prop where
  al : PySem.W.AllAlike ds
  so : PySem.W.Sortable ds
  no : ∀ d ∈ ds, noL d = true ∧ d.depth ≤ 60
  le : ds.length ≤ 1000
def sortD (ds : List PyData) : List PyData := ds.mergeSort (PySem.W.dataLe false id)
theorem rcf_sort {ds : List PyData} {c : PyData} (hc : c = .list ds ∨ c = .tuple ds) (ok : SortOk ds) (p : R (sortD ds)) : RCF M (rSortD K) [c] R := fun hd H vs Q w hs f => by
  obtain ⟨x, rfl, hx⟩ := hs.one
  obtain ⟨a, xs, rfl, hsq, hk⟩ : ∃ a xs, x = .ref a ∧ (SqL K H a xs ∨ SqT K H a xs) ∧ Dats (hid hd H) xs ds := by
    rcases hc with e | e
    · subst e
      obtain ⟨a, xs, rfl, h1, h2⟩ := hx.lstAt
      exact ⟨a, xs, rfl, .inl (SqL.of (hid_le _ _ h1)), h2⟩
    · subst e
      obtain ⟨a, xs, rfl, h1, h2⟩ := hx.tupAt
      exact ⟨a, xs, rfl, .inr (SqT.of (hid_le _ _ h1)), h2⟩
  obtain ⟨z1, z2, z3⟩ := dats_zip hk
  refine ⟨a, xs.zip ds, rfl, by rw [z1]; exact hsq, fun b hb => ?_, by rw [z2]; exact ok.al, by rw [z2]; exact ok.so, ?_, fun q hq => ?_⟩
  · have hm : b.2 ∈ ds := by rw [← z2]; exact List.mem_map.mpr ⟨b, hb, rfl⟩
    exact ⟨Dat.dp _ _ (z3 b hb).top, ok.no _ hm⟩
  · have := ok.le
    rw [List.length_zip]
    omega
  · refine rcf_new w p ?_ hq f
    have e : sortD ds = ((xs.zip ds).mergeSort (PySem.W.dataLe false (·.2))).map (·.2) := by
      unfold sortD
      have e2 := PySem.W.sort_maps (r := PySem.W.dataLe false fun b : V × PyData => b.2) (s := PySem.W.dataLe false id) (fun b : V × PyData => b.2) (l := xs.zip ds) fun _ _ _ _ => rfl
      rw [z2] at e2
      exact e2.symm
    rw [e]
    exact dats_of_mem fun b hb => z3 b (List.mem_mergeSort.mp hb)
end
/-! ### ints, pairs of ints -/
theorem sortOk_ints {ns : List Int} (h : ns.length ≤ 1000) : SortOk (ns.map .int) where
  al := PySem.W.AllAlike.of fun _ _ => by simp [PySem.W.alike]
  so := PySem.W.Sortable.others fun _ => ⟨by simp, by simp⟩
  no := fun d hd => by
    obtain ⟨n, _, rfl⟩ := List.mem_map.mp hd
    exact ⟨rfl, by simp [PyData.depth]⟩
  le := by rw [List.length_map]; exact h
theorem sortD_ints (ns : List Int) : sortD (ns.map .int) = (ns.mergeSort fun a b => decide (a ≤ b)).map .int := by
  unfold sortD
  have e := PySem.W.dataLe_int (β := Int) id
  rw [← PySem.W.sort_maps (r := PySem.W.dataLe false fun b : Int => PyData.int (id b)) (fun b : Int => PyData.int b) fun _ _ _ _ => rfl, e]
  rfl
def pairD (p : Int × Int) : PyData := .tuple [.int p.1, .int p.2]
def pairLe (p q : Int × Int) : Bool := decide (p.1 < q.1 ∨ (p.1 = q.1 ∧ p.2 ≤ q.2))
theorem sortOk_pairs {ps : List (Int × Int)} (h : ps.length ≤ 1000) : SortOk (ps.map pairD) where
  al := PySem.W.AllAlike.of fun _ _ => by simp [pairD, PySem.W.alike, PySem.W.alikeAll]
  so := PySem.W.Sortable.tuples fun p => ⟨.int p.1, [.int p.2], rfl⟩
  no := fun d hd => by
    obtain ⟨n, _, rfl⟩ := List.mem_map.mp hd
    exact ⟨rfl, by simp [pairD, PyData.depth, PyData.depthAll]⟩
  le := by rw [List.length_map]; exact h
theorem sortD_pairs (ps : List (Int × Int)) : sortD (ps.map pairD) = (ps.mergeSort pairLe).map pairD := by
  unfold sortD
  have e := PySem.W.dataLe_ii (β := Int × Int) Prod.fst Prod.snd
  rw [← PySem.W.sort_maps (r := PySem.W.dataLe false fun b : Int × Int => .tuple [.int b.1, .int b.2]) pairD fun _ _ _ _ => rfl, e]
  rfl
end K41
end
section
set_option linter.all false
set_option maxRecDepth 100000
/-! K41, layer D, ninth part: comprehensions and loops over encoded lists. -/
namespace K41
open PySem PySem.Spec PyProof.Rows L2
section
variable {T : List (Addr × Str)} {M : Am T} {Γ : Env'} {R : List PyData → Prop} {te : TE} {tt : TT} {t : TS} {wi : TI} {g : TG} {vs : List Nat} {α : Type} {P : Out → Prop}
theorem f_mapA (l : List α) (enc fn : α → PyData) (hf : freeOf Γ vs = true) (hl : l.length ≤ 100000) (h : EvI M wi Γ fun xs => xs = l.map enc) (hb : ∀ a ∈ l, EvG M g vs (enc a) (wipeE Γ vs) fun Γ' => EvD M te Γ' fun d => d = fn a) (r : R (l.map fn)) :
    EvF M (tLc wi g tYes te vs) Γ R := f_lc hf fun O A σ H Q S f => h O A σ H Q S fun J xs H' e k i it => f J xs H' (by
  dsimp only at e
  subst e
  refine ⟨by rw [List.length_map]; exact hl, fun i acc => acc = (l.take i).map fn, rfl, fun i x acc hx ha => ?_, fun acc ha => ?_⟩
  · rw [List.getElem?_map] at hx
    cases hz : l[i]? with
    | none => rw [hz] at hx; cases hx
    | some a =>
      rw [hz] at hx
      cases hx
      refine fun O A σ H v Q s hh f => hb a (List.mem_of_getElem? hz) O A σ H v Q s hh fun Γ' σ' p => f Γ' σ' fun O A σ H Q S ff => ff true H ⟨fun z => (nomatch z), fun _ => p.mono fun d hd => ?_⟩ Keep.refl S.inv
      dsimp only at ha ⊢
      rw [ha, hd, List.take_add_one, hz, List.map_append]
      rfl
  · dsimp only at ha
    rw [List.length_map, List.take_length] at ha
    rw [ha]
    exact r) k i it
theorem f_filterA (l : List α) (enc fn : α → PyData) (p : α → Bool) (hf : freeOf Γ vs = true) (hl : l.length ≤ 100000) (h : EvI M wi Γ fun xs => xs = l.map enc) (hb : ∀ a ∈ l, EvG M g vs (enc a) (wipeE Γ vs) fun Γ' => EvT M tt Γ' fun b => b = p a ∧ (b = true → EvD M te Γ' fun d => d = fn a)) (r : R ((l.filter p).map fn)) :
    EvF M (tLc wi g tt te vs) Γ R := f_lc hf fun O A σ H Q S f => h O A σ H Q S fun J xs H' e k i it => f J xs H' (by
  dsimp only at e
  subst e
  refine ⟨by rw [List.length_map]; exact hl, fun i acc => acc = ((l.take i).filter p).map fn, rfl, fun i x acc hx ha => ?_, fun acc ha => ?_⟩
  · rw [List.getElem?_map] at hx
    cases hz : l[i]? with
    | none => rw [hz] at hx; cases hx
    | some a =>
      rw [hz] at hx
      cases hx
      refine fun O A σ H v Q s hh f => hb a (List.mem_of_getElem? hz) O A σ H v Q s hh fun Γ' σ' q => f Γ' σ' (q.mono fun b ⟨eb, hb⟩ => ⟨fun e => ?_, fun e => (hb e).mono fun d hd => ?_⟩)
      · dsimp only at ha ⊢
        rw [ha, List.take_add_one, hz, List.filter_append]
        simp [← eb, e]
      · dsimp only at ha ⊢
        rw [ha, hd, List.take_add_one, hz, List.filter_append]
        simp [← eb, e]
  · dsimp only at ha
    rw [List.length_map, List.take_length] at ha
    rw [ha]
    exact r) k i it
/-- a loop over encoded items -/
theorem r_forA (l : List α) (enc : α → PyData) (Iv : Nat → Env' → Prop) (h : EvI M wi Γ fun xs => xs = l.map enc) (h0 : Iv 0 Γ) (S : List Nat) (hb : ∀ i a Γ1, l[i]? = some a → Iv i Γ1 → EvG M g S (enc a) Γ1 fun Γ2 => Run M t Γ2 (Turn' (Iv (i + 1)) P))
    (he : ∀ Γ1, Iv l.length Γ1 → P (.nx Γ1)) : Run M (tFor wi g t) Γ P := r_for fun O A σ H Q s f => h O A σ H Q s fun J xs H' e k i it => f J xs H' (by
  dsimp only at e
  subst e
  refine ⟨Iv, h0, fun i x Γ1 hx hi => ⟨S, ?_⟩, fun Γ1 hi => he Γ1 (by rw [List.length_map] at hi; exact hi)⟩
  rw [List.getElem?_map] at hx
  cases hz : l[i]? with
  | none => rw [hz] at hx; cases hx
  | some a =>
    rw [hz] at hx
    cases hx
    exact hb i a Γ1 hz hi) k i it
theorem EvI.mono {wi : TI} {R R' : List PyData → Prop} (h : EvI M wi Γ R) (k : ∀ ds, R ds → R' ds) : EvI M wi Γ R' := fun O A σ H Q S f => h O A σ H Q S fun J xs H' p => f J xs H' (k xs p)
end
end K41
end
section
set_option linter.all false
set_option maxRecDepth 100000
/-! K41, layer D, tenth part: sorted by a key that a lambda tells, the key's calls told by an invariant of states. -/
namespace K41
open PySem PySem.Spec PyProof.Rows PySem.W
section
variable {prog : Program} {w : World} {A : Around} {E : Value → Shared → Prop} {s : Shared} {l : Addr} {f : Value} {vs : List Value} {kz : List PyData}
/-- the heap in which the object at c is gone -/
def goneAt (h : Heap) (c : Addr) : Heap := h.update c fun o => { o with data := .freed }
theorem gone_none {h : Heap} {c : Addr} {o : Obj} (e : h.get? c = some o) : (goneAt h c).get? c = none := by
  unfold goneAt
  have hs := Heap.lt_size e
  unfold Heap.update Heap.get?
  obtain ⟨objs, life⟩ := h
  simp only
  rw [Array.getElem?_modify]
  simp only [if_true]
  have : objs[c]? = some objs[c] := Array.getElem?_eq_getElem hs
  rw [this]
  rfl
theorem gone_old {h : Heap} {c b : Addr} (n : b ≠ c) : (goneAt h c).get? b = h.get? b := by
  unfold goneAt
  exact (Heap.SameBut.update h c _).2 b n
/-- the turns: each key is told, and stands in the store at kS -/
structure KeyJ (prog : Program) (w : World) (A : Around) (s : Shared) (f : Value) (vs : List Value) (kz : List PyData) (a kS : Addr) (J : Nat → List Value → Shared → Prop) : Prop where
  start : ∀ h : Heap, (∀ b o, s.heap.get? b = some o → h.get? b = some o) → J 0 [] { s with heap := h }
  turn : ∀ (i : Nat) (v : Value) (ks : List Value) (e d : Nat) (s1 : Shared), vs[i]? = some v → ks.length = i → J i ks s1 → s1.heap.get? kS = some (seqObj "list" ks.toArray e) → s1.heap.get? a = some (seqObj "list" #[] d) →
    wpAny (model prog w) A (call f [v]) (fun u s2 => (s2.heap.get? kS = some (seqObj "list" ks.toArray e) ∧ s2.heap.get? a = some (seqObj "list" #[] d)) ∧
      ∀ h : Heap, (∀ b o, b ≠ kS → s2.heap.get? b = some o → h.get? b = some o) → (∃ o, h.get? kS = some o) → J (i + 1) (ks ++ [u]) { s2 with heap := h }) (fun _ _ => False) s1
  fin : ∀ (ks : List Value) (s1 : Shared), J vs.length ks s1 → EachIs (fun u k => ∃ as, Reads s1.heap u k as) ks kz
theorem restJ {a kS : Addr} {J : Nat → List Value → Shared → Prop} {P : PySem.Fin → Shared → Prop} {s0 : Shared} {d : Nat} (T : KeyJ prog w A s f vs kz a kS J) (h0 : J 0 [] s0) (nk : s0.heap.get? kS = some (seqObj "list" #[] 0)) (na : s0.heap.get? a = some (seqObj "list" #[] d)) (hka : kS ≠ a)
    (hlen : kz.length = vs.length) (hZ : vs.length ≤ sizeLine) (hal : AllAlike kz) (hsk : Sortable kz) (hu : ∀ d, d ∈ kz → A.units + d.depth < cLine)
    (fin : ∀ ks s1 h' tk out c, J vs.length ks s1 → (∀ b o, b ≠ a → b ≠ kS → s1.heap.get? b = some o → h'.get? b = some o) → h'.get? a = some (seqObj "list" (List.toArray out) c) → KeyedOut false kz vs out → P (.done (.ret .none)) { s1 with heap := h', toks := tk }) :
    wpAny (model prog w) A (ksk_rest a f false vs.toArray d (.ref kS)) P E s0 := by
  unfold ksk_rest
  refine wpAny_bind (wpAny_rule ?_)
  rw [← Array.forIn_toList]
  simp only [List.toList_toArray]
  refine wpAny_bind (ksk_fold (fun i s1 => ∃ ks e, ks.length = i ∧ s1.heap.get? kS = some (seqObj "list" (List.toArray ks) e) ∧ s1.heap.get? a = some (seqObj "list" #[] d) ∧ J i ks s1) vs 0 s0 ⟨[], 0, rfl, nk, na, h0⟩ (fun i v s1 hv hi => ?_) fun s1 hi => ?_)
  · obtain ⟨ks, e, hl, k1, a1, j1⟩ := hi
    rw [Nat.zero_add] at hl j1 ⊢
    have hi2 : i < vs.length := (List.getElem?_eq_some_iff.mp hv).1
    refine wpAny_bind (wpAny_attempt (wpAny_mono (T.turn i v ks e d s1 hv hl j1 k1 a1) (fun u s2 q => ?_) fun _ _ q => False.elim q))
    obtain ⟨⟨k2, a2⟩, jn⟩ := q
    obtain ⟨c2, hc2⟩ : ∃ c2, (s2.heap.update kS (Obj.mapSeq (·.push u))).get? kS = some (seqObj "list" (ks.toArray.push u) c2) := ⟨_, get?_update_seq k2 (·.push u)⟩
    have sb := Heap.SameBut.update s2.heap kS (Obj.mapSeq (·.push u))
    have sz : ks.toArray.size ≤ sizeLine := by rw [List.size_toArray]; omega
    refine wpAny_bind (listUpdate_at k2 rfl ?_ sz (Nat.le_trans (Nat.le_of_eq (Array.size_push ..)) (Nat.succ_le_succ sz)))
    have et : ks.toArray.push u = (ks ++ [u]).toArray := by simp
    exact wpAny_pure ⟨rfl, ks ++ [u], c2, by rw [List.length_append, hl]; rfl, by rw [← et]; exact hc2, (sb.2 a hka.symm).trans a2, jn _ (fun b o n q => (sb.2 b n).trans q) ⟨_, hc2⟩⟩
  · obtain ⟨ks, e, hl, k1, a1, j1⟩ := hi
    rw [Nat.zero_add] at hl j1
    refine wpAny_bind (listItems_at k1 rfl ?_)
    have hk := T.fin ks s1 j1
    have kp : KeepsBut a (goneAt s1.heap kS) s1.heap := fun b o n q => by
      by_cases z : b = kS
      · rw [z, gone_none k1] at q; cases q
      · rw [gone_old z] at q; exact q
    have hsz : ks.toArray.size = vs.length := by rw [List.size_toArray]; exact hl
    refine keyH_end (κ := dataKind s1.heap kz) (h₁ := goneAt s1.heap kS) kp (gone_none k1) k1 a1 hka (by rw [List.toList_toArray]; exact SortsAt.data hk hal hsk hu) hsz hZ fun h3 tk3 c k3 n3 => ?_
    exact fin ks s1 h3 tk3 _ c j1 (fun b o n1 n2 q => k3 b o n1 (by rw [gone_old n2]; exact q)) n3 ⟨s1.heap, ks, hal, by rw [List.toList_toArray], hk⟩
/-- sorted(xs, key=f) -/
theorem sortedKeyJ {kw : List (Str × Value)} {Q : Value → Shared → Prop} {J : Nat → List Value → Shared → Prop} (hl : s.heap.IsList l vs.toArray) (hlen : kz.length = vs.length) (hZ : vs.length ≤ sizeLine) (hal : AllAlike kz) (hsk : Sortable kz)
    (hu : ∀ d, d ∈ kz → A.units + 2 + d.depth < cLine) (ha1 : argsOk "sorted" ⟨[.ref l], kw⟩) (ha2 : ∀ x, argsOk "list.sort" ⟨[.ref x], kw⟩) (ht : ∀ x, Builtin.«list.sort» ⟨[.ref x], kw⟩ = ksk_tree x f false)
    (T : KeyJ prog w A.in1.in1 s f vs kz (s.heap.objs.size + 1) (s.heap.objs.size + 3) J)
    (fin : ∀ ks s1 h' tk out c, J vs.length ks s1 → (∀ b o, b ≠ s.heap.objs.size + 1 → b ≠ s.heap.objs.size + 3 → s1.heap.get? b = some o → h'.get? b = some o) → h'.get? (s.heap.objs.size + 1) = some (seqObj "list" (List.toArray out) c) → KeyedOut false kz vs out →
      Q (.ref (s.heap.objs.size + 1)) { s1 with heap := h', toks := tk }) :
    wpAny (model prog w) A (call (.builtin "sorted") [.ref l] kw) Q E s := by
  refine sorted_of_sort hl hZ ha1 ha2 fun E' => ?_
  rw [ht]
  have ca := copyHeap_at s.heap vs
  have csz : (copyHeap s.heap vs).objs.size = s.heap.objs.size + 2 := by
    unfold copyHeap
    rw [size_push', Heap.size_update, size_push']
  obtain ⟨d, na⟩ : ∃ d, ((copyHeap s.heap vs).update (s.heap.objs.size + 1) (Obj.mapSeq fun _ => (#[] : Array Value))).get? (s.heap.objs.size + 1) = some (seqObj "list" #[] d) := ⟨_, get?_update_seq ca fun _ => #[]⟩
  have sb := Heap.SameBut.update (copyHeap s.heap vs) (s.heap.objs.size + 1) (Obj.mapSeq fun _ => (#[] : Array Value))
  unfold ksk_tree
  refine wpAny_bind (listItems_at ca rfl ?_)
  refine wpAny_bind (listUpdate_at ca rfl ?_ (by rw [List.size_toArray]; exact hZ) (Nat.zero_le _))
  refine wpAny_bind (seqEpoch_at na rfl ?_)
  refine wpAny_bind (wpAny_newTuple ?_ (by show vs.length ≤ _; exact hZ))
  refine wpAny_bind (wpAny_newList ?_ (Nat.zero_le _))
  refine wpAny_holding ?_
  have e3 : (((copyHeap s.heap vs).update (s.heap.objs.size + 1) (Obj.mapSeq fun _ => (#[] : Array Value))).push (seqObj "tuple" vs.toArray 0)).objs.size = s.heap.objs.size + 3 := by
    rw [size_push', Heap.size_update, csz]
  have old : ∀ b o, s.heap.get? b = some o → ((((copyHeap s.heap vs).update (s.heap.objs.size + 1) (Obj.mapSeq fun _ => (#[] : Array Value))).push (seqObj "tuple" vs.toArray 0)).push (seqObj "list" #[] 0)).get? b = some o := fun b o q =>
    Heap.get?_push_of_some _ (Heap.get?_push_of_some _ ((sb.2 b (Nat.ne_of_lt (Nat.lt_succ_of_lt (Heap.lt_size q)))).trans (copyHeap_old q)))
  have nk : ((((copyHeap s.heap vs).update (s.heap.objs.size + 1) (Obj.mapSeq fun _ => (#[] : Array Value))).push (seqObj "tuple" vs.toArray 0)).push (seqObj "list" #[] 0)).get? (((copyHeap s.heap vs).update (s.heap.objs.size + 1) (Obj.mapSeq fun _ => (#[] : Array Value))).push (seqObj "tuple" vs.toArray 0)).objs.size = some (seqObj "list" #[] 0) := Heap.get?_push_size _ rfl
  rw [e3] at nk
  show wpAny (model prog w) A.in1.in1 (ksk_rest _ f false vs.toArray _ (.ref (((copyHeap s.heap vs).update (s.heap.objs.size + 1) (Obj.mapSeq fun _ => (#[] : Array Value))).push (seqObj "tuple" vs.toArray 0)).objs.size)) _ _ _
  rw [e3]
  exact restJ (s := s) (a := s.heap.objs.size + 1) (kS := s.heap.objs.size + 3) T (T.start _ old) nk (Heap.get?_push_of_some _ (Heap.get?_push_of_some _ na)) (Nat.ne_of_gt (Nat.lt_succ_of_lt (Nat.lt_succ_self _))) hlen hZ hal hsk (fun d hd => hu d hd) fun ks s1 h' tk out c j kk n ko => ⟨rfl, fin ks s1 h' tk out c j kk n ko⟩
end
end K41
end
section
set_option linter.all false
set_option maxRecDepth 100000
/-! K41, layer D, eleventh part: sorted(xs, key=lambda x: ..). -/
namespace K41
open PySem PySem.Spec PyProof.Rows L2
/-- one parameter a; else captured names and globals -/
structure LamP (sc scope : Scope) (a : Str) : Prop where
  kind : scope.kind = .function
  co : scope.isCoroutine = false
  gen : scope.isGenerator = false
  par : scope.names.lookup a = some .local
  own : ∀ y ∈ scope.names, y.2 ≠ .cell ∧ (y.2 = .local → y.1 = a)
  free : ∀ y ∈ scope.names, y.2 = .free → sc.names.lookup y.1 = some .cell ∨ sc.names.lookup y.1 = some .free
def lamPB (sc scope : Scope) (a : Str) : Bool :=
  decide (scope.kind = .function) && !scope.isCoroutine && !scope.isGenerator && decide (scope.names.lookup a = some .local) && scope.names.all fun y => !decide (y.2 = .cell) && (!decide (y.2 = .local) || decide (y.1 = a)) && (!decide (y.2 = .free) || decide (sc.names.lookup y.1 = some .cell) || decide (sc.names.lookup y.1 = some .free))
theorem lamP_by {sc scope : Scope} {a : Str} (h : lamPB sc scope a = true) : LamP sc scope a := by
  unfold lamPB at h
  simp only [Bool.and_eq_true, Bool.or_eq_true, Bool.not_eq_true', decide_eq_true_eq, decide_eq_false_iff_not, List.all_eq_true] at h
  obtain ⟨⟨⟨⟨h1, h2⟩, h3⟩, h5⟩, h4⟩ := h
  refine ⟨h1, h2, h3, h5, fun y hy => ⟨(h4 y hy).1.1, fun e => ?_⟩, fun y hy e => ?_⟩
  · exact (h4 y hy).1.2.elim (fun z => absurd e z) id
  · rcases (h4 y hy).2 with (z | z) | z
    · exact absurd e z
    · exact .inl z
    · exact .inr z
theorem LamP.has {X : Cx} {scope : Scope} {a : Str} (L : LamP X.env.scope scope a) (ok : X.Ok) : ∀ y ∈ scope.names, y.2 = .free → ∃ c, X.env.cells.lookup y.1 = some c := fun y hy e =>
  (L.free y hy e).elim (fun k => ok.has _ (.inl k)) fun k => ok.has _ (.inr k)
section
variable {X : Cx} {pins : List (Addr × Obj)} {σ : L2.St} {H : Hp} {s : Shared}
theorem lamP_start {A : Around} {E : XK} {scope : Scope} {f c' : Addr} {h₁ : Heap} {tk j : Nat} {a : Str} {v : V} {u : Value} (I : Inv X pins σ H s) (L : LamP X.env.scope scope a) (e0 : Env0 X.prog X.w X.K X.mg X.base A X.stack s H) (hd : A.handled = none)
    (hns : h₁.Ns s.heap.objs.size fun y => [(a, u)].reverse.lookup y) (kp : ∀ b o, s.heap.get? b = some o → h₁.get? b = some o) (hN : X.N[j]? = some a) (nd : X.N.Nodup) (r : RelV v u) :
    Inv (LamX.lamCx X A X.stack s H E scope f c') [] (σ.set j (some v)) H { s with heap := h₁, toks := tk } := by
  have hfree := L.has I.ok
  have cm : ∀ {y c}, (cloFrom X.env.cells scope.names []).lookup y = some c → X.env.cells.lookup y = some c := fun {y c} e => by
    rcases cloFrom_mem (PySem.mem_of_lookup e) with hm | ⟨h1, h2⟩
    · cases hm
    · obtain ⟨c1, hc⟩ := hfree _ h1 rfl
      have hc' : X.env.cells.lookup y = some c1 := hc
      have e2 : c = c1 := by rw [h2, hc'] <;> rfl
      rw [e2]
      exact hc'
  have look : ∀ {y}, scope.names.lookup y = some .free → ∃ c, (cloFrom X.env.cells scope.names []).lookup y = some c := fun {y} hl =>
    mem_lookup (cloFrom_has (cells := X.env.cells) (acc := []) (PySem.mem_of_lookup hl))
  have cellK : ∀ {c : Addr} {x : Option Value}, s.heap.IsCell c x → h₁.IsCell c x := fun {c x} ⟨o, ho, hdd⟩ => ⟨o, kp _ _ ho, hdd⟩
  have noA : ∀ b : Addr, b ∉ (LamX.lamCx X A X.stack s H E scope f c').ex := fun b z => absurd (show b ∈ ([] : List Addr) from z) (by simp)
  have jl : j < σ.length := by rw [I.len]; exact (List.getElem?_eq_some_iff.mp hN).1
  refine ⟨⟨e0.mod, L.kind, rfl, rfl, Nat.le_refl _, fun y z c e1 e2 => I.ok.inj y z c (cm e1) (cm e2), fun y hy => ?_, fun y c z _ => ?_, fun _ => hd, Around.frames_deeper e0.frames, .inr ⟨rfl, rfl⟩, fun b z => absurd z (noA b), e0.bs, e0.bsz, fun b _ _ => noA b,
      fun b z => absurd z (noA b), e0.funs, e0.frf⟩,
    rfl, e0.bare, Un.kept kp, ⟨_, hns, fun i y x e1 e2 e3 => ?_⟩, fun y c e => ?_, e0.hok.fresh (Nat.le_refl _), fun y c e => ?_, fun q hq => absurd (show q ∈ ([] : List (Addr × Obj)) ++ [] from hq) (by simp), e0.hok.kept kp, by rw [List.length_set]; exact I.len⟩
  · have hy2 : scope.names.lookup y = some .cell ∨ scope.names.lookup y = some .free := hy
    rcases hy2 with q | q
    · exact absurd rfl (L.own _ (PySem.mem_of_lookup q)).1
    · exact look q
  · exact nomatch (show false = true from z)
  · have e4 : Vis scope y := e3
    have e5 : X.N[i]? = some y := e1
    rcases e4 with q | q | q
    · have ey : y = a := (L.own _ (PySem.mem_of_lookup q)).2 rfl
      subst ey
      have ei : i = j := nodup_ix nd e5 hN
      subst ei
      rw [List.getElem?_set_self jl] at e2
      cases e2
      exact ⟨u, r, .inl ⟨q, by simp⟩⟩
    · exact absurd rfl (L.own _ (PySem.mem_of_lookup q)).1
    · have ne : y ≠ a := fun z => by rw [z, L.par] at q; cases q
      have ni : j ≠ i := fun z => by
        rw [← z, hN] at e5
        exact ne (Option.some.inj e5).symm
      rw [List.getElem?_set_ne ni] at e2
      obtain ⟨m, hn, hl⟩ := I.loc
      have hvis : Vis X.env.scope y := (L.free _ (PySem.mem_of_lookup q) rfl).elim (fun k => .inr (.inl k)) (fun k => .inr (.inr k))
      obtain ⟨w', rr, z⟩ := hl i y x e5 e2 hvis
      obtain ⟨c2, h2⟩ := look q
      refine ⟨w', rr, .inr ⟨.inr q, c2, h2, ?_⟩⟩
      have c1 := cm h2
      rcases z with ⟨k', _⟩ | ⟨_, c3, e', z⟩
      · have k2 : X.env.scope.names.lookup y = some .local := k'
        rcases L.free _ (PySem.mem_of_lookup q) rfl with k3 | k3 <;> rw [show X.env.scope.names.lookup y = _ from k3] at k2 <;> cases k2
      · rw [c1] at e'
        cases e'
        exact cellK z
  · obtain ⟨w', z⟩ := I.cell y c (cm e)
    exact ⟨w', cellK z⟩
  · obtain ⟨x, o, ho, hdd⟩ := I.cell y c (cm e)
    exact I.freeC y c (cm e)
/-- the lambda called with one thing -/
theorem lamP_call {A : Around} {scope : Scope} {f c' : Addr} {j k : Nat} {a : Str} {v : V} {u : Value} {pm ctv : Value} {params : Arguments} {body : Expr} {tb : TE} {Q : VK} {EE : Value → Shared → Prop} (I : Inv X pins σ H s) (L : LamP X.env.scope scope a)
    (hf : s.heap.get? f = some (PySem.W.kla_obj "<lambda>" (X.env.qual ++ "<lambda>") params body scope (cloFrom X.env.cells scope.names []) pm c' ctv)) (hc : H c' = some (LamX.CodeO c' (X.env.qual ++ "<lambda>")))
    (hbind : ∀ u, bindArgs (PySem.W.kla_fn "<lambda>" (X.env.qual ++ "<lambda>") params body scope (cloFrom X.env.cells scope.names []) pm (.ref c') ctv) ⟨[u], []⟩ = pure [(a, u)])
    (hr : Room (k + 1) A) (e0 : Env0 X.prog X.w X.K X.mg X.base A X.stack s H) (hN : X.N[j]? = some a) (nd : X.N.Nodup) (r : RelV v u)
    (hbody : PE (LamX.lamCx X A X.stack s H E0 scope f c') body tb) (ht : tb (σ.set j (some v)) H Q) :
    wpAny (model X.prog X.w) A (call (.ref f) [u]) (EP X pins σ Q) EE s := by
  obtain ⟨⟨oc, vs, t, hoc, hdc, hvc⟩, _, _⟩ := I.hok c' _ hc
  have rc : codeAny (model X.prog X.w) A (.call (.ref f) ⟨[u], []⟩) (CR (L2.CX X.prog X.w) X.stack X.prog X.w H s Q E0) s := by
    refine PySem.W.kla_callFunE hr.depth hf rfl L.co L.gen rfl ⟨c', oc, vs, t, rfl, hoc, hdc, hvc⟩ ?_
    rw [hbind]
    refine wpAny_pure (wpAny_newFunctionEnv (fun y hy => (L.own y hy).1) (fun y hy => ?_) (fun h₁ hns hsb => ⟨I.nolimit.fresh _ hsb, ?_⟩) L.kind)
    · obtain rfl : y = (a, u) := by simpa using hy
      exact L.par
    · have kp : ∀ b o, s.heap.get? b = some o → h₁.get? b = some o := fun b o e => hsb.extBut b o (Nat.ne_of_lt (Heap.lt_size e)) (Heap.get?_push_of_some _ e)
      have J : Inv (LamX.lamCx X A X.stack s H E0 scope f c') [] (σ.set j (some v)) H { s with heap := h₁, toks := s.toks + ([(a, u)] : List (Str × Value)).length } :=
        lamP_start I L e0 hr.hd hns kp hN nd r
      refine PySem.W.kla_codeExpr (wpAny_mono (hbody.run [] _ _ H Q J ht) (fun x s' hq => ?_) fun e s' hq => hq)
      obtain ⟨w', H', J', rv, q⟩ := hq
      exact ⟨w', H', J'.os, J'.bare, J'.base, J'.hok, rv, q⟩
  refine wpAny_call (codeAny_mono rc fun res s' hq => ?_)
  cases res with
  | error e =>
    obtain ⟨_, _, _, _, _, _, _, _, _, _, _, _, z⟩ := (show L2.CX X.prog X.w X.stack H s E0 e s' from hq)
    exact False.elim z
  | ok fl =>
    cases fl with
    | ret x => exact I.after hq
    | next => exact False.elim hq
    | brk => exact False.elim hq
    | cont => exact False.elim hq
/-- some records turned, one of them is known from now on -/
theorem turnedKnown {h' : Heap} {t' : Nat} {ch : List Addr} {p : Addr} {ob : HO} (I : Inv X pins σ H s) (k : ∀ b o, b ∉ ch → s.heap.get? b = some o → h'.get? b = some o) (hf : ∀ b ∈ ch, FpOk X pins H b) (hp : p ∈ ch)
    (new : ObjOk X.prog X.w (upd H p ob) h' p ob) : Inv X pins σ (upd H p ob) { s with heap := h', toks := t' } := by
  have hn : H p = none := (hf p hp).1
  have nit : ∀ b u, H b = some u → b ∉ ch := fun b u e z => by
    rw [(hf b z).1] at e
    cases e
  refine I.step (g' := s.gens) (d' := s.drawn) (ch := ch) (fun b hb => let q := hf b hb; ⟨q.2.2.2.1, q.2.1, q.2.2.2.2.1, q.2.2.2.2.2⟩) (fun b o _ _ hc e _ => k b o hc e) (fun b o _ _ hc e _ => ⟨o.slots, k b o hc e⟩)
    (fun b o hc e n => ?_) (fun b o hc e => ⟨o, k b o hc e⟩) (fun b xs e => ?_) (fun b o u e => ?_) (fun b ps e => ⟨#[], ?_⟩) (fun m hm => ?_) (fun b u e => ?_) I.bare
  · rw [upd_ne (fun (z : b = p) => hc (z ▸ hp))]
    exact n
  · rw [upd_ne (ne_of_none e hn)]
    exact e
  · rw [upd_ne (ne_of_none e hn)]
    exact e
  · rw [upd_ne (ne_of_none e hn), e]
    simp
  · obtain ⟨o, es, ep, ho, rr⟩ := hm
    exact ⟨o, es, ep, k _ o (fun z => (hf _ z).2.1 rfl) ho, rr⟩
  · by_cases hb : b = p
    · subst hb
      rw [upd_same] at e
      cases e
      exact new
    · rw [upd_ne hb] at e
      refine (I.hok b u e).stay (fun c v hc q => k c v (hc.elim (fun z => by rw [z]; exact nit b u e) (fun z => nit c _ z)) q) (fun c q => by rw [upd_ne (ne_of_none q hn)]; exact q) fun c xs q => by rw [upd_ne (ne_of_none q hn)]; exact q
end
end K41
end
section
set_option linter.all false
set_option maxRecDepth 100000
/-! K41, layer D, twelfth part: sorted(xs, key=lambda x: ..), the rule; its law on data. -/
namespace K41
open PySem PySem.Spec PyProof.Rows L2
open Classical
/-- the reading: j is the slot of the lambda's parameter -/
def tSortL (T : List (Addr × Str)) (K : PySem.W.Frag) (j : Nat) (ta : TA) (tb : TE) : TE := fun σ H Q => ta σ H fun vs H1 => LamX.Tabs T H1 ∧ ∃ a xs, vs = [.ref a] ∧ H1 a = some (.lst xs) ∧
  ∀ H2, LamX.ExtN H1 H2 → LamX.Tabs T H2 → ∃ (kz : List PyData) (J : Nat → List V → Hp → Prop), (kz.length = xs.length ∧ xs.length ≤ 1000 ∧ PySem.W.AllAlike kz ∧ PySem.W.Sortable kz ∧ ∀ d ∈ kz, d.depth ≤ 60) ∧ J 0 [] H2 ∧ (∀ i ks H3, J i ks H3 → LamX.ExtN H2 H3) ∧
    (∀ i x ks H3, xs[i]? = some x → ks.length = i → J i ks H3 → tb (σ.set j (some x)) H3 fun k H4 => J (i + 1) (ks ++ [k]) H4) ∧
    ∀ ks H3, J xs.length ks H3 → DpAll K H3 ks kz ∧ ∀ p, H3 p = none → Q (.ref p) (upd H3 p (.lst (((xs.zip kz).mergeSort (PySem.W.dataLe false (·.2))).map (·.1))))
theorem dps_reads {X : Cx} {pins : List (Addr × Obj)} {σ : L2.St} {H : Hp} {s : Shared} (I : Inv X pins σ H s) : ∀ {ks : List V} {kz : List PyData} {us : List Value}, DpAll X.K H ks kz → Vals ks us → PySem.W.EachIs (fun u k => ∃ as, Reads s.heap u k as) us kz
  | [], [], _, _, r => by cases r; exact .nil
  | k :: ks, d :: kz, _, h, r => by
    cases h with
    | cons h1 h2 =>
      cases r with
      | cons r1 r2 => exact .cons (Dp.reads I d k _ h1 r1) (dps_reads I h2 r2)
  | [], _ :: _, _, h, _ => by cases h
  | _ :: _, [], _, h, _ => by cases h
theorem vals_zip {xs : List V} {us : List Value} : ∀ {kz : List PyData}, Vals xs us → kz.length = xs.length → PySem.W.EachIs (fun u (b : V × PyData) => RelV b.1 u) us (xs.zip kz) := by
  induction xs generalizing us with
  | nil => intro kz r _; cases r; exact .nil
  | cons x xs ih =>
    intro kz r h
    cases kz with
    | nil => simp at h
    | cons k kz =>
      cases r with
      | cons r1 r2 => exact .cons r1 (ih r2 (by simpa using h))
theorem vals_snoc {xs : List V} {us : List Value} {x : V} {u : Value} (h : Vals xs us) (r : RelV x u) : Vals (xs ++ [x]) (us ++ [u]) := by
  induction h with
  | nil => exact .cons r .nil
  | cons a b ih => exact .cons a ih
theorem vals_len {xs : List V} {us : List Value} (h : Vals xs us) : us.length = xs.length := by
  induction h with
  | nil => rfl
  | cons a b ih => simp [ih]
section
variable {X : Cx}
theorem pe_sortLam {T : List (Addr × Str)} {c P : Addr} {k j : Nat} {l : Expr} {ta : TA} {tb : TE} {params : Arguments} {body : Expr} {scope : Scope} {lpos pos p kpos : Pos} {a : Str} (hg : Gl X "sorted") (hm : X.mg "sorted" = none) (ha : PA X [l] ta)
    (TB : LamX.TabB X.base X.mg c P) (hcode : X.env.code = .ref c) (hmT : (P, X.env.qual ++ "<lambda>") ∈ T) (hu : ∀ p ∈ T, p.1 = P → p.2 = X.env.qual ++ "<lambda>") (hr : Room (k + 4) X.A) (L : LamP X.env.scope scope a) (hN : X.N[j]? = some a) (nd : X.N.Nodup)
    (hdef : defaultsOf params X.env = ([], []))
    (hbind : ∀ (cl : List (Str × Addr)) (pm cv ctv u : Value), bindArgs (PySem.W.kla_fn "<lambda>" (X.env.qual ++ "<lambda>") params body scope cl pm cv ctv) ⟨[u], []⟩ = pure [(a, u)])
    (hbody : ∀ (s : Shared) (H : Hp) (f c' : Addr), Room k (X.A.in1.in1.deeper (LamX.lamEnv X scope s.heap.objs.size f c')) → PE (LamX.lamCx X X.A.in1.in1 X.stack s H E0 scope f c') body tb)
    (he : backTo pos (starEach [l] X.env) = (false, eval l X.env) :: backTo pos (starEach [] X.env) := by rfl) (hpl : (backTo pos (starEach [l] X.env)).any (·.1) = false := by rfl)
    (hall : (backToKw pos (keywordEach [⟨some "key", .Lambda params body scope lpos, kpos⟩] X.env)).all (·.1.isSome) = true := by rfl) (hnone : (backToKw pos (keywordEach [⟨some "key", .Lambda params body scope lpos, kpos⟩] X.env)).any (·.1.isNone) = false := by rfl)
    (hks : (backToKw pos (keywordEach [⟨some "key", .Lambda params body scope lpos, kpos⟩] X.env)).filterMap (·.1) = [Str.ofString "key"] := by rfl) :
    PE X (.Call (.Name "sorted" p) [l] [⟨some "key", .Lambda params body scope lpos, kpos⟩] pos) (tSortL T X.K j ta tb) := by
  refine ⟨fun pins s σ H Q I h => ?_⟩
  refine wpAny_Call_Name_kw (ld_blt (u := .builtin "sorted") I hg hm (by decide +kernel) ?_ (by decide) (by decide))
  refine PyProof.Rows.callWith_kw (thn (ha.run pos pins s σ H _ I h) fun us s1 ⟨vs, H1, I1, r1, hT, x, xs, ex, hs, q⟩ => ?_) he hpl hall hnone
  subst ex
  obtain rfl := Vals.ref1 r1
  show wpAny _ _ (evalAll [do let v ← eval (.Lambda params body scope lpos) X.env; standAt pos; pure v]) _ _ s1
  refine wpAny_evalAll_cons (wpAny_bind (LamX.lam_make2 I1 TB hcode hmT hu hT hdef (L.has I.ok) fun f c' pm ctv H2 s2 I2 eN T2 hf hfn hfr hco => wpAny_bind (wpAny_standAt (wpAny_pure ?_))))
  refine wpAny_evalAll_nil ?_
  rw [hks]
  show wpAny _ _ (call (.builtin "sorted") [.ref x] [(Str.ofString "key", .ref f)]) _ _ s2
  obtain ⟨kz, J, ⟨hlen, hl, hal, hsk, hdep⟩, j0, jE, jt, jf⟩ := q H2 eN T2
  have hs2 : H2 x = some (.lst xs) := eN _ _ hs nt_lst
  obtain ⟨zz, its, n, rv, hob⟩ := I2.hok x _ hs2
  have lits : its.length = xs.length := vals_len rv
  -- the lambda's object is pinned
  let fo : Obj := PySem.W.kla_obj "<lambda>" (X.env.qual ++ "<lambda>") params body scope (cloFrom X.env.cells scope.names []) pm c' ctv
  have fs : ∀ b, b ∈ X.fs → b ∈ frs X.stack := fun b hb => by
    rcases I2.ok.stk with e | ⟨e, _⟩
    · rw [e]; exact hb
    · rw [e]
      unfold frs
      rw [List.filterMap_cons]
      split
      · exact hb
      · exact List.mem_cons_of_mem _ hb
  have nl : f ≠ X.env.locals := fun z => by
    obtain ⟨m, ⟨o, es, ep, ho, hd, _⟩, _⟩ := I2.loc
    rw [← z, hf] at ho
    cases ho
    cases hd
  have I3 : Inv X ((f, fo) :: pins) σ H2 s2 := I2.pins_of fun q hq => by
    rcases List.mem_cons.mp hq with e | hq
    · subst e
      exact ⟨hf, hfn, nl, fun z => hfr (fs _ z), fun v z => by cases z⟩
    · exact I2.pin q (List.mem_append_right _ hq)
  have fA := I3.fpOk (b := s2.heap.objs.size + 1) (H' := H2) (Nat.le_succ _) (I2.hok.fresh (Nat.le_succ _))
  have fK := I3.fpOk (b := s2.heap.objs.size + 3) (H' := H2) (Nat.le_add_right _ 3) (I2.hok.fresh (Nat.le_add_right _ 3))
  have rA : Room (k + 2) X.A.in1.in1 := hr.in1.in1
  have hun := hr.un
  refine sortedKeyJ (kz := kz) (vs := its) (f := .ref f) (J := fun i ks s3 => ∃ H3 kvs, Inv X ((f, fo) :: pins) σ H3 s3 ∧ Vals kvs ks ∧ J i kvs H3 ∧ H3 (s2.heap.objs.size + 1) = none ∧ H3 (s2.heap.objs.size + 3) = none)
    ⟨_, hob, rfl, n, rfl⟩ (by rw [lits]; exact hlen) (by rw [lits]; exact sz1000 hl) hal hsk (fun d hd => by have := hdep d hd; omega) (PyProof.Rows.ksk_s1 _ _) (fun _ => PyProof.Rows.ksk_l1 _ _) (fun _ => PyProof.Rows.ksk_t1 _ _) ⟨fun h hk => ?_, fun i v ks e d s3 hv hki ⟨H3, kvs, I4, rk, jj, nA, nK⟩ k1 a1 => ?_, fun ks s3 ⟨H3, kvs, I4, rk, jj, nA, nK⟩ => ?_⟩ ?_
  · exact ⟨H2, [], I3.kept (t' := s2.toks) hk, .nil, j0, fA.1, fK.1⟩
  · -- a turn
    have I5 : Inv X ((s2.heap.objs.size + 3, seqObj "list" ks.toArray e) :: (s2.heap.objs.size + 1, seqObj "list" #[] d) :: (f, fo) :: pins) σ H3 s3 := I4.pins_of fun q hq => by
      rcases List.mem_cons.mp hq with z | hq
      · subst z
        exact ⟨k1, nK, fK.2.1, fK.2.2.1, fun v z => by cases z⟩
      · rcases List.mem_cons.mp hq with z | hq
        · subst z
          exact ⟨a1, nA, fA.2.1, fA.2.2.1, fun v z => by cases z⟩
        · exact I4.pin q (List.mem_append_right _ hq)
    obtain ⟨xv, hxv, rxv⟩ : ∃ xv, xs[i]? = some xv ∧ RelV xv v := by
      have hi : i < xs.length := by rw [← lits]; exact (List.getElem?_eq_some_iff.mp hv).1
      obtain ⟨u, hu, ru⟩ := rv.get (List.getElem?_eq_getElem hi)
      rw [hv] at hu
      cases hu
      exact ⟨_, List.getElem?_eq_getElem hi, ru⟩
    have klen : kvs.length = i := by rw [← vals_len rk]; exact hki
    have c3 : H3 c' = some (LamX.CodeO c' (X.env.qual ++ "<lambda>")) := jE i kvs H3 jj _ _ hco LamX.codeO_ne
    have f3 : s3.heap.get? f = some fo := (I4.pin (f, fo) (List.mem_append_right _ List.mem_cons_self)).1
    refine wpAny_mono (lamP_call (k := k + 1) (EE := fun _ _ => False) I5 L f3 c3 (fun u => hbind _ _ _ _ u) rA I4.env0.in1.in1 hN nd rxv (hbody s3 H3 f c' (rA.mono (Nat.le_succ _) |>.deeper _)) (jt i xv kvs H3 hxv klen jj)) (fun u s4 ⟨kv, H4, I6, ru, j4⟩ => ?_) fun _ _ q => q
    have p1 := I6.pin (s2.heap.objs.size + 3, seqObj "list" ks.toArray e) (List.mem_append_right _ List.mem_cons_self)
    have p2 := I6.pin (s2.heap.objs.size + 1, seqObj "list" #[] d) (List.mem_append_right _ (List.mem_cons_of_mem _ List.mem_cons_self))
    refine ⟨⟨p1.1, p2.1⟩, fun h hk ⟨o, ho⟩ => ⟨H4, kvs ++ [kv], ?_, vals_snoc rk ru, j4, p2.2.1, p1.2.1⟩⟩
    have I7 : Inv X ((f, fo) :: pins) σ H4 s4 := I6.pins_of fun q hq => I6.pin q (List.mem_append_right _ (List.mem_cons_of_mem _ (List.mem_cons_of_mem _ hq)))
    exact I7.turned (t' := s4.toks) (it := s2.heap.objs.size + 3) hk p1.2.1 fK.2.1 fK.2.2.2.1 fK.2.2.2.2.1 fK.2.2.2.2.2
  · rw [lits] at jj
    exact dps_reads I4 (jf kvs H3 jj).1 rk
  · rintro ks s3 h' tk out cc ⟨H3, kvs, I4, rk, jj, nA, nK⟩ kk na ko
    rw [lits] at jj
    have he : PySem.W.EachIs (fun u (b : V × PyData) => RelV b.1 u) its (xs.zip kz) := vals_zip rv hlen
    have ez : (xs.zip kz).map (·.2) = kz := List.map_snd_zip (by omega)
    have ho := PySem.W.keyedOut_each (bs := xs.zip kz) (R := fun u (b : V × PyData) => RelV b.1 u) (·.2) (by rw [ez]; exact ko) he
    have J1 : Inv X ((f, fo) :: pins) σ (upd H3 (s2.heap.objs.size + 1) (.lst (((xs.zip kz).mergeSort (PySem.W.dataLe false (·.2))).map (·.1)))) { s3 with heap := h', toks := tk } := by
      refine turnedKnown (ch := [s2.heap.objs.size + 1, s2.heap.objs.size + 3]) I4 (fun b o hb q => kk b o (fun z => hb (by simp [z])) (fun z => hb (by simp [z])) q) (fun b hb => ?_) List.mem_cons_self ⟨?_, out, cc, vals_of_each ho, na⟩
      · rcases (by simpa using hb : b = s2.heap.objs.size + 1 ∨ b = s2.heap.objs.size + 3) with z | z
        · rw [z]; exact ⟨nA, fA.2⟩
        · rw [z]; exact ⟨nK, fK.2⟩
      · rw [List.length_map, List.length_mergeSort, List.length_zip]
        exact sz1000 (by omega)
    exact ⟨.ref (s2.heap.objs.size + 1), _, J1.pins_of fun q hq => J1.pin q (List.mem_append_right _ (List.mem_cons_of_mem _ hq)), rfl, (jf kvs H3 jj).2 _ nA⟩
end
section
variable {T : List (Addr × Str)} {M : Am T} {K : PySem.W.Frag} {Γ : Env'} {R : List PyData → Prop}
theorem f_sortLam {α : Type} (l : List α) (enc key : α → PyData) {j : Nat} {ta : TA} {tb : TE} (hW : M.W = []) (hj : freeOf Γ [j] = true) (h : EvA M ta Γ fun as => as = [.list (l.map enc)]) (hl : l.length ≤ 1000) (al : PySem.W.AllAlike (l.map key)) (so : PySem.W.Sortable (l.map key))
    (dep : ∀ a ∈ l, (key a).depth ≤ 60) (hk : ∀ a ∈ l, EvD M tb (Γ.set j (some (.dat (enc a)))) fun d => d = key a) (r : R ((l.mergeSort (PySem.W.dataLe false key)).map enc)) : EvF M (tSortL T K j ta tb) Γ R := fun O A σ H Q S f =>
  h O A σ H _ S fun vs ds H1 e k i hs => by
    subst e
    obtain ⟨v, rfl, hv⟩ := hs.one
    obtain ⟨a, xs, rfl, ha, hx⟩ := hv.lstAt
    have S1 := S.step k i
    have xl : xs.length = l.length := by rw [hx.len, List.length_map]
    refine ⟨M.tabs _ i, a, xs, rfl, hid_le _ _ ha, fun H2 eN T2 => ?_⟩
    have k2 : Keep [] H1 H2 := fun b o eb _ n => eN b o eb n
    have i2 := M.mono _ _ i k2 T2
    have nM : ¬ Mine Γ j := freeOf_not hj j (by simp)
    have own : ∀ d : PyData, Own O A (Γ.set j (some (.dat d))) = Own O A Γ := fun d => funext fun b => propext ⟨fun q => q.elim .inl fun ⟨n, m, en⟩ => .inr ⟨n, (mine_set (c := some (.dat d)) (fun x e => by cases e; exact id) m).1, en⟩,
      fun q => q.elim .inl fun ⟨n, m, en⟩ => .inr ⟨n, by
        obtain ⟨c, ec, mc⟩ := m
        have nj : j ≠ n := fun z => nM (z ▸ ⟨c, ec, mc⟩)
        exact ⟨c, by rw [List.getElem?_set_ne nj]; exact ec, mc⟩, en⟩⟩
    have cl : ∀ {Ha Hb : Hp}, Keep [] Ha Hb → ∀ b o, hid (Own O A Γ) Ha b = some o → Nt o → hid (Own O A Γ) Hb b = some o := fun {Ha Hb} kk b o eb n => by
      obtain ⟨q1, q2⟩ := hid_some.mp eb
      exact hid_some.mpr ⟨q1, kk b o q2 (by simp) n⟩
    refine ⟨l.map key, fun n ks H3 => Keep [] H2 H3 ∧ M.inv H3 ∧ Dats (hid (Own O A Γ) H3) ks ((l.take n).map key), ⟨by rw [List.length_map, xl], by rw [xl]; exact hl, al, so, fun d hd => ?_⟩, ⟨Keep.refl, i2, .nil⟩, fun n ks H3 q b o eb nt => q.1 b o eb (by simp) nt, fun n x ks H3 hxn _ ⟨k3, i3, hks⟩ => ?_, fun ks H3 ⟨k3, i3, hks⟩ => ?_⟩
    · obtain ⟨b, hb, rfl⟩ := List.mem_map.mp hd
      exact dep b hb
    · have hn : n < l.length := by rw [← xl]; exact (List.getElem?_eq_some_iff.mp hxn).1
      have hz : l[n]? = some l[n] := List.getElem?_eq_getElem hn
      have hm := List.mem_of_getElem? hz
      obtain ⟨d, hd1, hd2⟩ := hx.get hxn
      rw [List.getElem?_map, hz] at hd1
      cases hd1
      have S3 := S1.step (Keep.wide (k2.trans k3)) i3
      have hd3 := hd2.up (cl (k2.trans k3))
      obtain ⟨S4, _⟩ := S3.put (j := j) (c := some (.dat (enc l[n]))) (v := some x) (fun z e => by cases e; exact id) fun z e => by cases e; exact ⟨x, rfl, hd3⟩
      refine hk _ hm O A (σ.set j (some x)) H3 _ S4 fun y e H4 pe k4 i4 he => ?_
      rw [hW] at k4
      rw [own] at he
      refine ⟨k3.trans k4, i4, ?_⟩
      rw [List.take_add_one, hz, List.map_append]
      exact (hks.up (cl k4)).app (.cons (by rw [← pe]; exact he) .nil)
    · rw [xl, List.take_length] at hks
      refine ⟨Dats.dp _ _ hks.top, fun p hp => ?_⟩
      have S3 := S1.step (Keep.wide (k2.trans k3)) i3
      have e1 : xs.zip (l.map key) = (xs.zip l).map fun b => (b.1, key b.2) := by
        rw [List.zip_map_right]
        rfl
      have e2 : (xs.zip l).map (·.2) = l := List.map_snd_zip (by omega)
      have s1 := PySem.W.sort_maps (r := fun a b : V × α => PySem.W.dataLe false key a.2 b.2) (s := PySem.W.dataLe false (·.2)) (fun b : V × α => (b.1, key b.2)) (l := xs.zip l) fun _ _ _ _ => rfl
      have s2 := PySem.W.sort_maps (r := fun a b : V × α => PySem.W.dataLe false key a.2 b.2) (s := PySem.W.dataLe false key) (fun b : V × α => b.2) (l := xs.zip l) fun _ _ _ _ => rfl
      rw [e2] at s2
      have e3 : ((xs.zip (l.map key)).mergeSort (PySem.W.dataLe false (·.2))).map (·.1) = ((xs.zip l).mergeSort fun a b : V × α => PySem.W.dataLe false key a.2 b.2).map (·.1) := by
        rw [e1, ← s1, List.map_map]
        rfl
      have e4 : (l.mergeSort (PySem.W.dataLe false key)).map enc = ((xs.zip l).mergeSort fun a b : V × α => PySem.W.dataLe false key a.2 b.2).map fun b => enc b.2 := by
        rw [← s2, List.map_map]
        rfl
      have hx3 := hx.up (cl (k2.trans k3))
      have mem : ∀ b ∈ (xs.zip l).mergeSort fun a b : V × α => PySem.W.dataLe false key a.2 b.2, Dat (hid (Own O A Γ) H3) b.1 (enc b.2) := fun b hb => by
        have hb2 := List.mem_mergeSort.mp hb
        obtain ⟨n, hn, en⟩ := List.getElem_of_mem hb2
        have e5 : (xs.zip l)[n]? = some b := by rw [List.getElem?_eq_getElem hn, en]
        rw [List.getElem?_zip_eq_some] at e5
        obtain ⟨d, h1, h2⟩ := hx3.get e5.1
        rw [List.getElem?_map, e5.2] at h1
        cases h1
        exact h2
      have hD : ∀ bs : List (V × α), (∀ b ∈ bs, Dat (hid (Own O A Γ) H3) b.1 (enc b.2)) → Dats (hid (Own O A Γ) H3) (bs.map (·.1)) (bs.map fun b => enc b.2) := fun bs => by
        induction bs with
        | nil => exact fun _ => .nil
        | cons b bs ih => exact fun h => .cons (h b List.mem_cons_self) (ih fun c m => h c (List.mem_cons_of_mem _ m))
      rw [e3]
      refine f p _ _ _ r ?_ (S3.ownNew hp) (((k.trans (Keep.wide k2)).trans (Keep.wide k3)).trans (Keep.new hp)) (M.grow i3 (upd_grow hp)) upd_same ?_
      · exact Fr.of ((k.trans (Keep.wide k2)).trans (Keep.wide k3)) (fun z => by rw [hW] at z; cases z) hp
      · rw [e4]
        exact (hD _ mem).up fun b o q _ => hid_more hp b o q
end
end K41
end
section
set_option linter.all false
set_option maxRecDepth 100000
/-! K41, layer D, thirteenth part: list(dict); a pair of data and a fresh list unpacked; dict display. -/
namespace K41
open PySem PySem.Spec PyProof.Rows L2
open Classical
section
variable {T : List (Addr × Str)} {M : Am T} {K : PySem.W.Frag} {Γ : Env'} {R : List PyData → Prop} {P : Out → Prop} {ta tb : TE}
theorem keys_dats {H : Hp} {hd : Addr → Prop} (hn : ∀ b xs, H b = some (.tup xs) → ¬ hd b) : ∀ {kvs : List (List Key × V)} {bs : List Addr} {nss : List (List Int)}, IsKeys H kvs bs → kvs.map (·.1) = nss.map kI → Dats (hid hd H) (bs.map V.ref) (nss.map fun ns => .tuple (ns.map .int))
  | [], [], [], _, _ => .nil
  | [], _ :: _, _, h, _ => by cases h
  | _ :: _, [], _, h, _ => by cases h
  | [], [], _ :: _, _, e => by simp at e
  | _ :: _, _ :: _, [], _, e => by simp at e
  | p :: kvs, b :: bs, ns :: nss, h, e => by
    unfold IsKeys at h
    cases h with
    | cons h1 h2 =>
      simp only [List.map_cons, List.cons.injEq] at e
      have h1' : H b = some (.tup (p.1.map kV)) := h1
      refine .cons (.tup (hid_some.mpr ⟨hn b _ h1', h1'⟩) ?_) (keys_dats hn h2 e.2)
      rw [e.1, kI_V]
      exact Dats.ofInts ns
theorem f_listDct {j : Nat} {kvs : List (List Key × V)} {nss : List (List Int)} (h : Γ[j]? = some (some (.dct kvs))) (e : kvs.map (·.1) = nss.map kI) (r : R (nss.map fun ns => .tuple (ns.map .int))) :
    EvF M (tCB (fun xs H Q => ∃ d kvs, xs = [V.ref d] ∧ Rd H d (.dT kvs) ∧ ∀ p bs, H p = none → IsKeys H kvs bs → Q (.ref p) (upd H p (.lst (bs.map V.ref)))) (tCons (tVar j) tNil)) Γ R := fun O A σ H Q S f => by
  obtain ⟨e1, nO, h1⟩ := S.cell j _ h
  refine ⟨_, e1, A j, kvs, rfl, .inl h1, fun p bs hp hk => ?_⟩
  refine f p _ _ _ r (Fr.none hp) (S.ownNew hp) (Keep.new hp) (M.grow S.inv (upd_grow hp)) upd_same ((keys_dats (fun b xs hb z => ?_) hk e).up fun b o q _ => hid_more hp b o q)
  obtain ⟨o, ho, ld⟩ := S.ownDom z
  rw [hb] at ho
  cases ho
  rcases ld with ⟨_, q⟩ | ⟨_, q⟩ <;> cases q
/-- (data, fresh list) unpacked into two names -/
theorem r_tupF {i j : Nat} (hij : i ≠ j) (hj : j < Γ.length) (h : EvD M ta Γ fun d => EvF M tb Γ fun ds => P (.nx ((Γ.set i (some (.dat d))).set j (some (.lst ds))))) : Run M (tAsg (tTup (tCons ta (tCons tb tNil))) (gTup K 2 (gCons (gName i) (gCons (gName j) gNil)))) Γ P := fun H0 O A σ H D S L =>
  h O A σ H _ S.sit fun x d H1 hf k1 i1 hx => hf O A σ H1 _ (S.step k1 i1).sit fun p vs ds H2 pp fr nO k2 i2 e hd => by
    have S1 := S.step k1 i1
    refine ⟨by show 2 ≤ sizeLine; decide, fun q hq => ?_⟩
    have nq : q ≠ p := fun z => by rw [z, e] at hq; cases hq
    have kq : Keep M.W H1 (upd H2 q (.tup [x, .ref p])) := k2.trans (Keep.new hq)
    have iq := M.grow i2 (upd_grow (o := .tup [x, .ref p]) hq)
    have eq : upd H2 q (.tup [x, .ref p]) p = some (.lst vs) := by rw [upd_ne (Ne.symm nq)]; exact e
    have nh : ¬ (fun a => Own O A Γ a ∨ a = p) q := fun z => by
      rcases z with z | z
      · obtain ⟨o, ho, ld⟩ := (S1.step k2 i2).sit.ownDom z
        rw [hq] at ho
        cases ho
      · exact nq z
    have hdq : Dats (hid (fun a => Own O A Γ a ∨ a = p) (upd H2 q (.tup [x, .ref p]))) vs ds := hd.up fun b o eb _ => hid_new nh hq b o eb
    obtain ⟨s1, l1⟩ := S1.sit.put (j := i) (c := some (.dat d)) (v := some x) (fun z e => by cases e; exact id) fun z e => by cases e; exact ⟨x, rfl, hx⟩
    have S2 : SitR M H0 O A (Γ.set i (some (.dat d))) (σ.set i (some x)) H1 := ⟨s1, S1.keep, fun n m => S.fr n (mine_set (c := some (.dat d)) (fun x e => by cases e; exact id) m).1⟩
    obtain ⟨s3, c3⟩ := S2.putL (j := j) (by rw [List.length_set]; exact hj) fr (fun z => nO (l1 p z)) kq iq eq (hdq.up fun b o q _ => hid_less (fun a z => z.elim (fun z => .inl (l1 a z)) .inr) b o q)
    refine ⟨q, [x, .ref p], rfl, SqT.of upd_same, rfl, x, [.ref p], rfl, .ref p, [], rfl, rfl, ?_⟩
    exact L.nx _ _ _ _ pp s3 (((S.cln k1).trans fun b o e _ => hid_less l1 b o e).trans c3)
end
end K41
end
section
set_option linter.all false
set_option maxRecDepth 100000
/-! K41, layer D, fourteenth part: sorted(set(..)) of tuples of ints; isinstance(x, tuple); list.extend(tuple). -/
namespace K41
open PySem PySem.Spec PyProof.Rows L2
open Classical
section
variable {X : Cx} {K : PySem.W.Frag} {P : Program} {w : World}
theorem x_setOfT (h : X.K = K) (hp : X.prog = P) (hw : X.w = w) (hc : X.calm = true) (hu : X.A.units + 64 < cLine) : CallR X (.type "set") (rSetOfT K P w) := h ▸ hp ▸ hw ▸ cr_setOfT hc hu
theorem x_sortedT (h : X.K = K) (hp : X.prog = P) (hw : X.w = w) (hc : X.calm = true) : CallR X (.builtin "sorted") (rSortedT K P w) := h ▸ hp ▸ hw ▸ cr_sortedT hc
theorem x_isi (h : X.K = K) : CallR X (.builtin "isinstance") (rIsi K) := h ▸ call_isi
/-- list.extend(tuple) -/
def rExtT (K : PySem.W.Frag) : V → List V → Hp → VK → Prop := fun x vs H Q => ∃ l b xs zs, x = .ref l ∧ vs = [.ref b] ∧ H l = some (.lst xs) ∧ SqT K H b zs ∧ xs.length + zs.length ≤ sizeLine ∧ Q .non (upd H l (.lst (xs ++ zs)))
theorem extend_tuple (l b : Addr) (items items2 : Array Value) (n : Nat) (hs : items.size + items2.size ≤ sizeLine) :
    Meets (Builtin.«list.extend» ⟨[.ref l, .ref b], []⟩) (fun _ R s => s.heap.get? l = some (seqObj "list" items n) ∧ IsTup s.heap b items2 ∧ R (.ok (.ret Value.none)) { s with heap := s.heap.update l (Obj.mapSeq (· ++ items2)) }) :=
  .of_wp fun prog w A R s h => by
    obtain ⟨hl, ⟨o, ho, hc, m, hd⟩, h⟩ := h
    have hl' : s.heap.get? l = some { cls := .type "list", data := .seq items n } := hl
    have h1 : (Builtin.List.listSameRef (.ref l) (.ref b) || Value.type "tuple" == Value.type "list" || Value.type "tuple" == Value.type "tuple") = true := by simp
    have hlong : (!items.isEmpty && Builtin.List.listTooLong (items.size + items2.size)) = false := by rw [notLongL hs, Bool.and_false]
    unfold Builtin.«list.extend»
    refine wpAny_bind (wpAny_pure ?_)
    unfold Builtin.List.listExtendWith
    refine wpAny_bind (wpAny_typeOf ⟨o, ho, hc⟩ ?_)
    simp only [h1, if_true]
    refine wpAny_bind ?_
    unfold Builtin.List.listItems
    refine wpAny_bind (wpAny_seqItems ho hd (wpAny_pure ?_))
    refine wpAny_bind ?_
    refine wpAny_bind (wpAny_seqItems hl' rfl (wpAny_pure ?_))
    simp only [hlong]
    show wpAny _ A.in1 (updateSeq l (· ++ items2) >>= fun _ => ret .none) _ _ s
    refine wpAny_bind (wpAny_updateSeq hl' rfl ?_ (by omega) (by rw [Array.size_append]; omega))
    exact wpAny_pure ⟨_, rfl, h⟩
theorem mt_extendT : MtM X "list.extend" (rExtT X.K) := by
  intro pins s σ H x vs v us Q I rx rv h
  obtain ⟨l, b, xs, zs, rfl, rfl, hH, hB, hz, q⟩ := h
  cases rx
  obtain ⟨u, rfl, ru⟩ := rv.one
  cases ru
  obtain ⟨z, its, n, r, hl, e⟩ := I.lstM hH
  obtain ⟨its2, r2, p, z2⟩ := I.tuple hB
  have l1 : xs.length = its.length := r.length
  have l2 : zs.length = its2.length := r2.length
  refine call_meets F.slot_list_extend ⟨_, e, rfl⟩ F.entry_list_extend (F.args_list_extend_2 _ _) (extend_tuple l b its.toArray its2.toArray n (by rw [List.size_toArray, List.size_toArray]; omega)) ⟨e, p, ?_⟩
  exact ⟨.non, _, I.lset (its' := its ++ its2) (t' := s.toks) hH e (by simp) (r.append r2) (by rw [List.length_append]; omega), rfl, q⟩
theorem x_extendT (h : X.K = K) : MtM X "list.extend" (rExtT K) := h ▸ mt_extendT
end
section
variable {T : List (Addr × Str)} {M : Am T} {K : PySem.W.Frag} {Γ : Env'} {R : List PyData → Prop} {P : PyData → Prop} {Po : Out → Prop} {te : TE} {Pg : Program} {w : World}
theorem Dats.tupsI {H : Hp} {hd : Addr → Prop} : ∀ {nss : List (List Int)} {vs : List V}, Dats (hid hd H) vs (nss.map fun ns => .tuple (ns.map .int)) → ∃ ks : List (Addr × List Int), vs = ks.map (fun p => V.ref p.1) ∧ ks.map (·.2) = nss ∧ ∀ p ∈ ks, hid hd H p.1 = some (.tup (p.2.map V.int))
  | [], _, h => by cases h; exact ⟨[], rfl, rfl, fun p h => nomatch h⟩
  | ns :: nss, _, h => by
    have h' : Dats (hid hd H) _ (.tuple (ns.map .int) :: nss.map fun ns => .tuple (ns.map .int)) := h
    cases h' with
    | cons h1 h2 =>
      obtain ⟨a, xs, rfl, e1, e2⟩ := h1.tupAt
      obtain ⟨ks, rfl, rfl, h3⟩ := Dats.tupsI h2
      rw [e2.ints] at e1
      exact ⟨(a, ns) :: ks, rfl, rfl, fun p hp => (List.mem_cons.mp hp).elim (fun z => by rw [z]; exact e1) (h3 p)⟩
/-- sorted(set(..)) -/
theorem f_sortSet (h : EvD M te Γ fun d => ∃ nss : List (List Int), d = .list (nss.map fun ns => .tuple (ns.map .int)) ∧ nss.length < 64 ∧ ∃ (k : Nat) (B : Int), 1 ≤ k ∧ (∀ ns ∈ nss, ns.length = k ∧ TS.Bd B ns) ∧
      ∀ ms : List (List Int), (∀ x, x ∈ ms ↔ x ∈ nss) → ms.Nodup → ms.Pairwise (fun a b => TS.code B a ≤ TS.code B b) → R (ms.map fun ns => .tuple (ns.map .int))) :
    EvF M (tCB (rSortedT K Pg w) (tCons (tCB (rSetOfT K Pg w) (tCons te tNil)) tNil)) Γ R := fun O A σ H Q S f =>
  h O A σ H _ S fun v d H1 ⟨nss, e, hl, k, B, hk, hB, r⟩ k1 i1 hv => by
    subst e
    obtain ⟨l, xs, rfl, hx1, hx2⟩ := hv.lstAt
    obtain ⟨ks, rfl, ek, hks⟩ := hx2.tupsI
    have S1 := S.step k1 i1
    have klen : ks.length = nss.length := by rw [← ek, List.length_map]
    refine ⟨l, ks, rfl, SqL.of (hid_le _ _ hx1), fun p hp => SqT.of (hid_le _ _ (hks p hp)), by omega, fun a L ha hL1 hL2 => ?_⟩
    have ua : ∀ p ∈ L, upd H1 a (SetTO Pg w a L) p.1 = some (.tup (p.2.map V.int)) := fun p hp => upd_grow ha _ _ (hid_le _ _ (hks p (hL1 p hp)))
    refine ⟨a, L, k, B, rfl, upd_same, fun p hp => SqT.of (ua p hp), hk, fun p hp => ?_, fun L' p pm nd _ pw hp => ?_⟩
    · refine hB p.2 ?_
      rw [← ek]
      exact List.mem_map.mpr ⟨p, hL1 p hp, rfl⟩
    · have S2 := S1.step (Keep.new (W := M.W) (o := SetTO Pg w a L) ha) (M.grow i1 (upd_grow ha))
      refine f p _ _ _ (r (L'.map (·.2)) (fun x => ?_) nd (List.pairwise_map.mpr pw)) (Fr.of ((k1.trans (Keep.new ha))) (fun z => S2.ownNew hp (.inl (S2.wO p z))) hp) (S2.ownNew hp) ((k1.trans (Keep.new ha)).trans (Keep.new hp)) (M.grow S2.inv (upd_grow hp)) upd_same ?_
      · rw [← ek]
        constructor
        · intro hx
          obtain ⟨q, hq, rfl⟩ := List.mem_map.mp hx
          exact List.mem_map.mpr ⟨q, hL1 q (pm.mem_iff.mp hq), rfl⟩
        · intro hx
          obtain ⟨q, hq, rfl⟩ := List.mem_map.mp hx
          exact (pm.map (·.2)).mem_iff.mpr (hL2 q hq)
      · have go : ∀ L0 : List (Addr × List Int), (∀ p ∈ L0, p ∈ L) → Dats (hid (fun b => Own O A Γ b ∨ b = p) (upd (upd H1 a (SetTO Pg w a L)) p (.lst (L'.map fun q => V.ref q.1)))) (L0.map fun q => V.ref q.1) ((L0.map (·.2)).map fun ns => .tuple (ns.map .int)) := fun L0 => by
          induction L0 with
          | nil => exact fun _ => .nil
          | cons q L0 ih =>
            intro hq
            have hqL := hq q List.mem_cons_self
            obtain ⟨n1, e1⟩ := hid_some.mp (hks q (hL1 q hqL))
            refine .cons (.tup (hid_some.mpr ⟨fun z => z.elim n1 fun z => ?_, upd_grow hp _ _ (ua q hqL)⟩) (Dats.ofInts q.2)) (ih fun r hr => hq r (List.mem_cons_of_mem _ hr))
            have := ua q hqL
            rw [z, hp] at this
            cases this
        exact go L' fun q hq => pm.mem_iff.mp hq
/-- isinstance(x, tuple) -/
theorem d_isiT (h : EvD M te Γ fun d => (∃ ds, d = .tuple ds ∧ P (.bool true)) ∨ ∃ i, d = .int i ∧ P (.bool false)) : EvD M (tCB (rIsi K) (tCons te (tCons (tC (.ty "tuple")) tNil))) Γ P := fun O A σ H Q S f =>
  h O A σ H _ S fun v d H1 hd k i hv => by
    have S1 := S.step k i
    have ff : ∀ b, P (.bool b) → Q (.bl b) H1 := fun b p => f _ _ H1 p k i (.bl b)
    rcases hd with ⟨ds, rfl, p⟩ | ⟨n, rfl, p⟩
    · obtain ⟨a, xs, rfl, h1, h2⟩ := hv.tupAt
      exact ⟨_, _, .type "tuple", .type "tuple", true, rfl, .ty _, .base (.tup (hid_le _ _ h1)), kit_ty (by decide +kernel), ff _ p⟩
    · rw [hv.intAt]
      exact ⟨_, _, .type "int", .type "tuple", false, rfl, .ty _, .base (.int _), kit_ty (by decide +kernel), ff _ p⟩
/-- o.extend(tuple), o owned -/
theorem r_extT {j : Nat} {ds : List PyData} (h : Γ[j]? = some (some (.lst ds))) (r : EvD M te Γ fun d => ∃ es, d = .tuple es ∧ ds.length + es.length ≤ 1000 ∧ Po (.nx (Γ.set j (some (.lst (ds ++ es)))))) : Run M (tDrop (tBM K "list" (rExtT K) (tVar j) (tCons te tNil))) Γ Po := fun H0 O A σ H D S L => by
  obtain ⟨e1, _, xs0, h0, _⟩ := S.sit.cell j _ h
  refine ⟨_, e1, .inl ⟨rfl, _, SqL.of h0⟩, r O A σ H _ S.sit fun v d H1 ⟨es, ed, hl, p⟩ k i hh => ?_⟩
  subst ed
  have S1 := S.step k i
  obtain ⟨b, zs, rfl, hb, hz⟩ := hh.tupAt
  obtain ⟨_, _, xs, h1, h2⟩ := S1.sit.cell j _ h
  refine ⟨A j, b, xs, zs, rfl, rfl, h1, SqT.of (hid_le _ _ hb), by rw [h2.len, hz.len]; exact sz1000 hl, ?_⟩
  obtain ⟨s, c⟩ := S1.writeL h (h2.app hz)
  exact L.nx _ A σ _ p s ((S.cln k).trans c)
end
end K41
end
section
set_option linter.all false
set_option maxRecDepth 100000
/-! K41, layer D, fifteenth part: {k: v} with a tuple key; a def that hands back its own dict; list() of such a call; a list and a dict made at once. -/
namespace K41
open PySem PySem.Spec PyProof.Rows L2
open Classical
def tDisp1 (tk tv : TE) : TE := fun σ H Q => ∀ p, H p = none → tk σ (upd H p (.dT [])) fun y H1 => tv σ H1 fun x H2 => H2 p = some (.dT []) ∧ ∃ k b, y = .ref b ∧ H2 b = some (.tup (k.map kV)) ∧ Q (.ref p) (upd H2 p (.dT [(k, x)]))
theorem pe_disp1 {X : Cx} {pos : Pos} {k v : Expr} {tk tv : TE} (hu : X.A.units + 1 < cLine) (hk : PE X k tk) (hv : PE X v tv) : PE X (.Dict [some k] [v] pos) (tDisp1 tk tv) := by
  refine ⟨fun pins s σ H Q I q => ?_⟩
  have hn := I.hok.fresh (Nat.le_refl s.heap.objs.size)
  have I1 := I.laid (a := s.heap.objs.size) (o := .dT []) (h' := s.heap.push { cls := .type "dict", data := .dict #[] }) (t' := s.toks) (fun _ _ q => Heap.get?_push_of_some _ q) (Nat.le_refl _) (dt_empty s.heap I.big)
  rw [arm_eval_Dict, zip_pairTrees [some k] [v] X.env pos rfl rfl, dictDisplay_pairs (pairTrees [some k] [v] X.env pos) (by simp [pairTrees]) (by simp [pairTrees])]
  refine wpAny_bind (wpAny_standAt (wpAny_bind ?_))
  have hroom : (tupleKind (mixKind X.prog X.w)).room X.A := by
    show X.A.units < cLine
    omega
  refine wpAny_subDictH (knd := tupleKind (mixKind X.prog X.w)) hroom (by simp [pairTrees]) ?_
  refine pairTrees_cons_walk (thn (hk.run pins _ σ _ _ I1 (q _ hn)) fun u s1 ⟨y, H1, I2, ry, q1⟩ => thn (hv.run pins s1 σ H1 _ I2 q1) fun r s2 ⟨x, H2, I3, rx, e, key, b, ey, eb, q2⟩ => pairTrees_nil_walk ?_)
  subst ey
  cases (show u = Value.ref b from ry)
  obtain ⟨z, hd, xs, rel, dd⟩ := dt_of I3.hok e
  cases rel
  refine ⟨[(key, b, r)], ⟨rfl, rfl, key_of I3.hok eb, True.intro⟩, dd, fun h' tk dd' hs => wpAny_pure ⟨.ref s.heap.objs.size, _, ?_, rfl, q2⟩⟩
  obtain ⟨o, es, ep, hq, h2, h3, h4, _, h5⟩ := dd'
  refine d_write I3 (by rw [e]; exact True.intro) hs ⟨o, hq⟩ ⟨by show 1 ≤ sizeLine; decide, hd, [(key, b, r)], .cons ⟨rfl, ?_, rx⟩ .nil, o, es, ep, hq, h2, h3, h4, h5⟩
  rw [upd_ne (ne_of eb e (fun z => nomatch z))]
  exact eb
theorem upd_upd {H : Hp} {p : Addr} {o u : HO} : upd (upd H p o) p u = upd H p u := by
  funext b
  by_cases h : b = p
  · subst h; rw [upd_same, upd_same]
  · rw [upd_ne h, upd_ne h, upd_ne h]
/-- the promise of a pure def that hands back a new dict -/
def spDD {ι : Type} (T : List (Addr × Str)) (ok : ι → Prop) (args : ι → List PyData) (post : ι → List (List Key × V) → Prop) : Sp := fun vs H Q _ => ∃ (i : ι) (own : List Addr), ok i ∧ (∀ a ∈ own, ∃ o, H a = some o ∧ Ld o) ∧ LamX.Tabs T H ∧ Dats (hid (· ∈ own) H) vs (args i) ∧
  ∀ p kvs H', post i kvs → Keep [] H H' → LamX.Tabs T H' → p ∉ own → Fr H p → H' p = some (.dT kvs) → Q (.ref p) H'
def FinDD (post : List (List Key × V) → Prop) : Out → Prop
  | .rd kvs => post kvs
  | _ => False
section
variable {T : List (Addr × Str)} {P : Program} {w : World} {K : PySem.W.Frag} {mg : Str → Option Value} {base : Heap}
theorem fn_DD {ι : Type} {x : Str} {st : Stmt} {f : Addr} {fd : FuncData} {N ps : List Str} {k : Nat} {ok : ι → Prop} {args : ι → List PyData} {post : ι → List (List Key × V) → Prop} (F : Fun K x x st f fd) (S : FnScope N ps (defScope st)) (hlen : ∀ i, (args i).length = ps.length)
    (body : ∀ (cdv : Value) (A : Around) (outer : List Env) (s : Shared) (H : Hp) (E : XK), Room k (A.deeper (envOfC x (defScope st) s.heap.objs.size f cdv)) →
      ∃ t, PSs (cxOf CX0 P w K mg base N x (defScope st) f cdv A outer s H E).nox (defBody st) t ∧ ∀ i, ok i → Run (Am0 T) t (startE N (args i)) (FinDD (post i))) :
    FnOk P w K mg base CX0 (k + 1) f fd ps (spDD T ok args post) := by
  refine F.ok S (fun vs H Q E ⟨i, own, _, _, _, hs, _⟩ => by rw [hs.len]; exact hlen i) fun cdv A outer s H vs Q E hr ⟨i, own, hp, hd, ht, hs, q⟩ => ?_
  obtain ⟨t, h1, h2⟩ := body cdv A outer s H E hr
  exact ⟨t, h1, h2 i hp H own (fun _ => 0) _ H _ (sit_start (M := Am0 T) ht (fun _ h => nomatch h) hd hs) ⟨fun _ _ _ _ p => False.elim p, fun _ _ _ p => False.elim p, fun _ _ _ _ p => False.elim p, fun _ _ _ _ p => False.elim p, fun p kvs H' pp k i nO fr e => q p kvs H' pp k i nO fr e⟩⟩
end
section
variable {T : List (Addr × Str)} {M : Am T} {K : PySem.W.Frag} {Γ : Env'} {R : List PyData → Prop} {Po : Out → Prop} {tA : TA} {ta tb : TE}
/-- list(f(..)), f hands back a dict -/
theorem f_listDD {ι : Type} {ok : ι → Prop} {args : ι → List PyData} {post : ι → List (List Key × V) → Prop} {E : XK} (h : EvA M tA Γ fun ds => ∃ i, ok i ∧ ds = args i ∧ ∀ kvs, post i kvs → ∃ nss : List (List Int), kvs.map (·.1) = nss.map kI ∧ R (nss.map fun ns => .tuple (ns.map .int))) :
    EvF M (tCB (fun xs H Q => ∃ d kvs, xs = [V.ref d] ∧ Rd H d (.dT kvs) ∧ ∀ p bs, H p = none → IsKeys H kvs bs → Q (.ref p) (upd H p (.lst (bs.map V.ref)))) (tCons (tCall (spDD T ok args post) [] E tA) tNil)) Γ R := fun O A σ H Q S f =>
  h O A σ H _ S fun vs ds H1 ⟨i, hp, e, hq⟩ k1 i1 hs => by
    subst e
    have S1 := S.step k1 i1
    refine ⟨i, ownL O A Γ, hp, fun a ha => S1.ownDom (ownL_iff.mp ha), M.tabs _ i1, by rw [List.append_nil, ownL_eq]; exact hs, fun d kvs H2 pd k2 t2 nO fr e2 => ?_⟩
    obtain ⟨nss, ek, r⟩ := hq kvs pd
    have S2 := S1.step k2.wide (M.mono _ _ i1 k2 t2)
    refine ⟨d, kvs, rfl, .inl e2, fun p bs hp' hk => ?_⟩
    have kk : Keep M.W H H2 := k1.trans k2.wide
    refine f p _ _ _ r (Fr.of kk (fun z => S2.ownNew hp' (.inl (S2.wO p z))) hp') (S2.ownNew hp') (kk.trans (Keep.new hp')) (M.grow S2.inv (upd_grow hp')) upd_same ((keys_dats (fun b xs hb z => ?_) hk ek).up fun b o q _ => hid_more hp' b o q)
    obtain ⟨o, ho, ld⟩ := S2.ownDom z
    rw [hb] at ho
    cases ho
    rcases ld with ⟨_, q⟩ | ⟨_, q⟩ <;> cases q
/-- x = {k: 0}, k a slot's tuple of ints -/
theorem r_asgDisp {i j : Nat} {ns : List Int} {m : Int} (hj : j < Γ.length) (h : Γ[i]? = some (some (.dat (.tuple (ns.map .int))))) (p : Po (.nx (Γ.set j (some (.dct [(kI ns, .int m)]))))) : Run M (tAsg (tDisp1 (tVar i) (tC (.int m))) (gName j)) Γ Po := fun H0 O A σ H D S L => fun q hq => by
  obtain ⟨v, ev, hv⟩ := S.sit.cell i _ h
  obtain ⟨b, rfl, hb⟩ := hv.top.keyAt
  obtain ⟨s, c⟩ := S.putD (kvs := [(kI ns, .int m)]) hj hq
  refine ⟨_, ev, upd_same, kI ns, b, rfl, upd_grow hq _ _ hb, ?_⟩
  rw [upd_upd]
  exact L.nx _ _ _ _ p s c
/-- a, b = [], {} -/
theorem r_parFD {i j : Nat} (hij : i ≠ j) (hi : i < Γ.length) (hj : j < Γ.length) (p : Po (.nx ((Γ.set i (some (.lst []))).set j (some (.dct []))))) : Run M (tPar i j (tCons (tLst tNil) (tCons tDNewT tNil))) Γ Po := fun H0 O A σ H D S L => by
  refine ⟨by show 0 ≤ sizeLine; decide, fun a ha => fun b hb => ?_⟩
  have nO := S.sit.ownNew ha
  obtain ⟨s1, c1⟩ := S.putL (vs := []) (ds := []) (H' := upd H a (.lst [])) hi (Fr.none ha) nO (Keep.new ha) (M.grow S.sit.inv (upd_grow ha)) upd_same .nil
  obtain ⟨s2, c2⟩ := s1.putD (kvs := []) (by rw [List.length_set]; exact hj) hb
  exact ⟨.ref a, .ref b, rfl, L.nx _ _ _ _ p s2 (c1.trans c2)⟩
end
end K41
end
section
set_option linter.all false
set_option maxRecDepth 100000
/-! K41, layer D, sixteenth part: the well. -/
namespace K41
open PySem PySem.Spec PyProof.Rows L2
open Classical
/-- the well at a: its two lists at g and k -/
structure Wl (T : List (Addr × Str)) (a g k : Addr) (ys xs : List Int) (i j : Int) (H : Hp) : Prop where
  tabs : LamX.Tabs T H
  ha : H a = some (.lst [.ref g, .ref k, .int i, .int j])
  hg : H g = some (.lst (xs.map .int))
  hk : H k = some (.lst (ys.map .int))
  gk : g ≠ k
  ne : ys ≠ []
  lx : xs.length ≤ 100
  ly : ys.length ≤ 100
def WInv (T : List (Addr × Str)) (a g k : Addr) (H : Hp) : Prop := ∃ ys xs i j, Wl T a g k ys xs i j H
section
variable {T : List (Addr × Str)} {a g k : Addr} {ys xs : List Int} {i j : Int} {H H' : Hp}
theorem Wl.ag (w : Wl T a g k ys xs i j H) : a ≠ g := fun e => by
  have h1 := w.ha
  rw [e, w.hg] at h1
  cases xs <;> simp at h1
theorem Wl.ak (w : Wl T a g k ys xs i j H) : a ≠ k := fun e => by
  have h1 := w.ha
  rw [e, w.hk] at h1
  cases ys <;> simp at h1
theorem Wl.keep (w : Wl T a g k ys xs i j H) (h : Keep [] H H') (t : LamX.Tabs T H') : Wl T a g k ys xs i j H' :=
  ⟨t, h _ _ w.ha (by simp) nt_lst, h _ _ w.hg (by simp) nt_lst, h _ _ w.hk (by simp) nt_lst, w.gk, w.ne, w.lx, w.ly⟩
theorem Wl.new (w : Wl T a g k ys xs i j H) {q : Addr} {o : HO} (hq : H q = none) : Wl T a g k ys xs i j (upd H q o) := w.keep (Keep.new hq) (w.tabs.ext (upd_grow hq))
theorem Wl.setG (w : Wl T a g k ys xs i j H) {zs : List Int} (hz : zs.length ≤ 100) : Wl T a g k ys zs i j (upd H g (.lst (zs.map .int))) :=
  ⟨tabs_wr w.tabs w.hg (.inl ⟨_, rfl⟩), by rw [upd_ne w.ag]; exact w.ha, upd_same, by rw [upd_ne w.gk.symm]; exact w.hk, w.gk, w.ne, hz, w.ly⟩
theorem Wl.setA (w : Wl T a g k ys xs i j H) {i' j' : Int} : Wl T a g k ys xs i' j' (upd H a (.lst [.ref g, .ref k, .int i', .int j'])) :=
  ⟨tabs_wr w.tabs w.ha (.inl ⟨_, rfl⟩), upd_same, by rw [upd_ne w.ag.symm]; exact w.hg, by rw [upd_ne w.ak.symm]; exact w.hk, w.gk, w.ne, w.lx, w.ly⟩
end
/-- the surroundings that hold a well -/
def AmW (T : List (Addr × Str)) (a g k : Addr) : Am T where
  W := [a, g, k]
  inv := WInv T a g k
  tabs := fun H ⟨_, _, _, _, w⟩ => w.tabs
  mono := fun H H' ⟨ys, xs, i, j, w⟩ h t => ⟨ys, xs, i, j, w.keep h t⟩
  wr := fun H l u o ⟨ys, xs, i, j, w⟩ hl hu ho => ⟨ys, xs, i, j, by
    have n1 : a ≠ l := fun e => hl (by simp [e])
    have n2 : g ≠ l := fun e => hl (by simp [e])
    have n3 : k ≠ l := fun e => hl (by simp [e])
    exact ⟨tabs_wr w.tabs hu ho, by rw [upd_ne n1]; exact w.ha, by rw [upd_ne n2]; exact w.hg, by rw [upd_ne n3]; exact w.hk, w.gk, w.ne, w.lx, w.ly⟩⟩
  wdom := fun H ⟨ys, xs, i, j, w⟩ b hb => by
    rcases (by simpa using hb : b = a ∨ b = g ∨ b = k) with e | e | e <;> subst e
    · exact ⟨_, w.ha, ld_lst⟩
    · exact ⟨_, w.hg, ld_lst⟩
    · exact ⟨_, w.hk, ld_lst⟩
/-- the promise of a def whose first argument is a well -/
def spW {ι : Type} (T : List (Addr × Str)) (ok : ι → Prop) (args : ι → List PyData) (post : ι → PyData → Prop) : Sp := fun vs H Q _ => ∃ (i : ι) (own : List Addr) (a g k : Addr) (rest : List V), vs = .ref a :: rest ∧ ok i ∧ (∀ b ∈ own, ∃ o, H b = some o ∧ Ld o) ∧
  (∀ b ∈ [a, g, k], b ∈ own) ∧ WInv T a g k H ∧ Dats (hid (· ∈ own) H) rest (args i) ∧ ∀ v d H', post i d → Keep [a, g, k] H H' → WInv T a g k H' → Dat (hid (· ∈ own) H') v d → Q v H'
section
variable {T : List (Addr × Str)} {a g k : Addr} {Γ : Env'} {P : PyData → Prop} {tA : TA}
theorem d_wcall {ι : Type} {ok : ι → Prop} {args : ι → List PyData} {post : ι → PyData → Prop} {E : XK} {j : Nat} (hj : Γ[j]? = some (some (.raw (.ref a)))) (h : EvA (AmW T a g k) tA Γ fun ds => ∃ i, ok i ∧ ds = args i ∧ ∀ d, post i d → P d) :
    EvD (AmW T a g k) (tCall (spW T ok args post) [] E (tCons (tVar j) tA)) Γ P := fun O A σ H Q S f => by
  refine ⟨_, S.cell j _ hj, h O A σ H _ S fun vs ds H1 ⟨x, hp, e, hq⟩ k1 i1 hs => ?_⟩
  subst e
  have S1 := S.step k1 i1
  refine ⟨x, ownL O A Γ, a, g, k, vs, by rw [List.append_nil], hp, fun b hb => S1.ownDom (ownL_iff.mp hb), fun b hb => ownL_iff.mpr (.inl (S1.wO b hb)), i1, by rw [ownL_eq]; exact hs, fun v d H' pd k' i' hh => ?_⟩
  rw [ownL_eq] at hh
  exact f v d H' (hq d pd) (k1.trans k') i' hh
/-- how such a def starts -/
def startW (N : List Str) (a : Addr) (ds : List PyData) : Env' := some (.raw (.ref a)) :: (ds.map (fun d => some (.dat d)) ++ List.replicate (N.length - (ds.length + 1)) none)
theorem mine_startW {N : List Str} {ds : List PyData} {i : Nat} : ¬ Mine (startW N a ds) i := fun ⟨c, e, m⟩ => by
  unfold startW at e
  cases i with
  | zero =>
    simp at e
    subst e
    exact m
  | succ i =>
    rw [List.getElem?_cons_succ, List.getElem?_append] at e
    split at e
    · rw [List.getElem?_map] at e
      cases h : ds[i]? with
      | none => rw [h] at e; cases e
      | some d =>
        rw [h] at e
        cases Option.some.inj (Option.some.inj e)
        exact m
    · rw [List.getElem?_replicate] at e
      split at e <;> cases e
theorem sit_startW {own : List Addr} {H : Hp} {N : List Str} {vs : List V} {ds : List PyData} (hi : WInv T a g k H) (hw : ∀ b ∈ [a, g, k], b ∈ own) (hd : ∀ b ∈ own, ∃ o, H b = some o ∧ Ld o) (h : Dats (hid (· ∈ own) H) vs ds) :
    SitR (AmW T a g k) H own (fun _ => 0) (startW N a ds) (L2.start N (.ref a :: vs)) H := by
  have ho : Own own (fun _ => 0) (startW N a ds) = (· ∈ own) := funext fun b => propext ⟨fun q => q.elim id fun ⟨i, m, _⟩ => absurd m mine_startW, .inl⟩
  refine ⟨⟨?_, hi, hw, hd, fun i c e => ?_, fun i j m => absurd m mine_startW⟩, Keep.refl, fun i m => absurd m mine_startW⟩
  · unfold L2.start startW
    simp [h.len]
  · rw [ho]
    unfold startW at e
    cases i with
    | zero =>
      simp at e
      subst e
      rfl
    | succ i =>
      rw [List.getElem?_cons_succ, List.getElem?_append] at e
      split at e
      · rename_i hl
        rw [List.length_map] at hl
        rw [List.getElem?_map, List.getElem?_eq_getElem hl] at e
        cases Option.some.inj (Option.some.inj e)
        obtain ⟨v, hv, hd⟩ := h.get2 (List.getElem?_eq_getElem hl)
        refine ⟨v, ?_, hd⟩
        unfold L2.start
        rw [List.getElem?_append_left (by rw [List.length_map, List.length_cons, h.len]; omega), List.getElem?_map, List.getElem?_cons_succ, hv]
        rfl
      · rw [List.getElem?_replicate] at e
        split at e <;> cases e
end
section
variable {T : List (Addr × Str)} {P : Program} {w : World} {K : PySem.W.Frag} {mg : Str → Option Value} {base : Heap}
theorem fn_W {ι : Type} {x : Str} {st : Stmt} {f : Addr} {fd : FuncData} {N ps : List Str} {k : Nat} {ok : ι → Prop} {args : ι → List PyData} {post : ι → PyData → Prop} (F : Fun K x x st f fd) (S : FnScope N ps (defScope st)) (hlen : ∀ i, (args i).length + 1 = ps.length)
    (body : ∀ (cdv : Value) (A : Around) (outer : List Env) (s : Shared) (H : Hp) (E : XK), Room k (A.deeper (envOfC x (defScope st) s.heap.objs.size f cdv)) →
      ∃ t, PSs (cxOf CX0 P w K mg base N x (defScope st) f cdv A outer s H E).nox (defBody st) t ∧ ∀ a g k i, ok i → Run (AmW T a g k) t (startW N a (args i)) (Fin' (post i))) :
    FnOk P w K mg base CX0 (k + 1) f fd ps (spW T ok args post) := by
  refine F.ok S (fun vs H Q E ⟨i, own, a, g, k, rest, e, _, _, _, _, hs, _⟩ => by rw [e, List.length_cons, hs.len]; exact hlen i) fun cdv A outer s H vs Q E hr ⟨i, own, a, g, k, rest, e, hp, hd, hw, hi, hs, q⟩ => ?_
  subst e
  obtain ⟨t, h1, h2⟩ := body cdv A outer s H E hr
  refine ⟨t, h1, h2 a g k i hp H own (fun _ => 0) _ H _ (sit_startW hi hw hd hs) ⟨fun Γ' A' σ' H' p s c => ?_, fun v d H' p k i hh => q v d H' p k i hh, fun _ _ _ _ p => False.elim p, fun _ _ _ _ p => False.elim p, fun _ _ _ p => False.elim p⟩⟩
  exact q .non .none H' p s.keep s.sit.inv .non
end
/-! ### a well's own readings -/
section
variable {T : List (Addr × Str)} {a g k : Addr} {H0 : Hp} {K : PySem.W.Frag}
structure WS where
  ys : List Int
  xs : List Int
  i : Int
  j : Int
def WS.At (S : WS) (T : List (Addr × Str)) (a g k : Addr) (H0 H : Hp) : Prop := Wl T a g k S.ys S.xs S.i S.j H ∧ Keep [a, g, k] H0 H
def Wv (T : List (Addr × Str)) (a g k : Addr) (H0 : Hp) (te : TE) (σ : L2.St) (S : WS) (P : V → Prop) : Prop := ∀ H (Q : VK), S.At T a g k H0 H → (∀ v H', P v → S.At T a g k H0 H' → Q v H') → te σ H Q
def Wt (T : List (Addr × Str)) (a g k : Addr) (H0 : Hp) (tt : TT) (σ : L2.St) (S : WS) (P : Bool → Prop) : Prop := ∀ H (Q : Bool → Hp → Prop), S.At T a g k H0 H → (∀ v H', P v → S.At T a g k H0 H' → Q v H') → tt σ H Q
/-- how a statement ends -/
structure WE where
  nx : L2.St → WS → Prop
  rt : V → Prop
def Wr (T : List (Addr × Str)) (a g k : Addr) (H0 : Hp) (ts : TS) (σ : L2.St) (S : WS) (E : WE) : Prop := ∀ H D, S.At T a g k H0 H → (∀ σ' S' H', E.nx σ' S' → S'.At T a g k H0 H' → D.nx σ' H') → (∀ v (S' : WS) H', E.rt v → S'.At T a g k H0 H' → D.rt v H') → ts D σ H
variable {σ : L2.St} {S : WS} {P : V → Prop} {ta tb te : TE} {tt : TT} {t u : TS} {E : WE}
theorem wv_var {n : Nat} {v : V} (h : σ[n]? = some (some v)) (p : P v) : Wv T a g k H0 (tVar n) σ S P := fun H Q w f => ⟨v, h, f v H p w⟩
theorem wv_c {v : V} (p : P v) : Wv T a g k H0 (tC v) σ S P := fun H Q w f => f v H p w
theorem wv_I0 {G : Int → Int → V} (h : Wv T a g k H0 ta σ S fun x => ∃ i, x = .int i ∧ Wv T a g k H0 tb σ S fun y => ∃ j, y = .int j ∧ P (G i j)) : Wv T a g k H0 (tOp (rI0 G) ta tb) σ S P := fun H Q w f =>
  h H _ w fun x H1 ⟨i, e, hb⟩ w1 => hb H1 _ w1 fun y H2 ⟨j, e2, p⟩ w2 => ⟨i, j, e, e2, f _ _ p w2⟩
theorem wv_I {C : Int → Int → Prop} {G : Int → Int → V} (h : Wv T a g k H0 ta σ S fun x => ∃ i, x = .int i ∧ Wv T a g k H0 tb σ S fun y => ∃ j, y = .int j ∧ C i j ∧ P (G i j)) : Wv T a g k H0 (tOp (rI C G) ta tb) σ S P := fun H Q w f =>
  h H _ w fun x H1 ⟨i, e, hb⟩ w1 => hb H1 _ w1 fun y H2 ⟨j, e2, c, p⟩ w2 => ⟨i, j, e, e2, c, f _ _ p w2⟩
theorem wv_here {n : Nat} {v : V} (h0 : σ[0]? = some (some (.ref a))) (hv : [V.ref g, .ref k, .int S.i, .int S.j][n]? = some v) (p : P v) : Wv T a g k H0 (tOp (rIx K) (tVar 0) (tC (.int (n : Int)))) σ S P := fun H Q w f =>
  ⟨_, h0, .inl ⟨a, _, (n : Int), v, rfl, rfl, SqL.of w.1.ha, atI_nat hv, f v H p w⟩⟩
theorem wv_known (h0 : σ[0]? = some (some (.ref a))) (h : Wv T a g k H0 tb σ S fun x => ∃ n : Nat, x = .int (n : Int) ∧ n < S.ys.length ∧ ∀ z, P (.int z)) : Wv T a g k H0 (tOp (rIx K) (tOp (rIx K) (tVar 0) (tC (.int 1))) tb) σ S P := fun H Q w f =>
  ⟨_, h0, .inl ⟨a, _, ((1 : Nat) : Int), .ref k, rfl, rfl, SqL.of w.1.ha, atI_nat rfl, h H _ w fun x H1 ⟨n, e, hn, p⟩ w1 => .inl ⟨k, _, (n : Int), .int S.ys[n], rfl, e, SqL.of w1.1.hk, atI_nat (by rw [List.getElem?_map, List.getElem?_eq_getElem hn]; rfl), f _ _ (p _) w1⟩⟩⟩
theorem wv_lenk (h0 : σ[0]? = some (some (.ref a))) (p : P (.int (S.ys.length : Int))) : Wv T a g k H0 (tCB (fun xs H Q => ∃ p ys, xs = [.ref p] ∧ (SqL K H p ys ∨ SqT K H p ys) ∧ Q (.int ys.length) H) (tCons (tOp (rIx K) (tVar 0) (tC (.int 1))) tNil)) σ S P := fun H Q w f =>
  ⟨_, h0, .inl ⟨a, _, ((1 : Nat) : Int), .ref k, rfl, rfl, SqL.of w.1.ha, atI_nat rfl, k, _, rfl, .inl (SqL.of w.1.hk), by rw [List.length_map]; exact f _ _ p w⟩⟩
theorem wv_int (h : Wv T a g k H0 te σ S fun x => ∃ i, x = .int i ∧ P (.int i)) : Wv T a g k H0 (tCB (fun xs H Q => (∃ i, xs = [.int i] ∧ Q (.int i) H) ∨ ∃ k, xs = [.bl k] ∧ Q (.int (if k then 1 else 0)) H) (tCons te tNil)) σ S P := fun H Q w f =>
  h H _ w fun x H1 ⟨i, e, p⟩ w1 => .inl ⟨i, by rw [e], f _ _ p w1⟩
theorem wt_I0 {G : Int → Int → Bool} {R : Bool → Prop} (h : Wv T a g k H0 ta σ S fun x => ∃ i, x = .int i ∧ Wv T a g k H0 tb σ S fun y => ∃ j, y = .int j ∧ R (G i j)) : Wt T a g k H0 (tTest (tOp (rI0 fun i j => .bl (G i j)) ta tb)) σ S R := fun H Q w f =>
  h H _ w fun x H1 ⟨i, e, hb⟩ w1 => hb H1 _ w1 fun y H2 ⟨j, e2, p⟩ w2 => ⟨i, j, e, e2, _, rfl, f _ _ p w2⟩
theorem dpI {H : Hp} : ∀ xs : List Int, DpAll K H (xs.map V.int) (xs.map PyData.int)
  | [] => .nil
  | x :: xs => .cons (.int x) (dpI xs)
theorem wt_some {R : Bool → Prop} (hsh : SeqAt.shaped (.list (S.xs.map .int)) = true) (hsh0 : SeqAt.shaped (.list []) = true) (h0 : σ[0]? = some (some (.ref a))) (p : R (!S.xs.isEmpty)) : Wt T a g k H0 (tTest (tOp (rNeD K) (tOp (rIx K) (tVar 0) (tC (.int 0))) (tLst tNil))) σ S R := fun H Q w f =>
  ⟨_, h0, .inl ⟨a, _, ((0 : Nat) : Int), .ref g, rfl, rfl, SqL.of w.1.ha, atI_nat rfl, by show 0 ≤ sizeLine; decide, fun q hq => by
    have w1 := w.1.new (o := .lst []) hq
    refine ⟨.list (S.xs.map .int), .list [], .lst (SqL.of w1.hg) (dpI _), .lst (SqL.of upd_same) .nil, hsh, hsh0, _, rfl, ?_⟩
    have e : PyData.eqv (.list (S.xs.map .int)) (.list []) = S.xs.isEmpty := by cases S.xs <;> simp [PyData.eqv, PyData.eqvAll]
    rw [e]
    exact f _ _ p ⟨w1, w.2.trans (Keep.new hq)⟩⟩⟩
theorem wr_seq (h : Wr T a g k H0 t σ S ⟨fun σ' S' => Wr T a g k H0 u σ' S' E, E.rt⟩) : Wr T a g k H0 (tSeq t u) σ S E := fun H D w n r =>
  h H { D with nx := u D } w (fun σ' S' H' p w' => p H' D w' n r) r
theorem wr_if (h : Wt T a g k H0 tt σ S fun b => (b = true → Wr T a g k H0 t σ S E) ∧ (b = false → Wr T a g k H0 u σ S E)) : Wr T a g k H0 (tIfS tt t u) σ S E := fun H D w n r =>
  h H _ w fun b H1 ⟨p1, p0⟩ w1 => by
    cases b with
    | true => exact iteT (p1 rfl H1 D w1 n r)
    | false => exact iteF (p0 rfl H1 D w1 n r)
theorem wr_next (p : E.nx σ S) : Wr T a g k H0 tNext σ S E := fun H D w n r => n σ S H p w
theorem wr_ret (h : Wv T a g k H0 te σ S E.rt) : Wr T a g k H0 (tRet te) σ S E := fun H D w n r => h H _ w fun v H' p w' => r v S H' p w'
theorem wr_asg {n : Nat} (h : Wv T a g k H0 te σ S fun v => E.nx (σ.set n (some v)) S) : Wr T a g k H0 (tAsg te (gName n)) σ S E := fun H D w nn r => h H _ w fun v H' p w' => nn _ S H' p w'
theorem wr_pop {n : Nat} (hx : S.xs ≠ []) (h0 : σ[0]? = some (some (.ref a))) (p : ∀ z, E.nx (σ.set n (some (.int z))) ⟨S.ys, S.xs.dropLast, S.i, S.j⟩) : Wr T a g k H0 (tAsg (tBM0 K "list" rPop (tOp (rIx K) (tVar 0) (tC (.int 0)))) (gName n)) σ S E := fun H D w nn r =>
  ⟨_, h0, .inl ⟨a, _, ((0 : Nat) : Int), .ref g, rfl, rfl, SqL.of w.1.ha, atI_nat rfl, .inl ⟨rfl, _, SqL.of w.1.hg⟩, g, _, .int (S.xs.getLast hx), rfl, rfl, w.1.hg, by
    rw [List.length_map, List.getElem?_map, ← List.getLast?_eq_getElem?, List.getLast?_eq_some_getLast hx]
    rfl, by
    have w1 := w.1.setG (zs := S.xs.dropLast) (by rw [List.length_dropLast]; have := w.1.lx; omega)
    have e : (S.xs.map V.int).dropLast = S.xs.dropLast.map V.int := by rw [List.map_dropLast]
    rw [e]
    refine nn _ ⟨S.ys, S.xs.dropLast, S.i, S.j⟩ _ (p _) ⟨w1, w.2.trans fun b o eb hb n => ?_⟩
    rw [upd_ne (fun z => hb (by simp [z]))]
    exact eb⟩⟩
theorem wr_push (hl : S.xs.length < 100) (h0 : σ[0]? = some (some (.ref a))) (h : Wv T a g k H0 te σ S fun v => ∃ z, v = .int z ∧ E.nx σ ⟨S.ys, S.xs ++ [z], S.i, S.j⟩) : Wr T a g k H0 (tDrop (tBM K "list" rAppend (tOp (rIx K) (tVar 0) (tC (.int 0))) (tCons te tNil))) σ S E := fun H D w nn r =>
  ⟨_, h0, .inl ⟨a, _, ((0 : Nat) : Int), .ref g, rfl, rfl, SqL.of w.1.ha, atI_nat rfl, .inl ⟨rfl, _, SqL.of w.1.hg⟩, h H _ w fun v H1 ⟨z, e, p⟩ w1 => by
    subst e
    refine ⟨g, _, .int z, rfl, rfl, w1.1.hg, by rw [List.length_map]; exact small1000 (by omega), ?_⟩
    have w2 := w1.1.setG (zs := S.xs ++ [z]) (by rw [List.length_append, List.length_singleton]; omega)
    rw [List.map_append] at w2
    refine nn σ ⟨S.ys, S.xs ++ [z], S.i, S.j⟩ _ p ⟨by show Wl T a g k S.ys (S.xs ++ [z]) S.i S.j _; exact w2, w1.2.trans fun b o eb hb n => ?_⟩
    rw [upd_ne (fun z => hb (by simp [z]))]
    exact eb⟩⟩
theorem wr_set2 (h0 : σ[0]? = some (some (.ref a))) (h : Wv T a g k H0 te σ S fun v => ∃ z, v = .int z ∧ E.nx σ ⟨S.ys, S.xs, z, S.j⟩) : Wr T a g k H0 (tAsg te (gSub (tVar 0) (tC (.int 2)) rSetL)) σ S E := fun H D w nn r =>
  h H _ w fun v H1 ⟨z, e, p⟩ w1 => by
    subst e
    refine ⟨_, h0, a, _, ((2 : Nat) : Int), 2, rfl, rfl, w1.1.ha, ixN_nat (by simp), nn σ ⟨S.ys, S.xs, z, S.j⟩ _ p ⟨w1.1.setA, w1.2.trans fun b o eb hb n => ?_⟩⟩
    rw [upd_ne (fun z => hb (by simp [z]))]
    exact eb
theorem wr_set3 (h0 : σ[0]? = some (some (.ref a))) (h : Wv T a g k H0 te σ S fun v => ∃ z, v = .int z ∧ E.nx σ ⟨S.ys, S.xs, S.i, z⟩) : Wr T a g k H0 (tAsg te (gSub (tVar 0) (tC (.int 3)) rSetL)) σ S E := fun H D w nn r =>
  h H _ w fun v H1 ⟨z, e, p⟩ w1 => by
    subst e
    refine ⟨_, h0, a, _, ((3 : Nat) : Int), 3, rfl, rfl, w1.1.ha, ixN_nat (by simp), nn σ ⟨S.ys, S.xs, S.i, z⟩ _ p ⟨w1.1.setA, w1.2.trans fun b o eb hb n => ?_⟩⟩
    rw [upd_ne (fun z => hb (by simp [z]))]
    exact eb
end
end K41
end
section
set_option linter.all false
set_option maxRecDepth 100000
/-! K41, layer D, seventeenth part: repr of data; defs that need to know that no repr is under way. -/
namespace K41
open PySem PySem.Spec PyProof.Rows L2
open Classical
/-- a promise that is kept where no repr is under way -/
structure FnG (P : Program) (w : World) (K : PySem.W.Frag) (mg : Str → Option Value) (base : Heap) (k : Nat) (f : Addr) (fd : FuncData) (ps : List Str) (sp : Sp) : Prop where
  len : ∀ vs H Q E, sp vs H Q E → vs.length = ps.length
  run : ∀ (A : Around) (outer : List Env) (s : Shared) (H : Hp) (args : Args) (us : List Value) (vs : List V) (Q : VK) (E : XK), Room k A → A.guards = some [] → Env0 P w K mg base A outer s H → BindsTo s fd args (ps.zip us) → Vals vs us → sp vs H Q E →
    codeAny (model P w) A (.call (.ref f) args) (CR CX0 outer P w H s Q E) s
section
variable {P : Program} {w : World} {K : PySem.W.Frag} {mg : Str → Option Value} {base : Heap}
/-- such a def by its body -/
theorem okG {x : Str} {st : Stmt} {f : Addr} {fd : FuncData} {N ps : List Str} {k : Nat} {sp : Sp} (F : Fun K x x st f fd) (S : FnScope N ps (defScope st)) (len : ∀ vs H Q E, sp vs H Q E → vs.length = ps.length)
    (hbody : ∀ (cdv : Value) (A : Around) (outer : List Env) (s : Shared) (H : Hp) (vs : List V) (Q : VK) (E : XK), Room k (A.deeper (envOfC x (defScope st) s.heap.objs.size f cdv)) → A.guards = some [] → sp vs H Q E →
      ∃ t, PSs (cxOf CX0 P w K mg base N x (defScope st) f cdv A outer s H E).nox (defBody st) t ∧ t { nx := fun _ H' => Q .non H', rt := Q } (L2.start N vs) H) : FnG P w K mg base (k + 1) f fd ps sp := by
  obtain ⟨oc, od, kV, doc, pm, an, cdv, ct, osl, rfl, lk, hcd⟩ := F.ex
  refine ⟨len, fun A outer s H args us vs Q E hr hg e0 hb r hsp => ?_⟩
  have KX : K.In s.heap := e0.mod.kin.keeps fun b o e => (e0.bs b o e).1
  have cells : ∀ y ∈ ps.zip us, (defScope st).names.lookup y.1 = some .local ∨ ((defScope st).names.lookup y.1 = some .cell ∧ ((cellsFrom (s.heap.objs.size + 1) (defScope st).names []).lookup y.1).isSome = true) := fun y hy =>
    (S.par y.1 (List.of_mem_zip (by exact hy)).1).imp id fun q => ⟨q, PySem.W.cellsFrom_some _ _ _ (.inl q)⟩
  refine codeAny_call_function hr.depth (KX _ _ lk) rfl S.co S.gen rfl (PySem.W.codeRec_of KX hcd) (hb _ _ _ _ (wpAny_newFunctionEnv_cells S.kind cells fun env he s1 x1 => ?_))
  subst he
  refine ⟨(e0.mod.nolimit.keeps fun b o e => (e0.bs b o e).1).keeps x1.toInCall.keep, codeAny_func ?_⟩
  obtain ⟨t, ht, hq⟩ := hbody cdv A outer s H vs Q E (hr.deeper _) hg hsp
  refine wpAny_mono (ht.nox.run [] s1 (L2.start N vs) H _ (inv_start S hr.hd e0 (len _ _ _ _ hsp) r x1) hq) (fun fl s' hs => ?_) fun e s' hs => hs
  cases fl with
  | ret u => exact let ⟨v, _, H', J, rv, q⟩ := hs; ⟨v, H', J.os, J.bare, J.base, J.hok, rv, q⟩
  | next => exact let ⟨_, H', J, q⟩ := hs; ⟨V.non, H', J.os, J.bare, J.base, J.hok, rfl, q⟩
  | brk => exact let ⟨_, _, _, q⟩ := hs; False.elim q
  | cont => exact let ⟨_, _, _, q⟩ := hs; False.elim q
/-- such a def as a caller sees it -/
structure CalG (P : Program) (w : World) (K : PySem.W.Frag) (mg : Str → Option Value) (base : Heap) (k : Nat) (x : Str) (ps : List Str) (sp : Sp) (f : Addr) (fd : FuncData) : Prop where
  G : FnG P w K mg base k f fd ps sp
  m : mg x = some (.ref f)
  kp : PySem.W.keepIn K (.ref f) = true
  b : Binds K fd ps []
end
section
variable {X : Cx} {k : Nat} {f : Addr} {fd : FuncData} {ps : List Str} {sp : Sp} {x : Str} {p pos : Pos} {e : Expr} {es : List Expr} {t : TA}
/-- f(e, ..) of such a def -/
theorem pe_callG (F : FnG X.prog X.w X.K X.mg X.base k f fd ps sp) (hr : Room k X.A) (hgd : X.A.guards = some []) (hg : Gl X x) (hm : X.mg x = some (.ref f)) (hk : PySem.W.keepIn X.K (.ref f) = true) (hb : Binds X.K fd ps [])
    (ha : PA X (e :: es) t) (hdb : (x == ("__debug__" : Str)) = false := by decide) (he : starEach (e :: es) X.env = (false, eval e X.env) :: starEach es X.env := by rfl) (hpl : (backTo pos (starEach es X.env)).any (·.1) = false := by rfl) :
    PE X (.Call (.Name x p) (e :: es) [] pos) (tCall sp [] E0 t) := by
  refine ⟨fun pins s σ H Q I h => wpAny_Call_Name_kw (ld_glob I hg hm ?_ hdb)⟩
  refine PySem.W.callWith_K (h₀ := X.base) I.ok.mod.kin hk (thn (ha.run pos pins s σ H _ I h) fun us s1 ⟨vs, H1, I1, r, q⟩ => ⟨I1.kIn, ?_⟩) he hpl
  have r2 : Vals (vs ++ []) (us ++ []) := r.append .nil
  refine wpAny_call (codeAny_mono (F.run X.A X.stack s1 H1 ⟨us, []⟩ (us ++ []) (vs ++ []) Q E0 hr hgd I1.env0 (hb s1 us I1.kIn (by rw [← r2.length]; exact F.len _ _ _ _ q)) r2 q) fun z s' hq => ?_)
  cases z with
  | error e => exact False.elim hq
  | ok fl =>
    cases fl with
    | ret u => exact I1.after hq
    | next => exact False.elim hq
    | brk => exact False.elim hq
    | cont => exact False.elim hq
/-- repr(x) of a list or a tuple of data -/
def rRepr (K : PySem.W.Frag) : List V → Hp → VK → Prop := fun xs H Q => ∃ a d, xs = [.ref a] ∧ Dp K H (.ref a) d ∧ d.showable = true ∧ d.hasDict = false ∧ d.depth ≤ 64 ∧ d.shown.length ≤ sizeLine ∧ Q (.str d.shown) H
theorem cr_repr (hgd : X.A.guards = some []) (hu : X.A.units + 65 < cLine) : CallR X (.builtin "repr") (rRepr X.K) := by
  intro pins s σ H xs us Q I r ⟨a, d, e, hd, h1, h2, h3, h4, q⟩
  subst e
  obtain ⟨u, rfl, rv⟩ := vals1 r
  obtain rfl : u = Value.ref a := rv
  obtain ⟨as, r1⟩ := Dp.reads I d _ _ hd rfl
  exact PySem.repr_of_reads' r1 h1 (PyData.noDict_hsm h2) hgd (by omega) (fun _ _ e => e) (fun h' u tk hk => ⟨.str d.shown, H, I.kept hk, ⟨u, rfl⟩, q⟩) h4
theorem x_repr {K : PySem.W.Frag} (h : X.K = K) (hgd : X.A.guards = some []) (hu : X.A.units + 65 < cLine) : CallR X (.builtin "repr") (rRepr K) := h ▸ cr_repr hgd hu
end
section
variable {T : List (Addr × Str)} {M : Am T} {P : PyData → Prop} {K : PySem.W.Frag}
/-- data whose repr is told -/
structure Shown (d : PyData) : Prop where
  seq : (∃ ds, d = .list ds) ∨ ∃ ds, d = .tuple ds
  show_ : d.showable = true
  nodict : d.hasDict = false
  depth : d.depth ≤ 64
  len : d.shown.length ≤ sizeLine
theorem rc_repr {d : PyData} (h : Shown d) (p : P (.str d.shown)) : RC M (rRepr K) [d] P := fun hd H vs Q w hs f => by
  obtain ⟨x, rfl, hx⟩ := hs.one
  have hp := Dat.dp (K := K) _ _ hx.top
  rcases h.seq with ⟨ds, e⟩ | ⟨ds, e⟩
  · subst e
    obtain ⟨a, xs, rfl, _, _⟩ := hx.lstAt
    exact ⟨a, _, rfl, hp, h.show_, h.nodict, h.depth, h.len, f.sc w p (.str _)⟩
  · subst e
    obtain ⟨a, xs, rfl, _, _⟩ := hx.tupAt
    exact ⟨a, _, rfl, hp, h.show_, h.nodict, h.depth, h.len, f.sc w p (.str _)⟩
end
section
variable {T : List (Addr × Str)} {P : Program} {w : World} {K : PySem.W.Frag} {mg : Str → Option Value} {base : Heap}
theorem fn_WG {ι : Type} {x : Str} {st : Stmt} {f : Addr} {fd : FuncData} {N ps : List Str} {k : Nat} {ok : ι → Prop} {args : ι → List PyData} {post : ι → PyData → Prop} (F : Fun K x x st f fd) (S : FnScope N ps (defScope st)) (hlen : ∀ i, (args i).length + 1 = ps.length)
    (body : ∀ (cdv : Value) (A : Around) (outer : List Env) (s : Shared) (H : Hp) (E : XK), Room k (A.deeper (envOfC x (defScope st) s.heap.objs.size f cdv)) → A.guards = some [] →
      ∃ t, PSs (cxOf CX0 P w K mg base N x (defScope st) f cdv A outer s H E).nox (defBody st) t ∧ ∀ a g k i, ok i → Run (AmW T a g k) t (startW N a (args i)) (Fin' (post i))) :
    FnG P w K mg base (k + 1) f fd ps (spW T ok args post) := by
  refine okG F S (fun vs H Q E ⟨i, own, a, g, k, rest, e, _, _, _, _, hs, _⟩ => by rw [e, List.length_cons, hs.len]; exact hlen i) fun cdv A outer s H vs Q E hr hg ⟨i, own, a, g, k, rest, e, hp, hd, hw, hi, hs, q⟩ => ?_
  subst e
  obtain ⟨t, h1, h2⟩ := body cdv A outer s H E hr hg
  refine ⟨t, h1, h2 a g k i hp H own (fun _ => 0) _ H _ (sit_startW hi hw hd hs) ⟨fun Γ' A' σ' H' p s c => ?_, fun v d H' p k i hh => q v d H' p k i hh, fun _ _ _ _ p => False.elim p, fun _ _ _ _ p => False.elim p, fun _ _ _ p => False.elim p⟩⟩
  exact q .non .none H' p s.keep s.sit.inv .non
end
end K41
end
section
set_option linter.all false
set_option maxRecDepth 100000
/-! K41, layer D, eighteenth part: a list unpacked, three at once. -/
namespace K41
open PySem PySem.Spec PyProof.Rows L2
open Classical
section
variable {X : Cx} {K : PySem.W.Frag}
theorem xg_unl {es : List Expr} {k : Nat} {t : TGs} {n : Nat} {pos : Pos} (h : X.K = K) (hc : X.calm = true) (ht : PGs X es t) (hn : (assignEach es X.env).length = n := by rfl) (hst : (assignEach es X.env).findIdx? (·.1) = none := by rfl) : PG X (.Tuple es k pos) (gUnl K n t) := h ▸ pg_unl hc ht hn hst
end
section
variable {T : List (Addr × Str)} {M : Am T} {K : PySem.W.Frag} {Γ : Env'} {P : Out → Prop} {tA : TA}
theorem g_unl {n : Nat} {gs : TGs} {S : List Nat} {ds : List PyData} {P : Env' → Prop} (hn : ds.length = n) (h : EvGs M gs S ds Γ P) : EvG M (gUnl K n gs) S (.list ds) Γ P := fun O A σ H v Q s hh f => by
  obtain ⟨a, xs, rfl, h1, h2⟩ := hh.lstAt
  exact ⟨a, xs, rfl, SqL.of (hid_le _ _ h1), by rw [h2.len]; exact hn, h O A σ H xs Q s h2 f⟩
theorem r_par3 {i j l : Nat} (h : EvA M tA Γ fun ds => ∃ d e u, ds = [d, e, u] ∧ P (.nx (((Γ.set i (some (.dat d))).set j (some (.dat e))).set l (some (.dat u))))) : Run M (tPar3 i j l tA) Γ P := fun H0 O A σ H D S L =>
  h O A σ H _ S.sit fun vs ds H1 ⟨d, e, u, ed, p⟩ k i1 hs => by
    subst ed
    cases hs with
    | @cons x _ xs _ hx hs =>
      obtain ⟨y, z, rfl, hy, hz⟩ := hs.two
      have S1 := S.step k i1
      obtain ⟨s2, l2⟩ := S1.sit.put (j := i) (c := some (.dat d)) (v := some x) (fun z e => by cases e; exact id) fun z e => by cases e; exact ⟨x, rfl, hx⟩
      obtain ⟨s3, l3⟩ := s2.put (j := j) (c := some (.dat e)) (v := some y) (fun z e => by cases e; exact id) fun z e => by cases e; exact ⟨y, rfl, hy.up fun b o q _ => hid_less l2 b o q⟩
      obtain ⟨s4, l4⟩ := s3.put (j := l) (c := some (.dat u)) (v := some z) (fun z e => by cases e; exact id) fun w e => by cases e; exact ⟨z, rfl, hz.up fun b o q _ => hid_less (fun a q => l2 a (l3 a q)) b o q⟩
      refine ⟨x, y, z, rfl, L.nx _ A _ H1 p ⟨s4, S1.keep, fun n m => ?_⟩ ((S.cln k).trans fun b o e _ => hid_less (fun a q => l2 a (l3 a (l4 a q))) b o e)⟩
      have m3 := (mine_set (c := some (.dat u)) (fun x e => by cases e; exact id) m).1
      have m2 := (mine_set (c := some (.dat e)) (fun x e => by cases e; exact id) m3).1
      exact S.fr n (mine_set (c := some (.dat d)) (fun x e => by cases e; exact id) m2).1
end
end K41
end
section
set_option linter.all false
set_option maxRecDepth 100000
/-! K41, the walks' common ground: the text by places, what the module's names hold. -/
namespace K41
open PySem PySem.Spec PyProof.Rows L2
def topS (i : Nat) : Stmt := PySem.Challenge.pw_piecetrees_k41_whole_classes_are_arrows.main.body.getD i (.Pass ⟨0, 0, 0, 0⟩)
/-! the rules with the written part's name, so that no reading hangs on a comprehension's block -/
section
variable {X : Cx} {K : PySem.W.Frag}
theorem x_ix (h : X.K = K) : IxR X (rIx K) := h ▸ ix_seq
theorem x_len (h : X.K = K) : CallR X (.builtin "len") (fun xs H Q => ∃ p ys, xs = [.ref p] ∧ (SqL K H p ys ∨ SqT K H p ys) ∧ Q (.int ys.length) H) := h ▸ call_len_seq
theorem x_tuple (h : X.K = K) : CallR X (.type "tuple") (fun xs H Q => ∃ p ys, xs = [.ref p] ∧ ((SqL K H p ys ∧ ∀ l, H l = none → Q (.ref l) (upd H l (.tup ys))) ∨ (SqT K H p ys ∧ Q (.ref p) H))) := h ▸ call_tuple_of
theorem x_list (h : X.K = K) : CallR X (.type "list") (fun xs H Q => ∃ p ys, xs = [.ref p] ∧ (SqL K H p ys ∨ SqT K H p ys) ∧ ∀ l, H l = none → Q (.ref l) (upd H l (.lst ys))) := h ▸ call_list_of
theorem x_sum (h : X.K = K) (hc : X.calm = true) : CallR X (.builtin "sum") (rSum K) := h ▸ cr_sum hc
theorem x_any (h : X.K = K) (hc : X.calm = true) : CallR X (.builtin "any") (rAny K) := h ▸ cr_any hc
theorem x_sorted (h : X.K = K) (hu : X.A.units + 65 < cLine) : CallR X (.builtin "sorted") (rSortD K) := h ▸ cr_sortD hu
theorem x_slT (h : X.K = K) : SlR X (rSlA K) := h ▸ sl_tupA
theorem x_slL (h : X.K = K) : SlR X (rSlL K) := h ▸ sl_list
theorem x_in (h : X.K = K) : OpR X (compareOp .In) (rIn K false) := h ▸ op_in_seq
theorem x_notIn (h : X.K = K) : OpR X (compareOp .NotIn) (rIn K true) := h ▸ op_notIn_seq
theorem x_catT (h : X.K = K) : OpR X (binaryOp .Add) (rCatA K) := h ▸ op_catA
theorem x_eqD (h : X.K = K) (hu : X.A.units + 64 < cLine) : OpR X (compareOp .Eq) (rEqD K) := h ▸ op_eqD hu
theorem x_neD (h : X.K = K) (hu : X.A.units + 64 < cLine) : OpR X (compareOp .NotEq) (rNeD K) := h ▸ op_neD hu
theorem x_inTD (h : X.K = K) (hu : X.A.units + 65 < cLine) : OpR X (compareOp .In) (rInTD K) := h ▸ op_inTD hu
theorem xi_seq {tg l : Expr} {tl : TE} (h : X.K = K) (hl : PE X l tl) : PI X tg l (iSeq K tl) := h ▸ pi_seq hl
theorem xi_enum {e : Expr} {ta : TA} {p pos tpos : Pos} {elts : List Expr} {kk : Nat} (h : X.K = K) (hg : Gl X "enumerate") (hm : X.mg "enumerate" = none) (ha : PA X [e] ta) (hs : starEach [e] X.env = [(false, eval e X.env)] := by rfl) :
    PI X (.Tuple elts kk tpos) (.Call (.Name "enumerate" p) [e] [] pos) (iEnumS K ta) := h ▸ pi_enumS hg hm ha hs
theorem xg_tup {es : List Expr} {k : Nat} {t : TGs} {n : Nat} {pos : Pos} (h : X.K = K) (hc : X.calm = true) (ht : PGs X es t) (hn : (assignEach es X.env).length = n := by rfl) (hst : (assignEach es X.env).findIdx? (·.1) = none := by rfl) : PG X (.Tuple es k pos) (gTup K n t) := h ▸ pg_tup hc ht hn hst
end
/-- the built-ins' names are the built-ins' -/
structure Zs (mg : Str → Option Value) : Prop where
  len : mg "len" = none
  tuple : mg "tuple" = none
  list : mg "list" = none
  range : mg "range" = none
  enumerate : mg "enumerate" = none
  sorted : mg "sorted" = none
  any : mg "any" = none
  sum : mg "sum" = none
  abs : mg "abs" = none
  int : mg "int" = none
  set : mg "set" = none
  isinstance : mg "isinstance" = none
  zip : mg "zip" = none
  repr : mg "repr" = none
/-- a def of the text as it stands behind the top -/
structure At' (K : PySem.W.Frag) (mg : Str → Option Value) (x : Str) (st : Stmt) (ps : List Str) (f : Addr) (fd : FuncData) : Prop where
  F : Fun K x x st f fd
  m : mg x = some (.ref f)
  b : Binds K fd ps []
/-- a def that keeps a promise, as a caller sees it -/
structure Cal (P : Program) (w : World) (K : PySem.W.Frag) (mg : Str → Option Value) (base : Heap) (k : Nat) (x : Str) (ps : List Str) (sp : Sp) (f : Addr) (fd : FuncData) : Prop where
  G : FnOk P w K mg base CX0 k f fd ps sp
  m : mg x = some (.ref f)
  kp : PySem.W.keepIn K (.ref f) = true
  b : Binds K fd ps []
section
variable {T : List (Addr × Str)} {P : Program} {w : World} {K : PySem.W.Frag} {mg : Str → Option Value} {base : Heap}
theorem cal_D {ι : Type} {x : Str} {st : Stmt} {f : Addr} {fd : FuncData} {N ps : List Str} {k : Nat} {ok : ι → Prop} {args : ι → List PyData} {post : ι → PyData → Prop} (D : At' K mg x st ps f fd) (S : FnScope N ps (defScope st)) (hlen : ∀ i, (args i).length = ps.length)
    (body : ∀ (cdv : Value) (A : Around) (outer : List Env) (s : Shared) (H : Hp) (E : XK), Room k (A.deeper (envOfC x (defScope st) s.heap.objs.size f cdv)) →
      ∃ t, PSs (cxOf CX0 P w K mg base N x (defScope st) f cdv A outer s H E).nox (defBody st) t ∧ ∀ i, ok i → Run (Am0 T) t (startE N (args i)) (Fin' (post i))) :
    Cal P w K mg base (k + 1) x ps (spD T ok args post) f fd := ⟨fn_D D.F S hlen body, D.m, D.F.kp, D.b⟩
end
end K41
end
section
set_option linter.all false
set_option maxRecDepth 100000
/-! K41, the walks: part, parts_two. -/
namespace K41
open PySem PySem.Spec PyProof.Rows L2
/-! ### webs as data -/
def nD (i : Nat) : PyData := .int (i : Int)
def bD (b : Bool) : PyData := .int (if b then 1 else 0)
def rowL (n : Nat) (t : Nat → Nat → Bool) (x : Nat) : List PyData := (List.range n).map fun y => bD (t x y)
def rowsL (n : Nat) (t : Nat → Nat → Bool) : List PyData := (List.range n).map fun x => .tuple (rowL n t x)
def rowsD (n : Nat) (t : Nat → Nat → Bool) : PyData := .tuple (rowsL n t)
def tabD (n : Nat) (t : Nat → Nat → Bool) : PyData := .tuple [nD n, rowsD n t]
def lotD (l : List Nat) : PyData := .tuple (l.map nD)
def toI (l : List Nat) : List Int := l.map fun (x : Nat) => (x : Int)
theorem map_nD (l : List Nat) : l.map nD = (toI l).map .int := by unfold toI; rw [List.map_map]; rfl
theorem rows_at {n : Nat} {t : Nat → Nat → Bool} {x : Nat} (h : x < n) : (rowsL n t)[x]? = some (.tuple (rowL n t x)) := by
  unfold rowsL
  rw [List.getElem?_map, List.getElem?_range h]
  rfl
theorem row_at {n : Nat} {t : Nat → Nat → Bool} {x y : Nat} (h : y < n) : (rowL n t x)[y]? = some (bD (t x y)) := by
  unfold rowL
  rw [List.getElem?_map, List.getElem?_range h]
  rfl
theorem bD_ne (a b : Bool) : (!decide ((if a then (1 : Int) else 0) = if b then 1 else 0)) = (a != b) := by cases a <;> cases b <;> rfl
theorem bD_eq1 (a : Bool) : decide ((if a then (1 : Int) else 0) = 1) = a := by cases a <;> rfl
theorem bD_eq0 (a : Bool) : decide ((if a then (1 : Int) else 0) = 0) = !a := by cases a <;> rfl
section
variable {T : List (Addr × Str)} {M : Am T} {K : PySem.W.Frag} {Γ : Env'} {P : PyData → Prop} {ta tb tc : TE}
theorem a_v {i : Nat} {d : PyData} {R : List PyData → Prop} {tA : TA} (h : Γ[i]? = some (some (.dat d))) (k : EvA M tA Γ fun ds => R (d :: ds)) : EvA M (tCons (tVar i) tA) Γ R := a_cons (d_var h k)
/-- rows[x][y], rows, x, y read -/
theorem d_look {n : Nat} {t : Nat → Nat → Bool} {x y : Nat} (hx : x < n) (hy : y < n) (h : EvD M ta Γ fun a => a = rowsD n t) (h1 : EvD M tb Γ fun a => a = nD x) (h2 : EvD M tc Γ fun a => a = nD y) (p : P (bD (t x y))) :
    EvD M (tOp (rIx K) (tOp (rIx K) ta tb) tc) Γ P := by
  refine d_op (d_op (h.mono fun a ea => h1.mono fun b eb => ?_))
  subst ea eb
  refine rd_xT (rows_at hx) (h2.mono fun c ec => ?_)
  subst ec
  exact rd_xT (row_at hy) p
end
/-- the looks that the data rows hold, read off a web -/
structure WebI where
  n : Nat
  t : Nat → Nat → Bool
  l : List Nat
  o : Nat
  x : Nat
  y : Nat

/-! parts_two: slots 0 rows, 1 outer, 2 thing, 3 other; cells ; calls  -/
abbrev sparts_two : Stmt := topS 6
theorem scparts_two : FnScope ["rows", "outer", "thing", "other"] ["rows", "outer", "thing", "other"] (defScope sparts_two) := ⟨rfl, rfl, rfl, by decide +kernel, rfl, by decide +kernel, by decide +kernel⟩
abbrev spParts2 (T : List (Addr × Str)) : Sp := spD T (ι := WebI) (fun i => Wb i.t ∧ i.o < i.n ∧ i.x < i.n ∧ i.y < i.n) (fun i => [rowsD i.n i.t, nD i.o, nD i.x, nD i.y]) fun i d => d = .bool (i.t i.o i.x != i.t i.o i.y)
section
variable {T : List (Addr × Str)} {P : Program} {w : World} {K : PySem.W.Frag} {mg : Str → Option Value} {base : Heap}
theorem ok_parts_two {f : Addr} {fd : FuncData} (D : At' K mg "parts_two" sparts_two ["rows", "outer", "thing", "other"] f fd) (Z : Zs mg) : Cal P w K mg base 1 "parts_two" ["rows", "outer", "thing", "other"] (spParts2 T) f fd := by
  refine cal_D D scparts_two (fun _ => rfl) fun cdv A outer s H E hr => ⟨_,
    (pss_one (ps_ret (pe_or (pe_cmpR op_ne (pe_ix (x_ix (K := K) rfl) (pe_ix (x_ix (K := K) rfl) (pv 0) (pv 1) (fun _ _ => rfl)) (pv 2) (fun _ _ => rfl)) (pe_ix (x_ix (K := K) rfl) (pe_ix (x_ix (K := K) rfl) (pv 0) (pv 1) (fun _ _ => rfl)) (pv 3) (fun _ _ => rfl)) (nomark _)) (pe_one (pe_cmpR op_ne (pe_ix (x_ix (K := K) rfl) (pe_ix (x_ix (K := K) rfl) (pv 0) (pv 2) (fun _ _ => rfl)) (pv 1) (fun _ _ => rfl)) (pe_ix (x_ix (K := K) rfl) (pe_ix (x_ix (K := K) rfl) (pv 0) (pv 3) (fun _ _ => rfl)) (pv 1) (fun _ _ => rfl)) (nomark _)))))),
    fun i ⟨w, ho, hx, hy⟩ => ?_⟩
  refine r_ret (d_orV (d_op (d_look ho hx (d_var rfl rfl) (d_var rfl rfl) (d_var rfl rfl) (d_look ho hy (d_var rfl rfl) (d_var rfl rfl) (d_var rfl rfl) (rd_ne ⟨_, rfl, fun e => ?_, fun e => ?_⟩)))))
  · rw [bD_ne] at e
    show PyData.bool true = _
    rw [e]
  · rw [bD_ne] at e
    refine d_op (d_look hx ho (d_var rfl rfl) (d_var rfl rfl) (d_var rfl rfl) (d_look hy ho (d_var rfl rfl) (d_var rfl rfl) (d_var rfl rfl) (rd_ne ?_)))
    rw [bD_ne, w.sym i.x, w.sym i.y]
    rfl
end

/-! part: slots 0 table, 1 lot, 2 rows, 3 thing, 4 other; cells lot rows; calls  -/
abbrev spart : Stmt := topS 4
theorem scpart : FnScope ["table", "lot", "rows", "thing", "other"] ["table", "lot"] (defScope spart) := ⟨rfl, rfl, rfl, by decide +kernel, rfl, by decide +kernel, by decide +kernel⟩
abbrev spPart (T : List (Addr × Str)) : Sp := spD T (ι := WebI) (fun i => (∀ x ∈ i.l, x < i.n) ∧ i.l.length ≤ 8) (fun i => [tabD i.n i.t, lotD i.l]) fun i d => d = tabD i.l.length (pt i.t i.l)
theorem part_rows (t : Nat → Nat → Bool) (l : List Nat) : rowsL l.length (pt t l) = l.map fun x => .tuple (l.map fun y => bD (t x y)) := by
  have e : ∀ {α : Type} (g : Nat → α), (List.range l.length).map (fun i => g (at' l i)) = l.map g := fun {α} g => by
    apply List.ext_getElem?
    intro i
    rw [List.getElem?_map, List.getElem?_map]
    by_cases h : i < l.length
    · rw [List.getElem?_range h, List.getElem?_eq_getElem h]
      show some (g (at' l i)) = some (g l[i])
      unfold at'
      rw [List.getD_eq_getElem?_getD, List.getElem?_eq_getElem h]
      rfl
    · rw [List.getElem?_eq_none (by rw [List.length_range]; omega), List.getElem?_eq_none (by omega)]
      rfl
  unfold rowsL rowL pt
  rw [e fun x => PyData.tuple ((List.range l.length).map fun y => bD (t x (at' l y)))]
  exact List.map_congr_left fun x _ => congrArg _ (e fun y => bD (t x y))
section
variable {T : List (Addr × Str)} {P : Program} {w : World} {K : PySem.W.Frag} {mg : Str → Option Value} {base : Heap}
theorem ok_part {f : Addr} {fd : FuncData} (D : At' K mg "part" spart ["table", "lot"] f fd) (Z : Zs mg) : Cal P w K mg base 1 "part" ["table", "lot"] (spPart T) f fd := by
  refine cal_D D scpart (fun _ => rfl) fun cdv A outer s H E hr => ⟨_,
    (pss_cons (ps_set (i := 2) scpart.nd rfl (.inr rfl) (pe_ix (x_ix (K := K) rfl) (pv 0) pe_int (fun _ _ => rfl)))
    (pss_one (ps_ret (pe_tup (pa_cons (pe_callB (x_len (K := K) rfl) (by rfl) Z.len (by decide +kernel) (pa_cons (pv 1) pa_nil)) (pa_cons (pe_callTy (x_tuple (K := K) rfl) (by rfl) Z.tuple (by decide +kernel) (pa_cons (pe_lc (own := [("thing", 3)]) rfl scpart.nd (xi_seq (K := K) rfl (pv 1)) (blkOk_by (by kernel_rfl)) (fun _ _ _ _ _ => (pg_name (i := 3) scpart.nd rfl (by first | exact Or.inl rfl | exact Or.inr rfl))) (fun _ _ _ _ _ => pts_nil) (fun _ _ _ _ _ => (pe_callTy (x_tuple (K := K) rfl) (by rfl) Z.tuple (by decide +kernel) (pa_cons (pe_lc (own := [("other", 4)]) rfl scpart.nd (xi_seq (K := K) rfl (pv 1)) (blkOk_by (by kernel_rfl)) (fun _ _ _ _ _ => (pg_name (i := 4) scpart.nd rfl (by first | exact Or.inl rfl | exact Or.inr rfl))) (fun _ _ _ _ _ => pts_nil) (fun _ _ _ _ _ => (pe_ix (x_ix (K := K) rfl) (pe_ix (x_ix (K := K) rfl) (pv 2) (pv 3) (fun _ _ => rfl)) (pv 4) (fun _ _ => rfl)))) pa_nil)))) pa_nil)) pa_nil)))))),
    fun i ⟨hl, h8⟩ => ?_⟩
  refine r_seq (r_asg (d_op (d_var rfl (d_int (rd_xT (k := 1) rfl ?_)))))
  refine r_ret (d_tup (a_cons (d_callB (a_cons (d_var rfl (a_nil (rc_lenT ?_)))))))
  refine a_cons (d_callB (a_cons (d_ofF (f_mapA i.l nD (fun x => .tuple (i.l.map fun y => bD (i.t x y))) rfl (by omega) (i_seqT (d_var rfl ⟨_, rfl, rfl⟩)) (fun x hx => g_name (by simp) ?_) ?_))))
  · refine d_callB (a_cons (d_ofF (f_mapA i.l nD (fun y => bD (i.t x y)) rfl (by omega) (i_seqT (d_var rfl ⟨_, rfl, rfl⟩)) (fun y hy => g_name (by simp) ?_) (a_nil (rc_tupOf rfl)))))
    exact d_look (hl x hx) (hl y hy) (d_var rfl rfl) (d_var rfl rfl) (d_var rfl rfl) rfl
  · refine a_nil (rc_tupOf (a_nil ⟨by simp, ?_⟩))
    show PyData.tuple [.int ((i.l.map nD).length : Nat), .tuple _] = .tuple [nD i.l.length, .tuple _]
    rw [part_rows, List.length_map]
    rfl
end
end K41
end
section
set_option linter.all false
set_option maxRecDepth 100000
/-! K41, the walks: telling, is_piece. -/
namespace K41
open PySem PySem.Spec PyProof.Rows L2
theorem rng_nD (n : Nat) : rngD 0 n = (List.range n).map nD := by
  unfold rngD
  exact List.map_congr_left fun i _ => by show PyData.int (0 + (i : Int)) = PyData.int (i : Int); rw [Int.zero_add]
theorem numD_map {α : Type} (f : α → PyData) : ∀ (k : Nat) (l : List α), numD k (l.map f) = (l.zipIdx k).map fun p => .tuple [nD p.2, f p.1]
  | _, [] => rfl
  | k, a :: l => by
    show PyData.tuple _ :: numD (k + 1) (l.map f) = _
    rw [numD_map f (k + 1) l]
    rfl
theorem zipIdx_at {α : Type} {l : List α} {i : Nat} {p : α × Nat} (h : l.zipIdx[i]? = some p) : l[i]? = some p.1 ∧ p.2 = i := by
  rw [List.getElem?_zipIdx] at h
  cases e : l[i]? with
  | none => rw [e] at h; cases h
  | some a => rw [e] at h; cases h; exact ⟨rfl, by simp⟩
theorem mem_toI {x : Nat} {l : List Nat} : (x : Int) ∈ toI l ↔ x ∈ l := by
  unfold toI
  rw [List.mem_map]
  refine ⟨fun ⟨y, h, e⟩ => ?_, fun h => ⟨x, h, rfl⟩⟩
  have e2 : y = x := by omega
  exact e2 ▸ h
section
variable {T : List (Addr × Str)} {M : Am T} {K : PySem.W.Frag} {Γ : Env'} {P : PyData → Prop} {ta tb : TE}
/-- for x in range(n) -/
theorem i_range {tA : TA} {n : Nat} {R : List PyData → Prop} (hn : n ≤ 1000) (h : EvA M tA Γ fun as => as = [nD n]) (r : R ((List.range n).map nD)) : EvI M (iRng1 tA) Γ R := i_rng1 (fun O A σ H Q S f => h O A σ H Q S fun vs ds H' e => f vs ds H' ⟨n, e, by omega, by rw [rng_nD]; exact r⟩)
/-- x in lot -/
theorem rd_lot {x : Nat} {l : List Nat} {neg : Bool} (p : P (.bool (if neg then !decide (x ∈ l) else decide (x ∈ l)))) : RD M (rIn K neg) (nD x) (lotD l) P := by
  unfold lotD
  rw [map_nD]
  refine rd_inT ?_
  simp only [mem_toI]
  exact p
end
/-! telling: slots 0 table, 1 lot, 2 size, 3 rows, 4 outer, 5 place, 6 thing, 7 other; cells ; calls parts_two -/
abbrev stelling : Stmt := topS 7
theorem sctelling : FnScope ["table", "lot", "size", "rows", "outer", "place", "thing", "other"] ["table", "lot"] (defScope stelling) := ⟨rfl, rfl, rfl, by decide +kernel, rfl, by decide +kernel, by decide +kernel⟩
def okLot (i : WebI) : Prop := Wb i.t ∧ (∀ x ∈ i.l, x < i.n) ∧ i.n ≤ 8 ∧ i.l.length ≤ 8
abbrev spTelling (T : List (Addr × Str)) : Sp := spD T (ι := WebI) okLot (fun i => [tabD i.n i.t, lotD i.l]) fun i d =>
  (d = .none ∧ Mo i.n i.t (· ∈ i.l)) ∨ ∃ z x y, d = .tuple [nD z, nD x, nD y] ∧ z < i.n ∧ z ∉ i.l ∧ x ∈ i.l ∧ y ∈ i.l ∧ i.t z x ≠ i.t z y
section
variable {T : List (Addr × Str)} {P : Program} {w : World} {K : PySem.W.Frag} {mg : Str → Option Value} {base : Heap}
theorem ok_telling {f f1 : Addr} {fd fd1 : FuncData} (D : At' K mg "telling" stelling ["table", "lot"] f fd) (Z : Zs mg) (C_parts_two : Cal P w K mg base 1 "parts_two" ["rows", "outer", "thing", "other"] (spParts2 T) f1 fd1) :
    Cal P w K mg base 2 "telling" ["table", "lot"] (spTelling T) f fd := by
  refine cal_D D sctelling (fun _ => rfl) fun cdv A outer s H E hr => ⟨_,
    (pss_cons (ps_asg (pv 0) (xg_tup (K := K) (n := 2) rfl rfl (pgs_cons (pg_name (i := 2) sctelling.nd rfl (.inl rfl)) (pgs_cons (pg_name (i := 3) sctelling.nd rfl (.inl rfl)) pgs_nil))))
    (pss_cons (ps_for PassesOwn.never rfl (pi_range1 (by rfl) Z.range (pa_cons (pv 2) pa_nil)) (pg_name (i := 4) sctelling.nd rfl (.inl rfl))
      (pss_cons (ps_if (pt_cmpR (x_in (K := K) rfl) (pv 4) (pv 1) (by rfl))
        (pss_one ps_continue)
        pss_nil)
      (pss_one (ps_for PassesOwn.never rfl (xi_enum (K := K) rfl (by rfl) Z.enumerate (pa_cons (pv 1) pa_nil)) (xg_tup (K := K) (n := 2) rfl rfl (pgs_cons (pg_name (i := 5) sctelling.nd rfl (.inl rfl)) (pgs_cons (pg_name (i := 6) sctelling.nd rfl (.inl rfl)) pgs_nil)))
        (pss_one (ps_for PassesOwn.never rfl (xi_seq (K := K) rfl (pe_slice (x_slT (K := K) rfl) (pv 1) (po_some (pe_op op_add (pv 5) pe_int)) po_none)) (pg_name (i := 7) sctelling.nd rfl (.inl rfl))
          (pss_one (ps_if (pt_val (pe_call C_parts_two.G (hr.mono (by omega)) (by rfl) C_parts_two.m C_parts_two.kp C_parts_two.b .nil pass0 (pa_cons (pv 3) (pa_cons (pv 4) (pa_cons (pv 6) (pa_cons (pv 7) pa_nil))))))
            (pss_one (ps_ret (pe_tup (pa_cons (pv 4) (pa_cons (pv 6) (pa_cons (pv 7) pa_nil))))))
            pss_nil))))))))
    (pss_one (ps_ret pe_non)))),
    fun i ⟨w, hl, hn, h8⟩ => ?_⟩
  refine r_seq (r_asgG (S := [2, 3]) (d_var rfl (g_tup rfl (gs_cons (g_name (by simp) (gs_cons (g_name (by simp) (gs_nil ?_))))))))
  refine r_seq (r_forA (List.range i.n) nD (fun k Γ1 => (∃ c4 c5 c6 c7, Γ1 = [some (.dat (tabD i.n i.t)), some (.dat (lotD i.l)), some (.dat (nD i.n)), some (.dat (rowsD i.n i.t)), c4, c5, c6, c7]) ∧ ∀ z, z < k → z ∉ i.l → ∀ x ∈ i.l, ∀ y ∈ i.l, i.t z x = i.t z y)
    (i_range (by omega) (a_cons (d_var rfl (a_nil rfl))) rfl) ⟨⟨none, none, none, none, rfl⟩, fun _ h => absurd h (by omega)⟩ [4] (fun k z Γ1 hz ⟨⟨c4, c5, c6, c7, e⟩, hk⟩ => ?_) fun Γ1 ⟨_, hk⟩ => ?_)
  · subst e
    have ez : z = k := by
      have h := List.getElem?_eq_some_iff.mp hz
      simpa using h.2.symm
    subst ez
    have hzn : z < i.n := by simpa using (List.getElem?_eq_some_iff.mp hz).1
    refine g_name (by simp) (r_seq (r_if (t_test (d_op (d_var rfl (d_var rfl (rd_lot ⟨_, rfl, fun e => ?_, fun e => ?_⟩)))))))
    · -- in the lot: continue
      refine r_cont ⟨⟨_, _, _, _, rfl⟩, fun z' h1 h2 => ?_⟩
      rcases Nat.lt_succ_iff_lt_or_eq.mp h1 with h | h
      · exact hk z' h h2
      · subst h
        exact absurd (of_decide_eq_true e) h2
    · have nz : z ∉ i.l := of_decide_eq_false e
      refine r_next ?_
      refine r_forA (i.l.zipIdx) (fun p => .tuple [nD p.2, nD p.1]) (fun j Γ2 => (∃ c5 c6 c7, Γ2 = [some (.dat (tabD i.n i.t)), some (.dat (lotD i.l)), some (.dat (nD i.n)), some (.dat (rowsD i.n i.t)), some (.dat (nD z)), c5, c6, c7]) ∧ ∀ p q, p < j → p < q → ∀ x y, i.l[p]? = some x → i.l[q]? = some y → i.t z x = i.t z y)
        (i_enumT (a_cons (d_var rfl (a_nil ⟨_, rfl, numD_map nD 0 i.l⟩)))) ⟨⟨_, _, _, rfl⟩, fun p q h => absurd h (by omega)⟩ [5, 6] (fun j p Γ2 hp ⟨⟨d5, d6, d7, e2⟩, hj⟩ => ?_) fun Γ2 ⟨⟨d5, d6, d7, e2⟩, hj⟩ => ?_
      · subst e2
        obtain ⟨hp1, hp2⟩ := zipIdx_at hp
        obtain ⟨x, j'⟩ := p
        simp only at hp1 hp2
        subst hp2
        have hx : x ∈ i.l := List.mem_of_getElem? hp1
        refine g_tup rfl (gs_cons (g_name (by simp) (gs_cons (g_name (by simp) (gs_nil ?_)))))
        refine r_forA (i.l.drop (j' + 1)) nD (fun m Γ3 => (∃ c7, Γ3 = [some (.dat (tabD i.n i.t)), some (.dat (lotD i.l)), some (.dat (nD i.n)), some (.dat (rowsD i.n i.t)), some (.dat (nD z)), some (.dat (nD j')), some (.dat (nD x)), c7]) ∧ ∀ q y, q < m → (i.l.drop (j' + 1))[q]? = some y → i.t z x = i.t z y)
          (i_seqT (d_slT (d_var rfl ⟨_, rfl, o_some (d_op (d_var rfl (d_int (rd_I0 (.int _) ⟨_, rfl, o_none ⟨j' + 1, ?_, rfl, _, rfl, ?_⟩⟩))))⟩))) ⟨⟨_, rfl⟩, fun q y h => absurd h (by omega)⟩ [7] (fun m y Γ3 hy ⟨⟨c7, e3⟩, hm⟩ => ?_) fun Γ3 ⟨⟨c7, e3⟩, hm⟩ => ?_
        · simp
        · rw [List.map_drop]
        · subst e3
          have hy' : y ∈ i.l := List.mem_of_mem_drop (List.mem_of_getElem? hy)
          refine g_name (by simp) (r_if (t_B (d_call (a_cons (d_var rfl (a_cons (d_var rfl (a_cons (d_var rfl (a_cons (d_var rfl (a_nil ⟨⟨i.n, i.t, [], z, x, y⟩, ⟨w, hzn, hl x hx, hl y hy'⟩, rfl, fun d ed => ⟨_, ed, fun e => ?_, fun e => ?_⟩⟩))))))))))))
          · have nt : i.t z x ≠ i.t z y := by simpa using e
            exact r_ret (d_tup (a_cons (d_var rfl (a_cons (d_var rfl (a_cons (d_var rfl (a_nil ⟨by simp, .inr ⟨z, x, y, rfl, hzn, nz, hx, hy', nt⟩⟩))))))))
          · refine r_next ⟨⟨_, rfl⟩, fun q y' hq hy2 => ?_⟩
            rcases Nat.lt_succ_iff_lt_or_eq.mp hq with h | h
            · exact hm q y' h hy2
            · subst h
              rw [hy] at hy2
              cases hy2
              simpa using e
        · subst e3
          refine ⟨⟨_, _, _, rfl⟩, fun p q h1 h2 x' y' hx' hy' => ?_⟩
          rcases Nat.lt_succ_iff_lt_or_eq.mp h1 with h | h
          · exact hj p q h h2 x' y' hx' hy'
          · subst h
            rw [hp1] at hx'
            cases hx'
            refine hm (q - (p + 1)) y' ?_ ?_
            · have := (List.getElem?_eq_some_iff.mp hy').1
              rw [List.length_drop]
              omega
            · rw [List.getElem?_drop, show p + 1 + (q - (p + 1)) = q by omega]
              exact hy'
      · subst e2
        refine ⟨⟨_, _, _, _, rfl⟩, fun z' h1 h2 x hx y hy => ?_⟩
        rcases Nat.lt_succ_iff_lt_or_eq.mp h1 with h | h
        · exact hk z' h h2 x hx y hy
        · subst h
          obtain ⟨p, hp, ep⟩ := List.getElem_of_mem hx
          obtain ⟨q, hq, eq⟩ := List.getElem_of_mem hy
          have e1 : i.l[p]? = some x := by rw [List.getElem?_eq_getElem hp, ep]
          have e2 : i.l[q]? = some y := by rw [List.getElem?_eq_getElem hq, eq]
          have hzl : i.l.zipIdx.length = i.l.length := List.length_zipIdx
          rcases Nat.lt_trichotomy p q with h | h | h
          · exact hj p q (by omega) h x y e1 e2
          · subst h; rw [e1] at e2; cases e2; rfl
          · exact (hj q p (by omega) h y x e2 e1).symm
  · rw [List.length_range] at hk
    exact r_ret (d_non (.inl ⟨rfl, fun x hx => hl x hx, fun z hz nz x y hx hy => hk z hz nz x hx y hy⟩))
end
end K41
end
section
set_option linter.all false
set_option maxRecDepth 100000
/-! K41, the walks: is_piece, growing, least_piece, quotient. -/
namespace K41
open PySem PySem.Spec PyProof.Rows L2
/-! ### sorted lots -/
noncomputable def srt (l : List Nat) : List Nat := l.mergeSort fun a b => decide (a ≤ b)
theorem srt_perm (l : List Nat) : (srt l).Perm l := List.mergeSort_perm _ _
theorem srt_mem {l : List Nat} {x : Nat} : x ∈ srt l ↔ x ∈ l := (srt_perm l).mem_iff
theorem srt_len (l : List Nat) : (srt l).length = l.length := (srt_perm l).length_eq
theorem srt_nodup {l : List Nat} (h : l.Nodup) : (srt l).Nodup := (srt_perm l).nodup_iff.mpr h
theorem srt_le (l : List Nat) : (srt l).Pairwise (· ≤ ·) := by
  have h := List.pairwise_mergeSort (le := fun a b : Nat => decide (a ≤ b)) (fun a b c h k => by simp at h k ⊢; omega) (fun a b => by simp; omega) l
  exact h.imp fun h => of_decide_eq_true h
theorem srt_asc {l : List Nat} (h : l.Nodup) : Asc (srt l) := by
  have h2 := (srt_le l).and (srt_nodup h)
  exact h2.imp fun ⟨a, b⟩ => Nat.lt_of_le_of_ne a b
theorem srt_eq {l m : List Nat} (hm : Asc m) (nd : l.Nodup) (h : ∀ x, x ∈ l ↔ x ∈ m) : srt l = m := asc_ext (srt_asc nd) hm fun x => srt_mem.trans (h x)
theorem sortD_lot (l : List Nat) : sortD (l.map nD) = (srt l).map nD := by
  rw [map_nD, sortD_ints]
  have e : (toI l).mergeSort (fun a b => decide (a ≤ b)) = toI (srt l) := by
    unfold toI srt
    refine (PySem.W.sort_maps (fun x : Nat => (x : Int)) fun a _ b _ => ?_).symm
    simp
  rw [e, ← map_nD]
theorem sortOk_lot {l : List Nat} (h : l.length ≤ 1000) : SortOk (l.map nD) := by
  rw [map_nD]
  exact sortOk_ints (by unfold toI; rw [List.length_map]; exact h)
theorem lot_len {n : Nat} {l : List Nat} (nd : l.Nodup) (h : ∀ x ∈ l, x < n) : l.length ≤ n := by
  have p : l.Perm ((List.range n).filter fun x => decide (x ∈ l)) := (List.perm_ext_iff_of_nodup nd (List.nodup_range.filter _)).mpr fun x => by
    simp only [List.mem_filter, List.mem_range, decide_eq_true_eq]
    exact ⟨fun hx => ⟨h x hx, hx⟩, fun hx => hx.2⟩
  rw [p.length_eq]
  have := List.length_filter_le (fun x => decide (x ∈ l)) (List.range n)
  rwa [List.length_range] at this
section
variable {T : List (Addr × Str)} {M : Am T} {K : PySem.W.Frag} {Γ : Env'} {R : List PyData → Prop}
theorem rcf_srt {l : List Nat} {c : PyData} (hc : c = .list (l.map nD) ∨ c = .tuple (l.map nD)) (h : l.length ≤ 1000) (p : R ((srt l).map nD)) : RCF M (rSortD K) [c] R := rcf_sort hc (sortOk_lot h) (by rw [sortD_lot]; exact p)
end
/-! is_piece: slots 0 table, 1 lot, 2 size, 3 rows, 4 outer, 5 other; cells lot outer rows; calls parts_two -/
abbrev sis_piece : Stmt := topS 8
theorem scis_piece : FnScope ["table", "lot", "size", "rows", "outer", "other"] ["table", "lot"] (defScope sis_piece) := ⟨rfl, rfl, rfl, by decide +kernel, rfl, by decide +kernel, by decide +kernel⟩
abbrev spIsPiece (T : List (Addr × Str)) : Sp := spD T (ι := WebI) (fun i => okLot i ∧ i.l ≠ [] ∧ Mo i.n i.t (· ∈ i.l)) (fun i => [tabD i.n i.t, lotD i.l]) fun i d => d = .bool true
section
variable {T : List (Addr × Str)} {P : Program} {w : World} {K : PySem.W.Frag} {mg : Str → Option Value} {base : Heap}
theorem ok_is_piece {f f1 : Addr} {fd fd1 : FuncData} (D : At' K mg "is_piece" sis_piece ["table", "lot"] f fd) (Z : Zs mg) (C_parts_two : Cal P w K mg base 1 "parts_two" ["rows", "outer", "thing", "other"] (spParts2 T) f1 fd1) :
    Cal P w K mg base 2 "is_piece" ["table", "lot"] (spIsPiece T) f fd := by
  refine cal_D D scis_piece (fun _ => rfl) fun cdv A outer s H E hr => ⟨_,
    (pss_cons (ps_asg (pv 0) (xg_tup (K := K) (n := 2) rfl rfl (pgs_cons (pg_name (i := 2) scis_piece.nd rfl (.inl rfl)) (pgs_cons (pg_name (i := 3) scis_piece.nd rfl (.inr rfl)) pgs_nil))))
    (pss_cons (ps_for PassesOwn.never rfl (pi_range1 (by rfl) Z.range (pa_cons (pv 2) pa_nil)) (pg_name (i := 4) scis_piece.nd rfl (.inr rfl))
      (pss_one (ps_if (PW.pt (pw_and (pt_cmpR (x_notIn (K := K) rfl) (pv 4) (pv 1) (by rfl)) (pw_and1 (pt_val (pe_callB (x_any (K := K) rfl rfl) (by rfl) Z.any (by decide +kernel) (pa_cons (pe_lc (own := [("other", 5)]) rfl scis_piece.nd (xi_seq (K := K) rfl (pe_slice (x_slT (K := K) rfl) (pv 1) (po_some pe_int) po_none)) (blkOk_by (by kernel_rfl)) (fun _ _ _ _ _ => (pg_name (i := 5) scis_piece.nd rfl (by first | exact Or.inl rfl | exact Or.inr rfl))) (fun _ _ _ _ _ => pts_nil) (fun _ _ _ _ _ => (pe_call C_parts_two.G (hr.mono (by omega)) (by rfl) C_parts_two.m C_parts_two.kp C_parts_two.b .nil pass0 (pa_cons (pv 3) (pa_cons (pv 4) (pa_cons (pe_ix (x_ix (K := K) rfl) (pv 1) pe_int (fun _ _ => rfl)) (pa_cons (pv 5) pa_nil))))))) pa_nil))))))
        (pss_one (ps_ret pe_bl))
        pss_nil)))
    (pss_one (ps_ret pe_bl)))),
    fun i ⟨⟨w, hl, hn, h8⟩, hne, hm⟩ => ?_⟩
  obtain ⟨x0, l0, el⟩ := List.exists_cons_of_ne_nil hne
  have hx0 : x0 ∈ i.l := by rw [el]; exact List.mem_cons_self
  refine r_seq (r_asgG (S := [2, 3]) (d_var rfl (g_tup rfl (gs_cons (g_name (by simp) (gs_cons (g_name (by simp) (gs_nil ?_))))))))
  refine r_seq (r_forA (List.range i.n) nD (fun k Γ1 => ∃ c4 c5, Γ1 = [some (.dat (tabD i.n i.t)), some (.dat (lotD i.l)), some (.dat (nD i.n)), some (.dat (rowsD i.n i.t)), c4, c5] ∧ c5 = none)
    (i_range (by omega) (a_v rfl (a_nil rfl)) rfl) ⟨_, _, rfl, rfl⟩ [4] (fun k z Γ1 hz ⟨c4, c5, e, e5⟩ => ?_) fun Γ1 _ => r_ret (d_bl rfl))
  subst e e5
  have hzn : z < i.n := by simpa using List.mem_of_getElem? hz
  refine g_name (by simp) (r_if (t_and (t_test (d_op (d_var rfl (d_var rfl (rd_lot ⟨_, rfl, fun _ => ⟨fun e => (nomatch e), fun _ => r_next ⟨_, _, rfl, rfl⟩⟩, fun e => ?_⟩)))))))
  have nz : z ∉ i.l := by simpa using e
  refine t_B (d_callB (a_cons (d_ofF (f_mapA (i.l.drop 1) nD (fun y => .bool false) rfl (by rw [List.length_drop]; omega) (i_seqT (d_slT (d_var rfl ⟨_, rfl, o_some (d_int ⟨1, rfl, o_none ⟨1, rfl, rfl, _, rfl, by rw [List.map_drop]⟩⟩)⟩))) (fun y hy => g_name (by simp) ?_) (a_nil ?_)))))
  · have hy' : y ∈ i.l := List.mem_of_mem_drop hy
    refine d_call (a_v rfl (a_v rfl (a_cons (d_op (d_var rfl (d_int (rd_xT (k := 0) (d := nD x0) (by rw [el]; rfl) ?_)))))))
    refine a_v rfl (a_nil ⟨⟨i.n, i.t, [], z, x0, y⟩, ⟨w, hzn, hl _ hx0, hl _ hy'⟩, rfl, fun d ed => ?_⟩)
    rw [ed, hm.2 z hzn nz x0 y hx0 hy']
    simp
  · have e2 : (i.l.drop 1).map (fun _ => PyData.bool false) = ((i.l.drop 1).map fun _ => false).map .bool := by rw [List.map_map]; rfl
    rw [e2]
    refine rc_any ⟨_, rfl, fun e => ?_, fun _ => r_next ⟨_, _, rfl, rfl⟩⟩
    obtain ⟨x, hx, ex⟩ := List.any_eq_true.mp e
    obtain ⟨_, _, rfl⟩ := List.mem_map.mp hx
    cases ex
end

/-! growing: slots 0 table, 1 lot, 2 held, 3 triples, 4 triple; cells ; calls telling -/
abbrev sgrowing : Stmt := topS 9
theorem scgrowing : FnScope ["table", "lot", "held", "triples", "triple"] ["table", "lot"] (defScope sgrowing) := ⟨rfl, rfl, rfl, by decide +kernel, rfl, by decide +kernel, by decide +kernel⟩
def okNd (i : WebI) : Prop := Wb i.t ∧ (∀ x ∈ i.l, x < i.n) ∧ i.n ≤ 8 ∧ i.l.Nodup
def triD (p : Nat × Nat × Nat) : PyData := .tuple [nD p.1, nD p.2.1, nD p.2.2]
/-- zs: what growing adds -/
structure Grown (n : Nat) (t : Nat → Nat → Bool) (l zs : List Nat) : Prop where
  nd : (l ++ zs).Nodup
  lt : ∀ x ∈ l ++ zs, x < n
  up : ∀ S, Mo n t S → (∀ x ∈ l, S x) → ∀ z ∈ zs, S z
abbrev spGrowing (T : List (Addr × Str)) : Sp := spD T (ι := WebI) okNd (fun i => [tabD i.n i.t, lotD i.l]) fun i d => ∃ ps : List (Nat × Nat × Nat), d = .tuple (ps.map triD) ∧ Grown i.n i.t i.l (ps.map (·.1)) ∧ Mo i.n i.t (· ∈ i.l ++ ps.map (·.1))
section
variable {T : List (Addr × Str)} {P : Program} {w : World} {K : PySem.W.Frag} {mg : Str → Option Value} {base : Heap}
theorem mo_congr {n : Nat} {t : Nat → Nat → Bool} {S S' : Nat → Prop} (h : Mo n t S) (e : ∀ x, S x ↔ S' x) : Mo n t S' := by
  have : S = S' := funext fun x => propext (e x)
  exact this ▸ h
theorem ok_growing {f f1 : Addr} {fd fd1 : FuncData} (D : At' K mg "growing" sgrowing ["table", "lot"] f fd) (Z : Zs mg) (C_telling : Cal P w K mg base 2 "telling" ["table", "lot"] (spTelling T) f1 fd1) :
    Cal P w K mg base 3 "growing" ["table", "lot"] (spGrowing T) f fd := by
  refine cal_D D scgrowing (fun _ => rfl) fun cdv A outer s H E hr => ⟨_,
    (pss_cons (ps_par (i := 2) (j := 3) rfl scgrowing.nd rfl rfl (by decide) rfl rfl (pa_cons (pv 1) (pa_cons (pe_lst pa_nil) pa_nil)) (by rfl))
    (pss_cons (ps_set (i := 4) scgrowing.nd rfl (.inl rfl) (pe_call C_telling.G (hr.mono (by omega)) (by rfl) C_telling.m C_telling.kp C_telling.b .nil pass0 (pa_cons (pv 0) (pa_cons (pv 2) pa_nil))))
    (pss_cons (ps_while PassesOwn.never (pt_cmpR op_notN (pv 4) pe_non (nomark _))
      (pss_cons (ps_expr (pe_bm PySem.F.plainAttrs_list PySem.F.slot_list_append PySem.F.type_list_append mt_append (pv 3) (pa_cons (pv 4) pa_nil)))
      (pss_cons (ps_set (i := 2) scgrowing.nd rfl (.inl rfl) (pe_callTy (x_tuple (K := K) rfl) (by rfl) Z.tuple (by decide +kernel) (pa_cons (pe_callB (x_sorted (K := K) rfl (Room.u65 hr)) (by rfl) Z.sorted (by decide +kernel) (pa_cons (pe_op (x_catT (K := K) rfl) (pv 2) (pe_tup (pa_cons (pe_ix (x_ix (K := K) rfl) (pv 4) pe_int (fun _ _ => rfl)) pa_nil))) pa_nil)) pa_nil)))
      (pss_one (ps_set (i := 4) scgrowing.nd rfl (.inl rfl) (pe_call C_telling.G (hr.mono (by omega)) (by rfl) C_telling.m C_telling.kp C_telling.b .nil pass0 (pa_cons (pv 0) (pa_cons (pv 2) pa_nil))))))))
    (pss_one (ps_ret (pe_callTy (x_tuple (K := K) rfl) (by rfl) Z.tuple (by decide +kernel) (pa_cons (pv 3) pa_nil))))))),
    fun i ⟨w, hl, hn, nd⟩ => ?_⟩
  refine r_seq (r_parF (by decide) (by simp [startE]) (d_var rfl (f_lst (a_nil ⟨by simp, ?_⟩))))
  let held : List (Nat × Nat × Nat) → List Nat := fun ps => if ps = [] then i.l else srt (i.l ++ ps.map (·.1))
  have hm : ∀ ps x, x ∈ held ps ↔ x ∈ i.l ++ ps.map (·.1) := fun ps x => by
    show x ∈ (if ps = [] then i.l else srt (i.l ++ ps.map (·.1))) ↔ _
    by_cases h : ps = []
    · rw [if_pos h, h]; simp
    · rw [if_neg h]; exact srt_mem
  have hp : ∀ ps, (held ps).Perm (i.l ++ ps.map (·.1)) := fun ps => by
    show (if ps = [] then i.l else srt (i.l ++ ps.map (·.1))).Perm _
    by_cases h : ps = []
    · rw [if_pos h, h]; simp
    · rw [if_neg h]; exact srt_perm _
  have tell : ∀ (ps : List (Nat × Nat × Nat)), Grown i.n i.t i.l (ps.map (·.1)) → okLot ⟨i.n, i.t, held ps, 0, 0, 0⟩ := fun ps g => by
    have h1 : ∀ x ∈ held ps, x < i.n := fun x hx => g.lt x ((hm ps x).mp hx)
    exact ⟨w, h1, hn, Nat.le_trans (lot_len ((hp ps).nodup_iff.mpr g.nd) h1) hn⟩
  let Iv : Nat → Env' → Prop := fun m Γ1 => ∃ ps d4, Γ1 = [some (.dat (tabD i.n i.t)), some (.dat (lotD i.l)), some (.dat (lotD (held ps))), some (.lst (ps.map triD)), some (.dat d4)] ∧ m + ps.length = 8 ∧ Grown i.n i.t i.l (ps.map (·.1)) ∧
    ((d4 = .none ∧ Mo i.n i.t (· ∈ held ps)) ∨ ∃ z x y, d4 = .tuple [nD z, nD x, nD y] ∧ z < i.n ∧ z ∉ held ps ∧ x ∈ held ps ∧ y ∈ held ps ∧ i.t z x ≠ i.t z y)
  have g0 : Grown i.n i.t i.l (([] : List (Nat × Nat × Nat)).map (·.1)) := ⟨by simpa using nd, by simpa using hl, fun _ _ _ z hz => nomatch hz⟩
  refine r_seq (r_asg (d_call (a_v rfl (a_v rfl (a_nil ⟨⟨i.n, i.t, held [], 0, 0, 0⟩, tell [] g0, rfl, fun d hd => ?_⟩)))))
  refine r_seq (r_while Iv ⟨8, [], d, rfl, rfl, g0, hd⟩ fun m Γ1 ⟨ps, d4, e, em, g, h4⟩ => ?_)
  subst e
  have len8 : i.l.length + ps.length ≤ 8 := by
    have := lot_len g.nd g.lt
    rw [List.length_append, List.length_map] at this
    omega
  refine t_test (d_op (d_var rfl (d_non (rd_notN ⟨_, rfl, fun e => ?_, fun e => ?_⟩))))
  · rcases h4 with ⟨q, _⟩ | ⟨z, x, y, q, hz, nz, hx, hy, ht⟩
    · rw [q] at e; simp at e
    · subst q
      have hlen : (held ps).length = i.l.length + ps.length := by rw [(hp ps).length_eq, List.length_append, List.length_map]
      refine r_seq (r_app rfl (by rw [List.length_map]; omega) (d_var rfl ?_))
      have eh : srt (held ps ++ [z]) = held (ps ++ [(z, x, y)]) := by
        show _ = if ps ++ [(z, x, y)] = [] then i.l else srt (i.l ++ (ps ++ [(z, x, y)]).map (·.1))
        rw [if_neg (by simp)]
        have p1 : (held ps ++ [z]).Perm (i.l ++ (ps ++ [(z, x, y)]).map (·.1)) := by
          rw [List.map_append, ← List.append_assoc]
          exact (hp ps).append (.refl _)
        have nd1 : (held ps ++ [z]).Nodup := by
          rw [List.nodup_append]
          exact ⟨(hp ps).nodup_iff.mpr g.nd, by simp, fun a ha b hb => by simp at hb; subst hb; exact fun e => nz (e ▸ ha)⟩
        exact asc_ext (srt_asc nd1) (srt_asc (p1.nodup_iff.mp nd1)) fun x => by rw [srt_mem, srt_mem]; exact p1.mem_iff
      have g1 : Grown i.n i.t i.l ((ps ++ [(z, x, y)]).map (·.1)) := by
        have nzl : z ∉ i.l ++ ps.map (·.1) := fun q => nz ((hm ps z).mpr q)
        refine ⟨?_, fun u hu => ?_, fun S hS hl' u hu => ?_⟩
        · rw [List.map_append, ← List.append_assoc, List.nodup_append]
          exact ⟨g.nd, by simp, fun a ha b hb => by simp at hb; subst hb; exact fun e => nzl (e ▸ ha)⟩
        · rw [List.map_append, ← List.append_assoc, List.mem_append] at hu
          rcases hu with hu | hu
          · exact g.lt u hu
          · simp at hu; subst hu; exact hz
        · rw [List.map_append, List.mem_append] at hu
          have inS : ∀ v ∈ held ps, S v := fun v hv => by
            rcases List.mem_append.mp ((hm ps v).mp hv) with q | q
            · exact hl' v q
            · exact g.up S hS hl' v q
          rcases hu with hu | hu
          · exact g.up S hS hl' u hu
          · simp at hu
            subst hu
            refine Classical.byContradiction fun q => ht (hS.2 u hz q x y (inS x hx) (inS y hy))
      refine r_seq <| r_asg <| d_callB <| a_cons <| d_ofF <| f_callB <| a_cons <| d_op <| d_var rfl <| d_tup <| a_cons <| d_op <| d_var rfl <| d_int <| rd_xT (k := 0) rfl <| a_nil ⟨by simp, rd_catA (by simp [hlen]; omega) ?_⟩
      have ec : (held ps).map nD ++ [nD z] = (held ps ++ [z]).map nD := by simp
      refine a_nil (rcf_srt (l := held ps ++ [z]) (.inr (by rw [← ec])) (by simp [hlen]; omega) (a_nil (rc_tupOf ?_)))
      rw [eh]
      refine r_asg (d_call (a_v rfl (a_v rfl (a_nil ⟨⟨i.n, i.t, held (ps ++ [(z, x, y)]), 0, 0, 0⟩, tell _ g1, rfl, fun d hd => ?_⟩))))
      have len9 : i.l.length + (ps.length + 1) ≤ 8 := by
        have := lot_len g1.nd g1.lt
        simp at this
        omega
      exact ⟨m - 1, by omega, ps ++ [(z, x, y)], d, by simp [triD, lotD], by simp; omega, g1, hd⟩
  · rcases h4 with ⟨q, hmo⟩ | ⟨z, x, y, q, _⟩
    · refine r_freeze (j := 3) rfl (r_ret (d_callB (a_v rfl (a_nil (rc_tupOf ⟨ps, rfl, g, mo_congr hmo (hm ps)⟩)))))
    · rw [q] at e; simp at e
end
end K41
end
section
set_option linter.all false
set_option maxRecDepth 100000
/-! K41, the walks: least_piece, quotient. -/
namespace K41
open PySem PySem.Spec PyProof.Rows L2
/-! least_piece: slots 0 table, 1 lot, 2 triple; cells ; calls growing -/
abbrev sleast_piece : Stmt := topS 10
theorem scleast_piece : FnScope ["table", "lot", "triple"] ["table", "lot"] (defScope sleast_piece) := ⟨rfl, rfl, rfl, by decide +kernel, rfl, by decide +kernel, by decide +kernel⟩
/-- m: the least piece that holds l -/
structure Least (n : Nat) (t : Nat → Nat → Bool) (l m : List Nat) : Prop where
  asc : Asc m
  mo : Mo n t (· ∈ m)
  has : ∀ x ∈ l, x ∈ m
  up : ∀ S, Mo n t S → (∀ x ∈ l, S x) → ∀ z ∈ m, S z
abbrev spLeast (T : List (Addr × Str)) : Sp := spD T (ι := WebI) okNd (fun i => [tabD i.n i.t, lotD i.l]) fun i d => ∃ m, d = lotD m ∧ Least i.n i.t i.l m
section
variable {T : List (Addr × Str)} {P : Program} {w : World} {K : PySem.W.Frag} {mg : Str → Option Value} {base : Heap}
theorem ok_least_piece {f f1 : Addr} {fd fd1 : FuncData} (D : At' K mg "least_piece" sleast_piece ["table", "lot"] f fd) (Z : Zs mg) (C_growing : Cal P w K mg base 3 "growing" ["table", "lot"] (spGrowing T) f1 fd1) :
    Cal P w K mg base 4 "least_piece" ["table", "lot"] (spLeast T) f fd := by
  refine cal_D D scleast_piece (fun _ => rfl) fun cdv A outer s H E hr => ⟨_,
    (pss_one (ps_ret (pe_callTy (x_tuple (K := K) rfl) (by rfl) Z.tuple (by decide +kernel) (pa_cons (pe_callB (x_sorted (K := K) rfl (Room.u65 hr)) (by rfl) Z.sorted (by decide +kernel) (pa_cons (pe_op (x_catT (K := K) rfl) (pv 1) (pe_callTy (x_tuple (K := K) rfl) (by rfl) Z.tuple (by decide +kernel) (pa_cons (pe_lc (own := [("triple", 2)]) rfl scleast_piece.nd (xi_seq (K := K) rfl (pe_call C_growing.G (hr.mono (by omega)) (by rfl) C_growing.m C_growing.kp C_growing.b .nil pass0 (pa_cons (pv 0) (pa_cons (pv 1) pa_nil)))) (blkOk_by (by kernel_rfl)) (fun _ _ _ _ _ => (pg_name (i := 2) scleast_piece.nd rfl (by first | exact Or.inl rfl | exact Or.inr rfl))) (fun _ _ _ _ _ => pts_nil) (fun _ _ _ _ _ => (pe_ix (x_ix (K := K) rfl) (pv 2) pe_int (fun _ _ => rfl)))) pa_nil))) pa_nil)) pa_nil)))),
    fun i hi => ?_⟩
  have hi' := hi
  obtain ⟨w, hl, hn, nd⟩ := hi
  have l8 := lot_len nd hl
  refine r_ret <| d_callB <| a_cons <| d_ofF <| f_callB <| a_cons <| d_op <| d_var rfl <| d_callB <| a_cons <| d_ofF <| f_lc rfl <| (i_seqT (d_call (a_v rfl (a_v rfl (a_nil ⟨i, hi', rfl, fun d hd => ?_⟩)))))
  obtain ⟨ps, e, g, hm⟩ := hd
  have len8 : i.l.length + ps.length ≤ 8 := by
    have := lot_len g.nd g.lt
    rw [List.length_append, List.length_map] at this
    omega
  refine ⟨ps.map triD, e, by rw [List.length_map]; omega, fun k acc => acc = ((ps.map (·.1)).take k).map nD, rfl, fun k x acc hx ha => ?_, fun acc ha => ?_⟩
  · rw [List.getElem?_map] at hx
    cases hz : ps[k]? with
    | none => rw [hz] at hx; cases hx
    | some a =>
      rw [hz] at hx
      cases hx
      refine g_name (by simp) fun O A σ H Q S ff => ff true H ⟨fun z => (nomatch z), fun _ => ?_⟩ Keep.refl S.inv
      refine d_op (d_var rfl (d_int (rd_xT (k := 0) rfl ?_)))
      dsimp only at ha ⊢
      rw [ha, List.take_add_one, List.getElem?_map, hz, List.map_append]
      rfl
  · dsimp only at ha
    rw [List.length_map] at ha
    have e2 : acc = (ps.map (·.1)).map nD := by rw [ha, List.take_of_length_le (by rw [List.length_map]; exact Nat.le_refl _)]
    subst e2
    refine a_nil (rc_tupOf (rd_catA (by simp; omega) (a_nil ?_)))
    rw [← List.map_append]
    refine rcf_srt (.inr rfl) (by simp; omega) (a_nil (rc_tupOf ⟨_, rfl, srt_asc g.nd, mo_congr hm fun x => srt_mem.symm, fun x hx => srt_mem.mpr (List.mem_append.mpr (.inl hx)), fun S hS h z hz => ?_⟩))
    rcases List.mem_append.mp (srt_mem.mp hz) with q | q
    · exact h z q
    · exact g.up S hS h z q
end
/-! quotient: slots 0 table, 1 lots, 2 rows, 3 lot, 4 found, 5 place, 6 row, 7 far, 8 other; cells ; calls is_piece -/
abbrev squotient : Stmt := topS 11
theorem scquotient : FnScope ["table", "lots", "rows", "lot", "found", "place", "row", "far", "other"] ["table", "lots"] (defScope squotient) := ⟨rfl, rfl, rfl, by decide +kernel, rfl, by decide +kernel, by decide +kernel⟩
structure WebL where
  n : Nat
  t : Nat → Nat → Bool
  ls : List (List Nat)
  f : Bool
abbrev spQuotient (T : List (Addr × Str)) : Sp := spD T (ι := WebL) (fun i => Wb i.t ∧ i.n ≤ 8 ∧ i.ls.length ≤ 8 ∧ ∀ l ∈ i.ls, l ≠ [] ∧ l.length ≤ 8 ∧ Mo i.n i.t (· ∈ l)) (fun i => [tabD i.n i.t, .tuple (i.ls.map lotD)]) fun i d => ∃ a b, d = .tuple [a, b] ∧ b.canLay0 = true
section
variable {T : List (Addr × Str)} {P : Program} {w : World} {K : PySem.W.Frag} {mg : Str → Option Value} {base : Heap}
theorem lay_all : ∀ {ds : List PyData}, (∀ d ∈ ds, d.canLay0 = true) → PyData.canLayAll0 ds = true
  | [], _ => rfl
  | d :: ds, h => by
    unfold PyData.canLayAll0
    rw [h d List.mem_cons_self, lay_all fun e he => h e (List.mem_cons_of_mem _ he)]
    rfl
theorem lay_tup {ds : List PyData} (h : ∀ d ∈ ds, d.canLay0 = true) : (PyData.tuple ds).canLay0 = true := by
  unfold PyData.canLay0
  exact lay_all h
theorem lay_snoc {ds : List PyData} {d : PyData} (h : ∀ d ∈ ds, d.canLay0 = true) (hd : d.canLay0 = true) : ∀ e ∈ ds ++ [d], e.canLay0 = true := fun e he => by
  rcases List.mem_append.mp he with q | q
  · exact h e q
  · rw [List.mem_singleton.mp q]; exact hd
theorem lot_head {l : List Nat} (h : l ≠ []) : ∃ x, x ∈ l ∧ (l.map nD)[0]? = some (nD x) := by
  obtain ⟨x0, l0, el⟩ := List.exists_cons_of_ne_nil h
  exact ⟨x0, by rw [el]; exact List.mem_cons_self, by rw [el]; rfl⟩
theorem ok_quotient {f f1 : Addr} {fd fd1 : FuncData} (D : At' K mg "quotient" squotient ["table", "lots"] f fd) (Z : Zs mg) (C_is_piece : Cal P w K mg base 2 "is_piece" ["table", "lot"] (spIsPiece T) f1 fd1) :
    Cal P w K mg base 3 "quotient" ["table", "lots"] (spQuotient T) f fd := by
  refine cal_D D scquotient (fun _ => rfl) fun cdv A outer s H E hr => ⟨_,
    (pss_cons (ps_set (i := 2) scquotient.nd rfl (.inl rfl) (pe_ix (x_ix (K := K) rfl) (pv 0) pe_int (fun _ _ => rfl)))
    (pss_cons (ps_for PassesOwn.never rfl (xi_seq (K := K) rfl (pv 1)) (pg_name (i := 3) scquotient.nd rfl (.inl rfl))
      (pss_one (ps_if (pt_not (pt_val (pe_call C_is_piece.G (hr.mono (by omega)) (by rfl) C_is_piece.m C_is_piece.kp C_is_piece.b .nil pass0 (pa_cons (pv 0) (pa_cons (pv 3) pa_nil)))))
        (pss_one ps_never)
        pss_nil)))
    (pss_cons (ps_set (i := 4) scquotient.nd rfl (.inl rfl) (pe_lst pa_nil))
    (pss_cons (ps_for PassesOwn.never rfl (xi_enum (K := K) rfl (by rfl) Z.enumerate (pa_cons (pv 1) pa_nil)) (xg_tup (K := K) (n := 2) rfl rfl (pgs_cons (pg_name (i := 5) scquotient.nd rfl (.inl rfl)) (pgs_cons (pg_name (i := 3) scquotient.nd rfl (.inl rfl)) pgs_nil)))
      (pss_cons (ps_set (i := 6) scquotient.nd rfl (.inl rfl) (pe_lst pa_nil))
      (pss_cons (ps_for PassesOwn.never rfl (xi_enum (K := K) rfl (by rfl) Z.enumerate (pa_cons (pv 1) pa_nil)) (xg_tup (K := K) (n := 2) rfl rfl (pgs_cons (pg_name (i := 7) scquotient.nd rfl (.inl rfl)) (pgs_cons (pg_name (i := 8) scquotient.nd rfl (.inl rfl)) pgs_nil)))
        (pss_one (ps_expr (pe_bm PySem.F.plainAttrs_list PySem.F.slot_list_append PySem.F.type_list_append mt_append (pv 6) (pa_cons (pe_ifExp (pt_cmpR op_eq (pv 5) (pv 7) (nomark _)) pe_int (pe_ix (x_ix (K := K) rfl) (pe_ix (x_ix (K := K) rfl) (pv 2) (pe_ix (x_ix (K := K) rfl) (pv 3) pe_int (fun _ _ => rfl)) (fun _ _ => rfl)) (pe_ix (x_ix (K := K) rfl) (pv 8) pe_int (fun _ _ => rfl)) (fun _ _ => rfl))) pa_nil)))))
      (pss_one (ps_expr (pe_bm PySem.F.plainAttrs_list PySem.F.slot_list_append PySem.F.type_list_append mt_append (pv 4) (pa_cons (pe_callTy (x_tuple (K := K) rfl) (by rfl) Z.tuple (by decide +kernel) (pa_cons (pv 6) pa_nil)) pa_nil)))))))
    (pss_one (ps_ret (pe_tup (pa_cons (pe_callB (x_len (K := K) rfl) (by rfl) Z.len (by decide +kernel) (pa_cons (pv 1) pa_nil)) (pa_cons (pe_callTy (x_tuple (K := K) rfl) (by rfl) Z.tuple (by decide +kernel) (pa_cons (pv 4) pa_nil)) pa_nil))))))))),
    fun i ⟨w, hn, h8, hl⟩ => ?_⟩
  have hlt : ∀ l ∈ i.ls, ∀ x ∈ l, x < i.n := fun l h x hx => (hl l h).2.2.1 x hx
  refine r_seq <| r_asg <| d_op <| d_var rfl <| d_int <| rd_xT (k := 1) rfl ?_
  refine r_seq <| r_forA i.ls lotD (fun k Γ1 => ∃ c3, Γ1 = [some (.dat (tabD i.n i.t)), some (.dat (.tuple (i.ls.map lotD))), some (.dat (rowsD i.n i.t)), c3, none, none, none, none, none])
    (i_seqT (d_var rfl ⟨_, rfl, rfl⟩)) ⟨_, rfl⟩ [3] (fun k l Γ1 hk ⟨c3, e⟩ => ?_) fun Γ1 ⟨c3, e⟩ => ?_
  · subst e
    have hm := List.mem_of_getElem? hk
    obtain ⟨hne, hll, hmo⟩ := hl l hm
    refine g_name (by simp) <| r_if <| t_not <| t_B <| d_call <| a_v rfl <| a_v rfl <| a_nil ⟨⟨i.n, i.t, l, 0, 0, 0⟩, ⟨⟨w, hlt l hm, hn, hll⟩, hne, hmo⟩, rfl, fun d ed => ⟨true, ed, fun e => (nomatch e), fun _ => r_next ⟨_, rfl⟩⟩⟩
  · subst e
    refine r_seq <| r_asgF (by simp) <| f_lst <| a_nil ⟨by simp, ?_⟩
    refine r_seq <| r_forA i.ls.zipIdx (fun p => .tuple [nD p.2, lotD p.1]) (fun k Γ1 => ∃ c3 c5 c6 c7 c8 fs, Γ1 = [some (.dat (tabD i.n i.t)), some (.dat (.tuple (i.ls.map lotD))), some (.dat (rowsD i.n i.t)), c3, some (.lst fs), c5, c6, c7, c8] ∧ fs.length = k ∧ ∀ d ∈ fs, d.canLay0 = true)
      (i_enumT (a_v rfl (a_nil ⟨_, rfl, numD_map lotD 0 i.ls⟩))) ⟨_, _, _, _, _, _, rfl, rfl, fun d h => (nomatch h)⟩ [5, 3] (fun k p Γ1 hk ⟨c3, c5, c6, c7, c8, fs, e, hf, hlf⟩ => ?_) fun Γ1 ⟨c3, c5, c6, c7, c8, fs, e, hf, hlf⟩ => ?_
    · subst e
      obtain ⟨l, k'⟩ := p
      obtain ⟨hp1, hp2⟩ := zipIdx_at hk
      simp only at hp1 hp2
      subst hp2
      have hkl : k' < i.ls.length := (List.getElem?_eq_some_iff.mp hp1).1
      obtain ⟨x, hx, ex⟩ := lot_head (hl l (List.mem_of_getElem? hp1)).1
      have hxn := hlt l (List.mem_of_getElem? hp1) x hx
      refine g_tup rfl <| gs_cons <| g_name (by simp) <| gs_cons <| g_name (by simp) <| gs_nil ?_
      refine r_seq <| r_asgF (by simp) <| f_lst <| a_nil ⟨by simp, ?_⟩
      refine r_seq <| r_forA i.ls.zipIdx (fun p => .tuple [nD p.2, lotD p.1]) (fun m Γ2 => ∃ c7 c8 rs, Γ2 = [some (.dat (tabD i.n i.t)), some (.dat (.tuple (i.ls.map lotD))), some (.dat (rowsD i.n i.t)), some (.dat (lotD l)), some (.lst fs), some (.dat (nD k')), some (.lst rs), c7, c8] ∧ rs.length = m ∧ ∀ d ∈ rs, d.canLay0 = true)
        (i_enumT (a_v rfl (a_nil ⟨_, rfl, numD_map lotD 0 i.ls⟩))) ⟨_, _, _, rfl, rfl, fun d h => (nomatch h)⟩ [7, 8] (fun m p Γ2 hm ⟨c7, c8, rs, e, hr, hlr⟩ => ?_) fun Γ2 ⟨c7, c8, rs, e, hr, hlr⟩ => ?_
      · subst e
        obtain ⟨l2, m'⟩ := p
        obtain ⟨hq1, hq2⟩ := zipIdx_at hm
        simp only at hq1 hq2
        subst hq2
        have hml : m' < i.ls.length := (List.getElem?_eq_some_iff.mp hq1).1
        obtain ⟨y, hy, ey⟩ := lot_head (hl l2 (List.mem_of_getElem? hq1)).1
        have hyn := hlt l2 (List.mem_of_getElem? hq1) y hy
        refine g_tup rfl <| gs_cons <| g_name (by simp) <| gs_cons <| g_name (by simp) <| gs_nil ?_
        have fin : ∀ d, d.canLay0 = true → Turn' (fun Γ2 => ∃ c7 c8 rs, Γ2 = [some (.dat (tabD i.n i.t)), some (.dat (.tuple (i.ls.map lotD))), some (.dat (rowsD i.n i.t)), some (.dat (lotD l)), some (.lst fs), some (.dat (nD k')), some (.lst rs), c7, c8] ∧ rs.length = m' + 1 ∧ ∀ d ∈ rs, d.canLay0 = true) (fun _ => False) (.nx [some (.dat (tabD i.n i.t)), some (.dat (.tuple (i.ls.map lotD))), some (.dat (rowsD i.n i.t)), some (.dat (lotD l)), some (.lst fs), some (.dat (nD k')), some (.lst (rs ++ [d])), some (.dat (nD m')), some (.dat (lotD l2))]) :=
          fun d hd => ⟨_, _, _, rfl, by simp [hr], lay_snoc hlr hd⟩
        refine r_app (j := 6) rfl (by omega) <| d_if <| t_test <| d_op <| d_var rfl <| d_var rfl <| rd_eq ⟨_, rfl, fun _ => d_int (fin _ (by simp [PyData.canLay0])), fun _ => ?_⟩
        exact d_look hxn hyn (d_var rfl rfl) (d_op (d_var rfl (d_int (rd_xT (k := 0) ex rfl)))) (d_op (d_var rfl (d_int (rd_xT (k := 0) ey rfl)))) (fin _ (by simp [bD, PyData.canLay0]))
      · subst e
        refine r_freeze (j := 6) rfl ?_
        exact r_app (j := 4) rfl (by omega) <| d_callB <| a_v rfl <| a_nil <| rc_tupOf ⟨_, _, _, _, _, _, rfl, by simp [hf], lay_snoc hlf (lay_tup hlr)⟩
    · subst e
      refine r_freeze (j := 4) rfl ?_
      exact r_ret <| d_tup <| a_cons <| d_callB <| a_v rfl <| a_nil <| rc_lenT <| a_cons <| d_callB <| a_v rfl <| a_nil <| rc_tupOf <| a_nil ⟨by simp, _, _, rfl, lay_tup hlf⟩
end
end K41
end
section
set_option linter.all false
set_option maxRecDepth 100000
/-! K41: the order of keys (number, lot); sorting lots by it. -/
namespace K41
open PySem PySem.Spec PyProof.Rows L2 PySem.W
theorem alike_ints : ∀ xs ys : List Int, alikeAll (xs.map .int) (ys.map .int) = true
  | [], _ => by simp [alikeAll]
  | _ :: _, [] => by simp [alikeAll]
  | x :: xs, y :: ys => by simp [alikeAll, alike, alike_ints xs ys]
def keyLot (k : Int) (l : List Nat) : PyData := .tuple [.int k, lotD l]
theorem alike_lot (l l' : List Nat) : alike (lotD l) (lotD l') = true := by
  unfold lotD
  rw [map_nD, map_nD]
  simp [alike, alike_ints]
theorem alike_keyLot (k k' : Int) (l l' : List Nat) : alike (keyLot k l) (keyLot k' l') = true := by
  have := alike_lot l l'
  simp [keyLot, alike, alikeAll, this]
theorem eqv_lot {l l' : List Nat} (h : PyData.eqv (lotD l) (lotD l') = true) : l = l' := by
  have go : ∀ xs ys : List Nat, PyData.eqvAll (xs.map nD) (ys.map nD) = true → xs = ys := fun xs => by
    induction xs with
    | nil => intro ys h; cases ys with
      | nil => rfl
      | cons y ys => simp [PyData.eqvAll] at h
    | cons x xs ih => intro ys h; cases ys with
      | nil => simp [PyData.eqvAll] at h
      | cons y ys =>
        simp only [List.map_cons, PyData.eqvAll, Bool.and_eq_true] at h
        have e : x = y := by
          have h1 := h.1
          unfold nD at h1
          simp [PyData.eqv] at h1
          omega
        rw [e, ih ys h.2]
  refine go l l' ?_
  unfold lotD at h
  simpa [PyData.eqv] using h
theorem depthAll_lot : ∀ l : List Nat, PyData.depthAll (l.map nD) ≤ 1
  | [] => by simp [PyData.depthAll]
  | x :: l => by
    have := depthAll_lot l
    simp [PyData.depthAll, nD, PyData.depth] at this ⊢
    omega
theorem depth_lot (l : List Nat) : (lotD l).depth ≤ 2 := by
  have := depthAll_lot l
  simp [lotD, PyData.depth]
  omega
theorem depth_keyLot (k : Int) (l : List Nat) : (keyLot k l).depth ≤ 60 := by
  have := depth_lot l
  simp [keyLot, PyData.depth, PyData.depthAll]
  omega
theorem keyLot_le {k k' : Int} {l l' : List Nat} (h : (!dataLt (keyLot k' l') (keyLot k l)) = true) : k < k' ∨ (k = k' ∧ ¬ toI l' < toI l) := by
  unfold keyLot at h
  rw [dataLt_pair (by simp [alike]) (alike_lot _ _), dataLt_int] at h
  simp only [PyData.eqv, beq_iff_eq] at h
  by_cases e : k' = k
  · subst e
    refine .inr ⟨rfl, fun lt => ?_⟩
    rw [if_pos rfl] at h
    by_cases q : PyData.eqv (lotD l') (lotD l) = true
    · rw [eqv_lot q] at lt
      exact absurd lt (List.lt_irrefl _)
    · rw [if_neg q] at h
      unfold lotD at h
      rw [map_nD, map_nD, dataLt_tuple] at h
      have e2 := dataLt_ints (toI l') (toI l)
      unfold rowLt at e2
      rw [e2, decide_eq_true lt] at h
      cases h
  · rw [if_neg e] at h
    left
    by_cases q : k' < k
    · rw [decide_eq_true q] at h; cases h
    · omega
theorem toI_lt_head {a b : Nat} {r r' : List Nat} (h : ¬ toI (b :: r') < toI (a :: r)) : a ≤ b := by
  by_cases q : b < a
  · refine absurd ?_ h
    show ((b : Int) :: toI r') < ((a : Int) :: toI r)
    rw [List.cons_lt_cons_iff]
    exact .inl (by omega)
  · omega
theorem dataLe_trans {β : Type} (k : β → PyData) (a b c : β) (h : dataLe false k a b = true) (h' : dataLe false k b c = true) : dataLe false k a c = true := by
  rw [dataLe_eq] at h h' ⊢
  simp only [cond_false, Bool.not_eq_true'] at h h' ⊢
  exact KeyOrd.kle_trans (O := listOrd itemOrd) h h'
theorem dataLe_total {β : Type} (k : β → PyData) (a b : β) : (dataLe false k a b || dataLe false k b a) = true := by
  rw [dataLe_eq]
  simp only [cond_false, Bool.or_eq_true, Bool.not_eq_true']
  by_cases h : dataLt (k b) (k a) = true
  · exact .inr (KeyOrd.klt_asymm (O := listOrd itemOrd) h)
  · exact .inl (by simpa using h)
/-- what sorting by a key gives: in order -/
theorem sortK_pairwise {β : Type} (k : β → PyData) (l : List β) : (l.mergeSort (dataLe false k)).Pairwise fun a b => (!dataLt (k b) (k a)) = true := by
  have h := List.pairwise_mergeSort (le := dataLe false k) (dataLe_trans k) (dataLe_total k) l
  refine h.imp fun h => ?_
  rw [dataLe_eq] at h
  simpa using h
/-- lots with unlike heads, sorted by (0, lot): by their heads -/
theorem sort_heads {ls : List (List Nat)} (ne : ∀ c ∈ ls, c ≠ []) (nd : (ls.map (·.headD 0)).Nodup) : Asc ((ls.mergeSort (dataLe false (keyLot 0))).map (·.headD 0)) := by
  have p := List.mergeSort_perm ls (dataLe false (keyLot 0))
  have h1 : (ls.mergeSort (dataLe false (keyLot 0))).Pairwise fun a b => a.headD 0 ≠ b.headD 0 := by
    have := (p.map (·.headD 0)).nodup_iff.mpr nd
    exact List.pairwise_map.mp this
  refine List.pairwise_map.mpr (((sortK_pairwise (keyLot 0) ls).and h1).imp_of_mem fun {a b} ha hb h => ?_)
  obtain ⟨x, r, ea⟩ := List.exists_cons_of_ne_nil (ne a (p.mem_iff.mp ha))
  obtain ⟨y, r', eb⟩ := List.exists_cons_of_ne_nil (ne b (p.mem_iff.mp hb))
  have h2 := keyLot_le h.1
  have h3 := h.2
  rw [ea, eb] at h2 h3 ⊢
  simp only [List.headD_cons] at h3 ⊢
  rcases h2 with z | ⟨_, z⟩
  · exact absurd z (by omega)
  · have := toI_lt_head z
    omega
end K41
end
section
set_option linter.all false
set_option maxRecDepth 100000
/-! K41, the walks: defs with a lambda; row_of_blocks. -/
namespace K41
open PySem PySem.Spec PyProof.Rows L2
open Classical
/-- a def with one lambda: its code object c has the table P -/
structure AtL (T : List (Addr × Str)) (K : PySem.W.Frag) (mg : Str → Option Value) (base : Heap) (x : Str) (st : Stmt) (ps : List Str) (f : Addr) (fd : FuncData) : Prop where
  ex : ∃ (oc : Value) (od : Option Addr) (kV doc pm : Value) (an : Option Addr) (c P : Addr) (ct : Value) (osl : Array (Option Value)),
    fd = PySem.W.fnOf x x (defArgs st) (defBody st) (defScope st) .none kV doc pm an (.ref c) ct ∧ K.lookup f = some ⟨oc, od, .func fd, osl⟩ ∧ PySem.W.codeIn K (.ref c) x = true ∧
    LamX.TabB base mg c P ∧ (P, x ++ ".<locals>." ++ "<lambda>") ∈ T ∧ ∀ p ∈ T, p.1 = P → p.2 = x ++ ".<locals>." ++ "<lambda>"
  kp : PySem.W.keepIn K (.ref f) = true
  m : mg x = some (.ref f)
  b : Binds K fd ps []
section
variable {T : List (Addr × Str)} {P : Program} {w : World} {K : PySem.W.Frag} {mg : Str → Option Value} {base : Heap}
theorem cal_L {ι : Type} {x : Str} {st : Stmt} {f : Addr} {fd : FuncData} {N ps : List Str} {k : Nat} {ok : ι → Prop} {args : ι → List PyData} {post : ι → PyData → Prop} (D : AtL T K mg base x st ps f fd) (S : FnScope N ps (defScope st)) (hlen : ∀ i, (args i).length = ps.length)
    (body : ∀ (c Pt : Addr) (TB : LamX.TabB base mg c Pt) (hT : (Pt, x ++ ".<locals>." ++ "<lambda>") ∈ T) (hu : ∀ p ∈ T, p.1 = Pt → p.2 = x ++ ".<locals>." ++ "<lambda>") (A : Around) (outer : List Env) (s : Shared) (H : Hp) (E : XK), Room k (A.deeper (envOfC x (defScope st) s.heap.objs.size f (.ref c))) →
      ∃ t, PSs (cxOf CX0 P w K mg base N x (defScope st) f (.ref c) A outer s H E).nox (defBody st) t ∧ ∀ i, ok i → Run (Am0 T) t (startE N (args i)) (Fin' (post i))) :
    Cal P w K mg base (k + 1) x ps (spD T ok args post) f fd := by
  obtain ⟨oc, od, kV, doc, pm, an, c, Pt, ct, osl, rfl, lk, hcd, TB, hT, hu⟩ := D.ex
  refine ⟨?_, D.m, D.kp, D.b⟩
  refine fn_of lk hcd S (fun vs H Q E ⟨i, own, _, _, _, hs, _⟩ => by rw [hs.len]; exact hlen i) fun A outer s H vs Q E hr ⟨i, own, hp, hd, ht, hs, q⟩ => ?_
  obtain ⟨t, h1, h2⟩ := body c Pt TB hT hu A outer s H E hr
  refine ⟨t, h1.nox, h2 i hp H own (fun _ => 0) _ H _ (sit_start (M := Am0 T) ht (fun _ h => nomatch h) hd hs) ⟨fun Γ' A' σ' H' p s c => ?_, fun v d H' p k i hh => q v d H' p k i hh, fun _ _ _ _ p => False.elim p, fun _ _ _ _ p => False.elim p, fun _ _ _ p => False.elim p⟩⟩
  exact q .non .none H' p s.keep s.sit.inv .non
end
/-! row_of_blocks: slots 0 table, 1 first, 2 second, 3 size, 4 rows, 5 late, 6 thing, 7 row, 8 middle, 9 lots, 10 lot, 11 other; cells first late lots middle row rows second thing; calls  -/
abbrev srow_of_blocks : Stmt := topS 16
theorem scrow_of_blocks : FnScope ["table", "first", "second", "size", "rows", "late", "thing", "row", "middle", "lots", "lot", "other"] ["table", "first", "second"] (defScope srow_of_blocks) := ⟨rfl, rfl, rfl, by decide +kernel, rfl, by decide +kernel, by decide +kernel⟩
def lotsD (ls : List (List Nat)) : PyData := .list (ls.map lotD)
abbrev spRow (T : List (Addr × Str)) : Sp := spD T (ι := WebL) (fun i => Wb i.t ∧ i.n ≤ 8) (fun i => [tabD i.n i.t, bD i.f, bD i.f]) fun i d => d = lotsD (clsL (List.range i.n) (Cn (Ad i.n i.t i.f)))
/-! ### tables of truth values -/
def rowB (n : Nat) (m : Nat → Nat → Bool) (x : Nat) : PyData := .list ((List.range n).map fun y => .bool (m x y))
def matD (n : Nat) (m : Nat → Nat → Bool) : List PyData := (List.range n).map (rowB n m)
theorem mat_at {n x : Nat} {m : Nat → Nat → Bool} (h : x < n) : (matD n m)[x]? = some (rowB n m x) := by
  unfold matD
  rw [List.getElem?_map, List.getElem?_range h]
  rfl
theorem rowB_at {n x y : Nat} {m : Nat → Nat → Bool} (h : y < n) : ((List.range n).map fun y => PyData.bool (m x y))[y]? = some (.bool (m x y)) := by
  rw [List.getElem?_map, List.getElem?_range h]
  rfl
theorem matD_congr {n : Nat} {m m' : Nat → Nat → Bool} (h : ∀ x y, x < n → y < n → m x y = m' x y) : matD n m = matD n m' := by
  unfold matD
  refine List.map_congr_left fun x hx => ?_
  unfold rowB
  congr 1
  exact List.map_congr_left fun y hy => by rw [h x y (List.mem_range.mp hx) (List.mem_range.mp hy)]
theorem matD_set {n j : Nat} {m m' : Nat → Nat → Bool} (hj : j < n) (h1 : ∀ y, y < n → m' j y = m' j y) (h2 : ∀ x y, x < n → x ≠ j → m' x y = m x y) : (matD n m).set j (rowB n m' j) = matD n m' := by
  apply List.ext_getElem?
  intro i
  by_cases hi : i < n
  · by_cases e : j = i
    · subst e
      rw [List.getElem?_set_self (by unfold matD; simpa using hi), mat_at hi]
    · rw [List.getElem?_set_ne e, mat_at hi, mat_at hi]
      unfold rowB
      have : ∀ y, m i y = m' i y := fun y => (h2 i y hi (Ne.symm e)).symm
      simp [this]
  · rw [List.getElem?_eq_none (by rw [List.length_set]; unfold matD; simp; omega), List.getElem?_eq_none (by unfold matD; simp; omega)]
section
variable {T : List (Addr × Str)} {M : Am T} {K : PySem.W.Frag} {Γ : Env'} {P : PyData → Prop} {tb tc : TE}
theorem d_late {j n x y : Nat} {m : Nat → Nat → Bool} (hx : x < n) (hy : y < n) (h : Γ[j]? = some (some (.lst (matD n m)))) (h1 : EvD M tb Γ fun a => a = nD x) (h2 : EvD M tc Γ fun a => a = nD y) (p : P (.bool (m x y))) :
    EvD M (tOp (rIx K) (tOp (rIx K) (tVar j) tb) tc) Γ P :=
  d_op (d_xOwn h (h1.mono fun k ek => ⟨x, rowB n m x, ek, mat_at hx, h2.mono fun b eb => by subst eb; exact rd_xL (rowB_at hy) p⟩))
end
theorem putK_keys {κ : Type} [DecidableEq κ] (kvs : List (κ × V)) (k : κ) (v : V) : (putK kvs k v).map (·.1) = if k ∈ kvs.map (·.1) then kvs.map (·.1) else kvs.map (·.1) ++ [k] := by
  cases h : valV kvs k with
  | none =>
    rw [putK_new v h, if_neg (valV_not h), List.map_append]
    rfl
  | some w =>
    rw [if_pos (valV_in h)]
    unfold putK
    have e : (kvs.any fun kv => decide (kv.1 = k)) = true := by rw [valV_any, h]; rfl
    rw [e]
    simp only [if_true]
    rw [List.map_map]
    refine List.map_congr_left fun q _ => ?_
    show (if q.1 = k then (q.1, v) else q).1 = q.1
    split <;> rfl
theorem toI_inj {a b : List Nat} (h : toI a = toI b) : a = b := (List.map_inj_right fun x y e => by have e2 : (x : Int) = (y : Int) := e; omega).mp h
section
variable {T : List (Addr × Str)} {P : Program} {w : World} {K : PySem.W.Frag} {mg : Str → Option Value} {base : Heap}
theorem ok_row_of_blocks {f : Addr} {fd : FuncData} (D : AtL T K mg base "row_of_blocks" srow_of_blocks ["table", "first", "second"] f fd) (Z : Zs mg) : Cal P w K mg base 7 "row_of_blocks" ["table", "first", "second"] (spRow T) f fd := by
  refine cal_L D scrow_of_blocks (fun _ => rfl) fun c Pt TB hT hu A outer s H E hr => ⟨_,
    (pss_cons (ps_asg (pv 0) (xg_tup (K := K) (n := 2) rfl rfl (pgs_cons (pg_name (i := 3) scrow_of_blocks.nd rfl (.inl rfl)) (pgs_cons (pg_name (i := 4) scrow_of_blocks.nd rfl (.inr rfl)) pgs_nil))))
    (pss_cons (ps_set (i := 5) scrow_of_blocks.nd rfl (.inr rfl) (pe_lst pa_nil))
    (pss_cons (ps_for PassesOwn.never rfl (xi_enum (K := K) rfl (by rfl) Z.enumerate (pa_cons (pv 4) pa_nil)) (xg_tup (K := K) (n := 2) rfl rfl (pgs_cons (pg_name (i := 6) scrow_of_blocks.nd rfl (.inr rfl)) (pgs_cons (pg_name (i := 7) scrow_of_blocks.nd rfl (.inr rfl)) pgs_nil)))
      (pss_one (ps_expr (pe_bm PySem.F.plainAttrs_list PySem.F.slot_list_append PySem.F.type_list_append mt_append (pv 5) (pa_cons (pe_lc (own := [("other", 11)]) rfl scrow_of_blocks.nd (pi_range1 (by rfl) Z.range (pa_cons (pv 3) pa_nil)) (blkOk_by (by kernel_rfl)) (fun _ _ _ _ _ => (pg_name (i := 11) scrow_of_blocks.nd rfl (by first | exact Or.inl rfl | exact Or.inr rfl))) (fun _ _ _ _ _ => pts_nil) (fun _ _ _ _ _ => (pe_or (pe_cmpR op_ne (pe_ix (x_ix (K := K) rfl) (pv 7) (pv 11) (fun _ _ => rfl)) (pv 1) (nomark _)) (pe_one (pe_cmpR op_ne (pe_ix (x_ix (K := K) rfl) (pe_ix (x_ix (K := K) rfl) (pv 4) (pv 11) (fun _ _ => rfl)) (pv 6) (fun _ _ => rfl)) (pv 2) (nomark _)))))) pa_nil)))))
    (pss_cons (ps_for PassesOwn.never rfl (pi_range1 (by rfl) Z.range (pa_cons (pv 3) pa_nil)) (pg_name (i := 8) scrow_of_blocks.nd rfl (.inr rfl))
      (pss_one (ps_for PassesOwn.never rfl (pi_range1 (by rfl) Z.range (pa_cons (pv 3) pa_nil)) (pg_name (i := 6) scrow_of_blocks.nd rfl (.inr rfl))
        (pss_one (ps_if (pt_val (pe_ix (x_ix (K := K) rfl) (pe_ix (x_ix (K := K) rfl) (pv 5) (pv 6) (fun _ _ => rfl)) (pv 8) (fun _ _ => rfl)))
          (pss_one (ps_asg (pe_lc (own := [("other", 11)]) rfl scrow_of_blocks.nd (pi_range1 (by rfl) Z.range (pa_cons (pv 3) pa_nil)) (blkOk_by (by kernel_rfl)) (fun _ _ _ _ _ => (pg_name (i := 11) scrow_of_blocks.nd rfl (by first | exact Or.inl rfl | exact Or.inr rfl))) (fun _ _ _ _ _ => pts_nil) (fun _ _ _ _ _ => (pe_or (pe_ix (x_ix (K := K) rfl) (pe_ix (x_ix (K := K) rfl) (pv 5) (pv 6) (fun _ _ => rfl)) (pv 11) (fun _ _ => rfl)) (pe_one (pe_ix (x_ix (K := K) rfl) (pe_ix (x_ix (K := K) rfl) (pv 5) (pv 8) (fun _ _ => rfl)) (pv 11) (fun _ _ => rfl)))))) (pg_sub (pv 5) (pv 6) set_list)))
          pss_nil)))))
    (pss_cons (ps_set (i := 9) scrow_of_blocks.nd rfl (.inr rfl) pe_dnewT)
    (pss_cons (ps_for PassesOwn.never rfl (pi_range1 (by rfl) Z.range (pa_cons (pv 3) pa_nil)) (pg_name (i := 6) scrow_of_blocks.nd rfl (.inr rfl))
      (pss_cons (ps_setLc (i := 10) (own := [("other", 11)]) rfl scrow_of_blocks.nd rfl rfl (sw_true rfl rfl rfl (by decide +kernel)) (pi_range1 (by rfl) Z.range (pa_cons (pv 3) pa_nil)) (blkOk_by (by kernel_rfl)) (fun _ _ _ _ _ => (pg_name (i := 11) scrow_of_blocks.nd rfl (by first | exact Or.inl rfl | exact Or.inr rfl))) (fun _ _ _ _ _ => (pts_one (PW.pt (pw_or (PW.pt (pw_and (pt_val (pe_ix (x_ix (K := K) rfl) (pe_ix (x_ix (K := K) rfl) (pv 5) (pv 6) (fun _ _ => rfl)) (pv 11) (fun _ _ => rfl))) (pw_and1 (pt_val (pe_ix (x_ix (K := K) rfl) (pe_ix (x_ix (K := K) rfl) (pv 5) (pv 11) (fun _ _ => rfl)) (pv 6) (fun _ _ => rfl)))))) (pw_or1 (pt_cmpR op_eq (pv 11) (pv 6) (nomark _))))))) (fun _ _ _ _ _ => (pv 11)))
      (pss_one (ps_dput (hu_of hr) (pv 9) (pe_callTy (x_tuple (K := K) rfl) (by rfl) Z.tuple (by decide +kernel) (pa_cons (pv 10) pa_nil)) (pe_callB (x_len (K := K) rfl) (by rfl) Z.len (by decide +kernel) (pa_cons (pe_lc (own := [("other", 11)]) rfl scrow_of_blocks.nd (pi_range1 (by rfl) Z.range (pa_cons (pv 3) pa_nil)) (blkOk_by (by kernel_rfl)) (fun _ _ _ _ _ => (pg_name (i := 11) scrow_of_blocks.nd rfl (by first | exact Or.inl rfl | exact Or.inr rfl))) (fun _ _ _ _ _ => (pts_one (PW.pt (pw_or (pt_val (pe_ix (x_ix (K := K) rfl) (pe_ix (x_ix (K := K) rfl) (pv 5) (pv 6) (fun _ _ => rfl)) (pv 11) (fun _ _ => rfl))) (pw_or1 (pt_cmpR op_eq (pv 11) (pv 6) (nomark _))))))) (fun _ _ _ _ _ => (pv 11))) pa_nil)) rfl))))
    (pss_one (ps_ret (pe_sortLam (T := T) (k := 1) (j := 10) (a := "lot") (by rfl) Z.sorted (pa_cons (pe_callTy (call_list_dT rfl) (by rfl) Z.list (by decide +kernel) (pa_cons (pv 9) pa_nil)) pa_nil) TB rfl hT hu (hr.mono (by omega)) (lamP_by (by kernel_rfl)) rfl scrow_of_blocks.nd rfl (fun _ _ _ _ _ => rfl) (fun _ _ _ _ hr => (pe_tup (pa_cons (pe_ifExp (pt_cmpR op_lt (pv 1) (pv 2) (nomark _)) (pe_dget (hu_of hr) (pv 9) (pv 10) (fun _ _ => rfl)) pe_int) (pa_cons (pv 10) pa_nil))))))))))))),
    fun i ⟨w, hn⟩ => ?_⟩
  obtain ⟨n, t, ls0, f⟩ := i
  simp only at w hn ⊢
  let a : Nat → Nat → Bool := fun x y => t x y != f
  let E : Nat → Nat → Prop := Cn (Ad n t f)
  have qE : Eqv (List.range n) E := eqv_cn w f
  refine r_seq <| r_asgG (S := [3, 4]) <| d_var rfl <| g_tup rfl <| gs_cons <| g_name (by simp) <| gs_cons <| g_name (by simp) <| gs_nil ?_
  refine r_seq <| r_asgF (by simp [startE]) <| f_lst <| a_nil ⟨by simp, ?_⟩
  -- the table of unlike looks
  refine r_seq <| r_forA (List.range n).zipIdx (fun p => .tuple [nD p.2, .tuple (rowL n t p.1)]) (fun k Γ1 => ∃ c6 c7, Γ1 = [some (.dat (tabD n t)), some (.dat (bD f)), some (.dat (bD f)), some (.dat (nD n)), some (.dat (rowsD n t)), some (.lst ((List.range k).map (rowB n a))), c6, c7, none, none, none, none])
    (i_enumT (a_v rfl (a_nil ⟨rowsL n t, rfl, numD_map (fun x => .tuple (rowL n t x)) 0 (List.range n)⟩))) ⟨_, _, rfl⟩ [6, 7] (fun k p Γ1 hk ⟨c6, c7, e⟩ => ?_) fun Γ1 ⟨c6, c7, e⟩ => ?_
  · subst e
    obtain ⟨x, k'⟩ := p
    obtain ⟨hp1, hp2⟩ := zipIdx_at hk
    simp only at hp1 hp2
    subst hp2
    have hxk : x = k' ∧ k' < n := by
      have h := List.getElem?_eq_some_iff.mp hp1
      exact ⟨by simpa using h.2.symm, by simpa using h.1⟩
    obtain ⟨rfl, hx⟩ := hxk
    refine g_tup rfl <| gs_cons <| g_name (by simp) <| gs_cons <| g_name (by simp) <| gs_nil ?_
    refine r_app (j := 5) rfl (by simp; omega) <| d_ofF <| f_mapA (List.range n) nD (fun y => .bool (a x y)) rfl (by simp; omega) (i_range (by omega) (a_v rfl (a_nil rfl)) rfl) (fun y hy => g_name (by simp) ?_) ⟨some (.dat (nD x)), some (.dat (.tuple (rowL n t x))), ?_⟩
    · have hyn := List.mem_range.mp hy
      refine d_orV <| d_op <| d_op <| d_var rfl <| d_var rfl <| rd_xT (row_at hyn) <| d_var rfl <| rd_ne ⟨_, rfl, fun e => ?_, fun e => ?_⟩
      · rw [bD_ne] at e
        show PyData.bool true = .bool (t x y != f)
        rw [e]
      · refine d_op <| d_look hyn hx (d_var rfl rfl) (d_var rfl rfl) (d_var rfl rfl) <| d_var rfl <| rd_ne ?_
        rw [bD_ne, w.sym y x]
    · rw [List.range_succ, List.map_append]
      rfl
  · subst e
    rw [List.length_zipIdx, List.length_range]
    -- closing
    refine r_seq <| r_forA (List.range n) nD (fun k Γ1 => ∃ c6 c7 c8, Γ1 = [some (.dat (tabD n t)), some (.dat (bD f)), some (.dat (bD f)), some (.dat (nD n)), some (.dat (rowsD n t)), some (.lst (matD n (wl a k))), c6, c7, c8, none, none, none])
      (i_range (by omega) (a_v rfl (a_nil rfl)) rfl) ⟨_, _, _, rfl⟩ [8] (fun k z Γ1 hz ⟨c6, c7, c8, e⟩ => ?_) fun Γ1 ⟨c6, c7, c8, e⟩ => ?_
    · subst e
      have ez : z = k ∧ k < n := by
        have h := List.getElem?_eq_some_iff.mp hz
        exact ⟨by simpa using h.2.symm, by simpa using h.1⟩
      obtain ⟨rfl, hzn⟩ := ez
      refine g_name (by simp) ?_
      refine r_forA (List.range n) nD (fun j Γ2 => ∃ c6, Γ2 = [some (.dat (tabD n t)), some (.dat (bD f)), some (.dat (bD f)), some (.dat (nD n)), some (.dat (rowsD n t)), some (.lst (matD n fun x y => if x < j then wl a (z + 1) x y else wl a z x y)), c6, c7, some (.dat (nD z)), none, none, none])
        (i_range (by omega) (a_v rfl (a_nil rfl)) rfl) ⟨c6, by simp⟩ [6] (fun j x Γ2 hx ⟨c6, e⟩ => ?_) fun Γ2 ⟨c6, e⟩ => ?_
      · subst e
        have ex : x = j ∧ j < n := by
          have h := List.getElem?_eq_some_iff.mp hx
          exact ⟨by simpa using h.2.symm, by simpa using h.1⟩
        obtain ⟨rfl, hxn⟩ := ex
        refine g_name (by simp) <| r_if <| t_B <| d_late (j := 5) hxn hzn rfl (d_var rfl rfl) (d_var rfl rfl) ⟨_, rfl, fun e => ?_, fun e => ?_⟩
        · rw [if_neg (Nat.lt_irrefl x)] at e
          have hnew : ∀ y, wl a (z + 1) x y = (wl a z x y || wl a z z y) := fun y => by show (wl a z x y || (wl a z x z && wl a z z y)) = _; rw [e]; simp
          refine r_setL (j := 5) rfl <| d_ofF <| f_mapA (List.range n) nD (fun y => .bool (wl a (z + 1) x y)) rfl (by simp; omega) (i_range (by omega) (a_v rfl (a_nil rfl)) rfl) (fun y hy => g_name (by simp) ?_) <| d_var rfl ⟨x, rfl, by unfold matD; simpa using hxn, some (.dat (nD x)), ?_⟩
          · have hyn := List.mem_range.mp hy
            refine d_orV <| d_late (j := 5) hxn hyn rfl (d_var rfl rfl) (d_var rfl rfl) ⟨_, rfl, fun e2 => ?_, fun e2 => ?_⟩
            · rw [if_neg (Nat.lt_irrefl x)] at e2
              rw [hnew, e2]
              rfl
            · rw [if_neg (Nat.lt_irrefl x)] at e2
              refine d_late (j := 5) hzn hyn rfl (d_var rfl rfl) (d_var rfl rfl) ?_
              rw [hnew, e2]
              have : (if z < x then wl a (z + 1) z y else wl a z z y) = wl a z z y := by
                split
                · show (wl a z z y || (wl a z z z && wl a z z y)) = _
                  cases wl a z z y <;> simp
                · rfl
              rw [this]
              rfl
          · have := matD_set (m := fun x y => if x < x then wl a (z + 1) x y else wl a z x y) (m' := fun u y => if u < x + 1 then wl a (z + 1) u y else wl a z u y) hxn (fun _ _ => rfl)
            have e3 : rowB n (fun u y => if u < x + 1 then wl a (z + 1) u y else wl a z u y) x = .list ((List.range n).map fun y => .bool (wl a (z + 1) x y)) := by
              unfold rowB
              simp
            have e4 := matD_set (m := fun u y => if u < x then wl a (z + 1) u y else wl a z u y) (m' := fun u y => if u < x + 1 then wl a (z + 1) u y else wl a z u y) hxn (fun _ _ => rfl) fun u y hu ne => by
              by_cases q : u < x
              · rw [if_pos q, if_pos (by omega)]
              · rw [if_neg q, if_neg (by omega)]
            rw [e3] at e4
            rw [← e4]
            rfl
        · rw [if_neg (Nat.lt_irrefl x)] at e
          refine r_next ⟨some (.dat (nD x)), ?_⟩
          have e4 : matD n (fun u y => if u < x then wl a (z + 1) u y else wl a z u y) = matD n (fun u y => if u < x + 1 then wl a (z + 1) u y else wl a z u y) := matD_congr fun u y hu hy => by
            by_cases q : u < x
            · rw [if_pos q, if_pos (by omega)]
            · by_cases q2 : u = x
              · subst q2
                rw [if_neg q, if_pos (by omega)]
                show _ = (wl a z u y || (wl a z u z && wl a z z y))
                rw [e]
                simp
              · rw [if_neg q, if_neg (by omega)]
          rw [e4]
          rfl
      · subst e
        refine ⟨c6, c7, some (.dat (nD z)), ?_⟩
        rw [List.length_range]
        have e4 : matD n (fun u y => if u < n then wl a (z + 1) u y else wl a z u y) = matD n (wl a (z + 1)) := matD_congr fun u y hu hy => by rw [if_pos hu]
        rw [e4]
    · subst e
      rw [List.length_range]
      -- the classes
      let cls : Nat → List Nat := clOf (List.range n) E
      have E_iff : ∀ x y, x < n → y < n → (((wl a n x y && wl a n y x) || decide (y = x)) = decide (E x y)) := fun x y hx hy => by
        have h1 := wl_cn (t := t) f hx hy
        have h2 := wl_cn (t := t) f hy hx
        by_cases hE : E x y
        · have hE' : Cn (Ad n t f) y x := qE.sym x y (List.mem_range.mpr hx) (List.mem_range.mpr hy) hE
          rw [decide_eq_true hE]
          by_cases e : y = x
          · simp [e]
          · have a1 : wl a n x y = true := (h1.mpr hE).elim id fun z => absurd z.symm e
            have a2 : wl a n y x = true := (h2.mpr hE').elim id fun z => absurd z e
            simp [a1, a2]
        · rw [decide_eq_false hE]
          have a1 : ¬ (wl a n x y = true ∨ x = y) := fun z => hE (h1.mp z)
          have a2 : wl a n x y = false := by
            cases q : wl a n x y with
            | false => rfl
            | true => exact absurd (.inl q) a1
          have a3 : y ≠ x := fun z => a1 (.inr z.symm)
          simp [a2, a3]
      have cls_lt : ∀ x y, y ∈ cls x → y < n := fun x y h => List.mem_range.mp (mem_clOf.mp h).1
      have cls_len : ∀ x, (cls x).length ≤ 8 := fun x => Nat.le_trans (lot_len (asc_clOf (asc_range n) x).nodup (cls_lt x)) hn
      refine r_seq <| r_asgD (by simp) ?_
      refine r_seq <| r_forA (List.range n) nD (fun k Γ1 => ∃ c6 c7 c8 c10 kvs, ∃ ls : List (List Nat), Γ1 = [some (.dat (tabD n t)), some (.dat (bD f)), some (.dat (bD f)), some (.dat (nD n)), some (.dat (rowsD n t)), some (.lst (matD n (wl a n))), c6, c7, c8, some (.dct kvs), c10, none] ∧
          (c10 = none ∨ ∃ d, c10 = some (.dat d)) ∧ kvs.length ≤ k ∧ kvs.map (·.1) = (ls.map toI).map kI ∧ ls.Nodup ∧ ∀ c, c ∈ ls ↔ ∃ x, x < k ∧ c = cls x)
        (i_range (by omega) (a_v rfl (a_nil rfl)) rfl) ⟨_, _, _, _, [], [], rfl, .inl rfl, Nat.zero_le _, rfl, List.nodup_nil, fun c => ⟨fun h => (nomatch h), fun ⟨x, h, _⟩ => absurd h (Nat.not_lt_zero x)⟩⟩ [6] (fun k x Γ1 hx ⟨c6, c7, c8, c10, kvs, ls, e, h10, hlen, hkeys, hnd, hmem⟩ => ?_) fun Γ1 ⟨c6, c7, c8, c10, kvs, ls, e, h10, hlen, hkeys, hnd, hmem⟩ => ?_
      · subst e
        have ex : x = k ∧ k < n := by
          have h := List.getElem?_eq_some_iff.mp hx
          exact ⟨by simpa using h.2.symm, by simpa using h.1⟩
        obtain ⟨rfl, hxn⟩ := ex
        have next : ∀ v, Turn' (fun Γ1 => ∃ c6 c7 c8 c10 kvs, ∃ ls : List (List Nat), Γ1 = [some (.dat (tabD n t)), some (.dat (bD f)), some (.dat (bD f)), some (.dat (nD n)), some (.dat (rowsD n t)), some (.lst (matD n (wl a n))), c6, c7, c8, some (.dct kvs), c10, none] ∧
            (c10 = none ∨ ∃ d, c10 = some (.dat d)) ∧ kvs.length ≤ x + 1 ∧ kvs.map (·.1) = (ls.map toI).map kI ∧ ls.Nodup ∧ ∀ c, c ∈ ls ↔ ∃ y, y < x + 1 ∧ c = cls y) (fun _ => False)
            (.nx [some (.dat (tabD n t)), some (.dat (bD f)), some (.dat (bD f)), some (.dat (nD n)), some (.dat (rowsD n t)), some (.lst (matD n (wl a n))), some (.dat (nD x)), c7, c8, some (.dct (putK kvs (kI (toI (cls x))) v)), some (.dat (.list ((cls x).map nD))), none]) := fun v => by
          have hk2 := putK_keys kvs (kI (toI (cls x))) v
          have hlen2 : (putK kvs (kI (toI (cls x))) v).length ≤ x + 1 := Nat.le_trans (length_putK _ _ _) (Nat.succ_le_succ hlen)
          rw [hkeys] at hk2
          have hin : kI (toI (cls x)) ∈ (ls.map toI).map kI ↔ cls x ∈ ls := by
            constructor
            · intro h
              obtain ⟨u, hu, eu⟩ := List.mem_map.mp h
              obtain ⟨c, hc, ec⟩ := List.mem_map.mp hu
              rw [← ec] at eu
              rw [← toI_inj (kI_inj eu)]
              exact hc
            · exact fun h => List.mem_map.mpr ⟨_, List.mem_map.mpr ⟨_, h, rfl⟩, rfl⟩
          by_cases hc : cls x ∈ ls
          · rw [if_pos (hin.mpr hc)] at hk2
            refine ⟨_, _, _, _, _, ls, rfl, .inr ⟨_, rfl⟩, hlen2, hk2, hnd, fun c => (hmem c).trans ⟨fun ⟨y, hy, e⟩ => ⟨y, by omega, e⟩, fun ⟨y, hy, e⟩ => ?_⟩⟩
            by_cases hyx : y = x
            · subst hyx
              rw [e]
              exact (hmem _).mp hc
            · exact ⟨y, by omega, e⟩
          · rw [if_neg (fun z => hc (hin.mp z))] at hk2
            refine ⟨_, _, _, _, _, ls ++ [cls x], rfl, .inr ⟨_, rfl⟩, hlen2, by rw [hk2]; simp, ?_, fun c => ?_⟩
            · rw [List.nodup_append]
              exact ⟨hnd, by simp, fun u hu v hv => by simp at hv; subst hv; exact fun e => hc (e ▸ hu)⟩
            · rw [List.mem_append, List.mem_singleton, hmem]
              constructor
              · rintro (⟨y, hy, e⟩ | e)
                · exact ⟨y, by omega, e⟩
                · exact ⟨x, by omega, e⟩
              · rintro ⟨y, hy, e⟩
                by_cases hyx : y = x
                · exact .inr (hyx ▸ e)
                · exact .inl ⟨y, by omega, e⟩
        refine g_name (by simp) <| r_seq <| r_asgF (by simp) <| f_filterA (List.range n) nD nD (fun y => decide (E x y)) rfl (by simp; omega) (i_range (by omega) (a_v rfl (a_nil rfl)) rfl) (fun y hy => g_name (by simp) ?_) ?_
        · have hyn := List.mem_range.mp hy
          have hE := E_iff x y hxn hyn
          refine t_or <| t_and <| t_B <| d_late (j := 5) hxn hyn rfl (d_var rfl rfl) (d_var rfl rfl) ⟨_, rfl, fun e1 => ?_, fun e1 => t_B ?_⟩
          · refine ⟨fun z => (nomatch z), fun _ => t_test <| d_op <| d_var rfl <| d_var rfl <| rd_eq ⟨_, rfl, ?_, fun _ => d_var rfl rfl⟩⟩
            rw [← hE, e1]
            simp
            omega
          · refine d_late (j := 5) hyn hxn rfl (d_var rfl rfl) (d_var rfl rfl) ⟨_, rfl, fun e2 => ⟨?_, fun _ => d_var rfl rfl⟩, fun e2 => t_test <| d_op <| d_var rfl <| d_var rfl <| rd_eq ⟨_, rfl, ?_, fun _ => d_var rfl rfl⟩⟩
            · rw [← hE, e1, e2]
              rfl
            · rw [← hE, e1, e2]
              simp
              omega
        · show Run _ _ _ _
          refine r_freeze (j := 10) rfl <| r_dput (j := 9) rfl (by omega) <| d_callB <| a_cons <| d_ofF <| f_filterA (List.range n) nD nD (fun y => wl a n x y || decide (y = x)) rfl (by simp; omega) (i_range (by omega) (a_v rfl (a_nil rfl)) rfl) (fun y hy => g_name (by simp) ?_) <| a_nil <| rc_lenL ⟨_, .int _, ?_⟩
          · have hyn := List.mem_range.mp hy
            refine t_or <| t_B <| d_late (j := 5) hxn hyn rfl (d_var rfl rfl) (d_var rfl rfl) ⟨_, rfl, fun e1 => ⟨by rw [e1]; rfl, fun _ => d_var rfl rfl⟩, fun e1 => t_test <| d_op <| d_var rfl <| d_var rfl <| rd_eq ⟨_, rfl, ?_, fun _ => d_var rfl rfl⟩⟩
            rw [e1]
            simp
            omega
          · refine d_callB <| a_v rfl <| a_nil <| rc_tupOf ⟨toI (cls x), by rw [← map_nD]; rfl, ?_⟩
            exact next _
      · subst e
        rw [List.length_range] at hmem hlen
        have hk2 : kvs.map (·.1) = (ls.map toI).map kI := hkeys
        have ls8 : ls.length ≤ 8 := by
          have := congrArg List.length hkeys
          simp at this
          omega
        have el : ((ls.map toI).map fun ns => PyData.tuple (ns.map .int)) = ls.map lotD := by
          rw [List.map_map]
          refine List.map_congr_left fun l _ => ?_
          show PyData.tuple ((toI l).map .int) = lotD l
          rw [← map_nD]
          rfl
        have ne : ∀ c ∈ ls, c ≠ [] := fun c hc => by
          obtain ⟨x, hx, e⟩ := (hmem c).mp hc
          rw [e]
          exact List.ne_nil_of_mem (mem_clOf.mpr ⟨List.mem_range.mpr hx, qE.rfl' x (List.mem_range.mpr hx)⟩)
        have hmem' : ∀ c, c ∈ ls ↔ ∃ x, x ∈ List.range n ∧ c = clOf (List.range n) E x := fun c => (hmem c).trans ⟨fun ⟨x, h, e⟩ => ⟨x, List.mem_range.mpr h, e⟩, fun ⟨x, h, e⟩ => ⟨x, List.mem_range.mp h, e⟩⟩
        have hd : ∀ c ∈ ls, ∀ c' ∈ ls, c.headD 0 = c'.headD 0 → c = c' := fun c hc c' hc' e => by
          obtain ⟨x, hx, ec⟩ := (hmem' c).mp hc
          obtain ⟨x', hx', ec'⟩ := (hmem' c').mp hc'
          obtain ⟨m, hm, em, eh⟩ := head_ex (asc_range n) qE hx
          obtain ⟨m', hm', em', eh'⟩ := head_ex (asc_range n) qE hx'
          have e1 : c.headD 0 = m := by rw [ec, List.headD_eq_head?_getD, eh]; rfl
          have e2 : c'.headD 0 = m' := by rw [ec', List.headD_eq_head?_getD, eh']; rfl
          have e3 : m = m' := by rw [← e1, ← e2, e]
          subst e3
          rw [ec, ec', clOf_eq qE hx (mem_hds.mp hm).1 em, clOf_eq qE hx' (mem_hds.mp hm).1 em']
        have hdn : (ls.map (·.headD 0)).Nodup := by
          rw [List.Nodup, List.pairwise_map]
          exact hnd.imp_of_mem fun {a b} ha hb ne e => ne (hd a ha b hb e)
        have fin : ls.mergeSort (PySem.W.dataLe false (keyLot 0)) = clsL (List.range n) E :=
          clsL_uniq (asc_range n) qE (fun c => ((List.mergeSort_perm ls _).mem_iff).trans (hmem' c)) (sort_heads ne hdn)
        refine r_ret <| d_ofF <| f_sortLam ls lotD (keyLot 0) rfl ?_ (a_cons <| d_ofF <| f_listDct (j := 9) rfl hk2 <| a_nil (by rw [el])) (by omega) (PySem.W.AllAlike.of fun _ _ => alike_keyLot _ _ _ _) (PySem.W.Sortable.tuples fun l => ⟨_, _, rfl⟩) (fun l hl => ?_) (fun l hl => ?_) (by rw [fin]; rfl)
        · rcases h10 with e | ⟨d, e⟩ <;> subst e <;> rfl
        · exact depth_keyLot 0 l
        · have hlt : decide ((if f = true then (1 : Int) else 0) < (if f = true then (1 : Int) else 0)) = false := by cases f <;> rfl
          refine d_tup <| a_cons <| d_if <| t_test <| d_op <| d_var rfl <| d_var rfl <| rd_I0 (.bl _) ⟨_, rfl, fun e => ?_, fun _ => d_int <| a_v rfl <| a_nil ⟨by simp, rfl⟩⟩
          rw [hlt] at e
          cases e
end
end K41
end
section
set_option linter.all false
set_option maxRecDepth 100000
/-! K41, the walks: greatest_lots. -/
namespace K41
open PySem PySem.Spec PyProof.Rows L2
open Classical
/-! greatest_lots: slots 0 table, 1 size, 2 lots, 3 thing, 4 mates, 5 other, 6 mate, 7 lot; cells size table thing; calls least_piece -/
abbrev sgreatest_lots : Stmt := topS 17
theorem scgreatest_lots : FnScope ["table", "size", "lots", "thing", "mates", "other", "mate", "lot"] ["table"] (defScope sgreatest_lots) := ⟨rfl, rfl, rfl, by decide +kernel, rfl, by decide +kernel, by decide +kernel⟩
abbrev spGreatest (T : List (Addr × Str)) : Sp := spD T (ι := WebL) (fun i => Wb i.t ∧ i.n ≤ 8 ∧ Eqv (List.range i.n) (Pe i.n i.t)) (fun i => [tabD i.n i.t]) fun i d => d = lotsD (clsL (List.range i.n) (Pe i.n i.t))
theorem least_lt {n : Nat} {t : Nat → Nat → Bool} {x y : Nat} {m : List Nat} (L : Least n t (srt [x, y]) m) : decide (m.length < n) = decide (Pe n t x y) := by
  have hx : x ∈ m := L.has x (srt_mem.mpr (by simp))
  have hy : y ∈ m := L.has y (srt_mem.mpr (by simp))
  have lt : ∀ z ∈ m, z < n := L.mo.1
  have iff : m.length < n ↔ Pe n t x y := by
    constructor
    · intro h
      refine ⟨(· ∈ m), ⟨L.mo, Classical.byContradiction fun hno => ?_⟩, hx, hy⟩
      have e : m = List.range n := asc_ext L.asc (asc_range n) fun z => ⟨fun q => List.mem_range.mpr (lt z q), fun q => Classical.byContradiction fun r => hno ⟨z, List.mem_range.mp q, r⟩⟩
      rw [e, List.length_range] at h
      omega
    · rintro ⟨S, ⟨hS, u, hu, nu⟩, sx, sy⟩
      have um : u ∉ m := fun q => nu (L.up S hS (fun z hz => by
        have hz2 := srt_mem.mp hz
        simp at hz2
        rcases hz2 with rfl | rfl
        · exact sx
        · exact sy) u q)
      have nd : (u :: m).Nodup := List.nodup_cons.mpr ⟨um, L.asc.nodup⟩
      have := lot_len (n := n) nd fun z hz => (List.mem_cons.mp hz).elim (fun e => by rw [e]; exact hu) (lt z)
      simp at this
      omega
  by_cases h : Pe n t x y
  · rw [decide_eq_true h, decide_eq_true (iff.mpr h)]
  · rw [decide_eq_false h, decide_eq_false fun q => h (iff.mp q)]
section
variable {T : List (Addr × Str)} {P : Program} {w : World} {K : PySem.W.Frag} {mg : Str → Option Value} {base : Heap}
theorem ok_greatest_lots {f f1 : Addr} {fd fd1 : FuncData} (D : At' K mg "greatest_lots" sgreatest_lots ["table"] f fd) (Z : Zs mg) (C_least_piece : Cal P w K mg base 4 "least_piece" ["table", "lot"] (spLeast T) f1 fd1) :
    Cal P w K mg base 5 "greatest_lots" ["table"] (spGreatest T) f fd := by
  refine cal_D D scgreatest_lots (fun _ => rfl) fun cdv A outer s H E hr => ⟨_,
    (pss_cons (ps_asg (pe_tup (pa_cons (pe_ix (x_ix (K := K) rfl) (pv 0) pe_int (fun _ _ => rfl)) (pa_cons (pe_lst pa_nil) pa_nil))) (xg_tup (K := K) (n := 2) rfl rfl (pgs_cons (pg_name (i := 1) scgreatest_lots.nd rfl (.inr rfl)) (pgs_cons (pg_name (i := 2) scgreatest_lots.nd rfl (.inl rfl)) pgs_nil))))
    (pss_cons (ps_for PassesOwn.never rfl (pi_range1 (by rfl) Z.range (pa_cons (pv 1) pa_nil)) (pg_name (i := 3) scgreatest_lots.nd rfl (.inr rfl))
      (pss_one (ps_if (pt_not (pt_val (pe_callB (x_any (K := K) rfl rfl) (by rfl) Z.any (by decide +kernel) (pa_cons (pe_lc (own := [("lot", 7)]) rfl scgreatest_lots.nd (xi_seq (K := K) rfl (pv 2)) (blkOk_by (by kernel_rfl)) (fun _ _ _ _ _ => (pg_name (i := 7) scgreatest_lots.nd rfl (by first | exact Or.inl rfl | exact Or.inr rfl))) (fun _ _ _ _ _ => pts_nil) (fun _ _ _ _ _ => (pe_cmpR (x_in (K := K) rfl) (pv 3) (pv 7) (by rfl)))) pa_nil))))
        (pss_cons (ps_setLc (i := 4) (own := [("other", 5)]) rfl scgreatest_lots.nd rfl rfl (sw_true rfl rfl rfl (by decide +kernel)) (pi_range1 (by rfl) Z.range (pa_cons (pv 1) pa_nil)) (blkOk_by (by kernel_rfl)) (fun _ _ _ _ _ => (pg_name (i := 5) scgreatest_lots.nd rfl (by first | exact Or.inl rfl | exact Or.inr rfl))) (fun _ _ _ _ _ => (pts_one (pt_cmpR op_ne (pv 5) (pv 3) (nomark _)))) (fun _ _ _ _ _ => (pv 5)))
        (pss_cons (ps_setLc (i := 4) (own := [("mate", 6)]) rfl scgreatest_lots.nd rfl rfl (sw_true rfl rfl rfl (by decide +kernel)) (xi_seq (K := K) rfl (pv 4)) (blkOk_by (by kernel_rfl)) (fun _ _ _ _ _ => (pg_name (i := 6) scgreatest_lots.nd rfl (by first | exact Or.inl rfl | exact Or.inr rfl))) (fun _ _ _ _ _ => (pts_one (pt_cmpR op_lt (pe_callB (x_len (K := K) rfl) (by rfl) Z.len (by decide +kernel) (pa_cons (pe_call C_least_piece.G (hr.mono (by omega)) (by rfl) C_least_piece.m C_least_piece.kp C_least_piece.b .nil pass0 (pa_cons (pv 0) (pa_cons (pe_callTy (x_tuple (K := K) rfl) (by rfl) Z.tuple (by decide +kernel) (pa_cons (pe_callB (x_sorted (K := K) rfl (Room.u65 hr)) (by rfl) Z.sorted (by decide +kernel) (pa_cons (pe_tup (pa_cons (pv 3) (pa_cons (pv 6) pa_nil))) pa_nil)) pa_nil)) pa_nil))) pa_nil)) (pv 1) (nomark _)))) (fun _ _ _ _ _ => (pv 6)))
        (pss_one (ps_expr (pe_bm PySem.F.plainAttrs_list PySem.F.slot_list_append PySem.F.type_list_append mt_append (pv 2) (pa_cons (pe_callTy (x_tuple (K := K) rfl) (by rfl) Z.tuple (by decide +kernel) (pa_cons (pe_callB (x_sorted (K := K) rfl (Room.u65 hr)) (by rfl) Z.sorted (by decide +kernel) (pa_cons (pe_op op_cat (pe_lst (pa_cons (pv 3) pa_nil)) (pv 4)) pa_nil)) pa_nil)) pa_nil))))))
        pss_nil)))
    (pss_one (ps_ret (pv 2))))),
    fun i ⟨w, hn, qE⟩ => ?_⟩
  obtain ⟨n, t, ls0, f⟩ := i
  simp only at w hn qE ⊢
  let E : Nat → Nat → Prop := Pe n t
  let cls : Nat → List Nat := clOf (List.range n) E
  refine r_seq <| r_tupF (by decide) (by simp [startE]) <| d_op <| d_var rfl <| d_int <| rd_xT (k := 0) rfl <| f_lst <| a_nil ⟨by simp, ?_⟩
  have cls_len : ∀ x, (cls x).length ≤ 8 := fun x => Nat.le_trans (lot_len (asc_clOf (asc_range n) x).nodup fun y h => List.mem_range.mp (mem_clOf.mp h).1) hn
  refine r_seq <| r_forA (List.range n) nD (fun k Γ1 => ∃ c3 c4, ∃ ls : List (List Nat), Γ1 = [some (.dat (tabD n t)), some (.dat (nD n)), some (.lst (ls.map lotD)), c3, c4, none, none, none] ∧
      ls.length ≤ k ∧ (∀ c, c ∈ ls ↔ ∃ x, x < k ∧ c = cls x) ∧ Asc (ls.map (·.headD 0)) ∧ ∀ c ∈ ls, c.headD 0 < k)
    (i_range (by omega) (a_v rfl (a_nil rfl)) rfl) ⟨_, _, [], rfl, Nat.zero_le _, fun c => ⟨fun h => (nomatch h), fun ⟨x, h, _⟩ => absurd h (Nat.not_lt_zero x)⟩, List.Pairwise.nil, fun c h => (nomatch h)⟩ [3] (fun k x Γ1 hx ⟨c3, c4, ls, e, hlen, hmem, hasc, hlt⟩ => ?_) fun Γ1 ⟨c3, c4, ls, e, hlen, hmem, hasc, hlt⟩ => ?_
  · subst e
    have ex : x = k ∧ k < n := by
      have h := List.getElem?_eq_some_iff.mp hx
      exact ⟨by simpa using h.2.symm, by simpa using h.1⟩
    obtain ⟨rfl, hxn⟩ := ex
    have hxr := List.mem_range.mpr hxn
    have hne : ∀ a b : Nat, (!decide ((a : Int) = (b : Int))) = decide (a ≠ b) := fun a b => by
      by_cases h : a = b
      · subst h; simp
      · have : ¬ (a : Int) = (b : Int) := by omega
        rw [decide_eq_false this, decide_eq_true h]
        rfl
    refine g_name (by simp) <| r_if <| t_peek (j := 2) rfl <| t_not <| t_B <| d_callB <| a_cons <| d_ofF <| f_mapA ls lotD (fun l => .bool (decide (x ∈ l))) rfl (by omega) (i_seqL (d_var rfl ⟨_, rfl, rfl⟩)) (fun l hl => g_name (by simp) (d_op (d_var rfl (d_var rfl (rd_lot rfl))))) ?_
    have e2 : ls.map (fun l => PyData.bool (decide (x ∈ l))) = (ls.map fun l => decide (x ∈ l)).map .bool := by rw [List.map_map]; rfl
    rw [e2]
    refine a_nil (rc_any ⟨_, rfl, fun e => ?_, fun e => ?_⟩)
    · -- a new class
      have e3 : ((ls.map fun l => decide (x ∈ l)).any id) = false := by
        cases q : ((ls.map fun l => decide (x ∈ l)).any id) with
        | false => rfl
        | true => rw [q] at e; cases e
      have new : ∀ y, y < x → ¬ E y x := fun y hy he => by
        rw [List.any_eq_false] at e3
        refine e3 true (List.mem_map.mpr ⟨cls y, (hmem _).mpr ⟨y, hy, rfl⟩, decide_eq_true ?_⟩) rfl
        exact mem_clOf.mpr ⟨hxr, he⟩
      have hhead : (cls x).headD 0 = x := by
        obtain ⟨m, hm, em, eh⟩ := head_ex (asc_range n) qE hxr
        obtain ⟨m1, m2⟩ := mem_hds.mp hm
        have hle := m2 x hxr (qE.sym x m hxr m1 em)
        have : m = x := by
          rcases Nat.lt_or_eq_of_le hle with z | z
          · exact absurd (qE.sym x m hxr m1 em) (new m z)
          · exact z
        show (clOf (List.range n) E x).headD 0 = x
        rw [List.headD_eq_head?_getD, eh, this]
        rfl
      let mates := ((List.range n).filter fun y => decide (y ≠ x)).filter fun y => decide (E x y)
      have hml : ∀ y, y ∈ mates ↔ y < n ∧ y ≠ x ∧ E x y := fun y => by
        show y ∈ ((List.range n).filter fun y => decide (y ≠ x)).filter (fun y => decide (E x y)) ↔ _
        rw [List.mem_filter, List.mem_filter, List.mem_range, decide_eq_true_eq, decide_eq_true_eq]
        exact ⟨fun ⟨⟨a, b⟩, c⟩ => ⟨a, b, c⟩, fun ⟨a, b, c⟩ => ⟨⟨a, b⟩, c⟩⟩
      have nd : (x :: mates).Nodup := List.nodup_cons.mpr ⟨fun h => ((hml x).mp h).2.1 rfl, (((asc_range n).nodup.filter _).filter _)⟩
      have es : srt (x :: mates) = cls x := srt_eq (asc_clOf (asc_range n) x) nd fun y => by
        rw [List.mem_cons, hml]
        constructor
        · rintro (rfl | ⟨a, b, c⟩)
          · exact mem_clOf.mpr ⟨hxr, qE.rfl' y hxr⟩
          · exact mem_clOf.mpr ⟨List.mem_range.mpr a, c⟩
        · intro h
          obtain ⟨a, c⟩ := mem_clOf.mp h
          by_cases q : y = x
          · exact .inl q
          · exact .inr ⟨List.mem_range.mp a, q, c⟩
      have mlen : mates.length ≤ 8 := by
        have h1 : mates.length ≤ n := lot_len (((asc_range n).nodup.filter _).filter _) fun y hy => ((hml y).mp hy).1
        omega
      refine r_seq <| r_asgF (by simp) <| f_filterA (List.range n) nD nD (fun y => decide (y ≠ x)) rfl (by simp; omega) (i_range (by omega) (a_v rfl (a_nil rfl)) rfl) (fun y hy => g_name (by simp) (t_test <| d_op <| d_var rfl <| d_var rfl <| rd_ne ⟨_, rfl, hne y x, fun _ => d_var rfl rfl⟩)) ?_
      show Run _ _ _ _
      have l2 : ((List.range n).filter fun y => decide (y ≠ x)).length ≤ 100000 := Nat.le_trans (List.length_filter_le _ _) (by rw [List.length_range]; omega)
      refine r_seq <| r_asgF (by simp) <| f_peek (j := 4) rfl <| f_filterA ((List.range n).filter fun y => decide (y ≠ x)) nD nD (fun y => decide (E x y)) rfl l2 (i_seqL (d_var rfl ⟨_, rfl, rfl⟩)) (fun y hy => g_name (by simp) ?_) ⟨fun d hd => ?_, ?_⟩
      · obtain ⟨hy1, hy2⟩ := List.mem_filter.mp hy
        have hyn := List.mem_range.mp hy1
        have hyx : y ≠ x := of_decide_eq_true hy2
        have ndp : ([x, y] : List Nat).Nodup := by simp [Ne.symm hyx]
        refine t_test <| d_op <| d_callB <| a_cons <| d_call <| a_v rfl <| a_cons <| d_callB <| a_cons <| d_ofF <| f_callB <| a_cons <| d_tup <| a_v rfl <| a_v rfl <| a_nil ⟨by simp, a_nil <| rcf_srt (l := [x, y]) (.inr rfl) (by simp) <| a_nil <| rc_tupOf <| a_nil ⟨⟨n, t, srt [x, y], 0, 0, 0⟩, ⟨w, fun z hz => ?_, hn, srt_nodup ndp⟩, rfl, fun d ⟨m, ed, L⟩ => ?_⟩⟩
        · have hz2 := srt_mem.mp hz
          simp at hz2
          rcases hz2 with rfl | rfl
          · exact hxn
          · exact hyn
        · subst ed
          refine a_nil <| rc_lenT <| d_var rfl <| rd_I0 (.bl _) ⟨_, rfl, ?_, fun _ => d_var rfl rfl⟩
          rw [List.length_map]
          have h1 : decide ((m.length : Int) < (n : Int)) = decide (m.length < n) := by simp
          rw [h1]
          exact least_lt L
      · obtain ⟨y, _, rfl⟩ := List.mem_map.mp hd
        exact trivial
      · show Run _ _ _ _
        refine r_freeze (j := 4) rfl <| r_app (j := 2) rfl (by rw [List.length_map]; omega) <| d_callB <| a_cons <| d_ofF <| f_callB <| a_cons <| d_op <| d_ofF <| f_lst <| a_v rfl <| a_nil ⟨by simp, d_var rfl <| rd_cat (by rw [List.length_map]; show 1 + mates.length ≤ 1000; omega) <| a_nil <| rcf_srt (l := x :: mates) (.inl rfl) (by simp; omega) <| a_nil <| rc_tupOf ?_⟩
        refine ⟨some (.dat (nD x)), some (.dat (.list (mates.map nD))), ls ++ [cls x], ?_, by simp; omega, fun c => ?_, ?_, fun c hc => ?_⟩
        · rw [es, List.map_append]
          rfl
        · rw [List.mem_append, List.mem_singleton, hmem]
          constructor
          · rintro (⟨y, hy, e⟩ | e)
            · exact ⟨y, by omega, e⟩
            · exact ⟨x, by omega, e⟩
          · rintro ⟨y, hy, e⟩
            by_cases hyx : y = x
            · exact .inr (hyx ▸ e)
            · exact .inl ⟨y, by omega, e⟩
        · rw [List.map_append]
          refine List.pairwise_append.mpr ⟨hasc, by simp, fun a ha b hb => ?_⟩
          obtain ⟨c, hc, rfl⟩ := List.mem_map.mp ha
          simp at hb
          subst hb
          have := hlt c hc
          rw [← List.headD_eq_head?_getD, hhead]
          exact this
        · rcases List.mem_append.mp hc with h | h
          · have := hlt c h
            omega
          · rw [List.mem_singleton] at h
            rw [h, hhead]
            omega
    · have e3 : ((ls.map fun l => decide (x ∈ l)).any id) = true := by
        cases q : ((ls.map fun l => decide (x ∈ l)).any id) with
        | true => rfl
        | false => rw [q] at e; cases e
      obtain ⟨b, hb, eb⟩ := List.any_eq_true.mp e3
      obtain ⟨l, hl, rfl⟩ := List.mem_map.mp hb
      have hxl : x ∈ l := of_decide_eq_true eb
      refine r_next ⟨some (.dat (nD x)), c4, ls, rfl, by omega, fun c => (hmem c).trans ⟨fun ⟨y, hy, e⟩ => ⟨y, by omega, e⟩, fun ⟨y, hy, ec⟩ => ?_⟩, hasc, fun c hc => Nat.lt_succ_of_lt (hlt c hc)⟩
      by_cases hyx : y = x
      · subst hyx
        obtain ⟨z, hz, ez⟩ := (hmem l).mp hl
        refine ⟨z, hz, ?_⟩
        rw [ec]
        rw [ez] at hxl
        have hzn : z ∈ List.range n := List.mem_range.mpr (by omega)
        exact (clOf_eq qE hzn hxr (mem_clOf.mp hxl).2).symm
      · exact ⟨y, by omega, ec⟩
  · subst e
    rw [List.length_range] at hmem
    refine r_freeze (j := 2) rfl <| r_ret <| d_var rfl ?_
    have hmem' : ∀ c, c ∈ ls ↔ ∃ x, x ∈ List.range n ∧ c = clOf (List.range n) E x := fun c => (hmem c).trans ⟨fun ⟨x, h, e⟩ => ⟨x, List.mem_range.mpr h, e⟩, fun ⟨x, h, e⟩ => ⟨x, List.mem_range.mp h, e⟩⟩
    show PyData.list (ls.map lotD) = _
    rw [clsL_uniq (asc_range n) qE hmem' hasc]
    rfl
end
end K41
end
section
set_option linter.all false
set_option maxRecDepth 100000
/-! K41, the walks: top_knot. -/
namespace K41
open PySem PySem.Spec PyProof.Rows L2
open Classical
/-- the three words -/
structure Ys (mg : Str → Option Value) : Prop where
  ALL : ∃ t, mg "ALL" = some (.str "all" t)
  LINE : ∃ t, mg "LINE" = some (.str "line" t)
  FIRM : ∃ t, mg "FIRM" = some (.str "firm" t)
theorem x_glob {X : Cx} {x v : Str} {pos : Pos} (hg : Gl X x) (hm : ∃ t, X.mg x = some (.str v t)) (hd : (x == ("__debug__" : Str)) = false := by decide) : PE X (.Name x pos) (tC (.str v)) := by
  obtain ⟨t, hm⟩ := hm
  exact pe_glob hg hm ⟨t, rfl⟩ hd
def bI (b : Bool) : Int := if b then 1 else 0
theorem bI_inj {a b : Bool} (h : bI a = bI b) : a = b := by cases a <;> cases b <;> simp [bI] at h <;> rfl
def wordD (fm : Bool) : PyData := .str (if fm then "firm" else "all")
section
variable {T : List (Addr × Str)} {M : Am T} {K : PySem.W.Frag} {Γ : Env'} {R : List PyData → Prop}
/-- for x in range(1, n) -/
theorem i_range1n {tA : TA} {n : Nat} (hn : n ≤ 1000) (h : EvA M tA Γ fun as => as = [.int 1, nD n]) (r : R (((List.range (n - 1)).map (· + 1)).map nD)) : EvI M (iRng2 tA) Γ R :=
  i_rng2 (fun O A σ H Q S f => h O A σ H Q S fun vs ds H' e => f vs ds H' ⟨1, (n : Int), e, by omega, by
    have e2 : rngD 1 ((n : Int) - 1).toNat = ((List.range (n - 1)).map (· + 1)).map nD := by
      unfold rngD
      rw [List.map_map, show ((n : Int) - 1).toNat = n - 1 by omega]
      exact List.map_congr_left fun i _ => by show PyData.int (1 + (i : Int)) = PyData.int ((i + 1 : Nat) : Int); congr 1; omega
    rw [e2]
    exact r⟩)
theorem rcf_same {b : Bool} (p : R [bD b, bD b]) : RCF M (rSortD K) [.tuple [bD b, bD b]] R := by
  have e : sortD [bD b, bD b] = [bD b, bD b] := by
    have e1 : [bD b, bD b] = [bI b, bI b].map PyData.int := rfl
    rw [e1, sortD_ints]
    exact congrArg _ (List.perm_replicate (n := 2) (a := bI b).mp (List.mergeSort_perm [bI b, bI b] _))
  exact rcf_sort (.inr rfl) (sortOk_ints (ns := [bI b, bI b]) (by simp)) (by
    show R (sortD [bD b, bD b])
    rw [e]
    exact p)
end
theorem clsL_len (l : List Nat) (E : Nat → Nat → Prop) : (clsL l E).length ≤ l.length := by
  unfold clsL hds
  rw [List.length_map]
  exact List.length_filter_le _ _
/-! top_knot: slots 0 table, 1 size, 2 rows, 3 kinds, 4 first, 5 second, 6 lots, 7 other; cells rows; calls row_of_blocks greatest_lots quotient -/
abbrev stop_knot : Stmt := topS 18
theorem sctop_knot : FnScope ["table", "size", "rows", "kinds", "first", "second", "lots", "other"] ["table"] (defScope stop_knot) := ⟨rfl, rfl, rfl, by decide +kernel, rfl, by decide +kernel, by decide +kernel⟩
abbrev spTop (T : List (Addr × Str)) : Sp := spD T (ι := WebL) (fun i => Wb i.t ∧ 2 ≤ i.n ∧ i.n ≤ 8) (fun i => [tabD i.n i.t]) fun i d => ∃ fm E looks, KnP i.n i.t fm E ∧ looks.canLay0 = true ∧ d = .tuple [wordD fm, looks, lotsD (clsL (List.range i.n) E)]
section
variable {T : List (Addr × Str)} {P : Program} {w : World} {K : PySem.W.Frag} {mg : Str → Option Value} {base : Heap}
theorem ok_top_knot {f f1 f2 f3 : Addr} {fd fd1 fd2 fd3 : FuncData} (D : At' K mg "top_knot" stop_knot ["table"] f fd) (Z : Zs mg) (Y : Ys mg) (C_row_of_blocks : Cal P w K mg base 7 "row_of_blocks" ["table", "first", "second"] (spRow T) f1 fd1)
    (C_greatest_lots : Cal P w K mg base 5 "greatest_lots" ["table"] (spGreatest T) f2 fd2) (C_quotient : Cal P w K mg base 3 "quotient" ["table", "lots"] (spQuotient T) f3 fd3) :
    Cal P w K mg base 8 "top_knot" ["table"] (spTop T) f fd := by
  refine cal_D D sctop_knot (fun _ => rfl) fun cdv A outer s H E hr => ⟨_,
    (pss_cons (ps_asg (pv 0) (xg_tup (K := K) (n := 2) rfl rfl (pgs_cons (pg_name (i := 1) sctop_knot.nd rfl (.inl rfl)) (pgs_cons (pg_name (i := 2) sctop_knot.nd rfl (.inr rfl)) pgs_nil))))
    (pss_cons (ps_set (i := 3) sctop_knot.nd rfl (.inl rfl) (pe_callB (x_sortedT (K := K) rfl rfl rfl rfl) (by rfl) Z.sorted (by decide +kernel) (pa_cons (pe_callTy (x_setOfT (K := K) rfl rfl rfl rfl hr.units) (by rfl) Z.set (by decide +kernel) (pa_cons (pe_lc (own := [("other", 7)]) rfl sctop_knot.nd (pi_range2 (by rfl) Z.range (pa_cons pe_int (pa_cons (pv 1) pa_nil))) (blkOk_by (by kernel_rfl)) (fun _ _ _ _ _ => (pg_name (i := 7) sctop_knot.nd rfl (by first | exact Or.inl rfl | exact Or.inr rfl))) (fun _ _ _ _ _ => pts_nil) (fun _ _ _ _ _ => (pe_callTy (x_tuple (K := K) rfl) (by rfl) Z.tuple (by decide +kernel) (pa_cons (pe_callB (x_sorted (K := K) rfl (Room.u65 hr)) (by rfl) Z.sorted (by decide +kernel) (pa_cons (pe_tup (pa_cons (pe_ix (x_ix (K := K) rfl) (pe_ix (x_ix (K := K) rfl) (pv 2) pe_int (fun _ _ => rfl)) (pv 7) (fun _ _ => rfl)) (pa_cons (pe_ix (x_ix (K := K) rfl) (pe_ix (x_ix (K := K) rfl) (pv 2) (pv 7) (fun _ _ => rfl)) pe_int (fun _ _ => rfl)) pa_nil))) pa_nil)) pa_nil)))) pa_nil)) pa_nil)))
    (pss_cons (ps_for PassesOwn.never rfl (xi_seq (K := K) rfl (pv 3)) (xg_tup (K := K) (n := 2) rfl rfl (pgs_cons (pg_name (i := 4) sctop_knot.nd rfl (.inl rfl)) (pgs_cons (pg_name (i := 5) sctop_knot.nd rfl (.inl rfl)) pgs_nil)))
      (pss_cons (ps_set (i := 6) sctop_knot.nd rfl (.inl rfl) (pe_call C_row_of_blocks.G (hr.mono (by omega)) (by rfl) C_row_of_blocks.m C_row_of_blocks.kp C_row_of_blocks.b .nil pass0 (pa_cons (pv 0) (pa_cons (pv 4) (pa_cons (pv 5) pa_nil)))))
      (pss_one (ps_if (pt_cmpR op_gt (pe_callB (x_len (K := K) rfl) (by rfl) Z.len (by decide +kernel) (pa_cons (pv 6) pa_nil)) pe_int (nomark _))
        (pss_one (ps_ret (pe_ifExp (pt_cmpR op_eq (pv 4) (pv 5) (nomark _)) (pe_tup (pa_cons (x_glob (by rfl) Y.ALL) (pa_cons (pe_tup (pa_cons (pv 4) pa_nil)) (pa_cons (pv 6) pa_nil)))) (pe_tup (pa_cons (x_glob (by rfl) Y.LINE) (pa_cons (pe_tup (pa_cons (pv 4) (pa_cons (pv 5) pa_nil))) (pa_cons (pv 6) pa_nil)))))))
        pss_nil))))
    (pss_cons (ps_set (i := 6) sctop_knot.nd rfl (.inl rfl) (pe_call C_greatest_lots.G (hr.mono (by omega)) (by rfl) C_greatest_lots.m C_greatest_lots.kp C_greatest_lots.b .nil pass0 (pa_cons (pv 0) pa_nil)))
    (pss_one (ps_ret (pe_tup (pa_cons (x_glob (by rfl) Y.FIRM) (pa_cons (pe_ix (x_ix (K := K) rfl) (pe_call C_quotient.G (hr.mono (by omega)) (by rfl) C_quotient.m C_quotient.kp C_quotient.b .nil pass0 (pa_cons (pv 0) (pa_cons (pe_callTy (x_tuple (K := K) rfl) (by rfl) Z.tuple (by decide +kernel) (pa_cons (pv 6) pa_nil)) pa_nil))) pe_int (fun _ _ => rfl)) (pa_cons (pv 6) pa_nil)))))))))),
    fun i ⟨w, h2, hn⟩ => ?_⟩
  obtain ⟨n, t, ls0, f⟩ := i
  simp only at w h2 hn ⊢
  refine r_seq <| r_asgG (S := [1, 2]) <| d_var rfl <| g_tup rfl <| gs_cons <| g_name (by simp) <| gs_cons <| g_name (by simp) <| gs_nil ?_
  have h0 : 0 < n := by omega
  let nss : List (List Int) := ((List.range (n - 1)).map (· + 1)).map fun o => [bI (t 0 o), bI (t 0 o)]
  have mem_nss : ∀ x, x ∈ nss ↔ ∃ o, 1 ≤ o ∧ o < n ∧ x = [bI (t 0 o), bI (t 0 o)] := fun x => by
    show x ∈ ((List.range (n - 1)).map (· + 1)).map (fun o => [bI (t 0 o), bI (t 0 o)]) ↔ _
    rw [List.mem_map]
    constructor
    · rintro ⟨o, ho, rfl⟩
      obtain ⟨j, hj, rfl⟩ := List.mem_map.mp ho
      have := List.mem_range.mp hj
      exact ⟨j + 1, by omega, by omega, rfl⟩
    · rintro ⟨o, h1, h2, rfl⟩
      exact ⟨o, List.mem_map.mpr ⟨o - 1, List.mem_range.mpr (by omega), by omega⟩, rfl⟩
  refine r_seq <| r_asgF (by simp [startE]) <| f_sortSet <| d_ofF <| f_mapA ((List.range (n - 1)).map (· + 1)) nD (fun o => .tuple [bD (t 0 o), bD (t 0 o)]) rfl (by simp; omega) (i_range1n (n := n) (by omega) (a_cons <| d_int <| a_v rfl <| a_nil rfl) rfl) (fun o ho => g_name (by simp) ?_) ⟨nss, ?_, ?_, 2, 64, by omega, fun ns hns => ?_, fun ms hms _ _ => ?_⟩
  · obtain ⟨j, hj, rfl⟩ := List.mem_map.mp ho
    have hjn := List.mem_range.mp hj
    have hon : j + 1 < n := by omega
    refine d_callB <| a_cons <| d_ofF <| f_callB <| a_cons <| d_tup <| a_cons <| d_look h0 hon (d_var rfl rfl) (d_int rfl) (d_var rfl rfl) <| a_cons <| d_look hon h0 (d_var rfl rfl) (d_var rfl rfl) (d_int rfl) <| a_nil ⟨by simp, a_nil ?_⟩
    rw [w.sym (j + 1) 0]
    exact rcf_same (a_nil (rc_tupOf rfl))
  · show PyData.list _ = PyData.list (List.map _ (((List.range (n - 1)).map (· + 1)).map fun o => [bI (t 0 o), bI (t 0 o)]))
    rw [List.map_map (l := (List.range (n - 1)).map (· + 1))]
    rfl
  · show (((List.range (n - 1)).map (· + 1)).map fun o => [bI (t 0 o), bI (t 0 o)]).length < 64
    simp
    omega
  · obtain ⟨o, _, _, rfl⟩ := (mem_nss ns).mp hns
    refine ⟨rfl, fun m hm => ?_⟩
    have : m = bI (t 0 o) := by simpa using hm
    subst this
    unfold bI
    split <;> omega
  · show Run _ _ _ _
    refine r_freeze (j := 3) rfl <| r_seq <| r_forA ms (fun ns => .tuple (ns.map .int)) (fun k Γ1 => ∃ c4 c5 c6, Γ1 = [some (.dat (tabD n t)), some (.dat (nD n)), some (.dat (rowsD n t)), some (.dat (.list (ms.map fun ns => .tuple (ns.map .int)))), c4, c5, c6, none] ∧
        ∀ j, j < k → ∀ f, ms[j]? = some [bI f, bI f] → ∀ x y, x < n → y < n → Cn (Ad n t f) x y)
      (i_seqL (d_var rfl ⟨_, rfl, rfl⟩)) ⟨_, _, _, rfl, fun j h => absurd h (Nat.not_lt_zero j)⟩ [4, 5] (fun k ns Γ1 hk ⟨c4, c5, c6, e, hcn⟩ => ?_) fun Γ1 ⟨c4, c5, c6, e, hcn⟩ => ?_
    · subst e
      obtain ⟨o, ho1, ho2, rfl⟩ := (mem_nss ns).mp ((hms ns).mp (List.mem_of_getElem? hk))
      let f := t 0 o
      have qE := eqv_cn (n := n) w f
      refine g_tup rfl <| gs_cons <| g_name (by simp) <| gs_cons <| g_name (by simp) <| gs_nil ?_
      refine r_seq <| r_asg <| d_call <| a_v rfl <| a_v rfl <| a_v rfl <| a_nil ⟨⟨n, t, [], f⟩, ⟨w, hn⟩, rfl, fun d ed => ?_⟩
      subst ed
      refine r_if <| t_test <| d_op <| d_callB <| a_v rfl <| a_nil <| rc_lenL <| d_int <| rd_I0 (.bl _) ⟨_, rfl, fun e => ?_, fun e => ?_⟩
      · have h1 : 1 < (clsL (List.range n) (Cn (Ad n t f))).length := by simp at e; omega
        obtain ⟨x, y, hx, hy, ne⟩ := (clsL_two (asc_range n) qE).mp h1
        refine r_ret <| d_if <| t_test <| d_op <| d_var rfl <| d_var rfl <| rd_eq ⟨_, rfl, fun _ => d_tup <| a_cons <| d_str <| a_cons <| d_tup <| a_v rfl <| a_nil ⟨by simp, a_v rfl <| a_nil ⟨by simp, ?_⟩⟩, fun e => by simp at e⟩
        exact ⟨false, Cn (Ad n t f), _, knP_all w ⟨x, y, List.mem_range.mp hx, List.mem_range.mp hy, ne⟩, by simp [bD, PyData.canLay0, PyData.canLayAll0], rfl⟩
      · have h1 : ¬ 1 < (clsL (List.range n) (Cn (Ad n t f))).length := by simp at e; omega
        refine r_next ⟨_, _, _, rfl, fun j hj g hg => ?_⟩
        rcases Nat.lt_succ_iff_lt_or_eq.mp hj with h | h
        · exact hcn j h g hg
        · subst h
          rw [hk] at hg
          have eg : f = g := bI_inj (by simpa using hg)
          subst eg
          intro x y hx hy
          exact Classical.byContradiction fun ne => h1 ((clsL_two (asc_range n) qE).mpr ⟨x, y, List.mem_range.mpr hx, List.mem_range.mpr hy, ne⟩)
    · subst e
      have seen : ∀ o, 1 ≤ o → o < n → ∀ x y, x < n → y < n → Cn (Ad n t (t 0 o)) x y := fun o h1 h2 => by
        obtain ⟨j, hj, ej⟩ := List.getElem_of_mem ((hms _).mpr ((mem_nss _).mpr ⟨o, h1, h2, rfl⟩))
        exact hcn j hj (t 0 o) (by rw [List.getElem?_eq_getElem hj, ej])
      have all : ∀ f x y, x < n → y < n → Cn (Ad n t f) x y := fun f => by
        by_cases h : ∃ o, 1 ≤ o ∧ o < n ∧ t 0 o = f
        · obtain ⟨o, h1, h2, e⟩ := h
          exact e ▸ seen o h1 h2
        · have e1 : t 0 1 = !f := by
            cases q : t 0 1 <;> cases f <;> first | rfl | exact absurd ⟨1, Nat.le_refl 1, by omega, q⟩ h
          have c := seen 1 (Nat.le_refl 1) (by omega) 0 1 h0 (by omega)
          have : (1 : Nat) = 0 := c.keep (P := fun y => y = 0) (fun u v hu r => by
            subst hu
            have r2 := r.2.2.2
            rw [e1] at r2
            simp at r2
            exact absurd ⟨v, Nat.one_le_iff_ne_zero.mpr (Ne.symm r.2.2.1), r.2.1, r2⟩ h) rfl
          omega
      have kp := knP_firm w h2 all
      have qE := eqv_parts kp.parts
      refine r_seq <| r_asg <| d_call <| a_v rfl <| a_nil ⟨⟨n, t, [], false⟩, ⟨w, hn, qE⟩, rfl, fun d ed => ?_⟩
      subst ed
      refine r_ret <| d_tup <| a_cons <| d_str <| a_cons <| d_op <| d_call <| a_v rfl <| a_cons <| d_callB <| a_v rfl <| a_nil <| rc_tupOf <| a_nil ⟨⟨n, t, clsL (List.range n) (Pe n t), false⟩, ⟨w, hn, ?_, fun l hl => ?_⟩, rfl, fun d ⟨a, b, ed, hb⟩ => ?_⟩
      · exact Nat.le_trans (clsL_len _ _) (by rw [List.length_range]; exact hn)
      · obtain ⟨x, hx, el⟩ := (mem_clsL (asc_range n) qE).mp hl
        have hlt : ∀ y ∈ l, y < n := fun y hy => by rw [el] at hy; exact List.mem_range.mp (mem_clOf.mp hy).1
        refine ⟨clsL_ne (asc_range n) qE hl, Nat.le_trans (lot_len (by rw [el]; exact (asc_clOf (asc_range n) x).nodup) hlt) hn, mo_congr (mo_pe (x := x)) fun y => ?_⟩
        rw [el]
        exact ⟨fun h => mem_clOf.mpr ⟨List.mem_range.mpr (kp.parts.lt x y (List.mem_range.mp hx) h), h⟩, fun h => (mem_clOf.mp h).2⟩
      · subst ed
        exact d_int <| rd_xT (k := 1) rfl <| a_v rfl <| a_nil ⟨by simp, true, Pe n t, b, kp, hb, rfl⟩
end
end K41
end
section
set_option linter.all false
set_option maxRecDepth 100000
/-! K41, the walks: tree_at, tree_of. -/
namespace K41
open PySem PySem.Spec PyProof.Rows L2
open Classical
section
variable {X : Cx} {K : PySem.W.Frag}
def rEqE (K : PySem.W.Frag) : R2 := fun x y H Q => ∃ d, Dp K H x d ∧ Dp K H y (.tuple []) ∧ d.canLay0 = true ∧ Q (.bl (PyData.eqv d (.tuple []))) H
theorem op_eqE (hu : X.A.units + 64 < cLine) : OpR X (compareOp .Eq) (rEqE X.K) := by
  intro pins s σ H x y v u Q I rx ry ⟨d, hd, he, lay, q⟩
  obtain ⟨as, r1⟩ := Dp.reads I d x v hd rx
  obtain ⟨bs, r2⟩ := Dp.reads I (.tuple []) y u he ry
  refine SeqAt.compareEq_reads r1 r2 lay (by simp [PyData.canLay0, PyData.canLayAll0]) ?_ ⟨.bl _, H, I, rfl, q⟩
  have e : (PyData.tuple []).depth ≤ 1 := by simp [PyData.depth, PyData.depthAll]
  omega
theorem x_eqE (h : X.K = K) (hu : X.A.units + 64 < cLine) : OpR X (compareOp .Eq) (rEqE K) := h ▸ op_eqE hu
end
section
variable {T : List (Addr × Str)} {M : Am T} {K : PySem.W.Frag} {P : PyData → Prop}
theorem rd_eqE {a : PyData} (h : a.canLay0 = true) (p : P (.bool (PyData.eqv a (.tuple [])))) : RD M (rEqE K) a (.tuple []) P := fun hd H x y Q w hx hy f =>
  ⟨a, Dat.dp _ _ hx.top, Dat.dp _ _ hy.top, h, f.sc w p (.bl _)⟩
end
section
variable {T : List (Addr × Str)} {M : Am T} {Γ : Env'} {P : PyData → Prop} {R : List PyData → Prop} {te : TE}
theorem rgV_nat (n : Nat) : rgV 0 (n : Int) = (toI (List.range n)).map V.int := by
  unfold rgV toI
  rw [List.map_map, show ((n : Int) - 0).toNat = n by omega]
  exact List.map_congr_left fun i _ => by show V.int (0 + (i : Int)) = V.int (i : Int); rw [Int.zero_add]
theorem rgOk_nat {n : Nat} (h : n ≤ 1000) : RgOk 0 (n : Int) := RgOk.of_le (by omega) (by omega) (by omega) (by omega)
/-- tuple(range(n)) -/
theorem d_tupRg (h : EvD M te Γ fun d => ∃ n : Nat, d = nD n ∧ n ≤ 1000 ∧ P (lotD (List.range n))) : EvD M (tTupRg (tRg1 te)) Γ P := fun O A σ H Q S f =>
  h O A σ H _ S fun v d H1 ⟨n, e, hn, p⟩ k i hv => by
    subst e
    refine ⟨(n : Int), hv.intAt, rgOk_nat hn, fun q hq => ?_⟩
    have S1 := S.step k i
    rw [rgV_nat]
    refine Fi.tup (P := P) (fun v d H' p' k' => f v d H' p' (k.trans k')) S1.wd (ds := (List.range n).map nD) p ?_ hq
    rw [map_nD]
    exact Dats.ofInts _
/-- list(range(n)) -/
theorem f_lstRg (h : EvD M te Γ fun d => ∃ n : Nat, d = nD n ∧ n ≤ 1000 ∧ R ((List.range n).map nD)) : EvF M (tLstRg (tRg1 te)) Γ R := fun O A σ H Q S f =>
  h O A σ H _ S fun v d H1 ⟨n, e, hn, p⟩ k i hv => by
    subst e
    refine ⟨(n : Int), hv.intAt, rgOk_nat hn, fun q hq => ?_⟩
    have S1 := S.step k i
    rw [rgV_nat]
    refine rcf_new S1.wd p ?_ hq fun p ws es H' pp fr nO k' i' e hd => f p ws es H' pp (Fr.back k (fun z => nO (.inl (S.wO p z))) fr) nO (k.trans k') i' e hd
    rw [map_nD]
    exact Dats.ofInts _
end
/-! ### the tree, as data -/
mutual
inductive TreeOf (n : Nat) (t : Nat → Nat → Bool) : List Nat → PyData → Prop
  | one {x : Nat} (h : x < n) : TreeOf n t [x] (nD x)
  | knot {l : List Nat} {fm : Bool} {E : Nat → Nat → Prop} {looks : PyData} {ds : List PyData} (k : Kn n t l fm E) (asc : Asc l) (lay : looks.canLay0 = true) (h : TreesOf n t (clsL l E) ds) : TreeOf n t l (.tuple [wordD fm, looks, .tuple ds])
inductive TreesOf (n : Nat) (t : Nat → Nat → Bool) : List (List Nat) → List PyData → Prop
  | nil : TreesOf n t [] []
  | cons {c : List Nat} {cs : List (List Nat)} {d : PyData} {ds : List PyData} (h : TreeOf n t c d) (k : TreesOf n t cs ds) : TreesOf n t (c :: cs) (d :: ds)
end
section
variable {n : Nat} {t : Nat → Nat → Bool}
theorem TreesOf.snoc : ∀ {cs : List (List Nat)} {ds : List PyData} {c : List Nat} {d : PyData}, TreesOf n t cs ds → TreeOf n t c d → TreesOf n t (cs ++ [c]) (ds ++ [d])
  | [], _, _, _, h, k => by cases h; exact .cons k .nil
  | _ :: _, _, _, _, h, k => by cases h with | cons h1 h2 => exact .cons h1 (TreesOf.snoc h2 k)
theorem TreesOf.len : ∀ {cs : List (List Nat)} {ds : List PyData}, TreesOf n t cs ds → ds.length = cs.length
  | [], _, h => by cases h; rfl
  | _ :: _, _, h => by cases h with | cons h1 h2 => simp [TreesOf.len h2]
theorem TreesOf.get : ∀ {cs : List (List Nat)} {ds : List PyData} {i : Nat} {d : PyData}, TreesOf n t cs ds → ds[i]? = some d → ∃ c, cs[i]? = some c ∧ TreeOf n t c d
  | [], _, _, _, h, e => by cases h; simp at e
  | c :: _, _, 0, _, h, e => by
    cases h with
    | cons h1 h2 =>
      simp at e
      subst e
      exact ⟨c, rfl, h1⟩
  | _ :: _, _, i + 1, _, h, e => by
    cases h with
    | cons h1 h2 =>
      rw [List.getElem?_cons_succ] at e
      obtain ⟨c, a, b⟩ := TreesOf.get h2 e
      exact ⟨c, by rw [List.getElem?_cons_succ]; exact a, b⟩
/-- a son is less than the lot -/
theorem son_lt {l : List Nat} {E : Nat → Nat → Prop} (asc : Asc l) (p : PartsL n t l E) {c : List Nat} (hc : c ∈ clsL l E) : c.length < l.length ∧ Asc c ∧ Stg n t (· ∈ c) ∧ (∀ x ∈ c, x ∈ l) := by
  obtain ⟨x, hx, e⟩ := (mem_clsL asc (eqv_partsL p)).mp hc
  have mem : ∀ y, y ∈ c ↔ E x y := fun y => by
    rw [e, mem_clOf]
    exact ⟨fun h => h.2, fun h => ⟨(p.mem x y h).2, h⟩⟩
  have hstr : Stg n t (· ∈ c) := by
    have : (· ∈ c) = E x := funext fun y => propext (mem y)
    rw [this]
    exact p.str x hx
  have ha : Asc c := by rw [e]; exact asc_clOf asc x
  refine ⟨?_, ha, hstr, fun y hy => (p.mem x y ((mem y).mp hy)).2⟩
  obtain ⟨a, b, hA, hB, ne⟩ := p.two
  have : ∃ u, u ∈ l ∧ u ∉ c := by
    by_cases q : E x a
    · exact ⟨b, hB, fun z => ne (p.tr _ _ _ (p.sym _ _ q) ((mem b).mp z))⟩
    · exact ⟨a, hA, fun z => q ((mem a).mp z)⟩
  obtain ⟨u, hu, nu⟩ := this
  rw [e]
  unfold clOf
  exact List.length_filter_lt_length_iff_exists.mpr ⟨u, hu, by
    have : ¬ E x u := fun z => nu ((mem u).mpr z)
    simp [this]⟩
end
/-! tree_at: slots 0 table, 1 lot, 2 word, 3 looks, 4 sons, 5 son, 6 place; cells lot table; calls top_knot part tree_at -/
abbrev stree_at : Stmt := topS 19
theorem sctree_at : FnScope ["table", "lot", "word", "looks", "sons", "son", "place"] ["table", "lot"] (defScope stree_at) := ⟨rfl, rfl, rfl, by decide +kernel, rfl, by decide +kernel, by decide +kernel⟩
abbrev spTree (T : List (Addr × Str)) (L : Nat) : Sp := spD T (ι := WebI) (fun i => Wb i.t ∧ i.n ≤ 8 ∧ Asc i.l ∧ Stg i.n i.t (· ∈ i.l) ∧ i.l.length ≤ L) (fun i => [tabD i.n i.t, lotD i.l]) fun i d => TreeOf i.n i.t i.l d
section
variable {T : List (Addr × Str)} {P : Program} {w : World} {K : PySem.W.Frag} {mg : Str → Option Value} {base : Heap}
theorem cal_none {ι : Type} {x : Str} {st : Stmt} {f : Addr} {fd : FuncData} {ps : List Str} {k : Nat} {ok : ι → Prop} {args : ι → List PyData} {post : ι → PyData → Prop} (D : At' K mg x st ps f fd) (h : ∀ i, ¬ ok i) : Cal P w K mg base k x ps (spD T ok args post) f fd :=
  ⟨⟨fun _ _ _ _ ⟨i, _, q, _⟩ => absurd q (h i), fun _ _ _ _ _ _ _ _ _ _ _ _ _ ⟨i, _, q, _⟩ => absurd q (h i)⟩, D.m, D.F.kp, D.b⟩
theorem ok_tree_at {f f1 f2 : Addr} {fd fd1 fd2 : FuncData} (D : At' K mg "tree_at" stree_at ["table", "lot"] f fd) (Z : Zs mg) (C_top_knot : Cal P w K mg base 8 "top_knot" ["table"] (spTop T) f1 fd1) (C_part : Cal P w K mg base 1 "part" ["table", "lot"] (spPart T) f2 fd2) :
    ∀ L, Cal P w K mg base (9 + L) "tree_at" ["table", "lot"] (spTree T L) f fd
  | 0 => cal_none D fun i ⟨_, _, _, hs, h⟩ => by
    obtain ⟨x, hx⟩ := hs.2.1
    have := List.length_pos_of_mem hx
    omega
  | L + 1 => by
    have C_tree_at := ok_tree_at D Z C_top_knot C_part L
    refine cal_D (k := 9 + L) D sctree_at (fun _ => rfl) fun cdv A outer s H E hr => ⟨_,
      (pss_cons (ps_if (pt_cmpR op_eq (pe_callB (x_len (K := K) rfl) (by rfl) Z.len (by decide +kernel) (pa_cons (pv 1) pa_nil)) pe_int (nomark _))
      (pss_one (ps_ret (pe_ix (x_ix (K := K) rfl) (pv 1) pe_int (fun _ _ => rfl))))
      pss_nil)
    (pss_cons (ps_asg (pe_call C_top_knot.G (hr.mono (by omega)) (by rfl) C_top_knot.m C_top_knot.kp C_top_knot.b .nil pass0 (pa_cons (pe_call C_part.G (hr.mono (by omega)) (by rfl) C_part.m C_part.kp C_part.b .nil pass0 (pa_cons (pv 0) (pa_cons (pv 1) pa_nil))) pa_nil)) (xg_tup (K := K) (n := 3) rfl rfl (pgs_cons (pg_name (i := 2) sctree_at.nd rfl (.inl rfl)) (pgs_cons (pg_name (i := 3) sctree_at.nd rfl (.inl rfl)) (pgs_cons (pg_name (i := 4) sctree_at.nd rfl (.inl rfl)) pgs_nil)))))
    (pss_one (ps_ret (pe_tup (pa_cons (pv 2) (pa_cons (pv 3) (pa_cons (pe_callTy (x_tuple (K := K) rfl) (by rfl) Z.tuple (by decide +kernel) (pa_cons (pe_lc (own := [("son", 5)]) rfl sctree_at.nd (xi_seq (K := K) rfl (pv 4)) (blkOk_by (by kernel_rfl)) (fun _ _ _ _ _ => (pg_name (i := 5) sctree_at.nd rfl (by first | exact Or.inl rfl | exact Or.inr rfl))) (fun _ _ _ _ _ => pts_nil) (fun _ _ _ _ _ => (pe_call C_tree_at.G (hr.mono (by omega)) (by rfl) C_tree_at.m C_tree_at.kp C_tree_at.b .nil pass0 (pa_cons (pv 0) (pa_cons (pe_callTy (x_tuple (K := K) rfl) (by rfl) Z.tuple (by decide +kernel) (pa_cons (pe_lc (own := [("place", 6)]) rfl sctree_at.nd (xi_seq (K := K) rfl (pv 5)) (blkOk_by (by kernel_rfl)) (fun _ _ _ _ _ => (pg_name (i := 6) sctree_at.nd rfl (by first | exact Or.inl rfl | exact Or.inr rfl))) (fun _ _ _ _ _ => pts_nil) (fun _ _ _ _ _ => (pe_ix (x_ix (K := K) rfl) (pv 1) (pv 6) (fun _ _ => rfl)))) pa_nil)) pa_nil))))) pa_nil)) pa_nil)))))))),
      fun i ⟨w, hn, asc, hs, hL⟩ => ?_⟩
    obtain ⟨n, t, l, o, x, y⟩ := i
    simp only at w hn asc hs hL ⊢
    have hlt : ∀ x ∈ l, x < n := hs.1.1
    have l8 : l.length ≤ 8 := Nat.le_trans (lot_len asc.nodup hlt) hn
    have l0 : 0 < l.length := by
      obtain ⟨x, hx⟩ := hs.2.1
      exact List.length_pos_of_mem hx
    refine r_seq <| r_if <| t_test <| d_op <| d_callB <| a_v rfl <| a_nil <| rc_lenT <| d_int <| rd_eq ⟨_, rfl, fun e => ?_, fun e => r_next ?_⟩
    · have h1 : l.length = 1 := by simp at e; omega
      obtain ⟨x, rfl⟩ := List.length_eq_one_iff.mp h1
      exact r_ret <| d_op <| d_var rfl <| d_int <| rd_xT (k := 0) rfl (.one (hlt x (by simp)))
    · have h1 : 2 ≤ l.length := by simp at e; omega
      refine r_seq <| r_asgG (S := [2, 3, 4]) <| d_call <| a_cons <| d_call <| a_v rfl <| a_v rfl <| a_nil ⟨⟨n, t, l, 0, 0, 0⟩, ⟨hlt, l8⟩, rfl, fun d ed => a_nil ⟨⟨l.length, pt t l, [], false⟩, ⟨w.part l, h1, l8⟩, by rw [ed], fun d ⟨fm, E, looks, kp, lay, ed⟩ => ?_⟩⟩
      subst ed
      have kn := kn_up hs asc.nodup kp
      have qE := eqv_parts kp.parts
      have up := clsL_up asc qE
      refine g_tup rfl <| gs_cons <| g_name (by simp) <| gs_cons <| g_name (by simp) <| gs_cons <| g_name (by simp) <| gs_nil ?_
      refine r_ret <| d_tup <| a_v rfl <| a_v rfl <| a_cons <| d_callB <| a_cons <| d_ofF <| f_lc rfl <| i_seqL <| d_var rfl ⟨_, rfl, by rw [List.length_map]; exact Nat.le_trans (clsL_len _ _) (by simp; omega), fun k acc => TreesOf n t (((clsL (List.range l.length) E).take k).map fun c => c.map (at' l)) acc, .nil, fun k x acc hx ha => ?_, fun acc ha => ?_⟩
      · rw [List.getElem?_map] at hx
        cases hz : (clsL (List.range l.length) E)[k]? with
        | none => rw [hz] at hx; cases hx
        | some c =>
          rw [hz] at hx
          cases hx
          have hc : c.map (at' l) ∈ clsL l (Im l E) := by rw [up]; exact List.mem_map.mpr ⟨c, List.mem_of_getElem? hz, rfl⟩
          obtain ⟨s1, s2, s3, s4⟩ := son_lt asc kn.parts hc
          have hcl : ∀ p ∈ c, p < l.length := fun p hp => by
            obtain ⟨z, _, ez⟩ := (mem_clsL (asc_range _) qE).mp (List.mem_of_getElem? hz)
            rw [ez] at hp
            exact List.mem_range.mp (mem_clOf.mp hp).1
          refine g_name (by simp) fun O A σ H Q S ff => ff true H ⟨fun z => (nomatch z), fun _ => ?_⟩ Keep.refl S.inv
          refine d_call <| a_v rfl <| a_cons <| d_callB <| a_cons <| d_ofF <| f_mapA c nD (fun p => nD (at' l p)) rfl ?_ (i_seqT (d_var rfl ⟨_, rfl, rfl⟩)) (fun p hp => g_name (by simp) ?_) <| a_nil <| rc_tupOf <| a_nil ⟨⟨n, t, c.map (at' l), 0, 0, 0⟩, ⟨w, hn, s2, s3, by show (c.map (at' l)).length ≤ L; omega⟩, ?_, fun d hd => ?_⟩
          · rw [List.length_map] at s1
            omega
          · refine d_op <| d_var rfl <| d_var rfl <| rd_xT (k := p) ?_ rfl
            rw [List.getElem?_map, List.getElem?_eq_getElem (hcl p hp)]
            have e2 : at' l p = l[p]'(hcl p hp) := by
              unfold at'
              rw [List.getD_eq_getElem?_getD, List.getElem?_eq_getElem (hcl p hp)]
              rfl
            rw [e2]
            rfl
          · show [tabD n t, .tuple (c.map fun p => nD (at' l p))] = [tabD n t, lotD (c.map (at' l))]
            unfold lotD
            rw [List.map_map]
            rfl
          · dsimp only at ha ⊢
            rw [List.take_add_one, hz, List.map_append]
            exact ha.snoc hd
      · dsimp only at ha
        rw [List.length_map, List.take_length, ← up] at ha
        exact a_nil <| rc_tupOf <| a_nil ⟨by simp, .knot kn asc lay ha⟩
/-! tree_of: slots 0 table; cells ; calls tree_at -/
abbrev stree_of : Stmt := topS 20
theorem sctree_of : FnScope ["table"] ["table"] (defScope stree_of) := ⟨rfl, rfl, rfl, by decide +kernel, rfl, by decide +kernel, by decide +kernel⟩
abbrev spTreeOf (T : List (Addr × Str)) : Sp := spD T (ι := WebI) (fun i => Wb i.t ∧ 1 ≤ i.n ∧ i.n ≤ 8) (fun i => [tabD i.n i.t]) fun i d => TreeOf i.n i.t (List.range i.n) d
theorem ok_tree_of {f f1 : Addr} {fd fd1 : FuncData} (D : At' K mg "tree_of" stree_of ["table"] f fd) (Z : Zs mg) (C_tree_at : Cal P w K mg base 17 "tree_at" ["table", "lot"] (spTree T 8) f1 fd1) : Cal P w K mg base 18 "tree_of" ["table"] (spTreeOf T) f fd := by
  refine cal_D D sctree_of (fun _ => rfl) fun cdv A outer s H E hr => ⟨_,
    (pss_one (ps_ret (pe_ifExp (pt_cmpR op_eq (pe_ix (x_ix (K := K) rfl) (pv 0) pe_int (fun _ _ => rfl)) pe_int (nomark _)) (pe_tup pa_nil) (pe_call C_tree_at.G (hr.mono (by omega)) (by rfl) C_tree_at.m C_tree_at.kp C_tree_at.b .nil pass0 (pa_cons (pv 0) (pa_cons (pe_tupRg rfl (by rfl) Z.tuple (prg_1 (by rfl) Z.range (pe_ix (x_ix (K := K) rfl) (pv 0) pe_int (fun _ _ => rfl)))) pa_nil)))))),
    fun i ⟨w, h1, hn⟩ => ?_⟩
  obtain ⟨n, t, l, o, x, y⟩ := i
  simp only at w h1 hn ⊢
  refine r_ret <| d_if <| t_test <| d_op <| d_op <| d_var rfl <| d_int <| rd_xT (k := 0) rfl <| d_int <| rd_eq ⟨_, rfl, fun e => ?_, fun _ => d_call <| a_v rfl <| a_cons ?_⟩
  · simp at e
    omega
  · exact d_tupRg <| d_op <| d_var rfl <| d_int <| rd_xT (k := 0) rfl ⟨n, rfl, by omega, a_nil ⟨⟨n, t, List.range n, 0, 0, 0⟩, ⟨w, hn, asc_range n, by
      have e : (· ∈ List.range n) = fun x => x < n := funext fun x => propext List.mem_range
      show Stg n t (· ∈ List.range n)
      rw [e]
      exact str_all h1, by show (List.range n).length ≤ 8; rw [List.length_range]; exact hn⟩, rfl, fun d h => h⟩⟩
end
end K41
end
section
set_option linter.all false
set_option maxRecDepth 100000
/-! K41, the walks: lot_key, things_of, knots_below, knots. -/
namespace K41
open PySem PySem.Spec PyProof.Rows L2
open Classical
/-! lot_key: slots 0 lot; cells ; calls  -/
abbrev slot_key : Stmt := topS 22
theorem sclot_key : FnScope ["lot"] ["lot"] (defScope slot_key) := ⟨rfl, rfl, rfl, by decide +kernel, rfl, by decide +kernel, by decide +kernel⟩
abbrev spKey (T : List (Addr × Str)) : Sp := spD T (ι := List Nat) (fun _ => True) (fun l => [lotD l]) fun l d => d = keyLot (l.length : Nat) l
/-- what a tree is told of -/
structure TreeI where
  n : Nat
  t : Nat → Nat → Bool
  l : List Nat
  d : PyData
/-! things_of: slots 0 tree, 1 things, 2 son; cells ; calls things_of -/
abbrev sthings_of : Stmt := topS 24
theorem scthings_of : FnScope ["tree", "things", "son"] ["tree"] (defScope sthings_of) := ⟨rfl, rfl, rfl, by decide +kernel, rfl, by decide +kernel, by decide +kernel⟩
abbrev spThings (T : List (Addr × Str)) (L : Nat) : Sp := spD T (ι := TreeI) (fun i => TreeOf i.n i.t i.l i.d ∧ i.l ≠ [] ∧ i.l.length ≤ 8 ∧ i.l.length ≤ L) (fun i => [i.d]) fun i d => d = lotD i.l
/-- a knot of the tree -/
structure KR where
  l : List Nat
  fm : Bool
  E : Nat → Nat → Prop
  looks : PyData
  ds : List PyData
def KR.d (k : KR) : PyData := .tuple [wordD k.fm, k.looks, .tuple k.ds]
structure KR.Ok (n : Nat) (t : Nat → Nat → Bool) (k : KR) : Prop where
  kn : Kn n t k.l k.fm k.E
  asc : Asc k.l
  lay : k.looks.canLay0 = true
  h : TreesOf n t (clsL k.l k.E) k.ds
/-! knots_below: slots 0 tree, 1 found, 2 son; cells ; calls knots_below -/
abbrev sknots_below : Stmt := topS 23
theorem scknots_below : FnScope ["tree", "found", "son"] ["tree"] (defScope sknots_below) := ⟨rfl, rfl, rfl, by decide +kernel, rfl, by decide +kernel, by decide +kernel⟩
def Sep (ks : List KR) (x y : Nat) : Prop := ∃ k, k ∈ ks ∧ x ∈ k.l ∧ y ∈ k.l ∧ ¬ k.E x y
abbrev spBelow (T : List (Addr × Str)) (L : Nat) : Sp := spD T (ι := TreeI) (fun i => TreeOf i.n i.t i.l i.d ∧ i.l ≠ [] ∧ i.l.length ≤ 8 ∧ i.l.length ≤ L) (fun i => [i.d]) fun i d =>
  ∃ ks : List KR, d = .list (ks.map KR.d) ∧ (∀ k ∈ ks, k.Ok i.n i.t) ∧ ks.length + 1 ≤ i.l.length ∧ ∀ x y, x ∈ i.l → y ∈ i.l → x ≠ y → Sep ks x y
theorem flat_take (cs : List (List Nat)) (k : Nat) : (cs.take k).flatten.length ≤ cs.flatten.length := by
  have h := congrArg (fun l => (List.flatten l).length) (List.take_append_drop k cs)
  simp only [List.flatten_append, List.length_append] at h
  omega
theorem sum_len {cs : List (List Nat)} : (cs.map List.length).sum = cs.flatten.length := by rw [List.length_flatten]
section
variable {n : Nat} {t : Nat → Nat → Bool}
theorem trees_lay : ∀ (cs : List (List Nat)) (ds : List PyData), TreesOf n t cs ds → (∀ c d, c ∈ cs → TreeOf n t c d → d.canLay0 = true) → PyData.canLayAll0 ds = true
  | [], _, h, _ => by cases h; rfl
  | c :: cs, _, h, k => by
    cases h with
    | cons h1 h2 =>
      unfold PyData.canLayAll0
      rw [k c _ List.mem_cons_self h1, trees_lay cs _ h2 fun c' d hc => k c' d (List.mem_cons_of_mem _ hc)]
      rfl
theorem tree_lay : ∀ (L : Nat) (l : List Nat) (d : PyData), l.length ≤ L → TreeOf n t l d → d.canLay0 = true
  | L, _, _, hL, .one h => by simp [nD, PyData.canLay0]
  | 0, l, _, hL, .knot k asc lay h => by
    obtain ⟨x, hx⟩ := k.str.2.1
    have := List.length_pos_of_mem hx
    omega
  | L + 1, l, _, hL, .knot (fm := fm) k asc lay h => by
    have h2 := trees_lay _ _ h fun c d hc ht => tree_lay L c d (by have := (son_lt asc k.parts hc).1; omega) ht
    have h3 : (wordD fm).canLay0 = true := by cases fm <;> decide +kernel
    simp [PyData.canLay0, PyData.canLayAll0, h2, lay, h3]
end
section
variable {T : List (Addr × Str)} {P : Program} {w : World} {K : PySem.W.Frag} {mg : Str → Option Value} {base : Heap}
theorem ok_lot_key {f : Addr} {fd : FuncData} (D : At' K mg "lot_key" slot_key ["lot"] f fd) (Z : Zs mg) : Cal P w K mg base 1 "lot_key" ["lot"] (spKey T) f fd := by
  refine cal_D D sclot_key (fun _ => rfl) fun cdv A outer s H E hr => ⟨_,
    (pss_one (ps_ret (pe_tup (pa_cons (pe_callB (x_len (K := K) rfl) (by rfl) Z.len (by decide +kernel) (pa_cons (pv 0) pa_nil)) (pa_cons (pv 0) pa_nil))))),
    fun l _ => ?_⟩
  refine r_ret <| d_tup <| a_cons <| d_callB <| a_v rfl <| a_nil <| rc_lenT <| a_v rfl <| a_nil ⟨by simp, ?_⟩
  rw [List.length_map]
  rfl
theorem ok_things_of {f : Addr} {fd : FuncData} (D : At' K mg "things_of" sthings_of ["tree"] f fd) (Z : Zs mg) : ∀ L, Cal P w K mg base (1 + L) "things_of" ["tree"] (spThings T L) f fd
  | 0 => cal_none D fun i ⟨_, h, _, h0⟩ => h (List.eq_nil_of_length_eq_zero (by omega))
  | L + 1 => by
    have C_things_of := ok_things_of D Z L
    refine cal_D (k := 1 + L) D scthings_of (fun _ => rfl) fun cdv A outer s H E hr => ⟨_,
      (pss_cons (ps_if (pt_not (pt_val (pe_callB (x_isi (K := K) rfl) (by rfl) Z.isinstance (by decide +kernel) (pa_cons (pv 0) (pa_cons (pe_bltn (v := .ty "tuple") (u := .type "tuple") (by rfl) Z.tuple (by decide +kernel) rfl) pa_nil)))))
      (pss_one (ps_ret (pe_tup (pa_cons (pv 0) pa_nil))))
      pss_nil)
    (pss_cons (ps_set (i := 1) scthings_of.nd rfl (.inl rfl) (pe_lst pa_nil))
    (pss_cons (ps_for PassesOwn.never rfl (xi_seq (K := K) rfl (pe_ix (x_ix (K := K) rfl) (pv 0) pe_int (fun _ _ => rfl))) (pg_name (i := 2) scthings_of.nd rfl (.inl rfl))
      (pss_one (ps_expr (pe_bm PySem.F.plainAttrs_list PySem.F.slot_list_extend PySem.F.type_list_extend (x_extendT (K := K) rfl) (pv 1) (pa_cons (pe_call C_things_of.G (hr.mono (by omega)) (by rfl) C_things_of.m C_things_of.kp C_things_of.b .nil pass0 (pa_cons (pv 2) pa_nil)) pa_nil)))))
    (pss_one (ps_ret (pe_callTy (x_tuple (K := K) rfl) (by rfl) Z.tuple (by decide +kernel) (pa_cons (pe_callB (x_sorted (K := K) rfl (Room.u65 hr)) (by rfl) Z.sorted (by decide +kernel) (pa_cons (pv 1) pa_nil)) pa_nil))))))),
      fun i ⟨ht, hne, h8, hL⟩ => ?_⟩
    obtain ⟨n, t, l, d⟩ := i
    simp only at ht hne h8 hL ⊢
    cases ht with
    | one hx =>
      refine r_seq <| r_if <| t_not <| t_B <| d_isiT <| d_var rfl (.inr ⟨_, rfl, _, rfl, fun _ => r_ret <| d_tup <| a_v rfl <| a_nil ⟨by simp, rfl⟩, fun e => (nomatch e)⟩)
    | @knot _ fm E' looks ds kn asc lay hs =>
      have qE := eqv_partsL kn.parts
      have flat := clsL_flat asc qE
      have hdl := hs.len
      have cl8 : (clsL l E').length ≤ 8 := Nat.le_trans (clsL_len _ _) h8
      refine r_seq <| r_if <| t_not <| t_B <| d_isiT <| d_var rfl (.inl ⟨_, rfl, _, rfl, fun e => (nomatch e), fun _ => r_next ?_⟩)
      refine r_seq <| r_asgF (by simp [startE]) <| f_lst <| a_nil ⟨by simp, ?_⟩
      refine r_seq <| r_forA ds id (fun k Γ1 => ∃ c2, Γ1 = [some (.dat (.tuple [wordD fm, looks, .tuple ds])), some (.lst ((((clsL l E').take k).flatten).map nD)), c2])
        (i_seqT <| d_op <| d_var rfl <| d_int <| rd_xT (k := 2) rfl ⟨_, rfl, by simp⟩) ⟨_, rfl⟩ [2] (fun k d Γ1 hk ⟨c2, e⟩ => ?_) fun Γ1 ⟨c2, e⟩ => ?_
      · subst e
        obtain ⟨c, hc, htc⟩ := hs.get hk
        obtain ⟨s1, s2, s3, s4⟩ := son_lt asc kn.parts (List.mem_of_getElem? hc)
        have cne : c ≠ [] := clsL_ne asc qE (List.mem_of_getElem? hc)
        refine g_name (by simp) <| r_extT (j := 1) rfl <| d_call <| a_v rfl <| a_nil ⟨⟨n, t, c, d⟩, ⟨htc, cne, by show c.length ≤ 8; omega, by show c.length ≤ L; omega⟩, rfl, fun d' ed => ?_⟩
        subst ed
        refine ⟨_, rfl, ?_, some (.dat d), ?_⟩
        · rw [List.length_map, List.length_map]
          have h1 := flat_take (clsL l E') k
          have h2 := flat.length_eq
          show _ + c.length ≤ 1000
          omega
        · rw [List.take_add_one, hc]
          simp
      · subst e
        have e1 : (clsL l E').take ds.length = clsL l E' := by rw [hdl, List.take_length]
        rw [e1]
        refine r_freeze (j := 1) rfl <| r_ret <| d_callB <| a_cons <| d_ofF <| f_callB <| a_v rfl <| a_nil <| rcf_srt (l := (clsL l E').flatten) (.inl rfl) (by rw [flat.length_eq]; omega) <| a_nil <| rc_tupOf ?_
        rw [srt_eq asc (flat.nodup_iff.mpr asc.nodup) fun x => flat.mem_iff]
        rfl
theorem ok_knots_below {f : Addr} {fd : FuncData} (D : At' K mg "knots_below" sknots_below ["tree"] f fd) (Z : Zs mg) : ∀ L, Cal P w K mg base (1 + L) "knots_below" ["tree"] (spBelow T L) f fd
  | 0 => cal_none D fun i ⟨_, h, _, h0⟩ => h (List.eq_nil_of_length_eq_zero (by omega))
  | L + 1 => by
    have C_knots_below := ok_knots_below D Z L
    refine cal_D (k := 1 + L) D scknots_below (fun _ => rfl) fun cdv A outer s H E hr => ⟨_,
      (pss_cons (ps_if (PW.pt (pw_or (pt_not (pt_val (pe_callB (x_isi (K := K) rfl) (by rfl) Z.isinstance (by decide +kernel) (pa_cons (pv 0) (pa_cons (pe_bltn (v := .ty "tuple") (u := .type "tuple") (by rfl) Z.tuple (by decide +kernel) rfl) pa_nil))))) (pw_or1 (pt_cmpR (x_eqE (K := K) rfl hr.units) (pv 0) (pe_tup pa_nil) (nomark _)))))
      (pss_one (ps_ret (pe_lst pa_nil)))
      pss_nil)
    (pss_cons (ps_set (i := 1) scknots_below.nd rfl (.inl rfl) (pe_lst (pa_cons (pv 0) pa_nil)))
    (pss_cons (ps_for PassesOwn.never rfl (xi_seq (K := K) rfl (pe_ix (x_ix (K := K) rfl) (pv 0) pe_int (fun _ _ => rfl))) (pg_name (i := 2) scknots_below.nd rfl (.inl rfl))
      (pss_one (ps_set (i := 1) scknots_below.nd rfl (.inl rfl) (pe_op op_cat (pv 1) (pe_call C_knots_below.G (hr.mono (by omega)) (by rfl) C_knots_below.m C_knots_below.kp C_knots_below.b .nil pass0 (pa_cons (pv 2) pa_nil))))))
    (pss_one (ps_ret (pv 1)))))),
      fun i ⟨ht, hne, h8, hL⟩ => ?_⟩
    obtain ⟨n, t, l, d⟩ := i
    simp only at ht hne h8 hL ⊢
    have hlay := tree_lay 8 l d h8 ht
    cases ht with
    | @one x hx =>
      refine r_seq <| r_if <| t_or <| t_not <| t_B <| d_isiT <| d_var rfl (.inr ⟨_, rfl, _, rfl, fun _ => ⟨fun _ => r_ret <| d_ofF <| f_lst <| a_nil ⟨by simp, [], rfl, fun k h => (nomatch h), by simp, fun a b ha hb ne => ?_⟩, fun e => (nomatch e)⟩, fun e => (nomatch e)⟩)
      simp at ha hb
      exact absurd (ha.trans hb.symm) ne
    | @knot _ fm E' looks ds kn asc lay hs =>
      have qE := eqv_partsL kn.parts
      have flat := clsL_flat asc qE
      have hdl := hs.len
      have cl8 : (clsL l E').length ≤ 8 := Nat.le_trans (clsL_len _ _) h8
      let root : KR := ⟨l, fm, E', looks, ds⟩
      refine r_seq <| r_if <| t_or <| t_not <| t_B <| d_isiT <| d_var rfl (.inl ⟨_, rfl, _, rfl, fun e => (nomatch e), fun _ => t_test <| d_op <| d_var rfl <| d_tup <| a_nil ⟨by simp, rd_eqE hlay ⟨_, rfl, fun e => ?_, fun _ => r_next ?_⟩⟩⟩)
      · simp [PyData.eqv, PyData.eqvAll] at e
      refine r_seq <| r_asg <| d_ofF <| f_lst <| a_v rfl <| a_nil ⟨by simp, ?_⟩
      refine r_seq <| r_forA ds id (fun k Γ1 => ∃ c2, ∃ ks : List KR, Γ1 = [some (.dat (.tuple [wordD fm, looks, .tuple ds])), some (.dat (.list (ks.map KR.d))), c2] ∧ (∀ k ∈ ks, k.Ok n t) ∧ ks.length + k ≤ 1 + ((clsL l E').take k).flatten.length ∧ root ∈ ks ∧
          ∀ j c, j < k → (clsL l E')[j]? = some c → ∀ x y, x ∈ c → y ∈ c → x ≠ y → Sep ks x y)
        (i_seqT <| d_op <| d_var rfl <| d_int <| rd_xT (k := 2) rfl ⟨_, rfl, by simp⟩) ⟨_, [root], rfl, fun k hk => ?_, by simp, by simp, fun j c h => absurd h (Nat.not_lt_zero j)⟩ [2] (fun k d Γ1 hk ⟨c2, ks, e, hok, hlen, hroot, hsep⟩ => ?_) fun Γ1 ⟨c2, ks, e, hok, hlen, hroot, hsep⟩ => ?_
      · have ek : k = root := by simpa using hk
        subst ek
        exact ⟨kn, asc, lay, hs⟩
      · subst e
        obtain ⟨c, hc, htc⟩ := hs.get hk
        obtain ⟨s1, s2, s3, s4⟩ := son_lt asc kn.parts (List.mem_of_getElem? hc)
        have cne : c ≠ [] := clsL_ne asc qE (List.mem_of_getElem? hc)
        have hkl : k < ds.length := (List.getElem?_eq_some_iff.mp hk).1
        have h1 := flat_take (clsL l E') k
        have h2 := flat.length_eq
        refine g_name (by simp) <| r_asg <| d_op <| d_var rfl <| d_call <| a_v rfl <| a_nil ⟨⟨n, t, c, d⟩, ⟨htc, cne, by show c.length ≤ 8; omega, by show c.length ≤ L; omega⟩, rfl, fun d' ⟨ks', ed, hok', hlen', hsep'⟩ => ?_⟩
        subst ed
        have hlen2 : ks'.length + 1 ≤ c.length := hlen'
        refine rd_cat (by simp; omega) ⟨some (.dat d), ks ++ ks', by simp, fun k hk => (List.mem_append.mp hk).elim (hok k) (hok' k), ?_, List.mem_append.mpr (.inl hroot), fun j c' hj hc' x y hx hy ne => ?_⟩
        · rw [List.take_add_one, hc, List.flatten_append, List.length_append, List.length_append]
          have e3 : ((some c).toList : List (List Nat)).flatten = c := by simp
          rw [e3]
          omega
        · rcases Nat.lt_succ_iff_lt_or_eq.mp hj with h | h
          · obtain ⟨q, hq, r⟩ := hsep j c' h hc' x y hx hy ne
            exact ⟨q, List.mem_append.mpr (.inl hq), r⟩
          · subst h
            rw [hc] at hc'
            cases hc'
            obtain ⟨q, hq, r⟩ := hsep' x y hx hy ne
            exact ⟨q, List.mem_append.mpr (.inr hq), r⟩
      · subst e
        have e1 : (clsL l E').take ds.length = clsL l E' := by rw [hdl, List.take_length]
        rw [e1, flat.length_eq, hdl] at hlen
        rw [hdl] at hsep
        have two : 1 < (clsL l E').length := (clsL_two asc qE).mpr (by obtain ⟨a, b, h1, h2, h3⟩ := kn.parts.two; exact ⟨a, b, h1, h2, h3⟩)
        refine r_ret <| d_var rfl ⟨ks, rfl, hok, by omega, fun x y hx hy ne => ?_⟩
        by_cases hE : E' x y
        · obtain ⟨j, hj, ej⟩ := List.getElem_of_mem ((mem_clsL asc qE).mpr ⟨x, hx, rfl⟩)
          exact hsep j _ hj (by rw [List.getElem?_eq_getElem hj, ej]) x y (mem_clOf.mpr ⟨hx, qE.rfl' x hx⟩) (mem_clOf.mpr ⟨hy, hE⟩) ne
        · exact ⟨root, hroot, hx, hy, hE⟩
/-! knots: slots 0 table, 1 found, 2 knot, 3 son; cells ; calls knots_below tree_of things_of lot_key -/
abbrev sknots : Stmt := topS 25
theorem scknots : FnScope ["table", "found", "knot", "son"] ["table"] (defScope sknots) := ⟨rfl, rfl, rfl, by decide +kernel, rfl, by decide +kernel, by decide +kernel⟩
noncomputable def kD (k : KR) : PyData := .tuple [lotD k.l, wordD k.fm, k.looks, .tuple ((clsL k.l k.E).map lotD)]
abbrev spKnots (T : List (Addr × Str)) : Sp := spD T (ι := WebI) (fun i => Wb i.t ∧ 1 ≤ i.n ∧ i.n ≤ 8) (fun i => [tabD i.n i.t]) fun i d =>
  ∃ ks : List KR, d = .tuple (ks.map kD) ∧ (∀ k ∈ ks, k.Ok i.n i.t) ∧ ks.length ≤ 8 ∧ ks.Pairwise (fun a b => a.l.length ≤ b.l.length) ∧ ∀ x y, x < i.n → y < i.n → x ≠ y → Sep ks x y
theorem ok_knots {f f1 f2 f3 f4 : Addr} {fd fd1 fd2 fd3 fd4 : FuncData} (D : AtL T K mg base "knots" sknots ["table"] f fd) (Z : Zs mg) (C_tree_of : Cal P w K mg base 18 "tree_of" ["table"] (spTreeOf T) f1 fd1) (C_knots_below : Cal P w K mg base 9 "knots_below" ["tree"] (spBelow T 8) f2 fd2)
    (C_things_of : Cal P w K mg base 9 "things_of" ["tree"] (spThings T 8) f3 fd3) (C_lot_key : Cal P w K mg base 1 "lot_key" ["lot"] (spKey T) f4 fd4) : Cal P w K mg base 19 "knots" ["table"] (spKnots T) f fd := by
  refine cal_L D scknots (fun _ => rfl) fun c Pt TB hT hu A outer s H E hr => ⟨_,
    (pss_cons (ps_set (i := 1) scknots.nd rfl (.inl rfl) (pe_lst pa_nil))
    (pss_cons (ps_for PassesOwn.never rfl (xi_seq (K := K) rfl (pe_call C_knots_below.G (hr.mono (by omega)) (by rfl) C_knots_below.m C_knots_below.kp C_knots_below.b .nil pass0 (pa_cons (pe_call C_tree_of.G (hr.mono (by omega)) (by rfl) C_tree_of.m C_tree_of.kp C_tree_of.b .nil pass0 (pa_cons (pv 0) pa_nil)) pa_nil))) (pg_name (i := 2) scknots.nd rfl (.inl rfl))
      (pss_one (ps_expr (pe_bm PySem.F.plainAttrs_list PySem.F.slot_list_append PySem.F.type_list_append mt_append (pv 1) (pa_cons (pe_tup (pa_cons (pe_call C_things_of.G (hr.mono (by omega)) (by rfl) C_things_of.m C_things_of.kp C_things_of.b .nil pass0 (pa_cons (pv 2) pa_nil)) (pa_cons (pe_ix (x_ix (K := K) rfl) (pv 2) pe_int (fun _ _ => rfl)) (pa_cons (pe_ix (x_ix (K := K) rfl) (pv 2) pe_int (fun _ _ => rfl)) (pa_cons (pe_callTy (x_tuple (K := K) rfl) (by rfl) Z.tuple (by decide +kernel) (pa_cons (pe_lc (own := [("son", 3)]) rfl scknots.nd (xi_seq (K := K) rfl (pe_ix (x_ix (K := K) rfl) (pv 2) pe_int (fun _ _ => rfl))) (blkOk_by (by kernel_rfl)) (fun _ _ _ _ _ => (pg_name (i := 3) scknots.nd rfl (by first | exact Or.inl rfl | exact Or.inr rfl))) (fun _ _ _ _ _ => pts_nil) (fun _ _ _ _ _ => (pe_call C_things_of.G (hr.mono (by omega)) (by rfl) C_things_of.m C_things_of.kp C_things_of.b .nil pass0 (pa_cons (pv 3) pa_nil)))) pa_nil)) pa_nil))))) pa_nil)))))
    (pss_one (ps_ret (pe_callTy (x_tuple (K := K) rfl) (by rfl) Z.tuple (by decide +kernel) (pa_cons (pe_sortLam (T := T) (k := 1) (j := 2) (a := "knot") (by rfl) Z.sorted (pa_cons (pv 1) pa_nil) TB rfl hT hu (hr.mono (by omega)) (lamP_by (by kernel_rfl)) rfl scknots.nd rfl (fun _ _ _ _ _ => rfl) (fun _ _ _ _ hr => (pe_call C_lot_key.G (hr.mono (by omega)) (by rfl) C_lot_key.m C_lot_key.kp C_lot_key.b .nil pass0 (pa_cons (pe_ix (x_ix (K := K) rfl) (pv 2) pe_int (fun _ _ => rfl)) pa_nil)))) pa_nil)))))),
    fun i ⟨w, h1, hn⟩ => ?_⟩
  obtain ⟨n, t, l0, o, x, y⟩ := i
  simp only at w h1 hn ⊢
  refine r_seq <| r_asgF (by simp [startE]) <| f_lst <| a_nil ⟨by simp, ?_⟩
  have rne : List.range n ≠ [] := by
    intro e
    have := congrArg List.length e
    simp at this
    omega
  refine r_seq <| r_for <| (i_seqL <| d_call <| a_cons <| d_call <| a_v rfl <| a_nil ⟨⟨n, t, [], 0, 0, 0⟩, ⟨w, h1, hn⟩, rfl, fun d hd => a_nil ⟨⟨n, t, List.range n, d⟩, ⟨hd, rne, by show (List.range n).length ≤ 8; simpa using hn, by show (List.range n).length ≤ 8; simpa using hn⟩, rfl, fun d' ⟨ks, ed, hok, hlen, hsep⟩ => ⟨_, ed, ?_⟩⟩⟩)
  have ks8 : ks.length ≤ 8 := by
    have h2 : ks.length + 1 ≤ (List.range n).length := hlen
    rw [List.length_range] at h2
    omega
  refine ⟨fun k Γ1 => ∃ c2, Γ1 = [some (.dat (tabD n t)), some (.lst ((ks.take k).map kD)), c2, none] ∧ (c2 = none ∨ ∃ d, c2 = some (.dat d)), ⟨_, rfl, .inl rfl⟩, fun k d Γ1 hk ⟨c2, e, h2⟩ => ⟨[2], ?_⟩, fun Γ1 ⟨c2, e, h2⟩ => ?_⟩
  · subst e
    rw [List.getElem?_map] at hk
    cases hz : ks[k]? with
    | none => rw [hz] at hk; cases hk
    | some q =>
      rw [hz] at hk
      cases hk
      have qok := hok q (List.mem_of_getElem? hz)
      have qE := eqv_partsL qok.kn.parts
      have hlt : ∀ x ∈ q.l, x < n := qok.kn.str.1.1
      have q8 : q.l.length ≤ 8 := Nat.le_trans (lot_len qok.asc.nodup hlt) hn
      have qne : q.l ≠ [] := by
        obtain ⟨x, hx⟩ := qok.kn.str.2.1
        exact List.ne_nil_of_mem hx
      have cl8 : (clsL q.l q.E).length ≤ 8 := Nat.le_trans (clsL_len _ _) q8
      refine g_name (by simp) <| r_app (j := 1) rfl (by rw [List.length_map, List.length_take]; omega) <| d_tup <| a_cons <| d_call <| a_v rfl <| a_nil ⟨⟨n, t, q.l, q.d⟩, ⟨.knot qok.kn qok.asc qok.lay qok.h, qne, q8, q8⟩, rfl, fun d ed => ?_⟩
      subst ed
      refine a_cons <| d_op <| d_var rfl <| d_int <| rd_xT (k := 0) rfl <| a_cons <| d_op <| d_var rfl <| d_int <| rd_xT (k := 1) rfl <| a_cons <| d_callB <| a_cons <| d_ofF <| f_lc rfl <| (i_seqT <| d_op <| d_var rfl <| d_int <| rd_xT (k := 2) rfl ⟨_, rfl, by rw [qok.h.len]; omega, fun i acc => acc = ((clsL q.l q.E).take i).map lotD, rfl, fun i d acc hd ha => ?_, fun acc ha => ?_⟩)
      · obtain ⟨c, hc, htc⟩ := qok.h.get hd
        obtain ⟨s1, s2, s3, s4⟩ := son_lt qok.asc qok.kn.parts (List.mem_of_getElem? hc)
        refine g_name (by simp) fun O A σ H Q S ff => ff true H ⟨fun z => (nomatch z), fun _ => ?_⟩ Keep.refl S.inv
        refine d_call <| a_v rfl <| a_nil ⟨⟨n, t, c, d⟩, ⟨htc, clsL_ne qok.asc qE (List.mem_of_getElem? hc), by show c.length ≤ 8; omega, by show c.length ≤ 8; omega⟩, rfl, fun d' ed => ?_⟩
        dsimp only at ha ⊢
        rw [ha, ed, List.take_add_one, hc, List.map_append]
        rfl
      · dsimp only at ha
        rw [qok.h.len, List.take_length] at ha
        subst ha
        refine a_nil <| rc_tupOf <| a_nil ⟨by simp, some (.dat q.d), ?_, .inr ⟨_, rfl⟩⟩
        rw [List.take_add_one, hz, List.map_append]
        rfl
  · subst e
    rw [List.length_map, List.take_length]
    refine r_freeze (j := 1) rfl <| r_ret <| d_callB <| a_cons <| d_ofF <| f_sortLam ks kD (fun k => keyLot (k.l.length : Nat) k.l) rfl ?_ (a_v rfl (a_nil rfl)) (by omega) (PySem.W.AllAlike.of fun _ _ => alike_keyLot _ _ _ _) (PySem.W.Sortable.tuples fun l => ⟨_, _, rfl⟩) (fun k hk => depth_keyLot _ _) (fun k hk => ?_) ?_
    · rcases h2 with e | ⟨d, e⟩ <;> subst e <;> rfl
    · exact d_call <| a_cons <| d_op <| d_var rfl <| d_int <| rd_xT (k := 0) rfl <| a_nil ⟨k.l, trivial, rfl, fun d h => h⟩
    · have p := List.mergeSort_perm ks (PySem.W.dataLe false fun k : KR => keyLot (k.l.length : Nat) k.l)
      refine a_nil <| rc_tupOf ⟨_, rfl, fun k hk => hok k (p.mem_iff.mp hk), by rw [p.length_eq]; exact ks8, ?_, fun x y hx hy ne => ?_⟩
      · refine (sortK_pairwise (fun k : KR => keyLot (k.l.length : Nat) k.l) ks).imp fun h => ?_
        rcases keyLot_le h with z | ⟨z, _⟩ <;> omega
      · obtain ⟨q, hq, r⟩ := hsep x y (List.mem_range.mpr hx) (List.mem_range.mpr hy) ne
        exact ⟨q, p.mem_iff.mpr hq, r⟩
end
end K41
end
section
set_option linter.all false
set_option maxRecDepth 100000
/-! K41, the walks: class_knot. -/
namespace K41
open PySem PySem.Spec PyProof.Rows L2
open Classical
section
variable {T : List (Addr × Str)} {M : Am T} {Γ : Env'} {R : List PyData → Prop} {te : TE} {tt : TT} {wi : TI} {g : TG} {vs : List Nat} {α : Type}
theorem f_filterE (enc fn : α → PyData) (p : α → Bool) (hf : freeOf Γ vs = true) (h : EvI M wi Γ fun xs => ∃ l : List α, xs = l.map enc ∧ l.length ≤ 100000 ∧ (∀ a ∈ l, EvG M g vs (enc a) (wipeE Γ vs) fun Γ' => EvT M tt Γ' fun b => b = p a ∧ (b = true → EvD M te Γ' fun d => d = fn a)) ∧ R ((l.filter p).map fn)) :
    EvF M (tLc wi g tt te vs) Γ R := f_lc hf <| h.mono fun xs ⟨l, e, hl, hb, r⟩ => by
  subst e
  refine ⟨by rw [List.length_map]; exact hl, fun i acc => acc = ((l.take i).filter p).map fn, rfl, fun i x acc hx ha => ?_, fun acc ha => ?_⟩
  · rw [List.getElem?_map] at hx
    cases hz : l[i]? with
    | none => rw [hz] at hx; cases hx
    | some a =>
      rw [hz] at hx
      cases hx
      refine fun O A σ H v Q s hh f => hb a (List.mem_of_getElem? hz) O A σ H v Q s hh fun Γ' σ' q => f Γ' σ' (q.mono fun b ⟨eb, hb⟩ => ⟨fun e => ?_, fun e => (hb e).mono fun d hd => ?_⟩)
      · dsimp only at ha ⊢
        rw [ha, List.take_add_one, hz, List.filter_append]
        simp [← eb, e]
      · dsimp only at ha ⊢
        rw [ha, hd, List.take_add_one, hz, List.filter_append]
        simp [← eb, e]
  · dsimp only at ha
    rw [List.length_map, List.take_length] at ha
    rw [ha]
    exact r
end
/-! class_knot: slots 0 web, 1 arrow, 2 one, 3 two, 4 knot, 5 own, 6 son; cells one two; calls knots -/
abbrev sclass_knot : Stmt := topS 31
theorem scclass_knot : FnScope ["web", "arrow", "one", "two", "knot", "own", "son"] ["web", "arrow"] (defScope sclass_knot) := ⟨rfl, rfl, rfl, by decide +kernel, rfl, by decide +kernel, by decide +kernel⟩
def arwD (a : Arw) : PyData := .tuple [nD a.1, nD a.2]
noncomputable def toldD (l : List Nat) (fm : Bool) (E : Nat → Nat → Prop) (a : Arw) : PyData := .tuple [lotD l, wordD fm, .tuple ((if fm then clsL l E else (clsL l E).filter fun c => decide (a.1 ∈ c) || decide (a.2 ∈ c)).map lotD)]
structure WebA where
  n : Nat
  t : Nat → Nat → Bool
  a : Arw
abbrev spClass (T : List (Addr × Str)) : Sp := spD T (ι := WebA) (fun i => Wb i.t ∧ i.n ≤ 8 ∧ i.a.1 < i.n ∧ i.a.2 < i.n ∧ i.a.1 ≠ i.a.2) (fun i => [tabD i.n i.t, arwD i.a]) fun i d =>
  ∃ (l : List Nat) (fm : Bool) (E : Nat → Nat → Prop), Kn i.n i.t l fm E ∧ Asc l ∧ InK l E i.a ∧ d = toldD l fm E i.a
theorem nd_len {a b : List Nat} (ha : a.Nodup) (hb : b.Nodup) (h : ∀ x ∈ a, x ∈ b) : a.length ≤ b.length := by
  have p : a.Perm (b.filter fun x => decide (x ∈ a)) := (List.perm_ext_iff_of_nodup ha (hb.filter _)).mpr fun x => by
    simp only [List.mem_filter, decide_eq_true_eq]
    exact ⟨fun hx => ⟨h x hx, hx⟩, fun hx => hx.2⟩
  rw [p.length_eq]
  exact List.length_filter_le _ _
/-- the least knot that holds both parts them -/
theorem first_in {n : Nat} {t : Nat → Nat → Bool} {k0 k1 : KR} {x y : Nat} (h0 : k0.Ok n t) (h1 : k1.Ok n t) (hl : k0.l.length ≤ k1.l.length) (x0 : x ∈ k0.l) (y0 : y ∈ k0.l) (x1 : x ∈ k1.l) (y1 : y ∈ k1.l) (ne : ¬ k1.E x y) : ¬ k0.E x y := fun e => by
  have p0 := h0.kn.parts
  have sS := p0.str x x0
  have sub0 : ∀ z, k0.E x z → z ∈ k0.l := fun z hz => (p0.mem x z hz).2
  obtain ⟨u, hu, nu⟩ : ∃ u, u ∈ k0.l ∧ ¬ k0.E x u := by
    obtain ⟨a, b, ha, hb, hab⟩ := p0.two
    by_cases q : k0.E x a
    · exact ⟨b, hb, fun z => hab (p0.tr _ _ _ (p0.sym _ _ q) z)⟩
    · exact ⟨a, ha, q⟩
  have big : ¬ ∀ z, z ∈ k1.l → k0.E x z := fun h => by
    have nd : (u :: k1.l).Nodup := List.nodup_cons.mpr ⟨fun q => nu (h u q), h1.asc.nodup⟩
    have h2 := nd_len nd h0.asc.nodup fun z hz => (List.mem_cons.mp hz).elim (fun q => by rw [q]; exact hu) fun q => sub0 z (h z q)
    simp at h2
    omega
  rcases sS.2.2 _ h1.kn.str.1 ⟨x, p0.rfl' x x0, x1⟩ with h | h
  · by_cases q : ∃ v, v ∈ k1.l ∧ ¬ k0.E x v
    · exact ne (h1.kn.parts.ins _ sS h q x y (p0.rfl' x x0) e)
    · exact big fun z hz => Classical.byContradiction fun r => q ⟨z, hz, r⟩
  · exact big h
section
variable {T : List (Addr × Str)} {P : Program} {w : World} {K : PySem.W.Frag} {mg : Str → Option Value} {base : Heap}
theorem ok_class_knot {f f1 : Addr} {fd fd1 : FuncData} (D : At' K mg "class_knot" sclass_knot ["web", "arrow"] f fd) (Z : Zs mg) (C_knots : Cal P w K mg base 19 "knots" ["table"] (spKnots T) f1 fd1) :
    Cal P w K mg base 20 "class_knot" ["web", "arrow"] (spClass T) f fd := by
  refine cal_D D scclass_knot (fun _ => rfl) fun cdv A outer s H E hr => ⟨_,
    (pss_cons (ps_asg (pv 1) (xg_tup (K := K) (n := 2) rfl rfl (pgs_cons (pg_name (i := 2) scclass_knot.nd rfl (.inr rfl)) (pgs_cons (pg_name (i := 3) scclass_knot.nd rfl (.inr rfl)) pgs_nil))))
    (pss_cons (ps_set (i := 4) scclass_knot.nd rfl (.inl rfl) (pe_ix (x_ix (K := K) rfl) (pe_lc (own := [("own", 5)]) rfl scclass_knot.nd (xi_seq (K := K) rfl (pe_call C_knots.G (hr.mono (by omega)) (by rfl) C_knots.m C_knots.kp C_knots.b .nil pass0 (pa_cons (pv 0) pa_nil))) (blkOk_by (by kernel_rfl)) (fun _ _ _ _ _ => (pg_name (i := 5) scclass_knot.nd rfl (by first | exact Or.inl rfl | exact Or.inr rfl))) (fun _ _ _ _ _ => (pts_one (PW.pt (pw_and (pt_cmpR (x_in (K := K) rfl) (pv 2) (pe_ix (x_ix (K := K) rfl) (pv 5) pe_int (fun _ _ => rfl)) (by rfl)) (pw_and1 (pt_cmpR (x_in (K := K) rfl) (pv 3) (pe_ix (x_ix (K := K) rfl) (pv 5) pe_int (fun _ _ => rfl)) (by rfl))))))) (fun _ _ _ _ _ => (pv 5))) pe_int (fun _ _ => rfl)))
    (pss_cons (ps_if (pt_cmpR op_eq (pe_ix (x_ix (K := K) rfl) (pv 4) pe_int (fun _ _ => rfl)) pe_str (nomark _))
      (pss_one (ps_ret (pe_tup (pa_cons (pe_ix (x_ix (K := K) rfl) (pv 4) pe_int (fun _ _ => rfl)) (pa_cons pe_str (pa_cons (pe_callTy (x_tuple (K := K) rfl) (by rfl) Z.tuple (by decide +kernel) (pa_cons (pe_lc (own := [("son", 6)]) rfl scclass_knot.nd (xi_seq (K := K) rfl (pe_ix (x_ix (K := K) rfl) (pv 4) pe_int (fun _ _ => rfl))) (blkOk_by (by kernel_rfl)) (fun _ _ _ _ _ => (pg_name (i := 6) scclass_knot.nd rfl (by first | exact Or.inl rfl | exact Or.inr rfl))) (fun _ _ _ _ _ => (pts_one (PW.pt (pw_or (pt_cmpR (x_in (K := K) rfl) (pv 2) (pv 6) (by rfl)) (pw_or1 (pt_cmpR (x_in (K := K) rfl) (pv 3) (pv 6) (by rfl))))))) (fun _ _ _ _ _ => (pv 6))) pa_nil)) pa_nil))))))
      pss_nil)
    (pss_one (ps_ret (pe_tup (pa_cons (pe_ix (x_ix (K := K) rfl) (pv 4) pe_int (fun _ _ => rfl)) (pa_cons (pe_ix (x_ix (K := K) rfl) (pv 4) pe_int (fun _ _ => rfl)) (pa_cons (pe_ix (x_ix (K := K) rfl) (pv 4) pe_int (fun _ _ => rfl)) pa_nil))))))))),
    fun i ⟨w, hn, hx, hy, hne⟩ => ?_⟩
  obtain ⟨n, t, x, y⟩ := i
  simp only at w hn hx hy hne ⊢
  have h1 : 1 ≤ n := by omega
  refine r_seq <| r_asgG (S := [2, 3]) <| d_var rfl <| g_tup rfl <| gs_cons <| g_name (by simp) <| gs_cons <| g_name (by simp) <| gs_nil ?_
  refine r_seq <| r_asg <| d_op <| d_ofF <| f_filterE kD kD (fun k => decide (x ∈ k.l) && decide (y ∈ k.l)) rfl <| i_seqT <| d_call <| a_v rfl <| a_nil ⟨⟨n, t, [], 0, 0, 0⟩, ⟨w, h1, hn⟩, rfl, fun d ⟨ks, ed, hok, hl8, hpw, hsep⟩ => ⟨_, ed, ks, rfl, by omega, fun k hk => ?_, ?_⟩⟩
  · refine g_name (by simp) <| t_and <| t_test <| d_op <| d_var rfl <| d_op <| d_var rfl <| d_int <| rd_xT (k := 0) rfl <| rd_lot ⟨_, rfl, fun e => ⟨?_, fun e2 => (nomatch e2)⟩, fun e => t_test <| d_op <| d_var rfl <| d_op <| d_var rfl <| d_int <| rd_xT (k := 0) rfl <| rd_lot ⟨_, rfl, ?_, fun _ => d_var rfl rfl⟩⟩
    · have e' : decide (x ∈ k.l) = false := e
      rw [e']
      rfl
    · have e' : decide (x ∈ k.l) = true := e
      rw [e']
      rfl
  · obtain ⟨k1, hk1, a1, a2, a3⟩ := hsep x y hx hy hne
    have hm1 : k1 ∈ ks.filter fun k => decide (x ∈ k.l) && decide (y ∈ k.l) := List.mem_filter.mpr ⟨hk1, by simp [a1, a2]⟩
    obtain ⟨k0, rest, ef⟩ := List.exists_cons_of_ne_nil (List.ne_nil_of_mem hm1)
    have hm0 : k0 ∈ ks.filter fun k => decide (x ∈ k.l) && decide (y ∈ k.l) := by rw [ef]; exact List.mem_cons_self
    obtain ⟨hk0, hp0⟩ := List.mem_filter.mp hm0
    have b1 : x ∈ k0.l ∧ y ∈ k0.l := by simpa using hp0
    have hpw2 : (ks.filter fun k => decide (x ∈ k.l) && decide (y ∈ k.l)).Pairwise fun a b => a.l.length ≤ b.l.length := hpw.filter _
    have hle : k0.l.length ≤ k1.l.length := by
      rw [ef] at hpw2 hm1
      rcases List.mem_cons.mp hm1 with e | e
      · rw [e]; exact Nat.le_refl _
      · exact (List.pairwise_cons.mp hpw2).1 k1 e
    have n0 := first_in (hok k0 hk0) (hok k1 hk1) hle b1.1 b1.2 a1 a2 a3
    have ok0 := hok k0 hk0
    rw [ef]
    refine d_int <| rd_xL (k := 0) rfl ?_
    obtain ⟨l, fm, E', looks, ds⟩ := k0
    simp only at b1 n0
    cases fm with
    | false =>
      refine r_seq <| r_if <| t_test <| d_op <| d_op <| d_var rfl <| d_int <| rd_xT (k := 1) rfl <| d_str <| rd_eqS ⟨_, rfl, fun _ => ?_, fun e => ?_⟩
      · refine r_ret <| d_tup <| a_cons <| d_op <| d_var rfl <| d_int <| rd_xT (k := 0) rfl <| a_cons <| d_str <| a_cons <| d_callB <| a_cons <| d_ofF <| f_filterA (clsL l E') lotD lotD (fun c => decide (x ∈ c) || decide (y ∈ c)) rfl ?_ (i_seqT <| d_op <| d_var rfl <| d_int <| rd_xT (k := 3) rfl ⟨_, rfl, rfl⟩) (fun c hc => ?_) <| a_nil <| rc_tupOf <| a_nil ⟨by simp, l, false, E', ok0.kn, ok0.asc, ⟨b1.1, b1.2, n0⟩, rfl⟩
        · have h2 : l.length ≤ n := lot_len ok0.asc.nodup ok0.kn.str.1.1
          exact Nat.le_trans (clsL_len _ _) (by omega)
        · refine g_name (by simp) <| t_or <| t_test <| d_op <| d_var rfl <| d_var rfl <| rd_lot ⟨_, rfl, fun e => ⟨?_, fun _ => d_var rfl rfl⟩, fun e => t_test <| d_op <| d_var rfl <| d_var rfl <| rd_lot ⟨_, rfl, ?_, fun _ => d_var rfl rfl⟩⟩
          · have e' : decide (x ∈ c) = true := e
            rw [e']
            rfl
          · have e' : decide (x ∈ c) = false := e
            rw [e']
            rfl
      · exact absurd (show decide (("all" : Str) = ("all" : Str)) = false from e) (by decide +kernel)
    | true =>
      refine r_seq <| r_if <| t_test <| d_op <| d_op <| d_var rfl <| d_int <| rd_xT (k := 1) rfl <| d_str <| rd_eqS ⟨_, rfl, fun e => ?_, fun _ => r_next ?_⟩
      · exact absurd (show decide (("firm" : Str) = ("all" : Str)) = true from e) (by decide +kernel)
      · refine r_ret <| d_tup <| a_cons <| d_op <| d_var rfl <| d_int <| rd_xT (k := 0) rfl <| a_cons <| d_op <| d_var rfl <| d_int <| rd_xT (k := 1) rfl <| a_cons <| d_op <| d_var rfl <| d_int <| rd_xT (k := 3) rfl <| a_nil ⟨by simp, l, true, E', ok0.kn, ok0.asc, ⟨b1.1, b1.2, n0⟩, rfl⟩
end
end K41
end
section
set_option linter.all false
set_option maxRecDepth 100000
/-! K41, the walks: arrows by codes; _arrows, forced. -/
namespace K41
open PySem PySem.Spec PyProof.Rows L2
open Classical
/-! ### arrows by codes -/
def cod (a : Arw) : Nat := a.1 * 8 + a.2
def dec (c : Nat) : Arw := (c / 8, c % 8)
theorem dec_cod {a : Arw} (h : a.2 < 8) : dec (cod a) = a := by
  obtain ⟨x, y⟩ := a
  simp only [dec, cod] at h ⊢
  congr 1 <;> omega
theorem cod_dec (c : Nat) : cod (dec c) = c := by unfold cod dec; omega
def aD (c : Nat) : PyData := .tuple [nD (c / 8), nD (c % 8)]
def aI (c : Nat) : List Int := [((c / 8 : Nat) : Int), ((c % 8 : Nat) : Int)]
theorem aD_aI (c : Nat) : aD c = .tuple ((aI c).map .int) := rfl
theorem aI_inj {c d : Nat} (h : aI c = aI d) : c = d := by
  simp only [aI, List.cons.injEq, and_true] at h
  omega
theorem aD_of {x y : Nat} (h : y < 8) : (PyData.tuple [nD x, nD y]) = aD (x * 8 + y) := by
  unfold aD
  rw [show (x * 8 + y) / 8 = x by omega, show (x * 8 + y) % 8 = y by omega]
theorem sortD_arw (l : List Nat) : sortD (l.map aD) = (srt l).map aD := by
  unfold sortD srt
  refine (PySem.W.sort_maps aD fun a _ b _ => ?_).symm
  have e := PySem.W.dataLe_ii (β := Nat) (fun c => ((c / 8 : Nat) : Int)) (fun c => ((c % 8 : Nat) : Int))
  have e2 : PySem.W.dataLe false id (aD a) (aD b) = PySem.W.dataLe false (fun c : Nat => PyData.tuple [.int ((c / 8 : Nat) : Int), .int ((c % 8 : Nat) : Int)]) a b := rfl
  rw [e2, e]
  have h : ((((a / 8 : Nat) : Int) < ((b / 8 : Nat) : Int)) ∨ (((a / 8 : Nat) : Int) = ((b / 8 : Nat) : Int) ∧ ((a % 8 : Nat) : Int) ≤ ((b % 8 : Nat) : Int))) ↔ a ≤ b := by omega
  simp only [h]
theorem sortOk_arw {l : List Nat} (h : l.length ≤ 1000) : SortOk (l.map aD) where
  al := PySem.W.AllAlike.of fun _ _ => by simp [aD, nD, PySem.W.alike, PySem.W.alikeAll]
  so := PySem.W.Sortable.tuples fun c => ⟨_, _, rfl⟩
  no := fun d hd => by
    obtain ⟨n, _, rfl⟩ := List.mem_map.mp hd
    exact ⟨rfl, by simp [aD, nD, PyData.depth, PyData.depthAll]⟩
  le := by rw [List.length_map]; exact h
section
variable {T : List (Addr × Str)} {M : Am T} {K : PySem.W.Frag} {R : List PyData → Prop}
theorem rcf_srtA {l : List Nat} {c : PyData} (hc : c = .list (l.map aD) ∨ c = .tuple (l.map aD)) (h : l.length ≤ 1000) (p : R ((srt l).map aD)) : RCF M (rSortD K) [c] R := rcf_sort hc (sortOk_arw h) (by rw [sortD_arw]; exact p)
end
theorem numD_range (g : Nat → PyData) (n : Nat) : numD 0 ((List.range n).map g) = (List.range n).map fun y => .tuple [nD y, g y] := by
  apply List.ext_getElem?
  intro i
  rw [numD_get, List.getElem?_map, List.getElem?_map]
  by_cases h : i < n
  · rw [List.getElem?_range h, Nat.zero_add]
    rfl
  · rw [List.getElem?_eq_none (by rw [List.length_range]; omega)]
    rfl
theorem range_at {n k x : Nat} (h : (List.range n)[k]? = some x) : x = k ∧ k < n := by
  have h2 := List.getElem?_eq_some_iff.mp h
  exact ⟨by simpa using h2.2.symm, by simpa using h2.1⟩
theorem turn_mono {Iv : Env' → Prop} {P : Out → Prop} {o : Out} (h : Turn' Iv (fun _ => False) o) : Turn' Iv P o := by
  cases o with
  | nx Γ => exact h
  | ct Γ => exact h
  | bk Γ => exact False.elim h
  | rt d => exact False.elim h
  | rd k => exact False.elim h
/-- the arrows' codes, in order -/
noncomputable def AL (n : Nat) (t : Nat → Nat → Bool) : List Nat := (List.range 64).filter fun c => decide (Ar n t (dec c))
theorem asc_AL (n : Nat) (t : Nat → Nat → Bool) : Asc (AL n t) := (asc_range 64).filter _
theorem mem_AL {n : Nat} {t : Nat → Nat → Bool} (hn : n ≤ 8) {c : Nat} : c ∈ AL n t ↔ Ar n t (dec c) := by
  unfold AL
  rw [List.mem_filter, List.mem_range, decide_eq_true_eq]
  refine ⟨fun h => h.2, fun h => ⟨?_, h⟩⟩
  have := h.1
  simp only [dec] at this
  omega
theorem AL_len (n : Nat) (t : Nat → Nat → Bool) : (AL n t).length ≤ 64 := by
  have := List.length_filter_le (fun c => decide (Ar n t (dec c))) (List.range 64)
  rwa [List.length_range] at this
/-! _arrows: slots 0 web, 1 found, 2 one, 3 row, 4 two, 5 look; cells one; calls  -/
abbrev s_arrows : Stmt := topS 27
theorem sc_arrows : FnScope ["web", "found", "one", "row", "two", "look"] ["web"] (defScope s_arrows) := ⟨rfl, rfl, rfl, by decide +kernel, rfl, by decide +kernel, by decide +kernel⟩
abbrev spArrows (T : List (Addr × Str)) : Sp := spD T (ι := WebI) (fun i => Wb i.t ∧ i.n ≤ 8) (fun i => [tabD i.n i.t]) fun i d => d = .list ((AL i.n i.t).map aD)
/-! forced: slots 0 web, 1 arrow, 2 size, 3 rows, 4 one, 5 two, 6 found, 7 thing; cells ; calls  -/
abbrev sforced : Stmt := topS 28
theorem scforced : FnScope ["web", "arrow", "size", "rows", "one", "two", "found", "thing"] ["web", "arrow"] (defScope sforced) := ⟨rfl, rfl, rfl, by decide +kernel, rfl, by decide +kernel, by decide +kernel⟩
structure WebC where
  n : Nat
  t : Nat → Nat → Bool
  c : Nat
abbrev spForced (T : List (Addr × Str)) : Sp := spD T (ι := WebC) (fun i => i.n ≤ 8 ∧ (dec i.c).1 < i.n ∧ (dec i.c).2 < i.n) (fun i => [tabD i.n i.t, aD i.c]) fun i d => ∃ ps : List Nat, d = .tuple (ps.map aD) ∧ ps.length ≤ 16 ∧ ∀ b, b ∈ ps ↔ Fo i.n i.t (dec i.c) (dec b)
section
variable {T : List (Addr × Str)} {P : Program} {w : World} {K : PySem.W.Frag} {mg : Str → Option Value} {base : Heap}
theorem ok_arrows {f : Addr} {fd : FuncData} (D : At' K mg "_arrows" s_arrows ["web"] f fd) (Z : Zs mg) : Cal P w K mg base 1 "_arrows" ["web"] (spArrows T) f fd := by
  refine cal_D D sc_arrows (fun _ => rfl) fun cdv A outer s H E hr => ⟨_,
    (pss_cons (ps_set (i := 1) sc_arrows.nd rfl (.inl rfl) (pe_lst pa_nil))
    (pss_cons (ps_for PassesOwn.never rfl (xi_enum (K := K) rfl (by rfl) Z.enumerate (pa_cons (pe_ix (x_ix (K := K) rfl) (pv 0) pe_int (fun _ _ => rfl)) pa_nil)) (xg_tup (K := K) (n := 2) rfl rfl (pgs_cons (pg_name (i := 2) sc_arrows.nd rfl (.inr rfl)) (pgs_cons (pg_name (i := 3) sc_arrows.nd rfl (.inl rfl)) pgs_nil)))
      (pss_one (ps_set (i := 1) sc_arrows.nd rfl (.inl rfl) (pe_op op_cat (pv 1) (pe_lc (own := [("two", 4), ("look", 5)]) rfl sc_arrows.nd (xi_enum (K := K) rfl (by rfl) Z.enumerate (pa_cons (pv 3) pa_nil)) (blkOk_by (by kernel_rfl)) (fun _ _ _ _ _ => (xg_tup (K := K) (n := 2) rfl rfl (pgs_cons (pg_name (i := 4) sc_arrows.nd rfl (by first | exact Or.inl rfl | exact Or.inr rfl)) (pgs_cons (pg_name (i := 5) sc_arrows.nd rfl (by first | exact Or.inl rfl | exact Or.inr rfl)) pgs_nil)))) (fun _ _ _ _ _ => (pts_one (pt_cmpR op_eq (pv 5) pe_int (nomark _)))) (fun _ _ _ _ _ => (pe_tup (pa_cons (pv 2) (pa_cons (pv 4) pa_nil)))))))))
    (pss_one (ps_ret (pv 1))))),
    fun i ⟨w, hn⟩ => ?_⟩
  obtain ⟨n, t, l0, o, x, y⟩ := i
  simp only at w hn ⊢
  refine r_seq <| r_asg <| d_ofF <| f_lst <| a_nil ⟨by simp, ?_⟩
  have e0 : (AL n t).filter (fun c => decide (c < 8 * 0)) = [] := by
    rw [List.filter_eq_nil_iff]
    intro c _
    simp
  refine r_seq <| r_forA (List.range n) (fun x => .tuple [nD x, .tuple (rowL n t x)]) (fun k Γ1 => ∃ c2 c3, Γ1 = [some (.dat (tabD n t)), some (.dat (.list (((AL n t).filter fun c => decide (c < 8 * k)).map aD))), c2, c3, none, none])
    (i_enumT (a_cons <| d_op <| d_var rfl <| d_int <| rd_xT (k := 1) rfl <| a_nil ⟨rowsL n t, rfl, numD_range (fun x => .tuple (rowL n t x)) n⟩)) ⟨none, none, by rw [e0]; rfl⟩ [2, 3] (fun k x Γ1 hk ⟨c2, c3, e⟩ => ?_) fun Γ1 ⟨c2, c3, e⟩ => ?_
  · subst e
    obtain ⟨rfl, hx⟩ := range_at hk
    refine g_tup rfl <| gs_cons <| g_name (by simp) <| gs_cons <| g_name (by simp) <| gs_nil ?_
    refine r_asg <| d_op <| d_var rfl <| d_ofF <| f_filterA (List.range n) (fun y => .tuple [nD y, bD (t x y)]) (fun y => aD (x * 8 + y)) (fun y => t x y) rfl (by simp; omega) (i_enumT (a_v rfl (a_nil ⟨rowL n t x, rfl, numD_range (fun y => bD (t x y)) n⟩))) (fun y hy => ?_) ?_
    · have hyn := List.mem_range.mp hy
      refine g_tup rfl <| gs_cons <| g_name (by simp) <| gs_cons <| g_name (by simp) <| gs_nil <| t_test <| d_op <| d_var rfl <| d_int <| rd_eq ⟨_, rfl, bD_eq1 _, fun _ => d_tup <| a_v rfl <| a_v rfl <| a_nil ⟨by simp, aD_of (by omega)⟩⟩
    · have l1 : ((AL n t).filter fun c => decide (c < 8 * x)).length ≤ 64 := Nat.le_trans (List.length_filter_le _ _) (AL_len n t)
      have l2 : ((List.range n).filter fun y => t x y).length ≤ 8 := Nat.le_trans (List.length_filter_le _ _) (by rw [List.length_range]; exact hn)
      have key : ((AL n t).filter fun c => decide (c < 8 * x)) ++ ((List.range n).filter fun y => t x y).map (fun y => x * 8 + y) = (AL n t).filter fun c => decide (c < 8 * (x + 1)) := by
        refine asc_ext ?_ ((asc_AL n t).filter _) fun c => ?_
        · refine List.pairwise_append.mpr ⟨(asc_AL n t).filter _, List.pairwise_map.mpr (((asc_range n).filter _).imp fun h => by omega), fun a ha b hb => ?_⟩
          have h1 := of_decide_eq_true (List.mem_filter.mp ha).2
          obtain ⟨y, _, rfl⟩ := List.mem_map.mp hb
          omega
        · rw [List.mem_append, List.mem_filter, List.mem_filter, List.mem_map, decide_eq_true_eq, decide_eq_true_eq, mem_AL hn]
          constructor
          · rintro (⟨h1, h2⟩ | ⟨y, hy, rfl⟩)
            · exact ⟨h1, by omega⟩
            · obtain ⟨h1, h2⟩ := List.mem_filter.mp hy
              have h3 := List.mem_range.mp h1
              have e1 : dec (x * 8 + y) = (x, y) := dec_cod (a := (x, y)) (by show y < 8; omega)
              rw [e1]
              exact ⟨⟨hx, h3, h2⟩, by omega⟩
          · rintro ⟨h1, h2⟩
            by_cases q : c < 8 * x
            · exact .inl ⟨h1, q⟩
            · have e1 : c / 8 = x := by omega
              obtain ⟨a1, a2, a3⟩ := h1
              simp only [dec] at a1 a2 a3
              rw [e1] at a3
              exact .inr ⟨c % 8, List.mem_filter.mpr ⟨List.mem_range.mpr a2, a3⟩, by omega⟩
      refine rd_cat (by rw [List.length_map, List.length_map]; omega) ⟨some (.dat (nD x)), some (.dat (.tuple (rowL n t x))), ?_⟩
      rw [← key, List.map_append, List.map_map]
      rfl
  · subst e
    refine r_ret <| d_var rfl ?_
    rw [List.length_range]
    show PyData.list _ = _
    have : (AL n t).filter (fun c => decide (c < 8 * n)) = AL n t := List.filter_eq_self.mpr fun c hc => by
      have h := (mem_AL hn).mp hc
      have h1 := h.1
      simp only [dec] at h1
      simp
      omega
    rw [this]
theorem ok_forced {f : Addr} {fd : FuncData} (D : At' K mg "forced" sforced ["web", "arrow"] f fd) (Z : Zs mg) : Cal P w K mg base 1 "forced" ["web", "arrow"] (spForced T) f fd := by
  refine cal_D D scforced (fun _ => rfl) fun cdv A outer s H E hr => ⟨_,
    (pss_cons (ps_asg (pv 0) (xg_tup (K := K) (n := 2) rfl rfl (pgs_cons (pg_name (i := 2) scforced.nd rfl (.inl rfl)) (pgs_cons (pg_name (i := 3) scforced.nd rfl (.inl rfl)) pgs_nil))))
    (pss_cons (ps_asg (pv 1) (xg_tup (K := K) (n := 2) rfl rfl (pgs_cons (pg_name (i := 4) scforced.nd rfl (.inl rfl)) (pgs_cons (pg_name (i := 5) scforced.nd rfl (.inl rfl)) pgs_nil))))
    (pss_cons (ps_set (i := 6) scforced.nd rfl (.inl rfl) (pe_lst pa_nil))
    (pss_cons (ps_for PassesOwn.never rfl (pi_range1 (by rfl) Z.range (pa_cons (pv 2) pa_nil)) (pg_name (i := 7) scforced.nd rfl (.inl rfl))
      (pss_cons (ps_if (PW.pt (pw_and (pt_cmpR op_ne (pv 7) (pv 5) (nomark _)) (pw_and (pt_cmpR op_eq (pe_ix (x_ix (K := K) rfl) (pe_ix (x_ix (K := K) rfl) (pv 3) (pv 4) (fun _ _ => rfl)) (pv 7) (fun _ _ => rfl)) pe_int (nomark _)) (pw_and1 (pt_cmpR op_eq (pe_ix (x_ix (K := K) rfl) (pe_ix (x_ix (K := K) rfl) (pv 3) (pv 7) (fun _ _ => rfl)) (pv 5) (fun _ _ => rfl)) pe_int (nomark _))))))
        (pss_one (ps_expr (pe_bm PySem.F.plainAttrs_list PySem.F.slot_list_append PySem.F.type_list_append mt_append (pv 6) (pa_cons (pe_tup (pa_cons (pv 4) (pa_cons (pv 7) pa_nil))) pa_nil))))
        pss_nil)
      (pss_one (ps_if (PW.pt (pw_and (pt_cmpR op_ne (pv 7) (pv 4) (nomark _)) (pw_and (pt_cmpR op_eq (pe_ix (x_ix (K := K) rfl) (pe_ix (x_ix (K := K) rfl) (pv 3) (pv 5) (fun _ _ => rfl)) (pv 7) (fun _ _ => rfl)) pe_int (nomark _)) (pw_and1 (pt_cmpR op_eq (pe_ix (x_ix (K := K) rfl) (pe_ix (x_ix (K := K) rfl) (pv 3) (pv 7) (fun _ _ => rfl)) (pv 4) (fun _ _ => rfl)) pe_int (nomark _))))))
        (pss_one (ps_expr (pe_bm PySem.F.plainAttrs_list PySem.F.slot_list_append PySem.F.type_list_append mt_append (pv 6) (pa_cons (pe_tup (pa_cons (pv 7) (pa_cons (pv 5) pa_nil))) pa_nil))))
        pss_nil))))
    (pss_one (ps_ret (pe_callTy (x_tuple (K := K) rfl) (by rfl) Z.tuple (by decide +kernel) (pa_cons (pe_callB (x_sorted (K := K) rfl (Room.u65 hr)) (by rfl) Z.sorted (by decide +kernel) (pa_cons (pv 6) pa_nil)) pa_nil)))))))),
    fun i ⟨hn, ha1, ha2⟩ => ?_⟩
  obtain ⟨n, t, c⟩ := i
  simp only at hn ha1 ha2 ⊢
  let u := c / 8
  let v := c % 8
  have hu : u < n := ha1
  have hv : v < n := ha2
  have hv8 : v < 8 := by omega
  refine r_seq <| r_asgG (S := [2, 3]) <| d_var rfl <| g_tup rfl <| gs_cons <| g_name (by simp) <| gs_cons <| g_name (by simp) <| gs_nil ?_
  refine r_seq <| r_asgG (S := [4, 5]) <| d_var rfl <| g_tup rfl <| gs_cons <| g_name (by simp) <| gs_cons <| g_name (by simp) <| gs_nil ?_
  refine r_seq <| r_asgF (by simp [startE]) <| f_lst <| a_nil ⟨by simp, ?_⟩
  let good1 : Nat → Prop := fun z => z ≠ v ∧ t u z = true ∧ t z v = false
  let good2 : Nat → Prop := fun z => z ≠ u ∧ t v z = true ∧ t z u = false
  have hne : ∀ a b : Nat, (!decide ((a : Int) = (b : Int))) = decide (a ≠ b) := fun a b => by
    by_cases h : a = b
    · subst h; simp
    · have : ¬ (a : Int) = (b : Int) := by omega
      rw [decide_eq_false this, decide_eq_true h]
      rfl
  refine r_seq <| r_forA (List.range n) nD (fun k Γ1 => ∃ c7, ∃ ps : List Nat, Γ1 = [some (.dat (tabD n t)), some (.dat (aD c)), some (.dat (nD n)), some (.dat (rowsD n t)), some (.dat (nD u)), some (.dat (nD v)), some (.lst (ps.map aD)), c7] ∧ ps.length ≤ 2 * k ∧
      ∀ b, b ∈ ps ↔ ∃ z, z < k ∧ ((good1 z ∧ b = u * 8 + z) ∨ (good2 z ∧ b = z * 8 + v)))
    (i_range (by omega) (a_v rfl (a_nil rfl)) rfl) ⟨_, [], rfl, by simp, fun b => ⟨fun h => (nomatch h), fun ⟨z, h, _⟩ => absurd h (Nat.not_lt_zero z)⟩⟩ [7] (fun k z Γ1 hk ⟨c7, ps, e, hlen, hmem⟩ => ?_) fun Γ1 ⟨c7, ps, e, hlen, hmem⟩ => ?_
  · subst e
    obtain ⟨rfl, hz⟩ := range_at hk
    refine g_name (by simp) ?_
    -- the second test, from a list that the first has left
    have second : ∀ qs : List Nat, qs.length ≤ 2 * z + 1 → (∀ b, b ∈ qs ↔ (b ∈ ps ∨ (good1 z ∧ b = u * 8 + z))) →
        Run (Am0 T) (tIfS (tAnd (tTest (tOp rNe (tVar 7) (tVar 4))) (tAnd (tTest (tOp rEq (tOp (rIx K) (tOp (rIx K) (tVar 3) (tVar 5)) (tVar 7)) (tC (.int 1)))) (tTest (tOp rEq (tOp (rIx K) (tOp (rIx K) (tVar 3) (tVar 7)) (tVar 4)) (tC (.int 0))))))
          (tDrop (tBM K "list" rAppend (tVar 6) (tCons (tTup (tCons (tVar 7) (tCons (tVar 5) tNil))) tNil))) tNext)
          [some (.dat (tabD n t)), some (.dat (aD c)), some (.dat (nD n)), some (.dat (rowsD n t)), some (.dat (nD u)), some (.dat (nD v)), some (.lst (qs.map aD)), some (.dat (nD z))]
          (Turn' (fun Γ1 => ∃ c7, ∃ ps : List Nat, Γ1 = [some (.dat (tabD n t)), some (.dat (aD c)), some (.dat (nD n)), some (.dat (rowsD n t)), some (.dat (nD u)), some (.dat (nD v)), some (.lst (ps.map aD)), c7] ∧ ps.length ≤ 2 * (z + 1) ∧
            ∀ b, b ∈ ps ↔ ∃ y, y < z + 1 ∧ ((good1 y ∧ b = u * 8 + y) ∨ (good2 y ∧ b = y * 8 + v))) (fun _ => False)) := fun qs hq hm => by
      have old : (¬ good2 z) → ∀ b, b ∈ qs ↔ ∃ y, y < z + 1 ∧ ((good1 y ∧ b = u * 8 + y) ∨ (good2 y ∧ b = y * 8 + v)) := fun ng b => by
        rw [hm, hmem]
        constructor
        · rintro (⟨y, hy, h⟩ | h)
          · exact ⟨y, by omega, h⟩
          · exact ⟨z, by omega, .inl h⟩
        · rintro ⟨y, hy, h⟩
          by_cases q : y = z
          · subst q
            rcases h with h | h
            · exact .inr h
            · exact absurd h.1 ng
          · exact .inl ⟨y, by omega, h⟩
      refine r_if <| t_and <| t_test <| d_op <| d_var rfl <| d_var rfl <| rd_ne ⟨_, rfl, fun e => ⟨fun e2 => (nomatch e2), fun _ => r_next ⟨_, qs, rfl, by omega, old fun g => ?_⟩⟩, fun e1 => t_and <| t_test <| d_op <| d_look hv hz (d_var rfl rfl) (d_var rfl rfl) (d_var rfl rfl) <| d_int <| rd_eq ⟨_, rfl, fun e => ⟨fun e2 => (nomatch e2), fun _ => r_next ⟨_, qs, rfl, by omega, old fun g => ?_⟩⟩, fun e2 => t_test <| d_op <| d_look hz hu (d_var rfl rfl) (d_var rfl rfl) (d_var rfl rfl) <| d_int <| rd_eq ⟨_, rfl, fun e3 => ?_, fun e => r_next ⟨_, qs, rfl, by omega, old fun g => ?_⟩⟩⟩⟩
      · rw [hne] at e; exact of_decide_eq_false e g.1
      · rw [bD_eq1, g.2.1] at e; cases e
      · rw [hne] at e1
        rw [bD_eq1] at e2
        rw [bD_eq0] at e3
        have g : good2 z := ⟨of_decide_eq_true e1, e2, by simpa using e3⟩
        refine r_app (j := 6) rfl (by rw [List.length_map]; omega) <| d_tup <| a_v rfl <| a_v rfl <| a_nil ⟨by simp, some (.dat (nD z)), qs ++ [z * 8 + v], ?_, by simp; omega, fun b => ?_⟩
        · rw [List.map_append, aD_of hv8]
          rfl
        · rw [List.mem_append, List.mem_singleton, hm, hmem]
          constructor
          · rintro ((⟨y, hy, h⟩ | h) | h)
            · exact ⟨y, by omega, h⟩
            · exact ⟨z, by omega, .inl h⟩
            · exact ⟨z, by omega, .inr ⟨g, h⟩⟩
          · rintro ⟨y, hy, h⟩
            by_cases q : y = z
            · subst q
              rcases h with h | h
              · exact .inl (.inr h)
              · exact .inr h.2
            · exact .inl (.inl ⟨y, by omega, h⟩)
      · rw [bD_eq0, g.2.2] at e; cases e
    have same : (¬ good1 z) → ∀ b, b ∈ ps ↔ (b ∈ ps ∨ (good1 z ∧ b = u * 8 + z)) := fun ng b => ⟨.inl, fun h => h.elim id fun q => absurd q.1 ng⟩
    refine r_seq <| r_if <| t_and <| t_test <| d_op <| d_var rfl <| d_var rfl <| rd_ne ⟨_, rfl, fun e => ⟨fun e2 => (nomatch e2), fun _ => r_next ((second ps (by omega) (same fun g => ?_)).mono fun _ => turn_mono)⟩, fun e1 => t_and <| t_test <| d_op <| d_look hu hz (d_var rfl rfl) (d_var rfl rfl) (d_var rfl rfl) <| d_int <| rd_eq ⟨_, rfl, fun e => ⟨fun e2 => (nomatch e2), fun _ => r_next ((second ps (by omega) (same fun g => ?_)).mono fun _ => turn_mono)⟩, fun e2 => t_test <| d_op <| d_look hz hv (d_var rfl rfl) (d_var rfl rfl) (d_var rfl rfl) <| d_int <| rd_eq ⟨_, rfl, fun e3 => ?_, fun e => r_next ((second ps (by omega) (same fun g => ?_)).mono fun _ => turn_mono)⟩⟩⟩
    · rw [hne] at e; exact of_decide_eq_false e g.1
    · rw [bD_eq1, g.2.1] at e; cases e
    · rw [hne] at e1
      rw [bD_eq1] at e2
      rw [bD_eq0] at e3
      have g : good1 z := ⟨of_decide_eq_true e1, e2, by simpa using e3⟩
      refine r_app (j := 6) rfl (by rw [List.length_map]; omega) <| d_tup <| a_v rfl <| a_v rfl <| a_nil ⟨by simp, ?_⟩
      have h := (second (ps ++ [u * 8 + z]) (by simp; omega) fun b => by
        rw [List.mem_append, List.mem_singleton]
        exact ⟨fun h => h.elim .inl fun h => .inr ⟨g, h⟩, fun h => h.elim .inl fun h => .inr h.2⟩).mono fun _ => turn_mono (P := Seq' (Am0 T) (tRet (tCB (fun xs H Q => ∃ p ys, xs = [.ref p] ∧ ((SqL K H p ys ∧ ∀ l, H l = none → Q (.ref l) (upd H l (.tup ys))) ∨ (SqT K H p ys ∧ Q (.ref p) H))) (tCons (tCB (rSortD K) (tCons (tVar 6) tNil)) tNil))) (Fin' fun d => ∃ ps : List Nat, d = .tuple (ps.map aD) ∧ ps.length ≤ 16 ∧ ∀ b, b ∈ ps ↔ Fo n t (dec c) (dec b)))
      rw [List.map_append] at h
      have e5 : [u * 8 + z].map aD = [PyData.tuple [nD u, nD z]] := by rw [aD_of (by omega)]; rfl
      rw [e5] at h
      exact h
    · rw [bD_eq0, g.2.2] at e; cases e
  · subst e
    rw [List.length_range] at hlen hmem
    refine r_freeze (j := 6) rfl <| r_ret <| d_callB <| a_cons <| d_ofF <| f_callB <| a_v rfl <| a_nil <| rcf_srtA (l := ps) (.inl rfl) (by omega) <| a_nil <| rc_tupOf ⟨srt ps, rfl, by rw [srt_len]; omega, fun b => ?_⟩
    rw [srt_mem, hmem]
    constructor
    · rintro ⟨z, hz, ⟨g, rfl⟩ | ⟨g, rfl⟩⟩
      · have e1 : dec (u * 8 + z) = (u, z) := dec_cod (a := (u, z)) (by show z < 8; omega)
        rw [e1]
        exact .inl ⟨rfl, hz, g.1, g.2.1, g.2.2⟩
      · have e1 : dec (z * 8 + v) = (z, v) := dec_cod (a := (z, v)) hv8
        rw [e1]
        exact .inr ⟨rfl, hz, g.1, g.2.1, g.2.2⟩
    · rintro (⟨h1, h2, h3, h4, h5⟩ | ⟨h1, h2, h3, h4, h5⟩)
      · simp only [dec] at h1 h2 h3 h4 h5
        exact ⟨b % 8, h2, .inl ⟨⟨h3, h4, h5⟩, by show b = c / 8 * 8 + b % 8; omega⟩⟩
      · simp only [dec] at h1 h2 h3 h4 h5
        exact ⟨b / 8, h2, .inr ⟨⟨h3, h4, h5⟩, by show b = b / 8 * 8 + c % 8; omega⟩⟩
end
end K41
end
section
set_option linter.all false
set_option maxRecDepth 100000
/-! K41, the walks: _steps_from. -/
namespace K41
open PySem PySem.Spec PyProof.Rows L2
open Classical
/-! _steps_from: slots 0 web, 1 arrow, 2 steps, 3 row, 4 at, 5 own, 6 further; cells ; calls forced -/
abbrev s_steps_from : Stmt := topS 29
theorem sc_steps_from : FnScope ["web", "arrow", "steps", "row", "at", "own", "further"] ["web", "arrow"] (defScope s_steps_from) := ⟨rfl, rfl, rfl, by decide +kernel, rfl, by decide +kernel, by decide +kernel⟩
abbrev spSteps (T : List (Addr × Str)) : Sp := spDD T (ι := WebC) (fun i => Wb i.t ∧ i.n ≤ 8 ∧ Ar i.n i.t (dec i.c)) (fun i => [tabD i.n i.t, aD i.c]) fun i kvs =>
  ∃ cs : List Nat, kvs.map (·.1) = (cs.map aI).map kI ∧ cs.Nodup ∧ ∀ b, b ∈ cs ↔ Cl i.n i.t (dec i.c) (dec b)
/-- what is held while the steps are gathered -/
structure Gat (n : Nat) (t : Nat → Nat → Bool) (c : Nat) (cs : List Nat) (kvs : List (List Key × V)) (at' : Nat) : Prop where
  keys : kvs.map (·.1) = (cs.map aI).map kI
  nums : ∀ p ∈ kvs, ∃ z, p.2 = V.int z
  nd : cs.Nodup
  root : c ∈ cs
  reach : ∀ b ∈ cs, Cl n t (dec c) (dec b)
  done : ∀ j, j < at' → ∀ b, cs[j]? = some b → ∀ d, Fo n t (dec b) (dec d) → d ∈ cs
section
variable {n : Nat} {t : Nat → Nat → Bool} {c : Nat} {cs : List Nat} {kvs : List (List Key × V)} {a : Nat}
theorem Gat.mem (g : Gat n t c cs kvs a) {d : Nat} : kI (aI d) ∈ kvs.map (·.1) ↔ d ∈ cs := by
  rw [g.keys]
  constructor
  · intro h
    obtain ⟨u, hu, eu⟩ := List.mem_map.mp h
    obtain ⟨x, hx, ex⟩ := List.mem_map.mp hu
    rw [← ex] at eu
    rw [← aI_inj (kI_inj eu)]
    exact hx
  · exact fun h => List.mem_map.mpr ⟨_, List.mem_map.mpr ⟨_, h, rfl⟩, rfl⟩
theorem Gat.len (g : Gat n t c cs kvs a) (w : Wb t) (hn : n ≤ 8) (ha : Ar n t (dec c)) : cs.length ≤ 64 ∧ kvs.length = cs.length := by
  refine ⟨Nat.le_trans (nd_len g.nd (asc_AL n t).nodup fun x hx => (mem_AL hn).mpr (Cl.ar w (g.reach x hx) ha)) (AL_len n t), ?_⟩
  have := congrArg List.length g.keys
  simpa using this
end
section
variable {T : List (Addr × Str)} {P : Program} {w : World} {K : PySem.W.Frag} {mg : Str → Option Value} {base : Heap}
theorem ok_steps_from {f f1 : Addr} {fd fd1 : FuncData} (D : At' K mg "_steps_from" s_steps_from ["web", "arrow"] f fd) (Z : Zs mg) (C_forced : Cal P w K mg base 1 "forced" ["web", "arrow"] (spForced T) f1 fd1) :
    Cal P w K mg base 2 "_steps_from" ["web", "arrow"] (spSteps T) f fd := by
  refine ⟨fn_DD (k := 1) D.F sc_steps_from (fun _ => rfl) fun cdv A outer s H E hr => ⟨_,
    (pss_cons (ps_set (i := 2) sc_steps_from.nd rfl (.inl rfl) (pe_disp1 (hu_of hr) (pv 1) pe_int))
    (pss_cons (ps_set (i := 3) sc_steps_from.nd rfl (.inl rfl) (pe_lst (pa_cons (pv 1) pa_nil)))
    (pss_cons (ps_set (i := 4) sc_steps_from.nd rfl (.inl rfl) pe_int)
    (pss_cons (ps_while PassesOwn.never (pt_cmpR op_lt (pv 4) (pe_callB (x_len (K := K) rfl) (by rfl) Z.len (by decide +kernel) (pa_cons (pv 3) pa_nil)) (nomark _))
      (pss_cons (ps_set (i := 5) sc_steps_from.nd rfl (.inl rfl) (pe_ix (x_ix (K := K) rfl) (pv 3) (pv 4) (fun _ _ => rfl)))
      (pss_cons (ps_for PassesOwn.never rfl (xi_seq (K := K) rfl (pe_call C_forced.G (hr.mono (by omega)) (by rfl) C_forced.m C_forced.kp C_forced.b .nil pass0 (pa_cons (pv 0) (pa_cons (pv 5) pa_nil)))) (pg_name (i := 6) sc_steps_from.nd rfl (.inl rfl))
        (pss_one (ps_if (pt_cmp (pc_dnotin (hu_of hr) (pv 6) (pv 2)))
          (pss_cons (ps_dput (hu_of hr) (pv 2) (pv 6) (pe_op op_add (pe_dget (hu_of hr) (pv 2) (pv 5) (fun _ _ => rfl)) pe_int) rfl)
          (pss_one (ps_expr (pe_bm PySem.F.plainAttrs_list PySem.F.slot_list_append PySem.F.type_list_append mt_append (pv 3) (pa_cons (pv 6) pa_nil)))))
          pss_nil)))
      (pss_one (ps_set (i := 4) sc_steps_from.nd rfl (.inl rfl) (pe_op op_add (pv 4) pe_int))))))
    (pss_one (ps_ret (pv 2))))))),
    fun i ⟨w, hn, ha⟩ => ?_⟩, D.m, D.F.kp, D.b⟩
  obtain ⟨n, t, c⟩ := i
  simp only at w hn ha ⊢
  refine r_seq <| r_asgDisp (i := 1) (ns := aI c) (by simp [startE]) rfl ?_
  refine r_seq <| r_asgF (by simp [startE]) <| f_lst <| a_v rfl <| a_nil ⟨by simp, ?_⟩
  refine r_seq <| r_asg <| d_int ?_
  have g0 : Gat n t c [c] [(kI (aI c), .int 0)] 0 := ⟨rfl, fun p hp => ⟨0, by simp at hp; rw [hp]⟩, by simp, by simp, fun b hb => by simp at hb; rw [hb]; exact .refl, fun j h => absurd h (Nat.not_lt_zero j)⟩
  refine r_seq <| r_while (fun m Γ1 => ∃ cs kvs, ∃ a : Nat, ∃ c5 c6, Γ1 = [some (.dat (tabD n t)), some (.dat (aD c)), some (.dct kvs), some (.lst (cs.map aD)), some (.dat (nD a)), c5, c6] ∧ m + a = 65 ∧ a ≤ cs.length ∧ Gat n t c cs kvs a) ⟨65, [c], _, 0, _, _, rfl, rfl, by simp, g0⟩ fun m Γ1 ⟨cs, kvs, a, c5, c6, e, hm, hal, g⟩ => ?_
  subst e
  have glen := g.len w hn ha
  refine t_test <| d_op <| d_var rfl <| d_peek (j := 3) rfl <| d_callB <| a_v rfl <| a_nil <| rc_lenL ⟨trivial, rd_I0 (.bl _) ⟨_, rfl, fun e => ?_, fun e => ?_⟩⟩
  · have hlt : a < cs.length := by rw [List.length_map] at e; have := of_decide_eq_true e; omega
    have hb : cs[a]? = some cs[a] := List.getElem?_eq_getElem hlt
    generalize cs[a] = b at hb
    have hbm : b ∈ cs := List.mem_of_getElem? hb
    have hbr := g.reach b hbm
    have hba := Cl.ar w hbr ha
    refine r_seq <| r_asg <| d_xOwn (j := 3) rfl <| d_var rfl ⟨a, aD b, rfl, by rw [List.getElem?_map, hb]; rfl, ?_⟩
    refine r_seq <| r_for <| i_seqT <| d_call <| a_v rfl <| a_v rfl <| a_nil ⟨⟨n, t, b⟩, ⟨hn, hba.1, hba.2.1⟩, rfl, fun d ⟨ps, ed, hpl, hpm⟩ => ⟨_, ed, ?_⟩⟩
    refine ⟨fun j Γ2 => ∃ cs' kvs' c6, Γ2 = [some (.dat (tabD n t)), some (.dat (aD c)), some (.dct kvs'), some (.lst (cs'.map aD)), some (.dat (nD a)), some (.dat (aD b)), c6] ∧ (∃ ex, cs' = cs ++ ex) ∧ Gat n t c cs' kvs' a ∧ ∀ i, i < j → ∀ d, ps[i]? = some d → d ∈ cs',
      ⟨cs, kvs, _, rfl, ⟨[], by simp⟩, g, fun i h => absurd h (Nat.not_lt_zero i)⟩, fun j d Γ2 hd ⟨cs', kvs', c6', e2, ⟨ex, hex⟩, g', hj⟩ => ⟨[6], ?_⟩, fun Γ2 ⟨cs', kvs', c6', e2, ⟨ex, hex⟩, g', hj⟩ => ?_⟩
    · subst e2
      rw [List.getElem?_map] at hd
      cases hz : ps[j]? with
      | none => rw [hz] at hd; cases hd
      | some q =>
        rw [hz] at hd
        cases hd
        have hq := (hpm q).mp (List.mem_of_getElem? hz)
        have gl' := g'.len w hn ha
        have step : ∀ {cs2 : List Nat}, (∀ x ∈ cs', x ∈ cs2) → q ∈ cs2 → ∀ i, i < j + 1 → ∀ d, ps[i]? = some d → d ∈ cs2 := fun {cs2} hs hq2 i hi d hd => by
          rcases Nat.lt_succ_iff_lt_or_eq.mp hi with h | h
          · exact hs d (hj i h d hd)
          · subst h
            rw [hz] at hd
            cases hd
            exact hq2
        refine g_name (by simp) <| r_if <| t_test <| d_dnotin (j := 2) rfl <| d_var rfl ⟨aI q, rfl, _, rfl, fun e => ?_, fun e => ?_⟩
        · have hnone : valV kvs' (kI (aI q)) = none := by
            cases h : valV kvs' (kI (aI q)) with
            | none => rfl
            | some v => rw [h] at e; cases e
          have hnq : q ∉ cs' := fun z => valV_not hnone (g'.mem.mpr z)
          have hbk : kI (aI b) ∈ kvs'.map (·.1) := g'.mem.mpr (by rw [hex]; exact List.mem_append.mpr (.inl hbm))
          obtain ⟨z, hv⟩ : ∃ z, valV kvs' (kI (aI b)) = some (.int z) := by
            cases h : valV kvs' (kI (aI b)) with
            | none => exact absurd hbk (valV_not h)
            | some v =>
              unfold valV at h
              cases h2 : kvs'.find? fun kv => decide (kv.1 = kI (aI b)) with
              | none => rw [h2] at h; cases h
              | some p =>
                rw [h2] at h
                cases h
                obtain ⟨z, hz⟩ := g'.nums p (List.mem_of_find?_eq_some h2)
                exact ⟨z, congrArg some hz⟩
          refine r_seq <| r_dput (j := 2) rfl (by omega) <| d_op <| d_dget (j := 2) rfl <| d_var rfl ⟨aI b, .int z, .int z, rfl, hv, .int z, d_int <| rd_I0 (.int _) ⟨_, .int _, d_var rfl ⟨aI q, rfl, ?_⟩⟩⟩
          rw [putK_new _ hnone]
          refine r_app (j := 3) rfl (by rw [List.length_map]; omega) <| d_var rfl ⟨cs' ++ [q], _, some (.dat (aD q)), by rw [List.map_append]; rfl, ⟨ex ++ [q], by rw [hex, List.append_assoc]⟩, ⟨?_, ?_, ?_, ?_, ?_, ?_⟩, step (fun x hx => List.mem_append.mpr (.inl hx)) (by simp)⟩
          · rw [List.map_append, g'.keys]
            simp
          · intro p hp
            rcases List.mem_append.mp hp with h | h
            · exact g'.nums p h
            · simp at h
              exact ⟨_, by rw [h]⟩
          · rw [List.nodup_append]
            exact ⟨g'.nd, by simp, fun u hu v hv => by simp at hv; subst hv; exact fun e => hnq (e ▸ hu)⟩
          · exact List.mem_append.mpr (.inl g'.root)
          · intro u hu
            rcases List.mem_append.mp hu with h | h
            · exact g'.reach u h
            · simp at h
              subst h
              exact .step hbr hq
          · intro i hi u hu d hd
            have hil : i < cs'.length := by rw [hex, List.length_append]; omega
            rw [List.getElem?_append_left hil] at hu
            exact List.mem_append.mpr (.inl (g'.done i hi u hu d hd))
        · have hin : q ∈ cs' := by
            cases h : valV kvs' (kI (aI q)) with
            | none => rw [h] at e; cases e
            | some v => exact g'.mem.mp (valV_in h)
          exact r_next ⟨cs', kvs', _, rfl, ⟨ex, hex⟩, g', step (fun x hx => hx) hin⟩
    · subst e2
      rw [List.length_map] at hj
      refine r_asg <| d_op <| d_var rfl <| d_int <| rd_I0 (.int _) ⟨m - 1, by omega, cs', kvs', a + 1, _, _, rfl, by omega, by rw [hex, List.length_append]; omega, g'.keys, g'.nums, g'.nd, g'.root, g'.reach, fun i hi u hu d hd => ?_⟩
      rcases Nat.lt_succ_iff_lt_or_eq.mp hi with h | h
      · exact g'.done i h u hu d hd
      · subst h
        have : cs'[i]? = some b := by rw [hex, List.getElem?_append_left hlt]; exact hb
        rw [this] at hu
        cases hu
        obtain ⟨j, hj1, hj2⟩ := List.getElem_of_mem ((hpm d).mpr hd)
        exact hj j hj1 d (by rw [List.getElem?_eq_getElem hj1, hj2])
  · have hge : cs.length ≤ a := by rw [List.length_map] at e; have := of_decide_eq_false e; omega
    refine r_retD (j := 2) rfl ⟨cs, g.keys, g.nd, fun b => ⟨fun h => g.reach b h, fun h => ?_⟩⟩
    have go : (dec b).2 < 8 ∧ cod (dec b) ∈ cs := h.keep (P := fun x => x.2 < 8 ∧ cod x ∈ cs) (fun x y ⟨h1, h2⟩ r => by
      have hy : y.2 < 8 := by
        rcases r with ⟨_, q, _⟩ | ⟨q, _⟩
        · omega
        · omega
      refine ⟨hy, ?_⟩
      obtain ⟨j, hj1, hj2⟩ := List.getElem_of_mem h2
      refine g.done j (by omega) (cod x) (by rw [List.getElem?_eq_getElem hj1, hj2]) (cod y) ?_
      rw [dec_cod h1, dec_cod hy]
      exact r) ⟨by show c % 8 < 8; omega, by rw [cod_dec]; exact g.root⟩
    rw [cod_dec] at go
    exact go.2
end
end K41
end
section
set_option linter.all false
set_option maxRecDepth 100000
/-! K41, the walks: arrow_classes. -/
namespace K41
open PySem PySem.Spec PyProof.Rows L2
open Classical
/-! arrow_classes: slots 0 web, 1 found, 2 seen, 3 arrow, 4 lot, 5 own; cells ; calls _arrows _steps_from -/
abbrev sarrow_classes : Stmt := topS 30
theorem scarrow_classes : FnScope ["web", "found", "seen", "arrow", "lot", "own"] ["web"] (defScope sarrow_classes) := ⟨rfl, rfl, rfl, by decide +kernel, rfl, by decide +kernel, by decide +kernel⟩
/-- one class, by codes -/
def EA (n : Nat) (t : Nat → Nat → Bool) (c d : Nat) : Prop := Cl n t (dec c) (dec d)
theorem eqv_EA {n : Nat} {t : Nat → Nat → Bool} (w : Wb t) (hn : n ≤ 8) : Eqv (AL n t) (EA n t) :=
  ⟨fun _ _ => .refl, fun x y hx _ h => Cl.symm w h ((mem_AL hn).mp hx), fun _ _ _ _ _ _ h k => h.trans k⟩
noncomputable def clsA (n : Nat) (t : Nat → Nat → Bool) : List (List Nat) := clsL (AL n t) (EA n t)
def claD (c : List Nat) : PyData := .tuple (c.map aD)
abbrev spClasses (T : List (Addr × Str)) : Sp := spD T (ι := WebI) (fun i => Wb i.t ∧ i.n ≤ 8) (fun i => [tabD i.n i.t]) fun i d => d = .tuple ((clsA i.n i.t).map claD)
theorem keys_mem {us : List Nat} {kvs : List (List Key × V)} (h : kvs.map (·.1) = (us.map aI).map kI) {d : Nat} : kI (aI d) ∈ kvs.map (·.1) ↔ d ∈ us := by
  rw [h]
  constructor
  · intro h
    obtain ⟨u, hu, eu⟩ := List.mem_map.mp h
    obtain ⟨x, hx, ex⟩ := List.mem_map.mp hu
    rw [← ex] at eu
    rw [← aI_inj (kI_inj eu)]
    exact hx
  · exact fun h => List.mem_map.mpr ⟨_, List.mem_map.mpr ⟨_, h, rfl⟩, rfl⟩
section
variable {T : List (Addr × Str)} {P : Program} {w : World} {K : PySem.W.Frag} {mg : Str → Option Value} {base : Heap}
theorem ok_arrow_classes {f f1 f2 : Addr} {fd fd1 fd2 : FuncData} (D : At' K mg "arrow_classes" sarrow_classes ["web"] f fd) (Z : Zs mg) (C__arrows : Cal P w K mg base 1 "_arrows" ["web"] (spArrows T) f1 fd1) (C__steps_from : Cal P w K mg base 2 "_steps_from" ["web", "arrow"] (spSteps T) f2 fd2) :
    Cal P w K mg base 3 "arrow_classes" ["web"] (spClasses T) f fd := by
  refine cal_D D scarrow_classes (fun _ => rfl) fun cdv A outer s H E hr => ⟨_,
    (pss_cons (ps_par (i := 1) (j := 2) rfl scarrow_classes.nd rfl rfl (by decide) rfl rfl (pa_cons (pe_lst pa_nil) (pa_cons pe_dnewT pa_nil)) (by rfl))
    (pss_cons (ps_for PassesOwn.never rfl (xi_seq (K := K) rfl (pe_call C__arrows.G (hr.mono (by omega)) (by rfl) C__arrows.m C__arrows.kp C__arrows.b .nil pass0 (pa_cons (pv 0) pa_nil))) (pg_name (i := 3) scarrow_classes.nd rfl (.inl rfl))
      (pss_one (ps_if (pt_cmp (pc_dnotin (hu_of hr) (pv 3) (pv 2)))
        (pss_cons (ps_set (i := 4) scarrow_classes.nd rfl (.inl rfl) (pe_callTy (x_tuple (K := K) rfl) (by rfl) Z.tuple (by decide +kernel) (pa_cons (pe_callB (x_sorted (K := K) rfl (Room.u65 hr)) (by rfl) Z.sorted (by decide +kernel) (pa_cons (pe_callTy (call_list_dT rfl) (by rfl) Z.list (by decide +kernel) (pa_cons (pe_call C__steps_from.G (hr.mono (by omega)) (by rfl) C__steps_from.m C__steps_from.kp C__steps_from.b .nil pass0 (pa_cons (pv 0) (pa_cons (pv 3) pa_nil))) pa_nil)) pa_nil)) pa_nil)))
        (pss_cons (ps_for PassesOwn.never rfl (xi_seq (K := K) rfl (pv 4)) (pg_name (i := 5) scarrow_classes.nd rfl (.inl rfl))
          (pss_one (ps_dput (hu_of hr) (pv 2) (pv 5) pe_bl rfl)))
        (pss_one (ps_expr (pe_bm PySem.F.plainAttrs_list PySem.F.slot_list_append PySem.F.type_list_append mt_append (pv 1) (pa_cons (pv 4) pa_nil))))))
        pss_nil)))
    (pss_one (ps_ret (pe_callTy (x_tuple (K := K) rfl) (by rfl) Z.tuple (by decide +kernel) (pa_cons (pv 1) pa_nil)))))),
    fun i ⟨w, hn⟩ => ?_⟩
  obtain ⟨n, t, l0, o, x, y⟩ := i
  simp only at w hn ⊢
  have asc := asc_AL n t
  have qE := eqv_EA (n := n) w hn
  let L := AL n t
  have hL : L.length ≤ 64 := AL_len n t
  let cls : Nat → List Nat := clOf L (EA n t)
  refine r_seq <| r_parFD (by decide) (by simp [startE]) (by simp [startE]) ?_
  refine r_seq <| r_forA L aD (fun k Γ1 => ∃ c3 c4 c5 kvs, ∃ ls : List (List Nat), Γ1 = [some (.dat (tabD n t)), some (.lst (ls.map claD)), some (.dct kvs), c3, c4, c5] ∧ ls.length ≤ k ∧
      (∀ c, c ∈ ls ↔ ∃ j a, j < k ∧ L[j]? = some a ∧ c = cls a) ∧ Asc (ls.map (·.headD 0)) ∧ (∀ c ∈ ls, ∃ j, j < k ∧ L[j]? = some (c.headD 0)) ∧ ∃ us : List Nat, kvs.map (·.1) = (us.map aI).map kI ∧ us.Nodup ∧ ∀ b, b ∈ us ↔ ∃ c, c ∈ ls ∧ b ∈ c)
    (i_seqL <| d_call <| a_v rfl <| a_nil ⟨⟨n, t, [], 0, 0, 0⟩, ⟨w, hn⟩, rfl, fun d ed => ⟨_, ed, rfl⟩⟩) ⟨_, _, _, [], [], rfl, Nat.zero_le _, fun c => ⟨fun h => (nomatch h), fun ⟨j, _, h, _⟩ => absurd h (Nat.not_lt_zero j)⟩, List.Pairwise.nil, fun c h => (nomatch h), [], rfl, List.nodup_nil, fun a => ⟨fun h => (nomatch h), fun ⟨c, h, _⟩ => (nomatch h)⟩⟩ [3]
    (fun k a Γ1 hk ⟨c3, c4, c5, kvs, ls, e, hlen, hmem, hasc, hhd, us0, hu1, hu2, hu3⟩ => ?_) fun Γ1 ⟨c3, c4, c5, kvs, ls, e, hlen, hmem, hasc, hhd, us0, hu1, hu2, hu3⟩ => ?_
  · subst e
    have haL : a ∈ L := List.mem_of_getElem? hk
    have hkL : k < L.length := (List.getElem?_eq_some_iff.mp hk).1
    have har := (mem_AL hn).mp haL
    have hkeys : ∀ b, kI (aI b) ∈ kvs.map (·.1) ↔ ∃ c, c ∈ ls ∧ b ∈ c := fun b => (keys_mem hu1).trans (hu3 b)
    refine g_name (by simp) <| r_if <| t_test <| d_dnotin (j := 2) rfl <| d_var rfl ⟨aI a, rfl, _, rfl, fun e => ?_, fun e => ?_⟩
    · -- a new class
      have hnone : valV kvs (kI (aI a)) = none := by
        cases h : valV kvs (kI (aI a)) with
        | none => rfl
        | some v => rw [h] at e; cases e
      have hnot : ∀ c, c ∈ ls → a ∉ c := fun c hc hac => valV_not hnone ((hkeys a).mpr ⟨c, hc, hac⟩)
      have memc : ∀ b, b ∈ cls a ↔ EA n t a b := fun b => by
        show b ∈ clOf L (EA n t) a ↔ _
        rw [mem_clOf]
        exact ⟨fun h => h.2, fun h => ⟨(mem_AL hn).mpr (Cl.ar w h har), h⟩⟩
      have ascc : Asc (cls a) := asc_clOf asc a
      have clen : (cls a).length ≤ 64 := Nat.le_trans (nd_len ascc.nodup asc.nodup fun x hx => (mem_clOf.mp hx).1) hL
      have hhead : (cls a).headD 0 = a := by
        obtain ⟨m, hm, em, eh⟩ := head_ex asc qE haL
        obtain ⟨m1, m2⟩ := mem_hds.mp hm
        have ema : EA n t m a := qE.sym a m haL m1 em
        have hle := m2 a haL ema
        have : m = a := by
          rcases Nat.lt_or_eq_of_le hle with z | z
          · obtain ⟨i, hi, ei⟩ := List.getElem_of_mem m1
            have hik : i < k := by
              refine Classical.byContradiction fun q => ?_
              obtain ⟨hk1, hk2⟩ := List.getElem?_eq_some_iff.mp hk
              rcases Nat.lt_or_eq_of_le (Nat.le_of_not_lt q) with h | h
              · have := List.pairwise_iff_getElem.mp asc k i hk1 hi h
                rw [ei] at this
                have e9 : (AL n t)[k] = a := hk2
                omega
              · subst h
                have e9 : (AL n t)[k] = a := hk2
                omega
            refine absurd ?_ (hnot (cls m) ((hmem _).mpr ⟨i, m, hik, by rw [List.getElem?_eq_getElem hi, ei], rfl⟩))
            exact mem_clOf.mpr ⟨haL, ema⟩
          · exact z
        show (clOf L (EA n t) a).headD 0 = a
        rw [List.headD_eq_head?_getD, eh, this]
        rfl
      refine r_seq <| r_asg <| d_callB <| a_cons <| d_ofF <| f_callB <| a_cons <| d_ofF <| f_listDD <| a_v rfl <| a_v rfl <| a_nil ⟨⟨n, t, a⟩, ⟨w, hn, har⟩, rfl, fun kvs2 ⟨cs, hk2, hnd, hcs⟩ => ⟨cs.map aI, hk2, ?_⟩⟩
      have ecs : srt cs = cls a := srt_eq ascc hnd fun b => (hcs b).trans (memc b).symm
      have cslen : cs.length ≤ 64 := by
        have := congrArg List.length ecs
        rw [srt_len] at this
        omega
      have eel : ((cs.map aI).map fun ns => PyData.tuple (ns.map .int)) = cs.map aD := by rw [List.map_map]; rfl
      rw [eel]
      refine a_nil <| rcf_srtA (l := cs) (.inl rfl) (by omega) <| a_nil <| rc_tupOf ?_
      rw [ecs]
      show Run _ _ _ _
      refine r_seq <| r_forA (cls a) aD (fun j Γ2 => ∃ c5 kvs2, Γ2 = [some (.dat (tabD n t)), some (.lst (ls.map claD)), some (.dct kvs2), some (.dat (aD a)), some (.dat (claD (cls a))), c5] ∧
          ∃ us : List Nat, kvs2.map (·.1) = (us.map aI).map kI ∧ us.Nodup ∧ (∀ b, b ∈ us ↔ (∃ c, c ∈ ls ∧ b ∈ c) ∨ ∃ i, i < j ∧ (cls a)[i]? = some b))
        (i_seqT <| d_var rfl ⟨_, rfl, rfl⟩) ⟨c5, kvs, rfl, ?_⟩ [5] (fun j b Γ2 hj ⟨c5, kvs2, e2, us, hu1, hu2, hu3⟩ => ?_) fun Γ2 ⟨c5, kvs2, e2, us, hu1, hu2, hu3⟩ => ?_
      · exact ⟨us0, hu1, hu2, fun b => (hu3 b).trans ⟨.inl, fun h => h.elim id fun ⟨i, h, _⟩ => absurd h (Nat.not_lt_zero i)⟩⟩
      · subst e2
        have inL : ∀ x ∈ us, x ∈ L := fun x hx => by
          rcases (hu3 x).mp hx with ⟨c, hc, hxc⟩ | ⟨i, _, hi⟩
          · obtain ⟨_, a0, _, _, ec⟩ := (hmem c).mp hc
            rw [ec] at hxc
            exact (mem_clOf.mp hxc).1
          · exact (mem_clOf.mp (List.mem_of_getElem? hi)).1
        have ulen : us.length ≤ 64 := Nat.le_trans (nd_len hu2 asc.nodup inL) hL
        have klen : kvs2.length = us.length := by
          have := congrArg List.length hu1
          simpa using this
        have next : ∀ x, (x = b ∨ ((∃ c, c ∈ ls ∧ x ∈ c) ∨ ∃ i, i < j ∧ (cls a)[i]? = some x)) ↔ ((∃ c, c ∈ ls ∧ x ∈ c) ∨ ∃ i, i < j + 1 ∧ (cls a)[i]? = some x) := fun x => by
          constructor
          · rintro (h | h | ⟨i, h1, h2⟩)
            · exact .inr ⟨j, by omega, by rw [h]; exact hj⟩
            · exact .inl h
            · exact .inr ⟨i, by omega, h2⟩
          · rintro (h | ⟨i, h1, h2⟩)
            · exact .inr (.inl h)
            · rcases Nat.lt_succ_iff_lt_or_eq.mp h1 with h | h
              · exact .inr (.inr ⟨i, h, h2⟩)
              · subst h
                rw [hj] at h2
                cases h2
                exact .inl rfl
        have hk3 := putK_keys kvs2 (kI (aI b)) (.bl true)
        refine g_name (by simp) <| r_dput (j := 2) rfl (by omega) <| d_bl ⟨_, .bl true, d_var rfl ⟨aI b, rfl, _, _, rfl, ?_⟩⟩
        by_cases hb : b ∈ us
        · rw [if_pos ((keys_mem hu1).mpr hb), hu1] at hk3
          exact ⟨us, hk3, hu2, fun x => Iff.trans ⟨fun h => .inr ((hu3 x).mp h), fun h => h.elim (fun e => e ▸ hb) fun h => (hu3 x).mpr h⟩ (next x)⟩
        · rw [if_neg (fun z => hb ((keys_mem hu1).mp z)), hu1] at hk3
          refine ⟨us ++ [b], by rw [hk3]; simp, ?_, fun x => Iff.trans ?_ (next x)⟩
          · rw [List.nodup_append]
            exact ⟨hu2, by simp, fun u hu v hv => by simp at hv; subst hv; exact fun e => hb (e ▸ hu)⟩
          · rw [List.mem_append, List.mem_singleton]
            exact ⟨fun h => h.elim (fun h => .inr ((hu3 x).mp h)) .inl, fun h => h.elim .inr fun h => .inl ((hu3 x).mpr h)⟩
      · subst e2
        refine r_app (j := 1) rfl (by rw [List.length_map]; omega) <| d_var rfl ⟨_, _, _, kvs2, ls ++ [cls a], by rw [List.map_append]; rfl, by simp; omega, fun c => ?_, ?_, fun c hc => ?_, us, hu1, hu2, fun b => (hu3 b).trans ?_⟩
        · rw [List.mem_append, List.mem_singleton, hmem]
          constructor
          · rintro (⟨j, b, h1, h2, h3⟩ | h)
            · exact ⟨j, b, by omega, h2, h3⟩
            · exact ⟨k, a, by omega, hk, h⟩
          · rintro ⟨j, b, h1, h2, h3⟩
            rcases Nat.lt_succ_iff_lt_or_eq.mp h1 with h | h
            · exact .inl ⟨j, b, h, h2, h3⟩
            · subst h
              rw [hk] at h2
              cases h2
              exact .inr h3
        · rw [List.map_append]
          refine List.pairwise_append.mpr ⟨hasc, by simp, fun u hu v hv => ?_⟩
          obtain ⟨c, hc, rfl⟩ := List.mem_map.mp hu
          simp only [List.map_cons, List.map_nil, List.mem_singleton] at hv
          rw [hv, hhead]
          obtain ⟨i, hi, ei⟩ := hhd c hc
          obtain ⟨i1, i2⟩ := List.getElem?_eq_some_iff.mp ei
          obtain ⟨k1, k2⟩ := List.getElem?_eq_some_iff.mp hk
          have := List.pairwise_iff_getElem.mp asc i k i1 k1 hi
          have e8 : (AL n t)[i] = c.headD 0 := i2
          have e9 : (AL n t)[k] = a := k2
          omega
        · rcases List.mem_append.mp hc with h | h
          · obtain ⟨j, h1, h2⟩ := hhd c h
            exact ⟨j, by omega, h2⟩
          · rw [List.mem_singleton] at h
            exact ⟨k, by omega, by rw [h, hhead]; exact hk⟩
        · constructor
          · rintro (⟨c, hc, hb⟩ | ⟨i, _, hi⟩)
            · exact ⟨c, List.mem_append.mpr (.inl hc), hb⟩
            · exact ⟨cls a, List.mem_append.mpr (.inr (List.mem_singleton.mpr rfl)), List.mem_of_getElem? hi⟩
          · rintro ⟨c, hc, hb⟩
            rcases List.mem_append.mp hc with h | h
            · exact .inl ⟨c, h, hb⟩
            · rw [List.mem_singleton] at h
              rw [h] at hb
              obtain ⟨i, hi, ei⟩ := List.getElem_of_mem hb
              exact .inr ⟨i, hi, by rw [List.getElem?_eq_getElem hi, ei]⟩
    · have hin : ∃ c, c ∈ ls ∧ a ∈ c := by
        cases h : valV kvs (kI (aI a)) with
        | none => rw [h] at e; cases e
        | some v => exact (hkeys a).mp (valV_in h)
      obtain ⟨c, hc, hac⟩ := hin
      refine r_next ⟨_, c4, c5, kvs, ls, rfl, by omega, fun c' => (hmem c').trans ⟨fun ⟨j, b, h1, h2, h3⟩ => ⟨j, b, by omega, h2, h3⟩, fun ⟨j, b, h1, h2, h3⟩ => ?_⟩, hasc, fun c hc => let ⟨j, h1, h2⟩ := hhd c hc; ⟨j, by omega, h2⟩, us0, hu1, hu2, hu3⟩
      rcases Nat.lt_succ_iff_lt_or_eq.mp h1 with h | h
      · exact ⟨j, b, h, h2, h3⟩
      · subst h
        rw [hk] at h2
        cases h2
        obtain ⟨j0, b0, g1, g2, g3⟩ := (hmem c).mp hc
        refine ⟨j0, b0, g1, g2, ?_⟩
        rw [h3]
        rw [g3] at hac
        exact (clOf_eq qE (List.mem_of_getElem? g2) haL (mem_clOf.mp hac).2).symm
  · subst e
    refine r_freeze (j := 1) rfl <| r_ret <| d_callB <| a_v rfl <| a_nil <| rc_tupOf ?_
    have hmem' : ∀ c, c ∈ ls ↔ ∃ x, x ∈ L ∧ c = clOf L (EA n t) x := fun c => (hmem c).trans ⟨fun ⟨j, a, h1, h2, h3⟩ => ⟨a, List.mem_of_getElem? h2, h3⟩, fun ⟨x, hx, h3⟩ => by
      obtain ⟨j, hj, ej⟩ := List.getElem_of_mem hx
      exact ⟨j, x, hj, by rw [List.getElem?_eq_getElem hj, ej], h3⟩⟩
    show PyData.tuple (ls.map claD) = _
    rw [clsL_uniq asc qE hmem' hasc]
    rfl
end
end K41
end
section
set_option linter.all false
set_option maxRecDepth 100000
/-! K41, the walks: the law's masks: _law_near, _law_lot, _law_strong, _law_between, _law_contrary. -/
namespace K41
open PySem PySem.Spec PyProof.Rows L2
open Classical
/-! ### ints that are masks -/
theorem bAnd_nat (a b : Nat) : Builtin.bitAnd (a : Int) (b : Int) = ((a &&& b : Nat) : Int) := by
  unfold Builtin.bitAnd
  rw [decide_eq_true (Int.natCast_nonneg a), decide_eq_true (Int.natCast_nonneg b)]
  simp
theorem shr_nat (m k : Nat) : (m : Int) / 2 ^ ((k : Int)).toNat = ((m / 2 ^ k : Nat) : Int) := by simp
theorem bit_test (m k : Nat) : Builtin.bitAnd ((m : Int) / 2 ^ ((k : Int)).toNat) 1 = if m.testBit k then 1 else 0 := by
  rw [shr_nat, show (1 : Int) = ((1 : Nat) : Int) from rfl, bAnd_nat, Nat.and_one_is_mod, Nat.testBit_eq_decide_div_mod_eq]
  rcases Nat.mod_two_eq_zero_or_one (m / 2 ^ k) with h | h <;> simp [h]
theorem shl_nat (k : Nat) : (1 : Int) * 2 ^ ((k : Int)).toNat = ((2 ^ k : Nat) : Int) := by simp
theorem eq_one (b : Bool) : decide ((if b then (1 : Int) else 0) = 1) = b := by cases b <;> rfl
theorem eq_zero (b : Bool) : decide ((if b then (1 : Int) else 0) = 0) = !b := by cases b <;> rfl
def masksD (ms : List Nat) : PyData := .list (ms.map nD)
def nearD (n : Nat) (t : Nat → Nat → Bool) : PyData := .list ((List.range n).map fun x => nD (nr n t x))
theorem near_at {n : Nat} {t : Nat → Nat → Bool} {x : Nat} (h : x < n) : ((List.range n).map fun x => nD (nr n t x))[x]? = some (nD (nr n t x)) := by
  rw [List.getElem?_map, List.getElem?_range h]
  rfl
theorem eqv_nil (ds : List PyData) : PyData.eqv (.list ds) (.list []) = ds.isEmpty := by cases ds <;> simp [PyData.eqv, PyData.eqvAll]
theorem depthAll_le {ds : List PyData} {k : Nat} (h : ∀ d ∈ ds, d.depth ≤ k) : PyData.depthAll ds ≤ k := by
  induction ds with
  | nil => simp [PyData.depthAll]
  | cons d ds ih =>
    have h1 := h d List.mem_cons_self
    have h2 := ih fun e he => h e (List.mem_cons_of_mem _ he)
    simp [PyData.depthAll]
    omega
theorem shaped_list {ds : List PyData} (h1 : ∀ d ∈ ds, d.canLay0 = true) (h2 : ∀ d ∈ ds, d.depth ≤ 60) : SeqAt.shaped (.list ds) = true := by
  have a := lay_all h1
  have b := depthAll_le h2
  unfold SeqAt.shaped
  rw [Bool.and_eq_true]
  refine ⟨by simp [PyData.canLay0, a], decide_eq_true ?_⟩
  simp [PyData.depth]
  omega
theorem shaped_ones {α : Type} (l : List α) : SeqAt.shaped (.list (l.map fun _ => PyData.int 1)) = true := shaped_list (fun d hd => by
  obtain ⟨_, _, rfl⟩ := List.mem_map.mp hd
  simp [PyData.canLay0]) fun d hd => by
  obtain ⟨_, _, rfl⟩ := List.mem_map.mp hd
  simp [PyData.depth]
theorem shaped_nil : SeqAt.shaped (.list []) = true := shaped_list (fun d hd => (nomatch hd)) fun d hd => (nomatch hd)
section
variable {T : List (Addr × Str)} {M : Am T} {K : PySem.W.Frag} {Γ : Env'} {P : PyData → Prop} {te : TE}
theorem EvF.mono {R R' : List PyData → Prop} (h : EvF M te Γ R) (k : ∀ ds, R ds → R' ds) : EvF M te Γ R' := fun O A σ H Q S f => h O A σ H Q S fun p vs ds H' pp => f p vs ds H' (k ds pp)
/-- [1 for .. if ..] == [] -/
theorem d_noOnes {α : Type} (l : List α) (h : EvF M te Γ fun ds => ds = l.map fun _ => PyData.int 1) (p : P (.bool l.isEmpty)) : EvD M (tOp (rEqD K) te (tLst tNil)) Γ P :=
  d_op <| d_ofF <| h.mono fun ds e => by
    subst e
    exact d_ofF <| f_lst <| a_nil ⟨by simp, rd_eqD (shaped_ones l) shaped_nil (by rw [eqv_nil, List.isEmpty_map]; exact p)⟩
end
/-! _law_lot: slots 0 _law_mask, 1 _law_one; cells _law_mask; calls  -/
abbrev s_law_lot : Stmt := topS 40
theorem sc_law_lot : FnScope ["_law_mask", "_law_one"] ["_law_mask"] (defScope s_law_lot) := ⟨rfl, rfl, rfl, by decide +kernel, rfl, by decide +kernel, by decide +kernel⟩
abbrev spLot (T : List (Addr × Str)) : Sp := spD T (ι := Nat) (fun _ => True) (fun m => [nD m]) fun m d => d = lotD (lot m)
/-! _law_near: slots 0 _law_table, 1 _law_row, 2 _law_y, 3 _law_look; cells ; calls  -/
abbrev s_law_near : Stmt := topS 39
theorem sc_law_near : FnScope ["_law_table", "_law_row", "_law_y", "_law_look"] ["_law_table"] (defScope s_law_near) := ⟨rfl, rfl, rfl, by decide +kernel, rfl, by decide +kernel, by decide +kernel⟩
abbrev spNear (T : List (Addr × Str)) : Sp := spD T (ι := WebI) (fun i => i.n ≤ 8) (fun i => [tabD i.n i.t]) fun i d => d = nearD i.n i.t
/-! _law_strong: slots 0 _law_near_here, 1 _law_pieces, 2 _law_mask, 3 _law_own, 4 _law_z, 5 _law_other; cells _law_mask _law_pieces; calls  -/
abbrev s_law_strong : Stmt := topS 41
theorem sc_law_strong : FnScope ["_law_near_here", "_law_pieces", "_law_mask", "_law_own", "_law_z", "_law_other"] ["_law_near_here"] (defScope s_law_strong) := ⟨rfl, rfl, rfl, by decide +kernel, rfl, by decide +kernel, by decide +kernel⟩
abbrev spStrong (T : List (Addr × Str)) : Sp := spD T (ι := WebI) (fun i => i.n ≤ 8) (fun i => [nearD i.n i.t]) fun i d => d = masksD (strM i.n i.t)
section
variable {T : List (Addr × Str)} {P : Program} {w : World} {K : PySem.W.Frag} {mg : Str → Option Value} {base : Heap}
theorem ok_law_lot {f : Addr} {fd : FuncData} (D : At' K mg "_law_lot" s_law_lot ["_law_mask"] f fd) (Z : Zs mg) : Cal P w K mg base 1 "_law_lot" ["_law_mask"] (spLot T) f fd := by
  refine cal_D D sc_law_lot (fun _ => rfl) fun cdv A outer s H E hr => ⟨_,
    (pss_one (ps_ret (pe_callTy (x_tuple (K := K) rfl) (by rfl) Z.tuple (by decide +kernel) (pa_cons (pe_lc (own := [("_law_one", 1)]) rfl sc_law_lot.nd (pi_range1 (by rfl) Z.range (pa_cons pe_int pa_nil)) (blkOk_by (by kernel_rfl)) (fun _ _ _ _ _ => (pg_name (i := 1) sc_law_lot.nd rfl (by first | exact Or.inl rfl | exact Or.inr rfl))) (fun _ _ _ _ _ => (pts_one (pt_cmpR op_eq (pe_op op_and (pe_op op_shr (pv 0) (pv 1)) pe_int) pe_int (nomark _)))) (fun _ _ _ _ _ => (pv 1))) pa_nil)))),
    fun m _ => ?_⟩
  refine r_ret <| d_callB <| a_cons <| d_ofF <| f_filterA (List.range 8) nD nD (fun x => m.testBit x) rfl (by simp) (i_range (n := 8) (by decide) (a_cons <| d_int <| a_nil rfl) rfl) (fun x hx => g_name (by simp) ?_) <| a_nil <| rc_tupOf rfl
  refine t_test <| d_op <| d_op <| d_op <| d_var rfl <| d_var rfl <| rd_I (Int.natCast_nonneg _) (.int _) <| d_int <| rd_I0 (.int _) <| d_int <| rd_eq ⟨_, rfl, ?_, fun _ => d_var rfl rfl⟩
  rw [bit_test, eq_one]
theorem ok_law_near {f : Addr} {fd : FuncData} (D : At' K mg "_law_near" s_law_near ["_law_table"] f fd) (Z : Zs mg) : Cal P w K mg base 1 "_law_near" ["_law_table"] (spNear T) f fd := by
  refine cal_D D sc_law_near (fun _ => rfl) fun cdv A outer s H E hr => ⟨_,
    (pss_one (ps_ret (pe_lc (own := [("_law_row", 1)]) rfl sc_law_near.nd (xi_seq (K := K) rfl (pe_ix (x_ix (K := K) rfl) (pv 0) pe_int (fun _ _ => rfl))) (blkOk_by (by kernel_rfl)) (fun _ _ _ _ _ => (pg_name (i := 1) sc_law_near.nd rfl (by first | exact Or.inl rfl | exact Or.inr rfl))) (fun _ _ _ _ _ => pts_nil) (fun _ _ _ _ _ => (pe_callB (x_sum (K := K) rfl rfl) (by rfl) Z.sum (by decide +kernel) (pa_cons (pe_lc (own := [("_law_y", 2), ("_law_look", 3)]) rfl sc_law_near.nd (xi_enum (K := K) rfl (by rfl) Z.enumerate (pa_cons (pv 1) pa_nil)) (blkOk_by (by kernel_rfl)) (fun _ _ _ _ _ => (xg_tup (K := K) (n := 2) rfl rfl (pgs_cons (pg_name (i := 2) sc_law_near.nd rfl (by first | exact Or.inl rfl | exact Or.inr rfl)) (pgs_cons (pg_name (i := 3) sc_law_near.nd rfl (by first | exact Or.inl rfl | exact Or.inr rfl)) pgs_nil)))) (fun _ _ _ _ _ => (pts_one (pt_cmpR op_eq (pv 3) pe_int (nomark _)))) (fun _ _ _ _ _ => (pe_op op_shl pe_int (pv 2)))) pa_nil)))))),
    fun i hn => ?_⟩
  obtain ⟨n, t, l0, o, x, y⟩ := i
  simp only at hn ⊢
  refine r_ret <| d_ofF <| f_mapA (List.range n) (fun x => .tuple (rowL n t x)) (fun x => nD (nr n t x)) rfl (by simp; omega) (i_seqT <| d_op <| d_var rfl <| d_int <| rd_xT (k := 1) rfl ⟨_, rfl, rfl⟩) (fun x hx => g_name (by simp) ?_) rfl
  refine d_callB <| a_cons <| d_ofF <| f_filterA (List.range n) (fun y => .tuple [nD y, bD (t x y)]) (fun y => nD (2 ^ y)) (fun y => t x y) rfl (by simp; omega) (i_enumT (a_v rfl (a_nil ⟨rowL n t x, rfl, numD_range (fun y => bD (t x y)) n⟩))) (fun y hy => ?_) <| a_nil ?_
  · have hyn := List.mem_range.mp hy
    refine g_tup rfl <| gs_cons <| g_name (by simp) <| gs_cons <| g_name (by simp) <| gs_nil <| t_test <| d_op <| d_var rfl <| d_int <| rd_eq ⟨_, rfl, bD_eq1 _, fun _ => d_op <| d_int <| d_var rfl <| rd_I ⟨by omega, by omega, by decide⟩ (.int _) ?_⟩
    rw [shl_nat]
    rfl
  · have e : ((List.range n).filter fun y => t x y).map (fun y => nD (2 ^ y)) = (((List.range n).filter fun y => t x y).map fun y => ((2 ^ y : Nat) : Int)).map .int := by rw [List.map_map]; rfl
    rw [e]
    refine rc_sum ?_
    have e2 : ∀ l : List Nat, (l.map fun y => ((2 ^ y : Nat) : Int)).sum = ((msk l : Nat) : Int) := fun l => by
      induction l with
      | nil => rfl
      | cons y l ih =>
        rw [List.map_cons, List.sum_cons, ih]
        show ((2 ^ y : Nat) : Int) + _ = ((2 ^ y + msk l : Nat) : Int)
        omega
    rw [e2]
    rfl
theorem ok_law_strong {f : Addr} {fd : FuncData} (D : At' K mg "_law_strong" s_law_strong ["_law_near_here"] f fd) (Z : Zs mg) : Cal P w K mg base 1 "_law_strong" ["_law_near_here"] (spStrong T) f fd := by
  refine cal_D D sc_law_strong (fun _ => rfl) fun cdv A outer s H E hr => ⟨_,
    (pss_cons (ps_set (i := 1) sc_law_strong.nd rfl (.inr rfl) (pe_lst pa_nil))
    (pss_cons (ps_for PassesOwn.never rfl (pi_range2 (by rfl) Z.range (pa_cons pe_int (pa_cons (pe_op op_shl pe_int (pe_callB (x_len (K := K) rfl) (by rfl) Z.len (by decide +kernel) (pa_cons (pv 0) pa_nil))) pa_nil))) (pg_name (i := 2) sc_law_strong.nd rfl (.inr rfl))
      (pss_one (ps_if (pt_cmpR (x_eqD (K := K) rfl hr.units) (pe_lc (own := [("_law_z", 4), ("_law_own", 3)]) rfl sc_law_strong.nd (xi_enum (K := K) rfl (by rfl) Z.enumerate (pa_cons (pv 0) pa_nil)) (blkOk_by (by kernel_rfl)) (fun _ _ _ _ _ => (xg_tup (K := K) (n := 2) rfl rfl (pgs_cons (pg_name (i := 4) sc_law_strong.nd rfl (by first | exact Or.inl rfl | exact Or.inr rfl)) (pgs_cons (pg_name (i := 3) sc_law_strong.nd rfl (by first | exact Or.inl rfl | exact Or.inr rfl)) pgs_nil)))) (fun _ _ _ _ _ => (pts_one (PW.pt (pw_and (pt_cmpR op_eq (pe_op op_and (pe_op op_shr (pv 2) (pv 4)) pe_int) pe_int (nomark _)) (pw_and1 (pt_cmpR (x_notIn (K := K) rfl) (pe_op op_and (pv 3) (pv 2)) (pe_tup (pa_cons pe_int (pa_cons (pv 2) pa_nil))) (by rfl))))))) (fun _ _ _ _ _ => pe_int)) (pe_lst pa_nil) (nomark _))
        (pss_one (ps_expr (pe_bm PySem.F.plainAttrs_list PySem.F.slot_list_append PySem.F.type_list_append mt_append (pv 1) (pa_cons (pv 2) pa_nil))))
        pss_nil)))
    (pss_one (ps_ret (pe_lc (own := [("_law_own", 3)]) rfl sc_law_strong.nd (xi_seq (K := K) rfl (pv 1)) (blkOk_by (by kernel_rfl)) (fun _ _ _ _ _ => (pg_name (i := 3) sc_law_strong.nd rfl (by first | exact Or.inl rfl | exact Or.inr rfl))) (fun _ _ _ _ _ => (pts_one (pt_cmpR (x_eqD (K := K) rfl hr.units) (pe_lc (own := [("_law_other", 5)]) rfl sc_law_strong.nd (xi_seq (K := K) rfl (pv 1)) (blkOk_by (by kernel_rfl)) (fun _ _ _ _ _ => (pg_name (i := 5) sc_law_strong.nd rfl (by first | exact Or.inl rfl | exact Or.inr rfl))) (fun _ _ _ _ _ => (pts_one (pt_cmpR (x_notIn (K := K) rfl) (pe_op op_and (pv 3) (pv 5)) (pe_tup (pa_cons pe_int (pa_cons (pv 3) (pa_cons (pv 5) pa_nil)))) (by rfl)))) (fun _ _ _ _ _ => pe_int)) (pe_lst pa_nil) (nomark _)))) (fun _ _ _ _ _ => (pv 3))))))),
    fun i hn => ?_⟩
  obtain ⟨n, t, l0, o, x, y⟩ := i
  simp only at hn ⊢
  have p8 : 2 ^ n ≤ 256 := Nat.pow_le_pow_right (n := 2) (by omega) hn
  have p1 : 1 ≤ 2 ^ n := Nat.one_le_two_pow
  refine r_seq <| r_asgF (by simp [startE]) <| f_lst <| a_nil ⟨by simp, ?_⟩
  let all := (List.range (2 ^ n - 1)).map (· + 1)
  let good : Nat → Bool := fun m => decide (Mo n t (bits m))
  refine r_seq <| r_forA all nD (fun k Γ1 => ∃ c2, Γ1 = [some (.dat (nearD n t)), some (.lst (((all.take k).filter good).map nD)), c2, none, none, none])
    (i_range1n (n := 2 ^ n) (by omega) (a_cons <| d_int <| a_cons <| d_op <| d_int <| d_callB <| a_v rfl <| a_nil <| rc_lenL <| rd_I ?_ (.int _) <| a_nil ?_) rfl) ⟨_, rfl⟩ [2] (fun k m Γ1 hk ⟨c2, e⟩ => ?_) fun Γ1 ⟨c2, e⟩ => ?_
  · refine ⟨by omega, by simp; omega, by decide⟩
  · rw [List.length_map, List.length_range, shl_nat]
    rfl
  · subst e
    have hm : m < 2 ^ n := by
      obtain ⟨i, hi, rfl⟩ := List.mem_map.mp (List.mem_of_getElem? hk)
      have := List.mem_range.mp hi
      omega
    have hlen : ((all.take k).filter good).length < 1000 := by
      have h1 : ((all.take k).filter good).length ≤ (all.take k).length := List.length_filter_le _ _
      have h2 : (all.take k).length ≤ all.length := by rw [List.length_take]; omega
      have h3 : all.length = 2 ^ n - 1 := by show ((List.range (2 ^ n - 1)).map (· + 1)).length = _; simp
      omega
    have step : (all.take (k + 1)).filter good = (all.take k).filter good ++ (if good m then [m] else []) := by
      rw [List.take_add_one, hk, List.filter_append]
      cases q : good m <;> simp [q]
    let bad : Nat → Bool := fun z => (!m.testBit z) && !(decide (nr n t z &&& m = 0) || decide (nr n t z &&& m = m))
    have hgood : ((List.range n).filter bad).isEmpty = good m := by
      have h1 : ((List.range n).filter bad).isEmpty = true ↔ Mo n t (bits m) := by
        rw [List.isEmpty_iff, List.filter_eq_nil_iff, ← mo_bits hm]
        constructor
        · intro h z hz hb
          have := h z (List.mem_range.mpr hz)
          have hb' : m.testBit z = false := by
            cases q : m.testBit z with
            | false => rfl
            | true => exact absurd q hb
          simp only [bad, hb', Bool.not_false, Bool.true_and, Bool.not_eq_true', Bool.not_eq_false, Bool.or_eq_true, decide_eq_true_eq] at this
          exact this
        · intro h z hz hb
          simp only [bad, Bool.and_eq_true, Bool.not_eq_true', Bool.or_eq_false_iff, decide_eq_false_iff_not] at hb
          rcases h z (List.mem_range.mp hz) (fun q => by unfold bits at q; rw [hb.1] at q; cases q) with q | q
          · exact hb.2.1 q
          · exact hb.2.2 q
      by_cases q : Mo n t (bits m)
      · rw [h1.mpr q]
        exact (decide_eq_true q).symm
      · have : ((List.range n).filter bad).isEmpty = false := by
          cases r : ((List.range n).filter bad).isEmpty with
          | false => rfl
          | true => exact absurd (h1.mp r) q
        rw [this]
        exact (decide_eq_false q).symm
    refine g_name (by simp) <| r_if <| t_test <| d_noOnes ((List.range n).filter bad) (f_filterA (List.range n) (fun z => .tuple [nD z, nD (nr n t z)]) (fun _ => .int 1) bad rfl (by simp; omega) (i_enumL (a_v rfl (a_nil ⟨_, rfl, numD_range (fun z => nD (nr n t z)) n⟩))) (fun z hz => ?_) rfl) ⟨_, rfl, fun e => ?_, fun e => ?_⟩
    · refine g_tup rfl <| gs_cons <| g_name (by simp) <| gs_cons <| g_name (by simp) <| gs_nil <| t_and <| t_test <| d_op <| d_op <| d_op <| d_var rfl <| d_var rfl <| rd_I (Int.natCast_nonneg _) (.int _) <| d_int <| rd_I0 (.int _) <| d_int <| rd_eq ⟨_, rfl, fun e => ⟨?_, fun e2 => (nomatch e2)⟩, fun e => t_test <| d_op <| d_op <| d_var rfl <| d_var rfl <| rd_I0 (.int _) <| d_tup <| a_cons <| d_int <| a_v rfl <| a_nil ⟨by simp, rd_inT (ns := [0, (m : Int)]) ⟨_, rfl, ?_, fun _ => d_int rfl⟩⟩⟩
      · rw [bit_test, eq_zero] at e
        show false = ((!m.testBit z) && _)
        rw [e]
        rfl
      · rw [bit_test, eq_zero] at e
        show (!decide (Builtin.bitAnd ((nr n t z : Nat) : Int) (m : Int) ∈ [0, (m : Int)])) = ((!m.testBit z) && !(decide (nr n t z &&& m = 0) || decide (nr n t z &&& m = m)))
        rw [e, Bool.true_and, bAnd_nat]
        congr 1
        rw [← Bool.decide_or]
        refine decide_eq_decide.mpr ?_
        simp only [List.mem_cons, List.not_mem_nil, or_false]
        omega
    · rw [hgood] at e
      refine r_app (j := 1) rfl (by rw [List.length_map]; exact hlen) <| d_var rfl ⟨some (.dat (nD m)), ?_⟩
      rw [step, e, List.map_append]
      rfl
    · rw [hgood] at e
      refine r_next ⟨some (.dat (nD m)), ?_⟩
      rw [step, e]
      simp
  · subst e
    rw [List.take_length]
    have hp : all.filter good = pieces n t := rfl
    rw [hp]
    have plen : (pieces n t).length ≤ 256 := by
      have h1 : (pieces n t).length ≤ all.length := List.length_filter_le _ _
      have h3 : all.length = 2 ^ n - 1 := by show ((List.range (2 ^ n - 1)).map (· + 1)).length = _; simp
      omega
    refine r_freeze (j := 1) rfl <| r_ret <| d_ofF <| f_filterA (pieces n t) nD nD (fun m => decide (∀ o, o ∈ pieces n t → m &&& o = 0 ∨ m &&& o = m ∨ m &&& o = o)) rfl (by omega) (i_seqL <| d_var rfl ⟨_, rfl, rfl⟩) (fun m hm => g_name (by simp) ?_) rfl
    let bad : Nat → Bool := fun o => !(decide (m &&& o = 0) || (decide (m &&& o = m) || decide (m &&& o = o)))
    refine t_test <| d_noOnes ((pieces n t).filter bad) (f_filterA (pieces n t) nD (fun _ => .int 1) bad rfl (by omega) (i_seqL <| d_var rfl ⟨_, rfl, rfl⟩) (fun o ho => g_name (by simp) ?_) rfl) ⟨_, rfl, ?_, fun _ => d_var rfl rfl⟩
    · refine t_test <| d_op <| d_op <| d_var rfl <| d_var rfl <| rd_I0 (.int _) <| d_tup <| a_cons <| d_int <| a_v rfl <| a_v rfl <| a_nil ⟨by simp, rd_inT (ns := [0, (m : Int), (o : Int)]) ⟨_, rfl, ?_, fun _ => d_int rfl⟩⟩
      show (!decide (Builtin.bitAnd (m : Int) (o : Int) ∈ [0, (m : Int), (o : Int)])) = !(decide (m &&& o = 0) || (decide (m &&& o = m) || decide (m &&& o = o)))
      rw [bAnd_nat]
      congr 1
      rw [← Bool.decide_or, ← Bool.decide_or]
      refine decide_eq_decide.mpr ?_
      simp only [List.mem_cons, List.not_mem_nil, or_false]
      omega
    · have h1 : ((pieces n t).filter bad).isEmpty = true ↔ ∀ o, o ∈ pieces n t → m &&& o = 0 ∨ m &&& o = m ∨ m &&& o = o := by
        rw [List.isEmpty_iff, List.filter_eq_nil_iff]
        refine forall_congr' fun o => forall_congr' fun _ => ?_
        simp only [bad, Bool.not_eq_true', Bool.not_eq_false, Bool.or_eq_true, decide_eq_true_eq]
      by_cases q : ∀ o, o ∈ pieces n t → m &&& o = 0 ∨ m &&& o = m ∨ m &&& o = o
      · rw [h1.mpr q, decide_eq_true q]
      · rw [decide_eq_false q]
        cases r : ((pieces n t).filter bad).isEmpty with
        | false => rfl
        | true => exact absurd (h1.mp r) q
end
end K41
end
section
set_option linter.all false
set_option maxRecDepth 100000
/-! K41, the walks: _law_between, _law_contrary, _law_sons. -/
namespace K41
open PySem PySem.Spec PyProof.Rows L2
open Classical
/-! _law_between: slots 0 _law_near_here, 1 _law_one, 2 _law_other, 3 _law_found, 4 _law_x, 5 _law_y; cells _law_x; calls _law_lot -/
abbrev s_law_between : Stmt := topS 44
theorem sc_law_between : FnScope ["_law_near_here", "_law_one", "_law_other", "_law_found", "_law_x", "_law_y"] ["_law_near_here", "_law_one", "_law_other"] (defScope s_law_between) := ⟨rfl, rfl, rfl, by decide +kernel, rfl, by decide +kernel, by decide +kernel⟩
structure BetI where
  n : Nat
  t : Nat → Nat → Bool
  a : Nat
  b : Nat
/-- the arrows from a mask to a mask, by codes -/
def bt (n : Nat) (t : Nat → Nat → Bool) (a b : Nat) : List Nat := (lot a).flatMap fun x => (lot (nr n t x &&& b)).map fun y => x * 8 + y
theorem mem_bt {n : Nat} {t : Nat → Nat → Bool} (hn : n ≤ 8) {a b c : Nat} (ha : a < 2 ^ n) : c ∈ bt n t a b ↔ bits a (dec c).1 ∧ bits b (dec c).2 ∧ Ar n t (dec c) := by
  unfold bt
  rw [List.mem_flatMap]
  constructor
  · rintro ⟨x, hx, hc⟩
    obtain ⟨y, hy, rfl⟩ := List.mem_map.mp hc
    obtain ⟨hy1, hy2⟩ := mem_lot.mp hy
    rw [Nat.testBit_and, Bool.and_eq_true] at hy2
    have h1 := bits_nr.mp hy2.1
    have e : dec (x * 8 + y) = (x, y) := dec_cod (a := (x, y)) hy1
    rw [e]
    have hxb : bits a x := (mem_lot.mp hx).2
    exact ⟨hxb, hy2.2, bits_lt ha hxb, h1.1, h1.2⟩
  · rintro ⟨h1, h2, h3, h4, h5⟩
    simp only [dec] at h1 h2 h3 h4 h5
    refine ⟨c / 8, mem_lot.mpr ⟨by omega, h1⟩, List.mem_map.mpr ⟨c % 8, mem_lot.mpr ⟨by omega, ?_⟩, by omega⟩⟩
    rw [Nat.testBit_and, Bool.and_eq_true]
    exact ⟨bits_nr.mpr ⟨h4, h5⟩, h2⟩
theorem asc_bt (n : Nat) (t : Nat → Nat → Bool) (a b : Nat) : Asc (bt n t a b) := by
  unfold bt
  show List.Pairwise _ _
  rw [List.pairwise_flatMap]
  refine ⟨fun x _ => List.pairwise_map.mpr ((asc_lot _).imp fun h => by omega), (asc_lot a).imp fun {x x'} h c hc c' hc' => ?_⟩
  obtain ⟨y, hy, rfl⟩ := List.mem_map.mp hc
  obtain ⟨y', _, rfl⟩ := List.mem_map.mp hc'
  have := (mem_lot.mp hy).1
  omega
theorem bt_len {n : Nat} {t : Nat → Nat → Bool} (hn : n ≤ 8) {a b : Nat} (ha : a < 2 ^ n) : (bt n t a b).length ≤ 64 :=
  Nat.le_trans (nd_len (asc_bt n t a b).nodup (asc_AL n t).nodup fun c hc => (mem_AL hn).mpr ((mem_bt hn ha).mp hc).2.2) (AL_len n t)
abbrev spBetween (T : List (Addr × Str)) : Sp := spD T (ι := BetI) (fun i => i.n ≤ 8 ∧ i.a < 2 ^ i.n) (fun i => [nearD i.n i.t, nD i.a, nD i.b]) fun i d => d = .list ((bt i.n i.t i.a i.b).map aD)
/-! _law_contrary: slots 0 _law_arrows, 1 _law_x, 2 _law_y; cells ; calls  -/
abbrev s_law_contrary : Stmt := topS 45
theorem sc_law_contrary : FnScope ["_law_arrows", "_law_x", "_law_y"] ["_law_arrows"] (defScope s_law_contrary) := ⟨rfl, rfl, rfl, by decide +kernel, rfl, by decide +kernel, by decide +kernel⟩
def flp (c : Nat) : Nat := c % 8 * 8 + c / 8
abbrev spContrary (T : List (Addr × Str)) : Sp := spD T (ι := List Nat) (fun l => l.length ≤ 1000 ∧ ∀ c ∈ l, c < 64) (fun l => [.tuple (l.map aD)]) fun l d => d = .list ((l.map flp).map aD)
/-! _law_sons: slots 0 _law_steady, 1 _law_piece, 2 _law_within, 3 _law_tops, 4 _law_own, 5 _law_more_here; cells _law_piece _law_within; calls  -/
abbrev s_law_sons : Stmt := topS 42
theorem sc_law_sons : FnScope ["_law_steady", "_law_piece", "_law_within", "_law_tops", "_law_own", "_law_more_here"] ["_law_steady", "_law_piece"] (defScope s_law_sons) := ⟨rfl, rfl, rfl, by decide +kernel, rfl, by decide +kernel, by decide +kernel⟩
structure SonI where
  n : Nat
  t : Nat → Nat → Bool
  l : List Nat
  fm : Bool
  E : Nat → Nat → Prop
abbrev spSons (T : List (Addr × Str)) : Sp := spD T (ι := SonI) (fun i => i.n ≤ 8 ∧ Asc i.l ∧ Kn i.n i.t i.l i.fm i.E) (fun i => [masksD (strM i.n i.t), nD (msk i.l)]) fun i d => d = masksD ((clsL i.l i.E).map msk)
theorem low_bit : ∀ o : Nat, o < 256 → o ≠ 0 → Builtin.bitAnd (o : Int) (-(o : Int)) = ((2 ^ ((lot o).headD 0) : Nat) : Int) := by decide +kernel
/-- sorting the sons' masks by their lowest bits -/
theorem sort_low {l : List Nat} {E : Nat → Nat → Prop} (asc : Asc l) (q : Eqv l E) (hl : ∀ x ∈ l, x < 8) {ms : List Nat} (nd : ms.Nodup) (hm : ∀ m, m ∈ ms ↔ ∃ c, c ∈ clsL l E ∧ m = msk c) :
    ms.mergeSort (PySem.W.dataLe false fun o : Nat => PyData.int (Builtin.bitAnd (o : Int) (-(o : Int)))) = (clsL l E).map msk := by
  have cl : ∀ c, c ∈ clsL l E → Asc c ∧ (∀ x ∈ c, x < 8) ∧ c ≠ [] := fun c hc => by
    obtain ⟨x, hx, e⟩ := (mem_clsL asc q).mp hc
    exact ⟨by rw [e]; exact asc_clOf asc x, fun y hy => by rw [e] at hy; exact hl y (mem_clOf.mp hy).1, clsL_ne asc q hc⟩
  have p := List.mergeSort_perm ms (PySem.W.dataLe false fun o : Nat => PyData.int (Builtin.bitAnd (o : Int) (-(o : Int))))
  have back : ∀ m, m ∈ ms → m < 256 ∧ m ≠ 0 ∧ lot m ∈ clsL l E ∧ msk (lot m) = m := fun m h => by
    obtain ⟨c, hc, rfl⟩ := (hm m).mp h
    obtain ⟨a, b, ne⟩ := cl c hc
    have lt : msk c < 256 := msk_lt (n := 8) a b
    rw [lot_msk a b]
    refine ⟨lt, fun z => ?_, hc, rfl⟩
    obtain ⟨x, hx⟩ := List.exists_mem_of_ne_nil c ne
    have : (msk c).testBit x = true := by rw [bit_msk a]; exact decide_eq_true hx
    rw [z] at this
    simp at this
  have key : (ms.mergeSort (PySem.W.dataLe false fun o : Nat => PyData.int (Builtin.bitAnd (o : Int) (-(o : Int))))).map lot = clsL l E := by
    refine clsL_uniq asc q (fun c => ?_) ?_
    · rw [List.mem_map, ← mem_clsL asc q]
      constructor
      · rintro ⟨m, h, rfl⟩
        exact (back m (p.mem_iff.mp h)).2.2.1
      · intro hc
        obtain ⟨a, b, _⟩ := cl c hc
        exact ⟨msk c, p.mem_iff.mpr ((hm _).mpr ⟨c, hc, rfl⟩), lot_msk a b⟩
    · rw [List.map_map]
      refine List.pairwise_map.mpr (((sortK_pairwise (fun o : Nat => PyData.int (Builtin.bitAnd (o : Int) (-(o : Int)))) ms).and (p.nodup_iff.mpr nd)).imp_of_mem fun {a b} ha hb h => ?_)
      obtain ⟨a1, a2, a3, a4⟩ := back a (p.mem_iff.mp ha)
      obtain ⟨b1, b2, b3, b4⟩ := back b (p.mem_iff.mp hb)
      have h1 := h.1
      rw [PySem.W.dataLt_int, low_bit a a1 a2, low_bit b b1 b2] at h1
      have h2 : 2 ^ (lot a).headD 0 ≤ 2 ^ (lot b).headD 0 := by
        by_cases r : ((2 ^ (lot b).headD 0 : Nat) : Int) < ((2 ^ (lot a).headD 0 : Nat) : Int)
        · rw [decide_eq_true r] at h1; cases h1
        · omega
      have h3 : (lot a).headD 0 ≤ (lot b).headD 0 := (Nat.pow_le_pow_iff_right (by omega)).mp h2
      refine Nat.lt_of_le_of_ne h3 fun e => h.2 ?_
      -- classes of like heads are one class
      obtain ⟨x, hx, ex⟩ := (mem_clsL asc q).mp a3
      obtain ⟨y, hy, ey⟩ := (mem_clsL asc q).mp b3
      obtain ⟨m, hm1, em, eh⟩ := head_ex asc q hx
      obtain ⟨m', hm2, em', eh'⟩ := head_ex asc q hy
      have e1 : (lot a).headD 0 = m := by rw [ex, List.headD_eq_head?_getD, eh]; rfl
      have e2 : (lot b).headD 0 = m' := by rw [ey, List.headD_eq_head?_getD, eh']; rfl
      have e3 : m = m' := by
        have e0 : (lot a).headD 0 = (lot b).headD 0 := e
        rw [← e1, ← e2, e0]
      subst e3
      have : lot a = lot b := by rw [ex, ey, clOf_eq q hx (mem_hds.mp hm1).1 em, clOf_eq q hy (mem_hds.mp hm1).1 em']
      rw [← a4, ← b4, this]
  rw [← key, List.map_map]
  have : ∀ m ∈ ms.mergeSort (PySem.W.dataLe false fun o : Nat => PyData.int (Builtin.bitAnd (o : Int) (-(o : Int)))), (msk ∘ lot) m = m := fun m h => (back m (p.mem_iff.mp h)).2.2.2
  rw [List.map_congr_left this, List.map_id']
section
variable {T : List (Addr × Str)} {P : Program} {w : World} {K : PySem.W.Frag} {mg : Str → Option Value} {base : Heap}
theorem ok_law_between {f f1 : Addr} {fd fd1 : FuncData} (D : At' K mg "_law_between" s_law_between ["_law_near_here", "_law_one", "_law_other"] f fd) (Z : Zs mg) (C__law_lot : Cal P w K mg base 1 "_law_lot" ["_law_mask"] (spLot T) f1 fd1) :
    Cal P w K mg base 2 "_law_between" ["_law_near_here", "_law_one", "_law_other"] (spBetween T) f fd := by
  refine cal_D D sc_law_between (fun _ => rfl) fun cdv A outer s H E hr => ⟨_,
    (pss_cons (ps_set (i := 3) sc_law_between.nd rfl (.inl rfl) (pe_lst pa_nil))
    (pss_cons (ps_for PassesOwn.never rfl (xi_seq (K := K) rfl (pe_call C__law_lot.G (hr.mono (by omega)) (by rfl) C__law_lot.m C__law_lot.kp C__law_lot.b .nil pass0 (pa_cons (pv 1) pa_nil))) (pg_name (i := 4) sc_law_between.nd rfl (.inr rfl))
      (pss_one (ps_set (i := 3) sc_law_between.nd rfl (.inl rfl) (pe_op op_cat (pv 3) (pe_lc (own := [("_law_y", 5)]) rfl sc_law_between.nd (xi_seq (K := K) rfl (pe_call C__law_lot.G (hr.mono (by omega)) (by rfl) C__law_lot.m C__law_lot.kp C__law_lot.b .nil pass0 (pa_cons (pe_op op_and (pe_ix (x_ix (K := K) rfl) (pv 0) (pv 4) (fun _ _ => rfl)) (pv 2)) pa_nil))) (blkOk_by (by kernel_rfl)) (fun _ _ _ _ _ => (pg_name (i := 5) sc_law_between.nd rfl (by first | exact Or.inl rfl | exact Or.inr rfl))) (fun _ _ _ _ _ => pts_nil) (fun _ _ _ _ _ => (pe_tup (pa_cons (pv 4) (pa_cons (pv 5) pa_nil)))))))))
    (pss_one (ps_ret (pv 3))))),
    fun i ⟨hn, ha⟩ => ?_⟩
  obtain ⟨n, t, a, b⟩ := i
  simp only at hn ha ⊢
  let g : Nat → List Nat := fun x => (lot (nr n t x &&& b)).map fun y => x * 8 + y
  have total := bt_len (t := t) (b := b) hn ha
  refine r_seq <| r_asg <| d_ofF <| f_lst <| a_nil ⟨by simp, ?_⟩
  refine r_seq <| r_forA (lot a) nD (fun k Γ1 => ∃ c4, Γ1 = [some (.dat (nearD n t)), some (.dat (nD a)), some (.dat (nD b)), some (.dat (.list ((((lot a).take k).flatMap g).map aD))), c4, none])
    (i_seqT <| d_call <| a_v rfl <| a_nil ⟨a, trivial, rfl, fun d ed => ⟨_, ed, rfl⟩⟩) ⟨_, rfl⟩ [4] (fun k x Γ1 hk ⟨c4, e⟩ => ?_) fun Γ1 ⟨c4, e⟩ => ?_
  · subst e
    have hx := List.mem_of_getElem? hk
    have hxn : x < n := bits_lt ha (mem_lot.mp hx).2
    have l1 : (((lot a).take k).flatMap g).length ≤ 64 := by
      have e := congrArg (fun l => (l.flatMap g).length) (List.take_append_drop k (lot a))
      simp only [List.flatMap_append, List.length_append] at e
      have : ((lot a).flatMap g).length ≤ 64 := total
      omega
    have l2 : (lot (nr n t x &&& b)).length ≤ 8 := by
      have := List.length_filter_le (fun y => (nr n t x &&& b).testBit y) (List.range 8)
      rwa [List.length_range] at this
    refine g_name (by simp) <| r_asg <| d_op <| d_var rfl <| d_ofF <| f_mapA (lot (nr n t x &&& b)) nD (fun y => aD (x * 8 + y)) rfl (by omega) (i_seqT <| d_call <| a_cons <| d_op <| d_op <| d_var rfl <| d_var rfl <| rd_xL (near_at hxn) <| d_var rfl <| rd_I0 (.int _) <| a_nil ⟨nr n t x &&& b, trivial, ?_, fun d ed => ⟨_, ed, rfl⟩⟩) (fun y hy => g_name (by simp) <| d_tup <| a_v rfl <| a_v rfl <| a_nil ⟨by simp, aD_of (mem_lot.mp hy).1⟩) ?_
    · rw [bAnd_nat]
      rfl
    · refine rd_cat (by simp only [List.length_map]; omega) ⟨some (.dat (nD x)), ?_⟩
      rw [List.take_add_one, hk, List.flatMap_append, List.map_append]
      simp [g]
  · subst e
    rw [List.take_length]
    exact r_ret <| d_var rfl rfl
theorem ok_law_contrary {f : Addr} {fd : FuncData} (D : At' K mg "_law_contrary" s_law_contrary ["_law_arrows"] f fd) (Z : Zs mg) : Cal P w K mg base 1 "_law_contrary" ["_law_arrows"] (spContrary T) f fd := by
  refine cal_D D sc_law_contrary (fun _ => rfl) fun cdv A outer s H E hr => ⟨_,
    (pss_one (ps_ret (pe_lc (own := [("_law_x", 1), ("_law_y", 2)]) rfl sc_law_contrary.nd (xi_seq (K := K) rfl (pv 0)) (blkOk_by (by kernel_rfl)) (fun _ _ _ _ _ => (xg_tup (K := K) (n := 2) rfl rfl (pgs_cons (pg_name (i := 1) sc_law_contrary.nd rfl (by first | exact Or.inl rfl | exact Or.inr rfl)) (pgs_cons (pg_name (i := 2) sc_law_contrary.nd rfl (by first | exact Or.inl rfl | exact Or.inr rfl)) pgs_nil)))) (fun _ _ _ _ _ => pts_nil) (fun _ _ _ _ _ => (pe_tup (pa_cons (pv 2) (pa_cons (pv 1) pa_nil))))))),
    fun l ⟨hl, h64⟩ => ?_⟩
  refine r_ret <| d_ofF <| f_mapA l aD (fun c => aD (flp c)) rfl (by omega) (i_seqT <| d_var rfl ⟨_, rfl, rfl⟩) (fun c hc => ?_) (by show PyData.list _ = PyData.list ((l.map flp).map aD); rw [List.map_map]; rfl)
  have := h64 c hc
  refine g_tup rfl <| gs_cons <| g_name (by simp) <| gs_cons <| g_name (by simp) <| gs_nil <| d_tup <| a_v rfl <| a_v rfl <| a_nil ⟨by simp, ?_⟩
  exact aD_of (by omega)
theorem ok_law_sons {f : Addr} {fd : FuncData} (D : AtL T K mg base "_law_sons" s_law_sons ["_law_steady", "_law_piece"] f fd) (Z : Zs mg) : Cal P w K mg base 7 "_law_sons" ["_law_steady", "_law_piece"] (spSons T) f fd := by
  refine cal_L D sc_law_sons (fun _ => rfl) fun c Pt TB hT hu A outer s H E hr => ⟨_,
    (pss_cons (ps_set (i := 2) sc_law_sons.nd rfl (.inr rfl) (pe_lc (own := [("_law_own", 4)]) rfl sc_law_sons.nd (xi_seq (K := K) rfl (pv 0)) (blkOk_by (by kernel_rfl)) (fun _ _ _ _ _ => (pg_name (i := 4) sc_law_sons.nd rfl (by first | exact Or.inl rfl | exact Or.inr rfl))) (fun _ _ _ _ _ => (pts_one (PW.pt (pw_and (pt_cmpR op_ne (pv 4) (pv 1) (nomark _)) (pw_and1 (pt_cmpR op_eq (pe_op op_and (pv 4) (pv 1)) (pv 4) (nomark _))))))) (fun _ _ _ _ _ => (pv 4))))
    (pss_cons (ps_setLc (i := 3) (own := [("_law_own", 4)]) rfl sc_law_sons.nd rfl rfl (sw_true rfl rfl rfl (by decide +kernel)) (xi_seq (K := K) rfl (pv 2)) (blkOk_by (by kernel_rfl)) (fun _ _ _ _ _ => (pg_name (i := 4) sc_law_sons.nd rfl (by first | exact Or.inl rfl | exact Or.inr rfl))) (fun _ _ _ _ _ => (pts_one (pt_cmpR (x_eqD (K := K) rfl hr.units) (pe_lc (own := [("_law_more_here", 5)]) rfl sc_law_sons.nd (xi_seq (K := K) rfl (pv 2)) (blkOk_by (by kernel_rfl)) (fun _ _ _ _ _ => (pg_name (i := 5) sc_law_sons.nd rfl (by first | exact Or.inl rfl | exact Or.inr rfl))) (fun _ _ _ _ _ => (pts_one (PW.pt (pw_and (pt_cmpR op_ne (pv 5) (pv 4) (nomark _)) (pw_and1 (pt_cmpR op_eq (pe_op op_and (pv 5) (pv 4)) (pv 4) (nomark _))))))) (fun _ _ _ _ _ => pe_int)) (pe_lst pa_nil) (nomark _)))) (fun _ _ _ _ _ => (pv 4)))
    (pss_one (ps_ret (pe_sortLam (T := T) (k := 1) (j := 4) (a := "_law_own") (by rfl) Z.sorted (pa_cons (pv 3) pa_nil) TB rfl hT hu (hr.mono (by omega)) (lamP_by (by kernel_rfl)) rfl sc_law_sons.nd rfl (fun _ _ _ _ _ => rfl) (fun _ _ _ _ hr => (pe_op op_and (pv 4) (pe_un un_neg (pv 4))))))))),
    fun i ⟨hn, asc, kn⟩ => ?_⟩
  obtain ⟨n, t, l, fm, E'⟩ := i
  simp only at hn asc kn ⊢
  let p := msk l
  have slen : (strM n t).length ≤ 256 := by
    have h1 := nd_len (asc_strM (n := n) (t := t)).nodup (asc_range (2 ^ n)).nodup fun m hm => List.mem_range.mpr (mem_strM.mp hm).1
    rw [List.length_range] at h1
    have p8 : 2 ^ n ≤ 256 := Nat.pow_le_pow_right (n := 2) (by omega) hn
    omega
  have hne : ∀ a b : Nat, (!decide ((a : Int) = (b : Int))) = decide (a ≠ b) := fun a b => by
    by_cases h : a = b
    · subst h; simp
    · have : ¬ (a : Int) = (b : Int) := by omega
      rw [decide_eq_false this, decide_eq_true h]
      rfl
  have heq : ∀ a b : Nat, decide ((a : Int) = (b : Int)) = decide (a = b) := fun a b => decide_eq_decide.mpr (by omega)
  refine r_seq <| r_asgF (by simp [startE]) <| f_filterA (strM n t) nD nD (fun o => decide (o ≠ p) && decide (o &&& p = o)) rfl (by omega) (i_seqL <| d_var rfl ⟨_, rfl, rfl⟩) (fun o ho => g_name (by simp) ?_) ?_
  · refine t_and <| t_test <| d_op <| d_var rfl <| d_var rfl <| rd_ne ⟨_, rfl, fun e => ⟨?_, fun e2 => (nomatch e2)⟩, fun e => t_test <| d_op <| d_op <| d_var rfl <| d_var rfl <| rd_I0 (.int _) <| d_var rfl <| rd_eq ⟨_, rfl, ?_, fun _ => d_var rfl rfl⟩⟩
    · rw [hne] at e
      have e' : decide (o ≠ p) = false := e
      rw [e']
      rfl
    · rw [hne] at e
      have e' : decide (o ≠ p) = true := e
      rw [bAnd_nat, heq, e']
      rfl
  · show Run _ _ _ _
    have wlen : (within n t p).length ≤ 256 := Nat.le_trans (List.length_filter_le _ _) slen
    refine r_freeze (j := 2) rfl <| r_seq <| r_asgF (by simp [startE]) <| f_filterA (within n t p) nD nD (fun o => decide (∀ q, q ∈ within n t p → ¬ (q ≠ o ∧ q &&& o = o))) rfl (by omega) (i_seqL <| d_var rfl ⟨_, rfl, rfl⟩) (fun o ho => g_name (by simp) ?_) ?_
    · let bad : Nat → Bool := fun q => decide (q ≠ o) && decide (q &&& o = o)
      refine t_test <| d_noOnes ((within n t p).filter bad) (f_filterA (within n t p) nD (fun _ => .int 1) bad rfl (by omega) (i_seqL <| d_var rfl ⟨_, rfl, rfl⟩) (fun q hq => g_name (by simp) ?_) rfl) ⟨_, rfl, ?_, fun _ => d_var rfl rfl⟩
      · refine t_and <| t_test <| d_op <| d_var rfl <| d_var rfl <| rd_ne ⟨_, rfl, fun e => ⟨?_, fun e2 => (nomatch e2)⟩, fun e => t_test <| d_op <| d_op <| d_var rfl <| d_var rfl <| rd_I0 (.int _) <| d_var rfl <| rd_eq ⟨_, rfl, ?_, fun _ => d_int rfl⟩⟩
        · rw [hne] at e
          show false = (decide (q ≠ o) && decide (q &&& o = o))
          rw [e]
          rfl
        · rw [hne] at e
          show _ = (decide (q ≠ o) && decide (q &&& o = o))
          rw [bAnd_nat, heq, e]
          rfl
      · have h1 : ((within n t p).filter bad).isEmpty = true ↔ ∀ q, q ∈ within n t p → ¬ (q ≠ o ∧ q &&& o = o) := by
          rw [List.isEmpty_iff, List.filter_eq_nil_iff]
          refine forall_congr' fun q => forall_congr' fun _ => ?_
          simp only [bad, Bool.and_eq_true, decide_eq_true_eq]
        by_cases r : ∀ q, q ∈ within n t p → ¬ (q ≠ o ∧ q &&& o = o)
        · rw [h1.mpr r, decide_eq_true r]
        · rw [decide_eq_false r]
          cases r2 : ((within n t p).filter bad).isEmpty with
          | false => rfl
          | true => exact absurd (h1.mp r2) r
    · show Run _ _ _ _
      have tlen : (tops n t p).length ≤ 256 := Nat.le_trans (List.length_filter_le _ _) wlen
      have hl8 : ∀ x ∈ l, x < 8 := fun x hx => by have := kn.str.1.1 x hx; omega
      have srt := sort_low asc (eqv_partsL kn.parts) hl8 (asc_tops (n := n) (t := t) (p := p)).nodup fun m => mem_tops asc kn
      refine r_freeze (j := 3) rfl <| r_ret <| d_ofF <| f_sortLam (tops n t p) nD (fun o : Nat => PyData.int (Builtin.bitAnd (o : Int) (-(o : Int)))) rfl rfl (a_v rfl (a_nil rfl)) (by omega) (PySem.W.AllAlike.of fun _ _ => by simp [PySem.W.alike]) (PySem.W.Sortable.others fun _ => ⟨by simp, by simp⟩) (fun o _ => by simp [PyData.depth]) (fun o ho => d_op <| d_var rfl <| d_un <| d_var rfl <| ru_neg <| rd_I0 (.int _) rfl) ?_
      rw [srt]
      rfl
end
end K41
end
section
set_option linter.all false
set_option maxRecDepth 100000
/-! K41, the walks: _law_knots. -/
namespace K41
open PySem PySem.Spec PyProof.Rows L2
open Classical
/-! _law_knots: slots 0 _law_near_here, 1 _law_steady, 2 _law_found, 3 _law_piece, 4 _law_sons_here, 5 _law_firsts, 6 _law_whole, 7 _law_ties, 8 _law_own, 9 _law_one -/
abbrev s_law_knots : Stmt := topS 43
theorem sc_law_knots : FnScope ["_law_near_here", "_law_steady", "_law_found", "_law_piece", "_law_sons_here", "_law_firsts", "_law_whole", "_law_ties", "_law_own", "_law_one"] ["_law_near_here"] (defScope s_law_knots) := ⟨rfl, rfl, rfl, by decide +kernel, rfl, by decide +kernel, by decide +kernel⟩
/-- a knot as the law finds it; f: the look of all, where there is one -/
structure LK where
  l : List Nat
  fm : Bool
  E : Nat → Nat → Prop
  f : Bool
structure LK.Ok (n : Nat) (t : Nat → Nat → Bool) (k : LK) : Prop where
  kn : Kn n t k.l k.fm k.E
  asc : Asc k.l
  look : k.fm = false → ∀ x y, x ∈ k.l → y ∈ k.l → ¬ k.E x y → t x y = k.f
def lkW (fm f : Bool) : PyData := .str (if fm then "some" else if f then "all" else "none")
noncomputable def lkD (k : LK) : PyData := .list [nD (msk k.l), masksD ((clsL k.l k.E).map msk), lkW k.fm k.f]
def two (m : Nat) : Bool := decide (2 ≤ (lot m).length)
theorem two_bits : ∀ m : Nat, m < 256 → (!decide (Builtin.bitAnd (m : Int) ((m : Int) - 1) = 0)) = two m := by decide +kernel
abbrev spLKnots (T : List (Addr × Str)) : Sp := spD T (ι := WebI) (fun i => Wb i.t ∧ i.n ≤ 8) (fun i => [nearD i.n i.t]) fun i d => ∃ ks : List LK, d = .list (ks.map lkD) ∧ (∀ k ∈ ks, k.Ok i.n i.t) ∧ ks.map (fun k => msk k.l) = (strM i.n i.t).filter two
theorem mul_pred : ∀ k : Nat, k ≤ 8 → (k : Int) * ((k : Int) - 1) = ((k * (k - 1) : Nat) : Int) := by decide
theorem sum_nat (l : List Nat) : (l.map fun (x : Nat) => (x : Int)).sum = ((l.sum : Nat) : Int) := by
  induction l with
  | nil => rfl
  | cons y l ih => rw [List.map_cons, List.sum_cons, List.sum_cons, ih]; omega
section
variable {T : List (Addr × Str)} {P : Program} {w : World} {K : PySem.W.Frag} {mg : Str → Option Value} {base : Heap}
theorem ok_law_knots {f f1 f2 f3 : Addr} {fd fd1 fd2 fd3 : FuncData} (D : At' K mg "_law_knots" s_law_knots ["_law_near_here"] f fd) (Z : Zs mg) (C__law_strong : Cal P w K mg base 1 "_law_strong" ["_law_near_here"] (spStrong T) f1 fd1)
    (C__law_sons : Cal P w K mg base 7 "_law_sons" ["_law_steady", "_law_piece"] (spSons T) f2 fd2) (C__law_lot : Cal P w K mg base 1 "_law_lot" ["_law_mask"] (spLot T) f3 fd3) :
    Cal P w K mg base 8 "_law_knots" ["_law_near_here"] (spLKnots T) f fd := by
  refine cal_D D sc_law_knots (fun _ => rfl) fun cdv A outer s H E hr => ⟨_,
    (pss_cons (ps_par (i := 1) (j := 2) rfl sc_law_knots.nd rfl rfl (by decide) rfl rfl (pa_cons (pe_call C__law_strong.G (hr.mono (by omega)) (by rfl) C__law_strong.m C__law_strong.kp C__law_strong.b .nil pass0 (pa_cons (pv 0) pa_nil)) (pa_cons (pe_lst pa_nil) pa_nil)) (by rfl))
    (pss_cons (ps_for PassesOwn.never rfl (xi_seq (K := K) rfl (pe_lc (own := [("_law_own", 8)]) rfl sc_law_knots.nd (xi_seq (K := K) rfl (pv 1)) (blkOk_by (by kernel_rfl)) (fun _ _ _ _ _ => (pg_name (i := 8) sc_law_knots.nd rfl (by first | exact Or.inl rfl | exact Or.inr rfl))) (fun _ _ _ _ _ => (pts_one (pt_cmpR op_ne (pe_op op_and (pv 8) (pe_op op_sub (pv 8) pe_int)) pe_int (nomark _)))) (fun _ _ _ _ _ => (pv 8)))) (pg_name (i := 3) sc_law_knots.nd rfl (.inl rfl))
      (pss_cons (ps_set (i := 4) sc_law_knots.nd rfl (.inl rfl) (pe_call C__law_sons.G (hr.mono (by omega)) (by rfl) C__law_sons.m C__law_sons.kp C__law_sons.b .nil pass0 (pa_cons (pv 1) (pa_cons (pv 3) pa_nil))))
      (pss_cons (ps_setLc (i := 5) (own := [("_law_own", 8)]) rfl sc_law_knots.nd rfl rfl (sw_true rfl rfl rfl (by decide +kernel)) (xi_seq (K := K) rfl (pv 4)) (blkOk_by (by kernel_rfl)) (fun _ _ _ _ _ => (pg_name (i := 8) sc_law_knots.nd rfl (by first | exact Or.inl rfl | exact Or.inr rfl))) (fun _ _ _ _ _ => pts_nil) (fun _ _ _ _ _ => (pe_ix (x_ix (K := K) rfl) (pe_call C__law_lot.G (hr.mono (by omega)) (by rfl) C__law_lot.m C__law_lot.kp C__law_lot.b .nil pass0 (pa_cons (pv 8) pa_nil)) pe_int (fun _ _ => rfl))))
      (pss_cons (ps_set (i := 6) sc_law_knots.nd rfl (.inr rfl) (pe_callB (x_sum (K := K) rfl rfl) (by rfl) Z.sum (by decide +kernel) (pa_cons (pe_lc (own := [("_law_one", 9)]) rfl sc_law_knots.nd (xi_seq (K := K) rfl (pv 5)) (blkOk_by (by kernel_rfl)) (fun _ _ _ _ _ => (pg_name (i := 9) sc_law_knots.nd rfl (by first | exact Or.inl rfl | exact Or.inr rfl))) (fun _ _ _ _ _ => pts_nil) (fun _ _ _ _ _ => (pe_op op_shl pe_int (pv 9)))) pa_nil)))
      (pss_cons (ps_set (i := 7) sc_law_knots.nd rfl (.inl rfl) (pe_callB (x_sum (K := K) rfl rfl) (by rfl) Z.sum (by decide +kernel) (pa_cons (pe_lc (own := [("_law_one", 9)]) rfl sc_law_knots.nd (xi_seq (K := K) rfl (pv 5)) (blkOk_by (by kernel_rfl)) (fun _ _ _ _ _ => (pg_name (i := 9) sc_law_knots.nd rfl (by first | exact Or.inl rfl | exact Or.inr rfl))) (fun _ _ _ _ _ => pts_nil) (fun _ _ _ _ _ => (pe_callB (x_len (K := K) rfl) (by rfl) Z.len (by decide +kernel) (pa_cons (pe_call C__law_lot.G (hr.mono (by omega)) (by rfl) C__law_lot.m C__law_lot.kp C__law_lot.b .nil pass0 (pa_cons (pe_op op_and (pe_ix (x_ix (K := K) rfl) (pv 0) (pv 9) (fun _ _ => rfl)) (pv 6)) pa_nil)) pa_nil)))) pa_nil)))
      (pss_one (ps_expr (pe_bm PySem.F.plainAttrs_list PySem.F.slot_list_append PySem.F.type_list_append mt_append (pv 2) (pa_cons (pe_lst (pa_cons (pv 3) (pa_cons (pv 4) (pa_cons (pe_ifExp (pt_cmpR op_eq (pv 7) pe_int (nomark _)) pe_str (pe_ifExp (pt_cmpR op_eq (pv 7) (pe_op op_mul (pe_callB (x_len (K := K) rfl) (by rfl) Z.len (by decide +kernel) (pa_cons (pv 4) pa_nil)) (pe_op op_sub (pe_callB (x_len (K := K) rfl) (by rfl) Z.len (by decide +kernel) (pa_cons (pv 4) pa_nil)) pe_int)) (nomark _)) pe_str pe_str)) pa_nil)))) pa_nil)))))))))
    (pss_one (ps_ret (pv 2))))),
    fun i ⟨w, hn⟩ => ?_⟩
  obtain ⟨n, t, l0, o, x, y⟩ := i
  simp only at w hn ⊢
  have p8 : 2 ^ n ≤ 256 := Nat.pow_le_pow_right (n := 2) (by omega) hn
  have slen : (strM n t).length ≤ 256 := by
    have h1 := nd_len (asc_strM (n := n) (t := t)).nodup (asc_range (2 ^ n)).nodup fun m hm => List.mem_range.mpr (mem_strM.mp hm).1
    rw [List.length_range] at h1
    omega
  have flen : ((strM n t).filter two).length ≤ 256 := Nat.le_trans (List.length_filter_le _ _) slen
  refine r_seq <| r_parF (by decide) (by simp [startE]) <| d_call <| a_v rfl <| a_nil ⟨⟨n, t, [], 0, 0, 0⟩, hn, rfl, fun d ed => f_lst <| a_nil ⟨by simp, ?_⟩⟩
  subst ed
  refine r_seq <| r_forA ((strM n t).filter two) nD (fun k Γ1 => ∃ c3 c4 c5 c6 c7, ∃ ks : List LK, Γ1 = [some (.dat (nearD n t)), some (.dat (masksD (strM n t))), some (.lst (ks.map lkD)), c3, c4, c5, c6, c7, none, none] ∧
      (∀ k ∈ ks, k.Ok n t) ∧ ks.map (fun k => msk k.l) = ((strM n t).filter two).take k)
    (i_seqL <| d_ofF <| f_filterA (strM n t) nD nD two rfl (by omega) (i_seqL <| d_var rfl ⟨_, rfl, rfl⟩) (fun m hm => g_name (by simp) ?_) ⟨_, rfl, rfl⟩) ⟨_, _, _, _, _, [], rfl, fun k h => (nomatch h), rfl⟩ [3] (fun k m Γ1 hk ⟨c3, c4, c5, c6, c7, ks, e, hok, hks⟩ => ?_) fun Γ1 ⟨c3, c4, c5, c6, c7, ks, e, hok, hks⟩ => ?_
  · have hm2 := (mem_strM.mp hm).1
    exact t_test <| d_op <| d_op <| d_var rfl <| d_op <| d_var rfl <| d_int <| rd_I0 (.int _) <| rd_I0 (.int _) <| d_int <| rd_ne ⟨_, rfl, two_bits m (by omega), fun _ => d_var rfl rfl⟩
  · subst e
    obtain ⟨hm1, hm2⟩ := List.mem_filter.mp (List.mem_of_getElem? hk)
    obtain ⟨hlt, hstr⟩ := mem_strM.mp hm1
    have hl2 : 2 ≤ (lot m).length := of_decide_eq_true hm2
    let l := lot m
    have asc : Asc l := asc_lot m
    have em : msk l = m := msk_lot (by show m < 256; omega)
    have hsl : Stg n t (· ∈ l) := by
      have e1 : bits m = (· ∈ l) := by rw [← bits_msk asc, em]
      rw [← e1]
      exact hstr
    obtain ⟨fm, E', kn⟩ := kn_ex w asc hsl hl2
    obtain ⟨f, hf, h0, hA⟩ := tie_word w asc kn
    have qE := eqv_partsL kn.parts
    have hln : ∀ x ∈ l, x < n := kn.str.1.1
    have h8 : ∀ x ∈ l, x < 8 := fun x hx => by have := hln x hx; omega
    let h := hds l E'
    have ah : Asc h := asc_hds asc
    have hin : ∀ x ∈ h, x ∈ l := fun x hx => (mem_hds.mp hx).1
    have hhn : ∀ x ∈ h, x < n := fun x hx => hln x (hin x hx)
    have clen : (clsL l E').length = h.length := by show ((hds l E').map (clOf l E')).length = _; rw [List.length_map]
    have hlen : h.length ≤ 8 := Nat.le_trans (lot_len ah.nodup hhn) hn
    have klen : ks.length ≤ 256 := by
      have := congrArg List.length hks
      rw [List.length_map, List.length_take] at this
      omega
    refine g_name (by simp) <| r_seq <| r_asg <| d_call <| a_v rfl <| a_v rfl <| a_nil ⟨⟨n, t, l, fm, E'⟩, ⟨hn, asc, kn⟩, by show [_, nD m] = [_, nD (msk l)]; rw [em], fun d ed => ?_⟩
    subst ed
    -- firsts
    refine r_seq <| r_asgF (by simp) <| f_mapA (clsL l E') (fun c => nD (msk c)) (fun c => nD (c.headD 0)) rfl (by omega) (i_seqL <| d_var rfl ⟨_, rfl, by rw [List.map_map]; rfl⟩) (fun c hc => g_name (by simp) ?_) ?_
    · obtain ⟨x, hx, ex⟩ := (mem_clsL asc qE).mp hc
      have ac : Asc c := by rw [ex]; exact asc_clOf asc x
      have c8 : ∀ y ∈ c, y < 8 := fun y hy => by rw [ex] at hy; exact h8 y (mem_clOf.mp hy).1
      obtain ⟨z, r, ez⟩ := List.exists_cons_of_ne_nil (clsL_ne asc qE hc)
      refine d_op <| d_call <| a_v rfl <| a_nil ⟨msk c, trivial, rfl, fun d ed => ?_⟩
      rw [lot_msk ac c8] at ed
      subst ed
      exact d_int <| rd_xT (k := 0) (by rw [ez]; rfl) (by rw [ez]; rfl)
    · have eh : (clsL l E').map (fun c => nD (c.headD 0)) = h.map nD := by
        rw [← show ((clsL l E').map (·.headD 0)) = h from clsL_heads asc qE, List.map_map]
        rfl
      rw [eh]
      show Run _ _ _ _
      refine r_freeze (j := 5) rfl ?_
      -- whole
      refine r_seq <| r_asg <| d_callB <| a_cons <| d_ofF <| f_mapA h nD (fun x => nD (2 ^ x)) rfl (by omega) (i_seqL <| d_var rfl ⟨_, rfl, rfl⟩) (fun x hx => g_name (by simp) ?_) ?_
      · have := hhn x hx
        refine d_op <| d_int <| d_var rfl <| rd_I ⟨by omega, by omega, by decide⟩ (.int _) ?_
        rw [shl_nat]
        rfl
      · have e1 : h.map (fun x => nD (2 ^ x)) = ((h.map (2 ^ ·)).map fun (x : Nat) => (x : Int)).map .int := by rw [List.map_map, List.map_map]; rfl
        rw [e1]
        refine a_nil <| rc_sum ?_
        rw [sum_nat]
        show Run _ _ _ _
        -- ties
        refine r_seq <| r_asg <| d_callB <| a_cons <| d_ofF <| f_mapA h nD (fun x => nD ((h.filter fun y => t x y).length)) rfl (by omega) (i_seqL <| d_var rfl ⟨_, rfl, rfl⟩) (fun x hx => g_name (by simp) ?_) ?_
        · have hxn := hhn x hx
          refine d_callB <| a_cons <| d_call <| a_cons <| d_op <| d_op <| d_var rfl <| d_var rfl <| rd_xL (near_at hxn) <| d_var rfl <| rd_I0 (.int _) <| a_nil ⟨nr n t x &&& msk h, trivial, ?_, fun d ed => ?_⟩
          · show [PyData.int (Builtin.bitAnd ((nr n t x : Nat) : Int) ((msk h : Nat) : Int))] = _
            rw [bAnd_nat]
            rfl
          · rw [lot_and hn ah hhn] at ed
            subst ed
            refine a_nil <| rc_lenT ?_
            rw [List.length_map]
            rfl
        · have e2 : h.map (fun x => nD ((h.filter fun y => t x y).length)) = ((h.map fun x => (h.filter fun y => t x y).length).map fun (x : Nat) => (x : Int)).map .int := by rw [List.map_map, List.map_map]; rfl
          rw [e2]
          refine a_nil <| rc_sum ?_
          rw [sum_nat]
          show Run _ _ _ _
          have fin : ∀ W : PyData, W = lkW fm f → Turn' (fun Γ1 => ∃ c3 c4 c5 c6 c7, ∃ ks : List LK, Γ1 = [some (.dat (nearD n t)), some (.dat (masksD (strM n t))), some (.lst (ks.map lkD)), c3, c4, c5, c6, c7, none, none] ∧
              (∀ k ∈ ks, k.Ok n t) ∧ ks.map (fun k => msk k.l) = ((strM n t).filter two).take (k + 1)) (fun _ => False)
              (.nx [some (.dat (nearD n t)), some (.dat (masksD (strM n t))), some (.lst (ks.map lkD ++ [.list [nD m, masksD ((clsL l E').map msk), W]])), some (.dat (nD m)), some (.dat (masksD ((clsL l E').map msk))), some (.dat (.list (h.map nD))), some (.dat (.int ((msk h : Nat) : Int))), some (.dat (.int ((tieN t h : Nat) : Int))), none, none]) := fun W hW => by
            refine ⟨some (.dat (nD m)), some (.dat (masksD ((clsL l E').map msk))), some (.dat (.list (h.map nD))), some (.dat (.int ((msk h : Nat) : Int))), some (.dat (.int ((tieN t h : Nat) : Int))), ks ++ [⟨l, fm, E', f⟩], ?_, fun q hq => ?_, ?_⟩
            · rw [List.map_append, hW]
              have e7 : [lkD ⟨l, fm, E', f⟩] = [PyData.list [nD m, masksD ((clsL l E').map msk), lkW fm f]] := by
                show [PyData.list [nD (msk l), _, _]] = _
                rw [em]
              rw [List.map_cons, List.map_nil, e7]
            · rcases List.mem_append.mp hq with r | r
              · exact hok q r
              · rw [List.mem_singleton] at r
                subst r
                exact ⟨kn, asc, hf⟩
            · rw [List.map_append, hks, List.take_add_one, hk]
              show _ ++ [msk l] = _ ++ [m]
              rw [em]
          refine r_app (j := 2) rfl (by rw [List.length_map]; omega) <| d_ofF <| f_lst <| a_v rfl <| a_v rfl <| a_cons <| d_if <| t_test <| d_op <| d_var rfl <| d_int <| rd_eq ⟨_, rfl, fun e => ?_, fun e => ?_⟩
          · have hz : tieN t h = 0 := by
              have := of_decide_eq_true e
              have h2 : ((tieN t h : Nat) : Int) = 0 := this
              omega
            obtain ⟨a, b⟩ := h0.mp hz
            exact d_str <| a_nil ⟨by simp, fin _ (by rw [a, b]; rfl)⟩
          · have hz : tieN t h ≠ 0 := fun q => by
              have := of_decide_eq_false e
              have h2 : ¬ ((tieN t h : Nat) : Int) = 0 := this
              omega
            refine d_if <| t_test <| d_op <| d_var rfl <| d_op <| d_callB <| a_v rfl <| a_nil <| rc_lenL <| d_op <| d_callB <| a_v rfl <| a_nil <| rc_lenL <| d_int <| rd_I0 (.int _) <| rd_I (.inl ⟨?_, ?_⟩) (.int _) <| rd_eq ⟨_, rfl, fun e => ?_, fun e => ?_⟩
            · rw [List.length_map, List.length_map, clen]; omega
            · rw [List.length_map, List.length_map, clen]; omega
            · have hz2 : tieN t h = h.length * (h.length - 1) := by
                have h1 := of_decide_eq_true e
                rw [List.length_map, List.length_map, clen] at h1
                have h2 : ((tieN t h : Nat) : Int) = (h.length : Int) * ((h.length : Int) - 1) := h1
                rw [mul_pred _ hlen] at h2
                omega
              obtain ⟨a, b⟩ := hA.mp hz2
              exact d_str <| a_nil ⟨by simp, fin _ (by rw [a, b]; rfl)⟩
            · have hz2 : tieN t h ≠ h.length * (h.length - 1) := fun q => by
                have h1 := of_decide_eq_false e
                rw [List.length_map, List.length_map, clen] at h1
                have h2 : ¬ ((tieN t h : Nat) : Int) = (h.length : Int) * ((h.length : Int) - 1) := h1
                rw [mul_pred _ hlen] at h2
                omega
              have hfm : fm = true := by
                cases q : fm with
                | true => rfl
                | false =>
                  cases q2 : f with
                  | false => exact absurd (h0.mpr ⟨q, q2⟩) hz
                  | true => exact absurd (hA.mpr ⟨q, q2⟩) hz2
              exact d_str <| a_nil ⟨by simp, fin _ (by rw [hfm]; rfl)⟩
  · subst e
    rw [List.take_length] at hks
    exact r_freeze (j := 2) rfl <| r_ret <| d_var rfl ⟨ks, rfl, hok, hks⟩
end
end K41
end
section
set_option linter.all false
set_option maxRecDepth 100000
/-! K41, the walks: _law_draw, _law_pick, _law_shuffled. -/
namespace K41
open PySem PySem.Spec PyProof.Rows L2
open Classical
theorem shaped_ints (xs : List Int) : SeqAt.shaped (.list (xs.map .int)) = true := shaped_list (fun d hd => by
  obtain ⟨_, _, rfl⟩ := List.mem_map.mp hd
  simp [PyData.canLay0]) fun d hd => by
  obtain ⟨_, _, rfl⟩ := List.mem_map.mp hd
  simp [PyData.depth]
/-! _law_draw: slots 0 _law_well_here, 1 _law_many, 2 _law_left, 3 _law_own, 4 _law_stirred; cells ; calls  -/
abbrev s_law_draw : Stmt := topS 34
theorem sc_law_draw : FnScope ["_law_well_here", "_law_many", "_law_left", "_law_own", "_law_stirred"] ["_law_well_here", "_law_many"] (defScope s_law_draw) := ⟨rfl, rfl, rfl, by decide +kernel, rfl, by decide +kernel, by decide +kernel⟩
abbrev spDraw (T : List (Addr × Str)) : Sp := spW T (ι := Nat) (fun m => m ≤ 1000) (fun m => [nD m]) fun m d => ∃ r : Nat, d = nD r ∧ r < max m 1
/-! _law_pick: slots 0 _law_well_here, 1 _law_items; cells ; calls _law_draw -/
abbrev s_law_pick : Stmt := topS 35
theorem sc_law_pick : FnScope ["_law_well_here", "_law_items"] ["_law_well_here", "_law_items"] (defScope s_law_pick) := ⟨rfl, rfl, rfl, by decide +kernel, rfl, by decide +kernel, by decide +kernel⟩
abbrev spPick (T : List (Addr × Str)) : Sp := spW T (ι := List PyData) (fun l => l ≠ [] ∧ l.length ≤ 1000) (fun l => [.list l]) fun l d => d ∈ l
/-! _law_shuffled: slots 0 _law_well_here, 1 _law_items, 2 _law_left, 3 _law_found, 4 _law_turn; cells ; calls _law_draw -/
abbrev s_law_shuffled : Stmt := topS 36
theorem sc_law_shuffled : FnScope ["_law_well_here", "_law_items", "_law_left", "_law_found", "_law_turn"] ["_law_well_here", "_law_items"] (defScope s_law_shuffled) := ⟨rfl, rfl, rfl, by decide +kernel, rfl, by decide +kernel, by decide +kernel⟩
abbrev spShuffled (T : List (Addr × Str)) : Sp := spW T (ι := List PyData) (fun l => l.length ≤ 900) (fun l => [.list l]) fun l d => ∃ l', d = .list l' ∧ l'.length = l.length ∧ ∀ x ∈ l', x ∈ l
theorem emod_nat (z : Int) {m : Nat} (h : 0 < m) : ∃ r : Nat, z % (m : Int) = (r : Int) ∧ r < m := by
  have h1 := Int.emod_nonneg z (b := (m : Int)) (by omega)
  have h2 := Int.emod_lt_of_pos z (b := (m : Int)) (by omega)
  exact ⟨(z % (m : Int)).toNat, by omega, by omega⟩
section
variable {T : List (Addr × Str)} {P : Program} {w : World} {K : PySem.W.Frag} {mg : Str → Option Value} {base : Heap}
theorem ok_law_draw {f : Addr} {fd : FuncData} (D : At' K mg "_law_draw" s_law_draw ["_law_well_here", "_law_many"] f fd) (Z : Zs mg) : Cal P w K mg base 1 "_law_draw" ["_law_well_here", "_law_many"] (spDraw T) f fd := by
  refine ⟨D.F.ok (k := 0) sc_law_draw (fun vs H Q E ⟨i, own, a, g, k, rest, e, _, _, _, _, hs, _⟩ => by rw [e, List.length_cons, hs.len]; rfl) fun cdv A outer s H vs Q E hr ⟨m, own, a, g, k, rest, e, hm, hd, hw, ⟨ys, xs, i, j, wl⟩, hs, q⟩ => ⟨_,
    (pss_cons (ps_if (pt_cmpR op_lt (pv 1) pe_int (nomark _))
      (pss_one (ps_ret pe_int))
      pss_nil)
    (pss_cons (ps_if (pt_cmpR (x_neD (K := K) rfl hr.units) (pe_ix (x_ix (K := K) rfl) (pv 0) pe_int (fun _ _ => rfl)) (pe_lst pa_nil) (nomark _))
      (pss_cons (ps_set (i := 2) sc_law_draw.nd rfl (.inl rfl) (pe_bm0 PySem.F.plainAttrs_list PySem.F.slot_list_pop PySem.F.type_list_pop mt_pop (pe_ix (x_ix (K := K) rfl) (pv 0) pe_int (fun _ _ => rfl))))
      (pss_cons (ps_if (pt_cmpR op_ge (pv 2) (pv 1) (nomark _))
        (pss_one (ps_expr (pe_bm PySem.F.plainAttrs_list PySem.F.slot_list_append PySem.F.type_list_append mt_append (pe_ix (x_ix (K := K) rfl) (pv 0) pe_int (fun _ _ => rfl)) (pa_cons (pe_op op_fdiv (pv 2) (pv 1)) pa_nil))))
        pss_nil)
      (pss_one (ps_ret (pe_op op_mod (pe_callTy call_int1 (by rfl) Z.int (by decide +kernel) (pa_cons (pv 2) pa_nil)) (pv 1))))))
      pss_nil)
    (pss_cons (ps_asg (pe_op op_add (pe_ix (x_ix (K := K) rfl) (pv 0) pe_int (fun _ _ => rfl)) pe_int) (pg_sub (pv 0) pe_int set_list))
    (pss_cons (ps_set (i := 3) sc_law_draw.nd rfl (.inl rfl) (pe_ix (x_ix (K := K) rfl) (pe_ix (x_ix (K := K) rfl) (pv 0) pe_int (fun _ _ => rfl)) (pe_op op_mod (pe_callTy call_int1 (by rfl) Z.int (by decide +kernel) (pa_cons (pe_ix (x_ix (K := K) rfl) (pv 0) pe_int (fun _ _ => rfl)) pa_nil)) (pe_callB (x_len (K := K) rfl) (by rfl) Z.len (by decide +kernel) (pa_cons (pe_ix (x_ix (K := K) rfl) (pv 0) pe_int (fun _ _ => rfl)) pa_nil))) (fun _ _ => rfl)))
    (pss_cons (ps_asg (pe_op op_mod (pe_callTy call_int1 (by rfl) Z.int (by decide +kernel) (pa_cons (pe_op op_add (pe_op op_add (pe_op op_mul (pe_ix (x_ix (K := K) rfl) (pv 0) pe_int (fun _ _ => rfl)) pe_int) (pe_op op_mul (pv 3) pe_int)) (pe_op op_mul (pe_ix (x_ix (K := K) rfl) (pv 0) pe_int (fun _ _ => rfl)) pe_int)) pa_nil)) pe_int) (pg_sub (pv 0) pe_int set_list))
    (pss_cons (ps_set (i := 4) sc_law_draw.nd rfl (.inl rfl) (pe_op op_mod (pe_callTy call_int1 (by rfl) Z.int (by decide +kernel) (pa_cons (pe_op op_add (pe_op op_add (pe_op op_mul (pe_ix (x_ix (K := K) rfl) (pv 0) pe_int (fun _ _ => rfl)) (pe_ix (x_ix (K := K) rfl) (pv 0) pe_int (fun _ _ => rfl))) (pe_op op_mul pe_int (pe_ix (x_ix (K := K) rfl) (pv 0) pe_int (fun _ _ => rfl)))) (pe_ix (x_ix (K := K) rfl) (pv 0) pe_int (fun _ _ => rfl))) pa_nil)) pe_int))
    (pss_one (ps_ret (pe_op op_mod (pe_callTy call_int1 (by rfl) Z.int (by decide +kernel) (pa_cons (pe_op op_fdiv (pv 4) pe_int) pa_nil)) (pv 1)))))))))),
    ?_⟩, D.m, D.F.kp, D.b⟩
  obtain ⟨x, rfl, hx⟩ := hs.one
  rw [hx.intAt] at e
  subst e
  have fin : ∀ (v : V) (S' : WS) H', (∃ r : Nat, v = .int (r : Int) ∧ r < max m 1) → S'.At T a g k H H' → Q v H' := fun v S' H' ⟨r, ev, hr⟩ w' => by
    subst ev
    exact q _ (nD r) H' ⟨r, rfl, hr⟩ w'.2 ⟨_, _, _, _, w'.1⟩ (.int _)
  suffices h : Wr T a g k H _ (L2.start ["_law_well_here", "_law_many", "_law_left", "_law_own", "_law_stirred"] [.ref a, .int (m : Int)]) ⟨ys, xs, i, j⟩ ⟨fun _ _ => False, fun v => ∃ r : Nat, v = .int (r : Int) ∧ r < max m 1⟩ from
    h H _ ⟨wl, Keep.refl⟩ (fun _ _ _ p => False.elim p) fin
  refine wr_seq <| wr_if <| wt_I0 <| wv_var rfl ⟨_, rfl, wv_c ⟨_, rfl, fun _ => wr_ret <| wv_c ⟨0, rfl, by omega⟩, fun e => wr_next ?_⟩⟩
  have hm2 : 2 ≤ m := by have := of_decide_eq_false e; omega
  have hpos : 0 < m := by omega
  refine wr_seq <| wr_if <| wt_some (shaped_ints xs) shaped_nil rfl ⟨fun e => ?_, fun e => wr_next ?_⟩
  · have hne : xs ≠ [] := fun z => by subst z; cases e
    have fin2 : ∀ (np : L2.St → WS → Prop) (z : Int) (S' : WS), Wr T a g k H (tRet (tOp (rI (fun _ j => 0 < j) fun i j => .int (i % j)) (tCB (fun xs H Q => (∃ i, xs = [.int i] ∧ Q (.int i) H) ∨ ∃ k, xs = [.bl k] ∧ Q (.int (if k then 1 else 0)) H) (tCons (tVar 2) tNil)) (tVar 1)))
        [some (.ref a), some (.int (m : Int)), some (.int z), none, none] S' ⟨np, fun v => ∃ r : Nat, v = .int (r : Int) ∧ r < max m 1⟩ := fun np z S' => by
      obtain ⟨r, er, hr⟩ := emod_nat z hpos
      exact wr_ret <| wv_I <| wv_int <| wv_var rfl ⟨z, rfl, z, rfl, wv_var rfl ⟨_, rfl, by omega, r, by rw [er], by omega⟩⟩
    refine wr_seq <| wr_pop hne rfl fun z => ?_
    refine wr_seq <| wr_if <| wt_I0 <| wv_var rfl ⟨z, rfl, wv_var rfl ⟨_, rfl, fun _ => ?_, fun _ => wr_next (fin2 _ z _)⟩⟩
    refine wr_push ?_ rfl <| wv_I <| wv_var rfl ⟨z, rfl, wv_var rfl ⟨_, rfl, ⟨by omega, by omega⟩, _, rfl, fin2 _ z _⟩⟩
    have := wl.lx
    show (xs.dropLast).length < 100
    rw [List.length_dropLast]
    have := List.length_pos_iff.mpr hne
    omega
  · refine wr_seq <| wr_set2 rfl <| wv_I0 <| wv_here (n := 2) rfl rfl ⟨i, rfl, wv_c ⟨1, rfl, _, rfl, ?_⟩⟩
    have ypos : 0 < ys.length := List.length_pos_iff.mpr wl.ne
    obtain ⟨r1, e1, h1⟩ := emod_nat (i + 1) ypos
    refine wr_seq <| wr_asg <| wv_known rfl <| wv_I <| wv_int <| wv_here (n := 2) rfl rfl ⟨i + 1, rfl, i + 1, rfl, wv_lenk rfl ⟨_, rfl, by show (0 : Int) < (ys.length : Int); omega, r1, congrArg V.int e1, h1, fun z => ?_⟩⟩
    refine wr_seq <| wr_set3 rfl <| wv_I <| wv_int <| wv_I0 <| wv_I0 <| wv_I <| wv_here (n := 3) rfl rfl ⟨j, rfl, wv_c ⟨_, rfl, .inr ⟨by omega, by omega⟩, _, rfl, wv_I <| wv_var rfl ⟨z, rfl, wv_c ⟨_, rfl, .inr ⟨by omega, by omega⟩, _, rfl, _, rfl, wv_I <| wv_here (n := 2) rfl rfl ⟨i + 1, rfl, wv_c ⟨_, rfl, .inr ⟨by omega, by omega⟩, _, rfl, _, rfl, _, rfl, wv_c ⟨_, rfl, by omega, _, rfl, ?_⟩⟩⟩⟩⟩⟩⟩
    generalize (j * 48271 + z * 69621 + (i + 1) * 40692) = X
    obtain ⟨r3, e3, h3⟩ := emod_nat X (m := 2147483629) (by omega)
    have e3' : X % 2147483629 = (r3 : Int) := e3
    rw [e3']
    refine wr_seq <| wr_asg <| wv_I <| wv_int <| wv_I0 <| wv_I0 <| wv_I <| wv_here (n := 3) rfl rfl ⟨r3, rfl, wv_here (n := 3) rfl rfl ⟨r3, rfl, .inr ⟨by omega, by omega⟩, _, rfl, wv_I <| wv_c ⟨_, rfl, wv_here (n := 3) rfl rfl ⟨r3, rfl, .inl ⟨by omega, by omega⟩, _, rfl, _, rfl, wv_here (n := 2) rfl rfl ⟨i + 1, rfl, _, rfl, _, rfl, wv_c ⟨_, rfl, by omega, ?_⟩⟩⟩⟩⟩⟩
    generalize ((r3 : Int) * r3 + 7 * r3 + (i + 1)) % 2147483587 = Y
    obtain ⟨r4, e4, h4⟩ := emod_nat (Y / 1024) hpos
    exact wr_ret <| wv_I <| wv_int <| wv_I <| wv_var rfl ⟨Y, rfl, wv_c ⟨1024, rfl, ⟨by omega, by omega⟩, _, rfl, _, rfl, wv_var rfl ⟨_, rfl, by omega, r4, congrArg V.int e4, by omega⟩⟩⟩
theorem ok_law_pick {f f1 : Addr} {fd fd1 : FuncData} (D : At' K mg "_law_pick" s_law_pick ["_law_well_here", "_law_items"] f fd) (Z : Zs mg) (C__law_draw : Cal P w K mg base 1 "_law_draw" ["_law_well_here", "_law_many"] (spDraw T) f1 fd1) :
    Cal P w K mg base 2 "_law_pick" ["_law_well_here", "_law_items"] (spPick T) f fd := by
  refine ⟨fn_W (k := 1) D.F sc_law_pick (fun _ => rfl) fun cdv A outer s H E hr => ⟨_,
    (pss_one (ps_ret (pe_ix (x_ix (K := K) rfl) (pv 1) (pe_call C__law_draw.G (hr.mono (by omega)) (by rfl) C__law_draw.m C__law_draw.kp C__law_draw.b .nil pass0 (pa_cons (pv 0) (pa_cons (pe_callB (x_len (K := K) rfl) (by rfl) Z.len (by decide +kernel) (pa_cons (pv 1) pa_nil)) pa_nil))) (fun _ _ => rfl)))),
    fun a g k l ⟨hne, hl⟩ => ?_⟩, D.m, D.F.kp, D.b⟩
  have hpos := List.length_pos_iff.mpr hne
  refine r_ret <| d_op <| d_var rfl <| d_wcall rfl <| a_cons <| d_callB <| a_v rfl <| a_nil <| rc_lenL <| a_nil ⟨l.length, hl, rfl, fun d ⟨r, ed, hr⟩ => ?_⟩
  subst ed
  have hrl : r < l.length := by omega
  exact rd_xL (List.getElem?_eq_getElem hrl) (List.getElem_mem hrl)
end
end K41
end
section
set_option linter.all false
set_option maxRecDepth 100000
/-! K41, the walks: _law_shuffled, _law_more. -/
namespace K41
open PySem PySem.Spec PyProof.Rows L2
open Classical
theorem Dats.erase {H : Hp} : ∀ {ds : List PyData} {vs : List V} (n : Nat), Dats H vs ds → Dats H (vs.eraseIdx n) (ds.eraseIdx n)
  | [], _, n, h => by cases h; exact .nil
  | _ :: _, _, 0, h => by cases h with | cons _ t => exact t
  | _ :: _, _, n + 1, h => by cases h with | cons a t => exact .cons a (Dats.erase n t)
section
variable {T : List (Addr × Str)} {M : Am T} {K : PySem.W.Frag} {Γ : Env'} {Po : Out → Prop} {te : TE}
/-- f.append(l.pop(k)), both owned -/
theorem r_appPop {i j : Nat} {ds es : List PyData} (hij : i ≠ j) (hj : Γ[j]? = some (some (.lst ds))) (hi : Γ[i]? = some (some (.lst es))) (hl : ds.length < 1000) (hle : es.length ≤ 1000)
    (r : EvD M te Γ fun d => ∃ (n : Nat) (e : PyData), d = nD n ∧ es[n]? = some e ∧ Po (.nx ((Γ.set i (some (.lst (es.eraseIdx n)))).set j (some (.lst (ds ++ [e])))))) :
    Run M (tDrop (tBM K "list" rAppend (tVar j) (tCons (tBM K "list" rPopAt (tVar i) (tCons te tNil)) tNil))) Γ Po := fun H0 O A σ H D S L => by
  obtain ⟨e1, _, xs0, h0, _⟩ := S.sit.cell j _ hj
  obtain ⟨e2, _, ys0, g0, _⟩ := S.sit.cell i _ hi
  refine ⟨_, e1, .inl ⟨rfl, _, SqL.of h0⟩, _, e2, .inl ⟨rfl, _, SqL.of g0⟩, r O A σ H _ S.sit fun v d H1 ⟨n, e, ed, he, p⟩ k iv hv => ?_⟩
  subst ed
  have S1 := S.step k iv
  obtain ⟨_, nOi, ys, g1, g2⟩ := S1.sit.cell i _ hi
  obtain ⟨y, hy, dy⟩ := g2.get2 he
  have hn : n < ys.length := (List.getElem?_eq_some_iff.mp hy).1
  have hylen : ys.length ≤ 1000 := by rw [g2.len]; exact hle
  obtain ⟨S2, c2⟩ := S1.writeL hi (g2.erase n)
  have hj2 : (Γ.set i (some (.lst (es.eraseIdx n))))[j]? = some (some (.lst ds)) := by rw [List.getElem?_set_ne hij]; exact hj
  obtain ⟨_, _, xs, f1, f2⟩ := S2.sit.cell j _ hj2
  obtain ⟨S3, c3⟩ := S2.writeL hj2 (f2.app (.cons (dy.up c2) .nil))
  refine ⟨A i, ys, (n : Int), n, y, rfl, by rw [hv.intAt], g1, by omega, by omega, (ixN_seq (ixN_nat hn)).1, hy, A j, xs, y, rfl, rfl, f1, by rw [f2.len]; exact small1000 (by omega), ?_⟩
  exact L.nx _ A σ _ p S3 (((S.cln k).trans c2).trans c3)
end
section
variable {T : List (Addr × Str)} {P : Program} {w : World} {K : PySem.W.Frag} {mg : Str → Option Value} {base : Heap}
theorem ok_law_shuffled {f f1 : Addr} {fd fd1 : FuncData} (D : At' K mg "_law_shuffled" s_law_shuffled ["_law_well_here", "_law_items"] f fd) (Z : Zs mg) (C__law_draw : Cal P w K mg base 1 "_law_draw" ["_law_well_here", "_law_many"] (spDraw T) f1 fd1) :
    Cal P w K mg base 2 "_law_shuffled" ["_law_well_here", "_law_items"] (spShuffled T) f fd := by
  refine ⟨fn_W (k := 1) D.F sc_law_shuffled (fun _ => rfl) fun cdv A outer s H E hr => ⟨_,
    (pss_cons (ps_par (i := 2) (j := 3) rfl sc_law_shuffled.nd rfl rfl (by decide) rfl rfl (pa_cons (pe_callTy (x_list (K := K) rfl) (by rfl) Z.list (by decide +kernel) (pa_cons (pv 1) pa_nil)) (pa_cons (pe_lst pa_nil) pa_nil)) (by rfl))
    (pss_cons (ps_for PassesOwn.never rfl (pi_range1 (by rfl) Z.range (pa_cons (pe_callB (x_len (K := K) rfl) (by rfl) Z.len (by decide +kernel) (pa_cons (pv 1) pa_nil)) pa_nil)) (pg_name (i := 4) sc_law_shuffled.nd rfl (.inl rfl))
      (pss_one (ps_expr (pe_bm PySem.F.plainAttrs_list PySem.F.slot_list_append PySem.F.type_list_append mt_append (pv 3) (pa_cons (pe_bm PySem.F.plainAttrs_list PySem.F.slot_list_pop PySem.F.type_list_pop mt_popAt (pv 2) (pa_cons (pe_call C__law_draw.G (hr.mono (by omega)) (by rfl) C__law_draw.m C__law_draw.kp C__law_draw.b .nil pass0 (pa_cons (pv 0) (pa_cons (pe_callB (x_len (K := K) rfl) (by rfl) Z.len (by decide +kernel) (pa_cons (pv 2) pa_nil)) pa_nil))) pa_nil)) pa_nil)))))
    (pss_one (ps_ret (pv 3))))),
    fun a g k l hl => ?_⟩, D.m, D.F.kp, D.b⟩
  refine r_seq <| r_parFF (by decide) (by simp [startW]) (by simp [startW]) (f_callB <| a_v rfl <| a_nil <| rcf_listL <| f_lst <| a_nil ⟨by simp, ?_⟩) fun σ x H Q h => h
  refine r_seq <| r_for <| i_rng1 <| a_cons <| d_callB <| a_v rfl <| a_nil <| rc_lenL <| a_nil ⟨l.length, rfl, by omega, ?_⟩
  refine ⟨fun m Γ1 => ∃ c4, ∃ ls fs : List PyData, Γ1 = [some (.raw (.ref a)), some (.dat (.list l)), some (.lst ls), some (.lst fs), c4] ∧ ls.length + m = l.length ∧ fs.length = m ∧ (∀ x ∈ ls, x ∈ l) ∧ ∀ x ∈ fs, x ∈ l,
    ⟨_, l, [], rfl, by omega, rfl, fun x h => h, fun x h => (nomatch h)⟩, fun m d Γ1 hd ⟨c4, ls, fs, e, h1, h2, h3, h4⟩ => ⟨[4], ?_⟩, fun Γ1 ⟨c4, ls, fs, e, h1, h2, h3, h4⟩ => ?_⟩
  · subst e
    have hm : m < l.length := by
      have := (List.getElem?_eq_some_iff.mp hd).1
      rwa [rngD_len] at this
    refine g_name (by simp) <| r_appPop (i := 2) (j := 3) (by decide) rfl rfl (by omega) (by omega) <| d_wcall rfl <| a_cons <| d_peek (j := 2) rfl <| d_callB <| a_v rfl <| a_nil <| rc_lenL ⟨trivial, a_nil ⟨ls.length, by show ls.length ≤ 1000; omega, rfl, fun d ⟨r, ed, hr⟩ => ?_⟩⟩
    have hrl : r < ls.length := by omega
    refine ⟨r, ls[r], ed, List.getElem?_eq_getElem hrl, _, ls.eraseIdx r, fs ++ [ls[r]], rfl, ?_, by simp; omega, fun x hx => h3 x (List.mem_of_mem_eraseIdx hx), fun x hx => ?_⟩
    · rw [List.length_eraseIdx_of_lt hrl]
      omega
    · rcases List.mem_append.mp hx with q | q
      · exact h4 x q
      · rw [List.mem_singleton.mp q]
        exact h3 _ (List.getElem_mem hrl)
  · subst e
    rw [rngD_len] at h2
    exact r_freeze (j := 3) rfl <| r_ret <| d_var rfl ⟨fs, rfl, h2, h4⟩
/-! _law_more: slots 0 _law_well_here, 1 _law_rows, 2 _law_way, 3 _law_like, 4 _law_bits, 5 _law_row, 6 _law_bit; cells _law_way _law_well_here; calls _law_draw -/
abbrev s_law_more : Stmt := topS 37
theorem sc_law_more : FnScope ["_law_well_here", "_law_rows", "_law_way", "_law_like", "_law_bits", "_law_row", "_law_bit"] ["_law_well_here", "_law_rows"] (defScope s_law_more) := ⟨rfl, rfl, rfl, by decide +kernel, rfl, by decide +kernel, by decide +kernel⟩
def mlL (n : Nat) (t : Nat → Nat → Bool) : List PyData := (List.range n).map fun x => .list (rowL n t x)
def bitL (n : Nat) (b : Nat → Bool) : List PyData := (List.range n).map fun x => bD (b x)
abbrev spMore (T : List (Addr × Str)) : Sp := spW T (ι := WebI) (fun i => Wb i.t ∧ 1 ≤ i.n ∧ i.n ≤ 8) (fun i => [.list (mlL i.n i.t)]) fun i d => ∃ t', Wb t' ∧ d = .list (mlL (i.n + 1) t')
def addT (n : Nat) (t : Nat → Nat → Bool) (b : Nat → Bool) (x y : Nat) : Bool := if x < n then (if y < n then t x y else if y = n then b x else false) else if x = n then (if y < n then b y else false) else false
theorem wb_add {n : Nat} {t : Nat → Nat → Bool} (w : Wb t) (b : Nat → Bool) : Wb (addT n t b) where
  sym := fun x y => by
    unfold addT
    by_cases hx : x < n <;> by_cases hy : y < n
    · simp [hx, hy, w.sym x y]
    · by_cases e : y = n <;> simp [hx, hy, e]
    · by_cases e : x = n <;> simp [hx, hy, e]
    · by_cases e : x = n <;> by_cases e' : y = n <;> simp [hx, hy, e, e']
  irr := fun x => by
    unfold addT
    by_cases hx : x < n
    · simp [hx, w.irr x]
    · by_cases e : x = n <;> simp [hx, e]
theorem mlL_add {n : Nat} {t : Nat → Nat → Bool} {b : Nat → Bool} : ((List.range n).map fun x => PyData.list (rowL n t x ++ [bD (b x)])) ++ [PyData.list (bitL n b ++ [.int 0])] = mlL (n + 1) (addT n t b) := by
  unfold mlL rowL bitL
  rw [List.range_succ, List.map_append]
  congr 1
  · refine List.map_congr_left fun x hx => ?_
    have hx' := List.mem_range.mp hx
    rw [List.map_append]
    congr 1
    congr 1
    · refine List.map_congr_left fun y hy => ?_
      have hy' := List.mem_range.mp hy
      simp [addT, hx', hy']
    · simp [addT, hx']
  · rw [List.map_cons, List.map_nil, List.map_append]
    congr 1
    congr 1
    congr 1
    · refine List.map_congr_left fun y hy => ?_
      have hy' := List.mem_range.mp hy
      simp [addT, hy']
    · simp [addT, bD]
theorem zipD_range (g h : Nat → PyData) (n : Nat) : zipD ((List.range n).map g) ((List.range n).map h) = (List.range n).map fun x => .tuple [g x, h x] := by
  have go : ∀ l : List Nat, zipD (l.map g) (l.map h) = l.map fun x => .tuple [g x, h x] := fun l => by
    induction l with
    | nil => rfl
    | cons x l ih => rw [List.map_cons, List.map_cons, List.map_cons, zipD, ih]
  exact go _
theorem bitL_len (n : Nat) (b : Nat → Bool) : (bitL n b).length = n := by unfold bitL; simp
theorem bD_dec (p : Prop) [Decidable p] : PyData.int (if decide p = true then 1 else 0) = bD (decide p) := rfl
theorem ok_law_more {f f1 : Addr} {fd fd1 : FuncData} (D : At' K mg "_law_more" s_law_more ["_law_well_here", "_law_rows"] f fd) (Z : Zs mg) (C__law_draw : Cal P w K mg base 1 "_law_draw" ["_law_well_here", "_law_many"] (spDraw T) f1 fd1) :
    Cal P w K mg base 2 "_law_more" ["_law_well_here", "_law_rows"] (spMore T) f fd := by
  refine ⟨fn_W (k := 1) D.F sc_law_more (fun _ => rfl) fun cdv A outer s H E hr => ⟨_,
    (pss_cons (ps_asg (pe_tup (pa_cons (pe_call C__law_draw.G (hr.mono (by omega)) (by rfl) C__law_draw.m C__law_draw.kp C__law_draw.b .nil pass0 (pa_cons (pv 0) (pa_cons pe_int pa_nil))) (pa_cons (pe_call C__law_draw.G (hr.mono (by omega)) (by rfl) C__law_draw.m C__law_draw.kp C__law_draw.b .nil pass0 (pa_cons (pv 0) (pa_cons (pe_callB (x_len (K := K) rfl) (by rfl) Z.len (by decide +kernel) (pa_cons (pv 1) pa_nil)) pa_nil))) pa_nil))) (xg_tup (K := K) (n := 2) rfl rfl (pgs_cons (pg_name (i := 2) sc_law_more.nd rfl (.inr rfl)) (pgs_cons (pg_name (i := 3) sc_law_more.nd rfl (.inl rfl)) pgs_nil))))
    (pss_cons (ps_setLc (i := 4) (own := [("_law_row", 5)]) rfl sc_law_more.nd rfl rfl (sw_true rfl rfl rfl (by decide +kernel)) (xi_seq (K := K) rfl (pv 1)) (blkOk_by (by kernel_rfl)) (fun _ _ _ _ _ => (pg_name (i := 5) sc_law_more.nd rfl (by first | exact Or.inl rfl | exact Or.inr rfl))) (fun _ _ _ _ _ => pts_nil) (fun _ _ _ _ _ => (pe_callTy call_int1 (by rfl) Z.int (by decide +kernel) (pa_cons (pe_cmpR op_eq (pv 2) pe_int (nomark _)) pa_nil))))
    (pss_cons (ps_if (pt_cmpR op_lt (pv 2) pe_int (nomark _))
      (pss_cons (ps_set (i := 4) sc_law_more.nd rfl (.inl rfl) (pe_callTy (x_list (K := K) rfl) (by rfl) Z.list (by decide +kernel) (pa_cons (pe_ix (x_ix (K := K) rfl) (pv 1) (pv 3) (fun _ _ => rfl)) pa_nil)))
      (pss_one (ps_asg (pe_op op_mod (pe_callTy call_int1 (by rfl) Z.int (by decide +kernel) (pa_cons (pv 2) pa_nil)) pe_int) (pg_sub (pv 4) (pv 3) set_list))))
      pss_nil)
    (pss_cons (ps_if (pt_cmpR op_eq (pv 2) pe_int (nomark _))
      (pss_one (ps_setLc (i := 4) (own := [("_law_row", 5)]) rfl sc_law_more.nd rfl rfl (sw_true rfl rfl rfl (by decide +kernel)) (xi_seq (K := K) rfl (pv 1)) (blkOk_by (by kernel_rfl)) (fun _ _ _ _ _ => (pg_name (i := 5) sc_law_more.nd rfl (by first | exact Or.inl rfl | exact Or.inr rfl))) (fun _ _ _ _ _ => pts_nil) (fun _ _ _ _ _ => (pe_call C__law_draw.G (hr.mono (by omega)) (by rfl) C__law_draw.m C__law_draw.kp C__law_draw.b .nil pass0 (pa_cons (pv 0) (pa_cons pe_int pa_nil))))))
      pss_nil)
    (pss_one (ps_ret (pe_op op_cat (pe_lc (own := [("_law_row", 5), ("_law_bit", 6)]) rfl sc_law_more.nd (pi_zip (by rfl) Z.zip (pa_cons (pv 1) (pa_cons (pv 4) pa_nil))) (blkOk_by (by kernel_rfl)) (fun _ _ _ _ _ => (xg_tup (K := K) (n := 2) rfl rfl (pgs_cons (pg_name (i := 5) sc_law_more.nd rfl (by first | exact Or.inl rfl | exact Or.inr rfl)) (pgs_cons (pg_name (i := 6) sc_law_more.nd rfl (by first | exact Or.inl rfl | exact Or.inr rfl)) pgs_nil)))) (fun _ _ _ _ _ => pts_nil) (fun _ _ _ _ _ => (pe_op op_cat (pv 5) (pe_lst (pa_cons (pv 6) pa_nil))))) (pe_lst (pa_cons (pe_op op_cat (pv 4) (pe_lst (pa_cons pe_int pa_nil))) pa_nil))))))))),
    fun a g k i ⟨w, h1, hn⟩ => ?_⟩, D.m, D.F.kp, D.b⟩
  obtain ⟨n, t, l0, o, x, y⟩ := i
  simp only at w h1 hn ⊢
  have mlen : (mlL n t).length = n := by unfold mlL; simp
  refine r_seq <| r_asgG (S := [2, 3]) <| d_tup <| a_cons <| d_wcall rfl <| a_cons <| d_int <| a_nil ⟨7, by show 7 ≤ 1000; omega, rfl, fun d ⟨way, ed, hway⟩ => a_cons <| d_wcall rfl <| a_cons <| d_callB <| a_v rfl <| a_nil <| rc_lenL <| a_nil ⟨n, by show n ≤ 1000; omega, by rw [mlen]; rfl, fun d' ⟨like, ed', hlike⟩ => a_nil ⟨by simp, ?_⟩⟩⟩
  subst ed ed'
  have hl : like < n := by omega
  refine g_tup rfl <| gs_cons <| g_name (by simp) <| gs_cons <| g_name (by simp) <| gs_nil ?_
  -- what stands before the third test, before the last statement
  have last : ∀ b : Nat → Bool, Run (AmW T a g k) (tRet (tOp rCat (tLc (iZip K (tCons (tVar 1) (tCons (tVar 4) tNil))) (gTup K 2 (gCons (gName 5) (gCons (gName 6) gNil))) tYes (tOp rCat (tVar 5) (tLst (tCons (tVar 6) tNil))) [5, 6]) (tLst (tCons (tOp rCat (tVar 4) (tLst (tCons (tC (.int 0)) tNil))) tNil))))
      [some (.raw (.ref a)), some (.dat (.list (mlL n t))), some (.dat (nD way)), some (.dat (nD like)), some (.lst (bitL n b)), none, none] (Fin' fun d => ∃ t', Wb t' ∧ d = .list (mlL (n + 1) t')) := fun b => by
    refine r_freeze (j := 4) rfl <| r_ret <| d_op <| d_ofF <| f_mapA (List.range n) (fun x => .tuple [.list (rowL n t x), bD (b x)]) (fun x => .list (rowL n t x ++ [bD (b x)])) rfl (by simp; omega) (i_zip <| a_v rfl <| a_v rfl <| a_nil ⟨_, _, rfl, zipD_range _ _ n⟩) (fun x hx => ?_) <| d_ofF <| f_lst <| a_cons <| d_op <| d_var rfl <| d_ofF <| f_lst <| a_cons <| d_int <| a_nil ⟨by simp, rd_cat (by rw [bitL_len]; simp; omega) <| a_nil ⟨by simp, rd_cat (by simp; omega) ⟨_, wb_add w b, congrArg PyData.list mlL_add⟩⟩⟩
    exact g_tup rfl <| gs_cons <| g_name (by simp) <| gs_cons <| g_name (by simp) <| gs_nil <| d_op <| d_var rfl <| d_ofF <| f_lst <| a_v rfl <| a_nil ⟨by simp, rd_cat (by unfold rowL; simp; omega) rfl⟩
  have third : ∀ b : Nat → Bool, Run (AmW T a g k) (tSeq (tIfS (tTest (tOp rEq (tVar 2) (tC (.int 6)))) (tAsg (tLc (iSeq K (tVar 1)) (gName 5) tYes (tCall (spDraw T) [] E0 (tCons (tVar 0) (tCons (tC (.int 2)) tNil))) [5]) (gName 4)) tNext)
        (tRet (tOp rCat (tLc (iZip K (tCons (tVar 1) (tCons (tVar 4) tNil))) (gTup K 2 (gCons (gName 5) (gCons (gName 6) gNil))) tYes (tOp rCat (tVar 5) (tLst (tCons (tVar 6) tNil))) [5, 6]) (tLst (tCons (tOp rCat (tVar 4) (tLst (tCons (tC (.int 0)) tNil))) tNil)))))
      [some (.raw (.ref a)), some (.dat (.list (mlL n t))), some (.dat (nD way)), some (.dat (nD like)), some (.lst (bitL n b)), none, none] (Fin' fun d => ∃ t', Wb t' ∧ d = .list (mlL (n + 1) t')) := fun b => by
    refine r_seq <| r_if <| t_test <| d_op <| d_var rfl <| d_int <| rd_eq ⟨_, rfl, fun _ => ?_, fun _ => r_next (last b)⟩
    refine r_asgF (by simp) <| f_lc rfl <| i_seqL <| d_var rfl ⟨_, rfl, by rw [mlen]; omega, fun k acc => ∃ b : Nat → Bool, acc = bitL k b, ⟨b, rfl⟩, fun k x acc hx ⟨b', ha⟩ => ?_, fun acc ⟨b', ha⟩ => ?_⟩
    · refine g_name (by simp) fun O A σ H Q S ff => ff true H ⟨fun z => (nomatch z), fun _ => ?_⟩ Keep.refl S.inv
      refine d_wcall rfl <| a_cons <| d_int <| a_nil ⟨2, by show 2 ≤ 1000; omega, rfl, fun d ⟨r, ed, hr⟩ => ⟨fun x => if x = k then decide (r = 1) else b' x, ?_⟩⟩
      subst ed ha
      unfold bitL
      rw [List.range_succ, List.map_append]
      congr 1
      · exact List.map_congr_left fun x hx => by
          have : ¬ x = k := by have := List.mem_range.mp hx; omega
          simp [this]
      · have : r = 0 ∨ r = 1 := by omega
        rcases this with e | e <;> subst e <;> simp [bD, nD]
    · rw [mlen] at ha
      subst ha
      exact last b'
  refine r_seq <| r_asgF (by simp [startW]) <| f_mapA (List.range n) (fun x => .list (rowL n t x)) (fun x => bD (decide (way = 4))) rfl (by simp; omega) (i_seqL <| d_var rfl ⟨_, rfl, rfl⟩) (fun x hx => g_name (by simp) <| d_callB <| a_cons <| d_op <| d_var rfl <| d_int <| rd_eq <| a_nil <| rc_intB ?_) ?_
  · have : decide ((way : Int) = 4) = decide (way = 4) := decide_eq_decide.mpr (by omega)
    rw [this]
    rfl
  · show Run _ _ _ _
    refine r_seq <| r_if <| t_test <| d_op <| d_var rfl <| d_int <| rd_I0 (.bl _) ⟨_, rfl, fun _ => ?_, fun _ => r_next (third fun _ => decide (way = 4))⟩
    refine r_seq <| r_asgF (by simp [startW]) <| f_callB <| a_cons <| d_op <| d_var rfl <| d_var rfl <| rd_xL (k := like) (d := .list (rowL n t like)) (by unfold mlL; rw [List.getElem?_map, List.getElem?_range hl]; rfl) <| a_nil <| rcf_listL ?_
    refine r_setL (j := 4) rfl <| d_op <| d_callB <| a_v rfl <| a_nil <| rc_int <| d_int <| rd_I (by omega) (.int _) <| d_var rfl ⟨like, rfl, by unfold rowL; simpa using hl, ?_⟩
    have e : (rowL n t like).set like (.int ((way : Int) % 2)) = bitL n fun x => if x = like then decide (way % 2 = 1) else t like x := by
      unfold rowL bitL
      apply List.ext_getElem?
      intro i
      by_cases hi : i < n
      · by_cases e : like = i
        · subst e
          rw [List.getElem?_set_self (by simpa using hi), List.getElem?_map, List.getElem?_range hi]
          have h2 : (way : Int) % 2 = ((way % 2 : Nat) : Int) := by omega
          have h3 : way % 2 = 0 ∨ way % 2 = 1 := by omega
          rw [h2]
          rcases h3 with q | q <;> simp [bD, q]
        · rw [List.getElem?_set_ne e, List.getElem?_map, List.getElem?_range hi, List.getElem?_map, List.getElem?_range hi]
          have : ¬ i = like := fun z => e z.symm
          simp [this]
      · rw [List.getElem?_eq_none (by simp; omega), List.getElem?_eq_none (by simp; omega)]
    have h2 := third fun x => if x = like then decide (way % 2 = 1) else t like x
    rw [← e] at h2
    exact h2
end
end K41
end
section
set_option linter.all false
set_option maxRecDepth 100000
/-! K41, the walks: _law_web. -/
namespace K41
open PySem PySem.Spec PyProof.Rows L2
open Classical
/-! _law_web: slots 0 _law_well_here, 1 _law_size, 2 _law_base, 3 _law_far, 4 _law_rows, 5 _law_turn, 6 _law_names, 7 _law_x, 8 _law_y -/
abbrev s_law_web : Stmt := topS 38
theorem sc_law_web : FnScope ["_law_well_here", "_law_size", "_law_base", "_law_far", "_law_rows", "_law_turn", "_law_names", "_law_x", "_law_y"] ["_law_well_here", "_law_size"] (defScope s_law_web) := ⟨rfl, rfl, rfl, by decide +kernel, rfl, by decide +kernel, by decide +kernel⟩
abbrev spWeb (T : List (Addr × Str)) : Sp := spW T (ι := Nat) (fun m => m ≤ 8) (fun m => [nD m]) fun m d => ∃ t, Wb t ∧ d = tabD m t
def dist (x y : Nat) : Nat := if x ≤ y then y - x else x - y
def ringT (f x y : Nat) : Bool := decide (dist x y = 1) || decide (dist x y = f)
theorem wb_ring {f : Nat} (hf : 1 ≤ f) : Wb (ringT f) where
  sym := fun x y => by
    have : dist x y = dist y x := by unfold dist; split <;> split <;> omega
    unfold ringT
    rw [this]
  irr := fun x => by
    have : dist x x = 0 := by unfold dist; simp
    unfold ringT
    rw [this]
    have h1 : ¬ 0 = f := by omega
    simp [h1]
theorem abs_dist (x y : Nat) : (if (x : Int) - (y : Int) < 0 then -((x : Int) - (y : Int)) else (x : Int) - (y : Int)) = ((dist x y : Nat) : Int) := by
  unfold dist
  split <;> split <;> omega
theorem names_of {l : List PyData} {n : Nat} (h : ∀ x ∈ l, x ∈ (List.range n).map nD) : ∃ ns : List Nat, l = ns.map nD ∧ ∀ x ∈ ns, x < n := by
  induction l with
  | nil => exact ⟨[], rfl, fun x h => (nomatch h)⟩
  | cons d l ih =>
    obtain ⟨ns, e, h2⟩ := ih fun x hx => h x (List.mem_cons_of_mem _ hx)
    obtain ⟨x, hx, rfl⟩ := List.mem_map.mp (h d List.mem_cons_self)
    exact ⟨x :: ns, by rw [e]; rfl, fun y hy => (List.mem_cons.mp hy).elim (fun q => by rw [q]; exact List.mem_range.mp hx) (h2 y)⟩
section
variable {T : List (Addr × Str)} {P : Program} {w : World} {K : PySem.W.Frag} {mg : Str → Option Value} {base : Heap}
theorem ok_law_web {f f1 f2 f3 f4 : Addr} {fd fd1 fd2 fd3 fd4 : FuncData} (D : At' K mg "_law_web" s_law_web ["_law_well_here", "_law_size"] f fd) (Z : Zs mg) (C__law_pick : Cal P w K mg base 2 "_law_pick" ["_law_well_here", "_law_items"] (spPick T) f1 fd1)
    (C__law_draw : Cal P w K mg base 1 "_law_draw" ["_law_well_here", "_law_many"] (spDraw T) f2 fd2) (C__law_more : Cal P w K mg base 2 "_law_more" ["_law_well_here", "_law_rows"] (spMore T) f3 fd3)
    (C__law_shuffled : Cal P w K mg base 2 "_law_shuffled" ["_law_well_here", "_law_items"] (spShuffled T) f4 fd4) :
    Cal P w K mg base 3 "_law_web" ["_law_well_here", "_law_size"] (spWeb T) f fd := by
  refine ⟨fn_W (k := 2) D.F sc_law_web (fun _ => rfl) fun cdv A outer s H E hr => ⟨_,
    (pss_cons (ps_set (i := 2) sc_law_web.nd rfl (.inr rfl) (pe_call C__law_pick.G (hr.mono (by omega)) (by rfl) C__law_pick.m C__law_pick.kp C__law_pick.b .nil pass0 (pa_cons (pv 0) (pa_cons (pe_lst (pa_cons pe_int (pa_cons pe_int (pa_cons pe_int (pa_cons pe_int (pa_cons pe_int (pa_cons pe_int pa_nil))))))) pa_nil))))
    (pss_cons (ps_if (pt_cmpR op_eq (pv 1) pe_int (nomark _))
      (pss_one (ps_ret (pe_tup (pa_cons pe_int (pa_cons (pe_tup pa_nil) pa_nil)))))
      pss_nil)
    (pss_cons (ps_set (i := 2) sc_law_web.nd rfl (.inr rfl) (pe_ifExp (pt_cmpR op_le (pv 2) (pv 1) (nomark _)) (pv 2) pe_int))
    (pss_cons (ps_set (i := 3) sc_law_web.nd rfl (.inr rfl) (pe_ifExp (PW.pt (pw_and (pt_cmpR op_gt (pv 2) pe_int (nomark _)) (pw_and1 (pt_cmpR op_eq (pe_call C__law_draw.G (hr.mono (by omega)) (by rfl) C__law_draw.m C__law_draw.kp C__law_draw.b .nil pass0 (pa_cons (pv 0) (pa_cons pe_int pa_nil))) pe_int (nomark _))))) (pe_op op_sub (pv 2) pe_int) pe_int))
    (pss_cons (ps_set (i := 4) sc_law_web.nd rfl (.inr rfl) (pe_lc (own := [("_law_x", 7)]) rfl sc_law_web.nd (pi_range1 (by rfl) Z.range (pa_cons (pv 2) pa_nil)) (blkOk_by (by kernel_rfl)) (fun _ _ _ _ _ => (pg_name (i := 7) sc_law_web.nd rfl (by first | exact Or.inl rfl | exact Or.inr rfl))) (fun _ _ _ _ _ => pts_nil) (fun _ _ _ _ _ => (pe_lc (own := [("_law_y", 8)]) rfl sc_law_web.nd (pi_range1 (by rfl) Z.range (pa_cons (pv 2) pa_nil)) (blkOk_by (by kernel_rfl)) (fun _ _ _ _ _ => (pg_name (i := 8) sc_law_web.nd rfl (by first | exact Or.inl rfl | exact Or.inr rfl))) (fun _ _ _ _ _ => pts_nil) (fun _ _ _ _ _ => (pe_callTy call_int1 (by rfl) Z.int (by decide +kernel) (pa_cons (pe_cmpR (x_in (K := K) rfl) (pe_callB call_abs (by rfl) Z.abs (by decide +kernel) (pa_cons (pe_op op_sub (pv 7) (pv 8)) pa_nil)) (pe_tup (pa_cons pe_int (pa_cons (pv 3) pa_nil))) (by rfl)) pa_nil)))))))
    (pss_cons (ps_for PassesOwn.never rfl (pi_range1 (by rfl) Z.range (pa_cons (pe_op op_sub (pv 1) (pv 2)) pa_nil)) (pg_name (i := 5) sc_law_web.nd rfl (.inl rfl))
      (pss_one (ps_set (i := 4) sc_law_web.nd rfl (.inr rfl) (pe_call C__law_more.G (hr.mono (by omega)) (by rfl) C__law_more.m C__law_more.kp C__law_more.b .nil pass0 (pa_cons (pv 0) (pa_cons (pv 4) pa_nil))))))
    (pss_cons (ps_set (i := 6) sc_law_web.nd rfl (.inr rfl) (pe_call C__law_shuffled.G (hr.mono (by omega)) (by rfl) C__law_shuffled.m C__law_shuffled.kp C__law_shuffled.b .nil pass0 (pa_cons (pv 0) (pa_cons (pe_listRg rfl (by rfl) Z.list (prg_1 (by rfl) Z.range (pv 1))) pa_nil))))
    (pss_one (ps_ret (pe_tup (pa_cons (pv 1) (pa_cons (pe_callTy (x_tuple (K := K) rfl) (by rfl) Z.tuple (by decide +kernel) (pa_cons (pe_lc (own := [("_law_x", 7)]) rfl sc_law_web.nd (xi_seq (K := K) rfl (pv 6)) (blkOk_by (by kernel_rfl)) (fun _ _ _ _ _ => (pg_name (i := 7) sc_law_web.nd rfl (by first | exact Or.inl rfl | exact Or.inr rfl))) (fun _ _ _ _ _ => pts_nil) (fun _ _ _ _ _ => (pe_callTy (x_tuple (K := K) rfl) (by rfl) Z.tuple (by decide +kernel) (pa_cons (pe_lc (own := [("_law_y", 8)]) rfl sc_law_web.nd (xi_seq (K := K) rfl (pv 6)) (blkOk_by (by kernel_rfl)) (fun _ _ _ _ _ => (pg_name (i := 8) sc_law_web.nd rfl (by first | exact Or.inl rfl | exact Or.inr rfl))) (fun _ _ _ _ _ => pts_nil) (fun _ _ _ _ _ => (pe_ix (x_ix (K := K) rfl) (pe_ix (x_ix (K := K) rfl) (pv 4) (pv 7) (fun _ _ => rfl)) (pv 8) (fun _ _ => rfl)))) pa_nil)))) pa_nil)) pa_nil)))))))))))),
    fun a g k n hn => ?_⟩, D.m, D.F.kp, D.b⟩
  refine r_seq <| r_asg <| d_wcall rfl <| a_cons <| d_ofF <| f_lst <| a_cons <| d_int <| a_cons <| d_int <| a_cons <| d_int <| a_cons <| d_int <| a_cons <| d_int <| a_cons <| d_int <| a_nil ⟨by simp, a_nil ⟨[nD 1, nD 1, nD 1, nD 4, nD 4, nD 5], ⟨by simp, by simp⟩, rfl, fun d hd => ?_⟩⟩
  obtain ⟨b0, ed, hb0⟩ : ∃ b : Nat, d = nD b ∧ (b = 1 ∨ b = 4 ∨ b = 5) := by
    simp only [List.mem_cons, List.not_mem_nil, or_false] at hd
    rcases hd with e | e | e | e | e | e
    · exact ⟨1, e, by omega⟩
    · exact ⟨1, e, by omega⟩
    · exact ⟨1, e, by omega⟩
    · exact ⟨4, e, by omega⟩
    · exact ⟨4, e, by omega⟩
    · exact ⟨5, e, by omega⟩
  subst ed
  refine r_seq <| r_if <| t_test <| d_op <| d_var rfl <| d_int <| rd_eq ⟨_, rfl, fun e => ?_, fun e => r_next ?_⟩
  · have : n = 0 := by have := of_decide_eq_true e; omega
    subst this
    exact r_ret <| d_tup <| a_cons <| d_int <| a_cons <| d_tup <| a_nil ⟨by simp, a_nil ⟨by simp, fun _ _ => false, ⟨fun _ _ => rfl, fun _ => rfl⟩, rfl⟩⟩
  have h1 : 1 ≤ n := by have := of_decide_eq_false e; omega
  -- the base that fits
  refine r_seq <| r_asg <| EvD.mono (P := fun d => ∃ b : Nat, d = nD b ∧ 1 ≤ b ∧ b ≤ n) ?_ fun d ⟨b, ed, hb1, hbn⟩ => ?_
  · refine d_if <| t_test <| d_op <| d_var rfl <| d_var rfl <| rd_I0 (.bl _) ⟨_, rfl, fun e => d_var rfl ⟨b0, rfl, by omega, ?_⟩, fun _ => d_int ⟨1, rfl, by omega, h1⟩⟩
    have := of_decide_eq_true e
    omega
  subst ed
  refine r_seq <| r_asg <| EvD.mono (P := fun d => ∃ fr : Nat, d = nD fr ∧ 1 ≤ fr) ?_ fun d ⟨fr, ed, hfr⟩ => ?_
  · refine d_if <| t_and <| t_test <| d_op <| d_var rfl <| d_int <| rd_I0 (.bl _) ⟨_, rfl, fun _ => ⟨fun e2 => (nomatch e2), fun _ => d_int ⟨1, rfl, by omega⟩⟩, fun e => t_test <| d_op <| d_wcall rfl <| a_cons <| d_int <| a_nil ⟨4, by show 4 ≤ 1000; omega, rfl, fun d ⟨r, ed, hr⟩ => ?_⟩⟩
    subst ed
    have hb3 : 3 < b := by have := of_decide_eq_true e; omega
    refine d_int <| rd_eq ⟨_, rfl, fun _ => d_op <| d_var rfl <| d_int <| rd_I0 (.int _) ⟨b - 1, ?_, by omega⟩, fun _ => d_int ⟨1, rfl, by omega⟩⟩
    have : (b : Int) - 1 = ((b - 1 : Nat) : Int) := by omega
    rw [this]
    rfl
  subst ed
  refine r_seq <| r_asg <| d_ofF <| f_mapA (List.range b) nD (fun x => .list (rowL b (ringT fr) x)) rfl (by simp; omega) (i_range (by omega) (a_v rfl (a_nil rfl)) rfl) (fun x hx => g_name (by simp) <| d_ofF <| f_mapA (List.range b) nD (fun y => bD (ringT fr x y)) rfl (by simp; omega) (i_range (by omega) (a_v rfl (a_nil rfl)) rfl) (fun y hy => g_name (by simp) ?_) rfl) ?_
  · refine d_callB <| a_cons <| d_op <| d_callB <| a_cons <| d_op <| d_var rfl <| d_var rfl <| rd_I0 (.int _) <| a_nil <| rc_abs <| d_tup <| a_cons <| d_int <| a_v rfl <| a_nil ⟨by simp, rd_inT (ns := [1, (fr : Int)]) <| a_nil <| rc_intB ?_⟩
    rw [abs_dist]
    have : decide (((dist x y : Nat) : Int) ∈ [1, (fr : Int)]) = ringT fr x y := by
      unfold ringT
      rw [← Bool.decide_or]
      refine decide_eq_decide.mpr ?_
      simp only [List.mem_cons, List.not_mem_nil, or_false]
      omega
    show PyData.int (if decide (((dist x y : Nat) : Int) ∈ [1, (fr : Int)]) = true then 1 else 0) = bD (ringT fr x y)
    rw [this]
    rfl
  · refine r_seq <| r_for <| i_rng1 <| a_cons <| d_op <| d_var rfl <| d_var rfl <| rd_I0 (.int _) <| a_nil ⟨n - b, ?_, by omega, ?_⟩
    · have : (n : Int) - (b : Int) = ((n - b : Nat) : Int) := by omega
      rw [this]
    refine ⟨fun m Γ1 => ∃ c5, ∃ t, Wb t ∧ Γ1 = [some (.raw (.ref a)), some (.dat (nD n)), some (.dat (nD b)), some (.dat (nD fr)), some (.dat (.list (mlL (b + m) t))), c5, none, none, none],
      ⟨_, ringT fr, wb_ring hfr, rfl⟩, fun m d Γ1 hd ⟨c5, t, w, e⟩ => ⟨[5], ?_⟩, fun Γ1 ⟨c5, t, w, e⟩ => ?_⟩
    · subst e
      have hm : m < n - b := by
        have := (List.getElem?_eq_some_iff.mp hd).1
        rwa [rngD_len] at this
      refine g_name (by simp) <| r_asg <| d_wcall rfl <| a_v rfl <| a_nil ⟨⟨b + m, t, [], 0, 0, 0⟩, ⟨w, by show 1 ≤ b + m; omega, by show b + m ≤ 8; omega⟩, rfl, fun d' ⟨t', w', ed⟩ => ?_⟩
      subst ed
      exact ⟨some (.dat d), t', w', rfl⟩
    · subst e
      rw [rngD_len, show b + (n - b) = n by omega]
      refine r_seq <| r_asg <| d_wcall rfl <| a_cons <| d_ofF <| f_lstRg <| d_var rfl ⟨n, rfl, by omega, a_nil ⟨(List.range n).map nD, by show ((List.range n).map nD).length ≤ 900; simp; omega, rfl, fun d' ⟨l', ed, hl1, hl2⟩ => ?_⟩⟩
      obtain ⟨ns, en, hns⟩ := names_of hl2
      subst ed en
      have hnl : ns.length = n := by simpa using hl1
      have h8 : ns.length ≤ 8 := by omega
      refine r_ret <| d_tup <| a_v rfl <| a_cons <| d_callB <| a_cons <| d_ofF <| f_mapA ns nD (fun x => .tuple (ns.map fun y => bD (t x y))) rfl (by omega) (i_seqL <| d_var rfl ⟨_, rfl, rfl⟩) (fun x hx => g_name (by simp) <| d_callB <| a_cons <| d_ofF <| f_mapA ns nD (fun y => bD (t x y)) rfl (by omega) (i_seqL <| d_var rfl ⟨_, rfl, rfl⟩) (fun y hy => g_name (by simp) ?_) <| a_nil <| rc_tupOf rfl) <| a_nil <| rc_tupOf <| a_nil ⟨by simp, pt t ns, w.part ns, ?_⟩
      · have hx' := hns x hx
        have hy' := hns y hy
        exact d_op <| d_op <| d_var rfl <| d_var rfl <| rd_xL (k := x) (d := .list (rowL n t x)) (by unfold mlL; rw [List.getElem?_map, List.getElem?_range hx']; rfl) <| d_var rfl <| rd_xL (row_at hy') rfl
      · show PyData.tuple [nD n, .tuple _] = .tuple [nD n, rowsD n (pt t ns)]
        unfold rowsD
        have := part_rows t ns
        rw [hnl] at this
        rw [this]
end
end K41
end
section
set_option linter.all false
set_option maxRecDepth 100000
/-! K41, the walks: _law_well. -/
namespace K41
open PySem PySem.Spec PyProof.Rows L2
open Classical
/-! _law_well: slots 0 _law_script, 1 _law_known, 2 _law_cell -/
abbrev s_law_well : Stmt := topS 33
theorem sc_law_well : FnScope ["_law_script", "_law_known", "_law_cell"] ["_law_script"] (defScope s_law_well) := ⟨rfl, rfl, rfl, by decide +kernel, rfl, by decide +kernel, by decide +kernel⟩
/-- a list that nobody may change: of the written part, or frozen -/
def ScrAt (K : PySem.W.Frag) (H : Hp) (a : Addr) (xs : List V) : Prop :=
  (∃ o, H a = some (.frz o (.lst xs))) ∨ ∃ (o : Obj) (its : Array Value) (n : Nat), K.lookup a = some o ∧ o.cls = .type "list" ∧ o.dict = none ∧ o.data = .seq its n ∧ its.size ≤ sizeLine ∧ Vals xs its.toList
theorem ScrAt.sq {K : PySem.W.Frag} {H : Hp} {a : Addr} {xs : List V} (h : ScrAt K H a xs) : SqL K H a xs := h.elim (fun ⟨o, e⟩ => .inl (.inr ⟨o, e⟩)) .inr
theorem ScrAt.keep {K : PySem.W.Frag} {H H' : Hp} {a : Addr} {xs : List V} (h : ScrAt K H a xs) (k : Keep [] H H') : ScrAt K H' a xs := h.elim (fun ⟨o, e⟩ => .inl ⟨o, k _ _ e (fun z => nomatch z) (fun _ z => nomatch z)⟩) .inr
/-- the surroundings that hold the script -/
def AmS (T : List (Addr × Str)) (K : PySem.W.Frag) (a : Addr) (xs : List V) : Am T where
  W := []
  inv := fun H => LamX.Tabs T H ∧ ScrAt K H a xs
  tabs := fun H h => h.1
  mono := fun H H' h k t => ⟨t, h.2.keep k⟩
  wr := fun H l u o h _ hl hu => ⟨tabs_wr h.1 hl hu, h.2.elim (fun ⟨ob, e⟩ => .inl ⟨ob, by
    have n : a ≠ l := fun z => by
      rw [← z, e] at hl
      rcases hu with ⟨_, q⟩ | ⟨_, q⟩ <;> subst q <;> cases hl
    rw [upd_ne n]
    exact e⟩) .inr⟩
  wdom := fun _ _ _ h => nomatch h
/-- the promise of the def that makes a well -/
def spWell (T : List (Addr × Str)) (K : PySem.W.Frag) : Sp := fun vs H Q _ => ∃ (b : Addr) (xs : List Int), vs = [.ref b] ∧ ScrAt K H b (xs.map .int) ∧ LamX.Tabs T H ∧ ∀ a g k H', WInv T a g k H' → Q (.ref a) H'
section
variable {T : List (Addr × Str)} {P : Program} {w : World} {K : PySem.W.Frag} {mg : Str → Option Value} {base : Heap} {M : Am T} {Γ : Env'}
theorem d_slScr {b : Addr} {ns : List Int} {k : Nat} {Po : PyData → Prop} (h : Γ[0]? = some (some (.raw (.ref b)))) (p : Po (.list ((ns.take k).map .int))) :
    EvD (AmS T K b (ns.map .int)) (tSl (rSlL K) (tVar 0) tNoPart (tPart (tC (.int (k : Int))))) Γ Po := fun O A σ H Q S f => by
  refine ⟨_, S.cell 0 _ h, _, rfl, b, _, rfl, S.inv.2.sq, fun q hq => ?_⟩
  have ec : cutV (ns.map V.int) none (some (k : Int)) = (ns.take k).map V.int := by
    unfold cutV
    rw [HT.sIx_none, HT.sIx_nat, List.drop_zero, Nat.sub_zero, List.map_take]
    by_cases hk : k ≤ (ns.map V.int).length
    · rw [Nat.min_eq_left hk]
    · rw [Nat.min_eq_right (by omega), List.take_of_length_le (Nat.le_refl _), List.take_of_length_le (by omega)]
  rw [ec]
  exact f.lst S.wd p (Dats.ofInts _) hq
theorem f_cat {ta tb : TE} {R : List PyData → Prop} (h : EvD M ta Γ fun a => ∃ ds, a = .list ds ∧ EvD M tb Γ fun b => ∃ es, b = .list es ∧ ds.length + es.length ≤ 1000 ∧ R (ds ++ es)) : EvF M (tOp rCat ta tb) Γ R := fun O A σ H Q S f =>
  h O A σ H _ S fun x a H1 ⟨ds, ea, h1⟩ k1 i1 hx => by
    have S1 := S.step k1 i1
    refine h1 O A σ H1 _ S1 fun y b H2 ⟨es, eb, hl, r⟩ k2 i2 hy => ?_
    have S2 := S1.step k2 i2
    subst ea eb
    obtain ⟨a, xs, rfl, h1, h2⟩ := (hx.up (S1.wd.cln k2)).lstAt
    obtain ⟨b, ys, rfl, h3, h4⟩ := hy.lstAt
    refine ⟨a, b, xs, ys, rfl, rfl, hid_le _ _ h1, hid_le _ _ h3, by rw [h2.len, h4.len]; exact sz1000 hl, fun q hq => ?_⟩
    have nO := S2.ownNew hq
    exact f q (xs ++ ys) (ds ++ es) _ r (Fr.of (k1.trans k2) (fun z => nO (S2.wd.w q z)) hq) nO ((k1.trans k2).trans (Keep.new hq)) (M.grow S2.inv (upd_grow hq)) upd_same ((h2.app h4).up fun b o e _ => hid_more hq b o e)
theorem useF {te : TE} {O : List Addr} {A : Nat → Addr} {σ : L2.St} {H : Hp} {Q : VK} {R : List PyData → Prop} (S : Sit M O A Γ σ H) (h : EvF M te Γ R)
    (f : ∀ p vs ds H', R ds → Fr H p → ¬ Own O A Γ p → Keep M.W H H' → M.inv H' → H' p = some (.lst vs) → Dats (hid (fun a => Own O A Γ a ∨ a = p) H') vs ds → Q (.ref p) H') : te σ H Q := h O A σ H Q S f
theorem useD {te : TE} {O : List Addr} {A : Nat → Addr} {σ : L2.St} {H : Hp} {Q : VK} {R : PyData → Prop} (S : Sit M O A Γ σ H) (h : EvD M te Γ R) (f : Fi M (Own O A Γ) H R Q) : te σ H Q := h O A σ H Q S f
theorem un_retL {tA : TA} {D : Ends} {σ : L2.St} {H : Hp} (h : tA σ H fun xs H1 => xs.length ≤ sizeLine ∧ ∀ p, H1 p = none → D.rt (.ref p) (upd H1 p (.lst xs))) : tRet (tLst tA) D σ H := h
theorem un_cons {te : TE} {tA : TA} {σ : L2.St} {H : Hp} {Q : List V → Hp → Prop} (h : te σ H fun x H1 => tA σ H1 fun xs H2 => Q (x :: xs) H2) : tCons te tA σ H Q := h
theorem un_c {v : V} {σ : L2.St} {H : Hp} {Q : VK} (h : Q v H) : tC v σ H Q := h
theorem un_nil {σ : L2.St} {H : Hp} {Q : List V → Hp → Prop} (h : Q [] H) : tNil σ H Q := h
theorem ok_law_well {f : Addr} {fd : FuncData} (D : At' K mg "_law_well" s_law_well ["_law_script"] f fd) (Z : Zs mg) : Cal P w K mg base 1 "_law_well" ["_law_script"] (spWell T K) f fd := by
  refine ⟨D.F.ok (k := 0) sc_law_well (fun vs H Q E ⟨b, xs, e, _⟩ => by rw [e]; rfl) fun cdv A outer s H vs Q E hr ⟨b, xs, e, hv, ht, q⟩ => ⟨_,
    (pss_cons (ps_setLc (i := 1) (own := [("_law_cell", 2)]) rfl sc_law_well.nd rfl rfl (sw_true rfl rfl rfl (by decide +kernel)) (xi_seq (K := K) rfl (pe_slice (x_slL (K := K) rfl) (pv 0) po_none (po_some pe_int))) (blkOk_by (by kernel_rfl)) (fun _ _ _ _ _ => (pg_name (i := 2) sc_law_well.nd rfl (by first | exact Or.inl rfl | exact Or.inr rfl))) (fun _ _ _ _ _ => pts_nil) (fun _ _ _ _ _ => (pe_ifExp (pt_cmpR op_ge (pv 2) pe_int (nomark _)) (pe_op op_mul pe_int (pv 2)) (pe_op op_sub (pe_un un_neg pe_int) (pe_op op_mul pe_int (pv 2))))))
    (pss_one (ps_ret (pe_lst (pa_cons (pe_lc (own := [("_law_cell", 2)]) rfl sc_law_well.nd (xi_seq (K := K) rfl (pv 1)) (blkOk_by (by kernel_rfl)) (fun _ _ _ _ _ => (pg_name (i := 2) sc_law_well.nd rfl (by first | exact Or.inl rfl | exact Or.inr rfl))) (fun _ _ _ _ _ => (pts_one (pt_cmpR op_ge (pv 2) (pe_op op_pow pe_int pe_int) (nomark _)))) (fun _ _ _ _ _ => (pv 2))) (pa_cons (pe_op op_cat (pv 1) (pe_lst (pa_cons (pe_op op_add (pe_callB (x_len (K := K) rfl) (by rfl) Z.len (by decide +kernel) (pa_cons (pv 1) pa_nil)) pe_int) pa_nil))) (pa_cons pe_int (pa_cons (pe_op op_add pe_int (pe_callB (x_sum (K := K) rfl rfl) (by rfl) Z.sum (by decide +kernel) (pa_cons (pv 1) pa_nil))) pa_nil)))))))),
    ?_⟩, D.m, D.F.kp, D.b⟩
  subst e
  let fn : Int → Int := fun z => if z ≥ 0 then 2 * z else -1 - 2 * z
  have st : SitR (AmS T K b (xs.map .int)) H [] (fun _ => 0) [some (.raw (.ref b)), none, none] (L2.start ["_law_script", "_law_known", "_law_cell"] [.ref b]) H := by
    have nm : ∀ i, ¬ Mine [some (.raw (.ref b)), none, none] i := fun i ⟨c, e, m⟩ => by
      match i with
      | 0 => simp at e; subst e; exact m
      | 1 => simp at e
      | 2 => simp at e
      | n + 3 => simp at e
    refine ⟨⟨rfl, ⟨ht, hv⟩, fun _ h => (nomatch h), fun _ h => (nomatch h), fun i c e => ?_, fun i j m => absurd m (nm i)⟩, Keep.refl, fun i m => absurd m (nm i)⟩
    match i with
    | 0 => simp at e; subst e; rfl
    | 1 => simp at e
    | 2 => simp at e
    | n + 3 => simp at e
  -- first the known cells
  have h1 : ∀ z : Int, ∀ Γ : Env', Γ[2]? = some (some (.dat (.int z))) → EvD (AmS T K b (xs.map .int)) (tIf (tTest (tOp (rI0 fun i j => .bl (decide (j ≤ i))) (tVar 2) (tC (.int 0)))) (tOp (rI CMul fun i j => .int (i * j)) (tC (.int 2)) (tVar 2))
      (tOp (rI0 fun i j => .int (i - j)) (tUn (rU fun i => .int (-i)) (tC (.int 1))) (tOp (rI CMul fun i j => .int (i * j)) (tC (.int 2)) (tVar 2)))) Γ fun d => d = .int (fn z) := fun z Γ e =>
    d_if <| t_test <| d_op <| d_var e <| d_int <| rd_I0 (.bl _) ⟨_, rfl, fun c => d_op <| d_int <| d_var e <| rd_I (.inl ⟨by omega, by omega⟩) (.int _) (by show PyData.int _ = .int (if z ≥ 0 then 2 * z else -1 - 2 * z); rw [if_pos (of_decide_eq_true c)]),
      fun c => d_op <| d_un <| d_int <| ru_neg <| d_op <| d_int <| d_var e <| rd_I (.inl ⟨by omega, by omega⟩) (.int _) <| rd_I0 (.int _) (by show PyData.int _ = .int (if z ≥ 0 then 2 * z else -1 - 2 * z); rw [if_neg (of_decide_eq_false c)])⟩
  let ks : List Int := (xs.take 63).map fn
  have hks : ks.length ≤ 63 := by show ((xs.take 63).map fn).length ≤ 63; rw [List.length_map, List.length_take]; omega
  refine (show Run (AmS T K b (xs.map .int)) _ [some (.raw (.ref b)), none, none] (fun o => o = .nx [some (.raw (.ref b)), some (.dat (.list (ks.map .int))), none]) from
    r_asg <| d_ofF <| f_mapA (xs.take 63) PyData.int (fun z => .int (fn z)) rfl (by rw [List.length_take]; omega) (i_seqL <| d_slScr (k := 63) rfl ⟨_, rfl, rfl⟩) (fun z hz => g_name (by simp) (h1 z _ rfl)) (by show Out.nx _ = Out.nx _; rw [show (ks.map PyData.int) = (xs.take 63).map (fun z => PyData.int (fn z)) by show ((xs.take 63).map fn).map PyData.int = _; rw [List.map_map]; rfl]; rfl))
    H [] (fun _ => 0) _ H _ st ⟨fun Γ' A' σ' H' p s c => ?_, fun _ _ _ p => (nomatch p), fun _ _ _ _ p => (nomatch p), fun _ _ _ _ p => (nomatch p), fun _ _ _ p => (nomatch p)⟩
  cases p
  have S := s.sit
  dsimp only
  refine un_retL <| un_cons ?_
  refine useF (M := AmS T K b (xs.map .int)) (R := fun ds => ∃ l : List Int, ds = l.map .int ∧ l.length ≤ 100) S ?_ fun g vs ds H1 ⟨l1, e1, hl1⟩ fr1 nO1 k1 i1 hg hd1 => ?_
  · exact f_filterA ks PyData.int PyData.int (fun z => decide ((10 : Int) ^ 15 ≤ z)) rfl (by omega) (i_seqL <| d_var rfl ⟨_, rfl, rfl⟩) (fun z hz => g_name (by simp) <| t_test <| d_op <| d_var rfl <| d_op <| d_int <| d_int <| rd_I ⟨by omega, by omega, by decide⟩ (.int _) <| rd_I0 (.bl _) ⟨_, rfl, rfl, fun _ => d_var rfl rfl⟩)
      ⟨_, rfl, by have := List.length_filter_le (fun z => decide ((10 : Int) ^ 15 ≤ z)) ks; omega⟩
  have S1 := S.step k1 i1
  refine un_cons ?_
  refine useF (M := AmS T K b (xs.map .int)) (R := fun ds => ∃ l : List Int, ds = l.map .int ∧ l.length ≤ 100 ∧ l ≠ []) S1 ?_ fun k vs2 ds2 H2 ⟨l2, e2, hl2, hn2⟩ fr2 nO2 k2 i2 hk hd2 => ?_
  · exact f_cat <| d_var rfl ⟨_, rfl, d_ofF <| f_lst <| a_cons <| d_op <| d_callB <| a_v rfl <| a_nil <| rc_lenL <| d_int <| rd_I0 (.int _) <| a_nil ⟨by simp, _, rfl, by simp; omega, ks ++ [((ks.map PyData.int).length : Int) + 29], by rw [List.map_append]; rfl, by simp; omega, by simp⟩⟩
  have S2 := S1.step k2 i2
  have gk : g ≠ k := fun e => fr2 _ (e ▸ hg) nt_lst
  refine un_cons <| un_c <| un_cons ?_
  refine useD (M := AmS T K b (xs.map .int)) (R := fun d => ∃ j, d = .int j) S2 ?_ fun v3 d3 H3 ⟨j, e3⟩ k3 i3 h3 => ?_
  · exact d_op <| d_int <| d_callB <| a_v rfl <| a_nil <| rc_sum <| rd_I0 (.int _) ⟨_, rfl⟩
  subst e1 e2 e3
  have S3 := S2.step k3 i3
  have eg : H3 g = some (.lst (l1.map .int)) := by
    have := hd1.ints
    subst this
    exact k3 _ _ (k2 _ _ hg (fun h => nomatch h) nt_lst) (fun h => nomatch h) nt_lst
  have ek : H3 k = some (.lst (l2.map .int)) := by
    have := hd2.ints
    subst this
    exact k3 _ _ hk (fun h => nomatch h) nt_lst
  rw [h3.intAt]
  refine un_nil ?_
  refine ⟨by show 4 ≤ sizeLine; decide, fun a ha => q a g k _ ⟨l2, l1, 0, j, i3.1.ext (upd_grow ha), upd_same, ?_, ?_, gk, hn2, hl1, hl2⟩⟩
  · exact upd_grow ha _ _ eg
  · exact upd_grow ha _ _ ek
end
end K41
end
section
set_option linter.all false
set_option maxRecDepth 100000
/-! K41: small data, whose repr is told. -/
namespace K41
open PySem PySem.Spec PyProof.Rows L2
open Classical
structure Sm (dp wt : Nat) (d : PyData) : Prop where
  dep : d.depth ≤ dp
  wei : d.weight ≤ wt
  sho : d.showable = true
  nod : d.hasDict = false
  lea : d.leavesShort 8 = true
theorem Sm.mono {dp wt dp' wt' : Nat} {d : PyData} (h : Sm dp wt d) (h1 : dp ≤ dp') (h2 : wt ≤ wt') : Sm dp' wt' d := ⟨Nat.le_trans h.dep h1, Nat.le_trans h.wei h2, h.sho, h.nod, h.lea⟩
theorem sm_nat_all : ∀ n : Fin 64, (nD n.val).depth = 0 ∧ (nD n.val).weight ≤ 7 ∧ (nD n.val).showable = true ∧ (nD n.val).hasDict = false ∧ (nD n.val).leavesShort 8 = true := by decide +kernel
theorem sm_nD {n : Nat} (h : n < 64) : Sm 0 7 (nD n) := by
  obtain ⟨h1, h2, h3, h4, h5⟩ := sm_nat_all ⟨n, h⟩
  exact ⟨Nat.le_of_eq h1, h2, h3, h4, h5⟩
theorem sm_allD {dp wt : Nat} : ∀ {ds : List PyData}, (∀ d ∈ ds, Sm dp wt d) → PyData.depthAll ds ≤ dp ∧ PyData.weightAll ds ≤ ds.length * (wt + 1) ∧ PyData.showableAll ds = true ∧ PyData.hasDictAll ds = false ∧ PyData.leavesShortAll 8 ds = true
  | [], _ => ⟨Nat.zero_le _, by simp [PyData.weightAll], by simp [PyData.showableAll], by simp [PyData.hasDictAll], by simp [PyData.leavesShortAll]⟩
  | d :: ds, h => by
    obtain ⟨h1, h2, h3, h4, h5⟩ := sm_allD (ds := ds) fun e he => h e (List.mem_cons_of_mem _ he)
    have hd := h d List.mem_cons_self
    refine ⟨?_, ?_, ?_, ?_, ?_⟩
    · simp only [PyData.depthAll]; exact Nat.max_le.mpr ⟨hd.dep, h1⟩
    · simp only [PyData.weightAll, List.length_cons, Nat.add_mul]; have := hd.wei; omega
    · simp only [PyData.showableAll, hd.sho, h3, Bool.and_self]
    · simp only [PyData.hasDictAll, hd.nod, h4, Bool.or_self]
    · simp only [PyData.leavesShortAll, hd.lea, h5, Bool.and_self]
theorem sm_tup {dp wt L : Nat} {ds : List PyData} (h : ∀ d ∈ ds, Sm dp wt d) (hl : ds.length ≤ L) : Sm (dp + 1) (L * (wt + 1)) (.tuple ds) := by
  obtain ⟨h1, h2, h3, h4, h5⟩ := sm_allD h
  refine ⟨by simp only [PyData.depth]; omega, ?_, by simpa only [PyData.showable] using h3, by simpa only [PyData.hasDict] using h4, by simpa only [PyData.leavesShort] using h5⟩
  simp only [PyData.weight]
  exact Nat.le_trans h2 (Nat.mul_le_mul_right _ hl)
theorem sm_lst {dp wt L : Nat} {ds : List PyData} (h : ∀ d ∈ ds, Sm dp wt d) (hl : ds.length ≤ L) : Sm (dp + 1) (L * (wt + 1)) (.list ds) := by
  obtain ⟨h1, h2, h3, h4, h5⟩ := sm_allD h
  refine ⟨by simp only [PyData.depth]; omega, ?_, by simpa only [PyData.showable] using h3, by simpa only [PyData.hasDict] using h4, by simpa only [PyData.leavesShort] using h5⟩
  simp only [PyData.weight]
  exact Nat.le_trans h2 (Nat.mul_le_mul_right _ hl)
theorem Sm.shown {dp wt : Nat} {d : PyData} (h : Sm dp wt d) (hs : (∃ ds, d = .list ds) ∨ ∃ ds, d = .tuple ds) (h1 : dp ≤ 64) (h2 : wt ≤ 2 ^ 20) : Shown d :=
  ⟨hs, h.sho, h.nod, Nat.le_trans h.dep h1, PyData.shown_fits (B := 8) (by omega) (by omega) h.lea (Nat.le_trans h.wei h2)⟩
theorem sm_map {α : Type} {dp wt L : Nat} {l : List α} {enc : α → PyData} (h : ∀ a ∈ l, Sm dp wt (enc a)) (hl : l.length ≤ L) : Sm (dp + 1) (L * (wt + 1)) (.tuple (l.map enc)) :=
  sm_tup (fun d hd => by obtain ⟨a, ha, rfl⟩ := List.mem_map.mp hd; exact h a ha) (by rw [List.length_map]; exact hl)
theorem sm_lot {l : List Nat} (h : ∀ x ∈ l, x < 64) (hl : l.length ≤ 8) : Sm 1 64 (lotD l) := sm_map (fun a ha => sm_nD (h a ha)) hl
theorem sm_aD {c : Nat} (h : c < 64) : Sm 1 16 (aD c) := sm_tup (ds := [nD (c / 8), nD (c % 8)]) (L := 2) (fun d hd => by
  simp only [List.mem_cons, List.not_mem_nil, or_false] at hd
  rcases hd with e | e <;> subst e
  · exact sm_nD (by omega)
  · exact sm_nD (by omega)) (by simp)
theorem sm_cla {c : List Nat} (h : ∀ x ∈ c, x < 64) (hl : c.length ≤ 64) : Sm 2 1088 (claD c) := sm_map (fun a ha => sm_aD (h a ha)) hl
theorem sm_bD (b : Bool) : Sm 0 7 (bD b) := by
  cases b
  · exact sm_nD (n := 0) (by omega)
  · exact sm_nD (n := 1) (by omega)
theorem sm_tab {n : Nat} {t : Nat → Nat → Bool} (h : n ≤ 8) : Sm 3 1200 (tabD n t) := by
  refine (sm_tup (ds := [nD n, rowsD n t]) (dp := 2) (wt := 520) (L := 2) (fun d hd => ?_) (by simp)).mono (by omega) (by omega)
  simp only [List.mem_cons, List.not_mem_nil, or_false] at hd
  rcases hd with e | e <;> subst e
  · exact (sm_nD (by omega)).mono (by omega) (by omega)
  · refine sm_map (l := List.range n) (enc := fun x => .tuple (rowL n t x)) (dp := 1) (wt := 64) (L := 8) (fun a ha => ?_) (by rw [List.length_range]; exact h)
    exact sm_map (l := List.range n) (enc := fun y => bD (t a y)) (dp := 0) (wt := 7) (L := 8) (fun b hb => sm_bD _) (by rw [List.length_range]; exact h)
end K41
end
section
set_option linter.all false
set_option maxRecDepth 100000
/-! K41: the law's knots and the classes, plain. -/
namespace K41
open Classical
theorem min_ex {S : Nat → Prop} (f : Nat → Nat) : ∀ (b m : Nat), S m → f m ≤ b → ∃ m, S m ∧ ∀ m', S m' → f m ≤ f m'
  | 0, m, h, hb => ⟨m, h, fun m' _ => by omega⟩
  | b + 1, m, h, hb => by
    by_cases q : ∃ m', S m' ∧ f m' < f m
    · obtain ⟨m', h', l⟩ := q
      exact min_ex f b m' h' (by omega)
    · exact ⟨m, h, fun m' h' => Nat.le_of_not_lt fun l => q ⟨m', h', l⟩⟩
theorem two_of {m x y : Nat} (hx : x < 8) (hy : y < 8) (bx : bits m x) (by' : bits m y) (ne : x ≠ y) : two m = true := by
  refine decide_eq_true ?_
  have h := nd_len (a := [x, y]) (b := lot m) (by simp [ne]) (asc_lot m).nodup fun z hz => by
    simp only [List.mem_cons, List.not_mem_nil, or_false] at hz
    rcases hz with e | e <;> subst e
    · exact mem_lot.mpr ⟨hx, bx⟩
    · exact mem_lot.mpr ⟨hy, by'⟩
  exact h
/-- the law's knots, all of them -/
structure LKs (n : Nat) (t : Nat → Nat → Bool) (ks : List LK) : Prop where
  w : Wb t
  hn : n ≤ 8
  ok : ∀ k ∈ ks, k.Ok n t
  all : ks.map (fun k => msk k.l) = (strM n t).filter two
noncomputable def inKB (k : LK) (c : List Nat) : Bool := decide (InK k.l k.E (dec (c.headD 0)))
section
variable {n : Nat} {t : Nat → Nat → Bool} {ks : List LK}
theorem ar_ne {a : Arw} (w : Wb t) (h : Ar n t a) : a.1 ≠ a.2 := fun e => by
  have := h.2.2
  rw [e, w.irr] at this
  cases this
theorem LK.Ok.lt {k : LK} (o : k.Ok n t) : ∀ x ∈ k.l, x < n := fun x hx => o.kn.str.1.1 x hx
theorem knot_of (L : LKs n t ks) {a : Arw} (h1 : a.1 < n) (h2 : a.2 < n) (ne : a.1 ≠ a.2) : ∃ k, k ∈ ks ∧ InK k.l k.E a := by
  have hn := L.hn
  let S : Nat → Prop := fun m => m ∈ strM n t ∧ bits m a.1 ∧ bits m a.2
  have br : bits (msk (List.range n)) = fun x => x < n := by rw [bits_msk (asc_range n)]; exact funext fun x => propext List.mem_range
  have s0 : S (msk (List.range n)) := by
    refine ⟨mem_strM.mpr ⟨msk_lt (asc_range n) fun x hx => List.mem_range.mp hx, ?_⟩, ?_, ?_⟩
    · rw [br]; exact str_all (by omega)
    · rw [br]; exact h1
    · rw [br]; exact h2
  obtain ⟨m, ⟨hm, b1, b2⟩, mn⟩ := min_ex (S := S) (fun m => (lot m).length) _ _ s0 (Nat.le_refl _)
  have hm2 : m ∈ (strM n t).filter two := List.mem_filter.mpr ⟨hm, two_of (by omega) (by omega) b1 b2 ne⟩
  rw [← L.all] at hm2
  obtain ⟨k, hk, ek⟩ := List.mem_map.mp hm2
  have o := L.ok k hk
  have bl : bits m = (· ∈ k.l) := by rw [← ek]; exact bits_msk o.asc
  have ll : lot m = k.l := by rw [← ek]; exact lot_msk o.asc fun x hx => by have := o.lt x hx; omega
  have p := o.kn.parts
  refine ⟨k, hk, by rw [bl] at b1; exact b1, by rw [bl] at b2; exact b2, fun e => ?_⟩
  have in1 := (p.mem _ _ e).1
  let l2 := k.l.filter fun y => decide (k.E a.1 y)
  have asc2 : Asc l2 := o.asc.filter _
  have m2 : ∀ y, y ∈ l2 ↔ k.E a.1 y := fun y => by
    rw [List.mem_filter, decide_eq_true_eq]
    exact ⟨fun q => q.2, fun q => ⟨(p.mem _ _ q).2, q⟩⟩
  have b2' : bits (msk l2) = k.E a.1 := by rw [bits_msk asc2]; exact funext fun y => propext (m2 y)
  have lt2 : ∀ x ∈ l2, x < n := fun x hx => o.lt x (List.mem_filter.mp hx).1
  have s2 : S (msk l2) := by
    refine ⟨mem_strM.mpr ⟨msk_lt asc2 lt2, ?_⟩, ?_, ?_⟩
    · rw [b2']; exact p.str _ in1
    · rw [b2']; exact p.rfl' _ in1
    · rw [b2']; exact e
  have := mn _ s2
  rw [ll, lot_msk asc2 fun x hx => by have := lt2 x hx; omega] at this
  have lt : l2.length < k.l.length := List.length_filter_lt_length_iff_exists.mpr (by
    obtain ⟨u, v, hu, hv, ne⟩ := p.two
    by_cases eu : k.E a.1 u
    · exact ⟨v, hv, by simp; exact fun ev => ne (p.tr _ _ _ (p.sym _ _ eu) ev)⟩
    · exact ⟨u, hu, by simp; exact eu⟩)
  omega
theorem clsA_mem (w : Wb t) (hn : n ≤ 8) {c : List Nat} (h : c ∈ clsA n t) : ∃ x, x ∈ AL n t ∧ c = clOf (AL n t) (EA n t) x ∧ x ∈ c ∧ c.headD 0 ∈ c := by
  obtain ⟨x, hx, e⟩ := (mem_clsL (asc_AL n t) (eqv_EA w hn)).mp h
  have hxc : x ∈ c := by rw [e]; exact mem_clOf.mpr ⟨hx, .refl⟩
  refine ⟨x, hx, e, hxc, ?_⟩
  match c, hxc with
  | y :: c, _ => exact List.mem_cons_self
/-- which knot a class is of -/
theorem inKB_of (w : Wb t) (hn : n ≤ 8) {k : LK} (o : k.Ok n t) {c : List Nat} (h : c ∈ clsA n t) {y : Nat} (hy : y ∈ c) : inKB k c = true ↔ InK k.l k.E (dec y) := by
  obtain ⟨x, hx, e, hxc, hh⟩ := clsA_mem w hn h
  rw [e] at hy hh
  obtain ⟨y1, y2⟩ := mem_clOf.mp hy
  obtain ⟨z1, z2⟩ := mem_clOf.mp hh
  have ax := (mem_AL hn).mp hx
  have ay := (mem_AL hn).mp y1
  have az := (mem_AL hn).mp z1
  unfold inKB
  rw [decide_eq_true_eq]
  rw [e]
  exact ⟨fun q => o.kn.closedC w (o.kn.closedC w q az (Cl.symm w z2 ax)) ax y2, fun q => o.kn.closedC w (o.kn.closedC w q ay (Cl.symm w y2 ax)) ax z2⟩
noncomputable def cntK (n : Nat) (t : Nat → Nat → Bool) (k : LK) : Nat := ((clsA n t).filter (inKB k)).length
theorem cnt_all (L : LKs n t ks) : (clsA n t).length = (ks.map (cntK n t)).sum := by
  refine count_split ks inKB _ fun c hc => ?_
  obtain ⟨x, hx, e, hxc, hh⟩ := clsA_mem L.w L.hn hc
  have ax := (mem_AL L.hn).mp hx
  refine filter_one ks (fun k => msk k.l) (by rw [L.all]; exact (asc_filter asc_strM _).nodup) _ ?_ fun k k' hk hk' q q' => ?_
  · obtain ⟨k, hk, q⟩ := knot_of L ax.1 ax.2.1 (ar_ne L.w ax)
    exact ⟨k, hk, (inKB_of L.w L.hn (L.ok k hk) hc hxc).mpr q⟩
  · have o := L.ok k hk
    have o' := L.ok k' hk'
    rw [(kn_uniq o.kn o'.kn o.asc o'.asc ((inKB_of L.w L.hn o hc hxc).mp q) ((inKB_of L.w L.hn o' hc hxc).mp q')).1]
theorem cnt_none (w : Wb t) (hn : n ≤ 8) {k : LK} (o : k.Ok n t) (h1 : k.fm = false) (h2 : k.f = false) : cntK n t k = 0 := by
  refine List.length_eq_zero_iff.mpr (List.filter_eq_nil_iff.mpr fun c hc q => ?_)
  obtain ⟨x, hx, e, hxc, hh⟩ := clsA_mem w hn hc
  have ax := (mem_AL hn).mp hx
  have i := (inKB_of w hn o hc hxc).mp q
  have := o.look h1 _ _ i.1 i.2.1 i.2.2
  rw [ax.2.2, h2] at this
  cases this
theorem perm_len {α : Type} {l m : List α} (hl : l.Nodup) (hm : m.Nodup) (h : ∀ x, x ∈ l ↔ x ∈ m) : l.length = m.length := ((List.perm_ext_iff_of_nodup hl hm).mpr h).length_eq
theorem nodup_map {α β : Type} {l : List α} {g : α → β} (h : l.Nodup) (inj : ∀ a b, a ∈ l → b ∈ l → g a = g b → a = b) : (l.map g).Nodup :=
  List.pairwise_map.mpr (List.Pairwise.imp_of_mem (fun {a b} ha hb ne e => ne (inj a b ha hb e)) h)
theorem cod_AL (hn : n ≤ 8) {a : Arw} (h : Ar n t a) : cod a ∈ AL n t ∧ dec (cod a) = a := by
  have e := dec_cod (a := a) (by have := h.2.1; omega)
  exact ⟨(mem_AL hn).mpr (by rw [e]; exact h), e⟩
theorem clsA_nodup (w : Wb t) (hn : n ≤ 8) : (clsA n t).Nodup := clsL_nodup (asc_AL n t) (eqv_EA w hn)
theorem clA_in (w : Wb t) (hn : n ≤ 8) {x : Nat} (h : x ∈ AL n t) : clOf (AL n t) (EA n t) x ∈ clsA n t ∧ x ∈ clOf (AL n t) (EA n t) x := ⟨(mem_clsL (asc_AL n t) (eqv_EA w hn)).mpr ⟨x, h, rfl⟩, mem_clOf.mpr ⟨h, .refl⟩⟩
/-- all, tied: a class for each pair of sons -/
theorem cnt_allT (w : Wb t) (hn : n ≤ 8) {k : LK} (o : k.Ok n t) (h1 : k.fm = false) (h2 : k.f = true) : cntK n t k = (clsL k.l k.E).length * ((clsL k.l k.E).length - 1) := by
  have p := o.kn.parts
  have q := eqv_partsL p
  have el : (clsL k.l k.E).length = (hds k.l k.E).length := by unfold clsL; rw [List.length_map]
  rw [el, ← len_prs (asc_hds o.asc).nodup, ← List.length_map (f := fun p : Nat × Nat => clOf (AL n t) (EA n t) (cod p))]
  have arw : ∀ p ∈ prs (hds k.l k.E), Ar n t p ∧ InK k.l k.E p := fun r hr => by
    obtain ⟨r1, r2, r3⟩ := mem_prs.mp hr
    have i1 := (mem_hds.mp r1).1
    have i2 := (mem_hds.mp r2).1
    have ne := hds_ne q r1 r2 r3
    exact ⟨⟨o.lt _ i1, o.lt _ i2, by rw [o.look h1 _ _ i1 i2 ne, h2]⟩, i1, i2, ne⟩
  refine perm_len ((clsA_nodup w hn).filter _) (nodup_map (nodup_prs (asc_hds o.asc).nodup) fun a b ha hb e => ?_) fun c => ⟨fun hc => ?_, fun hc => ?_⟩
  · obtain ⟨aa, ia⟩ := arw a ha
    obtain ⟨ab, ib⟩ := arw b hb
    obtain ⟨ca, da⟩ := cod_AL hn aa
    obtain ⟨cb, db⟩ := cod_AL hn ab
    have hb' := (clA_in w hn cb).2
    rw [← e] at hb'
    have cl : Cl n t a b := by
      have := (mem_clOf.mp hb').2
      unfold EA at this
      rwa [da, db] at this
    obtain ⟨e1, e2⟩ := (o.kn.classAll w h1 aa ia).mp cl
    obtain ⟨a1, a2, _⟩ := mem_prs.mp ha
    obtain ⟨b1, b2, _⟩ := mem_prs.mp hb
    exact Prod.ext (Classical.byContradiction fun ne => hds_ne q a1 b1 ne e1) (Classical.byContradiction fun ne => hds_ne q a2 b2 ne e2)
  · obtain ⟨hc1, hc2⟩ := List.mem_filter.mp hc
    obtain ⟨x, hx, e, hxc, hh⟩ := clsA_mem w hn hc1
    have ax := (mem_AL hn).mp hx
    have ix := (inKB_of w hn o hc1 hxc).mp hc2
    obtain ⟨m1, hm1, e1, _⟩ := head_ex o.asc q ix.1
    obtain ⟨m2, hm2, e2, _⟩ := head_ex o.asc q ix.2.1
    have ne : m1 ≠ m2 := fun z => by
      subst z
      exact ix.2.2 (p.tr _ _ _ e1 (p.sym _ _ e2))
    have hr : (m1, m2) ∈ prs (hds k.l k.E) := mem_prs.mpr ⟨hm1, hm2, ne⟩
    obtain ⟨am, im⟩ := arw _ hr
    obtain ⟨cm, dm⟩ := cod_AL hn am
    refine List.mem_map.mpr ⟨(m1, m2), hr, ?_⟩
    rw [e]
    refine (clOf_eq (eqv_EA w hn) hx cm ?_).symm
    show Cl n t (dec x) (dec (cod (m1, m2)))
    rw [dm]
    exact (o.kn.classAll w h1 ax ix).mpr ⟨e1, e2⟩
  · obtain ⟨r, hr, e⟩ := List.mem_map.mp hc
    obtain ⟨ar, ir⟩ := arw r hr
    obtain ⟨cr, dr⟩ := cod_AL hn ar
    subst e
    obtain ⟨i1, i2⟩ := clA_in w hn cr
    exact List.mem_filter.mpr ⟨i1, (inKB_of w hn o i1 i2).mpr (by rw [dr]; exact ir)⟩
/-- firm: one class, or two -/
theorem cnt_firm (w : Wb t) (hn : n ≤ 8) {k : LK} (o : k.Ok n t) (h1 : k.fm = true) {a : Arw} (ha : Ar n t a) (ia : InK k.l k.E a) : cntK n t k = if Cl n t a (co a) then 1 else 2 := by
  obtain ⟨ca, da⟩ := cod_AL hn ha
  obtain ⟨cc, dc⟩ := cod_AL hn (Ar.co w ha)
  obtain ⟨ca1, ca2⟩ := clA_in w hn ca
  obtain ⟨cc1, cc2⟩ := clA_in w hn cc
  have ic : InK k.l k.E (co a) := o.kn.inCo ia
  have fa := (inKB_of w hn o ca1 ca2).mpr (by rw [da]; exact ia)
  have fc := (inKB_of w hn o cc1 cc2).mpr (by rw [dc]; exact ic)
  -- each class of the knot is the one or the other
  have each : ∀ c, c ∈ (clsA n t).filter (inKB k) → c = clOf (AL n t) (EA n t) (cod a) ∨ c = clOf (AL n t) (EA n t) (cod (co a)) := fun c hc => by
    obtain ⟨hc1, hc2⟩ := List.mem_filter.mp hc
    obtain ⟨x, hx, e, hxc, hh⟩ := clsA_mem w hn hc1
    have ax := (mem_AL hn).mp hx
    have ix := (inKB_of w hn o hc1 hxc).mp hc2
    rcases o.kn.colour w h1 ha ia ax ix with q | q
    · refine .inl ?_
      rw [e]
      exact (clOf_eq (eqv_EA w hn) ca hx (by show Cl n t (dec (cod a)) (dec x); rw [da]; exact q)).symm
    · refine .inr ?_
      rw [e]
      exact (clOf_eq (eqv_EA w hn) cc hx (by show Cl n t (dec (cod (co a))) (dec x); rw [dc]; exact Cl.co q)).symm
  have nd := (clsA_nodup w hn).filter (inKB k)
  have ina := List.mem_filter.mpr ⟨ca1, fa⟩
  have inc := List.mem_filter.mpr ⟨cc1, fc⟩
  by_cases cl : Cl n t a (co a)
  · rw [if_pos cl]
    have ee : clOf (AL n t) (EA n t) (cod a) = clOf (AL n t) (EA n t) (cod (co a)) := clOf_eq (eqv_EA w hn) ca cc (by show Cl n t (dec (cod a)) (dec (cod (co a))); rw [da, dc]; exact cl)
    exact perm_len nd (m := [clOf (AL n t) (EA n t) (cod a)]) (by simp) fun c => ⟨fun hc => by rcases each c hc with q | q <;> simp [q, ee], fun hc => by rw [List.mem_singleton.mp hc]; exact ina⟩
  · rw [if_neg cl]
    have ne : clOf (AL n t) (EA n t) (cod a) ≠ clOf (AL n t) (EA n t) (cod (co a)) := fun ee => by
      rw [← ee] at cc2
      have := (mem_clOf.mp cc2).2
      unfold EA at this
      rw [da, dc] at this
      exact cl this
    exact perm_len nd (m := [clOf (AL n t) (EA n t) (cod a), clOf (AL n t) (EA n t) (cod (co a))]) (by simp [ne]) fun c => ⟨fun hc => by rcases each c hc with q | q <;> simp [q], fun hc => by
      simp only [List.mem_cons, List.not_mem_nil, or_false] at hc
      rcases hc with q | q <;> subst q
      · exact ina
      · exact inc⟩
end
end K41
end
section
set_option linter.all false
set_option maxRecDepth 100000
/-! K41: a call with two keywords in the other order. -/
namespace K41
open PySem PySem.Spec PyProof.Rows L2
open Classical
def gSw {α : Type} : List α → List α → List α
  | [], [a, b] => [b, a]
  | _, _ => []
section
variable {X : Cx} {k : Nat} {f : Addr} {fd : FuncData} {ps ks : List Str} {sp : Sp} {E : XK} {x : Str} {p pos : Pos} {kws : List Keyword} {tk : TA} {g : List Value → List Value → List Value} {gV : List V → List V → List V} {CX : CXT}
/-- f(k = v, ..) -/
theorem pe_callK0 (F : FnOk X.prog X.w X.K X.mg X.base CX k f fd ps sp) (hr : Room k X.A) (hg : Gl X x) (hm : X.mg x = some (.ref f)) (hk : PySem.W.keepIn X.K (.ref f) = true) (hb : KBinds X.K fd ps ks g gV) (hx : Passes CX X E) (hkw : PK X kws tk)
    (hall : (backToKw pos (keywordEach kws X.env)).all (·.1.isSome) = true := by rfl) (hks : (backToKw pos (keywordEach kws X.env)).filterMap (·.1) = ks := by rfl) (hdb : (x == ("__debug__" : Str)) = false := by decide)
    (hpl : ((backTo pos (starEach [] X.env)).any (·.1) || (backToKw pos (keywordEach kws X.env)).any (·.1.isNone)) = false := by rfl) : PE X (.Call (.Name x p) [] kws pos) (tCallK sp gV E tNil tk) := by
  refine ⟨fun pins s σ H Q I h => wpAny_Call_Name_kw (ld_glob I hg hm ?_ hdb)⟩
  refine PySem.W.callWith_KW0 (h₀ := X.base) I.ok.mod.kin hk hall (thn (hkw.run pos pins s σ H _ I h) fun ws s2 ⟨zs, H2, I2, rz, q2⟩ => ⟨I2.kIn, ?_⟩) hpl
  rw [hks]
  exact run_fnk (us := []) (vs := []) F hr hb hx I2 .nil rz q2
end
theorem kb_class {K : PySem.W.Frag} {mg : Str → Option Value} {f : Addr} {fd : FuncData} (D : At' K mg "class_knot" sclass_knot ["web", "arrow"] f fd) : KBinds K fd ["web", "arrow"] ["arrow", "web"] gSw gSw := by
  obtain ⟨oc, od, kV, doc, pm, an, cdv, ct, osl, rfl, lk, hcd⟩ := D.F.ex
  refine ⟨fun s us ws hK hl => ?_, fun {vs us zs ws} r rz => ?_⟩
  · match us, ws, hl with
    | [], [a, b], _ => exact .of_eq rfl
  · match vs, us, r, zs, ws, rz with
    | _, _, .nil, _, _, .nil => exact .nil
    | _, _, .nil, _, _, .cons a .nil => exact .nil
    | _, _, .nil, _, _, .cons a (.cons b .nil) => exact .cons b (.cons a .nil)
    | _, _, .nil, _, _, .cons a (.cons b (.cons c r)) => exact .nil
    | _, _, .cons a r, _, _, _ => exact .nil
section
variable {T : List (Addr × Str)} {M : Am T} {Γ : Env'} {P : PyData → Prop} {tA : TA}
theorem d_callK2 {ι : Type} {ok : ι → Prop} {args : ι → List PyData} {post : ι → PyData → Prop} {E : XK} (h : EvA M tA Γ fun ds => ∃ d e i, ds = [d, e] ∧ ok i ∧ [e, d] = args i ∧ ∀ r, post i r → P r) : EvD M (tCallK (spD T ok args post) gSw E tNil tA) Γ P := fun O A σ H Q S f =>
  h O A σ H _ S fun vs ds H1 ⟨d, e, x, ed, hp, ea, hq⟩ k i hs => by
    subst ed
    have S1 := S.step k i
    obtain ⟨u, v, rfl, hu, hv⟩ := hs.two
    refine ⟨x, ownL O A Γ, hp, fun a ha => S1.ownDom (ownL_iff.mp ha), M.tabs _ i, by rw [ownL_eq, ← ea]; exact .cons hv (.cons hu .nil), fun v d H' pd k' t' hh => ?_⟩
    rw [ownL_eq] at hh
    exact f v d H' (hq d pd) (k.trans k'.wide) (M.mono _ _ i k' t') hh
end
end K41
end
section
set_option linter.all false
set_option maxRecDepth 100000
/-! K41: what the law finds out about one knot, plain. -/
namespace K41
open Classical PySem
/-! ### a knot's arrows by codes -/
noncomputable def sonM (k : LK) : List Nat := (clsL k.l k.E).map msk
noncomputable def arrL (n : Nat) (t : Nat → Nat → Bool) (k : LK) (S : List Nat) : List Nat := S.flatMap fun o => bt n t o (msk k.l - o)
theorem msk_perm {l m : List Nat} (h : l.Perm m) : msk l = msk m := (h.map _).sum_nat
theorem msk_app (l m : List Nat) : msk (l ++ m) = msk l + msk m := by unfold msk; rw [List.map_append, List.sum_append_nat]
theorem msk_sub {l c : List Nat} (hl : Asc l) (hc : Asc c) (h : ∀ x ∈ c, x ∈ l) : msk l - msk c = msk (l.filter fun x => !decide (x ∈ c)) := by
  have e : l.filter (fun x => decide (x ∈ c)) = c := asc_ext (hl.filter _) hc fun x => by
    rw [List.mem_filter, decide_eq_true_eq]
    exact ⟨fun q => q.2, fun q => ⟨h x q, q⟩⟩
  have p := msk_perm (List.filter_append_perm (fun x => decide (x ∈ c)) l)
  rw [msk_app, e] at p
  omega
section
variable {n : Nat} {t : Nat → Nat → Bool} {k : LK}
theorem son_of (o : k.Ok n t) {m : Nat} (h : m ∈ sonM k) : ∃ x, x ∈ k.l ∧ m = msk (clOf k.l k.E x) ∧ m < 2 ^ n := by
  obtain ⟨c, hc, rfl⟩ := List.mem_map.mp h
  obtain ⟨x, hx, rfl⟩ := (mem_clsL o.asc (eqv_partsL o.kn.parts)).mp hc
  exact ⟨x, hx, rfl, msk_lt (asc_clOf o.asc x) fun y hy => o.lt y (mem_clOf.mp hy).1⟩
theorem bits_son (o : k.Ok n t) {x y : Nat} : bits (msk (clOf k.l k.E x)) y ↔ k.E x y := by
  rw [bits_msk (asc_clOf o.asc x)]
  show y ∈ clOf k.l k.E x ↔ _
  rw [mem_clOf]
  exact ⟨fun q => q.2, fun q => ⟨(o.kn.parts.mem _ _ q).2, q⟩⟩
theorem bits_rest (o : k.Ok n t) {x y : Nat} : bits (msk k.l - msk (clOf k.l k.E x)) y ↔ y ∈ k.l ∧ ¬ k.E x y := by
  rw [msk_sub o.asc (asc_clOf o.asc x) fun z hz => (mem_clOf.mp hz).1, bits_msk (o.asc.filter _)]
  show y ∈ k.l.filter _ ↔ _
  rw [List.mem_filter]
  have : (!decide (y ∈ clOf k.l k.E x)) = true ↔ ¬ y ∈ clOf k.l k.E x := by simp
  rw [this, mem_clOf]
  exact ⟨fun q => ⟨q.1, fun z => q.2 ⟨q.1, z⟩⟩, fun q => ⟨q.1, fun z => q.2 z.2⟩⟩
theorem mem_arrL (w : Wb t) (hn : n ≤ 8) (o : k.Ok n t) {c : Nat} : c ∈ arrL n t k (sonM k) ↔ Ar n t (dec c) ∧ InK k.l k.E (dec c) := by
  unfold arrL
  rw [List.mem_flatMap]
  have p := o.kn.parts
  constructor
  · rintro ⟨m, hm, hc⟩
    obtain ⟨x, hx, rfl, hlt⟩ := son_of o hm
    obtain ⟨h1, h2, h3⟩ := (mem_bt hn hlt).mp hc
    have e1 := (bits_son o).mp h1
    obtain ⟨r1, r2⟩ := (bits_rest o).mp h2
    exact ⟨h3, (p.mem _ _ e1).2, r1, fun e => r2 (p.tr _ _ _ e1 e)⟩
  · rintro ⟨ha, i1, i2, i3⟩
    have hm : msk (clOf k.l k.E (dec c).1) ∈ sonM k := List.mem_map.mpr ⟨_, (mem_clsL o.asc (eqv_partsL p)).mpr ⟨_, i1, rfl⟩, rfl⟩
    obtain ⟨_, _, _, hlt⟩ := son_of o hm
    exact ⟨_, hm, (mem_bt hn hlt).mpr ⟨(bits_son o).mpr (p.rfl' _ i1), (bits_rest o).mpr ⟨i2, i3⟩, ha⟩⟩
theorem sonM_nodup (o : k.Ok n t) : (sonM k).Nodup := nodup_map (clsL_nodup o.asc (eqv_partsL o.kn.parts)) fun a b ha hb e => by
  obtain ⟨x, hx, rfl⟩ := (mem_clsL o.asc (eqv_partsL o.kn.parts)).mp ha
  obtain ⟨y, hy, rfl⟩ := (mem_clsL o.asc (eqv_partsL o.kn.parts)).mp hb
  exact msk_inj (asc_clOf o.asc x) (asc_clOf o.asc y) e
theorem arrL_nodup (w : Wb t) (hn : n ≤ 8) (o : k.Ok n t) : (arrL n t k (sonM k)).Nodup := by
  unfold arrL
  refine List.pairwise_flatMap.mpr ⟨fun m hm => (asc_bt n t _ _).nodup, List.Pairwise.imp_of_mem (fun {a b} ha hb ne c hc c' hc' e => ?_) (sonM_nodup o)⟩
  subst e
  obtain ⟨x, hx, rfl, hlt⟩ := son_of o ha
  obtain ⟨y, hy, rfl, hlt'⟩ := son_of o hb
  have e1 := (bits_son o).mp ((mem_bt hn hlt).mp hc).1
  have e2 := (bits_son o).mp ((mem_bt hn hlt').mp hc').1
  have p := o.kn.parts
  exact ne (by rw [clOf_eq (eqv_partsL p) hx hy (p.tr _ _ _ e1 (p.sym _ _ e2))])
theorem arrL_len (w : Wb t) (hn : n ≤ 8) (o : k.Ok n t) (m : Nat) : (arrL n t k ((sonM k).take m)).length ≤ 64 := by
  have h1 : (arrL n t k (sonM k)).length ≤ 64 := Nat.le_trans (nd_len (arrL_nodup w hn o) (asc_AL n t).nodup fun c hc => (mem_AL hn).mpr ((mem_arrL w hn o).mp hc).1) (AL_len n t)
  have h2 : arrL n t k (sonM k) = arrL n t k ((sonM k).take m) ++ arrL n t k ((sonM k).drop m) := by
    unfold arrL
    rw [← List.flatMap_append, List.take_append_drop]
  rw [h2, List.length_append] at h1
  omega
theorem sons_len (o : k.Ok n t) (hn : n ≤ 8) : (sonM k).length ≤ 8 := by
  have e : (sonM k).length = (hds k.l k.E).length := by unfold sonM clsL; rw [List.length_map, List.length_map]
  rw [e]
  have := nd_len (a := hds k.l k.E) (b := List.range 8) (asc_hds o.asc).nodup (asc_range 8).nodup fun x hx => List.mem_range.mpr (by have := o.lt x (mem_hds.mp hx).1; omega)
  simpa using this
theorem l_len (o : k.Ok n t) (hn : n ≤ 8) : k.l.length ≤ 8 := by
  have := nd_len (a := k.l) (b := List.range 8) o.asc.nodup (asc_range 8).nodup fun x hx => List.mem_range.mpr (by have := o.lt x hx; omega)
  simpa using this
/-- a knot that is looked at has arrows -/
theorem arrL_ne (w : Wb t) (hn : n ≤ 8) (o : k.Ok n t) (h : ¬ (k.fm = false ∧ k.f = false)) : arrL n t k (sonM k) ≠ [] := by
  have ex : ∃ x y, x ∈ k.l ∧ y ∈ k.l ∧ ¬ k.E x y ∧ t x y = true := by
    cases hf : k.fm with
    | true => exact (o.kn.firm hf).2.1
    | false =>
      obtain ⟨x, y, hx, hy, ne⟩ := o.kn.parts.two
      refine ⟨x, y, hx, hy, ne, ?_⟩
      rw [o.look hf x y hx hy ne]
      cases hf2 : k.f with
      | true => rfl
      | false => exact absurd ⟨hf, hf2⟩ h
  obtain ⟨x, y, hx, hy, ne, e⟩ := ex
  obtain ⟨c1, c2⟩ := cod_AL hn (a := (x, y)) ⟨o.lt x hx, o.lt y hy, e⟩
  intro q
  have : cod (x, y) ∈ arrL n t k (sonM k) := (mem_arrL w hn o).mpr (by rw [c2]; exact ⟨⟨o.lt x hx, o.lt y hy, e⟩, hx, hy, ne⟩)
  rw [q] at this
  cases this
/-! ### what class_knot has to say -/
theorem told_eq {l : List Nat} {fm : Bool} {E : Nat → Nat → Prop} {a : Arw} (o : k.Ok n t) (kn : Kn n t l fm E) (asc : Asc l) (h : InK l E a) (h' : InK k.l k.E a) : toldD l fm E a = toldD k.l k.fm k.E a := by
  obtain ⟨e1, e2, e3⟩ := kn_uniq kn o.kn asc o.asc h h'
  subst e1 e3
  unfold toldD
  rw [clsL_congr (E' := k.E) fun x y _ _ => e2 x y]
theorem told_co (a : Arw) : toldD k.l k.fm k.E (co a) = toldD k.l k.fm k.E a := by
  unfold toldD
  have : (fun c : List Nat => decide ((co a).1 ∈ c) || decide ((co a).2 ∈ c)) = fun c => decide (a.1 ∈ c) || decide (a.2 ∈ c) := funext fun c => Bool.or_comm _ _
  rw [this]
def lotsP (fm : Bool) (a : Arw) (m : Nat) : Bool := fm || (m.testBit a.1 || m.testBit a.2)
noncomputable def lotsL (k : LK) (a : Arw) : List Nat := (sonM k).filter (lotsP k.fm a)
theorem asc_son (o : k.Ok n t) {c : List Nat} (h : c ∈ clsL k.l k.E) : Asc c ∧ ∀ x ∈ c, x ∈ k.l := by
  obtain ⟨x, hx, rfl⟩ := (mem_clsL o.asc (eqv_partsL o.kn.parts)).mp h
  exact ⟨asc_clOf o.asc x, fun y hy => (mem_clOf.mp hy).1⟩
theorem lots_eq (o : k.Ok n t) (hn : n ≤ 8) (a : Arw) : (lotsL k a).map lot = if k.fm then clsL k.l k.E else (clsL k.l k.E).filter fun c => decide (a.1 ∈ c) || decide (a.2 ∈ c) := by
  have e1 : lotsL k a = ((clsL k.l k.E).filter fun c => k.fm || (decide (a.1 ∈ c) || decide (a.2 ∈ c))).map msk := by
    unfold lotsL sonM
    refine filtMap fun c hc => ?_
    have asc := (asc_son o hc).1
    unfold lotsP
    rw [bit_msk asc, bit_msk asc]
  have e2 : ∀ L : List (List Nat), (∀ c ∈ L, c ∈ clsL k.l k.E) → (L.map msk).map lot = L := fun L h => by
    rw [List.map_map]
    refine (List.map_congr_left (g := id) fun c hc => ?_).trans (List.map_id L)
    obtain ⟨asc, hs⟩ := asc_son o (h c hc)
    exact lot_msk asc fun x hx => by have := o.lt x (hs x hx); omega
  rw [e1, e2 _ fun c hc => (List.mem_filter.mp hc).1]
  cases k.fm with
  | true => simp
  | false => simp
end
end K41
end
section
set_option linter.all false
set_option maxRecDepth 100000
/-! K41: one knot: the class at home, the two ways, readings' side conditions. -/
namespace K41
open Classical PySem
theorem nD_lay (x : Nat) : (nD x).canLay0 = true := by simp [nD, PyData.canLay0]
theorem nD_dep (x : Nat) : (nD x).depth = 0 := by simp [nD, PyData.depth]
theorem aD_lay (c : Nat) : (aD c).canLay0 = true := by simp [aD, nD, PyData.canLay0, PyData.canLayAll0]
theorem aD_dep (c : Nat) : (aD c).depth = 1 := by simp [aD, nD, PyData.depth, PyData.depthAll]
theorem shaped_tuple {ds : List PyData} (h1 : ∀ d ∈ ds, d.canLay0 = true) (h2 : ∀ d ∈ ds, d.depth ≤ 60) : SeqAt.shaped (.tuple ds) = true := by
  have a := lay_all h1
  have b := depthAll_le h2
  unfold SeqAt.shaped
  rw [Bool.and_eq_true]
  refine ⟨by simp [PyData.canLay0, a], decide_eq_true ?_⟩
  simp [PyData.depth]
  omega
theorem shaped_aD (c : Nat) : SeqAt.shaped (aD c) = true := by
  unfold SeqAt.shaped
  rw [aD_lay, aD_dep]
  decide
theorem shaped_cla (c : List Nat) : SeqAt.shaped (claD c) = true := shaped_tuple (fun d hd => by obtain ⟨x, _, rfl⟩ := List.mem_map.mp hd; exact aD_lay x) fun d hd => by
  obtain ⟨x, _, rfl⟩ := List.mem_map.mp hd
  rw [aD_dep]
  omega
theorem shaped_arws (c : List Nat) : SeqAt.shaped (.list (c.map aD)) = true := shaped_list (fun d hd => by obtain ⟨x, _, rfl⟩ := List.mem_map.mp hd; exact aD_lay x) fun d hd => by
  obtain ⟨x, _, rfl⟩ := List.mem_map.mp hd
  rw [aD_dep]
  omega
theorem eqv_aD (x y : Nat) : PyData.eqv (aD x) (aD y) = decide (x = y) := by
  have : PyData.eqv (aD x) (aD y) = (decide (x / 8 = y / 8) && decide (x % 8 = y % 8)) := by
    have h : ∀ a b : Nat, ((a : Int) == (b : Int)) = decide (a = b) := fun a b => by
      rw [Bool.eq_iff_iff]
      simp
      omega
    simp only [aD, nD, PyData.eqv, PyData.eqvAll, Bool.and_true, h]
  rw [this, ← Bool.decide_and]
  exact decide_eq_decide.mpr (by omega)
theorem any_aD (l : List Nat) (c : Nat) : (l.map aD).any (fun z => PyData.eqv z (aD c)) = decide (c ∈ l) := by
  induction l with
  | nil => simp
  | cons x l ih =>
    rw [List.map_cons, List.any_cons, ih, eqv_aD, ← Bool.decide_or]
    refine decide_eq_decide.mpr ?_
    rw [List.mem_cons]
    exact or_congr_left ⟨Eq.symm, Eq.symm⟩
theorem eqvAll_arws : ∀ l : List Nat, PyData.eqvAll (l.map aD) (l.map aD) = true
  | [] => by simp [PyData.eqvAll]
  | x :: l => by
    rw [List.map_cons]
    simp only [PyData.eqvAll, eqvAll_arws l, Bool.and_true, eqv_aD, decide_true]
theorem eqv_arws (l : List Nat) : PyData.eqv (.list (l.map aD)) (.list (l.map aD)) = true := by simp only [PyData.eqv, eqvAll_arws]
theorem wordD_sm (fm : Bool) : Sm 0 64 (wordD fm) := by
  cases fm
  · exact ⟨by decide +kernel, by decide +kernel, by decide +kernel, by decide +kernel, by decide +kernel⟩
  · exact ⟨by decide +kernel, by decide +kernel, by decide +kernel, by decide +kernel, by decide +kernel⟩
section
variable {n : Nat} {t : Nat → Nat → Bool} {k : LK}
theorem told_sm (o : k.Ok n t) (hn : n ≤ 8) (a : Arw) : Sm 3 2000 (toldD k.l k.fm k.E a) := by
  have hs : ∀ c ∈ clsL k.l k.E, Sm 1 64 (lotD c) := fun c hc => by
    obtain ⟨asc, hsub⟩ := asc_son o hc
    refine sm_lot (fun x hx => by have := o.lt x (hsub x hx); omega) ?_
    have := nd_len (a := c) (b := List.range 8) asc.nodup (asc_range 8).nodup fun x hx => List.mem_range.mpr (by have := o.lt x (hsub x hx); omega)
    simpa using this
  have hl : (clsL k.l k.E).length ≤ 8 := by have := sons_len o hn; unfold sonM at this; rwa [List.length_map] at this
  refine (sm_tup (ds := [lotD k.l, wordD k.fm, .tuple ((if k.fm then clsL k.l k.E else (clsL k.l k.E).filter fun c => decide (a.1 ∈ c) || decide (a.2 ∈ c)).map lotD)]) (dp := 2) (wt := 520) (L := 3) (fun d hd => ?_) (by simp)).mono (by omega) (by omega)
  simp only [List.mem_cons, List.not_mem_nil, or_false] at hd
  rcases hd with e | e | e <;> subst e
  · exact (sm_lot (fun x hx => by have := o.lt x hx; omega) (l_len o hn)).mono (by omega) (by omega)
  · exact (wordD_sm _).mono (by omega) (by omega)
  · refine sm_map (dp := 1) (wt := 64) (L := 8) (fun c hc => hs c ?_) ?_
    · cases hf : k.fm with
      | true => rw [hf] at hc; exact hc
      | false => rw [hf] at hc; exact (List.mem_filter.mp hc).1
    · cases k.fm with
      | true => exact hl
      | false => exact Nat.le_trans (List.length_filter_le _ _) hl
theorem told_shown (o : k.Ok n t) (hn : n ≤ 8) (a : Arw) : Shown (toldD k.l k.fm k.E a) := (told_sm o hn a).shown (.inr ⟨_, rfl⟩) (by omega) (by omega)
/-- the classes that hold an arrow -/
theorem home_eq (w : Wb t) (hn : n ≤ 8) {c : Nat} (hc : c ∈ AL n t) : (clsA n t).filter (fun l => decide (c ∈ l)) = [clOf (AL n t) (EA n t) c] := clsL_home (asc_AL n t) (eqv_EA w hn) hc
theorem mem_home {c d : Nat} : d ∈ clOf (AL n t) (EA n t) c ↔ d ∈ AL n t ∧ Cl n t (dec c) (dec d) := mem_clOf
theorem home_len (c : Nat) : (clOf (AL n t) (EA n t) c).length ≤ 64 := Nat.le_trans (List.length_filter_le _ _) (AL_len n t)
theorem AL_lt {c : Nat} (h : c ∈ AL n t) : c < 64 := List.mem_range.mp (List.mem_filter.mp h).1
/-- the one son among the looked-at ones that holds x -/
theorem ahead_eq (o : k.Ok n t) (hn : n ≤ 8) (hf : k.fm = false) {a : Arw} {x : Nat} (hx : x ∈ k.l) (h : x = a.1 ∨ x = a.2) : (lotsL k a).filter (fun m => m.testBit x) = [msk (clOf k.l k.E x)] := by
  have q := eqv_partsL o.kn.parts
  have e1 : (lotsL k a).filter (fun m => m.testBit x) = ((clsL k.l k.E).filter fun c => decide (x ∈ c)).map msk := by
    unfold lotsL sonM
    rw [List.filter_filter]
    refine filtMap fun c hc => ?_
    have asc := (asc_son o hc).1
    unfold lotsP
    rw [hf, bit_msk asc, bit_msk asc, bit_msk asc]
    rcases h with e | e <;> subst e
    · cases decide (a.1 ∈ c) <;> simp
    · cases decide (a.2 ∈ c) <;> simp
  rw [e1, clsL_home o.asc q hx]
  rfl
/-- all: the class is what lies between the two sons -/
theorem class_all (w : Wb t) (hn : n ≤ 8) (o : k.Ok n t) (hf : k.fm = false) {c : Nat} (hc : c ∈ AL n t) (i : InK k.l k.E (dec c)) :
    clOf (AL n t) (EA n t) c = bt n t (msk (clOf k.l k.E (dec c).1)) (msk (clOf k.l k.E (dec c).2)) := by
  have ac := (mem_AL hn).mp hc
  refine asc_ext (asc_clOf (asc_AL n t) c) (asc_bt n t _ _) fun d => ?_
  have hlt : msk (clOf k.l k.E (dec c).1) < 2 ^ n := msk_lt (asc_clOf o.asc _) fun y hy => o.lt y (mem_clOf.mp hy).1
  rw [mem_home, mem_bt hn hlt, bits_son o, bits_son o, mem_AL hn, o.kn.classAll w hf ac i]
  exact ⟨fun q => ⟨q.2.1, q.2.2, q.1⟩, fun q => ⟨q.2.2, q.1, q.2.1⟩⟩
theorem dec_flp (c : Nat) (h : c < 64) : dec (flp c) = co (dec c) := by
  unfold dec flp co
  refine Prod.ext ?_ ?_
  · show (c % 8 * 8 + c / 8) / 8 = c % 8
    omega
  · show (c % 8 * 8 + c / 8) % 8 = c / 8
    omega
theorem flp_flp (c : Nat) (h : c < 64) : flp (flp c) = c := by unfold flp; omega
theorem flp_AL (w : Wb t) (hn : n ≤ 8) {c : Nat} (h : c ∈ AL n t) : flp c ∈ AL n t := (mem_AL hn).mpr (by rw [dec_flp c (AL_lt h)]; exact Ar.co w ((mem_AL hn).mp h))
/-- firm: the class and, if it clashes not, the contraries: all the knot's arrows -/
theorem class_firm (w : Wb t) (hn : n ≤ 8) (o : k.Ok n t) (hf : k.fm = true) {c : Nat} (hc : c ∈ AL n t) (i : InK k.l k.E (dec c)) :
    srt (if flp c ∈ clOf (AL n t) (EA n t) c then clOf (AL n t) (EA n t) c else clOf (AL n t) (EA n t) c ++ (clOf (AL n t) (EA n t) c).map flp) = srt (arrL n t k (sonM k)) := by
  have ac := (mem_AL hn).mp hc
  have clash : flp c ∈ clOf (AL n t) (EA n t) c ↔ Cl n t (dec c) (co (dec c)) := by
    rw [mem_home, dec_flp c (AL_lt hc)]
    exact ⟨fun q => q.2, fun q => ⟨flp_AL w hn hc, q⟩⟩
  have cls : ∀ d, d ∈ clOf (AL n t) (EA n t) c → d ∈ arrL n t k (sonM k) := fun d hd => by
    obtain ⟨h1, h2⟩ := mem_home.mp hd
    exact (mem_arrL w hn o).mpr ⟨(mem_AL hn).mp h1, o.kn.closedC w i ac h2⟩
  have nd0 := (asc_clOf (asc_AL n t) (E := EA n t) c).nodup
  have inAL : ∀ d, d ∈ arrL n t k (sonM k) → d ∈ AL n t := fun d hd => (mem_AL hn).mpr ((mem_arrL w hn o).mp hd).1
  refine srt_eq (srt_asc (arrL_nodup w hn o)) ?_ fun d => ?_
  · by_cases q : flp c ∈ clOf (AL n t) (EA n t) c
    · rw [if_pos q]; exact nd0
    · rw [if_neg q]
      refine List.nodup_append.mpr ⟨nd0, nodup_map nd0 fun a b ha hb e => ?_, fun a ha b hb e => ?_⟩
      · rw [← flp_flp a (AL_lt (mem_home.mp ha).1), e, flp_flp b (AL_lt (mem_home.mp hb).1)]
      · obtain ⟨b', hb', rfl⟩ := List.mem_map.mp hb
        subst e
        obtain ⟨h1, h2⟩ := mem_home.mp ha
        obtain ⟨h3, h4⟩ := mem_home.mp hb'
        rw [dec_flp b' (AL_lt h3)] at h2
        have h5 : Cl n t (co (dec b')) (co (dec c)) := Cl.co (Cl.symm w h4 ac)
        exact q (clash.mpr (h2.trans h5))
  · rw [srt_mem]
    by_cases q : flp c ∈ clOf (AL n t) (EA n t) c
    · rw [if_pos q]
      refine ⟨cls d, fun hd => mem_home.mpr ⟨inAL d hd, ?_⟩⟩
      obtain ⟨h1, h2⟩ := (mem_arrL w hn o).mp hd
      rcases o.kn.colour w hf ac i h1 h2 with r | r
      · exact r
      · exact (clash.mp q).trans (Cl.co r)
    · rw [if_neg q, List.mem_append]
      constructor
      · rintro (hd | hd)
        · exact cls d hd
        · obtain ⟨b, hb, rfl⟩ := List.mem_map.mp hd
          have := (mem_arrL w hn o).mp (cls b hb)
          have lt := AL_lt (mem_home.mp hb).1
          exact (mem_arrL w hn o).mpr (by rw [dec_flp b lt]; exact ⟨Ar.co w this.1, o.kn.inCo this.2⟩)
      · intro hd
        obtain ⟨h1, h2⟩ := (mem_arrL w hn o).mp hd
        have lt := AL_lt (inAL d hd)
        rcases o.kn.colour w hf ac i h1 h2 with r | r
        · exact .inl (mem_home.mpr ⟨inAL d hd, r⟩)
        · refine .inr (List.mem_map.mpr ⟨flp d, mem_home.mpr ⟨flp_AL w hn (inAL d hd), ?_⟩, flp_flp d lt⟩)
          rw [dec_flp d lt]
          exact r
theorem clash_cnt (w : Wb t) (hn : n ≤ 8) (o : k.Ok n t) (hf : k.fm = true) {c : Nat} (hc : c ∈ AL n t) (i : InK k.l k.E (dec c)) : cntK n t k = if flp c ∈ clOf (AL n t) (EA n t) c then 1 else 2 := by
  rw [cnt_firm w hn o hf ((mem_AL hn).mp hc) i]
  have clash : flp c ∈ clOf (AL n t) (EA n t) c ↔ Cl n t (dec c) (co (dec c)) := by
    rw [mem_home, dec_flp c (AL_lt hc)]
    exact ⟨fun q => q.2, fun q => ⟨flp_AL w hn hc, q⟩⟩
  by_cases q : Cl n t (dec c) (co (dec c))
  · rw [if_pos q, if_pos (clash.mpr q)]
  · rw [if_neg q, if_neg fun z => q (clash.mp z)]
end
end K41
end
section
set_option linter.all false
set_option maxRecDepth 100000
set_option maxHeartbeats 4000000
/-! K41, the walks: _law_knot_told. -/
namespace K41
open PySem PySem.Spec PyProof.Rows L2
open Classical
/-! _law_knot_told: slots 0 _law_well_here, 1 _law_web_here, 2 _law_near_here, 3 _law_classes, 4 _law_knot, 5 _law_piece, 6 _law_sons_here, 7 _law_word, 8 _law_arrows, 9 _law_own, 10 _law_arrow, 11 _law_x, 12 _law_y, 13 _law_home, 14 _law_lots, 15 _law_due, 16 _law_told, 17 _law_ahead, 18 _law_behind, 19 _law_is_clash, 20 _law_whole -/
abbrev s_law_knot_told : Stmt := topS 46
theorem sc_law_knot_told : FnScope ["_law_well_here", "_law_web_here", "_law_near_here", "_law_classes", "_law_knot", "_law_piece", "_law_sons_here", "_law_word", "_law_arrows", "_law_own", "_law_arrow", "_law_x", "_law_y", "_law_home", "_law_lots", "_law_due", "_law_told", "_law_ahead", "_law_behind", "_law_is_clash", "_law_whole"] ["_law_well_here", "_law_web_here", "_law_near_here", "_law_classes", "_law_knot"] (defScope s_law_knot_told) := ⟨rfl, rfl, rfl, by decide +kernel, rfl, by decide +kernel, by decide +kernel⟩
structure KT where
  n : Nat
  t : Nat → Nat → Bool
  k : LK
noncomputable def clsD (n : Nat) (t : Nat → Nat → Bool) : PyData := .tuple ((clsA n t).map claD)
abbrev spKnotTold (T : List (Addr × Str)) : Sp := spW T (ι := KT) (fun i => Wb i.t ∧ i.n ≤ 8 ∧ i.k.Ok i.n i.t ∧ ¬ (i.k.fm = false ∧ i.k.f = false)) (fun i => [tabD i.n i.t, nearD i.n i.t, clsD i.n i.t, lkD i.k]) fun i d => d = nD (cntK i.n i.t i.k)
def wS (fm f : Bool) : Str := if fm then "some" else if f then "all" else "none"
theorem wS_some : ∀ fm f : Bool, decide (wS fm f = ("some" : Str)) = fm := by decide +kernel
theorem wS_all : ∀ fm f : Bool, decide (wS fm f = ("all" : Str)) = (!fm && f) := by decide +kernel
theorem wS_none : ∀ fm f : Bool, decide (wS fm f = ("none" : Str)) = (!fm && !f) := by decide +kernel
theorem testBit_dec (m x : Nat) : decide (Builtin.bitAnd ((m : Int) / 2 ^ ((x : Int)).toNat) 1 = 1) = m.testBit x := by rw [bit_test, eq_one]
section
variable {T : List (Addr × Str)} {P : Program} {w : World} {K : PySem.W.Frag} {mg : Str → Option Value} {base : Heap}
theorem ok_law_knot_told {f f1 f2 f3 f4 f5 f6 : Addr} {fd fd1 fd2 fd3 fd4 fd5 fd6 : FuncData} (D : At' K mg "_law_knot_told" s_law_knot_told ["_law_well_here", "_law_web_here", "_law_near_here", "_law_classes", "_law_knot"] f fd) (Z : Zs mg)
    (C__law_between : Cal P w K mg base 2 "_law_between" ["_law_near_here", "_law_one", "_law_other"] (spBetween T) f1 fd1) (C__law_pick : Cal P w K mg base 2 "_law_pick" ["_law_well_here", "_law_items"] (spPick T) f2 fd2)
    (C__law_lot : Cal P w K mg base 1 "_law_lot" ["_law_mask"] (spLot T) f3 fd3) (C__law_draw : Cal P w K mg base 1 "_law_draw" ["_law_well_here", "_law_many"] (spDraw T) f4 fd4)
    (C_class_knot : Cal P w K mg base 20 "class_knot" ["web", "arrow"] (spClass T) f5 fd5) (KB : KBinds K fd5 ["web", "arrow"] ["arrow", "web"] gSw gSw) (C__law_contrary : Cal P w K mg base 1 "_law_contrary" ["_law_arrows"] (spContrary T) f6 fd6) :
    CalG P w K mg base 21 "_law_knot_told" ["_law_well_here", "_law_web_here", "_law_near_here", "_law_classes", "_law_knot"] (spKnotTold T) f fd := by
  refine ⟨fn_WG (k := 20) D.F sc_law_knot_told (fun _ => rfl) fun cdv A outer s H E hr hgd => ⟨_,
    (pss_cons (ps_asg (pv 4) (xg_unl (K := K) (n := 3) rfl rfl (pgs_cons (pg_name (i := 5) sc_law_knot_told.nd rfl (.inl rfl)) (pgs_cons (pg_name (i := 6) sc_law_knot_told.nd rfl (.inl rfl)) (pgs_cons (pg_name (i := 7) sc_law_knot_told.nd rfl (.inr rfl)) pgs_nil)))))
    (pss_cons (ps_set (i := 8) sc_law_knot_told.nd rfl (.inl rfl) (pe_lst pa_nil))
    (pss_cons (ps_for PassesOwn.never rfl (xi_seq (K := K) rfl (pv 6)) (pg_name (i := 9) sc_law_knot_told.nd rfl (.inl rfl))
      (pss_one (ps_set (i := 8) sc_law_knot_told.nd rfl (.inl rfl) (pe_op op_cat (pv 8) (pe_call C__law_between.G (hr.mono (by omega)) (by rfl) C__law_between.m C__law_between.kp C__law_between.b .nil pass0 (pa_cons (pv 2) (pa_cons (pv 9) (pa_cons (pe_op op_sub (pv 5) (pv 9)) pa_nil))))))))
    (pss_cons (ps_set (i := 10) sc_law_knot_told.nd rfl (.inr rfl) (pe_call C__law_pick.G (hr.mono (by omega)) (by rfl) C__law_pick.m C__law_pick.kp C__law_pick.b .nil pass0 (pa_cons (pv 0) (pa_cons (pv 8) pa_nil))))
    (pss_cons (ps_asg (pv 10) (xg_tup (K := K) (n := 2) rfl rfl (pgs_cons (pg_name (i := 11) sc_law_knot_told.nd rfl (.inr rfl)) (pgs_cons (pg_name (i := 12) sc_law_knot_told.nd rfl (.inr rfl)) pgs_nil))))
    (pss_cons (ps_setLc (i := 13) (own := [("_law_own", 9)]) rfl sc_law_knot_told.nd rfl rfl (sw_true rfl rfl rfl (by decide +kernel)) (xi_seq (K := K) rfl (pv 3)) (blkOk_by (by kernel_rfl)) (fun _ _ _ _ _ => (pg_name (i := 9) sc_law_knot_told.nd rfl (by first | exact Or.inl rfl | exact Or.inr rfl))) (fun _ _ _ _ _ => (pts_one (pt_cmpR (x_inTD (K := K) rfl (Room.u65 hr)) (pv 10) (pv 9) (by rfl)))) (fun _ _ _ _ _ => (pv 9)))
    (pss_cons (ps_setLc (i := 14) (own := [("_law_own", 9)]) rfl sc_law_knot_told.nd rfl rfl (sw_true rfl rfl rfl (by decide +kernel)) (xi_seq (K := K) rfl (pv 6)) (blkOk_by (by kernel_rfl)) (fun _ _ _ _ _ => (pg_name (i := 9) sc_law_knot_told.nd rfl (by first | exact Or.inl rfl | exact Or.inr rfl))) (fun _ _ _ _ _ => (pts_one (PW.pt (pw_or (pt_cmpR op_eq (pv 7) pe_str (nomark _)) (pw_or (pt_cmpR op_eq (pe_op op_and (pe_op op_shr (pv 9) (pv 11)) pe_int) pe_int (nomark _)) (pw_or1 (pt_cmpR op_eq (pe_op op_and (pe_op op_shr (pv 9) (pv 12)) pe_int) pe_int (nomark _)))))))) (fun _ _ _ _ _ => (pv 9)))
    (pss_cons (ps_set (i := 15) sc_law_knot_told.nd rfl (.inl rfl) (pe_tup (pa_cons (pe_call C__law_lot.G (hr.mono (by omega)) (by rfl) C__law_lot.m C__law_lot.kp C__law_lot.b .nil pass0 (pa_cons (pv 5) pa_nil)) (pa_cons (pe_ifExp (pt_cmpR op_eq (pv 7) pe_str (nomark _)) pe_str pe_str) (pa_cons (pe_callTy (x_tuple (K := K) rfl) (by rfl) Z.tuple (by decide +kernel) (pa_cons (pe_lc (own := [("_law_own", 9)]) rfl sc_law_knot_told.nd (xi_seq (K := K) rfl (pv 14)) (blkOk_by (by kernel_rfl)) (fun _ _ _ _ _ => (pg_name (i := 9) sc_law_knot_told.nd rfl (by first | exact Or.inl rfl | exact Or.inr rfl))) (fun _ _ _ _ _ => pts_nil) (fun _ _ _ _ _ => (pe_call C__law_lot.G (hr.mono (by omega)) (by rfl) C__law_lot.m C__law_lot.kp C__law_lot.b .nil pass0 (pa_cons (pv 9) pa_nil)))) pa_nil)) pa_nil)))))
    (pss_cons (ps_set (i := 16) sc_law_knot_told.nd rfl (.inl rfl) (pe_ifExp (pt_cmpR op_eq (pe_call C__law_draw.G (hr.mono (by omega)) (by rfl) C__law_draw.m C__law_draw.kp C__law_draw.b .nil pass0 (pa_cons (pv 0) (pa_cons pe_int pa_nil))) pe_int (nomark _)) (pe_call C_class_knot.G (hr.mono (by omega)) (by rfl) C_class_knot.m C_class_knot.kp C_class_knot.b .nil pass0 (pa_cons (pv 1) (pa_cons (pv 10) pa_nil))) (pe_callK0 C_class_knot.G (hr.mono (by omega)) (by rfl) C_class_knot.m C_class_knot.kp KB pass0 (pk_cons (pv 10) (pk_cons (pv 1) pk_nil)))))
    (pss_cons (ps_if (PW.pt (pw_or (pt_cmpR op_ne (pe_callB (x_len (K := K) rfl) (by rfl) Z.len (by decide +kernel) (pa_cons (pv 13) pa_nil)) pe_int (nomark _)) (pw_or (pt_cmpR op_ne (pe_callB (x_repr (K := K) rfl hgd (Room.u65 hr)) (by rfl) Z.repr (by decide +kernel) (pa_cons (pv 16) pa_nil)) (pe_callB (x_repr (K := K) rfl hgd (Room.u65 hr)) (by rfl) Z.repr (by decide +kernel) (pa_cons (pv 15) pa_nil)) (nomark _)) (pw_or1 (PW.pt (pw_and (pt_cmpR op_eq (pe_call C__law_draw.G (hr.mono (by omega)) (by rfl) C__law_draw.m C__law_draw.kp C__law_draw.b .nil pass0 (pa_cons (pv 0) (pa_cons pe_int pa_nil))) pe_int (nomark _)) (pw_and1 (pt_cmpR op_ne (pe_callB (x_repr (K := K) rfl hgd (Room.u65 hr)) (by rfl) Z.repr (by decide +kernel) (pa_cons (pe_call C_class_knot.G (hr.mono (by omega)) (by rfl) C_class_knot.m C_class_knot.kp C_class_knot.b .nil pass0 (pa_cons (pv 1) (pa_cons (pe_tup (pa_cons (pv 12) (pa_cons (pv 11) pa_nil))) pa_nil))) pa_nil)) (pe_callB (x_repr (K := K) rfl hgd (Room.u65 hr)) (by rfl) Z.repr (by decide +kernel) (pa_cons (pv 15) pa_nil)) (nomark _)))))))))
      (pss_one (ps_ret pe_non))
      pss_nil)
    (pss_cons (ps_if (pt_cmpR op_eq (pv 7) pe_str (nomark _))
      (pss_cons (ps_par (i := 17) (j := 18) rfl sc_law_knot_told.nd rfl rfl (by decide) rfl rfl (pa_cons (pe_ix (x_ix (K := K) rfl) (pe_lc (own := [("_law_own", 9)]) rfl sc_law_knot_told.nd (xi_seq (K := K) rfl (pv 14)) (blkOk_by (by kernel_rfl)) (fun _ _ _ _ _ => (pg_name (i := 9) sc_law_knot_told.nd rfl (by first | exact Or.inl rfl | exact Or.inr rfl))) (fun _ _ _ _ _ => (pts_one (pt_cmpR op_eq (pe_op op_and (pe_op op_shr (pv 9) (pv 11)) pe_int) pe_int (nomark _)))) (fun _ _ _ _ _ => (pv 9))) pe_int (fun _ _ => rfl)) (pa_cons (pe_ix (x_ix (K := K) rfl) (pe_lc (own := [("_law_own", 9)]) rfl sc_law_knot_told.nd (xi_seq (K := K) rfl (pv 14)) (blkOk_by (by kernel_rfl)) (fun _ _ _ _ _ => (pg_name (i := 9) sc_law_knot_told.nd rfl (by first | exact Or.inl rfl | exact Or.inr rfl))) (fun _ _ _ _ _ => (pts_one (pt_cmpR op_eq (pe_op op_and (pe_op op_shr (pv 9) (pv 12)) pe_int) pe_int (nomark _)))) (fun _ _ _ _ _ => (pv 9))) pe_int (fun _ _ => rfl)) pa_nil)) (by rfl))
      (pss_one (ps_ret (pe_ifExp (pt_cmpR (x_eqD (K := K) rfl hr.units) (pe_callTy (x_list (K := K) rfl) (by rfl) Z.list (by decide +kernel) (pa_cons (pe_ix (x_ix (K := K) rfl) (pv 13) pe_int (fun _ _ => rfl)) pa_nil)) (pe_callB (x_sorted (K := K) rfl (Room.u65 hr)) (by rfl) Z.sorted (by decide +kernel) (pa_cons (pe_call C__law_between.G (hr.mono (by omega)) (by rfl) C__law_between.m C__law_between.kp C__law_between.b .nil pass0 (pa_cons (pv 2) (pa_cons (pv 17) (pa_cons (pv 18) pa_nil)))) pa_nil)) (nomark _)) (pe_op op_mul (pe_callB (x_len (K := K) rfl) (by rfl) Z.len (by decide +kernel) (pa_cons (pv 6) pa_nil)) (pe_op op_sub (pe_callB (x_len (K := K) rfl) (by rfl) Z.len (by decide +kernel) (pa_cons (pv 6) pa_nil)) pe_int)) pe_non))))
      pss_nil)
    (pss_cons (ps_set (i := 19) sc_law_knot_told.nd rfl (.inl rfl) (pe_cmpR (x_inTD (K := K) rfl (Room.u65 hr)) (pe_tup (pa_cons (pv 12) (pa_cons (pv 11) pa_nil))) (pe_ix (x_ix (K := K) rfl) (pv 13) pe_int (fun _ _ => rfl)) (by rfl)))
    (pss_cons (ps_set (i := 20) sc_law_knot_told.nd rfl (.inl rfl) (pe_ifExp (pt_val (pv 19)) (pe_callTy (x_list (K := K) rfl) (by rfl) Z.list (by decide +kernel) (pa_cons (pe_ix (x_ix (K := K) rfl) (pv 13) pe_int (fun _ _ => rfl)) pa_nil)) (pe_op op_cat (pe_callTy (x_list (K := K) rfl) (by rfl) Z.list (by decide +kernel) (pa_cons (pe_ix (x_ix (K := K) rfl) (pv 13) pe_int (fun _ _ => rfl)) pa_nil)) (pe_call C__law_contrary.G (hr.mono (by omega)) (by rfl) C__law_contrary.m C__law_contrary.kp C__law_contrary.b .nil pass0 (pa_cons (pe_ix (x_ix (K := K) rfl) (pv 13) pe_int (fun _ _ => rfl)) pa_nil)))))
    (pss_one (ps_ret (pe_ifExp (pt_cmpR (x_eqD (K := K) rfl hr.units) (pe_callB (x_sorted (K := K) rfl (Room.u65 hr)) (by rfl) Z.sorted (by decide +kernel) (pa_cons (pv 20) pa_nil)) (pe_callB (x_sorted (K := K) rfl (Room.u65 hr)) (by rfl) Z.sorted (by decide +kernel) (pa_cons (pv 8) pa_nil)) (nomark _)) (pe_ifExp (pt_val (pv 19)) pe_int pe_int) pe_non)))))))))))))))),
    fun a g k0 i ⟨w, hn, o, hw⟩ => ?_⟩, D.m, D.F.kp, D.b⟩
  obtain ⟨n, t, k⟩ := i
  simp only at w hn o hw ⊢
  have sl := sons_len o hn
  refine r_seq <| r_asgG (S := [5, 6, 7]) <| d_var rfl <| g_unl rfl <| gs_cons <| g_name (by simp) <| gs_cons <| g_name (by simp) <| gs_cons <| g_name (by simp) <| gs_nil ?_
  refine r_seq <| r_asg <| d_ofF <| f_lst <| a_nil ⟨by simp, ?_⟩
  refine r_seq <| r_forA (sonM k) nD (fun m Γ1 => ∃ c9, (c9 = none ∨ ∃ d, c9 = some (.dat d)) ∧ Γ1 = [some (.raw (.ref a)), some (.dat (tabD n t)), some (.dat (nearD n t)), some (.dat (clsD n t)), some (.dat (lkD k)), some (.dat (nD (msk k.l))), some (.dat (masksD (sonM k))), some (.dat (.str (wS k.fm k.f))), some (.dat (.list ((arrL n t k ((sonM k).take m)).map aD))), c9, none, none, none, none, none, none, none, none, none, none, none])
    (i_seqL <| d_var rfl ⟨_, rfl, rfl⟩) ⟨_, .inl rfl, rfl⟩ [9] (fun m x Γ1 hm ⟨c9, h9, e⟩ => ?_) fun Γ1 ⟨c9, h9, e⟩ => ?_
  · subst e
    obtain ⟨y, hy, ey, hlt⟩ := son_of o (List.mem_of_getElem? hm)
    have l1 := arrL_len w hn o m
    refine g_name (by simp) <| r_asg <| d_op <| d_var rfl <| d_call <| a_v rfl <| a_v rfl <| a_cons <| d_op <| d_var rfl <| d_var rfl <| rd_I0 (.int _) <| a_nil ⟨⟨n, t, x, msk k.l - x⟩, ⟨hn, hlt⟩, ?_, fun d ed => ?_⟩
    · have le : x ≤ msk k.l := by
        rw [ey]
        have p := msk_perm (List.filter_append_perm (fun z => decide (z ∈ clOf k.l k.E y)) k.l)
        rw [msk_app, show k.l.filter (fun z => decide (z ∈ clOf k.l k.E y)) = clOf k.l k.E y from asc_ext (o.asc.filter _) (asc_clOf o.asc y) fun z => by
          rw [List.mem_filter, decide_eq_true_eq]
          exact ⟨fun q => q.2, fun q => ⟨(mem_clOf.mp q).1, q⟩⟩] at p
        omega
      have : (msk k.l : Int) - (x : Int) = ((msk k.l - x : Nat) : Int) := by omega
      rw [this]
      rfl
    · subst ed
      have l2 := bt_len (t := t) (b := msk k.l - x) hn hlt
      refine rd_cat (by simp only [List.length_map]; omega) ⟨some (.dat (nD x)), .inr ⟨_, rfl⟩, ?_⟩
      unfold arrL
      rw [List.take_add_one, hm, List.flatMap_append, List.map_append]
      simp
  · subst e
    rw [List.take_length]
    have l1 : (arrL n t k (sonM k)).length ≤ 64 := by have := arrL_len w hn o (sonM k).length; rwa [List.take_length] at this
    refine r_seq <| r_asg <| d_wcall rfl <| a_v rfl <| a_nil ⟨(arrL n t k (sonM k)).map aD, ⟨by simpa using arrL_ne w hn o hw, by rw [List.length_map]; omega⟩, rfl, fun d hd => ?_⟩
    obtain ⟨c, hc, ed⟩ := List.mem_map.mp hd
    subst ed
    obtain ⟨ac, ic⟩ := (mem_arrL w hn o).mp hc
    have cAL := (mem_AL hn).mpr ac
    have c64 := AL_lt cAL
    have cne : (dec c).1 ≠ (dec c).2 := ar_ne w ac
    refine r_seq <| r_asgG (S := [11, 12]) <| d_var rfl <| g_tup rfl <| gs_cons <| g_name (by simp) <| gs_cons <| g_name (by simp) <| gs_nil ?_
    have clen : (clsA n t).length ≤ 64 := by
      have e : (clsA n t).length = (hds (AL n t) (EA n t)).length := by unfold clsA clsL; rw [List.length_map]
      rw [e]
      exact Nat.le_trans (List.length_filter_le _ _) (AL_len n t)
    let hm := clOf (AL n t) (EA n t) c
    refine r_seq <| r_asg <| d_ofF <| f_filterA (clsA n t) claD claD (fun l => decide (c ∈ l)) (by rcases h9 with e | ⟨d, e⟩ <;> subst e <;> rfl) (by omega) (i_seqT <| d_var rfl ⟨_, rfl, rfl⟩) (fun l hl => g_name (by simp) <| t_test <| d_op <| d_var rfl <| d_var rfl <| rd_inTD (shaped_aD c) (shaped_cla l) ⟨_, rfl, any_aD l c, fun _ => d_var rfl rfl⟩) ?_
    rw [home_eq w hn cAL]
    show Run _ _ _ _
    -- the sons looked at
    refine r_seq <| r_asg <| d_ofF <| f_filterA (sonM k) nD nD (lotsP k.fm (dec c)) (by rcases h9 with e | ⟨d, e⟩ <;> subst e <;> rfl) (by omega) (i_seqL <| d_var rfl ⟨_, rfl, rfl⟩) (fun m hm => g_name (by simp) ?_) ?_
    · refine t_or <| t_test <| d_op <| d_var rfl <| d_str <| rd_eqS ⟨_, rfl, fun e => ⟨?_, fun _ => d_var rfl rfl⟩, fun e => t_or <| t_test <| d_op <| d_op <| d_op <| d_var rfl <| d_var rfl <| rd_I (Int.natCast_nonneg _) (.int _) <| d_int <| rd_I0 (.int _) <| d_int <| rd_eq ⟨_, rfl, fun e2 => ⟨?_, fun _ => d_var rfl rfl⟩, fun e2 => t_test <| d_op <| d_op <| d_op <| d_var rfl <| d_var rfl <| rd_I (Int.natCast_nonneg _) (.int _) <| d_int <| rd_I0 (.int _) <| d_int <| rd_eq ⟨_, rfl, ?_, fun _ => d_var rfl rfl⟩⟩⟩
      · rw [wS_some] at e
        unfold lotsP
        rw [e]
        rfl
      · rw [testBit_dec] at e2
        unfold lotsP
        rw [show m.testBit (dec c).1 = true from e2]
        simp
      · rw [wS_some] at e
        rw [testBit_dec] at e2 ⊢
        unfold lotsP
        rw [e, show m.testBit (dec c).1 = false from e2]
        rfl
    show Run _ _ _ _
    have ll : (lotsL k (dec c)).length ≤ 8 := Nat.le_trans (List.length_filter_le _ _) sl
    let te := toldD k.l k.fm k.E (dec c)
    -- due
    refine r_seq <| r_asg <| EvD.mono (P := fun d => d = te) ?_ fun d ed => ?_
    · refine d_tup <| a_cons <| d_call <| a_v rfl <| a_nil ⟨msk k.l, trivial, rfl, fun d ed => ?_⟩
      subst ed
      refine a_cons <| EvD.mono (P := fun d => d = wordD k.fm) (d_if <| t_test <| d_op <| d_var rfl <| d_str <| rd_eqS ⟨_, rfl, fun e => d_str ?_, fun e => d_str ?_⟩) fun d ed => ?_
      · rw [wS_some] at e
        rw [e]
        rfl
      · rw [wS_some] at e
        rw [e]
        rfl
      subst ed
      refine a_cons <| d_callB <| a_cons <| d_ofF <| f_mapA (lotsL k (dec c)) nD (fun m => lotD (lot m)) (by rcases h9 with e | ⟨d, e⟩ <;> subst e <;> rfl) (by omega) (i_seqL <| d_var rfl ⟨_, rfl, rfl⟩) (fun m hm => g_name (by simp) <| d_call <| a_v rfl <| a_nil ⟨m, trivial, rfl, fun d ed => ed⟩) <| a_nil <| rc_tupOf <| a_nil ⟨by simp, ?_⟩
      show PyData.tuple [lotD (lot (msk k.l)), wordD k.fm, .tuple ((lotsL k (dec c)).map fun m => lotD (lot m))] = te
      have e1 : (lotsL k (dec c)).map (fun m => lotD (lot m)) = ((lotsL k (dec c)).map lot).map lotD := by rw [List.map_map]; rfl
      rw [e1, lots_eq o hn, lot_msk o.asc fun x hx => by have := o.lt x hx; omega]
      rfl
    subst ed
    have sh : Shown te := told_shown o hn (dec c)
    -- told
    refine r_seq <| r_asg <| EvD.mono (P := fun d => d = te) ?_ fun d ed => ?_
    · refine d_if <| t_test <| d_op <| d_wcall rfl <| a_cons <| d_int <| a_nil ⟨2, by show 2 ≤ 1000; omega, rfl, fun d ⟨r, ed, hr⟩ => ?_⟩
      subst ed
      refine d_int <| rd_eq ⟨_, rfl, fun _ => d_call <| a_v rfl <| a_v rfl <| a_nil ⟨⟨n, t, dec c⟩, ⟨w, hn, ac.1, ac.2.1, cne⟩, rfl, fun d ⟨l, fm, E, kn, asc, i, ed⟩ => by rw [ed]; exact told_eq o kn asc i ic⟩,
        fun _ => d_callK2 <| a_v rfl <| a_v rfl <| a_nil ⟨aD c, tabD n t, ⟨n, t, dec c⟩, rfl, ⟨w, hn, ac.1, ac.2.1, cne⟩, rfl, fun d ⟨l, fm, E, kn, asc, i, ed⟩ => by rw [ed]; exact told_eq o kn asc i ic⟩⟩
    subst ed
    -- the checks
    refine r_seq <| r_if <| EvT.mono (R := fun b => b = false) ?_ fun b eb => ⟨fun e => (by rw [eb] at e; exact Bool.noConfusion e), fun _ => r_next ?_⟩
    · refine t_or <| t_test <| d_op <| d_callB <| a_v rfl <| a_nil <| rc_lenL <| d_int <| rd_ne ⟨_, rfl, fun e => ?_, fun _ => t_or <| t_test <| d_op <| d_callB <| a_v rfl <| a_nil <| rc_repr sh <| d_callB <| a_v rfl <| a_nil <| rc_repr sh <| rd_neS ⟨_, rfl, fun e => ?_, fun _ => ?_⟩⟩
      · simp at e
      · simp at e
      · refine t_and <| t_test <| d_op <| d_wcall rfl <| a_cons <| d_int <| a_nil ⟨3, by show 3 ≤ 1000; omega, rfl, fun d ⟨r, ed, hr⟩ => ?_⟩
        subst ed
        refine d_int <| rd_eq ⟨_, rfl, fun _ => rfl, fun _ => t_test <| d_op <| d_callB <| a_cons <| d_call <| a_v rfl <| a_cons <| d_tup <| a_v rfl <| a_v rfl <| a_nil ⟨by simp, a_nil ⟨⟨n, t, co (dec c)⟩, ⟨w, hn, ac.2.1, ac.1, cne.symm⟩, rfl, fun d ⟨l, fm, E, kn, asc, i, ed⟩ => ?_⟩⟩⟩
        have ed2 : d = te := by rw [ed]; exact (told_eq o kn asc i (o.kn.inCo ic)).trans (told_co _)
        subst ed2
        refine a_nil <| rc_repr sh <| d_callB <| a_v rfl <| a_nil <| rc_repr sh <| rd_neS ⟨_, rfl, ?_⟩
        simp
    have hfr : (c9 = none ∨ ∃ d, c9 = some (.dat d)) := h9
    refine r_seq <| r_if <| t_test <| d_op <| d_var rfl <| d_str <| rd_eqS ⟨_, rfl, fun e => ?_, fun e => r_next ?_⟩
    · rw [wS_all, Bool.and_eq_true] at e
      have hf : k.fm = false := by simpa using e.1
      refine r_seq <| r_par <| a_cons <| d_op <| d_ofF <| f_filterA (lotsL k (dec c)) nD nD (fun m => m.testBit (dec c).1) (by rcases h9 with e | ⟨d, e⟩ <;> subst e <;> rfl) (by omega) (i_seqL <| d_var rfl ⟨_, rfl, rfl⟩) (fun m hm => g_name (by simp) <| t_test <| d_op <| d_op <| d_op <| d_var rfl <| d_var rfl <| rd_I (Int.natCast_nonneg _) (.int _) <| d_int <| rd_I0 (.int _) <| d_int <| rd_eq ⟨_, rfl, testBit_dec _ _, fun _ => d_var rfl rfl⟩) ?_
      rw [ahead_eq o hn hf ic.1 (.inl rfl)]
      refine d_int <| rd_xL (k := 0) rfl <| a_cons <| d_op <| d_ofF <| f_filterA (lotsL k (dec c)) nD nD (fun m => m.testBit (dec c).2) (by rcases h9 with e | ⟨d, e⟩ <;> subst e <;> rfl) (by omega) (i_seqL <| d_var rfl ⟨_, rfl, rfl⟩) (fun m hm => g_name (by simp) <| t_test <| d_op <| d_op <| d_op <| d_var rfl <| d_var rfl <| rd_I (Int.natCast_nonneg _) (.int _) <| d_int <| rd_I0 (.int _) <| d_int <| rd_eq ⟨_, rfl, testBit_dec _ _, fun _ => d_var rfl rfl⟩) ?_
      rw [ahead_eq o hn hf ic.2.1 (.inr rfl)]
      refine d_int <| rd_xL (k := 0) rfl <| a_nil ⟨_, _, rfl, ?_⟩
      have hlt : msk (clOf k.l k.E (dec c).1) < 2 ^ n := msk_lt (asc_clOf o.asc _) fun y hy => o.lt y (mem_clOf.mp hy).1
      have bl := bt_len (t := t) (b := msk (clOf k.l k.E (dec c).2)) hn hlt
      refine r_ret <| d_if <| t_test <| d_op <| d_ofF <| f_callB <| a_cons <| d_op <| d_var rfl <| d_int <| rd_xL (k := 0) rfl <| a_nil <| rcf_listT <| d_ofF <| f_callB <| a_cons <| d_call <| a_v rfl <| a_v rfl <| a_v rfl <| a_nil ⟨⟨n, t, msk (clOf k.l k.E (dec c).1), msk (clOf k.l k.E (dec c).2)⟩, ⟨hn, hlt⟩, rfl, fun d ed => ?_⟩
      have ed' : d = .list ((bt n t (msk (clOf k.l k.E (dec c).1)) (msk (clOf k.l k.E (dec c).2))).map aD) := ed
      subst ed'
      refine a_nil <| rcf_srtA (.inl rfl) (by omega) <| rd_eqD (shaped_arws _) (shaped_arws _) ⟨_, rfl, fun _ => ?_, fun e => ?_⟩
      · have cl : (sonM k).length = (clsL k.l k.E).length := by unfold sonM; rw [List.length_map]
        refine d_op <| d_callB <| a_v rfl <| a_nil <| rc_lenL <| d_op <| d_callB <| a_v rfl <| a_nil <| rc_lenL <| d_int <| rd_I0 (.int _) <| rd_I (.inl ⟨by omega, by simp; omega⟩) (.int _) ?_
        show PyData.int _ = nD (cntK n t k)
        rw [cnt_allT w hn o hf e.2, ← cl, List.length_map]
        exact congrArg PyData.int (mul_pred _ sl)
      · rw [srt_eq (asc_bt n t _ _) (asc_bt n t _ _).nodup fun x => Iff.rfl, ← class_all w hn o hf cAL ic, eqv_arws] at e
        cases e
    · have hf : k.fm = true := by
        rw [wS_all] at e
        cases hq : k.fm with
        | true => rfl
        | false =>
          cases hq2 : k.f with
          | false => exact absurd ⟨hq, hq2⟩ hw
          | true => rw [hq, hq2] at e; cases e
      have hl64 : hm.length ≤ 64 := home_len c
      have hl64' : (clOf (AL n t) (EA n t) c).length ≤ 64 := home_len c
      have ef : PyData.tuple [nD (c % 8), nD (c / 8)] = aD (flp c) := by
        have e1 : flp c / 8 = c % 8 := by show (c % 8 * 8 + c / 8) / 8 = c % 8; omega
        have e2 : flp c % 8 = c / 8 := by show (c % 8 * 8 + c / 8) % 8 = c / 8; omega
        unfold aD
        rw [e1, e2]
      have she : SeqAt.shaped (.tuple [nD (c % 8), nD (c / 8)]) = true := by rw [ef]; exact shaped_aD _
      refine r_seq <| r_asg <| d_op <| d_tup <| a_v rfl <| a_v rfl <| a_nil ⟨by simp, d_op <| d_var rfl <| d_int <| rd_xL (k := 0) rfl <| rd_inTD she (shaped_cla hm) ?_⟩
      rw [ef, any_aD]
      show Run _ _ _ _
      let wh := if flp c ∈ hm then hm else hm ++ hm.map flp
      have whl : wh.length ≤ 128 := by
        show (if flp c ∈ hm then hm else hm ++ hm.map flp).length ≤ 128
        by_cases q : flp c ∈ hm
        · rw [if_pos q]; omega
        · rw [if_neg q, List.length_append, List.length_map]; omega
      refine r_seq <| r_asg <| EvD.mono (P := fun d => d = .list (wh.map aD)) ?_ fun d ed => ?_
      · refine d_if <| t_test <| d_var rfl ⟨_, rfl, fun e => ?_, fun e => ?_⟩
        · refine d_ofF <| f_callB <| a_cons <| d_op <| d_var rfl <| d_int <| rd_xL (k := 0) rfl <| a_nil <| rcf_listT ?_
          show _ = PyData.list ((if flp c ∈ hm then hm else hm ++ hm.map flp).map aD)
          rw [if_pos (of_decide_eq_true e)]
        · refine d_op <| d_ofF <| f_callB <| a_cons <| d_op <| d_var rfl <| d_int <| rd_xL (k := 0) rfl <| a_nil <| rcf_listT <| d_call <| a_cons <| d_op <| d_var rfl <| d_int <| rd_xL (k := 0) rfl <| a_nil ⟨hm, ⟨by omega, fun x hx => AL_lt (mem_home.mp hx).1⟩, rfl, fun d ed => ?_⟩
          have ed' : d = .list ((hm.map flp).map aD) := ed
          subst ed'
          refine rd_cat (by simp only [List.length_map]; omega) ?_
          show _ = PyData.list ((if flp c ∈ hm then hm else hm ++ hm.map flp).map aD)
          rw [if_neg (of_decide_eq_false e), List.map_append]
      subst ed
      refine r_ret <| d_if <| t_test <| d_op <| d_ofF <| f_callB <| a_v rfl <| a_nil <| rcf_srtA (.inl rfl) (by omega) <| d_ofF <| f_callB <| a_v rfl <| a_nil <| rcf_srtA (.inl rfl) (by omega) <| rd_eqD (shaped_arws _) (shaped_arws _) ⟨_, rfl, fun _ => ?_, fun e => ?_⟩
      · refine d_if <| t_test <| d_var rfl ⟨_, rfl, fun e => d_int ?_, fun e => d_int ?_⟩
        · show PyData.int 1 = nD (cntK n t k)
          rw [clash_cnt w hn o hf cAL ic, if_pos (of_decide_eq_true e)]
          rfl
        · show PyData.int 2 = nD (cntK n t k)
          rw [clash_cnt w hn o hf cAL ic, if_neg (of_decide_eq_false e)]
          rfl
      · rw [show srt wh = srt (arrL n t k (sonM k)) from class_firm w hn o hf cAL ic, eqv_arws] at e
        cases e
end
end K41
end
section
set_option linter.all false
set_option maxRecDepth 100000
set_option maxHeartbeats 4000000
/-! K41, the walks: _law_is_told. -/
namespace K41
open PySem PySem.Spec PyProof.Rows L2
open Classical
/-! _law_is_told: slots 0 _law_well_here, 1 _law_web_here, 2 _law_near_here, 3 _law_text, 4 _law_many, 5 _law_classes, 6 _law_knot, 7 _law_own -/
abbrev s_law_is_told : Stmt := topS 47
theorem sc_law_is_told : FnScope ["_law_well_here", "_law_web_here", "_law_near_here", "_law_text", "_law_many", "_law_classes", "_law_knot", "_law_own"] ["_law_well_here", "_law_web_here"] (defScope s_law_is_told) := ⟨rfl, rfl, rfl, by decide +kernel, rfl, by decide +kernel, by decide +kernel⟩
abbrev spIsTold (T : List (Addr × Str)) : Sp := spW T (ι := WebI) (fun i => Wb i.t ∧ i.n ≤ 8) (fun i => [tabD i.n i.t]) fun i d => d = .bool true
theorem clsA_len (n : Nat) (t : Nat → Nat → Bool) : (clsA n t).length ≤ 64 := by
  have e : (clsA n t).length = (hds (AL n t) (EA n t)).length := by unfold clsA clsL; rw [List.length_map]
  rw [e]
  exact Nat.le_trans (List.length_filter_le _ _) (AL_len n t)
theorem clsD_shown {n : Nat} {t : Nat → Nat → Bool} (w : Wb t) (hn : n ≤ 8) : Shown (clsD n t) := by
  refine (sm_map (dp := 2) (wt := 1088) (L := 64) (enc := claD) (l := clsA n t) (fun c hc => ?_) (clsA_len n t)).shown (.inr ⟨_, rfl⟩) (by omega) (by omega)
  obtain ⟨x, hx, e, _⟩ := clsA_mem w hn hc
  subst e
  exact sm_cla (fun y hy => AL_lt (mem_home.mp hy).1) (home_len x)
theorem tab_shown {n : Nat} {t : Nat → Nat → Bool} (hn : n ≤ 8) : Shown (tabD n t) := (sm_tab hn).shown (.inr ⟨_, rfl⟩) (by omega) (by omega)
section
variable {T : List (Addr × Str)} {P : Program} {w : World} {K : PySem.W.Frag} {mg : Str → Option Value} {base : Heap}
theorem ok_law_is_told {f f1 f2 f3 f4 : Addr} {fd fd1 fd2 fd3 fd4 : FuncData} (D : At' K mg "_law_is_told" s_law_is_told ["_law_well_here", "_law_web_here"] f fd) (Z : Zs mg)
    (C__law_near : Cal P w K mg base 1 "_law_near" ["_law_table"] (spNear T) f1 fd1) (C_arrow_classes : Cal P w K mg base 3 "arrow_classes" ["web"] (spClasses T) f2 fd2) (C__law_knots : Cal P w K mg base 8 "_law_knots" ["_law_near_here"] (spLKnots T) f3 fd3)
    (C__law_knot_told : CalG P w K mg base 21 "_law_knot_told" ["_law_well_here", "_law_web_here", "_law_near_here", "_law_classes", "_law_knot"] (spKnotTold T) f4 fd4) :
    CalG P w K mg base 22 "_law_is_told" ["_law_well_here", "_law_web_here"] (spIsTold T) f fd := by
  refine ⟨fn_WG (k := 21) D.F sc_law_is_told (fun _ => rfl) fun cdv A outer s H E hr hgd => ⟨_,
    (pss_cons (ps_par3 (i := 2) (j := 3) (l := 4) rfl sc_law_is_told.nd rfl rfl rfl (by decide) (by decide) (by decide) rfl rfl rfl (pa_cons (pe_call C__law_near.G (hr.mono (by omega)) (by rfl) C__law_near.m C__law_near.kp C__law_near.b .nil pass0 (pa_cons (pv 1) pa_nil)) (pa_cons (pe_callB (x_repr (K := K) rfl hgd (Room.u65 hr)) (by rfl) Z.repr (by decide +kernel) (pa_cons (pv 1) pa_nil)) (pa_cons pe_int pa_nil))) (by rfl))
    (pss_cons (ps_set (i := 5) sc_law_is_told.nd rfl (.inl rfl) (pe_call C_arrow_classes.G (hr.mono (by omega)) (by rfl) C_arrow_classes.m C_arrow_classes.kp C_arrow_classes.b .nil pass0 (pa_cons (pv 1) pa_nil)))
    (pss_cons (ps_for PassesOwn.never rfl (xi_seq (K := K) rfl (pe_call C__law_knots.G (hr.mono (by omega)) (by rfl) C__law_knots.m C__law_knots.kp C__law_knots.b .nil pass0 (pa_cons (pv 2) pa_nil))) (pg_name (i := 6) sc_law_is_told.nd rfl (.inl rfl))
      (pss_one (ps_if (pt_cmpR op_ne (pe_ix (x_ix (K := K) rfl) (pv 6) pe_int (fun _ _ => rfl)) pe_str (nomark _))
        (pss_cons (ps_set (i := 7) sc_law_is_told.nd rfl (.inl rfl) (pe_callG C__law_knot_told.G (hr.mono (by omega)) hgd (by rfl) C__law_knot_told.m C__law_knot_told.kp C__law_knot_told.b (pa_cons (pv 0) (pa_cons (pv 1) (pa_cons (pv 2) (pa_cons (pv 5) (pa_cons (pv 6) pa_nil)))))))
        (pss_cons (ps_if (pt_cmpR op_isN (pv 7) pe_non (nomark _))
          (pss_one (ps_ret pe_bl))
          pss_nil)
        (pss_one (ps_set (i := 4) sc_law_is_told.nd rfl (.inl rfl) (pe_op op_add (pv 4) (pv 7))))))
        pss_nil)))
    (pss_one (ps_ret (pe_and (pe_cmpR op_eq (pe_callB (x_len (K := K) rfl) (by rfl) Z.len (by decide +kernel) (pa_cons (pv 5) pa_nil)) (pv 4) (nomark _)) (pe_and (pe_cmpR op_eq (pe_callB (x_repr (K := K) rfl hgd (Room.u65 hr)) (by rfl) Z.repr (by decide +kernel) (pa_cons (pe_call C_arrow_classes.G (hr.mono (by omega)) (by rfl) C_arrow_classes.m C_arrow_classes.kp C_arrow_classes.b .nil pass0 (pa_cons (pv 1) pa_nil)) pa_nil)) (pe_callB (x_repr (K := K) rfl hgd (Room.u65 hr)) (by rfl) Z.repr (by decide +kernel) (pa_cons (pv 5) pa_nil)) (nomark _)) (pe_one (pe_cmpR op_eq (pe_callB (x_repr (K := K) rfl hgd (Room.u65 hr)) (by rfl) Z.repr (by decide +kernel) (pa_cons (pv 1) pa_nil)) (pv 3) (nomark _)))))))))),
    fun a g k0 i ⟨w, hn⟩ => ?_⟩, D.m, D.F.kp, D.b⟩
  obtain ⟨n, t, l0, o, x, y⟩ := i
  simp only at w hn ⊢
  have sw : Shown (tabD n t) := tab_shown hn
  have sc : Shown (clsD n t) := clsD_shown w hn
  refine r_seq <| r_par3 <| a_cons <| d_call <| a_v rfl <| a_nil ⟨⟨n, t, [], 0, 0, 0⟩, hn, rfl, fun d ed => ?_⟩
  subst ed
  refine a_cons <| d_callB <| a_v rfl <| a_nil <| rc_repr sw <| a_cons <| d_int <| a_nil ⟨_, _, _, rfl, ?_⟩
  refine r_seq <| r_asg <| d_call <| a_v rfl <| a_nil ⟨⟨n, t, [], 0, 0, 0⟩, ⟨w, hn⟩, rfl, fun d ed => ?_⟩
  have ed' : d = clsD n t := ed
  subst ed'
  refine r_seq <| r_for <| i_seqL <| d_call <| a_v rfl <| a_nil ⟨⟨n, t, [], 0, 0, 0⟩, ⟨w, hn⟩, rfl, fun d ⟨ks, ed, hok, hall⟩ => ⟨ks.map lkD, ed, ?_⟩⟩
  have L : LKs n t ks := ⟨w, hn, hok, hall⟩
  refine ⟨fun m Γ1 => ∃ c6 c7, Γ1 = [some (.raw (.ref a)), some (.dat (tabD n t)), some (.dat (nearD n t)), some (.dat (.str (tabD n t).shown)), some (.dat (nD ((ks.take m).map (cntK n t)).sum)), some (.dat (clsD n t)), c6, c7],
    ⟨_, _, rfl⟩, fun m d Γ1 hd ⟨c6, c7, e⟩ => ⟨[6], ?_⟩, fun Γ1 ⟨c6, c7, e⟩ => ?_⟩
  · subst e
    rw [List.getElem?_map] at hd
    cases hk : ks[m]? with
    | none => rw [hk] at hd; cases hd
    | some k =>
      rw [hk] at hd
      cases hd
      have o := hok k (List.mem_of_getElem? hk)
      have step : ((ks.take (m + 1)).map (cntK n t)).sum = ((ks.take m).map (cntK n t)).sum + cntK n t k := by
        rw [List.take_add_one, hk, List.map_append, List.sum_append_nat]
        simp
      refine g_name (by simp) <| r_if <| t_test <| d_op <| d_op <| d_var rfl <| d_int <| rd_xL (k := 2) (d := .str (wS k.fm k.f)) rfl <| d_str <| rd_neS ⟨_, rfl, fun e => ?_, fun e => r_next ?_⟩
      · rw [wS_none] at e
        have hw : ¬ (k.fm = false ∧ k.f = false) := fun q => by
          rw [q.1, q.2] at e
          cases e
        refine r_seq <| r_asg <| d_wcall rfl <| a_v rfl <| a_v rfl <| a_v rfl <| a_v rfl <| a_nil ⟨⟨n, t, k⟩, ⟨w, hn, o, hw⟩, rfl, fun d ed => ?_⟩
        subst ed
        refine r_seq <| r_if <| t_test <| d_op <| d_var rfl <| d_non <| rd_isN ⟨_, rfl, fun e => ?_, fun _ => r_next ?_⟩
        · have := of_decide_eq_true e
          cases this
        · refine r_asg <| d_op <| d_var rfl <| d_var rfl <| rd_I0 (.int _) ⟨some (.dat (lkD k)), some (.dat (nD (cntK n t k))), ?_⟩
          rw [step]
          rfl
      · rw [wS_none] at e
        have hz : cntK n t k = 0 := by
          refine cnt_none w hn o ?_ ?_
          · cases q : k.fm with
            | false => rfl
            | true => rw [q] at e; cases e
          · cases q : k.f with
            | false => rfl
            | true => rw [q] at e; simp at e
        refine ⟨some (.dat (lkD k)), c7, ?_⟩
        rw [step, hz]
        rfl
  · subst e
    rw [List.length_map, List.take_length, ← cnt_all L]
    refine r_ret <| d_andV <| d_op <| d_callB <| a_v rfl <| a_nil <| rc_lenT <| d_var rfl <| rd_eq ⟨_, rfl, fun e => ?_, fun _ => ?_⟩
    · have := of_decide_eq_false e
      rw [List.length_map] at this
      exact absurd rfl this
    · refine d_andV <| d_op <| d_callB <| a_cons <| d_call <| a_v rfl <| a_nil ⟨⟨n, t, [], 0, 0, 0⟩, ⟨w, hn⟩, rfl, fun d ed => ?_⟩
      have ed' : d = clsD n t := ed
      subst ed'
      refine a_nil <| rc_repr sc <| d_callB <| a_v rfl <| a_nil <| rc_repr sc <| rd_eqS ⟨_, rfl, fun e => absurd rfl (of_decide_eq_false e), fun _ => ?_⟩
      refine d_op <| d_callB <| a_v rfl <| a_nil <| rc_repr sw <| d_var rfl <| rd_eqS ?_
      show PyData.bool _ = PyData.bool true
      rw [decide_eq_true rfl]
end
end K41
end
section
set_option linter.all false
set_option maxRecDepth 100000
/-! K41: the law's own call, for a def that has to know that no repr is under way. -/
namespace K41
open PySem PySem.Spec PyProof.Rows L2
open Classical
/-- the script's object; an empty table -/
abbrev scrO (vs : List Value) : Obj := { cls := .type "list", data := .seq vs.toArray }
abbrev tabO : Obj := { cls := .none, data := .fields #[] }
/-- what stands there as the law is called: tables, and the script where it is no part of K -/
noncomputable def hpL (K : PySem.W.Frag) (ts : List Addr) (a : Addr) (vs : List Value) (ns : List Int) : Hp := fun b =>
  if b ∈ ts then some (.tbl #[]) else if b = a ∧ K.lookup a = none then some (.frz (scrO vs) (.lst (ns.map V.int))) else none
structure Laid (K : PySem.W.Frag) (ts : List Addr) (a : Addr) (vs : List Value) (ns : List Int) (h : Heap) : Prop where
  kin : K.In h
  tab : ∀ b ∈ ts, h.get? b = some tabO
  out : ∀ b ∈ ts, K.lookup b = none
  scr : h.get? a = some (scrO vs)
  nums : IntsAre vs ns
  len : ns.length ≤ sizeLine
section
variable {K : PySem.W.Frag} {ts : List Addr} {a b : Addr} {vs : List Value} {ns : List Int} {h : Heap} {o : Obj} {P : Program} {w : World}
theorem scr_ne_tab : scrO vs ≠ tabO := fun e => by
  have := congrArg Obj.data e
  cases this
theorem hpL_tab (hb : b ∈ ts) : hpL K ts a vs ns b = some (.tbl #[]) := if_pos hb
theorem hpL_scr (h1 : a ∉ ts) (h2 : K.lookup a = none) : hpL K ts a vs ns a = some (.frz (scrO vs) (.lst (ns.map V.int))) := by
  unfold hpL
  rw [if_neg h1, if_pos ⟨rfl, h2⟩]
theorem hpL_or (u : HO) (e : hpL K ts a vs ns b = some u) : (b ∈ ts ∧ u = .tbl #[]) ∨ (b ∉ ts ∧ b = a ∧ K.lookup a = none ∧ u = .frz (scrO vs) (.lst (ns.map V.int))) := by
  unfold hpL at e
  by_cases h1 : b ∈ ts
  · rw [if_pos h1] at e
    cases e
    exact .inl ⟨h1, rfl⟩
  · rw [if_neg h1] at e
    by_cases h2 : b = a ∧ K.lookup a = none
    · rw [if_pos h2] at e
      cases e
      exact .inr ⟨h1, h2.1, h2.2, rfl⟩
    · rw [if_neg h2] at e
      cases e
theorem Laid.sc (L : Laid K ts a vs ns h) : a ∉ ts := fun q => by
  have e := L.tab a q
  rw [L.scr] at e
  exact scr_ne_tab (Option.some.inj e)
theorem Laid.sq (L : Laid K ts a vs ns h) : ScrAt K (hpL K ts a vs ns) a (ns.map V.int) := by
  cases q : K.lookup a with
  | none => exact .inl ⟨_, hpL_scr L.sc q⟩
  | some u =>
    have e := L.kin a u q
    rw [L.scr] at e
    cases e
    have lv : vs.length ≤ sizeLine := by have := L.len; rw [← L.nums.length] at this; exact this
    exact .inr ⟨_, vs.toArray, _, q, rfl, rfl, rfl, by simpa using lv, by simpa using vals_ints L.nums⟩
theorem Laid.hok (L : Laid K ts a vs ns h) : HOk P w (hpL K ts a vs ns) h := fun b u e => by
  rcases hpL_or u e with ⟨q, r⟩ | ⟨_, q, _, r⟩
  · subst r
    exact L.tab b q
  · subst q r
    exact ⟨L.scr, by rw [List.length_map]; exact L.len, vs, _, vals_ints L.nums, L.scr⟩
/-- what is neither table nor script is not told -/
theorem Laid.free (L : Laid K ts a vs ns h) (e : h.get? b = some o) (h1 : o ≠ tabO) (h2 : o ≠ scrO vs) : hpL K ts a vs ns b = none := by
  cases q : hpL K ts a vs ns b with
  | none => rfl
  | some u =>
    rcases hpL_or u q with ⟨r, _⟩ | ⟨_, r, _⟩
    · rw [L.tab b r] at e
      exact absurd (Option.some.inj e).symm h1
    · subst r
      rw [L.scr] at e
      exact absurd (Option.some.inj e).symm h2
theorem Laid.seen (L : Laid K ts a vs ns h) (e : h.get? b = some o) (h1 : o ≠ tabO) (h2 : o ≠ scrO vs) : (hidT h (hpL K ts a vs ns)).get? b = some o := hidT_get e (L.free e h1 h2)
theorem ne_by (hd : o.data ≠ .fields #[]) (hs : ∀ xs n, o.data ≠ .seq xs n) : o ≠ tabO ∧ o ≠ scrO vs := ⟨fun e => hd (by rw [e]), fun e => hs _ _ (by rw [e])⟩
theorem ne_dict {es : Array DictEntry} {ep : Nat} (hd : o.data = .dict es ep) : o ≠ tabO ∧ o ≠ scrO vs := ne_by (by rw [hd]; exact fun z => nomatch z) fun xs n => by rw [hd]; exact fun z => nomatch z
theorem Laid.nms (L : Laid K ts a vs ns h) {m : Str → Option Value} (q : h.Ns b m) : (hidT h (hpL K ts a vs ns)).Ns b m := by
  obtain ⟨o, es, ep, e, d, r⟩ := q
  exact ⟨o, es, ep, L.seen e (ne_dict (vs := vs) d).1 (ne_dict (vs := vs) d).2, d, r⟩
theorem Laid.base (L : Laid K ts a vs ns h) : K.In (hidT h (hpL K ts a vs ns)) := fun b o e => hidT_get (L.kin b o e) (by
  cases q : hpL K ts a vs ns b with
  | none => rfl
  | some u =>
    rcases hpL_or u q with ⟨r, _⟩ | ⟨_, r, s, _⟩
    · rw [L.out b r] at e
      cases e
    · subst r
      rw [s] at e
      cases e)
theorem Laid.modl (L : Laid K ts a vs ns h) {mg mb : Str → Option Value} (g : h.Ns mainGlobals mg) (b : h.Ns builtinsNs mb) (bb : ∀ x : Str, x ≠ "__name__" → mb x = bootBuiltins x) (nl : h.NoLimit) : L2.Mod K mg (hidT h (hpL K ts a vs ns)) := by
  obtain ⟨mc, q, r⟩ := nl
  exact ⟨L.base, L.nms g, ⟨mb, L.nms b, bb⟩, mc, L.nms q, r⟩
theorem Laid.tabs (L : Laid K ts a vs ns h) {c : Addr} {mg : Str → Option Value} (hb : b ∈ ts) (g : h.Ns mainGlobals mg) (C : PySem.W.CodeHd h c b)
    (hbm : ∃ (bm : Addr) (ob : Obj), mg "__builtins__" = some (.ref bm) ∧ bm ≠ builtinsNs ∧ h.get? bm = some ob ∧ ob.cls = .type "module" ∧ ob.dict = some builtinsNs ∧ ob.data = .plain) : LamX.TabB (hidT h (hpL K ts a vs ns)) mg c b := by
  refine ⟨?_, ?_, fun z => ?_⟩
  · obtain ⟨o, us, file, tf, flags, tg, inF, text, tt, e1, r1, r2, r3, r⟩ := C
    have ne := ne_by (vs := vs) (o := o) (by
      rw [r2]
      intro z
      cases z
      simp at r3) fun xs n => by rw [r2]; exact fun z => nomatch z
    exact ⟨o, us, file, tf, flags, tg, inF, text, tt, L.seen e1 ne.1 ne.2, r1, r2, r3, r⟩
  · obtain ⟨bm, ob, b1, b2, b3, b4, b5, b6⟩ := hbm
    have ne := ne_by (vs := vs) (o := ob) (by rw [b6]; exact fun z => nomatch z) fun xs n => by rw [b6]; exact fun z => nomatch z
    refine ⟨bm, ob, b1, b2, fun z => ?_, fun z => ?_, L.seen b3 ne.1 ne.2, b4, b5, b6⟩
    · obtain ⟨o, es, ep, e, hd, _⟩ := g
      rw [z, e] at b3
      cases b3
      rw [hd] at b6
      cases b6
    · rw [z, L.tab b hb] at b3
      cases b3
      cases b6
  · obtain ⟨o, es, ep, e, hd, _⟩ := g
    rw [z, L.tab b hb] at e
    cases e
    cases hd
end
/-- the law's call -/
theorem law_callG {P : Program} {w : World} {K : PySem.W.Frag} {mg mb : Str → Option Value} {k : Nat} {fa a : Addr} {cs : List (Addr × Addr)} {fd : FuncData} {x : Str} {sp : Sp} {z : Shared} {vs : List Value} {ns : List Int}
    (L : Laid K (cs.map Prod.snd) a vs ns z.heap) (g : z.heap.Ns mainGlobals mg) (b : z.heap.Ns builtinsNs mb) (bb : ∀ x : Str, x ≠ "__name__" → mb x = bootBuiltins x) (nl : z.heap.NoLimit) (ng : z.gens = #[]) (C : ∀ p ∈ cs, PySem.W.CodeHd z.heap p.1 p.2)
    (hbm : ∃ (bm : Addr) (ob : Obj), mg "__builtins__" = some (.ref bm) ∧ bm ≠ builtinsNs ∧ z.heap.get? bm = some ob ∧ ob.cls = .type "module" ∧ ob.dict = some builtinsNs ∧ ob.data = .plain)
    (hr : Room k callerA) (hbind : ∀ (s : Shared) (u : Value), BindsTo s fd ⟨[u], []⟩ [(x, u)])
    (F : ∀ base : Heap, K.In base → base.Ns mainGlobals mg → (∀ p ∈ cs, LamX.TabB base mg p.1 p.2) → FnG P w K mg base k fa fd [x] sp)
    (hsp : ∀ H : Hp, (∀ p ∈ cs, H p.2 = some (.tbl #[])) → ScrAt K H a (ns.map V.int) → sp [.ref a] H (fun v _ => v = .bl true) fun _ _ _ => False) :
    codeAny (model P w) callerA (.call (.ref fa) ⟨[.ref a], []⟩) (fun r s' => r = .ok (.ret (.bool true)) ∧ OldK z.heap s'.heap ∧ s'.os = z.os ∧ AllBare s'.gens) z := by
  have inT : ∀ p ∈ cs, p.2 ∈ cs.map Prod.snd := fun p hp => List.mem_map.mpr ⟨p, hp, rfl⟩
  have e0 : Env0 P w K mg (hidT z.heap (hpL K (cs.map Prod.snd) a vs ns)) callerA [] z (hpL K (cs.map Prod.snd) a vs ns) :=
    ⟨rfl, L.modl g b bb nl, fun c o e => of_hidT e, Nat.le_of_eq (hidT_size _ _), trivial, fun c hc => (nomatch (show c ∈ ([] : List Addr) from hc)), L.hok, .of_eq ng⟩
  have run := (F _ L.base (L.nms g) fun p hp => L.tabs (inT p hp) g (C p hp) hbm).run callerA [] z _ ⟨[.ref a], []⟩ [.ref a] [.ref a] _ _ hr rfl e0 (hbind z (.ref a)) (.cons rfl .nil) (hsp _ (fun p hp => hpL_tab (inT p hp)) L.sq)
  refine codeAny_mono run fun r s' q => ?_
  match r, q with
  | .error e, q => exact False.elim q
  | .ok .next, q => exact False.elim q
  | .ok .brk, q => exact False.elim q
  | .ok .cont, q => exact False.elim q
  | .ok (.ret u), ⟨v, H', os, bare, un, ok', rv, ev⟩ =>
    have ev' : v = .bl true := ev
    subst ev'
    have eu : u = Value.bool true := rv
    subst eu
    -- a table has grown, all else stands as before
    have old : ∀ c o, z.heap.get? c = some o → (∃ p ∈ cs, p.2 = c ∧ o = tabO ∧ ∃ more : Array Value, s'.heap.get? c = some { cls := .none, data := .fields more }) ∨ s'.heap.get? c = some o := fun c o e => by
      cases q : hpL K (cs.map Prod.snd) a vs ns c with
      | none => exact .inr (un.keep c o e q (fun y => (nomatch (show c ∈ ([] : List Addr) from y))) fun y => (nomatch y))
      | some u =>
        rcases hpL_or u q with ⟨hc, hu⟩ | ⟨_, hc, _, hu⟩
        · obtain ⟨p, hp, ep⟩ := List.mem_map.mp hc
          subst hu
          obtain ⟨more, hm⟩ := un.tbls c #[] q
          rw [L.tab c hc] at e
          exact .inl ⟨p, hp, ep, (Option.some.inj e).symm, _, ok' c _ hm⟩
        · subst hu
          have y := (ok' c _ (un.frzs c _ _ q)).1
          rw [hc, L.scr] at e
          rw [← Option.some.inj e]
          exact .inr y
    refine ⟨rfl, ⟨fun c o e => ?_, fun c o e => ?_⟩, os, bare⟩
    · rcases old c o e with ⟨p, hp, ep, eo, more, hm⟩ | y
      · subst ep eo
        exact .inr (.inl ⟨((C p hp).tab (L.tab _ (inT p hp))).isCodeTable, rfl, #[], more, rfl, by rw [Array.empty_append]; exact hm⟩)
      · exact .inl y
    · rcases old c o e with ⟨_, _, _, _, more, hm⟩ | y
      · exact ⟨_, hm⟩
      · exact ⟨o, y⟩
/-- what the head tells of the law's def -/
structure LawG (l : PySem.W.OpenLaw) (w : World) (K : PySem.W.Frag) (k n : Nat) (x : Str) (mg : Str → Option Value) (fa : Addr) (h : Heap) : Prop where
  ex : ∃ (fd : FuncData) (cs : List (Addr × Addr)) (sp : Sp), (∀ p ∈ cs, h.get? p.2 = some tabO) ∧ (∀ p ∈ cs, K.lookup p.2 = none) ∧ (∀ p ∈ cs, PySem.W.CodeHd h p.1 p.2) ∧ (∀ (s : Shared) (u : Value), BindsTo s fd ⟨[u], []⟩ [(x, u)]) ∧
    (∀ (H : Hp) (a : Addr) (ns : List Int), (∀ p ∈ cs, H p.2 = some (.tbl #[])) → ScrAt K H a (ns.map V.int) → sp [.ref a] H (fun v _ => v = .bl true) fun _ _ _ => False) ∧
    ∀ base : Heap, K.In base → base.Ns mainGlobals mg → (∀ p ∈ cs, LamX.TabB base mg p.1 p.2) → FnG l.prog w K mg base k fa fd [x] sp
theorem walk_G {l : PySem.W.OpenLaw} {n k : Nat} {q : Program} {loose : List Str} {XP : (Str → Option Value) → Heap → Prop} {YP : World → Heap → Prop} {d : DefRec} {x : Str}
    (hn : l.most = some n) (hn2 : n ≤ sizeLine) (hdf : d.params.defaults = []) (hr : Room k callerA)
    (F : ∀ (w : World) (mg : Str → Option Value) (fa : Addr) (h : Heap), YP w h → h.Ns mainGlobals mg → mg d.name = some (.ref fa) → ∃ K : PySem.W.Frag, K.In h ∧ LawG l w K k n x mg fa h) :
    PySem.W.WalkO q loose XP YP l.row.toRowW d [] (fun f vs => PySem.call f vs) :=
  Att.attach_callB hn hdf fun w s₀ z mg mb fa o pm cd doc a vs ns G Y _ _ _ hmg hobj nums hlen _ hg => by
    obtain ⟨K, kin, ⟨fd, cs, sp, hT, nT, C, hb, hsp, hF⟩⟩ := F w mg fa _ Y G.T.g hmg
    have L : Laid K (cs.map Prod.snd) a vs ns z.heap := ⟨kin, fun b hb => by obtain ⟨p, hp, rfl⟩ := List.mem_map.mp hb; exact hT p hp, fun b hb => by obtain ⟨p, hp, rfl⟩ := List.mem_map.mp hb; exact nT p hp, hobj, nums, Nat.le_trans hlen hn2⟩
    exact law_callG L G.T.g G.T.b G.T.builtins G.T.nolimit hg C G.T.bmain hr hb hF fun H => hsp H a ns
end K41
end
section
set_option linter.all false
set_option maxRecDepth 100000
set_option maxHeartbeats 4000000
/-! K41, the walks: law. -/
namespace K41
open PySem PySem.Spec PyProof.Rows L2
open Classical
/-! law: slots 0 _law_script, 1 _law_well_here, 2 _law_size, 3 _law_fan, 4 _law_path, 5 _law_round5, 6 _law_found, 7 _law_due -/
abbrev slaw : Stmt := topS 48
theorem sclaw : FnScope ["_law_script", "_law_well_here", "_law_size", "_law_fan", "_law_path", "_law_round5", "_law_found", "_law_due"] ["_law_script"] (defScope slaw) := ⟨rfl, rfl, rfl, by decide +kernel, rfl, by decide +kernel, by decide +kernel⟩
/-- the law's own promise -/
def spLaw (T : List (Addr × Str)) (K : PySem.W.Frag) : Sp := fun vs H Q _ => ∃ (b : Addr) (xs : List Int), vs = [.ref b] ∧ ScrAt K H b (xs.map .int) ∧ LamX.Tabs T H ∧ ∀ H', Q (.bl true) H'
/-! what is told of the written webs -/
def fanD : PyData := .tuple [lotD [0, 1, 2], .str "all", .tuple [lotD [0, 1], lotD [2]]]
def pathD : PyData := .tuple [lotD [0, 1, 2, 3], .str "firm", .tuple [lotD [0], lotD [1], lotD [2], lotD [3]]]
def dueD : PyData := .list [fanD, pathD, .str "firm", .int 1]
theorem due_sm : Sm 10 2000 dueD := ⟨by decide +kernel, by decide +kernel, by decide +kernel, by decide +kernel, by decide +kernel⟩
theorem due_shown : Shown dueD := due_sm.shown (.inl ⟨_, rfl⟩) (by omega) (by omega)
theorem told_fan {l : List Nat} {fm : Bool} {E : Nat → Nat → Prop} (kn : Kn 3 tFan l fm E) (asc : Asc l) (i : InK l E (0, 2)) : toldD l fm E (0, 2) = fanD := by
  have i' : InK (List.range 3) (rs 3 (Cn (Ad 3 tFan true))) (0, 2) := ⟨by decide, by decide, fun q => absurd ((eFan_cn (by omega) (by omega)).mp q.2) (by decide)⟩
  obtain ⟨e1, e2, e3⟩ := kn_uniq kn knFan asc (asc_range 3) i i'
  subst e1 e3
  unfold toldD
  rw [clsL_congr (E' := rs 3 (Cn (Ad 3 tFan true))) fun x y _ _ => e2 x y, clsFan]
  have e : ([[0, 1], [2]] : List (List Nat)).filter (fun c => decide ((0 : Nat) ∈ c) || decide ((2 : Nat) ∈ c)) = [[0, 1], [2]] := by simp
  show PyData.tuple [_, _, .tuple ((([[0, 1], [2]] : List (List Nat)).filter fun c => decide ((0 : Nat) ∈ c) || decide ((2 : Nat) ∈ c)).map lotD)] = _
  rw [e]
  rfl
theorem told_prime {n : Nat} {t : Nat → Nat → Bool} {a : Arw} (k' : Kn n t (List.range n) true (rs n (Pe n t)) ∧ (∀ x y, rs n (Pe n t) x y → x = y) ∧ clsL (List.range n) (rs n (Pe n t)) = clsB (List.range n) (· == ·)) (h1 : a.1 < n) (h2 : a.2 < n) (ne : a.1 ≠ a.2)
    {l : List Nat} {fm : Bool} {E : Nat → Nat → Prop} (kn : Kn n t l fm E) (asc : Asc l) (i : InK l E a) : toldD l fm E a = .tuple [lotD (List.range n), .str "firm", .tuple ((clsB (List.range n) (· == ·)).map lotD)] := by
  obtain ⟨k', one, ec⟩ := k'
  have i' : InK (List.range n) (rs n (Pe n t)) a := ⟨List.mem_range.mpr h1, List.mem_range.mpr h2, fun q => ne (one _ _ q)⟩
  obtain ⟨e1, e2, e3⟩ := kn_uniq kn k' asc (asc_range n) i i'
  subst e1 e3
  unfold toldD
  rw [clsL_congr (E' := rs n (Pe n t)) fun x y _ _ => e2 x y, ec]
  rfl
theorem path_cls : (clsB (List.range 4) (· == ·)) = [[0], [1], [2], [3]] := by decide +kernel
/-- the ring has one class -/
theorem ring_cls : (clsA 5 tRing).length = 1 := by
  have aa : Ar 5 tRing (0, 1) := ⟨by decide, by decide, by decide +kernel⟩
  have c1 : 1 ∈ AL 5 tRing := (mem_AL (by omega)).mpr aa
  refine perm_len (clsA_nodup wbRing (by omega)) (m := [clOf (AL 5 tRing) (EA 5 tRing) 1]) (by simp) fun c => ⟨fun hc => ?_, fun hc => ?_⟩
  · obtain ⟨x, hx, e, _⟩ := clsA_mem wbRing (by omega) hc
    rw [e, List.mem_singleton]
    exact (clOf_eq (eqv_EA wbRing (by omega)) c1 hx (ring_one ((mem_AL (by omega)).mp hx))).symm
  · rw [List.mem_singleton.mp hc]
    exact (clA_in wbRing (by omega) c1).1
theorem un_call1 {sp : Sp} {i j : Nat} {u : TS} {D : Ends} {σ : L2.St} {H : Hp} {v : V} (hv : σ[i]? = some (some v)) (h : sp [v] H (fun r H1 => u D (σ.set j (some r)) H1) E0) : tSeq (tAsg (tCall sp [] E0 (tCons (tVar i) tNil)) (gName j)) u D σ H := ⟨v, hv, h⟩
section
variable {T : List (Addr × Str)} {P : Program} {w : World} {K : PySem.W.Frag} {mg : Str → Option Value} {base : Heap}
theorem ok_law {f f1 f2 f3 f4 f5 f6 : Addr} {fd fd1 fd2 fd3 fd4 fd5 fd6 : FuncData} (D : At' K mg "law" slaw ["_law_script"] f fd) (Z : Zs mg)
    (C__law_well : Cal P w K mg base 1 "_law_well" ["_law_script"] (spWell T K) f1 fd1) (C__law_pick : Cal P w K mg base 2 "_law_pick" ["_law_well_here", "_law_items"] (spPick T) f2 fd2)
    (C__law_is_told : CalG P w K mg base 22 "_law_is_told" ["_law_well_here", "_law_web_here"] (spIsTold T) f3 fd3) (C__law_web : Cal P w K mg base 3 "_law_web" ["_law_well_here", "_law_size"] (spWeb T) f4 fd4)
    (C_arrow_classes : Cal P w K mg base 3 "arrow_classes" ["web"] (spClasses T) f5 fd5) (C_class_knot : Cal P w K mg base 20 "class_knot" ["web", "arrow"] (spClass T) f6 fd6) : FnG P w K mg base 23 f fd ["_law_script"] (spLaw T K) := by
  refine okG (k := 22) D.F sclaw (fun vs H Q E ⟨b, xs, e, _⟩ => by rw [e]; rfl) fun cdv A outer s H vs Q E hr hgd ⟨b, xs, e, hv, ht, q⟩ => ⟨_,
    (pss_cons (ps_set (i := 1) sclaw.nd rfl (.inl rfl) (pe_call C__law_well.G (hr.mono (by omega)) (by rfl) C__law_well.m C__law_well.kp C__law_well.b .nil pass0 (pa_cons (pv 0) pa_nil)))
    (pss_cons (ps_for PassesOwn.never rfl (xi_seq (K := K) rfl (pe_tup (pa_cons (pe_call C__law_pick.G (hr.mono (by omega)) (by rfl) C__law_pick.m C__law_pick.kp C__law_pick.b .nil pass0 (pa_cons (pv 1) (pa_cons (pe_lst (pa_cons pe_int (pa_cons pe_int (pa_cons pe_int (pa_cons pe_int (pa_cons pe_int pa_nil)))))) pa_nil))) (pa_cons (pe_call C__law_pick.G (hr.mono (by omega)) (by rfl) C__law_pick.m C__law_pick.kp C__law_pick.b .nil pass0 (pa_cons (pv 1) (pa_cons (pe_lst (pa_cons pe_int (pa_cons pe_int (pa_cons pe_int pa_nil)))) pa_nil))) (pa_cons pe_int pa_nil))))) (pg_name (i := 2) sclaw.nd rfl (.inl rfl))
      (pss_one (ps_if (pt_not (pt_val (pe_callG C__law_is_told.G (hr.mono (by omega)) hgd (by rfl) C__law_is_told.m C__law_is_told.kp C__law_is_told.b (pa_cons (pv 1) (pa_cons (pe_call C__law_web.G (hr.mono (by omega)) (by rfl) C__law_web.m C__law_web.kp C__law_web.b .nil pass0 (pa_cons (pv 1) (pa_cons (pv 2) pa_nil))) pa_nil)))))
        (pss_one (ps_ret pe_bl))
        pss_nil)))
    (pss_cons (ps_asg (pe_tup (pa_cons (pe_tup (pa_cons pe_int (pa_cons (pe_tup (pa_cons (pe_tup (pa_cons pe_int (pa_cons pe_int (pa_cons pe_int pa_nil)))) (pa_cons (pe_tup (pa_cons pe_int (pa_cons pe_int (pa_cons pe_int pa_nil)))) (pa_cons (pe_tup (pa_cons pe_int (pa_cons pe_int (pa_cons pe_int pa_nil)))) pa_nil)))) pa_nil))) (pa_cons (pe_tup (pa_cons pe_int (pa_cons (pe_tup (pa_cons (pe_tup (pa_cons pe_int (pa_cons pe_int (pa_cons pe_int (pa_cons pe_int pa_nil))))) (pa_cons (pe_tup (pa_cons pe_int (pa_cons pe_int (pa_cons pe_int (pa_cons pe_int pa_nil))))) (pa_cons (pe_tup (pa_cons pe_int (pa_cons pe_int (pa_cons pe_int (pa_cons pe_int pa_nil))))) (pa_cons (pe_tup (pa_cons pe_int (pa_cons pe_int (pa_cons pe_int (pa_cons pe_int pa_nil))))) pa_nil))))) pa_nil))) pa_nil))) (xg_tup (K := K) (n := 2) rfl rfl (pgs_cons (pg_name (i := 3) sclaw.nd rfl (.inl rfl)) (pgs_cons (pg_name (i := 4) sclaw.nd rfl (.inl rfl)) pgs_nil))))
    (pss_cons (ps_set (i := 5) sclaw.nd rfl (.inl rfl) (pe_tup (pa_cons pe_int (pa_cons (pe_tup (pa_cons (pe_tup (pa_cons pe_int (pa_cons pe_int (pa_cons pe_int (pa_cons pe_int (pa_cons pe_int pa_nil)))))) (pa_cons (pe_tup (pa_cons pe_int (pa_cons pe_int (pa_cons pe_int (pa_cons pe_int (pa_cons pe_int pa_nil)))))) (pa_cons (pe_tup (pa_cons pe_int (pa_cons pe_int (pa_cons pe_int (pa_cons pe_int (pa_cons pe_int pa_nil)))))) (pa_cons (pe_tup (pa_cons pe_int (pa_cons pe_int (pa_cons pe_int (pa_cons pe_int (pa_cons pe_int pa_nil)))))) (pa_cons (pe_tup (pa_cons pe_int (pa_cons pe_int (pa_cons pe_int (pa_cons pe_int (pa_cons pe_int pa_nil)))))) pa_nil)))))) pa_nil))))
    (pss_cons (ps_set (i := 6) sclaw.nd rfl (.inl rfl) (pe_lst (pa_cons (pe_call C_class_knot.G (hr.mono (by omega)) (by rfl) C_class_knot.m C_class_knot.kp C_class_knot.b .nil pass0 (pa_cons (pv 3) (pa_cons (pe_tup (pa_cons pe_int (pa_cons pe_int pa_nil))) pa_nil))) (pa_cons (pe_call C_class_knot.G (hr.mono (by omega)) (by rfl) C_class_knot.m C_class_knot.kp C_class_knot.b .nil pass0 (pa_cons (pv 4) (pa_cons (pe_tup (pa_cons pe_int (pa_cons pe_int pa_nil))) pa_nil))) (pa_cons (pe_ix (x_ix (K := K) rfl) (pe_call C_class_knot.G (hr.mono (by omega)) (by rfl) C_class_knot.m C_class_knot.kp C_class_knot.b .nil pass0 (pa_cons (pv 5) (pa_cons (pe_tup (pa_cons pe_int (pa_cons pe_int pa_nil))) pa_nil))) pe_int (fun _ _ => rfl)) (pa_cons (pe_callB (x_len (K := K) rfl) (by rfl) Z.len (by decide +kernel) (pa_cons (pe_call C_arrow_classes.G (hr.mono (by omega)) (by rfl) C_arrow_classes.m C_arrow_classes.kp C_arrow_classes.b .nil pass0 (pa_cons (pv 5) pa_nil)) pa_nil)) pa_nil))))))
    (pss_cons (ps_set (i := 7) sclaw.nd rfl (.inl rfl) (pe_lst (pa_cons (pe_tup (pa_cons (pe_tup (pa_cons pe_int (pa_cons pe_int (pa_cons pe_int pa_nil)))) (pa_cons pe_str (pa_cons (pe_tup (pa_cons (pe_tup (pa_cons pe_int (pa_cons pe_int pa_nil))) (pa_cons (pe_tup (pa_cons pe_int pa_nil)) pa_nil))) pa_nil)))) (pa_cons (pe_tup (pa_cons (pe_tup (pa_cons pe_int (pa_cons pe_int (pa_cons pe_int (pa_cons pe_int pa_nil))))) (pa_cons pe_str (pa_cons (pe_tup (pa_cons (pe_tup (pa_cons pe_int pa_nil)) (pa_cons (pe_tup (pa_cons pe_int pa_nil)) (pa_cons (pe_tup (pa_cons pe_int pa_nil)) (pa_cons (pe_tup (pa_cons pe_int pa_nil)) pa_nil))))) pa_nil)))) (pa_cons pe_str (pa_cons pe_int pa_nil))))))
    (pss_one (ps_ret (pe_cmpR op_eq (pe_callB (x_repr (K := K) rfl hgd (Room.u65 hr)) (by rfl) Z.repr (by decide +kernel) (pa_cons (pv 6) pa_nil)) (pe_callB (x_repr (K := K) rfl hgd (Room.u65 hr)) (by rfl) Z.repr (by decide +kernel) (pa_cons (pv 7) pa_nil)) (nomark _)))))))))),
    ?_⟩
  subst e
  refine un_call1 (v := .ref b) rfl ⟨b, xs, rfl, hv, ht, fun a g k0 H1 hi => ?_⟩
  have nm : ∀ i, ¬ Mine [none, some (.raw (.ref a)), none, none, none, none, none, none] i := fun i ⟨c, e, m⟩ => by
    match i with
    | 0 => simp at e
    | 1 => simp at e; subst e; exact m
    | 2 => simp at e
    | 3 => simp at e
    | 4 => simp at e
    | 5 => simp at e
    | 6 => simp at e
    | 7 => simp at e
    | n + 8 => simp at e
  have st : SitR (AmW T a g k0) H1 [a, g, k0] (fun _ => 0) [none, some (.raw (.ref a)), none, none, none, none, none, none] ((L2.start ["_law_script", "_law_well_here", "_law_size", "_law_fan", "_law_path", "_law_round5", "_law_found", "_law_due"] [.ref b]).set 1 (some (.ref a))) H1 := by
    refine ⟨⟨rfl, hi, fun _ h => h, fun c h => (AmW T a g k0).wdom _ hi c h, fun i c e => ?_, fun i j m => absurd m (nm i)⟩, Keep.refl, fun i m => absurd m (nm i)⟩
    match i with
    | 0 => simp at e
    | 1 => simp at e; subst e; rfl
    | 2 => simp at e
    | 3 => simp at e
    | 4 => simp at e
    | 5 => simp at e
    | 6 => simp at e
    | 7 => simp at e
    | n + 8 => simp at e
  dsimp only
  refine (show Run (AmW T a g k0) _ [none, some (.raw (.ref a)), none, none, none, none, none, none] (Fin' fun d => d = .bool true) from ?_) H1 [a, g, k0] (fun _ => 0) _ H1 _ st
    ⟨fun _ _ _ _ p => (nomatch p), fun v d H' p _ _ hh => ?_, fun _ _ _ _ p => False.elim p, fun _ _ _ _ p => False.elim p, fun _ _ _ p => False.elim p⟩
  · refine r_seq <| r_for <| i_seqT <| d_tup <| a_cons <| d_wcall rfl <| a_cons <| d_ofF <| f_lst <| a_cons <| d_int <| a_cons <| d_int <| a_cons <| d_int <| a_cons <| d_int <| a_cons <| d_int <| a_nil ⟨by simp, a_nil ⟨[nD 0, nD 2, nD 3, nD 4, nD 5], ⟨by simp, by simp⟩, rfl, fun d hd => ?_⟩⟩
    obtain ⟨s1, e1, hs1⟩ : ∃ z : Nat, d = nD z ∧ z ≤ 8 := by
      simp only [List.mem_cons, List.not_mem_nil, or_false] at hd
      rcases hd with e | e | e | e | e
      · exact ⟨0, e, by omega⟩
      · exact ⟨2, e, by omega⟩
      · exact ⟨3, e, by omega⟩
      · exact ⟨4, e, by omega⟩
      · exact ⟨5, e, by omega⟩
    subst e1
    refine a_cons <| d_wcall rfl <| a_cons <| d_ofF <| f_lst <| a_cons <| d_int <| a_cons <| d_int <| a_cons <| d_int <| a_nil ⟨by simp, a_nil ⟨[nD 4, nD 5, nD 6], ⟨by simp, by simp⟩, rfl, fun d hd => ?_⟩⟩
    obtain ⟨s2, e2, hs2⟩ : ∃ z : Nat, d = nD z ∧ z ≤ 8 := by
      simp only [List.mem_cons, List.not_mem_nil, or_false] at hd
      rcases hd with e | e | e
      · exact ⟨4, e, by omega⟩
      · exact ⟨5, e, by omega⟩
      · exact ⟨6, e, by omega⟩
    subst e2
    refine a_cons <| d_int <| a_nil ⟨by simp, _, rfl, ?_⟩
    refine ⟨fun m Γ1 => ∃ c2, Γ1 = [none, some (.raw (.ref a)), c2, none, none, none, none, none], ⟨_, rfl⟩, fun m d Γ1 hd ⟨c2, e⟩ => ⟨[2], ?_⟩, fun Γ1 ⟨c2, e⟩ => ?_⟩
    · subst e
      obtain ⟨z, ez, hz⟩ : ∃ z : Nat, d = nD z ∧ z ≤ 8 := by
        have hm := List.mem_of_getElem? hd
        simp only [List.mem_cons, List.not_mem_nil, or_false] at hm
        rcases hm with e | e | e
        · exact ⟨s1, e, by omega⟩
        · exact ⟨s2, e, by omega⟩
        · exact ⟨6, e, by omega⟩
      subst ez
      refine g_name (by simp) <| r_if <| t_not <| t_test <| d_wcall rfl <| a_cons <| d_wcall rfl <| a_v rfl <| a_nil ⟨z, hz, rfl, fun d ⟨t, wt, ed⟩ => ?_⟩
      subst ed
      refine a_nil ⟨⟨z, t, [], 0, 0, 0⟩, ⟨wt, hz⟩, rfl, fun d ed => ?_⟩
      subst ed
      exact ⟨_, rfl, fun e => (nomatch e), fun _ => r_next ⟨_, rfl⟩⟩
    · subst e
      refine r_seq <| r_asgG (S := [3, 4]) <| EvD.mono (P := fun d => d = .tuple [tabD 3 tFan, tabD 4 tPath]) (d_tup <| a_cons <| d_tup <| a_cons <| d_int <| a_cons <| d_tup <| a_cons <| d_tup <| a_cons <| d_int <| a_cons <| d_int <| a_cons <| d_int <| a_nil ⟨by simp, a_cons <| d_tup <| a_cons <| d_int <| a_cons <| d_int <| a_cons <| d_int <| a_nil ⟨by simp, a_cons <| d_tup <| a_cons <| d_int <| a_cons <| d_int <| a_cons <| d_int <| a_nil ⟨by simp, a_nil ⟨by simp, a_nil ⟨by simp, a_cons <| d_tup <| a_cons <| d_int <| a_cons <| d_tup <| a_cons <| d_tup <| a_cons <| d_int <| a_cons <| d_int <| a_cons <| d_int <| a_cons <| d_int <| a_nil ⟨by simp, a_cons <| d_tup <| a_cons <| d_int <| a_cons <| d_int <| a_cons <| d_int <| a_cons <| d_int <| a_nil ⟨by simp, a_cons <| d_tup <| a_cons <| d_int <| a_cons <| d_int <| a_cons <| d_int <| a_cons <| d_int <| a_nil ⟨by simp, a_cons <| d_tup <| a_cons <| d_int <| a_cons <| d_int <| a_cons <| d_int <| a_cons <| d_int <| a_nil ⟨by simp, a_nil ⟨by simp, a_nil ⟨by simp, a_nil ⟨by simp, rfl⟩⟩⟩⟩⟩⟩⟩⟩⟩⟩⟩⟩) fun d ed => ?_
      subst ed
      refine g_tup rfl <| gs_cons <| g_name (by simp) <| gs_cons <| g_name (by simp) <| gs_nil ?_
      refine r_seq <| r_asg <| EvD.mono (P := fun d => d = tabD 5 tRing) (d_tup <| a_cons <| d_int <| a_cons <| d_tup <| a_cons <| d_tup <| a_cons <| d_int <| a_cons <| d_int <| a_cons <| d_int <| a_cons <| d_int <| a_cons <| d_int <| a_nil ⟨by simp, a_cons <| d_tup <| a_cons <| d_int <| a_cons <| d_int <| a_cons <| d_int <| a_cons <| d_int <| a_cons <| d_int <| a_nil ⟨by simp, a_cons <| d_tup <| a_cons <| d_int <| a_cons <| d_int <| a_cons <| d_int <| a_cons <| d_int <| a_cons <| d_int <| a_nil ⟨by simp, a_cons <| d_tup <| a_cons <| d_int <| a_cons <| d_int <| a_cons <| d_int <| a_cons <| d_int <| a_cons <| d_int <| a_nil ⟨by simp, a_cons <| d_tup <| a_cons <| d_int <| a_cons <| d_int <| a_cons <| d_int <| a_cons <| d_int <| a_cons <| d_int <| a_nil ⟨by simp, a_nil ⟨by simp, a_nil ⟨by simp, rfl⟩⟩⟩⟩⟩⟩⟩) fun d ed => ?_
      subst ed
      refine r_seq <| r_asg <| EvD.mono (P := fun d => d = dueD) ?_ fun d ed => ?_
      · refine d_ofF <| f_lst <| a_cons <| d_call <| a_v rfl <| a_cons <| d_tup <| a_cons <| d_int <| a_cons <| d_int <| a_nil ⟨by simp, a_nil ⟨⟨3, tFan, (0, 2)⟩, ⟨wbFan, by show 3 ≤ 8; omega, by show 0 < 3; omega, by show 2 < 3; omega, by show 0 ≠ 2; omega⟩, rfl, fun d ⟨l, fm, E, kn, asc, i, ed⟩ => ?_⟩⟩
        have ed1 : d = fanD := ed.trans (told_fan kn asc i)
        subst ed1
        refine a_cons <| d_call <| a_v rfl <| a_cons <| d_tup <| a_cons <| d_int <| a_cons <| d_int <| a_nil ⟨by simp, a_nil ⟨⟨4, tPath, (1, 2)⟩, ⟨wbPath, by show 4 ≤ 8; omega, by show 1 < 4; omega, by show 2 < 4; omega, by show 1 ≠ 2; omega⟩, rfl, fun d ⟨l2, fm2, E2, kn2, asc2, i2, ed2⟩ => ?_⟩⟩
        have ed3 : d = pathD := (ed2.trans (told_prime knPath (by show 1 < 4; omega) (by show 2 < 4; omega) (by show 1 ≠ 2; omega) kn2 asc2 i2)).trans (by rw [path_cls]; rfl)
        subst ed3
        refine a_cons <| d_op <| d_call <| a_v rfl <| a_cons <| d_tup <| a_cons <| d_int <| a_cons <| d_int <| a_nil ⟨by simp, a_nil ⟨⟨5, tRing, (4, 0)⟩, ⟨wbRing, by show 5 ≤ 8; omega, by show 4 < 5; omega, by show 0 < 5; omega, by show 4 ≠ 0; omega⟩, rfl, fun d ⟨l4, fm4, E4, kn4, asc4, i4, ed4⟩ => ?_⟩⟩
        have ed5 := ed4.trans (told_prime knRing (by show 4 < 5; omega) (by show 0 < 5; omega) (by show 4 ≠ 0; omega) kn4 asc4 i4)
        subst ed5
        refine d_int <| rd_xT (k := 1) rfl <| a_cons <| d_callB <| a_cons <| d_call <| a_v rfl <| a_nil ⟨⟨5, tRing, [], 0, 0, 0⟩, ⟨wbRing, by show 5 ≤ 8; omega⟩, rfl, fun d ed6 => ?_⟩
        subst ed6
        refine a_nil <| rc_lenT <| a_nil ⟨by simp, ?_⟩
        rw [List.length_map, ring_cls]
        rfl
      · subst ed
        refine r_seq <| r_asg <| EvD.mono (P := fun d => d = dueD) (d_ofF <| f_lst <| a_cons <| d_tup <| a_cons <| d_tup <| a_cons <| d_int <| a_cons <| d_int <| a_cons <| d_int <| a_nil ⟨by simp, a_cons <| d_str <| a_cons <| d_tup <| a_cons <| d_tup <| a_cons <| d_int <| a_cons <| d_int <| a_nil ⟨by simp, a_cons <| d_tup <| a_cons <| d_int <| a_nil ⟨by simp, a_nil ⟨by simp, a_nil ⟨by simp, a_cons <| d_tup <| a_cons <| d_tup <| a_cons <| d_int <| a_cons <| d_int <| a_cons <| d_int <| a_cons <| d_int <| a_nil ⟨by simp, a_cons <| d_str <| a_cons <| d_tup <| a_cons <| d_tup <| a_cons <| d_int <| a_nil ⟨by simp, a_cons <| d_tup <| a_cons <| d_int <| a_nil ⟨by simp, a_cons <| d_tup <| a_cons <| d_int <| a_nil ⟨by simp, a_cons <| d_tup <| a_cons <| d_int <| a_nil ⟨by simp, a_nil ⟨by simp, a_nil ⟨by simp, a_cons <| d_str <| a_cons <| d_int <| a_nil ⟨by simp, rfl⟩⟩⟩⟩⟩⟩⟩⟩⟩⟩⟩⟩⟩) fun d ed => ?_
        subst ed
        refine r_ret <| d_op <| d_callB <| a_v rfl <| a_nil <| rc_repr due_shown <| d_callB <| a_v rfl <| a_nil <| rc_repr due_shown <| rd_eqS ?_
        show PyData.bool _ = PyData.bool true
        rw [decide_eq_true rfl]
  · have e : d = .bool true := p
    subst e
    rw [hh.blAt]
    exact q H'
end
end K41
end
section
set_option linter.all false
set_option maxRecDepth 100000
set_option maxHeartbeats 4000000
/-! K41: what the text's top leaves: each def's place, the tables of the three defs with a lambda. -/
namespace K41
open PySem PySem.Spec PyProof.Rows L2
abbrev dD (x : Str) (st : Stmt) : He.DefD := ⟨(x, none), x, x, defArgs st, defBody st, defScope st, [], []⟩
def fnL0 : List He.DefD := [dD "part" spart, dD "parts_two" sparts_two, dD "telling" stelling, dD "is_piece" sis_piece, dD "growing" sgrowing, dD "least_piece" sleast_piece, dD "quotient" squotient, dD "row_of_blocks" srow_of_blocks, dD "greatest_lots" sgreatest_lots, dD "top_knot" stop_knot, dD "tree_at" stree_at, dD "tree_of" stree_of, dD "lot_key" slot_key, dD "knots_below" sknots_below, dD "things_of" sthings_of, dD "knots" sknots, dD "_arrows" s_arrows, dD "forced" sforced, dD "_steps_from" s_steps_from, dD "arrow_classes" sarrow_classes]
def fnL1 : List He.DefD := [dD "class_knot" sclass_knot, dD "_law_well" s_law_well, dD "_law_draw" s_law_draw, dD "_law_pick" s_law_pick, dD "_law_shuffled" s_law_shuffled, dD "_law_more" s_law_more, dD "_law_web" s_law_web, dD "_law_near" s_law_near, dD "_law_lot" s_law_lot, dD "_law_strong" s_law_strong, dD "_law_sons" s_law_sons, dD "_law_knots" s_law_knots, dD "_law_between" s_law_between, dD "_law_contrary" s_law_contrary, dD "_law_knot_told" s_law_knot_told, dD "_law_is_told" s_law_is_told, dD "law" slaw]
def fnL : List He.DefD := fnL0 ++ fnL1
def faL0 : List He.Fa := [.glo "part", .glo "parts_two", .glo "telling", .glo "is_piece", .glo "growing", .glo "least_piece", .glo "quotient", .glo "row_of_blocks", .glo "greatest_lots", .glo "top_knot", .glo "tree_at", .glo "tree_of", .glo "lot_key", .glo "knots_below", .glo "things_of", .glo "knots", .glo "_arrows", .glo "forced", .glo "_steps_from", .glo "arrow_classes"]
def faL1 : List He.Fa := [.glo "class_knot", .glo "_law_well", .glo "_law_draw", .glo "_law_pick", .glo "_law_shuffled", .glo "_law_more", .glo "_law_web", .glo "_law_near", .glo "_law_lot", .glo "_law_strong", .glo "_law_sons", .glo "_law_knots", .glo "_law_between", .glo "_law_contrary", .glo "_law_knot_told", .glo "_law_is_told", .glo "law", .free "len", .free "tuple", .free "list"]
def faL2 : List He.Fa := [.free "range", .free "enumerate", .free "sorted", .free "any", .free "sum", .free "abs", .free "int", .free "set", .free "isinstance", .free "zip", .free "repr", .str "ALL" "all", .str "LINE" "line", .str "FIRM" "firm"]
def faL : List He.Fa := faL0 ++ faL1 ++ faL2
def tfL : List He.Defn := [("row_of_blocks", none), ("knots", none), ("_law_sons", none)]
def nodupB : List Nat → Bool
  | [] => true
  | a :: l => !(l.any fun b => Nat.beq a b) && nodupB l
def exL (K : PySem.W.Frag) : Bool := nodupB (tfL.map fun p => (He.cT K p).2)
theorem inj_of {α : Type} {f : α → Nat} : ∀ {l : List α}, nodupB (l.map f) = true → ∀ a ∈ l, ∀ b ∈ l, f a = f b → a = b
  | [], _, a, ha, _, _, _ => nomatch ha
  | x :: l, h, a, ha, b, hb, e => by
    rw [List.map_cons] at h
    unfold nodupB at h
    rw [Bool.and_eq_true, Bool.not_eq_true', List.any_eq_false] at h
    have out : ∀ y ∈ l, f x ≠ f y := fun y hy q => h.1 (f y) (List.mem_map.mpr ⟨y, hy, rfl⟩) (Nat.beq_eq.mpr q)
    rcases List.mem_cons.mp ha with e1 | e1 <;> rcases List.mem_cons.mp hb with e2 | e2
    · rw [e1, e2]
    · subst e1; exact absurd e (out b e2)
    · subst e2; exact absurd e.symm (out a e1)
    · exact inj_of h.2 a e1 b e2 e
def csL (K : PySem.W.Frag) : List (Addr × Addr) := tfL.map (He.cT K)
def TL (K : PySem.W.Frag) : List (Addr × Str) := tfL.map fun p => ((He.cT K p).2, p.1 ++ ".<locals>." ++ "<lambda>")
section
variable {K : PySem.W.Frag} {h : Heap} {mg : Str → Option Value} {x : Str} {st : Stmt} {ps : List Str} {f : Addr} {fd : FuncData}
theorem fun_of (F : FunD K x x (defArgs st) (defBody st) (defScope st) [] [] f fd) : Fun K x x st f fd := by
  obtain ⟨oc, od, dV, kV, doc, pm, an, cdv, ct, osl, rfl, lk, hcd, hD, hK⟩ := F.ex
  have e : dV = .none := hD.elim (fun q => q.2) fun q => absurd rfl q.1
  subst e
  exact ⟨⟨oc, od, kV, doc, pm, an, cdv, ct, osl, rfl, lk, hcd⟩, F.kp⟩
abbrev BindD (x : Str) (st : Stmt) (ps : List Str) : Prop := ∀ (kV doc pm : Value) (an : Option Addr) (cdv ct : Value) (us : List Value), us.length = ps.length → bindArgs (PySem.W.fnOf x x (defArgs st) (defBody st) (defScope st) .none kV doc pm an cdv ct) ⟨us, []⟩ = pure (ps.zip us)
theorem at_of (X : K.In h) (G : h.Ns mainGlobals mg) (F : ∃ fd, FunD K x x (defArgs st) (defBody st) (defScope st) [] [] (He.ga K x) fd) (g : (He.Fa.glo x).ok K = true) (hb : BindD x st ps) : ∃ fd, At' K mg x st ps (He.ga K x) fd := by
  obtain ⟨fd, F⟩ := F
  exact ⟨fd, fun_of F, He.glo_ok X G g, F.bindsN hb⟩
theorem atL_of (X : K.In h) (G : h.Ns mainGlobals mg) (F : ∃ fd, FunD K x x (defArgs st) (defBody st) (defScope st) [] [] (He.ga K x) fd) (g : (He.Fa.glo x).ok K = true) (hb : BindD x st ps) (hx : (x, none) ∈ tfL) (ex : exL K = true) :
    ∃ fd, ∀ base : Heap, (∀ p ∈ csL K, LamX.TabB base mg p.1 p.2) → AtL (TL K) K mg base x st ps (He.ga K x) fd := by
  obtain ⟨fd, F⟩ := F
  refine ⟨fd, fun base TB => ?_⟩
  have b : Binds K fd ps [] := F.bindsN hb
  obtain ⟨⟨oc, od, kV, doc, pm, an, cdv, ct, osl, e, lk, hcd⟩, kp⟩ := fun_of F
  obtain ⟨c, ec⟩ := He.codeIn_ref hcd
  subst ec
  have ce : He.codeOf K (x, none) = c := He.codeOf_eq (p := (x, none)) lk (by rw [e])
  refine ⟨⟨oc, od, kV, doc, pm, an, c, (He.cT K (x, none)).2, ct, osl, e, lk, hcd, ?_, List.mem_map.mpr ⟨_, hx, rfl⟩, fun p hp ep => ?_⟩, kp, He.glo_ok X G g, b⟩
  · have q := TB _ (List.mem_map.mpr ⟨_, hx, rfl⟩)
    have e1 : (He.cT K (x, none)).1 = c := ce
    rw [e1] at q
    exact q
  · obtain ⟨q, hq, rfl⟩ := List.mem_map.mp hp
    rw [inj_of (f := fun p => (He.cT K p).2) ex q hq _ hx ep]
end
theorem facts {l : PySem.W.OpenLaw} {w : World} {K : PySem.W.Frag} {h : Heap} {mg : Str → Option Value} {fa : Addr} {n : Nat} (X : K.In h) (G : h.Ns mainGlobals mg) (hfa : mg ("law" : Str) = some (.ref fa)) (c : He.SaysX faL fnL [] tfL exL w h K) :
    LawG l w K 23 n "_law_script" mg fa h := by
  have d := c.t.d
  have Z : Zs mg := ⟨He.free_ok X G (d.fact 37 (f := .free "len") rfl), He.free_ok X G (d.fact 38 (f := .free "tuple") rfl), He.free_ok X G (d.fact 39 (f := .free "list") rfl), He.free_ok X G (d.fact 40 (f := .free "range") rfl), He.free_ok X G (d.fact 41 (f := .free "enumerate") rfl), He.free_ok X G (d.fact 42 (f := .free "sorted") rfl), He.free_ok X G (d.fact 43 (f := .free "any") rfl), He.free_ok X G (d.fact 44 (f := .free "sum") rfl), He.free_ok X G (d.fact 45 (f := .free "abs") rfl), He.free_ok X G (d.fact 46 (f := .free "int") rfl), He.free_ok X G (d.fact 47 (f := .free "set") rfl), He.free_ok X G (d.fact 48 (f := .free "isinstance") rfl), He.free_ok X G (d.fact 49 (f := .free "zip") rfl), He.free_ok X G (d.fact 50 (f := .free "repr") rfl)⟩
  have Y : Ys mg := ⟨He.str_ok X G (d.fact 51 (f := .str "ALL" "all") rfl), He.str_ok X G (d.fact 52 (f := .str "LINE" "line") rfl), He.str_ok X G (d.fact 53 (f := .str "FIRM" "firm") rfl)⟩
  obtain ⟨fd_part, D_part⟩ := at_of (x := "part") (st := spart) (ps := ["table", "lot"]) X G (d.def_ 0 (d := dD "part" spart) rfl) (d.fact 0 (f := .glo "part") rfl) (fun _ _ _ _ _ _ us hl => match us, hl with | [_, _], _ => rfl)
  obtain ⟨fd_parts_two, D_parts_two⟩ := at_of (x := "parts_two") (st := sparts_two) (ps := ["rows", "outer", "thing", "other"]) X G (d.def_ 1 (d := dD "parts_two" sparts_two) rfl) (d.fact 1 (f := .glo "parts_two") rfl) (fun _ _ _ _ _ _ us hl => match us, hl with | [_, _, _, _], _ => rfl)
  obtain ⟨fd_telling, D_telling⟩ := at_of (x := "telling") (st := stelling) (ps := ["table", "lot"]) X G (d.def_ 2 (d := dD "telling" stelling) rfl) (d.fact 2 (f := .glo "telling") rfl) (fun _ _ _ _ _ _ us hl => match us, hl with | [_, _], _ => rfl)
  obtain ⟨fd_is_piece, D_is_piece⟩ := at_of (x := "is_piece") (st := sis_piece) (ps := ["table", "lot"]) X G (d.def_ 3 (d := dD "is_piece" sis_piece) rfl) (d.fact 3 (f := .glo "is_piece") rfl) (fun _ _ _ _ _ _ us hl => match us, hl with | [_, _], _ => rfl)
  obtain ⟨fd_growing, D_growing⟩ := at_of (x := "growing") (st := sgrowing) (ps := ["table", "lot"]) X G (d.def_ 4 (d := dD "growing" sgrowing) rfl) (d.fact 4 (f := .glo "growing") rfl) (fun _ _ _ _ _ _ us hl => match us, hl with | [_, _], _ => rfl)
  obtain ⟨fd_least_piece, D_least_piece⟩ := at_of (x := "least_piece") (st := sleast_piece) (ps := ["table", "lot"]) X G (d.def_ 5 (d := dD "least_piece" sleast_piece) rfl) (d.fact 5 (f := .glo "least_piece") rfl) (fun _ _ _ _ _ _ us hl => match us, hl with | [_, _], _ => rfl)
  obtain ⟨fd_quotient, D_quotient⟩ := at_of (x := "quotient") (st := squotient) (ps := ["table", "lots"]) X G (d.def_ 6 (d := dD "quotient" squotient) rfl) (d.fact 6 (f := .glo "quotient") rfl) (fun _ _ _ _ _ _ us hl => match us, hl with | [_, _], _ => rfl)
  obtain ⟨fd_row_of_blocks, L_row_of_blocks⟩ := atL_of (x := "row_of_blocks") (st := srow_of_blocks) (ps := ["table", "first", "second"]) X G (d.def_ 7 (d := dD "row_of_blocks" srow_of_blocks) rfl) (d.fact 7 (f := .glo "row_of_blocks") rfl) (fun _ _ _ _ _ _ us hl => match us, hl with | [_, _, _], _ => rfl) (by simp [tfL]) c.more
  obtain ⟨fd_greatest_lots, D_greatest_lots⟩ := at_of (x := "greatest_lots") (st := sgreatest_lots) (ps := ["table"]) X G (d.def_ 8 (d := dD "greatest_lots" sgreatest_lots) rfl) (d.fact 8 (f := .glo "greatest_lots") rfl) (fun _ _ _ _ _ _ us hl => match us, hl with | [_], _ => rfl)
  obtain ⟨fd_top_knot, D_top_knot⟩ := at_of (x := "top_knot") (st := stop_knot) (ps := ["table"]) X G (d.def_ 9 (d := dD "top_knot" stop_knot) rfl) (d.fact 9 (f := .glo "top_knot") rfl) (fun _ _ _ _ _ _ us hl => match us, hl with | [_], _ => rfl)
  obtain ⟨fd_tree_at, D_tree_at⟩ := at_of (x := "tree_at") (st := stree_at) (ps := ["table", "lot"]) X G (d.def_ 10 (d := dD "tree_at" stree_at) rfl) (d.fact 10 (f := .glo "tree_at") rfl) (fun _ _ _ _ _ _ us hl => match us, hl with | [_, _], _ => rfl)
  obtain ⟨fd_tree_of, D_tree_of⟩ := at_of (x := "tree_of") (st := stree_of) (ps := ["table"]) X G (d.def_ 11 (d := dD "tree_of" stree_of) rfl) (d.fact 11 (f := .glo "tree_of") rfl) (fun _ _ _ _ _ _ us hl => match us, hl with | [_], _ => rfl)
  obtain ⟨fd_lot_key, D_lot_key⟩ := at_of (x := "lot_key") (st := slot_key) (ps := ["lot"]) X G (d.def_ 12 (d := dD "lot_key" slot_key) rfl) (d.fact 12 (f := .glo "lot_key") rfl) (fun _ _ _ _ _ _ us hl => match us, hl with | [_], _ => rfl)
  obtain ⟨fd_knots_below, D_knots_below⟩ := at_of (x := "knots_below") (st := sknots_below) (ps := ["tree"]) X G (d.def_ 13 (d := dD "knots_below" sknots_below) rfl) (d.fact 13 (f := .glo "knots_below") rfl) (fun _ _ _ _ _ _ us hl => match us, hl with | [_], _ => rfl)
  obtain ⟨fd_things_of, D_things_of⟩ := at_of (x := "things_of") (st := sthings_of) (ps := ["tree"]) X G (d.def_ 14 (d := dD "things_of" sthings_of) rfl) (d.fact 14 (f := .glo "things_of") rfl) (fun _ _ _ _ _ _ us hl => match us, hl with | [_], _ => rfl)
  obtain ⟨fd_knots, L_knots⟩ := atL_of (x := "knots") (st := sknots) (ps := ["table"]) X G (d.def_ 15 (d := dD "knots" sknots) rfl) (d.fact 15 (f := .glo "knots") rfl) (fun _ _ _ _ _ _ us hl => match us, hl with | [_], _ => rfl) (by simp [tfL]) c.more
  obtain ⟨fd__arrows, D__arrows⟩ := at_of (x := "_arrows") (st := s_arrows) (ps := ["web"]) X G (d.def_ 16 (d := dD "_arrows" s_arrows) rfl) (d.fact 16 (f := .glo "_arrows") rfl) (fun _ _ _ _ _ _ us hl => match us, hl with | [_], _ => rfl)
  obtain ⟨fd_forced, D_forced⟩ := at_of (x := "forced") (st := sforced) (ps := ["web", "arrow"]) X G (d.def_ 17 (d := dD "forced" sforced) rfl) (d.fact 17 (f := .glo "forced") rfl) (fun _ _ _ _ _ _ us hl => match us, hl with | [_, _], _ => rfl)
  obtain ⟨fd__steps_from, D__steps_from⟩ := at_of (x := "_steps_from") (st := s_steps_from) (ps := ["web", "arrow"]) X G (d.def_ 18 (d := dD "_steps_from" s_steps_from) rfl) (d.fact 18 (f := .glo "_steps_from") rfl) (fun _ _ _ _ _ _ us hl => match us, hl with | [_, _], _ => rfl)
  obtain ⟨fd_arrow_classes, D_arrow_classes⟩ := at_of (x := "arrow_classes") (st := sarrow_classes) (ps := ["web"]) X G (d.def_ 19 (d := dD "arrow_classes" sarrow_classes) rfl) (d.fact 19 (f := .glo "arrow_classes") rfl) (fun _ _ _ _ _ _ us hl => match us, hl with | [_], _ => rfl)
  obtain ⟨fd_class_knot, D_class_knot⟩ := at_of (x := "class_knot") (st := sclass_knot) (ps := ["web", "arrow"]) X G (d.def_ 20 (d := dD "class_knot" sclass_knot) rfl) (d.fact 20 (f := .glo "class_knot") rfl) (fun _ _ _ _ _ _ us hl => match us, hl with | [_, _], _ => rfl)
  obtain ⟨fd__law_well, D__law_well⟩ := at_of (x := "_law_well") (st := s_law_well) (ps := ["_law_script"]) X G (d.def_ 21 (d := dD "_law_well" s_law_well) rfl) (d.fact 21 (f := .glo "_law_well") rfl) (fun _ _ _ _ _ _ us hl => match us, hl with | [_], _ => rfl)
  obtain ⟨fd__law_draw, D__law_draw⟩ := at_of (x := "_law_draw") (st := s_law_draw) (ps := ["_law_well_here", "_law_many"]) X G (d.def_ 22 (d := dD "_law_draw" s_law_draw) rfl) (d.fact 22 (f := .glo "_law_draw") rfl) (fun _ _ _ _ _ _ us hl => match us, hl with | [_, _], _ => rfl)
  obtain ⟨fd__law_pick, D__law_pick⟩ := at_of (x := "_law_pick") (st := s_law_pick) (ps := ["_law_well_here", "_law_items"]) X G (d.def_ 23 (d := dD "_law_pick" s_law_pick) rfl) (d.fact 23 (f := .glo "_law_pick") rfl) (fun _ _ _ _ _ _ us hl => match us, hl with | [_, _], _ => rfl)
  obtain ⟨fd__law_shuffled, D__law_shuffled⟩ := at_of (x := "_law_shuffled") (st := s_law_shuffled) (ps := ["_law_well_here", "_law_items"]) X G (d.def_ 24 (d := dD "_law_shuffled" s_law_shuffled) rfl) (d.fact 24 (f := .glo "_law_shuffled") rfl) (fun _ _ _ _ _ _ us hl => match us, hl with | [_, _], _ => rfl)
  obtain ⟨fd__law_more, D__law_more⟩ := at_of (x := "_law_more") (st := s_law_more) (ps := ["_law_well_here", "_law_rows"]) X G (d.def_ 25 (d := dD "_law_more" s_law_more) rfl) (d.fact 25 (f := .glo "_law_more") rfl) (fun _ _ _ _ _ _ us hl => match us, hl with | [_, _], _ => rfl)
  obtain ⟨fd__law_web, D__law_web⟩ := at_of (x := "_law_web") (st := s_law_web) (ps := ["_law_well_here", "_law_size"]) X G (d.def_ 26 (d := dD "_law_web" s_law_web) rfl) (d.fact 26 (f := .glo "_law_web") rfl) (fun _ _ _ _ _ _ us hl => match us, hl with | [_, _], _ => rfl)
  obtain ⟨fd__law_near, D__law_near⟩ := at_of (x := "_law_near") (st := s_law_near) (ps := ["_law_table"]) X G (d.def_ 27 (d := dD "_law_near" s_law_near) rfl) (d.fact 27 (f := .glo "_law_near") rfl) (fun _ _ _ _ _ _ us hl => match us, hl with | [_], _ => rfl)
  obtain ⟨fd__law_lot, D__law_lot⟩ := at_of (x := "_law_lot") (st := s_law_lot) (ps := ["_law_mask"]) X G (d.def_ 28 (d := dD "_law_lot" s_law_lot) rfl) (d.fact 28 (f := .glo "_law_lot") rfl) (fun _ _ _ _ _ _ us hl => match us, hl with | [_], _ => rfl)
  obtain ⟨fd__law_strong, D__law_strong⟩ := at_of (x := "_law_strong") (st := s_law_strong) (ps := ["_law_near_here"]) X G (d.def_ 29 (d := dD "_law_strong" s_law_strong) rfl) (d.fact 29 (f := .glo "_law_strong") rfl) (fun _ _ _ _ _ _ us hl => match us, hl with | [_], _ => rfl)
  obtain ⟨fd__law_sons, L__law_sons⟩ := atL_of (x := "_law_sons") (st := s_law_sons) (ps := ["_law_steady", "_law_piece"]) X G (d.def_ 30 (d := dD "_law_sons" s_law_sons) rfl) (d.fact 30 (f := .glo "_law_sons") rfl) (fun _ _ _ _ _ _ us hl => match us, hl with | [_, _], _ => rfl) (by simp [tfL]) c.more
  obtain ⟨fd__law_knots, D__law_knots⟩ := at_of (x := "_law_knots") (st := s_law_knots) (ps := ["_law_near_here"]) X G (d.def_ 31 (d := dD "_law_knots" s_law_knots) rfl) (d.fact 31 (f := .glo "_law_knots") rfl) (fun _ _ _ _ _ _ us hl => match us, hl with | [_], _ => rfl)
  obtain ⟨fd__law_between, D__law_between⟩ := at_of (x := "_law_between") (st := s_law_between) (ps := ["_law_near_here", "_law_one", "_law_other"]) X G (d.def_ 32 (d := dD "_law_between" s_law_between) rfl) (d.fact 32 (f := .glo "_law_between") rfl) (fun _ _ _ _ _ _ us hl => match us, hl with | [_, _, _], _ => rfl)
  obtain ⟨fd__law_contrary, D__law_contrary⟩ := at_of (x := "_law_contrary") (st := s_law_contrary) (ps := ["_law_arrows"]) X G (d.def_ 33 (d := dD "_law_contrary" s_law_contrary) rfl) (d.fact 33 (f := .glo "_law_contrary") rfl) (fun _ _ _ _ _ _ us hl => match us, hl with | [_], _ => rfl)
  obtain ⟨fd__law_knot_told, D__law_knot_told⟩ := at_of (x := "_law_knot_told") (st := s_law_knot_told) (ps := ["_law_well_here", "_law_web_here", "_law_near_here", "_law_classes", "_law_knot"]) X G (d.def_ 34 (d := dD "_law_knot_told" s_law_knot_told) rfl) (d.fact 34 (f := .glo "_law_knot_told") rfl) (fun _ _ _ _ _ _ us hl => match us, hl with | [_, _, _, _, _], _ => rfl)
  obtain ⟨fd__law_is_told, D__law_is_told⟩ := at_of (x := "_law_is_told") (st := s_law_is_told) (ps := ["_law_well_here", "_law_web_here"]) X G (d.def_ 35 (d := dD "_law_is_told" s_law_is_told) rfl) (d.fact 35 (f := .glo "_law_is_told") rfl) (fun _ _ _ _ _ _ us hl => match us, hl with | [_, _], _ => rfl)
  obtain ⟨fd, Flaw⟩ := d.def_ 36 (d := dD "law" slaw) rfl
  have D_law : At' K mg "law" slaw ["_law_script"] (He.ga K "law") fd := ⟨fun_of Flaw, He.glo_ok X G (d.fact 36 (f := .glo "law") rfl), FunD.bindsN (ps := ["_law_script"]) Flaw fun _ _ _ _ _ _ us hl => match us, hl with | [_], _ => rfl⟩
  have blaw := FunD.bindsA (ps := ["_law_script"]) Flaw fun _ _ _ _ _ _ us hl => match us, hl with | [_], _ => rfl
  have elaw := hfa.symm.trans D_law.m
  cases elaw
  refine ⟨fd, csL K, spLaw (TL K) K, fun p hp => ?_, fun p hp => ?_, fun p hp => ?_, fun s u => blaw s [u] rfl, fun H a ns hH hS => ⟨a, ns, rfl, hS, fun p hp => ?_, fun _ => rfl⟩, fun base _ _ TB => ?_⟩
  · obtain ⟨q, hq, rfl⟩ := List.mem_map.mp hp; exact c.empty q hq
  · obtain ⟨q, hq, rfl⟩ := List.mem_map.mp hp; exact c.out q hq
  · obtain ⟨q, hq, rfl⟩ := List.mem_map.mp hp; exact PySem.W.codeHd_of_K X (c.hd q hq)
  · obtain ⟨q, hq, rfl⟩ := List.mem_map.mp hp; exact LamX.TabS.nil (hH _ (List.mem_map.mpr ⟨q, hq, rfl⟩))
  have D_row_of_blocks := L_row_of_blocks base TB
  have D_knots := L_knots base TB
  have D__law_sons := L__law_sons base TB
  have C_parts_two := ok_parts_two (P := l.prog) (w := w) (T := TL K) (base := base) D_parts_two Z
  have C_part := ok_part (P := l.prog) (w := w) (T := TL K) (base := base) D_part Z
  have C_telling := ok_telling (P := l.prog) (w := w) (T := TL K) (base := base) D_telling Z C_parts_two
  have C_is_piece := ok_is_piece (P := l.prog) (w := w) (T := TL K) (base := base) D_is_piece Z C_parts_two
  have C_growing := ok_growing (P := l.prog) (w := w) (T := TL K) (base := base) D_growing Z C_telling
  have C_least_piece := ok_least_piece (P := l.prog) (w := w) (T := TL K) (base := base) D_least_piece Z C_growing
  have C_quotient := ok_quotient (P := l.prog) (w := w) (T := TL K) (base := base) D_quotient Z C_is_piece
  have C_row_of_blocks := ok_row_of_blocks (P := l.prog) (w := w) D_row_of_blocks Z
  have C_greatest_lots := ok_greatest_lots (P := l.prog) (w := w) (T := TL K) (base := base) D_greatest_lots Z C_least_piece
  have C_top_knot := ok_top_knot (P := l.prog) (w := w) (T := TL K) (base := base) D_top_knot Z Y C_row_of_blocks C_greatest_lots C_quotient
  have C_tree_at := ok_tree_at (P := l.prog) (w := w) (T := TL K) (base := base) D_tree_at Z C_top_knot C_part 8
  have C_tree_of := ok_tree_of (P := l.prog) (w := w) (T := TL K) (base := base) D_tree_of Z C_tree_at
  have C_lot_key := ok_lot_key (P := l.prog) (w := w) (T := TL K) (base := base) D_lot_key Z
  have C_things_of := ok_things_of (P := l.prog) (w := w) (T := TL K) (base := base) D_things_of Z 8
  have C_knots_below := ok_knots_below (P := l.prog) (w := w) (T := TL K) (base := base) D_knots_below Z 8
  have C_knots := ok_knots (P := l.prog) (w := w) D_knots Z C_tree_of C_knots_below C_things_of C_lot_key
  have C_class_knot := ok_class_knot (P := l.prog) (w := w) (T := TL K) (base := base) D_class_knot Z C_knots
  have C__arrows := ok_arrows (P := l.prog) (w := w) (T := TL K) (base := base) D__arrows Z
  have C_forced := ok_forced (P := l.prog) (w := w) (T := TL K) (base := base) D_forced Z
  have C__steps_from := ok_steps_from (P := l.prog) (w := w) (T := TL K) (base := base) D__steps_from Z C_forced
  have C_arrow_classes := ok_arrow_classes (P := l.prog) (w := w) (T := TL K) (base := base) D_arrow_classes Z C__arrows C__steps_from
  have C__law_well := ok_law_well (P := l.prog) (w := w) (T := TL K) (base := base) D__law_well Z
  have C__law_draw := ok_law_draw (P := l.prog) (w := w) (T := TL K) (base := base) D__law_draw Z
  have C__law_pick := ok_law_pick (P := l.prog) (w := w) (T := TL K) (base := base) D__law_pick Z C__law_draw
  have C__law_shuffled := ok_law_shuffled (P := l.prog) (w := w) (T := TL K) (base := base) D__law_shuffled Z C__law_draw
  have C__law_more := ok_law_more (P := l.prog) (w := w) (T := TL K) (base := base) D__law_more Z C__law_draw
  have C__law_web := ok_law_web (P := l.prog) (w := w) (T := TL K) (base := base) D__law_web Z C__law_pick C__law_draw C__law_more C__law_shuffled
  have C__law_near := ok_law_near (P := l.prog) (w := w) (T := TL K) (base := base) D__law_near Z
  have C__law_lot := ok_law_lot (P := l.prog) (w := w) (T := TL K) (base := base) D__law_lot Z
  have C__law_strong := ok_law_strong (P := l.prog) (w := w) (T := TL K) (base := base) D__law_strong Z
  have C__law_sons := ok_law_sons (P := l.prog) (w := w) D__law_sons Z
  have C__law_knots := ok_law_knots (P := l.prog) (w := w) (T := TL K) (base := base) D__law_knots Z C__law_strong C__law_sons C__law_lot
  have C__law_between := ok_law_between (P := l.prog) (w := w) (T := TL K) (base := base) D__law_between Z C__law_lot
  have C__law_contrary := ok_law_contrary (P := l.prog) (w := w) (T := TL K) (base := base) D__law_contrary Z
  have C__law_knot_told := ok_law_knot_told (P := l.prog) (w := w) (T := TL K) (base := base) D__law_knot_told Z C__law_between C__law_pick C__law_lot C__law_draw C_class_knot (kb_class D_class_knot) C__law_contrary
  have C__law_is_told := ok_law_is_told (P := l.prog) (w := w) (T := TL K) (base := base) D__law_is_told Z C__law_near C_arrow_classes C__law_knots C__law_knot_told
  exact ok_law (P := l.prog) (w := w) (T := TL K) (base := base) D_law Z C__law_well C__law_pick C__law_is_told C__law_web C_arrow_classes C_class_knot
end K41
end
section
set_option linter.all false
set_option maxRecDepth 100000
set_option maxHeartbeats 0
/-! K41: the head's run. -/
namespace K41
open PySem PySem.Spec PyProof.Rows L2
abbrev Rw : PySem.W.OpenRow := PySem.W.OpenLaw.row PySem.Challenge.rw_piecetrees_k41_whole_classes_are_arrows
abbrev hkL : PySem.W.Hook := He.hookX 4 faL fnL [] tfL exL
def obL (s : PySem.W.SharedT) : He.AlX := He.obsX 4 faL fnL [] tfL exL (HandSHeadRun.getT s)
theorem obL_eq (s : PySem.W.SharedT) : obL s = hkL.obs s.abs := He.obsX_eq (HandSHeadRun.getT_eq s)
def loose1 : List PySem.Str := ["__name__", "PieceError", "NotPiece", "part", "parts_two", "telling", "is_piece", "growing", "least_piece", "quotient", "ALL", "LINE", "FIRM", "row_of_blocks", "greatest_lots", "top_knot", "tree_at", "tree_of", "lot_key", "knots_below", "things_of", "knots"]
def loose2 : List PySem.Str := ["_arrows", "forced", "_steps_from", "arrow_classes", "class_knot", "_law_well", "_law_draw", "_law_pick", "_law_shuffled", "_law_more", "_law_web", "_law_near", "_law_lot", "_law_strong", "_law_sons", "_law_knots", "_law_between", "_law_contrary", "_law_knot_told", "_law_is_told"]
def looseL : List PySem.Str := loose1 ++ loose2
theorem runL (w : World) : HandSHeadRun.RunEq Rw (PySem.W.view Rw.prog [48]) hkL obL 4000 looseL w := by
  intro os
  kernel_rfl
end K41
end
section
set_option linter.all false
open PySem PySem.W PySem.Calls PyProof.Rows
set_option maxRecDepth 100000 in
set_option maxHeartbeats 0 in
theorem PySem.Challenge.cw_piecetrees_k41_whole_classes_are_arrows_holds : PySem.Challenge.rw_piecetrees_k41_whole_classes_are_arrows.Holds := by
  w_on; o_law
  refine HandSHeadRun.head_any (r := K41.Rw) (q := view K41.Rw.prog [48]) (H := K41.hkL) (ob := K41.obL) (M := 4000) (loose := K41.looseL) (d := HandSHeadRun.topDef K41.Rw.prog 48) (kwd := []) K41.obL_eq
    (by kernel_rfl) (fun s => by kernel_rfl) K41.runL (by kernel_rfl) (by kernel_rfl) (by kernel_rfl) (by rfl) (by first | assumption | decide +kernel) (by decide +kernel) ⟨rfl, rfl, rfl, rfl, rfl, by decide +kernel⟩ ?hw ?hc
  case hw => w_witness2
  case hc =>
    refine K41.walk_G (l := PySem.Challenge.rw_piecetrees_k41_whole_classes_are_arrows) (n := 63) (k := 23) (x := "_law_script") rfl (by decide) (by kernel_rfl) ⟨rfl, by decide, by decide⟩ fun w mg fa h Y G hmg => ?_
    obtain ⟨K, KX, c⟩ := Y
    have e : (HandSHeadRun.topDef K41.Rw.prog 48).name = ("law" : PySem.Str) := by kernel_rfl
    rw [e] at hmg
    exact ⟨K, KX, K41.facts KX G hmg c⟩
end
