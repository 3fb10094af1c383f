import PyProof.Rows.All
import Wide.All
import OpenK.AllK
import Wide.FinOn
import HandS.ForMost
import HandS.Deep
import HandS.Walk
import HandS.Evl
import KE.GoesNew
import KE.GoesNewDict
import HandS.Zip
import HandS.Codes
import HandS.Property
import HandS.IsInst
import HandS.Strs
import HandS.Conv
import HandS.Style
import HandS.SetFor
import HandS.TupSets
import KE.KTupSum
import HandS.TupAny
import HandS.TupLe
import KE.KDictKeyed
import KE.KDictWalk
import KE.GoesDict
import KE.KDictOf
import KE.KDictCopyH
import KE.KDictPairs
import KE.KItemsList
import HandS.ListItems
import HandS.Ends
import PySem.Challenge.RW_runcolumns_k62_whole_seams
set_option Elab.async false
set_option linter.all false
set_option maxRecDepth 100000
set_option maxHeartbeats 40000000
namespace Sm
open PySem PySem.Spec L2

/-! ### the immutable part B of the abstract heap H, and how both go on -/
structure Nx (B H B' H' : Hp) : Prop where
  b : Same B B'
  h : Same H H'
  c : Same B' H'
  f : ∀ a, B a = none → H a ≠ none → B' a = none
theorem Nx.refl {B H : Hp} (c : Same B H) : Nx B H B H := ⟨Same.refl _, Same.refl _, c, fun _ h _ => h⟩
theorem Nx.trans {B H B1 H1 B2 H2 : Hp} (x : Nx B H B1 H1) (y : Nx B1 H1 B2 H2) : Nx B H B2 H2 :=
  ⟨x.b.trans y.b, x.h.trans y.h, y.c, fun a h1 h2 => y.f a (x.f a h1 h2) (fun e => by
    cases q : H a with
    | none => exact h2 q
    | some o => rw [x.h a o q] at e; cases e)⟩
theorem same_new {H : Hp} {p : Addr} {o : HO} (h : H p = none) : Same H (upd H p o) := fun b u e => by
  rw [upd_ne (ne_of_none e h)]
  exact e
theorem none_sub {B H : Hp} (c : Same B H) {p : Addr} (h : H p = none) : B p = none := c.free h
theorem same_upd2 {B H : Hp} (c : Same B H) {p : Addr} {o : HO} : Same (upd B p o) (upd H p o) := fun b u e => by
  by_cases q : b = p
  · subst q
    rw [upd_same] at e ⊢
    exact e
  · rw [upd_ne q] at e ⊢
    exact c b u e
/-- a new immutable thing -/
theorem Nx.new {B H : Hp} (c : Same B H) {p : Addr} {o : HO} (h : H p = none) : Nx B H (upd B p o) (upd H p o) :=
  ⟨same_new (none_sub c h), same_new h, same_upd2 c, fun a h1 h2 => by
    rw [upd_ne (fun q => h2 (by rw [q]; exact h))]
    exact h1⟩
/-- a new thing that will change -/
theorem Nx.newM {B H : Hp} (c : Same B H) {p : Addr} {o : HO} (h : H p = none) : Nx B H B (upd H p o) :=
  ⟨Same.refl _, same_new h, fun b u e => by rw [upd_ne (ne_of_none (c b u e) h)]; exact c b u e, fun _ h1 _ => h1⟩
/-- one's own thing changes -/
theorem Nx.mut {B H B1 H1 : Hp} (x : Nx B H B1 H1) {p : Addr} {o : HO} (h : H p = none) (hb : B1 p = none) : Nx B H B1 (upd H1 p o) :=
  ⟨x.b, fun a u e => by rw [upd_ne (ne_of_none e h)]; exact x.h a u e, fun a u e => by rw [upd_ne (ne_of_none e hb)]; exact x.c a u e, x.f⟩
/-- one's own thing will not change any more -/
theorem Nx.seal {B H B1 H1 : Hp} (x : Nx B H B1 H1) {p : Addr} {o : HO} (h : H p = none) (hb : B1 p = none) (ho : H1 p = some o) : Nx B H (upd B1 p o) H1 :=
  ⟨fun a u e => by
    rw [upd_ne (ne_of_none (x.b a u e) hb)]
    exact x.b a u e, x.h, fun a u e => by
    by_cases q : a = p
    · subst q
      rw [upd_same] at e
      rw [ho]
      exact e
    · rw [upd_ne q] at e
      exact x.c a u e, fun a h1 h2 => by
    rw [upd_ne (fun q => h2 (by rw [q]; exact h))]
    exact x.f a h1 h2⟩
theorem Nx.own {B H B1 H1 : Hp} (x : Nx B H B1 H1) {p : Addr} {o : HO} (hb : B p = none) (hh : H p = some o) : B1 p = none := x.f p hb (by rw [hh]; exact fun q => nomatch q)

/-! ### what a value stands for -/
structure Rep where
  p : Hp → V → Prop
  mono : ∀ (B B' : Hp) (v : V), Same B B' → p B v → p B' v
mutual
theorem dp_mono {K : PySem.W.Frag} {B B' : Hp} (e : Same B B') : ∀ (d : PyData) (v : V), Dp K B v d → Dp K B' v d
  | .none, _, h => by cases h; exact .non
  | .bool _, _, h => by cases h; exact .bl _
  | .int _, _, h => by cases h; exact .int _
  | .str _, _, h => by cases h; exact .str _
  | .list ds, _, h => by
    cases h with
    | lst hs ha => exact .lst (e.seq hs) (dpAll_mono e ds _ ha)
  | .tuple ds, _, h => by
    cases h with
    | tup hs ha => exact .tup (Evl.ex_t e hs) (dpAll_mono e ds _ ha)
  | .dict _, _, h => nomatch h
theorem dpAll_mono {K : PySem.W.Frag} {B B' : Hp} (e : Same B B') : ∀ (ds : List PyData) (vs : List V), DpAll K B vs ds → DpAll K B' vs ds
  | [], _, h => by cases h; exact .nil
  | d :: ds, _, h => by
    cases h with
    | cons h1 h2 => exact .cons (dp_mono e d _ h1) (dpAll_mono e ds _ h2)
end
/-- plain data -/
def rD (K : PySem.W.Frag) (d : PyData) : Rep := ⟨fun B v => Dp K B v d, fun _ _ _ e h => dp_mono e _ _ h⟩
/-- items by their reps, in a tuple, in a list, in one of both -/
def All2 (Rs : List Rep) (B : Hp) (xs : List V) : Prop := Paired (fun (R : Rep) x => R.p B x) Rs xs
theorem paired_mono {α β : Type} {F G : α → β → Prop} : ∀ {l : List α} {r : List β}, Paired F l r → (∀ a b, F a b → G a b) → Paired G l r
  | _, _, .nil, _ => .nil
  | _, _, .cons r t, f => .cons (f _ _ r) (paired_mono t f)
theorem All2.mono {Rs : List Rep} {B B' : Hp} {xs : List V} (h : All2 Rs B xs) (e : Same B B') : All2 Rs B' xs := paired_mono h fun R x q => R.mono B B' x e q
def rTup (K : PySem.W.Frag) (Rs : List Rep) : Rep := ⟨fun B v => ∃ a xs, v = .ref a ∧ SqT K B a xs ∧ All2 Rs B xs, fun _ _ _ e h => by
  obtain ⟨a, xs, h1, h2, h3⟩ := h
  exact ⟨a, xs, h1, Evl.ex_t e h2, h3.mono e⟩⟩
def rLst (K : PySem.W.Frag) (Rs : List Rep) : Rep := ⟨fun B v => ∃ a xs, v = .ref a ∧ SqL K B a xs ∧ All2 Rs B xs, fun _ _ _ e h => by
  obtain ⟨a, xs, h1, h2, h3⟩ := h
  exact ⟨a, xs, h1, e.seq h2, h3.mono e⟩⟩
def rSeq (K : PySem.W.Frag) (Rs : List Rep) : Rep := ⟨fun B v => (rLst K Rs).p B v ∨ (rTup K Rs).p B v, fun B B' v e h => h.imp ((rLst K Rs).mono B B' v e) ((rTup K Rs).mono B B' v e)⟩
theorem dpAll_iff {K : PySem.W.Frag} {B : Hp} : ∀ {ds : List PyData} {xs : List V}, DpAll K B xs ds ↔ All2 (ds.map (rD K)) B xs
  | [], xs => ⟨fun h => by cases h; exact .nil, fun h => by cases h; exact .nil⟩
  | d :: ds, xs => ⟨fun h => by
      cases h with
      | cons h1 h2 => exact .cons h1 (dpAll_iff.mp h2), fun h => by
      cases h with
      | cons h1 h2 => exact .cons h1 (dpAll_iff.mpr h2)⟩
theorem rD_tup {K : PySem.W.Frag} {ds : List PyData} {B : Hp} {v : V} : (rD K (.tuple ds)).p B v ↔ (rTup K (ds.map (rD K))).p B v :=
  ⟨fun h => by
    cases (show Dp K B v (.tuple ds) from h) with
    | tup hs ha => exact ⟨_, _, rfl, hs, dpAll_iff.mp ha⟩, fun ⟨a, xs, e, hs, ha⟩ => by
    subst e
    exact Dp.tup hs (dpAll_iff.mpr ha)⟩
theorem rD_lst {K : PySem.W.Frag} {ds : List PyData} {B : Hp} {v : V} : (rD K (.list ds)).p B v ↔ (rLst K (ds.map (rD K))).p B v :=
  ⟨fun h => by
    cases (show Dp K B v (.list ds) from h) with
    | lst hs ha => exact ⟨_, _, rfl, hs, dpAll_iff.mp ha⟩, fun ⟨a, xs, e, hs, ha⟩ => by
    subst e
    exact Dp.lst hs (dpAll_iff.mpr ha)⟩
theorem rD_int {K : PySem.W.Frag} {i : Int} {B : Hp} {v : V} : (rD K (.int i)).p B v ↔ v = .int i :=
  ⟨fun h => by cases (show Dp K B v (.int i) from h); rfl, fun e => by subst e; exact Dp.int i⟩
theorem rD_bl {K : PySem.W.Frag} {b : Bool} {B : Hp} {v : V} : (rD K (.bool b)).p B v ↔ v = .bl b :=
  ⟨fun h => by cases (show Dp K B v (.bool b) from h); rfl, fun e => by subst e; exact Dp.bl b⟩
theorem rD_non {K : PySem.W.Frag} {B : Hp} {v : V} : (rD K .none).p B v ↔ v = .non :=
  ⟨fun h => by cases (show Dp K B v .none from h); rfl, fun e => by subst e; exact Dp.non⟩
theorem All2.len {Rs : List Rep} {B : Hp} {xs : List V} (h : All2 Rs B xs) : Rs.length = xs.length := Paired.length h
theorem paired_get {α β : Type} {F : α → β → Prop} : ∀ {l : List α} {r : List β} {i : Nat} {a : α}, Paired F l r → l[i]? = some a → ∃ b, r[i]? = some b ∧ F a b
  | _, _, _, _, .nil, h => by simp at h
  | _, _, 0, a, .cons r t, h => by
    simp at h
    subst h
    exact ⟨_, rfl, r⟩
  | _, _, i + 1, a, .cons r t, h => by
    obtain ⟨b, h1, h2⟩ := paired_get (i := i) (a := a) t (by simpa using h)
    exact ⟨b, by simpa using h1, h2⟩
theorem paired_get' {α β : Type} {F : α → β → Prop} : ∀ {l : List α} {r : List β} {i : Nat} {b : β}, Paired F l r → r[i]? = some b → ∃ a, l[i]? = some a ∧ F a b
  | _, _, _, _, .nil, h => by simp at h
  | _, _, 0, a, .cons r t, h => by
    simp at h
    subst h
    exact ⟨_, rfl, r⟩
  | _, _, i + 1, a, .cons r t, h => by
    obtain ⟨b, h1, h2⟩ := paired_get' (i := i) (b := a) t (by simpa using h)
    exact ⟨b, by simpa using h1, h2⟩
theorem All2.get {Rs : List Rep} {B : Hp} {xs : List V} {i : Nat} {R : Rep} (h : All2 Rs B xs) (e : Rs[i]? = some R) : ∃ x, xs[i]? = some x ∧ R.p B x := paired_get (F := fun (R : Rep) x => R.p B x) h e
theorem All2.get' {Rs : List Rep} {B : Hp} {xs : List V} {i : Nat} {x : V} (h : All2 Rs B xs) (e : xs[i]? = some x) : ∃ R, Rs[i]? = some R ∧ R.p B x := paired_get' (F := fun (R : Rep) x => R.p B x) h e
theorem paired_append {α β : Type} {F : α → β → Prop} : ∀ {l l' : List α} {r r' : List β}, Paired F l r → Paired F l' r' → Paired F (l ++ l') (r ++ r')
  | _, _, _, _, .nil, t => t
  | _, _, _, _, .cons a b, t => .cons a (paired_append b t)
theorem All2.app {Rs Ss : List Rep} {B : Hp} {xs ys : List V} (h : All2 Rs B xs) (k : All2 Ss B ys) : All2 (Rs ++ Ss) B (xs ++ ys) := paired_append h k
theorem All2.snoc {Rs : List Rep} {R : Rep} {B : Hp} {xs : List V} {y : V} (h : All2 Rs B xs) (k : R.p B y) : All2 (Rs ++ [R]) B (xs ++ [y]) := h.app (.cons k .nil)
theorem paired_rev {α β : Type} {F : α → β → Prop} : ∀ {l : List α} {r : List β}, Paired F l r → Paired F l.reverse r.reverse
  | _, _, .nil => .nil
  | _, _, .cons a b => by
    rw [List.reverse_cons, List.reverse_cons]
    exact paired_append (paired_rev b) (.cons a .nil)

/-! ### a thing of one's own that may change: what is true of it, the base growing -/
structure Own where
  p : Hp → HO → Prop
  mono : ∀ (B B' : Hp) (o : HO), Same B B' → p B o → p B' o
def oL (Rs : List Rep) : Own := ⟨fun B o => ∃ xs, o = .lst xs ∧ All2 Rs B xs, fun _ _ _ e ⟨xs, h1, h2⟩ => ⟨xs, h1, h2.mono e⟩⟩
/-- this very value -/
def rV (v : V) : Rep := ⟨fun _ u => u = v, fun _ _ _ _ h => h⟩
/-- the slots, what is one's own -/
structure Ctx where
  r : List (Option Rep)
  o : List (Addr × Own) := []
abbrev Ctx.set (Γ : Ctx) (i : Nat) (R : Rep) : Ctx := { Γ with r := Γ.r.set i (some R) }
abbrev Ctx.add (Γ : Ctx) (a : Addr) (W : Own) : Ctx := { Γ with o := (a, W) :: Γ.o }
structure SEnv (r : List (Option Rep)) (B : Hp) (σ : L2.St) : Prop where
  len : σ.length = r.length
  at_ : ∀ (i : Nat) (R : Rep), r[i]? = some (some R) → ∃ v, σ[i]? = some (some v) ∧ R.p B v
structure At (Γ : Ctx) (B H : Hp) (σ : L2.St) : Prop where
  c : Same B H
  e : SEnv Γ.r B σ
  nd : (Γ.o.map (·.1)).Nodup
  o : ∀ p ∈ Γ.o, B p.1 = none ∧ ∃ ho, H p.1 = some ho ∧ p.2.p B ho
theorem SEnv.mono {r : List (Option Rep)} {B B' : Hp} {σ : L2.St} (h : SEnv r B σ) (s : Same B B') : SEnv r B' σ := ⟨h.len, fun i R e => by
  obtain ⟨v, h1, h2⟩ := h.at_ i R e
  exact ⟨v, h1, R.mono _ _ _ s h2⟩⟩
theorem SEnv.set {r : List (Option Rep)} {B : Hp} {σ : L2.St} (h : SEnv r B σ) (i : Nat) {R : Rep} {v : V} (q : R.p B v) : SEnv (r.set i (some R)) B (σ.set i (some v)) := ⟨by rw [List.length_set, List.length_set]; exact h.len, fun j S e => by
  by_cases hj : i = j
  · subst hj
    by_cases hl : i < r.length
    · rw [List.getElem?_set_self hl] at e
      have e' : R = S := Option.some.inj (Option.some.inj e)
      subst e'
      exact ⟨v, List.getElem?_set_self (by rw [h.len]; exact hl), q⟩
    · rw [List.getElem?_eq_none (by rw [List.length_set]; omega)] at e
      cases e
  · rw [List.getElem?_set_ne hj] at e
    rw [List.getElem?_set_ne hj]
    exact h.at_ j S e⟩
def wipeR (r : List (Option Rep)) : List Nat → List (Option Rep)
  | [] => r
  | v :: vs => (wipeR r vs).set v none
theorem wipeR_len (r : List (Option Rep)) : ∀ vs : List Nat, (wipeR r vs).length = r.length
  | [] => rfl
  | v :: vs => by unfold wipeR; rw [List.length_set, wipeR_len r vs]
theorem SEnv.wipe {r : List (Option Rep)} {B : Hp} {σ : L2.St} (h : SEnv r B σ) : ∀ vs : List Nat, SEnv (wipeR r vs) B (L2.wipe σ vs)
  | [] => h
  | v :: vs => by
    have ih := SEnv.wipe h vs
    refine ⟨by rw [L2.wipe_length, wipeR_len]; exact h.len, fun j S e => ?_⟩
    unfold wipeR at e
    unfold L2.wipe
    by_cases hj : v = j
    · subst hj
      by_cases hl : v < (wipeR r vs).length
      · rw [List.getElem?_set_self hl] at e
        cases e
      · rw [List.getElem?_eq_none (by rw [List.length_set]; omega)] at e
        cases e
    · rw [List.getElem?_set_ne hj] at e
      rw [List.getElem?_set_ne hj]
      exact ih.at_ j S e
theorem wipe_get {σ : L2.St} {i : Nat} : ∀ {vs : List Nat}, (L2.wipe σ vs)[i]? = if i ∈ vs then (if i < σ.length then some none else none) else σ[i]?
  | [] => by simp [L2.wipe]
  | v :: vs => by
    unfold L2.wipe
    have ih := wipe_get (σ := σ) (i := i) (vs := vs)
    by_cases h : v = i
    · subst h
      rw [if_pos (List.mem_cons_self)]
      by_cases hl : v < σ.length
      · rw [List.getElem?_set_self (by rw [L2.wipe_length]; exact hl), if_pos hl]
      · rw [List.getElem?_eq_none (by rw [List.length_set, L2.wipe_length]; omega), if_neg hl]
    · rw [List.getElem?_set_ne h, ih]
      have : (i ∈ v :: vs) ↔ i ∈ vs := by simp [show ¬ i = v from fun e => h e.symm]
      simp [this]
theorem wipe_eq {σ τ : L2.St} {vs : List Nat} (hl : τ.length = σ.length) (h : ∀ i, i ∉ vs → τ[i]? = σ[i]?) : L2.wipe τ vs = L2.wipe σ vs := by
  apply List.ext_getElem?
  intro i
  rw [wipe_get, wipe_get, hl]
  by_cases hm : i ∈ vs
  · simp [hm]
  · simp [hm, h i hm]
theorem wipe_set {σ : L2.St} {vs : List Nat} {j : Nat} {x : Option V} (hj : j ∈ vs) : L2.wipe (σ.set j x) vs = L2.wipe σ vs :=
  wipe_eq (by rw [List.length_set]) fun i hi => List.getElem?_set_ne (fun e => hi (by rw [← e]; exact hj))
theorem wipe_wipe {σ : L2.St} {vs : List Nat} : L2.wipe (L2.wipe σ vs) vs = L2.wipe σ vs :=
  wipe_eq (L2.wipe_length σ vs) fun i hi => by rw [wipe_get]; simp [hi]
abbrev Ctx.wipe (Γ : Ctx) (vs : List Nat) : Ctx := { Γ with r := wipeR Γ.r vs }
section
variable {Γ : Ctx} {B H B' H' : Hp} {σ : L2.St}
theorem At.next (h : At Γ B H σ) (x : Nx B H B' H') : At Γ B' H' σ := ⟨x.c, h.e.mono x.b, h.nd, fun p hp => by
  obtain ⟨h1, ho, h2, h3⟩ := h.o p hp
  exact ⟨x.own h1 h2, ho, x.h _ _ h2, p.2.mono _ _ _ x.b h3⟩⟩
theorem At.set (h : At Γ B H σ) (i : Nat) {R : Rep} {v : V} (q : R.p B v) : At (Γ.set i R) B H (σ.set i (some v)) := ⟨h.c, h.e.set i q, h.nd, h.o⟩
theorem At.wipe (h : At Γ B H σ) (vs : List Nat) : At (Γ.wipe vs) B H (L2.wipe σ vs) := ⟨h.c, h.e.wipe vs, h.nd, h.o⟩
theorem At.nx (h : At Γ B H σ) : Nx B H B H := Nx.refl h.c
theorem At.own (h : At Γ B H σ) {a : Addr} {W : Own} (m : (a, W) ∈ Γ.o) : B a = none ∧ ∃ ho, H a = some ho ∧ W.p B ho := h.o (a, W) m
theorem At.add (h : At Γ B H σ) {a : Addr} {W : Own} {ho : HO} (hb : B a = none) (hh : H a = none) (hw : W.p B ho) : At (Γ.add a W) B (upd H a ho) σ :=
  ⟨fun b u e => by rw [upd_ne (ne_of_none e hb)]; exact h.c b u e, h.e, (by
    rw [List.map_cons]
    refine List.nodup_cons.mpr ⟨fun hm => ?_, h.nd⟩
    obtain ⟨p, hp, e⟩ := List.mem_map.mp hm
    obtain ⟨_, ho', h2, _⟩ := h.o p hp
    have e' : p.1 = a := e
    rw [e', hh] at h2
    cases h2), fun p hp => by
    rcases List.mem_cons.mp hp with e | hp
    · subst e
      exact ⟨hb, ho, upd_same, hw⟩
    · obtain ⟨h1, ho', h2, h3⟩ := h.o p hp
      exact ⟨h1, ho', by rw [upd_ne (ne_of_none h2 hh)]; exact h2, h3⟩⟩
/-- its own thing a, already there -/
theorem At.add' (h : At Γ B H σ) {a : Addr} {W : Own} {ho : HO} (hb : B a = none) (hh : H a = some ho) (hn : a ∉ Γ.o.map (·.1)) (hw : W.p B ho) : At (Γ.add a W) B H σ :=
  ⟨h.c, h.e, by
    rw [List.map_cons]
    exact List.nodup_cons.mpr ⟨hn, h.nd⟩, fun p hp => by
    rcases List.mem_cons.mp hp with e | hp
    · subst e
      exact ⟨hb, ho, hh, hw⟩
    · exact h.o p hp⟩
end
theorem set_mem {α : Type} : ∀ {l : List α} {k : Nat} {x p : α}, p ∈ l.set k x → p = x ∨ ∃ j, j ≠ k ∧ l[j]? = some p := fun {l k x p} h => by
  obtain ⟨j, hj⟩ := List.mem_iff_getElem?.mp h
  by_cases e : k = j
  · subst e
    by_cases hl : k < l.length
    · rw [List.getElem?_set_self hl] at hj
      exact .inl (Option.some.inj hj).symm
    · rw [List.getElem?_eq_none (by rw [List.length_set]; omega)] at hj
      cases hj
  · rw [List.getElem?_set_ne e] at hj
    exact .inr ⟨j, fun q => e q.symm, hj⟩
/-- its k-th own thing changes -/
theorem At.mut {Γ : Ctx} {B H : Hp} {σ : L2.St} (h : At Γ B H σ) {k : Nat} {a : Addr} {W W' : Own} {ho : HO} (hk : Γ.o[k]? = some (a, W)) (hw : W'.p B ho) : At { Γ with o := Γ.o.set k (a, W') } B (upd H a ho) σ := by
  have hb : B a = none := (h.o (a, W) (List.mem_of_getElem? hk)).1
  have hm : ((Γ.o.set k (a, W')).map (·.1)) = Γ.o.map (·.1) := by
    rw [List.map_set]
    apply List.ext_getElem?
    intro i
    by_cases e : k = i
    · subst e
      have hl : k < (Γ.o.map (·.1)).length := by rw [List.length_map]; exact (List.getElem?_eq_some_iff.mp hk).1
      rw [List.getElem?_set_self hl, List.getElem?_map, hk] <;> rfl
    · rw [List.getElem?_set_ne e]
  refine ⟨fun b u e => by rw [upd_ne (ne_of_none e hb)]; exact h.c b u e, h.e, by rw [hm]; exact h.nd, fun p hp => ?_⟩
  rcases set_mem hp with e | ⟨j, hj, e⟩
  · subst e
    exact ⟨hb, ho, upd_same, hw⟩
  · obtain ⟨h1, ho', h2, h3⟩ := h.o p (List.mem_of_getElem? e)
    refine ⟨h1, ho', ?_, h3⟩
    rw [upd_ne]
    · exact h2
    · intro q
      have e1 : (Γ.o.map (·.1))[j]? = some a := by rw [List.getElem?_map, e, ← q] <;> rfl
      have e2 : (Γ.o.map (·.1))[k]? = some a := by rw [List.getElem?_map, hk] <;> rfl
      exact hj (nd_ix h.nd e1 e2)

/-! ### what evaluates to what -/
def Ev (Γ : Ctx) (te : TE) (R : Rep) : Prop := ∀ σ B H, At Γ B H σ → ∀ Q : VK, (∀ v B' H', Nx B H B' H' → R.p B' v → Q v H') → te σ H Q
def EvT (Γ : Ctx) (t : TT) (b : Bool) : Prop := ∀ σ B H, At Γ B H σ → ∀ Q : Bool → Hp → Prop, (∀ B' H', Nx B H B' H' → Q b H') → t σ H Q
def EvA (Γ : Ctx) (ta : TA) (Rs : List Rep) : Prop := ∀ σ B H, At Γ B H σ → ∀ Q : List V → Hp → Prop, (∀ vs B' H', Nx B H B' H' → All2 Rs B' vs → Q vs H') → ta σ H Q
/-- a new thing of one's own -/
def EvO (Γ : Ctx) (te : TE) (W : Own) : Prop := ∀ σ B H, At Γ B H σ → ∀ Q : VK, (∀ a ho B' H', Nx B H B' H' → H a = none → B' a = none → H' a = some ho → W.p B' ho → Q (.ref a) H') → te σ H Q
/-- a promise's end: something with R, all that stood stands -/
def Ret (B H : Hp) (R : Rep) (Q : VK) : Prop := ∀ v B' H', Nx B H B' H' → R.p B' v → Q v H'
theorem Ret.at {B H B' H' : Hp} {R : Rep} {Q : VK} (q : Ret B H R Q) (x : Nx B H B' H') : Ret B' H' R Q := fun v B2 H2 y r => q v B2 H2 (x.trans y) r
/-- a rule by values (r of an operation, a call): from values with R, S to a value with T -/
def RV2 (r : R2) (R S T : Rep) : Prop := ∀ x y B H, Same B H → R.p B x → S.p B y → ∀ Q : VK, Ret B H T Q → r x y H Q
def RV1 (r : V → Hp → VK → Prop) (R T : Rep) : Prop := ∀ x B H, Same B H → R.p B x → ∀ Q : VK, Ret B H T Q → r x H Q
def RVs (r : List V → Hp → VK → Prop) (Rs : List Rep) (T : Rep) : Prop := ∀ vs B H, Same B H → All2 Rs B vs → ∀ Q : VK, Ret B H T Q → r vs H Q
def RSp (sp : Sp) (Rs : List Rep) (T : Rep) : Prop := ∀ vs B H, Same B H → All2 Rs B vs → ∀ (Q : VK) (E : XK), Ret B H T Q → sp vs H Q E
section
variable {K : PySem.W.Frag} {Γ : Ctx} {ta tb tc te : TE} {t u : TT} {R S T : Rep} {Rs : List Rep} {tl : TA}
theorem Ev.imp (h : Ev Γ te R) (i : ∀ B v, R.p B v → S.p B v) : Ev Γ te S := fun σ B H x Q q => h σ B H x Q fun v B2 H2 y r => q v B2 H2 y (i B2 v r)
theorem Ev.eq (h : Ev Γ te R) (e : R = S) : Ev Γ te S := e ▸ h
theorem EvT.eq {a b : Bool} (h : EvT Γ t a) (e : a = b) : EvT Γ t b := e ▸ h
theorem ev_var {i : Nat} (h : Γ.r[i]? = some (some R)) : Ev Γ (tVar i) R := fun σ B H x Q q => by
  obtain ⟨v, h1, h2⟩ := x.e.at_ i R h
  exact ⟨v, h1, q v B H x.nx h2⟩
theorem ev_int {i : Int} : Ev Γ (tC (.int i)) (rD K (.int i)) := fun σ B H x Q q => q _ B H x.nx (rD_int.mpr rfl)
theorem ev_bl {b : Bool} : Ev Γ (tC (.bl b)) (rD K (.bool b)) := fun σ B H x Q q => q _ B H x.nx (rD_bl.mpr rfl)
theorem ev_non : Ev Γ (tC .non) (rD K .none) := fun σ B H x Q q => q _ B H x.nx (rD_non.mpr rfl)
theorem ev_c {v : V} : Ev Γ (tC v) (rV v) := fun σ B H x Q q => q _ B H x.nx rfl
theorem ev_op {r : R2} (hr : RV2 r R S T) (ha : Ev Γ ta R) (hb : Ev Γ tb S) : Ev Γ (tOp r ta tb) T := fun σ B H x Q q =>
  ha σ B H x _ fun v B2 H2 y rv => hb σ B2 H2 (x.next y) _ fun u B3 H3 z ru => hr v u B3 H3 z.c (R.mono _ _ _ z.b rv) ru Q fun w B4 H4 k rw => q w B4 H4 ((y.trans z).trans k) rw
theorem ev_un {r : V → Hp → VK → Prop} (hr : RV1 r R T) (ha : Ev Γ ta R) : Ev Γ (tUn r ta) T := fun σ B H x Q q =>
  ha σ B H x _ fun v B2 H2 y rv => hr v B2 H2 y.c rv Q fun w B4 H4 k rw => q w B4 H4 (y.trans k) rw
theorem rv_I0 {g : Int → Int → Int} {i j : Int} : RV2 (rI0 fun i j => .int (g i j)) (rD K (.int i)) (rD K (.int j)) (rD K (.int (g i j))) := fun x y B H c rx ry Q q => ⟨i, j, rD_int.mp rx, rD_int.mp ry, q _ B H (Nx.refl c) (rD_int.mpr rfl)⟩
theorem rv_I0b {g : Int → Int → Bool} {i j : Int} : RV2 (rI0 fun i j => .bl (g i j)) (rD K (.int i)) (rD K (.int j)) (rD K (.bool (g i j))) := fun x y B H c rx ry Q q => ⟨i, j, rD_int.mp rx, rD_int.mp ry, q _ B H (Nx.refl c) (rD_bl.mpr rfl)⟩
theorem rv_I {C : Int → Int → Prop} {g : Int → Int → Int} {i j : Int} (hc : C i j) : RV2 (rI C fun i j => .int (g i j)) (rD K (.int i)) (rD K (.int j)) (rD K (.int (g i j))) := fun x y B H c rx ry Q q => ⟨i, j, rD_int.mp rx, rD_int.mp ry, hc, q _ B H (Nx.refl c) (rD_int.mpr rfl)⟩
theorem rv_neg {i : Int} : RV1 (rU fun i => .int (-i)) (rD K (.int i)) (rD K (.int (-i))) := fun x B H c rx Q q => ⟨i, rD_int.mp rx, q _ B H (Nx.refl c) (rD_int.mpr rfl)⟩
theorem dec_i {i j : Int} : decide (V.int i = V.int j) = decide (i = j) := decide_eq_decide.mpr ⟨fun e => V.int.inj e, fun e => by rw [e]⟩
theorem dec_b {i j : Bool} : decide (V.bl i = V.bl j) = decide (i = j) := decide_eq_decide.mpr ⟨fun e => V.bl.inj e, fun e => by rw [e]⟩
theorem rv_eqI {i j : Int} : RV2 rEq (rD K (.int i)) (rD K (.int j)) (rD K (.bool (decide (i = j)))) := fun x y B H c rx ry Q q => by
  cases rD_int.mp rx
  cases rD_int.mp ry
  exact ⟨rfl, q _ B H (Nx.refl c) (rD_bl.mpr (by rw [dec_i]))⟩
theorem rv_neI {i j : Int} : RV2 rNe (rD K (.int i)) (rD K (.int j)) (rD K (.bool (!decide (i = j)))) := fun x y B H c rx ry Q q => by
  cases rD_int.mp rx
  cases rD_int.mp ry
  exact ⟨rfl, q _ B H (Nx.refl c) (rD_bl.mpr (by rw [dec_i]))⟩
theorem rv_eqB {i j : Bool} : RV2 rEq (rD K (.bool i)) (rD K (.bool j)) (rD K (.bool (decide (i = j)))) := fun x y B H c rx ry Q q => by
  cases rD_bl.mp rx
  cases rD_bl.mp ry
  exact ⟨rfl, q _ B H (Nx.refl c) (rD_bl.mpr (by rw [dec_b]))⟩
theorem rv_neB {i j : Bool} : RV2 rNe (rD K (.bool i)) (rD K (.bool j)) (rD K (.bool (!decide (i = j)))) := fun x y B H c rx ry Q q => by
  cases rD_bl.mp rx
  cases rD_bl.mp ry
  exact ⟨rfl, q _ B H (Nx.refl c) (rD_bl.mpr (by rw [dec_b]))⟩
theorem rv_eqD {d e : PyData} (hd : SeqAt.shaped d = true) (he : SeqAt.shaped e = true) : RV2 (rEqD K) (rD K d) (rD K e) (rD K (.bool (PyData.eqv d e))) := fun x y B H c rx ry Q q =>
  ⟨d, e, dp_mono c _ _ rx, dp_mono c _ _ ry, hd, he, q _ B H (Nx.refl c) (rD_bl.mpr rfl)⟩
theorem rv_neD {d e : PyData} (hd : SeqAt.shaped d = true) (he : SeqAt.shaped e = true) : RV2 (rNeD K) (rD K d) (rD K e) (rD K (.bool (!PyData.eqv d e))) := fun x y B H c rx ry Q q =>
  ⟨d, e, dp_mono c _ _ rx, dp_mono c _ _ ry, hd, he, q _ B H (Nx.refl c) (rD_bl.mpr rfl)⟩
/-- x[i], the place of i being j -/
theorem rv_ixT {ds : List Rep} {i : Int} {j : Nat} (hj : ixN ds.length i = some j) (hd : ds[j]? = some R) : RV2 (rIxT K) (rTup K ds) (rD K (.int i)) R := fun x y B H c rx ry Q q => by
  obtain ⟨a, xs, rfl, hs, h2⟩ := rx
  obtain ⟨v, e1, e2⟩ := h2.get hd
  exact ⟨a, xs, i, v, rfl, rD_int.mp ry, Evl.ex_t c hs, by unfold atI; rw [← h2.len, hj]; exact e1, q _ B H (Nx.refl c) e2⟩
theorem rv_ixL {ds : List Rep} {i : Int} {j : Nat} (hj : ixN ds.length i = some j) (hd : ds[j]? = some R) : RV2 (rIxL K) (rLst K ds) (rD K (.int i)) R := fun x y B H c rx ry Q q => by
  obtain ⟨a, xs, rfl, hs, h2⟩ := rx
  obtain ⟨v, e1, e2⟩ := h2.get hd
  exact ⟨a, xs, i, v, rfl, rD_int.mp ry, c.seq hs, by unfold atI; rw [← h2.len, hj]; exact e1, q _ B H (Nx.refl c) e2⟩
theorem rv_ixS {ds : List Rep} {i : Int} {j : Nat} (hj : ixN ds.length i = some j) (hd : ds[j]? = some R) : RV2 (rIx K) (rSeq K ds) (rD K (.int i)) R := fun x y B H c rx ry Q q =>
  rx.elim (fun rx => .inl (rv_ixL hj hd x y B H c rx ry Q q)) fun rx => .inr (.inl (rv_ixT hj hd x y B H c rx ry Q q))
/-! ### tests -/
theorem et_cmp {b : Bool} (h : Ev Γ te (rD K (.bool b))) : EvT Γ (tTest te) b := fun σ B H x Q q => h σ B H x _ fun v B2 H2 y r => ⟨b, rD_bl.mp r, q B2 H2 y⟩
theorem et_B {b : Bool} (h : Ev Γ te (rD K (.bool b))) : EvT Γ (tB te) b := fun σ B H x Q q => h σ B H x _ fun v B2 H2 y r => ⟨b, rD_bl.mp r, q B2 H2 y⟩
theorem et_not {b : Bool} (h : EvT Γ t b) : EvT Γ (tNot t) (!b) := fun σ B H x Q q => h σ B H x _ fun B2 H2 y => q B2 H2 y
theorem et_and {a b : Bool} (h : EvT Γ t a) (k : a = true → EvT Γ u b) : EvT Γ (tAnd t u) (a && b) := fun σ B H x Q q => h σ B H x _ fun B2 H2 y => by
  cases a with
  | true => exact k rfl σ B2 H2 (x.next y) Q fun B3 H3 z => q B3 H3 (y.trans z)
  | false => exact q B2 H2 y
theorem et_or {a b : Bool} (h : EvT Γ t a) (k : a = false → EvT Γ u b) : EvT Γ (tOr t u) (a || b) := fun σ B H x Q q => h σ B H x _ fun B2 H2 y => by
  cases a with
  | true => exact q B2 H2 y
  | false => exact k rfl σ B2 H2 (x.next y) Q fun B3 H3 z => q B3 H3 (y.trans z)
theorem et_yes : EvT Γ tYes true := fun σ B H x Q q => q B H x.nx
theorem ev_andV {a b : Bool} (h : Ev Γ ta (rD K (.bool a))) (k : a = true → Ev Γ tb (rD K (.bool b))) : Ev Γ (tAndV ta tb) (rD K (.bool (a && b))) := fun σ B H x Q q => h σ B H x _ fun v B2 H2 y r => ⟨a, rD_bl.mp r, by
  cases a with
  | true => exact k rfl σ B2 H2 (x.next y) Q fun v B3 H3 z => q v B3 H3 (y.trans z)
  | false => exact q _ B2 H2 y (rD_bl.mpr rfl)⟩
theorem ev_orV {a b : Bool} (h : Ev Γ ta (rD K (.bool a))) (k : a = false → Ev Γ tb (rD K (.bool b))) : Ev Γ (tOrV ta tb) (rD K (.bool (a || b))) := fun σ B H x Q q => h σ B H x _ fun v B2 H2 y r => ⟨a, rD_bl.mp r, by
  cases a with
  | true => exact q _ B2 H2 y (rD_bl.mpr rfl)
  | false => exact k rfl σ B2 H2 (x.next y) Q fun v B3 H3 z => q v B3 H3 (y.trans z)⟩
theorem ev_notV {a : Bool} (h : Ev Γ ta (rD K (.bool a))) : Ev Γ (tNotV ta) (rD K (.bool (!a))) := fun σ B H x Q q => h σ B H x _ fun v B2 H2 y r => ⟨a, rD_bl.mp r, q _ B2 H2 y (rD_bl.mpr rfl)⟩
theorem ev_if {b : Bool} (h : EvT Γ t b) (h1 : b = true → Ev Γ ta R) (h2 : b = false → Ev Γ tb R) : Ev Γ (tIf t ta tb) R := fun σ B H x Q q => h σ B H x _ fun B2 H2 y => by
  cases b with
  | true => exact h1 rfl σ B2 H2 (x.next y) Q fun v B3 H3 z => q v B3 H3 (y.trans z)
  | false => exact h2 rfl σ B2 H2 (x.next y) Q fun v B3 H3 z => q v B3 H3 (y.trans z)
/-- is None, of something that is told -/
theorem ev_isN {b : Bool} (hb : ∀ B v, R.p B v → decide (v = .non) = b) (h : Ev Γ te R) : Ev Γ (tIsN te) (rD K (.bool b)) := fun σ B H x Q q => h σ B H x _ fun v B2 H2 y r => q _ B2 H2 y (rD_bl.mpr (by rw [hb B2 v r]))
theorem ev_notN {b : Bool} (hb : ∀ B v, R.p B v → decide (v = .non) = b) (h : Ev Γ te R) : Ev Γ (tNotN te) (rD K (.bool (!b))) := fun σ B H x Q q => h σ B H x _ fun v B2 H2 y r => q _ B2 H2 y (rD_bl.mpr (by rw [hb B2 v r]))
theorem ev_chain {r r' : R2} {a b : Bool} (ha : Ev Γ ta R) (hb : Ev Γ tb S) (hr : RV2 r R S (rD K (.bool a))) (hc : a = true → Ev Γ tc T) (hr' : RV2 r' S T (rD K (.bool b))) : Ev Γ (tChain r r' ta tb tc) (rD K (.bool (a && b))) := fun σ B H x Q q =>
  ha σ B H x _ fun v B2 H2 y rv => hb σ B2 H2 (x.next y) _ fun u B3 H3 z ru => hr v u B3 H3 z.c (R.mono _ _ _ z.b rv) ru _ fun w B4 H4 k rw => ⟨a, rD_bl.mp rw, by
    cases a with
    | true => exact hc rfl σ B4 H4 (((x.next y).next z).next k) _ fun w' B5 H5 k2 rw' => hr' u w' B5 H5 k2.c (S.mono _ _ _ (k.trans k2).b ru) rw' Q fun w2 B6 H6 k3 rw2 => q w2 B6 H6 ((((y.trans z).trans k).trans k2).trans k3) rw2
    | false => exact q _ B4 H4 ((y.trans z).trans k) (rD_bl.mpr rfl)⟩
/-! ### argument lists, displays, calls -/
theorem ea_nil : EvA Γ tNil [] := fun σ B H x Q q => q [] B H x.nx .nil
theorem ea_cons (h : Ev Γ te R) (k : EvA Γ tl Rs) : EvA Γ (tCons te tl) (R :: Rs) := fun σ B H x Q q =>
  h σ B H x _ fun v B2 H2 y r => k σ B2 H2 (x.next y) _ fun vs B3 H3 z rs => q (v :: vs) B3 H3 (y.trans z) (.cons (R.mono _ _ _ z.b r) rs)
theorem ev_tup (h : EvA Γ tl Rs) (hl : Rs.length ≤ 100000) : Ev Γ (tTup tl) (rTup K Rs) := fun σ B H x Q q =>
  h σ B H x _ fun vs B2 H2 y rs => ⟨by rw [← rs.len]; exact Evl.sz_of hl, fun p hp => q _ (upd B2 p (.tup vs)) _ (y.trans (Nx.new y.c hp)) ⟨p, vs, rfl, .of upd_same, rs.mono (same_new (none_sub y.c hp))⟩⟩
theorem eo_lst (h : EvA Γ tl Rs) (hl : Rs.length ≤ 100000) : EvO Γ (tLst tl) (oL Rs) := fun σ B H x Q q =>
  h σ B H x _ fun vs B2 H2 y rs => ⟨by rw [← rs.len]; exact Evl.sz_of hl, fun p hp => q p _ B2 _ (y.trans (Nx.newM y.c hp)) (y.h.free hp) (none_sub y.c hp) upd_same ⟨vs, rfl, rs⟩⟩
/-- one's own thing, given out for good -/
theorem ev_seal {W : Own} (h : EvO Γ te W) (hw : ∀ B a ho, B a = some ho → W.p B ho → R.p B (.ref a)) : Ev Γ te R := fun σ B H x Q q =>
  h σ B H x _ fun a ho B2 H2 y h0 hb hh w => q _ (upd B2 a ho) H2 (y.seal h0 hb hh) (hw _ _ _ upd_same (W.mono _ _ _ (same_new hb) w))
theorem seal_lst {B : Hp} {a : Addr} {ho : HO} (h : B a = some ho) (w : (oL Rs).p B ho) : (rLst K Rs).p B (.ref a) := by
  obtain ⟨xs, rfl, h2⟩ := w
  exact ⟨a, xs, rfl, .of h, h2⟩
theorem ev_lst (h : EvA Γ tl Rs) (hl : Rs.length ≤ 100000) : Ev Γ (tLst tl) (rLst K Rs) := ev_seal (eo_lst h hl) fun _ _ _ h w => seal_lst h w
/-- a call of one's own def by its promise, of a built-in -/
theorem ev_call {sp : Sp} {dvs : List V} {E : XK} (hd : dvs = []) (hs : RSp sp Rs R) (h : EvA Γ tl Rs) : Ev Γ (tCall sp dvs E tl) R := fun σ B H x Q q =>
  h σ B H x _ fun vs B2 H2 y rs => by
    subst hd
    show sp (vs ++ []) H2 Q E
    rw [List.append_nil]
    exact hs vs B2 H2 y.c rs Q E fun v B3 H3 z r => q v B3 H3 (y.trans z) r
theorem ev_cb {r : List V → Hp → VK → Prop} (hs : RVs r Rs R) (h : EvA Γ tl Rs) : Ev Γ (tCB r tl) R := fun σ B H x Q q =>
  h σ B H x _ fun vs B2 H2 y rs => hs vs B2 H2 y.c rs Q fun v B3 H3 z r => q v B3 H3 (y.trans z) r
end
theorem all2_1 {R : Rep} {B : Hp} {vs : List V} (h : All2 [R] B vs) : ∃ x, vs = [x] ∧ R.p B x := by
  cases h with
  | cons h t => cases t; exact ⟨_, rfl, h⟩
theorem all2_2 {R S : Rep} {B : Hp} {vs : List V} (h : All2 [R, S] B vs) : ∃ x y, vs = [x, y] ∧ R.p B x ∧ S.p B y := by
  cases h with
  | cons h t =>
    cases t with
    | cons h2 t => cases t; exact ⟨_, _, rfl, h, h2⟩
theorem all2_3 {R S T : Rep} {B : Hp} {vs : List V} (h : All2 [R, S, T] B vs) : ∃ x y z, vs = [x, y, z] ∧ R.p B x ∧ S.p B y ∧ T.p B z := by
  cases h with
  | cons h t =>
    obtain ⟨y, z, e, h2, h3⟩ := all2_2 t
    exact ⟨_, y, z, by rw [e], h, h2, h3⟩
theorem all2_4 {R S T U : Rep} {B : Hp} {vs : List V} (h : All2 [R, S, T, U] B vs) : ∃ x y z w, vs = [x, y, z, w] ∧ R.p B x ∧ S.p B y ∧ T.p B z ∧ U.p B w := by
  cases h with
  | cons h t =>
    obtain ⟨y, z, w, e, h2, h3, h4⟩ := all2_3 t
    exact ⟨_, y, z, w, by rw [e], h, h2, h3, h4⟩

/-! ### statements: from the states that Γ tells (the entry: B0, H0) to a wish -/
def Reach (B0 H0 : Hp) (Γ : Ctx) : L2.St → Hp → Prop := fun σ H => ∃ B, Nx B0 H0 B H ∧ At Γ B H σ
def Gx (B0 H0 : Hp) (Γ : Ctx) (N : L2.St → Hp → Prop) : Prop := ∀ σ H, Reach B0 H0 Γ σ H → N σ H
section
variable {K : PySem.W.Frag} {B0 H0 : Hp} {Γ : Ctx} {te : TE} {t : TT} {R S : Rep} {D : Ends} {t1 t2 u : TS} {g : TG}
theorem gx_seq (h : Gx B0 H0 Γ (t1 { D with nx := u D })) : Gx B0 H0 Γ (tSeq t1 u D) := h
theorem gx_set {i : Nat} (h : Ev Γ te R) (k : Gx B0 H0 (Γ.set i R) D.nx) : Gx B0 H0 Γ (tAsg te (gName i) D) := fun σ H ⟨B, x, a⟩ =>
  h σ B H a _ fun v B2 H2 y r => k _ H2 ⟨B2, x.trans y, (a.next y).set i r⟩
theorem gx_ret (h : Ev Γ te R) (k : Ret B0 H0 R D.rt) : Gx B0 H0 Γ (tRet te D) := fun σ H ⟨B, x, a⟩ =>
  h σ B H a _ fun v B2 H2 y r => k v B2 H2 (x.trans y) r
theorem gx_drop (h : Ev Γ te R) (k : Gx B0 H0 Γ D.nx) : Gx B0 H0 Γ (tDrop te D) := fun σ H ⟨B, x, a⟩ =>
  h σ B H a _ fun v B2 H2 y r => k σ H2 ⟨B2, x.trans y, a.next y⟩
theorem gx_if {b : Bool} (h : EvT Γ t b) (h1 : b = true → Gx B0 H0 Γ (t1 D)) (h2 : b = false → Gx B0 H0 Γ (t2 D)) : Gx B0 H0 Γ (tIfS t t1 t2 D) := fun σ H ⟨B, x, a⟩ =>
  h σ B H a _ fun B2 H2 y => by
    cases b with
    | true => exact h1 rfl σ H2 ⟨B2, x.trans y, a.next y⟩
    | false => exact h2 rfl σ H2 ⟨B2, x.trans y, a.next y⟩
theorem gx_next (k : Gx B0 H0 Γ D.nx) : Gx B0 H0 Γ (tNext D) := k
/-- x = [] and its like: a thing of one's own -/
theorem gx_own {i : Nat} {W : Own} (h : EvO Γ te W) (k : ∀ a, H0 a = none → Gx B0 H0 ((Γ.add a W).set i (rV (.ref a))) D.nx) : Gx B0 H0 Γ (tAsg te (gName i) D) := fun σ H ⟨B, x, a⟩ =>
  h σ B H a _ fun p ho B2 H2 y h0 hb hh w => by
    have a2 := a.next y
    have hn : p ∉ Γ.o.map (·.1) := fun hm => by
      obtain ⟨q, hq, e⟩ := List.mem_map.mp hm
      obtain ⟨_, ho', h2, _⟩ := a.o q hq
      have e' : q.1 = p := e
      rw [e', h0] at h2
      cases h2
    exact k p (x.h.free h0) _ H2 ⟨B2, x.trans y, (a2.add' hb hh hn w).set i (R := rV (.ref p)) rfl⟩
/-- its k-th own thing is given out for good -/
theorem gx_seal {k : Nat} {a : Addr} {W : Own} {i : Nat} {N : L2.St → Hp → Prop} (hk : Γ.o[k]? = some (a, W)) (h0 : H0 a = none) (hi : Γ.r[i]? = some (some (rV (.ref a)))) (hw : ∀ B ho, B a = some ho → W.p B ho → R.p B (.ref a))
    (n : Gx B0 H0 { r := Γ.r.set i (some R), o := Γ.o.eraseIdx k } N) : Gx B0 H0 Γ N := fun σ H ⟨B, x, t⟩ => by
  obtain ⟨hb, ho, hh, w⟩ := t.o (a, W) (List.mem_of_getElem? hk)
  refine n σ H ⟨upd B a ho, x.seal h0 hb hh, ?_⟩
  have sm : Same B (upd B a ho) := same_new hb
  have x2 : Same (upd B a ho) H := fun b u e => by
    by_cases q : b = a
    · subst q
      rw [upd_same] at e
      rw [hh]
      exact e
    · rw [upd_ne q] at e
      exact t.c b u e
  obtain ⟨v, e1, e2⟩ := t.e.at_ i _ hi
  have e3 : v = .ref a := e2
  subst e3
  have es := (t.e.mono sm).set i (R := R) (v := .ref a) (hw _ _ upd_same (W.mono _ _ _ sm w))
  have hset : σ.set i (some (V.ref a)) = σ := by
    apply List.ext_getElem?
    intro j
    by_cases q : i = j
    · subst q
      rw [List.getElem?_set_self (List.getElem?_eq_some_iff.mp e1).1, e1]
    · rw [List.getElem?_set_ne q]
  rw [hset] at es
  have hsub : (Γ.o.eraseIdx k).Sublist Γ.o := List.eraseIdx_sublist ..
  refine ⟨x2, es, (hsub.map (·.1)).nodup t.nd, fun p hp => ?_⟩
  obtain ⟨h1, ho', h2, h3⟩ := t.o p (hsub.subset hp)
  refine ⟨?_, ho', h2, p.2.mono _ _ _ sm h3⟩
  rw [upd_ne]
  · exact h1
  · intro q
    -- p is another one than the k-th
    obtain ⟨j, hj⟩ := List.mem_iff_getElem?.mp hp
    rw [List.getElem?_eraseIdx] at hj
    have key : ∀ m : Nat, Γ.o[m]? = some p → m = k := fun m hm => nd_ix t.nd (x := a) (by rw [List.getElem?_map, hm, ← q]; rfl) (by rw [List.getElem?_map, hk]; rfl)
    by_cases hl : j < k
    · rw [if_pos hl] at hj
      have := key j hj
      omega
    · rw [if_neg hl] at hj
      have := key (j + 1) hj
      omega
end
end Sm
namespace Sm
open PySem PySem.Spec PyProof.Rows L2

/-! ### a list or a tuple, by a mark (true: a tuple) -/
def SqK (K : PySem.W.Frag) (b : Bool) (H : Hp) (a : Addr) (xs : List V) : Prop := if b = true then SqT K H a xs else SqL K H a xs
theorem SqK.mono {K : PySem.W.Frag} {b : Bool} {H H' : Hp} {a : Addr} {xs : List V} (e : Same H H') (h : SqK K b H a xs) : SqK K b H' a xs := by
  cases b with
  | true => exact Evl.ex_t e h
  | false => exact e.seq (show SqL K H a xs from h)
def HeapSq (b : Bool) (h : Heap) (a : Addr) (its : List Value) : Prop := if b = true then h.IsTuple a its.toArray else h.IsList a its.toArray
def ItAt (b : Bool) (h : Heap) (i a : Addr) (n : Nat) : Prop := if b = true then h.IsTupleIter i a n else h.IsListIter i a n
theorem ItAt.obj {b : Bool} {h : Heap} {i a : Addr} {n : Nat} (x : ItAt b h i a n) : ∃ o vs, h.get? i = some o ∧ o.data = .fields vs := by
  cases b with
  | true =>
    obtain ⟨o, h1, _, h2⟩ := (show h.IsTupleIter i a n from x)
    exact ⟨o, _, h1, h2⟩
  | false =>
    obtain ⟨o, h1, _, h2⟩ := (show h.IsListIter i a n from x)
    exact ⟨o, _, h1, h2⟩
theorem ItAt.keep {b : Bool} {h h' : Heap} {i a : Addr} {n : Nat} (x : ItAt b h i a n) (k : ∀ o, h.get? i = some o → h'.get? i = some o) : ItAt b h' i a n := by
  cases b with
  | true => exact (show h.IsTupleIter i a n from x).at k
  | false => exact (show h.IsListIter i a n from x).at k
theorem sq_heap {X : Cx} {pins : List (Addr × Obj)} {σ : L2.St} {H : Hp} {s : Shared} {b : Bool} {a : Addr} {xs : List V} (I : Inv X pins σ H s) (h : SqK X.K b H a xs) : ∃ its : List Value, Vals xs its ∧ HeapSq b s.heap a its ∧ a < s.heap.objs.size := by
  cases b with
  | true =>
    obtain ⟨its, r, p, _⟩ := I.tuple h
    exact ⟨its, r, p, p.lt⟩
  | false =>
    obtain ⟨its, r, p, _⟩ := I.list h
    exact ⟨its, r, p.isList, p.lt⟩
theorem sq_inj {X : Cx} {pins : List (Addr × Obj)} {σ : L2.St} {H : Hp} {s : Shared} {b : Bool} {a : Addr} {xs ys : List V} (I : Inv X pins σ H s) (h : SqK X.K b H a xs) (h' : SqK X.K b H a ys) : xs = ys := by
  cases b with
  | true => exact I.tuple_inj h h'
  | false => exact I.list_inj h h'
theorem draws_sq {P : Program} {w : World} {A : Around} (hh : A.handled = none) (b : Bool) (i a : Addr) (ne : a ≠ i) (its : List Value) :
    Draws P w A i [i, a] its.length (fun n v => its[n]? = some v) (fun n h => ItAt b h i a n ∧ HeapSq b h a its) := by
  have e : its.toArray.size = its.length := by simp
  cases b with
  | true =>
    have d := Draws.tuple (prog := P) (w := w) (A := A) hh i a ne its.toArray
    rw [e] at d
    refine ⟨d.live, d.frame, fun n s Q E h1 h2 h3 => d.item n s Q E h1 h2 fun v h' tk hv => h3 v h' tk (by simpa using hv), d.done⟩
  | false =>
    have d := Draws.list (prog := P) (w := w) (A := A) hh i a ne its.toArray
    rw [e] at d
    refine ⟨d.live, d.frame, fun n s Q E h1 h2 h3 => d.item n s Q E h1 h2 fun v h' tk hv => h3 v h' tk (by simpa using hv), d.done⟩
def itObj (b : Bool) (a : Addr) : Obj := { cls := .type (if b = true then "tuple_iterator" else "list_iterator"), data := .fields #[.ref a, .int 0 0] }
theorem begins_sq (b : Bool) (a : Addr) (its : List Value) : Begins (.ref a) (itObj b a) fun h => HeapSq b h a its := by
  cases b with
  | true => exact begins_tuple a its.toArray
  | false => exact begins_list a its.toArray
theorem itObj_at {b : Bool} {h : Heap} {i a : Addr} (e : h.get? i = some (itObj b a)) : ItAt b h i a 0 := by
  cases b with
  | true => exact ⟨_, e, rfl, rfl⟩
  | false => exact ⟨_, e, rfl, rfl⟩
theorem vals_at {xs : List V} {its : List Value} {n : Nat} {v : Value} {x : V} (r : Vals xs its) (hv : its[n]? = some v) (hx : xs[n]? = some x) : RelV x v := by
  obtain ⟨u, e, ru⟩ := r.get hx
  rw [hv] at e
  cases e
  exact ru

/-! ### zip of two, of three: lists and tuples in any mix -/
def Iz2 (K : PySem.W.Frag) (k1 k2 : Bool) (a1 a2 : Addr) : It :=
  ⟨fun i H => ∃ xs ys : List V, SqK K k1 H a1 xs ∧ SqK K k2 H a2 ys ∧ i < min xs.length ys.length,
   fun i H v H' => ∃ T x y, v = .ref T ∧ H T = none ∧ H' = upd H T (.tup [x, y]) ∧ (∀ xs, SqK K k1 H a1 xs → xs[i]? = some x) ∧ (∀ ys, SqK K k2 H a2 ys → ys[i]? = some y),
   fun i H => ∃ xs ys : List V, SqK K k1 H a1 xs ∧ SqK K k2 H a2 ys ∧ i = min xs.length ys.length⟩
def Iz3 (K : PySem.W.Frag) (k1 k2 k3 : Bool) (a1 a2 a3 : Addr) : It :=
  ⟨fun i H => ∃ xs ys zs : List V, SqK K k1 H a1 xs ∧ SqK K k2 H a2 ys ∧ SqK K k3 H a3 zs ∧ i < min (min xs.length ys.length) zs.length,
   fun i H v H' => ∃ T x y z, v = .ref T ∧ H T = none ∧ H' = upd H T (.tup [x, y, z]) ∧ (∀ xs, SqK K k1 H a1 xs → xs[i]? = some x) ∧ (∀ ys, SqK K k2 H a2 ys → ys[i]? = some y) ∧ (∀ zs, SqK K k3 H a3 zs → zs[i]? = some z),
   fun i H => ∃ xs ys zs : List V, SqK K k1 H a1 xs ∧ SqK K k2 H a2 ys ∧ SqK K k3 H a3 zs ∧ i = min (min xs.length ys.length) zs.length⟩
theorem get_of_lt {α : Type} {l : List α} {i : Nat} (h : i < l.length) : ∃ x, l[i]? = some x := ⟨l[i], List.getElem?_eq_getElem h⟩
theorem turn_z3 {P : Program} {w : World} {K : PySem.W.Frag} {es : List Expr} {kk : Nat} {tp : Pos} {k1 k2 k3 : Bool} {a1 a2 a3 z TI TO i1 i2 i3 : Addr} (S : ZipSep3 z TI TO i1 i2 i3 [i1, a1] [i2, a2] [i3, a3]) (n1 : a1 ≠ i1) (n2 : a2 ≠ i2) (n3 : a3 ≠ i3) :
    Turn P w K (.Tuple es kk tp) (Iz3 K k1 k2 k3 a1 a2 a3) [z, TI, TO, i1, i2, i3] z (fun i h => IsZip h z TI TO .none ∧ IsTupOf3 h TI (.ref i1) (.ref i2) (.ref i3) ∧ (∃ u1 u2 u3, IsTupOf3 h TO u1 u2 u3) ∧ ItAt k1 h i1 a1 i ∧ ItAt k2 h i2 a2 i ∧ ItAt k3 h i3 a3 i) where
  mem := by simp
  obj := fun i h st b hb => by
    obtain ⟨h1, h2, ⟨_, _, _, h3⟩, h4, h5, h6⟩ := st
    have hb' : b = z ∨ b = TI ∨ b = TO ∨ b = i1 ∨ b = i2 ∨ b = i3 := by simpa using hb
    have fin : ∀ {j a : Addr} {kx : Bool}, ItAt kx h j a i → ∃ o, h.get? j = some o ∧ ∀ v, o.data ≠ .cell v := fun q => by
      obtain ⟨o, vs, e, d⟩ := q.obj
      exact ⟨o, e, fun v q2 => by rw [d] at q2; cases q2⟩
    rcases hb' with e | e | e | e | e | e
    · rw [e]; exact ⟨_, h1, fun v q => nomatch q⟩
    · rw [e]; exact ⟨_, h2, fun v q => nomatch q⟩
    · rw [e]; exact ⟨_, h3, fun v q => nomatch q⟩
    · rw [e]; exact fin h4
    · rw [e]; exact fin h5
    · rw [e]; exact fin h6
  keep := fun i h h' st k => by
    obtain ⟨h1, h2, ⟨u1, u2, u3, h3⟩, h4, h5, h6⟩ := st
    exact ⟨k z (by simp) _ h1, k TI (by simp) _ h2, ⟨u1, u2, u3, k TO (by simp) _ h3⟩, h4.keep (k i1 (by simp)), h5.keep (k i2 (by simp)), h6.keep (k i3 (by simp))⟩
  item := by
    intro X hP hw hK hc i pins s σ H E I hf st hg
    subst hP hw hK
    obtain ⟨xs, ys, zs, q1, q2, q3, hi⟩ := hg
    obtain ⟨t1, r1, p1, _⟩ := sq_heap I q1
    obtain ⟨t2, r2, p2, _⟩ := sq_heap I q2
    obtain ⟨t3, r3, p3, _⟩ := sq_heap I q3
    have l1 := r1.length
    have l2 := r2.length
    have l3 := r3.length
    obtain ⟨x, hx⟩ := get_of_lt (show i < xs.length by omega)
    obtain ⟨y, hy⟩ := get_of_lt (show i < ys.length by omega)
    obtain ⟨zz, hz⟩ := get_of_lt (show i < zs.length by omega)
    have hh : X.A.in1.handled = none := I.ok.hd hc
    have W := GoesN.zip3 (elts := es) (x1 := kk) (pos := tp) S (draws_sq (P := X.prog) (w := X.w) hh k1 i1 a1 n1 t1) (draws_sq hh k2 i2 a2 n2 t2) (draws_sq hh k3 i3 a3 n3 t3)
    obtain ⟨g1, g2, ⟨u1, u2, u3, g3⟩, g4, g5, g6⟩ := st
    refine W.goes i s _ E (by omega) ⟨g1, g2, ⟨u1, u2, u3, g3⟩, ⟨g4, p1⟩, ⟨g5, p2⟩, ⟨g6, p3⟩⟩ fun v h' tk hY st' hk htk => ?_
    obtain ⟨T, v1, v2, v3, rfl, hT, e1, e2, e3, o, ho, oc, n, od⟩ := hY
    obtain ⟨f1, f2, f3, ⟨f4, _⟩, ⟨f5, _⟩, ⟨f6, _⟩⟩ := st'
    have new : ObjOk X.prog X.w (upd H T (.tup [x, y, zz])) h' T (.tup [x, y, zz]) :=
      ⟨Evl.sz_of (by show 3 ≤ 100000; decide), [v1, v2, v3], .cons (vals_at r1 e1 hx) (.cons (vals_at r2 e2 hy) (.cons (vals_at r3 e3 hz) .nil)), ⟨o, ho, oc, n, od⟩⟩
    have hnT : H T = none := I.hok.fresh hT
    refine ⟨.ref T, _, I.turnedNew (t' := tk) (ch := [z, TO, i1, i2, i3]) hk (fun b hb => hf b ?_) hT new, rfl, ⟨T, x, y, zz, rfl, hnT, rfl, fun l h => by rw [sq_inj I h q1]; exact hx, fun l h => by rw [sq_inj I h q2]; exact hy, fun l h => by rw [sq_inj I h q3]; exact hz⟩, ⟨f1, f2, f3, f4, f5, f6⟩, fun b hb => ?_⟩
    · have hb' : b = z ∨ b = TO ∨ b = i1 ∨ b = i2 ∨ b = i3 := by simpa using hb
      rcases hb' with e | e | e | e | e <;> simp [e]
    · have lt : b < s.heap.objs.size := by
        have hb' : b = z ∨ b = TI ∨ b = TO ∨ b = i1 ∨ b = i2 ∨ b = i3 := by simpa using hb
        have fin : ∀ {j a : Addr} {kx : Bool}, ItAt kx s.heap j a i → j < s.heap.objs.size := fun q => by
          obtain ⟨o, vs, e, d⟩ := q.obj
          exact Heap.lt_size e
        rcases hb' with e | e | e | e | e | e
        · rw [e]; exact Heap.lt_size g1
        · rw [e]; exact Heap.lt_size g2
        · rw [e]; exact Heap.lt_size g3
        · rw [e]; exact fin g4
        · rw [e]; exact fin g5
        · rw [e]; exact fin g6
      rw [upd_ne (Nat.ne_of_lt (Nat.lt_of_lt_of_le lt hT))]
      exact (hf b hb).1
  done := by
    intro X hP hw hK hc i pins s σ H E I hf st hg
    subst hP hw hK
    obtain ⟨xs, ys, zs, q1, q2, q3, hi⟩ := hg
    obtain ⟨t1, r1, p1, _⟩ := sq_heap I q1
    obtain ⟨t2, r2, p2, _⟩ := sq_heap I q2
    obtain ⟨t3, r3, p3, _⟩ := sq_heap I q3
    have l1 := r1.length
    have l2 := r2.length
    have l3 := r3.length
    have hh : X.A.in1.handled = none := I.ok.hd hc
    have W := GoesN.zip3 (elts := es) (x1 := kk) (pos := tp) S (draws_sq (P := X.prog) (w := X.w) hh k1 i1 a1 n1 t1) (draws_sq hh k2 i2 a2 n2 t2) (draws_sq hh k3 i3 a3 n3 t3)
    obtain ⟨g1, g2, ⟨u1, u2, u3, g3⟩, g4, g5, g6⟩ := st
    have en : i = min (min t1.length t2.length) t3.length := by rw [hi, l1, l2, l3]
    subst en
    refine W.stops s _ E ⟨g1, g2, ⟨u1, u2, u3, g3⟩, ⟨g4, p1⟩, ⟨g5, p2⟩, ⟨g6, p3⟩⟩ fun h' tk hk htk => I.turnedL (t' := tk) (ch := [z, TO, i1, i2, i3]) hk fun b hb => hf b ?_
    have hb' : b = z ∨ b = TO ∨ b = i1 ∨ b = i2 ∨ b = i3 := by simpa using hb
    rcases hb' with e | e | e | e | e <;> simp [e]
  self := fun A i s Q E st h => wpAny_pyIter_zip st.1 h
theorem turn_z2 {P : Program} {w : World} {K : PySem.W.Frag} {es : List Expr} {kk : Nat} {tp : Pos} {k1 k2 : Bool} {a1 a2 z TI TO i1 i2 : Addr} (S : ZipSep2 z TI TO i1 i2 [i1, a1] [i2, a2]) (n1 : a1 ≠ i1) (n2 : a2 ≠ i2) :
    Turn P w K (.Tuple es kk tp) (Iz2 K k1 k2 a1 a2) [z, TI, TO, i1, i2] z (fun i h => IsZip h z TI TO .none ∧ IsTupOf2 h TI (.ref i1) (.ref i2) ∧ (∃ u1 u2, IsTupOf2 h TO u1 u2) ∧ ItAt k1 h i1 a1 i ∧ ItAt k2 h i2 a2 i) where
  mem := by simp
  obj := fun i h st b hb => by
    obtain ⟨h1, h2, ⟨_, _, h3⟩, h4, h5⟩ := st
    have hb' : b = z ∨ b = TI ∨ b = TO ∨ b = i1 ∨ b = i2 := by simpa using hb
    have fin : ∀ {j a : Addr} {kx : Bool}, ItAt kx h j a i → ∃ o, h.get? j = some o ∧ ∀ v, o.data ≠ .cell v := fun q => by
      obtain ⟨o, vs, e, d⟩ := q.obj
      exact ⟨o, e, fun v q2 => by rw [d] at q2; cases q2⟩
    rcases hb' with e | e | e | e | e
    · rw [e]; exact ⟨_, h1, fun v q => nomatch q⟩
    · rw [e]; exact ⟨_, h2, fun v q => nomatch q⟩
    · rw [e]; exact ⟨_, h3, fun v q => nomatch q⟩
    · rw [e]; exact fin h4
    · rw [e]; exact fin h5
  keep := fun i h h' st k => by
    obtain ⟨h1, h2, ⟨u1, u2, h3⟩, h4, h5⟩ := st
    exact ⟨k z (by simp) _ h1, k TI (by simp) _ h2, ⟨u1, u2, k TO (by simp) _ h3⟩, h4.keep (k i1 (by simp)), h5.keep (k i2 (by simp))⟩
  item := by
    intro X hP hw hK hc i pins s σ H E I hf st hg
    subst hP hw hK
    obtain ⟨xs, ys, q1, q2, hi⟩ := hg
    obtain ⟨t1, r1, p1, _⟩ := sq_heap I q1
    obtain ⟨t2, r2, p2, _⟩ := sq_heap I q2
    have l1 := r1.length
    have l2 := r2.length
    obtain ⟨x, hx⟩ := get_of_lt (show i < xs.length by omega)
    obtain ⟨y, hy⟩ := get_of_lt (show i < ys.length by omega)
    have hh : X.A.in1.handled = none := I.ok.hd hc
    have W := GoesN.zip2 (elts := es) (x1 := kk) (pos := tp) S (draws_sq (P := X.prog) (w := X.w) hh k1 i1 a1 n1 t1) (draws_sq hh k2 i2 a2 n2 t2)
    obtain ⟨g1, g2, ⟨u1, u2, g3⟩, g4, g5⟩ := st
    refine W.goes i s _ E (by omega) ⟨g1, g2, ⟨u1, u2, g3⟩, ⟨g4, p1⟩, ⟨g5, p2⟩⟩ fun v h' tk hY st' hk htk => ?_
    obtain ⟨T, v1, v2, rfl, hT, e1, e2, o, ho, oc, n, od⟩ := hY
    obtain ⟨f1, f2, f3, ⟨f4, _⟩, ⟨f5, _⟩⟩ := st'
    have new : ObjOk X.prog X.w (upd H T (.tup [x, y])) h' T (.tup [x, y]) :=
      ⟨Evl.sz_of (by show 2 ≤ 100000; decide), [v1, v2], .cons (vals_at r1 e1 hx) (.cons (vals_at r2 e2 hy) .nil), ⟨o, ho, oc, n, od⟩⟩
    have hnT : H T = none := I.hok.fresh hT
    refine ⟨.ref T, _, I.turnedNew (t' := tk) (ch := [z, TO, i1, i2]) hk (fun b hb => hf b ?_) hT new, rfl, ⟨T, x, y, rfl, hnT, rfl, fun l h => by rw [sq_inj I h q1]; exact hx, fun l h => by rw [sq_inj I h q2]; exact hy⟩, ⟨f1, f2, f3, f4, f5⟩, fun b hb => ?_⟩
    · have hb' : b = z ∨ b = TO ∨ b = i1 ∨ b = i2 := by simpa using hb
      rcases hb' with e | e | e | e <;> simp [e]
    · have lt : b < s.heap.objs.size := by
        have hb' : b = z ∨ b = TI ∨ b = TO ∨ b = i1 ∨ b = i2 := by simpa using hb
        have fin : ∀ {j a : Addr} {kx : Bool}, ItAt kx s.heap j a i → j < s.heap.objs.size := fun q => by
          obtain ⟨o, vs, e, d⟩ := q.obj
          exact Heap.lt_size e
        rcases hb' with e | e | e | e | e
        · rw [e]; exact Heap.lt_size g1
        · rw [e]; exact Heap.lt_size g2
        · rw [e]; exact Heap.lt_size g3
        · rw [e]; exact fin g4
        · rw [e]; exact fin g5
      rw [upd_ne (Nat.ne_of_lt (Nat.lt_of_lt_of_le lt hT))]
      exact (hf b hb).1
  done := by
    intro X hP hw hK hc i pins s σ H E I hf st hg
    subst hP hw hK
    obtain ⟨xs, ys, q1, q2, hi⟩ := hg
    obtain ⟨t1, r1, p1, _⟩ := sq_heap I q1
    obtain ⟨t2, r2, p2, _⟩ := sq_heap I q2
    have l1 := r1.length
    have l2 := r2.length
    have hh : X.A.in1.handled = none := I.ok.hd hc
    have W := GoesN.zip2 (elts := es) (x1 := kk) (pos := tp) S (draws_sq (P := X.prog) (w := X.w) hh k1 i1 a1 n1 t1) (draws_sq hh k2 i2 a2 n2 t2)
    obtain ⟨g1, g2, ⟨u1, u2, g3⟩, g4, g5⟩ := st
    have en : i = min t1.length t2.length := by rw [hi, l1, l2]
    subst en
    refine W.stops s _ E ⟨g1, g2, ⟨u1, u2, g3⟩, ⟨g4, p1⟩, ⟨g5, p2⟩⟩ fun h' tk hk htk => I.turnedL (t' := tk) (ch := [z, TO, i1, i2]) hk fun b hb => hf b ?_
    have hb' : b = z ∨ b = TO ∨ b = i1 ∨ b = i2 := by simpa using hb
    rcases hb' with e | e | e | e <;> simp [e]
  self := fun A i s Q E st h => wpAny_pyIter_zip st.1 h
def iZ2 (K : PySem.W.Frag) (ta : TA) : TI := fun σ H R => ta σ H fun vs H1 => ∃ (k1 k2 : Bool) (a b : Addr) (xs ys : List V), vs = [.ref a, .ref b] ∧ SqK K k1 H1 a xs ∧ SqK K k2 H1 b ys ∧ R (Iz2 K k1 k2 a b) H1
def iZ3 (K : PySem.W.Frag) (ta : TA) : TI := fun σ H R => ta σ H fun vs H1 => ∃ (k1 k2 k3 : Bool) (a b c : Addr) (xs ys zs : List V), vs = [.ref a, .ref b, .ref c] ∧ SqK K k1 H1 a xs ∧ SqK K k2 H1 b ys ∧ SqK K k3 H1 c zs ∧ R (Iz3 K k1 k2 k3 a b c) H1
section
variable {X : Cx} {p pos tpos : Pos} {elts : List Expr} {kk : Nat} {ta : TA}
theorem pi_z2 {e e2 : Expr} (hg : Gl X "zip") (hm : X.mg "zip" = none) (ha : PA X [e, e2] ta)
    (hs : starEach [e, e2] X.env = (false, eval e X.env) :: starEach [e2] X.env := by rfl) (hpl : (backTo pos (starEach [e2] X.env)).any (·.1) = false := by rfl) :
    PI X (.Tuple elts kk tpos) (.Call (.Name "zip" p) [e, e2] [] pos) (iZ2 X.K ta) := by
  refine ⟨fun pins s σ H R I h => Call_ (ld_blt I hg hm PyProof.Rows.boot_zip (PyProof.Rows.callWith_type1 (thn (ha.run pos pins s σ H _ I h) fun us s1 ⟨vs, H1, I1, r1, q1⟩ => ?_) hs hpl))⟩
  obtain ⟨k1, k2, a, b, xs, ys, rfl, h1, h2, q⟩ := q1
  obtain ⟨u1, u2, rfl, e1, e2⟩ := vals2 r1
  cases e1
  cases e2
  obtain ⟨t1, _, p1, la⟩ := sq_heap I1 h1
  obtain ⟨t2, _, p2, lb⟩ := sq_heap I1 h2
  refine zip_begins2 (begins_sq k1 a t1) (begins_sq k2 b t2) p1 p2 fun h' hz hTI hTO g1 g2 hsz hk => wpAny_pyIter_zip hz ?_
  have I2 : Inv X pins σ H1 { s1 with heap := h' } := I1.kept (t' := s1.toks) hk
  have S := zip_sep2 (N := s1.heap.objs.size) (fp1 := [a]) (fp2 := [b]) (by simpa using la) (by simpa using lb)
  refine ⟨s1.heap.objs.size + 4, [s1.heap.objs.size + 4, s1.heap.objs.size + 2, s1.heap.objs.size + 3, s1.heap.objs.size, s1.heap.objs.size + 1], _, _, H1, rfl, I2,
    turn_z2 S (Nat.ne_of_lt la) (Nat.ne_of_lt (Nat.lt_succ_of_lt lb)), ⟨hz, hTI, ⟨_, _, hTO⟩, itObj_at g1, itObj_at g2⟩, fun c hc => ?_, q⟩
  have hle : s1.heap.objs.size ≤ c := by
    have e' : c = s1.heap.objs.size + 4 ∨ c = s1.heap.objs.size + 2 ∨ c = s1.heap.objs.size + 3 ∨ c = s1.heap.objs.size ∨ c = s1.heap.objs.size + 1 := by simpa using hc
    rcases e' with z | z | z | z | z <;> rw [z] <;> first | exact Nat.le_refl _ | exact Nat.le_add_right _ _
  exact I1.fpOk hle (I1.hok.fresh hle)
theorem pi_z3 {e e2 e3 : Expr} (hg : Gl X "zip") (hm : X.mg "zip" = none) (ha : PA X [e, e2, e3] ta)
    (hs : starEach [e, e2, e3] X.env = (false, eval e X.env) :: starEach [e2, e3] X.env := by rfl) (hpl : (backTo pos (starEach [e2, e3] X.env)).any (·.1) = false := by rfl) :
    PI X (.Tuple elts kk tpos) (.Call (.Name "zip" p) [e, e2, e3] [] pos) (iZ3 X.K ta) := by
  refine ⟨fun pins s σ H R I h => Call_ (ld_blt I hg hm PyProof.Rows.boot_zip (PyProof.Rows.callWith_type1 (thn (ha.run pos pins s σ H _ I h) fun us s1 ⟨vs, H1, I1, r1, q1⟩ => ?_) hs hpl))⟩
  obtain ⟨k1, k2, k3, a, b, c, xs, ys, zs, rfl, h1, h2, h3, q⟩ := q1
  obtain ⟨u1, u2, u3, rfl, e1, e2, e3⟩ : ∃ u1 u2 u3, us = [u1, u2, u3] ∧ RelV (.ref a) u1 ∧ RelV (.ref b) u2 ∧ RelV (.ref c) u3 := by
    cases r1 with
    | cons x1 r1 =>
      obtain ⟨u2, u3, rfl, x2, x3⟩ := vals2 r1
      exact ⟨_, _, _, rfl, x1, x2, x3⟩
  cases e1
  cases e2
  cases e3
  obtain ⟨t1, _, p1, la⟩ := sq_heap I1 h1
  obtain ⟨t2, _, p2, lb⟩ := sq_heap I1 h2
  obtain ⟨t3, _, p3, lc⟩ := sq_heap I1 h3
  refine zip_begins3 (begins_sq k1 a t1) (begins_sq k2 b t2) (begins_sq k3 c t3) p1 p2 p3 fun h' hz hTI hTO g1 g2 g3 hsz hk => wpAny_pyIter_zip hz ?_
  have I2 : Inv X pins σ H1 { s1 with heap := h' } := I1.kept (t' := s1.toks) hk
  have S := zip_sep3 (N := s1.heap.objs.size) (fp1 := [a]) (fp2 := [b]) (fp3 := [c]) (by simpa using la) (by simpa using lb) (by simpa using lc)
  refine ⟨s1.heap.objs.size + 5, [s1.heap.objs.size + 5, s1.heap.objs.size + 3, s1.heap.objs.size + 4, s1.heap.objs.size, s1.heap.objs.size + 1, s1.heap.objs.size + 2], _, _, H1, rfl, I2,
    turn_z3 S (Nat.ne_of_lt la) (Nat.ne_of_lt (Nat.lt_succ_of_lt lb)) (Nat.ne_of_lt (Nat.lt_of_lt_of_le lc (Nat.le_add_right _ _))), ⟨hz, hTI, ⟨_, _, _, hTO⟩, itObj_at g1, itObj_at g2, itObj_at g3⟩, fun d hd => ?_, q⟩
  have hle : s1.heap.objs.size ≤ d := by
    have e' : d = s1.heap.objs.size + 5 ∨ d = s1.heap.objs.size + 3 ∨ d = s1.heap.objs.size + 4 ∨ d = s1.heap.objs.size ∨ d = s1.heap.objs.size + 1 ∨ d = s1.heap.objs.size + 2 := by simpa using hd
    rcases e' with z | z | z | z | z | z <;> rw [z] <;> first | exact Nat.le_refl _ | exact Nat.le_add_right _ _
  exact I1.fpOk hle (I1.hok.fresh hle)
end
end Sm
namespace Sm
open PySem PySem.Spec PyProof.Rows L2
/-! ### a list or a tuple, walked -/
def iSq (K : PySem.W.Frag) (te : TE) : TI := fun σ H R => te σ H fun x H1 => ∃ a, x = .ref a ∧ (((∃ xs, SqL K H1 a xs) ∧ R (Itl K a) H1) ∨ ((∃ xs, SqT K H1 a xs) ∧ R (Itt K a) H1))
theorem pi_sq {X : Cx} {tg l : Expr} {te : TE} (hl : PE X l te) : PI X tg l (iSq X.K te) := by
  refine ⟨fun pins s σ H R I h => thn (hl.run pins s σ H _ I h) fun v s1 ⟨x, H1, I1, r1, a, ea, q⟩ => ?_⟩
  subst ea
  cases r1
  have fp : ∀ (J : It) (o : Obj), ∀ b ∈ [s1.heap.objs.size], FpOk X pins H1 b := fun J o b hb => by
    have e : b = s1.heap.objs.size := by simpa using hb
    rw [e]
    exact I1.fpOk (Nat.le_refl _) (I1.hok.fresh (Nat.le_refl _))
  rcases q with ⟨⟨xs, hq⟩, q⟩ | ⟨⟨xs, hq⟩, q⟩
  · obtain ⟨its, _, p, _⟩ := I1.list hq
    exact wpAny_pyIter_list p.isList ⟨_, [s1.heap.objs.size], _, _, H1, rfl, I1.kept (t' := s1.toks) fun b o e => Heap.get?_push_of_some _ e, turn_list a _, ⟨_, Heap.get?_push_size _ rfl, rfl, rfl⟩, fp (Itl X.K a) default, q⟩
  · obtain ⟨its, _, p, _⟩ := I1.tuple hq
    exact wpAny_pyIter_tuple (show s1.heap.IsTuple a its.toArray from p) ⟨_, [s1.heap.objs.size], _, _, H1, rfl, I1.kept (t' := s1.toks) fun b o e => Heap.get?_push_of_some _ e, turn_tuple a _, ⟨_, Heap.get?_push_size _ rfl, rfl, rfl⟩, fp (Itl X.K a) default, q⟩

/-! ### enumerate of a list or a tuple -/
set_option maxHeartbeats 4000000 in
theorem enum_newB {v : Value} {o : Obj} {P : Heap → Prop} (Bg : Begins v o P) :
    Meets (Builtin.«enumerate.__new__» ⟨[.type "enumerate", v], []⟩) (fun _ R s => P s.heap ∧
      R (.ok (.ret (.ref (s.heap.push o).objs.size))) { s with heap := (s.heap.push o).push { cls := .type "enumerate", data := .fields #[.none, .bool false, .ref s.heap.objs.size, rawInt 0, .none, .none] } }) :=
  .of_wp fun prog w A R s hyp => by
    obtain ⟨hp, g, d, tk, os⟩ := s
    obtain ⟨hv, hyp⟩ := hyp
    have sb := sub_enumerate
    have it1 : ∀ {A' : Around} {E : Value → Shared → Prop} {Q : Value → Shared → Prop}, Q (.ref hp.objs.size) ⟨hp.push o, g, d, tk, os⟩ → wpAny (model prog w) A' (pyIter v) Q E ⟨hp, g, d, tk, os⟩ :=
      fun q => Bg.iter prog w _ _ _ _ hv q
    wp_walk using it1
    refine wpAny_stack_any fun st => wpAny_pure ?_
    split
    · rename_i c _ _ _ _ _
      cases (c == Value.type "enumerate") <;> (wp_walk using it1) <;> exact ⟨_, rfl, hyp⟩
    · wp_walk using it1
      exact ⟨_, rfl, hyp⟩
theorem enum_call {prog : Program} {w : World} {A : Around} {E : Value → Shared → Prop} {s : Shared} {v : Value} {o : Obj} {P : Heap → Prop} {Q : Value → Shared → Prop} (Bg : Begins v o P) (hv : P s.heap)
    (k : ∀ h', IsEnum h' (s.heap.objs.size + 1) s.heap.objs.size 0 .none → h'.get? s.heap.objs.size = some o → (∀ b u, s.heap.get? b = some u → h'.get? b = some u) → Q (.ref (s.heap.objs.size + 1)) { s with heap := h' }) :
    wpAny (model prog w) A (call (.type "enumerate") [v]) Q E s := by
  refine callType_new F.called_enumerate (by decide) (F.typeCall_enumerate_1 _) (F.newCall_enumerate_1 _) (fun obj => F.args_object_init_2 obj _) F.entry_enumerate_new (enum_newB Bg) ⟨hv, ?_⟩
  have sz : (s.heap.push o).objs.size = s.heap.objs.size + 1 := Heap.size_push ..
  have ge := Heap.get?_push_size (s.heap.push o) (o := { cls := .type "enumerate", data := .fields #[.none, .bool false, .ref s.heap.objs.size, rawInt 0, .none, .none] }) rfl
  show _ ∧ _
  rw [sz] at ge ⊢
  exact ⟨⟨_, ge, rfl⟩, k _ ge (Heap.get?_push_of_some _ (Heap.get?_push_size _ Bg.free)) fun b u e => Heap.get?_push_of_some _ (Heap.get?_push_of_some _ e)⟩
def Ien (K : PySem.W.Frag) (k : Bool) (a : Addr) : It :=
  ⟨fun i H => ∃ xs : List V, SqK K k H a xs ∧ i < xs.length,
   fun i H v H' => ∃ T x, v = .ref T ∧ H T = none ∧ H' = upd H T (.tup [.int (i : Nat), x]) ∧ ∀ xs, SqK K k H a xs → xs[i]? = some x,
   fun i H => ∃ xs : List V, SqK K k H a xs ∧ i = xs.length⟩
theorem turn_en {P : Program} {w : World} {K : PySem.W.Frag} {es : List Expr} {kk : Nat} {tp : Pos} {k : Bool} {a e i0 : Addr} (ne : e ≠ i0) (na : a ≠ i0) (nea : e ≠ a) :
    Turn P w K (.Tuple es kk tp) (Ien K k a) [e, i0] e (fun i h => (∃ old, IsEnum h e i0 (i : Int) old) ∧ ItAt k h i0 a i) where
  mem := by simp
  obj := fun i h st b hb => by
    obtain ⟨⟨old, h1⟩, h2⟩ := st
    have hb' : b = e ∨ b = i0 := by simpa using hb
    rcases hb' with q | q
    · rw [q]; exact ⟨_, h1, fun v q => nomatch q⟩
    · rw [q]
      obtain ⟨o, vs, e1, d⟩ := h2.obj
      exact ⟨o, e1, fun v q2 => by rw [d] at q2; cases q2⟩
  keep := fun i h h' st k => by
    obtain ⟨⟨old, h1⟩, h2⟩ := st
    exact ⟨⟨old, k e (by simp) _ h1⟩, h2.keep (k i0 (by simp))⟩
  item := by
    intro X hP hw hK hc i pins s σ H E I hf st hg
    subst hP hw hK
    obtain ⟨xs, q1, hi⟩ := hg
    obtain ⟨t1, r1, p1, _⟩ := sq_heap I q1
    have l1 := r1.length
    obtain ⟨x, hx⟩ := get_of_lt hi
    have hh : X.A.in1.handled = none := I.ok.hd hc
    have W := GoesN.enumFrom (elts := es) (x1 := kk) (pos := tp) 0 (draws_sq (P := X.prog) (w := X.w) hh k i0 a na t1) e ne (by simp [ne, nea]) (by simp)
    obtain ⟨⟨old, g1⟩, g2⟩ := st
    refine W.goes i s _ E (by omega) ⟨⟨old, by rw [Int.zero_add]; exact g1⟩, g2, p1⟩ fun v h' tk hY st' hk htk => ?_
    obtain ⟨T, t, u, rfl, hT, e1, o, ho, oc, n, od⟩ := hY
    obtain ⟨⟨old', f1⟩, f2, _⟩ := st'
    have new : ObjOk X.prog X.w (upd H T (.tup [.int (i : Nat), x])) h' T (.tup [.int (i : Nat), x]) :=
      ⟨Evl.sz_of (by show 2 ≤ 100000; decide), [.int (0 + (i : Int)) t, u], .cons ⟨t, by rw [Int.zero_add]⟩ (.cons (vals_at r1 e1 hx) .nil), ⟨o, ho, oc, n, od⟩⟩
    have hnT : H T = none := I.hok.fresh hT
    refine ⟨.ref T, _, I.turnedNew (t' := tk) (ch := [e, i0]) hk hf hT new, rfl, ⟨T, x, rfl, hnT, rfl, fun l h => by rw [sq_inj I h q1]; exact hx⟩, ⟨⟨old', by rw [Int.zero_add] at f1; exact f1⟩, f2⟩, fun b hb => ?_⟩
    have lt : b < s.heap.objs.size := by
      have hb' : b = e ∨ b = i0 := by simpa using hb
      rcases hb' with q | q
      · rw [q]; exact Heap.lt_size g1
      · rw [q]
        obtain ⟨o, vs, e1, d⟩ := g2.obj
        exact Heap.lt_size e1
    rw [upd_ne (Nat.ne_of_lt (Nat.lt_of_lt_of_le lt hT))]
    exact (hf b hb).1
  done := by
    intro X hP hw hK hc i pins s σ H E I hf st hg
    subst hP hw hK
    obtain ⟨xs, q1, hi⟩ := hg
    obtain ⟨t1, r1, p1, _⟩ := sq_heap I q1
    have l1 := r1.length
    have hh : X.A.in1.handled = none := I.ok.hd hc
    have W := GoesN.enumFrom (elts := es) (x1 := kk) (pos := tp) 0 (draws_sq (P := X.prog) (w := X.w) hh k i0 a na t1) e ne (by simp [ne, nea]) (by simp)
    obtain ⟨⟨old, g1⟩, g2⟩ := st
    have en : i = t1.length := by rw [hi, l1]
    subst en
    exact W.stops s _ E ⟨⟨old, by rw [Int.zero_add]; exact g1⟩, g2, p1⟩ fun h' tk hk htk => I.turnedL (t' := tk) (ch := [e, i0]) hk hf
  self := fun A i s Q E st h => let ⟨⟨_, g⟩, _⟩ := st; wpAny_pyIter_enum g h
def iEn (K : PySem.W.Frag) (ta : TA) : TI := fun σ H R => ta σ H fun vs H1 => ∃ (k : Bool) (a : Addr) (xs : List V), vs = [.ref a] ∧ SqK K k H1 a xs ∧ R (Ien K k a) H1
theorem pi_en {X : Cx} {e : Expr} {ta : TA} {p pos tpos : Pos} {elts : List Expr} {kk : Nat} (hg : Gl X "enumerate") (hm : X.mg "enumerate" = none) (ha : PA X [e] ta) (hs : starEach [e] X.env = [(false, eval e X.env)] := by rfl) :
    PI X (.Tuple elts kk tpos) (.Call (.Name "enumerate" p) [e] [] pos) (iEn X.K ta) := by
  refine ⟨fun pins s σ H R I h => Call_ (ld_blt I hg hm boot_enumerate (PyProof.Rows.callWith_type1 (thn (ha.run pos pins s σ H _ I h) fun us s1 ⟨vs, H1, I1, r1, q1⟩ => ?_) hs rfl))⟩
  obtain ⟨k, a, xs, rfl, h1, q⟩ := q1
  obtain ⟨u, rfl, e1⟩ := vals1 r1
  cases e1
  obtain ⟨t1, _, p1, la⟩ := sq_heap I1 h1
  refine enum_call (begins_sq k a t1) p1 fun h' he hi hk => wpAny_pyIter_enum he ?_
  have I2 : Inv X pins σ H1 { s1 with heap := h' } := I1.kept (t' := s1.toks) hk
  refine ⟨s1.heap.objs.size + 1, [s1.heap.objs.size + 1, s1.heap.objs.size], _, _, H1, rfl, I2,
    turn_en (k := k) (Nat.ne_of_gt (Nat.lt_succ_self _)) (Nat.ne_of_lt la) (Nat.ne_of_gt (Nat.lt_succ_of_lt la)), ⟨⟨_, he⟩, itObj_at hi⟩, fun d hd => ?_, q⟩
  have hle : s1.heap.objs.size ≤ d := by
    have e' : d = s1.heap.objs.size + 1 ∨ d = s1.heap.objs.size := by simpa using hd
    rcases e' with z | z <;> rw [z] <;> first | exact Nat.le_refl _ | exact Nat.le_add_right _ _
  exact I1.fpOk hle (I1.hok.fresh hle)

/-! ### what is walked, in the terms of Ev -/
/-- over the immutable part Bz: as many turns as Rs, each a value with its R -/
structure WalkB (J : It) (Bz : Hp) (Rs : List Rep) : Prop where
  goes : ∀ (i : Nat) (B H : Hp), i < Rs.length → Same Bz B → Same B H → J.go i H
  stops : ∀ (B H : Hp), Same Bz B → Same B H → J.stop Rs.length H
  yields : ∀ (i : Nat) (B H : Hp) (x : V) (H' : Hp) (R : Rep), Rs[i]? = some R → Same Bz B → Same B H → J.yld i H x H' → ∃ B', Nx B H B' H' ∧ R.p B' x
def EvI (Γ : Ctx) (wi : TI) (Rs : List Rep) : Prop := ∀ σ B H, At Γ B H σ → ∀ N : It → Hp → Prop, (∀ J B' H', Nx B H B' H' → WalkB J B' Rs → N J H') → wi σ H N
theorem walk_L {K : PySem.W.Frag} {Bz : Hp} {a : Addr} {xs : List V} {Rs : List Rep} (h : SqL K Bz a xs) (r : All2 Rs Bz xs) : WalkB (Itl K a) Bz Rs :=
  ⟨fun i B H hi e1 e2 => ⟨xs, xs[i]'(by rw [← r.len]; exact hi), (e1.trans e2).seq h, by simp⟩, fun B H e1 e2 => ⟨xs, (e1.trans e2).seq h, by rw [r.len]; exact Nat.le_refl _⟩,
   fun i B H x H' R hR e1 e2 ⟨y1, y2⟩ => by
    subst y1
    obtain ⟨x', h1, h2⟩ := r.get hR
    have e3 := y2 xs ((e1.trans e2).seq h)
    rw [h1] at e3
    cases e3
    exact ⟨B, Nx.refl e2, R.mono _ _ _ e1 h2⟩⟩
theorem walk_T {K : PySem.W.Frag} {Bz : Hp} {a : Addr} {xs : List V} {Rs : List Rep} (h : SqT K Bz a xs) (r : All2 Rs Bz xs) : WalkB (Itt K a) Bz Rs :=
  ⟨fun i B H hi e1 e2 => ⟨xs, xs[i]'(by rw [← r.len]; exact hi), Evl.ex_t (e1.trans e2) h, by simp⟩, fun B H e1 e2 => ⟨xs, Evl.ex_t (e1.trans e2) h, by rw [r.len]; exact Nat.le_refl _⟩,
   fun i B H x H' R hR e1 e2 ⟨y1, y2⟩ => by
    subst y1
    obtain ⟨x', h1, h2⟩ := r.get hR
    have e3 := y2 xs (Evl.ex_t (e1.trans e2) h)
    rw [h1] at e3
    cases e3
    exact ⟨B, Nx.refl e2, R.mono _ _ _ e1 h2⟩⟩
theorem walk_R {lo : Int} {n : Nat} {K : PySem.W.Frag} {Bz : Hp} : WalkB (Itr lo n) Bz ((List.range n).map fun (i : Nat) => rD K (.int (lo + (i : Int)))) :=
  ⟨fun i B H hi _ _ => (show i < n by simpa using hi), fun B H _ _ => by show n ≤ _; simp, fun i B H x H' R hR e1 e2 ⟨y1, y2⟩ => by
    subst y1
    rw [List.getElem?_map] at hR
    by_cases hi : i < n
    · rw [List.getElem?_range hi] at hR
      have e3 : rD K (.int (lo + (i : Int))) = R := Option.some.inj hR
      subst e3
      exact ⟨B, Nx.refl e2, rD_int.mpr y2⟩
    · rw [List.getElem?_eq_none (by simpa using hi)] at hR
      cases hR⟩
theorem zip_get {α β : Type} {l : List α} {r : List β} {i : Nat} {p : α × β} (h : (l.zip r)[i]? = some p) : l[i]? = some p.1 ∧ r[i]? = some p.2 := by
  rw [List.getElem?_zip_eq_some] at h
  exact h
theorem walk_z2 {K : PySem.W.Frag} {k1 k2 : Bool} {Bz : Hp} {a b : Addr} {xs ys : List V} {Rs Ss : List Rep} (h1 : SqK K k1 Bz a xs) (h2 : SqK K k2 Bz b ys) (r1 : All2 Rs Bz xs) (r2 : All2 Ss Bz ys) :
    WalkB (Iz2 K k1 k2 a b) Bz ((Rs.zip Ss).map fun p => rTup K [p.1, p.2]) := by
  have l1 := r1.len
  have l2 := r2.len
  refine ⟨fun i B H hi e1 e2 => ⟨xs, ys, h1.mono (e1.trans e2), h2.mono (e1.trans e2), by simpa [l1, l2] using hi⟩, fun B H e1 e2 => ⟨xs, ys, h1.mono (e1.trans e2), h2.mono (e1.trans e2), by simp [l1, l2]⟩, fun i B H x H' R hR e1 e2 hy => ?_⟩
  obtain ⟨T, x1, x2, rfl, hT, rfl, f1, f2⟩ := hy
  have g1 := f1 xs (h1.mono (e1.trans e2))
  have g2 := f2 ys (h2.mono (e1.trans e2))
  rw [List.getElem?_map] at hR
  obtain ⟨p, hp, rfl⟩ := Option.map_eq_some_iff.mp hR
  obtain ⟨p1, p2⟩ := zip_get hp
  obtain ⟨y1, c1, d1⟩ := r1.get p1
  obtain ⟨y2, c2, d2⟩ := r2.get p2
  rw [g1] at c1
  rw [g2] at c2
  cases c1
  cases c2
  have s1 : Same Bz (upd B T (.tup [x1, x2])) := e1.trans (same_new (none_sub e2 hT))
  exact ⟨upd B T (.tup [x1, x2]), Nx.new e2 hT, T, [x1, x2], rfl, .of upd_same, .cons (p.1.mono _ _ _ s1 d1) (.cons (p.2.mono _ _ _ s1 d2) .nil)⟩
theorem walk_z3 {K : PySem.W.Frag} {k1 k2 k3 : Bool} {Bz : Hp} {a b c : Addr} {xs ys zs : List V} {Rs Ss Ts : List Rep} (h1 : SqK K k1 Bz a xs) (h2 : SqK K k2 Bz b ys) (h3 : SqK K k3 Bz c zs) (r1 : All2 Rs Bz xs) (r2 : All2 Ss Bz ys) (r3 : All2 Ts Bz zs) :
    WalkB (Iz3 K k1 k2 k3 a b c) Bz (((Rs.zip Ss).zip Ts).map fun p => rTup K [p.1.1, p.1.2, p.2]) := by
  have l1 := r1.len
  have l2 := r2.len
  have l3 := r3.len
  refine ⟨fun i B H hi e1 e2 => ⟨xs, ys, zs, h1.mono (e1.trans e2), h2.mono (e1.trans e2), h3.mono (e1.trans e2), by simpa [l1, l2, l3] using hi⟩, fun B H e1 e2 => ⟨xs, ys, zs, h1.mono (e1.trans e2), h2.mono (e1.trans e2), h3.mono (e1.trans e2), by simp [l1, l2, l3]⟩, fun i B H x H' R hR e1 e2 hy => ?_⟩
  obtain ⟨T, x1, x2, x3, rfl, hT, rfl, f1, f2, f3⟩ := hy
  have g1 := f1 xs (h1.mono (e1.trans e2))
  have g2 := f2 ys (h2.mono (e1.trans e2))
  have g3 := f3 zs (h3.mono (e1.trans e2))
  rw [List.getElem?_map] at hR
  obtain ⟨p, hp, rfl⟩ := Option.map_eq_some_iff.mp hR
  obtain ⟨p12, p3⟩ := zip_get hp
  obtain ⟨p1, p2⟩ := zip_get p12
  obtain ⟨y1, c1, d1⟩ := r1.get p1
  obtain ⟨y2, c2, d2⟩ := r2.get p2
  obtain ⟨y3, c3, d3⟩ := r3.get p3
  rw [g1] at c1
  rw [g2] at c2
  rw [g3] at c3
  cases c1
  cases c2
  cases c3
  have s1 : Same Bz (upd B T (.tup [x1, x2, x3])) := e1.trans (same_new (none_sub e2 hT))
  exact ⟨upd B T (.tup [x1, x2, x3]), Nx.new e2 hT, T, [x1, x2, x3], rfl, .of upd_same, .cons (p.1.1.mono _ _ _ s1 d1) (.cons (p.1.2.mono _ _ _ s1 d2) (.cons (p.2.mono _ _ _ s1 d3) .nil))⟩
/-- the items with their numbers -/
def numbered (K : PySem.W.Frag) (Rs : List Rep) : List Rep := (List.range Rs.length).map fun (i : Nat) => rTup K [rD K (.int (i : Int)), Rs.getD i ⟨fun _ _ => True, fun _ _ _ _ h => h⟩]
theorem walk_en {K : PySem.W.Frag} {k : Bool} {Bz : Hp} {a : Addr} {xs : List V} {Rs : List Rep} (h1 : SqK K k Bz a xs) (r1 : All2 Rs Bz xs) : WalkB (Ien K k a) Bz (numbered K Rs) := by
  have l1 := r1.len
  refine ⟨fun i B H hi e1 e2 => ⟨xs, h1.mono (e1.trans e2), by simpa [numbered, l1] using hi⟩, fun B H e1 e2 => ⟨xs, h1.mono (e1.trans e2), by simp [numbered, l1]⟩, fun i B H x H' R hR e1 e2 hy => ?_⟩
  obtain ⟨T, x1, rfl, hT, rfl, f1⟩ := hy
  have g1 := f1 xs (h1.mono (e1.trans e2))
  unfold numbered at hR
  rw [List.getElem?_map] at hR
  have hi : i < Rs.length := by
    rw [l1]
    exact (List.getElem?_eq_some_iff.mp g1).1
  rw [List.getElem?_range hi] at hR
  have e3 := Option.some.inj (show some _ = some R from hR)
  subst e3
  obtain ⟨y1, c1, d1⟩ := r1.get (List.getElem?_eq_getElem hi)
  rw [g1] at c1
  cases c1
  have s1 : Same Bz (upd B T (.tup [.int (i : Nat), x1])) := e1.trans (same_new (none_sub e2 hT))
  refine ⟨upd B T (.tup [.int (i : Nat), x1]), Nx.new e2 hT, T, [.int (i : Nat), x1], rfl, .of upd_same, .cons (rD_int.mpr rfl) (.cons ?_ .nil)⟩
  have e4 : Rs.getD i ⟨fun _ _ => True, fun _ _ _ _ h => h⟩ = Rs[i] := by simp [List.getD, hi]
  rw [e4]
  exact Rs[i].mono _ _ _ s1 d1
section
variable {K : PySem.W.Frag} {Γ : Ctx} {te : TE} {ta : TA} {Rs Ss Ts : List Rep}
theorem ei_list (h : Ev Γ te (rLst K Rs)) : EvI Γ (iList K te) Rs := fun σ B H x N q => h σ B H x _ fun v B2 H2 y ⟨a, xs, e, hs, ha⟩ => ⟨a, e, ⟨xs, y.c.seq hs⟩, q _ B2 H2 y (walk_L hs ha)⟩
theorem ei_tup (h : Ev Γ te (rTup K Rs)) : EvI Γ (iTup K te) Rs := fun σ B H x N q => h σ B H x _ fun v B2 H2 y ⟨a, xs, e, hs, ha⟩ => ⟨a, e, ⟨xs, Evl.ex_t y.c hs⟩, q _ B2 H2 y (walk_T hs ha)⟩
theorem ei_sq (h : Ev Γ te (rSeq K Rs)) : EvI Γ (iSq K te) Rs := fun σ B H x N q => h σ B H x _ fun v B2 H2 y r => by
  rcases r with ⟨a, xs, e, hs, ha⟩ | ⟨a, xs, e, hs, ha⟩
  · exact ⟨a, e, .inl ⟨⟨xs, y.c.seq hs⟩, q _ B2 H2 y (walk_L hs ha)⟩⟩
  · exact ⟨a, e, .inr ⟨⟨xs, Evl.ex_t y.c hs⟩, q _ B2 H2 y (walk_T hs ha)⟩⟩
theorem ei_range {n : Int} (h0 : n < 2 ^ 62) (hl : -(2 ^ 62) ≤ n) (h : EvA Γ ta [rD K (.int n)]) : EvI Γ (iRng1 ta) ((List.range n.toNat).map fun (i : Nat) => rD K (.int (0 + (i : Int)))) := fun σ B H x N q => h σ B H x _ fun vs B2 H2 y r => by
  obtain ⟨v, rfl, rv⟩ := all2_1 r
  cases rD_int.mp rv
  exact ⟨n, rfl, hl, h0, q _ B2 H2 y walk_R⟩
/-- a list or a tuple by a mark -/
def kSeq (K : PySem.W.Frag) (Rs : List Rep) : Rep := rSeq K Rs
theorem seq_k {B : Hp} {v : V} (h : (rSeq K Rs).p B v) : ∃ k a xs, v = .ref a ∧ SqK K k B a xs ∧ All2 Rs B xs := by
  rcases h with ⟨a, xs, e, hs, ha⟩ | ⟨a, xs, e, hs, ha⟩
  · exact ⟨false, a, xs, e, hs, ha⟩
  · exact ⟨true, a, xs, e, hs, ha⟩
theorem ei_z2 (h : EvA Γ ta [rSeq K Rs, rSeq K Ss]) : EvI Γ (iZ2 K ta) ((Rs.zip Ss).map fun p => rTup K [p.1, p.2]) := fun σ B H x N q => h σ B H x _ fun vs B2 H2 y r => by
  obtain ⟨v1, v2, rfl, r1, r2⟩ := all2_2 r
  obtain ⟨k1, a1, xs, rfl, h1, g1⟩ := seq_k r1
  obtain ⟨k2, a2, ys, rfl, h2, g2⟩ := seq_k r2
  exact ⟨k1, k2, a1, a2, xs, ys, rfl, h1.mono y.c, h2.mono y.c, q _ B2 H2 y (walk_z2 h1 h2 g1 g2)⟩
theorem ei_z3 (h : EvA Γ ta [rSeq K Rs, rSeq K Ss, rSeq K Ts]) : EvI Γ (iZ3 K ta) (((Rs.zip Ss).zip Ts).map fun p => rTup K [p.1.1, p.1.2, p.2]) := fun σ B H x N q => h σ B H x _ fun vs B2 H2 y r => by
  obtain ⟨v1, v2, v3, rfl, r1, r2, r3⟩ := all2_3 r
  obtain ⟨k1, a1, xs, rfl, h1, g1⟩ := seq_k r1
  obtain ⟨k2, a2, ys, rfl, h2, g2⟩ := seq_k r2
  obtain ⟨k3, a3, zs, rfl, h3, g3⟩ := seq_k r3
  exact ⟨k1, k2, k3, a1, a2, a3, xs, ys, zs, rfl, h1.mono y.c, h2.mono y.c, h3.mono y.c, q _ B2 H2 y (walk_z3 h1 h2 h3 g1 g2 g3)⟩
theorem ei_en (h : EvA Γ ta [rSeq K Rs]) : EvI Γ (iEn K ta) (numbered K Rs) := fun σ B H x N q => h σ B H x _ fun vs B2 H2 y r => by
  obtain ⟨v1, rfl, r1⟩ := all2_1 r
  obtain ⟨k1, a1, xs, rfl, h1, g1⟩ := seq_k r1
  exact ⟨k1, a1, xs, rfl, h1.mono y.c, q _ B2 H2 y (walk_en h1 g1)⟩
end

/-! ### targets -/
def EvG (Γ : Ctx) (g : TG) (R : Rep) (Γ' : Ctx) : Prop := ∀ σ B H v, At Γ B H σ → R.p B v → ∀ Q : L2.St → Hp → Prop, (∀ σ', At Γ' B H σ' → Q σ' H) → g v σ H Q
theorem eg_name {Γ : Ctx} {i : Nat} {R : Rep} : EvG Γ (gName i) R (Γ.set i R) := fun σ B H v x r Q q => q _ (x.set i r)
theorem eg_tup2 {K : PySem.W.Frag} {Γ : Ctx} {i j : Nat} {R S : Rep} : EvG Γ (gTup K 2 (gCons (gName i) (gCons (gName j) gNil))) (rTup K [R, S]) ((Γ.set i R).set j S) := fun σ B H v x r Q q => by
  obtain ⟨a, xs, rfl, hs, ha⟩ := r
  obtain ⟨u, w, rfl, h1, h2⟩ := all2_2 ha
  exact ⟨a, [u, w], rfl, Evl.ex_t x.c hs, rfl, u, [w], rfl, w, [], rfl, rfl, q _ ((x.set i h1).set j h2)⟩
theorem eg_tup3 {K : PySem.W.Frag} {Γ : Ctx} {i j l : Nat} {R S T : Rep} : EvG Γ (gTup K 3 (gCons (gName i) (gCons (gName j) (gCons (gName l) gNil)))) (rTup K [R, S, T]) (((Γ.set i R).set j S).set l T) := fun σ B H v x r Q q => by
  obtain ⟨a, xs, rfl, hs, ha⟩ := r
  obtain ⟨u, w, z, rfl, h1, h2, h3⟩ := all2_3 ha
  exact ⟨a, [u, w, z], rfl, Evl.ex_t x.c hs, rfl, u, [w, z], rfl, w, [z], rfl, z, [], rfl, rfl, q _ (((x.set i h1).set j h2).set l h3)⟩
/-- target = value -/
theorem gx_asg {B0 H0 : Hp} {Γ Γ' : Ctx} {te : TE} {g : TG} {R : Rep} {D : Ends} (h : Ev Γ te R) (hg : EvG Γ g R Γ') (k : Gx B0 H0 Γ' D.nx) : Gx B0 H0 Γ (tAsg te g D) := fun σ H ⟨B, x, a⟩ =>
  h σ B H a _ fun v B2 H2 y r => hg σ B2 H2 v (a.next y) r _ fun σ' a' => k σ' H2 ⟨B2, x.trans y, a'⟩

/-! ### for -/
/-- the base of a later state, the heap of the entry -/
theorem Nx.mix {B0 H0 B1 H1 B H : Hp} (x : Nx B0 H0 B1 H1) (y : Nx B1 H0 B H) : Nx B0 H0 B H := ⟨x.b.trans y.b, y.h, y.c, fun a h1 h2 => y.f a (x.f a h1 h2) h2⟩
theorem Nx.mid {B0 H0 B1 H1 : Hp} (x : Nx B0 H0 B1 H1) : Nx B1 H0 B1 H1 := ⟨Same.refl _, x.h, x.c, fun _ h _ => h⟩
theorem Ret.mix {B0 H0 B1 H1 : Hp} {R : Rep} {Q : VK} (q : Ret B0 H0 R Q) (x : Nx B0 H0 B1 H1) : Ret B1 H0 R Q := fun v B H y r => q v B H (x.mix y) r
theorem Gx.mix {B0 H0 B1 H1 : Hp} {Γ : Ctx} {N : L2.St → Hp → Prop} (k : Gx B0 H0 Γ N) (x : Nx B0 H0 B1 H1) : Gx B1 H0 Γ N := fun σ H ⟨B, y, a⟩ => k σ H ⟨B, x.mix y, a⟩
/-- the invariant W by the turn; the body's wish N -/
theorem gx_for {B0 H0 : Hp} {Γ : Ctx} {wi : TI} {g : TG} {tb : TS} {D : Ends} {Rs : List Rep} (h : EvI Γ wi Rs) (W : Nat → Ctx → Prop) (w0 : W 0 Γ)
    (turn : ∀ B1 H1, Nx B0 H0 B1 H1 → ∀ (i : Nat) (Γi : Ctx) (R : Rep), Rs[i]? = some R → W i Γi → ∃ Γg, EvG Γi g R Γg ∧ ∀ N : L2.St → Hp → Prop, (∀ Γ2, W (i + 1) Γ2 → Gx B1 H0 Γ2 N) → Gx B1 H0 Γg (tb { D with nx := N, ct := N, bk := D.nx }))
    (done : ∀ Γn, W Rs.length Γn → Gx B0 H0 Γn D.nx) : Gx B0 H0 Γ (tFor wi g tb D) := fun σ H ⟨B, x, a⟩ =>
  h σ B H a _ fun J B' H' y wk => by
    have x' := x.trans y
    refine ⟨fun i m σ2 H2 => m = Rs.length - i ∧ i ≤ Rs.length ∧ ∃ Γi, W i Γi ∧ Reach B' H0 Γi σ2 H2, ⟨_, rfl, Nat.zero_le _, Γ, w0, B', x'.mid, a.next y⟩, ?_⟩
    rintro i m σ2 H2 ⟨rfl, hi, Γi, wi', B2, x2, a2⟩
    by_cases hlt : i < Rs.length
    · refine .inr ⟨wk.goes i B2 H2 hlt x2.b x2.c, fun σ3 H3 => ∃ Γ3, W (i + 1) Γ3 ∧ Reach B' H0 Γ3 σ3 H3, fun σ3 H3 ⟨Γ3, w3, r3⟩ => ⟨Rs.length - (i + 1), by omega, rfl, hlt, Γ3, w3, r3⟩, fun v H3 hy => ?_⟩
      obtain ⟨B3, y3, rv⟩ := wk.yields i B2 H2 v H3 Rs[i] (List.getElem?_eq_getElem hlt) x2.b x2.c hy
      obtain ⟨Γg, hg, hb⟩ := turn B' H' x' i Γi Rs[i] (List.getElem?_eq_getElem hlt) wi'
      exact hg σ2 B3 H3 v (a2.next y3) rv _ fun σ4 a4 => hb _ (fun Γ2 w2 σ5 H5 r5 => ⟨Γ2, w2, r5⟩) σ4 H3 ⟨B3, x2.trans y3, a4⟩
    · have e : i = Rs.length := by omega
      subst e
      exact .inl ⟨wk.stops B2 H2 x2.b x2.c, done Γi wi' σ2 H2 ⟨B2, x'.mix x2, a2⟩⟩
/-- the same where each state is told by the turn -/
theorem gx_forF {B0 H0 : Hp} {wi : TI} {g : TG} {tb : TS} {D : Ends} {Rs : List Rep} (F : Nat → Ctx) (h : EvI (F 0) wi Rs)
    (turn : ∀ B1 H1, Nx B0 H0 B1 H1 → ∀ (i : Nat) (R : Rep), Rs[i]? = some R → ∃ Γg, EvG (F i) g R Γg ∧ ∀ N : L2.St → Hp → Prop, Gx B1 H0 (F (i + 1)) N → Gx B1 H0 Γg (tb { D with nx := N, ct := N, bk := D.nx }))
    (done : Gx B0 H0 (F Rs.length) D.nx) : Gx B0 H0 (F 0) (tFor wi g tb D) :=
  gx_for h (fun i Γ => Γ = F i) rfl (fun B1 H1 x i Γi R hR e => by
    subst e
    obtain ⟨Γg, h1, h2⟩ := turn B1 H1 x i R hR
    exact ⟨Γg, h1, fun N k => h2 N (k _ rfl)⟩) fun Γn e => by subst e; exact done
/-- slots may be forgotten -/
theorem gx_weak {B0 H0 : Hp} {Γ Γ' : Ctx} {N : L2.St → Hp → Prop} (hl : Γ'.r.length = Γ.r.length) (hr : ∀ (i : Nat) (R : Rep), Γ'.r[i]? = some (some R) → ∃ S, Γ.r[i]? = some (some S) ∧ ∀ B v, S.p B v → R.p B v) (ho : Γ'.o = Γ.o) (k : Gx B0 H0 Γ' N) : Gx B0 H0 Γ N := fun σ H ⟨B, x, a⟩ =>
  k σ H ⟨B, x, a.c, ⟨by rw [hl]; exact a.e.len, fun i R e => by
    obtain ⟨S, h1, h2⟩ := hr i R e
    obtain ⟨v, h3, h4⟩ := a.e.at_ i S h1
    exact ⟨v, h3, h2 B v h4⟩⟩, by rw [ho]; exact a.nd, by rw [ho]; exact a.o⟩
/-- a slot forgotten -/
theorem gx_drop_slot {B0 H0 : Hp} {Γ : Ctx} {N : L2.St → Hp → Prop} (i : Nat) (k : Gx B0 H0 { Γ with r := Γ.r.set i none } N) : Gx B0 H0 Γ N := gx_weak (Γ' := { Γ with r := Γ.r.set i none }) (by simp) (fun j R e => by
    by_cases q : i = j
    · subst q
      by_cases hl : i < Γ.r.length
      · rw [show ({ Γ with r := Γ.r.set i none } : Ctx).r[i]? = some none from List.getElem?_set_self hl] at e
        cases e
      · rw [List.getElem?_eq_none (by rw [List.length_set]; omega)] at e
        cases e
    · rw [show ({ Γ with r := Γ.r.set i none } : Ctx).r[j]? = Γ.r[j]? from List.getElem?_set_ne q] at e
      exact ⟨R, e, fun _ _ h => h⟩) rfl k

/-! ### while: W with its measure -/
theorem gx_while {B0 H0 : Hp} {Γ : Ctx} {c : TT} {tb : TS} {D : Ends} (W : Nat → Ctx → Prop) (m0 : Nat) (w0 : W m0 Γ)
    (turn : ∀ (m : Nat) (Γm : Ctx), W m Γm → ∃ b, EvT Γm c b ∧ (b = true → ∀ N : L2.St → Hp → Prop, (∀ m2 Γ2, m2 < m → W m2 Γ2 → Gx B0 H0 Γ2 N) → Gx B0 H0 Γm (tb { D with nx := N, ct := N, bk := D.nx })) ∧ (b = false → Gx B0 H0 Γm D.nx)) :
    Gx B0 H0 Γ (tWhile c tb D) := fun σ H r => by
  refine ⟨fun m σ2 H2 => ∃ Γm, W m Γm ∧ Reach B0 H0 Γm σ2 H2, ⟨m0, Γ, w0, r⟩, ?_⟩
  rintro m σ2 H2 ⟨Γm, wm, B2, x2, a2⟩
  obtain ⟨b, hb, h1, h2⟩ := turn m Γm wm
  refine hb σ2 B2 H2 a2 _ fun B3 H3 y => ?_
  cases b with
  | true =>
    exact ⟨fun σ4 H4 => ∃ m2 Γ2, m2 < m ∧ W m2 Γ2 ∧ Reach B0 H0 Γ2 σ4 H4, fun σ4 H4 ⟨m2, Γ2, l, w2, r2⟩ => ⟨m2, l, Γ2, w2, r2⟩, h1 rfl _ (fun m2 Γ2 l w2 σ5 H5 r5 => ⟨m2, Γ2, l, w2, r5⟩) σ2 H3 ⟨B3, x2.trans y, a2.next y⟩⟩
  | false => exact h2 rfl σ2 H3 ⟨B3, x2.trans y, a2.next y⟩

/-! ### [elt for target in iter if test] -/
theorem eg_wiped {Γ Γ' : Ctx} {g : TG} {R : Rep} {vs : List Nat} (_ : EvG (Γ.wipe vs) g R Γ') : True := trivial
/-- targets that store in vs alone -/
def StoresIn (g : TG) (vs : List Nat) : Prop := ∀ v σ H Q, g v σ H Q → g v σ H fun σ2 H2 => L2.wipe σ2 vs = L2.wipe σ vs ∧ Q σ2 H2
theorem si_name {i : Nat} {vs : List Nat} (h : i ∈ vs) : StoresIn (gName i) vs := fun v σ H Q q => ⟨wipe_set h, q⟩
theorem si_tup2 {K : PySem.W.Frag} {n i j : Nat} {vs : List Nat} (h : i ∈ vs) (k : j ∈ vs) : StoresIn (gTup K n (gCons (gName i) (gCons (gName j) gNil))) vs := fun v σ H Q q => by
  obtain ⟨a, xs, e1, e2, e3, u, r, e4, w, r2, e5, e6, q⟩ := q
  exact ⟨a, xs, e1, e2, e3, u, r, e4, w, r2, e5, e6, by rw [wipe_set k, wipe_set h], q⟩
theorem si_tup3 {K : PySem.W.Frag} {n i j l : Nat} {vs : List Nat} (h : i ∈ vs) (k : j ∈ vs) (m : l ∈ vs) : StoresIn (gTup K n (gCons (gName i) (gCons (gName j) (gCons (gName l) gNil)))) vs := fun v σ H Q q => by
  obtain ⟨a, xs, e1, e2, e3, u, r, e4, w, r2, e5, z, r3, e6, e7, q⟩ := q
  exact ⟨a, xs, e1, e2, e3, u, r, e4, w, r2, e5, z, r3, e6, e7, by rw [wipe_set m, wipe_set k, wipe_set h], q⟩
section
variable {K : PySem.W.Frag} {Γ : Ctx} {wi : TI} {g : TG} {tt : TT} {te : TE} {vs : List Nat} {Rs : List Rep}
theorem kept_succ {α : Type} {f : Nat → Bool} {S : Nat → α} {i : Nat} : ((List.range (i + 1)).filter f).map S = ((List.range i).filter f).map S ++ if f i = true then [S i] else [] := by
  rw [List.range_succ, List.filter_append, List.map_append]
  cases h : f i <;> simp [h]
/-- by the turn: f whether it is kept, S what is made -/
theorem ev_lcN (f : Nat → Bool) (S : Nat → Rep) (hn : Rs.length ≤ 100000) (h : EvI Γ wi Rs) (hs : StoresIn g vs)
    (turn : ∀ (i : Nat) (R : Rep), Rs[i]? = some R → ∃ Γg, EvG (Γ.wipe vs) g R Γg ∧ EvT Γg tt (f i) ∧ (f i = true → Ev Γg te (S i))) :
    Ev Γ (tLc wi g tt te vs) (rLst K (((List.range Rs.length).filter f).map S)) := fun σ B H a Q q =>
  h σ B H a _ fun J B1 H1 y wk Dl hD => by
    have a1 := a.next y
    have inv : ∀ (i m : Nat) (H2 : Hp), (m = Rs.length - i ∧ i ≤ Rs.length ∧ ∃ B2 xs, Nx B1 H1 B2 H2 ∧ B2 Dl = none ∧ H2 Dl = some (.lst xs) ∧ All2 (((List.range i).filter f).map S) B2 xs) → _ := fun i m H2 z => z
    refine ⟨fun i m H2 => m = Rs.length - i ∧ i ≤ Rs.length ∧ ∃ B2 xs, Nx B1 H1 B2 H2 ∧ B2 Dl = none ∧ H2 Dl = some (.lst xs) ∧ All2 (((List.range i).filter f).map S) B2 xs,
      ⟨_, rfl, Nat.zero_le _, B1, [], Nx.newM y.c hD, none_sub y.c hD, upd_same, .nil⟩, ?_⟩
    rintro i m H2 ⟨rfl, hi, B2, xs, x2, hb, hl, r2⟩
    by_cases hlt : i < Rs.length
    · refine .inr ⟨wk.goes i B2 H2 hlt x2.b x2.c, fun H3 => ∃ B3 xs3, Nx B1 H1 B3 H3 ∧ B3 Dl = none ∧ H3 Dl = some (.lst xs3) ∧ All2 (((List.range (i + 1)).filter f).map S) B3 xs3,
        fun H3 z => ⟨Rs.length - (i + 1), by omega, rfl, hlt, z⟩, fun v H3 hy => ?_⟩
      obtain ⟨B3, y3, rv⟩ := wk.yields i B2 H2 v H3 Rs[i] (List.getElem?_eq_getElem hlt) x2.b x2.c hy
      obtain ⟨Γg, hg, ht, he⟩ := turn i Rs[i] (List.getElem?_eq_getElem hlt)
      have aw : At (Γ.wipe vs) B3 H3 (L2.wipe σ vs) := by
        refine ⟨y3.c, (a1.wipe vs).e.mono (x2.b.trans y3.b), a.nd, fun p hp => ?_⟩
        obtain ⟨h1, ho, h2, h3⟩ := a1.o p hp
        exact ⟨(x2.trans y3).own h1 h2, ho, (x2.trans y3).h _ _ h2, p.2.mono _ _ _ (x2.trans y3).b h3⟩
      have len : xs.length < sizeLine := by
        have e1 := r2.len
        rw [List.length_map] at e1
        have e2 := List.length_filter_le f (List.range i)
        rw [List.length_range] at e2
        exact Evl.sz_lt (by omega)
      have hd3 : B3 Dl = none := y3.own hb hl
      have hl3 : H3 Dl = some (.lst xs) := y3.h _ _ hl
      have r3 := r2.mono y3.b
      have fin := hs v (L2.wipe σ vs) H3 _ (hg (L2.wipe σ vs) B3 H3 v aw rv (fun σ4 H4 => tt σ4 H4 fun b H5 => if b = true then te σ4 H5 fun y H6 => ∃ acc, H6 Dl = some (.lst acc) ∧ acc.length < sizeLine ∧
          (∃ B7 xs7, Nx B1 H1 B7 (upd H6 Dl (.lst (acc ++ [y]))) ∧ B7 Dl = none ∧ (upd H6 Dl (.lst (acc ++ [y]))) Dl = some (.lst xs7) ∧ All2 (((List.range (i + 1)).filter f).map S) B7 xs7) else
          ∃ B7 xs7, Nx B1 H1 B7 H5 ∧ B7 Dl = none ∧ H5 Dl = some (.lst xs7) ∧ All2 (((List.range (i + 1)).filter f).map S) B7 xs7) fun σ4 a4 => ?_)
      · rw [wipe_wipe] at fin
        exact fin
      · refine ht σ4 B3 H3 a4 _ fun B5 H5 y5 => ?_
        have x5 := (x2.trans y3).trans y5
        have hd5 := y5.own hd3 hl3
        have hl5 := y5.h _ _ hl3
        cases hf : f i with
        | true =>
          refine he hf σ4 B5 H5 (a4.next y5) _ fun u B6 H6 y6 ru => ⟨xs, y6.h _ _ hl5, len, B6, xs ++ [u], (x5.trans y6).mut hD (y6.own hd5 hl5), y6.own hd5 hl5, upd_same, ?_⟩
          rw [kept_succ, hf, if_pos rfl]
          exact (r3.mono (y5.b.trans y6.b)).snoc ru
        | false =>
          refine ⟨B5, xs, x5, hd5, hl5, ?_⟩
          rw [kept_succ, hf, if_neg (by decide), List.append_nil]
          exact r3.mono y5.b
    · have e : i = Rs.length := by omega
      subst e
      have x3 := x2.seal hD hb hl
      exact .inl ⟨wk.stops B2 H2 x2.b x2.c, q _ _ H2 (y.trans x3) ⟨Dl, xs, rfl, .of upd_same, r2.mono (same_new hb)⟩⟩
/-- by the things walked: ls -/
theorem ev_lc {ι : Type} {R S : ι → Rep} (ls : List ι) (f : ι → Bool) (hn : ls.length ≤ 100000) (h : EvI Γ wi (ls.map R)) (hs : StoresIn g vs)
    (turn : ∀ l ∈ ls, ∃ Γg, EvG (Γ.wipe vs) g (R l) Γg ∧ EvT Γg tt (f l) ∧ (f l = true → Ev Γg te (S l))) : Ev Γ (tLc wi g tt te vs) (rLst K ((ls.filter f).map S)) := by
  cases ls with
  | nil =>
    exact ev_lcN (fun _ => true) (fun _ => ⟨fun _ _ => True, fun _ _ _ _ h => h⟩) hn h hs fun i R hR => by simp at hR
  | cons d r =>
    have key := ev_lcN (K := K) (Rs := (d :: r).map R) (fun i => f ((d :: r).getD i d)) (fun i => S ((d :: r).getD i d)) (by simpa using hn) h hs (tt := tt) (te := te) fun i Ri hR => by
      rw [List.getElem?_map] at hR
      obtain ⟨l, hl, rfl⟩ := Option.map_eq_some_iff.mp hR
      have e : (d :: r).getD i d = l := by rw [List.getD, hl] <;> rfl
      show ∃ Γg, EvG (Γ.wipe vs) g (R l) Γg ∧ EvT Γg tt (f ((d :: r).getD i d)) ∧ (f ((d :: r).getD i d) = true → Ev Γg te (S ((d :: r).getD i d)))
      rw [e]
      exact turn l (List.mem_of_getElem? hl)
    have e : ((List.range ((d :: r).map R).length).filter fun i => f ((d :: r).getD i d)).map (fun i => S ((d :: r).getD i d)) = ((d :: r).filter f).map S := by
      have e1 : (List.range ((d :: r).map R).length).map (fun i => (d :: r).getD i d) = d :: r := by
        apply List.ext_getElem?
        intro i
        rw [List.getElem?_map, List.length_map]
        by_cases hi : i < (d :: r).length
        · have e2 : (d :: r).getD i d = (d :: r)[i] := (List.getElem_eq_getD d).symm
          rw [List.getElem?_range hi, List.getElem?_eq_getElem hi]
          exact congrArg some e2
        · rw [List.getElem?_eq_none (by rw [List.length_range]; omega), List.getElem?_eq_none (by omega)]
          rfl
      conv => rhs; rw [← e1]
      rw [List.filter_map, List.map_map]
      rfl
    exact key.eq (by rw [e])
theorem ev_lcA {ι : Type} {R S : ι → Rep} (ls : List ι) (hn : ls.length ≤ 100000) (h : EvI Γ wi (ls.map R)) (hs : StoresIn g vs)
    (turn : ∀ l ∈ ls, ∃ Γg, EvG (Γ.wipe vs) g (R l) Γg ∧ Ev Γg te (S l)) : Ev Γ (tLc wi g tYes te vs) (rLst K (ls.map S)) :=
  (ev_lc ls (fun _ => true) hn h hs fun l hl => by
    obtain ⟨Γg, h1, h2⟩ := turn l hl
    exact ⟨Γg, h1, et_yes, fun _ => h2⟩).eq (by rw [List.filter_eq_self.mpr fun _ _ => rfl])
end
end Sm
namespace Sm
open PySem PySem.Spec PyProof.Rows L2
def top (i : Nat) : Stmt := PySem.Challenge.pw_runcolumns_k62_whole_seams.main.body.getD i (.Pass ⟨0, 0, 0, 0⟩)
/-! ### promises by what goes in and what comes out -/
/-- for every a of which pre holds: arguments with Rs a; a value with T a; what stood stands -/
def SpF {α : Type} (Rs : α → List Rep) (T : α → Rep) (pre : α → Prop) : Sp := fun vs H Q _ => ∃ (a : α) (B : Hp), Same B H ∧ All2 (Rs a) B vs ∧ pre a ∧ Ret B H (T a) Q
theorem rsp_F {α : Type} {Rs : α → List Rep} {T : α → Rep} {pre : α → Prop} (a : α) (h : pre a) : RSp (SpF Rs T pre) (Rs a) (T a) := fun vs B H c r Q E q => ⟨a, B, c, r, h, q⟩
def ctxOf (N : List Str) (Rs : List Rep) : Ctx := { r := Rs.map some ++ List.replicate (N.length - Rs.length) none }
theorem env_start {N : List Str} {Rs : List Rep} {B : Hp} {vs : List V} (h : All2 Rs B vs) : SEnv (ctxOf N Rs).r B (L2.start N vs) := by
  have l := h.len
  unfold ctxOf L2.start
  refine ⟨by simp [l], fun i R e => ?_⟩
  by_cases hi : i < Rs.length
  · rw [List.getElem?_append_left (by rw [List.length_map]; exact hi), List.getElem?_map] at e
    obtain ⟨R', h1, h2⟩ := Option.map_eq_some_iff.mp e
    have h3 : R' = R := Option.some.inj h2
    subst h3
    obtain ⟨v, e1, e2⟩ := h.get h1
    exact ⟨v, by rw [List.getElem?_append_left (by rw [List.length_map, ← l]; exact hi), List.getElem?_map, e1] <;> rfl, e2⟩
  · rw [List.getElem?_append_right (by rw [List.length_map]; omega), List.getElem?_replicate] at e
    split at e <;> cases e
theorem at_start {N : List Str} {Rs : List Rep} {B H : Hp} {vs : List V} (c : Same B H) (h : All2 Rs B vs) : At (ctxOf N Rs) B H (L2.start N vs) := ⟨c, env_start h, List.nodup_nil, fun _ z => nomatch z⟩
abbrev endsOf (Q : VK) : Ends := { nx := fun _ H' => Q .non H', rt := Q }
section
variable {P : Program} {w : World} {K : PySem.W.Frag} {mg : Str → Option Value} {base : Heap} {α : Type} {Rs : α → List Rep} {T : α → Rep} {pre : α → Prop} {t : TS} {f C : Addr} {fd : FuncData} {st : Stmt} {N ps : List Str} {k : Nat} {x qual : Str}
theorem sp_len (len : ∀ a, (Rs a).length = ps.length) : ∀ vs H Q E, SpF Rs T pre vs H Q E → vs.length = ps.length := fun vs H Q E ⟨a, B, c, r, _, _⟩ => by rw [← r.len]; exact len a
theorem sp_run (rd : ∀ a, pre a → ∀ (B0 H0 : Hp) (Q : VK), Ret B0 H0 (T a) Q → Gx B0 H0 (ctxOf N (Rs a)) (t (endsOf Q))) {vs : List V} {H : Hp} {Q : VK} {E : XK} (h : SpF Rs T pre vs H Q E) : t { nx := fun _ H' => Q .non H', rt := Q } (L2.start N vs) H := by
  obtain ⟨a, B, c, r, p, q⟩ := h
  exact rd a p B H Q q _ H ⟨B, Nx.refl c, at_start c r⟩
/-- a def keeps its promise: the derivation of its body, the reading's run -/
theorem cal_F (F : C8.Def K mg x st f fd) (b : Binds K fd ps []) (S : FnScope N ps (C8.fnScope st)) (len : ∀ a, (Rs a).length = ps.length)
    (der : ∀ (cdv : Value) (A : Around) (outer : List Env) (s : Shared) (H : Hp) (E : XK), Room k (A.deeper (envOfC x (C8.fnScope st) s.heap.objs.size f cdv)) → PSs (cxOf C8.CX0 P w K mg base N x (C8.fnScope st) f cdv A outer s H E).nox (C8.fnBody st) t)
    (rd : ∀ a, pre a → ∀ (B0 H0 : Hp) (Q : VK), Ret B0 H0 (T a) Q → Gx B0 H0 (ctxOf N (Rs a)) (t (endsOf Q))) : C8.Cal P w K mg base (k + 1) x (SpF Rs T pre) [] :=
  C8.cal0 F b .nil S (sp_len len) fun cdv A outer s H vs Q E hr h => ⟨t, der cdv A outer s H E hr, sp_run rd h⟩
theorem met_F {m : Str} (c : Cls K C) (me : Meth K C m f) (F : C8.Fun K m qual st f fd) (b : Binds K fd ps []) (S : FnScope N ps (C8.fnScope st)) (len : ∀ a, (Rs a).length = ps.length)
    (der : ∀ (cdv : Value) (A : Around) (outer : List Env) (s : Shared) (H : Hp) (E : XK), Room k (A.deeper (envOfC qual (C8.fnScope st) s.heap.objs.size f cdv)) → PSs (cxOf C8.CX0 P w K mg base N qual (C8.fnScope st) f cdv A outer s H E).nox (C8.fnBody st) t)
    (rd : ∀ a, pre a → ∀ (B0 H0 : Hp) (Q : VK), Ret B0 H0 (T a) Q → Gx B0 H0 (ctxOf N (Rs a)) (t (endsOf Q))) : C8.Met P w K mg base (k + 1) C m (SpF Rs T pre) [] :=
  C8.met0 c me F b S (sp_len len) fun cdv A outer s H vs Q E hr h => ⟨t, der cdv A outer s H E hr, sp_run rd h⟩
end
/-- what a module's built-in names are -/
structure Blt (mg : Str → Option Value) : Prop where
  len : mg "len" = none
  sum : mg "sum" = none
  min : mg "min" = none
  all : mg "all" = none
  zip : mg "zip" = none
  range : mg "range" = none
  enumerate : mg "enumerate" = none
  isinstance : mg "isinstance" = none
  sorted : mg "sorted" = none
  int : mg "int" = none
  bool : mg "bool" = none
  list : mg "list" = none
  tuple : mg "tuple" = none
  dict : mg "dict" = none
  set : mg "set" = none
section
variable {K : PySem.W.Frag} {Γ : Ctx} {te : TE} {R : Rep} {Rs : List Rep}
theorem ints_all {B : Hp} : ∀ {ns : List Int} {xs : List V}, All2 (ns.map fun n => rD K (.int n)) B xs → xs = ns.map V.int
  | [], _, h => by cases h; rfl
  | n :: ns, _, h => by
    cases h with
    | cons h1 h2 => rw [rD_int.mp h1, ints_all h2] <;> rfl
theorem all_ints {B : Hp} : ∀ {ns : List Int}, All2 (ns.map fun n => rD K (.int n)) B (ns.map V.int)
  | [] => .nil
  | n :: ns => .cons (rD_int.mpr rfl) all_ints
theorem bools_all {B : Hp} : ∀ {ns : List Bool} {xs : List V}, All2 (ns.map fun n => rD K (.bool n)) B xs → xs = ns.map V.bl
  | [], _, h => by cases h; rfl
  | n :: ns, _, h => by
    cases h with
    | cons h1 h2 => rw [rD_bl.mp h1, bools_all h2] <;> rfl
theorem rvs_sum {ns : List Int} : RVs (rSum K) [rLst K (ns.map fun n => rD K (.int n))] (rD K (.int ns.sum)) := fun vs B H c r Q q => by
  obtain ⟨v, rfl, a, xs, rfl, hs, h2⟩ := all2_1 r
  have e := ints_all h2
  subst e
  exact ⟨a, ns, rfl, c.seq hs, q _ B H (Nx.refl c) (rD_int.mpr rfl)⟩
theorem rvs_all {bs : List Bool} : RVs (rAll K) [rLst K (bs.map fun n => rD K (.bool n))] (rD K (.bool (bs.all id))) := fun vs B H c r Q q => by
  obtain ⟨v, rfl, a, xs, rfl, hs, h2⟩ := all2_1 r
  have e := bools_all h2
  subst e
  exact ⟨a, bs, rfl, c.seq hs, q _ B H (Nx.refl c) (rD_bl.mpr rfl)⟩
theorem rvs_min {ns : List Int} {m : Int} (h0 : 0 < ns.length) (hm : ∀ z, z ∈ ns → (∀ y, y ∈ ns → z ≤ y) → z = m) : RVs (rMin K) [rLst K (ns.map fun n => rD K (.int n))] (rD K (.int m)) := fun vs B H c r Q q => by
  obtain ⟨v, rfl, a, xs, rfl, hs, h2⟩ := all2_1 r
  have e := ints_all h2
  subst e
  exact ⟨a, ns, rfl, c.seq hs, h0, fun z h1 h2 => by rw [hm z h1 h2]; exact q _ B H (Nx.refl c) (rD_int.mpr rfl)⟩
def rLn (K : PySem.W.Frag) : List V → Hp → VK → Prop := fun xs H Q => ∃ x n, xs = [x] ∧ LenV K x H n ∧ Q (.int n) H
theorem cr_len {X : Cx} : CallR X (.builtin "len") (rLn X.K) := call_len
theorem rvs_len : RVs (rLn K) [rSeq K Rs] (rD K (.int Rs.length)) := fun vs B H c r Q q => by
  obtain ⟨v, rfl, r1⟩ := all2_1 r
  rcases (show (rLst K Rs).p B v ∨ (rTup K Rs).p B v from r1) with ⟨a, xs, rfl, hs, h2⟩ | ⟨a, xs, rfl, hs, h2⟩
  · exact ⟨.ref a, xs.length, rfl, .inl ⟨xs, c.seq hs, rfl⟩, q _ B H (Nx.refl c) (rD_int.mpr (by rw [h2.len]))⟩
  · exact ⟨.ref a, xs.length, rfl, .inr ⟨xs, Evl.ex_t c hs, rfl⟩, q _ B H (Nx.refl c) (rD_int.mpr (by rw [h2.len]))⟩
theorem ev_sqL (h : Ev Γ te (rLst K Rs)) : Ev Γ te (rSeq K Rs) := h.imp fun _ _ r => .inl r
theorem ev_sqT (h : Ev Γ te (rTup K Rs)) : Ev Γ te (rSeq K Rs) := h.imp fun _ _ r => .inr r
theorem ev_unT {ds : List PyData} (h : Ev Γ te (rD K (.tuple ds))) : Ev Γ te (rTup K (ds.map (rD K))) := h.imp fun _ _ => rD_tup.mp
theorem ev_unL {ds : List PyData} (h : Ev Γ te (rD K (.list ds))) : Ev Γ te (rLst K (ds.map (rD K))) := h.imp fun _ _ => rD_lst.mp
theorem ev_mkT {ds : List PyData} (h : Ev Γ te (rTup K (ds.map (rD K)))) : Ev Γ te (rD K (.tuple ds)) := h.imp fun _ _ => rD_tup.mpr
theorem ev_mkL {ds : List PyData} (h : Ev Γ te (rLst K (ds.map (rD K)))) : Ev Γ te (rD K (.list ds)) := h.imp fun _ _ => rD_lst.mpr
/-- a tuple of ints -/
abbrev rInts (K : PySem.W.Frag) (ns : List Int) : Rep := rTup K (ns.map fun n => rD K (.int n))
end
end Sm
namespace Sm
open PySem PySem.Spec PyProof.Rows L2
/-! ### the layer's rules with K told: within a comprehension's block a reading must not name the block -/
section
variable {X : Cx} (K : PySem.W.Frag) {a b e : Expr} {ta tb te : TE} {pos : Pos} {es : List Expr} {tl : TA}
theorem k_eqD (hu : X.A.units + 64 < cLine) (hK : X.K = K := by rfl) : OpR X (compareOp .Eq) (rEqD K) := by subst hK; exact op_eqD hu
theorem k_neD (hu : X.A.units + 64 < cLine) (hK : X.K = K := by rfl) : OpR X (compareOp .NotEq) (rNeD K) := by subst hK; exact op_neD hu
theorem k_in (hK : X.K = K := by rfl) : OpR X (compareOp .In) (rIn K false) := by subst hK; exact op_in_seq
theorem k_nin (hK : X.K = K := by rfl) : OpR X (compareOp .NotIn) (rIn K true) := by subst hK; exact op_notIn_seq
theorem k_ninD (hu : X.A.units + 65 < cLine) (hK : X.K = K := by rfl) : OpR X (compareOp .NotIn) (rNotInD K) := by subst hK; exact op_notInD hu
theorem k_catA (hK : X.K = K := by rfl) : OpR X (binaryOp .Add) (rCatA K) := by subst hK; exact op_catA
theorem k_ix (ha : PE X a ta) (hb : PE X b tb) (hs : PlainIx b) (hK : X.K = K := by rfl) : PE X (.Subscript a b pos) (tOp (rIx K) ta tb) := by subst hK; exact pe_ix ix_seq ha hb hs
theorem k_fld {f : Str} (he : PE X e te) (hb : attributeBase e f X.env (eval e X.env) = eval e X.env) (hK : X.K = K := by rfl) : PE X (.Attribute e f pos) (tFld K te f) := by subst hK; exact pe_fld he hb
theorem k_sq {tg l : Expr} (hl : PE X l te) (hK : X.K = K := by rfl) : PI X tg l (iSq K te) := by subst hK; exact pi_sq hl
theorem k_z2 {tpos p : Pos} {elts : List Expr} {kk : Nat} (hg : Gl X "zip") (hm : X.mg "zip" = none) (ha : PA X [a, b] tl)
    (hs : starEach [a, b] X.env = (false, eval a X.env) :: starEach [b] X.env := by rfl) (hpl : (backTo pos (starEach [b] X.env)).any (·.1) = false := by rfl) (hK : X.K = K := by rfl) :
    PI X (.Tuple elts kk tpos) (.Call (.Name "zip" p) [a, b] [] pos) (iZ2 K tl) := by subst hK; exact pi_z2 hg hm ha hs hpl
theorem k_z3 {tpos p : Pos} {elts : List Expr} {kk : Nat} {c : Expr} (hg : Gl X "zip") (hm : X.mg "zip" = none) (ha : PA X [a, b, c] tl)
    (hs : starEach [a, b, c] X.env = (false, eval a X.env) :: starEach [b, c] X.env := by rfl) (hpl : (backTo pos (starEach [b, c] X.env)).any (·.1) = false := by rfl) (hK : X.K = K := by rfl) :
    PI X (.Tuple elts kk tpos) (.Call (.Name "zip" p) [a, b, c] [] pos) (iZ3 K tl) := by subst hK; exact pi_z3 hg hm ha hs hpl
theorem k_en {tpos p : Pos} {elts : List Expr} {kk : Nat} (hg : Gl X "enumerate") (hm : X.mg "enumerate" = none) (ha : PA X [a] tl) (hs : starEach [a] X.env = [(false, eval a X.env)] := by rfl) (hK : X.K = K := by rfl) :
    PI X (.Tuple elts kk tpos) (.Call (.Name "enumerate" p) [a] [] pos) (iEn K tl) := by subst hK; exact pi_en hg hm ha hs
theorem k_tup {t : TGs} {n k : Nat} (hc : X.calm = true) (h : PGs X es t)
    (hn : (assignEach es X.env).length = n := by rfl) (hst : (assignEach es X.env).findIdx? (·.1) = none := by rfl) (hK : X.K = K := by rfl) : PG X (.Tuple es k pos) (gTup K n t) := by subst hK; exact pg_tup hc h hn hst
theorem k_min (hc : X.calm = true) (hK : X.K = K := by rfl) : CallR X (.builtin "min") (rMin K) := by subst hK; exact cr_min hc
theorem k_all (hc : X.calm = true) (hK : X.K = K := by rfl) : CallR X (.builtin "all") (rAll K) := by subst hK; exact cr_all hc
theorem k_len (hK : X.K = K := by rfl) : CallR X (.builtin "len") (rLn K) := by subst hK; exact call_len
/-- sum of a list or a tuple -/
def rSumS (K : PySem.W.Frag) : List V → Hp → VK → Prop := fun vs H Q => ∃ (b : Bool) (a : Addr) (ns : List Int), vs = [V.ref a] ∧ SqK K b H a (ns.map V.int) ∧ Q (.int ns.sum) H
theorem k_sum (hc : X.calm = true) (hK : X.K = K := by rfl) : CallR X (.builtin "sum") (rSumS K) := by
  subst hK
  intro pins s σ H vs us Q I r ⟨b, a, ns, e, hs, q⟩
  cases b with
  | false => exact cr_sum hc pins s σ H vs us Q I r ⟨a, ns, e, hs, q⟩
  | true =>
    subst e
    obtain ⟨its, rv, p, _⟩ := I.tuple (show SqT X.K H a _ from hs)
    obtain ⟨xs, ex⟩ := (intsAre_of rv).allInts.items
    have hn : numsOf (intItems xs).toList = ns := by rw [← ex]; exact (intsAre_of rv).numsOf
    rw [nums_intItems] at hn
    rw [ex] at p
    rw [Vals.ref1 r]
    refine PySem.W.ktm_sumG (I.ok.hd hc) p fun h' tk t' hk => ?_
    rw [preSum_eq, List.take_of_length_le (by simp), hn]
    exact ⟨.int ns.sum, H, I.kept hk, ⟨_, rfl⟩, q⟩
def rLsOf (K : PySem.W.Frag) : List V → Hp → VK → Prop := fun xs H Q => ∃ p ys, xs = [.ref p] ∧ (SqL K H p ys ∨ SqT K H p ys) ∧ ∀ l, H l = none → Q (.ref l) (upd H l (.lst ys))
theorem k_listOf (hK : X.K = K := by rfl) : CallR X (.type "list") (rLsOf K) := by subst hK; exact call_list_of
def rTpOf (K : PySem.W.Frag) : List V → Hp → VK → Prop := fun xs H Q => ∃ p ys, xs = [.ref p] ∧ ((SqL K H p ys ∧ ∀ l, H l = none → Q (.ref l) (upd H l (.tup ys))) ∨ (SqT K H p ys ∧ Q (.ref p) H))
theorem k_tupleOf (hK : X.K = K := by rfl) : CallR X (.type "tuple") (rTpOf K) := by subst hK; exact call_tuple_of
def rIntOf : List V → Hp → VK → Prop := fun xs H Q => ∃ i, xs = [.int i] ∧ Q (.int i) H
theorem k_int : CallR X (.type "int") rIntOf := fun pins s σ H xs us Q I r ⟨i, e, q⟩ => call_int1 pins s σ H xs us Q I r (.inl ⟨i, e, q⟩)
theorem k_sorted (hK : X.K = K := by rfl) : CallR X (.builtin "sorted") (rSorted K) := by subst hK; exact cr_sorted
theorem k_isi (hK : X.K = K := by rfl) : CallR X (.builtin "isinstance") (rIsi K) := by subst hK; exact call_isi
theorem k_isiT (hK : X.K = K := by rfl) : CallR X (.builtin "isinstance") (rIsiT K) := by subst hK; exact call_isiT
theorem k_slL (hK : X.K = K := by rfl) : SlR X (rSlL K) := by subst hK; exact sl_list
theorem k_revL {k : Nat} {p1 p2 p3 : Pos} (he : PE X e te) (hK : X.K = K := by rfl) : PE X (.Subscript e (.Slice none none (some (.UnaryOp .USub (.Constant (.int 1) k p1) p2)) p3) pos) (tRevL K te) := by subst hK; exact pe_revL he
theorem k_bm {T : String} {name : Str} {id : String} {r : V → List V → Hp → VK → Prop} {o : Expr} {to : TE} {apos cpos : Pos} (pa : PlainAttrs T) (slot : Slot T name id) (hty : typeOf (.builtin id) = pure (.type "method_descriptor")) (hm : MtR X id r) (ho : PE X o to) (ha : PA X (e :: es) tl)
    (h : PE X (.Call (.Attribute o name apos) (e :: es) [] cpos) (tBM X.K T r to tl)) (hK : X.K = K := by rfl) : PE X (.Call (.Attribute o name apos) (e :: es) [] cpos) (tBM K T r to tl) := by subst hK; exact h
theorem mtR_or {id : String} {r r' : V → List V → Hp → VK → Prop} (h : MtR X id r) (h' : MtR X id r') : MtR X id fun x xs H Q => r x xs H Q ∨ r' x xs H Q := MtR.or h h'
/-- isinstance of a value of a built-in type -/
theorem rvs_isi {R : Rep} {n m : String} {bb : Bool} (hR : ∀ B v, R.p B v → TyX K B v (.type n)) (h : kitB n m = some bb) (hm : ∀ (B B' : Hp) (v : V), Same B B' → TyX K B v (.type n) → TyX K B' v (.type n)) :
    RVs (rIsi K) [R, rV (.ty m)] (rD K (.bool bb)) := fun vs B H c r Q q => by
  obtain ⟨v, u, rfl, r1, r2⟩ := all2_2 r
  have e : u = .ty m := r2
  subst e
  exact ⟨v, .ty m, .type n, .type m, bb, rfl, .ty m, hm B H v c (hR B v r1), kit_ty h, q _ B H (Nx.refl c) (rD_bl.mpr rfl)⟩
end

/-! ### rules that lack: xs.extend(tuple), t[::-1], set(t) -/
theorem list_ext_tup (l : Addr) (xs : Array Value) (n : Nat) (b : Addr) (ys : Array Value) (m : Nat) (d : Option Addr) (sl : Array (Option Value))
    (door : ¬ (!xs.isEmpty && Builtin.List.listTooLong (xs.size + ys.size)) = true) (z1 : xs.size ≤ sizeLine) (z2 : xs.size + ys.size ≤ sizeLine + 1) :
    Meets (Builtin.«list.extend» ⟨[.ref l, .ref b], []⟩) (fun _ R s => s.heap.get? l = some { cls := .type "list", dict := none, data := .seq xs n, slots := #[] } ∧
      s.heap.get? b = some { cls := .type "tuple", dict := d, data := .seq ys m, slots := sl } ∧ R (.ok (.ret Value.none)) { s with heap := s.heap.update l (Obj.mapSeq fun x => x ++ ys) }) :=
  .of_wp fun prog w A R s hyp => by
    obtain ⟨hp, g, dr, tk, os⟩ := s
    obtain ⟨hl, hb, hyp⟩ := hyp
    have q1 := AutoSeq1.idx_int
    have q2 := AutoSeq1.sub_tuple_tuple
    have q3 := AutoSeq1.sub_list_list
    have q4 := AutoSeq1.sub_tuple_list
    have q5 := AutoSeq1.sub_list_tuple
    have zz : (xs ++ ys).size ≤ sizeLine + 1 := by rw [Array.size_append]; exact z2
    wp_walk using (wpAny_updateSeq hl rfl (hz := z1) (_hz' := zz)), AutoSeq1.wpAny_loadPart' hl, AutoSeq1.wpAny_loadPart' hb
    exact ⟨_, rfl, hyp⟩
section
variable {X : Cx}
def rExtT (K : PySem.W.Frag) : V → List V → Hp → VK → Prop := fun x vs H Q => ∃ (l b : Addr) (xs zs : List V), x = .ref l ∧ vs = [.ref b] ∧ H l = some (.lst xs) ∧ SqT K H b zs ∧ xs.length + zs.length ≤ sizeLine ∧ Q .non (upd H l (.lst (xs ++ zs)))
theorem mt_extT (K : PySem.W.Frag) (hK : X.K = K := by rfl) : MtM X "list.extend" (rExtT K) := by
  subst hK
  intro pins s σ H x vs v us Q I rx rv ⟨l, b, xs, zs, ex, ev, hl, hb, hz, q⟩
  subst ex ev
  cases rx
  obtain ⟨u, rfl, ru⟩ := rv.one
  cases ru
  obtain ⟨z, its, n, r, el, g⟩ := I.lstM hl
  obtain ⟨ts, r2, ⟨⟨c2, d2, dt2, sl2⟩, g2, hc2, n2, hd2⟩, z2⟩ := I.tuple hb
  simp only at hc2 hd2
  subst hc2 hd2
  have k1 := r.length
  have k2 := r2.length
  have big : its.toArray.size + ts.toArray.size ≤ sizeLine := by simp only [List.size_toArray]; omega
  have door : ¬ (!its.toArray.isEmpty && Builtin.List.listTooLong (its.toArray.size + ts.toArray.size)) = true := by rw [notLongL big, Bool.and_false]; decide
  refine call_meets F.slot_list_extend ⟨_, g, rfl⟩ F.entry_list_extend (F.args_list_extend_2 _ _) (list_ext_tup l its.toArray n b ts.toArray n2 d2 sl2 door (by simp only [List.size_toArray]; omega) (by simp only [List.size_toArray]; omega)) ⟨g, g2, ?_⟩
  exact ⟨.non, _, I.lset (its' := its ++ ts) hl g (by simp) (r.append r2) (by rw [List.length_append]; omega), rfl, q⟩
/-! #### t[::-1] -/
theorem adj_back (n : Nat) : Builtin.Slice.sliceAdjust none none (-1) (n : Int) = ((n : Int) - 1, -1) := by
  unfold Builtin.Slice.sliceAdjust
  simp
theorem places_back (n : Nat) : Builtin.Slice.slicePlaces ((n : Int) - 1) (-1) (-1) = n := by
  unfold Builtin.Slice.slicePlaces
  simp only [show ¬ ((-1 : Int) > 0) by decide, if_false, Int.neg_neg, Int.ediv_one]
  split <;> omega
theorem fm_congr {α β : Type} {f g : α → Option β} : ∀ {l : List α}, (∀ k ∈ l, f k = g k) → l.filterMap f = l.filterMap g
  | [], _ => rfl
  | a :: l, h => by
    rw [List.filterMap_cons, List.filterMap_cons, h a List.mem_cons_self, fm_congr fun k hk => h k (List.mem_cons_of_mem _ hk)]
theorem fm_range {α : Type} : ∀ ys : List α, (List.range ys.length).filterMap (fun k => ys[k]?) = ys
  | [] => rfl
  | y :: ys => by
    rw [List.length_cons, List.range_succ_eq_map, List.filterMap_cons, List.filterMap_map]
    show y :: (List.range ys.length).filterMap (fun k => (y :: ys)[k + 1]?) = y :: ys
    have e : (fun k : Nat => (y :: ys)[k + 1]?) = fun k => ys[k]? := by
      funext k
      simp
    rw [e, fm_range ys]
theorem pick_back (xs : List Value) : ((List.range xs.length).filterMap fun (k : Nat) => xs.toArray[(((xs.length : Int) - 1) + (k : Int) * (-1)).toNat]?) = xs.reverse := by
  rw [fm_congr (g := fun k => xs.reverse[k]?) fun k hk => ?_]
  · have q := fm_range xs.reverse
    rw [List.length_reverse] at q
    exact q
  · have hk' : k < xs.length := List.mem_range.mp hk
    have q : (((xs.length : Int) - 1) + (k : Int) * (-1)).toNat = xs.length - 1 - k := by omega
    rw [q, List.getElem?_reverse hk']
    simp
theorem get_back {prog : Program} {w : World} {A : Around} {E : Value → Shared → Prop} {s : Shared} {t sl : Addr} {xs : List Value} {u : Tok} {Q : Value → Shared → Prop} (ht : IsTup s.heap t xs.toArray) (hs : s.heap.IsSliceOf sl .none .none (.int (-1) u)) (hz : xs.length ≤ sizeLine)
    (h : Q (.ref s.heap.objs.size) { s with heap := s.heap.push { cls := .type "tuple", data := .seq xs.reverse.toArray } }) : wpAny (model prog w) A (getItem (.ref t) (.ref sl)) Q E s := by
  obtain ⟨os, hos, hcs, hds⟩ := id hs
  have hTs : s.TypeIs (.ref sl) "slice" := ⟨os, hos, hcs⟩
  have ok : sizeOk (.seq xs.reverse.toArray) := by
    show xs.reverse.toArray.size ≤ sizeLine
    rw [List.size_toArray, List.length_reverse]
    exact hz
  have hsz : xs.toArray.size = xs.length := List.size_toArray ..
  unfold getItem
  refine wpAny_holding (wpAny_bind (wpAny_sequenceKey ht.typeIs (by decide) ?_))
  refine wpAny_bind (wpAny_callSpecial?_slot (name := Str.ofString "__getitem__") ht.typeIs slot_tuple_getitem (wpAny_call_entry slot_tuple_getitem ht.typeIs entry_tuple_getitem ?_ (args_tuple_getitem _ _)))
  show wpAny _ _ (Builtin.Tuple.tupleItemsOf (.ref t) >>= _) _ _ s
  refine wpAny_bind (tupleItemsOf_ ht (wpAny_bind (wpAny_typeOf hTs ?_)))
  rw [if_pos (by decide)]
  refine wpAny_bind ?_
  unfold Builtin.Slice.sliceApplied Builtin.Slice.sliceFields
  refine wpAny_bind (wpAny_bind (wpAny_field hos hds (x := .none) rfl (wpAny_bind (wpAny_field hos hds (x := .none) rfl (wpAny_bind (wpAny_field hos hds (x := .int (-1) u) rfl (wpAny_pure ?_)))))))
  refine wpAny_bind (slicePart_int ?_)
  show wpAny _ _ (if ((-1 : Int) == 0) = true then _ else _) _ _ s
  rw [if_neg (by decide)]
  refine wpAny_bind (slicePart_none (wpAny_bind (slicePart_none (wpAny_bind (wpAny_pure ?_)))))
  show wpAny _ _ (match Builtin.Slice.sliceAdjust none none (-1) (xs.toArray.size : Int) with | (lo, hi) => pure (lo, (-1 : Int), Builtin.Slice.slicePlaces lo hi (-1))) _ _ s
  rw [hsz, adj_back]
  show wpAny _ _ (pure ((xs.length : Int) - 1, (-1 : Int), Builtin.Slice.slicePlaces ((xs.length : Int) - 1) (-1) (-1))) _ _ s
  rw [places_back]
  refine wpAny_pure ?_
  show wpAny _ _ (if (((xs.length : Int) - 1) == 0 && (-1 : Int) == 1 && xs.length == xs.toArray.size) = true then _ else _) _ _ s
  rw [if_neg (by simp), pick_back]
  first
    | exact wpAny_bind (m := Builtin.Tuple.tupleExact _) (wpAny_newObj_type (wpAny_pure ⟨_, rfl, wpAny_pure h⟩) ok)
    | exact wpAny_bind (m := Builtin.Tuple.tupleExact _) (wpAny_newObj_type (wpAny_bind (wpAny_pure (wpAny_pure ⟨_, rfl, wpAny_pure h⟩))) ok)
    | exact wpAny_bind (wpAny_bind (m := Builtin.Tuple.tupleExact _) (wpAny_newObj_type (wpAny_pure (wpAny_pure ⟨_, rfl, wpAny_pure h⟩)) ok))
    | exact wpAny_bind (wpAny_bind (m := Builtin.Tuple.tupleExact _) (wpAny_newObj_type (wpAny_pure ⟨_, rfl, wpAny_pure h⟩) ok))
def tRevT (K : PySem.W.Frag) (te : TE) : TE := fun σ H Q => te σ H fun x H1 => ∃ a xs, x = .ref a ∧ SqT K H1 a xs ∧ ∀ p, H1 p = none → Q (.ref p) (upd H1 p (.tup xs.reverse))
theorem k_revT (K : PySem.W.Frag) {e : Expr} {te : TE} {k : Nat} {p1 p2 p3 pos : Pos} (he : PE X e te) (hK : X.K = K := by rfl) : PE X (.Subscript e (.Slice none none (some (.UnaryOp .USub (.Constant (.int 1) k p1) p2)) p3) pos) (tRevT K te) := by
  subst hK
  refine ⟨fun pins s σ H Q I h => Subscript_ (thn (he.run pins s σ H _ I h) fun v s1 ⟨x, H1, I1, r1, a, xs, ex, hx, q⟩ => ?_)⟩
  subst ex
  cases r1
  have st : PO X (some (.UnaryOp .USub (.Constant (.int 1) k p1) p2)) (tPart (tUn (rU fun i => .int (-i)) (tC (.int 1)))) := po_some (pe_un un_neg pe_int)
  have nn : PO X none tNoPart := po_none
  refine wpAny_Slice (thn (nn.run pins s1 σ H1 (fun o H2 => o = none ∧ H2 = H1) I1 ⟨rfl, rfl⟩) fun vl s2 ⟨l, H2, I2, pl, e1, e2⟩ => ?_)
  subst e1 e2
  refine thn (nn.run pins s2 σ H2 (fun o H3 => o = none ∧ H3 = H2) I2 ⟨rfl, rfl⟩) fun vu s3 ⟨u, H3, I3, pu, e1, e2⟩ => ?_
  subst e1 e2
  refine thn (st.run pins s3 σ H3 (fun o H4 => o = some (-1) ∧ H4 = H3) I3 ⟨1, rfl, -1, rfl, rfl, rfl⟩) fun vs s4 ⟨o, H4, I4, ps, e1, e2⟩ => ?_
  subst e1 e2
  cases pl
  cases pu
  cases ps with
  | int i t =>
    have I5 : L2.Inv X pins σ H4 { s4 with heap := s4.heap.push { cls := .type "slice", data := .fields #[.none, .none, .int (-1) t] } } := I4.kept (t' := s4.toks) fun b ob q => Heap.get?_push_of_some _ q
    obtain ⟨its, r, ht, hz⟩ := I5.tuple hx
    refine tail_any (ops := [.ref a, .ref s4.heap.objs.size]) ht.typeIs slot_tuple_getitem.lookup ?_ (by with_unfolding_all rfl)
    refine get_back ht (Heap.IsSliceOf.new _ .none .none (.int (-1) t)) (by rw [← r.length]; exact hz) ?_
    refine ⟨.ref _, _, I5.laid (t' := s4.toks) (o := .tup xs.reverse) (fun b ob q => Heap.get?_push_of_some _ q) (Nat.le_refl _) ?_, rfl, q _ (I5.hok.fresh (Nat.le_refl _))⟩
    exact ⟨by rw [List.length_reverse]; exact hz, _, r.reverse, ⟨_, Heap.get?_push_size _ rfl, rfl, _, rfl⟩⟩
/-! #### set(t) of a tuple of ints -/
def rSetT (K : PySem.W.Frag) (w : World) : List V → Hp → VK → Prop := fun vs H Q => ∃ (a : Addr) (ns : List Int), vs = [V.ref a] ∧ SqT K H a (ns.map V.int) ∧ ns.length ≤ 60 ∧ ∀ p n, H p = none → n ≤ ns.length → Q (.ref p) (upd H p (SetO w p (fun j => decide (j ∈ ns)) n))
theorem k_setT (K : PySem.W.Frag) (w : World) (hc : X.calm = true) (hK : X.K = K := by rfl) (hw : X.w = w := by rfl) : CallR X (.type "set") (rSetT K w) := by
  subst hK hw
  intro pins s σ H vs us Q I r ⟨a, ns, e, hs, hl, q⟩
  subst e
  obtain ⟨its, rv, p, _⟩ := I.tuple hs
  rw [Vals.ref1 r]
  refine call_set_tupI ns (I.ok.hd hc) (show s.heap.IsTuple a its.toArray from p) (intsAre_of rv) (by unfold scanBound; omega) fun h' tk c R hcl hk => ?_
  have hn : H s.heap.objs.size = none := I.hok.fresh (Nat.le_refl _)
  exact ⟨.ref _, _, I.laid (t' := tk) hk (Nat.le_refl _) (setO_new R), rfl, q _ c hn hcl⟩
theorem k_sortedSet (w : World) (hc : X.calm = true) (hw : X.w = w := by rfl) : CallR X (.builtin "sorted") (rSortedSet w) := by subst hw; exact cr_sortedSet hc
end
end Sm
namespace Sm
open PySem PySem.Spec PyProof.Rows L2
/-! ### dicts whose keys are nested tuples of ints and None, with int values -/
abbrev NK := NestedKey
mutual
theorem nest_of {X : Cx} {pins : List (Addr × Obj)} {σ : L2.St} {H : Hp} {s : Shared} (I : L2.Inv X pins σ H s) : ∀ (k : NK) (v : V) (u : Value), Dp X.K H v k.data → RelV v u → NestedIs s.heap k u
  | .none, v, u, h, r => by
    cases (show Dp X.K H v .none from h)
    cases r
    exact .none
  | .num i, v, u, h, r => by
    cases (show Dp X.K H v (.int i) from h)
    obtain ⟨t, rfl⟩ := r
    exact .int i t
  | .text x, v, u, h, r => by
    cases (show Dp X.K H v (.str x) from h)
    obtain ⟨t, rfl⟩ := r
    exact .text x t
  | .tup ks, v, u, h, r => by
    cases (show Dp X.K H v (.tuple (NestedKey.datas ks)) from h) with
    | tup hs ha =>
      cases r
      obtain ⟨its, rv, ⟨o, ho, hc, n, hd⟩, _⟩ := I.tuple hs
      exact .tup ho hc hd (nests_of I ks _ its ha rv)
theorem nests_of {X : Cx} {pins : List (Addr × Obj)} {σ : L2.St} {H : Hp} {s : Shared} (I : L2.Inv X pins σ H s) : ∀ (ks : List NK) (vs : List V) (us : List Value), DpAll X.K H vs (NestedKey.datas ks) → Vals vs us → NestedAll s.heap ks us
  | [], vs, us, h, r => by
    cases (show DpAll X.K H vs [] from h)
    cases r
    exact .nil
  | k :: ks, vs, us, h, r => by
    cases (show DpAll X.K H vs (k.data :: NestedKey.datas ks) from h) with
    | cons h1 h2 =>
      cases r with
      | cons r1 r2 => exact .cons (nest_of I k _ _ h1 r1) (nests_of I ks _ _ h2 r2)
end
/-- the object o at d is the dict xs -/
structure DFacts (P : Program) (w : World) (o : Obj) (xs : List (NK × Addr × Value)) : Prop where
  ex : o.ExactDict
  es : ∃ es ep, o.data = .dict es ep ∧ es.toList = xs.map (entryOfKey (nestedKind P w))
  nd : (xs.map (·.1)).Nodup
def dO (o : Obj) (d : Addr) : HO := .ext fun h => h.get? d = some o
theorem dO_ok {P : Program} {w : World} {H : Hp} {h : Heap} {o : Obj} {d : Addr} (e : h.get? d = some o) : ObjOk P w H h d (dO o d) := ⟨e, ⟨o, e⟩, fun _ _ p k => k o p⟩
theorem dO_get {X : Cx} {pins : List (Addr × Obj)} {σ : L2.St} {H : Hp} {s : Shared} {o : Obj} {d : Addr} (I : L2.Inv X pins σ H s) (e : H d = some (dO o d)) : s.heap.get? d = some o := (I.hok d _ e).1
/-- an entry: its key stands, its value is the int -/
def DEnt (K : PySem.W.Frag) (B : Hp) (kv : NK × Int) (x : NK × Addr × Value) : Prop := x.1 = kv.1 ∧ Dp K B (.ref x.2.1) kv.1.data ∧ kv.1.depth ≤ 8 ∧ ∃ t, x.2.2 = .int kv.2 t
structure DAt (P : Program) (w : World) (K : PySem.W.Frag) (B : Hp) (d : Addr) (o : Obj) (xs : List (NK × Addr × Value)) (kvs : List (NK × Int)) : Prop where
  lo : (d == sysModules) = false
  fa : DFacts P w o xs
  en : Paired (DEnt K B) kvs xs
  sz : kvs.length ≤ 100000
theorem DAt.mono {P : Program} {w : World} {K : PySem.W.Frag} {B B' : Hp} {d : Addr} {o : Obj} {xs : List (NK × Addr × Value)} {kvs : List (NK × Int)} (h : DAt P w K B d o xs kvs) (e : Same B B') : DAt P w K B' d o xs kvs :=
  ⟨h.lo, h.fa, paired_mono h.en fun _ _ ⟨a, b, c, f⟩ => ⟨a, dp_mono e _ _ b, c, f⟩, h.sz⟩
def rDct (P : Program) (w : World) (K : PySem.W.Frag) (kvs : List (NK × Int)) : Rep := ⟨fun B v => ∃ d o xs, v = .ref d ∧ B d = some (dO o d) ∧ DAt P w K B d o xs kvs, fun B B' v e ⟨d, o, xs, h1, h2, h3⟩ => ⟨d, o, xs, h1, e _ _ h2, h3.mono e⟩⟩
/-- one's own such dict at d -/
def oDct (P : Program) (w : World) (K : PySem.W.Frag) (d : Addr) (kvs : List (NK × Int)) : Own := ⟨fun B ho => ∃ o xs, ho = dO o d ∧ DAt P w K B d o xs kvs, fun _ _ _ e ⟨o, xs, h1, h2⟩ => ⟨o, xs, h1, h2.mono e⟩⟩
theorem seal_dct {P : Program} {w : World} {K : PySem.W.Frag} {B : Hp} {d : Addr} {ho : HO} {kvs : List (NK × Int)} (h : B d = some ho) (q : (oDct P w K d kvs).p B ho) : (rDct P w K kvs).p B (.ref d) := by
  obtain ⟨o, xs, rfl, f⟩ := q
  exact ⟨d, o, xs, rfl, h, f⟩
/-! what is in it -/
def dget (kvs : List (NK × Int)) (k : NK) : Option Int := (kvs.find? fun p => decide (p.1 = k)).map (·.2)
def dput (kvs : List (NK × Int)) (k : NK) (n : Int) : List (NK × Int) := if (dget kvs k).isSome then kvs.map (fun p => if p.1 = k then (p.1, n) else p) else kvs ++ [(k, n)]
def ddel (kvs : List (NK × Int)) (k : NK) : List (NK × Int) := kvs.filter fun p => decide (p.1 ≠ k)
section
variable {P : Program} {w : World} {K : PySem.W.Frag} {B : Hp} {d : Addr} {o : Obj} {xs : List (NK × Addr × Value)} {kvs : List (NK × Int)}
theorem ent_at {k : NK} : ∀ {kvs : List (NK × Int)} {xs : List (NK × Addr × Value)}, Paired (DEnt K B) kvs xs → (∀ n, dget kvs k = some n → ∃ p t, atKey xs k = some p ∧ p.2 = .int n t) ∧ (dget kvs k = none → atKey xs k = none)
  | _, _, .nil => ⟨fun n h => (by cases h), fun _ => rfl⟩
  | _, _, .cons (a := kv) (b := x) r t => by
    obtain ⟨ih1, ih2⟩ := ent_at (k := k) t
    obtain ⟨e1, e2, e3, tk, e4⟩ := r
    unfold dget atKey at *
    by_cases h : kv.1 = k
    · have hx : x.1 = k := e1.trans h
      rw [List.find?_cons_of_pos (by simpa using h), List.find?_cons_of_pos (by simpa using hx)]
      exact ⟨fun n q => ⟨x.2, tk, rfl, by cases q; exact e4⟩, fun q => by cases q⟩
    · have hx : ¬ x.1 = k := fun q => h (e1.symm.trans q)
      rw [List.find?_cons_of_neg (by simpa using h), List.find?_cons_of_neg (by simpa using hx)]
      exact ⟨ih1, ih2⟩
theorem ent_some {k : NK} (h : Paired (DEnt K B) kvs xs) : (atKey xs k).isSome = (dget kvs k).isSome := by
  obtain ⟨h1, h2⟩ := ent_at (k := k) h
  cases q : dget kvs k with
  | none => rw [h2 q]; rfl
  | some n =>
    obtain ⟨p, t, e, _⟩ := h1 n q
    rw [e]; rfl
theorem ent_put {k : NK} {a : Addr} {n : Int} {t : Tok} (h : Paired (DEnt K B) kvs xs) (hk : Dp K B (.ref a) k.data) (hd : k.depth ≤ 8) : Paired (DEnt K B) (dput kvs k n) (storedH xs k a (.int n t)) := by
  unfold dput storedH
  rw [ent_some h]
  by_cases q : (dget kvs k).isSome = true
  · rw [if_pos q, if_pos q]
    clear q
    induction h with
    | nil => exact .nil
    | cons r tl ih =>
      refine .cons ?_ ih
      obtain ⟨e1, e2, e3, tk, e4⟩ := r
      unfold putAt
      rename_i kv x _ _
      by_cases hh : kv.1 = k
      · show DEnt K B (if kv.1 = k then (kv.1, n) else kv) _
        rw [if_pos hh, if_pos (e1.trans hh)]
        exact ⟨e1, e2, e3, t, rfl⟩
      · show DEnt K B (if kv.1 = k then (kv.1, n) else kv) _
        rw [if_neg hh, if_neg fun z => hh (e1.symm.trans z)]
        exact ⟨e1, e2, e3, tk, e4⟩
  · rw [if_neg q, if_neg q]
    exact paired_append h (.cons ⟨rfl, hk, hd, t, rfl⟩ .nil)
theorem ent_del {k : NK} (h : Paired (DEnt K B) kvs xs) : Paired (DEnt K B) (ddel kvs k) (withoutH xs k) := by
  unfold ddel withoutH
  induction h with
  | nil => exact .nil
  | cons r tl ih =>
    rename_i kv x _ _
    have e1 := r.1
    by_cases hh : kv.1 = k
    · rw [List.filter_cons_of_neg (by simpa using hh), List.filter_cons_of_neg (by simpa using e1.trans hh)]
      exact ih
    · rw [List.filter_cons_of_pos (by simpa using hh), List.filter_cons_of_pos (by simpa using fun z => hh (e1.symm.trans z))]
      exact .cons r ih
theorem dput_len {k : NK} {n : Int} : (dput kvs k n).length ≤ kvs.length + 1 := by
  unfold dput
  split
  · rw [List.length_map]; omega
  · rw [List.length_append]; simp
theorem DAt.len (h : DAt P w K B d o xs kvs) : xs.length = kvs.length := (Paired.length h.en).symm
theorem nd_keys (h : Paired (DEnt K B) kvs xs) : kvs.map (·.1) = xs.map (·.1) := by
  induction h with
  | nil => rfl
  | cons r tl ih => rw [List.map_cons, List.map_cons, r.1, ih]
theorem DAt.nodup (h : DAt P w K B d o xs kvs) : (kvs.map (·.1)).Nodup := by rw [nd_keys h.en]; exact h.fa.nd
end
section
variable {X : Cx} {pins : List (Addr × Obj)} {σ : L2.St} {H B : Hp} {s : Shared} {d : Addr} {o : Obj} {xs : List (NK × Addr × Value)} {kvs : List (NK × Int)}
theorem DAt.keys (h : DAt X.prog X.w X.K H d o xs kvs) (I : L2.Inv X pins σ H s) : ∀ x ∈ xs, (nestedKind X.prog X.w).is s.heap x.1 x.2.1 := by
  intro x hx
  obtain ⟨j, hj⟩ := List.mem_iff_getElem?.mp hx
  obtain ⟨kv, h1, e1, e2, e3, _⟩ := paired_get' h.en hj
  exact ⟨nest_of I x.1 (.ref x.2.1) (.ref x.2.1) (by rw [e1]; exact e2) rfl, by rw [e1]; exact e3⟩
theorem DAt.raw (h : DAt X.prog X.w X.K H d o xs kvs) (I : L2.Inv X pins σ H s) (hd : H d = some (dO o d)) : s.heap.DictOfH (nestedKind X.prog X.w) d xs := by
  obtain ⟨es, ep, h1, h2⟩ := h.fa.es
  exact ⟨o, es, ep, dO_get I hd, h.fa.ex, h1, h2, h.keys I, h.fa.nd⟩
theorem facts_of {P : Program} {w : World} {h : Heap} (x : h.DictOfH (nestedKind P w) d xs) : ∃ o, h.get? d = some o ∧ DFacts P w o xs := by
  obtain ⟨o, es, ep, h1, h2, h3, h4, h5, h6⟩ := x
  exact ⟨o, h1, h2, ⟨es, ep, h3, h4⟩, h6⟩
theorem key_is {k : NK} {a : Addr} (I : L2.Inv X pins σ H s) (h : Dp X.K H (.ref a) k.data) (hd : k.depth ≤ 8) : (nestedKind X.prog X.w).is s.heap k a := ⟨nest_of I k _ _ h rfl, hd⟩
end
/-! ### the rules -/
/-- x a key, y such a dict -/
def rDIn (P : Program) (w : World) (K : PySem.W.Frag) (neg : Bool) : R2 := fun x y H Q => ∃ a k kvs, x = .ref a ∧ Dp K H x k.data ∧ k.depth ≤ 8 ∧ (rDct P w K kvs).p H y ∧ Q (.bl (if neg then !(dget kvs k).isSome else (dget kvs k).isSome)) H
def rDGet (P : Program) (w : World) (K : PySem.W.Frag) : R2 := fun x y H Q => ∃ a k kvs n, y = .ref a ∧ Dp K H y k.data ∧ k.depth ≤ 8 ∧ (rDct P w K kvs).p H x ∧ dget kvs k = some n ∧ Q (.int n) H
def rDGetOr (P : Program) (w : World) (K : PySem.W.Frag) : V → List V → Hp → VK → Prop := fun x vs H Q => ∃ a k kvs m, vs = [.ref a, .int m] ∧ Dp K H (.ref a) k.data ∧ k.depth ≤ 8 ∧ (rDct P w K kvs).p H x ∧ Q (.int ((dget kvs k).getD m)) H
def rDSet (P : Program) (w : World) (K : PySem.W.Frag) : TSet := fun x i v H Q => ∃ d o xs kvs a k n, x = .ref d ∧ i = .ref a ∧ v = .int n ∧ H d = some (dO o d) ∧ DAt P w K H d o xs kvs ∧ kvs.length < 100000 ∧ Dp K H (.ref a) k.data ∧ k.depth ≤ 8 ∧
  ∀ o' xs', (∀ B, Dp K B (.ref a) k.data → DAt P w K B d o xs kvs → DAt P w K B d o' xs' (dput kvs k n)) → Q (upd H d (dO o' d))
def rDPop (P : Program) (w : World) (K : PySem.W.Frag) : V → List V → Hp → VK → Prop := fun x vs H Q => ∃ d o xs kvs a k n, x = .ref d ∧ vs = [.ref a] ∧ H d = some (dO o d) ∧ DAt P w K H d o xs kvs ∧ Dp K H (.ref a) k.data ∧ k.depth ≤ 8 ∧ dget kvs k = some n ∧
  ∀ o' xs', (∀ B, DAt P w K B d o xs kvs → DAt P w K B d o' xs' (ddel kvs k)) → Q (.int n) (upd H d (dO o' d))
theorem room8 {X : Cx} (hu : X.A.units + 64 < cLine) : (nestedKind X.prog X.w).room X.A.in1 := by
  show X.A.units + 1 + 8 < cLine
  omega
section
variable {X : Cx} (P : Program) (w : World) (K : PySem.W.Frag)
theorem sz_line {n : Nat} (h : n ≤ 100000) : n ≤ sizeLine := Evl.sz_of h
theorem d_in (hu : X.A.units + 64 < cLine) (hP : X.prog = P := by rfl) (hw : X.w = w := by rfl) (hK : X.K = K := by rfl) : OpR X (compareOp .In) (rDIn P w K false) := by
  subst hP hw hK
  intro pins s σ H x y v u Q I rx ry ⟨a, k, kvs, ex, hk, hd, hy, q⟩
  subst ex
  cases rx
  obtain ⟨d, o, xs, rfl, h1, h2⟩ := hy
  cases ry
  exact wpAny_in_heap (room8 hu) (key_is I hk hd) h2.lo (h2.raw I h1) ⟨.bl _, H, I.tok _, by rw [ent_some h2.en]; rfl, q⟩
theorem d_nin (hu : X.A.units + 64 < cLine) (hP : X.prog = P := by rfl) (hw : X.w = w := by rfl) (hK : X.K = K := by rfl) : OpR X (compareOp .NotIn) (rDIn P w K true) := by
  subst hP hw hK
  intro pins s σ H x y v u Q I rx ry ⟨a, k, kvs, ex, hk, hd, hy, q⟩
  subst ex
  cases rx
  obtain ⟨d, o, xs, rfl, h1, h2⟩ := hy
  cases ry
  refine wpAny_bind (wpAny_contains_heap (room8 hu) (key_is I hk hd) h2.lo (h2.raw I h1) (wpAny_pure ⟨.bl _, H, I.tok _, by rw [ent_some h2.en]; rfl, q⟩))
theorem d_ix (hu : X.A.units + 64 < cLine) {e i : Expr} {te ti : TE} {pos : Pos} (he : PE X e te) (hi : PE X i ti) (hs : NoSl i := by intro _ _; rfl) (hP : X.prog = P := by rfl) (hw : X.w = w := by rfl) (hK : X.K = K := by rfl) : PE X (.Subscript e i pos) (tOp (rDGet P w K) te ti) := by
  subst hP hw hK
  refine ⟨fun pins s σ H Q I h => subD_of PySem.F.slot_dict_getitem.lookup hs (thn (he.run pins s σ H _ I h) fun v s1 ⟨x, H1, I1, r1, q1⟩ => thn (hi.run pins s1 σ H1 _ I1 q1) fun u s2 ⟨y, H2, I2, r2, q2⟩ => ?_)⟩
  obtain ⟨a, k, kvs, n, ey, hk, hd, ⟨d, o, xs, rfl, h1, h2⟩, hg, q⟩ := q2
  subst ey
  cases r1
  cases r2
  have raw := h2.raw I2 h1
  obtain ⟨p, t, e1, e2⟩ := (ent_at (k := k) h2.en).1 n hg
  exact ⟨raw.typeIs, wpAny_getItem_heap (room8 hu) (key_is I2 hk hd) raw e1 ⟨.int n, H2, I2.tok _, ⟨t, e2⟩, q⟩⟩
theorem d_set (hu : X.A.units + 64 < cLine) (hP : X.prog = P := by rfl) (hw : X.w = w := by rfl) (hK : X.K = K := by rfl) : PSet X (rDSet P w K) := by
  subst hP hw hK
  intro pins s σ H x i v ov iv uv Q I rx ri rv ⟨d, o, xs, kvs, a, k, n, ex, ei, ev, h1, h2, hl, hk, hd, q⟩
  subst ex ei ev
  cases rx
  cases ri
  obtain ⟨t, rfl⟩ := rv
  have raw := h2.raw I h1
  refine wpAny_setItem_heap (hsz := by rw [h2.len]; exact sz_line h2.sz) (room8 hu) (key_is I hk hd) raw fun h' dd hs => ?_
  obtain ⟨o', g', f'⟩ := facts_of dd
  refine ⟨_, d_write I (by rw [h1]; exact True.intro) hs ⟨o', g'⟩ (dO_ok g'), q o' _ fun B hk' h2' => ⟨h2'.lo, f', ent_put h2'.en hk' hd, ?_⟩⟩
  have := dput_len (kvs := kvs) (k := k) (n := n)
  omega
/-- d.get(k, m) -/
def tDGetOr (P : Program) (w : World) (K : PySem.W.Frag) (to : TE) (tl : TA) : TE := fun σ H Q => to σ H fun x H1 => (∃ kvs, (rDct P w K kvs).p H1 x) ∧ tl σ H1 fun vs H2 => rDGetOr P w K x vs H2 Q
theorem d_getOr (hu : X.A.units + 64 < cLine) {o e f : Expr} {to : TE} {tl : TA} {apos cpos : Pos} (ho : PE X o to) (ha : PA X [e, f] tl)
    (hbase : attributeBase o "get" X.env (eval o X.env) = eval o X.env := by rfl)
    (hfew : ((backTo cpos (starEach [e, f] X.env)).all (fun x => !x.1) && (backToKw cpos (keywordEach [] X.env)).all (fun x => x.1.isSome)
      && decide (([e, f] : List Expr).length + ([] : List Keyword).length + (if ([] : List Keyword).isEmpty then 0 else 1) < 30)) = true := by rfl)
    (hline : (apos.endLine == cpos.line) = true := by rfl) (hs : starEach [e, f] X.env = (false, eval e X.env) :: starEach [f] X.env := by rfl) (hplain : (backTo cpos (starEach [f] X.env)).any (·.1) = false := by rfl)
    (hP : X.prog = P := by rfl) (hw : X.w = w := by rfl) (hK : X.K = K := by rfl) :
    PE X (.Call (.Attribute o "get" apos) [e, f] [] cpos) (tDGetOr P w K to tl) := by
  subst hP hw hK
  refine ⟨fun pins s σ H Q I h => ?_⟩
  refine wpAny_Call_method hbase hfew hline PySem.F.plainAttrs_dict PySem.F.slot_dict_get PySem.F.type_dict_get (thn (ho.run pins s σ H _ I h) fun v s1 ⟨x, H1, I1, r1, ⟨kvs0, d, o, xs, ex, h1, h2⟩, q1⟩ => ?_)
  subst ex
  cases r1
  have raw := h2.raw I1 h1
  refine ⟨raw.typeIs, (fun b q => by
    cases q
    obtain ⟨ob, _, _, g1, g2, _⟩ := raw
    exact ⟨ob, g1, g2.2.1⟩), ?_⟩
  have hA := ha.run cpos pins s1 σ H1 _ I1 q1
  rw [hs] at hA ⊢
  refine Calls.callWith_builtin (by show (false || (backTo cpos (starEach [f] X.env)).any (·.1)) = false; rw [hplain] <;> rfl) (Calls.evalArgs_plain ?_)
  refine thn hA fun us s2 ⟨vs, H2, I2, r2, a, k, kvs, m, ev, hk, hd, ⟨d', o', xs', ex, g1, g2⟩, q⟩ => ?_
  cases ex
  subst ev
  cases r2 with
  | cons ra r2 =>
    cases r2 with
    | cons rb r2 =>
      cases r2
      cases ra
      obtain ⟨t, rfl⟩ := rb
      have raw2 := g2.raw I2 g1
      refine call_meetsIn F.slot_dict_get raw2.typeIs F.entry_dict_get (F.args_dict_get_3 _ _ _) (meetsH_dict_get_default (nestedKind X.prog X.w) d a g2.lo (.int m t)) ⟨room8 hu, k, xs', key_is I2 hk hd, raw2, ?_⟩
      refine ⟨.int ((dget kvs k).getD m), H2, I2.tok _, ?_, q⟩
      obtain ⟨e1, e2⟩ := ent_at (k := k) g2.en
      cases hg : dget kvs k with
      | none =>
        rw [e2 hg]
        exact ⟨t, rfl⟩
      | some n =>
        obtain ⟨p, t', e3, e4⟩ := e1 n hg
        rw [e3]
        exact ⟨t', e4⟩
/-- d.pop(k) -/
def tDPop (P : Program) (w : World) (K : PySem.W.Frag) (to : TE) (tl : TA) : TE := fun σ H Q => to σ H fun x H1 => (∃ d o xs kvs, x = .ref d ∧ H1 d = some (dO o d) ∧ DAt P w K H1 d o xs kvs) ∧ tl σ H1 fun vs H2 => rDPop P w K x vs H2 Q
theorem d_popK (hu : X.A.units + 64 < cLine) {o e : Expr} {to : TE} {tl : TA} {apos cpos : Pos} (ho : PE X o to) (ha : PA X [e] tl)
    (hbase : attributeBase o "pop" X.env (eval o X.env) = eval o X.env := by rfl)
    (hfew : ((backTo cpos (starEach [e] X.env)).all (fun x => !x.1) && (backToKw cpos (keywordEach [] X.env)).all (fun x => x.1.isSome)
      && decide (([e] : List Expr).length + ([] : List Keyword).length + (if ([] : List Keyword).isEmpty then 0 else 1) < 30)) = true := by rfl)
    (hline : (apos.endLine == cpos.line) = true := by rfl) (hs : starEach [e] X.env = (false, eval e X.env) :: starEach [] X.env := by rfl) (hplain : (backTo cpos (starEach [] X.env)).any (·.1) = false := by rfl)
    (hP : X.prog = P := by rfl) (hw : X.w = w := by rfl) (hK : X.K = K := by rfl) :
    PE X (.Call (.Attribute o "pop" apos) [e] [] cpos) (tDPop P w K to tl) := by
  subst hP hw hK
  refine ⟨fun pins s σ H Q I h => ?_⟩
  refine wpAny_Call_method hbase hfew hline PySem.F.plainAttrs_dict PySem.F.slot_dict_pop PySem.F.type_dict_pop (thn (ho.run pins s σ H _ I h) fun v s1 ⟨x, H1, I1, r1, ⟨d, o, xs, kvs0, ex, h1, h2⟩, q1⟩ => ?_)
  subst ex
  cases r1
  have raw := h2.raw I1 h1
  refine ⟨raw.typeIs, (fun b q => by
    cases q
    obtain ⟨ob, _, _, g1, g2, _⟩ := raw
    exact ⟨ob, g1, g2.2.1⟩), ?_⟩
  have hA := ha.run cpos pins s1 σ H1 _ I1 q1
  rw [hs] at hA ⊢
  refine Calls.callWith_builtin (by show (false || (backTo cpos (starEach [] X.env)).any (·.1)) = false; rw [hplain] <;> rfl) (Calls.evalArgs_plain ?_)
  refine thn hA fun us s2 ⟨vs, H2, I2, r2, d', o', xs', kvs, a, k, n, ex, ev, g1, g2, hk, hd, hg, q⟩ => ?_
  cases ex
  subst ev
  cases r2 with
  | cons ra r2 =>
    cases r2
    cases ra
    have raw2 := g2.raw I2 g1
    obtain ⟨p, t, e3, e4⟩ := (ent_at (k := k) g2.en).1 n hg
    refine call_pop_heap (hsz := by rw [g2.len]; exact sz_line g2.sz) (.inl rfl) (F.args_dict_pop_2 _ _) (room8 hu) (key_is I2 hk hd) g2.lo raw2 e3 fun h' dd hs => ?_
    obtain ⟨o2, g', f'⟩ := facts_of dd
    refine ⟨.int n, _, d_write I2 (by rw [g1]; exact True.intro) hs ⟨o2, g'⟩ (dO_ok g'), ⟨t, e4⟩, q o2 _ fun B h2' => ⟨h2'.lo, f', ent_del h2'.en, Nat.le_trans (List.length_filter_le _ _) h2'.sz⟩⟩
/-- {} -/
def tDNew (P : Program) (w : World) (K : PySem.W.Frag) : TE := fun _ H Q => ∀ p o, H p = none → (∀ B, DAt P w K B p o [] []) → Q (.ref p) (upd H p (dO o p))
theorem d_new {pos : Pos} (hP : X.prog = P := by rfl) (hw : X.w = w := by rfl) : PE X (.Dict [] [] pos) (tDNew P w K) := by
  subst hP hw
  refine ⟨fun pins s σ H Q I h => wpAny_Dict_empty ?_⟩
  obtain ⟨o, g, f⟩ := facts_of (Heap.DictOfH.new (knd := nestedKind X.prog X.w) s.heap)
  exact ⟨.ref s.heap.objs.size, _, I.laid (a := s.heap.objs.size) (o := dO o s.heap.objs.size) (t' := s.toks) (fun _ _ q => Heap.get?_push_of_some _ q) (Nat.le_refl _) (dO_ok g), rfl,
    h _ o (I.hok.fresh (Nat.le_refl _)) fun B => ⟨beq_eq_false_iff_ne.mpr (Ne.symm (Nat.ne_of_lt I.big)), f, .nil, Nat.zero_le _⟩⟩
end
end Sm
namespace Sm
open PySem PySem.Spec PyProof.Rows L2
/-! ### a dict walked: its keys, its pairs -/
/-- the object o at d is told by its entries alone -/
theorem dO_raw {X : Cx} {pins : List (Addr × Obj)} {σ : L2.St} {H : Hp} {s : Shared} {o : Obj} {d : Addr} {xs : List (NK × Addr × Value)} (I : L2.Inv X pins σ H s) (e : H d = some (dO o d)) (f : DFacts X.prog X.w o xs) :
    ∃ es ep, o.data = .dict es ep ∧ s.heap.DictRaw d es ep ∧ es.size = xs.length ∧ ∀ i (hi : i < es.size), ∃ x, xs[i]? = some x ∧ es[i].key = .ref x.2.1 ∧ es[i].val = x.2.2 := by
  obtain ⟨es, ep, h1, h2⟩ := f.es
  have hs := size_of_entries h2
  refine ⟨es, ep, h1, ⟨o, dO_get I e, f.ex, h1⟩, hs, fun i hi => ?_⟩
  have hx : i < xs.length := hs ▸ hi
  have q := entry_at h2 i
  rw [Array.getElem?_eq_getElem hi, List.getElem?_eq_getElem hx, Option.map_some] at q
  have q' := Option.some.inj q
  exact ⟨xs[i], List.getElem?_eq_getElem hx, by rw [q'] <;> rfl, by rw [q'] <;> rfl⟩
theorem ent_get {es : Array DictEntry} {P : Program} {w : World} {o : Obj} {ep : Nat} {xs : List (NK × Addr × Value)} (h1 : o.data = .dict es ep) (f : DFacts P w o xs) {i : Nat} (hi : i < es.size) : ∃ x, xs[i]? = some x ∧ es[i].key = .ref x.2.1 ∧ es[i].val = x.2.2 := by
  obtain ⟨es', ep', g1, g2⟩ := f.es
  rw [h1] at g1
  cases g1
  have hs := size_of_entries g2
  have hx : i < xs.length := hs ▸ hi
  have q := entry_at g2 i
  rw [Array.getElem?_eq_getElem hi, List.getElem?_eq_getElem hx, Option.map_some] at q
  have q' := Option.some.inj q
  exact ⟨xs[i], List.getElem?_eq_getElem hx, by rw [q'] <;> rfl, by rw [q'] <;> rfl⟩
def Ikd (P : Program) (w : World) (d : Addr) (o : Obj) : It :=
  ⟨fun i H => H d = some (dO o d) ∧ ∃ xs, DFacts P w o xs ∧ i < xs.length,
   fun i H v H' => H' = H ∧ ∃ a, v = .ref a ∧ ∀ xs, DFacts P w o xs → ∃ x, xs[i]? = some x ∧ x.2.1 = a,
   fun i H => H d = some (dO o d) ∧ ∃ xs, DFacts P w o xs ∧ i = xs.length⟩
def Iid (P : Program) (w : World) (d : Addr) (o : Obj) : It :=
  ⟨fun i H => H d = some (dO o d) ∧ ∃ xs, DFacts P w o xs ∧ i < xs.length ∧ ∀ x ∈ xs, ∃ n t, x.2.2 = .int n t,
   fun i H v H' => ∃ T a n, v = .ref T ∧ H T = none ∧ H' = upd H T (.tup [.ref a, .int n]) ∧ ∀ xs, DFacts P w o xs → ∃ x t, xs[i]? = some x ∧ x.2.1 = a ∧ x.2.2 = .int n t,
   fun i H => H d = some (dO o d) ∧ ∃ xs, DFacts P w o xs ∧ i = xs.length⟩
theorem facts_len {P : Program} {w : World} {o : Obj} {es : Array DictEntry} {ep : Nat} {xs : List (NK × Addr × Value)} (hod : o.data = .dict es ep) (f : DFacts P w o xs) : es.size = xs.length := by
  obtain ⟨es', ep', g1, g2⟩ := f.es
  rw [hod] at g1
  cases g1
  exact size_of_entries g2
section
variable {P : Program} {w : World} {K : PySem.W.Frag} {tg : Expr} {d : Addr} {o : Obj} {es : Array DictEntry} {ep : Nat}
theorem turn_kd (it : Addr) (hne : d ≠ it) (hod : o.data = .dict es ep) : Turn P w K tg (Ikd P w d o) [it] it (fun i h => h.IsKeyIter it d i es.size ep) where
  mem := by simp
  obj := fun i h st b hb => by
    have e : b = it := by simpa using hb
    subst e
    obtain ⟨oi, e, c, dd⟩ := st
    exact ⟨oi, e, fun v z => by rw [dd] at z; cases z⟩
  keep := fun i h h' st k => st.at fun oi e => k it (by simp) oi e
  item := by
    intro X hP hw hK hc i pins s σ H E I hf st hg
    subst hP hw hK
    obtain ⟨hd, xs, f, hi⟩ := hg
    have hl := facts_len hod f
    have raw : s.heap.DictRaw d es ep := ⟨o, dO_get I hd, f.ex, hod⟩
    refine (Goes.rawKeys (prog := X.prog) (w := X.w) (target := tg) (I.ok.hd hc) it d hne es ep).goes i s _ E (by omega) ⟨st, raw⟩ fun v h' tk ⟨hi', hv⟩ st' hk htk => ?_
    obtain ⟨x, e1, e2, e3⟩ := ent_get hod f hi'
    rw [e2] at hv
    subst hv
    obtain ⟨f0, f1, f2, f3, f4, f5⟩ := hf it (by simp)
    refine ⟨.ref x.2.1, H, I.turned (t' := tk) (fun b ob hb e => hk b ob (by simpa using hb) e) f0 f1 f3 f4 f5, rfl, ⟨rfl, x.2.1, rfl, fun xs' f' => ?_⟩, st'.1, fun b hb => (hf b hb).1⟩
    obtain ⟨x', g1, g2, g3⟩ := ent_get hod f' hi'
    rw [e2] at g2
    exact ⟨x', g1, (Value.ref.inj g2).symm⟩
  done := by
    intro X hP hw hK hc i pins s σ H E I hf st hg
    subst hP hw hK
    obtain ⟨hd, xs, f, hi⟩ := hg
    have hl := facts_len hod f
    have raw : s.heap.DictRaw d es ep := ⟨o, dO_get I hd, f.ex, hod⟩
    obtain ⟨f0, f1, f2, f3, f4, f5⟩ := hf it (by simp)
    have en : i = es.size := by omega
    subst en
    exact (Goes.rawKeys (prog := X.prog) (w := X.w) (target := tg) (I.ok.hd hc) it d hne es ep).stops s _ E ⟨st, raw⟩ fun h' tk hk htk => I.turned (t' := tk) (fun b ob hb e => hk b ob (by simpa using hb) e) f0 f1 f3 f4 f5
  self := fun A i s Q E st h => wpAny_pyIter_keyiter st h
theorem turn_id {elts : List Expr} {kk : Nat} {tpos : Pos} (it : Addr) (hne : d ≠ it) (hod : o.data = .dict es ep) : Turn P w K (.Tuple elts kk tpos) (Iid P w d o) [it] it (fun i h => ∃ ok ov, IsItemIter h it d i es.size ep ok ov) where
  mem := by simp
  obj := fun i h st b hb => by
    have e : b = it := by simpa using hb
    subst e
    obtain ⟨ok, ov, e⟩ := st
    exact ⟨_, e, fun v z => by cases z⟩
  keep := fun i h h' st k => by
    obtain ⟨ok, ov, e⟩ := st
    exact ⟨ok, ov, k it (by simp) _ e⟩
  item := by
    intro X hP hw hK hc i pins s σ H E I hf st hg
    subst hP hw hK
    obtain ⟨hd, xs, f, hi, hint⟩ := hg
    have hl := facts_len hod f
    have raw : s.heap.DictRaw d es ep := ⟨o, dO_get I hd, f.ex, hod⟩
    obtain ⟨ok0, ov0, st0⟩ := id st
    have hlt : it < s.heap.objs.size := Heap.lt_size st0
    refine (GoesN.rawItems (prog := X.prog) (w := X.w) (elts := elts) (x1 := kk) (pos := tpos) (I.ok.hd hc) it d hne es ep).goes i s _ E (by omega) ⟨st, raw⟩ fun v h' tk hY st' hk htk => ?_
    obtain ⟨T, hi', rfl, hT, oo, ho, oc, n, od⟩ := hY
    obtain ⟨x, e1, e2, e3⟩ := ent_get hod f hi'
    obtain ⟨m, t, e4⟩ := hint x (List.mem_of_getElem? e1)
    have new : ObjOk X.prog X.w (upd H T (.tup [.ref x.2.1, .int m])) h' T (.tup [.ref x.2.1, .int m]) :=
      ⟨Evl.sz_of (by show 2 ≤ 100000; decide), [es[i].key, es[i].val], .cons e2 (.cons ⟨t, e3.trans e4⟩ .nil), ⟨oo, ho, oc, n, od⟩⟩
    have hnT : H T = none := I.hok.fresh hT
    refine ⟨.ref T, _, I.turnedNew (t' := tk) (ch := [it]) hk hf hT new, rfl, ⟨T, x.2.1, m, rfl, hnT, rfl, fun xs' f' => ?_⟩, st'.1, fun b hb => ?_⟩
    · obtain ⟨x', g1, g2, g3⟩ := ent_get hod f' hi'
      rw [e2] at g2
      rw [e3, e4] at g3
      exact ⟨x', t, g1, (Value.ref.inj g2).symm, g3.symm⟩
    · have e : b = it := by simpa using hb
      subst e
      rw [upd_ne (Nat.ne_of_lt (Nat.lt_of_lt_of_le hlt hT))]
      exact (hf b hb).1
  done := by
    intro X hP hw hK hc i pins s σ H E I hf st hg
    subst hP hw hK
    obtain ⟨hd, xs, f, hi⟩ := hg
    have hl := facts_len hod f
    have raw : s.heap.DictRaw d es ep := ⟨o, dO_get I hd, f.ex, hod⟩
    obtain ⟨f0, f1, f2, f3, f4, f5⟩ := hf it (by simp)
    have en : i = es.size := by omega
    subst en
    exact (GoesN.rawItems (prog := X.prog) (w := X.w) (elts := elts) (x1 := kk) (pos := tpos) (I.ok.hd hc) it d hne es ep).stops s _ E ⟨st, raw⟩ fun h' tk hk htk => I.turnedL (t' := tk) (ch := [it]) hk hf
  self := fun A i s Q E st h => let ⟨_, _, g⟩ := st; wpAny_pyIter_itemiter g h
end
def iKd (P : Program) (w : World) (K : PySem.W.Frag) (te : TE) : TI := fun σ H R => te σ H fun x H1 => ∃ d o xs kvs, x = .ref d ∧ H1 d = some (dO o d) ∧ DAt P w K H1 d o xs kvs ∧ R (Ikd P w d o) H1
def iId (P : Program) (w : World) (K : PySem.W.Frag) (te : TE) : TI := fun σ H R => te σ H fun x H1 => ∃ d o xs kvs, x = .ref d ∧ H1 d = some (dO o d) ∧ DAt P w K H1 d o xs kvs ∧ R (Iid P w d o) H1
section
variable {X : Cx} (P : Program) (w : World) (K : PySem.W.Frag) {tg e : Expr} {te : TE} {apos cpos pos p : Pos}
theorem d_keys (he : PE X e te) (hP : X.prog = P := by rfl) (hw : X.w = w := by rfl) (hK : X.K = K := by rfl) : PI X tg e (iKd P w K te) := by
  subst hP hw hK
  refine ⟨fun pins s σ H R I h => thn (he.run pins s σ H _ I h) fun v s1 ⟨x, H1, I1, r1, d, o, xs, kvs, ex, hd, f, q⟩ => ?_⟩
  subst ex
  cases r1
  obtain ⟨es, ep, h1, raw, hsz, _⟩ := dO_raw I1 hd f.fa
  exact wpAny_pyIter_dict_raw f.lo raw (pi_one (tk := s1.toks) I1 _ (turn_kd _ (Nat.ne_of_lt raw.lt_size) h1) ⟨_, Heap.get?_push_size _ rfl, rfl, rfl⟩ q)
theorem d_items {elts : List Expr} {kk : Nat} {tpos : Pos} (he : PE X e te) (hbase : attributeBase e "items" X.env (eval e X.env) = eval e X.env := by rfl) (hline : (apos.endLine == cpos.line) = true := by rfl)
    (hP : X.prog = P := by rfl) (hw : X.w = w := by rfl) (hK : X.K = K := by rfl) : PI X (.Tuple elts kk tpos) (.Call (.Attribute e "items" apos) [] [] cpos) (iId P w K te) := by
  subst hP hw hK
  refine ⟨fun pins s σ H R I h => ?_⟩
  refine wpAny_Call_method (T := "dict") (id := "dict.items") hbase rfl hline F.plainAttrs_dict F.slot_dict_items F.type_dict_items (thn (he.run pins s σ H _ I h) fun u s1 ⟨x, H1, I1, rx, d, o, xs, kvs, ex, hd, f, q⟩ => ?_)
  subst ex
  obtain rfl : u = Value.ref d := rx
  obtain ⟨es, ep, h1, raw, hsz, _⟩ := dO_raw I1 hd f.fa
  refine ⟨raw.typeIs, (fun b q => by
    cases q
    exact ⟨o, dO_get I1 hd, f.fa.ex.2.1⟩), ?_⟩
  have I2 : Inv X pins σ H1 { s1 with heap := s1.heap.push { cls := .type "dict_items", data := .fields #[.ref d] } } := I1.kept (t' := s1.toks) fun b ob q => Heap.get?_push_of_some _ q
  have hlt : d < s1.heap.objs.size := raw.lt_size
  have fin : wpAny (model X.prog X.w) X.A (pyIter (.ref s1.heap.objs.size)) (PIE X pins σ (.Tuple elts kk tpos) R) X.xe { s1 with heap := s1.heap.push { cls := .type "dict_items", data := .fields #[.ref d] } } := by
    refine wpAny_pyIter_items_raw (d := d) ⟨_, Heap.get?_push_size _ rfl, rfl, rfl⟩ (raw.at fun o q => Heap.get?_push_of_some _ q) (pi_one (tk := s1.toks) I2 _ (turn_id _ ?_ h1) ⟨.none, .none, ?_⟩ q)
    · rw [Heap.size_push]
      exact Nat.ne_of_lt (Nat.lt_succ_of_lt hlt)
    · exact Heap.get?_push_size _ rfl
  show wpAny _ _ (callWith cpos (.builtin "dict.items") [.ref d] [] []) _ X.xe s1
  exact method_meetsIn F.slot_dict_items F.entry_dict_items rfl (PySem.evalArgs_none ⟨rfl, raw.typeIs, F.args_dict_items_1 _, _, meets_dict_items_raw d f.lo, ⟨es, ep, raw⟩, fin⟩)
/-! #### dict(d), list(d) -/
def rDctOf (P : Program) (w : World) (K : PySem.W.Frag) : List V → Hp → VK → Prop := fun vs H Q => ∃ d o xs kvs, vs = [.ref d] ∧ H d = some (dO o d) ∧ DAt P w K H d o xs kvs ∧ (kvs.map fun x => (nestedKind P w).hash x.1).Nodup ∧
  ∀ p o', H p = none → (∀ B, DAt P w K B d o xs kvs → DAt P w K B p o' xs kvs) → Q (.ref p) (upd H p (dO o' p))
theorem hash_keys {B : Hp} {kvs : List (NK × Int)} {xs : List (NK × Addr × Value)} (h : Paired (DEnt K B) kvs xs) : kvs.map (fun x => (nestedKind P w).hash x.1) = xs.map fun x => (nestedKind P w).hash x.1 := by
  induction h with
  | nil => rfl
  | cons r tl ih => rw [List.map_cons, List.map_cons, r.1, ih]
theorem k_dictOf (hu : X.A.units + 64 < cLine) (hP : X.prog = P := by rfl) (hw : X.w = w := by rfl) (hK : X.K = K := by rfl) : CallR X (.type "dict") (rDctOf P w K) := by
  subst hP hw hK
  intro pins s σ H vs us Q I r ⟨d, o, xs, kvs, e, hd, f, hn, q⟩
  subst e
  rw [Vals.ref1 r]
  have ho := f.raw I hd
  have hnew : (s.heap.push { cls := .type "dict", data := .dict #[] }).DictOfH (nestedKind X.prog X.w) s.heap.objs.size [] := Heap.DictOfH.new s.heap
  have hst : ∀ h', (∀ b o, s.heap.get? b = some o → h'.get? b = some o) → ∀ x ∈ xs, (nestedKind X.prog X.w).is h' x.1 x.2.1 := fun h' hk x hx => nestedKind_stays.stays (fun b o _ _ e _ => hk b o e) (f.keys I x hx)
  have ho' : (s.heap.push { cls := .type "dict", data := .dict #[] }).DictOfH (nestedKind X.prog X.w) d xs := by
    obtain ⟨o1, es, ep, h1, h2, h3, h4, h5, h6⟩ := ho
    exact ⟨o1, es, ep, Heap.get?_push_of_some _ h1, h2, h3, h4, hst _ fun b o e => Heap.get?_push_of_some _ e, h6⟩
  have hdo : s.heap.objs.size ≠ d := fun e => absurd (Heap.lt_size (dO_get I hd)) (by rw [e]; exact Nat.lt_irrefl _)
  refine callType_codes (Q₁ := fun obj s₁ => obj = .ref s.heap.objs.size ∧ s₁ = { s with heap := s.heap.push { cls := .type "dict", data := .dict #[] } }) F.kt_called_dict (F.kt_typeCall_dict_1 _) F.entry_dict_init (kt_code_dict_new _ ⟨rfl, rfl⟩) ?_
  rintro obj s₁ ⟨rfl, rfl⟩
  refine ⟨hnew.typeIs, F.args_dict_init_2 _ _, ?_⟩
  unfold Builtin.«dict.__init__»
  refine wpAny_bind ?_
  unfold Builtin.Dict.selfAndRest
  refine wpAny_bind (wpAny_notOrdered_dict hnew.typeIs ?_)
  show wpAny _ _ (pure (s.heap.objs.size, [Value.ref d])) _ _ _
  refine wpAny_pure ?_
  show wpAny _ _ (Builtin.Dict.updateFrom "dict.__init__" s.heap.objs.size (.ref d) [] .none) _ _ _
  refine updateFrom_dictH .none (show X.A.units + 1 + 1 + 8 < cLine by omega) hdo f.lo hnew ho' (.inr ⟨fun x hx => (nestedKind_stays.tuple (ho'.choose_spec.choose_spec.choose_spec.2.2.2.2.1 x hx)), ?_⟩) (by have := f.len; have := f.sz; have := sz_line f.sz; simp; omega) fun h' dd ds sb => ?_
  · rw [← hash_keys _ _ _ f.en]
    exact hn
  · rw [storedAllH_nil_of_nodup xs f.fa.nd] at dd
    refine ⟨rfl, ?_⟩
    obtain ⟨o', g', f'⟩ := facts_of dd
    have J : Inv X pins σ (upd H s.heap.objs.size (dO o' s.heap.objs.size)) { s with heap := h', toks := s.toks } := I.laid (fun b u e => (sb.2 b (Nat.ne_of_lt (Heap.lt_size e))).trans (Heap.get?_push_of_some _ e)) (Nat.le_refl _) (dO_ok g')
    refine ⟨.ref _, _, J, rfl, q _ o' (I.hok.fresh (Nat.le_refl _)) fun B h2 => ⟨beq_eq_false_iff_ne.mpr (Ne.symm (Nat.ne_of_lt I.big)), f', h2.en, h2.sz⟩⟩
def rLsDct (P : Program) (w : World) (K : PySem.W.Frag) : List V → Hp → VK → Prop := fun vs H Q => ∃ d o xs kvs, vs = [.ref d] ∧ H d = some (dO o d) ∧ DAt P w K H d o xs kvs ∧
  ∀ p, H p = none → Q (.ref p) (upd H p (.lst (xs.map fun x => V.ref x.2.1)))
theorem k_lsDct (hc : X.calm = true) (hP : X.prog = P := by rfl) (hw : X.w = w := by rfl) (hK : X.K = K := by rfl) : CallR X (.type "list") (rLsDct P w K) := by
  subst hP hw hK
  intro pins s σ H vs us Q I r ⟨d, o, xs, kvs, e, hd, f, q⟩
  subst e
  rw [Vals.ref1 r]
  obtain ⟨es, ep, h1, raw, hsz, hent⟩ := dO_raw I hd f.fa
  have hl := f.len
  have hz := sz_line f.sz
  refine PySem.W.kdl_call (KdlSrc.rawDict f.lo) (I.ok.hd hc) raw (by omega) fun h' tk acc c hk hS hacc => ?_
  have vals : Vals (xs.map fun x => V.ref x.2.1) acc.toList := by
    have hs : acc.toList = xs.map fun x => Value.ref x.2.1 := by
      apply List.ext_getElem?
      intro i
      rw [Array.getElem?_toList, List.getElem?_map]
      by_cases hi : i < es.size
      · obtain ⟨x, e1, e2, e3⟩ := hent i hi
        have hi' : i < acc.size := by rw [hacc.1]; exact hi
        obtain ⟨_, e4⟩ := hacc.2 i acc[i] (Array.getElem?_eq_getElem hi')
        rw [Array.getElem?_eq_getElem hi', e4, e1, e2] <;> rfl
      · rw [Array.getElem?_eq_none (by rw [hacc.1]; omega), List.getElem?_eq_none (by omega)] <;> rfl
    rw [hs]
    clear hs hent hz hl hsz q f
    induction xs with
    | nil => exact .nil
    | cons x xs ih => exact .cons rfl ih
  exact ⟨.ref _, _, I.laid (t' := tk) (o := .lst (xs.map fun x => V.ref x.2.1)) hk (Nat.le_refl _) ⟨by rw [List.length_map]; omega, acc.toList, c, vals, by simpa using hS⟩, rfl, q _ (I.hok.fresh (Nat.le_refl _))⟩
end
end Sm
namespace Sm
open PySem PySem.Spec PyProof.Rows L2
/-! ### there is an i with P: its R -/
def rEx {ι : Type} (P : ι → Prop) (R : ι → Rep) : Rep := ⟨fun B v => ∃ i, P i ∧ (R i).p B v, fun B B' v e ⟨i, h1, h2⟩ => ⟨i, h1, (R i).mono B B' v e h2⟩⟩
section
variable {ι κ : Type} {P : ι → Prop} {P' : κ → Prop} {F : ι → Rep} {F' : κ → Rep} {R S T : Rep} {Γ : Ctx} {te : TE} {r : R2}
theorem ev_exI {i : ι} (hp : P i) (h : Ev Γ te (F i)) : Ev Γ te (rEx P F) := h.imp fun B v q => ⟨i, hp, q⟩
theorem rv_exL (h : ∀ i, P i → RV2 r (F i) S T) : RV2 r (rEx P F) S T := fun x y B H c ⟨i, hp, rx⟩ ry Q q => h i hp x y B H c rx ry Q q
theorem rv_exR (h : ∀ i, P i → RV2 r S (F i) T) : RV2 r S (rEx P F) T := fun x y B H c rx ⟨i, hp, ry⟩ Q q => h i hp x y B H c rx ry Q q
theorem rv1_ex {r : V → Hp → VK → Prop} (h : ∀ i, P i → RV1 r (F i) T) : RV1 r (rEx P F) T := fun x B H c ⟨i, hp, rx⟩ Q q => h i hp x B H c rx Q q
theorem ret_exI {B H : Hp} {Q : VK} {i : ι} (hp : P i) (q : Ret B H (rEx P F) Q) : Ret B H (F i) Q := fun v B' H' y r => q v B' H' y ⟨i, hp, r⟩
theorem gx_ex {B0 H0 : Hp} {N : L2.St → Hp → Prop} {i : Nat} (hi : Γ.r[i]? = some (some (rEx P F))) (k : ∀ x, P x → Gx B0 H0 (Γ.set i (F x)) N) : Gx B0 H0 Γ N := fun σ H ⟨B, x, a⟩ => by
  obtain ⟨v, e1, j, hp, hv⟩ := a.e.at_ i _ hi
  have es := a.set i (R := F j) hv
  have hset : σ.set i (some v) = σ := by
    apply List.ext_getElem?
    intro m
    by_cases q : i = m
    · subst q
      rw [List.getElem?_set_self (List.getElem?_eq_some_iff.mp e1).1, e1]
    · rw [List.getElem?_set_ne q]
  rw [hset] at es
  exact k j hp σ H ⟨B, x, es⟩
/-- slot := something of some P -/
theorem gx_setX {B0 H0 : Hp} {D : Ends} {i : Nat} (h : Ev Γ te (rEx P F)) (k : ∀ x, P x → Gx B0 H0 (Γ.set i (F x)) D.nx) : Gx B0 H0 Γ (tAsg te (gName i) D) := fun σ H ⟨B, x, a⟩ =>
  h σ B H a _ fun v B2 H2 y ⟨j, hp, r⟩ => k j hp _ H2 ⟨B2, x.trans y, (a.next y).set i r⟩
/-- a list of things, each of some P: the list of the indices -/
theorem all2_ex {α : Type} {R : α → ι → Rep} {P : α → ι → Prop} {B : Hp} : ∀ {ls : List α} {xs : List V}, All2 (ls.map fun l => rEx (P l) (R l)) B xs → ∃ is : List ι, is.length = ls.length ∧ (∀ p ∈ ls.zip is, P p.1 p.2) ∧ All2 ((ls.zip is).map fun p => R p.1 p.2) B xs
  | [], _, h => by
    cases h
    exact ⟨[], rfl, (fun p hp => nomatch hp), Paired.nil⟩
  | l :: ls, _, h => by
    cases h with
    | cons h1 h2 =>
      obtain ⟨i, hp, hr⟩ := h1
      obtain ⟨is, e1, e2, e3⟩ := all2_ex h2
      refine ⟨i :: is, by simp [e1], fun p hp' => ?_, Paired.cons hr e3⟩
      rw [List.zip_cons_cons] at hp'
      rcases List.mem_cons.mp hp' with e | hp'
      · subst e
        exact hp
      · exact e2 p hp'
end

/-! ### a look at one's own thing -/
theorem At.peek {Γ : Ctx} {B H : Hp} {σ : L2.St} (t : At Γ B H σ) {k : Nat} {a : Addr} {W : Own} {i : Nat} {R : Rep} (hk : Γ.o[k]? = some (a, W)) (hi : Γ.r[i]? = some (some (rV (.ref a)))) (hw : ∀ B ho, B a = some ho → W.p B ho → R.p B (.ref a)) :
    ∃ ho, H a = some ho ∧ B a = none ∧ At { r := Γ.r.set i (some R), o := Γ.o.eraseIdx k } (upd B a ho) H σ := by
  obtain ⟨hb, ho, hh, w⟩ := t.o (a, W) (List.mem_of_getElem? hk)
  refine ⟨ho, hh, hb, ?_⟩
  have sm : Same B (upd B a ho) := same_new hb
  have x2 : Same (upd B a ho) H := fun b u e => by
    by_cases q : b = a
    · subst q
      rw [upd_same] at e
      rw [hh]
      exact e
    · rw [upd_ne q] at e
      exact t.c b u e
  obtain ⟨v, e1, e2⟩ := t.e.at_ i _ hi
  have e3 : v = .ref a := e2
  subst e3
  have es := (t.e.mono sm).set i (R := R) (v := .ref a) (hw _ _ upd_same (W.mono _ _ _ sm w))
  have hset : σ.set i (some (V.ref a)) = σ := by
    apply List.ext_getElem?
    intro j
    by_cases q : i = j
    · subst q
      rw [List.getElem?_set_self (List.getElem?_eq_some_iff.mp e1).1, e1]
    · rw [List.getElem?_set_ne q]
  rw [hset] at es
  have hsub : (Γ.o.eraseIdx k).Sublist Γ.o := List.eraseIdx_sublist ..
  refine ⟨x2, es, (hsub.map (·.1)).nodup t.nd, fun p hp => ?_⟩
  obtain ⟨h1, ho', h2, h3⟩ := t.o p (hsub.subset hp)
  refine ⟨?_, ho', h2, p.2.mono _ _ _ sm h3⟩
  rw [upd_ne]
  · exact h1
  · intro q
    obtain ⟨j, hj⟩ := List.mem_iff_getElem?.mp hp
    rw [List.getElem?_eraseIdx] at hj
    have key : ∀ m : Nat, Γ.o[m]? = some p → m = k := fun m hm => nd_ix t.nd (x := a) (by rw [List.getElem?_map, hm, ← q]; rfl) (by rw [List.getElem?_map, hk]; rfl)
    by_cases hl : j < k
    · rw [if_pos hl] at hj
      have := key j hj
      omega
    · rw [if_neg hl] at hj
      have := key (j + 1) hj
      omega
/-- R does not look at the heap -/
def Flat (R : Rep) : Prop := ∀ B B' v, R.p B v → R.p B' v
theorem flat_int {K : PySem.W.Frag} {i : Int} : Flat (rD K (.int i)) := fun B B' v h => rD_int.mpr (rD_int.mp h)
theorem flat_bool {K : PySem.W.Frag} {b : Bool} : Flat (rD K (.bool b)) := fun B B' v h => rD_bl.mpr (rD_bl.mp h)
theorem Nx.back {B H H' : Hp} {B1 B1' : Hp} (c : Same B H) (x : Nx B1 H B1' H') : Nx B H B H' := ⟨Same.refl _, x.h, c.trans x.h, fun _ h _ => h⟩
section
variable {Γ : Ctx} {te : TE} {t : TT} {R S : Rep} {k : Nat} {a : Addr} {W : Own} {i : Nat} {b : Bool}
theorem ev_peek (hk : Γ.o[k]? = some (a, W)) (hi : Γ.r[i]? = some (some (rV (.ref a)))) (hw : ∀ B ho, B a = some ho → W.p B ho → R.p B (.ref a)) (fl : Flat S) (h : Ev { r := Γ.r.set i (some R), o := Γ.o.eraseIdx k } te S) : Ev Γ te S := fun σ B H x Q q => by
  obtain ⟨ho, hh, hb, x2⟩ := x.peek hk hi hw
  exact h σ _ H x2 Q fun v B' H' y r => q v B H' (Nx.back x.c y) (fl _ _ _ r)
theorem et_peek (hk : Γ.o[k]? = some (a, W)) (hi : Γ.r[i]? = some (some (rV (.ref a)))) (hw : ∀ B ho, B a = some ho → W.p B ho → R.p B (.ref a)) (h : EvT { r := Γ.r.set i (some R), o := Γ.o.eraseIdx k } t b) : EvT Γ t b := fun σ B H x Q q => by
  obtain ⟨ho, hh, hb, x2⟩ := x.peek hk hi hw
  exact h σ _ H x2 Q fun B' H' y => q B H' (Nx.back x.c y)
theorem gx_seal' {B0 H0 : Hp} {N : L2.St → Hp → Prop} (hk : Γ.o[k]? = some (a, W)) (h0 : H0 a = none) (hi : Γ.r[i]? = some (some (rV (.ref a)))) (hw : ∀ B ho, B a = some ho → W.p B ho → R.p B (.ref a))
    (n : Gx B0 H0 { r := Γ.r.set i (some R), o := Γ.o.eraseIdx k } N) : Gx B0 H0 Γ N := gx_seal hk h0 hi hw n
end
/-! reads and writes of one's own list in slot i, the k-th own thing -/
section
variable {K : PySem.W.Frag} {B0 H0 : Hp} {Γ : Ctx} {te ti : TE} {tl : TA} {R : Rep} {Rs : List Rep} {k i : Nat} {a : Addr} {D : Ends}
theorem own_at {W : Own} {B H : Hp} {σ : L2.St} (x : At Γ B H σ) (hk : Γ.o[k]? = some (a, W)) : ∃ ho, H a = some ho ∧ W.p B ho := (x.o (a, W) (List.mem_of_getElem? hk)).2
theorem var_at {B H : Hp} {σ : L2.St} (x : At Γ B H σ) (hi : Γ.r[i]? = some (some (rV (.ref a)))) : σ[i]? = some (some (.ref a)) := by
  obtain ⟨v, e1, e2⟩ := x.e.at_ i _ hi
  rw [e1, show v = .ref a from e2]
/-- xs[j] -/
theorem ev_ixO {j : Int} {n : Nat} (hk : Γ.o[k]? = some (a, oL Rs)) (hi : Γ.r[i]? = some (some (rV (.ref a)))) (hb : Ev Γ ti (rD K (.int j))) (hj : ixN Rs.length j = some n) (hr : Rs[n]? = some R) : Ev Γ (tOp (rIx K) (tVar i) ti) R := fun σ B H x Q q =>
  ⟨.ref a, var_at x hi, hb σ B H x _ fun v B2 H2 y r => by
    cases rD_int.mp r
    obtain ⟨ho, hh, xs, rfl, h2⟩ := own_at (x.next y) hk
    obtain ⟨v, e1, e2⟩ := h2.get hr
    exact .inl ⟨a, xs, j, v, rfl, rfl, .inl (.of hh), by unfold atI; rw [← h2.len, hj]; exact e1, q v B2 H2 y e2⟩⟩
/-- xs[::-1] -/
theorem ev_revO (hk : Γ.o[k]? = some (a, oL Rs)) (hi : Γ.r[i]? = some (some (rV (.ref a)))) : Ev Γ (tRevL K (tVar i)) (rLst K Rs.reverse) := fun σ B H x Q q => by
  obtain ⟨ho, hh, xs, rfl, h2⟩ := own_at x hk
  refine ⟨.ref a, var_at x hi, a, xs, rfl, .inl (.of hh), fun p hp => q _ (upd B p (.lst xs.reverse)) _ (Nx.new x.c hp) ⟨p, xs.reverse, rfl, .inl (.of upd_same), ?_⟩⟩
  exact All2.mono (paired_rev h2) (same_new (none_sub x.c hp))
/-- xs.append(y) -/
theorem gx_append (hk : Γ.o[k]? = some (a, oL Rs)) (h0 : H0 a = none) (hi : Γ.r[i]? = some (some (rV (.ref a)))) (hl : Rs.length < 100000) (h : EvA Γ tl [R]) (n : Gx B0 H0 { Γ with o := Γ.o.set k (a, oL (Rs ++ [R])) } D.nx) :
    Gx B0 H0 Γ (tDrop (tBM K "list" rAppend (tVar i) tl) D) := fun σ H ⟨B, x, t⟩ => by
  obtain ⟨ho1, hh1, xs1, rfl, h1⟩ := own_at t hk
  refine ⟨.ref a, var_at t hi, .inl ⟨rfl, xs1, .inl (.of hh1)⟩, h σ B H t _ fun vs B2 H2 y r => ?_⟩
  obtain ⟨v, rfl, rv⟩ := all2_1 r
  have t2 := t.next y
  obtain ⟨ho, hh, xs, rfl, h2⟩ := own_at t2 hk
  refine ⟨a, xs, v, rfl, rfl, hh, Evl.sz_lt (by rw [← h2.len]; exact hl), n σ _ ⟨B2, ?_, t2.mut hk ⟨_, rfl, h2.snoc rv⟩⟩⟩
  exact (x.trans y).mut h0 (t2.o _ (List.mem_of_getElem? hk)).1
/-- xs.extend(t) -/
theorem gx_extT {Ss : List Rep} (hk : Γ.o[k]? = some (a, oL Rs)) (h0 : H0 a = none) (hi : Γ.r[i]? = some (some (rV (.ref a)))) (hl : Rs.length + Ss.length ≤ 100000) (h : EvA Γ tl [rTup K Ss]) (n : Gx B0 H0 { Γ with o := Γ.o.set k (a, oL (Rs ++ Ss)) } D.nx) :
    Gx B0 H0 Γ (tDrop (tBM K "list" (rExtT K) (tVar i) tl) D) := fun σ H ⟨B, x, t⟩ => by
  obtain ⟨ho1, hh1, xs1, rfl, h1⟩ := own_at t hk
  refine ⟨.ref a, var_at t hi, .inl ⟨rfl, xs1, .inl (.of hh1)⟩, h σ B H t _ fun vs B2 H2 y r => ?_⟩
  obtain ⟨v, rfl, b, zs, rfl, hs, hz⟩ := all2_1 r
  have t2 := t.next y
  obtain ⟨ho, hh, xs, rfl, h2⟩ := own_at t2 hk
  refine ⟨a, b, xs, zs, rfl, rfl, hh, Evl.ex_t y.c hs, Evl.sz_of (by rw [← h2.len, ← hz.len]; exact hl), n σ _ ⟨B2, ?_, t2.mut hk ⟨_, rfl, h2.app hz⟩⟩⟩
  exact (x.trans y).mut h0 (t2.o _ (List.mem_of_getElem? hk)).1
theorem all2_set {Rs : List Rep} {B : Hp} {xs : List V} {R : Rep} {v : V} (h : All2 Rs B xs) (n : Nat) (r : R.p B v) : All2 (Rs.set n R) B (xs.set n v) := by
  induction h generalizing n with
  | nil => exact .nil
  | cons h1 h2 ih =>
    cases n with
    | zero => exact .cons r h2
    | succ n => exact .cons h1 (ih n)
/-- xs[j] = y -/
theorem gx_lset {j : Int} {n : Nat} (hk : Γ.o[k]? = some (a, oL Rs)) (h0 : H0 a = none) (hi : Γ.r[i]? = some (some (rV (.ref a)))) (hv : Ev Γ te R) (hb : Ev Γ ti (rD K (.int j))) (hj : ixN Rs.length j = some n) (c : Gx B0 H0 { Γ with o := Γ.o.set k (a, oL (Rs.set n R)) } D.nx) :
    Gx B0 H0 Γ (tAsg te (gSub (tVar i) ti rSetL) D) := fun σ H ⟨B, x, t⟩ =>
  hv σ B H t _ fun v B2 H2 y rv => ⟨.ref a, var_at (t.next y) hi, hb σ B2 H2 (t.next y) _ fun w B3 H3 z rw => by
    cases rD_int.mp rw
    have t3 := (t.next y).next z
    obtain ⟨ho, hh, xs, rfl, h2⟩ := own_at t3 hk
    refine ⟨a, xs, j, n, rfl, rfl, hh, by rw [← h2.len]; exact hj, c σ _ ⟨B3, ?_, t3.mut hk ⟨_, rfl, all2_set h2 n (R.mono _ _ _ z.b rv)⟩⟩⟩
    exact ((x.trans y).trans z).mut h0 (t3.o _ (List.mem_of_getElem? hk)).1⟩
end
/-! one's own dict -/
section
variable {P : Program} {w : World} {K : PySem.W.Frag} {B0 H0 : Hp} {Γ : Ctx} {te ti : TE} {tl : TA} {R : Rep} {kvs : List (NK × Int)} {k i : Nat} {a : Addr} {D : Ends} {key : NK}
theorem key_ref {ks : List NK} {B : Hp} {v : V} (h : (rD K (NestedKey.tup ks).data).p B v) : ∃ a, v = .ref a := by
  cases (show Dp K B v (.tuple (NestedKey.datas ks)) from h) with
  | tup hs ha => exact ⟨_, rfl⟩
theorem DAt.to {P : Program} {w : World} {K : PySem.W.Frag} {B B' : Hp} {d : Addr} {o : Obj} {xs : List (NK × Addr × Value)} {kvs : List (NK × Int)} (h : DAt P w K B d o xs kvs) (e : Same B B') : DAt P w K B' d o xs kvs := h.mono e
theorem rv_din {ks : List NK} {neg : Bool} (hd : (NestedKey.tup ks).depth ≤ 8) : RV2 (rDIn P w K neg) (rD K (NestedKey.tup ks).data) (rDct P w K kvs) (rD K (.bool (if neg then !(dget kvs (.tup ks)).isSome else (dget kvs (.tup ks)).isSome))) := fun x y B H c rx ry Q q => by
  obtain ⟨a, rfl⟩ := key_ref rx
  exact ⟨a, .tup ks, kvs, rfl, dp_mono c _ _ rx, hd, (rDct P w K kvs).mono _ _ _ c ry, q _ B H (Nx.refl c) (rD_bl.mpr rfl)⟩
theorem rv_dget {ks : List NK} {n : Int} (hd : (NestedKey.tup ks).depth ≤ 8) (hg : dget kvs (.tup ks) = some n) : RV2 (rDGet P w K) (rDct P w K kvs) (rD K (NestedKey.tup ks).data) (rD K (.int n)) := fun x y B H c rx ry Q q => by
  obtain ⟨a, rfl⟩ := key_ref ry
  exact ⟨a, .tup ks, kvs, n, rfl, dp_mono c _ _ ry, hd, (rDct P w K kvs).mono _ _ _ c rx, hg, q _ B H (Nx.refl c) (rD_int.mpr rfl)⟩
theorem ev_dgetOr {ks : List NK} {m : Int} (hd : (NestedKey.tup ks).depth ≤ 8) (ho : Ev Γ te (rDct P w K kvs)) (ha : EvA Γ tl [rD K (NestedKey.tup ks).data, rD K (.int m)]) : Ev Γ (tDGetOr P w K te tl) (rD K (.int ((dget kvs (.tup ks)).getD m))) := fun σ B H x Q q =>
  ho σ B H x _ fun v B2 H2 y r => ⟨⟨kvs, (rDct P w K kvs).mono _ _ _ y.c r⟩, ha σ B2 H2 (x.next y) _ fun vs B3 H3 z rs => by
    obtain ⟨u, u2, rfl, r1, r2⟩ := all2_2 rs
    obtain ⟨a, rfl⟩ := key_ref r1
    cases rD_int.mp r2
    exact ⟨a, .tup ks, kvs, m, rfl, dp_mono z.c _ _ r1, hd, (rDct P w K kvs).mono _ _ _ (z.b.trans z.c) r, q _ B3 H3 (y.trans z) (rD_int.mpr rfl)⟩⟩
/-- d[key] = n -/
theorem gx_dset {ks : List NK} {n : Int} (hk : Γ.o[k]? = some (a, oDct P w K a kvs)) (h0 : H0 a = none) (hi : Γ.r[i]? = some (some (rV (.ref a)))) (hv : Ev Γ te (rD K (.int n))) (hb : Ev Γ ti (rD K (NestedKey.tup ks).data)) (hd : (NestedKey.tup ks).depth ≤ 8) (hl : kvs.length < 100000)
    (c : Gx B0 H0 { Γ with o := Γ.o.set k (a, oDct P w K a (dput kvs (.tup ks) n)) } D.nx) : Gx B0 H0 Γ (tAsg te (gSub (tVar i) ti (rDSet P w K)) D) := fun σ H ⟨B, x, t⟩ =>
  hv σ B H t _ fun v B2 H2 y rv => ⟨.ref a, var_at (t.next y) hi, hb σ B2 H2 (t.next y) _ fun u B3 H3 z ru => by
    cases rD_int.mp rv
    obtain ⟨b, rfl⟩ := key_ref ru
    have t3 := (t.next y).next z
    obtain ⟨ho, hh, o, xs, rfl, h2⟩ := own_at t3 hk
    refine ⟨a, o, xs, kvs, b, .tup ks, n, rfl, rfl, rfl, hh, h2.mono z.c, hl, dp_mono z.c _ _ ru, hd, fun o' xs' f => c σ _ ⟨B3, ?_, t3.mut hk ⟨o', xs', rfl, f B3 ru h2⟩⟩⟩
    exact ((x.trans y).trans z).mut h0 (t3.o _ (List.mem_of_getElem? hk)).1⟩
/-- d.pop(key) -/
theorem gx_dpop {ks : List NK} {n : Int} (hk : Γ.o[k]? = some (a, oDct P w K a kvs)) (h0 : H0 a = none) (hi : Γ.r[i]? = some (some (rV (.ref a)))) (hb : EvA Γ tl [rD K (NestedKey.tup ks).data]) (hd : (NestedKey.tup ks).depth ≤ 8) (hg : dget kvs (.tup ks) = some n)
    (c : Gx B0 H0 { Γ with o := Γ.o.set k (a, oDct P w K a (ddel kvs (.tup ks))) } D.nx) : Gx B0 H0 Γ (tDrop (tDPop P w K (tVar i) tl) D) := fun σ H ⟨B, x, t⟩ => by
  obtain ⟨ho, hh, o, xs, rfl, h2⟩ := own_at t hk
  refine ⟨.ref a, var_at t hi, ⟨a, o, xs, kvs, rfl, hh, h2.mono t.c⟩, hb σ B H t _ fun vs B3 H3 z rus => ?_⟩
  obtain ⟨u, rfl, ru⟩ := all2_1 rus
  obtain ⟨b, rfl⟩ := key_ref ru
  have t3 := t.next z
  obtain ⟨ho, hh, o, xs, rfl, h2⟩ := own_at t3 hk
  refine ⟨a, o, xs, kvs, b, .tup ks, n, rfl, rfl, hh, h2.mono z.c, dp_mono z.c _ _ ru, hd, hg, fun o' xs' f => c σ _ ⟨B3, ?_, t3.mut hk ⟨o', xs', rfl, f B3 h2⟩⟩⟩
  exact (x.trans z).mut h0 (t3.o _ (List.mem_of_getElem? hk)).1
theorem eo_dnew : EvO Γ (tDNew P w K) (⟨fun B ho => ∃ d, (oDct P w K d []).p B ho, fun B B' o e ⟨d, h⟩ => ⟨d, (oDct P w K d []).mono B B' o e h⟩⟩) := fun σ B H x Q q p o hp f => q p _ B _ (Nx.newM x.c hp) hp (none_sub x.c hp) upd_same ⟨p, o, [], rfl, f B⟩
/-- {} in slot i -/
theorem gx_dnew (c : ∀ a, H0 a = none → Gx B0 H0 ((Γ.add a (oDct P w K a [])).set i (rV (.ref a))) D.nx) : Gx B0 H0 Γ (tAsg (tDNew P w K) (gName i) D) := fun σ H ⟨B, x, t⟩ p o hp f => by
  have y : Nx B H B (upd H p (dO o p)) := Nx.newM t.c hp
  have t2 := t.next y
  have hn : p ∉ Γ.o.map (·.1) := fun hm => by
    obtain ⟨q, hq, e⟩ := List.mem_map.mp hm
    obtain ⟨_, ho', h2, _⟩ := t.o q hq
    rw [e, hp] at h2
    cases h2
  exact c p (x.h.free hp) _ _ ⟨B, x.trans y, (t2.add' (W := oDct P w K p []) (none_sub t.c hp) upd_same hn ⟨o, [], rfl, f B⟩).set i (R := rV (.ref p)) rfl⟩
end
/-! ### a, b = x, y -/
/-- the values so far: Ps -/
def Gt (B0 H0 : Hp) (Γ : Ctx) (Ps : List Rep) (tl : TA) (N : List V → L2.St → Hp → Prop) : Prop := ∀ σ H B vs, Nx B0 H0 B H → At Γ B H σ → All2 Ps B vs → tl σ H fun ws H' => N (vs ++ ws) σ H'
section
variable {K : PySem.W.Frag} {B0 H0 : Hp} {Γ : Ctx} {te : TE} {tl : TA} {R S T : Rep} {Ps : List Rep} {N : List V → L2.St → Hp → Prop} {D : Ends}
theorem gt_cons (h : Ev Γ te R) (k : Gt B0 H0 Γ (Ps ++ [R]) tl N) : Gt B0 H0 Γ Ps (tCons te tl) N := fun σ H B vs x t r => h σ B H t _ fun v B2 H2 y rv => by
  have q := k σ H2 B2 (vs ++ [v]) (x.trans y) (t.next y) ((r.mono y.b).snoc rv)
  simpa using q
theorem gt_own {W : Own} (h : EvO Γ te W) (k : ∀ a, H0 a = none → Gt B0 H0 (Γ.add a W) (Ps ++ [rV (.ref a)]) tl N) : Gt B0 H0 Γ Ps (tCons te tl) N := fun σ H B vs x t r => h σ B H t _ fun p ho B2 H2 y h0 hb hh w => by
  have t2 := t.next y
  have hn : p ∉ Γ.o.map (·.1) := fun hm => by
    obtain ⟨q, hq, e⟩ := List.mem_map.mp hm
    obtain ⟨_, ho', h2, _⟩ := t.o q hq
    rw [e, h0] at h2
    cases h2
  have q := k p (x.h.free h0) σ H2 B2 (vs ++ [.ref p]) (x.trans y) (t2.add' hb hh hn w) ((r.mono y.b).snoc (R := rV (.ref p)) (y := .ref p) rfl)
  simpa using q
theorem gt_nil (k : ∀ σ H B vs, Nx B0 H0 B H → At Γ B H σ → All2 Ps B vs → N vs σ H) : Gt B0 H0 Γ Ps tNil N := fun σ H B vs x t r => by
  have q := k σ H B vs x t r
  show N (vs ++ []) σ H
  rw [List.append_nil]
  exact q
theorem gt_two {i j : Nat} (k : Gx B0 H0 ((Γ.set i R).set j S) D.nx) : Gt B0 H0 Γ ([] ++ [R] ++ [S]) tNil fun vs σ H => ∃ v w, vs = [v, w] ∧ D.nx ((σ.set i (some v)).set j (some w)) H := gt_nil fun σ H B vs x t r => by
  obtain ⟨v, w, rfl, r1, r2⟩ := all2_2 r
  exact ⟨v, w, rfl, k _ H ⟨B, x, (t.set i r1).set j r2⟩⟩
theorem gt_three {i j l : Nat} (k : Gx B0 H0 (((Γ.set i R).set j S).set l T) D.nx) : Gt B0 H0 Γ ([] ++ [R] ++ [S] ++ [T]) tNil fun vs σ H => ∃ u v w, vs = [u, v, w] ∧ D.nx (((σ.set i (some u)).set j (some v)).set l (some w)) H := gt_nil fun σ H B vs x t r => by
  obtain ⟨u, v, w, rfl, r1, r2, r3⟩ := all2_3 r
  exact ⟨u, v, w, rfl, k _ H ⟨B, x, ((t.set i r1).set j r2).set l r3⟩⟩
theorem gx_par {i j : Nat} (h : Gt B0 H0 Γ [] tl fun vs σ H => ∃ v w, vs = [v, w] ∧ D.nx ((σ.set i (some v)).set j (some w)) H) : Gx B0 H0 Γ (tPar i j tl D) := fun σ H ⟨B, x, t⟩ => h σ H B [] x t .nil
theorem gx_par3 {i j l : Nat} (h : Gt B0 H0 Γ [] tl fun vs σ H => ∃ u v w, vs = [u, v, w] ∧ D.nx (((σ.set i (some u)).set j (some v)).set l (some w)) H) : Gx B0 H0 Γ (tPar3 i j l tl D) := fun σ H ⟨B, x, t⟩ => h σ H B [] x t .nil
/-- i += n -/
theorem gx_augI {i : Nat} {m n : Int} (hi : Γ.r[i]? = some (some (rD K (.int m)))) (h : Ev Γ te (rD K (.int n))) (k : Gx B0 H0 (Γ.set i (rD K (.int (m + n)))) D.nx) : Gx B0 H0 Γ (tAug i te (ipI fun i j => i + j) D) := fun σ H ⟨B, x, t⟩ => by
  obtain ⟨v, e1, e2⟩ := t.e.at_ i _ hi
  cases rD_int.mp e2
  refine ⟨.int m, e1, h σ B H t _ fun w B2 H2 y r => ?_⟩
  cases rD_int.mp r
  exact ⟨m, n, rfl, rfl, k _ H2 ⟨B2, x.trans y, (t.next y).set i (rD_int.mpr rfl)⟩⟩
theorem gx_break (k : Gx B0 H0 Γ D.bk) : Gx B0 H0 Γ (tBreak D) := k
end
/-! ### lists: +, slices; for over what some i tells -/
def rCatL (K : PySem.W.Frag) : R2 := fun x y H Q => ∃ l b xs zs, x = .ref l ∧ y = .ref b ∧ SqL K H l xs ∧ SqL K H b zs ∧ xs.length + zs.length ≤ sizeLine ∧ ∀ p, H p = none → Q (.ref p) (upd H p (.lst (xs ++ zs)))
theorem k_catL {X : Cx} (K : PySem.W.Frag) (hK : X.K = K := by rfl) : OpR X (binaryOp .Add) (rCatL K) := by
  subst hK
  intro pins s σ H x y v u Q I rx ry ⟨l, b, xs, zs, ex, ey, hH, hB, hz, q⟩
  subst ex ey
  cases rx
  cases ry
  obtain ⟨its, r, ⟨⟨c1, d1, dt1, sl1⟩, n1, g1, hc1, hd1, ht1⟩, z1⟩ := I.list hH
  obtain ⟨its2, r2, ⟨⟨c2, d2, dt2, sl2⟩, n2, g2, hc2, hd2, ht2⟩, z2⟩ := I.list hB
  simp only at hc1 hd1 ht1 hc2 hd2 ht2
  subst hc1 hd1 ht1 hc2 hd2 ht2
  have l1 := r.length
  have l2 := r2.length
  refine concat_meets ⟨_, g1, rfl⟩ ⟨_, g2, rfl⟩ noFill_list_add seq_list_add F.slot_list_add F.entry_list_add (F.args_list_add_2 _ _) (list_addW l b its.toArray its2.toArray n1 n2 none none sl1 sl2 (by rw [List.size_toArray, List.size_toArray]; omega)) ⟨g1, g2, ?_⟩
  have ea : its.toArray ++ its2.toArray = (its ++ its2).toArray := by simp
  rw [ea]
  exact ⟨.ref _, _, I.lnew (t' := s.toks) (r.append r2) (by rw [List.length_append]; omega), rfl, q _ I.fresh⟩
section
variable {K : PySem.W.Frag} {Γ : Ctx} {te : TE} {Rs Ss : List Rep} {tl th : TO}
theorem rv_catL (h : Rs.length + Ss.length ≤ 100000) : RV2 (rCatL K) (rLst K Rs) (rLst K Ss) (rLst K (Rs ++ Ss)) := fun x y B H c ⟨a, xs, ex, hs, h1⟩ ⟨b, ys, ey, hs2, h2⟩ Q q =>
  ⟨a, b, xs, ys, ex, ey, c.seq hs, c.seq hs2, Evl.sz_of (by rw [← h1.len, ← h2.len]; exact h), fun p hp => q _ (upd B p (.lst (xs ++ ys))) _ (Nx.new c hp) ⟨p, _, rfl, .inl (.of upd_same), (h1.app h2).mono (same_new (none_sub c hp))⟩⟩
/-- a bound of a slice -/
def EvP (Γ : Ctx) (t : TO) (o : Option Int) : Prop := ∀ σ B H, At Γ B H σ → ∀ Q : Option Int → Hp → Prop, (∀ B' H', Nx B H B' H' → Q o H') → t σ H Q
theorem ep_no : EvP Γ tNoPart none := fun σ B H x Q q => q B H x.nx
theorem ep_some {i : Int} (h : Ev Γ te (rD K (.int i))) : EvP Γ (tPart te) (some i) := fun σ B H x Q q => h σ B H x _ fun v B2 H2 y r => ⟨i, rD_int.mp r, q B2 H2 y⟩
def cutR {α : Type} (xs : List α) (lo hi : Option Int) : List α := (xs.drop (HT.sIx xs.length 0 lo)).take (HT.sIx xs.length xs.length hi - HT.sIx xs.length 0 lo)
theorem paired_drop {α β : Type} {F : α → β → Prop} : ∀ {l : List α} {r : List β} (n : Nat), Paired F l r → Paired F (l.drop n) (r.drop n)
  | _, _, 0, h => h
  | _, _, n + 1, .nil => .nil
  | _, _, n + 1, .cons a b => paired_drop n b
theorem paired_take {α β : Type} {F : α → β → Prop} : ∀ {l : List α} {r : List β} (n : Nat), Paired F l r → Paired F (l.take n) (r.take n)
  | _, _, 0, h => .nil
  | _, _, n + 1, .nil => .nil
  | _, _, n + 1, .cons a b => .cons a (paired_take n b)
theorem ev_slL {lo hi : Option Int} (h : Ev Γ te (rLst K Rs)) (h1 : EvP Γ tl lo) (h2 : EvP Γ th hi) : Ev Γ (tSl (rSlL K) te tl th) (rLst K (cutR Rs lo hi)) := fun σ B H x Q q =>
  h σ B H x _ fun v B2 H2 y ⟨a, xs, e, hs, ha⟩ => h1 σ B2 H2 (x.next y) _ fun B3 H3 z => h2 σ B3 H3 ((x.next y).next z) _ fun B4 H4 k => by
    have sm : Same B2 B4 := z.b.trans k.b
    refine ⟨a, xs, e, (sm.trans k.c).seq hs, fun p hp => q _ (upd B4 p (.lst (cutV xs lo hi))) _ (((y.trans z).trans k).trans (Nx.new k.c hp)) ⟨p, _, rfl, .inl (.of upd_same), ?_⟩⟩
    have hl := ha.len
    have e1 : cutV xs lo hi = cutR xs lo hi := rfl
    rw [e1]
    unfold cutR
    rw [hl]
    exact paired_take _ (paired_drop _ (ha.mono (sm.trans (same_new (none_sub k.c hp)))))
theorem ev_revL (h : Ev Γ te (rLst K Rs)) : Ev Γ (tRevL K te) (rLst K Rs.reverse) := fun σ B H x Q q => h σ B H x _ fun v B2 H2 y ⟨a, xs, e, hs, ha⟩ =>
  ⟨a, xs, e, y.c.seq hs, fun p hp => q _ (upd B2 p (.lst xs.reverse)) _ (y.trans (Nx.new y.c hp)) ⟨p, _, rfl, .inl (.of upd_same), All2.mono (paired_rev ha) (same_new (none_sub y.c hp))⟩⟩
theorem ev_revT (h : Ev Γ te (rTup K Rs)) : Ev Γ (tRevT K te) (rTup K Rs.reverse) := fun σ B H x Q q => h σ B H x _ fun v B2 H2 y ⟨a, xs, e, hs, ha⟩ =>
  ⟨a, xs, e, Evl.ex_t y.c hs, fun p hp => q _ (upd B2 p (.tup xs.reverse)) _ (y.trans (Nx.new y.c hp)) ⟨p, _, rfl, .inl (.of upd_same), All2.mono (paired_rev ha) (same_new (none_sub y.c hp))⟩⟩
end
def EvIX {ι : Type} (Γ : Ctx) (wi : TI) (P : ι → Prop) (Rs : ι → List Rep) : Prop := ∀ σ B H, At Γ B H σ → ∀ N : It → Hp → Prop, (∀ J B' H' i, P i → Nx B H B' H' → WalkB J B' (Rs i) → N J H') → wi σ H N
theorem gx_forX {ι : Type} {P : ι → Prop} {Rs : ι → List Rep} {B0 H0 : Hp} {Γ : Ctx} {wi : TI} {g : TG} {tb : TS} {D : Ends} (h : EvIX Γ wi P Rs) (W : ι → Nat → Ctx → Prop) (w0 : ∀ ix, P ix → W ix 0 Γ)
    (turn : ∀ ix, P ix → ∀ B1 H1, Nx B0 H0 B1 H1 → ∀ (i : Nat) (Γi : Ctx) (R : Rep), (Rs ix)[i]? = some R → W ix i Γi → ∃ Γg, EvG Γi g R Γg ∧ ∀ N : L2.St → Hp → Prop, (∀ Γ2, W ix (i + 1) Γ2 → Gx B1 H0 Γ2 N) → Gx B1 H0 Γg (tb { D with nx := N, ct := N, bk := D.nx }))
    (done : ∀ ix, P ix → ∀ Γn, W ix (Rs ix).length Γn → Gx B0 H0 Γn D.nx) : Gx B0 H0 Γ (tFor wi g tb D) := fun σ H ⟨B, x, a⟩ =>
  h σ B H a _ fun J B' H' ix hp y wk => by
    have x' := x.trans y
    refine ⟨fun i m σ2 H2 => m = (Rs ix).length - i ∧ i ≤ (Rs ix).length ∧ ∃ Γi, W ix i Γi ∧ Reach B' H0 Γi σ2 H2, ⟨_, rfl, Nat.zero_le _, Γ, w0 ix hp, B', x'.mid, a.next y⟩, ?_⟩
    rintro i m σ2 H2 ⟨rfl, hi, Γi, wi', B2, x2, a2⟩
    by_cases hlt : i < (Rs ix).length
    · refine .inr ⟨wk.goes i B2 H2 hlt x2.b x2.c, fun σ3 H3 => ∃ Γ3, W ix (i + 1) Γ3 ∧ Reach B' H0 Γ3 σ3 H3, fun σ3 H3 ⟨Γ3, w3, r3⟩ => ⟨(Rs ix).length - (i + 1), by omega, rfl, hlt, Γ3, w3, r3⟩, fun v H3 hy => ?_⟩
      obtain ⟨B3, y3, rv⟩ := wk.yields i B2 H2 v H3 (Rs ix)[i] (List.getElem?_eq_getElem hlt) x2.b x2.c hy
      obtain ⟨Γg, hg, hb⟩ := turn ix hp B' H' x' i Γi (Rs ix)[i] (List.getElem?_eq_getElem hlt) wi'
      exact hg σ2 B3 H3 v (a2.next y3) rv _ fun σ4 a4 => hb _ (fun Γ2 w2 σ5 H5 r5 => ⟨Γ2, w2, r5⟩) σ4 H3 ⟨B3, x2.trans y3, a4⟩
    · have e : i = (Rs ix).length := by omega
      subst e
      exact .inl ⟨wk.stops B2 H2 x2.b x2.c, done ix hp Γi wi' σ2 H2 ⟨B2, x'.mix x2, a2⟩⟩
/-! ### a dict walked, in the terms of Ev -/
section
variable {P : Program} {w : World} {K : PySem.W.Frag} {Γ : Ctx} {te : TE} {kvs : List (NK × Int)}
theorem walk_kd {Bz : Hp} {d : Addr} {o : Obj} {xs : List (NK × Addr × Value)} (h : Bz d = some (dO o d)) (f : DAt P w K Bz d o xs kvs) : WalkB (Ikd P w d o) Bz (kvs.map fun x => rD K x.1.data) := by
  have hl := f.len
  refine ⟨fun i B H hi e1 e2 => ⟨(e1.trans e2) _ _ h, xs, f.fa, by rw [hl]; simpa using hi⟩, fun B H e1 e2 => ⟨(e1.trans e2) _ _ h, xs, f.fa, by simp [hl]⟩, fun i B H x H' R hR e1 e2 ⟨y1, a, y2, y3⟩ => ?_⟩
  subst y1 y2
  obtain ⟨x, hx, ha⟩ := y3 xs f.fa
  obtain ⟨kv, hk, q1, q2, q3, q4⟩ := paired_get' f.en hx
  rw [List.getElem?_map, hk] at hR
  cases hR
  exact ⟨B, Nx.refl e2, (rD K kv.1.data).mono _ _ _ e1 (by rw [← ha]; exact q2)⟩
theorem walk_id {Bz : Hp} {d : Addr} {o : Obj} {xs : List (NK × Addr × Value)} (h : Bz d = some (dO o d)) (f : DAt P w K Bz d o xs kvs) : WalkB (Iid P w d o) Bz (kvs.map fun x => rTup K [rD K x.1.data, rD K (.int x.2)]) := by
  have hl := f.len
  refine ⟨fun i B H hi e1 e2 => ⟨(e1.trans e2) _ _ h, xs, f.fa, by rw [hl]; simpa using hi, fun x hx => ?_⟩, fun B H e1 e2 => ⟨(e1.trans e2) _ _ h, xs, f.fa, by simp [hl]⟩, fun i B H x H' R hR e1 e2 ⟨T, a, n, y1, y2, y3, y4⟩ => ?_⟩
  · obtain ⟨j, hj⟩ := List.mem_iff_getElem?.mp hx
    obtain ⟨kv, _, _, _, _, t, q⟩ := paired_get' f.en hj
    exact ⟨_, t, q⟩
  · subst y1 y3
    obtain ⟨x, t, hx, ha, hn⟩ := y4 xs f.fa
    obtain ⟨kv, hk, q1, q2, q3, t', q4⟩ := paired_get' f.en hx
    rw [List.getElem?_map, hk] at hR
    cases hR
    rw [q4] at hn
    cases hn
    have s1 : Same Bz (upd B T (.tup [.ref a, .int kv.2])) := e1.trans (same_new (none_sub e2 y2))
    exact ⟨upd B T (.tup [.ref a, .int kv.2]), Nx.new e2 y2, T, [.ref a, .int kv.2], rfl, .inl (.of upd_same), .cons ((rD K kv.1.data).mono _ _ _ s1 (by rw [← ha]; exact q2)) (.cons (rD_int.mpr rfl) .nil)⟩
theorem ei_kd (h : Ev Γ te (rDct P w K kvs)) : EvI Γ (iKd P w K te) (kvs.map fun x => rD K x.1.data) := fun σ B H x N q => h σ B H x _ fun v B2 H2 y ⟨d, o, xs, e, hd, f⟩ => ⟨d, o, xs, kvs, e, y.c _ _ hd, f.mono y.c, q _ B2 H2 y (walk_kd hd f)⟩
theorem ei_id (h : Ev Γ te (rDct P w K kvs)) : EvI Γ (iId P w K te) (kvs.map fun x => rTup K [rD K x.1.data, rD K (.int x.2)]) := fun σ B H x N q => h σ B H x _ fun v B2 H2 y ⟨d, o, xs, e, hd, f⟩ => ⟨d, o, xs, kvs, e, y.c _ _ hd, f.mono y.c, q _ B2 H2 y (walk_id hd f)⟩
/-- dict(d): a copy of one's own -/
theorem eo_dctOf {tl : TA} (hn : (kvs.map fun x => (nestedKind P w).hash x.1).Nodup) (h : EvA Γ tl [rDct P w K kvs]) : ∀ σ B H, At Γ B H σ → ∀ Q : VK, (∀ p ho B' H', Nx B H B' H' → H p = none → B' p = none → H' p = some ho → (oDct P w K p kvs).p B' ho → Q (.ref p) H') → tCB (rDctOf P w K) tl σ H Q := fun σ B H x Q q => h σ B H x _ fun vs B2 H2 y r => by
  obtain ⟨v, rfl, d, o, xs, rfl, hd, f⟩ := all2_1 r
  exact ⟨d, o, xs, kvs, rfl, y.c _ _ hd, f.mono y.c, hn, fun p o' hp g => q p _ B2 _ (y.trans (Nx.newM y.c hp)) (y.h.free hp) (none_sub y.c hp) upd_same ⟨o', xs, rfl, g B2 f⟩⟩
theorem ev_dctOf {tl : TA} (hn : (kvs.map fun x => (nestedKind P w).hash x.1).Nodup) (h : EvA Γ tl [rDct P w K kvs]) : Ev Γ (tCB (rDctOf P w K) tl) (rDct P w K kvs) := fun σ B H x Q q => eo_dctOf hn h σ B H x Q fun p ho B2 H2 y h0 hb hh wo =>
  q _ (upd B2 p ho) H2 (y.seal h0 hb hh) (seal_dct upd_same ((oDct P w K p kvs).mono _ _ _ (same_new hb) wo))
theorem rvs_lsDct : RVs (rLsDct P w K) [rDct P w K kvs] (rLst K (kvs.map fun x => rD K x.1.data)) := fun vs B H c r Q q => by
  obtain ⟨v, rfl, d, o, xs, rfl, hd, f⟩ := all2_1 r
  refine ⟨d, o, xs, kvs, rfl, c _ _ hd, f.mono c, fun p hp => q _ (upd B p _) _ (Nx.new c hp) ⟨p, _, rfl, .inl (.of upd_same), ?_⟩⟩
  have s1 : Same B (upd B p (.lst (xs.map fun x => V.ref x.2.1))) := same_new (none_sub c hp)
  have en := f.en
  generalize (upd B p (.lst (xs.map fun x => V.ref x.2.1))) = B' at s1
  clear f hd q r
  induction en with
  | nil => exact .nil
  | cons h1 h2 ih => exact .cons ((rD K _).mono _ _ _ s1 h1.2.1) ih
/-- one's own copy comes: gt_own with the place told -/
theorem gt_dctOf {B0 H0 : Hp} {Ps : List Rep} {tl ts : TA} {N : List V → L2.St → Hp → Prop} (hn : (kvs.map fun x => (nestedKind P w).hash x.1).Nodup) (h : EvA Γ tl [rDct P w K kvs]) (k : ∀ a, H0 a = none → Gt B0 H0 (Γ.add a (oDct P w K a kvs)) (Ps ++ [rV (.ref a)]) ts N) : Gt B0 H0 Γ Ps (tCons (tCB (rDctOf P w K) tl) ts) N := fun σ H B vs x t r => eo_dctOf hn h σ B H t _ fun p ho B2 H2 y h0 hb hh w' => by
  have t2 := t.next y
  have hn : p ∉ Γ.o.map (·.1) := fun hm => by
    obtain ⟨q, hq, e⟩ := List.mem_map.mp hm
    obtain ⟨_, ho', h2, _⟩ := t.o q hq
    rw [e, h0] at h2
    cases h2
  have q := k p (x.h.free h0) σ H2 B2 (vs ++ [.ref p]) (x.trans y) (t2.add' hb hh hn w') ((r.mono y.b).snoc (R := rV (.ref p)) (y := .ref p) rfl)
  simpa using q
end
end Sm
namespace Sm
open PySem PySem.Spec PyProof.Rows L2
/-- what the defs ask of the text: C Table, D Seamed, p the property width and its getter g -/
structure Txt (K : PySem.W.Frag) (mg : Str → Option Value) (C D p g : Addr) : Prop where
  b : Blt mg
  c_MOST_ROWS : ∃ u, mg "MOST_ROWS" = some u ∧ RelV (.int 10) u
  c_MOST_COLUMNS : ∃ u, mg "MOST_COLUMNS" = some u ∧ RelV (.int 4) u
  c_MOST_VALUE : ∃ u, mg "MOST_VALUE" = some u ∧ RelV (.int 6) u
  c_MOST_PRICE : ∃ u, mg "MOST_PRICE" = some u ∧ RelV (.int 9) u
  c_MOST_PIECES : ∃ u, mg "MOST_PIECES" = some u ∧ RelV (.int 6) u
  mg_Table : mg "Table" = some (.ref C)
  ic : C8.InsC K C
  cl_Seamed : Cls K D
  n_rows : NoAttr K C "rows"
  n_plan : NoAttr K D "plan"
  n_floors : NoAttr K D "floors"
  p_width : PropOf K C "width" p g
theorem Txt.cl_Table {K : PySem.W.Frag} {mg : Str → Option Value} {C D p g : Addr} (T : Txt K mg C D p g) : Cls K C := T.ic.cl
theorem room65 {k : Nat} {A : Around} (r : Room k A) : A.units + 65 < cLine := by have := r.un; omega
/-! ### list methods with K told -/
section
variable {X : Cx} (K : PySem.W.Frag) {o e : Expr} {to : TE} {tl : TA} {apos cpos : Pos}
theorem k_append (ho : PE X o to) (ha : PA X [e] tl) (hK : X.K = K := by rfl)
    (hbase : attributeBase o "append" X.env (eval o X.env) = eval o X.env := by rfl)
    (hfew : ((backTo cpos (starEach [e] X.env)).all (fun x => !x.1) && (backToKw cpos (keywordEach [] X.env)).all (fun x => x.1.isSome)
      && decide (([e] : List Expr).length + ([] : List Keyword).length + (if ([] : List Keyword).isEmpty then 0 else 1) < 30)) = true := by rfl)
    (hline : (apos.endLine == cpos.line) = true := by rfl) (hs : starEach [e] X.env = (false, eval e X.env) :: starEach [] X.env := by rfl) (hplain : (backTo cpos (starEach [] X.env)).any (·.1) = false := by rfl) :
    PE X (.Call (.Attribute o "append" apos) [e] [] cpos) (tBM K "list" rAppend to tl) := by
  subst hK
  exact pe_bm F.plainAttrs_list F.slot_list_append F.type_list_append mt_append ho ha hbase hfew hline hs hplain
theorem k_extT (ho : PE X o to) (ha : PA X [e] tl) (hK : X.K = K := by rfl)
    (hbase : attributeBase o "extend" X.env (eval o X.env) = eval o X.env := by rfl)
    (hfew : ((backTo cpos (starEach [e] X.env)).all (fun x => !x.1) && (backToKw cpos (keywordEach [] X.env)).all (fun x => x.1.isSome)
      && decide (([e] : List Expr).length + ([] : List Keyword).length + (if ([] : List Keyword).isEmpty then 0 else 1) < 30)) = true := by rfl)
    (hline : (apos.endLine == cpos.line) = true := by rfl) (hs : starEach [e] X.env = (false, eval e X.env) :: starEach [] X.env := by rfl) (hplain : (backTo cpos (starEach [] X.env)).any (·.1) = false := by rfl) :
    PE X (.Call (.Attribute o "extend" apos) [e] [] cpos) (tBM K "list" (rExtT K) to tl) := by
  subst hK
  exact pe_bm F.plainAttrs_list F.slot_list_extend F.type_list_extend (mt_extT X.K) ho ha hbase hfew hline hs hplain
/-- len of an instance, by its own __len__ -/
def rLenI (C : Addr) (sp : Sp) : List V → Hp → VK → Prop := fun vs H Q => ∃ a dx fs, vs = [.ref a] ∧ H a = some (.ins C dx fs) ∧ sp [.ref a] H (fun v H' => ∃ n : Int, v = .int n ∧ 0 ≤ n ∧ n < 2 ^ 63 ∧ Q (.int n) H') C8.E0
theorem k_lenI {C : Addr} {sp : Sp} {k j : Nat} (c : C8.Met X.prog X.w X.K X.mg X.base k C "__len__" sp []) (hr : Room j X.A) (hk : k + 1 ≤ j) : CallR X (.builtin "len") (rLenI C sp) := by
  intro pins s σ H vs us Q I r ⟨a, dx, fs, e, ea, h⟩
  subst e
  rw [Vals.ref1 r]
  obtain ⟨f, fd, ps, ds, cl, me, F, hb, hd⟩ := c.ex
  cases hd
  obtain ⟨mA, O, _, _, _, _⟩ := ins_get I.hok ea
  obtain ⟨od, J, _⟩ := O.look
  have hl : ([Value.ref a] ++ []).length = ps.length := by rw [← F.len _ _ _ _ h] <;> rfl
  refine Calls.call_function_entry kind_len plain_len entry_len (args_len1 _) ?_
  unfold Builtin.«len»
  refine wpAny_bind  (wpAny_pure ?_)
  refine wpAny_bind (m := callSpecial? (.ref a) (Str.ofString "__len__")) (PySem.W.special_fn I.kIn J me.at_ (beq_iff_eq.mp me.fn) (wpAny_call ?_))
  refine codeAny_mono (F.run X.A.in1 X.stack s H ⟨[.ref a], []⟩ [.ref a] [.ref a] _ C8.E0 (hr.mono hk).in1 I.env0.in1 (hb s [.ref a] I.kIn hl) (.cons rfl .nil) h) fun r s' hq => ?_
  cases r with
  | error er => exact C8.pass0 (E := C8.E0) pins σ H s er s' I hq
  | ok fl =>
    cases fl with
    | ret u =>
      obtain ⟨v, H', I3, rv, n, ev, h0, h1, q3⟩ := I.after hq
      subst ev
      obtain ⟨t, rfl⟩ := rv
      refine wpAny_bind (wpAny_holding (wpAny_pure ?_))
      refine wpAny_bind (wpAny_letGo ?_)
      show wpAny _ _ (if n < 0 then _ else _) _ _ _
      rw [if_neg (by omega)]
      show wpAny _ _ (if n ≥ 2 ^ 63 then _ else _) _ _ _
      rw [if_neg (by omega)]
      exact wpAny_bind (wpAny_mkInt (wpAny_pure ⟨_, rfl, .int n, H', I3.tok _, ⟨_, rfl⟩, q3⟩))
    | next => exact False.elim hq
    | brk => exact False.elim hq
    | cont => exact False.elim hq
end
end Sm
namespace Sm
open PySem PySem.Spec PyProof.Rows L2
/-! ### instances by their attributes -/
def Flds (Fs : List (Str × Rep)) (B : Hp) (fs : List (Str × V)) : Prop := Paired (fun (p : Str × Rep) (q : Str × V) => p.1 = q.1 ∧ p.2.p B q.2) Fs fs
theorem Flds.mono {Fs : List (Str × Rep)} {B B' : Hp} {fs : List (Str × V)} (h : Flds Fs B fs) (e : Same B B') : Flds Fs B' fs := paired_mono h fun p q ⟨a, b⟩ => ⟨a, p.2.mono _ _ _ e b⟩
def rIns (C : Addr) (Fs : List (Str × Rep)) : Rep := ⟨fun B v => ∃ a dx fs, v = .ref a ∧ B a = some (.ins C dx fs) ∧ Flds Fs B fs, fun B B' v e ⟨a, dx, fs, h1, h2, h3⟩ => ⟨a, dx, fs, h1, e _ _ h2, h3.mono e⟩⟩
def oIns (C dx : Addr) (Fs : List (Str × Rep)) : Own := ⟨fun B ho => ∃ fs, ho = .ins C dx fs ∧ Flds Fs B fs, fun B B' ho e ⟨fs, h1, h2⟩ => ⟨fs, h1, h2.mono e⟩⟩
theorem Flds.len {Fs : List (Str × Rep)} {B : Hp} {fs : List (Str × V)} (h : Flds Fs B fs) : fs.length = Fs.length := (Paired.length h).symm
theorem Flds.look {B : Hp} {f : Str} {S : Rep} : ∀ {Fs : List (Str × Rep)} {fs : List (Str × V)}, Flds Fs B fs → Fs.lookup f = some S → ∃ u, fs.lookup f = some u ∧ S.p B u
  | _, _, .nil, h => by cases h
  | _, _, .cons (a := p) (b := q) ⟨r1, r2⟩ t, h => by
    obtain ⟨p1, p2⟩ := p
    obtain ⟨q1, q2⟩ := q
    have e : p1 = q1 := r1
    subst e
    rw [List.lookup_cons] at h ⊢
    cases hf : f == p1 with
    | true =>
      rw [hf] at h
      cases h
      exact ⟨q2, rfl, r2⟩
    | false =>
      rw [hf] at h
      exact Flds.look t h
theorem Flds.no {B : Hp} {f : Str} : ∀ {Fs : List (Str × Rep)} {fs : List (Str × V)}, Flds Fs B fs → Fs.lookup f = none → fs.lookup f = none
  | _, _, .nil, h => rfl
  | _, _, .cons (a := p) (b := q) ⟨r1, r2⟩ t, h => by
    obtain ⟨p1, p2⟩ := p
    obtain ⟨q1, q2⟩ := q
    have e : p1 = q1 := r1
    subst e
    rw [List.lookup_cons] at h ⊢
    cases hf : f == p1 with
    | true =>
      rw [hf] at h
      cases h
    | false =>
      rw [hf] at h
      exact Flds.no t h
theorem Flds.put {B : Hp} {f : Str} {S : Rep} {v : V} (hv : S.p B v) : ∀ {Fs : List (Str × Rep)} {fs : List (Str × V)}, Flds Fs B fs → Fs.lookup f = none → Flds (Fs ++ [(f, S)]) B (putF f v fs)
  | _, _, .nil, h => .cons ⟨rfl, hv⟩ .nil
  | _, _, .cons (a := p) (b := q) ⟨r1, r2⟩ t, h => by
    obtain ⟨p1, p2⟩ := p
    obtain ⟨q1, q2⟩ := q
    have e : p1 = q1 := r1
    subst e
    rw [List.lookup_cons] at h
    cases hf : f == p1 with
    | true =>
      rw [hf] at h
      cases h
    | false =>
      rw [hf] at h
      have hne : ¬ p1 = f := fun e => by rw [e] at hf; simp at hf
      unfold putF
      rw [if_neg hne]
      exact .cons ⟨rfl, r2⟩ (Flds.put hv t h)
section
variable {K : PySem.W.Frag} {Γ : Ctx} {ta te tv : TE} {tl : TA} {R S T : Rep} {Rs : List Rep} {C dx : Addr} {Fs : List (Str × Rep)} {f m : Str} {sp : Sp} {E : XK} {B0 H0 : Hp} {D : Ends}
theorem ev_fld (c : Cls K C) (n : NoAttr K C f) (hl : Fs.lookup f = some S) (h : Ev Γ te (rIns C Fs)) : Ev Γ (tFld K te f) S := fun σ B H x Q q => h σ B H x _ fun v B2 H2 y ⟨a, dx, fs, e, ha, hf⟩ => by
  obtain ⟨u, e1, e2⟩ := hf.look hl
  exact ⟨a, C, dx, fs, u, e, y.c _ _ ha, c, n, e1, q u B2 H2 y e2⟩
theorem ev_meth (hl : Fs.lookup m = none) (h : Ev Γ ta (rIns C Fs)) (k : EvA Γ tl Rs) (hs : RSp sp (rIns C Fs :: Rs) T) : Ev Γ (tMeth C m sp [] E ta tl) T := fun σ B H x Q q => h σ B H x _ fun v B2 H2 y r => by
  obtain ⟨a, dx, fs, e, ha, hf⟩ := id r
  refine ⟨a, dx, fs, e, y.c _ _ ha, hf.no hl, k σ B2 H2 (x.next y) _ fun vs B3 H3 z rs => ?_⟩
  rw [List.append_nil]
  exact hs (v :: vs) B3 H3 z.c (.cons ((rIns C Fs).mono _ _ _ z.b r) rs) Q E fun u B4 H4 w ru => q u B4 H4 ((y.trans z).trans w) ru
theorem ev_prop (h : Ev Γ ta (rIns C Fs)) (hs : RSp sp [rIns C Fs] T) : Ev Γ (tProp C sp [] E ta) T := fun σ B H x Q q => h σ B H x _ fun v B2 H2 y r => by
  obtain ⟨a, dx, fs, e, ha, hf⟩ := id r
  subst e
  exact ⟨a, dx, fs, rfl, y.c _ _ ha, hs [.ref a] B2 H2 y.c (.cons r .nil) Q E fun u B4 H4 w ru => q u B4 H4 (y.trans w) ru⟩
theorem rvs_lenI {n : Int} (h0 : 0 ≤ n) (h1 : n < 2 ^ 63) (hs : RSp sp [rIns C Fs] (rD K (.int n))) : RVs (rLenI C sp) [rIns C Fs] (rD K (.int n)) := fun vs B H c r Q q => by
  obtain ⟨v, rfl, rv⟩ := all2_1 r
  obtain ⟨a, dx, fs, e, ha, hf⟩ := id rv
  subst e
  exact ⟨a, dx, fs, rfl, c _ _ ha, hs [.ref a] B H c (.cons rv .nil) _ _ fun u B2 H2 y ru => ⟨n, rD_int.mp ru, h0, h1, q _ B2 H2 y (rD_int.mpr rfl)⟩⟩
/-- the promise of an __init__ of C: from the heap before the instance came -/
def SpI {α : Type} (C : Addr) (Rs : α → List Rep) (T : α → Rep) (pre : α → Prop) : Sp := fun vs H Q _ => ∃ (a : α) (x dx : Addr) (ws : List V) (B0 H0 : Hp), vs = .ref x :: ws ∧ H = upd (upd H0 dx (.own x)) x (.ins C dx []) ∧ H0 x = none ∧ H0 dx = none ∧ dx ≠ x ∧ Same B0 H0 ∧ All2 (Rs a) B0 ws ∧ pre a ∧
  ∀ B' H', Nx B0 H0 B' H' → (T a).p B' (.ref x) → Q .non H'
theorem ev_make {α : Type} {Rs : α → List Rep} {T : α → Rep} {pre : α → Prop} (a : α) (hp : pre a) (h : EvA Γ tl (Rs a)) : Ev Γ (tMake C (SpI C Rs T pre) [] E tl) (T a) := fun σ B H x Q q => h σ B H x _ fun vs B2 H2 y r x1 dx h1 h2 hne => by
  rw [List.append_nil]
  exact ⟨a, x1, dx, vs, B2, H2, rfl, rfl, h1, h2, hne, y.c, r, hp, fun B' H' z rt => ⟨rfl, q _ B' H' (y.trans z) rt⟩⟩
theorem spI_len {α : Type} {Rs : α → List Rep} {T : α → Rep} {pre : α → Prop} {ps : List Str} (len : ∀ a, (Rs a).length + 1 = ps.length) : ∀ vs H Q E, SpI C Rs T pre vs H Q E → vs.length = ps.length := fun vs H Q E ⟨a, x, dx, ws, B0, H0, e, _, _, _, _, _, r, _, _⟩ => by
  rw [e, ← len a, r.len] <;> rfl
def ctxI (N : List Str) (x : Addr) (C dx : Addr) (Rs : List Rep) : Ctx := { r := (ctxOf N (rV (.ref x) :: Rs)).r, o := [(x, oIns C dx [])] }
theorem spI_run {α : Type} {Rs : α → List Rep} {T : α → Rep} {pre : α → Prop} {N : List Str} {t : TS} (rd : ∀ a, pre a → ∀ (x dx : Addr) (B0 H0 : Hp) (Q : VK), H0 x = none → (∀ B' H', Nx B0 H0 B' H' → (T a).p B' (.ref x) → Q .non H') → Gx B0 H0 (ctxI N x C dx (Rs a)) (t (endsOf Q))) {vs : List V} {H : Hp} {Q : VK} {E : XK} (h : SpI C Rs T pre vs H Q E) :
    t { nx := fun _ H' => Q .non H', rt := Q } (L2.start N vs) H := by
  obtain ⟨a, x, dx, ws, B0, H0, e, eH, hx, hd, hne, c, r, hp, q⟩ := h
  subst e eH
  have n1 : Nx B0 H0 B0 (upd H0 dx (.own x)) := Nx.newM c hd
  have hx' : upd H0 dx (.own x) x = none := by rw [upd_ne (fun e => hne e.symm)]; exact hx
  have n2 : Nx B0 (upd H0 dx (.own x)) B0 (upd (upd H0 dx (.own x)) x (.ins C dx [])) := Nx.newM n1.c hx'
  refine rd a hp x dx B0 H0 Q hx q _ _ ⟨B0, n1.trans n2, (n1.trans n2).c, ?_, by simp [ctxI], fun p hp' => ?_⟩
  · exact env_start (Rs := rV (.ref x) :: Rs a) (.cons rfl r)
  · have e : p = (x, oIns C dx []) := by simpa [ctxI] using hp'
    subst e
    exact ⟨none_sub c hx, _, upd_same, [], rfl, .nil⟩
/-- self.f = value, self one's own -/
theorem gx_fld {k i : Nat} {a : Addr} (c : Cls K C) (n : NoAttr K C f) (hk : Γ.o[k]? = some (a, oIns C dx Fs)) (h0 : H0 a = none) (hi : Γ.r[i]? = some (some (rV (.ref a)))) (hl : Fs.lookup f = none) (hz : Fs.length < 900) (hv : Ev Γ tv S)
    (g : Gx B0 H0 { Γ with o := Γ.o.set k (a, oIns C dx (Fs ++ [(f, S)])) } D.nx) : Gx B0 H0 Γ (sFld K (tVar i) tv f D) := fun σ H ⟨B, x, t⟩ =>
  hv σ B H t _ fun v B2 H2 y rv => by
    have t2 := t.next y
    obtain ⟨ho, hh, fs, rfl, hf⟩ := own_at t2 hk
    refine ⟨.ref a, var_at t2 hi, a, C, dx, fs, rfl, hh, c, n, by rw [hf.len]; omega, g σ _ ⟨B2, ?_, t2.mut hk ⟨_, rfl, hf.put rv hl⟩⟩⟩
    exact (x.trans y).mut h0 (t2.o _ (List.mem_of_getElem? hk)).1
theorem seal_ins {B : Hp} {a : Addr} {ho : HO} (h : B a = some ho) (w : (oIns C dx Fs).p B ho) : (rIns C Fs).p B (.ref a) := by
  obtain ⟨fs, rfl, hf⟩ := w
  exact ⟨a, dx, fs, rfl, h, hf⟩
theorem gx_doneI {k : Nat} {x : Addr} {Q : VK} (hk : Γ.o[k]? = some (x, oIns C dx Fs)) (h0 : H0 x = none) (q : ∀ B' H', Nx B0 H0 B' H' → (rIns C Fs).p B' (.ref x) → Q .non H') : Gx B0 H0 Γ (fun _ H' => Q .non H') := fun σ H ⟨B, nx, t⟩ => by
  obtain ⟨hb, ho, hh, w⟩ := t.o (x, oIns C dx Fs) (List.mem_of_getElem? hk)
  exact q (upd B x ho) H (nx.seal h0 hb hh) (seal_ins upd_same ((oIns C dx Fs).mono _ _ _ (same_new hb) w))
end
end Sm
namespace Sm
open PySem PySem.Spec PyProof.Rows L2
section
variable {K : PySem.W.Frag} {Γ : Ctx} {wi : TI} {g : TG} {tt : TT} {te : TE} {vs : List Nat} {Rs : List Rep} {B0 H0 : Hp} {t : TT} {t1 t2 : TS} {D : Ends} {R : Rep}
theorem gx_ifT {b : Bool} (h : EvT Γ t b) (e : b = true) (k : Gx B0 H0 Γ (t1 D)) : Gx B0 H0 Γ (tIfS t t1 t2 D) := gx_if h (fun _ => k) fun q => by rw [e] at q; cases q
theorem gx_ifF {b : Bool} (h : EvT Γ t b) (e : b = false) (k : Gx B0 H0 Γ (t2 D)) : Gx B0 H0 Γ (tIfS t t1 t2 D) := gx_if h (fun q => by rw [e] at q; cases q) fun _ => k
theorem eqv_int {i j : Int} : PyData.eqv (.int i) (.int j) = decide (i = j) := by
  first
    | rfl
    | (show (i == j) = decide (i = j); rfl)
    | (unfold PyData.eqv; simp)
theorem rv_eqDI {i j : Int} : RV2 (rEqD K) (rD K (.int i)) (rD K (.int j)) (rD K (.bool (decide (i = j)))) := by rw [← eqv_int]; exact rv_eqD rfl rfl
theorem rv_neDI {i j : Int} : RV2 (rNeD K) (rD K (.int i)) (rD K (.int j)) (rD K (.bool (!decide (i = j)))) := by rw [← eqv_int]; exact rv_neD rfl rfl
/-- the type of such a value, whatever stands above -/
def TyR (K : PySem.W.Frag) (R : Rep) (t : Value) : Prop := ∀ B H v, Same B H → R.p B v → TyX K H v t
theorem ty_int {i : Int} : TyR K (rD K (.int i)) (.type "int") := fun B H v c h => by
  cases rD_int.mp h
  exact .base (.int i)
theorem ty_tup : TyR K (rTup K Rs) (.type "tuple") := fun B H v c ⟨a, xs, e, hs, _⟩ => by
  subst e
  rcases hs with (h | ⟨o, h⟩) | ⟨o, its, n, h1, h2, _⟩
  · exact .base (.tup (c _ _ h))
  · exact .fTuple (c _ _ h)
  · exact .kTuple h1 h2
theorem ty_lst : TyR K (rLst K Rs) (.type "list") := fun B H v c ⟨a, xs, e, hs, _⟩ => by
  subst e
  rcases hs with (h | ⟨o, h⟩) | ⟨o, its, n, h1, h2, _⟩
  · exact .base (.lst (c _ _ h))
  · exact .base (.frz (c _ _ h))
  · exact .kList h1 h2
theorem rvs_isiB {R : Rep} {n m : String} {bb : Bool} (hR : TyR K R (.type n)) (h : kitB n m = some bb) : RVs (rIsi K) [R, rV (.ty m)] (rD K (.bool bb)) := fun vs B H c r Q q => by
  obtain ⟨v, u, rfl, r1, r2⟩ := all2_2 r
  have e : u = .ty m := r2
  subst e
  exact ⟨v, .ty m, .type n, .type m, bb, rfl, .ty m, hR B H v c r1, kit_ty h, q _ B H (Nx.refl c) (rD_bl.mpr rfl)⟩
/-- isinstance(x, Table) of a Table -/
theorem rvs_isC {C : Addr} {Fs : List (Str × Rep)} (ic : C8.InsC K C) : RVs (rIsi K) [rIns C Fs, rV (.ref C)] (rD K (.bool true)) := fun vs B H c r Q q => by
  obtain ⟨v, u, rfl, ⟨a, dx, fs, e, ha, hf⟩, r2⟩ := all2_2 r
  have e2 : u = .ref C := r2
  subst e e2
  exact ⟨.ref a, .ref C, .ref C, .ref C, true, rfl, .own C, .base (.ins (c _ _ ha) ic.cl ic.ha ic.hn ic.htk ic.hm), ic.me, q _ B H (Nx.refl c) (rD_bl.mpr rfl)⟩
/-- isinstance(x, (list, tuple)) of one of both -/
theorem kit_lt1 : PySem.W.kitAny K (.type "list") [.type "list", .type "tuple"] = some true := kitAny_cons (kit_ty rfl) (fun h => nomatch h) fun _ => rfl
theorem kit_lt2 : PySem.W.kitAny K (.type "tuple") [.type "list", .type "tuple"] = some true := kitAny_cons (kit_ty (r := false) rfl) (fun _ => kitAny_cons (kit_ty rfl) (fun h => nomatch h) fun _ => rfl) fun h => nomatch h
theorem ev_isLT (h : Ev Γ te (rSeq K Rs)) : Ev Γ (tCB (rIsiT K) (tCons te (tCons (tTup (tCons (tC (.ty "list")) (tCons (tC (.ty "tuple")) tNil))) tNil))) (rD K (.bool true)) := fun σ B H x Q q => h σ B H x _ fun v B2 H2 y r => by
  refine ⟨Evl.sz_of (by show 2 ≤ 100000; decide), fun p hp => ?_⟩
  have c2 : Same B2 (upd H2 p (.tup [V.ty "list", V.ty "tuple"])) := y.c.trans (same_new hp)
  have nx : Nx B H B2 (upd H2 p (.tup [V.ty "list", V.ty "tuple"])) := y.trans (Nx.newM y.c hp)
  have fin : Q (.bl true) (upd H2 p (.tup [V.ty "list", V.ty "tuple"])) := q _ B2 _ nx (rD_bl.mpr rfl)
  rcases r with r | r
  · exact ⟨v, p, _, .type "list", [.type "list", .type "tuple"], true, rfl, upd_same, .cons (.ty _) (.cons (.ty _) .nil), ty_lst _ _ _ c2 r, kit_lt1, fin⟩
  · exact ⟨v, p, _, .type "tuple", [.type "list", .type "tuple"], true, rfl, upd_same, .cons (.ty _) (.cons (.ty _) .nil), ty_tup _ _ _ c2 r, kit_lt2, fin⟩
/-! all, sum of a comprehension -/
theorem ev_lcF {ι κ : Type} {R : ι → Rep} {f : ι → κ} {G : κ → Rep} (ls : List ι) (hn : ls.length ≤ 100000) (h : EvI Γ wi (ls.map R)) (hs : StoresIn g vs)
    (turn : ∀ l ∈ ls, ∃ Γg, EvG (Γ.wipe vs) g (R l) Γg ∧ Ev Γg te (G (f l))) : Ev Γ (tLc wi g tYes te vs) (rLst K ((ls.map f).map G)) := (ev_lcA (S := fun l => G (f l)) ls hn h hs turn).eq (by rw [List.map_map] <;> rfl)
theorem ev_allC {ι : Type} {R : ι → Rep} {f : ι → Bool} (ls : List ι) (hn : ls.length ≤ 100000) (h : EvI Γ wi (ls.map R)) (hs : StoresIn g vs)
    (turn : ∀ l ∈ ls, ∃ Γg, EvG (Γ.wipe vs) g (R l) Γg ∧ Ev Γg te (rD K (.bool (f l)))) : Ev Γ (tCB (rAll K) (tCons (tLc wi g tYes te vs) tNil)) (rD K (.bool (ls.all f))) :=
  (ev_cb (rvs_all (bs := ls.map f)) (ea_cons (ev_lcF (G := fun b => rD K (.bool b)) ls hn h hs turn) ea_nil)).eq (by rw [List.all_map] <;> rfl)
theorem rvs_sumS {ns : List Int} : RVs (rSumS K) [rSeq K (ns.map fun n => rD K (.int n))] (rD K (.int ns.sum)) := fun vs B H c r Q q => by
  obtain ⟨v, rfl, r1⟩ := all2_1 r
  obtain ⟨k, a, xs, rfl, h1, g1⟩ := seq_k r1
  have e := ints_all g1
  subst e
  exact ⟨k, a, ns, rfl, h1.mono c, q _ B H (Nx.refl c) (rD_int.mpr rfl)⟩
theorem ev_sumC {ι : Type} {R : ι → Rep} {f : ι → Int} (ls : List ι) (hn : ls.length ≤ 100000) (h : EvI Γ wi (ls.map R)) (hs : StoresIn g vs)
    (turn : ∀ l ∈ ls, ∃ Γg, EvG (Γ.wipe vs) g (R l) Γg ∧ Ev Γg te (rD K (.int (f l)))) : Ev Γ (tCB (rSumS K) (tCons (tLc wi g tYes te vs) tNil)) (rD K (.int (ls.map f).sum)) :=
  ev_cb rvs_sumS (ea_cons (ev_sqL (ev_lcF (G := fun b => rD K (.int b)) ls hn h hs turn)) ea_nil)
theorem ev_sumCf {ι : Type} {R : ι → Rep} {f : ι → Int} {p : ι → Bool} (ls : List ι) (hn : ls.length ≤ 100000) (h : EvI Γ wi (ls.map R)) (hs : StoresIn g vs)
    (turn : ∀ l ∈ ls, ∃ Γg, EvG (Γ.wipe vs) g (R l) Γg ∧ EvT Γg tt (p l) ∧ (p l = true → Ev Γg te (rD K (.int (f l))))) : Ev Γ (tCB (rSumS K) (tCons (tLc wi g tt te vs) tNil)) (rD K (.int ((ls.filter p).map f).sum)) :=
  ev_cb rvs_sumS (ea_cons (ev_sqL ((ev_lc (S := fun l => rD K (.int (f l))) ls p hn h hs turn).eq (by rw [List.map_map] <;> rfl))) ea_nil)
/-! list(x), tuple(x), list(range), tuple(range) -/
theorem rvs_listOf : RVs (rLsOf K) [rSeq K Rs] (rLst K Rs) := fun vs B H c r Q q => by
  obtain ⟨v, rfl, r1⟩ := all2_1 r
  rcases (show (rLst K Rs).p B v ∨ (rTup K Rs).p B v from r1) with ⟨a, xs, rfl, hs, h2⟩ | ⟨a, xs, rfl, hs, h2⟩
  · exact ⟨a, xs, rfl, .inl (c.seq hs), fun p hp => q _ (upd B p (.lst xs)) _ (Nx.new c hp) ⟨p, xs, rfl, .inl (.of upd_same), h2.mono (same_new (none_sub c hp))⟩⟩
  · exact ⟨a, xs, rfl, .inr (Evl.ex_t c hs), fun p hp => q _ (upd B p (.lst xs)) _ (Nx.new c hp) ⟨p, xs, rfl, .inl (.of upd_same), h2.mono (same_new (none_sub c hp))⟩⟩
theorem rvs_tupOf : RVs (rTpOf K) [rSeq K Rs] (rTup K Rs) := fun vs B H c r Q q => by
  obtain ⟨v, rfl, r1⟩ := all2_1 r
  rcases (show (rLst K Rs).p B v ∨ (rTup K Rs).p B v from r1) with ⟨a, xs, rfl, hs, h2⟩ | ⟨a, xs, rfl, hs, h2⟩
  · exact ⟨a, xs, rfl, .inl ⟨c.seq hs, fun p hp => q _ (upd B p (.tup xs)) _ (Nx.new c hp) ⟨p, xs, rfl, .inl (.of upd_same), h2.mono (same_new (none_sub c hp))⟩⟩⟩
  · exact ⟨a, xs, rfl, .inr ⟨Evl.ex_t c hs, q _ B H (Nx.refl c) ⟨a, xs, rfl, hs, h2⟩⟩⟩
theorem rvs_int1 {i : Int} : RVs rIntOf [rD K (.int i)] (rD K (.int i)) := fun vs B H c r Q q => by
  obtain ⟨v, rfl, r1⟩ := all2_1 r
  exact ⟨i, by rw [rD_int.mp r1], q _ B H (Nx.refl c) (rD_int.mpr rfl)⟩
end
end Sm
namespace Sm
open PySem PySem.Spec PyProof.Rows L2
/-- 0, 1, .., n - 1 -/
def iota (n : Nat) : List Int := (List.range n).map fun (i : Nat) => (i : Int)
theorem iota_len {n : Nat} : (iota n).length = n := by simp [iota]
theorem iota_mem {n : Nat} {i : Int} : i ∈ iota n ↔ 0 ≤ i ∧ i < n := by
  unfold iota
  rw [List.mem_map]
  constructor
  · rintro ⟨j, hj, rfl⟩
    have := List.mem_range.mp hj
    omega
  · rintro ⟨h1, h2⟩
    exact ⟨i.toNat, List.mem_range.mpr (by omega), by omega⟩
theorem rgV_iota {n : Nat} : rgV 0 (n : Int) = (iota n).map V.int := by
  unfold rgV iota
  simp
section
variable {K : PySem.W.Frag} {Γ : Ctx} {te : TE} {ta : TA} {Rs : List Rep} {R : Rep} {ns : List Int}
theorem rgok {n : Nat} (h : n ≤ 1000) : RgOk 0 (n : Int) := by
  have : (1000 : Nat) ≤ sizeLine := Evl.sz_of (by decide)
  unfold RgOk
  refine ⟨?_, ?_, ?_, ?_, ?_⟩ <;> omega
theorem ev_tupRg {n : Nat} (hn : n ≤ 1000) (h : Ev Γ te (rD K (.int n))) : Ev Γ (tTupRg (tRg1 te)) (rInts K (iota n)) := fun σ B H x Q q => h σ B H x _ fun v B2 H2 y r =>
  ⟨n, rD_int.mp r, rgok hn, fun p hp => q _ (upd B2 p (.tup (rgV 0 n))) _ (y.trans (Nx.new y.c hp)) ⟨p, _, rfl, .inl (.of upd_same), by rw [rgV_iota]; exact all_ints⟩⟩
theorem ev_lstRg {n : Nat} (hn : n ≤ 1000) (h : Ev Γ te (rD K (.int n))) : Ev Γ (tLstRg (tRg1 te)) (rLst K ((iota n).map fun i => rD K (.int i))) := fun σ B H x Q q => h σ B H x _ fun v B2 H2 y r =>
  ⟨n, rD_int.mp r, rgok hn, fun p hp => q _ (upd B2 p (.lst (rgV 0 n))) _ (y.trans (Nx.new y.c hp)) ⟨p, _, rfl, .inl (.of upd_same), by rw [rgV_iota]; exact all_ints⟩⟩
theorem ei_iota {n : Nat} (hn : n ≤ 1000) (h : EvA Γ ta [rD K (.int n)]) : EvI Γ (iRng1 ta) ((iota n).map fun i => rD K (.int i)) := by
  have q := ei_range (by omega) (by omega) h
  have e : ((List.range (n : Int).toNat).map fun (i : Nat) => rD K (.int (0 + (i : Int)))) = (iota n).map fun i => rD K (.int i) := by
    unfold iota
    simp
  rw [e] at q
  exact q
/-- ints as data -/
theorem ints_data {ns : List Int} : (ns.map PyData.int).map (rD K) = ns.map fun n => rD K (.int n) := by rw [List.map_map] <;> rfl
theorem ev_dL {ns : List Int} (h : Ev Γ te (rLst K (ns.map fun n => rD K (.int n)))) : Ev Γ te (rD K (.list (ns.map PyData.int))) := ev_mkL (by rw [ints_data]; exact h)
theorem ev_dT {ns : List Int} (h : Ev Γ te (rInts K ns)) : Ev Γ te (rD K (.tuple (ns.map PyData.int))) := ev_mkT (by rw [ints_data]; exact h)
theorem ev_uT {ns : List Int} (h : Ev Γ te (rD K (.tuple (ns.map PyData.int)))) : Ev Γ te (rInts K ns) := by
  have q := ev_unT h
  rw [ints_data] at q
  exact q
theorem ev_items {ds : List PyData} {Rs : List Rep} (e : ds.map (rD K) = Rs) (h : Ev Γ te (rD K (.tuple ds))) : Ev Γ te (rTup K Rs) := e ▸ ev_unT h
/-- x[j] of a list, a tuple -/
theorem rv_xT {ds : List Rep} {i : Int} {j : Nat} (hj : ixN ds.length i = some j) (hd : ds[j]? = some R) : RV2 (rIx K) (rTup K ds) (rD K (.int i)) R := fun x y B H c rx ry Q q => .inr (.inl (rv_ixT hj hd x y B H c rx ry Q q))
theorem rv_xL {ds : List Rep} {i : Int} {j : Nat} (hj : ixN ds.length i = some j) (hd : ds[j]? = some R) : RV2 (rIx K) (rLst K ds) (rD K (.int i)) R := fun x y B H c rx ry Q q => .inl (rv_ixL hj hd x y B H c rx ry Q q)
theorem rv_xS {ds : List Rep} {i : Int} {j : Nat} (hj : ixN ds.length i = some j) (hd : ds[j]? = some R) : RV2 (rIx K) (rSeq K ds) (rD K (.int i)) R := rv_ixS hj hd
theorem ixN_nat {n j : Nat} (h : j < n) : ixN n (j : Int) = some j := by
  unfold ixN
  simp
  omega
theorem ixN_0 {n : Nat} (h : 0 < n) : ixN n 0 = some 0 := ixN_nat (j := 0) h
theorem ixN_last {n : Nat} (h : 0 < n) : ixN n (-1) = some (n - 1) := by
  unfold ixN
  simp
  omega
theorem rvs_lenT : RVs (rLn K) [rTup K Rs] (rD K (.int Rs.length)) := fun vs B H c r Q q => by
  obtain ⟨v, rfl, r1⟩ := all2_1 r
  exact rvs_len [v] B H c (.cons (.inr r1) .nil) Q q
theorem rvs_lenL : RVs (rLn K) [rLst K Rs] (rD K (.int Rs.length)) := fun vs B H c r Q q => by
  obtain ⟨v, rfl, r1⟩ := all2_1 r
  exact rvs_len [v] B H c (.cons (.inl r1) .nil) Q q
theorem rvs_lenN : RVs (rLn K) [rInts K ns] (rD K (.int ns.length)) := by
  have q := rvs_lenT (K := K) (Rs := ns.map fun n => rD K (.int n))
  rw [List.length_map] at q
  exact q
theorem RSp.eq {sp : Sp} {T T' : Rep} (h : RSp sp Rs T) (e : T = T') : RSp sp Rs T' := e ▸ h
theorem RVs.eq {r : List V → Hp → VK → Prop} {T T' : Rep} (h : RVs r Rs T) (e : T = T') : RVs r Rs T' := e ▸ h
theorem gx_forK {B0 H0 : Hp} {wi : TI} {g : TG} {tb : TS} {D : Ends} (h : EvI Γ wi Rs)
    (turn : ∀ B1 H1, Nx B0 H0 B1 H1 → ∀ (i : Nat) (R : Rep), Rs[i]? = some R → ∃ Γg, EvG Γ g R Γg ∧ ∀ N : L2.St → Hp → Prop, Gx B1 H0 Γ N → Gx B1 H0 Γg (tb { D with nx := N, ct := N, bk := D.nx }))
    (done : Gx B0 H0 Γ D.nx) : Gx B0 H0 Γ (tFor wi g tb D) := gx_forF (fun _ => Γ) h turn done
theorem numbered_at {i : Nat} {R : Rep} (h : (numbered K Rs)[i]? = some R) : ∃ S, Rs[i]? = some S ∧ R = rTup K [rD K (.int (i : Int)), S] := by
  unfold numbered at h
  rw [List.getElem?_map] at h
  by_cases hi : i < Rs.length
  · rw [List.getElem?_range hi] at h
    refine ⟨Rs[i], List.getElem?_eq_getElem hi, ?_⟩
    have e := Option.some.inj (show some _ = some R from h)
    rw [← e]
    simp [List.getD, hi]
  · rw [List.getElem?_eq_none (by simpa using hi)] at h
    cases h
theorem map_at {α : Type} {f : α → Rep} {ls : List α} {i : Nat} {R : Rep} (h : (ls.map f)[i]? = some R) : ∃ l, ls[i]? = some l ∧ R = f l := by
  rw [List.getElem?_map] at h
  obtain ⟨l, h1, h2⟩ := Option.map_eq_some_iff.mp h
  exact ⟨l, h1, h2.symm⟩
/-- the end of a def that gives None -/
theorem gx_end {B0 H0 : Hp} {Q : VK} (q : Ret B0 H0 (rD K .none) Q) : Gx B0 H0 Γ (fun _ H' => Q .non H') := fun σ H ⟨B, x, _⟩ => q .non B H x (rD_non.mpr rfl)
theorem gx_forE {B0 H0 : Hp} {wi : TI} {g : TG} {tb : TS} {D : Ends} (F : Nat → Ctx) (e0 : Γ = F 0) (h : EvI Γ wi Rs)
    (turn : ∀ B1 H1, Nx B0 H0 B1 H1 → ∀ (i : Nat) (R : Rep), Rs[i]? = some R → ∃ Γg, EvG (F i) g R Γg ∧ ∀ N : L2.St → Hp → Prop, Gx B1 H0 (F (i + 1)) N → Gx B1 H0 Γg (tb { D with nx := N, ct := N, bk := D.nx }))
    (done : Gx B0 H0 (F Rs.length) D.nx) : Gx B0 H0 Γ (tFor wi g tb D) := by
  subst e0
  exact gx_forF F h turn done
/-- the state told otherwise -/
theorem gx_as {B0 H0 : Hp} {Γ' : Ctx} {N : L2.St → Hp → Prop} (e : Γ = Γ') (k : Gx B0 H0 Γ' N) : Gx B0 H0 Γ N := e ▸ k
end
end Sm
namespace Sm
open PySem PySem.Spec PyProof.Rows L2

abbrev s_is_number : Stmt := top 15
def n_is_number : List Str := ["thing", "least", "most"]
theorem sc_is_number : FnScope n_is_number ["thing", "least", "most"] (C8.fnScope s_is_number) := C8.fnScope_by (by decide +kernel)
abbrev s_is_row : Stmt := top 16
def n_is_row : List Str := ["thing", "many", "value"]
theorem sc_is_row : FnScope n_is_row ["thing", "many"] (C8.fnScope s_is_row) := C8.fnScope_by (by decide +kernel)
abbrev s_width_of : Stmt := top 17
def n_width_of : List Str := ["thing"]
theorem sc_width_of : FnScope n_width_of ["thing"] (C8.fnScope s_width_of) := C8.fnScope_by (by decide +kernel)
abbrev s_apart : Stmt := top 22
def n_apart : List Str := ["one", "other", "prices", "mine", "theirs", "price"]
theorem sc_apart : FnScope n_apart ["one", "other", "prices"] (C8.fnScope s_apart) := C8.fnScope_by (by decide +kernel)
abbrev s_seam : Stmt := top 32
def n_seam : List Str := ["last", "first", "prices"]
theorem sc_seam : FnScope n_seam ["last", "first", "prices"] (C8.fnScope s_seam) := C8.fnScope_by (by decide +kernel)
abbrev s_check_table : Stmt := top 19
def n_check_table : List Str := ["table"]
theorem sc_check_table : FnScope n_check_table ["table"] (C8.fnScope s_check_table) := C8.fnScope_by (by decide +kernel)
section
variable {P : Program} {w : World} {K : PySem.W.Frag} {mg : Str → Option Value} {base : Heap} {f : Addr} {fd : FuncData} {C D p g : Addr}
def spNum (K : PySem.W.Frag) : Sp := SpF (α := Int × Int × Int) (fun a => [rD K (.int a.1), rD K (.int a.2.1), rD K (.int a.2.2)]) (fun a => rD K (.bool (decide (a.2.1 ≤ a.1) && decide (a.1 ≤ a.2.2)))) (fun _ => True)
theorem ok_is_number (F : C8.Def K mg "is_number" s_is_number f fd) (b : Binds K fd ["thing", "least", "most"] []) (T : Txt K mg C D p g) : C8.Cal P w K mg base 1 "is_number" (spNum K) [] := by
  refine C8.cal0 F b .nil sc_is_number (sp_len fun _ => rfl) fun cdv A outer s H vs Q E hr h => ⟨_, (pss_one (ps_ret (pe_and (pe_callB (k_isi K) (by rfl) T.b.isinstance (by decide +kernel) (pa_cons (pv 0) (pa_cons (pe_bltn (v := .ty "int") (by rfl) T.b.int (by decide +kernel) rfl) pa_nil))) (pe_and (pe_not (pe_callB (k_isi K) (by rfl) T.b.isinstance (by decide +kernel) (pa_cons (pv 0) (pa_cons (pe_bltn (v := .ty "bool") (by rfl) T.b.bool (by decide +kernel) rfl) pa_nil)))) (pe_one (pe_chain op_le op_le (pv 1) (pv 0) (pv 2))))))), sp_run (N := n_is_number) ?_ h⟩
  intro a pr B0 H0 Q q
  exact gx_ret (ev_andV (ev_cb (rvs_isiB (bb := true) ty_int rfl) (ea_cons (ev_var rfl) (ea_cons ev_c ea_nil))) fun _ => (ev_andV (ev_notV (ev_cb (rvs_isiB (bb := false) ty_int rfl) (ea_cons (ev_var rfl) (ea_cons ev_c ea_nil)))) fun _ => (ev_chain (ev_var rfl) (ev_var rfl) rv_I0b (fun _ => (ev_var rfl)) rv_I0b))) q
theorem num_rsp {v lo hi : Int} (h0 : lo ≤ v) (h1 : v ≤ hi) : RSp (spNum K) [rD K (.int v), rD K (.int lo), rD K (.int hi)] (rD K (.bool true)) := by
  exact (rsp_F (α := Int × Int × Int) (Rs := fun a => [rD K (.int a.1), rD K (.int a.2.1), rD K (.int a.2.2)]) (T := fun a => rD K (.bool (decide (a.2.1 ≤ a.1) && decide (a.1 ≤ a.2.2)))) (pre := fun _ => True) (v, lo, hi) trivial).eq (by simp [h0, h1])
/-- a row of this width, its values in their range -/
def Row (m : Int) (wd : Nat) (r : List Int) : Prop := r.length = wd ∧ ∀ v ∈ r, 0 ≤ v ∧ v ≤ m
def spRow (K : PySem.W.Frag) : Sp := SpF (α := List Int × Nat) (fun a => [rInts K a.1, rD K (.int a.2)]) (fun a => rD K (.bool true)) (fun a => Row 6 a.2 a.1 ∧ a.2 ≤ 4)
theorem ok_is_row (F : C8.Def K mg "is_row" s_is_row f fd) (b : Binds K fd ["thing", "many"] []) (T : Txt K mg C D p g) (G_is_number : C8.Cal P w K mg base 1 "is_number" (spNum K) []) : C8.Cal P w K mg base 2 "is_row" (spRow K) [] := by
  refine C8.cal0 F b .nil sc_is_row (sp_len fun _ => rfl) fun cdv A outer s H vs Q E hr h => ⟨_, (pss_cons (ps_if (PW.pt (pw_or (pt_not (pt_val (pe_callB (k_isi K) (by rfl) T.b.isinstance (by decide +kernel) (pa_cons (pv 0) (pa_cons (pe_bltn (v := .ty "tuple") (by rfl) T.b.tuple (by decide +kernel) rfl) pa_nil))))) (pw_or1 (pt_cmpR (k_neD K hr.units) (pe_callB (k_len K) (by rfl) T.b.len (by decide +kernel) (pa_cons (pv 0) pa_nil)) (pv 1) (nomark _))))) (pss_one (ps_ret pe_bl)) pss_nil)
      (pss_one (ps_ret (pe_callB (k_all K rfl) (by rfl) T.b.all (by decide +kernel) (pa_cons (pe_lc (own := [("value", 2)]) rfl sc_is_row.nd (k_sq K (pv 0)) (blkOk_by (N := n_is_row) (sc := C8.fnScope s_is_row) (by decide +kernel)) (fun _ _ _ _ _ => (pg_name (i := 2) sc_is_row.nd rfl (Or.inl rfl))) (fun _ _ _ _ _ => pts_nil) (fun _ _ _ _ _ => (C8.pe_c G_is_number hr (by decide) (by rfl) (pa_cons (pv 2) (pa_cons pe_int (pa_cons (C8.pe_gc (by rfl) T.c_MOST_VALUE) pa_nil)))))) pa_nil))))), sp_run (N := n_is_row) ?_ h⟩
  rintro ⟨row, wd⟩ ⟨⟨hl, hv⟩, h4⟩ B0 H0 Q q
  have hl' : row.length = wd := hl
  have h4' : wd ≤ 4 := h4
  refine gx_seq (gx_ifF (et_or (et_not (et_B (ev_cb (rvs_isiB (bb := true) ty_tup rfl) (ea_cons (ev_var rfl) (ea_cons ev_c ea_nil))))) fun _ => (et_cmp (ev_op rv_neDI (ev_cb rvs_lenN (ea_cons (ev_var rfl) ea_nil)) (ev_var rfl)))) (by simp [hl]) ?_)
  refine gx_ret (Ev.eq (ev_allC (f := fun _ => true) row (by omega) (ei_sq (ev_sqT (ev_var rfl))) (si_name (by decide)) fun v hm => ⟨_, eg_name, ev_call rfl (num_rsp (hv v hm).1 (hv v hm).2) (ea_cons (ev_var rfl) (ea_cons ev_int (ea_cons ev_int ea_nil)))⟩) (by show rD K (.bool (row.all fun _ => true)) = rD K (.bool true); rw [List.all_eq_true.mpr fun _ _ => rfl])) q
def spWof (K : PySem.W.Frag) : Sp := SpF (α := List Int) (fun a => [rInts K a]) (fun a => rD K (.int a.length)) (fun a => a.length ≤ 4)
theorem ok_width_of (F : C8.Def K mg "width_of" s_width_of f fd) (b : Binds K fd ["thing"] []) (T : Txt K mg C D p g) : C8.Cal P w K mg base 1 "width_of" (spWof K) [] := by
  refine C8.cal0 F b .nil sc_width_of (sp_len fun _ => rfl) fun cdv A outer s H vs Q E hr h => ⟨_, (pss_one (ps_ret (pe_ifExp (PW.pt (pw_and (pt_val (pe_callB (k_isi K) (by rfl) T.b.isinstance (by decide +kernel) (pa_cons (pv 0) (pa_cons (pe_bltn (v := .ty "tuple") (by rfl) T.b.tuple (by decide +kernel) rfl) pa_nil)))) (pw_and1 (pt_cmpR op_le (pe_callB (k_len K) (by rfl) T.b.len (by decide +kernel) (pa_cons (pv 0) pa_nil)) (C8.pe_gc (by rfl) T.c_MOST_COLUMNS) (nomark _))))) (pe_callB (k_len K) (by rfl) T.b.len (by decide +kernel) (pa_cons (pv 0) pa_nil)) pe_int))), sp_run (N := n_width_of) ?_ h⟩
  intro a pr B0 H0 Q q
  refine gx_ret (ev_if (b := true) (EvT.eq (et_and (et_B (ev_cb (rvs_isiB (bb := true) ty_tup rfl) (ea_cons (ev_var rfl) (ea_cons ev_c ea_nil)))) fun _ => (et_cmp (ev_op rv_I0b (ev_cb rvs_lenN (ea_cons (ev_var rfl) ea_nil)) ev_int))) ?_) (fun _ => ev_cb rvs_lenN (ea_cons (ev_var rfl) ea_nil)) (fun h => by cases h)) q
  simp
  omega
def apartF (a b p : List Int) : Int := ((((a.zip b).zip p).filter fun q => !decide (q.1.1 = q.1.2)).map fun q => q.2).sum
def spApart (K : PySem.W.Frag) : Sp := SpF (α := List Int × List Int × List Int) (fun a => [rInts K a.1, rInts K a.2.1, rInts K a.2.2]) (fun a => rD K (.int (apartF a.1 a.2.1 a.2.2))) (fun a => a.1.length ≤ 100)
theorem zip3_ints {a b p : List Int} : (((a.map fun n => rD K (.int n)).zip (b.map fun n => rD K (.int n))).zip (p.map fun n => rD K (.int n))).map (fun p => rTup K [p.1.1, p.1.2, p.2]) = ((a.zip b).zip p).map fun q => rTup K [rD K (.int q.1.1), rD K (.int q.1.2), rD K (.int q.2)] := by
  rw [List.zip_map, List.zip_map, List.map_map]
  rfl
theorem ok_apart (F : C8.Def K mg "apart" s_apart f fd) (b : Binds K fd ["one", "other", "prices"] []) (T : Txt K mg C D p g) : C8.Cal P w K mg base 1 "apart" (spApart K) [] := by
  refine C8.cal0 F b .nil sc_apart (sp_len fun _ => rfl) fun cdv A outer s H vs Q E hr h => ⟨_, (pss_one (ps_ret (pe_callB (k_sum K rfl) (by rfl) T.b.sum (by decide +kernel) (pa_cons (pe_lc (own := [("mine", 3), ("theirs", 4), ("price", 5)]) rfl sc_apart.nd (k_z3 K (by rfl) T.b.zip (pa_cons (pv 0) (pa_cons (pv 1) (pa_cons (pv 2) pa_nil)))) (blkOk_by (N := n_apart) (sc := C8.fnScope s_apart) (by decide +kernel)) (fun _ _ _ _ _ => (k_tup K (n := 3) rfl (pgs_cons (pg_name (i := 3) sc_apart.nd rfl (Or.inl rfl)) (pgs_cons (pg_name (i := 4) sc_apart.nd rfl (Or.inl rfl)) (pgs_cons (pg_name (i := 5) sc_apart.nd rfl (Or.inl rfl)) pgs_nil))))) (fun _ _ _ _ _ => (pts_one (pt_cmpR (k_neD K hr.units) (pv 3) (pv 4) (nomark _)))) (fun _ _ _ _ _ => (pv 5))) pa_nil)))), sp_run (N := n_apart) ?_ h⟩
  rintro ⟨x, y, pr⟩ hp B0 H0 Q q
  have hi := ei_z3 (K := K) (Γ := ctxOf n_apart [rInts K x, rInts K y, rInts K pr]) (ea_cons (ev_sqT (ev_var (i := 0) rfl)) (ea_cons (ev_sqT (ev_var (i := 1) rfl)) (ea_cons (ev_sqT (ev_var (i := 2) rfl)) ea_nil)))
  rw [zip3_ints] at hi
  refine gx_ret (ev_sumCf ((x.zip y).zip pr) ?_ hi (si_tup3 (by decide) (by decide) (by decide)) fun l hl => ⟨_, eg_tup3, et_cmp (ev_op rv_neDI (ev_var rfl) (ev_var rfl)), fun _ => ev_var rfl⟩) q
  rw [List.length_zip, List.length_zip]
  have : x.length ≤ 100 := hp
  omega
theorem apart_rsp {x y pr : List Int} (h : x.length ≤ 100) : RSp (spApart K) [rInts K x, rInts K y, rInts K pr] (rD K (.int (apartF x y pr))) := rsp_F (α := List Int × List Int × List Int) (Rs := fun a => [rInts K a.1, rInts K a.2.1, rInts K a.2.2]) (x, y, pr) h
end
end Sm
namespace Sm
open PySem PySem.Spec PyProof.Rows L2

abbrev s_Table___init__ : Stmt := (C8.clsBody (top 18)).getD 0 (.Pass ⟨0, 0, 0, 0⟩)
def n_Table___init__ : List Str := ["self", "rows", "many", "index", "row"]
theorem sc_Table___init__ : FnScope n_Table___init__ ["self", "rows"] (C8.fnScope s_Table___init__) := C8.fnScope_by (by decide +kernel)
abbrev s_Table___len__ : Stmt := (C8.clsBody (top 18)).getD 2 (.Pass ⟨0, 0, 0, 0⟩)
def n_Table___len__ : List Str := ["self"]
theorem sc_Table___len__ : FnScope n_Table___len__ ["self"] (C8.fnScope s_Table___len__) := C8.fnScope_by (by decide +kernel)
abbrev s_Table_width : Stmt := (C8.clsBody (top 18)).getD 5 (.Pass ⟨0, 0, 0, 0⟩)
def n_Table_width : List Str := ["self"]
theorem sc_Table_width : FnScope n_Table_width ["self"] (C8.fnScope s_Table_width) := C8.fnScope_by (by decide +kernel)
abbrev s_Table_column : Stmt := (C8.clsBody (top 18)).getD 6 (.Pass ⟨0, 0, 0, 0⟩)
def n_Table_column : List Str := ["self", "place", "row"]
theorem sc_Table_column : FnScope n_Table_column ["self", "place"] (C8.fnScope s_Table_column) := C8.fnScope_by (by decide +kernel)
abbrev s_check_column : Stmt := top 20
def n_check_column : List Str := ["table", "place"]
theorem sc_check_column : FnScope n_check_column ["table", "place"] (C8.fnScope s_check_column) := C8.fnScope_by (by decide +kernel)
abbrev s_check_prices : Stmt := top 21
def n_check_prices : List Str := ["table", "prices", "price"]
theorem sc_check_prices : FnScope n_check_prices ["table", "prices"] (C8.fnScope s_check_prices) := C8.fnScope_by (by decide +kernel)
section
variable {P : Program} {w : World} {K : PySem.W.Frag} {mg : Str → Option Value} {base : Heap} {f f' : Addr} {fd fd' : FuncData} {C D p g : Addr}
/-- the rows of a table: as many as may be, each of this width -/
structure GoodT (wd : Nat) (rows : List (List Int)) : Prop where
  n1 : 1 ≤ rows.length
  n2 : rows.length ≤ 10
  w1 : 1 ≤ wd
  w2 : wd ≤ 4
  row : ∀ r ∈ rows, Row 6 wd r
theorem k_setF {X : Cx} (K : PySem.W.Frag) {o value : Expr} {ta tv : TE} {f : Str} {pos pos' : Pos} (ha : PE X o ta) (hv : PE X value tv) (hs : swapsWith value (some (.Attribute o f pos')) pos.line X.env = pure false) (hK : X.K = K := by rfl) : PS X (.Assign [.Attribute o f pos'] value pos) (sFld K ta tv f) := by
  subst hK
  exact ps_fld ha hv hs
theorem GoodT.first {wd : Nat} {rows : List (List Int)} (h : GoodT wd rows) : ∃ r, rows[0]? = some r ∧ r.length = wd := by
  have h1 := h.n1
  exact ⟨rows[0], List.getElem?_eq_getElem _, (h.row _ (List.getElem_mem _)).1⟩
abbrev rRows (K : PySem.W.Frag) (rows : List (List Int)) : List Rep := rows.map (rInts K)
abbrev rTab (K : PySem.W.Frag) (C : Addr) (rows : List (List Int)) : Rep := rIns C [("rows", rTup K (rRows K rows))]
theorem rows_at {rows : List (List Int)} {j : Nat} {r : List Int} (h : rows[j]? = some r) : (rRows K rows)[j]? = some (rInts K r) := by rw [List.getElem?_map, h] <;> rfl
def spTab (K : PySem.W.Frag) (C : Addr) : Sp := SpI (α := List (List Int) × Nat) C (fun a => [rSeq K (rRows K a.1)]) (fun a => rTab K C a.1) (fun a => GoodT a.2 a.1)
theorem ok_Table (M : Mk K C f) (hm : mg "Table" = some (.ref C)) (F : C8.Fun K "__init__" "Table.__init__" s_Table___init__ f fd) (b : Binds K fd ["self", "rows"] []) (T : Txt K mg C D p g)
    (G_width_of : C8.Cal P w K mg base 1 "width_of" (spWof K) []) (G_is_row : C8.Cal P w K mg base 2 "is_row" (spRow K) []) : C8.Mak P w K mg base 3 "Table" C (spTab K C) [] := by
  refine C8.mak0 M hm F b .nil sc_Table___init__ (spI_len fun _ => rfl) fun cdv A outer s H vs Q E hr h => ⟨_, (pss_cons (ps_if (PW.pt (pw_or (pt_not (pt_val (pe_callB (k_isiT K) (by rfl) T.b.isinstance (by decide +kernel) (pa_cons (pv 1) (pa_cons (pe_tup (pa_cons (pe_bltn (v := .ty "list") (by rfl) T.b.list (by decide +kernel) rfl) (pa_cons (pe_bltn (v := .ty "tuple") (by rfl) T.b.tuple (by decide +kernel) rfl) pa_nil))) pa_nil))))) (pw_or1 (pt_not (pt_chain op_le op_le pe_int (pe_callB (k_len K) (by rfl) T.b.len (by decide +kernel) (pa_cons (pv 1) pa_nil)) (C8.pe_gc (by rfl) T.c_MOST_ROWS)))))) pss_never pss_nil)
      (pss_cons (ps_set (i := 2) sc_Table___init__.nd rfl (Or.inl rfl) (C8.pe_c G_width_of hr (by decide) (by rfl) (pa_cons (k_ix K (pv 1) pe_int (fun _ _ => rfl)) pa_nil)))
      (pss_cons (ps_for PassesOwn.never rfl (k_en K (by rfl) T.b.enumerate (pa_cons (pv 1) pa_nil)) (k_tup K (n := 2) rfl (pgs_cons (pg_name (i := 3) sc_Table___init__.nd rfl (Or.inl rfl)) (pgs_cons (pg_name (i := 4) sc_Table___init__.nd rfl (Or.inl rfl)) pgs_nil))) (pss_one (ps_if (PW.pt (pw_or (pt_cmpR (k_eqD K hr.units) (pv 2) pe_int (nomark _)) (pw_or1 (pt_not (pt_val (C8.pe_c G_is_row hr (by decide) (by rfl) (pa_cons (pv 4) (pa_cons (pv 2) pa_nil)))))))) pss_never pss_nil)))
      (pss_one (k_setF K (pv 0) (pe_callTy (k_tupleOf K) (by rfl) T.b.tuple (by decide +kernel) (pa_cons (pv 1) pa_nil)) rfl))))), spI_run (N := n_Table___init__) ?_ h⟩
  rintro ⟨rows, wd⟩ (hg : GoodT wd rows) x dx B0 H0 Q hx q
  obtain ⟨r, h1, h2⟩ := hg.first
  have n1 := hg.n1
  have n2 := hg.n2
  have w1 := hg.w1
  have w2 := hg.w2
  refine gx_seq (gx_ifF (et_or (et_not (et_B (ev_isLT (ev_var rfl)))) fun _ => (et_not (et_cmp (ev_chain ev_int (ev_cb rvs_len (ea_cons (ev_var rfl) ea_nil)) rv_I0b (fun _ => ev_int) rv_I0b)))) (by simp; omega) ?_)
  refine gx_seq (gx_set (R := rD K (.int wd)) (ev_call rfl ((rsp_F (α := List Int) (Rs := fun a => [rInts K a]) (T := fun a => rD K (.int a.length)) (pre := fun a => a.length ≤ 4) r (by omega)).eq (by rw [h2])) (ea_cons (ev_op (rv_xS (ixN_0 (by rw [List.length_map]; omega)) (rows_at h1)) (ev_var rfl) ev_int) ea_nil)) ?_)
  refine gx_seq ?_
  refine gx_forK (ei_en (ea_cons (ev_var rfl) ea_nil)) (fun B1 H1 nx i R hR => ?_) ?_
  · obtain ⟨S, hS, rfl⟩ := numbered_at hR
    obtain ⟨row, hrow, rfl⟩ := map_at hS
    have hrw := hg.row row (List.mem_of_getElem? hrow)
    refine ⟨_, eg_tup2, fun N k => gx_ifF (b := false) (EvT.eq (et_or (et_cmp (ev_op rv_eqDI (ev_var rfl) ev_int)) fun _ => et_not (et_B (ev_call rfl (rsp_F (α := List Int × Nat) (Rs := fun a => [rInts K a.1, rD K (.int a.2)]) (row, wd) ⟨hrw, w2⟩) (ea_cons (ev_var rfl) (ea_cons (ev_var rfl) ea_nil))))) (by simp; omega)) rfl ?_⟩
    exact gx_next (gx_drop_slot 3 (gx_drop_slot 4 k))
  · refine gx_fld (k := 0) (i := 0) T.cl_Table T.n_rows rfl hx rfl rfl (by decide) (ev_cb rvs_tupOf (ea_cons (ev_var rfl) ea_nil)) ?_
    exact gx_doneI (k := 0) rfl hx q
def spLen (K : PySem.W.Frag) (C : Addr) : Sp := SpF (α := List (List Int)) (fun a => [rTab K C a]) (fun a => rD K (.int a.length)) (fun _ => True)
theorem ok_len (c : Cls K C) (me : Meth K C "__len__" f) (F : C8.Fun K "__len__" "Table.__len__" s_Table___len__ f fd) (b : Binds K fd ["self"] []) (T : Txt K mg C D p g) : C8.Met P w K mg base 1 C "__len__" (spLen K C) [] := by
  refine C8.met0 c me F b sc_Table___len__ (sp_len fun _ => rfl) fun cdv A outer s H vs Q E hr h => ⟨_, (pss_one (ps_ret (pe_callB (k_len K) (by rfl) T.b.len (by decide +kernel) (pa_cons (k_fld K (pv 0) rfl) pa_nil)))), sp_run (N := n_Table___len__) ?_ h⟩
  rintro rows - B0 H0 Q q
  refine gx_ret (Ev.eq (ev_cb rvs_lenT (ea_cons (ev_fld T.cl_Table T.n_rows rfl (ev_var rfl)) ea_nil)) ?_) q
  rw [List.length_map]
def spWidth (K : PySem.W.Frag) (C : Addr) : Sp := SpF (α := List (List Int) × Nat) (fun a => [rTab K C a.1]) (fun a => rD K (.int a.2)) (fun a => GoodT a.2 a.1)
theorem ok_width (F : C8.Fun K "width" "Table.width" s_Table_width g fd) (T : Txt K mg C D p g) : FnOk P w K mg base C8.CX0 1 g fd ["self"] (spWidth K C) := by
  refine C8.fn0 F sc_Table_width (sp_len fun _ => rfl) fun cdv A outer s H vs Q E hr h => ⟨_, (pss_one (ps_ret (pe_callB (k_len K) (by rfl) T.b.len (by decide +kernel) (pa_cons (k_ix K (k_fld K (pv 0) rfl) pe_int (fun _ _ => rfl)) pa_nil)))), sp_run (N := n_Table_width) ?_ h⟩
  rintro ⟨rows, wd⟩ hg B0 H0 Q q
  obtain ⟨r, h1, h2⟩ := hg.first
  refine gx_ret (Ev.eq (ev_cb rvs_lenN (ea_cons (ev_op (rv_xT (ixN_0 (by rw [List.length_map]; exact hg.n1)) (rows_at h1)) (ev_fld T.cl_Table T.n_rows rfl (ev_var rfl)) ev_int) ea_nil)) ?_) q
  rw [h2]
theorem width_rsp {rows : List (List Int)} {wd : Nat} (hg : GoodT wd rows) : RSp (spWidth K C) [rTab K C rows] (rD K (.int wd)) := rsp_F (α := List (List Int) × Nat) (Rs := fun a => [rTab K C a.1]) (T := fun a => rD K (.int a.2)) (rows, wd) hg
theorem len_rsp {rows : List (List Int)} : RSp (spLen K C) [rTab K C rows] (rD K (.int rows.length)) := rsp_F (α := List (List Int)) (Rs := fun a => [rTab K C a]) (T := fun a => rD K (.int a.length)) (pre := fun _ => True) rows trivial
def spCheckT (K : PySem.W.Frag) (C : Addr) : Sp := SpF (α := List (List Int)) (fun a => [rTab K C a]) (fun _ => rD K .none) (fun _ => True)
theorem ok_check_table (F : C8.Def K mg "check_table" s_check_table f fd) (b : Binds K fd ["table"] []) (T : Txt K mg C D p g) : C8.Cal P w K mg base 1 "check_table" (spCheckT K C) [] := by
  refine C8.cal0 F b .nil sc_check_table (sp_len fun _ => rfl) fun cdv A outer s H vs Q E hr h => ⟨_, (pss_one (ps_if (pt_not (pt_val (pe_callB (k_isi K) (by rfl) T.b.isinstance (by decide +kernel) (pa_cons (pv 0) (pa_cons (pe_glob (v := .ref C) (by rfl) T.mg_Table rfl) pa_nil))))) pss_never pss_nil)), sp_run (N := n_check_table) ?_ h⟩
  rintro rows - B0 H0 Q q
  exact gx_ifF (b := false) (et_not (et_B (ev_cb (rvs_isC T.ic) (ea_cons (ev_var rfl) (ea_cons ev_c ea_nil))))) rfl (gx_end q)
def spCheckC (K : PySem.W.Frag) (C : Addr) : Sp := SpF (α := List (List Int) × Nat × Nat) (fun a => [rTab K C a.1, rD K (.int a.2.2)]) (fun _ => rD K .none) (fun a => GoodT a.2.1 a.1 ∧ a.2.2 < a.2.1)
theorem ok_check_column (F : C8.Def K mg "check_column" s_check_column f fd) (b : Binds K fd ["table", "place"] []) (T : Txt K mg C D p g) (G_width : FnOk P w K mg base C8.CX0 1 g fd' ["self"] (spWidth K C)) (b_width : Binds K fd' ["self"] [])
    (G_is_number : C8.Cal P w K mg base 1 "is_number" (spNum K) []) : C8.Cal P w K mg base 3 "check_column" (spCheckC K C) [] := by
  refine C8.cal0 F b .nil sc_check_column (sp_len fun _ => rfl) fun cdv A outer s H vs Q E hr h => ⟨_, (pss_one (ps_if (pt_not (pt_val (C8.pe_c G_is_number hr (by decide) (by rfl) (pa_cons (pv 1) (pa_cons pe_int (pa_cons (pe_op op_sub (pe_prop (E := C8.E0) (pv 0) T.cl_Table T.p_width G_width (hr.mono (by decide)) b_width .nil C8.pass0 rfl) pe_int) pa_nil)))))) pss_never pss_nil)), sp_run (N := n_check_column) ?_ h⟩
  rintro ⟨rows, wd, j⟩ ⟨hg, hj⟩ B0 H0 Q q
  have hj' : j < wd := hj
  exact gx_ifF (b := false) (et_not (et_B (ev_call rfl (num_rsp (by omega) (by omega)) (ea_cons (ev_var rfl) (ea_cons ev_int (ea_cons (ev_op rv_I0 (ev_prop (ev_var rfl) (width_rsp hg)) ev_int) ea_nil)))))) rfl (gx_end q)
def spCheckP (K : PySem.W.Frag) (C : Addr) : Sp := SpF (α := List (List Int) × Nat × List Int) (fun a => [rTab K C a.1, rInts K a.2.2]) (fun _ => rD K .none) (fun a => GoodT a.2.1 a.1 ∧ Row 9 a.2.1 a.2.2)
theorem ok_check_prices (F : C8.Def K mg "check_prices" s_check_prices f fd) (b : Binds K fd ["table", "prices"] []) (T : Txt K mg C D p g) (G_width : FnOk P w K mg base C8.CX0 1 g fd' ["self"] (spWidth K C)) (b_width : Binds K fd' ["self"] [])
    (G_is_number : C8.Cal P w K mg base 1 "is_number" (spNum K) []) : C8.Cal P w K mg base 3 "check_prices" (spCheckP K C) [] := by
  refine C8.cal0 F b .nil sc_check_prices (sp_len fun _ => rfl) fun cdv A outer s H vs Q E hr h => ⟨_, (pss_cons (ps_if (PW.pt (pw_or (pt_not (pt_val (pe_callB (k_isi K) (by rfl) T.b.isinstance (by decide +kernel) (pa_cons (pv 1) (pa_cons (pe_bltn (v := .ty "tuple") (by rfl) T.b.tuple (by decide +kernel) rfl) pa_nil))))) (pw_or1 (pt_cmpR (k_neD K hr.units) (pe_callB (k_len K) (by rfl) T.b.len (by decide +kernel) (pa_cons (pv 1) pa_nil)) (pe_prop (E := C8.E0) (pv 0) T.cl_Table T.p_width G_width (hr.mono (by decide)) b_width .nil C8.pass0 rfl) (nomark _))))) pss_never pss_nil)
      (pss_one (ps_if (pt_not (pt_val (pe_callB (k_all K rfl) (by rfl) T.b.all (by decide +kernel) (pa_cons (pe_lc (own := [("price", 2)]) rfl sc_check_prices.nd (k_sq K (pv 1)) (blkOk_by (N := n_check_prices) (sc := C8.fnScope s_check_prices) (by decide +kernel)) (fun _ _ _ _ _ => (pg_name (i := 2) sc_check_prices.nd rfl (Or.inl rfl))) (fun _ _ _ _ _ => pts_nil) (fun _ _ _ _ _ => (C8.pe_c G_is_number hr (by decide) (by rfl) (pa_cons (pv 2) (pa_cons pe_int (pa_cons (C8.pe_gc (by rfl) T.c_MOST_PRICE) pa_nil)))))) pa_nil)))) pss_never pss_nil))), sp_run (N := n_check_prices) ?_ h⟩
  rintro ⟨rows, wd, ps⟩ ⟨hg, hl, hp⟩ B0 H0 Q q
  have hl' : ps.length = wd := hl
  have w2 : wd ≤ 4 := hg.w2
  refine gx_seq (gx_ifF (b := false) (EvT.eq (et_or (et_not (et_B (ev_cb (rvs_isiB (bb := true) ty_tup rfl) (ea_cons (ev_var rfl) (ea_cons ev_c ea_nil))))) fun _ => et_cmp (ev_op rv_neDI (ev_cb rvs_lenN (ea_cons (ev_var rfl) ea_nil)) (ev_prop (ev_var rfl) (width_rsp hg)))) (by simp [hl'])) rfl ?_)
  exact gx_ifF (b := false) (EvT.eq (et_not (et_B (ev_allC (f := fun _ => true) ps (by omega) (ei_sq (ev_sqT (ev_var rfl))) (si_name (by decide)) fun v hm => ⟨_, eg_name, ev_call rfl (num_rsp (hp v hm).1 (hp v hm).2) (ea_cons (ev_var rfl) (ea_cons ev_int (ea_cons ev_int ea_nil)))⟩))) (by simp)) rfl (gx_end q)
/-- the place j of each row -/
def colF (rows : List (List Int)) (j : Nat) : List Int := rows.map fun r => r.getD j 0
def spCol (K : PySem.W.Frag) (C : Addr) : Sp := SpF (α := List (List Int) × Nat × Nat) (fun a => [rTab K C a.1, rD K (.int a.2.2)]) (fun a => rLst K ((colF a.1 a.2.2).map fun n => rD K (.int n))) (fun a => GoodT a.2.1 a.1 ∧ a.2.2 < a.2.1)
theorem ok_column (c : Cls K C) (me : Meth K C "column" f) (F : C8.Fun K "column" "Table.column" s_Table_column f fd) (b : Binds K fd ["self", "place"] []) (T : Txt K mg C D p g)
    (G_check_column : C8.Cal P w K mg base 3 "check_column" (spCheckC K C) []) : C8.Met P w K mg base 4 C "column" (spCol K C) [] := by
  refine C8.met0 c me F b sc_Table_column (sp_len fun _ => rfl) fun cdv A outer s H vs Q E hr h => ⟨_, (pss_cons (ps_expr (C8.pe_c G_check_column hr (by decide) (by rfl) (pa_cons (pv 0) (pa_cons (pv 1) pa_nil))))
      (pss_one (ps_ret (pe_lc (own := [("row", 2)]) rfl sc_Table_column.nd (k_sq K (k_fld K (pv 0) rfl)) (blkOk_by (N := n_Table_column) (sc := C8.fnScope s_Table_column) (by decide +kernel)) (fun _ _ _ _ _ => (pg_name (i := 2) sc_Table_column.nd rfl (Or.inl rfl))) (fun _ _ _ _ _ => pts_nil) (fun _ _ _ _ _ => (k_ix K (pv 2) (pv 1) (fun _ _ => rfl))))))), sp_run (N := n_Table_column) ?_ h⟩
  rintro ⟨rows, wd, j⟩ ⟨hg, hj⟩ B0 H0 Q q
  have hj' : j < wd := hj
  have n2 : rows.length ≤ 10 := hg.n2
  refine gx_seq (gx_drop (ev_call rfl (rsp_F (α := List (List Int) × Nat × Nat) (Rs := fun a => [rTab K C a.1, rD K (.int a.2.2)]) (T := fun _ => rD K .none) (rows, wd, j) ⟨hg, hj⟩) (ea_cons (ev_var rfl) (ea_cons (ev_var rfl) ea_nil))) ?_)
  refine gx_ret (ev_lcF (f := fun r : List Int => r.getD j 0) (G := fun n => rD K (.int n)) rows (by omega) (ei_sq (ev_sqT (ev_fld T.cl_Table T.n_rows rfl (ev_var rfl)))) (si_name (by decide)) fun r hm => ⟨_, eg_name, ?_⟩) q
  have hr' := (hg.row r hm).1
  have hjr : j < r.length := by rw [hr']; exact hj'
  exact ev_op (rv_xT (ixN_nat (by rw [List.length_map]; exact hjr)) (by rw [List.getElem?_map, List.getElem?_eq_getElem hjr] <;> simp [List.getD, hjr])) (ev_var rfl) (ev_var rfl)
end
end Sm
namespace Sm
open PySem PySem.Spec PyProof.Rows L2

abbrev s_check_pieces : Stmt := top 25
def n_check_pieces : List Str := ["pieces", "prices", "index", "piece", "price"]
theorem sc_check_pieces : FnScope n_check_pieces ["pieces", "prices"] (C8.fnScope s_check_pieces) := C8.fnScope_by (by decide +kernel)
abbrev s_ends_of : Stmt := top 26
def n_ends_of : List Str := ["piece", "is_turned", "rows"]
theorem sc_ends_of : FnScope n_ends_of ["piece", "is_turned"] (C8.fnScope s_ends_of) := C8.fnScope_by (by decide +kernel)
abbrev s_is_plan : Stmt := top 27
def n_is_plan : List Str := ["pieces", "plan", "index", "is_turned"]
theorem sc_is_plan : FnScope n_is_plan ["pieces", "plan"] (C8.fnScope s_is_plan) := C8.fnScope_by (by decide +kernel)
abbrev s_seam_cost : Stmt := top 28
def n_seam_cost : List Str := ["pieces", "plan", "prices", "ends", "index", "is_turned", "one", "other"]
theorem sc_seam_cost : FnScope n_seam_cost ["pieces", "plan", "prices"] (C8.fnScope s_seam_cost) := C8.fnScope_by (by decide +kernel)
abbrev s_put_plan : Stmt := top 29
def n_put_plan : List Str := ["pieces", "plan", "rows", "index", "is_turned"]
theorem sc_put_plan : FnScope n_put_plan ["pieces", "plan"] (C8.fnScope s_put_plan) := C8.fnScope_by (by decide +kernel)
abbrev s_steps_from : Stmt := top 30
def n_steps_from : List Str := ["pieces", "state", "left", "last", "found", "index", "rest", "is_turned", "first", "end", "late"]
theorem sc_steps_from : FnScope n_steps_from ["pieces", "state"] (C8.fnScope s_steps_from) := C8.fnScope_by (by decide +kernel)
section
variable {P : Program} {w : World} {K : PySem.W.Frag} {mg : Str → Option Value} {base : Heap} {f f' : Addr} {fd fd' : FuncData} {C D p g : Addr}
/-! ### the data -/
abbrev Piece := List (List Int)
structure Game (wd : Nat) (ps : List Piece) (pr : List Int) : Prop where
  w1 : 1 ≤ wd
  w2 : wd ≤ 3
  n1 : 1 ≤ ps.length
  n2 : ps.length ≤ 4
  pc : ∀ p ∈ ps, 1 ≤ p.length ∧ ∀ r ∈ p, Row 2 wd r
  tot : (ps.map List.length).sum ≤ 10
  prc : Row 9 wd pr
theorem le_sum {ps : List Piece} {p : Piece} (h : p ∈ ps) : p.length ≤ (ps.map List.length).sum := by
  induction ps with
  | nil => cases h
  | cons q ps ih =>
    rw [List.map_cons, List.sum_cons]
    rcases List.mem_cons.mp h with e | h
    · subst e; omega
    · have := ih h; omega
theorem Game.good {wd : Nat} {ps : List Piece} {pr : List Int} (h : Game wd ps pr) {p : Piece} (hp : p ∈ ps) : GoodT wd p := by
  have h1 := h.w2
  have h2 := le_sum hp
  have h3 := h.tot
  exact ⟨(h.pc p hp).1, by omega, h.w1, by omega, fun r hr => ⟨((h.pc p hp).2 r hr).1, fun v hv => ⟨(((h.pc p hp).2 r hr).2 v hv).1, Int.le_trans (((h.pc p hp).2 r hr).2 v hv).2 (by decide)⟩⟩⟩
abbrev rTabs (K : PySem.W.Frag) (C : Addr) (ps : List Piece) : List Rep := ps.map (rTab K C)
theorem tabs_at {ps : List Piece} {j : Nat} {r : Piece} (h : ps[j]? = some r) : (rTabs K C ps)[j]? = some (rTab K C r) := by rw [List.getElem?_map, h] <;> rfl
/-- the rows at both ends, turned or not -/
def ends (p : Piece) (b : Bool) : List Int × List Int := if b then (p.getLastD [], p.headD []) else (p.headD [], p.getLastD [])
def rEnds (K : PySem.W.Frag) (e : List Int × List Int) : Rep := rTup K [rInts K e.1, rInts K e.2]
def spEnds (K : PySem.W.Frag) (C : Addr) : Sp := SpF (α := Piece × Bool) (fun a => [rTab K C a.1, rD K (.bool a.2)]) (fun a => rEnds K (ends a.1 a.2)) (fun a => 1 ≤ a.1.length)
theorem head_at {α : Type} {l : List α} {d : α} (h : 1 ≤ l.length) : l[0]? = some (l.headD d) := by
  cases l with
  | nil => simp at h
  | cons a l => rfl
theorem last_at {α : Type} {l : List α} {d : α} (h : 1 ≤ l.length) : l[l.length - 1]? = some (l.getLastD d) := by
  have e : l ≠ [] := fun e => by rw [e] at h; simp at h
  rw [List.getLastD_eq_getLast?, ← List.getLast?_eq_getElem?, List.getLast?_eq_some_getLast e]
  rfl
theorem ok_ends_of (F : C8.Def K mg "ends_of" s_ends_of f fd) (b : Binds K fd ["piece", "is_turned"] []) (T : Txt K mg C D p g) : C8.Cal P w K mg base 1 "ends_of" (spEnds K C) [] := by
  refine C8.cal0 F b .nil sc_ends_of (sp_len fun _ => rfl) fun cdv A outer s H vs Q E hr h => ⟨_, (pss_cons (ps_set (i := 2) sc_ends_of.nd rfl (Or.inl rfl) (pe_tup (pa_cons (k_ix K (k_fld K (pv 0) rfl) pe_int (fun _ _ => rfl)) (pa_cons (k_ix K (k_fld K (pv 0) rfl) (pe_un un_neg pe_int) (fun _ _ => rfl)) pa_nil))))
      (pss_one (ps_ret (pe_ifExp (pt_val (pv 1)) (k_revT K (pv 2)) (pv 2))))), sp_run (N := n_ends_of) ?_ h⟩
  rintro ⟨pc, b⟩ (hp : 1 ≤ pc.length) B0 H0 Q q
  have l1 : (rRows K pc).length = pc.length := List.length_map ..
  refine gx_seq (gx_set (R := rTup K [rInts K (pc.headD []), rInts K (pc.getLastD [])]) (ev_tup (ea_cons (ev_op (rv_xT (ixN_0 (by rw [l1]; exact hp)) (rows_at (head_at hp))) (ev_fld T.cl_Table T.n_rows rfl (ev_var rfl)) ev_int) (ea_cons (ev_op (rv_xT (ixN_last (by rw [l1]; exact hp)) (rows_at (by rw [l1]; exact last_at hp))) (ev_fld T.cl_Table T.n_rows rfl (ev_var rfl)) (ev_un rv_neg ev_int)) ea_nil)) (by simp)) ?_)
  refine gx_ret (ev_if (et_B (ev_var rfl)) (fun e => ?_) (fun e => ?_)) q
  · subst e
    exact ev_revT (Rs := [rInts K (pc.headD []), rInts K (pc.getLastD [])]) (ev_var rfl)
  · subst e
    exact ev_var rfl
theorem ends_rsp {pc : Piece} {b : Bool} (h : 1 ≤ pc.length) : RSp (spEnds K C) [rTab K C pc, rD K (.bool b)] (rEnds K (ends pc b)) := rsp_F (α := Piece × Bool) (Rs := fun a => [rTab K C a.1, rD K (.bool a.2)]) (T := fun a => rEnds K (ends a.1 a.2)) (pc, b) h
/-- the last row of what stands already, or None -/
def rOpt (K : PySem.W.Frag) : Option (List Int) → Rep
  | none => rD K .none
  | some r => rInts K r
def seamF (last : Option (List Int)) (first pr : List Int) : Int := match last with
  | none => 0
  | some r => apartF r first pr
def spSeam (K : PySem.W.Frag) : Sp := SpF (α := Option (List Int) × List Int × List Int) (fun a => [rOpt K a.1, rInts K a.2.1, rInts K a.2.2]) (fun a => rD K (.int (seamF a.1 a.2.1 a.2.2))) (fun a => ∀ r, a.1 = some r → r.length ≤ 100)
theorem ok_seam (F : C8.Def K mg "seam" s_seam f fd) (b : Binds K fd ["last", "first", "prices"] []) (G_apart : C8.Cal P w K mg base 1 "apart" (spApart K) []) : C8.Cal P w K mg base 2 "seam" (spSeam K) [] := by
  refine C8.cal0 F b .nil sc_seam (sp_len fun _ => rfl) fun cdv A outer s H vs Q E hr h => ⟨_, (pss_one (ps_ret (pe_ifExp (pt_cmp (pc_isN (pv 0)) rfl) pe_int (C8.pe_c G_apart hr (by decide) (by rfl) (pa_cons (pv 0) (pa_cons (pv 1) (pa_cons (pv 2) pa_nil))))))), sp_run (N := n_seam) ?_ h⟩
  rintro ⟨o, fi, pr⟩ hp B0 H0 Q q
  cases o with
  | none => exact gx_ret (ev_if (b := true) (et_B (ev_isN (K := K) (R := rD K .none) (fun B v h => by rw [rD_non.mp h]; rfl) (ev_var rfl))) (fun _ => ev_int) (fun e => by cases e)) q
  | some r => exact gx_ret (ev_if (b := false) (et_B (ev_isN (K := K) (R := rInts K r) (fun B v h => by obtain ⟨a, xs, e, _⟩ := h; rw [e]; rfl) (ev_var rfl))) (fun e => by cases e) (fun _ => ev_call rfl (apart_rsp (hp r rfl)) (ea_cons (ev_var (R := rInts K r) rfl) (ea_cons (ev_var rfl) (ea_cons (ev_var rfl) ea_nil))))) q
theorem seam_rsp {o : Option (List Int)} {fi pr : List Int} (h : ∀ r, o = some r → r.length ≤ 100) : RSp (spSeam K) [rOpt K o, rInts K fi, rInts K pr] (rD K (.int (seamF o fi pr))) := rsp_F (α := Option (List Int) × List Int × List Int) (Rs := fun a => [rOpt K a.1, rInts K a.2.1, rInts K a.2.2]) (T := fun a => rD K (.int (seamF a.1 a.2.1 a.2.2))) (o, fi, pr) h
end
end Sm
namespace Sm
open PySem PySem.Spec PyProof.Rows L2
/-! ### data: ints in lists and tuples, states; == of them -/
theorem eqvAll_ints : ∀ {ns ms : List Int}, PyData.eqvAll (ns.map PyData.int) (ms.map PyData.int) = decide (ns = ms)
  | [], [] => by simp [PyData.eqvAll]
  | [], _ :: _ => by simp [PyData.eqvAll]
  | _ :: _, [] => by simp [PyData.eqvAll]
  | n :: ns, m :: ms => by
    rw [List.map_cons, List.map_cons]
    show (PyData.eqv (.int n) (.int m) && PyData.eqvAll (ns.map PyData.int) (ms.map PyData.int)) = _
    rw [eqvAll_ints, eqv_int]
    simp
theorem eqv_L {ns ms : List Int} : PyData.eqv (.list (ns.map PyData.int)) (.list (ms.map PyData.int)) = decide (ns = ms) := by unfold PyData.eqv; exact eqvAll_ints
theorem eqv_T {ns ms : List Int} : PyData.eqv (.tuple (ns.map PyData.int)) (.tuple (ms.map PyData.int)) = decide (ns = ms) := by unfold PyData.eqv; exact eqvAll_ints
theorem lay_ints : ∀ ns : List Int, PyData.canLayAll0 (ns.map PyData.int) = true
  | [] => rfl
  | n :: ns => by rw [List.map_cons, PyData.canLayAll0, lay_ints ns]; rfl
theorem dep_ints : ∀ ns : List Int, PyData.depthAll (ns.map PyData.int) = 0
  | [] => rfl
  | n :: ns => by rw [List.map_cons, PyData.depthAll, dep_ints ns]; rfl
theorem shaped_L {ns : List Int} : SeqAt.shaped (.list (ns.map PyData.int)) = true := by
  unfold SeqAt.shaped
  rw [PyData.canLay0, PyData.depth, lay_ints, dep_ints]
  rfl
theorem shaped_T {ns : List Int} : SeqAt.shaped (.tuple (ns.map PyData.int)) = true := by
  unfold SeqAt.shaped
  rw [PyData.canLay0, PyData.depth, lay_ints, dep_ints]
  rfl
section
variable {K : PySem.W.Frag} {Γ : Ctx} {te ta tb : TE} {R S T : Rep} {B : Hp} {v : V}
theorem ints_rD {ns : List Int} : (rD K (.tuple (ns.map PyData.int))).p B v ↔ (rInts K ns).p B v := by
  rw [rD_tup, ints_data]
theorem intsL_rD {ns : List Int} : (rD K (.list (ns.map PyData.int))).p B v ↔ (rLst K (ns.map fun n => rD K (.int n))).p B v := by
  rw [rD_lst, ints_data]
theorem rv_eqL {ns ms : List Int} : RV2 (rEqD K) (rLst K (ns.map fun n => rD K (.int n))) (rLst K (ms.map fun n => rD K (.int n))) (rD K (.bool (decide (ns = ms)))) := fun x y B H c rx ry Q q => by
  rw [← eqv_L] at q
  exact rv_eqD shaped_L shaped_L x y B H c (intsL_rD.mpr rx) (intsL_rD.mpr ry) Q q
theorem rv_neL {ns ms : List Int} : RV2 (rNeD K) (rLst K (ns.map fun n => rD K (.int n))) (rLst K (ms.map fun n => rD K (.int n))) (rD K (.bool (!decide (ns = ms)))) := fun x y B H c rx ry Q q => by
  rw [← eqv_L] at q
  exact rv_neD shaped_L shaped_L x y B H c (intsL_rD.mpr rx) (intsL_rD.mpr ry) Q q
theorem rv_eqT {ns ms : List Int} : RV2 (rEqD K) (rInts K ns) (rInts K ms) (rD K (.bool (decide (ns = ms)))) := fun x y B H c rx ry Q q => by
  rw [← eqv_T] at q
  exact rv_eqD shaped_T shaped_T x y B H c (ints_rD.mpr rx) (ints_rD.mpr ry) Q q
theorem rv_neT {ns ms : List Int} : RV2 (rNeD K) (rInts K ns) (rInts K ms) (rD K (.bool (!decide (ns = ms)))) := fun x y B H c rx ry Q q => by
  rw [← eqv_T] at q
  exact rv_neD shaped_T shaped_T x y B H c (ints_rD.mpr rx) (ints_rD.mpr ry) Q q
/-- sorted of ints: some list in order, of the same ones -/
theorem rvs_sorted {ns : List Int} (h : ns.length < 64) : RVs (rSorted K) [rLst K (ns.map fun n => rD K (.int n))] (rEx (fun ms : List Int => ms.Perm ns ∧ ms.Pairwise (· ≤ ·)) fun ms => rLst K (ms.map fun n => rD K (.int n))) := fun vs B H c r Q q => by
  obtain ⟨v, rfl, a, xs, rfl, hs, h2⟩ := all2_1 r
  have e := ints_all h2
  subst e
  exact ⟨a, ns, rfl, c.seq hs, h, fun ms p h1 h2 hp => q _ (upd B p (.lst (ms.map V.int))) _ (Nx.new c hp) ⟨ms, ⟨h1, h2⟩, p, _, rfl, .inl (.of upd_same), all_ints⟩⟩
theorem iota_pw {n : Nat} : (iota n).Pairwise (· ≤ ·) := by
  unfold iota
  rw [List.pairwise_map]
  exact List.Pairwise.imp (fun h => by omega) List.pairwise_lt_range
theorem sorted_iota {n : Nat} {ns ms : List Int} (h1 : ms.Perm ns) (h2 : ms.Pairwise (· ≤ ·)) : decide (ms = iota n) = decide (ns.Perm (iota n)) := by
  apply decide_eq_decide.mpr
  constructor
  · intro e
    rw [← e]
    exact h1.symm
  · intro h
    exact List.Perm.eq_of_pairwise (fun a b _ _ h1 h2 => Int.le_antisymm h1 h2) h2 iota_pw (h1.trans h)
end
/-! states -/
abbrev SSt := List Int × Option (List Int)
def ikey (ns : List Int) : NK := .tup (ns.map NestedKey.num)
def okey : Option (List Int) → NK
  | none => .none
  | some r => ikey r
def skey (s : SSt) : NK := .tup [ikey s.1, okey s.2]
theorem datas_ints : ∀ ns : List Int, NestedKey.datas (ns.map NestedKey.num) = ns.map PyData.int
  | [] => rfl
  | n :: ns => by rw [List.map_cons, List.map_cons, NestedKey.datas, datas_ints ns]; rfl
theorem ikey_data (ns : List Int) : (ikey ns).data = .tuple (ns.map PyData.int) := by
  show PyData.tuple (NestedKey.datas (ns.map NestedKey.num)) = _
  rw [datas_ints]
def odata : Option (List Int) → PyData
  | none => .none
  | some r => .tuple (r.map PyData.int)
theorem okey_data (o : Option (List Int)) : (okey o).data = odata o := by
  cases o with
  | none => rfl
  | some r => exact ikey_data r
theorem skey_data (s : SSt) : (skey s).data = .tuple [.tuple (s.1.map PyData.int), odata s.2] := by
  show PyData.tuple [(ikey s.1).data, (okey s.2).data] = _
  rw [ikey_data, okey_data]
theorem ikey_dep (ns : List Int) : (ikey ns).depth ≤ 1 := by
  have h : ∀ ns : List Int, NestedKey.depthAll (ns.map NestedKey.num) = 0 := fun ns => by
    induction ns with
    | nil => rfl
    | cons n ns ih => rw [List.map_cons, NestedKey.depthAll, ih]; rfl
  show NestedKey.depthAll (ns.map NestedKey.num) + 1 ≤ 1
  rw [h ns]
  exact Nat.le_refl _
theorem skey_dep (s : SSt) : (NestedKey.tup [ikey s.1, okey s.2]).depth ≤ 8 := by
  have h1 := ikey_dep s.1
  have h2 : (okey s.2).depth ≤ 1 := by
    cases s.2 with
    | none => exact Nat.zero_le _
    | some r => exact ikey_dep r
  show max (ikey s.1).depth (max (okey s.2).depth 0) + 1 ≤ 8
  omega
theorem map_inj {α β : Type} {f : α → β} (h : ∀ a b, f a = f b → a = b) : ∀ {l m : List α}, l.map f = m.map f → l = m
  | [], [], _ => rfl
  | [], _ :: _, e => by cases e
  | _ :: _, [], e => by cases e
  | a :: l, b :: m, e => by
    rw [List.map_cons, List.map_cons] at e
    injection e with e1 e2
    rw [h a b e1, map_inj h e2]
theorem ikey_inj {a b : List Int} (e : ikey a = ikey b) : a = b := map_inj (fun _ _ h => NestedKey.num.inj h) (NestedKey.tup.inj e)
theorem okey_inj {a b : Option (List Int)} (e : okey a = okey b) : a = b := by
  cases a with
  | none =>
    cases b with
    | none => rfl
    | some r => cases e
  | some r =>
    cases b with
    | none => cases e
    | some t => rw [ikey_inj e]
theorem skey_inj {a b : SSt} (e : skey a = skey b) : a = b := by
  have h := NestedKey.tup.inj e
  injection h with h1 h2
  injection h2 with h2 _
  exact Prod.ext (ikey_inj h1) (okey_inj h2)
theorem eqv_od {a b : Option (List Int)} : PyData.eqv (odata a) (odata b) = decide (a = b) := by
  cases a with
  | none =>
    cases b with
    | none => rfl
    | some r => unfold odata; simp [PyData.eqv]
  | some r =>
    cases b with
    | none => unfold odata; simp [PyData.eqv]
    | some t => rw [show odata (some r) = .tuple (r.map PyData.int) from rfl, show odata (some t) = .tuple (t.map PyData.int) from rfl, eqv_T]; simp
abbrev sdata (s : SSt) : PyData := .tuple [.tuple (s.1.map PyData.int), odata s.2]
theorem eqv_st {s t : SSt} : PyData.eqv (sdata s) (sdata t) = decide (s = t) := by
  unfold PyData.eqv
  simp only [PyData.eqvAll]
  rw [eqv_T, eqv_od]
  cases s
  cases t
  simp
theorem shaped_od (o : Option (List Int)) : (odata o).canLay0 = true ∧ (odata o).depth ≤ 1 := by
  cases o with
  | none => exact ⟨rfl, Nat.zero_le _⟩
  | some r =>
    unfold odata
    rw [PyData.canLay0, PyData.depth, lay_ints, dep_ints]
    exact ⟨rfl, Nat.le_refl _⟩
theorem lay_st (s : SSt) : (sdata s).canLay0 = true ∧ (sdata s).depth ≤ 2 := by
  obtain ⟨h1, h2⟩ := shaped_od s.2
  unfold sdata
  rw [PyData.canLay0, PyData.depth]
  simp only [PyData.canLayAll0, PyData.depthAll]
  rw [h1, PyData.canLay0, PyData.depth, lay_ints, dep_ints]
  refine ⟨rfl, ?_⟩
  omega
theorem shaped_st {s : SSt} : SeqAt.shaped (sdata s) = true := by
  obtain ⟨h1, h2⟩ := lay_st s
  unfold SeqAt.shaped
  rw [h1]
  simp
  omega
theorem shaped_sts {l : List SSt} : SeqAt.shaped (.list (l.map sdata)) = true := by
  have h : PyData.canLayAll0 (l.map sdata) = true ∧ PyData.depthAll (l.map sdata) ≤ 2 := by
    induction l with
    | nil => exact ⟨rfl, Nat.zero_le _⟩
    | cons s l ih =>
      obtain ⟨h1, h2⟩ := lay_st s
      rw [List.map_cons, PyData.canLayAll0, PyData.depthAll, h1, ih.1]
      exact ⟨rfl, by have := ih.2; omega⟩
  unfold SeqAt.shaped
  rw [PyData.canLay0, PyData.depth, h.1]
  simp
  have := h.2
  omega
/-- a state as a value -/
abbrev rSt (K : PySem.W.Frag) (s : SSt) : Rep := rD K (sdata s)
section
variable {K : PySem.W.Frag} {Γ : Ctx} {te ta tb : TE} {R S T : Rep} {B : Hp} {v : V}
theorem opt_rD {o : Option (List Int)} : (rD K (odata o)).p B v ↔ (rOpt K o).p B v := by
  cases o with
  | none => exact Iff.rfl
  | some r => exact ints_rD
theorem st_rD {s : SSt} : (rSt K s).p B v ↔ (rTup K [rInts K s.1, rOpt K s.2]).p B v := by
  unfold rSt sdata
  rw [rD_tup]
  constructor
  · rintro ⟨a, xs, e, hs, h⟩
    obtain ⟨x, y, rfl, h1, h2⟩ := all2_2 h
    exact ⟨a, _, e, hs, .cons (ints_rD.mp h1) (.cons (opt_rD.mp h2) .nil)⟩
  · rintro ⟨a, xs, e, hs, h⟩
    obtain ⟨x, y, rfl, h1, h2⟩ := all2_2 h
    exact ⟨a, _, e, hs, .cons (ints_rD.mpr h1) (.cons (opt_rD.mpr h2) .nil)⟩
theorem ev_st {s : SSt} (h : Ev Γ te (rTup K [rInts K s.1, rOpt K s.2])) : Ev Γ te (rSt K s) := h.imp fun _ _ => st_rD.mpr
theorem ev_unst {s : SSt} (h : Ev Γ te (rSt K s)) : Ev Γ te (rTup K [rInts K s.1, rOpt K s.2]) := h.imp fun _ _ => st_rD.mp
theorem st_key {s : SSt} : rSt K s = rD K (NestedKey.tup [ikey s.1, okey s.2]).data := by rw [show (NestedKey.tup [ikey s.1, okey s.2]).data = (skey s).data from rfl, skey_data]
theorem ev_key {s : SSt} (h : Ev Γ te (rSt K s)) : Ev Γ te (rD K (NestedKey.tup [ikey s.1, okey s.2]).data) := by rw [← st_key]; exact h
theorem opt_none : (rOpt K none) = rD K .none := rfl
end
end Sm
namespace Sm
open PySem PySem.Spec PyProof.Rows L2

section
variable {P : Program} {w : World} {K : PySem.W.Frag} {mg : Str → Option Value} {base : Heap} {f f' : Addr} {fd fd' : FuncData} {C D p g : Addr}
theorem sum_cast {ps : List Piece} : (ps.map fun p : Piece => (p.length : Int)).sum = ((ps.map List.length).sum : Nat) := by
  induction ps with
  | nil => rfl
  | cons p ps ih => rw [List.map_cons, List.sum_cons, ih, List.map_cons, List.sum_cons]; omega
def spCheckS (K : PySem.W.Frag) (C : Addr) : Sp := SpF (α := List Piece × Nat × List Int) (fun a => [rSeq K (rTabs K C a.1), rInts K a.2.2]) (fun _ => rD K .none) (fun a => Game a.2.1 a.1 a.2.2)
theorem ok_check_pieces (F : C8.Def K mg "check_pieces" s_check_pieces f fd) (b : Binds K fd ["pieces", "prices"] []) (T : Txt K mg C D p g) (G_width : FnOk P w K mg base C8.CX0 1 g fd' ["self"] (spWidth K C)) (b_width : Binds K fd' ["self"] [])
    (M_len : C8.Met P w K mg base 1 C "__len__" (spLen K C) []) (G_is_number : C8.Cal P w K mg base 1 "is_number" (spNum K) []) : C8.Cal P w K mg base 3 "check_pieces" (spCheckS K C) [] := by
  refine C8.cal0 F b .nil sc_check_pieces (sp_len fun _ => rfl) fun cdv A outer s H vs Q E hr h => ⟨_, (pss_cons (ps_if (PW.pt (pw_or (pt_not (pt_val (pe_callB (k_isiT K) (by rfl) T.b.isinstance (by decide +kernel) (pa_cons (pv 0) (pa_cons (pe_tup (pa_cons (pe_bltn (v := .ty "list") (by rfl) T.b.list (by decide +kernel) rfl) (pa_cons (pe_bltn (v := .ty "tuple") (by rfl) T.b.tuple (by decide +kernel) rfl) pa_nil))) pa_nil))))) (pw_or1 (pt_not (pt_chain op_le op_le pe_int (pe_callB (k_len K) (by rfl) T.b.len (by decide +kernel) (pa_cons (pv 0) pa_nil)) (C8.pe_gc (by rfl) T.c_MOST_PIECES)))))) pss_never pss_nil)
      (pss_cons (ps_for PassesOwn.never rfl (k_en K (by rfl) T.b.enumerate (pa_cons (pv 0) pa_nil)) (k_tup K (n := 2) rfl (pgs_cons (pg_name (i := 2) sc_check_pieces.nd rfl (Or.inl rfl)) (pgs_cons (pg_name (i := 3) sc_check_pieces.nd rfl (Or.inl rfl)) pgs_nil))) (pss_one (ps_if (PW.pt (pw_or (pt_not (pt_val (pe_callB (k_isi K) (by rfl) T.b.isinstance (by decide +kernel) (pa_cons (pv 3) (pa_cons (pe_glob (v := .ref C) (by rfl) T.mg_Table rfl) pa_nil))))) (pw_or1 (pt_cmpR (k_neD K hr.units) (pe_prop (E := C8.E0) (pv 3) T.cl_Table T.p_width G_width (hr.mono (by decide)) b_width .nil C8.pass0 rfl) (pe_prop (E := C8.E0) (k_ix K (pv 0) pe_int (fun _ _ => rfl)) T.cl_Table T.p_width G_width (hr.mono (by decide)) b_width .nil C8.pass0 rfl) (nomark _))))) pss_never pss_nil)))
      (pss_cons (ps_if (pt_cmpR op_gt (pe_callB (k_sum K rfl) (by rfl) T.b.sum (by decide +kernel) (pa_cons (pe_lc (own := [("piece", 3)]) rfl sc_check_pieces.nd (k_sq K (pv 0)) (blkOk_by (N := n_check_pieces) (sc := C8.fnScope s_check_pieces) (by decide +kernel)) (fun _ _ _ _ _ => (pg_name (i := 3) sc_check_pieces.nd rfl (Or.inl rfl))) (fun _ _ _ _ _ => pts_nil) (fun _ _ _ _ _ => (pe_callB (k_lenI M_len hr (by decide)) (by rfl) T.b.len (by decide +kernel) (pa_cons (pv 3) pa_nil)))) pa_nil)) (C8.pe_gc (by rfl) T.c_MOST_ROWS) (nomark _)) pss_never pss_nil)
      (pss_cons (ps_if (PW.pt (pw_or (pt_not (pt_val (pe_callB (k_isi K) (by rfl) T.b.isinstance (by decide +kernel) (pa_cons (pv 1) (pa_cons (pe_bltn (v := .ty "tuple") (by rfl) T.b.tuple (by decide +kernel) rfl) pa_nil))))) (pw_or1 (pt_cmpR (k_neD K hr.units) (pe_callB (k_len K) (by rfl) T.b.len (by decide +kernel) (pa_cons (pv 1) pa_nil)) (pe_prop (E := C8.E0) (k_ix K (pv 0) pe_int (fun _ _ => rfl)) T.cl_Table T.p_width G_width (hr.mono (by decide)) b_width .nil C8.pass0 rfl) (nomark _))))) pss_never pss_nil)
      (pss_one (ps_if (pt_not (pt_val (pe_callB (k_all K rfl) (by rfl) T.b.all (by decide +kernel) (pa_cons (pe_lc (own := [("price", 4)]) rfl sc_check_pieces.nd (k_sq K (pv 1)) (blkOk_by (N := n_check_pieces) (sc := C8.fnScope s_check_pieces) (by decide +kernel)) (fun _ _ _ _ _ => (pg_name (i := 4) sc_check_pieces.nd rfl (Or.inl rfl))) (fun _ _ _ _ _ => pts_nil) (fun _ _ _ _ _ => (C8.pe_c G_is_number hr (by decide) (by rfl) (pa_cons (pv 4) (pa_cons pe_int (pa_cons (C8.pe_gc (by rfl) T.c_MOST_PRICE) pa_nil)))))) pa_nil)))) pss_never pss_nil)))))), sp_run (N := n_check_pieces) ?_ h⟩
  rintro ⟨ps, wd, pr⟩ (hG : Game wd ps pr) B0 H0 Q q
  have n1 := hG.n1
  have n2 := hG.n2
  have w2 := hG.w2
  have tot := hG.tot
  have hl := hG.prc.1
  have h0 : ps[0]? = some ps[0] := List.getElem?_eq_getElem (by omega)
  refine gx_seq (gx_ifF (b := false) (EvT.eq (et_or (et_not (et_B (ev_isLT (ev_var rfl)))) fun _ => (et_not (et_cmp (ev_chain ev_int (ev_cb rvs_len (ea_cons (ev_var rfl) ea_nil)) rv_I0b (fun _ => ev_int) rv_I0b)))) (by simp; omega)) rfl ?_)
  refine gx_seq (gx_forK (ei_en (ea_cons (ev_var rfl) ea_nil)) (fun B1 H1 nx i R hR => ?_) ?_)
  · obtain ⟨S, hS, rfl⟩ := numbered_at hR
    obtain ⟨pc, hpc', rfl⟩ := map_at hS
    have hpc : pc ∈ ps := List.mem_of_getElem? hpc'
    exact ⟨_, eg_tup2, fun N k => gx_ifF (b := false) (EvT.eq (et_or (et_not (et_B (ev_cb (rvs_isC T.ic) (ea_cons (ev_var rfl) (ea_cons ev_c ea_nil))))) fun _ => (et_cmp (ev_op rv_neDI (ev_prop (ev_var rfl) (width_rsp (hG.good hpc))) (ev_prop (ev_op (rv_xS (ixN_0 (by rw [List.length_map]; omega)) (tabs_at h0)) (ev_var rfl) ev_int) (width_rsp (hG.good (List.mem_of_getElem? h0))))))) (by simp)) rfl (gx_next (gx_drop_slot 2 (gx_drop_slot 3 k)))⟩
  · refine gx_seq (gx_ifF (b := false) (EvT.eq (et_cmp (ev_op rv_I0b (ev_sumC (f := fun pc : Piece => (pc.length : Int)) ps (by omega) (ei_sq (ev_var rfl)) (si_name (by decide)) fun pc hpc => ⟨_, eg_name, ev_cb (rvs_lenI (by omega) (by have := le_sum hpc; omega) len_rsp) (ea_cons (ev_var rfl) ea_nil)⟩) ev_int)) ?_) rfl ?_)
    · rw [sum_cast]
      simp
      omega
    · refine gx_seq (gx_ifF (b := false) (EvT.eq (et_or (et_not (et_B (ev_cb (rvs_isiB (bb := true) ty_tup rfl) (ea_cons (ev_var rfl) (ea_cons ev_c ea_nil))))) fun _ => (et_cmp (ev_op rv_neDI (ev_cb rvs_lenN (ea_cons (ev_var rfl) ea_nil)) (ev_prop (ev_op (rv_xS (ixN_0 (by rw [List.length_map]; omega)) (tabs_at h0)) (ev_var rfl) ev_int) (width_rsp (hG.good (List.mem_of_getElem? h0))))))) (by simp [hl])) rfl ?_)
      exact gx_ifF (b := false) (EvT.eq (et_not (et_B (ev_allC (f := fun _ => true) pr (by omega) (ei_sq (ev_sqT (ev_var rfl))) (si_name (by decide)) fun v hm => ⟨_, eg_name, ev_call rfl (num_rsp (hG.prc.2 v hm).1 (hG.prc.2 v hm).2) (ea_cons (ev_var rfl) (ea_cons ev_int (ea_cons ev_int ea_nil)))⟩))) (by simp)) rfl (gx_end q)
/-! plans -/
abbrev Plan := List (Int × Bool)
abbrev rPair (K : PySem.W.Frag) (q : Int × Bool) : Rep := rTup K [rD K (.int q.1), rD K (.bool q.2)]
abbrev rPlan (K : PySem.W.Frag) (pl : Plan) : Rep := rLst K (pl.map (rPair K))
def isPlan (n : Nat) (pl : Plan) : Bool := decide ((pl.map (·.1)).Perm (iota n))
def spIsPlan (K : PySem.W.Frag) (C : Addr) : Sp := SpF (α := List Piece × Plan) (fun a => [rSeq K (rTabs K C a.1), rPlan K a.2]) (fun a => rD K (.bool (isPlan a.1.length a.2))) (fun a => a.1.length ≤ 1000 ∧ a.2.length < 64)
theorem ok_is_plan (F : C8.Def K mg "is_plan" s_is_plan f fd) (b : Binds K fd ["pieces", "plan"] []) (T : Txt K mg C D p g) : C8.Cal P w K mg base 1 "is_plan" (spIsPlan K C) [] := by
  refine C8.cal0 F b .nil sc_is_plan (sp_len fun _ => rfl) fun cdv A outer s H vs Q E hr h => ⟨_, (pss_one (ps_ret (pe_cmpR (k_eqD K hr.units) (pe_callB (k_sorted K) (by rfl) T.b.sorted (by decide +kernel) (pa_cons (pe_lc (own := [("index", 2), ("is_turned", 3)]) rfl sc_is_plan.nd (k_sq K (pv 1)) (blkOk_by (N := n_is_plan) (sc := C8.fnScope s_is_plan) (by decide +kernel)) (fun _ _ _ _ _ => (k_tup K (n := 2) rfl (pgs_cons (pg_name (i := 2) sc_is_plan.nd rfl (Or.inl rfl)) (pgs_cons (pg_name (i := 3) sc_is_plan.nd rfl (Or.inl rfl)) pgs_nil)))) (fun _ _ _ _ _ => pts_nil) (fun _ _ _ _ _ => (pv 2))) pa_nil)) (pe_listRg rfl (by rfl) T.b.list (prg_1 (by rfl) T.b.range (pe_callB (k_len K) (by rfl) T.b.len (by decide +kernel) (pa_cons (pv 0) pa_nil)))) (nomark _)))), sp_run (N := n_is_plan) ?_ h⟩
  rintro ⟨ps, pl⟩ ⟨h1, h2⟩ B0 H0 Q q
  have h1' : ps.length ≤ 1000 := h1
  have h2' : pl.length < 64 := h2
  refine gx_ret (ev_op (rv_exL (fun ms hm => ?_)) (ev_cb (rvs_sorted (ns := pl.map (·.1)) (by rw [List.length_map]; exact h2')) (ea_cons (ev_lcF (f := fun q : Int × Bool => q.1) (G := fun n => rD K (.int n)) pl (by omega) (ei_sq (ev_sqL (ev_var rfl))) (si_tup2 (by decide) (by decide)) fun q hq => ⟨_, eg_tup2, ev_var rfl⟩) ea_nil)) (ev_lstRg h1' ((ev_cb rvs_len (ea_cons (ev_var rfl) ea_nil)).eq (by rw [List.length_map])))) q
  have e := rv_eqL (K := K) (ns := ms) (ms := iota ps.length)
  rw [sorted_iota hm.1 hm.2] at e
  exact e
/-! the cost of a plan -/
def pieceAt (ps : List Piece) (i : Int) : Piece := ps.getD i.toNat []
abbrev Ends := List Int × List Int
def endsL (ps : List Piece) (pl : Plan) : List (List Int × List Int) := pl.map fun q => ends (pieceAt ps q.1) q.2
def costE (es : List (List Int × List Int)) (pr : List Int) : Int := ((es.zip es.tail).map fun q => apartF q.1.2 q.2.1 pr).sum
def seamCost (ps : List Piece) (pl : Plan) (pr : List Int) : Int := costE (endsL ps pl) pr
/-- the places of a plan are places of pieces -/
def InPs (n : Nat) (pl : Plan) : Prop := ∀ q ∈ pl, 0 ≤ q.1 ∧ q.1 < n
theorem piece_at {ps : List Piece} {i : Int} (h0 : 0 ≤ i) (h1 : i < ps.length) : ixN ps.length i = some i.toNat ∧ ps[i.toNat]? = some (pieceAt ps i) := by
  have hi : i.toNat < ps.length := by omega
  refine ⟨?_, ?_⟩
  · have e : i = (i.toNat : Int) := by omega
    rw [e]
    exact ixN_nat hi
  · rw [List.getElem?_eq_getElem hi]
    unfold pieceAt
    rw [List.getD_eq_getElem?_getD, List.getElem?_eq_getElem hi]
    rfl
theorem piece_mem {ps : List Piece} {i : Int} (h0 : 0 ≤ i) (h1 : i < ps.length) : pieceAt ps i ∈ ps := List.mem_of_getElem? (piece_at h0 h1).2
section
variable {Γ : Ctx} {ta tb : TE}
theorem ev_piece {ps : List Piece} {i : Int} (h0 : 0 ≤ i) (h1 : i < ps.length) (ha : Ev Γ ta (rSeq K (rTabs K C ps))) (hb : Ev Γ tb (rD K (.int i))) : Ev Γ (tOp (rIx K) ta tb) (rTab K C (pieceAt ps i)) := by
  obtain ⟨e1, e2⟩ := piece_at h0 h1
  exact ev_op (rv_xS (by rw [List.length_map]; exact e1) (tabs_at e2)) ha hb
end
theorem cut_tail {α : Type} (xs : List α) : cutR xs (some 1) none = xs.tail := by
  unfold cutR
  cases xs with
  | nil => rfl
  | cons x xs =>
    have e : HT.sIx (x :: xs).length 0 (some 1) = 1 := by
      have q := HT.sIx_nat (x :: xs).length 0 1
      rw [show ((1 : Nat) : Int) = 1 from rfl] at q
      rw [q, List.length_cons]
      omega
    rw [e, HT.sIx_none]
    simp
theorem zip_ends {es fs : List (List Int × List Int)} : ((es.map (rEnds K)).zip (fs.map (rEnds K))).map (fun p => rTup K [p.1, p.2]) = (es.zip fs).map fun q => rTup K [rEnds K q.1, rEnds K q.2] := by
  rw [List.zip_map, List.map_map]
  rfl
def spCost (K : PySem.W.Frag) (C : Addr) : Sp := SpF (α := List Piece × Plan × List Int) (fun a => [rSeq K (rTabs K C a.1), rPlan K a.2.1, rInts K a.2.2]) (fun a => rD K (.int (seamCost a.1 a.2.1 a.2.2)))
  (fun a => a.2.1.length ≤ 1000 ∧ InPs a.1.length a.2.1 ∧ ∀ pc ∈ a.1, 1 ≤ pc.length ∧ ∀ r ∈ pc, r.length ≤ 100)
theorem ends_len {pc : Piece} {b : Bool} (h : ∀ r ∈ pc, r.length ≤ 100) : (ends pc b).1.length ≤ 100 ∧ (ends pc b).2.length ≤ 100 := by
  have h1 : (pc.headD []).length ≤ 100 := by
    cases pc with
    | nil => exact Nat.zero_le _
    | cons a l => exact h a List.mem_cons_self
  have h2 : (pc.getLastD []).length ≤ 100 := by
    cases pc with
    | nil => exact Nat.zero_le _
    | cons a l =>
      rw [List.getLastD_cons]
      cases l with
      | nil => exact h a List.mem_cons_self
      | cons b l => 
        have : (b :: l).getLastD a ∈ (b :: l) := by
          rw [List.getLastD_eq_getLast?, List.getLast?_eq_some_getLast (by simp)]
          exact List.getLast_mem _
        exact h _ (List.mem_cons_of_mem _ this)
  unfold ends
  cases b
  · exact ⟨h1, h2⟩
  · exact ⟨h2, h1⟩
theorem ok_seam_cost (F : C8.Def K mg "seam_cost" s_seam_cost f fd) (b : Binds K fd ["pieces", "plan", "prices"] []) (T : Txt K mg C D p g) (G_ends_of : C8.Cal P w K mg base 1 "ends_of" (spEnds K C) []) (G_apart : C8.Cal P w K mg base 1 "apart" (spApart K) []) :
    C8.Cal P w K mg base 2 "seam_cost" (spCost K C) [] := by
  refine C8.cal0 F b .nil sc_seam_cost (sp_len fun _ => rfl) fun cdv A outer s H vs Q E hr h => ⟨_, (pss_cons (ps_setLc (i := 3) rfl sc_seam_cost.nd rfl rfl (sw_true rfl rfl rfl (by decide +kernel)) (own := [("index", 4), ("is_turned", 5)]) (k_sq K (pv 1)) (blkOk_by (N := n_seam_cost) (sc := C8.fnScope s_seam_cost) (by decide +kernel)) (fun _ _ _ _ _ => (k_tup K (n := 2) rfl (pgs_cons (pg_name (i := 4) sc_seam_cost.nd rfl (Or.inl rfl)) (pgs_cons (pg_name (i := 5) sc_seam_cost.nd rfl (Or.inl rfl)) pgs_nil)))) (fun _ _ _ _ _ => pts_nil) (fun _ _ _ _ _ => (C8.pe_c G_ends_of hr (by decide) (by rfl) (pa_cons (k_ix K (pv 0) (pv 4) (fun _ _ => rfl)) (pa_cons (pv 5) pa_nil)))))
      (pss_one (ps_ret (pe_callB (k_sum K rfl) (by rfl) T.b.sum (by decide +kernel) (pa_cons (pe_lc (own := [("one", 6), ("other", 7)]) rfl sc_seam_cost.nd (k_z2 K (by rfl) T.b.zip (pa_cons (pv 3) (pa_cons (pe_slice (k_slL K) (pv 3) (po_some pe_int) po_none) pa_nil))) (blkOk_by (N := n_seam_cost) (sc := C8.fnScope s_seam_cost) (by decide +kernel)) (fun _ _ _ _ _ => (k_tup K (n := 2) rfl (pgs_cons (pg_name (i := 6) sc_seam_cost.nd rfl (Or.inl rfl)) (pgs_cons (pg_name (i := 7) sc_seam_cost.nd rfl (Or.inl rfl)) pgs_nil)))) (fun _ _ _ _ _ => pts_nil) (fun _ _ _ _ _ => (C8.pe_c G_apart hr (by decide) (by rfl) (pa_cons (k_ix K (pv 6) pe_int (fun _ _ => rfl)) (pa_cons (k_ix K (pv 7) pe_int (fun _ _ => rfl)) (pa_cons (pv 2) pa_nil)))))) pa_nil))))), sp_run (N := n_seam_cost) ?_ h⟩
  rintro ⟨ps, pl, pr⟩ ⟨h1, h2, h3⟩ B0 H0 Q q
  have h1' : pl.length ≤ 1000 := h1
  have h2' : InPs ps.length pl := h2
  refine gx_seq (gx_set (R := rLst K ((endsL ps pl).map (rEnds K))) (ev_lcF (f := fun q : Int × Bool => ends (pieceAt ps q.1) q.2) (G := rEnds K) pl (by omega) (ei_sq (ev_sqL (ev_var rfl))) (si_tup2 (by decide) (by decide)) fun q hq => ⟨_, eg_tup2, ?_⟩) ?_)
  · obtain ⟨g0, g1⟩ := h2' q hq
    exact ev_call rfl (ends_rsp (h3 _ (piece_mem g0 g1)).1) (ea_cons (ev_piece g0 g1 (ev_var rfl) (ev_var rfl)) (ea_cons (ev_var rfl) ea_nil))
  · have hz : ((endsL ps pl).zip (endsL ps pl).tail).length ≤ 100000 := by
      rw [List.length_zip]
      have : (endsL ps pl).length = pl.length := by unfold endsL; rw [List.length_map]
      omega
    have hi := ei_z2 (K := K) (Γ := (ctxOf n_seam_cost [rSeq K (rTabs K C ps), rPlan K pl, rInts K pr]).set 3 (rLst K ((endsL ps pl).map (rEnds K)))) (ea_cons (ev_sqL (ev_var (i := 3) rfl)) (ea_cons (ev_sqL (ev_slL (lo := some 1) (hi := none) (ev_var (i := 3) rfl) (ep_some (K := K) ev_int) ep_no)) ea_nil))
    rw [cut_tail, ← List.map_tail, zip_ends] at hi
    refine gx_ret (ev_sumC (f := fun q : (List Int × List Int) × (List Int × List Int) => apartF q.1.2 q.2.1 pr) _ hz hi (si_tup2 (by decide) (by decide)) fun q hq => ⟨_, eg_tup2, ?_⟩) q
    refine ev_call rfl (apart_rsp ?_) (ea_cons (ev_op (rv_xT (j := 1) rfl rfl) (ev_var (R := rEnds K q.1) rfl) ev_int) (ea_cons (ev_op (rv_xT (j := 0) rfl rfl) (ev_var (R := rEnds K q.2) rfl) ev_int) (ea_cons (ev_var rfl) ea_nil)))
    have hm := (List.of_mem_zip (show (q.1, q.2) ∈ (endsL ps pl).zip (endsL ps pl).tail from hq)).1
    obtain ⟨z, hz1, hz2⟩ := List.mem_map.mp hm
    obtain ⟨g0, g1⟩ := h2' z hz1
    rw [← hz2]
    exact (ends_len (h3 _ (piece_mem g0 g1)).2).2
end
end Sm
namespace Sm
open PySem PySem.Spec PyProof.Rows L2

section
variable {P : Program} {w : World} {K : PySem.W.Frag} {mg : Str → Option Value} {base : Heap} {f f' : Addr} {fd fd' : FuncData} {C D p g : Addr}
/-! the rows that a plan puts together -/
def partOf (ps : List Piece) (q : Int × Bool) : List (List Int) := if q.2 then (pieceAt ps q.1).reverse else pieceAt ps q.1
def rowsOf (ps : List Piece) (pl : Plan) : List (List Int) := pl.flatMap (partOf ps)
def spPut (K : PySem.W.Frag) (C : Addr) : Sp := SpF (α := List Piece × Plan × Nat) (fun a => [rSeq K (rTabs K C a.1), rPlan K a.2.1]) (fun a => rTab K C (rowsOf a.1 a.2.1)) (fun a => InPs a.1.length a.2.1 ∧ GoodT a.2.2 (rowsOf a.1 a.2.1))
theorem rRows_app {a b : List (List Int)} : rRows K (a ++ b) = rRows K a ++ rRows K b := List.map_append
theorem rRows_rev {a : List (List Int)} : rRows K a.reverse = (rRows K a).reverse := List.map_reverse
theorem ev_tab {Γ : Ctx} {tl : TA} {E : XK} {rows : List (List Int)} {wd : Nat} (hg : GoodT wd rows) (h : EvA Γ tl [rSeq K (rRows K rows)]) : Ev Γ (tMake C (spTab K C) [] E tl) (rTab K C rows) :=
  ev_make (Rs := fun a : List (List Int) × Nat => [rSeq K (rRows K a.1)]) (T := fun a => rTab K C a.1) (pre := fun a => GoodT a.2 a.1) (rows, wd) hg h
theorem flat_take {α β : Type} {g : α → List β} {l : List α} {i : Nat} {a : α} (h : l[i]? = some a) : (l.take (i + 1)).flatMap g = (l.take i).flatMap g ++ g a := by
  rw [List.take_add_one, h, List.flatMap_append]
  simp
theorem flat_le {α β : Type} {g : α → List β} {l : List α} {i : Nat} : ((l.take i).flatMap g).length ≤ (l.flatMap g).length := by
  have e : l.flatMap g = (l.take i).flatMap g ++ (l.drop i).flatMap g := by rw [← List.flatMap_append, List.take_append_drop]
  rw [e, List.length_append]
  exact Nat.le_add_right _ _
theorem ok_put_plan (F : C8.Def K mg "put_plan" s_put_plan f fd) (b : Binds K fd ["pieces", "plan"] []) (T : Txt K mg C D p g) (G_Table : C8.Mak P w K mg base 3 "Table" C (spTab K C) []) : C8.Cal P w K mg base 5 "put_plan" (spPut K C) [] := by
  refine C8.cal0 F b .nil sc_put_plan (sp_len fun _ => rfl) fun cdv A outer s H vs Q E hr h => ⟨_, (pss_cons (ps_set (i := 2) sc_put_plan.nd rfl (Or.inl rfl) (pe_lst pa_nil))
      (pss_cons (ps_for PassesOwn.never rfl (k_sq K (pv 1)) (k_tup K (n := 2) rfl (pgs_cons (pg_name (i := 3) sc_put_plan.nd rfl (Or.inl rfl)) (pgs_cons (pg_name (i := 4) sc_put_plan.nd rfl (Or.inl rfl)) pgs_nil))) (pss_one (ps_expr (k_extT K (pv 2) (pa_cons (pe_ifExp (pt_val (pv 4)) (k_revT K (k_fld K (k_ix K (pv 0) (pv 3) (fun _ _ => rfl)) rfl)) (k_fld K (k_ix K (pv 0) (pv 3) (fun _ _ => rfl)) rfl)) pa_nil)))))
      (pss_one (ps_ret (C8.pe_mk G_Table hr (by decide) (by rfl) (pa_cons (pv 2) pa_nil)))))), sp_run (N := n_put_plan) ?_ h⟩
  rintro ⟨ps, pl, wd⟩ ⟨h1, hg⟩ B0 H0 Q q
  have h1' : InPs ps.length pl := h1
  have hg' : GoodT wd (rowsOf ps pl) := hg
  have n2 := hg'.n2
  refine gx_seq (gx_own (W := oL []) (eo_lst ea_nil (by simp)) fun a ha => gx_seq ?_)
  refine gx_forF (fun i => { r := [some (rSeq K (rTabs K C ps)), some (rPlan K pl), some (rV (.ref a)), none, none], o := [(a, oL (rRows K ((pl.take i).flatMap (partOf ps))))] }) (ei_sq (ev_sqL (ev_var (i := 1) (R := rPlan K pl) rfl))) (fun B1 H1 nx i R hR => ?_) ?_
  · obtain ⟨qq, hq, rfl⟩ := map_at hR
    obtain ⟨g0, g1⟩ := h1' qq (List.mem_of_getElem? hq)
    refine ⟨_, eg_tup2, fun N k => ?_⟩
    have hle : ((pl.take i).flatMap (partOf ps)).length + (partOf ps qq).length ≤ 10 := by
      have e := flat_le (g := partOf ps) (l := pl) (i := i + 1)
      rw [flat_take hq, List.length_append] at e
      exact Nat.le_trans e n2
    refine gx_extT (Ss := rRows K (partOf ps qq)) (k := 0) (a := a) rfl ha rfl (by rw [List.length_map, List.length_map]; omega) (ea_cons (ev_if (et_B (ev_var rfl)) (fun e => ?_) fun e => ?_) ea_nil) ?_
    · have hp : partOf ps qq = (pieceAt ps qq.1).reverse := by unfold partOf; rw [e]; rfl
      rw [hp, rRows_rev]
      exact ev_revT (ev_fld T.cl_Table T.n_rows rfl (ev_piece g0 g1 (ev_var rfl) (ev_var rfl)))
    · have hp : partOf ps qq = pieceAt ps qq.1 := by unfold partOf; rw [e]; rfl
      rw [hp]
      exact ev_fld T.cl_Table T.n_rows rfl (ev_piece g0 g1 (ev_var rfl) (ev_var rfl))
    · rw [flat_take hq, rRows_app] at k
      exact gx_drop_slot 3 (gx_drop_slot 4 k)
  · rw [List.length_map, List.take_length]
    refine gx_seal (k := 0) (i := 2) rfl ha rfl (R := rLst K (rRows K (rowsOf ps pl))) (fun B ho h w => seal_lst h w) ?_
    exact gx_ret (ev_tab hg' (ea_cons (ev_sqL (ev_var rfl)) ea_nil)) q
/-! the steps from a state -/
def stepOf (ps : List Piece) (left : List Int) (i : Int) (b : Bool) : SSt × List Int := ((left.filter (fun j => !decide (j = i)), some (ends (pieceAt ps i) b).2), (ends (pieceAt ps i) b).1)
def stepsOf (ps : List Piece) (left : List Int) : List (SSt × List Int) := left.flatMap fun i => [stepOf ps left i false, stepOf ps left i true]
abbrev rStep (K : PySem.W.Frag) (q : SSt × List Int) : Rep := rTup K [rSt K q.1, rInts K q.2]
def spSteps (K : PySem.W.Frag) (C : Addr) : Sp := SpF (α := List Piece × SSt) (fun a => [rSeq K (rTabs K C a.1), rSt K a.2]) (fun a => rLst K ((stepsOf a.1 a.2.1).map (rStep K)))
  (fun a => a.2.1.length ≤ 100 ∧ (∀ i ∈ a.2.1, 0 ≤ i ∧ i < a.1.length) ∧ ∀ pc ∈ a.1, 1 ≤ pc.length)
theorem steps_len {ps : List Piece} {left l : List Int} : (l.flatMap fun i => [stepOf ps left i false, stepOf ps left i true]).length = 2 * l.length := by
  induction l with
  | nil => rfl
  | cons i l ih => rw [List.flatMap_cons, List.length_append, ih, List.length_cons]; simp; omega
theorem ok_steps_from (F : C8.Def K mg "steps_from" s_steps_from f fd) (b : Binds K fd ["pieces", "state"] []) (T : Txt K mg C D p g) (G_ends_of : C8.Cal P w K mg base 1 "ends_of" (spEnds K C) []) : C8.Cal P w K mg base 2 "steps_from" (spSteps K C) [] := by
  refine C8.cal0 F b .nil sc_steps_from (sp_len fun _ => rfl) fun cdv A outer s H vs Q E hr h => ⟨_, (pss_cons (ps_asg (pv 1) (k_tup K (n := 2) rfl (pgs_cons (pg_name (i := 2) sc_steps_from.nd rfl (Or.inl rfl)) (pgs_cons (pg_name (i := 3) sc_steps_from.nd rfl (Or.inl rfl)) pgs_nil))))
      (pss_cons (ps_set (i := 4) sc_steps_from.nd rfl (Or.inl rfl) (pe_lst pa_nil))
      (pss_cons (ps_for PassesOwn.never rfl (k_sq K (pv 2)) (pg_name (i := 5) sc_steps_from.nd rfl (Or.inr rfl)) (pss_cons (ps_set (i := 6) sc_steps_from.nd rfl (Or.inl rfl) (pe_callTy (k_tupleOf K) (by rfl) T.b.tuple (by decide +kernel) (pa_cons (pe_lc (own := [("late", 10)]) rfl sc_steps_from.nd (k_sq K (pv 2)) (blkOk_by (N := n_steps_from) (sc := C8.fnScope s_steps_from) (by decide +kernel)) (fun _ _ _ _ _ => (pg_name (i := 10) sc_steps_from.nd rfl (Or.inl rfl))) (fun _ _ _ _ _ => (pts_one (pt_cmpR (k_neD K hr.units) (pv 10) (pv 5) (nomark _)))) (fun _ _ _ _ _ => (pv 10))) pa_nil)))
      (pss_one (ps_for PassesOwn.never rfl (k_sq K (pe_tup (pa_cons pe_bl (pa_cons pe_bl pa_nil)))) (pg_name (i := 7) sc_steps_from.nd rfl (Or.inl rfl)) (pss_cons (ps_asg (C8.pe_c G_ends_of hr (by decide) (by rfl) (pa_cons (k_ix K (pv 0) (pv 5) (fun _ _ => rfl)) (pa_cons (pv 7) pa_nil))) (k_tup K (n := 2) rfl (pgs_cons (pg_name (i := 8) sc_steps_from.nd rfl (Or.inl rfl)) (pgs_cons (pg_name (i := 9) sc_steps_from.nd rfl (Or.inl rfl)) pgs_nil))))
      (pss_one (ps_expr (k_append K (pv 4) (pa_cons (pe_tup (pa_cons (pe_tup (pa_cons (pv 6) (pa_cons (pv 9) pa_nil))) (pa_cons (pv 8) pa_nil))) pa_nil)))))))))
      (pss_one (ps_ret (pv 4)))))), sp_run (N := n_steps_from) ?_ h⟩
  rintro ⟨ps, left, last⟩ ⟨h1, h2, h3⟩ B0 H0 Q q
  have h1' : left.length ≤ 100 := h1
  have h2' : ∀ i ∈ left, 0 ≤ i ∧ i < ps.length := h2
  refine gx_seq (gx_asg (ev_unst (ev_var rfl)) eg_tup2 ?_)
  refine gx_seq (gx_own (W := oL []) (eo_lst ea_nil (by simp)) fun a ha => gx_seq ?_)
  refine gx_forF (fun i => { r := [some (rSeq K (rTabs K C ps)), some (rSt K (left, last)), some (rInts K left), some (rOpt K last), some (rV (.ref a)), none, none, none, none, none, none], o := [(a, oL (((left.take i).flatMap fun i => [stepOf ps left i false, stepOf ps left i true]).map (rStep K)))] })
    (ei_sq (ev_sqT (ev_var (i := 2) (R := rInts K left) rfl))) (fun B1 H1 nx i R hR => ?_) ?_
  · obtain ⟨x, hx, rfl⟩ := map_at hR
    obtain ⟨g0, g1⟩ := h2' x (List.mem_of_getElem? hx)
    have hpc : 1 ≤ (pieceAt ps x).length := h3 _ (piece_mem g0 g1)
    refine ⟨_, eg_name, fun N k => ?_⟩
    refine gx_seq (gx_set (R := rInts K (left.filter fun j => !decide (j = x))) (ev_cb rvs_tupOf (ea_cons (ev_sqL ((ev_lc (S := fun j : Int => rD K (.int j)) left (fun j => !decide (j = x)) (by omega) (ei_sq (ev_sqT (ev_var rfl))) (si_name (by decide)) fun j hj => ⟨_, eg_name, et_cmp (ev_op rv_neDI (ev_var rfl) (ev_var rfl)), fun _ => ev_var rfl⟩))) ea_nil)) ?_)
    have hlen : (((left.take i).flatMap fun i => [stepOf ps left i false, stepOf ps left i true]).map (rStep K)).length ≤ 200 := by
      rw [List.length_map, steps_len, List.length_take]
      omega
    refine gx_forE (fun j => Ctx.mk [some (rSeq K (rTabs K C ps)), some (rSt K (left, last)), some (rInts K left), some (rOpt K last), some (rV (.ref a)), some (rD K (.int x)), some (rInts K (left.filter fun j => !decide (j = x))), none, none, none, none]
        [(a, oL (((left.take i).flatMap fun i => [stepOf ps left i false, stepOf ps left i true]).map (rStep K) ++ ([false, true].take j).map fun b => rStep K (stepOf ps left x b)))]) (by simp)
      (Rs := [false, true].map fun b => rD K (.bool b)) (ei_sq (ev_sqT (ev_tup (ea_cons ev_bl (ea_cons ev_bl ea_nil)) (by simp)))) (fun B2 H2 nx2 j R hR => ?_) ?_
    · obtain ⟨b, hb, rfl⟩ := map_at hR
      have hj : j < 2 := (List.getElem?_eq_some_iff.mp hb).1
      refine ⟨_, eg_name, fun N2 k2 => ?_⟩
      refine gx_seq (gx_asg (R := rTup K [rInts K (ends (pieceAt ps x) b).1, rInts K (ends (pieceAt ps x) b).2]) (ev_call rfl (ends_rsp (b := b) hpc) (ea_cons (ev_piece g0 g1 (ev_var rfl) (ev_var rfl)) (ea_cons (ev_var rfl) ea_nil))) eg_tup2 ?_)
      refine gx_append (R := rStep K (stepOf ps left x b)) (k := 0) (a := a) rfl ha rfl ?_ (ea_cons (ev_tup (ea_cons (ev_st (s := (stepOf ps left x b).1) (ev_tup (ea_cons (ev_var rfl) (ea_cons (ev_var rfl) ea_nil)) (by simp))) (ea_cons (ev_var rfl) ea_nil)) (by simp)) ea_nil) ?_
      · have h2l : [false, true].length = 2 := rfl
        rw [List.length_map] at hlen
        rw [List.length_append, List.length_map, List.length_map, List.length_take]
        omega
      · rw [List.take_add_one, hb, List.map_append, ← List.append_assoc] at k2
        exact gx_drop_slot 7 (gx_drop_slot 8 (gx_drop_slot 9 k2))
    · rw [flat_take hx, List.map_append] at k
      exact gx_drop_slot 5 (gx_drop_slot 6 k)
  · rw [List.length_map (as := left), List.take_length]
    refine gx_seal (k := 0) (i := 4) rfl ha rfl (R := rLst K ((stepsOf ps left).map (rStep K))) (fun B ho h w => seal_lst h w) ?_
    exact gx_ret (ev_var rfl) q
end
end Sm
namespace Sm
/-! ### plain laws: the least, the states, the value of a state -/
def minL : List Int → Int
  | [] => 0
  | a :: r => r.foldl min a
theorem foldl_min : ∀ (r : List Int) (a : Int), (r.foldl min a = a ∨ r.foldl min a ∈ r) ∧ r.foldl min a ≤ a ∧ ∀ y ∈ r, r.foldl min a ≤ y
  | [], a => ⟨.inl rfl, Int.le_refl _, fun y h => nomatch h⟩
  | b :: r, a => by
    obtain ⟨h1, h2, h3⟩ := foldl_min r (min a b)
    rw [List.foldl_cons]
    refine ⟨?_, by omega, fun y hy => ?_⟩
    · rcases h1 with h1 | h1
      · rw [h1]
        by_cases h : a ≤ b
        · left; omega
        · right
          have : min a b = b := by omega
          rw [this]
          exact List.mem_cons_self
      · exact .inr (List.mem_cons_of_mem _ h1)
    · rcases List.mem_cons.mp hy with e | hy
      · subst e; omega
      · exact h3 y hy
theorem minL_mem {l : List Int} (h : l ≠ []) : minL l ∈ l := by
  cases l with
  | nil => exact absurd rfl h
  | cons a r =>
    rcases (foldl_min r a).1 with e | e
    · show r.foldl min a ∈ a :: r
      rw [e]
      exact List.mem_cons_self
    · exact List.mem_cons_of_mem _ e
theorem minL_le {l : List Int} {y : Int} (h : y ∈ l) : minL l ≤ y := by
  cases l with
  | nil => cases h
  | cons a r =>
    rcases List.mem_cons.mp h with e | h
    · subst e
      exact (foldl_min r y).2.1
    · exact (foldl_min r a).2.2 y h
theorem minL_is {l : List Int} {z : Int} (h1 : z ∈ l) (h2 : ∀ y ∈ l, z ≤ y) : z = minL l := Int.le_antisymm (h2 _ (minL_mem (fun e => by rw [e] at h1; cases h1))) (minL_le h1)
/-- the steps of a state, by what they are made of -/
theorem mem_steps {ps : List Piece} {left : List Int} {q : SSt × List Int} : q ∈ stepsOf ps left ↔ ∃ i ∈ left, ∃ b, q = stepOf ps left i b := by
  unfold stepsOf
  rw [List.mem_flatMap]
  constructor
  · rintro ⟨i, hi, h⟩
    rcases List.mem_cons.mp h with e | h
    · exact ⟨i, hi, false, e⟩
    · rcases List.mem_cons.mp h with e | h
      · exact ⟨i, hi, true, e⟩
      · cases h
  · rintro ⟨i, hi, b, e⟩
    refine ⟨i, hi, ?_⟩
    cases b
    · exact List.mem_cons.mpr (.inl e)
    · exact List.mem_cons_of_mem _ (List.mem_cons.mpr (.inl e))
def rest (left : List Int) (i : Int) : List Int := left.filter fun j => !decide (j = i)
theorem rest_sub {left : List Int} {i : Int} : (rest left i).Sublist left := List.filter_sublist
theorem rest_len {i : Int} : ∀ {left : List Int}, left.Nodup → i ∈ left → (rest left i).length + 1 = left.length
  | a :: l, hn, h => by
    obtain ⟨h1, h2⟩ := List.nodup_cons.mp hn
    unfold rest
    by_cases e : a = i
    · subst e
      rw [List.filter_cons_of_neg (by simp)]
      have : l.filter (fun j => !decide (j = a)) = l := List.filter_eq_self.mpr fun x hx => by
        have : x ≠ a := fun e => h1 (e ▸ hx)
        simp [this]
      rw [this]
      rfl
    · rw [List.filter_cons_of_pos (by simp [e]), List.length_cons, List.length_cons]
      have := rest_len h2 (by
        rcases List.mem_cons.mp h with e2 | h
        · exact absurd e2.symm e
        · exact h)
      unfold rest at this
      omega
/-- the least cost that is still to come, the fuel n -/
def valN (ps : List Piece) (pr : List Int) : Nat → SSt → Int
  | 0, _ => 0
  | n + 1, s => minL ((stepsOf ps s.1).map fun q => valN ps pr n q.1 + seamF s.2 q.2 pr)
def val (ps : List Piece) (pr : List Int) (s : SSt) : Int := valN ps pr s.1.length s
theorem val_nil {ps : List Piece} {pr : List Int} {o : Option (List Int)} : val ps pr ([], o) = 0 := rfl
theorem val_step {ps : List Piece} {pr : List Int} {s : SSt} (hn : s.1.Nodup) (h0 : s.1 ≠ []) : val ps pr s = minL ((stepsOf ps s.1).map fun q => val ps pr q.1 + seamF s.2 q.2 pr) := by
  have hl : 0 < s.1.length := List.length_pos_iff.mpr h0
  obtain ⟨m, hm⟩ : ∃ m, s.1.length = m + 1 := ⟨s.1.length - 1, by omega⟩
  unfold val
  rw [hm]
  show minL _ = _
  congr 1
  apply List.map_congr_left
  intro q hq
  obtain ⟨i, hi, b, rfl⟩ := mem_steps.mp hq
  have e : (stepOf ps s.1 i b).1.1.length = m := by
    have := rest_len hn hi
    show (rest s.1 i).length = m
    omega
  rw [e]
/-! the states there are -/
def subs : List Int → List (List Int)
  | [] => [[]]
  | a :: l => (subs l).map (a :: ·) ++ subs l
theorem mem_subs : ∀ {l m : List Int}, m.Sublist l → m ∈ subs l
  | [], _, h => by cases h; exact List.mem_cons_self
  | a :: l, m, h => by
    unfold subs
    rw [List.mem_append]
    cases h with
    | cons _ h => exact .inr (mem_subs h)
    | cons_cons _ h => exact .inl (List.mem_map.mpr ⟨_, mem_subs h, rfl⟩)
theorem subs_sub : ∀ {l m : List Int}, m ∈ subs l → m.Sublist l
  | [], m, h => by
    rcases List.mem_cons.mp h with e | h
    · subst e; exact List.Sublist.refl _
    · cases h
  | a :: l, m, h => by
    unfold subs at h
    rcases List.mem_append.mp h with h | h
    · obtain ⟨t, h1, rfl⟩ := List.mem_map.mp h
      exact (subs_sub h1).cons_cons _
    · exact (subs_sub h).cons _
theorem subs_len : ∀ l : List Int, (subs l).length = 2 ^ l.length
  | [] => rfl
  | a :: l => by
    unfold subs
    rw [List.length_append, List.length_map, subs_len l, List.length_cons, Nat.pow_succ]
    omega
/-- what may stand as the last row -/
def lasts (ps : List Piece) : List (Option (List Int)) := none :: ps.flatMap fun p => [some (ends p false).2, some (ends p true).2]
theorem lasts_len {ps : List Piece} : (lasts ps).length = 1 + 2 * ps.length := by
  unfold lasts
  rw [List.length_cons]
  have h : ∀ ps : List Piece, (ps.flatMap fun p => [some (ends p false).2, some (ends p true).2]).length = 2 * ps.length := fun ps => by
    induction ps with
    | nil => rfl
    | cons p ps ih => rw [List.flatMap_cons, List.length_append, ih, List.length_cons]; simp; omega
  rw [h]
  omega
def allSt (ps : List Piece) : List SSt := (subs (iota ps.length)).flatMap fun l => (lasts ps).map fun o => (l, o)
theorem mem_allSt {ps : List Piece} {s : SSt} : s ∈ allSt ps ↔ s.1.Sublist (iota ps.length) ∧ s.2 ∈ lasts ps := by
  unfold allSt
  rw [List.mem_flatMap]
  constructor
  · rintro ⟨l, hl, h⟩
    obtain ⟨o, ho, rfl⟩ := List.mem_map.mp h
    exact ⟨subs_sub hl, ho⟩
  · rintro ⟨h1, h2⟩
    exact ⟨s.1, mem_subs h1, List.mem_map.mpr ⟨s.2, h2, rfl⟩⟩
theorem allSt_len {ps : List Piece} (h : ps.length ≤ 4) : (allSt ps).length ≤ 144 := by
  have e : ∀ l : List (List Int), (l.flatMap fun l => (lasts ps).map fun o => (l, o)).length = l.length * (lasts ps).length := fun l => by
    induction l with
    | nil => simp
    | cons a l ih => rw [List.flatMap_cons, List.length_append, ih, List.length_map, List.length_cons, Nat.succ_mul]; omega
  unfold allSt
  rw [e, subs_len, iota_len, lasts_len]
  generalize ps.length = n at h
  have : n = 0 ∨ n = 1 ∨ n = 2 ∨ n = 3 ∨ n = 4 := by omega
  rcases this with e | e | e | e | e <;> subst e <;> decide
theorem nodup_le {α : Type} {l m : List α} (hn : l.Nodup) (h : ∀ x ∈ l, x ∈ m) : l.length ≤ m.length := hn.length_le_of_subset fun x hx => h x hx
theorem iota_nodup {n : Nat} : (iota n).Nodup := by
  unfold iota
  refine List.Pairwise.map _ (fun a b h => ?_) List.nodup_range
  omega
theorem step_all {ps : List Piece} {s : SSt} (h : s ∈ allSt ps) {q : SSt × List Int} (hq : q ∈ stepsOf ps s.1) : q.1 ∈ allSt ps ∧ q.1.1.length + 1 = s.1.length := by
  obtain ⟨h1, h2⟩ := mem_allSt.mp h
  obtain ⟨i, hi, b, rfl⟩ := mem_steps.mp hq
  have hn : s.1.Nodup := h1.nodup iota_nodup
  refine ⟨mem_allSt.mpr ⟨rest_sub.trans h1, ?_⟩, rest_len hn hi⟩
  obtain ⟨g0, g1⟩ := iota_mem.mp (h1.subset hi)
  show some (ends (pieceAt ps i) b).2 ∈ lasts ps
  unfold lasts
  refine List.mem_cons_of_mem _ (List.mem_flatMap.mpr ⟨pieceAt ps i, piece_mem g0 g1, ?_⟩)
  cases b
  · exact List.mem_cons_self
  · exact List.mem_cons_of_mem _ List.mem_cons_self
abbrev start0 (ps : List Piece) : SSt := (iota ps.length, none)
theorem start_all {ps : List Piece} : start0 ps ∈ allSt ps := mem_allSt.mpr ⟨List.Sublist.refl _, List.mem_cons_self⟩
/-- the states that the search has seen: up to k all steps are there; e: the turn is under way up to k + e -/
structure Bfs (ps : List Piece) (k e : Nat) (L : List SSt) : Prop where
  hk : k ≤ L.length
  nd : L.Nodup
  all : ∀ s ∈ L, s ∈ allSt ps
  fst : L[0]? = some (start0 ps)
  cl : ∀ j s, j < k → L[j]? = some s → ∀ q ∈ stepsOf ps s.1, q.1 ∈ L
  dn : L.Pairwise fun a b => b.1.length ≤ a.1.length
  src : ∀ s ∈ L, s = start0 ps ∨ ∃ j t, j < k + e ∧ L[j]? = some t ∧ t.1.length = s.1.length + 1
theorem bfs_start {ps : List Piece} : Bfs ps 0 0 [start0 ps] := ⟨Nat.zero_le _, by simp, fun s h => by rw [List.mem_singleton.mp h]; exact start_all, rfl, fun j s h => absurd h (Nat.not_lt_zero _), by simp, fun s h => .inl (List.mem_singleton.mp h)⟩
theorem Bfs.go {ps : List Piece} {k : Nat} {L : List SSt} (h : Bfs ps k 0 L) : Bfs ps k 1 L := ⟨h.hk, h.nd, h.all, h.fst, h.cl, h.dn, fun s hs => (h.src s hs).imp id fun ⟨j, t, a, b, c⟩ => ⟨j, t, by omega, b, c⟩⟩
theorem pw_at {α : Type} {R : α → α → Prop} {l : List α} (h : l.Pairwise R) {i j : Nat} {a b : α} (hij : i < j) (ha : l[i]? = some a) (hb : l[j]? = some b) : R a b := by
  obtain ⟨h1, e1⟩ := List.getElem?_eq_some_iff.mp ha
  obtain ⟨h2, e2⟩ := List.getElem?_eq_some_iff.mp hb
  rw [← e1, ← e2]
  exact List.pairwise_iff_getElem.mp h i j h1 h2 hij
theorem at_app {α : Type} {l m : List α} {j : Nat} {a : α} (h : l[j]? = some a) : (l ++ m)[j]? = some a := by
  rw [List.getElem?_append_left (List.getElem?_eq_some_iff.mp h).1]
  exact h
/-- one more state, a step of the k-th -/
theorem Bfs.add {ps : List Piece} {k : Nat} {L : List SSt} (h : Bfs ps k 1 L) {s t : SSt} (hs : L[k]? = some s) (ht : t ∈ allSt ps) (hl : t.1.length + 1 = s.1.length) (hn : t ∉ L) : Bfs ps k 1 (L ++ [t]) := by
  refine ⟨by rw [List.length_append]; have := h.hk; omega, ?_, fun u hu => ?_, at_app h.fst, fun j u hj hu q hq => ?_, ?_, fun u hu => ?_⟩
  · rw [List.nodup_append]
    refine ⟨h.nd, by simp, fun a ha b hb => ?_⟩
    rw [List.mem_singleton.mp hb]
    exact fun e => hn (e ▸ ha)
  · rcases List.mem_append.mp hu with hu | hu
    · exact h.all u hu
    · rw [List.mem_singleton.mp hu]; exact ht
  · have hjl : j < L.length := Nat.lt_of_lt_of_le hj h.hk
    rw [List.getElem?_append_left hjl] at hu
    exact List.mem_append_left _ (h.cl j u hj hu q hq)
  · rw [List.pairwise_append]
    refine ⟨h.dn, by simp, fun a ha b hb => ?_⟩
    rw [List.mem_singleton.mp hb]
    rcases h.src a ha with e | ⟨j, u, hj, hu, hul⟩
    · -- the first is the longest
      have h0 := h.fst
      rw [← e] at h0
      by_cases hk0 : k = 0
      · subst hk0
        rw [h0] at hs
        cases hs
        omega
      · have := pw_at h.dn (Nat.pos_of_ne_zero hk0) h0 hs
        omega
    · by_cases hjk : j = k
      · subst hjk
        rw [hs] at hu
        cases hu
        omega
      · have := pw_at h.dn (show j < k by omega) hu hs
        omega
  · rcases List.mem_append.mp hu with hu | hu
    · exact (h.src u hu).imp id fun ⟨j, t, a, b, c⟩ => ⟨j, t, a, at_app b, c⟩
    · rw [List.mem_singleton.mp hu]
      exact .inr ⟨k, s, by omega, at_app hs, hl.symm⟩
/-- the k-th is done -/
theorem Bfs.next {ps : List Piece} {k : Nat} {L : List SSt} (h : Bfs ps k 1 L) {s : SSt} (hs : L[k]? = some s) (hq : ∀ q ∈ stepsOf ps s.1, q.1 ∈ L) : Bfs ps (k + 1) 0 L :=
  ⟨(List.getElem?_eq_some_iff.mp hs).1, h.nd, h.all, h.fst, fun j u hj hu => by
    by_cases e : j = k
    · subst e
      rw [hs] at hu
      cases hu
      exact hq
    · exact h.cl j u (by omega) hu, h.dn, h.src⟩
theorem Bfs.len {ps : List Piece} {k e : Nat} {L : List SSt} (h : Bfs ps k e L) (hp : ps.length ≤ 4) : L.length ≤ 144 := Nat.le_trans (nodup_le h.nd h.all) (allSt_len hp)
/-- all that is reached, the steps before what they are steps of -/
structure Reached (ps : List Piece) (L : List SSt) : Prop where
  nd : L.Nodup
  all : ∀ s ∈ L, s ∈ allSt ps
  fst : start0 ps ∈ L
  cl : ∀ s ∈ L, ∀ q ∈ stepsOf ps s.1, q.1 ∈ L
theorem Bfs.done {ps : List Piece} {k : Nat} {L : List SSt} (h : Bfs ps k 0 L) (hk : k = L.length) : Reached ps L.reverse := by
  refine ⟨List.pairwise_reverse.mpr (h.nd.imp fun h e => h e.symm), fun s hs => h.all s (List.mem_reverse.mp hs), List.mem_reverse.mpr (List.mem_of_getElem? h.fst), fun s hs q hq => ?_⟩
  obtain ⟨j, hj⟩ := List.mem_iff_getElem?.mp (List.mem_reverse.mp hs)
  have hl := (List.getElem?_eq_some_iff.mp hj).1
  exact List.mem_reverse.mpr (h.cl j s (by omega) hj q hq)
/-- in the reversed line the steps of the i-th stand before it -/
theorem Bfs.before {ps : List Piece} {k : Nat} {L : List SSt} (h : Bfs ps k 0 L) (hk : k = L.length) {i : Nat} {s : SSt} (hs : L.reverse[i]? = some s) {q : SSt × List Int} (hq : q ∈ stepsOf ps s.1) : q.1 ∈ L.reverse.take i := by
  have hsm : s ∈ L := List.mem_reverse.mp (List.mem_of_getElem? hs)
  have hr := (h.done hk).cl s (List.mem_of_getElem? hs) q hq
  obtain ⟨j, hj⟩ := List.mem_iff_getElem?.mp hr
  have hlen := (step_all (h.all s hsm) hq).2
  have up : L.reverse.Pairwise fun a b => a.1.length ≤ b.1.length := List.pairwise_reverse.mpr h.dn
  have hij : j < i := by
    apply Classical.byContradiction
    intro hc
    by_cases e : j = i
    · subst e
      rw [hs] at hj
      have e2 := Option.some.inj hj
      rw [← e2] at hlen
      omega
    · have := pw_at up (show i < j by omega) hs hj
      omega
  refine List.mem_of_getElem? (i := j) ?_
  rw [List.getElem?_take_of_lt hij]
  exact hj
end Sm
namespace Sm
open PySem PySem.Spec PyProof.Rows L2

abbrev s_floors_of : Stmt := top 31
def n_floors_of : List Str := ["pieces", "prices", "begin", "line", "at", "late", "first", "found", "state", "rows"]
theorem sc_floors_of : FnScope n_floors_of ["pieces", "prices"] (C8.fnScope s_floors_of) := C8.fnScope_by (by decide +kernel)
section
variable {P : Program} {w : World} {K : PySem.W.Frag} {mg : Str → Option Value} {base : Heap} {f f' : Addr} {fd fd' : FuncData} {C D p g : Addr}
def flo (ps : List Piece) (pr : List Int) (L : List SSt) : List (NK × Int) := L.map fun s => (skey s, val ps pr s)
theorem dget_flo {ps : List Piece} {pr : List Int} {s : SSt} : ∀ {L : List SSt}, s ∈ L → dget (flo ps pr L) (.tup [ikey s.1, okey s.2]) = some (val ps pr s)
  | t :: L, h => by
    unfold dget flo
    rw [List.map_cons]
    by_cases e : t = s
    · subst e
      rw [List.find?_cons_of_pos (by simp [skey])]
      rfl
    · rw [List.find?_cons_of_neg (by simp only [decide_eq_true_eq]; exact fun q => e (skey_inj (b := s) q))]
      exact dget_flo (by
        rcases List.mem_cons.mp h with q | h
        · exact absurd q.symm e
        · exact h)
theorem dget_flo_no {ps : List Piece} {pr : List Int} {s : SSt} : ∀ {L : List SSt}, s ∉ L → dget (flo ps pr L) (.tup [ikey s.1, okey s.2]) = none
  | [], _ => rfl
  | t :: L, h => by
    unfold dget flo
    rw [List.map_cons, List.find?_cons_of_neg (by simpa using fun q => h (by rw [skey_inj (b := s) q]; exact List.mem_cons_self))]
    exact dget_flo_no fun z => h (List.mem_cons_of_mem _ z)
theorem dput_flo {ps : List Piece} {pr : List Int} {s : SSt} {L : List SSt} (h : s ∉ L) : dput (flo ps pr L) (.tup [ikey s.1, okey s.2]) (val ps pr s) = flo ps pr (L ++ [s]) := by
  unfold dput
  rw [dget_flo_no h]
  unfold flo
  rw [List.map_append]
  rfl
theorem steps_rsp {ps : List Piece} {st : SSt} (h1 : st.1.length ≤ 100) (h2 : ∀ i ∈ st.1, 0 ≤ i ∧ i < ps.length) (h3 : ∀ pc ∈ ps, 1 ≤ pc.length) : RSp (spSteps K C) [rSeq K (rTabs K C ps), rSt K st] (rLst K ((stepsOf ps st.1).map (rStep K))) :=
  rsp_F (α := List Piece × SSt) (Rs := fun a => [rSeq K (rTabs K C a.1), rSt K a.2]) (T := fun a => rLst K ((stepsOf a.1 a.2.1).map (rStep K))) (ps, st) ⟨h1, h2, h3⟩
theorem rv_ninD {s : SSt} {L : List SSt} : RV2 (rNotInD K) (rSt K s) (rD K (.list (L.map sdata))) (rD K (.bool (!decide (s ∈ L)))) := fun x y B H c rx ry Q q => by
  have e : (L.map sdata).any (fun z => PyData.eqv z (sdata s)) = decide (s ∈ L) := by
    rw [List.any_map]
    rw [Bool.eq_iff_iff, List.any_eq_true]
    simp only [Function.comp, eqv_st, decide_eq_true_eq]
    exact ⟨fun ⟨z, h1, h2⟩ => h2 ▸ h1, fun h => ⟨s, h, rfl⟩⟩
  exact ⟨sdata s, L.map sdata, dp_mono c _ _ rx, dp_mono c _ _ ry, shaped_st, shaped_sts, by rw [e]; exact q _ B H (Nx.refl c) (rD_bl.mpr rfl)⟩
theorem seal_sts {B : Hp} {a : Addr} {ho : HO} {L : List SSt} (h : B a = some ho) (w : (oL (L.map (rSt K))).p B ho) : (rD K (.list (L.map sdata))).p B (.ref a) := by
  rw [rD_lst, List.map_map]
  exact seal_lst h w
theorem allSt_ok {wd : Nat} {ps : List Piece} {pr : List Int} (hG : Game wd ps pr) {s : SSt} (h : s ∈ allSt ps) : s.1.length ≤ 4 ∧ (∀ i ∈ s.1, 0 ≤ i ∧ i < ps.length) ∧ ∀ r, s.2 = some r → r.length = wd := by
  obtain ⟨h1, h2⟩ := mem_allSt.mp h
  refine ⟨?_, fun i hi => iota_mem.mp (h1.subset hi), fun r hr => ?_⟩
  · have := h1.length_le
    rw [iota_len] at this
    have := hG.n2
    omega
  · rw [hr] at h2
    unfold lasts at h2
    rcases List.mem_cons.mp h2 with e | h2
    · cases e
    · obtain ⟨p, hp, h3⟩ := List.mem_flatMap.mp h2
      have hpc := hG.pc p hp
      have hf : p.headD [] ∈ p := List.mem_of_getElem? (head_at hpc.1)
      have hl : p.getLastD [] ∈ p := List.mem_of_getElem? (last_at hpc.1)
      rcases List.mem_cons.mp h3 with e | h3
      · cases e
        exact (hpc.2 _ hl).1
      · rcases List.mem_cons.mp h3 with e | h3
        · cases e
          exact (hpc.2 _ hf).1
        · cases h3
theorem ev_lenO {Γ : Ctx} {k i : Nat} {a : Addr} {Rs : List Rep} (hk : Γ.o[k]? = some (a, oL Rs)) (hi : Γ.r[i]? = some (some (rV (.ref a)))) : Ev Γ (tCB (rLn K) (tCons (tVar i) tNil)) (rD K (.int Rs.length)) :=
  ev_peek hk hi (R := rLst K Rs) (fun B ho h w => seal_lst h w) flat_int (ev_cb rvs_lenL (ea_cons (ev_var (by
    have hl : i < Γ.r.length := (List.getElem?_eq_some_iff.mp hi).1
    exact List.getElem?_set_self hl)) ea_nil))
abbrev cF (K : PySem.W.Frag) (C : Addr) (ps : List Piece) (pr : List Int) (a : Addr) (k : Nat) (L : List SSt) : Ctx := Ctx.mk [some (rSeq K (rTabs K C ps)), some (rInts K pr), some (rSt K (start0 ps)), some (rV (.ref a)), some (rD K (.int k)), none, none, none, none, none] [(a, oL (L.map (rSt K)))]
def spFloors (P : Program) (w : World) (K : PySem.W.Frag) (C : Addr) : Sp := SpF (α := List Piece × Nat × List Int) (fun a => [rSeq K (rTabs K C a.1), rInts K a.2.2]) (fun a => rEx (Reached a.1) fun L => rDct P w K (flo a.1 a.2.2 L)) (fun a => Game a.2.1 a.1 a.2.2)
theorem ok_floors_of (F : C8.Def K mg "floors_of" s_floors_of f fd) (b : Binds K fd ["pieces", "prices"] []) (T : Txt K mg C D p g) (G_steps_from : C8.Cal P w K mg base 2 "steps_from" (spSteps K C) []) (G_seam : C8.Cal P w K mg base 2 "seam" (spSeam K) []) :
    C8.Cal P w K mg base 3 "floors_of" (spFloors P w K C) [] := by
  refine C8.cal0 F b .nil sc_floors_of (sp_len fun _ => rfl) fun cdv A outer s H vs Q E hr h => ⟨_, (pss_cons (ps_set (i := 2) sc_floors_of.nd rfl (Or.inl rfl) (pe_tup (pa_cons (pe_tupRg rfl (by rfl) T.b.tuple (prg_1 (by rfl) T.b.range (pe_callB (k_len K) (by rfl) T.b.len (by decide +kernel) (pa_cons (pv 0) pa_nil)))) (pa_cons pe_non pa_nil))))
      (pss_cons (ps_par (i := 3) (j := 4) (by rfl) sc_floors_of.nd rfl rfl (by decide) rfl rfl (pa_cons (pe_lst (pa_cons (pv 2) pa_nil)) (pa_cons pe_int pa_nil)) (by rfl))
      (pss_cons (ps_while PassesOwn.never (pt_cmpR op_lt (pv 4) (pe_callB (k_len K) (by rfl) T.b.len (by decide +kernel) (pa_cons (pv 3) pa_nil)) (nomark _)) (pss_cons (ps_for PassesOwn.never rfl (k_sq K (C8.pe_c G_steps_from hr (by decide) (by rfl) (pa_cons (pv 0) (pa_cons (k_ix K (pv 3) (pv 4) (fun _ _ => rfl)) pa_nil)))) (k_tup K (n := 2) rfl (pgs_cons (pg_name (i := 5) sc_floors_of.nd rfl (Or.inl rfl)) (pgs_cons (pg_name (i := 6) sc_floors_of.nd rfl (Or.inl rfl)) pgs_nil))) (pss_one (ps_if (pt_cmpR (k_ninD K (room65 hr)) (pv 5) (pv 3) rfl) (pss_one (ps_expr (k_append K (pv 3) (pa_cons (pv 5) pa_nil)))) pss_nil)))
      (pss_one (ps_aug (i := 4) sc_floors_of.nd rfl (Or.inl rfl) pe_int ip_add))))
      (pss_cons (ps_set (i := 7) sc_floors_of.nd rfl (Or.inr rfl) (d_new P w K))
      (pss_cons (ps_for PassesOwn.never rfl (k_sq K (k_revL K (pv 3))) (pg_name (i := 8) sc_floors_of.nd rfl (Or.inr rfl)) (pss_cons (ps_setLc (i := 9) rfl sc_floors_of.nd rfl rfl (sw_true rfl rfl rfl (by decide +kernel)) (own := [("late", 5), ("first", 6)]) (k_sq K (C8.pe_c G_steps_from hr (by decide) (by rfl) (pa_cons (pv 0) (pa_cons (pv 8) pa_nil)))) (blkOk_by (N := n_floors_of) (sc := C8.fnScope s_floors_of) (by decide +kernel)) (fun _ _ _ _ _ => (k_tup K (n := 2) rfl (pgs_cons (pg_name (i := 5) sc_floors_of.nd rfl (Or.inl rfl)) (pgs_cons (pg_name (i := 6) sc_floors_of.nd rfl (Or.inl rfl)) pgs_nil)))) (fun _ _ _ _ _ => pts_nil) (fun _ _ _ _ _ => (pe_op op_add (d_ix P w K hr.units (pv 7) (pv 5)) (C8.pe_c G_seam hr (by decide) (by rfl) (pa_cons (k_ix K (pv 8) pe_int (fun _ _ => rfl)) (pa_cons (pv 6) (pa_cons (pv 1) pa_nil)))))))
      (pss_one (ps_asg (pe_ifExp (pt_cmpR (k_neD K hr.units) (pv 9) (pe_lst pa_nil) (nomark _)) (pe_callB (k_min K rfl) (by rfl) T.b.min (by decide +kernel) (pa_cons (pv 9) pa_nil)) pe_int) (pg_sub (pv 7) (pv 8) (d_set P w K hr.units))))))
      (pss_one (ps_ret (pv 7)))))))), sp_run (N := n_floors_of) ?_ h⟩
  rintro ⟨ps, wd, pr⟩ (hG : Game wd ps pr) B0 H0 Q q
  have n2 := hG.n2
  have hpc : ∀ pc ∈ ps, 1 ≤ pc.length := fun pc h => (hG.pc pc h).1
  refine gx_seq (gx_set (R := rSt K (start0 ps)) (ev_st (ev_tup (ea_cons (ev_tupRg (n := ps.length) (by omega) ((ev_cb rvs_len (ea_cons (ev_var rfl) ea_nil)).eq (by rw [List.length_map]))) (ea_cons ev_non ea_nil)) (by simp))) ?_)
  refine gx_seq (gx_par (gt_own (W := oL [rSt K (start0 ps)]) (eo_lst (ea_cons (ev_var rfl) ea_nil) (by simp)) fun a ha => gt_cons (R := rD K (.int (0 : Nat))) ev_int (gt_two ?_)))
  refine gx_seq (gx_while (fun m Γ => ∃ L k, Bfs ps k 0 L ∧ m = 200 - k ∧ Γ = cF K C ps pr a k L) 200 ⟨[start0 ps], 0, bfs_start, rfl, rfl⟩ ?_)
  rintro m Γm ⟨L, k, hB, hm, rfl⟩
  have hL := hB.len n2
  refine ⟨decide (k < L.length), EvT.eq (et_cmp (ev_op rv_I0b (ev_var rfl) (ev_lenO (k := 0) (a := a) rfl rfl))) (by simp), fun e N hN => ?_, fun e => ?_⟩
  · have hk : k < L.length := of_decide_eq_true e
    have hs : L[k]? = some L[k] := List.getElem?_eq_getElem hk
    generalize L[k] = s at hs
    have hsa := hB.all s (List.mem_of_getElem? hs)
    obtain ⟨ok1, ok2, ok3⟩ := allSt_ok hG hsa
    refine gx_seq (gx_for (ei_sq (ev_sqL (ev_call rfl (steps_rsp (st := s) (by omega) ok2 hpc) (ea_cons (ev_var rfl) (ea_cons (ev_ixO (k := 0) (a := a) (n := k) rfl rfl (ev_var rfl) (ixN_nat (by rw [List.length_map]; exact hk)) (by rw [List.getElem?_map, hs] <;> rfl)) ea_nil)))))
      (fun i Γ => ∃ L', Bfs ps k 1 L' ∧ L'[k]? = some s ∧ (∀ q ∈ (stepsOf ps s.1).take i, q.1 ∈ L') ∧ Γ = cF K C ps pr a k L') ⟨L, hB.go, hs, fun q hq => by simp at hq, rfl⟩ ?_ ?_)
    · rintro B1 H1 nx i Γi R hR ⟨L', hB', hs', hq', rfl⟩
      obtain ⟨qq, hqq, rfl⟩ := map_at hR
      have hL' := hB'.len n2
      have hmem := List.mem_of_getElem? hqq
      have htake : (stepsOf ps s.1).take (i + 1) = (stepsOf ps s.1).take i ++ [qq] := by rw [List.take_add_one, hqq] <;> rfl
      refine ⟨_, eg_tup2, fun N2 hN2 => gx_if (b := !decide (qq.1 ∈ L')) (et_cmp (ev_peek (k := 0) (i := 3) (a := a) rfl rfl (fun B ho h w => seal_sts h w) flat_bool (ev_op rv_ninD (ev_var rfl) (ev_var rfl)))) (fun e => ?_) fun e => ?_⟩
      · have hni : qq.1 ∉ L' := by simpa using e
        refine gx_append (R := rSt K qq.1) (k := 0) (a := a) rfl ha rfl (by rw [List.length_map]; omega) (ea_cons (ev_var rfl) ea_nil) ?_
        refine gx_drop_slot 5 (gx_drop_slot 6 (gx_as (Γ' := cF K C ps pr a k (L' ++ [qq.1])) (by simp [cF]) (hN2 _ ⟨L' ++ [qq.1], hB'.add hs' (step_all hsa hmem).1 (step_all hsa hmem).2 hni, at_app hs', fun q hq => ?_, rfl⟩)))
        rw [htake] at hq
        rcases List.mem_append.mp hq with hq | hq
        · exact List.mem_append_left _ (hq' q hq)
        · rw [List.mem_singleton.mp hq]
          exact List.mem_append_right _ List.mem_cons_self
      · have hi : qq.1 ∈ L' := by simpa using e
        refine gx_next (gx_drop_slot 5 (gx_drop_slot 6 (hN2 _ ⟨L', hB', hs', fun q hq => ?_, rfl⟩)))
        rw [htake] at hq
        rcases List.mem_append.mp hq with hq | hq
        · exact hq' q hq
        · rw [List.mem_singleton.mp hq]
          exact hi
    · rintro Γn ⟨L', hB', hs', hq', rfl⟩
      rw [List.length_map, List.take_length] at hq'
      exact gx_augI (i := 4) rfl ev_int (hN (200 - (k + 1)) _ (by omega) ⟨L', k + 1, hB'.next hs' hq', rfl, rfl⟩)
  · have hk : k = L.length := by
      have := hB.hk
      have : ¬ k < L.length := of_decide_eq_false e
      omega
    refine gx_seq (gx_dnew fun d hd => ?_)
    dsimp only
    refine gx_seq (gx_forE (fun i => Ctx.mk [some (rSeq K (rTabs K C ps)), some (rInts K pr), some (rSt K (start0 ps)), some (rV (.ref a)), some (rD K (.int k)), none, none, some (rV (.ref d)), none, none]
      [(d, oDct P w K d (flo ps pr (L.reverse.take i))), (a, oL (L.map (rSt K)))]) ?_ (Rs := L.reverse.map (rSt K)) ?_ (fun B1 H1 nx i R hR => ?_) ?_)
    · simp [cF, flo]
    · have z := ei_sq (ev_sqL (ev_revO (K := K) (Γ := Ctx.mk [some (rSeq K (rTabs K C ps)), some (rInts K pr), some (rSt K (start0 ps)), some (rV (.ref a)), some (rD K (.int k)), none, none, some (rV (.ref d)), none, none] [(d, oDct P w K d (flo ps pr [])), (a, oL (L.map (rSt K)))]) (k := 1) (i := 3) (a := a) rfl rfl))
      rw [← List.map_reverse] at z
      exact z
    · obtain ⟨s, hs, rfl⟩ := map_at hR
      have hsa := hB.all s (List.mem_reverse.mp (List.mem_of_getElem? hs))
      obtain ⟨ok1, ok2, ok3⟩ := allSt_ok hG hsa
      have hbef : ∀ q ∈ stepsOf ps s.1, q.1 ∈ L.reverse.take i := fun q hq => hB.before hk hs hq
      have hsn : s.1.Nodup := (mem_allSt.mp hsa).1.nodup iota_nodup
      have hstl : (stepsOf ps s.1).length ≤ 100000 := by
        unfold stepsOf
        rw [steps_len]
        omega
      refine ⟨_, eg_name, fun N hN => ?_⟩
      refine gx_seq (gx_set (R := rLst K (((stepsOf ps s.1).map fun q => val ps pr q.1 + seamF s.2 q.2 pr).map fun n => rD K (.int n))) (ev_lcF (f := fun q : SSt × List Int => val ps pr q.1 + seamF s.2 q.2 pr) (G := fun n => rD K (.int n)) (stepsOf ps s.1) hstl
        (ei_sq (ev_sqL (ev_call rfl (steps_rsp (st := s) (by omega) ok2 hpc) (ea_cons (ev_var rfl) (ea_cons (ev_var rfl) ea_nil))))) (si_tup2 (by decide) (by decide)) fun q hq => ⟨_, eg_tup2, ?_⟩) ?_)
      · refine ev_op rv_I0 (ev_peek (k := 0) (i := 7) (a := d) rfl rfl (fun B ho h w => seal_dct h w) flat_int (ev_op (rv_dget (ks := [ikey q.1.1, okey q.1.2]) (skey_dep _) (dget_flo (hbef q hq))) (ev_var rfl) (ev_key (ev_var rfl)))) ?_
        exact ev_call rfl (seam_rsp fun r hr => by have := ok3 r hr; have := hG.w2; omega) (ea_cons (ev_op (rv_xT (j := 1) rfl rfl) (ev_unst (ev_var rfl)) ev_int) (ea_cons (ev_var rfl) (ea_cons (ev_var rfl) ea_nil)))
      · have hnew : s ∉ L.reverse.take i := fun hm => by
          have nd := (hB.done hk).nd
          obtain ⟨j, hj⟩ := List.mem_iff_getElem?.mp hm
          have hjl := (List.getElem?_eq_some_iff.mp hj).1
          rw [List.length_take] at hjl
          rw [List.getElem?_take_of_lt (by omega)] at hj
          exact pw_at nd (show j < i by omega) hj hs rfl
        dsimp only
        refine gx_dset (k := 0) (i := 7) (a := d) (ks := [ikey s.1, okey s.2]) (n := val ps pr s) rfl hd rfl ?_ ?_ (skey_dep _) ?_ ?_
        · refine ev_if (b := !decide ((stepsOf ps s.1).map (fun q => val ps pr q.1 + seamF s.2 q.2 pr) = [])) (et_cmp (ev_op rv_neL (ev_var rfl) (ev_lst ea_nil (by simp)))) (fun e => ?_) fun e => ?_
          · have hne : (stepsOf ps s.1).map (fun q => val ps pr q.1 + seamF s.2 q.2 pr) ≠ [] := by simpa using e
            have h0 : s.1 ≠ [] := fun e => hne (by rw [e]; rfl)
            rw [val_step hsn h0]
            exact ev_cb (rvs_min (List.length_pos_iff.mpr hne) fun z h1 h2 => minL_is h1 h2) (ea_cons (ev_var rfl) ea_nil)
          · have h0 : s.1 = [] := by
              have e2 : (stepsOf ps s.1).map (fun q => val ps pr q.1 + seamF s.2 q.2 pr) = [] := by simpa using e
              have e3 := List.map_eq_nil_iff.mp e2
              cases hs1 : s.1 with
              | nil => rfl
              | cons x l =>
                rw [hs1] at e3
                unfold stepsOf at e3
                rw [List.flatMap_cons] at e3
                cases e3
            have hv : val ps pr s = 0 := by
              unfold val
              rw [h0]
              rfl
            rw [hv]
            exact ev_int
        · exact ev_key (ev_var rfl)
        · unfold flo
          rw [List.length_map, List.length_take, List.length_reverse]
          omega
        · rw [dput_flo hnew]
          have htake : L.reverse.take (i + 1) = L.reverse.take i ++ [s] := by rw [List.take_add_one, hs] <;> rfl
          rw [htake] at hN
          exact gx_drop_slot 8 (gx_drop_slot 9 hN)
    · rw [List.length_map, List.take_length]
      refine gx_seal (k := 0) (i := 7) rfl hd rfl (R := rDct P w K (flo ps pr L.reverse)) (fun B ho h w => seal_dct h w) ?_
      exact gx_ret (ev_exI (hB.done hk) (ev_var rfl)) q
end
end Sm
namespace Sm
open PySem PySem.Spec PyProof.Rows L2
/-! ### no two keys that come here hash alike -/
def hT (ns : List Int) : Int := reduceHash (Builtin.Tuple.tupleHashOf (ns.map hashInt))
def hO : Option (List Int) → Int
  | none => reduceHash 0xFCA86420
  | some r => hT r
def hS (s : SSt) : Int := reduceHash (Builtin.Tuple.tupleHashOf [hT s.1, hO s.2])
theorem hashes_ints {w : World} : ∀ ns : List Int, NestedKey.hashes w (ns.map NestedKey.num) = ns.map hashInt
  | [] => rfl
  | n :: ns => by rw [List.map_cons, List.map_cons, NestedKey.hashes, hashes_ints ns]; rfl
theorem hash_ikey {w : World} (ns : List Int) : (ikey ns).hash w = hT ns := by
  show reduceHash (Builtin.Tuple.tupleHashOf (NestedKey.hashes w (ns.map NestedKey.num))) = hT ns
  rw [hashes_ints]
  rfl
theorem hash_skey {P : Program} {w : World} (s : SSt) : (nestedKind P w).hash (skey s) = hS s := by
  show reduceHash (Builtin.Tuple.tupleHashOf [(ikey s.1).hash w, (okey s.2).hash w]) = hS s
  rw [hash_ikey]
  cases h : s.2 with
  | none => unfold hS; rw [h]; rfl
  | some r =>
    show reduceHash (Builtin.Tuple.tupleHashOf [hT s.1, (ikey r).hash w]) = hS s
    rw [hash_ikey]
    unfold hS
    rw [h]
    rfl
/-- rows of so many values 0, 1, 2 -/
def rowsU : Nat → List (List Int)
  | 0 => [[]]
  | n + 1 => (rowsU n).flatMap fun r => [0 :: r, 1 :: r, 2 :: r]
theorem mem_rowsU : ∀ {n : Nat} {r : List Int}, r.length = n → (∀ v ∈ r, 0 ≤ v ∧ v ≤ 2) → r ∈ rowsU n
  | 0, r, h, _ => by rw [List.length_eq_zero_iff.mp h]; exact List.mem_cons_self
  | n + 1, [], h, _ => by cases h
  | n + 1, a :: r, h, hv => by
    have ih := mem_rowsU (n := n) (r := r) (by simpa using h) fun v hm => hv v (List.mem_cons_of_mem _ hm)
    obtain ⟨h0, h2⟩ := hv a List.mem_cons_self
    unfold rowsU
    refine List.mem_flatMap.mpr ⟨r, ih, ?_⟩
    have : a = 0 ∨ a = 1 ∨ a = 2 := by omega
    rcases this with e | e | e <;> subst e <;> simp
/-- the first parts of keys: sublists of 0 .. 3, and what the law bends in -/
def leftsU : List (List Int) := subs [0, 1, 2, 3] ++ [[4], [0, 0], [0, 1, 0], [0, 1, 2, 0], [0, 1, 2, 3, 0]]
def lastsU : List (Option (List Int)) := none :: (rowsU 1 ++ rowsU 2 ++ rowsU 3).map some
def keysU : List SSt := leftsU.flatMap fun l => lastsU.map fun o => (l, o)
/-! a search tree: none where the number is there already -/
inductive Tr where
  | lf
  | nd (l : Tr) (k : Nat) (r : Tr)
def Tr.ins (x : Nat) : Tr → Option Tr
  | .lf => some (.nd .lf x .lf)
  | .nd l k r => match Nat.blt x k with
    | true => (l.ins x).map fun l' => .nd l' k r
    | false => match Nat.blt k x with
      | true => (r.ins x).map fun r' => .nd l k r'
      | false => none
def Tr.has (y : Nat) : Tr → Bool
  | .lf => false
  | .nd l k r => match Nat.blt y k with
    | true => l.has y
    | false => match Nat.blt k y with
      | true => r.has y
      | false => true
def newAll : List Nat → Tr → Bool
  | [], _ => true
  | x :: xs, t => match t.ins x with
    | none => false
    | some t' => newAll xs t'
theorem ins_has {x : Nat} : ∀ {t t' : Tr}, t.ins x = some t' → t.has x = false ∧ t'.has x = true ∧ ∀ y, t.has y = true → t'.has y = true
  | .lf, t', h => by
    cases h
    refine ⟨rfl, ?_, fun y h => by cases h⟩
    have e : Nat.blt x x = false := by
      cases h : Nat.blt x x with
      | false => rfl
      | true => exact absurd (Nat.blt_eq.mp h) (Nat.lt_irrefl x)
    unfold Tr.has
    rw [e]
  | .nd l k r, t', h => by
    unfold Tr.ins at h
    cases h1 : Nat.blt x k with
    | true =>
      rw [h1] at h
      obtain ⟨l', e1, rfl⟩ := Option.map_eq_some_iff.mp h
      obtain ⟨i1, i2, i3⟩ := ins_has e1
      refine ⟨by unfold Tr.has; rw [h1]; exact i1, by unfold Tr.has; rw [h1]; exact i2, fun y hy => ?_⟩
      unfold Tr.has at hy ⊢
      cases h2 : Nat.blt y k with
      | true => rw [h2] at hy; exact i3 y hy
      | false => rw [h2] at hy; exact hy
    | false =>
      rw [h1] at h
      cases h3 : Nat.blt k x with
      | true =>
        rw [h3] at h
        obtain ⟨r', e1, rfl⟩ := Option.map_eq_some_iff.mp h
        obtain ⟨i1, i2, i3⟩ := ins_has e1
        refine ⟨by unfold Tr.has; rw [h1, h3]; exact i1, by unfold Tr.has; rw [h1, h3]; exact i2, fun y hy => ?_⟩
        unfold Tr.has at hy ⊢
        cases h2 : Nat.blt y k with
        | true => rw [h2] at hy; exact hy
        | false =>
          rw [h2] at hy
          cases h4 : Nat.blt k y with
          | true => rw [h4] at hy; exact i3 y hy
          | false => rfl
      | false => rw [h3] at h; cases h
theorem newAll_nd : ∀ {l : List Nat} {t : Tr}, newAll l t = true → l.Nodup ∧ ∀ x ∈ l, t.has x = false
  | [], _, _ => ⟨List.nodup_nil, fun _ h => nomatch h⟩
  | x :: xs, t, h => by
    unfold newAll at h
    cases hi : t.ins x with
    | none => rw [hi] at h; cases h
    | some t' =>
      rw [hi] at h
      obtain ⟨i1, i2, i3⟩ := ins_has hi
      obtain ⟨n1, n2⟩ := newAll_nd h
      refine ⟨List.nodup_cons.mpr ⟨fun hm => ?_, n1⟩, fun y hy => ?_⟩
      · have := n2 x hm
        rw [i2] at this
        cases this
      · rcases List.mem_cons.mp hy with e | hy
        · subst e; exact i1
        · cases hq : t.has y with
          | false => rfl
          | true =>
            have := i3 y hq
            rw [n2 y hy] at this
            cases this
def toN (h : Int) : Nat := (h + 9223372036854775808).toNat
theorem keysU_new : newAll (keysU.map fun s => toN (hS s)) .lf = true := by decide +kernel
theorem keysU_nd : (keysU.map fun s => toN (hS s)).Nodup := (newAll_nd keysU_new).1
theorem nd_inj {α β : Type} {f : α → β} : ∀ {l : List α}, (l.map f).Nodup → ∀ {a b : α}, a ∈ l → b ∈ l → f a = f b → a = b
  | x :: l, h, a, b, ha, hb, e => by
    rw [List.map_cons] at h
    obtain ⟨h1, h2⟩ := List.nodup_cons.mp h
    rcases List.mem_cons.mp ha with ea | ha
    · rcases List.mem_cons.mp hb with eb | hb
      · rw [ea, eb]
      · rw [ea] at e
        exact absurd (List.mem_map.mpr ⟨b, hb, e.symm⟩) h1
    · rcases List.mem_cons.mp hb with eb | hb
      · rw [eb] at e
        exact absurd (List.mem_map.mpr ⟨a, ha, e⟩) h1
      · exact nd_inj h2 ha hb e
theorem nd_map {α β : Type} {f : α → β} : ∀ {l : List α}, l.Nodup → (∀ a b, a ∈ l → b ∈ l → f a = f b → a = b) → (l.map f).Nodup
  | [], _, _ => List.nodup_nil
  | x :: l, h, g => by
    obtain ⟨h1, h2⟩ := List.nodup_cons.mp h
    rw [List.map_cons]
    refine List.nodup_cons.mpr ⟨fun hm => ?_, nd_map h2 fun a b ha hb e => g a b (List.mem_cons_of_mem _ ha) (List.mem_cons_of_mem _ hb) e⟩
    obtain ⟨y, hy, e⟩ := List.mem_map.mp hm
    exact h1 (g y x (List.mem_cons_of_mem _ hy) List.mem_cons_self e ▸ hy)
/-- floors by states -/
abbrev Fl := List (SSt × Int)
def kv (fl : Fl) : List (NK × Int) := fl.map fun x => (skey x.1, x.2)
def getS (fl : Fl) (s : SSt) : Option Int := dget (kv fl) (.tup [ikey s.1, okey s.2])
/-- floors as they come: no key twice, all among the keys that are looked at here -/
structure FlOk (fl : Fl) : Prop where
  nd : (fl.map (·.1)).Nodup
  ku : ∀ x ∈ fl, x.1 ∈ keysU
theorem hS_inj {s t : SSt} (hs : s ∈ keysU) (ht : t ∈ keysU) (e : hS s = hS t) : s = t := nd_inj (f := fun s => toN (hS s)) keysU_nd hs ht (congrArg toN e)
theorem kv_hash {P : Program} {w : World} : ∀ {fl : Fl}, ((kv fl).map fun x => (nestedKind P w).hash x.1) = (fl.map (·.1)).map hS
  | [] => rfl
  | x :: fl => by
    have ih := kv_hash (P := P) (w := w) (fl := fl)
    have h := hash_skey (P := P) (w := w) x.1
    unfold kv at ih ⊢
    rw [List.map_cons, List.map_cons, List.map_cons, List.map_cons, ih]
    simp only [h]
theorem FlOk.hash {P : Program} {w : World} {fl : Fl} (h : FlOk fl) : ((kv fl).map fun x => (nestedKind P w).hash x.1).Nodup := by
  rw [kv_hash]
  refine nd_map h.nd fun a b ha hb e => ?_
  obtain ⟨x, hx, e1⟩ := List.mem_map.mp ha
  obtain ⟨y, hy, e2⟩ := List.mem_map.mp hb
  exact hS_inj (e1 ▸ h.ku x hx) (e2 ▸ h.ku y hy) e
theorem keysU_len : keysU.length ≤ 1000 := by
  have e : ∀ l : List (List Int), (l.flatMap fun l => lastsU.map fun o => (l, o)).length = l.length * lastsU.length := fun l => by
    induction l with
    | nil => simp
    | cons a l ih => rw [List.flatMap_cons, List.length_append, ih, List.length_map, List.length_cons, Nat.succ_mul]; omega
  have h1 : leftsU.length = 21 := rfl
  have h2 : lastsU.length = 40 := rfl
  unfold keysU
  rw [e, h1, h2]
  decide
theorem FlOk.len {fl : Fl} (h : FlOk fl) : fl.length ≤ 1000 := by
  have := nodup_le h.nd fun s hs => by
    obtain ⟨x, hx, rfl⟩ := List.mem_map.mp hs
    exact h.ku x hx
  rw [List.length_map] at this
  exact Nat.le_trans this keysU_len
theorem getS_mem {s : SSt} {n : Int} : ∀ {fl : Fl}, (fl.map (·.1)).Nodup → (s, n) ∈ fl → getS fl s = some n
  | x :: fl, h, hm => by
    rw [List.map_cons] at h
    obtain ⟨h1, h2⟩ := List.nodup_cons.mp h
    unfold getS kv dget
    rw [List.map_cons]
    rcases List.mem_cons.mp hm with e | hm
    · rw [← e, List.find?_cons_of_pos (by simp [skey])]
      rfl
    · have : x.1 ≠ s := fun e => h1 (List.mem_map.mpr ⟨(s, n), hm, e.symm⟩)
      rw [List.find?_cons_of_neg (by simp only [decide_eq_true_eq]; exact fun q => this (skey_inj (b := s) q))]
      exact getS_mem h2 hm
theorem iota4 {n : Nat} (h : n ≤ 4) : (iota n).Sublist [0, 1, 2, 3] := by
  have : n = 0 ∨ n = 1 ∨ n = 2 ∨ n = 3 ∨ n = 4 := by omega
  rcases this with e | e | e | e | e <;> subst e <;> decide
theorem last_U {wd : Nat} {r : List Int} (w1 : 1 ≤ wd) (w2 : wd ≤ 3) (h : Row 2 wd r) : some r ∈ lastsU := by
  unfold lastsU
  refine List.mem_cons_of_mem _ (List.mem_map.mpr ⟨r, ?_, rfl⟩)
  have hm := mem_rowsU h.1 h.2
  have : wd = 1 ∨ wd = 2 ∨ wd = 3 := by omega
  rcases this with e | e | e <;> subst e
  · exact List.mem_append_left _ (List.mem_append_left _ hm)
  · exact List.mem_append_left _ (List.mem_append_right _ hm)
  · exact List.mem_append_right _ hm
theorem key_U {l : List Int} {o : Option (List Int)} (h1 : l ∈ leftsU) (h2 : o ∈ lastsU) : (l, o) ∈ keysU := List.mem_flatMap.mpr ⟨l, h1, List.mem_map.mpr ⟨o, h2, rfl⟩⟩
theorem ends_row {wd : Nat} {ps : List Piece} {pr : List Int} (hG : Game wd ps pr) {p : Piece} (hp : p ∈ ps) (b : Bool) : Row 2 wd (ends p b).1 ∧ Row 2 wd (ends p b).2 := by
  have hpc := hG.pc p hp
  have hf := hpc.2 _ (List.mem_of_getElem? (head_at (d := []) hpc.1))
  have hl := hpc.2 _ (List.mem_of_getElem? (last_at (d := []) hpc.1))
  cases b
  · exact ⟨hf, hl⟩
  · exact ⟨hl, hf⟩
theorem lasts_row {wd : Nat} {ps : List Piece} {pr : List Int} (hG : Game wd ps pr) {r : List Int} (h : some r ∈ lasts ps) : Row 2 wd r := by
  unfold lasts at h
  rcases List.mem_cons.mp h with e | h
  · cases e
  · obtain ⟨p, hp, h3⟩ := List.mem_flatMap.mp h
    rcases List.mem_cons.mp h3 with e | h3
    · cases e; exact (ends_row hG hp false).2
    · rcases List.mem_cons.mp h3 with e | h3
      · cases e; exact (ends_row hG hp true).2
      · cases h3
theorem all_U {wd : Nat} {ps : List Piece} {pr : List Int} (hG : Game wd ps pr) {s : SSt} (h : s ∈ allSt ps) : s ∈ keysU := by
  obtain ⟨h1, h2⟩ := mem_allSt.mp h
  refine key_U (List.mem_append_left _ (mem_subs (h1.trans (iota4 hG.n2)))) ?_
  cases hs : s.2 with
  | none => exact List.mem_cons_self
  | some r =>
    rw [hs] at h2
    exact last_U hG.w1 hG.w2 (lasts_row hG h2)
/-- the floors of a search -/
def flOf (ps : List Piece) (pr : List Int) (L : List SSt) : Fl := L.map fun s => (s, val ps pr s)
theorem kv_flOf {ps : List Piece} {pr : List Int} {L : List SSt} : kv (flOf ps pr L) = flo ps pr L := by unfold kv flOf flo; rw [List.map_map]; rfl
theorem flOf_ok {wd : Nat} {ps : List Piece} {pr : List Int} {L : List SSt} (hG : Game wd ps pr) (h : Reached ps L) : FlOk (flOf ps pr L) := by
  refine ⟨?_, fun x hx => ?_⟩
  · unfold flOf
    rw [List.map_map, show ((·.1) ∘ fun s : SSt => (s, val ps pr s)) = id from rfl, List.map_id]
    exact h.nd
  · obtain ⟨s, hs, rfl⟩ := List.mem_map.mp hx
    exact all_U hG (h.all s hs)
theorem getS_flOf {ps : List Piece} {pr : List Int} {L : List SSt} {s : SSt} (h : s ∈ L) : getS (flOf ps pr L) s = some (val ps pr s) := by
  unfold getS
  rw [kv_flOf]
  exact dget_flo h
end Sm
namespace Sm
open PySem PySem.Spec PyProof.Rows L2

abbrev s_least_seams : Stmt := top 35
def n_least_seams : List Str := ["pieces", "prices"]
theorem sc_least_seams : FnScope n_least_seams ["pieces", "prices"] (C8.fnScope s_least_seams) := C8.fnScope_by (by decide +kernel)
abbrev s_Seamed___init__ : Stmt := (C8.clsBody (top 33)).getD 0 (.Pass ⟨0, 0, 0, 0⟩)
def n_Seamed___init__ : List Str := ["self", "plan", "floors"]
theorem sc_Seamed___init__ : FnScope n_Seamed___init__ ["self", "plan", "floors"] (C8.fnScope s_Seamed___init__) := C8.fnScope_by (by decide +kernel)
abbrev s_Seamed_shows : Stmt := (C8.clsBody (top 33)).getD 2 (.Pass ⟨0, 0, 0, 0⟩)
def n_Seamed_shows : List Str := ["self", "pieces", "prices", "begin", "state"]
theorem sc_Seamed_shows : FnScope n_Seamed_shows ["self", "pieces", "prices"] (C8.fnScope s_Seamed_shows) := C8.fnScope_by (by decide +kernel)
abbrev s_Seamed_is_floor : Stmt := (C8.clsBody (top 33)).getD 3 (.Pass ⟨0, 0, 0, 0⟩)
def n_Seamed_is_floor : List Str := ["self", "pieces", "prices", "state", "left", "last", "late", "first", "index"]
theorem sc_Seamed_is_floor : FnScope n_Seamed_is_floor ["self", "pieces", "prices", "state"] (C8.fnScope s_Seamed_is_floor) := C8.fnScope_by (by decide +kernel)
section
variable {P : Program} {w : World} {K : PySem.W.Frag} {mg : Str → Option Value} {base : Heap} {f f' : Addr} {fd fd' : FuncData} {C D p g : Addr}
theorem checkS_rsp {ps : List Piece} {pr : List Int} {wd : Nat} (hG : Game wd ps pr) : RSp (spCheckS K C) [rSeq K (rTabs K C ps), rInts K pr] (rD K .none) := rsp_F (α := List Piece × Nat × List Int) (Rs := fun a => [rSeq K (rTabs K C a.1), rInts K a.2.2]) (T := fun _ => rD K .none) (ps, wd, pr) hG
theorem floors_rsp {ps : List Piece} {pr : List Int} {wd : Nat} (hG : Game wd ps pr) : RSp (spFloors P w K C) [rSeq K (rTabs K C ps), rInts K pr] (rEx (Reached ps) fun L => rDct P w K (flo ps pr L)) :=
  rsp_F (α := List Piece × Nat × List Int) (Rs := fun a => [rSeq K (rTabs K C a.1), rInts K a.2.2]) (T := fun a => rEx (Reached a.1) fun L => rDct P w K (flo a.1 a.2.2 L)) (ps, wd, pr) hG
def spLeast (K : PySem.W.Frag) (C : Addr) : Sp := SpF (α := List Piece × Nat × List Int) (fun a => [rSeq K (rTabs K C a.1), rInts K a.2.2]) (fun a => rD K (.int (val a.1 a.2.2 (start0 a.1)))) (fun a => Game a.2.1 a.1 a.2.2)
theorem ok_least_seams (F : C8.Def K mg "least_seams" s_least_seams f fd) (b : Binds K fd ["pieces", "prices"] []) (T : Txt K mg C D p g) (G_check_pieces : C8.Cal P w K mg base 3 "check_pieces" (spCheckS K C) []) (G_floors_of : C8.Cal P w K mg base 3 "floors_of" (spFloors P w K C) []) :
    C8.Cal P w K mg base 4 "least_seams" (spLeast K C) [] := by
  refine C8.cal0 F b .nil sc_least_seams (sp_len fun _ => rfl) fun cdv A outer s H vs Q E hr h => ⟨_, (pss_cons (ps_expr (C8.pe_c G_check_pieces hr (by decide) (by rfl) (pa_cons (pv 0) (pa_cons (pv 1) pa_nil))))
      (pss_one (ps_ret (d_ix P w K hr.units (C8.pe_c G_floors_of hr (by decide) (by rfl) (pa_cons (pv 0) (pa_cons (pv 1) pa_nil))) (pe_tup (pa_cons (pe_tupRg rfl (by rfl) T.b.tuple (prg_1 (by rfl) T.b.range (pe_callB (k_len K) (by rfl) T.b.len (by decide +kernel) (pa_cons (pv 0) pa_nil)))) (pa_cons pe_non pa_nil))))))), sp_run (N := n_least_seams) ?_ h⟩
  rintro ⟨ps, wd, pr⟩ (hG : Game wd ps pr) B0 H0 Q q
  have n2 := hG.n2
  refine gx_seq (gx_drop (ev_call rfl (checkS_rsp hG) (ea_cons (ev_var rfl) (ea_cons (ev_var rfl) ea_nil))) ?_)
  exact gx_ret (ev_op (rv_exL fun L hL => rv_dget (ks := [ikey (start0 ps).1, okey (start0 ps).2]) (skey_dep _) (dget_flo hL.fst)) (ev_call rfl (floors_rsp hG) (ea_cons (ev_var rfl) (ea_cons (ev_var rfl) ea_nil)))
    (ev_key (ev_st (ev_tup (ea_cons (ev_tupRg (n := ps.length) (by omega) ((ev_cb rvs_len (ea_cons (ev_var rfl) ea_nil)).eq (by rw [List.length_map]))) (ea_cons ev_non ea_nil)) (by simp))))) q
abbrev rSeamed (P : Program) (w : World) (K : PySem.W.Frag) (D : Addr) (pl : Plan) (fl : Fl) : Rep := rIns D [("plan", rPlan K pl), ("floors", rDct P w K (kv fl))]
def spSeamed (P : Program) (w : World) (K : PySem.W.Frag) (D : Addr) : Sp := SpI (α := Plan × Fl) D (fun a => [rPlan K a.1, rDct P w K (kv a.2)]) (fun a => rSeamed P w K D a.1 a.2) (fun a => FlOk a.2)
theorem fp : (("floors" : Str) == ("plan" : Str)) = false := by decide +kernel
theorem pp0 : (("plan" : Str) == ("plan" : Str)) = true := by decide +kernel
theorem ff : (("floors" : Str) == ("floors" : Str)) = true := by decide +kernel
theorem no_floors {R : Rep} : ([] ++ [(("plan" : Str), R)]).lookup ("floors" : Str) = none := by
  rw [List.nil_append, List.lookup_cons, fp]
  rfl
theorem at_plan {R S : Rep} : [(("plan" : Str), R), (("floors" : Str), S)].lookup ("plan" : Str) = some R := by rw [List.lookup_cons, pp0] <;> rfl
theorem at_floors {R S : Rep} : [(("plan" : Str), R), (("floors" : Str), S)].lookup ("floors" : Str) = some S := by rw [List.lookup_cons, fp]; show List.lookup _ _ = _; rw [List.lookup_cons, ff] <;> rfl
theorem ok_Seamed (M : Mk K D f) (hm : mg "Seamed" = some (.ref D)) (F : C8.Fun K "__init__" "Seamed.__init__" s_Seamed___init__ f fd) (b : Binds K fd ["self", "plan", "floors"] []) (T : Txt K mg C D p g) : C8.Mak P w K mg base 1 "Seamed" D (spSeamed P w K D) [] := by
  refine C8.mak0 M hm F b .nil sc_Seamed___init__ (spI_len fun _ => rfl) fun cdv A outer s H vs Q E hr h => ⟨_, (pss_cons (k_setF K (pv 0) (pe_callTy (k_listOf K) (by rfl) T.b.list (by decide +kernel) (pa_cons (pv 1) pa_nil)) rfl)
      (pss_one (k_setF K (pv 0) (pe_callTy (k_dictOf P w K hr.units) (by rfl) T.b.dict (by decide +kernel) (pa_cons (pv 2) pa_nil)) rfl))), spI_run (N := n_Seamed___init__) ?_ h⟩
  rintro ⟨pl, fl⟩ (hf : FlOk fl) x dx B0 H0 Q hx q
  refine gx_seq (gx_fld (k := 0) (i := 0) T.cl_Seamed T.n_plan rfl hx rfl rfl (by decide) (S := rPlan K pl) (ev_cb rvs_listOf (ea_cons (ev_sqL (ev_var rfl)) ea_nil)) ?_)
  refine gx_fld (k := 0) (i := 0) T.cl_Seamed T.n_floors rfl hx rfl no_floors (by simp) (S := rDct P w K (kv fl)) (ev_dctOf hf.hash (ea_cons (ev_var rfl) ea_nil)) ?_
  exact gx_doneI (k := 0) rfl hx q
theorem ev_seamed {Γ : Ctx} {tl : TA} {E : XK} {pl : Plan} {fl : Fl} (hf : FlOk fl) (h : EvA Γ tl [rPlan K pl, rDct P w K (kv fl)]) : Ev Γ (tMake D (spSeamed P w K D) [] E tl) (rSeamed P w K D pl fl) :=
  ev_make (Rs := fun a : Plan × Fl => [rPlan K a.1, rDct P w K (kv a.2)]) (T := fun a => rSeamed P w K D a.1 a.2) (pre := fun a => FlOk a.2) (pl, fl) hf h
/-! what is_floor, shows say -/
def okStep (pr : List Int) (fl : Fl) (s : SSt) (v : Int) (q : SSt × List Int) : Bool := match getS fl q.1 with
  | none => false
  | some u => decide (v ≤ u + seamF s.2 q.2 pr)
def floorB (ps : List Piece) (pr : List Int) (fl : Fl) (s : SSt) (v : Int) : Bool :=
  s.1.all (fun i => decide (0 ≤ i) && decide (i ≤ (ps.length : Int) - 1)) && (decide (s.1.Pairwise (· < ·)) && if s.1 = [] then decide (v ≤ 0) else (stepsOf ps s.1).all (okStep pr fl s v))
def showsB (ps : List Piece) (pr : List Int) (pl : Plan) (fl : Fl) : Bool := isPlan ps.length pl && (decide ((getS fl (start0 ps)).getD (-1) = seamCost ps pl pr) && fl.all fun x => floorB ps pr fl x.1 x.2)
/-! sorted(set(..)) -/
def rSet (w : World) (S : Int → Bool) (n : Nat) : Rep := ⟨fun B v => ∃ a, v = .ref a ∧ B a = some (SetO w a S n), fun B B' v e ⟨a, h1, h2⟩ => ⟨a, h1, e _ _ h2⟩⟩
theorem rvs_set {ns : List Int} (h : ns.length ≤ 60) : RVs (rSetT K w) [rInts K ns] (rEx (fun n => n ≤ ns.length) fun n => rSet w (fun j => decide (j ∈ ns)) n) := fun vs B H c r Q q => by
  obtain ⟨v, rfl, a, xs, rfl, hs, h2⟩ := all2_1 r
  have e := ints_all h2
  subst e
  exact ⟨a, ns, rfl, Evl.ex_t c hs, h, fun p n hp hn => q _ (upd B p (SetO w p (fun j => decide (j ∈ ns)) n)) _ (Nx.new c hp) ⟨n, hn, p, rfl, upd_same⟩⟩
theorem rvs_sortedSet {ns : List Int} (h : ns.length ≤ 60) : RVs (rSortedSet w) [rEx (fun n => n ≤ ns.length) fun n => rSet w (fun j => decide (j ∈ ns)) n] (rEx (fun ms : List Int => ms.Pairwise (· < ·) ∧ ∀ k, k ∈ ms ↔ k ∈ ns) fun ms => rLst K (ms.map fun n => rD K (.int n))) := fun vs B H c r Q q => by
  obtain ⟨v, rfl, n, hn, a, rfl, ha⟩ := all2_1 r
  exact ⟨a, _, n, rfl, c _ _ ha, by omega, fun ms p h1 h2 h3 hp => q _ (upd B p (.lst (ms.map V.int))) _ (Nx.new c hp) ⟨ms, ⟨h1, fun k => by rw [h2]; simp⟩, p, _, rfl, .inl (.of upd_same), all_ints⟩⟩
theorem sorted_is {ns ms : List Int} (h1 : ms.Pairwise (· < ·)) (h2 : ∀ k, k ∈ ms ↔ k ∈ ns) : decide (ns = ms) = decide (ns.Pairwise (· < ·)) := by
  apply decide_eq_decide.mpr
  constructor
  · intro e
    rw [e]
    exact h1
  · intro h
    have n1 : ms.Nodup := h1.imp fun h => Int.ne_of_lt h
    have n2 : ns.Nodup := h.imp fun h => Int.ne_of_lt h
    have pm : ns.Perm ms := (List.perm_ext_iff_of_nodup n2 n1).mpr fun k => (h2 k).symm
    exact List.Perm.eq_of_pairwise (fun a b _ _ h1 h2 => absurd (Int.lt_trans h1 h2) (Int.lt_irrefl _)) h h1 pm
/-! self.is_floor(..) -/
structure FlG (wd : Nat) (ps : List Piece) (pr : List Int) (fl : Fl) : Prop where
  g : Game wd ps pr
  ok : FlOk fl
  row : ∀ x ∈ fl, ∀ r, x.1.2 = some r → r.length = wd
theorem leftsU_len : ∀ l ∈ leftsU, l.length ≤ 5 := by decide +kernel
theorem FlG.len {wd : Nat} {ps : List Piece} {pr : List Int} {fl : Fl} (h : FlG wd ps pr fl) {x : SSt × Int} (hx : x ∈ fl) : x.1.1.length ≤ 5 := by
  obtain ⟨l, hl, hm⟩ := List.mem_flatMap.mp (h.ok.ku x hx)
  obtain ⟨o, ho, e⟩ := List.mem_map.mp hm
  rw [← e]
  exact leftsU_len l hl
def spIsFloor (P : Program) (w : World) (K : PySem.W.Frag) (C D : Addr) : Sp := SpF (α := List Piece × Nat × List Int × Plan × Fl × SSt × Int)
  (fun a => [rSeamed P w K D a.2.2.2.1 a.2.2.2.2.1, rSeq K (rTabs K C a.1), rInts K a.2.2.1, rSt K a.2.2.2.2.2.1]) (fun a => rD K (.bool (floorB a.1 a.2.2.1 a.2.2.2.2.1 a.2.2.2.2.2.1 a.2.2.2.2.2.2))) (fun a => FlG a.2.1 a.1 a.2.2.1 a.2.2.2.2.1 ∧ a.2.2.2.2.2 ∈ a.2.2.2.2.1)
theorem ok_is_floor (c : Cls K D) (me : Meth K D "is_floor" f) (F : C8.Fun K "is_floor" "Seamed.is_floor" s_Seamed_is_floor f fd) (b : Binds K fd ["self", "pieces", "prices", "state"] []) (T : Txt K mg C D p g)
    (G_is_number : C8.Cal P w K mg base 1 "is_number" (spNum K) []) (G_width : FnOk P w K mg base C8.CX0 1 g fd' ["self"] (spWidth K C)) (b_width : Binds K fd' ["self"] []) (G_steps_from : C8.Cal P w K mg base 2 "steps_from" (spSteps K C) []) (G_seam : C8.Cal P w K mg base 2 "seam" (spSeam K) []) :
    C8.Met P w K mg base 3 D "is_floor" (spIsFloor P w K C D) [] := by
  refine C8.met0 c me F b sc_Seamed_is_floor (sp_len fun _ => rfl) fun cdv A outer s H vs Q E hr h => ⟨_, (pss_cons (ps_asg (pv 3) (k_tup K (n := 2) rfl (pgs_cons (pg_name (i := 4) sc_Seamed_is_floor.nd rfl (Or.inl rfl)) (pgs_cons (pg_name (i := 5) sc_Seamed_is_floor.nd rfl (Or.inl rfl)) pgs_nil))))
      (pss_cons (ps_if (PW.pt (pw_or (pt_not (pt_val (pe_callB (k_all K rfl) (by rfl) T.b.all (by decide +kernel) (pa_cons (pe_lc (own := [("index", 8)]) rfl sc_Seamed_is_floor.nd (k_sq K (pv 4)) (blkOk_by (N := n_Seamed_is_floor) (sc := C8.fnScope s_Seamed_is_floor) (by decide +kernel)) (fun _ _ _ _ _ => (pg_name (i := 8) sc_Seamed_is_floor.nd rfl (Or.inl rfl))) (fun _ _ _ _ _ => pts_nil) (fun _ _ _ _ _ => (C8.pe_c G_is_number hr (by decide) (by rfl) (pa_cons (pv 8) (pa_cons pe_int (pa_cons (pe_op op_sub (pe_callB (k_len K) (by rfl) T.b.len (by decide +kernel) (pa_cons (pv 1) pa_nil)) pe_int) pa_nil)))))) pa_nil)))) (pw_or1 (pt_cmpR (k_neD K hr.units) (pe_callTy (k_listOf K) (by rfl) T.b.list (by decide +kernel) (pa_cons (pv 4) pa_nil)) (pe_callB (k_sortedSet w rfl) (by rfl) T.b.sorted (by decide +kernel) (pa_cons (pe_callTy (k_setT K w rfl) (by rfl) T.b.set (by decide +kernel) (pa_cons (pv 4) pa_nil)) pa_nil)) (nomark _))))) (pss_one (ps_ret pe_bl)) pss_nil)
      (pss_cons (ps_if (PW.pt (pw_and (pt_cmp (pc_notN (pv 5)) rfl) (pw_and1 (pt_cmpR (k_neD K hr.units) (pe_callB (k_len K) (by rfl) T.b.len (by decide +kernel) (pa_cons (pv 5) pa_nil)) (pe_prop (E := C8.E0) (k_ix K (pv 1) pe_int (fun _ _ => rfl)) T.cl_Table T.p_width G_width (hr.mono (by decide)) b_width .nil C8.pass0 rfl) (nomark _))))) (pss_one (ps_ret pe_bl)) pss_nil)
      (pss_cons (ps_if (pt_cmpR (k_eqD K hr.units) (pv 4) (pe_tup pa_nil) (nomark _)) (pss_one (ps_ret (pe_cmpR op_le (d_ix P w K hr.units (k_fld K (pv 0) rfl) (pv 3)) pe_int (nomark _)))) pss_nil)
      (pss_cons (ps_for PassesOwn.never rfl (k_sq K (C8.pe_c G_steps_from hr (by decide) (by rfl) (pa_cons (pv 1) (pa_cons (pv 3) pa_nil)))) (k_tup K (n := 2) rfl (pgs_cons (pg_name (i := 6) sc_Seamed_is_floor.nd rfl (Or.inl rfl)) (pgs_cons (pg_name (i := 7) sc_Seamed_is_floor.nd rfl (Or.inl rfl)) pgs_nil))) (pss_one (ps_if (PW.pt (pw_or (pt_cmpR (d_nin P w K hr.units) (pv 6) (k_fld K (pv 0) rfl) rfl) (pw_or1 (pt_cmpR op_gt (d_ix P w K hr.units (k_fld K (pv 0) rfl) (pv 3)) (pe_op op_add (d_ix P w K hr.units (k_fld K (pv 0) rfl) (pv 6)) (C8.pe_c G_seam hr (by decide) (by rfl) (pa_cons (pv 5) (pa_cons (pv 7) (pa_cons (pv 2) pa_nil))))) (nomark _))))) (pss_one (ps_ret pe_bl)) pss_nil)))
      (pss_one (ps_ret pe_bl))))))), sp_run (N := n_Seamed_is_floor) ?_ h⟩
  rintro ⟨ps, wd, pr, pl, fl, st, v⟩ ⟨(hF : FlG wd ps pr fl), (hm : (st, v) ∈ fl)⟩ B0 H0 Q q
  have hG := hF.g
  have n1 := hG.n1
  have n2 := hG.n2
  have w2 := hG.w2
  have hlen : st.1.length ≤ 5 := hF.len hm
  have hrow : ∀ r, st.2 = some r → r.length = wd := hF.row _ hm
  have hget : getS fl st = some v := getS_mem hF.ok.nd hm
  have h0 : ps[0]? = some ps[0] := List.getElem?_eq_getElem (by omega)
  refine gx_seq (gx_asg (ev_unst (ev_var rfl)) eg_tup2 ?_)
  dsimp only
  refine gx_seq (gx_if (b := !(st.1.all fun i => decide (0 ≤ i) && decide (i ≤ (ps.length : Int) - 1)) || !decide (st.1.Pairwise (· < ·)))
    (et_or (et_not (et_B (ev_allC (f := fun i => decide (0 ≤ i) && decide (i ≤ (ps.length : Int) - 1)) st.1 (by omega) (ei_sq (ev_sqT (ev_var rfl))) (si_name (by decide)) fun i hi => ⟨_, eg_name,
      ev_call rfl (rsp_F (α := Int × Int × Int) (Rs := fun a => [rD K (.int a.1), rD K (.int a.2.1), rD K (.int a.2.2)]) (T := fun a => rD K (.bool (decide (a.2.1 ≤ a.1) && decide (a.1 ≤ a.2.2)))) (pre := fun _ => True) (i, 0, (ps.length : Int) - 1) trivial)
        (ea_cons (ev_var rfl) (ea_cons ev_int (ea_cons (ev_op rv_I0 ((ev_cb rvs_len (ea_cons (ev_var rfl) ea_nil)).eq (by rw [List.length_map])) ev_int) ea_nil)))⟩))) fun _ =>
      et_cmp (ev_op (rv_exR fun ms hms => by
        have e := rv_neL (K := K) (ns := st.1) (ms := ms)
        rw [sorted_is hms.1 hms.2] at e
        exact e) (ev_cb rvs_listOf (ea_cons (ev_sqT (ev_var rfl)) ea_nil)) (ev_cb (rvs_sortedSet (by omega)) (ea_cons (ev_cb (rvs_set (by omega)) (ea_cons (ev_var rfl) ea_nil)) ea_nil)))) (fun e => ?_) fun e => ?_)
  · refine gx_ret (Ev.eq (ev_bl (K := K)) ?_) q
    show rD K (.bool false) = rD K (.bool (floorB ps pr fl st v))
    congr 2
    unfold floorB
    cases h1 : (st.1.all fun i => decide (0 ≤ i) && decide (i ≤ (ps.length : Int) - 1)) with
    | false => rfl
    | true =>
      rw [h1] at e
      cases h2 : decide (st.1.Pairwise (· < ·)) with
      | false => rfl
      | true => rw [h2] at e; cases e
  · have hall : (st.1.all fun i => decide (0 ≤ i) && decide (i ≤ (ps.length : Int) - 1)) = true := by
      cases h1 : (st.1.all fun i => decide (0 ≤ i) && decide (i ≤ (ps.length : Int) - 1)) with
      | true => rfl
      | false => rw [h1] at e; cases e
    have hpw : decide (st.1.Pairwise (· < ·)) = true := by
      cases h2 : decide (st.1.Pairwise (· < ·)) with
      | true => rfl
      | false => rw [hall, h2] at e; cases e
    have hin : ∀ i ∈ st.1, 0 ≤ i ∧ i < ps.length := fun i hi => by
      have := List.all_eq_true.mp hall i hi
      simp at this
      omega
    have hfb : floorB ps pr fl st v = if st.1 = [] then decide (v ≤ 0) else (stepsOf ps st.1).all (okStep pr fl st v) := by
      unfold floorB
      rw [hall, hpw]
      rfl
    refine gx_next ?_
    dsimp only
    refine gx_seq (gx_ifF (b := false) ?_ rfl ?_)
    · cases ho : st.2 with
      | none => exact et_and (b := true) (a := false) (et_B (ev_notN (K := K) (R := rD K .none) (b := true) (fun B v h => by rw [rD_non.mp h]; rfl) (ev_var rfl))) (fun e => by cases e)
      | some r =>
        exact EvT.eq (et_and (a := true) (b := !decide ((r.length : Int) = wd)) (et_B (ev_notN (K := K) (R := rInts K r) (b := false) (fun B v h => by obtain ⟨a, xs, e, _⟩ := h; rw [e]; rfl) (ev_var rfl)))
          fun _ => et_cmp (ev_op rv_neDI (ev_cb (rvs_lenN (ns := r)) (ea_cons (ev_var rfl) ea_nil)) (ev_prop (ev_op (rv_xS (ixN_0 (by rw [List.length_map]; omega)) (tabs_at h0)) (ev_var rfl) ev_int) (width_rsp (hG.good (List.mem_of_getElem? h0)))))) (by simp [hrow r ho])
    · refine gx_next ?_
      dsimp only
      refine gx_seq (gx_if (b := decide (st.1 = [])) (et_cmp (ev_op rv_eqT (ev_var rfl) (ev_tup ea_nil (by simp)))) (fun e => ?_) fun e => ?_)
      · have he : st.1 = [] := of_decide_eq_true e
        refine gx_ret (Ev.eq (ev_op rv_I0b (ev_op (rv_dget (skey_dep st) hget) (ev_fld T.cl_Seamed T.n_floors at_floors (ev_var rfl)) (ev_key (ev_var rfl))) ev_int) ?_) q
        show rD K (.bool (decide (v ≤ 0))) = rD K (.bool (floorB ps pr fl st v))
        rw [hfb, if_pos he]
      · have he : st.1 ≠ [] := of_decide_eq_false e
        have hpc : ∀ pc ∈ ps, 1 ≤ pc.length := fun pc h => (hG.pc pc h).1
        refine gx_next ?_
        dsimp only
        refine gx_seq (gx_for (ei_sq (ev_sqL (ev_call rfl (steps_rsp (st := st) (by omega) hin hpc) (ea_cons (ev_var rfl) (ea_cons (ev_var rfl) ea_nil)))))
          (fun i Γ => (∀ q ∈ (stepsOf ps st.1).take i, okStep pr fl st v q = true) ∧ Γ = Ctx.mk [some (rSeamed P w K D pl fl), some (rSeq K (rTabs K C ps)), some (rInts K pr), some (rSt K st), some (rInts K st.1), some (rOpt K st.2), none, none, none] []) ⟨fun q hq => by simp at hq, rfl⟩ ?_ ?_)
        · rintro B1 H1 nx i Γi R hR ⟨hq', rfl⟩
          obtain ⟨qq, hqq, rfl⟩ := map_at hR
          have hmem := List.mem_of_getElem? hqq
          have htake : (stepsOf ps st.1).take (i + 1) = (stepsOf ps st.1).take i ++ [qq] := by rw [List.take_add_one, hqq] <;> rfl
          have bad : okStep pr fl st v qq = false → rD K (.bool false) = rD K (.bool (floorB ps pr fl st v)) := fun h => by
            rw [hfb, if_neg he]
            congr 2
            cases h2 : (stepsOf ps st.1).all (okStep pr fl st v) with
            | false => rfl
            | true => rw [List.all_eq_true.mp h2 qq hmem] at h; cases h
          refine ⟨_, eg_tup2, fun N hN => ?_⟩
          have din : EvT ((Ctx.mk [some (rSeamed P w K D pl fl), some (rSeq K (rTabs K C ps)), some (rInts K pr), some (rSt K st), some (rInts K st.1), some (rOpt K st.2), some (rSt K qq.1), some (rInts K qq.2), none] [])) (tTest (tOp (rDIn P w K true) (tVar 6) (tFld K (tVar 0) "floors"))) (!(getS fl qq.1).isSome) :=
            et_cmp (ev_op (rv_din (neg := true) (skey_dep qq.1)) (ev_key (ev_var rfl)) (ev_fld T.cl_Seamed T.n_floors at_floors (ev_var rfl)))
          cases hg : getS fl qq.1 with
          | none =>
            rw [hg] at din
            refine gx_ifT (b := true) (et_or (a := true) (b := false) din fun e => by cases e) rfl ?_
            exact gx_ret (Ev.eq (ev_bl (K := K)) (bad (by unfold okStep; rw [hg]))) (q.mix nx)
          | some u =>
            rw [hg] at din
            refine gx_if (b := false || decide (u + seamF st.2 qq.2 pr < v)) (et_or (a := false) (b := decide (u + seamF st.2 qq.2 pr < v)) din fun _ => et_cmp (ev_op rv_I0b (ev_op (rv_dget (skey_dep st) hget) (ev_fld T.cl_Seamed T.n_floors at_floors (ev_var rfl)) (ev_key (ev_var rfl)))
              (ev_op rv_I0 (ev_op (rv_dget (skey_dep qq.1) hg) (ev_fld T.cl_Seamed T.n_floors at_floors (ev_var rfl)) (ev_key (ev_var rfl))) (ev_call rfl (seam_rsp fun r hr => by have := hrow r hr; omega) (ea_cons (ev_var rfl) (ea_cons (ev_var rfl) (ea_cons (ev_var rfl) ea_nil))))))) (fun e => ?_) fun e => ?_
            · refine gx_ret (Ev.eq (ev_bl (K := K)) (bad ?_)) (q.mix nx)
              unfold okStep
              rw [hg]
              simp at e ⊢
              omega
            · refine gx_next (gx_drop_slot 6 (gx_drop_slot 7 (hN _ ⟨fun q hq => ?_, rfl⟩)))
              rw [htake] at hq
              rcases List.mem_append.mp hq with hq | hq
              · exact hq' q hq
              · rw [List.mem_singleton.mp hq]
                unfold okStep
                rw [hg]
                simp at e ⊢
                omega
        · rintro Γn ⟨hq', rfl⟩
          rw [List.length_map, List.take_length] at hq'
          dsimp only
          refine gx_ret (Ev.eq (ev_bl (K := K)) ?_) q
          show rD K (.bool true) = rD K (.bool (floorB ps pr fl st v))
          rw [hfb, if_neg he, List.all_eq_true.mpr hq']
end
end Sm
namespace Sm
open PySem PySem.Spec PyProof.Rows L2

abbrev s_best_seams : Stmt := top 34
def n_best_seams : List Str := ["pieces", "prices", "floors", "plan", "state", "index", "is_turned", "first", "end", "late", "step", "behind", "one"]
theorem sc_best_seams : FnScope n_best_seams ["pieces", "prices"] (C8.fnScope s_best_seams) := C8.fnScope_by (by decide +kernel)
abbrev s_put_together_best : Stmt := top 36
def n_put_together_best : List Str := ["pieces", "prices"]
theorem sc_put_together_best : FnScope n_put_together_best ["pieces", "prices"] (C8.fnScope s_put_together_best) := C8.fnScope_by (by decide +kernel)
section
variable {P : Program} {w : World} {K : PySem.W.Frag} {mg : Str → Option Value} {base : Heap} {f f' : Addr} {fd fd' : FuncData} {C D p g : Addr}
theorem plan_in {n : Nat} {pl : Plan} (h : isPlan n pl = true) : InPs n pl := fun q hq => by
  have hp : (pl.map (·.1)).Perm (iota n) := of_decide_eq_true h
  exact iota_mem.mp (hp.subset (List.mem_map.mpr ⟨q, hq, rfl⟩))
theorem plan_len {n : Nat} {pl : Plan} (h : isPlan n pl = true) : pl.length = n := by
  have hp : (pl.map (·.1)).Perm (iota n) := of_decide_eq_true h
  have := hp.length_eq
  rw [List.length_map, iota_len] at this
  exact this
def spShows (P : Program) (w : World) (K : PySem.W.Frag) (C D : Addr) : Sp := SpF (α := List Piece × Nat × List Int × Plan × Fl) (fun a => [rSeamed P w K D a.2.2.2.1 a.2.2.2.2, rSeq K (rTabs K C a.1), rInts K a.2.2.1]) (fun a => rD K (.bool (showsB a.1 a.2.2.1 a.2.2.2.1 a.2.2.2.2)))
  (fun a => FlG a.2.1 a.1 a.2.2.1 a.2.2.2.2 ∧ a.2.2.2.1.length < 64)
theorem game_rows {wd : Nat} {ps : List Piece} {pr : List Int} (hG : Game wd ps pr) : ∀ pc ∈ ps, 1 ≤ pc.length ∧ ∀ r ∈ pc, r.length ≤ 100 := fun pc h => ⟨(hG.pc pc h).1, fun r hr => by have := ((hG.pc pc h).2 r hr).1; have := hG.w2; omega⟩
theorem ok_shows (c : Cls K D) (me : Meth K D "shows" f) (F : C8.Fun K "shows" "Seamed.shows" s_Seamed_shows f fd) (b : Binds K fd ["self", "pieces", "prices"] []) (T : Txt K mg C D p g)
    (G_check_pieces : C8.Cal P w K mg base 3 "check_pieces" (spCheckS K C) []) (G_is_plan : C8.Cal P w K mg base 1 "is_plan" (spIsPlan K C) []) (G_seam_cost : C8.Cal P w K mg base 2 "seam_cost" (spCost K C) []) (M_is_floor : C8.Met P w K mg base 3 D "is_floor" (spIsFloor P w K C D) []) :
    C8.Met P w K mg base 4 D "shows" (spShows P w K C D) [] := by
  refine C8.met0 c me F b sc_Seamed_shows (sp_len fun _ => rfl) fun cdv A outer s H vs Q E hr h => ⟨_, (pss_cons (ps_expr (C8.pe_c G_check_pieces hr (by decide) (by rfl) (pa_cons (pv 1) (pa_cons (pv 2) pa_nil))))
      (pss_cons (ps_set (i := 3) sc_Seamed_shows.nd rfl (Or.inl rfl) (pe_tup (pa_cons (pe_tupRg rfl (by rfl) T.b.tuple (prg_1 (by rfl) T.b.range (pe_callB (k_len K) (by rfl) T.b.len (by decide +kernel) (pa_cons (pv 1) pa_nil)))) (pa_cons pe_non pa_nil))))
      (pss_cons (ps_if (PW.pt (pw_or (pt_not (pt_val (C8.pe_c G_is_plan hr (by decide) (by rfl) (pa_cons (pv 1) (pa_cons (k_fld K (pv 0) rfl) pa_nil))))) (pw_or1 (pt_cmpR (k_neD K hr.units) (d_getOr P w K hr.units (k_fld K (pv 0) rfl) (pa_cons (pv 3) (pa_cons (pe_un un_neg pe_int) pa_nil))) (C8.pe_c G_seam_cost hr (by decide) (by rfl) (pa_cons (pv 1) (pa_cons (k_fld K (pv 0) rfl) (pa_cons (pv 2) pa_nil)))) (nomark _))))) (pss_one (ps_ret pe_bl)) pss_nil)
      (pss_one (ps_ret (pe_callB (k_all K rfl) (by rfl) T.b.all (by decide +kernel) (pa_cons (pe_lc (own := [("state", 4)]) rfl sc_Seamed_shows.nd (d_keys P w K (k_fld K (pv 0) rfl)) (blkOk_by (N := n_Seamed_shows) (sc := C8.fnScope s_Seamed_shows) (by decide +kernel)) (fun _ _ _ _ _ => (pg_name (i := 4) sc_Seamed_shows.nd rfl (Or.inl rfl))) (fun _ _ _ _ _ => pts_nil) (fun _ _ _ _ _ => (C8.pe_mt M_is_floor hr (by decide) (pv 0) (pa_cons (pv 1) (pa_cons (pv 2) (pa_cons (pv 4) pa_nil)))))) pa_nil))))))), sp_run (N := n_Seamed_shows) ?_ h⟩
  rintro ⟨ps, wd, pr, pl, fl⟩ ⟨(hF : FlG wd ps pr fl), (hpl : pl.length < 64)⟩ B0 H0 Q q
  have hG := hF.g
  have n2 := hG.n2
  refine gx_seq (gx_drop (ev_call rfl (checkS_rsp hG) (ea_cons (ev_var rfl) (ea_cons (ev_var rfl) ea_nil))) ?_)
  refine gx_seq (gx_set (R := rSt K (start0 ps)) (ev_st (ev_tup (ea_cons (ev_tupRg (n := ps.length) (by omega) ((ev_cb rvs_len (ea_cons (ev_var rfl) ea_nil)).eq (by rw [List.length_map]))) (ea_cons ev_non ea_nil)) (by simp))) ?_)
  dsimp only
  refine gx_seq (gx_if (b := !isPlan ps.length pl || !decide ((getS fl (start0 ps)).getD (-1) = seamCost ps pl pr))
    (et_or (et_not (et_B (ev_call rfl (rsp_F (α := List Piece × Plan) (Rs := fun a => [rSeq K (rTabs K C a.1), rPlan K a.2]) (T := fun a => rD K (.bool (isPlan a.1.length a.2))) (pre := fun a => a.1.length ≤ 1000 ∧ a.2.length < 64) (ps, pl) ⟨(by show ps.length ≤ 1000; omega), hpl⟩)
        (ea_cons (ev_var rfl) (ea_cons (ev_fld T.cl_Seamed T.n_plan at_plan (ev_var rfl)) ea_nil))))) fun e => ?_) (fun e => ?_) fun e => ?_)
  · have hip : isPlan ps.length pl = true := by
      cases h1 : isPlan ps.length pl with
      | true => rfl
      | false => rw [h1] at e; cases e
    exact et_cmp (ev_op rv_neDI (ev_dgetOr (skey_dep (start0 ps)) (ev_fld T.cl_Seamed T.n_floors at_floors (ev_var rfl)) (ea_cons (ev_key (ev_var rfl)) (ea_cons (ev_un rv_neg ev_int) ea_nil)))
      (ev_call rfl (rsp_F (α := List Piece × Plan × List Int) (Rs := fun a => [rSeq K (rTabs K C a.1), rPlan K a.2.1, rInts K a.2.2]) (T := fun a => rD K (.int (seamCost a.1 a.2.1 a.2.2))) (ps, pl, pr) ⟨(by show pl.length ≤ 1000; omega), plan_in hip, game_rows hG⟩)
        (ea_cons (ev_var rfl) (ea_cons (ev_fld T.cl_Seamed T.n_plan at_plan (ev_var rfl)) (ea_cons (ev_var rfl) ea_nil)))))
  · refine gx_ret (Ev.eq (ev_bl (K := K)) ?_) q
    show rD K (.bool false) = rD K (.bool (showsB ps pr pl fl))
    congr 2
    unfold showsB
    cases h1 : isPlan ps.length pl with
    | false => rfl
    | true =>
      rw [h1] at e
      cases h2 : decide ((getS fl (start0 ps)).getD (-1) = seamCost ps pl pr) with
      | false => rfl
      | true => rw [h2] at e; cases e
  · refine gx_next ?_
    dsimp only
    have hk := ei_kd (P := P) (w := w) (K := K) (kvs := kv fl) (Γ := Ctx.mk [some (rSeamed P w K D pl fl), some (rSeq K (rTabs K C ps)), some (rInts K pr), some (rSt K (start0 ps)), none] []) (ev_fld T.cl_Seamed T.n_floors at_floors (ev_var (i := 0) rfl))
    have ek : (kv fl).map (fun x => rD K x.1.data) = fl.map fun x => rSt K x.1 := by
      unfold kv
      rw [List.map_map]
      apply List.map_congr_left
      intro x _
      show rD K (skey x.1).data = rSt K x.1
      rw [skey_data]
    rw [ek] at hk
    refine gx_ret (Ev.eq (ev_allC (f := fun x : SSt × Int => floorB ps pr fl x.1 x.2) fl (by have := hF.ok.len; omega) hk (si_name (by decide)) fun x hx => ⟨_, eg_name, ?_⟩) ?_) q
    · exact ev_meth rfl (ev_var rfl) (ea_cons (ev_var rfl) (ea_cons (ev_var rfl) (ea_cons (ev_var rfl) ea_nil)))
        (rsp_F (α := List Piece × Nat × List Int × Plan × Fl × SSt × Int) (Rs := fun a => [rSeamed P w K D a.2.2.2.1 a.2.2.2.2.1, rSeq K (rTabs K C a.1), rInts K a.2.2.1, rSt K a.2.2.2.2.2.1]) (T := fun a => rD K (.bool (floorB a.1 a.2.2.1 a.2.2.2.2.1 a.2.2.2.2.2.1 a.2.2.2.2.2.2))) (ps, wd, pr, pl, fl, x.1, x.2) ⟨hF, hx⟩)
    · show rD K (.bool (fl.all fun x => floorB ps pr fl x.1 x.2)) = rD K (.bool (showsB ps pr pl fl))
      congr 2
      unfold showsB
      cases h1 : isPlan ps.length pl with
      | false => rw [h1] at e; cases e
      | true =>
        rw [h1] at e
        cases h2 : decide ((getS fl (start0 ps)).getD (-1) = seamCost ps pl pr) with
        | false => rw [h2] at e; cases e
        | true => rfl
/-! a cheapest way -/
theorem costE_cons {a e : List Int × List Int} {es : List (List Int × List Int)} {pr : List Int} : costE (a :: e :: es) pr = apartF a.2 e.1 pr + costE (e :: es) pr := by
  unfold costE
  rw [List.tail_cons, List.zip_cons_cons, List.map_cons, List.sum_cons]
  rfl
theorem costE_snoc {pr : List Int} {e : List Int × List Int} : ∀ {es : List (List Int × List Int)}, costE (es ++ [e]) pr = costE es pr + seamF (es.getLast?.map (·.2)) e.1 pr
  | [] => rfl
  | [a] => by
    rw [List.singleton_append, costE_cons]
    show apartF a.2 e.1 pr + 0 = 0 + apartF a.2 e.1 pr
    omega
  | a :: b :: es => by
    have ih := costE_snoc (pr := pr) (e := e) (es := b :: es)
    rw [List.cons_append, List.cons_append, costE_cons, ← List.cons_append, ih, costE_cons, List.getLast?_cons_cons]
    omega
theorem rest_perm {x : Int} : ∀ {left : List Int}, left.Nodup → x ∈ left → left.Perm (x :: rest left x)
  | a :: l, hn, h => by
    obtain ⟨h1, h2⟩ := List.nodup_cons.mp hn
    unfold rest
    by_cases e : a = x
    · subst e
      rw [List.filter_cons_of_neg (by simp)]
      have : l.filter (fun j => !decide (j = a)) = l := List.filter_eq_self.mpr fun x hx => by
        have : x ≠ a := fun e => h1 (e ▸ hx)
        simp [this]
      rw [this]
    · rw [List.filter_cons_of_pos (by simp [e])]
      have hm : x ∈ l := by
        rcases List.mem_cons.mp h with e2 | h
        · exact absurd e2.symm e
        · exact h
      exact ((rest_perm h2 hm).cons a).trans (.swap x a _)
def Hit (ps : List Piece) (pr : List Int) (s : SSt) (y : Int × Bool) : Prop := val ps pr (stepOf ps s.1 y.1 y.2).1 + seamF s.2 (stepOf ps s.1 y.1 y.2).2 pr = val ps pr s
structure PInv (ps : List Piece) (pr : List Int) (L : List SSt) (pl : Plan) (s : SSt) : Prop where
  perm : (pl.map (·.1) ++ s.1).Perm (iota ps.length)
  last : s.2 = (endsL ps pl).getLast?.map (·.2)
  cost : seamCost ps pl pr + val ps pr s = val ps pr (start0 ps)
  mem : s ∈ L
theorem PInv.step {ps : List Piece} {pr : List Int} {L : List SSt} {pl : Plan} {s : SSt} (h : PInv ps pr L pl s) (hR : Reached ps L) {y : Int × Bool} (hy : y.1 ∈ s.1) (hh : Hit ps pr s y) : PInv ps pr L (pl ++ [y]) (stepOf ps s.1 y.1 y.2).1 := by
  have hn : s.1.Nodup := (mem_allSt.mp (hR.all s h.mem)).1.nodup iota_nodup
  refine ⟨?_, ?_, ?_, hR.cl s h.mem _ (mem_steps.mpr ⟨y.1, hy, y.2, rfl⟩)⟩
  · rw [List.map_append, List.append_assoc]
    refine List.Perm.trans (List.Perm.append_left _ ?_) h.perm
    exact (rest_perm hn hy).symm
  · unfold endsL
    rw [List.map_append, List.map_cons, List.map_nil, List.getLast?_append]
    rfl
  · have e : seamCost ps (pl ++ [y]) pr = seamCost ps pl pr + seamF s.2 (stepOf ps s.1 y.1 y.2).2 pr := by
      unfold seamCost endsL
      rw [List.map_append, List.map_cons, List.map_nil, costE_snoc, h.last]
      rfl
    rw [e]
    have := h.cost
    unfold Hit at hh
    omega
theorem hit_exists {ps : List Piece} {pr : List Int} {s : SSt} (hn : s.1.Nodup) (h0 : s.1 ≠ []) : ∃ y : Int × Bool, y.1 ∈ s.1 ∧ Hit ps pr s y := by
  have e := val_step (ps := ps) (pr := pr) hn h0
  have hne : (stepsOf ps s.1).map (fun q => val ps pr q.1 + seamF s.2 q.2 pr) ≠ [] := by
    cases hs : s.1 with
    | nil => exact absurd hs h0
    | cons x l => unfold stepsOf; rw [List.flatMap_cons]; simp
  obtain ⟨q, hq, e2⟩ := List.mem_map.mp (minL_mem hne)
  obtain ⟨x, hx, b, rfl⟩ := mem_steps.mp hq
  exact ⟨(x, b), hx, by unfold Hit; rw [e]; exact e2⟩
def Best (ps : List Piece) (pr : List Int) (x : Plan × List SSt) : Prop := isPlan ps.length x.1 = true ∧ seamCost ps x.1 pr = val ps pr (start0 ps) ∧ Reached ps x.2
/-- what the loops of best_seams know -/
abbrev cB (P : Program) (w : World) (K : PySem.W.Frag) (C : Addr) (ps : List Piece) (pr : List Int) (L : List SSt) (a : Addr) (pl : Plan) (s : SSt) (ix : Option Int) (o : Option (Int × Bool)) : Ctx :=
  Ctx.mk [some (rSeq K (rTabs K C ps)), some (rInts K pr), some (rDct P w K (flo ps pr L)), some (rV (.ref a)), some (rSt K s), ix.map fun x => rD K (.int x), none, none, none, none, o.map fun y => rPair K y, o.map fun y => rSt K (stepOf ps s.1 y.1 y.2).1, none] [(a, oL (pl.map (rPair K)))]
theorem gx_forget {B0 H0 : Hp} {Γ : Ctx} {N : L2.St → Hp → Prop} (is : List Nat) (k : Gx B0 H0 { Γ with r := is.foldl (fun r i => r.set i none) Γ.r } N) : Gx B0 H0 Γ N := by
  induction is generalizing Γ with
  | nil => exact k
  | cons i is ih => exact gx_drop_slot i (ih k)
def spBest (P : Program) (w : World) (K : PySem.W.Frag) (C D : Addr) : Sp := SpF (α := List Piece × Nat × List Int) (fun a => [rSeq K (rTabs K C a.1), rInts K a.2.2]) (fun a => rEx (Best a.1 a.2.2) fun x => rSeamed P w K D x.1 (flOf a.1 a.2.2 x.2)) (fun a => Game a.2.1 a.1 a.2.2)
theorem ok_best_seams (F : C8.Def K mg "best_seams" s_best_seams f fd) (b : Binds K fd ["pieces", "prices"] []) (T : Txt K mg C D p g) (G_check_pieces : C8.Cal P w K mg base 3 "check_pieces" (spCheckS K C) []) (G_floors_of : C8.Cal P w K mg base 3 "floors_of" (spFloors P w K C) [])
    (G_ends_of : C8.Cal P w K mg base 1 "ends_of" (spEnds K C) []) (G_seam : C8.Cal P w K mg base 2 "seam" (spSeam K) []) (G_Seamed : C8.Mak P w K mg base 1 "Seamed" D (spSeamed P w K D) []) : C8.Cal P w K mg base 4 "best_seams" (spBest P w K C D) [] := by
  refine C8.cal0 F b .nil sc_best_seams (sp_len fun _ => rfl) fun cdv A outer s H vs Q E hr h => ⟨_, (pss_cons (ps_expr (C8.pe_c G_check_pieces hr (by decide) (by rfl) (pa_cons (pv 0) (pa_cons (pv 1) pa_nil))))
      (pss_cons (ps_par (i := 2) (j := 3) (by rfl) sc_best_seams.nd rfl rfl (by decide) rfl rfl (pa_cons (C8.pe_c G_floors_of hr (by decide) (by rfl) (pa_cons (pv 0) (pa_cons (pv 1) pa_nil))) (pa_cons (pe_lst pa_nil) pa_nil)) (by rfl))
      (pss_cons (ps_set (i := 4) sc_best_seams.nd rfl (Or.inl rfl) (pe_tup (pa_cons (pe_tupRg rfl (by rfl) T.b.tuple (prg_1 (by rfl) T.b.range (pe_callB (k_len K) (by rfl) T.b.len (by decide +kernel) (pa_cons (pv 0) pa_nil)))) (pa_cons pe_non pa_nil))))
      (pss_cons (ps_while PassesOwn.never (pt_cmpR (k_neD K hr.units) (k_ix K (pv 4) pe_int (fun _ _ => rfl)) (pe_tup pa_nil) (nomark _)) (pss_cons (ps_for PassesOwn.never rfl (k_sq K (k_ix K (pv 4) pe_int (fun _ _ => rfl))) (pg_name (i := 5) sc_best_seams.nd rfl (Or.inr rfl)) (pss_one (ps_for PassesOwn.never rfl (k_sq K (pe_tup (pa_cons pe_bl (pa_cons pe_bl pa_nil)))) (pg_name (i := 6) sc_best_seams.nd rfl (Or.inl rfl)) (pss_cons (ps_asg (C8.pe_c G_ends_of hr (by decide) (by rfl) (pa_cons (k_ix K (pv 0) (pv 5) (fun _ _ => rfl)) (pa_cons (pv 6) pa_nil))) (k_tup K (n := 2) rfl (pgs_cons (pg_name (i := 7) sc_best_seams.nd rfl (Or.inl rfl)) (pgs_cons (pg_name (i := 8) sc_best_seams.nd rfl (Or.inl rfl)) pgs_nil))))
      (pss_cons (ps_set (i := 9) sc_best_seams.nd rfl (Or.inl rfl) (pe_tup (pa_cons (pe_callTy (k_tupleOf K) (by rfl) T.b.tuple (by decide +kernel) (pa_cons (pe_lc (own := [("one", 12)]) rfl sc_best_seams.nd (k_sq K (k_ix K (pv 4) pe_int (fun _ _ => rfl))) (blkOk_by (N := n_best_seams) (sc := C8.fnScope s_best_seams) (by decide +kernel)) (fun _ _ _ _ _ => (pg_name (i := 12) sc_best_seams.nd rfl (Or.inl rfl))) (fun _ _ _ _ _ => (pts_one (pt_cmpR (k_neD K hr.units) (pv 12) (pv 5) (nomark _)))) (fun _ _ _ _ _ => (pv 12))) pa_nil)) (pa_cons (pv 8) pa_nil))))
      (pss_one (ps_if (pt_cmpR (k_eqD K hr.units) (pe_op op_add (d_ix P w K hr.units (pv 2) (pv 9)) (C8.pe_c G_seam hr (by decide) (by rfl) (pa_cons (k_ix K (pv 4) pe_int (fun _ _ => rfl)) (pa_cons (pv 7) (pa_cons (pv 1) pa_nil))))) (d_ix P w K hr.units (pv 2) (pv 4)) (nomark _)) (pss_one (ps_par (i := 10) (j := 11) (by rfl) sc_best_seams.nd rfl rfl (by decide) rfl rfl (pa_cons (pe_tup (pa_cons (pv 5) (pa_cons (pv 6) pa_nil))) (pa_cons (pv 9) pa_nil)) (by rfl))) pss_nil)))))))
      (pss_cons (ps_expr (k_append K (pv 3) (pa_cons (pv 10) pa_nil)))
      (pss_one (ps_set (i := 4) sc_best_seams.nd rfl (Or.inl rfl) (pv 11))))))
      (pss_one (ps_ret (C8.pe_mk G_Seamed hr (by decide) (by rfl) (pa_cons (pv 3) (pa_cons (pv 2) pa_nil))))))))), sp_run (N := n_best_seams) ?_ h⟩
  rintro ⟨ps, wd, pr⟩ (hG : Game wd ps pr) B0 H0 Q q
  have n2 := hG.n2
  have hpc : ∀ pc ∈ ps, 1 ≤ pc.length := fun pc h => (hG.pc pc h).1
  refine gx_seq (gx_drop (ev_call rfl (checkS_rsp hG) (ea_cons (ev_var rfl) (ea_cons (ev_var rfl) ea_nil))) ?_)
  dsimp only
  refine gx_seq (gx_par (gt_cons (ev_call rfl (floors_rsp hG) (ea_cons (ev_var rfl) (ea_cons (ev_var rfl) ea_nil))) (gt_own (W := oL []) (eo_lst ea_nil (by simp)) fun a ha => gt_two ?_)))
  refine gx_ex (i := 2) rfl fun L hR => ?_
  dsimp only
  refine gx_seq (gx_set (R := rSt K (start0 ps)) (ev_st (ev_tup (ea_cons (ev_tupRg (n := ps.length) (by omega) ((ev_cb rvs_len (ea_cons (ev_var rfl) ea_nil)).eq (by rw [List.length_map]))) (ea_cons ev_non ea_nil)) (by simp))) ?_)
  dsimp only
  refine gx_seq (gx_while (fun m Γ => ∃ pl s, PInv ps pr L pl s ∧ m = s.1.length ∧ Γ = cB P w K C ps pr L a pl s none none) (iota ps.length).length
    ⟨[], start0 ps, ⟨by simp [start0], rfl, by unfold seamCost endsL costE; simp, hR.fst⟩, rfl, rfl⟩ ?_)
  rintro m Γm ⟨pl, s, hI, hm, rfl⟩
  have hsa := hR.all s hI.mem
  obtain ⟨ok1, ok2, ok3⟩ := allSt_ok hG hsa
  have hn : s.1.Nodup := (mem_allSt.mp hsa).1.nodup iota_nodup
  have hpl : pl.length ≤ 4 := by
    have := hI.perm.length_eq
    rw [List.length_append, List.length_map, iota_len] at this
    omega
  refine ⟨!decide (s.1 = []), et_cmp (ev_op rv_neT (ev_op (rv_xT (j := 0) rfl rfl) (ev_unst (ev_var rfl)) ev_int) (ev_tup ea_nil (by simp))), fun e N hN => ?_, fun e => ?_⟩
  · have h0 : s.1 ≠ [] := by simpa using e
    refine gx_seq (gx_for (Rs := s.1.map fun n => rD K (.int n)) (ei_sq (ev_sqT (ev_op (rv_xT (j := 0) (R := rInts K s.1) rfl rfl) (ev_unst (ev_var rfl)) ev_int)))
      (fun i Γ => ∃ o : Option (Int × Bool), (∀ y, o = some y → y.1 ∈ s.1 ∧ Hit ps pr s y) ∧ (o = none → ∀ x ∈ s.1.take i, ∀ b, ¬ Hit ps pr s (x, b)) ∧ Γ = cB P w K C ps pr L a pl s none o) ⟨none, (fun y h => nomatch h), (fun _ x hx => by simp at hx), rfl⟩ ?_ ?_)
    · rintro B1 H1 nx i Γi R hR1 ⟨o, ho1, ho2, rfl⟩
      obtain ⟨x, hx, rfl⟩ := map_at hR1
      have hxm := List.mem_of_getElem? hx
      obtain ⟨g0, g1⟩ := ok2 x hxm
      refine ⟨_, eg_name, fun N2 hN2 => ?_⟩
      refine gx_for (Rs := [false, true].map fun b => rD K (.bool b)) (ei_sq (ev_sqT (ev_tup (ea_cons ev_bl (ea_cons ev_bl ea_nil)) (by simp))))
        (fun j Γ => ∃ o : Option (Int × Bool), (∀ y, o = some y → y.1 ∈ s.1 ∧ Hit ps pr s y) ∧ (o = none → (∀ x ∈ s.1.take i, ∀ b, ¬ Hit ps pr s (x, b)) ∧ ∀ b ∈ [false, true].take j, ¬ Hit ps pr s (x, b)) ∧ Γ = cB P w K C ps pr L a pl s (some x) o) ⟨o, ho1, fun h => ⟨ho2 h, fun b hb => by simp at hb⟩, rfl⟩ ?_ ?_
      · rintro B2 H2 nx2 j Γj R hR2 ⟨o2, hp1, hp2, rfl⟩
        obtain ⟨b, hb, rfl⟩ := map_at hR2
        have htake : [false, true].take (j + 1) = [false, true].take j ++ [b] := by rw [List.take_add_one, hb] <;> rfl
        have hst : stepOf ps s.1 x b ∈ stepsOf ps s.1 := mem_steps.mpr ⟨x, hxm, b, rfl⟩
        refine ⟨_, eg_name, fun N3 hN3 => ?_⟩
        refine gx_seq (gx_asg (R := rTup K [rInts K (ends (pieceAt ps x) b).1, rInts K (ends (pieceAt ps x) b).2]) (ev_call rfl (ends_rsp (b := b) (hpc _ (piece_mem g0 g1))) (ea_cons (ev_piece g0 g1 (ev_var rfl) (ev_var rfl)) (ea_cons (ev_var rfl) ea_nil))) eg_tup2 ?_)
        dsimp only
        refine gx_seq (gx_set (R := rSt K (stepOf ps s.1 x b).1) (ev_st (s := (stepOf ps s.1 x b).1) (ev_tup (ea_cons (ev_cb rvs_tupOf (ea_cons (ev_sqL ((ev_lc (S := fun j : Int => rD K (.int j)) s.1 (fun j => !decide (j = x)) (by omega) (ei_sq (ev_sqT (ev_op (rv_xT (j := 0) (R := rInts K s.1) rfl rfl) (ev_unst (ev_var rfl)) ev_int))) (si_name (by decide)) fun j hj => ⟨_, eg_name, et_cmp (ev_op rv_neDI (ev_var rfl) (ev_var rfl)), fun _ => ev_var rfl⟩))) ea_nil))
          (ea_cons (ev_var rfl) ea_nil)) (by simp))) ?_)
        dsimp only
        refine gx_if (b := decide (val ps pr (stepOf ps s.1 x b).1 + seamF s.2 (stepOf ps s.1 x b).2 pr = val ps pr s)) (et_cmp (ev_op rv_eqDI (ev_op rv_I0 (ev_op (rv_dget (skey_dep _) (dget_flo (hR.cl s hI.mem _ hst))) (ev_var rfl) (ev_key (ev_var rfl)))
          (ev_call rfl (seam_rsp fun r hr => by have := ok3 r hr; have := hG.w2; omega) (ea_cons (ev_op (rv_xT (j := 1) rfl rfl) (ev_unst (ev_var rfl)) ev_int) (ea_cons (ev_var (R := rInts K (stepOf ps s.1 x b).2) rfl) (ea_cons (ev_var rfl) ea_nil))))) (ev_op (rv_dget (skey_dep s) (dget_flo hI.mem)) (ev_var rfl) (ev_key (ev_var rfl))))) (fun e => ?_) fun e => ?_
        · refine gx_par (gt_cons (R := rPair K (x, b)) (ev_tup (ea_cons (ev_var rfl) (ea_cons (ev_var rfl) ea_nil)) (by simp)) (gt_cons (R := rSt K (stepOf ps s.1 x b).1) (ev_var rfl) (gt_two ?_)))
          exact gx_forget [6, 7, 8, 9] (hN3 _ ⟨some (x, b), fun y hy => by cases hy; exact ⟨hxm, show val ps pr (stepOf ps s.1 x b).1 + seamF s.2 (stepOf ps s.1 x b).2 pr = val ps pr s from of_decide_eq_true e⟩, fun h => (nomatch h), rfl⟩)
        · refine gx_next (gx_forget [6, 7, 8, 9] (hN3 _ ⟨o2, hp1, fun h => ⟨(hp2 h).1, fun b' hb' => ?_⟩, rfl⟩))
          rw [htake] at hb'
          rcases List.mem_append.mp hb' with hb' | hb'
          · exact (hp2 h).2 b' hb'
          · rw [List.mem_singleton.mp hb']
            exact show ¬ val ps pr (stepOf ps s.1 x b).1 + seamF s.2 (stepOf ps s.1 x b).2 pr = val ps pr s from of_decide_eq_false e
      · rintro Γj ⟨o2, hp1, hp2, rfl⟩
        have htake : s.1.take (i + 1) = s.1.take i ++ [x] := by rw [List.take_add_one, hx] <;> rfl
        refine gx_forget [5] (hN2 _ ⟨o2, hp1, fun h x' hx' b => ?_, rfl⟩)
        rw [htake] at hx'
        rcases List.mem_append.mp hx' with hx' | hx'
        · exact (hp2 h).1 x' hx' b
        · rw [List.mem_singleton.mp hx']
          exact (hp2 h).2 b (by cases b <;> simp)
    · rintro Γn ⟨o, ho1, ho2, rfl⟩
      dsimp only
      cases o with
      | none =>
        obtain ⟨y, hy, hh⟩ := hit_exists (ps := ps) (pr := pr) hn h0
        exact absurd hh (ho2 rfl y.1 (by rw [List.length_map, List.take_length]; exact hy) y.2)
      | some y =>
        obtain ⟨hy, hh⟩ := ho1 y rfl
        refine gx_seq (gx_append (R := rPair K y) (k := 0) (a := a) rfl ha rfl (by rw [List.length_map]; omega) (ea_cons (ev_var rfl) ea_nil) ?_)
        dsimp only
        refine gx_set (R := rSt K (stepOf ps s.1 y.1 y.2).1) (ev_var rfl) ?_
        refine gx_forget [10, 11] (gx_as (Γ' := cB P w K C ps pr L a (pl ++ [y]) (stepOf ps s.1 y.1 y.2).1 none none) (by simp [cB]) (hN (rest s.1 y.1).length _ ?_ ⟨pl ++ [y], _, hI.step hR hy hh, rfl, rfl⟩))
        have := rest_len hn hy
        omega
  · have h0 : s.1 = [] := by simpa using e
    refine gx_seal (k := 0) (i := 3) rfl ha rfl (R := rPlan K pl) (fun B ho h w => seal_lst h w) ?_
    have hk := kv_flOf (ps := ps) (pr := pr) (L := L)
    have hbest : Best ps pr (pl, L) := by
      have hp := hI.perm
      rw [h0, List.append_nil] at hp
      have hc := hI.cost
      have hv : val ps pr s = 0 := by
        unfold val
        rw [h0]
        rfl
      exact ⟨decide_eq_true hp, by show seamCost ps pl pr = _; omega, hR⟩
    refine gx_ret (ev_exI (P := Best ps pr) (F := fun x : Plan × List SSt => rSeamed P w K D x.1 (flOf ps pr x.2)) (i := (pl, L)) hbest (ev_seamed (flOf_ok hG hR) (ea_cons (ev_var rfl) (ea_cons (ev_var ?_) ea_nil)))) q
    rw [hk]
    rfl
end
end Sm
namespace Sm
open PySem PySem.Spec PyProof.Rows L2

abbrev s_runs_in : Stmt := top 38
def n_runs_in : List Str := ["values", "found", "value"]
theorem sc_runs_in : FnScope n_runs_in ["values"] (C8.fnScope s_runs_in) := C8.fnScope_by (by decide +kernel)
abbrev s_all_runs : Stmt := top 39
def n_all_runs : List Str := ["table", "place"]
theorem sc_all_runs : FnScope n_all_runs ["table"] (C8.fnScope s_all_runs) := C8.fnScope_by (by decide +kernel)
abbrev s_cost : Stmt := top 40
def n_cost : List Str := ["table", "prices", "price", "runs"]
theorem sc_cost : FnScope n_cost ["table", "prices"] (C8.fnScope s_cost) := C8.fnScope_by (by decide +kernel)
section
variable {P : Program} {w : World} {K : PySem.W.Frag} {mg : Str → Option Value} {base : Heap} {f f' : Addr} {fd fd' : FuncData} {C D p g : Addr}
/-! put_together_best -/
section
variable {ι : Type} {Pr : ι → Prop} {F : ι → Rep} {G : ι → Rep} {R S T : Rep} {Γ : Ctx} {te : TE} {sp : Sp}
theorem rsp_ex2 (h : ∀ i, Pr i → RSp sp [R, F i] (G i)) : RSp sp [R, rEx Pr F] (rEx Pr G) := fun vs B H c r Q E q => by
  obtain ⟨x, y, rfl, r1, i, hp, r2⟩ := all2_2 r
  exact h i hp [x, y] B H c (.cons r1 (.cons r2 .nil)) Q E fun v B2 H2 z rv => q v B2 H2 z ⟨i, hp, rv⟩
theorem ev_fldX {Fs : ι → List (Str × Rep)} {f : Str} {C : Addr} (c : Cls K C) (n : NoAttr K C f) (hl : ∀ i, (Fs i).lookup f = some (G i)) (h : Ev Γ te (rEx Pr fun i => rIns C (Fs i))) : Ev Γ (tFld K te f) (rEx Pr G) := fun σ B H x Q q => h σ B H x _ fun v B2 H2 y ⟨i, hp, a, dx, fs, e, ha, hf⟩ => by
  obtain ⟨u, e1, e2⟩ := hf.look (hl i)
  exact ⟨a, C, dx, fs, u, e, y.c _ _ ha, c, n, e1, q u B2 H2 y ⟨i, hp, e2⟩⟩
end
theorem part_len {ps : List Piece} {q : Int × Bool} : (partOf ps q).length = (pieceAt ps q.1).length := by
  unfold partOf
  cases q.2
  · rfl
  · exact List.length_reverse
theorem sum_perm {a b : List Nat} (h : a.Perm b) : a.sum = b.sum := by
  induction h with
  | nil => rfl
  | cons x _ ih => rw [List.sum_cons, List.sum_cons, ih]
  | swap x y l => rw [List.sum_cons, List.sum_cons, List.sum_cons, List.sum_cons]; omega
  | trans _ _ h1 h2 => exact h1.trans h2
theorem iota_map {ps : List Piece} : (iota ps.length).map (fun i => (pieceAt ps i).length) = ps.map List.length := by
  apply List.ext_getElem?
  intro i
  unfold iota
  rw [List.map_map, List.getElem?_map, List.getElem?_map]
  by_cases h : i < ps.length
  · rw [List.getElem?_range h, List.getElem?_eq_getElem h]
    show some (pieceAt ps (i : Int)).length = some ps[i].length
    unfold pieceAt
    rw [Int.toNat_natCast, List.getD_eq_getElem?_getD, List.getElem?_eq_getElem h]
    rfl
  · rw [List.getElem?_eq_none (by simpa using h), List.getElem?_eq_none (by omega)]
    rfl
theorem rows_len {ps : List Piece} {pl : Plan} (h : isPlan ps.length pl = true) : (rowsOf ps pl).length = (ps.map List.length).sum := by
  have hp : (pl.map (·.1)).Perm (iota ps.length) := of_decide_eq_true h
  have e : ∀ pl : Plan, (rowsOf ps pl).length = ((pl.map (·.1)).map fun i => (pieceAt ps i).length).sum := fun pl => by
    induction pl with
    | nil => rfl
    | cons q pl ih =>
      unfold rowsOf at ih ⊢
      rw [List.flatMap_cons, List.length_append, ih, List.map_cons, List.map_cons, List.sum_cons, part_len]
  rw [e, sum_perm (hp.map _), iota_map]
theorem rows_good {wd : Nat} {ps : List Piece} {pr : List Int} (hG : Game wd ps pr) {pl : Plan} (h : isPlan ps.length pl = true) : GoodT wd (rowsOf ps pl) := by
  have hl := rows_len h
  have n1 := hG.n1
  have w2 := hG.w2
  have h0 : ps[0]? = some ps[0] := List.getElem?_eq_getElem (by omega)
  have hm := List.mem_of_getElem? h0
  have := le_sum hm
  have := (hG.pc _ hm).1
  have := hG.tot
  refine ⟨by omega, by omega, hG.w1, by omega, fun r hr => ?_⟩
  unfold rowsOf at hr
  obtain ⟨q, hq, hr⟩ := List.mem_flatMap.mp hr
  obtain ⟨g0, g1⟩ := plan_in h q hq
  refine (hG.good (piece_mem g0 g1)).row r ?_
  unfold partOf at hr
  cases h2 : q.2 with
  | true => rw [h2] at hr; exact List.mem_reverse.mp hr
  | false => rw [h2] at hr; exact hr
theorem best_rsp {ps : List Piece} {pr : List Int} {wd : Nat} (hG : Game wd ps pr) : RSp (spBest P w K C D) [rSeq K (rTabs K C ps), rInts K pr] (rEx (Best ps pr) fun x => rSeamed P w K D x.1 (flOf ps pr x.2)) :=
  rsp_F (α := List Piece × Nat × List Int) (Rs := fun a => [rSeq K (rTabs K C a.1), rInts K a.2.2]) (T := fun a => rEx (Best a.1 a.2.2) fun x => rSeamed P w K D x.1 (flOf a.1 a.2.2 x.2)) (ps, wd, pr) hG
def spPtb (P : Program) (w : World) (K : PySem.W.Frag) (C : Addr) : Sp := SpF (α := List Piece × Nat × List Int) (fun a => [rSeq K (rTabs K C a.1), rInts K a.2.2]) (fun a => rEx (Best a.1 a.2.2) fun x => rTab K C (rowsOf a.1 x.1)) (fun a => Game a.2.1 a.1 a.2.2)
theorem put_rsp {ps : List Piece} {pl : Plan} {wd : Nat} (h1 : InPs ps.length pl) (h2 : GoodT wd (rowsOf ps pl)) : RSp (spPut K C) [rSeq K (rTabs K C ps), rPlan K pl] (rTab K C (rowsOf ps pl)) :=
  rsp_F (α := List Piece × Plan × Nat) (Rs := fun a => [rSeq K (rTabs K C a.1), rPlan K a.2.1]) (T := fun a => rTab K C (rowsOf a.1 a.2.1)) (pre := fun a => InPs a.1.length a.2.1 ∧ GoodT a.2.2 (rowsOf a.1 a.2.1)) (ps, pl, wd) ⟨h1, h2⟩
theorem ok_put_together_best (F : C8.Def K mg "put_together_best" s_put_together_best f fd) (b : Binds K fd ["pieces", "prices"] []) (T : Txt K mg C D p g) (G_put_plan : C8.Cal P w K mg base 5 "put_plan" (spPut K C) []) (G_best_seams : C8.Cal P w K mg base 4 "best_seams" (spBest P w K C D) []) :
    C8.Cal P w K mg base 6 "put_together_best" (spPtb P w K C) [] := by
  refine C8.cal0 F b .nil sc_put_together_best (sp_len fun _ => rfl) fun cdv A outer s H vs Q E hr h => ⟨_, (pss_one (ps_ret (C8.pe_c G_put_plan hr (by decide) (by rfl) (pa_cons (pv 0) (pa_cons (k_fld K (C8.pe_c G_best_seams hr (by decide) (by rfl) (pa_cons (pv 0) (pa_cons (pv 1) pa_nil))) rfl) pa_nil))))), sp_run (N := n_put_together_best) ?_ h⟩
  rintro ⟨ps, wd, pr⟩ (hG : Game wd ps pr) B0 H0 Q q
  exact gx_ret (ev_call rfl (rsp_ex2 (Pr := Best ps pr) (F := fun x : Plan × List SSt => rPlan K x.1) (G := fun x => rTab K C (rowsOf ps x.1)) fun x hx => put_rsp (plan_in hx.1) (rows_good hG hx.1))
    (ea_cons (ev_var rfl) (ea_cons (ev_fldX T.cl_Seamed T.n_plan (fun x => at_plan) (ev_call rfl (best_rsp hG) (ea_cons (ev_var rfl) (ea_cons (ev_var rfl) ea_nil)))) ea_nil))) q
/-! runs -/
abbrev Runs := List (Int × Int)
def runStep (acc : Runs) (v : Int) : Runs := match acc.getLast? with
  | none => acc ++ [(v, 1)]
  | some y => if y.1 = v then acc.set (acc.length - 1) (v, y.2 + 1) else acc ++ [(v, 1)]
def runsF (vs : List Int) : Runs := vs.foldl runStep []
abbrev rRun (K : PySem.W.Frag) (y : Int × Int) : Rep := rTup K [rD K (.int y.1), rD K (.int y.2)]
abbrev rRuns (K : PySem.W.Frag) (rs : Runs) : List Rep := rs.map (rRun K)
def ydata (y : Int × Int) : PyData := .tuple [.int y.1, .int y.2]
theorem ydata_rD {y : Int × Int} : rD K (ydata y) = ⟨fun B v => (rD K (ydata y)).p B v, (rD K (ydata y)).mono⟩ := rfl
theorem run_rD {y : Int × Int} {B : Hp} {v : V} : (rD K (ydata y)).p B v ↔ (rRun K y).p B v := by
  unfold ydata
  rw [rD_tup]
  exact Iff.rfl
theorem shaped_runs {l : Runs} : SeqAt.shaped (.list (l.map ydata)) = true := by
  have h : PyData.canLayAll0 (l.map ydata) = true ∧ PyData.depthAll (l.map ydata) ≤ 1 := by
    induction l with
    | nil => exact ⟨rfl, Nat.zero_le _⟩
    | cons s l ih =>
      rw [List.map_cons, PyData.canLayAll0, PyData.depthAll, ih.1]
      refine ⟨rfl, ?_⟩
      have := ih.2
      show max (max 0 (max 0 0) + 1) _ ≤ 1
      omega
  unfold SeqAt.shaped
  rw [PyData.canLay0, PyData.depth, h.1]
  simp
  have := h.2
  omega
theorem eqv_runs_nil {l : Runs} : PyData.eqv (.list (l.map ydata)) (.list []) = decide (l = []) := by
  cases l with
  | nil => rfl
  | cons a l => unfold PyData.eqv; simp [PyData.eqvAll]
theorem seal_runs {B : Hp} {a : Addr} {ho : HO} {l : Runs} (h : B a = some ho) (w : (oL (rRuns K l)).p B ho) : (rD K (.list (l.map ydata))).p B (.ref a) := by
  rw [rD_lst, List.map_map]
  obtain ⟨b, xs, e, hs, h2⟩ := seal_lst (K := K) h w
  refine ⟨b, xs, e, hs, ?_⟩
  clear h w hs e
  induction l generalizing xs with
  | nil => exact h2
  | cons y l ih =>
    cases h2 with
    | cons r1 r2 => exact .cons (run_rD.mpr r1) (ih _ r2)
def spRuns (K : PySem.W.Frag) : Sp := SpF (α := List Int) (fun a => [rLst K (a.map fun n => rD K (.int n))]) (fun a => rLst K (rRuns K (runsF a))) (fun a => a.length ≤ 1000)
theorem runs_len : ∀ (vs : List Int) (acc : Runs), (vs.foldl runStep acc).length ≤ acc.length + vs.length
  | [], acc => by simp
  | v :: vs, acc => by
    have h : (runStep acc v).length ≤ acc.length + 1 := by
      unfold runStep
      split
      · simp
      · split
        · rw [List.length_set]; omega
        · simp
    have := runs_len vs (runStep acc v)
    rw [List.foldl_cons, List.length_cons]
    omega
theorem ok_runs_in (F : C8.Def K mg "runs_in" s_runs_in f fd) (b : Binds K fd ["values"] []) (T : Txt K mg C D p g) : C8.Cal P w K mg base 1 "runs_in" (spRuns K) [] := by
  refine C8.cal0 F b .nil sc_runs_in (sp_len fun _ => rfl) fun cdv A outer s H vs Q E hr h => ⟨_, (pss_cons (ps_set (i := 1) sc_runs_in.nd rfl (Or.inl rfl) (pe_lst pa_nil))
      (pss_cons (ps_for PassesOwn.never rfl (k_sq K (pv 0)) (pg_name (i := 2) sc_runs_in.nd rfl (Or.inl rfl)) (pss_one (ps_if (PW.pt (pw_and (pt_cmpR (k_neD K hr.units) (pv 1) (pe_lst pa_nil) (nomark _)) (pw_and1 (pt_cmpR (k_eqD K hr.units) (k_ix K (k_ix K (pv 1) (pe_un un_neg pe_int) (fun _ _ => rfl)) pe_int (fun _ _ => rfl)) (pv 2) (nomark _))))) (pss_one (ps_asg (pe_tup (pa_cons (pv 2) (pa_cons (pe_op op_add (k_ix K (k_ix K (pv 1) (pe_un un_neg pe_int) (fun _ _ => rfl)) pe_int (fun _ _ => rfl)) pe_int) pa_nil))) (pg_sub (pv 1) (pe_un un_neg pe_int) set_list))) (pss_one (ps_expr (k_append K (pv 1) (pa_cons (pe_tup (pa_cons (pv 2) (pa_cons pe_int pa_nil))) pa_nil)))))))
      (pss_one (ps_ret (pv 1))))), sp_run (N := n_runs_in) ?_ h⟩
  rintro vs (hv : vs.length ≤ 1000) B0 H0 Q q
  refine gx_seq (gx_own (W := oL []) (eo_lst ea_nil (by simp)) fun a ha => ?_)
  dsimp only
  refine gx_seq (gx_forE (fun i => Ctx.mk [some (rLst K (vs.map fun n => rD K (.int n))), some (rV (.ref a)), none] [(a, oL (rRuns K ((vs.take i).foldl runStep [])))]) ?_ (ei_sq (ev_sqL (ev_var (i := 0) (R := rLst K (vs.map fun n => rD K (.int n))) rfl))) (fun B1 H1 nx i R hR => ?_) ?_)
  · simp [ctxOf, n_runs_in, rRuns]
  · obtain ⟨v, hv1, rfl⟩ := map_at hR
    have hstep : (vs.take (i + 1)).foldl runStep [] = runStep ((vs.take i).foldl runStep []) v := by
      rw [List.take_add_one, hv1, List.foldl_append]
      rfl
    have hlen : ((vs.take i).foldl runStep []).length ≤ 1000 := by
      have := runs_len (vs.take i) []
      rw [List.length_take] at this
      simp at this
      omega
    refine ⟨_, eg_name, fun N k => ?_⟩
    rw [hstep] at k
    generalize (vs.take i).foldl runStep [] = acc at hlen k
    have tne : EvT (Ctx.mk [some (rLst K (vs.map fun n => rD K (.int n))), some (rV (.ref a)), some (rD K (.int v))] [(a, oL (rRuns K acc))]) (tTest (tOp (rNeD K) (tVar 1) (tLst tNil))) (!decide (acc = [])) := by
      refine et_cmp (K := K) (ev_peek (k := 0) (i := 1) (a := a) rfl rfl (fun B ho h w => seal_runs h w) flat_bool (ev_op (S := rLst K []) (T := rD K (.bool (!decide (acc = [])))) ?_ (ev_var rfl) (ev_lst ea_nil (by simp))))
      have z := rv_neD (K := K) (d := .list (acc.map ydata)) (e := .list []) shaped_runs rfl
      rw [eqv_runs_nil] at z
      intro x y B H c rx ry Q q
      exact z x y B H c rx (rD_lst.mpr ry) Q q
    rcases List.eq_nil_or_concat acc with he | ⟨acc0, y, he⟩
    · subst he
      refine gx_ifF (b := false) (EvT.eq (et_and (a := false) (b := true) tne fun e => by cases e) rfl) rfl ?_
      exact gx_append (R := rRun K (v, 1)) (k := 0) (a := a) rfl ha rfl (by simp) (ea_cons (ev_tup (ea_cons (ev_var rfl) (ea_cons ev_int ea_nil)) (by simp)) ea_nil) (gx_drop_slot 2 k)
    · have hne : acc ≠ [] := by rw [he]; simp
      have hlast : acc.getLast? = some y := by rw [he]; simp
      have hl1 : 0 < acc.length := List.length_pos_iff.mpr hne
      have hat : acc[acc.length - 1]? = some y := by rw [← List.getLast?_eq_getElem?]; exact hlast
      have hix : ixN (rRuns K acc).length (-1) = some (acc.length - 1) := by rw [List.length_map]; exact ixN_last hl1
      have hrat : (rRuns K acc)[acc.length - 1]? = some (rRun K y) := by rw [List.getElem?_map, hat] <;> rfl
      have hstep2 : runStep acc v = if y.1 = v then acc.set (acc.length - 1) (v, y.2 + 1) else acc ++ [(v, 1)] := by unfold runStep; rw [hlast]
      rw [decide_eq_false hne] at tne
      refine gx_if (b := true && decide (y.1 = v)) (et_and (a := true) (b := decide (y.1 = v)) tne fun _ => et_cmp (ev_op rv_eqDI (ev_op (rv_xT (j := 0) rfl rfl) (ev_ixO (k := 0) (i := 1) (a := a) rfl rfl (ev_un rv_neg ev_int) hix hrat) ev_int) (ev_var rfl))) (fun e => ?_) fun e => ?_
      · have hv : y.1 = v := of_decide_eq_true e
        rw [hstep2, if_pos hv] at k
        refine gx_lset (K := K) (R := rRun K (v, y.2 + 1)) (k := 0) (i := 1) (a := a) (n := acc.length - 1) (j := -1) rfl ha rfl (ev_tup (ea_cons (ev_var rfl) (ea_cons (ev_op rv_I0 (ev_op (rv_xT (j := 1) rfl rfl) (ev_ixO (k := 0) (i := 1) (a := a) rfl rfl (ev_un rv_neg ev_int) hix hrat) ev_int) ev_int) ea_nil)) (by simp)) (ev_un rv_neg ev_int) hix ?_
        refine gx_drop_slot 2 ?_
        have es : rRuns K (acc.set (acc.length - 1) (v, y.2 + 1)) = (rRuns K acc).set (acc.length - 1) (rRun K (v, y.2 + 1)) := List.map_set
        rw [es] at k
        exact k
      · have hv : ¬ y.1 = v := of_decide_eq_false e
        rw [hstep2, if_neg hv] at k
        have es : rRuns K (acc ++ [(v, 1)]) = rRuns K acc ++ [rRun K (v, 1)] := List.map_append
        rw [es] at k
        exact gx_append (R := rRun K (v, 1)) (k := 0) (a := a) rfl ha rfl (by rw [List.length_map]; omega) (ea_cons (ev_tup (ea_cons (ev_var rfl) (ea_cons ev_int ea_nil)) (by simp)) ea_nil) (gx_drop_slot 2 k)
  · rw [List.length_map, List.take_length]
    refine gx_seal (k := 0) (i := 1) rfl ha rfl (R := rLst K (rRuns K (runsF vs))) (fun B ho h w => seal_lst h w) ?_
    exact gx_ret (ev_var rfl) q
/-! all_runs, cost -/
def spAll (K : PySem.W.Frag) (C : Addr) : Sp := SpF (α := List (List Int) × Nat) (fun a => [rTab K C a.1]) (fun a => rLst K (((iota a.2).map fun j => runsF (colF a.1 j.toNat)).map fun rs => rLst K (rRuns K rs))) (fun a => GoodT a.2 a.1)
theorem ok_all_runs (F : C8.Def K mg "all_runs" s_all_runs f fd) (b : Binds K fd ["table"] []) (T : Txt K mg C D p g) (G_check_table : C8.Cal P w K mg base 1 "check_table" (spCheckT K C) []) (G_runs_in : C8.Cal P w K mg base 1 "runs_in" (spRuns K) [])
    (M_column : C8.Met P w K mg base 4 C "column" (spCol K C) []) (G_width : FnOk P w K mg base C8.CX0 1 g fd' ["self"] (spWidth K C)) (b_width : Binds K fd' ["self"] []) : C8.Cal P w K mg base 5 "all_runs" (spAll K C) [] := by
  refine C8.cal0 F b .nil sc_all_runs (sp_len fun _ => rfl) fun cdv A outer s H vs Q E hr h => ⟨_, (pss_cons (ps_expr (C8.pe_c G_check_table hr (by decide) (by rfl) (pa_cons (pv 0) pa_nil)))
      (pss_one (ps_ret (pe_lc (own := [("place", 1)]) rfl sc_all_runs.nd (pi_range1 (by rfl) T.b.range (pa_cons (pe_prop (E := C8.E0) (pv 0) T.cl_Table T.p_width G_width (hr.mono (by decide)) b_width .nil C8.pass0 rfl) pa_nil)) (blkOk_by (N := n_all_runs) (sc := C8.fnScope s_all_runs) (by decide +kernel)) (fun _ _ _ _ _ => (pg_name (i := 1) sc_all_runs.nd rfl (Or.inl rfl))) (fun _ _ _ _ _ => pts_nil) (fun _ _ _ _ _ => (C8.pe_c G_runs_in hr (by decide) (by rfl) (pa_cons (C8.pe_mt M_column hr (by decide) (pv 0) (pa_cons (pv 1) pa_nil)) pa_nil))))))), sp_run (N := n_all_runs) ?_ h⟩
  rintro ⟨rows, wd⟩ (hg : GoodT wd rows) B0 H0 Q q
  have w2 := hg.w2
  have n2 := hg.n2
  refine gx_seq (gx_drop (ev_call rfl (rsp_F (α := List (List Int)) (Rs := fun a => [rTab K C a]) (T := fun _ => rD K .none) (pre := fun _ => True) rows trivial) (ea_cons (ev_var rfl) ea_nil)) ?_)
  refine gx_ret (ev_lcF (f := fun j : Int => runsF (colF rows j.toNat)) (G := fun rs => rLst K (rRuns K rs)) (R := fun j : Int => rD K (.int j)) (iota wd) (by rw [iota_len]; omega) (ei_iota (by omega) (ea_cons (ev_prop (ev_var rfl) (width_rsp hg)) ea_nil)) (si_name (by decide)) fun j hj => ⟨_, eg_name, ?_⟩) q
  obtain ⟨g0, g1⟩ := iota_mem.mp hj
  have hjn : ((j.toNat : Nat) : Int) = j := by omega
  have hcol : RSp (spCol K C) [rTab K C rows, rD K (.int j)] (rLst K ((colF rows j.toNat).map fun n => rD K (.int n))) := by
    have z := rsp_F (α := List (List Int) × Nat × Nat) (Rs := fun a => [rTab K C a.1, rD K (.int a.2.2)]) (T := fun a => rLst K ((colF a.1 a.2.2).map fun n => rD K (.int n))) (pre := fun a => GoodT a.2.1 a.1 ∧ a.2.2 < a.2.1) (rows, wd, j.toNat) ⟨hg, by show j.toNat < wd; omega⟩
    have z2 : RSp (spCol K C) [rTab K C rows, rD K (.int ((j.toNat : Nat) : Int))] (rLst K ((colF rows j.toNat).map fun n => rD K (.int n))) := z
    rw [hjn] at z2
    exact z2
  exact ev_call rfl (rsp_F (α := List Int) (Rs := fun a => [rLst K (a.map fun n => rD K (.int n))]) (T := fun a => rLst K (rRuns K (runsF a))) (pre := fun a => a.length ≤ 1000) (colF rows j.toNat) (by show (colF rows j.toNat).length ≤ 1000; unfold colF; rw [List.length_map]; omega))
    (ea_cons (ev_meth rfl (ev_var rfl) (ea_cons (ev_var rfl) ea_nil) hcol) ea_nil)
def costT (rows : List (List Int)) (wd : Nat) (pr : List Int) : Int := ((pr.zip ((iota wd).map fun j => runsF (colF rows j.toNat))).map fun q => q.1 * (q.2.length : Int)).sum
def spCostT (K : PySem.W.Frag) (C : Addr) : Sp := SpF (α := List (List Int) × Nat × List Int) (fun a => [rTab K C a.1, rInts K a.2.2]) (fun a => rD K (.int (costT a.1 a.2.1 a.2.2))) (fun a => GoodT a.2.1 a.1 ∧ Row 9 a.2.1 a.2.2)
theorem zip_runs {pr : List Int} {rs : List Runs} : ((pr.map fun n => rD K (.int n)).zip (rs.map fun r => rLst K (rRuns K r))).map (fun p => rTup K [p.1, p.2]) = (pr.zip rs).map fun q => rTup K [rD K (.int q.1), rLst K (rRuns K q.2)] := by
  rw [List.zip_map, List.map_map]
  rfl
theorem ok_cost (F : C8.Def K mg "cost" s_cost f fd) (b : Binds K fd ["table", "prices"] []) (T : Txt K mg C D p g) (G_check_table : C8.Cal P w K mg base 1 "check_table" (spCheckT K C) []) (G_check_prices : C8.Cal P w K mg base 3 "check_prices" (spCheckP K C) []) (G_all_runs : C8.Cal P w K mg base 5 "all_runs" (spAll K C) []) :
    C8.Cal P w K mg base 6 "cost" (spCostT K C) [] := by
  refine C8.cal0 F b .nil sc_cost (sp_len fun _ => rfl) fun cdv A outer s H vs Q E hr h => ⟨_, (pss_cons (ps_expr (C8.pe_c G_check_table hr (by decide) (by rfl) (pa_cons (pv 0) pa_nil)))
      (pss_cons (ps_expr (C8.pe_c G_check_prices hr (by decide) (by rfl) (pa_cons (pv 0) (pa_cons (pv 1) pa_nil))))
      (pss_one (ps_ret (pe_callB (k_sum K rfl) (by rfl) T.b.sum (by decide +kernel) (pa_cons (pe_lc (own := [("price", 2), ("runs", 3)]) rfl sc_cost.nd (k_z2 K (by rfl) T.b.zip (pa_cons (pv 1) (pa_cons (C8.pe_c G_all_runs hr (by decide) (by rfl) (pa_cons (pv 0) pa_nil)) pa_nil))) (blkOk_by (N := n_cost) (sc := C8.fnScope s_cost) (by decide +kernel)) (fun _ _ _ _ _ => (k_tup K (n := 2) rfl (pgs_cons (pg_name (i := 2) sc_cost.nd rfl (Or.inl rfl)) (pgs_cons (pg_name (i := 3) sc_cost.nd rfl (Or.inl rfl)) pgs_nil)))) (fun _ _ _ _ _ => pts_nil) (fun _ _ _ _ _ => (pe_op op_mul (pv 2) (pe_callB (k_len K) (by rfl) T.b.len (by decide +kernel) (pa_cons (pv 3) pa_nil))))) pa_nil)))))), sp_run (N := n_cost) ?_ h⟩
  rintro ⟨rows, wd, pr⟩ ⟨(hg : GoodT wd rows), (hp : Row 9 wd pr)⟩ B0 H0 Q q
  have w2 := hg.w2
  have hl := hp.1
  refine gx_seq (gx_drop (ev_call rfl (rsp_F (α := List (List Int)) (Rs := fun a => [rTab K C a]) (T := fun _ => rD K .none) (pre := fun _ => True) rows trivial) (ea_cons (ev_var rfl) ea_nil)) ?_)
  dsimp only
  refine gx_seq (gx_drop (ev_call rfl (rsp_F (α := List (List Int) × Nat × List Int) (Rs := fun a => [rTab K C a.1, rInts K a.2.2]) (T := fun _ => rD K .none) (pre := fun a => GoodT a.2.1 a.1 ∧ Row 9 a.2.1 a.2.2) (rows, wd, pr) ⟨hg, hp⟩) (ea_cons (ev_var rfl) (ea_cons (ev_var rfl) ea_nil))) ?_)
  have hall : RSp (spAll K C) [rTab K C rows] (rLst K (((iota wd).map fun j => runsF (colF rows j.toNat)).map fun rs => rLst K (rRuns K rs))) := rsp_F (α := List (List Int) × Nat) (Rs := fun a => [rTab K C a.1]) (T := fun a => rLst K (((iota a.2).map fun j : Int => runsF (colF a.1 j.toNat)).map fun rs => rLst K (rRuns K rs))) (pre := fun a => GoodT a.2 a.1) (rows, wd) hg
  have hi := ei_z2 (K := K) (Γ := ctxOf n_cost [rTab K C rows, rInts K pr]) (ea_cons (ev_sqT (ev_var (i := 1) rfl)) (ea_cons (ev_sqL (ev_call (E := C8.E0) rfl hall (ea_cons (ev_var (i := 0) rfl) ea_nil))) ea_nil))
  rw [zip_runs] at hi
  have hmul : ∀ q ∈ pr.zip ((iota wd).map fun j => runsF (colF rows j.toNat)), CMul q.1 (q.2.length : Int) := fun q hq => by
    have hm := hp.2 q.1 (List.of_mem_zip (show (q.1, q.2) ∈ _ from hq)).1
    exact .inl ⟨by omega, by omega⟩
  dsimp only
  refine gx_ret (ev_sumC (f := fun q : Int × Runs => q.1 * (q.2.length : Int)) _ ?_ hi ?_ fun q hq => ⟨_, eg_tup2, ev_op (rv_I (hmul q hq)) (ev_var rfl) ((ev_cb rvs_lenL (ea_cons (ev_var rfl) ea_nil)).eq (by rw [List.length_map]))⟩) q
  · rw [List.length_zip]
    omega
  · exact si_tup2 (by decide) (by decide)
end
end Sm
namespace Sm
open PySem PySem.Spec PyProof.Rows L2
/-! ### the draw: a list of the script and of a count that nobody looks at -/
def DrawAt (a a0 : Addr) (h : Heap) : Prop := ∃ (i : Int) (t : Tok) (n : Nat), h.get? a = some { cls := .type "list", data := .seq [Value.ref a0, .int i t].toArray n }
def drO (a a0 : Addr) : HO := .ext (DrawAt a a0)
theorem drO_ok {P : Program} {w : World} {H : Hp} {h : Heap} {a a0 : Addr} (d : DrawAt a a0 h) : ObjOk P w H h a (drO a a0) :=
  ⟨d, (let ⟨_, _, _, e⟩ := d; ⟨_, e⟩), fun h1 h2 ⟨i, t, n, e⟩ k => ⟨i, t, n, k _ e⟩⟩
theorem upd_self {H : Hp} {a : Addr} {o : HO} (h : H a = some o) : upd H a o = H := by
  funext b
  by_cases e : b = a
  · subst e
    rw [upd_same, h]
  · rw [upd_ne e]
def rScr (K : PySem.W.Frag) (ns : List Int) : Rep := rLst K (ns.map fun n => rD K (.int n))
def rDraw (K : PySem.W.Frag) (ns : List Int) : Rep := ⟨fun B v => ∃ a a0, v = .ref a ∧ B a = some (drO a a0) ∧ (rScr K ns).p B (.ref a0), fun B B' v e ⟨a, a0, h1, h2, h3⟩ => ⟨a, a0, h1, e _ _ h2, (rScr K ns).mono _ _ _ e h3⟩⟩
def rAny (K : PySem.W.Frag) : Rep := rEx (fun _ : Int => True) fun i => rD K (.int i)
def tDrawNew (tl : TA) : TE := fun σ H Q => tl σ H fun vs H1 => ∃ a0 i, vs = [.ref a0, .int i] ∧ ∀ p, H1 p = none → Q (.ref p) (upd H1 p (drO p a0))
def rIxD : R2 := fun x y H Q => ∃ a a0, x = .ref a ∧ H a = some (drO a a0) ∧ ((y = .int 0 ∧ Q (.ref a0) H) ∨ (y = .int 1 ∧ ∀ i, Q (.int i) H))
def rSetDr : TSet := fun x i v H Q => ∃ a a0 n, x = .ref a ∧ i = .int 1 ∧ v = .int n ∧ H a = some (drO a a0) ∧ Q H
section
variable {X : Cx} {a b : Expr} {es : List Expr} {ta tb : TE} {tl : TA} {pos : Pos}
theorem k_drawNew (h : PA X es tl) : PE X (.List es pos) (tDrawNew tl) := by
  refine ⟨fun pins s σ H Q I hq => ?_⟩
  refine wpAny_List_spliced (thn (h.run pos pins s σ H _ I hq) fun us s1 ⟨xs, H1, I1, r, a0, i, ex, q⟩ => ?_)
  subst ex
  cases r with
  | cons r1 r =>
    cases r with
    | cons r2 r =>
      cases r
      cases r1
      obtain ⟨t, rfl⟩ := r2
      have hf : H1 s1.heap.objs.size = none := I1.hok.fresh (Nat.le_refl _)
      refine ⟨Evl.sz_of (by show 2 ≤ 100000; decide), .ref s1.heap.objs.size, upd H1 s1.heap.objs.size (drO s1.heap.objs.size a0), I1.laid (t' := s1.toks) (fun b u e => Heap.get?_push_of_some _ e) (Nat.le_refl _) ?_, rfl, q _ hf⟩
      exact drO_ok ⟨i, t, 0, Heap.get?_push_size _ rfl⟩
theorem ix_draw : IxR X rIxD := by
  intro value slice pins s σ H x y v u Q I rx ry h hs
  obtain ⟨a, a0, rfl, ha, h⟩ := h
  cases rx
  obtain ⟨i, t, n, e⟩ : DrawAt a a0 s.heap := (I.hok a _ ha).1
  have pl : s.heap.IsList a [Value.ref a0, .int i t].toArray := ⟨_, e, rfl, n, rfl⟩
  rcases h with ⟨rfl, q⟩ | ⟨rfl, q⟩
  · obtain ⟨t2, rfl⟩ := ry
    exact item_listR pl (by omega) (by simp) (by rfl) ⟨.ref a0, H, I, rfl, q⟩ hs
  · obtain ⟨t2, rfl⟩ := ry
    exact item_listR pl (by omega) (by simp) (by rfl) ⟨.int i, H, I, ⟨t, rfl⟩, q i⟩ hs
theorem k_ixD (ha : PE X a ta) (hb : PE X b tb) (hs : PlainIx b) : PE X (.Subscript a b pos) (tOp rIxD ta tb) := pe_ix ix_draw ha hb hs
theorem set_draw : PSet X rSetDr := by
  intro pins s σ H o i v ov iv u Q I ro ri rv h
  obtain ⟨a, a0, n, rfl, rfl, rfl, ha, q⟩ := h
  cases ro
  obtain ⟨t, rfl⟩ := ri
  obtain ⟨tn, rfl⟩ := rv
  obtain ⟨i0, t0, n0, e⟩ : DrawAt a a0 s.heap := (I.hok a _ ha).1
  have hf := mapSeq_set [Value.ref a0, .int i0 t0] n0 1 (.int n tn)
  have e2 : (s.heap.update a (Obj.mapSeq (·.setIfInBounds 1 (.int n tn)))).get? a = some { cls := .type "list", data := .seq [Value.ref a0, .int n tn].toArray n0 } := by
    rw [Heap.get?_update_self _ e (by rw [hf] <;> rfl), hf]
    rfl
  have I' : Inv X pins σ (upd H a (drO a a0)) { s with heap := s.heap.update a (Obj.mapSeq (·.setIfInBounds 1 (.int n tn))) } :=
    I.write (x := a) (e := a) (t' := s.toks) (by rw [ha]; exact True.intro) (.inl rfl) (fun b u hb q => (Heap.get?_update_other _ _ (Ne.symm hb)).trans q) ⟨_, e2⟩ (drO_ok ⟨n, tn, n0, e2⟩)
  rw [upd_self ha] at I'
  exact PySem.W.ki_setAt e (by omega) (by have := line63; omega) (by simp) ⟨_, I', q⟩
end
section
variable {K : PySem.W.Frag} {Γ : Ctx} {te ti : TE} {tl : TA} {ns : List Int} {B0 H0 : Hp} {D : L2.Ends} {n : Int}
theorem rv_draw0 : RV2 rIxD (rDraw K ns) (rD K (.int 0)) (rScr K ns) := fun x y B H c ⟨a, a0, ex, ha, hs⟩ ry Q q => ⟨a, a0, ex, c _ _ ha, .inl ⟨rD_int.mp ry, q _ B H (Nx.refl c) hs⟩⟩
theorem rv_draw1 : RV2 rIxD (rDraw K ns) (rD K (.int 1)) (rAny K) := fun x y B H c ⟨a, a0, ex, ha, hs⟩ ry Q q => ⟨a, a0, ex, c _ _ ha, .inr ⟨rD_int.mp ry, fun i => q _ B H (Nx.refl c) ⟨i, trivial, rD_int.mpr rfl⟩⟩⟩
theorem gx_drawSet {to : TE} (hv : Ev Γ te (rAny K)) (ho : Ev Γ to (rDraw K ns)) (hb : Ev Γ ti (rD K (.int 1))) (c : Gx B0 H0 Γ D.nx) : Gx B0 H0 Γ (tAsg te (gSub to ti rSetDr) D) := fun σ H ⟨B, x, t⟩ =>
  hv σ B H t _ fun v B2 H2 y ⟨n, _, rv⟩ => ho σ B2 H2 (t.next y) _ fun u B3 H3 z ⟨a, a0, eu, ha, hs⟩ => hb σ B3 H3 ((t.next y).next z) _ fun w B4 H4 k rw =>
    ⟨a, a0, n, eu, rD_int.mp rw, rD_int.mp rv, (k.b.trans k.c) _ _ ha, c σ H4 ⟨B4, ((x.trans y).trans z).trans k, ((t.next y).next z).next k⟩⟩
theorem ev_drawNew (h : EvA Γ tl [rScr K ns, rD K (.int n)]) : Ev Γ (tDrawNew tl) (rDraw K ns) := fun σ B H x Q q => h σ B H x _ fun vs B2 H2 y rs => by
  obtain ⟨u, v, rfl, r1, r2⟩ := all2_2 rs
  obtain ⟨a0, xs, rfl, hs, h2⟩ := id r1
  cases rD_int.mp r2
  exact ⟨a0, n, rfl, fun p hp => q _ (upd B2 p (drO p a0)) _ (y.trans (Nx.new y.c hp)) ⟨p, a0, rfl, upd_same, (rScr K ns).mono _ _ _ (same_new (none_sub y.c hp)) r1⟩⟩
/-- a test that may come out either way -/
def EvTX (Γ : Ctx) (t : TT) : Prop := ∀ σ B H, At Γ B H σ → ∀ Q : Bool → Hp → Prop, (∀ b B' H', Nx B H B' H' → Q b H') → t σ H Q
theorem etx_cmp (h : Ev Γ te (rEx (fun _ : Bool => True) fun b => rD K (.bool b))) : EvTX Γ (tTest te) := fun σ B H x Q q => h σ B H x _ fun v B2 H2 y ⟨b, _, r⟩ => ⟨b, rD_bl.mp r, q b B2 H2 y⟩
theorem ev_ifX {t : TT} {ta tb : TE} {R : Rep} (h : EvTX Γ t) (h1 : Ev Γ ta R) (h2 : Ev Γ tb R) : Ev Γ (tIf t ta tb) R := fun σ B H x Q q => h σ B H x _ fun b B2 H2 y => by
  cases b with
  | true => exact h1 σ B2 H2 (x.next y) Q fun v B3 H3 z => q v B3 H3 (y.trans z)
  | false => exact h2 σ B2 H2 (x.next y) Q fun v B3 H3 z => q v B3 H3 (y.trans z)
theorem rv_any {r : R2} {R S : Rep} {f : Int} (h : RV2 r R S (rD K (.int f))) : RV2 r R S (rAny K) := fun x y B H c rx ry Q q => h x y B H c rx ry Q fun v B2 H2 z rv => q v B2 H2 z ⟨f, trivial, rv⟩
theorem zip_const {α ι : Type} {R : ι → Rep} : ∀ {ls : List α} {is : List ι}, is.length = ls.length → (ls.zip is).map (fun p => R p.2) = is.map R
  | [], is, e => by
    have := List.length_eq_zero_iff.mp e
    subst this
    rfl
  | l :: ls, [], e => by cases e
  | l :: ls, i :: is, e => by rw [List.zip_cons_cons, List.map_cons, List.map_cons, zip_const (by simpa using e)]
/-- a comprehension of things that some index tells -/
theorem ev_lstX {α ι : Type} {P : ι → Prop} {R : ι → Rep} {ls : List α} (h : Ev Γ te (rLst K (ls.map fun _ => rEx P R))) : Ev Γ te (rEx (fun is : List ι => is.length = ls.length ∧ ∀ i ∈ is, P i) fun is => rLst K (is.map R)) := h.imp fun B v ⟨a, xs, e, hs, h2⟩ => by
  obtain ⟨is, e1, e2, e3⟩ := all2_ex (R := fun (_ : α) i => R i) (P := fun _ => P) h2
  have em := zip_const (R := R) e1
  refine ⟨is, ⟨e1, fun i hi => ?_⟩, a, xs, e, hs, by rw [← em]; exact e3⟩
  obtain ⟨j, hj⟩ := List.mem_iff_getElem?.mp hi
  have hjl := (List.getElem?_eq_some_iff.mp hj).1
  have hl : j < ls.length := by omega
  exact e2 (ls[j], i) (List.mem_of_getElem? (i := j) (by rw [List.getElem?_zip_eq_some]; exact ⟨List.getElem?_eq_getElem hl, hj⟩))
end
end Sm
namespace Sm
open PySem PySem.Spec PyProof.Rows L2

abbrev s__law_number : Stmt := top 42
def n__law_number : List Str := ["_law_script", "_law_index", "_law_cells", "_law_cell", "_law_low", "_law_high", "_law_total", "_law_blend"]
theorem sc__law_number : FnScope n__law_number ["_law_script", "_law_index"] (C8.fnScope s__law_number) := C8.fnScope_by (by decide +kernel)
abbrev s__law_take : Stmt := top 43
def n__law_take : List Str := ["_law_draw", "_law_many"]
theorem sc__law_take : FnScope n__law_take ["_law_draw", "_law_many"] (C8.fnScope s__law_take) := C8.fnScope_by (by decide +kernel)
abbrev s__law_pick : Stmt := top 44
def n__law_pick : List Str := ["_law_draw", "_law_things"]
theorem sc__law_pick : FnScope n__law_pick ["_law_draw", "_law_things"] (C8.fnScope s__law_pick) := C8.fnScope_by (by decide +kernel)
abbrev s__law_prices : Stmt := top 45
def n__law_prices : List Str := ["_law_draw", "_law_width", "_law_place"]
theorem sc__law_prices : FnScope n__law_prices ["_law_draw", "_law_width"] (C8.fnScope s__law_prices) := C8.fnScope_by (by decide +kernel)
abbrev s__law_given : Stmt := top 47
def n__law_given : List Str := ["_law_draw", "_law_rows"]
theorem sc__law_given : FnScope n__law_given ["_law_draw", "_law_rows"] (C8.fnScope s__law_given) := C8.fnScope_by (by decide +kernel)
abbrev s__law_distance : Stmt := top 48
def n__law_distance : List Str := ["_law_one", "_law_other", "_law_prices_here", "_law_mine", "_law_theirs", "_law_price"]
theorem sc__law_distance : FnScope n__law_distance ["_law_one", "_law_other", "_law_prices_here"] (C8.fnScope s__law_distance) := C8.fnScope_by (by decide +kernel)
section
variable {P : Program} {w : World} {K : PySem.W.Frag} {mg : Str → Option Value} {base : Heap} {f f' : Addr} {fd fd' : FuncData} {C D p g : Addr}
theorem cutR_map {α β : Type} {g : α → β} {l : List α} {lo hi : Option Int} : cutR (l.map g) lo hi = (cutR l lo hi).map g := by
  unfold cutR
  rw [List.length_map, List.map_take, List.map_drop]
theorem cut63 {ns : List Int} : cutR ns none (some 63) = ns.take 63 := by
  unfold cutR
  have q := HT.sIx_nat ns.length ns.length 63
  rw [show ((63 : Nat) : Int) = 63 from rfl] at q
  rw [q, HT.sIx_none, List.drop_zero, Nat.sub_zero, List.take_eq_take_iff]
  omega
theorem cmulR {i j : Int} (h0 : 0 ≤ j) (h1 : j < 2 ^ 64) : CMul i j := .inr ⟨by omega, h1⟩
theorem cmulL {i j : Int} (h0 : 0 ≤ i) (h1 : i < 2 ^ 64) : CMul i j := .inl ⟨by omega, h1⟩
theorem ev_intOf {Γ : Ctx} {te : TE} {i : Int} (h : Ev Γ te (rD K (.int i))) : Ev Γ (tCB rIntOf (tCons te tNil)) (rD K (.int i)) := ev_cb rvs_int1 (ea_cons h ea_nil)
theorem ev_anyI {Γ : Ctx} {te : TE} {i : Int} (h : Ev Γ te (rD K (.int i))) : Ev Γ te (rAny K) := ev_exI (i := i) trivial h
def spNumL (K : PySem.W.Frag) : Sp := SpF (α := List Int × Int) (fun a => [rScr K a.1, rD K (.int a.2)]) (fun _ => rAny K) (fun a => a.1.length ≤ 63)
theorem ok_law_number (F : C8.Def K mg "_law_number" s__law_number f fd) (b : Binds K fd ["_law_script", "_law_index"] []) (T : Txt K mg C D p g) : C8.Cal P w K mg base 1 "_law_number" (spNumL K) [] := by
  refine C8.cal0 F b .nil sc__law_number (sp_len fun _ => rfl) fun cdv A outer s H vs Q E hr h => ⟨_, (pss_cons (ps_set (i := 2) sc__law_number.nd rfl (Or.inl rfl) (pe_ifExp (pt_cmpR (k_neD K hr.units) (pv 0) (pe_lst pa_nil) (nomark _)) (pe_slice (k_slL K) (pv 0) po_none (po_some pe_int)) (pe_lst (pa_cons pe_int pa_nil))))
      (pss_cons (ps_set (i := 3) sc__law_number.nd rfl (Or.inl rfl) (pe_op op_add (k_ix K (pv 2) (pe_op op_mod (pe_callTy k_int (by rfl) T.b.int (by decide +kernel) (pa_cons (pv 1) pa_nil)) (pe_callB (k_len K) (by rfl) T.b.len (by decide +kernel) (pa_cons (pv 2) pa_nil))) (fun _ _ => rfl)) (pe_op op_mul pe_int (pe_op op_fdivN (pv 1) (pe_callB (k_len K) (by rfl) T.b.len (by decide +kernel) (pa_cons (pv 2) pa_nil))))))
      (pss_cons (ps_par (i := 4) (j := 5) (by rfl) sc__law_number.nd rfl rfl (by decide) rfl rfl (pa_cons (pe_op op_mod (pe_callTy k_int (by rfl) T.b.int (by decide +kernel) (pa_cons (pv 3) pa_nil)) pe_int) (pa_cons (pe_op op_mod (pe_callTy k_int (by rfl) T.b.int (by decide +kernel) (pa_cons (pe_op op_fdivN (pv 3) pe_int) pa_nil)) pe_int) pa_nil)) (by rfl))
      (pss_cons (ps_set (i := 6) sc__law_number.nd rfl (Or.inl rfl) (pe_op op_mod (pe_callTy k_int (by rfl) T.b.int (by decide +kernel) (pa_cons (pe_callB (k_sum K rfl) (by rfl) T.b.sum (by decide +kernel) (pa_cons (pv 2) pa_nil)) pa_nil)) pe_int))
      (pss_cons (ps_set (i := 7) sc__law_number.nd rfl (Or.inl rfl) (pe_op op_mod (pe_callTy k_int (by rfl) T.b.int (by decide +kernel) (pa_cons (pe_op op_add (pe_op op_add (pe_op op_mul (pe_op op_add (pv 4) (pe_op op_mul pe_int (pv 1))) pe_int) (pe_op op_mul pe_int (pv 5))) (pv 6)) pa_nil)) pe_int))
      (pss_one (ps_ret (pe_op op_add (pe_op op_mul (pe_op op_mod (pe_callTy k_int (by rfl) T.b.int (by decide +kernel) (pa_cons (pe_op op_mul (pv 7) (pe_op op_add (pe_op op_add (pv 7) (pe_op op_mul pe_int (pv 1))) pe_int)) pa_nil)) pe_int) pe_int) (pv 5))))))))), sp_run (N := n__law_number) ?_ h⟩
  rintro ⟨ns, ix⟩ (hl : ns.length ≤ 63) B0 H0 Q q
  refine gx_seq (gx_setX (P := fun cs : List Int => cs ≠ [] ∧ cs.length ≤ 63) (F := fun cs => rScr K cs) (ev_if (b := !decide (ns = [])) (et_cmp (ev_op (rv_neL (K := K) (ms := [])) (ev_var (R := rScr K ns) rfl) (ev_lst ea_nil (by simp)))) (fun e => ?_) fun e => ?_) fun cs hc => ?_)
  · have hne : ns ≠ [] := by simpa using e
    refine ev_exI (i := ns.take 63) ⟨?_, ?_⟩ ((ev_slL (lo := none) (hi := some 63) (Rs := ns.map fun n => rD K (.int n)) (ev_var rfl) ep_no (ep_some (K := K) ev_int)).eq (by rw [cutR_map, cut63] <;> rfl))
    · cases ns with
      | nil => exact absurd rfl hne
      | cons a l => simp
    · rw [List.length_take]
      omega
  · exact ev_exI (i := [5]) ⟨by simp, by simp⟩ (ev_lst (ea_cons ev_int ea_nil) (by simp))
  · obtain ⟨hne, hc63⟩ := hc
    have hpos : 0 < cs.length := List.length_pos_iff.mpr hne
    have len : ∀ {Γ : Ctx} {te : TE}, Ev Γ te (rScr K cs) → Ev Γ (tCB (rLn K) (tCons te tNil)) (rD K (.int cs.length)) := fun h => (ev_cb rvs_lenL (ea_cons h ea_nil)).eq (by rw [List.length_map])
    have h0 : 0 ≤ ix % (cs.length : Int) := Int.emod_nonneg _ (by omega)
    have h1 : ix % (cs.length : Int) < cs.length := Int.emod_lt_of_pos _ (by omega)
    have hix : ixN (cs.map fun n => rD K (.int n)).length (ix % (cs.length : Int)) = some (ix % (cs.length : Int)).toNat := by
      rw [List.length_map]
      have e : ix % (cs.length : Int) = ((ix % (cs.length : Int)).toNat : Int) := by omega
      rw [e]
      exact ixN_nat (by omega)
    have hat : (cs.map fun n => rD K (.int n))[(ix % (cs.length : Int)).toNat]? = some (rD K (.int (cs[(ix % (cs.length : Int)).toNat]'(by omega)))) := by rw [List.getElem?_map, List.getElem?_eq_getElem (by omega)] <;> rfl
    dsimp only
    refine gx_seq (gx_setX (P := fun _ : Int => True) (F := fun i => rD K (.int i)) (ev_anyI (ev_op rv_I0 (ev_op (rv_xL hix hat) (ev_var rfl) (ev_op (rv_I (by show (0 : Int) < cs.length; omega)) (ev_intOf (ev_var rfl)) (len (ev_var rfl)))) (ev_op (rv_I (cmulL (by decide) (by decide))) ev_int (ev_op (rv_I ⟨by omega, by omega⟩) (ev_var rfl) (len (ev_var rfl)))))) fun cell _ => ?_)
    dsimp only
    refine gx_seq (gx_par (gt_cons (R := rD K (.int (cell % 1000003))) (ev_op (rv_I (by show (0 : Int) < 1000003; decide)) (ev_intOf (ev_var rfl)) ev_int) (gt_cons (R := rD K (.int (cell.fdiv 1000003 % 999983))) (ev_op (rv_I (by show (0 : Int) < 999983; decide)) (ev_intOf (ev_op (rv_I ⟨by decide, by decide⟩) (ev_var rfl) ev_int)) ev_int) (gt_two ?_))))
    dsimp only
    refine gx_seq (gx_setX (P := fun _ : Int => True) (F := fun i => rD K (.int i)) (ev_anyI (ev_op (rv_I (by show (0 : Int) < 65521; decide)) (ev_intOf (ev_cb rvs_sumS (ea_cons (ev_sqL (ev_var rfl)) ea_nil))) ev_int)) fun tot _ => ?_)
    dsimp only
    refine gx_seq (gx_setX (P := fun i : Int => 0 ≤ i ∧ i < 2147483647) (F := fun i => rD K (.int i)) (ev_exI (i := ((cell % 1000003 + 977 * ix) * 48271 + 31 * (cell.fdiv 1000003 % 999983) + tot) % 2147483647) ⟨Int.emod_nonneg _ (by decide), Int.emod_lt_of_pos _ (by decide)⟩
      (ev_op (rv_I (by show (0 : Int) < 2147483647; decide)) (ev_intOf (ev_op rv_I0 (ev_op rv_I0 (ev_op (rv_I (cmulR (by decide) (by decide))) (ev_op rv_I0 (ev_var rfl) (ev_op (rv_I (cmulL (by decide) (by decide))) ev_int (ev_var rfl))) ev_int) (ev_op (rv_I (cmulL (by decide) (by decide))) ev_int (ev_var rfl))) (ev_var rfl))) ev_int)) fun bl hbl => ?_)
    dsimp only
    refine gx_ret (ev_anyI (ev_op rv_I0 (ev_op (rv_I (cmulR (by decide) (by decide))) (ev_op (rv_I (by show (0 : Int) < 2147483629; decide)) (ev_intOf (ev_op (rv_I (cmulL hbl.1 (by omega))) (ev_var rfl) (ev_op rv_I0 (ev_op rv_I0 (ev_var rfl) (ev_op (rv_I (cmulL (by decide) (by decide))) ev_int (ev_var rfl))) ev_int))) ev_int) ev_int) (ev_var rfl))) q
/-- some number below many -/
def rBel (K : PySem.W.Frag) (n : Int) : Rep := rEx (fun i : Int => 0 ≤ i ∧ i < n) fun i => rD K (.int i)
def spTake (K : PySem.W.Frag) : Sp := SpF (α := List Int × Int) (fun a => [rDraw K a.1, rD K (.int a.2)]) (fun a => rBel K a.2) (fun a => a.1.length ≤ 63 ∧ 0 < a.2)
theorem ok_law_take (F : C8.Def K mg "_law_take" s__law_take f fd) (b : Binds K fd ["_law_draw", "_law_many"] []) (T : Txt K mg C D p g) (G__law_number : C8.Cal P w K mg base 1 "_law_number" (spNumL K) []) : C8.Cal P w K mg base 2 "_law_take" (spTake K) [] := by
  refine C8.cal0 F b .nil sc__law_take (sp_len fun _ => rfl) fun cdv A outer s H vs Q E hr h => ⟨_, (pss_cons (ps_asg (pe_op op_add (k_ixD (pv 0) pe_int (fun _ _ => rfl)) pe_int) (pg_sub (pv 0) pe_int set_draw))
      (pss_one (ps_ret (pe_op op_mod (pe_callTy k_int (by rfl) T.b.int (by decide +kernel) (pa_cons (C8.pe_c G__law_number hr (by decide) (by rfl) (pa_cons (k_ixD (pv 0) pe_int (fun _ _ => rfl)) (pa_cons (pe_callTy k_int (by rfl) T.b.int (by decide +kernel) (pa_cons (k_ixD (pv 0) pe_int (fun _ _ => rfl)) pa_nil)) pa_nil))) pa_nil)) (pv 1))))), sp_run (N := n__law_take) ?_ h⟩
  rintro ⟨ns, many⟩ ⟨(hl : ns.length ≤ 63), (hm : 0 < many)⟩ B0 H0 Q q
  refine gx_seq (gx_drawSet (K := K) (ns := ns) (ev_op (rv_exL fun i _ => rv_any rv_I0) (ev_op rv_draw1 (ev_var rfl) ev_int) ev_int) (ev_var rfl) ev_int ?_)
  dsimp only
  refine gx_ret (ev_op (R := rAny K) (S := rD K (.int many)) (rv_exL fun i _ => ?_) (ev_cb (Rs := [rAny K]) ?_ (ea_cons (ev_call rfl (Rs := [rScr K ns, rAny K]) ?_ (ea_cons (ev_op rv_draw0 (ev_var rfl) ev_int) (ea_cons (ev_cb (Rs := [rAny K]) ?_ (ea_cons (ev_op rv_draw1 (ev_var rfl) ev_int) ea_nil)) ea_nil))) ea_nil)) (ev_var rfl)) q
  · intro x y B H c rx ry Q q
    exact rv_I (K := K) (C := fun _ j => 0 < j) (g := fun i j => i % j) hm x y B H c rx ry Q fun v B2 H2 z r => q v B2 H2 z ⟨i % many, ⟨Int.emod_nonneg _ (by omega), Int.emod_lt_of_pos _ hm⟩, r⟩
  · intro vs B H c r Q q
    obtain ⟨v, rfl, i, _, hv⟩ := all2_1 r
    exact rvs_int1 [v] B H c (.cons hv .nil) Q fun v B2 H2 z r => q v B2 H2 z ⟨i, trivial, r⟩
  · intro vs B H c r Q E q
    obtain ⟨u, v, rfl, hu, i, _, hv⟩ := all2_2 r
    exact ⟨(ns, i), B, c, .cons hu (.cons hv .nil), hl, q⟩
  · intro vs B H c r Q q
    obtain ⟨v, rfl, i, _, hv⟩ := all2_1 r
    exact rvs_int1 [v] B H c (.cons hv .nil) Q fun v B2 H2 z r => q v B2 H2 z ⟨i, trivial, r⟩
end
end Sm
namespace Sm
open PySem PySem.Spec PyProof.Rows L2
abbrev s__law_ends : Stmt := top 51
def n__law_ends : List Str := ["_law_piece", "_law_is_turned"]
theorem sc__law_ends : FnScope n__law_ends ["_law_piece", "_law_is_turned"] (C8.fnScope s__law_ends) := C8.fnScope_by (by decide +kernel)
abbrev s__law_cost : Stmt := top 46
def n__law_cost : List Str := ["_law_rows", "_law_prices_here", "_law_found", "_law_one", "_law_other", "_law_mine", "_law_theirs", "_law_price"]
theorem sc__law_cost : FnScope n__law_cost ["_law_rows", "_law_prices_here"] (C8.fnScope s__law_cost) := C8.fnScope_by (by decide +kernel)
abbrev s__law_seams : Stmt := top 52
def n__law_seams : List Str := ["_law_pieces_now", "_law_plan", "_law_prices_here", "_law_ends_here", "_law_index", "_law_is_turned", "_law_one", "_law_other"]
theorem sc__law_seams : FnScope n__law_seams ["_law_pieces_now", "_law_plan", "_law_prices_here"] (C8.fnScope s__law_seams) := C8.fnScope_by (by decide +kernel)
section
variable {P : Program} {w : World} {K : PySem.W.Frag} {mg : Str → Option Value} {base : Heap} {f f' : Addr} {fd fd' : FuncData} {C D p g : Addr} {ns : List Int}
theorem take_rsp {m : Int} (hl : ns.length ≤ 63) (hm : 0 < m) : RSp (spTake K) [rDraw K ns, rD K (.int m)] (rBel K m) := rsp_F (α := List Int × Int) (Rs := fun a => [rDraw K a.1, rD K (.int a.2)]) (T := fun a => rBel K a.2) (pre := fun a => a.1.length ≤ 63 ∧ 0 < a.2) (ns, m) ⟨hl, hm⟩
def spPick (K : PySem.W.Frag) : Sp := SpF (α := List Int × List Rep) (fun a => [rDraw K a.1, rLst K a.2]) (fun a => rEx (fun R : Rep => R ∈ a.2) fun R => R) (fun a => a.1.length ≤ 63 ∧ 0 < a.2.length)
theorem ok_law_pick (F : C8.Def K mg "_law_pick" s__law_pick f fd) (b : Binds K fd ["_law_draw", "_law_things"] []) (T : Txt K mg C D p g) (G__law_take : C8.Cal P w K mg base 2 "_law_take" (spTake K) []) : C8.Cal P w K mg base 3 "_law_pick" (spPick K) [] := by
  refine C8.cal0 F b .nil sc__law_pick (sp_len fun _ => rfl) fun cdv A outer s H vs Q E hr h => ⟨_, (pss_one (ps_ret (k_ix K (pv 1) (C8.pe_c G__law_take hr (by decide) (by rfl) (pa_cons (pv 0) (pa_cons (pe_callB (k_len K) (by rfl) T.b.len (by decide +kernel) (pa_cons (pv 1) pa_nil)) pa_nil))) (fun _ _ => rfl)))), sp_run (N := n__law_pick) ?_ h⟩
  rintro ⟨ns, Rs⟩ ⟨(hl : ns.length ≤ 63), (hm : 0 < Rs.length)⟩ B0 H0 Q q
  refine gx_ret (ev_op (S := rBel K Rs.length) (rv_exR fun i hi => ?_) (ev_var rfl) (ev_call rfl (take_rsp hl (by omega)) (ea_cons (ev_var rfl) (ea_cons (ev_cb rvs_lenL (ea_cons (ev_var rfl) ea_nil)) ea_nil)))) q
  intro x y B H c rx ry Q q
  have hil : i.toNat < Rs.length := by omega
  have e : i = (i.toNat : Int) := by omega
  have hix : ixN Rs.length i = some i.toNat := by
    rw [e]
    exact ixN_nat hil
  exact rv_xL (R := Rs[i.toNat]) hix (List.getElem?_eq_getElem hil) x y B H c rx ry Q fun v B2 H2 z r => q v B2 H2 z ⟨_, List.getElem_mem hil, r⟩
theorem pick_rsp {Rs : List Rep} (hl : ns.length ≤ 63) (hm : 0 < Rs.length) : RSp (spPick K) [rDraw K ns, rLst K Rs] (rEx (fun R : Rep => R ∈ Rs) fun R => R) := rsp_F (α := List Int × List Rep) (Rs := fun a => [rDraw K a.1, rLst K a.2]) (T := fun a => rEx (fun R : Rep => R ∈ a.2) fun R => R) (pre := fun a => a.1.length ≤ 63 ∧ 0 < a.2.length) (ns, Rs) ⟨hl, hm⟩
/-- picked of things that some index tells -/
theorem pick_map {ι : Type} {R : ι → Rep} {ls : List ι} (hl : ns.length ≤ 63) (hm : 0 < ls.length) : RSp (spPick K) [rDraw K ns, rLst K (ls.map R)] (rEx (fun i => i ∈ ls) R) := fun vs B H c r Q E q =>
  pick_rsp hl (by rw [List.length_map]; exact hm) vs B H c r Q E fun v B2 H2 z ⟨S, hS, rv⟩ => by
    obtain ⟨i, hi, rfl⟩ := List.mem_map.mp hS
    exact q v B2 H2 z ⟨i, hi, rv⟩
def spPrices (K : PySem.W.Frag) : Sp := SpF (α := List Int × Nat) (fun a => [rDraw K a.1, rD K (.int a.2)]) (fun a => rEx (Row 9 a.2) fun pr => rInts K pr) (fun a => a.1.length ≤ 63 ∧ a.2 ≤ 1000)
theorem ok_law_prices (F : C8.Def K mg "_law_prices" s__law_prices f fd) (b : Binds K fd ["_law_draw", "_law_width"] []) (T : Txt K mg C D p g) (G__law_pick : C8.Cal P w K mg base 3 "_law_pick" (spPick K) []) : C8.Cal P w K mg base 4 "_law_prices" (spPrices K) [] := by
  refine C8.cal0 F b .nil sc__law_prices (sp_len fun _ => rfl) fun cdv A outer s H vs Q E hr h => ⟨_, (pss_one (ps_ret (pe_callTy (k_tupleOf K) (by rfl) T.b.tuple (by decide +kernel) (pa_cons (pe_lc (own := [("_law_place", 2)]) rfl sc__law_prices.nd (pi_range1 (by rfl) T.b.range (pa_cons (pv 1) pa_nil)) (blkOk_by (N := n__law_prices) (sc := C8.fnScope s__law_prices) (by decide +kernel)) (fun _ _ _ _ _ => (pg_name (i := 2) sc__law_prices.nd rfl (Or.inl rfl))) (fun _ _ _ _ _ => pts_nil) (fun _ _ _ _ _ => (C8.pe_c G__law_pick hr (by decide) (by rfl) (pa_cons (pv 0) (pa_cons (pe_lst (pa_cons pe_int (pa_cons pe_int (pa_cons pe_int (pa_cons pe_int (pa_cons pe_int (pa_cons pe_int pa_nil))))))) pa_nil))))) pa_nil)))), sp_run (N := n__law_prices) ?_ h⟩
  rintro ⟨ns, wd⟩ ⟨(hl : ns.length ≤ 63), (hw : wd ≤ 1000)⟩ B0 H0 Q q
  refine gx_ret (R := rEx (Row 9 wd) fun pr => rInts K pr) (ev_cb (Rs := [rEx (fun is : List Int => is.length = (iota wd).length ∧ ∀ i ∈ is, i ∈ [1, 1, 0, 2, 5, 9]) fun is => rLst K (is.map fun i => rD K (.int i))]) ?_ (ea_cons (ev_lstX (P := fun i : Int => i ∈ [1, 1, 0, 2, 5, 9]) (R := fun i => rD K (.int i)) ?_) ea_nil)) q
  · intro vs B H c r Q q
    obtain ⟨v, rfl, is, ⟨e1, e2⟩, hv⟩ := all2_1 r
    refine rvs_tupOf [v] B H c (.cons (.inl hv) .nil) Q fun v B2 H2 z rv => q v B2 H2 z ⟨is, ⟨by rw [e1, iota_len], fun i hi => ?_⟩, rv⟩
    have := e2 i hi
    simp at this
    omega
  · exact ev_lcA (R := fun j : Int => rD K (.int j)) (iota wd) (by rw [iota_len]; omega) (ei_iota hw (ea_cons (ev_var rfl) ea_nil)) (si_name (by decide)) fun j hj => ⟨_, eg_name, ev_call rfl (pick_map hl (by simp)) (ea_cons (ev_var rfl) (ea_cons (ev_lst (Rs := [1, 1, 0, 2, 5, 9].map fun i : Int => rD K (.int i)) (ea_cons ev_int (ea_cons ev_int (ea_cons ev_int (ea_cons ev_int (ea_cons ev_int (ea_cons ev_int ea_nil)))))) (by simp)) ea_nil))⟩
def spGiven (K : PySem.W.Frag) : Sp := SpF (α := List Int × List Rep) (fun a => [rDraw K a.1, rLst K a.2]) (fun a => rSeq K a.2) (fun a => a.1.length ≤ 63)
theorem ok_law_given (F : C8.Def K mg "_law_given" s__law_given f fd) (b : Binds K fd ["_law_draw", "_law_rows"] []) (T : Txt K mg C D p g) (G__law_take : C8.Cal P w K mg base 2 "_law_take" (spTake K) []) : C8.Cal P w K mg base 3 "_law_given" (spGiven K) [] := by
  refine C8.cal0 F b .nil sc__law_given (sp_len fun _ => rfl) fun cdv A outer s H vs Q E hr h => ⟨_, (pss_one (ps_ret (pe_ifExp (pt_cmpR (k_eqD K hr.units) (C8.pe_c G__law_take hr (by decide) (by rfl) (pa_cons (pv 0) (pa_cons pe_int pa_nil))) pe_int (nomark _)) (pe_callTy (k_listOf K) (by rfl) T.b.list (by decide +kernel) (pa_cons (pv 1) pa_nil)) (pe_callTy (k_tupleOf K) (by rfl) T.b.tuple (by decide +kernel) (pa_cons (pv 1) pa_nil))))), sp_run (N := n__law_given) ?_ h⟩
  rintro ⟨ns, Rs⟩ (hl : ns.length ≤ 63) B0 H0 Q q
  refine gx_ret (ev_ifX (etx_cmp (K := K) (ev_op (R := rBel K 2) (S := rD K (.int 0)) ?_ (ev_call rfl (take_rsp hl (by decide)) (ea_cons (ev_var rfl) (ea_cons ev_int ea_nil))) ev_int)) (ev_sqL (ev_cb rvs_listOf (ea_cons (ev_sqL (ev_var rfl)) ea_nil))) (ev_sqT (ev_cb rvs_tupOf (ea_cons (ev_sqL (ev_var rfl)) ea_nil)))) q
  exact rv_exL fun i _ x y B H c rx ry Q q => rv_eqDI x y B H c rx ry Q fun v B2 H2 z r => q v B2 H2 z ⟨_, trivial, r⟩
def spDist (K : PySem.W.Frag) : Sp := spApart K
theorem ok_law_distance (F : C8.Def K mg "_law_distance" s__law_distance f fd) (b : Binds K fd ["_law_one", "_law_other", "_law_prices_here"] []) (T : Txt K mg C D p g) : C8.Cal P w K mg base 1 "_law_distance" (spApart K) [] := by
  refine C8.cal0 F b .nil sc__law_distance (sp_len fun _ => rfl) fun cdv A outer s H vs Q E hr h => ⟨_, (pss_one (ps_ret (pe_callB (k_sum K rfl) (by rfl) T.b.sum (by decide +kernel) (pa_cons (pe_lc (own := [("_law_mine", 3), ("_law_theirs", 4), ("_law_price", 5)]) rfl sc__law_distance.nd (k_z3 K (by rfl) T.b.zip (pa_cons (pv 0) (pa_cons (pv 1) (pa_cons (pv 2) pa_nil)))) (blkOk_by (N := n__law_distance) (sc := C8.fnScope s__law_distance) (by decide +kernel)) (fun _ _ _ _ _ => (k_tup K (n := 3) rfl (pgs_cons (pg_name (i := 3) sc__law_distance.nd rfl (Or.inl rfl)) (pgs_cons (pg_name (i := 4) sc__law_distance.nd rfl (Or.inl rfl)) (pgs_cons (pg_name (i := 5) sc__law_distance.nd rfl (Or.inl rfl)) pgs_nil))))) (fun _ _ _ _ _ => (pts_one (pt_cmpR (k_neD K hr.units) (pv 3) (pv 4) (nomark _)))) (fun _ _ _ _ _ => (pv 5))) pa_nil)))), sp_run (N := n__law_distance) ?_ h⟩
  rintro ⟨x, y, pr⟩ hp B0 H0 Q q
  have hi := ei_z3 (K := K) (Γ := ctxOf n__law_distance [rInts K x, rInts K y, rInts K pr]) (ea_cons (ev_sqT (ev_var (i := 0) rfl)) (ea_cons (ev_sqT (ev_var (i := 1) rfl)) (ea_cons (ev_sqT (ev_var (i := 2) rfl)) ea_nil)))
  rw [zip3_ints] at hi
  refine gx_ret (ev_sumCf ((x.zip y).zip pr) ?_ hi (si_tup3 (by decide) (by decide) (by decide)) fun l hl => ⟨_, eg_tup3, et_cmp (ev_op rv_neDI (ev_var rfl) (ev_var rfl)), fun _ => ev_var rfl⟩) q
  rw [List.length_zip, List.length_zip]
  have : x.length ≤ 100 := hp
  omega
/-! the law's own pieces: lists of lists of rows -/
abbrev rLR (K : PySem.W.Frag) (rows : List (List Int)) : Rep := rLst K (rRows K rows)
abbrev rLP (K : PySem.W.Frag) (ps : List Piece) : Rep := rLst K (ps.map (rLR K))
def spEndsL (K : PySem.W.Frag) : Sp := SpF (α := Piece × Bool) (fun a => [rLR K a.1, rD K (.bool a.2)]) (fun a => rEnds K (ends a.1 a.2)) (fun a => 1 ≤ a.1.length)
theorem ok_law_ends (F : C8.Def K mg "_law_ends" s__law_ends f fd) (b : Binds K fd ["_law_piece", "_law_is_turned"] []) (T : Txt K mg C D p g) : C8.Cal P w K mg base 1 "_law_ends" (spEndsL K) [] := by
  refine C8.cal0 F b .nil sc__law_ends (sp_len fun _ => rfl) fun cdv A outer s H vs Q E hr h => ⟨_, (pss_one (ps_ret (pe_ifExp (pt_val (pv 1)) (pe_tup (pa_cons (k_ix K (pv 0) (pe_un un_neg pe_int) (fun _ _ => rfl)) (pa_cons (k_ix K (pv 0) pe_int (fun _ _ => rfl)) pa_nil))) (pe_tup (pa_cons (k_ix K (pv 0) pe_int (fun _ _ => rfl)) (pa_cons (k_ix K (pv 0) (pe_un un_neg pe_int) (fun _ _ => rfl)) pa_nil)))))), sp_run (N := n__law_ends) ?_ h⟩
  rintro ⟨pc, b⟩ (hp : 1 ≤ pc.length) B0 H0 Q q
  have l1 : (rRows K pc).length = pc.length := List.length_map ..
  have e0 : ∀ {Γ : Ctx}, Γ.r[0]? = some (some (rLR K pc)) → Ev Γ (tOp (rIx K) (tVar 0) (tC (.int 0))) (rInts K (pc.headD [])) := fun h => ev_op (rv_xL (ixN_0 (by rw [l1]; exact hp)) (rows_at (head_at hp))) (ev_var h) ev_int
  have e1 : ∀ {Γ : Ctx}, Γ.r[0]? = some (some (rLR K pc)) → Ev Γ (tOp (rIx K) (tVar 0) (tUn (rU fun i => .int (-i)) (tC (.int 1)))) (rInts K (pc.getLastD [])) := fun h => ev_op (rv_xL (ixN_last (by rw [l1]; exact hp)) (rows_at (by rw [l1]; exact last_at hp))) (ev_var h) (ev_un rv_neg ev_int)
  refine gx_ret (ev_if (et_B (ev_var rfl)) (fun e => ?_) (fun e => ?_)) q
  · subst e
    exact ev_tup (ea_cons (e1 rfl) (ea_cons (e0 rfl) ea_nil)) (by simp)
  · subst e
    exact ev_tup (ea_cons (e0 rfl) (ea_cons (e1 rfl) ea_nil)) (by simp)
theorem endsL_rsp {pc : Piece} {b : Bool} (h : 1 ≤ pc.length) : RSp (spEndsL K) [rLR K pc, rD K (.bool b)] (rEnds K (ends pc b)) := rsp_F (α := Piece × Bool) (Rs := fun a => [rLR K a.1, rD K (.bool a.2)]) (T := fun a => rEnds K (ends a.1 a.2)) (pre := fun a => 1 ≤ a.1.length) (pc, b) h
theorem ev_pieceL {Γ : Ctx} {ta tb : TE} {ps : List Piece} {i : Int} (h0 : 0 ≤ i) (h1 : i < ps.length) (ha : Ev Γ ta (rLP K ps)) (hb : Ev Γ tb (rD K (.int i))) : Ev Γ (tOp (rIx K) ta tb) (rLR K (pieceAt ps i)) := by
  obtain ⟨e1, e2⟩ := piece_at h0 h1
  exact ev_op (rv_xL (by rw [List.length_map]; exact e1) (by rw [List.getElem?_map, e2] <;> rfl)) ha hb
def spSeamsL (K : PySem.W.Frag) : Sp := SpF (α := List Piece × Plan × List Int) (fun a => [rLP K a.1, rPlan K a.2.1, rInts K a.2.2]) (fun a => rD K (.int (seamCost a.1 a.2.1 a.2.2)))
  (fun a => a.2.1.length ≤ 1000 ∧ InPs a.1.length a.2.1 ∧ ∀ pc ∈ a.1, 1 ≤ pc.length ∧ ∀ r ∈ pc, r.length ≤ 100)
theorem ok_law_seams (F : C8.Def K mg "_law_seams" s__law_seams f fd) (b : Binds K fd ["_law_pieces_now", "_law_plan", "_law_prices_here"] []) (T : Txt K mg C D p g) (G__law_ends : C8.Cal P w K mg base 1 "_law_ends" (spEndsL K) []) (G__law_distance : C8.Cal P w K mg base 1 "_law_distance" (spApart K) []) :
    C8.Cal P w K mg base 2 "_law_seams" (spSeamsL K) [] := by
  refine C8.cal0 F b .nil sc__law_seams (sp_len fun _ => rfl) fun cdv A outer s H vs Q E hr h => ⟨_, (pss_cons (ps_setLc (i := 3) rfl sc__law_seams.nd rfl rfl (sw_true rfl rfl rfl (by decide +kernel)) (own := [("_law_index", 4), ("_law_is_turned", 5)]) (k_sq K (pv 1)) (blkOk_by (N := n__law_seams) (sc := C8.fnScope s__law_seams) (by decide +kernel)) (fun _ _ _ _ _ => (k_tup K (n := 2) rfl (pgs_cons (pg_name (i := 4) sc__law_seams.nd rfl (Or.inl rfl)) (pgs_cons (pg_name (i := 5) sc__law_seams.nd rfl (Or.inl rfl)) pgs_nil)))) (fun _ _ _ _ _ => pts_nil) (fun _ _ _ _ _ => (C8.pe_c G__law_ends hr (by decide) (by rfl) (pa_cons (k_ix K (pv 0) (pv 4) (fun _ _ => rfl)) (pa_cons (pv 5) pa_nil)))))
      (pss_one (ps_ret (pe_callB (k_sum K rfl) (by rfl) T.b.sum (by decide +kernel) (pa_cons (pe_lc (own := [("_law_one", 6), ("_law_other", 7)]) rfl sc__law_seams.nd (k_z2 K (by rfl) T.b.zip (pa_cons (pv 3) (pa_cons (pe_slice (k_slL K) (pv 3) (po_some pe_int) po_none) pa_nil))) (blkOk_by (N := n__law_seams) (sc := C8.fnScope s__law_seams) (by decide +kernel)) (fun _ _ _ _ _ => (k_tup K (n := 2) rfl (pgs_cons (pg_name (i := 6) sc__law_seams.nd rfl (Or.inl rfl)) (pgs_cons (pg_name (i := 7) sc__law_seams.nd rfl (Or.inl rfl)) pgs_nil)))) (fun _ _ _ _ _ => pts_nil) (fun _ _ _ _ _ => (C8.pe_c G__law_distance hr (by decide) (by rfl) (pa_cons (k_ix K (pv 6) pe_int (fun _ _ => rfl)) (pa_cons (k_ix K (pv 7) pe_int (fun _ _ => rfl)) (pa_cons (pv 2) pa_nil)))))) pa_nil))))), sp_run (N := n__law_seams) ?_ h⟩
  rintro ⟨ps, pl, pr⟩ ⟨h1, h2, h3⟩ B0 H0 Q q
  have h1' : pl.length ≤ 1000 := h1
  have h2' : InPs ps.length pl := h2
  refine gx_seq (gx_set (R := rLst K ((endsL ps pl).map (rEnds K))) (ev_lcF (f := fun q : Int × Bool => ends (pieceAt ps q.1) q.2) (G := rEnds K) pl (by omega) (ei_sq (ev_sqL (ev_var rfl))) (si_tup2 (by decide) (by decide)) fun q hq => ⟨_, eg_tup2, ?_⟩) ?_)
  · obtain ⟨g0, g1⟩ := h2' q hq
    exact ev_call rfl (endsL_rsp (h3 _ (piece_mem g0 g1)).1) (ea_cons (ev_pieceL g0 g1 (ev_var rfl) (ev_var rfl)) (ea_cons (ev_var rfl) ea_nil))
  · have hz : ((endsL ps pl).zip (endsL ps pl).tail).length ≤ 100000 := by
      rw [List.length_zip]
      have : (endsL ps pl).length = pl.length := by unfold endsL; rw [List.length_map]
      omega
    have hi := ei_z2 (K := K) (Γ := (ctxOf n__law_seams [rLP K ps, rPlan K pl, rInts K pr]).set 3 (rLst K ((endsL ps pl).map (rEnds K)))) (ea_cons (ev_sqL (ev_var (i := 3) rfl)) (ea_cons (ev_sqL (ev_slL (lo := some 1) (hi := none) (ev_var (i := 3) rfl) (ep_some (K := K) ev_int) ep_no)) ea_nil))
    rw [cut_tail, ← List.map_tail, zip_ends] at hi
    refine gx_ret (ev_sumC (f := fun q : (List Int × List Int) × (List Int × List Int) => apartF q.1.2 q.2.1 pr) _ hz hi (si_tup2 (by decide) (by decide)) fun q hq => ⟨_, eg_tup2, ?_⟩) q
    refine ev_call rfl (apart_rsp ?_) (ea_cons (ev_op (rv_xT (j := 1) rfl rfl) (ev_var (R := rEnds K q.1) rfl) ev_int) (ea_cons (ev_op (rv_xT (j := 0) rfl rfl) (ev_var (R := rEnds K q.2) rfl) ev_int) (ea_cons (ev_var rfl) ea_nil)))
    have hm := (List.of_mem_zip (show (q.1, q.2) ∈ (endsL ps pl).zip (endsL ps pl).tail from hq)).1
    obtain ⟨z, hz1, hz2⟩ := List.mem_map.mp hm
    obtain ⟨g0, g1⟩ := h2' z hz1
    rw [← hz2]
    exact (ends_len (h3 _ (piece_mem g0 g1)).2).2
end
end Sm
namespace Sm
open PySem PySem.Spec PyProof.Rows L2

abbrev s__law_plans : Stmt := top 50
def n__law_plans : List Str := ["_law_many", "_law_found", "_law_turn", "_law_late", "_law_plan", "_law_rest", "_law_index", "_law_pair"]
theorem sc__law_plans : FnScope n__law_plans ["_law_many"] (C8.fnScope s__law_plans) := C8.fnScope_by (by decide +kernel)
abbrev s__law_pieces : Stmt := top 49
def n__law_pieces : List Str := ["_law_draw", "_law_width", "_law_found", "_law_room", "_law_turn", "_law_many", "_law_row", "_law_place"]
theorem sc__law_pieces : FnScope n__law_pieces ["_law_draw"] (C8.fnScope s__law_pieces) := C8.fnScope_by (by decide +kernel)
section
variable {P : Program} {w : World} {K : PySem.W.Frag} {mg : Str → Option Value} {base : Heap} {f f' : Addr} {fd fd' : FuncData} {C D p g : Addr} {ns : List Int}
/-! the cost of rows -/
def adjF (rows : List (List Int)) (pr : List Int) : Int := ((rows.zip rows.tail).map fun q => apartF q.1 q.2 pr).sum
def spCostL (K : PySem.W.Frag) : Sp := SpF (α := List (List Int) × List Int) (fun a => [rLR K a.1, rInts K a.2]) (fun a => rD K (.int (a.2.sum + adjF a.1 a.2))) (fun a => a.1.length ≤ 1000 ∧ ∀ r ∈ a.1, r.length ≤ 100)
theorem zip_rows {rows rows2 : List (List Int)} : ((rRows K rows).zip (rRows K rows2)).map (fun p => rTup K [p.1, p.2]) = (rows.zip rows2).map fun q => rTup K [rInts K q.1, rInts K q.2] := by
  rw [List.zip_map, List.map_map]
  rfl
theorem ok_law_cost (F : C8.Def K mg "_law_cost" s__law_cost f fd) (b : Binds K fd ["_law_rows", "_law_prices_here"] []) (T : Txt K mg C D p g) : C8.Cal P w K mg base 1 "_law_cost" (spCostL K) [] := by
  refine C8.cal0 F b .nil sc__law_cost (sp_len fun _ => rfl) fun cdv A outer s H vs Q E hr h => ⟨_, (pss_cons (ps_set (i := 2) sc__law_cost.nd rfl (Or.inl rfl) (pe_callB (k_sum K rfl) (by rfl) T.b.sum (by decide +kernel) (pa_cons (pv 1) pa_nil)))
      (pss_cons (ps_for PassesOwn.never rfl (k_z2 K (by rfl) T.b.zip (pa_cons (pv 0) (pa_cons (pe_slice (k_slL K) (pv 0) (po_some pe_int) po_none) pa_nil))) (k_tup K (n := 2) rfl (pgs_cons (pg_name (i := 3) sc__law_cost.nd rfl (Or.inl rfl)) (pgs_cons (pg_name (i := 4) sc__law_cost.nd rfl (Or.inl rfl)) pgs_nil))) (pss_one (ps_set (i := 2) sc__law_cost.nd rfl (Or.inl rfl) (pe_op op_add (pv 2) (pe_callB (k_sum K rfl) (by rfl) T.b.sum (by decide +kernel) (pa_cons (pe_lc (own := [("_law_mine", 5), ("_law_theirs", 6), ("_law_price", 7)]) rfl sc__law_cost.nd (k_z3 K (by rfl) T.b.zip (pa_cons (pv 3) (pa_cons (pv 4) (pa_cons (pv 1) pa_nil)))) (blkOk_by (N := n__law_cost) (sc := C8.fnScope s__law_cost) (by decide +kernel)) (fun _ _ _ _ _ => (k_tup K (n := 3) rfl (pgs_cons (pg_name (i := 5) sc__law_cost.nd rfl (Or.inl rfl)) (pgs_cons (pg_name (i := 6) sc__law_cost.nd rfl (Or.inl rfl)) (pgs_cons (pg_name (i := 7) sc__law_cost.nd rfl (Or.inl rfl)) pgs_nil))))) (fun _ _ _ _ _ => (pts_one (pt_cmpR (k_neD K hr.units) (pv 5) (pv 6) (nomark _)))) (fun _ _ _ _ _ => (pv 7))) pa_nil))))))
      (pss_one (ps_ret (pv 2))))), sp_run (N := n__law_cost) ?_ h⟩
  rintro ⟨rows, pr⟩ ⟨(h1 : rows.length ≤ 1000), (h2 : ∀ r ∈ rows, r.length ≤ 100)⟩ B0 H0 Q q
  refine gx_seq (gx_set (R := rD K (.int pr.sum)) (ev_cb rvs_sumS (ea_cons (ev_sqT (ev_var rfl)) ea_nil)) ?_)
  dsimp only
  have hi := ei_z2 (K := K) (Γ := (ctxOf n__law_cost [rLR K rows, rInts K pr]).set 2 (rD K (.int pr.sum))) (ea_cons (ev_sqL (ev_var (i := 0) rfl)) (ea_cons (ev_sqL (ev_slL (lo := some 1) (hi := none) (ev_var (i := 0) rfl) (ep_some (K := K) ev_int) ep_no)) ea_nil))
  rw [cut_tail, ← List.map_tail, zip_rows] at hi
  refine gx_seq (gx_forE (fun i => Ctx.mk [some (rLR K rows), some (rInts K pr), some (rD K (.int (pr.sum + (((rows.zip rows.tail).take i).map fun q => apartF q.1 q.2 pr).sum))), none, none, none, none, none] []) ?_ hi (fun B1 H1 nx i R hR => ?_) ?_)
  · simp [ctxOf, n__law_cost]
  · obtain ⟨q2, hq, rfl⟩ := map_at hR
    have hlen : q2.1.length ≤ 100 := h2 _ (List.of_mem_zip (show (q2.1, q2.2) ∈ _ from List.mem_of_getElem? hq)).1
    refine ⟨_, eg_tup2, fun N k => ?_⟩
    have hz := ei_z3 (K := K) (Γ := Ctx.mk [some (rLR K rows), some (rInts K pr), some (rD K (.int (pr.sum + (((rows.zip rows.tail).take i).map fun q => apartF q.1 q.2 pr).sum))), some (rInts K q2.1), some (rInts K q2.2), none, none, none] []) (ea_cons (ev_sqT (ev_var (i := 3) rfl)) (ea_cons (ev_sqT (ev_var (i := 4) rfl)) (ea_cons (ev_sqT (ev_var (i := 1) rfl)) ea_nil)))
    rw [zip3_ints] at hz
    refine gx_set (R := rD K (.int (pr.sum + (((rows.zip rows.tail).take (i + 1)).map fun q => apartF q.1 q.2 pr).sum))) (Ev.eq (ev_op rv_I0 (ev_var rfl) (ev_sumCf ((q2.1.zip q2.2).zip pr) ?_ hz (si_tup3 (by decide) (by decide) (by decide)) fun l hl => ⟨_, eg_tup3, et_cmp (ev_op rv_neDI (ev_var rfl) (ev_var rfl)), fun _ => ev_var rfl⟩)) ?_) ?_
    · rw [List.length_zip, List.length_zip]
      omega
    · rw [List.take_add_one, hq, List.map_append, List.sum_append]
      show rD K (.int (_ + apartF q2.1 q2.2 pr)) = rD K (.int (pr.sum + (_ + (apartF q2.1 q2.2 pr + 0))))
      congr 2
      omega
    · exact gx_drop_slot 3 (gx_drop_slot 4 k)
  · rw [List.length_map, List.take_length]
    exact gx_ret (ev_var rfl) q
/-! all plans -/
def restOf (n : Nat) (pl : Plan) : List Int := (iota n).filter fun i => !decide (i ∈ pl.map (·.1))
def extOf (n : Nat) (pl : Plan) : List Plan := ((restOf n pl).map fun i => pl ++ [(i, false)]) ++ (restOf n pl).map fun i => pl ++ [(i, true)]
def plansN (n : Nat) : Nat → List Plan
  | 0 => [[]]
  | k + 1 => (plansN n k).flatMap (extOf n)
theorem rv_ninI {i : Int} {ms : List Int} : RV2 (rIn K true) (rD K (.int i)) (rLst K (ms.map fun n => rD K (.int n))) (rD K (.bool (!decide (i ∈ ms)))) := fun x y B H c rx ⟨a, xs, ey, hs, h2⟩ Q q => by
  have e := ints_all h2
  subst e
  cases rD_int.mp rx
  refine ⟨a, _, ey, .inl (c.seq hs), rfl, ?_, ?_⟩
  · rw [List.all_map, List.all_eq_true]
    intro z _
    rfl
  · have e : inV (.int i) (ms.map V.int) = decide (i ∈ ms) := by
      unfold inV
      rw [List.any_map, Bool.eq_iff_iff, List.any_eq_true, decide_eq_true_iff]
      constructor
      · rintro ⟨z, hz, he⟩
        have : z = i := by simpa [eqV] using he
        exact this ▸ hz
      · intro h
        exact ⟨i, h, by simp [eqV]⟩
    rw [e]
    exact q _ B H (Nx.refl c) (rD_bl.mpr rfl)
theorem ext_len {n : Nat} {pl : Plan} : (extOf n pl).length ≤ 2 * n := by
  unfold extOf
  have h : (restOf n pl).length ≤ n := by
    have := List.length_filter_le (fun i => !decide (i ∈ pl.map (·.1))) (iota n)
    rw [iota_len] at this
    exact this
  rw [List.length_append, List.length_map, List.length_map]
  omega
theorem flat_ext {n : Nat} : ∀ l : List Plan, (l.flatMap (extOf n)).length ≤ l.length * (2 * n)
  | [] => by simp
  | pl :: l => by
    have h1 := ext_len (n := n) (pl := pl)
    have h2 := flat_ext (n := n) l
    rw [List.flatMap_cons, List.length_append, List.length_cons, Nat.succ_mul]
    omega
theorem plans_len {n : Nat} (hn : n ≤ 4) : ∀ k, k ≤ 4 → (plansN n k).length ≤ 8 ^ k
  | 0, _ => Nat.le_refl _
  | k + 1, h => by
    have ih := plans_len hn k (by omega)
    have h2 := flat_ext (n := n) (plansN n k)
    have : (plansN n k).length * (2 * n) ≤ 8 ^ k * 8 := Nat.mul_le_mul ih (by omega)
    show ((plansN n k).flatMap (extOf n)).length ≤ 8 ^ (k + 1)
    rw [Nat.pow_succ]
    omega
theorem plans_mem_len {n : Nat} : ∀ {k : Nat} {pl : Plan}, pl ∈ plansN n k → pl.length = k
  | 0, pl, h => by rw [List.mem_singleton.mp h]; rfl
  | k + 1, pl, h => by
    obtain ⟨q, hq, h2⟩ := List.mem_flatMap.mp h
    have := plans_mem_len hq
    unfold extOf at h2
    rcases List.mem_append.mp h2 with h2 | h2
    · obtain ⟨i, _, rfl⟩ := List.mem_map.mp h2
      simp [this]
    · obtain ⟨i, _, rfl⟩ := List.mem_map.mp h2
      simp [this]
abbrev rPlans (K : PySem.W.Frag) (l : List Plan) : Rep := rLst K (l.map (rPlan K))
def spPlansL (K : PySem.W.Frag) : Sp := SpF (α := Nat) (fun a => [rD K (.int a)]) (fun a => rPlans K (plansN a a)) (fun a => a ≤ 4)
theorem ok_law_plans (F : C8.Def K mg "_law_plans" s__law_plans f fd) (b : Binds K fd ["_law_many"] []) (T : Txt K mg C D p g) : C8.Cal P w K mg base 1 "_law_plans" (spPlansL K) [] := by
  refine C8.cal0 F b .nil sc__law_plans (sp_len fun _ => rfl) fun cdv A outer s H vs Q E hr h => ⟨_, (pss_cons (ps_set (i := 1) sc__law_plans.nd rfl (Or.inl rfl) (pe_lst (pa_cons (pe_lst pa_nil) pa_nil)))
      (pss_cons (ps_for PassesOwn.never rfl (pi_range1 (by rfl) T.b.range (pa_cons (pv 0) pa_nil)) (pg_name (i := 2) sc__law_plans.nd rfl (Or.inl rfl)) (pss_cons (ps_set (i := 3) sc__law_plans.nd rfl (Or.inl rfl) (pe_lst pa_nil))
      (pss_cons (ps_for PassesOwn.never rfl (k_sq K (pv 1)) (pg_name (i := 4) sc__law_plans.nd rfl (Or.inr rfl)) (pss_cons (ps_setLc (i := 5) rfl sc__law_plans.nd rfl rfl (sw_true rfl rfl rfl (by decide +kernel)) (own := [("_law_index", 6)]) (pi_range1 (by rfl) T.b.range (pa_cons (pv 0) pa_nil)) (blkOk_by (N := n__law_plans) (sc := C8.fnScope s__law_plans) (by decide +kernel)) (fun _ _ _ _ _ => (pg_name (i := 6) sc__law_plans.nd rfl (Or.inl rfl))) (fun _ _ _ _ _ => (pts_one (pt_cmpR (k_nin K) (pv 6) (pe_lc (own := [("_law_pair", 7)]) rfl sc__law_plans.nd (k_sq K (pv 4)) (blkOk_by (N := n__law_plans) (sc := ({ kind := .function, names := [(".0", .local), ("_law_index", .local), ("_law_plan", .cell)], isGenerator := false, isCoroutine := false } : Scope)) (by decide +kernel)) (fun _ _ _ _ _ => (pg_name (i := 7) sc__law_plans.nd rfl (Or.inl rfl))) (fun _ _ _ _ _ => pts_nil) (fun _ _ _ _ _ => (k_ix K (pv 7) pe_int (fun _ _ => rfl)))) rfl))) (fun _ _ _ _ _ => (pv 6)))
      (pss_one (ps_set (i := 3) sc__law_plans.nd rfl (Or.inl rfl) (pe_op (k_catL K) (pe_op (k_catL K) (pv 3) (pe_lc (own := [("_law_index", 6)]) rfl sc__law_plans.nd (k_sq K (pv 5)) (blkOk_by (N := n__law_plans) (sc := C8.fnScope s__law_plans) (by decide +kernel)) (fun _ _ _ _ _ => (pg_name (i := 6) sc__law_plans.nd rfl (Or.inl rfl))) (fun _ _ _ _ _ => pts_nil) (fun _ _ _ _ _ => (pe_op (k_catL K) (pv 4) (pe_lst (pa_cons (pe_tup (pa_cons (pv 6) (pa_cons pe_bl pa_nil))) pa_nil)))))) (pe_lc (own := [("_law_index", 6)]) rfl sc__law_plans.nd (k_sq K (pv 5)) (blkOk_by (N := n__law_plans) (sc := C8.fnScope s__law_plans) (by decide +kernel)) (fun _ _ _ _ _ => (pg_name (i := 6) sc__law_plans.nd rfl (Or.inl rfl))) (fun _ _ _ _ _ => pts_nil) (fun _ _ _ _ _ => (pe_op (k_catL K) (pv 4) (pe_lst (pa_cons (pe_tup (pa_cons (pv 6) (pa_cons pe_bl pa_nil))) pa_nil))))))))))
      (pss_one (ps_set (i := 1) sc__law_plans.nd rfl (Or.inl rfl) (pv 3))))))
      (pss_one (ps_ret (pv 1))))), sp_run (N := n__law_plans) ?_ h⟩
  rintro n (hn : n ≤ 4) B0 H0 Q q
  refine gx_seq (gx_set (R := rPlans K (plansN n 0)) (ev_lst (ea_cons (ev_lst (Rs := ([] : Plan).map (rPair K)) ea_nil (by simp)) ea_nil) (by simp [plansN])) ?_)
  dsimp only
  refine gx_seq (gx_forE (fun k => Ctx.mk [some (rD K (.int n)), some (rPlans K (plansN n k)), none, none, none, none, none, none] []) ?_ (ei_iota (n := n) (by omega) (ea_cons (ev_var rfl) ea_nil)) (fun B1 H1 nx k R hR => ?_) ?_)
  · simp [ctxOf, n__law_plans]
  · obtain ⟨x, hx, rfl⟩ := map_at hR
    have hk : k < n := by
      have := (List.getElem?_eq_some_iff.mp hx).1
      rw [iota_len] at this
      exact this
    have hpl := plans_len hn k (by omega)
    have hpk : 8 ^ k ≤ 8 ^ 4 := Nat.pow_le_pow_right (by decide) (by omega)
    refine ⟨_, eg_name, fun N hN => ?_⟩
    refine gx_seq (gx_set (R := rPlans K []) (ev_lst (Rs := ([] : List Plan).map (rPlan K)) ea_nil (by simp)) ?_)
    dsimp only
    refine gx_seq (gx_forE (fun j => Ctx.mk [some (rD K (.int n)), some (rPlans K (plansN n k)), some (rD K (.int x)), some (rPlans K (((plansN n k).take j).flatMap (extOf n))), none, none, none, none] []) ?_ (ei_sq (ev_sqL (ev_var (i := 1) (R := rPlans K (plansN n k)) rfl))) (fun B2 H2 nx2 j R2 hR2 => ?_) ?_)
    · simp
    · obtain ⟨pl, hpl1, rfl⟩ := map_at hR2
      have hll := plans_mem_len (List.mem_of_getElem? hpl1)
      refine ⟨_, eg_name, fun N2 hN2 => ?_⟩
      have hrest : (restOf n pl).length ≤ n := by
        have := List.length_filter_le (fun i => !decide (i ∈ pl.map (·.1))) (iota n)
        rw [iota_len] at this
        exact this
      have h5 : 8 ^ 4 = 4096 := by decide
      have hflat : (((plansN n k).take j).flatMap (extOf n)).length ≤ 40000 := by
        have := flat_ext (n := n) ((plansN n k).take j)
        have h3 : ((plansN n k).take j).length ≤ 4096 := by rw [List.length_take]; omega
        have h4 : ((plansN n k).take j).length * (2 * n) ≤ 4096 * 8 := Nat.mul_le_mul h3 (by omega)
        omega
      have app : ∀ {Γ : Ctx} {bb : Bool}, Γ.r[4]? = some (some (rPlan K pl)) → ∀ x : Int, Γ.r[6]? = some (some (rD K (.int x))) → Ev Γ (tOp (rCatL K) (tVar 4) (tLst (tCons (tTup (tCons (tVar 6) (tCons (tC (.bl bb)) tNil))) tNil))) (rPlan K (pl ++ [(x, bb)])) := fun h4 x h6 =>
        (ev_op (rv_catL (Rs := pl.map (rPair K)) (Ss := [(x, _)].map (rPair K)) (by rw [List.length_map, List.length_map]; simp; omega)) (ev_var h4) (ev_lst (ea_cons (ev_tup (ea_cons (ev_var h6) (ea_cons ev_bl ea_nil)) (by simp)) ea_nil) (by simp))).eq (by rw [← List.map_append])
      refine gx_seq (gx_set (R := rLst K ((restOf n pl).map fun i => rD K (.int i))) (ev_lc (R := fun i : Int => rD K (.int i)) (S := fun i : Int => rD K (.int i)) (iota n) (fun i => !decide (i ∈ pl.map (·.1))) (by rw [iota_len]; omega) (ei_iota (n := n) (by omega) (ea_cons (ev_var rfl) ea_nil)) (si_name (by decide)) fun i hi => ⟨_, eg_name,
        et_cmp (ev_op (rv_ninI (ms := pl.map (·.1))) (ev_var rfl) (ev_lcF (f := fun q : Int × Bool => q.1) (G := fun n => rD K (.int n)) pl (by omega) (ei_sq (ev_sqL (ev_var rfl))) (si_name (by decide)) fun q hq => ⟨_, eg_name, ev_op (rv_xT (j := 0) rfl rfl) (ev_var rfl) ev_int⟩)), fun _ => ev_var rfl⟩) ?_)
      dsimp only
      refine gx_set (R := rPlans K (((plansN n k).take (j + 1)).flatMap (extOf n))) (Ev.eq (ev_op (rv_catL (Rs := (((plansN n k).take j).flatMap (extOf n) ++ (restOf n pl).map fun i => pl ++ [(i, false)]).map (rPlan K)) (Ss := ((restOf n pl).map fun i => pl ++ [(i, true)]).map (rPlan K)) ?_)
        ((ev_op (rv_catL (Rs := (((plansN n k).take j).flatMap (extOf n)).map (rPlan K)) (Ss := ((restOf n pl).map fun i => pl ++ [(i, false)]).map (rPlan K)) ?_) (ev_var rfl)
          (ev_lcF (f := fun i : Int => pl ++ [(i, false)]) (G := rPlan K) (R := fun i : Int => rD K (.int i)) (restOf n pl) (by omega) (ei_sq (ev_sqL (ev_var rfl))) (si_name (by decide)) fun i hi => ⟨_, eg_name, app rfl i rfl⟩)).eq (by rw [← List.map_append]))
        (ev_lcF (f := fun i : Int => pl ++ [(i, true)]) (G := rPlan K) (R := fun i : Int => rD K (.int i)) (restOf n pl) (by omega) (ei_sq (ev_sqL (ev_var rfl))) (si_name (by decide)) fun i hi => ⟨_, eg_name, app rfl i rfl⟩)) ?_) ?_
      · rw [List.length_map, List.length_append, List.length_map, List.length_map, List.length_map]
        omega
      · rw [List.length_map, List.length_map, List.length_map]
        omega
      · rw [← List.map_append, flat_take hpl1]
        unfold extOf
        rw [List.append_assoc]
      · exact gx_forget [4, 5] hN2
    · dsimp only
      rw [List.length_map, List.take_length]
      exact gx_set (R := rPlans K (plansN n (k + 1))) (ev_var rfl) (gx_forget [2, 3] hN)
  · rw [List.length_map, iota_len]
    exact gx_ret (ev_var rfl) q
end
end Sm
namespace Sm
open PySem PySem.Spec PyProof.Rows L2

section
variable {P : Program} {w : World} {K : PySem.W.Frag} {mg : Str → Option Value} {base : Heap} {f f' : Addr} {fd fd' : FuncData} {C D p g : Addr} {ns : List Int}
section
variable {ι : Type} {Pr : ι → Prop} {F : ι → Rep} {B0 H0 : Hp} {Γ : Ctx} {te : TE} {tl ta : TA} {R S T : Rep} {Rs : List Rep} {k i : Nat} {a : Addr} {D : L2.Ends}
theorem gx_appendX (hk : Γ.o[k]? = some (a, oL Rs)) (h0 : H0 a = none) (hi : Γ.r[i]? = some (some (rV (.ref a)))) (hl : Rs.length < 100000) (h : EvA Γ tl [rEx Pr F]) (n : ∀ x, Pr x → Gx B0 H0 { Γ with o := Γ.o.set k (a, oL (Rs ++ [F x])) } D.nx) :
    Gx B0 H0 Γ (tDrop (tBM K "list" rAppend (tVar i) tl) D) := fun σ H ⟨B, x, t⟩ => by
  obtain ⟨ho1, hh1, xs1, rfl, h1⟩ := own_at t hk
  refine ⟨.ref a, var_at t hi, .inl ⟨rfl, xs1, .inl (.of hh1)⟩, h σ B H t _ fun vs B2 H2 y r => ?_⟩
  obtain ⟨v, rfl, j, hp, rv⟩ := all2_1 r
  have t2 := t.next y
  obtain ⟨ho, hh, xs, rfl, h2⟩ := own_at t2 hk
  refine ⟨a, xs, v, rfl, rfl, hh, Evl.sz_lt (by rw [← h2.len]; exact hl), n j hp σ _ ⟨B2, ?_, t2.mut hk ⟨_, rfl, h2.snoc rv⟩⟩⟩
  exact (x.trans y).mut h0 (t2.o _ (List.mem_of_getElem? hk)).1
/-- a, b, c = x, y, z by a tuple -/
theorem gt_threeT {i j l : Nat} (k : Gx B0 H0 (((Γ.set i R).set j S).set l T) D.nx) : Gt B0 H0 Γ ([] ++ [R] ++ [S] ++ [T]) tNil fun vs σ H => vs.length ≤ sizeLine ∧ ∀ p, H p = none → gTup K 3 (gCons (gName i) (gCons (gName j) (gCons (gName l) gNil))) (.ref p) σ (upd H p (.tup vs)) fun σ' H' => D.nx σ' H' := gt_nil fun σ H B vs x t r => by
  obtain ⟨u, v, w, rfl, r1, r2, r3⟩ := all2_3 r
  refine ⟨Evl.sz_of (by show 3 ≤ 100000; decide), fun p hp => ⟨p, [u, v, w], rfl, .inl (.of upd_same), rfl, u, [v, w], rfl, v, [w], rfl, w, [], rfl, rfl, ?_⟩⟩
  have y : Nx B H B (upd H p (.tup [u, v, w])) := Nx.newM t.c hp
  exact k _ _ ⟨B, x.trans y, (((t.next y).set i r1).set j r2).set l r3⟩
theorem gx_par3T {i j l : Nat} (h : Gt B0 H0 Γ [] tl fun vs σ H => vs.length ≤ sizeLine ∧ ∀ p, H p = none → gTup K 3 (gCons (gName i) (gCons (gName j) (gCons (gName l) gNil))) (.ref p) σ (upd H p (.tup vs)) fun σ' H' => D.nx σ' H') :
    Gx B0 H0 Γ (tAsg (tTup tl) (gTup K 3 (gCons (gName i) (gCons (gName j) (gCons (gName l) gNil)))) D) := fun σ H ⟨B, x, t⟩ => h σ H B [] x t .nil
theorem ei_iotaX (h : EvA Γ ta [rEx (fun n : Nat => 1 ≤ n ∧ n ≤ 4) fun n => rD K (.int n)]) : EvIX Γ (iRng1 ta) (fun n : Nat => 1 ≤ n ∧ n ≤ 4) fun n => (iota n).map fun i => rD K (.int i) := fun σ B H x N q => h σ B H x _ fun vs B2 H2 y r => by
  obtain ⟨v, rfl, n, hn, rv⟩ := all2_1 r
  cases rD_int.mp rv
  refine ⟨(n : Int), rfl, by omega, by omega, q _ B2 H2 n hn y ?_⟩
  have z := walk_R (K := K) (Bz := B2) (lo := 0) (n := n)
  have e : ((List.range n).map fun (i : Nat) => rD K (.int (0 + (i : Int)))) = (iota n).map fun i => rD K (.int i) := by
    unfold iota
    simp
  rw [e] at z
  have e2 : ((n : Int) - 0).toNat = n := by omega
  exact z
end
theorem rvs_min2 {i j : Int} : RVs (fun xs H Q => ∃ i j, xs = [.int i, .int j] ∧ Q (.int (if j < i then j else i)) H) [rD K (.int i), rD K (.int j)] (rD K (.int (if j < i then j else i))) := fun vs B H c r Q q => by
  obtain ⟨u, v, rfl, r1, r2⟩ := all2_2 r
  cases rD_int.mp r1
  cases rD_int.mp r2
  exact ⟨i, j, rfl, q _ B H (Nx.refl c) (rD_int.mpr rfl)⟩
/-- rows as the law makes them -/
structure PsOk (wd : Nat) (ps : List Piece) : Prop where
  w1 : 1 ≤ wd
  w2 : wd ≤ 3
  n1 : 1 ≤ ps.length
  n2 : ps.length ≤ 4
  pc : ∀ p ∈ ps, 1 ≤ p.length ∧ ∀ r ∈ p, Row 2 wd r
  tot : (ps.map List.length).sum ≤ 10
def spPiecesL (K : PySem.W.Frag) : Sp := SpF (α := List Int) (fun a => [rDraw K a]) (fun _ => rEx (fun x : Nat × List Piece => PsOk x.1 x.2) fun x => rLP K x.2) (fun a => a.length ≤ 63)
theorem ok_law_pieces (F : C8.Def K mg "_law_pieces" s__law_pieces f fd) (b : Binds K fd ["_law_draw"] []) (T : Txt K mg C D p g) (G__law_take : C8.Cal P w K mg base 2 "_law_take" (spTake K) []) : C8.Cal P w K mg base 3 "_law_pieces" (spPiecesL K) [] := by
  refine C8.cal0 F b .nil sc__law_pieces (sp_len fun _ => rfl) fun cdv A outer s H vs Q E hr h => ⟨_, (pss_cons (ps_asg (pe_tup (pa_cons (pe_op op_add pe_int (C8.pe_c G__law_take hr (by decide) (by rfl) (pa_cons (pv 0) (pa_cons pe_int pa_nil)))) (pa_cons (pe_lst pa_nil) (pa_cons pe_int pa_nil)))) (k_tup K (n := 3) rfl (pgs_cons (pg_name (i := 1) sc__law_pieces.nd rfl (Or.inr rfl)) (pgs_cons (pg_name (i := 2) sc__law_pieces.nd rfl (Or.inl rfl)) (pgs_cons (pg_name (i := 3) sc__law_pieces.nd rfl (Or.inl rfl)) pgs_nil)))))
      (pss_cons (ps_for PassesOwn.never rfl (pi_range1 (by rfl) T.b.range (pa_cons (pe_op op_add pe_int (C8.pe_c G__law_take hr (by decide) (by rfl) (pa_cons (pv 0) (pa_cons pe_int pa_nil)))) pa_nil)) (pg_name (i := 4) sc__law_pieces.nd rfl (Or.inl rfl)) (pss_cons (ps_set (i := 5) sc__law_pieces.nd rfl (Or.inl rfl) (pe_op op_add pe_int (C8.pe_c G__law_take hr (by decide) (by rfl) (pa_cons (pv 0) (pa_cons (pe_callB (call_min2 rfl) (by rfl) T.b.min (by decide +kernel) (pa_cons pe_int (pa_cons (pv 3) pa_nil))) pa_nil)))))
      (pss_cons (ps_expr (k_append K (pv 2) (pa_cons (pe_lc (own := [("_law_row", 6)]) rfl sc__law_pieces.nd (pi_range1 (by rfl) T.b.range (pa_cons (pv 5) pa_nil)) (blkOk_by (N := n__law_pieces) (sc := C8.fnScope s__law_pieces) (by decide +kernel)) (fun _ _ _ _ _ => (pg_name (i := 6) sc__law_pieces.nd rfl (Or.inl rfl))) (fun _ _ _ _ _ => pts_nil) (fun _ _ _ _ _ => (pe_callTy (k_tupleOf K) (by rfl) T.b.tuple (by decide +kernel) (pa_cons (pe_lc (own := [("_law_place", 7)]) rfl sc__law_pieces.nd (pi_range1 (by rfl) T.b.range (pa_cons (pv 1) pa_nil)) (blkOk_by (N := n__law_pieces) (sc := ({ kind := .function, names := [(".0", .local), ("_law_row", .local), ("tuple", .globalImplicit), ("range", .globalImplicit), ("_law_draw", .cell), ("_law_width", .cell)], isGenerator := false, isCoroutine := false } : Scope)) (by decide +kernel)) (fun _ _ _ _ _ => (pg_name (i := 7) sc__law_pieces.nd rfl (Or.inl rfl))) (fun _ _ _ _ _ => pts_nil) (fun _ _ _ _ _ => (C8.pe_c G__law_take hr (by decide) (by rfl) (pa_cons (pv 0) (pa_cons pe_int pa_nil))))) pa_nil)))) pa_nil)))
      (pss_cons (ps_set (i := 3) sc__law_pieces.nd rfl (Or.inl rfl) (pe_op op_sub (pv 3) (pv 5)))
      (pss_one (ps_if (pt_cmpR (k_eqD K hr.units) (pv 3) pe_int (nomark _)) (pss_one ps_break) pss_nil))))))
      (pss_one (ps_ret (pv 2))))), sp_run (N := n__law_pieces) ?_ h⟩
  rintro ns (hl : ns.length ≤ 63) B0 H0 Q q
  have one : ∀ {Γ : Ctx} {te : TE} {m : Int}, Ev Γ te (rBel K m) → Ev Γ (tOp (rI0 fun i j => .int (i + j)) (tC (.int 1)) te) (rEx (fun n : Nat => 1 ≤ n ∧ (n : Int) ≤ m) fun n => rD K (.int n)) := fun {Γ te m} h =>
    ev_op (S := rBel K m) (R := rD K (.int 1)) (rv_exR fun i hi x y B H c rx ry Q q => rv_I0 (K := K) (g := fun i j => i + j) x y B H c rx ry Q fun v B2 H2 z r => q v B2 H2 z ⟨(1 + i).toNat, ⟨by omega, by omega⟩, by show (rD K (.int (((1 + i).toNat : Nat) : Int))).p B2 v; rw [show (((1 + i).toNat : Nat) : Int) = 1 + i from by omega]; exact r⟩) ev_int h
  have tk : ∀ {Γ : Ctx} {m : Int} {te : TE}, 0 < m → Γ.r[0]? = some (some (rDraw K ns)) → Ev Γ te (rD K (.int m)) → Ev Γ (tCall (spTake K) [] C8.E0 (tCons (tVar 0) (tCons te tNil))) (rBel K m) := fun hm h0 ht => ev_call rfl (take_rsp hl hm) (ea_cons (ev_var h0) (ea_cons ht ea_nil))
  refine gx_seq (gx_par3T (gt_cons (R := rEx (fun n : Nat => 1 ≤ n ∧ (n : Int) ≤ 3) fun n => rD K (.int n)) (one (tk (by decide) rfl ev_int)) (gt_own (W := oL []) (eo_lst ea_nil (by simp)) fun a ha => gt_cons (R := rD K (.int 10)) ev_int (gt_threeT ?_))))
  refine gx_ex (i := 1) rfl fun wd hwd => ?_
  dsimp only
  have fin : ∀ (ps : List Piece) (rm : Int), (1 ≤ ps.length ∧ ps.length ≤ 4) → (∀ p ∈ ps, 1 ≤ p.length ∧ ∀ r ∈ p, Row 2 wd r) → (ps.map List.length).sum ≤ 10 →
      Gx B0 H0 (Ctx.mk [some (rDraw K ns), some (rD K (.int wd)), some (rV (.ref a)), some (rD K (.int rm)), none, none, none, none] [(a, oL (ps.map (rLR K)))]) (tRet (tVar 2) (endsOf Q)) := fun ps rm h1 h2 h3 => by
    refine gx_seal (k := 0) (i := 2) rfl ha rfl (R := rLP K ps) (fun B ho h w => seal_lst h w) ?_
    exact gx_ret (ev_exI (P := fun x : Nat × List Piece => PsOk x.1 x.2) (F := fun x => rLP K x.2) (i := (wd, ps)) ⟨hwd.1, by show wd ≤ 3; omega, h1.1, h1.2, h2, h3⟩ (ev_var rfl)) q
  refine gx_seq (gx_forX (ei_iotaX (ea_cons ((one (tk (m := 4) (by decide) rfl ev_int)).imp fun B v ⟨n, hn, r⟩ => ⟨n, ⟨hn.1, by omega⟩, r⟩) ea_nil))
    (fun n i Γ => ∃ ps : List Piece, ps.length = i ∧ (∀ p ∈ ps, 1 ≤ p.length ∧ ∀ r ∈ p, Row 2 wd r) ∧ (ps.map List.length).sum < 10 ∧ Γ = Ctx.mk [some (rDraw K ns), some (rD K (.int wd)), some (rV (.ref a)), some (rD K (.int (10 - ((ps.map List.length).sum : Nat)))), none, none, none, none] [(a, oL (ps.map (rLR K)))])
    (fun n hn => ⟨[], rfl, (fun p hp => nomatch hp), by simp, rfl⟩) ?_ ?_)
  · rintro n hn B1 H1 nx i Γi R hR ⟨ps, hps, hp2, hs, rfl⟩
    obtain ⟨x, hx, rfl⟩ := map_at hR
    have hi : i < n := by
      have := (List.getElem?_eq_some_iff.mp hx).1
      rw [iota_len] at this
      exact this
    refine ⟨_, eg_name, fun N hN => ?_⟩
    generalize hrm : (10 - (((ps.map List.length).sum : Nat) : Int)) = rm
    have hrm0 : 0 < rm := by omega
    refine gx_seq (gx_setX (one (tk (m := if rm < 3 then rm else 3) (by split <;> omega) rfl (ev_cb rvs_min2 (ea_cons ev_int (ea_cons (ev_var rfl) ea_nil))))) fun many hmany => ?_)
    have hm3 : (many : Int) ≤ rm ∧ many ≤ 3 := by
      have := hmany.2
      split at this <;> omega
    dsimp only
    refine gx_seq (gx_appendX (Pr := fun rows : List (List Int) => rows.length = many ∧ ∀ r ∈ rows, Row 2 wd r) (F := fun rows => rLR K rows) (k := 0) (i := 2) (a := a) rfl ha rfl (by rw [List.length_map]; omega) (ea_cons ?_ ea_nil) fun rows hrows => ?_)
    · have hx := ev_lstX (K := K) (ls := iota many) (P := Row 2 wd) (R := fun r => rInts K r) (te := tLc (iRng1 (tCons (tVar 5) tNil)) (gName 6) tYes (tCB (rTpOf K) (tCons (tLc (iRng1 (tCons (tVar 1) tNil)) (gName 7) tYes (tCall (spTake K) [] C8.E0 (tCons (tVar 0) (tCons (tC (V.int 3)) tNil))) [7]) tNil)) [6])
        (Γ := (Ctx.mk [some (rDraw K ns), some (rD K (.int wd)), some (rV (.ref a)), some (rD K (.int rm)), some (rD K (.int x)), some (rD K (.int many)), none, none] [(a, oL (ps.map (rLR K)))]))
        (ev_lcA (R := fun j : Int => rD K (.int j)) (iota many) (by rw [iota_len]; omega) (ei_iota (by omega) (ea_cons (ev_var rfl) ea_nil)) (si_name (by decide)) fun j hj => ⟨_, eg_name, ?_⟩)
      · exact hx.imp fun B v ⟨is, ⟨h1, h2⟩, r⟩ => ⟨is, ⟨by rw [h1, iota_len], h2⟩, r⟩
      · refine ev_cb (Rs := [rEx (fun is : List Int => is.length = (iota wd).length ∧ ∀ i ∈ is, 0 ≤ i ∧ i < 3) fun is => rLst K (is.map fun i => rD K (.int i))]) ?_ (ea_cons (ev_lstX (P := fun i : Int => 0 ≤ i ∧ i < 3) (R := fun i => rD K (.int i)) ?_) ea_nil)
        · intro vs B H c r Q q
          obtain ⟨v, rfl, is, ⟨e1, e2⟩, hv⟩ := all2_1 r
          refine rvs_tupOf [v] B H c (.cons (.inl hv) .nil) Q fun v B2 H2 z rv => q v B2 H2 z ⟨is, ⟨by rw [e1, iota_len], fun i hi => ?_⟩, rv⟩
          have := e2 i hi
          omega
        · exact ev_lcA (R := fun j : Int => rD K (.int j)) (iota wd) (by rw [iota_len]; omega) (ei_iota (by omega) (ea_cons (ev_var rfl) ea_nil)) (si_name (by decide)) fun j hj => ⟨_, eg_name, tk (by decide) rfl ev_int⟩
    · have hps2 : ∀ p ∈ ps ++ [rows], 1 ≤ p.length ∧ ∀ r ∈ p, Row 2 wd r := fun p hp => by
        rcases List.mem_append.mp hp with hp | hp
        · exact hp2 p hp
        · rw [List.mem_singleton.mp hp]
          exact ⟨by rw [hrows.1]; exact hmany.1, hrows.2⟩
      have hsum : ((ps ++ [rows]).map List.length).sum = (ps.map List.length).sum + many := by
        rw [List.map_append, List.sum_append, List.map_cons, List.map_nil, hrows.1]
        simp
      have hlen : (ps ++ [rows]).length = i + 1 := by rw [List.length_append, hps]; rfl
      have hrep : (ps ++ [rows]).map (rLR K) = ps.map (rLR K) ++ [rLR K rows] := by rw [List.map_append]; rfl
      dsimp only
      refine gx_seq (gx_set (R := rD K (.int (rm - many))) (ev_op rv_I0 (ev_var rfl) (ev_var rfl)) ?_)
      dsimp only
      have key : ∀ rm2 : Int, rm2 = rm - many → ∀ N2 : L2.St → Hp → Prop, Gx B1 H0 (Ctx.mk [some (rDraw K ns), some (rD K (.int wd)), some (rV (.ref a)), some (rD K (.int rm2)), none, none, none, none] [(a, oL ((ps ++ [rows]).map (rLR K)))]) N2 →
          Gx B1 H0 ((Ctx.mk [some (rDraw K ns), some (rD K (.int wd)), some (rV (.ref a)), some (rD K (.int (rm - many))), some (rD K (.int x)), some (rD K (.int many)), none, none] [(a, oL (ps.map (rLR K) ++ [rLR K rows]))])) N2 := fun rm2 e N2 k => by
        subst e
        rw [hrep] at k
        exact gx_forget [4, 5] k
      refine gx_if (b := decide (rm - many = 0)) (et_cmp (ev_op rv_eqDI (ev_var rfl) ev_int)) (fun e => ?_) fun e => ?_
      · exact gx_break (key (rm - many) rfl _ ((fin (ps ++ [rows]) (rm - many) ⟨by omega, by omega⟩ hps2 (by omega)).mix nx))
      · have hne : rm - many ≠ 0 := of_decide_eq_false e
        refine gx_next (key (10 - (((ps ++ [rows]).map List.length).sum : Nat)) (by omega) _ (hN _ ⟨ps ++ [rows], hlen, hps2, by omega, rfl⟩))
  · rintro n hn Γn ⟨ps, hps, hp2, hs, rfl⟩
    rw [List.length_map, iota_len] at hps
    exact fin ps _ ⟨by omega, by omega⟩ hp2 (by omega)
end
end Sm
namespace Sm
open PySem PySem.Spec PyProof.Rows L2

abbrev s__law_shows : Stmt := top 53
def n__law_shows : List Str := ["_law_pieces_now", "_law_prices_here", "_law_plan", "_law_floors", "_law_every", "_law_state", "_law_floor", "_law_left", "_law_last", "_law_index", "_law_rest", "_law_is_turned", "_law_first", "_law_end", "_law_more", "_law_one"]
theorem sc__law_shows : FnScope n__law_shows ["_law_pieces_now", "_law_prices_here", "_law_plan", "_law_floors"] (C8.fnScope s__law_shows) := C8.fnScope_by (by decide +kernel)
section
variable {P : Program} {w : World} {K : PySem.W.Frag} {mg : Str → Option Value} {base : Heap} {f f' : Addr} {fd fd' : FuncData} {C D p g : Addr} {ns : List Int}
theorem rv_inI {i : Int} {ms : List Int} : RV2 (rIn K false) (rD K (.int i)) (rInts K ms) (rD K (.bool (decide (i ∈ ms)))) := fun x y B H c rx ⟨a, xs, ey, hs, h2⟩ Q q => by
  have e := ints_all h2
  subst e
  cases rD_int.mp rx
  refine ⟨a, _, ey, .inr (Evl.ex_t c hs), rfl, ?_, ?_⟩
  · rw [List.all_map, List.all_eq_true]
    intro z _
    rfl
  · have e : inV (.int i) (ms.map V.int) = decide (i ∈ ms) := by
      unfold inV
      rw [List.any_map, Bool.eq_iff_iff, List.any_eq_true, decide_eq_true_iff]
      constructor
      · rintro ⟨z, hz, he⟩
        have : z = i := by simpa [eqV] using he
        exact this ▸ hz
      · intro h
        exact ⟨i, h, by simp [eqV]⟩
    rw [e]
    exact q _ B H (Nx.refl c) (rD_bl.mpr rfl)
def spShowsL (P : Program) (w : World) (K : PySem.W.Frag) : Sp := SpF (α := List Piece × Nat × List Int × Plan × Fl) (fun a => [rLP K a.1, rInts K a.2.2.1, rPlan K a.2.2.2.1, rDct P w K (kv a.2.2.2.2)]) (fun a => rD K (.bool (showsB a.1 a.2.2.1 a.2.2.2.1 a.2.2.2.2)))
  (fun a => FlG a.2.1 a.1 a.2.2.1 a.2.2.2.2 ∧ a.2.2.2.1.length < 64)
theorem floorB_eq {ps : List Piece} {pr : List Int} {fl : Fl} {s : SSt} {v : Int} : floorB ps pr fl s v = (s.1.all (fun i => decide (i ∈ iota ps.length)) && (decide (s.1.Pairwise (· < ·)) && if s.1 = [] then decide (v ≤ 0) else (stepsOf ps s.1).all (okStep pr fl s v))) := by
  unfold floorB
  congr 1
  congr 1
  funext i
  rw [Bool.eq_iff_iff]
  simp only [Bool.and_eq_true, decide_eq_true_eq, iota_mem]
  omega
theorem ok_law_shows (F : C8.Def K mg "_law_shows" s__law_shows f fd) (b : Binds K fd ["_law_pieces_now", "_law_prices_here", "_law_plan", "_law_floors"] []) (T : Txt K mg C D p g) (G__law_seams : C8.Cal P w K mg base 2 "_law_seams" (spSeamsL K) []) (G__law_ends : C8.Cal P w K mg base 1 "_law_ends" (spEndsL K) [])
    (G__law_distance : C8.Cal P w K mg base 1 "_law_distance" (spApart K) []) : C8.Cal P w K mg base 3 "_law_shows" (spShowsL P w K) [] := by
  refine C8.cal0 F b .nil sc__law_shows (sp_len fun _ => rfl) fun cdv A outer s H vs Q E hr h => ⟨_, (pss_cons (ps_set (i := 4) sc__law_shows.nd rfl (Or.inr rfl) (pe_tupRg rfl (by rfl) T.b.tuple (prg_1 (by rfl) T.b.range (pe_callB (k_len K) (by rfl) T.b.len (by decide +kernel) (pa_cons (pv 0) pa_nil)))))
      (pss_cons (ps_if (pt_cmpR (k_neD K hr.units) (pe_callB (k_sorted K) (by rfl) T.b.sorted (by decide +kernel) (pa_cons (pe_lc (own := [("_law_index", 9), ("_law_is_turned", 11)]) rfl sc__law_shows.nd (k_sq K (pv 2)) (blkOk_by (N := n__law_shows) (sc := C8.fnScope s__law_shows) (by decide +kernel)) (fun _ _ _ _ _ => (k_tup K (n := 2) rfl (pgs_cons (pg_name (i := 9) sc__law_shows.nd rfl (Or.inl rfl)) (pgs_cons (pg_name (i := 11) sc__law_shows.nd rfl (Or.inl rfl)) pgs_nil)))) (fun _ _ _ _ _ => pts_nil) (fun _ _ _ _ _ => (pv 9))) pa_nil)) (pe_callTy (k_listOf K) (by rfl) T.b.list (by decide +kernel) (pa_cons (pv 4) pa_nil)) (nomark _)) (pss_one (ps_ret pe_bl)) pss_nil)
      (pss_cons (ps_if (pt_cmpR (k_neD K hr.units) (d_getOr P w K hr.units (pv 3) (pa_cons (pe_tup (pa_cons (pv 4) (pa_cons pe_non pa_nil))) (pa_cons (pe_un un_neg pe_int) pa_nil))) (C8.pe_c G__law_seams hr (by decide) (by rfl) (pa_cons (pv 0) (pa_cons (pv 2) (pa_cons (pv 1) pa_nil)))) (nomark _)) (pss_one (ps_ret pe_bl)) pss_nil)
      (pss_cons (ps_for PassesOwn.never rfl (d_items P w K (pv 3)) (k_tup K (n := 2) rfl (pgs_cons (pg_name (i := 5) sc__law_shows.nd rfl (Or.inl rfl)) (pgs_cons (pg_name (i := 6) sc__law_shows.nd rfl (Or.inl rfl)) pgs_nil))) (pss_cons (ps_asg (pv 5) (k_tup K (n := 2) rfl (pgs_cons (pg_name (i := 7) sc__law_shows.nd rfl (Or.inl rfl)) (pgs_cons (pg_name (i := 8) sc__law_shows.nd rfl (Or.inl rfl)) pgs_nil))))
      (pss_cons (ps_if (PW.pt (pw_or (pt_not (pt_val (pe_callB (k_all K rfl) (by rfl) T.b.all (by decide +kernel) (pa_cons (pe_lc (own := [("_law_index", 9)]) rfl sc__law_shows.nd (k_sq K (pv 7)) (blkOk_by (N := n__law_shows) (sc := C8.fnScope s__law_shows) (by decide +kernel)) (fun _ _ _ _ _ => (pg_name (i := 9) sc__law_shows.nd rfl (Or.inl rfl))) (fun _ _ _ _ _ => pts_nil) (fun _ _ _ _ _ => (pe_cmpR (k_in K) (pv 9) (pv 4) rfl))) pa_nil)))) (pw_or1 (PW.pt (pw_and (pt_cmpR (k_eqD K hr.units) (pv 7) (pe_tup pa_nil) (nomark _)) (pw_and1 (pt_cmpR op_gt (pv 6) pe_int (nomark _)))))))) (pss_one (ps_ret pe_bl)) pss_nil)
      (pss_cons (ps_if (pt_cmpR (k_neD K hr.units) (pe_callTy (k_listOf K) (by rfl) T.b.list (by decide +kernel) (pa_cons (pv 7) pa_nil)) (pe_callB (k_sortedSet w rfl) (by rfl) T.b.sorted (by decide +kernel) (pa_cons (pe_callTy (k_setT K w rfl) (by rfl) T.b.set (by decide +kernel) (pa_cons (pv 7) pa_nil)) pa_nil)) (nomark _)) (pss_one (ps_ret pe_bl)) pss_nil)
      (pss_one (ps_for PassesOwn.never rfl (k_sq K (pv 7)) (pg_name (i := 9) sc__law_shows.nd rfl (Or.inr rfl)) (pss_cons (ps_set (i := 10) sc__law_shows.nd rfl (Or.inl rfl) (pe_callTy (k_tupleOf K) (by rfl) T.b.tuple (by decide +kernel) (pa_cons (pe_lc (own := [("_law_one", 15)]) rfl sc__law_shows.nd (k_sq K (pv 7)) (blkOk_by (N := n__law_shows) (sc := C8.fnScope s__law_shows) (by decide +kernel)) (fun _ _ _ _ _ => (pg_name (i := 15) sc__law_shows.nd rfl (Or.inl rfl))) (fun _ _ _ _ _ => (pts_one (pt_cmpR (k_neD K hr.units) (pv 15) (pv 9) (nomark _)))) (fun _ _ _ _ _ => (pv 15))) pa_nil)))
      (pss_one (ps_for PassesOwn.never rfl (k_sq K (pe_tup (pa_cons pe_bl (pa_cons pe_bl pa_nil)))) (pg_name (i := 11) sc__law_shows.nd rfl (Or.inl rfl)) (pss_cons (ps_asg (C8.pe_c G__law_ends hr (by decide) (by rfl) (pa_cons (k_ix K (pv 0) (pv 9) (fun _ _ => rfl)) (pa_cons (pv 11) pa_nil))) (k_tup K (n := 2) rfl (pgs_cons (pg_name (i := 12) sc__law_shows.nd rfl (Or.inl rfl)) (pgs_cons (pg_name (i := 13) sc__law_shows.nd rfl (Or.inl rfl)) pgs_nil))))
      (pss_cons (ps_set (i := 14) sc__law_shows.nd rfl (Or.inl rfl) (pe_ifExp (pt_cmp (pc_isN (pv 8)) rfl) pe_int (C8.pe_c G__law_distance hr (by decide) (by rfl) (pa_cons (pv 8) (pa_cons (pv 12) (pa_cons (pv 1) pa_nil))))))
      (pss_one (ps_if (PW.pt (pw_or (pt_cmpR (d_nin P w K hr.units) (pe_tup (pa_cons (pv 10) (pa_cons (pv 13) pa_nil))) (pv 3) rfl) (pw_or1 (pt_cmpR op_gt (pv 6) (pe_op op_add (d_ix P w K hr.units (pv 3) (pe_tup (pa_cons (pv 10) (pa_cons (pv 13) pa_nil)))) (pv 14)) (nomark _))))) (pss_one (ps_ret pe_bl)) pss_nil)))))))))))))
      (pss_one (ps_ret pe_bl)))))), sp_run (N := n__law_shows) ?_ h⟩
  rintro ⟨ps, wd, pr, pl, fl⟩ ⟨(hF : FlG wd ps pr fl), (hpl : pl.length < 64)⟩ B0 H0 Q q
  have hG := hF.g
  have n2 := hG.n2
  have w2 := hG.w2
  refine gx_seq (gx_set (R := rInts K (iota ps.length)) (ev_tupRg (n := ps.length) (by omega) ((ev_cb rvs_lenL (ea_cons (ev_var rfl) ea_nil)).eq (by rw [List.length_map]))) ?_)
  dsimp only
  refine gx_seq (gx_if (b := !isPlan ps.length pl) (et_cmp (K := K) (ev_op (rv_exL (fun ms hm => ?_)) (ev_cb (rvs_sorted (ns := pl.map (·.1)) (by rw [List.length_map]; exact hpl)) (ea_cons (ev_lcF (f := fun q : Int × Bool => q.1) (G := fun n => rD K (.int n)) pl (by omega) (ei_sq (ev_sqL (ev_var rfl))) (si_tup2 (by decide) (by decide)) fun q hq => ⟨_, eg_tup2, ev_var rfl⟩) ea_nil)) (ev_cb rvs_listOf (ea_cons (ev_sqT (ev_var rfl)) ea_nil)))) (fun e => ?_) fun e => ?_)
  · have e := rv_neL (K := K) (ns := ms) (ms := iota ps.length)
    rw [sorted_iota hm.1 hm.2] at e
    exact e
  · refine gx_ret (Ev.eq (ev_bl (K := K)) ?_) q
    show rD K (.bool false) = rD K (.bool (showsB ps pr pl fl))
    have e2 : isPlan ps.length pl = false := by simpa using e
    unfold showsB
    rw [e2]
    rfl
  · have hip : isPlan ps.length pl = true := by simpa using e
    refine gx_next ?_
    dsimp only
    refine gx_seq (gx_if (b := !decide ((getS fl (start0 ps)).getD (-1) = seamCost ps pl pr)) (et_cmp (ev_op rv_neDI (ev_dgetOr (skey_dep (start0 ps)) (ev_var rfl) (ea_cons (ev_key (ev_st (s := start0 ps) (ev_tup (ea_cons (ev_var rfl) (ea_cons ev_non ea_nil)) (by simp)))) (ea_cons (ev_un rv_neg ev_int) ea_nil)))
      (ev_call rfl (rsp_F (α := List Piece × Plan × List Int) (Rs := fun a => [rLP K a.1, rPlan K a.2.1, rInts K a.2.2]) (T := fun a => rD K (.int (seamCost a.1 a.2.1 a.2.2))) (ps, pl, pr) ⟨(by show pl.length ≤ 1000; omega), plan_in hip, game_rows hG⟩) (ea_cons (ev_var rfl) (ea_cons (ev_var rfl) (ea_cons (ev_var rfl) ea_nil)))))) (fun e => ?_) fun e => ?_)
    · refine gx_ret (Ev.eq (ev_bl (K := K)) ?_) q
      show rD K (.bool false) = rD K (.bool (showsB ps pr pl fl))
      have e2 : decide ((getS fl (start0 ps)).getD (-1) = seamCost ps pl pr) = false := by simpa using e
      unfold showsB
      rw [hip, e2]
      rfl
    · have hget : decide ((getS fl (start0 ps)).getD (-1) = seamCost ps pl pr) = true := by simpa using e
      have hsh : showsB ps pr pl fl = fl.all fun x => floorB ps pr fl x.1 x.2 := by
        unfold showsB
        rw [hip, hget]
        rfl
      refine gx_next ?_
      dsimp only
      have hk := ei_id (P := P) (w := w) (K := K) (kvs := kv fl) (Γ := Ctx.mk [some (rLP K ps), some (rInts K pr), some (rPlan K pl), some (rDct P w K (kv fl)), some (rInts K (iota ps.length)), none, none, none, none, none, none, none, none, none, none, none] []) (ev_var (i := 3) rfl)
      have ek : (kv fl).map (fun x => rTup K [rD K x.1.data, rD K (.int x.2)]) = fl.map fun x => rTup K [rSt K x.1, rD K (.int x.2)] := by
        unfold kv
        rw [List.map_map]
        apply List.map_congr_left
        intro x _
        show rTup K [rD K (skey x.1).data, rD K (.int x.2)] = rTup K [rSt K x.1, rD K (.int x.2)]
        rw [skey_data]
      rw [ek] at hk
      refine gx_seq (gx_for hk (fun i Γ => (∀ x ∈ fl.take i, floorB ps pr fl x.1 x.2 = true) ∧ Γ = Ctx.mk [some (rLP K ps), some (rInts K pr), some (rPlan K pl), some (rDct P w K (kv fl)), some (rInts K (iota ps.length)), none, none, none, none, none, none, none, none, none, none, none] []) ⟨fun x hx => by simp at hx, rfl⟩ ?_ ?_)
      · rintro B1 H1 nx i Γi R hR ⟨hq, rfl⟩
        obtain ⟨⟨st, v⟩, hst, rfl⟩ := map_at hR
        have hm := List.mem_of_getElem? hst
        have htake : fl.take (i + 1) = fl.take i ++ [(st, v)] := by rw [List.take_add_one, hst] <;> rfl
        have hlen : st.1.length ≤ 5 := hF.len hm
        have hrow : ∀ r, st.2 = some r → r.length = wd := hF.row _ hm
        have bad : floorB ps pr fl st v = false → rD K (.bool false) = rD K (.bool (showsB ps pr pl fl)) := fun h => by
          rw [hsh]
          congr 2
          cases h2 : fl.all fun x => floorB ps pr fl x.1 x.2 with
          | false => rfl
          | true => rw [List.all_eq_true.mp h2 (st, v) hm] at h; cases h
        refine ⟨_, eg_tup2, fun N hN => ?_⟩
        have good : floorB ps pr fl st v = true → Gx B1 H0 (Ctx.mk [some (rLP K ps), some (rInts K pr), some (rPlan K pl), some (rDct P w K (kv fl)), some (rInts K (iota ps.length)), none, none, none, none, none, none, none, none, none, none, none] []) N := fun h => hN _ ⟨fun x hx => by
          rw [htake] at hx
          rcases List.mem_append.mp hx with hx | hx
          · exact hq x hx
          · rw [List.mem_singleton.mp hx]
            exact h, rfl⟩
        refine gx_seq (gx_asg (ev_unst (ev_var rfl)) eg_tup2 ?_)
        dsimp only
        refine gx_seq (gx_if (b := !(st.1.all fun i => decide (i ∈ iota ps.length)) || (decide (st.1 = []) && decide (0 < v)))
          (et_or (et_not (et_B (ev_allC (f := fun i => decide (i ∈ iota ps.length)) st.1 (by omega) (ei_sq (ev_sqT (ev_var rfl))) (si_name (by decide)) fun i hi => ⟨_, eg_name, ev_op rv_inI (ev_var rfl) (ev_var rfl)⟩))) fun _ => et_and (et_cmp (ev_op rv_eqT (ev_var rfl) (ev_tup ea_nil (by simp)))) fun _ => et_cmp (ev_op rv_I0b (ev_var rfl) ev_int)) (fun e => ?_) fun e => ?_)
        · refine gx_ret (Ev.eq (ev_bl (K := K)) (bad ?_)) (q.mix nx)
          rw [floorB_eq]
          cases h1 : (st.1.all fun i => decide (i ∈ iota ps.length)) with
          | false => rfl
          | true =>
            rw [h1] at e
            have e2 : decide (st.1 = []) = true ∧ decide (0 < v) = true := by simpa using e
            have e3 : st.1 = [] := of_decide_eq_true e2.1
            have e4 : ¬ v ≤ 0 := by have := of_decide_eq_true e2.2; omega
            rw [if_pos e3, decide_eq_false e4]
            simp
        · have hall : (st.1.all fun i => decide (i ∈ iota ps.length)) = true := by
            cases h1 : (st.1.all fun i => decide (i ∈ iota ps.length)) with
            | true => rfl
            | false => rw [h1] at e; cases e
          have hemp : st.1 = [] → v ≤ 0 := fun h => by
            rw [hall] at e
            apply Classical.byContradiction
            intro hc
            have : (decide (st.1 = []) && decide (0 < v)) = true := by rw [decide_eq_true h, decide_eq_true (show 0 < v by omega)]; rfl
            rw [this] at e
            cases e
          have hin : ∀ i ∈ st.1, 0 ≤ i ∧ i < ps.length := fun i hi => iota_mem.mp (of_decide_eq_true (List.all_eq_true.mp hall i hi))
          refine gx_next ?_
          dsimp only
          refine gx_seq (gx_if (b := !decide (st.1.Pairwise (· < ·))) (et_cmp (ev_op (rv_exR fun ms hms => by
              have e := rv_neL (K := K) (ns := st.1) (ms := ms)
              rw [sorted_is hms.1 hms.2] at e
              exact e) (ev_cb rvs_listOf (ea_cons (ev_sqT (ev_var rfl)) ea_nil)) (ev_cb (rvs_sortedSet (by omega)) (ea_cons (ev_cb (rvs_set (by omega)) (ea_cons (ev_var rfl) ea_nil)) ea_nil)))) (fun e => ?_) fun e => ?_)
          · refine gx_ret (Ev.eq (ev_bl (K := K)) (bad ?_)) (q.mix nx)
            have e2 : decide (st.1.Pairwise (· < ·)) = false := by simpa using e
            rw [floorB_eq, hall, e2]
            rfl
          · have hpw : decide (st.1.Pairwise (· < ·)) = true := by simpa using e
            have hfb : floorB ps pr fl st v = if st.1 = [] then decide (v ≤ 0) else (stepsOf ps st.1).all (okStep pr fl st v) := by
              rw [floorB_eq, hall, hpw]
              rfl
            refine gx_next ?_
            dsimp only
            refine gx_for (Rs := st.1.map fun n => rD K (.int n)) (ei_sq (ev_sqT (ev_var (R := rInts K st.1) rfl))) (fun i Γ => (∀ x ∈ st.1.take i, ∀ b, okStep pr fl st v (stepOf ps st.1 x b) = true) ∧ Γ = Ctx.mk [some (rLP K ps), some (rInts K pr), some (rPlan K pl), some (rDct P w K (kv fl)), some (rInts K (iota ps.length)), some (rSt K st), some (rD K (.int v)), some (rInts K st.1), some (rOpt K st.2), none, none, none, none, none, none, none] []) ⟨fun x hx => by simp at hx, rfl⟩ ?_ ?_
            · rintro B2 H2 nx2 i2 Γi R hR2 ⟨hq2, rfl⟩
              obtain ⟨x, hx, rfl⟩ := map_at hR2
              have hxm := List.mem_of_getElem? hx
              obtain ⟨g0, g1⟩ := hin x hxm
              have htake2 : st.1.take (i2 + 1) = st.1.take i2 ++ [x] := by rw [List.take_add_one, hx] <;> rfl
              have hne : st.1 ≠ [] := fun e => by rw [e] at hxm; cases hxm
              have badS : ∀ b, okStep pr fl st v (stepOf ps st.1 x b) = false → rD K (.bool false) = rD K (.bool (showsB ps pr pl fl)) := fun b h => bad (by
                rw [hfb, if_neg hne]
                cases h2 : (stepsOf ps st.1).all (okStep pr fl st v) with
                | false => rfl
                | true => rw [List.all_eq_true.mp h2 _ (mem_steps.mpr ⟨x, hxm, b, rfl⟩)] at h; cases h)
              refine ⟨_, eg_name, fun N2 hN2 => ?_⟩
              refine gx_seq (gx_set (R := rInts K (rest st.1 x)) (ev_cb rvs_tupOf (ea_cons (ev_sqL ((ev_lc (S := fun j : Int => rD K (.int j)) st.1 (fun j => !decide (j = x)) (by omega) (ei_sq (ev_sqT (ev_var rfl))) (si_name (by decide)) fun j hj => ⟨_, eg_name, et_cmp (ev_op rv_neDI (ev_var rfl) (ev_var rfl)), fun _ => ev_var rfl⟩))) ea_nil)) ?_)
              dsimp only
              refine gx_for (Rs := [false, true].map fun b => rD K (.bool b)) (ei_sq (ev_sqT (ev_tup (ea_cons ev_bl (ea_cons ev_bl ea_nil)) (by simp)))) (fun j Γ => (∀ b ∈ [false, true].take j, okStep pr fl st v (stepOf ps st.1 x b) = true) ∧ Γ = Ctx.mk [some (rLP K ps), some (rInts K pr), some (rPlan K pl), some (rDct P w K (kv fl)), some (rInts K (iota ps.length)), some (rSt K st), some (rD K (.int v)), some (rInts K st.1), some (rOpt K st.2), some (rD K (.int x)), some (rInts K (rest st.1 x)), none, none, none, none, none] []) ⟨fun x hx => by simp at hx, rfl⟩ ?_ ?_
              · rintro B3 H3 nx3 j Γj R hR3 ⟨hq3, rfl⟩
                obtain ⟨b, hb, rfl⟩ := map_at hR3
                have htake3 : [false, true].take (j + 1) = [false, true].take j ++ [b] := by rw [List.take_add_one, hb] <;> rfl
                refine ⟨_, eg_name, fun N3 hN3 => ?_⟩
                refine gx_seq (gx_asg (R := rTup K [rInts K (ends (pieceAt ps x) b).1, rInts K (ends (pieceAt ps x) b).2]) (ev_call rfl (endsL_rsp (b := b) (hG.pc _ (piece_mem g0 g1)).1) (ea_cons (ev_pieceL g0 g1 (ev_var rfl) (ev_var rfl)) (ea_cons (ev_var rfl) ea_nil))) eg_tup2 ?_)
                dsimp only
                refine gx_seq (gx_set (R := rD K (.int (seamF st.2 (stepOf ps st.1 x b).2 pr))) ?_ ?_)
                · cases ho : st.2 with
                  | none => exact ev_if (b := true) (et_B (ev_isN (K := K) (R := rD K .none) (fun B v h => by rw [rD_non.mp h]; rfl) (ev_var rfl))) (fun _ => ev_int) (fun e => by cases e)
                  | some r => exact ev_if (b := false) (et_B (ev_isN (K := K) (R := rInts K r) (fun B v h => by obtain ⟨a, xs, e, _⟩ := h; rw [e]; rfl) (ev_var rfl))) (fun e => by cases e) (fun _ => ev_call rfl (apart_rsp (by have := hrow r ho; omega)) (ea_cons (ev_var (R := rInts K r) rfl) (ea_cons (ev_var rfl) (ea_cons (ev_var rfl) ea_nil))))
                · dsimp only
                  have key : ∀ {Γ : Ctx}, Γ.r[10]? = some (some (rInts K (rest st.1 x))) → Γ.r[13]? = some (some (rInts K (ends (pieceAt ps x) b).2)) → Ev Γ (tTup (tCons (tVar 10) (tCons (tVar 13) tNil))) (rSt K (stepOf ps st.1 x b).1) := fun h1 h2 => ev_st (s := (stepOf ps st.1 x b).1) (ev_tup (ea_cons (ev_var h1) (ea_cons (ev_var h2) ea_nil)) (by simp))
                  have fgt : ∀ N4 : L2.St → Hp → Prop, Gx B3 H0 (Ctx.mk [some (rLP K ps), some (rInts K pr), some (rPlan K pl), some (rDct P w K (kv fl)), some (rInts K (iota ps.length)), some (rSt K st), some (rD K (.int v)), some (rInts K st.1), some (rOpt K st.2), some (rD K (.int x)), some (rInts K (rest st.1 x)), none, none, none, none, none] []) N4 →
                      Gx B3 H0 (Ctx.mk [some (rLP K ps), some (rInts K pr), some (rPlan K pl), some (rDct P w K (kv fl)), some (rInts K (iota ps.length)), some (rSt K st), some (rD K (.int v)), some (rInts K st.1), some (rOpt K st.2), some (rD K (.int x)), some (rInts K (rest st.1 x)), some (rD K (.bool b)), some (rInts K (ends (pieceAt ps x) b).1), some (rInts K (ends (pieceAt ps x) b).2), some (rD K (.int (seamF st.2 (stepOf ps st.1 x b).2 pr))), none] []) N4 := fun N4 k => gx_forget [11, 12, 13, 14] k
                  have din : EvT (Ctx.mk [some (rLP K ps), some (rInts K pr), some (rPlan K pl), some (rDct P w K (kv fl)), some (rInts K (iota ps.length)), some (rSt K st), some (rD K (.int v)), some (rInts K st.1), some (rOpt K st.2), some (rD K (.int x)), some (rInts K (rest st.1 x)), some (rD K (.bool b)), some (rInts K (ends (pieceAt ps x) b).1), some (rInts K (ends (pieceAt ps x) b).2), some (rD K (.int (seamF st.2 (stepOf ps st.1 x b).2 pr))), none] [])
                      (tTest (tOp (rDIn P w K true) (tTup (tCons (tVar 10) (tCons (tVar 13) tNil))) (tVar 3))) (!(getS fl (stepOf ps st.1 x b).1).isSome) := et_cmp (ev_op (rv_din (neg := true) (skey_dep _)) (ev_key (key rfl rfl)) (ev_var rfl))
                  cases hg : getS fl (stepOf ps st.1 x b).1 with
                  | none =>
                    rw [hg] at din
                    refine gx_ifT (b := true) (et_or (a := true) (b := false) din fun e => by cases e) rfl ?_
                    exact gx_ret (Ev.eq (ev_bl (K := K)) (badS b (by unfold okStep; rw [hg]))) (((q.mix nx).mix nx2).mix nx3)
                  | some u =>
                    rw [hg] at din
                    refine gx_if (b := false || decide (u + seamF st.2 (stepOf ps st.1 x b).2 pr < v)) (et_or (a := false) (b := decide (u + seamF st.2 (stepOf ps st.1 x b).2 pr < v)) din fun _ => et_cmp (ev_op rv_I0b (ev_var rfl) (ev_op rv_I0 (ev_op (rv_dget (skey_dep _) hg) (ev_var rfl) (ev_key (key rfl rfl))) (ev_var rfl)))) (fun e => ?_) fun e => ?_
                    · refine gx_ret (Ev.eq (ev_bl (K := K)) (badS b ?_)) (((q.mix nx).mix nx2).mix nx3)
                      unfold okStep
                      rw [hg]
                      simp at e ⊢
                      omega
                    · refine gx_next (fgt _ (hN3 _ ⟨fun b' hb' => ?_, rfl⟩))
                      rw [htake3] at hb'
                      rcases List.mem_append.mp hb' with hb' | hb'
                      · exact hq3 b' hb'
                      · rw [List.mem_singleton.mp hb']
                        unfold okStep
                        rw [hg]
                        simp at e ⊢
                        omega
              · rintro Γj ⟨hq3, rfl⟩
                refine gx_forget [9, 10] (hN2 _ ⟨fun x' hx' b => ?_, rfl⟩)
                rw [htake2] at hx'
                rcases List.mem_append.mp hx' with hx' | hx'
                · exact hq2 x' hx' b
                · rw [List.mem_singleton.mp hx']
                  exact hq3 b (by cases b <;> simp)
            · rintro Γn ⟨hq2, rfl⟩
              refine gx_forget [5, 6, 7, 8] (good ?_)
              rw [List.length_map, List.take_length] at hq2
              rw [hfb]
              by_cases he : st.1 = []
              · rw [if_pos he, decide_eq_true (hemp he)]
              · rw [if_neg he, List.all_eq_true]
                intro y hy
                obtain ⟨x, hx, b, rfl⟩ := mem_steps.mp hy
                exact hq2 x hx b
      · rintro Γn ⟨hq, rfl⟩
        rw [List.length_map, List.take_length] at hq
        dsimp only
        refine gx_ret (Ev.eq (ev_bl (K := K)) ?_) q
        show rD K (.bool true) = rD K (.bool (showsB ps pr pl fl))
        rw [hsh, List.all_eq_true.mpr hq]
end
end Sm
namespace Sm
open PySem PySem.Spec PyProof.Rows L2
open PySem.W (KdxSt KdxIt)
/-! ### list(d.items()), whatever the keys are: over the raw entries -/
section
variable {P : Program} {w : World} {A : Around} {E : Value → Shared → Prop} {s : Shared} {es : Array DictEntry} {ep : Nat} {d r : Addr}
theorem it_item {I S : Addr} {i : Nat} {Q : Option Value → Shared → Prop} (st : KdxSt s.heap I d S i es.size ep) (hS : S < s.heap.objs.size) (raw : s.heap.DictRaw d es ep) (hi : i < es.size)
    (k : ∀ h', KdxSt h' I d S (i + 1) es.size ep → h'.get? s.heap.objs.size = some { cls := .type "tuple", data := .seq #[es[i].key, es[i].val] } → h'.objs.size = s.heap.objs.size + 1 → (∀ b o, b ≠ I → s.heap.get? b = some o → h'.get? b = some o) → Q (some (.ref s.heap.objs.size)) { s with heap := h' }) :
    wpAny (model P w) A (pyNext (.ref I)) Q E s := by
  rcases st with ⟨e0, ok, ov, g⟩ | ⟨ok, ov, a, f, oa, g, ga, n1, n2⟩
  · subst e0
    exact wpAny_pyNext_items_item_raw g raw hi fun h' g' gt gz gk => k h' (.inr ⟨_, _, _, false, _, g', gt, Nat.ne_of_gt (Heap.lt_size g), Nat.ne_of_gt hS⟩) gt gz gk
  · exact wpAny_pyNext_items_item_out_raw g ga n1 raw hi fun h' g' gt gz gk => k h' (.inr ⟨ok, ov, a, true, oa, g', gk a oa n1 ga, n1, n2⟩) gt gz gk
theorem it_done {I S : Addr} {i : Nat} {Q : Option Value → Shared → Prop} (hh : A.handled = none) (st : KdxSt s.heap I d S i es.size ep) (raw : s.heap.DictRaw d es ep) (hi : es.size ≤ i) (k : ∀ h', Heap.ExtBut I s.heap h' → Q none { s with heap := h' }) :
    wpAny (model P w) A (pyNext (.ref I)) Q E s := by
  rcases st with ⟨e0, ok, ov, g⟩ | ⟨ok, ov, a, f, oa, g, _, _, _⟩
  · subst e0
    exact wpAny_pyNext_items_end_raw hh g raw hi k
  · exact wpAny_pyNext_items_end_out_raw hh g raw hi k
/-- the pairs that were laid: tuples above lo, one for each entry -/
structure Laid (es : Array DictEntry) (lo : Addr) (h : Heap) (ts : List Addr) : Prop where
  up : ts.Pairwise (· < ·)
  lo : ∀ t ∈ ts, lo < t
  at_ : ∀ (j : Nat) (t : Addr), ts[j]? = some t → ∃ hj : j < es.size, h.get? t = some { cls := .type "tuple", data := .seq #[es[j].key, es[j].val] }
theorem Laid.lt {lo : Addr} {h : Heap} {ts : List Addr} (g : Laid es lo h ts) {t : Addr} (ht : t ∈ ts) : t < h.objs.size := by
  obtain ⟨j, hj⟩ := List.mem_iff_getElem?.mp ht
  exact Heap.lt_size (g.at_ j t hj).2
end
section
variable {P : Program} {w : World} {A : Around} {s : Shared} {R : Result → Shared → Prop} {es : Array DictEntry} {ep : Nat}
theorem items_loop {S I d : Addr} (hh : A.handled = none) (hSI : S < I) (hSd : d ≠ S) (hId : d ≠ I) (hn : es.size ≤ sizeLine) (res : Value) {h0 : Heap}
    (fin : ∀ h' tk acc c ts, (∀ b o, b ≠ S → b ≠ I → h0.get? b = some o → h'.get? b = some o) → h'.get? S = some { cls := .type "list", dict := none, data := .seq acc c, slots := #[] } → ts.length = es.size → Laid es I h' ts → acc.toList = ts.map Value.ref → R (.ok (.ret res)) { s with heap := h', toks := tk }) :
    ∀ (m i : Nat) (h : Heap) (tk c : Nat) (acc : Array Value) (ts : List Addr), es.size - i = m → i ≤ es.size → KdxSt h I d S i es.size ep → h.DictRaw d es ep → (∀ b o, b ≠ S → b ≠ I → h0.get? b = some o → h.get? b = some o) →
      h.get? S = some { cls := .type "list", dict := none, data := .seq acc c, slots := #[] } → acc.toList = ts.map Value.ref → ts.length = i → Laid es I h ts → I < h.objs.size →
      codeAny (model P w) A (.builtin "list.extend.loop" ⟨[.ref S, .ref I, res], []⟩) R { s with heap := h, toks := tk }
  | 0, i, h, tk, c, acc, ts, hm, hi, st, raw, kp, gS, ha, hl, L, hI => by
    have hne : S ≠ I := Nat.ne_of_lt hSI
    refine codeAny_builtin F.entry_extend_loop ?_
    rw [Around.under_plainId F.plain_extend_loop _]
    refine wpAny_bind (m := pyNext (.ref I)) (it_done (s := { s with heap := h, toks := tk }) (A := A.in1) hh st raw (by omega) fun h' x => ?_)
    refine wpAny_pure (fin h' tk acc c ts (fun b o n1 n2 e => x b o n2 (kp b o n1 n2 e)) (x S _ hne gS) (by omega) ⟨L.up, L.lo, fun j t hj => ?_⟩ ha)
    obtain ⟨l1, l2⟩ := L.at_ j t hj
    exact ⟨l1, x t _ (Nat.ne_of_gt (L.lo t (List.mem_of_getElem? hj))) l2⟩
  | m + 1, i, h, tk, c, acc, ts, hm, hi, st, raw, kp, gS, ha, hl, L, hI => by
    have hne : S ≠ I := Nat.ne_of_lt hSI
    have lt : i < es.size := by omega
    have za : acc.size = i := by rw [← Array.length_toList, ha, List.length_map, hl]
    have ltS : S < h.objs.size := Heap.lt_size gS
    refine codeAny_builtin F.entry_extend_loop ?_
    rw [Around.under_plainId F.plain_extend_loop _]
    refine wpAny_bind (m := pyNext (.ref I)) (it_item (s := { s with heap := h, toks := tk }) (S := S) st ltS raw lt fun h' st' gt gz gk => ?_)
    dsimp only at gt gz gk ⊢
    have gS' := gk S _ hne gS
    have other : ∀ b o, b ≠ S → h'.get? b = some o → (h'.update S (Obj.mapSeq (·.push (Value.ref h.objs.size)))).get? b = some o := fun b o nb e => (Heap.get?_update_other _ _ (Ne.symm nb)).trans e
    refine wpAny_bind (m := updateSeq S (·.push (Value.ref h.objs.size))) ?_
    refine wpAny_updateSeq gS' rfl (wpAny_pure ⟨plainId_quiet F.plain_extend_loop _, items_loop hh hSI hSd hId hn res fin m (i + 1) _ tk _ (acc.push (Value.ref h.objs.size)) (ts ++ [h.objs.size]) (by omega) lt (st'.keep other (Ne.symm hne)) (raw.at fun o e => other d o hSd (gk d o hId e))
      (fun b o n1 n2 e => other b o n1 (gk b o n2 (kp b o n1 n2 e))) (Heap.get?_update_self _ gS' rfl) (by rw [Array.toList_push, ha, List.map_append] <;> rfl) (by rw [List.length_append, hl] <;> rfl) ⟨?_, ?_, ?_⟩ ?_⟩) (by rw [za]; omega)
      (by show (acc.push (Value.ref h.objs.size)).size ≤ sizeLine + 1; rw [Array.size_push, za]; omega)
    · rw [List.pairwise_append]
      refine ⟨L.up, List.pairwise_singleton _ _, fun t ht u hu => ?_⟩
      rw [List.mem_singleton.mp hu]
      exact L.lt ht
    · intro t ht
      rcases List.mem_append.mp ht with ht | ht
      · exact L.lo t ht
      · rw [List.mem_singleton.mp ht]
        exact hI
    · intro j t hj
      by_cases hjl : j < ts.length
      · rw [List.getElem?_append_left hjl] at hj
        obtain ⟨l1, l2⟩ := L.at_ j t hj
        have hb := L.lo t (List.mem_of_getElem? hj)
        exact ⟨l1, other t _ (Nat.ne_of_gt (Nat.lt_trans hSI hb)) (gk t _ (Nat.ne_of_gt hb) l2)⟩
      · rw [List.getElem?_append_right (by omega)] at hj
        have hj0 : j - ts.length = 0 := by
          have := (List.getElem?_eq_some_iff.mp hj).1
          simp at this
          omega
        rw [hj0] at hj
        have e : h.objs.size = t := Option.some.inj hj
        subst e
        have ej : j = i := by omega
        subst ej
        exact ⟨lt, other _ _ (Nat.ne_of_gt ltS) gt⟩
    · exact Nat.lt_trans hI (Heap.lt_size (other _ _ (Nat.ne_of_gt ltS) gt))
theorem items_extend {E : Value → Shared → Prop} {d r : Addr} (hh : A.handled = none) (lo : (d == sysModules) = false) (hv : s.heap.IsItemsView r d) (raw : s.heap.DictRaw d es ep) (S : Addr) (hSr : S ≠ r) (hSd : d ≠ S) (res : Value) (c0 : Nat) (gS : s.heap.get? S = some { cls := .type "list", data := .seq #[] c0 })
    (fin : ∀ h' tk acc c ts, (∀ b o, b ≠ S → s.heap.get? b = some o → h'.get? b = some o) → h'.get? S = some { cls := .type "list", dict := none, data := .seq acc c, slots := #[] } → ts.length = es.size → Laid es s.heap.objs.size h' ts → acc.toList = ts.map Value.ref → R (.ok (.ret res)) { s with heap := h', toks := tk }) (hn : es.size ≤ sizeLine) :
    wpAny (model P w) A.in1 (Builtin.List.listExtendWith (.ref S) (.ref r) res) (fun fin s' => match fin with | .done f => R (.ok f) s' | .again c' => c'.quiet = true ∧ codeAny (model P w) A c' R s') (fun e s' => R (.error e) s') s := by
  have ltS : S < s.heap.objs.size := Heap.lt_size gS
  have ltd : d < s.heap.objs.size := raw.lt_size
  have go : ∀ (h : Heap) (c1 tk : Nat), (∀ b o, b ≠ S → (s.heap.push { cls := .type "dict_itemiterator", data := .fields #[.none, .bool false, .ref d, .int 0 0, .int es.size 0, .int ep 0, .none, .none] }).get? b = some o → h.get? b = some o) →
      h.get? S = some { cls := .type "list", data := .seq #[] c1 } → codeAny (model P w) A (.builtin "list.extend.loop" ⟨[.ref S, .ref s.heap.objs.size, res], []⟩) R { s with heap := h, toks := tk } := by
    intro h c1 tk kp gS1
    have gI := kp s.heap.objs.size _ (Nat.ne_of_gt ltS) (Heap.get?_push_size _ rfl)
    exact items_loop (ep := ep) (h0 := s.heap) hh ltS hSd (Nat.ne_of_lt ltd) hn res (fun h' tk' acc c ts kk gS' hl L ha => fin h' tk' acc c ts (fun b o nb e => kk b o nb (Nat.ne_of_lt (Heap.lt_size e)) e) gS' hl L ha)
      es.size 0 h tk c1 #[] [] (Nat.sub_zero _) (Nat.zero_le _) (.inl ⟨rfl, .none, .none, gI⟩) (raw.at fun o e => kp d o hSd (Heap.get?_push_of_some _ e)) (fun b o nb _ e => kp b o nb (Heap.get?_push_of_some _ e)) gS1 rfl rfl
      ⟨List.Pairwise.nil, (fun _ z => nomatch z), (fun j t hj => by simp at hj)⟩ (Heap.lt_size gI)
  unfold Builtin.List.listExtendWith
  refine wpAny_bind (wpAny_typeOf (T := "dict_items") hv.typeIs ?_)
  have f1 : Builtin.List.listSameRef (.ref S) (.ref r) = false := by simp [Builtin.List.listSameRef, hSr]
  have f2 : (Value.type "dict_items" == Value.type "list") = false := by decide
  have f3 : (Value.type "dict_items" == Value.type "tuple") = false := by decide
  simp only [f1, f2, f3, Bool.or_false, Bool.false_eq_true, if_false]
  refine wpAny_bind (wpAny_pyIter_items_raw hv raw ?_)
  have gS1 := Heap.get?_push_of_some { cls := .type "dict_itemiterator", data := .fields #[.none, .bool false, .ref d, .int 0 0, .int es.size 0, .int ep 0, .none, .none] } gS
  refine wpAny_bind (wpAny_holding (PySem.W.kdx_hint (let ⟨o, ho, hc, _⟩ := hv; ⟨o, Heap.get?_push_of_some _ ho, hc⟩) ?_))
  refine wpAny_ite_split (fun _ => ?_) (fun _ => wpAny_pure ⟨plainId_quiet F.plain_extend_loop _, go _ c0 _ (fun b o _ e => e) gS1⟩)
  refine wpAny_bind (wpAny_rule (wpAny_bind (m := (do updateSeq S (·.push .none); updateSeq S (·.pop))) ?_))
  refine wpAny_bind (wpAny_updateSeq gS1 rfl ?_)
  have gS2 := Heap.get?_update_self (Obj.mapSeq (·.push Value.none)) gS1 rfl
  refine wpAny_updateSeq (hz := by seq_fits) gS2 rfl (wpAny_pure ⟨plainId_quiet F.plain_extend_loop _, go _ _ _ (fun b o nb e => ?_) (Heap.get?_update_self (Obj.mapSeq (·.pop)) gS2 rfl)⟩)
  exact (Heap.get?_update_other _ _ (Ne.symm nb)).trans ((Heap.get?_update_other _ _ (Ne.symm nb)).trans e)
end
end Sm
namespace Sm
open PySem PySem.Spec PyProof.Rows L2
section
variable {P : Program} {w : World} {A : Around} {s : Shared} {E : Value → Shared → Prop} {es : Array DictEntry} {ep : Nat} {d r : Addr}
theorem items_call {Q : Value → Shared → Prop} (hh : A.handled = none) (lo : (d == sysModules) = false) (hv : s.heap.IsItemsView r d) (raw : s.heap.DictRaw d es ep) (hn : es.size ≤ sizeLine)
    (k : ∀ h' tk acc c ts, (∀ b o, s.heap.get? b = some o → h'.get? b = some o) → h'.get? s.heap.objs.size = some { cls := .type "list", dict := none, data := .seq acc c, slots := #[] } → ts.length = es.size → Laid es s.heap.objs.size h' ts → acc.toList = ts.map Value.ref → Q (.ref s.heap.objs.size) { s with heap := h', toks := tk }) :
    wpAny (model P w) A (call (.type "list") [.ref r]) Q E s := by
  refine callType_codes (Q₁ := fun obj s1 => obj = .ref s.heap.objs.size ∧ s1 = { s with heap := s.heap.push { cls := .type "list", data := .seq #[] } }) F.called_list (F.typeCall_list_1 _) F.entry_list_init (code_list_new _ ⟨rfl, rfl⟩) ?_
  rintro obj s1 ⟨rfl, rfl⟩
  have gS : (s.heap.push { cls := .type "list", data := .seq #[] }).get? s.heap.objs.size = some { cls := .type "list", data := .seq #[] } := Heap.get?_push_size _ rfl
  have ltr : r < s.heap.objs.size := let ⟨_, ho, _⟩ := hv; Heap.lt_size ho
  have ltd : d < s.heap.objs.size := raw.lt_size
  refine ⟨⟨_, gS, rfl⟩, F.args_list_init_2 _ _, ?_⟩
  show wpAny _ _ (do let old ← Builtin.List.listItems (.ref s.heap.objs.size); Builtin.List.listUpdate (.ref s.heap.objs.size) (fun _ => #[]); letGo old.toList.reverse; Builtin.List.listExtendWith (.ref s.heap.objs.size) (.ref r) .none) _ _ _
  refine wpAny_bind ?_
  unfold Builtin.List.listItems
  refine wpAny_bind (wpAny_seqItems gS rfl (wpAny_pure ?_))
  refine wpAny_bind (m := updateSeq s.heap.objs.size (fun _ => #[])) (wpAny_updateSeq gS rfl ?_)
  have gS2 := Heap.get?_update_self (Obj.mapSeq (fun _ => (#[] : Array Value))) gS rfl
  have oth : ∀ b o, b ≠ s.heap.objs.size → s.heap.get? b = some o → ((s.heap.push { cls := .type "list", data := .seq #[] }).update s.heap.objs.size (Obj.mapSeq (fun _ => (#[] : Array Value)))).get? b = some o := fun b o nb e => (Heap.get?_update_other _ _ (Ne.symm nb)).trans (Heap.get?_push_of_some _ e)
  refine wpAny_bind (wpAny_letGo ?_)
  refine items_extend (s := { s with heap := (s.heap.push { cls := .type "list", data := .seq #[] }).update s.heap.objs.size (Obj.mapSeq (fun _ => (#[] : Array Value))) }) (A := A.in1) (E := E) (ep := ep) hh lo (let ⟨o, ho, x⟩ := hv; ⟨o, oth r o (Nat.ne_of_lt ltr) ho, x⟩) (raw.at fun o e => oth d o (Nat.ne_of_lt ltd) e) _ (Nat.ne_of_gt ltr) (Nat.ne_of_lt ltd) .none _ gS2 (fun h' tk acc c ts kk gS' hl L ha => ?_) hn
  refine ⟨rfl, k h' tk acc c ts (fun b o e => kk b o (Nat.ne_of_lt (Heap.lt_size e)) (oth b o (Nat.ne_of_lt (Heap.lt_size e)) e)) gS' hl ⟨L.up, fun t ht => ?_, L.at_⟩ ha⟩
  exact Nat.lt_of_le_of_lt (Nat.le_of_lt (Heap.lt_size gS2)) (L.lo t ht)
end
/-- the pairs tracked at their addresses -/
def layP : Hp → List Addr → List (Addr × Int) → Hp
  | H, t :: ts, p :: ps => layP (upd H t (.tup [.ref p.1, .int p.2])) ts ps
  | H, _, _ => H
theorem layP_off {b : Addr} : ∀ (ts : List Addr) (ps : List (Addr × Int)) (H : Hp), b ∉ ts → layP H ts ps b = H b
  | [], _, _, _ => rfl
  | _ :: _, [], _, _ => rfl
  | t :: ts, p :: ps, H, h => by
    unfold layP
    rw [layP_off ts ps _ (fun z => h (List.mem_cons_of_mem _ z)), upd_ne (fun z => h (by rw [z]; exact List.mem_cons_self))]
theorem layP_at : ∀ (ts : List Addr) (ps : List (Addr × Int)) (H : Hp), ts.length = ps.length → ts.Nodup → Paired (fun (t : Addr) (p : Addr × Int) => layP H ts ps t = some (.tup [.ref p.1, .int p.2])) ts ps
  | [], [], _, _, _ => .nil
  | [], _ :: _, _, h, _ => by cases h
  | _ :: _, [], _, h, _ => by cases h
  | t :: ts, p :: ps, H, h, hn => by
    obtain ⟨n1, n2⟩ := List.nodup_cons.mp hn
    refine .cons ?_ (layP_at ts ps (upd H t (.tup [.ref p.1, .int p.2])) (Nat.succ.inj h) n2)
    unfold layP
    rw [layP_off ts ps _ n1, upd_same]
theorem paired_ixs {α β : Type} {F : α → β → Prop} {l : List α} {r : List β} (h : Paired F l r) {x : α} (hx : x ∈ l) : ∃ (j : Nat) (y : β), l[j]? = some x ∧ r[j]? = some y ∧ F x y := by
  obtain ⟨j, hj⟩ := List.mem_iff_getElem?.mp hx
  obtain ⟨y, h1, h2⟩ := paired_get h hj
  exact ⟨j, y, hj, h1, h2⟩
/-- the values of a dict's entries are ints: the pairs -/
theorem int_pairs {K : PySem.W.Frag} {B : Hp} : ∀ {kvs : List (NK × Int)} {xs : List (NK × Addr × Value)}, Paired (DEnt K B) kvs xs → ∃ ps : List (Addr × Int), Paired (fun (p : Addr × Int) (x : NK × Addr × Value) => x.2.1 = p.1 ∧ ∃ t, x.2.2 = .int p.2 t) ps xs ∧ Paired (fun (p : Addr × Int) (kv : NK × Int) => p.2 = kv.2) ps kvs
  | _, _, .nil => ⟨[], .nil, .nil⟩
  | _, _, .cons (a := kv) (b := x) r tl => by
    obtain ⟨ps, h1, h2⟩ := int_pairs tl
    obtain ⟨_, _, _, t, e⟩ := r
    exact ⟨(x.2.1, kv.2) :: ps, .cons ⟨rfl, t, e⟩ h1, .cons rfl h2⟩
def tLsItems (P : Program) (w : World) (K : PySem.W.Frag) (te : TE) : TE := fun σ H Q => te σ H fun x H1 => ∃ d o xs kvs, x = .ref d ∧ H1 d = some (dO o d) ∧ DAt P w K H1 d o xs kvs ∧
  ∀ (H' : Hp) (p : Addr) (ts : List Addr) (ps : List (Addr × Int)), Same H1 H' → H1 p = none → H' p = some (.lst (ts.map V.ref)) → Paired (fun (q : Addr × Int) (x : NK × Addr × Value) => x.2.1 = q.1 ∧ ∃ t, x.2.2 = .int q.2 t) ps xs → Paired (fun (t : Addr) (q : Addr × Int) => H' t = some (.tup [.ref q.1, .int q.2])) ts ps → (∀ t ∈ ts, H1 t = none) → Q (.ref p) H'
section
variable {X : Cx} (P : Program) (w : World) (K : PySem.W.Frag) {e : Expr} {te : TE} {apos cpos pos p : Pos}
theorem k_listItems (hc : X.calm = true) (he : PE X e te) (hg : Gl X "list") (hm : X.mg "list" = none) (hv : bootBuiltins "list" = some (.type "list")) (hP : X.prog = P := by rfl) (hw : X.w = w := by rfl) (hK : X.K = K := by rfl) (hbase : attributeBase e "items" X.env (eval e X.env) = eval e X.env := by rfl) (hline : (apos.endLine == cpos.line) = true := by rfl)
    (hs : starEach [.Call (.Attribute e "items" apos) [] [] cpos] X.env = (false, eval (.Call (.Attribute e "items" apos) [] [] cpos) X.env) :: starEach [] X.env := by rfl) :
    PE X (.Call (.Name "list" p) [.Call (.Attribute e "items" apos) [] [] cpos] [] pos) (tLsItems P w K te) := by
  subst hP hw hK
  refine ⟨fun pins s σ H Q I hq => wpAny_Call_Name_kw (ld_blt I hg hm hv (PyProof.Rows.callWith_type1 ?_ hs rfl))⟩
  rw [hs]
  show wpAny (model X.prog X.w) _
    (spliced ((false, eval (.Call (.Attribute e "items" apos) [] [] cpos) X.env)
      :: backTo pos (starEach [] X.env))) _ _ s
  refine Calls.spliced_cons ?_
  refine wpAny_Call_method (T := "dict") (id := "dict.items") hbase rfl hline F.plainAttrs_dict F.slot_dict_items F.type_dict_items (thn (he.run pins s σ H _ I hq) fun u s1 ⟨x, H1, I1, rx, d, o, xs, kvs, ex, hd, f, q⟩ => ?_)
  subst ex
  obtain rfl : u = Value.ref d := rx
  obtain ⟨es, ep, h1, raw, hsz, hent⟩ := dO_raw I1 hd f.fa
  obtain ⟨ps, hp1, hp2⟩ := int_pairs f.en
  have lp := Paired.length hp1
  have hz := sz_line f.sz
  have hl := f.len
  have I2 : Inv X pins σ H1 { s1 with heap := s1.heap.push { cls := .type "dict_items", data := .fields #[.ref d] } } := I1.kept (t' := s1.toks) fun b ob q => Heap.get?_push_of_some _ q
  refine ⟨raw.typeIs, (fun b q => by
    cases q
    exact ⟨o, dO_get I1 hd, f.fa.ex.2.1⟩), ?_⟩
  refine method_meetsIn F.slot_dict_items F.entry_dict_items rfl (PySem.evalArgs_none ⟨rfl, raw.typeIs, F.args_dict_items_1 _, _, meets_dict_items_raw d f.lo, ⟨es, ep, raw⟩, ?_⟩)
  refine Calls.spliced_nil ?_
  refine items_call (es := es) (ep := ep) (I1.ok.hd hc) f.lo ⟨_, Heap.get?_push_size _ rfl, rfl, rfl⟩ (raw.at fun o q => Heap.get?_push_of_some _ q) (by omega) fun h' tk acc c ts hk hS hl' L ha => ?_
  -- the heap with the list and its pairs
  generalize hsh : (s1.heap.push { cls := .type "dict_items", data := .fields #[.ref d] }) = hp at *
  have lt : ts.length = ps.length := by omega
  have hSn : hp.objs.size ∉ ts := fun z => Nat.lt_irrefl _ (L.lo _ z)
  have nd : ts.Nodup := List.Pairwise.imp (fun h => Nat.ne_of_lt h) L.up
  have new : ∀ t ∈ ts, H1 t = none := fun t ht => I2.hok.fresh (Nat.le_of_lt (L.lo t ht))
  have newS : H1 hp.objs.size = none := I2.hok.fresh (Nat.le_refl _)
  have atP := layP_at ts ps (upd H1 hp.objs.size (.lst (ts.map V.ref))) lt nd
  have off : ∀ b, b ∉ ts → b ≠ hp.objs.size → layP (upd H1 hp.objs.size (.lst (ts.map V.ref))) ts ps b = H1 b := fun b n1 n2 => by rw [layP_off ts ps _ n1, upd_ne n2]
  have kp : ∀ b u, H1 b = some u → (layP (upd H1 hp.objs.size (.lst (ts.map V.ref))) ts ps) b = some u := fun b u e => by
    rw [off b (fun z => by rw [new b z] at e; cases e) (fun z => by rw [z, newS] at e; cases e)]
    exact e
  have eS : layP (upd H1 hp.objs.size (.lst (ts.map V.ref))) ts ps hp.objs.size = some (.lst (ts.map V.ref)) := by rw [layP_off ts ps _ hSn, upd_same]
  have J : Inv X pins σ (layP (upd H1 hp.objs.size (.lst (ts.map V.ref))) ts ps) { s1 with heap := h', toks := tk } := by
    refine I2.call' (ch := []) rfl ⟨fun b o q _ _ _ => hk b o q, fun b o q _ _ _ => ⟨o.slots, hk b o q⟩, fun b o q n _ => ?_, fun b o q _ => ⟨o, hk b o q⟩, fun b xs q => kp b _ q, fun b o u q => kp b _ q, fun b ps q => ⟨#[], by rw [kp b _ q]; simp⟩⟩ (fun b u q => ?_) I2.bare fun b z => by simp at z
    · have hb := Heap.lt_size q
      rw [off b (fun z => absurd hb (Nat.not_lt.mpr (Nat.le_of_lt (L.lo b z)))) (Nat.ne_of_lt hb)]
      exact n
    · by_cases hb : b ∈ ts
      · obtain ⟨j, pk, e1, e2, e3⟩ := paired_ixs atP hb
        rw [e3] at q
        cases q
        obtain ⟨hj, g3⟩ := L.at_ j b e1
        obtain ⟨y, g1, g2, t, gt⟩ := paired_get hp1 e2
        obtain ⟨y', g4, g5, g6⟩ := hent j hj
        rw [g1] at g4
        cases g4
        exact ⟨Evl.sz_of (by show 2 ≤ 100000; decide), [es[j].key, es[j].val], .cons (by rw [g5, g2]; rfl) (.cons ⟨t, by rw [g6, gt]⟩ .nil), ⟨_, g3, rfl, _, rfl⟩⟩
      · by_cases hb2 : b = hp.objs.size
        · rw [hb2] at q ⊢
          rw [eS] at q
          cases q
          refine ⟨by rw [List.length_map]; omega, acc.toList, c, by rw [ha]; exact LiI.vals_refs ts, ?_⟩
          rw [Array.toArray_toList]
          exact hS
        · rw [off b hb hb2] at q
          exact (I2.hok b u q).stay (fun d v _ y => hk d v y) (fun d y => kp d _ y) fun d xs y => kp d _ y
  exact ⟨.ref _, _, J, rfl, q _ _ ts ps (fun b u e => kp b u e) newS eS hp1 atP new⟩
end
section
variable {P : Program} {w : World} {K : PySem.W.Frag} {Γ : Ctx} {te : TE} {kvs : List (NK × Int)}
theorem items_reps {B Bn H' : Hp} : ∀ {kvs : List (NK × Int)} {xs : List (NK × Addr × Value)} {ps : List (Addr × Int)} {ts : List Addr}, Paired (DEnt K B) kvs xs → Paired (fun (q : Addr × Int) (x : NK × Addr × Value) => x.2.1 = q.1 ∧ ∃ t, x.2.2 = .int q.2 t) ps xs → Paired (fun (t : Addr) (q : Addr × Int) => H' t = some (.tup [.ref q.1, .int q.2])) ts ps →
    (∀ t ∈ ts, ∀ u, H' t = some u → Bn t = some u) → Same B Bn → All2 (kvs.map fun x => rTup K [rD K x.1.data, rD K (.int x.2)]) Bn (ts.map V.ref)
  | _, _, _, _, .nil, .nil, .nil, _, _ => .nil
  | kv :: _, x :: _, q :: _, t :: _, .cons r tl, .cons a1 t1, .cons a2 t2, at2, sb => by
    refine .cons ?_ (items_reps tl t1 t2 (fun t ht => at2 t (List.mem_cons_of_mem _ ht)) sb)
    obtain ⟨e1, e2, e3, tt, e4⟩ := r
    obtain ⟨c1, tq, c2⟩ := a1
    rw [c2] at e4
    have e5 : q.2 = kv.2 := by injection e4
    refine ⟨t, [.ref q.1, .int q.2], rfl, .inl (.of (at2 t List.mem_cons_self _ a2)), .cons ?_ (.cons (by rw [e5]; exact rD_int.mpr rfl) .nil)⟩
    rw [← c1]
    exact (rD K _).mono _ _ _ sb e2
theorem ev_lsItems (h : Ev Γ te (rDct P w K kvs)) : Ev Γ (tLsItems P w K te) (rLst K (kvs.map fun x => rTup K [rD K x.1.data, rD K (.int x.2)])) := fun σ B H x Q q => h σ B H x _ fun v B2 H2 y ⟨d, o, xs, e, hd, f⟩ => by
  refine ⟨d, o, xs, kvs, e, y.c _ _ hd, f.mono y.c, fun H' p ts ps sm hp eL h1 h2 hn => ?_⟩
  have sb : Same B2 (fun a => if H2 a = none then H' a else B2 a) := fun a u e => by
    show (if H2 a = none then H' a else B2 a) = some u
    rw [if_neg (by rw [y.c a u e]; simp)]
    exact e
  have nx : Nx B2 H2 (fun a => if H2 a = none then H' a else B2 a) H' := ⟨sb, sm, fun a u e => by
    by_cases hz : H2 a = none
    · have e' : (if H2 a = none then H' a else B2 a) = some u := e
      rw [if_pos hz] at e'
      exact e'
    · have e' : (if H2 a = none then H' a else B2 a) = some u := e
      rw [if_neg hz] at e'
      exact sm a u (y.c a u e'), fun a h1 h2 => by
    show (if H2 a = none then H' a else B2 a) = none
    rw [if_neg h2]
    exact h1⟩
  refine q _ _ H' (y.trans nx) ⟨p, ts.map V.ref, rfl, .inl (.of (by show (if H2 p = none then H' p else B2 p) = _; rw [if_pos hp]; exact eL)), ?_⟩
  exact items_reps f.en h1 h2 (fun t ht u e => by
    show (if H2 t = none then H' t else B2 t) = some u
    rw [if_pos (hn t ht)]
    exact e) sb
end
end Sm
namespace Sm
open PySem PySem.Spec PyProof.Rows L2
/-! ### dict(xs), xs a list of pairs -/
def rDctPairs (P : Program) (w : World) (K : PySem.W.Frag) : List V → Hp → VK → Prop := fun vs H Q => ∃ (l : Addr) (ts as : List Addr) (kvs : List (NK × Int)), vs = [.ref l] ∧ SqL K H l (ts.map V.ref) ∧ Paired (fun (t : Addr) (q : Addr × NK × Int) => SqT K H t [.ref q.1, .int q.2.2]) ts (as.zip kvs) ∧ as.length = kvs.length ∧
  Paired (fun (a : Addr) (kv : NK × Int) => Dp K H (.ref a) kv.1.data ∧ kv.1.depth ≤ 8) as kvs ∧ (kvs.map (·.1)).Nodup ∧ kvs.length ≤ 100000 ∧
  ∀ p o xs, H p = none → (∀ B, Paired (fun (a : Addr) (kv : NK × Int) => Dp K B (.ref a) kv.1.data ∧ kv.1.depth ≤ 8) as kvs → DAt P w K B p o xs kvs) → Q (.ref p) (upd H p (dO o p))
section
variable {X : Cx} {pins : List (Addr × Obj)} {σ : L2.St} {H : Hp} {s : Shared}
theorem pairs_heap (I : L2.Inv X pins σ H s) : ∀ {ts : List Addr} {aks : List (Addr × NK × Int)}, Paired (fun (t : Addr) (q : Addr × NK × Int) => SqT X.K H t [.ref q.1, .int q.2.2]) ts aks →
    ∃ ys : List (NK × Addr × Value), Paired (fun (q : Addr × NK × Int) (y : NK × Addr × Value) => y.1 = q.2.1 ∧ y.2.1 = q.1 ∧ ∃ t, y.2.2 = .int q.2.2 t) aks ys ∧ Paired (fun (t : Addr) (y : NK × Addr × Value) => PairAt s.heap t (.ref y.2.1) y.2.2) ts ys
  | _, _, .nil => ⟨[], .nil, .nil⟩
  | t :: _, q :: _, .cons r tl => by
    obtain ⟨ys, h1, h2⟩ := pairs_heap I tl
    obtain ⟨its, rv, ht, _⟩ := I.tuple r
    cases rv with
    | cons r1 rv =>
      cases rv with
      | cons r2 rv =>
        cases rv
        cases r1
        obtain ⟨tk, rfl⟩ := r2
        exact ⟨(q.2.1, q.1, .int q.2.2 tk) :: ys, .cons ⟨rfl, rfl, tk, rfl⟩ h1, .cons (.inl ht) h2⟩
theorem zip_fst {α β : Type} : ∀ {l : List α} {r : List β}, l.length = r.length → (l.zip r).map (·.1) = l
  | [], [], _ => rfl
  | _ :: l, _ :: r, h => by rw [List.zip_cons_cons, List.map_cons, zip_fst (by simpa using h)]
theorem zip_snd {α β : Type} : ∀ {l : List α} {r : List β}, l.length = r.length → (l.zip r).map (·.2) = r
  | [], [], _ => rfl
  | _ :: l, _ :: r, h => by rw [List.zip_cons_cons, List.map_cons, zip_snd (by simpa using h)]
theorem keys_of {aks : List (Addr × NK × Int)} {ys : List (NK × Addr × Value)} (h : Paired (fun (q : Addr × NK × Int) (y : NK × Addr × Value) => y.1 = q.2.1 ∧ y.2.1 = q.1 ∧ ∃ t, y.2.2 = .int q.2.2 t) aks ys) : ys.map (·.1) = (aks.map (·.2)).map (·.1) := by
  induction h with
  | nil => rfl
  | cons r tl ih => rw [List.map_cons, List.map_cons, List.map_cons, r.1, ih]
theorem ents_of {K : PySem.W.Frag} {B : Hp} : ∀ {as : List Addr} {kvs : List (NK × Int)} {ys : List (NK × Addr × Value)}, Paired (fun (q : Addr × NK × Int) (y : NK × Addr × Value) => y.1 = q.2.1 ∧ y.2.1 = q.1 ∧ ∃ t, y.2.2 = .int q.2.2 t) (as.zip kvs) ys → Paired (fun (a : Addr) (kv : NK × Int) => Dp K B (.ref a) kv.1.data ∧ kv.1.depth ≤ 8) as kvs → Paired (DEnt K B) kvs ys
  | [], [], _, h, _ => by cases h; exact .nil
  | a :: as, kv :: kvs, _, h, .cons r2 t2 => by
    cases h with
    | cons r tl =>
      obtain ⟨e1, e2, t, e3⟩ := r
      exact .cons ⟨e1, by rw [e2]; exact r2.1, r2.2, t, e3⟩ (ents_of tl t2)
theorem k_dictPairs (P : Program) (w : World) (K : PySem.W.Frag) (hu : X.A.units + 64 < cLine) (hc : X.calm = true) (hP : X.prog = P := by rfl) (hw : X.w = w := by rfl) (hK : X.K = K := by rfl) : CallR X (.type "dict") (rDctPairs P w K) := by
  subst hP hw hK
  intro pins s σ H vs us Q I r ⟨l, ts, as, kvs, e, hl, hts, hlen, hkeys, hnd, hsz, q⟩
  subst e
  rw [Vals.ref1 r]
  obtain ⟨its, rv, ⟨o, n, g, oc, od, odt⟩, z⟩ := I.list hl
  have hits : its = ts.map Value.ref := by
    clear hl q hts
    have : ∀ {ts : List Addr} {its : List Value}, Vals (ts.map V.ref) its → its = ts.map Value.ref := fun {ts} => by
      induction ts with
      | nil => intro its h; cases h; rfl
      | cons t ts ih =>
        intro its h
        cases h with
        | cons h1 h2 =>
          cases h1
          rw [ih h2] <;> rfl
    exact this rv
  subst hits
  obtain ⟨ys, hy1, hy2⟩ := pairs_heap I hts
  have lts := Paired.length hy2
  have lys := Paired.length hy1
  rw [List.length_zip, hlen, Nat.min_self] at lys
  have hky := keys_of hy1
  rw [zip_snd hlen] at hky
  have hkind : ∀ x ∈ ys, (nestedKind X.prog X.w).is s.heap x.1 x.2.1 := fun x hx => by
    obtain ⟨j, hj⟩ := List.mem_iff_getElem?.mp hx
    obtain ⟨kv, h1, e1, e2, e3, _⟩ := paired_get' (ents_of (K := X.K) (B := H) hy1 hkeys) hj
    exact ⟨nest_of I x.1 (.ref x.2.1) (.ref x.2.1) (by rw [e1]; exact e2) rfl, by rw [e1]; exact e3⟩
  have A := PairArg.list (prog := X.prog) (w := X.w) l (ts.map Value.ref).toArray (fun j => ts.getD j 0) (ys.map fun y => (Value.ref y.2.1, y.2.2))
  refine call_dict_pairsH (knd := nestedKind X.prog X.w) (ps := ys) A (I.ok.hd hc) (show X.A.units + 1 + 1 + 8 < cLine by omega) ⟨⟨o, n, g, oc, od, odt⟩, ?_, fun j k v hj => ?_⟩ ⟨by rw [List.length_map], fun i key v hR => ?_⟩ (fun h' hk x hx => ?_) (by rw [List.length_map]; have := sz_line hsz; omega) fun h' tk dd hk => ?_
  · simp [lts]
  · rw [List.getElem?_map] at hj
    obtain ⟨y, hy, e⟩ := Option.map_eq_some_iff.mp hj
    obtain ⟨t, ht, hp⟩ := paired_get' hy2 hy
    cases e
    refine ⟨by simp [ht], ?_⟩
    have : ts.getD j 0 = t := by simp [List.getD, ht]
    show PairAt s.heap (ts.getD j 0) _ _
    rw [this]
    exact hp
  · have hR' : (ys.map fun y => (Value.ref y.2.1, y.2.2))[i]? = some (key, v) := hR
    rw [List.getElem?_map] at hR'
    obtain ⟨y, hy, e⟩ := Option.map_eq_some_iff.mp hR'
    cases e
    exact ⟨y.1, y.2.1, hy, rfl⟩
  · refine nestedKind_stays.stays (fun b o vs n e hq => hk b o ?_ (fun z => by simp at z) e) (hkind x hx)
    exact Nat.ne_of_lt (Heap.lt_size e)
  · rw [storedAllH_nil_of_nodup ys (by rw [hky]; exact hnd)] at dd
    obtain ⟨o', g', f'⟩ := facts_of dd
    have J : Inv X pins σ (upd H s.heap.objs.size (dO o' s.heap.objs.size)) { s with heap := h', toks := tk } := I.laid (fun b u e => hk b u (fun z => by simp at z) e) (Nat.le_refl _) (dO_ok g')
    exact ⟨.ref _, _, J, rfl, q _ o' ys (I.hok.fresh (Nat.le_refl _)) fun B hB => ⟨beq_eq_false_iff_ne.mpr (Ne.symm (Nat.ne_of_lt I.big)), f', ents_of hy1 hB, hsz⟩⟩
end
section
variable {P : Program} {w : World} {K : PySem.W.Frag} {Γ : Ctx} {te : TE} {kvs : List (NK × Int)}
theorem pairs_reps {B : Hp} : ∀ {fl : Fl} {xs : List V}, All2 (fl.map fun x => rTup K [rSt K x.1, rD K (.int x.2)]) B xs → ∃ ts as : List Addr, xs = ts.map V.ref ∧ as.length = fl.length ∧ Paired (fun (t : Addr) (q : Addr × NK × Int) => SqT K B t [.ref q.1, .int q.2.2]) ts (as.zip (kv fl)) ∧ Paired (fun (a : Addr) (x : NK × Int) => Dp K B (.ref a) x.1.data ∧ x.1.depth ≤ 8) as (kv fl)
  | [], _, h => by
    cases h
    exact ⟨[], [], rfl, rfl, .nil, .nil⟩
  | x :: fl, _, h => by
    cases h with
    | cons r tl =>
      obtain ⟨ts, as, h1, h2, h3, h4⟩ := pairs_reps tl
      obtain ⟨t, ws, e, hs, h5⟩ := r
      obtain ⟨u, v, rfl, r1, r2⟩ := all2_2 h5
      cases rD_int.mp r2
      have r1' : (rD K (NestedKey.tup [ikey x.1.1, okey x.1.2]).data).p B u := by rw [← st_key]; exact r1
      obtain ⟨a, rfl⟩ := key_ref r1'
      exact ⟨t :: ts, a :: as, by rw [e, h1]; rfl, by simp [h2], .cons hs h3, .cons ⟨r1', skey_dep x.1⟩ h4⟩
theorem ev_dctPairs {tl : TA} {fl : Fl} (hf : FlOk fl) (h : EvA Γ tl [rLst K (fl.map fun x => rTup K [rSt K x.1, rD K (.int x.2)])]) : Ev Γ (tCB (rDctPairs P w K) tl) (rDct P w K (kv fl)) := fun σ B H x Q q => h σ B H x _ fun vs B2 H2 y r => by
  obtain ⟨v, rfl, l, xs, rfl, hs, h2⟩ := all2_1 r
  obtain ⟨ts, as, rfl, e2, h3, h4⟩ := pairs_reps h2
  have hlen : (kv fl).length = fl.length := List.length_map ..
  have hfl := hf.len
  refine ⟨l, ts, as, kv fl, rfl, y.c.seq hs, paired_mono h3 fun _ _ z => Evl.ex_t y.c z, by rw [hlen]; exact e2, paired_mono h4 fun _ _ z => ⟨dp_mono y.c _ _ z.1, z.2⟩, ?_, by rw [hlen]; omega, fun p o xs hp g => ?_⟩
  · have e : (kv fl).map (·.1) = (fl.map (·.1)).map skey := by
      unfold kv
      rw [List.map_map, List.map_map]
      rfl
    rw [e]
    exact nd_map hf.nd fun a b _ _ e => skey_inj e
  · have hb := none_sub y.c hp
    exact q _ (upd B2 p (dO o p)) _ (y.trans (Nx.new y.c hp)) ⟨p, o, xs, rfl, upd_same, (g B2 h4).mono (same_new hb)⟩
end
end Sm
namespace Sm
open PySem PySem.Spec PyProof.Rows L2

abbrev s__law_cases : Stmt := top 54
def n__law_cases : List Str := ["_law_draw", "_law_pieces_now", "_law_found", "_law_plan", "_law_floors", "_law_many", "_law_key", "_law_more", "_law_less", "_law_other", "_law_at", "_law_bent", "_law_cases_here"]
theorem sc__law_cases : FnScope n__law_cases ["_law_draw", "_law_pieces_now", "_law_found"] (C8.fnScope s__law_cases) := C8.fnScope_by (by decide +kernel)
section
variable {P : Program} {w : World} {K : PySem.W.Frag} {mg : Str → Option Value} {base : Heap} {f f' : Addr} {fd fd' : FuncData} {C D p g : Addr} {ns : List Int}
/-! floors that are bent -/
def fput (fl : Fl) (s : SSt) (n : Int) : Fl := if (getS fl s).isSome then fl.map (fun x => if x.1 = s then (x.1, n) else x) else fl ++ [(s, n)]
def fdel (fl : Fl) (s : SSt) : Fl := fl.filter fun x => decide (x.1 ≠ s)
theorem kv_put {fl : Fl} {s : SSt} {n : Int} : dput (kv fl) (.tup [ikey s.1, okey s.2]) n = kv (fput fl s n) := by
  unfold dput fput
  show (if (getS fl s).isSome = true then _ else _) = _
  by_cases h : (getS fl s).isSome = true
  · rw [if_pos h, if_pos h]
    unfold kv
    rw [List.map_map, List.map_map]
    apply List.map_congr_left
    intro x _
    show (if skey x.1 = skey s then (skey x.1, n) else (skey x.1, x.2)) = (skey (if x.1 = s then (x.1, n) else x).1, (if x.1 = s then (x.1, n) else x).2)
    by_cases e : x.1 = s
    · rw [if_pos (by rw [e]), if_pos e]
    · rw [if_neg (fun q => e (skey_inj q)), if_neg e]
  · rw [if_neg h, if_neg h]
    unfold kv
    rw [List.map_append]
    rfl
theorem kv_del {fl : Fl} {s : SSt} : ddel (kv fl) (.tup [ikey s.1, okey s.2]) = kv (fdel fl s) := by
  unfold ddel fdel kv
  rw [List.filter_map]
  congr 1
  apply List.filter_congr
  intro x _
  show decide (skey x.1 ≠ skey s) = decide (x.1 ≠ s)
  exact decide_eq_decide.mpr ⟨fun h e => h (by rw [e]), fun h e => h (skey_inj e)⟩
theorem getS_none {s : SSt} : ∀ {fl : Fl}, getS fl s = none → s ∉ fl.map (·.1)
  | [], _, h => by cases h
  | x :: fl, h, hm => by
    unfold getS kv dget at h
    rw [List.map_cons] at h
    by_cases e : x.1 = s
    · rw [List.find?_cons_of_pos (by simp only [decide_eq_true_eq]; rw [e]; rfl)] at h
      cases h
    · rw [List.find?_cons_of_neg (by simp only [decide_eq_true_eq]; exact fun q => e (skey_inj (b := s) q))] at h
      rcases List.mem_cons.mp hm with q | hm
      · exact e q.symm
      · exact getS_none (fl := fl) h hm
theorem FlG.put {wd : Nat} {ps : List Piece} {pr : List Int} {fl : Fl} (h : FlG wd ps pr fl) {s : SSt} (hs : s ∈ keysU) (hr : ∀ r, s.2 = some r → r.length = wd) (n : Int) : FlG wd ps pr (fput fl s n) := by
  unfold fput
  by_cases hg : (getS fl s).isSome = true
  · rw [if_pos hg]
    have e : ∀ x : SSt × Int, (if x.1 = s then (x.1, n) else x).1 = x.1 := fun x => by split <;> rfl
    refine ⟨h.g, ⟨?_, fun x hx => ?_⟩, fun x hx => ?_⟩
    · rw [List.map_map, show ((·.1) ∘ fun x : SSt × Int => if x.1 = s then (x.1, n) else x) = (·.1) from funext e]
      exact h.ok.nd
    · obtain ⟨y, hy, rfl⟩ := List.mem_map.mp hx
      rw [e]
      exact h.ok.ku y hy
    · obtain ⟨y, hy, rfl⟩ := List.mem_map.mp hx
      rw [e]
      exact h.row y hy
  · rw [if_neg hg]
    have hno : getS fl s = none := by
      cases q : getS fl s with
      | none => rfl
      | some v => rw [q] at hg; exact absurd rfl hg
    refine ⟨h.g, ⟨?_, fun x hx => ?_⟩, fun x hx => ?_⟩
    · rw [List.map_append, List.nodup_append]
      refine ⟨h.ok.nd, by simp, fun a ha b hb => ?_⟩
      have e : b = s := by simpa using hb
      rw [e]
      exact fun q => getS_none hno (q ▸ ha)
    · rcases List.mem_append.mp hx with hx | hx
      · exact h.ok.ku x hx
      · rw [List.mem_singleton.mp hx]; exact hs
    · rcases List.mem_append.mp hx with hx | hx
      · exact h.row x hx
      · rw [List.mem_singleton.mp hx]; exact hr
theorem FlG.sub {wd : Nat} {ps : List Piece} {pr : List Int} {fl fl' : Fl} (h : FlG wd ps pr fl) (hs : fl'.Sublist fl) : FlG wd ps pr fl' :=
  ⟨h.g, ⟨(hs.map (·.1)).nodup h.ok.nd, fun x hx => h.ok.ku x (hs.subset hx)⟩, fun x hx => h.row x (hs.subset hx)⟩
theorem FlG.rev {wd : Nat} {ps : List Piece} {pr : List Int} {fl : Fl} (h : FlG wd ps pr fl) : FlG wd ps pr fl.reverse :=
  ⟨h.g, ⟨by rw [List.map_reverse]; exact List.pairwise_reverse.mpr (h.ok.nd.imp fun h e => h e.symm), fun x hx => h.ok.ku x (List.mem_reverse.mp hx)⟩, fun x hx => h.row x (List.mem_reverse.mp hx)⟩
theorem getS_some {s : SSt} {fl : Fl} (h : s ∈ fl.map (·.1)) : ∃ v, getS fl s = some v := by
  cases q : getS fl s with
  | none => exact absurd h (getS_none q)
  | some v => exact ⟨v, rfl⟩
section
variable {Γ : Ctx} {te ti : TE} {tl : TA} {k i : Nat} {a : Addr} {L : L2.Ends} {B0 H0 : Hp} {kvs : List (NK × Int)}
theorem gx_dsetX {Pr : SSt → Prop} {n : Int} (hk : Γ.o[k]? = some (a, oDct P w K a kvs)) (h0 : H0 a = none) (hi : Γ.r[i]? = some (some (rV (.ref a)))) (hv : Ev Γ te (rD K (.int n))) (hb : Ev Γ ti (rEx Pr fun s => rSt K s)) (hl : kvs.length < 100000)
    (c : ∀ s, Pr s → Gx B0 H0 { Γ with o := Γ.o.set k (a, oDct P w K a (dput kvs (.tup [ikey s.1, okey s.2]) n)) } L.nx) : Gx B0 H0 Γ (tAsg te (gSub (tVar i) ti (rDSet P w K)) L) := fun σ H ⟨B, x, t⟩ =>
  hv σ B H t _ fun v B2 H2 y rv => ⟨.ref a, var_at (t.next y) hi, hb σ B2 H2 (t.next y) _ fun u B3 H3 z ⟨s, hs, ru0⟩ => by
    cases rD_int.mp rv
    have ru : (rD K (NestedKey.tup [ikey s.1, okey s.2]).data).p B3 u := by rw [← st_key]; exact ru0
    obtain ⟨b, rfl⟩ := key_ref ru
    have t3 := (t.next y).next z
    obtain ⟨ho, hh, o, xs, rfl, h2⟩ := own_at t3 hk
    refine ⟨a, o, xs, kvs, b, .tup [ikey s.1, okey s.2], n, rfl, rfl, rfl, hh, h2.mono z.c, hl, dp_mono z.c _ _ ru, skey_dep s, fun o' xs' f => c s hs σ _ ⟨B3, ?_, t3.mut hk ⟨o', xs', rfl, f B3 ru h2⟩⟩⟩
    exact ((x.trans y).trans z).mut h0 (t3.o _ (List.mem_of_getElem? hk)).1⟩
theorem ev_dnew : Ev Γ (tDNew P w K) (rDct P w K []) := fun σ B H x Q q p o hp f => q _ (upd B p (dO o p)) _ (Nx.new x.c hp) ⟨p, o, [], rfl, upd_same, f _⟩
theorem rv_catA {a b : List Int} (h : a.length + b.length ≤ 100000) : RV2 (rCatA K) (rInts K a) (rInts K b) (rInts K (a ++ b)) := fun x y B H c rx ry Q q => by
  obtain ⟨p1, xs, rfl, hs1, h1⟩ := id rx
  obtain ⟨p2, ys, rfl, hs2, h2⟩ := id ry
  have l1 := h1.len
  have l2 := h2.len
  rw [List.length_map] at l1 l2
  refine ⟨p1, p2, xs, ys, rfl, rfl, Evl.ex_t c hs1, Evl.ex_t c hs2, Evl.sz_of (by omega), fun e => ?_, fun _ e => ?_, fun _ _ p hp => ?_⟩
  · subst e
    have : a = [] := List.length_eq_zero_iff.mp l1
    subst this
    exact q _ B H (Nx.refl c) ry
  · subst e
    have : b = [] := List.length_eq_zero_iff.mp l2
    subst this
    rw [List.append_nil] at q
    exact q _ B H (Nx.refl c) rx
  · refine q _ (upd B p (.tup (xs ++ ys))) _ (Nx.new c hp) ⟨p, _, rfl, .inl (.of upd_same), ?_⟩
    rw [List.map_append]
    exact (h1.app h2).mono (same_new (none_sub c hp))
end
theorem kv_keys {fl : Fl} : (kv fl).map (fun x => rD K x.1.data) = fl.map fun x => rSt K x.1 := by
  unfold kv
  rw [List.map_map]
  apply List.map_congr_left
  intro x _
  show rD K (skey x.1).data = rSt K x.1
  rw [skey_data]
theorem kv_items {fl : Fl} : (kv fl).map (fun x => rTup K [rD K x.1.data, rD K (.int x.2)]) = fl.map fun x => rTup K [rSt K x.1, rD K (.int x.2)] := by
  unfold kv
  rw [List.map_map]
  apply List.map_congr_left
  intro x _
  show rTup K [rD K (skey x.1).data, rD K (.int x.2)] = rTup K [rSt K x.1, rD K (.int x.2)]
  rw [skey_data]
theorem cut_len {α : Type} {l : List α} {lo hi : Option Int} : (cutR l lo hi).length ≤ l.length := by
  unfold cutR
  rw [List.length_take, List.length_drop]
  omega
theorem ev_cutP {Γ : Ctx} {te : TE} {tl th : TO} {lo hi : Option Int} {pl : Plan} (h : Ev Γ te (rPlan K pl)) (h1 : EvP Γ tl lo) (h2 : EvP Γ th hi) : Ev Γ (tSl (rSlL K) te tl th) (rPlan K (cutR pl lo hi)) := (ev_slL h h1 h2).eq (by rw [cutR_map])
theorem ev_catP {Γ : Ctx} {ta tb : TE} {a b : Plan} (hl : a.length + b.length ≤ 100000) (h1 : Ev Γ ta (rPlan K a)) (h2 : Ev Γ tb (rPlan K b)) : Ev Γ (tOp (rCatL K) ta tb) (rPlan K (a ++ b)) := (ev_op (rv_catL (by rw [List.length_map, List.length_map]; exact hl)) h1 h2).eq (congrArg (rLst K) List.map_append.symm)
abbrev Cases := List (Plan × Fl)
abbrev rCase (P : Program) (w : World) (K : PySem.W.Frag) (c : Plan × Fl) : Rep := rTup K [rPlan K c.1, rDct P w K (kv c.2)]
def CasesOk (wd : Nat) (ps : List Piece) (pr : List Int) (cs : Cases) : Prop := cs.length ≤ 1000 ∧ ∀ c ∈ cs, c.1.length < 64 ∧ FlG wd ps pr c.2
theorem cases_tail {ps : List Piece} {wd : Nat} {pr : List Int} {pl bent : Plan} {fl m1 m2 m3 : Fl} {s : SSt} {i : Int} {B0 H0 : Hp} {Q : VK} (hrev : FlOk fl.reverse) (hpl : pl.length ≤ 4)
    (hok : CasesOk wd ps pr ([(pl, fl.reverse), (pl, m1), (pl, m2), (pl, m3), (bent, fl), (pl.reverse, fl)] ++ [(cutR pl none (some (-1)), fl), (pl ++ cutR pl none (some 1), fl), (cutR pl none (some (-1)) ++ cutR pl none (some 1), fl), (pl, [])]))
    (q : Ret B0 H0 (rEx (CasesOk wd ps pr) fun cs => rLst K (cs.map (rCase P w K))) Q) :
    Gx B0 H0 (Ctx.mk [some (rDraw K ns), some (rLP K ps), some (rSeamed P w K D pl fl), some (rPlan K pl), some (rDct P w K (kv fl)), some (rD K (.int ps.length)), some (rSt K s), some (rDct P w K (kv m1)), some (rDct P w K (kv m2)), some (rDct P w K (kv m3)), some (rD K (.int i)), some (rPlan K bent), none] [])
    (tSeq (tAsg (tLst (tCons (tTup (tCons (tVar 3) (tCons (tCB (rDctPairs P w K) (tCons (tRevL K (tLsItems P w K (tVar 4))) tNil)) tNil)))
    (tCons (tTup (tCons (tVar 3) (tCons (tVar 7) tNil))) (tCons (tTup (tCons (tVar 3) (tCons (tVar 8) tNil))) (tCons (tTup (tCons (tVar 3) (tCons (tVar 9) tNil))) (tCons (tTup (tCons (tVar 11) (tCons (tVar 4) tNil))) (tCons (tTup (tCons (tRevL K (tVar 3)) (tCons (tVar 4) tNil))) tNil))))))) (gName 12))
    (tRet (tOp (rCatL K) (tVar 12) (tLst (tCons (tTup (tCons (tSl (rSlL K) (tVar 3) tNoPart (tPart (tUn (rU fun i => V.int (-i)) (tC (V.int 1))))) (tCons (tVar 4) tNil)))
      (tCons (tTup (tCons (tOp (rCatL K) (tVar 3) (tSl (rSlL K) (tVar 3) tNoPart (tPart (tC (V.int 1))))) (tCons (tVar 4) tNil)))
      (tCons (tTup (tCons (tOp (rCatL K) (tSl (rSlL K) (tVar 3) tNoPart (tPart (tUn (rU fun i => V.int (-i)) (tC (V.int 1))))) (tSl (rSlL K) (tVar 3) tNoPart (tPart (tC (V.int 1))))) (tCons (tVar 4) tNil)))
      (tCons (tTup (tCons (tVar 3) (tCons (tDNew P w K) tNil))) tNil))))))) (endsOf Q)) := by
  have c3 := cut_len (l := pl) (lo := none) (hi := some (-1))
  have c4 := cut_len (l := pl) (lo := none) (hi := some 1)
  have tp : ∀ {Γ : Ctx} {ta tb : TE} {c : Plan} {d : Fl}, Ev Γ ta (rPlan K c) → Ev Γ tb (rDct P w K (kv d)) → Ev Γ (tTup (tCons ta (tCons tb tNil))) (rCase P w K (c, d)) := fun ha hb => ev_tup (ea_cons ha (ea_cons hb ea_nil)) (by simp)
  refine gx_seq (gx_set (R := rLst K ([(pl, fl.reverse), (pl, m1), (pl, m2), (pl, m3), (bent, fl), (pl.reverse, fl)].map (rCase P w K)))
    (ev_lst (ea_cons (tp (ev_var rfl) (ev_dctPairs hrev (ea_cons ((ev_revL (ev_lsItems (ev_var rfl))).eq (by rw [kv_items, List.map_reverse])) ea_nil))) (ea_cons (tp (ev_var rfl) (ev_var rfl)) (ea_cons (tp (ev_var rfl) (ev_var rfl)) (ea_cons (tp (ev_var rfl) (ev_var rfl)) (ea_cons (tp (ev_var rfl) (ev_var rfl)) (ea_cons (tp ((ev_revL (ev_var (R := rPlan K pl) rfl)).eq (congrArg (rLst K) List.map_reverse.symm)) (ev_var rfl)) ea_nil)))))) (by simp)) ?_)
  dsimp only
  refine gx_ret (ev_exI (P := CasesOk wd ps pr) (F := fun cs => rLst K (cs.map (rCase P w K))) (i := [(pl, fl.reverse), (pl, m1), (pl, m2), (pl, m3), (bent, fl), (pl.reverse, fl)] ++ [(cutR pl none (some (-1)), fl), (pl ++ cutR pl none (some 1), fl), (cutR pl none (some (-1)) ++ cutR pl none (some 1), fl), (pl, [])]) hok
    ((ev_op (rv_catL (by simp)) (ev_var rfl) (ev_lst (Rs := [(cutR pl none (some (-1)), fl), (pl ++ cutR pl none (some 1), fl), (cutR pl none (some (-1)) ++ cutR pl none (some 1), fl), (pl, [])].map (rCase P w K)) (ea_cons (tp (ev_cutP (ev_var rfl) ep_no (ep_some (K := K) (ev_un rv_neg ev_int))) (ev_var rfl)) (ea_cons (tp (ev_catP (by omega) (ev_var rfl) (ev_cutP (ev_var rfl) ep_no (ep_some (K := K) ev_int))) (ev_var rfl))
      (ea_cons (tp (ev_catP (by omega) (ev_cutP (ev_var rfl) ep_no (ep_some (K := K) (ev_un rv_neg ev_int))) (ev_cutP (ev_var rfl) ep_no (ep_some (K := K) ev_int))) (ev_var rfl)) (ea_cons (tp (ev_var rfl) ev_dnew) ea_nil)))) (by simp))).eq (by rw [← List.map_append]))) q
def spCases (P : Program) (w : World) (K : PySem.W.Frag) (D : Addr) : Sp := SpF (α := List Int × List Piece × Nat × List Int × Plan × Fl) (fun a => [rDraw K a.1, rLP K a.2.1, rSeamed P w K D a.2.2.2.2.1 a.2.2.2.2.2]) (fun a => rEx (CasesOk a.2.2.1 a.2.1 a.2.2.2.1) fun cs => rLst K (cs.map (rCase P w K)))
  (fun a => a.1.length ≤ 63 ∧ FlG a.2.2.1 a.2.1 a.2.2.2.1 a.2.2.2.2.2 ∧ a.2.2.2.2.2 ≠ [] ∧ a.2.2.2.2.1.length = a.2.1.length)
theorem ok_law_cases (F : C8.Def K mg "_law_cases" s__law_cases f fd) (b : Binds K fd ["_law_draw", "_law_pieces_now", "_law_found"] []) (T : Txt K mg C D p g) (G__law_take : C8.Cal P w K mg base 2 "_law_take" (spTake K) []) (G__law_pick : C8.Cal P w K mg base 3 "_law_pick" (spPick K) []) : C8.Cal P w K mg base 4 "_law_cases" (spCases P w K D) [] := by
  refine C8.cal0 F b .nil sc__law_cases (sp_len fun _ => rfl) fun cdv A outer s H vs Q E hr h => ⟨_, (pss_cons (ps_par3 (i := 3) (j := 4) (l := 5) (by rfl) sc__law_cases.nd rfl rfl rfl (by decide) (by decide) (by decide) rfl rfl rfl (pa_cons (k_fld K (pv 2) rfl) (pa_cons (k_fld K (pv 2) rfl) (pa_cons (pe_callB (k_len K) (by rfl) T.b.len (by decide +kernel) (pa_cons (pv 1) pa_nil)) pa_nil))) (by rfl))
      (pss_cons (ps_set (i := 6) sc__law_cases.nd rfl (Or.inl rfl) (C8.pe_c G__law_pick hr (by decide) (by rfl) (pa_cons (pv 0) (pa_cons (pe_callTy (k_lsDct P w K rfl) (by rfl) T.b.list (by decide +kernel) (pa_cons (pv 4) pa_nil)) pa_nil))))
      (pss_cons (ps_par3 (i := 7) (j := 8) (l := 9) (by rfl) sc__law_cases.nd rfl rfl rfl (by decide) (by decide) (by decide) rfl rfl rfl (pa_cons (pe_callTy (k_dictOf P w K hr.units) (by rfl) T.b.dict (by decide +kernel) (pa_cons (pv 4) pa_nil)) (pa_cons (pe_callTy (k_dictOf P w K hr.units) (by rfl) T.b.dict (by decide +kernel) (pa_cons (pv 4) pa_nil)) (pa_cons (pe_callTy (k_dictOf P w K hr.units) (by rfl) T.b.dict (by decide +kernel) (pa_cons (pv 4) pa_nil)) pa_nil))) (by rfl))
      (pss_cons (ps_asg (pe_op op_add (d_ix P w K hr.units (pv 7) (pv 6)) pe_int) (pg_sub (pv 7) (pv 6) (d_set P w K hr.units)))
      (pss_cons (ps_expr (d_popK P w K hr.units (pv 8) (pa_cons (pv 6) pa_nil)))
      (pss_cons (ps_asg pe_int (pg_sub (pv 9) (C8.pe_c G__law_pick hr (by decide) (by rfl) (pa_cons (pv 0) (pa_cons (pe_lst (pa_cons (pe_tup (pa_cons (pe_tup (pa_cons (pv 5) pa_nil)) (pa_cons (k_ix K (k_ix K (pv 1) pe_int (fun _ _ => rfl)) pe_int (fun _ _ => rfl)) pa_nil))) (pa_cons (pe_tup (pa_cons (pe_op (k_catA K) (pe_tupRg rfl (by rfl) T.b.tuple (prg_1 (by rfl) T.b.range (pv 5))) (pe_tup (pa_cons pe_int pa_nil))) (pa_cons pe_non pa_nil))) (pa_cons (pe_tup (pa_cons (pe_tup (pa_cons pe_int (pa_cons pe_int pa_nil))) (pa_cons (k_ix K (k_ix K (pv 1) pe_int (fun _ _ => rfl)) pe_int (fun _ _ => rfl)) pa_nil))) pa_nil)))) pa_nil))) (d_set P w K hr.units)))
      (pss_cons (ps_set (i := 10) sc__law_cases.nd rfl (Or.inl rfl) (C8.pe_c G__law_take hr (by decide) (by rfl) (pa_cons (pv 0) (pa_cons (pv 5) pa_nil))))
      (pss_cons (ps_set (i := 11) sc__law_cases.nd rfl (Or.inl rfl) (pe_op (k_catL K) (pe_op (k_catL K) (pe_slice (k_slL K) (pv 3) po_none (po_some (pv 10))) (pe_lst (pa_cons (pe_tup (pa_cons (k_ix K (k_ix K (pv 3) (pv 10) (fun _ _ => rfl)) pe_int (fun _ _ => rfl)) (pa_cons (pe_not (k_ix K (k_ix K (pv 3) (pv 10) (fun _ _ => rfl)) pe_int (fun _ _ => rfl))) pa_nil))) pa_nil))) (pe_slice (k_slL K) (pv 3) (po_some (pe_op op_add (pv 10) pe_int)) po_none)))
      (pss_cons (ps_set (i := 12) sc__law_cases.nd rfl (Or.inl rfl) (pe_lst (pa_cons (pe_tup (pa_cons (pv 3) (pa_cons (pe_callTy (k_dictPairs P w K hr.units rfl) (by rfl) T.b.dict (by decide +kernel) (pa_cons (k_revL K (k_listItems P w K rfl (pv 4) (by rfl) T.b.list (by decide +kernel))) pa_nil)) pa_nil))) (pa_cons (pe_tup (pa_cons (pv 3) (pa_cons (pv 7) pa_nil))) (pa_cons (pe_tup (pa_cons (pv 3) (pa_cons (pv 8) pa_nil))) (pa_cons (pe_tup (pa_cons (pv 3) (pa_cons (pv 9) pa_nil))) (pa_cons (pe_tup (pa_cons (pv 11) (pa_cons (pv 4) pa_nil))) (pa_cons (pe_tup (pa_cons (k_revL K (pv 3)) (pa_cons (pv 4) pa_nil))) pa_nil))))))))
      (pss_one (ps_ret (pe_op (k_catL K) (pv 12) (pe_lst (pa_cons (pe_tup (pa_cons (pe_slice (k_slL K) (pv 3) po_none (po_some (pe_un un_neg pe_int))) (pa_cons (pv 4) pa_nil))) (pa_cons (pe_tup (pa_cons (pe_op (k_catL K) (pv 3) (pe_slice (k_slL K) (pv 3) po_none (po_some pe_int))) (pa_cons (pv 4) pa_nil))) (pa_cons (pe_tup (pa_cons (pe_op (k_catL K) (pe_slice (k_slL K) (pv 3) po_none (po_some (pe_un un_neg pe_int))) (pe_slice (k_slL K) (pv 3) po_none (po_some pe_int))) (pa_cons (pv 4) pa_nil))) (pa_cons (pe_tup (pa_cons (pv 3) (pa_cons (d_new P w K) pa_nil))) pa_nil))))))))))))))))), sp_run (N := n__law_cases) ?_ h⟩
  rintro ⟨ns, ps, wd, pr, pl, fl⟩ ⟨(hns : ns.length ≤ 63), (hF : FlG wd ps pr fl), (hne : fl ≠ []), (hpl : pl.length = ps.length)⟩ B0 H0 Q q
  have hG := hF.g
  have n1 := hG.n1
  have n2 := hG.n2
  have hfl := hF.ok.len
  have hkvl : (kv fl).length = fl.length := List.length_map ..
  have h0 : ps[0]? = some ps[0] := List.getElem?_eq_getElem (by omega)
  have hpm := List.mem_of_getElem? h0
  obtain ⟨p1, p2⟩ := hG.pc _ hpm
  generalize ps[0] = p0 at h0 hpm p1 p2
  have hr0 : p0[0]? = some (p0.headD []) := head_at p1
  have hrow0 := p2 _ (List.mem_of_getElem? hr0)
  generalize p0.headD [] = r0 at hr0 hrow0
  refine gx_seq (gx_par3 (gt_cons (ev_fld T.cl_Seamed T.n_plan at_plan (ev_var rfl)) (gt_cons (ev_fld T.cl_Seamed T.n_floors at_floors (ev_var rfl)) (gt_cons (R := rD K (.int ps.length)) ((ev_cb rvs_lenL (ea_cons (ev_var rfl) ea_nil)).eq (by rw [List.length_map])) (gt_three ?_)))))
  dsimp only
  refine gx_seq (gx_setX (P := fun x : SSt × Int => x ∈ fl) (F := fun x => rSt K x.1) (ev_call rfl (pick_map (ls := fl) (R := fun x : SSt × Int => rSt K x.1) hns (List.length_pos_iff.mpr hne)) (ea_cons (ev_var rfl) (ea_cons ((ev_cb rvs_lsDct (ea_cons (ev_var rfl) ea_nil)).eq (by rw [kv_keys])) ea_nil))) fun x hx => ?_)
  obtain ⟨s, v⟩ := x
  have hget : getS fl s = some v := getS_mem hF.ok.nd hx
  have hsr : ∀ r, s.2 = some r → r.length = wd := hF.row _ hx
  dsimp only
  refine gx_seq (gx_par3 (gt_dctOf hF.ok.hash (ea_cons (ev_var rfl) ea_nil) fun a1 h1 => gt_dctOf hF.ok.hash (ea_cons (ev_var rfl) ea_nil) fun a2 h2 => gt_dctOf hF.ok.hash (ea_cons (ev_var rfl) ea_nil) fun a3 h3 => gt_three ?_))
  dsimp only
  refine gx_seq (gx_dset (k := 2) (i := 7) (a := a1) (ks := [ikey s.1, okey s.2]) (n := v + 1) rfl h1 rfl (ev_op rv_I0 (ev_peek (k := 2) (i := 7) (a := a1) rfl rfl (fun B ho h w => seal_dct h w) flat_int (ev_op (rv_dget (ks := [ikey s.1, okey s.2]) (skey_dep s) hget) (ev_var rfl) (ev_key (ev_var rfl)))) ev_int) (ev_key (ev_var rfl)) (skey_dep s) (by omega) ?_)
  rw [kv_put]
  dsimp only
  refine gx_seq (gx_dpop (k := 1) (i := 8) (a := a2) (ks := [ikey s.1, okey s.2]) rfl h2 rfl (ea_cons (ev_key (ev_var rfl)) ea_nil) (skey_dep s) hget ?_)
  rw [kv_del]
  dsimp only
  have e0 : ∀ {Γ : Ctx}, Γ.r[1]? = some (some (rLP K ps)) → Ev Γ (tOp (rIx K) (tOp (rIx K) (tVar 1) (tC (.int 0))) (tC (.int 0))) (rInts K r0) := fun h => ev_op (rv_xL (ixN_0 (by rw [List.length_map]; omega)) (rows_at hr0)) (ev_op (rv_xL (R := rLR K p0) (ixN_0 (by rw [List.length_map]; omega)) (by rw [List.getElem?_map, h0] <;> rfl)) (ev_var h) ev_int) ev_int
  have hb3 : ∀ t : SSt, t ∈ [([(ps.length : Int)], some r0), (iota ps.length ++ [0], none), ([0, 0], some r0)] → t ∈ keysU ∧ ∀ r, t.2 = some r → r.length = wd := fun t ht => by
    have hl0 := last_U hG.w1 hG.w2 hrow0
    have hn : ps.length = 1 ∨ ps.length = 2 ∨ ps.length = 3 ∨ ps.length = 4 := by omega
    rcases List.mem_cons.mp ht with e | ht
    · subst e
      refine ⟨key_U ?_ hl0, fun r hr => by cases hr; exact hrow0.1⟩
      rcases hn with e | e | e | e <;> rw [e] <;> decide
    · rcases List.mem_cons.mp ht with e | ht
      · subst e
        refine ⟨key_U ?_ List.mem_cons_self, fun r hr => nomatch hr⟩
        rcases hn with e | e | e | e <;> rw [e] <;> decide
      · rw [List.mem_singleton.mp ht]
        exact ⟨key_U (by decide) hl0, fun r hr => by cases hr; exact hrow0.1⟩
  refine gx_seq (gx_dsetX (Pr := fun t => t ∈ [([(ps.length : Int)], some r0), (iota ps.length ++ [0], none), ([0, 0], some r0)]) (k := 0) (i := 9) (a := a3) rfl h3 rfl ev_int (ev_call rfl (pick_map (ls := [([(ps.length : Int)], some r0), (iota ps.length ++ [0], none), ([0, 0], some r0)]) (R := fun t : SSt => rSt K t) hns (by simp)) (ea_cons (ev_var rfl) (ea_cons
    (ev_lst (Rs := [([(ps.length : Int)], some r0), (iota ps.length ++ [0], none), ([0, 0], some r0)].map fun t : SSt => rSt K t) (ea_cons (ev_st (s := ([(ps.length : Int)], some r0)) (ev_tup (ea_cons (ev_tup (ea_cons (ev_var rfl) ea_nil) (by simp)) (ea_cons (e0 rfl) ea_nil)) (by simp)))
      (ea_cons (ev_st (s := (iota ps.length ++ [0], none)) (ev_tup (ea_cons (ev_op (rv_catA (b := [0]) (by rw [iota_len]; simp; omega)) (ev_tupRg (n := ps.length) (by omega) (ev_var rfl)) (ev_tup (ea_cons ev_int ea_nil) (by simp))) (ea_cons ev_non ea_nil)) (by simp)))
      (ea_cons (ev_st (s := ([0, 0], some r0)) (ev_tup (ea_cons (ev_tup (ea_cons ev_int (ea_cons ev_int ea_nil)) (by simp)) (ea_cons (e0 rfl) ea_nil)) (by simp))) ea_nil))) (by simp)) ea_nil))) (by omega) fun t ht => ?_)
  rw [kv_put]
  obtain ⟨tk, tr⟩ := hb3 t ht
  dsimp only
  refine gx_seq (gx_setX (P := fun i : Int => 0 ≤ i ∧ i < ps.length) (F := fun i => rD K (.int i)) (ev_call rfl (take_rsp hns (by omega)) (ea_cons (ev_var rfl) (ea_cons (ev_var rfl) ea_nil))) fun i hi => ?_)
  have hit : i.toNat < pl.length := by omega
  have hix : ixN (pl.map (rPair K)).length i = some i.toNat := by
    rw [List.length_map]
    have e : i = (i.toNat : Int) := by omega
    rw [e]
    exact ixN_nat (by omega)
  have hat : (pl.map (rPair K))[i.toNat]? = some (rPair K pl[i.toNat]) := by rw [List.getElem?_map, List.getElem?_eq_getElem hit] <;> rfl
  generalize pl[i.toNat] = y at hat
  have c1 := cut_len (l := pl) (lo := none) (hi := some i)
  have c2 := cut_len (l := pl) (lo := some (i + 1)) (hi := none)
  have c3 := cut_len (l := pl) (lo := none) (hi := some (-1))
  have c4 := cut_len (l := pl) (lo := none) (hi := some 1)
  dsimp only
  refine gx_seq (gx_set (R := rPlan K (cutR pl none (some i) ++ [(y.1, !y.2)] ++ cutR pl (some (i + 1)) none)) (ev_catP (by rw [List.length_append]; simp; omega) (ev_catP (by simp; omega) (ev_cutP (ev_var rfl) ep_no (ep_some (K := K) (ev_var rfl)))
    (ev_lst (Rs := [(y.1, !y.2)].map (rPair K)) (ea_cons (ev_tup (ea_cons (ev_op (rv_xT (j := 0) rfl rfl) (ev_op (rv_xL hix hat) (ev_var rfl) (ev_var rfl)) ev_int) (ea_cons (ev_notV (ev_op (rv_xT (j := 1) rfl rfl) (ev_op (rv_xL hix hat) (ev_var rfl) (ev_var rfl)) ev_int)) ea_nil)) (by simp)) ea_nil) (by simp)))
    (ev_cutP (ev_var rfl) (ep_some (K := K) (ev_op rv_I0 (ev_var rfl) ev_int)) ep_no)) ?_)
  refine gx_seal (k := 0) (i := 9) rfl h3 rfl (R := rDct P w K (kv (fput fl t 0))) (fun B ho h w => seal_dct h w) ?_
  refine gx_seal (k := 0) (i := 8) rfl h2 rfl (R := rDct P w K (kv (fdel fl s))) (fun B ho h w => seal_dct h w) ?_
  refine gx_seal (k := 0) (i := 7) rfl h1 rfl (R := rDct P w K (kv (fput fl s (v + 1)))) (fun B ho h w => seal_dct h w) ?_
  dsimp only
  refine cases_tail (m1 := fput fl s (v + 1)) (m2 := fdel fl s) (m3 := fput fl t 0) hF.rev.ok (by omega) ⟨by simp, ?_⟩ q
  intro c hc
  have hput := hF.put (s := s) (hF.ok.ku _ hx) hsr (v + 1)
  have hput2 := hF.put tk tr 0
  have hdel : FlG wd ps pr (fdel fl s) := hF.sub List.filter_sublist
  have hnil : FlG wd ps pr [] := hF.sub (List.nil_sublist _)
  simp only [List.cons_append, List.nil_append, List.mem_cons, List.not_mem_nil, or_false] at hc
  rcases hc with e | e | e | e | e | e | e | e | e | e <;> subst e
  · exact ⟨by show pl.length < 64; omega, hF.rev⟩
  · exact ⟨by show pl.length < 64; omega, hput⟩
  · exact ⟨by show pl.length < 64; omega, hdel⟩
  · exact ⟨by show pl.length < 64; omega, hput2⟩
  · exact ⟨by show List.length (cutR pl none (some i) ++ [(y.1, !y.2)] ++ cutR pl (some (i + 1)) none) < 64; rw [List.length_append, List.length_append]; simp; omega, hF⟩
  · exact ⟨by show pl.reverse.length < 64; rw [List.length_reverse]; omega, hF⟩
  · exact ⟨by show (cutR pl none (some (-1))).length < 64; omega, hF⟩
  · exact ⟨by show List.length (pl ++ cutR pl none (some 1)) < 64; rw [List.length_append]; omega, hF⟩
  · exact ⟨by show List.length (cutR pl none (some (-1)) ++ cutR pl none (some 1)) < 64; rw [List.length_append]; omega, hF⟩
  · exact ⟨by show pl.length < 64; omega, hnil⟩
end
end Sm
namespace Sm
/-! ### plain laws: the least of all plans is the value of the start -/
def costFrom (pr : List Int) : Option (List Int) → List (List Int × List Int) → Int
  | _, [] => 0
  | o, e :: es => seamF o e.1 pr + costFrom pr (some e.2) es
theorem costFrom_some {pr : List Int} : ∀ {es : List (List Int × List Int)} {e : List Int × List Int}, costFrom pr (some e.2) es = costE (e :: es) pr
  | [], e => rfl
  | a :: es, e => by
    rw [costE_cons, ← costFrom_some]
    rfl
theorem costFrom_none {pr : List Int} {es : List (List Int × List Int)} : costFrom pr none es = costE es pr := by
  cases es with
  | nil => rfl
  | cons e es =>
    show 0 + costFrom pr (some e.2) es = _
    rw [costFrom_some]
    omega
theorem val_low {ps : List Piece} {pr : List Int} : ∀ (pl : Plan) (s : SSt), (pl.map (·.1)).Perm s.1 → s.1.Nodup → val ps pr s ≤ costFrom pr s.2 (endsL ps pl)
  | [], s, h, hn => by
    have h0 : s.1 = [] := List.Perm.nil_eq h |>.symm
    have : val ps pr s = 0 := by unfold val; rw [h0]; rfl
    rw [this]
    exact Int.le_refl _
  | y :: pl, s, h, hn => by
    have hy : y.1 ∈ s.1 := h.subset (by simp)
    have h0 : s.1 ≠ [] := fun e => by rw [e] at hy; cases hy
    have hp : (pl.map (·.1)).Perm (rest s.1 y.1) := by
      have h2 : (y.1 :: pl.map (·.1)).Perm (y.1 :: rest s.1 y.1) := h.trans (rest_perm hn hy)
      exact List.Perm.cons_inv h2
    have ih := val_low (ps := ps) (pr := pr) pl (stepOf ps s.1 y.1 y.2).1 hp (rest_sub.nodup hn)
    have h1 : val ps pr s ≤ val ps pr (stepOf ps s.1 y.1 y.2).1 + seamF s.2 (stepOf ps s.1 y.1 y.2).2 pr := by
      rw [val_step hn h0]
      exact minL_le (List.mem_map.mpr ⟨_, mem_steps.mpr ⟨y.1, hy, y.2, rfl⟩, rfl⟩)
    show val ps pr s ≤ seamF s.2 (ends (pieceAt ps y.1) y.2).1 pr + costFrom pr (some (ends (pieceAt ps y.1) y.2).2) (endsL ps pl)
    have e1 : (stepOf ps s.1 y.1 y.2).2 = (ends (pieceAt ps y.1) y.2).1 := rfl
    have e2 : (stepOf ps s.1 y.1 y.2).1.2 = some (ends (pieceAt ps y.1) y.2).2 := rfl
    rw [e1] at h1
    rw [e2] at ih
    omega
theorem val_way {ps : List Piece} {pr : List Int} : ∀ (n : Nat) (s : SSt), s.1.length = n → s.1.Nodup → ∃ pl : Plan, (pl.map (·.1)).Perm s.1 ∧ costFrom pr s.2 (endsL ps pl) = val ps pr s
  | 0, s, hl, hn => by
    have h0 : s.1 = [] := List.length_eq_zero_iff.mp hl
    refine ⟨[], by rw [h0]; exact List.Perm.nil, ?_⟩
    unfold val
    rw [h0]
    rfl
  | n + 1, s, hl, hn => by
    have h0 : s.1 ≠ [] := fun e => by rw [e] at hl; cases hl
    obtain ⟨y, hy, hh⟩ := hit_exists (ps := ps) (pr := pr) hn h0
    have hrl := rest_len hn hy
    obtain ⟨pl, h1, h2⟩ := val_way (ps := ps) (pr := pr) n (stepOf ps s.1 y.1 y.2).1 (by show (rest s.1 y.1).length = n; omega) (rest_sub.nodup hn)
    refine ⟨y :: pl, ?_, ?_⟩
    · exact (List.Perm.cons y.1 h1).trans (rest_perm hn hy).symm
    · show seamF s.2 (ends (pieceAt ps y.1) y.2).1 pr + costFrom pr (some (ends (pieceAt ps y.1) y.2).2) (endsL ps pl) = _
      have h3 : costFrom pr (some (ends (pieceAt ps y.1) y.2).2) (endsL ps pl) = val ps pr (stepOf ps s.1 y.1 y.2).1 := h2
      rw [h3]
      unfold Hit at hh
      rw [← hh]
      have e1 : (stepOf ps s.1 y.1 y.2).2 = (ends (pieceAt ps y.1) y.2).1 := rfl
      rw [e1]
      omega
theorem plan_low {ps : List Piece} {pr : List Int} {pl : Plan} (h : isPlan ps.length pl = true) : val ps pr (start0 ps) ≤ seamCost ps pl pr := by
  have := val_low (ps := ps) (pr := pr) pl (start0 ps) (of_decide_eq_true h) iota_nodup
  unfold seamCost
  rw [← costFrom_none]
  exact this
theorem plan_way (ps : List Piece) (pr : List Int) : ∃ pl : Plan, isPlan ps.length pl = true ∧ seamCost ps pl pr = val ps pr (start0 ps) := by
  obtain ⟨pl, h1, h2⟩ := val_way (ps := ps) (pr := pr) _ (start0 ps) rfl iota_nodup
  refine ⟨pl, decide_eq_true h1, ?_⟩
  unfold seamCost
  rw [← costFrom_none]
  exact h2
theorem mem_plans {n : Nat} : ∀ {k : Nat} {pl : Plan}, pl ∈ plansN n k ↔ pl.length = k ∧ (pl.map (·.1)).Nodup ∧ ∀ i ∈ pl.map (·.1), i ∈ iota n
  | 0, pl => by
    constructor
    · intro h
      rw [List.mem_singleton.mp h]
      exact ⟨rfl, List.nodup_nil, fun i hi => nomatch hi⟩
    · rintro ⟨h, _, _⟩
      rw [List.length_eq_zero_iff.mp h]
      exact List.mem_cons_self
  | k + 1, pl => by
    constructor
    · intro h
      obtain ⟨q, hq, h2⟩ := List.mem_flatMap.mp h
      obtain ⟨i1, i2, i3⟩ := mem_plans.mp hq
      have key : ∃ i ∈ restOf n q, ∃ b, pl = q ++ [(i, b)] := by
        unfold extOf at h2
        rcases List.mem_append.mp h2 with h2 | h2
        · obtain ⟨i, hi, e⟩ := List.mem_map.mp h2
          exact ⟨i, hi, false, e.symm⟩
        · obtain ⟨i, hi, e⟩ := List.mem_map.mp h2
          exact ⟨i, hi, true, e.symm⟩
      obtain ⟨i, hi, b, rfl⟩ := key
      obtain ⟨hi1, hi2⟩ := List.mem_filter.mp hi
      have hi3 : i ∉ q.map (·.1) := by simpa using hi2
      refine ⟨by rw [List.length_append, i1]; rfl, ?_, fun j hj => ?_⟩
      · rw [List.map_append, List.nodup_append]
        refine ⟨i2, by simp, fun a ha c hc => ?_⟩
        have e : c = i := by simpa using hc
        rw [e]
        exact fun z => hi3 (z ▸ ha)
      · rw [List.map_append] at hj
        rcases List.mem_append.mp hj with hj | hj
        · exact i3 j hj
        · have e : j = i := by simpa using hj
          rw [e]
          exact hi1
    · rintro ⟨h1, h2, h3⟩
      rcases List.eq_nil_or_concat pl with e | ⟨q, y, e⟩
      · rw [e] at h1
        cases h1
      · rw [List.concat_eq_append] at e
        subst e
        rw [List.map_append, List.nodup_append] at h2
        obtain ⟨n1, n2, n3⟩ := h2
        have hq : q ∈ plansN n k := mem_plans.mpr ⟨by rw [List.length_append] at h1; simpa using h1, n1, fun i hi => h3 i (by rw [List.map_append]; exact List.mem_append_left _ hi)⟩
        have hy : y.1 ∈ restOf n q := by
          refine List.mem_filter.mpr ⟨h3 y.1 (by rw [List.map_append]; exact List.mem_append_right _ (by simp)), ?_⟩
          have : y.1 ∉ q.map (·.1) := fun hm => n3 _ hm y.1 (by simp) rfl
          simpa using this
        refine List.mem_flatMap.mpr ⟨q, hq, ?_⟩
        unfold extOf
        obtain ⟨i, b⟩ := y
        cases b
        · exact List.mem_append_left _ (List.mem_map.mpr ⟨i, hy, rfl⟩)
        · exact List.mem_append_right _ (List.mem_map.mpr ⟨i, hy, rfl⟩)
theorem plans_are {n : Nat} {pl : Plan} : pl ∈ plansN n n ↔ isPlan n pl = true := by
  rw [mem_plans]
  constructor
  · rintro ⟨h1, h2, h3⟩
    refine decide_eq_true ((List.perm_ext_iff_of_nodup h2 iota_nodup).mpr fun i => ⟨h3 i, fun hi => ?_⟩)
    apply Classical.byContradiction
    intro hc
    have := nodup_le (l := i :: pl.map (·.1)) (m := iota n) (List.nodup_cons.mpr ⟨hc, h2⟩) fun x hx => by
      rcases List.mem_cons.mp hx with e | hx
      · rw [e]; exact hi
      · exact h3 x hx
    rw [List.length_cons, List.length_map, h1, iota_len] at this
    omega
  · intro h
    have hp : (pl.map (·.1)).Perm (iota n) := of_decide_eq_true h
    exact ⟨plan_len h, hp.nodup_iff.mpr iota_nodup, fun i hi => hp.subset hi⟩
theorem least_is {ps : List Piece} {pr : List Int} : 0 < ((plansN ps.length ps.length).map fun pl => seamCost ps pl pr).length ∧ ∀ z, z ∈ ((plansN ps.length ps.length).map fun pl => seamCost ps pl pr) → (∀ y, y ∈ ((plansN ps.length ps.length).map fun pl => seamCost ps pl pr) → z ≤ y) → z = val ps pr (start0 ps) := by
  obtain ⟨pl, h1, h2⟩ := plan_way ps pr
  have hm : val ps pr (start0 ps) ∈ ((plansN ps.length ps.length).map fun pl => seamCost ps pl pr) := List.mem_map.mpr ⟨pl, plans_are.mpr h1, h2⟩
  refine ⟨List.length_pos_iff.mpr (List.ne_nil_of_mem hm), fun z hz hy => ?_⟩
  obtain ⟨pl2, h3, rfl⟩ := List.mem_map.mp hz
  exact Int.le_antisymm (hy _ hm) (plan_low (plans_are.mp h3))
/-! what a search found, shown -/
theorem shows_best {wd : Nat} {ps : List Piece} {pr : List Int} {pl : Plan} {L : List SSt} (hG : Game wd ps pr) (h1 : isPlan ps.length pl = true) (h2 : seamCost ps pl pr = val ps pr (start0 ps)) (hR : Reached ps L) : showsB ps pr pl (flOf ps pr L) = true := by
  unfold showsB
  rw [h1, getS_flOf hR.fst]
  have e : decide ((some (val ps pr (start0 ps))).getD (-1) = seamCost ps pl pr) = true := decide_eq_true (by rw [h2]; rfl)
  rw [e]
  show (true && (true && (flOf ps pr L).all fun x => floorB ps pr (flOf ps pr L) x.1 x.2)) = true
  rw [Bool.true_and, Bool.true_and, List.all_eq_true]
  intro x hx
  obtain ⟨s, hs, rfl⟩ := List.mem_map.mp hx
  obtain ⟨g1, g2⟩ := mem_allSt.mp (hR.all s hs)
  have hn := g1.nodup iota_nodup
  have hpw : (iota ps.length).Pairwise (· < ·) := by
    unfold iota
    rw [List.pairwise_map]
    exact List.Pairwise.imp (fun h => by omega) List.pairwise_lt_range
  rw [floorB_eq]
  have a1 : (s.1.all fun i => decide (i ∈ iota ps.length)) = true := List.all_eq_true.mpr fun i hi => decide_eq_true (g1.subset hi)
  have a2 : decide (s.1.Pairwise (· < ·)) = true := decide_eq_true (hpw.sublist g1)
  show ((s.1.all fun i => decide (i ∈ iota ps.length)) && (decide (s.1.Pairwise (· < ·)) && if s.1 = [] then decide (val ps pr s ≤ 0) else (stepsOf ps s.1).all (okStep pr (flOf ps pr L) s (val ps pr s)))) = true
  rw [a1, a2, Bool.true_and, Bool.true_and]
  by_cases h0 : s.1 = []
  · rw [if_pos h0]
    refine decide_eq_true ?_
    unfold val
    rw [h0]
    exact Int.le_refl _
  · rw [if_neg h0, List.all_eq_true]
    intro q hq
    unfold okStep
    rw [getS_flOf (hR.cl s hs q hq)]
    refine decide_eq_true ?_
    rw [val_step hn h0]
    exact minL_le (List.mem_map.mpr ⟨q, hq, rfl⟩)
end Sm
namespace Sm
/-! ### plain laws: the cost by runs, of rows put together -/
def dot (pr xs : List Int) : Int := ((pr.zip xs).map fun q => q.1 * q.2).sum
theorem dot_cons {a x : Int} {pr xs : List Int} : dot (a :: pr) (x :: xs) = a * x + dot pr xs := by
  unfold dot
  rw [List.zip_cons_cons, List.map_cons, List.sum_cons]
theorem dot_add {f g : Int → Int} : ∀ {pr l : List Int}, dot pr (l.map fun j => f j + g j) = dot pr (l.map f) + dot pr (l.map g)
  | [], _ => rfl
  | _ :: _, [] => rfl
  | a :: pr, j :: l => by
    rw [List.map_cons, List.map_cons, List.map_cons, dot_cons, dot_cons, dot_cons, dot_add, Int.mul_add]
    omega
theorem dot_ones : ∀ {pr l : List Int}, pr.length = l.length → dot pr (l.map fun _ => 1) = pr.sum
  | [], [], _ => rfl
  | a :: pr, j :: l, h => by
    rw [List.map_cons, dot_cons, dot_ones (by simpa using h), List.sum_cons, Int.mul_one]
def ne01 (x y : Int) : Int := if x = y then 0 else 1
theorem apart_cons {a b p : Int} {as bs ps : List Int} : apartF (a :: as) (b :: bs) (p :: ps) = p * ne01 a b + apartF as bs ps := by
  unfold apartF ne01
  rw [List.zip_cons_cons, List.zip_cons_cons]
  by_cases e : a = b
  · rw [List.filter_cons_of_neg (by simp [e]), if_pos e]
    omega
  · rw [List.filter_cons_of_pos (by simp [e]), if_neg e, List.map_cons, List.sum_cons]
    omega
theorem apart_dot : ∀ {a b pr : List Int}, a.length = pr.length → b.length = pr.length → apartF a b pr = dot pr (List.zipWith ne01 a b)
  | [], b, pr, h1, h2 => by
    have e1 : pr = [] := List.length_eq_zero_iff.mp h1.symm
    subst e1
    have e2 : b = [] := List.length_eq_zero_iff.mp h2
    subst e2
    rfl
  | a :: as, b, pr, h1, h2 => by
    cases pr with
    | nil => cases h1
    | cons p ps =>
      cases b with
      | nil => cases h2
      | cons b bs => rw [apart_cons, List.zipWith_cons_cons, dot_cons, apart_dot (by simpa using h1) (by simpa using h2)]
theorem apart_symm : ∀ {a b pr : List Int}, apartF a b pr = apartF b a pr
  | [], [], _ => rfl
  | [], _ :: _, _ => rfl
  | _ :: _, [], _ => rfl
  | _ :: _, _ :: _, [] => rfl
  | a :: as, b :: bs, p :: ps => by
    rw [apart_cons, apart_cons, apart_symm (a := as)]
    have e : ne01 a b = ne01 b a := by
      unfold ne01
      by_cases h : a = b
      · rw [if_pos h, if_pos h.symm]
      · rw [if_neg h, if_neg fun q => h q.symm]
    rw [e]
theorem zipWith_iota {f : Int → Int → Int} {a b : List Int} {wd : Nat} (h1 : a.length = wd) (h2 : b.length = wd) : List.zipWith f a b = (iota wd).map fun j => f (a.getD j.toNat 0) (b.getD j.toNat 0) := by
  apply List.ext_getElem?
  intro i
  unfold iota
  rw [List.map_map, List.getElem?_map, List.getElem?_zipWith]
  by_cases h : i < wd
  · rw [List.getElem?_range h, List.getElem?_eq_getElem (show i < a.length by omega), List.getElem?_eq_getElem (show i < b.length by omega)]
    simp [List.getD, show i < a.length by omega, show i < b.length by omega]
  · rw [List.getElem?_eq_none (show a.length ≤ i by omega), List.getElem?_eq_none (show (List.range wd).length ≤ i by simpa using h)]
    rfl
theorem len_dot {F : Int → Runs} : ∀ {pr l : List Int}, ((pr.zip (l.map F)).map fun q => q.1 * (q.2.length : Int)).sum = dot pr (l.map fun j => ((F j).length : Int))
  | [], _ => rfl
  | _ :: _, [] => rfl
  | a :: pr, j :: l => by
    rw [List.map_cons, List.map_cons, List.zip_cons_cons, List.map_cons, List.sum_cons, dot_cons, len_dot]
theorem runs_snoc {vs : List Int} {v : Int} : runsF (vs ++ [v]) = runStep (runsF vs) v := by
  unfold runsF
  rw [List.foldl_append]
  rfl
theorem step_last {acc : Runs} {v : Int} : (runStep acc v).getLast?.map (·.1) = some v := by
  unfold runStep
  split
  · simp
  · rename_i y hy
    split
    · have hne : acc ≠ [] := fun e => by rw [e] at hy; cases hy
      have hl : 0 < acc.length := List.length_pos_iff.mpr hne
      rw [List.getLast?_eq_getElem?, List.length_set, List.getElem?_set_self (by omega)]
      rfl
    · simp
theorem runs_last {vs : List Int} : (runsF vs).getLast?.map (·.1) = vs.getLast? := by
  rcases List.eq_nil_or_concat vs with e | ⟨q, y, e⟩
  · rw [e]; rfl
  · rw [List.concat_eq_append] at e
    rw [e, runs_snoc, step_last]
    simp
theorem runs_len_snoc {vs : List Int} {v u : Int} (h : vs.getLast? = some u) : ((runsF (vs ++ [v])).length : Int) = (runsF vs).length + ne01 u v := by
  rw [runs_snoc]
  have hl := runs_last (vs := vs)
  rw [h] at hl
  obtain ⟨y, hy, e⟩ := Option.map_eq_some_iff.mp hl
  unfold runStep ne01
  rw [hy]
  show ((if y.1 = v then _ else _ : Runs).length : Int) = _
  have e' : y.1 = u := e
  by_cases hv : y.1 = v
  · rw [if_pos hv, if_pos (by rw [← e']; exact hv), List.length_set]
    omega
  · rw [if_neg hv, if_neg (by rw [← e']; exact hv), List.length_append]
    simp
theorem adj_cons {x y : List Int} {l : List (List Int)} {pr : List Int} : adjF (x :: y :: l) pr = apartF x y pr + adjF (y :: l) pr := by
  unfold adjF
  rw [List.tail_cons, List.zip_cons_cons, List.map_cons, List.sum_cons]
  rfl
theorem adj_app {pr : List Int} {x y : List Int} : ∀ {a b : List (List Int)}, a.getLast? = some x → b.head? = some y → adjF (a ++ b) pr = adjF a pr + adjF b pr + apartF x y pr
  | [], _, h, _ => by cases h
  | [u], [], _, h => by cases h
  | [u], v :: b, h1, h2 => by
    have e1 : u = x := Option.some.inj h1
    have e2 : v = y := Option.some.inj h2
    rw [← e1, ← e2, List.singleton_append, adj_cons]
    show apartF u v pr + adjF (v :: b) pr = 0 + adjF (v :: b) pr + apartF u v pr
    omega
  | u :: v :: a, b, h1, h2 => by
    have ih := adj_app (pr := pr) (x := x) (y := y) (a := v :: a) (b := b) (by rw [List.getLast?_cons_cons] at h1; exact h1) h2
    rw [List.cons_append, List.cons_append, adj_cons, ← List.cons_append, ih, adj_cons]
    omega
theorem adj_rev {pr : List Int} : ∀ l : List (List Int), adjF l.reverse pr = adjF l pr
  | [] => rfl
  | [x] => rfl
  | x :: y :: l => by
    have ih := adj_rev (pr := pr) (y :: l)
    rw [List.reverse_cons, adj_app (x := y) (y := x) (by simp) rfl, ih, adj_cons, apart_symm (a := y)]
    show adjF (y :: l) pr + 0 + apartF x y pr = _
    omega
theorem costT_eq {wd : Nat} {pr : List Int} (hp : pr.length = wd) : ∀ (n : Nat) (rows : List (List Int)), rows.length = n + 1 → (∀ r ∈ rows, r.length = wd) → costT rows wd pr = pr.sum + adjF rows pr
  | 0, rows, hl, hr => by
    obtain ⟨r, rfl⟩ := List.length_eq_one_iff.mp hl
    unfold costT
    rw [len_dot]
    have e : (iota wd).map (fun j => ((runsF (colF [r] j.toNat)).length : Int)) = (iota wd).map fun _ => 1 := List.map_congr_left fun j _ => rfl
    rw [e, dot_ones (by rw [iota_len]; exact hp)]
    show pr.sum = pr.sum + 0
    omega
  | n + 1, rows, hl, hr => by
    rcases List.eq_nil_or_concat rows with e | ⟨a, y, e⟩
    · rw [e] at hl; cases hl
    · rw [List.concat_eq_append] at e
      subst e
      have hla : a.length = n + 1 := by rw [List.length_append] at hl; simpa using hl
      have ih := costT_eq hp n a hla fun r h => hr r (List.mem_append_left _ h)
      have hne : a ≠ [] := fun e => by rw [e] at hla; cases hla
      have hlast := List.getLast?_eq_some_getLast hne
      generalize a.getLast hne = x at hlast
      have hx : x.length = wd := hr x (List.mem_append_left _ (List.mem_of_getLast? hlast))
      have hy : y.length = wd := hr y (List.mem_append_right _ (by simp))
      rw [adj_app (x := x) (y := y) hlast rfl]
      have hcol : ∀ j : Int, ((runsF (colF (a ++ [y]) j.toNat)).length : Int) = (runsF (colF a j.toNat)).length + ne01 (x.getD j.toNat 0) (y.getD j.toNat 0) := fun j => by
        have e : colF (a ++ [y]) j.toNat = colF a j.toNat ++ [y.getD j.toNat 0] := by unfold colF; rw [List.map_append]; rfl
        rw [e]
        refine runs_len_snoc ?_
        unfold colF
        rw [List.getLast?_map, hlast]
        rfl
      unfold costT at ih ⊢
      rw [len_dot] at ih ⊢
      rw [List.map_congr_left fun j _ => hcol j, dot_add, ih, apart_dot (by rw [hx, hp]) (by rw [hy, hp]), zipWith_iota hx hy]
      show _ = pr.sum + (adjF a pr + 0 + _)
      omega
theorem part_ends {ps : List Piece} {q : Int × Bool} (h : 1 ≤ (pieceAt ps q.1).length) : (partOf ps q).head? = some (ends (pieceAt ps q.1) q.2).1 ∧ (partOf ps q).getLast? = some (ends (pieceAt ps q.1) q.2).2 := by
  unfold partOf ends
  generalize pieceAt ps q.1 = p at h
  have hh : p.head? = some (p.headD []) := by
    cases p with
    | nil => simp at h
    | cons a l => rfl
  have hl : p.getLast? = some (p.getLastD []) := by
    have e : p ≠ [] := fun e => by rw [e] at h; simp at h
    rw [List.getLastD_eq_getLast?, List.getLast?_eq_some_getLast e]
    rfl
  cases q.2 with
  | true => exact ⟨by show p.reverse.head? = _; rw [List.head?_reverse]; exact hl, by show p.reverse.getLast? = _; rw [List.getLast?_reverse]; exact hh⟩
  | false => exact ⟨hh, hl⟩
theorem part_adj {ps : List Piece} {pr : List Int} {q : Int × Bool} : adjF (partOf ps q) pr = adjF (pieceAt ps q.1) pr := by
  unfold partOf
  cases q.2 with
  | true => exact adj_rev _
  | false => rfl
theorem rows_head {ps : List Piece} {q : Int × Bool} {pl : Plan} (h : 1 ≤ (pieceAt ps q.1).length) : (rowsOf ps (q :: pl)).head? = some (ends (pieceAt ps q.1) q.2).1 := by
  unfold rowsOf
  rw [List.flatMap_cons, List.head?_append, (part_ends h).1]
  rfl
theorem adj_rows {ps : List Piece} {pr : List Int} : ∀ {pl : Plan}, (∀ q ∈ pl, 1 ≤ (pieceAt ps q.1).length) → adjF (rowsOf ps pl) pr = (pl.map fun q => adjF (pieceAt ps q.1) pr).sum + seamCost ps pl pr
  | [], _ => rfl
  | [q], h => by
    unfold rowsOf
    rw [List.flatMap_cons, List.flatMap_nil, List.append_nil, part_adj]
    show _ = (adjF (pieceAt ps q.1) pr + 0) + 0
    omega
  | q :: q2 :: pl, h => by
    have ih := adj_rows (pr := pr) (pl := q2 :: pl) fun x hx => h x (List.mem_cons_of_mem _ hx)
    have h1 := h q List.mem_cons_self
    have h2 := h q2 (List.mem_cons_of_mem _ List.mem_cons_self)
    have e : rowsOf ps (q :: q2 :: pl) = partOf ps q ++ rowsOf ps (q2 :: pl) := List.flatMap_cons
    rw [e, adj_app (part_ends h1).2 (rows_head h2), ih, part_adj, List.map_cons (l := q2 :: pl), List.sum_cons]
    have es : seamCost ps (q :: q2 :: pl) pr = apartF (ends (pieceAt ps q.1) q.2).2 (ends (pieceAt ps q2.1) q2.2).1 pr + seamCost ps (q2 :: pl) pr := costE_cons
    rw [es]
    omega
theorem sumI_perm {a b : List Int} (h : a.Perm b) : a.sum = b.sum := by
  induction h with
  | nil => rfl
  | cons x _ ih => rw [List.sum_cons, List.sum_cons, ih]
  | swap x y l => rw [List.sum_cons, List.sum_cons, List.sum_cons, List.sum_cons]; omega
  | trans _ _ h1 h2 => exact h1.trans h2
theorem iota_mapF {β : Type} {ps : List Piece} {F : Piece → β} : (iota ps.length).map (fun i => F (pieceAt ps i)) = ps.map F := by
  apply List.ext_getElem?
  intro i
  unfold iota
  rw [List.map_map, List.getElem?_map, List.getElem?_map]
  by_cases h : i < ps.length
  · rw [List.getElem?_range h, List.getElem?_eq_getElem h]
    show some (F (pieceAt ps (i : Int))) = some (F ps[i])
    unfold pieceAt
    rw [Int.toNat_natCast, List.getD_eq_getElem?_getD, List.getElem?_eq_getElem h]
    rfl
  · rw [List.getElem?_eq_none (by simpa using h), List.getElem?_eq_none (by omega)]
    rfl
theorem cost_whole {wd : Nat} {ps : List Piece} {pr : List Int} {pl : Plan} (hG : Game wd ps pr) (h : isPlan ps.length pl = true) : costT (rowsOf ps pl) wd pr = pr.sum + (ps.map fun p => (pr.sum + adjF p pr) - pr.sum).sum + seamCost ps pl pr := by
  have hg := rows_good hG h
  have n1 := hg.n1
  have hin := plan_in h
  rw [costT_eq hG.prc.1 ((rowsOf ps pl).length - 1) _ (by omega) fun r hr => (hg.row r hr).1]
  rw [adj_rows fun q hq => (hG.pc _ (piece_mem (hin q hq).1 (hin q hq).2)).1]
  have e1 : (pl.map fun q => adjF (pieceAt ps q.1) pr) = (pl.map (·.1)).map fun i => adjF (pieceAt ps i) pr := by rw [List.map_map]; rfl
  have e2 : (ps.map fun p => (pr.sum + adjF p pr) - pr.sum) = ps.map fun p => adjF p pr := List.map_congr_left fun p _ => by omega
  have e3 : ((iota ps.length).map fun i => adjF (pieceAt ps i) pr) = ps.map fun p => adjF p pr := iota_mapF (F := fun p => adjF p pr)
  rw [e1, e2, sumI_perm ((show (pl.map (·.1)).Perm (iota ps.length) from of_decide_eq_true h).map _), e3, Int.add_assoc]
end Sm
namespace Sm
open PySem PySem.Spec PyProof.Rows L2

abbrev s_law : Stmt := top 55
def n_law : List Str := ["_law_script", "_law_draw", "_law_turn", "_law_rows", "_law_pieces_now", "_law_prices_here", "_law_least", "_law_found", "_law_inner", "_law_late", "_law_plan", "_law_floors", "_law_some"]
theorem sc_law : FnScope n_law ["_law_script"] (C8.fnScope s_law) := C8.fnScope_by (by decide +kernel)
section
variable {P : Program} {w : World} {K : PySem.W.Frag} {mg : Str → Option Value} {base : Heap} {f f' : Addr} {fd fd' : FuncData} {C D p g : Addr} {ns : List Int}
theorem ei_sqX {ι : Type} {Pr : ι → Prop} {Rs : ι → List Rep} {Γ : Ctx} {te : TE} (h : Ev Γ te (rEx Pr fun i => rLst K (Rs i))) : EvIX Γ (iSq K te) Pr Rs := fun σ B H x N q => h σ B H x _ fun v B2 H2 y ⟨i, hp, a, xs, e, hs, ha⟩ => ⟨a, e, .inl ⟨⟨xs, y.c.seq hs⟩, q _ B2 H2 i hp y (walk_L hs ha)⟩⟩
theorem rv_notB {a b : Bool} : RV2 rNotB (rD K (.bool a)) (rD K (.bool b)) (rD K (.bool (!decide (a = b)))) := fun x y B H c rx ry Q q => by
  cases rD_bl.mp rx
  cases rD_bl.mp ry
  exact ⟨a, b, rfl, rfl, q _ B H (Nx.refl c) (rD_bl.mpr rfl)⟩
theorem eqv_bool {a b : Bool} : PyData.eqv (.bool a) (.bool b) = decide (a = b) := by
  cases a <;> cases b <;> rfl
theorem rv_neDB {a b : Bool} : RV2 (rNeD K) (rD K (.bool a)) (rD K (.bool b)) (rD K (.bool (!decide (a = b)))) := by rw [← eqv_bool]; exact rv_neD rfl rfl
theorem seamsL_rsp {ps : List Piece} {pl : Plan} {pr : List Int} {wd : Nat} (hG : Game wd ps pr) (h : isPlan ps.length pl = true) : RSp (spSeamsL K) [rLP K ps, rPlan K pl, rInts K pr] (rD K (.int (seamCost ps pl pr))) :=
  rsp_F (α := List Piece × Plan × List Int) (Rs := fun a => [rLP K a.1, rPlan K a.2.1, rInts K a.2.2]) (T := fun a => rD K (.int (seamCost a.1 a.2.1 a.2.2))) (ps, pl, pr) ⟨by show pl.length ≤ 1000; have := plan_len h; have := hG.n2; omega, plan_in h, game_rows hG⟩
theorem showsL_rsp {ps : List Piece} {pl : Plan} {pr : List Int} {wd : Nat} {fl : Fl} (hF : FlG wd ps pr fl) (h : pl.length < 64) : RSp (spShowsL P w K) [rLP K ps, rInts K pr, rPlan K pl, rDct P w K (kv fl)] (rD K (.bool (showsB ps pr pl fl))) :=
  rsp_F (α := List Piece × Nat × List Int × Plan × Fl) (Rs := fun a => [rLP K a.1, rInts K a.2.2.1, rPlan K a.2.2.2.1, rDct P w K (kv a.2.2.2.2)]) (T := fun a => rD K (.bool (showsB a.1 a.2.2.1 a.2.2.2.1 a.2.2.2.2))) (ps, wd, pr, pl, fl) ⟨hF, h⟩
theorem shows_rsp {ps : List Piece} {pl : Plan} {pr : List Int} {wd : Nat} {fl : Fl} (hF : FlG wd ps pr fl) (h : pl.length < 64) : RSp (spShows P w K C D) [rSeamed P w K D pl fl, rSeq K (rTabs K C ps), rInts K pr] (rD K (.bool (showsB ps pr pl fl))) :=
  rsp_F (α := List Piece × Nat × List Int × Plan × Fl) (Rs := fun a => [rSeamed P w K D a.2.2.2.1 a.2.2.2.2, rSeq K (rTabs K C a.1), rInts K a.2.2.1]) (T := fun a => rD K (.bool (showsB a.1 a.2.2.1 a.2.2.2.1 a.2.2.2.2))) (ps, wd, pr, pl, fl) ⟨hF, h⟩
theorem flOf_g {wd : Nat} {ps : List Piece} {pr : List Int} {L : List SSt} (hG : Game wd ps pr) (hR : Reached ps L) : FlG wd ps pr (flOf ps pr L) := ⟨hG, flOf_ok hG hR, fun x hx r hr => by
  obtain ⟨s, hs, rfl⟩ := List.mem_map.mp hx
  have h2 := (mem_allSt.mp (hR.all s hs)).2
  have e : s.2 = some r := hr
  rw [e] at h2
  exact (lasts_row hG h2).1⟩
def spLawF (K : PySem.W.Frag) : Sp := SpF (α := List Int) (fun a => [rScr K a]) (fun _ => rD K (.bool true)) (fun a => a.length ≤ 63)
theorem ok_law (F : C8.Fun K "law" "law" s_law f fd) (T : Txt K mg C D p g) 
  (G__law_pieces : C8.Cal P w K mg base 3 "_law_pieces" (spPiecesL K) []) (G__law_prices : C8.Cal P w K mg base 4 "_law_prices" (spPrices K) []) (G__law_seams : C8.Cal P w K mg base 2 "_law_seams" (spSeamsL K) []) (G__law_plans : C8.Cal P w K mg base 1 "_law_plans" (spPlansL K) [])
  (G__law_given : C8.Cal P w K mg base 3 "_law_given" (spGiven K) []) (G__law_shows : C8.Cal P w K mg base 3 "_law_shows" (spShowsL P w K) []) (G__law_cost : C8.Cal P w K mg base 1 "_law_cost" (spCostL K) []) (G__law_cases : C8.Cal P w K mg base 4 "_law_cases" (spCases P w K D) [])
  (G_Table : C8.Mak P w K mg base 3 "Table" C (spTab K C) []) (G_Seamed : C8.Mak P w K mg base 1 "Seamed" D (spSeamed P w K D) []) (G_best_seams : C8.Cal P w K mg base 4 "best_seams" (spBest P w K C D) []) (G_least_seams : C8.Cal P w K mg base 4 "least_seams" (spLeast K C) [])
  (G_put_together_best : C8.Cal P w K mg base 6 "put_together_best" (spPtb P w K C) []) (G_cost : C8.Cal P w K mg base 6 "cost" (spCostT K C) []) (M_shows : C8.Met P w K mg base 4 D "shows" (spShows P w K C D) []) (M_len : C8.Met P w K mg base 1 C "__len__" (spLen K C) []) : FnOk P w K mg base C8.CX0 8 f fd ["_law_script"] (spLawF K) := by
  refine C8.fn0 F sc_law (sp_len fun _ => rfl) fun cdv A outer s H vs Q E hr h => ⟨_, (pss_cons (ps_set (i := 1) sc_law.nd rfl (Or.inl rfl) (k_drawNew (pa_cons (pv 0) (pa_cons pe_int pa_nil))))
      (pss_cons (ps_for PassesOwn.never rfl (pi_range1 (by rfl) T.b.range (pa_cons pe_int pa_nil)) (pg_name (i := 2) sc_law.nd rfl (Or.inl rfl)) (pss_cons (ps_set (i := 3) sc_law.nd rfl (Or.inr rfl) (C8.pe_c G__law_pieces hr (by decide) (by rfl) (pa_cons (pv 1) pa_nil)))
      (pss_cons (ps_asg (pe_tup (pa_cons (pe_lc (own := [("_law_some", 12)]) rfl sc_law.nd (k_sq K (pv 3)) (blkOk_by (N := n_law) (sc := C8.fnScope s_law) (by decide +kernel)) (fun _ _ _ _ _ => (pg_name (i := 12) sc_law.nd rfl (Or.inl rfl))) (fun _ _ _ _ _ => pts_nil) (fun _ _ _ _ _ => (C8.pe_mk G_Table hr (by decide) (by rfl) (pa_cons (pv 12) pa_nil)))) (pa_cons (C8.pe_c G__law_prices hr (by decide) (by rfl) (pa_cons (pv 1) (pa_cons (pe_callB (k_len K) (by rfl) T.b.len (by decide +kernel) (pa_cons (k_ix K (k_ix K (pv 3) pe_int (fun _ _ => rfl)) pe_int (fun _ _ => rfl)) pa_nil)) pa_nil))) pa_nil))) (k_tup K (n := 2) rfl (pgs_cons (pg_name (i := 4) sc_law.nd rfl (Or.inl rfl)) (pgs_cons (pg_name (i := 5) sc_law.nd rfl (Or.inr rfl)) pgs_nil))))
      (pss_cons (ps_set (i := 6) sc_law.nd rfl (Or.inl rfl) (pe_callB (k_min K rfl) (by rfl) T.b.min (by decide +kernel) (pa_cons (pe_lc (own := [("_law_plan", 10)]) rfl sc_law.nd (k_sq K (C8.pe_c G__law_plans hr (by decide) (by rfl) (pa_cons (pe_callB (k_len K) (by rfl) T.b.len (by decide +kernel) (pa_cons (pv 3) pa_nil)) pa_nil))) (blkOk_by (N := n_law) (sc := C8.fnScope s_law) (by decide +kernel)) (fun _ _ _ _ _ => (pg_name (i := 10) sc_law.nd rfl (Or.inl rfl))) (fun _ _ _ _ _ => pts_nil) (fun _ _ _ _ _ => (C8.pe_c G__law_seams hr (by decide) (by rfl) (pa_cons (pv 3) (pa_cons (pv 10) (pa_cons (pv 5) pa_nil)))))) pa_nil)))
      (pss_cons (ps_set (i := 7) sc_law.nd rfl (Or.inl rfl) (C8.pe_c G_best_seams hr (by decide) (by rfl) (pa_cons (C8.pe_c G__law_given hr (by decide) (by rfl) (pa_cons (pv 1) (pa_cons (pv 4) pa_nil))) (pa_cons (pv 5) pa_nil))))
      (pss_cons (ps_if (PW.pt (pw_or (pt_cmpR (k_neD K hr.units) (C8.pe_c G_least_seams hr (by decide) (by rfl) (pa_cons (pv 4) (pa_cons (pv 5) pa_nil))) (pv 6) (nomark _)) (pw_or1 (pt_cmpR (k_neD K hr.units) (C8.pe_c G__law_seams hr (by decide) (by rfl) (pa_cons (pv 3) (pa_cons (k_fld K (pv 7) rfl) (pa_cons (pv 5) pa_nil)))) (pv 6) (nomark _))))) (pss_one (ps_ret pe_bl)) pss_nil)
      (pss_cons (ps_if (PW.pt (pw_or (pt_not (pt_val (C8.pe_c G__law_shows hr (by decide) (by rfl) (pa_cons (pv 3) (pa_cons (pv 5) (pa_cons (k_fld K (pv 7) rfl) (pa_cons (k_fld K (pv 7) rfl) pa_nil))))))) (pw_or1 (pt_cmpR op_notBl (C8.pe_mt M_shows hr (by decide) (pv 7) (pa_cons (pv 4) (pa_cons (pv 5) pa_nil))) pe_bl (nomark _))))) (pss_one (ps_ret pe_bl)) pss_nil)
      (pss_cons (ps_set (i := 8) sc_law.nd rfl (Or.inl rfl) (pe_callB (k_sum K rfl) (by rfl) T.b.sum (by decide +kernel) (pa_cons (pe_lc (own := [("_law_some", 12)]) rfl sc_law.nd (k_sq K (pv 3)) (blkOk_by (N := n_law) (sc := C8.fnScope s_law) (by decide +kernel)) (fun _ _ _ _ _ => (pg_name (i := 12) sc_law.nd rfl (Or.inl rfl))) (fun _ _ _ _ _ => pts_nil) (fun _ _ _ _ _ => (pe_op op_sub (C8.pe_c G__law_cost hr (by decide) (by rfl) (pa_cons (pv 12) (pa_cons (pv 5) pa_nil))) (pe_callB (k_sum K rfl) (by rfl) T.b.sum (by decide +kernel) (pa_cons (pv 5) pa_nil))))) pa_nil)))
      (pss_cons (ps_set (i := 9) sc_law.nd rfl (Or.inl rfl) (C8.pe_c G_put_together_best hr (by decide) (by rfl) (pa_cons (pv 4) (pa_cons (pv 5) pa_nil))))
      (pss_cons (ps_if (PW.pt (pw_or (pt_cmpR (k_neD K hr.units) (C8.pe_c G_cost hr (by decide) (by rfl) (pa_cons (pv 9) (pa_cons (pv 5) pa_nil))) (pe_op op_add (pe_op op_add (pe_callB (k_sum K rfl) (by rfl) T.b.sum (by decide +kernel) (pa_cons (pv 5) pa_nil)) (pv 8)) (pv 6)) (nomark _)) (pw_or1 (pt_cmpR (k_neD K hr.units) (pe_callB (k_lenI M_len hr (by decide)) (by rfl) T.b.len (by decide +kernel) (pa_cons (pv 9) pa_nil)) (pe_callB (k_sum K rfl) (by rfl) T.b.sum (by decide +kernel) (pa_cons (pe_lc (own := [("_law_some", 12)]) rfl sc_law.nd (k_sq K (pv 3)) (blkOk_by (N := n_law) (sc := C8.fnScope s_law) (by decide +kernel)) (fun _ _ _ _ _ => (pg_name (i := 12) sc_law.nd rfl (Or.inl rfl))) (fun _ _ _ _ _ => pts_nil) (fun _ _ _ _ _ => (pe_callB (k_len K) (by rfl) T.b.len (by decide +kernel) (pa_cons (pv 12) pa_nil)))) pa_nil)) (nomark _))))) (pss_one (ps_ret pe_bl)) pss_nil)
      (pss_one (ps_for PassesOwn.never rfl (k_sq K (C8.pe_c G__law_cases hr (by decide) (by rfl) (pa_cons (pv 1) (pa_cons (pv 3) (pa_cons (pv 7) pa_nil))))) (k_tup K (n := 2) rfl (pgs_cons (pg_name (i := 10) sc_law.nd rfl (Or.inl rfl)) (pgs_cons (pg_name (i := 11) sc_law.nd rfl (Or.inl rfl)) pgs_nil))) (pss_one (ps_if (pt_cmpR (k_neD K hr.units) (C8.pe_mt M_shows hr (by decide) (C8.pe_mk G_Seamed hr (by decide) (by rfl) (pa_cons (pv 10) (pa_cons (pv 11) pa_nil))) (pa_cons (pv 4) (pa_cons (pv 5) pa_nil))) (C8.pe_c G__law_shows hr (by decide) (by rfl) (pa_cons (pv 3) (pa_cons (pv 5) (pa_cons (pv 10) (pa_cons (pv 11) pa_nil))))) (nomark _)) (pss_one (ps_ret pe_bl)) pss_nil))))))))))))))
      (pss_one (ps_ret pe_bl)))), sp_run (N := n_law) ?_ h⟩
  rintro ns (hns : ns.length ≤ 63) B0 H0 Q q
  refine gx_seq (gx_set (R := rDraw K ns) (ev_drawNew (ea_cons (ev_var rfl) (ea_cons ev_int ea_nil))) ?_)
  dsimp only
  refine gx_seq (gx_as (Γ' := Ctx.mk [some (rScr K ns), some (rDraw K ns), none, none, none, none, none, none, none, none, none, none, none] []) rfl (gx_forK (Rs := (iota 2).map fun i => rD K (.int i)) (ei_iota (n := 2) (by decide) (ea_cons ev_int ea_nil)) (fun B1 H1 nx i R hR => ?_) ?_))
  · obtain ⟨x, hx, rfl⟩ := map_at hR
    refine ⟨_, eg_name, fun N hN => ?_⟩
    refine gx_seq (gx_setX (P := fun x : Nat × List Piece => PsOk x.1 x.2) (F := fun x => rLP K x.2) (ev_call rfl (rsp_F (α := List Int) (Rs := fun a => [rDraw K a]) (T := fun _ => rEx (fun x : Nat × List Piece => PsOk x.1 x.2) fun x => rLP K x.2) (pre := fun a => a.length ≤ 63) ns hns) (ea_cons (ev_var rfl) ea_nil)) fun ⟨wd, ps⟩ hps => ?_)
    have hps' : PsOk wd ps := hps
    obtain ⟨w1, w2, n1, n2, pc, tot⟩ := hps'
    have hgood : ∀ p ∈ ps, GoodT wd p := fun p hp => by
      have h2 := le_sum hp
      exact ⟨(pc p hp).1, by omega, w1, by omega, fun r hr => ⟨((pc p hp).2 r hr).1, fun v hv => ⟨(((pc p hp).2 r hr).2 v hv).1, Int.le_trans (((pc p hp).2 r hr).2 v hv).2 (by decide)⟩⟩⟩
    have h0 : ps[0]? = some ps[0] := List.getElem?_eq_getElem (by omega)
    have hpm := List.mem_of_getElem? h0
    obtain ⟨p1, p2⟩ := pc _ hpm
    generalize ps[0] = p0 at h0 hpm p1 p2
    have hr0 : p0[0]? = some (p0.headD []) := head_at p1
    have hrow0 := (p2 _ (List.mem_of_getElem? hr0)).1
    generalize p0.headD [] = r0 at hr0 hrow0
    dsimp only
    refine gx_seq (gx_asg (R := rTup K [rLst K (rTabs K C ps), rEx (Row 9 wd) fun pr => rInts K pr]) (ev_tup (ea_cons (ev_lcA (R := rLR K) (S := rTab K C) ps (by omega) (ei_sq (ev_sqL (ev_var rfl))) (si_name (by decide)) fun p hp => ⟨_, eg_name, ev_tab (hgood p hp) (ea_cons (ev_sqL (ev_var rfl)) ea_nil)⟩)
      (ea_cons (ev_call rfl (rsp_F (α := List Int × Nat) (Rs := fun a => [rDraw K a.1, rD K (.int a.2)]) (T := fun a => rEx (Row 9 a.2) fun pr => rInts K pr) (pre := fun a => a.1.length ≤ 63 ∧ a.2 ≤ 1000) (ns, wd) ⟨hns, by show wd ≤ 1000; omega⟩) (ea_cons (ev_var rfl) (ea_cons ((ev_cb (rvs_lenN (ns := r0)) (ea_cons (ev_op (rv_xL (ixN_0 (by rw [List.length_map]; omega)) (rows_at hr0)) (ev_op (rv_xL (R := rLR K p0) (ixN_0 (by rw [List.length_map]; omega)) (by rw [List.getElem?_map, h0] <;> rfl)) (ev_var rfl) ev_int) ev_int) ea_nil)).eq (by rw [hrow0])) ea_nil))) ea_nil)) (by simp)) eg_tup2 ?_)
    refine gx_ex (i := 5) rfl fun pr hpr => ?_
    have hG : Game wd ps pr := ⟨w1, w2, n1, n2, pc, tot, hpr⟩
    refine gx_as (Γ' := Ctx.mk [some (rScr K ns), some (rDraw K ns), some (rD K (.int x)), some (rLP K ps), some (rLst K (rTabs K C ps)), some (rInts K pr), none, none, none, none, none, none, none] []) rfl ?_
    dsimp only
    have hpll := plans_len n2 ps.length n2
    have h8 : 8 ^ ps.length ≤ 8 ^ 4 := Nat.pow_le_pow_right (by decide) n2
    have h84 : 8 ^ 4 = 4096 := by decide
    refine gx_seq (gx_set (R := rD K (.int (val ps pr (start0 ps)))) (ev_cb (rvs_min (ns := (plansN ps.length ps.length).map fun pl => seamCost ps pl pr) least_is.1 least_is.2) (ea_cons (ev_lcF (f := fun pl => seamCost ps pl pr) (G := fun n => rD K (.int n)) (plansN ps.length ps.length) (by omega) (ei_sq (ev_sqL (ev_call rfl (rsp_F (α := Nat) (Rs := fun a => [rD K (.int a)]) (T := fun a => rPlans K (plansN a a)) (pre := fun a => a ≤ 4) ps.length n2) (ea_cons ((ev_cb rvs_lenL (ea_cons (ev_var rfl) ea_nil)).eq (by rw [List.length_map])) ea_nil)))) (si_name (by decide)) fun pl hpl => ⟨_, eg_name,
      ev_call rfl (seamsL_rsp hG (plans_are.mp hpl)) (ea_cons (ev_var rfl) (ea_cons (ev_var rfl) (ea_cons (ev_var rfl) ea_nil)))⟩) ea_nil)) ?_)
    dsimp only
    refine gx_seq (gx_setX (P := Best ps pr) (F := fun x : Plan × List SSt => rSeamed P w K D x.1 (flOf ps pr x.2)) (ev_call rfl (best_rsp hG) (ea_cons (ev_call rfl (rsp_F (α := List Int × List Rep) (Rs := fun a => [rDraw K a.1, rLst K a.2]) (T := fun a => rSeq K a.2) (pre := fun a => a.1.length ≤ 63) (ns, rTabs K C ps) hns) (ea_cons (ev_var rfl) (ea_cons (ev_var rfl) ea_nil))) (ea_cons (ev_var rfl) ea_nil))) fun ⟨pl, L⟩ hbest => ?_)
    obtain ⟨b1, b2, hR⟩ := hbest
    have b1' : isPlan ps.length pl = true := b1
    have b2' : seamCost ps pl pr = val ps pr (start0 ps) := b2
    have hR' : Reached ps L := hR
    have hFG := flOf_g hG hR'
    have hpl := plan_len b1'
    have hsh := shows_best hG b1' b2' hR'
    have hflne : flOf ps pr L ≠ [] := fun e => by
      have := hR'.fst
      unfold flOf at e
      rw [List.map_eq_nil_iff.mp e] at this
      cases this
    generalize hfl : flOf ps pr L = fl at hFG hsh hflne
    refine gx_as (Γ' := Ctx.mk [some (rScr K ns), some (rDraw K ns), some (rD K (.int x)), some (rLP K ps), some (rLst K (rTabs K C ps)), some (rInts K pr), some (rD K (.int (val ps pr (start0 ps)))), some (rSeamed P w K D pl fl), none, none, none, none, none] []) (by rw [← hfl] <;> rfl) ?_
    dsimp only
    refine gx_seq (gx_ifF (b := false) (EvT.eq (et_or (et_cmp (ev_op rv_neDI (ev_call rfl (rsp_F (α := List Piece × Nat × List Int) (Rs := fun a => [rSeq K (rTabs K C a.1), rInts K a.2.2]) (T := fun a => rD K (.int (val a.1 a.2.2 (start0 a.1)))) (ps, wd, pr) hG) (ea_cons (ev_sqL (ev_var rfl)) (ea_cons (ev_var rfl) ea_nil))) (ev_var rfl))) fun _ =>
      et_cmp (ev_op rv_neDI (ev_call rfl (seamsL_rsp hG b1') (ea_cons (ev_var rfl) (ea_cons (ev_fld T.cl_Seamed T.n_plan at_plan (ev_var rfl)) (ea_cons (ev_var rfl) ea_nil)))) (ev_var rfl))) (by simp [b2'])) rfl ?_)
    refine gx_next ?_
    dsimp only
    refine gx_seq (gx_ifF (b := false) (EvT.eq (et_or (et_not (et_B (ev_call rfl (showsL_rsp hFG (pl := pl) (by omega)) (ea_cons (ev_var rfl) (ea_cons (ev_var rfl) (ea_cons (ev_fld T.cl_Seamed T.n_plan at_plan (ev_var rfl)) (ea_cons (ev_fld T.cl_Seamed T.n_floors at_floors (ev_var rfl)) ea_nil))))))) fun _ =>
      et_cmp (ev_op rv_notB (ev_meth rfl (ev_var rfl) (ea_cons (ev_sqL (ev_var rfl)) (ea_cons (ev_var rfl) ea_nil)) (shows_rsp hFG (pl := pl) (by omega))) ev_bl)) (by simp [hsh])) rfl ?_)
    refine gx_next ?_
    dsimp only
    have hprl := hpr.1
    have sumP : ∀ {Γ : Ctx}, Γ.r[5]? = some (some (rInts K pr)) → Ev Γ (tCB (rSumS K) (tCons (tVar 5) tNil)) (rD K (.int pr.sum)) := fun h => ev_cb rvs_sumS (ea_cons (ev_sqT (ev_var h)) ea_nil)
    refine gx_seq (gx_set (R := rD K (.int (ps.map fun p => (pr.sum + adjF p pr) - pr.sum).sum)) (ev_sumC (f := fun p : Piece => (pr.sum + adjF p pr) - pr.sum) ps (by omega) (ei_sq (ev_sqL (ev_var rfl))) (si_name (by decide)) fun p hp => ⟨_, eg_name, ev_op rv_I0 (ev_call rfl (rsp_F (α := List (List Int) × List Int) (Rs := fun a => [rLR K a.1, rInts K a.2]) (T := fun a => rD K (.int (a.2.sum + adjF a.1 a.2))) (pre := fun a => a.1.length ≤ 1000 ∧ ∀ r ∈ a.1, r.length ≤ 100) (p, pr) ⟨by show p.length ≤ 1000; have := (hgood p hp).n2; omega, (game_rows hG p hp).2⟩) (ea_cons (ev_var rfl) (ea_cons (ev_var rfl) ea_nil))) (sumP rfl)⟩) ?_)
    dsimp only
    refine gx_seq (gx_setX (P := Best ps pr) (F := fun x : Plan × List SSt => rTab K C (rowsOf ps x.1)) (ev_call rfl (rsp_F (α := List Piece × Nat × List Int) (Rs := fun a => [rSeq K (rTabs K C a.1), rInts K a.2.2]) (T := fun a => rEx (Best a.1 a.2.2) fun x => rTab K C (rowsOf a.1 x.1)) (ps, wd, pr) hG) (ea_cons (ev_sqL (ev_var rfl)) (ea_cons (ev_var rfl) ea_nil))) fun ⟨pl2, L2⟩ hbest2 => ?_)
    obtain ⟨d1, d2, _⟩ := hbest2
    have d1' : isPlan ps.length pl2 = true := d1
    have d2' : seamCost ps pl2 pr = val ps pr (start0 ps) := d2
    have hcw := cost_whole hG d1'
    rw [d2'] at hcw
    have hrl := rows_len d1'
    have hrg := rows_good hG d1'
    have hrg2 := hrg.n2
    refine gx_as (Γ' := Ctx.mk [some (rScr K ns), some (rDraw K ns), some (rD K (.int x)), some (rLP K ps), some (rLst K (rTabs K C ps)), some (rInts K pr), some (rD K (.int (val ps pr (start0 ps)))), some (rSeamed P w K D pl fl), some (rD K (.int (ps.map fun p => (pr.sum + adjF p pr) - pr.sum).sum)), some (rTab K C (rowsOf ps pl2)), none, none, none] []) rfl ?_
    dsimp only
    refine gx_seq (gx_ifF (b := false) (EvT.eq (et_or (et_cmp (ev_op rv_neDI (ev_call rfl (rsp_F (α := List (List Int) × Nat × List Int) (Rs := fun a => [rTab K C a.1, rInts K a.2.2]) (T := fun a => rD K (.int (costT a.1 a.2.1 a.2.2))) (rowsOf ps pl2, wd, pr) ⟨hrg, hpr⟩) (ea_cons (ev_var rfl) (ea_cons (ev_var rfl) ea_nil))) (ev_op rv_I0 (ev_op rv_I0 (sumP rfl) (ev_var rfl)) (ev_var rfl)))) fun _ =>
      et_cmp (ev_op rv_neDI (ev_cb (rvs_lenI (by omega) (by omega) len_rsp) (ea_cons (ev_var rfl) ea_nil)) (ev_sumC (f := fun p : Piece => (p.length : Int)) ps (by omega) (ei_sq (ev_sqL (ev_var rfl))) (si_name (by decide)) fun p hp => ⟨_, eg_name, (ev_cb rvs_lenL (ea_cons (ev_var rfl) ea_nil)).eq (by rw [List.length_map])⟩))) ?_) rfl ?_)
    · rw [sum_cast, hrl]
      show (!decide (costT (rowsOf ps pl2) wd pr = pr.sum + (ps.map fun p => (pr.sum + adjF p pr) - pr.sum).sum + val ps pr (start0 ps)) || _) = false
      rw [hcw]
      simp
    · refine gx_next ?_
      dsimp only
      refine gx_forX (P := CasesOk wd ps pr) (Rs := fun cs => cs.map (rCase P w K)) (ei_sqX (ev_call rfl (rsp_F (α := List Int × List Piece × Nat × List Int × Plan × Fl) (Rs := fun a => [rDraw K a.1, rLP K a.2.1, rSeamed P w K D a.2.2.2.2.1 a.2.2.2.2.2]) (T := fun a => rEx (CasesOk a.2.2.1 a.2.1 a.2.2.2.1) fun cs => rLst K (cs.map (rCase P w K))) (ns, ps, wd, pr, pl, fl) ⟨hns, hFG, hflne, hpl⟩) (ea_cons (ev_var rfl) (ea_cons (ev_var rfl) (ea_cons (ev_var rfl) ea_nil)))))
        (fun _ _ Γ => Γ = Ctx.mk [some (rScr K ns), some (rDraw K ns), some (rD K (.int x)), some (rLP K ps), some (rLst K (rTabs K C ps)), some (rInts K pr), some (rD K (.int (val ps pr (start0 ps)))), some (rSeamed P w K D pl fl), some (rD K (.int (ps.map fun p => (pr.sum + adjF p pr) - pr.sum).sum)), some (rTab K C (rowsOf ps pl2)), none, none, none] []) (fun _ _ => rfl) ?_ ?_
      · rintro cs ⟨hcl, hcs⟩ B2 H2 nx2 j Γj R2 hR2 rfl
        obtain ⟨c, hc, rfl⟩ := map_at hR2
        obtain ⟨c1, c2⟩ := hcs c (List.mem_of_getElem? hc)
        refine ⟨_, eg_tup2, fun N2 hN2 => gx_ifF (b := false) (EvT.eq (et_cmp (ev_op rv_neDB (ev_meth rfl (ev_seamed c2.ok (ea_cons (ev_var rfl) (ea_cons (ev_var rfl) ea_nil))) (ea_cons (ev_sqL (ev_var rfl)) (ea_cons (ev_var rfl) ea_nil)) (shows_rsp c2 (pl := c.1) c1)) (ev_call rfl (showsL_rsp c2 (pl := c.1) c1) (ea_cons (ev_var rfl) (ea_cons (ev_var rfl) (ea_cons (ev_var rfl) (ea_cons (ev_var rfl) ea_nil))))))) (by simp)) rfl ?_⟩
        exact gx_next (gx_forget [10, 11] (hN2 _ rfl))
      · rintro cs hcs Γn rfl
        exact gx_forget [2, 3, 4, 5, 6, 7, 8, 9] hN
  · dsimp only
    exact gx_ret ev_bl q
end
end Sm
namespace Sm
open PySem PySem.Spec PyProof.Rows L2
/-! ### the head: what the top has written, the law's call -/
abbrev fnR (x qual : Str) (st : Stmt) (kV dc pm : Value) (an : Option Addr) (cd ct : Value) : FuncData := PySem.W.fnOf x qual (C8.fnArgs st) (C8.fnBody st) (C8.fnScope st) .none kV dc pm an cd ct
theorem fun_mk {K : PySem.W.Frag} {x qual : Str} {st : Stmt} {f : Addr} {oc kV dc pm cd ct : Value} {od an : Option Addr} {sl : Array (Option Value)} (l : K.lookup f = some ⟨oc, od, .func (fnR x qual st kV dc pm an cd ct), sl⟩) (c : PySem.W.codeIn K cd qual = true) :
    C8.Fun K x qual st f (fnR x qual st kV dc pm an cd ct) := ⟨⟨oc, od, .none, kV, dc, pm, an, cd, ct, sl, rfl, l, c⟩⟩
theorem kit_self {K : PySem.W.Frag} {C : Addr} : PySem.W.kitOne K (.ref C) (.ref C) = some true := by
  unfold PySem.W.kitOne
  exact if_pos (beq_self_eq_true _)
theorem all_mk {l : PySem.W.OpenLaw} {w : World} {K : PySem.W.Frag} {h : Heap} {mg : Str → Option Value} {fa C D p fW fM0 fM1 fM2 fM3 fN0 fN1 f0 f1 f2 f3 f4 f5 f6 f7 f8 f9 f10 f11 f12 f13 f14 f15 f16 f17 f18 f19 f20 f21 f22 f23 f24 f25 f26 f27 f28 f29 f30 f31 f32 f33 fL : Addr} (X : K.In h) (G : h.Ns mainGlobals mg) (hfa : mg "law" = some (.ref fa))
    {rest : List Value}
    {odW anW odM0 anM0 odM1 anM1 odM2 anM2 odM3 anM3 odN0 anN0 odN1 anN1 od0 an0 od1 an1 od2 an2 od3 an3 od4 an4 od5 an5 od6 an6 od7 an7 od8 an8 od9 an9 od10 an10 od11 an11 od12 an12 od13 an13 od14 an14 od15 an15 od16 an16 od17 an17 od18 an18 od19 an19 od20 an20 od21 an21 od22 an22 od23 an23 od24 an24 od25 an25 od26 an26 od27 an27 od28 an28 od29 an29 od30 an30 od31 an31 od32 an32 od33 an33 odL anL : Option Addr} {slW slM0 slM1 slM2 slM3 slN0 slN1 sl0 sl1 sl2 sl3 sl4 sl5 sl6 sl7 sl8 sl9 sl10 sl11 sl12 sl13 sl14 sl15 sl16 sl17 sl18 sl19 sl20 sl21 sl22 sl23 sl24 sl25 sl26 sl27 sl28 sl29 sl30 sl31 sl32 sl33 slL : Array (Option Value)} {ocW kVW dcW pmW cdW ctW ocM0 kVM0 dcM0 pmM0 cdM0 ctM0 ocM1 kVM1 dcM1 pmM1 cdM1 ctM1 ocM2 kVM2 dcM2 pmM2 cdM2 ctM2 ocM3 kVM3 dcM3 pmM3 cdM3 ctM3 ocN0 kVN0 dcN0 pmN0 cdN0 ctN0 ocN1 kVN1 dcN1 pmN1 cdN1 ctN1 oc0 kV0 dc0 pm0 cd0 ct0 oc1 kV1 dc1 pm1 cd1 ct1 oc2 kV2 dc2 pm2 cd2 ct2 oc3 kV3 dc3 pm3 cd3 ct3 oc4 kV4 dc4 pm4 cd4 ct4 oc5 kV5 dc5 pm5 cd5 ct5 oc6 kV6 dc6 pm6 cd6 ct6 oc7 kV7 dc7 pm7 cd7 ct7 oc8 kV8 dc8 pm8 cd8 ct8 oc9 kV9 dc9 pm9 cd9 ct9 oc10 kV10 dc10 pm10 cd10 ct10 oc11 kV11 dc11 pm11 cd11 ct11 oc12 kV12 dc12 pm12 cd12 ct12 oc13 kV13 dc13 pm13 cd13 ct13 oc14 kV14 dc14 pm14 cd14 ct14 oc15 kV15 dc15 pm15 cd15 ct15 oc16 kV16 dc16 pm16 cd16 ct16 oc17 kV17 dc17 pm17 cd17 ct17 oc18 kV18 dc18 pm18 cd18 ct18 oc19 kV19 dc19 pm19 cd19 ct19 oc20 kV20 dc20 pm20 cd20 ct20 oc21 kV21 dc21 pm21 cd21 ct21 oc22 kV22 dc22 pm22 cd22 ct22 oc23 kV23 dc23 pm23 cd23 ct23 oc24 kV24 dc24 pm24 cd24 ct24 oc25 kV25 dc25 pm25 cd25 ct25 oc26 kV26 dc26 pm26 cd26 ct26 oc27 kV27 dc27 pm27 cd27 ct27 oc28 kV28 dc28 pm28 cd28 ct28 oc29 kV29 dc29 pm29 cd29 ct29 oc30 kV30 dc30 pm30 cd30 ct30 oc31 kV31 dc31 pm31 cd31 ct31 oc32 kV32 dc32 pm32 cd32 ct32 oc33 kV33 dc33 pm33 cd33 ct33 ocL kVL dcL pmL cdL ctL : Value}
    {t_MOST_ROWS t_MOST_COLUMNS t_MOST_VALUE t_MOST_PRICE t_MOST_PIECES : Tok}
    (aC : PySem.W.nsIn K mainGlobals "Table" = some (some (.ref C)))
    (pgC : PySem.W.plainGet K C Str.empty = true)
    (hdC : PySem.W.hasDictIn K C = true)
    (poC : PySem.W.plainOver K C = true)
    (saC : PySem.W.findIn K (.ref C) "__setattr__" = some (some (.builtin "object.__setattr__")))
    (mkC : PySem.W.makesIn K C = true)
    (kcC : PySem.W.keepIn K (.ref C) = true)
    (aD : PySem.W.nsIn K mainGlobals "Seamed" = some (some (.ref D)))
    (pgD : PySem.W.plainGet K D Str.empty = true)
    (hdD : PySem.W.hasDictIn K D = true)
    (poD : PySem.W.plainOver K D = true)
    (saD : PySem.W.findIn K (.ref D) "__setattr__" = some (some (.builtin "object.__setattr__")))
    (mkD : PySem.W.makesIn K D = true)
    (kcD : PySem.W.keepIn K (.ref D) = true)
    (iha : PySem.W.findIn K (.ref C) "__class__" = some (some (.builtin "object.__class__")))
    (ihn : PySem.W.specialIn K (.builtin "object.__class__") "__get__" = some (some (.builtin "getset_descriptor.__get__")))
    (iht : PySem.W.takesIn K (.builtin "object.__class__") = some true)
    (ihm : PySem.W.mroIn K C (.type "object") = some true)
    (nRo : PySem.W.findIn K (.ref C) "rows" = some none)
    (nPl : PySem.W.findIn K (.ref D) "plan" = some none)
    (nFl : PySem.W.findIn K (.ref D) "floors" = some none)
    (pAt : PySem.W.findIn K (.ref C) "width" = some (some (.ref p)))
    (pGe : PySem.W.specialIn K (.ref p) "__get__" = some (some (.builtin "property.__get__")))
    (pTk : PySem.W.takesIn K (.ref p) = some true)
    (pRe : PySem.W.recIn K p "property" = some (.ref fW :: rest))
    (z_len : PySem.W.nsIn K mainGlobals "len" = some none)
    (z_sum : PySem.W.nsIn K mainGlobals "sum" = some none)
    (z_min : PySem.W.nsIn K mainGlobals "min" = some none)
    (z_all : PySem.W.nsIn K mainGlobals "all" = some none)
    (z_zip : PySem.W.nsIn K mainGlobals "zip" = some none)
    (z_range : PySem.W.nsIn K mainGlobals "range" = some none)
    (z_enumerate : PySem.W.nsIn K mainGlobals "enumerate" = some none)
    (z_isinstance : PySem.W.nsIn K mainGlobals "isinstance" = some none)
    (z_sorted : PySem.W.nsIn K mainGlobals "sorted" = some none)
    (z_int : PySem.W.nsIn K mainGlobals "int" = some none)
    (z_bool : PySem.W.nsIn K mainGlobals "bool" = some none)
    (z_list : PySem.W.nsIn K mainGlobals "list" = some none)
    (z_tuple : PySem.W.nsIn K mainGlobals "tuple" = some none)
    (z_dict : PySem.W.nsIn K mainGlobals "dict" = some none)
    (z_set : PySem.W.nsIn K mainGlobals "set" = some none)
    (q_MOST_ROWS : PySem.W.nsIn K mainGlobals "MOST_ROWS" = some (some (.int 10 t_MOST_ROWS)))
    (q_MOST_COLUMNS : PySem.W.nsIn K mainGlobals "MOST_COLUMNS" = some (some (.int 4 t_MOST_COLUMNS)))
    (q_MOST_VALUE : PySem.W.nsIn K mainGlobals "MOST_VALUE" = some (some (.int 6 t_MOST_VALUE)))
    (q_MOST_PRICE : PySem.W.nsIn K mainGlobals "MOST_PRICE" = some (some (.int 9 t_MOST_PRICE)))
    (q_MOST_PIECES : PySem.W.nsIn K mainGlobals "MOST_PIECES" = some (some (.int 6 t_MOST_PIECES)))
    (lW : K.lookup fW = some ⟨ocW, odW, .func (fnR "width" "Table.width" s_Table_width kVW dcW pmW anW cdW ctW), slW⟩)
    (cW : PySem.W.codeIn K cdW "Table.width" = true)
    (aM0 : PySem.W.findIn K (.ref C) "__len__" = some (some (.ref fM0)))
    (iM0 : PySem.W.isFn K (.ref fM0) = true)
    (lM0 : K.lookup fM0 = some ⟨ocM0, odM0, .func (fnR "__len__" "Table.__len__" s_Table___len__ kVM0 dcM0 pmM0 anM0 cdM0 ctM0), slM0⟩)
    (cM0 : PySem.W.codeIn K cdM0 "Table.__len__" = true)
    (kM0 : PySem.W.keepIn K (.ref fM0) = true)
    (aM1 : PySem.W.findIn K (.ref C) "column" = some (some (.ref fM1)))
    (iM1 : PySem.W.isFn K (.ref fM1) = true)
    (lM1 : K.lookup fM1 = some ⟨ocM1, odM1, .func (fnR "column" "Table.column" s_Table_column kVM1 dcM1 pmM1 anM1 cdM1 ctM1), slM1⟩)
    (cM1 : PySem.W.codeIn K cdM1 "Table.column" = true)
    (kM1 : PySem.W.keepIn K (.ref fM1) = true)
    (aM2 : PySem.W.findIn K (.ref D) "is_floor" = some (some (.ref fM2)))
    (iM2 : PySem.W.isFn K (.ref fM2) = true)
    (lM2 : K.lookup fM2 = some ⟨ocM2, odM2, .func (fnR "is_floor" "Seamed.is_floor" s_Seamed_is_floor kVM2 dcM2 pmM2 anM2 cdM2 ctM2), slM2⟩)
    (cM2 : PySem.W.codeIn K cdM2 "Seamed.is_floor" = true)
    (kM2 : PySem.W.keepIn K (.ref fM2) = true)
    (aM3 : PySem.W.findIn K (.ref D) "shows" = some (some (.ref fM3)))
    (iM3 : PySem.W.isFn K (.ref fM3) = true)
    (lM3 : K.lookup fM3 = some ⟨ocM3, odM3, .func (fnR "shows" "Seamed.shows" s_Seamed_shows kVM3 dcM3 pmM3 anM3 cdM3 ctM3), slM3⟩)
    (cM3 : PySem.W.codeIn K cdM3 "Seamed.shows" = true)
    (kM3 : PySem.W.keepIn K (.ref fM3) = true)
    (aN0 : PySem.W.findIn K (.ref C) "__init__" = some (some (.ref fN0)))
    (iN0 : PySem.W.isFn K (.ref fN0) = true)
    (lN0 : K.lookup fN0 = some ⟨ocN0, odN0, .func (fnR "__init__" "Table.__init__" s_Table___init__ kVN0 dcN0 pmN0 anN0 cdN0 ctN0), slN0⟩)
    (cN0 : PySem.W.codeIn K cdN0 "Table.__init__" = true)
    (aN1 : PySem.W.findIn K (.ref D) "__init__" = some (some (.ref fN1)))
    (iN1 : PySem.W.isFn K (.ref fN1) = true)
    (lN1 : K.lookup fN1 = some ⟨ocN1, odN1, .func (fnR "__init__" "Seamed.__init__" s_Seamed___init__ kVN1 dcN1 pmN1 anN1 cdN1 ctN1), slN1⟩)
    (cN1 : PySem.W.codeIn K cdN1 "Seamed.__init__" = true)
    (a0 : PySem.W.nsIn K mainGlobals "is_number" = some (some (.ref f0)))
    (l0 : K.lookup f0 = some ⟨oc0, od0, .func (fnR "is_number" "is_number" s_is_number kV0 dc0 pm0 an0 cd0 ct0), sl0⟩)
    (c0 : PySem.W.codeIn K cd0 "is_number" = true)
    (k0 : PySem.W.keepIn K (.ref f0) = true)
    (a1 : PySem.W.nsIn K mainGlobals "is_row" = some (some (.ref f1)))
    (l1 : K.lookup f1 = some ⟨oc1, od1, .func (fnR "is_row" "is_row" s_is_row kV1 dc1 pm1 an1 cd1 ct1), sl1⟩)
    (c1 : PySem.W.codeIn K cd1 "is_row" = true)
    (k1 : PySem.W.keepIn K (.ref f1) = true)
    (a2 : PySem.W.nsIn K mainGlobals "width_of" = some (some (.ref f2)))
    (l2 : K.lookup f2 = some ⟨oc2, od2, .func (fnR "width_of" "width_of" s_width_of kV2 dc2 pm2 an2 cd2 ct2), sl2⟩)
    (c2 : PySem.W.codeIn K cd2 "width_of" = true)
    (k2 : PySem.W.keepIn K (.ref f2) = true)
    (a3 : PySem.W.nsIn K mainGlobals "apart" = some (some (.ref f3)))
    (l3 : K.lookup f3 = some ⟨oc3, od3, .func (fnR "apart" "apart" s_apart kV3 dc3 pm3 an3 cd3 ct3), sl3⟩)
    (c3 : PySem.W.codeIn K cd3 "apart" = true)
    (k3 : PySem.W.keepIn K (.ref f3) = true)
    (a4 : PySem.W.nsIn K mainGlobals "check_table" = some (some (.ref f4)))
    (l4 : K.lookup f4 = some ⟨oc4, od4, .func (fnR "check_table" "check_table" s_check_table kV4 dc4 pm4 an4 cd4 ct4), sl4⟩)
    (c4 : PySem.W.codeIn K cd4 "check_table" = true)
    (k4 : PySem.W.keepIn K (.ref f4) = true)
    (a5 : PySem.W.nsIn K mainGlobals "check_column" = some (some (.ref f5)))
    (l5 : K.lookup f5 = some ⟨oc5, od5, .func (fnR "check_column" "check_column" s_check_column kV5 dc5 pm5 an5 cd5 ct5), sl5⟩)
    (c5 : PySem.W.codeIn K cd5 "check_column" = true)
    (k5 : PySem.W.keepIn K (.ref f5) = true)
    (a6 : PySem.W.nsIn K mainGlobals "check_prices" = some (some (.ref f6)))
    (l6 : K.lookup f6 = some ⟨oc6, od6, .func (fnR "check_prices" "check_prices" s_check_prices kV6 dc6 pm6 an6 cd6 ct6), sl6⟩)
    (c6 : PySem.W.codeIn K cd6 "check_prices" = true)
    (k6 : PySem.W.keepIn K (.ref f6) = true)
    (a7 : PySem.W.nsIn K mainGlobals "ends_of" = some (some (.ref f7)))
    (l7 : K.lookup f7 = some ⟨oc7, od7, .func (fnR "ends_of" "ends_of" s_ends_of kV7 dc7 pm7 an7 cd7 ct7), sl7⟩)
    (c7 : PySem.W.codeIn K cd7 "ends_of" = true)
    (k7 : PySem.W.keepIn K (.ref f7) = true)
    (a8 : PySem.W.nsIn K mainGlobals "seam" = some (some (.ref f8)))
    (l8 : K.lookup f8 = some ⟨oc8, od8, .func (fnR "seam" "seam" s_seam kV8 dc8 pm8 an8 cd8 ct8), sl8⟩)
    (c8 : PySem.W.codeIn K cd8 "seam" = true)
    (k8 : PySem.W.keepIn K (.ref f8) = true)
    (a9 : PySem.W.nsIn K mainGlobals "check_pieces" = some (some (.ref f9)))
    (l9 : K.lookup f9 = some ⟨oc9, od9, .func (fnR "check_pieces" "check_pieces" s_check_pieces kV9 dc9 pm9 an9 cd9 ct9), sl9⟩)
    (c9 : PySem.W.codeIn K cd9 "check_pieces" = true)
    (k9 : PySem.W.keepIn K (.ref f9) = true)
    (a10 : PySem.W.nsIn K mainGlobals "is_plan" = some (some (.ref f10)))
    (l10 : K.lookup f10 = some ⟨oc10, od10, .func (fnR "is_plan" "is_plan" s_is_plan kV10 dc10 pm10 an10 cd10 ct10), sl10⟩)
    (c10 : PySem.W.codeIn K cd10 "is_plan" = true)
    (k10 : PySem.W.keepIn K (.ref f10) = true)
    (a11 : PySem.W.nsIn K mainGlobals "seam_cost" = some (some (.ref f11)))
    (l11 : K.lookup f11 = some ⟨oc11, od11, .func (fnR "seam_cost" "seam_cost" s_seam_cost kV11 dc11 pm11 an11 cd11 ct11), sl11⟩)
    (c11 : PySem.W.codeIn K cd11 "seam_cost" = true)
    (k11 : PySem.W.keepIn K (.ref f11) = true)
    (a12 : PySem.W.nsIn K mainGlobals "put_plan" = some (some (.ref f12)))
    (l12 : K.lookup f12 = some ⟨oc12, od12, .func (fnR "put_plan" "put_plan" s_put_plan kV12 dc12 pm12 an12 cd12 ct12), sl12⟩)
    (c12 : PySem.W.codeIn K cd12 "put_plan" = true)
    (k12 : PySem.W.keepIn K (.ref f12) = true)
    (a13 : PySem.W.nsIn K mainGlobals "steps_from" = some (some (.ref f13)))
    (l13 : K.lookup f13 = some ⟨oc13, od13, .func (fnR "steps_from" "steps_from" s_steps_from kV13 dc13 pm13 an13 cd13 ct13), sl13⟩)
    (c13 : PySem.W.codeIn K cd13 "steps_from" = true)
    (k13 : PySem.W.keepIn K (.ref f13) = true)
    (a14 : PySem.W.nsIn K mainGlobals "floors_of" = some (some (.ref f14)))
    (l14 : K.lookup f14 = some ⟨oc14, od14, .func (fnR "floors_of" "floors_of" s_floors_of kV14 dc14 pm14 an14 cd14 ct14), sl14⟩)
    (c14 : PySem.W.codeIn K cd14 "floors_of" = true)
    (k14 : PySem.W.keepIn K (.ref f14) = true)
    (a15 : PySem.W.nsIn K mainGlobals "least_seams" = some (some (.ref f15)))
    (l15 : K.lookup f15 = some ⟨oc15, od15, .func (fnR "least_seams" "least_seams" s_least_seams kV15 dc15 pm15 an15 cd15 ct15), sl15⟩)
    (c15 : PySem.W.codeIn K cd15 "least_seams" = true)
    (k15 : PySem.W.keepIn K (.ref f15) = true)
    (a16 : PySem.W.nsIn K mainGlobals "best_seams" = some (some (.ref f16)))
    (l16 : K.lookup f16 = some ⟨oc16, od16, .func (fnR "best_seams" "best_seams" s_best_seams kV16 dc16 pm16 an16 cd16 ct16), sl16⟩)
    (c16 : PySem.W.codeIn K cd16 "best_seams" = true)
    (k16 : PySem.W.keepIn K (.ref f16) = true)
    (a17 : PySem.W.nsIn K mainGlobals "put_together_best" = some (some (.ref f17)))
    (l17 : K.lookup f17 = some ⟨oc17, od17, .func (fnR "put_together_best" "put_together_best" s_put_together_best kV17 dc17 pm17 an17 cd17 ct17), sl17⟩)
    (c17 : PySem.W.codeIn K cd17 "put_together_best" = true)
    (k17 : PySem.W.keepIn K (.ref f17) = true)
    (a18 : PySem.W.nsIn K mainGlobals "runs_in" = some (some (.ref f18)))
    (l18 : K.lookup f18 = some ⟨oc18, od18, .func (fnR "runs_in" "runs_in" s_runs_in kV18 dc18 pm18 an18 cd18 ct18), sl18⟩)
    (c18 : PySem.W.codeIn K cd18 "runs_in" = true)
    (k18 : PySem.W.keepIn K (.ref f18) = true)
    (a19 : PySem.W.nsIn K mainGlobals "all_runs" = some (some (.ref f19)))
    (l19 : K.lookup f19 = some ⟨oc19, od19, .func (fnR "all_runs" "all_runs" s_all_runs kV19 dc19 pm19 an19 cd19 ct19), sl19⟩)
    (c19 : PySem.W.codeIn K cd19 "all_runs" = true)
    (k19 : PySem.W.keepIn K (.ref f19) = true)
    (a20 : PySem.W.nsIn K mainGlobals "cost" = some (some (.ref f20)))
    (l20 : K.lookup f20 = some ⟨oc20, od20, .func (fnR "cost" "cost" s_cost kV20 dc20 pm20 an20 cd20 ct20), sl20⟩)
    (c20 : PySem.W.codeIn K cd20 "cost" = true)
    (k20 : PySem.W.keepIn K (.ref f20) = true)
    (a21 : PySem.W.nsIn K mainGlobals "_law_number" = some (some (.ref f21)))
    (l21 : K.lookup f21 = some ⟨oc21, od21, .func (fnR "_law_number" "_law_number" s__law_number kV21 dc21 pm21 an21 cd21 ct21), sl21⟩)
    (c21 : PySem.W.codeIn K cd21 "_law_number" = true)
    (k21 : PySem.W.keepIn K (.ref f21) = true)
    (a22 : PySem.W.nsIn K mainGlobals "_law_take" = some (some (.ref f22)))
    (l22 : K.lookup f22 = some ⟨oc22, od22, .func (fnR "_law_take" "_law_take" s__law_take kV22 dc22 pm22 an22 cd22 ct22), sl22⟩)
    (c22 : PySem.W.codeIn K cd22 "_law_take" = true)
    (k22 : PySem.W.keepIn K (.ref f22) = true)
    (a23 : PySem.W.nsIn K mainGlobals "_law_pick" = some (some (.ref f23)))
    (l23 : K.lookup f23 = some ⟨oc23, od23, .func (fnR "_law_pick" "_law_pick" s__law_pick kV23 dc23 pm23 an23 cd23 ct23), sl23⟩)
    (c23 : PySem.W.codeIn K cd23 "_law_pick" = true)
    (k23 : PySem.W.keepIn K (.ref f23) = true)
    (a24 : PySem.W.nsIn K mainGlobals "_law_prices" = some (some (.ref f24)))
    (l24 : K.lookup f24 = some ⟨oc24, od24, .func (fnR "_law_prices" "_law_prices" s__law_prices kV24 dc24 pm24 an24 cd24 ct24), sl24⟩)
    (c24 : PySem.W.codeIn K cd24 "_law_prices" = true)
    (k24 : PySem.W.keepIn K (.ref f24) = true)
    (a25 : PySem.W.nsIn K mainGlobals "_law_given" = some (some (.ref f25)))
    (l25 : K.lookup f25 = some ⟨oc25, od25, .func (fnR "_law_given" "_law_given" s__law_given kV25 dc25 pm25 an25 cd25 ct25), sl25⟩)
    (c25 : PySem.W.codeIn K cd25 "_law_given" = true)
    (k25 : PySem.W.keepIn K (.ref f25) = true)
    (a26 : PySem.W.nsIn K mainGlobals "_law_distance" = some (some (.ref f26)))
    (l26 : K.lookup f26 = some ⟨oc26, od26, .func (fnR "_law_distance" "_law_distance" s__law_distance kV26 dc26 pm26 an26 cd26 ct26), sl26⟩)
    (c26 : PySem.W.codeIn K cd26 "_law_distance" = true)
    (k26 : PySem.W.keepIn K (.ref f26) = true)
    (a27 : PySem.W.nsIn K mainGlobals "_law_ends" = some (some (.ref f27)))
    (l27 : K.lookup f27 = some ⟨oc27, od27, .func (fnR "_law_ends" "_law_ends" s__law_ends kV27 dc27 pm27 an27 cd27 ct27), sl27⟩)
    (c27 : PySem.W.codeIn K cd27 "_law_ends" = true)
    (k27 : PySem.W.keepIn K (.ref f27) = true)
    (a28 : PySem.W.nsIn K mainGlobals "_law_seams" = some (some (.ref f28)))
    (l28 : K.lookup f28 = some ⟨oc28, od28, .func (fnR "_law_seams" "_law_seams" s__law_seams kV28 dc28 pm28 an28 cd28 ct28), sl28⟩)
    (c28 : PySem.W.codeIn K cd28 "_law_seams" = true)
    (k28 : PySem.W.keepIn K (.ref f28) = true)
    (a29 : PySem.W.nsIn K mainGlobals "_law_cost" = some (some (.ref f29)))
    (l29 : K.lookup f29 = some ⟨oc29, od29, .func (fnR "_law_cost" "_law_cost" s__law_cost kV29 dc29 pm29 an29 cd29 ct29), sl29⟩)
    (c29 : PySem.W.codeIn K cd29 "_law_cost" = true)
    (k29 : PySem.W.keepIn K (.ref f29) = true)
    (a30 : PySem.W.nsIn K mainGlobals "_law_plans" = some (some (.ref f30)))
    (l30 : K.lookup f30 = some ⟨oc30, od30, .func (fnR "_law_plans" "_law_plans" s__law_plans kV30 dc30 pm30 an30 cd30 ct30), sl30⟩)
    (c30 : PySem.W.codeIn K cd30 "_law_plans" = true)
    (k30 : PySem.W.keepIn K (.ref f30) = true)
    (a31 : PySem.W.nsIn K mainGlobals "_law_pieces" = some (some (.ref f31)))
    (l31 : K.lookup f31 = some ⟨oc31, od31, .func (fnR "_law_pieces" "_law_pieces" s__law_pieces kV31 dc31 pm31 an31 cd31 ct31), sl31⟩)
    (c31 : PySem.W.codeIn K cd31 "_law_pieces" = true)
    (k31 : PySem.W.keepIn K (.ref f31) = true)
    (a32 : PySem.W.nsIn K mainGlobals "_law_shows" = some (some (.ref f32)))
    (l32 : K.lookup f32 = some ⟨oc32, od32, .func (fnR "_law_shows" "_law_shows" s__law_shows kV32 dc32 pm32 an32 cd32 ct32), sl32⟩)
    (c32 : PySem.W.codeIn K cd32 "_law_shows" = true)
    (k32 : PySem.W.keepIn K (.ref f32) = true)
    (a33 : PySem.W.nsIn K mainGlobals "_law_cases" = some (some (.ref f33)))
    (l33 : K.lookup f33 = some ⟨oc33, od33, .func (fnR "_law_cases" "_law_cases" s__law_cases kV33 dc33 pm33 an33 cd33 ct33), sl33⟩)
    (c33 : PySem.W.codeIn K cd33 "_law_cases" = true)
    (k33 : PySem.W.keepIn K (.ref f33) = true)
    (aL : PySem.W.nsIn K mainGlobals "law" = some (some (.ref fL)))
    (lL : K.lookup fL = some ⟨ocL, odL, .func (fnR "law" "law" s_law kVL dcL pmL anL cdL ctL), slL⟩)
    (cL : PySem.W.codeIn K cdL "law" = true) :
    ∃ fd : FuncData, (∀ (s : Shared) (v : Value), BindsTo s fd ⟨[v], []⟩ [("_law_script", v)]) ∧ ∀ base : Heap, K.In base → base.Ns mainGlobals mg → FnOk l.prog w K mg base C8.CX0 8 fa fd ["_law_script"] (spLawF K) := by
  have e := hfa.symm.trans (PySem.W.mg_of X G aL)
  cases e
  have T : Txt K mg C D p fW := ⟨⟨PySem.W.mg_none_of X G z_len, PySem.W.mg_none_of X G z_sum, PySem.W.mg_none_of X G z_min, PySem.W.mg_none_of X G z_all, PySem.W.mg_none_of X G z_zip, PySem.W.mg_none_of X G z_range, PySem.W.mg_none_of X G z_enumerate, PySem.W.mg_none_of X G z_isinstance, PySem.W.mg_none_of X G z_sorted, PySem.W.mg_none_of X G z_int, PySem.W.mg_none_of X G z_bool, PySem.W.mg_none_of X G z_list, PySem.W.mg_none_of X G z_tuple, PySem.W.mg_none_of X G z_dict, PySem.W.mg_none_of X G z_set⟩, ⟨_, PySem.W.mg_of X G q_MOST_ROWS, ⟨_, rfl⟩⟩, ⟨_, PySem.W.mg_of X G q_MOST_COLUMNS, ⟨_, rfl⟩⟩, ⟨_, PySem.W.mg_of X G q_MOST_VALUE, ⟨_, rfl⟩⟩, ⟨_, PySem.W.mg_of X G q_MOST_PRICE, ⟨_, rfl⟩⟩, ⟨_, PySem.W.mg_of X G q_MOST_PIECES, ⟨_, rfl⟩⟩, PySem.W.mg_of X G aC, ⟨⟨pgC, hdC, poC, saC⟩, iha, ihn, iht, ihm, kit_self⟩, ⟨pgD, hdD, poD, saD⟩, nRo, nPl, nFl, ⟨pAt, pGe, pTk, ⟨_, pRe⟩⟩⟩
  have FW := fun_mk lW cW
  have FM0 := fun_mk lM0 cM0
  have FM1 := fun_mk lM1 cM1
  have FM2 := fun_mk lM2 cM2
  have FM3 := fun_mk lM3 cM3
  have FN0 := fun_mk lN0 cN0
  have FN1 := fun_mk lN1 cN1
  have F0 := fun_mk l0 c0
  have F1 := fun_mk l1 c1
  have F2 := fun_mk l2 c2
  have F3 := fun_mk l3 c3
  have F4 := fun_mk l4 c4
  have F5 := fun_mk l5 c5
  have F6 := fun_mk l6 c6
  have F7 := fun_mk l7 c7
  have F8 := fun_mk l8 c8
  have F9 := fun_mk l9 c9
  have F10 := fun_mk l10 c10
  have F11 := fun_mk l11 c11
  have F12 := fun_mk l12 c12
  have F13 := fun_mk l13 c13
  have F14 := fun_mk l14 c14
  have F15 := fun_mk l15 c15
  have F16 := fun_mk l16 c16
  have F17 := fun_mk l17 c17
  have F18 := fun_mk l18 c18
  have F19 := fun_mk l19 c19
  have F20 := fun_mk l20 c20
  have F21 := fun_mk l21 c21
  have F22 := fun_mk l22 c22
  have F23 := fun_mk l23 c23
  have F24 := fun_mk l24 c24
  have F25 := fun_mk l25 c25
  have F26 := fun_mk l26 c26
  have F27 := fun_mk l27 c27
  have F28 := fun_mk l28 c28
  have F29 := fun_mk l29 c29
  have F30 := fun_mk l30 c30
  have F31 := fun_mk l31 c31
  have F32 := fun_mk l32 c32
  have F33 := fun_mk l33 c33
  have FL := fun_mk lL cL
  refine ⟨fnR "law" "law" s_law kVL dcL pmL anL cdL ctL, fun s v => .of_eq rfl, fun base _ _ => ?_⟩
  have G_width := ok_width (P := l.prog) (w := w) (mg := mg) (base := base) (C := C) (D := D) (p := p) FW T
  have b_width := (C8.Fun.binds FW rfl (ps := ["self"]) fun _ _ _ _ _ _ us hl => match us, hl with | [_], _ => rfl)
  have M_len := ok_len (P := l.prog) (w := w) (mg := mg) (base := base) (C := C) (D := D) (p := p) T.cl_Table ⟨aM0, iM0, kM0⟩ FM0 (C8.Fun.binds FM0 rfl (ps := ["self"]) fun _ _ _ _ _ _ us hl => match us, hl with | [_], _ => rfl) T
  have G_Seamed := ok_Seamed (P := l.prog) (w := w) (mg := mg) (base := base) (C := C) (D := D) (p := p) ⟨mkD, aN1, iN1, kcD⟩ (PySem.W.mg_of X G aD) FN1 (C8.Fun.binds FN1 rfl (ps := ["self", "plan", "floors"]) fun _ _ _ _ _ _ us hl => match us, hl with | [_, _, _], _ => rfl) T
  have G_is_number := ok_is_number (P := l.prog) (w := w) (mg := mg) (base := base) ⟨F0, PySem.W.mg_of X G a0, k0⟩ (C8.Fun.binds F0 rfl (ps := ["thing", "least", "most"]) fun _ _ _ _ _ _ us hl => match us, hl with | [_, _, _], _ => rfl) T
  have G_is_row := ok_is_row (P := l.prog) (w := w) (mg := mg) (base := base) ⟨F1, PySem.W.mg_of X G a1, k1⟩ (C8.Fun.binds F1 rfl (ps := ["thing", "many"]) fun _ _ _ _ _ _ us hl => match us, hl with | [_, _], _ => rfl) T G_is_number
  have G_width_of := ok_width_of (P := l.prog) (w := w) (mg := mg) (base := base) ⟨F2, PySem.W.mg_of X G a2, k2⟩ (C8.Fun.binds F2 rfl (ps := ["thing"]) fun _ _ _ _ _ _ us hl => match us, hl with | [_], _ => rfl) T
  have G_Table := ok_Table (P := l.prog) (w := w) (mg := mg) (base := base) (C := C) (D := D) (p := p) ⟨mkC, aN0, iN0, kcC⟩ (PySem.W.mg_of X G aC) FN0 (C8.Fun.binds FN0 rfl (ps := ["self", "rows"]) fun _ _ _ _ _ _ us hl => match us, hl with | [_, _], _ => rfl) T G_width_of G_is_row
  have G_apart := ok_apart (P := l.prog) (w := w) (mg := mg) (base := base) ⟨F3, PySem.W.mg_of X G a3, k3⟩ (C8.Fun.binds F3 rfl (ps := ["one", "other", "prices"]) fun _ _ _ _ _ _ us hl => match us, hl with | [_, _, _], _ => rfl) T
  have G_check_table := ok_check_table (P := l.prog) (w := w) (mg := mg) (base := base) ⟨F4, PySem.W.mg_of X G a4, k4⟩ (C8.Fun.binds F4 rfl (ps := ["table"]) fun _ _ _ _ _ _ us hl => match us, hl with | [_], _ => rfl) T
  have G_check_column := ok_check_column (P := l.prog) (w := w) (mg := mg) (base := base) ⟨F5, PySem.W.mg_of X G a5, k5⟩ (C8.Fun.binds F5 rfl (ps := ["table", "place"]) fun _ _ _ _ _ _ us hl => match us, hl with | [_, _], _ => rfl) T G_width b_width G_is_number
  have M_column := ok_column (P := l.prog) (w := w) (mg := mg) (base := base) (C := C) (D := D) (p := p) T.cl_Table ⟨aM1, iM1, kM1⟩ FM1 (C8.Fun.binds FM1 rfl (ps := ["self", "place"]) fun _ _ _ _ _ _ us hl => match us, hl with | [_, _], _ => rfl) T G_check_column
  have G_check_prices := ok_check_prices (P := l.prog) (w := w) (mg := mg) (base := base) ⟨F6, PySem.W.mg_of X G a6, k6⟩ (C8.Fun.binds F6 rfl (ps := ["table", "prices"]) fun _ _ _ _ _ _ us hl => match us, hl with | [_, _], _ => rfl) T G_width b_width G_is_number
  have G_ends_of := ok_ends_of (P := l.prog) (w := w) (mg := mg) (base := base) ⟨F7, PySem.W.mg_of X G a7, k7⟩ (C8.Fun.binds F7 rfl (ps := ["piece", "is_turned"]) fun _ _ _ _ _ _ us hl => match us, hl with | [_, _], _ => rfl) T
  have G_seam := ok_seam (P := l.prog) (w := w) (mg := mg) (base := base) ⟨F8, PySem.W.mg_of X G a8, k8⟩ (C8.Fun.binds F8 rfl (ps := ["last", "first", "prices"]) fun _ _ _ _ _ _ us hl => match us, hl with | [_, _, _], _ => rfl) G_apart
  have G_check_pieces := ok_check_pieces (P := l.prog) (w := w) (mg := mg) (base := base) ⟨F9, PySem.W.mg_of X G a9, k9⟩ (C8.Fun.binds F9 rfl (ps := ["pieces", "prices"]) fun _ _ _ _ _ _ us hl => match us, hl with | [_, _], _ => rfl) T G_width b_width M_len G_is_number
  have G_is_plan := ok_is_plan (P := l.prog) (w := w) (mg := mg) (base := base) ⟨F10, PySem.W.mg_of X G a10, k10⟩ (C8.Fun.binds F10 rfl (ps := ["pieces", "plan"]) fun _ _ _ _ _ _ us hl => match us, hl with | [_, _], _ => rfl) T
  have G_seam_cost := ok_seam_cost (P := l.prog) (w := w) (mg := mg) (base := base) ⟨F11, PySem.W.mg_of X G a11, k11⟩ (C8.Fun.binds F11 rfl (ps := ["pieces", "plan", "prices"]) fun _ _ _ _ _ _ us hl => match us, hl with | [_, _, _], _ => rfl) T G_ends_of G_apart
  have G_put_plan := ok_put_plan (P := l.prog) (w := w) (mg := mg) (base := base) ⟨F12, PySem.W.mg_of X G a12, k12⟩ (C8.Fun.binds F12 rfl (ps := ["pieces", "plan"]) fun _ _ _ _ _ _ us hl => match us, hl with | [_, _], _ => rfl) T G_Table
  have G_steps_from := ok_steps_from (P := l.prog) (w := w) (mg := mg) (base := base) ⟨F13, PySem.W.mg_of X G a13, k13⟩ (C8.Fun.binds F13 rfl (ps := ["pieces", "state"]) fun _ _ _ _ _ _ us hl => match us, hl with | [_, _], _ => rfl) T G_ends_of
  have M_is_floor := ok_is_floor (P := l.prog) (w := w) (mg := mg) (base := base) (C := C) (D := D) (p := p) T.cl_Seamed ⟨aM2, iM2, kM2⟩ FM2 (C8.Fun.binds FM2 rfl (ps := ["self", "pieces", "prices", "state"]) fun _ _ _ _ _ _ us hl => match us, hl with | [_, _, _, _], _ => rfl) T G_is_number G_width b_width G_steps_from G_seam
  have M_shows := ok_shows (P := l.prog) (w := w) (mg := mg) (base := base) (C := C) (D := D) (p := p) T.cl_Seamed ⟨aM3, iM3, kM3⟩ FM3 (C8.Fun.binds FM3 rfl (ps := ["self", "pieces", "prices"]) fun _ _ _ _ _ _ us hl => match us, hl with | [_, _, _], _ => rfl) T G_check_pieces G_is_plan G_seam_cost M_is_floor
  have G_floors_of := ok_floors_of (P := l.prog) (w := w) (mg := mg) (base := base) ⟨F14, PySem.W.mg_of X G a14, k14⟩ (C8.Fun.binds F14 rfl (ps := ["pieces", "prices"]) fun _ _ _ _ _ _ us hl => match us, hl with | [_, _], _ => rfl) T G_steps_from G_seam
  have G_least_seams := ok_least_seams (P := l.prog) (w := w) (mg := mg) (base := base) ⟨F15, PySem.W.mg_of X G a15, k15⟩ (C8.Fun.binds F15 rfl (ps := ["pieces", "prices"]) fun _ _ _ _ _ _ us hl => match us, hl with | [_, _], _ => rfl) T G_check_pieces G_floors_of
  have G_best_seams := ok_best_seams (P := l.prog) (w := w) (mg := mg) (base := base) ⟨F16, PySem.W.mg_of X G a16, k16⟩ (C8.Fun.binds F16 rfl (ps := ["pieces", "prices"]) fun _ _ _ _ _ _ us hl => match us, hl with | [_, _], _ => rfl) T G_check_pieces G_floors_of G_ends_of G_seam G_Seamed
  have G_put_together_best := ok_put_together_best (P := l.prog) (w := w) (mg := mg) (base := base) ⟨F17, PySem.W.mg_of X G a17, k17⟩ (C8.Fun.binds F17 rfl (ps := ["pieces", "prices"]) fun _ _ _ _ _ _ us hl => match us, hl with | [_, _], _ => rfl) T G_put_plan G_best_seams
  have G_runs_in := ok_runs_in (P := l.prog) (w := w) (mg := mg) (base := base) ⟨F18, PySem.W.mg_of X G a18, k18⟩ (C8.Fun.binds F18 rfl (ps := ["values"]) fun _ _ _ _ _ _ us hl => match us, hl with | [_], _ => rfl) T
  have G_all_runs := ok_all_runs (P := l.prog) (w := w) (mg := mg) (base := base) ⟨F19, PySem.W.mg_of X G a19, k19⟩ (C8.Fun.binds F19 rfl (ps := ["table"]) fun _ _ _ _ _ _ us hl => match us, hl with | [_], _ => rfl) T G_check_table G_runs_in M_column G_width b_width
  have G_cost := ok_cost (P := l.prog) (w := w) (mg := mg) (base := base) ⟨F20, PySem.W.mg_of X G a20, k20⟩ (C8.Fun.binds F20 rfl (ps := ["table", "prices"]) fun _ _ _ _ _ _ us hl => match us, hl with | [_, _], _ => rfl) T G_check_table G_check_prices G_all_runs
  have G__law_number := ok_law_number (P := l.prog) (w := w) (mg := mg) (base := base) ⟨F21, PySem.W.mg_of X G a21, k21⟩ (C8.Fun.binds F21 rfl (ps := ["_law_script", "_law_index"]) fun _ _ _ _ _ _ us hl => match us, hl with | [_, _], _ => rfl) T
  have G__law_take := ok_law_take (P := l.prog) (w := w) (mg := mg) (base := base) ⟨F22, PySem.W.mg_of X G a22, k22⟩ (C8.Fun.binds F22 rfl (ps := ["_law_draw", "_law_many"]) fun _ _ _ _ _ _ us hl => match us, hl with | [_, _], _ => rfl) T G__law_number
  have G__law_pick := ok_law_pick (P := l.prog) (w := w) (mg := mg) (base := base) ⟨F23, PySem.W.mg_of X G a23, k23⟩ (C8.Fun.binds F23 rfl (ps := ["_law_draw", "_law_things"]) fun _ _ _ _ _ _ us hl => match us, hl with | [_, _], _ => rfl) T G__law_take
  have G__law_prices := ok_law_prices (P := l.prog) (w := w) (mg := mg) (base := base) ⟨F24, PySem.W.mg_of X G a24, k24⟩ (C8.Fun.binds F24 rfl (ps := ["_law_draw", "_law_width"]) fun _ _ _ _ _ _ us hl => match us, hl with | [_, _], _ => rfl) T G__law_pick
  have G__law_given := ok_law_given (P := l.prog) (w := w) (mg := mg) (base := base) ⟨F25, PySem.W.mg_of X G a25, k25⟩ (C8.Fun.binds F25 rfl (ps := ["_law_draw", "_law_rows"]) fun _ _ _ _ _ _ us hl => match us, hl with | [_, _], _ => rfl) T G__law_take
  have G__law_distance := ok_law_distance (P := l.prog) (w := w) (mg := mg) (base := base) ⟨F26, PySem.W.mg_of X G a26, k26⟩ (C8.Fun.binds F26 rfl (ps := ["_law_one", "_law_other", "_law_prices_here"]) fun _ _ _ _ _ _ us hl => match us, hl with | [_, _, _], _ => rfl) T
  have G__law_ends := ok_law_ends (P := l.prog) (w := w) (mg := mg) (base := base) ⟨F27, PySem.W.mg_of X G a27, k27⟩ (C8.Fun.binds F27 rfl (ps := ["_law_piece", "_law_is_turned"]) fun _ _ _ _ _ _ us hl => match us, hl with | [_, _], _ => rfl) T
  have G__law_seams := ok_law_seams (P := l.prog) (w := w) (mg := mg) (base := base) ⟨F28, PySem.W.mg_of X G a28, k28⟩ (C8.Fun.binds F28 rfl (ps := ["_law_pieces_now", "_law_plan", "_law_prices_here"]) fun _ _ _ _ _ _ us hl => match us, hl with | [_, _, _], _ => rfl) T G__law_ends G__law_distance
  have G__law_cost := ok_law_cost (P := l.prog) (w := w) (mg := mg) (base := base) ⟨F29, PySem.W.mg_of X G a29, k29⟩ (C8.Fun.binds F29 rfl (ps := ["_law_rows", "_law_prices_here"]) fun _ _ _ _ _ _ us hl => match us, hl with | [_, _], _ => rfl) T
  have G__law_plans := ok_law_plans (P := l.prog) (w := w) (mg := mg) (base := base) ⟨F30, PySem.W.mg_of X G a30, k30⟩ (C8.Fun.binds F30 rfl (ps := ["_law_many"]) fun _ _ _ _ _ _ us hl => match us, hl with | [_], _ => rfl) T
  have G__law_pieces := ok_law_pieces (P := l.prog) (w := w) (mg := mg) (base := base) ⟨F31, PySem.W.mg_of X G a31, k31⟩ (C8.Fun.binds F31 rfl (ps := ["_law_draw"]) fun _ _ _ _ _ _ us hl => match us, hl with | [_], _ => rfl) T G__law_take
  have G__law_shows := ok_law_shows (P := l.prog) (w := w) (mg := mg) (base := base) ⟨F32, PySem.W.mg_of X G a32, k32⟩ (C8.Fun.binds F32 rfl (ps := ["_law_pieces_now", "_law_prices_here", "_law_plan", "_law_floors"]) fun _ _ _ _ _ _ us hl => match us, hl with | [_, _, _, _], _ => rfl) T G__law_seams G__law_ends G__law_distance
  have G__law_cases := ok_law_cases (P := l.prog) (w := w) (mg := mg) (base := base) ⟨F33, PySem.W.mg_of X G a33, k33⟩ (C8.Fun.binds F33 rfl (ps := ["_law_draw", "_law_pieces_now", "_law_found"]) fun _ _ _ _ _ _ us hl => match us, hl with | [_, _, _], _ => rfl) T G__law_take G__law_pick
  exact ok_law FL T G__law_pieces G__law_prices G__law_seams G__law_plans G__law_given G__law_shows G__law_cost G__law_cases G_Table G_Seamed G_best_seams G_least_seams G_put_together_best G_cost M_shows M_len
theorem walk {l : PySem.W.OpenLaw} {q : Program} {loose : List Str} {XP : (Str → Option Value) → Heap → Prop} {YP : World → Heap → Prop} {d : DefRec} {K : Params → PySem.W.Frag} (hn : l.most = some 63) (hdf : d.params.defaults = [])
    (hY : ∀ (w : World) (h : Heap), YP w h → (K w.params).In h)
    (F : ∀ (w : World) (mg : Str → Option Value) (fa : Addr) (h : Heap), (K w.params).In h → h.Ns mainGlobals mg → mg d.name = some (.ref fa) →
      ∃ fd : FuncData, (∀ (s : Shared) (u : Value), BindsTo s fd ⟨[u], []⟩ [("_law_script", u)]) ∧ ∀ base : Heap, (K w.params).In base → base.Ns mainGlobals mg → FnOk l.prog w (K w.params) mg base C8.CX0 8 fa fd ["_law_script"] (spLawF (K w.params))) :
    PySem.W.WalkO q loose XP YP l.row.toRowW d [] (fun f vs => PySem.call f vs) :=
  L2.walk_of (n := 63) (k := 8) (x := "_law_script") (CX := fun _ => C8.CX0) (sp := fun w => spLawF (K w.params)) hn (by decide) hdf ⟨rfl, by decide, by decide⟩ hY F
    (fun _ H a ns hl _ hS => ⟨ns, H, Same.refl _, .cons ⟨a, _, rfl, hS, all_ints⟩ .nil, hl, fun _ _ _ _ r => rD_bl.mp r⟩) fun _ _ _ _ _ z => z
end Sm
open PySem PySem.W PyProof.Rows
set_option maxRecDepth 100000 in
set_option maxHeartbeats 0 in
theorem PySem.Challenge.cw_runcolumns_k62_whole_seams_holds : PySem.Challenge.rw_runcolumns_k62_whole_seams.Holds := by
  w_on; o_law; k_head; (case hw => w_witness2)
  k_fill
  refine Sm.walk (l := PySem.Challenge.rw_runcolumns_k62_whole_seams) rfl rfl (fun w h Y => PySem.W.kIn_of Y) ?F
  case F =>
    intro w mg fa h KX G hmg
    refine' Sm.all_mk KX G hmg ?aC ?pgC ?hdC ?poC ?saC ?mkC ?kcC ?aD ?pgD ?hdD ?poD ?saD ?mkD ?kcD ?iha ?ihn ?iht ?ihm ?nRo ?nPl ?nFl ?pAt ?pGe ?pTk ?pRe ?z_len ?z_sum ?z_min ?z_all ?z_zip ?z_range ?z_enumerate ?z_isinstance ?z_sorted ?z_int ?z_bool ?z_list ?z_tuple ?z_dict ?z_set ?q_MOST_ROWS ?q_MOST_COLUMNS ?q_MOST_VALUE ?q_MOST_PRICE ?q_MOST_PIECES ?lW ?cW ?aM0 ?iM0 ?lM0 ?cM0 ?kM0 ?aM1 ?iM1 ?lM1 ?cM1 ?kM1 ?aM2 ?iM2 ?lM2 ?cM2 ?kM2 ?aM3 ?iM3 ?lM3 ?cM3 ?kM3 ?aN0 ?iN0 ?lN0 ?cN0 ?aN1 ?iN1 ?lN1 ?cN1 ?a0 ?l0 ?c0 ?k0 ?a1 ?l1 ?c1 ?k1 ?a2 ?l2 ?c2 ?k2 ?a3 ?l3 ?c3 ?k3 ?a4 ?l4 ?c4 ?k4 ?a5 ?l5 ?c5 ?k5 ?a6 ?l6 ?c6 ?k6 ?a7 ?l7 ?c7 ?k7 ?a8 ?l8 ?c8 ?k8 ?a9 ?l9 ?c9 ?k9 ?a10 ?l10 ?c10 ?k10 ?a11 ?l11 ?c11 ?k11 ?a12 ?l12 ?c12 ?k12 ?a13 ?l13 ?c13 ?k13 ?a14 ?l14 ?c14 ?k14 ?a15 ?l15 ?c15 ?k15 ?a16 ?l16 ?c16 ?k16 ?a17 ?l17 ?c17 ?k17 ?a18 ?l18 ?c18 ?k18 ?a19 ?l19 ?c19 ?k19 ?a20 ?l20 ?c20 ?k20 ?a21 ?l21 ?c21 ?k21 ?a22 ?l22 ?c22 ?k22 ?a23 ?l23 ?c23 ?k23 ?a24 ?l24 ?c24 ?k24 ?a25 ?l25 ?c25 ?k25 ?a26 ?l26 ?c26 ?k26 ?a27 ?l27 ?c27 ?k27 ?a28 ?l28 ?c28 ?k28 ?a29 ?l29 ?c29 ?k29 ?a30 ?l30 ?c30 ?k30 ?a31 ?l31 ?c31 ?k31 ?a32 ?l32 ?c32 ?k32 ?a33 ?l33 ?c33 ?k33 ?aL ?lL ?cL
    (case aC => k_is)
    (case pgC => k_is)
    (case hdC => k_is)
    (case poC => k_is)
    (case saC => k_is)
    (case mkC => k_is)
    (case kcC => k_is)
    (case aD => k_is)
    (case pgD => k_is)
    (case hdD => k_is)
    (case poD => k_is)
    (case saD => k_is)
    (case mkD => k_is)
    (case kcD => k_is)
    (case iha => k_is)
    (case ihn => k_is)
    (case iht => k_is)
    (case ihm => k_is)
    (case nRo => k_is)
    (case nPl => k_is)
    (case nFl => k_is)
    (case pAt => k_is)
    (case pGe => k_is)
    (case pTk => k_is)
    (case pRe => k_is)
    (case z_len => k_is)
    (case z_sum => k_is)
    (case z_min => k_is)
    (case z_all => k_is)
    (case z_zip => k_is)
    (case z_range => k_is)
    (case z_enumerate => k_is)
    (case z_isinstance => k_is)
    (case z_sorted => k_is)
    (case z_int => k_is)
    (case z_bool => k_is)
    (case z_list => k_is)
    (case z_tuple => k_is)
    (case z_dict => k_is)
    (case z_set => k_is)
    (case q_MOST_ROWS => k_is)
    (case q_MOST_COLUMNS => k_is)
    (case q_MOST_VALUE => k_is)
    (case q_MOST_PRICE => k_is)
    (case q_MOST_PIECES => k_is)
    (case lW => k_is)
    (case cW => k_is)
    (case aM0 => k_is)
    (case iM0 => k_is)
    (case lM0 => k_is)
    (case cM0 => k_is)
    (case kM0 => k_is)
    (case aM1 => k_is)
    (case iM1 => k_is)
    (case lM1 => k_is)
    (case cM1 => k_is)
    (case kM1 => k_is)
    (case aM2 => k_is)
    (case iM2 => k_is)
    (case lM2 => k_is)
    (case cM2 => k_is)
    (case kM2 => k_is)
    (case aM3 => k_is)
    (case iM3 => k_is)
    (case lM3 => k_is)
    (case cM3 => k_is)
    (case kM3 => k_is)
    (case aN0 => k_is)
    (case iN0 => k_is)
    (case lN0 => k_is)
    (case cN0 => k_is)
    (case aN1 => k_is)
    (case iN1 => k_is)
    (case lN1 => k_is)
    (case cN1 => k_is)
    (case a0 => k_is)
    (case l0 => k_is)
    (case c0 => k_is)
    (case k0 => k_is)
    (case a1 => k_is)
    (case l1 => k_is)
    (case c1 => k_is)
    (case k1 => k_is)
    (case a2 => k_is)
    (case l2 => k_is)
    (case c2 => k_is)
    (case k2 => k_is)
    (case a3 => k_is)
    (case l3 => k_is)
    (case c3 => k_is)
    (case k3 => k_is)
    (case a4 => k_is)
    (case l4 => k_is)
    (case c4 => k_is)
    (case k4 => k_is)
    (case a5 => k_is)
    (case l5 => k_is)
    (case c5 => k_is)
    (case k5 => k_is)
    (case a6 => k_is)
    (case l6 => k_is)
    (case c6 => k_is)
    (case k6 => k_is)
    (case a7 => k_is)
    (case l7 => k_is)
    (case c7 => k_is)
    (case k7 => k_is)
    (case a8 => k_is)
    (case l8 => k_is)
    (case c8 => k_is)
    (case k8 => k_is)
    (case a9 => k_is)
    (case l9 => k_is)
    (case c9 => k_is)
    (case k9 => k_is)
    (case a10 => k_is)
    (case l10 => k_is)
    (case c10 => k_is)
    (case k10 => k_is)
    (case a11 => k_is)
    (case l11 => k_is)
    (case c11 => k_is)
    (case k11 => k_is)
    (case a12 => k_is)
    (case l12 => k_is)
    (case c12 => k_is)
    (case k12 => k_is)
    (case a13 => k_is)
    (case l13 => k_is)
    (case c13 => k_is)
    (case k13 => k_is)
    (case a14 => k_is)
    (case l14 => k_is)
    (case c14 => k_is)
    (case k14 => k_is)
    (case a15 => k_is)
    (case l15 => k_is)
    (case c15 => k_is)
    (case k15 => k_is)
    (case a16 => k_is)
    (case l16 => k_is)
    (case c16 => k_is)
    (case k16 => k_is)
    (case a17 => k_is)
    (case l17 => k_is)
    (case c17 => k_is)
    (case k17 => k_is)
    (case a18 => k_is)
    (case l18 => k_is)
    (case c18 => k_is)
    (case k18 => k_is)
    (case a19 => k_is)
    (case l19 => k_is)
    (case c19 => k_is)
    (case k19 => k_is)
    (case a20 => k_is)
    (case l20 => k_is)
    (case c20 => k_is)
    (case k20 => k_is)
    (case a21 => k_is)
    (case l21 => k_is)
    (case c21 => k_is)
    (case k21 => k_is)
    (case a22 => k_is)
    (case l22 => k_is)
    (case c22 => k_is)
    (case k22 => k_is)
    (case a23 => k_is)
    (case l23 => k_is)
    (case c23 => k_is)
    (case k23 => k_is)
    (case a24 => k_is)
    (case l24 => k_is)
    (case c24 => k_is)
    (case k24 => k_is)
    (case a25 => k_is)
    (case l25 => k_is)
    (case c25 => k_is)
    (case k25 => k_is)
    (case a26 => k_is)
    (case l26 => k_is)
    (case c26 => k_is)
    (case k26 => k_is)
    (case a27 => k_is)
    (case l27 => k_is)
    (case c27 => k_is)
    (case k27 => k_is)
    (case a28 => k_is)
    (case l28 => k_is)
    (case c28 => k_is)
    (case k28 => k_is)
    (case a29 => k_is)
    (case l29 => k_is)
    (case c29 => k_is)
    (case k29 => k_is)
    (case a30 => k_is)
    (case l30 => k_is)
    (case c30 => k_is)
    (case k30 => k_is)
    (case a31 => k_is)
    (case l31 => k_is)
    (case c31 => k_is)
    (case k31 => k_is)
    (case a32 => k_is)
    (case l32 => k_is)
    (case c32 => k_is)
    (case k32 => k_is)
    (case a33 => k_is)
    (case l33 => k_is)
    (case c33 => k_is)
    (case k33 => k_is)
    (case aL => k_is)
    (case lL => k_is)
    (case cL => k_is)
