import PyProof.Rows.All
import Wide.All
import OpenK.AllK
import Wide.FinOn
import HandS.ForMost
import HandS.Exc
import HandS.WordsExc
import HandS.IsInst
import HandS.Zip
import HandS.CallSlots
import HandS.Defaults
import HandS.Walk
import HandS.Evl
import HandS.ClsMeth
import HandS.Property
import HandS.More
import HandS.Flow
import HandS.Style
import HandS.FStr
import HandS.MakeKw
import HandS.Head0
import HandS.Head1
import HandS.Head2
import HandS.HeadEnd
import HandS.HeadHook1
import HandS.HeadHook2
import HandS.MakeKwOnly
import HandS.HeadHook3
import HandS.HeadHook4
import HandS.HeadNt
import PySem.Challenge.RW_pairbinds_k06_groups_told
set_option Elab.async false
set_option linter.all false
set_option maxRecDepth 100000
set_option maxHeartbeats 0
namespace Mx
open PySem L2
open Evl (Ex)

/-! ### data by value -/
inductive D where
  | non | bl (b : Bool) | int (i : Int) | str (s : List Nat)
  | lst (xs : List D) | tup (xs : List D)
  | dic (ks vs : List D) | obj (c : Nat) (fs : List D) | ref (n : Nat) | cls (c : Nat) | ty (n : String) | scr (ns : List Int)

structure Tb where
  K : PySem.W.Frag
  cad : Nat → Addr
  cfs : Nat → List Str
  adr : Nat → Addr
  fdt : Nat → FuncData

def RdL (P : Hp) (a : Addr) (vs : List V) : Prop := Rd P a (.lst vs) ∧ vs.length ≤ sizeLine
def StL (K : PySem.W.Frag) (P : Hp) (a : Addr) (vs : List V) : Prop := SqT K P a vs ∧ vs.length ≤ sizeLine
mutual
def Rep (T : Tb) (P : Hp) (θ : List Addr) : D → V → Prop
  | .non, v => v = .non
  | .bl b, v => v = .bl b
  | .int i, v => v = .int i
  | .str s, v => v = .str ⟨s.toArray⟩ ∧ s.length ≤ sizeLine
  | .lst xs, v => ∃ a vs, v = .ref a ∧ RdL P a vs ∧ RepL T P θ xs vs
  | .tup xs, v => ∃ a vs, v = .ref a ∧ StL T.K P a vs ∧ RepL T P θ xs vs
  | .dic _ _, _ => False
  | .obj c fs, v => ∃ a dx vs, v = .ref a ∧ P a = some (.ins (T.cad c) dx ((T.cfs c).zip vs)) ∧ (T.cfs c).length = vs.length ∧ RepL T P θ fs vs
  | .ref n, v => ∃ a, θ[n]? = some a ∧ v = .ref a
  | .cls c, v => v = .ref (T.cad c)
  | .ty n, v => v = .ty n
  | .scr ns, v => ∃ a, v = .ref a ∧ SqL T.K P a (ns.map V.int) ∧ ns.length ≤ sizeLine
def RepL (T : Tb) (P : Hp) (θ : List Addr) : List D → List V → Prop
  | [], vs => vs = []
  | d :: ds, vs => ∃ v r, vs = v :: r ∧ Rep T P θ d v ∧ RepL T P θ ds r
end

mutual
theorem Rep.mono {T : Tb} {P P' : Hp} {θ θ' : List Addr} (e : Ex P P') (t : θ <+: θ') : ∀ {d : D} {v : V}, Rep T P θ d v → Rep T P' θ' d v
  | .non, _, h => by rw [Rep] at h ⊢; exact h
  | .bl b, _, h => by rw [Rep] at h ⊢; exact h
  | .int i, _, h => by rw [Rep] at h ⊢; exact h
  | .str s, _, h => by rw [Rep] at h ⊢; exact h
  | .lst xs, _, h => by
    rw [Rep] at h ⊢
    obtain ⟨a, vs, h1, h2, h3⟩ := h
    exact ⟨a, vs, h1, ⟨Evl.ex_rd e h2.1, h2.2⟩, RepL.mono e t h3⟩
  | .tup xs, _, h => by
    rw [Rep] at h ⊢
    obtain ⟨a, vs, h1, h2, h3⟩ := h
    exact ⟨a, vs, h1, ⟨Evl.ex_t e h2.1, h2.2⟩, RepL.mono e t h3⟩
  | .dic _ _, _, h => by rw [Rep] at h; exact h.elim
  | .obj c fs, _, h => by
    rw [Rep] at h ⊢
    obtain ⟨a, dx, vs, h1, h2, hl, h3⟩ := h
    exact ⟨a, dx, vs, h1, e _ _ h2, hl, RepL.mono e t h3⟩
  | .ref n, _, h => by
    rw [Rep] at h ⊢
    obtain ⟨a, h1, h2⟩ := h
    obtain ⟨r, rfl⟩ := t
    refine ⟨a, ?_, h2⟩
    rw [List.getElem?_append_left (List.getElem?_eq_some_iff.mp h1).1]
    exact h1
  | .cls c, _, h => by rw [Rep] at h ⊢; exact h
  | .ty c, _, h => by rw [Rep] at h ⊢; exact h
  | .scr ns, _, h => by
    rw [Rep] at h ⊢
    obtain ⟨a, h1, h2, h3⟩ := h
    exact ⟨a, h1, Evl.ex_l e h2, h3⟩
theorem RepL.mono {T : Tb} {P P' : Hp} {θ θ' : List Addr} (e : Ex P P') (t : θ <+: θ') : ∀ {ds : List D} {vs : List V}, RepL T P θ ds vs → RepL T P' θ' ds vs
  | [], _, h => by rw [RepL] at h ⊢; exact h
  | d :: ds, _, h => by
    rw [RepL] at h ⊢
    obtain ⟨v, r, h1, h2, h3⟩ := h
    exact ⟨v, r, h1, Rep.mono e t h2, RepL.mono e t h3⟩
end

section
variable {T : Tb} {P P' F H H' : Hp} {θ θ' : List Addr}
theorem RepL.length : ∀ {ds : List D} {vs : List V}, RepL T P θ ds vs → ds.length = vs.length
  | [], _, h => by rw [RepL] at h; rw [h]; rfl
  | d :: ds, _, h => by
    rw [RepL] at h
    obtain ⟨v, r, h1, _, h3⟩ := h
    rw [h1, List.length_cons, List.length_cons, RepL.length h3]
theorem RepL.nil : RepL T P θ [] [] := by rw [RepL]
theorem RepL.cons {d : D} {ds : List D} {v : V} {vs : List V} (h : Rep T P θ d v) (t : RepL T P θ ds vs) : RepL T P θ (d :: ds) (v :: vs) := by
  rw [RepL]; exact ⟨v, vs, rfl, h, t⟩
theorem RepL.get : ∀ {ds : List D} {vs : List V} {i : Nat} {d : D}, RepL T P θ ds vs → ds[i]? = some d → ∃ v, vs[i]? = some v ∧ Rep T P θ d v
  | [], _, _, _, _, e => by simp at e
  | d :: ds, _, 0, _, h, e => by
    rw [RepL] at h
    obtain ⟨v, r, h1, h2, h3⟩ := h
    simp at e; subst e; subst h1
    exact ⟨v, rfl, h2⟩
  | d :: ds, _, i + 1, _, h, e => by
    rw [RepL] at h
    obtain ⟨v, r, h1, h2, h3⟩ := h
    subst h1
    obtain ⟨w, e1, e2⟩ := RepL.get (i := i) h3 (by simpa using e)
    exact ⟨w, by simpa using e1, e2⟩
theorem RepL.get' {ds : List D} {vs : List V} {i : Nat} {v : V} (h : RepL T P θ ds vs) (e : vs[i]? = some v) : ∃ d, ds[i]? = some d ∧ Rep T P θ d v := by
  have hl := h.length
  have hi : i < ds.length := by rw [hl]; exact (List.getElem?_eq_some_iff.mp e).1
  obtain ⟨w, e1, e2⟩ := h.get (i := i) (d := ds[i]) (by simp [hi])
  rw [e] at e1; cases e1
  exact ⟨ds[i], by simp [hi], e2⟩
theorem RepL.append : ∀ {ds es : List D} {vs ws : List V}, RepL T P θ ds vs → RepL T P θ es ws → RepL T P θ (ds ++ es) (vs ++ ws)
  | [], _, _, _, h, k => by rw [RepL] at h; subst h; exact k
  | d :: ds, es, _, ws, h, k => by
    rw [RepL] at h
    obtain ⟨v, r, h1, h2, h3⟩ := h
    subst h1
    exact RepL.cons h2 (RepL.append h3 k)
theorem RepL.one {d : D} {v : V} (h : Rep T P θ d v) : RepL T P θ [d] [v] := RepL.cons h RepL.nil
theorem RepL.take : ∀ {ds : List D} {vs : List V} (n : Nat), RepL T P θ ds vs → RepL T P θ (ds.take n) (vs.take n)
  | _, _, 0, _ => by simp [RepL]
  | [], _, n + 1, h => by rw [RepL] at h; subst h; simp [RepL]
  | d :: ds, _, n + 1, h => by
    rw [RepL] at h
    obtain ⟨v, r, h1, h2, h3⟩ := h
    subst h1
    exact RepL.cons h2 (RepL.take n h3)
theorem RepL.drop : ∀ {ds : List D} {vs : List V} (n : Nat), RepL T P θ ds vs → RepL T P θ (ds.drop n) (vs.drop n)
  | _, _, 0, h => h
  | [], _, n + 1, h => by rw [RepL] at h; subst h; simp [RepL]
  | d :: ds, _, n + 1, h => by
    rw [RepL] at h
    obtain ⟨v, r, h1, h2, h3⟩ := h
    subst h1
    exact RepL.drop n h3
theorem RepL.set : ∀ {ds : List D} {vs : List V} {d : D} {v : V} (n : Nat), RepL T P θ ds vs → Rep T P θ d v → RepL T P θ (ds.set n d) (vs.set n v)
  | [], _, _, _, n, h, _ => by rw [RepL] at h; subst h; simp [RepL]
  | d :: ds, _, _, _, 0, h, k => by
    rw [RepL] at h
    obtain ⟨v, r, h1, h2, h3⟩ := h
    subst h1
    exact RepL.cons k h3
  | d :: ds, _, _, _, n + 1, h, k => by
    rw [RepL] at h
    obtain ⟨v, r, h1, h2, h3⟩ := h
    subst h1
    exact RepL.cons h2 (RepL.set n h3 k)
theorem RepL.eraseIdx : ∀ {ds : List D} {vs : List V} (n : Nat), RepL T P θ ds vs → RepL T P θ (ds.eraseIdx n) (vs.eraseIdx n)
  | [], _, n, h => by rw [RepL] at h; subst h; simp [RepL]
  | d :: ds, _, 0, h => by
    rw [RepL] at h
    obtain ⟨v, r, h1, h2, h3⟩ := h
    subst h1
    exact h3
  | d :: ds, _, n + 1, h => by
    rw [RepL] at h
    obtain ⟨v, r, h1, h2, h3⟩ := h
    subst h1
    exact RepL.cons h2 (RepL.eraseIdx n h3)
end

/-! ### cells, slots, the state -/
inductive Cl where
  | lst (ds : List D) | dic (ks vs : List D) | obj (c : Nat) (fs : List (Str × D)) | gone
def CellIs (T : Tb) (P : Hp) (θ : List Addr) : Cl → HO → Prop
  | .lst ds, o => ∃ vs, (o = .lst vs ∧ vs.length ≤ sizeLine) ∧ RepL T P θ ds vs
  | .dic _ _, _ => False
  | .obj c fs, o => ∃ dx vs, (o = .ins (T.cad c) dx ((fs.map (·.1)).zip vs) ∧ fs.length ≤ 900) ∧ RepL T P θ (fs.map (·.2)) vs
  | .gone, _ => True
theorem CellIs.mono {T : Tb} {P P' : Hp} {θ θ' : List Addr} (e : Ex P P') (t : θ <+: θ') : ∀ {c : Cl} {o : HO}, CellIs T P θ c o → CellIs T P' θ' c o
  | .lst ds, o, ⟨vs, h1, h2⟩ => ⟨vs, h1, h2.mono e t⟩
  | .dic _ _, _, h => h.elim
  | .obj c fs, o, ⟨dx, vs, h1, h2⟩ => ⟨dx, vs, h1, h2.mono e t⟩
  | .gone, _, _ => trivial

inductive Sl where
  | un | sh (d : D) | ow (c : Cl) | lk (c : Cl)
abbrev En := List Sl
abbrev So := List Cl

def SlOk (T : Tb) (F G P : Hp) (θ : List Addr) (H : Hp) (x : Option (Option V)) : Sl → Prop
  | .un => True
  | .sh d => ∃ v, x = some (some v) ∧ Rep T P θ d v
  | .ow c => ∃ a o, x = some (some (.ref a)) ∧ H a = some o ∧ CellIs T P θ c o ∧ P a = none ∧ (F a = none ∧ G a = none) ∧ a ∉ θ
  | .lk c => ∃ a o, x = some (some (.ref a)) ∧ F a = some o ∧ CellIs T P θ c o

structure RC (T : Tb) (F G P : Hp) (θ : List Addr) (sto : So) (H : Hp) : Prop where
  pH : Ex P H
  fH : Ex F H
  gH : Ex G H
  pF : ∀ a o, P a = some o → F a = none ∧ G a = none
  fG : ∀ a o, F a = some o → G a = none
  len : sto.length = θ.length
  cel : ∀ (n : Nat) (c : Cl) (a : Addr), sto[n]? = some c → θ[n]? = some a → ∃ o, H a = some o ∧ CellIs T P θ c o
  sep : ∀ a ∈ θ, F a = none ∧ G a = none
  sepP : ∀ (n : Nat) (a : Addr) (c : Cl), θ[n]? = some a → sto[n]? = some c → c ≠ .gone → P a = none
  nd : θ.Nodup

structure Rel (T : Tb) (F G P : Hp) (θ : List Addr) (env : En) (sto : So) (σ : St) (H : Hp) : Prop where
  rc : RC T F G P θ sto H
  len : env.length = σ.length
  slot : ∀ (i : Nat) (s : Sl), env[i]? = some s → SlOk T F G P θ H σ[i]? s
  apart : ∀ (i j : Nat) (c d : Cl) (x : V), i ≠ j → env[i]? = some (.ow c) → env[j]? = some (.ow d) → σ[i]? = some (some x) → σ[j]? ≠ some (some x)

section
variable {T : Tb} {F G P P' : Hp} {θ θ' : List Addr} {env env' : En} {sto sto' : So} {σ σ' : St} {H H' : Hp}
theorem ex_none (e : Ex P H) {a : Addr} (h : H a = none) : P a = none := by
  cases q : P a with
  | none => rfl
  | some o => rw [e a o q] at h; cases h
theorem RC.cell_of (R : RC T F G P θ sto H) {a : Addr} (h : a ∈ θ) : ∃ o, H a = some o := by
  obtain ⟨n, hn⟩ := List.getElem?_of_mem h
  have hl : n < sto.length := by rw [R.len]; exact (List.getElem?_eq_some_iff.mp hn).1
  obtain ⟨o, ho, _⟩ := R.cel n sto[n] a (by simp [hl]) hn
  exact ⟨o, ho⟩
theorem RC.new (R : RC T F G P θ sto H) {p : Addr} (h : H p = none) : P p = none ∧ (F p = none ∧ G p = none) ∧ p ∉ θ :=
  ⟨ex_none R.pH h, ⟨ex_none R.fH h, ex_none R.gH h⟩, fun hm => by obtain ⟨o, ho⟩ := R.cell_of hm; rw [h] at ho; cases ho⟩
/-- H and P grow -/
theorem RC.grow (R : RC T F G P θ sto H) (eH : Ex H H') (eP : Ex P P') (pH : Ex P' H') (back : ∀ a o, P' a = some o → P a = some o ∨ H a = none) : RC T F G P' θ sto H' where
  pH := pH
  fH := R.fH.trans eH
  gH := R.gH.trans eH
  fG := R.fG
  pF := fun a o h => by
    rcases back a o h with q | q
    · exact R.pF a o q
    · exact ⟨ex_none R.fH q, ex_none R.gH q⟩
  len := R.len
  cel := fun n c a h1 h2 => by
    obtain ⟨o, ho, hc⟩ := R.cel n c a h1 h2
    exact ⟨o, eH a o ho, hc.mono eP (List.prefix_refl θ)⟩
  sep := R.sep
  sepP := fun n a c h1 h2 h3 => by
    have q1 := R.sepP n a c h1 h2 h3
    cases q : P' a with
    | none => rfl
    | some o =>
      rcases back a o q with z | z
      · rw [q1] at z; cases z
      · obtain ⟨o', ho⟩ := R.cell_of (List.mem_of_getElem? h1)
        rw [z] at ho; cases ho
  nd := R.nd
theorem Rel.grow (R : Rel T F G P θ env sto σ H) (eH : Ex H H') (eP : Ex P P') (pH : Ex P' H') (back : ∀ a o, P' a = some o → P a = some o ∨ H a = none) : Rel T F G P' θ env sto σ H' where
  rc := R.rc.grow eH eP pH back
  len := R.len
  slot := fun i s h => by
    have q := R.slot i s h
    cases s with
    | un => trivial
    | sh d => obtain ⟨v, h1, h2⟩ := q; exact ⟨v, h1, h2.mono eP (List.prefix_refl θ)⟩
    | ow c =>
      obtain ⟨a, o, h1, h2, h3, h4, h5, h6⟩ := q
      refine ⟨a, o, h1, eH a o h2, h3.mono eP (List.prefix_refl θ), ?_, h5, h6⟩
      cases q : P' a with
      | none => rfl
      | some o =>
        rcases back a o q with z | z
        · rw [h4] at z; cases z
        · rw [h2] at z; cases z
    | lk c => obtain ⟨a, o, h1, h2, h3⟩ := q; exact ⟨a, o, h1, h2, h3.mono eP (List.prefix_refl θ)⟩
  apart := R.apart
theorem ex_upd {p : Addr} {o : HO} (h : H p = none) : Ex H (upd H p o) := Evl.Ex.new h
theorem ex_upd2 {p : Addr} {o : HO} (e : Ex P H) : Ex (upd P p o) (upd H p o) := fun a u q => by
  by_cases ha : a = p
  · subst ha; rw [upd_same] at q ⊢; exact q
  · rw [upd_ne ha] at q ⊢; exact e a u q
/-- a new object that is kept for good -/
theorem Rel.alloc (R : Rel T F G P θ env sto σ H) {p : Addr} {o : HO} (h : H p = none) : Rel T F G (upd P p o) θ env sto σ (upd H p o) :=
  R.grow (ex_upd h) (ex_upd (R.rc.new h).1) (ex_upd2 R.rc.pH) fun a u q => by
    by_cases ha : a = p
    · subst ha; exact .inr h
    · rw [upd_ne ha] at q; exact .inl q
/-- a new object that is not kept -/
theorem Rel.more (R : Rel T F G P θ env sto σ H) {p : Addr} {o : HO} (h : H p = none) : Rel T F G P θ env sto σ (upd H p o) :=
  R.grow (ex_upd h) (Evl.Ex.refl P) (R.rc.pH.trans (ex_upd h)) fun _ _ q => .inl q
theorem Rel.ext (R : Rel T F G P θ env sto σ H) (e : Ex H H') : Rel T F G P θ env sto σ H' :=
  R.grow e (Evl.Ex.refl P) (R.rc.pH.trans e) fun _ _ q => .inl q
/-- a slot gets a value -/
theorem Rel.put (R : Rel T F G P θ env sto σ H) {i : Nat} {d : D} {v : V} (h : Rep T P θ d v) : Rel T F G P θ (env.set i (.sh d)) sto (σ.set i (some v)) H where
  rc := R.rc
  len := by rw [List.length_set, List.length_set]; exact R.len
  slot := fun j s e => by
    by_cases hj : i = j
    · subst hj
      by_cases hl : i < env.length
      · rw [List.getElem?_set_self hl] at e
        cases e
        exact ⟨v, by rw [List.getElem?_set_self (by rw [← R.len]; exact hl)], h⟩
      · rw [List.getElem?_eq_none (by rw [List.length_set]; omega)] at e; cases e
    · rw [List.getElem?_set_ne hj] at e ⊢
      exact R.slot j s e
  apart := fun j k c d' x hjk e1 e2 e3 => by
    have hj : i ≠ j := fun z => by
      subst z
      by_cases hl : i < env.length
      · rw [List.getElem?_set_self hl] at e1; cases e1
      · rw [List.getElem?_eq_none (by rw [List.length_set]; omega)] at e1; cases e1
    have hk : i ≠ k := fun z => by
      subst z
      by_cases hl : i < env.length
      · rw [List.getElem?_set_self hl] at e2; cases e2
      · rw [List.getElem?_eq_none (by rw [List.length_set]; omega)] at e2; cases e2
    rw [List.getElem?_set_ne hj] at e1 e3
    rw [List.getElem?_set_ne hk] at e2
    rw [List.getElem?_set_ne hk]
    exact R.apart j k c d' x hjk e1 e2 e3
/-- a slot is forgotten -/
theorem Rel.forget (R : Rel T F G P θ env sto σ H) {i : Nat} {x : Option V} : Rel T F G P θ (env.set i .un) sto (σ.set i x) H where
  rc := R.rc
  len := by rw [List.length_set, List.length_set]; exact R.len
  slot := fun j s e => by
    by_cases hj : i = j
    · subst hj
      by_cases hl : i < env.length
      · rw [List.getElem?_set_self hl] at e
        cases e
        trivial
      · rw [List.getElem?_eq_none (by rw [List.length_set]; omega)] at e; cases e
    · rw [List.getElem?_set_ne hj] at e ⊢
      exact R.slot j s e
  apart := fun j k c d' x hjk e1 e2 e3 => by
    have hj : i ≠ j := fun z => by
      subst z
      by_cases hl : i < env.length
      · rw [List.getElem?_set_self hl] at e1; cases e1
      · rw [List.getElem?_eq_none (by rw [List.length_set]; omega)] at e1; cases e1
    have hk : i ≠ k := fun z => by
      subst z
      by_cases hl : i < env.length
      · rw [List.getElem?_set_self hl] at e2; cases e2
      · rw [List.getElem?_eq_none (by rw [List.length_set]; omega)] at e2; cases e2
    rw [List.getElem?_set_ne hj] at e1 e3
    rw [List.getElem?_set_ne hk] at e2
    rw [List.getElem?_set_ne hk]
    exact R.apart j k c d' x hjk e1 e2 e3
end
section
variable {T : Tb} {F G P P' : Hp} {θ θ' : List Addr} {env env' : En} {sto sto' : So} {σ σ' : St} {H H' : Hp}
theorem set_of {α : Type} {l : List α} {i j : Nat} {x y : α} (h : (l.set i x)[j]? = some y) : (i = j ∧ y = x) ∨ (i ≠ j ∧ l[j]? = some y) := by
  by_cases hj : i = j
  · subst hj
    by_cases hl : i < l.length
    · rw [List.getElem?_set_self hl] at h; cases h; exact .inl ⟨rfl, rfl⟩
    · rw [List.getElem?_eq_none (by rw [List.length_set]; omega)] at h; cases h
  · rw [List.getElem?_set_ne hj] at h; exact .inr ⟨hj, h⟩
/-- the content of an owned slot changes -/
theorem Rel.setOw (R : Rel T F G P θ env sto σ H) {i : Nat} {c c' : Cl} {a : Addr} {o' : HO} (hi : env[i]? = some (.ow c)) (ha : σ[i]? = some (some (.ref a))) (hc : CellIs T P θ c' o') :
    Rel T F G P θ (env.set i (.ow c')) sto σ (upd H a o') := by
  obtain ⟨a', o, h1, h2, h3, h4, h5, h6⟩ := R.slot i _ hi
  rw [ha] at h1; cases h1
  have exP : ∀ {J : Hp}, Ex J H → J a = none → Ex J (upd H a o') := fun {J} e n b u q => by
    rw [upd_ne (ne_of_none q n)]; exact e b u q
  refine ⟨⟨exP R.rc.pH h4, exP R.rc.fH h5.1, exP R.rc.gH h5.2, R.rc.pF, R.rc.fG, R.rc.len, fun n c b q1 q2 => ?_, R.rc.sep, R.rc.sepP, R.rc.nd⟩, by rw [List.length_set]; exact R.len, fun j s e => ?_, fun j k c1 c2 x hjk e1 e2 e3 => ?_⟩
  · obtain ⟨u, hu, hc⟩ := R.rc.cel n c b q1 q2
    have nb : b ≠ a := fun z => h6 (z ▸ List.mem_of_getElem? q2)
    exact ⟨u, by rw [upd_ne nb]; exact hu, hc⟩
  · rcases set_of e with ⟨rfl, rfl⟩ | ⟨hj, e⟩
    · exact ⟨a, o', ha, upd_same, hc, h4, h5, h6⟩
    · have q := R.slot j s e
      cases s with
      | un => trivial
      | sh d => exact q
      | lk c => exact q
      | ow c2 =>
        obtain ⟨b, u, g1, g2, g3⟩ := q
        have nb : b ≠ a := fun z => R.apart i j c c2 (.ref a) hj hi e ha (z ▸ g1)
        exact ⟨b, u, g1, by rw [upd_ne nb]; exact g2, g3⟩
  · have back : ∀ {j : Nat} {c1 : Cl}, (env.set i (.ow c'))[j]? = some (.ow c1) → ∃ c2, env[j]? = some (.ow c2) := fun {j c1} e => by
      rcases set_of e with ⟨rfl, _⟩ | ⟨_, e⟩
      · exact ⟨_, hi⟩
      · exact ⟨_, e⟩
    obtain ⟨d1, g1⟩ := back e1
    obtain ⟨d2, g2⟩ := back e2
    exact R.apart j k d1 d2 x hjk g1 g2 e3
/-- a slot gets an owned cell -/
theorem Rel.putOw (R : Rel T F G P θ env sto σ H) {i : Nat} {c : Cl} {a : Addr} {o : HO} (ho : H a = some o) (hc : CellIs T P θ c o) (h4 : P a = none) (h5 : F a = none ∧ G a = none) (h6 : a ∉ θ)
    (h7 : ∀ (j : Nat) (c : Cl), env[j]? = some (.ow c) → σ[j]? ≠ some (some (.ref a))) : Rel T F G P θ (env.set i (.ow c)) sto (σ.set i (some (.ref a))) H := by
  refine ⟨R.rc, by rw [List.length_set, List.length_set]; exact R.len, fun j s e => ?_, fun j k c1 c2 x hjk e1 e2 e3 => ?_⟩
  · rcases set_of e with ⟨rfl, rfl⟩ | ⟨hj, e⟩
    · have hl : i < σ.length := by
        have := (List.getElem?_eq_some_iff.mp e).1
        rw [List.length_set, R.len] at this; exact this
      exact ⟨a, o, by rw [List.getElem?_set_self hl], ho, hc, h4, h5, h6⟩
    · rw [List.getElem?_set_ne hj]; exact R.slot j s e
  · rcases set_of e1 with ⟨rfl, z⟩ | ⟨hj, e1⟩
    · rcases set_of e3 with ⟨_, z3⟩ | ⟨hj, _⟩
      · have hk : i ≠ k := hjk
        rw [List.getElem?_set_ne hk] at e2 ⊢
        rw [← Option.some.inj z3.symm]
        exact h7 k c2 e2
      · exact absurd rfl hj
    · rw [List.getElem?_set_ne hj] at e3
      rcases set_of e2 with ⟨rfl, z⟩ | ⟨hk, e2⟩
      · intro e4
        rcases set_of e4 with ⟨_, z4⟩ | ⟨hk, _⟩
        · rw [Option.some.inj z4] at e3
          exact h7 j c1 e1 e3
        · exact absurd rfl hk
      · rw [List.getElem?_set_ne hk]
        exact R.apart j k c1 c2 x hjk e1 e2 e3
/-- a new cell goes to a slot -/
theorem Rel.putNew (R : Rel T F G P θ env sto σ H) {i : Nat} {c : Cl} {p : Addr} {o : HO} (h : H p = none) (hc : CellIs T P θ c o) : Rel T F G P θ (env.set i (.ow c)) sto (σ.set i (some (.ref p))) (upd H p o) := by
  obtain ⟨h1, h2, h3⟩ := R.rc.new h
  refine (R.more h).putOw upd_same hc h1 h2 h3 fun j c e q => ?_
  obtain ⟨b, u, g1, g2, _⟩ := R.slot j _ e
  rw [q] at g1; cases g1
  rw [h] at g2; cases g2
/-- an owned list is kept for good from now on -/
theorem Rel.freeze (R : Rel T F G P θ env sto σ H) {i : Nat} {ds : List D} (hi : env[i]? = some (.ow (.lst ds))) :
    ∃ a P', σ[i]? = some (some (.ref a)) ∧ Ex P P' ∧ Rel T F G P' θ (env.set i (.sh (.lst ds))) sto σ H ∧ Rep T P' θ (.lst ds) (.ref a) := by
  obtain ⟨a, o, h1, h2, h3, h4, h5, h6⟩ := R.slot i _ hi
  obtain ⟨vs, ⟨rfl, hz⟩, hv⟩ := h3
  have eP : Ex P (upd P a (.lst vs)) := ex_upd h4
  have rep : Rep T (upd P a (.lst vs)) θ (.lst ds) (.ref a) := by
    rw [Rep]; exact ⟨a, vs, rfl, ⟨Rd.of upd_same, hz⟩, hv.mono eP (List.prefix_refl θ)⟩
  refine ⟨a, upd P a (.lst vs), h1, eP, ?_, rep⟩
  refine ⟨⟨fun b u q => ?_, R.rc.fH, R.rc.gH, fun b u q => ?_, R.rc.fG, R.rc.len, fun n c b q1 q2 => ?_, R.rc.sep, fun n b c q1 q2 q3 => ?_, R.rc.nd⟩, by rw [List.length_set]; exact R.len, fun j s e => ?_, fun j k c1 c2 x hjk e1 e2 e3 => ?_⟩
  · by_cases hb : b = a
    · subst hb; rw [upd_same] at q; cases q; exact h2
    · rw [upd_ne hb] at q; exact R.rc.pH b u q
  · by_cases hb : b = a
    · subst hb; exact h5
    · rw [upd_ne hb] at q; exact R.rc.pF b u q
  · obtain ⟨u, hu, hc⟩ := R.rc.cel n c b q1 q2
    exact ⟨u, hu, hc.mono eP (List.prefix_refl θ)⟩
  · have nb : b ≠ a := fun z => h6 (z ▸ List.mem_of_getElem? q1)
    rw [upd_ne nb]; exact R.rc.sepP n b c q1 q2 q3
  · rcases set_of e with ⟨rfl, rfl⟩ | ⟨hj, e⟩
    · exact ⟨_, h1, rep⟩
    · have q := R.slot j s e
      cases s with
      | un => trivial
      | sh d => obtain ⟨v, g1, g2⟩ := q; exact ⟨v, g1, g2.mono eP (List.prefix_refl θ)⟩
      | lk c => obtain ⟨b, u, g1, g2, g3⟩ := q; exact ⟨b, u, g1, g2, g3.mono eP (List.prefix_refl θ)⟩
      | ow c2 =>
        obtain ⟨b, u, g1, g2, g3, g4, g5⟩ := q
        have nb : b ≠ a := fun z => R.apart i j _ c2 (.ref a) hj hi e h1 (z ▸ g1)
        exact ⟨b, u, g1, g2, g3.mono eP (List.prefix_refl θ), by rw [upd_ne nb]; exact g4, g5⟩
  · rcases set_of e1 with ⟨_, z⟩ | ⟨_, e1⟩
    · cases z
    · rcases set_of e2 with ⟨_, z⟩ | ⟨_, e2⟩
      · cases z
      · exact R.apart j k c1 c2 x hjk e1 e2 e3
/-- a cell of the store changes -/
theorem Rel.setSto (R : Rel T F G P θ env sto σ H) {n : Nat} {c0 c' : Cl} {a : Addr} {o' : HO} (ha : θ[n]? = some a) (h0 : sto[n]? = some c0) (hg : c0 ≠ .gone) (hc : CellIs T P θ c' o') : Rel T F G P θ env (sto.set n c') σ (upd H a o') := by
  have hm := List.mem_of_getElem? ha
  have h5 := R.rc.sep a hm
  have h4 := R.rc.sepP n a c0 ha h0 hg
  have exP : ∀ {J : Hp}, Ex J H → J a = none → Ex J (upd H a o') := fun {J} e n b u q => by
    rw [upd_ne (ne_of_none q n)]; exact e b u q
  refine ⟨⟨exP R.rc.pH h4, exP R.rc.fH h5.1, exP R.rc.gH h5.2, R.rc.pF, R.rc.fG, by rw [List.length_set]; exact R.rc.len, fun m c b q1 q2 => ?_, R.rc.sep, fun m b c q1 q2 q3 => ?_, R.rc.nd⟩, R.len, fun j s e => ?_, R.apart⟩
  · rcases set_of q1 with ⟨rfl, rfl⟩ | ⟨hm', q1⟩
    · rw [ha] at q2; cases q2
      exact ⟨o', upd_same, hc⟩
    · obtain ⟨u, hu, hc⟩ := R.rc.cel m c b q1 q2
      have nb : b ≠ a := fun z => hm' (nodup_ix' R.rc.nd ha (z ▸ q2))
      exact ⟨u, by rw [upd_ne nb]; exact hu, hc⟩
  · rcases set_of q2 with ⟨rfl, rfl⟩ | ⟨hm', q2⟩
    · rw [ha] at q1; cases q1; exact h4
    · exact R.rc.sepP m b c q1 q2 q3
  · have q := R.slot j s e
    cases s with
    | un => trivial
    | sh d => exact q
    | lk c => exact q
    | ow c2 =>
      obtain ⟨b, u, g1, g2, g3, g4, g5, g6⟩ := q
      have nb : b ≠ a := fun z => g6 (z ▸ hm)
      exact ⟨b, u, g1, by rw [upd_ne nb]; exact g2, g3, g4, g5, g6⟩
where
  nodup_ix' {N : List Addr} (hN : N.Nodup) {i j : Nat} {x : Addr} (a : N[i]? = some x) (b : N[j]? = some x) : i = j := by
    obtain ⟨h1, e1⟩ := List.getElem?_eq_some_iff.mp a
    obtain ⟨h2, e2⟩ := List.getElem?_eq_some_iff.mp b
    exact (List.getElem_inj hN).mp (e1.trans e2.symm)
/-- a new cell of the store -/
theorem Rel.newSto (R : Rel T F G P θ env sto σ H) {c : Cl} {p : Addr} {o : HO} (h : H p = none) (hc : CellIs T P θ c o) : Rel T F G P (θ ++ [p]) env (sto ++ [c]) σ (upd H p o) := by
  obtain ⟨h1, h2, h3⟩ := R.rc.new h
  have R1 := R.more (o := o) h
  have pre : θ <+: θ ++ [p] := List.prefix_append _ _
  refine ⟨⟨R1.rc.pH, R1.rc.fH, R1.rc.gH, R1.rc.pF, R1.rc.fG, by rw [List.length_append, List.length_append, R.rc.len] <;> rfl, fun m c b q1 q2 => ?_, fun b hb => ?_, fun m b c q1 q2 q3 => ?_, ?_⟩, R.len, fun j s e => ?_, R.apart⟩
  · by_cases hm : m < sto.length
    · rw [List.getElem?_append_left hm] at q1
      rw [List.getElem?_append_left (by rw [← R.rc.len]; exact hm)] at q2
      obtain ⟨u, hu, hc⟩ := R1.rc.cel m c b q1 q2
      exact ⟨u, hu, hc.mono (Evl.Ex.refl P) pre⟩
    · have hl := (List.getElem?_eq_some_iff.mp q1).1
      rw [List.length_append] at hl
      have hm' : m = sto.length := by simp at hl; omega
      subst hm'
      rw [List.getElem?_append_right (Nat.le_refl _)] at q1
      rw [R.rc.len, List.getElem?_append_right (Nat.le_refl _)] at q2
      simp at q1 q2
      subst q1 q2
      exact ⟨o, upd_same, hc.mono (Evl.Ex.refl P) pre⟩
  · rcases List.mem_append.mp hb with hb | hb
    · exact R.rc.sep b hb
    · simp at hb; subst hb; exact h2
  · by_cases hm : m < sto.length
    · rw [List.getElem?_append_left hm] at q2
      rw [List.getElem?_append_left (by rw [← R.rc.len]; exact hm)] at q1
      exact R.rc.sepP m b c q1 q2 q3
    · have hl := (List.getElem?_eq_some_iff.mp q2).1
      rw [List.length_append] at hl
      have hm' : m = sto.length := by simp at hl; omega
      subst hm'
      rw [R.rc.len, List.getElem?_append_right (Nat.le_refl _)] at q1
      simp at q1; subst q1
      exact h1
  · rw [List.nodup_append]
    refine ⟨R.rc.nd, by simp, fun x hx y hy z => ?_⟩
    simp at hy; subst hy; subst z; exact h3 hx
  · have q := R1.slot j s e
    cases s with
    | un => trivial
    | sh d => obtain ⟨v, g1, g2⟩ := q; exact ⟨v, g1, g2.mono (Evl.Ex.refl P) pre⟩
    | lk c => obtain ⟨b, u, g1, g2, g3⟩ := q; exact ⟨b, u, g1, g2, g3.mono (Evl.Ex.refl P) pre⟩
    | ow c2 =>
      obtain ⟨b, u, g1, g2, g3, g4, g5, g6⟩ := q
      refine ⟨b, u, g1, g2, g3.mono (Evl.Ex.refl P) pre, g4, g5, fun hb => ?_⟩
      rcases List.mem_append.mp hb with hb | hb
      · exact g6 hb
      · simp at hb; subst hb
        obtain ⟨b', u', g1', g2', _⟩ := R.slot j _ e
        rw [g1] at g1'; cases g1'
        rw [h] at g2'; cases g2'
end

/-! ### what a piece of code means: its result, or an error, or none -/
inductive Res (α : Type) where
  | ok (a : α) (e : En) (s : So) | er (x : D) (e : En) (s : So) | bad
def Res.bind {α β : Type} (r : Res α) (f : α → En → So → Res β) : Res β := match r with
  | .ok a e s => f a e s
  | .er x e s => .er x e s
  | .bad => .bad
abbrev DM (α : Type) := En → So → Res α
/-- an error as it lies behind a piece of code -/
def XRep (T : Tb) (P : Hp) (θ : List Addr) : D → Value → Option Addr → Hp → Prop
  | .obj c fs, cls, dx, H => cls = .ref (T.cad c) ∧ ∃ d vs, dx = some d ∧ H d = some (.xd ((T.cfs c).zip vs)) ∧ (T.cfs c).length = vs.length ∧ RepL T P θ fs vs
  | _, _, _, _ => False

section
variable (T : Tb) (W : WX) (F G P : Hp) (θ : List Addr) (σ : St)
def Pst {α : Type} (r : Res α) (Q : α → En → So → Hp → List Addr → Hp → Prop) : Prop := match r with
  | .ok a e s => ∀ P' θ' H', Ex P P' → θ <+: θ' → Rel T F G P' θ' e s σ H' → Q a e s P' θ' H'
  | .er x e s => ∀ cls dx P' θ' H', Ex P P' → θ <+: θ' → Rel T F G P' θ' e s σ H' → XRep T P' θ' x cls dx H' → W cls dx σ H'
  | .bad => False
end
/-- readings of meanings -/
def RdE (T : Tb) (W : WX) (m : DM D) : TE := fun σ H Q => ∃ F G P θ env sto, Rel T F G P θ env sto σ H ∧ Pst T W F G P θ σ (m env sto) fun d _ _ P' θ' H' => ∀ v, Rep T P' θ' d v → Q v H'
def RdT (T : Tb) (W : WX) (m : DM Bool) : TT := fun σ H Q => ∃ F G P θ env sto, Rel T F G P θ env sto σ H ∧ Pst T W F G P θ σ (m env sto) fun b _ _ P' θ' H' => Q b H'
def RdA (T : Tb) (W : WX) (m : DM (List D)) : TA := fun σ H Q => ∃ F G P θ env sto, Rel T F G P θ env sto σ H ∧ Pst T W F G P θ σ (m env sto) fun ds _ _ P' θ' H' => ∀ vs, RepL T P' θ' ds vs → Q vs H'
section
variable {T : Tb} {W : WX} {F G P P1 : Hp} {θ θ1 : List Addr} {σ : St}
theorem Pst.mono {α : Type} {r : Res α} {Q Q' : α → En → So → Hp → List Addr → Hp → Prop} (h : Pst T W F G P θ σ r Q) (e : Ex P P1) (t : θ <+: θ1)
    (q : ∀ a e s P' θ' H', Ex P1 P' → θ1 <+: θ' → Rel T F G P' θ' e s σ H' → Q a e s P' θ' H' → Q' a e s P' θ' H') : Pst T W F G P1 θ1 σ r Q' := by
  cases r with
  | ok a en s => exact fun P' θ' H' a1 a2 a3 => q _ _ _ _ _ _ a1 a2 a3 (h P' θ' H' (e.trans a1) (t.trans a2) a3)
  | er x en s => exact fun cls dx P' θ' H' a1 a2 a3 a4 => h cls dx P' θ' H' (e.trans a1) (t.trans a2) a3 a4
  | bad => exact h
theorem Pst.bind {α β : Type} {r : Res α} {f : α → En → So → Res β} {Q : β → En → So → Hp → List Addr → Hp → Prop} (h : Pst T W F G P θ σ (r.bind f) Q) :
    Pst T W F G P θ σ r fun a e s P' θ' H' => Pst T W F G P' θ' σ (f a e s) Q := by
  cases r with
  | ok a en s => exact fun P' θ' H' a1 a2 a3 => Pst.mono h a1 a2 fun _ _ _ _ _ _ _ _ _ q => q
  | er x en s => exact h
  | bad => exact h
end
section
variable {T : Tb} {F G P P' : Hp} {θ θ' : List Addr} {env env' : En} {sto sto' : So} {σ σ' : St} {H H' : Hp}
/-- an object of a comprehension's own -/
theorem Rel.gNew (R : Rel T F G P θ env sto σ H) {p : Addr} {o : HO} (h : H p = none) : Rel T F (upd G p o) P θ env sto σ (upd H p o) := by
  obtain ⟨h1, ⟨h2, h2'⟩, h3⟩ := R.rc.new h
  have R1 := R.more (o := o) h
  refine ⟨⟨R1.rc.pH, R1.rc.fH, ex_upd2 R.rc.gH, fun a u q => ?_, fun a u q => ?_, R.rc.len, R1.rc.cel, fun a ha => ?_, R.rc.sepP, R.rc.nd⟩, R.len, fun j s e => ?_, R.apart⟩
  · have na : a ≠ p := ne_of_none q h1
    rw [upd_ne na]; exact R.rc.pF a u q
  · have na : a ≠ p := ne_of_none q h2
    rw [upd_ne na]; exact R.rc.fG a u q
  · have na : a ≠ p := fun z => h3 (z ▸ ha)
    rw [upd_ne na]; exact R.rc.sep a ha
  · have q := R1.slot j s e
    cases s with
    | un => trivial
    | sh d => exact q
    | lk c => exact q
    | ow c2 =>
      obtain ⟨b, u, g1, g2, g3, g4, g5, g6⟩ := q
      obtain ⟨b', u', g1', g2', _⟩ := R.slot j _ e
      rw [g1] at g1'; cases g1'
      have nb : b ≠ p := ne_of_none g2' h
      exact ⟨b, u, g1, g2, g3, g4, by rw [upd_ne nb]; exact g5, g6⟩
theorem upd_other {H : Hp} {a b : Addr} {o : HO} (h : b ≠ a) : upd H a o b = H b := upd_ne h
theorem Rel.gUpd {p : Addr} {o o' : HO} (R : Rel T F (upd G p o) P θ env sto σ H) : Rel T F (upd G p o') P θ env sto σ (upd H p o') := by
  have hg : ∀ b, b ≠ p → upd G p o' b = upd G p o b := fun b nb => by rw [upd_ne nb, upd_ne nb]
  have nP : P p = none := by
    cases q : P p with
    | none => rfl
    | some u => have := (R.rc.pF p u q).2; rw [upd_same] at this; cases this
  have nF : F p = none := by
    cases q : F p with
    | none => rfl
    | some u => have := R.rc.fG p u q; rw [upd_same] at this; cases this
  have nT : p ∉ θ := fun hm => by have := (R.rc.sep p hm).2; rw [upd_same] at this; cases this
  have exP : ∀ {J : Hp}, Ex J H → J p = none → Ex J (upd H p o') := fun {J} e n b u q => by
    rw [upd_ne (ne_of_none q n)]; exact e b u q
  refine ⟨⟨exP R.rc.pH nP, exP R.rc.fH nF, fun a u q => ?_, fun a u q => ?_, fun a u q => ?_, R.rc.len, fun n c a q1 q2 => ?_, fun a ha => ?_, R.rc.sepP, R.rc.nd⟩, R.len, fun j s e => ?_, R.apart⟩
  · by_cases na : a = p
    · subst na; rw [upd_same] at q ⊢; exact q
    · rw [hg a na] at q; rw [upd_ne na]; exact R.rc.gH a u q
  · rw [hg a (ne_of_none q nP)]; exact R.rc.pF a u q
  · rw [hg a (ne_of_none q nF)]; exact R.rc.fG a u q
  · obtain ⟨u, hu, hc⟩ := R.rc.cel n c a q1 q2
    have na : a ≠ p := fun z => nT (z ▸ List.mem_of_getElem? q2)
    exact ⟨u, by rw [upd_ne na]; exact hu, hc⟩
  · rw [hg a (fun z => nT (z ▸ ha))]; exact R.rc.sep a ha
  · have q := R.slot j s e
    cases s with
    | un => trivial
    | sh d => exact q
    | lk c => exact q
    | ow c2 =>
      obtain ⟨b, u, g1, g2, g3, g4, g5, g6⟩ := q
      have nb : b ≠ p := fun z => by have := g5.2; rw [z, upd_same] at this; cases this
      exact ⟨b, u, g1, by rw [upd_ne nb]; exact g2, g3, g4, by rw [hg b nb]; exact g5, g6⟩
/-- what was a comprehension's own is so no more; it is owned by nobody -/
theorem Rel.gDrop {p : Addr} {o : HO} (R : Rel T F (upd G p o) P θ env sto σ H) (hG : G p = none) :
    Rel T F G P θ env sto σ H ∧ H p = some o ∧ P p = none ∧ (F p = none ∧ G p = none) ∧ p ∉ θ ∧ ∀ (j : Nat) (c : Cl), env[j]? = some (.ow c) → σ[j]? ≠ some (some (.ref p)) := by
  have hg : ∀ b, b ≠ p → G b = upd G p o b := fun b nb => by rw [upd_ne nb]
  have nP : P p = none := by
    cases q : P p with
    | none => rfl
    | some u => have := (R.rc.pF p u q).2; rw [upd_same] at this; cases this
  have nF : F p = none := by
    cases q : F p with
    | none => rfl
    | some u => have := R.rc.fG p u q; rw [upd_same] at this; cases this
  have nT : p ∉ θ := fun hm => by have := (R.rc.sep p hm).2; rw [upd_same] at this; cases this
  refine ⟨⟨⟨R.rc.pH, R.rc.fH, fun a u q => ?_, fun a u q => ?_, fun a u q => ?_, R.rc.len, R.rc.cel, fun a ha => ?_, R.rc.sepP, R.rc.nd⟩, R.len, fun j s e => ?_, R.apart⟩, R.rc.gH p o upd_same, nP, ⟨nF, hG⟩, nT, fun j c e q => ?_⟩
  · exact R.rc.gH a u (by rw [← hg a (ne_of_none q hG)]; exact q)
  · rw [hg a (ne_of_none q nP)]; exact R.rc.pF a u q
  · rw [hg a (ne_of_none q nF)]; exact R.rc.fG a u q
  · rw [hg a (fun z => nT (z ▸ ha))]; exact R.rc.sep a ha
  · have q := R.slot j s e
    cases s with
    | un => trivial
    | sh d => exact q
    | lk c => exact q
    | ow c2 =>
      obtain ⟨b, u, g1, g2, g3, g4, g5, g6⟩ := q
      have nb : b ≠ p := fun z => by have := g5.2; rw [z, upd_same] at this; cases this
      exact ⟨b, u, g1, g2, g3, g4, by rw [hg b nb]; exact g5, g6⟩
  · obtain ⟨b, u, g1, g2, g3, g4, g5, g6⟩ := R.slot j _ e
    rw [q] at g1; cases g1
    have := g5.2; rw [upd_same] at this; cases this
/-- an object that nobody owns is kept for good -/
theorem Rel.keep (R : Rel T F G P θ env sto σ H) {p : Addr} {o : HO} (h2 : H p = some o) (h4 : P p = none) (h5 : F p = none ∧ G p = none) (h6 : p ∉ θ)
    (h7 : ∀ (j : Nat) (c : Cl), env[j]? = some (.ow c) → σ[j]? ≠ some (some (.ref p))) : Rel T F G (upd P p o) θ env sto σ H := by
  have eP : Ex P (upd P p o) := ex_upd h4
  refine ⟨⟨fun b u q => ?_, R.rc.fH, R.rc.gH, fun b u q => ?_, R.rc.fG, R.rc.len, fun n c b q1 q2 => ?_, R.rc.sep, fun n b c q1 q2 q3 => ?_, R.rc.nd⟩, R.len, fun j s e => ?_, R.apart⟩
  · by_cases hb : b = p
    · subst hb; rw [upd_same] at q; cases q; exact h2
    · rw [upd_ne hb] at q; exact R.rc.pH b u q
  · by_cases hb : b = p
    · subst hb; exact h5
    · rw [upd_ne hb] at q; exact R.rc.pF b u q
  · obtain ⟨u, hu, hc⟩ := R.rc.cel n c b q1 q2
    exact ⟨u, hu, hc.mono eP (List.prefix_refl θ)⟩
  · have nb : b ≠ p := fun z => h6 (z ▸ List.mem_of_getElem? q1)
    rw [upd_ne nb]; exact R.rc.sepP n b c q1 q2 q3
  · have q := R.slot j s e
    cases s with
    | un => trivial
    | sh d => obtain ⟨v, g1, g2⟩ := q; exact ⟨v, g1, g2.mono eP (List.prefix_refl θ)⟩
    | lk c => obtain ⟨b, u, g1, g2, g3⟩ := q; exact ⟨b, u, g1, g2, g3.mono eP (List.prefix_refl θ)⟩
    | ow c2 =>
      obtain ⟨b, u, g1, g2, g3, g4, g5⟩ := q
      have nb : b ≠ p := fun z => h7 j c2 e (z ▸ g1)
      exact ⟨b, u, g1, g2, g3.mono eP (List.prefix_refl θ), by rw [upd_ne nb]; exact g4, g5⟩
/-- for a call: the owned cells become part of the frame -/
theorem Rel.toCall (R : Rel T F G P θ env sto σ H) : ∃ F', RC T F' G P θ sto H ∧ Ex F F' ∧ ∀ P' θ' sto' H', Ex P P' → θ <+: θ' → RC T F' G P' θ' sto' H' → Rel T F G P' θ' env sto' σ H' := by
  classical
  let F' : Hp := fun a => if (F a).isSome = true then F a else if ∃ (i : Nat) (c : Cl), env[i]? = some (.ow c) ∧ σ[i]? = some (some (.ref a)) then H a else none
  have fF : Ex F F' := fun a o h => by show (if (F a).isSome = true then F a else _) = _; rw [if_pos (by rw [h]; rfl)]; exact h
  have cas : ∀ a o, F' a = some o → F a = some o ∨ ∃ (i : Nat) (c : Cl), env[i]? = some (.ow c) ∧ σ[i]? = some (some (.ref a)) ∧ H a = some o := fun a o h => by
    have h : (if (F a).isSome = true then F a else if ∃ (i : Nat) (c : Cl), env[i]? = some (.ow c) ∧ σ[i]? = some (some (.ref a)) then H a else none) = some o := h
    split at h
    · exact .inl h
    · split at h
      · rename_i q; obtain ⟨i, c, q1, q2⟩ := q; exact .inr ⟨i, c, q1, q2, h⟩
      · cases h
  have own : ∀ {a : Addr} {i : Nat} {c : Cl}, env[i]? = some (.ow c) → σ[i]? = some (some (.ref a)) → P a = none ∧ (F a = none ∧ G a = none) ∧ a ∉ θ := fun {a i c} e q => by
    obtain ⟨b, u, g1, g2, g3, g4, g5, g6⟩ := R.slot i _ e
    rw [q] at g1; cases g1
    exact ⟨g4, g5, g6⟩
  have ow' : ∀ {a : Addr} {i : Nat} {c : Cl}, env[i]? = some (.ow c) → σ[i]? = some (some (.ref a)) → F' a = H a := fun {a i c} e q => by
    show (if (F a).isSome = true then F a else if ∃ (i : Nat) (c : Cl), env[i]? = some (.ow c) ∧ σ[i]? = some (some (.ref a)) then H a else none) = H a
    rw [if_neg (by rw [(own e q).2.1.1]; simp), if_pos ⟨i, c, e, q⟩]
  refine ⟨F', ⟨R.rc.pH, fun a o h => ?_, R.rc.gH, fun a o h => ⟨?_, (R.rc.pF a o h).2⟩, fun a o h => ?_, R.rc.len, R.rc.cel, fun a ha => ⟨?_, (R.rc.sep a ha).2⟩, R.rc.sepP, R.rc.nd⟩, fF, fun P' θ' sto' H' eP et R' => ?_⟩
  · rcases cas a o h with q | ⟨_, _, _, _, q⟩
    · exact R.rc.fH a o q
    · exact q
  · cases q : F' a with
    | none => rfl
    | some u =>
      rcases cas a u q with z | ⟨i, c, z1, z2, z3⟩
      · rw [(R.rc.pF a o h).1] at z; cases z
      · rw [(own z1 z2).1] at h; cases h
  · rcases cas a o h with z | ⟨i, c, z1, z2, z3⟩
    · exact R.rc.fG a o z
    · exact (own z1 z2).2.1.2
  · cases q : F' a with
    | none => rfl
    | some u =>
      rcases cas a u q with z | ⟨i, c, z1, z2, z3⟩
      · rw [(R.rc.sep a ha).1] at z; cases z
      · exact absurd ha (own z1 z2).2.2
  · refine ⟨⟨R'.pH, fF.trans R'.fH, R'.gH, fun a o h => ⟨ex_none fF (R'.pF a o h).1, (R'.pF a o h).2⟩, R.rc.fG, R'.len, R'.cel, fun a ha => ⟨ex_none fF (R'.sep a ha).1, (R'.sep a ha).2⟩, R'.sepP, R'.nd⟩, R.len, fun j s e => ?_, R.apart⟩
    have q := R.slot j s e
    cases s with
    | un => trivial
    | sh d => obtain ⟨v, g1, g2⟩ := q; exact ⟨v, g1, g2.mono eP et⟩
    | lk c => obtain ⟨b, u, g1, g2, g3⟩ := q; exact ⟨b, u, g1, g2, g3.mono eP et⟩
    | ow c2 =>
      obtain ⟨b, u, g1, g2, g3, g4, g5, g6⟩ := q
      have hb : F' b = some u := (ow' e g1).trans g2
      refine ⟨b, u, g1, R'.fH b u hb, g3.mono eP et, ?_, g5, fun hm => ?_⟩
      · cases q : P' b with
        | none => rfl
        | some z => have := (R'.pF b z q).1; rw [hb] at this; cases this
      · have := (R'.sep b hm).1; rw [hb] at this; cases this
/-- a cell of the store is kept for good from now on -/
theorem Rel.freezeSto (R : Rel T F G P θ env sto σ H) {n : Nat} {c : Cl} {a : Addr} {o : HO} (ha : θ[n]? = some a) (hs : sto[n]? = some c) (hg : c ≠ .gone) (ho : H a = some o) :
    Ex P (upd P a o) ∧ Rel T F G (upd P a o) θ env (sto.set n .gone) σ H := by
  have hm := List.mem_of_getElem? ha
  have h4 := R.rc.sepP n a c ha hs hg
  have h5 := R.rc.sep a hm
  have eP : Ex P (upd P a o) := ex_upd h4
  refine ⟨eP, ⟨fun b u q => ?_, R.rc.fH, R.rc.gH, fun b u q => ?_, R.rc.fG, by rw [List.length_set]; exact R.rc.len, fun m c b q1 q2 => ?_, R.rc.sep, fun m b c q1 q2 q3 => ?_, R.rc.nd⟩, R.len, fun j s e => ?_, R.apart⟩
  · by_cases hb : b = a
    · subst hb; rw [upd_same] at q; cases q; exact ho
    · rw [upd_ne hb] at q; exact R.rc.pH b u q
  · by_cases hb : b = a
    · subst hb; exact h5
    · rw [upd_ne hb] at q; exact R.rc.pF b u q
  · rcases set_of q1 with ⟨rfl, rfl⟩ | ⟨_, q1⟩
    · rw [ha] at q2; cases q2
      exact ⟨o, ho, trivial⟩
    · obtain ⟨u, hu, hc⟩ := R.rc.cel m c b q1 q2
      exact ⟨u, hu, hc.mono eP (List.prefix_refl θ)⟩
  · rcases set_of q2 with ⟨rfl, rfl⟩ | ⟨hm', q2⟩
    · exact absurd rfl q3
    · have nb : b ≠ a := fun z => hm' ((List.getElem_inj R.rc.nd).mp ((List.getElem?_eq_some_iff.mp ha).2.trans (List.getElem?_eq_some_iff.mp (z ▸ q1)).2.symm))
      rw [upd_ne nb]; exact R.rc.sepP m b c q1 q2 q3
  · have q := R.slot j s e
    cases s with
    | un => trivial
    | sh d => obtain ⟨v, g1, g2⟩ := q; exact ⟨v, g1, g2.mono eP (List.prefix_refl θ)⟩
    | lk c => obtain ⟨b, u, g1, g2, g3⟩ := q; exact ⟨b, u, g1, g2, g3.mono eP (List.prefix_refl θ)⟩
    | ow c2 =>
      obtain ⟨b, u, g1, g2, g3, g4, g5, g6⟩ := q
      have nb : b ≠ a := fun z => g6 (z ▸ hm)
      exact ⟨b, u, g1, g2, g3.mono eP (List.prefix_refl θ), by rw [upd_ne nb]; exact g4, g5, g6⟩
end
end Mx

namespace Mx
open PySem L2
open Evl (Ex)

inductive Bop where
  | add | sub | mul | mod | fdiv | pow
  deriving DecidableEq
inductive Cop where
  | eq | ne | lt | le | gt | ge | inn | nin
  deriving DecidableEq
inductive Bi where
  | len | abs | int | list | tuple | all | any | min | max
  deriving DecidableEq
inductive Mt where
  | join | split
  deriving DecidableEq
/-- how a parameter is bound: by the n-th written argument (the positional ones first), or by a default -/
inductive Bd where
  | arg (n : Nat) | dft (d : D)
inductive Tg where
  | one (i : Nat) | tup (is : List Nat)

/-- strict operators, by their kind -/
inductive Op where
  | neg | fld (f : Str) | prop (c : Nat) (f : Str) | meth (c : Nat) (m : Str) (bd : List Bd)
  | oeq (c : Nat) (ne : Bool) | oin (c : Nat) (ne : Bool) | olen (c : Nat) | orep (c : Nat) | isc (c : Nat)
  | mk (c : Nat) (bd : List Bd) | stat (c : Nat) (m : Str) (bd : List Bd) | ccon (c : Nat) (f : Str)
  | gdic (k : Nat)
mutual
inductive EX where
  | c (d : D) | var (i : Nat) | glo (k : Nat)
  | lst (es : ES) | tup (es : ES) | newl (es : ES)
  | bin (op : Bop) (a b : EX) | cmp (op : Cop) (a b : EX) | chn (p q : Cop) (a b c : EX) | isn (neg : Bool) (a : EX)
  | and (a b : EX) | or (a b : EX) | not (a : EX) | ife (t a b : EX)
  | call (f : Nat) (es ks : ES) (bd : List Bd)
  | bi (b : Bi) (es : ES) | mt (m : Mt) (o : EX) (es : ES)
  | sub (a b : EX) | slc (a : EX) (lo hi : EO)
  | isi (a : EX) (t : String) | isiT (a : EX) (ts : List String)
  | lc (own : List Nat) (it : IT) (tg : Tg) (ifs : ES) (e : EX)
  | op1 (o : Op) (a : EX) (es ks : ES) | opn (o : Op) (es ks : ES) | fst (es : ES)
inductive ES where
  | nil | cons (e : EX) (es : ES)
inductive EO where
  | no | yes (e : EX)
inductive IT where
  | it (e : EX) | rng (e : EX) | rng2 (a b : EX) | zip (a b : EX) | enm (e : EX)
end

def ES.len : ES → Nat
  | .nil => 0
  | .cons _ es => es.len + 1
inductive ST where
  | asg (i : Nat) (e : EX) | asgo (i : Nat) (e : EX) | app (i : Nat) (e : EX) | put (o i e : EX) | ex (e : EX) | ret (e : EX) | retN | pass | brk | cnt
  | sfld (o : EX) (f : Str) (e : EX) | tasg (ts : List Nat) (es : ES) | uasg (ts : List Nat) (e : EX)
  | iff (t : EX) (a b : List ST) | for_ (tg : Tg) (it : IT) (b : List ST) | whl (n : Nat) (t : EX) (b : List ST)
  | never

/-! ### the meaning of operations on data -/
abbrev LIM : Nat := 16777216
def bopD : Bop → D → D → Option D
  | .add, .int i, .int j => some (.int (i + j))
  | .add, .str s, .str t => if s.length + t.length ≤ LIM then some (.str (s ++ t)) else none
  | .add, .lst s, .lst t => if s.length + t.length ≤ LIM then some (.lst (s ++ t)) else none
  | .sub, .int i, .int j => some (.int (i - j))
  | .mul, .int i, .int j => if (-(2 ^ 64) < i ∧ i < 2 ^ 64) ∨ (-(2 ^ 64) < j ∧ j < 2 ^ 64) then some (.int (i * j)) else none
  | .mul, .str s, .int j => if 0 ≤ j ∧ j < 16777216 ∧ s.length * j.toNat ≤ LIM then some (.str (List.replicate j.toNat s).flatten) else none
  | .mod, .int i, .int j => if 0 < j then some (.int (i % j)) else none
  | .fdiv, .int i, .int j => if 0 < j ∧ j < 1073741824 then some (.int (i / j)) else none
  | .pow, .int i, .int j => if 0 ≤ j ∧ j ≤ 1000000 ∧ i.natAbs < 2 ^ 64 then some (.int (i ^ j.toNat)) else none
  | _, _, _ => none
def flatD : D → Bool
  | .non => true | .bl _ => true | .int _ => true | .str _ => true
  | _ => false
/-- == of flat data -/
def eqF : D → D → Bool
  | .non, .non => true
  | .bl a, .bl b => a == b
  | .bl a, .int b => (if a then 1 else 0) == b
  | .int a, .bl b => a == (if b then 1 else 0)
  | .int a, .int b => a == b
  | .str a, .str b => a == b
  | _, _ => false
/-- == as the hand layer's rule for scalars has it -/
def eqS : D → D → Option Bool
  | .non, .non => some true | .non, .int _ => some false | .int _, .non => some false | .non, .bl _ => some false | .bl _, .non => some false | .non, .str _ => some false | .str _, .non => some false
  | .int i, .int j => some (i == j) | .bl a, .bl b => some (a == b) | .str s, .str t => some (s == t)
  | .int _, .str _ => some false | .str _, .int _ => some false | .bl _, .str _ => some false | .str _, .bl _ => some false
  | _, _ => none
def inD : D → D → Option Bool
  | .str [c], .str t => some (t.contains c)
  | d, .lst xs => if flatD d && xs.all flatD then some (xs.any fun y => eqF y d) else none
  | d, .tup xs => if flatD d && xs.all flatD then some (xs.any fun y => eqF y d) else none
  | _, _ => none
def copD : Cop → D → D → Option Bool
  | .eq, a, b => eqS a b
  | .ne, a, b => (eqS a b).map not
  | .lt, .int i, .int j => some (decide (i < j))
  | .le, .int i, .int j => some (decide (i ≤ j))
  | .gt, .int i, .int j => some (decide (j < i))
  | .ge, .int i, .int j => some (decide (j ≤ i))
  | .inn, a, b => inD a b
  | .nin, a, b => (inD a b).map not
  | _, _, _ => none
def truD : D → Option Bool
  | .non => some false
  | .bl b => some b
  | .int i => some (i != 0)
  | .str s => some (!s.isEmpty)
  | .lst xs => some (!xs.isEmpty)
  | .tup xs => some (!xs.isEmpty)
  | _ => none
def blsD : List D → Option (List Bool)
  | [] => some []
  | .bl b :: r => (blsD r).map (b :: ·)
  | _ :: _ => none
def strsD : List D → Option (List (List Nat))
  | [] => some []
  | .str s :: r => (strsD r).map (s :: ·)
  | _ :: _ => none
def lenD : List D → Option D
  | [.str s] => some (.int s.length)
  | [.lst xs] => some (.int xs.length)
  | [.tup xs] => some (.int xs.length)
  | _ => none
def absD : List D → Option D
  | [.int i] => some (.int (if i < 0 then -i else i))
  | _ => none
def intD : List D → Option D
  | [.int i] => some (.int i)
  | [.bl b] => some (.int (if b then 1 else 0))
  | _ => none
def listD : List D → Option D
  | [.lst xs] => some (.lst xs)
  | [.tup xs] => some (.lst xs)
  | _ => none
def tupleD : List D → Option D
  | [.lst xs] => some (.tup xs)
  | [.tup xs] => some (.tup xs)
  | _ => none
def allD : List D → Option D
  | [.lst xs] => (blsD xs).map fun bs => .bl (bs.all id)
  | _ => none
def anyD : List D → Option D
  | [.lst xs] => (blsD xs).map fun bs => .bl (bs.any id)
  | _ => none
def minD : List D → Option D
  | [.int i, .int j] => some (.int (if j < i then j else i))
  | _ => none
def maxD : List D → Option D
  | [.int i, .int j] => some (.int (if j > i then j else i))
  | _ => none
def biD (sto : So) : Bi → List D → Option D
  | .len => lenD
  | .abs => absD
  | .int => intD
  | .list => listD
  | .tuple => tupleD
  | .all => allD
  | .any => anyD
  | .min => minD
  | .max => maxD
def joinD : D → List D → Option D
  | .str s, [.lst xs] => (strsD xs).bind fun ss => if (ss.map List.length).sum + ss.length * s.length ≤ LIM then some (.str (TL.joinL s ss)) else none
  | _, _ => none
def splitD : D → List D → Option D
  | .str s, [.str [c]] => if s.length + 2 ≤ LIM ∧ c < 256 then some (.lst ((TL.spl [c] 0 [] s).map .str)) else none
  | _, _ => none
def mtD : Mt → D → List D → Option D
  | .join => joinD
  | .split => splitD
/-- the content that is read at a place: a list by value, or a cell of the store -/
def seqD (sto : So) : D → Option (List D)
  | .lst xs => some xs
  | .tup xs => some xs
  | .ref n => match sto[n]? with
    | some (.lst xs) => some xs
    | _ => none
  | _ => none
def subD (sto : So) : D → D → Option D
  | .str s, .int i => (atI s i).map fun c => .str [c]
  | d, .int i => (seqD sto d).bind fun xs => atI xs i
  | _, _ => none
def cutD {α : Type} (xs : List α) (lo hi : Option Int) : List α := (xs.drop (HT.sIx xs.length 0 lo)).take (HT.sIx xs.length xs.length hi - HT.sIx xs.length 0 lo)
def slcD (d : D) (lo hi : Option Int) : Option D := match d with
  | .str s => some (.str (cutD s lo hi))
  | .lst xs => some (.lst (cutD xs lo hi))
  | .scr ns => some (.lst (cutD (ns.map .int) lo hi))
  | _ => none
def tyD : D → Option String
  | .non => some "NoneType" | .bl _ => some "bool" | .int _ => some "int" | .str _ => some "str" | .lst _ => some "list" | .tup _ => some "tuple"
  | _ => none
def isiD (t : String) (d : D) : Option Bool := (tyD d).bind fun a => kitB a t
def isiTD : List String → D → Option Bool
  | [], _ => some false
  | t :: ts, d => (isiD t d).bind fun b => if b then some true else isiTD ts d
def itemsD : D → Option (List D)
  | .lst xs => some xs
  | .tup xs => some xs
  | .str s => some (s.map fun c => .str [c])
  | _ => none
def rngD (lo : Int) (n : Nat) : List D := (List.range n).map fun (i : Nat) => .int (lo + (i : Int))
def zipD : D → D → Option (List D)
  | .lst xs, .lst ys => some ((xs.zip ys).map fun p => .tup [p.1, p.2])
  | .tup xs, .tup ys => some ((xs.zip ys).map fun p => .tup [p.1, p.2])
  | _, _ => none
def enmD : D → Option (List D)
  | .lst xs => some ((List.range xs.length).zip xs |>.map fun p => .tup [.int p.1, p.2])
  | _ => none

def isStrD : D → Bool
  | .str _ => true
  | _ => false
def isnB (neg : Bool) : D → Bool
  | .non => !neg
  | _ => neg
/-! ### the meaning of code -/
/-- a call's end -/
inductive Rc where
  | ok (d : D) (s : So) | er (x : D) (s : So) | bad
/-- an own class: its attributes, its defs by their numbers -/
structure Kl where
  name : Str
  fields : List Str
  init : Nat
  meths : List (Str × Nat)
  props : List (Str × Nat)
  stats : List (Str × Nat)
  cons : List (Str × D)
/-- what stands still: constants, classes, dicts of the module -/
structure Gn where
  glo : Nat → D
  kl : List Kl
  gd : List (Str × List (List Nat × D))
structure Pg extends Gn where
  cl : Nat → List D → So → Rc
  cl1 : Nat → List D → So → Rc
def opt {α : Type} (o : Option α) (e : En) (s : So) : Res α := match o with
  | some d => .ok d e s
  | none => .bad
def bdD (ds : List D) : List Bd → Option (List D)
  | [] => some []
  | .arg n :: r => (ds[n]?).bind fun d => (bdD ds r).map (d :: ·)
  | .dft d :: r => (bdD ds r).map (d :: ·)
def callD (p : Pg) (f : Nat) (ds : List D) (e : En) (s : So) : Res D := match p.cl f ds s with
  | .ok d s' => .ok d e s'
  | .er x s' => .er x e s'
  | .bad => .bad
/-! ### strict operators -/
def ixOf (f : Str) : List Str → Nat
  | [] => 0
  | g :: r => if g = f then 0 else ixOf f r + 1
def fldD (p : Pg) (f : Str) (s : So) : D → Option D
  | .obj c fs => match p.kl[c]? with
    | some k => if k.fields.contains f then fs[ixOf f k.fields]? else none
    | none => none
  | .ref n => match s[n]? with
    | some (.obj c fs) => (match p.kl[c]? with
      | some k => if k.fields.contains f then fs.lookup f else none
      | none => none)
    | _ => none
  | _ => none
/-- an instance of the class c -/
def isOb (p : Pg) (c : Nat) (s : So) : D → Bool
  | .obj c' _ => c' == c
  | .ref n => match s[n]?, p.kl[c]? with
    | some (.obj c' fs), some k => c' == c && fs.all (fun q => k.fields.contains q.1)
    | _, _ => false
  | _ => false
def grdD (p : Pg) (o : Op) (x : D) (s : So) : Bool := match o with
  | .meth c _ _ => isOb p c s x
  | _ => true
def mthD (p : Pg) (c : Nat) (m : Str) : Option Nat := (p.kl[c]?).bind fun k => k.meths.lookup m
def numF : D → Option (List Nat)
  | .str s => some s
  | .int i => if i.natAbs.log2 < 1920 then some (Str.ofString (toString i)).cps.toList else none
  | _ => none
def isPl : D → Bool
  | .non => true | .bl _ => true | .int _ => true | .str _ => true | .lst _ => true | .tup _ => true
  | _ => false
/-- the class of a value against an own class -/
def iscD (p : Pg) (c : Nat) : D → Option Bool
  | .obj c' _ => if (p.kl[c']?).isSome then some (c' == c) else none
  | d => if isPl d then some false else none
def callB (p : Pg) (f : Option Nat) (ds : List D) (e : En) (s : So) : Res D := match f with
  | some f => callD p f ds e s
  | none => .bad
/-- a call that a built-in makes: one deeper -/
def callL (p : Pg) (f : Nat) (ds : List D) (e : En) (s : So) : Res D := match p.cl1 f ds s with
  | .ok d s' => .ok d e s'
  | .er x s' => .er x e s'
  | .bad => .bad
def callLB (p : Pg) (f : Option Nat) (ds : List D) (e : En) (s : So) : Res D := match f with
  | some f => callL p f ds e s
  | none => .bad
def noEr (r : Res D) : Res D := match r with
  | .ok d e s => .ok d e s
  | _ => .bad
def blRes (ne : Bool) (r : Res D) : Res D := r.bind fun d e s => match d with
  | .bl k => .ok (.bl (k != ne)) e s
  | _ => .bad
def intRes (r : Res D) : Res D := r.bind fun d e s => match d with
  | .int k => if 0 ≤ k ∧ k < 2 ^ 62 then .ok (.int k) e s else .bad
  | _ => .bad
def strRes (r : Res D) : Res D := r.bind fun d e s => match d with
  | .str k => .ok (.str k) e s
  | _ => .bad
/-- a new instance: made, then kept for good -/
def mkRes (k : Kl) (c n : Nat) (r : Res D) : Res D := r.bind fun d e s => match d, s[n]? with
  | .non, some (.obj c' fs) => if c' = c ∧ fs.map (·.1) = k.fields then .ok (.obj c (fs.map (·.2))) e (s.set n .gone) else .bad
  | _, _ => .bad
def opD (p : Pg) (o : Op) (ds zs : List D) (e : En) (s : So) : Res D := match o, ds with
  | .neg, [.int i] => .ok (.int (-i)) e s
  | .fld f, [x] => opt (fldD p f s x) e s
  | .prop c f, [x] => if isOb p c s x then noEr (callLB p ((p.kl[c]?).bind fun k => k.props.lookup f) [x] e s) else .bad
  | .meth c m bd, ds => (opt (bdD (ds ++ zs) bd) e s).bind fun as e s => callB p (mthD p c m) as e s
  | .oeq c ne, [x, y] => if isOb p c s x && (isPl y || isOb p c s y) then blRes ne ((if ne then callLB else callB) p (mthD p c "__eq__") [x, y] e s) else .bad
  | .oin c ne, [x, y] => if isOb p c s y then blRes ne (callB p (mthD p c "__contains__") [y, x] e s) else .bad
  | .olen c, [x] => if isOb p c s x then intRes (callLB p (mthD p c "__len__") [x] e s) else .bad
  | .orep c, [x] => if isOb p c s x then strRes (callLB p (mthD p c "__repr__") [x] e s) else .bad
  | .isc c, [x] => opt ((iscD p c x).map .bl) e s
  | .mk c bd, ds => match p.kl[c]? with
    | some k => (opt (bdD (.ref s.length :: (ds ++ zs)) bd) e s).bind fun as e s => mkRes k c s.length (callL p k.init as e (s ++ [.obj c []]))
    | none => .bad
  | .stat c m bd, ds => (opt (bdD (ds ++ zs) bd) e s).bind fun as e s => callB p ((p.kl[c]?).bind fun k => k.stats.lookup m) as e s
  | .ccon c f, [] => opt ((p.kl[c]?).bind fun k => k.cons.lookup f) e s
  | .gdic k, [.str z] => opt ((p.gd[k]?).bind fun t => t.2.lookup z) e s
  | _, _ => .bad
/-- a truth value alone -/
def blOnly (r : Res D) : Res Bool := r.bind fun d e s => match d with
  | .bl k => .ok k e s
  | _ => .bad
/-- a slot that a comprehension may hide -/
def hid : Sl → Bool
  | .un => true | .sh _ => true | _ => false
def wipeD (env : En) : List Nat → En
  | [] => env
  | v :: vs => (wipeD env vs).set v .un
def backD (old env : En) : List Nat → En
  | [] => env
  | v :: vs => (backD old env vs).set v (old.getD v .un)
def tgD (env : En) : Tg → D → Option En
  | .one i, d => some (env.set i (.sh d))
  | .tup is, .tup ds => if is.length = ds.length then some ((is.zip ds).foldl (fun e p => e.set p.1 (.sh p.2)) env) else none
  | _, _ => none
def lcGo (own : List Nat) (tg : Tg) (t : DM Bool) (m : DM D) : List D → List D → DM (List D)
  | [], acc => fun e s => .ok acc (wipeD e own) s
  | x :: xs, acc => fun e s => match tgD (wipeD e own) tg x with
    | none => .bad
    | some e1 => (t e1 s).bind fun b e2 s2 => if b then (m e2 s2).bind fun d e3 s3 => lcGo own tg t m xs (acc ++ [d]) e3 s3 else lcGo own tg t m xs acc e2 s2
def lcD (own : List Nat) (items : DM (List D)) (tg : Tg) (t : DM Bool) (m : DM D) : DM (List D) := fun e s => (items e s).bind fun ds e1 s1 =>
  if own.all (fun v => (e1[v]?).all hid) then
    match lcGo own tg t m ds [] e1 s1 with
    | .ok acc e2 s2 => .ok acc (backD e1 e2 own) s2
    | _ => .bad
  else .bad

def varD (i : Nat) : DM D := fun e s => match e[i]? with
    | some (.sh d) => .ok d e s
    | some (.ow (.lst ds)) => .ok (.lst ds) (e.set i (.sh (.lst ds))) s
    | _ => .bad
mutual
def denE (p : Pg) : EX → DM D
  | .c d => fun e s => .ok d e s
  | .var i => fun e s => varD i e s
  | .glo k => fun e s => .ok (p.glo k) e s
  | .lst es => fun e s => (denES p es e s).bind fun ds e s => .ok (.lst ds) e s
  | .tup es => fun e s => (denES p es e s).bind fun ds e s => .ok (.tup ds) e s
  | .newl es => fun e s => (denES p es e s).bind fun ds e s => .ok (.ref s.length) e (s ++ [.lst ds])
  | .bin op a b => fun e s => (denE p a e s).bind fun x e s => (denE p b e s).bind fun y e s => opt (bopD op x y) e s
  | .cmp op a b => fun e s => (denE p a e s).bind fun x e s => (denE p b e s).bind fun y e s => opt ((copD op x y).map .bl) e s
  | .chn o q a b c => fun e s => (denE p a e s).bind fun x e s => (denE p b e s).bind fun y e s => (opt (copD o x y) e s).bind fun k e s =>
      if k then (denE p c e s).bind fun z e s => opt ((copD q y z).map .bl) e s else .ok (.bl false) e s
  | .isn neg a => fun e s => (denE p a e s).bind fun x e s => .ok (.bl (isnB neg x)) e s
  | .and a b => fun e s => (denE p a e s).bind fun x e s => match x with
    | .bl true => denE p b e s
    | .bl false => .ok (.bl false) e s
    | _ => .bad
  | .or a b => fun e s => (denE p a e s).bind fun x e s => match x with
    | .bl false => denE p b e s
    | .bl true => .ok (.bl true) e s
    | _ => .bad
  | .not a => fun e s => (denE p a e s).bind fun x e s => match x with
    | .bl k => .ok (.bl (!k)) e s
    | _ => .bad
  | .ife t a b => fun e s => (denT p t e s).bind fun k e s => if k then denE p a e s else denE p b e s
  | .call f es ks bd => fun e s => (denES p es e s).bind fun ds e s => (denES p ks e s).bind fun zs e s => (opt (bdD (ds ++ zs) bd) e s).bind fun as e s => callD p f as e s
  | .bi b es => fun e s => (denES p es e s).bind fun ds e s => opt (biD s b ds) e s
  | .mt m o es => fun e s => (denE p o e s).bind fun x e s => if isStrD x then (denES p es e s).bind fun ds e s => opt (mtD m x ds) e s else .bad
  | .sub a b => fun e s => (denE p a e s).bind fun x e s => (denE p b e s).bind fun y e s => opt (subD s x y) e s
  | .slc a lo hi => fun e s => (denE p a e s).bind fun x e s => (denO p lo e s).bind fun l e s => (denO p hi e s).bind fun h e s => opt (slcD x l h) e s
  | .isi a t => fun e s => (denE p a e s).bind fun x e s => opt ((isiD t x).map .bl) e s
  | .isiT a ts => fun e s => (denE p a e s).bind fun x e s => opt ((isiTD ts x).map .bl) e s
  | .lc own it tg ifs m => fun e s => (lcD own (denI p it) tg (denTs p ifs) (denE p m) e s).bind fun ds e s => .ok (.lst ds) e s
  | .op1 o a es ks => fun e s => (denE p a e s).bind fun x e s => if grdD p o x s then (denES p es e s).bind fun ds e s => (denES p ks e s).bind fun zs e s => opD p o (x :: ds) zs e s else .bad
  | .opn o es ks => fun e s => (denES p es e s).bind fun ds e s => (denES p ks e s).bind fun zs e s => opD p o ds zs e s
  | .fst es => fun e s => denFs p es [] e s
/-- f'..': the parts joined -/
def denFs (p : Pg) : ES → List Nat → DM D
  | .nil => fun acc e s => .ok (.str acc) e s
  | .cons a es => fun acc e s => (denE p a e s).bind fun d e s => match numF d with
    | some t => if acc.length + t.length ≤ LIM then denFs p es (acc ++ t) e s else .bad
    | none => .bad
def denES (p : Pg) : ES → DM (List D)
  | .nil => fun e s => .ok [] e s
  | .cons a es => fun e s => (denE p a e s).bind fun d e s => (denES p es e s).bind fun ds e s => .ok (d :: ds) e s
def denO (p : Pg) : EO → DM (Option Int)
  | .no => fun e s => .ok none e s
  | .yes a => fun e s => (denE p a e s).bind fun d e s => match d with
    | .int i => .ok (some i) e s
    | _ => .bad
def denI (p : Pg) : IT → DM (List D)
  | .it a => fun e s => (denE p a e s).bind fun d e s => opt (itemsD d) e s
  | .rng a => fun e s => (denE p a e s).bind fun d e s => match d with
    | .int n => if -16777216 ≤ n ∧ n ≤ 16777216 then .ok (rngD 0 n.toNat) e s else .bad
    | _ => .bad
  | .rng2 a b => fun e s => (denE p a e s).bind fun d e s => (denE p b e s).bind fun d' e s => match d, d' with
    | .int i, .int j => if -8388608 ≤ i ∧ i ≤ 8388608 ∧ -8388608 ≤ j ∧ j ≤ 8388608 then .ok (rngD i (j - i).toNat) e s else .bad
    | _, _ => .bad
  | .zip a b => fun e s => (denE p a e s).bind fun d e s => (denE p b e s).bind fun d' e s => opt (zipD d d') e s
  | .enm a => fun e s => (denE p a e s).bind fun d e s => opt (enmD d) e s
def denT (p : Pg) : EX → DM Bool
  | .cmp op a b => fun e s => (denE p a e s).bind fun x e s => (denE p b e s).bind fun y e s => opt (copD op x y) e s
  | .chn o q a b c => fun e s => (denE p a e s).bind fun x e s => (denE p b e s).bind fun y e s => (opt (copD o x y) e s).bind fun k e s =>
      if k then (denE p c e s).bind fun z e s => opt (copD q y z) e s else .ok false e s
  | .isn neg a => fun e s => (denE p a e s).bind fun x e s => .ok (isnB neg x) e s
  | .and a b => fun e s => (denT p a e s).bind fun k e s => if k then denT p b e s else .ok false e s
  | .or a b => fun e s => (denT p a e s).bind fun k e s => if k then .ok true e s else denT p b e s
  | .not a => fun e s => (denT p a e s).bind fun k e s => .ok (!k) e s
  | .var i => fun e s => (varD i e s).bind fun x e s => opt (truD x) e s
  | .call f es ks bd => fun e s => (denES p es e s).bind fun ds e s => (denES p ks e s).bind fun zs e s => (opt (bdD (ds ++ zs) bd) e s).bind fun as e s => (callD p f as e s).bind fun x e s => opt (truD x) e s
  | .bi b es => fun e s => (denES p es e s).bind fun ds e s => (opt (biD s b ds) e s).bind fun x e s => opt (truD x) e s
  | .isi a t => fun e s => (denE p a e s).bind fun x e s => opt (isiD t x) e s
  | .isiT a ts => fun e s => (denE p a e s).bind fun x e s => opt (isiTD ts x) e s
  | .op1 o a es ks => fun e s => blOnly ((denE p a e s).bind fun x e s => if grdD p o x s then (denES p es e s).bind fun ds e s => (denES p ks e s).bind fun zs e s => opD p o (x :: ds) zs e s else .bad)
  | .opn o es ks => fun e s => blOnly ((denES p es e s).bind fun ds e s => (denES p ks e s).bind fun zs e s => opD p o ds zs e s)
  | _ => fun _ _ => .bad
def denTs (p : Pg) : ES → DM Bool
  | .nil => fun e s => .ok true e s
  | .cons a .nil => denT p a
  | _ => fun _ _ => .bad
end

/-! ### statements -/
inductive Out where
  | nx | rt (d : D) | bk | ct
def forGo (tg : Tg) (m : DM Out) : List D → DM Out
  | [] => fun e s => .ok .nx e s
  | x :: xs => fun e s => match tgD e tg x with
    | none => .bad
    | some e1 => (m e1 s).bind fun o e s => match o with
      | .nx => forGo tg m xs e s
      | .ct => forGo tg m xs e s
      | .bk => .ok .nx e s
      | .rt d => .ok (.rt d) e s
def whlGo (t : DM Bool) (m : DM Out) : Nat → DM Out
  | 0 => fun _ _ => .bad
  | n + 1 => fun e s => (t e s).bind fun k e s => if k then (m e s).bind fun o e s => match o with
      | .nx => whlGo t m n e s
      | .ct => whlGo t m n e s
      | .bk => .ok .nx e s
      | .rt d => .ok (.rt d) e s
    else .ok .nx e s
/-- a new list, told by its items -/
def denF (p : Pg) : EX → DM (List D)
  | .lst es => denES p es
  | .lc own it tg ifs m => lcD own (denI p it) tg (denTs p ifs) (denE p m)
  | _ => fun _ _ => .bad
def isOwL (e : En) (i : Nat) : Bool := match e[i]? with
  | some (.ow (.lst _)) => true
  | _ => false
def appD (i : Nat) (d : D) (e : En) (s : So) : Res Out := match e[i]? with
  | some (.ow (.lst ds)) => if ds.length < LIM then .ok .nx (e.set i (.ow (.lst (ds ++ [d])))) s else .bad
  | _ => .bad
def putD (o i d : D) (e : En) (s : So) : Res Out := match o, i with
  | .ref n, .int k => match s[n]? with
    | some (.lst xs) => match ixN xs.length k with
      | some j => .ok .nx e (s.set n (.lst (xs.set j d)))
      | none => .bad
    | _ => .bad
  | _, _ => .bad
/-- an attribute put -/
def putFD (f : Str) (d : D) : List (Str × D) → List (Str × D)
  | [] => [(f, d)]
  | q :: r => if q.1 = f then (f, d) :: r else q :: putFD f d r
def sfldD (p : Pg) (x : D) (f : Str) (d : D) (e : En) (s : So) : Res Out := match x with
  | .ref n => match s[n]? with
    | some (.obj c fs) => (match p.kl[c]? with
      | some k => if k.fields.contains f && decide (fs.length < 900) then .ok .nx e (s.set n (.obj c (putFD f d fs))) else .bad
      | none => .bad)
    | _ => .bad
  | _ => .bad
mutual
def denS (p : Pg) : ST → DM Out
  | .asg i a => fun e s => (denE p a e s).bind fun d e s => .ok .nx (e.set i (.sh d)) s
  | .asgo i a => fun e s => (denF p a e s).bind fun ds e s => .ok .nx (e.set i (.ow (.lst ds))) s
  | .app i a => fun e s => if isOwL e i then (denE p a e s).bind fun d e s => appD i d e s else .bad
  | .put o i a => fun e s => (denE p a e s).bind fun d e s => (denE p o e s).bind fun x e s => (denE p i e s).bind fun k e s => putD x k d e s
  | .sfld o f a => fun e s => (denE p a e s).bind fun d e s => (denE p o e s).bind fun x e s => sfldD p x f d e s
  | .tasg ts es => fun e s => (denES p es e s).bind fun ds e s => if ts.length = ds.length then .ok .nx ((ts.zip ds).foldl (fun e p => e.set p.1 (.sh p.2)) e) s else .bad
  | .uasg ts a => fun e s => (denE p a e s).bind fun d e s => (opt (tgD e (.tup ts) d) e s).bind fun e1 _ s => .ok .nx e1 s
  | .ex a => fun e s => (denE p a e s).bind fun _ e s => .ok .nx e s
  | .ret a => fun e s => (denE p a e s).bind fun d e s => .ok (.rt d) e s
  | .retN => fun e s => .ok (.rt .non) e s
  | .pass => fun e s => .ok .nx e s
  | .brk => fun e s => .ok .bk e s
  | .cnt => fun e s => .ok .ct e s
  | .iff t a b => fun e s => (denT p t e s).bind fun k e s => if k then denSS p a e s else denSS p b e s
  | .for_ tg it b => fun e s => (denI p it e s).bind fun ds e s => forGo tg (denSS p b) ds e s
  | .whl n t b => fun e s => whlGo (denT p t) (denSS p b) n e s
  | .never => fun _ _ => .bad
def denSS (p : Pg) : List ST → DM Out
  | [] => fun e s => .ok .nx e s
  | a :: as => fun e s => (denS p a e s).bind fun o e s => match o with
    | .nx => denSS p as e s
    | o => .ok o e s
end
/-- a def: its body, the number of its names -/
structure Fn where
  name : Str
  ps : List Str
  N : List Str
  shapes : List (Nat × List Str × List Bd)
  body : List ST
  top : Bool
def fnD (p : Pg) (f : Fn) (ds : List D) (s : So) : Rc :=
  if ds.length = f.ps.length then
    match denSS p f.body (ds.map Sl.sh ++ List.replicate (f.N.length - ds.length) .un) s with
    | .ok (.rt d) _ s => .ok d s
    | .ok .nx _ s => .ok .non s
    | .er x _ s => .er x s
    | _ => .bad
  else .bad
/-- the program's calls, k deep -/
def clN (fs : List Fn) (g : Gn) : Nat → Nat → List D → So → Rc
  | 0, _, _, _ => .bad
  | 1, f, ds, s => match fs[f]? with
    | some fn => fnD ⟨g, fun _ _ _ => .bad, fun _ _ _ => .bad⟩ fn ds s
    | none => .bad
  | k + 2, f, ds, s => match fs[f]? with
    | some fn => fnD ⟨g, clN fs g (k + 1), clN fs g k⟩ fn ds s
    | none => .bad
end Mx

namespace Mx
open PySem L2
open Evl (Ex)

section
variable {X : Cx}
theorem _root_.L2.PE.imp {e : Expr} {t t' : TE} (h : PE X e t) (i : ∀ σ H Q, t' σ H Q → t σ H Q) : PE X e t' := ⟨fun pins s σ H Q I q => h.run pins s σ H Q I (i σ H Q q)⟩
theorem _root_.L2.PT.imp {e : Expr} {t t' : TT} (h : PT X e t) (i : ∀ σ H Q, t' σ H Q → t σ H Q) : PT X e t' := ⟨fun pins s σ H Q I q => h.run pins s σ H Q I (i σ H Q q)⟩
theorem _root_.L2.PA.imp {e : List Expr} {t t' : TA} (h : PA X e t) (i : ∀ σ H Q, t' σ H Q → t σ H Q) : PA X e t' := ⟨fun pos pins s σ H Q I q => h.run pos pins s σ H Q I (i σ H Q q)⟩
theorem _root_.L2.PK.imp {e : List Keyword} {t t' : TA} (h : PK X e t) (i : ∀ σ H Q, t' σ H Q → t σ H Q) : PK X e t' := ⟨fun pos pins s σ H Q I q => h.run pos pins s σ H Q I (i σ H Q q)⟩
theorem _root_.L2.PS.imp {e : Stmt} {t t' : TS} (h : PS X e t) (i : ∀ D σ H, t' D σ H → t D σ H) : PS X e t' := ⟨fun pins s σ H D I q => h.run pins s σ H D I (i D σ H q)⟩
theorem _root_.L2.PSs.imp {e : List Stmt} {t t' : TS} (h : PSs X e t) (i : ∀ D σ H, t' D σ H → t D σ H) : PSs X e t' := ⟨fun pins s σ H D I q => h.run pins s σ H D I (i D σ H q)⟩
end

theorem exr (P : Hp) : Ex P P := Evl.Ex.refl P
theorem pfr (θ : List Addr) : θ <+: θ := List.prefix_refl θ

section
variable {T : Tb} {W : WX} {F G P : Hp} {θ : List Addr} {σ : St} {H : Hp} {env : En} {sto : So} {Q : VK}
theorem Pst.here {α : Type} {a : α} {e : En} {s : So} {K : α → En → So → Hp → List Addr → Hp → Prop} (h : Pst T W F G P θ σ (.ok a e s) K) (R : Rel T F G P θ e s σ H) : K a e s P θ H := h P θ H (exr P) (pfr θ) R
theorem Pst.alloc {α : Type} {a : α} {e : En} {s : So} {K : α → En → So → Hp → List Addr → Hp → Prop} (h : Pst T W F G P θ σ (.ok a e s) K) (R : Rel T F G P θ e s σ H) {p : Addr} {o : HO} (hp : H p = none) : K a e s (upd P p o) θ (upd H p o) :=
  h _ _ _ (ex_upd (R.rc.new hp).1) (pfr θ) (R.alloc hp)
theorem Pst.bnd {α β : Type} {r : Res α} {f : α → En → So → Res β} {K : β → En → So → Hp → List Addr → Hp → Prop} {K' : α → En → So → Hp → List Addr → Hp → Prop} (h : Pst T W F G P θ σ (r.bind f) K)
    (q : ∀ a e s P' θ' H', Ex P P' → θ <+: θ' → Rel T F G P' θ' e s σ H' → Pst T W F G P' θ' σ (f a e s) K → K' a e s P' θ' H') : Pst T W F G P θ σ r K' :=
  h.bind.mono (exr P) (pfr θ) q
abbrev KE (T : Tb) (Q : VK) : D → En → So → Hp → List Addr → Hp → Prop := fun d _ _ P' θ' H' => ∀ v, Rep T P' θ' d v → Q v H'
def Pr1 (T : Tb) (W : WX) (r : V → Hp → VK → Prop) (k : D → DM D) : Prop := ∀ {F G P : Hp} {θ : List Addr} {env : En} {sto : So} {σ : St} {H : Hp} {x : V} {d1 : D} {Q : VK}, Rel T F G P θ env sto σ H → Rep T P θ d1 x →
  Pst T W F G P θ σ (k d1 env sto) (KE T Q) → r x H Q
def Pr2 (T : Tb) (W : WX) (r : R2) (k : D → D → DM D) : Prop := ∀ {F G P : Hp} {θ : List Addr} {env : En} {sto : So} {σ : St} {H : Hp} {x y : V} {d1 d2 : D} {Q : VK}, Rel T F G P θ env sto σ H → Rep T P θ d1 x → Rep T P θ d2 y →
  Pst T W F G P θ σ (k d1 d2 env sto) (KE T Q) → r x y H Q
theorem rd_one {ma : DM D} {k : D → DM D} {r : V → Hp → VK → Prop} (hp : Pr1 T W r k) (h : RdE T W (fun e s => (ma e s).bind fun x e s => k x e s) σ H Q) : RdE T W ma σ H fun x H1 => r x H1 Q := by
  obtain ⟨F, G, P, θ, env, sto, R, h⟩ := h
  exact ⟨F, G, P, θ, env, sto, R, h.bnd fun x e1 s1 P1 θ1 H1 _ _ R1 q v rv => hp R1 rv q⟩
theorem rd_two {ma mb : DM D} {k : D → D → DM D} {r : R2} (hp : Pr2 T W r k) (h : RdE T W (fun e s => (ma e s).bind fun x e s => (mb e s).bind fun y e s => k x y e s) σ H Q) :
    RdE T W ma σ H fun x H1 => RdE T W mb σ H1 fun y H2 => r x y H2 Q := by
  obtain ⟨F, G, P, θ, env, sto, R, h⟩ := h
  refine ⟨F, G, P, θ, env, sto, R, h.bnd fun x e1 s1 P1 θ1 H1 _ _ R1 q v rv => ?_⟩
  exact ⟨F, G, P1, θ1, e1, s1, R1, q.bnd fun y e2 s2 P2 θ2 H2 a2 t2 R2 q2 u ru => hp R2 (rv.mono a2 t2) ru q2⟩
theorem opt_some {α : Type} {o : Option α} {e : En} {s : So} {K : α → En → So → Hp → List Addr → Hp → Prop} (h : Pst T W F G P θ σ (opt o e s) K) : ∃ a, o = some a ∧ Pst T W F G P θ σ (.ok a e s) K := by
  cases o with
  | none => exact h.elim
  | some a => exact ⟨a, rfl, h⟩
end

/-! ### operators -/
section
variable {X : Cx} {T : Tb} {W : WX}
def rCatR : R2 := fun x y H Q => ∃ l b xs zs, x = .ref l ∧ y = .ref b ∧ Rd H l (.lst xs) ∧ Rd H b (.lst zs) ∧ xs.length + zs.length ≤ sizeLine ∧ ∀ p, H p = none → Q (.ref p) (upd H p (.lst (xs ++ zs)))
theorem op_catR : OpR X (binaryOp .Add) rCatR := by
  intro pins s σ H x y v u Q I rx ry h
  obtain ⟨l, b, xs, zs, rfl, rfl, hH, hB, hz, q⟩ := h
  cases rx
  cases ry
  obtain ⟨z, its, n, r, e⟩ := hH.ok I.hok
  obtain ⟨z2, its2, n2, r2, e2⟩ := hB.ok I.hok
  have hl := r.length
  have hl2 := r2.length
  refine PySem.P.add_list e e2 ?_ (by rw [List.size_toArray, List.size_toArray]; omega)
  have ea : its.toArray ++ its2.toArray = (its ++ its2).toArray := by simp
  rw [ea]
  exact ⟨.ref _, _, I.lnew (t' := s.toks) (r.append r2) (by rw [List.length_append]; omega), rfl, q _ I.fresh⟩
def rAddS' : R2 := fun x y H Q => ∃ i j, x = .str i ∧ y = .str j ∧ i.length + j.length ≤ sizeLine ∧ Q (.str (i ++ j)) H
def rAddX : R2 := fun x y H Q => (rI0 fun i j => .int (i + j)) x y H Q ∨ rAddS' x y H Q ∨ rCatR x y H Q
theorem op_addX : OpR X (binaryOp .Add) rAddX := op_add.or (OpR.or op_add_str op_catR)
theorem str_app (s t : List Nat) : ((⟨s.toArray⟩ : Str) ++ ⟨t.toArray⟩) = ⟨(s ++ t).toArray⟩ := by
  apply TL.ext_tl
  rw [TL.tl_append]
theorem str_len (s : List Nat) : (⟨s.toArray⟩ : Str).length = s.length := by
  show s.toArray.size = s.length
  simp
theorem pr_add : Pr2 T W rAddX (fun x y e s => opt (bopD .add x y) e s) := by
  intro F G P θ env sto σ H x y d1 d2 Q R r1 r2 h
  obtain ⟨d, e, h⟩ := opt_some h
  cases d1 <;> cases d2 <;> simp only [bopD, reduceCtorEq] at e
  · cases e
    rw [Rep] at r1 r2
    subst r1 r2
    exact .inl ⟨_, _, rfl, rfl, h.here R _ (by rw [Rep])⟩
  · rename_i s t
    split at e
    · cases e
      rw [Rep] at r1 r2
      obtain ⟨rfl, l1⟩ := r1
      obtain ⟨rfl, l2⟩ := r2
      rename_i hz
      refine .inr (.inl ⟨_, _, rfl, rfl, by rw [str_len, str_len]; exact hz, h.here R _ ?_⟩)
      rw [Rep, str_app, List.length_append]
      exact ⟨rfl, hz⟩
    · cases e
  · rename_i s t
    split at e
    · cases e
      rw [Rep] at r1 r2
      obtain ⟨a, vs, rfl, h1, k1⟩ := r1
      obtain ⟨b, us, rfl, h2, k2⟩ := r2
      rename_i hz
      refine .inr (.inr ⟨a, b, vs, us, rfl, rfl, Evl.ex_rd R.rc.pH h1.1, Evl.ex_rd R.rc.pH h2.1, by rw [← k1.length, ← k2.length]; exact hz, fun p hp => h.alloc R hp _ ?_⟩)
      rw [Rep]
      have eP : Ex P (upd P p (.lst (vs ++ us))) := ex_upd (R.rc.new hp).1
      exact ⟨p, _, rfl, ⟨Rd.of upd_same, by rw [List.length_append, ← k1.length, ← k2.length]; exact hz⟩, (k1.mono eP (pfr θ)).append (k2.mono eP (pfr θ))⟩
    · cases e
theorem pr_sub : Pr2 T W (rI0 fun i j => .int (i - j)) (fun x y e s => opt (bopD .sub x y) e s) := by
  intro F G P θ env sto σ H x y d1 d2 Q R r1 r2 h
  obtain ⟨d, e, h⟩ := opt_some h
  cases d1 <;> cases d2 <;> simp only [bopD, reduceCtorEq] at e
  cases e
  rw [Rep] at r1 r2
  subst r1 r2
  exact ⟨_, _, rfl, rfl, h.here R _ (by rw [Rep])⟩
theorem pr_mod : Pr2 T W (rI (fun _ j => 0 < j) fun i j => .int (i % j)) (fun x y e s => opt (bopD .mod x y) e s) := by
  intro F G P θ env sto σ H x y d1 d2 Q R r1 r2 h
  obtain ⟨d, e, h⟩ := opt_some h
  cases d1 <;> cases d2 <;> simp only [bopD, reduceCtorEq] at e
  split at e
  · rename_i hz
    cases e
    rw [Rep] at r1 r2
    subst r1 r2
    exact ⟨_, _, rfl, rfl, hz, h.here R _ (by rw [Rep])⟩
  · cases e
theorem pr_fdiv : Pr2 T W (rI CDiv fun i j => .int (i / j)) (fun x y e s => opt (bopD .fdiv x y) e s) := by
  intro F G P θ env sto σ H x y d1 d2 Q R r1 r2 h
  obtain ⟨d, e, h⟩ := opt_some h
  cases d1 <;> cases d2 <;> simp only [bopD, reduceCtorEq] at e
  split at e
  · rename_i hz
    cases e
    rw [Rep] at r1 r2
    subst r1 r2
    exact ⟨_, _, rfl, rfl, hz, h.here R _ (by rw [Rep])⟩
  · cases e
theorem pr_pow : Pr2 T W (rI CPow fun i j => .int (i ^ j.toNat)) (fun x y e s => opt (bopD .pow x y) e s) := by
  intro F G P θ env sto σ H x y d1 d2 Q R r1 r2 h
  obtain ⟨d, e, h⟩ := opt_some h
  cases d1 <;> cases d2 <;> simp only [bopD, reduceCtorEq] at e
  split at e
  · rename_i hz
    cases e
    rw [Rep] at r1 r2
    subst r1 r2
    exact ⟨_, _, rfl, rfl, hz, h.here R _ (by rw [Rep])⟩
  · cases e
/-- text * int -/
def rMulS : R2 := fun x y H Q => ∃ (s : List Nat) (j : Int), x = .str ⟨s.toArray⟩ ∧ y = .int j ∧ 0 ≤ j ∧ j < 2 ^ 24 ∧ s.length * j.toNat ≤ sizeLine ∧ Q (.str ⟨(List.replicate j.toNat s).flatten.toArray⟩) H
theorem fold_rep (s : List Nat) : ∀ (n : Nat) (acc : List Nat), (List.replicate n s.toArray).foldl (fun x y => x ++ y) acc.toArray = (acc ++ (List.replicate n s).flatten).toArray
  | 0, acc => by simp
  | n + 1, acc => by
    rw [List.replicate_succ, List.replicate_succ, List.foldl_cons, List.flatten_cons, ← List.append_assoc]
    have := fold_rep s n (acc ++ s)
    rw [← this]
    simp
theorem op_mulS : OpR X (binaryOp .Mult) rMulS := by
  intro pins s σ H x y v u Q I rx ry h
  obtain ⟨z, j, rfl, rfl, h0, h1, h2, q⟩ := h
  obtain ⟨t, rfl⟩ := rx
  obtain ⟨t', rfl⟩ := ry
  have hl : (⟨z.toArray⟩ : Str).length = z.length := str_len z
  have sz : (sizeLine : Nat) = 16777216 := by decide
  refine PySem.P.mul_str ?_ (fun g1 g2 => ?_) (fun g1 g2 => ?_) ?_
  · rw [decide_eq_false (by omega), decide_eq_false (by omega)]; rfl
  · rw [hl]
    have : (2 ^ 63 - 1 : Int) / j ≥ 2 ^ 30 := by
      apply (Int.le_ediv_iff_mul_le (by omega)).mpr
      have : (2 ^ 30 : Int) * j ≤ 2 ^ 30 * 2 ^ 24 := Int.mul_le_mul_of_nonneg_left (by omega) (by decide)
      omega
    have h3 : z.length ≤ z.length * j.toNat := Nat.le_mul_of_pos_right _ (by omega)
    omega
  · rw [hl]
    unfold Builtin.Str.tooLong
    exact decide_eq_false (by omega)
  · by_cases g1 : j < 1
    · rw [if_pos g1]
      have : j = 0 := by omega
      subst this
      refine ⟨by decide, ⟨.str _, H, I.tok _, ⟨_, rfl⟩, ?_⟩⟩
      have e : (⟨(List.replicate (0 : Int).toNat z).flatten.toArray⟩ : Str) = Str.empty := rfl
      rw [e] at q; exact q
    · rw [if_neg g1]
      by_cases g2 : (j == 1 || (⟨z.toArray⟩ : Str).length == 0) = true
      · rw [if_pos g2]
        refine ⟨.str _, H, I, ⟨_, rfl⟩, ?_⟩
        have e : (List.replicate j.toNat z).flatten = z := by
          rw [hl] at g2
          simp at g2
          rcases g2 with rfl | g2
          · simp
          · subst g2; simp
        rw [e] at q; exact q
      · rw [if_neg g2]
        have e := fold_rep z j.toNat []
        have e' : (List.replicate j.toNat (⟨z.toArray⟩ : Str).cps).foldl (fun x1 x2 => x1 ++ x2) #[] = (List.replicate j.toNat z).flatten.toArray := by
          simpa using e
        refine ⟨?_, ⟨.str _, H, I.tok _, ⟨_, rfl⟩, ?_⟩⟩
        · show (⟨_⟩ : Str).length ≤ _
          rw [e', str_len]
          have : (List.replicate j.toNat z).flatten.length = j.toNat * z.length := by simp [List.length_flatten]
          rw [this, Nat.mul_comm]; exact h2
        · rw [e']; exact q
def rMulX : R2 := fun x y H Q => rI CMul (fun i j => .int (i * j)) x y H Q ∨ rMulS x y H Q
theorem op_mulX : OpR X (binaryOp .Mult) rMulX := OpR.or op_mul op_mulS
theorem pr_mul : Pr2 T W rMulX (fun x y e s => opt (bopD .mul x y) e s) := by
  intro F G P θ env sto σ H x y d1 d2 Q R r1 r2 h
  obtain ⟨d, e, h⟩ := opt_some h
  cases d1 <;> cases d2 <;> simp only [bopD, reduceCtorEq] at e
  · split at e
    · rename_i hz
      cases e
      simp only [Rep] at r1 r2
      subst r1 r2
      exact .inl ⟨_, _, rfl, rfl, hz, h.here R _ (by rw [Rep])⟩
    · cases e
  · split at e
    · rename_i hz
      cases e
      simp only [Rep] at r1 r2
      obtain ⟨rfl, l1⟩ := r1
      subst r2
      refine .inr ⟨_, _, rfl, rfl, hz.1, hz.2.1, hz.2.2, h.here R _ ?_⟩
      rw [Rep]
      refine ⟨rfl, ?_⟩
      rename_i z j _
      have : (List.replicate j.toNat z).flatten.length = j.toNat * z.length := by simp [List.length_flatten]
      rw [this, Nat.mul_comm]; exact hz.2.2
    · cases e
/-! ### comparisons -/
theorem str_inj {s t : List Nat} : (V.str ⟨s.toArray⟩ = V.str ⟨t.toArray⟩) ↔ s = t := by
  constructor
  · intro h
    injection h with h
    injection h with h
    simpa using congrArg Array.toList h
  · rintro rfl; rfl
theorem eqS_rep {P : Hp} {θ : List Addr} {d1 d2 : D} {x y : V} {b : Bool} (r1 : Rep T P θ d1 x) (r2 : Rep T P θ d2 y) (e : eqS d1 d2 = some b) : scal x y = true ∧ decide (x = y) = b := by
  cases d1 <;> cases d2 <;> simp only [eqS, reduceCtorEq] at e <;> cases e <;> simp only [Rep] at r1 r2 <;> (first | subst r1 | (obtain ⟨rfl, _⟩ := r1)) <;> (first | subst r2 | (obtain ⟨rfl, _⟩ := r2)) <;> refine ⟨rfl, ?_⟩
  all_goals first
    | rfl
    | exact dec_int
    | exact dec_bl
    | skip
  rename_i s t _ _
  by_cases h : s = t
  · subst h; simp
  · rw [decide_eq_false (fun z => h (str_inj.mp z))]
    exact (beq_eq_false_iff_ne.mpr h).symm
theorem map_some {α β : Type} {o : Option α} {f : α → β} {b : β} (h : o.map f = some b) : ∃ a, o = some a ∧ b = f a := by
  cases o with
  | none => cases h
  | some a => exact ⟨a, rfl, (Option.some.inj h).symm⟩
theorem pr_eq : Pr2 T W rEq (fun x y e s => opt ((copD .eq x y).map .bl) e s) := by
  intro F G P θ env sto σ H x y d1 d2 Q R r1 r2 h
  obtain ⟨d, e, h⟩ := opt_some h
  obtain ⟨b, e', rfl⟩ := map_some e
  replace e := e'
  obtain ⟨h1, h2⟩ := eqS_rep r1 r2 e
  refine ⟨h1, ?_⟩
  rw [h2]
  exact h.here R _ (by rw [Rep])
theorem pr_ne : Pr2 T W rNe (fun x y e s => opt ((copD .ne x y).map .bl) e s) := by
  intro F G P θ env sto σ H x y d1 d2 Q R r1 r2 h
  obtain ⟨d, e, h⟩ := opt_some h
  obtain ⟨b', e', rfl⟩ := map_some e
  obtain ⟨c, e'', rfl⟩ := map_some e'
  replace e := e''
  obtain ⟨h1, h2⟩ := eqS_rep r1 r2 e
  refine ⟨h1, ?_⟩
  rw [h2]
  exact h.here R _ (by rw [Rep])
theorem pr_lt : Pr2 T W (rI0 fun i j => .bl (decide (i < j))) (fun x y e s => opt ((copD .lt x y).map .bl) e s) := by
  intro F G P θ env sto σ H x y d1 d2 Q R r1 r2 h
  obtain ⟨d, e, h⟩ := opt_some h
  obtain ⟨b, e', rfl⟩ := map_some e
  replace e := e'
  cases d1 <;> cases d2 <;> simp only [copD, reduceCtorEq] at e
  cases e
  simp only [Rep] at r1 r2
  subst r1 r2
  exact ⟨_, _, rfl, rfl, h.here R _ (by rw [Rep])⟩
theorem pr_le : Pr2 T W (rI0 fun i j => .bl (decide (i ≤ j))) (fun x y e s => opt ((copD .le x y).map .bl) e s) := by
  intro F G P θ env sto σ H x y d1 d2 Q R r1 r2 h
  obtain ⟨d, e, h⟩ := opt_some h
  obtain ⟨b, e', rfl⟩ := map_some e
  replace e := e'
  cases d1 <;> cases d2 <;> simp only [copD, reduceCtorEq] at e
  cases e
  simp only [Rep] at r1 r2
  subst r1 r2
  exact ⟨_, _, rfl, rfl, h.here R _ (by rw [Rep])⟩
theorem pr_gt : Pr2 T W (rI0 fun i j => .bl (decide (j < i))) (fun x y e s => opt ((copD .gt x y).map .bl) e s) := by
  intro F G P θ env sto σ H x y d1 d2 Q R r1 r2 h
  obtain ⟨d, e, h⟩ := opt_some h
  obtain ⟨b, e', rfl⟩ := map_some e
  replace e := e'
  cases d1 <;> cases d2 <;> simp only [copD, reduceCtorEq] at e
  cases e
  simp only [Rep] at r1 r2
  subst r1 r2
  exact ⟨_, _, rfl, rfl, h.here R _ (by rw [Rep])⟩
theorem pr_ge : Pr2 T W (rI0 fun i j => .bl (decide (j ≤ i))) (fun x y e s => opt ((copD .ge x y).map .bl) e s) := by
  intro F G P θ env sto σ H x y d1 d2 Q R r1 r2 h
  obtain ⟨d, e, h⟩ := opt_some h
  obtain ⟨b, e', rfl⟩ := map_some e
  replace e := e'
  cases d1 <;> cases d2 <;> simp only [copD, reduceCtorEq] at e
  cases e
  simp only [Rep] at r1 r2
  subst r1 r2
  exact ⟨_, _, rfl, rfl, h.here R _ (by rw [Rep])⟩
/-- in -/
def rInT : R2 := fun x y H Q => ∃ (c : Nat) (z : Str), x = .str ⟨#[c]⟩ ∧ y = .str z ∧ Q (.bl (decide (c ∈ z.cps.toList))) H
def rNotT : R2 := fun x y H Q => ∃ (c : Nat) (z : Str), x = .str ⟨#[c]⟩ ∧ y = .str z ∧ Q (.bl (!decide (c ∈ z.cps.toList))) H
def rInX (K : PySem.W.Frag) : R2 := fun x y H Q => rInT x y H Q ∨ rIn K false x y H Q
def rNotX (K : PySem.W.Frag) : R2 := fun x y H Q => rNotT x y H Q ∨ rIn K true x y H Q
theorem op_inX : OpR X (compareOp .In) (rInX X.K) := OpR.or op_in_sign op_in_seq
theorem op_notX : OpR X (compareOp .NotIn) (rNotX X.K) := OpR.or op_notIn_sign op_notIn_seq
theorem flat_rep {P : Hp} {θ : List Addr} {d : D} {x : V} (r : Rep T P θ d x) (h : flatD d = true) : flatV x = true := by
  cases d <;> simp only [flatD, Bool.false_eq_true] at h <;> simp only [Rep] at r <;> (first | subst r | (obtain ⟨rfl, _⟩ := r)) <;> rfl
theorem eqF_rep {P : Hp} {θ : List Addr} {d1 d2 : D} {x y : V} (r1 : Rep T P θ d1 x) (r2 : Rep T P θ d2 y) (h1 : flatD d1 = true) (h2 : flatD d2 = true) : eqV x y = eqF d1 d2 := by
  cases d1 <;> simp only [flatD, Bool.false_eq_true] at h1 <;> cases d2 <;> simp only [flatD, Bool.false_eq_true] at h2 <;> simp only [Rep] at r1 r2 <;> (first | subst r1 | (obtain ⟨rfl, _⟩ := r1)) <;> (first | subst r2 | (obtain ⟨rfl, _⟩ := r2))
  all_goals first
    | rfl
    | skip
  rename_i s t _ _
  show ((⟨s.toArray⟩ : Str) == ⟨t.toArray⟩) = (s == t)
  by_cases h : s = t
  · subst h; simp
  · rw [beq_eq_false_iff_ne.mpr h]
    refine beq_eq_false_iff_ne.mpr fun z => h ?_
    exact str_inj.mp (congrArg V.str z)
theorem inV_rep {P : Hp} {θ : List Addr} {d : D} {x : V} (r : Rep T P θ d x) (hf : flatD d = true) : ∀ {ds : List D} {vs : List V}, RepL T P θ ds vs → ds.all flatD = true → vs.all flatV = true ∧ inV x vs = ds.any fun y => eqF y d
  | [], _, h, _ => by rw [RepL] at h; subst h; exact ⟨rfl, rfl⟩
  | d' :: ds, _, h, ha => by
    rw [RepL] at h
    obtain ⟨v, q, rfl, h2, h3⟩ := h
    rw [List.all_cons, Bool.and_eq_true] at ha
    obtain ⟨i1, i2⟩ := inV_rep r hf h3 ha.2
    refine ⟨by rw [List.all_cons, flat_rep h2 ha.1, i1]; rfl, ?_⟩
    show (eqV v x || q.any fun y => eqV y x) = _
    rw [List.any_cons, eqF_rep h2 r ha.1 hf]
    exact congrArg (eqF d' d || ·) i2
theorem inD_rep {P H : Hp} {θ : List Addr} {d1 d2 : D} {x y : V} {b : Bool} (e : Ex P H) (r1 : Rep T P θ d1 x) (r2 : Rep T P θ d2 y) (h : inD d1 d2 = some b) :
    (∃ (c : Nat) (z : Str), x = .str ⟨#[c]⟩ ∧ y = .str z ∧ decide (c ∈ z.cps.toList) = b) ∨ ∃ p xs, y = .ref p ∧ (SqL T.K H p xs ∨ SqT T.K H p xs) ∧ flatV x = true ∧ xs.all flatV = true ∧ inV x xs = b := by
  unfold inD at h
  split at h
  · rename_i c t
    cases h
    simp only [Rep] at r1 r2
    obtain ⟨rfl, _⟩ := r1
    obtain ⟨rfl, _⟩ := r2
    refine .inl ⟨c, _, rfl, rfl, ?_⟩
    show decide (c ∈ t) = t.contains c
    simp
  · split at h
    · rename_i hc
      rw [Bool.and_eq_true] at hc
      cases h
      rw [Rep] at r2
      obtain ⟨a, vs, rfl, h2, h3⟩ := r2
      obtain ⟨i1, i2⟩ := inV_rep r1 hc.1 h3 hc.2
      exact .inr ⟨a, vs, rfl, .inl (.inl (Evl.ex_rd e h2.1)), flat_rep r1 hc.1, i1, i2⟩
    · cases h
  · split at h
    · rename_i hc
      rw [Bool.and_eq_true] at hc
      cases h
      rw [Rep] at r2
      obtain ⟨a, vs, rfl, h2, h3⟩ := r2
      obtain ⟨i1, i2⟩ := inV_rep r1 hc.1 h3 hc.2
      exact .inr ⟨a, vs, rfl, .inr (Evl.ex_t e h2.1), flat_rep r1 hc.1, i1, i2⟩
    · cases h
  · cases h
theorem pr_in (hK : X.K = T.K) : Pr2 T W (rInX X.K) (fun x y e s => opt ((copD .inn x y).map .bl) e s) := by
  intro F G P θ env sto σ H x y d1 d2 Q R r1 r2 h
  obtain ⟨d, e, h⟩ := opt_some h
  obtain ⟨b, e', rfl⟩ := map_some e
  replace e := e'
  have q := h.here R (.bl b) (by rw [Rep])
  rw [hK]
  rcases inD_rep R.rc.pH r1 r2 e with ⟨c, z, h1, h2, h3⟩ | ⟨p, xs, h1, h2, h3, h4, h5⟩
  · exact .inl ⟨c, z, h1, h2, by rw [h3]; exact q⟩
  · exact .inr ⟨p, xs, h1, h2, h3, h4, by rw [if_neg Bool.false_ne_true, h5]; exact q⟩
theorem pr_nin (hK : X.K = T.K) : Pr2 T W (rNotX X.K) (fun x y e s => opt ((copD .nin x y).map .bl) e s) := by
  intro F G P θ env sto σ H x y d1 d2 Q R r1 r2 h
  obtain ⟨d, e, h⟩ := opt_some h
  obtain ⟨b', e', rfl⟩ := map_some e
  obtain ⟨b, e'', rfl⟩ := map_some e'
  replace e := e''
  have q := h.here R (.bl (!b)) (by rw [Rep])
  rw [hK]
  rcases inD_rep R.rc.pH r1 r2 e with ⟨c, z, h1, h2, h3⟩ | ⟨p, xs, h1, h2, h3, h4, h5⟩
  · exact .inl ⟨c, z, h1, h2, by rw [h3]; exact q⟩
  · exact .inr ⟨p, xs, h1, h2, h3, h4, by rw [if_pos rfl, h5]; exact q⟩
/-- a comparison's rule -/
def copO : Cop → CmpOp
  | .eq => .Eq | .ne => .NotEq | .lt => .Lt | .le => .LtE | .gt => .Gt | .ge => .GtE | .inn => .In | .nin => .NotIn
theorem cop_ok (hK : X.K = T.K) (op : Cop) : ∃ r, OpR X (compareOp (copO op)) r ∧ Pr2 T W r (fun x y e s => opt ((copD op x y).map .bl) e s) := by
  cases op with
  | eq => exact ⟨_, op_eq, pr_eq⟩
  | ne => exact ⟨_, op_ne, pr_ne⟩
  | lt => exact ⟨_, op_lt, pr_lt⟩
  | le => exact ⟨_, op_le, pr_le⟩
  | gt => exact ⟨_, op_gt, pr_gt⟩
  | ge => exact ⟨_, op_ge, pr_ge⟩
  | inn => exact ⟨_, op_inX, pr_in hK⟩
  | nin => exact ⟨_, op_notX, pr_nin hK⟩
def bopO : Bop → Operator
  | .add => .Add | .sub => .Sub | .mul => .Mult | .mod => .Mod | .fdiv => .FloorDiv | .pow => .Pow
theorem bop_ok (op : Bop) : ∃ r, OpR X (binaryOp (bopO op)) r ∧ Pr2 T W r (fun x y e s => opt (bopD op x y) e s) := by
  cases op with
  | add => exact ⟨_, op_addX, pr_add⟩
  | sub => exact ⟨_, op_sub, pr_sub⟩
  | mul => exact ⟨_, op_mulX, pr_mul⟩
  | mod => exact ⟨_, op_mod, pr_mod⟩
  | fdiv => exact ⟨_, op_fdiv, pr_fdiv⟩
  | pow => exact ⟨_, op_pow, pr_pow⟩
end
end Mx

namespace Mx
open PySem L2
open Evl (Ex)

section
variable {T : Tb} {W : WX} {F G P : Hp} {θ : List Addr} {σ : St} {H : Hp} {env : En} {sto : So} {Q : VK} {X : Cx}
/-! ### argument lists -/
abbrev KA (T : Tb) (Q : List V → Hp → Prop) : List D → En → So → Hp → List Addr → Hp → Prop := fun ds _ _ P' θ' H' => ∀ vs, RepL T P' θ' ds vs → Q vs H'
def PrA (T : Tb) (W : WX) (r : List V → Hp → VK → Prop) (k : List D → DM D) : Prop := ∀ {F G P : Hp} {θ : List Addr} {env : En} {sto : So} {σ : St} {H : Hp} {vs : List V} {ds : List D} {Q : VK}, Rel T F G P θ env sto σ H → RepL T P θ ds vs →
  Pst T W F G P θ σ (k ds env sto) (KE T Q) → r vs H Q
theorem rd_args {ma : DM (List D)} {k : List D → DM D} {r : List V → Hp → VK → Prop} (hp : PrA T W r k) (h : RdE T W (fun e s => (ma e s).bind fun x e s => k x e s) σ H Q) : RdA T W ma σ H fun x H1 => r x H1 Q := by
  obtain ⟨F, G, P, θ, env, sto, R, h⟩ := h
  exact ⟨F, G, P, θ, env, sto, R, h.bnd fun x e1 s1 P1 θ1 H1 _ _ R1 q v rv => hp R1 rv q⟩
theorem rda_nil {Q : List V → Hp → Prop} (h : RdA T W (fun e s => .ok [] e s) σ H Q) : Q [] H := by
  obtain ⟨F, G, P, θ, env, sto, R, h⟩ := h
  exact h.here R _ RepL.nil
theorem rda_cons {ma : DM D} {ms : DM (List D)} {Q : List V → Hp → Prop} (h : RdA T W (fun e s => (ma e s).bind fun d e s => (ms e s).bind fun ds e s => .ok (d :: ds) e s) σ H Q) :
    RdE T W ma σ H fun x H1 => RdA T W ms σ H1 fun xs H2 => Q (x :: xs) H2 := by
  obtain ⟨F, G, P, θ, env, sto, R, h⟩ := h
  refine ⟨F, G, P, θ, env, sto, R, h.bnd fun x e1 s1 P1 θ1 H1 _ _ R1 q v rv => ?_⟩
  exact ⟨F, G, P1, θ1, e1, s1, R1, q.bnd fun y e2 s2 P2 θ2 H2 a2 t2 R2 q2 u ru => q2.here R2 _ (RepL.cons (rv.mono a2 t2) ru)⟩

theorem bind_ok {α β : Type} {r : Res α} {f : α → En → So → Res β} {b : β} {e : En} {s : So} (h : r.bind f = .ok b e s) : ∃ a e1 s1, r = .ok a e1 s1 ∧ f a e1 s1 = .ok b e s := by
  cases r with
  | ok a e1 s1 => exact ⟨a, e1, s1, rfl, h⟩
  | er x e1 s1 => cases h
  | bad => cases h
theorem denES_len {p : Pg} : ∀ {es : ES} {e : En} {s : So} {ds : List D} {e' : En} {s' : So}, denES p es e s = .ok ds e' s' → ds.length = es.len
  | .nil, e, s, ds, e', s', h => by
    rw [denES] at h; cases h; rfl
  | .cons a es, e, s, ds, e', s', h => by
    rw [denES] at h
    obtain ⟨d, e1, s1, _, h⟩ := bind_ok h
    obtain ⟨r, e2, s2, h1, h⟩ := bind_ok h
    cases h
    rw [List.length_cons, denES_len h1]; rfl
/-! ### displays -/
def Few (m : DM (List D)) : Prop := ∀ e s ds e' s', m e s = .ok ds e' s' → ds.length ≤ 1000
theorem rd_lst {m : DM (List D)} (hl : Few m) (h : RdE T W (fun e s => (m e s).bind fun ds e s => .ok (.lst ds) e s) σ H Q) : tLst (RdA T W m) σ H Q := by
  obtain ⟨F, G, P, θ, env, sto, R, h⟩ := h
  dsimp only at h
  cases hd : m env sto with
  | ok ds e1 s1 =>
    rw [hd] at h
    refine ⟨F, G, P, θ, env, sto, R, ?_⟩
    rw [hd]
    intro P1 θ1 H1 a1 t1 R1 vs rv
    have hz : vs.length ≤ sizeLine := by rw [← rv.length]; exact Nat.le_trans (hl _ _ _ _ _ hd) (by decide)
    refine ⟨hz, fun q hq => ?_⟩
    have eP : Ex P1 (upd P1 q (.lst vs)) := ex_upd (R1.rc.new hq).1
    refine h _ θ1 _ (a1.trans eP) t1 (R1.alloc hq) _ ?_
    rw [Rep]
    exact ⟨q, vs, rfl, ⟨Rd.of upd_same, hz⟩, rv.mono eP (pfr θ1)⟩
  | er x e1 s1 =>
    rw [hd] at h
    exact ⟨F, G, P, θ, env, sto, R, by rw [hd]; exact h⟩
  | bad =>
    rw [hd] at h
    exact h.elim
theorem rd_tup {m : DM (List D)} (hl : Few m) (h : RdE T W (fun e s => (m e s).bind fun ds e s => .ok (.tup ds) e s) σ H Q) : tTup (RdA T W m) σ H Q := by
  obtain ⟨F, G, P, θ, env, sto, R, h⟩ := h
  dsimp only at h
  cases hd : m env sto with
  | ok ds e1 s1 =>
    rw [hd] at h
    refine ⟨F, G, P, θ, env, sto, R, ?_⟩
    rw [hd]
    intro P1 θ1 H1 a1 t1 R1 vs rv
    have hz : vs.length ≤ sizeLine := by rw [← rv.length]; exact Nat.le_trans (hl _ _ _ _ _ hd) (by decide)
    refine ⟨hz, fun q hq => ?_⟩
    have eP : Ex P1 (upd P1 q (.tup vs)) := ex_upd (R1.rc.new hq).1
    refine h _ θ1 _ (a1.trans eP) t1 (R1.alloc hq) _ ?_
    rw [Rep]
    exact ⟨q, vs, rfl, ⟨SqT.of upd_same, hz⟩, rv.mono eP (pfr θ1)⟩
  | er x e1 s1 =>
    rw [hd] at h
    exact ⟨F, G, P, θ, env, sto, R, by rw [hd]; exact h⟩
  | bad =>
    rw [hd] at h
    exact h.elim
theorem rd_newl {m : DM (List D)} (hl : Few m) (h : RdE T W (fun e s => (m e s).bind fun ds e s => .ok (.ref s.length) e (s ++ [.lst ds])) σ H Q) : tLst (RdA T W m) σ H Q := by
  obtain ⟨F, G, P, θ, env, sto, R, h⟩ := h
  dsimp only at h
  cases hd : m env sto with
  | ok ds e1 s1 =>
    rw [hd] at h
    refine ⟨F, G, P, θ, env, sto, R, ?_⟩
    rw [hd]
    intro P1 θ1 H1 a1 t1 R1 vs rv
    have hz : vs.length ≤ sizeLine := by rw [← rv.length]; exact Nat.le_trans (hl _ _ _ _ _ hd) (by decide)
    refine ⟨hz, fun q hq => ?_⟩
    have R2 := R1.newSto (c := .lst ds) hq ⟨vs, ⟨rfl, hz⟩, rv⟩
    refine h P1 (θ1 ++ [q]) _ a1 (t1.trans (List.prefix_append _ _)) R2 _ ?_
    rw [Rep]
    refine ⟨q, ?_, rfl⟩
    rw [R1.rc.len, List.getElem?_append_right (Nat.le_refl _)]
    simp
  | er x e1 s1 =>
    rw [hd] at h
    exact ⟨F, G, P, θ, env, sto, R, by rw [hd]; exact h⟩
  | bad =>
    rw [hd] at h
    exact h.elim
/-! ### builtins -/
theorem bls_rep : ∀ {ds : List D} {vs : List V} {bs : List Bool}, RepL T P θ ds vs → blsD ds = some bs → vs = bs.map V.bl
  | [], _, _, h, e => by rw [RepL] at h; subst h; cases e; rfl
  | d :: ds, _, _, h, e => by
    rw [RepL] at h
    obtain ⟨v, r, rfl, h2, h3⟩ := h
    cases d <;> simp only [blsD, reduceCtorEq] at e
    obtain ⟨bs, e1, rfl⟩ := map_some e
    simp only [Rep] at h2
    subst h2
    rw [List.map_cons, bls_rep h3 e1]
theorem strs_rep : ∀ {ds : List D} {vs : List V} {ss : List (List Nat)}, RepL T P θ ds vs → strsD ds = some ss → vs = (ss.map fun s => (⟨s.toArray⟩ : Str)).map V.str
  | [], _, _, h, e => by rw [RepL] at h; subst h; cases e; rfl
  | d :: ds, _, _, h, e => by
    rw [RepL] at h
    obtain ⟨v, r, rfl, h2, h3⟩ := h
    cases d <;> simp only [strsD, reduceCtorEq] at e
    obtain ⟨bs, e1, rfl⟩ := map_some e
    simp only [Rep] at h2
    obtain ⟨rfl, _⟩ := h2
    rw [List.map_cons, List.map_cons, strs_rep h3 e1]
theorem sq_of (R : Rel T F G P θ env sto σ H) {a : Addr} {vs : List V} (h : RdL P a vs) : SqL T.K H a vs := .inl (Evl.ex_rd R.rc.pH h.1)
theorem st_of (R : Rel T F G P θ env sto σ H) {a : Addr} {vs : List V} (h : StL T.K P a vs) : SqT T.K H a vs := Evl.ex_t R.rc.pH h.1
theorem repl1 {d : D} {vs : List V} (h : RepL T P θ [d] vs) : ∃ v, vs = [v] ∧ Rep T P θ d v := by
  simp only [RepL] at h
  obtain ⟨v, r, rfl, h1, rfl⟩ := h
  exact ⟨v, rfl, h1⟩
theorem repl2 {d d' : D} {vs : List V} (h : RepL T P θ [d, d'] vs) : ∃ v v', vs = [v, v'] ∧ Rep T P θ d v ∧ Rep T P θ d' v' := by
  simp only [RepL] at h
  obtain ⟨v, r, rfl, h1, v', r', rfl, h2, rfl⟩ := h
  exact ⟨v, v', rfl, h1, h2⟩
def rLenX (K : PySem.W.Frag) : List V → Hp → VK → Prop := fun xs H Q => (∃ p ys, xs = [.ref p] ∧ (SqL K H p ys ∨ SqT K H p ys) ∧ Q (.int ys.length) H) ∨ ∃ z : Str, xs = [.str z] ∧ z.length ≤ sizeLine ∧ Q (.int z.length) H
theorem pr_len (hK : X.K = T.K) : PrA T W (rLenX X.K) (fun ds e s => opt (lenD ds) e s) := by
  intro F G P θ env sto σ H vs ds Q R r h
  obtain ⟨d, e, h⟩ := opt_some h
  rw [hK]
  unfold lenD at e
  split at e
  · cases e
    obtain ⟨v, rfl, r1⟩ := repl1 r
    simp only [Rep] at r1
    obtain ⟨rfl, hz⟩ := r1
    refine .inr ⟨_, rfl, by rw [str_len]; exact hz, ?_⟩
    rw [str_len]
    exact h.here R _ (by rw [Rep])
  · cases e
    obtain ⟨v, rfl, r1⟩ := repl1 r
    simp only [Rep] at r1
    obtain ⟨a, us, rfl, h2, h3⟩ := r1
    refine .inl ⟨a, us, rfl, .inl (sq_of R h2), ?_⟩
    rw [← h3.length]
    exact h.here R _ (by rw [Rep])
  · cases e
    obtain ⟨v, rfl, r1⟩ := repl1 r
    simp only [Rep] at r1
    obtain ⟨a, us, rfl, h2, h3⟩ := r1
    refine .inl ⟨a, us, rfl, .inr (st_of R h2), ?_⟩
    rw [← h3.length]
    exact h.here R _ (by rw [Rep])
  · cases e
theorem pr_abs : PrA T W (fun xs H Q => ∃ i, xs = [.int i] ∧ Q (.int (if i < 0 then -i else i)) H) (fun ds e s => opt (absD ds) e s) := by
  intro F G P θ env sto σ H vs ds Q R r h
  obtain ⟨d, e, h⟩ := opt_some h
  unfold absD at e
  split at e
  · cases e
    obtain ⟨v, rfl, r1⟩ := repl1 r
    simp only [Rep] at r1
    subst r1
    exact ⟨_, rfl, h.here R _ (by rw [Rep])⟩
  · cases e
theorem pr_int : PrA T W (fun xs H Q => (∃ i, xs = [.int i] ∧ Q (.int i) H) ∨ ∃ k, xs = [.bl k] ∧ Q (.int (if k then 1 else 0)) H) (fun ds e s => opt (intD ds) e s) := by
  intro F G P θ env sto σ H vs ds Q R r h
  obtain ⟨d, e, h⟩ := opt_some h
  unfold intD at e
  split at e
  · cases e
    obtain ⟨v, rfl, r1⟩ := repl1 r
    simp only [Rep] at r1
    subst r1
    exact .inl ⟨_, rfl, h.here R _ (by rw [Rep])⟩
  · cases e
    obtain ⟨v, rfl, r1⟩ := repl1 r
    simp only [Rep] at r1
    subst r1
    exact .inr ⟨_, rfl, h.here R _ (by rw [Rep])⟩
  · cases e
theorem pr_min : PrA T W (fun xs H Q => ∃ i j, xs = [.int i, .int j] ∧ Q (.int (if j < i then j else i)) H) (fun ds e s => opt (minD ds) e s) := by
  intro F G P θ env sto σ H vs ds Q R r h
  obtain ⟨d, e, h⟩ := opt_some h
  unfold minD at e
  split at e
  · cases e
    obtain ⟨v, v', rfl, r, r'⟩ := repl2 r
    simp only [Rep] at r r'
    subst r r'
    exact ⟨_, _, rfl, h.here R _ (by rw [Rep])⟩
  · cases e
theorem pr_max : PrA T W (fun xs H Q => ∃ i j, xs = [.int i, .int j] ∧ Q (.int (if j > i then j else i)) H) (fun ds e s => opt (maxD ds) e s) := by
  intro F G P θ env sto σ H vs ds Q R r h
  obtain ⟨d, e, h⟩ := opt_some h
  unfold maxD at e
  split at e
  · cases e
    obtain ⟨v, v', rfl, r, r'⟩ := repl2 r
    simp only [Rep] at r r'
    subst r r'
    exact ⟨_, _, rfl, h.here R _ (by rw [Rep])⟩
  · cases e
theorem pr_all (hK : X.K = T.K) : PrA T W (rAll X.K) (fun ds e s => opt (allD ds) e s) := by
  intro F G P θ env sto σ H vs ds Q R r h
  obtain ⟨d, e, h⟩ := opt_some h
  rw [hK]
  unfold allD at e
  split at e
  · obtain ⟨bs, e1, rfl⟩ := map_some e
    obtain ⟨v, rfl, r1⟩ := repl1 r
    simp only [Rep] at r1
    obtain ⟨a, us, rfl, h2, h3⟩ := r1
    have e2 := bls_rep h3 e1
    subst e2
    exact ⟨a, bs, rfl, sq_of R h2, h.here R _ (by rw [Rep])⟩
  · cases e
theorem pr_any (hK : X.K = T.K) : PrA T W (rAny X.K) (fun ds e s => opt (anyD ds) e s) := by
  intro F G P θ env sto σ H vs ds Q R r h
  obtain ⟨d, e, h⟩ := opt_some h
  rw [hK]
  unfold anyD at e
  split at e
  · obtain ⟨bs, e1, rfl⟩ := map_some e
    obtain ⟨v, rfl, r1⟩ := repl1 r
    simp only [Rep] at r1
    obtain ⟨a, us, rfl, h2, h3⟩ := r1
    have e2 := bls_rep h3 e1
    subst e2
    exact ⟨a, bs, rfl, sq_of R h2, h.here R _ (by rw [Rep])⟩
  · cases e
theorem pr_list (hK : X.K = T.K) : PrA T W (fun xs H Q => ∃ p ys, xs = [.ref p] ∧ (SqL X.K H p ys ∨ SqT X.K H p ys) ∧ ∀ l, H l = none → Q (.ref l) (upd H l (.lst ys))) (fun ds e s => opt (listD ds) e s) := by
  intro F G P θ env sto σ H vs ds Q R r h
  obtain ⟨d, e, h⟩ := opt_some h
  rw [hK]
  unfold listD at e
  split at e
  · cases e
    obtain ⟨v, rfl, r1⟩ := repl1 r
    simp only [Rep] at r1
    obtain ⟨a, us, rfl, h2, h3⟩ := r1
    refine ⟨a, us, rfl, .inl (sq_of R h2), fun p hp => h.alloc R hp _ ?_⟩
    rw [Rep]
    exact ⟨p, us, rfl, ⟨Rd.of upd_same, h2.2⟩, h3.mono (ex_upd (R.rc.new hp).1) (pfr θ)⟩
  · cases e
    obtain ⟨v, rfl, r1⟩ := repl1 r
    simp only [Rep] at r1
    obtain ⟨a, us, rfl, h2, h3⟩ := r1
    refine ⟨a, us, rfl, .inr (st_of R h2), fun p hp => h.alloc R hp _ ?_⟩
    rw [Rep]
    exact ⟨p, us, rfl, ⟨Rd.of upd_same, h2.2⟩, h3.mono (ex_upd (R.rc.new hp).1) (pfr θ)⟩
  · cases e
theorem pr_tuple (hK : X.K = T.K) : PrA T W (fun xs H Q => ∃ p ys, xs = [.ref p] ∧ ((SqL X.K H p ys ∧ ∀ l, H l = none → Q (.ref l) (upd H l (.tup ys))) ∨ (SqT X.K H p ys ∧ Q (.ref p) H))) (fun ds e s => opt (tupleD ds) e s) := by
  intro F G P θ env sto σ H vs ds Q R r h
  obtain ⟨d, e, h⟩ := opt_some h
  rw [hK]
  unfold tupleD at e
  split at e
  · cases e
    obtain ⟨v, rfl, r1⟩ := repl1 r
    simp only [Rep] at r1
    obtain ⟨a, us, rfl, h2, h3⟩ := r1
    refine ⟨a, us, rfl, .inl ⟨sq_of R h2, fun p hp => h.alloc R hp _ ?_⟩⟩
    rw [Rep]
    exact ⟨p, us, rfl, ⟨SqT.of upd_same, h2.2⟩, h3.mono (ex_upd (R.rc.new hp).1) (pfr θ)⟩
  · cases e
    obtain ⟨v, rfl, r1⟩ := repl1 r
    have r0 := r1
    simp only [Rep] at r1
    obtain ⟨a, us, rfl, h2, h3⟩ := r1
    exact ⟨a, us, rfl, .inr ⟨st_of R h2, h.here R _ r0⟩⟩
  · cases e
/-- a builtin's name, its value, its rule -/
def biN : Bi → Str
  | .len => "len" | .abs => "abs" | .int => "int" | .list => "list" | .tuple => "tuple" | .all => "all" | .any => "any" | .min => "min" | .max => "max"
def biV : Bi → Value
  | .len => .builtin "len" | .abs => .builtin "abs" | .int => .type "int" | .list => .type "list" | .tuple => .type "tuple" | .all => .builtin "all" | .any => .builtin "any" | .min => .builtin "min" | .max => .builtin "max"
theorem bi_boot (b : Bi) : bootBuiltins (biN b) = some (biV b) := by
  cases b <;> decide +kernel
theorem bi_ok (hK : X.K = T.K) (hc : X.calm = true) (b : Bi) : ∃ r, CallR X (biV b) r ∧ PrA T W r (fun ds e s => opt (biD s b ds) e s) := by
  cases b with
  | len => exact ⟨_, CallR.or call_len_seq call_len_str, pr_len hK⟩
  | abs => exact ⟨_, call_abs, pr_abs⟩
  | int => exact ⟨_, call_int1, pr_int⟩
  | list => exact ⟨_, call_list_of, pr_list hK⟩
  | tuple => exact ⟨_, call_tuple_of, pr_tuple hK⟩
  | all => exact ⟨_, cr_all hc, pr_all hK⟩
  | any => exact ⟨_, cr_any hc, pr_any hK⟩
  | min => exact ⟨_, call_min2 hc, pr_min⟩
  | max => exact ⟨_, call_max2 hc, pr_max⟩
end
end Mx

namespace Mx
open PySem L2
open Evl (Ex)

section
variable {T : Tb} {W : WX} {F G P : Hp} {θ : List Addr} {σ : St} {H : Hp} {env : En} {sto : So} {Q : VK} {X : Cx}
/-! ### methods of texts -/
def PrM (T : Tb) (W : WX) (r : V → List V → Hp → VK → Prop) (k : D → List D → DM D) : Prop := ∀ {F G P : Hp} {θ : List Addr} {env : En} {sto : So} {σ : St} {H : Hp} {x : V} {d : D} {vs : List V} {ds : List D} {Q : VK}, Rel T F G P θ env sto σ H → Rep T P θ d x → RepL T P θ ds vs →
  Pst T W F G P θ σ (k d ds env sto) (KE T Q) → r x vs H Q
def rJoin (K : PySem.W.Frag) : V → List V → Hp → VK → Prop := fun x xs H Q => ∃ a p, ∃ ys : List Str, x = .str a ∧ xs = [.ref p] ∧ (SqL K H p (ys.map V.str) ∨ SqT K H p (ys.map V.str)) ∧
      (ys.map (·.length)).sum + ys.length * a.length ≤ 16777216 ∧ Q (.str (Txt.join a ys)) H
theorem joinL_len (S : List Nat) : ∀ ss : List (List Nat), (TL.joinL S ss).length ≤ (ss.map List.length).sum + ss.length * S.length
  | [] => by simp [TL.joinL]
  | [p] => by simp [TL.joinL]
  | p :: q :: r => by
    have ih := joinL_len S (q :: r)
    simp only [TL.joinL, List.length_append, List.map_cons, List.sum_cons, List.length_cons, Nat.add_mul] at ih ⊢
    omega
theorem pr_join (hK : X.K = T.K) : PrM T W (rJoin X.K) (fun x ds e s => opt (joinD x ds) e s) := by
  intro F G P θ env sto σ H x d vs ds Q R rx r h
  obtain ⟨d', e, h⟩ := opt_some h
  rw [hK]
  unfold joinD at e
  split at e
  · rename_i s xs
    cases hs : strsD xs with
    | none => rw [hs] at e; cases e
    | some ss =>
      rw [hs] at e
      simp only [Option.bind_some] at e
      split at e
      · rename_i hz
        cases e
        obtain ⟨v, rfl, r1⟩ := repl1 r
        simp only [Rep] at rx r1
        obtain ⟨rfl, _⟩ := rx
        obtain ⟨a, us, rfl, h2, h3⟩ := r1
        have e2 := strs_rep h3 hs
        subst e2
        have el : (ss.map fun s => (⟨s.toArray⟩ : Str)).map (·.length) = ss.map List.length := by
          rw [List.map_map]; apply List.map_congr_left; intro z _; exact str_len z
        refine ⟨_, a, _, rfl, rfl, .inl (sq_of R h2), ?_, ?_⟩
        · rw [el, List.length_map, str_len]; exact hz
        · have e3 : Txt.join ⟨s.toArray⟩ (ss.map fun s => (⟨s.toArray⟩ : Str)) = ⟨(TL.joinL s ss).toArray⟩ := by
            apply TL.ext_tl
            rw [TL.join_eq, TL.tl_join, List.map_map]
            show TL.joinL s (ss.map fun z => z) = TL.joinL s ss
            rw [List.map_id']
          rw [e3]
          refine h.here R _ ?_
          rw [Rep]
          exact ⟨rfl, Nat.le_trans (joinL_len s ss) hz⟩
      · cases e
  · cases e
def rSplit : V → List V → Hp → VK → Prop := fun x xs H Q => ∃ a b, x = .str a ∧ xs = [.str b] ∧ (b.length == 0) = false ∧ a.length + 2 ≤ sizeLine ∧ rNewStrs (Txt.split a b) H Q
theorem spl_sum (S : List Nat) : ∀ (l : List Nat) (k : Nat) (acc : List Nat), ∀ p ∈ TL.spl S k acc l, p.length ≤ acc.length + l.length
  | [], k, acc, p, h => by
    rw [TL.spl_nil] at h
    simp at h; subst h; simp
  | c :: r, 0, acc, p, h => by
    by_cases hp : TL.pre S (c :: r) = true
    · rw [TL.spl_hit hp] at h
      rcases List.mem_cons.mp h with rfl | h
      · simp
      · have := spl_sum S r (S.length - 1) [] p h
        simp at this ⊢; omega
    · rw [TL.spl_miss (by simpa using hp)] at h
      have := spl_sum S r 0 (acc ++ [c]) p h
      simp at this ⊢; omega
  | c :: r, k + 1, acc, p, h => by
    have h : p ∈ TL.spl S k acc r := h
    have := spl_sum S r k acc p h
    simp at this ⊢; omega
theorem spl_count (c : Nat) : ∀ (l acc : List Nat), (TL.spl [c] 0 acc l).length ≤ l.length + 1
  | [], acc => by rw [TL.spl_nil]; simp
  | d :: r, acc => by
    by_cases hp : TL.pre [c] (d :: r) = true
    · rw [TL.spl_hit hp]
      have := spl_count c r []
      simp only [List.length_cons] at this ⊢
      exact Nat.succ_le_succ this
    · rw [TL.spl_miss (by simpa using hp)]
      have := spl_count c r (acc ++ [d])
      simp only [List.length_cons]; omega
theorem repl_strs {ss : List (List Nat)} (hz : ∀ p ∈ ss, p.length ≤ sizeLine) : RepL T P θ (ss.map .str) ((ss.map fun s => (⟨s.toArray⟩ : Str)).map V.str) := by
  induction ss with
  | nil => exact RepL.nil
  | cons s ss ih =>
    refine RepL.cons ?_ (ih fun p hp => hz p (List.mem_cons_of_mem _ hp))
    rw [Rep]
    exact ⟨rfl, hz s List.mem_cons_self⟩
theorem pr_split : PrM T W rSplit (fun x ds e s => opt (splitD x ds) e s) := by
  intro F G P θ env sto σ H x d vs ds Q R rx r h
  obtain ⟨d', e, h⟩ := opt_some h
  unfold splitD at e
  split at e
  · rename_i s c
    split at e
    · rename_i hz
      cases e
      obtain ⟨v, rfl, r1⟩ := repl1 r
      simp only [Rep] at rx r1
      obtain ⟨rfl, hl⟩ := rx
      obtain ⟨rfl, _⟩ := r1
      refine ⟨_, _, rfl, rfl, rfl, by rw [str_len]; exact hz.1, ?_⟩
      have e3 : Txt.split ⟨s.toArray⟩ ⟨[c].toArray⟩ = (TL.spl [c] 0 [] s).map fun s => (⟨s.toArray⟩ : Str) := by
        apply TL.map_tl_inj
        rw [TL.split_spl _ _ (by simp) (TL.kind_ok (by simpa using hz.2)), List.map_map]
        show TL.spl [c] 0 [] s = List.map (fun z => z) _
        rw [List.map_id']
      rw [e3]
      intro p hp
      refine h.alloc R hp _ ?_
      rw [Rep]
      refine ⟨p, _, rfl, ⟨Rd.of upd_same, by rw [List.length_map, List.length_map]; exact Nat.le_trans (spl_count c s []) (by have h5 : s.length + 2 ≤ 16777216 := hz.1; show s.length + 1 ≤ 2 ^ 24; omega)⟩, repl_strs fun q hq => ?_⟩
      have := spl_sum [c] s 0 [] q hq
      simp at this; omega
    · cases e
  · cases e
/-! ### items -/
theorem atI_map {α β : Type} {xs : List α} {i : Int} {f : α → β} : atI (xs.map f) i = (atI xs i).map f := by
  unfold atI
  rw [List.length_map]
  cases ixN xs.length i with
  | none => rfl
  | some j => simp
theorem atI_rep {ds : List D} {vs : List V} {i : Int} {d : D} (h : RepL T P θ ds vs) (e : atI ds i = some d) : ∃ v, atI vs i = some v ∧ Rep T P θ d v := by
  unfold atI at e ⊢
  rw [← h.length]
  cases hj : ixN ds.length i with
  | none => rw [hj] at e; cases e
  | some j =>
    rw [hj] at e
    exact h.get e
theorem pr_sub' (hK : X.K = T.K) : Pr2 T W (rIx X.K) (fun x y e s => opt (subD s x y) e s) := by
  intro F G P θ env sto σ H x y d1 d2 Q R r1 r2 h
  obtain ⟨d, e, hk⟩ := opt_some h
  clear h
  rw [hK]
  unfold subD at e
  split at e
  · rename_i s i
    obtain ⟨c, e1, rfl⟩ := map_some e
    simp only [Rep] at r1 r2
    obtain ⟨rfl, hz⟩ := r1
    subst r2
    refine .inr (.inr ⟨_, i, c, rfl, rfl, by rw [str_len]; exact hz, e1, hk.here R _ ?_⟩)
    rw [Rep]
    exact ⟨rfl, by show 1 ≤ sizeLine; decide⟩
  · rename_i dd i hne
    have r2' : y = .int i := by simpa only [Rep] using r2
    subst r2'
    unfold seqD at e
    split at e
    · rename_i xs
      simp only [Option.bind_some] at e
      simp only [Rep] at r1
      obtain ⟨a, us, rfl, h2, h3⟩ := r1
      obtain ⟨v, e1, rv⟩ := atI_rep h3 e
      exact .inl ⟨a, us, i, v, rfl, rfl, sq_of R h2, e1, hk.here R _ rv⟩
    · rename_i xs
      simp only [Option.bind_some] at e
      simp only [Rep] at r1
      obtain ⟨a, us, rfl, h2, h3⟩ := r1
      obtain ⟨v, e1, rv⟩ := atI_rep h3 e
      exact .inr (.inl ⟨a, us, i, v, rfl, rfl, st_of R h2, e1, hk.here R _ rv⟩)
    · rename_i n
      split at e
      · rename_i xs hx
        simp only [Option.bind_some] at e
        simp only [Rep] at r1
        obtain ⟨a, ha, rfl⟩ := r1
        obtain ⟨o, ho, us, ⟨rfl, _⟩, h3⟩ := R.rc.cel n _ a hx ha
        obtain ⟨v, e1, rv⟩ := atI_rep h3 e
        exact .inl ⟨a, us, i, v, rfl, rfl, .inl (.inl ho), e1, hk.here R _ rv⟩
      · cases e
    · cases e
  · cases e
/-! ### slices -/
def RdO (T : Tb) (W : WX) (m : DM (Option Int)) : TO := fun σ H Q => ∃ F G P θ env sto, Rel T F G P θ env sto σ H ∧ Pst T W F G P θ σ (m env sto) fun o _ _ P' θ' H' => Q o H'
theorem rdo_no {Q : Option Int → Hp → Prop} (h : RdO T W (fun e s => .ok none e s) σ H Q) : tNoPart σ H Q := by
  obtain ⟨F, G, P, θ, env, sto, R, h⟩ := h
  exact h.here R
theorem rdo_yes {m : DM D} {Q : Option Int → Hp → Prop} (h : RdO T W (fun e s => (m e s).bind fun d e s => match d with | .int i => .ok (some i) e s | _ => .bad) σ H Q) : tPart (RdE T W m) σ H Q := by
  obtain ⟨F, G, P, θ, env, sto, R, h⟩ := h
  refine ⟨F, G, P, θ, env, sto, R, h.bnd fun d e s P1 θ1 H1 _ _ R1 q v rv => ?_⟩
  cases d <;> try exact q.elim
  simp only [Rep] at rv
  exact ⟨_, rv, q.here R1⟩
def rSlX (K : PySem.W.Frag) : V → Option Int → Option Int → Hp → VK → Prop := fun x lo hi H Q => rSlL K x lo hi H Q ∨ rSlS x lo hi H Q
theorem cut_rep {ds : List D} {vs : List V} {lo hi : Option Int} (h : RepL T P θ ds vs) : RepL T P θ (cutD ds lo hi) (cutV vs lo hi) := by
  unfold cutD cutV
  rw [h.length]
  exact (h.drop _).take _
theorem repl_ints (ns : List Int) : RepL T P θ (ns.map .int) (ns.map V.int) := by
  induction ns with
  | nil => exact RepL.nil
  | cons n ns ih => exact RepL.cons (by rw [Rep]) ih
theorem pr_slc (hK : X.K = T.K) {x : V} {d : D} {lo hi : Option Int} (R : Rel T F G P θ env sto σ H) (rx : Rep T P θ d x) (h : Pst T W F G P θ σ (opt (slcD d lo hi) env sto) (KE T Q)) : rSlX X.K x lo hi H Q := by
  obtain ⟨d', e, h⟩ := opt_some h
  rw [hK]
  unfold slcD at e
  split at e
  · rename_i s
    cases e
    simp only [Rep] at rx
    obtain ⟨rfl, hz⟩ := rx
    refine .inr ⟨_, rfl, by rw [str_len]; exact hz, ?_⟩
    have e2 : cutS ⟨s.toArray⟩ lo hi = ⟨(cutD s lo hi).toArray⟩ := by
      unfold cutS cutD
      rw [str_len]
    rw [e2]
    refine h.here R _ ?_
    rw [Rep]
    refine ⟨rfl, Nat.le_trans ?_ hz⟩
    unfold cutD
    rw [List.length_take, List.length_drop]
    omega
  · cases e
    simp only [Rep] at rx
    obtain ⟨a, us, rfl, h2, h3⟩ := rx
    refine .inl ⟨a, us, rfl, sq_of R h2, fun p hp => h.alloc R hp _ ?_⟩
    rw [Rep]
    exact ⟨p, _, rfl, ⟨Rd.of upd_same, Nat.le_trans (cutV_length us lo hi) h2.2⟩, (cut_rep h3).mono (ex_upd (R.rc.new hp).1) (pfr θ)⟩
  · rename_i ns
    cases e
    simp only [Rep] at rx
    obtain ⟨a, rfl, h2, hz⟩ := rx
    have h3 : RepL T P θ (ns.map .int) (ns.map V.int) := repl_ints ns
    refine .inl ⟨a, _, rfl, Evl.ex_l R.rc.pH h2, fun p hp => h.alloc R hp _ ?_⟩
    rw [Rep]
    exact ⟨p, _, rfl, ⟨Rd.of upd_same, Nat.le_trans (cutV_length _ lo hi) (by rw [List.length_map]; exact hz)⟩, (cut_rep h3).mono (ex_upd (R.rc.new hp).1) (pfr θ)⟩
  · cases e
theorem rd_slc (hK : X.K = T.K) {m : DM D} {l h' : DM (Option Int)} (h : RdE T W (fun e s => (m e s).bind fun x e s => (l e s).bind fun l e s => (h' e s).bind fun h e s => opt (slcD x l h) e s) σ H Q) : tSl (rSlX X.K) (RdE T W m) (RdO T W l) (RdO T W h') σ H Q := by
  obtain ⟨F, G, P, θ, env, sto, R, h⟩ := h
  refine ⟨F, G, P, θ, env, sto, R, h.bnd fun x e1 s1 P1 θ1 H1 _ _ R1 q v rv => ?_⟩
  refine ⟨F, G, P1, θ1, e1, s1, R1, q.bnd fun lo e2 s2 P2 θ2 H2 a2 t2 R2 q2 => ?_⟩
  exact ⟨F, G, P2, θ2, e2, s2, R2, q2.bnd fun hi e3 s3 P3 θ3 H3 a3 t3 R3 q3 => pr_slc hK R3 ((rv.mono a2 t2).mono a3 t3) q3⟩
/-! ### isinstance -/
theorem tyx_rep {d : D} {x : V} {n : String} (eH : Ex P H) (r : Rep T P θ d x) (e : tyD d = some n) : TyX T.K H x (.type n) := by
  cases d <;> simp only [tyD, reduceCtorEq, Option.some.injEq] at e <;> subst e <;> simp only [Rep] at r
  · subst r; exact .base .non
  · subst r; exact .base (.bl _)
  · subst r; exact .base (.int _)
  · obtain ⟨rfl, _⟩ := r; exact .base (.str _)
  · obtain ⟨a, us, rfl, h2, _⟩ := r
    rcases Evl.ex_rd eH h2.1 with h2 | ⟨o, h2⟩
    · exact .base (.lst h2)
    · exact .base (.frz h2)
  · obtain ⟨a, us, rfl, h2, _⟩ := r
    rcases Evl.ex_t eH h2.1 with (h2 | ⟨o, h2⟩) | ⟨o, its, k, h2, h3, _⟩
    · exact .base (.tup h2)
    · exact .fTuple h2
    · exact .kTuple h2 h3
theorem pr_isi (hK : X.K = T.K) {t : String} {d : D} {x : V} (R : Rel T F G P θ env sto σ H) (rx : Rep T P θ d x) {b : Bool} (e : isiD t d = some b) (q : Q (.bl b) H) : rIsi X.K [x, .ty t] H Q := by
  rw [hK]
  unfold isiD at e
  cases ht : tyD d with
  | none => rw [ht] at e; cases e
  | some n =>
    rw [ht] at e
    exact ⟨x, .ty t, .type n, .type t, b, rfl, .ty t, tyx_rep R.rc.pH rx ht, kit_ty e, q⟩
theorem kitAny_of {n : String} : ∀ {ts : List String} {d : D} {b : Bool}, tyD d = some n → isiTD ts d = some b → PySem.W.kitAny T.K (.type n) (ts.map Value.type) = some b
  | [], d, b, _, e => by cases e; exact kitAny_nil
  | t :: ts, d, b, ht, e => by
    unfold isiTD at e
    cases h1 : isiD t d with
    | none => rw [h1] at e; cases e
    | some c =>
      rw [h1] at e
      simp only [Option.bind_some] at e
      have k : PySem.W.kitOne T.K (.type n) (.type t) = some c := by
        unfold isiD at h1
        rw [ht] at h1
        exact kit_ty h1
      cases c with
      | true =>
        cases e
        exact kitAny_cons k (fun z => nomatch z) (fun _ => rfl)
      | false =>
        exact kitAny_cons k (fun _ => kitAny_of ht e) (fun z => nomatch z)
end
end Mx

namespace Mx
open PySem L2
open Evl (Ex)

/-! ### calls of defs -/
def spOf (T : Tb) (g : List D → So → Rc) (n : Nat) : Sp := fun vs H Q E => ∃ F G P θ sto ds, RC T F G P θ sto H ∧ RepL T P θ ds vs ∧ ds.length = n ∧ (match g ds sto with
  | .ok d sto' => ∀ v P' θ' H', Ex P P' → θ <+: θ' → RC T F G P' θ' sto' H' → Rep T P' θ' d v → Q v H'
  | .er x sto' => ∀ cls dx P' θ' H', Ex P P' → θ <+: θ' → RC T F G P' θ' sto' H' → XRep T P' θ' x cls dx H' → E cls dx H'
  | .bad => False)
def callR (g : List D → So → Rc) (ds : List D) (e : En) (s : So) : Res D := match g ds s with
  | .ok d s' => .ok d e s'
  | .er x s' => .er x e s'
  | .bad => .bad
theorem callD_eq (p : Pg) (f : Nat) : callD p f = callR (p.cl f) := rfl
/-- how a call of n positional values and the keywords ks binds -/
def BindG (T : Tb) (fd : FuncData) (ps : List Str) (n : Nat) (ks : List Str) (bd : List Bd) : Prop :=
  ∀ (s : Shared) (us ws : List Value), T.K.In s.heap → us.length = n → ws.length = ks.length → ∃ bs : List Value, BindsTo s fd ⟨us, ks.zip ws⟩ (ps.zip bs) ∧
    ∀ (P : Hp) (θ : List Addr) (ds as : List D) (vs : List V), RepL T P θ ds vs → Vals vs (us ++ ws) → bdD ds bd = some as → ∃ vas, RepL T P θ as vas ∧ Vals vas bs
section
variable {T : Tb} {W : WX} {F G P : Hp} {θ : List Addr} {σ : St} {H : Hp} {env : En} {sto : So} {Q : VK} {X : Cx}
/-- the end of a call, from below the caller -/
theorem run_code {A : Around} {pins : List (Addr × Obj)} {s : Shared} {k : Nat} {f : Addr} {fd : FuncData} {ps ks : List Str} {g : List D → So → Rc} {n : Nat} {bd : List Bd} (Fo : FnOk X.prog X.w X.K X.mg X.base (L2.CX X.prog X.w) k f fd ps (spOf T g ps.length)) (hr : Room k A) (e0 : Env0 X.prog X.w X.K X.mg X.base A X.stack s H)
    (hK : X.K = T.K) (hb : BindG T fd ps n ks bd) (hbl : bd.length = ps.length) (tk : Takes X W) (I : Inv X pins σ H s) {us ws : List Value} {vs zs : List V} {ds es : List D} (hn : us.length = n) (hk : ws.length = ks.length) (rv : Vals vs us) (rz : Vals zs ws)
    (R : Rel T F G P θ env sto σ H) (h1 : RepL T P θ ds vs) (h2 : RepL T P θ es zs) (h : Pst T W F G P θ σ ((opt (bdD (ds ++ es) bd) env sto).bind fun as e s => callR g as e s) (KE T Q)) :
    codeAny (model X.prog X.w) A (.call (.ref f) ⟨us, ks.zip ws⟩) (fun r s' => match r with | .ok (.ret u) => EP X pins σ Q u s' | .ok _ => False | .error e => X.xe e s') s := by
  have h' := h.bind
  obtain ⟨as, ea, h'⟩ := opt_some h'
  have h := h'.here R
  clear h'
  obtain ⟨bs, hB, hV⟩ := hb s us ws (by rw [← hK]; exact I.kIn) hn hk
  obtain ⟨vas, rep, rva⟩ := hV P θ (ds ++ es) as (vs ++ zs) (h1.append h2) (rv.append rz) ea
  have hlen : as.length = ps.length := by
    have : ∀ {ds : List D} {bd : List Bd} {as : List D}, bdD ds bd = some as → as.length = bd.length := by
      intro ds bd
      induction bd with
      | nil => intro as e; cases e; rfl
      | cons b bd ih =>
        intro as e
        cases b with
        | arg m =>
          simp only [bdD] at e
          cases hm : ds[m]? with
          | none => rw [hm] at e; cases e
          | some d =>
            rw [hm] at e
            obtain ⟨r, e1, rfl⟩ := map_some (show (bdD ds bd).map (d :: ·) = some as from e)
            rw [List.length_cons, ih e1]; rfl
        | dft d =>
          obtain ⟨r, e1, rfl⟩ := map_some (show (bdD ds bd).map (d :: ·) = some as from e)
          rw [List.length_cons, ih e1]; rfl
    rw [this ea, hbl]
  obtain ⟨F', RC0, fF, back⟩ := R.toCall
  have hsp : spOf T g ps.length vas H Q (fun cls d H' => W cls d σ H') := by
    refine ⟨F', G, P, θ, sto, as, RC0, rep, hlen, ?_⟩
    unfold callR at h
    cases hg : g as sto with
    | ok d sto' =>
      rw [hg] at h
      exact fun v P' θ' H' a t rc rp => h P' θ' H' a t (back P' θ' sto' H' a t rc) v rp
    | er x sto' =>
      rw [hg] at h
      exact fun cls dx P' θ' H' a t rc rp => h cls dx P' θ' H' a t (back P' θ' sto' H' a t rc) rp
    | bad => rw [hg] at h; exact h
  refine codeAny_mono (Fo.run A X.stack s H ⟨us, ks.zip ws⟩ bs vas Q (fun cls d H' => W cls d σ H') hr e0 hB rva hsp) fun r s' hq => ?_
  cases r with
  | error e => exact passAt tk σ pins H s e s' I hq
  | ok fl =>
    cases fl with
    | ret u => exact I.after hq
    | next => exact False.elim hq
    | brk => exact False.elim hq
    | cont => exact False.elim hq

/-- the end of a call, from the caller -/
theorem run_call {pins : List (Addr × Obj)} {s : Shared} {k : Nat} {f : Addr} {fd : FuncData} {ps ks : List Str} {g : List D → So → Rc} {n : Nat} {bd : List Bd} (Fo : FnOk X.prog X.w X.K X.mg X.base (L2.CX X.prog X.w) k f fd ps (spOf T g ps.length)) (hr : Room k X.A)
    (hK : X.K = T.K) (hb : BindG T fd ps n ks bd) (hbl : bd.length = ps.length) (tk : Takes X W) (I : Inv X pins σ H s) {us ws : List Value} {vs zs : List V} {ds es : List D} (hn : us.length = n) (hk : ws.length = ks.length) (rv : Vals vs us) (rz : Vals zs ws)
    (R : Rel T F G P θ env sto σ H) (h1 : RepL T P θ ds vs) (h2 : RepL T P θ es zs) (h : Pst T W F G P θ σ ((opt (bdD (ds ++ es) bd) env sto).bind fun as e s => callR g as e s) (KE T Q)) :
    wpAny (model X.prog X.w) X.A (call (.ref f) us (ks.zip ws)) (EP X pins σ Q) X.xe s := by
  refine wpAny_call (codeAny_mono (run_code Fo hr I.env0 hK hb hbl tk I hn hk rv rz R h1 h2 h) fun r s' hq => ?_)
  cases r with
  | error e => exact hq
  | ok fl => cases fl <;> exact hq

/-- no star -/
def plain : Expr → Bool
  | .Starred _ _ => false
  | _ => true
theorem star_plain {e : Expr} {es : List Expr} {env : Env} (h : plain e = true) : starEach (e :: es) env = (false, eval e env) :: starEach es env := by
  cases e <;> first | rfl | cases h
theorem star_any {es : List Expr} {env : Env} {pos : Pos} (h : es.all plain = true) : (backTo pos (starEach es env)).any (·.1) = false := by
  induction es with
  | nil => rfl
  | cons e es ih =>
    rw [List.all_cons, Bool.and_eq_true] at h
    rw [star_plain h.1]
    show (false || (backTo pos (starEach es env)).any (·.1)) = false
    rw [ih h.2]; rfl
def kwN : List Keyword → Option (List Str)
  | [] => some []
  | ⟨some n, _, _⟩ :: r => (kwN r).map (n :: ·)
  | _ => none
theorem kw_all {kws : List Keyword} {ks : List Str} {env : Env} {pos : Pos} (h : kwN kws = some ks) : (backToKw pos (keywordEach kws env)).all (·.1.isSome) = true ∧ (backToKw pos (keywordEach kws env)).filterMap (·.1) = ks ∧ (backToKw pos (keywordEach kws env)).any (·.1.isNone) = false ∧ kws.length = ks.length := by
  induction kws generalizing ks with
  | nil => cases h; exact ⟨rfl, rfl, rfl, rfl⟩
  | cons k kws ih =>
    obtain ⟨nm, v, p⟩ := k
    cases nm with
    | none => cases h
    | some n =>
      obtain ⟨r, e, rfl⟩ := map_some (show (kwN kws).map (n :: ·) = some ks from h)
      obtain ⟨i1, i2, i3, i4⟩ := ih e
      refine ⟨?_, ?_, ?_, ?_⟩
      · show (true && (backToKw pos (keywordEach kws env)).all (·.1.isSome)) = true
        rw [i1]; rfl
      · show n :: (backToKw pos (keywordEach kws env)).filterMap (·.1) = n :: r
        rw [i2]
      · show (false || (backToKw pos (keywordEach kws env)).any (·.1.isNone)) = false
        rw [i3]; rfl
      · rw [List.length_cons, List.length_cons, i4]
theorem pe_callX {k n : Nat} {f : Addr} {fd : FuncData} {ps ks : List Str} {g : List D → So → Rc} {bd : List Bd} {x : Str} {p pos : Pos} {es : List Expr} {kws : List Keyword} {mA mK : DM (List D)}
    (Fo : FnOk X.prog X.w X.K X.mg X.base (L2.CX X.prog X.w) k f fd ps (spOf T g ps.length)) (hr : Room k X.A) (hK : X.K = T.K) (hg : Gl X x) (hm : X.mg x = some (.ref f)) (hkp : PySem.W.keepIn X.K (.ref f) = true) (hb : BindG T fd ps n ks bd) (hbl : bd.length = ps.length) (tk : Takes X W)
    (ha : PA X es (RdA T W mA)) (hkw : PK X kws (RdA T W mK)) (hpl : es.all plain = true) (hks : kwN kws = some ks) (hnA : ∀ e s ds e' s', mA e s = .ok ds e' s' → ds.length = n) (hnK : ∀ e s ds e' s', mK e s = .ok ds e' s' → ds.length = ks.length) (hnil : es = [] → mA = fun e s => .ok [] e s) (hdb : (x == ("__debug__" : Str)) = false) :
    PE X (.Call (.Name x p) es kws pos) (RdE T W (fun e s => (mA e s).bind fun ds e s => (mK e s).bind fun zs e s => (opt (bdD (ds ++ zs) bd) e s).bind fun as e s => callR g as e s)) := by
  refine ⟨fun pins s σ H Q I h => ?_⟩
  refine wpAny_Call_Name_kw (ld_glob I hg hm ?_ hdb)
  obtain ⟨k1, k2, k3, k4⟩ := kw_all (env := X.env) (pos := pos) hks
  -- the reading of the arguments, then of the keywords
  have hA : RdA T W mA σ H fun vs H1 => vs.length = n ∧ RdA T W mK σ H1 fun zs H2 => zs.length = ks.length ∧ ∃ F G P θ env sto ds es, Rel T F G P θ env sto σ H2 ∧ RepL T P θ ds vs ∧ RepL T P θ es zs ∧
      Pst T W F G P θ σ ((opt (bdD (ds ++ es) bd) env sto).bind fun as e s => callR g as e s) (KE T Q) := by
    obtain ⟨F, G, P, θ, env, sto, R, h⟩ := h
    dsimp only at h
    refine ⟨F, G, P, θ, env, sto, R, ?_⟩
    cases hd : mA env sto with
    | er x e1 s1 => rw [hd] at h; exact h
    | bad => rw [hd] at h; exact h.elim
    | ok ds e1 s1 =>
      rw [hd] at h
      intro P1 θ1 H1 a1 t1 R1 vs rv
      refine ⟨by rw [← rv.length]; exact hnA _ _ _ _ _ hd, F, G, P1, θ1, e1, s1, R1, ?_⟩
      have h1 : Pst T W F G P1 θ1 σ ((mK e1 s1).bind fun zs e s => (opt (bdD (ds ++ zs) bd) e s).bind fun as e s => callR g as e s) (KE T Q) := Pst.mono h a1 t1 fun _ _ _ _ _ _ _ _ _ q => q
      cases hz : mK e1 s1 with
      | er x e2 s2 => rw [hz] at h1; exact h1
      | bad => rw [hz] at h1; exact h1.elim
      | ok es e2 s2 =>
        rw [hz] at h1
        intro P2 θ2 H2 a2 t2 R2 zs rz
        exact ⟨by rw [← rz.length]; exact hnK _ _ _ _ _ hz, F, G, P2, θ2, e2, s2, ds, es, R2, rv.mono a2 t2, rz, Pst.mono h1 a2 t2 fun _ _ _ _ _ _ _ _ _ q => q⟩
  have fin : ∀ {us ws : List Value} {s2 : Shared} {vs zs : List V} {H2 : Hp}, Inv X pins σ H2 s2 → Vals vs us → Vals zs ws → vs.length = n → (zs.length = ks.length ∧ ∃ F G P θ env sto ds es, Rel T F G P θ env sto σ H2 ∧ RepL T P θ ds vs ∧ RepL T P θ es zs ∧
      Pst T W F G P θ σ ((opt (bdD (ds ++ es) bd) env sto).bind fun as e s => callR g as e s) (KE T Q)) → wpAny (model X.prog X.w) X.A (call (.ref f) us (ks.zip ws)) (EP X pins σ Q) X.xe s2 := by
    intro us ws s2 vs zs H2 I2 rv rz hn ⟨hz, F, G, P, θ, env, sto, ds, es, R, r1, r2, q⟩
    exact run_call Fo hr hK hb hbl tk I2 (by rw [← rv.length]; exact hn) (by rw [← rz.length]; exact hz) rv rz R r1 r2 q
  cases es with
  | nil =>
    have q0 : n = 0 ∧ RdA T W mK σ H fun zs H2 => zs.length = ks.length ∧ ∃ F G P θ env sto ds es, Rel T F G P θ env sto σ H2 ∧ RepL T P θ ds [] ∧ RepL T P θ es zs ∧
      Pst T W F G P θ σ ((opt (bdD (ds ++ es) bd) env sto).bind fun as e s => callR g as e s) (KE T Q) := by
      rw [hnil rfl] at hA
      have := rda_nil hA
      exact ⟨this.1.symm, this.2⟩
    refine PySem.W.callWith_KW0 (first := []) (h₀ := X.base) I.ok.mod.kin hkp k1 (thn (hkw.run pos pins s σ H _ I q0.2) fun ws s2 ⟨zs, H2, I2, rz, q2⟩ => ⟨I2.kIn, ?_⟩) (by rw [k3]; rfl)
    rw [k2]
    exact fin I2 .nil rz q0.1.symm q2
  | cons e es =>
    rw [List.all_cons, Bool.and_eq_true] at hpl
    refine PySem.W.callWith_KW (first := []) (h₀ := X.base) I.ok.mod.kin hkp k1 (thn (ha.run pos pins s σ H _ I hA) fun us s1 ⟨vs, H1, I1, rv, hn, q⟩ => thn (hkw.run pos pins s1 σ H1 _ I1 q) fun ws s2 ⟨zs, H2, I2, rz, q2⟩ => ⟨I2.kIn, ?_⟩) ?_ (star_plain hpl.1)
    · rw [k2]
      exact fin I2 rv rz hn q2
    · rw [star_any (by rw [List.all_cons, hpl.1, hpl.2]; rfl), k3]; rfl
end
end Mx

namespace Mx
open PySem L2
open Evl (Ex)

def YD (T : Tb) (P : Hp) (θ : List Addr) (ds : List D) : Nat → Hp → V → Hp → Prop := fun i H x H' => ∃ d, ds[i]? = some d ∧ ∀ (F G P1 : Hp) (θ1 : List Addr) (env : En) (sto : So) (σ : St), Ex P P1 → θ <+: θ1 → Rel T F G P1 θ1 env sto σ H →
  ∃ P2, Ex P1 P2 ∧ Rel T F G P2 θ1 env sto σ H' ∧ Rep T P2 θ1 d x
abbrev WalkD (T : Tb) (P : Hp) (θ : List Addr) (ds : List D) (J : It) : Prop := Walk J ds.length (fun H => Ex P H) (YD T P θ ds)
def RdI (T : Tb) (W : WX) (m : DM (List D)) : TI := fun σ H R => ∃ F G P θ env sto, Rel T F G P θ env sto σ H ∧ Pst T W F G P θ σ (m env sto) fun ds _ _ P' θ' H' => ∀ J, WalkD T P' θ' ds J → ds.length ≤ sizeLine → R J H'

section
variable {T : Tb} {W : WX} {F G P : Hp} {θ : List Addr} {σ : St} {H : Hp} {env : En} {sto : So} {Q : VK} {X : Cx}
theorem wd_list {a : Addr} {ds : List D} {vs : List V} (h2 : RdL P a vs) (h3 : RepL T P θ ds vs) : WalkD T P θ ds (Itl T.K a) := by
  show Walk _ ds.length _ _
  rw [h3.length]
  refine walk_list.mono (fun H e => .inl (Evl.ex_rd e h2.1)) (fun i H x H' hi e ⟨e1, e2⟩ => ?_)
  subst e1
  obtain ⟨d, hd, rd⟩ := h3.get' e2
  exact ⟨d, hd, fun F G P1 θ1 env sto σ a t R => ⟨P1, exr P1, R, rd.mono a t⟩⟩
theorem wd_tup {a : Addr} {ds : List D} {vs : List V} (h2 : StL T.K P a vs) (h3 : RepL T P θ ds vs) : WalkD T P θ ds (Itt T.K a) := by
  show Walk _ ds.length _ _
  rw [h3.length]
  refine walk_tup.mono (fun H e => Evl.ex_t e h2.1) (fun i H x H' hi e ⟨e1, e2⟩ => ?_)
  subst e1
  obtain ⟨d, hd, rd⟩ := h3.get' e2
  exact ⟨d, hd, fun F G P1 θ1 env sto σ a t R => ⟨P1, exr P1, R, rd.mono a t⟩⟩
theorem wd_str {s : List Nat} : WalkD T P θ (s.map fun c => .str [c]) (Its ⟨s.toArray⟩) := by
  show Walk _ (s.map fun c => D.str [c]).length _ _
  have hn : (s.map fun c => D.str [c]).length = (⟨s.toArray⟩ : Str).cps.size := by simp
  rw [hn]
  refine walk_str.mono (fun H e => trivial) (fun i H x H' hi e ⟨e1, c, e2, e3⟩ => ?_)
  subst e1 e3
  have e2 : s[i]? = some c := by simpa using e2
  refine ⟨.str [c], by rw [List.getElem?_map, e2]; rfl, fun F G P1 θ1 env sto σ a t R => ⟨P1, exr P1, R, ?_⟩⟩
  rw [Rep]
  exact ⟨rfl, by show 1 ≤ sizeLine; decide⟩
theorem wd_range {lo : Int} {n : Nat} : WalkD T P θ (rngD lo n) (Itr lo n) := by
  show Walk _ (rngD lo n).length _ _
  have hn : (rngD lo n).length = n := by simp [rngD]
  rw [hn]
  refine walk_range.mono (fun H e => trivial) (fun i H x H' hi e ⟨e1, e2⟩ => ?_)
  subst e1 e2
  refine ⟨.int (lo + i), by simp [rngD, hi], fun F G P1 θ1 env sto σ a t R => ⟨P1, exr P1, R, ?_⟩⟩
  rw [Rep]
/-- a new pair -/
theorem yd_pair {ds : List D} {i : Nat} {H H' : Hp} {v x y : V} {d e : D} {p : Addr} (hv : v = .ref p) (hp : H p = none) (hH : H' = upd H p (.tup [x, y])) (hi : ds[i]? = some (.tup [d, e])) (rx : Rep T P θ d x) (ry : Rep T P θ e y) : YD T P θ ds i H v H' := by
  subst hv hH
  refine ⟨_, hi, fun F G P1 θ1 env sto σ a t R => ⟨upd P1 p (.tup [x, y]), ex_upd (R.rc.new hp).1, R.alloc hp, ?_⟩⟩
  have eP : Ex P1 (upd P1 p (.tup [x, y])) := ex_upd (R.rc.new hp).1
  rw [Rep]
  exact ⟨p, _, rfl, ⟨SqT.of upd_same, by show 2 ≤ sizeLine; decide⟩, RepL.cons ((rx.mono a t).mono eP (pfr θ1)) (RepL.one ((ry.mono a t).mono eP (pfr θ1)))⟩
theorem wd_zip {a b : Addr} {ds es : List D} {vs us : List V} (h2 : RdL P a vs) (h3 : RepL T P θ ds vs) (k2 : RdL P b us) (k3 : RepL T P θ es us) : WalkD T P θ ((ds.zip es).map fun p => .tup [p.1, p.2]) (Itz T.K a b) := by
  show Walk _ ((ds.zip es).map fun p => D.tup [p.1, p.2]).length _ _
  have hn : ((ds.zip es).map fun p => D.tup [p.1, p.2]).length = min vs.length us.length := by rw [List.length_map, List.length_zip, h3.length, k3.length]
  rw [hn]
  refine (walk_zip rfl).mono (fun H e => ⟨.inl (Evl.ex_rd e h2.1), .inl (Evl.ex_rd e k2.1)⟩) (fun i H v H' hi e ⟨p, x, y, q1, q2, q3, q4, q5⟩ => ?_)
  obtain ⟨d, hd, rd⟩ := h3.get' q4
  obtain ⟨d', hd', rd'⟩ := k3.get' q5
  exact yd_pair q1 q2 q3 (by rw [List.getElem?_map, List.getElem?_zip_eq_some (z := (d, d')).mpr ⟨hd, hd'⟩]; rfl) rd rd'
theorem walk_zipT {K : PySem.W.Frag} {a b : Addr} {xs ys : List V} {n : Nat} (hn : n = min xs.length ys.length) : Walk (RZ.ItzT K a b) n (fun H => SqT K H a xs ∧ SqT K H b ys) (YPair (fun i => xs[i]?) (fun i => ys[i]?)) := by
  subst hn
  refine ⟨fun i _ hi q => ?_, fun _ q => ⟨xs, ys, q.1, q.2, by omega⟩, fun i H v H' _ q y => ?_⟩
  · have h1 : i < xs.length := by omega
    have h2 : i < ys.length := by omega
    exact ⟨xs, ys, xs[i], ys[i], q.1, q.2, by simp [h1], by simp [h2]⟩
  · obtain ⟨T, x, z, h1, h2, h3, h4, h5⟩ := y
    exact ⟨T, x, z, h1, h2, h3, h4 xs q.1, h5 ys q.2⟩
theorem wd_zipT {a b : Addr} {ds es : List D} {vs us : List V} (h2 : StL T.K P a vs) (h3 : RepL T P θ ds vs) (k2 : StL T.K P b us) (k3 : RepL T P θ es us) : WalkD T P θ ((ds.zip es).map fun p => .tup [p.1, p.2]) (RZ.ItzT T.K a b) := by
  show Walk _ ((ds.zip es).map fun p => D.tup [p.1, p.2]).length _ _
  have hn : ((ds.zip es).map fun p => D.tup [p.1, p.2]).length = min vs.length us.length := by rw [List.length_map, List.length_zip, h3.length, k3.length]
  rw [hn]
  refine (walk_zipT rfl).mono (fun H e => ⟨Evl.ex_t e h2.1, Evl.ex_t e k2.1⟩) (fun i H v H' hi e ⟨p, x, y, q1, q2, q3, q4, q5⟩ => ?_)
  obtain ⟨d, hd, rd⟩ := h3.get' q4
  obtain ⟨d', hd', rd'⟩ := k3.get' q5
  exact yd_pair q1 q2 q3 (by rw [List.getElem?_map, List.getElem?_zip_eq_some (z := (d, d')).mpr ⟨hd, hd'⟩]; rfl) rd rd'
theorem wd_enum {a : Addr} {ds : List D} {vs : List V} (h2 : RdL P a vs) (h3 : RepL T P θ ds vs) : WalkD T P θ (((List.range ds.length).zip ds).map fun p => .tup [.int p.1, p.2]) (Ite T.K a) := by
  show Walk _ (((List.range ds.length).zip ds).map fun (p : Nat × D) => D.tup [.int p.1, p.2]).length _ _
  have hn : (((List.range ds.length).zip ds).map fun (p : Nat × D) => D.tup [.int p.1, p.2]).length = vs.length := by rw [List.length_map, List.length_zip, List.length_range, Nat.min_self, h3.length]
  rw [hn]
  refine walk_enum.mono (fun H e => .inl (Evl.ex_rd e h2.1)) (fun i H v H' hi e ⟨p, x, y, q1, q2, q3, q4, q5⟩ => ?_)
  obtain ⟨d, hd, rd⟩ := h3.get' q5
  have hr : (List.range ds.length)[i]? = some i := by rw [List.getElem?_range (by rw [h3.length]; exact hi)]
  refine yd_pair (d := .int (i : Nat)) q1 q2 q3 (by rw [List.getElem?_map, List.getElem?_zip_eq_some (z := (i, d)).mpr ⟨hr, hd⟩]; rfl) ?_ rd
  rw [Rep]
  exact (Option.some.inj q4).symm

/-! ### what is walked -/
def iAny (K : PySem.W.Frag) (tl : TE) : TI := fun σ H R => tl σ H fun x H1 => (∃ a, x = .ref a ∧ (∃ xs, SqL K H1 a xs) ∧ R (Itl K a) H1) ∨ (∃ a, x = .ref a ∧ (∃ xs, SqT K H1 a xs) ∧ R (Itt K a) H1) ∨ ∃ z, x = .str z ∧ R (Its z) H1
theorem pi_any {tg l : Expr} {tl : TE} (hl : PE X l tl) : PI X tg l (iAny X.K tl) := by
  refine ⟨fun pins s σ H R I h => ?_⟩
  refine thn (hl.run pins s σ H _ I h) fun v s1 ⟨x, H1, I1, r1, q1⟩ => ?_
  rcases q1 with ⟨a, e, ⟨xs, hq⟩, q⟩ | ⟨a, e, ⟨xs, hq⟩, q⟩ | ⟨z, e, q⟩
  · subst e
    cases r1
    obtain ⟨its, rv, p, hz⟩ := I1.list hq
    refine wpAny_pyIter_list p.isList ?_
    refine ⟨s1.heap.objs.size, [s1.heap.objs.size], _, _, H1, rfl, I1.kept (t' := s1.toks) fun b o e => Heap.get?_push_of_some _ e, turn_list a _, ⟨_, Heap.get?_push_size _ rfl, rfl, rfl⟩, fun b hb => ?_, q⟩
    have e : b = s1.heap.objs.size := by simpa using hb
    subst e
    exact I1.fpOk (Nat.le_refl _) (I1.hok.fresh (Nat.le_refl _))
  · subst e
    cases r1
    obtain ⟨its, rv, p, hz⟩ := I1.tuple hq
    refine wpAny_pyIter_tuple (show s1.heap.IsTuple a its.toArray from p) ?_
    refine ⟨s1.heap.objs.size, [s1.heap.objs.size], _, _, H1, rfl, I1.kept (t' := s1.toks) fun b o e => Heap.get?_push_of_some _ e, turn_tuple a _, ⟨_, Heap.get?_push_size _ rfl, rfl, rfl⟩, fun b hb => ?_, q⟩
    have e : b = s1.heap.objs.size := by simpa using hb
    subst e
    exact I1.fpOk (Nat.le_refl _) (I1.hok.fresh (Nat.le_refl _))
  · subst e
    obtain ⟨t, rfl⟩ := r1
    cases ha : z.cps.all (· < 128)
    · exact wpAny_pyIter_wide ha (pi_one (tk := s1.toks) I1 _ (turn_str _ z t "str_iterator" (.inr rfl)) ⟨_, Heap.get?_push_size _ rfl, rfl, rfl⟩ q)
    · exact wpAny_pyIter_ascii ha (pi_one (tk := s1.toks) I1 _ (turn_str _ z t "str_ascii_iterator" (.inl rfl)) ⟨_, Heap.get?_push_size _ rfl, rfl, rfl⟩ q)
variable {R : It → Hp → Prop}
theorem rdi_it (hK : X.K = T.K) {m : DM D} (h : RdI T W (fun e s => (m e s).bind fun d e s => opt (itemsD d) e s) σ H R) : iAny X.K (RdE T W m) σ H R := by
  obtain ⟨F, G, P, θ, env, sto, Rl, h⟩ := h
  rw [hK]
  refine ⟨F, G, P, θ, env, sto, Rl, h.bnd fun d e s P1 θ1 H1 _ _ R1 q v rv => ?_⟩
  obtain ⟨ds, e1, q1⟩ := opt_some q
  have q2 := q1.here R1
  clear q q1
  unfold itemsD at e1
  split at e1
  · cases e1
    simp only [Rep] at rv
    obtain ⟨a, us, rfl, h2, h3⟩ := rv
    exact .inl ⟨a, rfl, ⟨us, sq_of R1 h2⟩, q2 _ (wd_list h2 h3) (by rw [h3.length]; exact h2.2)⟩
  · cases e1
    simp only [Rep] at rv
    obtain ⟨a, us, rfl, h2, h3⟩ := rv
    exact .inr (.inl ⟨a, rfl, ⟨us, st_of R1 h2⟩, q2 _ (wd_tup h2 h3) (by rw [h3.length]; exact h2.2)⟩)
  · cases e1
    simp only [Rep] at rv
    obtain ⟨rfl, hz⟩ := rv
    exact .inr (.inr ⟨_, rfl, q2 _ wd_str (by rw [List.length_map]; exact hz)⟩)
  · cases e1
theorem rdi_rng {m : DM D} (h : RdI T W (fun e s => (m e s).bind fun d e s => match d with | .int n => if -16777216 ≤ n ∧ n ≤ 16777216 then .ok (rngD 0 n.toNat) e s else .bad | _ => .bad) σ H R) : iRng1 (tCons (RdE T W m) tNil) σ H R := by
  obtain ⟨F, G, P, θ, env, sto, Rl, h⟩ := h
  refine ⟨F, G, P, θ, env, sto, Rl, h.bnd fun d e s P1 θ1 H1 _ _ R1 q v rv => ?_⟩
  cases d <;> try exact q.elim
  rename_i n
  simp only [Rep] at rv
  subst rv
  have q : Pst T W F G P1 θ1 σ (if -16777216 ≤ n ∧ n ≤ 16777216 then .ok (rngD 0 n.toNat) e s else .bad) _ := q
  split at q
  · rename_i hn
    refine ⟨n, rfl, by omega, by omega, q.here R1 _ wd_range ?_⟩
    show (rngD 0 n.toNat).length ≤ 2 ^ 24
    simp only [rngD, List.length_map, List.length_range]
    omega
  · exact q.elim
theorem rdi_rng2 {m m' : DM D} (h : RdI T W (fun e s => (m e s).bind fun d e s => (m' e s).bind fun d' e s => match d, d' with | .int i, .int j => if -8388608 ≤ i ∧ i ≤ 8388608 ∧ -8388608 ≤ j ∧ j ≤ 8388608 then .ok (rngD i (j - i).toNat) e s else .bad | _, _ => .bad) σ H R)
 : iRng2 (tCons (RdE T W m) (tCons (RdE T W m') tNil)) σ H R := by
  obtain ⟨F, G, P, θ, env, sto, Rl, h⟩ := h
  refine ⟨F, G, P, θ, env, sto, Rl, h.bnd fun d e s P1 θ1 H1 _ _ R1 q v rv => ?_⟩
  refine ⟨F, G, P1, θ1, e, s, R1, q.bnd fun d' e2 s2 P2 θ2 H2 a2 t2 R2 q2 u ru => ?_⟩
  cases d <;> try exact q2.elim
  cases d' <;> try exact q2.elim
  rename_i i j
  simp only [Rep] at rv ru
  subst rv ru
  have q2 : Pst T W F G P2 θ2 σ (if -8388608 ≤ i ∧ i ≤ 8388608 ∧ -8388608 ≤ j ∧ j ≤ 8388608 then .ok (rngD i (j - i).toNat) e2 s2 else .bad) _ := q2
  split at q2
  · rename_i hn
    refine ⟨i, j, rfl, ⟨by omega, by omega, by omega, by omega⟩, q2.here R2 _ wd_range ?_⟩
    show (rngD i (j - i).toNat).length ≤ 2 ^ 24
    simp only [rngD, List.length_map, List.length_range]
    omega
  · exact q2.elim
theorem rdi_zip (hK : X.K = T.K) {m m' : DM D} (h : RdI T W (fun e s => (m e s).bind fun d e s => (m' e s).bind fun d' e s => opt (zipD d d') e s) σ H R) : RZ.iZipA X.K (tCons (RdE T W m) (tCons (RdE T W m') tNil)) σ H R := by
  obtain ⟨F, G, P, θ, env, sto, Rl, h⟩ := h
  rw [hK]
  refine ⟨F, G, P, θ, env, sto, Rl, h.bnd fun d e s P1 θ1 H1 _ _ R1 q v rv => ?_⟩
  refine ⟨F, G, P1, θ1, e, s, R1, q.bnd fun d' e2 s2 P2 θ2 H2 a2 t2 R2 q2 u ru => ?_⟩
  obtain ⟨ds, e1, q3⟩ := opt_some q2
  have q4 := q3.here R2
  have rv := rv.mono a2 t2
  unfold zipD at e1
  split at e1
  · cases e1
    simp only [Rep] at rv ru
    obtain ⟨a, us, rfl, h2, h3⟩ := rv
    obtain ⟨b, ws, rfl, k2, k3⟩ := ru
    refine ⟨a, b, us, ws, rfl, .inl ⟨sq_of R2 h2, sq_of R2 k2, q4 _ (wd_zip h2 h3 k2 k3) ?_⟩⟩
    rw [List.length_map, List.length_zip, h3.length]
    exact Nat.le_trans (Nat.min_le_left _ _) h2.2
  · cases e1
    simp only [Rep] at rv ru
    obtain ⟨a, us, rfl, h2, h3⟩ := rv
    obtain ⟨b, ws, rfl, k2, k3⟩ := ru
    refine ⟨a, b, us, ws, rfl, .inr ⟨st_of R2 h2, st_of R2 k2, q4 _ (wd_zipT h2 h3 k2 k3) ?_⟩⟩
    rw [List.length_map, List.length_zip, h3.length]
    exact Nat.le_trans (Nat.min_le_left _ _) h2.2
  · cases e1
theorem rdi_enm (hK : X.K = T.K) {m : DM D} (h : RdI T W (fun e s => (m e s).bind fun d e s => opt (enmD d) e s) σ H R) : iEnum X.K (tCons (RdE T W m) tNil) σ H R := by
  obtain ⟨F, G, P, θ, env, sto, Rl, h⟩ := h
  rw [hK]
  refine ⟨F, G, P, θ, env, sto, Rl, h.bnd fun d e s P1 θ1 H1 _ _ R1 q v rv => ?_⟩
  obtain ⟨ds, e1, q1⟩ := opt_some q
  have q2 := q1.here R1
  clear q q1
  unfold enmD at e1
  split at e1
  · cases e1
    simp only [Rep] at rv
    obtain ⟨a, us, rfl, h2, h3⟩ := rv
    refine ⟨a, us, rfl, sq_of R1 h2, q2 _ (wd_enum h2 h3) ?_⟩
    rw [List.length_map, List.length_zip, List.length_range, Nat.min_self, h3.length]
    exact h2.2
  · cases e1
end
end Mx

namespace Mx
open PySem L2
open Evl (Ex)

/-! ### targets -/
def gsOf : List Nat → TGs
  | [] => gNil
  | i :: r => gCons (gName i) (gsOf r)
def gOf (K : PySem.W.Frag) : Tg → TG
  | .one i => gName i
  | .tup is => gTup K is.length (gsOf is)
def tgS : Tg → List Nat
  | .one i => [i]
  | .tup is => is
section
variable {T : Tb} {W : WX} {F G P : Hp} {θ : List Addr} {σ : St} {H : Hp} {env : En} {sto : So} {Q : VK} {X : Cx}
theorem gs_ok {Q : St → Hp → Prop} : ∀ {is : List Nat} {ds : List D} {vs : List V} {env : En} {σ : St}, Rel T F G P θ env sto σ H → RepL T P θ ds vs → is.length = ds.length →
    (∀ σ1, Rel T F G P θ ((is.zip ds).foldl (fun e p => e.set p.1 (.sh p.2)) env) sto σ1 H → σ1.length = σ.length → (∀ j, j ∉ is → σ1[j]? = σ[j]?) → Q σ1 H) → gsOf is vs σ H Q
  | [], [], vs, env, σ, R, r, _, k => by
    rw [RepL] at r
    exact ⟨r, k σ R rfl fun _ _ => rfl⟩
  | [], _ :: _, _, _, _, _, _, h, _ => by cases h
  | _ :: _, [], _, _, _, _, _, h, _ => by cases h
  | i :: is, d :: ds, vs, env, σ, R, r, h, k => by
    rw [RepL] at r
    obtain ⟨v, r', rfl, h2, h3⟩ := r
    refine ⟨v, r', rfl, ?_⟩
    show gsOf is r' (σ.set i (some v)) H Q
    refine gs_ok (R.put h2) h3 (by simpa using h) fun σ1 R1 l1 o1 => k σ1 R1 (by rw [l1, List.length_set]) fun j hj => ?_
    rw [o1 j fun z => hj (List.mem_cons_of_mem _ z), List.getElem?_set_ne fun z => hj (by rw [z]; exact List.mem_cons_self)]
theorem tg_ok {Q : St → Hp → Prop} {tg : Tg} {d : D} {x : V} {env1 : En} (R : Rel T F G P θ env sto σ H) (r : Rep T P θ d x) (e : tgD env tg d = some env1)
    (k : ∀ σ1, Rel T F G P θ env1 sto σ1 H → σ1.length = σ.length → (∀ j, j ∉ tgS tg → σ1[j]? = σ[j]?) → Q σ1 H) : gOf T.K tg x σ H Q := by
  cases tg with
  | one i =>
    cases e
    exact k _ (R.put r) (by rw [List.length_set]) fun j hj => by rw [List.getElem?_set_ne fun z => hj (by rw [z]; exact List.mem_cons_self)]
  | tup is =>
    cases d <;> simp only [tgD, reduceCtorEq] at e
    split at e
    · rename_i hl
      cases e
      simp only [Rep] at r
      obtain ⟨a, us, rfl, h2, h3⟩ := r
      exact ⟨a, us, rfl, st_of R h2, by rw [← h3.length, hl], gs_ok R h3 hl k⟩
    · cases e
/-! ### a comprehension's own names -/
theorem Rel.wipe (R : Rel T F G P θ env sto σ H) : ∀ vs : List Nat, Rel T F G P θ (wipeD env vs) sto (L2.wipe σ vs) H
  | [] => R
  | v :: vs => (Rel.wipe R vs).forget (x := none)
theorem wipe_in {i : Nat} : ∀ {vs : List Nat}, i ∈ vs → i < σ.length → (L2.wipe σ vs)[i]? = some none
  | [], h, _ => by simp at h
  | v :: vs, h, hl => by
    show ((L2.wipe σ vs).set v none)[i]? = some none
    by_cases hv : v = i
    · subst hv
      rw [List.getElem?_set_self (by rw [wipe_length]; exact hl)]
    · rw [List.getElem?_set_ne hv]
      rcases List.mem_cons.mp h with z | z
      · exact absurd z.symm hv
      · exact wipe_in z hl
theorem wipe_eq {σ1 : St} {vs : List Nat} (hl : σ1.length = σ.length) (h : ∀ j, j ∉ vs → σ1[j]? = σ[j]?) : L2.wipe σ1 vs = L2.wipe σ vs := by
  apply List.ext_getElem?
  intro j
  by_cases hj : j ∈ vs
  · by_cases hz : j < σ.length
    · rw [wipe_in hj hz, wipe_in hj (by rw [hl]; exact hz)]
    · rw [List.getElem?_eq_none (by rw [wipe_length]; omega), List.getElem?_eq_none (by rw [wipe_length]; omega)]
  · rw [wipe_out hj, wipe_out hj, h j hj]
theorem backD_length (old env : En) : ∀ vs, (backD old env vs).length = env.length
  | [] => rfl
  | v :: vs => by
    show ((backD old env vs).set v _).length = _
    rw [List.length_set, backD_length old env vs]
theorem backD_out {old env : En} {j : Nat} : ∀ {vs : List Nat}, j ∉ vs → (backD old env vs)[j]? = env[j]?
  | [], _ => rfl
  | v :: vs, h => by
    show ((backD old env vs).set v _)[j]? = _
    rw [List.getElem?_set_ne fun z => h (by rw [z]; exact List.mem_cons_self)]
    exact backD_out fun z => h (List.mem_cons_of_mem _ z)
theorem backD_in {old env : En} {j : Nat} : ∀ {vs : List Nat}, j ∈ vs → j < env.length → (backD old env vs)[j]? = some (old.getD j .un)
  | [], h, _ => by simp at h
  | v :: vs, h, hl => by
    show ((backD old env vs).set v (old.getD v .un))[j]? = _
    by_cases hv : v = j
    · subst hv
      rw [List.getElem?_set_self (by rw [backD_length]; exact hl)]
    · rw [List.getElem?_set_ne hv]
      rcases List.mem_cons.mp h with z | z
      · exact absurd z.symm hv
      · exact backD_in z hl
theorem Rel.restore {own : List Nat} {F0 G0 P0 H0 : Hp} {θ0 : List Addr} {env0 : En} {sto0 : So} (R0 : Rel T F0 G0 P0 θ0 env0 sto0 σ H0) (hh : own.all (fun v => (env0[v]?).all hid) = true) (eP : Ex P0 P) (t : θ0 <+: θ) (R : Rel T F G P θ env sto (L2.wipe σ own) H) :
    Rel T F G P θ (backD env0 env own) sto σ H := by
  have hl : env.length = σ.length := by rw [R.len, wipe_length]
  have cs : ∀ {j : Nat} {s : Sl}, (backD env0 env own)[j]? = some s → (j ∈ own ∧ (s = .un ∨ ∃ d, s = .sh d ∧ env0[j]? = some (.sh d))) ∨ (j ∉ own ∧ env[j]? = some s) := fun {j s} e => by
    by_cases hj : j ∈ own
    · have hz : j < env.length := by
        have := (List.getElem?_eq_some_iff.mp e).1
        rw [backD_length] at this; exact this
      rw [backD_in hj hz] at e
      have hv := List.all_eq_true.mp hh j hj
      refine .inl ⟨hj, ?_⟩
      cases q : env0[j]? with
      | none =>
        rw [List.getD_eq_getElem?_getD, q] at e
        cases e; exact .inl rfl
      | some z =>
        rw [List.getD_eq_getElem?_getD, q] at e
        have e : some z = some s := e
        have e := Option.some.inj e
        subst e
        rw [q] at hv
        cases z with
        | un => exact .inl rfl
        | sh d => exact .inr ⟨d, rfl, rfl⟩
        | ow c => cases hv
        | lk c => cases hv
    · rw [backD_out hj] at e
      exact .inr ⟨hj, e⟩
  refine ⟨R.rc, by rw [backD_length, hl], fun j s e => ?_, fun i j c d x hij e1 e2 e3 => ?_⟩
  · rcases cs e with ⟨_, rfl | ⟨d, rfl, q⟩⟩ | ⟨hj, q⟩
    · trivial
    · obtain ⟨v, h1, h2⟩ := R0.slot j _ q
      exact ⟨v, h1, h2.mono eP t⟩
    · have := R.slot j s q
      rw [wipe_out hj] at this
      exact this
  · rcases cs e1 with ⟨_, z | ⟨d, z, _⟩⟩ | ⟨hi, q1⟩
    · cases z
    · cases z
    · rcases cs e2 with ⟨_, z | ⟨d, z, _⟩⟩ | ⟨hj, q2⟩
      · cases z
      · cases z
      · have := R.apart i j c d x hij q1 q2 (by rw [wipe_out hi]; exact e3)
        rw [wipe_out hj] at this
        exact this
/-! ### new lists -/
abbrev KF (T : Tb) (F G : Hp) (σ : St) (Q : VK) : List D → En → So → Hp → List Addr → Hp → Prop := fun ds e _ P' θ' H' => ∀ p vs, H' p = some (.lst vs) → vs.length ≤ sizeLine → RepL T P' θ' ds vs → P' p = none → (F p = none ∧ G p = none) → p ∉ θ' →
  (∀ (j : Nat) (c : Cl), e[j]? = some (.ow c) → σ[j]? ≠ some (some (.ref p))) → Q (.ref p) H'
def RdF (T : Tb) (W : WX) (m : DM (List D)) : TE := fun σ H Q => ∃ F G P θ env sto, Rel T F G P θ env sto σ H ∧ Pst T W F G P θ σ (m env sto) (KF T F G σ Q)
theorem rdf_of {m : DM (List D)} (h : RdE T W (fun e s => (m e s).bind fun ds e s => .ok (.lst ds) e s) σ H Q) : RdF T W m σ H Q := by
  obtain ⟨F, G, P, θ, env, sto, R, h⟩ := h
  refine ⟨F, G, P, θ, env, sto, R, h.bnd fun ds e s P1 θ1 H1 _ _ R1 q p vs h1 hz h2 h3 h4 h5 h6 => ?_⟩
  have eP : Ex P1 (upd P1 p (.lst vs)) := ex_upd h3
  refine q _ θ1 H1 eP (pfr θ1) (R1.keep h1 h3 h4 h5 h6) _ ?_
  rw [Rep]
  exact ⟨p, vs, rfl, ⟨Rd.of upd_same, hz⟩, h2.mono eP (pfr θ1)⟩
theorem rdf_lst {m : DM (List D)} (hl : Few m) (h : RdF T W m σ H Q) : tLst (RdA T W m) σ H Q := by
  obtain ⟨F, G, P, θ, env, sto, R, h⟩ := h
  cases hd : m env sto with
  | ok ds e1 s1 =>
    rw [hd] at h
    refine ⟨F, G, P, θ, env, sto, R, ?_⟩
    rw [hd]
    intro P1 θ1 H1 a1 t1 R1 vs rv
    have hz : vs.length ≤ sizeLine := by rw [← rv.length]; exact Nat.le_trans (hl _ _ _ _ _ hd) (by decide)
    refine ⟨hz, fun q hq => ?_⟩
    obtain ⟨n1, n2, n3⟩ := R1.rc.new hq
    refine h P1 θ1 _ a1 t1 (R1.more hq) q vs upd_same hz rv n1 n2 n3 fun j c e z => ?_
    obtain ⟨b, u, g1, g2, _⟩ := R1.slot j _ e
    rw [z] at g1; cases g1
    rw [hq] at g2; cases g2
  | er x e1 s1 =>
    rw [hd] at h
    exact ⟨F, G, P, θ, env, sto, R, by rw [hd]; exact h⟩
  | bad =>
    rw [hd] at h
    exact h.elim
abbrev W0 : WX := fun _ _ _ _ => False
/-! ### comprehensions -/
theorem rdf_lc (hK : X.K = T.K) {own : List Nat} {mI : DM (List D)} {tg : Tg} {mt : DM Bool} {me : DM D} (hsub : ∀ j ∈ tgS tg, j ∈ own) (h : RdF T W (lcD own mI tg mt me) σ H Q) :
    tLc (RdI T W mI) (gOf X.K tg) (RdT T W0 mt) (RdE T W0 me) own σ H Q := by
  obtain ⟨F, G, P, θ, env, sto, R, h⟩ := h
  rw [hK]
  refine ⟨F, G, P, θ, env, sto, R, Pst.bnd (f := fun ds e1 s1 => if own.all (fun v => (e1[v]?).all hid) then match lcGo own tg mt me ds [] e1 s1 with | .ok acc e2 s2 => .ok acc (backD e1 e2 own) s2 | _ => .bad else .bad) h fun ds e1 s1 P1 θ1 H1 a0 t0 R1 q J wJ hlen => fun L hL => ?_⟩
  by_cases hh : own.all (fun v => (e1[v]?).all hid) = true
  · rw [if_pos hh] at q
    cases hl : lcGo own tg mt me ds [] e1 s1 with
    | er x e2 s2 => rw [hl] at q; exact q.elim
    | bad => rw [hl] at q; exact q.elim
    | ok ACC E2 S2 =>
      rw [hl] at q
      obtain ⟨n1, ⟨n2, n2'⟩, n3⟩ := R1.rc.new hL
      have ww : L2.wipe (L2.wipe σ own) own = L2.wipe σ own := by
        refine (wipe_eq (wipe_length _ _) fun j hj => ?_)
        rw [wipe_out hj]
      let Pv : Nat → Hp → Prop := fun i H' => ∃ P' θ' e' s' acc vs', Ex P1 P' ∧ θ1 <+: θ' ∧ Rel T F (upd G L (.lst vs')) P' θ' (wipeD e' own) s' (L2.wipe σ own) H' ∧ RepL T P' θ' acc vs' ∧ lcGo own tg mt me (ds.drop i) acc e' s' = .ok ACC E2 S2 ∧ vs'.length ≤ i
      refine lc_it wJ (D := L) (H1 := H1) Pv ⟨P1, θ1, _, s1, [], [], exr P1, pfr θ1, (R1.gNew hL).wipe own, RepL.nil, hl, Nat.le_refl _⟩ (fun i H' hi ⟨P', θ', e', s', acc, vs', a, t, R', _⟩ => a.trans R'.rc.pH) ?_ ?_
      · rintro i x H' H2 hi ⟨P', θ', e', s', acc, vs', a, t, R', ra, hgo, hvl⟩ ⟨d, hd, yld⟩
        obtain ⟨P2, a2, R2, rd⟩ := yld F _ P' θ' _ s' _ a t R'
        have hdrop : ds.drop i = d :: ds.drop (i + 1) := by
          obtain ⟨hi', e⟩ := List.getElem?_eq_some_iff.mp hd
          rw [List.drop_eq_getElem_cons hi', e]
        rw [hdrop] at hgo
        unfold lcGo at hgo
        cases ht : tgD (wipeD e' own) tg d with
        | none => rw [ht] at hgo; cases hgo
        | some e3 =>
          rw [ht] at hgo
          obtain ⟨b, e4, s4, hb, hgo⟩ := bind_ok hgo
          refine tg_ok R2 rd ht fun σ1 R3 l1 o1 => ?_
          have hw : L2.wipe σ1 own = L2.wipe σ own := (wipe_eq (by rw [l1]) fun j hj => o1 j fun z => hj (hsub j z)).trans ww
          refine ⟨hw, F, _, P2, θ', e3, s', R3, ?_⟩
          rw [hb]
          intro P4 θ4 H4 a4 t4 R4
          cases b with
          | true =>
            show if true = true then _ else _
            rw [if_pos rfl]
            obtain ⟨y, e5, s5, hy, hgo⟩ := bind_ok hgo
            refine ⟨F, _, P4, θ4, e4, s4, R4, ?_⟩
            rw [hy]
            intro P5 θ5 H5 a5 t5 R5 v rv
            have hLH : H5 L = some (.lst vs') := R5.rc.gH L _ upd_same
            refine ⟨vs', hLH, by omega, P5, θ5, e5, s5, acc ++ [y], vs' ++ [v], ((a.trans a2).trans a4).trans a5, (t.trans t4).trans t5, ?_, ((ra.mono ((a2.trans a4).trans a5) (t4.trans t5)).append (RepL.one rv)), hgo, by rw [List.length_append]; simp; exact hvl⟩
            have R6 := (R5.gUpd (o' := .lst (vs' ++ [v]))).wipe own
            rw [hw] at R6
            exact R6
          | false =>
            show if false = true then _ else _
            rw [if_neg Bool.false_ne_true]
            refine ⟨P4, θ4, e4, s4, acc, vs', (a.trans a2).trans a4, t.trans t4, ?_, ra.mono (a2.trans a4) t4, hgo, by omega⟩
            have R6 := R4.wipe own
            rw [hw] at R6
            exact R6
      · rintro H' ⟨P', θ', e', s', acc, vs', a, t, R', ra, hgo, hvl⟩
        rw [List.drop_length] at hgo
        unfold lcGo at hgo
        cases hgo
        obtain ⟨R2, h1, h2, h3, h4, h5⟩ := R'.gDrop n2'
        have R3 := Rel.restore R1 hh a t R2
        refine q P' θ' H' a t R3 L vs' h1 (by omega) ra h2 h3 h4 fun j c e z => ?_
        -- an owned slot is not one of the comprehension's own
        by_cases hj : j ∈ own
        · have hz : j < (wipeD e' own).length := by
            have := (List.getElem?_eq_some_iff.mp e).1
            rw [backD_length] at this; exact this
          rw [backD_in hj hz] at e
          have hv := List.all_eq_true.mp hh j hj
          rw [List.getD_eq_getElem?_getD] at e
          cases q : e1[j]? with
          | none => rw [q] at e; cases e
          | some w =>
            rw [q] at e hv
            have e : some w = some (Sl.ow c) := e
            have e := Option.some.inj e
            subst e
            cases hv
        · rw [backD_out hj] at e
          exact h5 j c e (by rw [wipe_out hj]; exact z)
  · rw [if_neg hh] at q
    exact q.elim
end
end Mx

namespace Mx
open PySem L2
open Evl (Ex)

structure Ctx where
  fs : List Fn
  gl : List (Str × D)
  bl : List Str
  kl : List Kl
  gd : List (Str × List (List Nat × D))

def vis (sc : Scope) (x : Str) : Bool := match sc.names.lookup x with
  | some .local => true | some .cell => true | some .free => true
  | _ => false
def glb (sc : Scope) (x : Str) : Bool := match sc.names.lookup x with
  | some .globalImplicit => true
  | _ => false
def isLoc (sc : Scope) (x : Str) : Bool := match sc.names.lookup x with
  | some .local => true
  | _ => false
def locC (sc : Scope) (x : Str) : Bool := match sc.names.lookup x with
  | some .local => true | some .cell => true
  | _ => false
def okN (x : Str) : Bool := !(x == ("__debug__" : Str)) && !(x == ("__classdict__" : Str)) && !(x == ("__name__" : Str))
def constOk : D → Const → Bool
  | .non, .none => true
  | .bl a, .bool b => a == b
  | .int i, .int j => i == j
  | .str s, .str z => s == z.cps.toList && decide (s.length ≤ 16777216)
  | _, _ => false
def sameD : D → D → Bool
  | .non, .non => true | .bl a, .bl b => a == b | .int i, .int j => i == j | .str s, .str t => s == t
  | _, _ => false
def sameBd : List Bd → List Bd → Bool
  | [], [] => true
  | .arg n :: r, .arg m :: q => n == m && sameBd r q
  | .dft d :: r, .dft e :: q => sameD d e && sameBd r q
  | _, _ => false
def tyNames : List String := ["str", "int", "bool", "list", "tuple"]
def mtN : Mt → Str
  | .join => "join" | .split => "split"
def chkTg (N : List Str) (lc : Str → Bool) : Tg → Expr → Bool
  | .one i, .Name x _ => decide (N[i]? = some x) && lc x
  | .tup is, .Tuple es _ _ => go is es
  | _, _ => false
where go : List Nat → List Expr → Bool
  | [], [] => true
  | i :: is, .Name x _ :: es => decide (N[i]? = some x) && lc x && go is es
  | _, _ => false
def tyE (C : Ctx) (sc : Scope) : List String → List Expr → Bool
  | [], [] => true
  | t :: ts, .Name x _ :: es => tyNames.contains t && x == Str.ofString t && glb sc x && C.bl.contains x && okN x && tyE C sc ts es
  | _, _ => false
def noSup : Expr → Bool
  | .Call (.Name x _) [] [] _ => !(x == ("super" : Str))
  | _ => true
/-- a call of the def f, with n positional values and the keywords kws, is bound as bd says -/
def shapeOk (C : Ctx) (f n : Nat) (kws : List Keyword) (bd : List Bd) : Bool := match C.fs[f]?, kwN kws with
  | some fn, some kn => fn.shapes.any fun sh => decide (sh.1 = n) && decide (sh.2.1 = kn) && sameBd bd sh.2.2
  | _, _ => false
def clsNm (C : Ctx) (c : Nat) (x : Str) : Bool := match C.kl[c]? with
  | some k => decide (k.name = x)
  | none => false
def methIx (C : Ctx) (c : Nat) (m : Str) : Option Nat := (C.kl[c]?).bind fun k => k.meths.lookup m
def ES.isNil : ES → Bool
  | .nil => true | _ => false
/-- the own dunder m of c, called with n values -/
def dunOk (C : Ctx) (c : Nat) (m : Str) (n : Nat) : Bool := match methIx C c m with
  | some j => (match C.fs[j]? with
    | some fn => fn.shapes.any fun sh => decide (sh.1 = n) && decide (sh.2.1 = []) && sameBd ((List.range n).map .arg) sh.2.2
    | none => false)
  | none => false

/-- the own property f of c -/
def prpOk (C : Ctx) (c : Nat) (f : Str) : Bool := match (C.kl[c]?).bind fun k => k.props.lookup f with
  | some j => (match C.fs[j]? with
    | some fn => fn.shapes.any fun sh => decide (sh.1 = 1) && decide (sh.2.1 = []) && sameBd [.arg 0] sh.2.2
    | none => false)
  | none => false
abbrev Pts := Option (Expr × List Expr × List Keyword)
def gIf (b : Bool) (x : Pts) : Pts := match b with | true => x | false => none
/-- the parts of a strict operator's text, if it is of this form -/
def op1P (C : Ctx) (sc : Scope) : Op → Expr → Pts
  | .neg, .UnaryOp .USub x _ => some (x, [], [])
  | .fld f, .Attribute x nm _ => gIf (decide (nm = f) && noSup x) (some (x, [], []))
  | .prop c f, .Attribute x nm _ => gIf (decide (nm = f) && noSup x && prpOk C c f) (some (x, [], []))
  | .meth c m bd, .Call (.Attribute x nm apos) l kws pos => gIf (decide (nm = m) && (apos.endLine == pos.line) && noSup x && l.all plain && decide (l.length + kws.length < 20) && (match methIx C c m with
        | some j => shapeOk C j (l.length + 1) kws bd
        | none => false)) (some (x, l, kws))
  | .oeq c ne, .Compare l [o] [r] _ => gIf (decide (o = (if ne then CmpOp.NotEq else CmpOp.Eq)) && dunOk C c "__eq__" 2) (some (l, [r], []))
  | .oin c ne, .Compare l [o] [r] _ => gIf (decide (o = (if ne then CmpOp.NotIn else CmpOp.In)) && !(behindInMarks o r) && dunOk C c "__contains__" 2) (some (l, [r], []))
  | .olen c, .Call (.Name x _) [y] [] _ => gIf (glb sc x && decide (x = "len") && C.bl.contains x && plain y && dunOk C c "__len__" 1) (some (y, [], []))
  | .orep c, .Call (.Name x _) [y] [] _ => gIf (glb sc x && decide (x = "repr") && C.bl.contains x && plain y && dunOk C c "__repr__" 1) (some (y, [], []))
  | .isc c, .Call (.Name f _) [y, .Name x _] [] _ => gIf (glb sc f && decide (f = "isinstance") && C.bl.contains f && plain y && glb sc x && okN x && clsNm C c x) (some (y, [], []))
  | .gdic k, .Subscript (.Name x _) y _ => gIf ((match y with | .Slice _ _ _ _ => false | _ => true) && glb sc x && okN x && decide ((C.gd[k]?).map (·.1) = some x)) (some (y, [], []))
  | _, _ => none
abbrev Ptn := Option (List Expr × List Keyword)
def gIn (b : Bool) (x : Ptn) : Ptn := match b with | true => x | false => none
def opnP (C : Ctx) (sc : Scope) : Op → Expr → Ptn
  | .mk c bd, .Call (.Name x _) l kws _ => gIn (glb sc x && okN x && clsNm C c x && l.all plain && (match C.kl[c]? with
        | some k => shapeOk C k.init (l.length + 1) kws bd
        | none => false)) (some (l, kws))
  | .ccon c f, .Attribute (.Name x _) nm _ => gIn (decide (nm = f) && glb sc x && okN x && clsNm C c x) (some ([], []))
  | .stat c m bd, .Call (.Attribute (.Name x _) nm apos) l kws pos => gIn (decide (nm = m) && (apos.endLine == pos.line) && glb sc x && okN x && clsNm C c x && l.all plain && decide (l.length + kws.length < 20) && (match (C.kl[c]?).bind fun k => k.stats.lookup m with
        | some j => shapeOk C j l.length kws bd
        | none => false)) (some (l, kws))
  | _, _ => none

def chkV (N : List Str) (sc : Scope) (i : Nat) : Expr → Bool
  | .Name x _ => decide (N[i]? = some x) && vis sc x && okN x
  | _ => false
mutual
def chkE (C : Ctx) (N : List Str) (sc : Scope) : EX → Expr → Bool
  | .c d, e => match e with
    | .Constant v _ _ => constOk d v
    | _ => false
  | .var i, e => chkV N sc i e
  | .glo k, e => match e with
    | .Name x _ => glb sc x && okN x && decide ((C.gl[k]?).map (·.1) = some x)
    | _ => false
  | .lst es, e => match e with
    | .List l _ => decide (es.len ≤ 1000) && chkES C N sc es l
    | _ => false
  | .tup es, e => match e with
    | .Tuple l _ _ => decide (es.len ≤ 1000) && chkES C N sc es l
    | _ => false
  | .newl es, e => match e with
    | .List l _ => decide (es.len ≤ 1000) && chkES C N sc es l
    | _ => false
  | .bin op a b, e => match e with
    | .BinOp l o r _ => decide (o = bopO op) && chkE C N sc a l && chkE C N sc b r
    | _ => false
  | .cmp op a b, e => match e with
    | .Compare l [o] [r] _ => decide (o = copO op) && !(behindInMarks o r) && chkE C N sc a l && chkE C N sc b r
    | _ => false
  | .chn o q a b c, e => match e with
    | .Compare l [o1, o2] [r, t] _ => decide (o1 = copO o) && decide (o2 = copO q) && !(lastMarks [o1, o2] [r, t]) && chkE C N sc a l && chkE C N sc b r && chkE C N sc c t
    | _ => false
  | .isn neg a, e => match e with
    | .Compare l [o] [.Constant .none _ _] _ => decide (o = (if neg then CmpOp.IsNot else CmpOp.Is)) && chkE C N sc a l
    | _ => false
  | .and a b, e => match e with
    | .BoolOp .And (x :: y :: r) pos => chkE C N sc a x && (match r with | [] => chkE C N sc b y | _ => chkE C N sc b (.BoolOp .And (y :: r) pos))
    | _ => false
  | .or a b, e => match e with
    | .BoolOp .Or (x :: y :: r) pos => chkE C N sc a x && (match r with | [] => chkE C N sc b y | _ => chkE C N sc b (.BoolOp .Or (y :: r) pos))
    | _ => false
  | .not a, e => match e with
    | .UnaryOp .Not x _ => chkE C N sc a x
    | _ => false
  | .ife t a b, e => match e with
    | .IfExp x y z _ => chkT C N sc t x && chkE C N sc a y && chkE C N sc b z
    | _ => false
  | .call f es ks bd, e => match e with
    | .Call (.Name x _) l kws _ => glb sc x && okN x && l.all plain && chkES C N sc es l && chkK C N sc ks kws && (match C.fs[f]?, kwN kws with
      | some fn, some kn => decide (fn.name = x) && fn.top && fn.shapes.any (fun sh => decide (sh.1 = es.len) && decide (sh.2.1 = kn) && sameBd bd sh.2.2)
      | _, _ => false)
    | _ => false
  | .bi b es, e => match e with
    | .Call (.Name x _) (a :: l) [] _ => glb sc x && decide (x = biN b) && C.bl.contains x && plain a && l.all plain && chkES C N sc es (a :: l)
    | _ => false
  | .mt m o es, e => match e with
    | .Call (.Attribute ob nm apos) [a] [] pos => decide (nm = mtN m) && (apos.endLine == pos.line) && noSup ob && plain a && chkE C N sc o ob && chkES C N sc es [a]
    | _ => false
  | .sub a b, e => match e with
    | .Subscript x y _ => (match y with | .Slice _ _ _ _ => false | _ => true) && chkE C N sc a x && chkE C N sc b y
    | _ => false
  | .slc a lo hi, e => match e with
    | .Subscript x (.Slice l u none _) _ => chkE C N sc a x && chkO C N sc lo l && chkO C N sc hi u
    | _ => false
  | .isi a t, e => match e with
    | .Call (.Name f _) [x, y] [] _ => glb sc f && decide (f = "isinstance") && C.bl.contains f && plain x && chkE C N sc a x && tyE C sc [t] [y]
    | _ => false
  | .isiT a ts, e => match e with
    | .Call (.Name f _) [x, .Tuple ys _ _] [] _ => glb sc f && decide (f = "isinstance") && C.bl.contains f && plain x && !ts.isEmpty && decide (ts.length ≤ 1000) && chkE C N sc a x && tyE C sc ts ys
    | _ => false
  | .lc own it tg ifs m, e => match e with
    | .ListComp elt [⟨t, iter, cs, as⟩] scope _ => decide (as = 0) && blkC N sc scope (own.map fun i => (N.getD i Str.empty, i)) && (tgS tg).all (fun j => own.contains j) && chkI C N sc it t iter &&
      chkTg N (isLoc (relS scope sc)) tg t && chkTs C N (relS scope sc) ifs cs && chkE C N (relS scope sc) m elt
    | _ => false
  | .op1 o a es ks, e => match op1P C sc o e with
    | some (x, l, kws) => chkE C N sc a x && chkES C N sc es l && chkK C N sc ks kws
    | none => false
  | .opn o es ks, e => match opnP C sc o e with
    | some (l, kws) => chkES C N sc es l && chkK C N sc ks kws
    | none => false
  | .fst es, e => match e with
    | .JoinedStr (x :: y :: l) _ => chkFs C N sc es (x :: y :: l)
    | _ => false
def chkFs (C : Ctx) (N : List Str) (sc : Scope) : ES → List Expr → Bool
  | .nil, l => l.isEmpty
  | .cons a es, l => match l with
    | .FormattedValue x cv sp _ :: l => decide (cv = -1) && sp.isNone && chkE C N sc a x && chkFs C N sc es l
    | .Constant v j q :: l => (match a, v with | .c _, .str _ => true | _, _ => false) && chkE C N sc a (.Constant v j q) && chkFs C N sc es l
    | _ => false
def chkES (C : Ctx) (N : List Str) (sc : Scope) : ES → List Expr → Bool
  | .nil, l => l.isEmpty
  | .cons a es, l => match l with
    | x :: l => plain x && chkE C N sc a x && chkES C N sc es l
    | [] => false
def chkK (C : Ctx) (N : List Str) (sc : Scope) : ES → List Keyword → Bool
  | .nil, l => l.isEmpty
  | .cons a es, l => match l with
    | ⟨_, x, _⟩ :: l => chkE C N sc a x && chkK C N sc es l
    | [] => false
def chkO (C : Ctx) (N : List Str) (sc : Scope) : EO → Option Expr → Bool
  | .no, o => o.isNone
  | .yes a, o => match o with
    | some x => chkE C N sc a x
    | none => false
def chkI (C : Ctx) (N : List Str) (sc : Scope) : IT → Expr → Expr → Bool
  | .it a, _, e => (match e with | .Set _ _ _ => false | _ => true) && chkE C N sc a e
  | .rng a, _, e => match e with
    | .Call (.Name f _) [x] [] _ => glb sc f && decide (f = "range") && C.bl.contains f && plain x && chkE C N sc a x
    | _ => false
  | .rng2 a b, _, e => match e with
    | .Call (.Name f _) [x, y] [] _ => glb sc f && decide (f = "range") && C.bl.contains f && plain x && plain y && chkE C N sc a x && chkE C N sc b y
    | _ => false
  | .zip a b, t, e => match t, e with
    | .Tuple _ _ _, .Call (.Name f _) [x, y] [] _ => glb sc f && decide (f = "zip") && C.bl.contains f && plain x && plain y && chkE C N sc a x && chkE C N sc b y
    | _, _ => false
  | .enm a, t, e => match t, e with
    | .Tuple _ _ _, .Call (.Name f _) [x] [] _ => glb sc f && decide (f = "enumerate") && C.bl.contains f && plain x && chkE C N sc a x
    | _, _ => false
def chkT (C : Ctx) (N : List Str) (sc : Scope) : EX → Expr → Bool
  | .cmp op a b, e => match e with
    | .Compare l [o] [r] _ => decide (o = copO op) && !(behindInMarks o r) && chkE C N sc a l && chkE C N sc b r
    | _ => false
  | .chn o q a b c, e => match e with
    | .Compare l [o1, o2] [r, t] _ => decide (o1 = copO o) && decide (o2 = copO q) && !(lastMarks [o1, o2] [r, t]) && chkE C N sc a l && chkE C N sc b r && chkE C N sc c t
    | _ => false
  | .isn neg a, e => match e with
    | .Compare l [o] [.Constant .none _ _] _ => decide (o = (if neg then CmpOp.IsNot else CmpOp.Is)) && chkE C N sc a l
    | _ => false
  | .and a b, e => match e with
    | .BoolOp .And (x :: y :: r) pos => chkT C N sc a x && (match r with | [] => chkT C N sc b y | _ => chkT C N sc b (.BoolOp .And (y :: r) pos))
    | _ => false
  | .or a b, e => match e with
    | .BoolOp .Or (x :: y :: r) pos => chkT C N sc a x && (match r with | [] => chkT C N sc b y | _ => chkT C N sc b (.BoolOp .Or (y :: r) pos))
    | _ => false
  | .not a, e => match e with
    | .UnaryOp .Not x _ => chkT C N sc a x
    | _ => false
  | .var i, e => chkV N sc i e
  | .call f es ks bd, e => match e with
    | .Call (.Name x _) l kws _ => glb sc x && okN x && l.all plain && chkES C N sc es l && chkK C N sc ks kws && (match C.fs[f]?, kwN kws with
      | some fn, some kn => decide (fn.name = x) && fn.top && fn.shapes.any (fun sh => decide (sh.1 = es.len) && decide (sh.2.1 = kn) && sameBd bd sh.2.2)
      | _, _ => false)
    | _ => false
  | .bi b es, e => match e with
    | .Call (.Name x _) (a :: l) [] _ => glb sc x && decide (x = biN b) && C.bl.contains x && plain a && l.all plain && chkES C N sc es (a :: l)
    | _ => false
  | .isi a t, e => match e with
    | .Call (.Name f _) [x, y] [] _ => glb sc f && decide (f = "isinstance") && C.bl.contains f && plain x && chkE C N sc a x && tyE C sc [t] [y]
    | _ => false
  | .isiT a ts, e => match e with
    | .Call (.Name f _) [x, .Tuple ys _ _] [] _ => glb sc f && decide (f = "isinstance") && C.bl.contains f && plain x && !ts.isEmpty && decide (ts.length ≤ 1000) && chkE C N sc a x && tyE C sc ts ys
    | _ => false
  | .op1 o a es ks, e => match op1P C sc o e with
    | some (x, l, kws) => chkE C N sc a x && chkES C N sc es l && chkK C N sc ks kws
    | none => false
  | .opn o es ks, e => match opnP C sc o e with
    | some (l, kws) => chkES C N sc es l && chkK C N sc ks kws
    | none => false
  | _, _ => false
def chkTs (C : Ctx) (N : List Str) (sc : Scope) : ES → List Expr → Bool
  | .nil, l => l.isEmpty
  | .cons a .nil, l => match l with
    | [x] => chkT C N sc a x
    | _ => false
  | _, _ => false
end
end Mx

namespace Mx
open PySem L2
open Evl (Ex)

/-- C.m is a staticmethod: its record at p, its def at g -/
structure SMet (K : PySem.W.Frag) (C : Addr) (mc : Value) (m : Str) (p g : Addr) : Prop where
  at_ : PySem.W.findCls K (.ref C) mc m = some (.get (.builtin "staticmethod.__get__") (.ref p) .none (.ref C))
  rc : ∃ rest, PySem.W.recIn K p "staticmethod" = some (.ref g :: rest)
  kp : PySem.W.keepIn K (.ref g) = true
/-- what the written part says of an own class -/
structure ClF (T : Tb) (mg : Str → Option Value) (c : Nat) (k : Kl) : Prop where
  nm : mg k.name = some (.ref (T.cad c))
  cfs : T.cfs c = k.fields
  few : k.fields.length ≤ 900
  nd : k.fields.Nodup
  cls : Cls T.K (T.cad c)
  noat : ∀ f ∈ k.fields, NoAttr T.K (T.cad c) f
  meth : ∀ m j, k.meths.lookup m = some j → Meth T.K (T.cad c) m (T.adr j) ∧ m ∉ k.fields
  mkr : Mk T.K (T.cad c) (T.adr k.init)
  props : ∀ f j, k.props.lookup f = some j → ∃ pa, PropOf T.K (T.cad c) f pa (T.adr j)
  cons : ∀ f d, k.cons.lookup f = some d → ∃ v u mc, ClX.CRead T.K (T.cad c) mc ∧ ClX.CVal T.K (T.cad c) mc f v u ∧ ∀ P θ, Rep T P θ d v
  stats : ∀ m j, k.stats.lookup m = some j → ∃ mc pa, ClX.CRead T.K (T.cad c) mc ∧ SMet T.K (T.cad c) mc m pa (T.adr j)
  ne : PySem.W.findIn T.K (.ref (T.cad c)) "__ne__" = some (some (.builtin "object.__ne__"))
  ty : PySem.W.findIn T.K (.ref (T.cad c)) "__class__" = some (some (.builtin "object.__class__")) ∧ PySem.W.specialIn T.K (.builtin "object.__class__") "__get__" = some (some (.builtin "getset_descriptor.__get__")) ∧ PySem.W.takesIn T.K (.builtin "object.__class__") = some true ∧
    PySem.W.mroIn T.K (T.cad c) (.type "object") = some true
  isp : ∀ t ∈ (["NoneType", "bool", "int", "str", "list", "tuple"] : List String), PySem.W.kitOne T.K (.type t) (.ref (T.cad c)) = some false ∧ PySem.W.notFirst T.K (T.cad c) (.type t) = true
structure Md (C : Ctx) (T : Tb) (p : Pg) (k : Nat) (N : List Str) (sc : Scope) (X : Cx) : Prop where
  K : X.K = T.K
  calm : X.calm = true
  room : Room k X.A
  nd : N.Nodup
  eN : X.N = N
  es : X.env.scope = sc
  glo : ∀ (i : Nat) (x : Str) (d : D), C.gl[i]? = some (x, d) → p.glo i = d ∧ ∃ u v, X.mg x = some u ∧ RelV v u ∧ ∀ P θ, Rep T P θ d v
  blt : ∀ x ∈ C.bl, X.mg x = none
  fns : ∀ (i : Nat) (f : Fn), C.fs[i]? = some f → (f.top = true → X.mg f.name = some (.ref (T.adr i))) ∧ PySem.W.keepIn X.K (.ref (T.adr i)) = true ∧ FnOk X.prog X.w X.K X.mg X.base (L2.CX X.prog X.w) k (T.adr i) (T.fdt i) f.ps (spOf T (p.cl i) f.ps.length) ∧
    ∀ sh ∈ f.shapes, BindG T (T.fdt i) f.ps sh.1 sh.2.1 sh.2.2 ∧ sh.2.2.length = f.ps.length
  fns1 : (k = 0 ∧ ∀ i ds s, p.cl1 i ds s = .bad) ∨ ∃ j, k = j + 1 ∧ ∀ (i : Nat) (f : Fn), C.fs[i]? = some f → FnOk X.prog X.w X.K X.mg X.base (L2.CX X.prog X.w) j (T.adr i) (T.fdt i) f.ps (spOf T (p.cl1 i) f.ps.length)
  kl : p.kl = C.kl
  gd : p.gd = C.gd
  gds : ∀ (i : Nat) (x : Str) (t : List (List Nat × D)), C.gd[i]? = some (x, t) → ∃ a, X.mg x = some (.ref a) ∧ ∀ z d, t.lookup z = some d → ∃ v, KDct X.K X.w a ⟨z.toArray⟩ v ∧ ∀ P θ, Rep T P θ d v
  cls : ∀ (c : Nat) (q : Kl), C.kl[c]? = some q → ClF T X.mg c q
  cap : ∀ (c c' : Nat) (q q' : Kl), C.kl[c]? = some q → C.kl[c']? = some q' → PySem.W.kitOne T.K (.ref (T.cad c')) (.ref (T.cad c)) = some (c' == c)
/-- in a comprehension's block -/
theorem Md.blk {C : Ctx} {T : Tb} {p : Pg} {k : Nat} {N : List Str} {sc : Scope} {X : Cx} (M : Md C T p k N sc X) (s : Shared) (H : Hp) (scope : Scope) (A : Addr) (cl : List (Str × Addr)) (fp : List Addr) : Md C T p k N (relS scope sc) (X.blk s H scope (compEnvC scope cl A X.env) fp) :=
  ⟨M.K, M.calm, M.room, M.nd, M.eN, by rw [← M.es]; rfl, M.glo, M.blt, M.fns, M.fns1, M.kl, M.gd, M.gds, M.cls, M.cap⟩

section
variable {C : Ctx} {T : Tb} {p : Pg} {k : Nat} {N : List Str} {sc : Scope} {X : Cx} {W : WX} {σ : St} {H : Hp} {Q : VK}
theorem vis_of (M : Md C T p k N sc X) {x : Str} (h : vis sc x = true) : Vis X.env.scope x := by
  rw [M.es]
  unfold vis at h
  unfold Vis
  split at h <;> first | (exact .inl (by assumption)) | (exact .inr (.inl (by assumption))) | (exact .inr (.inr (by assumption))) | cases h
theorem glb_of (M : Md C T p k N sc X) {x : Str} (h : glb sc x = true) : Gl X x := by
  unfold Gl Env.kindOf
  rw [M.es]
  unfold glb at h
  split at h
  · assumption
  · cases h
theorem okN_of {x : Str} (h : okN x = true) : (x == ("__debug__" : Str)) = false ∧ (x == ("__classdict__" : Str)) = false ∧ x ≠ "__name__" := by
  unfold okN at h
  simp only [Bool.and_eq_true, Bool.not_eq_true', beq_eq_false_iff_ne] at h
  exact ⟨beq_eq_false_iff_ne.mpr h.1.1, beq_eq_false_iff_ne.mpr h.1.2, h.2⟩
theorem pe_constX {d : D} {v : Const} {j : Nat} {pos : Pos} (h : constOk d v = true) : PE X (.Constant v j pos) (RdE T W (denE p (.c d))) := by
  have fin : ∀ {w : V}, (∀ P θ, Rep T P θ d w) → ∀ σ H Q, RdE T W (denE p (.c d)) σ H Q → tC w σ H Q := fun {w} rw' σ H Q h => by
    obtain ⟨F, G, P, θ, env, sto, R, h⟩ := h
    rw [denE] at h
    exact Pst.here h R w (rw' P θ)
  cases d <;> cases v <;> simp only [constOk, Bool.false_eq_true] at h
  · exact pe_non.imp (fin fun P θ => by rw [Rep])
  · rw [beq_iff_eq] at h; subst h
    exact pe_bl.imp (fin fun P θ => by rw [Rep])
  · rw [beq_iff_eq] at h; subst h
    exact pe_int.imp (fin fun P θ => by rw [Rep])
  · rename_i s z
    rw [Bool.and_eq_true, beq_iff_eq, decide_eq_true_eq] at h
    obtain ⟨h, hz⟩ := h
    subst h
    exact pe_str.imp (fin fun P θ => by rw [Rep]; exact ⟨by simp, hz⟩)
theorem pe_varX (M : Md C T p k N sc X) {i : Nat} {x : Str} {pos : Pos} (h : (decide (N[i]? = some x) && vis sc x && okN x) = true) : PE X (.Name x pos) (RdE T W (denE p (.var i))) := by
  simp only [Bool.and_eq_true, decide_eq_true_eq] at h
  obtain ⟨⟨h1, h2⟩, h3⟩ := h
  obtain ⟨n1, n2, _⟩ := okN_of h3
  refine (pe_var (by rw [M.eN]; exact h1) (vis_of M h2) n1 n2).imp fun σ H Q h => ?_
  obtain ⟨F, G, P, θ, env, sto, R, h⟩ := h
  rw [denE] at h
  dsimp only [varD] at h
  split at h
  · rename_i d e
    obtain ⟨v, q1, q2⟩ := R.slot i _ e
    exact ⟨v, q1, h.here R v q2⟩
  · rename_i ds e
    obtain ⟨a, P', q1, q2, q3, q4⟩ := R.freeze e
    exact ⟨_, q1, h P' θ H q2 (pfr θ) q3 _ q4⟩
  · exact h.elim
theorem pe_gloX (M : Md C T p k N sc X) {i : Nat} {x : Str} {pos : Pos} (h : (glb sc x && okN x && decide ((C.gl[i]?).map (·.1) = some x)) = true) : PE X (.Name x pos) (RdE T W (denE p (.glo i))) := by
  simp only [Bool.and_eq_true, decide_eq_true_eq] at h
  obtain ⟨⟨h1, h2⟩, h3⟩ := h
  obtain ⟨⟨y, d⟩, e1, rfl⟩ := map_some h3
  obtain ⟨e2, u, v, e3, r, rep⟩ := M.glo i _ _ e1
  refine (pe_glob (glb_of M h1) e3 r (okN_of h2).1).imp fun σ H Q h => ?_
  obtain ⟨F, G, P, θ, env, sto, R, h⟩ := h
  rw [denE, e2] at h
  exact Pst.here h R v (rep P θ)
/-! ### comparisons -/
theorem opt_mapbl {F G P : Hp} {θ : List Addr} {o : Option Bool} {e : En} {s : So} {K1 : Bool → En → So → Hp → List Addr → Hp → Prop} {Q' : VK} (h : Pst T W F G P θ σ (opt o e s) K1)
    (q : ∀ b P' θ' H', Ex P P' → θ <+: θ' → Rel T F G P' θ' e s σ H' → K1 b e s P' θ' H' → Q' (.bl b) H') : Pst T W F G P θ σ (opt (o.map .bl) e s) (KE T Q') := by
  cases o with
  | none => exact h.elim
  | some b =>
    intro P' θ' H' a t R v rv
    simp only [Rep] at rv
    subst rv
    exact q b P' θ' H' a t R (h P' θ' H' a t R)
theorem rdt_cmp {ma mb : DM D} {op : Cop} {r : R2} {Q : Bool → Hp → Prop} (hp : Pr2 T W r (fun x y e s => opt ((copD op x y).map .bl) e s)) (h : RdT T W (fun e s => (ma e s).bind fun x e s => (mb e s).bind fun y e s => opt (copD op x y) e s) σ H Q) :
    tTest (tOp r (RdE T W ma) (RdE T W mb)) σ H Q := by
  obtain ⟨F, G, P, θ, env, sto, R, h⟩ := h
  refine ⟨F, G, P, θ, env, sto, R, h.bnd fun x e1 s1 P1 θ1 H1 _ _ R1 q v rv => ?_⟩
  refine ⟨F, G, P1, θ1, e1, s1, R1, q.bnd fun y e2 s2 P2 θ2 H2 a2 t2 R2 q2 u ru => hp R2 (rv.mono a2 t2) ru (opt_mapbl q2 fun b P' θ' H' _ _ _ z => ⟨b, rfl, z⟩)⟩
theorem opt_bnd {α β : Type} {F G P : Hp} {θ : List Addr} {o : Option α} {f : α → DM β} {e : En} {s : So} {K1 : β → En → So → Hp → List Addr → Hp → Prop} (h : Pst T W F G P θ σ ((opt o e s).bind f) K1) : ∃ a, o = some a ∧ Pst T W F G P θ σ (f a e s) K1 := by
  cases o with
  | none => exact h.elim
  | some a => exact ⟨a, rfl, h⟩
theorem rd_chn {ma mb mc : DM D} {op op' : Cop} {r r' : R2} (hp : Pr2 T W r (fun x y e s => opt ((copD op x y).map .bl) e s)) (hp' : Pr2 T W r' (fun x y e s => opt ((copD op' x y).map .bl) e s))
    (h : RdE T W (fun e s => (ma e s).bind fun x e s => (mb e s).bind fun y e s => (opt (copD op x y) e s).bind fun k e s => if k then (mc e s).bind fun z e s => opt ((copD op' y z).map .bl) e s else .ok (.bl false) e s) σ H Q) :
    tChain r r' (RdE T W ma) (RdE T W mb) (RdE T W mc) σ H Q := by
  obtain ⟨F, G, P, θ, env, sto, R, h⟩ := h
  refine ⟨F, G, P, θ, env, sto, R, h.bnd fun x e1 s1 P1 θ1 H1 _ _ R1 q v rv => ?_⟩
  refine ⟨F, G, P1, θ1, e1, s1, R1, q.bnd fun y e2 s2 P2 θ2 H2 a2 t2 R2 q2 u ru => hp R2 (rv.mono a2 t2) ru ?_⟩
  obtain ⟨b, eb, q3⟩ := opt_bnd q2
  dsimp only
  rw [eb]
  intro P3 θ3 H3 a3 t3 R3 z rz
  simp only [Rep] at rz
  subst rz
  refine ⟨b, rfl, ?_⟩
  cases b with
  | false =>
    rw [if_neg Bool.false_ne_true]
    have q3 : Pst T W F G P2 θ2 σ (.ok (.bl false) e2 s2) (KE T Q) := q3
    exact q3 P3 θ3 H3 a3 t3 R3 _ (by rw [Rep])
  | true =>
    rw [if_pos rfl]
    have q3 : Pst T W F G P2 θ2 σ ((mc e2 s2).bind fun z e s => opt ((copD op' y z).map .bl) e s) (KE T Q) := q3
    have q4 : Pst T W F G P3 θ3 σ ((mc e2 s2).bind fun z e s => opt ((copD op' y z).map .bl) e s) (KE T Q) := q3.mono a3 t3 fun _ _ _ _ _ _ _ _ _ w => w
    exact ⟨F, G, P3, θ3, e2, s2, R3, q4.bnd fun z e5 s5 P5 θ5 H5 a5 t5 R5 q5 w rw' => hp' R5 ((ru.mono a3 t3).mono a5 t5) rw' q5⟩
theorem rdt_chn {ma mb mc : DM D} {op op' : Cop} {r r' : R2} {Q : Bool → Hp → Prop} (hp : Pr2 T W r (fun x y e s => opt ((copD op x y).map .bl) e s)) (hp' : Pr2 T W r' (fun x y e s => opt ((copD op' x y).map .bl) e s))
    (h : RdT T W (fun e s => (ma e s).bind fun x e s => (mb e s).bind fun y e s => (opt (copD op x y) e s).bind fun k e s => if k then (mc e s).bind fun z e s => opt (copD op' y z) e s else .ok false e s) σ H Q) :
    tTest (tChain r r' (RdE T W ma) (RdE T W mb) (RdE T W mc)) σ H Q := by
  refine rd_chn (op := op) (op' := op') hp hp' ?_
  obtain ⟨F, G, P, θ, env, sto, R, h⟩ := h
  refine ⟨F, G, P, θ, env, sto, R, ?_⟩
  dsimp only at h ⊢
  cases hA : ma env sto with
  | er => rw [hA] at h; exact h
  | bad => rw [hA] at h; exact h
  | ok x e1 s1 =>
    rw [hA] at h
    simp only [Res.bind] at h ⊢
    cases hB : mb e1 s1 with
    | er => rw [hB] at h; exact h
    | bad => rw [hB] at h; exact h
    | ok y e2 s2 =>
      rw [hB] at h
      simp only [Res.bind] at h ⊢
      cases hk : copD op x y with
      | none => rw [hk] at h; exact h.elim
      | some b =>
        rw [hk] at h
        cases b with
        | false =>
          intro P' θ' H' a t R' v rv
          simp only [Rep] at rv
          exact ⟨false, rv, h P' θ' H' a t R'⟩
        | true =>
          have h : Pst T W F G P θ σ ((mc e2 s2).bind fun z e s => opt (copD op' y z) e s) _ := h
          show Pst T W F G P θ σ ((mc e2 s2).bind fun z e s => opt ((copD op' y z).map D.bl) e s) _
          cases hC : mc e2 s2 with
          | er => rw [hC] at h; exact h
          | bad => rw [hC] at h; exact h
          | ok z e3 s3 =>
            rw [hC] at h
            exact opt_mapbl h fun b P' θ' H' _ _ _ z => ⟨b, rfl, z⟩
/-! ### None, and, or, not, if -/
theorem isn_rep {P : Hp} {θ : List Addr} {d : D} {x : V} (r : Rep T P θ d x) : decide (x = .non) = isnB false d := by
  cases d <;> simp only [Rep] at r
  · subst r; rfl
  · subst r; rfl
  · subst r; rfl
  · obtain ⟨rfl, _⟩ := r; rfl
  · obtain ⟨_, _, rfl, _⟩ := r; rfl
  · obtain ⟨_, _, rfl, _⟩ := r; rfl
  · obtain ⟨_, _, _, rfl, _⟩ := r; rfl
  · obtain ⟨_, _, rfl⟩ := r; rfl
  · subst r; rfl
  · subst r; rfl
  · obtain ⟨_, rfl, _⟩ := r; rfl
end
end Mx

namespace Mx
open PySem L2
open Evl (Ex)
section
variable {C : Ctx} {T : Tb} {p : Pg} {k : Nat} {N : List Str} {sc : Scope} {X : Cx} {W : WX} {σ : St} {H : Hp} {Q : VK}
theorem isnB_neg (d : D) : isnB true d = !isnB false d := by cases d <;> rfl
theorem rd_isn {ma : DM D} (h : RdE T W (fun e s => (ma e s).bind fun x e s => .ok (.bl (isnB false x)) e s) σ H Q) : tIsN (RdE T W ma) σ H Q := by
  obtain ⟨F, G, P, θ, env, sto, R, h⟩ := h
  refine ⟨F, G, P, θ, env, sto, R, h.bnd fun x e1 s1 P1 θ1 H1 _ _ R1 q v rv => ?_⟩
  dsimp only
  rw [isn_rep rv]
  exact q.here R1 _ (by rw [Rep])
theorem rd_isnn {ma : DM D} (h : RdE T W (fun e s => (ma e s).bind fun x e s => .ok (.bl (isnB true x)) e s) σ H Q) : tNotN (RdE T W ma) σ H Q := by
  obtain ⟨F, G, P, θ, env, sto, R, h⟩ := h
  refine ⟨F, G, P, θ, env, sto, R, h.bnd fun x e1 s1 P1 θ1 H1 _ _ R1 q v rv => ?_⟩
  dsimp only
  rw [isn_rep rv, ← isnB_neg]
  exact q.here R1 _ (by rw [Rep])
theorem rdt_isn {ma : DM D} {Q : Bool → Hp → Prop} (h : RdT T W (fun e s => (ma e s).bind fun x e s => .ok (isnB false x) e s) σ H Q) : tB (tIsN (RdE T W ma)) σ H Q := by
  obtain ⟨F, G, P, θ, env, sto, R, h⟩ := h
  refine ⟨F, G, P, θ, env, sto, R, h.bnd fun x e1 s1 P1 θ1 H1 _ _ R1 q v rv => ?_⟩
  dsimp only
  rw [isn_rep rv]
  exact ⟨_, rfl, q.here R1⟩
theorem rdt_isnn {ma : DM D} {Q : Bool → Hp → Prop} (h : RdT T W (fun e s => (ma e s).bind fun x e s => .ok (isnB true x) e s) σ H Q) : tB (tNotN (RdE T W ma)) σ H Q := by
  obtain ⟨F, G, P, θ, env, sto, R, h⟩ := h
  refine ⟨F, G, P, θ, env, sto, R, h.bnd fun x e1 s1 P1 θ1 H1 _ _ R1 q v rv => ?_⟩
  dsimp only
  rw [isn_rep rv, ← isnB_neg]
  exact ⟨_, rfl, q.here R1⟩
theorem rd_and {ma mb : DM D} (h : RdE T W (fun e s => (ma e s).bind fun x e s => match x with | .bl true => mb e s | .bl false => .ok (.bl false) e s | _ => .bad) σ H Q) : tAndV (RdE T W ma) (RdE T W mb) σ H Q := by
  obtain ⟨F, G, P, θ, env, sto, R, h⟩ := h
  refine ⟨F, G, P, θ, env, sto, R, h.bnd fun x e1 s1 P1 θ1 H1 _ _ R1 q v rv => ?_⟩
  cases x <;> try exact q.elim
  rename_i b
  simp only [Rep] at rv
  refine ⟨b, rv, ?_⟩
  cases b with
  | true =>
    rw [if_pos rfl]
    exact ⟨F, G, P1, θ1, e1, s1, R1, q⟩
  | false =>
    rw [if_neg Bool.false_ne_true]
    have q : Pst T W F G P1 θ1 σ (.ok (.bl false) e1 s1) (KE T Q) := q
    exact q.here R1 _ (by rw [Rep])
theorem rd_or {ma mb : DM D} (h : RdE T W (fun e s => (ma e s).bind fun x e s => match x with | .bl false => mb e s | .bl true => .ok (.bl true) e s | _ => .bad) σ H Q) : tOrV (RdE T W ma) (RdE T W mb) σ H Q := by
  obtain ⟨F, G, P, θ, env, sto, R, h⟩ := h
  refine ⟨F, G, P, θ, env, sto, R, h.bnd fun x e1 s1 P1 θ1 H1 _ _ R1 q v rv => ?_⟩
  cases x <;> try exact q.elim
  rename_i b
  simp only [Rep] at rv
  refine ⟨b, rv, ?_⟩
  cases b with
  | true =>
    rw [if_pos rfl]
    have q : Pst T W F G P1 θ1 σ (.ok (.bl true) e1 s1) (KE T Q) := q
    exact q.here R1 _ (by rw [Rep])
  | false =>
    rw [if_neg Bool.false_ne_true]
    exact ⟨F, G, P1, θ1, e1, s1, R1, q⟩
theorem rd_not {ma : DM D} (h : RdE T W (fun e s => (ma e s).bind fun x e s => match x with | .bl k => .ok (.bl (!k)) e s | _ => .bad) σ H Q) : tNotV (RdE T W ma) σ H Q := by
  obtain ⟨F, G, P, θ, env, sto, R, h⟩ := h
  refine ⟨F, G, P, θ, env, sto, R, h.bnd fun x e1 s1 P1 θ1 H1 _ _ R1 q v rv => ?_⟩
  cases x <;> try exact q.elim
  rename_i b
  simp only [Rep] at rv
  exact ⟨b, rv, q.here R1 _ (by rw [Rep])⟩
theorem rdt_and {ma mb : DM Bool} {Q : Bool → Hp → Prop} (h : RdT T W (fun e s => (ma e s).bind fun k e s => if k then mb e s else .ok false e s) σ H Q) : tAnd (RdT T W ma) (RdT T W mb) σ H Q := by
  obtain ⟨F, G, P, θ, env, sto, R, h⟩ := h
  refine ⟨F, G, P, θ, env, sto, R, h.bnd fun b e1 s1 P1 θ1 H1 _ _ R1 q => ?_⟩
  cases b with
  | true =>
    rw [if_pos rfl] at q ⊢
    exact ⟨F, G, P1, θ1, e1, s1, R1, q⟩
  | false =>
    rw [if_neg Bool.false_ne_true] at q ⊢
    exact q.here R1
theorem rdt_or {ma mb : DM Bool} {Q : Bool → Hp → Prop} (h : RdT T W (fun e s => (ma e s).bind fun k e s => if k then .ok true e s else mb e s) σ H Q) : tOr (RdT T W ma) (RdT T W mb) σ H Q := by
  obtain ⟨F, G, P, θ, env, sto, R, h⟩ := h
  refine ⟨F, G, P, θ, env, sto, R, h.bnd fun b e1 s1 P1 θ1 H1 _ _ R1 q => ?_⟩
  cases b with
  | true =>
    rw [if_pos rfl] at q ⊢
    exact q.here R1
  | false =>
    rw [if_neg Bool.false_ne_true] at q ⊢
    exact ⟨F, G, P1, θ1, e1, s1, R1, q⟩
theorem rdt_not {ma : DM Bool} {Q : Bool → Hp → Prop} (h : RdT T W (fun e s => (ma e s).bind fun k e s => .ok (!k) e s) σ H Q) : tNot (RdT T W ma) σ H Q := by
  obtain ⟨F, G, P, θ, env, sto, R, h⟩ := h
  exact ⟨F, G, P, θ, env, sto, R, h.bnd fun b e1 s1 P1 θ1 H1 _ _ R1 q => q.here R1⟩
theorem rd_ife {mt : DM Bool} {ma mb : DM D} (h : RdE T W (fun e s => (mt e s).bind fun k e s => if k then ma e s else mb e s) σ H Q) : tIf (RdT T W mt) (RdE T W ma) (RdE T W mb) σ H Q := by
  obtain ⟨F, G, P, θ, env, sto, R, h⟩ := h
  refine ⟨F, G, P, θ, env, sto, R, h.bnd fun b e1 s1 P1 θ1 H1 _ _ R1 q => ?_⟩
  cases b with
  | true =>
    rw [if_pos rfl] at q ⊢
    exact ⟨F, G, P1, θ1, e1, s1, R1, q⟩
  | false =>
    rw [if_neg Bool.false_ne_true] at q ⊢
    exact ⟨F, G, P1, θ1, e1, s1, R1, q⟩
/-! ### truth -/
theorem tru_rep {F G P : Hp} {θ : List Addr} {env : En} {sto : So} {d : D} {x : V} {b : Bool} (R : Rel T F G P θ env sto σ H) (r : Rep T P θ d x) (e : truD d = some b) : TruV T.K x H b := by
  cases d <;> simp only [truD, reduceCtorEq, Option.some.injEq] at e <;> simp only [Rep] at r <;> subst e
  · subst r; rfl
  · subst r; rfl
  · subst r; rfl
  · rename_i s
    obtain ⟨rfl, hz⟩ := r
    refine ⟨by rw [str_len]; exact hz, ?_⟩
    rw [str_len]
    cases s <;> rfl
  · rename_i xs
    obtain ⟨a, us, rfl, h2, h3⟩ := r
    refine .inl ⟨us, sq_of R h2, ?_⟩
    have := h3.length
    cases xs <;> cases us <;> first | rfl | (simp at this)
  · rename_i xs
    obtain ⟨a, us, rfl, h2, h3⟩ := r
    refine .inr (.inl ⟨us, st_of R h2, ?_⟩)
    have := h3.length
    cases xs <;> cases us <;> first | rfl | (simp at this)
theorem rdt_tru (hK : X.K = T.K) {m : DM D} {Q : Bool → Hp → Prop} (h : RdT T W (fun e s => (m e s).bind fun x e s => opt (truD x) e s) σ H Q) : RdE T W m σ H fun x H' => ∃ k, TruV X.K x H' k ∧ Q k H' := by
  obtain ⟨F, G, P, θ, env, sto, R, h⟩ := h
  rw [hK]
  refine ⟨F, G, P, θ, env, sto, R, h.bnd fun x e1 s1 P1 θ1 H1 _ _ R1 q v rv => ?_⟩
  obtain ⟨b, e, q1⟩ := opt_some q
  exact ⟨b, tru_rep R1 rv e, q1.here R1⟩
theorem isi_test {m : DM D} {g : D → Option Bool} : (fun e s => (m e s).bind fun x e s => opt (g x) e s) = fun e s => ((m e s).bind fun x e s => opt ((g x).map D.bl) e s).bind fun x e s => opt (truD x) e s := by
  funext e s
  cases m e s with
  | er => rfl
  | bad => rfl
  | ok x e1 s1 =>
    show opt (g x) e1 s1 = (opt ((g x).map D.bl) e1 s1).bind fun x e s => opt (truD x) e s
    cases g x <;> rfl
/-! ### calls of builtins, methods -/
theorem pe_biX (M : Md C T p k N sc X) {b : Bi} {x : Str} {q pos : Pos} {a : Expr} {l : List Expr} {es : ES} (h1 : glb sc x = true) (h2 : x = biN b) (h3 : C.bl.contains x = true) (h4 : plain a = true) (h5 : l.all plain = true) (ha : PA X (a :: l) (RdA T W (denES p es))) :
    PE X (.Call (.Name x q) (a :: l) [] pos) (RdE T W (denE p (.bi b es))) := by
  obtain ⟨r, hr, hp⟩ := bi_ok (T := T) (W := W) M.K M.calm b
  have hm : X.mg x = none := M.blt x (by simpa using h3)
  have hb : bootBuiltins x = some (biV b) := by rw [h2]; exact bi_boot b
  have e1 : x ≠ "__name__" := by rw [h2]; cases b <;> decide +kernel
  have e2 : (x == ("__debug__" : Str)) = false := by rw [h2]; cases b <;> decide +kernel
  have fin : ∀ σ H Q, RdE T W (denE p (.bi b es)) σ H Q → tCB r (RdA T W (denES p es)) σ H Q := fun σ H Q h => by
    rw [denE] at h
    exact rd_args hp h
  have go : PE X (.Call (.Name x q) (a :: l) [] pos) (tCB r (RdA T W (denES p es))) := by
    cases b
    case len => exact pe_callB hr (glb_of M h1) hm hb ha e1 e2 (star_plain h4) (star_any h5)
    case abs => exact pe_callB hr (glb_of M h1) hm hb ha e1 e2 (star_plain h4) (star_any h5)
    case int => exact pe_callTy hr (glb_of M h1) hm hb ha e1 e2 (star_plain h4) (star_any h5)
    case list => exact pe_callTy hr (glb_of M h1) hm hb ha e1 e2 (star_plain h4) (star_any h5)
    case tuple => exact pe_callTy hr (glb_of M h1) hm hb ha e1 e2 (star_plain h4) (star_any h5)
    case all => exact pe_callB hr (glb_of M h1) hm hb ha e1 e2 (star_plain h4) (star_any h5)
    case any => exact pe_callB hr (glb_of M h1) hm hb ha e1 e2 (star_plain h4) (star_any h5)
    case min => exact pe_callB hr (glb_of M h1) hm hb ha e1 e2 (star_plain h4) (star_any h5)
    case max => exact pe_callB hr (glb_of M h1) hm hb ha e1 e2 (star_plain h4) (star_any h5)
  exact go.imp fin
theorem base_of {o : Expr} {nm : Str} {env : Env} (h : noSup o = true) : attributeBase o nm env (eval o env) = eval o env := by
  unfold attributeBase
  split
  · rename_i id _ _ 
    simp only [noSup, Bool.not_eq_true', beq_eq_false_iff_ne, ne_eq] at h
    rw [if_pos (by simp [h])]
  · rfl
theorem rd_mt {m : Mt} {mo : DM D} {ms : DM (List D)} {r : V → List V → Hp → VK → Prop} (hp : PrM T W r (fun x ds e s => opt (mtD m x ds) e s))
    (h : RdE T W (fun e s => (mo e s).bind fun x e s => if isStrD x then (ms e s).bind fun ds e s => opt (mtD m x ds) e s else .bad) σ H Q) : tBM X.K "str" r (RdE T W mo) (RdA T W ms) σ H Q := by
  obtain ⟨F, G, P, θ, env, sto, R, h⟩ := h
  refine ⟨F, G, P, θ, env, sto, R, h.bnd fun x e1 s1 P1 θ1 H1 _ _ R1 q v rv => ?_⟩
  cases x <;> try exact q.elim
  rename_i z
  have q : Pst T W F G P1 θ1 σ ((ms e1 s1).bind fun ds e s => opt (mtD m (.str z) ds) e s) (KE T Q) := q
  have rv0 := rv
  simp only [Rep] at rv
  obtain ⟨rfl, _⟩ := rv
  exact ⟨rfl, F, G, P1, θ1, e1, s1, R1, q.bnd fun ds e2 s2 P2 θ2 H2 a2 t2 R2 q2 vs rvs => hp R2 (rv0.mono a2 t2) rvs q2⟩
theorem few_of {es : List Expr} {env : Env} {pos : Pos} (h : es.all plain = true) (hl : es.length < 20) :
    ((backTo pos (starEach es env)).all (fun x => !x.1) && (backToKw pos (keywordEach [] env)).all (fun x => x.1.isSome) && decide (es.length + ([] : List Keyword).length + (if ([] : List Keyword).isEmpty then 0 else 1) < 30)) = true := by
  have e1 : (backTo pos (starEach es env)).all (fun x => !x.1) = true := by
    have := star_any (pos := pos) (env := env) h
    rw [List.any_eq_false] at this
    rw [List.all_eq_true]
    intro x hx
    have := this x hx
    simp at this
    simp [this]
  rw [e1]
  simp [backToKw, keywordEach]
  omega
theorem pe_mtX (M : Md C T p k N sc X) {m : Mt} {ob a : Expr} {l : List Expr} {nm : Str} {apos pos : Pos} {o : EX} {es : ES} (h1 : nm = mtN m) (h2 : (apos.endLine == pos.line) = true) (h3 : noSup ob = true) (h4 : plain a = true) (h5 : l.all plain = true) (h6 : (a :: l).length < 20)
    (ho : PE X ob (RdE T W (denE p o))) (ha : PA X (a :: l) (RdA T W (denES p es))) : PE X (.Call (.Attribute ob nm apos) (a :: l) [] pos) (RdE T W (denE p (.mt m o es))) := by
  have fin : ∀ {r : V → List V → Hp → VK → Prop}, PrM T W r (fun x ds e s => opt (mtD m x ds) e s) → ∀ σ H Q, RdE T W (denE p (.mt m o es)) σ H Q → tBM X.K "str" r (RdE T W (denE p o)) (RdA T W (denES p es)) σ H Q := fun {r} hp σ H Q h => by
    rw [denE] at h
    exact rd_mt hp h
  have ap : (a :: l).all plain = true := by rw [List.all_cons, h4, h5]; rfl
  subst h1
  cases m with
  | join => exact (pe_bm PySem.F.plainAttrs_str PySem.F.slot_str_join PySem.F.type_str_join mt_join ho ha (base_of h3) (few_of ap h6) h2 (star_plain h4) (star_any h5)).imp (fin (pr_join M.K))
  | split => exact (pe_bm PySem.F.plainAttrs_str PySem.F.slot_str_split PySem.F.type_str_split mt_split ho ha (base_of h3) (few_of ap h6) h2 (star_plain h4) (star_any h5)).imp (fin pr_split)
/-! ### isinstance -/
theorem boot_tyN {t : String} (h : tyNames.contains t = true) : bootBuiltins (Str.ofString t) = some (.type t) := by
  have : t = "str" ∨ t = "int" ∨ t = "bool" ∨ t = "list" ∨ t = "tuple" := by
    simpa [tyNames] using h
  rcases this with rfl | rfl | rfl | rfl | rfl <;> decide +kernel
theorem boot_isi : bootBuiltins "isinstance" = some (.builtin "isinstance") := by decide +kernel
theorem pe_tyN (M : Md C T p k N sc X) {t : String} {x : Str} {pos : Pos} (h : (tyNames.contains t && x == Str.ofString t && glb sc x && C.bl.contains x && okN x) = true) : PE X (.Name x pos) (tC (.ty t)) := by
  simp only [Bool.and_eq_true, beq_iff_eq] at h
  obtain ⟨⟨⟨⟨h1, h2⟩, h3⟩, h4⟩, h5⟩ := h
  subst h2
  exact pe_bltn (glb_of M h3) (M.blt _ (by simpa using h4)) (boot_tyN h1) rfl (okN_of h5).2.2 (okN_of h5).1
theorem pa_tys (M : Md C T p k N sc X) : ∀ {ts : List String} {es : List Expr}, tyE C sc ts es = true → es.all plain = true ∧ PA X es (fun _ H Q => Q (ts.map V.ty) H)
  | [], [], _ => ⟨rfl, pa_nil⟩
  | [], _ :: _, h => by simp [tyE] at h
  | t :: ts, [], h => by simp [tyE] at h
  | t :: ts, e :: es, h => by
    cases e <;> simp only [tyE, Bool.false_eq_true] at h
    rw [Bool.and_eq_true] at h
    obtain ⟨i1, i2⟩ := pa_tys M h.2
    refine ⟨by rw [List.all_cons, i1]; rfl, (pa_cons (pe_tyN M h.1) i2 (star_plain rfl)).imp fun σ H Q q => q⟩
theorem pe_isiX (M : Md C T p k N sc X) {t : String} {f : Str} {q pos : Pos} {x y : Expr} {a : EX} (h1 : glb sc f = true) (h2 : f = "isinstance") (h3 : C.bl.contains f = true) (h4 : plain x = true) (h5 : tyE C sc [t] [y] = true) (ha : PE X x (RdE T W (denE p a))) :
    PE X (.Call (.Name f q) [x, y] [] pos) (RdE T W (denE p (.isi a t))) := by
  obtain ⟨i1, i2⟩ := pa_tys M h5
  subst h2
  refine (pe_callB call_isi (glb_of M h1) (M.blt _ (by simpa using h3)) boot_isi (pa_cons ha i2 (star_plain h4)) (by decide) (by decide) (star_plain h4) (star_any i1)).imp fun σ H Q h => ?_
  obtain ⟨F, G, P, θ, env, sto, R, h⟩ := h
  rw [denE] at h
  refine ⟨F, G, P, θ, env, sto, R, Pst.bnd (f := fun x e s => opt ((isiD t x).map D.bl) e s) h fun d e1 s1 P1 θ1 H1 _ _ R1 q v rv => ?_⟩
  obtain ⟨d', e, q1⟩ := opt_some q
  obtain ⟨b, e', rfl⟩ := map_some e
  exact pr_isi M.K R1 rv e' (q1.here R1 _ (by rw [Rep]))
theorem pe_isiTX (M : Md C T p k N sc X) {ts : List String} {f : Str} {q pos pt : Pos} {x : Expr} {ys : List Expr} {j : Nat} {a : EX} (h1 : glb sc f = true) (h2 : f = "isinstance") (h3 : C.bl.contains f = true) (h4 : plain x = true) (h5 : tyE C sc ts ys = true) (hne : ts ≠ []) (hl : ts.length ≤ 1000) (ha : PE X x (RdE T W (denE p a))) :
    PE X (.Call (.Name f q) [x, .Tuple ys j pt] [] pos) (RdE T W (denE p (.isiT a ts))) := by
  obtain ⟨i1, i2⟩ := pa_tys M h5
  subst h2
  refine (pe_callB call_isiT (glb_of M h1) (M.blt _ (by simpa using h3)) boot_isi (pa_cons ha (pa_cons (pe_tup i2) pa_nil (star_plain rfl)) (star_plain h4)) (by decide) (by decide) (star_plain h4) (star_any rfl)).imp fun σ H Q h => ?_
  obtain ⟨F, G, P, θ, env, sto, R, h⟩ := h
  rw [denE] at h
  refine ⟨F, G, P, θ, env, sto, R, Pst.bnd (f := fun x e s => opt ((isiTD ts x).map D.bl) e s) h fun d e1 s1 P1 θ1 H1 _ _ R1 q v rv => ?_⟩
  obtain ⟨d', e, q1⟩ := opt_some q
  obtain ⟨b, e', rfl⟩ := map_some e
  refine ⟨by rw [List.length_map]; exact Nat.le_trans hl (by decide), fun tp ht => ?_⟩
  have R2 := R1.more (o := .tup (ts.map V.ty)) ht
  cases hty : tyD d with
  | none =>
    -- no class is known: only the empty tuple answers
    cases ts with
    | nil => exact absurd rfl hne
    | cons t ts =>
      unfold isiTD isiD at e'
      rw [hty] at e'
      cases e'
  | some n =>
    have hp : ∀ l : List String, Paired ClsV (l.map V.ty) (l.map Value.type) := fun l => by
      induction l with
      | nil => exact .nil
      | cons t l ih => exact .cons (.ty t) ih
    refine ⟨v, tp, ts.map V.ty, .type n, ts.map Value.type, b, rfl, upd_same, hp ts, ?_, ?_, q1 P1 θ1 _ (exr P1) (pfr θ1) R2 _ (by rw [Rep])⟩
    · rw [M.K]; exact tyx_rep R2.rc.pH rv hty
    · rw [M.K]; exact kitAny_of hty e'
end
end Mx

namespace Mx
open PySem L2
open Evl (Ex)
section
variable {C : Ctx} {T : Tb} {p : Pg} {k : Nat} {N : List Str} {sc : Scope} {X : Cx} {W : WX} {σ : St} {H : Hp} {Q : VK} {F G P : Hp} {θ : List Addr} {env : En} {sto : So}
/-! ### instances -/
theorem zip_none {m : Str} : ∀ {l : List Str} {vs : List V}, m ∉ l → (l.zip vs).lookup m = none
  | [], vs, _ => by simp
  | a :: l, [], _ => by simp
  | a :: l, v :: vs, h => by
    have h1 : m ≠ a := fun z => h (by simp [z])
    have h2 : m ∉ l := fun z => h (by simp [z])
    have e : (m == a) = false := by simpa using h1
    simp only [List.zip_cons_cons, List.lookup, e]
    exact zip_none h2
theorem zip_ix {m : Str} : ∀ {l : List Str} {vs : List V}, m ∈ l → (l.zip vs).lookup m = vs[ixOf m l]?
  | [], vs, h => by simp at h
  | a :: l, [], _ => by simp
  | a :: l, v :: vs, h => by
    by_cases e : m = a
    · subst e
      simp [List.lookup, ixOf]
    · have e1 : (m == a) = false := by simpa using e
      have e2 : ¬ a = m := fun z => e z.symm
      simp only [List.zip_cons_cons, List.lookup, e1, ixOf, if_neg e2, List.getElem?_cons_succ]
      exact zip_ix (by simpa [e] using h)
theorem zip_lookup {f : Str} : ∀ {fs : List (Str × D)} {vs : List V} {d : D}, RepL T P θ (fs.map (·.2)) vs → fs.lookup f = some d → ∃ v, ((fs.map (·.1)).zip vs).lookup f = some v ∧ Rep T P θ d v
  | [], vs, d, _, h => by simp at h
  | (g, y) :: fs, vs, d, r, h => by
    simp only [List.map_cons] at r
    rw [RepL] at r
    obtain ⟨v, r', rfl, h2, h3⟩ := r
    by_cases e : f = g
    · subst e
      simp [List.lookup] at h
      subst h
      exact ⟨v, by simp [List.lookup], h2⟩
    · have e1 : (f == g) = false := by simpa using e
      simp only [List.lookup, e1] at h
      obtain ⟨w, i1, i2⟩ := zip_lookup h3 h
      exact ⟨w, by simp only [List.map_cons, List.zip_cons_cons, List.lookup, e1]; exact i1, i2⟩
theorem ins_of (R : Rel T F G P θ env sto σ H) {c : Nat} {q : Kl} {d : D} {x : V} (r : Rep T P θ d x) (h : isOb p c sto d = true) (hk : p.kl[c]? = some q) (hc : T.cfs c = q.fields) :
    ∃ a dx fs, x = .ref a ∧ H a = some (.ins (T.cad c) dx fs) ∧ ∀ m, m ∉ q.fields → fs.lookup m = none := by
  cases d <;> simp only [isOb, Bool.false_eq_true] at h
  · rename_i c' fs
    rw [beq_iff_eq] at h
    subst h
    simp only [Rep] at r
    obtain ⟨a, dx, vs, rfl, h2, hl, h3⟩ := r
    exact ⟨a, dx, _, rfl, R.rc.pH _ _ h2, fun m hm => by rw [hc]; exact zip_none hm⟩
  · rename_i n
    split at h
    · rename_i c' fs q' e1 e2
      rw [hk] at e2; cases e2
      rw [Bool.and_eq_true, beq_iff_eq, List.all_eq_true] at h
      obtain ⟨rfl, h⟩ := h
      simp only [Rep] at r
      obtain ⟨a, ha, rfl⟩ := r
      obtain ⟨o, ho, dx, vs, ⟨rfl, _⟩, h3⟩ := R.rc.cel n _ a e1 ha
      refine ⟨a, dx, _, rfl, ho, fun m hm => zip_none fun z => hm ?_⟩
      obtain ⟨y, hy, rfl⟩ := List.mem_map.1 z
      simpa using h y hy
    · cases h
theorem den_op1n (o : Op) (a : EX) : denE p (.op1 o a .nil .nil) = fun e s => (denE p a e s).bind fun x e s => if grdD p o x s then opD p o [x] [] e s else .bad := by
  funext e s
  rw [denE]
  simp only [denES]
  rfl
/-! ### - -/
theorem pe_negX {a : EX} {x : Expr} {pos : Pos} (ha : PE X x (RdE T W (denE p a))) : PE X (.UnaryOp .USub x pos) (RdE T W (denE p (.op1 .neg a .nil .nil))) := by
  refine (pe_un un_neg ha).imp fun σ H Q h => ?_
  obtain ⟨F, G, P, θ, env, sto, R, h⟩ := h
  rw [den_op1n] at h
  refine ⟨F, G, P, θ, env, sto, R, Pst.bnd (f := fun x e s => if grdD p .neg x s then opD p .neg [x] [] e s else .bad) h fun d e1 s1 P1 θ1 H1 _ _ R1 q v rv => ?_⟩
  cases d <;> try exact q.elim
  rename_i i
  simp only [Rep] at rv
  have q : Pst T W F G P1 θ1 σ (.ok (.int (-i)) e1 s1) (KE T Q) := q
  exact ⟨i, rv, q.here R1 _ (by rw [Rep])⟩
/-! ### o.f -/
theorem pe_fldX (M : Md C T p k N sc X) {a : EX} {x : Expr} {f : Str} {pos : Pos} (hb : noSup x = true) (ha : PE X x (RdE T W (denE p a))) : PE X (.Attribute x f pos) (RdE T W (denE p (.op1 (.fld f) a .nil .nil))) := by
  refine (pe_fld ha (base_of hb)).imp fun σ H Q h => ?_
  obtain ⟨F, G, P, θ, env, sto, R, h⟩ := h
  rw [den_op1n] at h
  refine ⟨F, G, P, θ, env, sto, R, Pst.bnd (f := fun x e s => if grdD p (.fld f) x s then opD p (.fld f) [x] [] e s else .bad) h fun d e1 s1 P1 θ1 H1 _ _ R1 q v rv => ?_⟩
  have q : Pst T W F G P1 θ1 σ (opt (fldD p f s1 d) e1 s1) (KE T Q) := q
  obtain ⟨d', e, qq⟩ := opt_some q
  rw [M.K]
  cases d with
  | obj c fs =>
    simp only [fldD] at e
    split at e
    · rename_i q' hk
      split at e
      · rename_i hf
        have K1 := M.cls c q' (by rw [← M.kl]; exact hk)
        simp only [Rep] at rv
        obtain ⟨b, dx, vs, rfl, h2, hl, h3⟩ := rv
        obtain ⟨w, e1, e2⟩ := h3.get e
        have hf' : f ∈ q'.fields := by simpa using hf
        refine ⟨b, T.cad c, dx, _, w, rfl, R1.rc.pH _ _ h2, K1.cls, K1.noat f hf', ?_, qq.here R1 _ e2⟩
        rw [K1.cfs, zip_ix hf']
        exact e1
      · cases e
    · cases e
  | ref n =>
    simp only [fldD] at e
    split at e
    · rename_i c fs hs
      split at e
      · rename_i q' hk
        split at e
        · rename_i hf
          have K1 := M.cls c q' (by rw [← M.kl]; exact hk)
          simp only [Rep] at rv
          obtain ⟨b, hb', rfl⟩ := rv
          obtain ⟨o, ho, dx, vs, ⟨rfl, _⟩, h3⟩ := R1.rc.cel n _ b hs hb'
          obtain ⟨w, e1, e2⟩ := zip_lookup h3 e
          exact ⟨b, T.cad c, dx, _, w, rfl, ho, K1.cls, K1.noat f (by simpa using hf), e1, qq.here R1 _ e2⟩
        · cases e
      · cases e
    · cases e
  | _ => cases e
/-! ### isinstance of an own class -/
theorem pe_clsN (M : Md C T p k N sc X) {c : Nat} {x : Str} (h1 : glb sc x = true) (h2 : okN x = true) (h3 : clsNm C c x = true) : ∃ q, C.kl[c]? = some q ∧ X.mg x = some (.ref (T.cad c)) ∧ ∀ pos, PE X (.Name x pos) (tC (.ref (T.cad c))) := by
  unfold clsNm at h3
  split at h3
  · rename_i q hq
    rw [decide_eq_true_eq] at h3
    subst h3
    exact ⟨q, hq, (M.cls c q hq).nm, fun pos => pe_glob (glb_of M h1) (M.cls c q hq).nm rfl (okN_of h2).1⟩
  · cases h3
theorem pe_iscX (M : Md C T p k N sc X) {c : Nat} {f x : Str} {q1 q2 pos : Pos} {y : Expr} {a : EX} (h1 : glb sc f = true) (h2 : f = "isinstance") (h3 : C.bl.contains f = true) (h4 : plain y = true) (h5 : glb sc x = true) (h6 : okN x = true) (h7 : clsNm C c x = true)
    (ha : PE X y (RdE T W (denE p a))) : PE X (.Call (.Name f q1) [y, .Name x q2] [] pos) (RdE T W (denE p (.op1 (.isc c) a .nil .nil))) := by
  obtain ⟨q', hk, _, hx⟩ := pe_clsN M h5 h6 h7
  subst h2
  refine (pe_callB call_isi (glb_of M h1) (M.blt _ (by simpa using h3)) boot_isi (pa_cons ha (pa_cons (hx q2) pa_nil (star_plain rfl)) (star_plain h4)) (by decide) (by decide) (star_plain h4) (star_any rfl)).imp fun σ H Q h => ?_
  obtain ⟨F, G, P, θ, env, sto, R, h⟩ := h
  rw [den_op1n] at h
  refine ⟨F, G, P, θ, env, sto, R, Pst.bnd (f := fun x e s => if grdD p (.isc c) x s then opD p (.isc c) [x] [] e s else .bad) h fun d e1 s1 P1 θ1 H1 _ _ R1 q v rv => ?_⟩
  have q : Pst T W F G P1 θ1 σ (opt ((iscD p c d).map D.bl) e1 s1) (KE T Q) := q
  obtain ⟨d', e, q⟩ := opt_some q
  obtain ⟨b, e', rfl⟩ := map_some e
  have K1 := M.cls c q' hk
  have fin : Q (.bl b) H1 := q.here R1 _ (by rw [Rep])
  show rIsi X.K [v, .ref (T.cad c)] H1 Q
  rw [M.K]
  have pl : ∀ {t : String}, tyD d = some t → iscD p c d = some false → t ∈ (["NoneType", "bool", "int", "str", "list", "tuple"] : List String) → rIsi T.K [v, .ref (T.cad c)] H1 Q := fun {t} ht h0 hm => by
    rw [h0] at e'; cases e'
    exact ⟨v, .ref (T.cad c), .type t, .ref (T.cad c), false, rfl, .own _, tyx_rep R1.rc.pH rv ht, (K1.isp t hm).1, fin⟩
  cases d with
  | non => exact pl rfl rfl (by simp)
  | bl _ => exact pl rfl rfl (by simp)
  | int _ => exact pl rfl rfl (by simp)
  | str _ => exact pl rfl rfl (by simp)
  | lst _ => exact pl rfl rfl (by simp)
  | tup _ => exact pl rfl rfl (by simp)
  | obj c' fs =>
    simp only [iscD, M.kl] at e'
    cases hc' : C.kl[c']? with
    | none => rw [hc'] at e'; cases e'
    | some q2 =>
      rw [hc'] at e'
      have eb : b = (c' == c) := by cases e'; rfl
      subst eb
      simp only [Rep] at rv
      obtain ⟨a', dx, vs, rfl, h2, hl, h3⟩ := rv
      have K2 := M.cls c' q2 hc'
      exact ⟨.ref a', .ref (T.cad c), .ref (T.cad c'), .ref (T.cad c), _, rfl, .own _, .base (.ins (R1.rc.pH _ _ h2) K2.cls K2.ty.1 K2.ty.2.1 K2.ty.2.2.1 K2.ty.2.2.2), M.cap c c' q' q2 hk hc', fin⟩
  | _ => cases e'
end
end Mx

namespace Mx
open PySem L2
open Evl (Ex)
section
variable {C : Ctx} {T : Tb} {p : Pg} {k : Nat} {N : List Str} {sc : Scope} {X : Cx} {W : WX} {σ : St} {H : Hp} {Q : VK} {F G P : Hp} {θ : List Addr} {env : En} {sto : So}
theorem bl_h {ne : Bool} {r : Res D} (h : Pst T W F G P θ σ (blRes ne r) (KE T Q)) : Pst T W F G P θ σ r (KE T fun v H' => ∃ k, v = .bl k ∧ Q (.bl (k != ne)) H') := by
  refine Pst.bnd h fun d e1 s1 P1 θ1 H1 _ _ R1 q v rv => ?_
  cases d <;> try exact q.elim
  rename_i b
  simp only [Rep] at rv
  have q : Pst T W F G P1 θ1 σ (.ok (.bl (b != ne)) e1 s1) (KE T Q) := q
  exact ⟨b, rv, q.here R1 _ (by rw [Rep])⟩
theorem int_h {r : Res D} (h : Pst T W F G P θ σ (intRes r) (KE T Q)) : Pst T W F G P θ σ r (KE T fun v H' => ∃ i : Int, v = .int i ∧ (0 ≤ i ∧ i < 2 ^ 62) ∧ Q (.int i) H') := by
  refine Pst.bnd h fun d e1 s1 P1 θ1 H1 _ _ R1 q v rv => ?_
  cases d <;> try exact q.elim
  rename_i i
  simp only [Rep] at rv
  have q : Pst T W F G P1 θ1 σ (if 0 ≤ i ∧ i < 2 ^ 62 then .ok (.int i) e1 s1 else .bad) (KE T Q) := q
  split at q
  · rename_i hz
    exact ⟨i, rv, hz, q.here R1 _ (by rw [Rep])⟩
  · exact q.elim
theorem str_h {r : Res D} (h : Pst T W F G P θ σ (strRes r) (KE T Q)) : Pst T W F G P θ σ r (KE T fun v H' => ∃ z : Str, v = .str z ∧ Q (.str z) H') := by
  refine Pst.bnd h fun d e1 s1 P1 θ1 H1 _ _ R1 q v rv => ?_
  cases d <;> try exact q.elim
  rename_i z
  have rv0 := rv
  simp only [Rep] at rv
  obtain ⟨rfl, _⟩ := rv
  have q : Pst T W F G P1 θ1 σ (.ok (.str z) e1 s1) (KE T Q) := q
  exact ⟨_, rfl, q.here R1 _ rv0⟩
/-! ### own dunders -/
theorem sameBd_arg {n : Nat} {bd : List Bd} (h : sameBd ((List.range n).map .arg) bd = true) : bd = (List.range n).map .arg := by
  have : ∀ (l : List Nat) (bd : List Bd), sameBd (l.map .arg) bd = true → bd = l.map .arg := by
    intro l
    induction l with
    | nil => intro bd h; cases bd with
      | nil => rfl
      | cons b r => cases b <;> simp [sameBd] at h
    | cons a l ih =>
      intro bd h
      cases bd with
      | nil => simp [sameBd] at h
      | cons b r =>
        cases b with
        | arg m =>
          simp only [List.map_cons, sameBd, Bool.and_eq_true, beq_iff_eq] at h
          rw [← h.1, ih r h.2]; rfl
        | dft d => simp [sameBd] at h
  exact this _ _ h
structure Dun (C : Ctx) (T : Tb) (p : Pg) (k : Nat) (X : Cx) (c : Nat) (m : Str) (n : Nat) (j : Nat) (fn : Fn) (q : Kl) : Prop where
  cl : C.kl[c]? = some q
  ix : q.meths.lookup m = some j
  at_ : C.fs[j]? = some fn
  bd : BindG T (T.fdt j) fn.ps n [] ((List.range n).map .arg)
  bl : ((List.range n).map Bd.arg).length = fn.ps.length
theorem dun_of (M : Md C T p k N sc X) {c n : Nat} {m : Str} (h : dunOk C c m n = true) : ∃ j fn q, Dun C T p k X c m n j fn q := by
  unfold dunOk methIx at h
  cases hq : C.kl[c]? with
  | none => rw [hq] at h; cases h
  | some q =>
    rw [hq] at h
    simp only [Option.bind_some] at h
    cases hj : q.meths.lookup m with
    | none => rw [hj] at h; cases h
    | some j =>
      rw [hj] at h
      simp only at h
      cases hf : C.fs[j]? with
      | none => rw [hf] at h; cases h
      | some fn =>
        rw [hf] at h
        simp only [List.any_eq_true, Bool.and_eq_true, decide_eq_true_eq] at h
        obtain ⟨⟨n', ks, bd⟩, hs, ⟨h1, h2⟩, h3⟩ := h
        obtain ⟨_, _, _, hb⟩ := M.fns j fn hf
        obtain ⟨b1, b2⟩ := hb _ hs
        simp only at h1 h2 h3 b1 b2
        subst h1 h2
        rw [sameBd_arg h3] at b1 b2
        exact ⟨j, fn, q, hq, hj, hf, b1, b2⟩
theorem mth_of {c j : Nat} {m : Str} {n : Nat} {fn : Fn} {q : Kl} (M : Md C T p k N sc X) (D1 : Dun C T p k X c m n j fn q) : mthD p c m = some j := by
  unfold mthD
  rw [M.kl, D1.cl]
  exact D1.ix
/-- an own dunder runs at the caller's depth -/
theorem dun_run (M : Md C T p k N sc X) (tk : Takes X W) {pins : List (Addr × Obj)} {s : Shared} {c j : Nat} {m : Str} {n : Nat} {fn : Fn} {q : Kl} (D1 : Dun C T p k X c m n j fn q) (I : Inv X pins σ H s) {us : List Value} {vs : List V} {ds : List D} (hn : us.length = n) (rv : Vals vs us)
    (R : Rel T F G P θ env sto σ H) (h1 : RepL T P θ ds vs) (hb : bdD (ds ++ []) ((List.range n).map .arg) = some ds) (h : Pst T W F G P θ σ (callB p (mthD p c m) ds env sto) (KE T Q)) :
    wpAny (model X.prog X.w) X.A (call (.ref (T.adr j)) us) (EP X pins σ Q) X.xe s := by
  obtain ⟨_, _, Fo, _⟩ := M.fns j fn D1.at_
  rw [mth_of M D1] at h
  have := run_call (us := us) (ws := []) (zs := []) (es := []) (ks := []) Fo M.room M.K D1.bd D1.bl tk I hn rfl rv .nil R h1 RepL.nil (by rw [hb]; exact h)
  exact this
/-- .. one deeper, from a built-in -/
theorem dun_run1 (M : Md C T p k N sc X) (tk : Takes X W) {pins : List (Addr × Obj)} {s : Shared} {c j : Nat} {m : Str} {n : Nat} {fn : Fn} {q : Kl} (D1 : Dun C T p k X c m n j fn q) (I : Inv X pins σ H s) {us : List Value} {vs : List V} {ds : List D} (hn : us.length = n) (rv : Vals vs us)
    (R : Rel T F G P θ env sto σ H) (h1 : RepL T P θ ds vs) (hb : bdD (ds ++ []) ((List.range n).map .arg) = some ds) (h : Pst T W F G P θ σ (callLB p (mthD p c m) ds env sto) (KE T Q)) :
    wpAny (model X.prog X.w) X.A.in1 (call (.ref (T.adr j)) us) (EP X pins σ Q) X.xe s := by
  rw [mth_of M D1] at h
  rcases M.fns1 with ⟨_, hb0⟩ | ⟨j', rfl, Fo⟩
  · have h : Pst T W F G P θ σ (callL p j ds env sto) (KE T Q) := h
    unfold callL at h
    rw [hb0] at h
    exact h.elim
  · refine wpAny_call (codeAny_mono (run_code (us := us) (ws := []) (zs := []) (es := []) (ks := []) (Fo j fn D1.at_) M.room.in1 I.env0.in1 M.K D1.bd D1.bl tk I hn rfl rv .nil R h1 RepL.nil (by rw [hb]; exact h)) fun r s' hq => ?_)
    cases r with
    | error e => exact hq
    | ok fl => cases fl <;> exact hq
theorem look_of {pins : List (Addr × Obj)} {s : Shared} (I : Inv X pins σ H s) {a C' dx : Addr} {fs : List (Str × V)} (e : H a = some (.ins C' dx fs)) : ∃ od, PySem.W.InstAt s.heap a (PySem.W.instObj C' dx) C' (some od) := by
  obtain ⟨mA, O, _, _, _, _⟩ := ins_get I.hok e
  obtain ⟨od, J, _⟩ := O.look
  exact ⟨od, J⟩
theorem den_op2 (o : Op) (a b : EX) : denE p (.op1 o a (.cons b .nil) .nil) = fun e s => (denE p a e s).bind fun x e s => if grdD p o x s then (denE p b e s).bind fun y e s => opD p o [x, y] [] e s else .bad := by
  funext e s
  rw [denE]
  simp only [denES]
  cases denE p a e s with
  | er => rfl
  | bad => rfl
  | ok x e1 s1 =>
    show (if grdD p o x s1 then _ else _) = (if grdD p o x s1 then _ else _)
    split
    · cases denE p b e1 s1 <;> rfl
    · rfl
/-- the class of what an own == gets -/
theorem type_of (M : Md C T p k N sc X) {pins : List (Addr × Obj)} {s : Shared} (I : Inv X pins σ H s) {c : Nat} {q : Kl} (hq : C.kl[c]? = some q) {d : D} {y : V} {u : Value} (R : Rel T F G P θ env sto σ H) (ry : Rep T P θ d y) (ru : RelV y u) (h : (isPl d || isOb p c sto d) = true) :
    ∃ t, PySem.W.Looks (model X.prog X.w) s.heap (typeOf u) t ∧ PySem.W.notFirst T.K (T.cad c) t = true := by
  have K1 := M.cls c q hq
  have pl : ∀ {t : String}, tyD d = some t → t ∈ (["NoneType", "bool", "int", "str", "list", "tuple"] : List String) → ∃ t, PySem.W.Looks (model X.prog X.w) s.heap (typeOf u) t ∧ PySem.W.notFirst T.K (T.cad c) t = true := fun {t} ht hm => by
    obtain ⟨P', z1, z2, _⟩ := kit_of I ru (by rw [M.K]; exact tyx_rep R.rc.pH ry ht)
    exact ⟨_, z1.ty _ _ I.kIn z2, (K1.isp t hm).2⟩
  by_cases ho : isOb p c sto d = true
  · obtain ⟨a, dx, fs, rfl, e, _⟩ := ins_of R ry ho (by rw [M.kl]; exact hq) K1.cfs
    cases ru
    obtain ⟨od, J⟩ := look_of I e
    exact ⟨_, J.type, by simp [PySem.W.notFirst]⟩
  · rw [Bool.or_eq_true] at h
    rcases h with h | h
    · cases d <;> first | cases h | skip
      · exact pl rfl (by simp)
      · exact pl rfl (by simp)
      · exact pl rfl (by simp)
      · exact pl rfl (by simp)
      · exact pl rfl (by simp)
      · exact pl rfl (by simp)
    · exact absurd h ho
def tOpS (σ : St) (T : Tb) (W : WX) (f : D → D → DM D) : R2 := fun x y H Q => ∃ F G P θ env sto d1 d2, Rel T F G P θ env sto σ H ∧ Rep T P θ d1 x ∧ Rep T P θ d2 y ∧ Pst T W F G P θ σ (f d1 d2 env sto) (KE T Q)
theorem rd_opS {o : Op} {a b : EX} (h : RdE T W (denE p (.op1 o a (.cons b .nil) .nil)) σ H Q) : tOp (tOpS σ T W fun x y e s => opD p o [x, y] [] e s) (RdE T W (denE p a)) (RdE T W (denE p b)) σ H Q := by
  obtain ⟨F, G, P, θ, env, sto, R, h⟩ := h
  rw [den_op2] at h
  refine ⟨F, G, P, θ, env, sto, R, Pst.bnd (f := fun x e s => if grdD p o x s then (denE p b e s).bind fun y e s => opD p o [x, y] [] e s else .bad) h fun x e1 s1 P1 θ1 H1 _ _ R1 q v rv => ?_⟩
  split at q
  · exact ⟨F, G, P1, θ1, e1, s1, R1, q.bnd fun y e2 s2 P2 θ2 H2 a2 t2 R2 q2 u ru => ⟨F, G, P2, θ2, e2, s2, x, y, R2, rv.mono a2 t2, ru, q2⟩⟩
  · exact q.elim
theorem run_eq (M : Md C T p k N sc X) (tk : Takes X W) {pins : List (Addr × Obj)} {s : Shared} {c : Nat} (hd : dunOk C c "__eq__" 2 = true) (I : Inv X pins σ H s) {x y : V} {v u : Value} (rx : RelV x v) (ry : RelV y u) (h : tOpS σ T W (fun x y e s => opD p (.oeq c false) [x, y] [] e s) x y H Q) :
    wpAny (model X.prog X.w) X.A (compareOp .Eq v u) (EP X pins σ Q) X.xe s := by
  obtain ⟨F, G, P, θ, env, sto, d1, d2, R, r1, r2, h⟩ := h
  have h : Pst T W F G P θ σ (if isOb p c sto d1 && (isPl d2 || isOb p c sto d2) then blRes false (callB p (mthD p c "__eq__") [d1, d2] env sto) else .bad) (KE T Q) := h
  split at h
  · rename_i hz
    rw [Bool.and_eq_true] at hz
    obtain ⟨j, fn, q, D1⟩ := dun_of M hd
    have K1 := M.cls c q D1.cl
    obtain ⟨a, dx, fs, rfl, e, _⟩ := ins_of R r1 hz.1 (by rw [M.kl]; exact D1.cl) K1.cfs
    cases rx
    obtain ⟨od, J⟩ := look_of I e
    obtain ⟨tb, L, nf⟩ := type_of M I D1.cl R r2 ry hz.2
    obtain ⟨m, fr⟩ := I.fr
    have hm := (K1.meth _ _ D1.ix).1
    show wpAny _ _ (richCompare .Eq (.ref a) u) _ _ _
    refine PySem.W.cmp_K (K := X.K) (op := .Eq) M.room.units0 fr I.ok.mod.kin J L (by rw [M.K]; exact nf) (by rw [M.K]; exact hm.at_) (by rw [M.K]; exact hm.fn) ?_
    refine wpAny_mono (dun_run M tk D1 I (us := [.ref a, u]) (vs := [.ref a, y]) rfl (.cons rfl (.cons ry .nil)) R (RepL.cons r1 (RepL.one r2)) rfl (bl_h h)) (fun w s' hw => ?_) fun _ _ z => z
    obtain ⟨w', H', I', rw', b, rfl, q'⟩ := hw
    cases rw'
    exact ⟨.bl b, H', I', rfl, by simpa using q'⟩
  · exact h.elim
theorem pc_oeqX (M : Md C T p k N sc X) (tk : Takes X W) {c : Nat} {a b : EX} {l r : Expr} (hd : dunOk C c "__eq__" 2 = true) (ha : PE X l (RdE T W (denE p a))) (hb : PE X r (RdE T W (denE p b))) :
    PC X .Eq l r (RdE T W (denE p (.op1 (.oeq c false) a (.cons b .nil) .nil))) :=
  ⟨fun pins s σ H Q I h => binT ha hb I (rd_opS h) fun v u s2 x y H2 I2 rx ry q => run_eq M tk hd I2 rx ry q⟩
end
end Mx

namespace Mx
open PySem L2
open Evl (Ex)
/-! ### != by the own == -/
section
open PySem.W PyProof.Rows
variable {prog : Program} {w : World} {A : Around} {E : Value → Shared → Prop} {s : Shared} {K : Frag} {x C L f : Addr} {h₀ : Heap} {m : Str → Option Value} {ox : Obj} {od : Option Obj} {b tb : Value}
theorem obj_ne {Q : Fin → Shared → Prop} (hu : A.units < cLine) (X : K.In s.heap) (I : InstAt s.heap x ox C od) (he : findIn K (.ref C) "__eq__" = some (some (.ref f))) (hf : isFn K (.ref f) = true)
    (h : wpAny (model prog w) A (call (.ref f) [.ref x, b]) (fun v s' => ∃ k, v = .bool k ∧ Q (.done (.ret (.bool (!k)))) s') E s) : wpAny (model prog w) A (Builtin.«object.__ne__» ⟨[.ref x, b], []⟩) Q E s := by
  unfold Builtin.«object.__ne__»
  refine wpAny_bind (wpAny_of_eq (a := ((.ref x : Value), [b])) (by first | rfl | kernel_rfl) ?_)
  refine wpAny_bind (wpAny_cRoomFor hu ?_)
  refine wpAny_bind (m := callSpecialIfBound? (.ref x) (Str.ofString "__eq__") [b]) (ifBound_K X I he hf (wpAny_mono h (fun r s' hr => ?_) fun _ _ e => e))
  obtain ⟨k, rfl, hq⟩ := hr
  exact wpAny_bind (wpAny_truthy_bool (wpAny_pure hq))
theorem ne_K {Q : Value → Shared → Prop} (hu : A.units + 1 < cLine) (F : Fr h₀ L s.heap m) (X₀ : K.In h₀) (I : InstAt s.heap x ox C od) (hb : Looks (model prog w) s.heap (typeOf b) tb) (hn : notFirst K C tb = true)
    (hs : findIn K (.ref C) "__ne__" = some (some (.builtin "object.__ne__"))) (he : findIn K (.ref C) "__eq__" = some (some (.ref f))) (hf : isFn K (.ref f) = true) (hm : mroIn K C (.type "object") = some true)
    (h : wpAny (model prog w) A.in1 (call (.ref f) [.ref x, b]) (fun v s' => ∃ k, v = .bool k ∧ Q (.bool (!k)) s') E s) : wpAny (model prog w) A (richCompare .NotEq (.ref x) b) Q E s := by
  have X := X₀.keeps F.keep
  have sub : Looks (model prog w) s.heap (isInstance (.ref x) (.type "object")) true := I.type.andThen (looks_mroIn X hm)
  have run : wpAny (model prog w) A (call (.builtin "object.__ne__") [.ref x, b]) (fun v s' => v ≠ .notImplemented ∧ Q v s') E s := by
    refine wpAny_call (codeAny_call_builtin PySem.F.cmp_object.ne.plain PySem.F.cmpEntry_ne (@W.check_slot (model prog w) _ _ s "object.__ne__" "object" "__ne__" (.ref x) [b] [] _ PySem.F.cmpKind_ne PySem.F.cmpSplit_ne sub (PySem.F.cmpArgs_ne _ _) ?_))
    refine obj_ne hu X I he hf (wpAny_mono h (fun v s' hv => ?_) fun _ _ e => e)
    obtain ⟨k, rfl, hq⟩ := hv
    exact ⟨k, rfl, (fun z => nomatch z), hq⟩
  have one : wpAny (model prog w) A (tryCompare (.ref x) "__ne__" b) (fun r s' => ∃ v, r = some v ∧ Q v s') E s := by
    unfold tryCompare
    refine wpAny_bind ?_
    simp only [callSpecialIfBound?, bindSpecialIfBound?]
    refine wpAny_holding (wpAny_bind (wpAny_bind (wpAny_bind (I.type.here ((looks_findIn X hs).here ?_)))))
    refine wpAny_bind (wpAny_askSetting (wpAny_ite ?_))
    have fin : wpAny (model prog w) A (call (.builtin "object.__ne__") ([.ref x] ++ [b]) >>= fun v => pure (some v)) (fun r s' => wpAny (model prog w) A (match r with | some .notImplemented => pure none | none => pure none | some v => pure (some v)) (fun r s' => ∃ v, r = some v ∧ Q v s') E s') E s :=
      wpAny_bind (wpAny_mono run (fun v s' hv => wpAny_pure (by cases v <;> first | exact absurd rfl hv.1 | exact wpAny_pure ⟨_, rfl, hv.2⟩)) fun _ _ e => e)
    split
    · exact wpAny_bind (wpAny_of_eq (PySem.F.cmp_object.ne.bind _) (wpAny_pure (by exact fin)))
    · exact wpAny_tryCatch (wpAny_bind (wpAny_of_eq (PySem.F.cmp_object.ne.bind _) (wpAny_pure (by exact fin))))
  unfold richCompare
  simp only [oneThing_ref]
  refine wpAny_holding (wpAny_bind (wpAny_cRoomFor (Nat.lt_of_succ_lt hu) ?_))
  refine wpAny_bind (I.type.here (wpAny_bind (hb.here ?_)))
  split
  · rename_i q
    have e : subIn K tb (.ref C) = some false := by
      rcases Bool.or_eq_true_iff.mp hn with e | e
      · rw [beq_iff_eq.mp e] at q; simp at q
      · exact beq_iff_eq.mp e
    refine wpAny_bind ((looks_subIn X e).here ?_)
    simp only [Bool.false_eq_true, if_false]
    refine wpAny_bind (wpAny_mono one (fun r s' z => ?_) fun _ _ e => e)
    obtain ⟨v, rfl, hq⟩ := z
    exact wpAny_pure hq
  · refine wpAny_bind (wpAny_pure ?_)
    simp only [Bool.false_eq_true, if_false]
    refine wpAny_bind (wpAny_mono one (fun r s' z => ?_) fun _ _ e => e)
    obtain ⟨v, rfl, hq⟩ := z
    exact wpAny_pure hq
end
section
variable {C : Ctx} {T : Tb} {p : Pg} {k : Nat} {N : List Str} {sc : Scope} {X : Cx} {W : WX} {σ : St} {H : Hp} {Q : VK} {F G P : Hp} {θ : List Addr} {env : En} {sto : So}
theorem run_ne (M : Md C T p k N sc X) (tk : Takes X W) {pins : List (Addr × Obj)} {s : Shared} {c : Nat} (hd : dunOk C c "__eq__" 2 = true) (I : Inv X pins σ H s) {x y : V} {v u : Value} (rx : RelV x v) (ry : RelV y u) (h : tOpS σ T W (fun x y e s => opD p (.oeq c true) [x, y] [] e s) x y H Q) :
    wpAny (model X.prog X.w) X.A (compareOp .NotEq v u) (EP X pins σ Q) X.xe s := by
  obtain ⟨F, G, P, θ, env, sto, d1, d2, R, r1, r2, h⟩ := h
  have h : Pst T W F G P θ σ (if isOb p c sto d1 && (isPl d2 || isOb p c sto d2) then blRes true (callLB p (mthD p c "__eq__") [d1, d2] env sto) else .bad) (KE T Q) := h
  split at h
  · rename_i hz
    rw [Bool.and_eq_true] at hz
    obtain ⟨j, fn, q, D1⟩ := dun_of M hd
    have K1 := M.cls c q D1.cl
    obtain ⟨a, dx, fs, rfl, e, _⟩ := ins_of R r1 hz.1 (by rw [M.kl]; exact D1.cl) K1.cfs
    cases rx
    obtain ⟨od, J⟩ := look_of I e
    obtain ⟨tb, L, nf⟩ := type_of M I D1.cl R r2 ry hz.2
    obtain ⟨m, fr⟩ := I.fr
    have hm := (K1.meth _ _ D1.ix).1
    show wpAny _ _ (richCompare .NotEq (.ref a) u) _ _ _
    refine ne_K (K := X.K) (by have := M.room.units; omega) fr I.ok.mod.kin J L (by rw [M.K]; exact nf) (by rw [M.K]; exact K1.ne) (by rw [M.K]; exact hm.at_) (by rw [M.K]; exact hm.fn) (by rw [M.K]; exact K1.ty.2.2.2) ?_
    refine wpAny_mono (dun_run1 M tk D1 I (us := [.ref a, u]) (vs := [.ref a, y]) rfl (.cons rfl (.cons ry .nil)) R (RepL.cons r1 (RepL.one r2)) rfl (bl_h h)) (fun w s' hw => ?_) fun _ _ z => z
    obtain ⟨w', H', I', rw', b, rfl, q'⟩ := hw
    cases rw'
    exact ⟨b, rfl, .bl (!b), H', I', rfl, by simpa using q'⟩
  · exact h.elim
theorem pc_oneX (M : Md C T p k N sc X) (tk : Takes X W) {c : Nat} {a b : EX} {l r : Expr} (hd : dunOk C c "__eq__" 2 = true) (ha : PE X l (RdE T W (denE p a))) (hb : PE X r (RdE T W (denE p b))) :
    PC X .NotEq l r (RdE T W (denE p (.op1 (.oeq c true) a (.cons b .nil) .nil))) :=
  ⟨fun pins s σ H Q I h => binT ha hb I (rd_opS h) fun v u s2 x y H2 I2 rx ry q => run_ne M tk hd I2 rx ry q⟩
/-! ### x in o -/
theorem run_in (M : Md C T p k N sc X) (tk : Takes X W) {pins : List (Addr × Obj)} {s : Shared} {c : Nat} {ne : Bool} (hd : dunOk C c "__contains__" 2 = true) (I : Inv X pins σ H s) {x y : V} {v u : Value} (rx : RelV x v) (ry : RelV y u) (h : tOpS σ T W (fun x y e s => opD p (.oin c ne) [x, y] [] e s) x y H Q) :
    wpAny (model X.prog X.w) X.A (compareOp (if ne then .NotIn else .In) v u) (EP X pins σ Q) X.xe s := by
  obtain ⟨F, G, P, θ, env, sto, d1, d2, R, r1, r2, h⟩ := h
  have h : Pst T W F G P θ σ (if isOb p c sto d2 then blRes ne (callB p (mthD p c "__contains__") [d2, d1] env sto) else .bad) (KE T Q) := h
  split at h
  · rename_i hz
    obtain ⟨j, fn, q, D1⟩ := dun_of M hd
    have K1 := M.cls c q D1.cl
    obtain ⟨a, dx, fs, rfl, e, _⟩ := ins_of R r2 hz (by rw [M.kl]; exact D1.cl) K1.cfs
    cases ry
    obtain ⟨od, J⟩ := look_of I e
    obtain ⟨m, fr⟩ := I.fr
    have hm := (K1.meth _ _ D1.ix).1
    have go := dun_run M tk D1 I (us := [.ref a, v]) (vs := [.ref a, x]) rfl (.cons rfl (.cons rx .nil)) R (RepL.cons r2 (RepL.one r1)) rfl (bl_h h)
    cases ne with
    | false =>
      refine PySem.W.in_K (K := X.K) fr I.ok.mod.kin J (by rw [M.K]; exact hm.at_) (by rw [M.K]; exact hm.fn) (wpAny_mono go (fun w s' hw => ?_) fun _ _ z => z)
      obtain ⟨w', H', I', rw', b, rfl, q'⟩ := hw
      cases rw'
      exact wpAny_truthy_bool ⟨.bl b, H', I', rfl, by simpa using q'⟩
    | true =>
      refine PySem.W.notIn_K (K := X.K) fr I.ok.mod.kin J (by rw [M.K]; exact hm.at_) (by rw [M.K]; exact hm.fn) (wpAny_mono go (fun w s' hw => ?_) fun _ _ z => z)
      obtain ⟨w', H', I', rw', b, rfl, q'⟩ := hw
      cases rw'
      exact wpAny_truthy_bool ⟨.bl (!b), H', I', rfl, by simpa using q'⟩
  · exact h.elim
theorem pc_oinX (M : Md C T p k N sc X) (tk : Takes X W) {c : Nat} {ne : Bool} {a b : EX} {l r : Expr} (hd : dunOk C c "__contains__" 2 = true) (ha : PE X l (RdE T W (denE p a))) (hb : PE X r (RdE T W (denE p b))) :
    PC X (if ne then .NotIn else .In) l r (RdE T W (denE p (.op1 (.oin c ne) a (.cons b .nil) .nil))) :=
  ⟨fun pins s σ H Q I h => binT ha hb I (rd_opS h) fun v u s2 x y H2 I2 rx ry q => run_in M tk hd I2 rx ry q⟩
/-! ### len(o), repr(o) -/
def tUnS (σ : St) (T : Tb) (W : WX) (f : D → DM D) : V → Hp → VK → Prop := fun x H Q => ∃ F G P θ env sto d, Rel T F G P θ env sto σ H ∧ Rep T P θ d x ∧ Pst T W F G P θ σ (f d env sto) (KE T Q)
theorem rd_unS {o : Op} {a : EX} {R : V → Hp → Prop} (hg : ∀ x s, grdD p o x s = true) (h : RdE T W (denE p (.op1 o a .nil .nil)) σ H Q) (k : ∀ x H1, tUnS σ T W (fun x e s => opD p o [x] [] e s) x H1 Q → R x H1) : RdE T W (denE p a) σ H R := by
  obtain ⟨F, G, P, θ, env, sto, R0, h⟩ := h
  rw [den_op1n] at h
  refine ⟨F, G, P, θ, env, sto, R0, Pst.bnd (f := fun x e s => if grdD p o x s then opD p o [x] [] e s else .bad) h fun x e1 s1 P1 θ1 H1 _ _ R1 q v rv => ?_⟩
  rw [if_pos (hg x s1)] at q
  exact k _ _ ⟨F, G, P1, θ1, e1, s1, x, R1, rv, q⟩
theorem boot_len' : bootBuiltins "len" = some (.builtin "len") := by decide +kernel
theorem boot_repr : bootBuiltins "repr" = some (.builtin "repr") := by decide +kernel
theorem pe_olenX (M : Md C T p k N sc X) (tk : Takes X W) {c : Nat} {x : Str} {a : EX} {y : Expr} {q1 pos : Pos} (h1 : glb sc x = true) (h2 : x = "len") (h3 : C.bl.contains x = true) (h4 : plain y = true) (hd : dunOk C c "__len__" 1 = true) (ha : PE X y (RdE T W (denE p a))) :
    PE X (.Call (.Name x q1) [y] [] pos) (RdE T W (denE p (.op1 (.olen c) a .nil .nil))) := by
  subst h2
  refine ⟨fun pins s σ H Q I h => ?_⟩
  refine wpAny_Call_Name_kw (ld_blt I (glb_of M h1) (M.blt _ (by simpa using h3)) boot_len' ?_ (by decide) (by decide))
  have hA : tCons (RdE T W (denE p a)) tNil σ H (fun vs H1 => ∃ x, vs = [x] ∧ tUnS σ T W (fun x e s => opD p (.olen c) [x] [] e s) x H1 Q) := rd_unS (fun _ _ => rfl) h fun x H1 z => ⟨x, rfl, z⟩
  refine PyProof.Rows.callWith_builtin1 (thn ((pa_cons ha pa_nil (star_plain h4)).run pos pins s σ H _ I hA) fun us s1 ⟨vs, H1, I1, r1, x, ex, q⟩ => ?_) (star_plain h4) (star_any rfl)
  subst ex
  obtain ⟨u, rfl, ru⟩ := vals1 r1
  obtain ⟨F, G, P, θ, env, sto, d, R, rd, hq⟩ := q
  have hq : Pst T W F G P θ σ (if isOb p c sto d then intRes (callLB p (mthD p c "__len__") [d] env sto) else .bad) (KE T Q) := hq
  split at hq
  · rename_i hz
    obtain ⟨j, fn, q, D1⟩ := dun_of M hd
    have K1 := M.cls c q D1.cl
    obtain ⟨b, dx, fs, rfl, e, _⟩ := ins_of R rd hz (by rw [M.kl]; exact D1.cl) K1.cfs
    cases ru
    obtain ⟨od, J⟩ := look_of I1 e
    obtain ⟨m, fr⟩ := I1.fr
    have hm := (K1.meth _ _ D1.ix).1
    refine PySem.W.len_K (K := X.K) fr I1.ok.mod.kin J (by rw [M.K]; exact hm.at_) (by rw [M.K]; exact hm.fn) (wpAny_mono (dun_run1 M tk D1 I1 (us := [.ref b]) (vs := [.ref b]) rfl (.cons rfl .nil) R (RepL.one rd) rfl (int_h hq)) (fun w s' hw => ?_) fun _ _ z => z)
    obtain ⟨w', H', I', rw', i, rfl, hi, q'⟩ := hw
    obtain ⟨t, rfl⟩ := rw'
    exact ⟨⟨hi.1, by have := hi.2; omega⟩, .int i, H', I'.tok _, ⟨_, rfl⟩, q'⟩
  · exact hq.elim
theorem pe_orepX (M : Md C T p k N sc X) (tk : Takes X W) {c : Nat} {x : Str} {a : EX} {y : Expr} {q1 pos : Pos} (h1 : glb sc x = true) (h2 : x = "repr") (h3 : C.bl.contains x = true) (h4 : plain y = true) (hd : dunOk C c "__repr__" 1 = true) (ha : PE X y (RdE T W (denE p a))) :
    PE X (.Call (.Name x q1) [y] [] pos) (RdE T W (denE p (.op1 (.orep c) a .nil .nil))) := by
  subst h2
  refine ⟨fun pins s σ H Q I h => ?_⟩
  refine wpAny_Call_Name_kw (ld_blt I (glb_of M h1) (M.blt _ (by simpa using h3)) boot_repr ?_ (by decide) (by decide))
  have hA : tCons (RdE T W (denE p a)) tNil σ H (fun vs H1 => ∃ x, vs = [x] ∧ tUnS σ T W (fun x e s => opD p (.orep c) [x] [] e s) x H1 Q) := rd_unS (fun _ _ => rfl) h fun x H1 z => ⟨x, rfl, z⟩
  refine PyProof.Rows.callWith_builtin1 (thn ((pa_cons ha pa_nil (star_plain h4)).run pos pins s σ H _ I hA) fun us s1 ⟨vs, H1, I1, r1, x, ex, q⟩ => ?_) (star_plain h4) (star_any rfl)
  subst ex
  obtain ⟨u, rfl, ru⟩ := vals1 r1
  obtain ⟨F, G, P, θ, env, sto, d, R, rd, hq⟩ := q
  have hq : Pst T W F G P θ σ (if isOb p c sto d then strRes (callLB p (mthD p c "__repr__") [d] env sto) else .bad) (KE T Q) := hq
  split at hq
  · rename_i hz
    obtain ⟨j, fn, q, D1⟩ := dun_of M hd
    have K1 := M.cls c q D1.cl
    obtain ⟨b, dx, fs, rfl, e, _⟩ := ins_of R rd hz (by rw [M.kl]; exact D1.cl) K1.cfs
    cases ru
    obtain ⟨od, J⟩ := look_of I1 e
    obtain ⟨m, fr⟩ := I1.fr
    have hm := (K1.meth _ _ D1.ix).1
    have hu : X.A.in1.units < cLine := by
      have e : X.A.in1.units = X.A.units + 1 := rfl
      have := M.room.units
      omega
    refine PySem.W.repr_K (K := X.K) hu fr I1.ok.mod.kin J (by rw [M.K]; exact hm.at_) (by rw [M.K]; exact hm.fn) (wpAny_mono (dun_run1 M tk D1 I1 (us := [.ref b]) (vs := [.ref b]) rfl (.cons rfl .nil) R (RepL.one rd) rfl (str_h hq)) (fun w s' hw => ?_) fun _ _ z => z)
    obtain ⟨w', H', I', rw', z, rfl, q'⟩ := hw
    obtain ⟨t, rfl⟩ := rw'
    exact ⟨.str z, H', I', ⟨_, rfl⟩, q'⟩
  · exact hq.elim
end
end Mx

namespace Mx
open PySem L2
open Evl (Ex)
section
variable {C : Ctx} {T : Tb} {p : Pg} {k : Nat} {N : List Str} {sc : Scope} {X : Cx} {W : WX} {σ : St} {H : Hp} {Q : VK} {F G P : Hp} {θ : List Addr} {env : En} {sto : So}
/-! ### a constant of a class -/
theorem pe_cconX (M : Md C T p k N sc X) {c : Nat} {f x : Str} {q1 pos : Pos} (h1 : glb sc x = true) (h2 : okN x = true) (h3 : clsNm C c x = true) : PE X (.Attribute (.Name x q1) f pos) (RdE T W (denE p (.opn (.ccon c f) .nil .nil))) := by
  obtain ⟨q, hq, _, hx⟩ := pe_clsN M h1 h2 h3
  refine (ClX.pe_cval (hx q1) (base_of rfl)).imp fun σ H Q h => ?_
  obtain ⟨F, G, P, θ, env, sto, R, h⟩ := h
  rw [denE] at h
  simp only [denES] at h
  have h : Pst T W F G P θ σ (opt ((p.kl[c]?).bind fun k => k.cons.lookup f) env sto) (KE T Q) := h
  obtain ⟨d, e, h⟩ := opt_some h
  rw [M.kl, hq] at e
  obtain ⟨v, u, mc, c1, c2, c3⟩ := (M.cls c q hq).cons f d e
  refine ⟨T.cad c, mc, v, u, rfl, ?_, ?_, h.here R _ (c3 P θ)⟩
  · rw [M.K]; exact c1
  · rw [M.K]; exact c2
/-! ### f'..' -/
theorem num_rep {d : D} {t : List Nat} {v : V} (r : Rep T P θ d v) (e : numF d = some t) : (∃ y : Str, v = .str y ∧ y.length ≤ sizeLine ∧ y.cps.toList = t) ∨ ∃ i : Int, v = .int i ∧ i.natAbs.log2 < 1920 ∧ (Str.ofString (toString i)).cps.toList = t := by
  cases d <;> simp only [numF, reduceCtorEq] at e
  · rename_i i
    simp only [Rep] at r
    split at e
    · rename_i hz
      cases e
      exact .inr ⟨i, r, hz, rfl⟩
    · cases e
  · rename_i s
    simp only [Rep] at r
    cases e
    obtain ⟨rfl, hz⟩ := r
    exact .inl ⟨_, rfl, by rw [str_len]; exact hz, rfl⟩
/-- the parts of f'..': texts as they stand, and values -/
inductive PFs (X : Cx) (T : Tb) (W : WX) (p : Pg) : ES → List Expr → List TE → Prop where
  | nil : PFs X T W p .nil [] []
  | con {a : EX} {es : ES} {x : Expr} {l : List Expr} {ts : List TE} {z : List Nat} (e : denE p a = fun e s => .ok (.str z) e s) (h : PE X x (RdE T W (denE p a))) (r : PFs X T W p es l ts) : PFs X T W p (.cons a es) (x :: l) (RdE T W (denE p a) :: ts)
  | val {a : EX} {es : ES} {x : Expr} {pos : Pos} {l : List Expr} {ts : List TE} (h : PE X x (RdE T W (denE p a))) (r : PFs X T W p es l ts) : PFs X T W p (.cons a es) (.FormattedValue x (-1) none pos :: l) (tFmt (RdE T W (denE p a)) :: ts)
theorem pfs_pj {es : ES} {l : List Expr} {ts : List TE} (h : PFs X T W p es l ts) : PJ X l ts := by
  induction h with
  | nil => exact .nil
  | con e h r ih => exact .cons h ih
  | val h r ih => exact .cons (pe_fmt h) ih
theorem app_str (acc t : List Nat) : (⟨acc.toArray⟩ : Str) ++ (⟨t.toArray⟩ : Str) = ⟨(acc ++ t).toArray⟩ := by
  apply TL.ext_tl
  rw [TL.tl_append]
theorem rd_fs {es : ES} {l : List Expr} {ts : List TE} (h : PFs X T W p es l ts) : ∀ {acc : List Nat} {F G P : Hp} {θ : List Addr} {env : En} {sto : So} {H : Hp}, Rel T F G P θ env sto σ H → acc.length ≤ sizeLine → Pst T W F G P θ σ (denFs p es acc env sto) (KE T Q) → tJs ts ⟨acc.toArray⟩ σ H fun out H1 => Q (.str out) H1 := by
  induction h with
  | nil =>
    intro acc F G P θ env sto H R hz h
    rw [denFs] at h
    exact Pst.here h R _ (by rw [Rep]; exact ⟨rfl, hz⟩)
  | con e h r ih =>
    rename_i z
    intro acc F G P θ env sto H R hz h
    rw [denFs] at h
    simp only [e] at h
    have h : Pst T W F G P θ σ (if acc.length + z.length ≤ LIM then denFs p _ (acc ++ z) env sto else .bad) (KE T Q) := h
    split at h
    · rename_i hz2
      refine ⟨F, G, P, θ, env, sto, R, ?_⟩
      rw [e]
      intro P1 θ1 H1 a1 t1 R1 v rv
      simp only [Rep] at rv
      obtain ⟨rfl, _⟩ := rv
      refine ⟨_, rfl, ?_, ?_⟩
      · rw [app_str, str_len, List.length_append]; exact hz2
      · rw [app_str]
        exact ih R1 (by rw [List.length_append]; exact hz2) (Pst.mono h a1 t1 fun _ _ _ _ _ _ _ _ _ q => q)
    · exact h.elim
  | val h r ih =>
    intro acc F G P θ env sto H R hz h
    rw [denFs] at h
    refine ⟨F, G, P, θ, env, sto, R, Pst.bnd h fun d e1 s1 P1 θ1 H1 _ _ R1 q v rv => ?_⟩
    cases hn : numF d with
    | none => rw [hn] at q; exact q.elim
    | some t =>
      rw [hn] at q
      simp only at q
      split at q
      · rename_i hz2
        have go : ∀ y : Str, y.cps.toList = t → ∃ y' : Str, V.str y = .str y' ∧ ((⟨acc.toArray⟩ : Str) ++ y').length ≤ sizeLine ∧ tJs _ ((⟨acc.toArray⟩ : Str) ++ y') σ H1 fun out H1 => Q (.str out) H1 := fun y hy => by
          have ey : y = ⟨t.toArray⟩ := by apply TL.ext_tl; exact hy
          subst ey
          refine ⟨_, rfl, ?_, ?_⟩
          · rw [app_str, str_len, List.length_append]; exact hz2
          · rw [app_str]
            exact ih R1 (by rw [List.length_append]; exact hz2) q
        rcases num_rep rv hn with ⟨y, rfl, hy, e⟩ | ⟨i, rfl, hi, e⟩
        · exact .inl ⟨y, rfl, hy, go y e⟩
        · exact .inr ⟨i, rfl, hi, go _ e⟩
      · exact q.elim
theorem pe_fstX {es : ES} {x y : Expr} {l : List Expr} {ts : List TE} {pos : Pos} (h : PFs X T W p es (x :: y :: l) ts) : PE X (.JoinedStr (x :: y :: l) pos) (RdE T W (denE p (.fst es))) := by
  refine (pe_joined (pfs_pj h)).imp fun σ H Q q => ?_
  obtain ⟨F, G, P, θ, env, sto, R, q⟩ := q
  rw [denE] at q
  exact rd_fs h R (Nat.zero_le _) q
end
end Mx

namespace Mx
open PySem L2
open Evl (Ex)
section
variable {C : Ctx} {T : Tb} {p : Pg} {k : Nat} {N : List Str} {sc : Scope} {X : Cx} {W : WX} {σ : St} {H : Hp} {Q : VK} {F G P : Hp} {θ : List Addr} {env : En} {sto : So}
/-! ### o.m(..) -/
theorem form_of {es : List Expr} {kws : List Keyword} {ks : List Str} {env : Env} {pos : Pos} (h : es.all plain = true) (hk : kwN kws = some ks) (hl : es.length + kws.length < 20) :
    methodCallForm (es.length + kws.length) (backTo pos (starEach es env)) (backToKw pos (keywordEach kws env)) = true := by
  have e1 : (backTo pos (starEach es env)).all (fun x => !x.1) = true := by
    have := star_any (pos := pos) (env := env) h
    rw [List.any_eq_false] at this
    rw [List.all_eq_true]
    intro x hx
    have := this x hx
    simp at this
    simp [this]
  obtain ⟨k1, _, _, _⟩ := kw_all (env := env) (pos := pos) hk
  unfold methodCallForm
  rw [e1, k1]
  simp only [Bool.true_and]
  rw [decide_eq_true_eq]
  split <;> omega
theorem meth_eval {o : Expr} {m : Str} {apos pos : Pos} {es : List Expr} {kws : List Keyword} {env : Env} (h1 : noSup o = true) (h2 : methodCallForm (es.length + kws.length) (backTo pos (starEach es env)) (backToKw pos (keywordEach kws env)) = true) (h3 : (apos.endLine == pos.line) = true) :
    eval (.Call (.Attribute o m apos) es kws pos) env = (do
      let ov ← eval o env
      standAt apos.atName
      let (f, first) ← holding [ov] (getMethod ov m (do return (← importBound o env).getD true))
      callWith pos f first (backTo pos (starEach es env)) (backToKw pos (keywordEach kws env))) := by
  have e : eval (.Call (.Attribute o m apos) es kws pos) env = (do
      let ov ← attributeBase o m env (eval o env)
      standAt apos.atName
      methodCall o m apos pos env ov (es.length + kws.length) (backTo pos (starEach es env)) (backToKw pos (keywordEach kws env))) := by first | rfl | rw [eval]
  rw [e, base_of h1]
  unfold methodCall calleeOf methodCallPos
  simp only [h2, h3, if_true, Bool.not_true, Bool.false_or, pure_bind]
theorem pe_methX (M : Md C T p k N sc X) (tk : Takes X W) {c j n : Nat} {m : Str} {fn : Fn} {q : Kl} {bd : List Bd} {kn : List Str} {a : EX} {es ks : ES} {o : Expr} {l : List Expr} {kws : List Keyword} {apos pos : Pos}
    (hq : C.kl[c]? = some q) (hj : q.meths.lookup m = some j) (hf : C.fs[j]? = some fn) (hb : BindG T (T.fdt j) fn.ps (n + 1) kn bd) (hbl : bd.length = fn.ps.length)
    (h1 : noSup o = true) (h2 : l.all plain = true) (h3 : l.length + kws.length < 20) (h4 : (apos.endLine == pos.line) = true) (hks : kwN kws = some kn)
    (ho : PE X o (RdE T W (denE p a))) (ha : PA X l (RdA T W (denES p es))) (hkw : PK X kws (RdA T W (denES p ks)))
    (hnA : ∀ e s ds e' s', denES p es e s = .ok ds e' s' → ds.length = n) (hnK : ∀ e s ds e' s', denES p ks e s = .ok ds e' s' → ds.length = kn.length) (hnil : l = [] → denES p es = fun e s => .ok [] e s) :
    PE X (.Call (.Attribute o m apos) l kws pos) (RdE T W (denE p (.op1 (.meth c m bd) a es ks))) := by
  refine ⟨fun pins s σ H Q I h => ?_⟩
  have K1 := M.cls c q hq
  obtain ⟨hm, hnf⟩ := K1.meth m j hj
  obtain ⟨_, _, Fo, _⟩ := M.fns j fn hf
  have hmt : mthD p c m = some j := by unfold mthD; rw [M.kl, hq]; exact hj
  obtain ⟨k1, k2, k3, k4⟩ := kw_all (env := X.env) (pos := pos) hks
  have hA : RdE T W (denE p a) σ H fun x H1 => ∃ b dx fs, x = .ref b ∧ H1 b = some (.ins (T.cad c) dx fs) ∧ fs.lookup m = none ∧ ∃ d, RdA T W (denES p es) σ H1 fun vs H2 => vs.length = n ∧ RdA T W (denES p ks) σ H2 fun zs H3 => zs.length = kn.length ∧
      ∃ F G P θ env sto ds es, Rel T F G P θ env sto σ H3 ∧ RepL T P θ (d :: ds) (x :: vs) ∧ RepL T P θ es zs ∧ Pst T W F G P θ σ ((opt (bdD ((d :: ds) ++ es) bd) env sto).bind fun as e s => callR (p.cl j) as e s) (KE T Q) := by
    obtain ⟨F, G, P, θ, env, sto, R, h⟩ := h
    rw [denE] at h
    refine ⟨F, G, P, θ, env, sto, R, Pst.bnd h fun d e1 s1 P1 θ1 H1 _ _ R1 q1 x rx => ?_⟩
    split at q1
    · rename_i hg
      have hg : isOb p c s1 d = true := hg
      obtain ⟨b, dx, fs, rfl, e, hl⟩ := ins_of R1 rx hg (by rw [M.kl]; exact hq) K1.cfs
      refine ⟨b, dx, fs, rfl, e, hl m hnf, d, F, G, P1, θ1, e1, s1, R1, ?_⟩
      cases hd : denES p es e1 s1 with
      | er x e2 s2 => rw [hd] at q1; exact q1
      | bad => rw [hd] at q1; exact q1.elim
      | ok ds e2 s2 =>
        rw [hd] at q1
        intro P2 θ2 H2 a2 t2 R2 vs rv
        refine ⟨by rw [← rv.length]; exact hnA _ _ _ _ _ hd, F, G, P2, θ2, e2, s2, R2, ?_⟩
        have q2 : Pst T W F G P2 θ2 σ ((denES p ks e2 s2).bind fun zs e s => opD p (.meth c m bd) (d :: ds) zs e s) (KE T Q) := Pst.mono q1 a2 t2 fun _ _ _ _ _ _ _ _ _ q => q
        cases hz : denES p ks e2 s2 with
        | er x e3 s3 => rw [hz] at q2; exact q2
        | bad => rw [hz] at q2; exact q2.elim
        | ok zs e3 s3 =>
          rw [hz] at q2
          intro P3 θ3 H3 a3 t3 R3 ws rw'
          refine ⟨by rw [← rw'.length]; exact hnK _ _ _ _ _ hz, F, G, P3, θ3, e3, s3, ds, zs, R3, RepL.cons ((rx.mono a2 t2).mono a3 t3) (rv.mono a3 t3), rw', ?_⟩
          have q3 : Pst T W F G P2 θ2 σ ((opt (bdD ((d :: ds) ++ zs) bd) e3 s3).bind fun as e s => callB p (mthD p c m) as e s) (KE T Q) := q2
          rw [hmt] at q3
          exact Pst.mono q3 a3 t3 fun _ _ _ _ _ _ _ _ _ q => q
    · exact q1.elim
  refine PySem.W.methodCall_KW (thn (ho.run pins s σ H _ I hA) fun u s1 ⟨x, H1, I1, rx, b, dx, fs, ex, eb, hl, d, q1⟩ => ?_) (meth_eval h1 (form_of h2 hks h3) h4)
  subst ex
  obtain rfl : u = Value.ref b := rx
  refine getmeth_ok I1 eb (by rw [M.K]; exact K1.cls) (by rw [M.K]; exact hm) hl ?_
  have fin : ∀ {us ws : List Value} {s2 : Shared} {vs zs : List V} {H3 : Hp}, Inv X pins σ H3 s2 → Vals vs us → Vals zs ws → vs.length = n → (zs.length = kn.length ∧ ∃ F G P θ env sto ds es, Rel T F G P θ env sto σ H3 ∧ RepL T P θ (d :: ds) (.ref b :: vs) ∧ RepL T P θ es zs ∧
      Pst T W F G P θ σ ((opt (bdD ((d :: ds) ++ es) bd) env sto).bind fun as e s => callR (p.cl j) as e s) (KE T Q)) → wpAny (model X.prog X.w) X.A (call (.ref (T.adr j)) (.ref b :: us) (kn.zip ws)) (EP X pins σ Q) X.xe s2 := by
    intro us ws s2 vs zs H3 I2 rv rz hn ⟨hz, F, G, P, θ, env, sto, ds, es, R, r1, r2, q⟩
    exact run_call Fo M.room M.K hb hbl tk I2 (us := .ref b :: us) (vs := .ref b :: vs) (by rw [List.length_cons, ← rv.length, hn]) (by rw [← rz.length]; exact hz) (.cons rfl rv) rz R r1 r2 q
  cases l with
  | nil =>
    rw [hnil rfl] at q1
    obtain ⟨n0, q2⟩ := rda_nil q1
    refine PySem.W.callWith_KW0 (first := [.ref b]) (h₀ := X.base) I.ok.mod.kin (by rw [M.K]; exact hm.kp) k1 (thn (hkw.run pos pins s1 σ H1 _ I1 q2) fun ws s2 ⟨zs, H2, I2, rz, q3⟩ => ⟨I2.kIn, ?_⟩) (by rw [k3]; rfl)
    rw [k2]
    exact fin (us := []) (vs := []) I2 .nil rz n0 q3
  | cons e l =>
    rw [List.all_cons, Bool.and_eq_true] at h2
    refine PySem.W.callWith_KW (first := [.ref b]) (h₀ := X.base) I.ok.mod.kin (by rw [M.K]; exact hm.kp) k1 (thn (ha.run pos pins s1 σ H1 _ I1 q1) fun us s2 ⟨vs, H2, I2, rv, hn, q⟩ => thn (hkw.run pos pins s2 σ H2 _ I2 q) fun ws s3 ⟨zs, H3, I3, rz, q2⟩ => ⟨I3.kIn, ?_⟩) ?_ (star_plain h2.1)
    · rw [k2]
      exact fin I3 rv rz hn q2
    · rw [star_any (by rw [List.all_cons, h2.1, h2.2]; rfl), k3]; rfl
end
end Mx

namespace Mx
open PySem L2
open Evl (Ex)
section
variable {C : Ctx} {T : Tb} {p : Pg} {k : Nat} {N : List Str} {sc : Scope} {X : Cx} {W : WX} {σ : St} {H : Hp} {Q : VK} {F G P : Hp} {θ : List Addr} {env : En} {sto : So}
/-! ### C(..) -/
theorem mk_h {c : Nat} {q : Kl} {x : Addr} {r : Res D} (hc : T.cfs c = q.fields) (hx : θ[sto.length]? = some x) (h : Pst T W F G P θ σ (mkRes q c sto.length r) (KE T Q)) : Pst T W F G P θ σ r (KE T fun v H' => v = .non ∧ Q (.ref x) H') := by
  refine Pst.bnd h fun d e1 s1 P1 θ1 H1 a1 t1 R1 h1 v rv => ?_
  split at h1
  · rename_i c' fs hs
    split at h1
    · rename_i hz
      obtain ⟨rfl, hz⟩ := hz
      simp only [Rep] at rv
      have ht : θ1[sto.length]? = some x := by
        obtain ⟨r, rfl⟩ := t1
        rw [List.getElem?_append_left (List.getElem?_eq_some_iff.mp hx).1]
        exact hx
      obtain ⟨o, ho, hcell⟩ := R1.rc.cel _ _ x hs ht
      obtain ⟨dx, vs, ⟨ro, _⟩, hv⟩ := hcell
      subst ro
      obtain ⟨eP, R2⟩ := R1.freezeSto ht hs (fun z => by cases z) ho
      refine ⟨rv, h1 _ θ1 H1 eP (pfr θ1) R2 _ ?_⟩
      rw [Rep]
      refine ⟨x, dx, vs, rfl, ?_, ?_, hv.mono eP (pfr θ1)⟩
      · rw [upd_same, hz, hc]
      · rw [hc, ← hz, List.length_map, ← hv.length, List.length_map]
    · exact h1.elim
  · exact h1.elim
theorem run_mk (M : Md C T p k N sc X) (tk : Takes X W) {pins : List (Addr × Obj)} {s : Shared} {c n : Nat} {fn : Fn} {q : Kl} {bd : List Bd} {kn : List Str} (hq : C.kl[c]? = some q) (hf : C.fs[q.init]? = some fn) (hb : BindG T (T.fdt q.init) fn.ps (n + 1) kn bd) (hbl : bd.length = fn.ps.length)
    (I : Inv X pins σ H s) {us ws : List Value} {vs zs : List V} {ds es : List D} (hn : us.length = n) (hk : ws.length = kn.length) (rv : Vals vs us) (rz : Vals zs ws) (R : Rel T F G P θ env sto σ H) (h1 : RepL T P θ ds vs) (h2 : RepL T P θ es zs)
    (h : Pst T W F G P θ σ (opD p (.mk c bd) ds es env sto) (KE T Q)) : wpAny (model X.prog X.w) X.A (call (.ref (T.cad c)) us (kn.zip ws)) (EP X pins σ Q) X.xe s := by
  have K1 := M.cls c q hq
  have h : Pst T W F G P θ σ (match p.kl[c]? with
    | some k => (opt (bdD (.ref sto.length :: (ds ++ es)) bd) env sto).bind fun as e s => mkRes k c s.length (callL p k.init as e (s ++ [.obj c []]))
    | none => .bad) (KE T Q) := h
  rw [M.kl, hq] at h
  have h : Pst T W F G P θ σ ((opt (bdD (.ref sto.length :: (ds ++ es)) bd) env sto).bind fun as e s => mkRes q c s.length (callL p q.init as e (s ++ [.obj c []]))) (KE T Q) := h
  obtain ⟨as, ea, h⟩ := opt_bnd h
  rcases M.fns1 with ⟨_, hb0⟩ | ⟨j, rfl, Fo⟩
  · have h : Pst T W F G P θ σ (mkRes q c sto.length (callL p q.init as env (sto ++ [.obj c []]))) (KE T Q) := h
    unfold callL at h
    rw [hb0] at h
    exact h.elim
  · have n1 : H (s.heap.objs.size + 1) = none := I.hok.fresh (Nat.le_succ _)
    have n2 : H s.heap.objs.size = none := I.hok.fresh (Nat.le_refl _)
    have R1 := R.more (o := .own (s.heap.objs.size + 1)) n2
    have n3 : upd H s.heap.objs.size (.own (s.heap.objs.size + 1)) (s.heap.objs.size + 1) = none := by
      rw [upd_ne (Nat.ne_of_gt (Nat.lt_succ_self _))]; exact n1
    have R2 := R1.newSto (c := .obj c []) (o := .ins (T.cad c) s.heap.objs.size []) n3 ⟨s.heap.objs.size, [], ⟨rfl, Nat.zero_le _⟩, RepL.nil⟩
    have I2 := Inv.made (C := T.cad c) I
    have pre : θ <+: θ ++ [s.heap.objs.size + 1] := List.prefix_append _ _
    have hx : (θ ++ [s.heap.objs.size + 1])[sto.length]? = some (s.heap.objs.size + 1) := by rw [R.rc.len]; simp
    have rself : Rep T P (θ ++ [s.heap.objs.size + 1]) (.ref sto.length) (.ref (s.heap.objs.size + 1)) := by rw [Rep]; exact ⟨_, hx, rfl⟩
    have h3 : Pst T W F G P (θ ++ [s.heap.objs.size + 1]) σ (callR (p.cl1 q.init) as env (sto ++ [.obj c []])) (KE T fun v H' => v = .non ∧ Q (.ref (s.heap.objs.size + 1)) H') := by
      refine mk_h (sto := sto) K1.cfs hx ?_
      exact Pst.mono h (Evl.Ex.refl P) pre fun _ _ _ _ _ _ _ _ _ z => z
    refine wpAny_call (make_map (f := T.adr q.init) I.kIn (by rw [M.K]; exact K1.mkr.makes) (by rw [M.K]; exact K1.mkr.init) (by rw [M.K]; exact beq_iff_eq.mp K1.mkr.fn)
      (codeAny_mono (run_code (us := .ref (s.heap.objs.size + 1) :: us) (ws := ws) (vs := .ref (s.heap.objs.size + 1) :: vs) (zs := zs) (ks := kn) (Fo q.init fn hf) (M.room.make (T.cad c) us (kn.zip ws)) (I2.env0.make (T.cad c) us (kn.zip ws)) M.K hb hbl tk I2 (by rw [List.length_cons, hn]) hk (.cons rfl rv) rz R2
        (RepL.cons rself (h1.mono (Evl.Ex.refl P) pre)) (h2.mono (Evl.Ex.refl P) pre) (by
          have e : (.ref sto.length :: ds) ++ es = D.ref sto.length :: (ds ++ es) := rfl
          rw [e, ea]
          exact h3)) fun r s' hq' => ?_))
    cases r with
    | error e => exact hq'
    | ok fl =>
      cases fl with
      | ret u =>
        obtain ⟨v, H', I3, rv', ev, q3⟩ := hq'
        subst ev
        exact ⟨rv', ⟨V.ref (s.heap.objs.size + 1), H', I3, rfl, q3⟩⟩
      | next => exact False.elim hq'
      | brk => exact False.elim hq'
      | cont => exact False.elim hq'
theorem pe_mkX (M : Md C T p k N sc X) (tk : Takes X W) {c n : Nat} {x : Str} {fn : Fn} {q : Kl} {bd : List Bd} {kn : List Str} {es ks : ES} {l : List Expr} {kws : List Keyword} {p1 pos : Pos}
    (hq : C.kl[c]? = some q) (hf : C.fs[q.init]? = some fn) (hb : BindG T (T.fdt q.init) fn.ps (n + 1) kn bd) (hbl : bd.length = fn.ps.length) (h1 : glb sc x = true) (h2 : okN x = true) (h3 : X.mg x = some (.ref (T.cad c))) (h4 : l.all plain = true) (hks : kwN kws = some kn)
    (ha : PA X l (RdA T W (denES p es))) (hkw : PK X kws (RdA T W (denES p ks))) (hnA : ∀ e s ds e' s', denES p es e s = .ok ds e' s' → ds.length = n) (hnK : ∀ e s ds e' s', denES p ks e s = .ok ds e' s' → ds.length = kn.length) (hnil : l = [] → denES p es = fun e s => .ok [] e s) :
    PE X (.Call (.Name x p1) l kws pos) (RdE T W (denE p (.opn (.mk c bd) es ks))) := by
  refine ⟨fun pins s σ H Q I h => ?_⟩
  have K1 := M.cls c q hq
  refine wpAny_Call_Name_kw (ld_glob I (glb_of M h1) h3 ?_ (okN_of h2).1)
  obtain ⟨k1, k2, k3, k4⟩ := kw_all (env := X.env) (pos := pos) hks
  have hA : RdA T W (denES p es) σ H fun vs H1 => vs.length = n ∧ RdA T W (denES p ks) σ H1 fun zs H2 => zs.length = kn.length ∧ ∃ F G P θ env sto ds es, Rel T F G P θ env sto σ H2 ∧ RepL T P θ ds vs ∧ RepL T P θ es zs ∧
      Pst T W F G P θ σ (opD p (.mk c bd) ds es env sto) (KE T Q) := by
    obtain ⟨F, G, P, θ, env, sto, R, h⟩ := h
    rw [denE] at h
    dsimp only at h
    refine ⟨F, G, P, θ, env, sto, R, ?_⟩
    cases hd : denES p es env sto with
    | er x e1 s1 => rw [hd] at h; exact h
    | bad => rw [hd] at h; exact h.elim
    | ok ds e1 s1 =>
      rw [hd] at h
      intro P1 θ1 H1 a1 t1 R1 vs rv
      refine ⟨by rw [← rv.length]; exact hnA _ _ _ _ _ hd, F, G, P1, θ1, e1, s1, R1, ?_⟩
      have h1 : Pst T W F G P1 θ1 σ ((denES p ks e1 s1).bind fun zs e s => opD p (.mk c bd) ds zs e s) (KE T Q) := Pst.mono h a1 t1 fun _ _ _ _ _ _ _ _ _ q => q
      cases hz : denES p ks e1 s1 with
      | er x e2 s2 => rw [hz] at h1; exact h1
      | bad => rw [hz] at h1; exact h1.elim
      | ok es e2 s2 =>
        rw [hz] at h1
        intro P2 θ2 H2 a2 t2 R2 zs rz
        exact ⟨by rw [← rz.length]; exact hnK _ _ _ _ _ hz, F, G, P2, θ2, e2, s2, ds, es, R2, rv.mono a2 t2, rz, Pst.mono h1 a2 t2 fun _ _ _ _ _ _ _ _ _ q => q⟩
  have fin : ∀ {us ws : List Value} {s2 : Shared} {vs zs : List V} {H2 : Hp}, Inv X pins σ H2 s2 → Vals vs us → Vals zs ws → vs.length = n → (zs.length = kn.length ∧ ∃ F G P θ env sto ds es, Rel T F G P θ env sto σ H2 ∧ RepL T P θ ds vs ∧ RepL T P θ es zs ∧
      Pst T W F G P θ σ (opD p (.mk c bd) ds es env sto) (KE T Q)) → wpAny (model X.prog X.w) X.A (call (.ref (T.cad c)) us (kn.zip ws)) (EP X pins σ Q) X.xe s2 := by
    intro us ws s2 vs zs H2 I2 rv rz hn ⟨hz, F, G, P, θ, env, sto, ds, es, R, r1, r2, q'⟩
    exact run_mk M tk hq hf hb hbl I2 (by rw [← rv.length]; exact hn) (by rw [← rz.length]; exact hz) rv rz R r1 r2 q'
  have hkp : PySem.W.keepIn X.K (.ref (T.cad c)) = true := by rw [M.K]; exact K1.mkr.kp
  cases l with
  | nil =>
    rw [hnil rfl] at hA
    obtain ⟨n0, q0⟩ := rda_nil hA
    refine PySem.W.callWith_KW0 (first := []) (h₀ := X.base) I.ok.mod.kin hkp k1 (thn (hkw.run pos pins s σ H _ I q0) fun ws s2 ⟨zs, H2, I2, rz, q2⟩ => ⟨I2.kIn, ?_⟩) (by rw [k3]; rfl)
    rw [k2]
    exact fin (us := []) (vs := []) I2 .nil rz n0 q2
  | cons e l =>
    rw [List.all_cons, Bool.and_eq_true] at h4
    refine PySem.W.callWith_KW (first := []) (h₀ := X.base) I.ok.mod.kin hkp k1 (thn (ha.run pos pins s σ H _ I hA) fun us s1 ⟨vs, H1, I1, rv, hn, q'⟩ => thn (hkw.run pos pins s1 σ H1 _ I1 q') fun ws s2 ⟨zs, H2, I2, rz, q2⟩ => ⟨I2.kIn, ?_⟩) ?_ (star_plain h4.1)
    · rw [k2]
      exact fin I2 rv rz hn q2
    · rw [star_any (by rw [List.all_cons, h4.1, h4.2]; rfl), k3]; rfl
end
end Mx

namespace Mx
open PySem L2
open Evl (Ex)
section
variable {C : Ctx} {T : Tb} {p : Pg} {k : Nat} {N : List Str} {sc : Scope} {X : Cx} {W : WX} {σ : St} {H : Hp} {Q : VK} {F G P : Hp} {θ : List Addr} {env : En} {sto : So}
/-! ### o.f, a property -/
theorem noer_h {r : Res D} {K : D → En → So → Hp → List Addr → Hp → Prop} (h : Pst T W F G P θ σ (noEr r) K) : Pst T W0 F G P θ σ r K := by
  cases r with
  | ok d e s => exact h
  | er x e s => exact h.elim
  | bad => exact h.elim
theorem prp_of (M : Md C T p k N sc X) {c : Nat} {f : Str} (h : prpOk C c f = true) : ∃ j fn q, C.kl[c]? = some q ∧ q.props.lookup f = some j ∧ C.fs[j]? = some fn ∧ BindG T (T.fdt j) fn.ps 1 [] [.arg 0] ∧ [Bd.arg 0].length = fn.ps.length := by
  unfold prpOk at h
  cases hq : C.kl[c]? with
  | none => rw [hq] at h; cases h
  | some q =>
    rw [hq] at h
    simp only [Option.bind_some] at h
    cases hj : q.props.lookup f with
    | none => rw [hj] at h; cases h
    | some j =>
      rw [hj] at h
      simp only at h
      cases hf : C.fs[j]? with
      | none => rw [hf] at h; cases h
      | some fn =>
        rw [hf] at h
        simp only [List.any_eq_true, Bool.and_eq_true, decide_eq_true_eq] at h
        obtain ⟨⟨n', ks, bd⟩, hs, ⟨h1, h2⟩, h3⟩ := h
        obtain ⟨_, _, _, hb⟩ := M.fns j fn hf
        obtain ⟨b1, b2⟩ := hb _ hs
        simp only at h1 h2 h3 b1 b2
        subst h1 h2
        have e := sameBd_arg (n := 1) h3
        rw [e] at b1 b2
        exact ⟨j, fn, q, rfl, hj, hf, b1, b2⟩
theorem pe_propX (M : Md C T p k N sc X) {c : Nat} {f : Str} {a : EX} {x : Expr} {pos : Pos} (hd : prpOk C c f = true) (hb : noSup x = true) (ha : PE X x (RdE T W (denE p a))) : PE X (.Attribute x f pos) (RdE T W (denE p (.op1 (.prop c f) a .nil .nil))) := by
  refine ⟨fun pins s σ H Q I h => ?_⟩
  refine attr_of (base_of hb) (thn (ha.run pins s σ H _ I (rd_unS (fun _ _ => rfl) h fun x H1 z => z)) fun u s1 ⟨x, H1, I1, rx, q⟩ => ?_)
  obtain ⟨F, G, P, θ, env, sto, d, R, rd, hq⟩ := q
  have hq : Pst T W F G P θ σ (if isOb p c sto d then noEr (callLB p ((p.kl[c]?).bind fun k => k.props.lookup f) [d] env sto) else .bad) (KE T Q) := hq
  split at hq
  · rename_i hz
    obtain ⟨j, fn, q, hk, hj, hf, b1, b2⟩ := prp_of M hd
    have K1 := M.cls c q hk
    obtain ⟨b, dx, fs, rfl, e, _⟩ := ins_of R rd hz (by rw [M.kl]; exact hk) K1.cfs
    cases rx
    obtain ⟨pa, hp⟩ := K1.props f j hj
    obtain ⟨od, J⟩ := look_of I1 e
    obtain ⟨rest, hrec⟩ := hp.rec_
    have I2 := I1.tok (s1.toks + 1)
    rw [M.kl, hk] at hq
    simp only [Option.bind_some, hj] at hq
    have hq : Pst T W F G P θ σ (noEr (callL p j [d] env sto)) (KE T Q) := hq
    rcases M.fns1 with ⟨_, hb0⟩ | ⟨j', rfl, Fo⟩
    · unfold callL at hq
      rw [hb0] at hq
      exact hq.elim
    · have hc : (PySem.W.clsIn X.K (T.cad c)).isSome = true := by
        rw [M.K]
        obtain ⟨cd, hc, _⟩ := PySem.W.any_some K1.cls.hd
        rw [hc]
        rfl
      have cl' := K1.cls
      rw [← M.K] at cl' hp hrec
      refine PySem.W.get_bind I1.kIn J (PySem.W.plainGet_of (cl'.get f)).1 (PySem.W.findObj_data hc hp.at_ hp.get hp.tak) (PySem.W.plainGet_of (cl'.get f)).2 (wpAny_call (PySem.W.prop_get (s := { s1 with toks := s1.toks + 1 }) I1.kIn hrec ?_))
      refine codeAny_mono (run_code (X := X.nox) (A := X.A.in1) (W := W0) (us := [.ref b]) (ws := []) (vs := [.ref b]) (zs := []) (ds := [d]) (es := []) (ks := []) (Fo j fn hf) M.room.in1 I2.env0.in1 M.K b1 b2 takes0 (I2.wish _) rfl rfl (.cons rfl .nil) .nil R (RepL.one rd) RepL.nil (noer_h hq)) fun r s' hr => ?_
      cases r with
      | error er => exact False.elim hr
      | ok fl =>
        cases fl with
        | ret u =>
          obtain ⟨v, H', I3, rv, q3⟩ := hr
          show wpAny _ _ (handedOut u) _ _ _
          rw [PySem.W.handedOut_of (handed_of rv)]
          exact wpAny_pure ⟨v, H', I3.unwish, rv, q3⟩
        | next => exact False.elim hr
        | brk => exact False.elim hr
        | cont => exact False.elim hr
  · exact hq.elim
/-! ### d[k], d a dict of the module -/
theorem pe_gdicX (M : Md C T p k N sc X) {i : Nat} {x : Str} {a : EX} {y : Expr} {p1 pos : Pos} (h0 : (match y with | .Slice _ _ _ _ => false | _ => true) = true) (h1 : glb sc x = true) (h2 : okN x = true) (h3 : (C.gd[i]?).map (·.1) = some x) (ha : PE X y (RdE T W (denE p a))) :
    PE X (.Subscript (.Name x p1) y pos) (RdE T W (denE p (.op1 (.gdic i) a .nil .nil))) := by
  obtain ⟨⟨x', t⟩, e1, rfl⟩ := map_some h3
  obtain ⟨b, g1, g2⟩ := M.gds i _ t e1
  refine (pe_ix ix_kdict (pe_glob (v := .ref b) (glb_of M h1) g1 rfl (okN_of h2).1) ha ?_).imp fun σ H Q h => ?_
  · intro o i
    cases y <;> first | rfl | (exact absurd h0 Bool.false_ne_true)
  · obtain ⟨F, G, P, θ, env, sto, R, h⟩ := h
    rw [den_op1n] at h
    refine ⟨F, G, P, θ, env, sto, R, Pst.bnd (f := fun x e s => if grdD p (.gdic i) x s then opD p (.gdic i) [x] [] e s else .bad) h fun d e1' s1 P1 θ1 H1 _ _ R1 q v rv => ?_⟩
    cases d <;> try exact q.elim
    rename_i z
    have q : Pst T W F G P1 θ1 σ (opt ((p.gd[i]?).bind fun t => t.2.lookup z) e1' s1) (KE T Q) := q
    obtain ⟨d', e, qq⟩ := opt_some q
    rw [M.gd, e1] at e
    obtain ⟨w, kd, rw'⟩ := g2 z d' e
    simp only [Rep] at rv
    obtain ⟨rfl, _⟩ := rv
    exact ⟨b, _, w, rfl, rfl, kd, qq.here R1 _ (rw' P1 θ1)⟩
/-! ### C.m(..), a staticmethod -/
theorem pe_statX (M : Md C T p k N sc X) (tk : Takes X W) {c j n : Nat} {x m : Str} {fn : Fn} {q : Kl} {bd : List Bd} {kn : List Str} {es ks : ES} {l : List Expr} {kws : List Keyword} {p1 apos pos : Pos}
    (hq : C.kl[c]? = some q) (hj : q.stats.lookup m = some j) (hf : C.fs[j]? = some fn) (hb : BindG T (T.fdt j) fn.ps n kn bd) (hbl : bd.length = fn.ps.length) (g1 : glb sc x = true) (g2 : okN x = true) (g3 : X.mg x = some (.ref (T.cad c)))
    (h2 : l.all plain = true) (h3 : l.length + kws.length < 20) (h4 : (apos.endLine == pos.line) = true) (hks : kwN kws = some kn)
    (ha : PA X l (RdA T W (denES p es))) (hkw : PK X kws (RdA T W (denES p ks)))
    (hnA : ∀ e s ds e' s', denES p es e s = .ok ds e' s' → ds.length = n) (hnK : ∀ e s ds e' s', denES p ks e s = .ok ds e' s' → ds.length = kn.length) (hnil : l = [] → denES p es = fun e s => .ok [] e s) :
    PE X (.Call (.Attribute (.Name x p1) m apos) l kws pos) (RdE T W (denE p (.opn (.stat c m bd) es ks))) := by
  refine ⟨fun pins s σ H Q I h => ?_⟩
  have K1 := M.cls c q hq
  obtain ⟨mc, pa, cr, sm⟩ := K1.stats m j hj
  rw [← M.K] at cr sm
  obtain ⟨rest, hrec⟩ := sm.rc
  obtain ⟨_, _, Fo, _⟩ := M.fns j fn hf
  have hmt : ((p.kl[c]?).bind fun k => k.stats.lookup m) = some j := by rw [M.kl, hq]; exact hj
  obtain ⟨k1, k2, k3, k4⟩ := kw_all (env := X.env) (pos := pos) hks
  have hA : RdA T W (denES p es) σ H fun vs H1 => vs.length = n ∧ RdA T W (denES p ks) σ H1 fun zs H2 => zs.length = kn.length ∧ ∃ F G P θ env sto ds es, Rel T F G P θ env sto σ H2 ∧ RepL T P θ ds vs ∧ RepL T P θ es zs ∧
      Pst T W F G P θ σ ((opt (bdD (ds ++ es) bd) env sto).bind fun as e s => callR (p.cl j) as e s) (KE T Q) := by
    obtain ⟨F, G, P, θ, env, sto, R, h⟩ := h
    rw [denE] at h
    dsimp only at h
    refine ⟨F, G, P, θ, env, sto, R, ?_⟩
    cases hd : denES p es env sto with
    | er x e1 s1 => rw [hd] at h; exact h
    | bad => rw [hd] at h; exact h.elim
    | ok ds e1 s1 =>
      rw [hd] at h
      intro P1 θ1 H1 a1 t1 R1 vs rv
      refine ⟨by rw [← rv.length]; exact hnA _ _ _ _ _ hd, F, G, P1, θ1, e1, s1, R1, ?_⟩
      have h1 : Pst T W F G P1 θ1 σ ((denES p ks e1 s1).bind fun zs e s => opD p (.stat c m bd) ds zs e s) (KE T Q) := Pst.mono h a1 t1 fun _ _ _ _ _ _ _ _ _ q => q
      cases hz : denES p ks e1 s1 with
      | er x e2 s2 => rw [hz] at h1; exact h1
      | bad => rw [hz] at h1; exact h1.elim
      | ok es e2 s2 =>
        rw [hz] at h1
        intro P2 θ2 H2 a2 t2 R2 zs rz
        refine ⟨by rw [← rz.length]; exact hnK _ _ _ _ _ hz, F, G, P2, θ2, e2, s2, ds, es, R2, rv.mono a2 t2, rz, ?_⟩
        have h2 : Pst T W F G P1 θ1 σ ((opt (bdD (ds ++ es) bd) e2 s2).bind fun as e s => callB p ((p.kl[c]?).bind fun k => k.stats.lookup m) as e s) (KE T Q) := by
          cases ds <;> exact h1
        rw [hmt] at h2
        exact Pst.mono h2 a2 t2 fun _ _ _ _ _ _ _ _ _ q => q
  have fin : ∀ {us ws : List Value} {s2 : Shared} {vs zs : List V} {H2 : Hp}, Inv X pins σ H2 s2 → Vals vs us → Vals zs ws → vs.length = n → (zs.length = kn.length ∧ ∃ F G P θ env sto ds es, Rel T F G P θ env sto σ H2 ∧ RepL T P θ ds vs ∧ RepL T P θ es zs ∧
      Pst T W F G P θ σ ((opt (bdD (ds ++ es) bd) env sto).bind fun as e s => callR (p.cl j) as e s) (KE T Q)) → wpAny (model X.prog X.w) X.A (call (.ref (T.adr j)) us (kn.zip ws)) (EP X pins σ Q) X.xe s2 := by
    intro us ws s2 vs zs H2 I2 rv rz hn ⟨hz, F, G, P, θ, env, sto, ds, es, R, r1, r2, q⟩
    exact run_call Fo M.room M.K hb hbl tk I2 (by rw [← rv.length]; exact hn) (by rw [← rz.length]; exact hz) rv rz R r1 r2 q
  refine PySem.W.methodCall_KW (thn ((pe_glob (pos := p1) (v := .ref (T.cad c)) (glb_of M g1) g3 rfl (okN_of g2).1).run pins s σ H (fun v H1 => v = .ref (T.cad c) ∧ H1 = H) I ⟨rfl, rfl⟩) fun u s1 ⟨x, H1, I1, rx, ex, eH⟩ => ?_) (meth_eval rfl (form_of h2 hks h3) h4)
  subst ex eH
  obtain rfl : u = Value.ref (T.cad c) := rx
  refine PySem.W.method_cls I1.kIn cr.ga (PySem.W.cls_bind I1.kIn cr.rd sm.at_ (wpAny_call (PySem.W.sm_get (s := { s1 with toks := s1.toks + 1 }) I1.kIn hrec (PySem.W.handed_on rfl ?_))))
  have I1' := I1.tok (s1.toks + 1)
  cases l with
  | nil =>
    rw [hnil rfl] at hA
    obtain ⟨n0, q0⟩ := rda_nil hA
    refine PySem.W.callWith_KW0 (first := []) (h₀ := X.base) I.ok.mod.kin sm.kp k1 (thn (hkw.run pos pins _ σ _ _ I1' q0) fun ws s2 ⟨zs, H2, I2, rz, q2⟩ => ⟨I2.kIn, ?_⟩) (by rw [k3]; rfl)
    rw [k2]
    exact fin (us := []) (vs := []) I2 .nil rz n0 q2
  | cons e l =>
    rw [List.all_cons, Bool.and_eq_true] at h2
    refine PySem.W.callWith_KW (first := []) (h₀ := X.base) I.ok.mod.kin sm.kp k1 (thn (ha.run pos pins _ σ _ _ I1' hA) fun us s1 ⟨vs, H1, I1, rv, hn, q'⟩ => thn (hkw.run pos pins s1 σ H1 _ I1 q') fun ws s2 ⟨zs, H2, I2, rz, q2⟩ => ⟨I2.kIn, ?_⟩) ?_ (star_plain h2.1)
    · rw [k2]
      exact fin I2 rv rz hn q2
    · rw [star_any (by rw [List.all_cons, h2.1, h2.2]; rfl), k3]; rfl
end
end Mx

namespace Mx
open PySem L2
open Evl (Ex)
section
variable {C : Ctx} {T : Tb} {p : Pg} {k : Nat} {N : List Str}
theorem sameD_rep {d e : D} (h : sameD d e = true) : d = e := by
  cases d <;> cases e <;> simp only [sameD, Bool.false_eq_true, beq_iff_eq] at h <;> first | rfl | rw [h]
theorem sameBd_eq : ∀ {a b : List Bd}, sameBd a b = true → a = b
  | [], [], _ => rfl
  | [], x :: _, h => by simp [sameBd] at h
  | x :: _, [], h => by cases x <;> simp [sameBd] at h
  | x :: a, y :: b, h => by
    cases x <;> cases y <;> simp only [sameBd, Bool.and_eq_true, Bool.false_eq_true, beq_iff_eq] at h
    · rw [h.1, sameBd_eq h.2]
    · rw [sameD_rep h.1, sameBd_eq h.2]
theorem chkES_len {sc : Scope} : ∀ {es : ES} {l : List Expr}, chkES C N sc es l = true → es.len = l.length
  | .nil, l, h => by
    rw [chkES] at h
    cases l with
    | nil => rfl
    | cons _ _ => cases h
  | .cons a es, l, h => by
    rw [chkES.eq_def] at h
    cases l with
    | nil => cases h
    | cons x l =>
      simp only [Bool.and_eq_true] at h
      rw [ES.len, chkES_len h.2]; rfl
theorem chkK_len {sc : Scope} : ∀ {es : ES} {l : List Keyword}, chkK C N sc es l = true → es.len = l.length
  | .nil, l, h => by
    rw [chkK] at h
    cases l with
    | nil => rfl
    | cons _ _ => cases h
  | .cons a es, l, h => by
    rw [chkK.eq_def] at h
    cases l with
    | nil => cases h
    | cons x l =>
      obtain ⟨nm, v, ps⟩ := x
      simp only [Bool.and_eq_true] at h
      rw [ES.len, chkK_len h.2]; rfl
theorem pe_callM {sc : Scope} {X : Cx} {W : WX} (M : Md C T p k N sc X) (tk : Takes X W) {f : Nat} {es ks : ES} {bd : List Bd} {x : Str} {q pos : Pos} {l : List Expr} {kws : List Keyword}
    (h : (glb sc x && okN x && l.all plain && chkES C N sc es l && chkK C N sc ks kws && (match C.fs[f]?, kwN kws with
      | some fn, some kn => decide (fn.name = x) && fn.top && fn.shapes.any (fun sh => decide (sh.1 = es.len) && decide (sh.2.1 = kn) && sameBd bd sh.2.2)
      | _, _ => false)) = true) (ha : PA X l (RdA T W (denES p es))) (hk : PK X kws (RdA T W (denES p ks))) : PE X (.Call (.Name x q) l kws pos) (RdE T W (denE p (.call f es ks bd))) := by
  simp only [Bool.and_eq_true] at h
  obtain ⟨⟨⟨⟨⟨h1, h2⟩, h3⟩, h4⟩, h5⟩, h6⟩ := h
  split at h6
  · rename_i fn kn e1 e2
    simp only [Bool.and_eq_true, decide_eq_true_eq, List.any_eq_true] at h6
    obtain ⟨⟨e3, e3b⟩, sh, hsh, ⟨e4, e5⟩, e6⟩ := h6
    subst e3
    have e6 := sameBd_eq e6
    subst e6
    obtain ⟨g1, g2, g3, g4⟩ := M.fns f fn e1
    have g1 := g1 e3b
    obtain ⟨g5, g6⟩ := g4 sh hsh
    rw [e4, e5] at g5
    have := pe_callX (pos := pos) (p := q) g3 M.room M.K (glb_of M h1) g1 g2 g5 g6 tk ha hk h3 e2 (fun e s ds e' s' h => denES_len h) (fun e s ds e' s' h => by rw [denES_len h, chkK_len h5, (kw_all (env := X.env) (pos := pos) e2).2.2.2])
      (fun e => by
        have hl := chkES_len h4
        rw [e] at hl
        cases es with
        | nil => funext e s; rw [denES]
        | cons _ _ => cases hl) (okN_of h2).1
    refine this.imp fun σ H Q h => ?_
    rw [denE] at h
    exact h
  · cases h6
theorem pg_tgs {sc : Scope} {X : Cx} {lc : Str → Bool} (hN : X.N = N) (nd : N.Nodup) (hl : ∀ x, lc x = true → Loc X.env.scope x ∧ (X.fn x = true ∨ X.env.scope.names.lookup x = some .local)) : ∀ {is : List Nat} {es : List Expr}, chkTg.go N lc is es = true → PGs X es (gsOf is) ∧ es.length = is.length ∧ (assignEach es X.env).length = is.length ∧ (assignEach es X.env).findIdx? (·.1) = none
  | [], [], _ => ⟨pgs_nil, rfl, rfl, rfl⟩
  | [], _ :: _, h => by simp [chkTg.go] at h
  | i :: is, [], h => by simp [chkTg.go] at h
  | i :: is, e :: es, h => by
    cases e <;> simp only [chkTg.go, Bool.false_eq_true] at h
    simp only [Bool.and_eq_true, decide_eq_true_eq] at h
    obtain ⟨⟨h1, h2⟩, h3⟩ := h
    obtain ⟨i1, i2, i3, i4⟩ := pg_tgs (sc := sc) hN nd hl h3
    obtain ⟨l1, l2⟩ := hl _ h2
    refine ⟨pgs_cons (pg_name (by rw [hN]; exact nd) (by rw [hN]; exact h1) l1 l2) i1 rfl, by rw [List.length_cons, List.length_cons, i2], ?_, ?_⟩
    · show (assignEach es X.env).length + 1 = is.length + 1
      rw [i3]
    · show List.findIdx? _ ((false, _) :: assignEach es X.env) = none
      rw [List.findIdx?_cons, i4]; rfl
theorem pg_tg {sc : Scope} {X : Cx} {lc : Str → Bool} (hc : X.calm = true) (hN : X.N = N) (nd : N.Nodup) (hl : ∀ x, lc x = true → Loc X.env.scope x ∧ (X.fn x = true ∨ X.env.scope.names.lookup x = some .local)) {tg : Tg} {e : Expr} (h : chkTg N lc tg e = true) : PG X e (gOf X.K tg) := by
  cases tg with
  | one i =>
    cases e <;> simp only [chkTg, Bool.false_eq_true] at h
    simp only [Bool.and_eq_true, decide_eq_true_eq] at h
    obtain ⟨l1, l2⟩ := hl _ h.2
    exact pg_name (by rw [hN]; exact nd) (by rw [hN]; exact h.1) l1 l2
  | tup is =>
    cases e <;> simp only [chkTg, Bool.false_eq_true] at h
    obtain ⟨i1, i2, i3, i4⟩ := pg_tgs (sc := sc) hN nd hl h
    exact pg_tup hc i1 i3 i4
theorem setIt {iter : Expr} {env : Env} (h : ∀ a b c, iter ≠ .Set a b c) : ∀ x, foldedSetIterable iter env x = pure x := by
  intro x
  cases iter <;> first | rfl | exact absurd rfl (h _ _ _)
theorem chkI_set {sc : Scope} {it : IT} {t e : Expr} (h : chkI C N sc it t e = true) : ∀ a b c, e ≠ .Set a b c := by
  rintro a b c rfl
  cases it <;> simp only [chkI, Bool.false_and, Bool.false_eq_true] at h
  all_goals (cases t <;> simp only [Bool.false_eq_true] at h)
theorem nil_of {es : ES} (h : es.isNil = true) : es = .nil := by cases es <;> first | rfl | cases h
theorem shape_of {sc : Scope} {X : Cx} (M : Md C T p k N sc X) {f n : Nat} {kws : List Keyword} {bd : List Bd} (h : shapeOk C f n kws bd = true) : ∃ fn kn, C.fs[f]? = some fn ∧ kwN kws = some kn ∧ BindG T (T.fdt f) fn.ps n kn bd ∧ bd.length = fn.ps.length := by
  unfold shapeOk at h
  split at h
  · rename_i fn kn e1 e2
    simp only [List.any_eq_true, Bool.and_eq_true, decide_eq_true_eq] at h
    obtain ⟨sh, hs, ⟨h1, h2⟩, h3⟩ := h
    obtain ⟨_, _, _, hb⟩ := M.fns f fn e1
    obtain ⟨b1, b2⟩ := hb sh hs
    rw [h1, h2, ← sameBd_eq h3] at b1
    rw [← sameBd_eq h3] at b2
    exact ⟨fn, kn, e1, e2, b1, b2⟩
  · cases h
theorem nil_den {sc : Scope} {es : ES} {l : List Expr} (h : chkES C N sc es l = true) (e : l = []) : denES p es = fun e s => .ok [] e s := by
  have hl := chkES_len h
  rw [e] at hl
  cases es with
  | nil => funext e s; rw [denES]
  | cons _ _ => cases hl
/-- a list of expressions, each kept -/
inductive PEL (X : Cx) (T : Tb) (W : WX) (p : Pg) : ES → List Expr → Prop where
  | nil : PEL X T W p .nil []
  | cons {a : EX} {es : ES} {x : Expr} {l : List Expr} (pl : plain x = true) (h : PE X x (RdE T W (denE p a))) (r : PEL X T W p es l) : PEL X T W p (.cons a es) (x :: l)
theorem PEL.pa {X : Cx} {W : WX} {es : ES} {l : List Expr} (h : PEL X T W p es l) : PA X l (RdA T W (denES p es)) := by
  induction h with
  | nil =>
    refine pa_nil.imp fun σ H Q q => ?_
    rw [denES] at q
    exact rda_nil q
  | cons pl h r ih =>
    refine (pa_cons h ih (star_plain pl)).imp fun σ H Q q => ?_
    rw [denES] at q
    exact rda_cons q
theorem gIf_of {b : Bool} {x : Pts} {y : Expr × List Expr × List Keyword} (h : gIf b x = some y) : b = true ∧ x = some y := by
  cases b with
  | true => exact ⟨rfl, h⟩
  | false => cases h
theorem gIn_of {b : Bool} {x : Ptn} {y : List Expr × List Keyword} (h : gIn b x = some y) : b = true ∧ x = some y := by
  cases b with
  | true => exact ⟨rfl, h⟩
  | false => cases h
theorem chkES_nil {sc : Scope} {es : ES} (h : chkES C N sc es [] = true) : es = .nil := by
  have := chkES_len h
  cases es with
  | nil => rfl
  | cons _ _ => cases this
theorem chkK_nil {sc : Scope} {es : ES} (h : chkK C N sc es [] = true) : es = .nil := by
  have := chkK_len h
  cases es with
  | nil => rfl
  | cons _ _ => cases this
theorem PEL.one {X : Cx} {W : WX} {es : ES} {x : Expr} (h : PEL X T W p es [x]) : ∃ b, es = .cons b .nil ∧ PE X x (RdE T W (denE p b)) := by
  cases h with
  | cons pl h r =>
    cases r
    exact ⟨_, rfl, h⟩
theorem both {X : Cx} {e : Expr} {t : TE} (h : PE X e t) (he : ∀ whole, isTrue e X.env whole = (do let v ← whole; standAt e.pos; holding [v] (truthy v))) : PE X e t ∧ PT X e (tB t) := ⟨h, pt_val h he⟩
theorem op1_ok {sc : Scope} {X : Cx} {W : WX} (M : Md C T p k N sc X) (tk : Takes X W) {o : Op} {a : EX} {es ks : ES} {e x : Expr} {l : List Expr} {kws : List Keyword} (h : op1P C sc o e = some (x, l, kws)) (hes : chkES C N sc es l = true) (hks : chkK C N sc ks kws = true)
    (ha : PE X x (RdE T W (denE p a))) (hl : PEL X T W p es l) (hk : PK X kws (RdA T W (denES p ks))) : PE X e (RdE T W (denE p (.op1 o a es ks))) ∧ PT X e (tB (RdE T W (denE p (.op1 o a es ks)))) := by
  unfold op1P at h
  split at h
  · cases h
    cases chkES_nil hes
    cases chkK_nil hks
    exact both (pe_negX ha) (by intro _; rfl)
  · obtain ⟨hb0, z⟩ := gIf_of h
    cases z
    clear h
    have h := hb0
    simp only [Bool.and_eq_true, decide_eq_true_eq] at h
    cases chkES_nil hes
    cases chkK_nil hks
    obtain ⟨rfl, h2⟩ := h
    exact both (pe_fldX M h2 ha) (by intro _; rfl)
  · obtain ⟨hb0, z⟩ := gIf_of h
    cases z
    clear h
    have h := hb0
    simp only [Bool.and_eq_true, decide_eq_true_eq] at h
    cases chkES_nil hes
    cases chkK_nil hks
    obtain ⟨⟨rfl, h2⟩, h3⟩ := h
    exact both (pe_propX M h3 h2 ha) (by intro _; rfl)
  · rename_i c m bd x' nm apos l' kws' pos
    obtain ⟨hb0, z⟩ := gIf_of h
    cases z
    clear h
    have h := hb0
    simp only [Bool.and_eq_true, decide_eq_true_eq] at h
    obtain ⟨⟨⟨⟨⟨rfl, h2⟩, h3⟩, h4⟩, h5⟩, h9⟩ := h
    unfold methIx at h9
    cases hq : C.kl[c]? with
    | none => rw [hq] at h9; cases h9
    | some q =>
      rw [hq] at h9
      simp only [Option.bind_some] at h9
      cases hj : q.meths.lookup nm with
      | none => rw [hj] at h9; cases h9
      | some j =>
        rw [hj] at h9
        obtain ⟨fn, kn, e1, e2, b1, b2⟩ := shape_of M h9
        exact both (pe_methX M tk hq hj e1 b1 b2 h3 h4 h5 h2 e2 ha hl.pa hk (fun e s ds e' s' h => by rw [denES_len h, chkES_len hes]) (fun e s ds e' s' h => by rw [denES_len h, chkK_len hks, (kw_all (env := X.env) (pos := pos) e2).2.2.2]) (nil_den hes)) (by intro _; rfl)
  · rename_i c ne l' o r pos
    obtain ⟨hb0, z⟩ := gIf_of h
    cases z
    clear h
    have h := hb0
    simp only [Bool.and_eq_true, decide_eq_true_eq] at h
    cases chkK_nil hks
    obtain ⟨b, rfl, hb⟩ := hl.one
    obtain ⟨rfl, h2⟩ := h
    cases ne with
    | false => exact ⟨pe_cmp (pc_oeqX M tk h2 ha hb), pt_cmp (pc_oeqX M tk h2 ha hb)⟩
    | true => exact ⟨pe_cmp (pc_oneX M tk h2 ha hb), pt_cmp (pc_oneX M tk h2 ha hb)⟩
  · rename_i c ne l' o r pos
    obtain ⟨hb0, z⟩ := gIf_of h
    cases z
    clear h
    have h := hb0
    simp only [Bool.and_eq_true, decide_eq_true_eq, Bool.not_eq_true'] at h
    cases chkK_nil hks
    obtain ⟨b, rfl, hb⟩ := hl.one
    obtain ⟨⟨rfl, h2⟩, h3⟩ := h
    exact ⟨pe_cmp (pc_oinX M tk h3 ha hb) h2, pt_cmp (pc_oinX M tk h3 ha hb) h2⟩
  · obtain ⟨hb0, z⟩ := gIf_of h
    cases z
    clear h
    have h := hb0
    simp only [Bool.and_eq_true, decide_eq_true_eq] at h
    cases chkES_nil hes
    cases chkK_nil hks
    obtain ⟨⟨⟨⟨h1, h2⟩, h3⟩, h4⟩, h5⟩ := h
    exact both (pe_olenX M tk h1 h2 h3 h4 h5 ha) (by intro _; rfl)
  · obtain ⟨hb0, z⟩ := gIf_of h
    cases z
    clear h
    have h := hb0
    simp only [Bool.and_eq_true, decide_eq_true_eq] at h
    cases chkES_nil hes
    cases chkK_nil hks
    obtain ⟨⟨⟨⟨h1, h2⟩, h3⟩, h4⟩, h5⟩ := h
    exact both (pe_orepX M tk h1 h2 h3 h4 h5 ha) (by intro _; rfl)
  · obtain ⟨hb0, z⟩ := gIf_of h
    cases z
    clear h
    have h := hb0
    simp only [Bool.and_eq_true, decide_eq_true_eq] at h
    cases chkES_nil hes
    cases chkK_nil hks
    obtain ⟨⟨⟨⟨⟨⟨h1, h2⟩, h3⟩, h4⟩, h5⟩, h6⟩, h7⟩ := h
    exact both (pe_iscX M h1 h2 h3 h4 h5 h6 h7 ha) (by intro _; rfl)
  · obtain ⟨hb0, z⟩ := gIf_of h
    cases z
    clear h
    have h := hb0
    simp only [Bool.and_eq_true, decide_eq_true_eq] at h
    cases chkES_nil hes
    cases chkK_nil hks
    obtain ⟨⟨⟨h1, h2⟩, h3⟩, h4⟩ := h
    exact both (pe_gdicX M h1 h2 h3 h4 ha) (by intro _; rfl)
  · cases h
theorem opn_ok {sc : Scope} {X : Cx} {W : WX} (M : Md C T p k N sc X) (tk : Takes X W) {o : Op} {es ks : ES} {e : Expr} {l : List Expr} {kws : List Keyword} (h : opnP C sc o e = some (l, kws)) (hes : chkES C N sc es l = true) (hks : chkK C N sc ks kws = true)
    (hl : PEL X T W p es l) (hk : PK X kws (RdA T W (denES p ks))) : PE X e (RdE T W (denE p (.opn o es ks))) ∧ PT X e (tB (RdE T W (denE p (.opn o es ks)))) := by
  unfold opnP at h
  split at h
  · rename_i c bd x p1 l' kws' pos
    obtain ⟨hb0, z⟩ := gIn_of h
    cases z
    clear h
    have h := hb0
    simp only [Bool.and_eq_true] at h
    obtain ⟨⟨⟨⟨h1, h2⟩, h3⟩, h4⟩, h7⟩ := h
    obtain ⟨q, hq, hm, _⟩ := pe_clsN M h1 h2 h3
    rw [hq] at h7
    obtain ⟨fn, kn, e1, e2, b1, b2⟩ := shape_of M h7
    exact both (pe_mkX M tk hq e1 b1 b2 h1 h2 hm h4 e2 hl.pa hk (fun e s ds e' s' h => by rw [denES_len h, chkES_len hes]) (fun e s ds e' s' h => by rw [denES_len h, chkK_len hks, (kw_all (env := X.env) (pos := pos) e2).2.2.2]) (nil_den hes)) (by intro _; rfl)
  · obtain ⟨hb0, z⟩ := gIn_of h
    cases z
    clear h
    have h := hb0
    simp only [Bool.and_eq_true, decide_eq_true_eq] at h
    cases chkES_nil hes
    cases chkK_nil hks
    obtain ⟨⟨⟨rfl, h2⟩, h3⟩, h4⟩ := h
    exact both (pe_cconX M h2 h3 h4) (by intro _; rfl)
  · rename_i c m bd x p1 nm apos l' kws' pos
    obtain ⟨hb0, z⟩ := gIn_of h
    cases z
    clear h
    have h := hb0
    simp only [Bool.and_eq_true, decide_eq_true_eq] at h
    obtain ⟨⟨⟨⟨⟨⟨⟨rfl, h2⟩, h3⟩, h4⟩, h5⟩, h6⟩, h7⟩, h9⟩ := h
    obtain ⟨q, hq, hm, _⟩ := pe_clsN M h3 h4 h5
    rw [hq] at h9
    simp only [Option.bind_some] at h9
    cases hj : q.stats.lookup nm with
    | none => rw [hj] at h9; cases h9
    | some j =>
      rw [hj] at h9
      obtain ⟨fn, kn, e1, e2, b1, b2⟩ := shape_of M h9
      exact both (pe_statX M tk hq hj e1 b1 b2 h3 h4 hm h6 h7 h2 e2 hl.pa hk (fun e s ds e' s' h => by rw [denES_len h, chkES_len hes]) (fun e s ds e' s' h => by rw [denES_len h, chkK_len hks, (kw_all (env := X.env) (pos := pos) e2).2.2.2]) (nil_den hes)) (by intro _; rfl)
  · cases h
theorem rdt_bl {X : Cx} {W : WX} {m : DM D} {σ : St} {H : Hp} {Q : Bool → Hp → Prop} (h : RdT T W (fun e s => blOnly (m e s)) σ H Q) : tB (RdE T W m) σ H Q := by
  obtain ⟨F, G, P, θ, env, sto, R, h⟩ := h
  dsimp only [blOnly] at h
  refine ⟨F, G, P, θ, env, sto, R, h.bnd fun d e1 s1 P1 θ1 H1 _ _ R1 q v rv => ?_⟩
  cases d <;> try exact q.elim
  rename_i b
  simp only [Rep] at rv
  have q : Pst T W F G P1 θ1 σ (.ok b e1 s1) _ := q
  exact ⟨b, rv, q.here R1⟩
mutual
theorem soundE : ∀ (ir : EX) {sc : Scope} {X : Cx} {W : WX} {e : Expr}, Md C T p k N sc X → Takes X W → chkE C N sc ir e = true → PE X e (RdE T W (denE p ir))
  | .c d, sc, X, W, e, M, tk, h => by
    cases e <;> simp only [chkE, Bool.false_eq_true] at h
    exact pe_constX h
  | .var i, sc, X, W, e, M, tk, h => by
    cases e <;> simp only [chkE, chkV, Bool.false_eq_true] at h
    exact pe_varX M h
  | .glo i, sc, X, W, e, M, tk, h => by
    cases e <;> simp only [chkE, Bool.false_eq_true] at h
    exact pe_gloX M h
  | .lst es, sc, X, W, e, M, tk, h => by
    cases e <;> simp only [chkE, Bool.false_eq_true] at h
    rw [Bool.and_eq_true, decide_eq_true_eq] at h
    refine (pe_lst (soundL es M tk h.2).pa).imp fun σ H Q q => ?_
    rw [denE] at q
    exact rd_lst (fun e s ds e' s' z => by rw [denES_len z]; exact h.1) q
  | .tup es, sc, X, W, e, M, tk, h => by
    cases e <;> simp only [chkE, Bool.false_eq_true] at h
    rw [Bool.and_eq_true, decide_eq_true_eq] at h
    refine (pe_tup (soundL es M tk h.2).pa).imp fun σ H Q q => ?_
    rw [denE] at q
    exact rd_tup (fun e s ds e' s' z => by rw [denES_len z]; exact h.1) q
  | .newl es, sc, X, W, e, M, tk, h => by
    cases e <;> simp only [chkE, Bool.false_eq_true] at h
    rw [Bool.and_eq_true, decide_eq_true_eq] at h
    refine (pe_lst (soundL es M tk h.2).pa).imp fun σ H Q q => ?_
    rw [denE] at q
    exact rd_newl (fun e s ds e' s' z => by rw [denES_len z]; exact h.1) q
  | .bin op a b, sc, X, W, e, M, tk, h => by
    cases e <;> simp only [chkE, Bool.false_eq_true] at h
    simp only [Bool.and_eq_true, decide_eq_true_eq] at h
    obtain ⟨⟨rfl, h1⟩, h2⟩ := h
    obtain ⟨r, hr, hp⟩ := bop_ok (X := X) (T := T) (W := W) op
    refine (pe_op hr (soundE a M tk h1) (soundE b M tk h2)).imp fun σ H Q q => ?_
    rw [denE] at q
    exact rd_two hp q
  | .cmp op a b, sc, X, W, e, M, tk, h => by
    rw [chkE.eq_def] at h
    simp only at h
    split at h
    · simp only [Bool.and_eq_true, decide_eq_true_eq, Bool.not_eq_true'] at h
      obtain ⟨⟨⟨rfl, h0⟩, h1⟩, h2⟩ := h
      obtain ⟨r, hr, hp⟩ := cop_ok (X := X) (T := T) (W := W) M.K op
      refine (pe_cmpR hr (soundE a M tk h1) (soundE b M tk h2) h0).imp fun σ H Q q => ?_
      rw [denE] at q
      exact rd_two hp q
    · cases h
  | .chn o q a b c, sc, X, W, e, M, tk, h => by
    rw [chkE.eq_def] at h
    simp only at h
    split at h
    · simp only [Bool.and_eq_true, decide_eq_true_eq, Bool.not_eq_true'] at h
      obtain ⟨⟨⟨⟨⟨rfl, rfl⟩, h0⟩, h1⟩, h2⟩, h3⟩ := h
      obtain ⟨r, hr, hp⟩ := cop_ok (X := X) (T := T) (W := W) M.K o
      obtain ⟨r', hr', hp'⟩ := cop_ok (X := X) (T := T) (W := W) M.K q
      refine (pe_chain hr hr' (soundE a M tk h1) (soundE b M tk h2) (soundE c M tk h3) h0).imp fun σ H Q q => ?_
      rw [denE] at q
      exact rd_chn hp hp' q
    · cases h
  | .isn neg a, sc, X, W, e, M, tk, h => by
    rw [chkE.eq_def] at h
    simp only at h
    split at h
    · simp only [Bool.and_eq_true, decide_eq_true_eq] at h
      obtain ⟨h0, h1⟩ := h
      cases neg with
      | false =>
        subst h0
        refine (pe_cmp (pc_isN (soundE a M tk h1))).imp fun σ H Q q => ?_
        rw [denE] at q
        exact rd_isn q
      | true =>
        subst h0
        refine (pe_cmp (pc_notN (soundE a M tk h1))).imp fun σ H Q q => ?_
        rw [denE] at q
        exact rd_isnn q
    · cases h
  | .and a b, sc, X, W, e, M, tk, h => by
    rw [chkE.eq_def] at h
    simp only at h
    split at h
    · rename_i x y r pos
      rw [Bool.and_eq_true] at h
      have hb : PE X (.BoolOp .And (y :: r) pos) (RdE T W (denE p b)) := by
        cases r with
        | nil => exact pe_one (soundE b M tk h.2)
        | cons z r => exact soundE b M tk h.2
      refine (pe_and (soundE a M tk h.1) hb).imp fun σ H Q q => ?_
      rw [denE] at q
      exact rd_and q
    · cases h
  | .or a b, sc, X, W, e, M, tk, h => by
    rw [chkE.eq_def] at h
    simp only at h
    split at h
    · rename_i x y r pos
      rw [Bool.and_eq_true] at h
      have hb : PE X (.BoolOp .Or (y :: r) pos) (RdE T W (denE p b)) := by
        cases r with
        | nil => exact pe_one (soundE b M tk h.2)
        | cons z r => exact soundE b M tk h.2
      refine (pe_or (soundE a M tk h.1) hb).imp fun σ H Q q => ?_
      rw [denE] at q
      exact rd_or q
    · cases h
  | .not a, sc, X, W, e, M, tk, h => by
    rw [chkE.eq_def] at h
    simp only at h
    split at h
    · refine (pe_not (soundE a M tk h)).imp fun σ H Q q => ?_
      rw [denE] at q
      exact rd_not q
    · cases h
  | .ife t a b, sc, X, W, e, M, tk, h => by
    rw [chkE.eq_def] at h
    simp only at h
    split at h
    · simp only [Bool.and_eq_true] at h
      refine (pe_ifExp (soundT t M tk h.1.1) (soundE a M tk h.1.2) (soundE b M tk h.2)).imp fun σ H Q q => ?_
      rw [denE] at q
      exact rd_ife q
    · cases h
  | .call f es ks bd, sc, X, W, e, M, tk, h => by
    rw [chkE.eq_def] at h
    simp only at h
    split at h
    · have h' := h
      simp only [Bool.and_eq_true] at h'
      exact pe_callM M tk h (soundL es M tk h'.1.1.2).pa (soundK ks M tk h'.1.2)
    · cases h
  | .bi b es, sc, X, W, e, M, tk, h => by
    rw [chkE.eq_def] at h
    simp only at h
    split at h
    · simp only [Bool.and_eq_true, decide_eq_true_eq] at h
      obtain ⟨⟨⟨⟨⟨h1, h2⟩, h3⟩, h4⟩, h5⟩, h6⟩ := h
      exact pe_biX M h1 h2 h3 h4 h5 (soundL es M tk h6).pa
    · cases h
  | .mt m o es, sc, X, W, e, M, tk, h => by
    rw [chkE.eq_def] at h
    simp only at h
    split at h
    · simp only [Bool.and_eq_true, decide_eq_true_eq] at h
      obtain ⟨⟨⟨⟨⟨h1, h2⟩, h3⟩, h4⟩, h5⟩, h6⟩ := h
      exact pe_mtX M h1 h2 h3 h4 rfl (by show 1 < 20; decide) (soundE o M tk h5) (soundL es M tk h6).pa
    · cases h
  | .sub a b, sc, X, W, e, M, tk, h => by
    rw [chkE.eq_def] at h
    simp only at h
    split at h
    · rename_i x y pos
      simp only [Bool.and_eq_true] at h
      refine (pe_ix ix_seq (soundE a M tk h.1.2) (soundE b M tk h.2) ?_).imp fun σ H Q q => ?_
      · intro o i
        cases y <;> first | rfl | (have := h.1.1; cases this)
      · rw [denE] at q
        exact rd_two (pr_sub' M.K) q
    · cases h
  | .slc a lo hi, sc, X, W, e, M, tk, h => by
    rw [chkE.eq_def] at h
    simp only at h
    split at h
    · simp only [Bool.and_eq_true] at h
      refine (pe_slice (SlR.or sl_list sl_str) (soundE a M tk h.1.1) (soundO lo M tk h.1.2) (soundO hi M tk h.2)).imp fun σ H Q q => ?_
      rw [denE] at q
      exact rd_slc M.K q
    · cases h
  | .isi a t, sc, X, W, e, M, tk, h => by
    rw [chkE.eq_def] at h
    simp only at h
    split at h
    · simp only [Bool.and_eq_true, decide_eq_true_eq] at h
      obtain ⟨⟨⟨⟨⟨h1, h2⟩, h3⟩, h4⟩, h5⟩, h6⟩ := h
      exact pe_isiX M h1 h2 h3 h4 h6 (soundE a M tk h5)
    · cases h
  | .isiT a ts, sc, X, W, e, M, tk, h => by
    rw [chkE.eq_def] at h
    simp only at h
    split at h
    · simp only [Bool.and_eq_true, decide_eq_true_eq, Bool.not_eq_true'] at h
      obtain ⟨⟨⟨⟨⟨⟨⟨h1, h2⟩, h3⟩, h4⟩, h7⟩, h8⟩, h5⟩, h6⟩ := h
      exact pe_isiTX M h1 h2 h3 h4 h6 (by rintro rfl; cases h7) h8 (soundE a M tk h5)
    · cases h
  | .lc own it tg ifs m, sc, X, W, e, M, tk, h => by
    rw [chkE.eq_def] at h
    simp only at h
    split at h
    · rename_i elt t iter cs as scope pos
      simp only [Bool.and_eq_true, decide_eq_true_eq] at h
      obtain ⟨⟨⟨⟨⟨⟨rfl, h1⟩, h2⟩, h3⟩, h4⟩, h5⟩, h6⟩ := h
      have ok : BlkOk X.N X.env.scope scope (own.map fun i => (N.getD i Str.empty, i)) := by rw [M.eN, M.es]; exact blkOk_by h1
      have e2 : (own.map fun i => (N.getD i Str.empty, i)).map (·.2) = own := by
        rw [List.map_map]
        exact List.map_id' own
      have hl : ∀ (s : Shared) (H : Hp) (A : Addr) (cl : List (Str × Addr)) (fp : List Addr) (x : Str), isLoc (relS scope sc) x = true → Loc (X.blk s H scope (compEnvC scope cl A X.env) fp).env.scope x ∧ ((X.blk s H scope (compEnvC scope cl A X.env) fp).fn x = true ∨ (X.blk s H scope (compEnvC scope cl A X.env) fp).env.scope.names.lookup x = some .local) := by
        intro s H A cl fp x hx
        rw [(M.blk s H scope A cl fp).es]
        unfold isLoc at hx
        split at hx
        · rename_i z; exact ⟨.inl z, .inr z⟩
        · cases hx
      have := pe_lc (pos := pos) M.calm (by rw [M.eN]; exact M.nd) (soundI it M tk h3) ok (g := gOf X.K tg) (fun s H A cl fp => pg_tg (X := X.blk s H scope (compEnvC scope cl A X.env) fp) (sc := sc) M.calm M.eN M.nd (hl s H A cl fp) h4) (fun s H A cl fp => soundTs ifs (M.blk s H scope A cl fp) takes0 h5) (fun s H A cl fp => soundE m (M.blk s H scope A cl fp) takes0 h6) (setIt (chkI_set h3))
      rw [e2] at this
      refine this.imp fun σ H Q q => ?_
      rw [denE] at q
      refine rdf_lc M.K (fun j hj => ?_) (rdf_of q)
      have := List.all_eq_true.mp h2 j hj
      simpa using this
    · cases h
  | .op1 o a es ks, sc, X, W, e, M, tk, h => by
    rw [chkE.eq_def] at h
    simp only at h
    split at h
    · rename_i x l kws he
      simp only [Bool.and_eq_true] at h
      exact (op1_ok M tk he h.1.2 h.2 (soundE a M tk h.1.1) (soundL es M tk h.1.2) (soundK ks M tk h.2)).1
    · cases h
  | .opn o es ks, sc, X, W, e, M, tk, h => by
    rw [chkE.eq_def] at h
    simp only at h
    split at h
    · rename_i l kws he
      simp only [Bool.and_eq_true] at h
      exact (opn_ok M tk he h.1 h.2 (soundL es M tk h.1) (soundK ks M tk h.2)).1
    · cases h
  | .fst es, sc, X, W, e, M, tk, h => by
    rw [chkE.eq_def] at h
    simp only at h
    split at h
    · obtain ⟨ts, hf⟩ := soundFs es M tk h
      exact pe_fstX hf
    · cases h
theorem soundFs : ∀ (es : ES) {sc : Scope} {X : Cx} {W : WX} {l : List Expr}, Md C T p k N sc X → Takes X W → chkFs C N sc es l = true → ∃ ts, PFs X T W p es l ts
  | .nil, sc, X, W, l, M, tk, h => by
    rw [chkFs.eq_def] at h
    simp only at h
    cases l with
    | nil => exact ⟨_, .nil⟩
    | cons _ _ => cases h
  | .cons a es, sc, X, W, l, M, tk, h => by
    rw [chkFs.eq_def] at h
    simp only at h
    split at h
    · simp only [Bool.and_eq_true, decide_eq_true_eq] at h
      obtain ⟨⟨⟨h1, h2⟩, h3⟩, h4⟩ := h
      obtain ⟨ts, hf⟩ := soundFs es M tk h4
      subst h1
      rw [Option.isNone_iff_eq_none] at h2
      subst h2
      exact ⟨_, .val (soundE a M tk h3) hf⟩
    · simp only [Bool.and_eq_true] at h
      obtain ⟨⟨h1, h2⟩, h3⟩ := h
      obtain ⟨ts, hf⟩ := soundFs es M tk h3
      have h4 := h2
      cases a <;> first | (exact absurd h1 Bool.false_ne_true) | skip
      rename_i v _ _ _ d
      cases v <;> first | (exact absurd h1 Bool.false_ne_true) | skip
      cases d <;> simp only [chkE, constOk, Bool.false_eq_true] at h4
      exact ⟨_, .con (by funext e s; rw [denE]) (soundE _ M tk h2) hf⟩
    · cases h
theorem soundL : ∀ (es : ES) {sc : Scope} {X : Cx} {W : WX} {l : List Expr}, Md C T p k N sc X → Takes X W → chkES C N sc es l = true → PEL X T W p es l
  | .nil, sc, X, W, l, M, tk, h => by
    rw [chkES] at h
    cases l with
    | nil => exact .nil
    | cons _ _ => cases h
  | .cons a es, sc, X, W, l, M, tk, h => by
    rw [chkES.eq_def] at h
    cases l with
    | nil => cases h
    | cons x l =>
      simp only [Bool.and_eq_true] at h
      exact .cons h.1.1 (soundE a M tk h.1.2) (soundL es M tk h.2)
theorem soundK : ∀ (es : ES) {sc : Scope} {X : Cx} {W : WX} {l : List Keyword}, Md C T p k N sc X → Takes X W → chkK C N sc es l = true → PK X l (RdA T W (denES p es))
  | .nil, sc, X, W, l, M, tk, h => by
    rw [chkK] at h
    cases l with
    | nil =>
      refine pk_nil.imp fun σ H Q q => ?_
      rw [denES] at q
      exact rda_nil q
    | cons _ _ => cases h
  | .cons a es, sc, X, W, l, M, tk, h => by
    rw [chkK.eq_def] at h
    cases l with
    | nil => cases h
    | cons x l =>
      obtain ⟨nm, v, ps⟩ := x
      simp only [Bool.and_eq_true] at h
      refine (pk_cons (soundE a M tk h.1) (soundK es M tk h.2)).imp fun σ H Q q => ?_
      rw [denES] at q
      exact rda_cons q
theorem soundO : ∀ (o : EO) {sc : Scope} {X : Cx} {W : WX} {e : Option Expr}, Md C T p k N sc X → Takes X W → chkO C N sc o e = true → PO X e (RdO T W (denO p o))
  | .no, sc, X, W, e, M, tk, h => by
    rw [chkO] at h
    cases e with
    | some _ => cases h
    | none =>
      refine ⟨fun pins s σ H Q I q => po_none.run pins s σ H Q I ?_⟩
      rw [denO] at q
      exact rdo_no q
  | .yes a, sc, X, W, e, M, tk, h => by
    rw [chkO.eq_def] at h
    cases e with
    | none => cases h
    | some x =>
      refine ⟨fun pins s σ H Q I q => (po_some (soundE a M tk h)).run pins s σ H Q I ?_⟩
      rw [denO] at q
      exact rdo_yes q
theorem soundI : ∀ (it : IT) {sc : Scope} {X : Cx} {W : WX} {t e : Expr}, Md C T p k N sc X → Takes X W → chkI C N sc it t e = true → PI X t e (RdI T W (denI p it))
  | .it a, sc, X, W, t, e, M, tk, h => by
    rw [chkI.eq_def] at h
    simp only [Bool.and_eq_true] at h
    refine ⟨fun pins s σ H R I q => (pi_any (soundE a M tk h.2)).run pins s σ H R I ?_⟩
    rw [denI] at q
    exact rdi_it M.K q
  | .rng a, sc, X, W, t, e, M, tk, h => by
    rw [chkI.eq_def] at h
    simp only at h
    split at h
    · simp only [Bool.and_eq_true, decide_eq_true_eq] at h
      obtain ⟨⟨⟨⟨h1, rfl⟩, h3⟩, h4⟩, h5⟩ := h
      refine ⟨fun pins s σ H R I q => (pi_range1 (glb_of M h1) (M.blt _ (by simpa using h3)) (pa_cons (soundE a M tk h5) pa_nil (star_plain h4)) (star_plain h4)).run pins s σ H R I ?_⟩
      rw [denI] at q
      exact rdi_rng q
    · cases h
  | .rng2 a b, sc, X, W, t, e, M, tk, h => by
    rw [chkI.eq_def] at h
    simp only at h
    split at h
    · simp only [Bool.and_eq_true, decide_eq_true_eq] at h
      obtain ⟨⟨⟨⟨⟨⟨h1, rfl⟩, h3⟩, h4⟩, h4'⟩, h5⟩, h6⟩ := h
      refine ⟨fun pins s σ H R I q => (pi_range2 (glb_of M h1) (M.blt _ (by simpa using h3)) (pa_cons (soundE a M tk h5) (pa_cons (soundE b M tk h6) pa_nil (star_plain h4')) (star_plain h4)) (by rw [star_plain h4, star_plain h4']; rfl) (star_plain h4')).run pins s σ H R I ?_⟩
      rw [denI] at q
      exact rdi_rng2 q
    · cases h
  | .zip a b, sc, X, W, t, e, M, tk, h => by
    rw [chkI.eq_def] at h
    simp only at h
    split at h
    · simp only [Bool.and_eq_true, decide_eq_true_eq] at h
      obtain ⟨⟨⟨⟨⟨⟨h1, rfl⟩, h3⟩, h4⟩, h4'⟩, h5⟩, h6⟩ := h
      refine ⟨fun pins s σ H R I q => (RZ.pi_zipA (glb_of M h1) (M.blt _ (by simpa using h3)) (pa_cons (soundE a M tk h5) (pa_cons (soundE b M tk h6) pa_nil (star_plain h4')) (star_plain h4)) (star_plain h4) (star_any (by rw [List.all_cons, h4']; rfl))).run pins s σ H R I ?_⟩
      rw [denI] at q
      exact rdi_zip M.K q
    · cases h
  | .enm a, sc, X, W, t, e, M, tk, h => by
    rw [chkI.eq_def] at h
    simp only at h
    split at h
    · simp only [Bool.and_eq_true, decide_eq_true_eq] at h
      obtain ⟨⟨⟨⟨h1, rfl⟩, h3⟩, h4⟩, h5⟩ := h
      refine ⟨fun pins s σ H R I q => (pi_enum (glb_of M h1) (M.blt _ (by simpa using h3)) (pa_cons (soundE a M tk h5) pa_nil (star_plain h4)) (star_plain h4)).run pins s σ H R I ?_⟩
      rw [denI] at q
      exact rdi_enm M.K q
    · cases h
theorem soundT : ∀ (ir : EX) {sc : Scope} {X : Cx} {W : WX} {e : Expr}, Md C T p k N sc X → Takes X W → chkT C N sc ir e = true → PT X e (RdT T W (denT p ir))
  | .cmp op a b, sc, X, W, e, M, tk, h => by
    rw [chkT.eq_def] at h
    simp only at h
    split at h
    · simp only [Bool.and_eq_true, decide_eq_true_eq, Bool.not_eq_true'] at h
      obtain ⟨⟨⟨rfl, h0⟩, h1⟩, h2⟩ := h
      obtain ⟨r, hr, hp⟩ := cop_ok (X := X) (T := T) (W := W) M.K op
      refine (pt_cmpR hr (soundE a M tk h1) (soundE b M tk h2) h0).imp fun σ H Q q => ?_
      rw [denT] at q
      exact rdt_cmp hp q
    · cases h
  | .chn o q a b c, sc, X, W, e, M, tk, h => by
    rw [chkT.eq_def] at h
    simp only at h
    split at h
    · simp only [Bool.and_eq_true, decide_eq_true_eq, Bool.not_eq_true'] at h
      obtain ⟨⟨⟨⟨⟨rfl, rfl⟩, h0⟩, h1⟩, h2⟩, h3⟩ := h
      obtain ⟨r, hr, hp⟩ := cop_ok (X := X) (T := T) (W := W) M.K o
      obtain ⟨r', hr', hp'⟩ := cop_ok (X := X) (T := T) (W := W) M.K q
      refine (pt_chain hr hr' (soundE a M tk h1) (soundE b M tk h2) (soundE c M tk h3) h0).imp fun σ H Q q => ?_
      rw [denT] at q
      exact rdt_chn hp hp' q
    · cases h
  | .isn neg a, sc, X, W, e, M, tk, h => by
    rw [chkT.eq_def] at h
    simp only at h
    split at h
    · simp only [Bool.and_eq_true, decide_eq_true_eq] at h
      obtain ⟨h0, h1⟩ := h
      cases neg with
      | false =>
        subst h0
        refine (pt_cmp (pc_isN (soundE a M tk h1))).imp fun σ H Q q => ?_
        rw [denT] at q
        exact rdt_isn q
      | true =>
        subst h0
        refine (pt_cmp (pc_notN (soundE a M tk h1))).imp fun σ H Q q => ?_
        rw [denT] at q
        exact rdt_isnn q
    · cases h
  | .and a b, sc, X, W, e, M, tk, h => by
    rw [chkT.eq_def] at h
    simp only at h
    split at h
    · rename_i x y r pos
      rw [Bool.and_eq_true] at h
      have hb : PW X (.BoolOp .And (y :: r) pos) (RdT T W (denT p b)) := by
        cases r with
        | nil => exact pw_and1 (soundT b M tk h.2)
        | cons z r => exact ⟨fun wh pins s σ H Q I q => (soundT b M tk h.2).run pins s σ H Q I q⟩
      refine (PW.pt (pw_and (soundT a M tk h.1) hb)).imp fun σ H Q q => ?_
      rw [denT] at q
      exact rdt_and q
    · cases h
  | .or a b, sc, X, W, e, M, tk, h => by
    rw [chkT.eq_def] at h
    simp only at h
    split at h
    · rename_i x y r pos
      rw [Bool.and_eq_true] at h
      have hb : PW X (.BoolOp .Or (y :: r) pos) (RdT T W (denT p b)) := by
        cases r with
        | nil => exact pw_or1 (soundT b M tk h.2)
        | cons z r => exact ⟨fun wh pins s σ H Q I q => (soundT b M tk h.2).run pins s σ H Q I q⟩
      refine (PW.pt (pw_or (soundT a M tk h.1) hb)).imp fun σ H Q q => ?_
      rw [denT] at q
      exact rdt_or q
    · cases h
  | .not a, sc, X, W, e, M, tk, h => by
    rw [chkT.eq_def] at h
    simp only at h
    split at h
    · refine (pt_not (soundT a M tk h)).imp fun σ H Q q => ?_
      rw [denT] at q
      exact rdt_not q
    · cases h
  | .var i, sc, X, W, e, M, tk, h => by
    rw [chkT.eq_def] at h
    simp only at h
    have he : ∀ whole, isTrue e X.env whole = (do let v ← whole; standAt e.pos; holding [v] (truthy v)) := by
      cases e <;> simp only [chkV, Bool.false_eq_true] at h
      intro _; rfl
    have h' : chkE C N sc (.var i) e = true := by rw [chkE]; exact h
    refine (pt_truth (soundE (.var i) M tk h') he).imp fun σ H Q q => ?_
    rw [denT] at q
    rw [denE]
    exact rdt_tru M.K q
  | .call f es ks bd, sc, X, W, e, M, tk, h => by
    rw [chkT.eq_def] at h
    simp only at h
    split at h
    · have h' := h
      simp only [Bool.and_eq_true] at h'
      refine (pt_truth (pe_callM M tk h (soundL es M tk h'.1.1.2).pa (soundK ks M tk h'.1.2)) (by intro _; rfl)).imp fun σ H Q q => ?_
      rw [denT] at q
      refine rdt_tru M.K ?_
      have e : (fun e s => (denE p (.call f es ks bd) e s).bind fun x e s => opt (truD x) e s) = fun e s => (denES p es e s).bind fun ds e s => (denES p ks e s).bind fun zs e s => (opt (bdD (ds ++ zs) bd) e s).bind fun as e s => (callD p f as e s).bind fun x e s => opt (truD x) e s := by
        funext e s
        rw [denE]
        show ((denES p es e s).bind _).bind _ = _
        cases denES p es e s with
        | er => rfl
        | bad => rfl
        | ok ds e1 s1 =>
          show ((denES p ks e1 s1).bind _).bind _ = (denES p ks e1 s1).bind _
          cases denES p ks e1 s1 with
          | er => rfl
          | bad => rfl
          | ok zs e2 s2 =>
            show ((opt (bdD (ds ++ zs) bd) e2 s2).bind _).bind _ = (opt (bdD (ds ++ zs) bd) e2 s2).bind _
            cases bdD (ds ++ zs) bd <;> rfl
      rw [e]
      exact q
    · cases h
  | .bi b es, sc, X, W, e, M, tk, h => by
    rw [chkT.eq_def] at h
    simp only at h
    split at h
    · simp only [Bool.and_eq_true, decide_eq_true_eq] at h
      obtain ⟨⟨⟨⟨⟨h1, h2⟩, h3⟩, h4⟩, h5⟩, h6⟩ := h
      refine (pt_truth (pe_biX M h1 h2 h3 h4 h5 (soundL es M tk h6).pa) (by intro _; rfl)).imp fun σ H Q q => ?_
      rw [denT] at q
      refine rdt_tru M.K ?_
      have e : (fun e s => (denE p (.bi b es) e s).bind fun x e s => opt (truD x) e s) = fun e s => (denES p es e s).bind fun ds e s => (opt (biD s b ds) e s).bind fun x e s => opt (truD x) e s := by
        funext e s
        rw [denE]
        show ((denES p es e s).bind _).bind _ = _
        cases denES p es e s with
        | er => rfl
        | bad => rfl
        | ok ds e1 s1 => rfl
      rw [e]
      exact q
    · cases h
  | .isi a t, sc, X, W, e, M, tk, h => by
    rw [chkT.eq_def] at h
    simp only at h
    split at h
    · simp only [Bool.and_eq_true, decide_eq_true_eq] at h
      obtain ⟨⟨⟨⟨⟨h1, h2⟩, h3⟩, h4⟩, h5⟩, h6⟩ := h
      refine (pt_truth (pe_isiX M h1 h2 h3 h4 h6 (soundE a M tk h5)) (by intro _; rfl)).imp fun σ H Q q => ?_
      rw [denT, isi_test] at q
      refine rdt_tru M.K ?_
      rw [denE]
      exact q
    · cases h
  | .isiT a ts, sc, X, W, e, M, tk, h => by
    rw [chkT.eq_def] at h
    simp only at h
    split at h
    · simp only [Bool.and_eq_true, decide_eq_true_eq, Bool.not_eq_true'] at h
      obtain ⟨⟨⟨⟨⟨⟨⟨h1, h2⟩, h3⟩, h4⟩, h7⟩, h8⟩, h5⟩, h6⟩ := h
      refine (pt_truth (pe_isiTX M h1 h2 h3 h4 h6 (by rintro rfl; cases h7) h8 (soundE a M tk h5)) (by intro _; rfl)).imp fun σ H Q q => ?_
      rw [denT, isi_test] at q
      refine rdt_tru M.K ?_
      rw [denE]
      exact q
    · cases h
  | .c _, sc, X, W, e, M, tk, h => by rw [chkT.eq_def] at h; cases h
  | .glo _, sc, X, W, e, M, tk, h => by rw [chkT.eq_def] at h; cases h
  | .lst _, sc, X, W, e, M, tk, h => by rw [chkT.eq_def] at h; cases h
  | .tup _, sc, X, W, e, M, tk, h => by rw [chkT.eq_def] at h; cases h
  | .newl _, sc, X, W, e, M, tk, h => by rw [chkT.eq_def] at h; cases h
  | .bin _ _ _, sc, X, W, e, M, tk, h => by rw [chkT.eq_def] at h; cases h
  | .ife _ _ _, sc, X, W, e, M, tk, h => by rw [chkT.eq_def] at h; cases h
  | .mt _ _ _, sc, X, W, e, M, tk, h => by rw [chkT.eq_def] at h; cases h
  | .sub _ _, sc, X, W, e, M, tk, h => by rw [chkT.eq_def] at h; cases h
  | .slc _ _ _, sc, X, W, e, M, tk, h => by rw [chkT.eq_def] at h; cases h
  | .lc _ _ _ _ _, sc, X, W, e, M, tk, h => by rw [chkT.eq_def] at h; cases h
  | .fst _, sc, X, W, e, M, tk, h => by rw [chkT.eq_def] at h; cases h
  | .op1 o a es ks, sc, X, W, e, M, tk, h => by
    rw [chkT.eq_def] at h
    simp only at h
    split at h
    · rename_i x l kws he
      simp only [Bool.and_eq_true] at h
      refine (op1_ok M tk he h.1.2 h.2 (soundE a M tk h.1.1) (soundL es M tk h.1.2) (soundK ks M tk h.2)).2.imp fun σ H Q q => ?_
      rw [denT] at q
      rw [denE]
      exact rdt_bl (X := X) q
    · cases h
  | .opn o es ks, sc, X, W, e, M, tk, h => by
    rw [chkT.eq_def] at h
    simp only at h
    split at h
    · rename_i l kws he
      simp only [Bool.and_eq_true] at h
      refine (opn_ok M tk he h.1 h.2 (soundL es M tk h.1) (soundK ks M tk h.2)).2.imp fun σ H Q q => ?_
      rw [denT] at q
      rw [denE]
      exact rdt_bl (X := X) q
    · cases h
theorem soundTs : ∀ (es : ES) {sc : Scope} {X : Cx} {W : WX} {l : List Expr}, Md C T p k N sc X → Takes X W → chkTs C N sc es l = true → PTs X l (RdT T W (denTs p es))
  | .nil, sc, X, W, l, M, tk, h => by
    rw [chkTs] at h
    cases l with
    | cons _ _ => cases h
    | nil =>
      refine ⟨fun pins s σ H Q I q => pts_nil.run pins s σ H Q I ?_⟩
      rw [denTs] at q
      obtain ⟨F, G, P, θ, env, sto, R, q⟩ := q
      exact Pst.here q R
  | .cons a .nil, sc, X, W, l, M, tk, h => by
    rw [chkTs.eq_def] at h
    simp only at h
    split at h
    · have := pts_one (soundT a M tk h)
      refine ⟨fun pins s σ H Q I q => this.run pins s σ H Q I ?_⟩
      rw [denTs] at q
      exact q
    · cases h
  | .cons a (.cons b es), sc, X, W, l, M, tk, h => by rw [chkTs.eq_def] at h; cases h
end
end
end Mx

namespace Mx
open PySem L2
open Evl (Ex)

def PstS (T : Tb) (W : WX) (F G P : Hp) (θ : List Addr) (r : Res Out) (D : Ends) : Prop := match r with
  | .ok o e s => ∀ P' θ' σ' H', Ex P P' → θ <+: θ' → Rel T F G P' θ' e s σ' H' → (match o with
    | .nx => D.nx σ' H'
    | .bk => D.bk σ' H'
    | .ct => D.ct σ' H'
    | .rt d => ∀ v, Rep T P' θ' d v → D.rt v H')
  | .er x e s => ∀ cls dx P' θ' σ' H', Ex P P' → θ <+: θ' → Rel T F G P' θ' e s σ' H' → XRep T P' θ' x cls dx H' → W cls dx σ' H'
  | .bad => False
def RdS (T : Tb) (W : WX) (m : DM Out) : TS := fun D σ H => ∃ F G P θ env sto, Rel T F G P θ env sto σ H ∧ PstS T W F G P θ (m env sto) D

section
variable {T : Tb} {W : WX} {F G P P1 : Hp} {θ θ1 : List Addr} {σ : St} {H : Hp} {env : En} {sto : So} {D : Ends} {X : Cx}
theorem PstS.mono {r : Res Out} (h : PstS T W F G P θ r D) (e : Ex P P1) (t : θ <+: θ1) : PstS T W F G P1 θ1 r D := by
  cases r with
  | ok a en s => exact fun P' θ' σ' H' a1 a2 a3 => h P' θ' σ' H' (e.trans a1) (t.trans a2) a3
  | er x en s => exact fun cls dx P' θ' σ' H' a1 a2 a3 a4 => h cls dx P' θ' σ' H' (e.trans a1) (t.trans a2) a3 a4
  | bad => exact h
theorem PstS.bnd {α : Type} {r : Res α} {f : α → En → So → Res Out} {K' : α → En → So → Hp → List Addr → Hp → Prop} (h : PstS T W F G P θ (r.bind f) D)
    (q : ∀ a e s P' θ' H', Ex P P' → θ <+: θ' → Rel T F G P' θ' e s σ H' → PstS T W F G P' θ' (f a e s) D → K' a e s P' θ' H') : Pst T W F G P θ σ r K' := by
  cases r with
  | ok a en s => exact fun P' θ' H' a1 a2 a3 => q _ _ _ _ _ _ a1 a2 a3 (h.mono a1 a2)
  | er x en s => exact fun cls dx P' θ' H' a1 a2 a3 a4 => h cls dx P' θ' σ H' a1 a2 a3 a4
  | bad => exact h
theorem PstS.nx {e : En} {s : So} (h : PstS T W F G P θ (.ok .nx e s) D) (R : Rel T F G P θ e s σ H) : D.nx σ H := h P θ σ H (exr P) (pfr θ) R

theorem rds_asg {m : DM Mx.D} {i : Nat} (h : RdS T W (fun e s => (m e s).bind fun d e s => .ok .nx (e.set i (.sh d)) s) D σ H) : tAsg (RdE T W m) (gName i) D σ H := by
  obtain ⟨F, G, P, θ, env, sto, R, h⟩ := h
  exact ⟨F, G, P, θ, env, sto, R, h.bnd fun d e s P1 θ1 H1 _ _ R1 q v rv => q.nx (R1.put rv)⟩
theorem rds_asgo {m : DM (List Mx.D)} {i : Nat} (h : RdS T W (fun e s => (m e s).bind fun ds e s => .ok .nx (e.set i (.ow (.lst ds))) s) D σ H) : tAsg (RdF T W m) (gName i) D σ H := by
  obtain ⟨F, G, P, θ, env, sto, R, h⟩ := h
  exact ⟨F, G, P, θ, env, sto, R, h.bnd fun ds e s P1 θ1 H1 _ _ R1 q p vs h1 hz h2 h3 h4 h5 h6 => q.nx (R1.putOw h1 ⟨vs, ⟨rfl, hz⟩, h2⟩ h3 h4 h5 h6)⟩
theorem rds_ret {m : DM Mx.D} (h : RdS T W (fun e s => (m e s).bind fun d e s => .ok (.rt d) e s) D σ H) : tRet (RdE T W m) D σ H := by
  obtain ⟨F, G, P, θ, env, sto, R, h⟩ := h
  exact ⟨F, G, P, θ, env, sto, R, h.bnd fun d e s P1 θ1 H1 _ _ R1 q v rv => q P1 θ1 σ H1 (exr P1) (pfr θ1) R1 v rv⟩
theorem rds_drop {m : DM Mx.D} (h : RdS T W (fun e s => (m e s).bind fun _ e s => .ok .nx e s) D σ H) : tDrop (RdE T W m) D σ H := by
  obtain ⟨F, G, P, θ, env, sto, R, h⟩ := h
  exact ⟨F, G, P, θ, env, sto, R, h.bnd fun d e s P1 θ1 H1 _ _ R1 q v rv => q.nx R1⟩
theorem rds_iff {mt : DM Bool} {ma mb : DM Out} (h : RdS T W (fun e s => (mt e s).bind fun k e s => if k then ma e s else mb e s) D σ H) : tIfS (RdT T W mt) (RdS T W ma) (RdS T W mb) D σ H := by
  obtain ⟨F, G, P, θ, env, sto, R, h⟩ := h
  refine ⟨F, G, P, θ, env, sto, R, h.bnd fun b e1 s1 P1 θ1 H1 _ _ R1 q => ?_⟩
  cases b with
  | true =>
    rw [if_pos rfl] at q ⊢
    exact ⟨F, G, P1, θ1, e1, s1, R1, q⟩
  | false =>
    rw [if_neg Bool.false_ne_true] at q ⊢
    exact ⟨F, G, P1, θ1, e1, s1, R1, q⟩
def seqD' (o : Out) (k : DM Out) (e : En) (s : So) : Res Out := match o with
  | .nx => k e s
  | o => .ok o e s
theorem rds_seq {ma mb : DM Out} (h : RdS T W (fun e s => (ma e s).bind fun o e s => match o with | .nx => mb e s | o => .ok o e s) D σ H) : tSeq (RdS T W ma) (RdS T W mb) D σ H := by
  obtain ⟨F, G, P, θ, env, sto, R, h⟩ := h
  dsimp only at h
  refine ⟨F, G, P, θ, env, sto, R, ?_⟩
  cases hm : ma env sto with
  | bad => rw [hm] at h; exact h
  | er x e s => rw [hm] at h; exact h
  | ok o e s =>
    rw [hm] at h
    cases o with
    | nx =>
      have h : PstS T W F G P θ (mb e s) D := h
      exact fun P' θ' σ' H' a t R' => ⟨F, G, P', θ', e, s, R', h.mono a t⟩
    | bk => exact h
    | ct => exact h
    | rt d => exact h
/-! ### append, item stores -/
theorem rds_app {K : PySem.W.Frag} {m : DM Mx.D} {i : Nat} (h : RdS T W (fun e s => if isOwL e i then (m e s).bind fun d e s => appD i d e s else .bad) D σ H) : tDrop (tBM K "list" rAppend (tVar i) (tCons (RdE T W m) tNil)) D σ H := by
  obtain ⟨F, G, P, θ, env, sto, R, h⟩ := h
  dsimp only at h
  cases hi : isOwL env i with
  | false => rw [hi] at h; exact h.elim
  | true =>
    rw [hi, if_pos rfl] at h
    unfold isOwL at hi
    split at hi
    · rename_i ds0 e0
      obtain ⟨a, o, g1, g2, ⟨vs0, ⟨rfl, _⟩, _⟩, _⟩ := R.slot i _ e0
      refine ⟨_, g1, .inl ⟨rfl, vs0, SqL.of g2⟩, F, G, P, θ, env, sto, R, h.bnd fun d e s P1 θ1 H1 _ _ R1 q v rv => ?_⟩
      unfold appD at q
      split at q
      · rename_i ds e1
        split at q
        · rename_i hz
          obtain ⟨a', o', k1, k2, ⟨vs, ⟨rfl, hz'⟩, k3⟩, k4⟩ := R1.slot i _ e1
          rw [g1] at k1
          cases k1
          have hl : vs.length < sizeLine := by rw [← k3.length]; exact hz
          refine ⟨a, vs, v, rfl, rfl, k2, hl, q.nx (R1.setOw e1 g1 ⟨vs ++ [v], ⟨rfl, ?_⟩, k3.append (RepL.one rv)⟩)⟩
          rw [List.length_append, List.length_singleton]
          exact hl
        · exact q.elim
      · exact q.elim
    · cases hi
theorem rds_put {me mo mi : DM Mx.D} (h : RdS T W (fun e s => (me e s).bind fun d e s => (mo e s).bind fun x e s => (mi e s).bind fun k e s => putD x k d e s) D σ H) : tAsg (RdE T W me) (gSub (RdE T W mo) (RdE T W mi) rSetL) D σ H := by
  obtain ⟨F, G, P, θ, env, sto, R, h⟩ := h
  refine ⟨F, G, P, θ, env, sto, R, h.bnd fun d e s P1 θ1 H1 _ _ R1 q v rv => ?_⟩
  refine ⟨F, G, P1, θ1, e, s, R1, q.bnd fun x e2 s2 P2 θ2 H2 a2 t2 R2 q2 u ru => ?_⟩
  refine ⟨F, G, P2, θ2, e2, s2, R2, q2.bnd fun k e3 s3 P3 θ3 H3 a3 t3 R3 q3 w rw' => ?_⟩
  unfold putD at q3
  split at q3
  · rename_i n k
    split at q3
    · rename_i xs hx
      split at q3
      · rename_i j hj
        have ru := ru.mono a3 t3
        have rv := (rv.mono a2 t2).mono a3 t3
        simp only [Rep] at ru rw'
        obtain ⟨a, ha, rfl⟩ := ru
        subst rw'
        obtain ⟨o, ho, vs, ⟨rfl, hz⟩, h3⟩ := R3.rc.cel n _ a hx ha
        exact ⟨a, vs, k, j, rfl, rfl, ho, by rw [← h3.length]; exact hj, q3.nx (R3.setSto ha hx (fun z => by cases z) ⟨vs.set j v, ⟨rfl, by rw [List.length_set]; exact hz⟩, h3.set j rv⟩)⟩
      · exact q3.elim
    · exact q3.elim
  · exact q3.elim
/-! ### attributes stored, tuples taken apart -/
theorem putFD_len (f : Str) (d : Mx.D) : ∀ fs : List (Str × Mx.D), (putFD f d fs).length ≤ fs.length + 1
  | [] => Nat.le_refl _
  | q :: r => by
    unfold putFD
    split
    · simp
    · have := putFD_len f d r
      simp only [List.length_cons]; omega
theorem putFD_rep {f : Str} {d : Mx.D} {v : V} (rv : Rep T P θ d v) : ∀ {fs : List (Str × Mx.D)} {vs : List V}, RepL T P θ (fs.map (·.2)) vs → ∃ ws, putF f v ((fs.map (·.1)).zip vs) = ((putFD f d fs).map (·.1)).zip ws ∧ RepL T P θ ((putFD f d fs).map (·.2)) ws
  | [], vs, h => by
    simp only [List.map_nil] at h
    rw [RepL] at h
    subst h
    exact ⟨[v], rfl, RepL.one rv⟩
  | (g, y) :: fs, vs, h => by
    simp only [List.map_cons] at h
    rw [RepL] at h
    obtain ⟨w, r, rfl, h2, h3⟩ := h
    unfold putFD
    by_cases e : g = f
    · subst e
      refine ⟨v :: r, ?_, ?_⟩
      · simp [putF]
      · rw [if_pos rfl]
        exact RepL.cons rv h3
    · obtain ⟨ws, i1, i2⟩ := putFD_rep (f := f) rv h3
      refine ⟨w :: ws, ?_, ?_⟩
      · simp only [List.map_cons, List.zip_cons_cons, putF, if_neg e, i1]
      · rw [if_neg e]
        exact RepL.cons h2 i2
theorem rds_sfld {C : Ctx} {p : Pg} {k : Nat} {N : List Str} {sc : Scope} (M : Md C T p k N sc X) {me mo : DM Mx.D} {f : Str} (h : RdS T W (fun e s => (me e s).bind fun d e s => (mo e s).bind fun x e s => sfldD p x f d e s) D σ H) : sFld X.K (RdE T W mo) (RdE T W me) f D σ H := by
  obtain ⟨F, G, P, θ, env, sto, R, h⟩ := h
  refine ⟨F, G, P, θ, env, sto, R, h.bnd fun d e s P1 θ1 H1 _ _ R1 q v rv => ?_⟩
  refine ⟨F, G, P1, θ1, e, s, R1, q.bnd fun x e2 s2 P2 θ2 H2 a2 t2 R2 q2 u ru => ?_⟩
  unfold sfldD at q2
  split at q2
  · rename_i n
    split at q2
    · rename_i c fs hs
      split at q2
      · rename_i kk hk
        split at q2
        · rename_i hz
          rw [Bool.and_eq_true, decide_eq_true_eq] at hz
          have K1 := M.cls c kk (by rw [← M.kl]; exact hk)
          have rv := rv.mono a2 t2
          simp only [Rep] at ru
          obtain ⟨a, ha, rfl⟩ := ru
          obtain ⟨o, ho, dx, vs, ⟨rfl, hl⟩, h3⟩ := R2.rc.cel n _ a hs ha
          obtain ⟨ws, i1, i2⟩ := putFD_rep (f := f) rv h3
          refine ⟨a, T.cad c, dx, _, rfl, ho, by rw [M.K]; exact K1.cls, by rw [M.K]; exact K1.noat f (by simpa using hz.1), ?_, ?_⟩
          · have := h3.length
            rw [List.length_zip, List.length_map]
            omega
          · rw [i1]
            refine q2.nx (R2.setSto ha hs (fun z => by cases z) ⟨dx, ws, ⟨rfl, ?_⟩, i2⟩)
            have := putFD_len f d fs
            omega
        · exact q2.elim
      · exact q2.elim
    · exact q2.elim
  · exact q2.elim
theorem rds_uasg (hK : X.K = T.K) {m : DM Mx.D} {ts : List Nat} (h : RdS T W (fun e s => (m e s).bind fun d e s => (opt (tgD e (.tup ts) d) e s).bind fun e1 _ s => .ok .nx e1 s) D σ H) : tAsg (RdE T W m) (gOf X.K (.tup ts)) D σ H := by
  obtain ⟨F, G, P, θ, env, sto, R, h⟩ := h
  rw [hK]
  refine ⟨F, G, P, θ, env, sto, R, h.bnd fun d e s P1 θ1 H1 _ _ R1 q v rv => ?_⟩
  cases ht : tgD e (.tup ts) d with
  | none => rw [ht] at q; exact q.elim
  | some e1 =>
    rw [ht] at q
    have q : PstS T W F G P1 θ1 (.ok .nx e1 s) D := q
    exact tg_ok R1 rv ht fun σ1 R2 _ _ => q.nx R2
theorem rds_par2 {m : DM (List Mx.D)} {i j : Nat} (h : RdS T W (fun e s => (m e s).bind fun ds e s => if [i, j].length = ds.length then .ok .nx (([i, j].zip ds).foldl (fun e p => e.set p.1 (.sh p.2)) e) s else .bad) D σ H) : tPar i j (RdA T W m) D σ H := by
  obtain ⟨F, G, P, θ, env, sto, R, h⟩ := h
  refine ⟨F, G, P, θ, env, sto, R, h.bnd fun ds e s P1 θ1 H1 _ _ R1 q vs rv => ?_⟩
  split at q
  · rename_i hl
    match ds, hl, rv, q with
    | [d1, d2], _, rv, q =>
      rw [RepL] at rv
      obtain ⟨v1, r1, rfl, k1, rv⟩ := rv
      rw [RepL] at rv
      obtain ⟨v2, r2, rfl, k2, rv⟩ := rv
      rw [RepL] at rv
      subst rv
      exact ⟨v1, v2, rfl, PstS.nx q ((R1.put k1).put k2)⟩
  · exact q.elim
theorem rds_par3 {m : DM (List Mx.D)} {i j l : Nat} (h : RdS T W (fun e s => (m e s).bind fun ds e s => if [i, j, l].length = ds.length then .ok .nx (([i, j, l].zip ds).foldl (fun e p => e.set p.1 (.sh p.2)) e) s else .bad) D σ H) : tPar3 i j l (RdA T W m) D σ H := by
  obtain ⟨F, G, P, θ, env, sto, R, h⟩ := h
  refine ⟨F, G, P, θ, env, sto, R, h.bnd fun ds e s P1 θ1 H1 _ _ R1 q vs rv => ?_⟩
  split at q
  · rename_i hl
    match ds, hl, rv, q with
    | [d1, d2, d3], _, rv, q =>
      rw [RepL] at rv
      obtain ⟨v1, r1, rfl, k1, rv⟩ := rv
      rw [RepL] at rv
      obtain ⟨v2, r2, rfl, k2, rv⟩ := rv
      rw [RepL] at rv
      obtain ⟨v3, r3, rfl, k3, rv⟩ := rv
      rw [RepL] at rv
      subst rv
      exact ⟨v1, v2, v3, rfl, PstS.nx q (((R1.put k1).put k2).put k3)⟩
  · exact q.elim
/-! ### loops -/
theorem rds_for (hK : X.K = T.K) {mI : DM (List Mx.D)} {tg : Tg} {mb : DM Out} (h : RdS T W (fun e s => (mI e s).bind fun ds e s => forGo tg mb ds e s) D σ H) : tFor (RdI T W mI) (gOf X.K tg) (RdS T W mb) D σ H := by
  obtain ⟨F, G, P, θ, env, sto, R, h⟩ := h
  rw [hK]
  refine ⟨F, G, P, θ, env, sto, R, h.bnd fun ds e1 s1 P1 θ1 H1 a0 t0 R1 q J wJ hlen => ?_⟩
  refine for_it wJ (fun i σ' H' => ∃ P' θ' e' s', Ex P1 P' ∧ θ1 <+: θ' ∧ Rel T F G P' θ' e' s' σ' H' ∧ PstS T W F G P' θ' (forGo tg mb (ds.drop i) e' s') D) ⟨P1, θ1, e1, s1, exr P1, pfr θ1, R1, q⟩ (fun i σ' H' hi ⟨P', θ', e', s', a, t, R', _⟩ => a.trans R'.rc.pH) ?_ ?_
  · rintro i x σ' H' H2 hi ⟨P', θ', e', s', a, t, R', hgo⟩ ⟨d, hd, yld⟩
    obtain ⟨P2, a2, R2, rd⟩ := yld F G P' θ' e' s' _ a t R'
    have hdrop : ds.drop i = d :: ds.drop (i + 1) := by
      obtain ⟨hi', e⟩ := List.getElem?_eq_some_iff.mp hd
      rw [List.drop_eq_getElem_cons hi', e]
    rw [hdrop] at hgo
    unfold forGo at hgo
    cases ht : tgD e' tg d with
    | none => rw [ht] at hgo; exact hgo.elim
    | some e3 =>
      rw [ht] at hgo
      refine tg_ok R2 rd ht fun σ1 R3 l1 o1 => ⟨F, G, P2, θ', e3, s', R3, ?_⟩
      have hgo : PstS T W F G P' θ' ((mb e3 s').bind fun o e s => match o with | .nx => forGo tg mb (ds.drop (i + 1)) e s | .ct => forGo tg mb (ds.drop (i + 1)) e s | .bk => .ok .nx e s | .rt d => .ok (.rt d) e s) D := hgo
      have hgo := hgo.mono a2 (pfr θ')
      cases hm : mb e3 s' with
      | bad => rw [hm] at hgo; exact hgo
      | er x e s => rw [hm] at hgo; exact hgo
      | ok o e s =>
        rw [hm] at hgo
        cases o with
        | nx => exact fun P5 θ5 σ5 H5 a5 t5 R5 => ⟨P5, θ5, e, s, (a.trans a2).trans a5, t.trans t5, R5, PstS.mono (r := forGo tg mb (ds.drop (i + 1)) e s) hgo a5 t5⟩
        | ct => exact fun P5 θ5 σ5 H5 a5 t5 R5 => ⟨P5, θ5, e, s, (a.trans a2).trans a5, t.trans t5, R5, PstS.mono (r := forGo tg mb (ds.drop (i + 1)) e s) hgo a5 t5⟩
        | bk => exact hgo
        | rt d => exact hgo
  · rintro σ' H' ⟨P', θ', e', s', a, t, R', hgo⟩
    rw [List.drop_length] at hgo
    have hgo : PstS T W F G P' θ' (.ok .nx e' s') D := hgo
    exact hgo.nx R'
theorem rds_whl {mt : DM Bool} {mb : DM Out} {n : Nat} (h : RdS T W (fun e s => whlGo mt mb n e s) D σ H) : tWhile (RdT T W mt) (RdS T W mb) D σ H := by
  refine ⟨fun m σ' H' => RdS T W (fun e s => whlGo mt mb m e s) D σ' H', ⟨n, h⟩, ?_⟩
  rintro m σ' H' ⟨F, G, P, θ, env, sto, R, h⟩
  cases m with
  | zero => exact h.elim
  | succ m =>
    have h : PstS T W F G P θ ((mt env sto).bind fun k e s => if k then (mb e s).bind fun o e s => match o with
      | .nx => whlGo mt mb m e s
      | .ct => whlGo mt mb m e s
      | .bk => .ok .nx e s
      | .rt d => .ok (.rt d) e s
    else .ok .nx e s) D := h
    refine ⟨F, G, P, θ, env, sto, R, h.bnd fun b e1 s1 P1 θ1 H1 _ _ R1 q => ?_⟩
    cases b with
    | false =>
      rw [if_neg Bool.false_ne_true] at q ⊢
      exact q.nx R1
    | true =>
      rw [if_pos rfl] at q ⊢
      refine ⟨fun σ2 H2 => RdS T W (fun e s => whlGo mt mb m e s) D σ2 H2, fun σ2 H2 w => ⟨m, Nat.lt_succ_self m, w⟩, F, G, P1, θ1, e1, s1, R1, ?_⟩
      cases hm : mb e1 s1 with
      | bad => rw [hm] at q; exact q
      | er x e s => rw [hm] at q; exact q
      | ok o e s =>
        rw [hm] at q
        cases o with
        | nx => exact fun P5 θ5 σ5 H5 a5 t5 R5 => ⟨F, G, P5, θ5, e, s, R5, PstS.mono (r := whlGo mt mb m e s) q a5 t5⟩
        | ct => exact fun P5 θ5 σ5 H5 a5 t5 R5 => ⟨F, G, P5, θ5, e, s, R5, PstS.mono (r := whlGo mt mb m e s) q a5 t5⟩
        | bk => exact q
        | rt d => exact q
end
end Mx

namespace Mx
open PySem L2
open Evl (Ex)

/-! ### comprehensions as statements -/
def swB (sc : Scope) (y : Str) (py : Pos) : Expr → Bool
  | .ListComp _ _ s pos => decide (sc.names.lookup y = some .local) && (py.line == pos.line) && !(s.names.any fun (n, k) => n == y && (k == .local || k == .cell))
  | _ => false
def noComp : Expr → Bool
  | .SetComp .. => false | .DictComp .. => false
  | _ => true
theorem sw_eq {env : Env} (hk : env.scope.kind = .function) {y : Str} {py : Pos} {l : Nat} {v : Expr} (h : noComp v = true) : swapsWith v (some (.Name y py)) l env = pure (swB env.scope y py v) := by
  cases v <;> first | rfl | (cases h; done) | skip
  rename_i elt gs scope pos
  have hb : env.blockKind = .function := by unfold Env.blockKind; rw [hk]; rfl
  unfold swapsWith swB
  simp only [hb, Expr.pos, Env.kindOf]
  have e : (env.scope.names.lookup y == some NameKind.local) = decide (env.scope.names.lookup y = some NameKind.local) := by
    by_cases h : env.scope.names.lookup y = some NameKind.local
    · rw [h]; rfl
    · rw [decide_eq_false h]; exact beq_eq_false_iff_ne.mpr h
  rw [e]
  rfl
/-! ### a, b = x, y -/
def isStar : Expr → Bool
  | .Starred .. => true
  | _ => false
def nmLoc (sc : Scope) (line : Nat) : Expr → Option Str
  | .Name id pos => if sc.names.lookup id == some .local && pos.line == line then some id else none
  | _ => none
/-- whether the stores go from the right; none: not told -/
def swK (sc : Scope) (ts vs : List Expr) : Option (Option (List Str)) :=
  if !(ts.length == 2 || ts.length == 3) || vs.length != ts.length || false then some none
  else if vs.any isStar then some none
  else if (ts.filterMap (nmLoc sc ((ts.head?.map (·.pos.line)).getD 0))).length != ts.length || (ts.filterMap (nmLoc sc ((ts.head?.map (·.pos.line)).getD 0))).eraseDups.length != (ts.filterMap (nmLoc sc ((ts.head?.map (·.pos.line)).getD 0))).length then some none
  else if vs.all (foldedForSure 8) then some none
  else if vs.all (constantsAlone 8) then none
  else some (some (ts.filterMap (nmLoc sc ((ts.head?.map (·.pos.line)).getD 0))))
theorem swK_eq {env : Env} (hk : env.scope.kind = .function) {ts vs : List Expr} {k1 k2 : Nat} {p1 p2 : Pos} {r : Option (List Str)} (h : swK env.scope ts vs = some r) : swappedStores [.Tuple ts k1 p1] (.Tuple vs k2 p2) env = pure r := by
  have hb : env.blockKind = .function := by unfold Env.blockKind; rw [hk]; rfl
  have hb' : (env.blockKind != ScopeKind.function) = false := by rw [hb]; rfl
  have e1 : ∀ f : Expr → Option Str, (∀ x, f x = nmLoc env.scope ((ts.head?.map (·.pos.line)).getD 0) x) → ts.filterMap f = ts.filterMap (nmLoc env.scope ((ts.head?.map (·.pos.line)).getD 0)) := fun f h => by rw [funext h]
  have e2 : ∀ f : Expr → Bool, (∀ x, f x = isStar x) → vs.any f = vs.any isStar := fun f h => by rw [funext h]
  unfold swK at h
  unfold swappedStores
  simp only [pure_bind, hb']
  rw [e2 _ (fun x => by cases x <;> rfl), e1 _ (fun x => by cases x <;> rfl)]
  split at h
  · rename_i c; cases h; rw [if_pos c] <;> try rfl
  · rename_i c
    rw [if_neg c]
    try simp only [pure_bind]
    split at h
    · rename_i c; cases h; rw [if_pos c] <;> try rfl
    · rename_i c
      rw [if_neg c]
      try simp only [pure_bind]
      split at h
      · rename_i c; cases h; rw [if_pos c] <;> try rfl
      · rename_i c
        rw [if_neg c]
        try simp only [pure_bind]
        split at h
        · rename_i c; cases h; rw [if_pos c] <;> try rfl
        · rename_i c
          rw [if_neg c]
          try simp only [pure_bind]
          split at h
          · cases h
          · rename_i c
            cases h
            rw [if_neg c]
            try simp only [pure_bind]
            try rfl
theorem tgo_nil {N : List Str} {lc : Str → Bool} {ts : List Expr} (h : chkTg.go N lc [] ts = true) : ts = [] := by
  cases ts with
  | nil => rfl
  | cons e r => simp [chkTg.go] at h
theorem tgo_cons {N : List Str} {lc : Str → Bool} {i : Nat} {is : List Nat} {ts : List Expr} (h : chkTg.go N lc (i :: is) ts = true) : ∃ x px r, ts = .Name x px :: r ∧ N[i]? = some x ∧ lc x = true ∧ chkTg.go N lc is r = true := by
  cases ts with
  | nil => simp [chkTg.go] at h
  | cons e r =>
    cases e <;> simp only [chkTg.go, Bool.false_eq_true] at h
    simp only [Bool.and_eq_true, decide_eq_true_eq] at h
    exact ⟨_, _, r, rfl, h.1.1, h.1.2, h.2⟩
theorem swK_len {sc : Scope} {ts vs : List Expr} {l : List Str} (h : swK sc ts vs = some (some l)) : vs.length = ts.length := by
  unfold swK at h
  split at h
  · cases h
  · rename_i c
    simp only [Bool.or_false, Bool.or_eq_true, not_or, Bool.not_eq_true, bne_eq_false_iff_eq] at c
    exact c.2
section
variable {C : Ctx} {T : Tb} {p : Pg} {k : Nat} {N : List Str} {sc : Scope} {X : Cx} {W : WX}
structure MdS (C : Ctx) (T : Tb) (p : Pg) (k : Nat) (N : List Str) (sc : Scope) (X : Cx) : Prop extends Md C T p k N sc X where
  fn : ∀ x, X.fn x = true
  own : PassesOwn (model X.prog X.w) X.A X.env X.xe
  fk : sc.kind = .function
theorem locC_of {x : Str} (h : locC sc x = true) : L2.Loc sc x := by
  unfold locC at h
  unfold L2.Loc
  split at h <;> first | exact .inl (by assumption) | exact .inr (by assumption) | cases h
/-- a comprehension as a value, and stored at once -/
theorem lc_both (M : Md C T p k N sc X) (tk : Takes X W) {own : List Nat} {it : IT} {tg : Tg} {ifs : ES} {m : EX} {e : Expr} (h : chkE C N sc (.lc own it tg ifs m) e = true) :
    PE X e (RdF T W (lcD own (denI p it) tg (denTs p ifs) (denE p m))) ∧ ∀ {y : Str} {py spos : Pos} {i : Nat}, N[i]? = some y → sc.names.lookup y = some .local → swapsWith e (some (.Name y py)) spos.line X.env = pure true →
      PS X (.Assign [.Name y py] e spos) (tAsg (RdF T W (lcD own (denI p it) tg (denTs p ifs) (denE p m))) (gName i)) := by
  rw [chkE.eq_def] at h
  simp only at h
  split at h
  · rename_i elt t iter cs as scope pos
    simp only [Bool.and_eq_true, decide_eq_true_eq] at h
    obtain ⟨⟨⟨⟨⟨⟨rfl, h1⟩, h2⟩, h3⟩, h4⟩, h5⟩, h6⟩ := h
    have ok : BlkOk X.N X.env.scope scope (own.map fun i => (N.getD i Str.empty, i)) := by rw [M.eN, M.es]; exact blkOk_by h1
    have e2 : (own.map fun i => (N.getD i Str.empty, i)).map (·.2) = own := by
      rw [List.map_map]
      exact List.map_id' own
    have hl : ∀ (s : Shared) (H : Hp) (A : Addr) (cl : List (Str × Addr)) (fp : List Addr) (x : Str), isLoc (relS scope sc) x = true → Loc (X.blk s H scope (compEnvC scope cl A X.env) fp).env.scope x ∧ ((X.blk s H scope (compEnvC scope cl A X.env) fp).fn x = true ∨ (X.blk s H scope (compEnvC scope cl A X.env) fp).env.scope.names.lookup x = some .local) := by
      intro s H A cl fp x hx
      rw [(M.blk s H scope A cl fp).es]
      unfold isLoc at hx
      split at hx
      · rename_i z; exact ⟨.inl z, .inr z⟩
      · cases hx
    have hsub : ∀ j ∈ tgS tg, j ∈ own := fun j hj => by
      have := List.all_eq_true.mp h2 j hj
      simpa using this
    constructor
    · have := pe_lc (pos := pos) M.calm (by rw [M.eN]; exact M.nd) (soundI it M tk h3) ok (g := gOf X.K tg) (fun s H A cl fp => pg_tg (X := X.blk s H scope (compEnvC scope cl A X.env) fp) (sc := sc) M.calm M.eN M.nd (hl s H A cl fp) h4) (fun s H A cl fp => soundTs ifs (M.blk s H scope A cl fp) takes0 h5) (fun s H A cl fp => soundE m (M.blk s H scope A cl fp) takes0 h6) (setIt (chkI_set h3))
      rw [e2] at this
      exact this.imp fun σ H Q q => rdf_lc M.K hsub q
    · intro y py spos i g1 g2 g3
      have := ps_setLc (pos := pos) (spos := spos) (py := py) M.calm (by rw [M.eN]; exact M.nd) (by rw [M.eN]; exact g1) (by rw [M.es]; exact g2) g3 (soundI it M tk h3) ok (g := gOf X.K tg) (fun s H A cl fp => pg_tg (X := X.blk s H scope (compEnvC scope cl A X.env) fp) (sc := sc) M.calm M.eN M.nd (hl s H A cl fp) h4) (fun s H A cl fp => soundTs ifs (M.blk s H scope A cl fp) takes0 h5) (fun s H A cl fp => soundE m (M.blk s H scope A cl fp) takes0 h6) (setIt (chkI_set h3))
      rw [e2] at this
      exact this.imp fun D σ H q => rdf_lc M.K hsub q
  · cases h
def isNewL : EX → Bool
  | .lst _ => true | .lc .. => true
  | _ => false
def isLc : EX → Bool
  | .lc .. => true
  | _ => false
/-- a new list -/
theorem soundF (M : Md C T p k N sc X) (tk : Takes X W) {ir : EX} {e : Expr} (h : chkE C N sc ir e = true) (hf : isNewL ir = true) : PE X e (RdF T W (denF p ir)) := by
  cases ir <;> try (exact absurd hf Bool.false_ne_true)
  · cases e <;> simp only [chkE, Bool.false_eq_true] at h
    rw [Bool.and_eq_true, decide_eq_true_eq] at h
    refine (pe_lst (soundL _ M tk h.2).pa).imp fun σ H Q q => ?_
    exact rdf_lst (fun e s ds e' s' z => by rw [denES_len z]; exact h.1) q
  · exact (lc_both M tk h).1
end

/-! ### the checker of statements -/
mutual
def chkS (C : Ctx) (N : List Str) (sc : Scope) : ST → Stmt → Bool
  | .asg i a, st => match st with
    | .Assign [.Name x py] v _ => decide (N[i]? = some x) && locC sc x && noComp v && chkE C N sc a v && (!(swB sc x py v) || (isLc a && isLoc sc x))
    | _ => false
  | .asgo i a, st => match st with
    | .Assign [.Name x py] v _ => decide (N[i]? = some x) && locC sc x && noComp v && chkE C N sc a v && isNewL a && (!(swB sc x py v) || (isLc a && isLoc sc x))
    | _ => false
  | .app i a, st => match st with
    | .Expr (.Call (.Attribute (.Name x _) nm apos) [v] [] pos) _ => decide (N[i]? = some x) && vis sc x && okN x && decide (nm = "append") && (apos.endLine == pos.line) && plain v && chkE C N sc a v
    | _ => false
  | .put o i a, st => match st with
    | .Assign [.Subscript ob ix _] v _ => (match ix with | .Slice .. => false | _ => true) && chkE C N sc a v && chkE C N sc o ob && chkE C N sc i ix
    | _ => false
  | .ex a, st => match st with
    | .Expr v _ => (match v with | .ListComp .. => false | _ => true) && noComp v && chkE C N sc a v
    | _ => false
  | .ret a, st => match st with
    | .Return (some v) _ => chkE C N sc a v
    | _ => false
  | .retN, st => match st with
    | .Return none _ => true
    | _ => false
  | .pass, st => match st with
    | .Pass _ => true
    | _ => false
  | .brk, st => match st with
    | .Break _ => true
    | _ => false
  | .cnt, st => match st with
    | .Continue _ => true
    | _ => false
  | .iff t a b, st => match st with
    | .If c x y _ => chkT C N sc t c && chkSS C N sc a x && chkSS C N sc b y
    | _ => false
  | .for_ tg it b, st => match st with
    | .For t iter x [] _ => chkI C N sc it t iter && chkTg N (locC sc) tg t && chkSS C N sc b x
    | _ => false
  | .whl _ t b, st => match st with
    | .While c x [] _ => chkT C N sc t c && chkSS C N sc b x
    | _ => false
  | .sfld o f a, st => match st with
    | .Assign [.Attribute ob nm _] v _ => decide (nm = f) && chkE C N sc a v && chkE C N sc o ob
    | _ => false
  | .tasg is es, st => match st with
    | .Assign [.Tuple ts _ _] (.Tuple vs _ _) _ => chkTg.go N (isLoc sc) is ts && decide is.Nodup && decide (is.length = 2 ∨ is.length = 3) && chkES C N sc es vs && decide (swK sc ts vs = some (some (is.map fun i => N.getD i Str.empty)))
    | _ => false
  | .uasg is a, st => match st with
    | .Assign [.Tuple ts _ _] v _ => chkTg.go N (locC sc) is ts && chkE C N sc a v && (match v with | .Tuple vs _ _ => decide (swK sc ts vs = some none) | _ => true)
    | _ => false
  | .never, _ => true
def chkSS (C : Ctx) (N : List Str) (sc : Scope) : List ST → List Stmt → Bool
  | [], l => l.isEmpty
  | a :: as, l => match l with
    | x :: l => chkS C N sc a x && chkSS C N sc as l
    | [] => false
end
section
variable {C : Ctx} {T : Tb} {p : Pg} {k : Nat} {N : List Str}
theorem asg_ok {sc : Scope} {X : Cx} {W : WX} (M : MdS C T p k N sc X) (tk : Takes X W) {i : Nat} {x : Str} {py pos : Pos} {v : Expr} {te : TE} (h1 : N[i]? = some x) (h2 : locC sc x = true) (h3 : noComp v = true) (h4 : swB sc x py v = false) (he : PE X v te) :
    PS X (.Assign [.Name x py] v pos) (tAsg te (gName i)) :=
  ps_set (by rw [M.eN]; exact M.nd) (by rw [M.eN]; exact h1) (by rw [M.es]; exact locC_of h2) he (by rw [sw_eq (by rw [M.es]; exact M.fk) h3, M.es, h4]) (.inl (M.fn x))
mutual
theorem soundS : ∀ (ir : ST) {sc : Scope} {X : Cx} {W : WX} {st : Stmt}, MdS C T p k N sc X → Takes X W → chkS C N sc ir st = true → PS X st (RdS T W (denS p ir))
  | .asg i a, sc, X, W, st, M, tk, h => by
    rw [chkS.eq_def] at h
    simp only at h
    split at h
    · rename_i x py v pos
      simp only [Bool.and_eq_true, decide_eq_true_eq, Bool.or_eq_true, Bool.not_eq_true'] at h
      obtain ⟨⟨⟨⟨h1, h2⟩, h3⟩, h4⟩, h5⟩ := h
      cases hs : swB sc x py v with
      | false =>
        refine (asg_ok M tk h1 h2 h3 hs (soundE a M.toMd tk h4)).imp fun D σ H q => ?_
        rw [denS] at q
        exact rds_asg q
      | true =>
        rw [hs] at h5
        rcases h5 with h5 | ⟨h5, h6⟩
        · cases h5
        · cases a <;> try (exact absurd h5 Bool.false_ne_true)
          have hx : sc.names.lookup x = some .local := by
            unfold isLoc at h6
            split at h6
            · assumption
            · cases h6
          refine ((lc_both M.toMd tk h4).2 h1 hx (by rw [sw_eq (by rw [M.es]; exact M.fk) h3, M.es, hs])).imp fun D σ H q => ?_
          rw [denS] at q
          have q := rds_asg q
          rw [denE] at q
          exact rdf_of q
    · cases h
  | .asgo i a, sc, X, W, st, M, tk, h => by
    rw [chkS.eq_def] at h
    simp only at h
    split at h
    · rename_i x py v pos
      simp only [Bool.and_eq_true, decide_eq_true_eq, Bool.or_eq_true, Bool.not_eq_true'] at h
      obtain ⟨⟨⟨⟨⟨h1, h2⟩, h3⟩, h4⟩, h7⟩, h5⟩ := h
      cases hs : swB sc x py v with
      | false =>
        refine (asg_ok M tk h1 h2 h3 hs (soundF M.toMd tk h4 h7)).imp fun D σ H q => ?_
        rw [denS] at q
        exact rds_asgo q
      | true =>
        rw [hs] at h5
        rcases h5 with h5 | ⟨h5, h6⟩
        · cases h5
        · cases a <;> try (exact absurd h5 Bool.false_ne_true)
          have hx : sc.names.lookup x = some .local := by
            unfold isLoc at h6
            split at h6
            · assumption
            · cases h6
          refine ((lc_both M.toMd tk h4).2 h1 hx (by rw [sw_eq (by rw [M.es]; exact M.fk) h3, M.es, hs])).imp fun D σ H q => ?_
          rw [denS] at q
          exact rds_asgo q
    · cases h
  | .app i a, sc, X, W, st, M, tk, h => by
    rw [chkS.eq_def] at h
    simp only at h
    split at h
    · simp only [Bool.and_eq_true, decide_eq_true_eq] at h
      obtain ⟨⟨⟨⟨⟨⟨h1, h2⟩, h3⟩, rfl⟩, h5⟩, h6⟩, h7⟩ := h
      obtain ⟨n1, n2, _⟩ := okN_of h3
      refine (ps_expr (pe_bm PySem.F.plainAttrs_list PySem.F.slot_list_append PySem.F.type_list_append mt_append (pe_var (by rw [M.eN]; exact h1) (vis_of M.toMd h2) n1 n2) (pa_cons (soundE a M.toMd tk h7) pa_nil (star_plain h6)) rfl (few_of (by rw [List.all_cons, h6]; rfl) (by show 1 < 20; decide)) h5 (star_plain h6) rfl) rfl).imp fun D σ H q => ?_
      rw [denS] at q
      exact rds_app q
    · cases h
  | .put o i a, sc, X, W, st, M, tk, h => by
    rw [chkS.eq_def] at h
    simp only at h
    split at h
    · rename_i ob ix pos' v pos
      simp only [Bool.and_eq_true] at h
      obtain ⟨⟨⟨h1, h2⟩, h3⟩, h4⟩ := h
      have hsub : PG X (.Subscript ob ix pos') (gSub (RdE T W (denE p o)) (RdE T W (denE p i)) rSetL) := pg_sub (soundE o M.toMd tk h3) (soundE i M.toMd tk h4) set_list (by
        intro v
        cases ix <;> first | rfl | (exact absurd h1 Bool.false_ne_true))
      have hsw : swapsWithSole [.Subscript ob ix pos'] v pos.line X.env = pure false := by
        show swapsWith v (some (.Subscript ob ix pos')) pos.line X.env = pure false
        unfold swapsWith
        cases v <;> rfl
      refine (ps_asg (soundE a M.toMd tk h2) hsub hsw rfl rfl).imp fun D σ H q => ?_
      rw [denS] at q
      exact rds_put q
    · cases h
  | .ex a, sc, X, W, st, M, tk, h => by
    rw [chkS.eq_def] at h
    simp only at h
    split at h
    · rename_i v pos
      simp only [Bool.and_eq_true] at h
      obtain ⟨⟨h0, h1⟩, h2⟩ := h
      have hsw : swapsWith v none pos.line X.env = pure false := by
        unfold swapsWith
        cases v <;> first | rfl | (exact absurd h0 Bool.false_ne_true) | (exact absurd h1 Bool.false_ne_true)
      refine (ps_expr (soundE a M.toMd tk h2) hsw).imp fun D σ H q => ?_
      rw [denS] at q
      exact rds_drop q
    · cases h
  | .ret a, sc, X, W, st, M, tk, h => by
    rw [chkS.eq_def] at h
    simp only at h
    split at h
    · refine (ps_ret (soundE a M.toMd tk h)).imp fun D σ H q => ?_
      rw [denS] at q
      exact rds_ret q
    · cases h
  | .retN, sc, X, W, st, M, tk, h => by
    rw [chkS.eq_def] at h
    simp only at h
    split at h
    · refine ps_retN.imp fun D σ H q => ?_
      rw [denS] at q
      obtain ⟨F, G, P, θ, env, sto, R, q⟩ := q
      exact q P θ σ H (exr P) (pfr θ) R _ (by rw [Rep])
    · cases h
  | .pass, sc, X, W, st, M, tk, h => by
    rw [chkS.eq_def] at h
    simp only at h
    split at h
    · refine ps_pass.imp fun D σ H q => ?_
      rw [denS] at q
      obtain ⟨F, G, P, θ, env, sto, R, q⟩ := q
      exact q P θ σ H (exr P) (pfr θ) R
    · cases h
  | .brk, sc, X, W, st, M, tk, h => by
    rw [chkS.eq_def] at h
    simp only at h
    split at h
    · refine ps_break.imp fun D σ H q => ?_
      rw [denS] at q
      obtain ⟨F, G, P, θ, env, sto, R, q⟩ := q
      exact q P θ σ H (exr P) (pfr θ) R
    · cases h
  | .cnt, sc, X, W, st, M, tk, h => by
    rw [chkS.eq_def] at h
    simp only at h
    split at h
    · refine ps_continue.imp fun D σ H q => ?_
      rw [denS] at q
      obtain ⟨F, G, P, θ, env, sto, R, q⟩ := q
      exact q P θ σ H (exr P) (pfr θ) R
    · cases h
  | .iff t a b, sc, X, W, st, M, tk, h => by
    rw [chkS.eq_def] at h
    simp only at h
    split at h
    · simp only [Bool.and_eq_true] at h
      refine (ps_if (soundT t M.toMd tk h.1.1) (soundSS a M tk h.1.2) (soundSS b M tk h.2)).imp fun D σ H q => ?_
      rw [denS] at q
      exact rds_iff q
    · cases h
  | .for_ tg it b, sc, X, W, st, M, tk, h => by
    rw [chkS.eq_def] at h
    simp only at h
    split at h
    · simp only [Bool.and_eq_true] at h
      refine (ps_for M.own M.calm (soundI it M.toMd tk h.1.1) (pg_tg (sc := sc) M.calm M.eN M.nd (fun x hx => ⟨by rw [M.es]; exact locC_of hx, .inl (M.fn x)⟩) h.1.2) (soundSS b M tk h.2) (setIt (chkI_set h.1.1))).imp fun D σ H q => ?_
      rw [denS] at q
      exact rds_for M.K q
    · cases h
  | .whl n t b, sc, X, W, st, M, tk, h => by
    rw [chkS.eq_def] at h
    simp only at h
    split at h
    · simp only [Bool.and_eq_true] at h
      refine (ps_while M.own (soundT t M.toMd tk h.1) (soundSS b M tk h.2)).imp fun D σ H q => ?_
      rw [denS] at q
      exact rds_whl q
    · cases h
  | .sfld o f a, sc, X, W, st, M, tk, h => by
    rw [chkS.eq_def] at h
    simp only at h
    split at h
    · rename_i ob nm pos' v pos
      simp only [Bool.and_eq_true, decide_eq_true_eq] at h
      obtain ⟨⟨rfl, h1⟩, h2⟩ := h
      have hsw : swapsWith v (some (.Attribute ob nm pos')) pos.line X.env = pure false := by
        unfold swapsWith
        cases v <;> rfl
      refine (ps_fld (soundE o M.toMd tk h2) (soundE a M.toMd tk h1) hsw).imp fun D σ H q => ?_
      rw [denS] at q
      exact rds_sfld M.toMd q
    · cases h
  | .uasg is a, sc, X, W, st, M, tk, h => by
    rw [chkS.eq_def] at h
    simp only at h
    split at h
    · rename_i ts k1 p1 v pos
      simp only [Bool.and_eq_true] at h
      obtain ⟨⟨h1, h2⟩, h3⟩ := h
      have hsw : swapsWithSole [.Tuple ts k1 p1] v pos.line X.env = pure false := by
        show swapsWith v (some (.Tuple ts k1 p1)) pos.line X.env = pure false
        unfold swapsWith
        cases v <;> rfl
      have hst : swappedStores [.Tuple ts k1 p1] v X.env = pure none := by
        cases v <;> first | rfl | skip
        rename_i vs k2 p2
        have h3 := of_decide_eq_true h3
        exact swK_eq (by rw [M.es]; exact M.fk) (by rw [M.es]; exact h3)
      have hg := pg_tg (X := X) (sc := sc) (tg := .tup is) (e := .Tuple ts k1 p1) M.calm M.eN M.nd (lc := locC sc) (fun x hx => ⟨by rw [M.es]; exact locC_of hx, .inl (M.fn x)⟩) h1
      refine (ps_asg (soundE a M.toMd tk h2) hg hsw hst rfl).imp fun D σ H q => ?_
      rw [denS] at q
      exact rds_uasg M.K q
    · cases h
  | .tasg is es, sc, X, W, st, M, tk, h => by
    rw [chkS.eq_def] at h
    simp only at h
    split at h
    · rename_i ts k1 p1 vs k2 p2 pos
      simp only [Bool.and_eq_true, decide_eq_true_eq] at h
      obtain ⟨⟨⟨⟨h1, h2⟩, h3⟩, h4⟩, h5⟩ := h
      have hsw : swapsWithSole [.Tuple ts k1 p1] (.Tuple vs k2 p2) pos.line X.env = pure false := rfl
      have hst := swK_eq (env := X.env) (k1 := k1) (k2 := k2) (p1 := p1) (p2 := p2) (by rw [M.es]; exact M.fk) (by rw [M.es]; exact h5)
      have hv := chkES_len h4
      have nmO : ∀ {i : Nat} {x : Str}, N[i]? = some x → N.getD i Str.empty = x := fun {i x} e => by rw [List.getD_eq_getElem?_getD, e]; rfl
      have loc : ∀ {x : Str}, isLoc sc x = true → X.env.scope.names.lookup x = some .local := fun {x} hx => by
        rw [M.es]
        unfold isLoc at hx
        split at hx
        · assumption
        · cases hx
      have hN : X.N.Nodup := by rw [M.eN]; exact M.nd
      have hsl := swK_len h5
      match is, h1, h2, h3, h5, hst with
      | [i, j], h1, h2, _, h5, hst =>
          obtain ⟨x, px, r1, rfl, a1, a2, h1⟩ := tgo_cons h1
          obtain ⟨y, py, r2, rfl, b1, b2, h1⟩ := tgo_cons h1
          cases tgo_nil h1
          match vs, hsl with
          | [v1, v2], _ =>
            simp only [List.map_cons, List.map_nil, nmO a1, nmO b1] at hst
            refine (ps_par M.calm hN (by rw [M.eN]; exact a1) (by rw [M.eN]; exact b1) (by simpa using h2) (loc a2) (loc b2) (soundL es M.toMd tk h4).pa hst hsw).imp fun D σ H q => ?_
            rw [denS] at q
            exact rds_par2 q
      | [i, j, l], h1, h2, _, h5, hst =>
          obtain ⟨x, px, r1, rfl, a1, a2, h1⟩ := tgo_cons h1
          obtain ⟨y, py, r2, rfl, b1, b2, h1⟩ := tgo_cons h1
          obtain ⟨z, pz, r3, rfl, c1, c2, h1⟩ := tgo_cons h1
          cases tgo_nil h1
          match vs, hsl with
          | [v1, v2, v3], _ =>
            simp only [List.map_cons, List.map_nil, nmO a1, nmO b1, nmO c1] at hst
            have h2' : (i ≠ j ∧ i ≠ l) ∧ j ≠ l := by simpa using h2
            refine (ps_par3 M.calm hN (by rw [M.eN]; exact a1) (by rw [M.eN]; exact b1) (by rw [M.eN]; exact c1) h2'.1.1 h2'.1.2 h2'.2 (loc a2) (loc b2) (loc c2) (soundL es M.toMd tk h4).pa hst hsw).imp fun D σ H q => ?_
            rw [denS] at q
            exact rds_par3 q
      | [], _, _, h3, _, _ => exact absurd h3 (by simp)
      | [_], _, _, h3, _, _ => exact absurd h3 (by simp)
      | _ :: _ :: _ :: _ :: _, _, _, h3, _, _ => exact absurd h3 (by simp)
    · cases h
  | .never, sc, X, W, st, M, tk, h => by
    refine ps_never.imp fun D σ H q => ?_
    rw [denS] at q
    obtain ⟨F, G, P, θ, env, sto, R, q⟩ := q
    exact q
theorem soundSS : ∀ (l : List ST) {sc : Scope} {X : Cx} {W : WX} {st : List Stmt}, MdS C T p k N sc X → Takes X W → chkSS C N sc l st = true → PSs X st (RdS T W (denSS p l))
  | [], sc, X, W, st, M, tk, h => by
    rw [chkSS.eq_def] at h
    cases st with
    | cons _ _ => cases h
    | nil =>
      refine pss_nil.imp fun D σ H q => ?_
      rw [denSS] at q
      obtain ⟨F, G, P, θ, env, sto, R, q⟩ := q
      exact q P θ σ H (exr P) (pfr θ) R
  | a :: as, sc, X, W, st, M, tk, h => by
    rw [chkSS.eq_def] at h
    cases st with
    | nil => cases h
    | cons x l =>
      simp only [Bool.and_eq_true] at h
      refine (pss_cons (soundS a M tk h.1) (soundSS as M tk h.2)).imp fun D σ H q => ?_
      rw [denSS] at q
      exact rds_seq q
end
end
end Mx

namespace Mx
open PySem L2
open Evl (Ex)

def fnScC (N ps : List Str) (sc : Scope) : Bool := decide (sc.kind = .function) && !sc.isCoroutine && !sc.isGenerator && decide N.Nodup && decide (N.take ps.length = ps) && ps.all (locC sc) && sc.names.all (fun y => decide (y.2 ≠ .free))
theorem fnSc_of {N ps : List Str} {sc : Scope} (h : fnScC N ps sc = true) : FnScope N ps sc := by
  unfold fnScC at h
  simp only [Bool.and_eq_true, decide_eq_true_eq, Bool.not_eq_true', List.all_eq_true] at h
  obtain ⟨⟨⟨⟨⟨⟨h1, h2⟩, h3⟩, h4⟩, h5⟩, h6⟩, h7⟩ := h
  exact ⟨h1, h2, h3, h4, h5, fun x hx => locC_of (h6 x hx), fun y hy => h7 y hy⟩

section
variable {C : Ctx} {T : Tb} {p : Pg} {k : Nat}
theorem start_rel {F G P : Hp} {θ : List Addr} {sto : So} {H : Hp} {ds : List D} {vs : List V} {N : List Str} (R : RC T F G P θ sto H) (r : RepL T P θ ds vs) : Rel T F G P θ (ds.map Sl.sh ++ List.replicate (N.length - ds.length) .un) sto (start N vs) H := by
  have hl := r.length
  have no : ∀ {i : Nat} {c : Cl}, (ds.map Sl.sh ++ List.replicate (N.length - ds.length) .un)[i]? = some (.ow c) → False := fun {i c} e => by
    by_cases hi : i < ds.length
    · rw [List.getElem?_append_left (by rw [List.length_map]; exact hi), List.getElem?_map] at e
      obtain ⟨d, _, z⟩ := map_some e
      cases z
    · rw [List.getElem?_append_right (by rw [List.length_map]; omega), List.getElem?_replicate] at e
      split at e <;> cases e
  refine ⟨R, ?_, fun i s e => ?_, fun i j c d x hij e1 e2 e3 => (no e1).elim⟩
  · unfold L2.start
    rw [List.length_append, List.length_append, List.length_map, List.length_map, List.length_replicate, List.length_replicate, hl]
  · by_cases hi : i < ds.length
    · rw [List.getElem?_append_left (by rw [List.length_map]; exact hi), List.getElem?_map] at e
      obtain ⟨d, e1, rfl⟩ := map_some e
      obtain ⟨v, e2, rv⟩ := r.get e1
      refine ⟨v, ?_, rv⟩
      unfold L2.start
      rw [List.getElem?_append_left (by rw [List.length_map, ← hl]; exact hi), List.getElem?_map, e2]; rfl
    · rw [List.getElem?_append_right (by rw [List.length_map]; omega), List.getElem?_replicate] at e
      split at e
      · cases e; trivial
      · cases e
theorem spOf_len {g : List D → So → Rc} {n : Nat} {vs : List V} {H : Hp} {Q : VK} {E : XK} (h : spOf T g n vs H Q E) : vs.length = n := by
  obtain ⟨F, G, P, θ, sto, ds, R, r, hl, _⟩ := h
  rw [← r.length, hl]
/-- what the written part says of a program -/
structure PrF (C : Ctx) (T : Tb) (g : Gn) (w : World) (mg : Str → Option Value) : Prop where
  glo : ∀ (i : Nat) (x : Str) (d : D), C.gl[i]? = some (x, d) → g.glo i = d ∧ ∃ u v, mg x = some u ∧ RelV v u ∧ ∀ P θ, Rep T P θ d v
  blt : ∀ x ∈ C.bl, mg x = none
  gd : g.gd = C.gd
  gds : ∀ (i : Nat) (x : Str) (t : List (List Nat × D)), C.gd[i]? = some (x, t) → ∃ a, mg x = some (.ref a) ∧ ∀ z d, t.lookup z = some d → ∃ v, KDct T.K w a ⟨z.toArray⟩ v ∧ ∀ P θ, Rep T P θ d v
  kl : g.kl = C.kl
  cls : ∀ (c : Nat) (q : Kl), C.kl[c]? = some q → ClF T mg c q
  cap : ∀ (c c' : Nat) (q q' : Kl), C.kl[c]? = some q → C.kl[c']? = some q' → PySem.W.kitOne T.K (.ref (T.cad c')) (.ref (T.cad c)) = some (c' == c)
  fns : ∀ (i : Nat) (f : Fn), C.fs[i]? = some f → (f.top = true → mg f.name = some (.ref (T.adr i))) ∧ (∃ qual params body scope dvs kws, FunD T.K f.name qual params body scope dvs kws (T.adr i) (T.fdt i) ∧ FnScope f.N f.ps scope ∧ chkSS C f.N scope f.body body = true) ∧
    ∀ sh ∈ f.shapes, BindG T (T.fdt i) f.ps sh.1 sh.2.1 sh.2.2 ∧ sh.2.2.length = f.ps.length
theorem fn_sound {g : Gn} {cl cl1 : Nat → List D → So → Rc} {Pr : Program} {w : World} {mg : Str → Option Value} {base : Heap} {f : Fn} {a : Addr} {fd : FuncData} {qual : Str} {params : Arguments} {body : List Stmt} {scope : Scope} {dvs : List V} {kws : List (Str × V)} (Y : PrF C T g w mg)
    (Fu : FunD T.K f.name qual params body scope dvs kws a fd) (S : FnScope f.N f.ps scope) (hc : chkSS C f.N scope f.body body = true)
    (fns : ∀ (i : Nat) (f : Fn), C.fs[i]? = some f → FnOk Pr w T.K mg base (L2.CX Pr w) k (T.adr i) (T.fdt i) f.ps (spOf T (cl i) f.ps.length))
    (fns1 : (k = 0 ∧ ∀ i ds s, cl1 i ds s = .bad) ∨ ∃ j, k = j + 1 ∧ ∀ (i : Nat) (f : Fn), C.fs[i]? = some f → FnOk Pr w T.K mg base (L2.CX Pr w) j (T.adr i) (T.fdt i) f.ps (spOf T (cl1 i) f.ps.length)) :
    FnOk Pr w T.K mg base (L2.CX Pr w) (k + 1) a fd f.ps (spOf T (fnD ⟨g, cl, cl1⟩ f) f.ps.length) := by
  refine Fu.ok S (fun vs H Q E h => spOf_len h) (fun cdv A outer s H vs Q E hr h => ⟨RdS T (fun cls d _ H => E cls d H) (denSS ⟨g, cl, cl1⟩ f.body), ?_, ?_⟩)
  · refine soundSS f.body (C := C) (N := f.N) (sc := scope) (k := k) ⟨⟨rfl, rfl, hr, S.nd, rfl, rfl, Y.glo, Y.blt, fun i f e => ?_, fns1, Y.kl, Y.gd, Y.gds, Y.cls, Y.cap⟩, fun _ => rfl, passes_of rfl, S.kind⟩ (takes_of rfl rfl rfl rfl) hc
    obtain ⟨h1, ⟨_, _, _, _, _, _, h2, _, _⟩, h3⟩ := Y.fns i f e
    exact ⟨h1, h2.kp, fns i f e, h3⟩
  · obtain ⟨F, G, P, θ, sto, ds, R, r, hl, hm⟩ := h
    refine ⟨F, G, P, θ, _, sto, start_rel R r, ?_⟩
    unfold fnD at hm
    rw [if_pos hl] at hm
    cases hd : denSS ⟨g, cl, cl1⟩ f.body (ds.map Sl.sh ++ List.replicate (f.N.length - ds.length) .un) sto with
    | bad => rw [hd] at hm; exact hm
    | er x e s => rw [hd] at hm; exact fun cls dx P' θ' σ' H' a t R' xr => hm cls dx P' θ' H' a t R'.rc xr
    | ok o e s =>
      rw [hd] at hm
      cases o with
      | nx => exact fun P' θ' σ' H' a t R' => hm .non P' θ' H' a t R'.rc (by rw [Rep])
      | rt d => exact fun P' θ' σ' H' a t R' v rv => hm v P' θ' H' a t R'.rc rv
      | bk => exact hm.elim
      | ct => exact hm.elim
theorem fnok_bad {Pr : Program} {w : World} {mg : Str → Option Value} {base : Heap} {g : List D → So → Rc} {n k : Nat} {a : Addr} {fd : FuncData} {ps : List Str} (hn : ps.length = n) (hb : ∀ ds s, g ds s = .bad) : FnOk Pr w T.K mg base (L2.CX Pr w) k a fd ps (spOf T g n) :=
  ⟨fun vs H Q E h => by rw [hn]; exact spOf_len h, fun A outer s H args us vs Q E hr he hb' hv h => by
      obtain ⟨F, G, P, θ, sto, ds, R, r, hl, hm⟩ := h
      rw [hb] at hm
      exact hm.elim⟩
/-- all defs of a program, k deep -/
theorem prog_sound {g : Gn} {Pr : Program} {w : World} {mg : Str → Option Value} {base : Heap} (Y : PrF C T g w mg) :
    ∀ (k i : Nat) (f : Fn), C.fs[i]? = some f → FnOk Pr w T.K mg base (L2.CX Pr w) k (T.adr i) (T.fdt i) f.ps (spOf T (clN C.fs g k i) f.ps.length)
  | 0, i, f, e => fnok_bad rfl fun _ _ => rfl
  | 1, i, f, e => by
    obtain ⟨_, ⟨qual, params, body, scope, dvs, kws, h2, h3, h4⟩, _⟩ := Y.fns i f e
    have := fn_sound (Pr := Pr) (base := base) (k := 0) (cl := fun _ _ _ => .bad) (cl1 := fun _ _ _ => .bad) Y h2 h3 h4 (fun j f ej => fnok_bad rfl fun _ _ => rfl) (.inl ⟨rfl, fun _ _ _ => rfl⟩)
    refine this.imp fun vs H Q E h => ?_
    obtain ⟨F, G, P, θ, sto, ds, R, r, hl, hm⟩ := h
    refine ⟨F, G, P, θ, sto, ds, R, r, hl, ?_⟩
    have e2 : clN C.fs g 1 i ds sto = fnD ⟨g, fun _ _ _ => .bad, fun _ _ _ => .bad⟩ f ds sto := by
      show (match C.fs[i]? with | some fn => fnD ⟨g, fun _ _ _ => .bad, fun _ _ _ => .bad⟩ fn ds sto | none => .bad) = _
      rw [e]
    rw [e2] at hm
    exact hm
  | k + 2, i, f, e => by
    obtain ⟨_, ⟨qual, params, body, scope, dvs, kws, h2, h3, h4⟩, _⟩ := Y.fns i f e
    have := fn_sound (Pr := Pr) (base := base) (k := k + 1) (cl := clN C.fs g (k + 1)) (cl1 := clN C.fs g k) Y h2 h3 h4 (fun j f ej => prog_sound Y (k + 1) j f ej) (.inr ⟨k, rfl, fun j f ej => prog_sound Y k j f ej⟩)
    refine this.imp fun vs H Q E h => ?_
    obtain ⟨F, G, P, θ, sto, ds, R, r, hl, hm⟩ := h
    refine ⟨F, G, P, θ, sto, ds, R, r, hl, ?_⟩
    have e2 : clN C.fs g (k + 2) i ds sto = fnD ⟨g, clN C.fs g (k + 1), clN C.fs g k⟩ f ds sto := by
      show (match C.fs[i]? with | some fn => fnD ⟨g, clN C.fs g (k + 1), clN C.fs g k⟩ fn ds sto | none => .bad) = _
      rw [e]
    rw [e2] at hm
    exact hm
/-- the law's promise -/
theorem law_sp {K : PySem.W.Frag} {g : List D → So → Rc} (hK : K = T.K) {H : Hp} {a : Addr} {ns : List Int} (hl : ns.length ≤ 63) (hS : SqL K H a (ns.map V.int)) {s' : So} (h : g [.scr ns] [] = .ok (.bl true) s') : spOf T g 1 [.ref a] H (fun v _ => v = .bl true) fun _ _ _ => False := by
  refine ⟨fun _ => none, fun _ => none, H, [], [], [.scr ns], ⟨exr H, fun _ _ z => (by cases z), fun _ _ z => (by cases z), fun _ _ _ => ⟨rfl, rfl⟩, fun _ _ z => (by cases z), rfl, fun n c a z => by simp at z, fun a z => by simp at z, fun n a c z => by simp at z, List.nodup_nil⟩, RepL.one ?_, rfl, ?_⟩
  · rw [Rep]
    exact ⟨a, rfl, by rw [← hK]; exact hS, Nat.le_trans hl (by decide)⟩
  · rw [h]
    intro v P' θ' H' _ _ _ rv
    simpa only [Rep] using rv
theorem noX {Pr : Program} {w : World} (H : Hp) (s : Shared) (e : Value) (s' : Shared) (h : L2.CX Pr w [] H s (fun _ _ _ => False) e s') : False := by
  obtain ⟨_, _, _, _, _, _, _, _, _, _, _, _, z⟩ := h
  exact z.elim
end
end Mx

namespace Mx
open PySem L2
open Evl (Ex)
/-! ### binding, by places -/
def bdV (us : List Value) : List Bd → Option (List Value)
  | [] => some []
  | .arg n :: r => (us[n]?).bind fun d => (bdV us r).map (d :: ·)
  | .dft _ :: _ => none
theorem bdV_rep {T : Tb} {P : Hp} {θ : List Addr} {ds : List D} {vs : List V} {us : List Value} (r : RepL T P θ ds vs) (rv : Vals vs us) : ∀ {bd : List Bd} {as : List D} {bs : List Value}, bdD ds bd = some as → bdV us bd = some bs → ∃ vas, RepL T P θ as vas ∧ Vals vas bs
  | [], as, bs, h1, h2 => by cases h1; cases h2; exact ⟨[], RepL.nil, .nil⟩
  | .dft _ :: _, _, _, _, h2 => by cases h2
  | .arg n :: bd, as, bs, h1, h2 => by
    simp only [bdD] at h1
    simp only [bdV] at h2
    cases e1 : ds[n]? with
    | none => rw [e1] at h1; cases h1
    | some d =>
      rw [e1] at h1
      obtain ⟨as', h3, rfl⟩ := map_some (show (bdD ds bd).map (d :: ·) = some as from h1)
      obtain ⟨v, e2, rd⟩ := r.get e1
      obtain ⟨u, e3, ru⟩ := rv.get e2
      rw [e3] at h2
      obtain ⟨bs', h4, rfl⟩ := map_some (show (bdV us bd).map (u :: ·) = some bs from h2)
      obtain ⟨vas, i1, i2⟩ := bdV_rep r rv h3 h4
      exact ⟨v :: vas, RepL.cons rd i1, .cons ru i2⟩
theorem bindG_of {T : Tb} {K : PySem.W.Frag} {x qual : Str} {params : Arguments} {body : List Stmt} {scope : Scope} {kws : List (Str × V)} {a : Addr} {fd : FuncData} {ps ks : List Str} {n : Nat} {bd : List Bd} (F : FunD K x qual params body scope [] kws a fd)
    (h : ∀ (kV doc pm : Value) (an : Option Addr) (cdv ct : Value) (us ws : List Value), us.length = n → ws.length = ks.length → ∃ bs, bdV (us ++ ws) bd = some bs ∧ bindArgs (PySem.W.fnOf x qual params body scope .none kV doc pm an cdv ct) ⟨us, ks.zip ws⟩ = pure (ps.zip bs)) : BindG T fd ps n ks bd := by
  obtain ⟨oc, od, dV, kV, doc, pm, an, cdv, ct, osl, rfl, lk, hcd, hD, hK⟩ := F.ex
  rcases hD with ⟨_, rfl⟩ | ⟨e, _⟩
  · intro s us ws _ h1 h2
    obtain ⟨bs, e1, e2⟩ := h kV doc pm an cdv ct us ws h1 h2
    exact ⟨bs, .of_eq e2, fun P θ ds as vs r rv e => bdV_rep r rv e e1⟩
  · exact absurd rfl e
/-! ### binding with defaults -/
/-- where a parameter's value comes from: a positional value, a default, a keyword-only default, a keyword -/
inductive Src where
  | p (i : Nat) | d (i : Nat) | m (i : Nat) | k (i : Nat)
def Src.get {α : Type} (us its mv ws : List α) : Src → Option α
  | .p i => us[i]?
  | .d i => its[i]?
  | .m i => mv[i]?
  | .k i => ws[i]?
def gS (src : List Src) {α : Type} (us its mv ws : List α) : List α := src.filterMap (Src.get us its mv ws)
theorem gS_rel {vs ds mz zs : List V} {us its mv ws : List Value} (h1 : Vals vs us) (h2 : Vals ds its) (h3 : Vals mz mv) (h4 : Vals zs ws) : ∀ src : List Src, Vals (gS src vs ds mz zs) (gS src us its mv ws)
  | [] => .nil
  | x :: src => by
    have ih := gS_rel h1 h2 h3 h4 src
    unfold gS at ih ⊢
    have one : ∀ {l : List V} {u : List Value} (i : Nat), Vals l u → (∃ v w, l[i]? = some v ∧ u[i]? = some w ∧ RelV v w) ∨ (l[i]? = none ∧ u[i]? = none) := fun {l u} i r => by
      cases e : l[i]? with
      | none => exact .inr ⟨rfl, r.none_of e⟩
      | some v =>
        obtain ⟨w, e2, e3⟩ := r.get e
        exact .inl ⟨v, w, rfl, e2, e3⟩
    have go : (∃ v w, Src.get vs ds mz zs x = some v ∧ Src.get us its mv ws x = some w ∧ RelV v w) ∨ (Src.get vs ds mz zs x = none ∧ Src.get us its mv ws x = none) := by
      cases x with
      | p i => exact one i h1
      | d i => exact one i h2
      | m i => exact one i h3
      | k i => exact one i h4
    rcases go with ⟨v, w, e1, e2, e3⟩ | ⟨e1, e2⟩
    · rw [List.filterMap_cons, List.filterMap_cons, e1, e2]
      exact .cons e3 ih
    · rw [List.filterMap_cons, List.filterMap_cons, e1, e2]
      exact ih
inductive SrcOk (T : Tb) (dvs ms : List V) (n : Nat) : List Src → List Bd → Prop where
  | nil : SrcOk T dvs ms n [] []
  | p {i : Nat} {src : List Src} {bd : List Bd} (h : i < n) (r : SrcOk T dvs ms n src bd) : SrcOk T dvs ms n (.p i :: src) (.arg i :: bd)
  | k {i j : Nat} {src : List Src} {bd : List Bd} (h : j = n + i) (r : SrcOk T dvs ms n src bd) : SrcOk T dvs ms n (.k i :: src) (.arg j :: bd)
  | d {i : Nat} {d : D} {v : V} {src : List Src} {bd : List Bd} (h : dvs[i]? = some v) (h2 : ∀ P θ, Rep T P θ d v) (r : SrcOk T dvs ms n src bd) : SrcOk T dvs ms n (.d i :: src) (.dft d :: bd)
  | m {i : Nat} {d : D} {v : V} {src : List Src} {bd : List Bd} (h : ms[i]? = some v) (h2 : ∀ P θ, Rep T P θ d v) (r : SrcOk T dvs ms n src bd) : SrcOk T dvs ms n (.m i :: src) (.dft d :: bd)
theorem srcOk_rep {T : Tb} {dvs ms : List V} {n : Nat} {src : List Src} {bd : List Bd} (h : SrcOk T dvs ms n src bd) {P : Hp} {θ : List Addr} {ds : List D} {vs zs : List V} (r : RepL T P θ ds (vs ++ zs)) (hn : vs.length = n) : ∀ {as : List D}, bdD ds bd = some as → RepL T P θ as (gS src vs dvs ms zs) := by
  induction h with
  | nil =>
    intro as e
    cases e
    exact RepL.nil
  | p h r' ih =>
    intro as e
    rename_i i src bd
    simp only [bdD] at e
    cases e1 : ds[i]? with
    | none => rw [e1] at e; cases e
    | some d =>
      rw [e1] at e
      obtain ⟨as', e2, rfl⟩ := map_some (show (bdD ds bd).map (d :: ·) = some as from e)
      obtain ⟨v, e3, rd⟩ := r.get e1
      rw [List.getElem?_append_left (by omega)] at e3
      unfold gS
      rw [List.filterMap_cons]
      simp only [Src.get, e3]
      exact RepL.cons rd (ih e2)
  | k h r' ih =>
    intro as e
    rename_i i j src bd
    simp only [bdD] at e
    cases e1 : ds[j]? with
    | none => rw [e1] at e; cases e
    | some d =>
      rw [e1] at e
      obtain ⟨as', e2, rfl⟩ := map_some (show (bdD ds bd).map (d :: ·) = some as from e)
      obtain ⟨v, e3, rd⟩ := r.get e1
      rw [List.getElem?_append_right (by omega), show j - vs.length = i by omega] at e3
      unfold gS
      rw [List.filterMap_cons]
      simp only [Src.get, e3]
      exact RepL.cons rd (ih e2)
  | d h h2 r' ih =>
    intro as e
    rename_i i d v src bd
    obtain ⟨as', e2, rfl⟩ := map_some (show (bdD ds bd).map (d :: ·) = some as from e)
    unfold gS
    rw [List.filterMap_cons]
    simp only [Src.get, h]
    exact RepL.cons (h2 P θ) (ih e2)
  | m h h2 r' ih =>
    intro as e
    rename_i i d v src bd
    obtain ⟨as', e2, rfl⟩ := map_some (show (bdD ds bd).map (d :: ·) = some as from e)
    unfold gS
    rw [List.filterMap_cons]
    simp only [Src.get, h]
    exact RepL.cons (h2 P θ) (ih e2)
theorem vals_split : ∀ {us ws : List Value} {vs : List V}, Vals vs (us ++ ws) → ∃ v1 v2, vs = v1 ++ v2 ∧ Vals v1 us ∧ Vals v2 ws
  | [], ws, vs, h => ⟨[], vs, rfl, .nil, h⟩
  | u :: us, ws, vs, h => by
    cases h with
    | cons a b =>
      obtain ⟨v1, v2, rfl, h1, h2⟩ := vals_split b
      exact ⟨_ :: v1, v2, rfl, .cons a h1, h2⟩
theorem bindG_kb {T : Tb} {fd : FuncData} {ps ks : List Str} {n : Nat} {dvs ms : List V} {src : List Src} {bd : List Bd} {g : List Value → List Value → List Value} (B : KBn T.K fd ps n ks g (fun vs zs => gS src vs dvs ms zs)) (ok : SrcOk T dvs ms n src bd) : BindG T fd ps n ks bd := by
  intro s us ws X l1 l2
  refine ⟨g us ws, B.to s us ws X l1 l2, fun P θ ds as vs r rv e => ?_⟩
  obtain ⟨v1, v2, rfl, h1, h2⟩ := vals_split rv
  exact ⟨_, srcOk_rep ok r (by rw [h1.length, l1]) e, B.rel h1 h2⟩
section
variable {T : Tb} {x qual : Str} {params : Arguments} {body : List Stmt} {scope : Scope} {dvs : List V} {kws : List (Str × V)} {f : Addr} {fd : FuncData} {ps ks : List Str} {n : Nat} {bd : List Bd}
/-- defaults and keyword-only defaults -/
theorem bindG_dk (F : FunD T.K x qual params body scope dvs kws f fd) (ms : List (Str × V)) (src : List Src) (hd : dvs ≠ []) (hk : kws ≠ []) (hms : ∀ q ∈ ms, q ∈ kws) (ok : SrcOk T dvs (ms.map (·.2)) n src bd)
    (h : ∀ (T D : Addr) (doc pm : Value) (an : Option Addr) (cdv ct : Value) (us its mv ws : List Value), us.length = n → its.length = dvs.length → mv.length = ms.length → ws.length = ks.length →
      ∃ k, bindArgs (PySem.W.fnOf x qual params body scope (.ref T) (.ref D) doc pm an cdv ct) ⟨us, ks.zip ws⟩ = seqItems? (.ref T) >>= k ∧ KwChain D ((ms.map (·.1)).zip mv) (k (some its.toArray)) (ps.zip (gS src us its mv ws))) : BindG T fd ps n ks bd := by
  obtain ⟨its, mv, B⟩ := F.kbinds n ks ms (fun us its mv ws => gS src us its mv ws) hd hk hms (fun a b c d => gS_rel a b c d src) h
  exact bindG_kb B ok
/-- defaults alone -/
theorem bindG_d (F : FunD T.K x qual params body scope dvs kws f fd) (src : List Src) (hd : dvs ≠ []) (ok : SrcOk T dvs [] n src bd)
    (h : ∀ (T : Addr) (kV doc pm : Value) (an : Option Addr) (cdv ct : Value) (us its ws : List Value), us.length = n → its.length = dvs.length → ws.length = ks.length →
      ∃ k, bindArgs (PySem.W.fnOf x qual params body scope (.ref T) kV doc pm an cdv ct) ⟨us, ks.zip ws⟩ = seqItems? (.ref T) >>= k ∧ k (some its.toArray) = pure (ps.zip (gS src us its [] ws))) : BindG T fd ps n ks bd := by
  obtain ⟨its, B⟩ := F.kbindsD n ks (fun us its ws => gS src us its [] ws) hd (fun a b d => gS_rel a b .nil d src) h
  exact bindG_kb (dvs := dvs) (ms := []) (src := src) B ok
/-- keyword-only defaults alone -/
theorem bindG_k (F : FunD T.K x qual params body scope [] kws f fd) (ms : List (Str × V)) (src : List Src) (hk : kws ≠ []) (hms : ∀ q ∈ ms, q ∈ kws) (ok : SrcOk T [] (ms.map (·.2)) n src bd)
    (h : ∀ (D : Addr) (doc pm : Value) (an : Option Addr) (cdv ct : Value) (us mv ws : List Value), us.length = n → mv.length = ms.length → ws.length = ks.length →
      KwChain D ((ms.map (·.1)).zip mv) (bindArgs (PySem.W.fnOf x qual params body scope .none (.ref D) doc pm an cdv ct) ⟨us, ks.zip ws⟩) (ps.zip (gS src us [] mv ws))) : BindG T fd ps n ks bd := by
  obtain ⟨mv, B⟩ := F.kbinds0 n ks ms (fun us mv ws => gS src us [] mv ws) hk hms (fun a c d => gS_rel a .nil c d src) h
  exact bindG_kb (dvs := []) (ms := ms.map (·.2)) (src := src) B ok
end
theorem rep_str {T : Tb} {s : List Nat} {z : Str} (h : decide (z.cps.toList = s) = true) (hl : s.length ≤ 16777216) (P : Hp) (θ : List Addr) : Rep T P θ (.str s) (.str z) := by
  rw [Rep]
  have h := of_decide_eq_true h
  subst h
  exact ⟨by simp, hl⟩
/-- the end's bridge, the exception's reading told by the world -/
theorem walk_ofW {l : PySem.W.OpenLaw} {n k : Nat} {q : Program} {loose : List Str} {XP : (Str → Option Value) → Heap → Prop} {YP : World → Heap → Prop} {d : DefRec} {x : Str}
    (hn : l.most = some n) (hn2 : n ≤ sizeLine) (hdf : d.params.defaults = []) (hr : Room k callerA)
    (F : ∀ (w : World) (mg : Str → Option Value) (fa : Addr) (h : Heap), YP w h → h.Ns mainGlobals mg → mg d.name = some (.ref fa) →
      ∃ (K : PySem.W.Frag) (fd : FuncData) (sp : Sp), K.In h ∧ (∀ (s : Shared) (u : Value), BindsTo s fd ⟨[u], []⟩ [(x, u)]) ∧
        (∀ (H : Hp) (a : Addr) (ns : List Int), ns.length ≤ n → SqL K H a (ns.map V.int) → sp [.ref a] H (fun v _ => v = .bl true) fun _ _ _ => False) ∧
        ∀ base : Heap, K.In base → base.Ns mainGlobals mg → FnOk l.prog w K mg base (L2.CX l.prog w) k fa fd [x] sp) :
    PySem.W.WalkO q loose XP YP l.row.toRowW d [] (fun f vs => PySem.call f vs) := by
  refine Att.attach_call hn hdf fun w s₀ s₁ mg mb fa o pm cd doc a vs ns G Y ho hd hcd hmg hobj hints hlen hg => ?_
  obtain ⟨K, fd, sp, KX, hb, hsp, hF⟩ := F w mg fa _ Y G.T.g hmg
  exact law_call KX G.T.g G.T.b G.T.builtins G.T.nolimit hg hobj hints (Nat.le_trans hlen hn2) hr hF hb (fun H hO hS => hsp H a ns hlen hS) fun H e s' => noX H s₁ e s'
end Mx

namespace Mx
open PySem L2
open Evl (Ex)
open PySem.W (Frag)
/-! ### constants of the module -/
mutual
def repB (K : Frag) : D → Value → Bool
  | .non, u => (match u with | .none => true | _ => false)
  | .bl a, u => (match u with | .bool b => a == b | _ => false)
  | .int i, u => (match u with | .int j _ => decide (i = j) | _ => false)
  | .str s, u => (match u with | .str z _ => decide (z.cps.toList = s) && decide (s.length ≤ 16777216) | _ => false)
  | .tup ds, u => (match u with
    | .ref a => (match K.lookup a with
      | some ⟨.type c, _, .seq its _, _⟩ => decide (c = "tuple") && (decide (its.size ≤ 16777216) && repBL K ds its.toList)
      | _ => false)
    | _ => false)
  | _, _ => false
def repBL (K : Frag) : List D → List Value → Bool
  | [], us => us.isEmpty
  | d :: ds, us => (match us with
    | u :: us => repB K d u && repBL K ds us
    | [] => false)
end
mutual
theorem repB_ok {T : Tb} : ∀ {d : D} {u : Value}, repB T.K d u = true → ∃ v, RelV v u ∧ ∀ P θ, Rep T P θ d v
  | .non, u, h => by
    simp only [repB] at h
    cases u <;> first | exact ⟨.non, rfl, fun P θ => by rw [Rep]⟩ | cases h
  | .bl a, u, h => by
    simp only [repB] at h
    cases u <;> try cases h
    rw [beq_iff_eq] at h; subst h
    exact ⟨.bl a, rfl, fun P θ => by rw [Rep]⟩
  | .int i, u, h => by
    simp only [repB] at h
    cases u <;> try cases h
    rw [decide_eq_true_eq] at h; subst h
    exact ⟨.int i, ⟨_, rfl⟩, fun P θ => by rw [Rep]⟩
  | .str s, u, h => by
    simp only [repB] at h
    cases u <;> try cases h
    rw [Bool.and_eq_true, decide_eq_true_eq, decide_eq_true_eq] at h
    obtain ⟨rfl, hl⟩ := h
    exact ⟨.str _, ⟨_, rfl⟩, fun P θ => by rw [Rep]; exact ⟨by simp, hl⟩⟩
  | .tup ds, u, h => by
    simp only [repB] at h
    cases u <;> try cases h
    rename_i a
    simp only at h
    split at h
    · rename_i c od its n sl e
      simp only [Bool.and_eq_true, decide_eq_true_eq] at h
      obtain ⟨rfl, h2, h3⟩ := h
      obtain ⟨vs, r1, r2⟩ := repBL_ok h3
      refine ⟨.ref a, rfl, fun P θ => ?_⟩
      rw [Rep]
      refine ⟨a, vs, rfl, ⟨.inr ⟨_, its, n, e, rfl, rfl, h2, r1⟩, ?_⟩, r2 P θ⟩
      have e2 : (sizeLine : Nat) = 16777216 := by decide
      rw [r1.length, e2]
      simpa using h2
    · cases h
  | .lst _, u, h => by simp [repB] at h
  | .dic _ _, u, h => by simp [repB] at h
  | .obj _ _, u, h => by simp [repB] at h
  | .ref _, u, h => by simp [repB] at h
  | .cls _, u, h => by simp [repB] at h
  | .ty _, u, h => by simp [repB] at h
  | .scr _, u, h => by simp [repB] at h
theorem repBL_ok {T : Tb} : ∀ {ds : List D} {us : List Value}, repBL T.K ds us = true → ∃ vs, Vals vs us ∧ ∀ P θ, RepL T P θ ds vs
  | [], us, h => by
    simp only [repBL, List.isEmpty_iff] at h
    subst h
    exact ⟨[], .nil, fun P θ => RepL.nil⟩
  | d :: ds, us, h => by
    cases us with
    | nil => simp [repBL] at h
    | cons u us =>
      simp only [repBL, Bool.and_eq_true] at h
      obtain ⟨v, h1, h2⟩ := repB_ok h.1
      obtain ⟨vs, h3, h4⟩ := repBL_ok h.2
      exact ⟨v :: vs, .cons h1 h3, fun P θ => RepL.cons (h2 P θ) (h4 P θ)⟩
end
def gloB (K : Frag) (q : Str × D) : Bool := match PySem.W.nsIn K mainGlobals q.1 with
  | some (some u) => repB K q.2 u
  | _ => false
theorem gloB_ok {T : Tb} {h : Heap} {mg : Str → Option Value} (X : T.K.In h) (G : h.Ns mainGlobals mg) {q : Str × D} (c : gloB T.K q = true) : ∃ u v, mg q.1 = some u ∧ RelV v u ∧ ∀ P θ, Rep T P θ q.2 v := by
  unfold gloB at c
  split at c
  · rename_i u e
    obtain ⟨v, h1, h2⟩ := repB_ok c
    exact ⟨u, v, PySem.W.mg_of X G e, h1, h2⟩
  · cases c
/-- a dict of the module with text keys: its values -/
def gdB (K : Frag) (q : Str × List (List Nat × D)) : Bool := (He.Fa.glo q.1).ok K && q.2.all fun z => match PySem.W.nsIn K (He.ga K q.1) ⟨z.1.toArray⟩ with
  | some (some u) => repB K z.2 u
  | _ => false
/-! ### classes -/
def mty : Value := .type "type"
def wrp (kind : String) (C m : Str) (K : Frag) : Addr := match PySem.W.recIn K (He.ma K (He.ga K C) m) kind with
  | some (.ref g :: _) => g
  | _ => 0
def recB (K : Frag) (kind : String) (C m : Str) : Bool := match PySem.W.recIn K (He.ma K (He.ga K C) m) kind with
  | some (.ref _ :: _) => true
  | _ => false
theorem recB_ok {K : Frag} {kind : String} {C m : Str} (h : recB K kind C m = true) : ∃ rest, PySem.W.recIn K (He.ma K (He.ga K C) m) kind = some (.ref (wrp kind C m K) :: rest) := by
  unfold recB at h
  split at h
  · rename_i g rest e
    refine ⟨rest, ?_⟩
    unfold wrp
    rw [e]
  · cases h
def propB (K : Frag) (C f : Str) (g : Addr) : Bool := He.eqO (PySem.W.findIn K (.ref (He.ga K C)) f) (some (some (.ref (He.ma K (He.ga K C) f)))) && (He.eqO (PySem.W.specialIn K (.ref (He.ma K (He.ga K C) f)) "__get__") (some (some (.builtin "property.__get__"))) &&
  (decide (PySem.W.takesIn K (.ref (He.ma K (He.ga K C) f)) = some true) && (recB K "property" C f && decide (wrp "property" C f K = g))))
theorem propB_ok {K : Frag} {C f : Str} {g : Addr} (h : propB K C f g = true) : ∃ pa, PropOf K (He.ga K C) f pa g := by
  obtain ⟨h1, h⟩ := He.ba h
  obtain ⟨h2, h⟩ := He.ba h
  obtain ⟨h3, h⟩ := He.ba h
  obtain ⟨h4, h5⟩ := He.ba h
  obtain ⟨rest, e⟩ := recB_ok h4
  rw [of_decide_eq_true h5] at e
  exact ⟨_, He.eqO_ok h1, He.eqO_ok h2, of_decide_eq_true h3, rest, e⟩
def readB (K : Frag) (C : Str) : Bool := PySem.W.readsIn K (He.ga K C) mty && He.eqO (PySem.W.specialIn K (.ref (He.ga K C)) "__getattribute__") (some (some (.builtin "type.__getattribute__")))
theorem readB_ok {K : Frag} {C : Str} (h : readB K C = true) : ClX.CRead K (He.ga K C) mty := ⟨(He.ba h).1, He.eqO_ok (He.ba h).2⟩
def statB (K : Frag) (C m : Str) (g : Addr) : Bool := readB K C && ((match PySem.W.findCls K (.ref (He.ga K C)) mty m with
    | some (.get d a o t) => decide (d = .builtin "staticmethod.__get__") && (decide (a = .ref (He.ma K (He.ga K C) m)) && (decide (o = .none) && decide (t = .ref (He.ga K C))))
    | _ => false) && (recB K "staticmethod" C m && (decide (wrp "staticmethod" C m K = g) && PySem.W.keepIn K (.ref g))))
theorem statB_ok {K : Frag} {C m : Str} {g : Addr} (h : statB K C m g = true) : ∃ mc pa, ClX.CRead K (He.ga K C) mc ∧ SMet K (He.ga K C) mc m pa g := by
  obtain ⟨h1, h⟩ := He.ba h
  obtain ⟨h2, h⟩ := He.ba h
  obtain ⟨h3, h⟩ := He.ba h
  obtain ⟨h4, h5⟩ := He.ba h
  obtain ⟨rest, e⟩ := recB_ok h3
  rw [of_decide_eq_true h4] at e
  split at h2
  · rename_i d a o t e2
    obtain ⟨k1, k⟩ := He.ba h2
    obtain ⟨k2, k⟩ := He.ba k
    obtain ⟨k3, k4⟩ := He.ba k
    rw [of_decide_eq_true k1, of_decide_eq_true k2, of_decide_eq_true k3, of_decide_eq_true k4] at e2
    exact ⟨mty, _, readB_ok h1, e2, ⟨rest, e⟩, h5⟩
  · cases h2
def consB (K : Frag) (C f : Str) (d : D) : Bool := readB K C && (match PySem.W.findCls K (.ref (He.ga K C)) mty f with
    | some (.val u) => repB K d u
    | _ => false)
theorem consB_ok {T : Tb} {C f : Str} {d : D} (h : consB T.K C f d = true) : ∃ v u mc, ClX.CRead T.K (He.ga T.K C) mc ∧ ClX.CVal T.K (He.ga T.K C) mc f v u ∧ ∀ P θ, Rep T P θ d v := by
  obtain ⟨h1, h2⟩ := He.ba h
  split at h2
  · rename_i u e
    obtain ⟨v, r, rr⟩ := repB_ok h2
    exact ⟨v, u, mty, readB_ok h1, ⟨e, r⟩, rr⟩
  · cases h2
def bas : List String := ["NoneType", "bool", "int", "str", "list", "tuple"]
def ispB (K : Frag) (C : Str) : Bool := bas.all fun t => decide (PySem.W.kitOne K (.type t) (.ref (He.ga K C)) = some false) && PySem.W.notFirst K (He.ga K C) (.type t)
def adrM (fm : List He5.DefA) (K : Frag) (i : Nat) : Addr := match fm[i]? with
  | some d => d.at_ K
  | none => 0
def klB (fm : List He5.DefA) (K : Frag) (k : Kl) : Bool :=
  (He.Fa.glo k.name).ok K && ((He.Fa.cls k.name).ok K && ((k.fields.all fun f => (He.Fa.noat k.name f).ok K) && ((k.meths.all fun q => (He.Fa.meth k.name q.1).ok K && (decide (He.ma K (He.ga K k.name) q.1 = adrM fm K q.2) && !k.fields.contains q.1)) &&
  ((He.Fa.mkr k.name).ok K && (decide (He.ma K (He.ga K k.name) "__init__" = adrM fm K k.init) && ((k.props.all fun q => propB K k.name q.1 (adrM fm K q.2)) && ((k.stats.all fun q => statB K k.name q.1 (adrM fm K q.2)) && ((k.cons.all fun q => consB K k.name q.1 q.2) &&
  (He.eqO (PySem.W.findIn K (.ref (He.ga K k.name)) "__ne__") (some (some (.builtin "object.__ne__"))) && (He.eqO (PySem.W.findIn K (.ref (He.ga K k.name)) "__class__") (some (some (.builtin "object.__class__"))) &&
  (He.eqO (PySem.W.specialIn K (.builtin "object.__class__") "__get__") (some (some (.builtin "getset_descriptor.__get__"))) && (decide (PySem.W.takesIn K (.builtin "object.__class__") = some true) && (decide (PySem.W.mroIn K (He.ga K k.name) (.type "object") = some true) &&
  (ispB K k.name && (decide (k.fields.length ≤ 900) && decide k.fields.Nodup)))))))))))))))
theorem mem_lookup' {α β : Type} [BEq α] [LawfulBEq α] {x : α} {y : β} : ∀ {l : List (α × β)}, l.lookup x = some y → (x, y) ∈ l
  | [], h => by cases h
  | (a, b) :: l, h => by
    by_cases e : x == a
    · simp only [List.lookup, e] at h
      cases h
      rw [beq_iff_eq.mp e]
      exact List.mem_cons_self
    · have e : (x == a) = false := by simpa using e
      simp only [List.lookup, e] at h
      exact List.mem_cons_of_mem _ (mem_lookup' h)
theorem klB_ok {T : Tb} {fm : List He5.DefA} {k : Kl} {c : Nat} {h : Heap} {mg : Str → Option Value} (X : T.K.In h) (G : h.Ns mainGlobals mg) (ha : ∀ i, T.adr i = adrM fm T.K i) (hc : T.cad c = He.ga T.K k.name) (hf : T.cfs c = k.fields) (q : klB fm T.K k = true) : ClF T mg c k := by
  unfold klB at q
  obtain ⟨q1, q⟩ := He.ba q
  obtain ⟨q2, q⟩ := He.ba q
  obtain ⟨q3, q⟩ := He.ba q
  obtain ⟨q4, q⟩ := He.ba q
  obtain ⟨q5, q⟩ := He.ba q
  obtain ⟨q6, q⟩ := He.ba q
  obtain ⟨q7, q⟩ := He.ba q
  obtain ⟨q8, q⟩ := He.ba q
  obtain ⟨q9, q⟩ := He.ba q
  obtain ⟨q10, q⟩ := He.ba q
  obtain ⟨q11, q⟩ := He.ba q
  obtain ⟨q12, q⟩ := He.ba q
  obtain ⟨q13, q⟩ := He.ba q
  obtain ⟨q14, q⟩ := He.ba q
  obtain ⟨q15, q⟩ := He.ba q
  obtain ⟨q16, q17⟩ := He.ba q
  refine ⟨?_, hf, of_decide_eq_true q16, of_decide_eq_true q17, ?_, fun f hm => ?_, fun m j hj => ?_, ?_, fun f j hj => ?_, fun f d hd => ?_, fun m j hj => ?_, ?_, ?_, fun t ht => ?_⟩
  · rw [hc]; exact He.glo_ok X G q1
  · rw [hc]; exact He.cls_ok q2
  · rw [hc]; exact He.noat_ok (List.all_eq_true.mp q3 f hm)
  · have z := List.all_eq_true.mp q4 (m, j) (mem_lookup' hj)
    obtain ⟨z1, z⟩ := He.ba z
    obtain ⟨z2, z3⟩ := He.ba z
    have e := of_decide_eq_true z2
    have m1 := He.meth_ok z1
    rw [e] at m1
    rw [hc, ha]
    exact ⟨m1, fun hm => by
      have z3 : (!k.fields.contains m) = true := z3
      rw [List.contains_iff_mem.mpr hm] at z3
      cases z3⟩
  · have m1 := He.mkr_ok q5
    rw [of_decide_eq_true q6] at m1
    rw [hc, ha]
    exact m1
  · rw [hc, ha]; exact propB_ok (List.all_eq_true.mp q7 (f, j) (mem_lookup' hj))
  · rw [hc]; exact consB_ok (List.all_eq_true.mp q9 (f, d) (mem_lookup' hd))
  · rw [hc, ha]; exact statB_ok (List.all_eq_true.mp q8 (m, j) (mem_lookup' hj))
  · rw [hc]; exact He.eqO_ok q10
  · rw [hc]; exact ⟨He.eqO_ok q11, He.eqO_ok q12, of_decide_eq_true q13, of_decide_eq_true q14⟩
  · rw [hc]
    have z := List.all_eq_true.mp q15 t ht
    exact ⟨of_decide_eq_true (He.ba z).1, (He.ba z).2⟩
/-! ### the hook -/
def asM (g : Addr → Option Obj) (n : Nat) : List Addr := He.asD g n ++ [cStatics]
structure Hk where
  fm : List He5.DefA
  kl : List Kl
  gl : List (Str × D)
  bl : List Str
  gd : List (Str × List (List Nat × D))
  ts : List He.Tab
  tops : List (Str × Nat)
def capB (kl : List Kl) (K : Frag) : Bool := (List.range kl.length).all fun c => (List.range kl.length).all fun c' => match kl[c]?, kl[c']? with
  | some q, some q' => decide (PySem.W.kitOne K (.ref (He.ga K q'.name)) (.ref (He.ga K q.name)) = some (c' == c))
  | _, _ => false
def Hk.ex (k : Hk) (K : Frag) : Bool := (k.fm.all fun d => d.ok K) && ((k.kl.all fun c => klB k.fm K c) && (capB k.kl K && ((k.gl.all fun q => gloB K q) && ((k.bl.all fun x => (He.Fa.free x).ok K) && ((k.gd.all fun q => gdB K q) &&
  (k.tops.all fun q => (He.Fa.glo q.1).ok K && decide (He.ga K q.1 = adrM k.fm K q.2)))))))
abbrev AlM : Type := Bool × List He.FnW × List (Option (List (Option (Str × Int))))
def Hk.obs (k : Hk) (K : Frag) : AlM := (k.ex K, k.fm.map fun d => He5.fnA K (d.at_ K), k.ts.map fun t => He.dicW K (t.1 K))
def Hk.val (k : Hk) (w : World) : AlM := (true, k.fm.map He5.DefA.val, k.ts.map fun t => some (He.keysIn w.params t.2))
def Hk.obsG (k : Hk) (n : Nat) (g : Addr → Option Obj) : AlM := k.obs (He.frG g (asM g n))
def Hk.hook (k : Hk) (n : Nat) : PySem.W.Hook where
  α := AlM
  obs := fun s => k.obsG n s.heap.get?
  val := fun w => k.val w
  says := fun w h => ∃ K : Frag, K.In h ∧ k.obs K = k.val w
  of := fun _ _ e => ⟨_, He.frG_in, e⟩
  keeps := fun _ _ _ ⟨K, hK, c⟩ kk => ⟨K, PySem.W.Frag.In.keeps hK kk, c⟩
theorem Hk.obsG_eq {k : Hk} {n : Nat} {g : Addr → Option Obj} {s : Shared} (h : ∀ a, g a = s.heap.get? a) : k.obsG n g = (k.hook n).obs s := by
  have e : g = s.heap.get? := funext h
  rw [e] <;> rfl
/-- the table of a program, from K -/
def Hk.tb (k : Hk) (K : Frag) (fdt : Nat → FuncData) : Tb := ⟨K, fun c => match k.kl[c]? with | some q => He.ga K q.name | none => 0, fun c => match k.kl[c]? with | some q => q.fields | none => [], adrM k.fm K, fdt⟩
def Hk.ctx (k : Hk) (fs : List Fn) : Ctx := ⟨fs, k.gl, k.bl, k.kl, k.gd⟩
def Hk.gn (k : Hk) : Gn := ⟨fun i => ((k.gl[i]?).map (·.2)).getD .non, k.kl, k.gd⟩
/-- each module dict's keys are told by a table -/
def tabsOk (gd : List (Str × List (List Nat × D))) (ts : List He.Tab) : Prop := ∀ (i : Nat) (x : Str) (t : List (List Nat × D)), gd[i]? = some (x, t) → ∃ ks, ts[i]? = some ((fun K => He.ga K x), ks)
def fnChk (C : Ctx) (f : Fn) (d : He5.DefA) : Bool := decide (f.name = d.name) && (fnScC f.N f.ps d.scope && chkSS C f.N d.scope f.body d.body)
def fnsChk (C : Ctx) : List Fn → List He5.DefA → Bool
  | [], [] => true
  | f :: fs, d :: ds => fnChk C f d && fnsChk C fs ds
  | _, _ => false
theorem fnsChk_get {C : Ctx} : ∀ {fs : List Fn} {ds : List He5.DefA}, fnsChk C fs ds = true → ∀ {i : Nat} {f : Fn}, fs[i]? = some f → ∃ d, ds[i]? = some d ∧ fnChk C f d = true
  | [], _, _, i, f, e => by simp at e
  | f :: fs, [], h, i, g, e => by simp [fnsChk] at h
  | f :: fs, d :: ds, h, 0, g, e => by
    simp only [fnsChk, Bool.and_eq_true] at h
    simp at e; subst e
    exact ⟨d, rfl, h.1⟩
  | f :: fs, d :: ds, h, i + 1, g, e => by
    simp only [fnsChk, Bool.and_eq_true] at h
    obtain ⟨d', e1, e2⟩ := fnsChk_get h.2 (i := i) (by simpa using e)
    exact ⟨d', by simpa using e1, e2⟩
/-- the program's facts -/
theorem Hk.prF {k : Hk} {fs : List Fn} {w : World} {K : Frag} {h : Heap} {mg : Str → Option Value} (X : K.In h) (G : h.Ns mainGlobals mg) (c : k.obs K = k.val w) (ck : fnsChk (k.ctx fs) fs k.fm = true) (tk : tabsOk k.gd k.ts)
    (tops : ∀ (i : Nat) (f : Fn), fs[i]? = some f → f.top = true → (f.name, i) ∈ k.tops)
    (bind : ∀ (fdt : Nat → FuncData), (∀ (i : Nat) (d : He5.DefA), k.fm[i]? = some d → FunD K d.name d.qual d.params d.body d.scope (d.dvs K) (d.kws K) (d.at_ K) (fdt i)) → ∀ (i : Nat) (f : Fn), fs[i]? = some f → ∀ sh ∈ f.shapes, BindG (k.tb K fdt) (fdt i) f.ps sh.1 sh.2.1 sh.2.2 ∧ sh.2.2.length = f.ps.length) (hne : k.fm ≠ []) :
    ∃ fdt, PrF (k.ctx fs) (k.tb K fdt) k.gn w mg ∧ ∀ (i : Nat) (d : He5.DefA), k.fm[i]? = some d → FunD K d.name d.qual d.params d.body d.scope (d.dvs K) (d.kws K) (d.at_ K) (fdt i) := by
  have c1 : k.ex K = true := congrArg (fun z : AlM => z.1) c
  have c2 : k.fm.map (fun d => He5.fnA K (d.at_ K)) = k.fm.map He5.DefA.val := congrArg (fun z : AlM => z.2.1) c
  have c3 : k.ts.map (fun t => He.dicW K (t.1 K)) = k.ts.map fun t => some (He.keysIn w.params t.2) := congrArg (fun z : AlM => z.2.2) c
  obtain ⟨e1, q⟩ := He.ba c1
  obtain ⟨e2, q⟩ := He.ba q
  obtain ⟨e3, q⟩ := He.ba q
  obtain ⟨e4, q⟩ := He.ba q
  obtain ⟨e5, q⟩ := He.ba q
  obtain ⟨e6, e7⟩ := He.ba q
  have hfd : ∀ (i : Nat) (d : He5.DefA), k.fm[i]? = some d → ∃ fd, FunD K d.name d.qual d.params d.body d.scope (d.dvs K) (d.kws K) (d.at_ K) fd := fun i d hd => by
    have z : (k.fm.map fun d => He5.fnA K (d.at_ K))[i]? = (k.fm.map He5.DefA.val)[i]? := by rw [c2]
    rw [List.getElem?_map, List.getElem?_map, hd] at z
    exact He5.DefA.funD (Option.some.inj z) (List.all_eq_true.mp e1 d (List.mem_of_getElem? hd))
  have hall : ∃ fdt : Nat → FuncData, ∀ (i : Nat) (d : He5.DefA), k.fm[i]? = some d → FunD K d.name d.qual d.params d.body d.scope (d.dvs K) (d.kws K) (d.at_ K) (fdt i) := by
    have : ∀ i : Nat, ∃ fd : FuncData, ∀ d, k.fm[i]? = some d → FunD K d.name d.qual d.params d.body d.scope (d.dvs K) (d.kws K) (d.at_ K) fd := fun i => by
      cases hi : k.fm[i]? with
      | some d =>
        obtain ⟨fd, hfd⟩ := hfd i d hi
        exact ⟨fd, fun d' e => by cases e; exact hfd⟩
      | none =>
        cases h0 : k.fm with
        | nil => exact absurd h0 hne
        | cons d l =>
          obtain ⟨fd, _⟩ := hfd 0 d (by rw [h0]; rfl)
          exact ⟨fd, fun d' e => by cases e⟩
    exact ⟨fun i => Classical.choose (this i), fun i d e => Classical.choose_spec (this i) d e⟩
  obtain ⟨fdt, hF⟩ := hall
  refine ⟨fdt, ?_, hF⟩
  have hcad : ∀ {cc : Nat} {q : Kl}, k.kl[cc]? = some q → (k.tb K fdt).cad cc = He.ga K q.name := fun {cc q} e => by
    show (match k.kl[cc]? with | some q => He.ga K q.name | none => 0) = _
    rw [e]
  have hcfs : ∀ {cc : Nat} {q : Kl}, k.kl[cc]? = some q → (k.tb K fdt).cfs cc = q.fields := fun {cc q} e => by
    show (match k.kl[cc]? with | some q => q.fields | none => []) = _
    rw [e]
  refine ⟨fun i x d e => ?_, fun x hx => ?_, rfl, fun i x t e => ?_, rfl, fun cc q e => ?_, fun cc cc' q q' h1 h2 => ?_, fun i f e => ?_⟩
  · have e : k.gl[i]? = some (x, d) := e
    refine ⟨?_, gloB_ok (T := k.tb K fdt) X G (List.all_eq_true.mp e4 (x, d) (List.mem_of_getElem? e))⟩
    show ((k.gl[i]?).map (·.2)).getD .non = d
    rw [e]; rfl
  · exact He.free_ok X G (List.all_eq_true.mp e5 x hx)
  · have e : k.gd[i]? = some (x, t) := e
    obtain ⟨ks, ht⟩ := tk i x t e
    have g1 := List.all_eq_true.mp e6 (x, t) (List.mem_of_getElem? e)
    obtain ⟨g2, g3⟩ := He.ba g1
    have z : (k.ts.map fun t => He.dicW K (t.1 K))[i]? = (k.ts.map fun t => some (He.keysIn w.params t.2))[i]? := by rw [c3]
    rw [List.getElem?_map, List.getElem?_map, ht] at z
    obtain ⟨es, n, kd⟩ := He.dicW_ok (Option.some.inj z)
    refine ⟨He.ga K x, He.glo_ok X G g2, fun zz d hd => ?_⟩
    have g4 := List.all_eq_true.mp g3 (zz, d) (mem_lookup' hd)
    simp only at g4
    split at g4
    · rename_i u eu
      obtain ⟨v, r1, r2⟩ := repB_ok (T := k.tb K fdt) g4
      exact ⟨v, ⟨es, n, u, kd.at_, kd.lit, eu, r1⟩, r2⟩
    · cases g4
  · have e : k.kl[cc]? = some q := e
    exact klB_ok (T := k.tb K fdt) (fm := k.fm) X G (fun _ => rfl) (hcad e) (hcfs e) (List.all_eq_true.mp e2 q (List.mem_of_getElem? e))
  · have h1 : k.kl[cc]? = some q := h1
    have h2 : k.kl[cc']? = some q' := h2
    have l1 := (List.getElem?_eq_some_iff.mp h1).1
    have l2 := (List.getElem?_eq_some_iff.mp h2).1
    have z := List.all_eq_true.mp (List.all_eq_true.mp e3 cc (List.mem_range.mpr l1)) cc' (List.mem_range.mpr l2)
    simp only [h1, h2] at z
    rw [hcad h1, hcad h2]
    exact of_decide_eq_true z
  · have e : fs[i]? = some f := e
    obtain ⟨d, hd, hc⟩ := fnsChk_get ck e
    unfold fnChk at hc
    obtain ⟨n1, hc⟩ := He.ba hc
    obtain ⟨n2, n3⟩ := He.ba hc
    have n1 := of_decide_eq_true n1
    have ea : (k.tb K fdt).adr i = d.at_ K := by
      show adrM k.fm K i = _
      unfold adrM
      rw [hd]
    refine ⟨fun ht => ?_, ⟨d.qual, d.params, d.body, d.scope, d.dvs K, d.kws K, ?_, fnSc_of n2, n3⟩, bind fdt hF i f e⟩
    · have z := List.all_eq_true.mp e7 (f.name, i) (tops i f e ht)
      obtain ⟨z1, z2⟩ := He.ba z
      have z2 : He.ga K f.name = adrM k.fm K i := of_decide_eq_true z2
      show mg f.name = some (.ref (adrM k.fm K i))
      rw [← z2]
      exact He.glo_ok X G z1
    · rw [ea, n1]
      exact hF i d hd
/-! ### one setting of the world, told -/
def ft (b : Bool) (f : String → Bool) : String → Bool := fun s => match decide (s = "special-get-raises") with | true => b | false => f s
def ftW (b : Bool) (w : World) : World := { w with params := { w.params with followText := ft b w.params.followText } }
theorem ftW_eq (w : World) : w = ftW (w.params.followText "special-get-raises") w := by
  have e : ft (w.params.followText "special-get-raises") w.params.followText = w.params.followText := by
    funext s
    unfold ft
    by_cases h : s = "special-get-raises"
    · subst h; rw [decide_eq_true rfl]
    · rw [decide_eq_false h]
  unfold ftW
  rw [e]
end Mx

namespace Mx
open PySem L2
/-- a piece of code ends well, and so -/
def Ok {α : Type} (r : Res α) (Q : α → En → So → Prop) : Prop := match r with | .ok a e s => Q a e s | _ => False
structure COk (r : Rc) (Q : D → So → Prop) : Prop where
  run : match r with | .ok d s => Q d s | _ => False
def Oo {α : Type} (o : Option α) (Q : α → Prop) : Prop := match o with | some a => Q a | none => False
section
variable {α β : Type} {e : En} {s : So}
theorem cok_ok {d : D} {Q : D → So → Prop} : COk (.ok d s) Q = Q d s := propext ⟨fun h => h.run, fun h => ⟨h⟩⟩
theorem cok_bad {Q : D → So → Prop} : COk .bad Q = False := propext ⟨fun h => h.run, fun h => h.elim⟩
theorem cok_er {x : D} {Q : D → So → Prop} : COk (.er x s) Q = False := propext ⟨fun h => h.run, fun h => h.elim⟩
theorem ok_bind {r : Res α} {f : α → En → So → Res β} {Q : β → En → So → Prop} : Ok (r.bind f) Q = Ok r (fun a e s => Ok (f a e s) Q) := by
  cases r <;> rfl
theorem ok_opt {o : Option α} {Q : α → En → So → Prop} : Ok (opt o e s) Q = Oo o (fun a => Q a e s) := by cases o <;> rfl
theorem ok_call {p : Pg} {f : Nat} {ds : List D} {Q : D → En → So → Prop} : Ok (callD p f ds e s) Q = COk (p.cl f ds s) (fun d s' => Q d e s') := by
  unfold callD
  cases p.cl f ds s with
  | ok d s => rw [cok_ok]; rfl
  | er x s => rw [cok_er]; rfl
  | bad => rw [cok_bad]; rfl
theorem ok_ok {a : α} {Q : α → En → So → Prop} : Ok (.ok a e s) Q = Q a e s := rfl
theorem ok_imp {r : Res α} {Q Q' : α → En → So → Prop} (h : Ok r Q) (i : ∀ a e s, Q a e s → Q' a e s) : Ok r Q' := by
  cases r with
  | ok a e s => exact i _ _ _ h
  | er _ _ _ => exact h.elim
  | bad => exact h.elim
theorem cok_imp {r : Rc} {Q Q' : D → So → Prop} (h : COk r Q) (i : ∀ d s, Q d s → Q' d s) : COk r Q' := by
  cases r with
  | ok a s => exact ⟨i _ _ h.run⟩
  | er _ _ => exact h.run.elim
  | bad => exact h.run.elim
theorem cok_ex {r : Rc} {Q : D → So → Prop} (h : COk r Q) : ∃ d s, r = .ok d s ∧ Q d s := by
  cases r with
  | ok a s => exact ⟨a, s, rfl, h.run⟩
  | er _ _ => exact h.run.elim
  | bad => exact h.run.elim
/-- a def's promise, closed to the eyes of the elaborator -/
structure CT (r : Rc) (Q : D → So → Prop) : Prop where
  h : COk r Q
structure OT {α : Type} (r : Res α) (Q : α → En → So → Prop) : Prop where
  h : Ok r Q
theorem ct_imp {r : Rc} {Q Q' : D → So → Prop} (t : CT r Q) (i : ∀ d s, Q d s → Q' d s) : COk r Q' := cok_imp t.h i
theorem ot_imp {r : Res α} {Q Q' : α → En → So → Prop} (t : OT r Q) (i : ∀ a e s, Q a e s → Q' a e s) : Ok r Q' := ok_imp t.h i
/-- a condition that is to be told by computing -/
def Gd (a b : Prop) : Prop := a ∧ b
theorem gd {a b : Prop} (h : a) (q : b) : Gd a b := ⟨h, q⟩
theorem gd_rfl {γ : Type} {a b : γ} {c : Prop} (h : a = b) (q : c) : Gd (a = b) c := ⟨h, q⟩
/-- the end of a def's body -/
def outD (Q : D → So → Prop) : Out → En → So → Prop := fun o _ s => match o with | .rt d => Q d s | .nx => Q .non s | _ => False
theorem o_rt {Q : D → So → Prop} {d : D} (h : Q d s) : outD Q (.rt d) e s := h
theorem cok_fn {p : Pg} {f : Fn} {ds : List D} {Q : D → So → Prop} (h : ds.length = f.ps.length) (q : Ok (denSS p f.body (ds.map Sl.sh ++ List.replicate (f.N.length - ds.length) .un) s) (outD Q)) : COk (fnD p f ds s) Q := by
  unfold fnD
  rw [if_pos h]
  cases hd : denSS p f.body (ds.map Sl.sh ++ List.replicate (f.N.length - ds.length) .un) s with
  | bad => rw [hd] at q; exact q.elim
  | er x e s => rw [hd] at q; exact q.elim
  | ok o e s => rw [hd] at q; cases o <;> first | exact ⟨q⟩ | exact False.elim q
/-- the meaning of calls, two levels of it known -/
def PG (fs : List Fn) (g : Gn) (k : Nat) : Pg := ⟨g, clN fs g (k + 1), clN fs g k⟩
theorem cok_cl {fs : List Fn} {g : Gn} {k i : Nat} {f : Fn} {ds : List D} {Q : D → So → Prop} (hf : fs[i]? = some f) (h : COk (fnD (PG fs g k) f ds s) Q) : COk (clN fs g (k + 2) i ds s) Q := by
  show COk (match fs[i]? with | some fn => fnD (PG fs g k) fn ds s | none => .bad) Q
  rw [hf]
  exact h
theorem pg_cl {fs : List Fn} {g : Gn} {k i : Nat} {ds : List D} {Q : D → So → Prop} (h : COk (clN fs g (k + 1) i ds s) Q) : COk ((PG fs g k).cl i ds s) Q := h
theorem pg_cl1 {fs : List Fn} {g : Gn} {k i : Nat} {ds : List D} {Q : D → So → Prop} (h : COk (clN fs g k i ds s) Q) : COk ((PG fs g k).cl1 i ds s) Q := h
/-! data -/
theorem oo {o : Option α} {Q : α → Prop} {a : α} (h : o = some a) (q : Q a) : Oo o Q := by subst h; exact q
theorem oo_map {o : Option α} {f : α → β} {Q : β → Prop} (h : Oo o fun a => Q (f a)) : Oo (o.map f) Q := by cases o <;> exact h
theorem oo_mod {i j : Int} {Q : D → Prop} (h : 0 < j) (q : Q (.int (i % j))) : Oo (bopD .mod (.int i) (.int j)) Q := by
  simp only [bopD, if_pos h]; exact q
theorem oo_fdiv {i j : Int} {Q : D → Prop} (h : 0 < j ∧ j < 1073741824) (q : Q (.int (i / j))) : Oo (bopD .fdiv (.int i) (.int j)) Q := by
  simp only [bopD, if_pos h]; exact q
theorem oo_mul {i j : Int} {Q : D → Prop} (h : (-(2 ^ 64) < i ∧ i < 2 ^ 64) ∨ (-(2 ^ 64) < j ∧ j < 2 ^ 64)) (q : Q (.int (i * j))) : Oo (bopD .mul (.int i) (.int j)) Q := by
  simp only [bopD, if_pos h]; exact q
theorem oo_adds {x y : List Nat} {Q : D → Prop} (h : x.length + y.length ≤ LIM) (q : Q (.str (x ++ y))) : Oo (bopD .add (.str x) (.str y)) Q := by
  simp only [bopD, if_pos h]; exact q
theorem oo_addl {x y : List D} {Q : D → Prop} (h : x.length + y.length ≤ LIM) (q : Q (.lst (x ++ y))) : Oo (bopD .add (.lst x) (.lst y)) Q := by
  simp only [bopD, if_pos h]; exact q
theorem as_b {k : Bool} {Q : Bool → Prop} (q : Q k) : ∃ j, D.bl k = .bl j ∧ Q j := ⟨k, rfl, q⟩
theorem as_i {k : Int} {Q : Int → Prop} (q : Q k) : ∃ j, D.int k = .int j ∧ Q j := ⟨k, rfl, q⟩
theorem dec_t {k : Bool} {A B : Prop} (h : k = true) (a : A) : (k = true → A) ∧ (k = false → B) := ⟨fun _ => a, fun z => by rw [h] at z; cases z⟩
theorem dec_f {k : Bool} {A B : Prop} (h : k = false) (b : B) : (k = true → A) ∧ (k = false → B) := ⟨fun z => by rw [h] at z; (cases z), fun _ => b⟩
theorem dec_t' {k : Bool} {A B : Prop} (h : k = true) (a : A) : (k = false → B) ∧ (k = true → A) := ⟨fun z => by rw [h] at z; (cases z), fun _ => a⟩
theorem dec_f' {k : Bool} {A B : Prop} (h : k = false) (b : B) : (k = false → B) ∧ (k = true → A) := ⟨fun _ => b, fun z => by rw [h] at z; cases z⟩
/-! expressions -/
variable {p : Pg} {Q : D → En → So → Prop} {QT : Bool → En → So → Prop}
theorem e_c {d : D} (q : Q d e s) : Ok (denE p (.c d) e s) Q := by rw [denE]; exact q
theorem e_var {i : Nat} {d : D} (h : e[i]? = some (.sh d)) (q : Q d e s) : Ok (denE p (.var i) e s) Q := by simp only [denE, varD, h]; exact q
theorem e_own {i : Nat} {ds : List D} (h : e[i]? = some (.ow (.lst ds))) (q : Q (.lst ds) (e.set i (.sh (.lst ds))) s) : Ok (denE p (.var i) e s) Q := by simp only [denE, varD, h]; exact q
theorem e_glo {i : Nat} (q : Q (p.glo i) e s) : Ok (denE p (.glo i) e s) Q := by rw [denE]; exact q
theorem e_lst {es : ES} (q : Ok (denES p es e s) fun ds e s => Q (.lst ds) e s) : Ok (denE p (.lst es) e s) Q := by rw [denE, ok_bind]; exact q
theorem e_tup {es : ES} (q : Ok (denES p es e s) fun ds e s => Q (.tup ds) e s) : Ok (denE p (.tup es) e s) Q := by rw [denE, ok_bind]; exact q
theorem e_newl {es : ES} (q : Ok (denES p es e s) fun ds e s => Q (.ref s.length) e (s ++ [.lst ds])) : Ok (denE p (.newl es) e s) Q := by rw [denE, ok_bind]; exact q
theorem e_bin {op : Bop} {a b : EX} (q : Ok (denE p a e s) fun x e s => Ok (denE p b e s) fun y e s => Oo (bopD op x y) fun d => Q d e s) : Ok (denE p (.bin op a b) e s) Q := by
  rw [denE]; simp only [ok_bind, ok_opt]; exact q
theorem e_cmp {op : Cop} {a b : EX} (q : Ok (denE p a e s) fun x e s => Ok (denE p b e s) fun y e s => Oo (copD op x y) fun d => Q (.bl d) e s) : Ok (denE p (.cmp op a b) e s) Q := by
  rw [denE]; simp only [ok_bind, ok_opt]
  refine ok_imp q fun x e s q => ok_imp q fun y e s q => oo_map q
theorem e_chn {o o2 : Cop} {a b c : EX} (q : Ok (denE p a e s) fun x e s => Ok (denE p b e s) fun y e s => Oo (copD o x y) fun k => if k then Ok (denE p c e s) fun z e s => Oo (copD o2 y z) fun d => Q (.bl d) e s else Q (.bl false) e s) : Ok (denE p (.chn o o2 a b c) e s) Q := by
  rw [denE]; simp only [ok_bind, ok_opt]
  refine ok_imp q fun x e s q => ok_imp q fun y e s q => ?_
  cases h : copD o x y with
  | none => rw [h] at q; exact q
  | some k =>
    rw [h] at q
    cases k with
    | false => exact q
    | true =>
      show Ok ((denE p c e s).bind _) _
      rw [ok_bind]
      refine ok_imp (show Ok (denE p c e s) _ from q) fun z e s q => ?_
      rw [ok_opt]; exact oo_map q
theorem e_isn {neg : Bool} {a : EX} (q : Ok (denE p a e s) fun x e s => Q (.bl (isnB neg x)) e s) : Ok (denE p (.isn neg a) e s) Q := by rw [denE, ok_bind]; exact q
theorem e_and {a b : EX} (q : Ok (denE p a e s) fun x e s => ∃ k, x = .bl k ∧ (k = true → Ok (denE p b e s) Q) ∧ (k = false → Q (.bl false) e s)) : Ok (denE p (.and a b) e s) Q := by
  rw [denE, ok_bind]
  refine ok_imp q fun x e s ⟨k, hx, h1, h2⟩ => ?_
  subst hx
  cases k with
  | true => exact h1 rfl
  | false => exact h2 rfl
theorem e_or {a b : EX} (q : Ok (denE p a e s) fun x e s => ∃ k, x = .bl k ∧ (k = false → Ok (denE p b e s) Q) ∧ (k = true → Q (.bl true) e s)) : Ok (denE p (.or a b) e s) Q := by
  rw [denE, ok_bind]
  refine ok_imp q fun x e s ⟨k, hx, h1, h2⟩ => ?_
  subst hx
  cases k with
  | false => exact h1 rfl
  | true => exact h2 rfl
theorem e_not {a : EX} (q : Ok (denE p a e s) fun x e s => ∃ k, x = .bl k ∧ Q (.bl (!k)) e s) : Ok (denE p (.not a) e s) Q := by
  rw [denE, ok_bind]
  refine ok_imp q fun x e s ⟨k, hx, h1⟩ => ?_
  subst hx
  exact h1
theorem e_ife {t a b : EX} (q : Ok (denT p t e s) fun k e s => (k = true → Ok (denE p a e s) Q) ∧ (k = false → Ok (denE p b e s) Q)) : Ok (denE p (.ife t a b) e s) Q := by
  rw [denE, ok_bind]
  refine ok_imp q fun k e s q => ?_
  cases k with
  | true => exact q.1 rfl
  | false => exact q.2 rfl
theorem e_call {f : Nat} {es ks : ES} {bd : List Bd} (q : Ok (denES p es e s) fun ds e s => Ok (denES p ks e s) fun zs e s => Oo (bdD (ds ++ zs) bd) fun as => COk (p.cl f as s) fun d s' => Q d e s') : Ok (denE p (.call f es ks bd) e s) Q := by
  rw [denE]; simp only [ok_bind, ok_opt, ok_call]; exact q
theorem e_bi {b : Bi} {es : ES} (q : Ok (denES p es e s) fun ds e s => Oo (biD s b ds) fun d => Q d e s) : Ok (denE p (.bi b es) e s) Q := by
  rw [denE]; simp only [ok_bind, ok_opt]; exact q
theorem e_mt {m : Mt} {o : EX} {es : ES} (q : Ok (denE p o e s) fun x e s => Gd (isStrD x = true) (Ok (denES p es e s) fun ds e s => Oo (mtD m x ds) fun d => Q d e s)) : Ok (denE p (.mt m o es) e s) Q := by
  rw [denE]; simp only [ok_bind]
  refine ok_imp q fun x e s q => ?_
  rw [if_pos q.1, ok_bind]
  refine ok_imp q.2 fun ds e s q => ?_
  rw [ok_opt]; exact q
theorem e_sub {a b : EX} (q : Ok (denE p a e s) fun x e s => Ok (denE p b e s) fun y e s => Oo (subD s x y) fun d => Q d e s) : Ok (denE p (.sub a b) e s) Q := by
  rw [denE]; simp only [ok_bind, ok_opt]; exact q
theorem e_slc {a : EX} {lo hi : EO} (q : Ok (denE p a e s) fun x e s => Ok (denO p lo e s) fun l e s => Ok (denO p hi e s) fun h e s => Oo (slcD x l h) fun d => Q d e s) : Ok (denE p (.slc a lo hi) e s) Q := by
  rw [denE]; simp only [ok_bind, ok_opt]; exact q
theorem e_isi {a : EX} {t : String} (q : Ok (denE p a e s) fun x e s => Oo (isiD t x) fun d => Q (.bl d) e s) : Ok (denE p (.isi a t) e s) Q := by
  rw [denE]; simp only [ok_bind, ok_opt]
  exact ok_imp q fun x e s q => oo_map q
theorem e_isiT {a : EX} {ts : List String} (q : Ok (denE p a e s) fun x e s => Oo (isiTD ts x) fun d => Q (.bl d) e s) : Ok (denE p (.isiT a ts) e s) Q := by
  rw [denE]; simp only [ok_bind, ok_opt]
  exact ok_imp q fun x e s q => oo_map q
theorem e_lc {own : List Nat} {it : IT} {tg : Tg} {ifs : ES} {m : EX} (q : Ok (lcD own (denI p it) tg (denTs p ifs) (denE p m) e s) fun ds e s => Q (.lst ds) e s) : Ok (denE p (.lc own it tg ifs m) e s) Q := by
  rw [denE, ok_bind]; exact q
variable {QL : List D → En → So → Prop}
theorem es_nil (q : QL [] e s) : Ok (denES p .nil e s) QL := by rw [denES]; exact q
theorem es_cons {a : EX} {es : ES} (q : Ok (denE p a e s) fun d e s => Ok (denES p es e s) fun ds e s => QL (d :: ds) e s) : Ok (denES p (.cons a es) e s) QL := by
  rw [denES]; simp only [ok_bind]; exact q
variable {QO : Option Int → En → So → Prop}
theorem eo_no (q : QO none e s) : Ok (denO p .no e s) QO := by rw [denO]; exact q
theorem eo_yes {a : EX} (q : Ok (denE p a e s) fun d e s => ∃ i, d = .int i ∧ QO (some i) e s) : Ok (denO p (.yes a) e s) QO := by
  rw [denO, ok_bind]
  refine ok_imp q fun d e s ⟨i, h, q⟩ => ?_
  subst h; exact q
theorem ei_it {a : EX} (q : Ok (denE p a e s) fun d e s => Oo (itemsD d) fun ds => QL ds e s) : Ok (denI p (.it a) e s) QL := by
  rw [denI]; simp only [ok_bind, ok_opt]; exact q
theorem ei_rng {a : EX} (q : Ok (denE p a e s) fun d e s => ∃ n, d = .int n ∧ (-16777216 ≤ n ∧ n ≤ 16777216) ∧ QL (rngD 0 n.toNat) e s) : Ok (denI p (.rng a) e s) QL := by
  rw [denI, ok_bind]
  refine ok_imp q fun d e s ⟨n, h, h1, q⟩ => ?_
  subst h
  show Ok (if _ then _ else _) _
  rw [if_pos h1]; exact q
theorem ei_zip {a b : EX} (q : Ok (denE p a e s) fun x e s => Ok (denE p b e s) fun y e s => Oo (zipD x y) fun ds => QL ds e s) : Ok (denI p (.zip a b) e s) QL := by
  rw [denI]; simp only [ok_bind, ok_opt]; exact q
theorem ei_enm {a : EX} (q : Ok (denE p a e s) fun x e s => Oo (enmD x) fun ds => QL ds e s) : Ok (denI p (.enm a) e s) QL := by
  rw [denI]; simp only [ok_bind, ok_opt]; exact q
/-! tests -/
theorem t_cmp {op : Cop} {a b : EX} (q : Ok (denE p a e s) fun x e s => Ok (denE p b e s) fun y e s => Oo (copD op x y) fun d => QT d e s) : Ok (denT p (.cmp op a b) e s) QT := by
  rw [denT]; simp only [ok_bind, ok_opt]; exact q
theorem t_isn {neg : Bool} {a : EX} (q : Ok (denE p a e s) fun x e s => QT (isnB neg x) e s) : Ok (denT p (.isn neg a) e s) QT := by rw [denT, ok_bind]; exact q
theorem t_and {a b : EX} (q : Ok (denT p a e s) fun k e s => (k = true → Ok (denT p b e s) QT) ∧ (k = false → QT false e s)) : Ok (denT p (.and a b) e s) QT := by
  rw [denT, ok_bind]
  refine ok_imp q fun k e s q => ?_
  cases k with
  | true => exact q.1 rfl
  | false => exact q.2 rfl
theorem t_or {a b : EX} (q : Ok (denT p a e s) fun k e s => (k = false → Ok (denT p b e s) QT) ∧ (k = true → QT true e s)) : Ok (denT p (.or a b) e s) QT := by
  rw [denT, ok_bind]
  refine ok_imp q fun k e s q => ?_
  cases k with
  | false => exact q.1 rfl
  | true => exact q.2 rfl
theorem t_not {a : EX} (q : Ok (denT p a e s) fun k e s => QT (!k) e s) : Ok (denT p (.not a) e s) QT := by rw [denT, ok_bind]; exact q
theorem t_var {i : Nat} {d : D} (h : e[i]? = some (.sh d)) (q : Oo (truD d) fun b => QT b e s) : Ok (denT p (.var i) e s) QT := by
  rw [denT, ok_bind, varD, h]
  show Ok (opt _ _ _) _
  rw [ok_opt]; exact q
theorem t_call {f : Nat} {es ks : ES} {bd : List Bd} (q : Ok (denES p es e s) fun ds e s => Ok (denES p ks e s) fun zs e s => Oo (bdD (ds ++ zs) bd) fun as => COk (p.cl f as s) fun d s' => Oo (truD d) fun b => QT b e s') : Ok (denT p (.call f es ks bd) e s) QT := by
  rw [denT]; simp only [ok_bind, ok_opt, ok_call]; exact q
theorem t_isi {a : EX} {t : String} (q : Ok (denE p a e s) fun x e s => Oo (isiD t x) fun d => QT d e s) : Ok (denT p (.isi a t) e s) QT := by
  rw [denT]; simp only [ok_bind, ok_opt]; exact q
theorem t_isiT {a : EX} {ts : List String} (q : Ok (denE p a e s) fun x e s => Oo (isiTD ts x) fun d => QT d e s) : Ok (denT p (.isiT a ts) e s) QT := by
  rw [denT]; simp only [ok_bind, ok_opt]; exact q
/-! strict operators -/
theorem e_op1 {o : Op} {a : EX} {es ks : ES} (q : Ok (denE p a e s) fun x e s => Gd (grdD p o x s = true) (Ok (denES p es e s) fun ds e s => Ok (denES p ks e s) fun zs e s => Ok (opD p o (x :: ds) zs e s) Q)) : Ok (denE p (.op1 o a es ks) e s) Q := by
  rw [denE, ok_bind]
  refine ok_imp q fun x e s q => ?_
  rw [if_pos q.1, ok_bind]
  refine ok_imp q.2 fun ds e s q => ?_
  rw [ok_bind]
  exact q
theorem e_opn {o : Op} {es ks : ES} (q : Ok (denES p es e s) fun ds e s => Ok (denES p ks e s) fun zs e s => Ok (opD p o ds zs e s) Q) : Ok (denE p (.opn o es ks) e s) Q := by
  rw [denE]; simp only [ok_bind]; exact q
theorem ok_bl {r : Res D} (q : Ok r fun d e s => ∃ k, d = .bl k ∧ QT k e s) : Ok (blOnly r) QT := by
  unfold blOnly
  rw [ok_bind]
  refine ok_imp q fun d e s ⟨k, h, q⟩ => ?_
  subst h; exact q
theorem t_op1 {o : Op} {a : EX} {es ks : ES} (q : Ok (denE p a e s) fun x e s => Gd (grdD p o x s = true) (Ok (denES p es e s) fun ds e s => Ok (denES p ks e s) fun zs e s => Ok (opD p o (x :: ds) zs e s) fun d e s => ∃ k, d = .bl k ∧ QT k e s)) : Ok (denT p (.op1 o a es ks) e s) QT := by
  rw [denT]
  refine ok_bl ?_
  have := e_op1 (p := p) (e := e) (s := s) q
  rw [denE] at this
  exact this
theorem t_opn {o : Op} {es ks : ES} (q : Ok (denES p es e s) fun ds e s => Ok (denES p ks e s) fun zs e s => Ok (opD p o ds zs e s) fun d e s => ∃ k, d = .bl k ∧ QT k e s) : Ok (denT p (.opn o es ks) e s) QT := by
  rw [denT]
  refine ok_bl ?_
  have := e_opn (p := p) (e := e) (s := s) q
  rw [denE] at this
  exact this
theorem o_neg {i : Int} (q : Q (.int (-i)) e s) : Ok (opD p .neg [.int i] [] e s) Q := q
theorem o_fld {f : Str} {x : D} (q : Oo (fldD p f s x) fun d => Q d e s) : Ok (opD p (.fld f) [x] [] e s) Q := by
  show Ok (opt _ _ _) _
  rw [ok_opt]; exact q
theorem o_isc {c : Nat} {x : D} (q : Oo (iscD p c x) fun d => Q (.bl d) e s) : Ok (opD p (.isc c) [x] [] e s) Q := by
  show Ok (opt _ _ _) _
  rw [ok_opt]; exact oo_map q
theorem o_gdic {k : Nat} {z : List Nat} (q : Oo ((p.gd[k]?).bind fun t => t.2.lookup z) fun d => Q d e s) : Ok (opD p (.gdic k) [.str z] [] e s) Q := by
  show Ok (opt _ _ _) _
  rw [ok_opt]; exact q
theorem o_ccon {c : Nat} {f : Str} (q : Oo ((p.kl[c]?).bind fun k => k.cons.lookup f) fun d => Q d e s) : Ok (opD p (.ccon c f) [] [] e s) Q := by
  show Ok (opt _ _ _) _
  rw [ok_opt]; exact q
theorem ok_cL {f : Nat} {ds : List D} : Ok (callL p f ds e s) Q = COk (p.cl1 f ds s) (fun d s' => Q d e s') := by
  unfold callL
  cases p.cl1 f ds s with
  | ok d s => rw [cok_ok]; rfl
  | er x s => rw [cok_er]; rfl
  | bad => rw [cok_bad]; rfl
theorem o_oeq {c j : Nat} {x y : D} (h : (isOb p c s x && (isPl y || isOb p c s y)) = true) (hm : mthD p c "__eq__" = some j) (q : COk (p.cl j [x, y] s) fun d s' => ∃ k, d = .bl k ∧ Q (.bl k) e s') : Ok (opD p (.oeq c false) [x, y] [] e s) Q := by
  show Ok (if _ then _ else _) _
  rw [if_pos h]
  unfold blRes
  rw [ok_bind, if_neg Bool.false_ne_true, hm]
  show Ok (callD p j [x, y] e s) _
  rw [ok_call]
  refine cok_imp q fun d s ⟨k, h, q⟩ => ?_
  subst h
  show Q (.bl (k != false)) e s
  rw [Bool.bne_false]; exact q
theorem o_one {c j : Nat} {x y : D} (h : (isOb p c s x && (isPl y || isOb p c s y)) = true) (hm : mthD p c "__eq__" = some j) (q : COk (p.cl1 j [x, y] s) fun d s' => ∃ k, d = .bl k ∧ Q (.bl (!k)) e s') : Ok (opD p (.oeq c true) [x, y] [] e s) Q := by
  show Ok (if _ then _ else _) _
  rw [if_pos h]
  unfold blRes
  rw [ok_bind, if_pos rfl, hm]
  show Ok (callL p j [x, y] e s) _
  rw [ok_cL]
  refine cok_imp q fun d s ⟨k, h, q⟩ => ?_
  subst h
  show Q (.bl (k != true)) e s
  rw [Bool.bne_true]; exact q
theorem o_oin {c j : Nat} {ne : Bool} {x y : D} (h : isOb p c s y = true) (hm : mthD p c "__contains__" = some j) (q : COk (p.cl j [y, x] s) fun d s' => ∃ k, d = .bl k ∧ Q (.bl (k != ne)) e s') : Ok (opD p (.oin c ne) [x, y] [] e s) Q := by
  show Ok (if _ then _ else _) _
  rw [if_pos h]
  unfold blRes
  rw [ok_bind, hm]
  show Ok (callD p j [y, x] e s) _
  rw [ok_call]
  refine cok_imp q fun d s ⟨k, h, q⟩ => ?_
  subst h
  exact q
theorem o_olen {c j : Nat} {x : D} (h : isOb p c s x = true) (hm : mthD p c "__len__" = some j) (q : COk (p.cl1 j [x] s) fun d s' => ∃ k, d = .int k ∧ (0 ≤ k ∧ k < 2 ^ 62) ∧ Q (.int k) e s') : Ok (opD p (.olen c) [x] [] e s) Q := by
  show Ok (if _ then _ else _) _
  rw [if_pos h]
  unfold intRes
  rw [ok_bind, hm]
  show Ok (callL p j [x] e s) _
  rw [ok_cL]
  refine cok_imp q fun d s ⟨k, h, h2, q⟩ => ?_
  subst h
  show Ok (if _ then _ else _) _
  rw [if_pos h2]
  exact q
theorem o_orep {c j : Nat} {x : D} (h : isOb p c s x = true) (hm : mthD p c "__repr__" = some j) (q : COk (p.cl1 j [x] s) fun d s' => ∃ k, d = .str k ∧ Q (.str k) e s') : Ok (opD p (.orep c) [x] [] e s) Q := by
  show Ok (if _ then _ else _) _
  rw [if_pos h]
  unfold strRes
  rw [ok_bind, hm]
  show Ok (callL p j [x] e s) _
  rw [ok_cL]
  refine cok_imp q fun d s ⟨k, h, q⟩ => ?_
  subst h
  exact q
theorem o_prop {c j : Nat} {f : Str} {x : D} (h : isOb p c s x = true) (hm : ((p.kl[c]?).bind fun k => k.props.lookup f) = some j) (q : COk (p.cl1 j [x] s) fun d s' => Q d e s') : Ok (opD p (.prop c f) [x] [] e s) Q := by
  show Ok (if _ then _ else _) _
  rw [if_pos h, hm]
  show Ok (noEr (callL p j [x] e s)) _
  unfold callL
  cases hc : p.cl1 j [x] s <;> rw [hc] at q <;> first | exact q.run | exact q.run.elim
theorem o_meth {c j : Nat} {m : Str} {bd : List Bd} {ds zs as : List D} (hm : mthD p c m = some j) (hb : bdD (ds ++ zs) bd = some as) (q : COk (p.cl j as s) fun d s' => Q d e s') : Ok (opD p (.meth c m bd) ds zs e s) Q := by
  have h : opD p (.meth c m bd) ds zs e s = (opt (bdD (ds ++ zs) bd) e s).bind fun as e s => callB p (mthD p c m) as e s := by
    match ds with
    | [] => rfl
    | [_] => rfl
    | [_, _] => rfl
    | _ :: _ :: _ :: _ => rfl
  rw [h, hb, hm]
  show Ok (callD p j as e s) _
  rw [ok_call]; exact q
theorem o_stat {c j : Nat} {m : Str} {bd : List Bd} {ds zs as : List D} (hm : ((p.kl[c]?).bind fun k => k.stats.lookup m) = some j) (hb : bdD (ds ++ zs) bd = some as) (q : COk (p.cl j as s) fun d s' => Q d e s') : Ok (opD p (.stat c m bd) ds zs e s) Q := by
  have h : opD p (.stat c m bd) ds zs e s = (opt (bdD (ds ++ zs) bd) e s).bind fun as e s => callB p ((p.kl[c]?).bind fun k => k.stats.lookup m) as e s := by
    match ds with
    | [] => rfl
    | [_] => rfl
    | [_, _] => rfl
    | _ :: _ :: _ :: _ => rfl
  rw [h, hb, hm]
  show Ok (callD p j as e s) _
  rw [ok_call]; exact q
/-- a new instance -/
theorem o_mk {c : Nat} {k : Kl} {bd : List Bd} {ds zs as : List D} (hk : p.kl[c]? = some k) (hb : bdD (.ref s.length :: (ds ++ zs)) bd = some as)
    (q : COk (p.cl1 k.init as (s ++ [.obj c []])) fun d s' => d = .non ∧ ∃ fs, s' = s ++ [.obj c fs] ∧ fs.map (·.1) = k.fields ∧ Q (.obj c (fs.map (·.2))) e (s ++ [.gone])) : Ok (opD p (.mk c bd) ds zs e s) Q := by
  have h : opD p (.mk c bd) ds zs e s = match p.kl[c]? with
    | some k => (opt (bdD (.ref s.length :: (ds ++ zs)) bd) e s).bind fun as e s => mkRes k c s.length (callL p k.init as e (s ++ [.obj c []]))
    | none => .bad := by
    match ds with
    | [] => rfl
    | [_] => rfl
    | [_, _] => rfl
    | _ :: _ :: _ :: _ => rfl
  rw [h, hk, hb]
  show Ok (mkRes k c s.length (callL p k.init as e (s ++ [.obj c []]))) _
  unfold mkRes
  rw [ok_bind, ok_cL]
  refine cok_imp q fun d s' ⟨h1, fs, h2, h3, q⟩ => ?_
  subst h1 h2
  have e1 : (s ++ [Cl.obj c fs])[s.length]? = some (.obj c fs) := by simp
  simp only [e1]
  rw [if_pos ⟨trivial, h3⟩]
  have e2 : (s ++ [Cl.obj c fs]).set s.length .gone = s ++ [.gone] := by simp
  rw [e2]
  exact q
/-! f-strings -/
theorem e_fst {es : ES} (q : Ok (denFs p es [] e s) Q) : Ok (denE p (.fst es) e s) Q := by rw [denE]; exact q
theorem f_nil {acc : List Nat} (q : Q (.str acc) e s) : Ok (denFs p .nil acc e s) Q := by rw [denFs]; exact q
theorem f_cons {a : EX} {es : ES} {acc : List Nat} (q : Ok (denE p a e s) fun d e s => ∃ t, numF d = some t ∧ acc.length + t.length ≤ LIM ∧ Ok (denFs p es (acc ++ t) e s) Q) : Ok (denFs p (.cons a es) acc e s) Q := by
  rw [denFs, ok_bind]
  refine ok_imp q fun d e s ⟨t, h1, h2, q⟩ => ?_
  rw [h1]
  show Ok (if _ then _ else _) _
  rw [if_pos h2]
  exact q
/-! statements -/
variable {QS : Out → En → So → Prop}
def seqQ (p : Pg) (as : List ST) (QS : Out → En → So → Prop) : Out → En → So → Prop := fun o e s => match o with
  | .nx => Ok (denSS p as e s) QS
  | o => QS o e s
theorem ss_nil (q : QS .nx e s) : Ok (denSS p [] e s) QS := by rw [denSS]; exact q
theorem ss_cons {a : ST} {as : List ST} (q : Ok (denS p a e s) (seqQ p as QS)) : Ok (denSS p (a :: as) e s) QS := by
  rw [denSS, ok_bind]
  refine ok_imp q fun o e s q => ?_
  cases o <;> exact q
theorem ss_cut {a : ST} {as : List ST} (R : En → So → Prop) (q : Ok (denS p a e s) fun o e s => o = .nx ∧ R e s) (t : ∀ e s, R e s → Ok (denSS p as e s) QS) : Ok (denSS p (a :: as) e s) QS := by
  refine ss_cons (ok_imp q fun o e s h => ?_)
  obtain ⟨rfl, h⟩ := h
  exact t e s h
theorem ss_cutT {a : ST} {as : List ST} {R : En → So → Prop} (q : OT (denS p a e s) fun o e s => o = .nx ∧ R e s) (t : ∀ e s, R e s → Ok (denSS p as e s) QS) : Ok (denSS p (a :: as) e s) QS := ss_cut R q.h t
theorem q_nx {as : List ST} (q : Ok (denSS p as e s) QS) : seqQ p as QS .nx e s := q
theorem q_rt {as : List ST} {d : D} (q : QS (.rt d) e s) : seqQ p as QS (.rt d) e s := q
theorem s_asg {i : Nat} {a : EX} (q : Ok (denE p a e s) fun d e s => QS .nx (e.set i (.sh d)) s) : Ok (denS p (.asg i a) e s) QS := by rw [denS, ok_bind]; exact q
theorem s_asgo_lst {i : Nat} {es : ES} (q : Ok (denES p es e s) fun ds e s => QS .nx (e.set i (.ow (.lst ds))) s) : Ok (denS p (.asgo i (.lst es)) e s) QS := by rw [denS, ok_bind, denF]; exact q
theorem s_app {i : Nat} {a : EX} (h : isOwL e i = true) (q : Ok (denE p a e s) fun d e s => Ok (appD i d e s) QS) : Ok (denS p (.app i a) e s) QS := by rw [denS]; simp only [if_pos h, ok_bind]; exact q
theorem s_put {o i a : EX} (q : Ok (denE p a e s) fun d e s => Ok (denE p o e s) fun x e s => Ok (denE p i e s) fun k e s => Ok (putD x k d e s) QS) : Ok (denS p (.put o i a) e s) QS := by rw [denS]; simp only [ok_bind]; exact q
theorem put_ok {n j : Nat} {k : Int} {xs : List D} {d : D} (h1 : s[n]? = some (.lst xs)) (h2 : ixN xs.length k = some j) (q : QS .nx e (s.set n (.lst (xs.set j d)))) : Ok (putD (.ref n) (.int k) d e s) QS := by
  unfold putD
  simp only [h1, h2]
  exact q
theorem app_ok {i : Nat} {ds : List D} {d : D} (h1 : e[i]? = some (.ow (.lst ds))) (h2 : ds.length < LIM) (q : QS .nx (e.set i (.ow (.lst (ds ++ [d])))) s) : Ok (appD i d e s) QS := by
  unfold appD
  simp only [h1, if_pos h2]
  exact q
theorem s_ex {a : EX} (q : Ok (denE p a e s) fun d e s => QS .nx e s) : Ok (denS p (.ex a) e s) QS := by rw [denS, ok_bind]; exact q
theorem s_ret {a : EX} (q : Ok (denE p a e s) fun d e s => QS (.rt d) e s) : Ok (denS p (.ret a) e s) QS := by rw [denS, ok_bind]; exact q
theorem s_iff {t : EX} {a b : List ST} (q : Ok (denT p t e s) fun k e s => (k = true → Ok (denSS p a e s) QS) ∧ (k = false → Ok (denSS p b e s) QS)) : Ok (denS p (.iff t a b) e s) QS := by
  rw [denS, ok_bind]
  refine ok_imp q fun k e s q => ?_
  cases k with
  | true => exact q.1 rfl
  | false => exact q.2 rfl
theorem s_sfld {o a : EX} {f : Str} (q : Ok (denE p a e s) fun d e s => Ok (denE p o e s) fun x e s => Ok (sfldD p x f d e s) QS) : Ok (denS p (.sfld o f a) e s) QS := by rw [denS]; simp only [ok_bind]; exact q
/-- the last cell of the store is the object -/
theorem sfld_last {c : Nat} {k : Kl} {f : Str} {d : D} {fs : List (Str × D)} {s0 : So} (hk : p.kl[c]? = some k) (hf : (k.fields.contains f && decide (fs.length < 900)) = true) (q : QS .nx e (s0 ++ [.obj c (putFD f d fs)])) : Ok (sfldD p (.ref s0.length) f d e (s0 ++ [.obj c fs])) QS := by
  unfold sfldD
  have e1 : (s0 ++ [Cl.obj c fs])[s0.length]? = some (.obj c fs) := by simp
  have e2 : (s0 ++ [Cl.obj c fs]).set s0.length (.obj c (putFD f d fs)) = s0 ++ [.obj c (putFD f d fs)] := by simp
  simp only [e1, hk, if_pos hf, e2]
  exact q
theorem s_tasg {ts : List Nat} {es : ES} (q : Ok (denES p es e s) fun ds e s => Gd (ts.length = ds.length) (QS .nx ((ts.zip ds).foldl (fun e p => e.set p.1 (.sh p.2)) e) s)) : Ok (denS p (.tasg ts es) e s) QS := by
  rw [denS, ok_bind]
  refine ok_imp q fun ds e s q => ?_
  rw [if_pos q.1]
  exact q.2
theorem s_uasg {ts : List Nat} {a : EX} (q : Ok (denE p a e s) fun d e s => Oo (tgD e (.tup ts) d) fun e1 => QS .nx e1 s) : Ok (denS p (.uasg ts a) e s) QS := by
  rw [denS]; simp only [ok_bind, ok_opt]; exact q
theorem s_for {tg : Tg} {it : IT} {b : List ST} (q : Ok (denI p it e s) fun ds e s => Ok (forGo tg (denSS p b) ds e s) QS) : Ok (denS p (.for_ tg it b) e s) QS := by rw [denS, ok_bind]; exact q
/-- a loop with an invariant: every round ends plainly -/
theorem for_inv {tg : Tg} {m : DM Out} (I : En → So → Prop) : ∀ {ds : List D} {e : En} {s : So}, (∀ x ∈ ds, ∀ e s, I e s → ∃ e1, tgD e tg x = some e1 ∧ Ok (m e1 s) fun o e s => o = .nx ∧ I e s) → I e s → (∀ e s, I e s → QS .nx e s) → Ok (forGo tg m ds e s) QS
  | [], e, s, h, i, q => q e s i
  | x :: xs, e, s, h, i, q => by
    obtain ⟨e1, h1, h2⟩ := h x (by simp) e s i
    rw [forGo]
    simp only [h1, ok_bind]
    refine ok_imp h2 fun o e s z => ?_
    obtain ⟨rfl, i⟩ := z
    exact for_inv I (fun x hx => h x (by simp [hx])) i q
/-- a loop with an invariant that counts the rounds -/
theorem for_ix {tg : Tg} {m : DM Out} (I : Nat → En → So → Prop) : ∀ {ds : List D} {n : Nat} {e : En} {s : So}, (∀ (j : Nat) (x : D), j < ds.length → x ∈ ds → ∀ e s, I (n + j) e s → ∃ e1, tgD e tg x = some e1 ∧ Ok (m e1 s) fun o e s => o = .nx ∧ I (n + j + 1) e s) → I n e s → (∀ e s, I (n + ds.length) e s → QS .nx e s) → Ok (forGo tg m ds e s) QS
  | [], n, e, s, h, i, q => q e s i
  | x :: xs, n, e, s, h, i, q => by
    obtain ⟨e1, h1, h2⟩ := h 0 x (by simp) (by simp) e s i
    rw [forGo]
    simp only [h1, ok_bind]
    refine ok_imp h2 fun o e s z => ?_
    obtain ⟨rfl, i⟩ := z
    refine for_ix I (n := n + 1) (fun j x hj hx e s i => ?_) i (fun e s i => q e s ?_)
    · rw [show n + 1 + j = n + (j + 1) by omega] at i ⊢
      exact h (j + 1) x (by simp; omega) (by simp [hx]) e s i
    · rw [List.length_cons, show n + (xs.length + 1) = n + 1 + xs.length by omega]
      exact i
/-- a comprehension with an invariant of the store; its parts leave the names as they are -/
theorem lc_inv {own : List Nat} {tg : Tg} {t : DM Bool} {m : DM D} (R : D → D → Prop) (J : So → Prop) (e0 : En) : ∀ {ds acc : List D} {e : En} {s : So}, wipeD e own = e0 →
    (∀ x ∈ ds, ∃ e1, tgD e0 tg x = some e1 ∧ wipeD e1 own = e0 ∧ ∀ s, J s → Ok (t e1 s) (fun b e2 s2 => b = true ∧ e2 = e1 ∧ J s2) ∧ Ok (m e1 s) fun d e3 s3 => e3 = e1 ∧ R x d ∧ J s3) → J s →
    (∀ zs s, zs.length = ds.length → (∀ z ∈ zs, ∃ x ∈ ds, R x z) → J s → QL (acc ++ zs) e0 s) → Ok (lcGo own tg t m ds acc e s) QL
  | [], acc, e, s, he, h, j, q => by
    rw [lcGo, ok_ok, he]
    have := q [] s rfl (by simp) j
    rwa [List.append_nil] at this
  | x :: xs, acc, e, s, he, h, j, q => by
    obtain ⟨e1, h1, h2, h3⟩ := h x (by simp)
    rw [lcGo]
    simp only [he, h1, ok_bind]
    refine ok_imp (h3 s j).1 fun b e2 s2 z => ?_
    obtain ⟨rfl, rfl, j2⟩ := z
    show Ok ((m e2 s2).bind _) _
    rw [ok_bind]
    refine ok_imp (h3 s2 j2).2 fun d e3 s3 z => ?_
    obtain ⟨rfl, r, j3⟩ := z
    refine lc_inv R J e0 h2 (fun x hx => h x (by simp [hx])) j3 fun zs s hl hz j => ?_
    have := q (d :: zs) s (by simp [hl]) (fun z hz' => by
      rcases List.mem_cons.1 hz' with rfl | hz'
      · exact ⟨x, by simp, r⟩
      · obtain ⟨y, hy, r⟩ := hz z hz'
        exact ⟨y, by simp [hy], r⟩) j
    rwa [List.append_assoc]
/-- a comprehension that maps, the store at rest -/
theorem lc_map {own : List Nat} {tg : Tg} {t : DM Bool} {m : DM D} (g : D → D) (e0 : En) : ∀ {ds acc : List D} {e : En} {s : So}, wipeD e own = e0 →
    (∀ x ∈ ds, ∃ e1, tgD e0 tg x = some e1 ∧ wipeD e1 own = e0 ∧ Ok (t e1 s) (fun b e2 s2 => b = true ∧ e2 = e1 ∧ s2 = s) ∧ Ok (m e1 s) fun d e3 s3 => e3 = e1 ∧ d = g x ∧ s3 = s) →
    QL (acc ++ ds.map g) e0 s → Ok (lcGo own tg t m ds acc e s) QL
  | [], acc, e, s, he, h, q => by
    rw [lcGo, ok_ok, he]
    rwa [List.map_nil, List.append_nil] at q
  | x :: xs, acc, e, s, he, h, q => by
    obtain ⟨e1, h1, h2, h3, h4⟩ := h x (by simp)
    rw [lcGo]
    simp only [he, h1, ok_bind]
    refine ok_imp h3 fun b e2 s2 z => ?_
    obtain ⟨rfl, rfl, rfl⟩ := z
    show Ok ((m e2 s2).bind _) _
    rw [ok_bind]
    refine ok_imp h4 fun d e3 s3 z => ?_
    obtain ⟨rfl, rfl, rfl⟩ := z
    refine lc_map g e0 h2 (fun x hx => h x (by simp [hx])) ?_
    rw [List.append_assoc]
    exact q
theorem lcd {own : List Nat} {it : DM (List D)} {tg : Tg} {t : DM Bool} {m : DM D} (q : Ok (it e s) fun ds e1 s1 => Gd (own.all (fun v => (e1[v]?).all hid) = true) (Ok (lcGo own tg t m ds [] e1 s1) fun acc e2 s2 => QL acc (backD e1 e2 own) s2)) : Ok (lcD own it tg t m e s) QL := by
  unfold lcD
  rw [ok_bind]
  refine ok_imp q fun ds e1 s1 q => ?_
  rw [if_pos q.1]
  have q2 := q.2
  cases h : lcGo own tg t m ds [] e1 s1 with
  | ok a e s => rw [h] at q2; exact q2
  | er _ _ _ => rw [h] at q2; exact q2.elim
  | bad => rw [h] at q2; exact q2.elim
theorem ts_nil {QT : Bool → En → So → Prop} (q : QT true e s) : Ok (denTs p .nil e s) QT := by rw [denTs]; exact q
end
end Mx

namespace Mx
open PySem L2
/-! ### what the laws' own helpers keep -/
theorem cok_fnB {p : Pg} {f : Fn} {b : List ST} {n : Nat} {ds : List D} {s : So} {Q : D → So → Prop} (hb : f.body = b) (hN : f.N.length = n) (hp : f.ps.length = ds.length) (q : Ok (denSS p b (ds.map Sl.sh ++ List.replicate (n - ds.length) .un) s) (outD Q)) : COk (fnD p f ds s) Q := by
  subst hb hN
  exact cok_fn hp.symm q
/-- the bag of a law -/
def bagC (cs : List Int) (i : Nat) (r m n : Int) : Cl := .lst [.lst (cs.map .int), .int i, .int r, .int m, .int n]
def BagOk (c : Cl) : Prop := ∃ (cs : List Int) (i : Nat) (r m n : Int), c = bagC cs i r m n ∧ 0 ≤ r ∧ -(2 ^ 64) < m ∧ m < 2 ^ 64
def PullQ (many : Int) (R : So) : D → So → Prop := fun d s => ∃ (j : Nat) (c' : Cl), d = .int j ∧ s = c' :: R ∧ (j : Int) < many ∧ BagOk c'
theorem modlt {i j : Int} (h : 0 < j) (h2 : j ≤ 2 ^ 64) : -(2 ^ 64) < i % j ∧ i % j < 2 ^ 64 := ⟨by have := Int.emod_nonneg i (show j ≠ 0 by omega); omega, by have := Int.emod_lt_of_pos i h; omega⟩
theorem modnat {i j : Int} (h : 0 < j) : ∃ n : Nat, i % j = n ∧ (n : Int) < j := by
  obtain ⟨n, e⟩ := Int.eq_ofNat_of_zero_le (Int.emod_nonneg i (show j ≠ 0 by omega))
  exact ⟨n, e, by rw [← e]; exact Int.emod_lt_of_pos i h⟩
theorem sub_nat {xs : List D} {s : So} {d : D} {n : Nat} (h : xs[n]? = some d) : subD s (.lst xs) (.int n) = some d := by
  have hn : n < xs.length := by
    rcases Nat.lt_or_ge n xs.length with h1 | h1
    · exact h1
    · rw [List.getElem?_eq_none h1] at h; cases h
  simp only [subD, seqD, Option.bind, atI, ixN]
  rw [if_pos (by omega), if_pos (by omega)]
  simpa using h
def bagB : List ST := [.asg 1 (.c (.int 5740)),
      .for_ (.one 2) (.it (.slc (.var 0) .no (.yes (.c (.int 63))))) [.asg 1 (.bin .mod (.bi .int (.cons (.bin .add (.bin .add (.bin .mul (.var 1) (.c (.int 50021))) (.bin .mul (.bin .mod (.bi .int (.cons (.var 2) .nil)) (.c (.int 1000033))) (.c (.int 877)))) (.c (.int 11))) .nil)) (.c (.int 2147483587)))],
      .ret (.newl (.cons (.bi .list (.cons (.slc (.var 0) .no (.yes (.c (.int 63)))) .nil)) (.cons (.c (.int 0)) (.cons (.c (.int 0)) (.cons (.var 1) (.cons (.c (.int 0)) .nil))))))]
def pullB : List ST := [.put (.var 0) (.c (.int 4)) (.bin .add (.sub (.var 0) (.c (.int 4))) (.c (.int 1))),
      .iff (.and (.cmp .eq (.sub (.var 0) (.c (.int 2))) (.c (.int 0))) (.cmp .lt (.sub (.var 0) (.c (.int 1))) (.bi .len (.cons (.sub (.var 0) (.c (.int 0))) .nil)))) [.asg 2 (.sub (.sub (.var 0) (.c (.int 0))) (.sub (.var 0) (.c (.int 1)))),
      .put (.var 0) (.c (.int 1)) (.bin .add (.sub (.var 0) (.c (.int 1))) (.c (.int 1))),
      .iff (.cmp .ge (.bi .abs (.cons (.var 2) .nil)) (.bin .pow (.c (.int 10)) (.c (.int 18)))) [.put (.var 0) (.c (.int 2)) (.bi .abs (.cons (.var 2) .nil))] [.put (.var 0) (.c (.int 3)) (.bin .mod (.bi .int (.cons (.bin .add (.bin .add (.bin .mul (.sub (.var 0) (.c (.int 3))) (.c (.int 44017))) (.bin .mul (.bin .mod (.bi .int (.cons (.var 2) .nil)) (.c (.int 1000033))) (.c (.int 709)))) (.c (.int 29))) .nil)) (.c (.int 2147483629)))]] [],
      .iff (.cmp .gt (.sub (.var 0) (.c (.int 2))) (.c (.int 0))) [.asg 3 (.bin .mod (.bi .int (.cons (.sub (.var 0) (.c (.int 2))) .nil)) (.var 1)),
      .put (.var 0) (.c (.int 2)) (.bin .fdiv (.sub (.var 0) (.c (.int 2))) (.var 1)),
      .ret (.var 3)] [],
      .asg 4 (.bin .mod (.bi .int (.cons (.bin .add (.bin .mul (.sub (.var 0) (.c (.int 3))) (.sub (.var 0) (.c (.int 3)))) (.bin .mul (.sub (.var 0) (.c (.int 4))) (.c (.int 8087)))) .nil)) (.c (.int 2147483549))),
      .put (.var 0) (.c (.int 3)) (.bin .mod (.bi .int (.cons (.bin .add (.bin .add (.bin .mul (.var 4) (.c (.int 16417))) (.bin .mul (.sub (.var 0) (.c (.int 3))) (.c (.int 60013)))) (.c (.int 54321))) .nil)) (.c (.int 2147483629))),
      .ret (.bin .mod (.bi .int (.cons (.bin .fdiv (.sub (.var 0) (.c (.int 3))) (.c (.int 64))) .nil)) (.var 1))]
theorem pull_tail (p : Pg) {many : Int} (h0 : 0 < many) (h1 : many < 1073741824) {cs : List Int} {i : Nat} {r m n : Int} (hr : 0 ≤ r) (hm1 : -(2 ^ 64) < m) (hm2 : m < 2 ^ 64) (x : Sl) (R : So) :
    Ok (denSS p (pullB.drop 2) [.sh (.ref 0), .sh (.int many), x, .un, .un] (bagC cs i r m n :: R)) (outD (PullQ many R)) := by
  dsimp only [pullB, List.drop, bagC]
  repeat (first | with_reducible refine ss_cons ?_ | with_reducible refine s_put ?_ | with_reducible refine s_asg ?_ | with_reducible refine s_asgo_lst ?_ | with_reducible refine s_ex ?_ | with_reducible refine s_ret ?_ | with_reducible refine s_iff ?_ | with_reducible refine s_for ?_ | with_reducible refine e_c ?_ | with_reducible refine e_glo ?_ | with_reducible refine e_lst ?_ | with_reducible refine e_tup ?_ | with_reducible refine e_newl ?_ | with_reducible refine e_bin ?_ | with_reducible refine e_cmp ?_ | with_reducible refine e_chn ?_ | with_reducible refine e_isn ?_ | with_reducible refine e_and ?_ | with_reducible refine e_or ?_ | with_reducible refine e_not ?_ | with_reducible refine e_ife ?_ | with_reducible refine e_call ?_ | with_reducible refine e_bi ?_ | with_reducible refine e_mt ?_ | with_reducible refine e_sub ?_ | with_reducible refine e_slc ?_ | with_reducible refine e_isi ?_ | with_reducible refine e_isiT ?_ | with_reducible refine e_lc ?_ | with_reducible refine e_op1 ?_ | with_reducible refine e_opn ?_ | with_reducible refine e_fst ?_ | with_reducible refine es_nil ?_ | with_reducible refine es_cons ?_ | with_reducible refine eo_no ?_ | with_reducible refine eo_yes ?_ | with_reducible refine ei_it ?_ | with_reducible refine ei_rng ?_ | with_reducible refine ei_zip ?_ | with_reducible refine ei_enm ?_ | with_reducible refine t_cmp ?_ | with_reducible refine t_isn ?_ | with_reducible refine t_and ?_ | with_reducible refine t_or ?_ | with_reducible refine t_not ?_ | with_reducible refine t_call ?_ | with_reducible refine t_isi ?_ | with_reducible refine t_isiT ?_ | with_reducible refine t_op1 ?_ | with_reducible refine t_opn ?_ | with_reducible refine o_neg ?_ | with_reducible refine o_fld ?_ | with_reducible refine o_isc ?_ | with_reducible refine o_gdic ?_ | with_reducible refine o_ccon ?_ | with_reducible refine f_nil ?_ | with_reducible refine f_cons ?_ | with_reducible refine s_sfld ?_ | with_reducible refine s_tasg ?_ | with_reducible refine s_uasg ?_ | with_reducible refine ss_nil ?_ | with_reducible refine q_nx ?_ | with_reducible refine q_rt ?_ | with_reducible refine ts_nil ?_ | with_reducible refine lcd ?_ | with_reducible refine o_rt ?_ | with_reducible refine e_var (by with_unfolding_all rfl) ?_ | with_reducible refine t_var (by with_unfolding_all rfl) ?_ | with_reducible refine oo_mod (by omega) ?_ | with_reducible refine oo_fdiv (by omega) ?_ | with_reducible refine oo_mul (by omega) ?_ | with_reducible refine as_b ?_ | with_reducible refine as_i ?_ | with_reducible refine dec_t (by with_unfolding_all rfl) ?_ | with_reducible refine dec_f (by with_unfolding_all rfl) ?_ | with_reducible refine dec_t' (by with_unfolding_all rfl) ?_ | with_reducible refine dec_f' (by with_unfolding_all rfl) ?_ | with_reducible refine put_ok (by with_unfolding_all rfl) (by with_unfolding_all rfl) ?_ | with_reducible refine pg_cl ?_ | with_reducible refine pg_cl1 ?_ | with_reducible refine gd_rfl (by with_unfolding_all rfl) ?_ | with_reducible refine oo (by with_unfolding_all rfl) ?_)
  refine ⟨fun hk => ?_, fun hk => ?_⟩
  · repeat (first | with_reducible refine ss_cons ?_ | with_reducible refine s_put ?_ | with_reducible refine s_asg ?_ | with_reducible refine s_asgo_lst ?_ | with_reducible refine s_ex ?_ | with_reducible refine s_ret ?_ | with_reducible refine s_iff ?_ | with_reducible refine s_for ?_ | with_reducible refine e_c ?_ | with_reducible refine e_glo ?_ | with_reducible refine e_lst ?_ | with_reducible refine e_tup ?_ | with_reducible refine e_newl ?_ | with_reducible refine e_bin ?_ | with_reducible refine e_cmp ?_ | with_reducible refine e_chn ?_ | with_reducible refine e_isn ?_ | with_reducible refine e_and ?_ | with_reducible refine e_or ?_ | with_reducible refine e_not ?_ | with_reducible refine e_ife ?_ | with_reducible refine e_call ?_ | with_reducible refine e_bi ?_ | with_reducible refine e_mt ?_ | with_reducible refine e_sub ?_ | with_reducible refine e_slc ?_ | with_reducible refine e_isi ?_ | with_reducible refine e_isiT ?_ | with_reducible refine e_lc ?_ | with_reducible refine e_op1 ?_ | with_reducible refine e_opn ?_ | with_reducible refine e_fst ?_ | with_reducible refine es_nil ?_ | with_reducible refine es_cons ?_ | with_reducible refine eo_no ?_ | with_reducible refine eo_yes ?_ | with_reducible refine ei_it ?_ | with_reducible refine ei_rng ?_ | with_reducible refine ei_zip ?_ | with_reducible refine ei_enm ?_ | with_reducible refine t_cmp ?_ | with_reducible refine t_isn ?_ | with_reducible refine t_and ?_ | with_reducible refine t_or ?_ | with_reducible refine t_not ?_ | with_reducible refine t_call ?_ | with_reducible refine t_isi ?_ | with_reducible refine t_isiT ?_ | with_reducible refine t_op1 ?_ | with_reducible refine t_opn ?_ | with_reducible refine o_neg ?_ | with_reducible refine o_fld ?_ | with_reducible refine o_isc ?_ | with_reducible refine o_gdic ?_ | with_reducible refine o_ccon ?_ | with_reducible refine f_nil ?_ | with_reducible refine f_cons ?_ | with_reducible refine s_sfld ?_ | with_reducible refine s_tasg ?_ | with_reducible refine s_uasg ?_ | with_reducible refine ss_nil ?_ | with_reducible refine q_nx ?_ | with_reducible refine q_rt ?_ | with_reducible refine ts_nil ?_ | with_reducible refine lcd ?_ | with_reducible refine o_rt ?_ | with_reducible refine e_var (by with_unfolding_all rfl) ?_ | with_reducible refine t_var (by with_unfolding_all rfl) ?_ | with_reducible refine oo_mod (by omega) ?_ | with_reducible refine oo_fdiv (by omega) ?_ | with_reducible refine oo_mul (by omega) ?_ | with_reducible refine as_b ?_ | with_reducible refine as_i ?_ | with_reducible refine dec_t (by with_unfolding_all rfl) ?_ | with_reducible refine dec_f (by with_unfolding_all rfl) ?_ | with_reducible refine dec_t' (by with_unfolding_all rfl) ?_ | with_reducible refine dec_f' (by with_unfolding_all rfl) ?_ | with_reducible refine put_ok (by with_unfolding_all rfl) (by with_unfolding_all rfl) ?_ | with_reducible refine pg_cl ?_ | with_reducible refine pg_cl1 ?_ | with_reducible refine gd_rfl (by with_unfolding_all rfl) ?_ | with_reducible refine oo (by with_unfolding_all rfl) ?_)
    obtain ⟨j, e, hj⟩ := modnat (i := r) h0
    exact ⟨j, _, by rw [e], rfl, hj, cs, i, r / many, m, n, rfl, Int.ediv_nonneg hr (by omega), hm1, hm2⟩
  · repeat (first | with_reducible refine ss_cons ?_ | with_reducible refine s_put ?_ | with_reducible refine s_asg ?_ | with_reducible refine s_asgo_lst ?_ | with_reducible refine s_ex ?_ | with_reducible refine s_ret ?_ | with_reducible refine s_iff ?_ | with_reducible refine s_for ?_ | with_reducible refine e_c ?_ | with_reducible refine e_glo ?_ | with_reducible refine e_lst ?_ | with_reducible refine e_tup ?_ | with_reducible refine e_newl ?_ | with_reducible refine e_bin ?_ | with_reducible refine e_cmp ?_ | with_reducible refine e_chn ?_ | with_reducible refine e_isn ?_ | with_reducible refine e_and ?_ | with_reducible refine e_or ?_ | with_reducible refine e_not ?_ | with_reducible refine e_ife ?_ | with_reducible refine e_call ?_ | with_reducible refine e_bi ?_ | with_reducible refine e_mt ?_ | with_reducible refine e_sub ?_ | with_reducible refine e_slc ?_ | with_reducible refine e_isi ?_ | with_reducible refine e_isiT ?_ | with_reducible refine e_lc ?_ | with_reducible refine e_op1 ?_ | with_reducible refine e_opn ?_ | with_reducible refine e_fst ?_ | with_reducible refine es_nil ?_ | with_reducible refine es_cons ?_ | with_reducible refine eo_no ?_ | with_reducible refine eo_yes ?_ | with_reducible refine ei_it ?_ | with_reducible refine ei_rng ?_ | with_reducible refine ei_zip ?_ | with_reducible refine ei_enm ?_ | with_reducible refine t_cmp ?_ | with_reducible refine t_isn ?_ | with_reducible refine t_and ?_ | with_reducible refine t_or ?_ | with_reducible refine t_not ?_ | with_reducible refine t_call ?_ | with_reducible refine t_isi ?_ | with_reducible refine t_isiT ?_ | with_reducible refine t_op1 ?_ | with_reducible refine t_opn ?_ | with_reducible refine o_neg ?_ | with_reducible refine o_fld ?_ | with_reducible refine o_isc ?_ | with_reducible refine o_gdic ?_ | with_reducible refine o_ccon ?_ | with_reducible refine f_nil ?_ | with_reducible refine f_cons ?_ | with_reducible refine s_sfld ?_ | with_reducible refine s_tasg ?_ | with_reducible refine s_uasg ?_ | with_reducible refine ss_nil ?_ | with_reducible refine q_nx ?_ | with_reducible refine q_rt ?_ | with_reducible refine ts_nil ?_ | with_reducible refine lcd ?_ | with_reducible refine o_rt ?_ | with_reducible refine e_var (by with_unfolding_all rfl) ?_ | with_reducible refine t_var (by with_unfolding_all rfl) ?_ | with_reducible refine oo_mod (by omega) ?_ | with_reducible refine oo_fdiv (by omega) ?_ | with_reducible refine oo_mul (by omega) ?_ | with_reducible refine as_b ?_ | with_reducible refine as_i ?_ | with_reducible refine dec_t (by with_unfolding_all rfl) ?_ | with_reducible refine dec_f (by with_unfolding_all rfl) ?_ | with_reducible refine dec_t' (by with_unfolding_all rfl) ?_ | with_reducible refine dec_f' (by with_unfolding_all rfl) ?_ | with_reducible refine put_ok (by with_unfolding_all rfl) (by with_unfolding_all rfl) ?_ | with_reducible refine pg_cl ?_ | with_reducible refine pg_cl1 ?_ | with_reducible refine gd_rfl (by with_unfolding_all rfl) ?_ | with_reducible refine oo (by with_unfolding_all rfl) ?_)
    obtain ⟨j, e, hj⟩ := modnat (i := _) h0
    exact ⟨j, _, by rw [e], rfl, hj, cs, i, r, _, n, rfl, hr, modlt (by omega) (by omega)⟩
theorem pull_fn {p : Pg} {f : Fn} (hb : f.body = pullB) (hN : f.N.length = 5) (hp : f.ps.length = 2) {many : Int} (h0 : 0 < many) (h1 : many < 1073741824) {c : Cl} {R : So} (B : BagOk c) : COk (fnD p f [.ref 0, .int many] (c :: R)) (PullQ many R) := by
  obtain ⟨cs, i, r, m, n, rfl, hr, hm1, hm2⟩ := B
  refine cok_fnB hb hN hp ?_
  refine ss_cons ?_
  dsimp only [bagC]
  repeat (first | with_reducible refine s_put ?_ | with_reducible refine s_asg ?_ | with_reducible refine s_asgo_lst ?_ | with_reducible refine s_ex ?_ | with_reducible refine s_ret ?_ | with_reducible refine s_iff ?_ | with_reducible refine s_for ?_ | with_reducible refine e_c ?_ | with_reducible refine e_glo ?_ | with_reducible refine e_lst ?_ | with_reducible refine e_tup ?_ | with_reducible refine e_newl ?_ | with_reducible refine e_bin ?_ | with_reducible refine e_cmp ?_ | with_reducible refine e_chn ?_ | with_reducible refine e_isn ?_ | with_reducible refine e_and ?_ | with_reducible refine e_or ?_ | with_reducible refine e_not ?_ | with_reducible refine e_ife ?_ | with_reducible refine e_call ?_ | with_reducible refine e_bi ?_ | with_reducible refine e_mt ?_ | with_reducible refine e_sub ?_ | with_reducible refine e_slc ?_ | with_reducible refine e_isi ?_ | with_reducible refine e_isiT ?_ | with_reducible refine e_lc ?_ | with_reducible refine e_op1 ?_ | with_reducible refine e_opn ?_ | with_reducible refine e_fst ?_ | with_reducible refine es_nil ?_ | with_reducible refine es_cons ?_ | with_reducible refine eo_no ?_ | with_reducible refine eo_yes ?_ | with_reducible refine ei_it ?_ | with_reducible refine ei_rng ?_ | with_reducible refine ei_zip ?_ | with_reducible refine ei_enm ?_ | with_reducible refine t_cmp ?_ | with_reducible refine t_isn ?_ | with_reducible refine t_and ?_ | with_reducible refine t_or ?_ | with_reducible refine t_not ?_ | with_reducible refine t_call ?_ | with_reducible refine t_isi ?_ | with_reducible refine t_isiT ?_ | with_reducible refine t_op1 ?_ | with_reducible refine t_opn ?_ | with_reducible refine o_neg ?_ | with_reducible refine o_fld ?_ | with_reducible refine o_isc ?_ | with_reducible refine o_gdic ?_ | with_reducible refine o_ccon ?_ | with_reducible refine f_nil ?_ | with_reducible refine f_cons ?_ | with_reducible refine s_sfld ?_ | with_reducible refine s_tasg ?_ | with_reducible refine s_uasg ?_ | with_reducible refine ss_nil ?_ | with_reducible refine q_nx ?_ | with_reducible refine q_rt ?_ | with_reducible refine ts_nil ?_ | with_reducible refine lcd ?_ | with_reducible refine o_rt ?_ | with_reducible refine e_var (by with_unfolding_all rfl) ?_ | with_reducible refine t_var (by with_unfolding_all rfl) ?_ | with_reducible refine oo_mod (by omega) ?_ | with_reducible refine oo_fdiv (by omega) ?_ | with_reducible refine oo_mul (by omega) ?_ | with_reducible refine as_b ?_ | with_reducible refine as_i ?_ | with_reducible refine dec_t (by with_unfolding_all rfl) ?_ | with_reducible refine dec_f (by with_unfolding_all rfl) ?_ | with_reducible refine dec_t' (by with_unfolding_all rfl) ?_ | with_reducible refine dec_f' (by with_unfolding_all rfl) ?_ | with_reducible refine put_ok (by with_unfolding_all rfl) (by with_unfolding_all rfl) ?_ | with_reducible refine pg_cl ?_ | with_reducible refine pg_cl1 ?_ | with_reducible refine gd_rfl (by with_unfolding_all rfl) ?_ | with_reducible refine oo (by with_unfolding_all rfl) ?_)
  refine ss_cut (fun e s => ∃ i r m n x, e = [.sh (.ref 0), .sh (.int many), x, .un, .un] ∧ s = bagC cs i r m n :: R ∧ 0 ≤ r ∧ -(2 ^ 64) < m ∧ m < 2 ^ 64) ?_ ?_
  · repeat (first | with_reducible refine ss_cons ?_ | with_reducible refine s_put ?_ | with_reducible refine s_asg ?_ | with_reducible refine s_asgo_lst ?_ | with_reducible refine s_ex ?_ | with_reducible refine s_ret ?_ | with_reducible refine s_iff ?_ | with_reducible refine s_for ?_ | with_reducible refine e_c ?_ | with_reducible refine e_glo ?_ | with_reducible refine e_lst ?_ | with_reducible refine e_tup ?_ | with_reducible refine e_newl ?_ | with_reducible refine e_bin ?_ | with_reducible refine e_cmp ?_ | with_reducible refine e_chn ?_ | with_reducible refine e_isn ?_ | with_reducible refine e_and ?_ | with_reducible refine e_or ?_ | with_reducible refine e_not ?_ | with_reducible refine e_ife ?_ | with_reducible refine e_call ?_ | with_reducible refine e_bi ?_ | with_reducible refine e_mt ?_ | with_reducible refine e_sub ?_ | with_reducible refine e_slc ?_ | with_reducible refine e_isi ?_ | with_reducible refine e_isiT ?_ | with_reducible refine e_lc ?_ | with_reducible refine e_op1 ?_ | with_reducible refine e_opn ?_ | with_reducible refine e_fst ?_ | with_reducible refine es_nil ?_ | with_reducible refine es_cons ?_ | with_reducible refine eo_no ?_ | with_reducible refine eo_yes ?_ | with_reducible refine ei_it ?_ | with_reducible refine ei_rng ?_ | with_reducible refine ei_zip ?_ | with_reducible refine ei_enm ?_ | with_reducible refine t_cmp ?_ | with_reducible refine t_isn ?_ | with_reducible refine t_and ?_ | with_reducible refine t_or ?_ | with_reducible refine t_not ?_ | with_reducible refine t_call ?_ | with_reducible refine t_isi ?_ | with_reducible refine t_isiT ?_ | with_reducible refine t_op1 ?_ | with_reducible refine t_opn ?_ | with_reducible refine o_neg ?_ | with_reducible refine o_fld ?_ | with_reducible refine o_isc ?_ | with_reducible refine o_gdic ?_ | with_reducible refine o_ccon ?_ | with_reducible refine f_nil ?_ | with_reducible refine f_cons ?_ | with_reducible refine s_sfld ?_ | with_reducible refine s_tasg ?_ | with_reducible refine s_uasg ?_ | with_reducible refine ss_nil ?_ | with_reducible refine q_nx ?_ | with_reducible refine q_rt ?_ | with_reducible refine ts_nil ?_ | with_reducible refine lcd ?_ | with_reducible refine o_rt ?_ | with_reducible refine e_var (by with_unfolding_all rfl) ?_ | with_reducible refine t_var (by with_unfolding_all rfl) ?_ | with_reducible refine oo_mod (by omega) ?_ | with_reducible refine oo_fdiv (by omega) ?_ | with_reducible refine oo_mul (by omega) ?_ | with_reducible refine as_b ?_ | with_reducible refine as_i ?_ | with_reducible refine dec_t (by with_unfolding_all rfl) ?_ | with_reducible refine dec_f (by with_unfolding_all rfl) ?_ | with_reducible refine dec_t' (by with_unfolding_all rfl) ?_ | with_reducible refine dec_f' (by with_unfolding_all rfl) ?_ | with_reducible refine put_ok (by with_unfolding_all rfl) (by with_unfolding_all rfl) ?_ | with_reducible refine pg_cl ?_ | with_reducible refine pg_cl1 ?_ | with_reducible refine gd_rfl (by with_unfolding_all rfl) ?_ | with_reducible refine oo (by with_unfolding_all rfl) ?_)
    refine ⟨fun hk => ?_, fun hk => ?_⟩
    · repeat (first | with_reducible refine ss_cons ?_ | with_reducible refine s_put ?_ | with_reducible refine s_asg ?_ | with_reducible refine s_asgo_lst ?_ | with_reducible refine s_ex ?_ | with_reducible refine s_ret ?_ | with_reducible refine s_iff ?_ | with_reducible refine s_for ?_ | with_reducible refine e_c ?_ | with_reducible refine e_glo ?_ | with_reducible refine e_lst ?_ | with_reducible refine e_tup ?_ | with_reducible refine e_newl ?_ | with_reducible refine e_bin ?_ | with_reducible refine e_cmp ?_ | with_reducible refine e_chn ?_ | with_reducible refine e_isn ?_ | with_reducible refine e_and ?_ | with_reducible refine e_or ?_ | with_reducible refine e_not ?_ | with_reducible refine e_ife ?_ | with_reducible refine e_call ?_ | with_reducible refine e_bi ?_ | with_reducible refine e_mt ?_ | with_reducible refine e_sub ?_ | with_reducible refine e_slc ?_ | with_reducible refine e_isi ?_ | with_reducible refine e_isiT ?_ | with_reducible refine e_lc ?_ | with_reducible refine e_op1 ?_ | with_reducible refine e_opn ?_ | with_reducible refine e_fst ?_ | with_reducible refine es_nil ?_ | with_reducible refine es_cons ?_ | with_reducible refine eo_no ?_ | with_reducible refine eo_yes ?_ | with_reducible refine ei_it ?_ | with_reducible refine ei_rng ?_ | with_reducible refine ei_zip ?_ | with_reducible refine ei_enm ?_ | with_reducible refine t_cmp ?_ | with_reducible refine t_isn ?_ | with_reducible refine t_and ?_ | with_reducible refine t_or ?_ | with_reducible refine t_not ?_ | with_reducible refine t_call ?_ | with_reducible refine t_isi ?_ | with_reducible refine t_isiT ?_ | with_reducible refine t_op1 ?_ | with_reducible refine t_opn ?_ | with_reducible refine o_neg ?_ | with_reducible refine o_fld ?_ | with_reducible refine o_isc ?_ | with_reducible refine o_gdic ?_ | with_reducible refine o_ccon ?_ | with_reducible refine f_nil ?_ | with_reducible refine f_cons ?_ | with_reducible refine s_sfld ?_ | with_reducible refine s_tasg ?_ | with_reducible refine s_uasg ?_ | with_reducible refine ss_nil ?_ | with_reducible refine q_nx ?_ | with_reducible refine q_rt ?_ | with_reducible refine ts_nil ?_ | with_reducible refine lcd ?_ | with_reducible refine o_rt ?_ | with_reducible refine e_var (by with_unfolding_all rfl) ?_ | with_reducible refine t_var (by with_unfolding_all rfl) ?_ | with_reducible refine oo_mod (by omega) ?_ | with_reducible refine oo_fdiv (by omega) ?_ | with_reducible refine oo_mul (by omega) ?_ | with_reducible refine as_b ?_ | with_reducible refine as_i ?_ | with_reducible refine dec_t (by with_unfolding_all rfl) ?_ | with_reducible refine dec_f (by with_unfolding_all rfl) ?_ | with_reducible refine dec_t' (by with_unfolding_all rfl) ?_ | with_reducible refine dec_f' (by with_unfolding_all rfl) ?_ | with_reducible refine put_ok (by with_unfolding_all rfl) (by with_unfolding_all rfl) ?_ | with_reducible refine pg_cl ?_ | with_reducible refine pg_cl1 ?_ | with_reducible refine gd_rfl (by with_unfolding_all rfl) ?_ | with_reducible refine oo (by with_unfolding_all rfl) ?_)
      refine ⟨fun hi => ?_, fun hi => ?_⟩
      · have hi' : i < cs.length := by
          have := of_decide_eq_true hi
          simp only [List.length_map] at this
          omega
        have hc : (cs.map D.int)[i]? = some (.int cs[i]) := by simp [hi']
        repeat (first | with_reducible refine ss_cons ?_ | with_reducible refine s_put ?_ | with_reducible refine s_asg ?_ | with_reducible refine s_asgo_lst ?_ | with_reducible refine s_ex ?_ | with_reducible refine s_ret ?_ | with_reducible refine s_iff ?_ | with_reducible refine s_for ?_ | with_reducible refine e_c ?_ | with_reducible refine e_glo ?_ | with_reducible refine e_lst ?_ | with_reducible refine e_tup ?_ | with_reducible refine e_newl ?_ | with_reducible refine e_bin ?_ | with_reducible refine e_cmp ?_ | with_reducible refine e_chn ?_ | with_reducible refine e_isn ?_ | with_reducible refine e_and ?_ | with_reducible refine e_or ?_ | with_reducible refine e_not ?_ | with_reducible refine e_ife ?_ | with_reducible refine e_call ?_ | with_reducible refine e_bi ?_ | with_reducible refine e_mt ?_ | with_reducible refine e_sub ?_ | with_reducible refine e_slc ?_ | with_reducible refine e_isi ?_ | with_reducible refine e_isiT ?_ | with_reducible refine e_lc ?_ | with_reducible refine e_op1 ?_ | with_reducible refine e_opn ?_ | with_reducible refine e_fst ?_ | with_reducible refine es_nil ?_ | with_reducible refine es_cons ?_ | with_reducible refine eo_no ?_ | with_reducible refine eo_yes ?_ | with_reducible refine ei_it ?_ | with_reducible refine ei_rng ?_ | with_reducible refine ei_zip ?_ | with_reducible refine ei_enm ?_ | with_reducible refine t_cmp ?_ | with_reducible refine t_isn ?_ | with_reducible refine t_and ?_ | with_reducible refine t_or ?_ | with_reducible refine t_not ?_ | with_reducible refine t_call ?_ | with_reducible refine t_isi ?_ | with_reducible refine t_isiT ?_ | with_reducible refine t_op1 ?_ | with_reducible refine t_opn ?_ | with_reducible refine o_neg ?_ | with_reducible refine o_fld ?_ | with_reducible refine o_isc ?_ | with_reducible refine o_gdic ?_ | with_reducible refine o_ccon ?_ | with_reducible refine f_nil ?_ | with_reducible refine f_cons ?_ | with_reducible refine s_sfld ?_ | with_reducible refine s_tasg ?_ | with_reducible refine s_uasg ?_ | with_reducible refine ss_nil ?_ | with_reducible refine q_nx ?_ | with_reducible refine q_rt ?_ | with_reducible refine ts_nil ?_ | with_reducible refine lcd ?_ | with_reducible refine o_rt ?_ | with_reducible refine e_var (by with_unfolding_all rfl) ?_ | with_reducible refine t_var (by with_unfolding_all rfl) ?_ | with_reducible refine oo_mod (by omega) ?_ | with_reducible refine oo_fdiv (by omega) ?_ | with_reducible refine oo_mul (by omega) ?_ | with_reducible refine as_b ?_ | with_reducible refine as_i ?_ | with_reducible refine dec_t (by with_unfolding_all rfl) ?_ | with_reducible refine dec_f (by with_unfolding_all rfl) ?_ | with_reducible refine dec_t' (by with_unfolding_all rfl) ?_ | with_reducible refine dec_f' (by with_unfolding_all rfl) ?_ | with_reducible refine put_ok (by with_unfolding_all rfl) (by with_unfolding_all rfl) ?_ | with_reducible refine pg_cl ?_ | with_reducible refine pg_cl1 ?_ | with_reducible refine gd_rfl (by with_unfolding_all rfl) ?_ | with_reducible refine oo (by with_unfolding_all rfl) ?_)
        refine oo (sub_nat hc) ?_
        repeat (first | with_reducible refine ss_cons ?_ | with_reducible refine s_put ?_ | with_reducible refine s_asg ?_ | with_reducible refine s_asgo_lst ?_ | with_reducible refine s_ex ?_ | with_reducible refine s_ret ?_ | with_reducible refine s_iff ?_ | with_reducible refine s_for ?_ | with_reducible refine e_c ?_ | with_reducible refine e_glo ?_ | with_reducible refine e_lst ?_ | with_reducible refine e_tup ?_ | with_reducible refine e_newl ?_ | with_reducible refine e_bin ?_ | with_reducible refine e_cmp ?_ | with_reducible refine e_chn ?_ | with_reducible refine e_isn ?_ | with_reducible refine e_and ?_ | with_reducible refine e_or ?_ | with_reducible refine e_not ?_ | with_reducible refine e_ife ?_ | with_reducible refine e_call ?_ | with_reducible refine e_bi ?_ | with_reducible refine e_mt ?_ | with_reducible refine e_sub ?_ | with_reducible refine e_slc ?_ | with_reducible refine e_isi ?_ | with_reducible refine e_isiT ?_ | with_reducible refine e_lc ?_ | with_reducible refine e_op1 ?_ | with_reducible refine e_opn ?_ | with_reducible refine e_fst ?_ | with_reducible refine es_nil ?_ | with_reducible refine es_cons ?_ | with_reducible refine eo_no ?_ | with_reducible refine eo_yes ?_ | with_reducible refine ei_it ?_ | with_reducible refine ei_rng ?_ | with_reducible refine ei_zip ?_ | with_reducible refine ei_enm ?_ | with_reducible refine t_cmp ?_ | with_reducible refine t_isn ?_ | with_reducible refine t_and ?_ | with_reducible refine t_or ?_ | with_reducible refine t_not ?_ | with_reducible refine t_call ?_ | with_reducible refine t_isi ?_ | with_reducible refine t_isiT ?_ | with_reducible refine t_op1 ?_ | with_reducible refine t_opn ?_ | with_reducible refine o_neg ?_ | with_reducible refine o_fld ?_ | with_reducible refine o_isc ?_ | with_reducible refine o_gdic ?_ | with_reducible refine o_ccon ?_ | with_reducible refine f_nil ?_ | with_reducible refine f_cons ?_ | with_reducible refine s_sfld ?_ | with_reducible refine s_tasg ?_ | with_reducible refine s_uasg ?_ | with_reducible refine ss_nil ?_ | with_reducible refine q_nx ?_ | with_reducible refine q_rt ?_ | with_reducible refine ts_nil ?_ | with_reducible refine lcd ?_ | with_reducible refine o_rt ?_ | with_reducible refine e_var (by with_unfolding_all rfl) ?_ | with_reducible refine t_var (by with_unfolding_all rfl) ?_ | with_reducible refine oo_mod (by omega) ?_ | with_reducible refine oo_fdiv (by omega) ?_ | with_reducible refine oo_mul (by omega) ?_ | with_reducible refine as_b ?_ | with_reducible refine as_i ?_ | with_reducible refine dec_t (by with_unfolding_all rfl) ?_ | with_reducible refine dec_f (by with_unfolding_all rfl) ?_ | with_reducible refine dec_t' (by with_unfolding_all rfl) ?_ | with_reducible refine dec_f' (by with_unfolding_all rfl) ?_ | with_reducible refine put_ok (by with_unfolding_all rfl) (by with_unfolding_all rfl) ?_ | with_reducible refine pg_cl ?_ | with_reducible refine pg_cl1 ?_ | with_reducible refine gd_rfl (by with_unfolding_all rfl) ?_ | with_reducible refine oo (by with_unfolding_all rfl) ?_)
        refine ⟨fun hk2 => ?_, fun hk2 => ?_⟩
        · repeat (first | with_reducible refine ss_cons ?_ | with_reducible refine s_put ?_ | with_reducible refine s_asg ?_ | with_reducible refine s_asgo_lst ?_ | with_reducible refine s_ex ?_ | with_reducible refine s_ret ?_ | with_reducible refine s_iff ?_ | with_reducible refine s_for ?_ | with_reducible refine e_c ?_ | with_reducible refine e_glo ?_ | with_reducible refine e_lst ?_ | with_reducible refine e_tup ?_ | with_reducible refine e_newl ?_ | with_reducible refine e_bin ?_ | with_reducible refine e_cmp ?_ | with_reducible refine e_chn ?_ | with_reducible refine e_isn ?_ | with_reducible refine e_and ?_ | with_reducible refine e_or ?_ | with_reducible refine e_not ?_ | with_reducible refine e_ife ?_ | with_reducible refine e_call ?_ | with_reducible refine e_bi ?_ | with_reducible refine e_mt ?_ | with_reducible refine e_sub ?_ | with_reducible refine e_slc ?_ | with_reducible refine e_isi ?_ | with_reducible refine e_isiT ?_ | with_reducible refine e_lc ?_ | with_reducible refine e_op1 ?_ | with_reducible refine e_opn ?_ | with_reducible refine e_fst ?_ | with_reducible refine es_nil ?_ | with_reducible refine es_cons ?_ | with_reducible refine eo_no ?_ | with_reducible refine eo_yes ?_ | with_reducible refine ei_it ?_ | with_reducible refine ei_rng ?_ | with_reducible refine ei_zip ?_ | with_reducible refine ei_enm ?_ | with_reducible refine t_cmp ?_ | with_reducible refine t_isn ?_ | with_reducible refine t_and ?_ | with_reducible refine t_or ?_ | with_reducible refine t_not ?_ | with_reducible refine t_call ?_ | with_reducible refine t_isi ?_ | with_reducible refine t_isiT ?_ | with_reducible refine t_op1 ?_ | with_reducible refine t_opn ?_ | with_reducible refine o_neg ?_ | with_reducible refine o_fld ?_ | with_reducible refine o_isc ?_ | with_reducible refine o_gdic ?_ | with_reducible refine o_ccon ?_ | with_reducible refine f_nil ?_ | with_reducible refine f_cons ?_ | with_reducible refine s_sfld ?_ | with_reducible refine s_tasg ?_ | with_reducible refine s_uasg ?_ | with_reducible refine ss_nil ?_ | with_reducible refine q_nx ?_ | with_reducible refine q_rt ?_ | with_reducible refine ts_nil ?_ | with_reducible refine lcd ?_ | with_reducible refine o_rt ?_ | with_reducible refine e_var (by with_unfolding_all rfl) ?_ | with_reducible refine t_var (by with_unfolding_all rfl) ?_ | with_reducible refine oo_mod (by omega) ?_ | with_reducible refine oo_fdiv (by omega) ?_ | with_reducible refine oo_mul (by omega) ?_ | with_reducible refine as_b ?_ | with_reducible refine as_i ?_ | with_reducible refine dec_t (by with_unfolding_all rfl) ?_ | with_reducible refine dec_f (by with_unfolding_all rfl) ?_ | with_reducible refine dec_t' (by with_unfolding_all rfl) ?_ | with_reducible refine dec_f' (by with_unfolding_all rfl) ?_ | with_reducible refine put_ok (by with_unfolding_all rfl) (by with_unfolding_all rfl) ?_ | with_reducible refine pg_cl ?_ | with_reducible refine pg_cl1 ?_ | with_reducible refine gd_rfl (by with_unfolding_all rfl) ?_ | with_reducible refine oo (by with_unfolding_all rfl) ?_)
          refine ⟨rfl, i + 1, _, m, n + 1, _, rfl, rfl, ?_, hm1, hm2⟩
          split <;> omega
        · repeat (first | with_reducible refine ss_cons ?_ | with_reducible refine s_put ?_ | with_reducible refine s_asg ?_ | with_reducible refine s_asgo_lst ?_ | with_reducible refine s_ex ?_ | with_reducible refine s_ret ?_ | with_reducible refine s_iff ?_ | with_reducible refine s_for ?_ | with_reducible refine e_c ?_ | with_reducible refine e_glo ?_ | with_reducible refine e_lst ?_ | with_reducible refine e_tup ?_ | with_reducible refine e_newl ?_ | with_reducible refine e_bin ?_ | with_reducible refine e_cmp ?_ | with_reducible refine e_chn ?_ | with_reducible refine e_isn ?_ | with_reducible refine e_and ?_ | with_reducible refine e_or ?_ | with_reducible refine e_not ?_ | with_reducible refine e_ife ?_ | with_reducible refine e_call ?_ | with_reducible refine e_bi ?_ | with_reducible refine e_mt ?_ | with_reducible refine e_sub ?_ | with_reducible refine e_slc ?_ | with_reducible refine e_isi ?_ | with_reducible refine e_isiT ?_ | with_reducible refine e_lc ?_ | with_reducible refine e_op1 ?_ | with_reducible refine e_opn ?_ | with_reducible refine e_fst ?_ | with_reducible refine es_nil ?_ | with_reducible refine es_cons ?_ | with_reducible refine eo_no ?_ | with_reducible refine eo_yes ?_ | with_reducible refine ei_it ?_ | with_reducible refine ei_rng ?_ | with_reducible refine ei_zip ?_ | with_reducible refine ei_enm ?_ | with_reducible refine t_cmp ?_ | with_reducible refine t_isn ?_ | with_reducible refine t_and ?_ | with_reducible refine t_or ?_ | with_reducible refine t_not ?_ | with_reducible refine t_call ?_ | with_reducible refine t_isi ?_ | with_reducible refine t_isiT ?_ | with_reducible refine t_op1 ?_ | with_reducible refine t_opn ?_ | with_reducible refine o_neg ?_ | with_reducible refine o_fld ?_ | with_reducible refine o_isc ?_ | with_reducible refine o_gdic ?_ | with_reducible refine o_ccon ?_ | with_reducible refine f_nil ?_ | with_reducible refine f_cons ?_ | with_reducible refine s_sfld ?_ | with_reducible refine s_tasg ?_ | with_reducible refine s_uasg ?_ | with_reducible refine ss_nil ?_ | with_reducible refine q_nx ?_ | with_reducible refine q_rt ?_ | with_reducible refine ts_nil ?_ | with_reducible refine lcd ?_ | with_reducible refine o_rt ?_ | with_reducible refine e_var (by with_unfolding_all rfl) ?_ | with_reducible refine t_var (by with_unfolding_all rfl) ?_ | with_reducible refine oo_mod (by omega) ?_ | with_reducible refine oo_fdiv (by omega) ?_ | with_reducible refine oo_mul (by omega) ?_ | with_reducible refine as_b ?_ | with_reducible refine as_i ?_ | with_reducible refine dec_t (by with_unfolding_all rfl) ?_ | with_reducible refine dec_f (by with_unfolding_all rfl) ?_ | with_reducible refine dec_t' (by with_unfolding_all rfl) ?_ | with_reducible refine dec_f' (by with_unfolding_all rfl) ?_ | with_reducible refine put_ok (by with_unfolding_all rfl) (by with_unfolding_all rfl) ?_ | with_reducible refine pg_cl ?_ | with_reducible refine pg_cl1 ?_ | with_reducible refine gd_rfl (by with_unfolding_all rfl) ?_ | with_reducible refine oo (by with_unfolding_all rfl) ?_)
          exact ⟨rfl, i + 1, r, _, n + 1, _, rfl, rfl, hr, (modlt (by omega) (by omega)).1, (modlt (by omega) (by omega)).2⟩
      · repeat (first | with_reducible refine ss_cons ?_ | with_reducible refine s_put ?_ | with_reducible refine s_asg ?_ | with_reducible refine s_asgo_lst ?_ | with_reducible refine s_ex ?_ | with_reducible refine s_ret ?_ | with_reducible refine s_iff ?_ | with_reducible refine s_for ?_ | with_reducible refine e_c ?_ | with_reducible refine e_glo ?_ | with_reducible refine e_lst ?_ | with_reducible refine e_tup ?_ | with_reducible refine e_newl ?_ | with_reducible refine e_bin ?_ | with_reducible refine e_cmp ?_ | with_reducible refine e_chn ?_ | with_reducible refine e_isn ?_ | with_reducible refine e_and ?_ | with_reducible refine e_or ?_ | with_reducible refine e_not ?_ | with_reducible refine e_ife ?_ | with_reducible refine e_call ?_ | with_reducible refine e_bi ?_ | with_reducible refine e_mt ?_ | with_reducible refine e_sub ?_ | with_reducible refine e_slc ?_ | with_reducible refine e_isi ?_ | with_reducible refine e_isiT ?_ | with_reducible refine e_lc ?_ | with_reducible refine e_op1 ?_ | with_reducible refine e_opn ?_ | with_reducible refine e_fst ?_ | with_reducible refine es_nil ?_ | with_reducible refine es_cons ?_ | with_reducible refine eo_no ?_ | with_reducible refine eo_yes ?_ | with_reducible refine ei_it ?_ | with_reducible refine ei_rng ?_ | with_reducible refine ei_zip ?_ | with_reducible refine ei_enm ?_ | with_reducible refine t_cmp ?_ | with_reducible refine t_isn ?_ | with_reducible refine t_and ?_ | with_reducible refine t_or ?_ | with_reducible refine t_not ?_ | with_reducible refine t_call ?_ | with_reducible refine t_isi ?_ | with_reducible refine t_isiT ?_ | with_reducible refine t_op1 ?_ | with_reducible refine t_opn ?_ | with_reducible refine o_neg ?_ | with_reducible refine o_fld ?_ | with_reducible refine o_isc ?_ | with_reducible refine o_gdic ?_ | with_reducible refine o_ccon ?_ | with_reducible refine f_nil ?_ | with_reducible refine f_cons ?_ | with_reducible refine s_sfld ?_ | with_reducible refine s_tasg ?_ | with_reducible refine s_uasg ?_ | with_reducible refine ss_nil ?_ | with_reducible refine q_nx ?_ | with_reducible refine q_rt ?_ | with_reducible refine ts_nil ?_ | with_reducible refine lcd ?_ | with_reducible refine o_rt ?_ | with_reducible refine e_var (by with_unfolding_all rfl) ?_ | with_reducible refine t_var (by with_unfolding_all rfl) ?_ | with_reducible refine oo_mod (by omega) ?_ | with_reducible refine oo_fdiv (by omega) ?_ | with_reducible refine oo_mul (by omega) ?_ | with_reducible refine as_b ?_ | with_reducible refine as_i ?_ | with_reducible refine dec_t (by with_unfolding_all rfl) ?_ | with_reducible refine dec_f (by with_unfolding_all rfl) ?_ | with_reducible refine dec_t' (by with_unfolding_all rfl) ?_ | with_reducible refine dec_f' (by with_unfolding_all rfl) ?_ | with_reducible refine put_ok (by with_unfolding_all rfl) (by with_unfolding_all rfl) ?_ | with_reducible refine pg_cl ?_ | with_reducible refine pg_cl1 ?_ | with_reducible refine gd_rfl (by with_unfolding_all rfl) ?_ | with_reducible refine oo (by with_unfolding_all rfl) ?_)
        exact ⟨rfl, i, r, m, n + 1, _, rfl, rfl, hr, hm1, hm2⟩
    · repeat (first | with_reducible refine ss_cons ?_ | with_reducible refine s_put ?_ | with_reducible refine s_asg ?_ | with_reducible refine s_asgo_lst ?_ | with_reducible refine s_ex ?_ | with_reducible refine s_ret ?_ | with_reducible refine s_iff ?_ | with_reducible refine s_for ?_ | with_reducible refine e_c ?_ | with_reducible refine e_glo ?_ | with_reducible refine e_lst ?_ | with_reducible refine e_tup ?_ | with_reducible refine e_newl ?_ | with_reducible refine e_bin ?_ | with_reducible refine e_cmp ?_ | with_reducible refine e_chn ?_ | with_reducible refine e_isn ?_ | with_reducible refine e_and ?_ | with_reducible refine e_or ?_ | with_reducible refine e_not ?_ | with_reducible refine e_ife ?_ | with_reducible refine e_call ?_ | with_reducible refine e_bi ?_ | with_reducible refine e_mt ?_ | with_reducible refine e_sub ?_ | with_reducible refine e_slc ?_ | with_reducible refine e_isi ?_ | with_reducible refine e_isiT ?_ | with_reducible refine e_lc ?_ | with_reducible refine e_op1 ?_ | with_reducible refine e_opn ?_ | with_reducible refine e_fst ?_ | with_reducible refine es_nil ?_ | with_reducible refine es_cons ?_ | with_reducible refine eo_no ?_ | with_reducible refine eo_yes ?_ | with_reducible refine ei_it ?_ | with_reducible refine ei_rng ?_ | with_reducible refine ei_zip ?_ | with_reducible refine ei_enm ?_ | with_reducible refine t_cmp ?_ | with_reducible refine t_isn ?_ | with_reducible refine t_and ?_ | with_reducible refine t_or ?_ | with_reducible refine t_not ?_ | with_reducible refine t_call ?_ | with_reducible refine t_isi ?_ | with_reducible refine t_isiT ?_ | with_reducible refine t_op1 ?_ | with_reducible refine t_opn ?_ | with_reducible refine o_neg ?_ | with_reducible refine o_fld ?_ | with_reducible refine o_isc ?_ | with_reducible refine o_gdic ?_ | with_reducible refine o_ccon ?_ | with_reducible refine f_nil ?_ | with_reducible refine f_cons ?_ | with_reducible refine s_sfld ?_ | with_reducible refine s_tasg ?_ | with_reducible refine s_uasg ?_ | with_reducible refine ss_nil ?_ | with_reducible refine q_nx ?_ | with_reducible refine q_rt ?_ | with_reducible refine ts_nil ?_ | with_reducible refine lcd ?_ | with_reducible refine o_rt ?_ | with_reducible refine e_var (by with_unfolding_all rfl) ?_ | with_reducible refine t_var (by with_unfolding_all rfl) ?_ | with_reducible refine oo_mod (by omega) ?_ | with_reducible refine oo_fdiv (by omega) ?_ | with_reducible refine oo_mul (by omega) ?_ | with_reducible refine as_b ?_ | with_reducible refine as_i ?_ | with_reducible refine dec_t (by with_unfolding_all rfl) ?_ | with_reducible refine dec_f (by with_unfolding_all rfl) ?_ | with_reducible refine dec_t' (by with_unfolding_all rfl) ?_ | with_reducible refine dec_f' (by with_unfolding_all rfl) ?_ | with_reducible refine put_ok (by with_unfolding_all rfl) (by with_unfolding_all rfl) ?_ | with_reducible refine pg_cl ?_ | with_reducible refine pg_cl1 ?_ | with_reducible refine gd_rfl (by with_unfolding_all rfl) ?_ | with_reducible refine oo (by with_unfolding_all rfl) ?_)
      exact ⟨rfl, i, r, m, n + 1, _, rfl, rfl, hr, hm1, hm2⟩
  · rintro e s ⟨i, r, m, n, x, rfl, rfl, hr, hm1, hm2⟩
    exact pull_tail p h0 h1 hr hm1 hm2 x R
theorem cut_map {α β : Type} (f : α → β) (xs : List α) (lo hi : Option Int) : cutD (xs.map f) lo hi = (cutD xs lo hi).map f := by
  simp only [cutD, List.length_map, ← List.map_drop, ← List.map_take]
theorem bag_fn {p : Pg} {f : Fn} (hb : f.body = bagB) (hN : f.N.length = 3) (hp : f.ps.length = 1) {ns : List Int} : COk (fnD p f [.scr ns] []) (fun d s => d = .ref 0 ∧ ∃ c, s = [c] ∧ BagOk c) := by
  refine cok_fnB hb hN hp ?_
  dsimp only [bagB]
  repeat (first | with_reducible refine ss_cons ?_ | with_reducible refine s_put ?_ | with_reducible refine s_asg ?_ | with_reducible refine s_asgo_lst ?_ | with_reducible refine s_ex ?_ | with_reducible refine s_ret ?_ | with_reducible refine s_iff ?_ | with_reducible refine s_for ?_ | with_reducible refine e_c ?_ | with_reducible refine e_glo ?_ | with_reducible refine e_lst ?_ | with_reducible refine e_tup ?_ | with_reducible refine e_newl ?_ | with_reducible refine e_bin ?_ | with_reducible refine e_cmp ?_ | with_reducible refine e_chn ?_ | with_reducible refine e_isn ?_ | with_reducible refine e_and ?_ | with_reducible refine e_or ?_ | with_reducible refine e_not ?_ | with_reducible refine e_ife ?_ | with_reducible refine e_call ?_ | with_reducible refine e_bi ?_ | with_reducible refine e_mt ?_ | with_reducible refine e_sub ?_ | with_reducible refine e_slc ?_ | with_reducible refine e_isi ?_ | with_reducible refine e_isiT ?_ | with_reducible refine e_lc ?_ | with_reducible refine e_op1 ?_ | with_reducible refine e_opn ?_ | with_reducible refine e_fst ?_ | with_reducible refine es_nil ?_ | with_reducible refine es_cons ?_ | with_reducible refine eo_no ?_ | with_reducible refine eo_yes ?_ | with_reducible refine ei_it ?_ | with_reducible refine ei_rng ?_ | with_reducible refine ei_zip ?_ | with_reducible refine ei_enm ?_ | with_reducible refine t_cmp ?_ | with_reducible refine t_isn ?_ | with_reducible refine t_and ?_ | with_reducible refine t_or ?_ | with_reducible refine t_not ?_ | with_reducible refine t_call ?_ | with_reducible refine t_isi ?_ | with_reducible refine t_isiT ?_ | with_reducible refine t_op1 ?_ | with_reducible refine t_opn ?_ | with_reducible refine o_neg ?_ | with_reducible refine o_fld ?_ | with_reducible refine o_isc ?_ | with_reducible refine o_gdic ?_ | with_reducible refine o_ccon ?_ | with_reducible refine f_nil ?_ | with_reducible refine f_cons ?_ | with_reducible refine s_sfld ?_ | with_reducible refine s_tasg ?_ | with_reducible refine s_uasg ?_ | with_reducible refine ss_nil ?_ | with_reducible refine q_nx ?_ | with_reducible refine q_rt ?_ | with_reducible refine ts_nil ?_ | with_reducible refine lcd ?_ | with_reducible refine o_rt ?_ | with_reducible refine e_var (by with_unfolding_all rfl) ?_ | with_reducible refine t_var (by with_unfolding_all rfl) ?_ | with_reducible refine oo_mod (by omega) ?_ | with_reducible refine oo_fdiv (by omega) ?_ | with_reducible refine oo_mul (by omega) ?_ | with_reducible refine as_b ?_ | with_reducible refine as_i ?_ | with_reducible refine dec_t (by with_unfolding_all rfl) ?_ | with_reducible refine dec_f (by with_unfolding_all rfl) ?_ | with_reducible refine dec_t' (by with_unfolding_all rfl) ?_ | with_reducible refine dec_f' (by with_unfolding_all rfl) ?_ | with_reducible refine put_ok (by with_unfolding_all rfl) (by with_unfolding_all rfl) ?_ | with_reducible refine pg_cl ?_ | with_reducible refine pg_cl1 ?_ | with_reducible refine gd_rfl (by with_unfolding_all rfl) ?_ | with_reducible refine oo (by with_unfolding_all rfl) ?_)
  refine for_inv (fun e s => s = [] ∧ ∃ m x, e = [.sh (.scr ns), .sh (.int m), x] ∧ -(2 ^ 64) < m ∧ m < 2 ^ 64) (fun x hx e s => ?_) ⟨rfl, 5740, _, rfl, by decide, by decide⟩ ?_
  · rintro ⟨rfl, m, y, rfl, hm1, hm2⟩
    rw [cut_map] at hx
    obtain ⟨j, _, rfl⟩ := List.mem_map.1 hx
    refine ⟨_, rfl, ?_⟩
    repeat (first | with_reducible refine ss_cons ?_ | with_reducible refine s_put ?_ | with_reducible refine s_asg ?_ | with_reducible refine s_asgo_lst ?_ | with_reducible refine s_ex ?_ | with_reducible refine s_ret ?_ | with_reducible refine s_iff ?_ | with_reducible refine s_for ?_ | with_reducible refine e_c ?_ | with_reducible refine e_glo ?_ | with_reducible refine e_lst ?_ | with_reducible refine e_tup ?_ | with_reducible refine e_newl ?_ | with_reducible refine e_bin ?_ | with_reducible refine e_cmp ?_ | with_reducible refine e_chn ?_ | with_reducible refine e_isn ?_ | with_reducible refine e_and ?_ | with_reducible refine e_or ?_ | with_reducible refine e_not ?_ | with_reducible refine e_ife ?_ | with_reducible refine e_call ?_ | with_reducible refine e_bi ?_ | with_reducible refine e_mt ?_ | with_reducible refine e_sub ?_ | with_reducible refine e_slc ?_ | with_reducible refine e_isi ?_ | with_reducible refine e_isiT ?_ | with_reducible refine e_lc ?_ | with_reducible refine e_op1 ?_ | with_reducible refine e_opn ?_ | with_reducible refine e_fst ?_ | with_reducible refine es_nil ?_ | with_reducible refine es_cons ?_ | with_reducible refine eo_no ?_ | with_reducible refine eo_yes ?_ | with_reducible refine ei_it ?_ | with_reducible refine ei_rng ?_ | with_reducible refine ei_zip ?_ | with_reducible refine ei_enm ?_ | with_reducible refine t_cmp ?_ | with_reducible refine t_isn ?_ | with_reducible refine t_and ?_ | with_reducible refine t_or ?_ | with_reducible refine t_not ?_ | with_reducible refine t_call ?_ | with_reducible refine t_isi ?_ | with_reducible refine t_isiT ?_ | with_reducible refine t_op1 ?_ | with_reducible refine t_opn ?_ | with_reducible refine o_neg ?_ | with_reducible refine o_fld ?_ | with_reducible refine o_isc ?_ | with_reducible refine o_gdic ?_ | with_reducible refine o_ccon ?_ | with_reducible refine f_nil ?_ | with_reducible refine f_cons ?_ | with_reducible refine s_sfld ?_ | with_reducible refine s_tasg ?_ | with_reducible refine s_uasg ?_ | with_reducible refine ss_nil ?_ | with_reducible refine q_nx ?_ | with_reducible refine q_rt ?_ | with_reducible refine ts_nil ?_ | with_reducible refine lcd ?_ | with_reducible refine o_rt ?_ | with_reducible refine e_var (by with_unfolding_all rfl) ?_ | with_reducible refine t_var (by with_unfolding_all rfl) ?_ | with_reducible refine oo_mod (by omega) ?_ | with_reducible refine oo_fdiv (by omega) ?_ | with_reducible refine oo_mul (by omega) ?_ | with_reducible refine as_b ?_ | with_reducible refine as_i ?_ | with_reducible refine dec_t (by with_unfolding_all rfl) ?_ | with_reducible refine dec_f (by with_unfolding_all rfl) ?_ | with_reducible refine dec_t' (by with_unfolding_all rfl) ?_ | with_reducible refine dec_f' (by with_unfolding_all rfl) ?_ | with_reducible refine put_ok (by with_unfolding_all rfl) (by with_unfolding_all rfl) ?_ | with_reducible refine pg_cl ?_ | with_reducible refine pg_cl1 ?_ | with_reducible refine gd_rfl (by with_unfolding_all rfl) ?_ | with_reducible refine oo (by with_unfolding_all rfl) ?_)
    exact ⟨rfl, rfl, _, _, rfl, (modlt (by omega) (by omega)).1, (modlt (by omega) (by omega)).2⟩
  · rintro e s ⟨rfl, m, y, rfl, hm1, hm2⟩
    repeat (first | with_reducible refine ss_cons ?_ | with_reducible refine s_put ?_ | with_reducible refine s_asg ?_ | with_reducible refine s_asgo_lst ?_ | with_reducible refine s_ex ?_ | with_reducible refine s_ret ?_ | with_reducible refine s_iff ?_ | with_reducible refine s_for ?_ | with_reducible refine e_c ?_ | with_reducible refine e_glo ?_ | with_reducible refine e_lst ?_ | with_reducible refine e_tup ?_ | with_reducible refine e_newl ?_ | with_reducible refine e_bin ?_ | with_reducible refine e_cmp ?_ | with_reducible refine e_chn ?_ | with_reducible refine e_isn ?_ | with_reducible refine e_and ?_ | with_reducible refine e_or ?_ | with_reducible refine e_not ?_ | with_reducible refine e_ife ?_ | with_reducible refine e_call ?_ | with_reducible refine e_bi ?_ | with_reducible refine e_mt ?_ | with_reducible refine e_sub ?_ | with_reducible refine e_slc ?_ | with_reducible refine e_isi ?_ | with_reducible refine e_isiT ?_ | with_reducible refine e_lc ?_ | with_reducible refine e_op1 ?_ | with_reducible refine e_opn ?_ | with_reducible refine e_fst ?_ | with_reducible refine es_nil ?_ | with_reducible refine es_cons ?_ | with_reducible refine eo_no ?_ | with_reducible refine eo_yes ?_ | with_reducible refine ei_it ?_ | with_reducible refine ei_rng ?_ | with_reducible refine ei_zip ?_ | with_reducible refine ei_enm ?_ | with_reducible refine t_cmp ?_ | with_reducible refine t_isn ?_ | with_reducible refine t_and ?_ | with_reducible refine t_or ?_ | with_reducible refine t_not ?_ | with_reducible refine t_call ?_ | with_reducible refine t_isi ?_ | with_reducible refine t_isiT ?_ | with_reducible refine t_op1 ?_ | with_reducible refine t_opn ?_ | with_reducible refine o_neg ?_ | with_reducible refine o_fld ?_ | with_reducible refine o_isc ?_ | with_reducible refine o_gdic ?_ | with_reducible refine o_ccon ?_ | with_reducible refine f_nil ?_ | with_reducible refine f_cons ?_ | with_reducible refine s_sfld ?_ | with_reducible refine s_tasg ?_ | with_reducible refine s_uasg ?_ | with_reducible refine ss_nil ?_ | with_reducible refine q_nx ?_ | with_reducible refine q_rt ?_ | with_reducible refine ts_nil ?_ | with_reducible refine lcd ?_ | with_reducible refine o_rt ?_ | with_reducible refine e_var (by with_unfolding_all rfl) ?_ | with_reducible refine t_var (by with_unfolding_all rfl) ?_ | with_reducible refine oo_mod (by omega) ?_ | with_reducible refine oo_fdiv (by omega) ?_ | with_reducible refine oo_mul (by omega) ?_ | with_reducible refine as_b ?_ | with_reducible refine as_i ?_ | with_reducible refine dec_t (by with_unfolding_all rfl) ?_ | with_reducible refine dec_f (by with_unfolding_all rfl) ?_ | with_reducible refine dec_t' (by with_unfolding_all rfl) ?_ | with_reducible refine dec_f' (by with_unfolding_all rfl) ?_ | with_reducible refine put_ok (by with_unfolding_all rfl) (by with_unfolding_all rfl) ?_ | with_reducible refine pg_cl ?_ | with_reducible refine pg_cl1 ?_ | with_reducible refine gd_rfl (by with_unfolding_all rfl) ?_ | with_reducible refine oo (by with_unfolding_all rfl) ?_)
    refine ⟨rfl, _, rfl, cutD ns none (some 63), 0, 0, m, 0, ?_, by decide, hm1, hm2⟩
    show Cl.lst [.lst (cutD (ns.map .int) none (some 63)), _, _, _, _] = _
    rw [cut_map]
    rfl
/-! ### draws -/
def ofB (iP : Nat) : List ST := [.ret (.sub (.var 1) (.call iP (.cons (.var 0) (.cons (.bi .len (.cons (.var 1) .nil)) .nil)) .nil [.arg 0, .arg 1]))]
/-- p's def iP draws numbers -/
def Pulls (cl : Nat → List D → So → Rc) (iP : Nat) : Prop := ∀ {many : Int} {c : Cl} {R : So}, 0 < many → many < 1073741824 → BagOk c → COk (cl iP [.ref 0, .int many] (c :: R)) (PullQ many R)
def BagQ (R : So) (A : D → Prop) : D → So → Prop := fun d s => A d ∧ ∃ c, s = c :: R ∧ BagOk c
theorem of_fn {p : Pg} {f : Fn} {iP : Nat} (hb : f.body = ofB iP) (hN : f.N.length = 2) (hp : f.ps.length = 2) (P : Pulls p.cl iP) {xs : List D} (h0 : 0 < xs.length) (h1 : xs.length < 1000000) {c : Cl} {R : So} (B : BagOk c) : COk (fnD p f [.ref 0, .lst xs] (c :: R)) (BagQ R (· ∈ xs)) := by
  refine cok_fnB hb hN hp ?_
  dsimp only [ofB]
  repeat (first | with_reducible refine ss_cons ?_ | with_reducible refine s_put ?_ | with_reducible refine s_asg ?_ | with_reducible refine s_asgo_lst ?_ | with_reducible refine s_ex ?_ | with_reducible refine s_ret ?_ | with_reducible refine s_iff ?_ | with_reducible refine s_for ?_ | with_reducible refine e_c ?_ | with_reducible refine e_glo ?_ | with_reducible refine e_lst ?_ | with_reducible refine e_tup ?_ | with_reducible refine e_newl ?_ | with_reducible refine e_bin ?_ | with_reducible refine e_cmp ?_ | with_reducible refine e_chn ?_ | with_reducible refine e_isn ?_ | with_reducible refine e_and ?_ | with_reducible refine e_or ?_ | with_reducible refine e_not ?_ | with_reducible refine e_ife ?_ | with_reducible refine e_call ?_ | with_reducible refine e_bi ?_ | with_reducible refine e_mt ?_ | with_reducible refine e_sub ?_ | with_reducible refine e_slc ?_ | with_reducible refine e_isi ?_ | with_reducible refine e_isiT ?_ | with_reducible refine e_lc ?_ | with_reducible refine e_op1 ?_ | with_reducible refine e_opn ?_ | with_reducible refine e_fst ?_ | with_reducible refine es_nil ?_ | with_reducible refine es_cons ?_ | with_reducible refine eo_no ?_ | with_reducible refine eo_yes ?_ | with_reducible refine ei_it ?_ | with_reducible refine ei_rng ?_ | with_reducible refine ei_zip ?_ | with_reducible refine ei_enm ?_ | with_reducible refine t_cmp ?_ | with_reducible refine t_isn ?_ | with_reducible refine t_and ?_ | with_reducible refine t_or ?_ | with_reducible refine t_not ?_ | with_reducible refine t_call ?_ | with_reducible refine t_isi ?_ | with_reducible refine t_isiT ?_ | with_reducible refine t_op1 ?_ | with_reducible refine t_opn ?_ | with_reducible refine o_neg ?_ | with_reducible refine o_fld ?_ | with_reducible refine o_isc ?_ | with_reducible refine o_gdic ?_ | with_reducible refine o_ccon ?_ | with_reducible refine f_nil ?_ | with_reducible refine f_cons ?_ | with_reducible refine s_sfld ?_ | with_reducible refine s_tasg ?_ | with_reducible refine s_uasg ?_ | with_reducible refine ss_nil ?_ | with_reducible refine q_nx ?_ | with_reducible refine q_rt ?_ | with_reducible refine ts_nil ?_ | with_reducible refine lcd ?_ | with_reducible refine o_rt ?_ | with_reducible refine e_var (by with_unfolding_all rfl) ?_ | with_reducible refine t_var (by with_unfolding_all rfl) ?_ | with_reducible refine oo_mod (by omega) ?_ | with_reducible refine oo_fdiv (by omega) ?_ | with_reducible refine oo_mul (by omega) ?_ | with_reducible refine as_b ?_ | with_reducible refine as_i ?_ | with_reducible refine dec_t (by with_unfolding_all rfl) ?_ | with_reducible refine dec_f (by with_unfolding_all rfl) ?_ | with_reducible refine dec_t' (by with_unfolding_all rfl) ?_ | with_reducible refine dec_f' (by with_unfolding_all rfl) ?_ | with_reducible refine put_ok (by with_unfolding_all rfl) (by with_unfolding_all rfl) ?_ | with_reducible refine pg_cl ?_ | with_reducible refine pg_cl1 ?_ | with_reducible refine gd_rfl (by with_unfolding_all rfl) ?_ | with_reducible refine oo (by with_unfolding_all rfl) ?_)
  refine cok_imp (P (by omega) (by omega) B) fun d s ⟨n, c', e1, e2, r1, B'⟩ => ?_
  subst e1 e2
  have hn : n < xs.length := by omega
  refine oo (sub_nat (List.getElem?_eq_getElem hn)) ?_
  repeat (first | with_reducible refine ss_cons ?_ | with_reducible refine s_put ?_ | with_reducible refine s_asg ?_ | with_reducible refine s_asgo_lst ?_ | with_reducible refine s_ex ?_ | with_reducible refine s_ret ?_ | with_reducible refine s_iff ?_ | with_reducible refine s_for ?_ | with_reducible refine e_c ?_ | with_reducible refine e_glo ?_ | with_reducible refine e_lst ?_ | with_reducible refine e_tup ?_ | with_reducible refine e_newl ?_ | with_reducible refine e_bin ?_ | with_reducible refine e_cmp ?_ | with_reducible refine e_chn ?_ | with_reducible refine e_isn ?_ | with_reducible refine e_and ?_ | with_reducible refine e_or ?_ | with_reducible refine e_not ?_ | with_reducible refine e_ife ?_ | with_reducible refine e_call ?_ | with_reducible refine e_bi ?_ | with_reducible refine e_mt ?_ | with_reducible refine e_sub ?_ | with_reducible refine e_slc ?_ | with_reducible refine e_isi ?_ | with_reducible refine e_isiT ?_ | with_reducible refine e_lc ?_ | with_reducible refine e_op1 ?_ | with_reducible refine e_opn ?_ | with_reducible refine e_fst ?_ | with_reducible refine es_nil ?_ | with_reducible refine es_cons ?_ | with_reducible refine eo_no ?_ | with_reducible refine eo_yes ?_ | with_reducible refine ei_it ?_ | with_reducible refine ei_rng ?_ | with_reducible refine ei_zip ?_ | with_reducible refine ei_enm ?_ | with_reducible refine t_cmp ?_ | with_reducible refine t_isn ?_ | with_reducible refine t_and ?_ | with_reducible refine t_or ?_ | with_reducible refine t_not ?_ | with_reducible refine t_call ?_ | with_reducible refine t_isi ?_ | with_reducible refine t_isiT ?_ | with_reducible refine t_op1 ?_ | with_reducible refine t_opn ?_ | with_reducible refine o_neg ?_ | with_reducible refine o_fld ?_ | with_reducible refine o_isc ?_ | with_reducible refine o_gdic ?_ | with_reducible refine o_ccon ?_ | with_reducible refine f_nil ?_ | with_reducible refine f_cons ?_ | with_reducible refine s_sfld ?_ | with_reducible refine s_tasg ?_ | with_reducible refine s_uasg ?_ | with_reducible refine ss_nil ?_ | with_reducible refine q_nx ?_ | with_reducible refine q_rt ?_ | with_reducible refine ts_nil ?_ | with_reducible refine lcd ?_ | with_reducible refine o_rt ?_ | with_reducible refine e_var (by with_unfolding_all rfl) ?_ | with_reducible refine t_var (by with_unfolding_all rfl) ?_ | with_reducible refine oo_mod (by omega) ?_ | with_reducible refine oo_fdiv (by omega) ?_ | with_reducible refine oo_mul (by omega) ?_ | with_reducible refine as_b ?_ | with_reducible refine as_i ?_ | with_reducible refine dec_t (by with_unfolding_all rfl) ?_ | with_reducible refine dec_f (by with_unfolding_all rfl) ?_ | with_reducible refine dec_t' (by with_unfolding_all rfl) ?_ | with_reducible refine dec_f' (by with_unfolding_all rfl) ?_ | with_reducible refine put_ok (by with_unfolding_all rfl) (by with_unfolding_all rfl) ?_ | with_reducible refine pg_cl ?_ | with_reducible refine pg_cl1 ?_ | with_reducible refine gd_rfl (by with_unfolding_all rfl) ?_ | with_reducible refine oo (by with_unfolding_all rfl) ?_)
  exact ⟨List.getElem_mem hn, c', rfl, B'⟩
theorem ofs_fn {p : Pg} {f : Fn} {iP : Nat} (hb : f.body = ofB iP) (hN : f.N.length = 2) (hp : f.ps.length = 2) (P : Pulls p.cl iP) {xs : List Nat} (h0 : 0 < xs.length) (h1 : xs.length < 1000000) {c : Cl} {R : So} (B : BagOk c) : COk (fnD p f [.ref 0, .str xs] (c :: R)) (BagQ R fun d => ∃ x ∈ xs, d = .str [x]) := by
  refine cok_fnB hb hN hp ?_
  dsimp only [ofB]
  repeat (first | with_reducible refine ss_cons ?_ | with_reducible refine s_put ?_ | with_reducible refine s_asg ?_ | with_reducible refine s_asgo_lst ?_ | with_reducible refine s_ex ?_ | with_reducible refine s_ret ?_ | with_reducible refine s_iff ?_ | with_reducible refine s_for ?_ | with_reducible refine e_c ?_ | with_reducible refine e_glo ?_ | with_reducible refine e_lst ?_ | with_reducible refine e_tup ?_ | with_reducible refine e_newl ?_ | with_reducible refine e_bin ?_ | with_reducible refine e_cmp ?_ | with_reducible refine e_chn ?_ | with_reducible refine e_isn ?_ | with_reducible refine e_and ?_ | with_reducible refine e_or ?_ | with_reducible refine e_not ?_ | with_reducible refine e_ife ?_ | with_reducible refine e_call ?_ | with_reducible refine e_bi ?_ | with_reducible refine e_mt ?_ | with_reducible refine e_sub ?_ | with_reducible refine e_slc ?_ | with_reducible refine e_isi ?_ | with_reducible refine e_isiT ?_ | with_reducible refine e_lc ?_ | with_reducible refine e_op1 ?_ | with_reducible refine e_opn ?_ | with_reducible refine e_fst ?_ | with_reducible refine es_nil ?_ | with_reducible refine es_cons ?_ | with_reducible refine eo_no ?_ | with_reducible refine eo_yes ?_ | with_reducible refine ei_it ?_ | with_reducible refine ei_rng ?_ | with_reducible refine ei_zip ?_ | with_reducible refine ei_enm ?_ | with_reducible refine t_cmp ?_ | with_reducible refine t_isn ?_ | with_reducible refine t_and ?_ | with_reducible refine t_or ?_ | with_reducible refine t_not ?_ | with_reducible refine t_call ?_ | with_reducible refine t_isi ?_ | with_reducible refine t_isiT ?_ | with_reducible refine t_op1 ?_ | with_reducible refine t_opn ?_ | with_reducible refine o_neg ?_ | with_reducible refine o_fld ?_ | with_reducible refine o_isc ?_ | with_reducible refine o_gdic ?_ | with_reducible refine o_ccon ?_ | with_reducible refine f_nil ?_ | with_reducible refine f_cons ?_ | with_reducible refine s_sfld ?_ | with_reducible refine s_tasg ?_ | with_reducible refine s_uasg ?_ | with_reducible refine ss_nil ?_ | with_reducible refine q_nx ?_ | with_reducible refine q_rt ?_ | with_reducible refine ts_nil ?_ | with_reducible refine lcd ?_ | with_reducible refine o_rt ?_ | with_reducible refine e_var (by with_unfolding_all rfl) ?_ | with_reducible refine t_var (by with_unfolding_all rfl) ?_ | with_reducible refine oo_mod (by omega) ?_ | with_reducible refine oo_fdiv (by omega) ?_ | with_reducible refine oo_mul (by omega) ?_ | with_reducible refine as_b ?_ | with_reducible refine as_i ?_ | with_reducible refine dec_t (by with_unfolding_all rfl) ?_ | with_reducible refine dec_f (by with_unfolding_all rfl) ?_ | with_reducible refine dec_t' (by with_unfolding_all rfl) ?_ | with_reducible refine dec_f' (by with_unfolding_all rfl) ?_ | with_reducible refine put_ok (by with_unfolding_all rfl) (by with_unfolding_all rfl) ?_ | with_reducible refine pg_cl ?_ | with_reducible refine pg_cl1 ?_ | with_reducible refine gd_rfl (by with_unfolding_all rfl) ?_ | with_reducible refine oo (by with_unfolding_all rfl) ?_)
  refine cok_imp (P (by omega) (by omega) B) fun d s ⟨n, c', e1, e2, r1, B'⟩ => ?_
  subst e1 e2
  have hn : n < xs.length := by omega
  refine oo (a := .str [xs[n]]) ?_ ?_
  · simp only [subD, atI, ixN]
    rw [if_pos (by omega), if_pos (by omega)]
    simp [hn]
  repeat (first | with_reducible refine ss_cons ?_ | with_reducible refine s_put ?_ | with_reducible refine s_asg ?_ | with_reducible refine s_asgo_lst ?_ | with_reducible refine s_ex ?_ | with_reducible refine s_ret ?_ | with_reducible refine s_iff ?_ | with_reducible refine s_for ?_ | with_reducible refine e_c ?_ | with_reducible refine e_glo ?_ | with_reducible refine e_lst ?_ | with_reducible refine e_tup ?_ | with_reducible refine e_newl ?_ | with_reducible refine e_bin ?_ | with_reducible refine e_cmp ?_ | with_reducible refine e_chn ?_ | with_reducible refine e_isn ?_ | with_reducible refine e_and ?_ | with_reducible refine e_or ?_ | with_reducible refine e_not ?_ | with_reducible refine e_ife ?_ | with_reducible refine e_call ?_ | with_reducible refine e_bi ?_ | with_reducible refine e_mt ?_ | with_reducible refine e_sub ?_ | with_reducible refine e_slc ?_ | with_reducible refine e_isi ?_ | with_reducible refine e_isiT ?_ | with_reducible refine e_lc ?_ | with_reducible refine e_op1 ?_ | with_reducible refine e_opn ?_ | with_reducible refine e_fst ?_ | with_reducible refine es_nil ?_ | with_reducible refine es_cons ?_ | with_reducible refine eo_no ?_ | with_reducible refine eo_yes ?_ | with_reducible refine ei_it ?_ | with_reducible refine ei_rng ?_ | with_reducible refine ei_zip ?_ | with_reducible refine ei_enm ?_ | with_reducible refine t_cmp ?_ | with_reducible refine t_isn ?_ | with_reducible refine t_and ?_ | with_reducible refine t_or ?_ | with_reducible refine t_not ?_ | with_reducible refine t_call ?_ | with_reducible refine t_isi ?_ | with_reducible refine t_isiT ?_ | with_reducible refine t_op1 ?_ | with_reducible refine t_opn ?_ | with_reducible refine o_neg ?_ | with_reducible refine o_fld ?_ | with_reducible refine o_isc ?_ | with_reducible refine o_gdic ?_ | with_reducible refine o_ccon ?_ | with_reducible refine f_nil ?_ | with_reducible refine f_cons ?_ | with_reducible refine s_sfld ?_ | with_reducible refine s_tasg ?_ | with_reducible refine s_uasg ?_ | with_reducible refine ss_nil ?_ | with_reducible refine q_nx ?_ | with_reducible refine q_rt ?_ | with_reducible refine ts_nil ?_ | with_reducible refine lcd ?_ | with_reducible refine o_rt ?_ | with_reducible refine e_var (by with_unfolding_all rfl) ?_ | with_reducible refine t_var (by with_unfolding_all rfl) ?_ | with_reducible refine oo_mod (by omega) ?_ | with_reducible refine oo_fdiv (by omega) ?_ | with_reducible refine oo_mul (by omega) ?_ | with_reducible refine as_b ?_ | with_reducible refine as_i ?_ | with_reducible refine dec_t (by with_unfolding_all rfl) ?_ | with_reducible refine dec_f (by with_unfolding_all rfl) ?_ | with_reducible refine dec_t' (by with_unfolding_all rfl) ?_ | with_reducible refine dec_f' (by with_unfolding_all rfl) ?_ | with_reducible refine put_ok (by with_unfolding_all rfl) (by with_unfolding_all rfl) ?_ | with_reducible refine pg_cl ?_ | with_reducible refine pg_cl1 ?_ | with_reducible refine gd_rfl (by with_unfolding_all rfl) ?_ | with_reducible refine oo (by with_unfolding_all rfl) ?_)
  exact ⟨⟨_, List.getElem_mem hn, rfl⟩, c', rfl, B'⟩
structure Draws (cl : Nat → List D → So → Rc) (iP iO : Nat) : Prop where
  pull : Pulls cl iP
  of : ∀ {xs : List D} {c : Cl} {R : So}, 0 < xs.length → xs.length < 1000000 → BagOk c → COk (cl iO [.ref 0, .lst xs] (c :: R)) (BagQ R (· ∈ xs))
  ofs : ∀ {xs : List Nat} {c : Cl} {R : So}, 0 < xs.length → xs.length < 1000000 → BagOk c → COk (cl iO [.ref 0, .str xs] (c :: R)) (BagQ R fun d => ∃ x ∈ xs, d = .str [x])
theorem draws_of {fs : List Fn} {g : Gn} {iP iO : Nat} {fP fO : Fn} (hP : fs[iP]? = some fP) (hO : fs[iO]? = some fO) (b1 : fP.body = pullB) (n1 : fP.N.length = 5) (p1 : fP.ps.length = 2) (b2 : fO.body = ofB iP) (n2 : fO.N.length = 2) (p2 : fO.ps.length = 2) (k : Nat) : Draws (clN fs g (k + 3)) iP iO where
  pull := fun {many c R} h0 h1 B => cok_cl hP (pull_fn b1 n1 p1 h0 h1 B)
  of := fun {xs c R} h0 h1 B => cok_cl hO (of_fn b2 n2 p2 (fun {many c R} h0 h1 B => cok_cl (k := k) hP (pull_fn b1 n1 p1 h0 h1 B)) h0 h1 B)
  ofs := fun {xs c R} h0 h1 B => cok_cl hO (ofs_fn b2 n2 p2 (fun {many c R} h0 h1 B => cok_cl (k := k) hP (pull_fn b1 n1 p1 h0 h1 B)) h0 h1 B)
def smallL : List Nat := [97, 98, 99, 100, 101, 102, 103, 104, 105, 106, 107, 108, 109, 110, 111, 112, 113, 114, 115, 116, 117, 118, 119, 120, 121, 122]
def signL : List Nat := [33, 35, 38, 42, 43, 44, 45, 46, 47, 58, 59, 60, 61, 62, 63, 64, 91, 93, 94, 123, 124, 125]
def strB (z : List Nat) : List ST := [.ret (.c (.str z))]
theorem str_fn {p : Pg} {f : Fn} {z : List Nat} (hb : f.body = strB z) (hN : f.N.length = 0) (hp : f.ps.length = 0) {s : So} : COk (fnD p f [] s) (fun d s' => d = .str z ∧ s' = s) := by
  refine cok_fnB hb hN hp ?_
  dsimp only [strB]
  repeat (first | with_reducible refine ss_cons ?_ | with_reducible refine s_put ?_ | with_reducible refine s_asg ?_ | with_reducible refine s_asgo_lst ?_ | with_reducible refine s_ex ?_ | with_reducible refine s_ret ?_ | with_reducible refine s_iff ?_ | with_reducible refine s_for ?_ | with_reducible refine e_c ?_ | with_reducible refine e_glo ?_ | with_reducible refine e_lst ?_ | with_reducible refine e_tup ?_ | with_reducible refine e_newl ?_ | with_reducible refine e_bin ?_ | with_reducible refine e_cmp ?_ | with_reducible refine e_chn ?_ | with_reducible refine e_isn ?_ | with_reducible refine e_and ?_ | with_reducible refine e_or ?_ | with_reducible refine e_not ?_ | with_reducible refine e_ife ?_ | with_reducible refine e_call ?_ | with_reducible refine e_bi ?_ | with_reducible refine e_mt ?_ | with_reducible refine e_sub ?_ | with_reducible refine e_slc ?_ | with_reducible refine e_isi ?_ | with_reducible refine e_isiT ?_ | with_reducible refine e_lc ?_ | with_reducible refine e_op1 ?_ | with_reducible refine e_opn ?_ | with_reducible refine e_fst ?_ | with_reducible refine es_nil ?_ | with_reducible refine es_cons ?_ | with_reducible refine eo_no ?_ | with_reducible refine eo_yes ?_ | with_reducible refine ei_it ?_ | with_reducible refine ei_rng ?_ | with_reducible refine ei_zip ?_ | with_reducible refine ei_enm ?_ | with_reducible refine t_cmp ?_ | with_reducible refine t_isn ?_ | with_reducible refine t_and ?_ | with_reducible refine t_or ?_ | with_reducible refine t_not ?_ | with_reducible refine t_call ?_ | with_reducible refine t_isi ?_ | with_reducible refine t_isiT ?_ | with_reducible refine t_op1 ?_ | with_reducible refine t_opn ?_ | with_reducible refine o_neg ?_ | with_reducible refine o_fld ?_ | with_reducible refine o_isc ?_ | with_reducible refine o_gdic ?_ | with_reducible refine o_ccon ?_ | with_reducible refine f_nil ?_ | with_reducible refine f_cons ?_ | with_reducible refine s_sfld ?_ | with_reducible refine s_tasg ?_ | with_reducible refine s_uasg ?_ | with_reducible refine ss_nil ?_ | with_reducible refine q_nx ?_ | with_reducible refine q_rt ?_ | with_reducible refine ts_nil ?_ | with_reducible refine lcd ?_ | with_reducible refine o_rt ?_ | with_reducible refine e_var (by with_unfolding_all rfl) ?_ | with_reducible refine t_var (by with_unfolding_all rfl) ?_ | with_reducible refine oo_mod (by omega) ?_ | with_reducible refine oo_fdiv (by omega) ?_ | with_reducible refine oo_mul (by omega) ?_ | with_reducible refine as_b ?_ | with_reducible refine as_i ?_ | with_reducible refine dec_t (by with_unfolding_all rfl) ?_ | with_reducible refine dec_f (by with_unfolding_all rfl) ?_ | with_reducible refine dec_t' (by with_unfolding_all rfl) ?_ | with_reducible refine dec_f' (by with_unfolding_all rfl) ?_ | with_reducible refine put_ok (by with_unfolding_all rfl) (by with_unfolding_all rfl) ?_ | with_reducible refine pg_cl ?_ | with_reducible refine pg_cl1 ?_ | with_reducible refine gd_rfl (by with_unfolding_all rfl) ?_ | with_reducible refine oo (by with_unfolding_all rfl) ?_)
  exact ⟨rfl, rfl⟩
def Says (cl : Nat → List D → So → Rc) (i : Nat) (z : List Nat) : Prop := ∀ s, COk (cl i [] s) (fun d s' => d = .str z ∧ s' = s)
theorem says_of {fs : List Fn} {g : Gn} {i : Nat} {f : Fn} {z : List Nat} (hf : fs[i]? = some f) (hb : f.body = strB z) (hN : f.N.length = 0) (hp : f.ps.length = 0) (k : Nat) : Says (clN fs g (k + 2)) i z := fun s => cok_cl hf (str_fn hb hN hp)
/-- strings of one sign, joined -/
theorem join_one {t : List Nat} : ∀ {zs : List D}, (∀ z ∈ zs, ∃ x ∈ t, z = .str [x]) → ∃ ss, strsD zs = some ss ∧ (ss.map List.length).sum = zs.length ∧ ss.length = zs.length ∧ (TL.joinL [] ss).length = zs.length ∧ ∀ x ∈ TL.joinL [] ss, x ∈ t
  | [], _ => ⟨[], rfl, rfl, rfl, rfl, fun x hx => by cases hx⟩
  | z :: zs, h => by
    obtain ⟨x, hx, rfl⟩ := h z (by simp)
    obtain ⟨ss, h1, h2, h3, h4, h5⟩ := join_one (zs := zs) fun z hz => h z (by simp [hz])
    refine ⟨[x] :: ss, by simp [strsD, h1], by simp [h2]; omega, by simp [h3], ?_, ?_⟩
    · cases ss with
      | nil => simp only [TL.joinL, List.length_nil] at h4 ⊢; simp [← h4]
      | cons y r => simp only [TL.joinL, List.length_append, List.length_nil, List.length_cons, List.nil_append] at h4 ⊢; omega
    · cases ss with
      | nil => intro y hy; simp only [TL.joinL, List.mem_singleton] at hy; rw [hy]; exact hx
      | cons y r =>
        intro w hw
        simp only [TL.joinL, List.nil_append, List.mem_append, List.mem_singleton] at hw
        rcases hw with rfl | hw
        · exact hx
        · exact h5 w (by simpa [TL.joinL] using hw)
def lettersB (iP iO iS : Nat) : List ST := [.ret (.mt .join (.c (.str [])) (.cons (.lc [2] (.rng (.bin .add (.c (.int 1)) (.call iP (.cons (.var 0) (.cons (.var 1) .nil)) .nil [.arg 0, .arg 1]))) (.one 2) .nil (.call iO (.cons (.var 0) (.cons (.call iS .nil .nil []) .nil)) .nil [.arg 0, .arg 1])) .nil))]
/-- a run of draws of one sign each, joined -/
theorem letters_fn {p : Pg} {f : Fn} {iP iO iS : Nat} {t : List Nat} (hb : f.body = lettersB iP iO iS) (hN : f.N.length = 3) (hp : f.ps.length = 2) (Dr : Draws p.cl iP iO) (Sa : Says p.cl iS t) (t0 : 0 < t.length) (t1 : t.length < 1000000) {most : Int} (h0 : 0 < most) (h1 : most < 1000) {c : Cl} {R : So} (B : BagOk c) :
    COk (fnD p f [.ref 0, .int most] (c :: R)) (BagQ R fun d => ∃ z, d = .str z ∧ 1 ≤ z.length ∧ (z.length : Int) ≤ most ∧ ∀ x ∈ z, x ∈ t) := by
  refine cok_fnB hb hN hp ?_
  dsimp only [lettersB]
  repeat (first | with_reducible refine ss_cons ?_ | with_reducible refine s_put ?_ | with_reducible refine s_asg ?_ | with_reducible refine s_asgo_lst ?_ | with_reducible refine s_ex ?_ | with_reducible refine s_ret ?_ | with_reducible refine s_iff ?_ | with_reducible refine s_for ?_ | with_reducible refine e_c ?_ | with_reducible refine e_glo ?_ | with_reducible refine e_lst ?_ | with_reducible refine e_tup ?_ | with_reducible refine e_newl ?_ | with_reducible refine e_bin ?_ | with_reducible refine e_cmp ?_ | with_reducible refine e_chn ?_ | with_reducible refine e_isn ?_ | with_reducible refine e_and ?_ | with_reducible refine e_or ?_ | with_reducible refine e_not ?_ | with_reducible refine e_ife ?_ | with_reducible refine e_call ?_ | with_reducible refine e_bi ?_ | with_reducible refine e_mt ?_ | with_reducible refine e_sub ?_ | with_reducible refine e_slc ?_ | with_reducible refine e_isi ?_ | with_reducible refine e_isiT ?_ | with_reducible refine e_lc ?_ | with_reducible refine e_op1 ?_ | with_reducible refine e_opn ?_ | with_reducible refine e_fst ?_ | with_reducible refine es_nil ?_ | with_reducible refine es_cons ?_ | with_reducible refine eo_no ?_ | with_reducible refine eo_yes ?_ | with_reducible refine ei_it ?_ | with_reducible refine ei_rng ?_ | with_reducible refine ei_zip ?_ | with_reducible refine ei_enm ?_ | with_reducible refine t_cmp ?_ | with_reducible refine t_isn ?_ | with_reducible refine t_and ?_ | with_reducible refine t_or ?_ | with_reducible refine t_not ?_ | with_reducible refine t_call ?_ | with_reducible refine t_isi ?_ | with_reducible refine t_isiT ?_ | with_reducible refine t_op1 ?_ | with_reducible refine t_opn ?_ | with_reducible refine o_neg ?_ | with_reducible refine o_fld ?_ | with_reducible refine o_isc ?_ | with_reducible refine o_gdic ?_ | with_reducible refine o_ccon ?_ | with_reducible refine f_nil ?_ | with_reducible refine f_cons ?_ | with_reducible refine s_sfld ?_ | with_reducible refine s_tasg ?_ | with_reducible refine s_uasg ?_ | with_reducible refine ss_nil ?_ | with_reducible refine q_nx ?_ | with_reducible refine q_rt ?_ | with_reducible refine ts_nil ?_ | with_reducible refine lcd ?_ | with_reducible refine o_rt ?_ | with_reducible refine e_var (by with_unfolding_all rfl) ?_ | with_reducible refine t_var (by with_unfolding_all rfl) ?_ | with_reducible refine oo_mod (by omega) ?_ | with_reducible refine oo_fdiv (by omega) ?_ | with_reducible refine oo_mul (by omega) ?_ | with_reducible refine as_b ?_ | with_reducible refine as_i ?_ | with_reducible refine dec_t (by with_unfolding_all rfl) ?_ | with_reducible refine dec_f (by with_unfolding_all rfl) ?_ | with_reducible refine dec_t' (by with_unfolding_all rfl) ?_ | with_reducible refine dec_f' (by with_unfolding_all rfl) ?_ | with_reducible refine put_ok (by with_unfolding_all rfl) (by with_unfolding_all rfl) ?_ | with_reducible refine pg_cl ?_ | with_reducible refine pg_cl1 ?_ | with_reducible refine gd_rfl (by with_unfolding_all rfl) ?_ | with_reducible refine oo (by with_unfolding_all rfl) ?_)
  refine cok_imp (Dr.pull (by omega) (by omega) B) fun d s ⟨n, c', e1, e2, r1, B'⟩ => ?_
  subst e1 e2
  repeat (first | with_reducible refine ss_cons ?_ | with_reducible refine s_put ?_ | with_reducible refine s_asg ?_ | with_reducible refine s_asgo_lst ?_ | with_reducible refine s_ex ?_ | with_reducible refine s_ret ?_ | with_reducible refine s_iff ?_ | with_reducible refine s_for ?_ | with_reducible refine e_c ?_ | with_reducible refine e_glo ?_ | with_reducible refine e_lst ?_ | with_reducible refine e_tup ?_ | with_reducible refine e_newl ?_ | with_reducible refine e_bin ?_ | with_reducible refine e_cmp ?_ | with_reducible refine e_chn ?_ | with_reducible refine e_isn ?_ | with_reducible refine e_and ?_ | with_reducible refine e_or ?_ | with_reducible refine e_not ?_ | with_reducible refine e_ife ?_ | with_reducible refine e_call ?_ | with_reducible refine e_bi ?_ | with_reducible refine e_mt ?_ | with_reducible refine e_sub ?_ | with_reducible refine e_slc ?_ | with_reducible refine e_isi ?_ | with_reducible refine e_isiT ?_ | with_reducible refine e_lc ?_ | with_reducible refine e_op1 ?_ | with_reducible refine e_opn ?_ | with_reducible refine e_fst ?_ | with_reducible refine es_nil ?_ | with_reducible refine es_cons ?_ | with_reducible refine eo_no ?_ | with_reducible refine eo_yes ?_ | with_reducible refine ei_it ?_ | with_reducible refine ei_rng ?_ | with_reducible refine ei_zip ?_ | with_reducible refine ei_enm ?_ | with_reducible refine t_cmp ?_ | with_reducible refine t_isn ?_ | with_reducible refine t_and ?_ | with_reducible refine t_or ?_ | with_reducible refine t_not ?_ | with_reducible refine t_call ?_ | with_reducible refine t_isi ?_ | with_reducible refine t_isiT ?_ | with_reducible refine t_op1 ?_ | with_reducible refine t_opn ?_ | with_reducible refine o_neg ?_ | with_reducible refine o_fld ?_ | with_reducible refine o_isc ?_ | with_reducible refine o_gdic ?_ | with_reducible refine o_ccon ?_ | with_reducible refine f_nil ?_ | with_reducible refine f_cons ?_ | with_reducible refine s_sfld ?_ | with_reducible refine s_tasg ?_ | with_reducible refine s_uasg ?_ | with_reducible refine ss_nil ?_ | with_reducible refine q_nx ?_ | with_reducible refine q_rt ?_ | with_reducible refine ts_nil ?_ | with_reducible refine lcd ?_ | with_reducible refine o_rt ?_ | with_reducible refine e_var (by with_unfolding_all rfl) ?_ | with_reducible refine t_var (by with_unfolding_all rfl) ?_ | with_reducible refine oo_mod (by omega) ?_ | with_reducible refine oo_fdiv (by omega) ?_ | with_reducible refine oo_mul (by omega) ?_ | with_reducible refine as_b ?_ | with_reducible refine as_i ?_ | with_reducible refine dec_t (by with_unfolding_all rfl) ?_ | with_reducible refine dec_f (by with_unfolding_all rfl) ?_ | with_reducible refine dec_t' (by with_unfolding_all rfl) ?_ | with_reducible refine dec_f' (by with_unfolding_all rfl) ?_ | with_reducible refine put_ok (by with_unfolding_all rfl) (by with_unfolding_all rfl) ?_ | with_reducible refine pg_cl ?_ | with_reducible refine pg_cl1 ?_ | with_reducible refine gd_rfl (by with_unfolding_all rfl) ?_ | with_reducible refine oo (by with_unfolding_all rfl) ?_)
  refine ⟨by omega, ?_⟩
  repeat (first | with_reducible refine ss_cons ?_ | with_reducible refine s_put ?_ | with_reducible refine s_asg ?_ | with_reducible refine s_asgo_lst ?_ | with_reducible refine s_ex ?_ | with_reducible refine s_ret ?_ | with_reducible refine s_iff ?_ | with_reducible refine s_for ?_ | with_reducible refine e_c ?_ | with_reducible refine e_glo ?_ | with_reducible refine e_lst ?_ | with_reducible refine e_tup ?_ | with_reducible refine e_newl ?_ | with_reducible refine e_bin ?_ | with_reducible refine e_cmp ?_ | with_reducible refine e_chn ?_ | with_reducible refine e_isn ?_ | with_reducible refine e_and ?_ | with_reducible refine e_or ?_ | with_reducible refine e_not ?_ | with_reducible refine e_ife ?_ | with_reducible refine e_call ?_ | with_reducible refine e_bi ?_ | with_reducible refine e_mt ?_ | with_reducible refine e_sub ?_ | with_reducible refine e_slc ?_ | with_reducible refine e_isi ?_ | with_reducible refine e_isiT ?_ | with_reducible refine e_lc ?_ | with_reducible refine e_op1 ?_ | with_reducible refine e_opn ?_ | with_reducible refine e_fst ?_ | with_reducible refine es_nil ?_ | with_reducible refine es_cons ?_ | with_reducible refine eo_no ?_ | with_reducible refine eo_yes ?_ | with_reducible refine ei_it ?_ | with_reducible refine ei_rng ?_ | with_reducible refine ei_zip ?_ | with_reducible refine ei_enm ?_ | with_reducible refine t_cmp ?_ | with_reducible refine t_isn ?_ | with_reducible refine t_and ?_ | with_reducible refine t_or ?_ | with_reducible refine t_not ?_ | with_reducible refine t_call ?_ | with_reducible refine t_isi ?_ | with_reducible refine t_isiT ?_ | with_reducible refine t_op1 ?_ | with_reducible refine t_opn ?_ | with_reducible refine o_neg ?_ | with_reducible refine o_fld ?_ | with_reducible refine o_isc ?_ | with_reducible refine o_gdic ?_ | with_reducible refine o_ccon ?_ | with_reducible refine f_nil ?_ | with_reducible refine f_cons ?_ | with_reducible refine s_sfld ?_ | with_reducible refine s_tasg ?_ | with_reducible refine s_uasg ?_ | with_reducible refine ss_nil ?_ | with_reducible refine q_nx ?_ | with_reducible refine q_rt ?_ | with_reducible refine ts_nil ?_ | with_reducible refine lcd ?_ | with_reducible refine o_rt ?_ | with_reducible refine e_var (by with_unfolding_all rfl) ?_ | with_reducible refine t_var (by with_unfolding_all rfl) ?_ | with_reducible refine oo_mod (by omega) ?_ | with_reducible refine oo_fdiv (by omega) ?_ | with_reducible refine oo_mul (by omega) ?_ | with_reducible refine as_b ?_ | with_reducible refine as_i ?_ | with_reducible refine dec_t (by with_unfolding_all rfl) ?_ | with_reducible refine dec_f (by with_unfolding_all rfl) ?_ | with_reducible refine dec_t' (by with_unfolding_all rfl) ?_ | with_reducible refine dec_f' (by with_unfolding_all rfl) ?_ | with_reducible refine put_ok (by with_unfolding_all rfl) (by with_unfolding_all rfl) ?_ | with_reducible refine pg_cl ?_ | with_reducible refine pg_cl1 ?_ | with_reducible refine gd_rfl (by with_unfolding_all rfl) ?_ | with_reducible refine oo (by with_unfolding_all rfl) ?_)
  refine lc_inv (fun _ d => ∃ x ∈ t, d = .str [x]) (fun s => ∃ c, s = c :: R ∧ BagOk c) [.sh (.ref 0), .sh (.int most), .un] rfl (fun x _ => ⟨_, rfl, rfl, ?_⟩) ⟨c', rfl, B'⟩ ?_
  · rintro s ⟨c, rfl, B⟩
    refine ⟨?_, ?_⟩
    · repeat (first | with_reducible refine ss_cons ?_ | with_reducible refine s_put ?_ | with_reducible refine s_asg ?_ | with_reducible refine s_asgo_lst ?_ | with_reducible refine s_ex ?_ | with_reducible refine s_ret ?_ | with_reducible refine s_iff ?_ | with_reducible refine s_for ?_ | with_reducible refine e_c ?_ | with_reducible refine e_glo ?_ | with_reducible refine e_lst ?_ | with_reducible refine e_tup ?_ | with_reducible refine e_newl ?_ | with_reducible refine e_bin ?_ | with_reducible refine e_cmp ?_ | with_reducible refine e_chn ?_ | with_reducible refine e_isn ?_ | with_reducible refine e_and ?_ | with_reducible refine e_or ?_ | with_reducible refine e_not ?_ | with_reducible refine e_ife ?_ | with_reducible refine e_call ?_ | with_reducible refine e_bi ?_ | with_reducible refine e_mt ?_ | with_reducible refine e_sub ?_ | with_reducible refine e_slc ?_ | with_reducible refine e_isi ?_ | with_reducible refine e_isiT ?_ | with_reducible refine e_lc ?_ | with_reducible refine e_op1 ?_ | with_reducible refine e_opn ?_ | with_reducible refine e_fst ?_ | with_reducible refine es_nil ?_ | with_reducible refine es_cons ?_ | with_reducible refine eo_no ?_ | with_reducible refine eo_yes ?_ | with_reducible refine ei_it ?_ | with_reducible refine ei_rng ?_ | with_reducible refine ei_zip ?_ | with_reducible refine ei_enm ?_ | with_reducible refine t_cmp ?_ | with_reducible refine t_isn ?_ | with_reducible refine t_and ?_ | with_reducible refine t_or ?_ | with_reducible refine t_not ?_ | with_reducible refine t_call ?_ | with_reducible refine t_isi ?_ | with_reducible refine t_isiT ?_ | with_reducible refine t_op1 ?_ | with_reducible refine t_opn ?_ | with_reducible refine o_neg ?_ | with_reducible refine o_fld ?_ | with_reducible refine o_isc ?_ | with_reducible refine o_gdic ?_ | with_reducible refine o_ccon ?_ | with_reducible refine f_nil ?_ | with_reducible refine f_cons ?_ | with_reducible refine s_sfld ?_ | with_reducible refine s_tasg ?_ | with_reducible refine s_uasg ?_ | with_reducible refine ss_nil ?_ | with_reducible refine q_nx ?_ | with_reducible refine q_rt ?_ | with_reducible refine ts_nil ?_ | with_reducible refine lcd ?_ | with_reducible refine o_rt ?_ | with_reducible refine e_var (by with_unfolding_all rfl) ?_ | with_reducible refine t_var (by with_unfolding_all rfl) ?_ | with_reducible refine oo_mod (by omega) ?_ | with_reducible refine oo_fdiv (by omega) ?_ | with_reducible refine oo_mul (by omega) ?_ | with_reducible refine as_b ?_ | with_reducible refine as_i ?_ | with_reducible refine dec_t (by with_unfolding_all rfl) ?_ | with_reducible refine dec_f (by with_unfolding_all rfl) ?_ | with_reducible refine dec_t' (by with_unfolding_all rfl) ?_ | with_reducible refine dec_f' (by with_unfolding_all rfl) ?_ | with_reducible refine put_ok (by with_unfolding_all rfl) (by with_unfolding_all rfl) ?_ | with_reducible refine pg_cl ?_ | with_reducible refine pg_cl1 ?_ | with_reducible refine gd_rfl (by with_unfolding_all rfl) ?_ | with_reducible refine oo (by with_unfolding_all rfl) ?_)
      exact ⟨rfl, rfl, c, rfl, B⟩
    · repeat (first | with_reducible refine ss_cons ?_ | with_reducible refine s_put ?_ | with_reducible refine s_asg ?_ | with_reducible refine s_asgo_lst ?_ | with_reducible refine s_ex ?_ | with_reducible refine s_ret ?_ | with_reducible refine s_iff ?_ | with_reducible refine s_for ?_ | with_reducible refine e_c ?_ | with_reducible refine e_glo ?_ | with_reducible refine e_lst ?_ | with_reducible refine e_tup ?_ | with_reducible refine e_newl ?_ | with_reducible refine e_bin ?_ | with_reducible refine e_cmp ?_ | with_reducible refine e_chn ?_ | with_reducible refine e_isn ?_ | with_reducible refine e_and ?_ | with_reducible refine e_or ?_ | with_reducible refine e_not ?_ | with_reducible refine e_ife ?_ | with_reducible refine e_call ?_ | with_reducible refine e_bi ?_ | with_reducible refine e_mt ?_ | with_reducible refine e_sub ?_ | with_reducible refine e_slc ?_ | with_reducible refine e_isi ?_ | with_reducible refine e_isiT ?_ | with_reducible refine e_lc ?_ | with_reducible refine e_op1 ?_ | with_reducible refine e_opn ?_ | with_reducible refine e_fst ?_ | with_reducible refine es_nil ?_ | with_reducible refine es_cons ?_ | with_reducible refine eo_no ?_ | with_reducible refine eo_yes ?_ | with_reducible refine ei_it ?_ | with_reducible refine ei_rng ?_ | with_reducible refine ei_zip ?_ | with_reducible refine ei_enm ?_ | with_reducible refine t_cmp ?_ | with_reducible refine t_isn ?_ | with_reducible refine t_and ?_ | with_reducible refine t_or ?_ | with_reducible refine t_not ?_ | with_reducible refine t_call ?_ | with_reducible refine t_isi ?_ | with_reducible refine t_isiT ?_ | with_reducible refine t_op1 ?_ | with_reducible refine t_opn ?_ | with_reducible refine o_neg ?_ | with_reducible refine o_fld ?_ | with_reducible refine o_isc ?_ | with_reducible refine o_gdic ?_ | with_reducible refine o_ccon ?_ | with_reducible refine f_nil ?_ | with_reducible refine f_cons ?_ | with_reducible refine s_sfld ?_ | with_reducible refine s_tasg ?_ | with_reducible refine s_uasg ?_ | with_reducible refine ss_nil ?_ | with_reducible refine q_nx ?_ | with_reducible refine q_rt ?_ | with_reducible refine ts_nil ?_ | with_reducible refine lcd ?_ | with_reducible refine o_rt ?_ | with_reducible refine e_var (by with_unfolding_all rfl) ?_ | with_reducible refine t_var (by with_unfolding_all rfl) ?_ | with_reducible refine oo_mod (by omega) ?_ | with_reducible refine oo_fdiv (by omega) ?_ | with_reducible refine oo_mul (by omega) ?_ | with_reducible refine as_b ?_ | with_reducible refine as_i ?_ | with_reducible refine dec_t (by with_unfolding_all rfl) ?_ | with_reducible refine dec_f (by with_unfolding_all rfl) ?_ | with_reducible refine dec_t' (by with_unfolding_all rfl) ?_ | with_reducible refine dec_f' (by with_unfolding_all rfl) ?_ | with_reducible refine put_ok (by with_unfolding_all rfl) (by with_unfolding_all rfl) ?_ | with_reducible refine pg_cl ?_ | with_reducible refine pg_cl1 ?_ | with_reducible refine gd_rfl (by with_unfolding_all rfl) ?_ | with_reducible refine oo (by with_unfolding_all rfl) ?_)
      refine cok_imp (Sa _) fun d s z => ?_
      obtain ⟨rfl, rfl⟩ := z
      repeat (first | with_reducible refine ss_cons ?_ | with_reducible refine s_put ?_ | with_reducible refine s_asg ?_ | with_reducible refine s_asgo_lst ?_ | with_reducible refine s_ex ?_ | with_reducible refine s_ret ?_ | with_reducible refine s_iff ?_ | with_reducible refine s_for ?_ | with_reducible refine e_c ?_ | with_reducible refine e_glo ?_ | with_reducible refine e_lst ?_ | with_reducible refine e_tup ?_ | with_reducible refine e_newl ?_ | with_reducible refine e_bin ?_ | with_reducible refine e_cmp ?_ | with_reducible refine e_chn ?_ | with_reducible refine e_isn ?_ | with_reducible refine e_and ?_ | with_reducible refine e_or ?_ | with_reducible refine e_not ?_ | with_reducible refine e_ife ?_ | with_reducible refine e_call ?_ | with_reducible refine e_bi ?_ | with_reducible refine e_mt ?_ | with_reducible refine e_sub ?_ | with_reducible refine e_slc ?_ | with_reducible refine e_isi ?_ | with_reducible refine e_isiT ?_ | with_reducible refine e_lc ?_ | with_reducible refine e_op1 ?_ | with_reducible refine e_opn ?_ | with_reducible refine e_fst ?_ | with_reducible refine es_nil ?_ | with_reducible refine es_cons ?_ | with_reducible refine eo_no ?_ | with_reducible refine eo_yes ?_ | with_reducible refine ei_it ?_ | with_reducible refine ei_rng ?_ | with_reducible refine ei_zip ?_ | with_reducible refine ei_enm ?_ | with_reducible refine t_cmp ?_ | with_reducible refine t_isn ?_ | with_reducible refine t_and ?_ | with_reducible refine t_or ?_ | with_reducible refine t_not ?_ | with_reducible refine t_call ?_ | with_reducible refine t_isi ?_ | with_reducible refine t_isiT ?_ | with_reducible refine t_op1 ?_ | with_reducible refine t_opn ?_ | with_reducible refine o_neg ?_ | with_reducible refine o_fld ?_ | with_reducible refine o_isc ?_ | with_reducible refine o_gdic ?_ | with_reducible refine o_ccon ?_ | with_reducible refine f_nil ?_ | with_reducible refine f_cons ?_ | with_reducible refine s_sfld ?_ | with_reducible refine s_tasg ?_ | with_reducible refine s_uasg ?_ | with_reducible refine ss_nil ?_ | with_reducible refine q_nx ?_ | with_reducible refine q_rt ?_ | with_reducible refine ts_nil ?_ | with_reducible refine lcd ?_ | with_reducible refine o_rt ?_ | with_reducible refine e_var (by with_unfolding_all rfl) ?_ | with_reducible refine t_var (by with_unfolding_all rfl) ?_ | with_reducible refine oo_mod (by omega) ?_ | with_reducible refine oo_fdiv (by omega) ?_ | with_reducible refine oo_mul (by omega) ?_ | with_reducible refine as_b ?_ | with_reducible refine as_i ?_ | with_reducible refine dec_t (by with_unfolding_all rfl) ?_ | with_reducible refine dec_f (by with_unfolding_all rfl) ?_ | with_reducible refine dec_t' (by with_unfolding_all rfl) ?_ | with_reducible refine dec_f' (by with_unfolding_all rfl) ?_ | with_reducible refine put_ok (by with_unfolding_all rfl) (by with_unfolding_all rfl) ?_ | with_reducible refine pg_cl ?_ | with_reducible refine pg_cl1 ?_ | with_reducible refine gd_rfl (by with_unfolding_all rfl) ?_ | with_reducible refine oo (by with_unfolding_all rfl) ?_)
      refine cok_imp (Dr.ofs t0 t1 B) fun d s z => ?_
      obtain ⟨⟨x, hx, rfl⟩, c, rfl, B⟩ := z
      exact ⟨rfl, ⟨x, hx, rfl⟩, c, rfl, B⟩
  · rintro zs s hl hz ⟨c, rfl, B⟩
    obtain ⟨ss, e1, e2, e3, e4, e5⟩ := join_one (t := t) (zs := zs) fun z h => (hz z h).elim fun _ h => h.2
    have hl : zs.length = n + 1 := by rw [hl]; simp [rngD]; omega
    repeat (first | with_reducible refine ss_cons ?_ | with_reducible refine s_put ?_ | with_reducible refine s_asg ?_ | with_reducible refine s_asgo_lst ?_ | with_reducible refine s_ex ?_ | with_reducible refine s_ret ?_ | with_reducible refine s_iff ?_ | with_reducible refine s_for ?_ | with_reducible refine e_c ?_ | with_reducible refine e_glo ?_ | with_reducible refine e_lst ?_ | with_reducible refine e_tup ?_ | with_reducible refine e_newl ?_ | with_reducible refine e_bin ?_ | with_reducible refine e_cmp ?_ | with_reducible refine e_chn ?_ | with_reducible refine e_isn ?_ | with_reducible refine e_and ?_ | with_reducible refine e_or ?_ | with_reducible refine e_not ?_ | with_reducible refine e_ife ?_ | with_reducible refine e_call ?_ | with_reducible refine e_bi ?_ | with_reducible refine e_mt ?_ | with_reducible refine e_sub ?_ | with_reducible refine e_slc ?_ | with_reducible refine e_isi ?_ | with_reducible refine e_isiT ?_ | with_reducible refine e_lc ?_ | with_reducible refine e_op1 ?_ | with_reducible refine e_opn ?_ | with_reducible refine e_fst ?_ | with_reducible refine es_nil ?_ | with_reducible refine es_cons ?_ | with_reducible refine eo_no ?_ | with_reducible refine eo_yes ?_ | with_reducible refine ei_it ?_ | with_reducible refine ei_rng ?_ | with_reducible refine ei_zip ?_ | with_reducible refine ei_enm ?_ | with_reducible refine t_cmp ?_ | with_reducible refine t_isn ?_ | with_reducible refine t_and ?_ | with_reducible refine t_or ?_ | with_reducible refine t_not ?_ | with_reducible refine t_call ?_ | with_reducible refine t_isi ?_ | with_reducible refine t_isiT ?_ | with_reducible refine t_op1 ?_ | with_reducible refine t_opn ?_ | with_reducible refine o_neg ?_ | with_reducible refine o_fld ?_ | with_reducible refine o_isc ?_ | with_reducible refine o_gdic ?_ | with_reducible refine o_ccon ?_ | with_reducible refine f_nil ?_ | with_reducible refine f_cons ?_ | with_reducible refine s_sfld ?_ | with_reducible refine s_tasg ?_ | with_reducible refine s_uasg ?_ | with_reducible refine ss_nil ?_ | with_reducible refine q_nx ?_ | with_reducible refine q_rt ?_ | with_reducible refine ts_nil ?_ | with_reducible refine lcd ?_ | with_reducible refine o_rt ?_ | with_reducible refine e_var (by with_unfolding_all rfl) ?_ | with_reducible refine t_var (by with_unfolding_all rfl) ?_ | with_reducible refine oo_mod (by omega) ?_ | with_reducible refine oo_fdiv (by omega) ?_ | with_reducible refine oo_mul (by omega) ?_ | with_reducible refine as_b ?_ | with_reducible refine as_i ?_ | with_reducible refine dec_t (by with_unfolding_all rfl) ?_ | with_reducible refine dec_f (by with_unfolding_all rfl) ?_ | with_reducible refine dec_t' (by with_unfolding_all rfl) ?_ | with_reducible refine dec_f' (by with_unfolding_all rfl) ?_ | with_reducible refine put_ok (by with_unfolding_all rfl) (by with_unfolding_all rfl) ?_ | with_reducible refine pg_cl ?_ | with_reducible refine pg_cl1 ?_ | with_reducible refine gd_rfl (by with_unfolding_all rfl) ?_ | with_reducible refine oo (by with_unfolding_all rfl) ?_)
    refine oo (a := .str (TL.joinL [] ss)) ?_ ?_
    · show (strsD zs).bind _ = _
      rw [e1]
      show (if _ then _ else _) = _
      rw [if_pos]
      show _ ≤ 16777216
      simp only [List.length_nil, Nat.mul_zero]
      omega
    repeat (first | with_reducible refine ss_cons ?_ | with_reducible refine s_put ?_ | with_reducible refine s_asg ?_ | with_reducible refine s_asgo_lst ?_ | with_reducible refine s_ex ?_ | with_reducible refine s_ret ?_ | with_reducible refine s_iff ?_ | with_reducible refine s_for ?_ | with_reducible refine e_c ?_ | with_reducible refine e_glo ?_ | with_reducible refine e_lst ?_ | with_reducible refine e_tup ?_ | with_reducible refine e_newl ?_ | with_reducible refine e_bin ?_ | with_reducible refine e_cmp ?_ | with_reducible refine e_chn ?_ | with_reducible refine e_isn ?_ | with_reducible refine e_and ?_ | with_reducible refine e_or ?_ | with_reducible refine e_not ?_ | with_reducible refine e_ife ?_ | with_reducible refine e_call ?_ | with_reducible refine e_bi ?_ | with_reducible refine e_mt ?_ | with_reducible refine e_sub ?_ | with_reducible refine e_slc ?_ | with_reducible refine e_isi ?_ | with_reducible refine e_isiT ?_ | with_reducible refine e_lc ?_ | with_reducible refine e_op1 ?_ | with_reducible refine e_opn ?_ | with_reducible refine e_fst ?_ | with_reducible refine es_nil ?_ | with_reducible refine es_cons ?_ | with_reducible refine eo_no ?_ | with_reducible refine eo_yes ?_ | with_reducible refine ei_it ?_ | with_reducible refine ei_rng ?_ | with_reducible refine ei_zip ?_ | with_reducible refine ei_enm ?_ | with_reducible refine t_cmp ?_ | with_reducible refine t_isn ?_ | with_reducible refine t_and ?_ | with_reducible refine t_or ?_ | with_reducible refine t_not ?_ | with_reducible refine t_call ?_ | with_reducible refine t_isi ?_ | with_reducible refine t_isiT ?_ | with_reducible refine t_op1 ?_ | with_reducible refine t_opn ?_ | with_reducible refine o_neg ?_ | with_reducible refine o_fld ?_ | with_reducible refine o_isc ?_ | with_reducible refine o_gdic ?_ | with_reducible refine o_ccon ?_ | with_reducible refine f_nil ?_ | with_reducible refine f_cons ?_ | with_reducible refine s_sfld ?_ | with_reducible refine s_tasg ?_ | with_reducible refine s_uasg ?_ | with_reducible refine ss_nil ?_ | with_reducible refine q_nx ?_ | with_reducible refine q_rt ?_ | with_reducible refine ts_nil ?_ | with_reducible refine lcd ?_ | with_reducible refine o_rt ?_ | with_reducible refine e_var (by with_unfolding_all rfl) ?_ | with_reducible refine t_var (by with_unfolding_all rfl) ?_ | with_reducible refine oo_mod (by omega) ?_ | with_reducible refine oo_fdiv (by omega) ?_ | with_reducible refine oo_mul (by omega) ?_ | with_reducible refine as_b ?_ | with_reducible refine as_i ?_ | with_reducible refine dec_t (by with_unfolding_all rfl) ?_ | with_reducible refine dec_f (by with_unfolding_all rfl) ?_ | with_reducible refine dec_t' (by with_unfolding_all rfl) ?_ | with_reducible refine dec_f' (by with_unfolding_all rfl) ?_ | with_reducible refine put_ok (by with_unfolding_all rfl) (by with_unfolding_all rfl) ?_ | with_reducible refine pg_cl ?_ | with_reducible refine pg_cl1 ?_ | with_reducible refine gd_rfl (by with_unfolding_all rfl) ?_ | with_reducible refine oo (by with_unfolding_all rfl) ?_)
    exact ⟨⟨_, rfl, by omega, by omega, e5⟩, c, rfl, B⟩
/-! ### the comparison -/
def PlainN : Nat → D → Prop
  | _, .non => True | _, .bl _ => True | _, .int _ => True | _, .str _ => True
  | n + 1, .lst xs => ∀ x ∈ xs, PlainN n x
  | n + 1, .tup xs => ∀ x ∈ xs, PlainN n x
  | _, _ => False
def sameB (i : Nat) : List ST := [.iff (.isiT (.var 1) ["list", "tuple"]) [.iff (.or (.cmp .ne (.isi (.var 0) "list") (.isi (.var 1) "list")) (.cmp .ne (.isi (.var 0) "tuple") (.isi (.var 1) "tuple"))) [.ret (.c (.bl false))] [],
      .ret (.and (.cmp .eq (.bi .len (.cons (.var 0) .nil)) (.bi .len (.cons (.var 1) .nil))) (.bi .all (.cons (.lc [2, 3] (.zip (.var 0) (.var 1)) (.tup [2, 3]) .nil (.call i (.cons (.var 2) (.cons (.var 3) .nil)) .nil [.arg 0, .arg 1])) .nil)))] [],
      .iff (.or (.isn false (.var 1)) (.isn false (.var 0))) [.ret (.and (.isn false (.var 1)) (.isn false (.var 0)))] [],
      .iff (.or (.cmp .ne (.isi (.var 1) "bool") (.isi (.var 0) "bool")) (.cmp .ne (.isi (.var 1) "int") (.isi (.var 0) "int"))) [.ret (.c (.bl false))] [],
      .ret (.and (.cmp .eq (.isi (.var 1) "str") (.isi (.var 0) "str")) (.cmp .eq (.var 0) (.var 1)))]
theorem bls_true (xs : List D) (f : D → D) (h : ∀ x ∈ xs, f x = .bl true) : (blsD (xs.map f)).map (fun bs => D.bl (bs.all id)) = some (.bl true) := by
  have : blsD (xs.map f) = some (xs.map fun _ => true) := by
    induction xs with
    | nil => rfl
    | cons x xs ih =>
      simp only [List.map_cons]
      rw [h x (by simp)]
      simp only [blsD]
      rw [ih fun y hy => h y (by simp [hy])]
      rfl
  rw [this]
  simp
theorem zip_self {α : Type} (xs : List α) : xs.zip xs = xs.map fun x => (x, x) := by
  induction xs with
  | nil => rfl
  | cons x xs ih => simp [ih]
theorem same_seq {p : Pg} {i : Nat} {d : D} {xs : List D} {s : So} (hd : d = .lst xs ∨ d = .tup xs) (ih : ∀ x ∈ xs, COk (p.cl i [x, x] s) (fun x s' => x = .bl true ∧ s' = s)) : Ok (denSS p (sameB i) [.sh d, .sh d, .un, .un] s) (outD fun x s' => x = .bl true ∧ s' = s) := by
  have key : zipD d d = some (xs.map fun x => .tup [x, x]) ∧ lenD [d] = some (.int xs.length) := by
    rcases hd with rfl | rfl
    · exact ⟨by simp [zipD, zip_self], rfl⟩
    · exact ⟨by simp [zipD, zip_self], rfl⟩
  have fin : Ok (denE p (.bi .all (.cons (.lc [2, 3] (.zip (.var 0) (.var 1)) (.tup [2, 3]) .nil (.call i (.cons (.var 2) (.cons (.var 3) .nil)) .nil [.arg 0, .arg 1])) .nil)) [.sh d, .sh d, .un, .un] s) (fun x e s' => x = .bl true ∧ s' = s) := by
    refine e_bi (es_cons (e_lc (lcd (ei_zip (e_var rfl (e_var rfl ?_))))))
    refine oo key.1 ?_
    refine gd rfl ?_
    refine lc_map (fun _ => .bl true) [.sh d, .sh d, .un, .un] rfl (fun x hx => ?_) ?_
    · obtain ⟨y, hy, rfl⟩ := List.mem_map.1 hx
      refine ⟨_, rfl, rfl, ?_, ?_⟩
      · repeat (first | with_reducible refine ss_cons ?_ | with_reducible refine s_put ?_ | with_reducible refine s_asg ?_ | with_reducible refine s_asgo_lst ?_ | with_reducible refine s_ex ?_ | with_reducible refine s_ret ?_ | with_reducible refine s_iff ?_ | with_reducible refine s_for ?_ | with_reducible refine e_c ?_ | with_reducible refine e_glo ?_ | with_reducible refine e_lst ?_ | with_reducible refine e_tup ?_ | with_reducible refine e_newl ?_ | with_reducible refine e_bin ?_ | with_reducible refine e_cmp ?_ | with_reducible refine e_chn ?_ | with_reducible refine e_isn ?_ | with_reducible refine e_and ?_ | with_reducible refine e_or ?_ | with_reducible refine e_not ?_ | with_reducible refine e_ife ?_ | with_reducible refine e_call ?_ | with_reducible refine e_bi ?_ | with_reducible refine e_mt ?_ | with_reducible refine e_sub ?_ | with_reducible refine e_slc ?_ | with_reducible refine e_isi ?_ | with_reducible refine e_isiT ?_ | with_reducible refine e_lc ?_ | with_reducible refine e_op1 ?_ | with_reducible refine e_opn ?_ | with_reducible refine e_fst ?_ | with_reducible refine es_nil ?_ | with_reducible refine es_cons ?_ | with_reducible refine eo_no ?_ | with_reducible refine eo_yes ?_ | with_reducible refine ei_it ?_ | with_reducible refine ei_rng ?_ | with_reducible refine ei_zip ?_ | with_reducible refine ei_enm ?_ | with_reducible refine t_cmp ?_ | with_reducible refine t_isn ?_ | with_reducible refine t_and ?_ | with_reducible refine t_or ?_ | with_reducible refine t_not ?_ | with_reducible refine t_call ?_ | with_reducible refine t_isi ?_ | with_reducible refine t_isiT ?_ | with_reducible refine t_op1 ?_ | with_reducible refine t_opn ?_ | with_reducible refine o_neg ?_ | with_reducible refine o_fld ?_ | with_reducible refine o_isc ?_ | with_reducible refine o_gdic ?_ | with_reducible refine o_ccon ?_ | with_reducible refine f_nil ?_ | with_reducible refine f_cons ?_ | with_reducible refine s_sfld ?_ | with_reducible refine s_tasg ?_ | with_reducible refine s_uasg ?_ | with_reducible refine ss_nil ?_ | with_reducible refine q_nx ?_ | with_reducible refine q_rt ?_ | with_reducible refine ts_nil ?_ | with_reducible refine lcd ?_ | with_reducible refine o_rt ?_ | with_reducible refine e_var (by with_unfolding_all rfl) ?_ | with_reducible refine t_var (by with_unfolding_all rfl) ?_ | with_reducible refine oo_mod (by omega) ?_ | with_reducible refine oo_fdiv (by omega) ?_ | with_reducible refine oo_mul (by omega) ?_ | with_reducible refine as_b ?_ | with_reducible refine as_i ?_ | with_reducible refine dec_t (by with_unfolding_all rfl) ?_ | with_reducible refine dec_f (by with_unfolding_all rfl) ?_ | with_reducible refine dec_t' (by with_unfolding_all rfl) ?_ | with_reducible refine dec_f' (by with_unfolding_all rfl) ?_ | with_reducible refine put_ok (by with_unfolding_all rfl) (by with_unfolding_all rfl) ?_ | with_reducible refine pg_cl ?_ | with_reducible refine pg_cl1 ?_ | with_reducible refine gd_rfl (by with_unfolding_all rfl) ?_ | with_reducible refine oo (by with_unfolding_all rfl) ?_)
        exact ⟨rfl, rfl, rfl⟩
      · repeat (first | with_reducible refine ss_cons ?_ | with_reducible refine s_put ?_ | with_reducible refine s_asg ?_ | with_reducible refine s_asgo_lst ?_ | with_reducible refine s_ex ?_ | with_reducible refine s_ret ?_ | with_reducible refine s_iff ?_ | with_reducible refine s_for ?_ | with_reducible refine e_c ?_ | with_reducible refine e_glo ?_ | with_reducible refine e_lst ?_ | with_reducible refine e_tup ?_ | with_reducible refine e_newl ?_ | with_reducible refine e_bin ?_ | with_reducible refine e_cmp ?_ | with_reducible refine e_chn ?_ | with_reducible refine e_isn ?_ | with_reducible refine e_and ?_ | with_reducible refine e_or ?_ | with_reducible refine e_not ?_ | with_reducible refine e_ife ?_ | with_reducible refine e_call ?_ | with_reducible refine e_bi ?_ | with_reducible refine e_mt ?_ | with_reducible refine e_sub ?_ | with_reducible refine e_slc ?_ | with_reducible refine e_isi ?_ | with_reducible refine e_isiT ?_ | with_reducible refine e_lc ?_ | with_reducible refine e_op1 ?_ | with_reducible refine e_opn ?_ | with_reducible refine e_fst ?_ | with_reducible refine es_nil ?_ | with_reducible refine es_cons ?_ | with_reducible refine eo_no ?_ | with_reducible refine eo_yes ?_ | with_reducible refine ei_it ?_ | with_reducible refine ei_rng ?_ | with_reducible refine ei_zip ?_ | with_reducible refine ei_enm ?_ | with_reducible refine t_cmp ?_ | with_reducible refine t_isn ?_ | with_reducible refine t_and ?_ | with_reducible refine t_or ?_ | with_reducible refine t_not ?_ | with_reducible refine t_call ?_ | with_reducible refine t_isi ?_ | with_reducible refine t_isiT ?_ | with_reducible refine t_op1 ?_ | with_reducible refine t_opn ?_ | with_reducible refine o_neg ?_ | with_reducible refine o_fld ?_ | with_reducible refine o_isc ?_ | with_reducible refine o_gdic ?_ | with_reducible refine o_ccon ?_ | with_reducible refine f_nil ?_ | with_reducible refine f_cons ?_ | with_reducible refine s_sfld ?_ | with_reducible refine s_tasg ?_ | with_reducible refine s_uasg ?_ | with_reducible refine ss_nil ?_ | with_reducible refine q_nx ?_ | with_reducible refine q_rt ?_ | with_reducible refine ts_nil ?_ | with_reducible refine lcd ?_ | with_reducible refine o_rt ?_ | with_reducible refine e_var (by with_unfolding_all rfl) ?_ | with_reducible refine t_var (by with_unfolding_all rfl) ?_ | with_reducible refine oo_mod (by omega) ?_ | with_reducible refine oo_fdiv (by omega) ?_ | with_reducible refine oo_mul (by omega) ?_ | with_reducible refine as_b ?_ | with_reducible refine as_i ?_ | with_reducible refine dec_t (by with_unfolding_all rfl) ?_ | with_reducible refine dec_f (by with_unfolding_all rfl) ?_ | with_reducible refine dec_t' (by with_unfolding_all rfl) ?_ | with_reducible refine dec_f' (by with_unfolding_all rfl) ?_ | with_reducible refine put_ok (by with_unfolding_all rfl) (by with_unfolding_all rfl) ?_ | with_reducible refine pg_cl ?_ | with_reducible refine pg_cl1 ?_ | with_reducible refine gd_rfl (by with_unfolding_all rfl) ?_ | with_reducible refine oo (by with_unfolding_all rfl) ?_)
        refine cok_imp (ih y hy) fun d s z => ?_
        exact ⟨rfl, z.1, z.2⟩
    · refine es_nil ?_
      refine oo (a := .bl true) ?_ ?_
      · simp only [biD, allD, List.nil_append]
        exact bls_true _ _ fun _ _ => rfl
      · exact ⟨rfl, rfl⟩
  rcases hd with rfl | rfl
  · dsimp only [sameB]
    repeat (first | with_reducible refine ss_cons ?_ | with_reducible refine s_put ?_ | with_reducible refine s_asg ?_ | with_reducible refine s_asgo_lst ?_ | with_reducible refine s_ex ?_ | with_reducible refine s_ret ?_ | with_reducible refine s_iff ?_ | with_reducible refine s_for ?_ | with_reducible refine e_c ?_ | with_reducible refine e_glo ?_ | with_reducible refine e_lst ?_ | with_reducible refine e_tup ?_ | with_reducible refine e_newl ?_ | with_reducible refine e_bin ?_ | with_reducible refine e_cmp ?_ | with_reducible refine e_chn ?_ | with_reducible refine e_isn ?_ | with_reducible refine e_and ?_ | with_reducible refine e_or ?_ | with_reducible refine e_not ?_ | with_reducible refine e_ife ?_ | with_reducible refine e_call ?_ | with_reducible refine e_bi ?_ | with_reducible refine e_mt ?_ | with_reducible refine e_sub ?_ | with_reducible refine e_slc ?_ | with_reducible refine e_isi ?_ | with_reducible refine e_isiT ?_ | with_reducible refine e_lc ?_ | with_reducible refine e_op1 ?_ | with_reducible refine e_opn ?_ | with_reducible refine e_fst ?_ | with_reducible refine es_nil ?_ | with_reducible refine es_cons ?_ | with_reducible refine eo_no ?_ | with_reducible refine eo_yes ?_ | with_reducible refine ei_it ?_ | with_reducible refine ei_rng ?_ | with_reducible refine ei_zip ?_ | with_reducible refine ei_enm ?_ | with_reducible refine t_cmp ?_ | with_reducible refine t_isn ?_ | with_reducible refine t_and ?_ | with_reducible refine t_or ?_ | with_reducible refine t_not ?_ | with_reducible refine t_call ?_ | with_reducible refine t_isi ?_ | with_reducible refine t_isiT ?_ | with_reducible refine t_op1 ?_ | with_reducible refine t_opn ?_ | with_reducible refine o_neg ?_ | with_reducible refine o_fld ?_ | with_reducible refine o_isc ?_ | with_reducible refine o_gdic ?_ | with_reducible refine o_ccon ?_ | with_reducible refine f_nil ?_ | with_reducible refine f_cons ?_ | with_reducible refine s_sfld ?_ | with_reducible refine s_tasg ?_ | with_reducible refine s_uasg ?_ | with_reducible refine ss_nil ?_ | with_reducible refine q_nx ?_ | with_reducible refine q_rt ?_ | with_reducible refine ts_nil ?_ | with_reducible refine lcd ?_ | with_reducible refine o_rt ?_ | with_reducible refine e_var (by with_unfolding_all rfl) ?_ | with_reducible refine t_var (by with_unfolding_all rfl) ?_ | with_reducible refine oo_mod (by omega) ?_ | with_reducible refine oo_fdiv (by omega) ?_ | with_reducible refine oo_mul (by omega) ?_ | with_reducible refine as_b ?_ | with_reducible refine as_i ?_ | with_reducible refine dec_t (by with_unfolding_all rfl) ?_ | with_reducible refine dec_f (by with_unfolding_all rfl) ?_ | with_reducible refine dec_t' (by with_unfolding_all rfl) ?_ | with_reducible refine dec_f' (by with_unfolding_all rfl) ?_ | with_reducible refine put_ok (by with_unfolding_all rfl) (by with_unfolding_all rfl) ?_ | with_reducible refine pg_cl ?_ | with_reducible refine pg_cl1 ?_ | with_reducible refine gd_rfl (by with_unfolding_all rfl) ?_ | with_reducible refine oo (by with_unfolding_all rfl) ?_)
    exact ⟨fun _ => ok_imp fin fun d e s z => z, fun z => by simp at z⟩
  · dsimp only [sameB]
    repeat (first | with_reducible refine ss_cons ?_ | with_reducible refine s_put ?_ | with_reducible refine s_asg ?_ | with_reducible refine s_asgo_lst ?_ | with_reducible refine s_ex ?_ | with_reducible refine s_ret ?_ | with_reducible refine s_iff ?_ | with_reducible refine s_for ?_ | with_reducible refine e_c ?_ | with_reducible refine e_glo ?_ | with_reducible refine e_lst ?_ | with_reducible refine e_tup ?_ | with_reducible refine e_newl ?_ | with_reducible refine e_bin ?_ | with_reducible refine e_cmp ?_ | with_reducible refine e_chn ?_ | with_reducible refine e_isn ?_ | with_reducible refine e_and ?_ | with_reducible refine e_or ?_ | with_reducible refine e_not ?_ | with_reducible refine e_ife ?_ | with_reducible refine e_call ?_ | with_reducible refine e_bi ?_ | with_reducible refine e_mt ?_ | with_reducible refine e_sub ?_ | with_reducible refine e_slc ?_ | with_reducible refine e_isi ?_ | with_reducible refine e_isiT ?_ | with_reducible refine e_lc ?_ | with_reducible refine e_op1 ?_ | with_reducible refine e_opn ?_ | with_reducible refine e_fst ?_ | with_reducible refine es_nil ?_ | with_reducible refine es_cons ?_ | with_reducible refine eo_no ?_ | with_reducible refine eo_yes ?_ | with_reducible refine ei_it ?_ | with_reducible refine ei_rng ?_ | with_reducible refine ei_zip ?_ | with_reducible refine ei_enm ?_ | with_reducible refine t_cmp ?_ | with_reducible refine t_isn ?_ | with_reducible refine t_and ?_ | with_reducible refine t_or ?_ | with_reducible refine t_not ?_ | with_reducible refine t_call ?_ | with_reducible refine t_isi ?_ | with_reducible refine t_isiT ?_ | with_reducible refine t_op1 ?_ | with_reducible refine t_opn ?_ | with_reducible refine o_neg ?_ | with_reducible refine o_fld ?_ | with_reducible refine o_isc ?_ | with_reducible refine o_gdic ?_ | with_reducible refine o_ccon ?_ | with_reducible refine f_nil ?_ | with_reducible refine f_cons ?_ | with_reducible refine s_sfld ?_ | with_reducible refine s_tasg ?_ | with_reducible refine s_uasg ?_ | with_reducible refine ss_nil ?_ | with_reducible refine q_nx ?_ | with_reducible refine q_rt ?_ | with_reducible refine ts_nil ?_ | with_reducible refine lcd ?_ | with_reducible refine o_rt ?_ | with_reducible refine e_var (by with_unfolding_all rfl) ?_ | with_reducible refine t_var (by with_unfolding_all rfl) ?_ | with_reducible refine oo_mod (by omega) ?_ | with_reducible refine oo_fdiv (by omega) ?_ | with_reducible refine oo_mul (by omega) ?_ | with_reducible refine as_b ?_ | with_reducible refine as_i ?_ | with_reducible refine dec_t (by with_unfolding_all rfl) ?_ | with_reducible refine dec_f (by with_unfolding_all rfl) ?_ | with_reducible refine dec_t' (by with_unfolding_all rfl) ?_ | with_reducible refine dec_f' (by with_unfolding_all rfl) ?_ | with_reducible refine put_ok (by with_unfolding_all rfl) (by with_unfolding_all rfl) ?_ | with_reducible refine pg_cl ?_ | with_reducible refine pg_cl1 ?_ | with_reducible refine gd_rfl (by with_unfolding_all rfl) ?_ | with_reducible refine oo (by with_unfolding_all rfl) ?_)
    exact ⟨fun _ => ok_imp fin fun d e s z => z, fun z => by simp at z⟩
theorem eqS_self {d : D} (h : d = .non ∨ (∃ b, d = .bl b) ∨ (∃ i, d = .int i) ∨ ∃ z, d = .str z) : eqS d d = some true := by
  rcases h with rfl | ⟨b, rfl⟩ | ⟨i, rfl⟩ | ⟨z, rfl⟩ <;> simp [eqS]
theorem same_flat {p : Pg} {i : Nat} {d : D} {s : So} (h : d = .non ∨ (∃ b, d = .bl b) ∨ (∃ i, d = .int i) ∨ ∃ z, d = .str z) : Ok (denSS p (sameB i) [.sh d, .sh d, .un, .un] s) (outD fun x s' => x = .bl true ∧ s' = s) := by
  rcases h with rfl | ⟨b, rfl⟩ | ⟨i, rfl⟩ | ⟨z, rfl⟩
  · dsimp only [sameB]
    repeat (first | with_reducible refine ss_cons ?_ | with_reducible refine s_put ?_ | with_reducible refine s_asg ?_ | with_reducible refine s_asgo_lst ?_ | with_reducible refine s_ex ?_ | with_reducible refine s_ret ?_ | with_reducible refine s_iff ?_ | with_reducible refine s_for ?_ | with_reducible refine e_c ?_ | with_reducible refine e_glo ?_ | with_reducible refine e_lst ?_ | with_reducible refine e_tup ?_ | with_reducible refine e_newl ?_ | with_reducible refine e_bin ?_ | with_reducible refine e_cmp ?_ | with_reducible refine e_chn ?_ | with_reducible refine e_isn ?_ | with_reducible refine e_and ?_ | with_reducible refine e_or ?_ | with_reducible refine e_not ?_ | with_reducible refine e_ife ?_ | with_reducible refine e_call ?_ | with_reducible refine e_bi ?_ | with_reducible refine e_mt ?_ | with_reducible refine e_sub ?_ | with_reducible refine e_slc ?_ | with_reducible refine e_isi ?_ | with_reducible refine e_isiT ?_ | with_reducible refine e_lc ?_ | with_reducible refine e_op1 ?_ | with_reducible refine e_opn ?_ | with_reducible refine e_fst ?_ | with_reducible refine es_nil ?_ | with_reducible refine es_cons ?_ | with_reducible refine eo_no ?_ | with_reducible refine eo_yes ?_ | with_reducible refine ei_it ?_ | with_reducible refine ei_rng ?_ | with_reducible refine ei_zip ?_ | with_reducible refine ei_enm ?_ | with_reducible refine t_cmp ?_ | with_reducible refine t_isn ?_ | with_reducible refine t_and ?_ | with_reducible refine t_or ?_ | with_reducible refine t_not ?_ | with_reducible refine t_call ?_ | with_reducible refine t_isi ?_ | with_reducible refine t_isiT ?_ | with_reducible refine t_op1 ?_ | with_reducible refine t_opn ?_ | with_reducible refine o_neg ?_ | with_reducible refine o_fld ?_ | with_reducible refine o_isc ?_ | with_reducible refine o_gdic ?_ | with_reducible refine o_ccon ?_ | with_reducible refine f_nil ?_ | with_reducible refine f_cons ?_ | with_reducible refine s_sfld ?_ | with_reducible refine s_tasg ?_ | with_reducible refine s_uasg ?_ | with_reducible refine ss_nil ?_ | with_reducible refine q_nx ?_ | with_reducible refine q_rt ?_ | with_reducible refine ts_nil ?_ | with_reducible refine lcd ?_ | with_reducible refine o_rt ?_ | with_reducible refine e_var (by with_unfolding_all rfl) ?_ | with_reducible refine t_var (by with_unfolding_all rfl) ?_ | with_reducible refine oo_mod (by omega) ?_ | with_reducible refine oo_fdiv (by omega) ?_ | with_reducible refine oo_mul (by omega) ?_ | with_reducible refine as_b ?_ | with_reducible refine as_i ?_ | with_reducible refine dec_t (by with_unfolding_all rfl) ?_ | with_reducible refine dec_f (by with_unfolding_all rfl) ?_ | with_reducible refine dec_t' (by with_unfolding_all rfl) ?_ | with_reducible refine dec_f' (by with_unfolding_all rfl) ?_ | with_reducible refine put_ok (by with_unfolding_all rfl) (by with_unfolding_all rfl) ?_ | with_reducible refine pg_cl ?_ | with_reducible refine pg_cl1 ?_ | with_reducible refine gd_rfl (by with_unfolding_all rfl) ?_ | with_reducible refine oo (by with_unfolding_all rfl) ?_)
    exact ⟨rfl, rfl⟩
  · dsimp only [sameB]
    repeat (first | with_reducible refine ss_cons ?_ | with_reducible refine s_put ?_ | with_reducible refine s_asg ?_ | with_reducible refine s_asgo_lst ?_ | with_reducible refine s_ex ?_ | with_reducible refine s_ret ?_ | with_reducible refine s_iff ?_ | with_reducible refine s_for ?_ | with_reducible refine e_c ?_ | with_reducible refine e_glo ?_ | with_reducible refine e_lst ?_ | with_reducible refine e_tup ?_ | with_reducible refine e_newl ?_ | with_reducible refine e_bin ?_ | with_reducible refine e_cmp ?_ | with_reducible refine e_chn ?_ | with_reducible refine e_isn ?_ | with_reducible refine e_and ?_ | with_reducible refine e_or ?_ | with_reducible refine e_not ?_ | with_reducible refine e_ife ?_ | with_reducible refine e_call ?_ | with_reducible refine e_bi ?_ | with_reducible refine e_mt ?_ | with_reducible refine e_sub ?_ | with_reducible refine e_slc ?_ | with_reducible refine e_isi ?_ | with_reducible refine e_isiT ?_ | with_reducible refine e_lc ?_ | with_reducible refine e_op1 ?_ | with_reducible refine e_opn ?_ | with_reducible refine e_fst ?_ | with_reducible refine es_nil ?_ | with_reducible refine es_cons ?_ | with_reducible refine eo_no ?_ | with_reducible refine eo_yes ?_ | with_reducible refine ei_it ?_ | with_reducible refine ei_rng ?_ | with_reducible refine ei_zip ?_ | with_reducible refine ei_enm ?_ | with_reducible refine t_cmp ?_ | with_reducible refine t_isn ?_ | with_reducible refine t_and ?_ | with_reducible refine t_or ?_ | with_reducible refine t_not ?_ | with_reducible refine t_call ?_ | with_reducible refine t_isi ?_ | with_reducible refine t_isiT ?_ | with_reducible refine t_op1 ?_ | with_reducible refine t_opn ?_ | with_reducible refine o_neg ?_ | with_reducible refine o_fld ?_ | with_reducible refine o_isc ?_ | with_reducible refine o_gdic ?_ | with_reducible refine o_ccon ?_ | with_reducible refine f_nil ?_ | with_reducible refine f_cons ?_ | with_reducible refine s_sfld ?_ | with_reducible refine s_tasg ?_ | with_reducible refine s_uasg ?_ | with_reducible refine ss_nil ?_ | with_reducible refine q_nx ?_ | with_reducible refine q_rt ?_ | with_reducible refine ts_nil ?_ | with_reducible refine lcd ?_ | with_reducible refine o_rt ?_ | with_reducible refine e_var (by with_unfolding_all rfl) ?_ | with_reducible refine t_var (by with_unfolding_all rfl) ?_ | with_reducible refine oo_mod (by omega) ?_ | with_reducible refine oo_fdiv (by omega) ?_ | with_reducible refine oo_mul (by omega) ?_ | with_reducible refine as_b ?_ | with_reducible refine as_i ?_ | with_reducible refine dec_t (by with_unfolding_all rfl) ?_ | with_reducible refine dec_f (by with_unfolding_all rfl) ?_ | with_reducible refine dec_t' (by with_unfolding_all rfl) ?_ | with_reducible refine dec_f' (by with_unfolding_all rfl) ?_ | with_reducible refine put_ok (by with_unfolding_all rfl) (by with_unfolding_all rfl) ?_ | with_reducible refine pg_cl ?_ | with_reducible refine pg_cl1 ?_ | with_reducible refine gd_rfl (by with_unfolding_all rfl) ?_ | with_reducible refine oo (by with_unfolding_all rfl) ?_)
    exact ⟨by simp, rfl⟩
  · dsimp only [sameB]
    repeat (first | with_reducible refine ss_cons ?_ | with_reducible refine s_put ?_ | with_reducible refine s_asg ?_ | with_reducible refine s_asgo_lst ?_ | with_reducible refine s_ex ?_ | with_reducible refine s_ret ?_ | with_reducible refine s_iff ?_ | with_reducible refine s_for ?_ | with_reducible refine e_c ?_ | with_reducible refine e_glo ?_ | with_reducible refine e_lst ?_ | with_reducible refine e_tup ?_ | with_reducible refine e_newl ?_ | with_reducible refine e_bin ?_ | with_reducible refine e_cmp ?_ | with_reducible refine e_chn ?_ | with_reducible refine e_isn ?_ | with_reducible refine e_and ?_ | with_reducible refine e_or ?_ | with_reducible refine e_not ?_ | with_reducible refine e_ife ?_ | with_reducible refine e_call ?_ | with_reducible refine e_bi ?_ | with_reducible refine e_mt ?_ | with_reducible refine e_sub ?_ | with_reducible refine e_slc ?_ | with_reducible refine e_isi ?_ | with_reducible refine e_isiT ?_ | with_reducible refine e_lc ?_ | with_reducible refine e_op1 ?_ | with_reducible refine e_opn ?_ | with_reducible refine e_fst ?_ | with_reducible refine es_nil ?_ | with_reducible refine es_cons ?_ | with_reducible refine eo_no ?_ | with_reducible refine eo_yes ?_ | with_reducible refine ei_it ?_ | with_reducible refine ei_rng ?_ | with_reducible refine ei_zip ?_ | with_reducible refine ei_enm ?_ | with_reducible refine t_cmp ?_ | with_reducible refine t_isn ?_ | with_reducible refine t_and ?_ | with_reducible refine t_or ?_ | with_reducible refine t_not ?_ | with_reducible refine t_call ?_ | with_reducible refine t_isi ?_ | with_reducible refine t_isiT ?_ | with_reducible refine t_op1 ?_ | with_reducible refine t_opn ?_ | with_reducible refine o_neg ?_ | with_reducible refine o_fld ?_ | with_reducible refine o_isc ?_ | with_reducible refine o_gdic ?_ | with_reducible refine o_ccon ?_ | with_reducible refine f_nil ?_ | with_reducible refine f_cons ?_ | with_reducible refine s_sfld ?_ | with_reducible refine s_tasg ?_ | with_reducible refine s_uasg ?_ | with_reducible refine ss_nil ?_ | with_reducible refine q_nx ?_ | with_reducible refine q_rt ?_ | with_reducible refine ts_nil ?_ | with_reducible refine lcd ?_ | with_reducible refine o_rt ?_ | with_reducible refine e_var (by with_unfolding_all rfl) ?_ | with_reducible refine t_var (by with_unfolding_all rfl) ?_ | with_reducible refine oo_mod (by omega) ?_ | with_reducible refine oo_fdiv (by omega) ?_ | with_reducible refine oo_mul (by omega) ?_ | with_reducible refine as_b ?_ | with_reducible refine as_i ?_ | with_reducible refine dec_t (by with_unfolding_all rfl) ?_ | with_reducible refine dec_f (by with_unfolding_all rfl) ?_ | with_reducible refine dec_t' (by with_unfolding_all rfl) ?_ | with_reducible refine dec_f' (by with_unfolding_all rfl) ?_ | with_reducible refine put_ok (by with_unfolding_all rfl) (by with_unfolding_all rfl) ?_ | with_reducible refine pg_cl ?_ | with_reducible refine pg_cl1 ?_ | with_reducible refine gd_rfl (by with_unfolding_all rfl) ?_ | with_reducible refine oo (by with_unfolding_all rfl) ?_)
    exact ⟨by simp, rfl⟩
  · dsimp only [sameB]
    repeat (first | with_reducible refine ss_cons ?_ | with_reducible refine s_put ?_ | with_reducible refine s_asg ?_ | with_reducible refine s_asgo_lst ?_ | with_reducible refine s_ex ?_ | with_reducible refine s_ret ?_ | with_reducible refine s_iff ?_ | with_reducible refine s_for ?_ | with_reducible refine e_c ?_ | with_reducible refine e_glo ?_ | with_reducible refine e_lst ?_ | with_reducible refine e_tup ?_ | with_reducible refine e_newl ?_ | with_reducible refine e_bin ?_ | with_reducible refine e_cmp ?_ | with_reducible refine e_chn ?_ | with_reducible refine e_isn ?_ | with_reducible refine e_and ?_ | with_reducible refine e_or ?_ | with_reducible refine e_not ?_ | with_reducible refine e_ife ?_ | with_reducible refine e_call ?_ | with_reducible refine e_bi ?_ | with_reducible refine e_mt ?_ | with_reducible refine e_sub ?_ | with_reducible refine e_slc ?_ | with_reducible refine e_isi ?_ | with_reducible refine e_isiT ?_ | with_reducible refine e_lc ?_ | with_reducible refine e_op1 ?_ | with_reducible refine e_opn ?_ | with_reducible refine e_fst ?_ | with_reducible refine es_nil ?_ | with_reducible refine es_cons ?_ | with_reducible refine eo_no ?_ | with_reducible refine eo_yes ?_ | with_reducible refine ei_it ?_ | with_reducible refine ei_rng ?_ | with_reducible refine ei_zip ?_ | with_reducible refine ei_enm ?_ | with_reducible refine t_cmp ?_ | with_reducible refine t_isn ?_ | with_reducible refine t_and ?_ | with_reducible refine t_or ?_ | with_reducible refine t_not ?_ | with_reducible refine t_call ?_ | with_reducible refine t_isi ?_ | with_reducible refine t_isiT ?_ | with_reducible refine t_op1 ?_ | with_reducible refine t_opn ?_ | with_reducible refine o_neg ?_ | with_reducible refine o_fld ?_ | with_reducible refine o_isc ?_ | with_reducible refine o_gdic ?_ | with_reducible refine o_ccon ?_ | with_reducible refine f_nil ?_ | with_reducible refine f_cons ?_ | with_reducible refine s_sfld ?_ | with_reducible refine s_tasg ?_ | with_reducible refine s_uasg ?_ | with_reducible refine ss_nil ?_ | with_reducible refine q_nx ?_ | with_reducible refine q_rt ?_ | with_reducible refine ts_nil ?_ | with_reducible refine lcd ?_ | with_reducible refine o_rt ?_ | with_reducible refine e_var (by with_unfolding_all rfl) ?_ | with_reducible refine t_var (by with_unfolding_all rfl) ?_ | with_reducible refine oo_mod (by omega) ?_ | with_reducible refine oo_fdiv (by omega) ?_ | with_reducible refine oo_mul (by omega) ?_ | with_reducible refine as_b ?_ | with_reducible refine as_i ?_ | with_reducible refine dec_t (by with_unfolding_all rfl) ?_ | with_reducible refine dec_f (by with_unfolding_all rfl) ?_ | with_reducible refine dec_t' (by with_unfolding_all rfl) ?_ | with_reducible refine dec_f' (by with_unfolding_all rfl) ?_ | with_reducible refine put_ok (by with_unfolding_all rfl) (by with_unfolding_all rfl) ?_ | with_reducible refine pg_cl ?_ | with_reducible refine pg_cl1 ?_ | with_reducible refine gd_rfl (by with_unfolding_all rfl) ?_ | with_reducible refine oo (by with_unfolding_all rfl) ?_)
    exact ⟨by simp, rfl⟩
/-- a value is the same as itself -/
theorem same_refl {fs : List Fn} {g : Gn} {i : Nat} {f : Fn} (hf : fs[i]? = some f) (hb : f.body = sameB i) (hN : f.N.length = 4) (hp : f.ps.length = 2) : ∀ (n : Nat) (d : D), PlainN n d → ∀ (k : Nat) (s : So), COk (clN fs g (k + n + 2) i [d, d] s) (fun x s' => x = .bl true ∧ s' = s) := by
  intro n
  induction n with
  | zero =>
    intro d h k s
    cases d <;> first | exact h.elim | skip
    · exact cok_cl hf (cok_fnB hb hN hp (same_flat (.inl rfl)))
    · exact cok_cl hf (cok_fnB hb hN hp (same_flat (.inr (.inl ⟨_, rfl⟩))))
    · exact cok_cl hf (cok_fnB hb hN hp (same_flat (.inr (.inr (.inl ⟨_, rfl⟩)))))
    · exact cok_cl hf (cok_fnB hb hN hp (same_flat (.inr (.inr (.inr ⟨_, rfl⟩)))))
  | succ n ih =>
    intro d h k s
    cases d <;> first | exact h.elim | skip
    · exact cok_cl hf (cok_fnB hb hN hp (same_flat (.inl rfl)))
    · exact cok_cl hf (cok_fnB hb hN hp (same_flat (.inr (.inl ⟨_, rfl⟩))))
    · exact cok_cl hf (cok_fnB hb hN hp (same_flat (.inr (.inr (.inl ⟨_, rfl⟩)))))
    · exact cok_cl hf (cok_fnB hb hN hp (same_flat (.inr (.inr (.inr ⟨_, rfl⟩)))))
    · exact cok_cl (k := k + (n + 1)) hf (cok_fnB hb hN hp (same_seq (.inl rfl) fun x hx => ih x (h x hx) k s))
    · exact cok_cl (k := k + (n + 1)) hf (cok_fnB hb hN hp (same_seq (.inr rfl) fun x hx => ih x (h x hx) k s))
/-! ### words -/
def Plain : D → Prop
  | .non => True | .bl _ => True | .int _ => True | .str _ => True | .lst _ => True | .tup _ => True
  | _ => False
def runOf (t : List Nat) (n : Nat) : D → Bool
  | .str z => decide (1 ≤ z.length) && decide (z.length ≤ n) && z.all (fun c => t.contains c)
  | _ => false
theorem bls_run (t z : List Nat) : blsD ((z.map fun c => D.str [c]).map fun x => match x with | .str [c] => D.bl (t.contains c) | _ => .bl false) = some (z.map fun c => t.contains c) := by
  induction z with
  | nil => rfl
  | cons c z ih => simp only [List.map_cons, blsD, ih, Option.map_some]
def runE (X : EX) (n : Nat) : EX := .and (.isi (.var 0) "str") (.and (.chn .le .le (.c (.int 1)) (.bi .len (.cons (.var 0) .nil)) (.c (.int n))) (.bi .all (.cons (.lc [1] (.it (.var 0)) (.one 1) .nil (.cmp .inn (.var 1) X)) .nil)))
theorem run_ok {p : Pg} {X : EX} {t : List Nat} {n : Nat} {d : D} {s : So} {Q : D → En → So → Prop} (hX : ∀ e s, Ok (denE p X e s) (fun d e' s' => d = .str t ∧ e' = e ∧ s' = s)) (h : Plain d) (q : Q (.bl (runOf t n d)) [.sh d, .un] s) :
    Ok (denE p (runE X n) [.sh d, .un] s) Q := by
  unfold runE
  cases d <;> try (exact h.elim)
  case str z =>
    repeat (first | with_reducible refine ss_cons ?_ | with_reducible refine s_put ?_ | with_reducible refine s_asg ?_ | with_reducible refine s_asgo_lst ?_ | with_reducible refine s_ex ?_ | with_reducible refine s_ret ?_ | with_reducible refine s_iff ?_ | with_reducible refine s_for ?_ | with_reducible refine e_c ?_ | with_reducible refine e_glo ?_ | with_reducible refine e_lst ?_ | with_reducible refine e_tup ?_ | with_reducible refine e_newl ?_ | with_reducible refine e_bin ?_ | with_reducible refine e_cmp ?_ | with_reducible refine e_chn ?_ | with_reducible refine e_isn ?_ | with_reducible refine e_and ?_ | with_reducible refine e_or ?_ | with_reducible refine e_not ?_ | with_reducible refine e_ife ?_ | with_reducible refine e_call ?_ | with_reducible refine e_bi ?_ | with_reducible refine e_mt ?_ | with_reducible refine e_sub ?_ | with_reducible refine e_slc ?_ | with_reducible refine e_isi ?_ | with_reducible refine e_isiT ?_ | with_reducible refine e_lc ?_ | with_reducible refine e_op1 ?_ | with_reducible refine e_opn ?_ | with_reducible refine e_fst ?_ | with_reducible refine es_nil ?_ | with_reducible refine es_cons ?_ | with_reducible refine eo_no ?_ | with_reducible refine eo_yes ?_ | with_reducible refine ei_it ?_ | with_reducible refine ei_rng ?_ | with_reducible refine ei_zip ?_ | with_reducible refine ei_enm ?_ | with_reducible refine t_cmp ?_ | with_reducible refine t_isn ?_ | with_reducible refine t_and ?_ | with_reducible refine t_or ?_ | with_reducible refine t_not ?_ | with_reducible refine t_call ?_ | with_reducible refine t_isi ?_ | with_reducible refine t_isiT ?_ | with_reducible refine t_op1 ?_ | with_reducible refine t_opn ?_ | with_reducible refine o_neg ?_ | with_reducible refine o_fld ?_ | with_reducible refine o_isc ?_ | with_reducible refine o_gdic ?_ | with_reducible refine o_ccon ?_ | with_reducible refine f_nil ?_ | with_reducible refine f_cons ?_ | with_reducible refine s_sfld ?_ | with_reducible refine s_tasg ?_ | with_reducible refine s_uasg ?_ | with_reducible refine ss_nil ?_ | with_reducible refine q_nx ?_ | with_reducible refine q_rt ?_ | with_reducible refine ts_nil ?_ | with_reducible refine lcd ?_ | with_reducible refine o_rt ?_ | with_reducible refine e_var (by with_unfolding_all rfl) ?_ | with_reducible refine t_var (by with_unfolding_all rfl) ?_ | with_reducible refine oo_mod (by omega) ?_ | with_reducible refine oo_fdiv (by omega) ?_ | with_reducible refine oo_mul (by omega) ?_ | with_reducible refine as_b ?_ | with_reducible refine as_i ?_ | with_reducible refine dec_t (by with_unfolding_all rfl) ?_ | with_reducible refine dec_f (by with_unfolding_all rfl) ?_ | with_reducible refine dec_t' (by with_unfolding_all rfl) ?_ | with_reducible refine dec_f' (by with_unfolding_all rfl) ?_ | with_reducible refine put_ok (by with_unfolding_all rfl) (by with_unfolding_all rfl) ?_ | with_reducible refine pg_cl ?_ | with_reducible refine pg_cl1 ?_ | with_reducible refine gd_rfl (by with_unfolding_all rfl) ?_ | with_reducible refine oo (by with_unfolding_all rfl) ?_)
    split
    · rename_i h1
      have h1 : 1 ≤ z.length := by have := of_decide_eq_true h1; omega
      repeat (first | with_reducible refine ss_cons ?_ | with_reducible refine s_put ?_ | with_reducible refine s_asg ?_ | with_reducible refine s_asgo_lst ?_ | with_reducible refine s_ex ?_ | with_reducible refine s_ret ?_ | with_reducible refine s_iff ?_ | with_reducible refine s_for ?_ | with_reducible refine e_c ?_ | with_reducible refine e_glo ?_ | with_reducible refine e_lst ?_ | with_reducible refine e_tup ?_ | with_reducible refine e_newl ?_ | with_reducible refine e_bin ?_ | with_reducible refine e_cmp ?_ | with_reducible refine e_chn ?_ | with_reducible refine e_isn ?_ | with_reducible refine e_and ?_ | with_reducible refine e_or ?_ | with_reducible refine e_not ?_ | with_reducible refine e_ife ?_ | with_reducible refine e_call ?_ | with_reducible refine e_bi ?_ | with_reducible refine e_mt ?_ | with_reducible refine e_sub ?_ | with_reducible refine e_slc ?_ | with_reducible refine e_isi ?_ | with_reducible refine e_isiT ?_ | with_reducible refine e_lc ?_ | with_reducible refine e_op1 ?_ | with_reducible refine e_opn ?_ | with_reducible refine e_fst ?_ | with_reducible refine es_nil ?_ | with_reducible refine es_cons ?_ | with_reducible refine eo_no ?_ | with_reducible refine eo_yes ?_ | with_reducible refine ei_it ?_ | with_reducible refine ei_rng ?_ | with_reducible refine ei_zip ?_ | with_reducible refine ei_enm ?_ | with_reducible refine t_cmp ?_ | with_reducible refine t_isn ?_ | with_reducible refine t_and ?_ | with_reducible refine t_or ?_ | with_reducible refine t_not ?_ | with_reducible refine t_call ?_ | with_reducible refine t_isi ?_ | with_reducible refine t_isiT ?_ | with_reducible refine t_op1 ?_ | with_reducible refine t_opn ?_ | with_reducible refine o_neg ?_ | with_reducible refine o_fld ?_ | with_reducible refine o_isc ?_ | with_reducible refine o_gdic ?_ | with_reducible refine o_ccon ?_ | with_reducible refine f_nil ?_ | with_reducible refine f_cons ?_ | with_reducible refine s_sfld ?_ | with_reducible refine s_tasg ?_ | with_reducible refine s_uasg ?_ | with_reducible refine ss_nil ?_ | with_reducible refine q_nx ?_ | with_reducible refine q_rt ?_ | with_reducible refine ts_nil ?_ | with_reducible refine lcd ?_ | with_reducible refine o_rt ?_ | with_reducible refine e_var (by with_unfolding_all rfl) ?_ | with_reducible refine t_var (by with_unfolding_all rfl) ?_ | with_reducible refine oo_mod (by omega) ?_ | with_reducible refine oo_fdiv (by omega) ?_ | with_reducible refine oo_mul (by omega) ?_ | with_reducible refine as_b ?_ | with_reducible refine as_i ?_ | with_reducible refine dec_t (by with_unfolding_all rfl) ?_ | with_reducible refine dec_f (by with_unfolding_all rfl) ?_ | with_reducible refine dec_t' (by with_unfolding_all rfl) ?_ | with_reducible refine dec_f' (by with_unfolding_all rfl) ?_ | with_reducible refine put_ok (by with_unfolding_all rfl) (by with_unfolding_all rfl) ?_ | with_reducible refine pg_cl ?_ | with_reducible refine pg_cl1 ?_ | with_reducible refine gd_rfl (by with_unfolding_all rfl) ?_ | with_reducible refine oo (by with_unfolding_all rfl) ?_)
      refine ⟨fun h2 => ?_, fun h2 => ?_⟩
      · have h2 : z.length ≤ n := by have := of_decide_eq_true h2; omega
        repeat (first | with_reducible refine ss_cons ?_ | with_reducible refine s_put ?_ | with_reducible refine s_asg ?_ | with_reducible refine s_asgo_lst ?_ | with_reducible refine s_ex ?_ | with_reducible refine s_ret ?_ | with_reducible refine s_iff ?_ | with_reducible refine s_for ?_ | with_reducible refine e_c ?_ | with_reducible refine e_glo ?_ | with_reducible refine e_lst ?_ | with_reducible refine e_tup ?_ | with_reducible refine e_newl ?_ | with_reducible refine e_bin ?_ | with_reducible refine e_cmp ?_ | with_reducible refine e_chn ?_ | with_reducible refine e_isn ?_ | with_reducible refine e_and ?_ | with_reducible refine e_or ?_ | with_reducible refine e_not ?_ | with_reducible refine e_ife ?_ | with_reducible refine e_call ?_ | with_reducible refine e_bi ?_ | with_reducible refine e_mt ?_ | with_reducible refine e_sub ?_ | with_reducible refine e_slc ?_ | with_reducible refine e_isi ?_ | with_reducible refine e_isiT ?_ | with_reducible refine e_lc ?_ | with_reducible refine e_op1 ?_ | with_reducible refine e_opn ?_ | with_reducible refine e_fst ?_ | with_reducible refine es_nil ?_ | with_reducible refine es_cons ?_ | with_reducible refine eo_no ?_ | with_reducible refine eo_yes ?_ | with_reducible refine ei_it ?_ | with_reducible refine ei_rng ?_ | with_reducible refine ei_zip ?_ | with_reducible refine ei_enm ?_ | with_reducible refine t_cmp ?_ | with_reducible refine t_isn ?_ | with_reducible refine t_and ?_ | with_reducible refine t_or ?_ | with_reducible refine t_not ?_ | with_reducible refine t_call ?_ | with_reducible refine t_isi ?_ | with_reducible refine t_isiT ?_ | with_reducible refine t_op1 ?_ | with_reducible refine t_opn ?_ | with_reducible refine o_neg ?_ | with_reducible refine o_fld ?_ | with_reducible refine o_isc ?_ | with_reducible refine o_gdic ?_ | with_reducible refine o_ccon ?_ | with_reducible refine f_nil ?_ | with_reducible refine f_cons ?_ | with_reducible refine s_sfld ?_ | with_reducible refine s_tasg ?_ | with_reducible refine s_uasg ?_ | with_reducible refine ss_nil ?_ | with_reducible refine q_nx ?_ | with_reducible refine q_rt ?_ | with_reducible refine ts_nil ?_ | with_reducible refine lcd ?_ | with_reducible refine o_rt ?_ | with_reducible refine e_var (by with_unfolding_all rfl) ?_ | with_reducible refine t_var (by with_unfolding_all rfl) ?_ | with_reducible refine oo_mod (by omega) ?_ | with_reducible refine oo_fdiv (by omega) ?_ | with_reducible refine oo_mul (by omega) ?_ | with_reducible refine as_b ?_ | with_reducible refine as_i ?_ | with_reducible refine dec_t (by with_unfolding_all rfl) ?_ | with_reducible refine dec_f (by with_unfolding_all rfl) ?_ | with_reducible refine dec_t' (by with_unfolding_all rfl) ?_ | with_reducible refine dec_f' (by with_unfolding_all rfl) ?_ | with_reducible refine put_ok (by with_unfolding_all rfl) (by with_unfolding_all rfl) ?_ | with_reducible refine pg_cl ?_ | with_reducible refine pg_cl1 ?_ | with_reducible refine gd_rfl (by with_unfolding_all rfl) ?_ | with_reducible refine oo (by with_unfolding_all rfl) ?_)
        refine lc_map (fun x => match x with | .str [c] => D.bl (t.contains c) | _ => .bl false) [.sh (.str z), .un] rfl (fun x hx => ⟨_, rfl, rfl, ?_, ?_⟩) ?_
        · repeat (first | with_reducible refine ss_cons ?_ | with_reducible refine s_put ?_ | with_reducible refine s_asg ?_ | with_reducible refine s_asgo_lst ?_ | with_reducible refine s_ex ?_ | with_reducible refine s_ret ?_ | with_reducible refine s_iff ?_ | with_reducible refine s_for ?_ | with_reducible refine e_c ?_ | with_reducible refine e_glo ?_ | with_reducible refine e_lst ?_ | with_reducible refine e_tup ?_ | with_reducible refine e_newl ?_ | with_reducible refine e_bin ?_ | with_reducible refine e_cmp ?_ | with_reducible refine e_chn ?_ | with_reducible refine e_isn ?_ | with_reducible refine e_and ?_ | with_reducible refine e_or ?_ | with_reducible refine e_not ?_ | with_reducible refine e_ife ?_ | with_reducible refine e_call ?_ | with_reducible refine e_bi ?_ | with_reducible refine e_mt ?_ | with_reducible refine e_sub ?_ | with_reducible refine e_slc ?_ | with_reducible refine e_isi ?_ | with_reducible refine e_isiT ?_ | with_reducible refine e_lc ?_ | with_reducible refine e_op1 ?_ | with_reducible refine e_opn ?_ | with_reducible refine e_fst ?_ | with_reducible refine es_nil ?_ | with_reducible refine es_cons ?_ | with_reducible refine eo_no ?_ | with_reducible refine eo_yes ?_ | with_reducible refine ei_it ?_ | with_reducible refine ei_rng ?_ | with_reducible refine ei_zip ?_ | with_reducible refine ei_enm ?_ | with_reducible refine t_cmp ?_ | with_reducible refine t_isn ?_ | with_reducible refine t_and ?_ | with_reducible refine t_or ?_ | with_reducible refine t_not ?_ | with_reducible refine t_call ?_ | with_reducible refine t_isi ?_ | with_reducible refine t_isiT ?_ | with_reducible refine t_op1 ?_ | with_reducible refine t_opn ?_ | with_reducible refine o_neg ?_ | with_reducible refine o_fld ?_ | with_reducible refine o_isc ?_ | with_reducible refine o_gdic ?_ | with_reducible refine o_ccon ?_ | with_reducible refine f_nil ?_ | with_reducible refine f_cons ?_ | with_reducible refine s_sfld ?_ | with_reducible refine s_tasg ?_ | with_reducible refine s_uasg ?_ | with_reducible refine ss_nil ?_ | with_reducible refine q_nx ?_ | with_reducible refine q_rt ?_ | with_reducible refine ts_nil ?_ | with_reducible refine lcd ?_ | with_reducible refine o_rt ?_ | with_reducible refine e_var (by with_unfolding_all rfl) ?_ | with_reducible refine t_var (by with_unfolding_all rfl) ?_ | with_reducible refine oo_mod (by omega) ?_ | with_reducible refine oo_fdiv (by omega) ?_ | with_reducible refine oo_mul (by omega) ?_ | with_reducible refine as_b ?_ | with_reducible refine as_i ?_ | with_reducible refine dec_t (by with_unfolding_all rfl) ?_ | with_reducible refine dec_f (by with_unfolding_all rfl) ?_ | with_reducible refine dec_t' (by with_unfolding_all rfl) ?_ | with_reducible refine dec_f' (by with_unfolding_all rfl) ?_ | with_reducible refine put_ok (by with_unfolding_all rfl) (by with_unfolding_all rfl) ?_ | with_reducible refine pg_cl ?_ | with_reducible refine pg_cl1 ?_ | with_reducible refine gd_rfl (by with_unfolding_all rfl) ?_ | with_reducible refine oo (by with_unfolding_all rfl) ?_)
          exact ⟨rfl, rfl, rfl⟩
        · obtain ⟨c, hc, rfl⟩ := List.mem_map.1 hx
          repeat (first | with_reducible refine ss_cons ?_ | with_reducible refine s_put ?_ | with_reducible refine s_asg ?_ | with_reducible refine s_asgo_lst ?_ | with_reducible refine s_ex ?_ | with_reducible refine s_ret ?_ | with_reducible refine s_iff ?_ | with_reducible refine s_for ?_ | with_reducible refine e_c ?_ | with_reducible refine e_glo ?_ | with_reducible refine e_lst ?_ | with_reducible refine e_tup ?_ | with_reducible refine e_newl ?_ | with_reducible refine e_bin ?_ | with_reducible refine e_cmp ?_ | with_reducible refine e_chn ?_ | with_reducible refine e_isn ?_ | with_reducible refine e_and ?_ | with_reducible refine e_or ?_ | with_reducible refine e_not ?_ | with_reducible refine e_ife ?_ | with_reducible refine e_call ?_ | with_reducible refine e_bi ?_ | with_reducible refine e_mt ?_ | with_reducible refine e_sub ?_ | with_reducible refine e_slc ?_ | with_reducible refine e_isi ?_ | with_reducible refine e_isiT ?_ | with_reducible refine e_lc ?_ | with_reducible refine e_op1 ?_ | with_reducible refine e_opn ?_ | with_reducible refine e_fst ?_ | with_reducible refine es_nil ?_ | with_reducible refine es_cons ?_ | with_reducible refine eo_no ?_ | with_reducible refine eo_yes ?_ | with_reducible refine ei_it ?_ | with_reducible refine ei_rng ?_ | with_reducible refine ei_zip ?_ | with_reducible refine ei_enm ?_ | with_reducible refine t_cmp ?_ | with_reducible refine t_isn ?_ | with_reducible refine t_and ?_ | with_reducible refine t_or ?_ | with_reducible refine t_not ?_ | with_reducible refine t_call ?_ | with_reducible refine t_isi ?_ | with_reducible refine t_isiT ?_ | with_reducible refine t_op1 ?_ | with_reducible refine t_opn ?_ | with_reducible refine o_neg ?_ | with_reducible refine o_fld ?_ | with_reducible refine o_isc ?_ | with_reducible refine o_gdic ?_ | with_reducible refine o_ccon ?_ | with_reducible refine f_nil ?_ | with_reducible refine f_cons ?_ | with_reducible refine s_sfld ?_ | with_reducible refine s_tasg ?_ | with_reducible refine s_uasg ?_ | with_reducible refine ss_nil ?_ | with_reducible refine q_nx ?_ | with_reducible refine q_rt ?_ | with_reducible refine ts_nil ?_ | with_reducible refine lcd ?_ | with_reducible refine o_rt ?_ | with_reducible refine e_var (by with_unfolding_all rfl) ?_ | with_reducible refine t_var (by with_unfolding_all rfl) ?_ | with_reducible refine oo_mod (by omega) ?_ | with_reducible refine oo_fdiv (by omega) ?_ | with_reducible refine oo_mul (by omega) ?_ | with_reducible refine as_b ?_ | with_reducible refine as_i ?_ | with_reducible refine dec_t (by with_unfolding_all rfl) ?_ | with_reducible refine dec_f (by with_unfolding_all rfl) ?_ | with_reducible refine dec_t' (by with_unfolding_all rfl) ?_ | with_reducible refine dec_f' (by with_unfolding_all rfl) ?_ | with_reducible refine put_ok (by with_unfolding_all rfl) (by with_unfolding_all rfl) ?_ | with_reducible refine pg_cl ?_ | with_reducible refine pg_cl1 ?_ | with_reducible refine gd_rfl (by with_unfolding_all rfl) ?_ | with_reducible refine oo (by with_unfolding_all rfl) ?_)
          refine ok_imp (hX _ _) fun d e s z => ?_
          obtain ⟨rfl, rfl, rfl⟩ := z
          repeat (first | with_reducible refine ss_cons ?_ | with_reducible refine s_put ?_ | with_reducible refine s_asg ?_ | with_reducible refine s_asgo_lst ?_ | with_reducible refine s_ex ?_ | with_reducible refine s_ret ?_ | with_reducible refine s_iff ?_ | with_reducible refine s_for ?_ | with_reducible refine e_c ?_ | with_reducible refine e_glo ?_ | with_reducible refine e_lst ?_ | with_reducible refine e_tup ?_ | with_reducible refine e_newl ?_ | with_reducible refine e_bin ?_ | with_reducible refine e_cmp ?_ | with_reducible refine e_chn ?_ | with_reducible refine e_isn ?_ | with_reducible refine e_and ?_ | with_reducible refine e_or ?_ | with_reducible refine e_not ?_ | with_reducible refine e_ife ?_ | with_reducible refine e_call ?_ | with_reducible refine e_bi ?_ | with_reducible refine e_mt ?_ | with_reducible refine e_sub ?_ | with_reducible refine e_slc ?_ | with_reducible refine e_isi ?_ | with_reducible refine e_isiT ?_ | with_reducible refine e_lc ?_ | with_reducible refine e_op1 ?_ | with_reducible refine e_opn ?_ | with_reducible refine e_fst ?_ | with_reducible refine es_nil ?_ | with_reducible refine es_cons ?_ | with_reducible refine eo_no ?_ | with_reducible refine eo_yes ?_ | with_reducible refine ei_it ?_ | with_reducible refine ei_rng ?_ | with_reducible refine ei_zip ?_ | with_reducible refine ei_enm ?_ | with_reducible refine t_cmp ?_ | with_reducible refine t_isn ?_ | with_reducible refine t_and ?_ | with_reducible refine t_or ?_ | with_reducible refine t_not ?_ | with_reducible refine t_call ?_ | with_reducible refine t_isi ?_ | with_reducible refine t_isiT ?_ | with_reducible refine t_op1 ?_ | with_reducible refine t_opn ?_ | with_reducible refine o_neg ?_ | with_reducible refine o_fld ?_ | with_reducible refine o_isc ?_ | with_reducible refine o_gdic ?_ | with_reducible refine o_ccon ?_ | with_reducible refine f_nil ?_ | with_reducible refine f_cons ?_ | with_reducible refine s_sfld ?_ | with_reducible refine s_tasg ?_ | with_reducible refine s_uasg ?_ | with_reducible refine ss_nil ?_ | with_reducible refine q_nx ?_ | with_reducible refine q_rt ?_ | with_reducible refine ts_nil ?_ | with_reducible refine lcd ?_ | with_reducible refine o_rt ?_ | with_reducible refine e_var (by with_unfolding_all rfl) ?_ | with_reducible refine t_var (by with_unfolding_all rfl) ?_ | with_reducible refine oo_mod (by omega) ?_ | with_reducible refine oo_fdiv (by omega) ?_ | with_reducible refine oo_mul (by omega) ?_ | with_reducible refine as_b ?_ | with_reducible refine as_i ?_ | with_reducible refine dec_t (by with_unfolding_all rfl) ?_ | with_reducible refine dec_f (by with_unfolding_all rfl) ?_ | with_reducible refine dec_t' (by with_unfolding_all rfl) ?_ | with_reducible refine dec_f' (by with_unfolding_all rfl) ?_ | with_reducible refine put_ok (by with_unfolding_all rfl) (by with_unfolding_all rfl) ?_ | with_reducible refine pg_cl ?_ | with_reducible refine pg_cl1 ?_ | with_reducible refine gd_rfl (by with_unfolding_all rfl) ?_ | with_reducible refine oo (by with_unfolding_all rfl) ?_)
          exact ⟨rfl, rfl, rfl⟩
        · repeat (first | with_reducible refine ss_cons ?_ | with_reducible refine s_put ?_ | with_reducible refine s_asg ?_ | with_reducible refine s_asgo_lst ?_ | with_reducible refine s_ex ?_ | with_reducible refine s_ret ?_ | with_reducible refine s_iff ?_ | with_reducible refine s_for ?_ | with_reducible refine e_c ?_ | with_reducible refine e_glo ?_ | with_reducible refine e_lst ?_ | with_reducible refine e_tup ?_ | with_reducible refine e_newl ?_ | with_reducible refine e_bin ?_ | with_reducible refine e_cmp ?_ | with_reducible refine e_chn ?_ | with_reducible refine e_isn ?_ | with_reducible refine e_and ?_ | with_reducible refine e_or ?_ | with_reducible refine e_not ?_ | with_reducible refine e_ife ?_ | with_reducible refine e_call ?_ | with_reducible refine e_bi ?_ | with_reducible refine e_mt ?_ | with_reducible refine e_sub ?_ | with_reducible refine e_slc ?_ | with_reducible refine e_isi ?_ | with_reducible refine e_isiT ?_ | with_reducible refine e_lc ?_ | with_reducible refine e_op1 ?_ | with_reducible refine e_opn ?_ | with_reducible refine e_fst ?_ | with_reducible refine es_nil ?_ | with_reducible refine es_cons ?_ | with_reducible refine eo_no ?_ | with_reducible refine eo_yes ?_ | with_reducible refine ei_it ?_ | with_reducible refine ei_rng ?_ | with_reducible refine ei_zip ?_ | with_reducible refine ei_enm ?_ | with_reducible refine t_cmp ?_ | with_reducible refine t_isn ?_ | with_reducible refine t_and ?_ | with_reducible refine t_or ?_ | with_reducible refine t_not ?_ | with_reducible refine t_call ?_ | with_reducible refine t_isi ?_ | with_reducible refine t_isiT ?_ | with_reducible refine t_op1 ?_ | with_reducible refine t_opn ?_ | with_reducible refine o_neg ?_ | with_reducible refine o_fld ?_ | with_reducible refine o_isc ?_ | with_reducible refine o_gdic ?_ | with_reducible refine o_ccon ?_ | with_reducible refine f_nil ?_ | with_reducible refine f_cons ?_ | with_reducible refine s_sfld ?_ | with_reducible refine s_tasg ?_ | with_reducible refine s_uasg ?_ | with_reducible refine ss_nil ?_ | with_reducible refine q_nx ?_ | with_reducible refine q_rt ?_ | with_reducible refine ts_nil ?_ | with_reducible refine lcd ?_ | with_reducible refine o_rt ?_ | with_reducible refine e_var (by with_unfolding_all rfl) ?_ | with_reducible refine t_var (by with_unfolding_all rfl) ?_ | with_reducible refine oo_mod (by omega) ?_ | with_reducible refine oo_fdiv (by omega) ?_ | with_reducible refine oo_mul (by omega) ?_ | with_reducible refine as_b ?_ | with_reducible refine as_i ?_ | with_reducible refine dec_t (by with_unfolding_all rfl) ?_ | with_reducible refine dec_f (by with_unfolding_all rfl) ?_ | with_reducible refine dec_t' (by with_unfolding_all rfl) ?_ | with_reducible refine dec_f' (by with_unfolding_all rfl) ?_ | with_reducible refine put_ok (by with_unfolding_all rfl) (by with_unfolding_all rfl) ?_ | with_reducible refine pg_cl ?_ | with_reducible refine pg_cl1 ?_ | with_reducible refine gd_rfl (by with_unfolding_all rfl) ?_ | with_reducible refine oo (by with_unfolding_all rfl) ?_)
          refine oo (a := .bl (z.all fun c => t.contains c)) ?_ ?_
          · show (blsD _).map _ = _
            rw [List.nil_append, bls_run]
            simp [List.all_map, Function.comp_def]
          · have e : runOf t n (.str z) = (z.all fun c => t.contains c) := by
              simp only [runOf, decide_eq_true h1, decide_eq_true h2, Bool.true_and]
            rw [e] at q
            exact q
      · have h2 : ¬ z.length ≤ n := by have := of_decide_eq_false h2; omega
        have e : runOf t n (.str z) = false := by simp only [runOf, decide_eq_false h2, Bool.and_false, Bool.false_and]
        rw [e] at q
        exact q
    · rename_i h1
      have h1 : ¬ 1 ≤ z.length := by
        intro h
        exact h1 (decide_eq_true (by omega))
      have e : runOf t n (.str z) = false := by simp only [runOf, decide_eq_false h1, Bool.false_and]
      rw [e] at q
      exact ⟨_, rfl, fun z => (by cases z), fun _ => q⟩
  all_goals (
    repeat (first | with_reducible refine ss_cons ?_ | with_reducible refine s_put ?_ | with_reducible refine s_asg ?_ | with_reducible refine s_asgo_lst ?_ | with_reducible refine s_ex ?_ | with_reducible refine s_ret ?_ | with_reducible refine s_iff ?_ | with_reducible refine s_for ?_ | with_reducible refine e_c ?_ | with_reducible refine e_glo ?_ | with_reducible refine e_lst ?_ | with_reducible refine e_tup ?_ | with_reducible refine e_newl ?_ | with_reducible refine e_bin ?_ | with_reducible refine e_cmp ?_ | with_reducible refine e_chn ?_ | with_reducible refine e_isn ?_ | with_reducible refine e_and ?_ | with_reducible refine e_or ?_ | with_reducible refine e_not ?_ | with_reducible refine e_ife ?_ | with_reducible refine e_call ?_ | with_reducible refine e_bi ?_ | with_reducible refine e_mt ?_ | with_reducible refine e_sub ?_ | with_reducible refine e_slc ?_ | with_reducible refine e_isi ?_ | with_reducible refine e_isiT ?_ | with_reducible refine e_lc ?_ | with_reducible refine e_op1 ?_ | with_reducible refine e_opn ?_ | with_reducible refine e_fst ?_ | with_reducible refine es_nil ?_ | with_reducible refine es_cons ?_ | with_reducible refine eo_no ?_ | with_reducible refine eo_yes ?_ | with_reducible refine ei_it ?_ | with_reducible refine ei_rng ?_ | with_reducible refine ei_zip ?_ | with_reducible refine ei_enm ?_ | with_reducible refine t_cmp ?_ | with_reducible refine t_isn ?_ | with_reducible refine t_and ?_ | with_reducible refine t_or ?_ | with_reducible refine t_not ?_ | with_reducible refine t_call ?_ | with_reducible refine t_isi ?_ | with_reducible refine t_isiT ?_ | with_reducible refine t_op1 ?_ | with_reducible refine t_opn ?_ | with_reducible refine o_neg ?_ | with_reducible refine o_fld ?_ | with_reducible refine o_isc ?_ | with_reducible refine o_gdic ?_ | with_reducible refine o_ccon ?_ | with_reducible refine f_nil ?_ | with_reducible refine f_cons ?_ | with_reducible refine s_sfld ?_ | with_reducible refine s_tasg ?_ | with_reducible refine s_uasg ?_ | with_reducible refine ss_nil ?_ | with_reducible refine q_nx ?_ | with_reducible refine q_rt ?_ | with_reducible refine ts_nil ?_ | with_reducible refine lcd ?_ | with_reducible refine o_rt ?_ | with_reducible refine e_var (by with_unfolding_all rfl) ?_ | with_reducible refine t_var (by with_unfolding_all rfl) ?_ | with_reducible refine oo_mod (by omega) ?_ | with_reducible refine oo_fdiv (by omega) ?_ | with_reducible refine oo_mul (by omega) ?_ | with_reducible refine as_b ?_ | with_reducible refine as_i ?_ | with_reducible refine dec_t (by with_unfolding_all rfl) ?_ | with_reducible refine dec_f (by with_unfolding_all rfl) ?_ | with_reducible refine dec_t' (by with_unfolding_all rfl) ?_ | with_reducible refine dec_f' (by with_unfolding_all rfl) ?_ | with_reducible refine put_ok (by with_unfolding_all rfl) (by with_unfolding_all rfl) ?_ | with_reducible refine pg_cl ?_ | with_reducible refine pg_cl1 ?_ | with_reducible refine gd_rfl (by with_unfolding_all rfl) ?_ | with_reducible refine oo (by with_unfolding_all rfl) ?_)
    exact q)
theorem runB_fn {p : Pg} {f : Fn} {X : EX} {t : List Nat} {n : Nat} (hb : f.body = [.ret (runE X n)]) (hN : f.N.length = 2) (hp : f.ps.length = 1) (hX : ∀ e s, Ok (denE p X e s) (fun d e' s' => d = .str t ∧ e' = e ∧ s' = s)) {d : D} (h : Plain d) {s : So} : COk (fnD p f [d] s) (fun x s' => x = .bl (runOf t n d) ∧ s' = s) := by
  refine cok_fnB hb hN hp ?_
  refine ss_cons (s_ret (run_ok hX h ?_))
  exact ⟨rfl, rfl⟩
/-- its letters' set is told by a constant of the module, or by a def -/
theorem says_glo {p : Pg} {i : Nat} {t : List Nat} (h : p.glo i = .str t) : ∀ e s, Ok (denE p (.glo i) e s) (fun d e' s' => d = .str t ∧ e' = e ∧ s' = s) := fun e s => e_glo ⟨h, rfl, rfl⟩
theorem says_call {p : Pg} {i : Nat} {t : List Nat} (h : Says p.cl i t) : ∀ e s, Ok (denE p (.call i .nil .nil []) e s) (fun d e' s' => d = .str t ∧ e' = e ∧ s' = s) := fun e s => by
  repeat (first | with_reducible refine ss_cons ?_ | with_reducible refine s_put ?_ | with_reducible refine s_asg ?_ | with_reducible refine s_asgo_lst ?_ | with_reducible refine s_ex ?_ | with_reducible refine s_ret ?_ | with_reducible refine s_iff ?_ | with_reducible refine s_for ?_ | with_reducible refine e_c ?_ | with_reducible refine e_glo ?_ | with_reducible refine e_lst ?_ | with_reducible refine e_tup ?_ | with_reducible refine e_newl ?_ | with_reducible refine e_bin ?_ | with_reducible refine e_cmp ?_ | with_reducible refine e_chn ?_ | with_reducible refine e_isn ?_ | with_reducible refine e_and ?_ | with_reducible refine e_or ?_ | with_reducible refine e_not ?_ | with_reducible refine e_ife ?_ | with_reducible refine e_call ?_ | with_reducible refine e_bi ?_ | with_reducible refine e_mt ?_ | with_reducible refine e_sub ?_ | with_reducible refine e_slc ?_ | with_reducible refine e_isi ?_ | with_reducible refine e_isiT ?_ | with_reducible refine e_lc ?_ | with_reducible refine e_op1 ?_ | with_reducible refine e_opn ?_ | with_reducible refine e_fst ?_ | with_reducible refine es_nil ?_ | with_reducible refine es_cons ?_ | with_reducible refine eo_no ?_ | with_reducible refine eo_yes ?_ | with_reducible refine ei_it ?_ | with_reducible refine ei_rng ?_ | with_reducible refine ei_zip ?_ | with_reducible refine ei_enm ?_ | with_reducible refine t_cmp ?_ | with_reducible refine t_isn ?_ | with_reducible refine t_and ?_ | with_reducible refine t_or ?_ | with_reducible refine t_not ?_ | with_reducible refine t_call ?_ | with_reducible refine t_isi ?_ | with_reducible refine t_isiT ?_ | with_reducible refine t_op1 ?_ | with_reducible refine t_opn ?_ | with_reducible refine o_neg ?_ | with_reducible refine o_fld ?_ | with_reducible refine o_isc ?_ | with_reducible refine o_gdic ?_ | with_reducible refine o_ccon ?_ | with_reducible refine f_nil ?_ | with_reducible refine f_cons ?_ | with_reducible refine s_sfld ?_ | with_reducible refine s_tasg ?_ | with_reducible refine s_uasg ?_ | with_reducible refine ss_nil ?_ | with_reducible refine q_nx ?_ | with_reducible refine q_rt ?_ | with_reducible refine ts_nil ?_ | with_reducible refine lcd ?_ | with_reducible refine o_rt ?_ | with_reducible refine e_var (by with_unfolding_all rfl) ?_ | with_reducible refine t_var (by with_unfolding_all rfl) ?_ | with_reducible refine oo_mod (by omega) ?_ | with_reducible refine oo_fdiv (by omega) ?_ | with_reducible refine oo_mul (by omega) ?_ | with_reducible refine as_b ?_ | with_reducible refine as_i ?_ | with_reducible refine dec_t (by with_unfolding_all rfl) ?_ | with_reducible refine dec_f (by with_unfolding_all rfl) ?_ | with_reducible refine dec_t' (by with_unfolding_all rfl) ?_ | with_reducible refine dec_f' (by with_unfolding_all rfl) ?_ | with_reducible refine put_ok (by with_unfolding_all rfl) (by with_unfolding_all rfl) ?_ | with_reducible refine pg_cl ?_ | with_reducible refine pg_cl1 ?_ | with_reducible refine gd_rfl (by with_unfolding_all rfl) ?_ | with_reducible refine oo (by with_unfolding_all rfl) ?_)
  exact cok_imp (h s) fun d s z => ⟨z.1, rfl, z.2⟩
theorem run_true {t : List Nat} {n : Nat} {z : List Nat} (h1 : 1 ≤ z.length) (h2 : z.length ≤ n) (h3 : ∀ x ∈ z, x ∈ t) : runOf t n (.str z) = true := by
  simp only [runOf, decide_eq_true h1, decide_eq_true h2, Bool.true_and, List.all_eq_true]
  intro x hx
  simpa using h3 x hx
end Mx

namespace Lw
open PySem L2 Mx
def top (i : Nat) : Stmt := PySem.Challenge.pw_pairbinds_k06_groups_told.main.body.getD i (.Pass ⟨0, 0, 0, 0⟩)
def inn (i j : Nat) : Stmt := match top i with | .ClassDef _ _ _ b _ _ _ _ _ _ _ => b.getD j (.Pass ⟨0, 0, 0, 0⟩) | s => s
def lb0_0 : ST := .asg 1 (.call 1 (.cons (.var 0) .nil) .nil [.arg 0])
def lb1_0 : ST := .tasg [3, 4] (.cons (.call 2 (.cons (.var 1) (.cons (.c (.int 8)) .nil)) .nil [.arg 0, .arg 1]) (.cons (.call 3 (.cons (.var 1) (.cons (.lst (.cons (.c (.str [105, 110, 102, 105, 120])) (.cons (.c (.str [112, 114, 101, 102, 105, 120])) (.cons (.c (.str [112, 111, 115, 116, 102, 105, 120])) .nil)))) .nil)) .nil [.arg 0, .arg 1]) .nil))
def lb1_1 : ST := .asg 5 (.call 3 (.cons (.var 1) (.cons (.ife (.cmp .eq (.var 4) (.c (.str [105, 110, 102, 105, 120]))) (.lst (.cons (.c (.str [108, 101, 102, 116])) (.cons (.c (.str [114, 105, 103, 104, 116])) (.cons (.c (.str [110, 111, 110, 101])) .nil)))) (.lst (.cons (.c (.str [109, 97, 110, 121])) (.cons (.c (.str [111, 110, 99, 101])) .nil)))) .nil)) .nil [.arg 0, .arg 1])
def lb1_2 : ST := .tasg [6, 7] (.cons (.opn (.mk 0 [.arg 0, .arg 1, .arg 2, .arg 3]) (.cons (.var 3) (.cons (.var 4) .nil)) (.cons (.var 5) .nil)) (.cons (.bin .add (.bin .add (.bin .add (.bin .add (.var 3) (.c (.str [32]))) (.var 4)) (.c (.str [32]))) (.var 5)) .nil))
def lb1_3 : ST := .asg 8 (.lst (.cons (.op1 (.fld ("name" : Str)) (.var 6) .nil .nil) (.cons (.op1 (.fld ("kind" : Str)) (.var 6) .nil .nil) (.cons (.op1 (.fld ("side" : Str)) (.var 6) .nil .nil) (.cons (.op1 (.fld ("text" : Str)) (.var 6) .nil .nil) (.cons (.op1 (.orep 0) (.var 6) .nil .nil) .nil))))))
def lb1_4 : ST := .iff (.not (.call 6 (.cons (.var 8) (.cons (.lst (.cons (.var 3) (.cons (.var 4) (.cons (.var 5) (.cons (.var 7) (.cons (.bin .add (.bin .add (.c (.str [71, 114, 111, 117, 112, 40])) (.var 7)) (.c (.str [41]))) .nil)))))) .nil)) .nil [.arg 0, .arg 1])) [.ret (.c (.bl false))] []
def lb1_5 : ST := .asg 9 (.ife (.cmp .eq (.var 4) (.c (.str [105, 110, 102, 105, 120]))) (.c (.str [110, 111, 110, 101])) (.c (.str [111, 110, 99, 101])))
def lb1_6 : ST := .iff (.or (.cmp .ne (.op1 (.fld ("side" : Str)) (.opn (.mk 0 [.arg 0, .arg 1, .arg 2, .dft .non]) (.cons (.var 3) (.cons (.var 4) .nil)) .nil) .nil .nil) (.var 9)) (.op1 (.oeq 0 true) (.opn (.mk 0 [.arg 0, .arg 3, .arg 2, .arg 1]) .nil (.cons (.c .non) (.cons (.var 4) (.cons (.var 3) .nil)))) (.cons (.opn (.mk 0 [.arg 0, .arg 1, .arg 2, .arg 3]) (.cons (.var 3) (.cons (.var 4) .nil)) (.cons (.var 9) .nil)) .nil) .nil)) [.ret (.c (.bl false))] []
def lb1_7 : ST := .iff (.or (.op1 (.oeq 0 true) (.opn (.mk 0 [.arg 0, .arg 1, .dft (.str [105, 110, 102, 105, 120]), .dft .non]) (.cons (.var 3) .nil) .nil) (.cons (.opn (.mk 0 [.arg 0, .arg 1, .arg 2, .arg 3]) (.cons (.var 3) (.cons (.c (.str [105, 110, 102, 105, 120])) .nil)) (.cons (.c (.str [110, 111, 110, 101])) .nil)) .nil) .nil) (.not (.op1 (.oeq 0 false) (.var 6) (.cons (.opn (.stat 0 ("parsed" : Str) [.arg 0]) (.cons (.var 7) .nil) .nil) .nil) .nil))) [.ret (.c (.bl false))] []
def lb1_8 : ST := .asg 10 (.opn (.mk 0 [.arg 0, .arg 1, .arg 2, .arg 3]) (.cons (.call 3 (.cons (.var 1) (.cons (.lst (.cons (.var 3) (.cons (.ife (.cmp .lt (.bi .len (.cons (.var 3) .nil)) (.c (.int 8))) (.bin .add (.var 3) (.c (.str [120]))) (.c (.str [120]))) .nil))) .nil)) .nil [.arg 0, .arg 1]) (.cons (.var 4) .nil)) (.cons (.call 3 (.cons (.var 1) (.cons (.lst (.cons (.var 5) (.cons (.var 9) .nil))) .nil)) .nil [.arg 0, .arg 1]) .nil))
def lb1_9 : ST := .asg 11 (.lst (.cons (.op1 (.oeq 0 false) (.var 6) (.cons (.var 10) .nil) .nil) (.cons (.op1 (.oeq 0 true) (.var 6) (.cons (.var 10) .nil) .nil) (.cons (.op1 (.oeq 0 false) (.var 6) (.cons (.var 7) .nil) .nil) (.cons (.op1 (.oeq 0 false) (.opn (.stat 0 ("parsed" : Str) [.arg 0]) .nil (.cons (.var 7) .nil)) (.cons (.var 6) .nil) .nil) .nil)))))
def lb1_10 : ST := .iff (.not (.call 6 (.cons (.var 11) (.cons (.lst (.cons (.cmp .eq (.op1 (.fld ("text" : Str)) (.var 10) .nil .nil) (.var 7)) (.cons (.cmp .ne (.op1 (.fld ("text" : Str)) (.var 10) .nil .nil) (.var 7)) (.cons (.c (.bl false)) (.cons (.c (.bl true)) .nil))))) .nil)) .nil [.arg 0, .arg 1])) [.ret (.c (.bl false))] []
def lb1 : List ST := [lb1_0, lb1_1, lb1_2, lb1_3, lb1_4, lb1_5, lb1_6, lb1_7, lb1_8, lb1_9, lb1_10]
def lb0_1 : ST := .for_ (.one 2) (.rng (.c (.int 6))) lb1
def lb0_2 : ST := .asg 12 (.lst (.cons (.c (.str [])) (.cons (.bin .mul (.c (.str [97])) (.c (.int 8))) (.cons (.bin .mul (.c (.str [97])) (.c (.int 9))) (.cons (.c (.str [65])) (.cons (.c (.str [97, 49])) (.cons (.c (.str [43])) (.cons (.c .non) (.cons (.c (.int 3)) (.cons (.lst (.cons (.c (.str [97])) .nil)) (.cons (.call 2 (.cons (.var 1) (.cons (.c (.int 12)) .nil)) .nil [.arg 0, .arg 1]) (.cons (.c (.str [105, 115])) (.cons (.c (.str [95])) (.cons (.c (.str [97, 10])) .nil))))))))))))))
def lb0_3 : ST := .ret (.call 6 (.cons (.lc [13] (.it (.var 12)) (.one 13) .nil (.call 9 (.cons (.var 13) .nil) .nil [.arg 0])) (.cons (.lc [13] (.it (.var 12)) (.one 13) .nil (.call 10 (.cons (.var 13) .nil) .nil [.arg 0])) .nil)) .nil [.arg 0, .arg 1])
def lb0 : List ST := [lb0_0, lb0_1, lb0_2, lb0_3]
/-- law -/
def f_0 : Fn := { name := ("law" : Str), ps := [("_law_script" : Str)], N := [("_law_script" : Str), ("_law_bag_here" : Str), ("_law_turn" : Str), ("_law_title" : Str), ("_law_sort" : Str), ("_law_edge" : Str), ("_law_made" : Str), ("_law_string" : Str), ("_law_found" : Str), ("_law_usual" : Str), ("_law_late" : Str), ("_law_same_here" : Str), ("_law_things" : Str), ("_law_thing" : Str)], shapes := [], top := true, body :=
      lb0 }
/-- _law_bag -/
def f_1 : Fn := { name := ("_law_bag" : Str), ps := [("_law_script" : Str)], N := [("_law_script" : Str), ("_law_mixed" : Str), ("_law_cell" : Str)], shapes := [(1, [], [.arg 0])], top := true, body :=
      [.asg 1 (.c (.int 5740)),
      .for_ (.one 2) (.it (.slc (.var 0) .no (.yes (.c (.int 63))))) [.asg 1 (.bin .mod (.bi .int (.cons (.bin .add (.bin .add (.bin .mul (.var 1) (.c (.int 50021))) (.bin .mul (.bin .mod (.bi .int (.cons (.var 2) .nil)) (.c (.int 1000033))) (.c (.int 877)))) (.c (.int 11))) .nil)) (.c (.int 2147483587)))],
      .ret (.newl (.cons (.bi .list (.cons (.slc (.var 0) .no (.yes (.c (.int 63)))) .nil)) (.cons (.c (.int 0)) (.cons (.c (.int 0)) (.cons (.var 1) (.cons (.c (.int 0)) .nil))))))] }
/-- _law_letters -/
def f_2 : Fn := { name := ("_law_letters" : Str), ps := [("_law_bag_here" : Str), ("_law_most_z" : Str)], N := [("_law_bag_here" : Str), ("_law_most_z" : Str), ("_law_k" : Str)], shapes := [(2, [], [.arg 0, .arg 1])], top := true, body :=
      [.ret (.mt .join (.c (.str [])) (.cons (.lc [2] (.rng (.bin .add (.c (.int 1)) (.call 11 (.cons (.var 0) (.cons (.var 1) .nil)) .nil [.arg 0, .arg 1]))) (.one 2) .nil (.call 3 (.cons (.var 0) (.cons (.call 12 .nil .nil []) .nil)) .nil [.arg 0, .arg 1])) .nil))] }
/-- _law_of -/
def f_3 : Fn := { name := ("_law_of" : Str), ps := [("_law_bag_here" : Str), ("_law_some" : Str)], N := [("_law_bag_here" : Str), ("_law_some" : Str)], shapes := [(2, [], [.arg 0, .arg 1])], top := true, body :=
      [.ret (.sub (.var 1) (.call 11 (.cons (.var 0) (.cons (.bi .len (.cons (.var 1) .nil)) .nil)) .nil [.arg 0, .arg 1]))] }
/-- Group.__init__ -/
def f_4 : Fn := { name := ("__init__" : Str), ps := [("self" : Str), ("name" : Str), ("kind" : Str), ("side" : Str)], N := [("self" : Str), ("name" : Str), ("kind" : Str), ("side" : Str)], shapes := [(3, [("side" : Str)], [.arg 0, .arg 1, .arg 2, .arg 3]), (3, [], [.arg 0, .arg 1, .arg 2, .dft .non]), (1, [("side" : Str), ("kind" : Str), ("name" : Str)], [.arg 0, .arg 3, .arg 2, .arg 1]), (2, [], [.arg 0, .arg 1, .dft (.str [105, 110, 102, 105, 120]), .dft .non])], top := false, body :=
      [.iff (.not (.call 9 (.cons (.var 1) .nil) .nil [.arg 0])) [.never] [],
      .iff (.or (.not (.isi (.var 2) "str")) (.cmp .nin (.var 2) (.glo 0))) [.never] [],
      .iff (.isn false (.var 3)) [.asg 3 (.sub (.op1 (.gdic 0) (.var 2) .nil .nil) (.op1 .neg (.c (.int 1)) .nil .nil))] [],
      .iff (.or (.not (.isi (.var 3) "str")) (.cmp .nin (.var 3) (.op1 (.gdic 0) (.var 2) .nil .nil))) [.never] [],
      .sfld (.var 0) ("name" : Str) (.var 1),
      .sfld (.var 0) ("kind" : Str) (.var 2),
      .sfld (.var 0) ("side" : Str) (.var 3),
      .sfld (.var 0) ("text" : Str) (.fst (.cons (.var 1) (.cons (.c (.str [32])) (.cons (.var 2) (.cons (.c (.str [32])) (.cons (.var 3) .nil))))))] }
/-- Group.__repr__ -/
def f_5 : Fn := { name := ("__repr__" : Str), ps := [("self" : Str)], N := [("self" : Str)], shapes := [(1, [], [.arg 0])], top := false, body :=
      [.ret (.fst (.cons (.c (.str [71, 114, 111, 117, 112, 40])) (.cons (.op1 (.fld ("text" : Str)) (.var 0) .nil .nil) (.cons (.c (.str [41])) .nil))))] }
/-- _law_same -/
def f_6 : Fn := { name := ("_law_same" : Str), ps := [("_law_found" : Str), ("_law_due" : Str)], N := [("_law_found" : Str), ("_law_due" : Str), ("_law_a" : Str), ("_law_b" : Str)], shapes := [(2, [], [.arg 0, .arg 1])], top := true, body :=
      [.iff (.isiT (.var 1) ["list", "tuple"]) [.iff (.or (.cmp .ne (.isi (.var 0) "list") (.isi (.var 1) "list")) (.cmp .ne (.isi (.var 0) "tuple") (.isi (.var 1) "tuple"))) [.ret (.c (.bl false))] [],
      .ret (.and (.cmp .eq (.bi .len (.cons (.var 0) .nil)) (.bi .len (.cons (.var 1) .nil))) (.bi .all (.cons (.lc [2, 3] (.zip (.var 0) (.var 1)) (.tup [2, 3]) .nil (.call 6 (.cons (.var 2) (.cons (.var 3) .nil)) .nil [.arg 0, .arg 1])) .nil)))] [],
      .iff (.or (.isn false (.var 1)) (.isn false (.var 0))) [.ret (.and (.isn false (.var 1)) (.isn false (.var 0)))] [],
      .iff (.or (.cmp .ne (.isi (.var 1) "bool") (.isi (.var 0) "bool")) (.cmp .ne (.isi (.var 1) "int") (.isi (.var 0) "int"))) [.ret (.c (.bl false))] [],
      .ret (.and (.cmp .eq (.isi (.var 1) "str") (.isi (.var 0) "str")) (.cmp .eq (.var 0) (.var 1)))] }
/-- Group.__eq__ -/
def f_7 : Fn := { name := ("__eq__" : Str), ps := [("self" : Str), ("other" : Str)], N := [("self" : Str), ("other" : Str)], shapes := [(2, [], [.arg 0, .arg 1])], top := false, body :=
      [.ret (.and (.op1 (.isc 0) (.var 1) .nil .nil) (.cmp .eq (.op1 (.fld ("text" : Str)) (.var 0) .nil .nil) (.op1 (.fld ("text" : Str)) (.var 1) .nil .nil)))] }
/-- Group.parsed -/
def f_8 : Fn := { name := ("parsed" : Str), ps := [("text" : Str)], N := [("text" : Str), ("items" : Str)], shapes := [(1, [], [.arg 0]), (0, [("text" : Str)], [.arg 0])], top := false, body :=
      [.iff (.not (.isi (.var 0) "str")) [.never] [],
      .asg 1 (.mt .split (.var 0) (.cons (.c (.str [32])) .nil)),
      .iff (.or (.cmp .ne (.bi .len (.cons (.var 1) .nil)) (.c (.int 3))) (.or (.not (.call 9 (.cons (.sub (.var 1) (.c (.int 0))) .nil) .nil [.arg 0])) (.or (.cmp .nin (.sub (.var 1) (.c (.int 1))) (.glo 0)) (.cmp .nin (.sub (.var 1) (.c (.int 2))) (.op1 (.gdic 0) (.sub (.var 1) (.c (.int 1))) .nil .nil))))) [.never] [],
      .ret (.opn (.mk 0 [.arg 0, .arg 1, .arg 2, .arg 3]) (.cons (.sub (.var 1) (.c (.int 0))) (.cons (.sub (.var 1) (.c (.int 1))) .nil)) (.cons (.sub (.var 1) (.c (.int 2))) .nil))] }
/-- is_name -/
def f_9 : Fn := { name := ("is_name" : Str), ps := [("value" : Str)], N := [("value" : Str)], shapes := [(1, [], [.arg 0])], top := true, body :=
      [.ret (.call 13 (.cons (.var 0) .nil) .nil [.arg 0])] }
/-- _law_is_letters -/
def f_10 : Fn := { name := ("_law_is_letters" : Str), ps := [("_law_thing" : Str)], N := [("_law_thing" : Str), ("_law_sign" : Str)], shapes := [(1, [], [.arg 0])], top := true, body :=
      [.ret (.and (.isi (.var 0) "str") (.and (.chn .le .le (.c (.int 1)) (.bi .len (.cons (.var 0) .nil)) (.c (.int 8))) (.bi .all (.cons (.lc [1] (.it (.var 0)) (.one 1) .nil (.cmp .inn (.var 1) (.call 12 .nil .nil []))) .nil))))] }
/-- _law_pull -/
def f_11 : Fn := { name := ("_law_pull" : Str), ps := [("_law_bag_here" : Str), ("_law_many" : Str)], N := [("_law_bag_here" : Str), ("_law_many" : Str), ("_law_cell" : Str), ("_law_digit" : Str), ("_law_twice" : Str)], shapes := [(2, [], [.arg 0, .arg 1])], top := true, body :=
      [.put (.var 0) (.c (.int 4)) (.bin .add (.sub (.var 0) (.c (.int 4))) (.c (.int 1))),
      .iff (.and (.cmp .eq (.sub (.var 0) (.c (.int 2))) (.c (.int 0))) (.cmp .lt (.sub (.var 0) (.c (.int 1))) (.bi .len (.cons (.sub (.var 0) (.c (.int 0))) .nil)))) [.asg 2 (.sub (.sub (.var 0) (.c (.int 0))) (.sub (.var 0) (.c (.int 1)))),
      .put (.var 0) (.c (.int 1)) (.bin .add (.sub (.var 0) (.c (.int 1))) (.c (.int 1))),
      .iff (.cmp .ge (.bi .abs (.cons (.var 2) .nil)) (.bin .pow (.c (.int 10)) (.c (.int 18)))) [.put (.var 0) (.c (.int 2)) (.bi .abs (.cons (.var 2) .nil))] [.put (.var 0) (.c (.int 3)) (.bin .mod (.bi .int (.cons (.bin .add (.bin .add (.bin .mul (.sub (.var 0) (.c (.int 3))) (.c (.int 44017))) (.bin .mul (.bin .mod (.bi .int (.cons (.var 2) .nil)) (.c (.int 1000033))) (.c (.int 709)))) (.c (.int 29))) .nil)) (.c (.int 2147483629)))]] [],
      .iff (.cmp .gt (.sub (.var 0) (.c (.int 2))) (.c (.int 0))) [.asg 3 (.bin .mod (.bi .int (.cons (.sub (.var 0) (.c (.int 2))) .nil)) (.var 1)),
      .put (.var 0) (.c (.int 2)) (.bin .fdiv (.sub (.var 0) (.c (.int 2))) (.var 1)),
      .ret (.var 3)] [],
      .asg 4 (.bin .mod (.bi .int (.cons (.bin .add (.bin .mul (.sub (.var 0) (.c (.int 3))) (.sub (.var 0) (.c (.int 3)))) (.bin .mul (.sub (.var 0) (.c (.int 4))) (.c (.int 8087)))) .nil)) (.c (.int 2147483549))),
      .put (.var 0) (.c (.int 3)) (.bin .mod (.bi .int (.cons (.bin .add (.bin .add (.bin .mul (.var 4) (.c (.int 16417))) (.bin .mul (.sub (.var 0) (.c (.int 3))) (.c (.int 60013)))) (.c (.int 54321))) .nil)) (.c (.int 2147483629))),
      .ret (.bin .mod (.bi .int (.cons (.bin .fdiv (.sub (.var 0) (.c (.int 3))) (.c (.int 64))) .nil)) (.var 1))] }
/-- _law_small -/
def f_12 : Fn := { name := ("_law_small" : Str), ps := [], N := [], shapes := [(0, [], [])], top := true, body :=
      [.ret (.c (.str [97, 98, 99, 100, 101, 102, 103, 104, 105, 106, 107, 108, 109, 110, 111, 112, 113, 114, 115, 116, 117, 118, 119, 120, 121, 122]))] }
/-- is_letter_word -/
def f_13 : Fn := { name := ("is_letter_word" : Str), ps := [("value" : Str)], N := [("value" : Str), ("sign" : Str)], shapes := [(1, [], [.arg 0])], top := true, body :=
      [.ret (.and (.isi (.var 0) "str") (.and (.chn .le .le (.c (.int 1)) (.bi .len (.cons (.var 0) .nil)) (.c (.int 8))) (.bi .all (.cons (.lc [1] (.it (.var 0)) (.one 1) .nil (.cmp .inn (.var 1) (.glo 1))) .nil))))] }
def fs : List Fn := [f_0, f_1, f_2, f_3, f_4, f_5, f_6, f_7, f_8, f_9, f_10, f_11, f_12, f_13]
/-- Group -/
def k_0 : Kl := { name := ("Group" : Str), fields := [("name" : Str), ("kind" : Str), ("side" : Str), ("text" : Str)], init := 4, meths := [(("__eq__" : Str), 7), (("__repr__" : Str), 5)], props := [], stats := [(("parsed" : Str), 8)], cons := [] }
def kl : List Kl := [k_0]
def gl : List (Str × D) := [(("KINDS" : Str), (.tup [(.str [105, 110, 102, 105, 120]), (.str [112, 114, 101, 102, 105, 120]), (.str [112, 111, 115, 116, 102, 105, 120])])), (("SMALL" : Str), (.str [97, 98, 99, 100, 101, 102, 103, 104, 105, 106, 107, 108, 109, 110, 111, 112, 113, 114, 115, 116, 117, 118, 119, 120, 121, 122]))]
def gd : List (Str × List (List Nat × D)) := [(("SIDES" : Str), [([105, 110, 102, 105, 120], (.tup [(.str [108, 101, 102, 116]), (.str [114, 105, 103, 104, 116]), (.str [110, 111, 110, 101])])), ([112, 114, 101, 102, 105, 120], (.tup [(.str [109, 97, 110, 121]), (.str [111, 110, 99, 101])])), ([112, 111, 115, 116, 102, 105, 120], (.tup [(.str [109, 97, 110, 121]), (.str [111, 110, 99, 101])]))])]
def blts : List Str := [("range" : Str), ("repr" : Str), ("len" : Str), ("int" : Str), ("list" : Str), ("isinstance" : Str), ("str" : Str), ("tuple" : Str), ("all" : Str), ("zip" : Str), ("bool" : Str), ("abs" : Str)]
def gn : Gn := ⟨fun i => ((gl[i]?).map (·.2)).getD .non, kl, gd⟩
abbrev s_0 : Stmt := top 22
abbrev s_1 : Stmt := top 15
abbrev s_2 : Stmt := top 20
abbrev s_3 : Stmt := top 17
abbrev s_4 : Stmt := inn 13 0
abbrev s_5 : Stmt := inn 13 3
abbrev s_6 : Stmt := top 18
abbrev s_7 : Stmt := inn 13 2
abbrev s_8 : Stmt := inn 13 1
abbrev s_9 : Stmt := top 12
abbrev s_10 : Stmt := top 21
abbrev s_11 : Stmt := top 16
abbrev s_12 : Stmt := top 19
abbrev s_13 : Stmt := top 8
end Lw

namespace Lw
open PySem L2 Mx

def d_0 : He5.DefA := ⟨fun K => He.ga K ("law" : Str), ("law" : Str), ("law" : Str), defArgs s_0, defBody s_0, defScope s_0, [], []⟩
def d_1 : He5.DefA := ⟨fun K => He.ga K ("_law_bag" : Str), ("_law_bag" : Str), ("_law_bag" : Str), defArgs s_1, defBody s_1, defScope s_1, [], []⟩
def d_2 : He5.DefA := ⟨fun K => He.ga K ("_law_letters" : Str), ("_law_letters" : Str), ("_law_letters" : Str), defArgs s_2, defBody s_2, defScope s_2, [], []⟩
def d_3 : He5.DefA := ⟨fun K => He.ga K ("_law_of" : Str), ("_law_of" : Str), ("_law_of" : Str), defArgs s_3, defBody s_3, defScope s_3, [], []⟩
def d_4 : He5.DefA := ⟨fun K => He.ma K (He.ga K ("Group" : Str)) ("__init__" : Str), ("__init__" : Str), ("Group.__init__" : Str), defArgs s_4, defBody s_4, defScope s_4, [(.str "infix")], [(("side" : Str), .non)]⟩
def d_5 : He5.DefA := ⟨fun K => He.ma K (He.ga K ("Group" : Str)) ("__repr__" : Str), ("__repr__" : Str), ("Group.__repr__" : Str), defArgs s_5, defBody s_5, defScope s_5, [], []⟩
def d_6 : He5.DefA := ⟨fun K => He.ga K ("_law_same" : Str), ("_law_same" : Str), ("_law_same" : Str), defArgs s_6, defBody s_6, defScope s_6, [], []⟩
def d_7 : He5.DefA := ⟨fun K => He.ma K (He.ga K ("Group" : Str)) ("__eq__" : Str), ("__eq__" : Str), ("Group.__eq__" : Str), defArgs s_7, defBody s_7, defScope s_7, [], []⟩
def d_8 : He5.DefA := ⟨wrp "staticmethod" ("Group" : Str) ("parsed" : Str), ("parsed" : Str), ("Group.parsed" : Str), defArgs s_8, defBody s_8, defScope s_8, [], []⟩
def d_9 : He5.DefA := ⟨fun K => He.ga K ("is_name" : Str), ("is_name" : Str), ("is_name" : Str), defArgs s_9, defBody s_9, defScope s_9, [], []⟩
def d_10 : He5.DefA := ⟨fun K => He.ga K ("_law_is_letters" : Str), ("_law_is_letters" : Str), ("_law_is_letters" : Str), defArgs s_10, defBody s_10, defScope s_10, [], []⟩
def d_11 : He5.DefA := ⟨fun K => He.ga K ("_law_pull" : Str), ("_law_pull" : Str), ("_law_pull" : Str), defArgs s_11, defBody s_11, defScope s_11, [], []⟩
def d_12 : He5.DefA := ⟨fun K => He.ga K ("_law_small" : Str), ("_law_small" : Str), ("_law_small" : Str), defArgs s_12, defBody s_12, defScope s_12, [], []⟩
def d_13 : He5.DefA := ⟨fun K => He.ga K ("is_letter_word" : Str), ("is_letter_word" : Str), ("is_letter_word" : Str), defArgs s_13, defBody s_13, defScope s_13, [], []⟩
def fm : List He5.DefA := [d_0, d_1, d_2, d_3, d_4, d_5, d_6, d_7, d_8, d_9, d_10, d_11, d_12, d_13]
def tabs : List He.Tab := [((fun K => He.ga K ("SIDES" : Str)), [("infix" : Str), ("prefix" : Str), ("postfix" : Str)])]
def tops : List (Str × Nat) := [(("law" : Str), 0), (("_law_bag" : Str), 1), (("_law_letters" : Str), 2), (("_law_of" : Str), 3), (("_law_same" : Str), 6), (("is_name" : Str), 9), (("_law_is_letters" : Str), 10), (("_law_pull" : Str), 11), (("_law_small" : Str), 12), (("is_letter_word" : Str), 13)]
def hk0 : Hk := ⟨fm, kl, gl, blts, gd, tabs, tops⟩
theorem ck : fnsChk (hk0.ctx fs) fs fm = true := by decide +kernel
def loose : List Str := [("__name__" : Str), ("BindError" : Str), ("InvalidText" : Str), ("InvalidName" : Str), ("InvalidKind" : Str), ("InvalidSide" : Str), ("SMALL" : Str), ("is_letter_word" : Str), ("KINDS" : Str), ("SIDES" : Str), ("is_name" : Str), ("Group" : Str), ("_law_bag" : Str), ("_law_pull" : Str), ("_law_of" : Str), ("_law_same" : Str), ("_law_small" : Str), ("_law_letters" : Str), ("_law_is_letters" : Str)]
def lawTop : Nat := 22
def lawIx : Nat := 0
theorem bg_1_0 {K : PySem.W.Frag} {fdt : Nat → FuncData} {fd : FuncData} {a : Addr} (F : FunD K d_1.name d_1.qual d_1.params d_1.body d_1.scope (d_1.dvs K) (d_1.kws K) a fd) : BindG (hk0.tb K fdt) fd f_1.ps 1 [] [.arg 0] :=
  bindG_of F fun _ _ _ _ _ _ us ws h1 h2 => match us, ws, h1, h2 with | [_], [], _, _ => ⟨_, rfl, rfl⟩
theorem bg_2_0 {K : PySem.W.Frag} {fdt : Nat → FuncData} {fd : FuncData} {a : Addr} (F : FunD K d_2.name d_2.qual d_2.params d_2.body d_2.scope (d_2.dvs K) (d_2.kws K) a fd) : BindG (hk0.tb K fdt) fd f_2.ps 2 [] [.arg 0, .arg 1] :=
  bindG_of F fun _ _ _ _ _ _ us ws h1 h2 => match us, ws, h1, h2 with | [_, _], [], _, _ => ⟨_, rfl, rfl⟩
theorem bg_3_0 {K : PySem.W.Frag} {fdt : Nat → FuncData} {fd : FuncData} {a : Addr} (F : FunD K d_3.name d_3.qual d_3.params d_3.body d_3.scope (d_3.dvs K) (d_3.kws K) a fd) : BindG (hk0.tb K fdt) fd f_3.ps 2 [] [.arg 0, .arg 1] :=
  bindG_of F fun _ _ _ _ _ _ us ws h1 h2 => match us, ws, h1, h2 with | [_, _], [], _, _ => ⟨_, rfl, rfl⟩
theorem bg_4_0 {K : PySem.W.Frag} {fdt : Nat → FuncData} {fd : FuncData} {a : Addr} (F : FunD K d_4.name d_4.qual d_4.params d_4.body d_4.scope (d_4.dvs K) (d_4.kws K) a fd) : BindG (hk0.tb K fdt) fd f_4.ps 3 [("side" : Str)] [.arg 0, .arg 1, .arg 2, .arg 3] :=
  bindG_dk (T := hk0.tb K fdt) F [] [.p 0, .p 1, .p 2, .k 0] (by intro z; cases z) (by intro z; cases z) (by intro q hq; cases hq) (.p (by decide) (.p (by decide) (.p (by decide) (.k rfl .nil))))
    fun _ _ _ _ _ _ _ us its mv ws h1 h2 h3 h4 => match us, its, mv, ws, h1, h2, h3, h4 with | [_, _, _], [_], [], [_], _, _, _, _ => ⟨_, rfl, rfl⟩
theorem bg_4_1 {K : PySem.W.Frag} {fdt : Nat → FuncData} {fd : FuncData} {a : Addr} (F : FunD K d_4.name d_4.qual d_4.params d_4.body d_4.scope (d_4.dvs K) (d_4.kws K) a fd) : BindG (hk0.tb K fdt) fd f_4.ps 3 [] [.arg 0, .arg 1, .arg 2, .dft .non] :=
  bindG_dk (T := hk0.tb K fdt) F [(("side" : Str), .non)] [.p 0, .p 1, .p 2, .m 0] (by intro z; cases z) (by intro z; cases z) (by intro q hq; simpa [d_4, He5.DefA.kws, He.Dv.v] using hq) (.p (by decide) (.p (by decide) (.p (by decide) (.m (v := .non) rfl (fun P θ => by rw [Rep]) .nil))))
    fun _ _ _ _ _ _ _ us its mv ws h1 h2 h3 h4 => match us, its, mv, ws, h1, h2, h3, h4 with | [_, _, _], [_], [_], [], _, _, _, _ => ⟨_, rfl, _, _, _, _, _, _, rfl, rfl, rfl⟩
theorem bg_4_2 {K : PySem.W.Frag} {fdt : Nat → FuncData} {fd : FuncData} {a : Addr} (F : FunD K d_4.name d_4.qual d_4.params d_4.body d_4.scope (d_4.dvs K) (d_4.kws K) a fd) : BindG (hk0.tb K fdt) fd f_4.ps 1 [("side" : Str), ("kind" : Str), ("name" : Str)] [.arg 0, .arg 3, .arg 2, .arg 1] :=
  bindG_dk (T := hk0.tb K fdt) F [] [.p 0, .k 2, .k 1, .k 0] (by intro z; cases z) (by intro z; cases z) (by intro q hq; cases hq) (.p (by decide) (.k rfl (.k rfl (.k rfl .nil))))
    fun _ _ _ _ _ _ _ us its mv ws h1 h2 h3 h4 => match us, its, mv, ws, h1, h2, h3, h4 with | [_], [_], [], [_, _, _], _, _, _, _ => ⟨_, rfl, rfl⟩
theorem bg_4_3 {K : PySem.W.Frag} {fdt : Nat → FuncData} {fd : FuncData} {a : Addr} (F : FunD K d_4.name d_4.qual d_4.params d_4.body d_4.scope (d_4.dvs K) (d_4.kws K) a fd) : BindG (hk0.tb K fdt) fd f_4.ps 2 [] [.arg 0, .arg 1, .dft (.str [105, 110, 102, 105, 120]), .dft .non] :=
  bindG_dk (T := hk0.tb K fdt) F [(("side" : Str), .non)] [.p 0, .p 1, .d 0, .m 0] (by intro z; cases z) (by intro z; cases z) (by intro q hq; simpa [d_4, He5.DefA.kws, He.Dv.v] using hq) (.p (by decide) (.p (by decide) (.d (v := .str ("infix" : Str)) rfl (fun P θ => rep_str (by decide +kernel) (by decide) P θ) (.m (v := .non) rfl (fun P θ => by rw [Rep]) .nil))))
    fun _ _ _ _ _ _ _ us its mv ws h1 h2 h3 h4 => match us, its, mv, ws, h1, h2, h3, h4 with | [_, _], [_], [_], [], _, _, _, _ => ⟨_, rfl, _, _, _, _, _, _, rfl, rfl, rfl⟩
theorem bg_5_0 {K : PySem.W.Frag} {fdt : Nat → FuncData} {fd : FuncData} {a : Addr} (F : FunD K d_5.name d_5.qual d_5.params d_5.body d_5.scope (d_5.dvs K) (d_5.kws K) a fd) : BindG (hk0.tb K fdt) fd f_5.ps 1 [] [.arg 0] :=
  bindG_of F fun _ _ _ _ _ _ us ws h1 h2 => match us, ws, h1, h2 with | [_], [], _, _ => ⟨_, rfl, rfl⟩
theorem bg_6_0 {K : PySem.W.Frag} {fdt : Nat → FuncData} {fd : FuncData} {a : Addr} (F : FunD K d_6.name d_6.qual d_6.params d_6.body d_6.scope (d_6.dvs K) (d_6.kws K) a fd) : BindG (hk0.tb K fdt) fd f_6.ps 2 [] [.arg 0, .arg 1] :=
  bindG_of F fun _ _ _ _ _ _ us ws h1 h2 => match us, ws, h1, h2 with | [_, _], [], _, _ => ⟨_, rfl, rfl⟩
theorem bg_7_0 {K : PySem.W.Frag} {fdt : Nat → FuncData} {fd : FuncData} {a : Addr} (F : FunD K d_7.name d_7.qual d_7.params d_7.body d_7.scope (d_7.dvs K) (d_7.kws K) a fd) : BindG (hk0.tb K fdt) fd f_7.ps 2 [] [.arg 0, .arg 1] :=
  bindG_of F fun _ _ _ _ _ _ us ws h1 h2 => match us, ws, h1, h2 with | [_, _], [], _, _ => ⟨_, rfl, rfl⟩
theorem bg_8_0 {K : PySem.W.Frag} {fdt : Nat → FuncData} {fd : FuncData} {a : Addr} (F : FunD K d_8.name d_8.qual d_8.params d_8.body d_8.scope (d_8.dvs K) (d_8.kws K) a fd) : BindG (hk0.tb K fdt) fd f_8.ps 1 [] [.arg 0] :=
  bindG_of F fun _ _ _ _ _ _ us ws h1 h2 => match us, ws, h1, h2 with | [_], [], _, _ => ⟨_, rfl, rfl⟩
theorem bg_8_1 {K : PySem.W.Frag} {fdt : Nat → FuncData} {fd : FuncData} {a : Addr} (F : FunD K d_8.name d_8.qual d_8.params d_8.body d_8.scope (d_8.dvs K) (d_8.kws K) a fd) : BindG (hk0.tb K fdt) fd f_8.ps 0 [("text" : Str)] [.arg 0] :=
  bindG_of F fun _ _ _ _ _ _ us ws h1 h2 => match us, ws, h1, h2 with | [], [_], _, _ => ⟨_, rfl, rfl⟩
theorem bg_9_0 {K : PySem.W.Frag} {fdt : Nat → FuncData} {fd : FuncData} {a : Addr} (F : FunD K d_9.name d_9.qual d_9.params d_9.body d_9.scope (d_9.dvs K) (d_9.kws K) a fd) : BindG (hk0.tb K fdt) fd f_9.ps 1 [] [.arg 0] :=
  bindG_of F fun _ _ _ _ _ _ us ws h1 h2 => match us, ws, h1, h2 with | [_], [], _, _ => ⟨_, rfl, rfl⟩
theorem bg_10_0 {K : PySem.W.Frag} {fdt : Nat → FuncData} {fd : FuncData} {a : Addr} (F : FunD K d_10.name d_10.qual d_10.params d_10.body d_10.scope (d_10.dvs K) (d_10.kws K) a fd) : BindG (hk0.tb K fdt) fd f_10.ps 1 [] [.arg 0] :=
  bindG_of F fun _ _ _ _ _ _ us ws h1 h2 => match us, ws, h1, h2 with | [_], [], _, _ => ⟨_, rfl, rfl⟩
theorem bg_11_0 {K : PySem.W.Frag} {fdt : Nat → FuncData} {fd : FuncData} {a : Addr} (F : FunD K d_11.name d_11.qual d_11.params d_11.body d_11.scope (d_11.dvs K) (d_11.kws K) a fd) : BindG (hk0.tb K fdt) fd f_11.ps 2 [] [.arg 0, .arg 1] :=
  bindG_of F fun _ _ _ _ _ _ us ws h1 h2 => match us, ws, h1, h2 with | [_, _], [], _, _ => ⟨_, rfl, rfl⟩
theorem bg_12_0 {K : PySem.W.Frag} {fdt : Nat → FuncData} {fd : FuncData} {a : Addr} (F : FunD K d_12.name d_12.qual d_12.params d_12.body d_12.scope (d_12.dvs K) (d_12.kws K) a fd) : BindG (hk0.tb K fdt) fd f_12.ps 0 [] [] :=
  bindG_of F fun _ _ _ _ _ _ us ws h1 h2 => match us, ws, h1, h2 with | [], [], _, _ => ⟨_, rfl, rfl⟩
theorem bg_13_0 {K : PySem.W.Frag} {fdt : Nat → FuncData} {fd : FuncData} {a : Addr} (F : FunD K d_13.name d_13.qual d_13.params d_13.body d_13.scope (d_13.dvs K) (d_13.kws K) a fd) : BindG (hk0.tb K fdt) fd f_13.ps 1 [] [.arg 0] :=
  bindG_of F fun _ _ _ _ _ _ us ws h1 h2 => match us, ws, h1, h2 with | [_], [], _, _ => ⟨_, rfl, rfl⟩
theorem binds {K : PySem.W.Frag} (fdt : Nat → FuncData) (hF : ∀ (i : Nat) (d : He5.DefA), hk0.fm[i]? = some d → FunD K d.name d.qual d.params d.body d.scope (d.dvs K) (d.kws K) (d.at_ K) (fdt i)) : ∀ (i : Nat) (f : Fn), fs[i]? = some f → ∀ sh ∈ f.shapes, BindG (hk0.tb K fdt) (fdt i) f.ps sh.1 sh.2.1 sh.2.2 ∧ sh.2.2.length = f.ps.length := by
  intro i g e
  match i, e with
  | 0, e =>
    cases e
    intro sh hs
    cases hs
  | 1, e =>
    cases e
    intro sh hs
    have hs : sh ∈ [((1, [], [.arg 0]) : Nat × List Str × List Bd)] := hs
    simp only [List.mem_cons, List.not_mem_nil, or_false] at hs
    rcases hs with rfl
    · exact ⟨bg_1_0 (hF 1 d_1 rfl), rfl⟩
  | 2, e =>
    cases e
    intro sh hs
    have hs : sh ∈ [((2, [], [.arg 0, .arg 1]) : Nat × List Str × List Bd)] := hs
    simp only [List.mem_cons, List.not_mem_nil, or_false] at hs
    rcases hs with rfl
    · exact ⟨bg_2_0 (hF 2 d_2 rfl), rfl⟩
  | 3, e =>
    cases e
    intro sh hs
    have hs : sh ∈ [((2, [], [.arg 0, .arg 1]) : Nat × List Str × List Bd)] := hs
    simp only [List.mem_cons, List.not_mem_nil, or_false] at hs
    rcases hs with rfl
    · exact ⟨bg_3_0 (hF 3 d_3 rfl), rfl⟩
  | 4, e =>
    cases e
    intro sh hs
    have hs : sh ∈ [((3, [("side" : Str)], [.arg 0, .arg 1, .arg 2, .arg 3]) : Nat × List Str × List Bd), ((3, [], [.arg 0, .arg 1, .arg 2, .dft .non]) : Nat × List Str × List Bd), ((1, [("side" : Str), ("kind" : Str), ("name" : Str)], [.arg 0, .arg 3, .arg 2, .arg 1]) : Nat × List Str × List Bd), ((2, [], [.arg 0, .arg 1, .dft (.str [105, 110, 102, 105, 120]), .dft .non]) : Nat × List Str × List Bd)] := hs
    simp only [List.mem_cons, List.not_mem_nil, or_false] at hs
    rcases hs with rfl | rfl | rfl | rfl
    · exact ⟨bg_4_0 (hF 4 d_4 rfl), rfl⟩
    · exact ⟨bg_4_1 (hF 4 d_4 rfl), rfl⟩
    · exact ⟨bg_4_2 (hF 4 d_4 rfl), rfl⟩
    · exact ⟨bg_4_3 (hF 4 d_4 rfl), rfl⟩
  | 5, e =>
    cases e
    intro sh hs
    have hs : sh ∈ [((1, [], [.arg 0]) : Nat × List Str × List Bd)] := hs
    simp only [List.mem_cons, List.not_mem_nil, or_false] at hs
    rcases hs with rfl
    · exact ⟨bg_5_0 (hF 5 d_5 rfl), rfl⟩
  | 6, e =>
    cases e
    intro sh hs
    have hs : sh ∈ [((2, [], [.arg 0, .arg 1]) : Nat × List Str × List Bd)] := hs
    simp only [List.mem_cons, List.not_mem_nil, or_false] at hs
    rcases hs with rfl
    · exact ⟨bg_6_0 (hF 6 d_6 rfl), rfl⟩
  | 7, e =>
    cases e
    intro sh hs
    have hs : sh ∈ [((2, [], [.arg 0, .arg 1]) : Nat × List Str × List Bd)] := hs
    simp only [List.mem_cons, List.not_mem_nil, or_false] at hs
    rcases hs with rfl
    · exact ⟨bg_7_0 (hF 7 d_7 rfl), rfl⟩
  | 8, e =>
    cases e
    intro sh hs
    have hs : sh ∈ [((1, [], [.arg 0]) : Nat × List Str × List Bd), ((0, [("text" : Str)], [.arg 0]) : Nat × List Str × List Bd)] := hs
    simp only [List.mem_cons, List.not_mem_nil, or_false] at hs
    rcases hs with rfl | rfl
    · exact ⟨bg_8_0 (hF 8 d_8 rfl), rfl⟩
    · exact ⟨bg_8_1 (hF 8 d_8 rfl), rfl⟩
  | 9, e =>
    cases e
    intro sh hs
    have hs : sh ∈ [((1, [], [.arg 0]) : Nat × List Str × List Bd)] := hs
    simp only [List.mem_cons, List.not_mem_nil, or_false] at hs
    rcases hs with rfl
    · exact ⟨bg_9_0 (hF 9 d_9 rfl), rfl⟩
  | 10, e =>
    cases e
    intro sh hs
    have hs : sh ∈ [((1, [], [.arg 0]) : Nat × List Str × List Bd)] := hs
    simp only [List.mem_cons, List.not_mem_nil, or_false] at hs
    rcases hs with rfl
    · exact ⟨bg_10_0 (hF 10 d_10 rfl), rfl⟩
  | 11, e =>
    cases e
    intro sh hs
    have hs : sh ∈ [((2, [], [.arg 0, .arg 1]) : Nat × List Str × List Bd)] := hs
    simp only [List.mem_cons, List.not_mem_nil, or_false] at hs
    rcases hs with rfl
    · exact ⟨bg_11_0 (hF 11 d_11 rfl), rfl⟩
  | 12, e =>
    cases e
    intro sh hs
    have hs : sh ∈ [((0, [], []) : Nat × List Str × List Bd)] := hs
    simp only [List.mem_cons, List.not_mem_nil, or_false] at hs
    rcases hs with rfl
    · exact ⟨bg_12_0 (hF 12 d_12 rfl), rfl⟩
  | 13, e =>
    cases e
    intro sh hs
    have hs : sh ∈ [((1, [], [.arg 0]) : Nat × List Str × List Bd)] := hs
    simp only [List.mem_cons, List.not_mem_nil, or_false] at hs
    rcases hs with rfl
    · exact ⟨bg_13_0 (hF 13 d_13 rfl), rfl⟩
  | n + 14, e => simp [fs] at e
theorem tabsOk0 : tabsOk gd tabs := by
  intro i x t e
  match i, e with
  | 0, e => cases e; exact ⟨_, rfl⟩
  | n + 1, e => simp [gd] at e
theorem topsOk : ∀ (i : Nat) (f : Fn), fs[i]? = some f → f.top = true → (f.name, i) ∈ tops := by
  intro i f e ht
  match i, e with
  | 0, e => cases e; simp [tops, f_0]
  | 1, e => cases e; simp [tops, f_1]
  | 2, e => cases e; simp [tops, f_2]
  | 3, e => cases e; simp [tops, f_3]
  | 4, e => cases e; exact absurd ht (by simp [f_4])
  | 5, e => cases e; exact absurd ht (by simp [f_5])
  | 6, e => cases e; simp [tops, f_6]
  | 7, e => cases e; exact absurd ht (by simp [f_7])
  | 8, e => cases e; exact absurd ht (by simp [f_8])
  | 9, e => cases e; simp [tops, f_9]
  | 10, e => cases e; simp [tops, f_10]
  | 11, e => cases e; simp [tops, f_11]
  | 12, e => cases e; simp [tops, f_12]
  | 13, e => cases e; simp [tops, f_13]
  | n + 14, e => simp [fs] at e
theorem facts {Pr : Program} {w : World} {K : PySem.W.Frag} {h : Heap} {mg : Str → Option Value} {f : Addr} (X : K.In h) (G : h.Ns mainGlobals mg) (hfa : mg ("law" : Str) = some (.ref f)) (c : hk0.obs K = hk0.val w) (lv : Nat) :
    ∃ (fd : FuncData) (T : Tb), T.K = K ∧ (∀ (s : Shared) (v : Value), BindsTo s fd ⟨[v], []⟩ [(("_law_script" : Str), v)]) ∧ ∀ base : Heap, K.In base → base.Ns mainGlobals mg → FnOk Pr w K mg base (L2.CX Pr w) lv f fd [("_law_script" : Str)] (spOf T (clN fs gn lv lawIx) 1) := by
  obtain ⟨fdt, Y, hF⟩ := Hk.prF (k := hk0) (fs := fs) X G c ck tabsOk0 topsOk binds (by intro z; cases z)
  have g1 := (Y.fns lawIx f_0 rfl).1 rfl
  have e := hfa.symm.trans g1
  cases e
  refine ⟨fdt lawIx, hk0.tb K fdt, rfl, fun s v => ?_, fun base _ _ => ?_⟩
  · exact FunD.bindsA (ps := [("_law_script" : Str)]) (hF lawIx d_0 rfl) (fun _ _ _ _ _ _ us hl => match us, hl with | [_], _ => rfl) s [v] rfl
  · exact prog_sound (C := hk0.ctx fs) (T := hk0.tb K fdt) Y lv lawIx f_0 rfl
abbrev R : PySem.W.OpenRow := PySem.W.OpenLaw.row PySem.Challenge.rw_pairbinds_k06_groups_told
abbrev hk : PySem.W.Hook := hk0.hook 6
def ob (s : PySem.W.SharedT) : AlM := hk0.obsG 6 (HandSHeadRun.getT s)
theorem ob_eq (s : PySem.W.SharedT) : ob s = hk.obs s.abs := Hk.obsG_eq (HandSHeadRun.getT_eq s)
theorem run (w : World) : HandSHeadRun.RunEq R (PySem.W.view R.prog [lawTop]) hk ob 3000 loose w := by
  rw [Mx.ftW_eq w]
  generalize w.params.followText "special-get-raises" = b
  intro os
  cases b
  · kernel_rfl
  · kernel_rfl
end Lw

namespace Lw
open PySem L2 Mx
section
variable {k : Nat} {c : Cl} {s R : So}
abbrev CL (k : Nat) : Nat → List D → So → Rc := clN fs gn k
theorem dr (k : Nat) : Draws (CL (k + 3)) 11 3 := draws_of (fP := f_11) (fO := f_3) rfl rfl rfl rfl rfl rfl rfl rfl k
theorem sm (k : Nat) : Says (CL (k + 2)) 12 smallL := says_of (f := f_12) rfl rfl rfl rfl k
theorem lett {most : Int} (h0 : 0 < most) (h1 : most < 1000) (B : BagOk c) : COk (CL (k + 4) 2 [.ref 0, .int most] (c :: R)) (BagQ R fun d => ∃ z, d = .str z ∧ 1 ≤ z.length ∧ (z.length : Int) ≤ most ∧ ∀ x ∈ z, x ∈ smallL) :=
  cok_cl (f := f_2) rfl (letters_fn (iP := 11) (iO := 3) (iS := 12) rfl rfl rfl (dr k) (sm (k + 1)) (by decide) (by decide) h0 h1 B)
theorem is_lw {d : D} (h : Plain d) : COk (CL (k + 2) 13 [d] s) (fun x s' => x = .bl (runOf smallL 8 d) ∧ s' = s) := cok_cl (f := f_13) rfl (runB_fn (X := .glo 1) rfl rfl rfl (says_glo rfl) h)
theorem is_let {d : D} (h : Plain d) : COk (CL (k + 3) 10 [d] s) (fun x s' => x = .bl (runOf smallL 8 d) ∧ s' = s) := cok_cl (f := f_10) rfl (runB_fn (X := .call 12 .nil .nil []) rfl rfl rfl (says_call (sm k)) h)
theorem is_nm {d : D} (h : Plain d) : COk (CL (k + 3) 9 [d] s) (fun x s' => x = .bl (runOf smallL 8 d) ∧ s' = s) := by
  refine cok_cl (f := f_9) rfl (cok_fn rfl ?_)
  dsimp only [f_9]
  repeat (first | with_reducible refine ss_cons ?_ | with_reducible refine s_put ?_ | with_reducible refine s_asg ?_ | with_reducible refine s_asgo_lst ?_ | with_reducible refine s_ex ?_ | with_reducible refine s_ret ?_ | with_reducible refine s_iff ?_ | with_reducible refine s_for ?_ | with_reducible refine e_c ?_ | with_reducible refine e_glo ?_ | with_reducible refine e_lst ?_ | with_reducible refine e_tup ?_ | with_reducible refine e_newl ?_ | with_reducible refine e_bin ?_ | with_reducible refine e_cmp ?_ | with_reducible refine e_chn ?_ | with_reducible refine e_isn ?_ | with_reducible refine e_and ?_ | with_reducible refine e_or ?_ | with_reducible refine e_not ?_ | with_reducible refine e_ife ?_ | with_reducible refine e_call ?_ | with_reducible refine e_bi ?_ | with_reducible refine e_mt ?_ | with_reducible refine e_sub ?_ | with_reducible refine e_slc ?_ | with_reducible refine e_isi ?_ | with_reducible refine e_isiT ?_ | with_reducible refine e_lc ?_ | with_reducible refine e_op1 ?_ | with_reducible refine e_opn ?_ | with_reducible refine e_fst ?_ | with_reducible refine es_nil ?_ | with_reducible refine es_cons ?_ | with_reducible refine eo_no ?_ | with_reducible refine eo_yes ?_ | with_reducible refine ei_it ?_ | with_reducible refine ei_rng ?_ | with_reducible refine ei_zip ?_ | with_reducible refine ei_enm ?_ | with_reducible refine t_cmp ?_ | with_reducible refine t_isn ?_ | with_reducible refine t_and ?_ | with_reducible refine t_or ?_ | with_reducible refine t_not ?_ | with_reducible refine t_call ?_ | with_reducible refine t_isi ?_ | with_reducible refine t_isiT ?_ | with_reducible refine t_op1 ?_ | with_reducible refine t_opn ?_ | with_reducible refine o_neg ?_ | with_reducible refine o_fld ?_ | with_reducible refine o_isc ?_ | with_reducible refine o_gdic ?_ | with_reducible refine o_ccon ?_ | with_reducible refine f_nil ?_ | with_reducible refine f_cons ?_ | with_reducible refine s_sfld ?_ | with_reducible refine s_tasg ?_ | with_reducible refine s_uasg ?_ | with_reducible refine ss_nil ?_ | with_reducible refine q_nx ?_ | with_reducible refine q_rt ?_ | with_reducible refine ts_nil ?_ | with_reducible refine lcd ?_ | with_reducible refine o_rt ?_ | with_reducible refine e_var (by with_unfolding_all rfl) ?_ | with_reducible refine t_var (by with_unfolding_all rfl) ?_ | with_reducible refine oo_mod (by omega) ?_ | with_reducible refine oo_fdiv (by omega) ?_ | with_reducible refine oo_mul (by omega) ?_ | with_reducible refine as_b ?_ | with_reducible refine as_i ?_ | with_reducible refine dec_t (by with_unfolding_all rfl) ?_ | with_reducible refine dec_f (by with_unfolding_all rfl) ?_ | with_reducible refine dec_t' (by with_unfolding_all rfl) ?_ | with_reducible refine dec_f' (by with_unfolding_all rfl) ?_ | with_reducible refine put_ok (by with_unfolding_all rfl) (by with_unfolding_all rfl) ?_ | with_reducible refine pg_cl ?_ | with_reducible refine pg_cl1 ?_ | with_reducible refine gd_rfl (by with_unfolding_all rfl) ?_ | with_reducible refine oo (by with_unfolding_all rfl) ?_)
  exact cok_imp (is_lw (k := k) h) fun d s z => z
/-! groups -/
def KI : List Nat := [105, 110, 102, 105, 120]
def KP : List Nat := [112, 114, 101, 102, 105, 120]
def KS : List Nat := [112, 111, 115, 116, 102, 105, 120]
def SL : List Nat := [108, 101, 102, 116]
def SR : List Nat := [114, 105, 103, 104, 116]
def SN : List Nat := [110, 111, 110, 101]
def SM : List Nat := [109, 97, 110, 121]
def SO : List Nat := [111, 110, 99, 101]
def sds (kd : List Nat) : List (List Nat) := if kd = KI then [SL, SR, SN] else [SM, SO]
def usual (kd : List Nat) : List Nat := if kd = KI then SN else SO
def KdOk (kd : List Nat) : Prop := kd = KI ∨ kd = KP ∨ kd = KS
structure GOk (kd sd : List Nat) : Prop where
  k1 : copD .nin (.str kd) (gn.glo 0) = some false
  k2 : ((gn.gd[0]?).bind fun t => t.2.lookup kd) = some (.tup ((sds kd).map .str))
  k3 : copD .nin (.str sd) (.tup ((sds kd).map .str)) = some false
  l1 : kd.length ≤ 20
  l2 : sd.length ≤ 20
  s1 : 32 ∉ kd
  s2 : 32 ∉ sd
theorem gok {kd sd : List Nat} (h : KdOk kd) (h2 : sd ∈ sds kd) : GOk kd sd := by
  rcases h with rfl | rfl | rfl
  · have : sd = SL ∨ sd = SR ∨ sd = SN := by simpa [sds, KI] using h2
    rcases this with rfl | rfl | rfl <;> exact ⟨by decide +kernel, rfl, by decide +kernel, by decide, by decide, by decide, by decide⟩
  · have : sd = SM ∨ sd = SO := by simpa [sds, KI, KP] using h2
    rcases this with rfl | rfl <;> exact ⟨by decide +kernel, rfl, by decide +kernel, by decide, by decide, by decide, by decide⟩
  · have : sd = SM ∨ sd = SO := by simpa [sds, KI, KS] using h2
    rcases this with rfl | rfl <;> exact ⟨by decide +kernel, rfl, by decide +kernel, by decide, by decide, by decide, by decide⟩
theorem usual_in {kd : List Nat} (h : KdOk kd) : usual kd ∈ sds kd ∧ ∀ s, subD s (.tup ((sds kd).map .str)) (.int (-1)) = some (.str (usual kd)) := by
  rcases h with rfl | rfl | rfl <;> exact ⟨by decide, fun s => rfl⟩
def txt (z kd sd : List Nat) : List Nat := (((z ++ [32]) ++ kd) ++ [32]) ++ sd
def flds (z kd sd : List Nat) : List (Str × D) := [(("name" : Str), .str z), (("kind" : Str), .str kd), (("side" : Str), .str sd), (("text" : Str), .str (txt z kd sd))]
def grp (z kd sd : List Nat) : D := .obj 0 [.str z, .str kd, .str sd, .str (txt z kd sd)]
theorem init_tail {p : Pg} {s0 : So} {z kd sd : List Nat} (hp : p.kl = kl) (hpg : p.gd = gn.gd) (hz : z.length ≤ 8) (G : GOk kd sd) : Ok (denSS p (f_4.body.drop 3) [.sh (.ref s0.length), .sh (.str z), .sh (.str kd), .sh (.str sd)] (s0 ++ [.obj 0 []])) (outD fun d s' => d = .non ∧ s' = s0 ++ [.obj 0 (flds z kd sd)]) := by
  have hk : p.kl[0]? = some k_0 := by rw [hp]; rfl
  have hg : ((p.gd[0]?).bind fun t => t.2.lookup kd) = some (.tup ((sds kd).map .str)) := by rw [hpg]; exact G.k2
  dsimp only [f_4, List.drop]
  repeat (first | with_reducible refine ss_cons ?_ | with_reducible refine s_put ?_ | with_reducible refine s_asg ?_ | with_reducible refine s_asgo_lst ?_ | with_reducible refine s_ex ?_ | with_reducible refine s_ret ?_ | with_reducible refine s_iff ?_ | with_reducible refine s_for ?_ | with_reducible refine e_c ?_ | with_reducible refine e_glo ?_ | with_reducible refine e_lst ?_ | with_reducible refine e_tup ?_ | with_reducible refine e_newl ?_ | with_reducible refine e_bin ?_ | with_reducible refine e_cmp ?_ | with_reducible refine e_chn ?_ | with_reducible refine e_isn ?_ | with_reducible refine e_and ?_ | with_reducible refine e_or ?_ | with_reducible refine e_not ?_ | with_reducible refine e_ife ?_ | with_reducible refine e_call ?_ | with_reducible refine e_bi ?_ | with_reducible refine e_mt ?_ | with_reducible refine e_sub ?_ | with_reducible refine e_slc ?_ | with_reducible refine e_isi ?_ | with_reducible refine e_isiT ?_ | with_reducible refine e_lc ?_ | with_reducible refine e_op1 ?_ | with_reducible refine e_opn ?_ | with_reducible refine e_fst ?_ | with_reducible refine es_nil ?_ | with_reducible refine es_cons ?_ | with_reducible refine eo_no ?_ | with_reducible refine eo_yes ?_ | with_reducible refine ei_it ?_ | with_reducible refine ei_rng ?_ | with_reducible refine ei_zip ?_ | with_reducible refine ei_enm ?_ | with_reducible refine t_cmp ?_ | with_reducible refine t_isn ?_ | with_reducible refine t_and ?_ | with_reducible refine t_or ?_ | with_reducible refine t_not ?_ | with_reducible refine t_call ?_ | with_reducible refine t_isi ?_ | with_reducible refine t_isiT ?_ | with_reducible refine t_op1 ?_ | with_reducible refine t_opn ?_ | with_reducible refine o_neg ?_ | with_reducible refine o_fld ?_ | with_reducible refine o_isc ?_ | with_reducible refine o_gdic ?_ | with_reducible refine o_ccon ?_ | with_reducible refine f_nil ?_ | with_reducible refine f_cons ?_ | with_reducible refine s_sfld ?_ | with_reducible refine s_tasg ?_ | with_reducible refine s_uasg ?_ | with_reducible refine ss_nil ?_ | with_reducible refine q_nx ?_ | with_reducible refine q_rt ?_ | with_reducible refine ts_nil ?_ | with_reducible refine lcd ?_ | with_reducible refine o_rt ?_ | with_reducible refine e_var (by with_unfolding_all rfl) ?_ | with_reducible refine t_var (by with_unfolding_all rfl) ?_ | with_reducible refine oo_mod (by omega) ?_ | with_reducible refine oo_fdiv (by omega) ?_ | with_reducible refine oo_mul (by omega) ?_ | with_reducible refine as_b ?_ | with_reducible refine as_i ?_ | with_reducible refine dec_t (by with_unfolding_all rfl) ?_ | with_reducible refine dec_f (by with_unfolding_all rfl) ?_ | with_reducible refine dec_t' (by with_unfolding_all rfl) ?_ | with_reducible refine dec_f' (by with_unfolding_all rfl) ?_ | with_reducible refine put_ok (by with_unfolding_all rfl) (by with_unfolding_all rfl) ?_ | with_reducible refine pg_cl ?_ | with_reducible refine pg_cl1 ?_ | with_reducible refine gd_rfl (by with_unfolding_all rfl) ?_ | with_reducible refine oo (by with_unfolding_all rfl) ?_)
  refine oo hg ?_
  refine oo (a := false) G.k3 ?_
  repeat (first | with_reducible refine ss_cons ?_ | with_reducible refine s_put ?_ | with_reducible refine s_asg ?_ | with_reducible refine s_asgo_lst ?_ | with_reducible refine s_ex ?_ | with_reducible refine s_ret ?_ | with_reducible refine s_iff ?_ | with_reducible refine s_for ?_ | with_reducible refine e_c ?_ | with_reducible refine e_glo ?_ | with_reducible refine e_lst ?_ | with_reducible refine e_tup ?_ | with_reducible refine e_newl ?_ | with_reducible refine e_bin ?_ | with_reducible refine e_cmp ?_ | with_reducible refine e_chn ?_ | with_reducible refine e_isn ?_ | with_reducible refine e_and ?_ | with_reducible refine e_or ?_ | with_reducible refine e_not ?_ | with_reducible refine e_ife ?_ | with_reducible refine e_call ?_ | with_reducible refine e_bi ?_ | with_reducible refine e_mt ?_ | with_reducible refine e_sub ?_ | with_reducible refine e_slc ?_ | with_reducible refine e_isi ?_ | with_reducible refine e_isiT ?_ | with_reducible refine e_lc ?_ | with_reducible refine e_op1 ?_ | with_reducible refine e_opn ?_ | with_reducible refine e_fst ?_ | with_reducible refine es_nil ?_ | with_reducible refine es_cons ?_ | with_reducible refine eo_no ?_ | with_reducible refine eo_yes ?_ | with_reducible refine ei_it ?_ | with_reducible refine ei_rng ?_ | with_reducible refine ei_zip ?_ | with_reducible refine ei_enm ?_ | with_reducible refine t_cmp ?_ | with_reducible refine t_isn ?_ | with_reducible refine t_and ?_ | with_reducible refine t_or ?_ | with_reducible refine t_not ?_ | with_reducible refine t_call ?_ | with_reducible refine t_isi ?_ | with_reducible refine t_isiT ?_ | with_reducible refine t_op1 ?_ | with_reducible refine t_opn ?_ | with_reducible refine o_neg ?_ | with_reducible refine o_fld ?_ | with_reducible refine o_isc ?_ | with_reducible refine o_gdic ?_ | with_reducible refine o_ccon ?_ | with_reducible refine f_nil ?_ | with_reducible refine f_cons ?_ | with_reducible refine s_sfld ?_ | with_reducible refine s_tasg ?_ | with_reducible refine s_uasg ?_ | with_reducible refine ss_nil ?_ | with_reducible refine q_nx ?_ | with_reducible refine q_rt ?_ | with_reducible refine ts_nil ?_ | with_reducible refine lcd ?_ | with_reducible refine o_rt ?_ | with_reducible refine e_var (by with_unfolding_all rfl) ?_ | with_reducible refine t_var (by with_unfolding_all rfl) ?_ | with_reducible refine oo_mod (by omega) ?_ | with_reducible refine oo_fdiv (by omega) ?_ | with_reducible refine oo_mul (by omega) ?_ | with_reducible refine as_b ?_ | with_reducible refine as_i ?_ | with_reducible refine dec_t (by with_unfolding_all rfl) ?_ | with_reducible refine dec_f (by with_unfolding_all rfl) ?_ | with_reducible refine dec_t' (by with_unfolding_all rfl) ?_ | with_reducible refine dec_f' (by with_unfolding_all rfl) ?_ | with_reducible refine put_ok (by with_unfolding_all rfl) (by with_unfolding_all rfl) ?_ | with_reducible refine pg_cl ?_ | with_reducible refine pg_cl1 ?_ | with_reducible refine gd_rfl (by with_unfolding_all rfl) ?_ | with_reducible refine oo (by with_unfolding_all rfl) ?_)
  refine sfld_last hk rfl ?_
  repeat (first | with_reducible refine ss_cons ?_ | with_reducible refine s_put ?_ | with_reducible refine s_asg ?_ | with_reducible refine s_asgo_lst ?_ | with_reducible refine s_ex ?_ | with_reducible refine s_ret ?_ | with_reducible refine s_iff ?_ | with_reducible refine s_for ?_ | with_reducible refine e_c ?_ | with_reducible refine e_glo ?_ | with_reducible refine e_lst ?_ | with_reducible refine e_tup ?_ | with_reducible refine e_newl ?_ | with_reducible refine e_bin ?_ | with_reducible refine e_cmp ?_ | with_reducible refine e_chn ?_ | with_reducible refine e_isn ?_ | with_reducible refine e_and ?_ | with_reducible refine e_or ?_ | with_reducible refine e_not ?_ | with_reducible refine e_ife ?_ | with_reducible refine e_call ?_ | with_reducible refine e_bi ?_ | with_reducible refine e_mt ?_ | with_reducible refine e_sub ?_ | with_reducible refine e_slc ?_ | with_reducible refine e_isi ?_ | with_reducible refine e_isiT ?_ | with_reducible refine e_lc ?_ | with_reducible refine e_op1 ?_ | with_reducible refine e_opn ?_ | with_reducible refine e_fst ?_ | with_reducible refine es_nil ?_ | with_reducible refine es_cons ?_ | with_reducible refine eo_no ?_ | with_reducible refine eo_yes ?_ | with_reducible refine ei_it ?_ | with_reducible refine ei_rng ?_ | with_reducible refine ei_zip ?_ | with_reducible refine ei_enm ?_ | with_reducible refine t_cmp ?_ | with_reducible refine t_isn ?_ | with_reducible refine t_and ?_ | with_reducible refine t_or ?_ | with_reducible refine t_not ?_ | with_reducible refine t_call ?_ | with_reducible refine t_isi ?_ | with_reducible refine t_isiT ?_ | with_reducible refine t_op1 ?_ | with_reducible refine t_opn ?_ | with_reducible refine o_neg ?_ | with_reducible refine o_fld ?_ | with_reducible refine o_isc ?_ | with_reducible refine o_gdic ?_ | with_reducible refine o_ccon ?_ | with_reducible refine f_nil ?_ | with_reducible refine f_cons ?_ | with_reducible refine s_sfld ?_ | with_reducible refine s_tasg ?_ | with_reducible refine s_uasg ?_ | with_reducible refine ss_nil ?_ | with_reducible refine q_nx ?_ | with_reducible refine q_rt ?_ | with_reducible refine ts_nil ?_ | with_reducible refine lcd ?_ | with_reducible refine o_rt ?_ | with_reducible refine e_var (by with_unfolding_all rfl) ?_ | with_reducible refine t_var (by with_unfolding_all rfl) ?_ | with_reducible refine oo_mod (by omega) ?_ | with_reducible refine oo_fdiv (by omega) ?_ | with_reducible refine oo_mul (by omega) ?_ | with_reducible refine as_b ?_ | with_reducible refine as_i ?_ | with_reducible refine dec_t (by with_unfolding_all rfl) ?_ | with_reducible refine dec_f (by with_unfolding_all rfl) ?_ | with_reducible refine dec_t' (by with_unfolding_all rfl) ?_ | with_reducible refine dec_f' (by with_unfolding_all rfl) ?_ | with_reducible refine put_ok (by with_unfolding_all rfl) (by with_unfolding_all rfl) ?_ | with_reducible refine pg_cl ?_ | with_reducible refine pg_cl1 ?_ | with_reducible refine gd_rfl (by with_unfolding_all rfl) ?_ | with_reducible refine oo (by with_unfolding_all rfl) ?_)
  refine sfld_last hk rfl ?_
  repeat (first | with_reducible refine ss_cons ?_ | with_reducible refine s_put ?_ | with_reducible refine s_asg ?_ | with_reducible refine s_asgo_lst ?_ | with_reducible refine s_ex ?_ | with_reducible refine s_ret ?_ | with_reducible refine s_iff ?_ | with_reducible refine s_for ?_ | with_reducible refine e_c ?_ | with_reducible refine e_glo ?_ | with_reducible refine e_lst ?_ | with_reducible refine e_tup ?_ | with_reducible refine e_newl ?_ | with_reducible refine e_bin ?_ | with_reducible refine e_cmp ?_ | with_reducible refine e_chn ?_ | with_reducible refine e_isn ?_ | with_reducible refine e_and ?_ | with_reducible refine e_or ?_ | with_reducible refine e_not ?_ | with_reducible refine e_ife ?_ | with_reducible refine e_call ?_ | with_reducible refine e_bi ?_ | with_reducible refine e_mt ?_ | with_reducible refine e_sub ?_ | with_reducible refine e_slc ?_ | with_reducible refine e_isi ?_ | with_reducible refine e_isiT ?_ | with_reducible refine e_lc ?_ | with_reducible refine e_op1 ?_ | with_reducible refine e_opn ?_ | with_reducible refine e_fst ?_ | with_reducible refine es_nil ?_ | with_reducible refine es_cons ?_ | with_reducible refine eo_no ?_ | with_reducible refine eo_yes ?_ | with_reducible refine ei_it ?_ | with_reducible refine ei_rng ?_ | with_reducible refine ei_zip ?_ | with_reducible refine ei_enm ?_ | with_reducible refine t_cmp ?_ | with_reducible refine t_isn ?_ | with_reducible refine t_and ?_ | with_reducible refine t_or ?_ | with_reducible refine t_not ?_ | with_reducible refine t_call ?_ | with_reducible refine t_isi ?_ | with_reducible refine t_isiT ?_ | with_reducible refine t_op1 ?_ | with_reducible refine t_opn ?_ | with_reducible refine o_neg ?_ | with_reducible refine o_fld ?_ | with_reducible refine o_isc ?_ | with_reducible refine o_gdic ?_ | with_reducible refine o_ccon ?_ | with_reducible refine f_nil ?_ | with_reducible refine f_cons ?_ | with_reducible refine s_sfld ?_ | with_reducible refine s_tasg ?_ | with_reducible refine s_uasg ?_ | with_reducible refine ss_nil ?_ | with_reducible refine q_nx ?_ | with_reducible refine q_rt ?_ | with_reducible refine ts_nil ?_ | with_reducible refine lcd ?_ | with_reducible refine o_rt ?_ | with_reducible refine e_var (by with_unfolding_all rfl) ?_ | with_reducible refine t_var (by with_unfolding_all rfl) ?_ | with_reducible refine oo_mod (by omega) ?_ | with_reducible refine oo_fdiv (by omega) ?_ | with_reducible refine oo_mul (by omega) ?_ | with_reducible refine as_b ?_ | with_reducible refine as_i ?_ | with_reducible refine dec_t (by with_unfolding_all rfl) ?_ | with_reducible refine dec_f (by with_unfolding_all rfl) ?_ | with_reducible refine dec_t' (by with_unfolding_all rfl) ?_ | with_reducible refine dec_f' (by with_unfolding_all rfl) ?_ | with_reducible refine put_ok (by with_unfolding_all rfl) (by with_unfolding_all rfl) ?_ | with_reducible refine pg_cl ?_ | with_reducible refine pg_cl1 ?_ | with_reducible refine gd_rfl (by with_unfolding_all rfl) ?_ | with_reducible refine oo (by with_unfolding_all rfl) ?_)
  refine sfld_last hk rfl ?_
  repeat (first | with_reducible refine ss_cons ?_ | with_reducible refine s_put ?_ | with_reducible refine s_asg ?_ | with_reducible refine s_asgo_lst ?_ | with_reducible refine s_ex ?_ | with_reducible refine s_ret ?_ | with_reducible refine s_iff ?_ | with_reducible refine s_for ?_ | with_reducible refine e_c ?_ | with_reducible refine e_glo ?_ | with_reducible refine e_lst ?_ | with_reducible refine e_tup ?_ | with_reducible refine e_newl ?_ | with_reducible refine e_bin ?_ | with_reducible refine e_cmp ?_ | with_reducible refine e_chn ?_ | with_reducible refine e_isn ?_ | with_reducible refine e_and ?_ | with_reducible refine e_or ?_ | with_reducible refine e_not ?_ | with_reducible refine e_ife ?_ | with_reducible refine e_call ?_ | with_reducible refine e_bi ?_ | with_reducible refine e_mt ?_ | with_reducible refine e_sub ?_ | with_reducible refine e_slc ?_ | with_reducible refine e_isi ?_ | with_reducible refine e_isiT ?_ | with_reducible refine e_lc ?_ | with_reducible refine e_op1 ?_ | with_reducible refine e_opn ?_ | with_reducible refine e_fst ?_ | with_reducible refine es_nil ?_ | with_reducible refine es_cons ?_ | with_reducible refine eo_no ?_ | with_reducible refine eo_yes ?_ | with_reducible refine ei_it ?_ | with_reducible refine ei_rng ?_ | with_reducible refine ei_zip ?_ | with_reducible refine ei_enm ?_ | with_reducible refine t_cmp ?_ | with_reducible refine t_isn ?_ | with_reducible refine t_and ?_ | with_reducible refine t_or ?_ | with_reducible refine t_not ?_ | with_reducible refine t_call ?_ | with_reducible refine t_isi ?_ | with_reducible refine t_isiT ?_ | with_reducible refine t_op1 ?_ | with_reducible refine t_opn ?_ | with_reducible refine o_neg ?_ | with_reducible refine o_fld ?_ | with_reducible refine o_isc ?_ | with_reducible refine o_gdic ?_ | with_reducible refine o_ccon ?_ | with_reducible refine f_nil ?_ | with_reducible refine f_cons ?_ | with_reducible refine s_sfld ?_ | with_reducible refine s_tasg ?_ | with_reducible refine s_uasg ?_ | with_reducible refine ss_nil ?_ | with_reducible refine q_nx ?_ | with_reducible refine q_rt ?_ | with_reducible refine ts_nil ?_ | with_reducible refine lcd ?_ | with_reducible refine o_rt ?_ | with_reducible refine e_var (by with_unfolding_all rfl) ?_ | with_reducible refine t_var (by with_unfolding_all rfl) ?_ | with_reducible refine oo_mod (by omega) ?_ | with_reducible refine oo_fdiv (by omega) ?_ | with_reducible refine oo_mul (by omega) ?_ | with_reducible refine as_b ?_ | with_reducible refine as_i ?_ | with_reducible refine dec_t (by with_unfolding_all rfl) ?_ | with_reducible refine dec_f (by with_unfolding_all rfl) ?_ | with_reducible refine dec_t' (by with_unfolding_all rfl) ?_ | with_reducible refine dec_f' (by with_unfolding_all rfl) ?_ | with_reducible refine put_ok (by with_unfolding_all rfl) (by with_unfolding_all rfl) ?_ | with_reducible refine pg_cl ?_ | with_reducible refine pg_cl1 ?_ | with_reducible refine gd_rfl (by with_unfolding_all rfl) ?_ | with_reducible refine oo (by with_unfolding_all rfl) ?_)
  have l1 := G.l1
  have l2 := G.l2
  refine ⟨_, rfl, by show _ ≤ 16777216; simp; omega, ?_⟩
  repeat (first | with_reducible refine ss_cons ?_ | with_reducible refine s_put ?_ | with_reducible refine s_asg ?_ | with_reducible refine s_asgo_lst ?_ | with_reducible refine s_ex ?_ | with_reducible refine s_ret ?_ | with_reducible refine s_iff ?_ | with_reducible refine s_for ?_ | with_reducible refine e_c ?_ | with_reducible refine e_glo ?_ | with_reducible refine e_lst ?_ | with_reducible refine e_tup ?_ | with_reducible refine e_newl ?_ | with_reducible refine e_bin ?_ | with_reducible refine e_cmp ?_ | with_reducible refine e_chn ?_ | with_reducible refine e_isn ?_ | with_reducible refine e_and ?_ | with_reducible refine e_or ?_ | with_reducible refine e_not ?_ | with_reducible refine e_ife ?_ | with_reducible refine e_call ?_ | with_reducible refine e_bi ?_ | with_reducible refine e_mt ?_ | with_reducible refine e_sub ?_ | with_reducible refine e_slc ?_ | with_reducible refine e_isi ?_ | with_reducible refine e_isiT ?_ | with_reducible refine e_lc ?_ | with_reducible refine e_op1 ?_ | with_reducible refine e_opn ?_ | with_reducible refine e_fst ?_ | with_reducible refine es_nil ?_ | with_reducible refine es_cons ?_ | with_reducible refine eo_no ?_ | with_reducible refine eo_yes ?_ | with_reducible refine ei_it ?_ | with_reducible refine ei_rng ?_ | with_reducible refine ei_zip ?_ | with_reducible refine ei_enm ?_ | with_reducible refine t_cmp ?_ | with_reducible refine t_isn ?_ | with_reducible refine t_and ?_ | with_reducible refine t_or ?_ | with_reducible refine t_not ?_ | with_reducible refine t_call ?_ | with_reducible refine t_isi ?_ | with_reducible refine t_isiT ?_ | with_reducible refine t_op1 ?_ | with_reducible refine t_opn ?_ | with_reducible refine o_neg ?_ | with_reducible refine o_fld ?_ | with_reducible refine o_isc ?_ | with_reducible refine o_gdic ?_ | with_reducible refine o_ccon ?_ | with_reducible refine f_nil ?_ | with_reducible refine f_cons ?_ | with_reducible refine s_sfld ?_ | with_reducible refine s_tasg ?_ | with_reducible refine s_uasg ?_ | with_reducible refine ss_nil ?_ | with_reducible refine q_nx ?_ | with_reducible refine q_rt ?_ | with_reducible refine ts_nil ?_ | with_reducible refine lcd ?_ | with_reducible refine o_rt ?_ | with_reducible refine e_var (by with_unfolding_all rfl) ?_ | with_reducible refine t_var (by with_unfolding_all rfl) ?_ | with_reducible refine oo_mod (by omega) ?_ | with_reducible refine oo_fdiv (by omega) ?_ | with_reducible refine oo_mul (by omega) ?_ | with_reducible refine as_b ?_ | with_reducible refine as_i ?_ | with_reducible refine dec_t (by with_unfolding_all rfl) ?_ | with_reducible refine dec_f (by with_unfolding_all rfl) ?_ | with_reducible refine dec_t' (by with_unfolding_all rfl) ?_ | with_reducible refine dec_f' (by with_unfolding_all rfl) ?_ | with_reducible refine put_ok (by with_unfolding_all rfl) (by with_unfolding_all rfl) ?_ | with_reducible refine pg_cl ?_ | with_reducible refine pg_cl1 ?_ | with_reducible refine gd_rfl (by with_unfolding_all rfl) ?_ | with_reducible refine oo (by with_unfolding_all rfl) ?_)
  refine ⟨_, rfl, by show _ ≤ 16777216; simp; omega, ?_⟩
  repeat (first | with_reducible refine ss_cons ?_ | with_reducible refine s_put ?_ | with_reducible refine s_asg ?_ | with_reducible refine s_asgo_lst ?_ | with_reducible refine s_ex ?_ | with_reducible refine s_ret ?_ | with_reducible refine s_iff ?_ | with_reducible refine s_for ?_ | with_reducible refine e_c ?_ | with_reducible refine e_glo ?_ | with_reducible refine e_lst ?_ | with_reducible refine e_tup ?_ | with_reducible refine e_newl ?_ | with_reducible refine e_bin ?_ | with_reducible refine e_cmp ?_ | with_reducible refine e_chn ?_ | with_reducible refine e_isn ?_ | with_reducible refine e_and ?_ | with_reducible refine e_or ?_ | with_reducible refine e_not ?_ | with_reducible refine e_ife ?_ | with_reducible refine e_call ?_ | with_reducible refine e_bi ?_ | with_reducible refine e_mt ?_ | with_reducible refine e_sub ?_ | with_reducible refine e_slc ?_ | with_reducible refine e_isi ?_ | with_reducible refine e_isiT ?_ | with_reducible refine e_lc ?_ | with_reducible refine e_op1 ?_ | with_reducible refine e_opn ?_ | with_reducible refine e_fst ?_ | with_reducible refine es_nil ?_ | with_reducible refine es_cons ?_ | with_reducible refine eo_no ?_ | with_reducible refine eo_yes ?_ | with_reducible refine ei_it ?_ | with_reducible refine ei_rng ?_ | with_reducible refine ei_zip ?_ | with_reducible refine ei_enm ?_ | with_reducible refine t_cmp ?_ | with_reducible refine t_isn ?_ | with_reducible refine t_and ?_ | with_reducible refine t_or ?_ | with_reducible refine t_not ?_ | with_reducible refine t_call ?_ | with_reducible refine t_isi ?_ | with_reducible refine t_isiT ?_ | with_reducible refine t_op1 ?_ | with_reducible refine t_opn ?_ | with_reducible refine o_neg ?_ | with_reducible refine o_fld ?_ | with_reducible refine o_isc ?_ | with_reducible refine o_gdic ?_ | with_reducible refine o_ccon ?_ | with_reducible refine f_nil ?_ | with_reducible refine f_cons ?_ | with_reducible refine s_sfld ?_ | with_reducible refine s_tasg ?_ | with_reducible refine s_uasg ?_ | with_reducible refine ss_nil ?_ | with_reducible refine q_nx ?_ | with_reducible refine q_rt ?_ | with_reducible refine ts_nil ?_ | with_reducible refine lcd ?_ | with_reducible refine o_rt ?_ | with_reducible refine e_var (by with_unfolding_all rfl) ?_ | with_reducible refine t_var (by with_unfolding_all rfl) ?_ | with_reducible refine oo_mod (by omega) ?_ | with_reducible refine oo_fdiv (by omega) ?_ | with_reducible refine oo_mul (by omega) ?_ | with_reducible refine as_b ?_ | with_reducible refine as_i ?_ | with_reducible refine dec_t (by with_unfolding_all rfl) ?_ | with_reducible refine dec_f (by with_unfolding_all rfl) ?_ | with_reducible refine dec_t' (by with_unfolding_all rfl) ?_ | with_reducible refine dec_f' (by with_unfolding_all rfl) ?_ | with_reducible refine put_ok (by with_unfolding_all rfl) (by with_unfolding_all rfl) ?_ | with_reducible refine pg_cl ?_ | with_reducible refine pg_cl1 ?_ | with_reducible refine gd_rfl (by with_unfolding_all rfl) ?_ | with_reducible refine oo (by with_unfolding_all rfl) ?_)
  refine ⟨_, rfl, by show _ ≤ 16777216; simp; omega, ?_⟩
  repeat (first | with_reducible refine ss_cons ?_ | with_reducible refine s_put ?_ | with_reducible refine s_asg ?_ | with_reducible refine s_asgo_lst ?_ | with_reducible refine s_ex ?_ | with_reducible refine s_ret ?_ | with_reducible refine s_iff ?_ | with_reducible refine s_for ?_ | with_reducible refine e_c ?_ | with_reducible refine e_glo ?_ | with_reducible refine e_lst ?_ | with_reducible refine e_tup ?_ | with_reducible refine e_newl ?_ | with_reducible refine e_bin ?_ | with_reducible refine e_cmp ?_ | with_reducible refine e_chn ?_ | with_reducible refine e_isn ?_ | with_reducible refine e_and ?_ | with_reducible refine e_or ?_ | with_reducible refine e_not ?_ | with_reducible refine e_ife ?_ | with_reducible refine e_call ?_ | with_reducible refine e_bi ?_ | with_reducible refine e_mt ?_ | with_reducible refine e_sub ?_ | with_reducible refine e_slc ?_ | with_reducible refine e_isi ?_ | with_reducible refine e_isiT ?_ | with_reducible refine e_lc ?_ | with_reducible refine e_op1 ?_ | with_reducible refine e_opn ?_ | with_reducible refine e_fst ?_ | with_reducible refine es_nil ?_ | with_reducible refine es_cons ?_ | with_reducible refine eo_no ?_ | with_reducible refine eo_yes ?_ | with_reducible refine ei_it ?_ | with_reducible refine ei_rng ?_ | with_reducible refine ei_zip ?_ | with_reducible refine ei_enm ?_ | with_reducible refine t_cmp ?_ | with_reducible refine t_isn ?_ | with_reducible refine t_and ?_ | with_reducible refine t_or ?_ | with_reducible refine t_not ?_ | with_reducible refine t_call ?_ | with_reducible refine t_isi ?_ | with_reducible refine t_isiT ?_ | with_reducible refine t_op1 ?_ | with_reducible refine t_opn ?_ | with_reducible refine o_neg ?_ | with_reducible refine o_fld ?_ | with_reducible refine o_isc ?_ | with_reducible refine o_gdic ?_ | with_reducible refine o_ccon ?_ | with_reducible refine f_nil ?_ | with_reducible refine f_cons ?_ | with_reducible refine s_sfld ?_ | with_reducible refine s_tasg ?_ | with_reducible refine s_uasg ?_ | with_reducible refine ss_nil ?_ | with_reducible refine q_nx ?_ | with_reducible refine q_rt ?_ | with_reducible refine ts_nil ?_ | with_reducible refine lcd ?_ | with_reducible refine o_rt ?_ | with_reducible refine e_var (by with_unfolding_all rfl) ?_ | with_reducible refine t_var (by with_unfolding_all rfl) ?_ | with_reducible refine oo_mod (by omega) ?_ | with_reducible refine oo_fdiv (by omega) ?_ | with_reducible refine oo_mul (by omega) ?_ | with_reducible refine as_b ?_ | with_reducible refine as_i ?_ | with_reducible refine dec_t (by with_unfolding_all rfl) ?_ | with_reducible refine dec_f (by with_unfolding_all rfl) ?_ | with_reducible refine dec_t' (by with_unfolding_all rfl) ?_ | with_reducible refine dec_f' (by with_unfolding_all rfl) ?_ | with_reducible refine put_ok (by with_unfolding_all rfl) (by with_unfolding_all rfl) ?_ | with_reducible refine pg_cl ?_ | with_reducible refine pg_cl1 ?_ | with_reducible refine gd_rfl (by with_unfolding_all rfl) ?_ | with_reducible refine oo (by with_unfolding_all rfl) ?_)
  refine ⟨_, rfl, by show _ ≤ 16777216; simp; omega, ?_⟩
  repeat (first | with_reducible refine ss_cons ?_ | with_reducible refine s_put ?_ | with_reducible refine s_asg ?_ | with_reducible refine s_asgo_lst ?_ | with_reducible refine s_ex ?_ | with_reducible refine s_ret ?_ | with_reducible refine s_iff ?_ | with_reducible refine s_for ?_ | with_reducible refine e_c ?_ | with_reducible refine e_glo ?_ | with_reducible refine e_lst ?_ | with_reducible refine e_tup ?_ | with_reducible refine e_newl ?_ | with_reducible refine e_bin ?_ | with_reducible refine e_cmp ?_ | with_reducible refine e_chn ?_ | with_reducible refine e_isn ?_ | with_reducible refine e_and ?_ | with_reducible refine e_or ?_ | with_reducible refine e_not ?_ | with_reducible refine e_ife ?_ | with_reducible refine e_call ?_ | with_reducible refine e_bi ?_ | with_reducible refine e_mt ?_ | with_reducible refine e_sub ?_ | with_reducible refine e_slc ?_ | with_reducible refine e_isi ?_ | with_reducible refine e_isiT ?_ | with_reducible refine e_lc ?_ | with_reducible refine e_op1 ?_ | with_reducible refine e_opn ?_ | with_reducible refine e_fst ?_ | with_reducible refine es_nil ?_ | with_reducible refine es_cons ?_ | with_reducible refine eo_no ?_ | with_reducible refine eo_yes ?_ | with_reducible refine ei_it ?_ | with_reducible refine ei_rng ?_ | with_reducible refine ei_zip ?_ | with_reducible refine ei_enm ?_ | with_reducible refine t_cmp ?_ | with_reducible refine t_isn ?_ | with_reducible refine t_and ?_ | with_reducible refine t_or ?_ | with_reducible refine t_not ?_ | with_reducible refine t_call ?_ | with_reducible refine t_isi ?_ | with_reducible refine t_isiT ?_ | with_reducible refine t_op1 ?_ | with_reducible refine t_opn ?_ | with_reducible refine o_neg ?_ | with_reducible refine o_fld ?_ | with_reducible refine o_isc ?_ | with_reducible refine o_gdic ?_ | with_reducible refine o_ccon ?_ | with_reducible refine f_nil ?_ | with_reducible refine f_cons ?_ | with_reducible refine s_sfld ?_ | with_reducible refine s_tasg ?_ | with_reducible refine s_uasg ?_ | with_reducible refine ss_nil ?_ | with_reducible refine q_nx ?_ | with_reducible refine q_rt ?_ | with_reducible refine ts_nil ?_ | with_reducible refine lcd ?_ | with_reducible refine o_rt ?_ | with_reducible refine e_var (by with_unfolding_all rfl) ?_ | with_reducible refine t_var (by with_unfolding_all rfl) ?_ | with_reducible refine oo_mod (by omega) ?_ | with_reducible refine oo_fdiv (by omega) ?_ | with_reducible refine oo_mul (by omega) ?_ | with_reducible refine as_b ?_ | with_reducible refine as_i ?_ | with_reducible refine dec_t (by with_unfolding_all rfl) ?_ | with_reducible refine dec_f (by with_unfolding_all rfl) ?_ | with_reducible refine dec_t' (by with_unfolding_all rfl) ?_ | with_reducible refine dec_f' (by with_unfolding_all rfl) ?_ | with_reducible refine put_ok (by with_unfolding_all rfl) (by with_unfolding_all rfl) ?_ | with_reducible refine pg_cl ?_ | with_reducible refine pg_cl1 ?_ | with_reducible refine gd_rfl (by with_unfolding_all rfl) ?_ | with_reducible refine oo (by with_unfolding_all rfl) ?_)
  refine ⟨_, rfl, by show _ ≤ 16777216; simp; omega, ?_⟩
  repeat (first | with_reducible refine ss_cons ?_ | with_reducible refine s_put ?_ | with_reducible refine s_asg ?_ | with_reducible refine s_asgo_lst ?_ | with_reducible refine s_ex ?_ | with_reducible refine s_ret ?_ | with_reducible refine s_iff ?_ | with_reducible refine s_for ?_ | with_reducible refine e_c ?_ | with_reducible refine e_glo ?_ | with_reducible refine e_lst ?_ | with_reducible refine e_tup ?_ | with_reducible refine e_newl ?_ | with_reducible refine e_bin ?_ | with_reducible refine e_cmp ?_ | with_reducible refine e_chn ?_ | with_reducible refine e_isn ?_ | with_reducible refine e_and ?_ | with_reducible refine e_or ?_ | with_reducible refine e_not ?_ | with_reducible refine e_ife ?_ | with_reducible refine e_call ?_ | with_reducible refine e_bi ?_ | with_reducible refine e_mt ?_ | with_reducible refine e_sub ?_ | with_reducible refine e_slc ?_ | with_reducible refine e_isi ?_ | with_reducible refine e_isiT ?_ | with_reducible refine e_lc ?_ | with_reducible refine e_op1 ?_ | with_reducible refine e_opn ?_ | with_reducible refine e_fst ?_ | with_reducible refine es_nil ?_ | with_reducible refine es_cons ?_ | with_reducible refine eo_no ?_ | with_reducible refine eo_yes ?_ | with_reducible refine ei_it ?_ | with_reducible refine ei_rng ?_ | with_reducible refine ei_zip ?_ | with_reducible refine ei_enm ?_ | with_reducible refine t_cmp ?_ | with_reducible refine t_isn ?_ | with_reducible refine t_and ?_ | with_reducible refine t_or ?_ | with_reducible refine t_not ?_ | with_reducible refine t_call ?_ | with_reducible refine t_isi ?_ | with_reducible refine t_isiT ?_ | with_reducible refine t_op1 ?_ | with_reducible refine t_opn ?_ | with_reducible refine o_neg ?_ | with_reducible refine o_fld ?_ | with_reducible refine o_isc ?_ | with_reducible refine o_gdic ?_ | with_reducible refine o_ccon ?_ | with_reducible refine f_nil ?_ | with_reducible refine f_cons ?_ | with_reducible refine s_sfld ?_ | with_reducible refine s_tasg ?_ | with_reducible refine s_uasg ?_ | with_reducible refine ss_nil ?_ | with_reducible refine q_nx ?_ | with_reducible refine q_rt ?_ | with_reducible refine ts_nil ?_ | with_reducible refine lcd ?_ | with_reducible refine o_rt ?_ | with_reducible refine e_var (by with_unfolding_all rfl) ?_ | with_reducible refine t_var (by with_unfolding_all rfl) ?_ | with_reducible refine oo_mod (by omega) ?_ | with_reducible refine oo_fdiv (by omega) ?_ | with_reducible refine oo_mul (by omega) ?_ | with_reducible refine as_b ?_ | with_reducible refine as_i ?_ | with_reducible refine dec_t (by with_unfolding_all rfl) ?_ | with_reducible refine dec_f (by with_unfolding_all rfl) ?_ | with_reducible refine dec_t' (by with_unfolding_all rfl) ?_ | with_reducible refine dec_f' (by with_unfolding_all rfl) ?_ | with_reducible refine put_ok (by with_unfolding_all rfl) (by with_unfolding_all rfl) ?_ | with_reducible refine pg_cl ?_ | with_reducible refine pg_cl1 ?_ | with_reducible refine gd_rfl (by with_unfolding_all rfl) ?_ | with_reducible refine oo (by with_unfolding_all rfl) ?_)
  refine sfld_last hk rfl ?_
  repeat (first | with_reducible refine ss_cons ?_ | with_reducible refine s_put ?_ | with_reducible refine s_asg ?_ | with_reducible refine s_asgo_lst ?_ | with_reducible refine s_ex ?_ | with_reducible refine s_ret ?_ | with_reducible refine s_iff ?_ | with_reducible refine s_for ?_ | with_reducible refine e_c ?_ | with_reducible refine e_glo ?_ | with_reducible refine e_lst ?_ | with_reducible refine e_tup ?_ | with_reducible refine e_newl ?_ | with_reducible refine e_bin ?_ | with_reducible refine e_cmp ?_ | with_reducible refine e_chn ?_ | with_reducible refine e_isn ?_ | with_reducible refine e_and ?_ | with_reducible refine e_or ?_ | with_reducible refine e_not ?_ | with_reducible refine e_ife ?_ | with_reducible refine e_call ?_ | with_reducible refine e_bi ?_ | with_reducible refine e_mt ?_ | with_reducible refine e_sub ?_ | with_reducible refine e_slc ?_ | with_reducible refine e_isi ?_ | with_reducible refine e_isiT ?_ | with_reducible refine e_lc ?_ | with_reducible refine e_op1 ?_ | with_reducible refine e_opn ?_ | with_reducible refine e_fst ?_ | with_reducible refine es_nil ?_ | with_reducible refine es_cons ?_ | with_reducible refine eo_no ?_ | with_reducible refine eo_yes ?_ | with_reducible refine ei_it ?_ | with_reducible refine ei_rng ?_ | with_reducible refine ei_zip ?_ | with_reducible refine ei_enm ?_ | with_reducible refine t_cmp ?_ | with_reducible refine t_isn ?_ | with_reducible refine t_and ?_ | with_reducible refine t_or ?_ | with_reducible refine t_not ?_ | with_reducible refine t_call ?_ | with_reducible refine t_isi ?_ | with_reducible refine t_isiT ?_ | with_reducible refine t_op1 ?_ | with_reducible refine t_opn ?_ | with_reducible refine o_neg ?_ | with_reducible refine o_fld ?_ | with_reducible refine o_isc ?_ | with_reducible refine o_gdic ?_ | with_reducible refine o_ccon ?_ | with_reducible refine f_nil ?_ | with_reducible refine f_cons ?_ | with_reducible refine s_sfld ?_ | with_reducible refine s_tasg ?_ | with_reducible refine s_uasg ?_ | with_reducible refine ss_nil ?_ | with_reducible refine q_nx ?_ | with_reducible refine q_rt ?_ | with_reducible refine ts_nil ?_ | with_reducible refine lcd ?_ | with_reducible refine o_rt ?_ | with_reducible refine e_var (by with_unfolding_all rfl) ?_ | with_reducible refine t_var (by with_unfolding_all rfl) ?_ | with_reducible refine oo_mod (by omega) ?_ | with_reducible refine oo_fdiv (by omega) ?_ | with_reducible refine oo_mul (by omega) ?_ | with_reducible refine as_b ?_ | with_reducible refine as_i ?_ | with_reducible refine dec_t (by with_unfolding_all rfl) ?_ | with_reducible refine dec_f (by with_unfolding_all rfl) ?_ | with_reducible refine dec_t' (by with_unfolding_all rfl) ?_ | with_reducible refine dec_f' (by with_unfolding_all rfl) ?_ | with_reducible refine put_ok (by with_unfolding_all rfl) (by with_unfolding_all rfl) ?_ | with_reducible refine pg_cl ?_ | with_reducible refine pg_cl1 ?_ | with_reducible refine gd_rfl (by with_unfolding_all rfl) ?_ | with_reducible refine oo (by with_unfolding_all rfl) ?_)
  exact ⟨rfl, rfl⟩
theorem init_ok {s0 : So} {z kd : List Nat} {sd : D} {sd' : List Nat} (hr : runOf smallL 8 (.str z) = true) (hz : z.length ≤ 8) (G : GOk kd sd') (hs : sd = .str sd' ∨ (sd = .non ∧ KdOk kd ∧ sd' = usual kd)) : COk (CL (k + 4) 4 [.ref s0.length, .str z, .str kd, sd] (s0 ++ [.obj 0 []])) (fun d s' => d = .non ∧ s' = s0 ++ [.obj 0 (flds z kd sd')]) := by
  refine cok_cl (f := f_4) rfl (cok_fn rfl ?_)
  refine ss_cons ?_
  repeat (first | with_reducible refine s_put ?_ | with_reducible refine s_asg ?_ | with_reducible refine s_asgo_lst ?_ | with_reducible refine s_ex ?_ | with_reducible refine s_ret ?_ | with_reducible refine s_iff ?_ | with_reducible refine s_for ?_ | with_reducible refine e_c ?_ | with_reducible refine e_glo ?_ | with_reducible refine e_lst ?_ | with_reducible refine e_tup ?_ | with_reducible refine e_newl ?_ | with_reducible refine e_bin ?_ | with_reducible refine e_cmp ?_ | with_reducible refine e_chn ?_ | with_reducible refine e_isn ?_ | with_reducible refine e_and ?_ | with_reducible refine e_or ?_ | with_reducible refine e_not ?_ | with_reducible refine e_ife ?_ | with_reducible refine e_call ?_ | with_reducible refine e_bi ?_ | with_reducible refine e_mt ?_ | with_reducible refine e_sub ?_ | with_reducible refine e_slc ?_ | with_reducible refine e_isi ?_ | with_reducible refine e_isiT ?_ | with_reducible refine e_lc ?_ | with_reducible refine e_op1 ?_ | with_reducible refine e_opn ?_ | with_reducible refine e_fst ?_ | with_reducible refine es_nil ?_ | with_reducible refine es_cons ?_ | with_reducible refine eo_no ?_ | with_reducible refine eo_yes ?_ | with_reducible refine ei_it ?_ | with_reducible refine ei_rng ?_ | with_reducible refine ei_zip ?_ | with_reducible refine ei_enm ?_ | with_reducible refine t_cmp ?_ | with_reducible refine t_isn ?_ | with_reducible refine t_and ?_ | with_reducible refine t_or ?_ | with_reducible refine t_not ?_ | with_reducible refine t_call ?_ | with_reducible refine t_isi ?_ | with_reducible refine t_isiT ?_ | with_reducible refine t_op1 ?_ | with_reducible refine t_opn ?_ | with_reducible refine o_neg ?_ | with_reducible refine o_fld ?_ | with_reducible refine o_isc ?_ | with_reducible refine o_gdic ?_ | with_reducible refine o_ccon ?_ | with_reducible refine f_nil ?_ | with_reducible refine f_cons ?_ | with_reducible refine s_sfld ?_ | with_reducible refine s_tasg ?_ | with_reducible refine s_uasg ?_ | with_reducible refine ss_nil ?_ | with_reducible refine q_nx ?_ | with_reducible refine q_rt ?_ | with_reducible refine ts_nil ?_ | with_reducible refine lcd ?_ | with_reducible refine o_rt ?_ | with_reducible refine e_var (by with_unfolding_all rfl) ?_ | with_reducible refine t_var (by with_unfolding_all rfl) ?_ | with_reducible refine oo_mod (by omega) ?_ | with_reducible refine oo_fdiv (by omega) ?_ | with_reducible refine oo_mul (by omega) ?_ | with_reducible refine as_b ?_ | with_reducible refine as_i ?_ | with_reducible refine dec_t (by with_unfolding_all rfl) ?_ | with_reducible refine dec_f (by with_unfolding_all rfl) ?_ | with_reducible refine dec_t' (by with_unfolding_all rfl) ?_ | with_reducible refine dec_f' (by with_unfolding_all rfl) ?_ | with_reducible refine put_ok (by with_unfolding_all rfl) (by with_unfolding_all rfl) ?_ | with_reducible refine pg_cl ?_ | with_reducible refine pg_cl1 ?_ | with_reducible refine gd_rfl (by with_unfolding_all rfl) ?_ | with_reducible refine oo (by with_unfolding_all rfl) ?_)
  refine cok_imp (is_nm (k := k) trivial) fun d s z => ?_
  obtain ⟨rfl, rfl⟩ := z
  rw [hr]
  repeat (first | with_reducible refine s_put ?_ | with_reducible refine s_asg ?_ | with_reducible refine s_asgo_lst ?_ | with_reducible refine s_ex ?_ | with_reducible refine s_ret ?_ | with_reducible refine s_iff ?_ | with_reducible refine s_for ?_ | with_reducible refine e_c ?_ | with_reducible refine e_glo ?_ | with_reducible refine e_lst ?_ | with_reducible refine e_tup ?_ | with_reducible refine e_newl ?_ | with_reducible refine e_bin ?_ | with_reducible refine e_cmp ?_ | with_reducible refine e_chn ?_ | with_reducible refine e_isn ?_ | with_reducible refine e_and ?_ | with_reducible refine e_or ?_ | with_reducible refine e_not ?_ | with_reducible refine e_ife ?_ | with_reducible refine e_call ?_ | with_reducible refine e_bi ?_ | with_reducible refine e_mt ?_ | with_reducible refine e_sub ?_ | with_reducible refine e_slc ?_ | with_reducible refine e_isi ?_ | with_reducible refine e_isiT ?_ | with_reducible refine e_lc ?_ | with_reducible refine e_op1 ?_ | with_reducible refine e_opn ?_ | with_reducible refine e_fst ?_ | with_reducible refine es_nil ?_ | with_reducible refine es_cons ?_ | with_reducible refine eo_no ?_ | with_reducible refine eo_yes ?_ | with_reducible refine ei_it ?_ | with_reducible refine ei_rng ?_ | with_reducible refine ei_zip ?_ | with_reducible refine ei_enm ?_ | with_reducible refine t_cmp ?_ | with_reducible refine t_isn ?_ | with_reducible refine t_and ?_ | with_reducible refine t_or ?_ | with_reducible refine t_not ?_ | with_reducible refine t_call ?_ | with_reducible refine t_isi ?_ | with_reducible refine t_isiT ?_ | with_reducible refine t_op1 ?_ | with_reducible refine t_opn ?_ | with_reducible refine o_neg ?_ | with_reducible refine o_fld ?_ | with_reducible refine o_isc ?_ | with_reducible refine o_gdic ?_ | with_reducible refine o_ccon ?_ | with_reducible refine f_nil ?_ | with_reducible refine f_cons ?_ | with_reducible refine s_sfld ?_ | with_reducible refine s_tasg ?_ | with_reducible refine s_uasg ?_ | with_reducible refine ss_nil ?_ | with_reducible refine q_nx ?_ | with_reducible refine q_rt ?_ | with_reducible refine ts_nil ?_ | with_reducible refine lcd ?_ | with_reducible refine o_rt ?_ | with_reducible refine e_var (by with_unfolding_all rfl) ?_ | with_reducible refine t_var (by with_unfolding_all rfl) ?_ | with_reducible refine oo_mod (by omega) ?_ | with_reducible refine oo_fdiv (by omega) ?_ | with_reducible refine oo_mul (by omega) ?_ | with_reducible refine as_b ?_ | with_reducible refine as_i ?_ | with_reducible refine dec_t (by with_unfolding_all rfl) ?_ | with_reducible refine dec_f (by with_unfolding_all rfl) ?_ | with_reducible refine dec_t' (by with_unfolding_all rfl) ?_ | with_reducible refine dec_f' (by with_unfolding_all rfl) ?_ | with_reducible refine put_ok (by with_unfolding_all rfl) (by with_unfolding_all rfl) ?_ | with_reducible refine pg_cl ?_ | with_reducible refine pg_cl1 ?_ | with_reducible refine gd_rfl (by with_unfolding_all rfl) ?_ | with_reducible refine oo (by with_unfolding_all rfl) ?_)
  refine ss_cons ?_
  repeat (first | with_reducible refine s_put ?_ | with_reducible refine s_asg ?_ | with_reducible refine s_asgo_lst ?_ | with_reducible refine s_ex ?_ | with_reducible refine s_ret ?_ | with_reducible refine s_iff ?_ | with_reducible refine s_for ?_ | with_reducible refine e_c ?_ | with_reducible refine e_glo ?_ | with_reducible refine e_lst ?_ | with_reducible refine e_tup ?_ | with_reducible refine e_newl ?_ | with_reducible refine e_bin ?_ | with_reducible refine e_cmp ?_ | with_reducible refine e_chn ?_ | with_reducible refine e_isn ?_ | with_reducible refine e_and ?_ | with_reducible refine e_or ?_ | with_reducible refine e_not ?_ | with_reducible refine e_ife ?_ | with_reducible refine e_call ?_ | with_reducible refine e_bi ?_ | with_reducible refine e_mt ?_ | with_reducible refine e_sub ?_ | with_reducible refine e_slc ?_ | with_reducible refine e_isi ?_ | with_reducible refine e_isiT ?_ | with_reducible refine e_lc ?_ | with_reducible refine e_op1 ?_ | with_reducible refine e_opn ?_ | with_reducible refine e_fst ?_ | with_reducible refine es_nil ?_ | with_reducible refine es_cons ?_ | with_reducible refine eo_no ?_ | with_reducible refine eo_yes ?_ | with_reducible refine ei_it ?_ | with_reducible refine ei_rng ?_ | with_reducible refine ei_zip ?_ | with_reducible refine ei_enm ?_ | with_reducible refine t_cmp ?_ | with_reducible refine t_isn ?_ | with_reducible refine t_and ?_ | with_reducible refine t_or ?_ | with_reducible refine t_not ?_ | with_reducible refine t_call ?_ | with_reducible refine t_isi ?_ | with_reducible refine t_isiT ?_ | with_reducible refine t_op1 ?_ | with_reducible refine t_opn ?_ | with_reducible refine o_neg ?_ | with_reducible refine o_fld ?_ | with_reducible refine o_isc ?_ | with_reducible refine o_gdic ?_ | with_reducible refine o_ccon ?_ | with_reducible refine f_nil ?_ | with_reducible refine f_cons ?_ | with_reducible refine s_sfld ?_ | with_reducible refine s_tasg ?_ | with_reducible refine s_uasg ?_ | with_reducible refine ss_nil ?_ | with_reducible refine q_nx ?_ | with_reducible refine q_rt ?_ | with_reducible refine ts_nil ?_ | with_reducible refine lcd ?_ | with_reducible refine o_rt ?_ | with_reducible refine e_var (by with_unfolding_all rfl) ?_ | with_reducible refine t_var (by with_unfolding_all rfl) ?_ | with_reducible refine oo_mod (by omega) ?_ | with_reducible refine oo_fdiv (by omega) ?_ | with_reducible refine oo_mul (by omega) ?_ | with_reducible refine as_b ?_ | with_reducible refine as_i ?_ | with_reducible refine dec_t (by with_unfolding_all rfl) ?_ | with_reducible refine dec_f (by with_unfolding_all rfl) ?_ | with_reducible refine dec_t' (by with_unfolding_all rfl) ?_ | with_reducible refine dec_f' (by with_unfolding_all rfl) ?_ | with_reducible refine put_ok (by with_unfolding_all rfl) (by with_unfolding_all rfl) ?_ | with_reducible refine pg_cl ?_ | with_reducible refine pg_cl1 ?_ | with_reducible refine gd_rfl (by with_unfolding_all rfl) ?_ | with_reducible refine oo (by with_unfolding_all rfl) ?_)
  refine oo (a := false) G.k1 ?_
  repeat (first | with_reducible refine s_put ?_ | with_reducible refine s_asg ?_ | with_reducible refine s_asgo_lst ?_ | with_reducible refine s_ex ?_ | with_reducible refine s_ret ?_ | with_reducible refine s_iff ?_ | with_reducible refine s_for ?_ | with_reducible refine e_c ?_ | with_reducible refine e_glo ?_ | with_reducible refine e_lst ?_ | with_reducible refine e_tup ?_ | with_reducible refine e_newl ?_ | with_reducible refine e_bin ?_ | with_reducible refine e_cmp ?_ | with_reducible refine e_chn ?_ | with_reducible refine e_isn ?_ | with_reducible refine e_and ?_ | with_reducible refine e_or ?_ | with_reducible refine e_not ?_ | with_reducible refine e_ife ?_ | with_reducible refine e_call ?_ | with_reducible refine e_bi ?_ | with_reducible refine e_mt ?_ | with_reducible refine e_sub ?_ | with_reducible refine e_slc ?_ | with_reducible refine e_isi ?_ | with_reducible refine e_isiT ?_ | with_reducible refine e_lc ?_ | with_reducible refine e_op1 ?_ | with_reducible refine e_opn ?_ | with_reducible refine e_fst ?_ | with_reducible refine es_nil ?_ | with_reducible refine es_cons ?_ | with_reducible refine eo_no ?_ | with_reducible refine eo_yes ?_ | with_reducible refine ei_it ?_ | with_reducible refine ei_rng ?_ | with_reducible refine ei_zip ?_ | with_reducible refine ei_enm ?_ | with_reducible refine t_cmp ?_ | with_reducible refine t_isn ?_ | with_reducible refine t_and ?_ | with_reducible refine t_or ?_ | with_reducible refine t_not ?_ | with_reducible refine t_call ?_ | with_reducible refine t_isi ?_ | with_reducible refine t_isiT ?_ | with_reducible refine t_op1 ?_ | with_reducible refine t_opn ?_ | with_reducible refine o_neg ?_ | with_reducible refine o_fld ?_ | with_reducible refine o_isc ?_ | with_reducible refine o_gdic ?_ | with_reducible refine o_ccon ?_ | with_reducible refine f_nil ?_ | with_reducible refine f_cons ?_ | with_reducible refine s_sfld ?_ | with_reducible refine s_tasg ?_ | with_reducible refine s_uasg ?_ | with_reducible refine ss_nil ?_ | with_reducible refine q_nx ?_ | with_reducible refine q_rt ?_ | with_reducible refine ts_nil ?_ | with_reducible refine lcd ?_ | with_reducible refine o_rt ?_ | with_reducible refine e_var (by with_unfolding_all rfl) ?_ | with_reducible refine t_var (by with_unfolding_all rfl) ?_ | with_reducible refine oo_mod (by omega) ?_ | with_reducible refine oo_fdiv (by omega) ?_ | with_reducible refine oo_mul (by omega) ?_ | with_reducible refine as_b ?_ | with_reducible refine as_i ?_ | with_reducible refine dec_t (by with_unfolding_all rfl) ?_ | with_reducible refine dec_f (by with_unfolding_all rfl) ?_ | with_reducible refine dec_t' (by with_unfolding_all rfl) ?_ | with_reducible refine dec_f' (by with_unfolding_all rfl) ?_ | with_reducible refine put_ok (by with_unfolding_all rfl) (by with_unfolding_all rfl) ?_ | with_reducible refine pg_cl ?_ | with_reducible refine pg_cl1 ?_ | with_reducible refine gd_rfl (by with_unfolding_all rfl) ?_ | with_reducible refine oo (by with_unfolding_all rfl) ?_)
  refine ss_cons ?_
  rcases hs with rfl | ⟨rfl, kok, rfl⟩
  · repeat (first | with_reducible refine s_put ?_ | with_reducible refine s_asg ?_ | with_reducible refine s_asgo_lst ?_ | with_reducible refine s_ex ?_ | with_reducible refine s_ret ?_ | with_reducible refine s_iff ?_ | with_reducible refine s_for ?_ | with_reducible refine e_c ?_ | with_reducible refine e_glo ?_ | with_reducible refine e_lst ?_ | with_reducible refine e_tup ?_ | with_reducible refine e_newl ?_ | with_reducible refine e_bin ?_ | with_reducible refine e_cmp ?_ | with_reducible refine e_chn ?_ | with_reducible refine e_isn ?_ | with_reducible refine e_and ?_ | with_reducible refine e_or ?_ | with_reducible refine e_not ?_ | with_reducible refine e_ife ?_ | with_reducible refine e_call ?_ | with_reducible refine e_bi ?_ | with_reducible refine e_mt ?_ | with_reducible refine e_sub ?_ | with_reducible refine e_slc ?_ | with_reducible refine e_isi ?_ | with_reducible refine e_isiT ?_ | with_reducible refine e_lc ?_ | with_reducible refine e_op1 ?_ | with_reducible refine e_opn ?_ | with_reducible refine e_fst ?_ | with_reducible refine es_nil ?_ | with_reducible refine es_cons ?_ | with_reducible refine eo_no ?_ | with_reducible refine eo_yes ?_ | with_reducible refine ei_it ?_ | with_reducible refine ei_rng ?_ | with_reducible refine ei_zip ?_ | with_reducible refine ei_enm ?_ | with_reducible refine t_cmp ?_ | with_reducible refine t_isn ?_ | with_reducible refine t_and ?_ | with_reducible refine t_or ?_ | with_reducible refine t_not ?_ | with_reducible refine t_call ?_ | with_reducible refine t_isi ?_ | with_reducible refine t_isiT ?_ | with_reducible refine t_op1 ?_ | with_reducible refine t_opn ?_ | with_reducible refine o_neg ?_ | with_reducible refine o_fld ?_ | with_reducible refine o_isc ?_ | with_reducible refine o_gdic ?_ | with_reducible refine o_ccon ?_ | with_reducible refine f_nil ?_ | with_reducible refine f_cons ?_ | with_reducible refine s_sfld ?_ | with_reducible refine s_tasg ?_ | with_reducible refine s_uasg ?_ | with_reducible refine ss_nil ?_ | with_reducible refine q_nx ?_ | with_reducible refine q_rt ?_ | with_reducible refine ts_nil ?_ | with_reducible refine lcd ?_ | with_reducible refine o_rt ?_ | with_reducible refine e_var (by with_unfolding_all rfl) ?_ | with_reducible refine t_var (by with_unfolding_all rfl) ?_ | with_reducible refine oo_mod (by omega) ?_ | with_reducible refine oo_fdiv (by omega) ?_ | with_reducible refine oo_mul (by omega) ?_ | with_reducible refine as_b ?_ | with_reducible refine as_i ?_ | with_reducible refine dec_t (by with_unfolding_all rfl) ?_ | with_reducible refine dec_f (by with_unfolding_all rfl) ?_ | with_reducible refine dec_t' (by with_unfolding_all rfl) ?_ | with_reducible refine dec_f' (by with_unfolding_all rfl) ?_ | with_reducible refine put_ok (by with_unfolding_all rfl) (by with_unfolding_all rfl) ?_ | with_reducible refine pg_cl ?_ | with_reducible refine pg_cl1 ?_ | with_reducible refine gd_rfl (by with_unfolding_all rfl) ?_ | with_reducible refine oo (by with_unfolding_all rfl) ?_)
    exact init_tail (p := PG fs gn (k + 2)) rfl rfl hz G
  · repeat (first | with_reducible refine s_put ?_ | with_reducible refine s_asg ?_ | with_reducible refine s_asgo_lst ?_ | with_reducible refine s_ex ?_ | with_reducible refine s_ret ?_ | with_reducible refine s_iff ?_ | with_reducible refine s_for ?_ | with_reducible refine e_c ?_ | with_reducible refine e_glo ?_ | with_reducible refine e_lst ?_ | with_reducible refine e_tup ?_ | with_reducible refine e_newl ?_ | with_reducible refine e_bin ?_ | with_reducible refine e_cmp ?_ | with_reducible refine e_chn ?_ | with_reducible refine e_isn ?_ | with_reducible refine e_and ?_ | with_reducible refine e_or ?_ | with_reducible refine e_not ?_ | with_reducible refine e_ife ?_ | with_reducible refine e_call ?_ | with_reducible refine e_bi ?_ | with_reducible refine e_mt ?_ | with_reducible refine e_sub ?_ | with_reducible refine e_slc ?_ | with_reducible refine e_isi ?_ | with_reducible refine e_isiT ?_ | with_reducible refine e_lc ?_ | with_reducible refine e_op1 ?_ | with_reducible refine e_opn ?_ | with_reducible refine e_fst ?_ | with_reducible refine es_nil ?_ | with_reducible refine es_cons ?_ | with_reducible refine eo_no ?_ | with_reducible refine eo_yes ?_ | with_reducible refine ei_it ?_ | with_reducible refine ei_rng ?_ | with_reducible refine ei_zip ?_ | with_reducible refine ei_enm ?_ | with_reducible refine t_cmp ?_ | with_reducible refine t_isn ?_ | with_reducible refine t_and ?_ | with_reducible refine t_or ?_ | with_reducible refine t_not ?_ | with_reducible refine t_call ?_ | with_reducible refine t_isi ?_ | with_reducible refine t_isiT ?_ | with_reducible refine t_op1 ?_ | with_reducible refine t_opn ?_ | with_reducible refine o_neg ?_ | with_reducible refine o_fld ?_ | with_reducible refine o_isc ?_ | with_reducible refine o_gdic ?_ | with_reducible refine o_ccon ?_ | with_reducible refine f_nil ?_ | with_reducible refine f_cons ?_ | with_reducible refine s_sfld ?_ | with_reducible refine s_tasg ?_ | with_reducible refine s_uasg ?_ | with_reducible refine ss_nil ?_ | with_reducible refine q_nx ?_ | with_reducible refine q_rt ?_ | with_reducible refine ts_nil ?_ | with_reducible refine lcd ?_ | with_reducible refine o_rt ?_ | with_reducible refine e_var (by with_unfolding_all rfl) ?_ | with_reducible refine t_var (by with_unfolding_all rfl) ?_ | with_reducible refine oo_mod (by omega) ?_ | with_reducible refine oo_fdiv (by omega) ?_ | with_reducible refine oo_mul (by omega) ?_ | with_reducible refine as_b ?_ | with_reducible refine as_i ?_ | with_reducible refine dec_t (by with_unfolding_all rfl) ?_ | with_reducible refine dec_f (by with_unfolding_all rfl) ?_ | with_reducible refine dec_t' (by with_unfolding_all rfl) ?_ | with_reducible refine dec_f' (by with_unfolding_all rfl) ?_ | with_reducible refine put_ok (by with_unfolding_all rfl) (by with_unfolding_all rfl) ?_ | with_reducible refine pg_cl ?_ | with_reducible refine pg_cl1 ?_ | with_reducible refine gd_rfl (by with_unfolding_all rfl) ?_ | with_reducible refine oo (by with_unfolding_all rfl) ?_)
    refine ss_cons ?_
    repeat (first | with_reducible refine s_put ?_ | with_reducible refine s_asg ?_ | with_reducible refine s_asgo_lst ?_ | with_reducible refine s_ex ?_ | with_reducible refine s_ret ?_ | with_reducible refine s_iff ?_ | with_reducible refine s_for ?_ | with_reducible refine e_c ?_ | with_reducible refine e_glo ?_ | with_reducible refine e_lst ?_ | with_reducible refine e_tup ?_ | with_reducible refine e_newl ?_ | with_reducible refine e_bin ?_ | with_reducible refine e_cmp ?_ | with_reducible refine e_chn ?_ | with_reducible refine e_isn ?_ | with_reducible refine e_and ?_ | with_reducible refine e_or ?_ | with_reducible refine e_not ?_ | with_reducible refine e_ife ?_ | with_reducible refine e_call ?_ | with_reducible refine e_bi ?_ | with_reducible refine e_mt ?_ | with_reducible refine e_sub ?_ | with_reducible refine e_slc ?_ | with_reducible refine e_isi ?_ | with_reducible refine e_isiT ?_ | with_reducible refine e_lc ?_ | with_reducible refine e_op1 ?_ | with_reducible refine e_opn ?_ | with_reducible refine e_fst ?_ | with_reducible refine es_nil ?_ | with_reducible refine es_cons ?_ | with_reducible refine eo_no ?_ | with_reducible refine eo_yes ?_ | with_reducible refine ei_it ?_ | with_reducible refine ei_rng ?_ | with_reducible refine ei_zip ?_ | with_reducible refine ei_enm ?_ | with_reducible refine t_cmp ?_ | with_reducible refine t_isn ?_ | with_reducible refine t_and ?_ | with_reducible refine t_or ?_ | with_reducible refine t_not ?_ | with_reducible refine t_call ?_ | with_reducible refine t_isi ?_ | with_reducible refine t_isiT ?_ | with_reducible refine t_op1 ?_ | with_reducible refine t_opn ?_ | with_reducible refine o_neg ?_ | with_reducible refine o_fld ?_ | with_reducible refine o_isc ?_ | with_reducible refine o_gdic ?_ | with_reducible refine o_ccon ?_ | with_reducible refine f_nil ?_ | with_reducible refine f_cons ?_ | with_reducible refine s_sfld ?_ | with_reducible refine s_tasg ?_ | with_reducible refine s_uasg ?_ | with_reducible refine ss_nil ?_ | with_reducible refine q_nx ?_ | with_reducible refine q_rt ?_ | with_reducible refine ts_nil ?_ | with_reducible refine lcd ?_ | with_reducible refine o_rt ?_ | with_reducible refine e_var (by with_unfolding_all rfl) ?_ | with_reducible refine t_var (by with_unfolding_all rfl) ?_ | with_reducible refine oo_mod (by omega) ?_ | with_reducible refine oo_fdiv (by omega) ?_ | with_reducible refine oo_mul (by omega) ?_ | with_reducible refine as_b ?_ | with_reducible refine as_i ?_ | with_reducible refine dec_t (by with_unfolding_all rfl) ?_ | with_reducible refine dec_f (by with_unfolding_all rfl) ?_ | with_reducible refine dec_t' (by with_unfolding_all rfl) ?_ | with_reducible refine dec_f' (by with_unfolding_all rfl) ?_ | with_reducible refine put_ok (by with_unfolding_all rfl) (by with_unfolding_all rfl) ?_ | with_reducible refine pg_cl ?_ | with_reducible refine pg_cl1 ?_ | with_reducible refine gd_rfl (by with_unfolding_all rfl) ?_ | with_reducible refine oo (by with_unfolding_all rfl) ?_)
    refine oo G.k2 ?_
    repeat (first | with_reducible refine s_put ?_ | with_reducible refine s_asg ?_ | with_reducible refine s_asgo_lst ?_ | with_reducible refine s_ex ?_ | with_reducible refine s_ret ?_ | with_reducible refine s_iff ?_ | with_reducible refine s_for ?_ | with_reducible refine e_c ?_ | with_reducible refine e_glo ?_ | with_reducible refine e_lst ?_ | with_reducible refine e_tup ?_ | with_reducible refine e_newl ?_ | with_reducible refine e_bin ?_ | with_reducible refine e_cmp ?_ | with_reducible refine e_chn ?_ | with_reducible refine e_isn ?_ | with_reducible refine e_and ?_ | with_reducible refine e_or ?_ | with_reducible refine e_not ?_ | with_reducible refine e_ife ?_ | with_reducible refine e_call ?_ | with_reducible refine e_bi ?_ | with_reducible refine e_mt ?_ | with_reducible refine e_sub ?_ | with_reducible refine e_slc ?_ | with_reducible refine e_isi ?_ | with_reducible refine e_isiT ?_ | with_reducible refine e_lc ?_ | with_reducible refine e_op1 ?_ | with_reducible refine e_opn ?_ | with_reducible refine e_fst ?_ | with_reducible refine es_nil ?_ | with_reducible refine es_cons ?_ | with_reducible refine eo_no ?_ | with_reducible refine eo_yes ?_ | with_reducible refine ei_it ?_ | with_reducible refine ei_rng ?_ | with_reducible refine ei_zip ?_ | with_reducible refine ei_enm ?_ | with_reducible refine t_cmp ?_ | with_reducible refine t_isn ?_ | with_reducible refine t_and ?_ | with_reducible refine t_or ?_ | with_reducible refine t_not ?_ | with_reducible refine t_call ?_ | with_reducible refine t_isi ?_ | with_reducible refine t_isiT ?_ | with_reducible refine t_op1 ?_ | with_reducible refine t_opn ?_ | with_reducible refine o_neg ?_ | with_reducible refine o_fld ?_ | with_reducible refine o_isc ?_ | with_reducible refine o_gdic ?_ | with_reducible refine o_ccon ?_ | with_reducible refine f_nil ?_ | with_reducible refine f_cons ?_ | with_reducible refine s_sfld ?_ | with_reducible refine s_tasg ?_ | with_reducible refine s_uasg ?_ | with_reducible refine ss_nil ?_ | with_reducible refine q_nx ?_ | with_reducible refine q_rt ?_ | with_reducible refine ts_nil ?_ | with_reducible refine lcd ?_ | with_reducible refine o_rt ?_ | with_reducible refine e_var (by with_unfolding_all rfl) ?_ | with_reducible refine t_var (by with_unfolding_all rfl) ?_ | with_reducible refine oo_mod (by omega) ?_ | with_reducible refine oo_fdiv (by omega) ?_ | with_reducible refine oo_mul (by omega) ?_ | with_reducible refine as_b ?_ | with_reducible refine as_i ?_ | with_reducible refine dec_t (by with_unfolding_all rfl) ?_ | with_reducible refine dec_f (by with_unfolding_all rfl) ?_ | with_reducible refine dec_t' (by with_unfolding_all rfl) ?_ | with_reducible refine dec_f' (by with_unfolding_all rfl) ?_ | with_reducible refine put_ok (by with_unfolding_all rfl) (by with_unfolding_all rfl) ?_ | with_reducible refine pg_cl ?_ | with_reducible refine pg_cl1 ?_ | with_reducible refine gd_rfl (by with_unfolding_all rfl) ?_ | with_reducible refine oo (by with_unfolding_all rfl) ?_)
    refine oo ((usual_in kok).2 _) ?_
    repeat (first | with_reducible refine s_put ?_ | with_reducible refine s_asg ?_ | with_reducible refine s_asgo_lst ?_ | with_reducible refine s_ex ?_ | with_reducible refine s_ret ?_ | with_reducible refine s_iff ?_ | with_reducible refine s_for ?_ | with_reducible refine e_c ?_ | with_reducible refine e_glo ?_ | with_reducible refine e_lst ?_ | with_reducible refine e_tup ?_ | with_reducible refine e_newl ?_ | with_reducible refine e_bin ?_ | with_reducible refine e_cmp ?_ | with_reducible refine e_chn ?_ | with_reducible refine e_isn ?_ | with_reducible refine e_and ?_ | with_reducible refine e_or ?_ | with_reducible refine e_not ?_ | with_reducible refine e_ife ?_ | with_reducible refine e_call ?_ | with_reducible refine e_bi ?_ | with_reducible refine e_mt ?_ | with_reducible refine e_sub ?_ | with_reducible refine e_slc ?_ | with_reducible refine e_isi ?_ | with_reducible refine e_isiT ?_ | with_reducible refine e_lc ?_ | with_reducible refine e_op1 ?_ | with_reducible refine e_opn ?_ | with_reducible refine e_fst ?_ | with_reducible refine es_nil ?_ | with_reducible refine es_cons ?_ | with_reducible refine eo_no ?_ | with_reducible refine eo_yes ?_ | with_reducible refine ei_it ?_ | with_reducible refine ei_rng ?_ | with_reducible refine ei_zip ?_ | with_reducible refine ei_enm ?_ | with_reducible refine t_cmp ?_ | with_reducible refine t_isn ?_ | with_reducible refine t_and ?_ | with_reducible refine t_or ?_ | with_reducible refine t_not ?_ | with_reducible refine t_call ?_ | with_reducible refine t_isi ?_ | with_reducible refine t_isiT ?_ | with_reducible refine t_op1 ?_ | with_reducible refine t_opn ?_ | with_reducible refine o_neg ?_ | with_reducible refine o_fld ?_ | with_reducible refine o_isc ?_ | with_reducible refine o_gdic ?_ | with_reducible refine o_ccon ?_ | with_reducible refine f_nil ?_ | with_reducible refine f_cons ?_ | with_reducible refine s_sfld ?_ | with_reducible refine s_tasg ?_ | with_reducible refine s_uasg ?_ | with_reducible refine ss_nil ?_ | with_reducible refine q_nx ?_ | with_reducible refine q_rt ?_ | with_reducible refine ts_nil ?_ | with_reducible refine lcd ?_ | with_reducible refine o_rt ?_ | with_reducible refine e_var (by with_unfolding_all rfl) ?_ | with_reducible refine t_var (by with_unfolding_all rfl) ?_ | with_reducible refine oo_mod (by omega) ?_ | with_reducible refine oo_fdiv (by omega) ?_ | with_reducible refine oo_mul (by omega) ?_ | with_reducible refine as_b ?_ | with_reducible refine as_i ?_ | with_reducible refine dec_t (by with_unfolding_all rfl) ?_ | with_reducible refine dec_f (by with_unfolding_all rfl) ?_ | with_reducible refine dec_t' (by with_unfolding_all rfl) ?_ | with_reducible refine dec_f' (by with_unfolding_all rfl) ?_ | with_reducible refine put_ok (by with_unfolding_all rfl) (by with_unfolding_all rfl) ?_ | with_reducible refine pg_cl ?_ | with_reducible refine pg_cl1 ?_ | with_reducible refine gd_rfl (by with_unfolding_all rfl) ?_ | with_reducible refine oo (by with_unfolding_all rfl) ?_)
    exact init_tail (p := PG fs gn (k + 2)) rfl rfl hz G
theorem mk_ok {p : Pg} {bd : List Bd} {ds zs : List D} {e : En} {s : So} {Q : D → En → So → Prop} {z kd sd' : List Nat} {sd : D} (hp : p.kl = kl) (h1 : p.cl1 = CL (k + 4)) (hb : bdD (.ref s.length :: (ds ++ zs)) bd = some [.ref s.length, .str z, .str kd, sd]) (hr : runOf smallL 8 (.str z) = true) (hz : z.length ≤ 8) (G : GOk kd sd')
    (hs : sd = .str sd' ∨ (sd = .non ∧ KdOk kd ∧ sd' = usual kd)) (q : Q (grp z kd sd') e (s ++ [.gone])) : Ok (opD p (.mk 0 bd) ds zs e s) Q := by
  refine o_mk (k := k_0) (by rw [hp]; rfl) hb ?_
  rw [h1]
  refine cok_imp (init_ok hr hz G hs) fun d s' z => ?_
  obtain ⟨rfl, rfl⟩ := z
  exact ⟨rfl, _, rfl, rfl, q⟩
theorem eq_ok {a b c z kd sd : List Nat} : COk (CL (k + 2) 7 [grp a b c, grp z kd sd] s) (fun d s' => d = .bl (txt a b c == txt z kd sd) ∧ s' = s) := by
  refine cok_cl (f := f_7) rfl (cok_fn rfl ?_)
  dsimp only [f_7, grp]
  repeat (first | with_reducible refine ss_cons ?_ | with_reducible refine s_put ?_ | with_reducible refine s_asg ?_ | with_reducible refine s_asgo_lst ?_ | with_reducible refine s_ex ?_ | with_reducible refine s_ret ?_ | with_reducible refine s_iff ?_ | with_reducible refine s_for ?_ | with_reducible refine e_c ?_ | with_reducible refine e_glo ?_ | with_reducible refine e_lst ?_ | with_reducible refine e_tup ?_ | with_reducible refine e_newl ?_ | with_reducible refine e_bin ?_ | with_reducible refine e_cmp ?_ | with_reducible refine e_chn ?_ | with_reducible refine e_isn ?_ | with_reducible refine e_and ?_ | with_reducible refine e_or ?_ | with_reducible refine e_not ?_ | with_reducible refine e_ife ?_ | with_reducible refine e_call ?_ | with_reducible refine e_bi ?_ | with_reducible refine e_mt ?_ | with_reducible refine e_sub ?_ | with_reducible refine e_slc ?_ | with_reducible refine e_isi ?_ | with_reducible refine e_isiT ?_ | with_reducible refine e_lc ?_ | with_reducible refine e_op1 ?_ | with_reducible refine e_opn ?_ | with_reducible refine e_fst ?_ | with_reducible refine es_nil ?_ | with_reducible refine es_cons ?_ | with_reducible refine eo_no ?_ | with_reducible refine eo_yes ?_ | with_reducible refine ei_it ?_ | with_reducible refine ei_rng ?_ | with_reducible refine ei_zip ?_ | with_reducible refine ei_enm ?_ | with_reducible refine t_cmp ?_ | with_reducible refine t_isn ?_ | with_reducible refine t_and ?_ | with_reducible refine t_or ?_ | with_reducible refine t_not ?_ | with_reducible refine t_call ?_ | with_reducible refine t_isi ?_ | with_reducible refine t_isiT ?_ | with_reducible refine t_op1 ?_ | with_reducible refine t_opn ?_ | with_reducible refine o_neg ?_ | with_reducible refine o_fld ?_ | with_reducible refine o_isc ?_ | with_reducible refine o_gdic ?_ | with_reducible refine o_ccon ?_ | with_reducible refine f_nil ?_ | with_reducible refine f_cons ?_ | with_reducible refine s_sfld ?_ | with_reducible refine s_tasg ?_ | with_reducible refine s_uasg ?_ | with_reducible refine ss_nil ?_ | with_reducible refine q_nx ?_ | with_reducible refine q_rt ?_ | with_reducible refine ts_nil ?_ | with_reducible refine lcd ?_ | with_reducible refine o_rt ?_ | with_reducible refine e_var (by with_unfolding_all rfl) ?_ | with_reducible refine t_var (by with_unfolding_all rfl) ?_ | with_reducible refine oo_mod (by omega) ?_ | with_reducible refine oo_fdiv (by omega) ?_ | with_reducible refine oo_mul (by omega) ?_ | with_reducible refine as_b ?_ | with_reducible refine as_i ?_ | with_reducible refine dec_t (by with_unfolding_all rfl) ?_ | with_reducible refine dec_f (by with_unfolding_all rfl) ?_ | with_reducible refine dec_t' (by with_unfolding_all rfl) ?_ | with_reducible refine dec_f' (by with_unfolding_all rfl) ?_ | with_reducible refine put_ok (by with_unfolding_all rfl) (by with_unfolding_all rfl) ?_ | with_reducible refine pg_cl ?_ | with_reducible refine pg_cl1 ?_ | with_reducible refine gd_rfl (by with_unfolding_all rfl) ?_ | with_reducible refine oo (by with_unfolding_all rfl) ?_)
  exact ⟨rfl, rfl⟩
theorem eq_no {a b c z : List Nat} : COk (CL (k + 2) 7 [grp a b c, .str z] s) (fun d s' => d = .bl false ∧ s' = s) := by
  refine cok_cl (f := f_7) rfl (cok_fn rfl ?_)
  dsimp only [f_7, grp]
  repeat (first | with_reducible refine ss_cons ?_ | with_reducible refine s_put ?_ | with_reducible refine s_asg ?_ | with_reducible refine s_asgo_lst ?_ | with_reducible refine s_ex ?_ | with_reducible refine s_ret ?_ | with_reducible refine s_iff ?_ | with_reducible refine s_for ?_ | with_reducible refine e_c ?_ | with_reducible refine e_glo ?_ | with_reducible refine e_lst ?_ | with_reducible refine e_tup ?_ | with_reducible refine e_newl ?_ | with_reducible refine e_bin ?_ | with_reducible refine e_cmp ?_ | with_reducible refine e_chn ?_ | with_reducible refine e_isn ?_ | with_reducible refine e_and ?_ | with_reducible refine e_or ?_ | with_reducible refine e_not ?_ | with_reducible refine e_ife ?_ | with_reducible refine e_call ?_ | with_reducible refine e_bi ?_ | with_reducible refine e_mt ?_ | with_reducible refine e_sub ?_ | with_reducible refine e_slc ?_ | with_reducible refine e_isi ?_ | with_reducible refine e_isiT ?_ | with_reducible refine e_lc ?_ | with_reducible refine e_op1 ?_ | with_reducible refine e_opn ?_ | with_reducible refine e_fst ?_ | with_reducible refine es_nil ?_ | with_reducible refine es_cons ?_ | with_reducible refine eo_no ?_ | with_reducible refine eo_yes ?_ | with_reducible refine ei_it ?_ | with_reducible refine ei_rng ?_ | with_reducible refine ei_zip ?_ | with_reducible refine ei_enm ?_ | with_reducible refine t_cmp ?_ | with_reducible refine t_isn ?_ | with_reducible refine t_and ?_ | with_reducible refine t_or ?_ | with_reducible refine t_not ?_ | with_reducible refine t_call ?_ | with_reducible refine t_isi ?_ | with_reducible refine t_isiT ?_ | with_reducible refine t_op1 ?_ | with_reducible refine t_opn ?_ | with_reducible refine o_neg ?_ | with_reducible refine o_fld ?_ | with_reducible refine o_isc ?_ | with_reducible refine o_gdic ?_ | with_reducible refine o_ccon ?_ | with_reducible refine f_nil ?_ | with_reducible refine f_cons ?_ | with_reducible refine s_sfld ?_ | with_reducible refine s_tasg ?_ | with_reducible refine s_uasg ?_ | with_reducible refine ss_nil ?_ | with_reducible refine q_nx ?_ | with_reducible refine q_rt ?_ | with_reducible refine ts_nil ?_ | with_reducible refine lcd ?_ | with_reducible refine o_rt ?_ | with_reducible refine e_var (by with_unfolding_all rfl) ?_ | with_reducible refine t_var (by with_unfolding_all rfl) ?_ | with_reducible refine oo_mod (by omega) ?_ | with_reducible refine oo_fdiv (by omega) ?_ | with_reducible refine oo_mul (by omega) ?_ | with_reducible refine as_b ?_ | with_reducible refine as_i ?_ | with_reducible refine dec_t (by with_unfolding_all rfl) ?_ | with_reducible refine dec_f (by with_unfolding_all rfl) ?_ | with_reducible refine dec_t' (by with_unfolding_all rfl) ?_ | with_reducible refine dec_f' (by with_unfolding_all rfl) ?_ | with_reducible refine put_ok (by with_unfolding_all rfl) (by with_unfolding_all rfl) ?_ | with_reducible refine pg_cl ?_ | with_reducible refine pg_cl1 ?_ | with_reducible refine gd_rfl (by with_unfolding_all rfl) ?_ | with_reducible refine oo (by with_unfolding_all rfl) ?_)
  exact ⟨rfl, rfl⟩
def gtx (t : List Nat) : List Nat := ([71, 114, 111, 117, 112, 40] ++ t) ++ [41]
theorem rep_ok {a b c : List Nat} (h : (txt a b c).length ≤ 100) : COk (CL (k + 2) 5 [grp a b c] s) (fun d s' => d = .str (gtx (txt a b c)) ∧ s' = s) := by
  refine cok_cl (f := f_5) rfl (cok_fn rfl ?_)
  dsimp only [f_5, grp]
  repeat (first | with_reducible refine ss_cons ?_ | with_reducible refine s_put ?_ | with_reducible refine s_asg ?_ | with_reducible refine s_asgo_lst ?_ | with_reducible refine s_ex ?_ | with_reducible refine s_ret ?_ | with_reducible refine s_iff ?_ | with_reducible refine s_for ?_ | with_reducible refine e_c ?_ | with_reducible refine e_glo ?_ | with_reducible refine e_lst ?_ | with_reducible refine e_tup ?_ | with_reducible refine e_newl ?_ | with_reducible refine e_bin ?_ | with_reducible refine e_cmp ?_ | with_reducible refine e_chn ?_ | with_reducible refine e_isn ?_ | with_reducible refine e_and ?_ | with_reducible refine e_or ?_ | with_reducible refine e_not ?_ | with_reducible refine e_ife ?_ | with_reducible refine e_call ?_ | with_reducible refine e_bi ?_ | with_reducible refine e_mt ?_ | with_reducible refine e_sub ?_ | with_reducible refine e_slc ?_ | with_reducible refine e_isi ?_ | with_reducible refine e_isiT ?_ | with_reducible refine e_lc ?_ | with_reducible refine e_op1 ?_ | with_reducible refine e_opn ?_ | with_reducible refine e_fst ?_ | with_reducible refine es_nil ?_ | with_reducible refine es_cons ?_ | with_reducible refine eo_no ?_ | with_reducible refine eo_yes ?_ | with_reducible refine ei_it ?_ | with_reducible refine ei_rng ?_ | with_reducible refine ei_zip ?_ | with_reducible refine ei_enm ?_ | with_reducible refine t_cmp ?_ | with_reducible refine t_isn ?_ | with_reducible refine t_and ?_ | with_reducible refine t_or ?_ | with_reducible refine t_not ?_ | with_reducible refine t_call ?_ | with_reducible refine t_isi ?_ | with_reducible refine t_isiT ?_ | with_reducible refine t_op1 ?_ | with_reducible refine t_opn ?_ | with_reducible refine o_neg ?_ | with_reducible refine o_fld ?_ | with_reducible refine o_isc ?_ | with_reducible refine o_gdic ?_ | with_reducible refine o_ccon ?_ | with_reducible refine f_nil ?_ | with_reducible refine f_cons ?_ | with_reducible refine s_sfld ?_ | with_reducible refine s_tasg ?_ | with_reducible refine s_uasg ?_ | with_reducible refine ss_nil ?_ | with_reducible refine q_nx ?_ | with_reducible refine q_rt ?_ | with_reducible refine ts_nil ?_ | with_reducible refine lcd ?_ | with_reducible refine o_rt ?_ | with_reducible refine e_var (by with_unfolding_all rfl) ?_ | with_reducible refine t_var (by with_unfolding_all rfl) ?_ | with_reducible refine oo_mod (by omega) ?_ | with_reducible refine oo_fdiv (by omega) ?_ | with_reducible refine oo_mul (by omega) ?_ | with_reducible refine as_b ?_ | with_reducible refine as_i ?_ | with_reducible refine dec_t (by with_unfolding_all rfl) ?_ | with_reducible refine dec_f (by with_unfolding_all rfl) ?_ | with_reducible refine dec_t' (by with_unfolding_all rfl) ?_ | with_reducible refine dec_f' (by with_unfolding_all rfl) ?_ | with_reducible refine put_ok (by with_unfolding_all rfl) (by with_unfolding_all rfl) ?_ | with_reducible refine pg_cl ?_ | with_reducible refine pg_cl1 ?_ | with_reducible refine gd_rfl (by with_unfolding_all rfl) ?_ | with_reducible refine oo (by with_unfolding_all rfl) ?_)
  refine ⟨_, rfl, by show _ ≤ 16777216; simp, ?_⟩
  repeat (first | with_reducible refine ss_cons ?_ | with_reducible refine s_put ?_ | with_reducible refine s_asg ?_ | with_reducible refine s_asgo_lst ?_ | with_reducible refine s_ex ?_ | with_reducible refine s_ret ?_ | with_reducible refine s_iff ?_ | with_reducible refine s_for ?_ | with_reducible refine e_c ?_ | with_reducible refine e_glo ?_ | with_reducible refine e_lst ?_ | with_reducible refine e_tup ?_ | with_reducible refine e_newl ?_ | with_reducible refine e_bin ?_ | with_reducible refine e_cmp ?_ | with_reducible refine e_chn ?_ | with_reducible refine e_isn ?_ | with_reducible refine e_and ?_ | with_reducible refine e_or ?_ | with_reducible refine e_not ?_ | with_reducible refine e_ife ?_ | with_reducible refine e_call ?_ | with_reducible refine e_bi ?_ | with_reducible refine e_mt ?_ | with_reducible refine e_sub ?_ | with_reducible refine e_slc ?_ | with_reducible refine e_isi ?_ | with_reducible refine e_isiT ?_ | with_reducible refine e_lc ?_ | with_reducible refine e_op1 ?_ | with_reducible refine e_opn ?_ | with_reducible refine e_fst ?_ | with_reducible refine es_nil ?_ | with_reducible refine es_cons ?_ | with_reducible refine eo_no ?_ | with_reducible refine eo_yes ?_ | with_reducible refine ei_it ?_ | with_reducible refine ei_rng ?_ | with_reducible refine ei_zip ?_ | with_reducible refine ei_enm ?_ | with_reducible refine t_cmp ?_ | with_reducible refine t_isn ?_ | with_reducible refine t_and ?_ | with_reducible refine t_or ?_ | with_reducible refine t_not ?_ | with_reducible refine t_call ?_ | with_reducible refine t_isi ?_ | with_reducible refine t_isiT ?_ | with_reducible refine t_op1 ?_ | with_reducible refine t_opn ?_ | with_reducible refine o_neg ?_ | with_reducible refine o_fld ?_ | with_reducible refine o_isc ?_ | with_reducible refine o_gdic ?_ | with_reducible refine o_ccon ?_ | with_reducible refine f_nil ?_ | with_reducible refine f_cons ?_ | with_reducible refine s_sfld ?_ | with_reducible refine s_tasg ?_ | with_reducible refine s_uasg ?_ | with_reducible refine ss_nil ?_ | with_reducible refine q_nx ?_ | with_reducible refine q_rt ?_ | with_reducible refine ts_nil ?_ | with_reducible refine lcd ?_ | with_reducible refine o_rt ?_ | with_reducible refine e_var (by with_unfolding_all rfl) ?_ | with_reducible refine t_var (by with_unfolding_all rfl) ?_ | with_reducible refine oo_mod (by omega) ?_ | with_reducible refine oo_fdiv (by omega) ?_ | with_reducible refine oo_mul (by omega) ?_ | with_reducible refine as_b ?_ | with_reducible refine as_i ?_ | with_reducible refine dec_t (by with_unfolding_all rfl) ?_ | with_reducible refine dec_f (by with_unfolding_all rfl) ?_ | with_reducible refine dec_t' (by with_unfolding_all rfl) ?_ | with_reducible refine dec_f' (by with_unfolding_all rfl) ?_ | with_reducible refine put_ok (by with_unfolding_all rfl) (by with_unfolding_all rfl) ?_ | with_reducible refine pg_cl ?_ | with_reducible refine pg_cl1 ?_ | with_reducible refine gd_rfl (by with_unfolding_all rfl) ?_ | with_reducible refine oo (by with_unfolding_all rfl) ?_)
  refine ⟨_, rfl, by show _ ≤ 16777216; simp; omega, ?_⟩
  repeat (first | with_reducible refine ss_cons ?_ | with_reducible refine s_put ?_ | with_reducible refine s_asg ?_ | with_reducible refine s_asgo_lst ?_ | with_reducible refine s_ex ?_ | with_reducible refine s_ret ?_ | with_reducible refine s_iff ?_ | with_reducible refine s_for ?_ | with_reducible refine e_c ?_ | with_reducible refine e_glo ?_ | with_reducible refine e_lst ?_ | with_reducible refine e_tup ?_ | with_reducible refine e_newl ?_ | with_reducible refine e_bin ?_ | with_reducible refine e_cmp ?_ | with_reducible refine e_chn ?_ | with_reducible refine e_isn ?_ | with_reducible refine e_and ?_ | with_reducible refine e_or ?_ | with_reducible refine e_not ?_ | with_reducible refine e_ife ?_ | with_reducible refine e_call ?_ | with_reducible refine e_bi ?_ | with_reducible refine e_mt ?_ | with_reducible refine e_sub ?_ | with_reducible refine e_slc ?_ | with_reducible refine e_isi ?_ | with_reducible refine e_isiT ?_ | with_reducible refine e_lc ?_ | with_reducible refine e_op1 ?_ | with_reducible refine e_opn ?_ | with_reducible refine e_fst ?_ | with_reducible refine es_nil ?_ | with_reducible refine es_cons ?_ | with_reducible refine eo_no ?_ | with_reducible refine eo_yes ?_ | with_reducible refine ei_it ?_ | with_reducible refine ei_rng ?_ | with_reducible refine ei_zip ?_ | with_reducible refine ei_enm ?_ | with_reducible refine t_cmp ?_ | with_reducible refine t_isn ?_ | with_reducible refine t_and ?_ | with_reducible refine t_or ?_ | with_reducible refine t_not ?_ | with_reducible refine t_call ?_ | with_reducible refine t_isi ?_ | with_reducible refine t_isiT ?_ | with_reducible refine t_op1 ?_ | with_reducible refine t_opn ?_ | with_reducible refine o_neg ?_ | with_reducible refine o_fld ?_ | with_reducible refine o_isc ?_ | with_reducible refine o_gdic ?_ | with_reducible refine o_ccon ?_ | with_reducible refine f_nil ?_ | with_reducible refine f_cons ?_ | with_reducible refine s_sfld ?_ | with_reducible refine s_tasg ?_ | with_reducible refine s_uasg ?_ | with_reducible refine ss_nil ?_ | with_reducible refine q_nx ?_ | with_reducible refine q_rt ?_ | with_reducible refine ts_nil ?_ | with_reducible refine lcd ?_ | with_reducible refine o_rt ?_ | with_reducible refine e_var (by with_unfolding_all rfl) ?_ | with_reducible refine t_var (by with_unfolding_all rfl) ?_ | with_reducible refine oo_mod (by omega) ?_ | with_reducible refine oo_fdiv (by omega) ?_ | with_reducible refine oo_mul (by omega) ?_ | with_reducible refine as_b ?_ | with_reducible refine as_i ?_ | with_reducible refine dec_t (by with_unfolding_all rfl) ?_ | with_reducible refine dec_f (by with_unfolding_all rfl) ?_ | with_reducible refine dec_t' (by with_unfolding_all rfl) ?_ | with_reducible refine dec_f' (by with_unfolding_all rfl) ?_ | with_reducible refine put_ok (by with_unfolding_all rfl) (by with_unfolding_all rfl) ?_ | with_reducible refine pg_cl ?_ | with_reducible refine pg_cl1 ?_ | with_reducible refine gd_rfl (by with_unfolding_all rfl) ?_ | with_reducible refine oo (by with_unfolding_all rfl) ?_)
  refine ⟨_, rfl, by show _ ≤ 16777216; simp; omega, ?_⟩
  repeat (first | with_reducible refine ss_cons ?_ | with_reducible refine s_put ?_ | with_reducible refine s_asg ?_ | with_reducible refine s_asgo_lst ?_ | with_reducible refine s_ex ?_ | with_reducible refine s_ret ?_ | with_reducible refine s_iff ?_ | with_reducible refine s_for ?_ | with_reducible refine e_c ?_ | with_reducible refine e_glo ?_ | with_reducible refine e_lst ?_ | with_reducible refine e_tup ?_ | with_reducible refine e_newl ?_ | with_reducible refine e_bin ?_ | with_reducible refine e_cmp ?_ | with_reducible refine e_chn ?_ | with_reducible refine e_isn ?_ | with_reducible refine e_and ?_ | with_reducible refine e_or ?_ | with_reducible refine e_not ?_ | with_reducible refine e_ife ?_ | with_reducible refine e_call ?_ | with_reducible refine e_bi ?_ | with_reducible refine e_mt ?_ | with_reducible refine e_sub ?_ | with_reducible refine e_slc ?_ | with_reducible refine e_isi ?_ | with_reducible refine e_isiT ?_ | with_reducible refine e_lc ?_ | with_reducible refine e_op1 ?_ | with_reducible refine e_opn ?_ | with_reducible refine e_fst ?_ | with_reducible refine es_nil ?_ | with_reducible refine es_cons ?_ | with_reducible refine eo_no ?_ | with_reducible refine eo_yes ?_ | with_reducible refine ei_it ?_ | with_reducible refine ei_rng ?_ | with_reducible refine ei_zip ?_ | with_reducible refine ei_enm ?_ | with_reducible refine t_cmp ?_ | with_reducible refine t_isn ?_ | with_reducible refine t_and ?_ | with_reducible refine t_or ?_ | with_reducible refine t_not ?_ | with_reducible refine t_call ?_ | with_reducible refine t_isi ?_ | with_reducible refine t_isiT ?_ | with_reducible refine t_op1 ?_ | with_reducible refine t_opn ?_ | with_reducible refine o_neg ?_ | with_reducible refine o_fld ?_ | with_reducible refine o_isc ?_ | with_reducible refine o_gdic ?_ | with_reducible refine o_ccon ?_ | with_reducible refine f_nil ?_ | with_reducible refine f_cons ?_ | with_reducible refine s_sfld ?_ | with_reducible refine s_tasg ?_ | with_reducible refine s_uasg ?_ | with_reducible refine ss_nil ?_ | with_reducible refine q_nx ?_ | with_reducible refine q_rt ?_ | with_reducible refine ts_nil ?_ | with_reducible refine lcd ?_ | with_reducible refine o_rt ?_ | with_reducible refine e_var (by with_unfolding_all rfl) ?_ | with_reducible refine t_var (by with_unfolding_all rfl) ?_ | with_reducible refine oo_mod (by omega) ?_ | with_reducible refine oo_fdiv (by omega) ?_ | with_reducible refine oo_mul (by omega) ?_ | with_reducible refine as_b ?_ | with_reducible refine as_i ?_ | with_reducible refine dec_t (by with_unfolding_all rfl) ?_ | with_reducible refine dec_f (by with_unfolding_all rfl) ?_ | with_reducible refine dec_t' (by with_unfolding_all rfl) ?_ | with_reducible refine dec_f' (by with_unfolding_all rfl) ?_ | with_reducible refine put_ok (by with_unfolding_all rfl) (by with_unfolding_all rfl) ?_ | with_reducible refine pg_cl ?_ | with_reducible refine pg_cl1 ?_ | with_reducible refine gd_rfl (by with_unfolding_all rfl) ?_ | with_reducible refine oo (by with_unfolding_all rfl) ?_)
  exact ⟨rfl, rfl⟩
theorem txt_len {z kd sd : List Nat} (hz : z.length ≤ 8) (G : GOk kd sd) : (txt z kd sd).length ≤ 100 := by
  have := G.l1
  have := G.l2
  simp only [txt, List.length_append, List.length_singleton]
  omega
theorem txt_spl {z kd sd : List Nat} (hz : 32 ∉ z) (G : GOk kd sd) : TL.spl [32] 0 [] (txt z kd sd) = [z, kd, sd] := by
  have e : txt z kd sd = TL.joinL [32] [z, kd, sd] := by simp [txt, TL.joinL]
  rw [e]
  refine TL.spl_join (s := 32) (S := []) (by simp) fun p hp => ?_
  simp only [List.mem_cons, List.not_mem_nil, or_false] at hp
  rcases hp with rfl | rfl | rfl
  · exact hz
  · exact G.s1
  · exact G.s2
theorem run_sp {z : List Nat} (hr : runOf smallL 8 (.str z) = true) : 32 ∉ z ∧ z.length ≤ 8 := by
  simp only [runOf, Bool.and_eq_true, decide_eq_true_eq, List.all_eq_true] at hr
  exact ⟨fun h => by have := hr.2 32 h; revert this; decide, hr.1.2⟩
theorem parsed_ok {z kd sd : List Nat} (hr : runOf smallL 8 (.str z) = true) (G : GOk kd sd) : COk (CL (k + 6) 8 [.str (txt z kd sd)] s) (fun d s' => d = grp z kd sd ∧ s' = s ++ [.gone]) := by
  obtain ⟨h32, hz⟩ := run_sp hr
  have hl := txt_len hz G
  refine cok_cl (f := f_8) rfl (cok_fn rfl ?_)
  dsimp only [f_8]
  repeat (first | with_reducible refine ss_cons ?_ | with_reducible refine s_put ?_ | with_reducible refine s_asg ?_ | with_reducible refine s_asgo_lst ?_ | with_reducible refine s_ex ?_ | with_reducible refine s_ret ?_ | with_reducible refine s_iff ?_ | with_reducible refine s_for ?_ | with_reducible refine e_c ?_ | with_reducible refine e_glo ?_ | with_reducible refine e_lst ?_ | with_reducible refine e_tup ?_ | with_reducible refine e_newl ?_ | with_reducible refine e_bin ?_ | with_reducible refine e_cmp ?_ | with_reducible refine e_chn ?_ | with_reducible refine e_isn ?_ | with_reducible refine e_and ?_ | with_reducible refine e_or ?_ | with_reducible refine e_not ?_ | with_reducible refine e_ife ?_ | with_reducible refine e_call ?_ | with_reducible refine e_bi ?_ | with_reducible refine e_mt ?_ | with_reducible refine e_sub ?_ | with_reducible refine e_slc ?_ | with_reducible refine e_isi ?_ | with_reducible refine e_isiT ?_ | with_reducible refine e_lc ?_ | with_reducible refine e_op1 ?_ | with_reducible refine e_opn ?_ | with_reducible refine e_fst ?_ | with_reducible refine es_nil ?_ | with_reducible refine es_cons ?_ | with_reducible refine eo_no ?_ | with_reducible refine eo_yes ?_ | with_reducible refine ei_it ?_ | with_reducible refine ei_rng ?_ | with_reducible refine ei_zip ?_ | with_reducible refine ei_enm ?_ | with_reducible refine t_cmp ?_ | with_reducible refine t_isn ?_ | with_reducible refine t_and ?_ | with_reducible refine t_or ?_ | with_reducible refine t_not ?_ | with_reducible refine t_call ?_ | with_reducible refine t_isi ?_ | with_reducible refine t_isiT ?_ | with_reducible refine t_op1 ?_ | with_reducible refine t_opn ?_ | with_reducible refine o_neg ?_ | with_reducible refine o_fld ?_ | with_reducible refine o_isc ?_ | with_reducible refine o_gdic ?_ | with_reducible refine o_ccon ?_ | with_reducible refine f_nil ?_ | with_reducible refine f_cons ?_ | with_reducible refine s_sfld ?_ | with_reducible refine s_tasg ?_ | with_reducible refine s_uasg ?_ | with_reducible refine ss_nil ?_ | with_reducible refine q_nx ?_ | with_reducible refine q_rt ?_ | with_reducible refine ts_nil ?_ | with_reducible refine lcd ?_ | with_reducible refine o_rt ?_ | with_reducible refine e_var (by with_unfolding_all rfl) ?_ | with_reducible refine t_var (by with_unfolding_all rfl) ?_ | with_reducible refine oo_mod (by omega) ?_ | with_reducible refine oo_fdiv (by omega) ?_ | with_reducible refine oo_mul (by omega) ?_ | with_reducible refine as_b ?_ | with_reducible refine as_i ?_ | with_reducible refine dec_t (by with_unfolding_all rfl) ?_ | with_reducible refine dec_f (by with_unfolding_all rfl) ?_ | with_reducible refine dec_t' (by with_unfolding_all rfl) ?_ | with_reducible refine dec_f' (by with_unfolding_all rfl) ?_ | with_reducible refine put_ok (by with_unfolding_all rfl) (by with_unfolding_all rfl) ?_ | with_reducible refine pg_cl ?_ | with_reducible refine pg_cl1 ?_ | with_reducible refine gd_rfl (by with_unfolding_all rfl) ?_ | with_reducible refine oo (by with_unfolding_all rfl) ?_)
  refine oo (a := .lst [.str z, .str kd, .str sd]) ?_ ?_
  · show (if _ then _ else _) = _
    rw [if_pos ⟨by show _ ≤ 16777216; omega, by decide⟩, txt_spl h32 G]
    rfl
  repeat (first | with_reducible refine ss_cons ?_ | with_reducible refine s_put ?_ | with_reducible refine s_asg ?_ | with_reducible refine s_asgo_lst ?_ | with_reducible refine s_ex ?_ | with_reducible refine s_ret ?_ | with_reducible refine s_iff ?_ | with_reducible refine s_for ?_ | with_reducible refine e_c ?_ | with_reducible refine e_glo ?_ | with_reducible refine e_lst ?_ | with_reducible refine e_tup ?_ | with_reducible refine e_newl ?_ | with_reducible refine e_bin ?_ | with_reducible refine e_cmp ?_ | with_reducible refine e_chn ?_ | with_reducible refine e_isn ?_ | with_reducible refine e_and ?_ | with_reducible refine e_or ?_ | with_reducible refine e_not ?_ | with_reducible refine e_ife ?_ | with_reducible refine e_call ?_ | with_reducible refine e_bi ?_ | with_reducible refine e_mt ?_ | with_reducible refine e_sub ?_ | with_reducible refine e_slc ?_ | with_reducible refine e_isi ?_ | with_reducible refine e_isiT ?_ | with_reducible refine e_lc ?_ | with_reducible refine e_op1 ?_ | with_reducible refine e_opn ?_ | with_reducible refine e_fst ?_ | with_reducible refine es_nil ?_ | with_reducible refine es_cons ?_ | with_reducible refine eo_no ?_ | with_reducible refine eo_yes ?_ | with_reducible refine ei_it ?_ | with_reducible refine ei_rng ?_ | with_reducible refine ei_zip ?_ | with_reducible refine ei_enm ?_ | with_reducible refine t_cmp ?_ | with_reducible refine t_isn ?_ | with_reducible refine t_and ?_ | with_reducible refine t_or ?_ | with_reducible refine t_not ?_ | with_reducible refine t_call ?_ | with_reducible refine t_isi ?_ | with_reducible refine t_isiT ?_ | with_reducible refine t_op1 ?_ | with_reducible refine t_opn ?_ | with_reducible refine o_neg ?_ | with_reducible refine o_fld ?_ | with_reducible refine o_isc ?_ | with_reducible refine o_gdic ?_ | with_reducible refine o_ccon ?_ | with_reducible refine f_nil ?_ | with_reducible refine f_cons ?_ | with_reducible refine s_sfld ?_ | with_reducible refine s_tasg ?_ | with_reducible refine s_uasg ?_ | with_reducible refine ss_nil ?_ | with_reducible refine q_nx ?_ | with_reducible refine q_rt ?_ | with_reducible refine ts_nil ?_ | with_reducible refine lcd ?_ | with_reducible refine o_rt ?_ | with_reducible refine e_var (by with_unfolding_all rfl) ?_ | with_reducible refine t_var (by with_unfolding_all rfl) ?_ | with_reducible refine oo_mod (by omega) ?_ | with_reducible refine oo_fdiv (by omega) ?_ | with_reducible refine oo_mul (by omega) ?_ | with_reducible refine as_b ?_ | with_reducible refine as_i ?_ | with_reducible refine dec_t (by with_unfolding_all rfl) ?_ | with_reducible refine dec_f (by with_unfolding_all rfl) ?_ | with_reducible refine dec_t' (by with_unfolding_all rfl) ?_ | with_reducible refine dec_f' (by with_unfolding_all rfl) ?_ | with_reducible refine put_ok (by with_unfolding_all rfl) (by with_unfolding_all rfl) ?_ | with_reducible refine pg_cl ?_ | with_reducible refine pg_cl1 ?_ | with_reducible refine gd_rfl (by with_unfolding_all rfl) ?_ | with_reducible refine oo (by with_unfolding_all rfl) ?_)
  refine cok_imp (is_nm (k := k + 2) trivial) fun d s z => ?_
  obtain ⟨rfl, rfl⟩ := z
  rw [hr]
  repeat (first | with_reducible refine ss_cons ?_ | with_reducible refine s_put ?_ | with_reducible refine s_asg ?_ | with_reducible refine s_asgo_lst ?_ | with_reducible refine s_ex ?_ | with_reducible refine s_ret ?_ | with_reducible refine s_iff ?_ | with_reducible refine s_for ?_ | with_reducible refine e_c ?_ | with_reducible refine e_glo ?_ | with_reducible refine e_lst ?_ | with_reducible refine e_tup ?_ | with_reducible refine e_newl ?_ | with_reducible refine e_bin ?_ | with_reducible refine e_cmp ?_ | with_reducible refine e_chn ?_ | with_reducible refine e_isn ?_ | with_reducible refine e_and ?_ | with_reducible refine e_or ?_ | with_reducible refine e_not ?_ | with_reducible refine e_ife ?_ | with_reducible refine e_call ?_ | with_reducible refine e_bi ?_ | with_reducible refine e_mt ?_ | with_reducible refine e_sub ?_ | with_reducible refine e_slc ?_ | with_reducible refine e_isi ?_ | with_reducible refine e_isiT ?_ | with_reducible refine e_lc ?_ | with_reducible refine e_op1 ?_ | with_reducible refine e_opn ?_ | with_reducible refine e_fst ?_ | with_reducible refine es_nil ?_ | with_reducible refine es_cons ?_ | with_reducible refine eo_no ?_ | with_reducible refine eo_yes ?_ | with_reducible refine ei_it ?_ | with_reducible refine ei_rng ?_ | with_reducible refine ei_zip ?_ | with_reducible refine ei_enm ?_ | with_reducible refine t_cmp ?_ | with_reducible refine t_isn ?_ | with_reducible refine t_and ?_ | with_reducible refine t_or ?_ | with_reducible refine t_not ?_ | with_reducible refine t_call ?_ | with_reducible refine t_isi ?_ | with_reducible refine t_isiT ?_ | with_reducible refine t_op1 ?_ | with_reducible refine t_opn ?_ | with_reducible refine o_neg ?_ | with_reducible refine o_fld ?_ | with_reducible refine o_isc ?_ | with_reducible refine o_gdic ?_ | with_reducible refine o_ccon ?_ | with_reducible refine f_nil ?_ | with_reducible refine f_cons ?_ | with_reducible refine s_sfld ?_ | with_reducible refine s_tasg ?_ | with_reducible refine s_uasg ?_ | with_reducible refine ss_nil ?_ | with_reducible refine q_nx ?_ | with_reducible refine q_rt ?_ | with_reducible refine ts_nil ?_ | with_reducible refine lcd ?_ | with_reducible refine o_rt ?_ | with_reducible refine e_var (by with_unfolding_all rfl) ?_ | with_reducible refine t_var (by with_unfolding_all rfl) ?_ | with_reducible refine oo_mod (by omega) ?_ | with_reducible refine oo_fdiv (by omega) ?_ | with_reducible refine oo_mul (by omega) ?_ | with_reducible refine as_b ?_ | with_reducible refine as_i ?_ | with_reducible refine dec_t (by with_unfolding_all rfl) ?_ | with_reducible refine dec_f (by with_unfolding_all rfl) ?_ | with_reducible refine dec_t' (by with_unfolding_all rfl) ?_ | with_reducible refine dec_f' (by with_unfolding_all rfl) ?_ | with_reducible refine put_ok (by with_unfolding_all rfl) (by with_unfolding_all rfl) ?_ | with_reducible refine pg_cl ?_ | with_reducible refine pg_cl1 ?_ | with_reducible refine gd_rfl (by with_unfolding_all rfl) ?_ | with_reducible refine oo (by with_unfolding_all rfl) ?_)
  refine oo (a := false) G.k1 ?_
  repeat (first | with_reducible refine ss_cons ?_ | with_reducible refine s_put ?_ | with_reducible refine s_asg ?_ | with_reducible refine s_asgo_lst ?_ | with_reducible refine s_ex ?_ | with_reducible refine s_ret ?_ | with_reducible refine s_iff ?_ | with_reducible refine s_for ?_ | with_reducible refine e_c ?_ | with_reducible refine e_glo ?_ | with_reducible refine e_lst ?_ | with_reducible refine e_tup ?_ | with_reducible refine e_newl ?_ | with_reducible refine e_bin ?_ | with_reducible refine e_cmp ?_ | with_reducible refine e_chn ?_ | with_reducible refine e_isn ?_ | with_reducible refine e_and ?_ | with_reducible refine e_or ?_ | with_reducible refine e_not ?_ | with_reducible refine e_ife ?_ | with_reducible refine e_call ?_ | with_reducible refine e_bi ?_ | with_reducible refine e_mt ?_ | with_reducible refine e_sub ?_ | with_reducible refine e_slc ?_ | with_reducible refine e_isi ?_ | with_reducible refine e_isiT ?_ | with_reducible refine e_lc ?_ | with_reducible refine e_op1 ?_ | with_reducible refine e_opn ?_ | with_reducible refine e_fst ?_ | with_reducible refine es_nil ?_ | with_reducible refine es_cons ?_ | with_reducible refine eo_no ?_ | with_reducible refine eo_yes ?_ | with_reducible refine ei_it ?_ | with_reducible refine ei_rng ?_ | with_reducible refine ei_zip ?_ | with_reducible refine ei_enm ?_ | with_reducible refine t_cmp ?_ | with_reducible refine t_isn ?_ | with_reducible refine t_and ?_ | with_reducible refine t_or ?_ | with_reducible refine t_not ?_ | with_reducible refine t_call ?_ | with_reducible refine t_isi ?_ | with_reducible refine t_isiT ?_ | with_reducible refine t_op1 ?_ | with_reducible refine t_opn ?_ | with_reducible refine o_neg ?_ | with_reducible refine o_fld ?_ | with_reducible refine o_isc ?_ | with_reducible refine o_gdic ?_ | with_reducible refine o_ccon ?_ | with_reducible refine f_nil ?_ | with_reducible refine f_cons ?_ | with_reducible refine s_sfld ?_ | with_reducible refine s_tasg ?_ | with_reducible refine s_uasg ?_ | with_reducible refine ss_nil ?_ | with_reducible refine q_nx ?_ | with_reducible refine q_rt ?_ | with_reducible refine ts_nil ?_ | with_reducible refine lcd ?_ | with_reducible refine o_rt ?_ | with_reducible refine e_var (by with_unfolding_all rfl) ?_ | with_reducible refine t_var (by with_unfolding_all rfl) ?_ | with_reducible refine oo_mod (by omega) ?_ | with_reducible refine oo_fdiv (by omega) ?_ | with_reducible refine oo_mul (by omega) ?_ | with_reducible refine as_b ?_ | with_reducible refine as_i ?_ | with_reducible refine dec_t (by with_unfolding_all rfl) ?_ | with_reducible refine dec_f (by with_unfolding_all rfl) ?_ | with_reducible refine dec_t' (by with_unfolding_all rfl) ?_ | with_reducible refine dec_f' (by with_unfolding_all rfl) ?_ | with_reducible refine put_ok (by with_unfolding_all rfl) (by with_unfolding_all rfl) ?_ | with_reducible refine pg_cl ?_ | with_reducible refine pg_cl1 ?_ | with_reducible refine gd_rfl (by with_unfolding_all rfl) ?_ | with_reducible refine oo (by with_unfolding_all rfl) ?_)
  refine oo G.k2 ?_
  refine oo (a := false) G.k3 ?_
  repeat (first | with_reducible refine ss_cons ?_ | with_reducible refine s_put ?_ | with_reducible refine s_asg ?_ | with_reducible refine s_asgo_lst ?_ | with_reducible refine s_ex ?_ | with_reducible refine s_ret ?_ | with_reducible refine s_iff ?_ | with_reducible refine s_for ?_ | with_reducible refine e_c ?_ | with_reducible refine e_glo ?_ | with_reducible refine e_lst ?_ | with_reducible refine e_tup ?_ | with_reducible refine e_newl ?_ | with_reducible refine e_bin ?_ | with_reducible refine e_cmp ?_ | with_reducible refine e_chn ?_ | with_reducible refine e_isn ?_ | with_reducible refine e_and ?_ | with_reducible refine e_or ?_ | with_reducible refine e_not ?_ | with_reducible refine e_ife ?_ | with_reducible refine e_call ?_ | with_reducible refine e_bi ?_ | with_reducible refine e_mt ?_ | with_reducible refine e_sub ?_ | with_reducible refine e_slc ?_ | with_reducible refine e_isi ?_ | with_reducible refine e_isiT ?_ | with_reducible refine e_lc ?_ | with_reducible refine e_op1 ?_ | with_reducible refine e_opn ?_ | with_reducible refine e_fst ?_ | with_reducible refine es_nil ?_ | with_reducible refine es_cons ?_ | with_reducible refine eo_no ?_ | with_reducible refine eo_yes ?_ | with_reducible refine ei_it ?_ | with_reducible refine ei_rng ?_ | with_reducible refine ei_zip ?_ | with_reducible refine ei_enm ?_ | with_reducible refine t_cmp ?_ | with_reducible refine t_isn ?_ | with_reducible refine t_and ?_ | with_reducible refine t_or ?_ | with_reducible refine t_not ?_ | with_reducible refine t_call ?_ | with_reducible refine t_isi ?_ | with_reducible refine t_isiT ?_ | with_reducible refine t_op1 ?_ | with_reducible refine t_opn ?_ | with_reducible refine o_neg ?_ | with_reducible refine o_fld ?_ | with_reducible refine o_isc ?_ | with_reducible refine o_gdic ?_ | with_reducible refine o_ccon ?_ | with_reducible refine f_nil ?_ | with_reducible refine f_cons ?_ | with_reducible refine s_sfld ?_ | with_reducible refine s_tasg ?_ | with_reducible refine s_uasg ?_ | with_reducible refine ss_nil ?_ | with_reducible refine q_nx ?_ | with_reducible refine q_rt ?_ | with_reducible refine ts_nil ?_ | with_reducible refine lcd ?_ | with_reducible refine o_rt ?_ | with_reducible refine e_var (by with_unfolding_all rfl) ?_ | with_reducible refine t_var (by with_unfolding_all rfl) ?_ | with_reducible refine oo_mod (by omega) ?_ | with_reducible refine oo_fdiv (by omega) ?_ | with_reducible refine oo_mul (by omega) ?_ | with_reducible refine as_b ?_ | with_reducible refine as_i ?_ | with_reducible refine dec_t (by with_unfolding_all rfl) ?_ | with_reducible refine dec_f (by with_unfolding_all rfl) ?_ | with_reducible refine dec_t' (by with_unfolding_all rfl) ?_ | with_reducible refine dec_f' (by with_unfolding_all rfl) ?_ | with_reducible refine put_ok (by with_unfolding_all rfl) (by with_unfolding_all rfl) ?_ | with_reducible refine pg_cl ?_ | with_reducible refine pg_cl1 ?_ | with_reducible refine gd_rfl (by with_unfolding_all rfl) ?_ | with_reducible refine oo (by with_unfolding_all rfl) ?_)
  refine mk_ok (k := k) rfl rfl rfl hr hz G (.inl rfl) ?_
  repeat (first | with_reducible refine ss_cons ?_ | with_reducible refine s_put ?_ | with_reducible refine s_asg ?_ | with_reducible refine s_asgo_lst ?_ | with_reducible refine s_ex ?_ | with_reducible refine s_ret ?_ | with_reducible refine s_iff ?_ | with_reducible refine s_for ?_ | with_reducible refine e_c ?_ | with_reducible refine e_glo ?_ | with_reducible refine e_lst ?_ | with_reducible refine e_tup ?_ | with_reducible refine e_newl ?_ | with_reducible refine e_bin ?_ | with_reducible refine e_cmp ?_ | with_reducible refine e_chn ?_ | with_reducible refine e_isn ?_ | with_reducible refine e_and ?_ | with_reducible refine e_or ?_ | with_reducible refine e_not ?_ | with_reducible refine e_ife ?_ | with_reducible refine e_call ?_ | with_reducible refine e_bi ?_ | with_reducible refine e_mt ?_ | with_reducible refine e_sub ?_ | with_reducible refine e_slc ?_ | with_reducible refine e_isi ?_ | with_reducible refine e_isiT ?_ | with_reducible refine e_lc ?_ | with_reducible refine e_op1 ?_ | with_reducible refine e_opn ?_ | with_reducible refine e_fst ?_ | with_reducible refine es_nil ?_ | with_reducible refine es_cons ?_ | with_reducible refine eo_no ?_ | with_reducible refine eo_yes ?_ | with_reducible refine ei_it ?_ | with_reducible refine ei_rng ?_ | with_reducible refine ei_zip ?_ | with_reducible refine ei_enm ?_ | with_reducible refine t_cmp ?_ | with_reducible refine t_isn ?_ | with_reducible refine t_and ?_ | with_reducible refine t_or ?_ | with_reducible refine t_not ?_ | with_reducible refine t_call ?_ | with_reducible refine t_isi ?_ | with_reducible refine t_isiT ?_ | with_reducible refine t_op1 ?_ | with_reducible refine t_opn ?_ | with_reducible refine o_neg ?_ | with_reducible refine o_fld ?_ | with_reducible refine o_isc ?_ | with_reducible refine o_gdic ?_ | with_reducible refine o_ccon ?_ | with_reducible refine f_nil ?_ | with_reducible refine f_cons ?_ | with_reducible refine s_sfld ?_ | with_reducible refine s_tasg ?_ | with_reducible refine s_uasg ?_ | with_reducible refine ss_nil ?_ | with_reducible refine q_nx ?_ | with_reducible refine q_rt ?_ | with_reducible refine ts_nil ?_ | with_reducible refine lcd ?_ | with_reducible refine o_rt ?_ | with_reducible refine e_var (by with_unfolding_all rfl) ?_ | with_reducible refine t_var (by with_unfolding_all rfl) ?_ | with_reducible refine oo_mod (by omega) ?_ | with_reducible refine oo_fdiv (by omega) ?_ | with_reducible refine oo_mul (by omega) ?_ | with_reducible refine as_b ?_ | with_reducible refine as_i ?_ | with_reducible refine dec_t (by with_unfolding_all rfl) ?_ | with_reducible refine dec_f (by with_unfolding_all rfl) ?_ | with_reducible refine dec_t' (by with_unfolding_all rfl) ?_ | with_reducible refine dec_f' (by with_unfolding_all rfl) ?_ | with_reducible refine put_ok (by with_unfolding_all rfl) (by with_unfolding_all rfl) ?_ | with_reducible refine pg_cl ?_ | with_reducible refine pg_cl1 ?_ | with_reducible refine gd_rfl (by with_unfolding_all rfl) ?_ | with_reducible refine oo (by with_unfolding_all rfl) ?_)
  exact ⟨rfl, rfl⟩
theorem same1 {d : D} (h : PlainN 1 d) : CT (CL (k + 3) 6 [d, d] s) (fun x s' => x = .bl true ∧ s' = s) := ⟨same_refl (f := f_6) rfl rfl rfl rfl 1 d h k s⟩
end
end Lw

namespace Lw
open PySem L2 Mx
section
variable {k : Nat} {c : Cl} {s R : So} {ns : List Int} {d : D} {z kd sd : List Nat} {x3 x4 x5 x6 x7 x8 x9 x10 x11 : Sl}
abbrev E5 (ns : List Int) (d : D) (z kd : List Nat) (x5 x6 x7 x8 x9 x10 x11 : Sl) : En := [.sh (.scr ns), .sh (.ref 0), .sh d, .sh (.str z), .sh (.str kd), x5, x6, x7, x8, x9, x10, x11, .un, .un]
def lstG (z kd sd : List Nat) : D := .lst [.str z, .str kd, .str sd, .str (txt z kd sd), .str (gtx (txt z kd sd))]
abbrev E8 (ns : List Int) (d : D) (z kd sd : List Nat) (x8 x9 x10 x11 : Sl) : En := [.sh (.scr ns), .sh (.ref 0), .sh d, .sh (.str z), .sh (.str kd), .sh (.str sd), .sh (grp z kd sd), .sh (.str (txt z kd sd)), x8, x9, x10, x11, .un, .un]
theorem st0 (B : BagOk c) : OT (denS (PG fs gn (k + 10)) lb1_0 [.sh (.scr ns), .sh (.ref 0), .sh d, x3, x4, x5, x6, x7, x8, x9, x10, x11, .un, .un] (c :: R)) (fun o e s => o = .nx ∧ ∃ c z kd, s = c :: R ∧ BagOk c ∧ runOf smallL 8 (.str z) = true ∧ z.length ≤ 8 ∧ KdOk kd ∧ e = E5 ns d z kd x5 x6 x7 x8 x9 x10 x11) := by
  constructor
  dsimp only [lb1_0]
  repeat (first | with_reducible refine ss_cons ?_ | with_reducible refine s_put ?_ | with_reducible refine s_asg ?_ | with_reducible refine s_asgo_lst ?_ | with_reducible refine s_ex ?_ | with_reducible refine s_ret ?_ | with_reducible refine s_iff ?_ | with_reducible refine s_for ?_ | with_reducible refine e_c ?_ | with_reducible refine e_glo ?_ | with_reducible refine e_lst ?_ | with_reducible refine e_tup ?_ | with_reducible refine e_newl ?_ | with_reducible refine e_bin ?_ | with_reducible refine e_cmp ?_ | with_reducible refine e_chn ?_ | with_reducible refine e_isn ?_ | with_reducible refine e_and ?_ | with_reducible refine e_or ?_ | with_reducible refine e_not ?_ | with_reducible refine e_ife ?_ | with_reducible refine e_call ?_ | with_reducible refine e_bi ?_ | with_reducible refine e_mt ?_ | with_reducible refine e_sub ?_ | with_reducible refine e_slc ?_ | with_reducible refine e_isi ?_ | with_reducible refine e_isiT ?_ | with_reducible refine e_lc ?_ | with_reducible refine e_op1 ?_ | with_reducible refine e_opn ?_ | with_reducible refine e_fst ?_ | with_reducible refine es_nil ?_ | with_reducible refine es_cons ?_ | with_reducible refine eo_no ?_ | with_reducible refine eo_yes ?_ | with_reducible refine ei_it ?_ | with_reducible refine ei_rng ?_ | with_reducible refine ei_zip ?_ | with_reducible refine ei_enm ?_ | with_reducible refine t_cmp ?_ | with_reducible refine t_isn ?_ | with_reducible refine t_and ?_ | with_reducible refine t_or ?_ | with_reducible refine t_not ?_ | with_reducible refine t_call ?_ | with_reducible refine t_isi ?_ | with_reducible refine t_isiT ?_ | with_reducible refine t_op1 ?_ | with_reducible refine t_opn ?_ | with_reducible refine o_neg ?_ | with_reducible refine o_fld ?_ | with_reducible refine o_isc ?_ | with_reducible refine o_gdic ?_ | with_reducible refine o_ccon ?_ | with_reducible refine f_nil ?_ | with_reducible refine f_cons ?_ | with_reducible refine s_sfld ?_ | with_reducible refine s_tasg ?_ | with_reducible refine s_uasg ?_ | with_reducible refine ss_nil ?_ | with_reducible refine q_nx ?_ | with_reducible refine q_rt ?_ | with_reducible refine ts_nil ?_ | with_reducible refine lcd ?_ | with_reducible refine o_rt ?_ | with_reducible refine e_var (by with_unfolding_all rfl) ?_ | with_reducible refine t_var (by with_unfolding_all rfl) ?_ | with_reducible refine oo_mod (by omega) ?_ | with_reducible refine oo_fdiv (by omega) ?_ | with_reducible refine oo_mul (by omega) ?_ | with_reducible refine as_b ?_ | with_reducible refine as_i ?_ | with_reducible refine dec_t (by with_unfolding_all rfl) ?_ | with_reducible refine dec_f (by with_unfolding_all rfl) ?_ | with_reducible refine dec_t' (by with_unfolding_all rfl) ?_ | with_reducible refine dec_f' (by with_unfolding_all rfl) ?_ | with_reducible refine put_ok (by with_unfolding_all rfl) (by with_unfolding_all rfl) ?_ | with_reducible refine pg_cl ?_ | with_reducible refine pg_cl1 ?_ | with_reducible refine gd_rfl (by with_unfolding_all rfl) ?_ | with_reducible refine oo (by with_unfolding_all rfl) ?_)
  refine cok_imp (lett (k := k + 7) (by omega) (by omega) B) fun d s z => ?_
  obtain ⟨⟨z, rfl, z1, z2, z3⟩, c, rfl, B⟩ := z
  repeat (first | with_reducible refine ss_cons ?_ | with_reducible refine s_put ?_ | with_reducible refine s_asg ?_ | with_reducible refine s_asgo_lst ?_ | with_reducible refine s_ex ?_ | with_reducible refine s_ret ?_ | with_reducible refine s_iff ?_ | with_reducible refine s_for ?_ | with_reducible refine e_c ?_ | with_reducible refine e_glo ?_ | with_reducible refine e_lst ?_ | with_reducible refine e_tup ?_ | with_reducible refine e_newl ?_ | with_reducible refine e_bin ?_ | with_reducible refine e_cmp ?_ | with_reducible refine e_chn ?_ | with_reducible refine e_isn ?_ | with_reducible refine e_and ?_ | with_reducible refine e_or ?_ | with_reducible refine e_not ?_ | with_reducible refine e_ife ?_ | with_reducible refine e_call ?_ | with_reducible refine e_bi ?_ | with_reducible refine e_mt ?_ | with_reducible refine e_sub ?_ | with_reducible refine e_slc ?_ | with_reducible refine e_isi ?_ | with_reducible refine e_isiT ?_ | with_reducible refine e_lc ?_ | with_reducible refine e_op1 ?_ | with_reducible refine e_opn ?_ | with_reducible refine e_fst ?_ | with_reducible refine es_nil ?_ | with_reducible refine es_cons ?_ | with_reducible refine eo_no ?_ | with_reducible refine eo_yes ?_ | with_reducible refine ei_it ?_ | with_reducible refine ei_rng ?_ | with_reducible refine ei_zip ?_ | with_reducible refine ei_enm ?_ | with_reducible refine t_cmp ?_ | with_reducible refine t_isn ?_ | with_reducible refine t_and ?_ | with_reducible refine t_or ?_ | with_reducible refine t_not ?_ | with_reducible refine t_call ?_ | with_reducible refine t_isi ?_ | with_reducible refine t_isiT ?_ | with_reducible refine t_op1 ?_ | with_reducible refine t_opn ?_ | with_reducible refine o_neg ?_ | with_reducible refine o_fld ?_ | with_reducible refine o_isc ?_ | with_reducible refine o_gdic ?_ | with_reducible refine o_ccon ?_ | with_reducible refine f_nil ?_ | with_reducible refine f_cons ?_ | with_reducible refine s_sfld ?_ | with_reducible refine s_tasg ?_ | with_reducible refine s_uasg ?_ | with_reducible refine ss_nil ?_ | with_reducible refine q_nx ?_ | with_reducible refine q_rt ?_ | with_reducible refine ts_nil ?_ | with_reducible refine lcd ?_ | with_reducible refine o_rt ?_ | with_reducible refine e_var (by with_unfolding_all rfl) ?_ | with_reducible refine t_var (by with_unfolding_all rfl) ?_ | with_reducible refine oo_mod (by omega) ?_ | with_reducible refine oo_fdiv (by omega) ?_ | with_reducible refine oo_mul (by omega) ?_ | with_reducible refine as_b ?_ | with_reducible refine as_i ?_ | with_reducible refine dec_t (by with_unfolding_all rfl) ?_ | with_reducible refine dec_f (by with_unfolding_all rfl) ?_ | with_reducible refine dec_t' (by with_unfolding_all rfl) ?_ | with_reducible refine dec_f' (by with_unfolding_all rfl) ?_ | with_reducible refine put_ok (by with_unfolding_all rfl) (by with_unfolding_all rfl) ?_ | with_reducible refine pg_cl ?_ | with_reducible refine pg_cl1 ?_ | with_reducible refine gd_rfl (by with_unfolding_all rfl) ?_ | with_reducible refine oo (by with_unfolding_all rfl) ?_)
  refine cok_imp ((dr (k + 8)).of (by decide) (by decide) B) fun d s y => ?_
  obtain ⟨hd, c, rfl, B⟩ := y
  have : ∃ kd, d = .str kd ∧ KdOk kd := by
    simp only [List.mem_cons, List.not_mem_nil, or_false] at hd
    rcases hd with rfl | rfl | rfl
    · exact ⟨KI, rfl, .inl rfl⟩
    · exact ⟨KP, rfl, .inr (.inl rfl)⟩
    · exact ⟨KS, rfl, .inr (.inr rfl)⟩
  obtain ⟨kd, rfl, hk⟩ := this
  repeat (first | with_reducible refine ss_cons ?_ | with_reducible refine s_put ?_ | with_reducible refine s_asg ?_ | with_reducible refine s_asgo_lst ?_ | with_reducible refine s_ex ?_ | with_reducible refine s_ret ?_ | with_reducible refine s_iff ?_ | with_reducible refine s_for ?_ | with_reducible refine e_c ?_ | with_reducible refine e_glo ?_ | with_reducible refine e_lst ?_ | with_reducible refine e_tup ?_ | with_reducible refine e_newl ?_ | with_reducible refine e_bin ?_ | with_reducible refine e_cmp ?_ | with_reducible refine e_chn ?_ | with_reducible refine e_isn ?_ | with_reducible refine e_and ?_ | with_reducible refine e_or ?_ | with_reducible refine e_not ?_ | with_reducible refine e_ife ?_ | with_reducible refine e_call ?_ | with_reducible refine e_bi ?_ | with_reducible refine e_mt ?_ | with_reducible refine e_sub ?_ | with_reducible refine e_slc ?_ | with_reducible refine e_isi ?_ | with_reducible refine e_isiT ?_ | with_reducible refine e_lc ?_ | with_reducible refine e_op1 ?_ | with_reducible refine e_opn ?_ | with_reducible refine e_fst ?_ | with_reducible refine es_nil ?_ | with_reducible refine es_cons ?_ | with_reducible refine eo_no ?_ | with_reducible refine eo_yes ?_ | with_reducible refine ei_it ?_ | with_reducible refine ei_rng ?_ | with_reducible refine ei_zip ?_ | with_reducible refine ei_enm ?_ | with_reducible refine t_cmp ?_ | with_reducible refine t_isn ?_ | with_reducible refine t_and ?_ | with_reducible refine t_or ?_ | with_reducible refine t_not ?_ | with_reducible refine t_call ?_ | with_reducible refine t_isi ?_ | with_reducible refine t_isiT ?_ | with_reducible refine t_op1 ?_ | with_reducible refine t_opn ?_ | with_reducible refine o_neg ?_ | with_reducible refine o_fld ?_ | with_reducible refine o_isc ?_ | with_reducible refine o_gdic ?_ | with_reducible refine o_ccon ?_ | with_reducible refine f_nil ?_ | with_reducible refine f_cons ?_ | with_reducible refine s_sfld ?_ | with_reducible refine s_tasg ?_ | with_reducible refine s_uasg ?_ | with_reducible refine ss_nil ?_ | with_reducible refine q_nx ?_ | with_reducible refine q_rt ?_ | with_reducible refine ts_nil ?_ | with_reducible refine lcd ?_ | with_reducible refine o_rt ?_ | with_reducible refine e_var (by with_unfolding_all rfl) ?_ | with_reducible refine t_var (by with_unfolding_all rfl) ?_ | with_reducible refine oo_mod (by omega) ?_ | with_reducible refine oo_fdiv (by omega) ?_ | with_reducible refine oo_mul (by omega) ?_ | with_reducible refine as_b ?_ | with_reducible refine as_i ?_ | with_reducible refine dec_t (by with_unfolding_all rfl) ?_ | with_reducible refine dec_f (by with_unfolding_all rfl) ?_ | with_reducible refine dec_t' (by with_unfolding_all rfl) ?_ | with_reducible refine dec_f' (by with_unfolding_all rfl) ?_ | with_reducible refine put_ok (by with_unfolding_all rfl) (by with_unfolding_all rfl) ?_ | with_reducible refine pg_cl ?_ | with_reducible refine pg_cl1 ?_ | with_reducible refine gd_rfl (by with_unfolding_all rfl) ?_ | with_reducible refine oo (by with_unfolding_all rfl) ?_)
  exact ⟨rfl, c, z, kd, rfl, B, run_true z1 (by omega) z3, by omega, hk, rfl⟩
theorem st1 (B : BagOk c) : OT (denS (PG fs gn (k + 10)) lb1_1 (E5 ns d z kd x5 x6 x7 x8 x9 x10 x11) (c :: R)) (fun o e s => o = .nx ∧ ∃ c sd, s = c :: R ∧ BagOk c ∧ sd ∈ sds kd ∧ e = E5 ns d z kd (.sh (.str sd)) x6 x7 x8 x9 x10 x11) := by
  constructor
  dsimp only [lb1_1, E5]
  repeat (first | with_reducible refine ss_cons ?_ | with_reducible refine s_put ?_ | with_reducible refine s_asg ?_ | with_reducible refine s_asgo_lst ?_ | with_reducible refine s_ex ?_ | with_reducible refine s_ret ?_ | with_reducible refine s_iff ?_ | with_reducible refine s_for ?_ | with_reducible refine e_c ?_ | with_reducible refine e_glo ?_ | with_reducible refine e_lst ?_ | with_reducible refine e_tup ?_ | with_reducible refine e_newl ?_ | with_reducible refine e_bin ?_ | with_reducible refine e_cmp ?_ | with_reducible refine e_chn ?_ | with_reducible refine e_isn ?_ | with_reducible refine e_and ?_ | with_reducible refine e_or ?_ | with_reducible refine e_not ?_ | with_reducible refine e_ife ?_ | with_reducible refine e_call ?_ | with_reducible refine e_bi ?_ | with_reducible refine e_mt ?_ | with_reducible refine e_sub ?_ | with_reducible refine e_slc ?_ | with_reducible refine e_isi ?_ | with_reducible refine e_isiT ?_ | with_reducible refine e_lc ?_ | with_reducible refine e_op1 ?_ | with_reducible refine e_opn ?_ | with_reducible refine e_fst ?_ | with_reducible refine es_nil ?_ | with_reducible refine es_cons ?_ | with_reducible refine eo_no ?_ | with_reducible refine eo_yes ?_ | with_reducible refine ei_it ?_ | with_reducible refine ei_rng ?_ | with_reducible refine ei_zip ?_ | with_reducible refine ei_enm ?_ | with_reducible refine t_cmp ?_ | with_reducible refine t_isn ?_ | with_reducible refine t_and ?_ | with_reducible refine t_or ?_ | with_reducible refine t_not ?_ | with_reducible refine t_call ?_ | with_reducible refine t_isi ?_ | with_reducible refine t_isiT ?_ | with_reducible refine t_op1 ?_ | with_reducible refine t_opn ?_ | with_reducible refine o_neg ?_ | with_reducible refine o_fld ?_ | with_reducible refine o_isc ?_ | with_reducible refine o_gdic ?_ | with_reducible refine o_ccon ?_ | with_reducible refine f_nil ?_ | with_reducible refine f_cons ?_ | with_reducible refine s_sfld ?_ | with_reducible refine s_tasg ?_ | with_reducible refine s_uasg ?_ | with_reducible refine ss_nil ?_ | with_reducible refine q_nx ?_ | with_reducible refine q_rt ?_ | with_reducible refine ts_nil ?_ | with_reducible refine lcd ?_ | with_reducible refine o_rt ?_ | with_reducible refine e_var (by with_unfolding_all rfl) ?_ | with_reducible refine t_var (by with_unfolding_all rfl) ?_ | with_reducible refine oo_mod (by omega) ?_ | with_reducible refine oo_fdiv (by omega) ?_ | with_reducible refine oo_mul (by omega) ?_ | with_reducible refine as_b ?_ | with_reducible refine as_i ?_ | with_reducible refine dec_t (by with_unfolding_all rfl) ?_ | with_reducible refine dec_f (by with_unfolding_all rfl) ?_ | with_reducible refine dec_t' (by with_unfolding_all rfl) ?_ | with_reducible refine dec_f' (by with_unfolding_all rfl) ?_ | with_reducible refine put_ok (by with_unfolding_all rfl) (by with_unfolding_all rfl) ?_ | with_reducible refine pg_cl ?_ | with_reducible refine pg_cl1 ?_ | with_reducible refine gd_rfl (by with_unfolding_all rfl) ?_ | with_reducible refine oo (by with_unfolding_all rfl) ?_)
  refine ⟨fun h => ?_, fun h => ?_⟩
  · repeat (first | with_reducible refine ss_cons ?_ | with_reducible refine s_put ?_ | with_reducible refine s_asg ?_ | with_reducible refine s_asgo_lst ?_ | with_reducible refine s_ex ?_ | with_reducible refine s_ret ?_ | with_reducible refine s_iff ?_ | with_reducible refine s_for ?_ | with_reducible refine e_c ?_ | with_reducible refine e_glo ?_ | with_reducible refine e_lst ?_ | with_reducible refine e_tup ?_ | with_reducible refine e_newl ?_ | with_reducible refine e_bin ?_ | with_reducible refine e_cmp ?_ | with_reducible refine e_chn ?_ | with_reducible refine e_isn ?_ | with_reducible refine e_and ?_ | with_reducible refine e_or ?_ | with_reducible refine e_not ?_ | with_reducible refine e_ife ?_ | with_reducible refine e_call ?_ | with_reducible refine e_bi ?_ | with_reducible refine e_mt ?_ | with_reducible refine e_sub ?_ | with_reducible refine e_slc ?_ | with_reducible refine e_isi ?_ | with_reducible refine e_isiT ?_ | with_reducible refine e_lc ?_ | with_reducible refine e_op1 ?_ | with_reducible refine e_opn ?_ | with_reducible refine e_fst ?_ | with_reducible refine es_nil ?_ | with_reducible refine es_cons ?_ | with_reducible refine eo_no ?_ | with_reducible refine eo_yes ?_ | with_reducible refine ei_it ?_ | with_reducible refine ei_rng ?_ | with_reducible refine ei_zip ?_ | with_reducible refine ei_enm ?_ | with_reducible refine t_cmp ?_ | with_reducible refine t_isn ?_ | with_reducible refine t_and ?_ | with_reducible refine t_or ?_ | with_reducible refine t_not ?_ | with_reducible refine t_call ?_ | with_reducible refine t_isi ?_ | with_reducible refine t_isiT ?_ | with_reducible refine t_op1 ?_ | with_reducible refine t_opn ?_ | with_reducible refine o_neg ?_ | with_reducible refine o_fld ?_ | with_reducible refine o_isc ?_ | with_reducible refine o_gdic ?_ | with_reducible refine o_ccon ?_ | with_reducible refine f_nil ?_ | with_reducible refine f_cons ?_ | with_reducible refine s_sfld ?_ | with_reducible refine s_tasg ?_ | with_reducible refine s_uasg ?_ | with_reducible refine ss_nil ?_ | with_reducible refine q_nx ?_ | with_reducible refine q_rt ?_ | with_reducible refine ts_nil ?_ | with_reducible refine lcd ?_ | with_reducible refine o_rt ?_ | with_reducible refine e_var (by with_unfolding_all rfl) ?_ | with_reducible refine t_var (by with_unfolding_all rfl) ?_ | with_reducible refine oo_mod (by omega) ?_ | with_reducible refine oo_fdiv (by omega) ?_ | with_reducible refine oo_mul (by omega) ?_ | with_reducible refine as_b ?_ | with_reducible refine as_i ?_ | with_reducible refine dec_t (by with_unfolding_all rfl) ?_ | with_reducible refine dec_f (by with_unfolding_all rfl) ?_ | with_reducible refine dec_t' (by with_unfolding_all rfl) ?_ | with_reducible refine dec_f' (by with_unfolding_all rfl) ?_ | with_reducible refine put_ok (by with_unfolding_all rfl) (by with_unfolding_all rfl) ?_ | with_reducible refine pg_cl ?_ | with_reducible refine pg_cl1 ?_ | with_reducible refine gd_rfl (by with_unfolding_all rfl) ?_ | with_reducible refine oo (by with_unfolding_all rfl) ?_)
    refine cok_imp ((dr (k + 8)).of (by decide) (by decide) B) fun d s y => ?_
    obtain ⟨hd, c, rfl, B⟩ := y
    have hk : kd = KI := (by simpa using h : kd = [105, 110, 102, 105, 120])
    subst hk
    have : ∃ sd, d = .str sd ∧ sd ∈ sds KI := by
      simp only [List.mem_cons, List.not_mem_nil, or_false] at hd
      rcases hd with rfl | rfl | rfl
      · exact ⟨SL, rfl, by decide⟩
      · exact ⟨SR, rfl, by decide⟩
      · exact ⟨SN, rfl, by decide⟩
    obtain ⟨sd, rfl, hs⟩ := this
    exact ⟨rfl, c, sd, rfl, B, hs, rfl⟩
  · repeat (first | with_reducible refine ss_cons ?_ | with_reducible refine s_put ?_ | with_reducible refine s_asg ?_ | with_reducible refine s_asgo_lst ?_ | with_reducible refine s_ex ?_ | with_reducible refine s_ret ?_ | with_reducible refine s_iff ?_ | with_reducible refine s_for ?_ | with_reducible refine e_c ?_ | with_reducible refine e_glo ?_ | with_reducible refine e_lst ?_ | with_reducible refine e_tup ?_ | with_reducible refine e_newl ?_ | with_reducible refine e_bin ?_ | with_reducible refine e_cmp ?_ | with_reducible refine e_chn ?_ | with_reducible refine e_isn ?_ | with_reducible refine e_and ?_ | with_reducible refine e_or ?_ | with_reducible refine e_not ?_ | with_reducible refine e_ife ?_ | with_reducible refine e_call ?_ | with_reducible refine e_bi ?_ | with_reducible refine e_mt ?_ | with_reducible refine e_sub ?_ | with_reducible refine e_slc ?_ | with_reducible refine e_isi ?_ | with_reducible refine e_isiT ?_ | with_reducible refine e_lc ?_ | with_reducible refine e_op1 ?_ | with_reducible refine e_opn ?_ | with_reducible refine e_fst ?_ | with_reducible refine es_nil ?_ | with_reducible refine es_cons ?_ | with_reducible refine eo_no ?_ | with_reducible refine eo_yes ?_ | with_reducible refine ei_it ?_ | with_reducible refine ei_rng ?_ | with_reducible refine ei_zip ?_ | with_reducible refine ei_enm ?_ | with_reducible refine t_cmp ?_ | with_reducible refine t_isn ?_ | with_reducible refine t_and ?_ | with_reducible refine t_or ?_ | with_reducible refine t_not ?_ | with_reducible refine t_call ?_ | with_reducible refine t_isi ?_ | with_reducible refine t_isiT ?_ | with_reducible refine t_op1 ?_ | with_reducible refine t_opn ?_ | with_reducible refine o_neg ?_ | with_reducible refine o_fld ?_ | with_reducible refine o_isc ?_ | with_reducible refine o_gdic ?_ | with_reducible refine o_ccon ?_ | with_reducible refine f_nil ?_ | with_reducible refine f_cons ?_ | with_reducible refine s_sfld ?_ | with_reducible refine s_tasg ?_ | with_reducible refine s_uasg ?_ | with_reducible refine ss_nil ?_ | with_reducible refine q_nx ?_ | with_reducible refine q_rt ?_ | with_reducible refine ts_nil ?_ | with_reducible refine lcd ?_ | with_reducible refine o_rt ?_ | with_reducible refine e_var (by with_unfolding_all rfl) ?_ | with_reducible refine t_var (by with_unfolding_all rfl) ?_ | with_reducible refine oo_mod (by omega) ?_ | with_reducible refine oo_fdiv (by omega) ?_ | with_reducible refine oo_mul (by omega) ?_ | with_reducible refine as_b ?_ | with_reducible refine as_i ?_ | with_reducible refine dec_t (by with_unfolding_all rfl) ?_ | with_reducible refine dec_f (by with_unfolding_all rfl) ?_ | with_reducible refine dec_t' (by with_unfolding_all rfl) ?_ | with_reducible refine dec_f' (by with_unfolding_all rfl) ?_ | with_reducible refine put_ok (by with_unfolding_all rfl) (by with_unfolding_all rfl) ?_ | with_reducible refine pg_cl ?_ | with_reducible refine pg_cl1 ?_ | with_reducible refine gd_rfl (by with_unfolding_all rfl) ?_ | with_reducible refine oo (by with_unfolding_all rfl) ?_)
    refine cok_imp ((dr (k + 8)).of (by decide) (by decide) B) fun d s y => ?_
    obtain ⟨hd, c, rfl, B⟩ := y
    have hk : kd ≠ KI := by simpa [KI] using h
    have : ∃ sd, d = .str sd ∧ sd ∈ sds kd := by
      simp only [sds, if_neg hk]
      simp only [List.mem_cons, List.not_mem_nil, or_false] at hd
      rcases hd with rfl | rfl
      · exact ⟨SM, rfl, by decide⟩
      · exact ⟨SO, rfl, by decide⟩
    obtain ⟨sd, rfl, hs⟩ := this
    exact ⟨rfl, c, sd, rfl, B, hs, rfl⟩
theorem st2 (hr : runOf smallL 8 (.str z) = true) (hz : z.length ≤ 8) (G : GOk kd sd) : OT (denS (PG fs gn (k + 10)) lb1_2 (E5 ns d z kd (.sh (.str sd)) x6 x7 x8 x9 x10 x11) (c :: R)) (fun o e s => o = .nx ∧ ∃ R, s = c :: R ∧ e = E8 ns d z kd sd x8 x9 x10 x11) := by
  constructor
  have hl := txt_len hz G
  have hsum : z.length + kd.length + sd.length + 2 = (txt z kd sd).length := by simp [txt]; omega
  dsimp only [lb1_2, E5]
  repeat (first | with_reducible refine ss_cons ?_ | with_reducible refine s_put ?_ | with_reducible refine s_asg ?_ | with_reducible refine s_asgo_lst ?_ | with_reducible refine s_ex ?_ | with_reducible refine s_ret ?_ | with_reducible refine s_iff ?_ | with_reducible refine s_for ?_ | with_reducible refine e_c ?_ | with_reducible refine e_glo ?_ | with_reducible refine e_lst ?_ | with_reducible refine e_tup ?_ | with_reducible refine e_newl ?_ | with_reducible refine e_bin ?_ | with_reducible refine e_cmp ?_ | with_reducible refine e_chn ?_ | with_reducible refine e_isn ?_ | with_reducible refine e_and ?_ | with_reducible refine e_or ?_ | with_reducible refine e_not ?_ | with_reducible refine e_ife ?_ | with_reducible refine e_call ?_ | with_reducible refine e_bi ?_ | with_reducible refine e_mt ?_ | with_reducible refine e_sub ?_ | with_reducible refine e_slc ?_ | with_reducible refine e_isi ?_ | with_reducible refine e_isiT ?_ | with_reducible refine e_lc ?_ | with_reducible refine e_op1 ?_ | with_reducible refine e_opn ?_ | with_reducible refine e_fst ?_ | with_reducible refine es_nil ?_ | with_reducible refine es_cons ?_ | with_reducible refine eo_no ?_ | with_reducible refine eo_yes ?_ | with_reducible refine ei_it ?_ | with_reducible refine ei_rng ?_ | with_reducible refine ei_zip ?_ | with_reducible refine ei_enm ?_ | with_reducible refine t_cmp ?_ | with_reducible refine t_isn ?_ | with_reducible refine t_and ?_ | with_reducible refine t_or ?_ | with_reducible refine t_not ?_ | with_reducible refine t_call ?_ | with_reducible refine t_isi ?_ | with_reducible refine t_isiT ?_ | with_reducible refine t_op1 ?_ | with_reducible refine t_opn ?_ | with_reducible refine o_neg ?_ | with_reducible refine o_fld ?_ | with_reducible refine o_isc ?_ | with_reducible refine o_gdic ?_ | with_reducible refine o_ccon ?_ | with_reducible refine f_nil ?_ | with_reducible refine f_cons ?_ | with_reducible refine s_sfld ?_ | with_reducible refine s_tasg ?_ | with_reducible refine s_uasg ?_ | with_reducible refine ss_nil ?_ | with_reducible refine q_nx ?_ | with_reducible refine q_rt ?_ | with_reducible refine ts_nil ?_ | with_reducible refine lcd ?_ | with_reducible refine o_rt ?_ | with_reducible refine e_var (by with_unfolding_all rfl) ?_ | with_reducible refine t_var (by with_unfolding_all rfl) ?_ | with_reducible refine oo_mod (by omega) ?_ | with_reducible refine oo_fdiv (by omega) ?_ | with_reducible refine oo_mul (by omega) ?_ | with_reducible refine as_b ?_ | with_reducible refine as_i ?_ | with_reducible refine dec_t (by with_unfolding_all rfl) ?_ | with_reducible refine dec_f (by with_unfolding_all rfl) ?_ | with_reducible refine dec_t' (by with_unfolding_all rfl) ?_ | with_reducible refine dec_f' (by with_unfolding_all rfl) ?_ | with_reducible refine put_ok (by with_unfolding_all rfl) (by with_unfolding_all rfl) ?_ | with_reducible refine pg_cl ?_ | with_reducible refine pg_cl1 ?_ | with_reducible refine gd_rfl (by with_unfolding_all rfl) ?_ | with_reducible refine oo (by with_unfolding_all rfl) ?_)
  refine mk_ok (k := k + 6) rfl rfl rfl hr hz G (.inl rfl) ?_
  repeat (first | with_reducible refine ss_cons ?_ | with_reducible refine s_put ?_ | with_reducible refine s_asg ?_ | with_reducible refine s_asgo_lst ?_ | with_reducible refine s_ex ?_ | with_reducible refine s_ret ?_ | with_reducible refine s_iff ?_ | with_reducible refine s_for ?_ | with_reducible refine e_c ?_ | with_reducible refine e_glo ?_ | with_reducible refine e_lst ?_ | with_reducible refine e_tup ?_ | with_reducible refine e_newl ?_ | with_reducible refine e_bin ?_ | with_reducible refine e_cmp ?_ | with_reducible refine e_chn ?_ | with_reducible refine e_isn ?_ | with_reducible refine e_and ?_ | with_reducible refine e_or ?_ | with_reducible refine e_not ?_ | with_reducible refine e_ife ?_ | with_reducible refine e_call ?_ | with_reducible refine e_bi ?_ | with_reducible refine e_mt ?_ | with_reducible refine e_sub ?_ | with_reducible refine e_slc ?_ | with_reducible refine e_isi ?_ | with_reducible refine e_isiT ?_ | with_reducible refine e_lc ?_ | with_reducible refine e_op1 ?_ | with_reducible refine e_opn ?_ | with_reducible refine e_fst ?_ | with_reducible refine es_nil ?_ | with_reducible refine es_cons ?_ | with_reducible refine eo_no ?_ | with_reducible refine eo_yes ?_ | with_reducible refine ei_it ?_ | with_reducible refine ei_rng ?_ | with_reducible refine ei_zip ?_ | with_reducible refine ei_enm ?_ | with_reducible refine t_cmp ?_ | with_reducible refine t_isn ?_ | with_reducible refine t_and ?_ | with_reducible refine t_or ?_ | with_reducible refine t_not ?_ | with_reducible refine t_call ?_ | with_reducible refine t_isi ?_ | with_reducible refine t_isiT ?_ | with_reducible refine t_op1 ?_ | with_reducible refine t_opn ?_ | with_reducible refine o_neg ?_ | with_reducible refine o_fld ?_ | with_reducible refine o_isc ?_ | with_reducible refine o_gdic ?_ | with_reducible refine o_ccon ?_ | with_reducible refine f_nil ?_ | with_reducible refine f_cons ?_ | with_reducible refine s_sfld ?_ | with_reducible refine s_tasg ?_ | with_reducible refine s_uasg ?_ | with_reducible refine ss_nil ?_ | with_reducible refine q_nx ?_ | with_reducible refine q_rt ?_ | with_reducible refine ts_nil ?_ | with_reducible refine lcd ?_ | with_reducible refine o_rt ?_ | with_reducible refine e_var (by with_unfolding_all rfl) ?_ | with_reducible refine t_var (by with_unfolding_all rfl) ?_ | with_reducible refine oo_mod (by omega) ?_ | with_reducible refine oo_fdiv (by omega) ?_ | with_reducible refine oo_mul (by omega) ?_ | with_reducible refine as_b ?_ | with_reducible refine as_i ?_ | with_reducible refine dec_t (by with_unfolding_all rfl) ?_ | with_reducible refine dec_f (by with_unfolding_all rfl) ?_ | with_reducible refine dec_t' (by with_unfolding_all rfl) ?_ | with_reducible refine dec_f' (by with_unfolding_all rfl) ?_ | with_reducible refine put_ok (by with_unfolding_all rfl) (by with_unfolding_all rfl) ?_ | with_reducible refine pg_cl ?_ | with_reducible refine pg_cl1 ?_ | with_reducible refine gd_rfl (by with_unfolding_all rfl) ?_ | with_reducible refine oo (by with_unfolding_all rfl) ?_)
  refine oo_adds (by show _ ≤ 16777216; simp; omega) ?_
  repeat (first | with_reducible refine ss_cons ?_ | with_reducible refine s_put ?_ | with_reducible refine s_asg ?_ | with_reducible refine s_asgo_lst ?_ | with_reducible refine s_ex ?_ | with_reducible refine s_ret ?_ | with_reducible refine s_iff ?_ | with_reducible refine s_for ?_ | with_reducible refine e_c ?_ | with_reducible refine e_glo ?_ | with_reducible refine e_lst ?_ | with_reducible refine e_tup ?_ | with_reducible refine e_newl ?_ | with_reducible refine e_bin ?_ | with_reducible refine e_cmp ?_ | with_reducible refine e_chn ?_ | with_reducible refine e_isn ?_ | with_reducible refine e_and ?_ | with_reducible refine e_or ?_ | with_reducible refine e_not ?_ | with_reducible refine e_ife ?_ | with_reducible refine e_call ?_ | with_reducible refine e_bi ?_ | with_reducible refine e_mt ?_ | with_reducible refine e_sub ?_ | with_reducible refine e_slc ?_ | with_reducible refine e_isi ?_ | with_reducible refine e_isiT ?_ | with_reducible refine e_lc ?_ | with_reducible refine e_op1 ?_ | with_reducible refine e_opn ?_ | with_reducible refine e_fst ?_ | with_reducible refine es_nil ?_ | with_reducible refine es_cons ?_ | with_reducible refine eo_no ?_ | with_reducible refine eo_yes ?_ | with_reducible refine ei_it ?_ | with_reducible refine ei_rng ?_ | with_reducible refine ei_zip ?_ | with_reducible refine ei_enm ?_ | with_reducible refine t_cmp ?_ | with_reducible refine t_isn ?_ | with_reducible refine t_and ?_ | with_reducible refine t_or ?_ | with_reducible refine t_not ?_ | with_reducible refine t_call ?_ | with_reducible refine t_isi ?_ | with_reducible refine t_isiT ?_ | with_reducible refine t_op1 ?_ | with_reducible refine t_opn ?_ | with_reducible refine o_neg ?_ | with_reducible refine o_fld ?_ | with_reducible refine o_isc ?_ | with_reducible refine o_gdic ?_ | with_reducible refine o_ccon ?_ | with_reducible refine f_nil ?_ | with_reducible refine f_cons ?_ | with_reducible refine s_sfld ?_ | with_reducible refine s_tasg ?_ | with_reducible refine s_uasg ?_ | with_reducible refine ss_nil ?_ | with_reducible refine q_nx ?_ | with_reducible refine q_rt ?_ | with_reducible refine ts_nil ?_ | with_reducible refine lcd ?_ | with_reducible refine o_rt ?_ | with_reducible refine e_var (by with_unfolding_all rfl) ?_ | with_reducible refine t_var (by with_unfolding_all rfl) ?_ | with_reducible refine oo_mod (by omega) ?_ | with_reducible refine oo_fdiv (by omega) ?_ | with_reducible refine oo_mul (by omega) ?_ | with_reducible refine as_b ?_ | with_reducible refine as_i ?_ | with_reducible refine dec_t (by with_unfolding_all rfl) ?_ | with_reducible refine dec_f (by with_unfolding_all rfl) ?_ | with_reducible refine dec_t' (by with_unfolding_all rfl) ?_ | with_reducible refine dec_f' (by with_unfolding_all rfl) ?_ | with_reducible refine put_ok (by with_unfolding_all rfl) (by with_unfolding_all rfl) ?_ | with_reducible refine pg_cl ?_ | with_reducible refine pg_cl1 ?_ | with_reducible refine gd_rfl (by with_unfolding_all rfl) ?_ | with_reducible refine oo (by with_unfolding_all rfl) ?_)
  refine oo_adds (by show _ ≤ 16777216; simp; omega) ?_
  repeat (first | with_reducible refine ss_cons ?_ | with_reducible refine s_put ?_ | with_reducible refine s_asg ?_ | with_reducible refine s_asgo_lst ?_ | with_reducible refine s_ex ?_ | with_reducible refine s_ret ?_ | with_reducible refine s_iff ?_ | with_reducible refine s_for ?_ | with_reducible refine e_c ?_ | with_reducible refine e_glo ?_ | with_reducible refine e_lst ?_ | with_reducible refine e_tup ?_ | with_reducible refine e_newl ?_ | with_reducible refine e_bin ?_ | with_reducible refine e_cmp ?_ | with_reducible refine e_chn ?_ | with_reducible refine e_isn ?_ | with_reducible refine e_and ?_ | with_reducible refine e_or ?_ | with_reducible refine e_not ?_ | with_reducible refine e_ife ?_ | with_reducible refine e_call ?_ | with_reducible refine e_bi ?_ | with_reducible refine e_mt ?_ | with_reducible refine e_sub ?_ | with_reducible refine e_slc ?_ | with_reducible refine e_isi ?_ | with_reducible refine e_isiT ?_ | with_reducible refine e_lc ?_ | with_reducible refine e_op1 ?_ | with_reducible refine e_opn ?_ | with_reducible refine e_fst ?_ | with_reducible refine es_nil ?_ | with_reducible refine es_cons ?_ | with_reducible refine eo_no ?_ | with_reducible refine eo_yes ?_ | with_reducible refine ei_it ?_ | with_reducible refine ei_rng ?_ | with_reducible refine ei_zip ?_ | with_reducible refine ei_enm ?_ | with_reducible refine t_cmp ?_ | with_reducible refine t_isn ?_ | with_reducible refine t_and ?_ | with_reducible refine t_or ?_ | with_reducible refine t_not ?_ | with_reducible refine t_call ?_ | with_reducible refine t_isi ?_ | with_reducible refine t_isiT ?_ | with_reducible refine t_op1 ?_ | with_reducible refine t_opn ?_ | with_reducible refine o_neg ?_ | with_reducible refine o_fld ?_ | with_reducible refine o_isc ?_ | with_reducible refine o_gdic ?_ | with_reducible refine o_ccon ?_ | with_reducible refine f_nil ?_ | with_reducible refine f_cons ?_ | with_reducible refine s_sfld ?_ | with_reducible refine s_tasg ?_ | with_reducible refine s_uasg ?_ | with_reducible refine ss_nil ?_ | with_reducible refine q_nx ?_ | with_reducible refine q_rt ?_ | with_reducible refine ts_nil ?_ | with_reducible refine lcd ?_ | with_reducible refine o_rt ?_ | with_reducible refine e_var (by with_unfolding_all rfl) ?_ | with_reducible refine t_var (by with_unfolding_all rfl) ?_ | with_reducible refine oo_mod (by omega) ?_ | with_reducible refine oo_fdiv (by omega) ?_ | with_reducible refine oo_mul (by omega) ?_ | with_reducible refine as_b ?_ | with_reducible refine as_i ?_ | with_reducible refine dec_t (by with_unfolding_all rfl) ?_ | with_reducible refine dec_f (by with_unfolding_all rfl) ?_ | with_reducible refine dec_t' (by with_unfolding_all rfl) ?_ | with_reducible refine dec_f' (by with_unfolding_all rfl) ?_ | with_reducible refine put_ok (by with_unfolding_all rfl) (by with_unfolding_all rfl) ?_ | with_reducible refine pg_cl ?_ | with_reducible refine pg_cl1 ?_ | with_reducible refine gd_rfl (by with_unfolding_all rfl) ?_ | with_reducible refine oo (by with_unfolding_all rfl) ?_)
  refine oo_adds (by show _ ≤ 16777216; simp; omega) ?_
  repeat (first | with_reducible refine ss_cons ?_ | with_reducible refine s_put ?_ | with_reducible refine s_asg ?_ | with_reducible refine s_asgo_lst ?_ | with_reducible refine s_ex ?_ | with_reducible refine s_ret ?_ | with_reducible refine s_iff ?_ | with_reducible refine s_for ?_ | with_reducible refine e_c ?_ | with_reducible refine e_glo ?_ | with_reducible refine e_lst ?_ | with_reducible refine e_tup ?_ | with_reducible refine e_newl ?_ | with_reducible refine e_bin ?_ | with_reducible refine e_cmp ?_ | with_reducible refine e_chn ?_ | with_reducible refine e_isn ?_ | with_reducible refine e_and ?_ | with_reducible refine e_or ?_ | with_reducible refine e_not ?_ | with_reducible refine e_ife ?_ | with_reducible refine e_call ?_ | with_reducible refine e_bi ?_ | with_reducible refine e_mt ?_ | with_reducible refine e_sub ?_ | with_reducible refine e_slc ?_ | with_reducible refine e_isi ?_ | with_reducible refine e_isiT ?_ | with_reducible refine e_lc ?_ | with_reducible refine e_op1 ?_ | with_reducible refine e_opn ?_ | with_reducible refine e_fst ?_ | with_reducible refine es_nil ?_ | with_reducible refine es_cons ?_ | with_reducible refine eo_no ?_ | with_reducible refine eo_yes ?_ | with_reducible refine ei_it ?_ | with_reducible refine ei_rng ?_ | with_reducible refine ei_zip ?_ | with_reducible refine ei_enm ?_ | with_reducible refine t_cmp ?_ | with_reducible refine t_isn ?_ | with_reducible refine t_and ?_ | with_reducible refine t_or ?_ | with_reducible refine t_not ?_ | with_reducible refine t_call ?_ | with_reducible refine t_isi ?_ | with_reducible refine t_isiT ?_ | with_reducible refine t_op1 ?_ | with_reducible refine t_opn ?_ | with_reducible refine o_neg ?_ | with_reducible refine o_fld ?_ | with_reducible refine o_isc ?_ | with_reducible refine o_gdic ?_ | with_reducible refine o_ccon ?_ | with_reducible refine f_nil ?_ | with_reducible refine f_cons ?_ | with_reducible refine s_sfld ?_ | with_reducible refine s_tasg ?_ | with_reducible refine s_uasg ?_ | with_reducible refine ss_nil ?_ | with_reducible refine q_nx ?_ | with_reducible refine q_rt ?_ | with_reducible refine ts_nil ?_ | with_reducible refine lcd ?_ | with_reducible refine o_rt ?_ | with_reducible refine e_var (by with_unfolding_all rfl) ?_ | with_reducible refine t_var (by with_unfolding_all rfl) ?_ | with_reducible refine oo_mod (by omega) ?_ | with_reducible refine oo_fdiv (by omega) ?_ | with_reducible refine oo_mul (by omega) ?_ | with_reducible refine as_b ?_ | with_reducible refine as_i ?_ | with_reducible refine dec_t (by with_unfolding_all rfl) ?_ | with_reducible refine dec_f (by with_unfolding_all rfl) ?_ | with_reducible refine dec_t' (by with_unfolding_all rfl) ?_ | with_reducible refine dec_f' (by with_unfolding_all rfl) ?_ | with_reducible refine put_ok (by with_unfolding_all rfl) (by with_unfolding_all rfl) ?_ | with_reducible refine pg_cl ?_ | with_reducible refine pg_cl1 ?_ | with_reducible refine gd_rfl (by with_unfolding_all rfl) ?_ | with_reducible refine oo (by with_unfolding_all rfl) ?_)
  refine oo_adds (by show _ ≤ 16777216; simp; omega) ?_
  repeat (first | with_reducible refine ss_cons ?_ | with_reducible refine s_put ?_ | with_reducible refine s_asg ?_ | with_reducible refine s_asgo_lst ?_ | with_reducible refine s_ex ?_ | with_reducible refine s_ret ?_ | with_reducible refine s_iff ?_ | with_reducible refine s_for ?_ | with_reducible refine e_c ?_ | with_reducible refine e_glo ?_ | with_reducible refine e_lst ?_ | with_reducible refine e_tup ?_ | with_reducible refine e_newl ?_ | with_reducible refine e_bin ?_ | with_reducible refine e_cmp ?_ | with_reducible refine e_chn ?_ | with_reducible refine e_isn ?_ | with_reducible refine e_and ?_ | with_reducible refine e_or ?_ | with_reducible refine e_not ?_ | with_reducible refine e_ife ?_ | with_reducible refine e_call ?_ | with_reducible refine e_bi ?_ | with_reducible refine e_mt ?_ | with_reducible refine e_sub ?_ | with_reducible refine e_slc ?_ | with_reducible refine e_isi ?_ | with_reducible refine e_isiT ?_ | with_reducible refine e_lc ?_ | with_reducible refine e_op1 ?_ | with_reducible refine e_opn ?_ | with_reducible refine e_fst ?_ | with_reducible refine es_nil ?_ | with_reducible refine es_cons ?_ | with_reducible refine eo_no ?_ | with_reducible refine eo_yes ?_ | with_reducible refine ei_it ?_ | with_reducible refine ei_rng ?_ | with_reducible refine ei_zip ?_ | with_reducible refine ei_enm ?_ | with_reducible refine t_cmp ?_ | with_reducible refine t_isn ?_ | with_reducible refine t_and ?_ | with_reducible refine t_or ?_ | with_reducible refine t_not ?_ | with_reducible refine t_call ?_ | with_reducible refine t_isi ?_ | with_reducible refine t_isiT ?_ | with_reducible refine t_op1 ?_ | with_reducible refine t_opn ?_ | with_reducible refine o_neg ?_ | with_reducible refine o_fld ?_ | with_reducible refine o_isc ?_ | with_reducible refine o_gdic ?_ | with_reducible refine o_ccon ?_ | with_reducible refine f_nil ?_ | with_reducible refine f_cons ?_ | with_reducible refine s_sfld ?_ | with_reducible refine s_tasg ?_ | with_reducible refine s_uasg ?_ | with_reducible refine ss_nil ?_ | with_reducible refine q_nx ?_ | with_reducible refine q_rt ?_ | with_reducible refine ts_nil ?_ | with_reducible refine lcd ?_ | with_reducible refine o_rt ?_ | with_reducible refine e_var (by with_unfolding_all rfl) ?_ | with_reducible refine t_var (by with_unfolding_all rfl) ?_ | with_reducible refine oo_mod (by omega) ?_ | with_reducible refine oo_fdiv (by omega) ?_ | with_reducible refine oo_mul (by omega) ?_ | with_reducible refine as_b ?_ | with_reducible refine as_i ?_ | with_reducible refine dec_t (by with_unfolding_all rfl) ?_ | with_reducible refine dec_f (by with_unfolding_all rfl) ?_ | with_reducible refine dec_t' (by with_unfolding_all rfl) ?_ | with_reducible refine dec_f' (by with_unfolding_all rfl) ?_ | with_reducible refine put_ok (by with_unfolding_all rfl) (by with_unfolding_all rfl) ?_ | with_reducible refine pg_cl ?_ | with_reducible refine pg_cl1 ?_ | with_reducible refine gd_rfl (by with_unfolding_all rfl) ?_ | with_reducible refine oo (by with_unfolding_all rfl) ?_)
  exact ⟨rfl, _, rfl, rfl⟩
theorem st3 (hl : (txt z kd sd).length ≤ 100) : OT (denS (PG fs gn (k + 10)) lb1_3 (E8 ns d z kd sd x8 x9 x10 x11) (c :: R)) (fun o e s => o = .nx ∧ s = c :: R ∧ e = E8 ns d z kd sd (.sh (lstG z kd sd)) x9 x10 x11) := by
  constructor
  dsimp only [lb1_3, E8]
  repeat (first | with_reducible refine ss_cons ?_ | with_reducible refine s_put ?_ | with_reducible refine s_asg ?_ | with_reducible refine s_asgo_lst ?_ | with_reducible refine s_ex ?_ | with_reducible refine s_ret ?_ | with_reducible refine s_iff ?_ | with_reducible refine s_for ?_ | with_reducible refine e_c ?_ | with_reducible refine e_glo ?_ | with_reducible refine e_lst ?_ | with_reducible refine e_tup ?_ | with_reducible refine e_newl ?_ | with_reducible refine e_bin ?_ | with_reducible refine e_cmp ?_ | with_reducible refine e_chn ?_ | with_reducible refine e_isn ?_ | with_reducible refine e_and ?_ | with_reducible refine e_or ?_ | with_reducible refine e_not ?_ | with_reducible refine e_ife ?_ | with_reducible refine e_call ?_ | with_reducible refine e_bi ?_ | with_reducible refine e_mt ?_ | with_reducible refine e_sub ?_ | with_reducible refine e_slc ?_ | with_reducible refine e_isi ?_ | with_reducible refine e_isiT ?_ | with_reducible refine e_lc ?_ | with_reducible refine e_op1 ?_ | with_reducible refine e_opn ?_ | with_reducible refine e_fst ?_ | with_reducible refine es_nil ?_ | with_reducible refine es_cons ?_ | with_reducible refine eo_no ?_ | with_reducible refine eo_yes ?_ | with_reducible refine ei_it ?_ | with_reducible refine ei_rng ?_ | with_reducible refine ei_zip ?_ | with_reducible refine ei_enm ?_ | with_reducible refine t_cmp ?_ | with_reducible refine t_isn ?_ | with_reducible refine t_and ?_ | with_reducible refine t_or ?_ | with_reducible refine t_not ?_ | with_reducible refine t_call ?_ | with_reducible refine t_isi ?_ | with_reducible refine t_isiT ?_ | with_reducible refine t_op1 ?_ | with_reducible refine t_opn ?_ | with_reducible refine o_neg ?_ | with_reducible refine o_fld ?_ | with_reducible refine o_isc ?_ | with_reducible refine o_gdic ?_ | with_reducible refine o_ccon ?_ | with_reducible refine f_nil ?_ | with_reducible refine f_cons ?_ | with_reducible refine s_sfld ?_ | with_reducible refine s_tasg ?_ | with_reducible refine s_uasg ?_ | with_reducible refine ss_nil ?_ | with_reducible refine q_nx ?_ | with_reducible refine q_rt ?_ | with_reducible refine ts_nil ?_ | with_reducible refine lcd ?_ | with_reducible refine o_rt ?_ | with_reducible refine e_var (by with_unfolding_all rfl) ?_ | with_reducible refine t_var (by with_unfolding_all rfl) ?_ | with_reducible refine oo_mod (by omega) ?_ | with_reducible refine oo_fdiv (by omega) ?_ | with_reducible refine oo_mul (by omega) ?_ | with_reducible refine as_b ?_ | with_reducible refine as_i ?_ | with_reducible refine dec_t (by with_unfolding_all rfl) ?_ | with_reducible refine dec_f (by with_unfolding_all rfl) ?_ | with_reducible refine dec_t' (by with_unfolding_all rfl) ?_ | with_reducible refine dec_f' (by with_unfolding_all rfl) ?_ | with_reducible refine put_ok (by with_unfolding_all rfl) (by with_unfolding_all rfl) ?_ | with_reducible refine pg_cl ?_ | with_reducible refine pg_cl1 ?_ | with_reducible refine gd_rfl (by with_unfolding_all rfl) ?_ | with_reducible refine oo (by with_unfolding_all rfl) ?_)
  refine o_orep rfl rfl ?_
  refine cok_imp (rep_ok (k := k + 8) hl) fun d s y => ?_
  obtain ⟨rfl, rfl⟩ := y
  refine ⟨_, rfl, ?_⟩
  repeat (first | with_reducible refine ss_cons ?_ | with_reducible refine s_put ?_ | with_reducible refine s_asg ?_ | with_reducible refine s_asgo_lst ?_ | with_reducible refine s_ex ?_ | with_reducible refine s_ret ?_ | with_reducible refine s_iff ?_ | with_reducible refine s_for ?_ | with_reducible refine e_c ?_ | with_reducible refine e_glo ?_ | with_reducible refine e_lst ?_ | with_reducible refine e_tup ?_ | with_reducible refine e_newl ?_ | with_reducible refine e_bin ?_ | with_reducible refine e_cmp ?_ | with_reducible refine e_chn ?_ | with_reducible refine e_isn ?_ | with_reducible refine e_and ?_ | with_reducible refine e_or ?_ | with_reducible refine e_not ?_ | with_reducible refine e_ife ?_ | with_reducible refine e_call ?_ | with_reducible refine e_bi ?_ | with_reducible refine e_mt ?_ | with_reducible refine e_sub ?_ | with_reducible refine e_slc ?_ | with_reducible refine e_isi ?_ | with_reducible refine e_isiT ?_ | with_reducible refine e_lc ?_ | with_reducible refine e_op1 ?_ | with_reducible refine e_opn ?_ | with_reducible refine e_fst ?_ | with_reducible refine es_nil ?_ | with_reducible refine es_cons ?_ | with_reducible refine eo_no ?_ | with_reducible refine eo_yes ?_ | with_reducible refine ei_it ?_ | with_reducible refine ei_rng ?_ | with_reducible refine ei_zip ?_ | with_reducible refine ei_enm ?_ | with_reducible refine t_cmp ?_ | with_reducible refine t_isn ?_ | with_reducible refine t_and ?_ | with_reducible refine t_or ?_ | with_reducible refine t_not ?_ | with_reducible refine t_call ?_ | with_reducible refine t_isi ?_ | with_reducible refine t_isiT ?_ | with_reducible refine t_op1 ?_ | with_reducible refine t_opn ?_ | with_reducible refine o_neg ?_ | with_reducible refine o_fld ?_ | with_reducible refine o_isc ?_ | with_reducible refine o_gdic ?_ | with_reducible refine o_ccon ?_ | with_reducible refine f_nil ?_ | with_reducible refine f_cons ?_ | with_reducible refine s_sfld ?_ | with_reducible refine s_tasg ?_ | with_reducible refine s_uasg ?_ | with_reducible refine ss_nil ?_ | with_reducible refine q_nx ?_ | with_reducible refine q_rt ?_ | with_reducible refine ts_nil ?_ | with_reducible refine lcd ?_ | with_reducible refine o_rt ?_ | with_reducible refine e_var (by with_unfolding_all rfl) ?_ | with_reducible refine t_var (by with_unfolding_all rfl) ?_ | with_reducible refine oo_mod (by omega) ?_ | with_reducible refine oo_fdiv (by omega) ?_ | with_reducible refine oo_mul (by omega) ?_ | with_reducible refine as_b ?_ | with_reducible refine as_i ?_ | with_reducible refine dec_t (by with_unfolding_all rfl) ?_ | with_reducible refine dec_f (by with_unfolding_all rfl) ?_ | with_reducible refine dec_t' (by with_unfolding_all rfl) ?_ | with_reducible refine dec_f' (by with_unfolding_all rfl) ?_ | with_reducible refine put_ok (by with_unfolding_all rfl) (by with_unfolding_all rfl) ?_ | with_reducible refine pg_cl ?_ | with_reducible refine pg_cl1 ?_ | with_reducible refine gd_rfl (by with_unfolding_all rfl) ?_ | with_reducible refine oo (by with_unfolding_all rfl) ?_)
  exact ⟨rfl, rfl, rfl⟩
theorem lstG_plain : PlainN 1 (lstG z kd sd) := by simp [lstG, PlainN]
theorem st4 (hl : (txt z kd sd).length ≤ 100) : OT (denS (PG fs gn (k + 10)) lb1_4 (E8 ns d z kd sd (.sh (lstG z kd sd)) x9 x10 x11) (c :: R)) (fun o e s => o = .nx ∧ s = c :: R ∧ e = E8 ns d z kd sd (.sh (lstG z kd sd)) x9 x10 x11) := by
  constructor
  dsimp only [lb1_4, E8]
  repeat (first | with_reducible refine ss_cons ?_ | with_reducible refine s_put ?_ | with_reducible refine s_asg ?_ | with_reducible refine s_asgo_lst ?_ | with_reducible refine s_ex ?_ | with_reducible refine s_ret ?_ | with_reducible refine s_iff ?_ | with_reducible refine s_for ?_ | with_reducible refine e_c ?_ | with_reducible refine e_glo ?_ | with_reducible refine e_lst ?_ | with_reducible refine e_tup ?_ | with_reducible refine e_newl ?_ | with_reducible refine e_bin ?_ | with_reducible refine e_cmp ?_ | with_reducible refine e_chn ?_ | with_reducible refine e_isn ?_ | with_reducible refine e_and ?_ | with_reducible refine e_or ?_ | with_reducible refine e_not ?_ | with_reducible refine e_ife ?_ | with_reducible refine e_call ?_ | with_reducible refine e_bi ?_ | with_reducible refine e_mt ?_ | with_reducible refine e_sub ?_ | with_reducible refine e_slc ?_ | with_reducible refine e_isi ?_ | with_reducible refine e_isiT ?_ | with_reducible refine e_lc ?_ | with_reducible refine e_op1 ?_ | with_reducible refine e_opn ?_ | with_reducible refine e_fst ?_ | with_reducible refine es_nil ?_ | with_reducible refine es_cons ?_ | with_reducible refine eo_no ?_ | with_reducible refine eo_yes ?_ | with_reducible refine ei_it ?_ | with_reducible refine ei_rng ?_ | with_reducible refine ei_zip ?_ | with_reducible refine ei_enm ?_ | with_reducible refine t_cmp ?_ | with_reducible refine t_isn ?_ | with_reducible refine t_and ?_ | with_reducible refine t_or ?_ | with_reducible refine t_not ?_ | with_reducible refine t_call ?_ | with_reducible refine t_isi ?_ | with_reducible refine t_isiT ?_ | with_reducible refine t_op1 ?_ | with_reducible refine t_opn ?_ | with_reducible refine o_neg ?_ | with_reducible refine o_fld ?_ | with_reducible refine o_isc ?_ | with_reducible refine o_gdic ?_ | with_reducible refine o_ccon ?_ | with_reducible refine f_nil ?_ | with_reducible refine f_cons ?_ | with_reducible refine s_sfld ?_ | with_reducible refine s_tasg ?_ | with_reducible refine s_uasg ?_ | with_reducible refine ss_nil ?_ | with_reducible refine q_nx ?_ | with_reducible refine q_rt ?_ | with_reducible refine ts_nil ?_ | with_reducible refine lcd ?_ | with_reducible refine o_rt ?_ | with_reducible refine e_var (by with_unfolding_all rfl) ?_ | with_reducible refine t_var (by with_unfolding_all rfl) ?_ | with_reducible refine oo_mod (by omega) ?_ | with_reducible refine oo_fdiv (by omega) ?_ | with_reducible refine oo_mul (by omega) ?_ | with_reducible refine as_b ?_ | with_reducible refine as_i ?_ | with_reducible refine dec_t (by with_unfolding_all rfl) ?_ | with_reducible refine dec_f (by with_unfolding_all rfl) ?_ | with_reducible refine dec_t' (by with_unfolding_all rfl) ?_ | with_reducible refine dec_f' (by with_unfolding_all rfl) ?_ | with_reducible refine put_ok (by with_unfolding_all rfl) (by with_unfolding_all rfl) ?_ | with_reducible refine pg_cl ?_ | with_reducible refine pg_cl1 ?_ | with_reducible refine gd_rfl (by with_unfolding_all rfl) ?_ | with_reducible refine oo (by with_unfolding_all rfl) ?_)
  refine oo_adds (by show _ ≤ 16777216; simp; omega) ?_
  refine oo_adds (by show _ ≤ 16777216; simp; omega) ?_
  repeat (first | with_reducible refine ss_cons ?_ | with_reducible refine s_put ?_ | with_reducible refine s_asg ?_ | with_reducible refine s_asgo_lst ?_ | with_reducible refine s_ex ?_ | with_reducible refine s_ret ?_ | with_reducible refine s_iff ?_ | with_reducible refine s_for ?_ | with_reducible refine e_c ?_ | with_reducible refine e_glo ?_ | with_reducible refine e_lst ?_ | with_reducible refine e_tup ?_ | with_reducible refine e_newl ?_ | with_reducible refine e_bin ?_ | with_reducible refine e_cmp ?_ | with_reducible refine e_chn ?_ | with_reducible refine e_isn ?_ | with_reducible refine e_and ?_ | with_reducible refine e_or ?_ | with_reducible refine e_not ?_ | with_reducible refine e_ife ?_ | with_reducible refine e_call ?_ | with_reducible refine e_bi ?_ | with_reducible refine e_mt ?_ | with_reducible refine e_sub ?_ | with_reducible refine e_slc ?_ | with_reducible refine e_isi ?_ | with_reducible refine e_isiT ?_ | with_reducible refine e_lc ?_ | with_reducible refine e_op1 ?_ | with_reducible refine e_opn ?_ | with_reducible refine e_fst ?_ | with_reducible refine es_nil ?_ | with_reducible refine es_cons ?_ | with_reducible refine eo_no ?_ | with_reducible refine eo_yes ?_ | with_reducible refine ei_it ?_ | with_reducible refine ei_rng ?_ | with_reducible refine ei_zip ?_ | with_reducible refine ei_enm ?_ | with_reducible refine t_cmp ?_ | with_reducible refine t_isn ?_ | with_reducible refine t_and ?_ | with_reducible refine t_or ?_ | with_reducible refine t_not ?_ | with_reducible refine t_call ?_ | with_reducible refine t_isi ?_ | with_reducible refine t_isiT ?_ | with_reducible refine t_op1 ?_ | with_reducible refine t_opn ?_ | with_reducible refine o_neg ?_ | with_reducible refine o_fld ?_ | with_reducible refine o_isc ?_ | with_reducible refine o_gdic ?_ | with_reducible refine o_ccon ?_ | with_reducible refine f_nil ?_ | with_reducible refine f_cons ?_ | with_reducible refine s_sfld ?_ | with_reducible refine s_tasg ?_ | with_reducible refine s_uasg ?_ | with_reducible refine ss_nil ?_ | with_reducible refine q_nx ?_ | with_reducible refine q_rt ?_ | with_reducible refine ts_nil ?_ | with_reducible refine lcd ?_ | with_reducible refine o_rt ?_ | with_reducible refine e_var (by with_unfolding_all rfl) ?_ | with_reducible refine t_var (by with_unfolding_all rfl) ?_ | with_reducible refine oo_mod (by omega) ?_ | with_reducible refine oo_fdiv (by omega) ?_ | with_reducible refine oo_mul (by omega) ?_ | with_reducible refine as_b ?_ | with_reducible refine as_i ?_ | with_reducible refine dec_t (by with_unfolding_all rfl) ?_ | with_reducible refine dec_f (by with_unfolding_all rfl) ?_ | with_reducible refine dec_t' (by with_unfolding_all rfl) ?_ | with_reducible refine dec_f' (by with_unfolding_all rfl) ?_ | with_reducible refine put_ok (by with_unfolding_all rfl) (by with_unfolding_all rfl) ?_ | with_reducible refine pg_cl ?_ | with_reducible refine pg_cl1 ?_ | with_reducible refine gd_rfl (by with_unfolding_all rfl) ?_ | with_reducible refine oo (by with_unfolding_all rfl) ?_)
  refine ct_imp (same1 (k := k + 8) (d := lstG z kd sd) lstG_plain) fun d s y => ?_
  obtain ⟨rfl, rfl⟩ := y
  repeat (first | with_reducible refine ss_cons ?_ | with_reducible refine s_put ?_ | with_reducible refine s_asg ?_ | with_reducible refine s_asgo_lst ?_ | with_reducible refine s_ex ?_ | with_reducible refine s_ret ?_ | with_reducible refine s_iff ?_ | with_reducible refine s_for ?_ | with_reducible refine e_c ?_ | with_reducible refine e_glo ?_ | with_reducible refine e_lst ?_ | with_reducible refine e_tup ?_ | with_reducible refine e_newl ?_ | with_reducible refine e_bin ?_ | with_reducible refine e_cmp ?_ | with_reducible refine e_chn ?_ | with_reducible refine e_isn ?_ | with_reducible refine e_and ?_ | with_reducible refine e_or ?_ | with_reducible refine e_not ?_ | with_reducible refine e_ife ?_ | with_reducible refine e_call ?_ | with_reducible refine e_bi ?_ | with_reducible refine e_mt ?_ | with_reducible refine e_sub ?_ | with_reducible refine e_slc ?_ | with_reducible refine e_isi ?_ | with_reducible refine e_isiT ?_ | with_reducible refine e_lc ?_ | with_reducible refine e_op1 ?_ | with_reducible refine e_opn ?_ | with_reducible refine e_fst ?_ | with_reducible refine es_nil ?_ | with_reducible refine es_cons ?_ | with_reducible refine eo_no ?_ | with_reducible refine eo_yes ?_ | with_reducible refine ei_it ?_ | with_reducible refine ei_rng ?_ | with_reducible refine ei_zip ?_ | with_reducible refine ei_enm ?_ | with_reducible refine t_cmp ?_ | with_reducible refine t_isn ?_ | with_reducible refine t_and ?_ | with_reducible refine t_or ?_ | with_reducible refine t_not ?_ | with_reducible refine t_call ?_ | with_reducible refine t_isi ?_ | with_reducible refine t_isiT ?_ | with_reducible refine t_op1 ?_ | with_reducible refine t_opn ?_ | with_reducible refine o_neg ?_ | with_reducible refine o_fld ?_ | with_reducible refine o_isc ?_ | with_reducible refine o_gdic ?_ | with_reducible refine o_ccon ?_ | with_reducible refine f_nil ?_ | with_reducible refine f_cons ?_ | with_reducible refine s_sfld ?_ | with_reducible refine s_tasg ?_ | with_reducible refine s_uasg ?_ | with_reducible refine ss_nil ?_ | with_reducible refine q_nx ?_ | with_reducible refine q_rt ?_ | with_reducible refine ts_nil ?_ | with_reducible refine lcd ?_ | with_reducible refine o_rt ?_ | with_reducible refine e_var (by with_unfolding_all rfl) ?_ | with_reducible refine t_var (by with_unfolding_all rfl) ?_ | with_reducible refine oo_mod (by omega) ?_ | with_reducible refine oo_fdiv (by omega) ?_ | with_reducible refine oo_mul (by omega) ?_ | with_reducible refine as_b ?_ | with_reducible refine as_i ?_ | with_reducible refine dec_t (by with_unfolding_all rfl) ?_ | with_reducible refine dec_f (by with_unfolding_all rfl) ?_ | with_reducible refine dec_t' (by with_unfolding_all rfl) ?_ | with_reducible refine dec_f' (by with_unfolding_all rfl) ?_ | with_reducible refine put_ok (by with_unfolding_all rfl) (by with_unfolding_all rfl) ?_ | with_reducible refine pg_cl ?_ | with_reducible refine pg_cl1 ?_ | with_reducible refine gd_rfl (by with_unfolding_all rfl) ?_ | with_reducible refine oo (by with_unfolding_all rfl) ?_)
  exact ⟨rfl, rfl, rfl⟩
theorem st5 (hk : KdOk kd) : OT (denS (PG fs gn (k + 10)) lb1_5 (E8 ns d z kd sd x8 x9 x10 x11) (c :: R)) (fun o e s => o = .nx ∧ s = c :: R ∧ e = E8 ns d z kd sd x8 (.sh (.str (usual kd))) x10 x11) := by
  constructor
  dsimp only [lb1_5, E8]
  repeat (first | with_reducible refine ss_cons ?_ | with_reducible refine s_put ?_ | with_reducible refine s_asg ?_ | with_reducible refine s_asgo_lst ?_ | with_reducible refine s_ex ?_ | with_reducible refine s_ret ?_ | with_reducible refine s_iff ?_ | with_reducible refine s_for ?_ | with_reducible refine e_c ?_ | with_reducible refine e_glo ?_ | with_reducible refine e_lst ?_ | with_reducible refine e_tup ?_ | with_reducible refine e_newl ?_ | with_reducible refine e_bin ?_ | with_reducible refine e_cmp ?_ | with_reducible refine e_chn ?_ | with_reducible refine e_isn ?_ | with_reducible refine e_and ?_ | with_reducible refine e_or ?_ | with_reducible refine e_not ?_ | with_reducible refine e_ife ?_ | with_reducible refine e_call ?_ | with_reducible refine e_bi ?_ | with_reducible refine e_mt ?_ | with_reducible refine e_sub ?_ | with_reducible refine e_slc ?_ | with_reducible refine e_isi ?_ | with_reducible refine e_isiT ?_ | with_reducible refine e_lc ?_ | with_reducible refine e_op1 ?_ | with_reducible refine e_opn ?_ | with_reducible refine e_fst ?_ | with_reducible refine es_nil ?_ | with_reducible refine es_cons ?_ | with_reducible refine eo_no ?_ | with_reducible refine eo_yes ?_ | with_reducible refine ei_it ?_ | with_reducible refine ei_rng ?_ | with_reducible refine ei_zip ?_ | with_reducible refine ei_enm ?_ | with_reducible refine t_cmp ?_ | with_reducible refine t_isn ?_ | with_reducible refine t_and ?_ | with_reducible refine t_or ?_ | with_reducible refine t_not ?_ | with_reducible refine t_call ?_ | with_reducible refine t_isi ?_ | with_reducible refine t_isiT ?_ | with_reducible refine t_op1 ?_ | with_reducible refine t_opn ?_ | with_reducible refine o_neg ?_ | with_reducible refine o_fld ?_ | with_reducible refine o_isc ?_ | with_reducible refine o_gdic ?_ | with_reducible refine o_ccon ?_ | with_reducible refine f_nil ?_ | with_reducible refine f_cons ?_ | with_reducible refine s_sfld ?_ | with_reducible refine s_tasg ?_ | with_reducible refine s_uasg ?_ | with_reducible refine ss_nil ?_ | with_reducible refine q_nx ?_ | with_reducible refine q_rt ?_ | with_reducible refine ts_nil ?_ | with_reducible refine lcd ?_ | with_reducible refine o_rt ?_ | with_reducible refine e_var (by with_unfolding_all rfl) ?_ | with_reducible refine t_var (by with_unfolding_all rfl) ?_ | with_reducible refine oo_mod (by omega) ?_ | with_reducible refine oo_fdiv (by omega) ?_ | with_reducible refine oo_mul (by omega) ?_ | with_reducible refine as_b ?_ | with_reducible refine as_i ?_ | with_reducible refine dec_t (by with_unfolding_all rfl) ?_ | with_reducible refine dec_f (by with_unfolding_all rfl) ?_ | with_reducible refine dec_t' (by with_unfolding_all rfl) ?_ | with_reducible refine dec_f' (by with_unfolding_all rfl) ?_ | with_reducible refine put_ok (by with_unfolding_all rfl) (by with_unfolding_all rfl) ?_ | with_reducible refine pg_cl ?_ | with_reducible refine pg_cl1 ?_ | with_reducible refine gd_rfl (by with_unfolding_all rfl) ?_ | with_reducible refine oo (by with_unfolding_all rfl) ?_)
  refine ⟨fun h => ?_, fun h => ?_⟩
  · have hk : kd = KI := (by simpa using h : kd = [105, 110, 102, 105, 120])
    subst hk
    repeat (first | with_reducible refine ss_cons ?_ | with_reducible refine s_put ?_ | with_reducible refine s_asg ?_ | with_reducible refine s_asgo_lst ?_ | with_reducible refine s_ex ?_ | with_reducible refine s_ret ?_ | with_reducible refine s_iff ?_ | with_reducible refine s_for ?_ | with_reducible refine e_c ?_ | with_reducible refine e_glo ?_ | with_reducible refine e_lst ?_ | with_reducible refine e_tup ?_ | with_reducible refine e_newl ?_ | with_reducible refine e_bin ?_ | with_reducible refine e_cmp ?_ | with_reducible refine e_chn ?_ | with_reducible refine e_isn ?_ | with_reducible refine e_and ?_ | with_reducible refine e_or ?_ | with_reducible refine e_not ?_ | with_reducible refine e_ife ?_ | with_reducible refine e_call ?_ | with_reducible refine e_bi ?_ | with_reducible refine e_mt ?_ | with_reducible refine e_sub ?_ | with_reducible refine e_slc ?_ | with_reducible refine e_isi ?_ | with_reducible refine e_isiT ?_ | with_reducible refine e_lc ?_ | with_reducible refine e_op1 ?_ | with_reducible refine e_opn ?_ | with_reducible refine e_fst ?_ | with_reducible refine es_nil ?_ | with_reducible refine es_cons ?_ | with_reducible refine eo_no ?_ | with_reducible refine eo_yes ?_ | with_reducible refine ei_it ?_ | with_reducible refine ei_rng ?_ | with_reducible refine ei_zip ?_ | with_reducible refine ei_enm ?_ | with_reducible refine t_cmp ?_ | with_reducible refine t_isn ?_ | with_reducible refine t_and ?_ | with_reducible refine t_or ?_ | with_reducible refine t_not ?_ | with_reducible refine t_call ?_ | with_reducible refine t_isi ?_ | with_reducible refine t_isiT ?_ | with_reducible refine t_op1 ?_ | with_reducible refine t_opn ?_ | with_reducible refine o_neg ?_ | with_reducible refine o_fld ?_ | with_reducible refine o_isc ?_ | with_reducible refine o_gdic ?_ | with_reducible refine o_ccon ?_ | with_reducible refine f_nil ?_ | with_reducible refine f_cons ?_ | with_reducible refine s_sfld ?_ | with_reducible refine s_tasg ?_ | with_reducible refine s_uasg ?_ | with_reducible refine ss_nil ?_ | with_reducible refine q_nx ?_ | with_reducible refine q_rt ?_ | with_reducible refine ts_nil ?_ | with_reducible refine lcd ?_ | with_reducible refine o_rt ?_ | with_reducible refine e_var (by with_unfolding_all rfl) ?_ | with_reducible refine t_var (by with_unfolding_all rfl) ?_ | with_reducible refine oo_mod (by omega) ?_ | with_reducible refine oo_fdiv (by omega) ?_ | with_reducible refine oo_mul (by omega) ?_ | with_reducible refine as_b ?_ | with_reducible refine as_i ?_ | with_reducible refine dec_t (by with_unfolding_all rfl) ?_ | with_reducible refine dec_f (by with_unfolding_all rfl) ?_ | with_reducible refine dec_t' (by with_unfolding_all rfl) ?_ | with_reducible refine dec_f' (by with_unfolding_all rfl) ?_ | with_reducible refine put_ok (by with_unfolding_all rfl) (by with_unfolding_all rfl) ?_ | with_reducible refine pg_cl ?_ | with_reducible refine pg_cl1 ?_ | with_reducible refine gd_rfl (by with_unfolding_all rfl) ?_ | with_reducible refine oo (by with_unfolding_all rfl) ?_)
    exact ⟨rfl, rfl, rfl⟩
  · have hk : kd ≠ KI := by simpa [KI] using h
    repeat (first | with_reducible refine ss_cons ?_ | with_reducible refine s_put ?_ | with_reducible refine s_asg ?_ | with_reducible refine s_asgo_lst ?_ | with_reducible refine s_ex ?_ | with_reducible refine s_ret ?_ | with_reducible refine s_iff ?_ | with_reducible refine s_for ?_ | with_reducible refine e_c ?_ | with_reducible refine e_glo ?_ | with_reducible refine e_lst ?_ | with_reducible refine e_tup ?_ | with_reducible refine e_newl ?_ | with_reducible refine e_bin ?_ | with_reducible refine e_cmp ?_ | with_reducible refine e_chn ?_ | with_reducible refine e_isn ?_ | with_reducible refine e_and ?_ | with_reducible refine e_or ?_ | with_reducible refine e_not ?_ | with_reducible refine e_ife ?_ | with_reducible refine e_call ?_ | with_reducible refine e_bi ?_ | with_reducible refine e_mt ?_ | with_reducible refine e_sub ?_ | with_reducible refine e_slc ?_ | with_reducible refine e_isi ?_ | with_reducible refine e_isiT ?_ | with_reducible refine e_lc ?_ | with_reducible refine e_op1 ?_ | with_reducible refine e_opn ?_ | with_reducible refine e_fst ?_ | with_reducible refine es_nil ?_ | with_reducible refine es_cons ?_ | with_reducible refine eo_no ?_ | with_reducible refine eo_yes ?_ | with_reducible refine ei_it ?_ | with_reducible refine ei_rng ?_ | with_reducible refine ei_zip ?_ | with_reducible refine ei_enm ?_ | with_reducible refine t_cmp ?_ | with_reducible refine t_isn ?_ | with_reducible refine t_and ?_ | with_reducible refine t_or ?_ | with_reducible refine t_not ?_ | with_reducible refine t_call ?_ | with_reducible refine t_isi ?_ | with_reducible refine t_isiT ?_ | with_reducible refine t_op1 ?_ | with_reducible refine t_opn ?_ | with_reducible refine o_neg ?_ | with_reducible refine o_fld ?_ | with_reducible refine o_isc ?_ | with_reducible refine o_gdic ?_ | with_reducible refine o_ccon ?_ | with_reducible refine f_nil ?_ | with_reducible refine f_cons ?_ | with_reducible refine s_sfld ?_ | with_reducible refine s_tasg ?_ | with_reducible refine s_uasg ?_ | with_reducible refine ss_nil ?_ | with_reducible refine q_nx ?_ | with_reducible refine q_rt ?_ | with_reducible refine ts_nil ?_ | with_reducible refine lcd ?_ | with_reducible refine o_rt ?_ | with_reducible refine e_var (by with_unfolding_all rfl) ?_ | with_reducible refine t_var (by with_unfolding_all rfl) ?_ | with_reducible refine oo_mod (by omega) ?_ | with_reducible refine oo_fdiv (by omega) ?_ | with_reducible refine oo_mul (by omega) ?_ | with_reducible refine as_b ?_ | with_reducible refine as_i ?_ | with_reducible refine dec_t (by with_unfolding_all rfl) ?_ | with_reducible refine dec_f (by with_unfolding_all rfl) ?_ | with_reducible refine dec_t' (by with_unfolding_all rfl) ?_ | with_reducible refine dec_f' (by with_unfolding_all rfl) ?_ | with_reducible refine put_ok (by with_unfolding_all rfl) (by with_unfolding_all rfl) ?_ | with_reducible refine pg_cl ?_ | with_reducible refine pg_cl1 ?_ | with_reducible refine gd_rfl (by with_unfolding_all rfl) ?_ | with_reducible refine oo (by with_unfolding_all rfl) ?_)
    refine ⟨rfl, rfl, ?_⟩
    simp only [usual, if_neg hk]
    rfl
end
end Lw

namespace Lw
open PySem L2 Mx
section
variable {k : Nat} {c : Cl} {s R : So} {ns : List Int} {d : D} {z kd sd : List Nat} {x3 x4 x5 x6 x7 x8 x9 x10 x11 : Sl}
theorem st6 (hr : runOf smallL 8 (.str z) = true) (hz : z.length ≤ 8) (hk : KdOk kd) (Gu : GOk kd (usual kd)) : OT (denS (PG fs gn (k + 10)) lb1_6 (E8 ns d z kd sd x8 (.sh (.str (usual kd))) x10 x11) (c :: R)) (fun o e s => o = .nx ∧ ∃ R, s = c :: R ∧ e = E8 ns d z kd sd x8 (.sh (.str (usual kd))) x10 x11) := by
  constructor
  dsimp only [lb1_6, E8]
  repeat (first | with_reducible refine ss_cons ?_ | with_reducible refine s_put ?_ | with_reducible refine s_asg ?_ | with_reducible refine s_asgo_lst ?_ | with_reducible refine s_ex ?_ | with_reducible refine s_ret ?_ | with_reducible refine s_iff ?_ | with_reducible refine s_for ?_ | with_reducible refine e_c ?_ | with_reducible refine e_glo ?_ | with_reducible refine e_lst ?_ | with_reducible refine e_tup ?_ | with_reducible refine e_newl ?_ | with_reducible refine e_bin ?_ | with_reducible refine e_cmp ?_ | with_reducible refine e_chn ?_ | with_reducible refine e_isn ?_ | with_reducible refine e_and ?_ | with_reducible refine e_or ?_ | with_reducible refine e_not ?_ | with_reducible refine e_ife ?_ | with_reducible refine e_call ?_ | with_reducible refine e_bi ?_ | with_reducible refine e_mt ?_ | with_reducible refine e_sub ?_ | with_reducible refine e_slc ?_ | with_reducible refine e_isi ?_ | with_reducible refine e_isiT ?_ | with_reducible refine e_lc ?_ | with_reducible refine e_op1 ?_ | with_reducible refine e_opn ?_ | with_reducible refine e_fst ?_ | with_reducible refine es_nil ?_ | with_reducible refine es_cons ?_ | with_reducible refine eo_no ?_ | with_reducible refine eo_yes ?_ | with_reducible refine ei_it ?_ | with_reducible refine ei_rng ?_ | with_reducible refine ei_zip ?_ | with_reducible refine ei_enm ?_ | with_reducible refine t_cmp ?_ | with_reducible refine t_isn ?_ | with_reducible refine t_and ?_ | with_reducible refine t_or ?_ | with_reducible refine t_not ?_ | with_reducible refine t_call ?_ | with_reducible refine t_isi ?_ | with_reducible refine t_isiT ?_ | with_reducible refine t_op1 ?_ | with_reducible refine t_opn ?_ | with_reducible refine o_neg ?_ | with_reducible refine o_fld ?_ | with_reducible refine o_isc ?_ | with_reducible refine o_gdic ?_ | with_reducible refine o_ccon ?_ | with_reducible refine f_nil ?_ | with_reducible refine f_cons ?_ | with_reducible refine s_sfld ?_ | with_reducible refine s_tasg ?_ | with_reducible refine s_uasg ?_ | with_reducible refine ss_nil ?_ | with_reducible refine q_nx ?_ | with_reducible refine q_rt ?_ | with_reducible refine ts_nil ?_ | with_reducible refine lcd ?_ | with_reducible refine o_rt ?_ | with_reducible refine e_var (by with_unfolding_all rfl) ?_ | with_reducible refine t_var (by with_unfolding_all rfl) ?_ | with_reducible refine oo_mod (by omega) ?_ | with_reducible refine oo_fdiv (by omega) ?_ | with_reducible refine oo_mul (by omega) ?_ | with_reducible refine as_b ?_ | with_reducible refine as_i ?_ | with_reducible refine dec_t (by with_unfolding_all rfl) ?_ | with_reducible refine dec_f (by with_unfolding_all rfl) ?_ | with_reducible refine dec_t' (by with_unfolding_all rfl) ?_ | with_reducible refine dec_f' (by with_unfolding_all rfl) ?_ | with_reducible refine put_ok (by with_unfolding_all rfl) (by with_unfolding_all rfl) ?_ | with_reducible refine pg_cl ?_ | with_reducible refine pg_cl1 ?_ | with_reducible refine gd_rfl (by with_unfolding_all rfl) ?_ | with_reducible refine oo (by with_unfolding_all rfl) ?_)
  refine mk_ok (k := k + 6) rfl rfl rfl hr hz Gu (.inr ⟨rfl, hk, rfl⟩) ?_
  repeat (first | with_reducible refine ss_cons ?_ | with_reducible refine s_put ?_ | with_reducible refine s_asg ?_ | with_reducible refine s_asgo_lst ?_ | with_reducible refine s_ex ?_ | with_reducible refine s_ret ?_ | with_reducible refine s_iff ?_ | with_reducible refine s_for ?_ | with_reducible refine e_c ?_ | with_reducible refine e_glo ?_ | with_reducible refine e_lst ?_ | with_reducible refine e_tup ?_ | with_reducible refine e_newl ?_ | with_reducible refine e_bin ?_ | with_reducible refine e_cmp ?_ | with_reducible refine e_chn ?_ | with_reducible refine e_isn ?_ | with_reducible refine e_and ?_ | with_reducible refine e_or ?_ | with_reducible refine e_not ?_ | with_reducible refine e_ife ?_ | with_reducible refine e_call ?_ | with_reducible refine e_bi ?_ | with_reducible refine e_mt ?_ | with_reducible refine e_sub ?_ | with_reducible refine e_slc ?_ | with_reducible refine e_isi ?_ | with_reducible refine e_isiT ?_ | with_reducible refine e_lc ?_ | with_reducible refine e_op1 ?_ | with_reducible refine e_opn ?_ | with_reducible refine e_fst ?_ | with_reducible refine es_nil ?_ | with_reducible refine es_cons ?_ | with_reducible refine eo_no ?_ | with_reducible refine eo_yes ?_ | with_reducible refine ei_it ?_ | with_reducible refine ei_rng ?_ | with_reducible refine ei_zip ?_ | with_reducible refine ei_enm ?_ | with_reducible refine t_cmp ?_ | with_reducible refine t_isn ?_ | with_reducible refine t_and ?_ | with_reducible refine t_or ?_ | with_reducible refine t_not ?_ | with_reducible refine t_call ?_ | with_reducible refine t_isi ?_ | with_reducible refine t_isiT ?_ | with_reducible refine t_op1 ?_ | with_reducible refine t_opn ?_ | with_reducible refine o_neg ?_ | with_reducible refine o_fld ?_ | with_reducible refine o_isc ?_ | with_reducible refine o_gdic ?_ | with_reducible refine o_ccon ?_ | with_reducible refine f_nil ?_ | with_reducible refine f_cons ?_ | with_reducible refine s_sfld ?_ | with_reducible refine s_tasg ?_ | with_reducible refine s_uasg ?_ | with_reducible refine ss_nil ?_ | with_reducible refine q_nx ?_ | with_reducible refine q_rt ?_ | with_reducible refine ts_nil ?_ | with_reducible refine lcd ?_ | with_reducible refine o_rt ?_ | with_reducible refine e_var (by with_unfolding_all rfl) ?_ | with_reducible refine t_var (by with_unfolding_all rfl) ?_ | with_reducible refine oo_mod (by omega) ?_ | with_reducible refine oo_fdiv (by omega) ?_ | with_reducible refine oo_mul (by omega) ?_ | with_reducible refine as_b ?_ | with_reducible refine as_i ?_ | with_reducible refine dec_t (by with_unfolding_all rfl) ?_ | with_reducible refine dec_f (by with_unfolding_all rfl) ?_ | with_reducible refine dec_t' (by with_unfolding_all rfl) ?_ | with_reducible refine dec_f' (by with_unfolding_all rfl) ?_ | with_reducible refine put_ok (by with_unfolding_all rfl) (by with_unfolding_all rfl) ?_ | with_reducible refine pg_cl ?_ | with_reducible refine pg_cl1 ?_ | with_reducible refine gd_rfl (by with_unfolding_all rfl) ?_ | with_reducible refine oo (by with_unfolding_all rfl) ?_)
  rw [beq_self_eq_true]
  repeat (first | with_reducible refine ss_cons ?_ | with_reducible refine s_put ?_ | with_reducible refine s_asg ?_ | with_reducible refine s_asgo_lst ?_ | with_reducible refine s_ex ?_ | with_reducible refine s_ret ?_ | with_reducible refine s_iff ?_ | with_reducible refine s_for ?_ | with_reducible refine e_c ?_ | with_reducible refine e_glo ?_ | with_reducible refine e_lst ?_ | with_reducible refine e_tup ?_ | with_reducible refine e_newl ?_ | with_reducible refine e_bin ?_ | with_reducible refine e_cmp ?_ | with_reducible refine e_chn ?_ | with_reducible refine e_isn ?_ | with_reducible refine e_and ?_ | with_reducible refine e_or ?_ | with_reducible refine e_not ?_ | with_reducible refine e_ife ?_ | with_reducible refine e_call ?_ | with_reducible refine e_bi ?_ | with_reducible refine e_mt ?_ | with_reducible refine e_sub ?_ | with_reducible refine e_slc ?_ | with_reducible refine e_isi ?_ | with_reducible refine e_isiT ?_ | with_reducible refine e_lc ?_ | with_reducible refine e_op1 ?_ | with_reducible refine e_opn ?_ | with_reducible refine e_fst ?_ | with_reducible refine es_nil ?_ | with_reducible refine es_cons ?_ | with_reducible refine eo_no ?_ | with_reducible refine eo_yes ?_ | with_reducible refine ei_it ?_ | with_reducible refine ei_rng ?_ | with_reducible refine ei_zip ?_ | with_reducible refine ei_enm ?_ | with_reducible refine t_cmp ?_ | with_reducible refine t_isn ?_ | with_reducible refine t_and ?_ | with_reducible refine t_or ?_ | with_reducible refine t_not ?_ | with_reducible refine t_call ?_ | with_reducible refine t_isi ?_ | with_reducible refine t_isiT ?_ | with_reducible refine t_op1 ?_ | with_reducible refine t_opn ?_ | with_reducible refine o_neg ?_ | with_reducible refine o_fld ?_ | with_reducible refine o_isc ?_ | with_reducible refine o_gdic ?_ | with_reducible refine o_ccon ?_ | with_reducible refine f_nil ?_ | with_reducible refine f_cons ?_ | with_reducible refine s_sfld ?_ | with_reducible refine s_tasg ?_ | with_reducible refine s_uasg ?_ | with_reducible refine ss_nil ?_ | with_reducible refine q_nx ?_ | with_reducible refine q_rt ?_ | with_reducible refine ts_nil ?_ | with_reducible refine lcd ?_ | with_reducible refine o_rt ?_ | with_reducible refine e_var (by with_unfolding_all rfl) ?_ | with_reducible refine t_var (by with_unfolding_all rfl) ?_ | with_reducible refine oo_mod (by omega) ?_ | with_reducible refine oo_fdiv (by omega) ?_ | with_reducible refine oo_mul (by omega) ?_ | with_reducible refine as_b ?_ | with_reducible refine as_i ?_ | with_reducible refine dec_t (by with_unfolding_all rfl) ?_ | with_reducible refine dec_f (by with_unfolding_all rfl) ?_ | with_reducible refine dec_t' (by with_unfolding_all rfl) ?_ | with_reducible refine dec_f' (by with_unfolding_all rfl) ?_ | with_reducible refine put_ok (by with_unfolding_all rfl) (by with_unfolding_all rfl) ?_ | with_reducible refine pg_cl ?_ | with_reducible refine pg_cl1 ?_ | with_reducible refine gd_rfl (by with_unfolding_all rfl) ?_ | with_reducible refine oo (by with_unfolding_all rfl) ?_)
  refine mk_ok (k := k + 6) rfl rfl rfl hr hz Gu (.inr ⟨rfl, hk, rfl⟩) ?_
  repeat (first | with_reducible refine ss_cons ?_ | with_reducible refine s_put ?_ | with_reducible refine s_asg ?_ | with_reducible refine s_asgo_lst ?_ | with_reducible refine s_ex ?_ | with_reducible refine s_ret ?_ | with_reducible refine s_iff ?_ | with_reducible refine s_for ?_ | with_reducible refine e_c ?_ | with_reducible refine e_glo ?_ | with_reducible refine e_lst ?_ | with_reducible refine e_tup ?_ | with_reducible refine e_newl ?_ | with_reducible refine e_bin ?_ | with_reducible refine e_cmp ?_ | with_reducible refine e_chn ?_ | with_reducible refine e_isn ?_ | with_reducible refine e_and ?_ | with_reducible refine e_or ?_ | with_reducible refine e_not ?_ | with_reducible refine e_ife ?_ | with_reducible refine e_call ?_ | with_reducible refine e_bi ?_ | with_reducible refine e_mt ?_ | with_reducible refine e_sub ?_ | with_reducible refine e_slc ?_ | with_reducible refine e_isi ?_ | with_reducible refine e_isiT ?_ | with_reducible refine e_lc ?_ | with_reducible refine e_op1 ?_ | with_reducible refine e_opn ?_ | with_reducible refine e_fst ?_ | with_reducible refine es_nil ?_ | with_reducible refine es_cons ?_ | with_reducible refine eo_no ?_ | with_reducible refine eo_yes ?_ | with_reducible refine ei_it ?_ | with_reducible refine ei_rng ?_ | with_reducible refine ei_zip ?_ | with_reducible refine ei_enm ?_ | with_reducible refine t_cmp ?_ | with_reducible refine t_isn ?_ | with_reducible refine t_and ?_ | with_reducible refine t_or ?_ | with_reducible refine t_not ?_ | with_reducible refine t_call ?_ | with_reducible refine t_isi ?_ | with_reducible refine t_isiT ?_ | with_reducible refine t_op1 ?_ | with_reducible refine t_opn ?_ | with_reducible refine o_neg ?_ | with_reducible refine o_fld ?_ | with_reducible refine o_isc ?_ | with_reducible refine o_gdic ?_ | with_reducible refine o_ccon ?_ | with_reducible refine f_nil ?_ | with_reducible refine f_cons ?_ | with_reducible refine s_sfld ?_ | with_reducible refine s_tasg ?_ | with_reducible refine s_uasg ?_ | with_reducible refine ss_nil ?_ | with_reducible refine q_nx ?_ | with_reducible refine q_rt ?_ | with_reducible refine ts_nil ?_ | with_reducible refine lcd ?_ | with_reducible refine o_rt ?_ | with_reducible refine e_var (by with_unfolding_all rfl) ?_ | with_reducible refine t_var (by with_unfolding_all rfl) ?_ | with_reducible refine oo_mod (by omega) ?_ | with_reducible refine oo_fdiv (by omega) ?_ | with_reducible refine oo_mul (by omega) ?_ | with_reducible refine as_b ?_ | with_reducible refine as_i ?_ | with_reducible refine dec_t (by with_unfolding_all rfl) ?_ | with_reducible refine dec_f (by with_unfolding_all rfl) ?_ | with_reducible refine dec_t' (by with_unfolding_all rfl) ?_ | with_reducible refine dec_f' (by with_unfolding_all rfl) ?_ | with_reducible refine put_ok (by with_unfolding_all rfl) (by with_unfolding_all rfl) ?_ | with_reducible refine pg_cl ?_ | with_reducible refine pg_cl1 ?_ | with_reducible refine gd_rfl (by with_unfolding_all rfl) ?_ | with_reducible refine oo (by with_unfolding_all rfl) ?_)
  refine mk_ok (k := k + 6) rfl rfl rfl hr hz Gu (.inl rfl) ?_
  repeat (first | with_reducible refine ss_cons ?_ | with_reducible refine s_put ?_ | with_reducible refine s_asg ?_ | with_reducible refine s_asgo_lst ?_ | with_reducible refine s_ex ?_ | with_reducible refine s_ret ?_ | with_reducible refine s_iff ?_ | with_reducible refine s_for ?_ | with_reducible refine e_c ?_ | with_reducible refine e_glo ?_ | with_reducible refine e_lst ?_ | with_reducible refine e_tup ?_ | with_reducible refine e_newl ?_ | with_reducible refine e_bin ?_ | with_reducible refine e_cmp ?_ | with_reducible refine e_chn ?_ | with_reducible refine e_isn ?_ | with_reducible refine e_and ?_ | with_reducible refine e_or ?_ | with_reducible refine e_not ?_ | with_reducible refine e_ife ?_ | with_reducible refine e_call ?_ | with_reducible refine e_bi ?_ | with_reducible refine e_mt ?_ | with_reducible refine e_sub ?_ | with_reducible refine e_slc ?_ | with_reducible refine e_isi ?_ | with_reducible refine e_isiT ?_ | with_reducible refine e_lc ?_ | with_reducible refine e_op1 ?_ | with_reducible refine e_opn ?_ | with_reducible refine e_fst ?_ | with_reducible refine es_nil ?_ | with_reducible refine es_cons ?_ | with_reducible refine eo_no ?_ | with_reducible refine eo_yes ?_ | with_reducible refine ei_it ?_ | with_reducible refine ei_rng ?_ | with_reducible refine ei_zip ?_ | with_reducible refine ei_enm ?_ | with_reducible refine t_cmp ?_ | with_reducible refine t_isn ?_ | with_reducible refine t_and ?_ | with_reducible refine t_or ?_ | with_reducible refine t_not ?_ | with_reducible refine t_call ?_ | with_reducible refine t_isi ?_ | with_reducible refine t_isiT ?_ | with_reducible refine t_op1 ?_ | with_reducible refine t_opn ?_ | with_reducible refine o_neg ?_ | with_reducible refine o_fld ?_ | with_reducible refine o_isc ?_ | with_reducible refine o_gdic ?_ | with_reducible refine o_ccon ?_ | with_reducible refine f_nil ?_ | with_reducible refine f_cons ?_ | with_reducible refine s_sfld ?_ | with_reducible refine s_tasg ?_ | with_reducible refine s_uasg ?_ | with_reducible refine ss_nil ?_ | with_reducible refine q_nx ?_ | with_reducible refine q_rt ?_ | with_reducible refine ts_nil ?_ | with_reducible refine lcd ?_ | with_reducible refine o_rt ?_ | with_reducible refine e_var (by with_unfolding_all rfl) ?_ | with_reducible refine t_var (by with_unfolding_all rfl) ?_ | with_reducible refine oo_mod (by omega) ?_ | with_reducible refine oo_fdiv (by omega) ?_ | with_reducible refine oo_mul (by omega) ?_ | with_reducible refine as_b ?_ | with_reducible refine as_i ?_ | with_reducible refine dec_t (by with_unfolding_all rfl) ?_ | with_reducible refine dec_f (by with_unfolding_all rfl) ?_ | with_reducible refine dec_t' (by with_unfolding_all rfl) ?_ | with_reducible refine dec_f' (by with_unfolding_all rfl) ?_ | with_reducible refine put_ok (by with_unfolding_all rfl) (by with_unfolding_all rfl) ?_ | with_reducible refine pg_cl ?_ | with_reducible refine pg_cl1 ?_ | with_reducible refine gd_rfl (by with_unfolding_all rfl) ?_ | with_reducible refine oo (by with_unfolding_all rfl) ?_)
  refine o_one rfl rfl ?_
  refine pg_cl1 ?_
  refine cok_imp (eq_ok (k := k + 8)) fun d s y => ?_
  obtain ⟨rfl, rfl⟩ := y
  refine ⟨_, rfl, ?_⟩
  rw [beq_self_eq_true]
  repeat (first | with_reducible refine ss_cons ?_ | with_reducible refine s_put ?_ | with_reducible refine s_asg ?_ | with_reducible refine s_asgo_lst ?_ | with_reducible refine s_ex ?_ | with_reducible refine s_ret ?_ | with_reducible refine s_iff ?_ | with_reducible refine s_for ?_ | with_reducible refine e_c ?_ | with_reducible refine e_glo ?_ | with_reducible refine e_lst ?_ | with_reducible refine e_tup ?_ | with_reducible refine e_newl ?_ | with_reducible refine e_bin ?_ | with_reducible refine e_cmp ?_ | with_reducible refine e_chn ?_ | with_reducible refine e_isn ?_ | with_reducible refine e_and ?_ | with_reducible refine e_or ?_ | with_reducible refine e_not ?_ | with_reducible refine e_ife ?_ | with_reducible refine e_call ?_ | with_reducible refine e_bi ?_ | with_reducible refine e_mt ?_ | with_reducible refine e_sub ?_ | with_reducible refine e_slc ?_ | with_reducible refine e_isi ?_ | with_reducible refine e_isiT ?_ | with_reducible refine e_lc ?_ | with_reducible refine e_op1 ?_ | with_reducible refine e_opn ?_ | with_reducible refine e_fst ?_ | with_reducible refine es_nil ?_ | with_reducible refine es_cons ?_ | with_reducible refine eo_no ?_ | with_reducible refine eo_yes ?_ | with_reducible refine ei_it ?_ | with_reducible refine ei_rng ?_ | with_reducible refine ei_zip ?_ | with_reducible refine ei_enm ?_ | with_reducible refine t_cmp ?_ | with_reducible refine t_isn ?_ | with_reducible refine t_and ?_ | with_reducible refine t_or ?_ | with_reducible refine t_not ?_ | with_reducible refine t_call ?_ | with_reducible refine t_isi ?_ | with_reducible refine t_isiT ?_ | with_reducible refine t_op1 ?_ | with_reducible refine t_opn ?_ | with_reducible refine o_neg ?_ | with_reducible refine o_fld ?_ | with_reducible refine o_isc ?_ | with_reducible refine o_gdic ?_ | with_reducible refine o_ccon ?_ | with_reducible refine f_nil ?_ | with_reducible refine f_cons ?_ | with_reducible refine s_sfld ?_ | with_reducible refine s_tasg ?_ | with_reducible refine s_uasg ?_ | with_reducible refine ss_nil ?_ | with_reducible refine q_nx ?_ | with_reducible refine q_rt ?_ | with_reducible refine ts_nil ?_ | with_reducible refine lcd ?_ | with_reducible refine o_rt ?_ | with_reducible refine e_var (by with_unfolding_all rfl) ?_ | with_reducible refine t_var (by with_unfolding_all rfl) ?_ | with_reducible refine oo_mod (by omega) ?_ | with_reducible refine oo_fdiv (by omega) ?_ | with_reducible refine oo_mul (by omega) ?_ | with_reducible refine as_b ?_ | with_reducible refine as_i ?_ | with_reducible refine dec_t (by with_unfolding_all rfl) ?_ | with_reducible refine dec_f (by with_unfolding_all rfl) ?_ | with_reducible refine dec_t' (by with_unfolding_all rfl) ?_ | with_reducible refine dec_f' (by with_unfolding_all rfl) ?_ | with_reducible refine put_ok (by with_unfolding_all rfl) (by with_unfolding_all rfl) ?_ | with_reducible refine pg_cl ?_ | with_reducible refine pg_cl1 ?_ | with_reducible refine gd_rfl (by with_unfolding_all rfl) ?_ | with_reducible refine oo (by with_unfolding_all rfl) ?_)
  exact ⟨rfl, _, rfl, rfl⟩
theorem st7 (hr : runOf smallL 8 (.str z) = true) (hz : z.length ≤ 8) (G : GOk kd sd) : OT (denS (PG fs gn (k + 10)) lb1_7 (E8 ns d z kd sd x8 x9 x10 x11) (c :: R)) (fun o e s => o = .nx ∧ ∃ R, s = c :: R ∧ e = E8 ns d z kd sd x8 x9 x10 x11) := by
  have kI : KdOk KI := .inl rfl
  have GI := gok kI (sd := SN) (by decide)
  constructor
  dsimp only [lb1_7, E8]
  repeat (first | with_reducible refine ss_cons ?_ | with_reducible refine s_put ?_ | with_reducible refine s_asg ?_ | with_reducible refine s_asgo_lst ?_ | with_reducible refine s_ex ?_ | with_reducible refine s_ret ?_ | with_reducible refine s_iff ?_ | with_reducible refine s_for ?_ | with_reducible refine e_c ?_ | with_reducible refine e_glo ?_ | with_reducible refine e_lst ?_ | with_reducible refine e_tup ?_ | with_reducible refine e_newl ?_ | with_reducible refine e_bin ?_ | with_reducible refine e_cmp ?_ | with_reducible refine e_chn ?_ | with_reducible refine e_isn ?_ | with_reducible refine e_and ?_ | with_reducible refine e_or ?_ | with_reducible refine e_not ?_ | with_reducible refine e_ife ?_ | with_reducible refine e_call ?_ | with_reducible refine e_bi ?_ | with_reducible refine e_mt ?_ | with_reducible refine e_sub ?_ | with_reducible refine e_slc ?_ | with_reducible refine e_isi ?_ | with_reducible refine e_isiT ?_ | with_reducible refine e_lc ?_ | with_reducible refine e_op1 ?_ | with_reducible refine e_opn ?_ | with_reducible refine e_fst ?_ | with_reducible refine es_nil ?_ | with_reducible refine es_cons ?_ | with_reducible refine eo_no ?_ | with_reducible refine eo_yes ?_ | with_reducible refine ei_it ?_ | with_reducible refine ei_rng ?_ | with_reducible refine ei_zip ?_ | with_reducible refine ei_enm ?_ | with_reducible refine t_cmp ?_ | with_reducible refine t_isn ?_ | with_reducible refine t_and ?_ | with_reducible refine t_or ?_ | with_reducible refine t_not ?_ | with_reducible refine t_call ?_ | with_reducible refine t_isi ?_ | with_reducible refine t_isiT ?_ | with_reducible refine t_op1 ?_ | with_reducible refine t_opn ?_ | with_reducible refine o_neg ?_ | with_reducible refine o_fld ?_ | with_reducible refine o_isc ?_ | with_reducible refine o_gdic ?_ | with_reducible refine o_ccon ?_ | with_reducible refine f_nil ?_ | with_reducible refine f_cons ?_ | with_reducible refine s_sfld ?_ | with_reducible refine s_tasg ?_ | with_reducible refine s_uasg ?_ | with_reducible refine ss_nil ?_ | with_reducible refine q_nx ?_ | with_reducible refine q_rt ?_ | with_reducible refine ts_nil ?_ | with_reducible refine lcd ?_ | with_reducible refine o_rt ?_ | with_reducible refine e_var (by with_unfolding_all rfl) ?_ | with_reducible refine t_var (by with_unfolding_all rfl) ?_ | with_reducible refine oo_mod (by omega) ?_ | with_reducible refine oo_fdiv (by omega) ?_ | with_reducible refine oo_mul (by omega) ?_ | with_reducible refine as_b ?_ | with_reducible refine as_i ?_ | with_reducible refine dec_t (by with_unfolding_all rfl) ?_ | with_reducible refine dec_f (by with_unfolding_all rfl) ?_ | with_reducible refine dec_t' (by with_unfolding_all rfl) ?_ | with_reducible refine dec_f' (by with_unfolding_all rfl) ?_ | with_reducible refine put_ok (by with_unfolding_all rfl) (by with_unfolding_all rfl) ?_ | with_reducible refine pg_cl ?_ | with_reducible refine pg_cl1 ?_ | with_reducible refine gd_rfl (by with_unfolding_all rfl) ?_ | with_reducible refine oo (by with_unfolding_all rfl) ?_)
  refine mk_ok (k := k + 6) (z := z) (kd := KI) (sd' := SN) rfl rfl rfl hr hz GI (.inr ⟨rfl, kI, rfl⟩) ?_
  repeat (first | with_reducible refine ss_cons ?_ | with_reducible refine s_put ?_ | with_reducible refine s_asg ?_ | with_reducible refine s_asgo_lst ?_ | with_reducible refine s_ex ?_ | with_reducible refine s_ret ?_ | with_reducible refine s_iff ?_ | with_reducible refine s_for ?_ | with_reducible refine e_c ?_ | with_reducible refine e_glo ?_ | with_reducible refine e_lst ?_ | with_reducible refine e_tup ?_ | with_reducible refine e_newl ?_ | with_reducible refine e_bin ?_ | with_reducible refine e_cmp ?_ | with_reducible refine e_chn ?_ | with_reducible refine e_isn ?_ | with_reducible refine e_and ?_ | with_reducible refine e_or ?_ | with_reducible refine e_not ?_ | with_reducible refine e_ife ?_ | with_reducible refine e_call ?_ | with_reducible refine e_bi ?_ | with_reducible refine e_mt ?_ | with_reducible refine e_sub ?_ | with_reducible refine e_slc ?_ | with_reducible refine e_isi ?_ | with_reducible refine e_isiT ?_ | with_reducible refine e_lc ?_ | with_reducible refine e_op1 ?_ | with_reducible refine e_opn ?_ | with_reducible refine e_fst ?_ | with_reducible refine es_nil ?_ | with_reducible refine es_cons ?_ | with_reducible refine eo_no ?_ | with_reducible refine eo_yes ?_ | with_reducible refine ei_it ?_ | with_reducible refine ei_rng ?_ | with_reducible refine ei_zip ?_ | with_reducible refine ei_enm ?_ | with_reducible refine t_cmp ?_ | with_reducible refine t_isn ?_ | with_reducible refine t_and ?_ | with_reducible refine t_or ?_ | with_reducible refine t_not ?_ | with_reducible refine t_call ?_ | with_reducible refine t_isi ?_ | with_reducible refine t_isiT ?_ | with_reducible refine t_op1 ?_ | with_reducible refine t_opn ?_ | with_reducible refine o_neg ?_ | with_reducible refine o_fld ?_ | with_reducible refine o_isc ?_ | with_reducible refine o_gdic ?_ | with_reducible refine o_ccon ?_ | with_reducible refine f_nil ?_ | with_reducible refine f_cons ?_ | with_reducible refine s_sfld ?_ | with_reducible refine s_tasg ?_ | with_reducible refine s_uasg ?_ | with_reducible refine ss_nil ?_ | with_reducible refine q_nx ?_ | with_reducible refine q_rt ?_ | with_reducible refine ts_nil ?_ | with_reducible refine lcd ?_ | with_reducible refine o_rt ?_ | with_reducible refine e_var (by with_unfolding_all rfl) ?_ | with_reducible refine t_var (by with_unfolding_all rfl) ?_ | with_reducible refine oo_mod (by omega) ?_ | with_reducible refine oo_fdiv (by omega) ?_ | with_reducible refine oo_mul (by omega) ?_ | with_reducible refine as_b ?_ | with_reducible refine as_i ?_ | with_reducible refine dec_t (by with_unfolding_all rfl) ?_ | with_reducible refine dec_f (by with_unfolding_all rfl) ?_ | with_reducible refine dec_t' (by with_unfolding_all rfl) ?_ | with_reducible refine dec_f' (by with_unfolding_all rfl) ?_ | with_reducible refine put_ok (by with_unfolding_all rfl) (by with_unfolding_all rfl) ?_ | with_reducible refine pg_cl ?_ | with_reducible refine pg_cl1 ?_ | with_reducible refine gd_rfl (by with_unfolding_all rfl) ?_ | with_reducible refine oo (by with_unfolding_all rfl) ?_)
  refine mk_ok (k := k + 6) (z := z) (kd := KI) (sd' := SN) rfl rfl rfl hr hz GI (.inl rfl) ?_
  repeat (first | with_reducible refine ss_cons ?_ | with_reducible refine s_put ?_ | with_reducible refine s_asg ?_ | with_reducible refine s_asgo_lst ?_ | with_reducible refine s_ex ?_ | with_reducible refine s_ret ?_ | with_reducible refine s_iff ?_ | with_reducible refine s_for ?_ | with_reducible refine e_c ?_ | with_reducible refine e_glo ?_ | with_reducible refine e_lst ?_ | with_reducible refine e_tup ?_ | with_reducible refine e_newl ?_ | with_reducible refine e_bin ?_ | with_reducible refine e_cmp ?_ | with_reducible refine e_chn ?_ | with_reducible refine e_isn ?_ | with_reducible refine e_and ?_ | with_reducible refine e_or ?_ | with_reducible refine e_not ?_ | with_reducible refine e_ife ?_ | with_reducible refine e_call ?_ | with_reducible refine e_bi ?_ | with_reducible refine e_mt ?_ | with_reducible refine e_sub ?_ | with_reducible refine e_slc ?_ | with_reducible refine e_isi ?_ | with_reducible refine e_isiT ?_ | with_reducible refine e_lc ?_ | with_reducible refine e_op1 ?_ | with_reducible refine e_opn ?_ | with_reducible refine e_fst ?_ | with_reducible refine es_nil ?_ | with_reducible refine es_cons ?_ | with_reducible refine eo_no ?_ | with_reducible refine eo_yes ?_ | with_reducible refine ei_it ?_ | with_reducible refine ei_rng ?_ | with_reducible refine ei_zip ?_ | with_reducible refine ei_enm ?_ | with_reducible refine t_cmp ?_ | with_reducible refine t_isn ?_ | with_reducible refine t_and ?_ | with_reducible refine t_or ?_ | with_reducible refine t_not ?_ | with_reducible refine t_call ?_ | with_reducible refine t_isi ?_ | with_reducible refine t_isiT ?_ | with_reducible refine t_op1 ?_ | with_reducible refine t_opn ?_ | with_reducible refine o_neg ?_ | with_reducible refine o_fld ?_ | with_reducible refine o_isc ?_ | with_reducible refine o_gdic ?_ | with_reducible refine o_ccon ?_ | with_reducible refine f_nil ?_ | with_reducible refine f_cons ?_ | with_reducible refine s_sfld ?_ | with_reducible refine s_tasg ?_ | with_reducible refine s_uasg ?_ | with_reducible refine ss_nil ?_ | with_reducible refine q_nx ?_ | with_reducible refine q_rt ?_ | with_reducible refine ts_nil ?_ | with_reducible refine lcd ?_ | with_reducible refine o_rt ?_ | with_reducible refine e_var (by with_unfolding_all rfl) ?_ | with_reducible refine t_var (by with_unfolding_all rfl) ?_ | with_reducible refine oo_mod (by omega) ?_ | with_reducible refine oo_fdiv (by omega) ?_ | with_reducible refine oo_mul (by omega) ?_ | with_reducible refine as_b ?_ | with_reducible refine as_i ?_ | with_reducible refine dec_t (by with_unfolding_all rfl) ?_ | with_reducible refine dec_f (by with_unfolding_all rfl) ?_ | with_reducible refine dec_t' (by with_unfolding_all rfl) ?_ | with_reducible refine dec_f' (by with_unfolding_all rfl) ?_ | with_reducible refine put_ok (by with_unfolding_all rfl) (by with_unfolding_all rfl) ?_ | with_reducible refine pg_cl ?_ | with_reducible refine pg_cl1 ?_ | with_reducible refine gd_rfl (by with_unfolding_all rfl) ?_ | with_reducible refine oo (by with_unfolding_all rfl) ?_)
  refine o_one rfl rfl ?_
  refine pg_cl1 ?_
  refine cok_imp (eq_ok (k := k + 8)) fun d s y => ?_
  obtain ⟨rfl, rfl⟩ := y
  refine ⟨_, rfl, ?_⟩
  rw [beq_self_eq_true]
  repeat (first | with_reducible refine ss_cons ?_ | with_reducible refine s_put ?_ | with_reducible refine s_asg ?_ | with_reducible refine s_asgo_lst ?_ | with_reducible refine s_ex ?_ | with_reducible refine s_ret ?_ | with_reducible refine s_iff ?_ | with_reducible refine s_for ?_ | with_reducible refine e_c ?_ | with_reducible refine e_glo ?_ | with_reducible refine e_lst ?_ | with_reducible refine e_tup ?_ | with_reducible refine e_newl ?_ | with_reducible refine e_bin ?_ | with_reducible refine e_cmp ?_ | with_reducible refine e_chn ?_ | with_reducible refine e_isn ?_ | with_reducible refine e_and ?_ | with_reducible refine e_or ?_ | with_reducible refine e_not ?_ | with_reducible refine e_ife ?_ | with_reducible refine e_call ?_ | with_reducible refine e_bi ?_ | with_reducible refine e_mt ?_ | with_reducible refine e_sub ?_ | with_reducible refine e_slc ?_ | with_reducible refine e_isi ?_ | with_reducible refine e_isiT ?_ | with_reducible refine e_lc ?_ | with_reducible refine e_op1 ?_ | with_reducible refine e_opn ?_ | with_reducible refine e_fst ?_ | with_reducible refine es_nil ?_ | with_reducible refine es_cons ?_ | with_reducible refine eo_no ?_ | with_reducible refine eo_yes ?_ | with_reducible refine ei_it ?_ | with_reducible refine ei_rng ?_ | with_reducible refine ei_zip ?_ | with_reducible refine ei_enm ?_ | with_reducible refine t_cmp ?_ | with_reducible refine t_isn ?_ | with_reducible refine t_and ?_ | with_reducible refine t_or ?_ | with_reducible refine t_not ?_ | with_reducible refine t_call ?_ | with_reducible refine t_isi ?_ | with_reducible refine t_isiT ?_ | with_reducible refine t_op1 ?_ | with_reducible refine t_opn ?_ | with_reducible refine o_neg ?_ | with_reducible refine o_fld ?_ | with_reducible refine o_isc ?_ | with_reducible refine o_gdic ?_ | with_reducible refine o_ccon ?_ | with_reducible refine f_nil ?_ | with_reducible refine f_cons ?_ | with_reducible refine s_sfld ?_ | with_reducible refine s_tasg ?_ | with_reducible refine s_uasg ?_ | with_reducible refine ss_nil ?_ | with_reducible refine q_nx ?_ | with_reducible refine q_rt ?_ | with_reducible refine ts_nil ?_ | with_reducible refine lcd ?_ | with_reducible refine o_rt ?_ | with_reducible refine e_var (by with_unfolding_all rfl) ?_ | with_reducible refine t_var (by with_unfolding_all rfl) ?_ | with_reducible refine oo_mod (by omega) ?_ | with_reducible refine oo_fdiv (by omega) ?_ | with_reducible refine oo_mul (by omega) ?_ | with_reducible refine as_b ?_ | with_reducible refine as_i ?_ | with_reducible refine dec_t (by with_unfolding_all rfl) ?_ | with_reducible refine dec_f (by with_unfolding_all rfl) ?_ | with_reducible refine dec_t' (by with_unfolding_all rfl) ?_ | with_reducible refine dec_f' (by with_unfolding_all rfl) ?_ | with_reducible refine put_ok (by with_unfolding_all rfl) (by with_unfolding_all rfl) ?_ | with_reducible refine pg_cl ?_ | with_reducible refine pg_cl1 ?_ | with_reducible refine gd_rfl (by with_unfolding_all rfl) ?_ | with_reducible refine oo (by with_unfolding_all rfl) ?_)
  refine o_stat rfl rfl ?_
  refine pg_cl ?_
  refine cok_imp (parsed_ok (k := k + 5) hr G) fun d s y => ?_
  obtain ⟨rfl, rfl⟩ := y
  repeat (first | with_reducible refine ss_cons ?_ | with_reducible refine s_put ?_ | with_reducible refine s_asg ?_ | with_reducible refine s_asgo_lst ?_ | with_reducible refine s_ex ?_ | with_reducible refine s_ret ?_ | with_reducible refine s_iff ?_ | with_reducible refine s_for ?_ | with_reducible refine e_c ?_ | with_reducible refine e_glo ?_ | with_reducible refine e_lst ?_ | with_reducible refine e_tup ?_ | with_reducible refine e_newl ?_ | with_reducible refine e_bin ?_ | with_reducible refine e_cmp ?_ | with_reducible refine e_chn ?_ | with_reducible refine e_isn ?_ | with_reducible refine e_and ?_ | with_reducible refine e_or ?_ | with_reducible refine e_not ?_ | with_reducible refine e_ife ?_ | with_reducible refine e_call ?_ | with_reducible refine e_bi ?_ | with_reducible refine e_mt ?_ | with_reducible refine e_sub ?_ | with_reducible refine e_slc ?_ | with_reducible refine e_isi ?_ | with_reducible refine e_isiT ?_ | with_reducible refine e_lc ?_ | with_reducible refine e_op1 ?_ | with_reducible refine e_opn ?_ | with_reducible refine e_fst ?_ | with_reducible refine es_nil ?_ | with_reducible refine es_cons ?_ | with_reducible refine eo_no ?_ | with_reducible refine eo_yes ?_ | with_reducible refine ei_it ?_ | with_reducible refine ei_rng ?_ | with_reducible refine ei_zip ?_ | with_reducible refine ei_enm ?_ | with_reducible refine t_cmp ?_ | with_reducible refine t_isn ?_ | with_reducible refine t_and ?_ | with_reducible refine t_or ?_ | with_reducible refine t_not ?_ | with_reducible refine t_call ?_ | with_reducible refine t_isi ?_ | with_reducible refine t_isiT ?_ | with_reducible refine t_op1 ?_ | with_reducible refine t_opn ?_ | with_reducible refine o_neg ?_ | with_reducible refine o_fld ?_ | with_reducible refine o_isc ?_ | with_reducible refine o_gdic ?_ | with_reducible refine o_ccon ?_ | with_reducible refine f_nil ?_ | with_reducible refine f_cons ?_ | with_reducible refine s_sfld ?_ | with_reducible refine s_tasg ?_ | with_reducible refine s_uasg ?_ | with_reducible refine ss_nil ?_ | with_reducible refine q_nx ?_ | with_reducible refine q_rt ?_ | with_reducible refine ts_nil ?_ | with_reducible refine lcd ?_ | with_reducible refine o_rt ?_ | with_reducible refine e_var (by with_unfolding_all rfl) ?_ | with_reducible refine t_var (by with_unfolding_all rfl) ?_ | with_reducible refine oo_mod (by omega) ?_ | with_reducible refine oo_fdiv (by omega) ?_ | with_reducible refine oo_mul (by omega) ?_ | with_reducible refine as_b ?_ | with_reducible refine as_i ?_ | with_reducible refine dec_t (by with_unfolding_all rfl) ?_ | with_reducible refine dec_f (by with_unfolding_all rfl) ?_ | with_reducible refine dec_t' (by with_unfolding_all rfl) ?_ | with_reducible refine dec_f' (by with_unfolding_all rfl) ?_ | with_reducible refine put_ok (by with_unfolding_all rfl) (by with_unfolding_all rfl) ?_ | with_reducible refine pg_cl ?_ | with_reducible refine pg_cl1 ?_ | with_reducible refine gd_rfl (by with_unfolding_all rfl) ?_ | with_reducible refine oo (by with_unfolding_all rfl) ?_)
  refine o_oeq rfl rfl ?_
  refine pg_cl ?_
  refine cok_imp (eq_ok (k := k + 9)) fun d s y => ?_
  obtain ⟨rfl, rfl⟩ := y
  refine ⟨_, rfl, ?_⟩
  rw [beq_self_eq_true]
  repeat (first | with_reducible refine ss_cons ?_ | with_reducible refine s_put ?_ | with_reducible refine s_asg ?_ | with_reducible refine s_asgo_lst ?_ | with_reducible refine s_ex ?_ | with_reducible refine s_ret ?_ | with_reducible refine s_iff ?_ | with_reducible refine s_for ?_ | with_reducible refine e_c ?_ | with_reducible refine e_glo ?_ | with_reducible refine e_lst ?_ | with_reducible refine e_tup ?_ | with_reducible refine e_newl ?_ | with_reducible refine e_bin ?_ | with_reducible refine e_cmp ?_ | with_reducible refine e_chn ?_ | with_reducible refine e_isn ?_ | with_reducible refine e_and ?_ | with_reducible refine e_or ?_ | with_reducible refine e_not ?_ | with_reducible refine e_ife ?_ | with_reducible refine e_call ?_ | with_reducible refine e_bi ?_ | with_reducible refine e_mt ?_ | with_reducible refine e_sub ?_ | with_reducible refine e_slc ?_ | with_reducible refine e_isi ?_ | with_reducible refine e_isiT ?_ | with_reducible refine e_lc ?_ | with_reducible refine e_op1 ?_ | with_reducible refine e_opn ?_ | with_reducible refine e_fst ?_ | with_reducible refine es_nil ?_ | with_reducible refine es_cons ?_ | with_reducible refine eo_no ?_ | with_reducible refine eo_yes ?_ | with_reducible refine ei_it ?_ | with_reducible refine ei_rng ?_ | with_reducible refine ei_zip ?_ | with_reducible refine ei_enm ?_ | with_reducible refine t_cmp ?_ | with_reducible refine t_isn ?_ | with_reducible refine t_and ?_ | with_reducible refine t_or ?_ | with_reducible refine t_not ?_ | with_reducible refine t_call ?_ | with_reducible refine t_isi ?_ | with_reducible refine t_isiT ?_ | with_reducible refine t_op1 ?_ | with_reducible refine t_opn ?_ | with_reducible refine o_neg ?_ | with_reducible refine o_fld ?_ | with_reducible refine o_isc ?_ | with_reducible refine o_gdic ?_ | with_reducible refine o_ccon ?_ | with_reducible refine f_nil ?_ | with_reducible refine f_cons ?_ | with_reducible refine s_sfld ?_ | with_reducible refine s_tasg ?_ | with_reducible refine s_uasg ?_ | with_reducible refine ss_nil ?_ | with_reducible refine q_nx ?_ | with_reducible refine q_rt ?_ | with_reducible refine ts_nil ?_ | with_reducible refine lcd ?_ | with_reducible refine o_rt ?_ | with_reducible refine e_var (by with_unfolding_all rfl) ?_ | with_reducible refine t_var (by with_unfolding_all rfl) ?_ | with_reducible refine oo_mod (by omega) ?_ | with_reducible refine oo_fdiv (by omega) ?_ | with_reducible refine oo_mul (by omega) ?_ | with_reducible refine as_b ?_ | with_reducible refine as_i ?_ | with_reducible refine dec_t (by with_unfolding_all rfl) ?_ | with_reducible refine dec_f (by with_unfolding_all rfl) ?_ | with_reducible refine dec_t' (by with_unfolding_all rfl) ?_ | with_reducible refine dec_f' (by with_unfolding_all rfl) ?_ | with_reducible refine put_ok (by with_unfolding_all rfl) (by with_unfolding_all rfl) ?_ | with_reducible refine pg_cl ?_ | with_reducible refine pg_cl1 ?_ | with_reducible refine gd_rfl (by with_unfolding_all rfl) ?_ | with_reducible refine oo (by with_unfolding_all rfl) ?_)
  exact ⟨rfl, _, rfl, rfl⟩
theorem st8 (B : BagOk c) (hr : runOf smallL 8 (.str z) = true) (hz : z.length ≤ 8) (G : GOk kd sd) (Gu : GOk kd (usual kd)) : OT (denS (PG fs gn (k + 10)) lb1_8 (E8 ns d z kd sd x8 (.sh (.str (usual kd))) x10 x11) (c :: R)) (fun o e s => o = .nx ∧ ∃ c R z' sd', s = c :: R ∧ BagOk c ∧ runOf smallL 8 (.str z') = true ∧ GOk kd sd' ∧ e = E8 ns d z kd sd x8 (.sh (.str (usual kd))) (.sh (grp z' kd sd')) x11) := by
  have xx : runOf smallL 8 (.str [120]) = true := by decide
  have zx : z.length < 8 → runOf smallL 8 (.str (z ++ [120])) = true := fun h => by
    simp only [runOf, Bool.and_eq_true, decide_eq_true_eq, List.all_eq_true] at hr ⊢
    refine ⟨⟨by simp, by simp; omega⟩, fun x hx => ?_⟩
    rcases List.mem_append.1 hx with hx | hx
    · exact hr.2 x hx
    · simp only [List.mem_singleton] at hx
      subst hx
      decide
  constructor
  dsimp only [lb1_8, E8]
  repeat (first | with_reducible refine ss_cons ?_ | with_reducible refine s_put ?_ | with_reducible refine s_asg ?_ | with_reducible refine s_asgo_lst ?_ | with_reducible refine s_ex ?_ | with_reducible refine s_ret ?_ | with_reducible refine s_iff ?_ | with_reducible refine s_for ?_ | with_reducible refine e_c ?_ | with_reducible refine e_glo ?_ | with_reducible refine e_lst ?_ | with_reducible refine e_tup ?_ | with_reducible refine e_newl ?_ | with_reducible refine e_bin ?_ | with_reducible refine e_cmp ?_ | with_reducible refine e_chn ?_ | with_reducible refine e_isn ?_ | with_reducible refine e_and ?_ | with_reducible refine e_or ?_ | with_reducible refine e_not ?_ | with_reducible refine e_ife ?_ | with_reducible refine e_call ?_ | with_reducible refine e_bi ?_ | with_reducible refine e_mt ?_ | with_reducible refine e_sub ?_ | with_reducible refine e_slc ?_ | with_reducible refine e_isi ?_ | with_reducible refine e_isiT ?_ | with_reducible refine e_lc ?_ | with_reducible refine e_op1 ?_ | with_reducible refine e_opn ?_ | with_reducible refine e_fst ?_ | with_reducible refine es_nil ?_ | with_reducible refine es_cons ?_ | with_reducible refine eo_no ?_ | with_reducible refine eo_yes ?_ | with_reducible refine ei_it ?_ | with_reducible refine ei_rng ?_ | with_reducible refine ei_zip ?_ | with_reducible refine ei_enm ?_ | with_reducible refine t_cmp ?_ | with_reducible refine t_isn ?_ | with_reducible refine t_and ?_ | with_reducible refine t_or ?_ | with_reducible refine t_not ?_ | with_reducible refine t_call ?_ | with_reducible refine t_isi ?_ | with_reducible refine t_isiT ?_ | with_reducible refine t_op1 ?_ | with_reducible refine t_opn ?_ | with_reducible refine o_neg ?_ | with_reducible refine o_fld ?_ | with_reducible refine o_isc ?_ | with_reducible refine o_gdic ?_ | with_reducible refine o_ccon ?_ | with_reducible refine f_nil ?_ | with_reducible refine f_cons ?_ | with_reducible refine s_sfld ?_ | with_reducible refine s_tasg ?_ | with_reducible refine s_uasg ?_ | with_reducible refine ss_nil ?_ | with_reducible refine q_nx ?_ | with_reducible refine q_rt ?_ | with_reducible refine ts_nil ?_ | with_reducible refine lcd ?_ | with_reducible refine o_rt ?_ | with_reducible refine e_var (by with_unfolding_all rfl) ?_ | with_reducible refine t_var (by with_unfolding_all rfl) ?_ | with_reducible refine oo_mod (by omega) ?_ | with_reducible refine oo_fdiv (by omega) ?_ | with_reducible refine oo_mul (by omega) ?_ | with_reducible refine as_b ?_ | with_reducible refine as_i ?_ | with_reducible refine dec_t (by with_unfolding_all rfl) ?_ | with_reducible refine dec_f (by with_unfolding_all rfl) ?_ | with_reducible refine dec_t' (by with_unfolding_all rfl) ?_ | with_reducible refine dec_f' (by with_unfolding_all rfl) ?_ | with_reducible refine put_ok (by with_unfolding_all rfl) (by with_unfolding_all rfl) ?_ | with_reducible refine pg_cl ?_ | with_reducible refine pg_cl1 ?_ | with_reducible refine gd_rfl (by with_unfolding_all rfl) ?_ | with_reducible refine oo (by with_unfolding_all rfl) ?_)
  have key : ∀ y : List Nat, runOf smallL 8 (.str y) = true → ∀ d ∈ [D.str z, D.str y], ∃ z', d = .str z' ∧ runOf smallL 8 (.str z') = true := fun y hy d hd => by
    simp only [List.mem_cons, List.not_mem_nil, or_false] at hd
    rcases hd with rfl | rfl
    · exact ⟨z, rfl, hr⟩
    · exact ⟨y, rfl, hy⟩
  have key2 : ∀ d ∈ [D.str sd, D.str (usual kd)], ∃ sd', d = .str sd' ∧ GOk kd sd' := fun d hd => by
    simp only [List.mem_cons, List.not_mem_nil, or_false] at hd
    rcases hd with rfl | rfl
    · exact ⟨sd, rfl, G⟩
    · exact ⟨usual kd, rfl, Gu⟩
  refine ⟨fun h => ?_, fun h => ?_⟩
  · have h8 : z.length < 8 := by have := of_decide_eq_true h; omega
    repeat (first | with_reducible refine ss_cons ?_ | with_reducible refine s_put ?_ | with_reducible refine s_asg ?_ | with_reducible refine s_asgo_lst ?_ | with_reducible refine s_ex ?_ | with_reducible refine s_ret ?_ | with_reducible refine s_iff ?_ | with_reducible refine s_for ?_ | with_reducible refine e_c ?_ | with_reducible refine e_glo ?_ | with_reducible refine e_lst ?_ | with_reducible refine e_tup ?_ | with_reducible refine e_newl ?_ | with_reducible refine e_bin ?_ | with_reducible refine e_cmp ?_ | with_reducible refine e_chn ?_ | with_reducible refine e_isn ?_ | with_reducible refine e_and ?_ | with_reducible refine e_or ?_ | with_reducible refine e_not ?_ | with_reducible refine e_ife ?_ | with_reducible refine e_call ?_ | with_reducible refine e_bi ?_ | with_reducible refine e_mt ?_ | with_reducible refine e_sub ?_ | with_reducible refine e_slc ?_ | with_reducible refine e_isi ?_ | with_reducible refine e_isiT ?_ | with_reducible refine e_lc ?_ | with_reducible refine e_op1 ?_ | with_reducible refine e_opn ?_ | with_reducible refine e_fst ?_ | with_reducible refine es_nil ?_ | with_reducible refine es_cons ?_ | with_reducible refine eo_no ?_ | with_reducible refine eo_yes ?_ | with_reducible refine ei_it ?_ | with_reducible refine ei_rng ?_ | with_reducible refine ei_zip ?_ | with_reducible refine ei_enm ?_ | with_reducible refine t_cmp ?_ | with_reducible refine t_isn ?_ | with_reducible refine t_and ?_ | with_reducible refine t_or ?_ | with_reducible refine t_not ?_ | with_reducible refine t_call ?_ | with_reducible refine t_isi ?_ | with_reducible refine t_isiT ?_ | with_reducible refine t_op1 ?_ | with_reducible refine t_opn ?_ | with_reducible refine o_neg ?_ | with_reducible refine o_fld ?_ | with_reducible refine o_isc ?_ | with_reducible refine o_gdic ?_ | with_reducible refine o_ccon ?_ | with_reducible refine f_nil ?_ | with_reducible refine f_cons ?_ | with_reducible refine s_sfld ?_ | with_reducible refine s_tasg ?_ | with_reducible refine s_uasg ?_ | with_reducible refine ss_nil ?_ | with_reducible refine q_nx ?_ | with_reducible refine q_rt ?_ | with_reducible refine ts_nil ?_ | with_reducible refine lcd ?_ | with_reducible refine o_rt ?_ | with_reducible refine e_var (by with_unfolding_all rfl) ?_ | with_reducible refine t_var (by with_unfolding_all rfl) ?_ | with_reducible refine oo_mod (by omega) ?_ | with_reducible refine oo_fdiv (by omega) ?_ | with_reducible refine oo_mul (by omega) ?_ | with_reducible refine as_b ?_ | with_reducible refine as_i ?_ | with_reducible refine dec_t (by with_unfolding_all rfl) ?_ | with_reducible refine dec_f (by with_unfolding_all rfl) ?_ | with_reducible refine dec_t' (by with_unfolding_all rfl) ?_ | with_reducible refine dec_f' (by with_unfolding_all rfl) ?_ | with_reducible refine put_ok (by with_unfolding_all rfl) (by with_unfolding_all rfl) ?_ | with_reducible refine pg_cl ?_ | with_reducible refine pg_cl1 ?_ | with_reducible refine gd_rfl (by with_unfolding_all rfl) ?_ | with_reducible refine oo (by with_unfolding_all rfl) ?_)
    refine oo_adds (by show _ ≤ 16777216; simp; omega) ?_
    repeat (first | with_reducible refine ss_cons ?_ | with_reducible refine s_put ?_ | with_reducible refine s_asg ?_ | with_reducible refine s_asgo_lst ?_ | with_reducible refine s_ex ?_ | with_reducible refine s_ret ?_ | with_reducible refine s_iff ?_ | with_reducible refine s_for ?_ | with_reducible refine e_c ?_ | with_reducible refine e_glo ?_ | with_reducible refine e_lst ?_ | with_reducible refine e_tup ?_ | with_reducible refine e_newl ?_ | with_reducible refine e_bin ?_ | with_reducible refine e_cmp ?_ | with_reducible refine e_chn ?_ | with_reducible refine e_isn ?_ | with_reducible refine e_and ?_ | with_reducible refine e_or ?_ | with_reducible refine e_not ?_ | with_reducible refine e_ife ?_ | with_reducible refine e_call ?_ | with_reducible refine e_bi ?_ | with_reducible refine e_mt ?_ | with_reducible refine e_sub ?_ | with_reducible refine e_slc ?_ | with_reducible refine e_isi ?_ | with_reducible refine e_isiT ?_ | with_reducible refine e_lc ?_ | with_reducible refine e_op1 ?_ | with_reducible refine e_opn ?_ | with_reducible refine e_fst ?_ | with_reducible refine es_nil ?_ | with_reducible refine es_cons ?_ | with_reducible refine eo_no ?_ | with_reducible refine eo_yes ?_ | with_reducible refine ei_it ?_ | with_reducible refine ei_rng ?_ | with_reducible refine ei_zip ?_ | with_reducible refine ei_enm ?_ | with_reducible refine t_cmp ?_ | with_reducible refine t_isn ?_ | with_reducible refine t_and ?_ | with_reducible refine t_or ?_ | with_reducible refine t_not ?_ | with_reducible refine t_call ?_ | with_reducible refine t_isi ?_ | with_reducible refine t_isiT ?_ | with_reducible refine t_op1 ?_ | with_reducible refine t_opn ?_ | with_reducible refine o_neg ?_ | with_reducible refine o_fld ?_ | with_reducible refine o_isc ?_ | with_reducible refine o_gdic ?_ | with_reducible refine o_ccon ?_ | with_reducible refine f_nil ?_ | with_reducible refine f_cons ?_ | with_reducible refine s_sfld ?_ | with_reducible refine s_tasg ?_ | with_reducible refine s_uasg ?_ | with_reducible refine ss_nil ?_ | with_reducible refine q_nx ?_ | with_reducible refine q_rt ?_ | with_reducible refine ts_nil ?_ | with_reducible refine lcd ?_ | with_reducible refine o_rt ?_ | with_reducible refine e_var (by with_unfolding_all rfl) ?_ | with_reducible refine t_var (by with_unfolding_all rfl) ?_ | with_reducible refine oo_mod (by omega) ?_ | with_reducible refine oo_fdiv (by omega) ?_ | with_reducible refine oo_mul (by omega) ?_ | with_reducible refine as_b ?_ | with_reducible refine as_i ?_ | with_reducible refine dec_t (by with_unfolding_all rfl) ?_ | with_reducible refine dec_f (by with_unfolding_all rfl) ?_ | with_reducible refine dec_t' (by with_unfolding_all rfl) ?_ | with_reducible refine dec_f' (by with_unfolding_all rfl) ?_ | with_reducible refine put_ok (by with_unfolding_all rfl) (by with_unfolding_all rfl) ?_ | with_reducible refine pg_cl ?_ | with_reducible refine pg_cl1 ?_ | with_reducible refine gd_rfl (by with_unfolding_all rfl) ?_ | with_reducible refine oo (by with_unfolding_all rfl) ?_)
    refine cok_imp ((dr (k + 8)).of (Nat.zero_lt_succ _) (by show 2 < 1000000; decide) B) fun d s q => ?_
    obtain ⟨hd, c, rfl, B⟩ := q
    obtain ⟨z', rfl, hr'⟩ := key _ (zx h8) _ hd
    repeat (first | with_reducible refine ss_cons ?_ | with_reducible refine s_put ?_ | with_reducible refine s_asg ?_ | with_reducible refine s_asgo_lst ?_ | with_reducible refine s_ex ?_ | with_reducible refine s_ret ?_ | with_reducible refine s_iff ?_ | with_reducible refine s_for ?_ | with_reducible refine e_c ?_ | with_reducible refine e_glo ?_ | with_reducible refine e_lst ?_ | with_reducible refine e_tup ?_ | with_reducible refine e_newl ?_ | with_reducible refine e_bin ?_ | with_reducible refine e_cmp ?_ | with_reducible refine e_chn ?_ | with_reducible refine e_isn ?_ | with_reducible refine e_and ?_ | with_reducible refine e_or ?_ | with_reducible refine e_not ?_ | with_reducible refine e_ife ?_ | with_reducible refine e_call ?_ | with_reducible refine e_bi ?_ | with_reducible refine e_mt ?_ | with_reducible refine e_sub ?_ | with_reducible refine e_slc ?_ | with_reducible refine e_isi ?_ | with_reducible refine e_isiT ?_ | with_reducible refine e_lc ?_ | with_reducible refine e_op1 ?_ | with_reducible refine e_opn ?_ | with_reducible refine e_fst ?_ | with_reducible refine es_nil ?_ | with_reducible refine es_cons ?_ | with_reducible refine eo_no ?_ | with_reducible refine eo_yes ?_ | with_reducible refine ei_it ?_ | with_reducible refine ei_rng ?_ | with_reducible refine ei_zip ?_ | with_reducible refine ei_enm ?_ | with_reducible refine t_cmp ?_ | with_reducible refine t_isn ?_ | with_reducible refine t_and ?_ | with_reducible refine t_or ?_ | with_reducible refine t_not ?_ | with_reducible refine t_call ?_ | with_reducible refine t_isi ?_ | with_reducible refine t_isiT ?_ | with_reducible refine t_op1 ?_ | with_reducible refine t_opn ?_ | with_reducible refine o_neg ?_ | with_reducible refine o_fld ?_ | with_reducible refine o_isc ?_ | with_reducible refine o_gdic ?_ | with_reducible refine o_ccon ?_ | with_reducible refine f_nil ?_ | with_reducible refine f_cons ?_ | with_reducible refine s_sfld ?_ | with_reducible refine s_tasg ?_ | with_reducible refine s_uasg ?_ | with_reducible refine ss_nil ?_ | with_reducible refine q_nx ?_ | with_reducible refine q_rt ?_ | with_reducible refine ts_nil ?_ | with_reducible refine lcd ?_ | with_reducible refine o_rt ?_ | with_reducible refine e_var (by with_unfolding_all rfl) ?_ | with_reducible refine t_var (by with_unfolding_all rfl) ?_ | with_reducible refine oo_mod (by omega) ?_ | with_reducible refine oo_fdiv (by omega) ?_ | with_reducible refine oo_mul (by omega) ?_ | with_reducible refine as_b ?_ | with_reducible refine as_i ?_ | with_reducible refine dec_t (by with_unfolding_all rfl) ?_ | with_reducible refine dec_f (by with_unfolding_all rfl) ?_ | with_reducible refine dec_t' (by with_unfolding_all rfl) ?_ | with_reducible refine dec_f' (by with_unfolding_all rfl) ?_ | with_reducible refine put_ok (by with_unfolding_all rfl) (by with_unfolding_all rfl) ?_ | with_reducible refine pg_cl ?_ | with_reducible refine pg_cl1 ?_ | with_reducible refine gd_rfl (by with_unfolding_all rfl) ?_ | with_reducible refine oo (by with_unfolding_all rfl) ?_)
    refine cok_imp ((dr (k + 8)).of (Nat.zero_lt_succ _) (by show 2 < 1000000; decide) B) fun d s q => ?_
    obtain ⟨hd, c, rfl, B⟩ := q
    obtain ⟨sd', rfl, G'⟩ := key2 _ hd
    repeat (first | with_reducible refine ss_cons ?_ | with_reducible refine s_put ?_ | with_reducible refine s_asg ?_ | with_reducible refine s_asgo_lst ?_ | with_reducible refine s_ex ?_ | with_reducible refine s_ret ?_ | with_reducible refine s_iff ?_ | with_reducible refine s_for ?_ | with_reducible refine e_c ?_ | with_reducible refine e_glo ?_ | with_reducible refine e_lst ?_ | with_reducible refine e_tup ?_ | with_reducible refine e_newl ?_ | with_reducible refine e_bin ?_ | with_reducible refine e_cmp ?_ | with_reducible refine e_chn ?_ | with_reducible refine e_isn ?_ | with_reducible refine e_and ?_ | with_reducible refine e_or ?_ | with_reducible refine e_not ?_ | with_reducible refine e_ife ?_ | with_reducible refine e_call ?_ | with_reducible refine e_bi ?_ | with_reducible refine e_mt ?_ | with_reducible refine e_sub ?_ | with_reducible refine e_slc ?_ | with_reducible refine e_isi ?_ | with_reducible refine e_isiT ?_ | with_reducible refine e_lc ?_ | with_reducible refine e_op1 ?_ | with_reducible refine e_opn ?_ | with_reducible refine e_fst ?_ | with_reducible refine es_nil ?_ | with_reducible refine es_cons ?_ | with_reducible refine eo_no ?_ | with_reducible refine eo_yes ?_ | with_reducible refine ei_it ?_ | with_reducible refine ei_rng ?_ | with_reducible refine ei_zip ?_ | with_reducible refine ei_enm ?_ | with_reducible refine t_cmp ?_ | with_reducible refine t_isn ?_ | with_reducible refine t_and ?_ | with_reducible refine t_or ?_ | with_reducible refine t_not ?_ | with_reducible refine t_call ?_ | with_reducible refine t_isi ?_ | with_reducible refine t_isiT ?_ | with_reducible refine t_op1 ?_ | with_reducible refine t_opn ?_ | with_reducible refine o_neg ?_ | with_reducible refine o_fld ?_ | with_reducible refine o_isc ?_ | with_reducible refine o_gdic ?_ | with_reducible refine o_ccon ?_ | with_reducible refine f_nil ?_ | with_reducible refine f_cons ?_ | with_reducible refine s_sfld ?_ | with_reducible refine s_tasg ?_ | with_reducible refine s_uasg ?_ | with_reducible refine ss_nil ?_ | with_reducible refine q_nx ?_ | with_reducible refine q_rt ?_ | with_reducible refine ts_nil ?_ | with_reducible refine lcd ?_ | with_reducible refine o_rt ?_ | with_reducible refine e_var (by with_unfolding_all rfl) ?_ | with_reducible refine t_var (by with_unfolding_all rfl) ?_ | with_reducible refine oo_mod (by omega) ?_ | with_reducible refine oo_fdiv (by omega) ?_ | with_reducible refine oo_mul (by omega) ?_ | with_reducible refine as_b ?_ | with_reducible refine as_i ?_ | with_reducible refine dec_t (by with_unfolding_all rfl) ?_ | with_reducible refine dec_f (by with_unfolding_all rfl) ?_ | with_reducible refine dec_t' (by with_unfolding_all rfl) ?_ | with_reducible refine dec_f' (by with_unfolding_all rfl) ?_ | with_reducible refine put_ok (by with_unfolding_all rfl) (by with_unfolding_all rfl) ?_ | with_reducible refine pg_cl ?_ | with_reducible refine pg_cl1 ?_ | with_reducible refine gd_rfl (by with_unfolding_all rfl) ?_ | with_reducible refine oo (by with_unfolding_all rfl) ?_)
    refine mk_ok (k := k + 6) rfl rfl rfl hr' (run_sp hr').2 G' (.inl rfl) ?_
    exact ⟨rfl, c, _, z', sd', rfl, B, hr', G', rfl⟩
  · repeat (first | with_reducible refine ss_cons ?_ | with_reducible refine s_put ?_ | with_reducible refine s_asg ?_ | with_reducible refine s_asgo_lst ?_ | with_reducible refine s_ex ?_ | with_reducible refine s_ret ?_ | with_reducible refine s_iff ?_ | with_reducible refine s_for ?_ | with_reducible refine e_c ?_ | with_reducible refine e_glo ?_ | with_reducible refine e_lst ?_ | with_reducible refine e_tup ?_ | with_reducible refine e_newl ?_ | with_reducible refine e_bin ?_ | with_reducible refine e_cmp ?_ | with_reducible refine e_chn ?_ | with_reducible refine e_isn ?_ | with_reducible refine e_and ?_ | with_reducible refine e_or ?_ | with_reducible refine e_not ?_ | with_reducible refine e_ife ?_ | with_reducible refine e_call ?_ | with_reducible refine e_bi ?_ | with_reducible refine e_mt ?_ | with_reducible refine e_sub ?_ | with_reducible refine e_slc ?_ | with_reducible refine e_isi ?_ | with_reducible refine e_isiT ?_ | with_reducible refine e_lc ?_ | with_reducible refine e_op1 ?_ | with_reducible refine e_opn ?_ | with_reducible refine e_fst ?_ | with_reducible refine es_nil ?_ | with_reducible refine es_cons ?_ | with_reducible refine eo_no ?_ | with_reducible refine eo_yes ?_ | with_reducible refine ei_it ?_ | with_reducible refine ei_rng ?_ | with_reducible refine ei_zip ?_ | with_reducible refine ei_enm ?_ | with_reducible refine t_cmp ?_ | with_reducible refine t_isn ?_ | with_reducible refine t_and ?_ | with_reducible refine t_or ?_ | with_reducible refine t_not ?_ | with_reducible refine t_call ?_ | with_reducible refine t_isi ?_ | with_reducible refine t_isiT ?_ | with_reducible refine t_op1 ?_ | with_reducible refine t_opn ?_ | with_reducible refine o_neg ?_ | with_reducible refine o_fld ?_ | with_reducible refine o_isc ?_ | with_reducible refine o_gdic ?_ | with_reducible refine o_ccon ?_ | with_reducible refine f_nil ?_ | with_reducible refine f_cons ?_ | with_reducible refine s_sfld ?_ | with_reducible refine s_tasg ?_ | with_reducible refine s_uasg ?_ | with_reducible refine ss_nil ?_ | with_reducible refine q_nx ?_ | with_reducible refine q_rt ?_ | with_reducible refine ts_nil ?_ | with_reducible refine lcd ?_ | with_reducible refine o_rt ?_ | with_reducible refine e_var (by with_unfolding_all rfl) ?_ | with_reducible refine t_var (by with_unfolding_all rfl) ?_ | with_reducible refine oo_mod (by omega) ?_ | with_reducible refine oo_fdiv (by omega) ?_ | with_reducible refine oo_mul (by omega) ?_ | with_reducible refine as_b ?_ | with_reducible refine as_i ?_ | with_reducible refine dec_t (by with_unfolding_all rfl) ?_ | with_reducible refine dec_f (by with_unfolding_all rfl) ?_ | with_reducible refine dec_t' (by with_unfolding_all rfl) ?_ | with_reducible refine dec_f' (by with_unfolding_all rfl) ?_ | with_reducible refine put_ok (by with_unfolding_all rfl) (by with_unfolding_all rfl) ?_ | with_reducible refine pg_cl ?_ | with_reducible refine pg_cl1 ?_ | with_reducible refine gd_rfl (by with_unfolding_all rfl) ?_ | with_reducible refine oo (by with_unfolding_all rfl) ?_)
    refine cok_imp ((dr (k + 8)).of (Nat.zero_lt_succ _) (by show 2 < 1000000; decide) B) fun d s q => ?_
    obtain ⟨hd, c, rfl, B⟩ := q
    obtain ⟨z', rfl, hr'⟩ := key _ xx _ hd
    repeat (first | with_reducible refine ss_cons ?_ | with_reducible refine s_put ?_ | with_reducible refine s_asg ?_ | with_reducible refine s_asgo_lst ?_ | with_reducible refine s_ex ?_ | with_reducible refine s_ret ?_ | with_reducible refine s_iff ?_ | with_reducible refine s_for ?_ | with_reducible refine e_c ?_ | with_reducible refine e_glo ?_ | with_reducible refine e_lst ?_ | with_reducible refine e_tup ?_ | with_reducible refine e_newl ?_ | with_reducible refine e_bin ?_ | with_reducible refine e_cmp ?_ | with_reducible refine e_chn ?_ | with_reducible refine e_isn ?_ | with_reducible refine e_and ?_ | with_reducible refine e_or ?_ | with_reducible refine e_not ?_ | with_reducible refine e_ife ?_ | with_reducible refine e_call ?_ | with_reducible refine e_bi ?_ | with_reducible refine e_mt ?_ | with_reducible refine e_sub ?_ | with_reducible refine e_slc ?_ | with_reducible refine e_isi ?_ | with_reducible refine e_isiT ?_ | with_reducible refine e_lc ?_ | with_reducible refine e_op1 ?_ | with_reducible refine e_opn ?_ | with_reducible refine e_fst ?_ | with_reducible refine es_nil ?_ | with_reducible refine es_cons ?_ | with_reducible refine eo_no ?_ | with_reducible refine eo_yes ?_ | with_reducible refine ei_it ?_ | with_reducible refine ei_rng ?_ | with_reducible refine ei_zip ?_ | with_reducible refine ei_enm ?_ | with_reducible refine t_cmp ?_ | with_reducible refine t_isn ?_ | with_reducible refine t_and ?_ | with_reducible refine t_or ?_ | with_reducible refine t_not ?_ | with_reducible refine t_call ?_ | with_reducible refine t_isi ?_ | with_reducible refine t_isiT ?_ | with_reducible refine t_op1 ?_ | with_reducible refine t_opn ?_ | with_reducible refine o_neg ?_ | with_reducible refine o_fld ?_ | with_reducible refine o_isc ?_ | with_reducible refine o_gdic ?_ | with_reducible refine o_ccon ?_ | with_reducible refine f_nil ?_ | with_reducible refine f_cons ?_ | with_reducible refine s_sfld ?_ | with_reducible refine s_tasg ?_ | with_reducible refine s_uasg ?_ | with_reducible refine ss_nil ?_ | with_reducible refine q_nx ?_ | with_reducible refine q_rt ?_ | with_reducible refine ts_nil ?_ | with_reducible refine lcd ?_ | with_reducible refine o_rt ?_ | with_reducible refine e_var (by with_unfolding_all rfl) ?_ | with_reducible refine t_var (by with_unfolding_all rfl) ?_ | with_reducible refine oo_mod (by omega) ?_ | with_reducible refine oo_fdiv (by omega) ?_ | with_reducible refine oo_mul (by omega) ?_ | with_reducible refine as_b ?_ | with_reducible refine as_i ?_ | with_reducible refine dec_t (by with_unfolding_all rfl) ?_ | with_reducible refine dec_f (by with_unfolding_all rfl) ?_ | with_reducible refine dec_t' (by with_unfolding_all rfl) ?_ | with_reducible refine dec_f' (by with_unfolding_all rfl) ?_ | with_reducible refine put_ok (by with_unfolding_all rfl) (by with_unfolding_all rfl) ?_ | with_reducible refine pg_cl ?_ | with_reducible refine pg_cl1 ?_ | with_reducible refine gd_rfl (by with_unfolding_all rfl) ?_ | with_reducible refine oo (by with_unfolding_all rfl) ?_)
    refine cok_imp ((dr (k + 8)).of (Nat.zero_lt_succ _) (by show 2 < 1000000; decide) B) fun d s q => ?_
    obtain ⟨hd, c, rfl, B⟩ := q
    obtain ⟨sd', rfl, G'⟩ := key2 _ hd
    repeat (first | with_reducible refine ss_cons ?_ | with_reducible refine s_put ?_ | with_reducible refine s_asg ?_ | with_reducible refine s_asgo_lst ?_ | with_reducible refine s_ex ?_ | with_reducible refine s_ret ?_ | with_reducible refine s_iff ?_ | with_reducible refine s_for ?_ | with_reducible refine e_c ?_ | with_reducible refine e_glo ?_ | with_reducible refine e_lst ?_ | with_reducible refine e_tup ?_ | with_reducible refine e_newl ?_ | with_reducible refine e_bin ?_ | with_reducible refine e_cmp ?_ | with_reducible refine e_chn ?_ | with_reducible refine e_isn ?_ | with_reducible refine e_and ?_ | with_reducible refine e_or ?_ | with_reducible refine e_not ?_ | with_reducible refine e_ife ?_ | with_reducible refine e_call ?_ | with_reducible refine e_bi ?_ | with_reducible refine e_mt ?_ | with_reducible refine e_sub ?_ | with_reducible refine e_slc ?_ | with_reducible refine e_isi ?_ | with_reducible refine e_isiT ?_ | with_reducible refine e_lc ?_ | with_reducible refine e_op1 ?_ | with_reducible refine e_opn ?_ | with_reducible refine e_fst ?_ | with_reducible refine es_nil ?_ | with_reducible refine es_cons ?_ | with_reducible refine eo_no ?_ | with_reducible refine eo_yes ?_ | with_reducible refine ei_it ?_ | with_reducible refine ei_rng ?_ | with_reducible refine ei_zip ?_ | with_reducible refine ei_enm ?_ | with_reducible refine t_cmp ?_ | with_reducible refine t_isn ?_ | with_reducible refine t_and ?_ | with_reducible refine t_or ?_ | with_reducible refine t_not ?_ | with_reducible refine t_call ?_ | with_reducible refine t_isi ?_ | with_reducible refine t_isiT ?_ | with_reducible refine t_op1 ?_ | with_reducible refine t_opn ?_ | with_reducible refine o_neg ?_ | with_reducible refine o_fld ?_ | with_reducible refine o_isc ?_ | with_reducible refine o_gdic ?_ | with_reducible refine o_ccon ?_ | with_reducible refine f_nil ?_ | with_reducible refine f_cons ?_ | with_reducible refine s_sfld ?_ | with_reducible refine s_tasg ?_ | with_reducible refine s_uasg ?_ | with_reducible refine ss_nil ?_ | with_reducible refine q_nx ?_ | with_reducible refine q_rt ?_ | with_reducible refine ts_nil ?_ | with_reducible refine lcd ?_ | with_reducible refine o_rt ?_ | with_reducible refine e_var (by with_unfolding_all rfl) ?_ | with_reducible refine t_var (by with_unfolding_all rfl) ?_ | with_reducible refine oo_mod (by omega) ?_ | with_reducible refine oo_fdiv (by omega) ?_ | with_reducible refine oo_mul (by omega) ?_ | with_reducible refine as_b ?_ | with_reducible refine as_i ?_ | with_reducible refine dec_t (by with_unfolding_all rfl) ?_ | with_reducible refine dec_f (by with_unfolding_all rfl) ?_ | with_reducible refine dec_t' (by with_unfolding_all rfl) ?_ | with_reducible refine dec_f' (by with_unfolding_all rfl) ?_ | with_reducible refine put_ok (by with_unfolding_all rfl) (by with_unfolding_all rfl) ?_ | with_reducible refine pg_cl ?_ | with_reducible refine pg_cl1 ?_ | with_reducible refine gd_rfl (by with_unfolding_all rfl) ?_ | with_reducible refine oo (by with_unfolding_all rfl) ?_)
    refine mk_ok (k := k + 6) rfl rfl rfl hr' (run_sp hr').2 G' (.inl rfl) ?_
    exact ⟨rfl, c, _, z', sd', rfl, B, hr', G', rfl⟩
def lstB (a b : List Nat) : D := .lst [.bl (a == b), .bl (!(a == b)), .bl false, .bl true]
theorem st9 {z' sd' : List Nat} (hr : runOf smallL 8 (.str z) = true) (G : GOk kd sd) : OT (denS (PG fs gn (k + 10)) lb1_9 (E8 ns d z kd sd x8 x9 (.sh (grp z' kd sd')) x11) (c :: R)) (fun o e s => o = .nx ∧ ∃ R, s = c :: R ∧ e = E8 ns d z kd sd x8 x9 (.sh (grp z' kd sd')) (.sh (lstB (txt z kd sd) (txt z' kd sd')))) := by
  constructor
  dsimp only [lb1_9, E8]
  repeat (first | with_reducible refine ss_cons ?_ | with_reducible refine s_put ?_ | with_reducible refine s_asg ?_ | with_reducible refine s_asgo_lst ?_ | with_reducible refine s_ex ?_ | with_reducible refine s_ret ?_ | with_reducible refine s_iff ?_ | with_reducible refine s_for ?_ | with_reducible refine e_c ?_ | with_reducible refine e_glo ?_ | with_reducible refine e_lst ?_ | with_reducible refine e_tup ?_ | with_reducible refine e_newl ?_ | with_reducible refine e_bin ?_ | with_reducible refine e_cmp ?_ | with_reducible refine e_chn ?_ | with_reducible refine e_isn ?_ | with_reducible refine e_and ?_ | with_reducible refine e_or ?_ | with_reducible refine e_not ?_ | with_reducible refine e_ife ?_ | with_reducible refine e_call ?_ | with_reducible refine e_bi ?_ | with_reducible refine e_mt ?_ | with_reducible refine e_sub ?_ | with_reducible refine e_slc ?_ | with_reducible refine e_isi ?_ | with_reducible refine e_isiT ?_ | with_reducible refine e_lc ?_ | with_reducible refine e_op1 ?_ | with_reducible refine e_opn ?_ | with_reducible refine e_fst ?_ | with_reducible refine es_nil ?_ | with_reducible refine es_cons ?_ | with_reducible refine eo_no ?_ | with_reducible refine eo_yes ?_ | with_reducible refine ei_it ?_ | with_reducible refine ei_rng ?_ | with_reducible refine ei_zip ?_ | with_reducible refine ei_enm ?_ | with_reducible refine t_cmp ?_ | with_reducible refine t_isn ?_ | with_reducible refine t_and ?_ | with_reducible refine t_or ?_ | with_reducible refine t_not ?_ | with_reducible refine t_call ?_ | with_reducible refine t_isi ?_ | with_reducible refine t_isiT ?_ | with_reducible refine t_op1 ?_ | with_reducible refine t_opn ?_ | with_reducible refine o_neg ?_ | with_reducible refine o_fld ?_ | with_reducible refine o_isc ?_ | with_reducible refine o_gdic ?_ | with_reducible refine o_ccon ?_ | with_reducible refine f_nil ?_ | with_reducible refine f_cons ?_ | with_reducible refine s_sfld ?_ | with_reducible refine s_tasg ?_ | with_reducible refine s_uasg ?_ | with_reducible refine ss_nil ?_ | with_reducible refine q_nx ?_ | with_reducible refine q_rt ?_ | with_reducible refine ts_nil ?_ | with_reducible refine lcd ?_ | with_reducible refine o_rt ?_ | with_reducible refine e_var (by with_unfolding_all rfl) ?_ | with_reducible refine t_var (by with_unfolding_all rfl) ?_ | with_reducible refine oo_mod (by omega) ?_ | with_reducible refine oo_fdiv (by omega) ?_ | with_reducible refine oo_mul (by omega) ?_ | with_reducible refine as_b ?_ | with_reducible refine as_i ?_ | with_reducible refine dec_t (by with_unfolding_all rfl) ?_ | with_reducible refine dec_f (by with_unfolding_all rfl) ?_ | with_reducible refine dec_t' (by with_unfolding_all rfl) ?_ | with_reducible refine dec_f' (by with_unfolding_all rfl) ?_ | with_reducible refine put_ok (by with_unfolding_all rfl) (by with_unfolding_all rfl) ?_ | with_reducible refine pg_cl ?_ | with_reducible refine pg_cl1 ?_ | with_reducible refine gd_rfl (by with_unfolding_all rfl) ?_ | with_reducible refine oo (by with_unfolding_all rfl) ?_)
  refine o_oeq rfl rfl ?_
  refine pg_cl ?_
  refine cok_imp (eq_ok (k := k + 9)) fun d s y => ?_
  obtain ⟨rfl, rfl⟩ := y
  refine ⟨_, rfl, ?_⟩
  repeat (first | with_reducible refine ss_cons ?_ | with_reducible refine s_put ?_ | with_reducible refine s_asg ?_ | with_reducible refine s_asgo_lst ?_ | with_reducible refine s_ex ?_ | with_reducible refine s_ret ?_ | with_reducible refine s_iff ?_ | with_reducible refine s_for ?_ | with_reducible refine e_c ?_ | with_reducible refine e_glo ?_ | with_reducible refine e_lst ?_ | with_reducible refine e_tup ?_ | with_reducible refine e_newl ?_ | with_reducible refine e_bin ?_ | with_reducible refine e_cmp ?_ | with_reducible refine e_chn ?_ | with_reducible refine e_isn ?_ | with_reducible refine e_and ?_ | with_reducible refine e_or ?_ | with_reducible refine e_not ?_ | with_reducible refine e_ife ?_ | with_reducible refine e_call ?_ | with_reducible refine e_bi ?_ | with_reducible refine e_mt ?_ | with_reducible refine e_sub ?_ | with_reducible refine e_slc ?_ | with_reducible refine e_isi ?_ | with_reducible refine e_isiT ?_ | with_reducible refine e_lc ?_ | with_reducible refine e_op1 ?_ | with_reducible refine e_opn ?_ | with_reducible refine e_fst ?_ | with_reducible refine es_nil ?_ | with_reducible refine es_cons ?_ | with_reducible refine eo_no ?_ | with_reducible refine eo_yes ?_ | with_reducible refine ei_it ?_ | with_reducible refine ei_rng ?_ | with_reducible refine ei_zip ?_ | with_reducible refine ei_enm ?_ | with_reducible refine t_cmp ?_ | with_reducible refine t_isn ?_ | with_reducible refine t_and ?_ | with_reducible refine t_or ?_ | with_reducible refine t_not ?_ | with_reducible refine t_call ?_ | with_reducible refine t_isi ?_ | with_reducible refine t_isiT ?_ | with_reducible refine t_op1 ?_ | with_reducible refine t_opn ?_ | with_reducible refine o_neg ?_ | with_reducible refine o_fld ?_ | with_reducible refine o_isc ?_ | with_reducible refine o_gdic ?_ | with_reducible refine o_ccon ?_ | with_reducible refine f_nil ?_ | with_reducible refine f_cons ?_ | with_reducible refine s_sfld ?_ | with_reducible refine s_tasg ?_ | with_reducible refine s_uasg ?_ | with_reducible refine ss_nil ?_ | with_reducible refine q_nx ?_ | with_reducible refine q_rt ?_ | with_reducible refine ts_nil ?_ | with_reducible refine lcd ?_ | with_reducible refine o_rt ?_ | with_reducible refine e_var (by with_unfolding_all rfl) ?_ | with_reducible refine t_var (by with_unfolding_all rfl) ?_ | with_reducible refine oo_mod (by omega) ?_ | with_reducible refine oo_fdiv (by omega) ?_ | with_reducible refine oo_mul (by omega) ?_ | with_reducible refine as_b ?_ | with_reducible refine as_i ?_ | with_reducible refine dec_t (by with_unfolding_all rfl) ?_ | with_reducible refine dec_f (by with_unfolding_all rfl) ?_ | with_reducible refine dec_t' (by with_unfolding_all rfl) ?_ | with_reducible refine dec_f' (by with_unfolding_all rfl) ?_ | with_reducible refine put_ok (by with_unfolding_all rfl) (by with_unfolding_all rfl) ?_ | with_reducible refine pg_cl ?_ | with_reducible refine pg_cl1 ?_ | with_reducible refine gd_rfl (by with_unfolding_all rfl) ?_ | with_reducible refine oo (by with_unfolding_all rfl) ?_)
  refine o_one rfl rfl ?_
  refine pg_cl1 ?_
  refine cok_imp (eq_ok (k := k + 8)) fun d s y => ?_
  obtain ⟨rfl, rfl⟩ := y
  refine ⟨_, rfl, ?_⟩
  repeat (first | with_reducible refine ss_cons ?_ | with_reducible refine s_put ?_ | with_reducible refine s_asg ?_ | with_reducible refine s_asgo_lst ?_ | with_reducible refine s_ex ?_ | with_reducible refine s_ret ?_ | with_reducible refine s_iff ?_ | with_reducible refine s_for ?_ | with_reducible refine e_c ?_ | with_reducible refine e_glo ?_ | with_reducible refine e_lst ?_ | with_reducible refine e_tup ?_ | with_reducible refine e_newl ?_ | with_reducible refine e_bin ?_ | with_reducible refine e_cmp ?_ | with_reducible refine e_chn ?_ | with_reducible refine e_isn ?_ | with_reducible refine e_and ?_ | with_reducible refine e_or ?_ | with_reducible refine e_not ?_ | with_reducible refine e_ife ?_ | with_reducible refine e_call ?_ | with_reducible refine e_bi ?_ | with_reducible refine e_mt ?_ | with_reducible refine e_sub ?_ | with_reducible refine e_slc ?_ | with_reducible refine e_isi ?_ | with_reducible refine e_isiT ?_ | with_reducible refine e_lc ?_ | with_reducible refine e_op1 ?_ | with_reducible refine e_opn ?_ | with_reducible refine e_fst ?_ | with_reducible refine es_nil ?_ | with_reducible refine es_cons ?_ | with_reducible refine eo_no ?_ | with_reducible refine eo_yes ?_ | with_reducible refine ei_it ?_ | with_reducible refine ei_rng ?_ | with_reducible refine ei_zip ?_ | with_reducible refine ei_enm ?_ | with_reducible refine t_cmp ?_ | with_reducible refine t_isn ?_ | with_reducible refine t_and ?_ | with_reducible refine t_or ?_ | with_reducible refine t_not ?_ | with_reducible refine t_call ?_ | with_reducible refine t_isi ?_ | with_reducible refine t_isiT ?_ | with_reducible refine t_op1 ?_ | with_reducible refine t_opn ?_ | with_reducible refine o_neg ?_ | with_reducible refine o_fld ?_ | with_reducible refine o_isc ?_ | with_reducible refine o_gdic ?_ | with_reducible refine o_ccon ?_ | with_reducible refine f_nil ?_ | with_reducible refine f_cons ?_ | with_reducible refine s_sfld ?_ | with_reducible refine s_tasg ?_ | with_reducible refine s_uasg ?_ | with_reducible refine ss_nil ?_ | with_reducible refine q_nx ?_ | with_reducible refine q_rt ?_ | with_reducible refine ts_nil ?_ | with_reducible refine lcd ?_ | with_reducible refine o_rt ?_ | with_reducible refine e_var (by with_unfolding_all rfl) ?_ | with_reducible refine t_var (by with_unfolding_all rfl) ?_ | with_reducible refine oo_mod (by omega) ?_ | with_reducible refine oo_fdiv (by omega) ?_ | with_reducible refine oo_mul (by omega) ?_ | with_reducible refine as_b ?_ | with_reducible refine as_i ?_ | with_reducible refine dec_t (by with_unfolding_all rfl) ?_ | with_reducible refine dec_f (by with_unfolding_all rfl) ?_ | with_reducible refine dec_t' (by with_unfolding_all rfl) ?_ | with_reducible refine dec_f' (by with_unfolding_all rfl) ?_ | with_reducible refine put_ok (by with_unfolding_all rfl) (by with_unfolding_all rfl) ?_ | with_reducible refine pg_cl ?_ | with_reducible refine pg_cl1 ?_ | with_reducible refine gd_rfl (by with_unfolding_all rfl) ?_ | with_reducible refine oo (by with_unfolding_all rfl) ?_)
  refine o_oeq rfl rfl ?_
  refine pg_cl ?_
  refine cok_imp (eq_no (k := k + 9)) fun d s y => ?_
  obtain ⟨rfl, rfl⟩ := y
  refine ⟨_, rfl, ?_⟩
  repeat (first | with_reducible refine ss_cons ?_ | with_reducible refine s_put ?_ | with_reducible refine s_asg ?_ | with_reducible refine s_asgo_lst ?_ | with_reducible refine s_ex ?_ | with_reducible refine s_ret ?_ | with_reducible refine s_iff ?_ | with_reducible refine s_for ?_ | with_reducible refine e_c ?_ | with_reducible refine e_glo ?_ | with_reducible refine e_lst ?_ | with_reducible refine e_tup ?_ | with_reducible refine e_newl ?_ | with_reducible refine e_bin ?_ | with_reducible refine e_cmp ?_ | with_reducible refine e_chn ?_ | with_reducible refine e_isn ?_ | with_reducible refine e_and ?_ | with_reducible refine e_or ?_ | with_reducible refine e_not ?_ | with_reducible refine e_ife ?_ | with_reducible refine e_call ?_ | with_reducible refine e_bi ?_ | with_reducible refine e_mt ?_ | with_reducible refine e_sub ?_ | with_reducible refine e_slc ?_ | with_reducible refine e_isi ?_ | with_reducible refine e_isiT ?_ | with_reducible refine e_lc ?_ | with_reducible refine e_op1 ?_ | with_reducible refine e_opn ?_ | with_reducible refine e_fst ?_ | with_reducible refine es_nil ?_ | with_reducible refine es_cons ?_ | with_reducible refine eo_no ?_ | with_reducible refine eo_yes ?_ | with_reducible refine ei_it ?_ | with_reducible refine ei_rng ?_ | with_reducible refine ei_zip ?_ | with_reducible refine ei_enm ?_ | with_reducible refine t_cmp ?_ | with_reducible refine t_isn ?_ | with_reducible refine t_and ?_ | with_reducible refine t_or ?_ | with_reducible refine t_not ?_ | with_reducible refine t_call ?_ | with_reducible refine t_isi ?_ | with_reducible refine t_isiT ?_ | with_reducible refine t_op1 ?_ | with_reducible refine t_opn ?_ | with_reducible refine o_neg ?_ | with_reducible refine o_fld ?_ | with_reducible refine o_isc ?_ | with_reducible refine o_gdic ?_ | with_reducible refine o_ccon ?_ | with_reducible refine f_nil ?_ | with_reducible refine f_cons ?_ | with_reducible refine s_sfld ?_ | with_reducible refine s_tasg ?_ | with_reducible refine s_uasg ?_ | with_reducible refine ss_nil ?_ | with_reducible refine q_nx ?_ | with_reducible refine q_rt ?_ | with_reducible refine ts_nil ?_ | with_reducible refine lcd ?_ | with_reducible refine o_rt ?_ | with_reducible refine e_var (by with_unfolding_all rfl) ?_ | with_reducible refine t_var (by with_unfolding_all rfl) ?_ | with_reducible refine oo_mod (by omega) ?_ | with_reducible refine oo_fdiv (by omega) ?_ | with_reducible refine oo_mul (by omega) ?_ | with_reducible refine as_b ?_ | with_reducible refine as_i ?_ | with_reducible refine dec_t (by with_unfolding_all rfl) ?_ | with_reducible refine dec_f (by with_unfolding_all rfl) ?_ | with_reducible refine dec_t' (by with_unfolding_all rfl) ?_ | with_reducible refine dec_f' (by with_unfolding_all rfl) ?_ | with_reducible refine put_ok (by with_unfolding_all rfl) (by with_unfolding_all rfl) ?_ | with_reducible refine pg_cl ?_ | with_reducible refine pg_cl1 ?_ | with_reducible refine gd_rfl (by with_unfolding_all rfl) ?_ | with_reducible refine oo (by with_unfolding_all rfl) ?_)
  refine o_stat rfl rfl ?_
  refine pg_cl ?_
  refine cok_imp (parsed_ok (k := k + 5) hr G) fun d s y => ?_
  obtain ⟨rfl, rfl⟩ := y
  repeat (first | with_reducible refine ss_cons ?_ | with_reducible refine s_put ?_ | with_reducible refine s_asg ?_ | with_reducible refine s_asgo_lst ?_ | with_reducible refine s_ex ?_ | with_reducible refine s_ret ?_ | with_reducible refine s_iff ?_ | with_reducible refine s_for ?_ | with_reducible refine e_c ?_ | with_reducible refine e_glo ?_ | with_reducible refine e_lst ?_ | with_reducible refine e_tup ?_ | with_reducible refine e_newl ?_ | with_reducible refine e_bin ?_ | with_reducible refine e_cmp ?_ | with_reducible refine e_chn ?_ | with_reducible refine e_isn ?_ | with_reducible refine e_and ?_ | with_reducible refine e_or ?_ | with_reducible refine e_not ?_ | with_reducible refine e_ife ?_ | with_reducible refine e_call ?_ | with_reducible refine e_bi ?_ | with_reducible refine e_mt ?_ | with_reducible refine e_sub ?_ | with_reducible refine e_slc ?_ | with_reducible refine e_isi ?_ | with_reducible refine e_isiT ?_ | with_reducible refine e_lc ?_ | with_reducible refine e_op1 ?_ | with_reducible refine e_opn ?_ | with_reducible refine e_fst ?_ | with_reducible refine es_nil ?_ | with_reducible refine es_cons ?_ | with_reducible refine eo_no ?_ | with_reducible refine eo_yes ?_ | with_reducible refine ei_it ?_ | with_reducible refine ei_rng ?_ | with_reducible refine ei_zip ?_ | with_reducible refine ei_enm ?_ | with_reducible refine t_cmp ?_ | with_reducible refine t_isn ?_ | with_reducible refine t_and ?_ | with_reducible refine t_or ?_ | with_reducible refine t_not ?_ | with_reducible refine t_call ?_ | with_reducible refine t_isi ?_ | with_reducible refine t_isiT ?_ | with_reducible refine t_op1 ?_ | with_reducible refine t_opn ?_ | with_reducible refine o_neg ?_ | with_reducible refine o_fld ?_ | with_reducible refine o_isc ?_ | with_reducible refine o_gdic ?_ | with_reducible refine o_ccon ?_ | with_reducible refine f_nil ?_ | with_reducible refine f_cons ?_ | with_reducible refine s_sfld ?_ | with_reducible refine s_tasg ?_ | with_reducible refine s_uasg ?_ | with_reducible refine ss_nil ?_ | with_reducible refine q_nx ?_ | with_reducible refine q_rt ?_ | with_reducible refine ts_nil ?_ | with_reducible refine lcd ?_ | with_reducible refine o_rt ?_ | with_reducible refine e_var (by with_unfolding_all rfl) ?_ | with_reducible refine t_var (by with_unfolding_all rfl) ?_ | with_reducible refine oo_mod (by omega) ?_ | with_reducible refine oo_fdiv (by omega) ?_ | with_reducible refine oo_mul (by omega) ?_ | with_reducible refine as_b ?_ | with_reducible refine as_i ?_ | with_reducible refine dec_t (by with_unfolding_all rfl) ?_ | with_reducible refine dec_f (by with_unfolding_all rfl) ?_ | with_reducible refine dec_t' (by with_unfolding_all rfl) ?_ | with_reducible refine dec_f' (by with_unfolding_all rfl) ?_ | with_reducible refine put_ok (by with_unfolding_all rfl) (by with_unfolding_all rfl) ?_ | with_reducible refine pg_cl ?_ | with_reducible refine pg_cl1 ?_ | with_reducible refine gd_rfl (by with_unfolding_all rfl) ?_ | with_reducible refine oo (by with_unfolding_all rfl) ?_)
  refine o_oeq rfl rfl ?_
  refine pg_cl ?_
  refine cok_imp (eq_ok (k := k + 9)) fun d s y => ?_
  obtain ⟨rfl, rfl⟩ := y
  refine ⟨_, rfl, ?_⟩
  rw [beq_self_eq_true]
  repeat (first | with_reducible refine ss_cons ?_ | with_reducible refine s_put ?_ | with_reducible refine s_asg ?_ | with_reducible refine s_asgo_lst ?_ | with_reducible refine s_ex ?_ | with_reducible refine s_ret ?_ | with_reducible refine s_iff ?_ | with_reducible refine s_for ?_ | with_reducible refine e_c ?_ | with_reducible refine e_glo ?_ | with_reducible refine e_lst ?_ | with_reducible refine e_tup ?_ | with_reducible refine e_newl ?_ | with_reducible refine e_bin ?_ | with_reducible refine e_cmp ?_ | with_reducible refine e_chn ?_ | with_reducible refine e_isn ?_ | with_reducible refine e_and ?_ | with_reducible refine e_or ?_ | with_reducible refine e_not ?_ | with_reducible refine e_ife ?_ | with_reducible refine e_call ?_ | with_reducible refine e_bi ?_ | with_reducible refine e_mt ?_ | with_reducible refine e_sub ?_ | with_reducible refine e_slc ?_ | with_reducible refine e_isi ?_ | with_reducible refine e_isiT ?_ | with_reducible refine e_lc ?_ | with_reducible refine e_op1 ?_ | with_reducible refine e_opn ?_ | with_reducible refine e_fst ?_ | with_reducible refine es_nil ?_ | with_reducible refine es_cons ?_ | with_reducible refine eo_no ?_ | with_reducible refine eo_yes ?_ | with_reducible refine ei_it ?_ | with_reducible refine ei_rng ?_ | with_reducible refine ei_zip ?_ | with_reducible refine ei_enm ?_ | with_reducible refine t_cmp ?_ | with_reducible refine t_isn ?_ | with_reducible refine t_and ?_ | with_reducible refine t_or ?_ | with_reducible refine t_not ?_ | with_reducible refine t_call ?_ | with_reducible refine t_isi ?_ | with_reducible refine t_isiT ?_ | with_reducible refine t_op1 ?_ | with_reducible refine t_opn ?_ | with_reducible refine o_neg ?_ | with_reducible refine o_fld ?_ | with_reducible refine o_isc ?_ | with_reducible refine o_gdic ?_ | with_reducible refine o_ccon ?_ | with_reducible refine f_nil ?_ | with_reducible refine f_cons ?_ | with_reducible refine s_sfld ?_ | with_reducible refine s_tasg ?_ | with_reducible refine s_uasg ?_ | with_reducible refine ss_nil ?_ | with_reducible refine q_nx ?_ | with_reducible refine q_rt ?_ | with_reducible refine ts_nil ?_ | with_reducible refine lcd ?_ | with_reducible refine o_rt ?_ | with_reducible refine e_var (by with_unfolding_all rfl) ?_ | with_reducible refine t_var (by with_unfolding_all rfl) ?_ | with_reducible refine oo_mod (by omega) ?_ | with_reducible refine oo_fdiv (by omega) ?_ | with_reducible refine oo_mul (by omega) ?_ | with_reducible refine as_b ?_ | with_reducible refine as_i ?_ | with_reducible refine dec_t (by with_unfolding_all rfl) ?_ | with_reducible refine dec_f (by with_unfolding_all rfl) ?_ | with_reducible refine dec_t' (by with_unfolding_all rfl) ?_ | with_reducible refine dec_f' (by with_unfolding_all rfl) ?_ | with_reducible refine put_ok (by with_unfolding_all rfl) (by with_unfolding_all rfl) ?_ | with_reducible refine pg_cl ?_ | with_reducible refine pg_cl1 ?_ | with_reducible refine gd_rfl (by with_unfolding_all rfl) ?_ | with_reducible refine oo (by with_unfolding_all rfl) ?_)
  exact ⟨rfl, _, rfl, rfl⟩
theorem lstB_plain {a b : List Nat} : PlainN 1 (lstB a b) := by simp [lstB, PlainN]
theorem st10 {z' sd' : List Nat} : OT (denS (PG fs gn (k + 10)) lb1_10 (E8 ns d z kd sd x8 x9 (.sh (grp z' kd sd')) (.sh (lstB (txt z kd sd) (txt z' kd sd')))) (c :: R)) (fun o e s => o = .nx ∧ s = c :: R ∧ e = E8 ns d z kd sd x8 x9 (.sh (grp z' kd sd')) (.sh (lstB (txt z kd sd) (txt z' kd sd')))) := by
  constructor
  dsimp only [lb1_10, E8]
  repeat (first | with_reducible refine ss_cons ?_ | with_reducible refine s_put ?_ | with_reducible refine s_asg ?_ | with_reducible refine s_asgo_lst ?_ | with_reducible refine s_ex ?_ | with_reducible refine s_ret ?_ | with_reducible refine s_iff ?_ | with_reducible refine s_for ?_ | with_reducible refine e_c ?_ | with_reducible refine e_glo ?_ | with_reducible refine e_lst ?_ | with_reducible refine e_tup ?_ | with_reducible refine e_newl ?_ | with_reducible refine e_bin ?_ | with_reducible refine e_cmp ?_ | with_reducible refine e_chn ?_ | with_reducible refine e_isn ?_ | with_reducible refine e_and ?_ | with_reducible refine e_or ?_ | with_reducible refine e_not ?_ | with_reducible refine e_ife ?_ | with_reducible refine e_call ?_ | with_reducible refine e_bi ?_ | with_reducible refine e_mt ?_ | with_reducible refine e_sub ?_ | with_reducible refine e_slc ?_ | with_reducible refine e_isi ?_ | with_reducible refine e_isiT ?_ | with_reducible refine e_lc ?_ | with_reducible refine e_op1 ?_ | with_reducible refine e_opn ?_ | with_reducible refine e_fst ?_ | with_reducible refine es_nil ?_ | with_reducible refine es_cons ?_ | with_reducible refine eo_no ?_ | with_reducible refine eo_yes ?_ | with_reducible refine ei_it ?_ | with_reducible refine ei_rng ?_ | with_reducible refine ei_zip ?_ | with_reducible refine ei_enm ?_ | with_reducible refine t_cmp ?_ | with_reducible refine t_isn ?_ | with_reducible refine t_and ?_ | with_reducible refine t_or ?_ | with_reducible refine t_not ?_ | with_reducible refine t_call ?_ | with_reducible refine t_isi ?_ | with_reducible refine t_isiT ?_ | with_reducible refine t_op1 ?_ | with_reducible refine t_opn ?_ | with_reducible refine o_neg ?_ | with_reducible refine o_fld ?_ | with_reducible refine o_isc ?_ | with_reducible refine o_gdic ?_ | with_reducible refine o_ccon ?_ | with_reducible refine f_nil ?_ | with_reducible refine f_cons ?_ | with_reducible refine s_sfld ?_ | with_reducible refine s_tasg ?_ | with_reducible refine s_uasg ?_ | with_reducible refine ss_nil ?_ | with_reducible refine q_nx ?_ | with_reducible refine q_rt ?_ | with_reducible refine ts_nil ?_ | with_reducible refine lcd ?_ | with_reducible refine o_rt ?_ | with_reducible refine e_var (by with_unfolding_all rfl) ?_ | with_reducible refine t_var (by with_unfolding_all rfl) ?_ | with_reducible refine oo_mod (by omega) ?_ | with_reducible refine oo_fdiv (by omega) ?_ | with_reducible refine oo_mul (by omega) ?_ | with_reducible refine as_b ?_ | with_reducible refine as_i ?_ | with_reducible refine dec_t (by with_unfolding_all rfl) ?_ | with_reducible refine dec_f (by with_unfolding_all rfl) ?_ | with_reducible refine dec_t' (by with_unfolding_all rfl) ?_ | with_reducible refine dec_f' (by with_unfolding_all rfl) ?_ | with_reducible refine put_ok (by with_unfolding_all rfl) (by with_unfolding_all rfl) ?_ | with_reducible refine pg_cl ?_ | with_reducible refine pg_cl1 ?_ | with_reducible refine gd_rfl (by with_unfolding_all rfl) ?_ | with_reducible refine oo (by with_unfolding_all rfl) ?_)
  have e : (txt z' kd sd' == txt z kd sd) = (txt z kd sd == txt z' kd sd') := Bool.beq_comm
  rw [e]
  refine ct_imp (same1 (k := k + 8) (d := lstB (txt z kd sd) (txt z' kd sd')) lstB_plain) fun d s y => ?_
  obtain ⟨rfl, rfl⟩ := y
  repeat (first | with_reducible refine ss_cons ?_ | with_reducible refine s_put ?_ | with_reducible refine s_asg ?_ | with_reducible refine s_asgo_lst ?_ | with_reducible refine s_ex ?_ | with_reducible refine s_ret ?_ | with_reducible refine s_iff ?_ | with_reducible refine s_for ?_ | with_reducible refine e_c ?_ | with_reducible refine e_glo ?_ | with_reducible refine e_lst ?_ | with_reducible refine e_tup ?_ | with_reducible refine e_newl ?_ | with_reducible refine e_bin ?_ | with_reducible refine e_cmp ?_ | with_reducible refine e_chn ?_ | with_reducible refine e_isn ?_ | with_reducible refine e_and ?_ | with_reducible refine e_or ?_ | with_reducible refine e_not ?_ | with_reducible refine e_ife ?_ | with_reducible refine e_call ?_ | with_reducible refine e_bi ?_ | with_reducible refine e_mt ?_ | with_reducible refine e_sub ?_ | with_reducible refine e_slc ?_ | with_reducible refine e_isi ?_ | with_reducible refine e_isiT ?_ | with_reducible refine e_lc ?_ | with_reducible refine e_op1 ?_ | with_reducible refine e_opn ?_ | with_reducible refine e_fst ?_ | with_reducible refine es_nil ?_ | with_reducible refine es_cons ?_ | with_reducible refine eo_no ?_ | with_reducible refine eo_yes ?_ | with_reducible refine ei_it ?_ | with_reducible refine ei_rng ?_ | with_reducible refine ei_zip ?_ | with_reducible refine ei_enm ?_ | with_reducible refine t_cmp ?_ | with_reducible refine t_isn ?_ | with_reducible refine t_and ?_ | with_reducible refine t_or ?_ | with_reducible refine t_not ?_ | with_reducible refine t_call ?_ | with_reducible refine t_isi ?_ | with_reducible refine t_isiT ?_ | with_reducible refine t_op1 ?_ | with_reducible refine t_opn ?_ | with_reducible refine o_neg ?_ | with_reducible refine o_fld ?_ | with_reducible refine o_isc ?_ | with_reducible refine o_gdic ?_ | with_reducible refine o_ccon ?_ | with_reducible refine f_nil ?_ | with_reducible refine f_cons ?_ | with_reducible refine s_sfld ?_ | with_reducible refine s_tasg ?_ | with_reducible refine s_uasg ?_ | with_reducible refine ss_nil ?_ | with_reducible refine q_nx ?_ | with_reducible refine q_rt ?_ | with_reducible refine ts_nil ?_ | with_reducible refine lcd ?_ | with_reducible refine o_rt ?_ | with_reducible refine e_var (by with_unfolding_all rfl) ?_ | with_reducible refine t_var (by with_unfolding_all rfl) ?_ | with_reducible refine oo_mod (by omega) ?_ | with_reducible refine oo_fdiv (by omega) ?_ | with_reducible refine oo_mul (by omega) ?_ | with_reducible refine as_b ?_ | with_reducible refine as_i ?_ | with_reducible refine dec_t (by with_unfolding_all rfl) ?_ | with_reducible refine dec_f (by with_unfolding_all rfl) ?_ | with_reducible refine dec_t' (by with_unfolding_all rfl) ?_ | with_reducible refine dec_f' (by with_unfolding_all rfl) ?_ | with_reducible refine put_ok (by with_unfolding_all rfl) (by with_unfolding_all rfl) ?_ | with_reducible refine pg_cl ?_ | with_reducible refine pg_cl1 ?_ | with_reducible refine gd_rfl (by with_unfolding_all rfl) ?_ | with_reducible refine oo (by with_unfolding_all rfl) ?_)
  exact ⟨rfl, rfl, rfl⟩
end
end Lw

namespace Lw
open PySem L2 Mx
section
variable {k : Nat} {c : Cl} {s R : So} {ns : List Int} {d : D}
/-- the state between the turns -/
def Inv0 (ns : List Int) : En → So → Prop := fun e s => ∃ c R x2 x3 x4 x5 x6 x7 x8 x9 x10 x11, s = c :: R ∧ BagOk c ∧ e = [.sh (.scr ns), .sh (.ref 0), x2, x3, x4, x5, x6, x7, x8, x9, x10, x11, .un, .un]
theorem turn {e : En} {s : So} (I : Inv0 ns e s) : OT (denSS (PG fs gn (k + 10)) lb1 (e.set 2 (.sh d)) s) fun o e s => o = .nx ∧ Inv0 ns e s := by
  constructor
  obtain ⟨c, R, x2, x3, x4, x5, x6, x7, x8, x9, x10, x11, rfl, B, rfl⟩ := I
  dsimp only [lb1, List.set]
  with_reducible refine ss_cutT (st0 B) ?_
  rintro e s ⟨c, z, kd, rfl, B, hr, hz, hk, rfl⟩
  with_reducible refine ss_cutT (st1 B) ?_
  rintro e s ⟨c, sd, rfl, B, hs, rfl⟩
  have G := gok hk hs
  have hl := txt_len hz G
  have Gu := gok hk (usual_in hk).1
  with_reducible refine ss_cutT (st2 hr hz G) ?_
  rintro e s ⟨R, rfl, rfl⟩
  with_reducible refine ss_cutT (st3 hl) ?_
  rintro e s ⟨rfl, rfl⟩
  with_reducible refine ss_cutT (st4 hl) ?_
  rintro e s ⟨rfl, rfl⟩
  with_reducible refine ss_cutT (st5 hk) ?_
  rintro e s ⟨rfl, rfl⟩
  with_reducible refine ss_cutT (st6 hr hz hk Gu) ?_
  rintro e s ⟨R, rfl, rfl⟩
  with_reducible refine ss_cutT (st7 hr hz G) ?_
  rintro e s ⟨R, rfl, rfl⟩
  with_reducible refine ss_cutT (st8 B hr hz G Gu) ?_
  rintro e s ⟨c, R, z', sd', rfl, B, hr', G', rfl⟩
  with_reducible refine ss_cutT (st9 hr G) ?_
  rintro e s ⟨R, rfl, rfl⟩
  with_reducible refine ss_cutT st10 ?_
  rintro e s ⟨rfl, rfl⟩
  refine ss_nil ?_
  exact ⟨rfl, c, R, _, _, _, _, _, _, _, _, _, _, rfl, B, rfl⟩
theorem things {xs : List D} {e : En} (hp : ∀ x ∈ xs, Plain x) (he : ∃ x2 x3 x4 x5 x6 x7 x8 x9 x10 x11, e = [.sh (.scr ns), .sh (.ref 0), x2, x3, x4, x5, x6, x7, x8, x9, x10, x11, .sh (.lst xs), .un]) : OT (denS (PG fs gn (k + 10)) lb0_3 e s) fun o e s => o = .rt (.bl true) := by
  obtain ⟨x2, x3, x4, x5, x6, x7, x8, x9, x10, x11, rfl⟩ := he
  constructor
  dsimp only [lb0_3]
  repeat (first | with_reducible refine ss_cons ?_ | with_reducible refine s_put ?_ | with_reducible refine s_asg ?_ | with_reducible refine s_asgo_lst ?_ | with_reducible refine s_ex ?_ | with_reducible refine s_ret ?_ | with_reducible refine s_iff ?_ | with_reducible refine s_for ?_ | with_reducible refine e_c ?_ | with_reducible refine e_glo ?_ | with_reducible refine e_lst ?_ | with_reducible refine e_tup ?_ | with_reducible refine e_newl ?_ | with_reducible refine e_bin ?_ | with_reducible refine e_cmp ?_ | with_reducible refine e_chn ?_ | with_reducible refine e_isn ?_ | with_reducible refine e_and ?_ | with_reducible refine e_or ?_ | with_reducible refine e_not ?_ | with_reducible refine e_ife ?_ | with_reducible refine e_call ?_ | with_reducible refine e_bi ?_ | with_reducible refine e_mt ?_ | with_reducible refine e_sub ?_ | with_reducible refine e_slc ?_ | with_reducible refine e_isi ?_ | with_reducible refine e_isiT ?_ | with_reducible refine e_lc ?_ | with_reducible refine e_op1 ?_ | with_reducible refine e_opn ?_ | with_reducible refine e_fst ?_ | with_reducible refine es_nil ?_ | with_reducible refine es_cons ?_ | with_reducible refine eo_no ?_ | with_reducible refine eo_yes ?_ | with_reducible refine ei_it ?_ | with_reducible refine ei_rng ?_ | with_reducible refine ei_zip ?_ | with_reducible refine ei_enm ?_ | with_reducible refine t_cmp ?_ | with_reducible refine t_isn ?_ | with_reducible refine t_and ?_ | with_reducible refine t_or ?_ | with_reducible refine t_not ?_ | with_reducible refine t_call ?_ | with_reducible refine t_isi ?_ | with_reducible refine t_isiT ?_ | with_reducible refine t_op1 ?_ | with_reducible refine t_opn ?_ | with_reducible refine o_neg ?_ | with_reducible refine o_fld ?_ | with_reducible refine o_isc ?_ | with_reducible refine o_gdic ?_ | with_reducible refine o_ccon ?_ | with_reducible refine f_nil ?_ | with_reducible refine f_cons ?_ | with_reducible refine s_sfld ?_ | with_reducible refine s_tasg ?_ | with_reducible refine s_uasg ?_ | with_reducible refine ss_nil ?_ | with_reducible refine q_nx ?_ | with_reducible refine q_rt ?_ | with_reducible refine ts_nil ?_ | with_reducible refine lcd ?_ | with_reducible refine o_rt ?_ | with_reducible refine e_var (by with_unfolding_all rfl) ?_ | with_reducible refine t_var (by with_unfolding_all rfl) ?_ | with_reducible refine oo_mod (by omega) ?_ | with_reducible refine oo_fdiv (by omega) ?_ | with_reducible refine oo_mul (by omega) ?_ | with_reducible refine as_b ?_ | with_reducible refine as_i ?_ | with_reducible refine dec_t (by with_unfolding_all rfl) ?_ | with_reducible refine dec_f (by with_unfolding_all rfl) ?_ | with_reducible refine dec_t' (by with_unfolding_all rfl) ?_ | with_reducible refine dec_f' (by with_unfolding_all rfl) ?_ | with_reducible refine put_ok (by with_unfolding_all rfl) (by with_unfolding_all rfl) ?_ | with_reducible refine pg_cl ?_ | with_reducible refine pg_cl1 ?_ | with_reducible refine gd_rfl (by with_unfolding_all rfl) ?_ | with_reducible refine oo (by with_unfolding_all rfl) ?_)
  refine lc_map (fun x => .bl (runOf smallL 8 x)) [.sh (.scr ns), .sh (.ref 0), x2, x3, x4, x5, x6, x7, x8, x9, x10, x11, .sh (.lst xs), .un] rfl (fun x hx => ⟨_, rfl, rfl, ?_, ?_⟩) ?_
  · repeat (first | with_reducible refine ss_cons ?_ | with_reducible refine s_put ?_ | with_reducible refine s_asg ?_ | with_reducible refine s_asgo_lst ?_ | with_reducible refine s_ex ?_ | with_reducible refine s_ret ?_ | with_reducible refine s_iff ?_ | with_reducible refine s_for ?_ | with_reducible refine e_c ?_ | with_reducible refine e_glo ?_ | with_reducible refine e_lst ?_ | with_reducible refine e_tup ?_ | with_reducible refine e_newl ?_ | with_reducible refine e_bin ?_ | with_reducible refine e_cmp ?_ | with_reducible refine e_chn ?_ | with_reducible refine e_isn ?_ | with_reducible refine e_and ?_ | with_reducible refine e_or ?_ | with_reducible refine e_not ?_ | with_reducible refine e_ife ?_ | with_reducible refine e_call ?_ | with_reducible refine e_bi ?_ | with_reducible refine e_mt ?_ | with_reducible refine e_sub ?_ | with_reducible refine e_slc ?_ | with_reducible refine e_isi ?_ | with_reducible refine e_isiT ?_ | with_reducible refine e_lc ?_ | with_reducible refine e_op1 ?_ | with_reducible refine e_opn ?_ | with_reducible refine e_fst ?_ | with_reducible refine es_nil ?_ | with_reducible refine es_cons ?_ | with_reducible refine eo_no ?_ | with_reducible refine eo_yes ?_ | with_reducible refine ei_it ?_ | with_reducible refine ei_rng ?_ | with_reducible refine ei_zip ?_ | with_reducible refine ei_enm ?_ | with_reducible refine t_cmp ?_ | with_reducible refine t_isn ?_ | with_reducible refine t_and ?_ | with_reducible refine t_or ?_ | with_reducible refine t_not ?_ | with_reducible refine t_call ?_ | with_reducible refine t_isi ?_ | with_reducible refine t_isiT ?_ | with_reducible refine t_op1 ?_ | with_reducible refine t_opn ?_ | with_reducible refine o_neg ?_ | with_reducible refine o_fld ?_ | with_reducible refine o_isc ?_ | with_reducible refine o_gdic ?_ | with_reducible refine o_ccon ?_ | with_reducible refine f_nil ?_ | with_reducible refine f_cons ?_ | with_reducible refine s_sfld ?_ | with_reducible refine s_tasg ?_ | with_reducible refine s_uasg ?_ | with_reducible refine ss_nil ?_ | with_reducible refine q_nx ?_ | with_reducible refine q_rt ?_ | with_reducible refine ts_nil ?_ | with_reducible refine lcd ?_ | with_reducible refine o_rt ?_ | with_reducible refine e_var (by with_unfolding_all rfl) ?_ | with_reducible refine t_var (by with_unfolding_all rfl) ?_ | with_reducible refine oo_mod (by omega) ?_ | with_reducible refine oo_fdiv (by omega) ?_ | with_reducible refine oo_mul (by omega) ?_ | with_reducible refine as_b ?_ | with_reducible refine as_i ?_ | with_reducible refine dec_t (by with_unfolding_all rfl) ?_ | with_reducible refine dec_f (by with_unfolding_all rfl) ?_ | with_reducible refine dec_t' (by with_unfolding_all rfl) ?_ | with_reducible refine dec_f' (by with_unfolding_all rfl) ?_ | with_reducible refine put_ok (by with_unfolding_all rfl) (by with_unfolding_all rfl) ?_ | with_reducible refine pg_cl ?_ | with_reducible refine pg_cl1 ?_ | with_reducible refine gd_rfl (by with_unfolding_all rfl) ?_ | with_reducible refine oo (by with_unfolding_all rfl) ?_)
    exact ⟨rfl, rfl, rfl⟩
  · repeat (first | with_reducible refine ss_cons ?_ | with_reducible refine s_put ?_ | with_reducible refine s_asg ?_ | with_reducible refine s_asgo_lst ?_ | with_reducible refine s_ex ?_ | with_reducible refine s_ret ?_ | with_reducible refine s_iff ?_ | with_reducible refine s_for ?_ | with_reducible refine e_c ?_ | with_reducible refine e_glo ?_ | with_reducible refine e_lst ?_ | with_reducible refine e_tup ?_ | with_reducible refine e_newl ?_ | with_reducible refine e_bin ?_ | with_reducible refine e_cmp ?_ | with_reducible refine e_chn ?_ | with_reducible refine e_isn ?_ | with_reducible refine e_and ?_ | with_reducible refine e_or ?_ | with_reducible refine e_not ?_ | with_reducible refine e_ife ?_ | with_reducible refine e_call ?_ | with_reducible refine e_bi ?_ | with_reducible refine e_mt ?_ | with_reducible refine e_sub ?_ | with_reducible refine e_slc ?_ | with_reducible refine e_isi ?_ | with_reducible refine e_isiT ?_ | with_reducible refine e_lc ?_ | with_reducible refine e_op1 ?_ | with_reducible refine e_opn ?_ | with_reducible refine e_fst ?_ | with_reducible refine es_nil ?_ | with_reducible refine es_cons ?_ | with_reducible refine eo_no ?_ | with_reducible refine eo_yes ?_ | with_reducible refine ei_it ?_ | with_reducible refine ei_rng ?_ | with_reducible refine ei_zip ?_ | with_reducible refine ei_enm ?_ | with_reducible refine t_cmp ?_ | with_reducible refine t_isn ?_ | with_reducible refine t_and ?_ | with_reducible refine t_or ?_ | with_reducible refine t_not ?_ | with_reducible refine t_call ?_ | with_reducible refine t_isi ?_ | with_reducible refine t_isiT ?_ | with_reducible refine t_op1 ?_ | with_reducible refine t_opn ?_ | with_reducible refine o_neg ?_ | with_reducible refine o_fld ?_ | with_reducible refine o_isc ?_ | with_reducible refine o_gdic ?_ | with_reducible refine o_ccon ?_ | with_reducible refine f_nil ?_ | with_reducible refine f_cons ?_ | with_reducible refine s_sfld ?_ | with_reducible refine s_tasg ?_ | with_reducible refine s_uasg ?_ | with_reducible refine ss_nil ?_ | with_reducible refine q_nx ?_ | with_reducible refine q_rt ?_ | with_reducible refine ts_nil ?_ | with_reducible refine lcd ?_ | with_reducible refine o_rt ?_ | with_reducible refine e_var (by with_unfolding_all rfl) ?_ | with_reducible refine t_var (by with_unfolding_all rfl) ?_ | with_reducible refine oo_mod (by omega) ?_ | with_reducible refine oo_fdiv (by omega) ?_ | with_reducible refine oo_mul (by omega) ?_ | with_reducible refine as_b ?_ | with_reducible refine as_i ?_ | with_reducible refine dec_t (by with_unfolding_all rfl) ?_ | with_reducible refine dec_f (by with_unfolding_all rfl) ?_ | with_reducible refine dec_t' (by with_unfolding_all rfl) ?_ | with_reducible refine dec_f' (by with_unfolding_all rfl) ?_ | with_reducible refine put_ok (by with_unfolding_all rfl) (by with_unfolding_all rfl) ?_ | with_reducible refine pg_cl ?_ | with_reducible refine pg_cl1 ?_ | with_reducible refine gd_rfl (by with_unfolding_all rfl) ?_ | with_reducible refine oo (by with_unfolding_all rfl) ?_)
    refine cok_imp (is_nm (k := k + 8) (hp x hx)) fun d s z => ?_
    exact ⟨rfl, z.1, z.2⟩
  repeat (first | with_reducible refine ss_cons ?_ | with_reducible refine s_put ?_ | with_reducible refine s_asg ?_ | with_reducible refine s_asgo_lst ?_ | with_reducible refine s_ex ?_ | with_reducible refine s_ret ?_ | with_reducible refine s_iff ?_ | with_reducible refine s_for ?_ | with_reducible refine e_c ?_ | with_reducible refine e_glo ?_ | with_reducible refine e_lst ?_ | with_reducible refine e_tup ?_ | with_reducible refine e_newl ?_ | with_reducible refine e_bin ?_ | with_reducible refine e_cmp ?_ | with_reducible refine e_chn ?_ | with_reducible refine e_isn ?_ | with_reducible refine e_and ?_ | with_reducible refine e_or ?_ | with_reducible refine e_not ?_ | with_reducible refine e_ife ?_ | with_reducible refine e_call ?_ | with_reducible refine e_bi ?_ | with_reducible refine e_mt ?_ | with_reducible refine e_sub ?_ | with_reducible refine e_slc ?_ | with_reducible refine e_isi ?_ | with_reducible refine e_isiT ?_ | with_reducible refine e_lc ?_ | with_reducible refine e_op1 ?_ | with_reducible refine e_opn ?_ | with_reducible refine e_fst ?_ | with_reducible refine es_nil ?_ | with_reducible refine es_cons ?_ | with_reducible refine eo_no ?_ | with_reducible refine eo_yes ?_ | with_reducible refine ei_it ?_ | with_reducible refine ei_rng ?_ | with_reducible refine ei_zip ?_ | with_reducible refine ei_enm ?_ | with_reducible refine t_cmp ?_ | with_reducible refine t_isn ?_ | with_reducible refine t_and ?_ | with_reducible refine t_or ?_ | with_reducible refine t_not ?_ | with_reducible refine t_call ?_ | with_reducible refine t_isi ?_ | with_reducible refine t_isiT ?_ | with_reducible refine t_op1 ?_ | with_reducible refine t_opn ?_ | with_reducible refine o_neg ?_ | with_reducible refine o_fld ?_ | with_reducible refine o_isc ?_ | with_reducible refine o_gdic ?_ | with_reducible refine o_ccon ?_ | with_reducible refine f_nil ?_ | with_reducible refine f_cons ?_ | with_reducible refine s_sfld ?_ | with_reducible refine s_tasg ?_ | with_reducible refine s_uasg ?_ | with_reducible refine ss_nil ?_ | with_reducible refine q_nx ?_ | with_reducible refine q_rt ?_ | with_reducible refine ts_nil ?_ | with_reducible refine lcd ?_ | with_reducible refine o_rt ?_ | with_reducible refine e_var (by with_unfolding_all rfl) ?_ | with_reducible refine t_var (by with_unfolding_all rfl) ?_ | with_reducible refine oo_mod (by omega) ?_ | with_reducible refine oo_fdiv (by omega) ?_ | with_reducible refine oo_mul (by omega) ?_ | with_reducible refine as_b ?_ | with_reducible refine as_i ?_ | with_reducible refine dec_t (by with_unfolding_all rfl) ?_ | with_reducible refine dec_f (by with_unfolding_all rfl) ?_ | with_reducible refine dec_t' (by with_unfolding_all rfl) ?_ | with_reducible refine dec_f' (by with_unfolding_all rfl) ?_ | with_reducible refine put_ok (by with_unfolding_all rfl) (by with_unfolding_all rfl) ?_ | with_reducible refine pg_cl ?_ | with_reducible refine pg_cl1 ?_ | with_reducible refine gd_rfl (by with_unfolding_all rfl) ?_ | with_reducible refine oo (by with_unfolding_all rfl) ?_)
  refine lc_map (fun x => .bl (runOf smallL 8 x)) [.sh (.scr ns), .sh (.ref 0), x2, x3, x4, x5, x6, x7, x8, x9, x10, x11, .sh (.lst xs), .un] rfl (fun x hx => ⟨_, rfl, rfl, ?_, ?_⟩) ?_
  · repeat (first | with_reducible refine ss_cons ?_ | with_reducible refine s_put ?_ | with_reducible refine s_asg ?_ | with_reducible refine s_asgo_lst ?_ | with_reducible refine s_ex ?_ | with_reducible refine s_ret ?_ | with_reducible refine s_iff ?_ | with_reducible refine s_for ?_ | with_reducible refine e_c ?_ | with_reducible refine e_glo ?_ | with_reducible refine e_lst ?_ | with_reducible refine e_tup ?_ | with_reducible refine e_newl ?_ | with_reducible refine e_bin ?_ | with_reducible refine e_cmp ?_ | with_reducible refine e_chn ?_ | with_reducible refine e_isn ?_ | with_reducible refine e_and ?_ | with_reducible refine e_or ?_ | with_reducible refine e_not ?_ | with_reducible refine e_ife ?_ | with_reducible refine e_call ?_ | with_reducible refine e_bi ?_ | with_reducible refine e_mt ?_ | with_reducible refine e_sub ?_ | with_reducible refine e_slc ?_ | with_reducible refine e_isi ?_ | with_reducible refine e_isiT ?_ | with_reducible refine e_lc ?_ | with_reducible refine e_op1 ?_ | with_reducible refine e_opn ?_ | with_reducible refine e_fst ?_ | with_reducible refine es_nil ?_ | with_reducible refine es_cons ?_ | with_reducible refine eo_no ?_ | with_reducible refine eo_yes ?_ | with_reducible refine ei_it ?_ | with_reducible refine ei_rng ?_ | with_reducible refine ei_zip ?_ | with_reducible refine ei_enm ?_ | with_reducible refine t_cmp ?_ | with_reducible refine t_isn ?_ | with_reducible refine t_and ?_ | with_reducible refine t_or ?_ | with_reducible refine t_not ?_ | with_reducible refine t_call ?_ | with_reducible refine t_isi ?_ | with_reducible refine t_isiT ?_ | with_reducible refine t_op1 ?_ | with_reducible refine t_opn ?_ | with_reducible refine o_neg ?_ | with_reducible refine o_fld ?_ | with_reducible refine o_isc ?_ | with_reducible refine o_gdic ?_ | with_reducible refine o_ccon ?_ | with_reducible refine f_nil ?_ | with_reducible refine f_cons ?_ | with_reducible refine s_sfld ?_ | with_reducible refine s_tasg ?_ | with_reducible refine s_uasg ?_ | with_reducible refine ss_nil ?_ | with_reducible refine q_nx ?_ | with_reducible refine q_rt ?_ | with_reducible refine ts_nil ?_ | with_reducible refine lcd ?_ | with_reducible refine o_rt ?_ | with_reducible refine e_var (by with_unfolding_all rfl) ?_ | with_reducible refine t_var (by with_unfolding_all rfl) ?_ | with_reducible refine oo_mod (by omega) ?_ | with_reducible refine oo_fdiv (by omega) ?_ | with_reducible refine oo_mul (by omega) ?_ | with_reducible refine as_b ?_ | with_reducible refine as_i ?_ | with_reducible refine dec_t (by with_unfolding_all rfl) ?_ | with_reducible refine dec_f (by with_unfolding_all rfl) ?_ | with_reducible refine dec_t' (by with_unfolding_all rfl) ?_ | with_reducible refine dec_f' (by with_unfolding_all rfl) ?_ | with_reducible refine put_ok (by with_unfolding_all rfl) (by with_unfolding_all rfl) ?_ | with_reducible refine pg_cl ?_ | with_reducible refine pg_cl1 ?_ | with_reducible refine gd_rfl (by with_unfolding_all rfl) ?_ | with_reducible refine oo (by with_unfolding_all rfl) ?_)
    exact ⟨rfl, rfl, rfl⟩
  · repeat (first | with_reducible refine ss_cons ?_ | with_reducible refine s_put ?_ | with_reducible refine s_asg ?_ | with_reducible refine s_asgo_lst ?_ | with_reducible refine s_ex ?_ | with_reducible refine s_ret ?_ | with_reducible refine s_iff ?_ | with_reducible refine s_for ?_ | with_reducible refine e_c ?_ | with_reducible refine e_glo ?_ | with_reducible refine e_lst ?_ | with_reducible refine e_tup ?_ | with_reducible refine e_newl ?_ | with_reducible refine e_bin ?_ | with_reducible refine e_cmp ?_ | with_reducible refine e_chn ?_ | with_reducible refine e_isn ?_ | with_reducible refine e_and ?_ | with_reducible refine e_or ?_ | with_reducible refine e_not ?_ | with_reducible refine e_ife ?_ | with_reducible refine e_call ?_ | with_reducible refine e_bi ?_ | with_reducible refine e_mt ?_ | with_reducible refine e_sub ?_ | with_reducible refine e_slc ?_ | with_reducible refine e_isi ?_ | with_reducible refine e_isiT ?_ | with_reducible refine e_lc ?_ | with_reducible refine e_op1 ?_ | with_reducible refine e_opn ?_ | with_reducible refine e_fst ?_ | with_reducible refine es_nil ?_ | with_reducible refine es_cons ?_ | with_reducible refine eo_no ?_ | with_reducible refine eo_yes ?_ | with_reducible refine ei_it ?_ | with_reducible refine ei_rng ?_ | with_reducible refine ei_zip ?_ | with_reducible refine ei_enm ?_ | with_reducible refine t_cmp ?_ | with_reducible refine t_isn ?_ | with_reducible refine t_and ?_ | with_reducible refine t_or ?_ | with_reducible refine t_not ?_ | with_reducible refine t_call ?_ | with_reducible refine t_isi ?_ | with_reducible refine t_isiT ?_ | with_reducible refine t_op1 ?_ | with_reducible refine t_opn ?_ | with_reducible refine o_neg ?_ | with_reducible refine o_fld ?_ | with_reducible refine o_isc ?_ | with_reducible refine o_gdic ?_ | with_reducible refine o_ccon ?_ | with_reducible refine f_nil ?_ | with_reducible refine f_cons ?_ | with_reducible refine s_sfld ?_ | with_reducible refine s_tasg ?_ | with_reducible refine s_uasg ?_ | with_reducible refine ss_nil ?_ | with_reducible refine q_nx ?_ | with_reducible refine q_rt ?_ | with_reducible refine ts_nil ?_ | with_reducible refine lcd ?_ | with_reducible refine o_rt ?_ | with_reducible refine e_var (by with_unfolding_all rfl) ?_ | with_reducible refine t_var (by with_unfolding_all rfl) ?_ | with_reducible refine oo_mod (by omega) ?_ | with_reducible refine oo_fdiv (by omega) ?_ | with_reducible refine oo_mul (by omega) ?_ | with_reducible refine as_b ?_ | with_reducible refine as_i ?_ | with_reducible refine dec_t (by with_unfolding_all rfl) ?_ | with_reducible refine dec_f (by with_unfolding_all rfl) ?_ | with_reducible refine dec_t' (by with_unfolding_all rfl) ?_ | with_reducible refine dec_f' (by with_unfolding_all rfl) ?_ | with_reducible refine put_ok (by with_unfolding_all rfl) (by with_unfolding_all rfl) ?_ | with_reducible refine pg_cl ?_ | with_reducible refine pg_cl1 ?_ | with_reducible refine gd_rfl (by with_unfolding_all rfl) ?_ | with_reducible refine oo (by with_unfolding_all rfl) ?_)
    refine cok_imp (is_let (k := k + 8) (hp x hx)) fun d s z => ?_
    exact ⟨rfl, z.1, z.2⟩
  repeat (first | with_reducible refine ss_cons ?_ | with_reducible refine s_put ?_ | with_reducible refine s_asg ?_ | with_reducible refine s_asgo_lst ?_ | with_reducible refine s_ex ?_ | with_reducible refine s_ret ?_ | with_reducible refine s_iff ?_ | with_reducible refine s_for ?_ | with_reducible refine e_c ?_ | with_reducible refine e_glo ?_ | with_reducible refine e_lst ?_ | with_reducible refine e_tup ?_ | with_reducible refine e_newl ?_ | with_reducible refine e_bin ?_ | with_reducible refine e_cmp ?_ | with_reducible refine e_chn ?_ | with_reducible refine e_isn ?_ | with_reducible refine e_and ?_ | with_reducible refine e_or ?_ | with_reducible refine e_not ?_ | with_reducible refine e_ife ?_ | with_reducible refine e_call ?_ | with_reducible refine e_bi ?_ | with_reducible refine e_mt ?_ | with_reducible refine e_sub ?_ | with_reducible refine e_slc ?_ | with_reducible refine e_isi ?_ | with_reducible refine e_isiT ?_ | with_reducible refine e_lc ?_ | with_reducible refine e_op1 ?_ | with_reducible refine e_opn ?_ | with_reducible refine e_fst ?_ | with_reducible refine es_nil ?_ | with_reducible refine es_cons ?_ | with_reducible refine eo_no ?_ | with_reducible refine eo_yes ?_ | with_reducible refine ei_it ?_ | with_reducible refine ei_rng ?_ | with_reducible refine ei_zip ?_ | with_reducible refine ei_enm ?_ | with_reducible refine t_cmp ?_ | with_reducible refine t_isn ?_ | with_reducible refine t_and ?_ | with_reducible refine t_or ?_ | with_reducible refine t_not ?_ | with_reducible refine t_call ?_ | with_reducible refine t_isi ?_ | with_reducible refine t_isiT ?_ | with_reducible refine t_op1 ?_ | with_reducible refine t_opn ?_ | with_reducible refine o_neg ?_ | with_reducible refine o_fld ?_ | with_reducible refine o_isc ?_ | with_reducible refine o_gdic ?_ | with_reducible refine o_ccon ?_ | with_reducible refine f_nil ?_ | with_reducible refine f_cons ?_ | with_reducible refine s_sfld ?_ | with_reducible refine s_tasg ?_ | with_reducible refine s_uasg ?_ | with_reducible refine ss_nil ?_ | with_reducible refine q_nx ?_ | with_reducible refine q_rt ?_ | with_reducible refine ts_nil ?_ | with_reducible refine lcd ?_ | with_reducible refine o_rt ?_ | with_reducible refine e_var (by with_unfolding_all rfl) ?_ | with_reducible refine t_var (by with_unfolding_all rfl) ?_ | with_reducible refine oo_mod (by omega) ?_ | with_reducible refine oo_fdiv (by omega) ?_ | with_reducible refine oo_mul (by omega) ?_ | with_reducible refine as_b ?_ | with_reducible refine as_i ?_ | with_reducible refine dec_t (by with_unfolding_all rfl) ?_ | with_reducible refine dec_f (by with_unfolding_all rfl) ?_ | with_reducible refine dec_t' (by with_unfolding_all rfl) ?_ | with_reducible refine dec_f' (by with_unfolding_all rfl) ?_ | with_reducible refine put_ok (by with_unfolding_all rfl) (by with_unfolding_all rfl) ?_ | with_reducible refine pg_cl ?_ | with_reducible refine pg_cl1 ?_ | with_reducible refine gd_rfl (by with_unfolding_all rfl) ?_ | with_reducible refine oo (by with_unfolding_all rfl) ?_)
  have pl : PlainN 1 (.lst ([] ++ xs.map fun x => .bl (runOf smallL 8 x))) := by
    intro x hx
    simp only [List.nil_append, List.mem_map] at hx
    obtain ⟨y, _, rfl⟩ := hx
    trivial
  refine ct_imp (same1 (k := k + 8) pl) fun d s y => ?_
  rw [y.1]
theorem law : COk (CL (k + 12) 0 [.scr ns] []) (fun d s => d = .bl true) := by
  refine cok_cl (f := f_0) rfl (cok_fn rfl ?_)
  show Ok (denSS (PG fs gn (k + 10)) lb0 _ _) _
  dsimp only [lb0]
  refine ss_cons ?_
  dsimp only [lb0_0]
  repeat (first | with_reducible refine s_put ?_ | with_reducible refine s_asg ?_ | with_reducible refine s_asgo_lst ?_ | with_reducible refine s_ex ?_ | with_reducible refine s_ret ?_ | with_reducible refine s_iff ?_ | with_reducible refine s_for ?_ | with_reducible refine e_c ?_ | with_reducible refine e_glo ?_ | with_reducible refine e_lst ?_ | with_reducible refine e_tup ?_ | with_reducible refine e_newl ?_ | with_reducible refine e_bin ?_ | with_reducible refine e_cmp ?_ | with_reducible refine e_chn ?_ | with_reducible refine e_isn ?_ | with_reducible refine e_and ?_ | with_reducible refine e_or ?_ | with_reducible refine e_not ?_ | with_reducible refine e_ife ?_ | with_reducible refine e_call ?_ | with_reducible refine e_bi ?_ | with_reducible refine e_mt ?_ | with_reducible refine e_sub ?_ | with_reducible refine e_slc ?_ | with_reducible refine e_isi ?_ | with_reducible refine e_isiT ?_ | with_reducible refine e_lc ?_ | with_reducible refine e_op1 ?_ | with_reducible refine e_opn ?_ | with_reducible refine e_fst ?_ | with_reducible refine es_nil ?_ | with_reducible refine es_cons ?_ | with_reducible refine eo_no ?_ | with_reducible refine eo_yes ?_ | with_reducible refine ei_it ?_ | with_reducible refine ei_rng ?_ | with_reducible refine ei_zip ?_ | with_reducible refine ei_enm ?_ | with_reducible refine t_cmp ?_ | with_reducible refine t_isn ?_ | with_reducible refine t_and ?_ | with_reducible refine t_or ?_ | with_reducible refine t_not ?_ | with_reducible refine t_call ?_ | with_reducible refine t_isi ?_ | with_reducible refine t_isiT ?_ | with_reducible refine t_op1 ?_ | with_reducible refine t_opn ?_ | with_reducible refine o_neg ?_ | with_reducible refine o_fld ?_ | with_reducible refine o_isc ?_ | with_reducible refine o_gdic ?_ | with_reducible refine o_ccon ?_ | with_reducible refine f_nil ?_ | with_reducible refine f_cons ?_ | with_reducible refine s_sfld ?_ | with_reducible refine s_tasg ?_ | with_reducible refine s_uasg ?_ | with_reducible refine ss_nil ?_ | with_reducible refine q_nx ?_ | with_reducible refine q_rt ?_ | with_reducible refine ts_nil ?_ | with_reducible refine lcd ?_ | with_reducible refine o_rt ?_ | with_reducible refine e_var (by with_unfolding_all rfl) ?_ | with_reducible refine t_var (by with_unfolding_all rfl) ?_ | with_reducible refine oo_mod (by omega) ?_ | with_reducible refine oo_fdiv (by omega) ?_ | with_reducible refine oo_mul (by omega) ?_ | with_reducible refine as_b ?_ | with_reducible refine as_i ?_ | with_reducible refine dec_t (by with_unfolding_all rfl) ?_ | with_reducible refine dec_f (by with_unfolding_all rfl) ?_ | with_reducible refine dec_t' (by with_unfolding_all rfl) ?_ | with_reducible refine dec_f' (by with_unfolding_all rfl) ?_ | with_reducible refine put_ok (by with_unfolding_all rfl) (by with_unfolding_all rfl) ?_ | with_reducible refine pg_cl ?_ | with_reducible refine pg_cl1 ?_ | with_reducible refine gd_rfl (by with_unfolding_all rfl) ?_ | with_reducible refine oo (by with_unfolding_all rfl) ?_)
  refine cok_imp (cok_cl (k := k + 9) (f := f_1) rfl (bag_fn rfl rfl rfl)) fun d s z => ?_
  obtain ⟨rfl, c, rfl, B⟩ := z
  repeat (first | with_reducible refine s_put ?_ | with_reducible refine s_asg ?_ | with_reducible refine s_asgo_lst ?_ | with_reducible refine s_ex ?_ | with_reducible refine s_ret ?_ | with_reducible refine s_iff ?_ | with_reducible refine s_for ?_ | with_reducible refine e_c ?_ | with_reducible refine e_glo ?_ | with_reducible refine e_lst ?_ | with_reducible refine e_tup ?_ | with_reducible refine e_newl ?_ | with_reducible refine e_bin ?_ | with_reducible refine e_cmp ?_ | with_reducible refine e_chn ?_ | with_reducible refine e_isn ?_ | with_reducible refine e_and ?_ | with_reducible refine e_or ?_ | with_reducible refine e_not ?_ | with_reducible refine e_ife ?_ | with_reducible refine e_call ?_ | with_reducible refine e_bi ?_ | with_reducible refine e_mt ?_ | with_reducible refine e_sub ?_ | with_reducible refine e_slc ?_ | with_reducible refine e_isi ?_ | with_reducible refine e_isiT ?_ | with_reducible refine e_lc ?_ | with_reducible refine e_op1 ?_ | with_reducible refine e_opn ?_ | with_reducible refine e_fst ?_ | with_reducible refine es_nil ?_ | with_reducible refine es_cons ?_ | with_reducible refine eo_no ?_ | with_reducible refine eo_yes ?_ | with_reducible refine ei_it ?_ | with_reducible refine ei_rng ?_ | with_reducible refine ei_zip ?_ | with_reducible refine ei_enm ?_ | with_reducible refine t_cmp ?_ | with_reducible refine t_isn ?_ | with_reducible refine t_and ?_ | with_reducible refine t_or ?_ | with_reducible refine t_not ?_ | with_reducible refine t_call ?_ | with_reducible refine t_isi ?_ | with_reducible refine t_isiT ?_ | with_reducible refine t_op1 ?_ | with_reducible refine t_opn ?_ | with_reducible refine o_neg ?_ | with_reducible refine o_fld ?_ | with_reducible refine o_isc ?_ | with_reducible refine o_gdic ?_ | with_reducible refine o_ccon ?_ | with_reducible refine f_nil ?_ | with_reducible refine f_cons ?_ | with_reducible refine s_sfld ?_ | with_reducible refine s_tasg ?_ | with_reducible refine s_uasg ?_ | with_reducible refine ss_nil ?_ | with_reducible refine q_nx ?_ | with_reducible refine q_rt ?_ | with_reducible refine ts_nil ?_ | with_reducible refine lcd ?_ | with_reducible refine o_rt ?_ | with_reducible refine e_var (by with_unfolding_all rfl) ?_ | with_reducible refine t_var (by with_unfolding_all rfl) ?_ | with_reducible refine oo_mod (by omega) ?_ | with_reducible refine oo_fdiv (by omega) ?_ | with_reducible refine oo_mul (by omega) ?_ | with_reducible refine as_b ?_ | with_reducible refine as_i ?_ | with_reducible refine dec_t (by with_unfolding_all rfl) ?_ | with_reducible refine dec_f (by with_unfolding_all rfl) ?_ | with_reducible refine dec_t' (by with_unfolding_all rfl) ?_ | with_reducible refine dec_f' (by with_unfolding_all rfl) ?_ | with_reducible refine put_ok (by with_unfolding_all rfl) (by with_unfolding_all rfl) ?_ | with_reducible refine pg_cl ?_ | with_reducible refine pg_cl1 ?_ | with_reducible refine gd_rfl (by with_unfolding_all rfl) ?_ | with_reducible refine oo (by with_unfolding_all rfl) ?_)
  refine ss_cut (Inv0 ns) ?_ ?_
  · dsimp only [lb0_1]
    repeat (first | with_reducible refine s_put ?_ | with_reducible refine s_asg ?_ | with_reducible refine s_asgo_lst ?_ | with_reducible refine s_ex ?_ | with_reducible refine s_ret ?_ | with_reducible refine s_iff ?_ | with_reducible refine s_for ?_ | with_reducible refine e_c ?_ | with_reducible refine e_glo ?_ | with_reducible refine e_lst ?_ | with_reducible refine e_tup ?_ | with_reducible refine e_newl ?_ | with_reducible refine e_bin ?_ | with_reducible refine e_cmp ?_ | with_reducible refine e_chn ?_ | with_reducible refine e_isn ?_ | with_reducible refine e_and ?_ | with_reducible refine e_or ?_ | with_reducible refine e_not ?_ | with_reducible refine e_ife ?_ | with_reducible refine e_call ?_ | with_reducible refine e_bi ?_ | with_reducible refine e_mt ?_ | with_reducible refine e_sub ?_ | with_reducible refine e_slc ?_ | with_reducible refine e_isi ?_ | with_reducible refine e_isiT ?_ | with_reducible refine e_lc ?_ | with_reducible refine e_op1 ?_ | with_reducible refine e_opn ?_ | with_reducible refine e_fst ?_ | with_reducible refine es_nil ?_ | with_reducible refine es_cons ?_ | with_reducible refine eo_no ?_ | with_reducible refine eo_yes ?_ | with_reducible refine ei_it ?_ | with_reducible refine ei_rng ?_ | with_reducible refine ei_zip ?_ | with_reducible refine ei_enm ?_ | with_reducible refine t_cmp ?_ | with_reducible refine t_isn ?_ | with_reducible refine t_and ?_ | with_reducible refine t_or ?_ | with_reducible refine t_not ?_ | with_reducible refine t_call ?_ | with_reducible refine t_isi ?_ | with_reducible refine t_isiT ?_ | with_reducible refine t_op1 ?_ | with_reducible refine t_opn ?_ | with_reducible refine o_neg ?_ | with_reducible refine o_fld ?_ | with_reducible refine o_isc ?_ | with_reducible refine o_gdic ?_ | with_reducible refine o_ccon ?_ | with_reducible refine f_nil ?_ | with_reducible refine f_cons ?_ | with_reducible refine s_sfld ?_ | with_reducible refine s_tasg ?_ | with_reducible refine s_uasg ?_ | with_reducible refine ss_nil ?_ | with_reducible refine q_nx ?_ | with_reducible refine q_rt ?_ | with_reducible refine ts_nil ?_ | with_reducible refine lcd ?_ | with_reducible refine o_rt ?_ | with_reducible refine e_var (by with_unfolding_all rfl) ?_ | with_reducible refine t_var (by with_unfolding_all rfl) ?_ | with_reducible refine oo_mod (by omega) ?_ | with_reducible refine oo_fdiv (by omega) ?_ | with_reducible refine oo_mul (by omega) ?_ | with_reducible refine as_b ?_ | with_reducible refine as_i ?_ | with_reducible refine dec_t (by with_unfolding_all rfl) ?_ | with_reducible refine dec_f (by with_unfolding_all rfl) ?_ | with_reducible refine dec_t' (by with_unfolding_all rfl) ?_ | with_reducible refine dec_f' (by with_unfolding_all rfl) ?_ | with_reducible refine put_ok (by with_unfolding_all rfl) (by with_unfolding_all rfl) ?_ | with_reducible refine pg_cl ?_ | with_reducible refine pg_cl1 ?_ | with_reducible refine gd_rfl (by with_unfolding_all rfl) ?_ | with_reducible refine oo (by with_unfolding_all rfl) ?_)
    refine ⟨by decide, ?_⟩
    refine for_inv (Inv0 ns) (fun x hx e s I => ⟨_, rfl, ot_imp (turn I) fun o e s z => z⟩) ⟨c, [], _, _, _, _, _, _, _, _, _, _, rfl, B, rfl⟩ fun e s I => ⟨rfl, I⟩
  rintro e s ⟨c, R, x2, x3, x4, x5, x6, x7, x8, x9, x10, x11, rfl, B, rfl⟩
  refine ss_cut (fun e s => ∃ xs, (∀ x ∈ xs, Plain x) ∧ ∃ x2 x3 x4 x5 x6 x7 x8 x9 x10 x11, e = [.sh (.scr ns), .sh (.ref 0), x2, x3, x4, x5, x6, x7, x8, x9, x10, x11, .sh (.lst xs), .un]) ?_ ?_
  · dsimp only [lb0_2]
    repeat (first | with_reducible refine ss_cons ?_ | with_reducible refine s_put ?_ | with_reducible refine s_asg ?_ | with_reducible refine s_asgo_lst ?_ | with_reducible refine s_ex ?_ | with_reducible refine s_ret ?_ | with_reducible refine s_iff ?_ | with_reducible refine s_for ?_ | with_reducible refine e_c ?_ | with_reducible refine e_glo ?_ | with_reducible refine e_lst ?_ | with_reducible refine e_tup ?_ | with_reducible refine e_newl ?_ | with_reducible refine e_bin ?_ | with_reducible refine e_cmp ?_ | with_reducible refine e_chn ?_ | with_reducible refine e_isn ?_ | with_reducible refine e_and ?_ | with_reducible refine e_or ?_ | with_reducible refine e_not ?_ | with_reducible refine e_ife ?_ | with_reducible refine e_call ?_ | with_reducible refine e_bi ?_ | with_reducible refine e_mt ?_ | with_reducible refine e_sub ?_ | with_reducible refine e_slc ?_ | with_reducible refine e_isi ?_ | with_reducible refine e_isiT ?_ | with_reducible refine e_lc ?_ | with_reducible refine e_op1 ?_ | with_reducible refine e_opn ?_ | with_reducible refine e_fst ?_ | with_reducible refine es_nil ?_ | with_reducible refine es_cons ?_ | with_reducible refine eo_no ?_ | with_reducible refine eo_yes ?_ | with_reducible refine ei_it ?_ | with_reducible refine ei_rng ?_ | with_reducible refine ei_zip ?_ | with_reducible refine ei_enm ?_ | with_reducible refine t_cmp ?_ | with_reducible refine t_isn ?_ | with_reducible refine t_and ?_ | with_reducible refine t_or ?_ | with_reducible refine t_not ?_ | with_reducible refine t_call ?_ | with_reducible refine t_isi ?_ | with_reducible refine t_isiT ?_ | with_reducible refine t_op1 ?_ | with_reducible refine t_opn ?_ | with_reducible refine o_neg ?_ | with_reducible refine o_fld ?_ | with_reducible refine o_isc ?_ | with_reducible refine o_gdic ?_ | with_reducible refine o_ccon ?_ | with_reducible refine f_nil ?_ | with_reducible refine f_cons ?_ | with_reducible refine s_sfld ?_ | with_reducible refine s_tasg ?_ | with_reducible refine s_uasg ?_ | with_reducible refine ss_nil ?_ | with_reducible refine q_nx ?_ | with_reducible refine q_rt ?_ | with_reducible refine ts_nil ?_ | with_reducible refine lcd ?_ | with_reducible refine o_rt ?_ | with_reducible refine e_var (by with_unfolding_all rfl) ?_ | with_reducible refine t_var (by with_unfolding_all rfl) ?_ | with_reducible refine oo_mod (by omega) ?_ | with_reducible refine oo_fdiv (by omega) ?_ | with_reducible refine oo_mul (by omega) ?_ | with_reducible refine as_b ?_ | with_reducible refine as_i ?_ | with_reducible refine dec_t (by with_unfolding_all rfl) ?_ | with_reducible refine dec_f (by with_unfolding_all rfl) ?_ | with_reducible refine dec_t' (by with_unfolding_all rfl) ?_ | with_reducible refine dec_f' (by with_unfolding_all rfl) ?_ | with_reducible refine put_ok (by with_unfolding_all rfl) (by with_unfolding_all rfl) ?_ | with_reducible refine pg_cl ?_ | with_reducible refine pg_cl1 ?_ | with_reducible refine gd_rfl (by with_unfolding_all rfl) ?_ | with_reducible refine oo (by with_unfolding_all rfl) ?_)
    refine cok_imp (lett (k := k + 7) (by omega) (by omega) B) fun d s z => ?_
    obtain ⟨⟨z, rfl, z1, z2, z3⟩, c, rfl, B⟩ := z
    repeat (first | with_reducible refine ss_cons ?_ | with_reducible refine s_put ?_ | with_reducible refine s_asg ?_ | with_reducible refine s_asgo_lst ?_ | with_reducible refine s_ex ?_ | with_reducible refine s_ret ?_ | with_reducible refine s_iff ?_ | with_reducible refine s_for ?_ | with_reducible refine e_c ?_ | with_reducible refine e_glo ?_ | with_reducible refine e_lst ?_ | with_reducible refine e_tup ?_ | with_reducible refine e_newl ?_ | with_reducible refine e_bin ?_ | with_reducible refine e_cmp ?_ | with_reducible refine e_chn ?_ | with_reducible refine e_isn ?_ | with_reducible refine e_and ?_ | with_reducible refine e_or ?_ | with_reducible refine e_not ?_ | with_reducible refine e_ife ?_ | with_reducible refine e_call ?_ | with_reducible refine e_bi ?_ | with_reducible refine e_mt ?_ | with_reducible refine e_sub ?_ | with_reducible refine e_slc ?_ | with_reducible refine e_isi ?_ | with_reducible refine e_isiT ?_ | with_reducible refine e_lc ?_ | with_reducible refine e_op1 ?_ | with_reducible refine e_opn ?_ | with_reducible refine e_fst ?_ | with_reducible refine es_nil ?_ | with_reducible refine es_cons ?_ | with_reducible refine eo_no ?_ | with_reducible refine eo_yes ?_ | with_reducible refine ei_it ?_ | with_reducible refine ei_rng ?_ | with_reducible refine ei_zip ?_ | with_reducible refine ei_enm ?_ | with_reducible refine t_cmp ?_ | with_reducible refine t_isn ?_ | with_reducible refine t_and ?_ | with_reducible refine t_or ?_ | with_reducible refine t_not ?_ | with_reducible refine t_call ?_ | with_reducible refine t_isi ?_ | with_reducible refine t_isiT ?_ | with_reducible refine t_op1 ?_ | with_reducible refine t_opn ?_ | with_reducible refine o_neg ?_ | with_reducible refine o_fld ?_ | with_reducible refine o_isc ?_ | with_reducible refine o_gdic ?_ | with_reducible refine o_ccon ?_ | with_reducible refine f_nil ?_ | with_reducible refine f_cons ?_ | with_reducible refine s_sfld ?_ | with_reducible refine s_tasg ?_ | with_reducible refine s_uasg ?_ | with_reducible refine ss_nil ?_ | with_reducible refine q_nx ?_ | with_reducible refine q_rt ?_ | with_reducible refine ts_nil ?_ | with_reducible refine lcd ?_ | with_reducible refine o_rt ?_ | with_reducible refine e_var (by with_unfolding_all rfl) ?_ | with_reducible refine t_var (by with_unfolding_all rfl) ?_ | with_reducible refine oo_mod (by omega) ?_ | with_reducible refine oo_fdiv (by omega) ?_ | with_reducible refine oo_mul (by omega) ?_ | with_reducible refine as_b ?_ | with_reducible refine as_i ?_ | with_reducible refine dec_t (by with_unfolding_all rfl) ?_ | with_reducible refine dec_f (by with_unfolding_all rfl) ?_ | with_reducible refine dec_t' (by with_unfolding_all rfl) ?_ | with_reducible refine dec_f' (by with_unfolding_all rfl) ?_ | with_reducible refine put_ok (by with_unfolding_all rfl) (by with_unfolding_all rfl) ?_ | with_reducible refine pg_cl ?_ | with_reducible refine pg_cl1 ?_ | with_reducible refine gd_rfl (by with_unfolding_all rfl) ?_ | with_reducible refine oo (by with_unfolding_all rfl) ?_)
    refine ⟨rfl, _, ?_, _, _, _, _, _, _, _, _, _, _, rfl⟩
    simp [Plain]
  · rintro e s ⟨xs, hp, he⟩
    refine ss_cons (ot_imp (things hp he) fun o e s z => ?_)
    rw [z]
    exact rfl
end
theorem math (ns : List Int) (_ : ns.length ≤ 63) : ∃ s', clN fs gn 40 lawIx [.scr ns] [] = .ok (.bl true) s' := by
  obtain ⟨d, s, h, rfl⟩ := cok_ex (law (k := 28) (ns := ns))
  exact ⟨s, h⟩
end Lw


open PySem PySem.W PySem.Calls PyProof.Rows
set_option maxRecDepth 100000 in
set_option maxHeartbeats 0 in
theorem PySem.Challenge.cw_pairbinds_k06_groups_told_holds : PySem.Challenge.rw_pairbinds_k06_groups_told.Holds := by
  w_on; o_law
  refine HandSHeadRun.head_any (r := OpenLaw.row PySem.Challenge.rw_pairbinds_k06_groups_told) (q := view (OpenLaw.row PySem.Challenge.rw_pairbinds_k06_groups_told).prog [Lw.lawTop]) (H := Lw.hk) (ob := Lw.ob) (M := 3000) (loose := Lw.loose) (d := HandSHeadRun.topDef (OpenLaw.row PySem.Challenge.rw_pairbinds_k06_groups_told).prog Lw.lawTop) (kwd := []) Lw.ob_eq
    (by kernel_rfl) (fun s => by kernel_rfl) Lw.run (by kernel_rfl) (by kernel_rfl) (by kernel_rfl) (by rfl) (by first | assumption | decide +kernel) (by decide +kernel) ⟨rfl, rfl, rfl, rfl, rfl, by decide +kernel⟩ ?hw ?hc
  case hw => w_witness2
  case hc =>
    refine Mx.walk_ofW (l := PySem.Challenge.rw_pairbinds_k06_groups_told) (n := 63) (k := 40) (x := "_law_script") rfl (by decide) (by kernel_rfl) ⟨rfl, by decide, by decide⟩ ?F
    intro w mg fa h Y G hmg0
    obtain ⟨K, KX, c⟩ := Y
    have hmg : mg ("law" : PySem.Str) = some (.ref fa) := by
      have e : (HandSHeadRun.topDef (OpenLaw.row PySem.Challenge.rw_pairbinds_k06_groups_told).prog Lw.lawTop).name = ("law" : PySem.Str) := by kernel_rfl
      rw [← e]
      exact hmg0
    obtain ⟨fd, T, hT, hb, hF⟩ := Lw.facts (Pr := (PySem.Challenge.rw_pairbinds_k06_groups_told).prog) (w := w) KX G hmg c 40
    refine ⟨K, fd, _, KX, hb, fun H a ns hl hS => ?_, hF⟩
    obtain ⟨s', hm⟩ := Lw.math ns hl
    exact Mx.law_sp hT.symm hl hS hm
