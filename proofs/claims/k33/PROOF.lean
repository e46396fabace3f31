import PyProof.Rows.All
import Wide.All
import OpenK.AllK
import Wide.FinOn
import HandS.ForMost
import HandS.Deep
import HandS.TupAny
import HandS.Wide
import HandS.WideBits
import HandS.Conv
import HandS.DictTup
import HandS.IsInst
import HandS.Flow
import HandS.More
import HandS.TupLen
import HandS.WordsDict
import HandS.CallSlots
import KE.GoesEnum
import HandS.Rev
import KE.DatumOrd
import HandS.RevRange
import KE.BitLaws
import KE.SortUse
import KE.KDictSum
import PySem.Challenge.RW_pathshape_k33_ways_without_looks
set_option Elab.async false
set_option linter.all false
set_option maxRecDepth 100000
set_option maxHeartbeats 4000000
namespace PL
open PySem PySem.Spec PyProof.Rows L2

/-! ### data, store, outcomes -/
inductive Dv where
  | non | bl (b : Bool) | int (i : Int) | str (x : Str) | tup (ds : List Dv) | kt (ds : List Dv) | fl (ds : List Dv) | ref (l : Nat)
inductive Ob where
  | lst (ds : List Dv) | dk (kvs : List (L2.Key × Dv)) | dt (kvs : List (List L2.Key × Dv)) | fk (kvs : List (L2.Key × Dv)) | ft (kvs : List (List L2.Key × Dv))
abbrev Sto := List Ob
abbrev Env := List (Option Dv)
structure Ex where
  cls : Str
  fs : Option (Str × Dv)
inductive Out (α : Type) where
  | ok (a : α) (S : Sto) | ex (x : Ex) (S : Sto) | no
def Out.bind {α β : Type} : Out α → (α → Sto → Out β) → Out β
  | .ok a S, f => f a S
  | .ex x S, _ => .ex x S
  | .no, _ => .no
@[simp] theorem Out.bind_ok {α β : Type} (a : α) (S : Sto) (f : α → Sto → Out β) : (Out.ok a S).bind f = f a S := rfl
@[simp] theorem Out.bind_ex {α β : Type} (x : Ex) (S : Sto) (f : α → Sto → Out β) : (Out.ex x S : Out α).bind f = .ex x S := rfl
@[simp] theorem Out.bind_no {α β : Type} (f : α → Sto → Out β) : (Out.no : Out α).bind f = .no := rfl
/-- what is raised here is not told -/
def Out.bindN {α β : Type} : Out α → (α → Sto → Out β) → Out β
  | .ok a S, f => f a S
  | _, _ => .no
@[simp] theorem Out.bindN_ok {α β : Type} (a : α) (S : Sto) (f : α → Sto → Out β) : (Out.ok a S).bindN f = f a S := rfl
abbrev RE := Env → Sto → Out Dv
abbrev RT := Env → Sto → Out Bool
abbrev RA := Env → Sto → Out (List Dv)

/-! ### what a value stands for -/
def TupAt (μ : List Addr) (H : Hp) (a : Addr) (vs : List V) : Prop := H a = some (.tup vs) ∧ a ∉ μ
def ConAt (K : PySem.W.Frag) (a : Addr) (vs : List V) : Prop :=
  ∃ (o : Obj) (its : Array Value) (n : Nat), K.lookup a = some o ∧ o.cls = .type "tuple" ∧ o.data = .seq its n ∧ its.size ≤ sizeLine ∧ Vals vs its.toList
def LisAt (K : PySem.W.Frag) (μ : List Addr) (H : Hp) (a : Addr) (vs : List V) : Prop :=
  ((∃ o, H a = some (.frz o (.lst vs))) ∧ a ∉ μ) ∨ ∃ (o : Obj) (its : Array Value) (n : Nat), K.lookup a = some o ∧ o.cls = .type "list" ∧ o.dict = none ∧ o.data = .seq its n ∧ its.size ≤ sizeLine ∧ Vals vs its.toList
inductive Rep (K : PySem.W.Frag) (μ : List Addr) (H : Hp) : V → Dv → Prop
  | non : Rep K μ H .non .non
  | bl (b : Bool) : Rep K μ H (.bl b) (.bl b)
  | int (i : Int) : Rep K μ H (.int i) (.int i)
  | str (x : Str) : Rep K μ H (.str x) (.str x)
  | ref {l : Nat} {a : Addr} : μ[l]? = some a → Rep K μ H (.ref a) (.ref l)
  | kt {a : Addr} {vs : List V} {ds : List Dv} : ConAt K a vs → vs.length = ds.length → (∀ (i : Nat) (v : V) (d : Dv), vs[i]? = some v → ds[i]? = some d → Rep K μ H v d) → Rep K μ H (.ref a) (.kt ds)
  | tup {a : Addr} {vs : List V} {ds : List Dv} : TupAt μ H a vs → vs.length = ds.length → (∀ (i : Nat) (v : V) (d : Dv), vs[i]? = some v → ds[i]? = some d → Rep K μ H v d) → Rep K μ H (.ref a) (.tup ds)
  | fl {a : Addr} {vs : List V} {ds : List Dv} : LisAt K μ H a vs → vs.length = ds.length → (∀ (i : Nat) (v : V) (d : Dv), vs[i]? = some v → ds[i]? = some d → Rep K μ H v d) → Rep K μ H (.ref a) (.fl ds)
def Reps (K : PySem.W.Frag) (μ : List Addr) (H : Hp) (vs : List V) (ds : List Dv) : Prop :=
  vs.length = ds.length ∧ ∀ (i : Nat) (v : V) (d : Dv), vs[i]? = some v → ds[i]? = some d → Rep K μ H v d

structure Step (μ : List Addr) (H : Hp) (μ' : List Addr) (H' : Hp) : Prop where
  pre : ∃ ν, μ' = μ ++ ν ∧ ∀ b ∈ ν, H b = none
  keep : ∀ b o, H b = some o → b ∉ μ → H' b = some o
  live : ∀ b, H b ≠ none → H' b ≠ none
  frz : ∀ b o u, H b = some (.frz o u) → H' b = some (.frz o u)

def ObR (K : PySem.W.Frag) (μ : List Addr) (H : Hp) (a : Addr) : Ob → Prop
  | .lst ds => ∃ vs, H a = some (.lst vs) ∧ Reps K μ H vs ds
  | .dk kvs => ∃ ws, H a = some (.dK ws) ∧ ws.map (·.1) = kvs.map (·.1) ∧ Reps K μ H (ws.map (·.2)) (kvs.map (·.2))
  | .dt kvs => ∃ ws, H a = some (.dT ws) ∧ ws.map (·.1) = kvs.map (·.1) ∧ Reps K μ H (ws.map (·.2)) (kvs.map (·.2))
  | .fk kvs => ∃ ws, (∃ o, H a = some (.frz o (.dK ws))) ∧ ws.map (·.1) = kvs.map (·.1) ∧ Reps K μ H (ws.map (·.2)) (kvs.map (·.2))
  | .ft kvs => ∃ ws, (∃ o, H a = some (.frz o (.dT ws))) ∧ ws.map (·.1) = kvs.map (·.1) ∧ Reps K μ H (ws.map (·.2)) (kvs.map (·.2))
structure SimS (K : PySem.W.Frag) (μ : List Addr) (S : Sto) (H : Hp) : Prop where
  len : μ.length = S.length
  nd : μ.Nodup
  ob : ∀ (l : Nat) (a : Addr) (o : Ob), μ[l]? = some a → S[l]? = some o → ObR K μ H a o
def SimE (K : PySem.W.Frag) (μ : List Addr) (H : Hp) (ρ : Env) (σ : L2.St) : Prop :=
  ρ.length = σ.length ∧ ∀ (i : Nat) (d : Dv), ρ[i]? = some (some d) → ∃ v, σ[i]? = some (some v) ∧ Rep K μ H v d
def XRep (K : PySem.W.Frag) (mg : Str → Option Value) (μ : List Addr) (H : Hp) (x : Ex) (cls : Value) (d : Option Addr) : Prop :=
  mg x.cls = some cls ∧ ((x.fs = none ∧ d = none) ∨ ∃ f e dx v, x.fs = some (f, e) ∧ d = some dx ∧ H dx = some (.xd [(f, v)]) ∧ Rep K μ H v e)

/-! ### keeping -/
section
variable {K : PySem.W.Frag} {μ μ' μ1 μ2 : List Addr} {H H' H1 H2 : Hp} {v : V} {d : Dv} {vs : List V} {ds : List Dv} {a : Addr}
theorem Step.refl (μ : List Addr) (H : Hp) : Step μ H μ H := ⟨⟨[], by simp, fun _ h => nomatch h⟩, fun _ _ h _ => h, fun _ h => h, fun _ _ _ h => h⟩
theorem Step.nin (s : Step μ H μ' H') {o : HO} (h : H a = some o) (n : a ∉ μ) : a ∉ μ' := by
  obtain ⟨ν, e, f⟩ := s.pre
  rw [e]
  intro q
  rcases List.mem_append.mp q with q | q
  · exact n q
  · rw [f a q] at h; cases h
theorem Step.trans (s : Step μ H μ1 H1) (t : Step μ1 H1 μ2 H2) : Step μ H μ2 H2 := by
  refine ⟨?_, fun b o h n => t.keep b o (s.keep b o h n) (s.nin h n), fun b h => t.live b (s.live b h), fun b o u h => t.frz b o u (s.frz b o u h)⟩
  obtain ⟨ν, e, f⟩ := s.pre
  obtain ⟨ν', e', f'⟩ := t.pre
  refine ⟨ν ++ ν', by rw [e', e, List.append_assoc], fun b hb => ?_⟩
  rcases List.mem_append.mp hb with hb | hb
  · exact f b hb
  · cases q : H b with
    | none => rfl
    | some o => exact absurd (f' b hb) (s.live b (by rw [q]; exact fun z => nomatch z))
theorem Step.get (s : Step μ H μ' H') {l : Nat} (h : μ[l]? = some a) : μ'[l]? = some a := by
  obtain ⟨ν, e, _⟩ := s.pre
  rw [e, List.getElem?_append_left (List.getElem?_eq_some_iff.mp h).1]
  exact h
theorem TupAt.step (s : Step μ H μ' H') (h : TupAt μ H a vs) : TupAt μ' H' a vs := ⟨s.keep _ _ h.1 h.2, s.nin h.1 h.2⟩
theorem LisAt.step (s : Step μ H μ' H') (h : LisAt K μ H a vs) : LisAt K μ' H' a vs := by
  rcases h with ⟨⟨o, h⟩, n⟩ | h
  · exact .inl ⟨⟨o, s.keep _ _ h n⟩, s.nin h n⟩
  · exact .inr h
theorem Rep.step (s : Step μ H μ' H') (h : Rep K μ H v d) : Rep K μ' H' v d := by
  induction h with
  | non => exact .non
  | bl b => exact .bl b
  | int i => exact .int i
  | str x => exact .str x
  | ref h => exact .ref (s.get h)
  | kt h e _ ih => exact .kt h e fun i v d h1 h2 => ih i v d h1 h2
  | tup h e _ ih => exact .tup (h.step s) e fun i v d h1 h2 => ih i v d h1 h2
  | fl h e _ ih => exact .fl (h.step s) e fun i v d h1 h2 => ih i v d h1 h2
theorem Reps.step (s : Step μ H μ' H') (h : Reps K μ H vs ds) : Reps K μ' H' vs ds := ⟨h.1, fun i v d h1 h2 => (h.2 i v d h1 h2).step s⟩
theorem Reps.nil : Reps K μ H [] [] := ⟨rfl, fun i v d h => by simp at h⟩
theorem Reps.cons (t : Reps K μ H vs ds) (h : Rep K μ H v d) : Reps K μ H (v :: vs) (d :: ds) := by
  refine ⟨by simp [t.1], fun i v' d' h1 h2 => ?_⟩
  cases i with
  | zero => simp at h1 h2; subst h1; subst h2; exact h
  | succ i => exact t.2 i v' d' (by simpa using h1) (by simpa using h2)
theorem Reps.uncons {e : Dv} {es : List Dv} (t : Reps K μ H vs (e :: es)) : ∃ v ws, vs = v :: ws ∧ Rep K μ H v e ∧ Reps K μ H ws es := by
  cases vs with
  | nil => exact absurd t.1 (by simp)
  | cons v ws => exact ⟨v, ws, rfl, t.2 0 v e rfl rfl, by have := t.1; simpa using this, fun i v' d' h1 h2 => t.2 (i + 1) v' d' (by simpa using h1) (by simpa using h2)⟩
theorem Reps.un0 (t : Reps K μ H vs []) : vs = [] := List.eq_nil_of_length_eq_zero (by rw [t.1]; rfl)
theorem Reps.append {ws : List V} {es : List Dv} (h : Reps K μ H vs ds) (t : Reps K μ H ws es) : Reps K μ H (vs ++ ws) (ds ++ es) := by
  refine ⟨by simp [h.1, t.1], fun i v d h1 h2 => ?_⟩
  by_cases hi : i < vs.length
  · rw [List.getElem?_append_left hi] at h1
    rw [List.getElem?_append_left (by rw [← h.1]; exact hi)] at h2
    exact h.2 i v d h1 h2
  · rw [List.getElem?_append_right (by omega)] at h1
    rw [List.getElem?_append_right (by rw [← h.1]; omega), ← h.1] at h2
    exact t.2 _ v d h1 h2
theorem Rep.reps_cons (h : Rep K μ H v d) (t : Reps K μ H vs ds) : Reps K μ H (v :: vs) (d :: ds) := t.cons h
theorem Reps.one (h : Rep K μ H v d) : Reps K μ H [v] [d] := Reps.nil.cons h
theorem Reps.get (h : Reps K μ H vs ds) {i : Nat} (e : ds[i]? = some d) : ∃ v, vs[i]? = some v ∧ Rep K μ H v d := by
  have hi : i < vs.length := by rw [h.1]; exact (List.getElem?_eq_some_iff.mp e).1
  exact ⟨vs[i], List.getElem?_eq_getElem hi, h.2 i _ d (List.getElem?_eq_getElem hi) e⟩
theorem Reps.set (h : Reps K μ H vs ds) (r : Rep K μ H v d) (i : Nat) : Reps K μ H (vs.set i v) (ds.set i d) := by
  refine ⟨by simp [h.1], fun j v' d' h1 h2 => ?_⟩
  by_cases hj : i = j
  · subst hj
    have h3 : i < vs.length := by have := (List.getElem?_eq_some_iff.mp h1).1; simpa using this
    rw [List.getElem?_set_self h3] at h1
    rw [List.getElem?_set_self (by rw [← h.1]; exact h3)] at h2
    cases h1; cases h2; exact r
  · rw [List.getElem?_set_ne hj] at h1 h2
    exact h.2 j v' d' h1 h2
theorem Reps.sub (h : Reps K μ H vs ds) {ws : List V} {es : List Dv} (f : Nat → Nat) (hl : ws.length = es.length) (h1 : ∀ i, i < ws.length → ws[i]? = vs[f i]?) (h2 : ∀ i, i < ws.length → es[i]? = ds[f i]?) : Reps K μ H ws es :=
  ⟨hl, fun i v d e1 e2 => by
    have hi := (List.getElem?_eq_some_iff.mp e1).1
    exact h.2 (f i) v d ((h1 i hi).symm.trans e1) ((h2 i hi).symm.trans e2)⟩
theorem Reps.take (h : Reps K μ H vs ds) (n : Nat) : Reps K μ H (vs.take n) (ds.take n) :=
  h.sub id (by simp [h.1]) (fun i hi => by simp at hi; simp only [List.getElem?_take, id]; rw [if_pos (by omega)]) fun i hi => by simp at hi; simp only [List.getElem?_take, id]; rw [if_pos (by omega)]
theorem Reps.drop (h : Reps K μ H vs ds) (n : Nat) : Reps K μ H (vs.drop n) (ds.drop n) :=
  h.sub (fun i => n + i) (by simp [h.1]) (fun i _ => by simp [List.getElem?_drop]) fun i _ => by simp [List.getElem?_drop]
theorem Reps.rev (h : Reps K μ H vs ds) : Reps K μ H vs.reverse ds.reverse :=
  h.sub (fun i => vs.length - 1 - i) (by simp [h.1]) (fun i hi => by rw [List.getElem?_reverse (by simpa using hi)]) fun i hi => by
    rw [List.length_reverse] at hi
    rw [List.getElem?_reverse (by rw [← h.1]; exact hi), h.1]
theorem ObR.step (s : Step μ H μ' H') {o : Ob} {l : Nat} (h : ObR K μ H a o) (k : ∀ u, H a = some u → H' a = some u) : ObR K μ' H' a o := by
  cases o with
  | lst ds => obtain ⟨vs, e, r⟩ := h; exact ⟨vs, k _ e, r.step s⟩
  | dk kvs => obtain ⟨vs, e, q, r⟩ := h; exact ⟨vs, k _ e, q, r.step s⟩
  | dt kvs => obtain ⟨vs, e, q, r⟩ := h; exact ⟨vs, k _ e, q, r.step s⟩
  | fk kvs => obtain ⟨vs, ⟨o, e⟩, q, r⟩ := h; exact ⟨vs, ⟨o, k _ e⟩, q, r.step s⟩
  | ft kvs => obtain ⟨vs, ⟨o, e⟩, q, r⟩ := h; exact ⟨vs, ⟨o, k _ e⟩, q, r.step s⟩
theorem ObR.some {o : Ob} (h : ObR K μ H a o) : ∃ u, H a = some u := by
  cases o with
  | lst ds => obtain ⟨vs, e, _⟩ := h; exact ⟨_, e⟩
  | dk kvs => obtain ⟨vs, e, _⟩ := h; exact ⟨_, e⟩
  | dt kvs => obtain ⟨vs, e, _⟩ := h; exact ⟨_, e⟩
  | fk kvs => obtain ⟨vs, ⟨o, e⟩, _⟩ := h; exact ⟨_, e⟩
  | ft kvs => obtain ⟨vs, ⟨o, e⟩, _⟩ := h; exact ⟨_, e⟩
theorem SimE.step {ρ : Env} {σ : L2.St} (s : Step μ H μ' H') (h : SimE K μ H ρ σ) : SimE K μ' H' ρ σ :=
  ⟨h.1, fun i d e => let ⟨v, e', r⟩ := h.2 i d e; ⟨v, e', r.step s⟩⟩
variable {S : Sto} {o : Ob} {l : Nat} {p : Addr}
theorem SimS.at (h : SimS K μ S H) (e : S[l]? = some o) : ∃ a, μ[l]? = some a ∧ ObR K μ H a o := by
  have hl : l < μ.length := by rw [h.len]; exact (List.getElem?_eq_some_iff.mp e).1
  exact ⟨μ[l], List.getElem?_eq_getElem hl, h.ob l _ o (List.getElem?_eq_getElem hl) e⟩
theorem SimS.at' (h : SimS K μ S H) (e : S[l]? = some o) (q : μ[l]? = some a) : ObR K μ H a o := h.ob l a o q e
theorem SimS.tracked (h : SimS K μ S H) (m : a ∈ μ) : ∃ u, H a = some u := by
  obtain ⟨l, hl, e⟩ := List.getElem_of_mem m
  have hs : l < S.length := by rw [← h.len]; exact hl
  exact (h.ob l a S[l] (by rw [List.getElem?_eq_getElem hl, e]) (List.getElem?_eq_getElem hs)).some
theorem SimS.fresh (h : SimS K μ S H) (n : H p = none) : p ∉ μ := fun m => by
  obtain ⟨u, e⟩ := h.tracked m
  rw [n] at e; cases e
/-- something laid that is no store object -/
theorem step_lay (h : SimS K μ S H) (n : H p = none) (u : HO) : Step μ H μ (upd H p u) :=
  ⟨⟨[], by simp, fun _ h => nomatch h⟩, fun b o e _ => by rw [upd_ne (ne_of_none e n)]; exact e, fun b e => by
    by_cases hb : b = p
    · rw [hb, upd_same]; exact fun z => nomatch z
    · rw [upd_ne hb]; exact e, fun b o u e => by rw [upd_ne (ne_of_none e n)]; exact e⟩
theorem SimS.lay (h : SimS K μ S H) (n : H p = none) (u : HO) : SimS K μ S (upd H p u) :=
  ⟨h.len, h.nd, fun l a o e1 e2 => (h.ob l a o e1 e2).step (l := l) (step_lay h n u) fun w q => by rw [upd_ne (ne_of_none q n)]; exact q⟩
theorem step_new (h : SimS K μ S H) (n : H p = none) (u : HO) : Step μ H (μ ++ [p]) (upd H p u) :=
  ⟨⟨[p], rfl, fun b hb => by simp at hb; rw [hb]; exact n⟩, (step_lay h n u).keep, (step_lay h n u).live, (step_lay h n u).frz⟩
theorem SimS.new (h : SimS K μ S H) (n : H p = none) {u : HO} (r : ObR K (μ ++ [p]) (upd H p u) p o) : SimS K (μ ++ [p]) (S ++ [o]) (upd H p u) := by
  refine ⟨by simp [h.len], List.nodup_append.mpr ⟨h.nd, by simp, fun a ha b hb => ?_⟩, fun l a o' e1 e2 => ?_⟩
  · simp at hb; subst hb; exact fun z => h.fresh n (z ▸ ha)
  · by_cases hl : l < μ.length
    · rw [List.getElem?_append_left hl] at e1
      rw [List.getElem?_append_left (by rw [← h.len]; exact hl)] at e2
      exact (h.ob l a o' e1 e2).step (l := l) (step_new h n u) fun w q => by rw [upd_ne (ne_of_none q n)]; exact q
    · have hl2 : l = μ.length := by have := (List.getElem?_eq_some_iff.mp e1).1; simp at this; omega
      subst hl2
      rw [List.getElem?_append_right (Nat.le_refl _)] at e1
      rw [List.getElem?_append_right (by rw [h.len]; exact Nat.le_refl _), h.len] at e2
      simp at e1 e2
      subst e1; subst e2; exact r
theorem new_at (h : SimS K μ S H) (p : Addr) : (μ ++ [p])[S.length]? = some p := by rw [← h.len]; simp
theorem nofrz_of {w : HO} (h : H a = some w) (n : (match w with | .frz _ _ => true | _ => false) = false) : ∀ o u, H a ≠ some (.frz o u) := fun o u z => by
  rw [h] at z; cases z; cases n
theorem step_put (h : SimS K μ S H) (e : μ[l]? = some a) (u : HO) (nf : ∀ o u, H a ≠ some (.frz o u) := by refine nofrz_of (by assumption) ?_; rfl) : Step μ H μ (upd H a u) :=
  ⟨⟨[], by simp, fun _ h => nomatch h⟩, fun b o q n => by rw [upd_ne (fun z => n (by rw [z]; exact List.mem_of_getElem? e))]; exact q, fun b q => by
    by_cases hb : b = a
    · rw [hb, upd_same]; exact fun z => nomatch z
    · rw [upd_ne hb]; exact q, fun b o w q => by rw [upd_ne (fun z => nf o w (by rw [← z]; exact q))]; exact q⟩
theorem SimS.put (h : SimS K μ S H) (e : μ[l]? = some a) {u : HO} (r : ObR K μ (upd H a u) a o) (nf : ∀ o u, H a ≠ some (.frz o u) := by refine nofrz_of (by assumption) ?_; rfl) : SimS K μ (S.set l o) (upd H a u) := by
  refine ⟨by simp [h.len], h.nd, fun k b o' e1 e2 => ?_⟩
  by_cases hk : l = k
  · subst hk
    rw [e] at e1; cases e1
    have hl : l < S.length := by rw [← h.len]; exact (List.getElem?_eq_some_iff.mp e).1
    rw [List.getElem?_set_self hl] at e2
    cases e2; exact r
  · rw [List.getElem?_set_ne hk] at e2
    have hne : b ≠ a := fun z => by
      subst z
      have h1 := List.getElem?_eq_some_iff.mp e
      have h2 := List.getElem?_eq_some_iff.mp e1
      exact hk ((List.getElem_inj h.nd).mp (h1.2.trans h2.2.symm))
    exact (h.ob k b o' e1 e2).step (l := k) (step_put h e u nf) fun w q => by rw [upd_ne hne]; exact q
end

/-! ### sequences -/
def tupOf : Dv → Option (List Dv)
  | .tup ds => some ds
  | .kt ds => some ds
  | _ => none
def lstOf (S : Sto) : Dv → Option (List Dv)
  | .fl ds => some ds
  | .ref l => match S[l]? with
    | some (.lst ds) => some ds
    | _ => none
  | _ => none
section
variable {K : PySem.W.Frag} {μ : List Addr} {H : Hp} {v : V} {d : Dv} {ds : List Dv} {S : Sto}
theorem Rep.sqT (r : Rep K μ H v d) (e : tupOf d = some ds) : ∃ a vs, v = .ref a ∧ SqT K H a vs ∧ Reps K μ H vs ds := by
  cases r with
  | tup h l q => simp only [tupOf, Option.some.injEq] at e; subst e; exact ⟨_, _, rfl, .inl (.inl h.1), l, q⟩
  | kt h l q => simp only [tupOf, Option.some.injEq] at e; subst e; exact ⟨_, _, rfl, .inr h, l, q⟩
  | _ => simp [tupOf] at e
theorem Rep.sqL (hS : SimS K μ S H) (r : Rep K μ H v d) (e : lstOf S d = some ds) : ∃ a vs, v = .ref a ∧ SqL K H a vs ∧ Reps K μ H vs ds := by
  cases r with
  | fl h l q =>
    simp only [lstOf, Option.some.injEq] at e; subst e
    rcases h with ⟨⟨o, h⟩, _⟩ | h
    · exact ⟨_, _, rfl, .inl (.inr ⟨o, h⟩), l, q⟩
    · exact ⟨_, _, rfl, .inr h, l, q⟩
  | @ref l a h =>
    simp only [lstOf] at e
    split at e
    · rename_i es hs
      simp only [Option.some.injEq] at e; subst e
      obtain ⟨vs, e1, r⟩ := hS.at' hs h
      exact ⟨a, vs, rfl, .inl (.inl e1), r⟩
    · cases e
  | _ => simp [lstOf] at e
theorem Rep.lst {l : Nat} (hS : SimS K μ S H) (r : Rep K μ H v (.ref l)) (e : S[l]? = some (.lst ds)) : ∃ a vs, v = .ref a ∧ μ[l]? = some a ∧ H a = some (.lst vs) ∧ Reps K μ H vs ds := by
  cases r with
  | ref h => obtain ⟨vs, e1, r⟩ := hS.at' e h; exact ⟨_, vs, rfl, h, e1, r⟩
end

/-! ### outcomes, as the layer's readings -/
def Met {α β : Type} (RP : List Addr → Hp → β → α → Prop) (K : PySem.W.Frag) (mg : Str → Option Value) (W : Value → Option Addr → Hp → Prop) (μ : List Addr) (H : Hp) (o : Out α) (Q : β → Hp → Prop) : Prop :=
  match o with
  | .ok d S' => ∀ μ' H' v, SimS K μ' S' H' → Step μ H μ' H' → RP μ' H' v d → Q v H'
  | .ex x S' => ∀ μ' H' cls dd, SimS K μ' S' H' → Step μ H μ' H' → XRep K mg μ' H' x cls dd → W cls dd H'
  | .no => False
abbrev WX := Value → Option Addr → L2.St → Hp → Prop
abbrev WX.at (W : WX) (σ : L2.St) : Value → Option Addr → Hp → Prop := fun c d H => W c d σ H
def tG {α β : Type} (RP : List Addr → Hp → β → α → Prop) (K : PySem.W.Frag) (mg : Str → Option Value) (W : WX) (r : Env → Sto → Out α) (σ : L2.St) (H : Hp) (Q : β → Hp → Prop) : Prop :=
  ∃ μ ρ S, SimS K μ S H ∧ SimE K μ H ρ σ ∧ Met RP K mg (W.at σ) μ H (r ρ S) Q
def RBool (μ : List Addr) (H : Hp) (b b' : Bool) : Prop := b = b'
section
variable {K : PySem.W.Frag} {mg : Str → Option Value} {W : WX} {μ μ1 : List Addr} {H H1 : Hp} {ρ : Env} {σ : L2.St} {S : Sto}
theorem Met.step {α β : Type} {RP : List Addr → Hp → β → α → Prop} {Wx : Value → Option Addr → Hp → Prop} {o : Out α} {Q : β → Hp → Prop} (s : Step μ H μ1 H1) (h : Met RP K mg Wx μ H o Q) : Met RP K mg Wx μ1 H1 o Q := by
  cases o with
  | ok d S' => exact fun μ' H' v a b c => h μ' H' v a (s.trans b) c
  | ex x S' => exact fun μ' H' cl dd a b c => h μ' H' cl dd a (s.trans b) c
  | no => exact h
theorem Met.mono {α β : Type} {RP : List Addr → Hp → β → α → Prop} {Wx : Value → Option Addr → Hp → Prop} {o : Out α} {Q Q' : β → Hp → Prop} (h : Met RP K mg Wx μ H o Q) (q : ∀ v H', Q v H' → Q' v H') : Met RP K mg Wx μ H o Q' := by
  cases o with
  | ok d S' => exact fun μ' H' v a b c => q _ _ (h μ' H' v a b c)
  | ex x S' => exact h
  | no => exact h
theorem bnd {α β γ δ : Type} {R1 : List Addr → Hp → β → α → Prop} {R2 : List Addr → Hp → δ → γ → Prop} {r : Env → Sto → Out α} {f : α → Sto → Out γ} {Q : δ → Hp → Prop} (hS : SimS K μ S H) (hE : SimE K μ H ρ σ)
    (h : Met R2 K mg (W.at σ) μ H ((r ρ S).bind f) Q) : tG R1 K mg W r σ H (fun v H1 => ∃ μ1 S1 d, SimS K μ1 S1 H1 ∧ SimE K μ1 H1 ρ σ ∧ Step μ H μ1 H1 ∧ R1 μ1 H1 v d ∧ Met R2 K mg (W.at σ) μ1 H1 (f d S1) Q) := by
  refine ⟨μ, ρ, S, hS, hE, ?_⟩
  cases q : r ρ S with
  | ok d S1 =>
    rw [q] at h
    exact fun μ1 H1 v a b c => ⟨μ1, S1, d, a, hE.step b, b, c, h.step b⟩
  | ex x S1 => rw [q] at h; exact h
  | no => rw [q] at h; exact h
/-- an outcome that is at hand -/
theorem Met.ok {α β : Type} {RP : List Addr → Hp → β → α → Prop} {Wx : Value → Option Addr → Hp → Prop} {d : α} {Q : β → Hp → Prop} {v : β} (h : Met RP K mg Wx μ H (.ok d S) Q) (hS : SimS K μ S H) (r : RP μ H v d) : Q v H := h μ H v hS (.refl μ H) r
/-- a new store object -/
theorem Met.new {o : Ob} {u : HO} {p : Addr} {Wx : Value → Option Addr → Hp → Prop} {Q : V → Hp → Prop} (h : Met (Rep K) K mg Wx μ H (.ok (.ref S.length) (S ++ [o])) Q) (hS : SimS K μ S H) (n : H p = none) (r : ObR K (μ ++ [p]) (upd H p u) p o) : Q (.ref p) (upd H p u) :=
  h _ _ _ (hS.new n r) (step_new hS n u) (.ref (new_at hS p))
theorem Met.lst {ds : List Dv} {vs : List V} {p : Addr} {Wx : Value → Option Addr → Hp → Prop} {Q : V → Hp → Prop} (h : Met (Rep K) K mg Wx μ H (.ok (.ref S.length) (S ++ [.lst ds])) Q) (hS : SimS K μ S H) (n : H p = none) (r : Reps K μ H vs ds) : Q (.ref p) (upd H p (.lst vs)) :=
  h.new hS n ⟨vs, upd_same, r.step (step_new hS n _)⟩
theorem Met.tup {ds : List Dv} {vs : List V} {p : Addr} {Wx : Value → Option Addr → Hp → Prop} {Q : V → Hp → Prop} (h : Met (Rep K) K mg Wx μ H (.ok (.tup ds) S) Q) (hS : SimS K μ S H) (n : H p = none) (r : Reps K μ H vs ds) : Q (.ref p) (upd H p (.tup vs)) :=
  h _ _ _ (hS.lay n _) (step_lay hS n _) (.tup ⟨upd_same, hS.fresh n⟩ r.1 (r.step (step_lay hS n _)).2)
/-- a store object written -/
theorem Met.put {α β : Type} {RP : List Addr → Hp → β → α → Prop} {o : Ob} {u : HO} {a : Addr} {l : Nat} {Wx : Value → Option Addr → Hp → Prop} {Q : β → Hp → Prop} {d : α} {v : β} (h : Met RP K mg Wx μ H (.ok d (S.set l o)) Q) (hS : SimS K μ S H) (e : μ[l]? = some a) (r : ObR K μ (upd H a u) a o) (rv : RP μ (upd H a u) v d) (nf : ∀ o u, H a ≠ some (.frz o u) := by refine nofrz_of (by assumption) ?_; rfl) : Q v (upd H a u) :=
  h _ _ _ (hS.put e r nf) (step_put hS e u nf) rv
end
end PL

namespace PL
open PySem PySem.Spec PyProof.Rows L2

/-! ### rules: from readings to outcomes -/
theorem PE.imp {X : Cx} {e : Expr} {t t' : TE} (h : PE X e t) (i : ∀ σ H Q, t' σ H Q → t σ H Q) : PE X e t' := ⟨fun pins s σ H Q I w => h.run pins s σ H Q I (i σ H Q w)⟩
theorem PT.imp {X : Cx} {e : Expr} {t t' : TT} (h : PT X e t) (i : ∀ σ H Q, t' σ H Q → t σ H Q) : PT X e t' := ⟨fun pins s σ H Q I w => h.run pins s σ H Q I (i σ H Q w)⟩
theorem PW.imp {X : Cx} {e : Expr} {t t' : TT} (h : PW X e t) (i : ∀ σ H Q, t' σ H Q → t σ H Q) : PW X e t' := ⟨fun wh pins s σ H Q I w => h.run wh pins s σ H Q I (i σ H Q w)⟩
theorem PA.imp {X : Cx} {e : List Expr} {t t' : TA} (h : PA X e t) (i : ∀ σ H Q, t' σ H Q → t σ H Q) : PA X e t' := ⟨fun ps pins s σ H Q I w => h.run ps pins s σ H Q I (i σ H Q w)⟩
theorem PE.or {X : Cx} {e : Expr} {t t' : TE} (h : PE X e t) (h' : PE X e t') : PE X e (fun σ H Q => t σ H Q ∨ t' σ H Q) :=
  ⟨fun pins s σ H Q I w => w.elim (h.run pins s σ H Q I) (h'.run pins s σ H Q I)⟩
theorem OpR.or {X : Cx} {f : Value → Value → Sem Value} {r r' : R2} (h : OpR X f r) (h' : OpR X f r') : OpR X f (fun x y H Q => r x y H Q ∨ r' x y H Q) :=
  fun pins s σ H x y v u Q I rx ry w => w.elim (h pins s σ H x y v u Q I rx ry) (h' pins s σ H x y v u Q I rx ry)
theorem CallR.or {X : Cx} {f : Value} {r r' : List V → Hp → VK → Prop} (h : CallR X f r) (h' : CallR X f r') : CallR X f (fun x H Q => r x H Q ∨ r' x H Q) :=
  fun pins s σ H x v Q I rx w => w.elim (h pins s σ H x v Q I rx) (h' pins s σ H x v Q I rx)
theorem tG.mono {α β : Type} {RP : List Addr → Hp → β → α → Prop} {K : PySem.W.Frag} {mg : Str → Option Value} {W : WX} {f : Env → Sto → Out α} {σ : L2.St} {H : Hp} {Q Q' : β → Hp → Prop}
    (h : tG RP K mg W f σ H Q) (q : ∀ v H', Q v H' → Q' v H') : tG RP K mg W f σ H Q' := let ⟨μ, ρ, S, a, b, c⟩ := h; ⟨μ, ρ, S, a, b, c.mono q⟩

abbrev SE (X : Cx) (W : WX) (e : Expr) (r : RE) : Prop := PE X e (tG (Rep X.K) X.K X.mg W r)
abbrev ST (X : Cx) (W : WX) (e : Expr) (r : RT) : Prop := PT X e (tG RBool X.K X.mg W r)
abbrev SW (X : Cx) (W : WX) (e : Expr) (r : RT) : Prop := PW X e (tG RBool X.K X.mg W r)
abbrev SA (X : Cx) (W : WX) (es : List Expr) (r : RA) : Prop := PA X es (tG (Reps X.K) X.K X.mg W r)

/-- how an operation on data is met by the layer's reading -/
def Op2 (K : PySem.W.Frag) (f : Dv → Dv → Sto → Out Dv) (r : R2) : Prop :=
  ∀ (mg : Str → Option Value) (Wx : Value → Option Addr → Hp → Prop) (μ : List Addr) (H : Hp) (S : Sto) (x y : V) (d e : Dv) (Q : VK), SimS K μ S H → Rep K μ H x d → Rep K μ H y e → Met (Rep K) K mg Wx μ H (f d e S) Q → r x y H Q
def OpL (K : PySem.W.Frag) (f : List Dv → Sto → Out Dv) (r : List V → Hp → VK → Prop) : Prop :=
  ∀ (mg : Str → Option Value) (Wx : Value → Option Addr → Hp → Prop) (μ : List Addr) (H : Hp) (S : Sto) (vs : List V) (ds : List Dv) (Q : VK), SimS K μ S H → Reps K μ H vs ds → Met (Rep K) K mg Wx μ H (f ds S) Q → r vs H Q
def OpM (K : PySem.W.Frag) (f : Dv → List Dv → Sto → Out Dv) (r : V → List V → Hp → VK → Prop) : Prop :=
  ∀ (mg : Str → Option Value) (Wx : Value → Option Addr → Hp → Prop) (μ : List Addr) (H : Hp) (S : Sto) (x : V) (vs : List V) (d : Dv) (ds : List Dv) (Q : VK), SimS K μ S H → Rep K μ H x d → Reps K μ H vs ds → Met (Rep K) K mg Wx μ H (f d ds S) Q → r x vs H Q

/-! ### terms -/
def eVar (i : Nat) : RE := fun ρ S => match ρ[i]? with
  | some (some d) => .ok d S
  | _ => .no
def eCon (d : Dv) : RE := fun _ S => .ok d S
def eBin (f : Dv → Dv → Sto → Out Dv) (a b : RE) : RE := fun ρ S => (a ρ S).bind fun x S1 => (b ρ S1).bind fun y S2 => f x y S2
def eUn (f : Dv → Sto → Out Dv) (a : RE) : RE := fun ρ S => (a ρ S).bind f
def aNil : RA := fun _ S => .ok [] S
def aCons (r : RE) (t : RA) : RA := fun ρ S => (r ρ S).bind fun d S1 => (t ρ S1).bind fun ds S2 => .ok (d :: ds) S2
def eCall (f : List Dv → Sto → Out Dv) (a : RA) : RE := fun ρ S => (a ρ S).bind f
def eMet (f : Dv → List Dv → Sto → Out Dv) (o : RE) (a : RA) : RE := fun ρ S => (o ρ S).bind fun d S1 => (a ρ S1).bind fun ds S2 => f d ds S2
def eTup (a : RA) : RE := fun ρ S => (a ρ S).bind fun ds S1 => if ds.length ≤ sizeLine then .ok (.tup ds) S1 else .no
def eLst (a : RA) : RE := fun ρ S => (a ρ S).bind fun ds S1 => if ds.length ≤ sizeLine then .ok (.ref S1.length) (S1 ++ [.lst ds]) else .no
def eNot (a : RE) : RE := fun ρ S => (a ρ S).bind fun d S1 => match d with
  | .bl b => .ok (.bl (!b)) S1
  | _ => .no
def eAnd (a b : RE) : RE := fun ρ S => (a ρ S).bind fun d S1 => match d with
  | .bl true => b ρ S1
  | .bl false => .ok (.bl false) S1
  | _ => .no
def eOr (a b : RE) : RE := fun ρ S => (a ρ S).bind fun d S1 => match d with
  | .bl true => .ok (.bl true) S1
  | .bl false => b ρ S1
  | _ => .no
def eIf (c : RT) (a b : RE) : RE := fun ρ S => (c ρ S).bind fun t S1 => if t = true then a ρ S1 else b ρ S1
def bTrue (d : Dv) (S : Sto) : Out Bool := match d with
  | .bl b => .ok b S
  | _ => .no
def cBl (a : RE) : RT := fun ρ S => (a ρ S).bind bTrue
def cAnd (a b : RT) : RT := fun ρ S => (a ρ S).bind fun t S1 => if t = true then b ρ S1 else .ok false S1
def cOr (a b : RT) : RT := fun ρ S => (a ρ S).bind fun t S1 => if t = true then .ok true S1 else b ρ S1
def cNot (a : RT) : RT := fun ρ S => (a ρ S).bind fun t S1 => .ok (!t) S1

section
variable {X : Cx} {W : WX} {a b c e : Expr} {es : List Expr} {ra rb rc : RE} {rs : RA} {ta tb : RT} {pos : Pos}
theorem se_var (i : Nat) {x : Str} (hN : X.N[i]? = some x := by rfl) (hv : Vis X.env.scope x := by first | exact Or.inl rfl | exact Or.inr (Or.inl rfl) | exact Or.inr (Or.inr rfl)) (hd : (x == ("__debug__" : Str)) = false := by decide)
    (hcd : (x == ("__classdict__" : Str)) = false := by decide) : SE X W (.Name x pos) (eVar i) := by
  refine PE.imp (pe_var hN hv hd hcd) fun σ H Q ⟨μ, ρ, S, hS, hE, h⟩ => ?_
  unfold eVar at h
  split at h
  · rename_i d hd
    obtain ⟨v, e1, r⟩ := hE.2 i d hd
    exact ⟨v, e1, h.ok hS r⟩
  · exact h.elim
theorem se_con {d : Dv} {v : V} (h : PE X e (tC v)) (r : ∀ μ H, Rep X.K μ H v d) : SE X W e (eCon d) :=
  PE.imp h fun σ H Q ⟨μ, ρ, S, hS, hE, h⟩ => show Q v H from h.ok hS (r μ H)
theorem se_int {i j} : SE X W (.Constant (.int i) j pos) (eCon (.int i)) := se_con pe_int fun _ _ => .int i
theorem se_bl {i j} : SE X W (.Constant (.bool i) j pos) (eCon (.bl i)) := se_con pe_bl fun _ _ => .bl i
theorem se_non {j} : SE X W (.Constant .none j pos) (eCon .non) := se_con pe_non fun _ _ => .non
theorem se_str {i j} : SE X W (.Constant (.str i) j pos) (eCon (.str i)) := se_con pe_str fun _ _ => .str i
theorem bnd2 {f : Dv → Dv → Sto → Out Dv} {r : R2} (hf : Op2 X.K f r) {σ : L2.St} {H : Hp} {Q : VK} (h : tG (Rep X.K) X.K X.mg W (eBin f ra rb) σ H Q) :
    tOp r (tG (Rep X.K) X.K X.mg W ra) (tG (Rep X.K) X.K X.mg W rb) σ H Q := by
  obtain ⟨μ, ρ, S, hS, hE, h⟩ := h
  refine (bnd hS hE h).mono fun x H1 ⟨μ1, S1, d, hS1, hE1, s1, rx, h1⟩ => ?_
  refine (bnd hS1 hE1 h1).mono fun y H2 ⟨μ2, S2, d2, hS2, hE2, s2, ry, h2⟩ => ?_
  exact hf _ _ μ2 H2 S2 x y d d2 Q hS2 (rx.step s2) ry h2
theorem se_bin {op : Operator} {f : Dv → Dv → Sto → Out Dv} {r : R2} (ho : OpR X (binaryOp op) r) (hf : Op2 X.K f r) (ha : SE X W a ra) (hb : SE X W b rb) : SE X W (.BinOp a op b pos) (eBin f ra rb) :=
  PE.imp (pe_op ho ha hb) fun _ _ _ h => bnd2 hf h
theorem se_cmp {op : CmpOp} {f : Dv → Dv → Sto → Out Dv} {r : R2} (ho : OpR X (compareOp op) r) (hf : Op2 X.K f r) (ha : SE X W a ra) (hb : SE X W b rb) (hm : behindInMarks op b = false) : SE X W (.Compare a [op] [b] pos) (eBin f ra rb) :=
  PE.imp (pe_cmpR ho ha hb hm) fun _ _ _ h => bnd2 hf h
theorem bTrue_met {K : PySem.W.Frag} {mg : Str → Option Value} {Wx : Value → Option Addr → Hp → Prop} {μ : List Addr} {H : Hp} {S : Sto} {v : V} {d : Dv} {Q : Bool → Hp → Prop} (hS : SimS K μ S H) (r : Rep K μ H v d) (h : Met RBool K mg Wx μ H (bTrue d S) Q) : ∃ k, v = .bl k ∧ Q k H := by
  cases r with
  | bl b => exact ⟨b, rfl, h.ok hS rfl⟩
  | _ => exact h.elim
theorem st_cmp {op : CmpOp} {f : Dv → Dv → Sto → Out Dv} {r : R2} (ho : OpR X (compareOp op) r) (hf : Op2 X.K f r) (ha : SE X W a ra) (hb : SE X W b rb) (hm : behindInMarks op b = false) : ST X W (.Compare a [op] [b] pos) (cBl (eBin f ra rb)) :=
  PT.imp (pt_cmpR ho ha hb hm) fun σ H Q ⟨μ, ρ, S, hS, hE, h⟩ => bnd2 hf ((bnd hS hE h).mono fun v H1 ⟨μ1, S1, d, hS1, hE1, s1, rv, h1⟩ => bTrue_met hS1 rv h1)
theorem st_bl (he : SE X W e ra) (hp : ∀ whole, isTrue e X.env whole = (do let v ← whole; standAt e.pos; holding [v] (truthy v)) := by intro _; rfl) : ST X W e (cBl ra) :=
  PT.imp (pt_val he hp) fun σ H Q ⟨μ, ρ, S, hS, hE, h⟩ => (bnd hS hE h).mono fun v H1 ⟨μ1, S1, d, hS1, hE1, s1, rv, h1⟩ => bTrue_met hS1 rv h1
theorem st_not (h : ST X W e ta) : ST X W (.UnaryOp .Not e pos) (cNot ta) :=
  PT.imp (pt_not h) fun σ H Q ⟨μ, ρ, S, hS, hE, h⟩ => (bnd (R1 := RBool) hS hE h).mono fun v H1 ⟨μ1, S1, d, hS1, hE1, s1, rv, h1⟩ => by
    cases (show v = d from rv)
    exact h1.ok hS1 rfl
theorem sw_one_and (h : ST X W e ta) : SW X W (.BoolOp .And [e] pos) ta := pw_and1 h
theorem sw_one_or (h : ST X W e ta) : SW X W (.BoolOp .Or [e] pos) ta := pw_or1 h
theorem sw_and (h : ST X W e ta) (t : SW X W (.BoolOp .And (b :: es) pos) tb) : SW X W (.BoolOp .And (e :: b :: es) pos) (cAnd ta tb) :=
  PW.imp (pw_and h t) fun σ H Q ⟨μ, ρ, S, hS, hE, h⟩ => (bnd (R1 := RBool) hS hE h).mono fun v H1 ⟨μ1, S1, d, hS1, hE1, s1, rv, h1⟩ => by
    cases (show v = d from rv)
    cases v with
    | true => exact ⟨μ1, ρ, S1, hS1, hE1, h1⟩
    | false => exact Met.ok (RP := RBool) h1 hS1 rfl
theorem sw_or (h : ST X W e ta) (t : SW X W (.BoolOp .Or (b :: es) pos) tb) : SW X W (.BoolOp .Or (e :: b :: es) pos) (cOr ta tb) :=
  PW.imp (pw_or h t) fun σ H Q ⟨μ, ρ, S, hS, hE, h⟩ => (bnd (R1 := RBool) hS hE h).mono fun v H1 ⟨μ1, S1, d, hS1, hE1, s1, rv, h1⟩ => by
    cases (show v = d from rv)
    cases v with
    | true => exact Met.ok (RP := RBool) h1 hS1 rfl
    | false => exact ⟨μ1, ρ, S1, hS1, hE1, h1⟩
theorem st_w (h : SW X W e ta) : ST X W e ta := PW.pt h
theorem se_not (h : SE X W e ra) : SE X W (.UnaryOp .Not e pos) (eNot ra) :=
  PE.imp (pe_not h) fun σ H Q ⟨μ, ρ, S, hS, hE, h⟩ => (bnd hS hE h).mono fun v H1 ⟨μ1, S1, d, hS1, hE1, s1, rv, h1⟩ => by
    cases rv with
    | bl b => exact ⟨b, rfl, Met.ok (RP := Rep X.K) h1 hS1 (.bl _)⟩
    | _ => exact h1.elim
theorem se_one {op} (h : SE X W e ra) : SE X W (.BoolOp op [e] pos) ra := pe_one h
theorem se_and (h : SE X W e ra) (t : SE X W (.BoolOp .And (b :: es) pos) rb) : SE X W (.BoolOp .And (e :: b :: es) pos) (eAnd ra rb) :=
  PE.imp (pe_and h t) fun σ H Q ⟨μ, ρ, S, hS, hE, h⟩ => (bnd hS hE h).mono fun v H1 ⟨μ1, S1, d, hS1, hE1, s1, rv, h1⟩ => by
    cases rv with
    | bl b => cases b with
      | true => exact ⟨true, rfl, ⟨μ1, ρ, S1, hS1, hE1, h1⟩⟩
      | false => exact ⟨false, rfl, Met.ok (RP := Rep X.K) h1 hS1 (.bl _)⟩
    | _ => exact h1.elim
theorem se_or (h : SE X W e ra) (t : SE X W (.BoolOp .Or (b :: es) pos) rb) : SE X W (.BoolOp .Or (e :: b :: es) pos) (eOr ra rb) :=
  PE.imp (pe_or h t) fun σ H Q ⟨μ, ρ, S, hS, hE, h⟩ => (bnd hS hE h).mono fun v H1 ⟨μ1, S1, d, hS1, hE1, s1, rv, h1⟩ => by
    cases rv with
    | bl b => cases b with
      | true => exact ⟨true, rfl, Met.ok (RP := Rep X.K) h1 hS1 (.bl _)⟩
      | false => exact ⟨false, rfl, ⟨μ1, ρ, S1, hS1, hE1, h1⟩⟩
    | _ => exact h1.elim
theorem se_if (hc : ST X W c ta) (ha : SE X W a ra) (hb : SE X W b rb) : SE X W (.IfExp c a b pos) (eIf ta ra rb) :=
  PE.imp (pe_ifExp hc ha hb) fun σ H Q ⟨μ, ρ, S, hS, hE, h⟩ => (bnd (R1 := RBool) hS hE h).mono fun v H1 ⟨μ1, S1, d, hS1, hE1, s1, rv, h1⟩ => by
    cases (show v = d from rv)
    cases v with
    | true => exact ⟨μ1, ρ, S1, hS1, hE1, h1⟩
    | false => exact ⟨μ1, ρ, S1, hS1, hE1, h1⟩
theorem sa_nil : SA X W [] aNil := PA.imp pa_nil fun σ H Q ⟨μ, ρ, S, hS, hE, h⟩ => Met.ok (RP := Reps X.K) h hS .nil
theorem sa_cons (h : SE X W e ra) (t : SA X W es rs) (hs : starEach (e :: es) X.env = (false, eval e X.env) :: starEach es X.env := by rfl) : SA X W (e :: es) (aCons ra rs) :=
  PA.imp (pa_cons h t hs) fun σ H Q ⟨μ, ρ, S, hS, hE, h⟩ => (bnd hS hE h).mono fun v H1 ⟨μ1, S1, d, hS1, hE1, s1, rv, h1⟩ =>
    (bnd (R1 := Reps X.K) hS1 hE1 h1).mono fun vs H2 ⟨μ2, S2, ds, hS2, hE2, s2, rvs, h2⟩ => h2.ok hS2 ((rv.step s2).reps_cons rvs)
theorem se_tup {k} (h : SA X W es rs) : SE X W (.Tuple es k pos) (eTup rs) :=
  PE.imp (pe_tup h) fun σ H Q ⟨μ, ρ, S, hS, hE, h⟩ => (bnd (R1 := Reps X.K) hS hE h).mono fun vs H1 ⟨μ1, S1, ds, hS1, hE1, s1, rv, h1⟩ => by
    split at h1
    · rename_i hz
      exact ⟨by rw [rv.1]; exact hz, fun p n => h1.tup hS1 n rv⟩
    · exact h1.elim
theorem se_lst (h : SA X W es rs) : SE X W (.List es pos) (eLst rs) :=
  PE.imp (pe_lst h) fun σ H Q ⟨μ, ρ, S, hS, hE, h⟩ => (bnd (R1 := Reps X.K) hS hE h).mono fun vs H1 ⟨μ1, S1, ds, hS1, hE1, s1, rv, h1⟩ => by
    split at h1
    · rename_i hz
      exact ⟨by rw [rv.1]; exact hz, fun p n => h1.lst hS1 n rv⟩
    · exact h1.elim
/-- a built-in by its name -/
theorem se_callB {id : String} {x : Str} {p : Pos} {f : List Dv → Sto → Out Dv} {r : List V → Hp → VK → Prop} (hc : CallR X (.builtin id) r) (hf : OpL X.K f r) (hg : Gl X x) (hm : X.mg x = none) (hv : bootBuiltins x = some (.builtin id)) (ha : SA X W (e :: es) rs)
    (hn : x ≠ "__name__" := by decide) (hdb : (x == ("__debug__" : Str)) = false := by decide) (he : starEach (e :: es) X.env = (false, eval e X.env) :: starEach es X.env := by rfl) (hpl : (backTo pos (starEach es X.env)).any (·.1) = false := by rfl) : SE X W (.Call (.Name x p) (e :: es) [] pos) (eCall f rs) :=
  PE.imp (pe_callB hc hg hm hv ha hn hdb he hpl) fun σ H Q ⟨μ, ρ, S, hS, hE, h⟩ => (bnd (R1 := Reps X.K) hS hE h).mono fun vs H1 ⟨μ1, S1, ds, hS1, hE1, s1, rv, h1⟩ => hf _ _ μ1 H1 S1 vs ds Q hS1 rv h1
theorem se_callTy {T : String} {x : Str} {p : Pos} {f : List Dv → Sto → Out Dv} {r : List V → Hp → VK → Prop} (hc : CallR X (.type T) r) (hf : OpL X.K f r) (hg : Gl X x) (hm : X.mg x = none) (hv : bootBuiltins x = some (.type T)) (ha : SA X W (e :: es) rs)
    (hn : x ≠ "__name__" := by decide) (hdb : (x == ("__debug__" : Str)) = false := by decide) (he : starEach (e :: es) X.env = (false, eval e X.env) :: starEach es X.env := by rfl) (hpl : (backTo pos (starEach es X.env)).any (·.1) = false := by rfl) : SE X W (.Call (.Name x p) (e :: es) [] pos) (eCall f rs) :=
  PE.imp (pe_callTy hc hg hm hv ha hn hdb he hpl) fun σ H Q ⟨μ, ρ, S, hS, hE, h⟩ => (bnd (R1 := Reps X.K) hS hE h).mono fun vs H1 ⟨μ1, S1, ds, hS1, hE1, s1, rv, h1⟩ => hf _ _ μ1 H1 S1 vs ds Q hS1 rv h1
end
end PL

namespace PL
open PySem PySem.Spec PyProof.Rows L2

/-! ### numbers, texts, sequences: what the operators do -/
noncomputable instance (i j : Int) : Decidable (CMul i j) := Classical.propDecidable _
noncomputable instance (i j : Int) : Decidable (CPow i j) := Classical.propDecidable _
noncomputable instance (i j : Int) : Decidable (CShl i j) := Classical.propDecidable _
def newL (ds : List Dv) (S : Sto) : Out Dv := .ok (.ref S.length) (S ++ [.lst ds])
def addD (x y : Dv) (S : Sto) : Out Dv := match x, y with
  | .int i, .int j => .ok (.int (i + j)) S
  | .str a, .str b => if a.length + b.length ≤ sizeLine then .ok (.str (a ++ b)) S else .no
  | .tup a, .tup b => if a.length + b.length ≤ sizeLine then .ok (.tup (a ++ b)) S else .no
  | .ref l, .ref m => match S[l]?, S[m]? with
    | some (.lst a), some (.lst b) => if a.length + b.length ≤ sizeLine then newL (a ++ b) S else .no
    | _, _ => .no
  | _, _ => .no
def subD (x y : Dv) (S : Sto) : Out Dv := match x, y with
  | .int i, .int j => .ok (.int (i - j)) S
  | _, _ => .no
noncomputable def mulD (x y : Dv) (S : Sto) : Out Dv := match x, y with
  | .int i, .int j => if CMul i j then .ok (.int (i * j)) S else .no
  | .ref l, .int k => match S[l]? with
    | some (.lst a) => @ite _ (-(2 ^ 63) ≤ k ∧ k < 2 ^ 63 ∧ a.length * k.toNat ≤ sizeLine) (Classical.propDecidable _) (newL (List.replicate k.toNat a).flatten S) .no
    | _ => .no
  | _, _ => .no
def fdivD (x y : Dv) (S : Sto) : Out Dv := match x, y with
  | .int i, .int j => if 0 < j ∧ j.natAbs.log2 < 9000 then .ok (.int (i / j)) S else .no
  | _, _ => .no
def modD (x y : Dv) (S : Sto) : Out Dv := match x, y with
  | .int i, .int j => if 0 < j then .ok (.int (i % j)) S else .no
  | _, _ => .no
noncomputable def powD (x y : Dv) (S : Sto) : Out Dv := match x, y with
  | .int i, .int j => if CPow i j then .ok (.int (i ^ j.toNat)) S else .no
  | _, _ => .no
noncomputable def shlD (x y : Dv) (S : Sto) : Out Dv := match x, y with
  | .int i, .int j => if CShl i j then .ok (.int (i * 2 ^ j.toNat)) S else .no
  | _, _ => .no
def shrD (x y : Dv) (S : Sto) : Out Dv := match x, y with
  | .int i, .int j => if 0 ≤ j then .ok (.int (i / 2 ^ j.toNat)) S else .no
  | _, _ => .no
def andD (x y : Dv) (S : Sto) : Out Dv := match x, y with
  | .int i, .int j => .ok (.int (Builtin.bitAnd i j)) S
  | _, _ => .no
def orD (x y : Dv) (S : Sto) : Out Dv := match x, y with
  | .int i, .int j => .ok (.int (Builtin.bitOr i j)) S
  | _, _ => .no
def xorD (x y : Dv) (S : Sto) : Out Dv := match x, y with
  | .int i, .int j => .ok (.int (Builtin.bitXor i j)) S
  | _, _ => .no
def ltD (x y : Dv) (S : Sto) : Out Dv := match x, y with
  | .int i, .int j => .ok (.bl (decide (i < j))) S
  | .str a, .str b => .ok (.bl (decide (a.cps.toList < b.cps.toList))) S
  | _, _ => .no
def leD (x y : Dv) (S : Sto) : Out Dv := match x, y with
  | .int i, .int j => .ok (.bl (decide (i ≤ j))) S
  | _, _ => .no
def gtD (x y : Dv) (S : Sto) : Out Dv := match x, y with
  | .int i, .int j => .ok (.bl (decide (j < i))) S
  | _, _ => .no
def geD (x y : Dv) (S : Sto) : Out Dv := match x, y with
  | .int i, .int j => .ok (.bl (decide (j ≤ i))) S
  | _, _ => .no
def isN (d : Dv) : Bool := match d with
  | .non => true
  | _ => false
def isD (x y : Dv) (S : Sto) : Out Dv := match y with
  | .non => .ok (.bl (isN x)) S
  | _ => .no
def isNotD (x y : Dv) (S : Sto) : Out Dv := match y with
  | .non => .ok (.bl (!isN x)) S
  | _ => .no
def negD (x : Dv) (S : Sto) : Out Dv := match x with
  | .int i => .ok (.int (-i)) S
  | _ => .no

section
variable {X : Cx} {K : PySem.W.Frag}
theorem op2I {C : Int → Int → Prop} [∀ i j, Decidable (C i j)] {g : Int → Int → V} {k : Int → Int → Dv} {f : Dv → Dv → Sto → Out Dv} (hf : ∀ x y S, f x y S = match x, y with | .int i, .int j => (if C i j then .ok (k i j) S else .no) | _, _ => .no)
    (hk : ∀ μ H i j, Rep K μ H (g i j) (k i j)) : Op2 K f (rI C g) := by
  intro mg Wx μ H S x y d e Q hS rx ry h
  rw [hf] at h
  cases rx <;> cases ry <;> first | exact h.elim | skip
  dsimp only at h
  split at h
  · rename_i hc; exact ⟨_, _, rfl, rfl, hc, h.ok hS (hk ..)⟩
  · exact h.elim
theorem op2I0 {g : Int → Int → V} {k : Int → Int → Dv} {f : Dv → Dv → Sto → Out Dv} (hf : ∀ x y S, f x y S = match x, y with | .int i, .int j => .ok (k i j) S | _, _ => .no)
    (hk : ∀ μ H i j, Rep K μ H (g i j) (k i j)) : Op2 K f (rI0 g) := by
  intro mg Wx μ H S x y d e Q hS rx ry h
  rw [hf] at h
  cases rx <;> cases ry <;> first | exact h.elim | exact ⟨_, _, rfl, rfl, h.ok hS (hk ..)⟩
theorem o_sub : Op2 K subD (rI0 fun i j => .int (i - j)) := op2I0 (fun x y S => rfl) fun _ _ _ _ => .int _
theorem o_and : Op2 K andD (rI0 fun i j => .int (Builtin.bitAnd i j)) := op2I0 (fun x y S => rfl) fun _ _ _ _ => .int _
theorem o_or : Op2 K orD (rI0 fun i j => .int (Builtin.bitOr i j)) := op2I0 (fun x y S => rfl) fun _ _ _ _ => .int _
theorem o_xor : Op2 K xorD (rI0 fun i j => .int (Builtin.bitXor i j)) := op2I0 (fun x y S => rfl) fun _ _ _ _ => .int _
theorem o_le : Op2 K leD (rI0 fun i j => .bl (decide (i ≤ j))) := op2I0 (fun x y S => rfl) fun _ _ _ _ => .bl _
theorem o_gt : Op2 K gtD (rI0 fun i j => .bl (decide (j < i))) := op2I0 (fun x y S => rfl) fun _ _ _ _ => .bl _
theorem o_ge : Op2 K geD (rI0 fun i j => .bl (decide (j ≤ i))) := op2I0 (fun x y S => rfl) fun _ _ _ _ => .bl _
theorem o_fdiv : Op2 K fdivD (rI CDivW fun i j => .int (i / j)) := op2I (C := fun _ j => 0 < j ∧ j.natAbs.log2 < 9000) (fun x y S => rfl) fun _ _ _ _ => .int _
theorem o_mod : Op2 K modD (rI (fun _ j => 0 < j) fun i j => .int (i % j)) := op2I (fun x y S => rfl) fun _ _ _ _ => .int _
theorem o_pow : Op2 K powD (rI CPow fun i j => .int (i ^ j.toNat)) := op2I (fun x y S => rfl) fun _ _ _ _ => .int _
theorem o_shl : Op2 K shlD (rI CShl fun i j => .int (i * 2 ^ j.toNat)) := op2I (fun x y S => rfl) fun _ _ _ _ => .int _
theorem o_shr : Op2 K shrD (rI (fun _ j => 0 ≤ j) fun i j => .int (i / 2 ^ j.toNat)) := op2I (C := fun _ j => 0 ≤ j) (fun x y S => rfl) fun _ _ _ _ => .int _
abbrev rAddS : R2 := fun x y H Q => ∃ i j, x = .str i ∧ y = .str j ∧ i.length + j.length ≤ sizeLine ∧ Q (.str (i ++ j)) H
abbrev rAddAll (K : PySem.W.Frag) : R2 := fun x y H Q => rI0 (fun i j => .int (i + j)) x y H Q ∨ (rAddS x y H Q ∨ (rCatA K x y H Q ∨ rCat x y H Q))
theorem op_addAll : OpR X (binaryOp .Add) (rAddAll X.K) := OpR.or op_add (OpR.or op_add_str (OpR.or op_catA op_cat))
theorem o_add : Op2 K addD (rAddAll K) := by
  intro mg Wx μ H S x y d e Q hS rx ry h
  cases rx with
  | int i => cases ry <;> first | exact h.elim | exact .inl ⟨_, _, rfl, rfl, h.ok hS (.int _)⟩
  | str a =>
    cases ry <;> first | exact h.elim | skip
    rename_i b
    unfold addD at h; dsimp only at h
    split at h
    · rename_i hz; exact .inr (.inl ⟨_, _, rfl, rfl, hz, h.ok hS (.str _)⟩)
    · exact h.elim
  | @tup a vs ds h1 l1 q1 =>
    cases ry <;> first | exact h.elim | skip
    rename_i b ws es h2 l2 q2
    unfold addD at h; dsimp only at h
    split at h
    · rename_i hz
      have r := Reps.append ⟨l1, q1⟩ ⟨l2, q2⟩
      refine .inr (.inr (.inl ⟨_, _, _, _, rfl, rfl, .of h1.1, .of h2.1, by rw [l1, l2]; exact hz, fun e => ?_, fun _ e => ?_, fun _ _ p n => h.tup hS n r⟩))
      · subst e
        have e2 : ds = [] := List.eq_nil_of_length_eq_zero l1.symm
        subst e2
        exact h.ok hS (.tup h2 l2 q2)
      · subst e
        have e2 : es = [] := List.eq_nil_of_length_eq_zero l2.symm
        subst e2
        rw [List.append_nil] at h
        exact h.ok hS (.tup h1 l1 q1)
    · exact h.elim
  | @ref l a h1 =>
    cases ry <;> first | exact h.elim | skip
    rename_i m b h2
    unfold addD at h; dsimp only at h
    split at h
    · rename_i as bs e1 e2
      split at h
      · rename_i hz
        obtain ⟨vs, g1, r1⟩ := hS.at' e1 h1
        obtain ⟨ws, g2, r2⟩ := hS.at' e2 h2
        exact .inr (.inr (.inr ⟨_, _, _, _, rfl, rfl, g1, g2, by rw [r1.1, r2.1]; exact hz, fun p n => h.lst hS n (r1.append r2)⟩))
      · exact h.elim
    · exact h.elim
  | _ => cases ry <;> exact h.elim
abbrev rMulAll : R2 := fun x y H Q => rI CMul (fun i j => .int (i * j)) x y H Q ∨ rRep x y H Q
theorem op_mulAll : OpR X (binaryOp .Mult) rMulAll := OpR.or op_mul op_rep
theorem reps_rep {μ : List Addr} {H : Hp} {vs : List V} {ds : List Dv} (r : Reps K μ H vs ds) : ∀ n : Nat, Reps K μ H (List.replicate n vs).flatten (List.replicate n ds).flatten
  | 0 => .nil
  | n + 1 => by
    rw [List.replicate_succ, List.replicate_succ, List.flatten_cons, List.flatten_cons]
    exact r.append (reps_rep r n)
abbrev rLtAll : R2 := fun x y H Q => rI0 (fun i j => .bl (decide (i < j))) x y H Q ∨ (∃ i j, x = .str i ∧ y = .str j ∧ Q (.bl (decide (i.cps.toList < j.cps.toList))) H)
theorem op_ltAll : OpR X (compareOp .Lt) rLtAll := OpR.or op_lt op_lt_str
theorem o_lt : Op2 K ltD rLtAll := by
  intro mg Wx μ H S x y d e Q hS rx ry h
  cases rx <;> cases ry <;> first | exact h.elim | exact .inl ⟨_, _, rfl, rfl, h.ok hS (.bl _)⟩ | exact .inr ⟨_, _, rfl, rfl, h.ok hS (.bl _)⟩
theorem isN_of {μ : List Addr} {H : Hp} {v : V} {d : Dv} (r : Rep K μ H v d) : isN d = decide (v = .non) := by
  cases r <;> rfl
theorem o_is : Op2 K isD (fun x y H Q => y = .non ∧ Q (.bl (decide (x = .non))) H) := by
  intro mg Wx μ H S x y d e Q hS rx ry h
  cases ry <;> first | exact h.elim | skip
  exact ⟨rfl, Met.ok (RP := Rep K) h hS (by rw [isN_of rx]; exact .bl _)⟩
theorem o_isNot : Op2 K isNotD (fun x y H Q => y = .non ∧ Q (.bl (!decide (x = .non))) H) := by
  intro mg Wx μ H S x y d e Q hS rx ry h
  cases ry <;> first | exact h.elim | skip
  exact ⟨rfl, Met.ok (RP := Rep K) h hS (by rw [isN_of rx]; exact .bl _)⟩
end
end PL

namespace PL
open PySem PySem.Spec PyProof.Rows L2

section
variable {X : Cx} {K : PySem.W.Frag}
theorem o_mul : Op2 K mulD rMulAll := by
  intro mg Wx μ H S x y d e Q hS rx ry h
  cases rx with
  | int i =>
    cases ry <;> first | exact h.elim | skip
    unfold mulD at h; dsimp only at h
    split at h
    · rename_i hc; exact .inl ⟨_, _, rfl, rfl, hc, h.ok hS (.int _)⟩
    · exact h.elim
  | @ref l a h1 =>
    cases ry <;> first | exact h.elim | skip
    unfold mulD at h; dsimp only at h
    split at h
    · rename_i as e1
      split at h
      · rename_i hc
        obtain ⟨vs, g1, r1⟩ := hS.at' e1 h1
        exact .inr ⟨_, _, _, rfl, rfl, g1, hc.1, hc.2.1, by rw [r1.1]; exact hc.2.2, fun p n => h.lst hS n (reps_rep r1 _)⟩
      · exact h.elim
    · exact h.elim
  | _ => cases ry <;> exact h.elim
end

/-! ### equality of data -/
mutual
def toP : Nat → Sto → Dv → Option PyData
  | 0, _, _ => none
  | _ + 1, _, .non => some .none
  | _ + 1, _, .bl b => some (.bool b)
  | _ + 1, _, .int i => some (.int i)
  | _ + 1, _, .str x => some (.str x)
  | n + 1, S, .tup ds => (toPs n S ds).map .tuple
  | n + 1, S, .kt ds => (toPs n S ds).map .tuple
  | n + 1, S, .fl ds => (toPs n S ds).map .list
  | n + 1, S, .ref l => match S[l]? with
    | some (.lst ds) => (toPs n S ds).map .list
    | _ => none
def toPs : Nat → Sto → List Dv → Option (List PyData)
  | _, _, [] => some []
  | n, S, d :: ds => match toP n S d, toPs n S ds with
    | some p, some ps => some (p :: ps)
    | _, _ => none
end
/-- == -/
def eqq (S : Sto) (x y : Dv) : Option Bool := match toP 40 S x, toP 40 S y with
  | some p, some q => if SeqAt.shaped p = true ∧ SeqAt.shaped q = true then some (PyData.eqv p q) else none
  | _, _ => none
def eqD (x y : Dv) (S : Sto) : Out Dv := match eqq S x y with
  | some b => .ok (.bl b) S
  | none => .no
def neD (x y : Dv) (S : Sto) : Out Dv := match eqq S x y with
  | some b => .ok (.bl (!b)) S
  | none => .no
section
variable {X : Cx} {K : PySem.W.Frag} {μ : List Addr} {H : Hp} {S : Sto}
mutual
theorem dp_of (hS : SimS K μ S H) : ∀ (n : Nat) (v : V) (d : Dv) (p : PyData), Rep K μ H v d → toP n S d = some p → Dp K H v p
  | 0, _, _, _, _, h => by simp [toP] at h
  | n + 1, v, .non, p, r, h => by cases r; simp [toP] at h; subst h; exact .non
  | n + 1, v, .bl b, p, r, h => by cases r; simp [toP] at h; subst h; exact .bl _
  | n + 1, v, .int b, p, r, h => by cases r; simp [toP] at h; subst h; exact .int _
  | n + 1, v, .str b, p, r, h => by cases r; simp [toP] at h; subst h; exact .str _
  | n + 1, v, .tup ds, p, r, h => by
    cases r with
    | tup h1 l1 q1 =>
      simp only [toP, Option.map_eq_some_iff] at h
      obtain ⟨ps, h, rfl⟩ := h
      exact .tup (.of h1.1) (dps_of hS n _ ds ps ⟨l1, q1⟩ h)
  | n + 1, v, .kt ds, p, r, h => by
    cases r with
    | kt h1 l1 q1 =>
      simp only [toP, Option.map_eq_some_iff] at h
      obtain ⟨ps, h, rfl⟩ := h
      exact .tup (.inr h1) (dps_of hS n _ ds ps ⟨l1, q1⟩ h)
  | n + 1, v, .fl ds, p, r, h => by
    obtain ⟨a, vs, e, hq, rr⟩ := r.sqL hS (ds := ds) rfl
    subst e
    simp only [toP, Option.map_eq_some_iff] at h
    obtain ⟨ps, h, rfl⟩ := h
    exact .lst hq (dps_of hS n _ ds ps rr h)
  | n + 1, v, .ref l, p, r, h => by
    simp only [toP] at h
    split at h
    · rename_i ds e
      obtain ⟨a, vs, e', hq, rr⟩ := r.sqL hS (ds := ds) (by simp [lstOf, e])
      subst e'
      simp only [Option.map_eq_some_iff] at h
      obtain ⟨ps, h, rfl⟩ := h
      exact .lst hq (dps_of hS n _ ds ps rr h)
    · cases h
theorem dps_of (hS : SimS K μ S H) : ∀ (n : Nat) (vs : List V) (ds : List Dv) (ps : List PyData), Reps K μ H vs ds → toPs n S ds = some ps → DpAll K H vs ps
  | n, vs, [], ps, r, h => by
    cases r.un0
    simp [toPs] at h; subst h; exact .nil
  | n, vs, d :: ds, ps, r, h => by
    obtain ⟨v, ws, rfl, r1, r2⟩ := r.uncons
    simp only [toPs] at h
    split at h
    · rename_i p qs e1 e2
      simp only [Option.some.injEq] at h; subst h
      exact .cons (dp_of hS n v d p r1 e1) (dps_of hS n ws ds qs r2 e2)
    · cases h
end
theorem eqq_some {x y : Dv} {b : Bool} (h : eqq S x y = some b) : ∃ p q, toP 40 S x = some p ∧ toP 40 S y = some q ∧ SeqAt.shaped p = true ∧ SeqAt.shaped q = true ∧ b = PyData.eqv p q := by
  unfold eqq at h
  split at h
  · rename_i p q e1 e2
    split at h
    · rename_i hc
      exact ⟨p, q, e1, e2, hc.1, hc.2, (Option.some.inj h).symm⟩
    · cases h
  · cases h
theorem o_eq : Op2 K eqD (rEqD K) := by
  intro mg Wx μ H S x y d e Q hS rx ry h
  unfold eqD at h
  split at h
  · rename_i b hb
    obtain ⟨p, q, e1, e2, s1, s2, rfl⟩ := eqq_some hb
    exact ⟨p, q, dp_of hS 40 _ _ _ rx e1, dp_of hS 40 _ _ _ ry e2, s1, s2, h.ok hS (.bl _)⟩
  · exact h.elim
theorem o_ne : Op2 K neD (rNeD K) := by
  intro mg Wx μ H S x y d e Q hS rx ry h
  unfold neD at h
  split at h
  · rename_i b hb
    obtain ⟨p, q, e1, e2, s1, s2, rfl⟩ := eqq_some hb
    exact ⟨p, q, dp_of hS 40 _ _ _ rx e1, dp_of hS 40 _ _ _ ry e2, s1, s2, h.ok hS (.bl _)⟩
  · exact h.elim
end

/-! ### keys -/
def keyOf : Dv → Option L2.Key
  | .int i => some (.inl i)
  | .str x => some (.inr x)
  | _ => none
def keysOf : List Dv → Option (List L2.Key)
  | [] => some []
  | d :: ds => match keyOf d, keysOf ds with
    | some k, some ks => some (k :: ks)
    | _, _ => none
def tkeyOf : Dv → Option (List L2.Key)
  | .tup ds => keysOf ds
  | _ => none
section
variable {κ : Type} [DecidableEq κ] {α : Type}
def gat : List (κ × α) → κ → Option α
  | [], _ => none
  | p :: r, k => if p.1 = k then some p.2 else gat r k
def gput (kvs : List (κ × α)) (k : κ) (v : α) : List (κ × α) :=
  if (kvs.any fun kv => decide (kv.1 = k)) = true then kvs.map (fun kv => if kv.1 = k then (kv.1, v) else kv) else kvs ++ [(k, v)]
end
section
variable {K : PySem.W.Frag} {μ : List Addr} {H : Hp} {S : Sto}
theorem keyOf_rep {v : V} {d : Dv} {k : L2.Key} (r : Rep K μ H v d) (h : keyOf d = some k) : v = kV k := by
  cases r <;> simp [keyOf] at h <;> (subst h; rfl)
theorem keysOf_rep : ∀ {vs : List V} {ds : List Dv} {ks : List L2.Key}, Reps K μ H vs ds → keysOf ds = some ks → vs = ks.map kV
  | vs, [], ks, r, h => by cases r.un0; simp [keysOf] at h; subst h; rfl
  | vs, d :: ds, ks, r, h => by
    obtain ⟨v, ws, rfl, r1, r2⟩ := r.uncons
    simp only [keysOf] at h
    split at h
    · rename_i k ks' e1 e2
      simp only [Option.some.injEq] at h; subst h
      rw [keyOf_rep r1 e1, keysOf_rep r2 e2]; rfl
    · cases h
theorem tkeyOf_rep {v : V} {d : Dv} {ks : List L2.Key} (r : Rep K μ H v d) (h : tkeyOf d = some ks) : ∃ b, v = .ref b ∧ H b = some (.tup (ks.map kV)) := by
  cases r with
  | tup h1 l q => exact ⟨_, rfl, by rw [h1.1, keysOf_rep ⟨l, q⟩ h]⟩
  | _ => simp [tkeyOf] at h
variable {κ : Type} [DecidableEq κ]
theorem gat_rep : ∀ {ws : List (κ × V)} {kvs : List (κ × Dv)} (k : κ), ws.map (·.1) = kvs.map (·.1) → Reps K μ H (ws.map (·.2)) (kvs.map (·.2)) →
    (gat kvs k = none ∧ valV ws k = none) ∨ ∃ d v, gat kvs k = some d ∧ valV ws k = some v ∧ Rep K μ H v d
  | [], [], k, _, _ => .inl ⟨rfl, rfl⟩
  | p :: ws, q :: kvs, k, h, r => by
    simp only [List.map_cons, List.cons.injEq] at h
    obtain ⟨v, vs, e, r1, r2⟩ := Reps.uncons r
    simp only [List.map_cons, List.cons.injEq] at e
    obtain ⟨rfl, rfl⟩ := e
    by_cases hk : q.1 = k
    · exact .inr ⟨q.2, p.2, by simp [gat, hk], valV_pos (h.1.trans hk), r1⟩
    · rcases gat_rep k h.2 r2 with ⟨e1, e2⟩ | ⟨d, v, e1, e2, e3⟩
      · exact .inl ⟨by simp [gat, hk, e1], by rw [valV_neg (by rw [h.1]; exact hk)]; exact e2⟩
      · exact .inr ⟨d, v, by simp [gat, hk, e1], by rw [valV_neg (by rw [h.1]; exact hk)]; exact e2, e3⟩
  | [], _ :: _, _, h, _ => by simp at h
  | _ :: _, [], _, h, _ => by simp at h
theorem any_keys {α β : Type} {k : κ} : ∀ {ws : List (κ × α)} {kvs : List (κ × β)}, ws.map (·.1) = kvs.map (·.1) → (ws.any fun kv => decide (kv.1 = k)) = kvs.any fun kv => decide (kv.1 = k)
  | [], [], _ => rfl
  | p :: ws, q :: kvs, h => by
    simp only [List.map_cons, List.cons.injEq] at h
    rw [List.any_cons, List.any_cons, any_keys h.2, h.1]
  | [], _ :: _, h => by simp at h
  | _ :: _, [], h => by simp at h
theorem repl_keys {α : Type} {k : κ} {v : α} (kvs : List (κ × α)) : (kvs.map fun kv => if kv.1 = k then (kv.1, v) else kv).map (·.1) = kvs.map (·.1) := by
  rw [List.map_map]
  refine List.map_congr_left fun p _ => ?_
  show (if p.1 = k then (p.1, v) else p).1 = p.1
  split <;> rfl
theorem repl_rep {k : κ} {v : V} {d : Dv} (rv : Rep K μ H v d) : ∀ {ws : List (κ × V)} {kvs : List (κ × Dv)}, ws.map (·.1) = kvs.map (·.1) → Reps K μ H (ws.map (·.2)) (kvs.map (·.2)) →
    Reps K μ H ((ws.map fun kv => if kv.1 = k then (kv.1, v) else kv).map (·.2)) ((kvs.map fun kv => if kv.1 = k then (kv.1, d) else kv).map (·.2))
  | [], [], _, _ => .nil
  | p :: ws, q :: kvs, h, r => by
    simp only [List.map_cons, List.cons.injEq] at h
    obtain ⟨u, us, e, r1, r2⟩ := Reps.uncons r
    simp only [List.map_cons, List.cons.injEq] at e
    obtain ⟨rfl, rfl⟩ := e
    simp only [List.map_cons]
    refine Reps.cons (repl_rep rv h.2 r2) ?_
    rw [h.1]
    split
    · exact rv
    · exact r1
  | [], _ :: _, h, _ => by simp at h
  | _ :: _, [], h, _ => by simp at h
theorem gput_rep {ws : List (κ × V)} {kvs : List (κ × Dv)} {k : κ} {v : V} {d : Dv} (h : ws.map (·.1) = kvs.map (·.1)) (r : Reps K μ H (ws.map (·.2)) (kvs.map (·.2))) (rv : Rep K μ H v d) :
    (putK ws k v).map (·.1) = (gput kvs k d).map (·.1) ∧ Reps K μ H ((putK ws k v).map (·.2)) ((gput kvs k d).map (·.2)) := by
  unfold putK gput
  rw [any_keys h]
  split
  · exact ⟨by rw [repl_keys, repl_keys, h], repl_rep rv h r⟩
  · exact ⟨by rw [List.map_append, List.map_append, h]; rfl, by rw [List.map_append, List.map_append]; exact r.append (.one rv)⟩
/-- what a dict tells of a key -/
def dget (S : Sto) (o k : Dv) : Option (Option Dv) := match o with
  | .ref l => match S[l]? with
    | some (.dk kvs) => (keyOf k).map (gat kvs)
    | some (.dt kvs) => (tkeyOf k).map (gat kvs)
    | some (.fk kvs) => (keyOf k).map (gat kvs)
    | some (.ft kvs) => (tkeyOf k).map (gat kvs)
    | _ => none
  | _ => none
theorem dget_rep {x y : V} {o k : Dv} {r : Option Dv} (hS : SimS K μ S H) (rx : Rep K μ H x o) (ry : Rep K μ H y k) (h : dget S o k = some r) :
    ∃ a u, x = .ref a ∧ DGet H a y u ∧ ((r = none ∧ u = none) ∨ ∃ d v, r = some d ∧ u = some v ∧ Rep K μ H v d) := by
  cases rx with
  | @ref l a hl =>
    simp only [dget] at h
    split at h
    · rename_i kvs e
      obtain ⟨ws, e1, e2, e3⟩ := hS.at' e hl
      simp only [Option.map_eq_some_iff] at h
      obtain ⟨κ, hk, h⟩ := h
      refine ⟨a, valV ws κ, rfl, ?_, ?_⟩
      · rw [keyOf_rep ry hk]; exact .k e1
      · rcases gat_rep κ e2 e3 with ⟨g1, g2⟩ | ⟨d, v, g1, g2, g3⟩
        · exact .inl ⟨h.symm.trans g1, g2⟩
        · exact .inr ⟨d, v, h.symm.trans g1, g2, g3⟩
    · rename_i kvs e
      obtain ⟨ws, e1, e2, e3⟩ := hS.at' e hl
      simp only [Option.map_eq_some_iff] at h
      obtain ⟨κ, hk, h⟩ := h
      obtain ⟨b, rfl, eb⟩ := tkeyOf_rep ry hk
      refine ⟨a, valV ws κ, rfl, .t e1 eb, ?_⟩
      rcases gat_rep κ e2 e3 with ⟨g1, g2⟩ | ⟨d, v, g1, g2, g3⟩
      · exact .inl ⟨h.symm.trans g1, g2⟩
      · exact .inr ⟨d, v, h.symm.trans g1, g2, g3⟩
    · rename_i kvs e
      obtain ⟨ws, ⟨o, e1⟩, e2, e3⟩ := hS.at' e hl
      simp only [Option.map_eq_some_iff] at h
      obtain ⟨κ, hk, h⟩ := h
      refine ⟨a, valV ws κ, rfl, ?_, ?_⟩
      · rw [keyOf_rep ry hk]; exact .inl ⟨ws, κ, .inr ⟨o, e1⟩, rfl, rfl⟩
      · rcases gat_rep κ e2 e3 with ⟨g1, g2⟩ | ⟨d, v, g1, g2, g3⟩
        · exact .inl ⟨h.symm.trans g1, g2⟩
        · exact .inr ⟨d, v, h.symm.trans g1, g2, g3⟩
    · rename_i kvs e
      obtain ⟨ws, ⟨o, e1⟩, e2, e3⟩ := hS.at' e hl
      simp only [Option.map_eq_some_iff] at h
      obtain ⟨κ, hk, h⟩ := h
      obtain ⟨b, rfl, eb⟩ := tkeyOf_rep ry hk
      refine ⟨a, valV ws κ, rfl, .inr ⟨ws, κ, b, .inr ⟨o, e1⟩, rfl, eb, rfl⟩, ?_⟩
      rcases gat_rep κ e2 e3 with ⟨g1, g2⟩ | ⟨d, v, g1, g2, g3⟩
      · exact .inl ⟨h.symm.trans g1, g2⟩
      · exact .inr ⟨d, v, h.symm.trans g1, g2, g3⟩
    · cases h
  | _ => simp [dget] at h
/-- the store behind o[k] = d -/
def dput (S : Sto) (o k d : Dv) : Option Sto := match o with
  | .ref l => match S[l]? with
    | some (.dk kvs) => if kvs.length < sizeLine then (keyOf k).map fun κ => S.set l (.dk (gput kvs κ d)) else none
    | some (.dt kvs) => if kvs.length < sizeLine then (tkeyOf k).map fun κ => S.set l (.dt (gput kvs κ d)) else none
    | _ => none
  | _ => none
theorem dput_rep {x y v : V} {o k d : Dv} {S' : Sto} (hS : SimS K μ S H) (rx : Rep K μ H x o) (ry : Rep K μ H y k) (rv : Rep K μ H v d) (h : dput S o k d = some S') :
    ∃ a H', x = .ref a ∧ DPut H a y v H' ∧ SimS K μ S' H' ∧ Step μ H μ H' := by
  cases rx with
  | @ref l a hl =>
    simp only [dput] at h
    split at h
    · rename_i kvs e
      obtain ⟨ws, e1, e2, e3⟩ := hS.at' e hl
      split at h
      · rename_i hz
        simp only [Option.map_eq_some_iff] at h
        obtain ⟨κ, hk, rfl⟩ := h
        have hw : ws.length < sizeLine := by have := congrArg List.length e2; simp at this; omega
        refine ⟨a, _, rfl, ?_, hS.put hl (u := .dK (putK ws κ v)) ⟨_, upd_same, ?_⟩, step_put hS hl _⟩
        · rw [keyOf_rep ry hk]; exact .k e1 hw
        · obtain ⟨g1, g2⟩ := gput_rep (k := κ) e2 e3 rv
          exact ⟨g1, g2.step (step_put hS hl _)⟩
      · cases h
    · rename_i kvs e
      obtain ⟨ws, e1, e2, e3⟩ := hS.at' e hl
      split at h
      · rename_i hz
        simp only [Option.map_eq_some_iff] at h
        obtain ⟨κ, hk, rfl⟩ := h
        obtain ⟨b, rfl, eb⟩ := tkeyOf_rep ry hk
        have hw : ws.length < sizeLine := by have := congrArg List.length e2; simp at this; omega
        refine ⟨a, _, rfl, .t e1 eb hw, hS.put hl (u := .dT (putK ws κ v)) ⟨_, upd_same, ?_⟩, step_put hS hl _⟩
        obtain ⟨g1, g2⟩ := gput_rep (k := κ) e2 e3 rv
        exact ⟨g1, g2.step (step_put hS hl _)⟩
      · cases h
    · cases h
  | _ => simp [dput] at h
end

/-! ### subscripts -/
def idxD (o i : Dv) (S : Sto) : Out Dv := match i with
  | .int k => match o with
    | .str x => if x.length ≤ sizeLine then (match atI x.cps.toList k with | some c => .ok (.str ⟨#[c]⟩) S | none => .no) else .no
    | _ => match tupOf o with
      | some ds => (match atI ds k with | some d => .ok d S | none => .no)
      | none => match lstOf S o with
        | some ds => (match atI ds k with | some d => .ok d S | none => .no)
        | none => match dget S o i with
          | some (some d) => .ok d S
          | _ => .no
  | _ => match dget S o i with
    | some (some d) => .ok d S
    | _ => .no
abbrev rIxD : R2 := fun x y H Q => ∃ a v, x = .ref a ∧ DGet H a y (some v) ∧ Q v H
theorem ix_dict {X : Cx} (hu : X.A.units + 1 < cLine) : IxR X rIxD := by
  intro value slice pins s σ H x y v u Q I rx ry h hs
  obtain ⟨a, w, rfl, g, q⟩ := h
  cases rx
  exact tail_any (ops := [.ref a, u]) (dict_typeIs I g) PySem.F.slot_dict_getitem.lookup (d_getItem hu I g ry fun w' s3 I3 rw' => ⟨w, H, I3, rw', q⟩) hs
abbrev rIxAll (K : PySem.W.Frag) : R2 := fun x y H Q => rIx K x y H Q ∨ rIxD x y H Q
section
variable {X : Cx} {K : PySem.W.Frag} {W : WX} {a b : Expr} {ra rb : RE} {pos : Pos}
theorem atI_rep {μ : List Addr} {H : Hp} {vs : List V} {ds : List Dv} {k : Int} {d : Dv} (r : Reps K μ H vs ds) (h : atI ds k = some d) : ∃ v, atI vs k = some v ∧ Rep K μ H v d := by
  unfold atI at h ⊢
  rw [r.1]
  obtain ⟨j, e, h⟩ := Option.bind_eq_some_iff.mp h
  obtain ⟨v, e1, rv⟩ := r.get h
  exact ⟨v, by rw [e]; exact e1, rv⟩
theorem o_idx : Op2 K idxD (rIxAll K) := by
  intro mg Wx μ H S x y o i Q hS rx ry h
  have dict : ∀ (h : Met (Rep K) K mg Wx μ H (match dget S o i with | some (some d) => .ok d S | _ => .no) Q), rIxAll K x y H Q := fun h => by
    split at h
    · rename_i d e
      obtain ⟨a, u, ex, g, hh⟩ := dget_rep hS rx ry e
      rcases hh with ⟨z, _⟩ | ⟨d', v, e1, e2, r⟩
      · cases z
      · cases e1; subst e2
        exact .inr ⟨a, v, ex, g, h.ok hS r⟩
    · exact h.elim
  unfold idxD at h
  split at h
  · rename_i k
    cases ry
    split at h
    · rename_i z
      cases rx
      split at h
      · rename_i hz
        split at h
        · rename_i c e
          exact .inl (.inr (.inr ⟨_, _, c, rfl, rfl, hz, e, h.ok hS (.str _)⟩))
        · exact h.elim
      · exact h.elim
    · split at h
      · rename_i ds e
        obtain ⟨a, vs, rfl, hq, r⟩ := rx.sqT e
        split at h
        · rename_i d e2
          obtain ⟨v, e3, rv⟩ := atI_rep r e2
          exact .inl (.inr (.inl ⟨_, _, _, v, rfl, rfl, hq, e3, h.ok hS rv⟩))
        · exact h.elim
      · split at h
        · rename_i ds e
          obtain ⟨a, vs, rfl, hq, r⟩ := rx.sqL hS e
          split at h
          · rename_i d e2
            obtain ⟨v, e3, rv⟩ := atI_rep r e2
            exact .inl (.inl ⟨_, _, _, v, rfl, rfl, hq, e3, h.ok hS rv⟩)
          · exact h.elim
        · exact dict h
  · exact dict h
theorem se_ix (hu : X.A.units + 1 < cLine) (ha : SE X W a ra) (hb : SE X W b rb) (hs : PlainIx b := by exact fun _ _ => rfl) : SE X W (.Subscript a b pos) (eBin idxD ra rb) :=
  PE.imp (pe_ix (IxR.or ix_seq (ix_dict hu)) ha hb hs) fun _ _ _ h => bnd2 o_idx h
/-! ### slices -/
abbrev RO := Env → Sto → Out (Option Int)
def oNone : RO := fun _ S => .ok none S
def oSome (r : RE) : RO := fun ρ S => (r ρ S).bind fun d S1 => match d with
  | .int i => .ok (some i) S1
  | _ => .no
def cutD {α : Type} (ds : List α) (lo hi : Option Int) : List α := (ds.drop (HT.sIx ds.length 0 lo)).take (HT.sIx ds.length ds.length hi - HT.sIx ds.length 0 lo)
def sliD (o : Dv) (lo hi : Option Int) (S : Sto) : Out Dv := match o with
  | .str x => if x.length ≤ sizeLine then .ok (.str (cutS x lo hi)) S else .no
  | .tup ds => .ok (.tup (cutD ds lo hi)) S
  | _ => match lstOf S o with
    | some ds => newL (cutD ds lo hi) S
    | none => .no
def eSli (o : RE) (l h : RO) : RE := fun ρ S => (o ρ S).bind fun d S1 => (l ρ S1).bind fun lo S2 => (h ρ S2).bind fun hi S3 => sliD d lo hi S3
def RInt (μ : List Addr) (H : Hp) (b b' : Option Int) : Prop := b = b'
structure SO (X : Cx) (W : WX) (e : Option Expr) (r : RO) : Prop where
  po : PO X e (tG RInt X.K X.mg W r)
theorem so_none : SO X W none oNone := ⟨⟨fun pins s σ H Q I ⟨μ, ρ, S, hS, hE, h⟩ => po_none.run pins s σ H Q I (Met.ok (RP := RInt) h hS rfl)⟩⟩
theorem so_some {e : Expr} (h : SE X W e ra) : SO X W (some e) (oSome ra) := ⟨⟨fun pins s σ H Q I ⟨μ, ρ, S, hS, hE, hm⟩ => (po_some h).run pins s σ H Q I <|
  (bnd hS hE hm).mono fun v H1 ⟨μ1, S1, d, hS1, hE1, s1, rv, h1⟩ => by
    cases rv <;> first | exact h1.elim | exact ⟨_, rfl, Met.ok (RP := RInt) h1 hS1 rfl⟩⟩⟩
theorem cut_rep {μ : List Addr} {H : Hp} {vs : List V} {ds : List Dv} (r : Reps K μ H vs ds) (lo hi : Option Int) : Reps K μ H (cutV vs lo hi) (cutD ds lo hi) := by
  unfold cutV cutD
  rw [r.1]
  exact (r.drop _).take _
theorem cut_whole {α : Type} {ds : List α} {lo hi : Option Int} (h : HT.sIx ds.length 0 lo = 0 ∧ HT.sIx ds.length ds.length hi = ds.length) : cutD ds lo hi = ds := by
  unfold cutD
  rw [h.1, h.2]
  simp
theorem se_sli {lo hi : Option Expr} {rl rh : RO} {p2 : Pos} (ha : SE X W a ra) (hl : SO X W lo rl) (hh : SO X W hi rh) : SE X W (.Subscript a (.Slice lo hi none p2) pos) (eSli ra rl rh) :=
  PE.imp (pe_slice (SlR.or sl_str (SlR.or sl_tupA sl_list)) ha hl.po hh.po) fun σ H Q ⟨μ, ρ, S, hS, hE, h⟩ => (bnd hS hE h).mono fun v H1 ⟨μ1, S1, d, hS1, hE1, s1, rv, h1⟩ =>
    (bnd (R1 := RInt) hS1 hE1 h1).mono fun l H2 ⟨μ2, S2, l', hS2, hE2, s2, rl, h2⟩ => (bnd (R1 := RInt) hS2 hE2 h2).mono fun u H3 ⟨μ3, S3, u', hS3, hE3, s3, ru, h3⟩ => by
      cases (show l = l' from rl)
      cases (show u = u' from ru)
      have rv3 := (rv.step s2).step s3
      unfold sliD at h3
      split at h3
      · cases rv3
        split at h3
        · rename_i hz; exact .inl ⟨_, rfl, hz, h3.ok hS3 (.str _)⟩
        · exact h3.elim
      · cases rv3 with
        | tup t1 t2 t3 =>
          have r : Reps X.K μ3 H3 _ _ := ⟨t2, t3⟩
          refine .inr (.inl ⟨_, _, rfl, .of t1.1, fun w => ?_, fun _ p n => h3.tup hS3 n (cut_rep r _ _)⟩)
          rw [t2] at w
          rw [cut_whole w] at h3
          exact h3.ok hS3 (.tup t1 t2 t3)
      · split at h3
        · rename_i ds e
          obtain ⟨a, vs, rfl, hq, r⟩ := rv3.sqL hS3 e
          exact .inr (.inr ⟨a, vs, rfl, hq, fun p n => h3.lst hS3 n (cut_rep r _ _)⟩)
        · exact h3.elim
end
end PL

namespace PL
open PySem PySem.Spec PyProof.Rows L2

/-! ### built-ins -/
def kD : L2.Key → Dv
  | .inl i => .int i
  | .inr x => .str x
def intsOf : List Dv → Option (List Int)
  | [] => some []
  | .int i :: r => (intsOf r).map (i :: ·)
  | _ => none
def blsOf : List Dv → Option (List Bool)
  | [] => some []
  | .bl i :: r => (blsOf r).map (i :: ·)
  | _ => none
def strsOf : List Dv → Option (List Str)
  | [] => some []
  | .str i :: r => (strsOf r).map (i :: ·)
  | _ => none
def seqOf (S : Sto) (d : Dv) : Option (List Dv) := match tupOf d with
  | some ds => some ds
  | none => lstOf S d
def lenD (ds : List Dv) (S : Sto) : Out Dv := match ds with
  | [.str x] => if x.length ≤ sizeLine then .ok (.int x.length) S else .no
  | [d] => match seqOf S d with
    | some xs => .ok (.int xs.length) S
    | none => match d with
      | .ref l => match S[l]? with
        | some (.dk kvs) => .ok (.int kvs.length) S
        | some (.dt kvs) => .ok (.int kvs.length) S
        | _ => .no
      | _ => .no
  | _ => .no
def listD (ds : List Dv) (S : Sto) : Out Dv := match ds with
  | [d] => match seqOf S d with
    | some xs => newL xs S
    | none => match d with
      | .ref l => match S[l]? with
        | some (.dk kvs) => newL (kvs.map fun kv => kD kv.1) S
        | _ => .no
      | _ => .no
  | _ => .no
def tupleD (ds : List Dv) (S : Sto) : Out Dv := match ds with
  | [.tup xs] => .ok (.tup xs) S
  | [.kt xs] => .ok (.kt xs) S
  | [d] => match lstOf S d with
    | some xs => .ok (.tup xs) S
    | none => .no
  | _ => .no
def intD (ds : List Dv) (S : Sto) : Out Dv := match ds with
  | [.int i] => .ok (.int i) S
  | [.bl b] => .ok (.int (if b then 1 else 0)) S
  | [.str x] => match PySem.intText? x with
    | some n => if x.length ≤ 640 then .ok (.int n) S else .no
    | none => .no
  | _ => .no
def strD (ds : List Dv) (S : Sto) : Out Dv := match ds with
  | [.int i] => if i.natAbs.log2 < 1920 then .ok (.str (toString i)) S else .no
  | _ => .no
def absD (ds : List Dv) (S : Sto) : Out Dv := match ds with
  | [.int i] => .ok (.int (if i < 0 then -i else i)) S
  | _ => .no
def maxI : List Int → Option Int
  | [] => none
  | x :: r => some (r.foldl max x)
def minI : List Int → Option Int
  | [] => none
  | x :: r => some (r.foldl min x)
def max2D (ds : List Dv) (S : Sto) : Out Dv := match ds with
  | [.int i, .int j] => .ok (.int (max i j)) S
  | _ => .no
def min2D (ds : List Dv) (S : Sto) : Out Dv := match ds with
  | [.int i, .int j] => .ok (.int (min i j)) S
  | _ => .no
def maxD (ds : List Dv) (S : Sto) : Out Dv := match ds with
  | [d] => match (lstOf S d).bind intsOf with
    | some ns => match maxI ns with
      | some m => .ok (.int m) S
      | none => .no
    | none => .no
  | _ => .no
def minD (ds : List Dv) (S : Sto) : Out Dv := match ds with
  | [d] => match (lstOf S d).bind intsOf with
    | some ns => match minI ns with
      | some m => .ok (.int m) S
      | none => .no
    | none => .no
  | _ => .no
def sumD (ds : List Dv) (S : Sto) : Out Dv := match ds with
  | [d] => match (lstOf S d).bind intsOf with
    | some ns => .ok (.int ns.sum) S
    | none => .no
  | _ => .no
def anyD (ds : List Dv) (S : Sto) : Out Dv := match ds with
  | [d] => match (lstOf S d).bind blsOf with
    | some ns => .ok (.bl (ns.any id)) S
    | none => .no
  | _ => .no
section
variable {X : Cx} {K : PySem.W.Frag} {μ : List Addr} {H : Hp} {S : Sto}
theorem intsOf_rep : ∀ {vs : List V} {ds : List Dv} {ns : List Int}, Reps K μ H vs ds → intsOf ds = some ns → vs = ns.map V.int
  | vs, [], ks, r, h => by cases r.un0; simp [intsOf] at h; subst h; rfl
  | vs, d :: ds, ks, r, h => by
    obtain ⟨v, ws, rfl, r1, r2⟩ := r.uncons
    cases r1 <;> simp only [intsOf] at h <;> first | cases h | skip
    rw [Option.map_eq_some_iff] at h
    obtain ⟨ns, e, rfl⟩ := h
    rw [intsOf_rep r2 e]; rfl
theorem blsOf_rep : ∀ {vs : List V} {ds : List Dv} {ns : List Bool}, Reps K μ H vs ds → blsOf ds = some ns → vs = ns.map V.bl
  | vs, [], ks, r, h => by cases r.un0; simp [blsOf] at h; subst h; rfl
  | vs, d :: ds, ks, r, h => by
    obtain ⟨v, ws, rfl, r1, r2⟩ := r.uncons
    cases r1 <;> simp only [blsOf] at h <;> first | cases h | skip
    rw [Option.map_eq_some_iff] at h
    obtain ⟨ns, e, rfl⟩ := h
    rw [blsOf_rep r2 e]; rfl
theorem strsOf_rep : ∀ {vs : List V} {ds : List Dv} {ns : List Str}, Reps K μ H vs ds → strsOf ds = some ns → vs = ns.map V.str
  | vs, [], ks, r, h => by cases r.un0; simp [strsOf] at h; subst h; rfl
  | vs, d :: ds, ks, r, h => by
    obtain ⟨v, ws, rfl, r1, r2⟩ := r.uncons
    cases r1 <;> simp only [strsOf] at h <;> first | cases h | skip
    rw [Option.map_eq_some_iff] at h
    obtain ⟨ns, e, rfl⟩ := h
    rw [strsOf_rep r2 e]; rfl
theorem seq_rep {v : V} {d : Dv} {ds : List Dv} (hS : SimS K μ S H) (r : Rep K μ H v d) (e : seqOf S d = some ds) : ∃ a vs, v = .ref a ∧ (SqL K H a vs ∨ SqT K H a vs) ∧ Reps K μ H vs ds := by
  unfold seqOf at e
  split at e
  · rename_i xs e1
    cases e
    obtain ⟨a, vs, h1, h2, h3⟩ := r.sqT e1
    exact ⟨a, vs, h1, .inr h2, h3⟩
  · obtain ⟨a, vs, h1, h2, h3⟩ := r.sqL hS e
    exact ⟨a, vs, h1, .inl h2, h3⟩
theorem Reps.get1 {vs : List V} {d : Dv} (r : Reps K μ H vs [d]) : ∃ v, vs = [v] ∧ Rep K μ H v d := by
  obtain ⟨v, ws, rfl, r1, r2⟩ := r.uncons
  cases r2.un0
  exact ⟨v, rfl, r1⟩
theorem Reps.get2 {vs : List V} {d e : Dv} (r : Reps K μ H vs [d, e]) : ∃ v u, vs = [v, u] ∧ Rep K μ H v d ∧ Rep K μ H u e := by
  obtain ⟨v, ws, rfl, r1, r2⟩ := r.uncons
  obtain ⟨u, rfl, r3⟩ := r2.get1
  exact ⟨v, u, rfl, r1, r3⟩
theorem call_lenAll : CallR X (.builtin "len") (fun xs H Q => (∃ x n, xs = [x] ∧ LenV X.K x H n ∧ Q (.int n) H) ∨ ((∃ a kvs, xs = [V.ref a] ∧ H a = some (.dK kvs) ∧ Q (.int kvs.length) H) ∨ rLenT xs H Q)) := CallR.or call_len (CallR.or call_lenD call_len_dT)
theorem o_len : OpL K lenD (fun xs H Q => (∃ x n, xs = [x] ∧ LenV K x H n ∧ Q (.int n) H) ∨ ((∃ a kvs, xs = [V.ref a] ∧ H a = some (.dK kvs) ∧ Q (.int kvs.length) H) ∨ rLenT xs H Q)) := by
  intro mg Wx μ H S vs ds Q hS r h
  unfold lenD at h
  split at h
  · rename_i x
    obtain ⟨v, rfl, rv⟩ := r.get1
    cases rv
    split at h
    · rename_i hz; exact .inl ⟨_, _, rfl, ⟨hz, rfl⟩, h.ok hS (.int _)⟩
    · exact h.elim
  · rename_i d _
    obtain ⟨v, rfl, rv⟩ := r.get1
    split at h
    · rename_i xs e
      obtain ⟨a, vs, rfl, hq, rr⟩ := seq_rep hS rv e
      refine .inl ⟨_, vs.length, rfl, ?_, by rw [rr.1]; exact h.ok hS (.int _)⟩
      exact hq.imp (fun q => ⟨vs, q, rfl⟩) fun q => ⟨vs, q, rfl⟩
    · split at h
      · cases rv with
        | ref hl =>
          split at h
          · rename_i kvs e
            obtain ⟨ws, e1, e2, e3⟩ := hS.at' e hl
            have e4 : ws.length = kvs.length := by have := congrArg List.length e2; simpa using this
            exact .inr (.inl ⟨_, ws, rfl, e1, by rw [e4]; exact h.ok hS (.int _)⟩)
          · rename_i kvs e
            obtain ⟨ws, e1, e2, e3⟩ := hS.at' e hl
            have e4 : ws.length = kvs.length := by have := congrArg List.length e2; simpa using this
            exact .inr (.inr ⟨_, ws, rfl, e1, by rw [e4]; exact h.ok hS (.int _)⟩)
          · exact h.elim
      · exact h.elim
  · exact h.elim
abbrev rListAll (K : PySem.W.Frag) : List V → Hp → VK → Prop := fun xs H Q => (∃ p ys, xs = [.ref p] ∧ (SqL K H p ys ∨ SqT K H p ys) ∧ ∀ l, H l = none → Q (.ref l) (upd H l (.lst ys))) ∨ rListD xs H Q
theorem call_listAll (hc : X.calm = true) : CallR X (.type "list") (rListAll X.K) := CallR.or call_list_of (call_list_dK hc)
theorem rep_kV {μ : List Addr} {H : Hp} (k : L2.Key) : Rep K μ H (kV k) (kD k) := by
  cases k with
  | inl i => exact .int i
  | inr x => exact .str x
theorem reps_keys {μ : List Addr} {H : Hp} : ∀ {ws : List (L2.Key × V)} {kvs : List (L2.Key × Dv)}, ws.map (·.1) = kvs.map (·.1) → Reps K μ H (ws.map fun kv => kV kv.1) (kvs.map fun kv => kD kv.1)
  | [], [], _ => .nil
  | p :: ws, q :: kvs, h => by
    simp only [List.map_cons, List.cons.injEq] at h
    simp only [List.map_cons]
    rw [h.1]
    exact (reps_keys h.2).cons (rep_kV _)
  | [], _ :: _, h => by simp at h
  | _ :: _, [], h => by simp at h
theorem o_list : OpL K listD (rListAll K) := by
  intro mg Wx μ H S vs ds Q hS r h
  unfold listD at h
  split at h
  · rename_i d
    obtain ⟨v, rfl, rv⟩ := r.get1
    split at h
    · rename_i xs e
      obtain ⟨a, vs, rfl, hq, rr⟩ := seq_rep hS rv e
      exact .inl ⟨_, vs, rfl, hq, fun p n => h.lst hS n rr⟩
    · split at h
      · cases rv with
        | ref hl =>
          split at h
          · rename_i kvs e
            obtain ⟨ws, e1, e2, e3⟩ := hS.at' e hl
            exact .inr ⟨_, ws, rfl, e1, fun p n => h.lst hS n (reps_keys e2)⟩
          · exact h.elim
      · exact h.elim
  · exact h.elim
theorem o_tuple : OpL K tupleD (fun xs H Q => ∃ p ys, xs = [.ref p] ∧ ((SqL K H p ys ∧ ∀ l, H l = none → Q (.ref l) (upd H l (.tup ys))) ∨ (SqT K H p ys ∧ Q (.ref p) H))) := by
  intro mg Wx μ H S vs ds Q hS r h
  unfold tupleD at h
  split at h
  · obtain ⟨v, rfl, rv⟩ := r.get1
    cases rv with
    | tup t l q => exact ⟨_, _, rfl, .inr ⟨.of t.1, h.ok hS (.tup t l q)⟩⟩
  · obtain ⟨v, rfl, rv⟩ := r.get1
    cases rv with
    | kt t l q => exact ⟨_, _, rfl, .inr ⟨.inr t, h.ok hS (.kt t l q)⟩⟩
  · obtain ⟨v, rfl, rv⟩ := r.get1
    split at h
    · rename_i xs e
      obtain ⟨a, vs, rfl, hq, rr⟩ := rv.sqL hS e
      exact ⟨_, _, rfl, .inl ⟨hq, fun p n => h.tup hS n rr⟩⟩
    · exact h.elim
  · exact h.elim
abbrev rInt : List V → Hp → VK → Prop := fun xs H Q => ((∃ i, xs = [.int i] ∧ Q (.int i) H) ∨ ∃ k, xs = [.bl k] ∧ Q (.int (if k then 1 else 0)) H) ∨ (∃ a n, xs = [.str a] ∧ PySem.intText? a = some n ∧ a.length ≤ 640 ∧ Q (.int n) H)
theorem call_intAll : CallR X (.type "int") rInt := CallR.or call_int1 call_int_str
theorem o_int : OpL K intD rInt := by
  intro mg Wx μ H S vs ds Q hS r h
  unfold intD at h
  split at h
  · obtain ⟨v, rfl, rv⟩ := r.get1; cases rv; exact .inl (.inl ⟨_, rfl, h.ok hS (.int _)⟩)
  · obtain ⟨v, rfl, rv⟩ := r.get1; cases rv; exact .inl (.inr ⟨_, rfl, h.ok hS (.int _)⟩)
  · obtain ⟨v, rfl, rv⟩ := r.get1
    cases rv
    split at h
    · split at h
      · rename_i n e hz; exact .inr ⟨_, n, rfl, e, hz, h.ok hS (.int _)⟩
      · exact h.elim
    · exact h.elim
  · exact h.elim
theorem o_str : OpL K strD (fun xs H Q => ∃ i, xs = [.int i] ∧ i.natAbs.log2 < 1920 ∧ Q (.str (toString i)) H) := by
  intro mg Wx μ H S vs ds Q hS r h
  unfold strD at h
  split at h
  · obtain ⟨v, rfl, rv⟩ := r.get1
    cases rv
    split at h
    · rename_i hz; exact ⟨_, rfl, hz, h.ok hS (.str _)⟩
    · exact h.elim
  · exact h.elim
theorem o_abs : OpL K absD (fun xs H Q => ∃ i, xs = [.int i] ∧ Q (.int (if i < 0 then -i else i)) H) := by
  intro mg Wx μ H S vs ds Q hS r h
  unfold absD at h
  split at h
  · obtain ⟨v, rfl, rv⟩ := r.get1; cases rv; exact ⟨_, rfl, h.ok hS (.int _)⟩
  · exact h.elim
theorem o_max2 : OpL K max2D (fun xs H Q => ∃ i j, xs = [.int i, .int j] ∧ Q (.int (if j > i then j else i)) H) := by
  intro mg Wx μ H S vs ds Q hS r h
  unfold max2D at h
  split at h
  · rename_i i j
    obtain ⟨v, u, rfl, rv, ru⟩ := r.get2; cases rv; cases ru
    refine ⟨_, _, rfl, ?_⟩
    have e : max i j = if j > i then j else i := by split <;> omega
    rw [e] at h
    exact h.ok hS (.int _)
  · exact h.elim
theorem o_min2 : OpL K min2D (fun xs H Q => ∃ i j, xs = [.int i, .int j] ∧ Q (.int (if j < i then j else i)) H) := by
  intro mg Wx μ H S vs ds Q hS r h
  unfold min2D at h
  split at h
  · rename_i i j
    obtain ⟨v, u, rfl, rv, ru⟩ := r.get2; cases rv; cases ru
    refine ⟨_, _, rfl, ?_⟩
    have e : min i j = if j < i then j else i := by split <;> omega
    rw [e] at h
    exact h.ok hS (.int _)
  · exact h.elim
theorem foldmax_spec : ∀ (ns : List Int) (x : Int), (ns.foldl max x ∈ x :: ns) ∧ ∀ y ∈ x :: ns, y ≤ ns.foldl max x
  | [], x => by simp
  | y :: r, x => by
    obtain ⟨h1, h2⟩ := foldmax_spec r (max x y)
    have h3 := h2 (max x y) List.mem_cons_self
    rw [List.foldl_cons]
    refine ⟨?_, fun z hz => ?_⟩
    · rcases List.mem_cons.mp h1 with e | h1
      · rw [e]
        by_cases hxy : x ≤ y
        · rw [Int.max_eq_right hxy]; simp
        · rw [Int.max_eq_left (by omega)]; simp
      · exact List.mem_cons_of_mem _ (List.mem_cons_of_mem _ h1)
    · rcases List.mem_cons.mp hz with rfl | hz
      · omega
      · rcases List.mem_cons.mp hz with rfl | hz
        · omega
        · exact h2 z (List.mem_cons_of_mem _ hz)
theorem foldmin_spec : ∀ (ns : List Int) (x : Int), (ns.foldl min x ∈ x :: ns) ∧ ∀ y ∈ x :: ns, ns.foldl min x ≤ y
  | [], x => by simp
  | y :: r, x => by
    obtain ⟨h1, h2⟩ := foldmin_spec r (min x y)
    have h3 := h2 (min x y) List.mem_cons_self
    rw [List.foldl_cons]
    refine ⟨?_, fun z hz => ?_⟩
    · rcases List.mem_cons.mp h1 with e | h1
      · rw [e]
        by_cases hxy : x ≤ y
        · rw [Int.min_eq_left hxy]; simp
        · rw [Int.min_eq_right (by omega)]; simp
      · exact List.mem_cons_of_mem _ (List.mem_cons_of_mem _ h1)
    · rcases List.mem_cons.mp hz with rfl | hz
      · omega
      · rcases List.mem_cons.mp hz with rfl | hz
        · omega
        · exact h2 z (List.mem_cons_of_mem _ hz)
theorem maxI_spec (ns : List Int) (m : Int) (h : maxI ns = some m) : m ∈ ns ∧ ∀ y ∈ ns, y ≤ m := by
  cases ns with
  | nil => simp [maxI] at h
  | cons x r => simp only [maxI, Option.some.injEq] at h; subst h; exact foldmax_spec r x
theorem minI_spec (ns : List Int) (m : Int) (h : minI ns = some m) : m ∈ ns ∧ ∀ y ∈ ns, m ≤ y := by
  cases ns with
  | nil => simp [minI] at h
  | cons x r => simp only [minI, Option.some.injEq] at h; subst h; exact foldmin_spec r x
theorem o_max : OpL K maxD (rMax K) := by
  intro mg Wx μ H S vs ds Q hS r h
  unfold maxD at h
  split at h
  · obtain ⟨v, rfl, rv⟩ := r.get1
    split at h
    · rename_i ns e
      split at h
      · rename_i m em
        obtain ⟨es, e1, e2⟩ := Option.bind_eq_some_iff.mp e
        obtain ⟨a, us, rfl, hq, rr⟩ := rv.sqL hS e1
        cases intsOf_rep rr e2
        obtain ⟨h1, h2⟩ := maxI_spec ns m em
        refine ⟨a, ns, rfl, hq, List.length_pos_of_mem h1, fun m' hm' hle => ?_⟩
        have e3 : m = m' := Int.le_antisymm (hle _ h1) (h2 _ hm')
        subst e3
        exact h.ok hS (.int _)
      · exact h.elim
    · exact h.elim
  · exact h.elim
theorem o_min : OpL K minD (rMin K) := by
  intro mg Wx μ H S vs ds Q hS r h
  unfold minD at h
  split at h
  · obtain ⟨v, rfl, rv⟩ := r.get1
    split at h
    · rename_i ns e
      split at h
      · rename_i m em
        obtain ⟨es, e1, e2⟩ := Option.bind_eq_some_iff.mp e
        obtain ⟨a, us, rfl, hq, rr⟩ := rv.sqL hS e1
        cases intsOf_rep rr e2
        obtain ⟨h1, h2⟩ := minI_spec ns m em
        refine ⟨a, ns, rfl, hq, List.length_pos_of_mem h1, fun m' hm' hle => ?_⟩
        have e3 : m = m' := Int.le_antisymm (h2 _ hm') (hle _ h1)
        subst e3
        exact h.ok hS (.int _)
      · exact h.elim
    · exact h.elim
  · exact h.elim
theorem o_sum : OpL K sumD (rSum K) := by
  intro mg Wx μ H S vs ds Q hS r h
  unfold sumD at h
  split at h
  · obtain ⟨v, rfl, rv⟩ := r.get1
    split at h
    · rename_i ns e
      obtain ⟨es, e1, e2⟩ := Option.bind_eq_some_iff.mp e
      obtain ⟨a, us, rfl, hq, rr⟩ := rv.sqL hS e1
      cases intsOf_rep rr e2
      exact ⟨a, ns, rfl, hq, h.ok hS (.int _)⟩
    · exact h.elim
  · exact h.elim
theorem o_any : OpL K anyD (rAny K) := by
  intro mg Wx μ H S vs ds Q hS r h
  unfold anyD at h
  split at h
  · obtain ⟨v, rfl, rv⟩ := r.get1
    split at h
    · rename_i ns e
      obtain ⟨es, e1, e2⟩ := Option.bind_eq_some_iff.mp e
      obtain ⟨a, us, rfl, hq, rr⟩ := rv.sqL hS e1
      cases blsOf_rep rr e2
      exact ⟨a, ns, rfl, hq, h.ok hS (.bl _)⟩
    · exact h.elim
  · exact h.elim
end
end PL

namespace PL
open PySem PySem.Spec PyProof.Rows L2

/-! ### in -/
def flatD : Dv → Bool
  | .non => true
  | .bl _ => true
  | .int _ => true
  | .str _ => true
  | _ => false
def eqF : Dv → Dv → Bool
  | .non, .non => true
  | .bl a, .bl b => a == b
  | .bl a, .int b => (if a then 1 else 0) == b
  | .int a, .bl b => a == (if b then 1 else 0)
  | .int a, .int b => a == b
  | .str a, .str b => a == b
  | _, _ => false
def memq (S : Sto) (x y : Dv) : Option Bool := match y with
  | .str z => match x with
    | .str w => match w.cps.toList with
      | [c] => some (decide (c ∈ z.cps.toList))
      | _ => none
    | _ => none
  | _ => match tupOf y with
    | some ds => if flatD x = true ∧ ds.all flatD = true then some (ds.any fun d => eqF d x) else none
    | none => match lstOf S y with
      | some ds => match toP 40 S x, toPs 39 S ds with
        | some p, some qs => if SeqAt.shaped p = true ∧ SeqAt.shaped (.list qs) = true then some (qs.any fun z => PyData.eqv z p) else none
        | _, _ => none
      | none => match dget S y x with
        | some r => some r.isSome
        | none => none
def inD (x y : Dv) (S : Sto) : Out Dv := match memq S x y with
  | some b => .ok (.bl b) S
  | none => .no
def ninD (x y : Dv) (S : Sto) : Out Dv := match memq S x y with
  | some b => .ok (.bl (!b)) S
  | none => .no
abbrev rInAll (K : PySem.W.Frag) (g : Bool → Bool) : R2 := fun x y H Q =>
  (∃ (c : Nat) (z : Str), x = .str ⟨#[c]⟩ ∧ y = .str z ∧ Q (.bl (g (decide (c ∈ z.cps.toList)))) H) ∨
  ((∃ p xs, y = .ref p ∧ (SqL K H p xs ∨ SqT K H p xs) ∧ flatV x = true ∧ xs.all flatV = true ∧ Q (.bl (g (inV x xs))) H) ∨
  ((∃ d ds, Dp K H x d ∧ Dp K H y (.list ds) ∧ SeqAt.shaped d = true ∧ SeqAt.shaped (.list ds) = true ∧ Q (.bl (g (ds.any fun z => PyData.eqv z d))) H) ∨
  ∃ a o, y = .ref a ∧ DGet H a x o ∧ Q (.bl (g o.isSome)) H))
section
variable {X : Cx} {K : PySem.W.Frag} {μ : List Addr} {H : Hp} {S : Sto}
theorem op_inAll (hu : X.A.units + 65 < cLine) : OpR X (compareOp .In) (rInAll X.K id) :=
  OpR.or op_in_sign (OpR.or op_in_seq (OpR.or (op_inD hu) fun pins s σ H x y v u Q I rx ry ⟨a, o, ey, g, q⟩ => by
    subst ey
    obtain rfl : u = Value.ref a := ry
    exact d_in (by omega) I g rx fun s3 I3 => ⟨.bl o.isSome, H, I3, rfl, q⟩))
theorem op_ninAll (hu : X.A.units + 65 < cLine) : OpR X (compareOp .NotIn) (rInAll X.K not) :=
  OpR.or op_notIn_sign (OpR.or op_notIn_seq (OpR.or (op_notInD hu) fun pins s σ H x y v u Q I rx ry ⟨a, o, ey, g, q⟩ => by
    subst ey
    obtain rfl : u = Value.ref a := ry
    exact d_notIn (by omega) I g rx fun s3 I3 => ⟨.bl (!o.isSome), H, I3, rfl, q⟩))
theorem flat_rep {v : V} {d : Dv} (r : Rep K μ H v d) (f : flatD d = true) : flatV v = true := by
  cases r <;> first | rfl | simp [flatD] at f
theorem eqF_rep {v u : V} {d e : Dv} (r : Rep K μ H v d) (q : Rep K μ H u e) (f : flatD d = true) (g : flatD e = true) : eqV v u = eqF d e := by
  cases r <;> cases q <;> first | rfl | simp [flatD] at f | simp [flatD] at g
theorem anyF_rep {x : V} {d : Dv} (r : Rep K μ H x d) (f : flatD d = true) : ∀ {vs : List V} {ds : List Dv}, Reps K μ H vs ds → ds.all flatD = true → vs.all flatV = true ∧ inV x vs = ds.any fun e => eqF e d
  | vs, [], rr, _ => by cases rr.un0; exact ⟨rfl, rfl⟩
  | vs, e :: ds, rr, h => by
    obtain ⟨v, ws, rfl, r1, r2⟩ := rr.uncons
    rw [List.all_cons, Bool.and_eq_true] at h
    obtain ⟨h1, h2⟩ := anyF_rep r f r2 h.2
    refine ⟨by rw [List.all_cons, h1, flat_rep r1 h.1]; rfl, ?_⟩
    rw [List.any_cons, ← h2, ← eqF_rep r1 r h.1 f]
    rfl
theorem o_mem {g : Bool → Bool} {mg : Str → Option Value} {Wx : Value → Option Addr → Hp → Prop} {x y : V} {d e : Dv} {Q : VK} (hS : SimS K μ S H) (rx : Rep K μ H x d) (ry : Rep K μ H y e)
    (h : Met (Rep K) K mg Wx μ H (match memq S d e with | some b => .ok (.bl (g b)) S | none => .no) Q) : rInAll K g x y H Q := by
  split at h
  · rename_i b hb
    unfold memq at hb
    split at hb
    · cases ry
      split at hb
      · cases rx
        split at hb
        · rename_i w _ c e
          cases hb
          have ew : w = ⟨#[c]⟩ := by
            obtain ⟨w⟩ := w
            simp only [Str.mk.injEq]
            apply Array.toList_inj.mp
            rw [e]
          exact .inl ⟨c, _, by rw [ew], rfl, h.ok hS (.bl _)⟩
        · cases hb
      · cases hb
    · split at hb
      · rename_i ds e1
        split at hb
        · rename_i hf
          cases hb
          obtain ⟨a, vs, rfl, hq, rr⟩ := ry.sqT e1
          obtain ⟨h1, h2⟩ := anyF_rep rx hf.1 rr hf.2
          rw [← h2] at h
          exact .inr (.inl ⟨a, vs, rfl, .inr hq, flat_rep rx hf.1, h1, h.ok hS (.bl _)⟩)
        · cases hb
      · split at hb
        · rename_i ds e1
          split at hb
          · rename_i p qs e2 e3
            split at hb
            · rename_i hs
              cases hb
              obtain ⟨a, vs, rfl, hq, rr⟩ := ry.sqL hS e1
              exact .inr (.inr (.inl ⟨p, qs, dp_of hS 40 _ _ _ rx e2, .lst hq (dps_of hS 39 _ _ _ rr e3), hs.1, hs.2, h.ok hS (.bl _)⟩))
            · cases hb
          · cases hb
        · split at hb
          · rename_i r e1
            cases hb
            obtain ⟨a, u, ex, gg, hh⟩ := dget_rep hS ry rx e1
            refine .inr (.inr (.inr ⟨a, u, ex, gg, ?_⟩))
            rcases hh with ⟨rfl, rfl⟩ | ⟨d', v, rfl, rfl, _⟩ <;> exact h.ok hS (.bl _)
          · cases hb
  · exact h.elim
theorem o_in : Op2 K inD (rInAll K id) := fun mg Wx μ H S x y d e Q hS rx ry h => o_mem (g := id) hS rx ry h
theorem o_nin : Op2 K ninD (rInAll K not) := fun mg Wx μ H S x y d e Q hS rx ry h => o_mem (g := not) hS rx ry h
end

/-! ### isinstance -/
def tyN (S : Sto) : Dv → Option String
  | .non => some "NoneType"
  | .bl _ => some "bool"
  | .int _ => some "int"
  | .str _ => some "str"
  | .tup _ => some "tuple"
  | .kt _ => some "tuple"
  | .fl _ => some "list"
  | .ref l => match S[l]? with
    | some (.lst _) => some "list"
    | some (.dk _) => some "dict"
    | some (.dt _) => some "dict"
    | _ => none
def isiB (a b : String) : Option Bool :=
  if a ∈ ["NoneType", "bool", "int", "str", "tuple", "list", "dict"] ∧ b ∈ ["bool", "int", "str", "tuple", "list", "dict"] then some (a == b || (a == "bool" && b == "int")) else none
theorem kit_all : ∀ a ∈ ["NoneType", "bool", "int", "str", "tuple", "list", "dict"], ∀ b ∈ ["bool", "int", "str", "tuple", "list", "dict"], kitB a b = some (a == b || (a == "bool" && b == "int")) := by decide +kernel
def isiD (T : String) (d : Dv) (S : Sto) : Out Dv := match (tyN S d).bind fun a => isiB a T with
  | some b => .ok (.bl b) S
  | none => .no
section
variable {X : Cx} {K : PySem.W.Frag} {W : WX} {e : Expr} {ra : RE} {pos p p2 : Pos}
theorem tyN_rep {μ : List Addr} {H : Hp} {S : Sto} {v : V} {d : Dv} {a : String} (hS : SimS K μ S H) (r : Rep K μ H v d) (h : tyN S d = some a) : TyX K H v (.type a) := by
  cases r with
  | non => cases h; exact .base .non
  | bl b => cases h; exact .base (.bl b)
  | int b => cases h; exact .base (.int b)
  | str b => cases h; exact .base (.str b)
  | tup t l q => cases h; exact .base (.tup t.1)
  | kt t l q => cases h; obtain ⟨o, its, n, e1, e2, _⟩ := t; exact .kTuple e1 e2
  | fl t l q =>
    cases h
    rcases t with ⟨⟨o, t⟩, _⟩ | ⟨o, its, n, e1, e2, _⟩
    · exact .base (.frz t)
    · exact .kList e1 e2
  | ref hl =>
    simp only [tyN] at h
    split at h
    · rename_i ds e; cases h; obtain ⟨ws, e1, _⟩ := hS.at' e hl; exact .base (.lst e1)
    · rename_i ds e; cases h; obtain ⟨ws, e1, _⟩ := hS.at' e hl; exact .base (.dK e1)
    · rename_i ds e; cases h; obtain ⟨ws, e1, _⟩ := hS.at' e hl; exact .base (.dT e1)
    · cases h
theorem se_isi {T : String} {t : Str} (hg : Gl X "isinstance") (hm : X.mg "isinstance" = none) (hgt : Gl X t) (hmt : X.mg t = none) (hbt : bootBuiltins t = some (.type T)) (he : SE X W e ra)
    (hn : t ≠ "__name__" := by decide) (hd : (t == ("__debug__" : Str)) = false := by decide)
    (hs1 : starEach [e, .Name t p2] X.env = (false, eval e X.env) :: starEach [.Name t p2] X.env := by rfl) (hs2 : starEach [.Name t p2] X.env = (false, eval (.Name t p2) X.env) :: starEach [] X.env := by rfl) (hpl : (backTo pos (starEach [.Name t p2] X.env)).any (·.1) = false := by rfl) :
    SE X W (.Call (.Name "isinstance" p) [e, .Name t p2] [] pos) (eUn (isiD T) ra) :=
  PE.imp (pe_callB call_isi hg hm (by decide +kernel) (pa_cons he (pa_cons (pe_bltn (v := .ty T) hgt hmt hbt rfl hn hd) pa_nil hs2) hs1) (by decide) (by decide) hs1 hpl) fun σ H Q ⟨μ, ρ, S, hS, hE, h⟩ =>
    (bnd hS hE h).mono fun v H1 ⟨μ1, S1, d, hS1, hE1, s1, rv, h1⟩ => by
      unfold isiD at h1
      split at h1
      · rename_i b hb
        obtain ⟨a, e1, e2⟩ := Option.bind_eq_some_iff.mp hb
        refine ⟨v, .ty T, .type a, .type T, b, rfl, .ty T, tyN_rep hS1 rv e1, kit_ty ?_, h1.ok hS1 (.bl _)⟩
        unfold isiB at e2
        split at e2
        · rename_i hm; rw [← e2]; exact kit_all a hm.1 T hm.2
        · cases e2
      · exact h1.elim
/-! ### chains, signs -/
def eChain (f g : Dv → Dv → Sto → Out Dv) (a b c : RE) : RE := fun ρ S => (a ρ S).bind fun x S1 => (b ρ S1).bind fun y S2 => (f x y S2).bind fun z S3 => match z with
  | .bl true => (c ρ S3).bind fun w S4 => g y w S4
  | .bl false => .ok (.bl false) S3
  | _ => .no
theorem bnd3 {rf rg : R2} {f g : Dv → Dv → Sto → Out Dv} {rb rc : RE} (hf : Op2 X.K f rf) (hg : Op2 X.K g rg) {σ : L2.St} {H : Hp} {Q : VK} (h : tG (Rep X.K) X.K X.mg W (eChain f g ra rb rc) σ H Q) :
    tChain rf rg (tG (Rep X.K) X.K X.mg W ra) (tG (Rep X.K) X.K X.mg W rb) (tG (Rep X.K) X.K X.mg W rc) σ H Q := by
  obtain ⟨μ, ρ, S, hS, hE, h⟩ := h
  refine (bnd hS hE h).mono fun x H1 ⟨μ1, S1, d, hS1, hE1, s1, rx, h1⟩ => ?_
  refine (bnd hS1 hE1 h1).mono fun y H2 ⟨μ2, S2, d2, hS2, hE2, s2, ry, h2⟩ => ?_
  obtain ⟨μ3, ρ3, S3, hS3, hE3, h3⟩ := bnd (r := fun ρ S => f d d2 S) (R1 := Rep X.K) hS2 hE2 h2
  refine hf X.mg (W.at σ) μ2 H2 S2 x y d d2 _ hS2 (rx.step s2) ry ?_
  cases q : f d d2 S2 with
  | no => rw [q] at h2; exact h2.elim
  | ex x S => rw [q] at h2; exact h2
  | ok z S3 =>
    rw [q] at h2
    intro μ3 H3 zv hS3 s3 rz
    have h3 := Met.step s3 h2
    simp only [Out.bind_ok] at h3
    cases rz <;> first | exact h3.elim | skip
    rename_i k
    refine ⟨k, rfl, ?_⟩
    cases k with
    | false => exact Met.ok (RP := Rep X.K) h3 hS3 (.bl _)
    | true =>
      have hE3 := (hE2.step s3)
      exact (bnd hS3 hE3 h3).mono fun w H4 ⟨μ4, S4, d4, hS4, hE4, s4, rw4, h4⟩ => hg _ _ μ4 H4 S4 y w d2 d4 Q hS4 ((ry.step s3).step s4) rw4 h4
theorem se_chain {op op' : CmpOp} {rf rg : R2} {f g : Dv → Dv → Sto → Out Dv} {a b c : Expr} {rb rc : RE} (ho : OpR X (compareOp op) rf) (hf : Op2 X.K f rf) (ho' : OpR X (compareOp op') rg) (hg : Op2 X.K g rg) (ha : SE X W a ra) (hb : SE X W b rb) (hc : SE X W c rc)
    (hm : lastMarks [op, op'] [b, c] = false := by with_unfolding_all rfl) : SE X W (.Compare a [op, op'] [b, c] pos) (eChain f g ra rb rc) :=
  PE.imp (pe_chain ho ho' ha hb hc hm) fun _ _ _ h => bnd3 hf hg h
theorem st_chain {op op' : CmpOp} {rf rg : R2} {f g : Dv → Dv → Sto → Out Dv} {a b c : Expr} {rb rc : RE} (ho : OpR X (compareOp op) rf) (hf : Op2 X.K f rf) (ho' : OpR X (compareOp op') rg) (hg : Op2 X.K g rg) (ha : SE X W a ra) (hb : SE X W b rb) (hc : SE X W c rc)
    (hm : lastMarks [op, op'] [b, c] = false := by with_unfolding_all rfl) : ST X W (.Compare a [op, op'] [b, c] pos) (cBl (eChain f g ra rb rc)) :=
  PT.imp (pt_chain ho ho' ha hb hc hm) fun σ H Q ⟨μ, ρ, S, hS, hE, h⟩ => bnd3 hf hg ((bnd hS hE h).mono fun v H1 ⟨μ1, S1, d, hS1, hE1, s1, rv, h1⟩ => bTrue_met hS1 rv h1)
theorem se_neg (h : SE X W e ra) : SE X W (.UnaryOp .USub e pos) (eUn negD ra) :=
  PE.imp (pe_un un_neg h) fun σ H Q ⟨μ, ρ, S, hS, hE, h⟩ => (bnd hS hE h).mono fun v H1 ⟨μ1, S1, d, hS1, hE1, s1, rv, h1⟩ => by
    cases rv <;> first | exact h1.elim | exact ⟨_, rfl, Met.ok (RP := Rep X.K) h1 hS1 (.int _)⟩
end
end PL

namespace PL
open PySem PySem.Spec PyProof.Rows L2

/-! ### methods -/
def tyQ (T : String) (d : Dv) (S : Sto) : Bool := match d with
  | .str _ => T == "str"
  | .fl _ => T == "list"
  | .ref l => match S[l]? with
    | some (.lst _) => T == "list"
    | some (.dk _) => T == "dict"
    | some (.dt _) => T == "dict"
    | _ => false
  | _ => false
def eMeth (T : String) (f : Dv → List Dv → Sto → Out Dv) (o : RE) (a : RA) : RE := fun ρ S => (o ρ S).bind fun d S1 => if tyQ T d S1 = true then (a ρ S1).bind fun ds S2 => f d ds S2 else .no
def lmap (d : Dv) (S : Sto) (f : Nat → List Dv → Out Dv) : Out Dv := match d with
  | .ref l => match S[l]? with
    | some (.lst xs) => f l xs
    | _ => .no
  | _ => .no
def appendD (d : Dv) (ds : List Dv) (S : Sto) : Out Dv := match ds with
  | [y] => lmap d S fun l xs => if xs.length < sizeLine then .ok .non (S.set l (.lst (xs ++ [y]))) else .no
  | _ => .no
noncomputable def popD (d : Dv) (ds : List Dv) (S : Sto) : Out Dv := match ds with
  | [] => lmap d S fun l xs => match xs[xs.length - 1]? with
    | some y => .ok y (S.set l (.lst xs.dropLast))
    | none => .no
  | [.int i] => lmap d S fun l xs => @ite _ (-(2 ^ 63) ≤ i ∧ i < 2 ^ 63) (Classical.propDecidable _) (match seqIndex? i xs.length with
    | some k => match xs[k]? with
      | some y => .ok y (S.set l (.lst (xs.eraseIdx k)))
      | none => .no
    | none => .no) .no
  | _ => .no
def extendD (d : Dv) (ds : List Dv) (S : Sto) : Out Dv := match ds with
  | [e] => lmap d S fun l xs => match e with
    | .ref m => match S[m]? with
      | some (.lst zs) => if xs.length + zs.length ≤ sizeLine then .ok .non (S.set l (.lst (xs ++ zs))) else .no
      | _ => .no
    | _ => .no
  | _ => .no
def clearD (d : Dv) (ds : List Dv) (S : Sto) : Out Dv := match ds with
  | [] => lmap d S fun l _ => .ok .non (S.set l (.lst []))
  | _ => .no
noncomputable def insertD (d : Dv) (ds : List Dv) (S : Sto) : Out Dv := match ds with
  | [.int i, y] => lmap d S fun l xs => @ite _ (xs.length < sizeLine ∧ 0 ≤ i ∧ i < 2 ^ 63) (Classical.propDecidable _) (.ok .non (S.set l (.lst (xs.take i.toNat ++ [y] ++ xs.drop i.toNat)))) .no
  | _ => .no
def joinD (d : Dv) (ds : List Dv) (S : Sto) : Out Dv := match d, ds with
  | .str a, [e] => match (seqOf S e).bind strsOf with
    | some ys => if (ys.map (·.length)).sum + ys.length * a.length ≤ 16777216 then .ok (.str (Txt.join a ys)) S else .no
    | none => .no
  | _, _ => .no
def splitD (d : Dv) (ds : List Dv) (S : Sto) : Out Dv := match d, ds with
  | .str a, [.str b] => if (b.length == 0) = false ∧ a.length + 2 ≤ sizeLine then newL ((Txt.split a b).map .str) S else .no
  | _, _ => .no
def getD2 (d : Dv) (ds : List Dv) (S : Sto) : Out Dv := match ds with
  | [k, x] => match dget S d k with
    | some (some y) => .ok y S
    | some none => .ok x S
    | none => .no
  | _ => .no
section
variable {X : Cx} {K : PySem.W.Frag} {W : WX} {o e f : Expr} {es : List Expr} {ra rb rc : RE} {rs : RA} {apos cpos pos p : Pos}
theorem tyQ_rep {T : String} {μ : List Addr} {H : Hp} {S : Sto} {v : V} {d : Dv} (hS : SimS K μ S H) (r : Rep K μ H v d) (h : tyQ T d S = true) : tyV K T v H := by
  cases r with
  | str x => exact eq_of_beq h
  | fl t l q =>
    rcases t with ⟨⟨o, t⟩, _⟩ | t
    · exact .inl ⟨eq_of_beq h, _, .inl (.inr ⟨o, t⟩)⟩
    · exact .inl ⟨eq_of_beq h, _, .inr t⟩
  | ref hl =>
    simp only [tyQ] at h
    split at h
    · rename_i ds e; obtain ⟨ws, e1, _⟩ := hS.at' e hl; exact .inl ⟨eq_of_beq h, ws, .of e1⟩
    · rename_i ds e; obtain ⟨ws, e1, _⟩ := hS.at' e hl; exact .inr (.inr (.inl ⟨eq_of_beq h, .inl ⟨ws, e1⟩⟩))
    · rename_i ds e; obtain ⟨ws, e1, _⟩ := hS.at' e hl; exact .inr (.inr (.inl ⟨eq_of_beq h, .inr ⟨ws, e1⟩⟩))
    · cases h
  | _ => simp [tyQ] at h
theorem se_meth {T id : String} {name : Str} {g : Dv → List Dv → Sto → Out Dv} {r : V → List V → Hp → VK → Prop} (pa : PlainAttrs T) (slot : Slot T name id) (hty : typeOf (.builtin id) = pure (.type "method_descriptor")) (hm : MtR X id r) (hf : OpM X.K g r)
    (ho : SE X W o ra) (ha : SA X W (e :: es) rs) (hbase : attributeBase o name X.env (eval o X.env) = eval o X.env := by rfl)
    (hfew : ((backTo cpos (starEach (e :: es) X.env)).all (fun x => !x.1) && (backToKw cpos (keywordEach [] X.env)).all (fun x => x.1.isSome)
      && decide ((e :: es).length + ([] : List Keyword).length + (if ([] : List Keyword).isEmpty then 0 else 1) < 30)) = true := by rfl)
    (hline : (apos.endLine == cpos.line) = true := by rfl) (hs : starEach (e :: es) X.env = (false, eval e X.env) :: starEach es X.env := by rfl) (hplain : (backTo cpos (starEach es X.env)).any (·.1) = false := by rfl) :
    SE X W (.Call (.Attribute o name apos) (e :: es) [] cpos) (eMeth T g ra rs) :=
  PE.imp (pe_bm pa slot hty hm ho ha hbase hfew hline hs hplain) fun σ H Q ⟨μ, ρ, S, hS, hE, h⟩ => (bnd hS hE h).mono fun v H1 ⟨μ1, S1, d, hS1, hE1, s1, rv, h1⟩ => by
    split at h1
    · rename_i hq
      exact ⟨tyQ_rep hS1 rv hq, (bnd (R1 := Reps X.K) hS1 hE1 h1).mono fun vs H2 ⟨μ2, S2, ds, hS2, hE2, s2, rvs, h2⟩ => hf _ _ μ2 H2 S2 v vs d ds Q hS2 (rv.step s2) rvs h2⟩
    · exact h1.elim
theorem se_meth0 {T id : String} {name : Str} {g : Dv → List Dv → Sto → Out Dv} {r : V → List V → Hp → VK → Prop} (pa : PlainAttrs T) (slot : Slot T name id) (hty : typeOf (.builtin id) = pure (.type "method_descriptor")) (hm : MtR X id r) (hf : OpM X.K g r)
    (ho : SE X W o ra) (hbase : attributeBase o name X.env (eval o X.env) = eval o X.env := by rfl) (hline : (apos.endLine == cpos.line) = true := by rfl) :
    SE X W (.Call (.Attribute o name apos) [] [] cpos) (eMeth T g ra aNil) :=
  PE.imp (pe_bm0 pa slot hty hm ho hbase hline) fun σ H Q ⟨μ, ρ, S, hS, hE, h⟩ => (bnd hS hE h).mono fun v H1 ⟨μ1, S1, d, hS1, hE1, s1, rv, h1⟩ => by
    split at h1
    · rename_i hq
      exact ⟨tyQ_rep hS1 rv hq, hf _ _ μ1 H1 S1 v [] d [] Q hS1 rv .nil h1⟩
    · exact h1.elim
theorem lmap_met {mg : Str → Option Value} {Wx : Value → Option Addr → Hp → Prop} {μ : List Addr} {H : Hp} {S : Sto} {x : V} {d : Dv} {Q : VK} {g : Nat → List Dv → Out Dv} (hS : SimS K μ S H) (r : Rep K μ H x d) (h : Met (Rep K) K mg Wx μ H (lmap d S g) Q) :
    ∃ l a xs vs, x = .ref a ∧ μ[l]? = some a ∧ S[l]? = some (.lst xs) ∧ H a = some (.lst vs) ∧ Reps K μ H vs xs ∧ Met (Rep K) K mg Wx μ H (g l xs) Q := by
  unfold lmap at h
  split at h
  · rename_i l
    cases r with
    | ref hl =>
      split at h
      · rename_i xs e
        obtain ⟨vs, e1, rr⟩ := hS.at' e hl
        exact ⟨l, _, xs, vs, rfl, hl, e, e1, rr, h⟩
      · exact h.elim
  · exact h.elim
theorem putL {mg : Str → Option Value} {Wx : Value → Option Addr → Hp → Prop} {μ : List Addr} {H : Hp} {S : Sto} {l : Nat} {a : Addr} {d : Dv} {v : V} {ys : List Dv} {ws : List V} {Q : VK} (h : Met (Rep K) K mg Wx μ H (.ok d (S.set l (.lst ys))) Q) (hS : SimS K μ S H) (hl : μ[l]? = some a)
    (r : Reps K μ H ws ys) (rv : Rep K μ H v d) (nf : ∀ o u, H a ≠ some (.frz o u) := by refine nofrz_of (by assumption) ?_; rfl) : Q v (upd H a (.lst ws)) := h.put hS hl ⟨ws, upd_same, r.step (step_put hS hl _ nf)⟩ (rv.step (step_put hS hl _ nf)) nf
theorem o_append : OpM K appendD rAppend := by
  intro mg Wx μ H S x vs d ds Q hS rx rs h
  unfold appendD at h
  split at h
  · obtain ⟨y, rfl, ry⟩ := rs.get1
    obtain ⟨l, a, xs, us, rfl, hl, e, e1, rr, h⟩ := lmap_met hS rx h
    split at h
    · rename_i hz
      exact ⟨a, us, y, rfl, rfl, e1, by rw [rr.1]; exact hz, putL h hS hl (rr.append (.one ry)) .non⟩
    · exact h.elim
  · exact h.elim
theorem Reps.dropLast {μ : List Addr} {H : Hp} {vs : List V} {ds : List Dv} (r : Reps K μ H vs ds) : Reps K μ H vs.dropLast ds.dropLast := by
  rw [List.dropLast_eq_take, List.dropLast_eq_take, r.1]
  exact r.take _
theorem Reps.erase {μ : List Addr} {H : Hp} {vs : List V} {ds : List Dv} (r : Reps K μ H vs ds) (k : Nat) : Reps K μ H (vs.eraseIdx k) (ds.eraseIdx k) := by
  rw [List.eraseIdx_eq_take_drop_succ, List.eraseIdx_eq_take_drop_succ]
  exact (r.take _).append (r.drop _)
theorem o_pop : OpM K popD (fun x vs H Q => rPop x vs H Q ∨ rPopAt x vs H Q) := by
  intro mg Wx μ H S x vs d ds Q hS rx rs h
  unfold popD at h
  split at h
  · cases rs.un0
    obtain ⟨l, a, xs, us, rfl, hl, e, e1, rr, h⟩ := lmap_met hS rx h
    split at h
    · rename_i y ey
      obtain ⟨v, ev, rv⟩ := rr.get ey
      exact .inl ⟨a, us, v, rfl, rfl, e1, by rw [rr.1]; exact ev, putL h hS hl rr.dropLast rv⟩
    · exact h.elim
  · obtain ⟨y, rfl, ry⟩ := rs.get1
    cases ry
    obtain ⟨l, a, xs, us, rfl, hl, e, e1, rr, h⟩ := lmap_met hS rx h
    split at h
    · rename_i hz
      split at h
      · rename_i k ek
        split at h
        · rename_i y ey
          obtain ⟨v, ev, rv⟩ := rr.get ey
          exact .inr ⟨a, us, _, k, v, rfl, rfl, e1, hz.1, hz.2, by rw [rr.1]; exact ek, ev, putL h hS hl (rr.erase k) rv⟩
        · exact h.elim
      · exact h.elim
    · exact h.elim
  · exact h.elim
theorem mt_popAll : MtR X "list.pop" (fun x vs H Q => rPop x vs H Q ∨ rPopAt x vs H Q) := MtR.or mt_pop mt_popAt
theorem o_extend : OpM K extendD rExtend := by
  intro mg Wx μ H S x vs d ds Q hS rx rs h
  unfold extendD at h
  split at h
  · obtain ⟨y, rfl, ry⟩ := rs.get1
    obtain ⟨l, a, xs, us, rfl, hl, e, e1, rr, h⟩ := lmap_met hS rx h
    split at h
    · cases ry with
      | ref hm =>
        split at h
        · rename_i zs e2
          obtain ⟨ws, e3, r3⟩ := hS.at' e2 hm
          split at h
          · rename_i hz
            exact ⟨a, _, us, ws, rfl, rfl, e1, e3, by rw [rr.1, r3.1]; exact hz, putL h hS hl (rr.append r3) .non⟩
          · exact h.elim
        · exact h.elim
    · exact h.elim
  · exact h.elim
theorem o_clear : OpM K clearD rClear := by
  intro mg Wx μ H S x vs d ds Q hS rx rs h
  unfold clearD at h
  split at h
  · cases rs.un0
    obtain ⟨l, a, xs, us, rfl, hl, e, e1, rr, h⟩ := lmap_met hS rx h
    exact ⟨a, us, rfl, rfl, e1, putL h hS hl .nil .non⟩
  · exact h.elim
theorem o_insert : OpM K insertD (fun x vs H Q => ∃ (l : Addr) (xs : List V) (i : Int) (y : V), x = .ref l ∧ vs = [.int i, y] ∧ H l = some (.lst xs) ∧ xs.length < sizeLine ∧ 0 ≤ i ∧ i < 2 ^ 63 ∧ Q .non (upd H l (.lst (xs.take i.toNat ++ [y] ++ xs.drop i.toNat)))) := by
  intro mg Wx μ H S x vs d ds Q hS rx rs h
  unfold insertD at h
  split at h
  · obtain ⟨i, y, rfl, ri, ry⟩ := rs.get2
    cases ri
    obtain ⟨l, a, xs, us, rfl, hl, e, e1, rr, h⟩ := lmap_met hS rx h
    split at h
    · rename_i hz
      exact ⟨a, us, _, y, rfl, rfl, e1, by rw [rr.1]; exact hz.1, hz.2.1, hz.2.2, putL h hS hl (((rr.take _).append (.one ry)).append (rr.drop _)) .non⟩
    · exact h.elim
  · exact h.elim
theorem reps_strs {μ : List Addr} {H : Hp} : ∀ ys : List Str, Reps K μ H (ys.map V.str) (ys.map Dv.str)
  | [] => .nil
  | y :: ys => (reps_strs ys).cons (.str y)
theorem o_join : OpM K joinD (fun x xs H Q => ∃ a p, ∃ ys : List Str, x = .str a ∧ xs = [.ref p] ∧ (SqL K H p (ys.map V.str) ∨ SqT K H p (ys.map V.str)) ∧ (ys.map (·.length)).sum + ys.length * a.length ≤ 16777216 ∧ Q (.str (Txt.join a ys)) H) := by
  intro mg Wx μ H S x vs d ds Q hS rx rs h
  unfold joinD at h
  split at h
  · cases rx
    obtain ⟨y, rfl, ry⟩ := rs.get1
    split at h
    · rename_i ys e
      obtain ⟨es, e1, e2⟩ := Option.bind_eq_some_iff.mp e
      obtain ⟨a, us, rfl, hq, rr⟩ := seq_rep hS ry e1
      cases strsOf_rep rr e2
      split at h
      · rename_i hz; exact ⟨_, a, ys, rfl, rfl, hq, hz, h.ok hS (.str _)⟩
      · exact h.elim
    · exact h.elim
  · exact h.elim
theorem o_split : OpM K splitD (fun x xs H Q => ∃ a b, x = .str a ∧ xs = [.str b] ∧ (b.length == 0) = false ∧ a.length + 2 ≤ sizeLine ∧ rNewStrs (Txt.split a b) H Q) := by
  intro mg Wx μ H S x vs d ds Q hS rx rs h
  unfold splitD at h
  split at h
  · cases rx
    obtain ⟨y, rfl, ry⟩ := rs.get1
    cases ry
    split at h
    · rename_i hz; exact ⟨_, _, rfl, rfl, hz.1, hz.2, fun p n => h.lst hS n (reps_strs _)⟩
    · exact h.elim
  · exact h.elim
/-- o.get(k, x) -/
def eGet2 (o k x : RE) : RE := fun ρ S => (o ρ S).bind fun d S1 => if tyQ "dict" d S1 = true then (k ρ S1).bind fun y S2 => (x ρ S2).bind fun z S3 => getD2 d [y, z] S3 else .no
theorem se_get2 (hu : X.A.units + 1 < cLine) (ho : SE X W o ra) (he : SE X W e rb) (hf : SE X W f rc) (m : M2 X o "get" apos e f cpos) : SE X W (.Call (.Attribute o "get" apos) [e, f] [] cpos) (eGet2 ra rb rc) :=
  PE.imp (pe_dget2 hu ho he hf m) fun σ H Q ⟨μ, ρ, S, hS, hE, h⟩ => (bnd hS hE h).mono fun v H1 ⟨μ1, S1, d, hS1, hE1, s1, rv, h1⟩ => by
    split at h1
    · rename_i hq
      have ty := tyQ_rep hS1 rv hq
      cases rv with
      | @ref l a hl =>
        refine ⟨a, rfl, ?_, ?_⟩
        · rcases ty with ⟨z, _⟩ | ⟨z, _⟩ | ⟨_, ⟨kvs, z⟩ | ⟨kvs, z⟩⟩ | ⟨z, _⟩
          · simp at z
          · simp at z
          · exact .inl ⟨kvs, .inl z⟩
          · exact .inr ⟨kvs, .inl z⟩
          · simp at z
        · refine (bnd hS1 hE1 h1).mono fun y H2 ⟨μ2, S2, d2, hS2, hE2, s2, ry, h2⟩ => ?_
          refine (bnd hS2 hE2 h2).mono fun z H3 ⟨μ3, S3, d3, hS3, hE3, s3, rz, h3⟩ => ?_
          unfold getD2 at h3
          simp only at h3
          have rl : Rep X.K μ3 H3 (.ref a) (.ref l) := (Rep.ref hl).step (s2.trans s3)
          split at h3
          · rename_i y' e1
            obtain ⟨a', u, ex, g, hh⟩ := dget_rep hS3 rl (ry.step s3) e1
            cases ex
            rcases hh with ⟨w, _⟩ | ⟨d', v', e2, e3, r⟩
            · cases w
            · cases e2; subst e3; exact ⟨_, g, h3.ok hS3 r⟩
          · rename_i e1
            obtain ⟨a', u, ex, g, hh⟩ := dget_rep hS3 rl (ry.step s3) e1
            cases ex
            rcases hh with ⟨_, w⟩ | ⟨d', v', e2, e3, r⟩
            · subst w; exact ⟨_, g, h3.ok hS3 rz⟩
            · cases e2
          · exact h3.elim
      | str x => simp [tyQ] at hq
      | fl t l q => simp [tyQ] at hq
      | _ => simp [tyQ] at hq
    · exact h1.elim
/-! ### dicts made -/
def eNewK : RE := fun _ S => .ok (.ref S.length) (S ++ [.dk []])
def eNewT : RE := fun _ S => .ok (.ref S.length) (S ++ [.dt []])
theorem se_newK : SE X W (.Dict [] [] pos) eNewK := PE.imp pe_dnewK fun σ H Q ⟨μ, ρ, S, hS, hE, h⟩ p n => Met.new (o := .dk []) h hS n ⟨[], upd_same, rfl, .nil⟩
theorem se_newT : SE X W (.Dict [] [] pos) eNewT := PE.imp pe_dnewT fun σ H Q ⟨μ, ρ, S, hS, hE, h⟩ p n => Met.new (o := .dt []) h hS n ⟨[], upd_same, rfl, .nil⟩
/-! ### own defs -/
def spD (K : PySem.W.Frag) (mg : Str → Option Value) (F : List Dv → Sto → Out Dv) (n : Nat) : Sp := fun vs H Q E => ∃ μ S ds, ds.length = n ∧ SimS K μ S H ∧ Reps K μ H vs ds ∧ Met (Rep K) K mg E μ H (F ds S) Q
def eOwn (n : Nat) (F : List Dv → Sto → Out Dv) (a : RA) : RE := fun ρ S => (a ρ S).bind fun ds S1 => if ds.length = n then F ds S1 else .no
theorem se_own {CX : CXT} {k n : Nat} {fa : Addr} {fd : FuncData} {ps : List Str} {x : Str} {F : List Dv → Sto → Out Dv} (G : FnOk X.prog X.w X.K X.mg X.base CX k fa fd ps (spD X.K X.mg F n)) (hr : Room k X.A) (hg : Gl X x) (hm : X.mg x = some (.ref fa)) (hk : PySem.W.keepIn X.K (.ref fa) = true)
    (hb : Binds X.K fd ps []) (hx : ∀ σ, PassesAt CX X σ (W.at σ)) (ha : SA X W (e :: es) rs) (hdb : (x == ("__debug__" : Str)) = false := by decide) (he : starEach (e :: es) X.env = (false, eval e X.env) :: starEach es X.env := by rfl) (hpl : (backTo pos (starEach es X.env)).any (·.1) = false := by rfl) :
    SE X W (.Call (.Name x p) (e :: es) [] pos) (eOwn n F rs) :=
  PE.imp (pe_callSD (E := fun σ => W.at σ) G hr hg hm hk hb .nil hx ha hdb he hpl) fun σ H Q ⟨μ, ρ, S, hS, hE, h⟩ => (bnd (R1 := Reps X.K) hS hE h).mono fun vs H1 ⟨μ1, S1, ds, hS1, hE1, s1, rv, h1⟩ => by
    split at h1
    · rename_i hn
      rw [List.append_nil]
      exact ⟨μ1, S1, ds, hn, hS1, rv, h1⟩
    · exact h1.elim
theorem se_own0 {CX : CXT} {k : Nat} {fa : Addr} {fd : FuncData} {ps : List Str} {x : Str} {F : List Dv → Sto → Out Dv} (G : FnOk X.prog X.w X.K X.mg X.base CX k fa fd ps (spD X.K X.mg F 0)) (hr : Room k X.A) (hg : Gl X x) (hm : X.mg x = some (.ref fa)) (hk : PySem.W.keepIn X.K (.ref fa) = true)
    (hb : Binds X.K fd ps []) (hx : ∀ σ, PassesAt CX X σ (W.at σ)) (hdb : (x == ("__debug__" : Str)) = false := by decide) : SE X W (.Call (.Name x p) [] [] pos) (eOwn 0 F aNil) := by
  refine ⟨fun pins s σ H Q I ⟨μ, ρ, S, hS, hE, h⟩ => ?_⟩
  refine wpAny_Call_Name_kw (ld_glob I hg hm ?_ hdb)
  exact PySem.W.callWith_K0 I.kIn hk (run_fnSD (dvs := []) (ds := []) (E := fun σ => W.at σ) (us := []) G hr hb .nil (hx σ) I .nil ⟨μ, S, [], rfl, hS, .nil, h⟩)
end
end PL

namespace PL
open PySem PySem.Spec PyProof.Rows L2

/-! ### statements: outcomes -/
inductive Fl where
  | nx (ρ : Env) | rt (d : Dv) | bk (ρ : Env) | ct (ρ : Env)
inductive OutS where
  | fl (f : Fl) (S : Sto) | ex (x : Ex) (ρ : Env) (S : Sto) | no
abbrev RC := Env → Sto → OutS
def MetS (K : PySem.W.Frag) (mg : Str → Option Value) (W : WX) (μ : List Addr) (H : Hp) (o : OutS) (D : Ends) : Prop :=
  match o with
  | .fl (.nx ρ') S' => ∀ μ' σ' H', SimS K μ' S' H' → SimE K μ' H' ρ' σ' → Step μ H μ' H' → D.nx σ' H'
  | .fl (.rt d) S' => ∀ μ' v H', SimS K μ' S' H' → Step μ H μ' H' → Rep K μ' H' v d → D.rt v H'
  | .fl (.bk ρ') S' => ∀ μ' σ' H', SimS K μ' S' H' → SimE K μ' H' ρ' σ' → Step μ H μ' H' → D.bk σ' H'
  | .fl (.ct ρ') S' => ∀ μ' σ' H', SimS K μ' S' H' → SimE K μ' H' ρ' σ' → Step μ H μ' H' → D.ct σ' H'
  | .ex x ρ' S' => ∀ μ' σ' H' cls d, SimS K μ' S' H' → SimE K μ' H' ρ' σ' → Step μ H μ' H' → XRep K mg μ' H' x cls d → W cls d σ' H'
  | .no => False
def tS (K : PySem.W.Frag) (mg : Str → Option Value) (W : WX) (c : RC) : TS := fun D σ H => ∃ μ ρ S, SimS K μ S H ∧ SimE K μ H ρ σ ∧ MetS K mg W μ H (c ρ S) D
abbrev SC (X : Cx) (W : WX) (st : Stmt) (c : RC) : Prop := PS X st (tS X.K X.mg W c)
abbrev SCs (X : Cx) (W : WX) (st : List Stmt) (c : RC) : Prop := PSs X st (tS X.K X.mg W c)
theorem PS.imp {X : Cx} {e : Stmt} {t t' : TS} (h : PS X e t) (i : ∀ D σ H, t' D σ H → t D σ H) : PS X e t' := ⟨fun pins s σ H D I w => h.run pins s σ H D I (i D σ H w)⟩
theorem PSs.imp {X : Cx} {e : List Stmt} {t t' : TS} (h : PSs X e t) (i : ∀ D σ H, t' D σ H → t D σ H) : PSs X e t' := ⟨fun pins s σ H D I w => h.run pins s σ H D I (i D σ H w)⟩
section
variable {K : PySem.W.Frag} {mg : Str → Option Value} {W : WX} {μ μ1 : List Addr} {H H1 : Hp} {ρ : Env} {σ : L2.St} {S : Sto} {D D' : Ends}
theorem MetS.step {o : OutS} (s : Step μ H μ1 H1) (h : MetS K mg W μ H o D) : MetS K mg W μ1 H1 o D := by
  cases o with
  | fl f S' =>
    cases f with
    | nx ρ' => exact fun μ' σ' H' a b c => h μ' σ' H' a b (s.trans c)
    | rt d => exact fun μ' σ' H' a b c => h μ' σ' H' a (s.trans b) c
    | bk ρ' => exact fun μ' σ' H' a b c => h μ' σ' H' a b (s.trans c)
    | ct ρ' => exact fun μ' σ' H' a b c => h μ' σ' H' a b (s.trans c)
  | ex x ρ' S' => exact fun μ' σ' H' cl dd a b c d => h μ' σ' H' cl dd a b (s.trans c) d
  | no => exact h
def bindS {α : Type} (o : Out α) (ρ : Env) (f : α → Sto → OutS) : OutS := match o with
  | .ok a S => f a S
  | .ex x S => .ex x ρ S
  | .no => .no
@[simp] theorem bindS_ok {α : Type} (a : α) (S : Sto) (ρ : Env) (f : α → Sto → OutS) : bindS (.ok a S) ρ f = f a S := rfl
@[simp] theorem bindS_ex {α : Type} (x : Ex) (S : Sto) (ρ : Env) (f : α → Sto → OutS) : bindS (.ex x S : Out α) ρ f = .ex x ρ S := rfl
@[simp] theorem bindS_no {α : Type} (ρ : Env) (f : α → Sto → OutS) : bindS (.no : Out α) ρ f = .no := rfl
theorem bndS {α β : Type} {R1 : List Addr → Hp → β → α → Prop} {r : Env → Sto → Out α} {f : α → Sto → OutS} (hS : SimS K μ S H) (hE : SimE K μ H ρ σ)
    (h : MetS K mg W μ H (bindS (r ρ S) ρ f) D) : tG R1 K mg W r σ H (fun v H1 => ∃ μ1 S1 d, SimS K μ1 S1 H1 ∧ SimE K μ1 H1 ρ σ ∧ Step μ H μ1 H1 ∧ R1 μ1 H1 v d ∧ MetS K mg W μ1 H1 (f d S1) D) := by
  refine ⟨μ, ρ, S, hS, hE, ?_⟩
  cases q : r ρ S with
  | ok d S1 =>
    rw [q] at h
    exact fun μ1 H1 v a b c => ⟨μ1, S1, d, a, hE.step b, b, c, h.step b⟩
  | ex x S1 =>
    rw [q] at h
    exact fun μ1 H1 cl dd a b c => h μ1 σ H1 cl dd a (hE.step b) b c
  | no => rw [q] at h; exact h
end

/-! ### statements -/
def cNil : RC := fun ρ S => .fl (.nx ρ) S
def cSeq (a b : RC) : RC := fun ρ S => match a ρ S with
  | .fl (.nx ρ') S' => b ρ' S'
  | o => o
def cExpr (e : RE) : RC := fun ρ S => bindS (e ρ S) ρ fun _ S1 => .fl (.nx ρ) S1
def cSet (i : Nat) (e : RE) : RC := fun ρ S => bindS (e ρ S) ρ fun d S1 => .fl (.nx (ρ.set i (some d))) S1
def cRet (e : RE) : RC := fun ρ S => bindS (e ρ S) ρ fun d S1 => .fl (.rt d) S1
def cRetN : RC := fun ρ S => .fl (.rt .non) S
def cIf (t : RT) (a b : RC) : RC := fun ρ S => bindS (t ρ S) ρ fun c S1 => if c = true then a ρ S1 else b ρ S1
def cBrk : RC := fun ρ S => .fl (.bk ρ) S
def cCt : RC := fun ρ S => .fl (.ct ρ) S
def cNo : RC := fun _ _ => .no
inductive Tg where
  | nm (i : Nat) | tp (ts : List Tg)
mutual
def Tg.set : Tg → Dv → Env → Option Env
  | .nm i, d, ρ => some (ρ.set i (some d))
  | .tp ts, d, ρ => match tupOf d with
    | some ds => Tg.sets ts ds ρ
    | none => none
def Tg.sets : List Tg → List Dv → Env → Option Env
  | [], [], ρ => some ρ
  | t :: ts, d :: ds, ρ => match t.set d ρ with
    | some ρ' => Tg.sets ts ds ρ'
    | none => none
  | _, _, _ => none
def Tg.slots : Tg → List Nat
  | .nm i => [i]
  | .tp ts => Tg.slotss ts
def Tg.slotss : List Tg → List Nat
  | [] => []
  | t :: ts => t.slots ++ Tg.slotss ts
end
def cAsg (t : Tg) (e : RE) : RC := fun ρ S => bindS (e ρ S) ρ fun d S1 => match t.set d ρ with
  | some ρ' => .fl (.nx ρ') S1
  | none => .no
/-- o[k] = d -/
def putD (o k d : Dv) (S : Sto) : Option Sto := match o, k with
  | .ref l, .int i => match S[l]? with
    | some (.lst xs) => match ixN xs.length i with
      | some j => some (S.set l (.lst (xs.set j d)))
      | none => none
    | _ => dput S o k d
  | _, _ => dput S o k d
def cPut (o k v : RE) : RC := fun ρ S => bindS (v ρ S) ρ fun d S1 => bindS (o ρ S1) ρ fun x S2 => bindS (k ρ S2) ρ fun y S3 => match putD x y d S3 with
  | some S4 => .fl (.nx ρ) S4
  | none => .no
def cAug (i : Nat) (f : Dv → Dv → Sto → Out Dv) (e : RE) : RC := fun ρ S => bindS (eBin f (eVar i) e ρ S) ρ fun d S1 => .fl (.nx (ρ.set i (some d))) S1

section
variable {X : Cx} {W : WX} {e o k v : Expr} {re ro rk rv : RE} {rt : RT} {st : Stmt} {sts : List Stmt} {a b : RC} {pos pos' : Pos}
theorem scs_nil : SCs X W [] cNil := PSs.imp pss_nil fun D σ H ⟨μ, ρ, S, hS, hE, h⟩ => h μ σ H hS hE (.refl μ H)
theorem scs_cons (h : SC X W st a) (t : SCs X W sts b) : SCs X W (st :: sts) (cSeq a b) :=
  PSs.imp (pss_cons h t) fun D σ H ⟨μ, ρ, S, hS, hE, h⟩ => ⟨μ, ρ, S, hS, hE, by
    unfold cSeq at h
    cases q : a ρ S with
    | fl f S1 =>
      rw [q] at h
      cases f with
      | nx ρ1 => exact fun μ' σ' H' x y z => ⟨μ', ρ1, S1, x, y, h.step z⟩
      | rt d => exact h
      | bk ρ1 => exact h
      | ct ρ1 => exact h
    | ex x ρ1 S1 => rw [q] at h; exact h
    | no => rw [q] at h; exact h⟩
theorem scs_one (h : SC X W st a) : SCs X W [st] a := pss_one h
theorem sc_pass : SC X W (.Pass pos) cNil := PS.imp ps_pass fun D σ H ⟨μ, ρ, S, hS, hE, h⟩ => h μ σ H hS hE (.refl μ H)
theorem sc_break : SC X W (.Break pos) cBrk := PS.imp ps_break fun D σ H ⟨μ, ρ, S, hS, hE, h⟩ => h μ σ H hS hE (.refl μ H)
theorem sc_cont : SC X W (.Continue pos) cCt := PS.imp ps_continue fun D σ H ⟨μ, ρ, S, hS, hE, h⟩ => h μ σ H hS hE (.refl μ H)
theorem sc_never : SC X W st cNo := PS.imp ps_never fun D σ H ⟨μ, ρ, S, hS, hE, h⟩ => h
theorem sc_doc {x j} : SC X W (.Expr (.Constant (.str x) j pos) pos') cNil := PS.imp ps_doc fun D σ H ⟨μ, ρ, S, hS, hE, h⟩ => h μ σ H hS hE (.refl μ H)
theorem sc_expr (he : SE X W e re) (hs : swapsWith e none pos.line X.env = pure false := by rfl) : SC X W (.Expr e pos) (cExpr re) :=
  PS.imp (ps_expr he hs) fun D σ H ⟨μ, ρ, S, hS, hE, h⟩ => (bndS hS hE h).mono fun v H1 ⟨μ1, S1, d, hS1, hE1, s1, rv, h1⟩ => h1 μ1 σ H1 hS1 hE1 (.refl ..)
theorem sc_ret (he : SE X W e re) : SC X W (.Return (some e) pos) (cRet re) :=
  PS.imp (ps_ret he) fun D σ H ⟨μ, ρ, S, hS, hE, h⟩ => (bndS hS hE h).mono fun v H1 ⟨μ1, S1, d, hS1, hE1, s1, rv, h1⟩ => h1 μ1 v H1 hS1 (.refl ..) rv
theorem sc_retN : SC X W (.Return none pos) cRetN :=
  PS.imp ps_retN fun D σ H ⟨μ, ρ, S, hS, hE, h⟩ => h μ _ H hS (.refl ..) .non
theorem SimE.set {K : PySem.W.Frag} {μ : List Addr} {H : Hp} {ρ : Env} {σ : L2.St} {v : V} {d : Dv} (h : SimE K μ H ρ σ) (r : Rep K μ H v d) (i : Nat) : SimE K μ H (ρ.set i (some d)) (σ.set i (some v)) := by
  refine ⟨by rw [List.length_set, List.length_set, h.1], fun j e hj => ?_⟩
  by_cases hi : i = j
  · subst hi
    have hl : i < ρ.length := by have := (List.getElem?_eq_some_iff.mp hj).1; simpa using this
    rw [List.getElem?_set_self hl] at hj
    cases hj
    exact ⟨v, List.getElem?_set_self (by rw [← h.1]; exact hl), r⟩
  · rw [List.getElem?_set_ne hi] at hj
    obtain ⟨u, e1, r1⟩ := h.2 j e hj
    exact ⟨u, by rw [List.getElem?_set_ne hi]; exact e1, r1⟩
theorem sc_set {i : Nat} {x : Str} (hN : X.N.Nodup) (hi : X.N[i]? = some x) (hx : Loc X.env.scope x) (he : SE X W e re) (hs : swapsWith e (some (.Name x pos')) pos.line X.env = pure false := by rfl) (hf : X.fn x = true ∨ X.env.scope.names.lookup x = some .local := by first | exact .inl rfl | exact .inr rfl | assumption) :
    SC X W (.Assign [.Name x pos'] e pos) (cSet i re) :=
  PS.imp (ps_set hN hi hx he hs hf) fun D σ H ⟨μ, ρ, S, hS, hE, h⟩ => (bndS hS hE h).mono fun v H1 ⟨μ1, S1, d, hS1, hE1, s1, rv, h1⟩ => h1 μ1 _ H1 hS1 (hE1.set rv i) (.refl ..)
theorem sc_if {c : Expr} {as bs : List Stmt} (hc : ST X W c rt) (ha : SCs X W as a) (hb : SCs X W bs b) : SC X W (.If c as bs pos) (cIf rt a b) :=
  PS.imp (ps_if hc ha hb) fun D σ H ⟨μ, ρ, S, hS, hE, h⟩ => (bndS (R1 := RBool) hS hE h).mono fun v H1 ⟨μ1, S1, d, hS1, hE1, s1, rv, h1⟩ => by
    cases (show v = d from rv)
    cases v with
    | true => exact ⟨μ1, ρ, S1, hS1, hE1, h1⟩
    | false => exact ⟨μ1, ρ, S1, hS1, hE1, h1⟩
/-! ### targets -/
def tGt (K : PySem.W.Frag) (t : Tg) : TG := fun v σ H Q => ∃ μ ρ d ρ', SimE K μ H ρ σ ∧ Rep K μ H v d ∧ t.set d ρ = some ρ' ∧ ∀ σ', SimE K μ H ρ' σ' → σ'.length = σ.length → (∀ j, j ∉ t.slots → σ'[j]? = σ[j]?) → Q σ' H
def tGts (K : PySem.W.Frag) (ts : List Tg) : TGs := fun vs σ H Q => ∃ μ ρ ds ρ', SimE K μ H ρ σ ∧ Reps K μ H vs ds ∧ Tg.sets ts ds ρ = some ρ' ∧ ∀ σ', SimE K μ H ρ' σ' → σ'.length = σ.length → (∀ j, j ∉ Tg.slotss ts → σ'[j]? = σ[j]?) → Q σ' H
abbrev SG (X : Cx) (tg : Expr) (t : Tg) : Prop := PG X tg (tGt X.K t)
abbrev SGs (X : Cx) (tg : List Expr) (t : List Tg) : Prop := PGs X tg (tGts X.K t)
theorem sg_name {i : Nat} {x : Str} (hN : X.N.Nodup) (hi : X.N[i]? = some x) (hx : Loc X.env.scope x) (hf : X.fn x = true ∨ X.env.scope.names.lookup x = some .local := by first | exact .inl rfl | exact .inr rfl | assumption) : SG X (.Name x pos) (.nm i) :=
  ⟨fun pins s σ H v u Q I r ⟨μ, ρ, d, ρ', hE, rv, hs, h⟩ => (pg_name hN hi hx hf).run pins s σ H v u Q I r (by
    simp only [Tg.set, Option.some.injEq] at hs
    subst hs
    exact h _ (hE.set rv i) (by simp) fun j hj => List.getElem?_set_ne (by intro z; subst z; simp [Tg.slots] at hj))⟩
theorem sgs_nil : SGs X [] [] :=
  ⟨fun pins s σ H vs us Q I r ⟨μ, ρ, ds, ρ', hE, rv, hs, h⟩ => pgs_nil.run pins s σ H vs us Q I r (by
    cases ds with
    | nil =>
      simp only [Tg.sets, Option.some.injEq] at hs
      subst hs
      exact ⟨rv.un0, h σ hE rfl fun _ _ => rfl⟩
    | cons => simp [Tg.sets] at hs)⟩
theorem sgs_cons {es : List Expr} {t : Tg} {ts : List Tg} (h1 : SG X e t) (h2 : SGs X es ts) (hs : (assignEach (e :: es) X.env).map (·.2) = assign e X.env :: (assignEach es X.env).map (·.2) := by rfl) : SGs X (e :: es) (t :: ts) :=
  ⟨fun pins s σ H vs us Q I r ⟨μ, ρ, ds, ρ', hE, rv, hh, h⟩ => (pgs_cons h1 h2 hs).run pins s σ H vs us Q I r (by
    cases ds with
    | nil => simp [Tg.sets] at hh
    | cons d ds =>
      obtain ⟨v, ws, rfl, r1, r2⟩ := rv.uncons
      simp only [Tg.sets] at hh
      split at hh
      · rename_i ρ1 e1
        refine ⟨v, ws, rfl, μ, ρ, d, ρ1, hE, r1, e1, fun σ1 hE1 l1 n1 => ⟨μ, ρ1, ds, ρ', hE1, r2, hh, fun σ2 hE2 l2 n2 => h σ2 hE2 (l2.trans l1) fun j hj => ?_⟩⟩
        simp only [Tg.slotss, List.mem_append, not_or] at hj
        exact (n2 j hj.2).trans (n1 j hj.1)
      · cases hh)⟩
theorem sg_tup {es : List Expr} {k : Nat} {ts : List Tg} {n : Nat} (hc : X.calm = true) (h : SGs X es ts) (hl : ts.length = n) (hn : (assignEach es X.env).length = n := by rfl) (hst : (assignEach es X.env).findIdx? (·.1) = none := by rfl) : SG X (.Tuple es k pos) (.tp ts) :=
  ⟨fun pins s σ H v u Q I r ⟨μ, ρ, d, ρ', hE, rv, hh, hq⟩ => (pg_tup hc h hn hst).run pins s σ H v u Q I r (by
    simp only [Tg.set] at hh
    split at hh
    · rename_i ds e
      obtain ⟨a, vs, rfl, hq2, rr⟩ := rv.sqT e
      have len : ∀ (ts : List Tg) (ds : List Dv) (ρ ρ' : Env), Tg.sets ts ds ρ = some ρ' → ts.length = ds.length := by
        intro ts
        induction ts with
        | nil => intro ds ρ ρ' h; cases ds with | nil => rfl | cons => simp [Tg.sets] at h
        | cons t ts ih =>
          intro ds ρ ρ' h
          cases ds with
          | nil => simp [Tg.sets] at h
          | cons d ds =>
            simp only [Tg.sets] at h
            split at h
            · simp [ih _ _ _ h]
            · cases h
      exact ⟨a, vs, rfl, hq2, by rw [rr.1, ← len _ _ _ _ hh, hl], μ, ρ, ds, ρ', hE, rr, hh, hq⟩
    · cases hh)⟩
theorem sc_asg {tg : Expr} {t : Tg} (he : SE X W e re) (hg : SG X tg t) (hs : swapsWithSole [tg] e pos.line X.env = pure false := by rfl) (hw : swappedStores [tg] e X.env = pure none := by rfl)
    (h1 : (assignEach [tg] X.env).map (·.2) = [assign tg X.env] := by rfl) : SC X W (.Assign [tg] e pos) (cAsg t re) :=
  PS.imp (ps_asg he hg hs hw h1) fun D σ H ⟨μ, ρ, S, hS, hE, h⟩ => (bndS hS hE h).mono fun v H1 ⟨μ1, S1, d, hS1, hE1, s1, rv, h1⟩ => by
    split at h1
    · rename_i ρ' e1
      exact ⟨μ1, ρ, d, ρ', hE1, rv, e1, fun σ' hE' _ _ => h1 μ1 σ' H1 hS1 hE' (.refl ..)⟩
    · exact h1.elim
abbrev rSetD : TSet := fun o i v H Q => ∃ a H', o = .ref a ∧ DPut H a i v H' ∧ Q H'
theorem set_all (hu : X.A.units + 1 < cLine) : PSet X (fun o i v H Q => rSetL o i v H Q ∨ rSetD o i v H Q) := by
  intro pins s σ H o i v ov iv u Q I ro ri rv h
  rcases h with h | ⟨a, H', rfl, g, q⟩
  · exact set_list pins s σ H o i v ov iv u Q I ro ri rv h
  · obtain rfl : ov = Value.ref a := ro
    exact d_setItem hu I g ri rv fun s' I' => ⟨H', I', q⟩
theorem sc_put (hu : X.A.units + 1 < cLine) (ho : SE X W o ro) (hk : SE X W k rk) (hv : SE X W v rv) (hs : swapsWithSole [.Subscript o k pos'] v pos.line X.env = pure false := by rfl) (hw : swappedStores [.Subscript o k pos'] v X.env = pure none := by rfl)
    (h1 : (assignEach [.Subscript o k pos'] X.env).map (·.2) = [assign (.Subscript o k pos') X.env] := by rfl)
    (ha : ∀ v, assign (.Subscript o k pos') X.env v = (do
      let ov ← holding [v] (eval o X.env)
      let iv ← holding [v, ov] (eval k X.env)
      standAt pos'
      holding [v, ov, iv] (setItem ov iv v)
      release [v, ov, iv] []) := by intro _; rfl) : SC X W (.Assign [.Subscript o k pos'] v pos) (cPut ro rk rv) :=
  PS.imp (ps_asg hv (pg_sub ho hk (set_all hu) ha) hs hw h1) fun D σ H ⟨μ, ρ, S, hS, hE, h⟩ => (bndS hS hE h).mono fun v H1 ⟨μ1, S1, d, hS1, hE1, s1, rv, h1⟩ =>
    (bndS hS1 hE1 h1).mono fun x H2 ⟨μ2, S2, d2, hS2, hE2, s2, rx, h2⟩ => (bndS hS2 hE2 h2).mono fun y H3 ⟨μ3, S3, d3, hS3, hE3, s3, ry, h3⟩ => by
      split at h3
      · rename_i S4 e4
        have rx3 := rx.step s3
        have rv3 := (rv.step s2).step s3
        have dict : ∀ (e : dput S3 d2 d3 d = some S4), rSetL x y v H3 (fun H' => D.nx σ H') ∨ rSetD x y v H3 (fun H' => D.nx σ H') := fun e => by
          obtain ⟨a, H', ex, g, hS4, s4⟩ := dput_rep hS3 rx3 ry rv3 e
          exact .inr ⟨a, H', ex, g, h3 μ3 σ H' hS4 (hE3.step s4) s4⟩
        unfold putD at e4
        split at e4
        · split at e4
          · rename_i xs e5
            split at e4
            · rename_i j e6
              cases e4
              cases rx3 with
              | ref hl =>
                cases ry
                obtain ⟨vs, e7, rr⟩ := hS3.at' e5 hl
                refine .inl ⟨_, vs, _, j, rfl, rfl, e7, by rw [rr.1]; exact e6, ?_⟩
                exact h3 μ3 σ _ (hS3.put hl ⟨_, upd_same, (rr.set rv3 j).step (step_put hS3 hl _)⟩) (hE3.step (step_put hS3 hl _)) (step_put hS3 hl _)
            · cases e4
          · exact dict e4
        · exact dict e4
      · exact h3.elim
/-- a op= e, by the operator's own rule in place -/
theorem sc_aug {i : Nat} {x : Str} {op : Operator} {f : Dv → Dv → Sto → Out Dv} {ti : TIp} (hN : X.N.Nodup) (hi : X.N[i]? = some x) (hx : Loc X.env.scope x) (he : SE X W e re) (ho : PIp X op ti) (hti : Op2 X.K f ti) (hf : X.fn x = true ∨ X.env.scope.names.lookup x = some .local := by first | exact .inl rfl | exact .inr rfl | assumption) :
    SC X W (.AugAssign (.Name x pos') op e pos) (cAug i f re) :=
  PS.imp (ps_aug hN hi hx he ho hf) fun D σ H ⟨μ, ρ, S, hS, hE, h⟩ => by
    unfold cAug eBin eVar at h
    split at h
    · rename_i d hd
      obtain ⟨v, e1, r⟩ := hE.2 i d hd
      refine ⟨v, e1, ?_⟩
      simp only [Out.bind_ok] at h
      cases q : re ρ S with
      | no => rw [q] at h; exact h.elim
      | ex x S1 =>
        rw [q] at h
        exact ⟨μ, ρ, S, hS, hE, by rw [q]; exact fun μ1 H1 cl dd a b c => h μ1 σ H1 cl dd a (hE.step b) b c⟩
      | ok y S1 =>
        rw [q] at h
        refine ⟨μ, ρ, S, hS, hE, ?_⟩
        rw [q]
        intro μ1 H1 yv hS1 s1 ry
        have h1 := h.step s1
        simp only [Out.bind_ok] at h1
        refine hti X.mg (W.at σ) μ1 H1 S1 v yv d y _ hS1 (r.step s1) ry ?_
        cases q2 : f d y S1 with
        | no => rw [q2] at h1; exact h1.elim
        | ex x S2 => rw [q2] at h1; exact fun μ2 H2 cl dd a b c => h1 μ2 σ H2 cl dd a ((hE.step s1).step b) b c
        | ok z S2 =>
          rw [q2] at h1
          exact fun μ2 H2 zv hS2 s2 rz => h1 μ2 _ H2 hS2 (((hE.step s1).step s2).set rz i) s2
    · exact h.elim
def addI (x y : Dv) (S : Sto) : Out Dv := match x, y with
  | .int i, .int j => .ok (.int (i + j)) S
  | _, _ => .no
theorem o_addI {K : PySem.W.Frag} : Op2 K addI (ipI fun i j => i + j) := by
  intro mg Wx μ H S x y d e Q hS rx ry h
  cases rx <;> cases ry <;> first | exact h.elim | exact ⟨_, _, rfl, rfl, h.ok hS (.int _)⟩
end
end PL

namespace PL
open PySem PySem.Spec PyProof.Rows L2

/-! ### what is walked -/
/-- what must stand still while a loop goes -/
inductive Ck where
  | tt | ls (l : Nat) (ds : List Dv) | and (a b : Ck)
def Ck.ok : Ck → Sto → Prop
  | .tt, _ => True
  | .ls l ds, S => S[l]? = some (.lst ds)
  | .and a b, S => a.ok S ∧ b.ok S
abbrev RI := Env → Sto → Out (List Dv × Ck)
/-- an iterator that yields the items, as long as what it walks stands -/
def ItR (K : PySem.W.Frag) (μ : List Addr) (H : Hp) (J : It) (w : List Dv × Ck) : Prop :=
  ∀ (μ' : List Addr) (S' : Sto) (H' : Hp) (i : Nat), Step μ H μ' H' → SimS K μ' S' H' → w.2.ok S' →
    (i = w.1.length → J.stop i H') ∧ ∀ d, w.1[i]? = some d → J.go i H' ∧ ∀ x H'', J.yld i H' x H'' → Step μ' H' μ' H'' ∧ SimS K μ' S' H'' ∧ Rep K μ' H'' x d
def tI (K : PySem.W.Frag) (mg : Str → Option Value) (W : WX) (r : RI) : TI := fun σ H R => ∃ μ ρ S, SimS K μ S H ∧ SimE K μ H ρ σ ∧
  match r ρ S with
  | .ok w S1 => ∀ μ1 H1 J, SimS K μ1 S1 H1 → Step μ H μ1 H1 → ItR K μ1 H1 J w → R J H1
  | .ex x S1 => ∀ μ1 H1 cls dd, SimS K μ1 S1 H1 → Step μ H μ1 H1 → XRep K mg μ1 H1 x cls dd → W cls dd σ H1
  | .no => False
abbrev SI (X : Cx) (W : WX) (tg iter : Expr) (r : RI) : Prop := PI X tg iter (tI X.K X.mg W r)
theorem PI.imp {X : Cx} {tg e : Expr} {t t' : TI} (h : PI X tg e t) (i : ∀ σ H Q, t' σ H Q → t σ H Q) : PI X tg e t' := ⟨fun pins s σ H Q I w => h.run pins s σ H Q I (i σ H Q w)⟩
theorem PI.or {X : Cx} {tg e : Expr} {t t' : TI} (h : PI X tg e t) (h' : PI X tg e t') : PI X tg e (fun σ H Q => t σ H Q ∨ t' σ H Q) :=
  ⟨fun pins s σ H Q I w => w.elim (h.run pins s σ H Q I) (h'.run pins s σ H Q I)⟩
def ckOf : Dv → List Dv → Ck
  | .ref l, ds => .ls l ds
  | _, _ => .tt
def chars (x : Str) : List Dv := x.cps.toList.map fun c => .str ⟨#[c]⟩
/-- a list, a tuple, a text -/
def walkD (d : Dv) (S : Sto) : Option (List Dv × Ck) := match d with
  | .str x => some (chars x, .tt)
  | _ => (seqOf S d).map fun ds => (ds, ckOf d ds)
def iSeq (e : RE) : RI := fun ρ S => (e ρ S).bind fun d S1 => match walkD d S1 with
  | some w => .ok w S1
  | none => .no
def rangeL (lo hi : Int) : List Dv := (List.range (hi - lo).toNat).map fun (i : Nat) => .int (lo + i)
noncomputable def rok (i : Int) : Bool := @decide (-(2 ^ 62) ≤ i ∧ i < 2 ^ 62) (Classical.propDecidable _)
noncomputable def rng1 : List Dv → Option (List Dv)
  | [.int j] => if rok j = true then some (rangeL 0 j) else none
  | _ => none
noncomputable def rng2 : List Dv → Option (List Dv)
  | [.int i, .int j] => if rok i = true ∧ rok j = true then some (rangeL i j) else none
  | _ => none
def downL (hi lo : Int) : List Dv := (List.range (hi - lo).toNat).map fun (i : Nat) => .int (hi - i)
noncomputable def rng3 : List Dv → Option (List Dv)
  | [.int i, .int j, .int c] => if rok i = true ∧ rok j = true ∧ c = -1 then some (downL i j) else none
  | _ => none
def iRange (f : List Dv → Option (List Dv)) (a : RA) : RI := fun ρ S => (a ρ S).bind fun ds S1 => match f ds with
  | some w => .ok (w, .tt) S1
  | none => .no
section
variable {K : PySem.W.Frag} {mg : Str → Option Value} {W : WX} {μ μ1 : List Addr} {H H1 : Hp} {S S1 : Sto} {σ : L2.St} {ρ : Env}
theorem itr_tup {a : Addr} {vs : List V} {ds : List Dv} (h : ∀ μ' H', Step μ H μ' H' → SqT K H' a vs) (r : Reps K μ H vs ds) : ItR K μ H (Itt K a) (ds, .tt) := by
  intro μ' S' H' i st hS _
  have q := h μ' H' st
  refine ⟨fun e => ⟨vs, q, by rw [r.1]; exact Nat.le_of_eq e.symm⟩, fun d hd => ?_⟩
  obtain ⟨v, hv, rv⟩ := r.get hd
  refine ⟨⟨vs, v, q, hv⟩, fun x H'' y => ?_⟩
  obtain ⟨rfl, y⟩ := y
  have := y vs q
  rw [hv] at this; cases this
  exact ⟨.refl .., hS, rv.step st⟩
theorem sqT_keep {v : V} {d : Dv} {ds : List Dv} (r : Rep K μ H v d) (e : tupOf d = some ds) : ∃ a vs, v = .ref a ∧ Reps K μ H vs ds ∧ SqT K H a vs ∧ ∀ μ' H', Step μ H μ' H' → SqT K H' a vs := by
  cases r with
  | tup t l q => simp only [tupOf, Option.some.injEq] at e; subst e; exact ⟨_, _, rfl, ⟨l, q⟩, .of t.1, fun μ' H' s => .of (t.step s).1⟩
  | kt t l q => simp only [tupOf, Option.some.injEq] at e; subst e; exact ⟨_, _, rfl, ⟨l, q⟩, .inr t, fun μ' H' s => .inr t⟩
  | _ => simp [tupOf] at e
/-- a list: read-only, or one of the store that stands still -/
theorem itr_list {v : V} {d : Dv} {ds : List Dv} (hS : SimS K μ S H) (r : Rep K μ H v d) (e : lstOf S d = some ds) :
    ∃ a vs, v = .ref a ∧ SqL K H a vs ∧ ∀ μ' S' H', Step μ H μ' H' → SimS K μ' S' H' → (ckOf d ds).ok S' → ∃ ws, SqL K H' a ws ∧ Reps K μ' H' ws ds := by
  cases r with
  | fl t l q =>
    simp only [lstOf, Option.some.injEq] at e; subst e
    have k : ∀ {H' : Hp} {μ' : List Addr} {a : Addr} {vs : List V}, LisAt K μ' H' a vs → SqL K H' a vs := fun t => by
      rcases t with ⟨⟨o, t⟩, _⟩ | t
      · exact .inl (.inr ⟨o, t⟩)
      · exact .inr t
    exact ⟨_, _, rfl, k t, fun μ' S' H' st _ _ => ⟨_, k (t.step st), Reps.step st ⟨l, q⟩⟩⟩
  | @ref l a hl =>
    have e0 := e
    simp only [lstOf] at e
    split at e
    · rename_i es hs
      cases e
      obtain ⟨vs, e1, rr⟩ := hS.at' hs hl
      refine ⟨a, vs, rfl, .of e1, fun μ' S' H' st hS' ck => ?_⟩
      obtain ⟨ws, e2, r2⟩ := hS'.at' ck (st.get hl)
      exact ⟨ws, .of e2, r2⟩
    · cases e
  | _ => simp [lstOf] at e
theorem itr_of_list {a : Addr} {w : List Dv × Ck} (h : ∀ μ' S' H', Step μ H μ' H' → SimS K μ' S' H' → w.2.ok S' → ∃ ws, SqL K H' a ws ∧ Reps K μ' H' ws w.1) : ItR K μ H (Itl K a) w := by
  intro μ' S' H' i st hS ck
  obtain ⟨ws, q, r⟩ := h μ' S' H' st hS ck
  refine ⟨fun e => ⟨ws, q, by rw [r.1]; exact Nat.le_of_eq e.symm⟩, fun d hd => ?_⟩
  obtain ⟨v, hv, rv⟩ := r.get hd
  refine ⟨⟨ws, v, q, hv⟩, fun x H'' y => ?_⟩
  obtain ⟨rfl, y⟩ := y
  have := y ws q
  rw [hv] at this; cases this
  exact ⟨.refl .., hS, rv⟩
theorem itr_range {lo hi : Int} : ItR K μ H (Itr lo (hi - lo).toNat) (rangeL lo hi, .tt) := by
  intro μ' S' H' i st hS _
  refine ⟨fun e => by have : i = (hi - lo).toNat := by rw [e]; simp [rangeL]
                      exact Nat.le_of_eq this.symm, fun d hd => ?_⟩
  have hi' := (List.getElem?_eq_some_iff.mp hd).1
  simp only [rangeL, List.length_map, List.length_range] at hi'
  refine ⟨hi', fun x H'' y => ?_⟩
  obtain ⟨rfl, rfl⟩ := y
  simp only [rangeL, List.getElem?_map, List.getElem?_range hi', Option.map_some, Option.some.injEq] at hd
  subst hd
  exact ⟨.refl .., hS, .int _⟩
theorem itr_str {x : Str} : ItR K μ H (Its x) (chars x, .tt) := by
  intro μ' S' H' i st hS _
  have hl : (chars x).length = x.cps.size := by simp [chars]
  refine ⟨fun e => Nat.le_of_eq (hl.symm.trans e.symm), fun d hd => ?_⟩
  have hi := (List.getElem?_eq_some_iff.mp hd).1
  refine ⟨(show i < x.cps.size by rw [← hl]; exact hi), fun v H'' y => ?_⟩
  obtain ⟨rfl, c, hc, rfl⟩ := y
  have hd' : (chars x)[i]? = some d := hd
  simp only [chars, List.getElem?_map, Array.getElem?_toList, hc, Option.map_some, Option.some.injEq] at hd'
  subst hd'
  exact ⟨.refl .., hS, .str _⟩
end
section
variable {X : Cx} {W : WX} {tg e : Expr} {re : RE} {ra : RA} {p pos : Pos}
theorem si_seq (he : SE X W e re) : SI X W tg e (iSeq re) :=
  PI.imp (PI.or (pi_list he) (PI.or (pi_tup he) (pi_str he))) fun σ H R ⟨μ, ρ, S, hS, hE, h⟩ => by
    unfold iSeq at h
    cases q : re ρ S with
    | no => rw [q] at h; exact h.elim
    | ex x S1 => rw [q] at h; exact .inl ⟨μ, ρ, S, hS, hE, by rw [q]; exact h⟩
    | ok d S1 =>
      rw [q] at h
      simp only [Out.bind_ok] at h
      cases ew : walkD d S1 with
      | none => rw [ew] at h; exact h.elim
      | some w =>
        rw [ew] at h
        unfold walkD at ew
        split at ew
        · cases ew
          refine .inr (.inr ⟨μ, ρ, S, hS, hE, ?_⟩)
          rw [q]
          intro μ1 H1 v a b r
          cases r
          exact ⟨_, rfl, h μ1 H1 _ a b itr_str⟩
        · rw [Option.map_eq_some_iff] at ew
          obtain ⟨ds, e1, rfl⟩ := ew
          unfold seqOf at e1
          split at e1
          · rename_i es e2
            cases e1
            refine .inr (.inl ⟨μ, ρ, S, hS, hE, ?_⟩)
            rw [q]
            intro μ1 H1 v a b r
            obtain ⟨ad, vs, rfl, rr, hq, kp⟩ := sqT_keep r e2
            have ck : ckOf d ds = .tt := by cases d <;> first | rfl | simp [tupOf] at e2
            rw [ck] at h
            exact ⟨ad, rfl, ⟨vs, hq⟩, h μ1 H1 _ a b (itr_tup kp rr)⟩
          · refine .inl ⟨μ, ρ, S, hS, hE, ?_⟩
            rw [q]
            intro μ1 H1 v a b r
            obtain ⟨ad, vs, rfl, hq, kp⟩ := itr_list a r e1
            exact ⟨ad, rfl, ⟨vs, hq⟩, h μ1 H1 _ a b (itr_of_list kp)⟩
theorem rok_iff {i : Int} : rok i = true ↔ -(2 ^ 62) ≤ i ∧ i < 2 ^ 62 := by unfold rok; exact @decide_eq_true_iff _ (Classical.propDecidable _)
/-- a walk over values -/
theorem iRange_met {K : PySem.W.Frag} {mg : Str → Option Value} {f : List Dv → Option (List Dv)} {σ : L2.St} {H : Hp} {R : It → Hp → Prop} (h : tI K mg W (iRange f ra) σ H R) {Q : List V → Hp → Prop}
    (hq : ∀ μ1 H1 S1 vs ds w, SimS K μ1 S1 H1 → Reps K μ1 H1 vs ds → f ds = some w → (∀ J, ItR K μ1 H1 J (w, .tt) → R J H1) → Q vs H1) : tG (Reps K) K mg W ra σ H Q := by
  obtain ⟨μ, ρ, S, hS, hE, h⟩ := h
  refine ⟨μ, ρ, S, hS, hE, ?_⟩
  unfold iRange at h
  cases q : ra ρ S with
  | no => rw [q] at h; exact h.elim
  | ex x S1 => rw [q] at h; exact h
  | ok ds S1 =>
    rw [q] at h
    simp only [Out.bind_ok] at h
    intro μ1 H1 vs a b r
    cases ew : f ds with
    | none => rw [ew] at h; exact h.elim
    | some w => rw [ew] at h; exact hq μ1 H1 S1 vs ds w a r ew fun J hj => h μ1 H1 J a b hj
theorem si_range1 {a : Expr} (hg : Gl X "range") (hm : X.mg "range" = none) (ha : SA X W [a] ra) (hs : starEach [a] X.env = [(false, eval a X.env)] := by rfl) : SI X W tg (.Call (.Name "range" p) [a] [] pos) (iRange rng1 ra) :=
  PI.imp (pi_range1 hg hm ha hs) fun σ H R h => iRange_met h fun μ1 H1 S1 vs ds w a r ew hR => by
    unfold rng1 at ew
    split at ew
    · rename_i j
      obtain ⟨v, rfl, rv⟩ := r.get1
      cases rv
      split at ew
      · rename_i hj
        cases ew
        obtain ⟨h1, h2⟩ := rok_iff.mp hj
        refine ⟨j, rfl, h1, h2, hR _ ?_⟩
        have e : j.toNat = (j - 0).toNat := by rw [Int.sub_zero]
        rw [e]
        exact itr_range
      · cases ew
    · cases ew
theorem si_range2 {a b : Expr} (hg : Gl X "range") (hm : X.mg "range" = none) (ha : SA X W [a, b] ra) (hs : starEach [a, b] X.env = [(false, eval a X.env), (false, eval b X.env)] := by rfl) (hs2 : starEach [b] X.env = [(false, eval b X.env)] := by rfl) :
    SI X W tg (.Call (.Name "range" p) [a, b] [] pos) (iRange rng2 ra) :=
  PI.imp (pi_range2 hg hm ha hs hs2) fun σ H R h => iRange_met h fun μ1 H1 S1 vs ds w a r ew hR => by
    unfold rng2 at ew
    split at ew
    · rename_i i j
      obtain ⟨v, u, rfl, rv, ru⟩ := r.get2
      cases rv; cases ru
      split at ew
      · rename_i hj
        cases ew
        obtain ⟨h1, h2⟩ := rok_iff.mp hj.1
        obtain ⟨h3, h4⟩ := rok_iff.mp hj.2
        exact ⟨i, j, rfl, ⟨h1, h2, h3, h4⟩, hR _ itr_range⟩
      · cases ew
    · cases ew
theorem itr_down {K : PySem.W.Frag} {μ : List Addr} {H : Hp} {lo hi : Int} : ItR K μ H (Itc hi (-1) (hi - lo).toNat) (downL hi lo, .tt) := by
  intro μ' S' H' i st hS _
  have hl : (downL hi lo).length = (hi - lo).toNat := by simp [downL]
  refine ⟨fun e => Nat.le_of_eq (hl.symm.trans e.symm), fun d hd => ?_⟩
  have hi' : i < (hi - lo).toNat := by rw [← hl]; exact (List.getElem?_eq_some_iff.mp hd).1
  refine ⟨hi', fun x H'' y => ?_⟩
  obtain ⟨rfl, rfl⟩ := y
  have hd' : (downL hi lo)[i]? = some d := hd
  simp only [downL, List.getElem?_map, List.getElem?_range hi', Option.map_some, Option.some.injEq] at hd'
  subst hd'
  have e : hi + (i : Nat) * (-1) = hi - (i : Int) := by omega
  rw [e]
  exact ⟨.refl .., hS, .int _⟩
theorem si_range3 {a b c : Expr} (hg : Gl X "range") (hm : X.mg "range" = none) (ha : SA X W [a, b, c] ra)
    (hs : starEach [a, b, c] X.env = (false, eval a X.env) :: starEach [b, c] X.env := by rfl) (hs2 : (backTo pos (starEach [b, c] X.env)).any (·.1) = false := by rfl) : SI X W tg (.Call (.Name "range" p) [a, b, c] [] pos) (iRange rng3 ra) :=
  PI.imp (pi_range3 hg hm ha hs hs2) fun σ H R h => iRange_met h fun μ1 H1 S1 vs ds w a r ew hR => by
    unfold rng3 at ew
    split at ew
    · rename_i i j c
      obtain ⟨v, ws, rfl, rv, r2⟩ := r.uncons
      obtain ⟨u, u2, rfl, ru, ru2⟩ := r2.get2
      cases rv; cases ru; cases ru2
      split at ew
      · rename_i hj
        cases ew
        obtain ⟨h1, h2⟩ := rok_iff.mp hj.1
        obtain ⟨h3, h4⟩ := rok_iff.mp hj.2.1
        rw [hj.2.2]
        exact ⟨i, j, -1, (i - j).toNat, rfl, RgC.neg h1 h2 h3 h4, hR _ itr_down⟩
      · cases ew
    · cases ew
/-- items, by pairs that are made in the turn -/
def enumL (ds : List Dv) (n : Nat := 0) : List Dv := match ds with
  | [] => []
  | d :: r => .tup [.int n, d] :: enumL r (n + 1)
theorem enumL_get : ∀ (ds : List Dv) (n i : Nat), (enumL ds n)[i]? = (ds[i]?).map fun d => .tup [.int ((n + i : Nat) : Int), d]
  | [], n, i => by simp [enumL]
  | d :: r, n, 0 => by simp [enumL]
  | d :: r, n, i + 1 => by
    rw [enumL, List.getElem?_cons_succ, List.getElem?_cons_succ, enumL_get r (n + 1) i]
    have e : n + 1 + i = n + (i + 1) := by omega
    rw [e]
theorem enumL_len : ∀ (ds : List Dv) (n : Nat), (enumL ds n).length = ds.length
  | [], _ => rfl
  | _ :: r, n => by rw [enumL, List.length_cons, List.length_cons, enumL_len r]
theorem itr_enum {K : PySem.W.Frag} {μ : List Addr} {H : Hp} {a : Addr} {ds : List Dv} {ck : Ck} (h : ∀ μ' S' H', Step μ H μ' H' → SimS K μ' S' H' → ck.ok S' → ∃ ws, SqL K H' a ws ∧ Reps K μ' H' ws ds) : ItR K μ H (Ite K a) (enumL ds, ck) := by
  intro μ' S' H' i st hS hck
  obtain ⟨ws, q, r⟩ := h μ' S' H' st hS hck
  refine ⟨fun e => ⟨ws, q, by rw [r.1]; rw [show (enumL ds, ck).1.length = ds.length from enumL_len ds 0] at e; omega⟩, fun d hd => ?_⟩
  have hd' : (enumL ds)[i]? = some d := hd
  rw [enumL_get, Option.map_eq_some_iff] at hd'
  obtain ⟨d', hd', rfl⟩ := hd'
  obtain ⟨v, hv, rv⟩ := r.get hd'
  refine ⟨⟨ws, v, q, hv⟩, fun x H'' y => ?_⟩
  obtain ⟨T, z, rfl, hT, rfl, y⟩ := y
  have := y ws q
  rw [hv] at this; cases this
  have rr : Reps K μ' H' [.int (i : Nat), v] [.int ((0 + i : Nat) : Int), d'] := by
    rw [Nat.zero_add]
    exact (Reps.one rv).cons (.int _)
  exact ⟨step_lay hS hT _, hS.lay hT _, .tup ⟨upd_same, hS.fresh hT⟩ rr.1 (rr.step (step_lay hS hT _)).2⟩
def iEnum (a : RA) : RI := fun ρ S => (a ρ S).bind fun ds S1 => match ds with
  | [d] => match lstOf S1 d with
    | some xs => .ok (enumL xs, ckOf d xs) S1
    | none => .no
  | _ => .no
theorem si_enum {elts : List Expr} {kk : Nat} {tpos : Pos} (hg : Gl X "enumerate") (hm : X.mg "enumerate" = none) (ha : SA X W [e] ra) (hs : starEach [e] X.env = [(false, eval e X.env)] := by rfl) : SI X W (.Tuple elts kk tpos) (.Call (.Name "enumerate" p) [e] [] pos) (iEnum ra) :=
  PI.imp (pi_enum hg hm ha hs) fun σ H R ⟨μ, ρ, S, hS, hE, h⟩ => by
    refine ⟨μ, ρ, S, hS, hE, ?_⟩
    unfold iEnum at h
    cases q : ra ρ S with
    | no => rw [q] at h; exact h.elim
    | ex x S1 => rw [q] at h; exact h
    | ok ds S1 =>
      rw [q] at h
      simp only [Out.bind_ok] at h
      intro μ1 H1 vs a b r
      cases ds with
      | nil => exact h.elim
      | cons d ds =>
        cases ds with
        | cons => exact h.elim
        | nil =>
          obtain ⟨v, rfl, rv⟩ := r.get1
          cases el : lstOf S1 d with
          | none => simp only [el] at h
          | some xs =>
            simp only [el] at h
            obtain ⟨ad, us, rfl, hq, kp⟩ := itr_list a rv el
            exact ⟨ad, us, rfl, hq, h μ1 H1 _ a b (itr_enum kp)⟩
end

/-! ### for, comprehensions, while -/
def loop (ck : Sto → Prop) [∀ S, Decidable (ck S)] (t : Tg) (b : RC) : List Dv → Env → Sto → OutS
  | [], ρ, S => if ck S then .fl (.nx ρ) S else .no
  | d :: ds, ρ, S => if ck S then match t.set d ρ with
    | some ρ1 => match b ρ1 S with
      | .fl (.nx ρ2) S2 => loop ck t b ds ρ2 S2
      | .fl (.ct ρ2) S2 => loop ck t b ds ρ2 S2
      | .fl (.bk ρ2) S2 => .fl (.nx ρ2) S2
      | o => o
    | none => .no else .no
noncomputable instance (c : Ck) (S : Sto) : Decidable (c.ok S) := Classical.propDecidable _
noncomputable def cFor (r : RI) (t : Tg) (b : RC) : RC := fun ρ S => bindS (r ρ S) ρ fun w S1 => loop w.2.ok t b w.1 ρ S1
def wipeE (ρ : Env) : List Nat → Env
  | [] => ρ
  | v :: vs => (wipeE ρ vs).set v none
def compL (ck : Sto → Prop) [∀ S, Decidable (ck S)] (t : Tg) (c : RT) (y : RE) (ρ : Env) : List Dv → List Dv → Sto → Out (List Dv)
  | [], acc, S => if ck S then .ok acc S else .no
  | d :: ds, acc, S => if ck S then match t.set d ρ with
    | some ρ1 => (c ρ1 S).bindN fun k S1 => if k = true then (y ρ1 S1).bindN fun z S2 => if acc.length < sizeLine then compL ck t c y ρ ds (acc ++ [z]) S2 else .no else compL ck t c y ρ ds acc S1
    | none => .no else .no
def cYes : RT := fun _ S => .ok true S
noncomputable def eComp (r : RI) (t : Tg) (c : RT) (y : RE) (vs : List Nat) : RE := fun ρ S => (r ρ S).bind fun w S1 => (compL w.2.ok t c y (wipeE ρ vs) w.1 [] S1).bind newL
def loopW : Nat → RT → RC → RC
  | 0, _, _ => fun _ _ => .no
  | n + 1, c, b => fun ρ S => bindS (c ρ S) ρ fun k S1 => if k = true then match b ρ S1 with
    | .fl (.nx ρ2) S2 => loopW n c b ρ2 S2
    | .fl (.ct ρ2) S2 => loopW n c b ρ2 S2
    | .fl (.bk ρ2) S2 => .fl (.nx ρ2) S2
    | o => o else .fl (.nx ρ) S1
open Classical in
noncomputable def cWhile (c : RT) (b : RC) : RC := fun ρ S => if h : ∃ n, loopW n c b ρ S ≠ .no then loopW h.choose c b ρ S else .no
theorem loopW_mono {c : RT} {b : RC} : ∀ (n m : Nat) (ρ : Env) (S : Sto), n ≤ m → loopW n c b ρ S ≠ .no → loopW m c b ρ S = loopW n c b ρ S
  | 0, _, _, _, _, h => absurd rfl h
  | n + 1, 0, _, _, h, _ => by omega
  | n + 1, m + 1, ρ, S, hl, h => by
    simp only [loopW] at h ⊢
    cases q : c ρ S with
    | no => rfl
    | ex x S1 => rfl
    | ok k S1 =>
      rw [q] at h
      simp only [bindS_ok] at h ⊢
      cases k with
      | false => rfl
      | true =>
        simp only [if_true] at h ⊢
        cases q2 : b ρ S1 with
        | no => rfl
        | ex x ρ2 S2 => rfl
        | fl f S2 =>
          rw [q2] at h
          cases f with
          | nx ρ2 => exact loopW_mono n m ρ2 S2 (by omega) h
          | ct ρ2 => exact loopW_mono n m ρ2 S2 (by omega) h
          | bk ρ2 => rfl
          | rt d => rfl
theorem cWhile_of {c : RT} {b : RC} {ρ : Env} {S : Sto} (n : Nat) (h : loopW n c b ρ S ≠ .no) : cWhile c b ρ S = loopW n c b ρ S := by
  unfold cWhile
  have hx : ∃ n, loopW n c b ρ S ≠ .no := ⟨n, h⟩
  rw [dif_pos hx]
  rcases Nat.le_total n hx.choose with l | l
  · exact loopW_mono _ _ ρ S l h
  · exact (loopW_mono _ _ ρ S l hx.choose_spec).symm
section
variable {X : Cx} {W : WX} {tg iter c elt : Expr} {body : List Stmt} {r : RI} {t : Tg} {b : RC} {rc : RT} {ry : RE} {pos : Pos}
theorem sc_for (hp : PassesOwn (model X.prog X.w) X.A X.env X.xe) (hc : X.calm = true) (hi : SI X W tg iter r) (hg : SG X tg t) (hb : SCs X W body b) (hs : ∀ x, foldedSetIterable iter X.env x = pure x := by intro _; rfl) : SC X W (.For tg iter body [] pos) (cFor r t b) :=
  PS.imp (ps_for hp hc hi hg hb hs) fun D σ H ⟨μ, ρ, S, hS, hE, h⟩ => by
    refine ⟨μ, ρ, S, hS, hE, ?_⟩
    unfold cFor at h
    cases q : r ρ S with
    | no => rw [q] at h; exact h.elim
    | ex x S1 => rw [q] at h; exact fun μ1 H1 cls dd a b c => h μ1 σ H1 cls dd a (hE.step b) b c
    | ok w S1 =>
      rw [q] at h
      intro μ1 H1 J hS1 s1 hJ
      refine ⟨fun i m σ' H' => ∃ μ' ρ' S', SimS X.K μ' S' H' ∧ SimE X.K μ' H' ρ' σ' ∧ Step μ1 H1 μ' H' ∧ m = w.1.length - i ∧ i ≤ w.1.length ∧ MetS X.K X.mg W μ' H' (loop w.2.ok t b (w.1.drop i) ρ' S') D,
        ⟨_, μ1, ρ, S1, hS1, hE.step s1, .refl .., rfl, Nat.zero_le _, by rw [List.drop_zero]; exact h.step s1⟩, ?_⟩
      rintro i m σ' H' ⟨μ', ρ', S', hS', hE', s', rfl, hil, hm⟩
      by_cases hlt : i < w.1.length
      · rw [List.drop_eq_getElem_cons hlt, loop] at hm
        split at hm
        · rename_i hck
          obtain ⟨_, hgo⟩ := hJ μ' S' H' i s' hS' hck
          obtain ⟨go, yl⟩ := hgo w.1[i] (List.getElem?_eq_getElem hlt)
          split at hm
          · rename_i ρ1 e1
            refine .inr ⟨go, fun σ2 H2 => ∃ μ2 ρ2 S2, SimS X.K μ2 S2 H2 ∧ SimE X.K μ2 H2 ρ2 σ2 ∧ Step μ1 H1 μ2 H2 ∧ MetS X.K X.mg W μ2 H2 (loop w.2.ok t b (w.1.drop (i + 1)) ρ2 S2) D,
              fun σ2 H2 ⟨μ2, ρ2, S2, a1, a2, a3, a4⟩ => ⟨_, by omega, μ2, ρ2, S2, a1, a2, a3, rfl, hlt, a4⟩, fun x H2 y => ?_⟩
            obtain ⟨s2, hS2, rx⟩ := yl x H2 y
            refine ⟨μ', ρ', _, ρ1, hE'.step s2, rx, e1, fun σ2 hE2 _ _ => ⟨μ', ρ1, S', hS2, hE2, ?_⟩⟩
            have hm2 := hm
            cases q2 : b ρ1 S' with
            | no => rw [q2] at hm2; exact hm2.elim
            | ex x ρ3 S3 => rw [q2] at hm2; exact fun μ3 σ3 H3 cl dd a1 a2 a3 a4 => hm2 μ3 σ3 H3 cl dd a1 a2 (s2.trans a3) a4
            | fl f S3 =>
              rw [q2] at hm2
              cases f with
              | nx ρ3 => exact fun μ3 σ3 H3 a1 a2 a3 => ⟨μ3, ρ3, S3, a1, a2, s'.trans (s2.trans a3), hm2.step (s2.trans a3)⟩
              | ct ρ3 => exact fun μ3 σ3 H3 a1 a2 a3 => ⟨μ3, ρ3, S3, a1, a2, s'.trans (s2.trans a3), hm2.step (s2.trans a3)⟩
              | bk ρ3 => exact fun μ3 σ3 H3 a1 a2 a3 => hm2 μ3 σ3 H3 a1 a2 (s2.trans a3)
              | rt d => exact fun μ3 v3 H3 a1 a2 a3 => hm2 μ3 v3 H3 a1 (s2.trans a2) a3
          · exact hm.elim
        · exact hm.elim
      · have e : i = w.1.length := by omega
        rw [List.drop_of_length_le (by omega), loop] at hm
        split at hm
        · rename_i hck
          exact .inl ⟨(hJ μ' S' H' i s' hS' hck).1 e, hm μ' σ' H' hS' hE' (.refl ..)⟩
        · exact hm.elim
theorem sc_while (hp : PassesOwn (model X.prog X.w) X.A X.env X.xe) (hc : ST X W c rc) (hb : SCs X W body b) : SC X W (.While c body [] pos) (cWhile rc b) :=
  PS.imp (ps_while hp hc hb) fun D σ H ⟨μ, ρ, S, hS, hE, h⟩ => by
    unfold cWhile at h
    split at h
    · rename_i hx
      refine ⟨fun m σ' H' => ∃ μ' ρ' S', SimS X.K μ' S' H' ∧ SimE X.K μ' H' ρ' σ' ∧ MetS X.K X.mg W μ' H' (loopW m rc b ρ' S') D, ⟨_, μ, ρ, S, hS, hE, h⟩, ?_⟩
      rintro m σ' H' ⟨μ', ρ', S', hS', hE', hm⟩
      cases m with
      | zero => exact hm.elim
      | succ m =>
        simp only [loopW] at hm
        refine (bndS (R1 := RBool) hS' hE' hm).mono fun v H1 ⟨μ1, S1, d, hS1, hE1, s1, rv, h1⟩ => ?_
        cases (show v = d from rv)
        cases v with
        | false => exact h1 μ1 σ' H1 hS1 hE1 (.refl ..)
        | true =>
          simp only [if_true] at h1
          refine ⟨fun σ2 H2 => ∃ μ2 ρ2 S2, SimS X.K μ2 S2 H2 ∧ SimE X.K μ2 H2 ρ2 σ2 ∧ MetS X.K X.mg W μ2 H2 (loopW m rc b ρ2 S2) D, fun σ2 H2 h2 => ⟨m, Nat.lt_succ_self m, h2⟩, μ1, ρ', S1, hS1, hE1, ?_⟩
          cases q2 : b ρ' S1 with
          | no => rw [q2] at h1; exact h1.elim
          | ex x ρ3 S3 => rw [q2] at h1; exact h1
          | fl f S3 =>
            rw [q2] at h1
            cases f with
            | nx ρ3 => exact fun μ3 σ3 H3 a1 a2 a3 => ⟨μ3, ρ3, S3, a1, a2, h1.step a3⟩
            | ct ρ3 => exact fun μ3 σ3 H3 a1 a2 a3 => ⟨μ3, ρ3, S3, a1, a2, h1.step a3⟩
            | bk ρ3 => exact h1
            | rt d => exact h1
    · exact h.elim
end
end PL

namespace PL
open PySem PySem.Spec PyProof.Rows L2

section
variable {K : PySem.W.Frag} {mg : Str → Option Value} {W : WX} {μ μ1 : List Addr} {H H1 : Hp} {S S1 : Sto} {σ : L2.St} {ρ : Env}
theorem wipeE_rep (h : SimE K μ H ρ σ) : ∀ vs : List Nat, SimE K μ H (wipeE ρ vs) (wipe σ vs)
  | [] => h
  | v :: vs => by
    have ih := wipeE_rep h vs
    refine ⟨by simp only [wipeE, wipe, List.length_set]; exact ih.1, fun i d hd => ?_⟩
    simp only [wipeE] at hd
    by_cases hv : v = i
    · subst hv
      have hl : v < (wipeE ρ vs).length := by have := (List.getElem?_eq_some_iff.mp hd).1; simpa using this
      rw [List.getElem?_set_self hl] at hd; cases hd
    · rw [List.getElem?_set_ne hv] at hd
      obtain ⟨u, e1, r1⟩ := ih.2 i d hd
      exact ⟨u, by simp only [wipe]; rw [List.getElem?_set_ne hv]; exact e1, r1⟩
theorem wipe_same {σ σ' : L2.St} (hl : σ'.length = σ.length) : ∀ {vs : List Nat}, (∀ j, j ∉ vs → σ'[j]? = σ[j]?) → wipe σ' vs = wipe σ vs := by
  intro vs h
  refine List.ext_getElem? fun j => ?_
  by_cases hj : j ∈ vs
  · have : ∀ {τ : L2.St} {vs : List Nat}, j ∈ vs → j < τ.length → (wipe τ vs)[j]? = some none := by
      intro τ vs
      induction vs with
      | nil => intro h _; cases h
      | cons v vs ih =>
        intro h hlt
        simp only [wipe]
        by_cases hv : v = j
        · subst hv; rw [List.getElem?_set_self (by rw [wipe_length]; exact hlt)]
        · rw [List.getElem?_set_ne hv]
          rcases List.mem_cons.mp h with e | h
          · exact absurd e.symm hv
          · exact ih h hlt
    by_cases hlt : j < σ.length
    · rw [this hj (by rw [hl]; exact hlt), this hj hlt]
    · rw [List.getElem?_eq_none (by rw [wipe_length, hl]; omega), List.getElem?_eq_none (by rw [wipe_length]; omega)]
  · rw [wipe_out hj, wipe_out hj, h j hj]
end
section
variable {K : PySem.W.Frag} {μ μ' μ1 μ2 : List Addr} {H H' H1 H2 : Hp} {S S' S1 : Sto} {D : Addr} {us ws : List V} {v : V} {d : Dv}
theorem rep_priv (hD : H D = some (.lst us)) (r : Rep K μ H v d) : Rep K μ (upd H D (.lst ws)) v d := by
  induction r with
  | non => exact .non
  | bl b => exact .bl b
  | int i => exact .int i
  | str x => exact .str x
  | ref h => exact .ref h
  | kt h e _ ih => exact .kt h e fun i v d h1 h2 => ih i v d h1 h2
  | tup h e _ ih => exact .tup ⟨by rw [upd_ne (ne_of h.1 hD (by intro z; cases z))]; exact h.1, h.2⟩ e fun i v d h1 h2 => ih i v d h1 h2
  | fl h e _ ih =>
    refine .fl ?_ e fun i v d h1 h2 => ih i v d h1 h2
    rcases h with ⟨⟨o, h⟩, n⟩ | h
    · exact .inl ⟨⟨o, by rw [upd_ne (ne_of h hD (by intro z; cases z))]; exact h⟩, n⟩
    · exact .inr h
theorem reps_priv {vs : List V} {ds : List Dv} (hD : H D = some (.lst us)) (r : Reps K μ H vs ds) : Reps K μ (upd H D (.lst ws)) vs ds := ⟨r.1, fun i v d h1 h2 => rep_priv hD (r.2 i v d h1 h2)⟩
theorem sim_priv (hD : H D = some (.lst us)) (n : D ∉ μ) (h : SimS K μ S H) : SimS K μ S (upd H D (.lst ws)) :=
  ⟨h.len, h.nd, fun l a o e1 e2 => by
    have ne : a ≠ D := fun z => n (z ▸ List.mem_of_getElem? e1)
    have q := h.ob l a o e1 e2
    cases o with
    | lst ds => obtain ⟨vs, g, r⟩ := q; exact ⟨vs, by rw [upd_ne ne]; exact g, reps_priv hD r⟩
    | dk kvs => obtain ⟨vs, g, g2, r⟩ := q; exact ⟨vs, by rw [upd_ne ne]; exact g, g2, reps_priv hD r⟩
    | dt kvs => obtain ⟨vs, g, g2, r⟩ := q; exact ⟨vs, by rw [upd_ne ne]; exact g, g2, reps_priv hD r⟩
    | fk kvs => obtain ⟨vs, g, g2, r⟩ := q; exact ⟨vs, by rw [upd_ne ne]; exact g, g2, reps_priv hD r⟩
    | ft kvs => obtain ⟨vs, g, g2, r⟩ := q; exact ⟨vs, by rw [upd_ne ne]; exact g, g2, reps_priv hD r⟩⟩
theorem step_priv (hD : H1 D = none) (s : Step μ1 H1 μ H) : Step μ1 H1 μ (upd H D (.lst ws)) :=
  ⟨s.pre, fun b o e n => by rw [upd_ne (ne_of_none e hD)]; exact s.keep b o e n, fun b e => by
    by_cases hb : b = D
    · rw [hb, upd_same]; exact fun z => nomatch z
    · rw [upd_ne hb]; exact s.live b e, fun b o u e => by rw [upd_ne (ne_of_none e hD)]; exact s.frz b o u e⟩
theorem step_open (hD : H1 D = none) (s : Step μ1 H1 μ H) : Step μ1 H1 (μ ++ [D]) H := by
  refine ⟨?_, s.keep, s.live, s.frz⟩
  obtain ⟨ν, e, f⟩ := s.pre
  exact ⟨ν ++ [D], by rw [e, List.append_assoc], fun b hb => by
    rcases List.mem_append.mp hb with hb | hb
    · exact f b hb
    · simp at hb; rw [hb]; exact hD⟩
/-- an object of ours comes into the store -/
theorem step_adopt (n : D ∉ μ) (hD : H D = some (.lst us)) : Step μ H μ H := .refl _ _
theorem rep_adopt (hD : H D = some (.lst us)) (r : Rep K μ H v d) : Rep K (μ ++ [D]) H v d := by
  induction r with
  | non => exact .non
  | bl b => exact .bl b
  | int i => exact .int i
  | str x => exact .str x
  | ref h => exact .ref (by rw [List.getElem?_append_left (List.getElem?_eq_some_iff.mp h).1]; exact h)
  | kt h e _ ih => exact .kt h e fun i v d h1 h2 => ih i v d h1 h2
  | tup h e _ ih => exact .tup ⟨h.1, fun z => (List.mem_append.mp z).elim h.2 fun z => by simp at z; exact ne_of h.1 hD (by intro q; cases q) z⟩ e fun i v d h1 h2 => ih i v d h1 h2
  | fl h e _ ih =>
    refine .fl ?_ e fun i v d h1 h2 => ih i v d h1 h2
    rcases h with ⟨⟨o, h⟩, n⟩ | h
    · exact .inl ⟨⟨o, h⟩, fun z => (List.mem_append.mp z).elim n fun z => by simp at z; exact ne_of h hD (by intro q; cases q) z⟩
    · exact .inr h
theorem reps_adopt {vs : List V} {ds : List Dv} (hD : H D = some (.lst us)) (r : Reps K μ H vs ds) : Reps K (μ ++ [D]) H vs ds := ⟨r.1, fun i v d h1 h2 => rep_adopt hD (r.2 i v d h1 h2)⟩
theorem sim_adopt {acc : List Dv} (hD : H D = some (.lst us)) (n : D ∉ μ) (r : Reps K μ H us acc) (h : SimS K μ S H) : SimS K (μ ++ [D]) (S ++ [.lst acc]) H := by
  refine ⟨by simp [h.len], List.nodup_append.mpr ⟨h.nd, by simp, fun a ha b hb => by simp at hb; subst hb; exact fun z => n (z ▸ ha)⟩, fun l a o e1 e2 => ?_⟩
  by_cases hl : l < μ.length
  · rw [List.getElem?_append_left hl] at e1
    rw [List.getElem?_append_left (by rw [← h.len]; exact hl)] at e2
    have q := h.ob l a o e1 e2
    cases o with
    | lst ds => obtain ⟨vs, g, r⟩ := q; exact ⟨vs, g, reps_adopt hD r⟩
    | dk kvs => obtain ⟨vs, g, g2, r⟩ := q; exact ⟨vs, g, g2, reps_adopt hD r⟩
    | dt kvs => obtain ⟨vs, g, g2, r⟩ := q; exact ⟨vs, g, g2, reps_adopt hD r⟩
    | fk kvs => obtain ⟨vs, g, g2, r⟩ := q; exact ⟨vs, g, g2, reps_adopt hD r⟩
    | ft kvs => obtain ⟨vs, g, g2, r⟩ := q; exact ⟨vs, g, g2, reps_adopt hD r⟩
  · have hl2 : l = μ.length := by have := (List.getElem?_eq_some_iff.mp e1).1; simp at this; omega
    subst hl2
    rw [List.getElem?_append_right (Nat.le_refl _)] at e1
    rw [List.getElem?_append_right (by rw [h.len]; exact Nat.le_refl _), h.len] at e2
    simp at e1 e2
    subst e1; subst e2
    exact ⟨us, hD, reps_adopt hD r⟩
end
section
variable {X : Cx} {W : WX} {tg iter elt : Expr} {ifs : List Expr} {scope : Scope} {own : List (Str × Nat)} {pos spos : Pos} {r : RI} {t : Tg} {rc : RT} {ry : RE}
/-- the reading of a comprehension -/
theorem comp_met {Wb : WX} {σ : L2.St} {H : Hp} {Q : VK} {vs : List Nat} (hown : ∀ i ∈ t.slots, i ∈ vs) (h : tG (Rep X.K) X.K X.mg W (eComp r t rc ry vs) σ H Q) :
    tLc (tI X.K X.mg W r) (tGt X.K t) (tG RBool X.K X.mg Wb rc) (tG (Rep X.K) X.K X.mg Wb ry) vs σ H Q := by
  obtain ⟨μ, ρ, S, hS, hE, h⟩ := h
  refine ⟨μ, ρ, S, hS, hE, ?_⟩
  unfold eComp at h
  cases q : r ρ S with
  | no => rw [q] at h; exact h.elim
  | ex x S1 => rw [q] at h; exact fun μ1 H1 cls dd a b c => h μ1 H1 cls dd a b c
  | ok w S1 =>
    rw [q] at h
    simp only [Out.bind_ok] at h
    intro μ1 H1 J hS1 s1 hJ D hD
    have hE1 := hE.step s1
    refine ⟨fun i m H' => ∃ μ' S' acc us, SimS X.K μ' S' H' ∧ D ∉ μ' ∧ H' D = some (.lst us) ∧ Reps X.K μ' H' us acc ∧ Step μ1 H1 μ' H' ∧ m = w.1.length - i ∧ i ≤ w.1.length ∧
        Met (Rep X.K) X.K X.mg (W.at σ) μ H ((compL w.2.ok t rc ry (wipeE ρ vs) (w.1.drop i) acc S').bind newL) Q,
      ⟨_, μ1, S1, [], [], hS1.lay hD _, hS1.fresh hD, upd_same, .nil, step_lay hS1 hD _, rfl, Nat.zero_le _, by rw [List.drop_zero]; exact h⟩, ?_⟩
    rintro i m H' ⟨μ', S', acc, us, hS', nD, eD, ra, s', rfl, hil, hm⟩
    by_cases hlt : i < w.1.length
    · rw [List.drop_eq_getElem_cons hlt, compL] at hm
      split at hm
      · rename_i hck
        obtain ⟨go, yl⟩ := (hJ μ' S' H' i s' hS' hck).2 w.1[i] (List.getElem?_eq_getElem hlt)
        split at hm
        · rename_i ρ1 e1
          refine .inr ⟨go, fun H5 => ∃ μ5 S5 acc5 us5, SimS X.K μ5 S5 H5 ∧ D ∉ μ5 ∧ H5 D = some (.lst us5) ∧ Reps X.K μ5 H5 us5 acc5 ∧ Step μ1 H1 μ5 H5 ∧
              Met (Rep X.K) X.K X.mg (W.at σ) μ H ((compL w.2.ok t rc ry (wipeE ρ vs) (w.1.drop (i + 1)) acc5 S5).bind newL) Q,
            fun H5 ⟨μ5, S5, acc5, us5, a1, a2, a3, a4, a5, a6⟩ => ⟨_, by omega, μ5, S5, acc5, us5, a1, a2, a3, a4, a5, rfl, hlt, a6⟩, fun x H2 y => ?_⟩
          obtain ⟨s2, hS2, rx⟩ := yl x H2 y
          refine ⟨μ', wipeE ρ vs, _, ρ1, (wipeE_rep (hE1.step s') vs).step s2, rx, e1, fun σ2 hE2 l2 n2 => ⟨?_, μ', ρ1, S', hS2, hE2, ?_⟩⟩
          · have := wipe_same (vs := vs) l2 fun j hj => n2 j fun z => hj (hown j z)
            rw [this]
            refine List.ext_getElem? fun j => ?_
            by_cases hj : j ∈ vs
            · have k : ∀ {τ : L2.St} {vs : List Nat}, j ∈ vs → j < τ.length → (wipe τ vs)[j]? = some none := by
                intro τ vs
                induction vs with
                | nil => intro h _; cases h
                | cons v vs ih =>
                  intro h hlt
                  simp only [wipe]
                  by_cases hv : v = j
                  · subst hv; rw [List.getElem?_set_self (by rw [wipe_length]; exact hlt)]
                  · rw [List.getElem?_set_ne hv]
                    rcases List.mem_cons.mp h with e | h
                    · exact absurd e.symm hv
                    · exact ih h hlt
              by_cases hlt : j < σ.length
              · rw [k hj (by rw [wipe_length]; exact hlt), k hj hlt]
              · rw [List.getElem?_eq_none (by rw [wipe_length, wipe_length]; omega), List.getElem?_eq_none (by rw [wipe_length]; omega)]
            · rw [wipe_out hj]
          · cases q2 : rc ρ1 S' with
            | no => rw [q2] at hm; exact hm.elim
            | ex x S3 => rw [q2] at hm; exact hm.elim
            | ok k S3 =>
              rw [q2] at hm
              simp only [Out.bindN_ok] at hm
              intro μ3 H3 kb hS3 s3 ek
              have ek' : kb = k := ek
              subst ek'
              have nD3 : D ∉ μ3 := s3.nin (s2.keep _ _ eD nD) nD
              have eD3 := s3.keep _ _ (s2.keep _ _ eD nD) nD
              have st3 := (s'.trans s2).trans s3
              cases kb with
              | false => exact ⟨μ3, S3, acc, us, hS3, nD3, eD3, (ra.step s2).step s3, st3, hm⟩
              | true =>
                simp only [if_true] at hm ⊢
                refine ⟨μ3, ρ1, S3, hS3, hE2.step s3, ?_⟩
                cases q3 : ry ρ1 S3 with
                | no => rw [q3] at hm; exact hm.elim
                | ex x S4 => rw [q3] at hm; exact hm.elim
                | ok z S4 =>
                  rw [q3] at hm
                  simp only [Out.bindN_ok] at hm
                  intro μ4 H4 zv hS4 s4 rz
                  have nD4 : D ∉ μ4 := s4.nin eD3 nD3
                  have eD4 := s4.keep _ _ eD3 nD3
                  have ra4 := ((ra.step s2).step s3).step s4
                  split at hm
                  · rename_i hz
                    exact ⟨us, eD4, by rw [ra4.1]; exact hz, μ4, S4, acc ++ [z], us ++ [zv], sim_priv eD4 nD4 hS4, nD4, upd_same, reps_priv eD4 (ra4.append (.one rz)), step_priv hD (st3.trans s4), hm⟩
                  · exact hm.elim
        · exact hm.elim
      · exact hm.elim
    · have e : i = w.1.length := by omega
      rw [List.drop_of_length_le (by omega), compL] at hm
      split at hm
      · rename_i hck
        refine .inl ⟨(hJ μ' S' H' i s' hS' hck).1 e, ?_⟩
        exact hm _ _ _ (sim_adopt eD nD ra hS') (s1.trans (step_open hD s')) (.ref (new_at hS' D))
      · exact hm.elim
abbrev Blk (X : Cx) (scope : Scope) (P : Cx → Prop) : Prop := ∀ (s : Shared) (H : Hp) (C : Addr) (cl : List (Str × Addr)) (fp : List Addr), P (X.blk s H scope (compEnvC scope cl C X.env) fp)
theorem se_comp (hc : X.calm = true) (hN : X.N.Nodup) (hi : SI X W tg iter r) (ok : BlkOk X.N X.env.scope scope own) (hg : Blk X scope fun Y => SG Y tg t) (ht : Blk X scope fun Y => PTs Y ifs (tG RBool X.K X.mg W rc)) (he : Blk X scope fun Y => SE Y W elt ry)
    (hown : ∀ i ∈ t.slots, i ∈ own.map (·.2)) (hs : ∀ x, foldedSetIterable iter X.env x = pure x := by intro _; rfl) : SE X W (.ListComp elt [⟨tg, iter, ifs, 0⟩] scope pos) (eComp r t rc ry (own.map (·.2))) :=
  PE.imp (pe_lc hc hN hi ok hg ht he hs) fun _ _ _ h => comp_met (ry := ry) (Wb := W) hown h
theorem sc_setComp {i : Nat} {y : Str} {py : Pos} (hc : X.calm = true) (hN : X.N.Nodup) (hy : X.N[i]? = some y) (hyl : X.env.scope.names.lookup y = some .local) (hsw : swapsWith (.ListComp elt [⟨tg, iter, ifs, 0⟩] scope pos) (some (.Name y py)) spos.line X.env = pure true)
    (hi : SI X W tg iter r) (ok : BlkOk X.N X.env.scope scope own) (hg : Blk X scope fun Y => SG Y tg t) (ht : Blk X scope fun Y => PTs Y ifs (tG RBool X.K X.mg W rc)) (he : Blk X scope fun Y => SE Y W elt ry)
    (hown : ∀ i ∈ t.slots, i ∈ own.map (·.2)) (hs : ∀ x, foldedSetIterable iter X.env x = pure x := by intro _; rfl) : SC X W (.Assign [.Name y py] (.ListComp elt [⟨tg, iter, ifs, 0⟩] scope pos) spos) (cSet i (eComp r t rc ry (own.map (·.2)))) :=
  PS.imp (ps_setLc hc hN hy hyl hsw hi ok hg ht he hs) fun D σ H ⟨μ, ρ, S, hS, hE, h⟩ => by
    refine comp_met (ry := ry) (Wb := W) hown ?_
    exact (bndS hS hE h).mono fun v H1 ⟨μ1, S1, d, hS1, hE1, s1, rv, h1⟩ => h1 μ1 _ H1 hS1 (hE1.set rv i) (.refl ..)
theorem sts_nil {Y : Cx} : PTs Y [] (tG RBool Y.K Y.mg W cYes) := ⟨fun pins s σ H Q I ⟨μ, ρ, S, hS, hE, h⟩ => pts_nil.run pins s σ H Q I (Met.ok (RP := RBool) h hS rfl)⟩
theorem sts_one {Y : Cx} {c : Expr} (h : ST Y W c rc) : PTs Y [c] (tG RBool Y.K Y.mg W rc) := pts_one h
end

/-! ### defs -/
def runF (c : RC) (m n : Nat) (ds : List Dv) (S : Sto) : Out Dv := if ds.length = n then match c (ds.map some ++ List.replicate (m - n) none) S with
  | .fl (.nx _) S' => .ok .non S'
  | .fl (.rt d) S' => .ok d S'
  | .ex x _ S' => .ex x S'
  | _ => .no else .no
section
variable {P : Program} {w : World} {K : PySem.W.Frag} {mg : Str → Option Value} {base : Heap}
theorem start_rep {μ : List Addr} {H : Hp} {N : List Str} {vs : List V} {ds : List Dv} (r : Reps K μ H vs ds) : SimE K μ H (ds.map some ++ List.replicate (N.length - ds.length) none) (L2.start N vs) := by
  unfold L2.start
  rw [r.1]
  refine ⟨by simp [r.1], fun i d hd => ?_⟩
  by_cases hi : i < ds.length
  · rw [List.getElem?_append_left (by simpa using hi)] at hd
    rw [List.getElem?_append_left (by simpa [r.1] using hi)]
    simp only [List.getElem?_map, Option.map_eq_some_iff] at hd ⊢
    obtain ⟨d', hd', e⟩ := hd
    cases e
    obtain ⟨v, hv, rv⟩ := r.get hd'
    exact ⟨v, ⟨v, hv, rfl⟩, rv⟩
  · rw [List.getElem?_append_right (by simpa using hi)] at hd
    simp only [List.getElem?_replicate] at hd
    split at hd <;> cases hd
theorem def_body {X : Cx} {E : XK} {c : RC} {N : List Str} {n : Nat} {body : List Stmt} (hb : SCs X (fun cl d _ H => E cl d H) body c) {H : Hp} {vs : List V} {Q : VK} (h : spD X.K X.mg (runF c N.length n) n vs H Q E) :
    ∃ t, PSs X body t ∧ t { nx := fun _ H' => Q .non H', rt := Q } (L2.start N vs) H := by
  obtain ⟨μ, S, ds, hn, hS, r, h⟩ := h
  refine ⟨_, hb, μ, _, S, hS, start_rep (N := N) r, ?_⟩
  unfold runF at h
  rw [if_pos hn] at h
  rw [hn]
  cases q : c (ds.map some ++ List.replicate (N.length - n) none) S with
  | no => rw [q] at h; exact h
  | ex x ρ S1 => rw [q] at h; exact fun μ1 σ1 H1 cl dd a b c d => h μ1 H1 cl dd a c d
  | fl f S1 =>
    rw [q] at h
    cases f with
    | nx ρ => exact fun μ1 σ1 H1 a b c => h μ1 H1 .non a c .non
    | rt d => exact fun μ1 v H1 a b c => h μ1 H1 v a b c
    | bk ρ => exact h.elim
    | ct ρ => exact h.elim
/-- THE RULE for a def that lets no exception out -/
theorem fn_mk {x qual : Str} {st : Stmt} {f : Addr} {fd : FuncData} {N ps : List Str} {k : Nat} {c : RC} (F : Fun K x qual st f fd) (S : FnScope N ps (defScope st))
    (hbody : ∀ (cdv : Value) (A : Around) (outer : List PySem.Env) (s : Shared) (H : Hp) (E : XK), Room k (A.deeper (envOfC qual (defScope st) s.heap.objs.size f cdv)) →
      SCs (cxOf CX0 P w K mg base N qual (defScope st) f cdv A outer s H E).nox (fun cl d _ H => E cl d H) (defBody st) c) : FnOk P w K mg base CX0 (k + 1) f fd ps (spD K mg (runF c N.length ps.length) ps.length) :=
  F.ok S (fun vs H Q E ⟨μ, S, ds, hn, hS, r, h⟩ => r.1.trans hn) fun cdv A outer s H vs Q E hr h => def_body (X := (cxOf CX0 P w K mg base N qual (defScope st) f cdv A outer s H E).nox) (hbody cdv A outer s H E hr) h
theorem pas0 {X : Cx} {W : WX} : ∀ σ, PassesAt CX0 X σ (W.at σ) := fun _ _ _ _ _ _ _ h => h.elim
/-- a promise may be said of a greater function -/
theorem fn_more {CX : CXT} {k n : Nat} {f : Addr} {fd : FuncData} {ps : List Str} {F G : List Dv → Sto → Out Dv} (h : FnOk P w K mg base CX k f fd ps (spD K mg F n)) (e : ∀ ds S, G ds S = .no ∨ G ds S = F ds S) : FnOk P w K mg base CX k f fd ps (spD K mg G n) :=
  h.imp fun vs H Q E ⟨μ, S, ds, hn, hS, r, q⟩ => ⟨μ, S, ds, hn, hS, r, by
    rcases e ds S with z | z
    · rw [z] at q; exact q.elim
    · rw [← z]; exact q⟩
end
end PL

namespace PL
open PySem PySem.Spec PyProof.Rows L2
theorem hu65 {A : Around} {k : Nat} (hr : Room k A) : A.units + 65 < cLine := by have := hr.un; omega
theorem fn_zero {P : Program} {w : World} {K : PySem.W.Frag} {mg : Str → Option Value} {base : Heap} {CX : CXT} {k n : Nat} {f : Addr} {fd : FuncData} {ps : List Str} (h : n = ps.length) : FnOk P w K mg base CX k f fd ps (spD K mg (fun _ _ => .no) n) :=
  ⟨fun vs H Q E ⟨μ, S, ds, hn, hS, r, q⟩ => q.elim, fun A outer s H args us vs Q E hr he hb hv ⟨μ, S, ds, hn, hS, r, q⟩ => q.elim⟩
theorem bt_len : bootBuiltins "len" = some (.builtin "len") := by decide +kernel
theorem bt_max : bootBuiltins "max" = some (.builtin "max") := by decide +kernel
theorem bt_min : bootBuiltins "min" = some (.builtin "min") := by decide +kernel
theorem bt_sum : bootBuiltins "sum" = some (.builtin "sum") := by decide +kernel
theorem bt_any : bootBuiltins "any" = some (.builtin "any") := by decide +kernel
theorem bt_abs : bootBuiltins "abs" = some (.builtin "abs") := by decide +kernel
theorem bt_sorted : bootBuiltins "sorted" = some (.builtin "sorted") := by decide +kernel
theorem bt_int : bootBuiltins "int" = some (.type "int") := by decide +kernel
theorem bt_list : bootBuiltins "list" = some (.type "list") := by decide +kernel
theorem bt_tuple : bootBuiltins "tuple" = some (.type "tuple") := by decide +kernel
theorem bt_str : bootBuiltins "str" = some (.type "str") := by decide +kernel
theorem bt_bool : bootBuiltins "bool" = some (.type "bool") := by decide +kernel
theorem bt_dict : bootBuiltins "dict" = some (.type "dict") := by decide +kernel
theorem bt_set : bootBuiltins "set" = some (.type "set") := by decide +kernel
end PL

namespace PL
open PySem PySem.Spec PyProof.Rows L2

/-! ### reckoning with outcomes -/
section
variable {ρ ρ' : Env} {S S' S1 : Sto} {a b c : RE} {x y d e : Dv} {ra rb : RC} {ta tb : RT}
theorem ev_var (i : Nat) : eVar i ρ S = match ρ[i]? with | some (some d) => .ok d S | _ => .no := .trans rfl rfl
theorem ev_con : eCon d ρ S = .ok d S := .trans rfl rfl
theorem ev_bin (f : Dv → Dv → Sto → Out Dv) : eBin f a b ρ S = (a ρ S).bind fun x S1 => (b ρ S1).bind fun y S2 => f x y S2 := .trans rfl rfl
theorem ev_un (f : Dv → Sto → Out Dv) : eUn f a ρ S = (a ρ S).bind f := .trans rfl rfl
theorem ev_anil : aNil ρ S = .ok [] S := .trans rfl rfl
theorem ev_acons (r : RE) (t : RA) : aCons r t ρ S = (r ρ S).bind fun d S1 => (t ρ S1).bind fun ds S2 => .ok (d :: ds) S2 := .trans rfl rfl
theorem ev_call (f : List Dv → Sto → Out Dv) (a : RA) : eCall f a ρ S = (a ρ S).bind f := .trans rfl rfl
theorem ev_tup (a : RA) : eTup a ρ S = (a ρ S).bind fun ds S1 => if ds.length ≤ sizeLine then .ok (.tup ds) S1 else .no := .trans rfl rfl
theorem ev_lst (a : RA) : eLst a ρ S = (a ρ S).bind fun ds S1 => if ds.length ≤ sizeLine then .ok (.ref S1.length) (S1 ++ [.lst ds]) else .no := .trans rfl rfl
theorem ev_not : eNot a ρ S = (a ρ S).bind fun d S1 => match d with | .bl b => .ok (.bl (!b)) S1 | _ => .no := .trans rfl rfl
theorem ev_and : eAnd a b ρ S = (a ρ S).bind fun d S1 => match d with | .bl true => b ρ S1 | .bl false => .ok (.bl false) S1 | _ => .no := .trans rfl rfl
theorem ev_or : eOr a b ρ S = (a ρ S).bind fun d S1 => match d with | .bl true => .ok (.bl true) S1 | .bl false => b ρ S1 | _ => .no := .trans rfl rfl
theorem ev_if : eIf ta a b ρ S = (ta ρ S).bind fun t S1 => if t = true then a ρ S1 else b ρ S1 := .trans rfl rfl
theorem ev_cbl : cBl a ρ S = (a ρ S).bind bTrue := .trans rfl rfl
theorem ev_btrue (b : Bool) : bTrue (.bl b) S = .ok b S := .trans rfl rfl
theorem ev_cand : cAnd ta tb ρ S = (ta ρ S).bind fun t S1 => if t = true then tb ρ S1 else .ok false S1 := .trans rfl rfl
theorem ev_cor : cOr ta tb ρ S = (ta ρ S).bind fun t S1 => if t = true then .ok true S1 else tb ρ S1 := .trans rfl rfl
theorem ev_cnot : cNot ta ρ S = (ta ρ S).bind fun t S1 => .ok (!t) S1 := .trans rfl rfl
theorem ev_sli (l h : RO) : eSli a l h ρ S = (a ρ S).bind fun d S1 => (l ρ S1).bind fun lo S2 => (h ρ S2).bind fun hi S3 => sliD d lo hi S3 := .trans rfl rfl
theorem ev_onone : oNone ρ S = .ok none S := .trans rfl rfl
theorem ev_osome : oSome a ρ S = (a ρ S).bind fun d S1 => match d with | .int i => .ok (some i) S1 | _ => .no := .trans rfl rfl
theorem ev_chain (f g : Dv → Dv → Sto → Out Dv) : eChain f g a b c ρ S = (a ρ S).bind fun x S1 => (b ρ S1).bind fun y S2 => (f x y S2).bind fun z S3 => match z with
  | .bl true => (c ρ S3).bind fun w S4 => g y w S4
  | .bl false => .ok (.bl false) S3
  | _ => .no := .trans rfl rfl
theorem ev_meth (T : String) (f : Dv → List Dv → Sto → Out Dv) (a' : RA) : eMeth T f a a' ρ S = (a ρ S).bind fun d S1 => if tyQ T d S1 = true then (a' ρ S1).bind fun ds S2 => f d ds S2 else .no := .trans rfl rfl
theorem ev_get2 : eGet2 a b c ρ S = (a ρ S).bind fun d S1 => if tyQ "dict" d S1 = true then (b ρ S1).bind fun y S2 => (c ρ S2).bind fun z S3 => getD2 d [y, z] S3 else .no := .trans rfl rfl
theorem ev_newK : eNewK ρ S = .ok (.ref S.length) (S ++ [.dk []]) := .trans rfl rfl
theorem ev_newT : eNewT ρ S = .ok (.ref S.length) (S ++ [.dt []]) := .trans rfl rfl
theorem ev_own (n : Nat) (F : List Dv → Sto → Out Dv) (a : RA) : eOwn n F a ρ S = (a ρ S).bind fun ds S1 => if ds.length = n then F ds S1 else .no := .trans rfl rfl
theorem ev_nil : cNil ρ S = .fl (.nx ρ) S := .trans rfl rfl
theorem ev_seq : cSeq ra rb ρ S = match ra ρ S with | .fl (.nx ρ') S' => rb ρ' S' | o => o := .trans rfl rfl
theorem ev_expr : cExpr a ρ S = bindS (a ρ S) ρ fun _ S1 => .fl (.nx ρ) S1 := .trans rfl rfl
theorem ev_set (i : Nat) : cSet i a ρ S = bindS (a ρ S) ρ fun d S1 => .fl (.nx (ρ.set i (some d))) S1 := .trans rfl rfl
theorem ev_ret : cRet a ρ S = bindS (a ρ S) ρ fun d S1 => .fl (.rt d) S1 := .trans rfl rfl
theorem ev_retN : cRetN ρ S = .fl (.rt .non) S := .trans rfl rfl
theorem ev_cif : cIf ta ra rb ρ S = bindS (ta ρ S) ρ fun c S1 => if c = true then ra ρ S1 else rb ρ S1 := .trans rfl rfl
theorem ev_brk : cBrk ρ S = .fl (.bk ρ) S := .trans rfl rfl
theorem ev_ct : cCt ρ S = .fl (.ct ρ) S := .trans rfl rfl
theorem ev_asg (t : Tg) : cAsg t a ρ S = bindS (a ρ S) ρ fun d S1 => match t.set d ρ with | some ρ' => .fl (.nx ρ') S1 | none => .no := .trans rfl rfl
theorem ev_put : cPut a b c ρ S = bindS (c ρ S) ρ fun d S1 => bindS (a ρ S1) ρ fun x S2 => bindS (b ρ S2) ρ fun y S3 => match putD x y d S3 with | some S4 => .fl (.nx ρ) S4 | none => .no := .trans rfl rfl
theorem ev_aug (i : Nat) (f : Dv → Dv → Sto → Out Dv) : cAug i f a ρ S = bindS (eBin f (eVar i) a ρ S) ρ fun d S1 => .fl (.nx (ρ.set i (some d))) S1 := .trans rfl rfl
theorem ev_for (r : RI) (t : Tg) : cFor r t ra ρ S = bindS (r ρ S) ρ fun w S1 => loop w.2.ok t ra w.1 ρ S1 := .trans rfl rfl
theorem ev_comp (r : RI) (t : Tg) (c : RT) (y : RE) (vs : List Nat) : eComp r t c y vs ρ S = (r ρ S).bind fun w S1 => (compL w.2.ok t c y (wipeE ρ vs) w.1 [] S1).bind newL := .trans rfl rfl
theorem ev_newL (ds : List Dv) : newL ds S = .ok (.ref S.length) (S ++ [.lst ds]) := .trans rfl rfl
theorem ev_iseq : iSeq a ρ S = (a ρ S).bind fun d S1 => match walkD d S1 with | some w => .ok w S1 | none => .no := .trans rfl rfl
theorem ev_irange (f : List Dv → Option (List Dv)) (a : RA) : iRange f a ρ S = (a ρ S).bind fun ds S1 => match f ds with | some w => .ok (w, .tt) S1 | none => .no := .trans rfl rfl
theorem ev_ienum (a : RA) : iEnum a ρ S = (a ρ S).bind fun ds S1 => match ds with
  | [d] => match lstOf S1 d with
    | some xs => .ok (enumL xs, ckOf d xs) S1
    | none => .no
  | _ => .no := .trans rfl rfl
theorem ev_yes : cYes ρ S = .ok true S := .trans rfl rfl

/-! ### loops by an invariant -/
theorem loop_gen {ck : Sto → Prop} [∀ S, Decidable (ck S)] {t : Tg} {b : RC} (I : Nat → Env → Sto → Prop) (D : OutS → Prop) (ds : List Dv) (n : Nat)
    (hs : ∀ i d ρ S, ds[i]? = some d → I (n + i) ρ S → ck S ∧ ∃ ρ1, t.set d ρ = some ρ1 ∧ ((∃ ρ2 S2, (b ρ1 S = .fl (.nx ρ2) S2 ∨ b ρ1 S = .fl (.ct ρ2) S2) ∧ I (n + i + 1) ρ2 S2) ∨ (∃ ρ2 S2, b ρ1 S = .fl (.bk ρ2) S2 ∧ D (.fl (.nx ρ2) S2)) ∨ (∃ e S2, b ρ1 S = .fl (.rt e) S2 ∧ D (.fl (.rt e) S2))))
    (he : ∀ ρ S, I (n + ds.length) ρ S → ck S ∧ D (.fl (.nx ρ) S)) (ρ : Env) (S : Sto) (h0 : I n ρ S) : D (loop ck t b ds ρ S) := by
  induction ds generalizing n ρ S with
  | nil =>
    obtain ⟨h1, h2⟩ := he ρ S h0
    rw [loop, if_pos h1]; exact h2
  | cons d ds ih =>
    obtain ⟨hc, ρ1, e1, h⟩ := hs 0 d ρ S rfl h0
    have ih2 : ∀ ρ S, I (n + 1) ρ S → D (loop ck t b ds ρ S) := fun ρ S hI => ih (n + 1)
      (fun i d' ρ S hd hI => by
        have := hs (i + 1) d' ρ S (by simpa using hd) (by rw [show n + (i + 1) = n + 1 + i by omega]; exact hI)
        rw [show n + (i + 1) + 1 = n + 1 + i + 1 by omega] at this
        exact this)
      (fun ρ S hI => he ρ S (by rw [List.length_cons, show n + (ds.length + 1) = n + 1 + ds.length by omega]; exact hI)) ρ S hI
    rw [loop, if_pos hc, e1]
    rcases h with ⟨ρ2, S2, h | h, hI⟩ | ⟨ρ2, S2, h, hD⟩ | ⟨e, S2, h, hD⟩
    · simp only [h]; exact ih2 ρ2 S2 hI
    · simp only [h]; exact ih2 ρ2 S2 hI
    · simp only [h]; exact hD
    · simp only [h]; exact hD
/-- a loop that runs to its end -/
theorem loop_all {ck : Sto → Prop} [∀ S, Decidable (ck S)] {t : Tg} {b : RC} (I : Nat → Env → Sto → Prop) (ds : List Dv) {ρ : Env} {S : Sto} (h0 : I 0 ρ S)
    (hs : ∀ i d ρ S, ds[i]? = some d → I i ρ S → ck S ∧ ∃ ρ1, t.set d ρ = some ρ1 ∧ ∃ ρ2 S2, (b ρ1 S = .fl (.nx ρ2) S2 ∨ b ρ1 S = .fl (.ct ρ2) S2) ∧ I (i + 1) ρ2 S2)
    (he : ∀ ρ S, I ds.length ρ S → ck S) : ∃ ρ' S', loop ck t b ds ρ S = .fl (.nx ρ') S' ∧ I ds.length ρ' S' := by
  refine loop_gen (t := t) (b := b) I (fun o => ∃ ρ' S', o = .fl (.nx ρ') S' ∧ I ds.length ρ' S') ds 0 (fun i d ρ S hd hI => ?_) (fun ρ S hI => ?_) ρ S h0
  · rw [Nat.zero_add] at hI ⊢
    obtain ⟨a, ρ1, b, c⟩ := hs i d ρ S hd hI
    exact ⟨a, ρ1, b, .inl c⟩
  · rw [Nat.zero_add] at hI
    exact ⟨he ρ S hI, ρ, S, rfl, hI⟩
theorem comp_gen {ck : Sto → Prop} [∀ S, Decidable (ck S)] {t : Tg} {c : RT} {y : RE} (I : Nat → List Dv → Sto → Prop) (ds : List Dv) (ρ : Env)
    (hs : ∀ i d acc S, ds[i]? = some d → I i acc S → ck S ∧ ∃ ρ1, t.set d ρ = some ρ1 ∧ ∃ k S1, c ρ1 S = .ok k S1 ∧ (k = true → ∃ z S2, y ρ1 S1 = .ok z S2 ∧ acc.length < sizeLine ∧ I (i + 1) (acc ++ [z]) S2) ∧ (k = false → I (i + 1) acc S1))
    (he : ∀ acc S, I ds.length acc S → ck S) {acc : List Dv} {S : Sto} (h0 : I 0 acc S) : ∃ acc' S', compL ck t c y ρ ds acc S = .ok acc' S' ∧ I ds.length acc' S' := by
  suffices H : ∀ (rest : List Dv) (n : Nat) (acc : List Dv) (S : Sto), n + rest.length = ds.length → ds.drop n = rest → I n acc S → ∃ acc' S', compL ck t c y ρ rest acc S = .ok acc' S' ∧ I ds.length acc' S' from H ds 0 acc S (by simp) rfl h0
  intro rest
  induction rest with
  | nil =>
    intro n acc S hn _ hI
    have : n = ds.length := by simpa using hn
    subst this
    rw [compL, if_pos (he acc S hI)]
    exact ⟨_, _, rfl, hI⟩
  | cons d rest ih =>
    intro n acc S hn hd hI
    have hdn : ds[n]? = some d := by
      have : (ds.drop n)[0]? = some d := by rw [hd]; rfl
      simpa using this
    have hd2 : ds.drop (n + 1) = rest := by rw [← List.drop_drop, hd]; rfl
    obtain ⟨hc, ρ1, e1, k, S1, e2, h1, h2⟩ := hs n d acc S hdn hI
    rw [compL, if_pos hc, e1]
    simp only [e2, Out.bindN_ok]
    cases k with
    | true =>
      obtain ⟨z, S2, e3, hl, hI2⟩ := h1 rfl
      simp only [if_true, e3, Out.bindN_ok, if_pos hl]
      exact ih (n + 1) _ S2 (by rw [List.length_cons] at hn; omega) hd2 hI2
    | false => exact ih (n + 1) _ S1 (by rw [List.length_cons] at hn; omega) hd2 (h2 rfl)
end
/-! ### stores -/
/-- what stood stands, but at the places P -/
structure Fr (P : Nat → Prop) (S S' : Sto) : Prop where
  le : S.length ≤ S'.length
  get : ∀ (l : Nat) (o : Ob), S[l]? = some o → ¬ P l → S'[l]? = some o
abbrev Gr (S S' : Sto) : Prop := Fr (fun _ => False) S S'
theorem Fr.refl {P : Nat → Prop} (S : Sto) : Fr P S S := ⟨Nat.le_refl _, fun _ _ h _ => h⟩
theorem Fr.trans {P : Nat → Prop} {S S1 S2 : Sto} (h : Fr P S S1) (t : Fr P S1 S2) : Fr P S S2 := ⟨Nat.le_trans h.le t.le, fun l o e n => t.get l o (h.get l o e n) n⟩
theorem Fr.imp {P P' : Nat → Prop} {S S1 : Sto} (h : Fr P S S1) (i : ∀ l, l < S.length → P l → P' l) : Fr P' S S1 := ⟨h.le, fun l o e n => h.get l o e fun z => n (i l (List.getElem?_eq_some_iff.mp e).1 z)⟩
theorem Gr.any {P : Nat → Prop} {S S1 : Sto} (h : Gr S S1) : Fr P S S1 := h.imp fun _ _ z => z.elim
theorem Gr.at {S S1 : Sto} (h : Gr S S1) {l : Nat} {o : Ob} (e : S[l]? = some o) : S1[l]? = some o := h.get l o e id
theorem gr_app (S T : Sto) : Gr S (S ++ T) := ⟨by simp, fun l o e _ => by rw [List.getElem?_append_left (List.getElem?_eq_some_iff.mp e).1]; exact e⟩
theorem at_new (S : Sto) (o : Ob) : (S ++ [o])[S.length]? = some o := by simp
theorem fr_set (S : Sto) (l : Nat) (o : Ob) : Fr (· = l) S (S.set l o) := ⟨by simp, fun m u e n => by rw [List.getElem?_set_ne (fun z => n z.symm)]; exact e⟩
theorem at_set {S : Sto} {l : Nat} {o u : Ob} (e : S[l]? = some u) : (S.set l o)[l]? = some o := List.getElem?_set_self (List.getElem?_eq_some_iff.mp e).1
theorem lt_of_at {S : Sto} {l : Nat} {u : Ob} (e : S[l]? = some u) : l < S.length := (List.getElem?_eq_some_iff.mp e).1
theorem ne_new {S : Sto} {l : Nat} {u : Ob} (e : S[l]? = some u) : l ≠ S.length := Nat.ne_of_lt (lt_of_at e)
end PL
namespace PL
open PySem PySem.Spec PyProof.Rows L2
theorem fn_def {P : Program} {w : World} {K : PySem.W.Frag} {mg : Str → Option Value} {base : Heap} {x qual : Str} {st : Stmt} {f : Addr} {fd : FuncData} {N ps : List Str} {k m n : Nat} {c : RC} {G : List Dv → Sto → Out Dv} (F : Fun K x qual st f fd) (S : FnScope N ps (defScope st)) (hG : G = runF c m n) (hm : N.length = m) (hn : ps.length = n)
    (hbody : ∀ (cdv : Value) (A : Around) (outer : List PySem.Env) (s : Shared) (H : Hp) (E : XK), Room k (A.deeper (envOfC qual (defScope st) s.heap.objs.size f cdv)) →
      SCs (cxOf CX0 P w K mg base N qual (defScope st) f cdv A outer s H E).nox (fun cl d _ H => E cl d H) (defBody st) c) : FnOk P w K mg base CX0 (k + 1) f fd ps (spD K mg G n) := by
  subst hG hm hn
  exact fn_mk F S hbody
end PL
namespace PL
open PySem PySem.Spec PyProof.Rows L2
section
variable {X : Cx} {W : WX} {tg iter elt : Expr} {ifs : List Expr} {scope : Scope} {own : List (Str × Nat)} {pos spos : Pos} {r : RI} {t : Tg} {rc : RT} {ry : RE} {vs : List Nat}
theorem se_compB (own : List (Str × Nat)) (hc : X.calm = true) (hN : X.N.Nodup) (hi : SI X W tg iter r) (ok : BlkOk X.N X.env.scope scope own) (hg : Blk X scope fun Y => SG Y tg t) (ht : Blk X scope fun Y => PTs Y ifs (tG RBool X.K X.mg W rc)) (he : Blk X scope fun Y => SE Y W elt ry)
    (hv : vs = own.map (·.2)) (hown : ∀ i ∈ t.slots, i ∈ own.map (·.2)) (hs : ∀ x, foldedSetIterable iter X.env x = pure x := by intro _; rfl) : SE X W (.ListComp elt [⟨tg, iter, ifs, 0⟩] scope pos) (eComp r t rc ry vs) := by
  subst hv; exact se_comp hc hN hi ok hg ht he hown hs
theorem sc_setCompB {i : Nat} {y : Str} {py : Pos} (own : List (Str × Nat)) (hc : X.calm = true) (hN : X.N.Nodup) (hy : X.N[i]? = some y) (hyl : X.env.scope.names.lookup y = some .local) (hsw : swapsWith (.ListComp elt [⟨tg, iter, ifs, 0⟩] scope pos) (some (.Name y py)) spos.line X.env = pure true)
    (hi : SI X W tg iter r) (ok : BlkOk X.N X.env.scope scope own) (hg : Blk X scope fun Y => SG Y tg t) (ht : Blk X scope fun Y => PTs Y ifs (tG RBool X.K X.mg W rc)) (he : Blk X scope fun Y => SE Y W elt ry)
    (hv : vs = own.map (·.2)) (hown : ∀ i ∈ t.slots, i ∈ own.map (·.2)) (hs : ∀ x, foldedSetIterable iter X.env x = pure x := by intro _; rfl) : SC X W (.Assign [.Name y py] (.ListComp elt [⟨tg, iter, ifs, 0⟩] scope pos) spos) (cSet i (eComp r t rc ry vs)) := by
  subst hv; exact sc_setComp hc hN hy hyl hsw hi ok hg ht he hown hs
end
end PL
namespace PL
open PySem PySem.Spec PyProof.Rows L2
/-! ### the end -/
theorem walk_law {l : PySem.W.OpenLaw} {q : Program} {loose : List Str} {XP : (Str → Option Value) → Heap → Prop} {YP : World → Heap → Prop} {d : DefRec} {K : Params → PySem.W.Frag} {k : Nat} {x : Str} {G : List Dv → Sto → Out Dv} (hn : l.most = some 63) (hdf : d.params.defaults = []) (hr : Room k callerA)
    (hY : ∀ (w : World) (h : Heap), YP w h → (K w.params).In h)
    (hG : ∀ ns : List Int, ns.length ≤ 63 → ∃ S, G [.fl (ns.map .int)] [] = .ok (.bl true) S)
    (FF : ∀ (w : World) (mg : Str → Option Value) (fa : Addr) (h : Heap), (K w.params).In h → h.Ns mainGlobals mg → mg d.name = some (.ref fa) →
      ∃ fd : FuncData, (∀ (s : Shared) (u : Value), BindsTo s fd ⟨[u], []⟩ [(x, u)]) ∧ ∀ base : Heap, (K w.params).In base → base.Ns mainGlobals mg → FnOk l.prog w (K w.params) mg base CX0 k fa fd [x] (spD (K w.params) mg G 1)) :
    PySem.W.WalkO q loose XP YP l.row.toRowW d [] (fun f vs => PySem.call f vs) := by
  refine L2.walk_of (n := 63) (k := k) (x := x) (CX := fun _ => CX0) (sp := fun w vs H Q _ => ∃ (a : Addr) (ns : List Int), vs = [.ref a] ∧ SqL (K w.params) H a (ns.map V.int) ∧ ns.length ≤ 63 ∧ Only H ∧ ∀ H', Q (.bl true) H') hn (by decide) hdf hr hY ?_ (fun _ _ a ns hl ho hS => ⟨a, ns, rfl, hS, hl, ho, fun _ => rfl⟩) fun _ _ _ _ _ z => z
  intro w mg fa h hK hNs hmg
  obtain ⟨fd, h1, h2⟩ := FF w mg fa h hK hNs hmg
  refine ⟨fd, h1, fun base hb hn => (h2 base hb hn).imp ?_⟩
  rintro vs H Q E ⟨a, ns, rfl, hS, hl, ho, hQ⟩
  obtain ⟨S', e⟩ := hG ns hl
  refine ⟨[], [], [.fl (ns.map .int)], rfl, ⟨rfl, List.nodup_nil, fun l a o z => by simp at z⟩, Reps.one ?_, ?_⟩
  · refine Rep.fl (vs := ns.map V.int) ?_ (by simp) (fun i v d h1 h2 => ?_)
    · rcases hS with h | ⟨o, its, n, h⟩
      · left
        refine ⟨?_, by simp⟩
        rcases h with h | h
        · rcases ho a with z | ⟨o, xs, z⟩
          · rw [z] at h; cases h
          · rw [z] at h; cases h
        · exact h
      · exact .inr ⟨o, its, n, h⟩
    · rw [List.getElem?_map] at h1 h2
      cases q : ns[i]? with
      | none => rw [q] at h1; cases h1
      | some j =>
        rw [q] at h1 h2
        cases h1; cases h2
        exact .int j
  · rw [e]
    intro μ1 H1 v _ _ rv
    cases rv with
    | bl b => exact hQ H1
end PL
namespace PL
open PySem PySem.Spec PyProof.Rows L2
theorem runF_rt {c : RC} {m n : Nat} {ds : List Dv} {S S' : Sto} {d : Dv} {ρ : Env} (hρ : ds.map some ++ List.replicate (m - n) none = ρ) (hn : ds.length = n) (h : c ρ S = .fl (.rt d) S') : runF c m n ds S = .ok d S' := by
  unfold runF
  rw [if_pos hn, hρ, h]
theorem runF_nx {c : RC} {m n : Nat} {ds : List Dv} {S S' : Sto} {ρ ρ' : Env} (hρ : ds.map some ++ List.replicate (m - n) none = ρ) (hn : ds.length = n) (h : c ρ S = .fl (.nx ρ') S') : runF c m n ds S = .ok .non S' := by
  unfold runF
  rw [if_pos hn, hρ, h]
end PL

namespace PL
open PySem PySem.Spec PyProof.Rows L2
section
variable {S S' : Sto} {d x y : Dv} {ds xs : List Dv}
theorem Fr.then {P Q : Nat → Prop} {S S1 S2 : Sto} (g : Fr P S S1) (f : Fr Q S1 S2) (h : ∀ l, Q l → l < S.length → P l) : Fr P S S2 := ⟨Nat.le_trans g.le f.le, fun l o e n => f.get l o (g.get l o e n) fun q => n (h l q (List.getElem?_eq_some_iff.mp e).1)⟩
theorem Gr.new {Q : Nat → Prop} {S S1 S2 : Sto} (g : Gr S S1) (f : Fr Q S1 S2) (h : ∀ l, Q l → S.length ≤ l) : Gr S S2 := Fr.then g f fun l q hl => absurd (h l q) (by omega)
theorem lst_gr (g : Gr S S') (h : lstOf S d = some ds) : lstOf S' d = some ds := by
  cases d with
  | fl => exact h
  | ref l =>
    simp only [lstOf] at h ⊢
    split at h
    · rename_i q; rw [g.at q]; exact h
    · cases h
  | _ => cases h
theorem lst_ref {l : Nat} (h : S[l]? = some (.lst ds)) : lstOf S (.ref l) = some ds := by simp only [lstOf, h]
theorem tup_lst (h : lstOf S d = some ds) : tupOf d = none := by cases d <;> first | rfl | cases h
theorem seq_lst (h : lstOf S d = some ds) : seqOf S d = some ds := by rw [seqOf, tup_lst h, h]
theorem len_seq (h : seqOf S d = some ds) : lenD [d] S = .ok (.int ds.length) S := by
  cases d with
  | str x => cases h
  | _ => simp only [lenD, h]
theorem len_lst (h : lstOf S d = some ds) : lenD [d] S = .ok (.int ds.length) S := len_seq (seq_lst h)
theorem len_ref {l : Nat} (h : S[l]? = some (.lst ds)) : lenD [.ref l] S = .ok (.int ds.length) S := len_lst (lst_ref h)
theorem len_tup : lenD [.tup ds] S = .ok (.int ds.length) S := len_seq rfl
theorem idx_lst (h : lstOf S d = some ds) {i : Int} (e : atI ds i = some x) : idxD d (.int i) S = .ok x S := by
  cases d with
  | str => cases h
  | _ => simp only [idxD, tup_lst h, h, e]
theorem idx_ref {l : Nat} (h : S[l]? = some (.lst ds)) {i : Int} (e : atI ds i = some x) : idxD (.ref l) (.int i) S = .ok x S := idx_lst (lst_ref h) e
theorem idx_tup {i : Int} (e : atI ds i = some x) : idxD (.tup ds) (.int i) S = .ok x S := by simp only [idxD, tupOf, e]
theorem atI_nat {α : Type} {xs : List α} {i : Nat} {a : α} (e : xs[i]? = some a) : atI xs (i : Int) = some a := by
  have h := (List.getElem?_eq_some_iff.mp e).1
  unfold atI ixN
  rw [if_pos (by omega), if_pos (by omega)]
  simpa using e
theorem atI_last {α : Type} {xs : List α} {a : α} : atI (xs ++ [a]) (-1) = some a := by
  unfold atI ixN
  rw [if_neg (by omega), if_pos (by simp; omega)]
  simp only [List.length_append, List.length_cons, List.length_nil, Option.bind_some]
  rw [show (-1 + ((xs.length + (0 + 1) : Nat) : Int)).toNat = xs.length by omega]
  simp
theorem idx_last {l : Nat} (h : S[l]? = some (.lst (xs ++ [x]))) : idxD (.ref l) (.int (-1)) S = .ok x S := idx_ref h atI_last
theorem idx_t0 {a : Dv} : idxD (.tup (a :: ds)) (.int 0) S = .ok a S := idx_tup (atI_nat (i := 0) rfl)
theorem idx_t1 {a b : Dv} : idxD (.tup (a :: b :: ds)) (.int 1) S = .ok b S := idx_tup (atI_nat (i := 1) rfl)
theorem idx_t2 {a b c : Dv} : idxD (.tup (a :: b :: c :: ds)) (.int 2) S = .ok c S := idx_tup (atI_nat (i := 2) rfl)
theorem idx_t3 {a b c e : Dv} : idxD (.tup (a :: b :: c :: e :: ds)) (.int 3) S = .ok e S := idx_tup (atI_nat (i := 3) rfl)
theorem atI_mod {α : Type} {xs : List α} (h : xs ≠ []) (i : Int) : ∃ a, a ∈ xs ∧ atI xs (i % (xs.length : Int)) = some a := by
  have hp : 0 < xs.length := List.length_pos_iff.mpr h
  have h1 := Int.emod_nonneg i (b := (xs.length : Int)) (by omega)
  have h2 := Int.emod_lt_of_pos i (b := (xs.length : Int)) (by omega)
  obtain ⟨j, hj⟩ := Int.eq_ofNat_of_zero_le h1
  have hl : j < xs.length := by omega
  exact ⟨xs[j], List.getElem_mem hl, by rw [hj]; exact atI_nat (List.getElem?_eq_getElem hl)⟩
theorem rangeL_get {lo hi : Int} {i : Nat} (h : (rangeL lo hi)[i]? = some d) : d = .int (lo + i) ∧ lo + i < hi := by
  unfold rangeL at h
  rw [List.getElem?_map] at h
  obtain ⟨j, hj, e⟩ := Option.map_eq_some_iff.mp h
  obtain ⟨hl, e2⟩ := List.getElem?_eq_some_iff.mp hj
  simp at hl e2
  subst e2
  exact ⟨e.symm, by omega⟩
theorem rangeL_len (lo hi : Int) : (rangeL lo hi).length = (hi - lo).toNat := by unfold rangeL; simp
theorem rok_of {i : Int} (h : 0 ≤ i) (h2 : i < 2 ^ 62) : rok i = true := by unfold rok; exact @decide_eq_true _ (Classical.propDecidable _) ⟨by omega, h2⟩
theorem rng1_of {i : Int} (h : 0 ≤ i) (h2 : i < 2 ^ 62) : rng1 [.int i] = some (rangeL 0 i) := by simp only [rng1]; rw [if_pos (rok_of h h2)]
theorem app_ref {l : Nat} (h : S[l]? = some (.lst ds)) (hl : ds.length < sizeLine) : appendD (.ref l) [x] S = .ok .non (S.set l (.lst (ds ++ [x]))) := by simp only [appendD, lmap, h, if_pos hl]
theorem pop_ref {l : Nat} (h : S[l]? = some (.lst (ds ++ [x]))) : popD (.ref l) [] S = .ok x (S.set l (.lst ds)) := by
  simp only [popD, lmap, h]
  simp
theorem tyq_ref {l : Nat} (h : S[l]? = some (.lst ds)) : tyQ "list" (.ref l) S = true := by simp only [tyQ, h]; rfl
theorem list_ref {l : Nat} (h : S[l]? = some (.lst ds)) : listD [.ref l] S = newL ds S := by simp only [listD, seq_lst (lst_ref h)]
theorem tuple_ref {l : Nat} (h : S[l]? = some (.lst ds)) : tupleD [.ref l] S = .ok (.tup ds) S := by simp only [tupleD, lst_ref h]
theorem walk_ref {l : Nat} (h : S[l]? = some (.lst ds)) : walkD (.ref l) S = some (ds, .ls l ds) := by simp only [walkD, seq_lst (lst_ref h)]; rfl
theorem walk_tup : walkD (.tup ds) S = some (ds, .tt) := by simp only [walkD, seqOf, tupOf]; rfl
theorem sline (n : Nat) (h : n ≤ 16777216) : n ≤ sizeLine := h
end

/-! ### the law's draws -/
section
noncomputable def drawsB : RC := cSeq (cSet 4 (eCon (.int 0))) (cSeq (cIf (cBl (eBin gtD (eCall lenD (aCons (eVar 0) (aNil))) (eCon (.int 0)))) (cSet 4 (eBin modD (eBin idxD (eVar 0) (eBin modD (eVar 3) (eCall lenD (aCons (eVar 0) (aNil))))) (eBin powD (eCon (.int 10)) (eCon (.int 18))))) (cNil)) (cExpr (eMeth "list" appendD (eVar 2) (aCons (eBin addD (eVar 4) (eBin mulD (eCon (.int 7919)) (eBin fdivD (eVar 3) (eCall max2D (aCons (eCon (.int 1)) (aCons (eCall lenD (aCons (eVar 0) (aNil))) (aNil))))))) (aNil)))))
noncomputable def drawsC : RC := cSeq (cSet 2 (eLst (aNil))) (cSeq (cFor (iRange rng1 (aCons (eVar 1) (aNil))) (.nm 3) drawsB) (cRet (eVar 2)))
variable {S S' : Sto} {d : Dv}
theorem draws_run {ns : List Int} {n : Nat} (hd : lstOf S d = some (ns.map .int)) (hn : n ≤ 1000) (hl : ns.length ≤ 63) : ∃ (l : Nat) (xs : List Int) (S' : Sto), runF drawsC 5 2 [d, .int n] S = .ok (.ref l) S' ∧ Gr S S' ∧ S.length ≤ l ∧ S'[l]? = some (.lst (xs.map .int)) ∧ xs.length = n ∧ ∀ x ∈ xs, 0 ≤ x ∧ x < 2 ^ 62 := by
  have h10 : CPow 10 18 := ⟨by omega, by omega, by omega⟩
  refine (loop_all (ck := Ck.tt.ok) (t := .nm 3) (b := drawsB) (S := S ++ [.lst []]) (ρ := [some d, some (.int n), some (.ref S.length), none, none])
    (fun i ρ S' => ∃ (v3 v4 : Option Dv) (xs : List Int), ρ = [some d, some (.int n), some (.ref S.length), v3, v4] ∧ Gr S S' ∧ S'[S.length]? = some (.lst (xs.map .int)) ∧ xs.length = i ∧ ∀ x ∈ xs, (0 : Int) ≤ x ∧ x < 2 ^ 62) (rangeL 0 n)
    ⟨none, none, [], rfl, gr_app _ _, at_new _ _, rfl, by simp⟩ ?_ (fun _ _ _ => trivial)).elim fun ρ' ⟨S', e, v3, v4, xs, hρ, g, h1, h2, h3⟩ => ?_
  rotate_left
  · subst hρ
    refine ⟨S.length, xs, S', ?_, g, Nat.le_refl _, h1, by rw [h2, rangeL_len]; omega, h3⟩
    refine runF_rt (ρ := [some d, some (.int n), none, none, none]) rfl rfl ?_
    simp only [drawsC, ev_var, ev_con, ev_bin, ev_un, ev_anil, ev_acons, ev_call, ev_tup, ev_lst, ev_not, ev_and, ev_or, ev_if, ev_cbl, ev_btrue, ev_cand, ev_cor, ev_cnot, ev_sli, ev_onone, ev_osome, ev_chain, ev_meth, ev_get2, ev_newK, ev_newT, ev_own, ev_nil, ev_seq, ev_expr, ev_set, ev_ret, ev_retN, ev_cif, ev_brk, ev_ct, ev_asg, ev_put, ev_aug, ev_for, ev_comp, ev_newL, ev_iseq, ev_irange, ev_ienum, ev_yes, Out.bind_ok, Out.bindN_ok, bindS_ok, Tg.set, Tg.sets, List.getElem?_cons_zero, List.getElem?_cons_succ, List.set_cons_zero, List.set_cons_succ, wipeE, List.length_cons, List.length_nil, Nat.reduceAdd, Nat.reduceLeDiff, Nat.reduceEqDiff, ↓reduceIte, Bool.false_eq_true, decide_eq_true_eq, addD, subD, mulD, fdivD, modD, powD, negD, ltD, leD, gtD, geD, andD, orD, xorD, max2D, min2D, Nat.zero_le, rng1_of (i := (n : Int)) (by omega) (by omega), e]
  · rintro i v ρ S1 hv ⟨v3, v4, xs, rfl, g, h1, h2, h3⟩
    obtain ⟨rfl, hlt⟩ := rangeL_get hv
    refine ⟨trivial, _, rfl, ?_⟩
    have hd1 := lst_gr g hd
    have hlen : (xs.map Dv.int).length < sizeLine := by rw [List.length_map]; unfold sizeLine; omega
    -- what is put in
    have key : ∃ c : Int, 0 ≤ c ∧ c < 10 ^ 18 ∧ (cIf (cBl (eBin gtD (eCall lenD (aCons (eVar 0) (aNil))) (eCon (.int 0)))) (cSet 4 (eBin modD (eBin idxD (eVar 0) (eBin modD (eVar 3) (eCall lenD (aCons (eVar 0) (aNil))))) (eBin powD (eCon (.int 10)) (eCon (.int 18))))) (cNil))
        [some d, some (.int n), some (.ref S.length), some (.int (0 + i)), some (.int 0)] S1 = .fl (.nx [some d, some (.int n), some (.ref S.length), some (.int (0 + i)), some (.int c)]) S1 := by
      by_cases hns : ns = []
      · subst hns
        refine ⟨0, by omega, by omega, ?_⟩
        simp [ev_var, ev_con, ev_bin, ev_un, ev_anil, ev_acons, ev_call, ev_tup, ev_lst, ev_not, ev_and, ev_or, ev_if, ev_cbl, ev_btrue, ev_cand, ev_cor, ev_cnot, ev_sli, ev_onone, ev_osome, ev_chain, ev_meth, ev_get2, ev_newK, ev_newT, ev_own, ev_nil, ev_seq, ev_expr, ev_set, ev_ret, ev_retN, ev_cif, ev_brk, ev_ct, ev_asg, ev_put, ev_aug, ev_for, ev_comp, ev_newL, ev_iseq, ev_irange, ev_ienum, ev_yes, Out.bind_ok, Out.bindN_ok, bindS_ok, Tg.set, Tg.sets, List.getElem?_cons_zero, List.getElem?_cons_succ, List.set_cons_zero, List.set_cons_succ, wipeE, List.length_cons, List.length_nil, Nat.reduceAdd, Nat.reduceLeDiff, Nat.reduceEqDiff, ↓reduceIte, Bool.false_eq_true, decide_eq_true_eq, addD, subD, mulD, fdivD, modD, powD, negD, ltD, leD, gtD, geD, andD, orD, xorD, max2D, min2D, len_lst hd1]
      · have hp : 0 < ns.length := List.length_pos_iff.mpr hns
        obtain ⟨a, _, ha⟩ := atI_mod (xs := ns.map Dv.int) (by simpa using hns) (0 + i)
        obtain ⟨c, rfl⟩ : ∃ c, a = .int c := by
          rename_i hm
          obtain ⟨c, _, e⟩ := List.mem_map.mp hm
          exact ⟨c, e.symm⟩
        refine ⟨c % 10 ^ 18, Int.emod_nonneg _ (by omega), Int.emod_lt_of_pos _ (by omega), ?_⟩
        have hpI : (0 : Int) < ((ns.map Dv.int).length : Int) := by rw [List.length_map]; omega
        simp only [ev_var, ev_con, ev_bin, ev_un, ev_anil, ev_acons, ev_call, ev_tup, ev_lst, ev_not, ev_and, ev_or, ev_if, ev_cbl, ev_btrue, ev_cand, ev_cor, ev_cnot, ev_sli, ev_onone, ev_osome, ev_chain, ev_meth, ev_get2, ev_newK, ev_newT, ev_own, ev_nil, ev_seq, ev_expr, ev_set, ev_ret, ev_retN, ev_cif, ev_brk, ev_ct, ev_asg, ev_put, ev_aug, ev_for, ev_comp, ev_newL, ev_iseq, ev_irange, ev_ienum, ev_yes, Out.bind_ok, Out.bindN_ok, bindS_ok, Tg.set, Tg.sets, List.getElem?_cons_zero, List.getElem?_cons_succ, List.set_cons_zero, List.set_cons_succ, wipeE, List.length_cons, List.length_nil, Nat.reduceAdd, Nat.reduceLeDiff, Nat.reduceEqDiff, ↓reduceIte, Bool.false_eq_true, decide_eq_true_eq, addD, subD, mulD, fdivD, modD, powD, negD, ltD, leD, gtD, geD, andD, orD, xorD, max2D, min2D, len_lst hd1, hpI, idx_lst hd1 ha, h10, Int.reduceToNat, show (0 : Int) < 10 ^ 18 by omega]
    obtain ⟨c, c0, c1, e1⟩ := key
    have hm : (max 1 ((ns.map Dv.int).length : Int)) = max 1 (ns.length : Int) := by rw [List.length_map]
    have hmp : (0 : Int) < max 1 (ns.length : Int) := by omega
    have hlog : (max 1 (ns.length : Int)).natAbs.log2 < 9000 := by
      have h1 := Nat.log2_le_self (max 1 (ns.length : Int)).natAbs
      have h2 : (max 1 (ns.length : Int)).natAbs ≤ 64 := by omega
      omega
    have hq0 : 0 ≤ ((0 : Int) + i) / max 1 (ns.length : Int) := Int.ediv_nonneg (by omega) (by omega)
    have hq1 : ((0 : Int) + i) / max 1 (ns.length : Int) ≤ i := by
      have := Int.ediv_le_self (a := (0 : Int) + i) (max 1 (ns.length : Int)) (by omega)
      omega
    have hmul : CMul 7919 (((0 : Int) + i) / max 1 (ns.length : Int)) := .inl ⟨by omega, by omega⟩
    refine ⟨[some d, some (.int n), some (.ref S.length), some (.int (0 + i)), some (.int c)], S1.set S.length (.lst ((xs ++ [c + 7919 * ((0 + i) / max 1 (ns.length : Int))]).map .int)), .inl ?_, _, _, _, rfl, ?_, at_set h1, by simp [h2], ?_⟩
    · unfold drawsB
      rw [ev_seq]
      simp only [ev_set, ev_con, bindS_ok, List.set_cons_zero, List.set_cons_succ]
      rw [ev_seq, e1]
      simp only [ev_var, ev_con, ev_bin, ev_un, ev_anil, ev_acons, ev_call, ev_tup, ev_lst, ev_not, ev_and, ev_or, ev_if, ev_cbl, ev_btrue, ev_cand, ev_cor, ev_cnot, ev_sli, ev_onone, ev_osome, ev_chain, ev_meth, ev_get2, ev_newK, ev_newT, ev_own, ev_nil, ev_seq, ev_expr, ev_set, ev_ret, ev_retN, ev_cif, ev_brk, ev_ct, ev_asg, ev_put, ev_aug, ev_for, ev_comp, ev_newL, ev_iseq, ev_irange, ev_ienum, ev_yes, Out.bind_ok, Out.bindN_ok, bindS_ok, Tg.set, Tg.sets, List.getElem?_cons_zero, List.getElem?_cons_succ, List.set_cons_zero, List.set_cons_succ, wipeE, List.length_cons, List.length_nil, Nat.reduceAdd, Nat.reduceLeDiff, Nat.reduceEqDiff, ↓reduceIte, Bool.false_eq_true, decide_eq_true_eq, addD, subD, mulD, fdivD, modD, powD, negD, ltD, leD, gtD, geD, andD, orD, xorD, max2D, min2D, len_lst hd1, tyq_ref h1, hm, hmp, hlog, hmul, and_self, app_ref h1 hlen, List.map_append, List.map_cons, List.map_nil]
    · exact g.new (fr_set S1 S.length _) fun l z => by subst z; exact Nat.le_refl _
    · intro x hx
      rcases List.mem_append.mp hx with hx | hx
      · exact h3 x hx
      · rw [List.mem_singleton] at hx; subst hx; constructor <;> omega
end
end PL

namespace PL
open PySem PySem.Spec PyProof.Rows L2
section
variable {S S' : Sto} {d x y : Dv} {ds xs : List Dv}
theorem Fr.at {S S1 : Sto} (h : Fr (fun _ => False) S S1) {l : Nat} {o : Ob} (e : S[l]? = some o) : S1[l]? = some o := h.get l o e id
theorem Fr.any {P : Nat → Prop} {S S1 : Sto} (h : Fr (fun _ => False) S S1) : Fr P S S1 := h.imp fun _ _ z => z.elim
theorem seq_of {a b : RC} {ρ ρ' : Env} {S S' : Sto} (h : a ρ S = .fl (.nx ρ') S') : cSeq a b ρ S = b ρ' S' := by simp only [cSeq, h]
theorem seq_rt {a b : RC} {ρ : Env} {S S' : Sto} {d : Dv} (h : a ρ S = .fl (.rt d) S') : cSeq a b ρ S = .fl (.rt d) S' := by simp only [cSeq, h]
theorem if_t {t : RT} {a b : RC} {ρ : Env} {S S' : Sto} (h : t ρ S = .ok true S') : cIf t a b ρ S = a ρ S' := by simp only [cIf, h, bindS_ok, ↓reduceIte]
theorem if_f {t : RT} {a b : RC} {ρ : Env} {S S' : Sto} (h : t ρ S = .ok false S') : cIf t a b ρ S = b ρ S' := by simp only [cIf, h, bindS_ok, Bool.false_eq_true, ↓reduceIte]
theorem set_of {i : Nat} {e : RE} {ρ : Env} {S S' : Sto} {d : Dv} (h : e ρ S = .ok d S') : cSet i e ρ S = .fl (.nx (ρ.set i (some d))) S' := by simp only [cSet, h, bindS_ok]
theorem expr_of {e : RE} {ρ : Env} {S S' : Sto} {d : Dv} (h : e ρ S = .ok d S') : cExpr e ρ S = .fl (.nx ρ) S' := by simp only [cExpr, h, bindS_ok]
theorem ret_of {e : RE} {ρ : Env} {S S' : Sto} {d : Dv} (h : e ρ S = .ok d S') : cRet e ρ S = .fl (.rt d) S' := by simp only [cRet, h, bindS_ok]
theorem for_of {r : RI} {t : Tg} {b : RC} {ρ : Env} {S S' : Sto} {w : List Dv × Ck} (h : r ρ S = .ok w S') : cFor r t b ρ S = loop w.2.ok t b w.1 ρ S' := by simp only [cFor, h, bindS_ok]
theorem add_int (i j : Int) : addD (.int i) (.int j) S = .ok (.int (i + j)) S := .trans rfl rfl
theorem sub_int (i j : Int) : subD (.int i) (.int j) S = .ok (.int (i - j)) S := .trans rfl rfl
theorem lt_int (i j : Int) : ltD (.int i) (.int j) S = .ok (.bl (decide (i < j))) S := .trans rfl rfl
theorem le_int (i j : Int) : leD (.int i) (.int j) S = .ok (.bl (decide (i ≤ j))) S := .trans rfl rfl
theorem gt_int (i j : Int) : gtD (.int i) (.int j) S = .ok (.bl (decide (j < i))) S := .trans rfl rfl
theorem ge_int (i j : Int) : geD (.int i) (.int j) S = .ok (.bl (decide (j ≤ i))) S := .trans rfl rfl
theorem neg_int (i : Int) : negD (.int i) S = .ok (.int (-i)) S := .trans rfl rfl
theorem and_int (i j : Int) : andD (.int i) (.int j) S = .ok (.int (Builtin.bitAnd i j)) S := .trans rfl rfl
theorem or_int (i j : Int) : orD (.int i) (.int j) S = .ok (.int (Builtin.bitOr i j)) S := .trans rfl rfl
theorem xor_int (i j : Int) : xorD (.int i) (.int j) S = .ok (.int (Builtin.bitXor i j)) S := .trans rfl rfl
theorem max2_int (i j : Int) : max2D [.int i, .int j] S = .ok (.int (max i j)) S := .trans rfl rfl
theorem min2_int (i j : Int) : min2D [.int i, .int j] S = .ok (.int (min i j)) S := .trans rfl rfl
theorem int_bl (b : Bool) : intD [.bl b] S = .ok (.int (if b then 1 else 0)) S := .trans rfl rfl
theorem int_int (b : Int) : intD [.int b] S = .ok (.int b) S := .trans rfl rfl
theorem sli_tup (lo hi : Option Int) : sliD (.tup ds) lo hi S = .ok (.tup (cutD ds lo hi)) S := .trans rfl rfl
theorem beqD (a b : Str) : (a == b) = decide (a = b) := by by_cases h : a = b <;> simp [h]
theorem shp_int (i : Int) : SeqAt.shaped (.int i) = true := by rfl
abbrev Sk (x : Str) : Prop := PyData.strOk x = true
theorem sk_of {x : Str} (h : ∀ c ∈ x.cps.toList, c < 1114112) : Sk x := by
  show x.cps.all (fun c => decide (c < 1114112)) = true
  rw [← Array.all_toList, List.all_eq_true]
  exact fun c hc => decide_eq_true (h c hc)
theorem sk_app {x y : Str} (h : Sk x) (k : Sk y) : Sk (x ++ y) := by
  show (x.cps ++ y.cps).all (fun c => decide (c < 1114112)) = true
  rw [Array.all_append]
  exact Bool.and_eq_true_iff.mpr ⟨h, k⟩
theorem shp_str {x : Str} (h : Sk x) : SeqAt.shaped (.str x) = true := by
  unfold SeqAt.shaped
  simp only [PyData.canLay0, PyData.depth, h, Bool.true_and]; rfl
theorem shp_bl (x : Bool) : SeqAt.shaped (.bool x) = true := by rfl
theorem eq_int (i j : Int) : eqD (.int i) (.int j) S = .ok (.bl (decide (i = j))) S := by
  simp only [eqD, eqq, toP, shp_int, and_self, ↓reduceIte, PyData.eqv]; rfl
theorem ne_int (i j : Int) : neD (.int i) (.int j) S = .ok (.bl (!decide (i = j))) S := by
  simp only [neD, eqq, toP, shp_int, and_self, ↓reduceIte, PyData.eqv]; rfl
theorem eq_str {i j : Str} (hi : Sk i) (hj : Sk j) : eqD (.str i) (.str j) S = .ok (.bl (decide (i = j))) S := by
  simp only [eqD, eqq, toP, shp_str hi, shp_str hj, and_self, ↓reduceIte, PyData.eqv, beqD]
theorem ne_str {i j : Str} (hi : Sk i) (hj : Sk j) : neD (.str i) (.str j) S = .ok (.bl (!decide (i = j))) S := by
  simp only [neD, eqq, toP, shp_str hi, shp_str hj, and_self, ↓reduceIte, PyData.eqv, beqD]
theorem eq_bl (i j : Bool) : eqD (.bl i) (.bl j) S = .ok (.bl (decide (i = j))) S := by
  simp only [eqD, eqq, toP, shp_bl, and_self, ↓reduceIte, PyData.eqv]; cases i <;> cases j <;> rfl
theorem ne_bl (i j : Bool) : neD (.bl i) (.bl j) S = .ok (.bl (!decide (i = j))) S := by
  simp only [neD, eqq, toP, shp_bl, and_self, ↓reduceIte, PyData.eqv]; cases i <;> cases j <;> rfl
theorem toPs_strs (n : Nat) : ∀ ys : List Str, toPs (n + 1) S (ys.map .str) = some (ys.map .str)
  | [] => by simp only [List.map_nil, toPs]
  | y :: ys => by simp only [List.map_cons, toPs, toP, toPs_strs n ys]
/-- a text in a list of texts -/
theorem mem_strs {l : Nat} {ys : List Str} (h : S[l]? = some (.lst (ys.map .str))) (hs : SeqAt.shaped (.list (ys.map .str)) = true) {x : Str} (hx : Sk x) : memq S (.str x) (.ref l) = some (decide (x ∈ ys)) := by
  simp only [memq, tupOf, lst_ref h, toP, toPs_strs 38 ys, shp_str hx, hs, and_self, ↓reduceIte, List.any_map, Option.some.injEq]
  induction ys with
  | nil => rfl
  | cons y ys ih =>
    rw [List.any_cons]
    have : (ys.any ((fun z => z.eqv (PyData.str x)) ∘ PyData.str)) = decide (x ∈ ys) := by
      clear ih h hs
      induction ys with
      | nil => rfl
      | cons z ys ih => rw [List.any_cons, ih]; simp [PyData.eqv, beqD, List.mem_cons, eq_comm]
    rw [this]
    simp [PyData.eqv, beqD, List.mem_cons, eq_comm]
/-- a text in a row of texts -/
theorem mem_tstrs (ys : List Str) (x : Str) : memq S (.str x) (.tup (ys.map .str)) = some (decide (x ∈ ys)) := by
  have h1 : (ys.map Dv.str).all flatD = true := by simp [List.all_map, flatD]
  simp only [memq, tupOf, h1, flatD, and_self, ↓reduceIte, Option.some.injEq]
  clear h1
  induction ys with
  | nil => rfl
  | cons y ys ih => rw [List.map_cons, List.any_cons, ih]; simp [eqF, beqD, List.mem_cons, eq_comm]
theorem strlen_app (a b : Str) : (a ++ b).length = a.length + b.length := by
  show (a.cps ++ b.cps).size = _
  rw [Array.size_append]; rfl
theorem str_app (a b : Str) : (a ++ b).cps.toList = a.cps.toList ++ b.cps.toList := by
  show (a.cps ++ b.cps).toList = _
  rw [Array.toList_append]
theorem strlen_toList (a : Str) : a.cps.toList.length = a.length := by
  show _ = a.cps.size
  rw [Array.length_toList]
theorem add_str {a b : Str} (h : a.length + b.length ≤ sizeLine) : addD (.str a) (.str b) S = .ok (.str (a ++ b)) S := by simp only [addD, h, ↓reduceIte]
theorem idx_smod {x : Str} {n : Int} (hx : (x.length : Int) = n) (h0 : 0 < n) (hl : x.length ≤ sizeLine) (i : Int) : ∃ c ∈ x.cps.toList, idxD (.str x) (.int (i % n)) S = .ok (.str ⟨#[c]⟩) S := by
  obtain ⟨c, hc, e⟩ := atI_mod (xs := x.cps.toList) (by intro z; have := strlen_toList x; rw [z] at this; simp at this; omega) i
  rw [strlen_toList, hx] at e
  exact ⟨c, hc, by simp only [idxD, hl, ↓reduceIte, e]⟩
end

/-! ### the law's names -/
def abc : Str := "abcdefghijklmnopqrstuvwxyz"
def takenW : List Str := ["start", "rule", "row", "mix", "many", "any", "kind", "not", "both", "either", "way", "mark"]
structure NameOk (x : Str) : Prop where
  len : 1 ≤ x.length ∧ x.length ≤ 8
  low : ∀ c ∈ x.cps.toList, c ∈ abc.cps.toList
  free : x ∉ takenW
noncomputable def nameB : RC := cSeq (cSet 5 (eBin addD (eBin addD (eBin fdivD (eVar 0) (eCon (.int 208))) (eBin mulD (eBin mulD (eCon (.int 7)) (eVar 3)) (eVar 3))) (eBin mulD (eBin modD (eBin fdivD (eVar 0) (eCon (.int 5408))) (eCon (.int 26))) (eVar 3)))) (cSet 2 (eBin addD (eVar 2) (eBin idxD (eVar 1) (eBin modD (eVar 5) (eCon (.int 26))))))
noncomputable def nameC : RC := cSeq (cSet 1 (eCon (.str "abcdefghijklmnopqrstuvwxyz"))) (cSeq (cSet 2 (eBin idxD (eVar 1) (eBin modD (eVar 0) (eCon (.int 26))))) (cSeq (cFor (iRange rng1 (aCons (eBin modD (eBin fdivD (eVar 0) (eCon (.int 26))) (eCon (.int 8))) (aNil))) (.nm 3) nameB) (cSeq (cSet 4 (eLst (aCons (eCon (.str "start")) (aCons (eCon (.str "rule")) (aCons (eCon (.str "row")) (aCons (eCon (.str "mix")) (aCons (eCon (.str "many")) (aCons (eCon (.str "any")) (aCons (eCon (.str "kind")) (aCons (eCon (.str "not")) (aCons (eCon (.str "both")) (aCons (eCon (.str "either")) (aCons (eCon (.str "way")) (aCons (eCon (.str "mark")) (aNil))))))))))))))) (cSeq (cIf (cBl (eBin inD (eVar 2) (eVar 4))) (cRet (eBin addD (eVar 2) (eCon (.str "z")))) (cNil)) (cRet (eVar 2))))))
theorem abc_lt : ∀ c ∈ abc.cps.toList, c < 1114112 := by
  have : abc.cps.toList.all (fun c => decide (c < 1114112)) = true := by decide +kernel
  intro c hc
  exact of_decide_eq_true (List.all_eq_true.mp this c hc)
theorem NameOk.sk {x : Str} (h : NameOk x) : Sk x := sk_of fun c hc => abc_lt c (h.low c hc)
theorem log26 : (26 : Int).natAbs.log2 < 9000 := by have := Nat.log2_le_self 26; show Nat.log2 26 < 9000; omega
theorem log_lt {n : Nat} (h : n < 9000) : (n : Int).natAbs.log2 < 9000 := by have := Nat.log2_le_self n; show Nat.log2 n < 9000; omega
theorem fdiv_lit {S : Sto} {i : Int} {n : Nat} (h0 : 0 < n) (h : n < 9000) : fdivD (.int i) (.int (n : Int)) S = .ok (.int (i / n)) S := by
  simp only [fdivD]
  rw [if_pos ⟨by omega, log_lt h⟩]
theorem mod_pos {S : Sto} {i j : Int} (h0 : 0 < j) : modD (.int i) (.int j) S = .ok (.int (i % j)) S := by simp only [modD, h0, ↓reduceIte]
theorem mul_l {S : Sto} {i j : Int} (h : -2 ^ 64 < i ∧ i < 2 ^ 64) : mulD (.int i) (.int j) S = .ok (.int (i * j)) S := by
  simp only [mulD]
  rw [if_pos (show CMul i j from Or.inl h)]
theorem mul_r {S : Sto} {i j : Int} (h : -2 ^ 64 < j ∧ j < 2 ^ 64) : mulD (.int i) (.int j) S = .ok (.int (i * j)) S := by
  simp only [mulD]
  rw [if_pos (show CMul i j from Or.inr h)]
theorem fdiv_sm {S : Sto} {i j : Int} (h0 : 0 < j) (h : j < 9000) : fdivD (.int i) (.int j) S = .ok (.int (i / j)) S := by
  obtain ⟨n, rfl⟩ := Int.eq_ofNat_of_zero_le (Int.le_of_lt h0)
  exact fdiv_lit (by omega) (by omega)
theorem mul_sm {S : Sto} {i j : Int} (h : -10000000 < i) (h2 : i < 10000000) : mulD (.int i) (.int j) S = .ok (.int (i * j)) S := mul_l (by omega)
theorem mul_smr {S : Sto} {i j : Int} (h : -10000000 < j) (h2 : j < 10000000) : mulD (.int i) (.int j) S = .ok (.int (i * j)) S := mul_r (by omega)
theorem name_run {S : Sto} {d : Int} (h0 : 0 ≤ d) : ∃ (x : Str) (S' : Sto), runF nameC 6 1 [.int d] S = .ok (.str x) S' ∧ Gr S S' ∧ NameOk x := by
  have hab : ((abc.length : Nat) : Int) = 26 := by decide
  have habl : abc.length ≤ sizeLine := by show (26 : Nat) ≤ 2 ^ 24; omega
  have fd (n : Nat) (h0 : 0 < n) (h : n < 9000) (i : Int) (S : Sto) := fdiv_lit (S := S) (i := i) h0 h
  obtain ⟨c1, hc1, e1⟩ := idx_smod (S := S) hab (by omega) habl d
  have hm0 := Int.emod_nonneg (d / 26) (b := 8) (by omega)
  have hm1 := Int.emod_lt_of_pos (d / 26) (b := 8) (by omega)
  refine (loop_all (ck := Ck.tt.ok) (t := .nm 3) (b := nameB) (S := S) (ρ := [some (.int d), some (.str abc), some (.str ⟨#[c1]⟩), none, none, none])
    (fun i ρ S' => ∃ (v3 v5 : Option Dv) (x : Str), ρ = [some (.int d), some (.str abc), some (.str x), v3, none, v5] ∧ S' = S ∧ x.length = 1 + i ∧ ∀ c ∈ x.cps.toList, c ∈ abc.cps.toList) (rangeL 0 (d / 26 % 8))
    ⟨none, none, _, rfl, rfl, rfl, by intro c hc; simp at hc; subst hc; exact hc1⟩ ?_ (fun _ _ _ => trivial)).elim fun ρ' ⟨S', e, v3, v5, x, hρ, hS, h1, h2⟩ => ?_
  · rintro i v ρ S1 hv ⟨v3, v5, x, rfl, rfl, h1, h2⟩
    obtain ⟨rfl, hlt⟩ := rangeL_get hv
    refine ⟨trivial, _, rfl, ?_⟩
    have hi : (0 : Int) + i < 8 := by omega
    obtain ⟨c2, hc2, e2⟩ := idx_smod (S := S1) hab (by omega) habl (d / 208 + 7 * (0 + i) * (0 + i) + d / 5408 % 26 * (0 + i))
    have hx : x.length + Str.length ⟨#[c2]⟩ ≤ sizeLine := by
      show x.length + 1 ≤ 2 ^ 24
      omega
    refine ⟨[some (.int d), some (.str abc), some (.str (x ++ ⟨#[c2]⟩)), some (.int (0 + i)), none, some (.int (d / 208 + 7 * (0 + i) * (0 + i) + d / 5408 % 26 * (0 + i)))], S1, .inl ?_, _, _, _, rfl, rfl, ?_, ?_⟩
    · have f1 : fdivD (.int d) (.int 208) S1 = .ok (.int (d / 208)) S1 := fdiv_lit (n := 208) (by omega) (by omega)
      have f2 : fdivD (.int d) (.int 5408) S1 = .ok (.int (d / 5408)) S1 := fdiv_lit (n := 5408) (by omega) (by omega)
      have f3 : mulD (.int 7) (.int (0 + i)) S1 = .ok (.int (7 * (0 + i))) S1 := mul_l (by omega)
      have f4 : mulD (.int (7 * (0 + i))) (.int (0 + i)) S1 = .ok (.int (7 * (0 + i) * (0 + i))) S1 := mul_r (by omega)
      have f5 : mulD (.int (d / 5408 % 26)) (.int (0 + i)) S1 = .ok (.int (d / 5408 % 26 * (0 + i))) S1 := mul_r (by omega)
      have f6 : modD (.int (d / 5408)) (.int 26) S1 = .ok (.int (d / 5408 % 26)) S1 := mod_pos (by omega)
      have f7 : modD (.int (d / 208 + 7 * (0 + i) * (0 + i) + d / 5408 % 26 * (0 + i))) (.int 26) S1 = _ := mod_pos (by omega)
      simp only [nameB, ev_seq, ev_set, ev_bin, ev_var, ev_con, List.getElem?_cons_zero, List.getElem?_cons_succ, List.set_cons_zero, List.set_cons_succ, Out.bind_ok, bindS_ok, f1, f2, f3, f4, f5, f6, f7, addD, e2, hx, ↓reduceIte]
    · rw [strlen_app, h1]; show 1 + i + 1 = _; omega
    · intro c hc
      rw [str_app] at hc
      rcases List.mem_append.mp hc with hc | hc
      · exact h2 c hc
      · simp at hc; subst hc; exact hc2
  · subst hρ hS
    rw [rangeL_len] at h1
    have hlen : x.length ≤ 8 := by omega
    have hsk : Sk x := sk_of fun c hc => abc_lt c (h2 c hc)
    have hin : memq (S' ++ [.lst (takenW.map .str)]) (.str x) (.ref S'.length) = some (decide (x ∈ takenW)) := mem_strs (at_new _ _) (by decide +kernel) hsk
    have g : Gr S' (S' ++ [.lst (takenW.map .str)]) := gr_app _ _
    have f1 : fdivD (.int d) (.int 26) S' = .ok (.int (d / 26)) S' := fdiv_lit (n := 26) (by omega) (by omega)
    have f2 : modD (.int (d / 26)) (.int 8) S' = .ok (.int (d / 26 % 8)) S' := mod_pos (by omega)
    have f3 : modD (.int d) (.int 26) S' = .ok (.int (d % 26)) S' := mod_pos (by omega)
    have r1 := rng1_of hm0 (by omega)
    have s12 : (takenW.map Dv.str).length ≤ sizeLine := by show (12 : Nat) ≤ 2 ^ 24; omega
    have et : ([.str "start", .str "rule", .str "row", .str "mix", .str "many", .str "any", .str "kind", .str "not", .str "both", .str "either", .str "way", .str "mark"] : List Dv) = takenW.map .str := rfl
    have ea : ("abcdefghijklmnopqrstuvwxyz" : Str) = abc := rfl
    by_cases ht : x ∈ takenW
    · have hz : ∀ t ∈ takenW, NameOk (t ++ "z") := by
        have : takenW.all (fun t => decide (1 ≤ (t ++ ("z" : Str)).length ∧ (t ++ ("z" : Str)).length ≤ 8) && (t ++ ("z" : Str)).cps.toList.all (fun c => decide (c ∈ abc.cps.toList)) && decide ((t ++ ("z" : Str)) ∉ takenW)) = true := by decide +kernel
        intro t ht
        have := List.all_eq_true.mp this t ht
        simp only [Bool.and_eq_true, decide_eq_true_eq, List.all_eq_true] at this
        exact ⟨this.1.1, this.1.2, this.2⟩
      have hzl : x.length + Str.length "z" ≤ sizeLine := by show x.length + 1 ≤ 2 ^ 24; omega
      refine ⟨x ++ "z", _, runF_rt (ρ := [some (.int d), none, none, none, none, none]) rfl rfl ?_, g, hz x ht⟩
      simp only [nameC, ev_seq, ev_set, ev_con, ev_bin, ev_var, ev_for, ev_irange, ev_acons, ev_anil, ev_lst, ev_cif, ev_cbl, ev_btrue, ev_ret, List.getElem?_cons_zero, List.getElem?_cons_succ, List.set_cons_zero, List.set_cons_succ, Out.bind_ok, bindS_ok, f1, f2, f3, ea, e1, r1, e, et, s12, inD, hin, ht, decide_true, ↓reduceIte, addD, hzl]
    · refine ⟨x, _, runF_rt (ρ := [some (.int d), none, none, none, none, none]) rfl rfl ?_, g, ⟨⟨by omega, hlen⟩, h2, ht⟩⟩
      simp only [nameC, ev_seq, ev_set, ev_con, ev_bin, ev_var, ev_for, ev_irange, ev_acons, ev_anil, ev_lst, ev_cif, ev_cbl, ev_btrue, ev_ret, ev_nil, List.getElem?_cons_zero, List.getElem?_cons_succ, List.set_cons_zero, List.set_cons_succ, Out.bind_ok, bindS_ok, f1, f2, f3, ea, e1, r1, e, et, s12, inD, hin, ht, decide_false, Bool.false_eq_true, ↓reduceIte]
end PL
namespace PL
open PySem PySem.Spec PyProof.Rows L2
/-! ### a module's constant rows -/
def cV : Value → Option Dv
  | .none => some .non
  | .bool b => some (.bl b)
  | .int i _ => some (.int i)
  | .str x _ => some (.str x)
  | _ => none
def vV : Value → V
  | .bool b => .bl b
  | .int i _ => .int i
  | .str x _ => .str x
  | _ => .non
def Cst (its : List Value) (k : Dv) : Prop := ∃ ds, k = .kt ds ∧ its.map cV = ds.map some ∧ Nat.ble its.length 16777216 = true
theorem cst_rep {K : PySem.W.Frag} {μ : List Addr} {H : Hp} {a : Addr} {od : Option Addr} {its : Array Value} {n : Nat} {sl : Array (Option Value)} {k : Dv} (w : K.lookup a = some ⟨.type "tuple", od, .seq its n, sl⟩) (u : Cst its.toList k) : Rep K μ H (.ref a) k := by
  obtain ⟨ds, rfl, e, hl⟩ := u
  have hlen : its.toList.length = ds.length := by have := congrArg List.length e; simpa using this
  have key : ∀ (xs : List Value) (ds : List Dv), xs.map cV = ds.map some → Vals (xs.map vV) xs ∧ ∀ (i : Nat) (v : V) (d : Dv), (xs.map vV)[i]? = some v → ds[i]? = some d → Rep K μ H v d := by
    intro xs
    induction xs with
    | nil => intro ds e; exact ⟨.nil, fun i v d h => by simp at h⟩
    | cons x xs ih =>
      intro ds e
      cases ds with
      | nil => simp at e
      | cons d ds =>
        simp only [List.map_cons, List.cons.injEq] at e
        obtain ⟨h1, h2⟩ := ih ds e.2
        have hx : L2.RelV (vV x) x ∧ Rep K μ H (vV x) d := by
          have e1 := e.1
          cases x <;> simp only [cV, Option.some.injEq] at e1 <;> first | cases e1 | skip
          · exact ⟨rfl, .non⟩
          · exact ⟨rfl, .bl _⟩
          · exact ⟨⟨_, rfl⟩, .int _⟩
          · exact ⟨⟨_, rfl⟩, .str _⟩
        refine ⟨.cons hx.1 h1, fun i v d' hv hd => ?_⟩
        cases i with
        | zero => simp at hv hd; subst hv; subst hd; exact hx.2
        | succ i => exact h2 i v d' (by simpa using hv) (by simpa using hd)
  obtain ⟨h1, h2⟩ := key _ _ e
  exact .kt ⟨_, its, n, w, rfl, rfl, by have := Nat.le_of_ble_eq_true hl; rw [Array.length_toList] at this; exact this, h1⟩ (by simpa using hlen) h2
theorem rel_str {x : Str} {t : Tok} : L2.RelV (.str x) (.str x t) := ⟨_, rfl⟩
theorem rel_int {x : Int} {t : Tok} : L2.RelV (.int x) (.int x t) := ⟨_, rfl⟩
end PL

namespace PL
open PySem PySem.Spec PyProof.Rows L2

/-! ### sources that are lists or tuples: zip and enumerate over either kind -/
def Sq (K : PySem.W.Frag) (l : Bool) (H : Hp) (a : Addr) (vs : List V) : Prop := match l with
  | true => SqL K H a vs
  | false => SqT K H a vs
def Pn (l : Bool) (h : Heap) (a : Addr) (its : Array Value) : Prop := match l with
  | true => h.IsList a its
  | false => h.IsTuple a its
def Cur (l : Bool) (h : Heap) (it a : Addr) (i : Nat) : Prop := match l with
  | true => h.IsListIter it a i
  | false => h.IsTupleIter it a i
def itO (l : Bool) (a : Addr) : Obj := match l with
  | true => { cls := .type "list_iterator", data := .fields #[.ref a, .int 0 0] }
  | false => { cls := .type "tuple_iterator", data := .fields #[.ref a, .int 0 0] }
section
variable {X : Cx} {pins : List (Addr × Obj)} {σ : L2.St} {H : Hp} {s : Shared} {a : Addr} {vs us : List V} {l : Bool}
theorem sq_read (I : Inv X pins σ H s) (q : Sq X.K l H a vs) : ∃ its : List Value, Vals vs its ∧ Pn l s.heap a its.toArray := by
  cases l with
  | true => obtain ⟨its, r, p, _⟩ := I.list q; exact ⟨its, r, p.isList⟩
  | false => obtain ⟨its, r, p, _⟩ := I.tuple q; exact ⟨its, r, p⟩
theorem sq_inj (I : Inv X pins σ H s) (q : Sq X.K l H a vs) (q' : Sq X.K l H a us) : vs = us := by
  cases l with
  | true => exact I.list_inj q q'
  | false => exact I.tuple_inj q q'
theorem pn_lt {h : Heap} {its : Array Value} (p : Pn l h a its) : a < h.objs.size := by
  cases l with
  | true => obtain ⟨o, e, _⟩ := p; exact Heap.lt_size e
  | false => obtain ⟨o, e, _⟩ := p; exact Heap.lt_size e
theorem cur_obj {h : Heap} {it : Addr} {i : Nat} (c : Cur l h it a i) : ∃ o, h.get? it = some o ∧ ∀ v, o.data ≠ .cell v := by
  cases l with
  | true => obtain ⟨o, e, _, d⟩ := c; exact ⟨o, e, fun v z => by rw [d] at z; cases z⟩
  | false => obtain ⟨o, e, _, d⟩ := c; exact ⟨o, e, fun v z => by rw [d] at z; cases z⟩
theorem cur_at {h h' : Heap} {it : Addr} {i : Nat} (c : Cur l h it a i) (k : ∀ o, h.get? it = some o → h'.get? it = some o) : Cur l h' it a i := by
  cases l with
  | true => exact Heap.IsListIter.at c k
  | false => exact Heap.IsTupleIter.at c k
theorem pn_at {h h' : Heap} {its : Array Value} (c : Pn l h a its) (k : ∀ o, h.get? a = some o → h'.get? a = some o) : Pn l h' a its := by
  cases l with
  | true => exact Heap.IsList.at c k
  | false => exact Heap.IsTuple.at c k
theorem cur_new {h : Heap} {it : Addr} (e : h.get? it = some (itO l a)) : Cur l h it a 0 := by
  cases l with
  | true => exact ⟨_, e, rfl, rfl⟩
  | false => exact ⟨_, e, rfl, rfl⟩
theorem pn_draws {prog : Program} {w : World} {A : Around} (hh : A.handled = none) (it : Addr) (ne : a ≠ it) (its : Array Value) :
    Draws prog w A it [it, a] its.size (fun i v => its[i]? = some v) (fun i h => Cur l h it a i ∧ Pn l h a its) := by
  cases l with
  | true => exact Draws.list hh it a ne its
  | false => exact Draws.tuple hh it a ne its
theorem pn_begins (its : Array Value) : Begins (.ref a) (itO l a) (fun h => Pn l h a its) := by
  cases l with
  | true => exact begins_list a its
  | false => exact begins_tuple a its
end
/-- the items of two sources, side by side -/
def Jz (K : PySem.W.Frag) (l1 l2 : Bool) (a b : Addr) : It :=
  ⟨fun i H => ∃ vs us x y, Sq K l1 H a vs ∧ Sq K l2 H b us ∧ vs[i]? = some x ∧ us[i]? = some y,
    fun i H v H' => ∃ T x y, v = .ref T ∧ H T = none ∧ H' = upd H T (.tup [x, y]) ∧ (∀ vs, Sq K l1 H a vs → vs[i]? = some x) ∧ (∀ us, Sq K l2 H b us → us[i]? = some y),
    fun i H => ∃ vs us, Sq K l1 H a vs ∧ Sq K l2 H b us ∧ i ≤ vs.length ∧ i ≤ us.length ∧ (i = vs.length ∨ i = us.length)⟩
theorem turn_jz {P : Program} {w : World} {K : PySem.W.Frag} {elts : List Expr} {kk : Nat} {tpos : Pos} {l1 l2 : Bool} {a b z TI TO i1 i2 : Addr} (D : ZipSep2 z TI TO i1 i2 [i1, a] [i2, b]) (na : a ≠ i1) (nb : b ≠ i2) :
    Turn P w K (.Tuple elts kk tpos) (Jz K l1 l2 a b) [z, TI, TO, i1, i2] z (fun i h => IsZip h z TI TO .none ∧ IsTupOf2 h TI (.ref i1) (.ref i2) ∧ (∃ x y, IsTupOf2 h TO x y) ∧ Cur l1 h i1 a i ∧ Cur l2 h i2 b i) := by
  have sp : ∀ {c : Addr}, c ∈ [z, TI, TO, i1, i2] → c = z ∨ c = TI ∨ c = TO ∨ c = i1 ∨ c = i2 := fun h => by simpa using h
  refine ⟨by simp, ?_, ?_, ?_, ?_, fun A i s Q E st hQ => wpAny_pyIter_zip st.1 hQ⟩
  · rintro i h ⟨e1, e2, ⟨_, _, e3⟩, e4, e5⟩ c hc
    rcases sp hc with rfl | rfl | rfl | rfl | rfl
    · exact ⟨_, e1, fun v z => nomatch z⟩
    · exact ⟨_, e2, fun v z => nomatch z⟩
    · exact ⟨_, e3, fun v z => nomatch z⟩
    · exact cur_obj e4
    · exact cur_obj e5
  · rintro i h h' ⟨e1, e2, ⟨x, y, e3⟩, e4, e5⟩ kp
    exact ⟨kp z (by simp) _ e1, kp TI (by simp) _ e2, ⟨x, y, kp TO (by simp) _ e3⟩, cur_at e4 (kp i1 (by simp)), cur_at e5 (kp i2 (by simp))⟩
  · intro X hP hw hK hc i pins s σ H E I hf ⟨e1, e2, ⟨x0, y0, e3⟩, e4, e5⟩ ⟨vs, us, x, y, q1, q2, g1, g2⟩
    subst hP hw hK
    obtain ⟨its, r1, p1⟩ := sq_read I q1
    obtain ⟨jts, r2, p2⟩ := sq_read I q2
    obtain ⟨u1, hu1, ru1⟩ := r1.get g1
    obtain ⟨u2, hu2, ru2⟩ := r2.get g2
    have lt1 : i < its.toArray.size := by rw [List.size_toArray]; exact (List.getElem?_eq_some_iff.mp hu1).1
    have lt2 : i < jts.toArray.size := by rw [List.size_toArray]; exact (List.getElem?_eq_some_iff.mp hu2).1
    have hh : X.A.handled = none := I.ok.hd hc
    have D1 := pn_draws (prog := X.prog) (w := X.w) (A := X.A.in1) (l := l1) hh i1 na its.toArray
    have D2 := pn_draws (prog := X.prog) (w := X.w) (A := X.A.in1) (l := l2) hh i2 nb jts.toArray
    refine wpAny_pyNext_zipD2_item D D1 D2 e1 e2 e3 ⟨e4, p1⟩ ⟨e5, p2⟩ lt1 lt2 fun w1 w2 h' tk a1 a2 z' t' st1 st2 tn _ kp => ?_
    have w1e : w1 = u1 := by have := a1.symm.trans (show its.toArray[i]? = some u1 by simpa using hu1); exact Option.some.inj this
    have w2e : w2 = u2 := by have := a2.symm.trans (show jts.toArray[i]? = some u2 by simpa using hu2); exact Option.some.inj this
    subst w1e w2e
    refine ⟨_, rfl, wpAny_letOwnedTupleGo_zip (s := { s with heap := h', toks := tk }) z' fun h2 z2 sb => ?_⟩
    have zl : z < s.heap.objs.size := Heap.lt_size e1
    have tn2 : h2.get? s.heap.objs.size = some { cls := .type "tuple", data := .seq #[w1, w2] } := (sb.2 _ (Nat.ne_of_gt zl)).trans tn
    have ok : ObjOk X.prog X.w (upd H s.heap.objs.size (.tup [x, y])) h2 s.heap.objs.size (.tup [x, y]) := ⟨show 2 ≤ 2 ^ 24 by omega, [w1, w2], .cons ru1 (.cons ru2 .nil), ⟨_, tn2, rfl, _, rfl⟩⟩
    have I2 : Inv X pins σ (upd H s.heap.objs.size (.tup [x, y])) { s with heap := h2, toks := tk } :=
      I.turnedNew (t' := tk) (ch := [z, TI, TO, i1, i2]) (fun c o hn q => by
        have n1 : c ≠ z := fun e => hn (by simp [e])
        exact (sb.2 c n1).trans (kp c o n1 (fun e => hn (by simp [e])) (fun e => hn (by simp [e])) (fun e => hn (by simp [e])) q)) hf (Nat.le_refl _) ok
    refine ⟨.ref s.heap.objs.size, _, I2, rfl, ⟨_, x, y, rfl, I.hok.fresh (Nat.le_refl _), rfl, fun ws q => by rw [sq_inj I q q1]; exact g1, fun ws q => by rw [sq_inj I q q2]; exact g2⟩, ⟨z2, ?_, ⟨w1, w2, ?_⟩, ?_, ?_⟩, fun c hcm => ?_⟩
    · exact (sb.2 _ D.TIz).trans (kp TI _ D.TIz D.TITO D.TIi1 D.TIi2 e2)
    · exact (sb.2 _ D.TOz).trans t'
    · exact cur_at st1.1 fun o q => (sb.2 _ (Ne.symm D.zi1)).trans q
    · exact cur_at st2.1 fun o q => (sb.2 _ (Ne.symm D.zi2)).trans q
    · have hlt : c < s.heap.objs.size := by
        rcases sp hcm with rfl | rfl | rfl | rfl | rfl
        · exact zl
        · exact Heap.lt_size e2
        · exact Heap.lt_size e3
        · obtain ⟨o, q, _⟩ := cur_obj e4; exact Heap.lt_size q
        · obtain ⟨o, q, _⟩ := cur_obj e5; exact Heap.lt_size q
      rw [upd_ne (Nat.ne_of_lt hlt)]
      exact (hf c hcm).1
  · intro X hP hw hK hc i pins s σ H E I hf ⟨e1, e2, ⟨x0, y0, e3⟩, e4, e5⟩ ⟨vs, us, q1, q2, le1, le2, he⟩
    subst hP hw hK
    obtain ⟨its, r1, p1⟩ := sq_read I q1
    obtain ⟨jts, r2, p2⟩ := sq_read I q2
    have s1 : its.toArray.size = vs.length := by rw [List.size_toArray]; exact r1.length.symm
    have s2 : jts.toArray.size = us.length := by rw [List.size_toArray]; exact r2.length.symm
    have hh : X.A.handled = none := I.ok.hd hc
    have D1 := pn_draws (prog := X.prog) (w := X.w) (A := X.A.in1) (l := l1) hh i1 na its.toArray
    have D2 := pn_draws (prog := X.prog) (w := X.w) (A := X.A.in1) (l := l2) hh i2 nb jts.toArray
    exact wpAny_pyNext_zipD2_end D D1 D2 e1 e2 e3 ⟨e4, p1⟩ ⟨e5, p2⟩ (by omega) (by omega) (by omega) fun h' tk kp => ⟨rfl, I.turnedL (t' := tk) (ch := [z, TI, TO, i1, i2]) (fun c o hn q =>
      kp c o (fun e => hn (by simp [e])) (fun e => hn (by simp [e])) (fun e => hn (by simp [e])) (fun e => hn (by simp [e])) q) hf⟩
def tJz (K : PySem.W.Frag) (ta : TA) : TI := fun σ H R => ta σ H fun vs H1 => ∃ l1 l2 a b xs ys, vs = [.ref a, .ref b] ∧ Sq K l1 H1 a xs ∧ Sq K l2 H1 b ys ∧ R (Jz K l1 l2 a b) H1
theorem pi_jz {X : Cx} {e e2 : Expr} {ta : TA} {p pos tpos : Pos} {elts : List Expr} {kk : Nat} (hg : Gl X "zip") (hm : X.mg "zip" = none) (ha : PA X [e, e2] ta)
    (hs : starEach [e, e2] X.env = (false, eval e X.env) :: starEach [e2] X.env := by rfl) (hpl : (backTo pos (starEach [e2] X.env)).any (·.1) = false := by rfl) :
    PI X (.Tuple elts kk tpos) (.Call (.Name "zip" p) [e, e2] [] pos) (tJz X.K ta) := by
  refine ⟨fun pins s σ H R I h => Call_ (ld_blt I hg hm PyProof.Rows.boot_zip (PyProof.Rows.callWith_type1 (thn (ha.run pos pins s σ H _ I h) ?_) hs hpl))⟩
  rintro us s1 ⟨vs, H1, I1, r1, l1, l2, a, b, xs, ys, rfl, q1, q2, hR⟩
  match us, r1 with
  | _, .cons (b := ua) ra (.cons (b := ub) rb .nil) =>
    obtain rfl : ua = .ref a := ra
    obtain rfl : ub = .ref b := rb
    obtain ⟨its, _, p1⟩ := sq_read I1 q1
    obtain ⟨jts, _, p2⟩ := sq_read I1 q2
    refine zip_begins2 (pn_begins its.toArray) (pn_begins jts.toArray) p1 p2 fun h' e1 e2 e3 e4 e5 _ kp => wpAny_pyIter_zip e1 ?_
    have I2 : Inv X pins σ H1 { s1 with heap := h' } := I1.kept (t' := s1.toks) kp
    have D := zip_sep2 (N := s1.heap.objs.size) (fp1 := [a]) (fp2 := [b]) (fun c hc => by simp at hc; subst hc; exact pn_lt p1) (fun c hc => by simp at hc; subst hc; exact pn_lt p2)
    refine ⟨_, _, _, _, H1, rfl, I2, turn_jz (l1 := l1) (l2 := l2) D (Nat.ne_of_lt (pn_lt p1)) (Nat.ne_of_lt (Nat.lt_succ_of_lt (pn_lt p2))), ⟨e1, e2, ⟨_, _, e3⟩, cur_new e4, cur_new e5⟩, fun c hc => ?_, hR⟩
    have hle : s1.heap.objs.size ≤ c := by
      have : c = s1.heap.objs.size + 4 ∨ c = s1.heap.objs.size + 2 ∨ c = s1.heap.objs.size + 3 ∨ c = s1.heap.objs.size ∨ c = s1.heap.objs.size + 1 := by simpa using hc
      rcases this with z | z | z | z | z
      all_goals rw [z]
      all_goals first | exact Nat.le_refl _ | exact Nat.le_add_right _ _
    exact I1.fpOk hle (I1.hok.fresh hle)

/-! ### the rules -/
section
variable {K : PySem.W.Frag} {mg : Str → Option Value} {W : WX} {μ μ1 : List Addr} {H H1 : Hp} {S S1 : Sto} {σ : L2.St} {ρ : Env}
theorem src_keep {v : V} {d : Dv} {ds : List Dv} (hS : SimS K μ S H) (r : Rep K μ H v d) (e : seqOf S d = some ds) :
    ∃ l a vs, v = .ref a ∧ Sq K l H a vs ∧ ∀ μ' S' H', Step μ H μ' H' → SimS K μ' S' H' → (ckOf d ds).ok S' → ∃ ws, Sq K l H' a ws ∧ Reps K μ' H' ws ds := by
  unfold seqOf at e
  cases q : tupOf d with
  | some es =>
    rw [q] at e
    cases e
    obtain ⟨a, vs, rfl, rr, h1, h2⟩ := sqT_keep r q
    exact ⟨false, a, vs, rfl, h1, fun μ' S' H' st _ _ => ⟨vs, h2 μ' H' st, rr.step st⟩⟩
  | none =>
    rw [q] at e
    obtain ⟨a, vs, rfl, h1, h2⟩ := itr_list hS r e
    exact ⟨true, a, vs, rfl, h1, h2⟩
def zipL : List Dv → List Dv → List Dv
  | x :: xs, y :: ys => .tup [x, y] :: zipL xs ys
  | _, _ => []
theorem zipL_get : ∀ (xs ys : List Dv) (i : Nat) (d : Dv), (zipL xs ys)[i]? = some d → ∃ x y, xs[i]? = some x ∧ ys[i]? = some y ∧ d = .tup [x, y]
  | [], _, i, d, h => by simp [zipL] at h
  | x :: xs, [], i, d, h => by simp [zipL] at h
  | x :: xs, y :: ys, 0, d, h => by simp [zipL] at h; exact ⟨x, y, rfl, rfl, h.symm⟩
  | x :: xs, y :: ys, i + 1, d, h => by simpa using zipL_get xs ys i d (by simpa [zipL] using h)
theorem zipL_len : ∀ xs ys : List Dv, (zipL xs ys).length = min xs.length ys.length
  | [], ys => by simp [zipL]
  | x :: xs, [] => by simp [zipL]
  | x :: xs, y :: ys => by simp [zipL, zipL_len xs ys]
theorem itr_jz {a b : Addr} {l1 l2 : Bool} {ds es : List Dv} {c1 c2 : Ck} (h1 : ∀ μ' S' H', Step μ H μ' H' → SimS K μ' S' H' → c1.ok S' → ∃ ws, Sq K l1 H' a ws ∧ Reps K μ' H' ws ds)
    (h2 : ∀ μ' S' H', Step μ H μ' H' → SimS K μ' S' H' → c2.ok S' → ∃ ws, Sq K l2 H' b ws ∧ Reps K μ' H' ws es) : ItR K μ H (Jz K l1 l2 a b) (zipL ds es, .and c1 c2) := by
  intro μ' S' H' i st hS hck
  obtain ⟨vs, q1, r1⟩ := h1 μ' S' H' st hS hck.1
  obtain ⟨us, q2, r2⟩ := h2 μ' S' H' st hS hck.2
  refine ⟨fun e => ⟨vs, us, q1, q2, ?_⟩, fun d hd => ?_⟩
  · have e' : i = min ds.length es.length := by rw [e]; exact zipL_len ds es
    rw [r1.1, r2.1]; omega
  · obtain ⟨x, y, g1, g2, rfl⟩ := zipL_get ds es i d hd
    obtain ⟨v, hv, rv⟩ := r1.get g1
    obtain ⟨u, hu, ru⟩ := r2.get g2
    refine ⟨⟨vs, us, v, u, q1, q2, hv, hu⟩, ?_⟩
    rintro _ _ ⟨T, v', u', rfl, hT, rfl, f1, f2⟩
    have e1 := f1 vs q1
    have e2 := f2 us q2
    rw [hv] at e1; cases e1
    rw [hu] at e2; cases e2
    have rr : Reps K μ' H' [v, u] [x, y] := (Reps.one ru).cons rv
    exact ⟨step_lay hS hT _, hS.lay hT _, .tup ⟨upd_same, hS.fresh hT⟩ rr.1 (rr.step (step_lay hS hT _)).2⟩
end
def iZip (a : RA) : RI := fun ρ S => (a ρ S).bind fun ds S1 => match ds with
  | [d, e] => match seqOf S1 d, seqOf S1 e with
    | some xs, some ys => .ok (zipL xs ys, .and (ckOf d xs) (ckOf e ys)) S1
    | _, _ => .no
  | _ => .no
section
variable {X : Cx} {W : WX} {tg e e2 : Expr} {re : RE} {ra : RA} {p pos tpos : Pos} {elts : List Expr} {kk : Nat}
theorem si_zip (hg : Gl X "zip") (hm : X.mg "zip" = none) (ha : SA X W [e, e2] ra) (hs : starEach [e, e2] X.env = (false, eval e X.env) :: starEach [e2] X.env := by rfl) (hpl : (backTo pos (starEach [e2] X.env)).any (·.1) = false := by rfl) :
    SI X W (.Tuple elts kk tpos) (.Call (.Name "zip" p) [e, e2] [] pos) (iZip ra) :=
  PI.imp (pi_jz hg hm ha hs hpl) fun σ H R ⟨μ, ρ, S, hS, hE, h⟩ => by
    refine ⟨μ, ρ, S, hS, hE, ?_⟩
    unfold iZip at h
    cases q : ra ρ S with
    | no => rw [q] at h; exact h.elim
    | ex x S1 => rw [q] at h; exact h
    | ok ds S1 =>
      rw [q] at h
      simp only [Out.bind_ok] at h
      intro μ1 H1 vs a b r
      match ds, r, h with
      | [d, e], r, h =>
        obtain ⟨v, u, rfl, rv, ru⟩ := r.get2
        dsimp only at h
        cases q1 : seqOf S1 d with
        | none => rw [q1] at h; exact h.elim
        | some xs =>
          cases q2 : seqOf S1 e with
          | none => rw [q1, q2] at h; exact h.elim
          | some ys =>
            rw [q1, q2] at h
            obtain ⟨l1, a1, ws1, rfl, s1, k1⟩ := src_keep a rv q1
            obtain ⟨l2, a2, ws2, rfl, s2, k2⟩ := src_keep a ru q2
            exact ⟨l1, l2, a1, a2, ws1, ws2, rfl, s1, s2, h μ1 H1 _ a b (itr_jz k1 k2)⟩
      | [], r, h => exact h.elim
      | [_], r, h => exact h.elim
      | _ :: _ :: _ :: _, r, h => exact h.elim
end
end PL

namespace PL
open PySem PySem.Spec PyProof.Rows L2
/-! ### enumerate over a list or a tuple -/
def enO (it : Addr) : Obj := { cls := .type "enumerate", data := .fields #[.none, .bool false, .ref it, rawInt 0, .none, .none] }
theorem en_meets {v : Value} {it : Heap → Addr} {nx : Heap → Heap} {Hh : Heap → Prop}
    (B : ∀ (prog : Program) (w : World) (A : Around) (E : Value → Shared → Prop) (s : Shared) (Q : Value → Shared → Prop), Hh s.heap → Q (.ref (it s.heap)) { s with heap := nx s.heap } → wpAny (model prog w) A (pyIter v) Q E s) :
    Meets (Builtin.«enumerate.__new__» ⟨[.type "enumerate", v], []⟩) (fun _ R s => Hh s.heap ∧ R (.ok (.ret (.ref (nx s.heap).objs.size))) { s with heap := (nx s.heap).push (enO (it s.heap)) }) :=
  .of_wp fun prog w A R s h => by
    obtain ⟨hp, g, d, tk, os⟩ := s
    obtain ⟨h1, h⟩ := h
    have hsub := sub_enumerate
    have q1 : ∀ {A' : Around} {E : Value → Shared → Prop} {Q : Value → Shared → Prop}, Q (.ref (it hp)) ⟨nx hp, g, d, tk, os⟩ → wpAny (model prog w) A' (pyIter v) Q E ⟨hp, g, d, tk, os⟩ := fun q => B prog w _ _ ⟨hp, g, d, tk, os⟩ _ h1 q
    wp_walk using q1
    refine wpAny_stack_any fun st => wpAny_pure ?_
    split
    · rename_i c _ _ _ _ _
      cases (c == Value.type "enumerate") <;> (wp_walk using q1; exact ⟨_, rfl, h⟩)
    · wp_walk using q1
      exact ⟨_, rfl, h⟩

theorem en_call {prog : Program} {w : World} {A : Around} {E : Value → Shared → Prop} {s : Shared} {v : Value} {it : Heap → Addr} {nx : Heap → Heap} {Hh : Heap → Prop} {Q : Value → Shared → Prop}
    (B : ∀ (prog : Program) (w : World) (A : Around) (E : Value → Shared → Prop) (s : Shared) (Q : Value → Shared → Prop), Hh s.heap → Q (.ref (it s.heap)) { s with heap := nx s.heap } → wpAny (model prog w) A (pyIter v) Q E s) (h1 : Hh s.heap)
    (h : IsEnum ((nx s.heap).push (enO (it s.heap))) (nx s.heap).objs.size (it s.heap) 0 .none → Q (.ref (nx s.heap).objs.size) { s with heap := (nx s.heap).push (enO (it s.heap)) }) : wpAny (model prog w) A (call (.type "enumerate") [v]) Q E s := by
  refine callType_new F.called_enumerate (by decide) (F.typeCall_enumerate_1 _) (F.newCall_enumerate_1 _) (fun obj => F.args_object_init_2 obj _) F.entry_enumerate_new (en_meets B) ⟨h1, ?_⟩
  have he : IsEnum ((nx s.heap).push (enO (it s.heap))) (nx s.heap).objs.size (it s.heap) 0 .none := Heap.get?_push_size (nx s.heap) (o := enO (it s.heap)) rfl
  exact ⟨⟨_, he, rfl⟩, h he⟩
/-- numbered items -/
def Je (K : PySem.W.Frag) (l : Bool) (a : Addr) : It :=
  ⟨fun i H => ∃ vs x, Sq K l H a vs ∧ vs[i]? = some x,
    fun i H v H' => ∃ T x, v = .ref T ∧ H T = none ∧ H' = upd H T (.tup [.int (i : Nat), x]) ∧ (∀ vs, Sq K l H a vs → vs[i]? = some x),
    fun i H => ∃ vs, Sq K l H a vs ∧ i = vs.length⟩
theorem turn_je {P : Program} {w : World} {K : PySem.W.Frag} {elts : List Expr} {kk : Nat} {tpos : Pos} {l : Bool} {a e it : Addr} (ne : e ≠ it) (ni : a ≠ it) (na : a ≠ e) :
    Turn P w K (.Tuple elts kk tpos) (Je K l a) [e, it] e (fun i h => (∃ old, IsEnum h e it ((i : Nat) : Int) old) ∧ Cur l h it a i) := by
  have sp : ∀ {c : Addr}, c ∈ [e, it] → c = e ∨ c = it := fun h => by simpa using h
  have nf : e ∉ [it, a] := fun h => by
    simp only [List.mem_cons, List.not_mem_nil, or_false] at h
    exact h.elim ne fun z => na z.symm
  refine ⟨by simp, ?_, ?_, ?_, ?_, fun A i s Q E st hQ => let ⟨⟨_, e1⟩, _⟩ := st; wpAny_pyIter_enum e1 hQ⟩
  · rintro i h ⟨⟨old, e1⟩, e2⟩ c hc
    rcases sp hc with rfl | rfl
    · exact ⟨_, e1, fun v z => nomatch z⟩
    · exact cur_obj e2
  · rintro i h h' ⟨⟨old, e1⟩, e2⟩ kp
    exact ⟨⟨old, kp e (by simp) _ e1⟩, cur_at e2 (kp it (by simp))⟩
  · intro X hP hw hK hc i pins s σ H E I hf ⟨⟨old, e1⟩, e2⟩ ⟨vs, x, q1, g1⟩
    subst hP hw hK
    obtain ⟨its, r1, p1⟩ := sq_read I q1
    obtain ⟨u1, hu1, ru1⟩ := r1.get g1
    have lt1 : i < its.toArray.size := by rw [List.size_toArray]; exact (List.getElem?_eq_some_iff.mp hu1).1
    have hh : X.A.handled = none := I.ok.hd hc
    have D1 := pn_draws (prog := X.prog) (w := X.w) (A := X.A.in1) (l := l) hh it ni its.toArray
    refine wpAny_pyNext_enum_itemD D1 e1 ⟨e2, p1⟩ lt1 ne nf fun w1 h' tk a1 en st1 tn _ kp => ?_
    have w1e : w1 = u1 := Option.some.inj (a1.symm.trans (show its.toArray[i]? = some u1 by simpa using hu1))
    subst w1e
    refine ⟨_, rfl, wpAny_letOwnedTupleGo_enum (s := { s with heap := h', toks := tk + 1 }) en fun h2 en2 sb => ?_⟩
    have zl : e < s.heap.objs.size := Heap.lt_size e1
    have tn2 : h2.get? s.heap.objs.size = some { cls := .type "tuple", data := .seq #[.int i tk, w1] } := (sb.2 _ (Nat.ne_of_gt zl)).trans tn
    have ok : ObjOk X.prog X.w (upd H s.heap.objs.size (.tup [.int (i : Nat), x])) h2 s.heap.objs.size (.tup [.int (i : Nat), x]) := ⟨show 2 ≤ 2 ^ 24 by omega, [.int i tk, w1], .cons ⟨_, rfl⟩ (.cons ru1 .nil), ⟨_, tn2, rfl, _, rfl⟩⟩
    have I2 : Inv X pins σ (upd H s.heap.objs.size (.tup [.int (i : Nat), x])) { s with heap := h2, toks := tk + 1 } :=
      I.turnedNew (t' := tk + 1) (ch := [e, it]) (fun c o hn q => by
        have n1 : c ≠ e := fun z => hn (by simp [z])
        exact (sb.2 c n1).trans (kp c o n1 (fun z => hn (by simp [z])) q)) hf (Nat.le_refl _) ok
    refine ⟨.ref s.heap.objs.size, _, I2, rfl, ⟨_, x, rfl, I.hok.fresh (Nat.le_refl _), rfl, fun ws q => by rw [sq_inj I q q1]; exact g1⟩, ⟨⟨w1, ?_⟩, ?_⟩, fun c hcm => ?_⟩
    · rw [show ((i + 1 : Nat) : Int) = (i : Int) + 1 by omega]; exact en2
    · exact cur_at st1.1 fun o q => (sb.2 _ (Ne.symm ne)).trans q
    · have hlt : c < s.heap.objs.size := by
        rcases sp hcm with rfl | rfl
        · exact zl
        · obtain ⟨o, q, _⟩ := cur_obj e2; exact Heap.lt_size q
      rw [upd_ne (Nat.ne_of_lt hlt)]
      exact (hf c hcm).1
  · intro X hP hw hK hc i pins s σ H E I hf ⟨⟨old, e1⟩, e2⟩ ⟨vs, q1, he⟩
    subst hP hw hK
    obtain ⟨its, r1, p1⟩ := sq_read I q1
    have s1 : its.toArray.size = vs.length := by rw [List.size_toArray]; exact r1.length.symm
    have hh : X.A.handled = none := I.ok.hd hc
    have D1 := pn_draws (prog := X.prog) (w := X.w) (A := X.A.in1) (l := l) hh it ni its.toArray
    have st : Cur l s.heap it a its.toArray.size ∧ Pn l s.heap a its.toArray := ⟨by rw [s1, ← he]; exact e2, p1⟩
    exact wpAny_pyNext_enum_endD D1 e1 st fun h' kp => ⟨rfl, I.turnedL (t' := s.toks) (ch := [e, it]) (fun c o hn q => kp c o (fun z => hn (by simp [z])) q) hf⟩
def tJe (K : PySem.W.Frag) (ta : TA) : TI := fun σ H R => ta σ H fun vs H1 => ∃ l a xs, vs = [.ref a] ∧ Sq K l H1 a xs ∧ R (Je K l a) H1
theorem pi_je {X : Cx} {e : Expr} {ta : TA} {p pos tpos : Pos} {elts : List Expr} {kk : Nat} (hg : Gl X "enumerate") (hm : X.mg "enumerate" = none) (ha : PA X [e] ta) (hs : starEach [e] X.env = [(false, eval e X.env)] := by rfl) :
    PI X (.Tuple elts kk tpos) (.Call (.Name "enumerate" p) [e] [] pos) (tJe X.K ta) := by
  refine ⟨fun pins s σ H R I h => Call_ (ld_blt I hg hm boot_enumerate (PyProof.Rows.callWith_type1 (thn (ha.run pos pins s σ H _ I h) ?_) hs rfl))⟩
  rintro us s1 ⟨vs, H1, I1, r1, l, a, xs, rfl, q1, hR⟩
  match us, r1 with
  | _, .cons (b := ua) ra .nil =>
    obtain rfl : ua = .ref a := ra
    obtain ⟨its, _, p1⟩ := sq_read I1 q1
    have lt := pn_lt p1
    refine en_call (Hh := fun h => Pn l h a its.toArray) (it := fun h => h.objs.size) (nx := fun h => h.push (itO l a)) (pn_begins (l := l) (a := a) its.toArray).iter p1 fun e1 => wpAny_pyIter_enum e1 ?_
    have zs : (s1.heap.push (itO l a)).objs.size = s1.heap.objs.size + 1 := Heap.size_push ..
    have fr : (itO l a).isFreed = false := (pn_begins (l := l) (a := a) its.toArray).free
    have kp : ∀ c o, s1.heap.get? c = some o → ((s1.heap.push (itO l a)).push (enO s1.heap.objs.size)).get? c = some o := fun c o q => Heap.get?_push_of_some _ (Heap.get?_push_of_some _ q)
    have I2 : Inv X pins σ H1 { s1 with heap := (s1.heap.push (itO l a)).push (enO s1.heap.objs.size) } := I1.kept (t' := s1.toks) kp
    have n1 : (s1.heap.push (itO l a)).objs.size ≠ s1.heap.objs.size := by rw [zs]; exact Nat.succ_ne_self _
    have n2 : a ≠ (s1.heap.push (itO l a)).objs.size := by rw [zs]; exact Nat.ne_of_lt (Nat.lt_succ_of_lt lt)
    refine ⟨_, _, _, _, H1, rfl, I2, turn_je (l := l) n1 (Nat.ne_of_lt lt) n2, ⟨⟨.none, e1⟩, cur_new (Heap.get?_push_of_some _ (Heap.get?_push_size _ fr))⟩, fun c hc => ?_, hR⟩
    have hle : s1.heap.objs.size ≤ c := by
      have : c = (s1.heap.push (itO l a)).objs.size ∨ c = s1.heap.objs.size := by simpa using hc
      rcases this with z | z
      · rw [z, zs]; exact Nat.le_succ _
      · rw [z]; exact Nat.le_refl _
    exact I1.fpOk hle (I1.hok.fresh hle)
theorem itr_je {K : PySem.W.Frag} {μ : List Addr} {H : Hp} {a : Addr} {l : Bool} {ds : List Dv} {ck : Ck} (h : ∀ μ' S' H', Step μ H μ' H' → SimS K μ' S' H' → ck.ok S' → ∃ ws, Sq K l H' a ws ∧ Reps K μ' H' ws ds) : ItR K μ H (Je K l a) (enumL ds, ck) := by
  intro μ' S' H' i st hS hck
  obtain ⟨ws, q, r⟩ := h μ' S' H' st hS hck
  refine ⟨fun e => ⟨ws, q, by rw [r.1, e]; exact enumL_len ds 0⟩, fun d hd => ?_⟩
  have hd' : (enumL ds)[i]? = some d := hd
  rw [enumL_get, Option.map_eq_some_iff] at hd'
  obtain ⟨d', hd', rfl⟩ := hd'
  obtain ⟨v, hv, rv⟩ := r.get hd'
  refine ⟨⟨ws, v, q, hv⟩, ?_⟩
  rintro _ _ ⟨T, z, rfl, hT, rfl, y⟩
  have e1 := y ws q
  rw [hv] at e1; cases e1
  have rr : Reps K μ' H' [.int (i : Nat), v] [.int ((0 + i : Nat) : Int), d'] := by
    rw [Nat.zero_add]; exact (Reps.one rv).cons (.int _)
  exact ⟨step_lay hS hT _, hS.lay hT _, .tup ⟨upd_same, hS.fresh hT⟩ rr.1 (rr.step (step_lay hS hT _)).2⟩
def iEnumA (a : RA) : RI := fun ρ S => (a ρ S).bind fun ds S1 => match ds with
  | [d] => match seqOf S1 d with
    | some xs => .ok (enumL xs, ckOf d xs) S1
    | none => .no
  | _ => .no
theorem si_enumA {X : Cx} {W : WX} {e : Expr} {ra : RA} {p pos tpos : Pos} {elts : List Expr} {kk : Nat} (hg : Gl X "enumerate") (hm : X.mg "enumerate" = none) (ha : SA X W [e] ra) (hs : starEach [e] X.env = [(false, eval e X.env)] := by rfl) : SI X W (.Tuple elts kk tpos) (.Call (.Name "enumerate" p) [e] [] pos) (iEnumA ra) :=
  PI.imp (pi_je hg hm ha hs) fun σ H R ⟨μ, ρ, S, hS, hE, h⟩ => by
    refine ⟨μ, ρ, S, hS, hE, ?_⟩
    unfold iEnumA at h
    cases q : ra ρ S with
    | no => rw [q] at h; exact h.elim
    | ex x S1 => rw [q] at h; exact h
    | ok ds S1 =>
      rw [q] at h
      simp only [Out.bind_ok] at h
      intro μ1 H1 vs a b r
      match ds, r, h with
      | [d], r, h =>
        obtain ⟨v, rfl, rv⟩ := r.get1
        dsimp only at h
        cases q1 : seqOf S1 d with
        | none => rw [q1] at h; exact h.elim
        | some xs =>
          rw [q1] at h
          obtain ⟨l1, a1, ws1, rfl, s1, k1⟩ := src_keep a rv q1
          exact ⟨l1, a1, ws1, rfl, s1, h μ1 H1 _ a b (itr_je k1)⟩
      | [], r, h => exact h.elim
      | _ :: _ :: _, r, h => exact h.elim
end PL
namespace PL
open PySem PySem.Spec PyProof.Rows L2
/-- x or y, of numbers and None -/
def truD : Dv → Option Bool
  | .non => some false
  | .bl b => some b
  | .int i => some (i != 0)
  | _ => none
def eOrV (a b : RE) : RE := fun ρ S => (a ρ S).bind fun d S1 => match truD d with
  | some true => .ok d S1
  | some false => b ρ S1
  | none => .no
theorem ev_orV {a b : RE} {ρ : Env} {S : Sto} : eOrV a b ρ S = (a ρ S).bind fun d S1 => match truD d with
  | some true => .ok d S1
  | some false => b ρ S1
  | none => .no := .trans rfl rfl
theorem se_orV {X : Cx} {W : WX} {e b : Expr} {es : List Expr} {ra rb : RE} {pos : Pos} (h : SE X W e ra) (t : SE X W (.BoolOp .Or (b :: es) pos) rb) : SE X W (.BoolOp .Or (e :: b :: es) pos) (eOrV ra rb) :=
  PE.imp (pe_orT h t) fun σ H Q ⟨μ, ρ, S, hS, hE, h⟩ => (bnd hS hE h).mono fun v H1 ⟨μ1, S1, d, hS1, hE1, s1, rv, h1⟩ => by
    cases rv with
    | non => exact ⟨false, rfl, ⟨μ1, ρ, S1, hS1, hE1, h1⟩⟩
    | bl k =>
      cases k with
      | true => exact ⟨true, rfl, Met.ok (RP := Rep X.K) h1 hS1 (.bl _)⟩
      | false => exact ⟨false, rfl, ⟨μ1, ρ, S1, hS1, hE1, h1⟩⟩
    | int i =>
      dsimp only [truD] at h1
      refine ⟨i != 0, rfl, ?_⟩
      cases q : (i != 0) with
      | true => rw [q] at h1; exact Met.ok (RP := Rep X.K) h1 hS1 (.int _)
      | false => rw [q] at h1; exact ⟨μ1, ρ, S1, hS1, hE1, h1⟩
    | _ => exact h1.elim
end PL
namespace PL
open PySem PySem.Spec PyProof.Rows L2
/-! ### list(range(a, b)) -/
noncomputable def lrD (x y : Dv) (S : Sto) : Out Dv := match x, y with
  | .int i, .int j => @ite _ (RgOk i j) (Classical.propDecidable _) (newL (rangeL i j) S) .no
  | _, _ => .no
theorem rg_rep {K : PySem.W.Frag} {μ : List Addr} {H : Hp} (i j : Int) : Reps K μ H (rgV i j) (rangeL i j) := by
  unfold rgV rangeL
  refine ⟨by simp, fun n v d h1 h2 => ?_⟩
  rw [List.getElem?_map] at h1 h2
  cases q : (List.range (j - i).toNat)[n]? with
  | none => rw [q] at h1; cases h1
  | some m => rw [q] at h1 h2; cases h1; cases h2; exact .int _
theorem se_lrange2 {X : Cx} {W : WX} {a b : Expr} {ra rb : RE} {p pos p2 pos2 : Pos} (hc : X.calm = true) (hg : Gl X "list") (hm : X.mg "list" = none) (hg2 : Gl X "range") (hm2 : X.mg "range" = none) (ha : SE X W a ra) (hb : SE X W b rb)
    (h1 : starEach [a, b] X.env = (false, eval a X.env) :: starEach [b] X.env := by rfl) (h2 : starEach [b] X.env = (false, eval b X.env) :: starEach [] X.env := by rfl) (h3 : ((backTo pos2 (starEach [b] X.env)).any fun x => x.fst) = false := by rfl)
    (h4 : starEach [.Call (.Name "range" p2) [a, b] [] pos2] X.env = (false, eval (.Call (.Name "range" p2) [a, b] [] pos2) X.env) :: starEach [] X.env := by rfl) :
    SE X W (.Call (.Name "list" p) [.Call (.Name "range" p2) [a, b] [] pos2] [] pos) (eBin lrD ra rb) :=
  PE.imp (pe_listRg hc hg hm (prg_2 hg2 hm2 ha hb h1 h2 h3) h4) fun σ H Q ⟨μ, ρ, S, hS, hE, h⟩ => (bnd hS hE h).mono fun v H1 ⟨μ1, S1, d, hS1, hE1, s1, rv, g1⟩ => (bnd hS1 hE1 g1).mono fun u H2 ⟨μ2, S2, e, hS2, hE2, s2, ru, g2⟩ => by
    have rv' := rv.step s2
    cases rv' with
    | int i =>
      cases ru with
      | int j =>
        unfold lrD at g2
        dsimp only at g2
        split at g2
        · rename_i ok
          exact ⟨i, j, rfl, rfl, ok, fun q n => g2.lst hS2 n (rg_rep i j)⟩
        · exact g2.elim
      | _ => exact g2.elim
    | _ => exact g2.elim
theorem lr_int {S : Sto} {i j : Int} (h0 : 0 ≤ i) (h1 : i < 1000000) (h2 : 0 ≤ j) (h3 : j < 1000000) : lrD (.int i) (.int j) S = newL (rangeL i j) S := by
  unfold lrD
  dsimp only
  rw [if_pos (show RgOk i j from ⟨by omega, by omega, by omega, by omega, by omega⟩)]
end PL

namespace PL
open PySem PySem.Spec PyProof.Rows L2
/-! ### dict displays with keys that are numbers or texts -/
def evPairs : List (RE × RE) → Env → Sto → Out (List (Dv × Dv))
  | [], _, S => .ok [] S
  | p :: r, ρ, S => (p.1 ρ S).bind fun x S1 => (p.2 ρ S1).bind fun y S2 => (evPairs r ρ S2).bind fun ps S3 => .ok ((x, y) :: ps) S3
def RPairs (K : PySem.W.Frag) (μ : List Addr) (H : Hp) (ps : List (V × V)) (qs : List (Dv × Dv)) : Prop := Reps K μ H (ps.map (·.1)) (qs.map (·.1)) ∧ Reps K μ H (ps.map (·.2)) (qs.map (·.2))
def keysD : List (Dv × Dv) → Option (List (L2.Key × Dv))
  | [] => some []
  | q :: r => match keyOf q.1, keysD r with
    | some k, some es => some ((k, q.2) :: es)
    | _, _ => none
def mergeD (acc : List (L2.Key × Dv)) (es : List (L2.Key × Dv)) : List (L2.Key × Dv) := es.foldl (fun a e => gput a e.1 e.2) acc
def eDisp (rs : List (RE × RE)) : RE := fun ρ S => (evPairs rs ρ (S ++ [.dk []])).bind fun qs S2 => match S2[S.length]? with
  | some (.dk []) => match keysD qs with
    | some es => if es.length ≤ 15 then .ok (.ref S.length) (S2.set S.length (.dk (mergeD [] es))) else .no
    | none => .no
  | _ => .no
section
variable {K : PySem.W.Frag} {mg : Str → Option Value} {W : WX} {μ μ1 : List Addr} {H H1 : Hp} {S S1 : Sto} {σ : L2.St} {ρ : Env}
theorem tp_met : ∀ (rs : List (RE × RE)) {σ : L2.St} {H : Hp} {Q : List (V × V) → Hp → Prop}, tG (RPairs K) K mg W (evPairs rs) σ H Q → tPairs (rs.map fun r => (tG (Rep K) K mg W r.1, tG (Rep K) K mg W r.2)) σ H Q
  | [], σ, H, Q, h => by
    obtain ⟨μ, ρ, S, hS, hE, h⟩ := h
    exact Met.ok (RP := RPairs K) h hS ⟨.nil, .nil⟩
  | r :: rs, σ, H, Q, h => by
    obtain ⟨μ, ρ, S, hS, hE, h⟩ := h
    refine (bnd hS hE h).mono fun x H1 ⟨μ1, S1, d, hS1, hE1, s1, rx, h1⟩ => ?_
    refine (bnd hS1 hE1 h1).mono fun y H2 ⟨μ2, S2, e, hS2, hE2, s2, ry, h2⟩ => ?_
    refine tp_met rs ((bnd (R1 := RPairs K) hS2 hE2 h2).mono fun ps H3 ⟨μ3, S3, qs, hS3, hE3, s3, rp, h3⟩ => ?_)
    exact Met.ok (RP := RPairs K) h3 hS3 ⟨rp.1.cons ((rx.step s2).step s3), rp.2.cons (ry.step s3)⟩
theorem keysD_rep : ∀ {qs : List (Dv × Dv)} {es : List (L2.Key × Dv)} {ps : List (V × V)}, keysD qs = some es → RPairs K μ H ps qs → ∃ kvs : List (L2.Key × V), ps = kvs.map (fun kv => (kV kv.1, kv.2)) ∧ kvs.map (·.1) = es.map (·.1) ∧ Reps K μ H (kvs.map (·.2)) (es.map (·.2))
  | [], es, ps, h, r => by
    cases h
    have := r.1.un0
    rw [List.map_eq_nil_iff] at this
    subst this
    exact ⟨[], rfl, rfl, .nil⟩
  | q :: qs, es, ps, h, r => by
    simp only [keysD] at h
    split at h
    · rename_i k es' hk he
      cases h
      cases ps with
      | nil => exact absurd r.1.1 (by simp)
      | cons p ps =>
        obtain ⟨v, ws, e1, r1, t1⟩ := r.1.uncons
        obtain ⟨u, zs, e2, r2, t2⟩ := r.2.uncons
        simp only [List.map_cons, List.cons.injEq] at e1 e2
        obtain ⟨rfl, rfl⟩ := e1
        obtain ⟨rfl, rfl⟩ := e2
        obtain ⟨kvs, e3, e4, e5⟩ := keysD_rep he ⟨t1, t2⟩
        refine ⟨(k, p.2) :: kvs, ?_, by rw [List.map_cons, List.map_cons, e4], e5.cons r2⟩
        rw [List.map_cons, ← e3, ← keyOf_rep r1 hk]
    · cases h
theorem merge_rep : ∀ (es : List (L2.Key × Dv)) (kvs : List (L2.Key × V)) (acc : List (L2.Key × Dv)) (ws : List (L2.Key × V)), kvs.map (·.1) = es.map (·.1) → Reps K μ H (kvs.map (·.2)) (es.map (·.2)) → ws.map (·.1) = acc.map (·.1) → Reps K μ H (ws.map (·.2)) (acc.map (·.2)) →
    (mergeK ws kvs).map (·.1) = (mergeD acc es).map (·.1) ∧ Reps K μ H ((mergeK ws kvs).map (·.2)) ((mergeD acc es).map (·.2))
  | [], kvs, acc, ws, h, r, ha, ra => by
    rw [List.map_nil, List.map_eq_nil_iff] at h
    subst h
    exact ⟨ha, ra⟩
  | e :: es, [], acc, ws, h, r, ha, ra => by simp at h
  | e :: es, kv :: kvs, acc, ws, h, r, ha, ra => by
    simp only [List.map_cons, List.cons.injEq] at h
    obtain ⟨u, zs, e2, r2, t2⟩ := r.uncons
    simp only [List.map_cons, List.cons.injEq] at e2
    obtain ⟨rfl, rfl⟩ := e2
    obtain ⟨g1, g2⟩ := gput_rep (k := e.1) ha ra r2
    have := merge_rep es kvs (gput acc e.1 e.2) (putK ws e.1 kv.2) h.2 t2 g1 g2
    show (mergeK (putK ws kv.1 kv.2) kvs).map (·.1) = (mergeD (gput acc e.1 e.2) es).map (·.1) ∧ Reps K μ H ((mergeK (putK ws kv.1 kv.2) kvs).map (·.2)) ((mergeD (gput acc e.1 e.2) es).map (·.2))
    rw [h.1]
    exact this
end
section
variable {X : Cx} {W : WX} {k v e : Expr} {ks : List (Option Expr)} {vs : List Expr} {a b : RE} {rs : List (RE × RE)} {pos : Pos}
structure SPs (X : Cx) (W : WX) (pos : Pos) (ks : List (Option Expr)) (vs : List Expr) (rs : List (RE × RE)) : Prop where
  pp : PPs X pos ks vs (rs.map fun r => (tG (Rep X.K) X.K X.mg W r.1, tG (Rep X.K) X.K X.mg W r.2))
theorem sps_nil : SPs X W pos [] [] [] := ⟨pps_nil⟩
theorem sps_cons (hk : SE X W k a) (hv : SE X W v b) (t : SPs X W pos ks vs rs) : SPs X W pos (some k :: ks) (v :: vs) ((a, b) :: rs) := ⟨pps_cons hk hv t.pp⟩
theorem se_disp (h : SPs X W pos ks vs rs) (hall : ks.all (·.isSome) = true) (hl : ks.length = vs.length) (h0 : ks ≠ []) (h15 : ks.length ≤ 15) : SE X W (.Dict ks vs pos) (eDisp rs) :=
  PE.imp (pe_disp h.pp hall hl h0 h15) fun σ H Q ⟨μ, ρ, S, hS, hE, hm⟩ p hp => by
    have st0 := step_new hS hp (.dK [])
    have hS0 : SimS X.K (μ ++ [p]) (S ++ [.dk []]) (upd H p (.dK [])) := hS.new hp ⟨[], upd_same, rfl, .nil⟩
    have hm0 := Met.step st0 hm
    refine tp_met rs ((bnd (R1 := RPairs X.K) hS0 (hE.step st0) hm0).mono fun ps H2 ⟨μ2, S2, qs, hS2, hE2, s2, rp, h2⟩ => ?_)
    have hp2 : μ2[S.length]? = some p := s2.get (new_at hS p)
    split at h2
    · rename_i eS
      obtain ⟨ws, w1, w2, _⟩ := hS2.at' eS hp2
      rw [List.map_nil, List.map_eq_nil_iff] at w2
      subst w2
      split at h2
      · rename_i es he
        split at h2
        · rename_i h15'
          obtain ⟨kvs, e3, e4, e5⟩ := keysD_rep he rp
          refine ⟨w1, kvs, e3, by have := congrArg List.length e4; simp at this; omega, ?_⟩
          obtain ⟨m1, m2⟩ := merge_rep es kvs [] [] e4 e5 rfl .nil
          exact h2.put (RP := Rep X.K) hS2 hp2 (u := .dK (mergeK [] kvs)) ⟨_, upd_same, m1, m2.step (step_put hS2 hp2 _)⟩ (.ref hp2)
        · exact h2.elim
      · exact h2.elim
    · exact h2.elim
end
/-! ### reversed -/
def trevD (d : Dv) (S : Sto) : Out Dv := match lstOf S d with
  | some ds => .ok (.tup ds.reverse) S
  | none => .no
theorem se_tupRev {X : Cx} {W : WX} {e : Expr} {ra : RE} {p p2 pos pos2 : Pos} (hc : X.calm = true) (hg : Gl X "tuple") (hm : X.mg "tuple" = none) (hg2 : Gl X "reversed") (hm2 : X.mg "reversed" = none) (he : SE X W e ra)
    (hs : starEach [e] X.env = (false, eval e X.env) :: starEach [] X.env := by rfl)
    (hs2 : starEach [.Call (.Name "reversed" p2) [e] [] pos2] X.env = (false, eval (.Call (.Name "reversed" p2) [e] [] pos2) X.env) :: starEach [] X.env := by rfl) :
    SE X W (.Call (.Name "tuple" p) [.Call (.Name "reversed" p2) [e] [] pos2] [] pos) (eUn trevD ra) :=
  PE.imp (RT.pe_tupRev hc hg hm hg2 hm2 he hs hs2) fun σ H Q ⟨μ, ρ, S, hS, hE, h⟩ => (bnd hS hE h).mono fun v H1 ⟨μ1, S1, d, hS1, hE1, s1, rv, h1⟩ => by
    unfold trevD at h1
    split at h1
    · rename_i ds el
      obtain ⟨a, vs, rfl, q, r⟩ := rv.sqL hS1 el
      exact ⟨a, vs, rfl, q, fun q' n => h1.tup hS1 n r.rev⟩
    · exact h1.elim
end PL
namespace PL
open PySem PySem.Spec PyProof.Rows L2
/-! ### loops over reversed(..) -/
def iRev (e : RE) : RI := fun ρ S => (e ρ S).bind fun d S1 => match seqOf S1 d with
  | some ds => .ok (ds.reverse, ckOf d ds) S1
  | none => .no
theorem rev_get {α : Type} {xs : List α} {i : Nat} {x : α} (h : xs.reverse[i]? = some x) : i < xs.length ∧ xs[xs.length - 1 - i]? = some x := by
  have hi := (List.getElem?_eq_some_iff.mp h).1
  rw [List.length_reverse] at hi
  rw [List.getElem?_reverse hi] at h
  exact ⟨hi, h⟩
theorem src_keep2 {K : PySem.W.Frag} {μ : List Addr} {H : Hp} {S : Sto} {v : V} {d : Dv} {ds : List Dv} (hS : SimS K μ S H) (r : Rep K μ H v d) (e : seqOf S d = some ds) :
    ∃ l a vs, v = .ref a ∧ Sq K l H a vs ∧ Reps K μ H vs ds ∧ ∀ μ' S' H', Step μ H μ' H' → SimS K μ' S' H' → (ckOf d ds).ok S' → ∃ ws, Sq K l H' a ws ∧ Reps K μ' H' ws ds := by
  unfold seqOf at e
  cases q : tupOf d with
  | some es =>
    rw [q] at e
    cases e
    obtain ⟨a, vs, rfl, rr, h1, h2⟩ := sqT_keep r q
    exact ⟨false, a, vs, rfl, h1, rr, fun μ' S' H' st _ _ => ⟨vs, h2 μ' H' st, rr.step st⟩⟩
  | none =>
    rw [q] at e
    obtain ⟨a, vs, rfl, h1, rr⟩ := r.sqL hS e
    obtain ⟨a', vs', e', _, h2⟩ := itr_list hS r e
    cases e'
    exact ⟨true, a, vs, rfl, h1, rr, h2⟩
theorem si_rev {X : Cx} {W : WX} {tg e : Expr} {re : RE} {p pos : Pos} (hg : Gl X "reversed") (hm : X.mg "reversed" = none) (he : SE X W e re) (hs : starEach [e] X.env = (false, eval e X.env) :: starEach [] X.env := by rfl) : SI X W tg (.Call (.Name "reversed" p) [e] [] pos) (iRev re) :=
  PI.imp (RT.pi_revA hg hm he hs) fun σ H R ⟨μ, ρ, S, hS, hE, h⟩ => by
    refine ⟨μ, ρ, S, hS, hE, ?_⟩
    unfold iRev at h
    cases q : re ρ S with
    | no => rw [q] at h; exact h.elim
    | ex x S1 => rw [q] at h; exact h
    | ok d S1 =>
      rw [q] at h
      simp only [Out.bind_ok] at h
      intro μ1 H1 v a b r
      cases q1 : seqOf S1 d with
      | none => rw [q1] at h; exact h.elim
      | some ds =>
        rw [q1] at h
        obtain ⟨l, a1, vs, rfl, s1, r1, k1⟩ := src_keep2 a r q1
        refine ⟨a1, vs, rfl, ?_⟩
        cases l with
        | true =>
          refine .inl ⟨s1, h μ1 H1 _ a b fun μ' S' H' i st hS' hck => ?_⟩
          obtain ⟨ws, w1, w2⟩ := k1 μ' S' H' st hS' hck
          refine ⟨fun e => by show vs.length ≤ i; rw [e, r1.1]; exact Nat.le_of_eq (List.length_reverse).symm, fun d hd => ?_⟩
          obtain ⟨hi, hd⟩ := rev_get hd
          rw [← r1.1] at hi hd
          obtain ⟨u, hu, ru⟩ := w2.get hd
          refine ⟨⟨hi, ws, u, w1, hu⟩, ?_⟩
          rintro x _ ⟨rfl, y⟩
          have := y ws w1
          rw [hu] at this; cases this
          exact ⟨.refl .., hS', ru⟩
        | false =>
          refine .inr ⟨s1, h μ1 H1 _ a b fun μ' S' H' i st hS' hck => ?_⟩
          obtain ⟨ws, w1, w2⟩ := k1 μ' S' H' st hS' hck
          refine ⟨fun e => by show vs.length ≤ i; rw [e, r1.1]; exact Nat.le_of_eq (List.length_reverse).symm, fun d hd => ?_⟩
          obtain ⟨hi, hd⟩ := rev_get hd
          rw [← r1.1] at hi hd
          obtain ⟨u, hu, ru⟩ := w2.get hd
          refine ⟨⟨hi, ws, u, w1, hu⟩, ?_⟩
          rintro x _ ⟨rfl, y⟩
          have := y ws w1
          rw [hu] at this; cases this
          exact ⟨.refl .., hS', ru⟩
end PL
namespace PL
open PySem PySem.Spec PyProof.Rows L2
/-! ### enumerate(reversed(a list)) -/
section
variable {prog : Program} {w : World} {A : Around} {E : Value → Shared → Prop} {s : Shared}
theorem nx_rev {it l : Addr} {i : Nat} {items : Array Value} {x : Value} {Q : Value → Shared → Prop} (hit : s.heap.IsRevIter it l (i : Int)) (hl : s.heap.IsList l items) (hx : items[i]? = some x)
    (hQ : ∀ h', h'.IsRevIter it l ((i : Int) - 1) → Heap.SameBut it s.heap h' → Q x { s with heap := h' }) : wpAny (model prog w) A (Builtin.SmallTypes.nextOf (.ref it)) Q E s := by
  obtain ⟨o, ho, hc, hd⟩ := id hit
  obtain ⟨ol, hol, _, nl, hdl⟩ := hl
  unfold Builtin.SmallTypes.nextOf
  refine wpAny_bind (wpAny_callSpecial?_slot (name := Str.ofString "__next__") hit.typeIs F.slot_lri_next (wpAny_call_entry F.slot_lri_next hit.typeIs F.entry_lri_next ?_ (F.args_lri_next_1 _)))
  unfold Builtin.«list_reverseiterator.__next__»
  refine wpAny_bind (wpAny_of_eq (a := (Value.ref it, [])) rfl ?_); (try dsimp only)
  refine wpAny_bind (wpAny_field ho hd (x := rawInt (i : Int)) rfl ?_); show wpAny _ _ (if (i : Int) < 0 then _ else _) _ _ s; rw [if_neg (by omega)]
  show wpAny _ _ (field (.ref it) 0 >>= _) _ _ s; refine wpAny_bind (wpAny_field ho hd (x := .ref l) rfl ?_)
  show wpAny _ _ (seqItems? (.ref l) >>= _) _ _ s; refine wpAny_bind (wpAny_seqItems hol hdl ?_)
  simp only [Int.toNat_natCast, hx]
  have fin : ∀ h', h' = s.heap.update it (fun o => o) → True := fun _ _ => trivial
  refine wpAny_bind (wpAny_setField ho hd (by simp) ?_)
  first
    | refine wpAny_pure ⟨x, rfl, wpAny_pure (hQ _ ?_ (Heap.SameBut.update ..))⟩
    | refine wpAny_bind (wpAny_pure (wpAny_pure ⟨x, rfl, wpAny_pure (hQ _ ?_ (Heap.SameBut.update ..))⟩))
  exact ⟨_, Heap.get?_update_self _ ho (Obj.isFreed_of_fields (Obj.data_mapFields hd _)), (Obj.cls_mapFields ..).trans hc, by rw [Obj.data_mapFields hd]; simp⟩
theorem nx_rev_end {it l : Addr} {Q : Value → Shared → Prop} (hh : A.handled = none) (hit : s.heap.IsRevIter it l (-1))
    (hE : ∀ h' e, Heap.ExtBut it s.heap h' → (∃ o, h'.get? e = some o ∧ o.cls = .type "StopIteration") → E (.ref e) { s with heap := h' }) : wpAny (model prog w) A (Builtin.SmallTypes.nextOf (.ref it)) Q E s := by
  obtain ⟨o, ho, hc, hd⟩ := id hit
  unfold Builtin.SmallTypes.nextOf
  refine wpAny_bind (wpAny_callSpecial?_slot (name := Str.ofString "__next__") hit.typeIs F.slot_lri_next (wpAny_call_entry F.slot_lri_next hit.typeIs F.entry_lri_next ?_ (F.args_lri_next_1 _)))
  unfold Builtin.«list_reverseiterator.__next__»
  refine wpAny_bind (wpAny_of_eq (a := (Value.ref it, [])) rfl ?_); (try dsimp only)
  refine wpAny_bind (wpAny_field ho hd (x := rawInt (-1)) rfl ?_); show wpAny _ _ (if (-1 : Int) < 0 then _ else _) _ _ s; rw [if_pos (by decide)]
  refine wpAny_bind (wpAny_rule ?_)
  first
    | show wpAny _ _ (newExc (.type "StopIteration") [] >>= _) _ _ _
    | (refine wpAny_bind ?_; show wpAny _ _ (newExc (.type "StopIteration") [] >>= _) _ _ _)
  refine wpAny_bind ?_; simp only [newExc, newTuple]; refine wpAny_bind (wpAny_newObj_type ?_ (by size_fits))
  refine wpAny_bind (m := firstArgMember _ _) (wpAny_of_eq (a := Value.none) (by first | rfl | (simp only [firstArgMember]; rfl)) ?_); refine wpAny_newObj_type ?_ (by size_fits)
  simp only [raiseNew]; refine wpAny_bind (wpAny_handled ?_)
  first | rw [show A.in1.handled = none from hh] | rw [hh]
  refine wpAny_bind (wpAny_pure (wpAny_throw ?_)); exact hE _ _ (((Heap.ExtBut.refl _ _).push _).push _) ⟨_, Heap.get?_push_size _ rfl, rfl⟩
end
theorem rev_draws {prog : Program} {w : World} {A : Around} (hh : A.handled = none) (it l : Addr) (ne : l ≠ it) (items : Array Value) :
    Draws prog w A it [it, l] items.size (fun i v => items[items.size - 1 - i]? = some v) (fun i h => i ≤ items.size ∧ h.IsRevIter it l ((items.size : Int) - 1 - (i : Nat)) ∧ h.IsList l items) where
  live := fun _ _ st => let ⟨o, ho, _⟩ := st.2.1; ⟨o, ho⟩
  frame := fun _ _ _ st hk => ⟨st.1, st.2.1.at fun o e => hk it (by simp) o e, st.2.2.at fun o e => hk l (by simp) o e⟩
  item := fun i s Q E hi st hQ => by
    have e1 : (items.size : Int) - 1 - (i : Nat) = ((items.size - 1 - i : Nat) : Int) := by omega
    have st1 := st.2.1
    rw [e1] at st1
    refine nx_rev st1 st.2.2 (x := items[items.size - 1 - i]'(by omega)) (by simp) fun h' hit' hs' => ?_
    refine hQ _ h' s.toks (by simp) ⟨hi, ?_, st.2.2.extBut hs'.extBut ne⟩ hs'
    rw [show (items.size : Int) - 1 - ((i + 1 : Nat) : Int) = ((items.size - 1 - i : Nat) : Int) - 1 by omega]; exact hit'
  done := fun s Q E st hE => nx_rev_end hh (by have := st.2.1; rwa [show (items.size : Int) - 1 - ((items.size : Nat) : Int) = -1 by omega] at this) hE
/-- numbered items of a list from its end -/
def Jr (K : PySem.W.Frag) (a : Addr) (n : Nat) : It :=
  ⟨fun i H => i < n ∧ ∃ vs x, SqL K H a vs ∧ vs.length = n ∧ vs[n - 1 - i]? = some x,
    fun i H v H' => ∃ T x, v = .ref T ∧ H T = none ∧ H' = upd H T (.tup [.int (i : Nat), x]) ∧ (∀ vs, SqL K H a vs → vs[n - 1 - i]? = some x),
    fun i H => ∃ vs, SqL K H a vs ∧ vs.length = n ∧ i = n⟩
theorem turn_jr {P : Program} {w : World} {K : PySem.W.Frag} {elts : List Expr} {kk n : Nat} {tpos : Pos} {a e it : Addr} (ne : e ≠ it) (ni : a ≠ it) (na : a ≠ e) :
    Turn P w K (.Tuple elts kk tpos) (Jr K a n) [e, it] e (fun i h => (∃ old, IsEnum h e it ((i : Nat) : Int) old) ∧ i ≤ n ∧ h.IsRevIter it a ((n : Int) - 1 - (i : Nat))) := by
  have sp : ∀ {c : Addr}, c ∈ [e, it] → c = e ∨ c = it := fun h => by simpa using h
  have nf : e ∉ [it, a] := fun h => by
    simp only [List.mem_cons, List.not_mem_nil, or_false] at h
    exact h.elim ne fun z => na z.symm
  refine ⟨by simp, ?_, ?_, ?_, ?_, fun A i s Q E st hQ => let ⟨⟨_, e1⟩, _⟩ := st; wpAny_pyIter_enum e1 hQ⟩
  · rintro i h ⟨⟨old, e1⟩, _, o, e2, _, d⟩ c hc
    rcases sp hc with rfl | rfl
    · exact ⟨_, e1, fun v z => nomatch z⟩
    · exact ⟨o, e2, fun v z => by rw [d] at z; cases z⟩
  · rintro i h h' ⟨⟨old, e1⟩, le, e2⟩ kp
    exact ⟨⟨old, kp e (by simp) _ e1⟩, le, e2.at (kp it (by simp))⟩
  · intro X hP hw hK hc i pins s σ H E I hf ⟨⟨old, e1⟩, le, e2⟩ ⟨hin, vs, x, q1, hn, g1⟩
    subst hP hw hK
    obtain ⟨its, r1, p1⟩ := sq_read (l := true) I q1
    obtain ⟨u1, hu1, ru1⟩ := r1.get g1
    have sz : its.toArray.size = n := by rw [List.size_toArray, ← hn]; exact r1.length.symm
    have hh : X.A.handled = none := I.ok.hd hc
    have D1 := rev_draws (prog := X.prog) (w := X.w) (A := X.A.in1) hh it a ni its.toArray
    refine wpAny_pyNext_enum_itemD D1 e1 ⟨by omega, by rw [sz]; exact e2, p1⟩ (by omega) ne nf fun w1 h' tk a1 en st1 tn _ kp => ?_
    have w1e : w1 = u1 := Option.some.inj (a1.symm.trans (show its.toArray[its.toArray.size - 1 - i]? = some u1 by rw [sz]; simpa using hu1))
    subst w1e
    refine ⟨_, rfl, wpAny_letOwnedTupleGo_enum (s := { s with heap := h', toks := tk + 1 }) en fun h2 en2 sb => ?_⟩
    have zl : e < s.heap.objs.size := Heap.lt_size e1
    have tn2 : h2.get? s.heap.objs.size = some { cls := .type "tuple", data := .seq #[.int i tk, w1] } := (sb.2 _ (Nat.ne_of_gt zl)).trans tn
    have ok : ObjOk X.prog X.w (upd H s.heap.objs.size (.tup [.int (i : Nat), x])) h2 s.heap.objs.size (.tup [.int (i : Nat), x]) := ⟨show 2 ≤ 2 ^ 24 by omega, [.int i tk, w1], .cons ⟨_, rfl⟩ (.cons ru1 .nil), ⟨_, tn2, rfl, _, rfl⟩⟩
    have I2 : Inv X pins σ (upd H s.heap.objs.size (.tup [.int (i : Nat), x])) { s with heap := h2, toks := tk + 1 } :=
      I.turnedNew (t' := tk + 1) (ch := [e, it]) (fun c o hn' q => by
        have n1 : c ≠ e := fun z => hn' (by simp [z])
        exact (sb.2 c n1).trans (kp c o n1 (fun z => hn' (by simp [z])) q)) hf (Nat.le_refl _) ok
    refine ⟨.ref s.heap.objs.size, _, I2, rfl, ⟨_, x, rfl, I.hok.fresh (Nat.le_refl _), rfl, fun ws q => by rw [I.list_inj q q1]; exact g1⟩, ⟨⟨w1, ?_⟩, hin, ?_⟩, fun c hcm => ?_⟩
    · rw [show ((i + 1 : Nat) : Int) = (i : Int) + 1 by omega]; exact en2
    · have := st1.2.1
      rw [sz] at this
      exact this.at fun o q => (sb.2 _ (Ne.symm ne)).trans q
    · have hlt : c < s.heap.objs.size := by
        rcases sp hcm with rfl | rfl
        · exact zl
        · obtain ⟨o, q, _⟩ := e2; exact Heap.lt_size q
      rw [upd_ne (Nat.ne_of_lt hlt)]
      exact (hf c hcm).1
  · intro X hP hw hK hc i pins s σ H E I hf ⟨⟨old, e1⟩, le, e2⟩ ⟨vs, q1, hn, he⟩
    subst hP hw hK
    obtain ⟨its, r1, p1⟩ := sq_read (l := true) I q1
    have sz : its.toArray.size = n := by rw [List.size_toArray, ← hn]; exact r1.length.symm
    have hh : X.A.handled = none := I.ok.hd hc
    have D1 := rev_draws (prog := X.prog) (w := X.w) (A := X.A.in1) hh it a ni its.toArray
    have st : its.toArray.size ≤ its.toArray.size ∧ s.heap.IsRevIter it a ((its.toArray.size : Int) - 1 - (its.toArray.size : Nat)) ∧ s.heap.IsList a its.toArray := ⟨Nat.le_refl _, by rw [sz]; rw [he] at e2; exact e2, p1⟩
    exact wpAny_pyNext_enum_endD D1 e1 st fun h' kp => ⟨rfl, I.turnedL (t' := s.toks) (ch := [e, it]) (fun c o hn' q => kp c o (fun z => hn' (by simp [z])) q) hf⟩
def tJr (K : PySem.W.Frag) (te : TE) : TI := fun σ H R => te σ H fun v H1 => ∃ a xs, v = .ref a ∧ SqL K H1 a xs ∧ R (Jr K a xs.length) H1
theorem pi_jr {X : Cx} {e : Expr} {te : TE} {p p2 pos pos2 tpos : Pos} {elts : List Expr} {kk : Nat} (hg : Gl X "enumerate") (hm : X.mg "enumerate" = none) (hg2 : Gl X "reversed") (hm2 : X.mg "reversed" = none) (he : PE X e te)
    (hs : starEach [e] X.env = (false, eval e X.env) :: starEach [] X.env := by rfl)
    (hs2 : starEach [.Call (.Name "reversed" p2) [e] [] pos2] X.env = (false, eval (.Call (.Name "reversed" p2) [e] [] pos2) X.env) :: starEach [] X.env := by rfl) :
    PI X (.Tuple elts kk tpos) (.Call (.Name "enumerate" p) [.Call (.Name "reversed" p2) [e] [] pos2] [] pos) (tJr X.K te) := by
  refine ⟨fun pins s σ H R I h => Call_ (ld_blt I hg hm boot_enumerate (PyProof.Rows.callWith_type1 (args_cons (Call_ (ld_blt I hg2 hm2 PyProof.Rows.boot_reversed (PyProof.Rows.callWith_type1 (args_cons (thn (he.run pins s σ H _ I h) ?_) hs) hs rfl))) hs2) hs2 rfl))⟩
  rintro u s1 ⟨v, H1, I1, r1, a, xs, rfl, q1, hR⟩
  obtain rfl : u = .ref a := r1
  obtain ⟨its, rv, p1⟩ := sq_read (l := true) I1 q1
  have lt := pn_lt (l := true) p1
  have sz : its.toArray.size = xs.length := by rw [List.size_toArray]; exact rv.length.symm
  refine args_nil (call_reversed_list (show s1.heap.IsList a its.toArray from p1) (args_nil ?_))
  have h0 : (s1.heap.push (revObj a ((its.toArray.size : Int) - 1))).IsRevIter s1.heap.objs.size a ((its.toArray.size : Int) - 1) := ⟨_, Heap.get?_push_size _ rfl, rfl, rfl⟩
  refine en_call (s := { s1 with heap := s1.heap.push (revObj a ((its.toArray.size : Int) - 1)) }) (Hh := fun h => h.IsRevIter s1.heap.objs.size a ((its.toArray.size : Int) - 1)) (it := fun _ => s1.heap.objs.size) (nx := fun h => h) (fun prog w A E s Q hh hq => wpAny_pyIter_revIter hh hq) h0 fun e1 => wpAny_pyIter_enum e1 ?_
  have zs : (s1.heap.push (revObj a ((its.toArray.size : Int) - 1))).objs.size = s1.heap.objs.size + 1 := Heap.size_push ..
  have kp : ∀ c o, s1.heap.get? c = some o → ((s1.heap.push (revObj a ((its.toArray.size : Int) - 1))).push (enO s1.heap.objs.size)).get? c = some o := fun c o q => Heap.get?_push_of_some _ (Heap.get?_push_of_some _ q)
  have I2 : Inv X pins σ H1 { s1 with heap := (s1.heap.push (revObj a ((its.toArray.size : Int) - 1))).push (enO s1.heap.objs.size) } := I1.kept (t' := s1.toks) kp
  have n1 : (s1.heap.push (revObj a ((its.toArray.size : Int) - 1))).objs.size ≠ s1.heap.objs.size := by rw [zs]; exact Nat.succ_ne_self _
  have n2 : a ≠ (s1.heap.push (revObj a ((its.toArray.size : Int) - 1))).objs.size := by rw [zs]; exact Nat.ne_of_lt (Nat.lt_succ_of_lt lt)
  have st0 : ((s1.heap.push (revObj a ((its.toArray.size : Int) - 1))).push (enO s1.heap.objs.size)).IsRevIter s1.heap.objs.size a ((xs.length : Int) - 1 - ((0 : Nat) : Int)) := by
    rw [show (xs.length : Int) - 1 - ((0 : Nat) : Int) = (its.toArray.size : Int) - 1 by rw [sz]; omega]
    exact h0.at fun o q => Heap.get?_push_of_some _ q
  refine ⟨_, _, _, _, H1, rfl, I2, turn_jr (n := xs.length) n1 (Nat.ne_of_lt lt) n2, ⟨⟨.none, e1⟩, Nat.zero_le _, st0⟩, fun c hc => ?_, hR⟩
  have hle : s1.heap.objs.size ≤ c := by
    have : c = (s1.heap.push (revObj a ((its.toArray.size : Int) - 1))).objs.size ∨ c = s1.heap.objs.size := by simpa using hc
    rcases this with z | z
    · rw [z, zs]; exact Nat.le_succ _
    · rw [z]; exact Nat.le_refl _
  exact I1.fpOk hle (I1.hok.fresh hle)
def iEnumR (e : RE) : RI := fun ρ S => (e ρ S).bind fun d S1 => match lstOf S1 d with
  | some ds => .ok (enumL ds.reverse, ckOf d ds) S1
  | none => .no
theorem si_enumR {X : Cx} {W : WX} {e : Expr} {re : RE} {p p2 pos pos2 tpos : Pos} {elts : List Expr} {kk : Nat} (hg : Gl X "enumerate") (hm : X.mg "enumerate" = none) (hg2 : Gl X "reversed") (hm2 : X.mg "reversed" = none) (he : SE X W e re)
    (hs : starEach [e] X.env = (false, eval e X.env) :: starEach [] X.env := by rfl)
    (hs2 : starEach [.Call (.Name "reversed" p2) [e] [] pos2] X.env = (false, eval (.Call (.Name "reversed" p2) [e] [] pos2) X.env) :: starEach [] X.env := by rfl) :
    SI X W (.Tuple elts kk tpos) (.Call (.Name "enumerate" p) [.Call (.Name "reversed" p2) [e] [] pos2] [] pos) (iEnumR re) :=
  PI.imp (pi_jr hg hm hg2 hm2 he hs hs2) fun σ H R ⟨μ, ρ, S, hS, hE, h⟩ => by
    refine ⟨μ, ρ, S, hS, hE, ?_⟩
    unfold iEnumR at h
    cases q : re ρ S with
    | no => rw [q] at h; exact h.elim
    | ex x S1 => rw [q] at h; exact h
    | ok d S1 =>
      rw [q] at h
      simp only [Out.bind_ok] at h
      intro μ1 H1 v a b r
      cases q1 : lstOf S1 d with
      | none => rw [q1] at h; exact h.elim
      | some ds =>
        rw [q1] at h
        obtain ⟨a1, vs, rfl, s1, r1⟩ := r.sqL a q1
        obtain ⟨a2, vs2, e2, _, k1⟩ := itr_list a r q1
        cases e2
        refine ⟨a1, vs, rfl, s1, h μ1 H1 _ a b fun μ' S' H' i st hS' hck => ?_⟩
        obtain ⟨ws, w1, w2⟩ := k1 μ' S' H' st hS' hck
        have lw : ws.length = vs.length := by rw [w2.1, r1.1]
        have ll : (enumL ds.reverse).length = vs.length := by rw [enumL_len ds.reverse 0, List.length_reverse, r1.1]
        refine ⟨fun e => ⟨ws, w1, lw, by rw [e]; exact ll⟩, fun d hd => ?_⟩
        have hd' : (enumL ds.reverse)[i]? = some d := hd
        rw [enumL_get, Option.map_eq_some_iff] at hd'
        obtain ⟨d', hd', rfl⟩ := hd'
        obtain ⟨hi, hd'⟩ := rev_get hd'
        rw [← r1.1] at hi hd'
        obtain ⟨v, hv, rv⟩ := w2.get hd'
        refine ⟨⟨hi, ws, v, w1, lw, hv⟩, ?_⟩
        rintro _ _ ⟨T, z, rfl, hT, rfl, y⟩
        have e1 := y ws w1
        rw [hv] at e1; cases e1
        have rr : Reps X.K μ' H' [.int (i : Nat), v] [.int ((0 + i : Nat) : Int), d'] := by
          rw [Nat.zero_add]; exact (Reps.one rv).cons (.int _)
        exact ⟨step_lay hS' hT _, hS'.lay hT _, .tup ⟨upd_same, hS'.fresh hT⟩ rr.1 (rr.step (step_lay hS' hT _)).2⟩
end PL
namespace PL
open PySem PySem.Spec PyProof.Rows L2
/-! ### range(i, j, 2) -/
def upL2 (lo hi : Int) : List Dv := (List.range ((hi - lo + 1) / 2).toNat).map fun (i : Nat) => .int (lo + 2 * i)
noncomputable def rngS : List Dv → Option (List Dv)
  | [.int i, .int j, .int c] => @ite _ (0 ≤ i ∧ i < 1000000 ∧ 0 ≤ j ∧ j < 1000000 ∧ c = 2) (Classical.propDecidable _) (some (upL2 i j)) none
  | _ => none
theorem itr_up2 {K : PySem.W.Frag} {μ : List Addr} {H : Hp} {lo hi : Int} : ItR K μ H (Itc lo 2 ((hi - lo + 1) / 2).toNat) (upL2 lo hi, .tt) := by
  intro μ' S' H' i st hS _
  have hl : (upL2 lo hi).length = ((hi - lo + 1) / 2).toNat := by simp [upL2]
  refine ⟨fun e => Nat.le_of_eq (hl.symm.trans e.symm), fun d hd => ?_⟩
  have hi' : i < ((hi - lo + 1) / 2).toNat := by rw [← hl]; exact (List.getElem?_eq_some_iff.mp hd).1
  refine ⟨hi', fun x H'' y => ?_⟩
  obtain ⟨rfl, rfl⟩ := y
  have hd' : (upL2 lo hi)[i]? = some d := hd
  simp only [upL2, List.getElem?_map, List.getElem?_range hi', Option.map_some, Option.some.injEq] at hd'
  subst hd'
  rw [show lo + (i : Nat) * 2 = lo + 2 * (i : Int) by omega]
  exact ⟨.refl .., hS, .int _⟩
theorem rgc2 {i j : Int} (h0 : 0 ≤ i) (h1 : i < 1000000) (h2 : 0 ≤ j) (h3 : j < 1000000) : RgC i j 2 ((j - i + 1) / 2).toNat := by
  have e : Builtin.Range.rangeSize i j 2 = (((j - i + 1) / 2).toNat : Int) := by
    unfold Builtin.Range.rangeSize
    rw [if_pos (by decide)]
    split <;> omega
  refine ⟨by decide, by decide, ?_, e⟩
  unfold Builtin.Range.small
  rw [e]
  simp only [Builtin.Range.rangeFitsLong, Bool.and_eq_true, Bool.or_eq_true, decide_eq_true_eq, beq_iff_eq, show (2 : Int) > 0 by decide, if_true]
  omega
theorem si_rangeS {X : Cx} {W : WX} {tg a b c : Expr} {ra : RA} {p pos : Pos} (hg : Gl X "range") (hm : X.mg "range" = none) (ha : SA X W [a, b, c] ra)
    (hs : starEach [a, b, c] X.env = (false, eval a X.env) :: starEach [b, c] X.env := by rfl) (hs2 : (backTo pos (starEach [b, c] X.env)).any (·.1) = false := by rfl) : SI X W tg (.Call (.Name "range" p) [a, b, c] [] pos) (iRange rngS ra) :=
  PI.imp (pi_range3 hg hm ha hs hs2) fun σ H R h => iRange_met h fun μ1 H1 S1 vs ds w a r ew hR => by
    unfold rngS at ew
    split at ew
    · rename_i i j c
      obtain ⟨v, ws, rfl, rv, r2⟩ := r.uncons
      obtain ⟨u, u2, rfl, ru, ru2⟩ := r2.get2
      cases rv; cases ru; cases ru2
      split at ew
      · rename_i hj
        cases ew
        obtain ⟨q0, q1, q2, q3, q4⟩ := hj
        rw [q4]
        exact ⟨i, j, 2, ((j - i + 1) / 2).toNat, rfl, rgc2 q0 q1 q2 q3, hR _ itr_up2⟩
      · cases ew
    · cases ew
theorem rngS_of {i j : Int} (h0 : 0 ≤ i) (h1 : i < 1000000) (h2 : 0 ≤ j) (h3 : j < 1000000) : rngS [.int i, .int j, .int 2] = some (upL2 i j) := by
  simp only [rngS]
  rw [if_pos ⟨h0, h1, h2, h3, trivial⟩]
end PL

namespace PL
open PySem PySem.Spec PyProof.Rows L2
/-! ### max of a list of pairs of whole numbers -/
def pairsD : List Dv → Option (List (Int × Int))
  | [] => some []
  | .tup [.int a, .int b] :: r => (pairsD r).map ((a, b) :: ·)
  | _ => none
theorem pairsD_eq : ∀ {ds : List Dv} {ps : List (Int × Int)}, pairsD ds = some ps → ds = ps.map fun p => .tup [.int p.1, .int p.2]
  | [], ps, h => by simp [pairsD] at h; subst h; rfl
  | d :: r, ps, h => by
    unfold pairsD at h
    split at h
    · rename_i e; cases e
    · rename_i a b r' e
      injection e with e1 e2
      subst e1 e2
      obtain ⟨qs, e3, rfl⟩ := Option.map_eq_some_iff.mp h
      rw [pairsD_eq e3]; rfl
    · cases h
theorem pairsD_of (ps : List (Int × Int)) : pairsD (ps.map fun p => .tup [.int p.1, .int p.2]) = some ps := by
  induction ps with
  | nil => rfl
  | cons p ps ih => rw [List.map_cons, pairsD, ih]; rfl
def maxP (p : Int × Int) (ps : List (Int × Int)) : Int × Int := PySem.W.maxOf p ps
def maxpD (ds : List Dv) (S : Sto) : Out Dv := match ds with
  | [d] => match (lstOf S d).bind pairsD with
    | some (p :: ps) => .ok (.tup [.int (maxP p ps).1, .int (maxP p ps).2]) S
    | _ => .no
  | _ => .no
abbrev pD (p : Int × Int) : PyData := .tuple [.int p.1, .int p.2]
def rMaxP (K : PySem.W.Frag) : List V → Hp → VK → Prop := fun vs H Q => ∃ (a : Addr) (xs : List V) (p : Int × Int) (ps : List (Int × Int)), vs = [V.ref a] ∧ SqL K H a xs ∧ DpAll K H xs ((p :: ps).map pD) ∧
  ∀ (i : Nat) (x : V), xs[i]? = some x → (p :: ps)[i]? = some (maxP p ps) → Q x H
theorem cr_maxP {X : Cx} (hc : X.calm = true) (hu : X.A.units + 65 < cLine) : CallR X (.builtin "max") (rMaxP X.K) := by
  intro pins s σ H vs us Q I r h
  obtain ⟨a, xs, p, ps, rfl, hs, hd, q⟩ := h
  obtain ⟨its, rv, hl, _⟩ := I.list hs
  rw [Vals.ref1 r]
  obtain ⟨as, hr⟩ := Dp.readsAll I _ _ its hd rv
  have hH : PySem.W.HoldAll s.heap its.toArray.toList (p :: ps) := ⟨as, hr⟩
  have hdep : PySem.W.Datum.depth (Int × Int) ≤ 2 := by decide
  refine PySem.W.max_list_datum (I.ok.hd hc) hl.isList hH (by omega) fun i v h' tk hi hv hk => ?_
  have hlen := PySem.W.HoldAll.length hH
  have hii : i < its.length := by
    have := (Array.getElem?_eq_some_iff.mp hi).1
    simpa using this
  have hxl := rv.length
  have hiv : its[i]? = some v := by
    have : its.toArray.toList[i]? = some v := by rw [Array.getElem?_toList]; exact hi
    simpa using this
  have hlen' : its.length = (p :: ps).length := hlen
  obtain ⟨y, hy⟩ : ∃ y, (p :: ps)[i]? = some y := ⟨_, List.getElem?_eq_getElem (by omega)⟩
  obtain ⟨x, hx⟩ : ∃ x, xs[i]? = some x := ⟨_, List.getElem?_eq_getElem (by omega)⟩
  have hat : ∀ (vs : List Value) (qs : List (Int × Int)) (j : Nat) (w : Value) (z : Int × Int), PySem.W.HoldAll s.heap vs qs → vs[j]? = some w → qs[j]? = some z → PySem.W.Holds s.heap w z := by
    intro vs
    induction vs with
    | nil => intro qs j w z _ h; simp at h
    | cons w0 vs ih =>
      intro qs j w z H h1 h2
      cases qs with
      | nil => simp at h2
      | cons z0 qs =>
        cases j with
        | zero => simp at h1 h2; subst h1 h2; exact H.head.1
        | succ j => exact ih qs j w z H.head.2 (by simpa using h1) (by simpa using h2)
  obtain ⟨as1, r1⟩ := (hat _ _ i v y hH (by simpa using hiv) hy).keeps hk
  obtain ⟨as2, r2⟩ := hv
  have e := Reads.unique r1 _ _ r2
  have e1 : y = maxP p ps := by
    have e0 : (PyData.tuple [.int y.1, .int y.2]) = .tuple [.int (maxP p ps).1, .int (maxP p ps).2] := e.1
    injection e0 with e0
    injection e0 with e1 e2
    injection e2 with e2 _
    injection e1 with e1
    injection e2 with e2
    exact Prod.ext e1 e2
  subst e1
  obtain ⟨u, hu', ru⟩ := rv.get hx
  rw [hiv] at hu'; cases hu'
  exact ⟨x, H, I.kept hk, ru, q i x hx hy⟩
theorem o_maxP {K : PySem.W.Frag} : OpL K maxpD (rMaxP K) := by
  intro mg Wx μ H S vs ds Q hS r h
  unfold maxpD at h
  split at h
  · obtain ⟨v, rfl, rv⟩ := r.get1
    split at h
    · rename_i p ps e
      obtain ⟨es, e1, e2⟩ := Option.bind_eq_some_iff.mp e
      obtain ⟨a, us, rfl, hq, rr⟩ := rv.sqL hS e1
      have ee := pairsD_eq e2
      have tp : ∀ qs : List (Int × Int), toPs 3 S (qs.map fun p => .tup [.int p.1, .int p.2]) = some (qs.map pD) := fun qs => by
        induction qs with
        | nil => simp only [List.map_nil, toPs]
        | cons q qs ih => simp only [List.map_cons, toPs, toP, ih, Option.map_some]
      refine ⟨a, us, p, ps, rfl, hq, dps_of hS 3 us es _ rr (by rw [ee]; exact tp _), fun i x hx hp => ?_⟩
      have hd : es[i]? = some (.tup [.int (maxP p ps).1, .int (maxP p ps).2]) := by rw [ee, List.getElem?_map, hp]; rfl
      obtain ⟨u, hu, ru⟩ := rr.get hd
      rw [hx] at hu; cases hu
      exact h.ok hS ru
    · exact h.elim
  · exact h.elim
theorem maxp_ref {S : Sto} {l : Nat} {p : Int × Int} {ps : List (Int × Int)} (h : S[l]? = some (.lst ((p :: ps).map fun p => .tup [.int p.1, .int p.2]))) : maxpD [.ref l] S = .ok (.tup [.int (maxP p ps).1, .int (maxP p ps).2]) S := by
  simp only [maxpD, lst_ref h, Option.bind_some, pairsD_of]
theorem maxP_mem (p : Int × Int) (ps : List (Int × Int)) : maxP p ps ∈ p :: ps := by
  unfold maxP PySem.W.maxOf
  induction ps generalizing p with
  | nil => simp
  | cons q ps ih =>
    rw [List.foldl_cons]
    split
    · exact List.mem_cons_of_mem _ (ih q)
    · rcases List.mem_cons.mp (ih p) with e | e
      · rw [e]; simp
      · exact List.mem_cons_of_mem _ (List.mem_cons_of_mem _ e)
/-! ### a loop over reversed(range(n)) -/
noncomputable def iRevN (e : RE) : RI := fun ρ S => (e ρ S).bind fun d S1 => match d with
  | .int n => @ite _ (0 ≤ n ∧ n < 2 ^ 62) (Classical.propDecidable _) (.ok (downL (n - 1) (-1), .tt) S1) .no
  | _ => .no
theorem si_revN {X : Cx} {W : WX} {tg e : Expr} {re : RE} {p pos p2 pos2 : Pos} (hg : Gl X "reversed") (hm : X.mg "reversed" = none) (hg2 : Gl X "range") (hm2 : X.mg "range" = none) (he : SE X W e re)
    (h1 : starEach [e] X.env = (false, eval e X.env) :: starEach [] X.env := by rfl)
    (h2 : starEach [.Call (.Name "range" p2) [e] [] pos2] X.env = (false, eval (.Call (.Name "range" p2) [e] [] pos2) X.env) :: starEach [] X.env := by rfl) :
    SI X W tg (.Call (.Name "reversed" p) [.Call (.Name "range" p2) [e] [] pos2] [] pos) (iRevN re) :=
  PI.imp (pi_revR hg hm (prg_1 hg2 hm2 he h1) h2) fun σ H R ⟨μ, ρ, S, hS, hE, h⟩ => by
    refine ⟨μ, ρ, S, hS, hE, ?_⟩
    unfold iRevN at h
    cases q : re ρ S with
    | no => rw [q] at h; exact h.elim
    | ex x S1 => rw [q] at h; exact h
    | ok d S1 =>
      rw [q] at h
      simp only [Out.bind_ok] at h
      intro μ1 H1 v a b r
      cases r with
      | int n =>
        by_cases ok : 0 ≤ n ∧ n < 2 ^ 62
        · simp only [if_pos ok] at h
          obtain ⟨k0, k1⟩ := ok
          have e1 : (0 : Int) + (((n - 0).toNat : Nat) : Int) - 1 = n - 1 := by omega
          have e2 : (n - 0).toNat = (n - 1 - -1).toNat := by omega
          refine ⟨n, rfl, by omega, by omega, by omega, k1, ?_⟩
          rw [e1, e2]
          exact h μ1 H1 _ a b itr_down
        · simp only [if_neg ok] at h
      | _ => exact h.elim
theorem ev_irevn {e : RE} {ρ : Env} {S : Sto} : iRevN e ρ S = (e ρ S).bind fun d S1 => match d with
  | .int n => @ite _ (0 ≤ n ∧ n < 2 ^ 62) (Classical.propDecidable _) (.ok (downL (n - 1) (-1), .tt) S1) .no
  | _ => .no := rfl
/-! bits -/
theorem and1_int {S : Sto} (x : Int) : andD (.int x) (.int 1) S = .ok (.int (x % 2)) S := by rw [and_int, bitAnd_m1]
theorem shr_int {S : Sto} {i j : Int} (h : 0 ≤ j) : shrD (.int i) (.int j) S = .ok (.int (i / 2 ^ j.toNat)) S := by simp only [shrD, h, ↓reduceIte]
theorem fdiv_shl {S : Sto} {i : Int} {n : Nat} (hn : n ≤ 1000) : fdivD (.int i) (.int (1 * 2 ^ n)) S = .ok (.int (i / 2 ^ n)) S := by
  rw [Int.one_mul]
  have e : ((2 : Int) ^ n).natAbs = 2 ^ n := by rw [Int.natAbs_pow]; rfl
  have h0 : (0 : Int) < 2 ^ n := Int.pow_pos (by omega)
  have h1 : ((2 : Int) ^ n).natAbs.log2 < 9000 := by rw [e, Nat.log2_two_pow]; omega
  simp only [fdivD]
  rw [if_pos ⟨h0, h1⟩]
theorem mod_shl {S : Sto} {i : Int} {n : Nat} : modD (.int i) (.int (1 * 2 ^ n)) S = .ok (.int (i % 2 ^ n)) S := by
  rw [Int.one_mul]; exact mod_pos (Int.pow_pos (by omega))
end PL

/-! list(reversed(list)) -/
namespace PLRev
open PySem PySem.Spec PyProof.Rows RT
section
variable {prog : Program} {w : World} {A : Around} {E : Value → Shared → Prop} {s : Shared} {R : Result → Shared → Prop}
theorem extend_rev {it l S : Addr} {items : Array Value} (hh : A.handled = none) (res : Value) (c₀ : Nat) (hit : s.heap.IsRevIter it l ((items.size : Int) - 1)) (hl : s.heap.IsList l items) (hne : l ≠ it) (hn : items.size ≤ sizeLine) (hSi : S ≠ it) (hSl : S ≠ l)
    (hS : s.heap.get? S = some { cls := .type "list", data := .seq #[] c₀ })
    (hR : ∀ s' acc' c', Moved [S, it] (fun a b => b = a) s s' → s'.heap.get? S = some { cls := .type "list", dict := none, data := .seq acc' c', slots := #[] } → ItemsOf (fun i v => items[items.size - 1 - i]? = some v) acc' items.size → R (.ok (.ret res)) s') :
    wpAny (model prog w) A.in1 (Builtin.List.listExtendWith (.ref S) (.ref it) res)
      (fun fin s' => match fin with | .done f => R (.ok f) s' | .again c' => c'.quiet = true ∧ codeAny (model prog w) A c' R s') (fun e s' => R (.error e) s') s := by
  have W := (Walks.listRev (prog := prog) (w := w) (A := A.in1) hh it l hne items).toS
  have hSf : S ∉ [it, l] := by simp only [List.mem_cons, List.not_mem_nil, or_false, not_or]; exact ⟨hSi, hSl⟩
  have hT : s.TypeIs (.ref it) "list_reverseiterator" := Heap.IsRevIter.typeIs hit
  have h1 : Builtin.List.listSameRef (.ref S) (.ref it) = false := by simp [Builtin.List.listSameRef, hSi]
  unfold Builtin.List.listExtendWith
  refine wpAny_bind (wpAny_typeOf hT ?_)
  rw [if_neg (by rw [h1]; decide)]
  refine wpAny_bind (wpAny_pyIter_revIter hit ?_)
  refine wpAny_bind (wpAny_holding ?_)
  unfold Builtin.List.listLengthHint
  refine wpAny_bind (wpAny_specialOf hT nolen_lri ?_)
  show wpAny _ A.in1 (specialOf (Value.ref it) (Str.ofString "__length_hint__") >>= _) _ _ _
  refine wpAny_bind (wpAny_specialOf hT hint_lri ?_)
  generalize hid : ("list_reverseiterator.__length_hint__" : String) = id0
  wp_delta
  rw [show splitId id0 = some ("list_reverseiterator", "__length_hint__") from by subst hid; decide +kernel]
  subst hid
  refine wpAny_bind (wpAny_isInstance (b := true) hT (by rw [isSubtype_type]; kernel_rfl) ?_)
  refine wpAny_pure ?_
  rw [if_neg (by decide)]
  have e0 : ((items.size : Nat) : Int) - 1 - ((0 : Nat) : Int) = (items.size : Int) - 1 := by omega
  exact wpAny_pure ⟨plainId_quiet F.plain_extend_loop _, codeAny_extend_loopS W hn _ hSf _ items.size 0 _ _ _ rfl (Nat.zero_le _) ⟨Nat.zero_le _, by rw [e0]; exact hit, hl⟩ hS (ItemsOf.nil _) fun s' acc' c' hm hS' hacc => hR s' acc' c' hm hS' hacc⟩
theorem init_rev {it l S : Addr} {items : Array Value} (hh : A.handled = none) (hit : s.heap.IsRevIter it l ((items.size : Int) - 1)) (hl : s.heap.IsList l items) (hne : l ≠ it) (hn : items.size ≤ sizeLine) (hSi : S ≠ it) (hSl : S ≠ l)
    (hS : s.heap.get? S = some { cls := .type "list", data := .seq #[] })
    (hR : ∀ h' tk acc' c', (∀ b o, b ≠ S → b ≠ it → s.heap.get? b = some o → h'.get? b = some o) → h'.get? S = some { cls := .type "list", dict := none, data := .seq acc' c', slots := #[] } → ItemsOf (fun i v => items[items.size - 1 - i]? = some v) acc' items.size → R (.ok (.ret .none)) { s with heap := h', toks := tk }) :
    wpAny (model prog w) A.in1 (Builtin.«list.__init__» ⟨[.ref S, .ref it], []⟩)
      (fun fin s' => match fin with | .done f => R (.ok f) s' | .again c' => c'.quiet = true ∧ codeAny (model prog w) A c' R s') (fun e s' => R (.error e) s') s := by
  show wpAny _ _ (do let old ← Builtin.List.listItems (.ref S); Builtin.List.listUpdate (.ref S) (fun _ => #[]); letGo old.toList.reverse; Builtin.List.listExtendWith (.ref S) (.ref it) .none) _ _ s
  refine wpAny_bind ?_
  unfold Builtin.List.listItems
  refine wpAny_bind (wpAny_seqItems hS rfl (wpAny_pure ?_))
  show wpAny _ _ (updateSeq S (fun _ => #[]) >>= fun _ => letGo (#[] : Array Value).toList.reverse >>= fun _ => Builtin.List.listExtendWith (.ref S) (.ref it) .none) _ _ s
  refine wpAny_bind (wpAny_updateSeq hS rfl ?_)
  have hS₂ := Heap.get?_update_self (Obj.mapSeq (fun _ => (#[] : Array Value))) hS rfl
  have oth : ∀ b o, b ≠ S → s.heap.get? b = some o → (s.heap.update S (Obj.mapSeq (fun _ => (#[] : Array Value)))).get? b = some o :=
    fun b o hb e => (Heap.get?_update_other _ _ (Ne.symm hb)).trans e
  refine wpAny_bind (wpAny_letGo ?_)
  refine extend_rev hh .none _ (hit.at fun o e => oth it o (Ne.symm hSi) e) (hl.at fun o e => oth l o (Ne.symm hSl) e) hne hn hSi hSl hS₂ fun s' acc' c' hm hS' hacc => ?_
  rw [Moved.eq_with hm]
  refine hR s'.heap s'.toks acc' c' (fun b o hb hi e => hm.heap b o (fun hmem => ?_) (oth b o hb e)) hS' hacc
  rcases List.mem_cons.mp hmem with e' | hmem
  · exact hb e'
  · exact hi (List.mem_singleton.mp hmem)
theorem call_list_rev {it l : Addr} {items : Array Value} {Q : Value → Shared → Prop} (hh : A.handled = none) (hit : s.heap.IsRevIter it l ((items.size : Int) - 1)) (hl : s.heap.IsList l items) (hne : l ≠ it) (hn : items.size ≤ sizeLine)
    (hQ : ∀ h' tk acc' c', (∀ b o, b ≠ it → s.heap.get? b = some o → h'.get? b = some o) → h'.get? s.heap.objs.size = some { cls := .type "list", dict := none, data := .seq acc' c', slots := #[] } → ItemsOf (fun i v => items[items.size - 1 - i]? = some v) acc' items.size → Q (.ref s.heap.objs.size) { s with heap := h', toks := tk }) :
    wpAny (model prog w) A (call (.type "list") [.ref it]) Q E s := by
  obtain ⟨oi, hoi, _⟩ := id hit
  obtain ⟨ol, hol, _⟩ := id hl
  have hSi : s.heap.objs.size ≠ it := Nat.ne_of_gt (Heap.lt_size hoi)
  have hSl : s.heap.objs.size ≠ l := Nat.ne_of_gt (Heap.lt_size hol)
  refine callType_codes (Q₁ := fun obj s₁ => obj = .ref s.heap.objs.size ∧ s₁ = { s with heap := s.heap.push { cls := .type "list", data := .seq #[] } }) F.called_list (F.typeCall_list_1 _) F.entry_list_init
    (code_list_new _ ⟨rfl, rfl⟩) fun obj s₁ h₁ => ?_
  obtain ⟨rfl, rfl⟩ := h₁
  have hS : (s.heap.push { cls := .type "list", data := .seq #[] }).get? s.heap.objs.size = some { cls := .type "list", data := .seq #[] } := Heap.get?_push_size _ rfl
  refine ⟨⟨_, hS, rfl⟩, F.args_list_init_2 _ _, init_rev (A := A.in1) hh (hit.at fun o e => Heap.get?_push_of_some _ e) (hl.push _) hne hn hSi hSl hS fun h' tk acc' c' hk hS' hacc => ?_⟩
  exact ⟨rfl, hQ h' tk acc' c' (fun b o hb e => hk b o (Nat.ne_of_lt (Heap.lt_size e)) hb (Heap.get?_push_of_some _ e)) hS' hacc⟩
end
end PLRev
namespace PL
open PySem PySem.Spec PyProof.Rows L2
/-- list(reversed(x)), x a list: a new list -/
def tLstRev (K : PySem.W.Frag) (te : TE) : TE := fun σ H Q => te σ H fun v H1 => ∃ (a : Addr) (xs : List V), v = .ref a ∧ SqL K H1 a xs ∧ ∀ q, H1 q = none → Q (.ref q) (upd H1 q (.lst xs.reverse))
theorem pe_listRev {X : Cx} {e : Expr} {te : TE} {p p2 pos pos2 : Pos} (hc : X.calm = true) (hg : Gl X "list") (hm : X.mg "list" = none) (hg2 : Gl X "reversed") (hm2 : X.mg "reversed" = none) (he : PE X e te)
    (hs : starEach [e] X.env = (false, eval e X.env) :: starEach [] X.env := by rfl)
    (hs2 : starEach [.Call (.Name "reversed" p2) [e] [] pos2] X.env = (false, eval (.Call (.Name "reversed" p2) [e] [] pos2) X.env) :: starEach [] X.env := by rfl) :
    PE X (.Call (.Name "list" p) [.Call (.Name "reversed" p2) [e] [] pos2] [] pos) (tLstRev X.K te) := by
  refine ⟨fun pins s σ H Q I h => ?_⟩
  refine Call_ (ld_blt I hg hm boot_list (PyProof.Rows.callWith_type1 (args_cons (Call_ (ld_blt I hg2 hm2 PyProof.Rows.boot_reversed (PyProof.Rows.callWith_type1 (args_cons (thn (he.run pins s σ H _ I h) fun u s1 ⟨v, H1, I1, r1, q1⟩ => args_nil ?_) hs) hs rfl))) hs2) hs2 rfl))
  obtain ⟨a, xs, ev, hq, q⟩ := q1
  subst ev
  obtain rfl : u = Value.ref a := r1
  obtain ⟨its, rv, p', hz⟩ := I1.list hq
  refine call_reversed_list p'.isList (args_nil ?_)
  have hl := p'.isList
  obtain ⟨ol, hol, _⟩ := id hl
  have hne : a ≠ s1.heap.objs.size := Nat.ne_of_lt (Heap.lt_size hol)
  have hn : its.toArray.size ≤ sizeLine := by rw [List.size_toArray, ← rv.length]; exact hz
  refine PLRev.call_list_rev (s := { s1 with heap := s1.heap.push (revObj a ((its.toArray.size : Int) - 1)) }) (I1.ok.hd hc) ⟨_, Heap.get?_push_size _ rfl, rfl, rfl⟩ (hl.push _) hne hn fun h' tk acc c' hk e' hi => ?_
  have le : s1.heap.objs.size ≤ (s1.heap.push (revObj a ((its.toArray.size : Int) - 1))).objs.size := by
    show _ ≤ (s1.heap.objs.push _).size
    rw [Array.size_push]; exact Nat.le_succ _
  refine ⟨.ref _, upd H1 _ (.lst xs.reverse), I1.laid (t' := tk) (fun b o e => hk b o (Nat.ne_of_lt (Heap.lt_size e)) (Heap.get?_push_of_some _ e)) le (show ObjOk X.prog X.w _ _ _ (.lst xs.reverse) from ⟨by rw [List.length_reverse]; exact hz, acc.toList, c', RT.vals_rev rv hi, ?_⟩), rfl, q _ (I1.hok.fresh le)⟩
  rw [Array.toArray_toList]; exact e'
def lrevD (d : Dv) (S : Sto) : Out Dv := match lstOf S d with
  | some ds => newL ds.reverse S
  | none => .no
theorem se_listRev {X : Cx} {W : WX} {e : Expr} {ra : RE} {p p2 pos pos2 : Pos} (hc : X.calm = true) (hg : Gl X "list") (hm : X.mg "list" = none) (hg2 : Gl X "reversed") (hm2 : X.mg "reversed" = none) (he : SE X W e ra)
    (hs : starEach [e] X.env = (false, eval e X.env) :: starEach [] X.env := by rfl)
    (hs2 : starEach [.Call (.Name "reversed" p2) [e] [] pos2] X.env = (false, eval (.Call (.Name "reversed" p2) [e] [] pos2) X.env) :: starEach [] X.env := by rfl) :
    SE X W (.Call (.Name "list" p) [.Call (.Name "reversed" p2) [e] [] pos2] [] pos) (eUn lrevD ra) :=
  PE.imp (pe_listRev hc hg hm hg2 hm2 he hs hs2) fun σ H Q ⟨μ, ρ, S, hS, hE, h⟩ => (bnd hS hE h).mono fun v H1 ⟨μ1, S1, d, hS1, hE1, s1, rv, h1⟩ => by
    unfold lrevD at h1
    split at h1
    · rename_i ds el
      obtain ⟨a, vs, rfl, q, r⟩ := rv.sqL hS1 el
      exact ⟨a, vs, rfl, q, fun q' n => h1.lst hS1 n r.rev⟩
    · exact h1.elim
theorem lrev_ref {S : Sto} {l : Nat} {ds : List Dv} (h : S[l]? = some (.lst ds)) : lrevD (.ref l) S = newL ds.reverse S := by simp only [lrevD, lst_ref h]
end PL
/-! ### equality of deep data -/
namespace PL
open PySem PySem.Spec PyProof.Rows L2
def wide (d : PyData) : Bool := d.canLay0 && decide (d.depth ≤ 225)
theorem canLay_of_wide {d : PyData} (h : wide d = true) : d.canLay0 = true := (Bool.and_eq_true_iff.mp h).1
theorem depth_of_wide {d : PyData} (h : wide d = true) : d.depth ≤ 225 := of_decide_eq_true (Bool.and_eq_true_iff.mp h).2
theorem room_of_wide {A : Around} {da db : PyData} (h : wide da = true) (hu : A.units + 230 < cLine) : A.units + min da.depth db.depth < cLine := by
  have h1 := depth_of_wide h
  have h2 : min da.depth db.depth ≤ da.depth := Nat.min_le_left _ _
  omega
def rEqW (K : PySem.W.Frag) : R2 := fun x y H Q => ∃ d e, Dp K H x d ∧ Dp K H y e ∧ wide d = true ∧ wide e = true ∧ Q (.bl (PyData.eqv d e)) H
def rNeW (K : PySem.W.Frag) : R2 := fun x y H Q => ∃ d e, Dp K H x d ∧ Dp K H y e ∧ wide d = true ∧ wide e = true ∧ Q (.bl (!PyData.eqv d e)) H
theorem op_eqW {X : Cx} (hu : X.A.units + 230 < cLine) : OpR X (compareOp .Eq) (rEqW X.K) := by
  intro pins s σ H x y v u Q I rx ry h
  obtain ⟨d, e, hd, he, sd, se, q⟩ := h
  obtain ⟨as, r1⟩ := Dp.reads I d x v hd rx
  obtain ⟨bs, r2⟩ := Dp.reads I e y u he ry
  exact SeqAt.compareEq_reads r1 r2 (canLay_of_wide sd) (canLay_of_wide se) (room_of_wide sd hu) ⟨.bl _, H, I, rfl, q⟩
theorem op_neW {X : Cx} (hu : X.A.units + 230 < cLine) : OpR X (compareOp .NotEq) (rNeW X.K) := by
  intro pins s σ H x y v u Q I rx ry h
  obtain ⟨d, e, hd, he, sd, se, q⟩ := h
  obtain ⟨as, r1⟩ := Dp.reads I d x v hd rx
  obtain ⟨bs, r2⟩ := Dp.reads I e y u he ry
  exact SeqAt.compareNe_reads r1 r2 (canLay_of_wide sd) (canLay_of_wide se) (room_of_wide sd hu) ⟨.bl _, H, I, rfl, q⟩
def eqqW (S : Sto) (x y : Dv) : Option Bool := match toP 240 S x, toP 240 S y with
  | some p, some q => if wide p = true ∧ wide q = true then some (PyData.eqv p q) else none
  | _, _ => none
def eqW (x y : Dv) (S : Sto) : Out Dv := match eqqW S x y with
  | some b => .ok (.bl b) S
  | none => .no
def neW (x y : Dv) (S : Sto) : Out Dv := match eqqW S x y with
  | some b => .ok (.bl (!b)) S
  | none => .no
section
variable {K : PySem.W.Frag}
theorem eqqW_some {S : Sto} {x y : Dv} {b : Bool} (h : eqqW S x y = some b) : ∃ p q, toP 240 S x = some p ∧ toP 240 S y = some q ∧ wide p = true ∧ wide q = true ∧ b = PyData.eqv p q := by
  unfold eqqW at h
  split at h
  · rename_i p q e1 e2
    split at h
    · rename_i hc
      exact ⟨p, q, e1, e2, hc.1, hc.2, (Option.some.inj h).symm⟩
    · cases h
  · cases h
theorem o_eqW : Op2 K eqW (rEqW K) := by
  intro mg Wx μ H S x y d e Q hS rx ry h
  unfold eqW at h
  split at h
  · rename_i b hb
    obtain ⟨p, q, e1, e2, s1, s2, rfl⟩ := eqqW_some hb
    exact ⟨p, q, dp_of hS 240 _ _ _ rx e1, dp_of hS 240 _ _ _ ry e2, s1, s2, h.ok hS (.bl _)⟩
  · exact h.elim
theorem o_neW : Op2 K neW (rNeW K) := by
  intro mg Wx μ H S x y d e Q hS rx ry h
  unfold neW at h
  split at h
  · rename_i b hb
    obtain ⟨p, q, e1, e2, s1, s2, rfl⟩ := eqqW_some hb
    exact ⟨p, q, dp_of hS 240 _ _ _ rx e1, dp_of hS 240 _ _ _ ry e2, s1, s2, h.ok hS (.bl _)⟩
  · exact h.elim
end
/-- data that are alike: both read as the same -/
theorem eqW_of {S : Sto} {x y : Dv} {p q : PyData} (h1 : toP 240 S x = some p) (h2 : toP 240 S y = some q) (w1 : wide p = true) (w2 : wide q = true) : eqW x y S = .ok (.bl (PyData.eqv p q)) S := by
  simp only [eqW, eqqW, h1, h2, w1, w2, and_self, ↓reduceIte]
theorem neW_of {S : Sto} {x y : Dv} {p q : PyData} (h1 : toP 240 S x = some p) (h2 : toP 240 S y = some q) (w1 : wide p = true) (w2 : wide q = true) : neW x y S = .ok (.bl (!PyData.eqv p q)) S := by
  simp only [neW, eqqW, h1, h2, w1, w2, and_self, ↓reduceIte]
theorem hu230 {A : Around} {k : Nat} (hr : Room k A) (hk : 10 ≤ k) : A.units + 230 < cLine := by have := hr.un; omega
end PL

namespace PL
open PySem PySem.Spec PyProof.Rows L2
/-! ### loops over dicts -/
def iFz (e : RE) : RI := fun ρ S => (e ρ S).bind fun d S1 => match d with
  | .ref l => match S1[l]? with
    | some (.fk kvs) => .ok (kvs.map fun kv => kD kv.1, .tt) S1
    | some (.ft kvs) => .ok (kvs.map fun kv => .tup (kv.1.map kD), .tt) S1
    | _ => .no
  | _ => .no
section
variable {K : PySem.W.Frag} {μ : List Addr} {H : Hp} {S : Sto} {a : Addr} {v : V} {d : Dv}
theorem SimS.notup (h : SimS K μ S H) {q : Addr} {xs : List V} (e : H q = some (.tup xs)) : q ∉ μ := fun m => by
  obtain ⟨l, hl, eq⟩ := List.getElem_of_mem m
  have hs : l < S.length := by rw [← h.len]; exact hl
  have ob := h.ob l q S[l] (by rw [List.getElem?_eq_getElem hl, eq]) (List.getElem?_eq_getElem hs)
  generalize S[l] = o at ob
  cases o with
  | lst ds => obtain ⟨vs, e1, _⟩ := ob; rw [e] at e1; cases e1
  | dk kvs => obtain ⟨vs, e1, _⟩ := ob; rw [e] at e1; cases e1
  | dt kvs => obtain ⟨vs, e1, _⟩ := ob; rw [e] at e1; cases e1
  | fk kvs => obtain ⟨vs, ⟨_, e1⟩, _⟩ := ob; rw [e] at e1; cases e1
  | ft kvs => obtain ⟨vs, ⟨_, e1⟩, _⟩ := ob; rw [e] at e1; cases e1
theorem rep_kVs : ∀ k : List L2.Key, Reps K μ H (k.map kV) (k.map kD)
  | [] => .nil
  | x :: k => (rep_kVs k).cons (rep_kV x)
theorem key_at {α β : Type} {κ : Type} {ws : List (κ × α)} {kvs : List (κ × β)} (h : ws.map (·.1) = kvs.map (·.1)) {i : Nat} {k : κ} {x : α} (e : ws[i]? = some (k, x)) : (kvs.map (·.1))[i]? = some k := by
  rw [← h, List.getElem?_map, e]; rfl
theorem itr_fk {o : Obj} {ws : List (L2.Key × V)} {kvs : List (L2.Key × Dv)} (e1 : H a = some (.frz o (.dK ws))) (e2 : ws.map (·.1) = kvs.map (·.1)) : ItR K μ H (Itk a o ws) (kvs.map fun kv => kD kv.1, .tt) := by
  intro μ' S' H' i st hS _
  have hl : ws.length = kvs.length := by have := congrArg List.length e2; simpa using this
  have e := st.frz _ _ _ e1
  refine ⟨fun hi => ⟨e, by simp at hi; omega⟩, fun d hd => ?_⟩
  have hi := (List.getElem?_eq_some_iff.mp hd).1
  simp at hi
  refine ⟨⟨e, by omega⟩, fun x H'' y => ?_⟩
  obtain ⟨rfl, k, v, hk, rfl⟩ := y
  refine ⟨.refl .., hS, ?_⟩
  have hk2 := key_at e2 hk
  have hd2 : (kvs.map fun kv => kD kv.1)[i]? = some d := hd
  rw [show (kvs.map fun kv => kD kv.1) = (kvs.map (·.1)).map kD by rw [List.map_map]; rfl, List.getElem?_map, hk2] at hd2
  injection hd2 with hd2
  subst hd2
  exact rep_kV k
theorem itr_ft {o : Obj} {ws : List (List L2.Key × V)} {kvs : List (List L2.Key × Dv)} (e1 : H a = some (.frz o (.dT ws))) (e2 : ws.map (·.1) = kvs.map (·.1)) : ItR K μ H (Itkt a o ws) (kvs.map fun kv => .tup (kv.1.map kD), .tt) := by
  intro μ' S' H' i st hS _
  have hl : ws.length = kvs.length := by have := congrArg List.length e2; simpa using this
  have e := st.frz _ _ _ e1
  refine ⟨fun hi => ⟨e, by simp at hi; omega⟩, fun d hd => ?_⟩
  have hi := (List.getElem?_eq_some_iff.mp hd).1
  simp at hi
  refine ⟨⟨e, by omega⟩, fun x H'' y => ?_⟩
  obtain ⟨rfl, k, v, q, hk, rfl, hq⟩ := y
  refine ⟨.refl .., hS, ?_⟩
  have hk2 := key_at e2 hk
  have hd2 : (kvs.map fun kv => Dv.tup (kv.1.map kD))[i]? = some d := hd
  rw [show (kvs.map fun kv => Dv.tup (kv.1.map kD)) = (kvs.map (·.1)).map (fun k => .tup (k.map kD)) by rw [List.map_map]; rfl, List.getElem?_map, hk2] at hd2
  injection hd2 with hd2
  subst hd2
  have r := rep_kVs (K := K) (μ := μ') (H := H'') k
  exact .tup ⟨hq, hS.notup hq⟩ r.1 r.2
theorem rep_upd {u : HO} (m : a ∈ μ) (r : Rep K μ H v d) : Rep K μ (upd H a u) v d := by
  induction r with
  | non => exact .non
  | bl b => exact .bl b
  | int i => exact .int i
  | str x => exact .str x
  | ref h => exact .ref h
  | kt h e _ ih => exact .kt h e fun i v d h1 h2 => ih i v d h1 h2
  | tup h e _ ih => exact .tup ⟨by rw [upd_ne (fun z => h.2 (by rw [z]; exact m))]; exact h.1, h.2⟩ e fun i v d h1 h2 => ih i v d h1 h2
  | fl h e _ ih =>
    refine .fl ?_ e fun i v d h1 h2 => ih i v d h1 h2
    rcases h with ⟨⟨o, h⟩, n⟩ | h
    · exact .inl ⟨⟨o, by rw [upd_ne (fun z => n (by rw [z]; exact m))]; exact h⟩, n⟩
    · exact .inr h
theorem reps_upd {u : HO} {vs : List V} {ds : List Dv} (m : a ∈ μ) (r : Reps K μ H vs ds) : Reps K μ (upd H a u) vs ds := ⟨r.1, fun i v d h1 h2 => rep_upd m (r.2 i v d h1 h2)⟩
theorem obr_upd {u : HO} {b : Addr} {o : Ob} (m : a ∈ μ) (n : b ≠ a) (q : ObR K μ H b o) : ObR K μ (upd H a u) b o := by
  cases o with
  | lst ds => obtain ⟨vs, g, r⟩ := q; exact ⟨vs, by rw [upd_ne n]; exact g, reps_upd m r⟩
  | dk kvs => obtain ⟨vs, g, g2, r⟩ := q; exact ⟨vs, by rw [upd_ne n]; exact g, g2, reps_upd m r⟩
  | dt kvs => obtain ⟨vs, g, g2, r⟩ := q; exact ⟨vs, by rw [upd_ne n]; exact g, g2, reps_upd m r⟩
  | fk kvs => obtain ⟨vs, g, g2, r⟩ := q; exact ⟨vs, by rw [upd_ne n]; exact g, g2, reps_upd m r⟩
  | ft kvs => obtain ⟨vs, g, g2, r⟩ := q; exact ⟨vs, by rw [upd_ne n]; exact g, g2, reps_upd m r⟩
theorem sim_upd {l : Nat} {o : Ob} {u : HO} (h : SimS K μ S H) (e : μ[l]? = some a) (r : ObR K μ (upd H a u) a o) : SimS K μ (S.set l o) (upd H a u) := by
  have m := List.mem_of_getElem? e
  refine ⟨by rw [List.length_set]; exact h.len, h.nd, fun k b o' e1 e2 => ?_⟩
  by_cases hk : l = k
  · subst hk
    rw [e] at e1; cases e1
    have hl : l < S.length := by rw [← h.len]; exact (List.getElem?_eq_some_iff.mp e).1
    rw [List.getElem?_set_self hl] at e2
    cases e2; exact r
  · rw [List.getElem?_set_ne hk] at e2
    have hne : b ≠ a := fun z => by
      subst z
      have h1 := List.getElem?_eq_some_iff.mp e
      have h2 := List.getElem?_eq_some_iff.mp e1
      exact hk ((List.getElem_inj h.nd).mp (h1.2.trans h2.2.symm))
    exact obr_upd m hne (h.ob k b o' e1 e2)
theorem step_unlock {μ' : List Addr} {H' : Hp} {u : HO} {od : Obj} (m : a ∈ μ) (e : H a = some u) (nf : ∀ o w, u ≠ .frz o w) (s : Step μ (upd H a (.frz od u)) μ' H') : Step μ H μ' (upd H' a u) := by
  refine ⟨?_, fun b o h n => ?_, fun b h => ?_, fun b o w h => ?_⟩
  · obtain ⟨ν, e1, f⟩ := s.pre
    refine ⟨ν, e1, fun b hb => ?_⟩
    have := f b hb
    by_cases q : b = a
    · rw [q, upd_same] at this; cases this
    · rw [upd_ne q] at this; exact this
  · have q : b ≠ a := fun z => n (by rw [z]; exact m)
    rw [upd_ne q]
    exact s.keep b o (by rw [upd_ne q]; exact h) n
  · by_cases q : b = a
    · rw [q, upd_same]; exact fun z => nomatch z
    · rw [upd_ne q]
      exact s.live b (by rw [upd_ne q]; exact h)
  · have q : b ≠ a := fun z => by
      rw [z, e] at h
      injection h with h
      exact nf o w h
    rw [upd_ne q]
    exact s.frz b o w (by rw [upd_ne q]; exact h)
end
section
variable {X : Cx} {W : WX} {tg iter : Expr} {body : List Stmt} {t : Tg} {b : RC} {re : RE} {pos : Pos}
theorem si_fz (he : SE X W iter re) : SI X W tg iter (iFz re) :=
  PI.imp (pi_keys he) fun σ H R ⟨μ, ρ, S, hS, hE, h⟩ => by
    refine ⟨μ, ρ, S, hS, hE, ?_⟩
    unfold iFz at h
    cases q : re ρ S with
    | no => rw [q] at h; exact h.elim
    | ex x S1 => rw [q] at h; exact h
    | ok d S1 =>
      rw [q] at h
      simp only [Out.bind_ok] at h
      intro μ1 H1 v a b r
      cases r with
      | @ref l ad hl =>
        dsimp only at h
        split at h
        · rename_i w S2 eq
          split at eq
          · rename_i kvs es
            injection eq with e1 e2
            subst e1 e2
            obtain ⟨ws, ⟨o, e1⟩, e2, e3⟩ := a.at' es hl
            exact ⟨ad, o, rfl, .inl ⟨ws, e1, h μ1 H1 _ a b (itr_fk e1 e2)⟩⟩
          · rename_i kvs es
            injection eq with e1 e2
            subst e1 e2
            obtain ⟨ws, ⟨o, e1⟩, e2, e3⟩ := a.at' es hl
            exact ⟨ad, o, rfl, .inr ⟨ws, e1, h μ1 H1 _ a b (itr_ft e1 e2)⟩⟩
          · cases eq
        · rename_i x S2 eq
          split at eq <;> cases eq
        · exact h.elim
      | _ => exact h.elim
def unlk (l : Nat) (o : Ob) : OutS → OutS
  | .fl (.nx ρ) S => .fl (.nx ρ) (S.set l o)
  | .fl (.rt d) S => .fl (.rt d) (S.set l o)
  | _ => .no
noncomputable def cForD (i : Nat) (t : Tg) (b : RC) : RC := fun ρ S => match ρ[i]? with
  | some (some (.ref l)) => match S[l]? with
    | some (.dk kvs) => unlk l (.dk kvs) (cFor (iFz (eVar i)) t b ρ (S.set l (.fk kvs)))
    | some (.dt kvs) => unlk l (.dt kvs) (cFor (iFz (eVar i)) t b ρ (S.set l (.ft kvs)))
    | _ => .no
  | _ => .no
theorem unlk_met {K : PySem.W.Frag} {mg : Str → Option Value} {W : WX} {μ : List Addr} {H : Hp} {l : Nat} {a : Addr} {o : Ob} {u : HO} {od : Obj} {out : OutS} {D : Ends} (m : μ[l]? = some a) (e : H a = some u) (nf : ∀ o w, u ≠ .frz o w)
    (hr : ∀ μ' H', Step μ H μ' (upd H' a u) → μ'[l]? = some a → ObR K μ' (upd H' a u) a o) (h : MetS K mg W μ H (unlk l o out) D) :
    MetS K mg W μ (upd H a (.frz od u)) out ⟨fun σ' H' => H' a = some (.frz od u) ∧ D.nx σ' (upd H' a u), fun v H' => H' a = some (.frz od u) ∧ D.rt v (upd H' a u), fun σ' H' => H' a = some (.frz od u) ∧ D.bk σ' (upd H' a u), fun σ' H' => H' a = some (.frz od u) ∧ D.ct σ' (upd H' a u)⟩ := by
  have mm := List.mem_of_getElem? m
  cases out with
  | fl f S' =>
    cases f with
    | nx ρ' =>
      intro μ' σ' H' hS hE s
      have e' := s.frz a _ _ upd_same
      have m' := s.get m
      have s2 := step_unlock mm e nf s
      refine ⟨e', h μ' σ' (upd H' a u) (sim_upd hS m' (hr μ' H' s2 m')) ⟨hE.1, fun i d q => ?_⟩ s2⟩
      obtain ⟨v, q1, q2⟩ := hE.2 i d q
      exact ⟨v, q1, rep_upd (List.mem_of_getElem? m') q2⟩
    | rt d =>
      intro μ' v H' hS s r
      have e' := s.frz a _ _ upd_same
      have m' := s.get m
      have s2 := step_unlock mm e nf s
      exact ⟨e', h μ' v (upd H' a u) (sim_upd hS m' (hr μ' H' s2 m')) s2 (rep_upd (List.mem_of_getElem? m') r)⟩
    | bk ρ' => exact h.elim
    | ct ρ' => exact h.elim
  | ex x ρ' S' => exact h.elim
  | no => exact h.elim
theorem sc_forD {i : Nat} (hp : PassesOwn (model X.prog X.w) X.A X.env X.xe) (hc : X.calm = true) (hx : SE X W iter (eVar i)) (hg : SG X tg t) (hb : SCs X W body b) (hs : ∀ x, foldedSetIterable iter X.env x = pure x := by intro _; rfl) : SC X W (.For tg iter body [] pos) (cForD i t b) :=
  PS.imp (ps_lock (sc_for hp hc (si_fz hx) hg hb hs)) fun D σ H ⟨μ, ρ, S, hS, hE, h⟩ => by
    unfold cForD at h
    split at h
    · rename_i l el
      obtain ⟨v, ev, rv⟩ := hE.2 i _ el
      cases rv with
      | @ref l a hl =>
        have ml := List.mem_of_getElem? hl
        have env : ∀ od u, SimE X.K μ (upd H a (.frz od u)) ρ σ := fun od u => ⟨hE.1, fun i d q => by
          obtain ⟨v, q1, q2⟩ := hE.2 i d q
          exact ⟨v, q1, rep_upd ml q2⟩⟩
        split at h
        · rename_i kvs es
          obtain ⟨ws, e1, e2, e3⟩ := hS.at' es hl
          refine ⟨a, .dK ws, e1, trivial, fun od => ⟨μ, ρ, S.set l (.fk kvs), sim_upd hS hl ⟨ws, ⟨od, upd_same⟩, e2, reps_upd ml e3⟩, env od _, ?_⟩⟩
          exact unlk_met (o := .dk kvs) hl e1 (fun _ _ z => by cases z) (fun μ' H' s m' => ⟨ws, upd_same, e2, e3.step s⟩) h
        · rename_i kvs es
          obtain ⟨ws, e1, e2, e3⟩ := hS.at' es hl
          refine ⟨a, .dT ws, e1, trivial, fun od => ⟨μ, ρ, S.set l (.ft kvs), sim_upd hS hl ⟨ws, ⟨od, upd_same⟩, e2, reps_upd ml e3⟩, env od _, ?_⟩⟩
          exact unlk_met (o := .dt kvs) hl e1 (fun _ _ z => by cases z) (fun μ' H' s m' => ⟨ws, upd_same, e2, e3.step s⟩) h
        · exact h.elim
    · exact h.elim
end
end PL

/-! ### sorted(d), d a dict whose keys are tuples of numbers, none of them empty -/
namespace PL
open PySem PySem.Spec PyProof.Rows L2
def kP : L2.Key → PyData
  | .inl i => .int i
  | .inr x => .str x
def kInt : L2.Key → Bool
  | .inl _ => true
  | .inr _ => false
noncomputable def keyLe (a b : List L2.Key) : Bool := PySem.W.dataLe false (fun k : List L2.Key => PyData.tuple (k.map kP)) a b
theorem alikeAll_k : ∀ (a b : List L2.Key), a.all kInt = true → b.all kInt = true → PySem.W.alikeAll (a.map kP) (b.map kP) = true
  | [], _, _, _ => by simp [PySem.W.alikeAll]
  | _ :: _, [], _, _ => by simp [PySem.W.alikeAll]
  | x :: a, y :: b, ha, hb => by
    rw [List.all_cons, Bool.and_eq_true] at ha hb
    cases x with
    | inr x => exact absurd ha.1 (by simp [kInt])
    | inl i => cases y with
      | inr y => exact absurd hb.1 (by simp [kInt])
      | inl j =>
        show PySem.W.alikeAll (.int i :: a.map kP) (.int j :: b.map kP) = true
        rw [PySem.W.alikeAll, alikeAll_k a b ha.2 hb.2]
        simp [PySem.W.alike]
theorem depth_k : ∀ (a : List L2.Key), PyData.depthAll (a.map kP) = 0
  | [] => by simp [PyData.depthAll]
  | .inl i :: a => by
    show PyData.depthAll (.int i :: a.map kP) = 0
    rw [PyData.depthAll, depth_k a]; simp [PyData.depth]
  | .inr i :: a => by
    show PyData.depthAll (.str i :: a.map kP) = 0
    rw [PyData.depthAll, depth_k a]; simp [PyData.depth]
theorem readsAll_k {h : Heap} : ∀ {k : List L2.Key} {its : List Value}, Vals (k.map kV) its → ReadsAll h its (k.map kP) []
  | [], _, r => by cases r; exact .nil
  | .inl i :: k, _, r => by
    cases r with
    | cons r1 r2 =>
      obtain ⟨t, rfl⟩ := r1
      exact .cons (as := []) (bs := []) (.int i t) (readsAll_k r2)
  | .inr x :: k, _, r => by
    cases r with
    | cons r1 r2 =>
      obtain ⟨t, rfl⟩ := r1
      exact .cons (as := []) (bs := []) (.str x t) (readsAll_k r2)
abbrev TupsAt (H : Hp) : List (List L2.Key) → List Addr → Prop := Paired fun k b => H b = some (.tup (k.map kV))
def rSortT : List V → Hp → VK → Prop := fun xs H Q => ∃ (a : Addr) (kvs : List (List L2.Key × V)), xs = [V.ref a] ∧ H a = some (.dT kvs) ∧ (∀ kv ∈ kvs, kv.1 ≠ [] ∧ kv.1.all kInt = true) ∧
  ∀ q bs, H q = none → TupsAt H ((kvs.map (·.1)).mergeSort keyLe) bs → Q (.ref q) (upd H q (.lst (bs.map V.ref)))
theorem each_paired {α β : Type} {R : α → β → Prop} : ∀ {as : List α} {bs : List β}, PySem.W.EachIs R as bs → Paired (fun b a => R a b) bs as
  | _, _, .nil => .nil
  | _, _, .cons h t => .cons h (each_paired t)
theorem paired_refs {H : Hp} : ∀ {ks : List (List L2.Key)} {vs : List Value}, Paired (fun k v => ∃ b, v = Value.ref b ∧ H b = some (.tup (k.map kV))) ks vs → ∃ bs, vs = bs.map Value.ref ∧ TupsAt H ks bs
  | _, _, .nil => ⟨[], rfl, .nil⟩
  | _, _, .cons ⟨b, e, h⟩ t => by
    obtain ⟨bs, e2, h2⟩ := paired_refs t
    exact ⟨b :: bs, by rw [e, e2]; rfl, .cons h h2⟩
theorem vals_ref : ∀ bs : List Addr, Vals (bs.map V.ref) (bs.map Value.ref)
  | [] => .nil
  | _ :: r => .cons rfl (vals_ref r)
theorem kt_each {H : Hp} : ∀ {kvs : List (List L2.Key × V)} {ks : List (List L2.Key × Addr × Value)}, KT H kvs ks → PySem.W.EachIs (fun v k => ∃ b, v = Value.ref b ∧ H b = some (.tup (k.map kV))) (ks.map fun x => Value.ref x.2.1) (kvs.map (·.1))
  | _, _, .nil => .nil
  | _, _, .cons h t => .cons ⟨_, rfl, h.2.1⟩ (kt_each t)
/-- the items of a dict, gathered: the heap has grown -/
theorem gather_grow {prog : Program} {w : World} {A : Around} {E : Value → Shared → Prop} {s : Shared} {T : String} {r d : Addr} {n : Nat} {P : Nat → Value → Prop} {OK : Heap → Prop} {R : List Value → Shared → Prop} (K : PySem.W.KdlSrc prog w T r d n P OK) (hh : A.handled = none) (hok : OK s.heap) (hn : n ≤ sizeLine)
    (h : ∀ (h' : Heap) (tk : Nat) (acc : Array Value), (∀ b o, s.heap.get? b = some o → h'.get? b = some o) → s.heap.objs.size < h'.objs.size → ItemsOf P acc n → R acc.toList { s with heap := h', toks := tk }) : wpAny (model prog w) A (collect (.ref r)) R E s := by
  have hlt := K.there _ hok
  have hP : (s.heap.push (seqObj "list" #[] 0)).get? s.heap.objs.size = some (seqObj "list" #[] 0) := Heap.get?_push_size _ rfl
  have fin : ∀ (h' : Heap) (tk : Nat) (acc : Array Value) (c : Nat), (∀ b o, b ≠ s.heap.objs.size → (s.heap.push (seqObj "list" #[] 0)).get? b = some o → h'.get? b = some o) → h'.get? s.heap.objs.size = some { cls := .type "list", dict := none, data := .seq acc c, slots := #[] } → ItemsOf P acc n → R acc.toList { s with heap := h', toks := tk } :=
    fun h' tk acc c k e it => h h' tk acc (fun b o q => k b o (Nat.ne_of_lt (Heap.lt_size q)) (Heap.get?_push_of_some _ q)) (Heap.lt_size e) it
  unfold collect
  refine wpAny_bind (wpAny_runValue (codeAny_builtin entry_proto_collect' (by
    rw [Around.under_plainId PySem.F.plain_proto_collect _]
    exact wpAny_bind (m := newList []) (wpAny_newObj_type (wpAny_pure ⟨plainId_quiet PySem.F.plain_list_iadd _, codeAny_builtin entry_list_iadd' (by
      rw [Around.under_plainId PySem.F.plain_list_iadd _]
      refine wpAny_mono (PySem.W.kdl_extend (A := A) (s := { s with heap := s.heap.push (seqObj "list" #[] 0) })
        (R := fun q s' => ∃ (h' : Heap) (tk : Nat) (acc : Array Value) (c : Nat), q = .ok (.ret (.ref s.heap.objs.size)) ∧ s' = { s with heap := h', toks := tk } ∧ h'.get? s.heap.objs.size = some { cls := .type "list", dict := none, data := .seq acc c, slots := #[] } ∧ R acc.toList s')
        K hh (K.keep _ _ hok fun b _ o e => Heap.get?_push_of_some _ e) s.heap.objs.size (Nat.ne_of_gt hlt.1) (Nat.ne_of_gt hlt.2) (.ref s.heap.objs.size) 0 hP
        (fun h' tk acc c k e it => ⟨h', tk, acc, c, rfl, rfl, e, fin h' tk acc c k e it⟩) hn) (fun f s' x => ?_) fun e s' x => ?_
      · cases f with
        | done f =>
          obtain ⟨h', tk, acc, c, e, rfl, e2, q⟩ := x
          cases e
          exact wpAny_bind (m := load s.heap.objs.size) (wpAny_load e2 (wpAny_pure q))
        | again c₁ =>
          refine ⟨x.1, codeAny_mono x.2 fun q s₂ y => ?_⟩
          obtain ⟨h', tk, acc, c, rfl, rfl, e2, q⟩ := y
          exact wpAny_bind (m := load s.heap.objs.size) (wpAny_load e2 (wpAny_pure q))
      · obtain ⟨_, _, _, _, z, _⟩ := x
        cases z)⟩)))))
theorem call_sortT {X : Cx} (hc : X.calm = true) (hu : X.A.units + 4 < cLine) : CallR X (.builtin "sorted") rSortT := by
  intro pins s σ H xs us Q I r h
  obtain ⟨d, kvs, rfl, hd, hk, q⟩ := h
  obtain ⟨u, rfl, rx⟩ := r.one
  cases rx
  obtain ⟨z, hs, ks, pr, o, es, ep, ho, hx, hdt, he, hn⟩ := (show ObjOk X.prog X.w H s.heap d (.dT kvs) from I.hok d _ hd)
  have l1 : es.size = ks.length := size_of_entries he
  have l2 : kvs.length = ks.length := Paired.length pr
  refine PySem.Calls.call_function_entry kind_sorted plain_sorted entry_sorted (args_sorted1 _) ?_
  unfold Builtin.«sorted»
  refine wpAny_bind (m := checkCount "sorted" 1 1 _) (wpAny_pure ?_)
  refine wpAny_bind (gather_grow (A := X.A.in1) (kdl_raw hs hx hdt) (I.ok.hd hc) ho (by omega) fun h' tk acc kp grow it => ?_)
  have ea : acc.toList = ks.map fun x => Value.ref x.2.1 := by
    have hl : acc.toList.length = ks.length := by rw [Array.length_toList, it.1]; exact l1
    apply List.ext_getElem?
    intro j
    rw [List.getElem?_map]
    cases hj : acc.toList[j]? with
    | none =>
      have h1 := List.getElem?_eq_none_iff.mp hj
      rw [List.getElem?_eq_none (by omega)]
      all_goals rfl
    | some v =>
      obtain ⟨en, hen, hv⟩ := it.2 j v (by rw [← Array.getElem?_toList]; exact hj)
      have qe := entry_at he j
      rw [hen] at qe
      cases hb : ks[j]? with
      | none =>
        rw [hb] at qe
        exact nomatch (show some en = none from qe)
      | some b =>
        rw [hb] at qe
        have e2 : en = entryOfKey (tupleKind (mixKind X.prog X.w)) b := Option.some.inj qe
        rw [hv, e2]
        all_goals rfl
  have e0 := kt_each pr
  rw [← ea] at e0
  have hz : (kvs.map (·.1)).length ≤ sizeLine := by rw [List.length_map]; exact z
  refine wpAny_bind (wpAny_newList ?_ (by rw [ea, List.length_map]; omega))
  have hD : (h'.push (seqObj "list" acc.toList.toArray 0)).get? h'.objs.size = some (seqObj "list" acc.toList.toArray 0) := Heap.get?_push_size _ rfl
  have kb : ∀ b o, s.heap.get? b = some o → (h'.push (seqObj "list" acc.toList.toArray 0)).get? b = some o := fun b o e => Heap.get?_push_of_some _ (kp b o e)
  have nb : ∀ b o, s.heap.get? b = some o → b ≠ h'.objs.size := fun b o e => Nat.ne_of_lt (Heap.lt_size (kp b o e))
  refine wpAny_bind (wpAny_holding ?_)
  refine PySem.W.list_sort_data (s := { s with heap := h'.push (seqObj "list" acc.toList.toArray 0), toks := tk }) (enc := fun k : List L2.Key => PyData.tuple (k.map kP)) hD e0 ?_ ?_ ?_ hz ?_ ?_
  · refine e0.mono fun v k hv => ?_
    obtain ⟨b, rfl, hb⟩ := hv
    obtain ⟨_, its, rv, ot, hot, hct, nt, hdt⟩ := (show ObjOk X.prog X.w H s.heap b (.tup (k.map kV)) from I.hok b _ hb)
    exact ⟨[], .tuple (kb _ _ hot) hct hdt (readsAll_k rv), by simp⟩
  · intro x hx' y hy'
    obtain ⟨k, hk1, rfl⟩ := List.mem_map.mp hx'
    obtain ⟨k', hk2, rfl⟩ := List.mem_map.mp hy'
    obtain ⟨kv, hkv, rfl⟩ := List.mem_map.mp hk1
    obtain ⟨kv', hkv', rfl⟩ := List.mem_map.mp hk2
    show PySem.W.alike (.tuple _) (.tuple _) = true
    rw [PySem.W.alike]
    exact alikeAll_k _ _ (hk _ hkv).2 (hk _ hkv').2
  · refine .inl fun x hx' => ?_
    obtain ⟨k, hk1, rfl⟩ := List.mem_map.mp hx'
    obtain ⟨kv, hkv, rfl⟩ := List.mem_map.mp hk1
    obtain ⟨n0, _⟩ := hk _ hkv
    cases e : kv.1 with
    | nil => exact absurd e n0
    | cons x r => exact ⟨kP x, r.map kP, rfl⟩
  · intro k _
    have : (PyData.tuple (k.map kP)).depth = 1 := by rw [PyData.depth, depth_k]
    show X.A.units + 1 + 1 + (PyData.tuple (k.map kP)).depth < cLine
    omega
  · intro out hlen eo
    refine wpAny_pure ⟨_, rfl, ?_⟩
    obtain ⟨bs, hbs, ht⟩ := paired_refs (each_paired eo)
    refine ⟨.ref h'.objs.size, upd H h'.objs.size (.lst (bs.map V.ref)), I.laid (t' := tk) (fun b o e => ?_) ?_ ?_, rfl, q _ bs (I.hok.fresh ?_) ht⟩
    · rw [sortedHeap_old (nb b o e) (Heap.lt_size (kb b o e))]
      exact kb b o e
    · exact Nat.le_of_lt grow
    · obtain ⟨e, he'⟩ := sortedHeap_at (out := out.toArray) hD
      refine ⟨by rw [List.length_map]; have := Paired.length ht; rw [List.length_mergeSort] at this; omega, out, e, by rw [hbs]; exact vals_ref bs, he'⟩
    · exact Nat.le_of_lt grow
noncomputable def sortTD (ds : List Dv) (S : Sto) : Out Dv := match ds with
  | [.ref l] => match S[l]? with
    | some (.dt kvs) => if (kvs.all fun kv => !kv.1.isEmpty && kv.1.all kInt) = true then newL (((kvs.map (·.1)).mergeSort keyLe).map fun k => .tup (k.map kD)) S else .no
    | _ => .no
  | _ => .no
theorem reps_tups {K : PySem.W.Frag} {μ : List Addr} {H : Hp} {S : Sto} (hS : SimS K μ S H) : ∀ {ks : List (List L2.Key)} {bs : List Addr}, TupsAt H ks bs → Reps K μ H (bs.map V.ref) (ks.map fun k => .tup (k.map kD))
  | _, _, .nil => .nil
  | _, _, .cons (a := k) h t => by
    have r := rep_kVs (K := K) (μ := μ) (H := H) k
    exact (reps_tups hS t).cons (.tup ⟨h, hS.notup h⟩ r.1 r.2)
theorem o_sortT {K : PySem.W.Frag} : OpL K sortTD rSortT := by
  intro mg Wx μ H S vs ds Q hS r h
  unfold sortTD at h
  split at h
  · rename_i l
    obtain ⟨v, rfl, rv⟩ := r.get1
    cases rv with
    | @ref l a hl =>
      split at h
      · rename_i kvs e
        split at h
        · rename_i hk
          obtain ⟨ws, e1, e2, e3⟩ := hS.at' e hl
          refine ⟨a, ws, rfl, e1, fun kv hkv => ?_, fun q bs n ht => ?_⟩
          · have h1 : kv.1 ∈ kvs.map (·.1) := by rw [← e2]; exact List.mem_map.mpr ⟨kv, hkv, rfl⟩
            obtain ⟨kv', hkv', ee⟩ := List.mem_map.mp h1
            have h2 := List.all_eq_true.mp hk kv' hkv'
            rw [ee, Bool.and_eq_true] at h2
            refine ⟨fun z => ?_, h2.2⟩
            rw [z] at h2
            exact absurd h2.1 (by simp)
          · rw [e2] at ht
            exact h.lst hS n (reps_tups hS ht)
        · exact h.elim
      · exact h.elim
  · exact h.elim
theorem hu4 {A : Around} {k : Nat} (hr : Room k A) : A.units + 4 < cLine := by have := hr.un; omega
theorem sortT_ref {S : Sto} {l : Nat} {kvs : List (List L2.Key × Dv)} (h : S[l]? = some (.dt kvs)) (hk : (kvs.all fun kv => !kv.1.isEmpty && kv.1.all kInt) = true) : sortTD [.ref l] S = newL (((kvs.map (·.1)).mergeSort keyLe).map fun k => .tup (k.map kD)) S := by
  simp only [sortTD, h, hk, if_true]
/-! ### {key: value}, the key a tuple -/
def tDisp1 (tk tv : TE) : TE := fun σ H Q => ∀ p, H p = none → tPairs [(tk, tv)] σ (upd H p (.dT [])) fun ps H2 => ∃ x y, ps = [(x, y)] ∧ H2 p = some (.dT []) ∧ ∃ (k : List L2.Key) (b : Addr), x = .ref b ∧ H2 b = some (.tup (k.map kV)) ∧ Q (.ref p) (upd H2 p (.dT [(k, y)]))
theorem pe_disp1 {X : Cx} {pos : Pos} {k v : Expr} {tk tv : TE} (hu : X.A.units + 1 < cLine) (h : PPs X pos [some k] [v] [(tk, tv)]) : PE X (.Dict [some k] [v] pos) (tDisp1 tk tv) := by
  refine ⟨fun pins s σ H Q I q => ?_⟩
  have hn := I.hok.fresh (Nat.le_refl s.heap.objs.size)
  have I1 := I.laid (a := s.heap.objs.size) (o := .dT []) (h' := s.heap.push { cls := .type "dict", data := .dict #[] }) (t' := s.toks) (fun _ _ q => Heap.get?_push_of_some _ q) (Nat.le_refl _) (dt_empty s.heap I.big)
  refine wpAny_Dict_any rfl rfl (List.cons_ne_nil _ _) (Nat.le_of_ble_eq_true rfl) (thn (h.run pins _ σ _ _ I1 (q _ hn)) fun ws s2 ⟨ps, H2, I2, rel, x, y, ep, e, κ, b, ex, eb, q2⟩ => ?_)
  subst ep ex
  cases rel with
  | @cons p w ps ws h t =>
    cases t
    obtain ⟨w1, w2⟩ := w
    obtain rfl : w1 = Value.ref b := h.1
    unfold storeAll
    rw [List.forIn_cons]
    obtain ⟨z, hd, xs, rel, dd⟩ := dt_of I2.hok e
    cases rel
    refine wpAny_bind (wpAny_bind (wpAny_dictSet_heap (hsz := Nat.zero_le _) (show X.A.units < cLine from Nat.lt_of_succ_lt hu) (key_of I2.hok eb) dd fun h' dd' hs => wpAny_pure ?_))
    show wpAny _ _ (forIn [] PUnit.unit _) _ _ _
    rw [List.forIn_nil]
    obtain ⟨q, es, ep, hq, h2, h3, h4, _, h5⟩ := dd'
    refine wpAny_pure ⟨.ref s.heap.objs.size, upd H2 s.heap.objs.size (.dT [(κ, y)]), d_write I2 (by rw [e]; exact True.intro) hs ⟨q, hq⟩ ⟨by rw [sizeLine_eq]; exact Nat.le_of_ble_eq_true rfl, hd, _, ((KT.put (kvs := []) (xs := []) .nil κ eb h.2).keeps fun c ys ec => ?_), q, es, ep, hq, h2, h3, h4, h5⟩, rfl, q2⟩
    rw [upd_ne (ne_of ec e (fun z => nomatch z))]
    exact ec
def eDisp1 (r : RE × RE) : RE := fun ρ S => (evPairs [r] ρ (S ++ [.dt []])).bind fun qs S2 => match qs with
  | [(x, y)] => match S2[S.length]?, tkeyOf x with
    | some (.dt []), some k => .ok (.ref S.length) (S2.set S.length (.dt [(k, y)]))
    | _, _ => .no
  | _ => .no
theorem se_disp1 {X : Cx} {W : WX} {k v : Expr} {pos : Pos} {r : RE × RE} (hu : X.A.units + 1 < cLine) (h : SPs X W pos [some k] [v] [r]) : SE X W (.Dict [some k] [v] pos) (eDisp1 r) :=
  PE.imp (pe_disp1 hu h.pp) fun σ H Q ⟨μ, ρ, S, hS, hE, hm⟩ p hp => by
    have st0 := step_new hS hp (.dT [])
    have hS0 : SimS X.K (μ ++ [p]) (S ++ [.dt []]) (upd H p (.dT [])) := hS.new hp ⟨[], upd_same, rfl, .nil⟩
    have hm0 := Met.step st0 hm
    refine tp_met [r] ((bnd (R1 := RPairs X.K) hS0 (hE.step st0) hm0).mono fun ps H2 ⟨μ2, S2, qs, hS2, hE2, s2, rp, h2⟩ => ?_)
    have hp2 : μ2[S.length]? = some p := s2.get (new_at hS p)
    split at h2
    · rename_i x y
      split at h2
      · rename_i κ eS ek
        obtain ⟨ws, w1, w2, _⟩ := hS2.at' eS hp2
        rw [List.map_nil, List.map_eq_nil_iff] at w2
        subst w2
        obtain ⟨v1, e1, r1⟩ := rp.1.get1
        obtain ⟨v2, e2, r2⟩ := rp.2.get1
        cases ps with
        | nil => cases e1
        | cons pp ps =>
          cases ps with
          | cons _ _ => cases e1
          | nil =>
            cases e1; cases e2
            obtain ⟨b, eb1, eb⟩ := tkeyOf_rep r1 ek
            refine ⟨pp.1, pp.2, rfl, w1, κ, b, eb1, eb, ?_⟩
            exact h2.put (RP := Rep X.K) hS2 hp2 (u := .dT [(κ, pp.2)]) ⟨_, upd_same, rfl, (Reps.one r2).step (step_put hS2 hp2 _)⟩ (.ref hp2)
      · exact h2.elim
    · exact h2.elim
end PL
namespace PL
open PySem PySem.Spec PyProof.Rows L2
/-! ### range(i, j, c), upwards -/
def stepL (i c : Int) (n : Nat) : List Dv := (List.range n).map fun (k : Nat) => .int (i + (k : Int) * c)
noncomputable def upOk (i j c : Int) : Bool := @decide (0 ≤ i ∧ i ≤ 1000000 ∧ 0 ≤ j ∧ j ≤ 1000000 ∧ 1 ≤ c ∧ c ≤ 1000000) (Classical.propDecidable _)
def upN (i j c : Int) : Nat := (if i < j then (j - i - 1) / c + 1 else 0).toNat
noncomputable def rngU : List Dv → Option (List Dv)
  | [.int i, .int j, .int c] => if upOk i j c = true then some (stepL i c (upN i j c)) else none
  | _ => none
theorem upOk_iff {i j c : Int} : upOk i j c = true ↔ 0 ≤ i ∧ i ≤ 1000000 ∧ 0 ≤ j ∧ j ≤ 1000000 ∧ 1 ≤ c ∧ c ≤ 1000000 := by
  unfold upOk; exact @decide_eq_true_iff _ (Classical.propDecidable _)
theorem rgC_up {i j c : Int} (h : 0 ≤ i ∧ i ≤ 1000000 ∧ 0 ≤ j ∧ j ≤ 1000000 ∧ 1 ≤ c ∧ c ≤ 1000000) : RgC i j c (upN i j c) := by
  obtain ⟨h1, h2, h3, h4, h5, h6⟩ := h
  have d0 : i < j → 0 ≤ (j - i - 1) / c := fun q => Int.ediv_nonneg (by omega) (by omega)
  have d1 : i < j → (j - i - 1) / c ≤ j - i - 1 := fun q => Int.ediv_le_self _ (by omega)
  have d2 : i < j → (j - i - 1) / c * c ≤ j - i - 1 := fun q => Int.ediv_mul_le _ (by omega)
  have e : Builtin.Range.rangeSize i j c = (upN i j c : Int) := by
    unfold Builtin.Range.rangeSize upN
    rw [if_pos (by omega)]
    by_cases q : i < j
    · have := d0 q
      rw [if_pos q, Int.toNat_of_nonneg (by omega)]
    · rw [if_neg q]; rfl
  refine ⟨by omega, by omega, ?_, e⟩
  unfold Builtin.Range.small
  rw [e]
  unfold upN
  by_cases q : i < j
  · have := d0 q
    have := d1 q
    have := d2 q
    rw [if_pos q, Int.toNat_of_nonneg (by omega)]
    generalize (j - i - 1) / c = m at *
    have cp : c > 0 := by omega
    simp only [Builtin.Range.rangeFitsLong, Bool.and_eq_true, Bool.or_eq_true, decide_eq_true_eq, beq_iff_eq, cp, if_true]
    omega
  · rw [if_neg q]
    have cp : c > 0 := by omega
    simp only [Builtin.Range.rangeFitsLong, Bool.and_eq_true, Bool.or_eq_true, decide_eq_true_eq, beq_iff_eq, cp, if_true]
    omega
theorem itr_up {K : PySem.W.Frag} {μ : List Addr} {H : Hp} {i c : Int} {n : Nat} : ItR K μ H (Itc i c n) (stepL i c n, .tt) := by
  intro μ' S' H' k st hS _
  have hl : (stepL i c n).length = n := by simp [stepL]
  refine ⟨fun e => Nat.le_of_eq (hl.symm.trans e.symm), fun d hd => ?_⟩
  have hi' : k < n := by rw [← hl]; exact (List.getElem?_eq_some_iff.mp hd).1
  refine ⟨hi', fun x H'' y => ?_⟩
  obtain ⟨rfl, rfl⟩ := y
  have hd' : (stepL i c n)[k]? = some d := hd
  simp only [stepL, List.getElem?_map, List.getElem?_range hi', Option.map_some, Option.some.injEq] at hd'
  subst hd'
  exact ⟨.refl .., hS, .int _⟩
theorem si_rangeU {X : Cx} {W : WX} {tg : Expr} {ra : RA} {p pos : Pos} {a b c : Expr} (hg : Gl X "range") (hm : X.mg "range" = none) (ha : SA X W [a, b, c] ra)
    (hs : starEach [a, b, c] X.env = (false, eval a X.env) :: starEach [b, c] X.env := by rfl) (hs2 : (backTo pos (starEach [b, c] X.env)).any (·.1) = false := by rfl) : SI X W tg (.Call (.Name "range" p) [a, b, c] [] pos) (iRange rngU ra) :=
  PI.imp (pi_range3 hg hm ha hs hs2) fun σ H R h => iRange_met h fun μ1 H1 S1 vs ds w a r ew hR => by
    unfold rngU at ew
    split at ew
    · rename_i i j c
      obtain ⟨v, ws, rfl, rv, r2⟩ := r.uncons
      obtain ⟨u, u2, rfl, ru, ru2⟩ := r2.get2
      cases rv; cases ru; cases ru2
      split at ew
      · rename_i hj
        cases ew
        exact ⟨i, j, c, _, rfl, rgC_up (upOk_iff.mp hj), hR _ itr_up⟩
      · cases ew
    · cases ew
end PL

/-! the walk of the linked text (printed by gen.py) -/
namespace Wk
open PySem PySem.Spec PyProof.Rows L2 PL
def topS (i : Nat) : Stmt := PySem.Challenge.pw_pathshape_k33_ways_without_looks.main.body.getD i (.Pass ⟨0, 0, 0, 0⟩)
abbrev s_all_places : Stmt := topS 1
abbrev N_all_places : List Str := ["tree", "some", "left", "k", "place", "here"]
abbrev p_all_places : List Str := ["tree"]
theorem sc_all_places : FnScope N_all_places p_all_places (defScope s_all_places) := ⟨rfl, rfl, rfl, by decide +kernel, rfl, by decide +kernel, by decide +kernel⟩
abbrev s_tree_at : Stmt := topS 2
abbrev N_tree_at : List Str := ["tree", "place", "here", "k"]
abbrev p_tree_at : List Str := ["tree", "place"]
theorem sc_tree_at : FnScope N_tree_at p_tree_at (defScope s_tree_at) := ⟨rfl, rfl, rfl, by decide +kernel, rfl, by decide +kernel, by decide +kernel⟩
abbrev s_gone_to : Stmt := topS 3
abbrev N_gone_to : List Str := ["tree", "go", "place", "above", "k", "one"]
abbrev p_gone_to : List Str := ["tree", "go", "place"]
theorem sc_gone_to : FnScope N_gone_to p_gone_to (defScope s_gone_to) := ⟨rfl, rfl, rfl, by decide +kernel, rfl, by decide +kernel, by decide +kernel⟩
abbrev s_starts_of : Stmt := topS 5
abbrev N_starts_of : List Str := ["tree", "way", "some", "good", "place", "go", "look", "holding", "starts", "one"]
abbrev p_starts_of : List Str := ["tree", "way", "some"]
theorem sc_starts_of : FnScope N_starts_of p_starts_of (defScope s_starts_of) := ⟨rfl, rfl, rfl, by decide +kernel, rfl, by decide +kernel, by decide +kernel⟩
abbrev s_places_of : Stmt := topS 6
abbrev N_places_of : List Str := ["tree", "look", "some", "word", "one", "other", "holding", "place", "good"]
abbrev p_places_of : List Str := ["tree", "look", "some"]
theorem sc_places_of : FnScope N_places_of p_places_of (defScope s_places_of) := ⟨rfl, rfl, rfl, by decide +kernel, rfl, by decide +kernel, by decide +kernel⟩
abbrev s_finds : Stmt := topS 7
abbrev N_finds : List Str := ["tree", "way", "some", "here", "go", "look", "holding", "there", "place", "one"]
abbrev p_finds : List Str := ["tree", "way"]
theorem sc_finds : FnScope N_finds p_finds (defScope s_finds) := ⟨rfl, rfl, rfl, by decide +kernel, rfl, by decide +kernel, by decide +kernel⟩
abbrev s_l_mix : Stmt := topS 9
abbrev N_l_mix : List Str := ["_law_cell", "_law_k", "_law_digit", "_law_number", "_law_j"]
abbrev p_l_mix : List Str := ["_law_cell", "_law_k"]
theorem sc_l_mix : FnScope N_l_mix p_l_mix (defScope s_l_mix) := ⟨rfl, rfl, rfl, by decide +kernel, rfl, by decide +kernel, by decide +kernel⟩
abbrev s_l_cells : Stmt := topS 10
abbrev N_l_cells : List Str := ["_law_script", "_law_start", "_law_cells_here", "_law_k"]
abbrev p_l_cells : List Str := ["_law_script", "_law_start"]
theorem sc_l_cells : FnScope N_l_cells p_l_cells (defScope s_l_cells) := ⟨rfl, rfl, rfl, by decide +kernel, rfl, by decide +kernel, by decide +kernel⟩
abbrev s_l_names : Stmt := topS 11
abbrev N_l_names : List Str := ["_law_cell", "_law_names_here", "_law_wide", "_law_place", "_law_k", "_law_word", "_law_j", "_law_name"]
abbrev p_l_names : List Str := ["_law_cell"]
theorem sc_l_names : FnScope N_l_names p_l_names (defScope s_l_names) := ⟨rfl, rfl, rfl, by decide +kernel, rfl, by decide +kernel, by decide +kernel⟩
abbrev s_l_rows : Stmt := topS 12
abbrev N_l_rows : List Str := ["_law_cells_here", "_law_names_here", "_law_most_here", "_law_rows_here", "_law_cell", "_law_many", "_law_k", "_law_deep"]
abbrev p_l_rows : List Str := ["_law_cells_here", "_law_names_here", "_law_most_here"]
theorem sc_l_rows : FnScope N_l_rows p_l_rows (defScope s_l_rows) := ⟨rfl, rfl, rfl, by decide +kernel, rfl, by decide +kernel, by decide +kernel⟩
abbrev s_l_trees : Stmt := topS 13
abbrev N_l_trees : List Str := ["_law_rows_here", "_law_held", "_law_trees_here", "_law_deep", "_law_kind", "_law_parts", "_law_tree"]
abbrev p_l_trees : List Str := ["_law_rows_here"]
theorem sc_l_trees : FnScope N_l_trees p_l_trees (defScope s_l_trees) := ⟨rfl, rfl, rfl, by decide +kernel, rfl, by decide +kernel, by decide +kernel⟩
abbrev s_l_spots : Stmt := topS 14
abbrev N_l_spots : List Str := ["_law_rows_here", "_law_spots_here", "_law_deep", "_law_kind", "_law_last"]
abbrev p_l_spots : List Str := ["_law_rows_here"]
theorem sc_l_spots : FnScope N_l_spots p_l_spots (defScope s_l_spots) := ⟨rfl, rfl, rfl, by decide +kernel, rfl, by decide +kernel, by decide +kernel⟩
abbrev s_l_reach : Stmt := topS 15
abbrev N_l_reach : List Str := ["_law_rows_here", "_law_reach_here", "_law_i", "_law_row", "_law_bits", "_law_inside", "_law_j", "_law_go"]
abbrev p_l_reach : List Str := ["_law_rows_here"]
theorem sc_l_reach : FnScope N_l_reach p_l_reach (defScope s_l_reach) := ⟨rfl, rfl, rfl, by decide +kernel, rfl, by decide +kernel, by decide +kernel⟩
abbrev s_l_step : Stmt := topS 16
abbrev N_l_step : List Str := ["_law_cell", "_law_names_here", "_law_rows_here", "_law_go", "_law_kind", "_law_bits", "_law_j", "_law_row"]
abbrev p_l_step : List Str := ["_law_cell", "_law_names_here", "_law_rows_here"]
theorem sc_l_step : FnScope N_l_step p_l_step (defScope s_l_step) := ⟨rfl, rfl, rfl, by decide +kernel, rfl, by decide +kernel, by decide +kernel⟩
abbrev s_l_gone_to : Stmt := topS 17
abbrev N_l_gone_to : List Str := ["_law_masks_of", "_law_bits", "_law_there", "_law_i", "_law_mask"]
abbrev p_l_gone_to : List Str := ["_law_masks_of", "_law_bits"]
theorem sc_l_gone_to : FnScope N_l_gone_to p_l_gone_to (defScope s_l_gone_to) := ⟨rfl, rfl, rfl, by decide +kernel, rfl, by decide +kernel, by decide +kernel⟩
abbrev s_l_most : Stmt := topS 18
abbrev N_l_most : List Str := ["_law_script", "_law_most_here", "_law_head"]
abbrev p_l_most : List Str := ["_law_script", "_law_most_here"]
theorem sc_l_most : FnScope N_l_most p_l_most (defScope s_l_most) := ⟨rfl, rfl, rfl, by decide +kernel, rfl, by decide +kernel, by decide +kernel⟩
abbrev s_l_law : Stmt := topS 19
abbrev N_l_law : List Str := ["_law_script", "_law_names_here", "_law_rows_here", "_law_reach_here", "_law_spots_here", "_law_tree", "_law_steps", "_law_many", "_law_start", "_law_way", "_law_bits", "_law_step_here", "_law_due", "_law_told", "_law_cell", "_law_j", "_law_place"]
abbrev p_l_law : List Str := ["_law_script"]
theorem sc_l_law : FnScope N_l_law p_l_law (defScope s_l_law) := ⟨rfl, rfl, rfl, by decide +kernel, rfl, by decide +kernel, by decide +kernel⟩
inductive Fn where
  | all_places | tree_at | gone_to | starts_of | places_of | finds | l_mix | l_cells | l_names | l_rows | l_trees | l_spots | l_reach | l_step | l_gone_to | l_most | l_law
noncomputable def w_all_places_1 (G : Fn → List Dv → Sto → Out Dv) : RT := cBl (eBin gtD (eCall lenD (aCons (eVar 2) (aNil))) (eCon (.int 0)))
noncomputable def b_all_places_2 (G : Fn → List Dv → Sto → Out Dv) : RC := cExpr (eMeth "list" appendD (eVar 2) (aCons (eTup (aCons (eBin addD (eVar 4) (eTup (aCons (eVar 3) (aNil)))) (aCons (eBin idxD (eBin idxD (eVar 5) (eCon (.int 1))) (eVar 3)) (aNil)))) (aNil)))
noncomputable def b_all_places_3 (G : Fn → List Dv → Sto → Out Dv) : RC := cSeq (cAsg (.tp [.nm 4, .nm 5]) (eMeth "list" popD (eVar 2) aNil)) (cSeq (cExpr (eMeth "list" appendD (eVar 1) (aCons (eVar 4) (aNil)))) (cFor (iRange rng3 (aCons (eBin subD (eCall lenD (aCons (eBin idxD (eVar 5) (eCon (.int 1))) (aNil))) (eCon (.int 1))) (aCons (eUn negD (eCon (.int 1))) (aCons (eUn negD (eCon (.int 1))) (aNil))))) (.nm 3) (b_all_places_2 G)))
noncomputable def c_all_places (G : Fn → List Dv → Sto → Out Dv) : RC := cSeq (cSet 1 (eLst (aNil))) (cSeq (cSet 2 (eLst (aCons (eTup (aCons (eTup (aNil)) (aCons (eVar 0) (aNil)))) (aNil)))) (cSeq (cWhile (w_all_places_1 G) (b_all_places_3 G)) (cRet (eVar 1))))
noncomputable def b_tree_at_1 (G : Fn → List Dv → Sto → Out Dv) : RC := cSet 2 (eBin idxD (eBin idxD (eVar 2) (eCon (.int 1))) (eVar 3))
noncomputable def c_tree_at (G : Fn → List Dv → Sto → Out Dv) : RC := cSeq (cSet 2 (eVar 0)) (cSeq (cFor (iSeq (eVar 1)) (.nm 3) (b_tree_at_1 G)) (cRet (eVar 2)))
noncomputable def y_gone_to_1 (G : Fn → List Dv → Sto → Out Dv) : RE := eBin addD (eVar 2) (eTup (aCons (eVar 4) (aNil)))
noncomputable def y_gone_to_2 (G : Fn → List Dv → Sto → Out Dv) : RE := eBin addD (eVar 2) (eVar 5)
noncomputable def y_gone_to_3 (G : Fn → List Dv → Sto → Out Dv) : RE := eBin addD (eVar 3) (eTup (aCons (eVar 4) (aNil)))
noncomputable def c_gone_to (G : Fn → List Dv → Sto → Out Dv) : RC := cSeq (cIf (cBl (eBin eqD (eVar 1) (eCon (.str "down")))) (cRet (eComp (iRange rng1 (aCons (eCall lenD (aCons (eBin idxD (eOwn 2 (G .tree_at) (aCons (eVar 0) (aCons (eVar 2) (aNil)))) (eCon (.int 1))) (aNil))) (aNil))) (.nm 4) (cYes) (y_gone_to_1 G) [4])) (cNil)) (cSeq (cIf (cBl (eBin eqD (eVar 1) (eCon (.str "deep")))) (cRet (eComp (iSeq (eSli (eOwn 1 (G .all_places) (aCons (eOwn 2 (G .tree_at) (aCons (eVar 0) (aCons (eVar 2) (aNil)))) (aNil))) (oSome (eCon (.int 1))) (oNone))) (.nm 5) (cYes) (y_gone_to_2 G) [5])) (cNil)) (cSeq (cIf (cBl (eBin eqD (eCall lenD (aCons (eVar 2) (aNil))) (eCon (.int 0)))) (cRet (eLst (aNil))) (cNil)) (cSeq (cSet 3 (eSli (eVar 2) (oNone) (oSome (eUn negD (eCon (.int 1)))))) (cRet (eComp (iRange rng2 (aCons (eBin addD (eBin idxD (eVar 2) (eUn negD (eCon (.int 1)))) (eCon (.int 1))) (aCons (eCall lenD (aCons (eBin idxD (eOwn 2 (G .tree_at) (aCons (eVar 0) (aCons (eVar 3) (aNil)))) (eCon (.int 1))) (aNil))) (aNil)))) (.nm 4) (cYes) (y_gone_to_3 G) [4])))))
noncomputable def b_starts_of_1 (G : Fn → List Dv → Sto → Out Dv) : RC := cPut (eVar 3) (eVar 4) (eCon (.bl true))
noncomputable def b_starts_of_2 (G : Fn → List Dv → Sto → Out Dv) : RC := cIf (cAnd (cBl (eBin inD (eVar 9) (eVar 3))) (cBl (eBin inD (eVar 9) (eVar 7)))) (cPut (eVar 8) (eVar 4) (eCon (.bl true))) (cNil)
noncomputable def b_starts_of_3 (G : Fn → List Dv → Sto → Out Dv) : RC := cFor (iSeq (eOwn 3 (G .gone_to) (aCons (eVar 0) (aCons (eVar 5) (aCons (eVar 4) (aNil)))))) (.nm 9) (b_starts_of_2 G)
noncomputable def b_starts_of_4 (G : Fn → List Dv → Sto → Out Dv) : RC := cSeq (cSet 7 (eOwn 3 (G .places_of) (aCons (eVar 0) (aCons (eVar 6) (aCons (eVar 2) (aNil)))))) (cSeq (cSet 8 (eNewT)) (cSeq (cFor (iSeq (eVar 2)) (.nm 4) (b_starts_of_3 G)) (cSet 3 (eVar 8))))
noncomputable def c_starts_of (G : Fn → List Dv → Sto → Out Dv) : RC := cSeq (cSet 3 (eNewT)) (cSeq (cFor (iSeq (eVar 2)) (.nm 4) (b_starts_of_1 G)) (cSeq (cFor (iRev (eVar 1)) (.tp [.nm 5, .nm 6]) (b_starts_of_4 G)) (cRet (eVar 3))))
noncomputable def b_places_of_1 (G : Fn → List Dv → Sto → Out Dv) : RC := cSeq (cSet 8 (eOr (eBin eqD (eVar 3) (eCon (.str "any"))) (eAnd (eBin eqD (eVar 3) (eCon (.str "kind"))) (eBin eqD (eBin idxD (eOwn 2 (G .tree_at) (aCons (eVar 0) (aCons (eVar 7) (aNil)))) (eCon (.int 0))) (eBin idxD (eVar 1) (eCon (.int 1))))))) (cSeq (cSet 8 (eOr (eVar 8) (eAnd (eBin eqD (eVar 3) (eCon (.str "not"))) (eBin ninD (eVar 7) (eVar 4))))) (cSeq (cSet 8 (eOr (eVar 8) (eAnd (eBin eqD (eVar 3) (eCon (.str "both"))) (eAnd (eBin inD (eVar 7) (eVar 4)) (eBin inD (eVar 7) (eVar 5)))))) (cIf (cOr (cBl (eVar 8)) (cAnd (cBl (eBin eqD (eVar 3) (eCon (.str "either")))) (cOr (cBl (eBin inD (eVar 7) (eVar 4))) (cBl (eBin inD (eVar 7) (eVar 5)))))) (cPut (eVar 6) (eVar 7) (eCon (.bl true))) (cNil))))
noncomputable def c_places_of (G : Fn → List Dv → Sto → Out Dv) : RC := cSeq (cSet 3 (eBin idxD (eVar 1) (eCon (.int 0)))) (cSeq (cIf (cBl (eBin eqD (eVar 3) (eCon (.str "way")))) (cRet (eOwn 3 (G .starts_of) (aCons (eVar 0) (aCons (eBin idxD (eVar 1) (eCon (.int 1))) (aCons (eVar 2) (aNil)))))) (cNil)) (cSeq (cSet 4 (eNewT)) (cSeq (cSet 5 (eNewT)) (cSeq (cIf (cBl (eBin inD (eVar 3) (eTup (aCons (eCon (.str "not")) (aCons (eCon (.str "both")) (aCons (eCon (.str "either")) (aNil))))))) (cSet 4 (eOwn 3 (G .places_of) (aCons (eVar 0) (aCons (eBin idxD (eVar 1) (eCon (.int 1))) (aCons (eVar 2) (aNil)))))) (cNil)) (cSeq (cIf (cBl (eBin inD (eVar 3) (eTup (aCons (eCon (.str "both")) (aCons (eCon (.str "either")) (aNil)))))) (cSet 5 (eOwn 3 (G .places_of) (aCons (eVar 0) (aCons (eBin idxD (eVar 1) (eCon (.int 2))) (aCons (eVar 2) (aNil)))))) (cNil)) (cSeq (cSet 6 (eNewT)) (cSeq (cFor (iSeq (eVar 2)) (.nm 7) (b_places_of_1 G)) (cRet (eVar 6)))))))))
noncomputable def b_finds_1 (G : Fn → List Dv → Sto → Out Dv) : RC := cIf (cBl (eBin inD (eVar 9) (eVar 6))) (cPut (eVar 7) (eVar 9) (eCon (.bl true))) (cNil)
noncomputable def b_finds_2 (G : Fn → List Dv → Sto → Out Dv) : RC := cFor (iSeq (eOwn 3 (G .gone_to) (aCons (eVar 0) (aCons (eVar 4) (aCons (eVar 8) (aNil)))))) (.nm 9) (b_finds_1 G)
noncomputable def b_finds_3 (G : Fn → List Dv → Sto → Out Dv) : RC := cSeq (cSet 6 (eOwn 3 (G .places_of) (aCons (eVar 0) (aCons (eVar 5) (aCons (eVar 2) (aNil)))))) (cSeq (cSet 7 (eNewT)) (cSeq (cForD 3 (.nm 8) (b_finds_2 G)) (cSet 3 (eVar 7))))
noncomputable def c_finds (G : Fn → List Dv → Sto → Out Dv) : RC := cSeq (cSet 2 (eOwn 1 (G .all_places) (aCons (eVar 0) (aNil)))) (cSeq (cSet 3 (eDisp1 (eTup (aNil), eCon (.bl true)))) (cSeq (cFor (iSeq (eVar 1)) (.tp [.nm 4, .nm 5]) (b_finds_3 G)) (cRet (eCall sortTD (aCons (eVar 3) (aNil))))))
noncomputable def b_l_mix_1 (G : Fn → List Dv → Sto → Out Dv) : RC := cSet 2 (eBin fdivD (eVar 2) (eCon (.int 840)))
noncomputable def c_l_mix (G : Fn → List Dv → Sto → Out Dv) : RC := cSeq (cSet 2 (eCon (.int 0))) (cSeq (cIf (cBl (eBin geD (eVar 0) (eBin powD (eCon (.int 10)) (eCon (.int 9))))) (cSeq (cSet 2 (eVar 0)) (cFor (iRange rng1 (aCons (eBin modD (eVar 1) (eCon (.int 46))) (aNil))) (.nm 4) (b_l_mix_1 G))) (cNil)) (cSeq (cIf (cBl (eBin gtD (eVar 2) (eCon (.int 0)))) (cRet (eBin modD (eVar 2) (eCon (.int 840)))) (cNil)) (cSeq (cSet 3 (eBin addD (eBin addD (eBin modD (eVar 0) (eCon (.int 1000000007))) (eBin mulD (eCon (.int 7919)) (eVar 1))) (eCon (.int 13)))) (cSeq (cSet 3 (eBin modD (eBin mulD (eVar 3) (eVar 3)) (eCon (.int 998244353)))) (cRet (eBin fdivD (eBin modD (eBin mulD (eVar 3) (eBin addD (eBin addD (eVar 3) (eBin mulD (eCon (.int 16807)) (eVar 1))) (eCon (.int 1)))) (eCon (.int 1000000007))) (eCon (.int 3))))))))
noncomputable def y_l_cells_1 (G : Fn → List Dv → Sto → Out Dv) : RE := eBin idxD (eVar 0) (eVar 3)
noncomputable def y_l_cells_2 (G : Fn → List Dv → Sto → Out Dv) : RE := eOwn 2 (G .l_mix) (aCons (eCall lenD (aCons (eVar 0) (aNil))) (aCons (eBin addD (eBin addD (eCon (.int 40)) (eVar 1)) (eVar 3)) (aNil)))
noncomputable def c_l_cells (G : Fn → List Dv → Sto → Out Dv) : RC := cSeq (cSet 2 (eComp (iRange rngS (aCons (eVar 1) (aCons (eCall min2D (aCons (eCall lenD (aCons (eVar 0) (aNil))) (aCons (eCon (.int 64)) (aNil)))) (aCons (eCon (.int 2)) (aNil))))) (.nm 3) (cYes) (y_l_cells_1 G) [3])) (cRet (eBin addD (eVar 2) (eComp (iRange rng1 (aCons (eBin subD (eCon (.int 6)) (eCall lenD (aCons (eVar 2) (aNil)))) (aNil))) (.nm 3) (cYes) (y_l_cells_2 G) [3])))
noncomputable def b_l_names_1 (G : Fn → List Dv → Sto → Out Dv) : RC := cSet 5 (eBin addD (eVar 5) (eBin idxD (eCon (.str "abcdefghijklmnopqrstuvwxyz")) (eBin modD (eOwn 2 (G .l_mix) (aCons (eVar 0) (aCons (eBin addD (eCon (.int 32)) (eVar 6)) (aNil)))) (eCon (.int 26)))))
noncomputable def y_l_names_2 (G : Fn → List Dv → Sto → Out Dv) : RE := eSli (eVar 5) (oNone) (oSome (eBin addD (eBin addD (eCon (.int 1)) (eBin modD (eOwn 2 (G .l_mix) (aCons (eVar 0) (aCons (eCon (.int 43)) (aNil)))) (eCon (.int 4)))) (eVar 4)))
noncomputable def b_l_names_3 (G : Fn → List Dv → Sto → Out Dv) : RC := cSet 7 (eBin addD (eVar 7) (eBin idxD (eCon (.str "abcdefghijklmnopqrstuvwxyz")) (eBin modD (eBin addD (eOwn 2 (G .l_mix) (aCons (eVar 0) (aCons (eBin addD (eCon (.int 32)) (eVar 6)) (aNil)))) (eBin mulD (eVar 4) (eCall intD (aCons (eBin eqD (eVar 6) (eVar 3)) (aNil))))) (eCon (.int 26)))))
noncomputable def b_l_names_4 (G : Fn → List Dv → Sto → Out Dv) : RC := cSeq (cSet 7 (eCon (.str ""))) (cSeq (cFor (iRange rng1 (aCons (eVar 2) (aNil))) (.nm 6) (b_l_names_3 G)) (cSeq (cIf (cBl (eBin inD (eVar 7) (eLst (aCons (eCon (.str "start")) (aCons (eCon (.str "rule")) (aCons (eCon (.str "row")) (aCons (eCon (.str "mix")) (aCons (eCon (.str "many")) (aCons (eCon (.str "any")) (aCons (eCon (.str "kind")) (aCons (eCon (.str "not")) (aCons (eCon (.str "both")) (aCons (eCon (.str "either")) (aCons (eCon (.str "way")) (aCons (eCon (.str "mark")) (aNil)))))))))))))))) (cSet 7 (eBin addD (eVar 7) (eCon (.str "z")))) (cNil)) (cExpr (eMeth "list" appendD (eVar 1) (aCons (eVar 7) (aNil))))))
noncomputable def c_l_names (G : Fn → List Dv → Sto → Out Dv) : RC := cSeq (cSet 1 (eLst (aNil))) (cSeq (cIf (cBl (eBin eqD (eBin modD (eOwn 2 (G .l_mix) (aCons (eVar 0) (aCons (eCon (.int 40)) (aNil)))) (eCon (.int 3))) (eCon (.int 0)))) (cSeq (cSet 5 (eCon (.str "q"))) (cSeq (cFor (iRange rng1 (aCons (eCon (.int 7)) (aNil))) (.nm 6) (b_l_names_1 G)) (cRet (eComp (iRange rng1 (aCons (eCon (.int 5)) (aNil))) (.nm 4) (cYes) (y_l_names_2 G) [4])))) (cNil)) (cSeq (cSet 2 (eBin addD (eCon (.int 1)) (eBin modD (eOwn 2 (G .l_mix) (aCons (eVar 0) (aCons (eCon (.int 41)) (aNil)))) (eCon (.int 8))))) (cSeq (cSet 3 (eBin modD (eOwn 2 (G .l_mix) (aCons (eVar 0) (aCons (eCon (.int 42)) (aNil)))) (eVar 2))) (cSeq (cFor (iRange rng1 (aCons (eCon (.int 5)) (aNil))) (.nm 4) (b_l_names_4 G)) (cRet (eVar 1))))))
noncomputable def b_l_rows_1 (G : Fn → List Dv → Sto → Out Dv) : RC := cSeq (cSet 7 (eBin addD (eCon (.int 1)) (eBin modD (eOwn 2 (G .l_mix) (aCons (eVar 4) (aCons (eCon (.int 4)) (aNil)))) (eBin addD (eBin idxD (eBin idxD (eVar 3) (eUn negD (eCon (.int 1)))) (eCon (.int 0))) (eCon (.int 1)))))) (cSeq (cIf (cBl (eBin gtD (eVar 6) (eCon (.int 0)))) (cSet 7 (eBin addD (eBin idxD (eBin idxD (eVar 3) (eUn negD (eCon (.int 1)))) (eCon (.int 0))) (eBin modD (eOwn 2 (G .l_mix) (aCons (eVar 4) (aCons (eCon (.int 6)) (aNil)))) (eCon (.int 2))))) (cNil)) (cIf (cBl (eBin ltD (eCall lenD (aCons (eVar 3) (aNil))) (eVar 2))) (cExpr (eMeth "list" appendD (eVar 3) (aCons (eTup (aCons (eVar 7) (aCons (eBin idxD (eVar 1) (eBin modD (eOwn 2 (G .l_mix) (aCons (eVar 4) (aCons (eBin addD (eCon (.int 7)) (eVar 6)) (aNil)))) (eCon (.int 4)))) (aNil)))) (aNil)))) (cNil)))
noncomputable def b_l_rows_2 (G : Fn → List Dv → Sto → Out Dv) : RC := cSeq (cSet 5 (eCon (.int 1))) (cSeq (cIf (cBl (eBin eqD (eBin modD (eOwn 2 (G .l_mix) (aCons (eVar 4) (aCons (eCon (.int 2)) (aNil)))) (eCon (.int 12))) (eCon (.int 5)))) (cSet 5 (eBin addD (eCon (.int 1)) (eBin modD (eOwn 2 (G .l_mix) (aCons (eVar 4) (aCons (eCon (.int 3)) (aNil)))) (eCon (.int 24))))) (cNil)) (cFor (iRange rng1 (aCons (eVar 5) (aNil))) (.nm 6) (b_l_rows_1 G)))
noncomputable def c_l_rows (G : Fn → List Dv → Sto → Out Dv) : RC := cSeq (cSet 3 (eLst (aCons (eTup (aCons (eCon (.int 0)) (aCons (eBin idxD (eVar 1) (eBin modD (eOwn 2 (G .l_mix) (aCons (eBin idxD (eVar 0) (eCon (.int 0))) (aCons (eCon (.int 1)) (aNil)))) (eCon (.int 4)))) (aNil)))) (aNil)))) (cSeq (cFor (iSeq (eVar 0)) (.nm 4) (b_l_rows_2 G)) (cRet (eVar 3)))
noncomputable def b_l_trees_1 (G : Fn → List Dv → Sto → Out Dv) : RC := cSeq (cSet 5 (eGet2 (eVar 1) (eBin addD (eVar 3) (eCon (.int 1))) (eLst (aNil)))) (cSeq (cPut (eVar 1) (eBin addD (eVar 3) (eCon (.int 1))) (eLst (aNil))) (cSeq (cSet 6 (eTup (aCons (eVar 4) (aCons (eUn trevD (eVar 5)) (aNil))))) (cSeq (cPut (eVar 1) (eVar 3) (eBin addD (eGet2 (eVar 1) (eVar 3) (eLst (aNil))) (eLst (aCons (eVar 6) (aNil))))) (cExpr (eMeth "list" appendD (eVar 2) (aCons (eVar 6) (aNil)))))))
noncomputable def c_l_trees (G : Fn → List Dv → Sto → Out Dv) : RC := cSeq (cSet 1 (eNewK)) (cSeq (cSet 2 (eLst (aNil))) (cSeq (cFor (iRev (eVar 0)) (.tp [.nm 3, .nm 4]) (b_l_trees_1 G)) (cRet (eUn lrevD (eVar 2)))))
noncomputable def b_l_spots_1 (G : Fn → List Dv → Sto → Out Dv) : RC := cSeq (cSet 4 (eBin idxD (eVar 1) (eUn negD (eCon (.int 1))))) (cIf (cBl (eBin gtD (eVar 2) (eCall lenD (aCons (eVar 4) (aNil))))) (cExpr (eMeth "list" appendD (eVar 1) (aCons (eBin addD (eVar 4) (eTup (aCons (eCon (.int 0)) (aNil)))) (aNil)))) (cExpr (eMeth "list" appendD (eVar 1) (aCons (eBin addD (eSli (eVar 4) (oNone) (oSome (eBin subD (eVar 2) (eCon (.int 1))))) (eTup (aCons (eBin addD (eBin idxD (eVar 4) (eBin subD (eVar 2) (eCon (.int 1)))) (eCon (.int 1))) (aNil)))) (aNil)))))
noncomputable def c_l_spots (G : Fn → List Dv → Sto → Out Dv) : RC := cSeq (cSet 1 (eLst (aCons (eTup (aNil)) (aNil)))) (cSeq (cFor (iSeq (eSli (eVar 0) (oSome (eCon (.int 1))) (oNone))) (.tp [.nm 2, .nm 3]) (b_l_spots_1 G)) (cRet (eVar 1)))
noncomputable def b_l_reach_1 (G : Fn → List Dv → Sto → Out Dv) : RC := cSeq (cIf (cBl (eBin ltD (eBin idxD (eBin idxD (eVar 0) (eVar 6)) (eCon (.int 0))) (eBin idxD (eVar 3) (eCon (.int 0))))) (cBrk) (cNil)) (cIf (cBl (eBin eqD (eBin idxD (eBin idxD (eVar 0) (eVar 6)) (eCon (.int 0))) (eBin idxD (eVar 3) (eCon (.int 0))))) (cSeq (cSet 5 (eCon (.bl false))) (cPut (eVar 4) (eCon (.str "later")) (eBin orD (eBin idxD (eVar 4) (eCon (.str "later"))) (eBin shlD (eCon (.int 1)) (eVar 6))))) (cIf (cBl (eVar 5)) (cSeq (cPut (eVar 4) (eCon (.str "deep")) (eBin orD (eBin idxD (eVar 4) (eCon (.str "deep"))) (eBin shlD (eCon (.int 1)) (eVar 6)))) (cIf (cBl (eBin eqD (eBin idxD (eBin idxD (eVar 0) (eVar 6)) (eCon (.int 0))) (eBin addD (eBin idxD (eVar 3) (eCon (.int 0))) (eCon (.int 1))))) (cPut (eVar 4) (eCon (.str "down")) (eBin orD (eBin idxD (eVar 4) (eCon (.str "down"))) (eBin shlD (eCon (.int 1)) (eVar 6)))) (cNil))) (cNil)))
noncomputable def b_l_reach_2 (G : Fn → List Dv → Sto → Out Dv) : RC := cExpr (eMeth "list" appendD (eBin idxD (eVar 1) (eVar 7)) (aCons (eBin idxD (eVar 4) (eVar 7)) (aNil)))
noncomputable def b_l_reach_3 (G : Fn → List Dv → Sto → Out Dv) : RC := cSeq (cSet 4 (eDisp [(eCon (.str "down"), eCon (.int 0)), (eCon (.str "deep"), eCon (.int 0)), (eCon (.str "later"), eCon (.int 0))])) (cSeq (cSet 5 (eCon (.bl true))) (cSeq (cFor (iRange rng2 (aCons (eBin addD (eVar 2) (eCon (.int 1))) (aCons (eCall lenD (aCons (eVar 0) (aNil))) (aNil)))) (.nm 6) (b_l_reach_1 G)) (cForD 1 (.nm 7) (b_l_reach_2 G))))
noncomputable def c_l_reach (G : Fn → List Dv → Sto → Out Dv) : RC := cSeq (cSet 1 (eDisp [(eCon (.str "down"), eLst (aNil)), (eCon (.str "deep"), eLst (aNil)), (eCon (.str "later"), eLst (aNil))])) (cSeq (cFor (iEnumA (aCons (eVar 0) (aNil))) (.tp [.nm 2, .nm 3]) (b_l_reach_3 G)) (cRet (eVar 1)))
noncomputable def b_l_step_1 (G : Fn → List Dv → Sto → Out Dv) : RC := cSet 5 (eBin orD (eVar 5) (eBin shlD (eCall intD (aCons (eBin eqD (eBin idxD (eVar 7) (eCon (.int 1))) (eVar 4)) (aNil))) (eVar 6)))
noncomputable def c_l_step (G : Fn → List Dv → Sto → Out Dv) : RC := cSeq (cSet 3 (eBin idxD (eLst (aCons (eCon (.str "down")) (aCons (eCon (.str "deep")) (aCons (eCon (.str "deep")) (aCons (eCon (.str "later")) (aCons (eCon (.str "down")) (aNil))))))) (eBin modD (eOwn 2 (G .l_mix) (aCons (eVar 0) (aCons (eCon (.int 12)) (aNil)))) (eCon (.int 5))))) (cSeq (cIf (cBl (eBin eqD (eBin modD (eOwn 2 (G .l_mix) (aCons (eVar 0) (aCons (eCon (.int 13)) (aNil)))) (eCon (.int 3))) (eCon (.int 0)))) (cRet (eTup (aCons (eTup (aCons (eVar 3) (aCons (eTup (aCons (eCon (.str "any")) (aNil))) (aNil)))) (aCons (eBin subD (eBin shlD (eCon (.int 1)) (eCall lenD (aCons (eVar 2) (aNil)))) (eCon (.int 1))) (aNil))))) (cNil)) (cSeq (cSet 4 (eBin idxD (eVar 1) (eBin modD (eOwn 2 (G .l_mix) (aCons (eVar 0) (aCons (eCon (.int 14)) (aNil)))) (eCon (.int 5))))) (cSeq (cSet 5 (eCon (.int 0))) (cSeq (cFor (iEnumA (aCons (eVar 2) (aNil))) (.tp [.nm 6, .nm 7]) (b_l_step_1 G)) (cRet (eTup (aCons (eTup (aCons (eVar 3) (aCons (eTup (aCons (eCon (.str "kind")) (aCons (eVar 4) (aNil)))) (aNil)))) (aCons (eVar 5) (aNil)))))))))
noncomputable def b_l_gone_to_1 (G : Fn → List Dv → Sto → Out Dv) : RC := cIf (cBl (eBin eqD (eBin andD (eBin shrD (eVar 1) (eVar 3)) (eCon (.int 1))) (eCon (.int 1)))) (cSet 2 (eBin orD (eVar 2) (eVar 4))) (cNil)
noncomputable def c_l_gone_to (G : Fn → List Dv → Sto → Out Dv) : RC := cSeq (cSet 2 (eCon (.int 0))) (cSeq (cFor (iEnumA (aCons (eVar 0) (aNil))) (.tp [.nm 3, .nm 4]) (b_l_gone_to_1 G)) (cRet (eVar 2)))
noncomputable def c_l_most (G : Fn → List Dv → Sto → Out Dv) : RC := cSeq (cSet 2 (eOwn 2 (G .l_mix) (aCons (eCall sumD (aCons (eSli (eVar 0) (oNone) (oSome (eCon (.int 1)))) (aNil))) (aCons (eCon (.int 44)) (aNil))))) (cSeq (cIf (cBl (eBin eqD (eBin modD (eVar 2) (eCon (.int 4))) (eCon (.int 1)))) (cRet (eBin addD (eCon (.int 1)) (eBin modD (eBin fdivD (eVar 2) (eCon (.int 4))) (eCon (.int 6))))) (cNil)) (cRet (eVar 1)))
noncomputable def y_l_law_1 (G : Fn → List Dv → Sto → Out Dv) : RE := eOwn 3 (G .l_step) (aCons (eVar 14) (aCons (eVar 1) (aCons (eVar 2) (aNil))))
noncomputable def y_l_law_2 (G : Fn → List Dv → Sto → Out Dv) : RE := eBin idxD (eVar 11) (eCon (.int 0))
noncomputable def b_l_law_3 (G : Fn → List Dv → Sto → Out Dv) : RC := cSet 10 (eBin andD (eOwn 2 (G .l_gone_to) (aCons (eBin idxD (eVar 3) (eBin idxD (eBin idxD (eVar 11) (eCon (.int 0))) (eCon (.int 0)))) (aCons (eVar 10) (aNil)))) (eBin idxD (eVar 11) (eCon (.int 1))))
noncomputable def y_l_law_4 (G : Fn → List Dv → Sto → Out Dv) : RE := eVar 16
noncomputable def q_l_law_4 (G : Fn → List Dv → Sto → Out Dv) : RT := cBl (eBin eqD (eBin andD (eBin shrD (eVar 10) (eVar 15)) (eCon (.int 1))) (eCon (.int 1)))
noncomputable def b_l_law_5 (G : Fn → List Dv → Sto → Out Dv) : RC := cSeq (cSet 9 (eComp (iSeq (eSli (eVar 6) (oSome (eVar 8)) (oSome (eBin addD (eVar 8) (eVar 7))))) (.nm 11) (cYes) (y_l_law_2 G) [11])) (cSeq (cSet 10 (eCon (.int 1))) (cSeq (cFor (iSeq (eSli (eVar 6) (oSome (eVar 8)) (oSome (eBin addD (eVar 8) (eVar 7))))) (.nm 11) (b_l_law_3 G)) (cSeq (cSet 12 (eComp (iEnumA (aCons (eVar 4) (aNil))) (.tp [.nm 15, .nm 16]) (q_l_law_4 G) (y_l_law_4 G) [15, 16])) (cSeq (cSet 13 (eOwn 2 (G .finds) (aCons (eVar 5) (aCons (eCall tupleD (aCons (eVar 9) (aNil))) (aNil))))) (cSeq (cIf (cOr (cNot (cBl (eUn (isiD "list") (eVar 13)))) (cBl (eBin neD (eVar 13) (eVar 12)))) (cRet (eCon (.bl false))) (cNil)) (cSeq (cExpr (eMeth "list" appendD (eVar 13) (aCons (eTup (aNil)) (aNil)))) (cIf (cAnd (cBl (eBin eqD (eVar 8) (eCon (.int 0)))) (cBl (eBin neD (eOwn 2 (G .finds) (aCons (eVar 5) (aCons (eCall tupleD (aCons (eVar 9) (aNil))) (aNil)))) (eVar 12)))) (cRet (eCon (.bl false))) (cNil))))))))
noncomputable def c_l_law (G : Fn → List Dv → Sto → Out Dv) : RC := cSeq (cSet 1 (eOwn 1 (G .l_names) (aCons (eCall sumD (aCons (eSli (eVar 0) (oNone) (oSome (eCon (.int 1)))) (aNil))) (aNil)))) (cSeq (cSet 2 (eOwn 3 (G .l_rows) (aCons (eOwn 2 (G .l_cells) (aCons (eVar 0) (aCons (eCon (.int 0)) (aNil)))) (aCons (eVar 1) (aCons (eOwn 2 (G .l_most) (aCons (eVar 0) (aCons (eCon (.int 36)) (aNil)))) (aNil)))))) (cSeq (cSet 3 (eOwn 1 (G .l_reach) (aCons (eVar 2) (aNil)))) (cSeq (cSet 4 (eOwn 1 (G .l_spots) (aCons (eVar 2) (aNil)))) (cSeq (cSet 5 (eBin idxD (eOwn 1 (G .l_trees) (aCons (eVar 2) (aNil))) (eCon (.int 0)))) (cSeq (cSet 6 (eComp (iSeq (eOwn 2 (G .l_cells) (aCons (eVar 0) (aCons (eCon (.int 1)) (aNil))))) (.nm 14) (cYes) (y_l_law_1 G) [14])) (cSeq (cSet 7 (eBin addD (eCon (.int 1)) (eBin modD (eOwn 2 (G .l_mix) (aCons (eCall sumD (aCons (eSli (eVar 0) (oSome (eCon (.int 1))) (oSome (eCon (.int 2)))) (aNil))) (aCons (eCon (.int 45)) (aNil)))) (eCon (.int 6))))) (cSeq (cFor (iRange rngU (aCons (eCon (.int 0)) (aCons (eCall lenD (aCons (eVar 6) (aNil))) (aCons (eVar 7) (aNil))))) (.nm 8) (b_l_law_5 G)) (cRet (eAnd (eBin eqD (eOwn 2 (G .finds) (aCons (eVar 5) (aCons (eTup (aCons (eTup (aCons (eCon (.str "later")) (aCons (eTup (aCons (eCon (.str "any")) (aNil))) (aNil)))) (aNil))) (aNil)))) (eLst (aNil))) (eBin eqW (eVar 5) (eBin idxD (eOwn 1 (G .l_trees) (aCons (eVar 2) (aNil))) (eCon (.int 0)))))))))))))
noncomputable def Fs (G : Fn → List Dv → Sto → Out Dv) : Fn → List Dv → Sto → Out Dv
  | .all_places => runF (c_all_places G) 6 1
  | .tree_at => runF (c_tree_at G) 4 2
  | .gone_to => runF (c_gone_to G) 6 3
  | .starts_of => runF (c_starts_of G) 10 3
  | .places_of => runF (c_places_of G) 9 3
  | .finds => runF (c_finds G) 10 2
  | .l_mix => runF (c_l_mix G) 5 2
  | .l_cells => runF (c_l_cells G) 4 2
  | .l_names => runF (c_l_names G) 8 1
  | .l_rows => runF (c_l_rows G) 8 3
  | .l_trees => runF (c_l_trees G) 7 1
  | .l_spots => runF (c_l_spots G) 5 1
  | .l_reach => runF (c_l_reach G) 8 1
  | .l_step => runF (c_l_step G) 8 3
  | .l_gone_to => runF (c_l_gone_to G) 5 2
  | .l_most => runF (c_l_most G) 3 2
  | .l_law => runF (c_l_law G) 17 1
noncomputable def F : Nat → Fn → List Dv → Sto → Out Dv
  | 0, _ => fun _ _ => .no
  | k + 1, f => Fs (F k) f
theorem F_all_places (k : Nat) : F (k + 1) .all_places = runF (c_all_places (F k)) 6 1 := rfl
theorem F_tree_at (k : Nat) : F (k + 1) .tree_at = runF (c_tree_at (F k)) 4 2 := rfl
theorem F_gone_to (k : Nat) : F (k + 1) .gone_to = runF (c_gone_to (F k)) 6 3 := rfl
theorem F_starts_of (k : Nat) : F (k + 1) .starts_of = runF (c_starts_of (F k)) 10 3 := rfl
theorem F_places_of (k : Nat) : F (k + 1) .places_of = runF (c_places_of (F k)) 9 3 := rfl
theorem F_finds (k : Nat) : F (k + 1) .finds = runF (c_finds (F k)) 10 2 := rfl
theorem F_l_mix (k : Nat) : F (k + 1) .l_mix = runF (c_l_mix (F k)) 5 2 := rfl
theorem F_l_cells (k : Nat) : F (k + 1) .l_cells = runF (c_l_cells (F k)) 4 2 := rfl
theorem F_l_names (k : Nat) : F (k + 1) .l_names = runF (c_l_names (F k)) 8 1 := rfl
theorem F_l_rows (k : Nat) : F (k + 1) .l_rows = runF (c_l_rows (F k)) 8 3 := rfl
theorem F_l_trees (k : Nat) : F (k + 1) .l_trees = runF (c_l_trees (F k)) 7 1 := rfl
theorem F_l_spots (k : Nat) : F (k + 1) .l_spots = runF (c_l_spots (F k)) 5 1 := rfl
theorem F_l_reach (k : Nat) : F (k + 1) .l_reach = runF (c_l_reach (F k)) 8 1 := rfl
theorem F_l_step (k : Nat) : F (k + 1) .l_step = runF (c_l_step (F k)) 8 3 := rfl
theorem F_l_gone_to (k : Nat) : F (k + 1) .l_gone_to = runF (c_l_gone_to (F k)) 5 2 := rfl
theorem F_l_most (k : Nat) : F (k + 1) .l_most = runF (c_l_most (F k)) 3 2 := rfl
theorem F_l_law (k : Nat) : F (k + 1) .l_law = runF (c_l_law (F k)) 17 1 := rfl
def ar : Fn → Nat
  | .all_places => 1
  | .tree_at => 2
  | .gone_to => 3
  | .starts_of => 3
  | .places_of => 3
  | .finds => 2
  | .l_mix => 2
  | .l_cells => 2
  | .l_names => 1
  | .l_rows => 3
  | .l_trees => 1
  | .l_spots => 1
  | .l_reach => 1
  | .l_step => 3
  | .l_gone_to => 2
  | .l_most => 2
  | .l_law => 1
def nps : Fn → List Str
  | .all_places => p_all_places
  | .tree_at => p_tree_at
  | .gone_to => p_gone_to
  | .starts_of => p_starts_of
  | .places_of => p_places_of
  | .finds => p_finds
  | .l_mix => p_l_mix
  | .l_cells => p_l_cells
  | .l_names => p_l_names
  | .l_rows => p_l_rows
  | .l_trees => p_l_trees
  | .l_spots => p_l_spots
  | .l_reach => p_l_reach
  | .l_step => p_l_step
  | .l_gone_to => p_l_gone_to
  | .l_most => p_l_most
  | .l_law => p_l_law
structure Tx (K : PySem.W.Frag) (mg : Str → Option Value) (fa : Fn → Addr) (fd : Fn → FuncData) : Prop where
  f_all_places : Fun K "all_places" "all_places" s_all_places (fa .all_places) (fd .all_places)
  g_all_places : mg "all_places" = some (.ref (fa .all_places))
  b_all_places : Binds K (fd .all_places) p_all_places []
  f_tree_at : Fun K "tree_at" "tree_at" s_tree_at (fa .tree_at) (fd .tree_at)
  g_tree_at : mg "tree_at" = some (.ref (fa .tree_at))
  b_tree_at : Binds K (fd .tree_at) p_tree_at []
  f_gone_to : Fun K "gone_to" "gone_to" s_gone_to (fa .gone_to) (fd .gone_to)
  g_gone_to : mg "gone_to" = some (.ref (fa .gone_to))
  b_gone_to : Binds K (fd .gone_to) p_gone_to []
  f_starts_of : Fun K "starts_of" "starts_of" s_starts_of (fa .starts_of) (fd .starts_of)
  g_starts_of : mg "starts_of" = some (.ref (fa .starts_of))
  b_starts_of : Binds K (fd .starts_of) p_starts_of []
  f_places_of : Fun K "places_of" "places_of" s_places_of (fa .places_of) (fd .places_of)
  g_places_of : mg "places_of" = some (.ref (fa .places_of))
  b_places_of : Binds K (fd .places_of) p_places_of []
  f_finds : Fun K "finds" "finds" s_finds (fa .finds) (fd .finds)
  g_finds : mg "finds" = some (.ref (fa .finds))
  b_finds : Binds K (fd .finds) p_finds []
  f_l_mix : Fun K "_law_mix" "_law_mix" s_l_mix (fa .l_mix) (fd .l_mix)
  g_l_mix : mg "_law_mix" = some (.ref (fa .l_mix))
  b_l_mix : Binds K (fd .l_mix) p_l_mix []
  f_l_cells : Fun K "_law_cells" "_law_cells" s_l_cells (fa .l_cells) (fd .l_cells)
  g_l_cells : mg "_law_cells" = some (.ref (fa .l_cells))
  b_l_cells : Binds K (fd .l_cells) p_l_cells []
  f_l_names : Fun K "_law_names" "_law_names" s_l_names (fa .l_names) (fd .l_names)
  g_l_names : mg "_law_names" = some (.ref (fa .l_names))
  b_l_names : Binds K (fd .l_names) p_l_names []
  f_l_rows : Fun K "_law_rows" "_law_rows" s_l_rows (fa .l_rows) (fd .l_rows)
  g_l_rows : mg "_law_rows" = some (.ref (fa .l_rows))
  b_l_rows : Binds K (fd .l_rows) p_l_rows []
  f_l_trees : Fun K "_law_trees" "_law_trees" s_l_trees (fa .l_trees) (fd .l_trees)
  g_l_trees : mg "_law_trees" = some (.ref (fa .l_trees))
  b_l_trees : Binds K (fd .l_trees) p_l_trees []
  f_l_spots : Fun K "_law_spots" "_law_spots" s_l_spots (fa .l_spots) (fd .l_spots)
  g_l_spots : mg "_law_spots" = some (.ref (fa .l_spots))
  b_l_spots : Binds K (fd .l_spots) p_l_spots []
  f_l_reach : Fun K "_law_reach" "_law_reach" s_l_reach (fa .l_reach) (fd .l_reach)
  g_l_reach : mg "_law_reach" = some (.ref (fa .l_reach))
  b_l_reach : Binds K (fd .l_reach) p_l_reach []
  f_l_step : Fun K "_law_step" "_law_step" s_l_step (fa .l_step) (fd .l_step)
  g_l_step : mg "_law_step" = some (.ref (fa .l_step))
  b_l_step : Binds K (fd .l_step) p_l_step []
  f_l_gone_to : Fun K "_law_gone_to" "_law_gone_to" s_l_gone_to (fa .l_gone_to) (fd .l_gone_to)
  g_l_gone_to : mg "_law_gone_to" = some (.ref (fa .l_gone_to))
  b_l_gone_to : Binds K (fd .l_gone_to) p_l_gone_to []
  f_l_most : Fun K "_law_most" "_law_most" s_l_most (fa .l_most) (fd .l_most)
  g_l_most : mg "_law_most" = some (.ref (fa .l_most))
  b_l_most : Binds K (fd .l_most) p_l_most []
  f_l_law : Fun K "law" "law" s_l_law (fa .l_law) (fd .l_law)
  g_l_law : mg "law" = some (.ref (fa .l_law))
  b_l_law : Binds K (fd .l_law) p_l_law []
  z_enumerate : mg "enumerate" = none
  z_int : mg "int" = none
  z_isinstance : mg "isinstance" = none
  z_len : mg "len" = none
  z_list : mg "list" = none
  z_min : mg "min" = none
  z_range : mg "range" = none
  z_reversed : mg "reversed" = none
  z_sorted : mg "sorted" = none
  z_sum : mg "sum" = none
  z_tuple : mg "tuple" = none
section
variable {P : Program} {w : World} {K : PySem.W.Frag} {mg : Str → Option Value} {base : Heap} {fa : Fn → Addr} {fd : Fn → FuncData}
theorem ok_all_places (T : Tx K mg fa fd) {k j : Nat} (hj : 10 ≤ j) (G : ∀ f, FnOk P w K mg base CX0 j (fa f) (fd f) (nps f) (spD K mg (F k f) (ar f))) : FnOk P w K mg base CX0 (j + 1) (fa .all_places) (fd .all_places) p_all_places (spD K mg (F (k + 1) .all_places) 1) := by
  refine fn_def (c := c_all_places (F k)) (m := 6) T.f_all_places sc_all_places (F_all_places k) rfl rfl fun cdv A outer s H E hr => ?_
  have hu1 := hu_of hr
  have hu64 := hr.units
  have hu65 := PL.hu65 hr
  have hu230 := PL.hu230 hr hj
  exact scs_cons (sc_set (i := 1) sc_all_places.nd rfl (by first | exact Or.inl rfl | exact Or.inr rfl) (se_lst (sa_nil))) (scs_cons (sc_set (i := 2) sc_all_places.nd rfl (by first | exact Or.inl rfl | exact Or.inr rfl) (se_lst (sa_cons (se_tup (sa_cons (se_tup (sa_nil)) (sa_cons (se_var 0) (sa_nil)))) (sa_nil)))) (scs_cons (sc_while PassesOwn.never (st_cmp op_gt o_gt (se_callB call_lenAll o_len (by rfl) T.z_len bt_len (sa_cons (se_var 2) (sa_nil))) (se_int) (nomark _)) (scs_cons (sc_asg (se_meth0 PySem.F.plainAttrs_list PySem.F.slot_list_pop PySem.F.type_list_pop mt_popAll o_pop (se_var 2)) (sg_tup rfl (sgs_cons (sg_name sc_all_places.nd rfl (by first | exact Or.inl rfl | exact Or.inr rfl)) (sgs_cons (sg_name sc_all_places.nd rfl (by first | exact Or.inl rfl | exact Or.inr rfl)) (sgs_nil))) rfl)) (scs_cons (sc_expr (se_meth PySem.F.plainAttrs_list PySem.F.slot_list_append PySem.F.type_list_append mt_append o_append (se_var 1) (sa_cons (se_var 4) (sa_nil)))) (scs_one (sc_for PassesOwn.never rfl (si_range3 (by rfl) T.z_range (sa_cons (se_bin op_sub o_sub (se_callB call_lenAll o_len (by rfl) T.z_len bt_len (sa_cons (se_ix hu1 (se_var 5) (se_int)) (sa_nil))) (se_int)) (sa_cons (se_neg (se_int)) (sa_cons (se_neg (se_int)) (sa_nil))))) (sg_name sc_all_places.nd rfl (by first | exact Or.inl rfl | exact Or.inr rfl)) (scs_one (sc_expr (se_meth PySem.F.plainAttrs_list PySem.F.slot_list_append PySem.F.type_list_append mt_append o_append (se_var 2) (sa_cons (se_tup (sa_cons (se_bin op_addAll o_add (se_var 4) (se_tup (sa_cons (se_var 3) (sa_nil)))) (sa_cons (se_ix hu1 (se_ix hu1 (se_var 5) (se_int)) (se_var 3)) (sa_nil)))) (sa_nil)))))))))) (scs_one (sc_ret (se_var 1)))))
theorem ok_tree_at (T : Tx K mg fa fd) {k j : Nat} (hj : 10 ≤ j) (G : ∀ f, FnOk P w K mg base CX0 j (fa f) (fd f) (nps f) (spD K mg (F k f) (ar f))) : FnOk P w K mg base CX0 (j + 1) (fa .tree_at) (fd .tree_at) p_tree_at (spD K mg (F (k + 1) .tree_at) 2) := by
  refine fn_def (c := c_tree_at (F k)) (m := 4) T.f_tree_at sc_tree_at (F_tree_at k) rfl rfl fun cdv A outer s H E hr => ?_
  have hu1 := hu_of hr
  have hu64 := hr.units
  have hu65 := PL.hu65 hr
  have hu230 := PL.hu230 hr hj
  exact scs_cons (sc_set (i := 2) sc_tree_at.nd rfl (by first | exact Or.inl rfl | exact Or.inr rfl) (se_var 0)) (scs_cons (sc_for PassesOwn.never rfl (si_seq (se_var 1)) (sg_name sc_tree_at.nd rfl (by first | exact Or.inl rfl | exact Or.inr rfl)) (scs_one (sc_set (i := 2) sc_tree_at.nd rfl (by first | exact Or.inl rfl | exact Or.inr rfl) (se_ix hu1 (se_ix hu1 (se_var 2) (se_int)) (se_var 3))))) (scs_one (sc_ret (se_var 2))))
theorem ok_gone_to (T : Tx K mg fa fd) {k j : Nat} (hj : 10 ≤ j) (G : ∀ f, FnOk P w K mg base CX0 j (fa f) (fd f) (nps f) (spD K mg (F k f) (ar f))) : FnOk P w K mg base CX0 (j + 1) (fa .gone_to) (fd .gone_to) p_gone_to (spD K mg (F (k + 1) .gone_to) 3) := by
  refine fn_def (c := c_gone_to (F k)) (m := 6) T.f_gone_to sc_gone_to (F_gone_to k) rfl rfl fun cdv A outer s H E hr => ?_
  have hu1 := hu_of hr
  have hu64 := hr.units
  have hu65 := PL.hu65 hr
  have hu230 := PL.hu230 hr hj
  exact scs_cons (sc_if (st_cmp (op_eqD hu64) o_eq (se_var 1) (se_str) (nomark _)) (scs_one (sc_ret (se_compB [("k", 4)] rfl sc_gone_to.nd (si_range1 (by rfl) T.z_range (sa_cons (se_callB call_lenAll o_len (by rfl) T.z_len bt_len (sa_cons (se_ix hu1 (se_own (G .tree_at) hr (by rfl) T.g_tree_at T.f_tree_at.kp T.b_tree_at pas0 (sa_cons (se_var 0) (sa_cons (se_var 2) (sa_nil)))) (se_int)) (sa_nil))) (sa_nil))) (blkOk_by (own := [("k", 4)]) (N := N_gone_to) (sc := defScope s_gone_to) (by decide +kernel)) (by intro _ _ _ _ _; exact sg_name sc_gone_to.nd rfl (by first | exact Or.inl rfl | exact Or.inr rfl)) (by intro _ _ _ _ _; exact sts_nil) (by intro _ _ _ _ _; exact se_bin op_addAll o_add (se_var 2) (se_tup (sa_cons (se_var 4) (sa_nil)))) rfl (by decide)))) (scs_nil)) (scs_cons (sc_if (st_cmp (op_eqD hu64) o_eq (se_var 1) (se_str) (nomark _)) (scs_one (sc_ret (se_compB [("one", 5)] rfl sc_gone_to.nd (si_seq (se_sli (se_own (G .all_places) hr (by rfl) T.g_all_places T.f_all_places.kp T.b_all_places pas0 (sa_cons (se_own (G .tree_at) hr (by rfl) T.g_tree_at T.f_tree_at.kp T.b_tree_at pas0 (sa_cons (se_var 0) (sa_cons (se_var 2) (sa_nil)))) (sa_nil))) (so_some (se_int)) (so_none))) (blkOk_by (own := [("one", 5)]) (N := N_gone_to) (sc := defScope s_gone_to) (by decide +kernel)) (by intro _ _ _ _ _; exact sg_name sc_gone_to.nd rfl (by first | exact Or.inl rfl | exact Or.inr rfl)) (by intro _ _ _ _ _; exact sts_nil) (by intro _ _ _ _ _; exact se_bin op_addAll o_add (se_var 2) (se_var 5)) rfl (by decide)))) (scs_nil)) (scs_cons (sc_if (st_cmp (op_eqD hu64) o_eq (se_callB call_lenAll o_len (by rfl) T.z_len bt_len (sa_cons (se_var 2) (sa_nil))) (se_int) (nomark _)) (scs_one (sc_ret (se_lst (sa_nil)))) (scs_nil)) (scs_cons (sc_set (i := 3) sc_gone_to.nd rfl (by first | exact Or.inl rfl | exact Or.inr rfl) (se_sli (se_var 2) (so_none) (so_some (se_neg (se_int))))) (scs_one (sc_ret (se_compB [("k", 4)] rfl sc_gone_to.nd (si_range2 (by rfl) T.z_range (sa_cons (se_bin op_addAll o_add (se_ix hu1 (se_var 2) (se_neg (se_int))) (se_int)) (sa_cons (se_callB call_lenAll o_len (by rfl) T.z_len bt_len (sa_cons (se_ix hu1 (se_own (G .tree_at) hr (by rfl) T.g_tree_at T.f_tree_at.kp T.b_tree_at pas0 (sa_cons (se_var 0) (sa_cons (se_var 3) (sa_nil)))) (se_int)) (sa_nil))) (sa_nil)))) (blkOk_by (own := [("k", 4)]) (N := N_gone_to) (sc := defScope s_gone_to) (by decide +kernel)) (by intro _ _ _ _ _; exact sg_name sc_gone_to.nd rfl (by first | exact Or.inl rfl | exact Or.inr rfl)) (by intro _ _ _ _ _; exact sts_nil) (by intro _ _ _ _ _; exact se_bin op_addAll o_add (se_var 3) (se_tup (sa_cons (se_var 4) (sa_nil)))) rfl (by decide)))))))
theorem ok_starts_of (T : Tx K mg fa fd) {k j : Nat} (hj : 10 ≤ j) (G : ∀ f, FnOk P w K mg base CX0 j (fa f) (fd f) (nps f) (spD K mg (F k f) (ar f))) : FnOk P w K mg base CX0 (j + 1) (fa .starts_of) (fd .starts_of) p_starts_of (spD K mg (F (k + 1) .starts_of) 3) := by
  refine fn_def (c := c_starts_of (F k)) (m := 10) T.f_starts_of sc_starts_of (F_starts_of k) rfl rfl fun cdv A outer s H E hr => ?_
  have hu1 := hu_of hr
  have hu64 := hr.units
  have hu65 := PL.hu65 hr
  have hu230 := PL.hu230 hr hj
  exact scs_cons (sc_set (i := 3) sc_starts_of.nd rfl (by first | exact Or.inl rfl | exact Or.inr rfl) (se_newT)) (scs_cons (sc_for PassesOwn.never rfl (si_seq (se_var 2)) (sg_name sc_starts_of.nd rfl (by first | exact Or.inl rfl | exact Or.inr rfl)) (scs_one (sc_put hu1 (se_var 3) (se_var 4) (se_bl)))) (scs_cons (sc_for PassesOwn.never rfl (si_rev (by rfl) T.z_reversed (se_var 1)) (sg_tup rfl (sgs_cons (sg_name sc_starts_of.nd rfl (by first | exact Or.inl rfl | exact Or.inr rfl)) (sgs_cons (sg_name sc_starts_of.nd rfl (by first | exact Or.inl rfl | exact Or.inr rfl)) (sgs_nil))) rfl) (scs_cons (sc_set (i := 7) sc_starts_of.nd rfl (by first | exact Or.inl rfl | exact Or.inr rfl) (se_own (G .places_of) hr (by rfl) T.g_places_of T.f_places_of.kp T.b_places_of pas0 (sa_cons (se_var 0) (sa_cons (se_var 6) (sa_cons (se_var 2) (sa_nil)))))) (scs_cons (sc_set (i := 8) sc_starts_of.nd rfl (by first | exact Or.inl rfl | exact Or.inr rfl) (se_newT)) (scs_cons (sc_for PassesOwn.never rfl (si_seq (se_var 2)) (sg_name sc_starts_of.nd rfl (by first | exact Or.inl rfl | exact Or.inr rfl)) (scs_one (sc_for PassesOwn.never rfl (si_seq (se_own (G .gone_to) hr (by rfl) T.g_gone_to T.f_gone_to.kp T.b_gone_to pas0 (sa_cons (se_var 0) (sa_cons (se_var 5) (sa_cons (se_var 4) (sa_nil)))))) (sg_name sc_starts_of.nd rfl (by first | exact Or.inl rfl | exact Or.inr rfl)) (scs_one (sc_if (st_w (sw_and (st_cmp (op_inAll hu65) o_in (se_var 9) (se_var 3) (by rfl)) (sw_one_and (st_cmp (op_inAll hu65) o_in (se_var 9) (se_var 7) (by rfl))))) (scs_one (sc_put hu1 (se_var 8) (se_var 4) (se_bl))) (scs_nil)))))) (scs_one (sc_set (i := 3) sc_starts_of.nd rfl (by first | exact Or.inl rfl | exact Or.inr rfl) (se_var 8))))))) (scs_one (sc_ret (se_var 3)))))
theorem ok_places_of (T : Tx K mg fa fd) {k j : Nat} (hj : 10 ≤ j) (G : ∀ f, FnOk P w K mg base CX0 j (fa f) (fd f) (nps f) (spD K mg (F k f) (ar f))) : FnOk P w K mg base CX0 (j + 1) (fa .places_of) (fd .places_of) p_places_of (spD K mg (F (k + 1) .places_of) 3) := by
  refine fn_def (c := c_places_of (F k)) (m := 9) T.f_places_of sc_places_of (F_places_of k) rfl rfl fun cdv A outer s H E hr => ?_
  have hu1 := hu_of hr
  have hu64 := hr.units
  have hu65 := PL.hu65 hr
  have hu230 := PL.hu230 hr hj
  exact scs_cons (sc_set (i := 3) sc_places_of.nd rfl (by first | exact Or.inl rfl | exact Or.inr rfl) (se_ix hu1 (se_var 1) (se_int))) (scs_cons (sc_if (st_cmp (op_eqD hu64) o_eq (se_var 3) (se_str) (nomark _)) (scs_one (sc_ret (se_own (G .starts_of) hr (by rfl) T.g_starts_of T.f_starts_of.kp T.b_starts_of pas0 (sa_cons (se_var 0) (sa_cons (se_ix hu1 (se_var 1) (se_int)) (sa_cons (se_var 2) (sa_nil))))))) (scs_nil)) (scs_cons (sc_set (i := 4) sc_places_of.nd rfl (by first | exact Or.inl rfl | exact Or.inr rfl) (se_newT)) (scs_cons (sc_set (i := 5) sc_places_of.nd rfl (by first | exact Or.inl rfl | exact Or.inr rfl) (se_newT)) (scs_cons (sc_if (st_cmp (op_inAll hu65) o_in (se_var 3) (se_tup (sa_cons (se_str) (sa_cons (se_str) (sa_cons (se_str) (sa_nil))))) (by rfl)) (scs_one (sc_set (i := 4) sc_places_of.nd rfl (by first | exact Or.inl rfl | exact Or.inr rfl) (se_own (G .places_of) hr (by rfl) T.g_places_of T.f_places_of.kp T.b_places_of pas0 (sa_cons (se_var 0) (sa_cons (se_ix hu1 (se_var 1) (se_int)) (sa_cons (se_var 2) (sa_nil))))))) (scs_nil)) (scs_cons (sc_if (st_cmp (op_inAll hu65) o_in (se_var 3) (se_tup (sa_cons (se_str) (sa_cons (se_str) (sa_nil)))) (by rfl)) (scs_one (sc_set (i := 5) sc_places_of.nd rfl (by first | exact Or.inl rfl | exact Or.inr rfl) (se_own (G .places_of) hr (by rfl) T.g_places_of T.f_places_of.kp T.b_places_of pas0 (sa_cons (se_var 0) (sa_cons (se_ix hu1 (se_var 1) (se_int)) (sa_cons (se_var 2) (sa_nil))))))) (scs_nil)) (scs_cons (sc_set (i := 6) sc_places_of.nd rfl (by first | exact Or.inl rfl | exact Or.inr rfl) (se_newT)) (scs_cons (sc_for PassesOwn.never rfl (si_seq (se_var 2)) (sg_name sc_places_of.nd rfl (by first | exact Or.inl rfl | exact Or.inr rfl)) (scs_cons (sc_set (i := 8) sc_places_of.nd rfl (by first | exact Or.inl rfl | exact Or.inr rfl) (se_or (se_cmp (op_eqD hu64) o_eq (se_var 3) (se_str) (nomark _)) (se_one (se_and (se_cmp (op_eqD hu64) o_eq (se_var 3) (se_str) (nomark _)) (se_one (se_cmp (op_eqD hu64) o_eq (se_ix hu1 (se_own (G .tree_at) hr (by rfl) T.g_tree_at T.f_tree_at.kp T.b_tree_at pas0 (sa_cons (se_var 0) (sa_cons (se_var 7) (sa_nil)))) (se_int)) (se_ix hu1 (se_var 1) (se_int)) (nomark _))))))) (scs_cons (sc_set (i := 8) sc_places_of.nd rfl (by first | exact Or.inl rfl | exact Or.inr rfl) (se_or (se_var 8) (se_one (se_and (se_cmp (op_eqD hu64) o_eq (se_var 3) (se_str) (nomark _)) (se_one (se_cmp (op_ninAll hu65) o_nin (se_var 7) (se_var 4) (by rfl))))))) (scs_cons (sc_set (i := 8) sc_places_of.nd rfl (by first | exact Or.inl rfl | exact Or.inr rfl) (se_or (se_var 8) (se_one (se_and (se_cmp (op_eqD hu64) o_eq (se_var 3) (se_str) (nomark _)) (se_and (se_cmp (op_inAll hu65) o_in (se_var 7) (se_var 4) (by rfl)) (se_one (se_cmp (op_inAll hu65) o_in (se_var 7) (se_var 5) (by rfl)))))))) (scs_one (sc_if (st_w (sw_or (st_bl (se_var 8)) (sw_one_or (st_w (sw_and (st_cmp (op_eqD hu64) o_eq (se_var 3) (se_str) (nomark _)) (sw_one_and (st_w (sw_or (st_cmp (op_inAll hu65) o_in (se_var 7) (se_var 4) (by rfl)) (sw_one_or (st_cmp (op_inAll hu65) o_in (se_var 7) (se_var 5) (by rfl))))))))))) (scs_one (sc_put hu1 (se_var 6) (se_var 7) (se_bl))) (scs_nil))))))) (scs_one (sc_ret (se_var 6))))))))))
theorem ok_finds (T : Tx K mg fa fd) {k j : Nat} (hj : 10 ≤ j) (G : ∀ f, FnOk P w K mg base CX0 j (fa f) (fd f) (nps f) (spD K mg (F k f) (ar f))) : FnOk P w K mg base CX0 (j + 1) (fa .finds) (fd .finds) p_finds (spD K mg (F (k + 1) .finds) 2) := by
  refine fn_def (c := c_finds (F k)) (m := 10) T.f_finds sc_finds (F_finds k) rfl rfl fun cdv A outer s H E hr => ?_
  have hu1 := hu_of hr
  have hu64 := hr.units
  have hu65 := PL.hu65 hr
  have hu230 := PL.hu230 hr hj
  exact scs_cons (sc_set (i := 2) sc_finds.nd rfl (by first | exact Or.inl rfl | exact Or.inr rfl) (se_own (G .all_places) hr (by rfl) T.g_all_places T.f_all_places.kp T.b_all_places pas0 (sa_cons (se_var 0) (sa_nil)))) (scs_cons (sc_set (i := 3) sc_finds.nd rfl (by first | exact Or.inl rfl | exact Or.inr rfl) (se_disp1 hu1 (sps_cons (se_tup (sa_nil)) (se_bl) sps_nil))) (scs_cons (sc_for PassesOwn.never rfl (si_seq (se_var 1)) (sg_tup rfl (sgs_cons (sg_name sc_finds.nd rfl (by first | exact Or.inl rfl | exact Or.inr rfl)) (sgs_cons (sg_name sc_finds.nd rfl (by first | exact Or.inl rfl | exact Or.inr rfl)) (sgs_nil))) rfl) (scs_cons (sc_set (i := 6) sc_finds.nd rfl (by first | exact Or.inl rfl | exact Or.inr rfl) (se_own (G .places_of) hr (by rfl) T.g_places_of T.f_places_of.kp T.b_places_of pas0 (sa_cons (se_var 0) (sa_cons (se_var 5) (sa_cons (se_var 2) (sa_nil)))))) (scs_cons (sc_set (i := 7) sc_finds.nd rfl (by first | exact Or.inl rfl | exact Or.inr rfl) (se_newT)) (scs_cons (sc_forD PassesOwn.never rfl (se_var 3) (sg_name sc_finds.nd rfl (by first | exact Or.inl rfl | exact Or.inr rfl)) (scs_one (sc_for PassesOwn.never rfl (si_seq (se_own (G .gone_to) hr (by rfl) T.g_gone_to T.f_gone_to.kp T.b_gone_to pas0 (sa_cons (se_var 0) (sa_cons (se_var 4) (sa_cons (se_var 8) (sa_nil)))))) (sg_name sc_finds.nd rfl (by first | exact Or.inl rfl | exact Or.inr rfl)) (scs_one (sc_if (st_cmp (op_inAll hu65) o_in (se_var 9) (se_var 6) (by rfl)) (scs_one (sc_put hu1 (se_var 7) (se_var 9) (se_bl))) (scs_nil)))))) (scs_one (sc_set (i := 3) sc_finds.nd rfl (by first | exact Or.inl rfl | exact Or.inr rfl) (se_var 7))))))) (scs_one (sc_ret (se_callB (call_sortT rfl (PL.hu4 hr)) o_sortT (by rfl) T.z_sorted bt_sorted (sa_cons (se_var 3) (sa_nil)))))))
theorem ok_l_mix (T : Tx K mg fa fd) {k j : Nat} (hj : 10 ≤ j) (G : ∀ f, FnOk P w K mg base CX0 j (fa f) (fd f) (nps f) (spD K mg (F k f) (ar f))) : FnOk P w K mg base CX0 (j + 1) (fa .l_mix) (fd .l_mix) p_l_mix (spD K mg (F (k + 1) .l_mix) 2) := by
  refine fn_def (c := c_l_mix (F k)) (m := 5) T.f_l_mix sc_l_mix (F_l_mix k) rfl rfl fun cdv A outer s H E hr => ?_
  have hu1 := hu_of hr
  have hu64 := hr.units
  have hu65 := PL.hu65 hr
  have hu230 := PL.hu230 hr hj
  exact scs_cons (sc_set (i := 2) sc_l_mix.nd rfl (by first | exact Or.inl rfl | exact Or.inr rfl) (se_int)) (scs_cons (sc_if (st_cmp op_ge o_ge (se_var 0) (se_bin op_pow o_pow (se_int) (se_int)) (nomark _)) (scs_cons (sc_set (i := 2) sc_l_mix.nd rfl (by first | exact Or.inl rfl | exact Or.inr rfl) (se_var 0)) (scs_one (sc_for PassesOwn.never rfl (si_range1 (by rfl) T.z_range (sa_cons (se_bin op_mod o_mod (se_var 1) (se_int)) (sa_nil))) (sg_name sc_l_mix.nd rfl (by first | exact Or.inl rfl | exact Or.inr rfl)) (scs_one (sc_set (i := 2) sc_l_mix.nd rfl (by first | exact Or.inl rfl | exact Or.inr rfl) (se_bin op_fdivW o_fdiv (se_var 2) (se_int))))))) (scs_nil)) (scs_cons (sc_if (st_cmp op_gt o_gt (se_var 2) (se_int) (nomark _)) (scs_one (sc_ret (se_bin op_mod o_mod (se_var 2) (se_int)))) (scs_nil)) (scs_cons (sc_set (i := 3) sc_l_mix.nd rfl (by first | exact Or.inl rfl | exact Or.inr rfl) (se_bin op_addAll o_add (se_bin op_addAll o_add (se_bin op_mod o_mod (se_var 0) (se_int)) (se_bin op_mulAll o_mul (se_int) (se_var 1))) (se_int))) (scs_cons (sc_set (i := 3) sc_l_mix.nd rfl (by first | exact Or.inl rfl | exact Or.inr rfl) (se_bin op_mod o_mod (se_bin op_mulAll o_mul (se_var 3) (se_var 3)) (se_int))) (scs_one (sc_ret (se_bin op_fdivW o_fdiv (se_bin op_mod o_mod (se_bin op_mulAll o_mul (se_var 3) (se_bin op_addAll o_add (se_bin op_addAll o_add (se_var 3) (se_bin op_mulAll o_mul (se_int) (se_var 1))) (se_int))) (se_int)) (se_int))))))))
theorem ok_l_cells (T : Tx K mg fa fd) {k j : Nat} (hj : 10 ≤ j) (G : ∀ f, FnOk P w K mg base CX0 j (fa f) (fd f) (nps f) (spD K mg (F k f) (ar f))) : FnOk P w K mg base CX0 (j + 1) (fa .l_cells) (fd .l_cells) p_l_cells (spD K mg (F (k + 1) .l_cells) 2) := by
  refine fn_def (c := c_l_cells (F k)) (m := 4) T.f_l_cells sc_l_cells (F_l_cells k) rfl rfl fun cdv A outer s H E hr => ?_
  have hu1 := hu_of hr
  have hu64 := hr.units
  have hu65 := PL.hu65 hr
  have hu230 := PL.hu230 hr hj
  exact scs_cons (sc_setCompB (i := 2) [("_law_k", 3)] rfl sc_l_cells.nd rfl rfl (sw_true rfl rfl rfl (by decide +kernel)) (si_rangeS (by rfl) T.z_range (sa_cons (se_var 1) (sa_cons (se_callB (call_min2 rfl) o_min2 (by rfl) T.z_min bt_min (sa_cons (se_callB call_lenAll o_len (by rfl) T.z_len bt_len (sa_cons (se_var 0) (sa_nil))) (sa_cons (se_int) (sa_nil)))) (sa_cons (se_int) (sa_nil))))) (blkOk_by (own := [("_law_k", 3)]) (N := N_l_cells) (sc := defScope s_l_cells) (by decide +kernel)) (by intro _ _ _ _ _; exact sg_name sc_l_cells.nd rfl (by first | exact Or.inl rfl | exact Or.inr rfl)) (by intro _ _ _ _ _; exact sts_nil) (by intro _ _ _ _ _; exact se_ix hu1 (se_var 0) (se_var 3)) rfl (by decide)) (scs_one (sc_ret (se_bin op_addAll o_add (se_var 2) (se_compB [("_law_k", 3)] rfl sc_l_cells.nd (si_range1 (by rfl) T.z_range (sa_cons (se_bin op_sub o_sub (se_int) (se_callB call_lenAll o_len (by rfl) T.z_len bt_len (sa_cons (se_var 2) (sa_nil)))) (sa_nil))) (blkOk_by (own := [("_law_k", 3)]) (N := N_l_cells) (sc := defScope s_l_cells) (by decide +kernel)) (by intro _ _ _ _ _; exact sg_name sc_l_cells.nd rfl (by first | exact Or.inl rfl | exact Or.inr rfl)) (by intro _ _ _ _ _; exact sts_nil) (by intro _ _ _ _ _; exact se_own (G .l_mix) hr (by rfl) T.g_l_mix T.f_l_mix.kp T.b_l_mix pas0 (sa_cons (se_callB call_lenAll o_len (by rfl) T.z_len bt_len (sa_cons (se_var 0) (sa_nil))) (sa_cons (se_bin op_addAll o_add (se_bin op_addAll o_add (se_int) (se_var 1)) (se_var 3)) (sa_nil)))) rfl (by decide)))))
theorem ok_l_names (T : Tx K mg fa fd) {k j : Nat} (hj : 10 ≤ j) (G : ∀ f, FnOk P w K mg base CX0 j (fa f) (fd f) (nps f) (spD K mg (F k f) (ar f))) : FnOk P w K mg base CX0 (j + 1) (fa .l_names) (fd .l_names) p_l_names (spD K mg (F (k + 1) .l_names) 1) := by
  refine fn_def (c := c_l_names (F k)) (m := 8) T.f_l_names sc_l_names (F_l_names k) rfl rfl fun cdv A outer s H E hr => ?_
  have hu1 := hu_of hr
  have hu64 := hr.units
  have hu65 := PL.hu65 hr
  have hu230 := PL.hu230 hr hj
  exact scs_cons (sc_set (i := 1) sc_l_names.nd rfl (by first | exact Or.inl rfl | exact Or.inr rfl) (se_lst (sa_nil))) (scs_cons (sc_if (st_cmp (op_eqD hu64) o_eq (se_bin op_mod o_mod (se_own (G .l_mix) hr (by rfl) T.g_l_mix T.f_l_mix.kp T.b_l_mix pas0 (sa_cons (se_var 0) (sa_cons (se_int) (sa_nil)))) (se_int)) (se_int) (nomark _)) (scs_cons (sc_set (i := 5) sc_l_names.nd rfl (by first | exact Or.inl rfl | exact Or.inr rfl) (se_str)) (scs_cons (sc_for PassesOwn.never rfl (si_range1 (by rfl) T.z_range (sa_cons (se_int) (sa_nil))) (sg_name sc_l_names.nd rfl (by first | exact Or.inl rfl | exact Or.inr rfl)) (scs_one (sc_set (i := 5) sc_l_names.nd rfl (by first | exact Or.inl rfl | exact Or.inr rfl) (se_bin op_addAll o_add (se_var 5) (se_ix hu1 (se_str) (se_bin op_mod o_mod (se_own (G .l_mix) hr (by rfl) T.g_l_mix T.f_l_mix.kp T.b_l_mix pas0 (sa_cons (se_var 0) (sa_cons (se_bin op_addAll o_add (se_int) (se_var 6)) (sa_nil)))) (se_int))))))) (scs_one (sc_ret (se_compB [("_law_k", 4)] rfl sc_l_names.nd (si_range1 (by rfl) T.z_range (sa_cons (se_int) (sa_nil))) (blkOk_by (own := [("_law_k", 4)]) (N := N_l_names) (sc := defScope s_l_names) (by decide +kernel)) (by intro _ _ _ _ _; exact sg_name sc_l_names.nd rfl (by first | exact Or.inl rfl | exact Or.inr rfl)) (by intro _ _ _ _ _; exact sts_nil) (by intro _ _ _ _ _; exact se_sli (se_var 5) (so_none) (so_some (se_bin op_addAll o_add (se_bin op_addAll o_add (se_int) (se_bin op_mod o_mod (se_own (G .l_mix) hr (by rfl) T.g_l_mix T.f_l_mix.kp T.b_l_mix pas0 (sa_cons (se_var 0) (sa_cons (se_int) (sa_nil)))) (se_int))) (se_var 4)))) rfl (by decide)))))) (scs_nil)) (scs_cons (sc_set (i := 2) sc_l_names.nd rfl (by first | exact Or.inl rfl | exact Or.inr rfl) (se_bin op_addAll o_add (se_int) (se_bin op_mod o_mod (se_own (G .l_mix) hr (by rfl) T.g_l_mix T.f_l_mix.kp T.b_l_mix pas0 (sa_cons (se_var 0) (sa_cons (se_int) (sa_nil)))) (se_int)))) (scs_cons (sc_set (i := 3) sc_l_names.nd rfl (by first | exact Or.inl rfl | exact Or.inr rfl) (se_bin op_mod o_mod (se_own (G .l_mix) hr (by rfl) T.g_l_mix T.f_l_mix.kp T.b_l_mix pas0 (sa_cons (se_var 0) (sa_cons (se_int) (sa_nil)))) (se_var 2))) (scs_cons (sc_for PassesOwn.never rfl (si_range1 (by rfl) T.z_range (sa_cons (se_int) (sa_nil))) (sg_name sc_l_names.nd rfl (by first | exact Or.inl rfl | exact Or.inr rfl)) (scs_cons (sc_set (i := 7) sc_l_names.nd rfl (by first | exact Or.inl rfl | exact Or.inr rfl) (se_str)) (scs_cons (sc_for PassesOwn.never rfl (si_range1 (by rfl) T.z_range (sa_cons (se_var 2) (sa_nil))) (sg_name sc_l_names.nd rfl (by first | exact Or.inl rfl | exact Or.inr rfl)) (scs_one (sc_set (i := 7) sc_l_names.nd rfl (by first | exact Or.inl rfl | exact Or.inr rfl) (se_bin op_addAll o_add (se_var 7) (se_ix hu1 (se_str) (se_bin op_mod o_mod (se_bin op_addAll o_add (se_own (G .l_mix) hr (by rfl) T.g_l_mix T.f_l_mix.kp T.b_l_mix pas0 (sa_cons (se_var 0) (sa_cons (se_bin op_addAll o_add (se_int) (se_var 6)) (sa_nil)))) (se_bin op_mulAll o_mul (se_var 4) (se_callTy call_intAll o_int (by rfl) T.z_int bt_int (sa_cons (se_cmp (op_eqD hu64) o_eq (se_var 6) (se_var 3) (nomark _)) (sa_nil))))) (se_int))))))) (scs_cons (sc_if (st_cmp (op_inAll hu65) o_in (se_var 7) (se_lst (sa_cons (se_str) (sa_cons (se_str) (sa_cons (se_str) (sa_cons (se_str) (sa_cons (se_str) (sa_cons (se_str) (sa_cons (se_str) (sa_cons (se_str) (sa_cons (se_str) (sa_cons (se_str) (sa_cons (se_str) (sa_cons (se_str) (sa_nil)))))))))))))) (by rfl)) (scs_one (sc_set (i := 7) sc_l_names.nd rfl (by first | exact Or.inl rfl | exact Or.inr rfl) (se_bin op_addAll o_add (se_var 7) (se_str)))) (scs_nil)) (scs_one (sc_expr (se_meth PySem.F.plainAttrs_list PySem.F.slot_list_append PySem.F.type_list_append mt_append o_append (se_var 1) (sa_cons (se_var 7) (sa_nil))))))))) (scs_one (sc_ret (se_var 1)))))))
theorem ok_l_rows (T : Tx K mg fa fd) {k j : Nat} (hj : 10 ≤ j) (G : ∀ f, FnOk P w K mg base CX0 j (fa f) (fd f) (nps f) (spD K mg (F k f) (ar f))) : FnOk P w K mg base CX0 (j + 1) (fa .l_rows) (fd .l_rows) p_l_rows (spD K mg (F (k + 1) .l_rows) 3) := by
  refine fn_def (c := c_l_rows (F k)) (m := 8) T.f_l_rows sc_l_rows (F_l_rows k) rfl rfl fun cdv A outer s H E hr => ?_
  have hu1 := hu_of hr
  have hu64 := hr.units
  have hu65 := PL.hu65 hr
  have hu230 := PL.hu230 hr hj
  exact scs_cons (sc_set (i := 3) sc_l_rows.nd rfl (by first | exact Or.inl rfl | exact Or.inr rfl) (se_lst (sa_cons (se_tup (sa_cons (se_int) (sa_cons (se_ix hu1 (se_var 1) (se_bin op_mod o_mod (se_own (G .l_mix) hr (by rfl) T.g_l_mix T.f_l_mix.kp T.b_l_mix pas0 (sa_cons (se_ix hu1 (se_var 0) (se_int)) (sa_cons (se_int) (sa_nil)))) (se_int))) (sa_nil)))) (sa_nil)))) (scs_cons (sc_for PassesOwn.never rfl (si_seq (se_var 0)) (sg_name sc_l_rows.nd rfl (by first | exact Or.inl rfl | exact Or.inr rfl)) (scs_cons (sc_set (i := 5) sc_l_rows.nd rfl (by first | exact Or.inl rfl | exact Or.inr rfl) (se_int)) (scs_cons (sc_if (st_cmp (op_eqD hu64) o_eq (se_bin op_mod o_mod (se_own (G .l_mix) hr (by rfl) T.g_l_mix T.f_l_mix.kp T.b_l_mix pas0 (sa_cons (se_var 4) (sa_cons (se_int) (sa_nil)))) (se_int)) (se_int) (nomark _)) (scs_one (sc_set (i := 5) sc_l_rows.nd rfl (by first | exact Or.inl rfl | exact Or.inr rfl) (se_bin op_addAll o_add (se_int) (se_bin op_mod o_mod (se_own (G .l_mix) hr (by rfl) T.g_l_mix T.f_l_mix.kp T.b_l_mix pas0 (sa_cons (se_var 4) (sa_cons (se_int) (sa_nil)))) (se_int))))) (scs_nil)) (scs_one (sc_for PassesOwn.never rfl (si_range1 (by rfl) T.z_range (sa_cons (se_var 5) (sa_nil))) (sg_name sc_l_rows.nd rfl (by first | exact Or.inl rfl | exact Or.inr rfl)) (scs_cons (sc_set (i := 7) sc_l_rows.nd rfl (by first | exact Or.inl rfl | exact Or.inr rfl) (se_bin op_addAll o_add (se_int) (se_bin op_mod o_mod (se_own (G .l_mix) hr (by rfl) T.g_l_mix T.f_l_mix.kp T.b_l_mix pas0 (sa_cons (se_var 4) (sa_cons (se_int) (sa_nil)))) (se_bin op_addAll o_add (se_ix hu1 (se_ix hu1 (se_var 3) (se_neg (se_int))) (se_int)) (se_int))))) (scs_cons (sc_if (st_cmp op_gt o_gt (se_var 6) (se_int) (nomark _)) (scs_one (sc_set (i := 7) sc_l_rows.nd rfl (by first | exact Or.inl rfl | exact Or.inr rfl) (se_bin op_addAll o_add (se_ix hu1 (se_ix hu1 (se_var 3) (se_neg (se_int))) (se_int)) (se_bin op_mod o_mod (se_own (G .l_mix) hr (by rfl) T.g_l_mix T.f_l_mix.kp T.b_l_mix pas0 (sa_cons (se_var 4) (sa_cons (se_int) (sa_nil)))) (se_int))))) (scs_nil)) (scs_one (sc_if (st_cmp op_ltAll o_lt (se_callB call_lenAll o_len (by rfl) T.z_len bt_len (sa_cons (se_var 3) (sa_nil))) (se_var 2) (nomark _)) (scs_one (sc_expr (se_meth PySem.F.plainAttrs_list PySem.F.slot_list_append PySem.F.type_list_append mt_append o_append (se_var 3) (sa_cons (se_tup (sa_cons (se_var 7) (sa_cons (se_ix hu1 (se_var 1) (se_bin op_mod o_mod (se_own (G .l_mix) hr (by rfl) T.g_l_mix T.f_l_mix.kp T.b_l_mix pas0 (sa_cons (se_var 4) (sa_cons (se_bin op_addAll o_add (se_int) (se_var 6)) (sa_nil)))) (se_int))) (sa_nil)))) (sa_nil))))) (scs_nil)))))))))) (scs_one (sc_ret (se_var 3))))
theorem ok_l_trees (T : Tx K mg fa fd) {k j : Nat} (hj : 10 ≤ j) (G : ∀ f, FnOk P w K mg base CX0 j (fa f) (fd f) (nps f) (spD K mg (F k f) (ar f))) : FnOk P w K mg base CX0 (j + 1) (fa .l_trees) (fd .l_trees) p_l_trees (spD K mg (F (k + 1) .l_trees) 1) := by
  refine fn_def (c := c_l_trees (F k)) (m := 7) T.f_l_trees sc_l_trees (F_l_trees k) rfl rfl fun cdv A outer s H E hr => ?_
  have hu1 := hu_of hr
  have hu64 := hr.units
  have hu65 := PL.hu65 hr
  have hu230 := PL.hu230 hr hj
  exact scs_cons (sc_set (i := 1) sc_l_trees.nd rfl (by first | exact Or.inl rfl | exact Or.inr rfl) (se_newK)) (scs_cons (sc_set (i := 2) sc_l_trees.nd rfl (by first | exact Or.inl rfl | exact Or.inr rfl) (se_lst (sa_nil))) (scs_cons (sc_for PassesOwn.never rfl (si_rev (by rfl) T.z_reversed (se_var 0)) (sg_tup rfl (sgs_cons (sg_name sc_l_trees.nd rfl (by first | exact Or.inl rfl | exact Or.inr rfl)) (sgs_cons (sg_name sc_l_trees.nd rfl (by first | exact Or.inl rfl | exact Or.inr rfl)) (sgs_nil))) rfl) (scs_cons (sc_set (i := 5) sc_l_trees.nd rfl (by first | exact Or.inl rfl | exact Or.inr rfl) (se_get2 hu1 (se_var 1) (se_bin op_addAll o_add (se_var 3) (se_int)) (se_lst (sa_nil)) ⟨rfl, rfl, rfl, rfl⟩)) (scs_cons (sc_put hu1 (se_var 1) (se_bin op_addAll o_add (se_var 3) (se_int)) (se_lst (sa_nil))) (scs_cons (sc_set (i := 6) sc_l_trees.nd rfl (by first | exact Or.inl rfl | exact Or.inr rfl) (se_tup (sa_cons (se_var 4) (sa_cons (se_tupRev rfl (by rfl) T.z_tuple (by rfl) T.z_reversed (se_var 5)) (sa_nil))))) (scs_cons (sc_put hu1 (se_var 1) (se_var 3) (se_bin op_addAll o_add (se_get2 hu1 (se_var 1) (se_var 3) (se_lst (sa_nil)) ⟨rfl, rfl, rfl, rfl⟩) (se_lst (sa_cons (se_var 6) (sa_nil))))) (scs_one (sc_expr (se_meth PySem.F.plainAttrs_list PySem.F.slot_list_append PySem.F.type_list_append mt_append o_append (se_var 2) (sa_cons (se_var 6) (sa_nil)))))))))) (scs_one (sc_ret (se_listRev rfl (by rfl) T.z_list (by rfl) T.z_reversed (se_var 2))))))
theorem ok_l_spots (T : Tx K mg fa fd) {k j : Nat} (hj : 10 ≤ j) (G : ∀ f, FnOk P w K mg base CX0 j (fa f) (fd f) (nps f) (spD K mg (F k f) (ar f))) : FnOk P w K mg base CX0 (j + 1) (fa .l_spots) (fd .l_spots) p_l_spots (spD K mg (F (k + 1) .l_spots) 1) := by
  refine fn_def (c := c_l_spots (F k)) (m := 5) T.f_l_spots sc_l_spots (F_l_spots k) rfl rfl fun cdv A outer s H E hr => ?_
  have hu1 := hu_of hr
  have hu64 := hr.units
  have hu65 := PL.hu65 hr
  have hu230 := PL.hu230 hr hj
  exact scs_cons (sc_set (i := 1) sc_l_spots.nd rfl (by first | exact Or.inl rfl | exact Or.inr rfl) (se_lst (sa_cons (se_tup (sa_nil)) (sa_nil)))) (scs_cons (sc_for PassesOwn.never rfl (si_seq (se_sli (se_var 0) (so_some (se_int)) (so_none))) (sg_tup rfl (sgs_cons (sg_name sc_l_spots.nd rfl (by first | exact Or.inl rfl | exact Or.inr rfl)) (sgs_cons (sg_name sc_l_spots.nd rfl (by first | exact Or.inl rfl | exact Or.inr rfl)) (sgs_nil))) rfl) (scs_cons (sc_set (i := 4) sc_l_spots.nd rfl (by first | exact Or.inl rfl | exact Or.inr rfl) (se_ix hu1 (se_var 1) (se_neg (se_int)))) (scs_one (sc_if (st_cmp op_gt o_gt (se_var 2) (se_callB call_lenAll o_len (by rfl) T.z_len bt_len (sa_cons (se_var 4) (sa_nil))) (nomark _)) (scs_one (sc_expr (se_meth PySem.F.plainAttrs_list PySem.F.slot_list_append PySem.F.type_list_append mt_append o_append (se_var 1) (sa_cons (se_bin op_addAll o_add (se_var 4) (se_tup (sa_cons (se_int) (sa_nil)))) (sa_nil))))) (scs_one (sc_expr (se_meth PySem.F.plainAttrs_list PySem.F.slot_list_append PySem.F.type_list_append mt_append o_append (se_var 1) (sa_cons (se_bin op_addAll o_add (se_sli (se_var 4) (so_none) (so_some (se_bin op_sub o_sub (se_var 2) (se_int)))) (se_tup (sa_cons (se_bin op_addAll o_add (se_ix hu1 (se_var 4) (se_bin op_sub o_sub (se_var 2) (se_int))) (se_int)) (sa_nil)))) (sa_nil))))))))) (scs_one (sc_ret (se_var 1))))
theorem ok_l_reach (T : Tx K mg fa fd) {k j : Nat} (hj : 10 ≤ j) (G : ∀ f, FnOk P w K mg base CX0 j (fa f) (fd f) (nps f) (spD K mg (F k f) (ar f))) : FnOk P w K mg base CX0 (j + 1) (fa .l_reach) (fd .l_reach) p_l_reach (spD K mg (F (k + 1) .l_reach) 1) := by
  refine fn_def (c := c_l_reach (F k)) (m := 8) T.f_l_reach sc_l_reach (F_l_reach k) rfl rfl fun cdv A outer s H E hr => ?_
  have hu1 := hu_of hr
  have hu64 := hr.units
  have hu65 := PL.hu65 hr
  have hu230 := PL.hu230 hr hj
  exact scs_cons (sc_set (i := 1) sc_l_reach.nd rfl (by first | exact Or.inl rfl | exact Or.inr rfl) (se_disp (sps_cons (se_str) (se_lst (sa_nil)) (sps_cons (se_str) (se_lst (sa_nil)) (sps_cons (se_str) (se_lst (sa_nil)) (sps_nil)))) rfl rfl (List.cons_ne_nil _ _) (Nat.le_of_ble_eq_true rfl))) (scs_cons (sc_for PassesOwn.never rfl (si_enumA (by rfl) T.z_enumerate (sa_cons (se_var 0) (sa_nil))) (sg_tup rfl (sgs_cons (sg_name sc_l_reach.nd rfl (by first | exact Or.inl rfl | exact Or.inr rfl)) (sgs_cons (sg_name sc_l_reach.nd rfl (by first | exact Or.inl rfl | exact Or.inr rfl)) (sgs_nil))) rfl) (scs_cons (sc_set (i := 4) sc_l_reach.nd rfl (by first | exact Or.inl rfl | exact Or.inr rfl) (se_disp (sps_cons (se_str) (se_int) (sps_cons (se_str) (se_int) (sps_cons (se_str) (se_int) (sps_nil)))) rfl rfl (List.cons_ne_nil _ _) (Nat.le_of_ble_eq_true rfl))) (scs_cons (sc_set (i := 5) sc_l_reach.nd rfl (by first | exact Or.inl rfl | exact Or.inr rfl) (se_bl)) (scs_cons (sc_for PassesOwn.never rfl (si_range2 (by rfl) T.z_range (sa_cons (se_bin op_addAll o_add (se_var 2) (se_int)) (sa_cons (se_callB call_lenAll o_len (by rfl) T.z_len bt_len (sa_cons (se_var 0) (sa_nil))) (sa_nil)))) (sg_name sc_l_reach.nd rfl (by first | exact Or.inl rfl | exact Or.inr rfl)) (scs_cons (sc_if (st_cmp op_ltAll o_lt (se_ix hu1 (se_ix hu1 (se_var 0) (se_var 6)) (se_int)) (se_ix hu1 (se_var 3) (se_int)) (nomark _)) (scs_one (sc_break)) (scs_nil)) (scs_one (sc_if (st_cmp (op_eqD hu64) o_eq (se_ix hu1 (se_ix hu1 (se_var 0) (se_var 6)) (se_int)) (se_ix hu1 (se_var 3) (se_int)) (nomark _)) (scs_cons (sc_set (i := 5) sc_l_reach.nd rfl (by first | exact Or.inl rfl | exact Or.inr rfl) (se_bl)) (scs_one (sc_put hu1 (se_var 4) (se_str) (se_bin op_or o_or (se_ix hu1 (se_var 4) (se_str)) (se_bin op_shlW o_shl (se_int) (se_var 6)))))) (scs_one (sc_if (st_bl (se_var 5)) (scs_cons (sc_put hu1 (se_var 4) (se_str) (se_bin op_or o_or (se_ix hu1 (se_var 4) (se_str)) (se_bin op_shlW o_shl (se_int) (se_var 6)))) (scs_one (sc_if (st_cmp (op_eqD hu64) o_eq (se_ix hu1 (se_ix hu1 (se_var 0) (se_var 6)) (se_int)) (se_bin op_addAll o_add (se_ix hu1 (se_var 3) (se_int)) (se_int)) (nomark _)) (scs_one (sc_put hu1 (se_var 4) (se_str) (se_bin op_or o_or (se_ix hu1 (se_var 4) (se_str)) (se_bin op_shlW o_shl (se_int) (se_var 6))))) (scs_nil)))) (scs_nil))))))) (scs_one (sc_forD PassesOwn.never rfl (se_var 1) (sg_name sc_l_reach.nd rfl (by first | exact Or.inl rfl | exact Or.inr rfl)) (scs_one (sc_expr (se_meth PySem.F.plainAttrs_list PySem.F.slot_list_append PySem.F.type_list_append mt_append o_append (se_ix hu1 (se_var 1) (se_var 7)) (sa_cons (se_ix hu1 (se_var 4) (se_var 7)) (sa_nil))))))))))) (scs_one (sc_ret (se_var 1))))
theorem ok_l_step (T : Tx K mg fa fd) {k j : Nat} (hj : 10 ≤ j) (G : ∀ f, FnOk P w K mg base CX0 j (fa f) (fd f) (nps f) (spD K mg (F k f) (ar f))) : FnOk P w K mg base CX0 (j + 1) (fa .l_step) (fd .l_step) p_l_step (spD K mg (F (k + 1) .l_step) 3) := by
  refine fn_def (c := c_l_step (F k)) (m := 8) T.f_l_step sc_l_step (F_l_step k) rfl rfl fun cdv A outer s H E hr => ?_
  have hu1 := hu_of hr
  have hu64 := hr.units
  have hu65 := PL.hu65 hr
  have hu230 := PL.hu230 hr hj
  exact scs_cons (sc_set (i := 3) sc_l_step.nd rfl (by first | exact Or.inl rfl | exact Or.inr rfl) (se_ix hu1 (se_lst (sa_cons (se_str) (sa_cons (se_str) (sa_cons (se_str) (sa_cons (se_str) (sa_cons (se_str) (sa_nil))))))) (se_bin op_mod o_mod (se_own (G .l_mix) hr (by rfl) T.g_l_mix T.f_l_mix.kp T.b_l_mix pas0 (sa_cons (se_var 0) (sa_cons (se_int) (sa_nil)))) (se_int)))) (scs_cons (sc_if (st_cmp (op_eqD hu64) o_eq (se_bin op_mod o_mod (se_own (G .l_mix) hr (by rfl) T.g_l_mix T.f_l_mix.kp T.b_l_mix pas0 (sa_cons (se_var 0) (sa_cons (se_int) (sa_nil)))) (se_int)) (se_int) (nomark _)) (scs_one (sc_ret (se_tup (sa_cons (se_tup (sa_cons (se_var 3) (sa_cons (se_tup (sa_cons (se_str) (sa_nil))) (sa_nil)))) (sa_cons (se_bin op_sub o_sub (se_bin op_shlW o_shl (se_int) (se_callB call_lenAll o_len (by rfl) T.z_len bt_len (sa_cons (se_var 2) (sa_nil)))) (se_int)) (sa_nil)))))) (scs_nil)) (scs_cons (sc_set (i := 4) sc_l_step.nd rfl (by first | exact Or.inl rfl | exact Or.inr rfl) (se_ix hu1 (se_var 1) (se_bin op_mod o_mod (se_own (G .l_mix) hr (by rfl) T.g_l_mix T.f_l_mix.kp T.b_l_mix pas0 (sa_cons (se_var 0) (sa_cons (se_int) (sa_nil)))) (se_int)))) (scs_cons (sc_set (i := 5) sc_l_step.nd rfl (by first | exact Or.inl rfl | exact Or.inr rfl) (se_int)) (scs_cons (sc_for PassesOwn.never rfl (si_enumA (by rfl) T.z_enumerate (sa_cons (se_var 2) (sa_nil))) (sg_tup rfl (sgs_cons (sg_name sc_l_step.nd rfl (by first | exact Or.inl rfl | exact Or.inr rfl)) (sgs_cons (sg_name sc_l_step.nd rfl (by first | exact Or.inl rfl | exact Or.inr rfl)) (sgs_nil))) rfl) (scs_one (sc_set (i := 5) sc_l_step.nd rfl (by first | exact Or.inl rfl | exact Or.inr rfl) (se_bin op_or o_or (se_var 5) (se_bin op_shlW o_shl (se_callTy call_intAll o_int (by rfl) T.z_int bt_int (sa_cons (se_cmp (op_eqD hu64) o_eq (se_ix hu1 (se_var 7) (se_int)) (se_var 4) (nomark _)) (sa_nil))) (se_var 6)))))) (scs_one (sc_ret (se_tup (sa_cons (se_tup (sa_cons (se_var 3) (sa_cons (se_tup (sa_cons (se_str) (sa_cons (se_var 4) (sa_nil)))) (sa_nil)))) (sa_cons (se_var 5) (sa_nil))))))))))
theorem ok_l_gone_to (T : Tx K mg fa fd) {k j : Nat} (hj : 10 ≤ j) (G : ∀ f, FnOk P w K mg base CX0 j (fa f) (fd f) (nps f) (spD K mg (F k f) (ar f))) : FnOk P w K mg base CX0 (j + 1) (fa .l_gone_to) (fd .l_gone_to) p_l_gone_to (spD K mg (F (k + 1) .l_gone_to) 2) := by
  refine fn_def (c := c_l_gone_to (F k)) (m := 5) T.f_l_gone_to sc_l_gone_to (F_l_gone_to k) rfl rfl fun cdv A outer s H E hr => ?_
  have hu1 := hu_of hr
  have hu64 := hr.units
  have hu65 := PL.hu65 hr
  have hu230 := PL.hu230 hr hj
  exact scs_cons (sc_set (i := 2) sc_l_gone_to.nd rfl (by first | exact Or.inl rfl | exact Or.inr rfl) (se_int)) (scs_cons (sc_for PassesOwn.never rfl (si_enumA (by rfl) T.z_enumerate (sa_cons (se_var 0) (sa_nil))) (sg_tup rfl (sgs_cons (sg_name sc_l_gone_to.nd rfl (by first | exact Or.inl rfl | exact Or.inr rfl)) (sgs_cons (sg_name sc_l_gone_to.nd rfl (by first | exact Or.inl rfl | exact Or.inr rfl)) (sgs_nil))) rfl) (scs_one (sc_if (st_cmp (op_eqD hu64) o_eq (se_bin op_and o_and (se_bin op_shr o_shr (se_var 1) (se_var 3)) (se_int)) (se_int) (nomark _)) (scs_one (sc_set (i := 2) sc_l_gone_to.nd rfl (by first | exact Or.inl rfl | exact Or.inr rfl) (se_bin op_or o_or (se_var 2) (se_var 4)))) (scs_nil)))) (scs_one (sc_ret (se_var 2))))
theorem ok_l_most (T : Tx K mg fa fd) {k j : Nat} (hj : 10 ≤ j) (G : ∀ f, FnOk P w K mg base CX0 j (fa f) (fd f) (nps f) (spD K mg (F k f) (ar f))) : FnOk P w K mg base CX0 (j + 1) (fa .l_most) (fd .l_most) p_l_most (spD K mg (F (k + 1) .l_most) 2) := by
  refine fn_def (c := c_l_most (F k)) (m := 3) T.f_l_most sc_l_most (F_l_most k) rfl rfl fun cdv A outer s H E hr => ?_
  have hu1 := hu_of hr
  have hu64 := hr.units
  have hu65 := PL.hu65 hr
  have hu230 := PL.hu230 hr hj
  exact scs_cons (sc_set (i := 2) sc_l_most.nd rfl (by first | exact Or.inl rfl | exact Or.inr rfl) (se_own (G .l_mix) hr (by rfl) T.g_l_mix T.f_l_mix.kp T.b_l_mix pas0 (sa_cons (se_callB (cr_sum rfl) o_sum (by rfl) T.z_sum bt_sum (sa_cons (se_sli (se_var 0) (so_none) (so_some (se_int))) (sa_nil))) (sa_cons (se_int) (sa_nil))))) (scs_cons (sc_if (st_cmp (op_eqD hu64) o_eq (se_bin op_mod o_mod (se_var 2) (se_int)) (se_int) (nomark _)) (scs_one (sc_ret (se_bin op_addAll o_add (se_int) (se_bin op_mod o_mod (se_bin op_fdivW o_fdiv (se_var 2) (se_int)) (se_int))))) (scs_nil)) (scs_one (sc_ret (se_var 1))))
theorem ok_l_law (T : Tx K mg fa fd) {k j : Nat} (hj : 10 ≤ j) (G : ∀ f, FnOk P w K mg base CX0 j (fa f) (fd f) (nps f) (spD K mg (F k f) (ar f))) : FnOk P w K mg base CX0 (j + 1) (fa .l_law) (fd .l_law) p_l_law (spD K mg (F (k + 1) .l_law) 1) := by
  refine fn_def (c := c_l_law (F k)) (m := 17) T.f_l_law sc_l_law (F_l_law k) rfl rfl fun cdv A outer s H E hr => ?_
  have hu1 := hu_of hr
  have hu64 := hr.units
  have hu65 := PL.hu65 hr
  have hu230 := PL.hu230 hr hj
  exact scs_cons (sc_set (i := 1) sc_l_law.nd rfl (by first | exact Or.inl rfl | exact Or.inr rfl) (se_own (G .l_names) hr (by rfl) T.g_l_names T.f_l_names.kp T.b_l_names pas0 (sa_cons (se_callB (cr_sum rfl) o_sum (by rfl) T.z_sum bt_sum (sa_cons (se_sli (se_var 0) (so_none) (so_some (se_int))) (sa_nil))) (sa_nil)))) (scs_cons (sc_set (i := 2) sc_l_law.nd rfl (by first | exact Or.inl rfl | exact Or.inr rfl) (se_own (G .l_rows) hr (by rfl) T.g_l_rows T.f_l_rows.kp T.b_l_rows pas0 (sa_cons (se_own (G .l_cells) hr (by rfl) T.g_l_cells T.f_l_cells.kp T.b_l_cells pas0 (sa_cons (se_var 0) (sa_cons (se_int) (sa_nil)))) (sa_cons (se_var 1) (sa_cons (se_own (G .l_most) hr (by rfl) T.g_l_most T.f_l_most.kp T.b_l_most pas0 (sa_cons (se_var 0) (sa_cons (se_int) (sa_nil)))) (sa_nil)))))) (scs_cons (sc_set (i := 3) sc_l_law.nd rfl (by first | exact Or.inl rfl | exact Or.inr rfl) (se_own (G .l_reach) hr (by rfl) T.g_l_reach T.f_l_reach.kp T.b_l_reach pas0 (sa_cons (se_var 2) (sa_nil)))) (scs_cons (sc_set (i := 4) sc_l_law.nd rfl (by first | exact Or.inl rfl | exact Or.inr rfl) (se_own (G .l_spots) hr (by rfl) T.g_l_spots T.f_l_spots.kp T.b_l_spots pas0 (sa_cons (se_var 2) (sa_nil)))) (scs_cons (sc_set (i := 5) sc_l_law.nd rfl (by first | exact Or.inl rfl | exact Or.inr rfl) (se_ix hu1 (se_own (G .l_trees) hr (by rfl) T.g_l_trees T.f_l_trees.kp T.b_l_trees pas0 (sa_cons (se_var 2) (sa_nil))) (se_int))) (scs_cons (sc_setCompB (i := 6) [("_law_cell", 14)] rfl sc_l_law.nd rfl rfl (sw_true rfl rfl rfl (by decide +kernel)) (si_seq (se_own (G .l_cells) hr (by rfl) T.g_l_cells T.f_l_cells.kp T.b_l_cells pas0 (sa_cons (se_var 0) (sa_cons (se_int) (sa_nil))))) (blkOk_by (own := [("_law_cell", 14)]) (N := N_l_law) (sc := defScope s_l_law) (by decide +kernel)) (by intro _ _ _ _ _; exact sg_name sc_l_law.nd rfl (by first | exact Or.inl rfl | exact Or.inr rfl)) (by intro _ _ _ _ _; exact sts_nil) (by intro _ _ _ _ _; exact se_own (G .l_step) hr (by rfl) T.g_l_step T.f_l_step.kp T.b_l_step pas0 (sa_cons (se_var 14) (sa_cons (se_var 1) (sa_cons (se_var 2) (sa_nil))))) rfl (by decide)) (scs_cons (sc_set (i := 7) sc_l_law.nd rfl (by first | exact Or.inl rfl | exact Or.inr rfl) (se_bin op_addAll o_add (se_int) (se_bin op_mod o_mod (se_own (G .l_mix) hr (by rfl) T.g_l_mix T.f_l_mix.kp T.b_l_mix pas0 (sa_cons (se_callB (cr_sum rfl) o_sum (by rfl) T.z_sum bt_sum (sa_cons (se_sli (se_var 0) (so_some (se_int)) (so_some (se_int))) (sa_nil))) (sa_cons (se_int) (sa_nil)))) (se_int)))) (scs_cons (sc_for PassesOwn.never rfl (si_rangeU (by rfl) T.z_range (sa_cons (se_int) (sa_cons (se_callB call_lenAll o_len (by rfl) T.z_len bt_len (sa_cons (se_var 6) (sa_nil))) (sa_cons (se_var 7) (sa_nil))))) (sg_name sc_l_law.nd rfl (by first | exact Or.inl rfl | exact Or.inr rfl)) (scs_cons (sc_setCompB (i := 9) [("_law_step_here", 11)] rfl sc_l_law.nd rfl rfl (sw_true rfl rfl rfl (by decide +kernel)) (si_seq (se_sli (se_var 6) (so_some (se_var 8)) (so_some (se_bin op_addAll o_add (se_var 8) (se_var 7))))) (blkOk_by (own := [("_law_step_here", 11)]) (N := N_l_law) (sc := defScope s_l_law) (by decide +kernel)) (by intro _ _ _ _ _; exact sg_name sc_l_law.nd rfl (by first | exact Or.inl rfl | exact Or.inr rfl)) (by intro _ _ _ _ _; exact sts_nil) (by intro _ _ _ _ _; exact se_ix hu1 (se_var 11) (se_int)) rfl (by decide)) (scs_cons (sc_set (i := 10) sc_l_law.nd rfl (by first | exact Or.inl rfl | exact Or.inr rfl) (se_int)) (scs_cons (sc_for PassesOwn.never rfl (si_seq (se_sli (se_var 6) (so_some (se_var 8)) (so_some (se_bin op_addAll o_add (se_var 8) (se_var 7))))) (sg_name sc_l_law.nd rfl (by first | exact Or.inl rfl | exact Or.inr rfl)) (scs_one (sc_set (i := 10) sc_l_law.nd rfl (by first | exact Or.inl rfl | exact Or.inr rfl) (se_bin op_and o_and (se_own (G .l_gone_to) hr (by rfl) T.g_l_gone_to T.f_l_gone_to.kp T.b_l_gone_to pas0 (sa_cons (se_ix hu1 (se_var 3) (se_ix hu1 (se_ix hu1 (se_var 11) (se_int)) (se_int))) (sa_cons (se_var 10) (sa_nil)))) (se_ix hu1 (se_var 11) (se_int)))))) (scs_cons (sc_setCompB (i := 12) [("_law_j", 15), ("_law_place", 16)] rfl sc_l_law.nd rfl rfl (sw_true rfl rfl rfl (by decide +kernel)) (si_enumA (by rfl) T.z_enumerate (sa_cons (se_var 4) (sa_nil))) (blkOk_by (own := [("_law_j", 15), ("_law_place", 16)]) (N := N_l_law) (sc := defScope s_l_law) (by decide +kernel)) (by intro _ _ _ _ _; exact sg_tup rfl (sgs_cons (sg_name sc_l_law.nd rfl (by first | exact Or.inl rfl | exact Or.inr rfl)) (sgs_cons (sg_name sc_l_law.nd rfl (by first | exact Or.inl rfl | exact Or.inr rfl)) (sgs_nil))) rfl) (by intro _ _ _ _ _; exact sts_one (st_cmp (op_eqD hu64) o_eq (se_bin op_and o_and (se_bin op_shr o_shr (se_var 10) (se_var 15)) (se_int)) (se_int) (nomark _))) (by intro _ _ _ _ _; exact se_var 16) rfl (by decide)) (scs_cons (sc_set (i := 13) sc_l_law.nd rfl (by first | exact Or.inl rfl | exact Or.inr rfl) (se_own (G .finds) hr (by rfl) T.g_finds T.f_finds.kp T.b_finds pas0 (sa_cons (se_var 5) (sa_cons (se_callTy call_tuple_of o_tuple (by rfl) T.z_tuple bt_tuple (sa_cons (se_var 9) (sa_nil))) (sa_nil))))) (scs_cons (sc_if (st_w (sw_or (st_not (st_bl (se_isi (by rfl) T.z_isinstance (by rfl) T.z_list bt_list (se_var 13)))) (sw_one_or (st_cmp (op_neD hu64) o_ne (se_var 13) (se_var 12) (nomark _))))) (scs_one (sc_ret (se_bl))) (scs_nil)) (scs_cons (sc_expr (se_meth PySem.F.plainAttrs_list PySem.F.slot_list_append PySem.F.type_list_append mt_append o_append (se_var 13) (sa_cons (se_tup (sa_nil)) (sa_nil)))) (scs_one (sc_if (st_w (sw_and (st_cmp (op_eqD hu64) o_eq (se_var 8) (se_int) (nomark _)) (sw_one_and (st_cmp (op_neD hu64) o_ne (se_own (G .finds) hr (by rfl) T.g_finds T.f_finds.kp T.b_finds pas0 (sa_cons (se_var 5) (sa_cons (se_callTy call_tuple_of o_tuple (by rfl) T.z_tuple bt_tuple (sa_cons (se_var 9) (sa_nil))) (sa_nil)))) (se_var 12) (nomark _))))) (scs_one (sc_ret (se_bl))) (scs_nil))))))))))) (scs_one (sc_ret (se_and (se_cmp (op_eqD hu64) o_eq (se_own (G .finds) hr (by rfl) T.g_finds T.f_finds.kp T.b_finds pas0 (sa_cons (se_var 5) (sa_cons (se_tup (sa_cons (se_tup (sa_cons (se_str) (sa_cons (se_tup (sa_cons (se_str) (sa_nil))) (sa_nil)))) (sa_nil))) (sa_nil)))) (se_lst (sa_nil)) (nomark _)) (se_one (se_cmp (op_eqW hu230) o_eqW (se_var 5) (se_ix hu1 (se_own (G .l_trees) hr (by rfl) T.g_l_trees T.f_l_trees.kp T.b_l_trees pas0 (sa_cons (se_var 2) (sa_nil))) (se_int)) (nomark _)))))))))))))
theorem ok_all (T : Tx K mg fa fd) : ∀ (k : Nat) (f : Fn), FnOk P w K mg base CX0 (k + 10) (fa f) (fd f) (nps f) (spD K mg (F k f) (ar f))
  | 0, f => fn_zero (by cases f <;> rfl)
  | k + 1, f => by
    have G := ok_all T k
    have hk : 10 ≤ k + 10 := by omega
    rw [show k + 1 + 10 = k + 10 + 1 from by omega]
    cases f
    · exact ok_all_places T hk G
    · exact ok_tree_at T hk G
    · exact ok_gone_to T hk G
    · exact ok_starts_of T hk G
    · exact ok_places_of T hk G
    · exact ok_finds T hk G
    · exact ok_l_mix T hk G
    · exact ok_l_cells T hk G
    · exact ok_l_names T hk G
    · exact ok_l_rows T hk G
    · exact ok_l_trees T hk G
    · exact ok_l_spots T hk G
    · exact ok_l_reach T hk G
    · exact ok_l_step T hk G
    · exact ok_l_gone_to T hk G
    · exact ok_l_most T hk G
    · exact ok_l_law T hk G
end
end Wk

namespace Wk
open PySem PL
/-! the laws' cells -/
def dg (c : Int) : Nat → Int
  | 0 => c
  | n + 1 => dg c n / 840
def mxN (c k : Int) : Int := (c % 1000000007 + 7919 * k + 13) * (c % 1000000007 + 7919 * k + 13) % 998244353
def mx (c k : Int) : Int := if 1000000000 ≤ c ∧ 0 < dg c (k % 46).toNat then dg c (k % 46).toNat % 840 else mxN c k * (mxN c k + 16807 * k + 1) % 1000000007 / 3
theorem mx_pos (c k : Int) : 0 ≤ mx c k := by
  unfold mx
  split
  · exact Int.emod_nonneg _ (by omega)
  · exact Int.ediv_nonneg (Int.emod_nonneg _ (by omega)) (by omega)
theorem mx_lt (c k : Int) : mx c k < 400000000 := by
  unfold mx
  split
  · have := Int.emod_lt_of_pos (dg c (k % 46).toNat) (b := 840) (by omega); omega
  · have := Int.emod_lt_of_pos (mxN c k * (mxN c k + 16807 * k + 1)) (b := 1000000007) (by omega); omega
theorem mix_run {f : Nat} {c k : Int} {S : Sto} (k0 : 0 ≤ k) (k1 : k < 100000) : F (f + 1) .l_mix [.int c, .int k] S = .ok (.int (mx c k)) S := by
  rw [F_l_mix]
  refine runF_rt (ρ := [some (.int c), some (.int k), none, none, none]) rfl rfl ?_
  have hp : powD (.int 10) (.int 9) S = .ok (.int 1000000000) S := by
    simp only [powD]
    rw [if_pos (show L2.CPow 10 9 from ⟨by omega, by omega, by omega⟩)]; rfl
  have m0 := Int.emod_nonneg k (b := 46) (by omega)
  have m1 := Int.emod_lt_of_pos k (b := 46) (by omega)
  have tail : ∀ (g : Int) (v4 : Option Dv), (1000000000 ≤ c ∧ 0 < dg c (k % 46).toNat ↔ 0 < g) → (0 < g → g = dg c (k % 46).toNat) → cSeq (cIf (cBl (eBin gtD (eVar 2) (eCon (.int 0)))) (cRet (eBin modD (eVar 2) (eCon (.int 840)))) (cNil)) (cSeq (cSet 3 (eBin addD (eBin addD (eBin modD (eVar 0) (eCon (.int 1000000007))) (eBin mulD (eCon (.int 7919)) (eVar 1))) (eCon (.int 13)))) (cSeq (cSet 3 (eBin modD (eBin mulD (eVar 3) (eVar 3)) (eCon (.int 998244353)))) (cRet (eBin fdivD (eBin modD (eBin mulD (eVar 3) (eBin addD (eBin addD (eVar 3) (eBin mulD (eCon (.int 16807)) (eVar 1))) (eCon (.int 1)))) (eCon (.int 1000000007))) (eCon (.int 3))))))
      [some (.int c), some (.int k), some (.int g), none, v4] S = .fl (.rt (.int (mx c k))) S := fun g v4 h1 h2 => by
    by_cases q : 0 < g
    · have e : mx c k = g % 840 := by unfold mx; rw [if_pos (h1.mpr q), h2 q]
      rw [e]
      exact seq_rt ((if_t (S' := S) (by simp only [ev_var, ev_con, ev_bin, ev_un, ev_anil, ev_acons, ev_call, ev_tup, ev_lst, ev_not, ev_and, ev_or, ev_if, ev_cbl, ev_btrue, ev_cand, ev_cor, ev_cnot, ev_sli, ev_onone, ev_osome, ev_chain, ev_meth, ev_get2, ev_newK, ev_newT, ev_own, ev_nil, ev_seq, ev_expr, ev_set, ev_ret, ev_retN, ev_cif, ev_brk, ev_ct, ev_asg, ev_put, ev_aug, ev_for, ev_comp, ev_newL, ev_iseq, ev_irange, ev_ienum, ev_yes, Out.bind_ok, Out.bindN_ok, bindS_ok, Tg.set, Tg.sets, List.getElem?_cons_zero, List.getElem?_cons_succ, List.set_cons_zero, List.set_cons_succ, wipeE, List.length_cons, List.length_nil, Nat.reduceAdd, Nat.reduceLeDiff, Nat.reduceEqDiff, ↓reduceIte, Bool.false_eq_true, decide_eq_true_eq, add_int, sub_int, lt_int, gt_int, le_int, ge_int, neg_int, and_int, or_int, xor_int, max2_int, min2_int, mod_pos, fdiv_sm, mul_sm, mul_smr, Int.reduceLT, Int.reduceNeg, int_bl, int_int, sli_tup, q, decide_true])).trans (ret_of (by simp only [ev_var, ev_con, ev_bin, ev_un, ev_anil, ev_acons, ev_call, ev_tup, ev_lst, ev_not, ev_and, ev_or, ev_if, ev_cbl, ev_btrue, ev_cand, ev_cor, ev_cnot, ev_sli, ev_onone, ev_osome, ev_chain, ev_meth, ev_get2, ev_newK, ev_newT, ev_own, ev_nil, ev_seq, ev_expr, ev_set, ev_ret, ev_retN, ev_cif, ev_brk, ev_ct, ev_asg, ev_put, ev_aug, ev_for, ev_comp, ev_newL, ev_iseq, ev_irange, ev_ienum, ev_yes, Out.bind_ok, Out.bindN_ok, bindS_ok, Tg.set, Tg.sets, List.getElem?_cons_zero, List.getElem?_cons_succ, List.set_cons_zero, List.set_cons_succ, wipeE, List.length_cons, List.length_nil, Nat.reduceAdd, Nat.reduceLeDiff, Nat.reduceEqDiff, ↓reduceIte, Bool.false_eq_true, decide_eq_true_eq, add_int, sub_int, lt_int, gt_int, le_int, ge_int, neg_int, and_int, or_int, xor_int, max2_int, min2_int, mod_pos, fdiv_sm, mul_sm, mul_smr, Int.reduceLT, Int.reduceNeg, int_bl, int_int, sli_tup])))
    · have e : mx c k = mxN c k * (mxN c k + 16807 * k + 1) % 1000000007 / 3 := by unfold mx; rw [if_neg (fun z => q (h1.mp z))]
      rw [e]
      have a0 := Int.emod_nonneg c (b := 1000000007) (by omega)
      have a1 := Int.emod_lt_of_pos c (b := 1000000007) (by omega)
      have u1 : mulD (.int (c % 1000000007 + 7919 * k + 13)) (.int (c % 1000000007 + 7919 * k + 13)) S = .ok (.int ((c % 1000000007 + 7919 * k + 13) * (c % 1000000007 + 7919 * k + 13))) S := mul_l (by omega)
      have b0 := Int.emod_nonneg ((c % 1000000007 + 7919 * k + 13) * (c % 1000000007 + 7919 * k + 13)) (b := 998244353) (by omega)
      have b1 := Int.emod_lt_of_pos ((c % 1000000007 + 7919 * k + 13) * (c % 1000000007 + 7919 * k + 13)) (b := 998244353) (by omega)
      have u2 : mulD (.int (mxN c k)) (.int (mxN c k + 16807 * k + 1)) S = .ok (.int (mxN c k * (mxN c k + 16807 * k + 1))) S := mul_l (by unfold mxN; omega)
      refine (seq_of ((if_f (S' := S) (by simp only [ev_var, ev_con, ev_bin, ev_un, ev_anil, ev_acons, ev_call, ev_tup, ev_lst, ev_not, ev_and, ev_or, ev_if, ev_cbl, ev_btrue, ev_cand, ev_cor, ev_cnot, ev_sli, ev_onone, ev_osome, ev_chain, ev_meth, ev_get2, ev_newK, ev_newT, ev_own, ev_nil, ev_seq, ev_expr, ev_set, ev_ret, ev_retN, ev_cif, ev_brk, ev_ct, ev_asg, ev_put, ev_aug, ev_for, ev_comp, ev_newL, ev_iseq, ev_irange, ev_ienum, ev_yes, Out.bind_ok, Out.bindN_ok, bindS_ok, Tg.set, Tg.sets, List.getElem?_cons_zero, List.getElem?_cons_succ, List.set_cons_zero, List.set_cons_succ, wipeE, List.length_cons, List.length_nil, Nat.reduceAdd, Nat.reduceLeDiff, Nat.reduceEqDiff, ↓reduceIte, Bool.false_eq_true, decide_eq_true_eq, add_int, sub_int, lt_int, gt_int, le_int, ge_int, neg_int, and_int, or_int, xor_int, max2_int, min2_int, mod_pos, fdiv_sm, mul_sm, mul_smr, Int.reduceLT, Int.reduceNeg, int_bl, int_int, sli_tup, q, decide_false])).trans rfl)).trans ?_
      refine (seq_of (set_of (d := .int (c % 1000000007 + 7919 * k + 13)) (S' := S) (by simp only [ev_var, ev_con, ev_bin, ev_un, ev_anil, ev_acons, ev_call, ev_tup, ev_lst, ev_not, ev_and, ev_or, ev_if, ev_cbl, ev_btrue, ev_cand, ev_cor, ev_cnot, ev_sli, ev_onone, ev_osome, ev_chain, ev_meth, ev_get2, ev_newK, ev_newT, ev_own, ev_nil, ev_seq, ev_expr, ev_set, ev_ret, ev_retN, ev_cif, ev_brk, ev_ct, ev_asg, ev_put, ev_aug, ev_for, ev_comp, ev_newL, ev_iseq, ev_irange, ev_ienum, ev_yes, Out.bind_ok, Out.bindN_ok, bindS_ok, Tg.set, Tg.sets, List.getElem?_cons_zero, List.getElem?_cons_succ, List.set_cons_zero, List.set_cons_succ, wipeE, List.length_cons, List.length_nil, Nat.reduceAdd, Nat.reduceLeDiff, Nat.reduceEqDiff, ↓reduceIte, Bool.false_eq_true, decide_eq_true_eq, add_int, sub_int, lt_int, gt_int, le_int, ge_int, neg_int, and_int, or_int, xor_int, max2_int, min2_int, mod_pos, fdiv_sm, mul_sm, mul_smr, Int.reduceLT, Int.reduceNeg, int_bl, int_int, sli_tup]))).trans ?_
      refine (seq_of (set_of (d := .int (mxN c k)) (S' := S) (by simp only [ev_var, ev_con, ev_bin, ev_un, ev_anil, ev_acons, ev_call, ev_tup, ev_lst, ev_not, ev_and, ev_or, ev_if, ev_cbl, ev_btrue, ev_cand, ev_cor, ev_cnot, ev_sli, ev_onone, ev_osome, ev_chain, ev_meth, ev_get2, ev_newK, ev_newT, ev_own, ev_nil, ev_seq, ev_expr, ev_set, ev_ret, ev_retN, ev_cif, ev_brk, ev_ct, ev_asg, ev_put, ev_aug, ev_for, ev_comp, ev_newL, ev_iseq, ev_irange, ev_ienum, ev_yes, Out.bind_ok, Out.bindN_ok, bindS_ok, Tg.set, Tg.sets, List.getElem?_cons_zero, List.getElem?_cons_succ, List.set_cons_zero, List.set_cons_succ, wipeE, List.length_cons, List.length_nil, Nat.reduceAdd, Nat.reduceLeDiff, Nat.reduceEqDiff, ↓reduceIte, Bool.false_eq_true, decide_eq_true_eq, add_int, sub_int, lt_int, gt_int, le_int, ge_int, neg_int, and_int, or_int, xor_int, max2_int, min2_int, mod_pos, fdiv_sm, mul_sm, mul_smr, Int.reduceLT, Int.reduceNeg, int_bl, int_int, sli_tup, u1]; rfl))).trans ?_
      exact ret_of (by simp only [ev_var, ev_con, ev_bin, ev_un, ev_anil, ev_acons, ev_call, ev_tup, ev_lst, ev_not, ev_and, ev_or, ev_if, ev_cbl, ev_btrue, ev_cand, ev_cor, ev_cnot, ev_sli, ev_onone, ev_osome, ev_chain, ev_meth, ev_get2, ev_newK, ev_newT, ev_own, ev_nil, ev_seq, ev_expr, ev_set, ev_ret, ev_retN, ev_cif, ev_brk, ev_ct, ev_asg, ev_put, ev_aug, ev_for, ev_comp, ev_newL, ev_iseq, ev_irange, ev_ienum, ev_yes, Out.bind_ok, Out.bindN_ok, bindS_ok, Tg.set, Tg.sets, List.getElem?_cons_zero, List.getElem?_cons_succ, List.set_cons_zero, List.set_cons_succ, wipeE, List.length_cons, List.length_nil, Nat.reduceAdd, Nat.reduceLeDiff, Nat.reduceEqDiff, ↓reduceIte, Bool.false_eq_true, decide_eq_true_eq, add_int, sub_int, lt_int, gt_int, le_int, ge_int, neg_int, and_int, or_int, xor_int, max2_int, min2_int, mod_pos, fdiv_sm, mul_sm, mul_smr, Int.reduceLT, Int.reduceNeg, int_bl, int_int, sli_tup, u2])
  unfold c_l_mix
  refine (seq_of (set_of rfl)).trans ?_
  by_cases q : 1000000000 ≤ c
  · obtain ⟨ρ', S', e, v4, rfl, rfl⟩ := loop_all (ck := Ck.tt.ok) (t := .nm 4) (b := b_l_mix_1 (F f)) (S := S) (ρ := [some (.int c), some (.int k), some (.int c), none, none])
      (fun i ρ S' => ∃ v4, ρ = [some (.int c), some (.int k), some (.int (dg c i)), none, v4] ∧ S' = S) (rangeL 0 (k % 46)) ⟨none, rfl, rfl⟩
      (fun i v ρ S' hv ⟨v4, hρ, hS⟩ => by
        subst hρ hS
        obtain ⟨rfl, hlt⟩ := rangeL_get hv
        exact ⟨trivial, _, rfl, [some (.int c), some (.int k), some (.int (dg c (i + 1))), none, some (.int (0 + i))], S', .inl (by unfold b_l_mix_1; exact set_of (by simp only [ev_var, ev_con, ev_bin, ev_un, ev_anil, ev_acons, ev_call, ev_tup, ev_lst, ev_not, ev_and, ev_or, ev_if, ev_cbl, ev_btrue, ev_cand, ev_cor, ev_cnot, ev_sli, ev_onone, ev_osome, ev_chain, ev_meth, ev_get2, ev_newK, ev_newT, ev_own, ev_nil, ev_seq, ev_expr, ev_set, ev_ret, ev_retN, ev_cif, ev_brk, ev_ct, ev_asg, ev_put, ev_aug, ev_for, ev_comp, ev_newL, ev_iseq, ev_irange, ev_ienum, ev_yes, Out.bind_ok, Out.bindN_ok, bindS_ok, Tg.set, Tg.sets, List.getElem?_cons_zero, List.getElem?_cons_succ, List.set_cons_zero, List.set_cons_succ, wipeE, List.length_cons, List.length_nil, Nat.reduceAdd, Nat.reduceLeDiff, Nat.reduceEqDiff, ↓reduceIte, Bool.false_eq_true, decide_eq_true_eq, add_int, sub_int, lt_int, gt_int, le_int, ge_int, neg_int, and_int, or_int, xor_int, max2_int, min2_int, mod_pos, fdiv_sm, mul_sm, mul_smr, Int.reduceLT, Int.reduceNeg, int_bl, int_int, sli_tup]; rfl)), _, rfl, rfl⟩)
      (fun _ _ _ => trivial)
    have el : (rangeL 0 (k % 46)).length = (k % 46).toNat := by rw [rangeL_len, Int.sub_zero]
    rw [el] at e
    refine (seq_of ((if_t (S' := S') (by simp only [ev_var, ev_con, ev_bin, ev_un, ev_anil, ev_acons, ev_call, ev_tup, ev_lst, ev_not, ev_and, ev_or, ev_if, ev_cbl, ev_btrue, ev_cand, ev_cor, ev_cnot, ev_sli, ev_onone, ev_osome, ev_chain, ev_meth, ev_get2, ev_newK, ev_newT, ev_own, ev_nil, ev_seq, ev_expr, ev_set, ev_ret, ev_retN, ev_cif, ev_brk, ev_ct, ev_asg, ev_put, ev_aug, ev_for, ev_comp, ev_newL, ev_iseq, ev_irange, ev_ienum, ev_yes, Out.bind_ok, Out.bindN_ok, bindS_ok, Tg.set, Tg.sets, List.getElem?_cons_zero, List.getElem?_cons_succ, List.set_cons_zero, List.set_cons_succ, wipeE, List.length_cons, List.length_nil, Nat.reduceAdd, Nat.reduceLeDiff, Nat.reduceEqDiff, ↓reduceIte, Bool.false_eq_true, decide_eq_true_eq, add_int, sub_int, lt_int, gt_int, le_int, ge_int, neg_int, and_int, or_int, xor_int, max2_int, min2_int, mod_pos, fdiv_sm, mul_sm, mul_smr, Int.reduceLT, Int.reduceNeg, int_bl, int_int, sli_tup, hp, q, decide_true])).trans ((seq_of (set_of rfl)).trans ((for_of (w := (rangeL 0 (k % 46), .tt)) (S' := S') (by simp only [ev_var, ev_con, ev_bin, ev_un, ev_anil, ev_acons, ev_call, ev_tup, ev_lst, ev_not, ev_and, ev_or, ev_if, ev_cbl, ev_btrue, ev_cand, ev_cor, ev_cnot, ev_sli, ev_onone, ev_osome, ev_chain, ev_meth, ev_get2, ev_newK, ev_newT, ev_own, ev_nil, ev_seq, ev_expr, ev_set, ev_ret, ev_retN, ev_cif, ev_brk, ev_ct, ev_asg, ev_put, ev_aug, ev_for, ev_comp, ev_newL, ev_iseq, ev_irange, ev_ienum, ev_yes, Out.bind_ok, Out.bindN_ok, bindS_ok, Tg.set, Tg.sets, List.getElem?_cons_zero, List.getElem?_cons_succ, List.set_cons_zero, List.set_cons_succ, wipeE, List.length_cons, List.length_nil, Nat.reduceAdd, Nat.reduceLeDiff, Nat.reduceEqDiff, ↓reduceIte, Bool.false_eq_true, decide_eq_true_eq, add_int, sub_int, lt_int, gt_int, le_int, ge_int, neg_int, and_int, or_int, xor_int, max2_int, min2_int, mod_pos, fdiv_sm, mul_sm, mul_smr, Int.reduceLT, Int.reduceNeg, int_bl, int_int, sli_tup, rng1_of m0 (by omega)])).trans e)))).trans ?_
    exact tail _ _ ⟨fun z => z.2, fun z => ⟨q, z⟩⟩ fun _ => rfl
  · refine (seq_of ((if_f (S' := S) (by simp only [ev_var, ev_con, ev_bin, ev_un, ev_anil, ev_acons, ev_call, ev_tup, ev_lst, ev_not, ev_and, ev_or, ev_if, ev_cbl, ev_btrue, ev_cand, ev_cor, ev_cnot, ev_sli, ev_onone, ev_osome, ev_chain, ev_meth, ev_get2, ev_newK, ev_newT, ev_own, ev_nil, ev_seq, ev_expr, ev_set, ev_ret, ev_retN, ev_cif, ev_brk, ev_ct, ev_asg, ev_put, ev_aug, ev_for, ev_comp, ev_newL, ev_iseq, ev_irange, ev_ienum, ev_yes, Out.bind_ok, Out.bindN_ok, bindS_ok, Tg.set, Tg.sets, List.getElem?_cons_zero, List.getElem?_cons_succ, List.set_cons_zero, List.set_cons_succ, wipeE, List.length_cons, List.length_nil, Nat.reduceAdd, Nat.reduceLeDiff, Nat.reduceEqDiff, ↓reduceIte, Bool.false_eq_true, decide_eq_true_eq, add_int, sub_int, lt_int, gt_int, le_int, ge_int, neg_int, and_int, or_int, xor_int, max2_int, min2_int, mod_pos, fdiv_sm, mul_sm, mul_smr, Int.reduceLT, Int.reduceNeg, int_bl, int_int, sli_tup, hp, q, decide_false])).trans rfl)).trans ?_
    exact tail 0 none ⟨fun z => absurd z.1 q, fun z => by omega⟩ fun z => by omega
theorem rng1_any {i : Int} (h0 : -1000000 < i) (h1 : i < 1000000) : rng1 [.int i] = some (rangeL 0 i) := by
  have : rok i = true := by unfold rok; exact @decide_eq_true _ (Classical.propDecidable _) ⟨by omega, by omega⟩
  simp only [rng1]
  rw [if_pos this]
theorem upL2_get {lo hi : Int} {i : Nat} {d : Dv} (h : (upL2 lo hi)[i]? = some d) : d = .int (lo + 2 * i) ∧ lo + 2 * (i : Int) < hi := by
  unfold upL2 at h
  rw [List.getElem?_map] at h
  obtain ⟨j, hj, e⟩ := Option.map_eq_some_iff.mp h
  obtain ⟨hl, e2⟩ := List.getElem?_eq_some_iff.mp hj
  simp at hl e2
  subst e2
  exact ⟨e.symm, by omega⟩
theorem upL2_len (lo hi : Int) : (upL2 lo hi).length = ((hi - lo + 1) / 2).toNat := by unfold upL2; simp
theorem add_ref {S : Sto} {l m : Nat} {xs ys : List Dv} (h : S[l]? = some (.lst xs)) (h2 : S[m]? = some (.lst ys)) (hl : xs.length + ys.length ≤ sizeLine) : addD (.ref l) (.ref m) S = newL (xs ++ ys) S := by simp only [addD, h, h2, hl, ↓reduceIte]
theorem cells_run {f : Nat} {ns : List Int} {s : Int} {S : Sto} (hns : ns.length ≤ 63) (s0 : 0 ≤ s) (s1 : s ≤ 1) : ∃ (l : Nat) (xs : List Int) (S' : Sto), F (f + 2) .l_cells [.fl (ns.map .int), .int s] S = .ok (.ref l) S' ∧ Gr S S' ∧ S.length ≤ l ∧ S'[l]? = some (.lst (xs.map .int)) ∧ xs.length ≤ 100 ∧ 6 ≤ xs.length := by
  rw [F_l_cells]
  have ln : ∀ S, lenD [.fl (ns.map .int)] S = .ok (.int (ns.map Dv.int).length) S := fun S => len_lst rfl
  have nl : (ns.map Dv.int).length = ns.length := List.length_map _
  obtain ⟨acc, S1, e1, hS, xs, rfl, hx⟩ := comp_gen (ck := Ck.tt.ok) (t := .nm 3) (c := cYes) (y := y_l_cells_1 (F (f + 1))) (acc := []) (S := S) (fun i acc S' => S' = S ∧ ∃ xs : List Int, acc = xs.map .int ∧ xs.length = i) (upL2 s (min ((ns.map Dv.int).length : Int) 64)) [some (.fl (ns.map .int)), some (.int s), none, none]
    (fun i d acc S' hd ⟨hS, xs, ha, hx⟩ => by
      subst hS
      obtain ⟨rfl, hlt⟩ := upL2_get hd
      obtain ⟨j, hj⟩ := Int.eq_ofNat_of_zero_le (show 0 ≤ s + 2 * (i : Int) by omega)
      have hjl : j < ns.length := by omega
      have ix : idxD (.fl (ns.map .int)) (.int (s + 2 * (i : Int))) S' = .ok (.int ns[j]) S' := by
        rw [hj]; exact idx_lst rfl (atI_nat (by rw [List.getElem?_map, List.getElem?_eq_getElem hjl]; rfl))
      refine ⟨trivial, _, rfl, true, S', rfl, fun _ => ⟨.int ns[j], S', by simp only [y_l_cells_1, ev_var, ev_con, ev_bin, ev_un, ev_anil, ev_acons, ev_call, ev_tup, ev_lst, ev_not, ev_and, ev_or, ev_if, ev_cbl, ev_btrue, ev_cand, ev_cor, ev_cnot, ev_sli, ev_onone, ev_osome, ev_chain, ev_meth, ev_get2, ev_newK, ev_newT, ev_own, ev_nil, ev_seq, ev_expr, ev_set, ev_ret, ev_retN, ev_cif, ev_brk, ev_ct, ev_asg, ev_put, ev_aug, ev_for, ev_comp, ev_newL, ev_iseq, ev_irange, ev_ienum, ev_yes, Out.bind_ok, Out.bindN_ok, bindS_ok, Tg.set, Tg.sets, List.getElem?_cons_zero, List.getElem?_cons_succ, List.set_cons_zero, List.set_cons_succ, wipeE, List.length_cons, List.length_nil, Nat.reduceAdd, Nat.reduceLeDiff, Nat.reduceEqDiff, ↓reduceIte, Bool.false_eq_true, decide_eq_true_eq, add_int, sub_int, lt_int, gt_int, le_int, ge_int, neg_int, and_int, or_int, xor_int, max2_int, min2_int, mod_pos, fdiv_sm, mul_sm, mul_smr, Int.reduceLT, Int.reduceNeg, int_bl, int_int, sli_tup, ix], ?_, rfl, xs ++ [ns[j]], by simp [ha], by simp [hx]⟩, fun z => nomatch z⟩
      rw [ha, List.length_map]; show _ < 2 ^ 24; omega) (fun _ _ _ => trivial) ⟨rfl, [], rfl, rfl⟩
  subst hS
  rw [upL2_len] at hx
  have g1 := gr_app S1 [.lst (xs.map .int)]
  have xl : (xs.map Dv.int).length = xs.length := List.length_map _
  obtain ⟨acc, S2, e2, hS, ys, rfl, hy⟩ := comp_gen (ck := Ck.tt.ok) (t := .nm 3) (c := cYes) (y := y_l_cells_2 (F (f + 1))) (acc := []) (S := S1 ++ [.lst (xs.map .int)]) (fun i acc S' => S' = S1 ++ [.lst (xs.map .int)] ∧ ∃ ys : List Int, acc = ys.map .int ∧ ys.length = i) (rangeL 0 (6 - ((xs.map Dv.int).length : Int))) [some (.fl (ns.map .int)), some (.int s), some (.ref S1.length), none]
    (fun i d acc S' hd ⟨hS, ys, ha, hy⟩ => by
      subst hS
      obtain ⟨rfl, hlt⟩ := rangeL_get hd
      refine ⟨trivial, _, rfl, true, _, rfl, fun _ => ⟨.int (mx ((ns.map Dv.int).length : Int) (40 + s + (0 + i))), _, by simp only [y_l_cells_2, ev_var, ev_con, ev_bin, ev_un, ev_anil, ev_acons, ev_call, ev_tup, ev_lst, ev_not, ev_and, ev_or, ev_if, ev_cbl, ev_btrue, ev_cand, ev_cor, ev_cnot, ev_sli, ev_onone, ev_osome, ev_chain, ev_meth, ev_get2, ev_newK, ev_newT, ev_own, ev_nil, ev_seq, ev_expr, ev_set, ev_ret, ev_retN, ev_cif, ev_brk, ev_ct, ev_asg, ev_put, ev_aug, ev_for, ev_comp, ev_newL, ev_iseq, ev_irange, ev_ienum, ev_yes, Out.bind_ok, Out.bindN_ok, bindS_ok, Tg.set, Tg.sets, List.getElem?_cons_zero, List.getElem?_cons_succ, List.set_cons_zero, List.set_cons_succ, wipeE, List.length_cons, List.length_nil, Nat.reduceAdd, Nat.reduceLeDiff, Nat.reduceEqDiff, ↓reduceIte, Bool.false_eq_true, decide_eq_true_eq, add_int, sub_int, lt_int, gt_int, le_int, ge_int, neg_int, and_int, or_int, xor_int, max2_int, min2_int, mod_pos, fdiv_sm, mul_sm, mul_smr, Int.reduceLT, Int.reduceNeg, int_bl, int_int, sli_tup, ln, mix_run (f := f) (c := ((ns.map Dv.int).length : Int)) (k := 40 + s + (0 + i)) (by omega) (by omega)], ?_, rfl, ys ++ [_], by rw [ha, List.map_append]; rfl, by simp [hy]⟩, fun z => nomatch z⟩
      rw [ha, List.length_map]; show _ < 2 ^ 24; omega) (fun _ _ _ => trivial) ⟨rfl, [], rfl, rfl⟩
  subst hS
  rw [rangeL_len] at hy
  have g2 := gr_app (S1 ++ [Ob.lst (xs.map .int)]) [.lst (ys.map .int)]
  have g3 := gr_app (S1 ++ [Ob.lst (xs.map .int)] ++ [Ob.lst (ys.map .int)]) [.lst (xs.map .int ++ ys.map .int)]
  have ea := add_ref (g2.at (at_new S1 (.lst (xs.map .int)))) (at_new (S1 ++ [Ob.lst (xs.map .int)]) (.lst (ys.map .int))) (sline _ (by rw [List.length_map, List.length_map]; omega))
  refine ⟨(S1 ++ [Ob.lst (xs.map .int)] ++ [Ob.lst (ys.map .int)]).length, xs ++ ys, _, runF_rt (ρ := [some (.fl (ns.map .int)), some (.int s), none, none]) rfl rfl ?_, (g1.trans g2).trans g3, (g1.trans g2).le, by rw [List.map_append]; exact at_new _ _, by rw [List.length_append]; omega, by rw [List.length_append]; rw [List.length_map] at hy; omega⟩
  unfold c_l_cells
  refine (seq_of (set_of (d := .ref S1.length) (S' := S1 ++ [Ob.lst (xs.map .int)]) (by simp only [ev_var, ev_con, ev_bin, ev_un, ev_anil, ev_acons, ev_call, ev_tup, ev_lst, ev_not, ev_and, ev_or, ev_if, ev_cbl, ev_btrue, ev_cand, ev_cor, ev_cnot, ev_sli, ev_onone, ev_osome, ev_chain, ev_meth, ev_get2, ev_newK, ev_newT, ev_own, ev_nil, ev_seq, ev_expr, ev_set, ev_ret, ev_retN, ev_cif, ev_brk, ev_ct, ev_asg, ev_put, ev_aug, ev_for, ev_comp, ev_newL, ev_iseq, ev_irange, ev_ienum, ev_yes, Out.bind_ok, Out.bindN_ok, bindS_ok, Tg.set, Tg.sets, List.getElem?_cons_zero, List.getElem?_cons_succ, List.set_cons_zero, List.set_cons_succ, wipeE, List.length_cons, List.length_nil, Nat.reduceAdd, Nat.reduceLeDiff, Nat.reduceEqDiff, ↓reduceIte, Bool.false_eq_true, decide_eq_true_eq, add_int, sub_int, lt_int, gt_int, le_int, ge_int, neg_int, and_int, or_int, xor_int, max2_int, min2_int, mod_pos, fdiv_sm, mul_sm, mul_smr, Int.reduceLT, Int.reduceNeg, int_bl, int_int, sli_tup, ln, rngS_of (i := s) (j := min ((ns.map Dv.int).length : Int) 64) (by omega) (by omega) (by omega) (by omega), e1]))).trans ?_
  exact ret_of (by simp only [ev_var, ev_con, ev_bin, ev_un, ev_anil, ev_acons, ev_call, ev_tup, ev_lst, ev_not, ev_and, ev_or, ev_if, ev_cbl, ev_btrue, ev_cand, ev_cor, ev_cnot, ev_sli, ev_onone, ev_osome, ev_chain, ev_meth, ev_get2, ev_newK, ev_newT, ev_own, ev_nil, ev_seq, ev_expr, ev_set, ev_ret, ev_retN, ev_cif, ev_brk, ev_ct, ev_asg, ev_put, ev_aug, ev_for, ev_comp, ev_newL, ev_iseq, ev_irange, ev_ienum, ev_yes, Out.bind_ok, Out.bindN_ok, bindS_ok, Tg.set, Tg.sets, List.getElem?_cons_zero, List.getElem?_cons_succ, List.set_cons_zero, List.set_cons_succ, wipeE, List.length_cons, List.length_nil, Nat.reduceAdd, Nat.reduceLeDiff, Nat.reduceEqDiff, ↓reduceIte, Bool.false_eq_true, decide_eq_true_eq, add_int, sub_int, lt_int, gt_int, le_int, ge_int, neg_int, and_int, or_int, xor_int, max2_int, min2_int, mod_pos, fdiv_sm, mul_sm, mul_smr, Int.reduceLT, Int.reduceNeg, int_bl, int_int, sli_tup, len_ref (at_new S1 (.lst (xs.map .int))), rng1_any (i := 6 - ((xs.map Dv.int).length : Int)) (by omega) (by omega), e2, ea])
theorem cut_sk {x : Str} {lo hi : Option Int} (h : Sk x) : Sk (L2.cutS x lo hi) := by
  have hx : ∀ c ∈ x.cps.toList, c < 1114112 := fun c hc => by
    have h' : x.cps.all (fun c => decide (c < 1114112)) = true := h
    rw [← Array.all_toList, List.all_eq_true] at h'
    exact of_decide_eq_true (h' c hc)
  refine sk_of fun c hc => hx c ?_
  have : c ∈ (List.take _ (List.drop _ x.cps.toList)).toArray.toList := hc
  rw [List.toList_toArray] at this
  exact List.mem_of_mem_drop (List.mem_of_mem_take this)
structure Nms (S : Sto) (l : Nat) (names : List Str) : Prop where
  h : S[l]? = some (.lst (names.map .str))
  len : names.length = 5
  sk : ∀ x ∈ names, Sk x
theorem Nms.gr {S S' : Sto} {l : Nat} {names : List Str} (h : Nms S l names) (g : Gr S S') : Nms S' l names := ⟨g.at h.h, h.len, h.sk⟩
theorem names_run {f : Nat} {c : Int} {S : Sto} : ∃ (l : Nat) (names : List Str) (S' : Sto), F (f + 2) .l_names [.int c] S = .ok (.ref l) S' ∧ Gr S S' ∧ S.length ≤ l ∧ Nms S' l names := by
  rw [F_l_names]
  have ha : ((abc.length : Nat) : Int) = 26 := by decide
  have hal : abc.length ≤ sizeLine := sline _ (by omega)
  have lt (i : Int) (S : Sto) := idx_smod (S := S) ha (by omega) hal i
  have sk1 : ∀ n, n ∈ abc.cps.toList → Sk ⟨#[n]⟩ := fun n hn => sk_of fun c hc => by simp at hc; subst hc; exact abc_lt _ hn
  have ea : ("abcdefghijklmnopqrstuvwxyz" : Str) = abc := rfl
  have g0 := gr_app S [.lst []]
  have m40 (S : Sto) := mix_run (f := f) (c := c) (k := 40) (S := S) (by omega) (by omega)
  have m41 (S : Sto) := mix_run (f := f) (c := c) (k := 41) (S := S) (by omega) (by omega)
  have m42 (S : Sto) := mix_run (f := f) (c := c) (k := 42) (S := S) (by omega) (by omega)
  have m43 (S : Sto) := mix_run (f := f) (c := c) (k := 43) (S := S) (by omega) (by omega)
  by_cases q : mx c 40 % 3 = 0
  · obtain ⟨ρ', S', e, v6, w, rfl, rfl, hwl, hws⟩ := loop_all (ck := Ck.tt.ok) (t := .nm 6) (b := b_l_names_1 (F (f + 1))) (S := S ++ [.lst []]) (ρ := [some (.int c), some (.ref S.length), none, none, none, some (.str "q"), none, none])
      (fun i ρ S' => ∃ (v6 : Option Dv) (w : Str), ρ = [some (.int c), some (.ref S.length), none, none, none, some (.str w), v6, none] ∧ S' = S ++ [.lst []] ∧ w.length = 1 + i ∧ Sk w) (rangeL 0 7) ⟨none, "q", rfl, rfl, rfl, by decide +kernel⟩
      (fun i v ρ S' hv ⟨v6, w, hρ, hS, hwl, hws⟩ => by
        subst hρ hS
        obtain ⟨rfl, hlt⟩ := rangeL_get hv
        obtain ⟨n, hn, en⟩ := lt (mx c (32 + (0 + i))) (S ++ [Ob.lst []])
        have al : addD (.str w) (.str ⟨#[n]⟩) (S ++ [Ob.lst []]) = .ok (.str (w ++ ⟨#[n]⟩)) (S ++ [Ob.lst []]) := add_str (sline _ (by show w.length + 1 ≤ _; omega))
        refine ⟨trivial, _, rfl, [some (.int c), some (.ref S.length), none, none, none, some (.str (w ++ ⟨#[n]⟩)), some (.int (0 + i)), none], _, .inl ?_, _, _, rfl, rfl, by rw [strlen_app, hwl]; show 1 + i + 1 = _; omega, sk_app hws (sk1 n hn)⟩
        unfold b_l_names_1
        refine set_of ?_
        simp only [ev_var, ev_con, ev_bin, ev_un, ev_anil, ev_acons, ev_call, ev_tup, ev_lst, ev_not, ev_and, ev_or, ev_if, ev_cbl, ev_btrue, ev_cand, ev_cor, ev_cnot, ev_sli, ev_onone, ev_osome, ev_chain, ev_meth, ev_get2, ev_newK, ev_newT, ev_own, ev_nil, ev_seq, ev_expr, ev_set, ev_ret, ev_retN, ev_cif, ev_brk, ev_ct, ev_asg, ev_put, ev_aug, ev_for, ev_comp, ev_newL, ev_iseq, ev_irange, ev_ienum, ev_yes, Out.bind_ok, Out.bindN_ok, bindS_ok, Tg.set, Tg.sets, List.getElem?_cons_zero, List.getElem?_cons_succ, List.set_cons_zero, List.set_cons_succ, wipeE, List.length_cons, List.length_nil, Nat.reduceAdd, Nat.reduceLeDiff, Nat.reduceEqDiff, ↓reduceIte, Bool.false_eq_true, decide_eq_true_eq, add_int, sub_int, lt_int, gt_int, le_int, ge_int, neg_int, and_int, or_int, xor_int, max2_int, min2_int, mod_pos, fdiv_sm, mul_sm, mul_smr, Int.reduceLT, Int.reduceNeg, int_bl, int_int, sli_tup, mix_run (f := f) (c := c) (k := 32 + (0 + (i : Int))) (by omega) (by omega), ea, en, al])
      (fun _ _ _ => trivial)
    rw [rangeL_len] at hwl
    have h43 := mx_pos c 43
    obtain ⟨acc, S2, e2, hS, ys, rfl, hy, hys⟩ := comp_gen (ck := Ck.tt.ok) (t := .nm 4) (c := cYes) (y := y_l_names_2 (F (f + 1))) (acc := []) (S := S ++ [.lst []]) (fun i acc S' => S' = S ++ [.lst []] ∧ ∃ ys : List Str, acc = ys.map .str ∧ ys.length = i ∧ ∀ y ∈ ys, Sk y) (rangeL 0 5) [some (.int c), some (.ref S.length), none, none, none, some (.str w), v6, none]
      (fun i d acc S' hd ⟨hS, ys, ha, hy, hys⟩ => by
        subst hS
        obtain ⟨rfl, hlt⟩ := rangeL_get hd
        have es : sliD (.str w) none (some (1 + mx c 43 % 4 + (0 + i))) (S ++ [Ob.lst []]) = .ok (.str (L2.cutS w none (some (1 + mx c 43 % 4 + (0 + i))))) (S ++ [Ob.lst []]) := by simp only [sliD, sline w.length (by omega), ↓reduceIte]
        refine ⟨trivial, _, rfl, true, _, rfl, fun _ => ⟨_, _, by simp only [y_l_names_2, ev_var, ev_con, ev_bin, ev_un, ev_anil, ev_acons, ev_call, ev_tup, ev_lst, ev_not, ev_and, ev_or, ev_if, ev_cbl, ev_btrue, ev_cand, ev_cor, ev_cnot, ev_sli, ev_onone, ev_osome, ev_chain, ev_meth, ev_get2, ev_newK, ev_newT, ev_own, ev_nil, ev_seq, ev_expr, ev_set, ev_ret, ev_retN, ev_cif, ev_brk, ev_ct, ev_asg, ev_put, ev_aug, ev_for, ev_comp, ev_newL, ev_iseq, ev_irange, ev_ienum, ev_yes, Out.bind_ok, Out.bindN_ok, bindS_ok, Tg.set, Tg.sets, List.getElem?_cons_zero, List.getElem?_cons_succ, List.set_cons_zero, List.set_cons_succ, wipeE, List.length_cons, List.length_nil, Nat.reduceAdd, Nat.reduceLeDiff, Nat.reduceEqDiff, ↓reduceIte, Bool.false_eq_true, decide_eq_true_eq, add_int, sub_int, lt_int, gt_int, le_int, ge_int, neg_int, and_int, or_int, xor_int, max2_int, min2_int, mod_pos, fdiv_sm, mul_sm, mul_smr, Int.reduceLT, Int.reduceNeg, int_bl, int_int, sli_tup, m43, es]; rfl, ?_, rfl, ys ++ [L2.cutS w none (some (1 + mx c 43 % 4 + (0 + i)))], by rw [ha, List.map_append]; rfl, by simp [hy], fun y hy' => ?_⟩, fun z => nomatch z⟩
        · rw [ha, List.length_map]; show _ < 2 ^ 24; omega
        · rcases List.mem_append.mp hy' with hy' | hy'
          · exact hys y hy'
          · rw [List.mem_singleton] at hy'; subst hy'; exact cut_sk hws) (fun _ _ _ => trivial) ⟨rfl, [], rfl, rfl, by simp⟩
    subst hS
    rw [rangeL_len] at hy
    refine ⟨(S ++ [Ob.lst []]).length, ys, _, runF_rt (ρ := [some (.int c), none, none, none, none, none, none, none]) rfl rfl ?_, g0.trans (gr_app _ [.lst (ys.map .str)]), g0.le, ⟨at_new _ _, hy, hys⟩⟩
    unfold c_l_names
    refine (seq_of (by simp only [ev_var, ev_con, ev_bin, ev_un, ev_anil, ev_acons, ev_call, ev_tup, ev_lst, ev_not, ev_and, ev_or, ev_if, ev_cbl, ev_btrue, ev_cand, ev_cor, ev_cnot, ev_sli, ev_onone, ev_osome, ev_chain, ev_meth, ev_get2, ev_newK, ev_newT, ev_own, ev_nil, ev_seq, ev_expr, ev_set, ev_ret, ev_retN, ev_cif, ev_brk, ev_ct, ev_asg, ev_put, ev_aug, ev_for, ev_comp, ev_newL, ev_iseq, ev_irange, ev_ienum, ev_yes, Out.bind_ok, Out.bindN_ok, bindS_ok, Tg.set, Tg.sets, List.getElem?_cons_zero, List.getElem?_cons_succ, List.set_cons_zero, List.set_cons_succ, wipeE, List.length_cons, List.length_nil, Nat.reduceAdd, Nat.reduceLeDiff, Nat.reduceEqDiff, ↓reduceIte, Bool.false_eq_true, decide_eq_true_eq, add_int, sub_int, lt_int, gt_int, le_int, ge_int, neg_int, and_int, or_int, xor_int, max2_int, min2_int, mod_pos, fdiv_sm, mul_sm, mul_smr, Int.reduceLT, Int.reduceNeg, int_bl, int_int, sli_tup, sline 0 (by omega)]; rfl)).trans ?_
    refine seq_rt ((if_t (S' := S ++ [Ob.lst []]) (by simp only [ev_var, ev_con, ev_bin, ev_un, ev_anil, ev_acons, ev_call, ev_tup, ev_lst, ev_not, ev_and, ev_or, ev_if, ev_cbl, ev_btrue, ev_cand, ev_cor, ev_cnot, ev_sli, ev_onone, ev_osome, ev_chain, ev_meth, ev_get2, ev_newK, ev_newT, ev_own, ev_nil, ev_seq, ev_expr, ev_set, ev_ret, ev_retN, ev_cif, ev_brk, ev_ct, ev_asg, ev_put, ev_aug, ev_for, ev_comp, ev_newL, ev_iseq, ev_irange, ev_ienum, ev_yes, Out.bind_ok, Out.bindN_ok, bindS_ok, Tg.set, Tg.sets, List.getElem?_cons_zero, List.getElem?_cons_succ, List.set_cons_zero, List.set_cons_succ, wipeE, List.length_cons, List.length_nil, Nat.reduceAdd, Nat.reduceLeDiff, Nat.reduceEqDiff, ↓reduceIte, Bool.false_eq_true, decide_eq_true_eq, add_int, sub_int, lt_int, gt_int, le_int, ge_int, neg_int, and_int, or_int, xor_int, max2_int, min2_int, mod_pos, fdiv_sm, mul_sm, mul_smr, Int.reduceLT, Int.reduceNeg, int_bl, int_int, sli_tup, m40, eq_int, q, decide_true])).trans ?_)
    refine (seq_of (set_of rfl)).trans ?_
    refine (seq_of ((for_of (w := (rangeL 0 7, .tt)) (S' := S ++ [Ob.lst []]) (by simp only [ev_var, ev_con, ev_bin, ev_un, ev_anil, ev_acons, ev_call, ev_tup, ev_lst, ev_not, ev_and, ev_or, ev_if, ev_cbl, ev_btrue, ev_cand, ev_cor, ev_cnot, ev_sli, ev_onone, ev_osome, ev_chain, ev_meth, ev_get2, ev_newK, ev_newT, ev_own, ev_nil, ev_seq, ev_expr, ev_set, ev_ret, ev_retN, ev_cif, ev_brk, ev_ct, ev_asg, ev_put, ev_aug, ev_for, ev_comp, ev_newL, ev_iseq, ev_irange, ev_ienum, ev_yes, Out.bind_ok, Out.bindN_ok, bindS_ok, Tg.set, Tg.sets, List.getElem?_cons_zero, List.getElem?_cons_succ, List.set_cons_zero, List.set_cons_succ, wipeE, List.length_cons, List.length_nil, Nat.reduceAdd, Nat.reduceLeDiff, Nat.reduceEqDiff, ↓reduceIte, Bool.false_eq_true, decide_eq_true_eq, add_int, sub_int, lt_int, gt_int, le_int, ge_int, neg_int, and_int, or_int, xor_int, max2_int, min2_int, mod_pos, fdiv_sm, mul_sm, mul_smr, Int.reduceLT, Int.reduceNeg, int_bl, int_int, sli_tup, rng1_of (i := 7) (by omega) (by omega)])).trans e)).trans ?_
    exact ret_of (by simp only [ev_var, ev_con, ev_bin, ev_un, ev_anil, ev_acons, ev_call, ev_tup, ev_lst, ev_not, ev_and, ev_or, ev_if, ev_cbl, ev_btrue, ev_cand, ev_cor, ev_cnot, ev_sli, ev_onone, ev_osome, ev_chain, ev_meth, ev_get2, ev_newK, ev_newT, ev_own, ev_nil, ev_seq, ev_expr, ev_set, ev_ret, ev_retN, ev_cif, ev_brk, ev_ct, ev_asg, ev_put, ev_aug, ev_for, ev_comp, ev_newL, ev_iseq, ev_irange, ev_ienum, ev_yes, Out.bind_ok, Out.bindN_ok, bindS_ok, Tg.set, Tg.sets, List.getElem?_cons_zero, List.getElem?_cons_succ, List.set_cons_zero, List.set_cons_succ, wipeE, List.length_cons, List.length_nil, Nat.reduceAdd, Nat.reduceLeDiff, Nat.reduceEqDiff, ↓reduceIte, Bool.false_eq_true, decide_eq_true_eq, add_int, sub_int, lt_int, gt_int, le_int, ge_int, neg_int, and_int, or_int, xor_int, max2_int, min2_int, mod_pos, fdiv_sm, mul_sm, mul_smr, Int.reduceLT, Int.reduceNeg, int_bl, int_int, sli_tup, rng1_of (i := 5) (by omega) (by omega), e2])
  · have h41 := mx_pos c 41
    have w0 := Int.emod_nonneg (mx c 41) (b := 8) (by omega)
    have w1 := Int.emod_lt_of_pos (mx c 41) (b := 8) (by omega)
    generalize hw : 1 + mx c 41 % 8 = w at *
    have md : ∀ S : Sto, modD (.int (mx c 42)) (.int w) S = .ok (.int (mx c 42 % w)) S := fun S => mod_pos (by omega)
    generalize mx c 42 % w = pl at md
    obtain ⟨ρ', S', e, v4, v6, v7, ys, rfl, f', hx, hy, hys⟩ := loop_all (ck := Ck.tt.ok) (t := .nm 4) (b := b_l_names_4 (F (f + 1))) (S := S ++ [.lst []]) (ρ := [some (.int c), some (.ref S.length), some (.int w), some (.int pl), none, none, none, none])
      (fun i ρ S' => ∃ (v4 v6 v7 : Option Dv) (ys : List Str), ρ = [some (.int c), some (.ref S.length), some (.int w), some (.int pl), v4, none, v6, v7] ∧ Fr (· = S.length) (S ++ [.lst []]) S' ∧ S'[S.length]? = some (.lst (ys.map .str)) ∧ ys.length = i ∧ ∀ y ∈ ys, Sk y) (rangeL 0 5) ⟨none, none, none, [], rfl, .refl _, at_new _ _, rfl, by simp⟩
      (fun i v ρ S2 hv ⟨v4, v6, v7, ys, hρ, f', hx, hy, hys⟩ => by
        subst hρ
        obtain ⟨rfl, hlt⟩ := rangeL_get hv
        refine ⟨trivial, _, rfl, ?_⟩
        obtain ⟨ρ3, S3, e3, u6, x, rfl, rfl, hxl, hxs⟩ := loop_all (ck := Ck.tt.ok) (t := .nm 6) (b := b_l_names_3 (F (f + 1))) (S := S2) (ρ := [some (.int c), some (.ref S.length), some (.int w), some (.int pl), some (.int (0 + i)), none, v6, some (.str "")])
          (fun j ρ S' => ∃ (u6 : Option Dv) (x : Str), ρ = [some (.int c), some (.ref S.length), some (.int w), some (.int pl), some (.int (0 + i)), none, u6, some (.str x)] ∧ S' = S2 ∧ x.length = j ∧ Sk x) (rangeL 0 w) ⟨_, "", rfl, rfl, rfl, by decide +kernel⟩
          (fun j v ρ S3 hv ⟨u6, x, hρ, hS, hxl, hxs⟩ => by
            subst hρ hS
            obtain ⟨rfl, hlt⟩ := rangeL_get hv
            obtain ⟨n, hn, en⟩ := lt (mx c (32 + (0 + j)) + (0 + i) * (if decide ((0 + j : Int) = pl) = true then 1 else 0)) S3
            have al : addD (.str x) (.str ⟨#[n]⟩) S3 = .ok (.str (x ++ ⟨#[n]⟩)) S3 := add_str (sline _ (by show x.length + 1 ≤ _; omega))
            have mu : mulD (.int (0 + i)) (.int (if decide ((0 + j : Int) = pl) = true then 1 else 0)) S3 = .ok (.int ((0 + i) * (if decide ((0 + j : Int) = pl) = true then 1 else 0))) S3 := mul_l (by omega)
            refine ⟨trivial, _, rfl, [some (.int c), some (.ref S.length), some (.int w), some (.int pl), some (.int (0 + i)), none, some (.int (0 + j)), some (.str (x ++ ⟨#[n]⟩))], S3, .inl ?_, _, _, rfl, rfl, by rw [strlen_app, hxl]; rfl, sk_app hxs (sk1 n hn)⟩
            unfold b_l_names_3
            refine set_of ?_
            have ib : ∀ b : Bool, intD [.bl b] S3 = .ok (.int (if b = true then 1 else 0)) S3 := fun b => int_bl b
            have m32 := mix_run (f := f) (c := c) (k := 32 + (0 + (j : Int))) (S := S3) (by omega) (by omega)
            simp only [ev_bin, ev_var, ev_con, ev_own, ev_acons, ev_anil, ev_call, Out.bind_ok, List.getElem?_cons_zero, List.getElem?_cons_succ, List.set_cons_zero, List.set_cons_succ, List.length_cons, List.length_nil, Nat.reduceAdd, ↓reduceIte, add_int, m32, eq_int, ib, mu, mod_pos (show (0 : Int) < 26 by omega), ea, en, al])
          (fun _ _ _ => trivial)
        rw [rangeL_len] at hxl
        have g3 := gr_app S3 [.lst (takenW.map .str)]
        have mem : memq (S3 ++ [.lst (takenW.map .str)]) (.str x) (.ref S3.length) = some (decide (x ∈ takenW)) := mem_strs (at_new _ _) (by decide +kernel) hxs
        have s12 : (takenW.map Dv.str).length ≤ sizeLine := sline 12 (by omega)
        have et : ([.str "start", .str "rule", .str "row", .str "mix", .str "many", .str "any", .str "kind", .str "not", .str "both", .str "either", .str "way", .str "mark"] : List Dv) = takenW.map .str := rfl
        have key : ∃ z : Str, Sk z ∧ (cIf (cBl (eBin inD (eVar 7) (eLst (aCons (eCon (.str "start")) (aCons (eCon (.str "rule")) (aCons (eCon (.str "row")) (aCons (eCon (.str "mix")) (aCons (eCon (.str "many")) (aCons (eCon (.str "any")) (aCons (eCon (.str "kind")) (aCons (eCon (.str "not")) (aCons (eCon (.str "both")) (aCons (eCon (.str "either")) (aCons (eCon (.str "way")) (aCons (eCon (.str "mark")) (aNil)))))))))))))))) (cSet 7 (eBin addD (eVar 7) (eCon (.str "z")))) (cNil)) [some (.int c), some (.ref S.length), some (.int w), some (.int pl), some (.int (0 + i)), none, u6, some (.str x)] S3 = .fl (.nx [some (.int c), some (.ref S.length), some (.int w), some (.int pl), some (.int (0 + i)), none, u6, some (.str z)]) (S3 ++ [Ob.lst (takenW.map .str)]) := by
          by_cases q : x ∈ takenW
          · refine ⟨x ++ "z", sk_app hxs (by decide +kernel), (if_t (S' := S3 ++ [Ob.lst (takenW.map .str)]) ?_).trans (set_of ?_)⟩
            · simp only [ev_var, ev_con, ev_bin, ev_un, ev_anil, ev_acons, ev_call, ev_tup, ev_lst, ev_not, ev_and, ev_or, ev_if, ev_cbl, ev_btrue, ev_cand, ev_cor, ev_cnot, ev_sli, ev_onone, ev_osome, ev_chain, ev_meth, ev_get2, ev_newK, ev_newT, ev_own, ev_nil, ev_seq, ev_expr, ev_set, ev_ret, ev_retN, ev_cif, ev_brk, ev_ct, ev_asg, ev_put, ev_aug, ev_for, ev_comp, ev_newL, ev_iseq, ev_irange, ev_ienum, ev_yes, Out.bind_ok, Out.bindN_ok, bindS_ok, Tg.set, Tg.sets, List.getElem?_cons_zero, List.getElem?_cons_succ, List.set_cons_zero, List.set_cons_succ, wipeE, List.length_cons, List.length_nil, Nat.reduceAdd, Nat.reduceLeDiff, Nat.reduceEqDiff, ↓reduceIte, Bool.false_eq_true, decide_eq_true_eq, add_int, sub_int, lt_int, gt_int, le_int, ge_int, neg_int, and_int, or_int, xor_int, max2_int, min2_int, mod_pos, fdiv_sm, mul_sm, mul_smr, Int.reduceLT, Int.reduceNeg, int_bl, int_int, sli_tup, inD, s12, et, mem, q, decide_true]
            · have : addD (.str x) (.str "z") (S3 ++ [Ob.lst (takenW.map .str)]) = .ok (.str (x ++ "z")) (S3 ++ [Ob.lst (takenW.map .str)]) := add_str (sline _ (by show x.length + 1 ≤ _; omega))
              simp only [ev_var, ev_con, ev_bin, ev_un, ev_anil, ev_acons, ev_call, ev_tup, ev_lst, ev_not, ev_and, ev_or, ev_if, ev_cbl, ev_btrue, ev_cand, ev_cor, ev_cnot, ev_sli, ev_onone, ev_osome, ev_chain, ev_meth, ev_get2, ev_newK, ev_newT, ev_own, ev_nil, ev_seq, ev_expr, ev_set, ev_ret, ev_retN, ev_cif, ev_brk, ev_ct, ev_asg, ev_put, ev_aug, ev_for, ev_comp, ev_newL, ev_iseq, ev_irange, ev_ienum, ev_yes, Out.bind_ok, Out.bindN_ok, bindS_ok, Tg.set, Tg.sets, List.getElem?_cons_zero, List.getElem?_cons_succ, List.set_cons_zero, List.set_cons_succ, wipeE, List.length_cons, List.length_nil, Nat.reduceAdd, Nat.reduceLeDiff, Nat.reduceEqDiff, ↓reduceIte, Bool.false_eq_true, decide_eq_true_eq, add_int, sub_int, lt_int, gt_int, le_int, ge_int, neg_int, and_int, or_int, xor_int, max2_int, min2_int, mod_pos, fdiv_sm, mul_sm, mul_smr, Int.reduceLT, Int.reduceNeg, int_bl, int_int, sli_tup, this]
          · refine ⟨x, hxs, (if_f (S' := S3 ++ [Ob.lst (takenW.map .str)]) ?_).trans rfl⟩
            simp only [ev_var, ev_con, ev_bin, ev_un, ev_anil, ev_acons, ev_call, ev_tup, ev_lst, ev_not, ev_and, ev_or, ev_if, ev_cbl, ev_btrue, ev_cand, ev_cor, ev_cnot, ev_sli, ev_onone, ev_osome, ev_chain, ev_meth, ev_get2, ev_newK, ev_newT, ev_own, ev_nil, ev_seq, ev_expr, ev_set, ev_ret, ev_retN, ev_cif, ev_brk, ev_ct, ev_asg, ev_put, ev_aug, ev_for, ev_comp, ev_newL, ev_iseq, ev_irange, ev_ienum, ev_yes, Out.bind_ok, Out.bindN_ok, bindS_ok, Tg.set, Tg.sets, List.getElem?_cons_zero, List.getElem?_cons_succ, List.set_cons_zero, List.set_cons_succ, wipeE, List.length_cons, List.length_nil, Nat.reduceAdd, Nat.reduceLeDiff, Nat.reduceEqDiff, ↓reduceIte, Bool.false_eq_true, decide_eq_true_eq, add_int, sub_int, lt_int, gt_int, le_int, ge_int, neg_int, and_int, or_int, xor_int, max2_int, min2_int, mod_pos, fdiv_sm, mul_sm, mul_smr, Int.reduceLT, Int.reduceNeg, int_bl, int_int, sli_tup, inD, s12, et, mem, q, decide_false]
        obtain ⟨z, hz, ez⟩ := key
        have hx3 := g3.at hx
        refine ⟨[some (.int c), some (.ref S.length), some (.int w), some (.int pl), some (.int (0 + i)), none, u6, some (.str z)], (S3 ++ [Ob.lst (takenW.map .str)]).set S.length (.lst ((ys ++ [z]).map .str)), .inl ?_, _, _, _, ys ++ [z], rfl, f'.trans (g3.any.trans (fr_set _ _ _)), at_set hx3, by simp [hy], fun y hy' => ?_⟩
        · unfold b_l_names_4
          refine (seq_of (set_of rfl)).trans ?_
          refine (seq_of ((for_of (w := (rangeL 0 w, .tt)) (S' := S3) (by simp only [ev_var, ev_con, ev_bin, ev_un, ev_anil, ev_acons, ev_call, ev_tup, ev_lst, ev_not, ev_and, ev_or, ev_if, ev_cbl, ev_btrue, ev_cand, ev_cor, ev_cnot, ev_sli, ev_onone, ev_osome, ev_chain, ev_meth, ev_get2, ev_newK, ev_newT, ev_own, ev_nil, ev_seq, ev_expr, ev_set, ev_ret, ev_retN, ev_cif, ev_brk, ev_ct, ev_asg, ev_put, ev_aug, ev_for, ev_comp, ev_newL, ev_iseq, ev_irange, ev_ienum, ev_yes, Out.bind_ok, Out.bindN_ok, bindS_ok, Tg.set, Tg.sets, List.getElem?_cons_zero, List.getElem?_cons_succ, List.set_cons_zero, List.set_cons_succ, wipeE, List.length_cons, List.length_nil, Nat.reduceAdd, Nat.reduceLeDiff, Nat.reduceEqDiff, ↓reduceIte, Bool.false_eq_true, decide_eq_true_eq, add_int, sub_int, lt_int, gt_int, le_int, ge_int, neg_int, and_int, or_int, xor_int, max2_int, min2_int, mod_pos, fdiv_sm, mul_sm, mul_smr, Int.reduceLT, Int.reduceNeg, int_bl, int_int, sli_tup, rng1_of (i := w) (by omega) (by omega)])).trans e3)).trans ?_
          refine (seq_of ez).trans ?_
          refine expr_of (d := .non) ?_
          have em : (ys ++ [z]).map Dv.str = ys.map .str ++ [.str z] := by rw [List.map_append]; rfl
          simp only [ev_var, ev_con, ev_bin, ev_un, ev_anil, ev_acons, ev_call, ev_tup, ev_lst, ev_not, ev_and, ev_or, ev_if, ev_cbl, ev_btrue, ev_cand, ev_cor, ev_cnot, ev_sli, ev_onone, ev_osome, ev_chain, ev_meth, ev_get2, ev_newK, ev_newT, ev_own, ev_nil, ev_seq, ev_expr, ev_set, ev_ret, ev_retN, ev_cif, ev_brk, ev_ct, ev_asg, ev_put, ev_aug, ev_for, ev_comp, ev_newL, ev_iseq, ev_irange, ev_ienum, ev_yes, Out.bind_ok, Out.bindN_ok, bindS_ok, Tg.set, Tg.sets, List.getElem?_cons_zero, List.getElem?_cons_succ, List.set_cons_zero, List.set_cons_succ, wipeE, List.length_cons, List.length_nil, Nat.reduceAdd, Nat.reduceLeDiff, Nat.reduceEqDiff, ↓reduceIte, Bool.false_eq_true, decide_eq_true_eq, add_int, sub_int, lt_int, gt_int, le_int, ge_int, neg_int, and_int, or_int, xor_int, max2_int, min2_int, mod_pos, fdiv_sm, mul_sm, mul_smr, Int.reduceLT, Int.reduceNeg, int_bl, int_int, sli_tup, tyq_ref hx3, app_ref hx3 (show (ys.map Dv.str).length < sizeLine by rw [List.length_map]; show _ < 2 ^ 24; omega), em]
        · rcases List.mem_append.mp hy' with hy' | hy'
          · exact hys y hy'
          · rw [List.mem_singleton] at hy'; subst hy'; exact hz)
      (fun _ _ _ => trivial)
    rw [rangeL_len] at hy
    refine ⟨S.length, ys, S', runF_rt (ρ := [some (.int c), none, none, none, none, none, none, none]) rfl rfl ?_, Gr.new g0 f' (fun l z => by omega), Nat.le_refl _, ⟨hx, hy, hys⟩⟩
    unfold c_l_names
    refine (seq_of (by simp only [ev_var, ev_con, ev_bin, ev_un, ev_anil, ev_acons, ev_call, ev_tup, ev_lst, ev_not, ev_and, ev_or, ev_if, ev_cbl, ev_btrue, ev_cand, ev_cor, ev_cnot, ev_sli, ev_onone, ev_osome, ev_chain, ev_meth, ev_get2, ev_newK, ev_newT, ev_own, ev_nil, ev_seq, ev_expr, ev_set, ev_ret, ev_retN, ev_cif, ev_brk, ev_ct, ev_asg, ev_put, ev_aug, ev_for, ev_comp, ev_newL, ev_iseq, ev_irange, ev_ienum, ev_yes, Out.bind_ok, Out.bindN_ok, bindS_ok, Tg.set, Tg.sets, List.getElem?_cons_zero, List.getElem?_cons_succ, List.set_cons_zero, List.set_cons_succ, wipeE, List.length_cons, List.length_nil, Nat.reduceAdd, Nat.reduceLeDiff, Nat.reduceEqDiff, ↓reduceIte, Bool.false_eq_true, decide_eq_true_eq, add_int, sub_int, lt_int, gt_int, le_int, ge_int, neg_int, and_int, or_int, xor_int, max2_int, min2_int, mod_pos, fdiv_sm, mul_sm, mul_smr, Int.reduceLT, Int.reduceNeg, int_bl, int_int, sli_tup, sline 0 (by omega)]; rfl)).trans ?_
    refine (seq_of ((if_f (S' := S ++ [Ob.lst []]) (by simp only [ev_var, ev_con, ev_bin, ev_un, ev_anil, ev_acons, ev_call, ev_tup, ev_lst, ev_not, ev_and, ev_or, ev_if, ev_cbl, ev_btrue, ev_cand, ev_cor, ev_cnot, ev_sli, ev_onone, ev_osome, ev_chain, ev_meth, ev_get2, ev_newK, ev_newT, ev_own, ev_nil, ev_seq, ev_expr, ev_set, ev_ret, ev_retN, ev_cif, ev_brk, ev_ct, ev_asg, ev_put, ev_aug, ev_for, ev_comp, ev_newL, ev_iseq, ev_irange, ev_ienum, ev_yes, Out.bind_ok, Out.bindN_ok, bindS_ok, Tg.set, Tg.sets, List.getElem?_cons_zero, List.getElem?_cons_succ, List.set_cons_zero, List.set_cons_succ, wipeE, List.length_cons, List.length_nil, Nat.reduceAdd, Nat.reduceLeDiff, Nat.reduceEqDiff, ↓reduceIte, Bool.false_eq_true, decide_eq_true_eq, add_int, sub_int, lt_int, gt_int, le_int, ge_int, neg_int, and_int, or_int, xor_int, max2_int, min2_int, mod_pos, fdiv_sm, mul_sm, mul_smr, Int.reduceLT, Int.reduceNeg, int_bl, int_int, sli_tup, m40, eq_int, q, decide_false])).trans rfl)).trans ?_
    refine (seq_of (set_of (d := .int w) (S' := S ++ [Ob.lst []]) (by simp only [ev_var, ev_con, ev_bin, ev_un, ev_anil, ev_acons, ev_call, ev_tup, ev_lst, ev_not, ev_and, ev_or, ev_if, ev_cbl, ev_btrue, ev_cand, ev_cor, ev_cnot, ev_sli, ev_onone, ev_osome, ev_chain, ev_meth, ev_get2, ev_newK, ev_newT, ev_own, ev_nil, ev_seq, ev_expr, ev_set, ev_ret, ev_retN, ev_cif, ev_brk, ev_ct, ev_asg, ev_put, ev_aug, ev_for, ev_comp, ev_newL, ev_iseq, ev_irange, ev_ienum, ev_yes, Out.bind_ok, Out.bindN_ok, bindS_ok, Tg.set, Tg.sets, List.getElem?_cons_zero, List.getElem?_cons_succ, List.set_cons_zero, List.set_cons_succ, wipeE, List.length_cons, List.length_nil, Nat.reduceAdd, Nat.reduceLeDiff, Nat.reduceEqDiff, ↓reduceIte, Bool.false_eq_true, decide_eq_true_eq, add_int, sub_int, lt_int, gt_int, le_int, ge_int, neg_int, and_int, or_int, xor_int, max2_int, min2_int, mod_pos, fdiv_sm, mul_sm, mul_smr, Int.reduceLT, Int.reduceNeg, int_bl, int_int, sli_tup, m41, hw]))).trans ?_
    refine (seq_of (set_of (d := .int pl) (S' := S ++ [Ob.lst []]) (by simp only [ev_var, ev_con, ev_bin, ev_un, ev_anil, ev_acons, ev_call, ev_tup, ev_lst, ev_not, ev_and, ev_or, ev_if, ev_cbl, ev_btrue, ev_cand, ev_cor, ev_cnot, ev_sli, ev_onone, ev_osome, ev_chain, ev_meth, ev_get2, ev_newK, ev_newT, ev_own, ev_nil, ev_seq, ev_expr, ev_set, ev_ret, ev_retN, ev_cif, ev_brk, ev_ct, ev_asg, ev_put, ev_aug, ev_for, ev_comp, ev_newL, ev_iseq, ev_irange, ev_ienum, ev_yes, Out.bind_ok, Out.bindN_ok, bindS_ok, Tg.set, Tg.sets, List.getElem?_cons_zero, List.getElem?_cons_succ, List.set_cons_zero, List.set_cons_succ, wipeE, List.length_cons, List.length_nil, Nat.reduceAdd, Nat.reduceLeDiff, Nat.reduceEqDiff, ↓reduceIte, Bool.false_eq_true, decide_eq_true_eq, add_int, sub_int, lt_int, gt_int, le_int, ge_int, neg_int, and_int, or_int, xor_int, max2_int, min2_int, mod_pos, fdiv_sm, mul_sm, mul_smr, Int.reduceLT, Int.reduceNeg, int_bl, int_int, sli_tup, m42, md]))).trans ?_
    exact (seq_of ((for_of (w := (rangeL 0 5, .tt)) (S' := S ++ [Ob.lst []]) (by simp only [ev_var, ev_con, ev_bin, ev_un, ev_anil, ev_acons, ev_call, ev_tup, ev_lst, ev_not, ev_and, ev_or, ev_if, ev_cbl, ev_btrue, ev_cand, ev_cor, ev_cnot, ev_sli, ev_onone, ev_osome, ev_chain, ev_meth, ev_get2, ev_newK, ev_newT, ev_own, ev_nil, ev_seq, ev_expr, ev_set, ev_ret, ev_retN, ev_cif, ev_brk, ev_ct, ev_asg, ev_put, ev_aug, ev_for, ev_comp, ev_newL, ev_iseq, ev_irange, ev_ienum, ev_yes, Out.bind_ok, Out.bindN_ok, bindS_ok, Tg.set, Tg.sets, List.getElem?_cons_zero, List.getElem?_cons_succ, List.set_cons_zero, List.set_cons_succ, wipeE, List.length_cons, List.length_nil, Nat.reduceAdd, Nat.reduceLeDiff, Nat.reduceEqDiff, ↓reduceIte, Bool.false_eq_true, decide_eq_true_eq, add_int, sub_int, lt_int, gt_int, le_int, ge_int, neg_int, and_int, or_int, xor_int, max2_int, min2_int, mod_pos, fdiv_sm, mul_sm, mul_smr, Int.reduceLT, Int.reduceNeg, int_bl, int_int, sli_tup, rng1_of (i := 5) (by omega) (by omega)])).trans e)).trans (ret_of rfl)
/-! trees, plainly -/
inductive Tr where
  | nd (k : Str) (ps : List Tr)
def kdT : Tr → Str
  | .nd k _ => k
def ptT : Tr → List Tr
  | .nd _ ps => ps
mutual
def flat : Tr → Nat → List (Nat × Str)
  | .nd k ps, d => (d, k) :: flats ps (d + 1)
def flats : List Tr → Nat → List (Nat × Str)
  | [], _ => []
  | t :: ts, d => flat t d ++ flats ts d
end
mutual
def subs : Tr → List Tr
  | .nd k ps => .nd k ps :: subss ps
def subss : List Tr → List Tr
  | [] => []
  | t :: ts => subs t ++ subss ts
end
mutual
def plc : Tr → List Nat → List (List Nat)
  | .nd _ ps, p => p :: plcs ps p 0
def plcs : List Tr → List Nat → Nat → List (List Nat)
  | [], _, _ => []
  | t :: ts, p, i => plc t (p ++ [i]) ++ plcs ts p (i + 1)
end
mutual
def siz : Tr → Nat
  | .nd _ ps => 1 + sizs ps
def sizs : List Tr → Nat
  | [] => 0
  | t :: ts => siz t + sizs ts
end
mutual
theorem flat_len : ∀ (t : Tr) (d : Nat), (flat t d).length = siz t
  | .nd k ps, d => by rw [flat, siz, List.length_cons, flats_len ps]; omega
theorem flats_len : ∀ (ts : List Tr) (d : Nat), (flats ts d).length = sizs ts
  | [], d => by rw [flats, sizs]; rfl
  | t :: ts, d => by rw [flats, sizs, List.length_append, flat_len t, flats_len ts]
end
mutual
theorem subs_len : ∀ (t : Tr), (subs t).length = siz t
  | .nd k ps => by rw [subs, siz, List.length_cons, subss_len ps]; omega
theorem subss_len : ∀ (ts : List Tr), (subss ts).length = sizs ts
  | [] => by rw [subss, sizs]; rfl
  | t :: ts => by rw [subss, sizs, List.length_append, subs_len t, subss_len ts]
end
mutual
theorem plc_len : ∀ (t : Tr) (p : List Nat), (plc t p).length = siz t
  | .nd k ps, p => by rw [plc, siz, List.length_cons, plcs_len ps]; omega
theorem plcs_len : ∀ (ts : List Tr) (p : List Nat) (i : Nat), (plcs ts p i).length = sizs ts
  | [], p, i => by rw [plcs, sizs]; rfl
  | t :: ts, p, i => by rw [plcs, sizs, List.length_append, plc_len t, plcs_len ts]
end
/-- what is held at each depth behind the rows, gone from the last -/
def hold : List (Nat × Str) → Nat → List Tr
  | [], _ => []
  | x :: r, e => if e = x.1 + 1 then [] else if e = x.1 then .nd x.2 (hold r (x.1 + 1)) :: hold r x.1 else hold r e
def trs : List (Nat × Str) → List Tr
  | [] => []
  | x :: r => .nd x.2 (hold r (x.1 + 1)) :: trs r
mutual
theorem hold_flat : ∀ (t : Tr) (d : Nat) (r : List (Nat × Str)), (∀ e, d < e → hold r e = []) → ∀ e, hold (flat t d ++ r) e = if e = d then t :: hold r d else hold r e
  | .nd k ps, d, r, h, e => by
    have ih := hold_flats ps (d + 1) r (fun e he => h e (by omega))
    rw [flat, List.cons_append, hold]
    show (if e = d + 1 then [] else if e = d then Tr.nd k (hold (flats ps (d + 1) ++ r) (d + 1)) :: hold (flats ps (d + 1) ++ r) d else hold (flats ps (d + 1) ++ r) e) = _
    rw [ih (d + 1), ih d, ih e, if_pos rfl, h (d + 1) (by omega), List.append_nil, if_neg (by omega : ¬ d = d + 1)]
    by_cases q1 : e = d + 1
    · rw [if_pos q1, if_neg (by omega), h e (by omega)]
    · rw [if_neg q1, if_neg q1]
theorem hold_flats : ∀ (ts : List Tr) (d : Nat) (r : List (Nat × Str)), (∀ e, d < e → hold r e = []) → ∀ e, hold (flats ts d ++ r) e = if e = d then ts ++ hold r d else hold r e
  | [], d, r, h, e => by
    rw [flats, List.nil_append]
    by_cases q : e = d
    · rw [if_pos q, q]; rfl
    · rw [if_neg q]
  | t :: ts, d, r, h, e => by
    have ih2 := hold_flats ts d r h
    have h' : ∀ e, d < e → hold (flats ts d ++ r) e = [] := fun e he => by rw [ih2 e, if_neg (by omega), h e he]
    rw [flats, List.append_assoc, hold_flat t d (flats ts d ++ r) h' e, ih2 d, if_pos rfl, ih2 e]
    by_cases q : e = d
    · rw [if_pos q, if_pos q]; rfl
    · rw [if_neg q, if_neg q, if_neg q]
end
mutual
theorem trs_flat : ∀ (t : Tr) (d : Nat) (r : List (Nat × Str)), (∀ e, d < e → hold r e = []) → trs (flat t d ++ r) = subs t ++ trs r
  | .nd k ps, d, r, h => by
    have ih := hold_flats ps (d + 1) r (fun e he => h e (by omega)) (d + 1)
    have it := trs_flats ps (d + 1) r (fun e he => h e (by omega))
    rw [if_pos rfl, h (d + 1) (by omega), List.append_nil] at ih
    rw [flat, List.cons_append, trs, subs, List.cons_append]
    show Tr.nd k (hold (flats ps (d + 1) ++ r) (d + 1)) :: trs (flats ps (d + 1) ++ r) = _
    rw [ih, it]
theorem trs_flats : ∀ (ts : List Tr) (d : Nat) (r : List (Nat × Str)), (∀ e, d < e → hold r e = []) → trs (flats ts d ++ r) = subss ts ++ trs r
  | [], d, r, h => by rw [flats, subss]; rfl
  | t :: ts, d, r, h => by
    have ih2 := hold_flats ts d r h
    have h' : ∀ e, d < e → hold (flats ts d ++ r) e = [] := fun e he => by rw [ih2 e, if_neg (by omega), h e he]
    rw [flats, List.append_assoc, trs_flat t d (flats ts d ++ r) h', trs_flats ts d r h, subss, List.append_assoc]
end
theorem trs_tree (t : Tr) : trs (flat t 0) = subs t := by
  have := trs_flat t 0 [] (fun e _ => rfl)
  rw [List.append_nil] at this
  rw [this]; exact List.append_nil _
theorem trs_len : ∀ R : List (Nat × Str), (trs R).length = R.length
  | [] => rfl
  | x :: r => by rw [trs, List.length_cons, List.length_cons, trs_len r]
/-! rows that step by one -/
def Stp : Nat → List (Nat × Str) → Prop
  | _, [] => True
  | d, x :: r => x.1 ≤ d + 1 ∧ Stp x.1 r
def lastD : Nat → List (Nat × Str) → Nat
  | d, [] => d
  | _, x :: r => lastD x.1 r
theorem stp_left : ∀ {A B : List (Nat × Str)} {d : Nat}, Stp d (A ++ B) → Stp d A
  | [], _, _, _ => trivial
  | _ :: _, _, _, h => ⟨h.1, stp_left h.2⟩
theorem stp_right : ∀ {A : List (Nat × Str)} {z : Nat × Str} {B : List (Nat × Str)} {d : Nat}, Stp d (A ++ z :: B) → Stp z.1 B
  | [], _, _, _, h => h.2
  | _ :: _, _, _, _, h => stp_right h.2
theorem stp_snoc : ∀ {A : List (Nat × Str)} {x : Nat × Str} {d : Nat}, Stp d A → x.1 ≤ lastD d A + 1 → Stp d (A ++ [x])
  | [], _, _, _, h => ⟨h, trivial⟩
  | _ :: _, _, _, k, h => ⟨k.1, stp_snoc k.2 h⟩
theorem lastD_snoc : ∀ (A : List (Nat × Str)) (x : Nat × Str) (d : Nat), lastD d (A ++ [x]) = x.1
  | [], _, _ => rfl
  | y :: A, x, _ => lastD_snoc A x y.1
theorem mem_tw {α : Type} {f : α → Bool} : ∀ {l : List α} {y : α}, y ∈ l.takeWhile f → f y = true
  | [], _, h => by simp at h
  | x :: r, y, h => by
    rw [List.takeWhile_cons] at h
    split at h
    · rename_i q
      rcases List.mem_cons.mp h with rfl | h
      · exact q
      · exact mem_tw h
    · simp at h
theorem parse : ∀ (n : Nat) (R : List (Nat × Str)) (d : Nat), R.length ≤ n → (∀ x ∈ R, d ≤ x.1) → (R = [] ∨ ∃ x r, R = x :: r ∧ x.1 = d ∧ Stp d r) → ∃ ts, R = flats ts d
  | _, [], d, _, _, _ => ⟨[], by rw [flats]⟩
  | 0, x :: r, d, h, _, _ => by simp at h
  | n + 1, x :: r, d, hn, hd, hx => by
    rcases hx with hx | ⟨x', r', e, ex, hs⟩
    · cases hx
    injection e with e1 e2
    subst e1 e2
    have eq : r = r.takeWhile (fun y => decide (d < y.1)) ++ r.dropWhile (fun y => decide (d < y.1)) := (List.takeWhile_append_dropWhile).symm
    have hA : ∀ y ∈ r.takeWhile (fun y => decide (d < y.1)), d + 1 ≤ y.1 := fun y hy => by
      exact of_decide_eq_true (mem_tw (f := fun y : Nat × Str => decide (d < y.1)) hy)
    have hB : r.dropWhile (fun y => decide (d < y.1)) = [] ∨ ∃ z B, r.dropWhile (fun y => decide (d < y.1)) = z :: B ∧ ¬ d < z.1 := by
      cases q : r.dropWhile (fun y => decide (d < y.1)) with
      | nil => exact .inl rfl
      | cons z B =>
        refine .inr ⟨z, B, rfl, fun hz => ?_⟩
        have := List.head_dropWhile_not (fun y : Nat × Str => decide (d < y.1)) (l := r) (by rw [q]; simp)
        simp only [q, List.head_cons] at this
        rw [decide_eq_true hz] at this
        cases this
    generalize r.takeWhile (fun y => decide (d < y.1)) = A at eq hA
    generalize r.dropWhile (fun y => decide (d < y.1)) = B at eq hB
    subst eq
    rw [List.length_cons, List.length_append] at hn
    obtain ⟨ps, hps⟩ : ∃ ps, A = flats ps (d + 1) := by
      refine parse n A (d + 1) (by omega) hA ?_
      cases A with
      | nil => exact .inl rfl
      | cons y A' =>
        have h1 := hA y List.mem_cons_self
        have h2 := hs.1
        have e : y.1 = d + 1 := by omega
        refine .inr ⟨y, A', rfl, e, ?_⟩
        rw [← e]; exact stp_left hs.2
    obtain ⟨ts, hts⟩ : ∃ ts, B = flats ts d := by
      refine parse n B d (by omega) (fun y hy => hd y (by simp [hy])) ?_
      rcases hB with rfl | ⟨z, B', rfl, hz⟩
      · exact .inl rfl
      · have h1 := hd z (by simp)
        have e : z.1 = d := by omega
        exact .inr ⟨z, B', rfl, e, by rw [← e]; exact stp_right hs⟩
    refine ⟨.nd x.2 ps :: ts, ?_⟩
    rw [flats, flat, ← hps, ← hts, ← ex, List.cons_append]
theorem parse_tree {k0 : Str} {rest : List (Nat × Str)} (h1 : ∀ x ∈ rest, 1 ≤ x.1) (hs : Stp 0 rest) : ∃ ps, rest = flats ps 1 := by
  refine parse rest.length rest 1 (Nat.le_refl _) h1 ?_
  cases rest with
  | nil => exact .inl rfl
  | cons x r =>
    have a := h1 x List.mem_cons_self
    have b := hs.1
    have e : x.1 = 1 := by omega
    exact .inr ⟨x, r, rfl, e, by rw [← e]; exact hs.2⟩
/-! spots -/
def nxt (last : List Nat) (d : Nat) : List Nat := if last.length < d then last ++ [0] else last.take (d - 1) ++ [last.getD (d - 1) 0 + 1]
def scan : List Nat → List (Nat × Str) → List (List Nat)
  | _, [] => []
  | last, x :: r => nxt last x.1 :: scan (nxt last x.1) r
def endS : List Nat → List (Nat × Str) → List Nat
  | last, [] => last
  | last, x :: r => endS (nxt last x.1) r
def Cnd (p : List Nat) (i : Nat) (last : List Nat) : Prop := (i = 0 ∧ last = p) ∨ ∃ j s, i = j + 1 ∧ last = p ++ j :: s
theorem nxt_cnd {p last : List Nat} {i : Nat} (h : Cnd p i last) : nxt last (p.length + 1) = p ++ [i] := by
  unfold nxt
  rcases h with ⟨rfl, rfl⟩ | ⟨j, s, rfl, rfl⟩
  · rw [if_pos (by omega)]
  · rw [if_neg (by rw [List.length_append, List.length_cons]; omega), Nat.add_sub_cancel, List.take_left' rfl]
    congr 2
    rw [List.getD_eq_getElem?_getD, List.getElem?_append_right (Nat.le_refl _), Nat.sub_self]; rfl
mutual
theorem scan_flat : ∀ (t : Tr) (p : List Nat) (i : Nat) (last : List Nat) (r : List (Nat × Str)), Cnd p i last → scan last (flat t (p.length + 1) ++ r) = plc t (p ++ [i]) ++ scan (endS last (flat t (p.length + 1))) r ∧ Cnd p (i + 1) (endS last (flat t (p.length + 1)))
  | .nd k ps, p, i, last, r, h => by
    have hn := nxt_cnd h
    have ih := scan_flats ps (p ++ [i]) 0 (p ++ [i]) r (.inl ⟨rfl, rfl⟩)
    have hl : (p ++ [i]).length + 1 = p.length + 1 + 1 := by rw [List.length_append]; rfl
    rw [hl] at ih
    rw [flat, List.cons_append, scan, plc, endS]
    simp only [hn]
    refine ⟨by rw [ih.1, List.cons_append], .inr ?_⟩
    rcases ih.2 with ⟨_, e⟩ | ⟨j, s, _, e⟩
    · exact ⟨i, [], rfl, by rw [e]⟩
    · exact ⟨i, j :: s, rfl, by rw [e, List.append_assoc]; rfl⟩
theorem scan_flats : ∀ (ts : List Tr) (p : List Nat) (i : Nat) (last : List Nat) (r : List (Nat × Str)), Cnd p i last → scan last (flats ts (p.length + 1) ++ r) = plcs ts p i ++ scan (endS last (flats ts (p.length + 1))) r ∧ Cnd p (i + ts.length) (endS last (flats ts (p.length + 1)))
  | [], p, i, last, r, h => by rw [flats, plcs, endS]; exact ⟨rfl, h⟩
  | t :: ts, p, i, last, r, h => by
    obtain ⟨e1, h1⟩ := scan_flat t p i last (flats ts (p.length + 1) ++ r) h
    obtain ⟨e2, h2⟩ := scan_flats ts p (i + 1) _ r h1
    have ea : ∀ (A B : List (Nat × Str)) (l : List Nat), endS l (A ++ B) = endS (endS l A) B := fun A => by
      induction A with
      | nil => exact fun B l => rfl
      | cons x A ih => exact fun B l => ih B _
    rw [flats, List.append_assoc, e1, e2, plcs, List.append_assoc, ea, List.length_cons, show i + (ts.length + 1) = i + 1 + ts.length by omega]
    exact ⟨rfl, h2⟩
end
theorem spots_tree (k : Str) (ps : List Tr) : [] :: scan [] (flats ps 1) = plc (.nd k ps) [] := by
  have := (scan_flats ps [] 0 [] [] (.inl ⟨rfl, rfl⟩)).1
  rw [List.append_nil, scan, List.append_nil] at this
  rw [plc, ← this]; rfl
/-! the tree at a place -/
def sub : Tr → List Nat → Option Tr
  | t, [] => some t
  | t, i :: p => match (ptT t)[i]? with
    | some c => sub c p
    | none => none
mutual
theorem zip_plc : ∀ (t : Tr) (p : List Nat) (x : List Nat × Tr), x ∈ (plc t p).zip (subs t) → ∃ w, x.1 = p ++ w ∧ sub t w = some x.2
  | .nd k ps, p, x, h => by
    rw [plc, subs, List.zip_cons_cons] at h
    rcases List.mem_cons.mp h with rfl | h
    · exact ⟨[], (List.append_nil _).symm, rfl⟩
    · obtain ⟨j, w, c, e, h1, h2⟩ := zip_plcs ps p 0 x h
      refine ⟨j :: w, by rw [e, Nat.zero_add], ?_⟩
      rw [sub]
      show (match ps[j]? with | some c => sub c w | none => none) = _
      rw [h1]; exact h2
theorem zip_plcs : ∀ (ts : List Tr) (p : List Nat) (i : Nat) (x : List Nat × Tr), x ∈ (plcs ts p i).zip (subss ts) → ∃ j w c, x.1 = p ++ (i + j) :: w ∧ ts[j]? = some c ∧ sub c w = some x.2
  | [], p, i, x, h => by rw [plcs, subss] at h; simp at h
  | t :: ts, p, i, x, h => by
    rw [plcs, subss, List.zip_append (by rw [plc_len, subs_len])] at h
    rcases List.mem_append.mp h with h | h
    · obtain ⟨w, e, h1⟩ := zip_plc t (p ++ [i]) x h
      exact ⟨0, w, t, by rw [e, List.append_assoc]; rfl, rfl, h1⟩
    · obtain ⟨j, w, c, e, h1, h2⟩ := zip_plcs ts p (i + 1) x h
      exact ⟨j + 1, w, c, by rw [e, show i + 1 + j = i + (j + 1) by omega], h1, h2⟩
end
/-! trees as data -/
mutual
def trD : Tr → Dv
  | .nd k ps => .tup [.str k, .tup (trDs ps)]
def trDs : List Tr → List Dv
  | [] => []
  | t :: ts => trD t :: trDs ts
end
theorem trDs_map : ∀ ts : List Tr, trDs ts = ts.map trD
  | [] => by rw [trDs]; rfl
  | t :: ts => by rw [trDs, trDs_map ts]; rfl
mutual
def trP : Tr → PyData
  | .nd k ps => .tuple [.str k, .tuple (trPs ps)]
def trPs : List Tr → List PyData
  | [] => []
  | t :: ts => trP t :: trPs ts
end
mutual
theorem toP_tr : ∀ (t : Tr) (f : Nat) (S : Sto), 2 * siz t < f → toP f S (trD t) = some (trP t)
  | .nd k ps, f, S, h => by
    rw [siz] at h
    obtain ⟨f, rfl⟩ : ∃ g, f = g + 2 := ⟨f - 2, by omega⟩
    have ih := toPs_tr ps f S (by omega)
    simp only [trD, trP, toP, toPs, ih, Option.map_some]
theorem toPs_tr : ∀ (ts : List Tr) (f : Nat) (S : Sto), 2 * sizs ts < f → toPs f S (trDs ts) = some (trPs ts)
  | [], f, S, h => by simp only [trDs, trPs, toPs]
  | t :: ts, f, S, h => by
    rw [sizs] at h
    simp only [trDs, trPs, toPs, toP_tr t f S (by omega), toPs_tr ts f S (by omega)]
end
mutual
theorem dep_tr : ∀ (t : Tr), (trP t).depth ≤ 2 * siz t
  | .nd k ps => by
    have ih := deps_tr ps
    rw [trP, siz, PyData.depth, PyData.depthAll, PyData.depthAll, PyData.depthAll, PyData.depth, PyData.depth]
    omega
theorem deps_tr : ∀ (ts : List Tr), PyData.depthAll (trPs ts) ≤ 2 * sizs ts
  | [] => by rw [trPs, PyData.depthAll]; exact Nat.zero_le _
  | t :: ts => by
    have h1 := dep_tr t
    have h2 := deps_tr ts
    rw [trPs, sizs, PyData.depthAll]
    omega
end
mutual
theorem lay_tr : ∀ (t : Tr) (d : Nat), (∀ x ∈ flat t d, Sk x.2) → (trP t).canLay0 = true
  | .nd k ps, d, h => by
    have ih := lays_tr ps (d + 1) (fun x hx => h x (by rw [flat]; exact List.mem_cons_of_mem _ hx))
    have hk : PyData.strOk k = true := h (d, k) (by rw [flat]; exact List.mem_cons_self)
    rw [trP, PyData.canLay0, PyData.canLayAll0, PyData.canLayAll0, PyData.canLayAll0, PyData.canLay0, PyData.canLay0, ih, hk]; rfl
theorem lays_tr : ∀ (ts : List Tr) (d : Nat), (∀ x ∈ flats ts d, Sk x.2) → PyData.canLayAll0 (trPs ts) = true
  | [], d, h => by rw [trPs, PyData.canLayAll0]
  | t :: ts, d, h => by
    have h1 := lay_tr t d (fun x hx => h x (by rw [flats]; exact List.mem_append_left _ hx))
    have h2 := lays_tr ts d (fun x hx => h x (by rw [flats]; exact List.mem_append_right _ hx))
    rw [trPs, PyData.canLayAll0, h1, h2]; rfl
end
mutual
theorem eqv_tr : ∀ (t : Tr), PyData.eqv (trP t) (trP t) = true
  | .nd k ps => by
    have ih := eqvs_tr ps
    simp only [trP, PyData.eqv, PyData.eqvAll, ih, beq_self_eq_true, Bool.and_self, Bool.and_true]
theorem eqvs_tr : ∀ (ts : List Tr), PyData.eqvAll (trPs ts) (trPs ts) = true
  | [] => by simp only [trPs, PyData.eqvAll]
  | t :: ts => by simp only [trPs, PyData.eqvAll, eqv_tr t, eqvs_tr ts, Bool.and_self]
end
/-! the law's rows, trees and spots -/
theorem tcut_to {α : Type} (ds : List α) (t : Nat) : cutD ds none (some (t : Int)) = ds.take t := by
  unfold cutD HT.sIx
  simp only [show ¬ ((t : Int) < 0) by omega, ↓reduceIte, Int.toNat_natCast, List.drop_zero, Nat.sub_zero]
  rcases Nat.le_total t ds.length with h | h
  · rw [Nat.min_eq_left h]
  · rw [Nat.min_eq_right h, List.take_length, List.take_of_length_le h]
theorem tcut_from {α : Type} (ds : List α) (t : Nat) : cutD ds (some (t : Int)) none = ds.drop t := by
  unfold cutD HT.sIx
  simp only [show ¬ ((t : Int) < 0) by omega, ↓reduceIte, Int.toNat_natCast]
  rcases Nat.le_total t ds.length with h | h
  · rw [Nat.min_eq_left h, List.take_of_length_le (by simp)]
  · rw [Nat.min_eq_right h, List.drop_of_length_le (Nat.le_refl _), List.drop_of_length_le h]; simp
theorem tadd_tup {S : Sto} {a b : List Dv} (h : a.length + b.length ≤ sizeLine) : addD (.tup a) (.tup b) S = .ok (.tup (a ++ b)) S := by simp only [addD, h, ↓reduceIte]
theorem tcut_map {α β : Type} (g : α → β) (xs : List α) (lo hi : Option Int) : cutD (xs.map g) lo hi = (cutD xs lo hi).map g := by
  unfold cutD; rw [List.length_map, List.map_take, List.map_drop]
theorem tsli_ref {S : Sto} {l : Nat} {ds : List Dv} (h : S[l]? = some (.lst ds)) (lo hi : Option Int) : sliD (.ref l) lo hi S = newL (cutD ds lo hi) S := by simp only [sliD, lst_ref h]
theorem tsli_fl {S : Sto} {xs : List Dv} (lo hi : Option Int) : sliD (.fl xs) lo hi S = newL (cutD xs lo hi) S := by simp only [sliD, lstOf]
theorem tints : ∀ ns : List Int, intsOf (ns.map .int) = some ns
  | [] => rfl
  | n :: ns => by rw [List.map_cons, intsOf, tints ns]; rfl
theorem tsum_run {S : Sto} {l : Nat} {ns : List Int} (h : S[l]? = some (.lst (ns.map .int))) : sumD [.ref l] S = .ok (.int ns.sum) S := by
  simp only [sumD, lst_ref h, Option.bind_some, tints]
theorem tsum_fl {ns : List Int} (lo hi : Option Int) (S : Sto) : ∃ (c : Int) (S' : Sto), (∀ (ρ : PL.Env) (rl rh : RO), ρ[0]? = some (some (.fl (ns.map .int))) → rl ρ S = .ok lo S → rh ρ S = .ok hi S → eCall sumD (aCons (eSli (eVar 0) rl rh) aNil) ρ S = .ok (.int c) S') ∧ Gr S S' := by
  have s0 := tsum_run (at_new S (.lst ((cutD ns lo hi).map .int)))
  refine ⟨(cutD ns lo hi).sum, S ++ [Ob.lst ((cutD ns lo hi).map .int)], fun ρ rl rh h0 h1 h2 => ?_, gr_app _ _⟩
  simp only [ev_call, ev_acons, ev_anil, ev_sli, ev_var, h0, h1, h2, Out.bind_ok, tsli_fl, tcut_map, ev_newL, s0]
theorem most_run {f m : Nat} {ns : List Int} {S : Sto} (hm : 1 ≤ m) : ∃ (q : Nat) (S' : Sto), F (f + 2) .l_most [.fl (ns.map .int), .int (m : Int)] S = .ok (.int (q : Int)) S' ∧ Gr S S' ∧ 1 ≤ q ∧ q ≤ max 6 m := by
  rw [F_l_most]
  obtain ⟨c, S1, e1, g1⟩ := tsum_fl (ns := ns) none (some 1) S
  have m44 := mix_run (f := f) (c := c) (k := 44) (S := S1) (by omega) (by omega)
  have mp := mx_pos c 44
  have st : ∀ {b : RC} {o : OutS}, b [some (.fl (ns.map .int)), some (.int (m : Int)), some (.int (mx c 44))] S1 = o → cSeq (cSet 2 (eOwn 2 (F (f + 1) .l_mix) (aCons (eCall sumD (aCons (eSli (eVar 0) (oNone) (oSome (eCon (.int 1)))) (aNil))) (aCons (eCon (.int 44)) (aNil))))) b [some (.fl (ns.map .int)), some (.int (m : Int)), none] S = o := fun {b o} hb =>
    (seq_of (set_of (d := .int (mx c 44)) (S' := S1) (by rw [ev_own, ev_acons, e1 _ _ _ rfl (by simp only [ev_var, ev_con, ev_bin, ev_un, ev_anil, ev_acons, ev_call, ev_tup, ev_lst, ev_not, ev_and, ev_or, ev_if, ev_cbl, ev_btrue, ev_cand, ev_cor, ev_cnot, ev_sli, ev_onone, ev_osome, ev_chain, ev_meth, ev_get2, ev_newK, ev_newT, ev_own, ev_nil, ev_seq, ev_expr, ev_set, ev_ret, ev_retN, ev_cif, ev_brk, ev_ct, ev_asg, ev_put, ev_aug, ev_for, ev_comp, ev_newL, ev_iseq, ev_irange, ev_ienum, ev_yes, Out.bind_ok, Out.bindN_ok, bindS_ok, Tg.set, Tg.sets, List.getElem?_cons_zero, List.getElem?_cons_succ, List.set_cons_zero, List.set_cons_succ, wipeE, List.length_cons, List.length_nil, Nat.reduceAdd, Nat.reduceLeDiff, Nat.reduceEqDiff, ↓reduceIte, Bool.false_eq_true, decide_eq_true_eq, add_int, sub_int, lt_int, gt_int, le_int, ge_int, neg_int, and_int, or_int, xor_int, max2_int, min2_int, mod_pos, fdiv_sm, mul_sm, mul_smr, Int.reduceLT, Int.reduceNeg, int_bl, int_int, sli_tup]) (by simp only [ev_var, ev_con, ev_bin, ev_un, ev_anil, ev_acons, ev_call, ev_tup, ev_lst, ev_not, ev_and, ev_or, ev_if, ev_cbl, ev_btrue, ev_cand, ev_cor, ev_cnot, ev_sli, ev_onone, ev_osome, ev_chain, ev_meth, ev_get2, ev_newK, ev_newT, ev_own, ev_nil, ev_seq, ev_expr, ev_set, ev_ret, ev_retN, ev_cif, ev_brk, ev_ct, ev_asg, ev_put, ev_aug, ev_for, ev_comp, ev_newL, ev_iseq, ev_irange, ev_ienum, ev_yes, Out.bind_ok, Out.bindN_ok, bindS_ok, Tg.set, Tg.sets, List.getElem?_cons_zero, List.getElem?_cons_succ, List.set_cons_zero, List.set_cons_succ, wipeE, List.length_cons, List.length_nil, Nat.reduceAdd, Nat.reduceLeDiff, Nat.reduceEqDiff, ↓reduceIte, Bool.false_eq_true, decide_eq_true_eq, add_int, sub_int, lt_int, gt_int, le_int, ge_int, neg_int, and_int, or_int, xor_int, max2_int, min2_int, mod_pos, fdiv_sm, mul_sm, mul_smr, Int.reduceLT, Int.reduceNeg, int_bl, int_int, sli_tup])]; simp only [ev_var, ev_con, ev_bin, ev_un, ev_anil, ev_acons, ev_call, ev_tup, ev_lst, ev_not, ev_and, ev_or, ev_if, ev_cbl, ev_btrue, ev_cand, ev_cor, ev_cnot, ev_sli, ev_onone, ev_osome, ev_chain, ev_meth, ev_get2, ev_newK, ev_newT, ev_own, ev_nil, ev_seq, ev_expr, ev_set, ev_ret, ev_retN, ev_cif, ev_brk, ev_ct, ev_asg, ev_put, ev_aug, ev_for, ev_comp, ev_newL, ev_iseq, ev_irange, ev_ienum, ev_yes, Out.bind_ok, Out.bindN_ok, bindS_ok, Tg.set, Tg.sets, List.getElem?_cons_zero, List.getElem?_cons_succ, List.set_cons_zero, List.set_cons_succ, wipeE, List.length_cons, List.length_nil, Nat.reduceAdd, Nat.reduceLeDiff, Nat.reduceEqDiff, ↓reduceIte, Bool.false_eq_true, decide_eq_true_eq, add_int, sub_int, lt_int, gt_int, le_int, ge_int, neg_int, and_int, or_int, xor_int, max2_int, min2_int, mod_pos, fdiv_sm, mul_sm, mul_smr, Int.reduceLT, Int.reduceNeg, int_bl, int_int, sli_tup, m44]))).trans hb
  by_cases q : mx c 44 % 4 = 1
  · have h0 := Int.emod_nonneg (mx c 44 / 4) (b := 6) (by omega)
    have h1 := Int.emod_lt_of_pos (mx c 44 / 4) (b := 6) (by omega)
    obtain ⟨j, hj⟩ := Int.eq_ofNat_of_zero_le h0
    refine ⟨1 + j, S1, runF_rt (ρ := [some (.fl (ns.map .int)), some (.int (m : Int)), none]) rfl rfl ?_, g1, by omega, by omega⟩
    unfold c_l_most
    refine st ?_
    have e : 1 + mx c 44 / 4 % 6 = ((1 + j : Nat) : Int) := by omega
    exact seq_rt ((if_t (S' := S1) (by simp only [ev_var, ev_con, ev_bin, ev_un, ev_anil, ev_acons, ev_call, ev_tup, ev_lst, ev_not, ev_and, ev_or, ev_if, ev_cbl, ev_btrue, ev_cand, ev_cor, ev_cnot, ev_sli, ev_onone, ev_osome, ev_chain, ev_meth, ev_get2, ev_newK, ev_newT, ev_own, ev_nil, ev_seq, ev_expr, ev_set, ev_ret, ev_retN, ev_cif, ev_brk, ev_ct, ev_asg, ev_put, ev_aug, ev_for, ev_comp, ev_newL, ev_iseq, ev_irange, ev_ienum, ev_yes, Out.bind_ok, Out.bindN_ok, bindS_ok, Tg.set, Tg.sets, List.getElem?_cons_zero, List.getElem?_cons_succ, List.set_cons_zero, List.set_cons_succ, wipeE, List.length_cons, List.length_nil, Nat.reduceAdd, Nat.reduceLeDiff, Nat.reduceEqDiff, ↓reduceIte, Bool.false_eq_true, decide_eq_true_eq, add_int, sub_int, lt_int, gt_int, le_int, ge_int, neg_int, and_int, or_int, xor_int, max2_int, min2_int, mod_pos, fdiv_sm, mul_sm, mul_smr, Int.reduceLT, Int.reduceNeg, int_bl, int_int, sli_tup, eq_int, q, decide_true])).trans (ret_of (by simp only [ev_var, ev_con, ev_bin, ev_un, ev_anil, ev_acons, ev_call, ev_tup, ev_lst, ev_not, ev_and, ev_or, ev_if, ev_cbl, ev_btrue, ev_cand, ev_cor, ev_cnot, ev_sli, ev_onone, ev_osome, ev_chain, ev_meth, ev_get2, ev_newK, ev_newT, ev_own, ev_nil, ev_seq, ev_expr, ev_set, ev_ret, ev_retN, ev_cif, ev_brk, ev_ct, ev_asg, ev_put, ev_aug, ev_for, ev_comp, ev_newL, ev_iseq, ev_irange, ev_ienum, ev_yes, Out.bind_ok, Out.bindN_ok, bindS_ok, Tg.set, Tg.sets, List.getElem?_cons_zero, List.getElem?_cons_succ, List.set_cons_zero, List.set_cons_succ, wipeE, List.length_cons, List.length_nil, Nat.reduceAdd, Nat.reduceLeDiff, Nat.reduceEqDiff, ↓reduceIte, Bool.false_eq_true, decide_eq_true_eq, add_int, sub_int, lt_int, gt_int, le_int, ge_int, neg_int, and_int, or_int, xor_int, max2_int, min2_int, mod_pos, fdiv_sm, mul_sm, mul_smr, Int.reduceLT, Int.reduceNeg, int_bl, int_int, sli_tup, e])))
  · refine ⟨m, S1, runF_rt (ρ := [some (.fl (ns.map .int)), some (.int (m : Int)), none]) rfl rfl ?_, g1, hm, by omega⟩
    unfold c_l_most
    refine st ?_
    exact (seq_of ((if_f (S' := S1) (by simp only [ev_var, ev_con, ev_bin, ev_un, ev_anil, ev_acons, ev_call, ev_tup, ev_lst, ev_not, ev_and, ev_or, ev_if, ev_cbl, ev_btrue, ev_cand, ev_cor, ev_cnot, ev_sli, ev_onone, ev_osome, ev_chain, ev_meth, ev_get2, ev_newK, ev_newT, ev_own, ev_nil, ev_seq, ev_expr, ev_set, ev_ret, ev_retN, ev_cif, ev_brk, ev_ct, ev_asg, ev_put, ev_aug, ev_for, ev_comp, ev_newL, ev_iseq, ev_irange, ev_ienum, ev_yes, Out.bind_ok, Out.bindN_ok, bindS_ok, Tg.set, Tg.sets, List.getElem?_cons_zero, List.getElem?_cons_succ, List.set_cons_zero, List.set_cons_succ, wipeE, List.length_cons, List.length_nil, Nat.reduceAdd, Nat.reduceLeDiff, Nat.reduceEqDiff, ↓reduceIte, Bool.false_eq_true, decide_eq_true_eq, add_int, sub_int, lt_int, gt_int, le_int, ge_int, neg_int, and_int, or_int, xor_int, max2_int, min2_int, mod_pos, fdiv_sm, mul_sm, mul_smr, Int.reduceLT, Int.reduceNeg, int_bl, int_int, sli_tup, eq_int, q, decide_false])).trans rfl)).trans (ret_of rfl)
def rowD (x : Nat × Str) : Dv := .tup [.int (x.1 : Int), .str x.2]
def lastR : List (Nat × Str) → Nat
  | [] => 0
  | x :: r => lastD x.1 r
structure ROk (R : List (Nat × Str)) (m : Nat) : Prop where
  ex : ∃ k0 rest, R = (0, k0) :: rest ∧ (∀ x ∈ rest, 1 ≤ x.1) ∧ Stp 0 rest
  len : R.length ≤ m
  sk : ∀ x ∈ R, Sk x.2
theorem lastD_last : ∀ (r : List (Nat × Str)) (x : Nat × Str), ∃ A y, x :: r = A ++ [y] ∧ y.1 = lastD x.1 r
  | [], x => ⟨[], x, rfl, rfl⟩
  | z :: r, x => by
    obtain ⟨A, y, e, h⟩ := lastD_last r z
    exact ⟨x :: A, y, by rw [e]; rfl, h⟩
theorem ROk.last {R : List (Nat × Str)} {m : Nat} (h : ROk R m) : ∃ A y, R = A ++ [y] ∧ y.1 = lastR R := by
  obtain ⟨k0, rest, rfl, _⟩ := h.ex
  exact lastD_last rest (0, k0)
theorem ROk.snoc {R : List (Nat × Str)} {m : Nat} (h : ROk R m) {x : Nat × Str} (hl : R.length < m) (h1 : 1 ≤ x.1) (h2 : x.1 ≤ lastR R + 1) (hs : Sk x.2) : ROk (R ++ [x]) m ∧ lastR (R ++ [x]) = x.1 := by
  obtain ⟨k0, rest, rfl, hr, hp⟩ := h.ex
  refine ⟨⟨⟨k0, rest ++ [x], rfl, fun y hy => ?_, stp_snoc hp h2⟩, by rw [List.length_append]; exact hl, fun y hy => ?_⟩, lastD_snoc rest x 0⟩
  · rcases List.mem_append.mp hy with hy | hy
    · exact hr y hy
    · rw [List.mem_singleton] at hy; subst hy; exact h1
  · rcases List.mem_append.mp hy with hy | hy
    · exact h.sk y hy
    · rw [List.mem_singleton] at hy; subst hy; exact hs
theorem nm4 {S : Sto} {l : Nat} {names : List Str} (h : Nms S l names) (v : Int) : ∃ x, Sk x ∧ idxD (.ref l) (.int (v % 4)) S = .ok (.str x) S := by
  have h0 := Int.emod_nonneg v (b := 4) (by omega)
  have h1 := Int.emod_lt_of_pos v (b := 4) (by omega)
  obtain ⟨j, hj⟩ := Int.eq_ofNat_of_zero_le h0
  have hl := h.len
  have hjl : j < names.length := by omega
  refine ⟨names[j], h.sk _ (List.getElem_mem hjl), ?_⟩
  rw [hj]
  exact idx_ref h.h (atI_nat (by rw [List.getElem?_map, List.getElem?_eq_getElem hjl]; rfl))
theorem rows_run {f lc ln m : Nat} {xs : List Int} {names : List Str} {S : Sto} (hc : S[lc]? = some (.lst (xs.map .int))) (hx : xs ≠ []) (hn : Nms S ln names) (hm : 1 ≤ m) (hm2 : m ≤ 1000) :
    ∃ (lr : Nat) (R : List (Nat × Str)) (S' : Sto), F (f + 2) .l_rows [.ref lc, .ref ln, .int (m : Int)] S = .ok (.ref lr) S' ∧ Gr S S' ∧ S'[lr]? = some (.lst (R.map rowD)) ∧ ROk R m := by
  rw [F_l_rows]
  obtain ⟨x0, xr, rfl⟩ : ∃ a r, xs = a :: r := by
    cases xs with
    | nil => exact absurd rfl hx
    | cons a r => exact ⟨a, r, rfl⟩
  have i0 : idxD (.ref lc) (.int 0) S = .ok (.int x0) S := idx_ref hc (atI_nat (i := 0) rfl)
  have m1 := mix_run (f := f) (c := x0) (k := 1) (S := S) (by omega) (by omega)
  obtain ⟨k0, hk0, e0⟩ := nm4 hn (mx x0 1)
  have g0 := gr_app S [Ob.lst ([(0, k0)].map rowD)]
  have a0 := at_new S (.lst ([(0, k0)].map rowD))
  have lcS := lt_of_at hc
  have lnS := lt_of_at hn.h
  generalize hS0 : S ++ [Ob.lst ([(0, k0)].map rowD)] = S0 at g0 a0
  have hc0 := g0.at hc
  have hn0 := g0.at hn.h
  obtain ⟨ρ', S', e, R, v4, v5, v6, v7, rfl, f', hR, kR⟩ := loop_all (ck := (Ck.ls lc ((x0 :: xr).map .int)).ok) (t := .nm 4) (b := b_l_rows_2 (F (f + 1))) (S := S0) (ρ := [some (.ref lc), some (.ref ln), some (.int (m : Int)), some (.ref S.length), none, none, none, none])
    (fun i ρ S' => ∃ (R : List (Nat × Str)) (v4 v5 v6 v7 : Option Dv), ρ = [some (.ref lc), some (.ref ln), some (.int (m : Int)), some (.ref S.length), v4, v5, v6, v7] ∧ Fr (· = S.length) S0 S' ∧ S'[S.length]? = some (.lst (R.map rowD)) ∧ ROk R m)
    ((x0 :: xr).map .int) ⟨[(0, k0)], none, none, none, none, rfl, .refl _, a0, ⟨⟨k0, [], rfl, by simp, trivial⟩, hm, fun x hx => by simp at hx; subst hx; exact hk0⟩⟩
    (fun i v ρ S' hv ⟨R, v4, v5, v6, v7, hρ, f', hR, kR⟩ => by
      subst hρ
      rw [List.getElem?_map, Option.map_eq_some_iff] at hv
      obtain ⟨c, hcx, rfl⟩ := hv
      refine ⟨f'.get lc _ hc0 (by show lc ≠ S.length; omega), _, rfl, ?_⟩
      have m2 := mix_run (f := f) (c := c) (k := 2) (S := S') (by omega) (by omega)
      have m3 := mix_run (f := f) (c := c) (k := 3) (S := S') (by omega) (by omega)
      have h30 := Int.emod_nonneg (mx c 3) (b := 24) (by omega)
      have h31 := Int.emod_lt_of_pos (mx c 3) (b := 24) (by omega)
      obtain ⟨many, h1, h2, key⟩ : ∃ many : Int, 1 ≤ many ∧ many ≤ 24 ∧ (cIf (cBl (eBin eqD (eBin modD (eOwn 2 (F (f + 1) .l_mix) (aCons (eVar 4) (aCons (eCon (.int 2)) (aNil)))) (eCon (.int 12))) (eCon (.int 5)))) (cSet 5 (eBin addD (eCon (.int 1)) (eBin modD (eOwn 2 (F (f + 1) .l_mix) (aCons (eVar 4) (aCons (eCon (.int 3)) (aNil)))) (eCon (.int 24))))) (cNil)) [some (.ref lc), some (.ref ln), some (.int (m : Int)), some (.ref S.length), some (.int c), some (.int 1), v6, v7] S' = .fl (.nx [some (.ref lc), some (.ref ln), some (.int (m : Int)), some (.ref S.length), some (.int c), some (.int many), v6, v7]) S' := by
        by_cases q : mx c 2 % 12 = 5
        · exact ⟨1 + mx c 3 % 24, by omega, by omega, (if_t (S' := S') (by simp only [ev_var, ev_con, ev_bin, ev_un, ev_anil, ev_acons, ev_call, ev_tup, ev_lst, ev_not, ev_and, ev_or, ev_if, ev_cbl, ev_btrue, ev_cand, ev_cor, ev_cnot, ev_sli, ev_onone, ev_osome, ev_chain, ev_meth, ev_get2, ev_newK, ev_newT, ev_own, ev_nil, ev_seq, ev_expr, ev_set, ev_ret, ev_retN, ev_cif, ev_brk, ev_ct, ev_asg, ev_put, ev_aug, ev_for, ev_comp, ev_newL, ev_iseq, ev_irange, ev_ienum, ev_yes, Out.bind_ok, Out.bindN_ok, bindS_ok, Tg.set, Tg.sets, List.getElem?_cons_zero, List.getElem?_cons_succ, List.set_cons_zero, List.set_cons_succ, wipeE, List.length_cons, List.length_nil, Nat.reduceAdd, Nat.reduceLeDiff, Nat.reduceEqDiff, ↓reduceIte, Bool.false_eq_true, decide_eq_true_eq, add_int, sub_int, lt_int, gt_int, le_int, ge_int, neg_int, and_int, or_int, xor_int, max2_int, min2_int, mod_pos, fdiv_sm, mul_sm, mul_smr, Int.reduceLT, Int.reduceNeg, int_bl, int_int, sli_tup, m2, eq_int, q, decide_true])).trans (set_of (by simp only [ev_var, ev_con, ev_bin, ev_un, ev_anil, ev_acons, ev_call, ev_tup, ev_lst, ev_not, ev_and, ev_or, ev_if, ev_cbl, ev_btrue, ev_cand, ev_cor, ev_cnot, ev_sli, ev_onone, ev_osome, ev_chain, ev_meth, ev_get2, ev_newK, ev_newT, ev_own, ev_nil, ev_seq, ev_expr, ev_set, ev_ret, ev_retN, ev_cif, ev_brk, ev_ct, ev_asg, ev_put, ev_aug, ev_for, ev_comp, ev_newL, ev_iseq, ev_irange, ev_ienum, ev_yes, Out.bind_ok, Out.bindN_ok, bindS_ok, Tg.set, Tg.sets, List.getElem?_cons_zero, List.getElem?_cons_succ, List.set_cons_zero, List.set_cons_succ, wipeE, List.length_cons, List.length_nil, Nat.reduceAdd, Nat.reduceLeDiff, Nat.reduceEqDiff, ↓reduceIte, Bool.false_eq_true, decide_eq_true_eq, add_int, sub_int, lt_int, gt_int, le_int, ge_int, neg_int, and_int, or_int, xor_int, max2_int, min2_int, mod_pos, fdiv_sm, mul_sm, mul_smr, Int.reduceLT, Int.reduceNeg, int_bl, int_int, sli_tup, m3]))⟩
        · exact ⟨1, by omega, by omega, (if_f (S' := S') (by simp only [ev_var, ev_con, ev_bin, ev_un, ev_anil, ev_acons, ev_call, ev_tup, ev_lst, ev_not, ev_and, ev_or, ev_if, ev_cbl, ev_btrue, ev_cand, ev_cor, ev_cnot, ev_sli, ev_onone, ev_osome, ev_chain, ev_meth, ev_get2, ev_newK, ev_newT, ev_own, ev_nil, ev_seq, ev_expr, ev_set, ev_ret, ev_retN, ev_cif, ev_brk, ev_ct, ev_asg, ev_put, ev_aug, ev_for, ev_comp, ev_newL, ev_iseq, ev_irange, ev_ienum, ev_yes, Out.bind_ok, Out.bindN_ok, bindS_ok, Tg.set, Tg.sets, List.getElem?_cons_zero, List.getElem?_cons_succ, List.set_cons_zero, List.set_cons_succ, wipeE, List.length_cons, List.length_nil, Nat.reduceAdd, Nat.reduceLeDiff, Nat.reduceEqDiff, ↓reduceIte, Bool.false_eq_true, decide_eq_true_eq, add_int, sub_int, lt_int, gt_int, le_int, ge_int, neg_int, and_int, or_int, xor_int, max2_int, min2_int, mod_pos, fdiv_sm, mul_sm, mul_smr, Int.reduceLT, Int.reduceNeg, int_bl, int_int, sli_tup, m2, eq_int, q, decide_false])).trans rfl⟩
      obtain ⟨ρ2, S2, e2, R2, v6', v7', rfl, f2, hR2, kR2, _⟩ := loop_all (ck := Ck.tt.ok) (t := .nm 6) (b := b_l_rows_1 (F (f + 1))) (S := S') (ρ := [some (.ref lc), some (.ref ln), some (.int (m : Int)), some (.ref S.length), some (.int c), some (.int many), v6, v7])
        (fun i ρ S2 => ∃ (R : List (Nat × Str)) (v6 v7 : Option Dv), ρ = [some (.ref lc), some (.ref ln), some (.int (m : Int)), some (.ref S.length), some (.int c), some (.int many), v6, v7] ∧ Fr (· = S.length) S0 S2 ∧ S2[S.length]? = some (.lst (R.map rowD)) ∧ ROk R m ∧ (i = 0 ∨ m ≤ R.length ∨ 1 ≤ lastR R))
        (rangeL 0 many) ⟨R, v6, v7, rfl, f', hR, kR, .inl rfl⟩
        (fun i v ρ S2 hv ⟨R, v6, v7, hρ, f2, hR, kR, hI⟩ => by
          subst hρ
          obtain ⟨rfl, hlt⟩ := rangeL_get hv
          obtain ⟨A, y, eA, hy⟩ := kR.last
          have il : idxD (.ref S.length) (.int (-1)) S2 = .ok (rowD y) S2 := by
            rw [eA, List.map_append] at hR; exact idx_last hR
          have i0 : idxD (rowD y) (.int 0) S2 = .ok (.int (y.1 : Int)) S2 := idx_t0
          have m4 := mix_run (f := f) (c := c) (k := 4) (S := S2) (by omega) (by omega)
          have m6 := mix_run (f := f) (c := c) (k := 6) (S := S2) (by omega) (by omega)
          have md : modD (.int (mx c 4)) (.int ((y.1 : Int) + 1)) S2 = .ok (.int (mx c 4 % ((y.1 : Int) + 1))) S2 := mod_pos (by omega)
          have d0 := Int.emod_nonneg (mx c 4) (b := (y.1 : Int) + 1) (by omega)
          have d1 := Int.emod_lt_of_pos (mx c 4) (b := (y.1 : Int) + 1) (by omega)
          have s0 := Int.emod_nonneg (mx c 6) (b := 2) (by omega)
          have s1 := Int.emod_lt_of_pos (mx c 6) (b := 2) (by omega)
          generalize mx c 4 % ((y.1 : Int) + 1) = u at md d0 d1
          obtain ⟨d, k1, k2, k3, key2⟩ : ∃ d : Nat, d ≤ y.1 + 1 ∧ (i = 0 → 1 ≤ d) ∧ (i ≠ 0 → y.1 ≤ d) ∧ (cIf (cBl (eBin gtD (eVar 6) (eCon (.int 0)))) (cSet 7 (eBin addD (eBin idxD (eBin idxD (eVar 3) (eUn negD (eCon (.int 1)))) (eCon (.int 0))) (eBin modD (eOwn 2 (F (f + 1) .l_mix) (aCons (eVar 4) (aCons (eCon (.int 6)) (aNil)))) (eCon (.int 2))))) (cNil)) [some (.ref lc), some (.ref ln), some (.int (m : Int)), some (.ref S.length), some (.int c), some (.int many), some (.int (0 + i)), some (.int (1 + u))] S2 = .fl (.nx [some (.ref lc), some (.ref ln), some (.int (m : Int)), some (.ref S.length), some (.int c), some (.int many), some (.int (0 + i)), some (.int (d : Int))]) S2 := by
            by_cases q : (0 : Int) < 0 + (i : Int)
            · refine ⟨y.1 + (mx c 6 % 2).toNat, by omega, fun z => by omega, fun _ => by omega, (if_t (S' := S2) (by simp only [ev_var, ev_con, ev_bin, ev_un, ev_anil, ev_acons, ev_call, ev_tup, ev_lst, ev_not, ev_and, ev_or, ev_if, ev_cbl, ev_btrue, ev_cand, ev_cor, ev_cnot, ev_sli, ev_onone, ev_osome, ev_chain, ev_meth, ev_get2, ev_newK, ev_newT, ev_own, ev_nil, ev_seq, ev_expr, ev_set, ev_ret, ev_retN, ev_cif, ev_brk, ev_ct, ev_asg, ev_put, ev_aug, ev_for, ev_comp, ev_newL, ev_iseq, ev_irange, ev_ienum, ev_yes, Out.bind_ok, Out.bindN_ok, bindS_ok, Tg.set, Tg.sets, List.getElem?_cons_zero, List.getElem?_cons_succ, List.set_cons_zero, List.set_cons_succ, wipeE, List.length_cons, List.length_nil, Nat.reduceAdd, Nat.reduceLeDiff, Nat.reduceEqDiff, ↓reduceIte, Bool.false_eq_true, decide_eq_true_eq, add_int, sub_int, lt_int, gt_int, le_int, ge_int, neg_int, and_int, or_int, xor_int, max2_int, min2_int, mod_pos, fdiv_sm, mul_sm, mul_smr, Int.reduceLT, Int.reduceNeg, int_bl, int_int, sli_tup, q, decide_true])).trans (set_of ?_)⟩
              rw [Int.natCast_add, Int.toNat_of_nonneg s0]
              simp only [ev_var, ev_con, ev_bin, ev_un, ev_anil, ev_acons, ev_call, ev_tup, ev_lst, ev_not, ev_and, ev_or, ev_if, ev_cbl, ev_btrue, ev_cand, ev_cor, ev_cnot, ev_sli, ev_onone, ev_osome, ev_chain, ev_meth, ev_get2, ev_newK, ev_newT, ev_own, ev_nil, ev_seq, ev_expr, ev_set, ev_ret, ev_retN, ev_cif, ev_brk, ev_ct, ev_asg, ev_put, ev_aug, ev_for, ev_comp, ev_newL, ev_iseq, ev_irange, ev_ienum, ev_yes, Out.bind_ok, Out.bindN_ok, bindS_ok, Tg.set, Tg.sets, List.getElem?_cons_zero, List.getElem?_cons_succ, List.set_cons_zero, List.set_cons_succ, wipeE, List.length_cons, List.length_nil, Nat.reduceAdd, Nat.reduceLeDiff, Nat.reduceEqDiff, ↓reduceIte, Bool.false_eq_true, decide_eq_true_eq, add_int, sub_int, lt_int, gt_int, le_int, ge_int, neg_int, and_int, or_int, xor_int, max2_int, min2_int, mod_pos, fdiv_sm, mul_sm, mul_smr, Int.reduceLT, Int.reduceNeg, int_bl, int_int, sli_tup, il, i0, m6]
            · have e : (1 + u).toNat = 1 + u := Int.toNat_of_nonneg (by omega)
              refine ⟨(1 + u).toNat, by omega, fun _ => by omega, fun z => by omega, (if_f (S' := S2) (by simp only [ev_var, ev_con, ev_bin, ev_un, ev_anil, ev_acons, ev_call, ev_tup, ev_lst, ev_not, ev_and, ev_or, ev_if, ev_cbl, ev_btrue, ev_cand, ev_cor, ev_cnot, ev_sli, ev_onone, ev_osome, ev_chain, ev_meth, ev_get2, ev_newK, ev_newT, ev_own, ev_nil, ev_seq, ev_expr, ev_set, ev_ret, ev_retN, ev_cif, ev_brk, ev_ct, ev_asg, ev_put, ev_aug, ev_for, ev_comp, ev_newL, ev_iseq, ev_irange, ev_ienum, ev_yes, Out.bind_ok, Out.bindN_ok, bindS_ok, Tg.set, Tg.sets, List.getElem?_cons_zero, List.getElem?_cons_succ, List.set_cons_zero, List.set_cons_succ, wipeE, List.length_cons, List.length_nil, Nat.reduceAdd, Nat.reduceLeDiff, Nat.reduceEqDiff, ↓reduceIte, Bool.false_eq_true, decide_eq_true_eq, add_int, sub_int, lt_int, gt_int, le_int, ge_int, neg_int, and_int, or_int, xor_int, max2_int, min2_int, mod_pos, fdiv_sm, mul_sm, mul_smr, Int.reduceLT, Int.reduceNeg, int_bl, int_int, sli_tup, q, decide_false])).trans ?_⟩
              rw [e]; rfl
          have ll := len_ref hR
          rw [List.length_map] at ll
          have st : ∀ {b : RC} {o : OutS}, b [some (.ref lc), some (.ref ln), some (.int (m : Int)), some (.ref S.length), some (.int c), some (.int many), some (.int (0 + i)), some (.int (d : Int))] S2 = o → cSeq (cSet 7 (eBin addD (eCon (.int 1)) (eBin modD (eOwn 2 (F (f + 1) .l_mix) (aCons (eVar 4) (aCons (eCon (.int 4)) (aNil)))) (eBin addD (eBin idxD (eBin idxD (eVar 3) (eUn negD (eCon (.int 1)))) (eCon (.int 0))) (eCon (.int 1)))))) (cSeq (cIf (cBl (eBin gtD (eVar 6) (eCon (.int 0)))) (cSet 7 (eBin addD (eBin idxD (eBin idxD (eVar 3) (eUn negD (eCon (.int 1)))) (eCon (.int 0))) (eBin modD (eOwn 2 (F (f + 1) .l_mix) (aCons (eVar 4) (aCons (eCon (.int 6)) (aNil)))) (eCon (.int 2))))) (cNil)) b) [some (.ref lc), some (.ref ln), some (.int (m : Int)), some (.ref S.length), some (.int c), some (.int many), some (.int (0 + i)), v7] S2 = o := fun {b o} hb =>
            (seq_of (set_of (d := .int (1 + u)) (S' := S2) (by simp only [ev_var, ev_con, ev_bin, ev_un, ev_anil, ev_acons, ev_call, ev_tup, ev_lst, ev_not, ev_and, ev_or, ev_if, ev_cbl, ev_btrue, ev_cand, ev_cor, ev_cnot, ev_sli, ev_onone, ev_osome, ev_chain, ev_meth, ev_get2, ev_newK, ev_newT, ev_own, ev_nil, ev_seq, ev_expr, ev_set, ev_ret, ev_retN, ev_cif, ev_brk, ev_ct, ev_asg, ev_put, ev_aug, ev_for, ev_comp, ev_newL, ev_iseq, ev_irange, ev_ienum, ev_yes, Out.bind_ok, Out.bindN_ok, bindS_ok, Tg.set, Tg.sets, List.getElem?_cons_zero, List.getElem?_cons_succ, List.set_cons_zero, List.set_cons_succ, wipeE, List.length_cons, List.length_nil, Nat.reduceAdd, Nat.reduceLeDiff, Nat.reduceEqDiff, ↓reduceIte, Bool.false_eq_true, decide_eq_true_eq, add_int, sub_int, lt_int, gt_int, le_int, ge_int, neg_int, and_int, or_int, xor_int, max2_int, min2_int, mod_pos, fdiv_sm, mul_sm, mul_smr, Int.reduceLT, Int.reduceNeg, int_bl, int_int, sli_tup, m4, il, i0, md]))).trans ((seq_of key2).trans hb)
          by_cases q : R.length < m
          · have d1' : 1 ≤ d := by
              rcases hI with h | h | h
              · exact k2 h
              · omega
              · by_cases z : i = 0
                · exact k2 z
                · have := k3 z; omega
            have nS := f2.get ln _ hn0 (by show ln ≠ S.length; omega)
            obtain ⟨x, hx, ex⟩ := nm4 ⟨nS, hn.len, hn.sk⟩ (mx c (7 + (0 + i)))
            have m7 := mix_run (f := f) (c := c) (k := 7 + (0 + (i : Int))) (S := S2) (by omega) (by omega)
            obtain ⟨kR', hl'⟩ := kR.snoc (x := (d, x)) q d1' (by show d ≤ _; omega) hx
            have ap : appendD (.ref S.length) [.tup [.int (d : Int), .str x]] S2 = .ok .non (S2.set S.length (.lst ((R ++ [(d, x)]).map rowD))) := by
              rw [app_ref hR (by rw [List.length_map]; show _ < 2 ^ 24; omega), List.map_append]; rfl
            refine ⟨trivial, _, rfl, [some (.ref lc), some (.ref ln), some (.int (m : Int)), some (.ref S.length), some (.int c), some (.int many), some (.int (0 + i)), some (.int (d : Int))], S2.set S.length (.lst ((R ++ [(d, x)]).map rowD)), .inl ?_, R ++ [(d, x)], _, _, rfl, f2.trans (fr_set _ _ _), at_set hR, kR', .inr (.inr (by rw [hl']; exact d1'))⟩
            unfold b_l_rows_1
            refine st ?_
            exact (if_t (S' := S2) (by simp only [ev_var, ev_con, ev_bin, ev_un, ev_anil, ev_acons, ev_call, ev_tup, ev_lst, ev_not, ev_and, ev_or, ev_if, ev_cbl, ev_btrue, ev_cand, ev_cor, ev_cnot, ev_sli, ev_onone, ev_osome, ev_chain, ev_meth, ev_get2, ev_newK, ev_newT, ev_own, ev_nil, ev_seq, ev_expr, ev_set, ev_ret, ev_retN, ev_cif, ev_brk, ev_ct, ev_asg, ev_put, ev_aug, ev_for, ev_comp, ev_newL, ev_iseq, ev_irange, ev_ienum, ev_yes, Out.bind_ok, Out.bindN_ok, bindS_ok, Tg.set, Tg.sets, List.getElem?_cons_zero, List.getElem?_cons_succ, List.set_cons_zero, List.set_cons_succ, wipeE, List.length_cons, List.length_nil, Nat.reduceAdd, Nat.reduceLeDiff, Nat.reduceEqDiff, ↓reduceIte, Bool.false_eq_true, decide_eq_true_eq, add_int, sub_int, lt_int, gt_int, le_int, ge_int, neg_int, and_int, or_int, xor_int, max2_int, min2_int, mod_pos, fdiv_sm, mul_sm, mul_smr, Int.reduceLT, Int.reduceNeg, int_bl, int_int, sli_tup, ll, Int.ofNat_lt, q, decide_true])).trans (expr_of (d := .non) (by simp only [ev_var, ev_con, ev_bin, ev_un, ev_anil, ev_acons, ev_call, ev_tup, ev_lst, ev_not, ev_and, ev_or, ev_if, ev_cbl, ev_btrue, ev_cand, ev_cor, ev_cnot, ev_sli, ev_onone, ev_osome, ev_chain, ev_meth, ev_get2, ev_newK, ev_newT, ev_own, ev_nil, ev_seq, ev_expr, ev_set, ev_ret, ev_retN, ev_cif, ev_brk, ev_ct, ev_asg, ev_put, ev_aug, ev_for, ev_comp, ev_newL, ev_iseq, ev_irange, ev_ienum, ev_yes, Out.bind_ok, Out.bindN_ok, bindS_ok, Tg.set, Tg.sets, List.getElem?_cons_zero, List.getElem?_cons_succ, List.set_cons_zero, List.set_cons_succ, wipeE, List.length_cons, List.length_nil, Nat.reduceAdd, Nat.reduceLeDiff, Nat.reduceEqDiff, ↓reduceIte, Bool.false_eq_true, decide_eq_true_eq, add_int, sub_int, lt_int, gt_int, le_int, ge_int, neg_int, and_int, or_int, xor_int, max2_int, min2_int, mod_pos, fdiv_sm, mul_sm, mul_smr, Int.reduceLT, Int.reduceNeg, int_bl, int_int, sli_tup, tyq_ref hR, m7, ex, sline 2 (by omega), ap]))
          · refine ⟨trivial, _, rfl, [some (.ref lc), some (.ref ln), some (.int (m : Int)), some (.ref S.length), some (.int c), some (.int many), some (.int (0 + i)), some (.int (d : Int))], S2, .inl ?_, R, _, _, rfl, f2, hR, kR, .inr (.inl (by omega))⟩
            unfold b_l_rows_1
            refine st ?_
            exact (if_f (S' := S2) (by simp only [ev_var, ev_con, ev_bin, ev_un, ev_anil, ev_acons, ev_call, ev_tup, ev_lst, ev_not, ev_and, ev_or, ev_if, ev_cbl, ev_btrue, ev_cand, ev_cor, ev_cnot, ev_sli, ev_onone, ev_osome, ev_chain, ev_meth, ev_get2, ev_newK, ev_newT, ev_own, ev_nil, ev_seq, ev_expr, ev_set, ev_ret, ev_retN, ev_cif, ev_brk, ev_ct, ev_asg, ev_put, ev_aug, ev_for, ev_comp, ev_newL, ev_iseq, ev_irange, ev_ienum, ev_yes, Out.bind_ok, Out.bindN_ok, bindS_ok, Tg.set, Tg.sets, List.getElem?_cons_zero, List.getElem?_cons_succ, List.set_cons_zero, List.set_cons_succ, wipeE, List.length_cons, List.length_nil, Nat.reduceAdd, Nat.reduceLeDiff, Nat.reduceEqDiff, ↓reduceIte, Bool.false_eq_true, decide_eq_true_eq, add_int, sub_int, lt_int, gt_int, le_int, ge_int, neg_int, and_int, or_int, xor_int, max2_int, min2_int, mod_pos, fdiv_sm, mul_sm, mul_smr, Int.reduceLT, Int.reduceNeg, int_bl, int_int, sli_tup, ll, Int.ofNat_lt, q, decide_false])).trans rfl)
        (fun _ _ _ => trivial)
      refine ⟨[some (.ref lc), some (.ref ln), some (.int (m : Int)), some (.ref S.length), some (.int c), some (.int many), v6', v7'], S2, .inl ?_, R2, _, _, _, _, rfl, f2, hR2, kR2⟩
      unfold b_l_rows_2
      refine (seq_of (set_of (d := .int 1) (S' := S') rfl)).trans ?_
      refine (seq_of key).trans ?_
      exact (for_of (w := (rangeL 0 many, .tt)) (S' := S') (by simp only [ev_var, ev_con, ev_bin, ev_un, ev_anil, ev_acons, ev_call, ev_tup, ev_lst, ev_not, ev_and, ev_or, ev_if, ev_cbl, ev_btrue, ev_cand, ev_cor, ev_cnot, ev_sli, ev_onone, ev_osome, ev_chain, ev_meth, ev_get2, ev_newK, ev_newT, ev_own, ev_nil, ev_seq, ev_expr, ev_set, ev_ret, ev_retN, ev_cif, ev_brk, ev_ct, ev_asg, ev_put, ev_aug, ev_for, ev_comp, ev_newL, ev_iseq, ev_irange, ev_ienum, ev_yes, Out.bind_ok, Out.bindN_ok, bindS_ok, Tg.set, Tg.sets, List.getElem?_cons_zero, List.getElem?_cons_succ, List.set_cons_zero, List.set_cons_succ, wipeE, List.length_cons, List.length_nil, Nat.reduceAdd, Nat.reduceLeDiff, Nat.reduceEqDiff, ↓reduceIte, Bool.false_eq_true, decide_eq_true_eq, add_int, sub_int, lt_int, gt_int, le_int, ge_int, neg_int, and_int, or_int, xor_int, max2_int, min2_int, mod_pos, fdiv_sm, mul_sm, mul_smr, Int.reduceLT, Int.reduceNeg, int_bl, int_int, sli_tup, rng1_of (i := many) (by omega) (by omega)])).trans e2)
    (fun ρ S' ⟨R, v4, v5, v6, v7, hρ, f', hR, kR⟩ => f'.get lc _ hc0 (by show lc ≠ S.length; omega))
  refine ⟨S.length, R, S', runF_rt (ρ := [some (.ref lc), some (.ref ln), some (.int (m : Int)), none, none, none, none, none]) rfl rfl ?_, Gr.new g0 f' (fun l z => by omega), hR, kR⟩
  unfold c_l_rows
  have e1 : ([.tup [.int 0, .str k0]] : List Dv) = [(0, k0)].map rowD := rfl
  have sl : ([(0, k0)].map rowD).length ≤ sizeLine := sline 1 (by omega)
  refine (seq_of (set_of (d := .ref S.length) (S' := S0) (by simp only [ev_var, ev_con, ev_bin, ev_un, ev_anil, ev_acons, ev_call, ev_tup, ev_lst, ev_not, ev_and, ev_or, ev_if, ev_cbl, ev_btrue, ev_cand, ev_cor, ev_cnot, ev_sli, ev_onone, ev_osome, ev_chain, ev_meth, ev_get2, ev_newK, ev_newT, ev_own, ev_nil, ev_seq, ev_expr, ev_set, ev_ret, ev_retN, ev_cif, ev_brk, ev_ct, ev_asg, ev_put, ev_aug, ev_for, ev_comp, ev_newL, ev_iseq, ev_irange, ev_ienum, ev_yes, Out.bind_ok, Out.bindN_ok, bindS_ok, Tg.set, Tg.sets, List.getElem?_cons_zero, List.getElem?_cons_succ, List.set_cons_zero, List.set_cons_succ, wipeE, List.length_cons, List.length_nil, Nat.reduceAdd, Nat.reduceLeDiff, Nat.reduceEqDiff, ↓reduceIte, Bool.false_eq_true, decide_eq_true_eq, add_int, sub_int, lt_int, gt_int, le_int, ge_int, neg_int, and_int, or_int, xor_int, max2_int, min2_int, mod_pos, fdiv_sm, mul_sm, mul_smr, Int.reduceLT, Int.reduceNeg, int_bl, int_int, sli_tup, i0, m1, e0, sl, sline 2 (by omega), e1, hS0]))).trans ?_
  exact (seq_of ((for_of (w := ((x0 :: xr).map .int, .ls lc ((x0 :: xr).map .int))) (S' := S0) (by simp only [ev_var, ev_con, ev_bin, ev_un, ev_anil, ev_acons, ev_call, ev_tup, ev_lst, ev_not, ev_and, ev_or, ev_if, ev_cbl, ev_btrue, ev_cand, ev_cor, ev_cnot, ev_sli, ev_onone, ev_osome, ev_chain, ev_meth, ev_get2, ev_newK, ev_newT, ev_own, ev_nil, ev_seq, ev_expr, ev_set, ev_ret, ev_retN, ev_cif, ev_brk, ev_ct, ev_asg, ev_put, ev_aug, ev_for, ev_comp, ev_newL, ev_iseq, ev_irange, ev_ienum, ev_yes, Out.bind_ok, Out.bindN_ok, bindS_ok, Tg.set, Tg.sets, List.getElem?_cons_zero, List.getElem?_cons_succ, List.set_cons_zero, List.set_cons_succ, wipeE, List.length_cons, List.length_nil, Nat.reduceAdd, Nat.reduceLeDiff, Nat.reduceEqDiff, ↓reduceIte, Bool.false_eq_true, decide_eq_true_eq, add_int, sub_int, lt_int, gt_int, le_int, ge_int, neg_int, and_int, or_int, xor_int, max2_int, min2_int, mod_pos, fdiv_sm, mul_sm, mul_smr, Int.reduceLT, Int.reduceNeg, int_bl, int_int, sli_tup, walk_ref hc0])).trans e)).trans (ret_of rfl)
/-! the law's trees -/
section
variable {κ : Type} [DecidableEq κ] {α : Type}
theorem gat_app : ∀ (kvs : List (κ × α)) (k k' : κ) (v : α), (∀ p ∈ kvs, p.1 ≠ k) → gat (kvs ++ [(k, v)]) k' = if k = k' then some v else gat kvs k'
  | [], k, k', v, _ => by
    show (if k = k' then some v else none) = _
    rfl
  | p :: r, k, k', v, h => by
    have ih := gat_app r k k' v (fun q hq => h q (List.mem_cons_of_mem _ hq))
    rw [List.cons_append, gat, ih, gat]
    by_cases q : k = k'
    · rw [if_pos q, if_pos q, if_neg (by rw [← q]; exact h p List.mem_cons_self)]
    · rw [if_neg q, if_neg q]
theorem gat_map : ∀ (kvs : List (κ × α)) (k k' : κ) (v : α), gat (kvs.map fun kv => if kv.1 = k then (kv.1, v) else kv) k' = if k = k' ∧ (kvs.any fun kv => decide (kv.1 = k)) = true then some v else gat kvs k'
  | [], k, k', v => by simp [gat]
  | p :: r, k, k', v => by
    have ih := gat_map r k k' v
    rw [List.map_cons, gat, ih, gat, List.any_cons]
    by_cases q : k = k'
    · subst q
      by_cases q1 : p.1 = k
      · simp [q1]
      · have d : decide (p.1 = k) = false := decide_eq_false q1
        rw [d, if_neg q1, Bool.false_or, if_neg q1, if_neg q1]
    · by_cases q1 : p.1 = k
      · have q2 : p.1 ≠ k' := fun z => q (q1.symm.trans z)
        simp [q, q1, q2]
      · simp [q, q1]
theorem gat_gput (kvs : List (κ × α)) (k k' : κ) (v : α) : gat (gput kvs k v) k' = if k = k' then some v else gat kvs k' := by
  unfold gput
  by_cases q : (kvs.any fun kv => decide (kv.1 = k)) = true
  · rw [if_pos q, gat_map]
    by_cases e : k = k'
    · rw [if_pos ⟨e, q⟩, if_pos e]
    · rw [if_neg (fun z => e z.1), if_neg e]
  · rw [if_neg q]
    refine gat_app kvs k k' v fun p hp e => q ?_
    exact List.any_eq_true.mpr ⟨p, hp, decide_eq_true e⟩
theorem gput_len (kvs : List (κ × α)) (k : κ) (v : α) : (gput kvs k v).length ≤ kvs.length + 1 := by
  unfold gput
  split
  · rw [List.length_map]; omega
  · rw [List.length_append]; exact Nat.le_refl _
end
theorem hold_len : ∀ (R : List (Nat × Str)) (e : Nat), (hold R e).length ≤ R.length
  | [], e => Nat.le_refl _
  | x :: r, e => by
    rw [hold, List.length_cons]
    split
    · exact Nat.zero_le _
    · split
      · have := hold_len r x.1
        rw [List.length_cons]; omega
      · have := hold_len r e
        omega
def HK (kvs : List (L2.Key × Dv)) (S : Sto) (h : Nat → List Tr) (lx : Nat) : Prop := ∀ e : Nat, (gat kvs (.inl (e : Int)) = none ∧ h e = []) ∨ ∃ l, gat kvs (.inl (e : Int)) = some (.ref l) ∧ S[l]? = some (.lst ((h e).reverse.map trD)) ∧ l ≠ lx
theorem HK.fr {kvs : List (L2.Key × Dv)} {S S2 : Sto} {h : Nat → List Tr} {lx : Nat} (k : HK kvs S h lx) (f : ∀ (l : Nat) (ds : List Dv), S[l]? = some (.lst ds) → l ≠ lx → S2[l]? = some (.lst ds)) : HK kvs S2 h lx := fun e => by
  rcases k e with k | ⟨l, a, b, c⟩
  · exact .inl k
  · exact .inr ⟨l, a, f l _ b c, c⟩
theorem HK.congr {kvs : List (L2.Key × Dv)} {S : Sto} {h h' : Nat → List Tr} {lx : Nat} (k : HK kvs S h lx) (e : ∀ x, h x = h' x) : HK kvs S h' lx := fun x => by rw [← e x]; exact k x
theorem HK.put {kvs : List (L2.Key × Dv)} {S : Sto} {h : Nat → List Tr} {lx l e : Nat} {ts : List Tr} (k : HK kvs S h lx) (hl : S[l]? = some (.lst (ts.reverse.map trD))) (n : l ≠ lx) : HK (gput kvs (.inl (e : Int)) (.ref l)) S (fun x => if x = e then ts else h x) lx := fun x => by
  rw [gat_gput]
  by_cases q : x = e
  · subst q
    rw [if_pos rfl]
    simp only [if_pos]
    exact .inr ⟨l, rfl, hl, n⟩
  · rw [if_neg (fun z => q (by injection z with z; omega))]
    simp only [if_neg q]
    exact k x
theorem held_get {S : Sto} {kvs : List (L2.Key × Dv)} {h : Nat → List Tr} {ld lx : Nat} (hd : S[ld]? = some (.dk kvs)) (hk : HK kvs S h lx) (hx : lx < S.length) (e : Nat) : ∃ l, getD2 (.ref ld) [.int (e : Int), .ref S.length] (S ++ [Ob.lst []]) = .ok (.ref l) (S ++ [Ob.lst []]) ∧ (S ++ [Ob.lst []])[l]? = some (.lst ((h e).reverse.map trD)) ∧ l ≠ lx := by
  have g := gr_app S [Ob.lst []]
  have dg : dget (S ++ [Ob.lst []]) (.ref ld) (.int (e : Int)) = some (gat kvs (.inl (e : Int))) := by simp only [dget, g.at hd, keyOf, Option.map_some]
  rcases hk e with ⟨a, b⟩ | ⟨l, a, b, c⟩
  · refine ⟨S.length, by simp only [getD2, dg, a], ?_, by omega⟩
    rw [b]; exact at_new S (.lst [])
  · exact ⟨l, by simp only [getD2, dg, a], g.at b, c⟩
theorem trev_ref {S : Sto} {l : Nat} {ds : List Dv} (h : S[l]? = some (.lst ds)) : trevD (.ref l) S = .ok (.tup ds.reverse) S := by simp only [trevD, lst_ref h]
theorem put_dk {S : Sto} {l : Nat} {kvs : List (L2.Key × Dv)} {i : Int} {y : Dv} (h : S[l]? = some (.dk kvs)) (hl : kvs.length < sizeLine) : putD (.ref l) (.int i) y S = some (S.set l (.dk (gput kvs (.inl i) y))) := by
  simp only [putD, h, dput, hl, ↓reduceIte, keyOf, Option.map_some]
theorem tyq_dk {S : Sto} {l : Nat} {kvs : List (L2.Key × Dv)} (h : S[l]? = some (.dk kvs)) : tyQ "dict" (.ref l) S = true := by simp only [tyQ, h]; rfl
theorem tree_step {x : Nat × Str} {S : Sto} {ld lx lr : Nat} {kvs : List (L2.Key × Dv)} {suf : List (Nat × Str)} {v5 v6 : Option Dv} {G : Fn → List Dv → Sto → Out Dv} (hd : S[ld]? = some (.dk kvs)) (hk : HK kvs S (hold suf) lx) (ht : S[lx]? = some (.lst ((trs suf).reverse.map trD))) (hl : kvs.length ≤ 10000) (hs : suf.length ≤ 1000) :
    ∃ (S' : Sto) (kvs' : List (L2.Key × Dv)) (u5 u6 : Option Dv), b_l_trees_1 G [some (.ref lr), some (.ref ld), some (.ref lx), some (.int (x.1 : Int)), some (.str x.2), v5, v6] S = .fl (.nx [some (.ref lr), some (.ref ld), some (.ref lx), some (.int (x.1 : Int)), some (.str x.2), u5, u6]) S' ∧
      Fr (fun l => l = ld ∨ l = lx) S S' ∧ S'[ld]? = some (.dk kvs') ∧ kvs'.length ≤ kvs.length + 2 ∧ HK kvs' S' (hold (x :: suf)) lx ∧ S'[lx]? = some (.lst ((trs (x :: suf)).reverse.map trD)) := by
  have lxS := lt_of_at ht
  have ldS := lt_of_at hd
  have nlx : ld ≠ lx := fun z => by rw [z, ht] at hd; cases hd
  -- parts
  obtain ⟨l5, e5, h5, n5⟩ := held_get hd hk lxS (x.1 + 1)
  have g1 := gr_app S [Ob.lst []]
  generalize hA : S ++ [Ob.lst []] = A at e5 h5 g1
  have g2 := gr_app A [Ob.lst []]
  have a2 := at_new A (.lst [])
  generalize hB : A ++ [Ob.lst []] = B at g2 a2
  have dB := g2.at (g1.at hd)
  have p1 := put_dk (i := ((x.1 : Int) + 1)) (y := .ref A.length) dB (show kvs.length < 2 ^ 24 by omega)
  have f3 := fr_set B ld (.dk (gput kvs (.inl ((x.1 : Int) + 1)) (.ref A.length)))
  have c3 := at_set (o := .dk (gput kvs (.inl ((x.1 : Int) + 1)) (.ref A.length))) dB
  have nA : A.length ≠ lx := by have := g1.le; omega
  have nA2 : A.length ≠ ld := by have := g1.le; omega
  have k3 : HK (gput kvs (.inl ((x.1 : Int) + 1)) (.ref A.length)) B (fun y => if y = x.1 + 1 then [] else hold suf y) lx := (hk.fr fun l ds a b => g2.at (g1.at a)).put (e := x.1 + 1) (ts := []) a2 nA
  have gl1 := gput_len kvs (.inl ((x.1 : Int) + 1)) (.ref A.length)
  generalize gput kvs (.inl ((x.1 : Int) + 1)) (.ref A.length) = kvs1 at p1 f3 c3 k3 gl1
  generalize hC : B.set ld (.dk kvs1) = C at p1 f3 c3
  have k3' : HK kvs1 C (fun y => if y = x.1 + 1 then [] else hold suf y) lx := k3.fr fun l ds a b => f3.get l _ a (fun z => by rw [show l = ld from z, dB] at a; cases a)
  have lxC : C[lx]? = some (.lst ((trs suf).reverse.map trD)) := f3.get lx _ (g2.at (g1.at ht)) (fun z => nlx z.symm)
  have h5C : C[l5]? = some (.lst ((hold suf (x.1 + 1)).reverse.map trD)) := f3.get l5 _ (g2.at h5) (fun z => by rw [show l5 = ld from z, g1.at hd] at h5; cases h5)
  have tr5 := trev_ref h5C
  rw [← List.map_reverse, List.reverse_reverse] at tr5
  have ht2 : Dv.tup [.str x.2, .tup ((hold suf (x.1 + 1)).map trD)] = trD (.nd x.2 (hold suf (x.1 + 1))) := by rw [trD, trDs_map]
  -- the list of the depth
  obtain ⟨l6, e6, h6, n6⟩ := held_get c3 k3' (lt_of_at lxC) x.1
  simp only [if_neg (show ¬ x.1 = x.1 + 1 by omega)] at h6
  have g4 := gr_app C [Ob.lst []]
  generalize hD : C ++ [Ob.lst []] = D at e6 h6 g4
  have g5 := gr_app D [Ob.lst [trD (.nd x.2 (hold suf (x.1 + 1)))]]
  have a5 := at_new D (.lst [trD (.nd x.2 (hold suf (x.1 + 1)))])
  generalize hE : D ++ [Ob.lst [trD (.nd x.2 (hold suf (x.1 + 1)))]] = E at g5 a5
  have hl6 := hold_len suf x.1
  have ea := add_ref (g5.at h6) a5 (sline _ (by rw [List.length_map, List.length_reverse]; simp only [List.length_cons, List.length_nil]; omega))
  have er : (hold suf x.1).reverse.map trD ++ [trD (.nd x.2 (hold suf (x.1 + 1)))] = (Tr.nd x.2 (hold suf (x.1 + 1)) :: hold suf x.1).reverse.map trD := by rw [List.reverse_cons, List.map_append]; rfl
  rw [ev_newL, er] at ea
  have g6 := gr_app E [Ob.lst ((Tr.nd x.2 (hold suf (x.1 + 1)) :: hold suf x.1).reverse.map trD)]
  have a6 := at_new E (.lst ((Tr.nd x.2 (hold suf (x.1 + 1)) :: hold suf x.1).reverse.map trD))
  generalize hU : E ++ [Ob.lst ((Tr.nd x.2 (hold suf (x.1 + 1)) :: hold suf x.1).reverse.map trD)] = U at g6 a6 ea
  have gCU := (g4.trans g5).trans g6
  have dU := gCU.at c3
  have p2 := put_dk (i := (x.1 : Int)) (y := .ref E.length) dU (show kvs1.length < 2 ^ 24 by omega)
  have nE : E.length ≠ lx := by have := (g4.trans g5).le; have := lt_of_at lxC; omega
  have nE2 : E.length ≠ ld := by have := (g4.trans g5).le; have := lt_of_at c3; omega
  have k6 := (k3'.fr fun l ds a b => gCU.at a).put (e := x.1) (ts := Tr.nd x.2 (hold suf (x.1 + 1)) :: hold suf x.1) a6 nE
  have f7 := fr_set U ld (.dk (gput kvs1 (.inl (x.1 : Int)) (.ref E.length)))
  have c7 := at_set (o := .dk (gput kvs1 (.inl (x.1 : Int)) (.ref E.length))) dU
  have gl2 := gput_len kvs1 (.inl (x.1 : Int)) (.ref E.length)
  generalize gput kvs1 (.inl (x.1 : Int)) (.ref E.length) = kvs2 at p2 f7 c7 k6 gl2
  generalize hV : U.set ld (.dk kvs2) = V at p2 f7 c7
  have k7 := k6.fr (S2 := V) fun l ds a b => f7.get l _ a (fun z => by rw [show l = ld from z, dU] at a; cases a)
  have lxV : V[lx]? = some (.lst ((trs suf).reverse.map trD)) := f7.get lx _ (gCU.at lxC) (fun z => nlx z.symm)
  have tl := trs_len suf
  have ap : appendD (.ref lx) [trD (.nd x.2 (hold suf (x.1 + 1)))] V = .ok .non (V.set lx (.lst ((trs (x :: suf)).reverse.map trD))) := by
    rw [app_ref lxV (by rw [List.length_map, List.length_reverse, tl]; show _ < 2 ^ 24; omega), trs, List.reverse_cons, List.map_append]; rfl
  have f8 := fr_set V lx (.lst ((trs (x :: suf)).reverse.map trD))
  refine ⟨V.set lx (.lst ((trs (x :: suf)).reverse.map trD)), kvs2, some (.ref l5), some (trD (.nd x.2 (hold suf (x.1 + 1)))), ?_, ?_, f8.get ld _ c7 nlx, by omega, ?_, at_set lxV⟩
  · unfold b_l_trees_1
    refine (seq_of (set_of (d := .ref l5) (S' := A) (by simp only [ev_var, ev_con, ev_bin, ev_un, ev_anil, ev_acons, ev_call, ev_tup, ev_lst, ev_not, ev_and, ev_or, ev_if, ev_cbl, ev_btrue, ev_cand, ev_cor, ev_cnot, ev_sli, ev_onone, ev_osome, ev_chain, ev_meth, ev_get2, ev_newK, ev_newT, ev_own, ev_nil, ev_seq, ev_expr, ev_set, ev_ret, ev_retN, ev_cif, ev_brk, ev_ct, ev_asg, ev_put, ev_aug, ev_for, ev_comp, ev_newL, ev_iseq, ev_irange, ev_ienum, ev_yes, Out.bind_ok, Out.bindN_ok, bindS_ok, Tg.set, Tg.sets, List.getElem?_cons_zero, List.getElem?_cons_succ, List.set_cons_zero, List.set_cons_succ, wipeE, List.length_cons, List.length_nil, Nat.reduceAdd, Nat.reduceLeDiff, Nat.reduceEqDiff, ↓reduceIte, Bool.false_eq_true, decide_eq_true_eq, add_int, sub_int, lt_int, gt_int, le_int, ge_int, neg_int, and_int, or_int, xor_int, max2_int, min2_int, mod_pos, fdiv_sm, mul_sm, mul_smr, Int.reduceLT, Int.reduceNeg, int_bl, int_int, sli_tup, tyq_dk hd, sline 0 (by omega), hA]; exact e5))).trans ?_
    refine (seq_of (ρ' := [some (.ref lr), some (.ref ld), some (.ref lx), some (.int (x.1 : Int)), some (.str x.2), some (.ref l5), v6]) (S' := C) (by simp only [ev_var, ev_con, ev_bin, ev_un, ev_anil, ev_acons, ev_call, ev_tup, ev_lst, ev_not, ev_and, ev_or, ev_if, ev_cbl, ev_btrue, ev_cand, ev_cor, ev_cnot, ev_sli, ev_onone, ev_osome, ev_chain, ev_meth, ev_get2, ev_newK, ev_newT, ev_own, ev_nil, ev_seq, ev_expr, ev_set, ev_ret, ev_retN, ev_cif, ev_brk, ev_ct, ev_asg, ev_put, ev_aug, ev_for, ev_comp, ev_newL, ev_iseq, ev_irange, ev_ienum, ev_yes, Out.bind_ok, Out.bindN_ok, bindS_ok, Tg.set, Tg.sets, List.getElem?_cons_zero, List.getElem?_cons_succ, List.set_cons_zero, List.set_cons_succ, wipeE, List.length_cons, List.length_nil, Nat.reduceAdd, Nat.reduceLeDiff, Nat.reduceEqDiff, ↓reduceIte, Bool.false_eq_true, decide_eq_true_eq, add_int, sub_int, lt_int, gt_int, le_int, ge_int, neg_int, and_int, or_int, xor_int, max2_int, min2_int, mod_pos, fdiv_sm, mul_sm, mul_smr, Int.reduceLT, Int.reduceNeg, int_bl, int_int, sli_tup, sline 0 (by omega), hB, p1])).trans ?_
    refine (seq_of (set_of (d := trD (.nd x.2 (hold suf (x.1 + 1)))) (S' := C) (by simp only [ev_var, ev_con, ev_bin, ev_un, ev_anil, ev_acons, ev_call, ev_tup, ev_lst, ev_not, ev_and, ev_or, ev_if, ev_cbl, ev_btrue, ev_cand, ev_cor, ev_cnot, ev_sli, ev_onone, ev_osome, ev_chain, ev_meth, ev_get2, ev_newK, ev_newT, ev_own, ev_nil, ev_seq, ev_expr, ev_set, ev_ret, ev_retN, ev_cif, ev_brk, ev_ct, ev_asg, ev_put, ev_aug, ev_for, ev_comp, ev_newL, ev_iseq, ev_irange, ev_ienum, ev_yes, Out.bind_ok, Out.bindN_ok, bindS_ok, Tg.set, Tg.sets, List.getElem?_cons_zero, List.getElem?_cons_succ, List.set_cons_zero, List.set_cons_succ, wipeE, List.length_cons, List.length_nil, Nat.reduceAdd, Nat.reduceLeDiff, Nat.reduceEqDiff, ↓reduceIte, Bool.false_eq_true, decide_eq_true_eq, add_int, sub_int, lt_int, gt_int, le_int, ge_int, neg_int, and_int, or_int, xor_int, max2_int, min2_int, mod_pos, fdiv_sm, mul_sm, mul_smr, Int.reduceLT, Int.reduceNeg, int_bl, int_int, sli_tup, tr5, sline 2 (by omega), ht2]))).trans ?_
    refine (seq_of (ρ' := [some (.ref lr), some (.ref ld), some (.ref lx), some (.int (x.1 : Int)), some (.str x.2), some (.ref l5), some (trD (.nd x.2 (hold suf (x.1 + 1))))]) (S' := V) (by simp only [ev_var, ev_con, ev_bin, ev_un, ev_anil, ev_acons, ev_call, ev_tup, ev_lst, ev_not, ev_and, ev_or, ev_if, ev_cbl, ev_btrue, ev_cand, ev_cor, ev_cnot, ev_sli, ev_onone, ev_osome, ev_chain, ev_meth, ev_get2, ev_newK, ev_newT, ev_own, ev_nil, ev_seq, ev_expr, ev_set, ev_ret, ev_retN, ev_cif, ev_brk, ev_ct, ev_asg, ev_put, ev_aug, ev_for, ev_comp, ev_newL, ev_iseq, ev_irange, ev_ienum, ev_yes, Out.bind_ok, Out.bindN_ok, bindS_ok, Tg.set, Tg.sets, List.getElem?_cons_zero, List.getElem?_cons_succ, List.set_cons_zero, List.set_cons_succ, wipeE, List.length_cons, List.length_nil, Nat.reduceAdd, Nat.reduceLeDiff, Nat.reduceEqDiff, ↓reduceIte, Bool.false_eq_true, decide_eq_true_eq, add_int, sub_int, lt_int, gt_int, le_int, ge_int, neg_int, and_int, or_int, xor_int, max2_int, min2_int, mod_pos, fdiv_sm, mul_sm, mul_smr, Int.reduceLT, Int.reduceNeg, int_bl, int_int, sli_tup, tyq_dk c3, sline 0 (by omega), hD, e6, sline 1 (by omega), hE, ea, p2])).trans ?_
    exact expr_of (d := .non) (by simp only [ev_var, ev_con, ev_bin, ev_un, ev_anil, ev_acons, ev_call, ev_tup, ev_lst, ev_not, ev_and, ev_or, ev_if, ev_cbl, ev_btrue, ev_cand, ev_cor, ev_cnot, ev_sli, ev_onone, ev_osome, ev_chain, ev_meth, ev_get2, ev_newK, ev_newT, ev_own, ev_nil, ev_seq, ev_expr, ev_set, ev_ret, ev_retN, ev_cif, ev_brk, ev_ct, ev_asg, ev_put, ev_aug, ev_for, ev_comp, ev_newL, ev_iseq, ev_irange, ev_ienum, ev_yes, Out.bind_ok, Out.bindN_ok, bindS_ok, Tg.set, Tg.sets, List.getElem?_cons_zero, List.getElem?_cons_succ, List.set_cons_zero, List.set_cons_succ, wipeE, List.length_cons, List.length_nil, Nat.reduceAdd, Nat.reduceLeDiff, Nat.reduceEqDiff, ↓reduceIte, Bool.false_eq_true, decide_eq_true_eq, add_int, sub_int, lt_int, gt_int, le_int, ge_int, neg_int, and_int, or_int, xor_int, max2_int, min2_int, mod_pos, fdiv_sm, mul_sm, mul_smr, Int.reduceLT, Int.reduceNeg, int_bl, int_int, sli_tup, tyq_ref lxV, ap])
  · have fa : Fr (fun l => l = ld ∨ l = lx) S C := (g1.trans g2).any.trans (f3.imp fun l _ z => .inl z)
    exact (fa.trans gCU.any).trans ((f7.imp fun l _ z => .inl z).trans (f8.imp fun l _ z => .inr z))
  · have k8 := k7.fr (S2 := V.set lx (.lst ((trs (x :: suf)).reverse.map trD))) fun l ds a b => f8.get l _ a b
    refine k8.congr fun y => ?_
    rw [hold]
    by_cases q : y = x.1
    · rw [if_pos q, if_neg (by omega), if_pos q]
    · rw [if_neg q, if_neg q]
theorem trees_run {f lr : Nat} {R : List (Nat × Str)} {S : Sto} (hR : S[lr]? = some (.lst (R.map rowD))) (hl : R.length ≤ 1000) : ∃ (lt : Nat) (S' : Sto), F (f + 1) .l_trees [.ref lr] S = .ok (.ref lt) S' ∧ Gr S S' ∧ S'[lt]? = some (.lst ((trs R).map trD)) := by
  rw [F_l_trees]
  have g1 := gr_app S [Ob.dk []]
  have a1 := at_new S (.dk [])
  generalize hS1 : S ++ [Ob.dk []] = S1 at g1 a1
  have g2 := gr_app S1 [Ob.lst []]
  have a2 := at_new S1 (.lst [])
  generalize hS2 : S1 ++ [Ob.lst []] = S2 at g2 a2
  have lrS := lt_of_at hR
  have l1 := lt_of_at a1
  have l2 := g1.le
  have hR2 := g2.at (g1.at hR)
  obtain ⟨ρ', S', e, kvs, v3, v4, v5, v6, rfl, f', hd, hkl, hk, ht⟩ := loop_all (ck := (Ck.ls lr (R.map rowD)).ok) (t := .tp [.nm 3, .nm 4]) (b := b_l_trees_1 (F f)) (S := S2) (ρ := [some (.ref lr), some (.ref S.length), some (.ref S1.length), none, none, none, none])
    (fun i ρ S' => ∃ (kvs : List (L2.Key × Dv)) (v3 v4 v5 v6 : Option Dv), ρ = [some (.ref lr), some (.ref S.length), some (.ref S1.length), v3, v4, v5, v6] ∧ Fr (fun l => l = S.length ∨ l = S1.length) S2 S' ∧ S'[S.length]? = some (.dk kvs) ∧ kvs.length ≤ 2 * i ∧ HK kvs S' (hold (R.drop (R.length - i))) S1.length ∧ S'[S1.length]? = some (.lst ((trs (R.drop (R.length - i))).reverse.map trD)))
    (R.map rowD).reverse ⟨[], none, none, none, none, rfl, .refl _, g2.at a1, Nat.le_refl _, fun e => .inl ⟨rfl, by rw [Nat.sub_zero, List.drop_length]; rfl⟩, by rw [Nat.sub_zero, List.drop_length]; exact a2⟩
    (fun i v ρ S' hv ⟨kvs, v3, v4, v5, v6, hρ, f', hd, hkl, hk, ht⟩ => by
      subst hρ
      obtain ⟨hi, hv⟩ := rev_get hv
      rw [List.length_map] at hi hv
      rw [List.getElem?_map, Option.map_eq_some_iff] at hv
      obtain ⟨x, hx, rfl⟩ := hv
      have hj := (List.getElem?_eq_some_iff.mp hx).1
      have hd1 : R.drop (R.length - (i + 1)) = x :: R.drop (R.length - i) := by
        rw [show R.length - (i + 1) = R.length - 1 - i by omega, List.drop_eq_getElem_cons hj, show R.length - 1 - i + 1 = R.length - i by omega]
        congr 1
        rw [List.getElem?_eq_getElem hj] at hx
        injection hx
      obtain ⟨S3, kvs', u5, u6, e3, f3, hd3, hkl3, hk3, ht3⟩ := tree_step (x := x) (lr := lr) (v5 := v5) (v6 := v6) (G := F f) hd hk ht (by omega) (by rw [List.length_drop]; omega)
      refine ⟨f'.get lr _ hR2 (by show ¬ (lr = S.length ∨ lr = S1.length); omega), _, rfl, _, S3, .inl e3, kvs', _, _, u5, u6, rfl, f'.trans f3, hd3, by omega, by rw [hd1]; exact hk3, by rw [hd1]; exact ht3⟩)
    (fun ρ S' ⟨kvs, v3, v4, v5, v6, hρ, f', _⟩ => f'.get lr _ hR2 (by show ¬ (lr = S.length ∨ lr = S1.length); omega))
  rw [List.length_reverse, List.length_map, Nat.sub_self, List.drop_zero] at ht
  have er := lrev_ref ht
  rw [← List.map_reverse, List.reverse_reverse, ev_newL] at er
  have g9 := gr_app S' [Ob.lst ((trs R).map trD)]
  refine ⟨S'.length, S' ++ [Ob.lst ((trs R).map trD)], runF_rt (ρ := [some (.ref lr), none, none, none, none, none, none]) rfl rfl ?_, (Gr.new (g1.trans g2) f' (fun l z => by rcases z with z | z <;> omega)).trans g9, at_new _ _⟩
  unfold c_l_trees
  refine (seq_of (set_of (d := .ref S.length) (S' := S1) (by simp only [ev_var, ev_con, ev_bin, ev_un, ev_anil, ev_acons, ev_call, ev_tup, ev_lst, ev_not, ev_and, ev_or, ev_if, ev_cbl, ev_btrue, ev_cand, ev_cor, ev_cnot, ev_sli, ev_onone, ev_osome, ev_chain, ev_meth, ev_get2, ev_newK, ev_newT, ev_own, ev_nil, ev_seq, ev_expr, ev_set, ev_ret, ev_retN, ev_cif, ev_brk, ev_ct, ev_asg, ev_put, ev_aug, ev_for, ev_comp, ev_newL, ev_iseq, ev_irange, ev_ienum, ev_yes, Out.bind_ok, Out.bindN_ok, bindS_ok, Tg.set, Tg.sets, List.getElem?_cons_zero, List.getElem?_cons_succ, List.set_cons_zero, List.set_cons_succ, wipeE, List.length_cons, List.length_nil, Nat.reduceAdd, Nat.reduceLeDiff, Nat.reduceEqDiff, ↓reduceIte, Bool.false_eq_true, decide_eq_true_eq, add_int, sub_int, lt_int, gt_int, le_int, ge_int, neg_int, and_int, or_int, xor_int, max2_int, min2_int, mod_pos, fdiv_sm, mul_sm, mul_smr, Int.reduceLT, Int.reduceNeg, int_bl, int_int, sli_tup, hS1]))).trans ?_
  refine (seq_of (set_of (d := .ref S1.length) (S' := S2) (by simp only [ev_var, ev_con, ev_bin, ev_un, ev_anil, ev_acons, ev_call, ev_tup, ev_lst, ev_not, ev_and, ev_or, ev_if, ev_cbl, ev_btrue, ev_cand, ev_cor, ev_cnot, ev_sli, ev_onone, ev_osome, ev_chain, ev_meth, ev_get2, ev_newK, ev_newT, ev_own, ev_nil, ev_seq, ev_expr, ev_set, ev_ret, ev_retN, ev_cif, ev_brk, ev_ct, ev_asg, ev_put, ev_aug, ev_for, ev_comp, ev_newL, ev_iseq, ev_irange, ev_ienum, ev_yes, Out.bind_ok, Out.bindN_ok, bindS_ok, Tg.set, Tg.sets, List.getElem?_cons_zero, List.getElem?_cons_succ, List.set_cons_zero, List.set_cons_succ, wipeE, List.length_cons, List.length_nil, Nat.reduceAdd, Nat.reduceLeDiff, Nat.reduceEqDiff, ↓reduceIte, Bool.false_eq_true, decide_eq_true_eq, add_int, sub_int, lt_int, gt_int, le_int, ge_int, neg_int, and_int, or_int, xor_int, max2_int, min2_int, mod_pos, fdiv_sm, mul_sm, mul_smr, Int.reduceLT, Int.reduceNeg, int_bl, int_int, sli_tup, sline 0 (by omega), hS2]))).trans ?_
  have ez : (PL.iRev (eVar 0)) [some (.ref lr), some (.ref S.length), some (.ref S1.length), none, none, none, none] S2 = .ok ((R.map rowD).reverse, .ls lr (R.map rowD)) S2 := by
    simp only [PL.iRev, ev_var, ev_con, ev_bin, ev_un, ev_anil, ev_acons, ev_call, ev_tup, ev_lst, ev_not, ev_and, ev_or, ev_if, ev_cbl, ev_btrue, ev_cand, ev_cor, ev_cnot, ev_sli, ev_onone, ev_osome, ev_chain, ev_meth, ev_get2, ev_newK, ev_newT, ev_own, ev_nil, ev_seq, ev_expr, ev_set, ev_ret, ev_retN, ev_cif, ev_brk, ev_ct, ev_asg, ev_put, ev_aug, ev_for, ev_comp, ev_newL, ev_iseq, ev_irange, ev_ienum, ev_yes, Out.bind_ok, Out.bindN_ok, bindS_ok, Tg.set, Tg.sets, List.getElem?_cons_zero, List.getElem?_cons_succ, List.set_cons_zero, List.set_cons_succ, wipeE, List.length_cons, List.length_nil, Nat.reduceAdd, Nat.reduceLeDiff, Nat.reduceEqDiff, ↓reduceIte, Bool.false_eq_true, decide_eq_true_eq, add_int, sub_int, lt_int, gt_int, le_int, ge_int, neg_int, and_int, or_int, xor_int, max2_int, min2_int, mod_pos, fdiv_sm, mul_sm, mul_smr, Int.reduceLT, Int.reduceNeg, int_bl, int_int, sli_tup, seq_lst (lst_ref hR2)]; rfl
  exact (seq_of ((for_of ez).trans e)).trans (ret_of (by simp only [ev_var, ev_con, ev_bin, ev_un, ev_anil, ev_acons, ev_call, ev_tup, ev_lst, ev_not, ev_and, ev_or, ev_if, ev_cbl, ev_btrue, ev_cand, ev_cor, ev_cnot, ev_sli, ev_onone, ev_osome, ev_chain, ev_meth, ev_get2, ev_newK, ev_newT, ev_own, ev_nil, ev_seq, ev_expr, ev_set, ev_ret, ev_retN, ev_cif, ev_brk, ev_ct, ev_asg, ev_put, ev_aug, ev_for, ev_comp, ev_newL, ev_iseq, ev_irange, ev_ienum, ev_yes, Out.bind_ok, Out.bindN_ok, bindS_ok, Tg.set, Tg.sets, List.getElem?_cons_zero, List.getElem?_cons_succ, List.set_cons_zero, List.set_cons_succ, wipeE, List.length_cons, List.length_nil, Nat.reduceAdd, Nat.reduceLeDiff, Nat.reduceEqDiff, ↓reduceIte, Bool.false_eq_true, decide_eq_true_eq, add_int, sub_int, lt_int, gt_int, le_int, ge_int, neg_int, and_int, or_int, xor_int, max2_int, min2_int, mod_pos, fdiv_sm, mul_sm, mul_smr, Int.reduceLT, Int.reduceNeg, int_bl, int_int, sli_tup, er]))
/-! spots -/
def plD (p : List Nat) : Dv := .tup (p.map fun (n : Nat) => .int (n : Int))
theorem nxt_len (last : List Nat) (d : Nat) : (nxt last d).length ≤ last.length + 1 := by
  unfold nxt
  split
  · rw [List.length_append]; exact Nat.le_refl _
  · rw [List.length_append, List.length_take]; simp only [List.length_cons, List.length_nil]; omega
theorem spots_run {f lr : Nat} {k0 : Str} {rest : List (Nat × Str)} {S : Sto} (hR : S[lr]? = some (.lst (((0, k0) :: rest).map rowD))) (h1 : ∀ x ∈ rest, 1 ≤ x.1) (hl : rest.length ≤ 1000) :
    ∃ (l : Nat) (S' : Sto), F (f + 1) .l_spots [.ref lr] S = .ok (.ref l) S' ∧ Gr S S' ∧ S'[l]? = some (.lst (([] :: scan [] rest).map plD)) := by
  rw [F_l_spots]
  have g1 := gr_app S [Ob.lst ([[]].map plD)]
  have a1 := at_new S (.lst ([[]].map plD))
  generalize hS1 : S ++ [Ob.lst ([[]].map plD)] = S1 at g1 a1
  have s2 := tsli_ref (g1.at hR) (some 1) none
  have ct : cutD (((0, k0) :: rest).map rowD) (some 1) none = rest.map rowD := tcut_from (((0, k0) :: rest).map rowD) 1
  rw [ct, ev_newL] at s2
  have g2 := gr_app S1 [Ob.lst (rest.map rowD)]
  have a2 := at_new S1 (.lst (rest.map rowD))
  generalize hS2 : S1 ++ [Ob.lst (rest.map rowD)] = S2 at g2 a2 s2
  have n1 : S1.length ≠ S.length := by have := lt_of_at a1; omega
  obtain ⟨ρ', S', e, sp, A, last, v2, v3, v4, rfl, f', hsp, hA, hx, hll, hsl⟩ := loop_all (ck := (Ck.ls S1.length (rest.map rowD)).ok) (t := .tp [.nm 2, .nm 3]) (b := b_l_spots_1 (F f)) (S := S2) (ρ := [some (.ref lr), some (.ref S.length), none, none, none])
    (fun i ρ S' => ∃ (sp A : List (List Nat)) (last : List Nat) (v2 v3 v4 : Option Dv), ρ = [some (.ref lr), some (.ref S.length), v2, v3, v4] ∧ Fr (· = S.length) S2 S' ∧ S'[S.length]? = some (.lst (sp.map plD)) ∧ sp = A ++ [last] ∧ sp ++ scan last (rest.drop i) = [] :: scan [] rest ∧ last.length ≤ i ∧ sp.length = i + 1)
    (rest.map rowD) ⟨[[]], [], [], none, none, none, rfl, .refl _, g2.at a1, rfl, rfl, Nat.le_refl _, rfl⟩
    (fun i v ρ S' hv ⟨sp, A, last, v2, v3, v4, hρ, f', hsp, hA, hx, hll, hsl⟩ => by
      subst hρ
      rw [List.getElem?_map, Option.map_eq_some_iff] at hv
      obtain ⟨x, hx0, rfl⟩ := hv
      have hi := (List.getElem?_eq_some_iff.mp hx0).1
      have hd1 : rest.drop i = x :: rest.drop (i + 1) := by
        rw [List.drop_eq_getElem_cons hi]
        congr 1
        rw [List.getElem?_eq_getElem hi] at hx0; injection hx0
      have x1 := h1 x (List.mem_of_getElem? hx0)
      have nl := nxt_len last x.1
      have hsp2 := hsp
      rw [hA, List.map_append] at hsp2
      have il : idxD (.ref S.length) (.int (-1)) S' = .ok (plD last) S' := idx_last hsp2
      have ll : lenD [plD last] S' = .ok (.int (last.length : Int)) S' := by
        unfold plD; rw [len_tup, List.length_map]
      have ap : appendD (.ref S.length) [plD (nxt last x.1)] S' = .ok .non (S'.set S.length (.lst ((sp ++ [nxt last x.1]).map plD))) := by
        rw [app_ref hsp (by rw [List.length_map]; show _ < 2 ^ 24; omega), List.map_append]; rfl
      refine ⟨f'.get _ _ a2 (by show S1.length ≠ S.length; exact n1), _, rfl, [some (.ref lr), some (.ref S.length), some (.int (x.1 : Int)), some (.str x.2), some (plD last)], S'.set S.length (.lst ((sp ++ [nxt last x.1]).map plD)), .inl ?_, sp ++ [nxt last x.1], sp, nxt last x.1, _, _, _, rfl, f'.trans (fr_set _ _ _), at_set hsp, rfl, ?_, by omega, by rw [List.length_append, hsl]; rfl⟩
      · unfold b_l_spots_1
        refine (seq_of (set_of (d := plD last) (S' := S') (by simp only [ev_var, ev_con, ev_bin, ev_un, ev_anil, ev_acons, ev_call, ev_tup, ev_lst, ev_not, ev_and, ev_or, ev_if, ev_cbl, ev_btrue, ev_cand, ev_cor, ev_cnot, ev_sli, ev_onone, ev_osome, ev_chain, ev_meth, ev_get2, ev_newK, ev_newT, ev_own, ev_nil, ev_seq, ev_expr, ev_set, ev_ret, ev_retN, ev_cif, ev_brk, ev_ct, ev_asg, ev_put, ev_aug, ev_for, ev_comp, ev_newL, ev_iseq, ev_irange, ev_ienum, ev_yes, Out.bind_ok, Out.bindN_ok, bindS_ok, Tg.set, Tg.sets, List.getElem?_cons_zero, List.getElem?_cons_succ, List.set_cons_zero, List.set_cons_succ, wipeE, List.length_cons, List.length_nil, Nat.reduceAdd, Nat.reduceLeDiff, Nat.reduceEqDiff, ↓reduceIte, Bool.false_eq_true, decide_eq_true_eq, add_int, sub_int, lt_int, gt_int, le_int, ge_int, neg_int, and_int, or_int, xor_int, max2_int, min2_int, mod_pos, fdiv_sm, mul_sm, mul_smr, Int.reduceLT, Int.reduceNeg, int_bl, int_int, sli_tup, il]))).trans ?_
        by_cases q : last.length < x.1
        · have en : nxt last x.1 = last ++ [0] := by unfold nxt; rw [if_pos q]
          rw [en] at ap ⊢
          have ea : addD (plD last) (.tup [.int 0]) S' = .ok (plD (last ++ [0])) S' := by
            unfold plD
            rw [tadd_tup (sline _ (by rw [List.length_map]; simp only [List.length_cons, List.length_nil]; omega)), List.map_append]; rfl
          exact (if_t (S' := S') (by simp only [ev_var, ev_con, ev_bin, ev_un, ev_anil, ev_acons, ev_call, ev_tup, ev_lst, ev_not, ev_and, ev_or, ev_if, ev_cbl, ev_btrue, ev_cand, ev_cor, ev_cnot, ev_sli, ev_onone, ev_osome, ev_chain, ev_meth, ev_get2, ev_newK, ev_newT, ev_own, ev_nil, ev_seq, ev_expr, ev_set, ev_ret, ev_retN, ev_cif, ev_brk, ev_ct, ev_asg, ev_put, ev_aug, ev_for, ev_comp, ev_newL, ev_iseq, ev_irange, ev_ienum, ev_yes, Out.bind_ok, Out.bindN_ok, bindS_ok, Tg.set, Tg.sets, List.getElem?_cons_zero, List.getElem?_cons_succ, List.set_cons_zero, List.set_cons_succ, wipeE, List.length_cons, List.length_nil, Nat.reduceAdd, Nat.reduceLeDiff, Nat.reduceEqDiff, ↓reduceIte, Bool.false_eq_true, decide_eq_true_eq, add_int, sub_int, lt_int, gt_int, le_int, ge_int, neg_int, and_int, or_int, xor_int, max2_int, min2_int, mod_pos, fdiv_sm, mul_sm, mul_smr, Int.reduceLT, Int.reduceNeg, int_bl, int_int, sli_tup, ll, Int.ofNat_lt, q, decide_true])).trans (expr_of (d := .non) (by simp only [ev_var, ev_con, ev_bin, ev_un, ev_anil, ev_acons, ev_call, ev_tup, ev_lst, ev_not, ev_and, ev_or, ev_if, ev_cbl, ev_btrue, ev_cand, ev_cor, ev_cnot, ev_sli, ev_onone, ev_osome, ev_chain, ev_meth, ev_get2, ev_newK, ev_newT, ev_own, ev_nil, ev_seq, ev_expr, ev_set, ev_ret, ev_retN, ev_cif, ev_brk, ev_ct, ev_asg, ev_put, ev_aug, ev_for, ev_comp, ev_newL, ev_iseq, ev_irange, ev_ienum, ev_yes, Out.bind_ok, Out.bindN_ok, bindS_ok, Tg.set, Tg.sets, List.getElem?_cons_zero, List.getElem?_cons_succ, List.set_cons_zero, List.set_cons_succ, wipeE, List.length_cons, List.length_nil, Nat.reduceAdd, Nat.reduceLeDiff, Nat.reduceEqDiff, ↓reduceIte, Bool.false_eq_true, decide_eq_true_eq, add_int, sub_int, lt_int, gt_int, le_int, ge_int, neg_int, and_int, or_int, xor_int, max2_int, min2_int, mod_pos, fdiv_sm, mul_sm, mul_smr, Int.reduceLT, Int.reduceNeg, int_bl, int_int, sli_tup, tyq_ref hsp, sline 1 (by omega), ea, ap]))
        · have hlt : x.1 - 1 < last.length := by omega
          have en : nxt last x.1 = last.take (x.1 - 1) ++ [last.getD (x.1 - 1) 0 + 1] := by unfold nxt; rw [if_neg q]
          have ed : last.getD (x.1 - 1) 0 = last[x.1 - 1] := by rw [List.getD_eq_getElem?_getD, List.getElem?_eq_getElem hlt]; rfl
          rw [en, ed] at ap ⊢
          have e1 : (x.1 : Int) - 1 = ((x.1 - 1 : Nat) : Int) := by omega
          have es : sliD (plD last) none (some ((x.1 - 1 : Nat) : Int)) S' = .ok (plD (last.take (x.1 - 1))) S' := by
            unfold plD
            rw [sli_tup, tcut_to, List.map_take]
          have ei : idxD (plD last) (.int ((x.1 - 1 : Nat) : Int)) S' = .ok (.int (last[x.1 - 1] : Int)) S' := idx_tup (atI_nat (by rw [List.getElem?_map, List.getElem?_eq_getElem hlt]; rfl))
          have ea : addD (plD (last.take (x.1 - 1))) (.tup [.int ((last[x.1 - 1] : Int) + 1)]) S' = .ok (plD (last.take (x.1 - 1) ++ [last[x.1 - 1] + 1])) S' := by
            unfold plD
            rw [tadd_tup (sline _ (by rw [List.length_map, List.length_take]; simp only [List.length_cons, List.length_nil]; omega)), List.map_append]; rfl
          exact (if_f (S' := S') (by simp only [ev_var, ev_con, ev_bin, ev_un, ev_anil, ev_acons, ev_call, ev_tup, ev_lst, ev_not, ev_and, ev_or, ev_if, ev_cbl, ev_btrue, ev_cand, ev_cor, ev_cnot, ev_sli, ev_onone, ev_osome, ev_chain, ev_meth, ev_get2, ev_newK, ev_newT, ev_own, ev_nil, ev_seq, ev_expr, ev_set, ev_ret, ev_retN, ev_cif, ev_brk, ev_ct, ev_asg, ev_put, ev_aug, ev_for, ev_comp, ev_newL, ev_iseq, ev_irange, ev_ienum, ev_yes, Out.bind_ok, Out.bindN_ok, bindS_ok, Tg.set, Tg.sets, List.getElem?_cons_zero, List.getElem?_cons_succ, List.set_cons_zero, List.set_cons_succ, wipeE, List.length_cons, List.length_nil, Nat.reduceAdd, Nat.reduceLeDiff, Nat.reduceEqDiff, ↓reduceIte, Bool.false_eq_true, decide_eq_true_eq, add_int, sub_int, lt_int, gt_int, le_int, ge_int, neg_int, and_int, or_int, xor_int, max2_int, min2_int, mod_pos, fdiv_sm, mul_sm, mul_smr, Int.reduceLT, Int.reduceNeg, int_bl, int_int, sli_tup, ll, Int.ofNat_lt, q, decide_false])).trans (expr_of (d := .non) (by simp only [ev_expr, ev_meth, ev_acons, ev_anil, ev_bin, ev_sli, ev_tup, ev_var, ev_con, ev_onone, ev_osome, List.getElem?_cons_zero, List.getElem?_cons_succ, List.set_cons_zero, List.set_cons_succ, List.length_cons, List.length_nil, Nat.reduceAdd, Out.bind_ok, sub_int, add_int, tyq_ref hsp, sline 1 (by omega), ↓reduceIte, e1, es, ei, ea, ap]))
      · rw [List.append_assoc, ← hx, hd1]; rfl)
    (fun ρ S' ⟨_, _, _, _, _, _, _, f', _⟩ => f'.get _ _ a2 (by show S1.length ≠ S.length; exact n1))
  rw [List.length_map, List.drop_length] at hx
  have hx' : sp = [] :: scan [] rest := by rw [← hx]; exact (List.append_nil _).symm
  rw [hx'] at hsp
  refine ⟨S.length, S', runF_rt (ρ := [some (.ref lr), none, none, none, none]) rfl rfl ?_, Gr.new (g1.trans g2) f' (fun l z => by omega), hsp⟩
  unfold c_l_spots
  have e1 : ([.tup []] : List Dv) = [[]].map plD := rfl
  have sl : ([[]].map plD).length ≤ sizeLine := sline 1 (by omega)
  refine (seq_of (set_of (d := .ref S.length) (S' := S1) (by simp only [ev_var, ev_con, ev_bin, ev_un, ev_anil, ev_acons, ev_call, ev_tup, ev_lst, ev_not, ev_and, ev_or, ev_if, ev_cbl, ev_btrue, ev_cand, ev_cor, ev_cnot, ev_sli, ev_onone, ev_osome, ev_chain, ev_meth, ev_get2, ev_newK, ev_newT, ev_own, ev_nil, ev_seq, ev_expr, ev_set, ev_ret, ev_retN, ev_cif, ev_brk, ev_ct, ev_asg, ev_put, ev_aug, ev_for, ev_comp, ev_newL, ev_iseq, ev_irange, ev_ienum, ev_yes, Out.bind_ok, Out.bindN_ok, bindS_ok, Tg.set, Tg.sets, List.getElem?_cons_zero, List.getElem?_cons_succ, List.set_cons_zero, List.set_cons_succ, wipeE, List.length_cons, List.length_nil, Nat.reduceAdd, Nat.reduceLeDiff, Nat.reduceEqDiff, ↓reduceIte, Bool.false_eq_true, decide_eq_true_eq, add_int, sub_int, lt_int, gt_int, le_int, ge_int, neg_int, and_int, or_int, xor_int, max2_int, min2_int, mod_pos, fdiv_sm, mul_sm, mul_smr, Int.reduceLT, Int.reduceNeg, int_bl, int_int, sli_tup, sline 0 (by omega), e1, sl, hS1]))).trans ?_
  exact (seq_of ((for_of (w := (rest.map rowD, .ls S1.length (rest.map rowD))) (S' := S2) (by simp only [ev_var, ev_con, ev_bin, ev_un, ev_anil, ev_acons, ev_call, ev_tup, ev_lst, ev_not, ev_and, ev_or, ev_if, ev_cbl, ev_btrue, ev_cand, ev_cor, ev_cnot, ev_sli, ev_onone, ev_osome, ev_chain, ev_meth, ev_get2, ev_newK, ev_newT, ev_own, ev_nil, ev_seq, ev_expr, ev_set, ev_ret, ev_retN, ev_cif, ev_brk, ev_ct, ev_asg, ev_put, ev_aug, ev_for, ev_comp, ev_newL, ev_iseq, ev_irange, ev_ienum, ev_yes, Out.bind_ok, Out.bindN_ok, bindS_ok, Tg.set, Tg.sets, List.getElem?_cons_zero, List.getElem?_cons_succ, List.set_cons_zero, List.set_cons_succ, wipeE, List.length_cons, List.length_nil, Nat.reduceAdd, Nat.reduceLeDiff, Nat.reduceEqDiff, ↓reduceIte, Bool.false_eq_true, decide_eq_true_eq, add_int, sub_int, lt_int, gt_int, le_int, ge_int, neg_int, and_int, or_int, xor_int, max2_int, min2_int, mod_pos, fdiv_sm, mul_sm, mul_smr, Int.reduceLT, Int.reduceNeg, int_bl, int_int, sli_tup, s2, walk_ref a2])).trans e)).trans (ret_of rfl)
/-! lists of places are told alike -/
theorem toPs_ints (n : Nat) (S : Sto) : ∀ p : List Nat, toPs (n + 1) S (p.map fun (n : Nat) => .int (n : Int)) = some (p.map fun (n : Nat) => .int (n : Int))
  | [] => by simp only [List.map_nil, toPs]
  | y :: ys => by simp only [List.map_cons, toPs, toP, toPs_ints n S ys]
def plP (p : List Nat) : PyData := .tuple (p.map fun (n : Nat) => .int (n : Int))
theorem toPs_plD (n : Nat) (S : Sto) : ∀ P : List (List Nat), toPs (n + 2) S (P.map plD) = some (P.map plP)
  | [] => by simp only [List.map_nil, toPs]
  | y :: ys => by
    have h := toPs_ints n S y
    have ih := toPs_plD n S ys
    have e : toP (n + 2) S (plD y) = some (plP y) := by unfold plD plP; simp only [toP, h, Option.map_some]
    simp only [List.map_cons, toPs, e, ih]
theorem pl_data (P : List (List Nat)) : PyData.canLayAll0 (P.map plP) = true ∧ PyData.depthAll (P.map plP) ≤ 1 ∧ PyData.eqvAll (P.map plP) (P.map plP) = true := by
  have hin : ∀ p : List Nat, PyData.canLayAll0 (p.map fun (n : Nat) => PyData.int (n : Int)) = true ∧ PyData.depthAll (p.map fun (n : Nat) => PyData.int (n : Int)) = 0 ∧ PyData.eqvAll (p.map fun (n : Nat) => PyData.int (n : Int)) (p.map fun (n : Nat) => PyData.int (n : Int)) = true := fun p => by
    induction p with
    | nil => exact ⟨by simp [PyData.canLayAll0], by simp [PyData.depthAll], by simp [PyData.eqvAll]⟩
    | cons n p ih =>
      refine ⟨?_, ?_, ?_⟩
      · rw [List.map_cons, PyData.canLayAll0, PyData.canLay0, ih.1]; rfl
      · rw [List.map_cons, PyData.depthAll, PyData.depth, ih.2.1]; rfl
      · rw [List.map_cons, PyData.eqvAll, PyData.eqv, ih.2.2]; simp
  induction P with
  | nil => exact ⟨by simp [PyData.canLayAll0], by simp [PyData.depthAll], by simp [PyData.eqvAll]⟩
  | cons p P ih =>
    obtain ⟨a, b, c⟩ := hin p
    refine ⟨?_, ?_, ?_⟩
    · rw [List.map_cons, plP, PyData.canLayAll0, PyData.canLay0, a, ih.1]; rfl
    · rw [List.map_cons, plP, PyData.depthAll, PyData.depth, b]; omega
    · rw [List.map_cons, plP, PyData.eqvAll, PyData.eqv, c, ih.2.2]; rfl
theorem pl_toP {S : Sto} {a : Nat} {P : List (List Nat)} (h : S[a]? = some (.lst (P.map plD))) : toP 40 S (.ref a) = some (.list (P.map plP)) ∧ SeqAt.shaped (.list (P.map plP)) = true := by
  obtain ⟨x, y, z⟩ := pl_data P
  refine ⟨by simp only [toP, h, toPs_plD 37 S P, Option.map_some], ?_⟩
  unfold SeqAt.shaped
  rw [PyData.canLay0, PyData.depth, x, Bool.true_and]
  exact decide_eq_true (by omega)
theorem ne_places {S : Sto} {a b : Nat} {P : List (List Nat)} (ha : S[a]? = some (.lst (P.map plD))) (hb : S[b]? = some (.lst (P.map plD))) : neD (.ref a) (.ref b) S = .ok (.bl false) S := by
  obtain ⟨p1, p2⟩ := pl_toP ha
  obtain ⟨q1, _⟩ := pl_toP hb
  have e : PyData.eqv (.list (P.map plP)) (.list (P.map plP)) = true := by rw [PyData.eqv]; exact (pl_data P).2.2
  simp only [neD, eqq, p1, q1, p2, and_self, ↓reduceIte, e]; rfl
theorem blsOf_map : ∀ bs : List Bool, blsOf (bs.map .bl) = some bs
  | [] => rfl
  | n :: ns => by rw [List.map_cons, blsOf, blsOf_map ns]; rfl
theorem isi_list {S : Sto} {l : Nat} {ds : List Dv} (h : S[l]? = some (.lst ds)) : isiD "list" (.ref l) S = .ok (.bl true) S := by
  simp only [isiD, tyN, h]; rfl
/-! the tree at a place -/
theorem tree_at_run {f : Nat} {t s : Tr} {w : List Nat} {S : Sto} (h : sub t w = some s) : F (f + 1) .tree_at [trD t, plD w] S = .ok (trD s) S := by
  rw [F_tree_at]
  obtain ⟨ρ', S', e, t', v3, rfl, hS, ht⟩ := loop_all (ck := Ck.tt.ok) (t := .nm 3) (b := b_tree_at_1 (F f)) (S := S) (ρ := [some (trD t), some (plD w), some (trD t), none])
    (fun i ρ S' => ∃ (t' : Tr) (v3 : Option Dv), ρ = [some (trD t), some (plD w), some (trD t'), v3] ∧ S' = S ∧ sub t' (w.drop i) = some s) (w.map fun (n : Nat) => .int (n : Int)) ⟨t, none, rfl, rfl, h⟩
    (fun i v ρ S' hv ⟨t', v3, hρ, hS, ht⟩ => by
      subst hρ
      subst hS
      rw [List.getElem?_map, Option.map_eq_some_iff] at hv
      obtain ⟨n, hn, rfl⟩ := hv
      have hi := (List.getElem?_eq_some_iff.mp hn).1
      have hd1 : w.drop i = n :: w.drop (i + 1) := by
        rw [List.drop_eq_getElem_cons hi]
        congr 1
        rw [List.getElem?_eq_getElem hi] at hn; injection hn
      rw [hd1, sub] at ht
      obtain ⟨k, ps⟩ := t'
      change (match ps[n]? with | some c => sub c (w.drop (i + 1)) | none => none) = some s at ht
      cases q : ps[n]? with
      | none => rw [q] at ht; cases ht
      | some c =>
        rw [q] at ht
        have i1 : idxD (trD (.nd k ps)) (.int 1) S' = .ok (.tup (trDs ps)) S' := by rw [trD]; exact idx_t1
        have i2 : idxD (.tup (trDs ps)) (.int (n : Int)) S' = .ok (trD c) S' := idx_tup (atI_nat (by rw [trDs_map, List.getElem?_map, q]; rfl))
        refine ⟨trivial, _, rfl, [some (trD t), some (plD w), some (trD c), some (.int (n : Int))], S', .inl ?_, c, _, rfl, rfl, ht⟩
        unfold b_tree_at_1
        exact set_of (by simp only [ev_var, ev_con, ev_bin, ev_un, ev_anil, ev_acons, ev_call, ev_tup, ev_lst, ev_not, ev_and, ev_or, ev_if, ev_cbl, ev_btrue, ev_cand, ev_cor, ev_cnot, ev_sli, ev_onone, ev_osome, ev_chain, ev_meth, ev_get2, ev_newK, ev_newT, ev_own, ev_nil, ev_seq, ev_expr, ev_set, ev_ret, ev_retN, ev_cif, ev_brk, ev_ct, ev_asg, ev_put, ev_aug, ev_for, ev_comp, ev_newL, ev_iseq, ev_irange, ev_ienum, ev_yes, Out.bind_ok, Out.bindN_ok, bindS_ok, Tg.set, Tg.sets, List.getElem?_cons_zero, List.getElem?_cons_succ, List.set_cons_zero, List.set_cons_succ, wipeE, List.length_cons, List.length_nil, Nat.reduceAdd, Nat.reduceLeDiff, Nat.reduceEqDiff, ↓reduceIte, Bool.false_eq_true, decide_eq_true_eq, add_int, sub_int, lt_int, gt_int, le_int, ge_int, neg_int, and_int, or_int, xor_int, max2_int, min2_int, mod_pos, fdiv_sm, mul_sm, mul_smr, Int.reduceLT, Int.reduceNeg, int_bl, int_int, sli_tup, i1, i2]))
    (fun _ _ _ => trivial)
  subst hS
  rw [List.length_map, List.drop_length] at ht
  have : t' = s := by rw [sub] at ht; injection ht
  subst this
  refine runF_rt (ρ := [some (trD t), some (plD w), none, none]) rfl rfl ?_
  unfold c_tree_at
  refine (seq_of (set_of (d := trD t) (S' := S') rfl)).trans ?_
  exact (seq_of ((for_of (w := (w.map fun (n : Nat) => Dv.int (n : Int), .tt)) (S' := S') (by simp only [ev_var, ev_con, ev_bin, ev_un, ev_anil, ev_acons, ev_call, ev_tup, ev_lst, ev_not, ev_and, ev_or, ev_if, ev_cbl, ev_btrue, ev_cand, ev_cor, ev_cnot, ev_sli, ev_onone, ev_osome, ev_chain, ev_meth, ev_get2, ev_newK, ev_newT, ev_own, ev_nil, ev_seq, ev_expr, ev_set, ev_ret, ev_retN, ev_cif, ev_brk, ev_ct, ev_asg, ev_put, ev_aug, ev_for, ev_comp, ev_newL, ev_iseq, ev_irange, ev_ienum, ev_yes, Out.bind_ok, Out.bindN_ok, bindS_ok, Tg.set, Tg.sets, List.getElem?_cons_zero, List.getElem?_cons_succ, List.set_cons_zero, List.set_cons_succ, wipeE, List.length_cons, List.length_nil, Nat.reduceAdd, Nat.reduceLeDiff, Nat.reduceEqDiff, ↓reduceIte, Bool.false_eq_true, decide_eq_true_eq, add_int, sub_int, lt_int, gt_int, le_int, ge_int, neg_int, and_int, or_int, xor_int, max2_int, min2_int, mod_pos, fdiv_sm, mul_sm, mul_smr, Int.reduceLT, Int.reduceNeg, int_bl, int_int, sli_tup, plD, walk_tup])).trans e)).trans (ret_of rfl)
/-! all places -/
def kids : List Tr → List Nat → Nat → List (List Nat × Tr)
  | [], _, _ => []
  | t :: ts, p, i => (p ++ [i], t) :: kids ts p (i + 1)
theorem kids_len : ∀ (ts : List Tr) (p : List Nat) (i : Nat), (kids ts p i).length = ts.length
  | [], _, _ => rfl
  | t :: ts, p, i => by rw [kids, List.length_cons, List.length_cons, kids_len ts]
theorem kids_get : ∀ (ts : List Tr) (p : List Nat) (i j : Nat) (c : Tr), ts[j]? = some c → (kids ts p i)[j]? = some (p ++ [i + j], c)
  | [], _, _, _, _, h => by simp at h
  | t :: ts, p, i, 0, c, h => by
    simp only [List.getElem?_cons_zero, Option.some.injEq] at h; subst h; rfl
  | t :: ts, p, i, j + 1, c, h => by
    rw [List.getElem?_cons_succ] at h
    rw [kids, List.getElem?_cons_succ, kids_get ts p (i + 1) j c h, show i + 1 + j = i + (j + 1) by omega]
theorem kids_plc : ∀ (ts : List Tr) (p : List Nat) (i : Nat), (kids ts p i).flatMap (fun x => plc x.2 x.1) = plcs ts p i
  | [], _, _ => by rw [kids, plcs]; rfl
  | t :: ts, p, i => by rw [kids, List.flatMap_cons, kids_plc ts, plcs]
theorem kids_siz : ∀ (ts : List Tr) (p : List Nat) (i : Nat), ((kids ts p i).map fun x => siz x.2).sum = sizs ts
  | [], _, _ => by rw [kids, sizs]; rfl
  | t :: ts, p, i => by rw [kids, List.map_cons, List.sum_cons, kids_siz ts, sizs]
theorem kids_mem : ∀ (ts : List Tr) (p : List Nat) (i : Nat) (x : List Nat × Tr), x ∈ kids ts p i → x.1.length = p.length + 1 ∧ siz x.2 ≤ sizs ts
  | [], _, _, x, h => by simp [kids] at h
  | t :: ts, p, i, x, h => by
    rw [kids] at h
    rw [sizs]
    rcases List.mem_cons.mp h with rfl | h
    · exact ⟨by rw [List.length_append]; rfl, Nat.le_add_right _ _⟩
    · have := kids_mem ts p (i + 1) x h
      exact ⟨this.1, by omega⟩
theorem siz_pos : ∀ t : Tr, 1 ≤ siz t
  | .nd k ps => by rw [siz]; omega
def stD (x : List Nat × Tr) : Dv := .tup [plD x.1, trD x.2]
theorem len_sum : ∀ st : List (List Nat × Tr), st.length ≤ (st.map fun x => siz x.2).sum
  | [] => Nat.le_refl _
  | x :: st => by
    have := len_sum st
    have := siz_pos x.2
    rw [List.map_cons, List.sum_cons, List.length_cons]; omega
theorem rok_neg : rok (-1) = true := by unfold rok; exact @decide_eq_true _ (Classical.propDecidable _) ⟨by omega, by omega⟩
theorem rng3_of {n : Nat} (h : n ≤ 100000) : rng3 [.int ((n : Int) - 1), .int (-1), .int (-1)] = some (downL ((n : Int) - 1) (-1)) := by
  have r : rok ((n : Int) - 1) = true := by unfold rok; exact @decide_eq_true _ (Classical.propDecidable _) ⟨by omega, by omega⟩
  simp only [rng3]
  rw [if_pos ⟨r, rok_neg, trivial⟩]
theorem tdownN_get {n i : Nat} {v : Dv} (h : (downL ((n : Int) - 1) (-1))[i]? = some v) : i < n ∧ v = .int ((n - 1 - i : Nat) : Int) := by
  have hl : (downL ((n : Int) - 1) (-1)).length = n := by simp [downL]
  have hi : i < n := by
    have := (List.getElem?_eq_some_iff.mp h).1
    omega
  refine ⟨hi, ?_⟩
  simp only [downL, List.getElem?_map, List.getElem?_range (show i < ((n : Int) - 1 - (-1)).toNat by omega), Option.map_some, Option.some.injEq] at h
  rw [← h]
  congr 1
  omega
theorem places_step {G : Fn → List Dv → Sto → Out Dv} {t0 : Dv} {ls ll : Nat} {p : List Nat} {k : Str} {ps : List Tr} {st : List (List Nat × Tr)} {acc : List (List Nat)} {v3 v4 v5 : Option Dv} {S : Sto} (hne : ls ≠ ll) (hs : S[ls]? = some (.lst (acc.map plD))) (hl : S[ll]? = some (.lst (((p, Tr.nd k ps) :: st).reverse.map stD))) (h1 : acc.length ≤ 10000) (h2 : st.length + ps.length ≤ 10000) (h3 : p.length ≤ 10000) :
    ∃ (S' : Sto) (u3 u4 u5 : Option Dv), b_all_places_3 G [some t0, some (.ref ls), some (.ref ll), v3, v4, v5] S = .fl (.nx [some t0, some (.ref ls), some (.ref ll), u3, u4, u5]) S' ∧ Fr (fun l => l = ls ∨ l = ll) S S' ∧ S'[ls]? = some (.lst ((acc ++ [p]).map plD)) ∧ S'[ll]? = some (.lst ((kids ps p 0 ++ st).reverse.map stD)) := by
  rw [List.reverse_cons, List.map_append] at hl
  have pp : popD (.ref ll) [] S = .ok (stD (p, .nd k ps)) (S.set ll (.lst (st.reverse.map stD))) := pop_ref hl
  have f1 := fr_set S ll (.lst (st.reverse.map stD))
  have c1 := at_set (o := .lst (st.reverse.map stD)) hl
  have s1 := f1.get ls _ hs hne
  generalize S.set ll (.lst (st.reverse.map stD)) = S1 at pp f1 c1 s1
  have ap : appendD (.ref ls) [plD p] S1 = .ok .non (S1.set ls (.lst ((acc ++ [p]).map plD))) := by
    rw [app_ref s1 (by rw [List.length_map]; show _ < 2 ^ 24; omega), List.map_append]; rfl
  have f2 := fr_set S1 ls (.lst ((acc ++ [p]).map plD))
  have c2 := at_set (o := .lst ((acc ++ [p]).map plD)) s1
  have l2 := f2.get ll _ c1 (fun z => hne z.symm)
  generalize S1.set ls (.lst ((acc ++ [p]).map plD)) = S2 at ap f2 c2 l2
  have kl := kids_len ps p 0
  have it : ∀ S, idxD (trD (.nd k ps)) (.int 1) S = .ok (.tup (trDs ps)) S := fun S => by rw [trD]; exact idx_t1
  have lt : ∀ S, lenD [.tup (trDs ps)] S = .ok (.int (ps.length : Int)) S := fun S => by rw [len_tup, trDs_map, List.length_map]
  have dl : (downL ((ps.length : Int) - 1) (-1)).length = ps.length := by simp [downL]
  obtain ⟨ρ', S', e, u3, rfl, f', hl'⟩ := loop_all (ck := Ck.tt.ok) (t := .nm 3) (b := b_all_places_2 G) (S := S2) (ρ := [some t0, some (.ref ls), some (.ref ll), v3, some (plD p), some (trD (.nd k ps))])
    (fun i ρ S' => ∃ u3, ρ = [some t0, some (.ref ls), some (.ref ll), u3, some (plD p), some (trD (.nd k ps))] ∧ Fr (· = ll) S2 S' ∧ S'[ll]? = some (.lst ((st.reverse ++ (kids ps p 0).reverse.take i).map stD)))
    (downL ((ps.length : Int) - 1) (-1)) ⟨v3, rfl, .refl _, by rw [List.take_zero, List.append_nil]; exact l2⟩
    (fun i v ρ S' hv ⟨u3, hρ, f', hl'⟩ => by
      subst hρ
      obtain ⟨hi, rfl⟩ := tdownN_get hv
      obtain ⟨j, hj⟩ : ∃ j, j = ps.length - 1 - i := ⟨_, rfl⟩
      rw [← hj]
      have hjl : j < ps.length := by omega
      have hc : ps[j]? = some ps[j] := List.getElem?_eq_getElem hjl
      have hk := kids_get ps p 0 j _ hc
      rw [Nat.zero_add] at hk
      have hr : (kids ps p 0).reverse[i]? = some (p ++ [j], ps[j]) := by
        rw [List.getElem?_reverse (by omega), kl, ← hj]; exact hk
      have i2 : idxD (.tup (trDs ps)) (.int (j : Int)) S' = .ok (trD ps[j]) S' := idx_tup (atI_nat (by rw [trDs_map, List.getElem?_map, hc]; rfl))
      have ea : addD (plD p) (.tup [.int (j : Int)]) S' = .ok (plD (p ++ [j])) S' := by
        unfold plD
        rw [tadd_tup (sline _ (by rw [List.length_map]; simp only [List.length_cons, List.length_nil]; omega)), List.map_append]; rfl
      have ap : appendD (.ref ll) [.tup [plD (p ++ [j]), trD ps[j]]] S' = .ok .non (S'.set ll (.lst ((st.reverse ++ (kids ps p 0).reverse.take (i + 1)).map stD))) := by
        have e : (st.reverse ++ (kids ps p 0).reverse.take (i + 1)).map stD = (st.reverse ++ (kids ps p 0).reverse.take i).map stD ++ [stD (p ++ [j], ps[j])] := by rw [List.take_add_one, hr, ← List.append_assoc, List.map_append]; rfl
        rw [app_ref hl' (by rw [List.length_map, List.length_append, List.length_reverse, List.length_take, List.length_reverse]; show _ < 2 ^ 24; omega), e]; rfl
      refine ⟨trivial, _, rfl, [some t0, some (.ref ls), some (.ref ll), some (.int (j : Int)), some (plD p), some (trD (.nd k ps))], S'.set ll (.lst ((st.reverse ++ (kids ps p 0).reverse.take (i + 1)).map stD)), .inl ?_, _, rfl, f'.trans (fr_set _ _ _), at_set hl'⟩
      unfold b_all_places_2
      exact expr_of (d := .non) (by simp only [ev_var, ev_con, ev_bin, ev_un, ev_anil, ev_acons, ev_call, ev_tup, ev_lst, ev_not, ev_and, ev_or, ev_if, ev_cbl, ev_btrue, ev_cand, ev_cor, ev_cnot, ev_sli, ev_onone, ev_osome, ev_chain, ev_meth, ev_get2, ev_newK, ev_newT, ev_own, ev_nil, ev_seq, ev_expr, ev_set, ev_ret, ev_retN, ev_cif, ev_brk, ev_ct, ev_asg, ev_put, ev_aug, ev_for, ev_comp, ev_newL, ev_iseq, ev_irange, ev_ienum, ev_yes, Out.bind_ok, Out.bindN_ok, bindS_ok, Tg.set, Tg.sets, List.getElem?_cons_zero, List.getElem?_cons_succ, List.set_cons_zero, List.set_cons_succ, wipeE, List.length_cons, List.length_nil, Nat.reduceAdd, Nat.reduceLeDiff, Nat.reduceEqDiff, ↓reduceIte, Bool.false_eq_true, decide_eq_true_eq, add_int, sub_int, lt_int, gt_int, le_int, ge_int, neg_int, and_int, or_int, xor_int, max2_int, min2_int, mod_pos, fdiv_sm, mul_sm, mul_smr, Int.reduceLT, Int.reduceNeg, int_bl, int_int, sli_tup, tyq_ref hl', sline 1 (by omega), sline 2 (by omega), ea, it, i2, ap]))
    (fun _ _ _ => trivial)
  rw [dl, List.take_of_length_le (by rw [List.length_reverse, kl]; exact Nat.le_refl _), ← List.reverse_append] at hl'
  refine ⟨S', u3, some (plD p), some (trD (.nd k ps)), ?_, ((f1.imp fun l _ z => .inr z).trans (f2.imp fun l _ z => .inl z)).trans (f'.imp fun l _ z => .inr z), f'.get ls _ c2 (by show ls ≠ ll; exact hne), hl'⟩
  unfold b_all_places_3
  refine (seq_of (ρ' := [some t0, some (.ref ls), some (.ref ll), v3, some (plD p), some (trD (.nd k ps))]) (S' := S1) (by simp only [ev_var, ev_con, ev_bin, ev_un, ev_anil, ev_acons, ev_call, ev_tup, ev_lst, ev_not, ev_and, ev_or, ev_if, ev_cbl, ev_btrue, ev_cand, ev_cor, ev_cnot, ev_sli, ev_onone, ev_osome, ev_chain, ev_meth, ev_get2, ev_newK, ev_newT, ev_own, ev_nil, ev_seq, ev_expr, ev_set, ev_ret, ev_retN, ev_cif, ev_brk, ev_ct, ev_asg, ev_put, ev_aug, ev_for, ev_comp, ev_newL, ev_iseq, ev_irange, ev_ienum, ev_yes, Out.bind_ok, Out.bindN_ok, bindS_ok, Tg.set, Tg.sets, List.getElem?_cons_zero, List.getElem?_cons_succ, List.set_cons_zero, List.set_cons_succ, wipeE, List.length_cons, List.length_nil, Nat.reduceAdd, Nat.reduceLeDiff, Nat.reduceEqDiff, ↓reduceIte, Bool.false_eq_true, decide_eq_true_eq, add_int, sub_int, lt_int, gt_int, le_int, ge_int, neg_int, and_int, or_int, xor_int, max2_int, min2_int, mod_pos, fdiv_sm, mul_sm, mul_smr, Int.reduceLT, Int.reduceNeg, int_bl, int_int, sli_tup, tyq_ref hl, pp]; rfl)).trans ?_
  refine (seq_of (expr_of (d := .non) (S' := S2) (by simp only [ev_var, ev_con, ev_bin, ev_un, ev_anil, ev_acons, ev_call, ev_tup, ev_lst, ev_not, ev_and, ev_or, ev_if, ev_cbl, ev_btrue, ev_cand, ev_cor, ev_cnot, ev_sli, ev_onone, ev_osome, ev_chain, ev_meth, ev_get2, ev_newK, ev_newT, ev_own, ev_nil, ev_seq, ev_expr, ev_set, ev_ret, ev_retN, ev_cif, ev_brk, ev_ct, ev_asg, ev_put, ev_aug, ev_for, ev_comp, ev_newL, ev_iseq, ev_irange, ev_ienum, ev_yes, Out.bind_ok, Out.bindN_ok, bindS_ok, Tg.set, Tg.sets, List.getElem?_cons_zero, List.getElem?_cons_succ, List.set_cons_zero, List.set_cons_succ, wipeE, List.length_cons, List.length_nil, Nat.reduceAdd, Nat.reduceLeDiff, Nat.reduceEqDiff, ↓reduceIte, Bool.false_eq_true, decide_eq_true_eq, add_int, sub_int, lt_int, gt_int, le_int, ge_int, neg_int, and_int, or_int, xor_int, max2_int, min2_int, mod_pos, fdiv_sm, mul_sm, mul_smr, Int.reduceLT, Int.reduceNeg, int_bl, int_int, sli_tup, tyq_ref s1, ap]))).trans ?_
  exact (for_of (w := (downL ((ps.length : Int) - 1) (-1), .tt)) (S' := S2) (by simp only [ev_var, ev_con, ev_bin, ev_un, ev_anil, ev_acons, ev_call, ev_tup, ev_lst, ev_not, ev_and, ev_or, ev_if, ev_cbl, ev_btrue, ev_cand, ev_cor, ev_cnot, ev_sli, ev_onone, ev_osome, ev_chain, ev_meth, ev_get2, ev_newK, ev_newT, ev_own, ev_nil, ev_seq, ev_expr, ev_set, ev_ret, ev_retN, ev_cif, ev_brk, ev_ct, ev_asg, ev_put, ev_aug, ev_for, ev_comp, ev_newL, ev_iseq, ev_irange, ev_ienum, ev_yes, Out.bind_ok, Out.bindN_ok, bindS_ok, Tg.set, Tg.sets, List.getElem?_cons_zero, List.getElem?_cons_succ, List.set_cons_zero, List.set_cons_succ, wipeE, List.length_cons, List.length_nil, Nat.reduceAdd, Nat.reduceLeDiff, Nat.reduceEqDiff, ↓reduceIte, Bool.false_eq_true, decide_eq_true_eq, add_int, sub_int, lt_int, gt_int, le_int, ge_int, neg_int, and_int, or_int, xor_int, max2_int, min2_int, mod_pos, fdiv_sm, mul_sm, mul_smr, Int.reduceLT, Int.reduceNeg, int_bl, int_int, sli_tup, it, lt, rng3_of (n := ps.length) (by omega)])).trans e
theorem places_loop {G : Fn → List Dv → Sto → Out Dv} {t0 : Dv} {ls ll : Nat} (hne : ls ≠ ll) : ∀ (n : Nat) (st : List (List Nat × Tr)) (acc : List (List Nat)) (v3 v4 v5 : Option Dv) (S : Sto), (st.map fun x => siz x.2).sum ≤ n → acc.length + n ≤ 1000 → (∀ x ∈ st, x.1.length + siz x.2 ≤ 1000) →
    S[ls]? = some (.lst (acc.map plD)) → S[ll]? = some (.lst (st.reverse.map stD)) →
    ∃ (S' : Sto) (u3 u4 u5 : Option Dv), loopW (n + 1) (w_all_places_1 G) (b_all_places_3 G) [some t0, some (.ref ls), some (.ref ll), v3, v4, v5] S = .fl (.nx [some t0, some (.ref ls), some (.ref ll), u3, u4, u5]) S' ∧ Fr (fun l => l = ls ∨ l = ll) S S' ∧ S'[ls]? = some (.lst ((acc ++ st.flatMap fun x => plc x.2 x.1).map plD))
  | n, [], acc, v3, v4, v5, S, _, _, _, hs, hl => by
    refine ⟨S, v3, v4, v5, ?_, .refl _, by rw [List.flatMap_nil, List.append_nil]; exact hs⟩
    have lln := len_ref hl
    have : w_all_places_1 G [some t0, some (.ref ls), some (.ref ll), v3, v4, v5] S = .ok false S := by
      unfold w_all_places_1
      simp only [ev_var, ev_con, ev_bin, ev_un, ev_anil, ev_acons, ev_call, ev_tup, ev_lst, ev_not, ev_and, ev_or, ev_if, ev_cbl, ev_btrue, ev_cand, ev_cor, ev_cnot, ev_sli, ev_onone, ev_osome, ev_chain, ev_meth, ev_get2, ev_newK, ev_newT, ev_own, ev_nil, ev_seq, ev_expr, ev_set, ev_ret, ev_retN, ev_cif, ev_brk, ev_ct, ev_asg, ev_put, ev_aug, ev_for, ev_comp, ev_newL, ev_iseq, ev_irange, ev_ienum, ev_yes, Out.bind_ok, Out.bindN_ok, bindS_ok, Tg.set, Tg.sets, List.getElem?_cons_zero, List.getElem?_cons_succ, List.set_cons_zero, List.set_cons_succ, wipeE, List.length_cons, List.length_nil, Nat.reduceAdd, Nat.reduceLeDiff, Nat.reduceEqDiff, ↓reduceIte, Bool.false_eq_true, decide_eq_true_eq, add_int, sub_int, lt_int, gt_int, le_int, ge_int, neg_int, and_int, or_int, xor_int, max2_int, min2_int, mod_pos, fdiv_sm, mul_sm, mul_smr, Int.reduceLT, Int.reduceNeg, int_bl, int_int, sli_tup, lln]; rfl
    simp only [loopW, this, bindS_ok, Bool.false_eq_true, ↓reduceIte]
  | 0, x :: st, acc, v3, v4, v5, S, h, _, _, hs, hl => by
    have := siz_pos x.2
    rw [List.map_cons, List.sum_cons] at h
    omega
  | n + 1, (p, .nd k ps) :: st, acc, v3, v4, v5, S, h, ha, hx, hs, hl => by
    have hls := len_sum st
    rw [List.map_cons, List.sum_cons] at h
    have hz : siz (Tr.nd k ps) = 1 + sizs ps := by rw [siz]
    have hp := hx (p, .nd k ps) List.mem_cons_self
    have hkl := kids_len ps p 0
    have hks := kids_siz ps p 0
    have hkk := len_sum (kids ps p 0)
    simp only at h hp
    obtain ⟨S1, u3, u4, u5, e1, f1, s1, l1⟩ := places_step (G := G) (t0 := t0) (v3 := v3) (v4 := v4) (v5 := v5) hne hs hl (by omega) (by omega) (by omega)
    have lln := len_ref hl
    have ec : w_all_places_1 G [some t0, some (.ref ls), some (.ref ll), v3, v4, v5] S = .ok true S := by
      unfold w_all_places_1
      have : (0 : Int) < ((((p, Tr.nd k ps) :: st).reverse.map stD).length : Int) := by
        rw [List.length_map, List.length_reverse, List.length_cons]; omega
      simp only [ev_var, ev_con, ev_bin, ev_un, ev_anil, ev_acons, ev_call, ev_tup, ev_lst, ev_not, ev_and, ev_or, ev_if, ev_cbl, ev_btrue, ev_cand, ev_cor, ev_cnot, ev_sli, ev_onone, ev_osome, ev_chain, ev_meth, ev_get2, ev_newK, ev_newT, ev_own, ev_nil, ev_seq, ev_expr, ev_set, ev_ret, ev_retN, ev_cif, ev_brk, ev_ct, ev_asg, ev_put, ev_aug, ev_for, ev_comp, ev_newL, ev_iseq, ev_irange, ev_ienum, ev_yes, Out.bind_ok, Out.bindN_ok, bindS_ok, Tg.set, Tg.sets, List.getElem?_cons_zero, List.getElem?_cons_succ, List.set_cons_zero, List.set_cons_succ, wipeE, List.length_cons, List.length_nil, Nat.reduceAdd, Nat.reduceLeDiff, Nat.reduceEqDiff, ↓reduceIte, Bool.false_eq_true, decide_eq_true_eq, add_int, sub_int, lt_int, gt_int, le_int, ge_int, neg_int, and_int, or_int, xor_int, max2_int, min2_int, mod_pos, fdiv_sm, mul_sm, mul_smr, Int.reduceLT, Int.reduceNeg, int_bl, int_int, sli_tup, lln, this, decide_true]
    obtain ⟨S2, w3, w4, w5, e2, f2, s2⟩ := places_loop hne n (kids ps p 0 ++ st) (acc ++ [p]) u3 u4 u5 S1 (by rw [List.map_append, List.sum_append, hks]; omega) (by rw [List.length_append]; simp only [List.length_cons, List.length_nil]; omega)
      (fun x hx' => by
        rcases List.mem_append.mp hx' with hx' | hx'
        · have := kids_mem ps p 0 x hx'
          omega
        · exact hx x (List.mem_cons_of_mem _ hx')) s1 l1
    refine ⟨S2, w3, w4, w5, ?_, f1.trans f2, ?_⟩
    · rw [loopW]
      simp only [ec, bindS_ok, ↓reduceIte, e1]
      exact e2
    · rw [s2, List.flatMap_append, kids_plc, List.flatMap_cons, plc, List.append_assoc]; rfl
theorem places_run {f : Nat} {t : Tr} {S : Sto} (hz : siz t ≤ 900) : ∃ (l : Nat) (S' : Sto), F (f + 1) .all_places [trD t] S = .ok (.ref l) S' ∧ Gr S S' ∧ S.length ≤ l ∧ S'[l]? = some (.lst ((plc t []).map plD)) := by
  rw [F_all_places]
  have g1 := gr_app S [Ob.lst []]
  have a1 := at_new S (.lst [])
  generalize hS1 : S ++ [Ob.lst []] = S1 at g1 a1
  have g2 := gr_app S1 [Ob.lst ([([], t)].map stD)]
  have a2 := at_new S1 (.lst ([([], t)].map stD))
  generalize hS2 : S1 ++ [Ob.lst ([([], t)].map stD)] = S2 at g2 a2
  have n1 : S.length ≠ S1.length := by have := lt_of_at a1; omega
  obtain ⟨S', u3, u4, u5, e, f', hs⟩ := places_loop (G := F f) (t0 := trD t) n1 (siz t) [([], t)] [] none none none S2 (by simp) (by simp; omega) (fun x hx => by simp at hx; subst hx; simp; omega) (g2.at a1) a2
  rw [List.flatMap_cons, List.flatMap_nil, List.append_nil, List.nil_append] at hs
  refine ⟨S.length, S', runF_rt (ρ := [some (trD t), none, none, none, none, none]) rfl rfl ?_, Gr.new (g1.trans g2) f' (fun l z => by have := g1.le; rcases z with z | z <;> omega), Nat.le_refl _, hs⟩
  unfold c_all_places
  refine (seq_of (set_of (d := .ref S.length) (S' := S1) (by simp only [ev_var, ev_con, ev_bin, ev_un, ev_anil, ev_acons, ev_call, ev_tup, ev_lst, ev_not, ev_and, ev_or, ev_if, ev_cbl, ev_btrue, ev_cand, ev_cor, ev_cnot, ev_sli, ev_onone, ev_osome, ev_chain, ev_meth, ev_get2, ev_newK, ev_newT, ev_own, ev_nil, ev_seq, ev_expr, ev_set, ev_ret, ev_retN, ev_cif, ev_brk, ev_ct, ev_asg, ev_put, ev_aug, ev_for, ev_comp, ev_newL, ev_iseq, ev_irange, ev_ienum, ev_yes, Out.bind_ok, Out.bindN_ok, bindS_ok, Tg.set, Tg.sets, List.getElem?_cons_zero, List.getElem?_cons_succ, List.set_cons_zero, List.set_cons_succ, wipeE, List.length_cons, List.length_nil, Nat.reduceAdd, Nat.reduceLeDiff, Nat.reduceEqDiff, ↓reduceIte, Bool.false_eq_true, decide_eq_true_eq, add_int, sub_int, lt_int, gt_int, le_int, ge_int, neg_int, and_int, or_int, xor_int, max2_int, min2_int, mod_pos, fdiv_sm, mul_sm, mul_smr, Int.reduceLT, Int.reduceNeg, int_bl, int_int, sli_tup, sline 0 (by omega), hS1]))).trans ?_
  have e1 : ([.tup [.tup [], trD t]] : List Dv) = [([], t)].map stD := rfl
  have sl : ([([], t)].map stD).length ≤ sizeLine := sline 1 (by omega)
  refine (seq_of (set_of (d := .ref S1.length) (S' := S2) (by simp only [ev_var, ev_con, ev_bin, ev_un, ev_anil, ev_acons, ev_call, ev_tup, ev_lst, ev_not, ev_and, ev_or, ev_if, ev_cbl, ev_btrue, ev_cand, ev_cor, ev_cnot, ev_sli, ev_onone, ev_osome, ev_chain, ev_meth, ev_get2, ev_newK, ev_newT, ev_own, ev_nil, ev_seq, ev_expr, ev_set, ev_ret, ev_retN, ev_cif, ev_brk, ev_ct, ev_asg, ev_put, ev_aug, ev_for, ev_comp, ev_newL, ev_iseq, ev_irange, ev_ienum, ev_yes, Out.bind_ok, Out.bindN_ok, bindS_ok, Tg.set, Tg.sets, List.getElem?_cons_zero, List.getElem?_cons_succ, List.set_cons_zero, List.set_cons_succ, wipeE, List.length_cons, List.length_nil, Nat.reduceAdd, Nat.reduceLeDiff, Nat.reduceEqDiff, ↓reduceIte, Bool.false_eq_true, decide_eq_true_eq, add_int, sub_int, lt_int, gt_int, le_int, ge_int, neg_int, and_int, or_int, xor_int, max2_int, min2_int, mod_pos, fdiv_sm, mul_sm, mul_smr, Int.reduceLT, Int.reduceNeg, int_bl, int_int, sli_tup, sline 0 (by omega), sline 2 (by omega), e1, sl, hS2]))).trans ?_
  have ew := (cWhile_of (siz t + 1) (by rw [e]; exact fun z => by cases z)).trans e
  exact (seq_of ew).trans (ret_of rfl)
/-! trees told alike -/
mutual
def kds : Tr → List Str
  | .nd k ps => k :: kdss ps
def kdss : List Tr → List Str
  | [] => []
  | t :: ts => kds t ++ kdss ts
end
mutual
theorem flat_kds : ∀ (t : Tr) (d : Nat), (flat t d).map (·.2) = kds t
  | .nd k ps, d => by rw [flat, kds, List.map_cons, flats_kds ps]
theorem flats_kds : ∀ (ts : List Tr) (d : Nat), (flats ts d).map (·.2) = kdss ts
  | [], d => by rw [flats, kdss]; rfl
  | t :: ts, d => by rw [flats, kdss, List.map_append, flat_kds t, flats_kds ts]
end
def SkT (t : Tr) : Prop := ∀ k ∈ kds t, Sk k
mutual
theorem subs_in : ∀ (t s : Tr), s ∈ subs t → siz s ≤ siz t ∧ ∀ k ∈ kds s, k ∈ kds t
  | .nd k ps, s, h => by
    rw [subs] at h
    rcases List.mem_cons.mp h with rfl | h
    · exact ⟨Nat.le_refl _, fun k hk => hk⟩
    · obtain ⟨a, b⟩ := subss_in ps s h
      rw [siz, kds]
      exact ⟨by omega, fun k hk => List.mem_cons_of_mem _ (b k hk)⟩
theorem subss_in : ∀ (ts : List Tr) (s : Tr), s ∈ subss ts → siz s ≤ sizs ts ∧ ∀ k ∈ kds s, k ∈ kdss ts
  | [], s, h => by rw [subss] at h; simp at h
  | t :: ts, s, h => by
    rw [subss] at h
    rw [sizs, kdss]
    rcases List.mem_append.mp h with h | h
    · obtain ⟨a, b⟩ := subs_in t s h
      exact ⟨by omega, fun k hk => List.mem_append_left _ (b k hk)⟩
    · obtain ⟨a, b⟩ := subss_in ts s h
      exact ⟨by omega, fun k hk => List.mem_append_right _ (b k hk)⟩
end
theorem SkT.sub {t s : Tr} (h : SkT t) (hs : s ∈ subs t) : SkT s := fun k hk => h k ((subs_in t s hs).2 k hk)
theorem SkT.lay {t : Tr} (h : SkT t) : (trP t).canLay0 = true := lay_tr t 0 fun x hx => h x.2 (by rw [← flat_kds t 0]; exact List.mem_map.mpr ⟨x, hx, rfl⟩)
theorem wide_tr {t : Tr} (h : SkT t) (hz : siz t ≤ 110) : wide (trP t) = true := by
  have := dep_tr t
  unfold wide
  rw [h.lay, Bool.true_and]
  exact decide_eq_true (by omega)
theorem eq_tr {t : Tr} {S : Sto} (h : SkT t) (hz : siz t ≤ 110) : eqW (trD t) (trD t) S = .ok (.bl true) S := by
  have e := toP_tr t 240 S (by omega)
  rw [eqW_of e e (wide_tr h hz) (wide_tr h hz), eqv_tr]
theorem ne_tr {t : Tr} {S : Sto} (h : SkT t) (hz : siz t ≤ 110) : neW (trD t) (trD t) S = .ok (.bl false) S := by
  have e := toP_tr t 240 S (by omega)
  rw [neW_of e e (wide_tr h hz) (wide_tr h hz), eqv_tr]; rfl
theorem toPs_trees {S : Sto} : ∀ ts : List Tr, (∀ t ∈ ts, siz t ≤ 110) → toPs 239 S (ts.map trD) = some (ts.map trP)
  | [], _ => by simp only [List.map_nil, toPs]
  | t :: ts, h => by
    have e := toP_tr t 239 S (by have := h t List.mem_cons_self; omega)
    have ih := toPs_trees (S := S) ts fun t ht => h t (List.mem_cons_of_mem _ ht)
    simp only [List.map_cons, toPs, e, ih]
theorem trees_data : ∀ ts : List Tr, (∀ t ∈ ts, SkT t ∧ siz t ≤ 110) → PyData.canLayAll0 (ts.map trP) = true ∧ PyData.depthAll (ts.map trP) ≤ 220 ∧ PyData.eqvAll (ts.map trP) (ts.map trP) = true
  | [], _ => ⟨by simp [PyData.canLayAll0], by simp [PyData.depthAll], by simp [PyData.eqvAll]⟩
  | t :: ts, h => by
    obtain ⟨a, b⟩ := h t List.mem_cons_self
    obtain ⟨x, y, z⟩ := trees_data ts fun t ht => h t (List.mem_cons_of_mem _ ht)
    have := dep_tr t
    refine ⟨?_, ?_, ?_⟩
    · rw [List.map_cons, PyData.canLayAll0, a.lay, x]; rfl
    · rw [List.map_cons, PyData.depthAll]; omega
    · rw [List.map_cons, PyData.eqvAll, eqv_tr, z]; rfl
theorem eq_trees {S : Sto} {a b : Nat} {ts : List Tr} (h : ∀ t ∈ ts, SkT t ∧ siz t ≤ 110) (ha : S[a]? = some (.lst (ts.map trD))) (hb : S[b]? = some (.lst (ts.map trD))) : eqW (.ref a) (.ref b) S = .ok (.bl true) S := by
  have e := toPs_trees (S := S) ts fun t ht => (h t ht).2
  obtain ⟨x, y, z⟩ := trees_data ts h
  have e1 : toP 240 S (.ref a) = some (.list (ts.map trP)) := by simp only [toP, ha, e, Option.map_some]
  have e2 : toP 240 S (.ref b) = some (.list (ts.map trP)) := by simp only [toP, hb, e, Option.map_some]
  have w : wide (.list (ts.map trP)) = true := by
    unfold wide
    rw [PyData.canLay0, PyData.depth, x, Bool.true_and]
    exact decide_eq_true (by omega)
  rw [eqW_of e1 e2 w w, PyData.eqv, z]
/-- the tree of the rows -/
theorem ROk.tree {R : List (Nat × Str)} {m : Nat} (h : ROk R m) : ∃ (k0 : Str) (rest : List (Nat × Str)) (t : Tr), R = (0, k0) :: rest ∧ (∀ x ∈ rest, 1 ≤ x.1) ∧ R = flat t 0 ∧ trs R = subs t ∧ [] :: scan [] rest = plc t [] ∧ siz t = R.length ∧ SkT t := by
  obtain ⟨k0, rest, e, h1, hs⟩ := h.ex
  obtain ⟨ps, hp⟩ := parse_tree (k0 := k0) h1 hs
  have ef : R = flat (.nd k0 ps) 0 := by rw [e, hp, flat]
  refine ⟨k0, rest, .nd k0 ps, e, h1, ef, by rw [ef, trs_tree], by rw [hp, spots_tree], by rw [ef, flat_len], fun k hk => ?_⟩
  rw [← flat_kds _ 0, ← ef] at hk
  obtain ⟨x, hx, rfl⟩ := List.mem_map.mp hk
  exact h.sk x hx
theorem subs_head (t : Tr) : (subs t)[0]? = some t := by
  cases t with
  | nd k ps => rw [subs]; rfl
mutual
theorem plc_short : ∀ (t : Tr) (p q : List Nat), q ∈ plc t p → q.length ≤ p.length + siz t
  | .nd k ps, p, q, h => by
    rw [plc] at h
    rw [siz]
    rcases List.mem_cons.mp h with rfl | h
    · omega
    · have := plcs_short ps p 0 q h
      omega
theorem plcs_short : ∀ (ts : List Tr) (p : List Nat) (i : Nat) (q : List Nat), q ∈ plcs ts p i → q.length ≤ p.length + 1 + sizs ts
  | [], p, i, q, h => by rw [plcs] at h; simp at h
  | t :: ts, p, i, q, h => by
    rw [plcs] at h
    rw [sizs]
    rcases List.mem_append.mp h with h | h
    · have := plc_short t (p ++ [i]) q h
      rw [List.length_append] at this
      simp only [List.length_cons, List.length_nil] at this
      omega
    · have := plcs_short ts p (i + 1) q h
      omega
end
theorem plcs_short' (ts : List Tr) (p : List Nat) (i : Nat) (q : List Nat) (h : q ∈ plcs ts p i) : q.length ≤ p.length + 1 + sizs ts := plcs_short ts p i q h
mutual
theorem subs_kds : ∀ t : Tr, (subs t).map kdT = kds t
  | .nd k ps => by rw [subs, kds, List.map_cons, subss_kds ps]; rfl
theorem subss_kds : ∀ ts : List Tr, (subss ts).map kdT = kdss ts
  | [] => by rw [subss, kdss]; rfl
  | t :: ts => by rw [subss, kdss, List.map_append, subs_kds t, subss_kds ts]
end
/-! where steps go -/
theorem comp_filt {α : Type} {ck : Sto → Prop} [∀ S, Decidable (ck S)] {xs : List α} {D E : α → Dv} {g : α → Bool} {S : Sto} {ρ : PL.Env} {t : Tg} {c : RT} {y : RE} (hck : ck S) (hl : xs.length ≤ 100000)
    (h : ∀ x ∈ xs, ∃ ρ1, t.set (D x) ρ = some ρ1 ∧ c ρ1 S = .ok (g x) S ∧ (g x = true → y ρ1 S = .ok (E x) S)) : compL ck t c y ρ (xs.map D) [] S = .ok ((xs.filter g).map E) S := by
  obtain ⟨acc, S1, e1, hS, ha⟩ := comp_gen (ck := ck) (t := t) (c := c) (y := y) (acc := []) (S := S) (fun i acc S' => S' = S ∧ acc = ((xs.take i).filter g).map E) (xs.map D) ρ
    (fun i d acc S' hd ⟨hS, ha⟩ => by
      subst hS
      rw [List.getElem?_map, Option.map_eq_some_iff] at hd
      obtain ⟨x, hx, rfl⟩ := hd
      obtain ⟨ρ1, e1, e2, e3⟩ := h x (List.mem_of_getElem? hx)
      have tk : xs.take (i + 1) = xs.take i ++ [x] := by rw [List.take_add_one, hx]; rfl
      refine ⟨hck, ρ1, e1, g x, S', e2, fun k => ⟨E x, S', e3 k, ?_, rfl, ?_⟩, fun k => ⟨rfl, ?_⟩⟩
      · rw [ha, List.length_map]
        have := List.length_filter_le g (xs.take i)
        rw [List.length_take] at this
        show _ < 2 ^ 24; omega
      · rw [tk, List.filter_append, List.map_append, ha, List.filter_cons_of_pos k]; rfl
      · rw [tk, List.filter_append, List.map_append, ha, List.filter_cons_of_neg (by rw [k]; decide)]; exact (List.append_nil _).symm) (fun acc S' ⟨hS, _⟩ => by subst hS; exact hck) ⟨rfl, rfl⟩
  subst hS
  rw [e1, ha, List.length_map, List.take_of_length_le (Nat.le_refl _)]
theorem sub_app : ∀ (a w : List Nat) (t : Tr), sub t (a ++ w) = (sub t a).bind (sub · w)
  | [], w, t => by rw [sub]; rfl
  | i :: a, w, t => by
    rw [List.cons_append, sub, sub]
    cases (ptT t)[i]? with
    | none => rfl
    | some c => exact sub_app a w c
mutual
theorem plc_pre : ∀ (t : Tr) (r q : List Nat), q ∈ plc t r → ∃ w, q = r ++ w
  | .nd k ps, r, q, h => by
    rw [plc] at h
    rcases List.mem_cons.mp h with rfl | h
    · exact ⟨[], (List.append_nil _).symm⟩
    · obtain ⟨j, w, _, e⟩ := plcs_pre ps r 0 q h
      exact ⟨j :: w, e⟩
theorem plcs_pre : ∀ (ts : List Tr) (r : List Nat) (i : Nat) (q : List Nat), q ∈ plcs ts r i → ∃ j w, i ≤ j ∧ q = r ++ j :: w
  | [], r, i, q, h => by rw [plcs] at h; simp at h
  | t :: ts, r, i, q, h => by
    rw [plcs] at h
    rcases List.mem_append.mp h with h | h
    · obtain ⟨w, e⟩ := plc_pre t (r ++ [i]) q h
      exact ⟨i, w, Nat.le_refl _, by rw [e, List.append_assoc]; rfl⟩
    · obtain ⟨j, w, hj, e⟩ := plcs_pre ts r (i + 1) q h
      exact ⟨j, w, by omega, e⟩
end
mutual
theorem plc_shift : ∀ (t : Tr) (p q : List Nat), plc t (p ++ q) = (plc t q).map (p ++ ·)
  | .nd k ps, p, q => by rw [plc, plc, List.map_cons, plcs_shift ps p q 0]
theorem plcs_shift : ∀ (ts : List Tr) (p q : List Nat) (i : Nat), plcs ts (p ++ q) i = (plcs ts q i).map (p ++ ·)
  | [], p, q, i => by rw [plcs, plcs]; rfl
  | t :: ts, p, q, i => by rw [plcs, plcs, List.map_append, List.append_assoc, plc_shift t p (q ++ [i]), plcs_shift ts p q (i + 1)]
end
abbrev pre (p q : List Nat) : Bool := decide (q.take p.length = p)
theorem pre_other {r w p : List Nat} {i j : Nat} (h : j ≠ i) : ¬ pre (r ++ i :: p) (r ++ j :: w) = true := fun z => by
  have e := of_decide_eq_true z
  have e2 := congrArg (fun l => l[r.length]?) e
  simp only [List.getElem?_append_right (Nat.le_refl _), Nat.sub_self, List.getElem?_cons_zero] at e2
  rw [List.getElem?_take_of_lt (by rw [List.length_append, List.length_cons]; omega), List.getElem?_append_right (Nat.le_refl _), Nat.sub_self, List.getElem?_cons_zero] at e2
  injection e2 with e2
  exact h e2
theorem filt_none {r p : List Nat} {i : Nat} : ∀ (ts : List Tr) (j0 : Nat), i < j0 → (plcs ts r j0).filter (pre (r ++ i :: p)) = [] := fun ts j0 h => by
  rw [List.filter_eq_nil_iff]
  intro q hq
  obtain ⟨j, w, hj, rfl⟩ := plcs_pre ts r j0 q hq
  exact pre_other (by omega)
theorem filt_one {r p : List Nat} {i : Nat} {c : Tr} : ∀ (ts : List Tr) (j0 m : Nat), ts[m]? = some c → i = j0 + m → (plcs ts r j0).filter (pre (r ++ i :: p)) = (plc c (r ++ [i])).filter (pre (r ++ i :: p))
  | [], _, _, h, _ => by simp at h
  | t :: ts, j0, 0, h, e => by
    simp only [List.getElem?_cons_zero, Option.some.injEq] at h
    subst h
    rw [plcs, List.filter_append, filt_none ts (j0 + 1) (by omega), List.append_nil, e]; rfl
  | t :: ts, j0, m + 1, h, e => by
    rw [List.getElem?_cons_succ] at h
    have h0 : (plc t (r ++ [j0])).filter (pre (r ++ i :: p)) = [] := by
      rw [List.filter_eq_nil_iff]
      intro q hq
      obtain ⟨w, rfl⟩ := plc_pre t (r ++ [j0]) q hq
      rw [List.append_assoc]
      exact pre_other (by omega)
    rw [plcs, List.filter_append, h0, List.nil_append, filt_one ts (j0 + 1) m h (by omega)]
theorem filt_plc : ∀ (p : List Nat) (t s : Tr) (r : List Nat), sub t p = some s → (plc t r).filter (pre (r ++ p)) = plc s (r ++ p)
  | [], t, s, r, h => by
    rw [sub] at h
    injection h with h
    subst h
    rw [List.append_nil, List.filter_eq_self]
    intro q hq
    obtain ⟨w, rfl⟩ := plc_pre t r q hq
    exact decide_eq_true (List.take_left' rfl)
  | i :: p, .nd k ps, s, r, h => by
    rw [sub] at h
    change (match ps[i]? with | some c => sub c p | none => none) = some s at h
    cases q : ps[i]? with
    | none => rw [q] at h; cases h
    | some c =>
      rw [q] at h
      have hr : ¬ pre (r ++ i :: p) r = true := fun z => by
        have e := congrArg List.length (of_decide_eq_true z)
        rw [List.length_take, List.length_append, List.length_cons] at e
        omega
      have ih := filt_plc p c s (r ++ [i]) h
      rw [List.append_assoc] at ih
      rw [plc, List.filter_cons_of_neg hr, filt_one ps 0 i q (by omega)]
      exact ih
theorem down_plcs : ∀ (ts : List Tr) (p : List Nat) (i : Nat), (plcs ts p i).filter (fun q => decide (q.length = p.length + 1)) = (List.range ts.length).map fun j => p ++ [i + j]
  | [], p, i => by rw [plcs]; rfl
  | .nd k ps :: ts, p, i => by
    have h0 : (plcs ps (p ++ [i]) 0).filter (fun q => decide (q.length = p.length + 1)) = [] := by
      rw [List.filter_eq_nil_iff]
      intro q hq z
      obtain ⟨j, w, _, rfl⟩ := plcs_pre ps (p ++ [i]) 0 q hq
      have := of_decide_eq_true z
      simp only [List.length_append, List.length_cons, List.length_nil] at this
      omega
    have h1 : decide ((p ++ [i]).length = p.length + 1) = true := decide_eq_true (by rw [List.length_append]; rfl)
    rw [plcs, plc, List.filter_append, List.filter_cons_of_pos (p := fun q : List Nat => decide (q.length = p.length + 1)) h1, h0, down_plcs ts p (i + 1), List.length_cons, List.range_succ_eq_map, List.map_cons, List.map_map]
    show (p ++ [i]) :: _ = _
    congr 1
    refine List.map_congr_left fun j _ => ?_
    show p ++ [i + 1 + j] = p ++ [i + (j + 1)]
    rw [show i + 1 + j = i + (j + 1) by omega]
def gDown (s : Tr) (p : List Nat) : List (List Nat) := (List.range (ptT s).length).map fun j => p ++ [j]
def gDeep (s : Tr) (p : List Nat) : List (List Nat) := plcs (ptT s) p 0
def gLater (b : Tr) (a : List Nat) (i : Nat) : List (List Nat) := (List.range ((ptT b).length - (i + 1))).map fun m => a ++ [i + 1 + m]
theorem down_filter {t s : Tr} {p : List Nat} (h : sub t p = some s) : (plc t []).filter (fun q => decide (q.length = p.length + 1) && pre p q) = gDown s p := by
  have e := filt_plc p t s [] h
  rw [List.nil_append] at e
  rw [← List.filter_filter, e]
  obtain ⟨k, ps⟩ := s
  have h1 : ¬ decide (p.length = p.length + 1) = true := fun z => by have := of_decide_eq_true z; omega
  rw [plc, List.filter_cons_of_neg (p := fun q : List Nat => decide (q.length = p.length + 1)) h1, down_plcs]
  unfold gDown
  refine List.map_congr_left fun j _ => ?_
  rw [Nat.zero_add]
theorem deep_filter {t s : Tr} {p : List Nat} (h : sub t p = some s) : (plc t []).filter (fun q => decide (p.length < q.length) && pre p q) = gDeep s p := by
  have e := filt_plc p t s [] h
  rw [List.nil_append] at e
  rw [← List.filter_filter, e]
  obtain ⟨k, ps⟩ := s
  have h1 : ¬ decide (p.length < p.length) = true := fun z => by have := of_decide_eq_true z; omega
  rw [plc, List.filter_cons_of_neg (p := fun q : List Nat => decide (p.length < q.length)) h1]
  refine List.filter_eq_self.mpr fun q hq => ?_
  obtain ⟨j, w, _, rfl⟩ := plcs_pre ps p 0 q hq
  exact decide_eq_true (by rw [List.length_append, List.length_cons]; omega)
theorem range_gt (i : Nat) : ∀ n : Nat, (List.range n).filter (fun j => decide (i < j)) = (List.range (n - (i + 1))).map fun m => i + 1 + m
  | 0 => by rw [Nat.zero_sub]; rfl
  | n + 1 => by
    rw [List.range_succ, List.filter_append, range_gt i n]
    by_cases q : i < n
    · rw [List.filter_cons_of_pos (p := fun j => decide (i < j)) (decide_eq_true q), show n + 1 - (i + 1) = n - (i + 1) + 1 by omega, List.range_succ, List.map_append, List.map_cons, show i + 1 + (n - (i + 1)) = n by omega]; rfl
    · rw [List.filter_cons_of_neg (p := fun j => decide (i < j)) (fun z => q (of_decide_eq_true z)), show n + 1 - (i + 1) = n - (i + 1) by omega]
      exact List.append_nil _
theorem later_filter {t b : Tr} {a : List Nat} {i : Nat} (h : sub t a = some b) : (plc t []).filter (fun q => decide (q.length = a.length + 1) && (decide (q.take a.length = a) && decide (i < q.getD a.length 0))) = gLater b a i := by
  have e := down_filter h
  have e2 : (plc t []).filter (fun q => decide (q.length = a.length + 1) && (decide (q.take a.length = a) && decide (i < q.getD a.length 0))) = ((plc t []).filter (fun q => decide (q.length = a.length + 1) && pre a q)).filter fun q => decide (i < q.getD a.length 0) := by
    rw [List.filter_filter]
    refine List.filter_congr fun q _ => ?_
    rw [← Bool.and_assoc, Bool.and_comm]
  rw [e2, e]
  unfold gDown gLater
  rw [List.filter_map]
  have e3 : ((fun q : List Nat => decide (i < q.getD a.length 0)) ∘ fun j => a ++ [j]) = fun j => decide (i < j) := by
    funext j
    show decide (i < (a ++ [j]).getD a.length 0) = _
    rw [List.getD_eq_getElem?_getD, List.getElem?_append_right (Nat.le_refl _), Nat.sub_self]; rfl
  rw [e3, range_gt, List.map_map]; rfl
/-! gone_to -/
theorem skg_down : Sk "down" := by decide +kernel
theorem skg_deep : Sk "deep" := by decide +kernel
theorem skg_later : Sk "later" := by decide +kernel
theorem rangeL_nat (n : Nat) : rangeL 0 (n : Int) = (List.range n).map fun (j : Nat) => Dv.int (0 + (j : Int)) := by
  unfold rangeL; rw [Int.sub_zero, Int.toNat_natCast]
theorem rangeL_from (i n : Nat) : rangeL ((i : Int) + 1) (n : Int) = (List.range (n - (i + 1))).map fun (j : Nat) => Dv.int ((i : Int) + 1 + (j : Int)) := by
  unfold rangeL
  rw [show ((n : Int) - ((i : Int) + 1)).toNat = n - (i + 1) by omega]
theorem rng2_of {i j : Nat} (hi : i ≤ 100000) (hj : j ≤ 100000) : rng2 [.int ((i : Int) + 1), .int (j : Int)] = some (rangeL ((i : Int) + 1) (j : Int)) := by
  have r1 : rok ((i : Int) + 1) = true := rok_of (by omega) (by omega)
  have r2 : rok (j : Int) = true := rok_of (by omega) (by omega)
  simp only [rng2]
  rw [if_pos ⟨r1, r2⟩]
theorem len_pl {S : Sto} (p : List Nat) : lenD [plD p] S = .ok (.int (p.length : Int)) S := by unfold plD; rw [len_tup, List.length_map]
theorem add_pl {S : Sto} {p q : List Nat} (h : p.length + q.length ≤ 100000) : addD (plD p) (plD q) S = .ok (plD (p ++ q)) S := by
  unfold plD
  rw [tadd_tup (sline _ (by rw [List.length_map, List.length_map]; omega)), List.map_append]
theorem tcut_last {α : Type} (xs : List α) (x : α) : cutD (xs ++ [x]) none (some (-1)) = xs := by
  unfold cutD HT.sIx
  simp only [show ((-1 : Int) < 0) by omega, ↓reduceIte, List.drop_zero, Nat.sub_zero, List.length_append, List.length_cons, List.length_nil]
  rw [show (-1 + ((xs.length + (0 + 1) : Nat) : Int)).toNat = xs.length by omega]
  exact List.take_left' rfl
theorem sli_last {S : Sto} (a : List Nat) (i : Nat) : sliD (plD (a ++ [i])) none (some (-1)) S = .ok (plD a) S := by
  unfold plD
  rw [sli_tup, List.map_append, List.map_cons, List.map_nil, tcut_last]
theorem idx_lastp {S : Sto} (a : List Nat) (i : Nat) : idxD (plD (a ++ [i])) (.int (-1)) S = .ok (.int (i : Int)) S := by
  unfold plD
  rw [List.map_append, List.map_cons, List.map_nil]
  exact idx_tup atI_last
theorem len_parts {S : Sto} (s : Tr) : ∃ ps, idxD (trD s) (.int 1) S = .ok (.tup ps) S ∧ lenD [.tup ps] S = .ok (.int ((ptT s).length : Int)) S := by
  obtain ⟨k, ps⟩ := s
  exact ⟨trDs ps, by rw [trD]; exact idx_t1, by rw [len_tup, trDs_map, List.length_map]; rfl⟩
theorem filt_all {α : Type} (xs : List α) : xs.filter (fun _ => true) = xs := List.filter_eq_self.mpr fun _ _ => rfl
theorem gone_down {f : Nat} {t s : Tr} {p : List Nat} {S : Sto} (h : sub t p = some s) (hp : p.length ≤ 10000) (hs : (ptT s).length ≤ 10000) : ∃ (l : Nat) (S' : Sto), F (f + 2) .gone_to [trD t, .str "down", plD p] S = .ok (.ref l) S' ∧ Gr S S' ∧ S.length ≤ l ∧ S'[l]? = some (.lst ((gDown s p).map plD)) := by
  rw [F_gone_to]
  obtain ⟨ps, i1, i2⟩ := len_parts (S := S) s
  have ta := tree_at_run (f := f) (S := S) h
  have ec := comp_filt (ck := Ck.tt.ok) (xs := List.range (ptT s).length) (D := fun (j : Nat) => Dv.int (0 + (j : Int))) (E := fun j => plD (p ++ [j])) (g := fun _ => true) (S := S) (ρ := [some (trD t), some (.str "down"), some (plD p), none, none, none]) (t := .nm 4) (c := cYes) (y := y_gone_to_1 (F (f + 1))) trivial (by rw [List.length_range]; omega)
    (fun j _ => ⟨_, rfl, rfl, fun _ => by
      have ea := add_pl (S := S) (p := p) (q := [j]) (by simp only [List.length_cons, List.length_nil]; omega)
      have e1 : Dv.tup [.int (0 + (j : Int))] = plD [j] := by rw [Int.zero_add]; rfl
      unfold y_gone_to_1
      simp only [ev_var, ev_con, ev_bin, ev_un, ev_anil, ev_acons, ev_call, ev_tup, ev_lst, ev_not, ev_and, ev_or, ev_if, ev_cbl, ev_btrue, ev_cand, ev_cor, ev_cnot, ev_sli, ev_onone, ev_osome, ev_chain, ev_meth, ev_get2, ev_newK, ev_newT, ev_own, ev_nil, ev_seq, ev_expr, ev_set, ev_ret, ev_retN, ev_cif, ev_brk, ev_ct, ev_asg, ev_put, ev_aug, ev_for, ev_comp, ev_newL, ev_iseq, ev_irange, ev_ienum, ev_yes, Out.bind_ok, Out.bindN_ok, bindS_ok, Tg.set, Tg.sets, List.getElem?_cons_zero, List.getElem?_cons_succ, List.set_cons_zero, List.set_cons_succ, wipeE, List.length_cons, List.length_nil, Nat.reduceAdd, Nat.reduceLeDiff, Nat.reduceEqDiff, ↓reduceIte, Bool.false_eq_true, decide_eq_true_eq, add_int, sub_int, lt_int, gt_int, le_int, ge_int, neg_int, and_int, or_int, xor_int, max2_int, min2_int, mod_pos, fdiv_sm, mul_sm, mul_smr, Int.reduceLT, Int.reduceNeg, int_bl, int_int, sli_tup, sline 1 (by omega), e1, ea]⟩)
  rw [filt_all, ← rangeL_nat] at ec
  refine ⟨S.length, S ++ [Ob.lst ((gDown s p).map plD)], ?_, gr_app _ _, Nat.le_refl _, at_new _ _⟩
  refine runF_rt (ρ := [some (trD t), some (.str "down"), some (plD p), none, none, none]) rfl rfl ?_
  unfold c_gone_to
  refine seq_rt ((if_t (S' := S) (by simp only [ev_var, ev_con, ev_bin, ev_un, ev_anil, ev_acons, ev_call, ev_tup, ev_lst, ev_not, ev_and, ev_or, ev_if, ev_cbl, ev_btrue, ev_cand, ev_cor, ev_cnot, ev_sli, ev_onone, ev_osome, ev_chain, ev_meth, ev_get2, ev_newK, ev_newT, ev_own, ev_nil, ev_seq, ev_expr, ev_set, ev_ret, ev_retN, ev_cif, ev_brk, ev_ct, ev_asg, ev_put, ev_aug, ev_for, ev_comp, ev_newL, ev_iseq, ev_irange, ev_ienum, ev_yes, Out.bind_ok, Out.bindN_ok, bindS_ok, Tg.set, Tg.sets, List.getElem?_cons_zero, List.getElem?_cons_succ, List.set_cons_zero, List.set_cons_succ, wipeE, List.length_cons, List.length_nil, Nat.reduceAdd, Nat.reduceLeDiff, Nat.reduceEqDiff, ↓reduceIte, Bool.false_eq_true, decide_eq_true_eq, add_int, sub_int, lt_int, gt_int, le_int, ge_int, neg_int, and_int, or_int, xor_int, max2_int, min2_int, mod_pos, fdiv_sm, mul_sm, mul_smr, Int.reduceLT, Int.reduceNeg, int_bl, int_int, sli_tup, eq_str skg_down skg_down, decide_true])).trans (ret_of ?_))
  simp only [ev_var, ev_con, ev_bin, ev_un, ev_anil, ev_acons, ev_call, ev_tup, ev_lst, ev_not, ev_and, ev_or, ev_if, ev_cbl, ev_btrue, ev_cand, ev_cor, ev_cnot, ev_sli, ev_onone, ev_osome, ev_chain, ev_meth, ev_get2, ev_newK, ev_newT, ev_own, ev_nil, ev_seq, ev_expr, ev_set, ev_ret, ev_retN, ev_cif, ev_brk, ev_ct, ev_asg, ev_put, ev_aug, ev_for, ev_comp, ev_newL, ev_iseq, ev_irange, ev_ienum, ev_yes, Out.bind_ok, Out.bindN_ok, bindS_ok, Tg.set, Tg.sets, List.getElem?_cons_zero, List.getElem?_cons_succ, List.set_cons_zero, List.set_cons_succ, wipeE, List.length_cons, List.length_nil, Nat.reduceAdd, Nat.reduceLeDiff, Nat.reduceEqDiff, ↓reduceIte, Bool.false_eq_true, decide_eq_true_eq, add_int, sub_int, lt_int, gt_int, le_int, ge_int, neg_int, and_int, or_int, xor_int, max2_int, min2_int, mod_pos, fdiv_sm, mul_sm, mul_smr, Int.reduceLT, Int.reduceNeg, int_bl, int_int, sli_tup, ta, i1, i2, rng1_of (i := ((ptT s).length : Int)) (by omega) (by omega), ec, gDown, List.map_map]; rfl
theorem gone_deep {f : Nat} {t s : Tr} {p : List Nat} {S : Sto} (h : sub t p = some s) (hp : p.length ≤ 10000) (hs : siz s ≤ 900) : ∃ (l : Nat) (S' : Sto), F (f + 2) .gone_to [trD t, .str "deep", plD p] S = .ok (.ref l) S' ∧ Gr S S' ∧ S.length ≤ l ∧ S'[l]? = some (.lst ((gDeep s p).map plD)) := by
  rw [F_gone_to]
  have ta := tree_at_run (f := f) (S := S) h
  obtain ⟨l1, S1, e1, g1, _, h1⟩ := places_run (f := f) (t := s) (S := S) hs
  have s2 := tsli_ref h1 (some 1) none
  have hc : cutD ((plc s []).map plD) (some 1) none = (plcs (ptT s) [] 0).map plD := by
    have := tcut_from ((plc s []).map plD) 1
    refine this.trans ?_
    obtain ⟨k, ps⟩ := s
    rw [plc]; rfl
  rw [hc, ev_newL] at s2
  have g2 := gr_app S1 [Ob.lst ((plcs (ptT s) [] 0).map plD)]
  have a2 := at_new S1 (.lst ((plcs (ptT s) [] 0).map plD))
  generalize hS2 : S1 ++ [Ob.lst ((plcs (ptT s) [] 0).map plD)] = S2 at s2 g2 a2
  have pl : (plcs (ptT s) [] 0).length ≤ 900 := by
    rw [plcs_len]
    obtain ⟨k, ps⟩ := s
    rw [siz] at hs
    show sizs ps ≤ 900
    omega
  have ec := comp_filt (ck := (Ck.ls S1.length ((plcs (ptT s) [] 0).map plD)).ok) (xs := plcs (ptT s) [] 0) (D := plD) (E := fun q => plD (p ++ q)) (g := fun _ => true) (S := S2) (ρ := [some (trD t), some (.str "deep"), some (plD p), none, none, none]) (t := .nm 5) (c := cYes) (y := y_gone_to_2 (F (f + 1))) a2 (by omega)
    (fun q hq => ⟨_, rfl, rfl, fun _ => by
      have hql : q.length ≤ 1000 := by
        have := plcs_short' (ptT s) [] 0 q hq
        rw [← plcs_len (ptT s) [] 0] at this
        rw [List.length_nil] at this; omega
      have ea := add_pl (S := S2) (p := p) (q := q) (by omega)
      unfold y_gone_to_2
      simp only [ev_var, ev_con, ev_bin, ev_un, ev_anil, ev_acons, ev_call, ev_tup, ev_lst, ev_not, ev_and, ev_or, ev_if, ev_cbl, ev_btrue, ev_cand, ev_cor, ev_cnot, ev_sli, ev_onone, ev_osome, ev_chain, ev_meth, ev_get2, ev_newK, ev_newT, ev_own, ev_nil, ev_seq, ev_expr, ev_set, ev_ret, ev_retN, ev_cif, ev_brk, ev_ct, ev_asg, ev_put, ev_aug, ev_for, ev_comp, ev_newL, ev_iseq, ev_irange, ev_ienum, ev_yes, Out.bind_ok, Out.bindN_ok, bindS_ok, Tg.set, Tg.sets, List.getElem?_cons_zero, List.getElem?_cons_succ, List.set_cons_zero, List.set_cons_succ, wipeE, List.length_cons, List.length_nil, Nat.reduceAdd, Nat.reduceLeDiff, Nat.reduceEqDiff, ↓reduceIte, Bool.false_eq_true, decide_eq_true_eq, add_int, sub_int, lt_int, gt_int, le_int, ge_int, neg_int, and_int, or_int, xor_int, max2_int, min2_int, mod_pos, fdiv_sm, mul_sm, mul_smr, Int.reduceLT, Int.reduceNeg, int_bl, int_int, sli_tup, ea]⟩)
  rw [filt_all] at ec
  have e3 : (plcs (ptT s) [] 0).map (fun q => plD (p ++ q)) = (gDeep s p).map plD := by
    unfold gDeep
    have := plcs_shift (ptT s) p [] 0
    rw [List.append_nil] at this
    rw [this, List.map_map]; rfl
  rw [e3] at ec
  refine ⟨S2.length, S2 ++ [Ob.lst ((gDeep s p).map plD)], ?_, (g1.trans g2).trans (gr_app _ _), (g1.trans g2).le, at_new _ _⟩
  refine runF_rt (ρ := [some (trD t), some (.str "deep"), some (plD p), none, none, none]) rfl rfl ?_
  unfold c_gone_to
  refine (seq_of ((if_f (S' := S) (by simp only [ev_var, ev_con, ev_bin, ev_un, ev_anil, ev_acons, ev_call, ev_tup, ev_lst, ev_not, ev_and, ev_or, ev_if, ev_cbl, ev_btrue, ev_cand, ev_cor, ev_cnot, ev_sli, ev_onone, ev_osome, ev_chain, ev_meth, ev_get2, ev_newK, ev_newT, ev_own, ev_nil, ev_seq, ev_expr, ev_set, ev_ret, ev_retN, ev_cif, ev_brk, ev_ct, ev_asg, ev_put, ev_aug, ev_for, ev_comp, ev_newL, ev_iseq, ev_irange, ev_ienum, ev_yes, Out.bind_ok, Out.bindN_ok, bindS_ok, Tg.set, Tg.sets, List.getElem?_cons_zero, List.getElem?_cons_succ, List.set_cons_zero, List.set_cons_succ, wipeE, List.length_cons, List.length_nil, Nat.reduceAdd, Nat.reduceLeDiff, Nat.reduceEqDiff, ↓reduceIte, Bool.false_eq_true, decide_eq_true_eq, add_int, sub_int, lt_int, gt_int, le_int, ge_int, neg_int, and_int, or_int, xor_int, max2_int, min2_int, mod_pos, fdiv_sm, mul_sm, mul_smr, Int.reduceLT, Int.reduceNeg, int_bl, int_int, sli_tup, eq_str skg_deep skg_down, show decide (("deep" : Str) = "down") = false by decide])).trans rfl)).trans ?_
  refine seq_rt ((if_t (S' := S) (by simp only [ev_var, ev_con, ev_bin, ev_un, ev_anil, ev_acons, ev_call, ev_tup, ev_lst, ev_not, ev_and, ev_or, ev_if, ev_cbl, ev_btrue, ev_cand, ev_cor, ev_cnot, ev_sli, ev_onone, ev_osome, ev_chain, ev_meth, ev_get2, ev_newK, ev_newT, ev_own, ev_nil, ev_seq, ev_expr, ev_set, ev_ret, ev_retN, ev_cif, ev_brk, ev_ct, ev_asg, ev_put, ev_aug, ev_for, ev_comp, ev_newL, ev_iseq, ev_irange, ev_ienum, ev_yes, Out.bind_ok, Out.bindN_ok, bindS_ok, Tg.set, Tg.sets, List.getElem?_cons_zero, List.getElem?_cons_succ, List.set_cons_zero, List.set_cons_succ, wipeE, List.length_cons, List.length_nil, Nat.reduceAdd, Nat.reduceLeDiff, Nat.reduceEqDiff, ↓reduceIte, Bool.false_eq_true, decide_eq_true_eq, add_int, sub_int, lt_int, gt_int, le_int, ge_int, neg_int, and_int, or_int, xor_int, max2_int, min2_int, mod_pos, fdiv_sm, mul_sm, mul_smr, Int.reduceLT, Int.reduceNeg, int_bl, int_int, sli_tup, eq_str skg_deep skg_deep, decide_true])).trans (ret_of ?_))
  simp only [ev_var, ev_con, ev_bin, ev_un, ev_anil, ev_acons, ev_call, ev_tup, ev_lst, ev_not, ev_and, ev_or, ev_if, ev_cbl, ev_btrue, ev_cand, ev_cor, ev_cnot, ev_sli, ev_onone, ev_osome, ev_chain, ev_meth, ev_get2, ev_newK, ev_newT, ev_own, ev_nil, ev_seq, ev_expr, ev_set, ev_ret, ev_retN, ev_cif, ev_brk, ev_ct, ev_asg, ev_put, ev_aug, ev_for, ev_comp, ev_newL, ev_iseq, ev_irange, ev_ienum, ev_yes, Out.bind_ok, Out.bindN_ok, bindS_ok, Tg.set, Tg.sets, List.getElem?_cons_zero, List.getElem?_cons_succ, List.set_cons_zero, List.set_cons_succ, wipeE, List.length_cons, List.length_nil, Nat.reduceAdd, Nat.reduceLeDiff, Nat.reduceEqDiff, ↓reduceIte, Bool.false_eq_true, decide_eq_true_eq, add_int, sub_int, lt_int, gt_int, le_int, ge_int, neg_int, and_int, or_int, xor_int, max2_int, min2_int, mod_pos, fdiv_sm, mul_sm, mul_smr, Int.reduceLT, Int.reduceNeg, int_bl, int_int, sli_tup, ta, e1, s2, walk_ref a2, ec]
theorem gone_top {f : Nat} {t : Tr} {S : Sto} : ∃ (l : Nat) (S' : Sto), F (f + 2) .gone_to [trD t, .str "later", plD []] S = .ok (.ref l) S' ∧ Gr S S' ∧ S.length ≤ l ∧ S'[l]? = some (.lst (([] : List (List Nat)).map plD)) := by
  rw [F_gone_to]
  refine ⟨S.length, S ++ [Ob.lst []], ?_, gr_app _ _, Nat.le_refl _, at_new _ _⟩
  refine runF_rt (ρ := [some (trD t), some (.str "later"), some (plD []), none, none, none]) rfl rfl ?_
  unfold c_gone_to
  refine (seq_of ((if_f (S' := S) (by simp only [ev_var, ev_con, ev_bin, ev_un, ev_anil, ev_acons, ev_call, ev_tup, ev_lst, ev_not, ev_and, ev_or, ev_if, ev_cbl, ev_btrue, ev_cand, ev_cor, ev_cnot, ev_sli, ev_onone, ev_osome, ev_chain, ev_meth, ev_get2, ev_newK, ev_newT, ev_own, ev_nil, ev_seq, ev_expr, ev_set, ev_ret, ev_retN, ev_cif, ev_brk, ev_ct, ev_asg, ev_put, ev_aug, ev_for, ev_comp, ev_newL, ev_iseq, ev_irange, ev_ienum, ev_yes, Out.bind_ok, Out.bindN_ok, bindS_ok, Tg.set, Tg.sets, List.getElem?_cons_zero, List.getElem?_cons_succ, List.set_cons_zero, List.set_cons_succ, wipeE, List.length_cons, List.length_nil, Nat.reduceAdd, Nat.reduceLeDiff, Nat.reduceEqDiff, ↓reduceIte, Bool.false_eq_true, decide_eq_true_eq, add_int, sub_int, lt_int, gt_int, le_int, ge_int, neg_int, and_int, or_int, xor_int, max2_int, min2_int, mod_pos, fdiv_sm, mul_sm, mul_smr, Int.reduceLT, Int.reduceNeg, int_bl, int_int, sli_tup, eq_str skg_later skg_down, show decide (("later" : Str) = "down") = false by decide])).trans rfl)).trans ?_
  refine (seq_of ((if_f (S' := S) (by simp only [ev_var, ev_con, ev_bin, ev_un, ev_anil, ev_acons, ev_call, ev_tup, ev_lst, ev_not, ev_and, ev_or, ev_if, ev_cbl, ev_btrue, ev_cand, ev_cor, ev_cnot, ev_sli, ev_onone, ev_osome, ev_chain, ev_meth, ev_get2, ev_newK, ev_newT, ev_own, ev_nil, ev_seq, ev_expr, ev_set, ev_ret, ev_retN, ev_cif, ev_brk, ev_ct, ev_asg, ev_put, ev_aug, ev_for, ev_comp, ev_newL, ev_iseq, ev_irange, ev_ienum, ev_yes, Out.bind_ok, Out.bindN_ok, bindS_ok, Tg.set, Tg.sets, List.getElem?_cons_zero, List.getElem?_cons_succ, List.set_cons_zero, List.set_cons_succ, wipeE, List.length_cons, List.length_nil, Nat.reduceAdd, Nat.reduceLeDiff, Nat.reduceEqDiff, ↓reduceIte, Bool.false_eq_true, decide_eq_true_eq, add_int, sub_int, lt_int, gt_int, le_int, ge_int, neg_int, and_int, or_int, xor_int, max2_int, min2_int, mod_pos, fdiv_sm, mul_sm, mul_smr, Int.reduceLT, Int.reduceNeg, int_bl, int_int, sli_tup, eq_str skg_later skg_deep, show decide (("later" : Str) = "deep") = false by decide])).trans rfl)).trans ?_
  exact seq_rt ((if_t (S' := S) (by simp only [ev_var, ev_con, ev_bin, ev_un, ev_anil, ev_acons, ev_call, ev_tup, ev_lst, ev_not, ev_and, ev_or, ev_if, ev_cbl, ev_btrue, ev_cand, ev_cor, ev_cnot, ev_sli, ev_onone, ev_osome, ev_chain, ev_meth, ev_get2, ev_newK, ev_newT, ev_own, ev_nil, ev_seq, ev_expr, ev_set, ev_ret, ev_retN, ev_cif, ev_brk, ev_ct, ev_asg, ev_put, ev_aug, ev_for, ev_comp, ev_newL, ev_iseq, ev_irange, ev_ienum, ev_yes, Out.bind_ok, Out.bindN_ok, bindS_ok, Tg.set, Tg.sets, List.getElem?_cons_zero, List.getElem?_cons_succ, List.set_cons_zero, List.set_cons_succ, wipeE, List.length_cons, List.length_nil, Nat.reduceAdd, Nat.reduceLeDiff, Nat.reduceEqDiff, ↓reduceIte, Bool.false_eq_true, decide_eq_true_eq, add_int, sub_int, lt_int, gt_int, le_int, ge_int, neg_int, and_int, or_int, xor_int, max2_int, min2_int, mod_pos, fdiv_sm, mul_sm, mul_smr, Int.reduceLT, Int.reduceNeg, int_bl, int_int, sli_tup, len_pl, List.length_nil, eq_int]; rfl)).trans (ret_of (by simp only [ev_var, ev_con, ev_bin, ev_un, ev_anil, ev_acons, ev_call, ev_tup, ev_lst, ev_not, ev_and, ev_or, ev_if, ev_cbl, ev_btrue, ev_cand, ev_cor, ev_cnot, ev_sli, ev_onone, ev_osome, ev_chain, ev_meth, ev_get2, ev_newK, ev_newT, ev_own, ev_nil, ev_seq, ev_expr, ev_set, ev_ret, ev_retN, ev_cif, ev_brk, ev_ct, ev_asg, ev_put, ev_aug, ev_for, ev_comp, ev_newL, ev_iseq, ev_irange, ev_ienum, ev_yes, Out.bind_ok, Out.bindN_ok, bindS_ok, Tg.set, Tg.sets, List.getElem?_cons_zero, List.getElem?_cons_succ, List.set_cons_zero, List.set_cons_succ, wipeE, List.length_cons, List.length_nil, Nat.reduceAdd, Nat.reduceLeDiff, Nat.reduceEqDiff, ↓reduceIte, Bool.false_eq_true, decide_eq_true_eq, add_int, sub_int, lt_int, gt_int, le_int, ge_int, neg_int, and_int, or_int, xor_int, max2_int, min2_int, mod_pos, fdiv_sm, mul_sm, mul_smr, Int.reduceLT, Int.reduceNeg, int_bl, int_int, sli_tup, sline 0 (by omega)])))
theorem gone_later {f : Nat} {t b : Tr} {a : List Nat} {i : Nat} {S : Sto} (h : sub t a = some b) (hp : a.length ≤ 10000) (hi : i ≤ 10000) (hs : (ptT b).length ≤ 10000) : ∃ (l : Nat) (S' : Sto), F (f + 2) .gone_to [trD t, .str "later", plD (a ++ [i])] S = .ok (.ref l) S' ∧ Gr S S' ∧ S.length ≤ l ∧ S'[l]? = some (.lst ((gLater b a i).map plD)) := by
  rw [F_gone_to]
  obtain ⟨ps, i1, i2⟩ := len_parts (S := S) b
  have ta := tree_at_run (f := f) (S := S) h
  have ec := comp_filt (ck := Ck.tt.ok) (xs := List.range ((ptT b).length - (i + 1))) (D := fun (j : Nat) => Dv.int ((i : Int) + 1 + (j : Int))) (E := fun m => plD (a ++ [i + 1 + m])) (g := fun _ => true) (S := S) (ρ := [some (trD t), some (.str "later"), some (plD (a ++ [i])), some (plD a), none, none]) (t := .nm 4) (c := cYes) (y := y_gone_to_3 (F (f + 1))) trivial (by rw [List.length_range]; omega)
    (fun j _ => ⟨_, rfl, rfl, fun _ => by
      have ea := add_pl (S := S) (p := a) (q := [i + 1 + j]) (by simp only [List.length_cons, List.length_nil]; omega)
      have e1 : Dv.tup [.int ((i : Int) + 1 + (j : Int))] = plD [i + 1 + j] := rfl
      unfold y_gone_to_3
      simp only [ev_var, ev_con, ev_bin, ev_un, ev_anil, ev_acons, ev_call, ev_tup, ev_lst, ev_not, ev_and, ev_or, ev_if, ev_cbl, ev_btrue, ev_cand, ev_cor, ev_cnot, ev_sli, ev_onone, ev_osome, ev_chain, ev_meth, ev_get2, ev_newK, ev_newT, ev_own, ev_nil, ev_seq, ev_expr, ev_set, ev_ret, ev_retN, ev_cif, ev_brk, ev_ct, ev_asg, ev_put, ev_aug, ev_for, ev_comp, ev_newL, ev_iseq, ev_irange, ev_ienum, ev_yes, Out.bind_ok, Out.bindN_ok, bindS_ok, Tg.set, Tg.sets, List.getElem?_cons_zero, List.getElem?_cons_succ, List.set_cons_zero, List.set_cons_succ, wipeE, List.length_cons, List.length_nil, Nat.reduceAdd, Nat.reduceLeDiff, Nat.reduceEqDiff, ↓reduceIte, Bool.false_eq_true, decide_eq_true_eq, add_int, sub_int, lt_int, gt_int, le_int, ge_int, neg_int, and_int, or_int, xor_int, max2_int, min2_int, mod_pos, fdiv_sm, mul_sm, mul_smr, Int.reduceLT, Int.reduceNeg, int_bl, int_int, sli_tup, sline 1 (by omega), e1, ea]⟩)
  rw [filt_all, ← rangeL_from] at ec
  refine ⟨S.length, S ++ [Ob.lst ((gLater b a i).map plD)], ?_, gr_app _ _, Nat.le_refl _, at_new _ _⟩
  refine runF_rt (ρ := [some (trD t), some (.str "later"), some (plD (a ++ [i])), none, none, none]) rfl rfl ?_
  unfold c_gone_to
  refine (seq_of ((if_f (S' := S) (by simp only [ev_var, ev_con, ev_bin, ev_un, ev_anil, ev_acons, ev_call, ev_tup, ev_lst, ev_not, ev_and, ev_or, ev_if, ev_cbl, ev_btrue, ev_cand, ev_cor, ev_cnot, ev_sli, ev_onone, ev_osome, ev_chain, ev_meth, ev_get2, ev_newK, ev_newT, ev_own, ev_nil, ev_seq, ev_expr, ev_set, ev_ret, ev_retN, ev_cif, ev_brk, ev_ct, ev_asg, ev_put, ev_aug, ev_for, ev_comp, ev_newL, ev_iseq, ev_irange, ev_ienum, ev_yes, Out.bind_ok, Out.bindN_ok, bindS_ok, Tg.set, Tg.sets, List.getElem?_cons_zero, List.getElem?_cons_succ, List.set_cons_zero, List.set_cons_succ, wipeE, List.length_cons, List.length_nil, Nat.reduceAdd, Nat.reduceLeDiff, Nat.reduceEqDiff, ↓reduceIte, Bool.false_eq_true, decide_eq_true_eq, add_int, sub_int, lt_int, gt_int, le_int, ge_int, neg_int, and_int, or_int, xor_int, max2_int, min2_int, mod_pos, fdiv_sm, mul_sm, mul_smr, Int.reduceLT, Int.reduceNeg, int_bl, int_int, sli_tup, eq_str skg_later skg_down, show decide (("later" : Str) = "down") = false by decide])).trans rfl)).trans ?_
  refine (seq_of ((if_f (S' := S) (by simp only [ev_var, ev_con, ev_bin, ev_un, ev_anil, ev_acons, ev_call, ev_tup, ev_lst, ev_not, ev_and, ev_or, ev_if, ev_cbl, ev_btrue, ev_cand, ev_cor, ev_cnot, ev_sli, ev_onone, ev_osome, ev_chain, ev_meth, ev_get2, ev_newK, ev_newT, ev_own, ev_nil, ev_seq, ev_expr, ev_set, ev_ret, ev_retN, ev_cif, ev_brk, ev_ct, ev_asg, ev_put, ev_aug, ev_for, ev_comp, ev_newL, ev_iseq, ev_irange, ev_ienum, ev_yes, Out.bind_ok, Out.bindN_ok, bindS_ok, Tg.set, Tg.sets, List.getElem?_cons_zero, List.getElem?_cons_succ, List.set_cons_zero, List.set_cons_succ, wipeE, List.length_cons, List.length_nil, Nat.reduceAdd, Nat.reduceLeDiff, Nat.reduceEqDiff, ↓reduceIte, Bool.false_eq_true, decide_eq_true_eq, add_int, sub_int, lt_int, gt_int, le_int, ge_int, neg_int, and_int, or_int, xor_int, max2_int, min2_int, mod_pos, fdiv_sm, mul_sm, mul_smr, Int.reduceLT, Int.reduceNeg, int_bl, int_int, sli_tup, eq_str skg_later skg_deep, show decide (("later" : Str) = "deep") = false by decide])).trans rfl)).trans ?_
  have n0 : decide (((a ++ [i]).length : Int) = 0) = false := decide_eq_false (by rw [List.length_append]; simp only [List.length_cons, List.length_nil]; omega)
  refine (seq_of ((if_f (S' := S) (by simp only [ev_var, ev_con, ev_bin, ev_un, ev_anil, ev_acons, ev_call, ev_tup, ev_lst, ev_not, ev_and, ev_or, ev_if, ev_cbl, ev_btrue, ev_cand, ev_cor, ev_cnot, ev_sli, ev_onone, ev_osome, ev_chain, ev_meth, ev_get2, ev_newK, ev_newT, ev_own, ev_nil, ev_seq, ev_expr, ev_set, ev_ret, ev_retN, ev_cif, ev_brk, ev_ct, ev_asg, ev_put, ev_aug, ev_for, ev_comp, ev_newL, ev_iseq, ev_irange, ev_ienum, ev_yes, Out.bind_ok, Out.bindN_ok, bindS_ok, Tg.set, Tg.sets, List.getElem?_cons_zero, List.getElem?_cons_succ, List.set_cons_zero, List.set_cons_succ, wipeE, List.length_cons, List.length_nil, Nat.reduceAdd, Nat.reduceLeDiff, Nat.reduceEqDiff, ↓reduceIte, Bool.false_eq_true, decide_eq_true_eq, add_int, sub_int, lt_int, gt_int, le_int, ge_int, neg_int, and_int, or_int, xor_int, max2_int, min2_int, mod_pos, fdiv_sm, mul_sm, mul_smr, Int.reduceLT, Int.reduceNeg, int_bl, int_int, sli_tup, len_pl, eq_int, n0])).trans rfl)).trans ?_
  refine (seq_of (set_of (d := plD a) (S' := S) (by simp only [ev_var, ev_con, ev_bin, ev_un, ev_anil, ev_acons, ev_call, ev_tup, ev_lst, ev_not, ev_and, ev_or, ev_if, ev_cbl, ev_btrue, ev_cand, ev_cor, ev_cnot, ev_sli, ev_onone, ev_osome, ev_chain, ev_meth, ev_get2, ev_newK, ev_newT, ev_own, ev_nil, ev_seq, ev_expr, ev_set, ev_ret, ev_retN, ev_cif, ev_brk, ev_ct, ev_asg, ev_put, ev_aug, ev_for, ev_comp, ev_newL, ev_iseq, ev_irange, ev_ienum, ev_yes, Out.bind_ok, Out.bindN_ok, bindS_ok, Tg.set, Tg.sets, List.getElem?_cons_zero, List.getElem?_cons_succ, List.set_cons_zero, List.set_cons_succ, wipeE, List.length_cons, List.length_nil, Nat.reduceAdd, Nat.reduceLeDiff, Nat.reduceEqDiff, ↓reduceIte, Bool.false_eq_true, decide_eq_true_eq, add_int, sub_int, lt_int, gt_int, le_int, ge_int, neg_int, and_int, or_int, xor_int, max2_int, min2_int, mod_pos, fdiv_sm, mul_sm, mul_smr, Int.reduceLT, Int.reduceNeg, int_bl, int_int, sli_tup, sli_last]))).trans ?_
  refine ret_of ?_
  simp only [ev_var, ev_con, ev_bin, ev_un, ev_anil, ev_acons, ev_call, ev_tup, ev_lst, ev_not, ev_and, ev_or, ev_if, ev_cbl, ev_btrue, ev_cand, ev_cor, ev_cnot, ev_sli, ev_onone, ev_osome, ev_chain, ev_meth, ev_get2, ev_newK, ev_newT, ev_own, ev_nil, ev_seq, ev_expr, ev_set, ev_ret, ev_retN, ev_cif, ev_brk, ev_ct, ev_asg, ev_put, ev_aug, ev_for, ev_comp, ev_newL, ev_iseq, ev_irange, ev_ienum, ev_yes, Out.bind_ok, Out.bindN_ok, bindS_ok, Tg.set, Tg.sets, List.getElem?_cons_zero, List.getElem?_cons_succ, List.set_cons_zero, List.set_cons_succ, wipeE, List.length_cons, List.length_nil, Nat.reduceAdd, Nat.reduceLeDiff, Nat.reduceEqDiff, ↓reduceIte, Bool.false_eq_true, decide_eq_true_eq, add_int, sub_int, lt_int, gt_int, le_int, ge_int, neg_int, and_int, or_int, xor_int, max2_int, min2_int, mod_pos, fdiv_sm, mul_sm, mul_smr, Int.reduceLT, Int.reduceNeg, int_bl, int_int, sli_tup, idx_lastp, ta, i1, i2, rng2_of (i := i) (j := (ptT b).length) (by omega) (by omega), ec, gLater, List.map_map]; rfl
/-- where a step goes -/
def goneL (t : Tr) (go : Str) (p : List Nat) : List (List Nat) :=
  if go = "down" then match sub t p with | some s => gDown s p | none => []
  else if go = "deep" then match sub t p with | some s => gDeep s p | none => []
  else if p = [] then [] else match sub t p.dropLast with | some b => gLater b p.dropLast (p.getLastD 0) | none => []
theorem par_le : ∀ (ps : List Tr), ps.length ≤ sizs ps
  | [] => Nat.le_refl _
  | t :: ts => by
    have := siz_pos t
    have := par_le ts
    rw [sizs, List.length_cons]; omega
theorem pt_siz (s : Tr) : (ptT s).length + 1 ≤ siz s := by
  obtain ⟨k, ps⟩ := s
  have := par_le ps
  rw [siz]; show ps.length + 1 ≤ _; omega
theorem sub_in : ∀ (p : List Nat) (t s : Tr), sub t p = some s → siz s ≤ siz t
  | [], t, s, h => by rw [sub] at h; injection h with h; subst h; exact Nat.le_refl _
  | i :: p, .nd k ps, s, h => by
    rw [sub] at h
    change (match ps[i]? with | some c => sub c p | none => none) = some s at h
    cases q : ps[i]? with
    | none => rw [q] at h; cases h
    | some c =>
      rw [q] at h
      have h1 := sub_in p c s h
      have h2 : ∀ (ts : List Tr) (c : Tr), c ∈ ts → siz c ≤ sizs ts := fun ts => by
        induction ts with
        | nil => exact fun c h => by simp at h
        | cons t ts ih =>
          intro c h
          rw [sizs]
          rcases List.mem_cons.mp h with rfl | h
          · omega
          · have := ih c h; omega
      have := h2 ps c (List.mem_of_getElem? q)
      rw [siz]; omega
theorem gone_run {f : Nat} {t s : Tr} {go : Str} {p : List Nat} {S : Sto} (hgo : go = "down" ∨ go = "deep" ∨ go = "later") (h : sub t p = some s) (hz : siz t ≤ 900) (hp : p.length ≤ 10000) : ∃ (l : Nat) (S' : Sto), F (f + 2) .gone_to [trD t, .str go, plD p] S = .ok (.ref l) S' ∧ Gr S S' ∧ S.length ≤ l ∧ S'[l]? = some (.lst ((goneL t go p).map plD)) := by
  have hs := sub_in p t s h
  have hpt := pt_siz s
  unfold goneL
  rcases hgo with rfl | rfl | rfl
  · rw [if_pos rfl, h]
    exact gone_down h hp (by omega)
  · rw [if_neg (by decide), if_pos rfl, h]
    exact gone_deep h hp (by omega)
  · rw [if_neg (by decide), if_neg (by decide)]
    rcases List.eq_nil_or_concat p with rfl | ⟨a, i, e⟩
    · rw [if_pos rfl]; exact gone_top
    · rw [List.concat_eq_append] at e
      subst e
      rw [if_neg (by simp), List.dropLast_concat, List.getLastD_concat]
      rw [sub_app] at h
      cases q : sub t a with
      | none => rw [q] at h; cases h
      | some b =>
        rw [q] at h
        have hb := sub_in a t b q
        have hpb := pt_siz b
        have hi : i < (ptT b).length := by
          rw [Option.bind_some, sub] at h
          cases q2 : (ptT b)[i]? with
          | none => rw [q2] at h; cases h
          | some c => exact (List.getElem?_eq_some_iff.mp q2).1
        rw [List.length_append] at hp
        exact gone_later q (by omega) (by omega) (by omega)
theorem gone_len {t : Tr} {go : Str} {p : List Nat} (hgo : go = "down" ∨ go = "deep" ∨ go = "later") (hz : siz t ≤ 900) : (goneL t go p).length ≤ 100000 := by
  unfold goneL
  rcases hgo with rfl | rfl | rfl
  · rw [if_pos rfl]
    cases q : sub t p with
    | none => exact Nat.zero_le _
    | some s =>
      have := sub_in p t s q
      have := pt_siz s
      show ((List.range (ptT s).length).map _).length ≤ _
      rw [List.length_map, List.length_range]; omega
  · rw [if_neg (by decide), if_pos rfl]
    cases q : sub t p with
    | none => exact Nat.zero_le _
    | some s =>
      have h1 := sub_in p t s q
      show (plcs (ptT s) p 0).length ≤ _
      rw [plcs_len]
      obtain ⟨k, ps⟩ := s
      rw [siz] at h1
      show sizs ps ≤ _
      omega
  · rw [if_neg (by decide), if_neg (by decide)]
    by_cases e : p = []
    · rw [if_pos e]; exact Nat.zero_le _
    · rw [if_neg e]
      cases q : sub t p.dropLast with
      | none => exact Nat.zero_le _
      | some s =>
        have := sub_in _ t s q
        have := pt_siz s
        show ((List.range _).map _).length ≤ _
        rw [List.length_map, List.length_range]; omega
/-! masks out of bits -/
def mkN : List Bool → Nat
  | [] => 0
  | b :: r => (if b = true then 1 else 0) + 2 * mkN r
abbrev mkI (bs : List Bool) : Int := ((mkN bs : Nat) : Int)
theorem mkN_bit : ∀ (bs : List Bool) (j : Nat), (mkN bs).testBit j = bs.getD j false
  | [], j => by rw [mkN, Nat.zero_testBit]; rfl
  | b :: r, 0 => by
    rw [mkN, Nat.testBit_zero]
    show _ = b
    cases b
    · exact decide_eq_false (by simp)
    · exact decide_eq_true (by simp)
  | b :: r, j + 1 => by
    rw [mkN, Nat.testBit_succ, show ((if b = true then 1 else 0) + 2 * mkN r) / 2 = mkN r by split <;> omega, mkN_bit r j]; rfl
theorem mkN_ext {bs : List Bool} {x : Nat} (h : ∀ j, x.testBit j = bs.getD j false) : x = mkN bs := Nat.eq_of_testBit_eq fun j => by rw [h, mkN_bit]
theorem getD_map {α : Type} (P : List α) (g : α → Bool) (j : Nat) : (P.map g).getD j false = match P[j]? with | some x => g x | none => false := by
  rw [List.getD_eq_getElem?_getD, List.getElem?_map]
  cases P[j]? <;> rfl
theorem and_mk {α : Type} (P : List α) (g g' : α → Bool) : Builtin.bitAnd (mkI (P.map g)) (mkI (P.map g')) = mkI (P.map fun x => g x && g' x) := by
  rw [PyProof.Rows.bitAnd_pp (Int.natCast_nonneg _) (Int.natCast_nonneg _), Int.toNat_natCast, Int.toNat_natCast]
  congr 1
  refine mkN_ext fun j => ?_
  rw [Nat.testBit_and, mkN_bit, mkN_bit, getD_map, getD_map, getD_map]
  cases P[j]? <;> rfl
theorem or_mk {α : Type} (P : List α) (g g' : α → Bool) : Builtin.bitOr (mkI (P.map g)) (mkI (P.map g')) = mkI (P.map fun x => g x || g' x) := by
  rw [Bits.bitOr_pp (Int.natCast_nonneg _) (Int.natCast_nonneg _), Int.toNat_natCast, Int.toNat_natCast]
  congr 1
  refine mkN_ext fun j => ?_
  rw [Nat.testBit_or, mkN_bit, mkN_bit, getD_map, getD_map, getD_map]
  cases P[j]? <;> rfl
theorem xor_mk {α : Type} (P : List α) (g : α → Bool) : Builtin.bitXor (mkI (P.map fun _ => true)) (mkI (P.map g)) = mkI (P.map fun x => !g x) := by
  rw [Bits.bitXor_pp (Int.natCast_nonneg _) (Int.natCast_nonneg _), Int.toNat_natCast, Int.toNat_natCast]
  congr 1
  refine mkN_ext fun j => ?_
  rw [Nat.testBit_xor, mkN_bit, mkN_bit, getD_map, getD_map, getD_map]
  cases P[j]? with
  | none => rfl
  | some x => show (true ^^ g x) = !g x; cases g x <;> rfl
theorem every_mk {α : Type} : ∀ P : List α, (1 * 2 ^ P.length - 1 : Int) = mkI (P.map fun _ => true)
  | [] => rfl
  | x :: P => by
    have ih := every_mk P
    rw [List.length_cons, Int.pow_succ, List.map_cons]
    show _ = (((if true = true then 1 else 0) + 2 * mkN (P.map fun _ => true) : Nat) : Int)
    rw [if_pos rfl]
    have : mkI (P.map fun _ => true) = ((mkN (P.map fun _ => true) : Nat) : Int) := rfl
    omega
theorem mkN_lt : ∀ bs : List Bool, mkN bs < 2 ^ bs.length
  | [] => Nat.lt_of_lt_of_le Nat.zero_lt_one (Nat.le_refl _)
  | b :: r => by
    have ih := mkN_lt r
    rw [mkN, List.length_cons, Nat.pow_succ]
    split <;> omega
theorem mkN_snoc : ∀ (bs : List Bool) (b : Bool), mkN (bs ++ [b]) = mkN bs + (if b = true then 1 else 0) * 2 ^ bs.length
  | [], b => by simp only [List.nil_append, mkN, List.length_nil, Nat.pow_zero]; omega
  | a :: r, b => by
    rw [List.cons_append, mkN, mkN, mkN_snoc r b, List.length_cons, Nat.pow_succ, Nat.mul_add, Nat.add_assoc]
    congr 2
    rw [Nat.mul_comm (2 ^ r.length) 2, ← Nat.mul_assoc, ← Nat.mul_assoc, Nat.mul_comm 2]
theorem or_snoc (bs : List Bool) (b : Bool) : Builtin.bitOr (mkI bs) ((if b = true then 1 else 0) * 2 ^ bs.length) = mkI (bs ++ [b]) := by
  have l : (mkI bs) < 2 ^ bs.length := by
    have := mkN_lt bs
    have e : ((2 ^ bs.length : Nat) : Int) = (2 : Int) ^ bs.length := by simp
    rw [← e]; exact Int.ofNat_lt.mpr this
  rw [Bits.bitOr_join (Int.natCast_nonneg _) l (by split <;> omega)]
  show _ = ((mkN (bs ++ [b]) : Nat) : Int)
  rw [mkN_snoc, Int.natCast_add, Int.natCast_mul]
  congr 1
  have e : ((2 ^ bs.length : Nat) : Int) = (2 : Int) ^ bs.length := by simp
  rw [e]
  split <;> rfl
/-- a bit of a mask -/
theorem bit_mk (bs : List Bool) (j : Nat) : decide (mkI bs / 2 ^ j % 2 = 1) = bs.getD j false := by
  rw [← mkN_bit, Nat.testBit_eq_decide_div_mod_eq]
  refine decide_eq_decide.mpr ?_
  have e : ((2 ^ j : Nat) : Int) = (2 : Int) ^ j := by simp
  rw [← e]
  show ((mkN bs : Nat) : Int) / ((2 ^ j : Nat) : Int) % 2 = 1 ↔ _
  rw [← Int.natCast_ediv]
  omega
theorem enumL_zip : ∀ (ds : List Dv) (n : Nat), enumL ds n = (ds.zipIdx n).map fun x => .tup [.int ((x.2 : Nat) : Int), x.1]
  | [], _ => rfl
  | d :: ds, n => by rw [enumL, List.zipIdx_cons, List.map_cons, enumL_zip ds (n + 1)]
theorem filt_zip {α : Type} (g : α → Bool) : ∀ (P : List α) (n : Nat), ((P.zipIdx n).filter fun x => g x.1).map (·.1) = P.filter g
  | [], _ => rfl
  | p :: P, n => by
    rw [List.zipIdx_cons]
    have ih := filt_zip g P (n + 1)
    cases q : g p with
    | true =>
      rw [List.filter_cons_of_pos (p := fun x : α × Nat => g x.1) (show g (p, n).1 = true from q), List.filter_cons_of_pos q, List.map_cons, ih]
    | false =>
      rw [List.filter_cons_of_neg (p := fun x : α × Nat => g x.1) (by show ¬ g p = true; rw [q]; decide), List.filter_cons_of_neg (by rw [q]; decide), ih]
/-! dicts whose keys are places -/
def keyT (p : List Nat) : List L2.Key := p.map fun (n : Nat) => .inl (n : Int)
def dtOf (P : List (List Nat)) : List (List L2.Key × Dv) := P.map fun p => (keyT p, .bl true)
theorem keys_ints : ∀ p : List Nat, keysOf (p.map fun (n : Nat) => .int (n : Int)) = some (keyT p)
  | [] => rfl
  | n :: p => by
    rw [List.map_cons, keysOf, keys_ints p]; rfl
theorem tkey_pl (p : List Nat) : tkeyOf (plD p) = some (keyT p) := keys_ints p
theorem keyT_inj : ∀ {p q : List Nat}, keyT p = keyT q → p = q
  | [], [], _ => rfl
  | [], _ :: _, h => by simp [keyT] at h
  | _ :: _, [], h => by simp [keyT] at h
  | a :: p, b :: q, h => by
    simp only [keyT, List.map_cons, List.cons.injEq] at h
    have h1 : (a : Int) = (b : Int) := by have := h.1; injection this
    rw [keyT_inj (p := p) (q := q) h.2, Int.ofNat.inj h1]
theorem gat_dt : ∀ (P : List (List Nat)) (p : List Nat), (gat (dtOf P) (keyT p)).isSome = decide (p ∈ P)
  | [], p => by simp [dtOf, gat]
  | q :: P, p => by
    have ih := gat_dt P p
    show (if keyT q = keyT p then some (Dv.bl true) else gat (dtOf P) (keyT p)).isSome = _
    by_cases e : keyT q = keyT p
    · rw [if_pos e]
      have := keyT_inj e
      subst this
      simp
    · rw [if_neg e, ih]
      have n : p ≠ q := fun z => e (by rw [z])
      simp [n]
theorem gput_dt (P : List (List Nat)) (p : List Nat) : gput (dtOf P) (keyT p) (.bl true) = dtOf (if p ∈ P then P else P ++ [p]) := by
  unfold gput
  by_cases q : p ∈ P
  · have ha : ((dtOf P).any fun kv => decide (kv.1 = keyT p)) = true := List.any_eq_true.mpr ⟨(keyT p, Dv.bl true), List.mem_map.mpr ⟨p, q, rfl⟩, decide_eq_true rfl⟩
    rw [if_pos ha, if_pos q]
    unfold dtOf
    rw [List.map_map]
    refine List.map_congr_left fun x _ => ?_
    show (if keyT x = keyT p then (keyT x, Dv.bl true) else (keyT x, Dv.bl true)) = _
    split <;> rfl
  · rw [if_neg, if_neg q]
    · unfold dtOf; rw [List.map_append]; rfl
    · intro z
      obtain ⟨x, hx, e⟩ := List.any_eq_true.mp z
      obtain ⟨y, hy, rfl⟩ := List.mem_map.mp hx
      have := keyT_inj (of_decide_eq_true e)
      subst this
      exact q hy
theorem mem_dt {S : Sto} {l : Nat} {P : List (List Nat)} (h : S[l]? = some (.dt (dtOf P))) (p : List Nat) : memq S (plD p) (.ref l) = some (decide (p ∈ P)) := by
  have dg : dget S (.ref l) (plD p) = some (gat (dtOf P) (keyT p)) := by simp only [dget, h, tkey_pl, Option.map_some]
  simp only [memq, tupOf, lstOf, h, dg, gat_dt]
theorem in_dt {S : Sto} {l : Nat} {P : List (List Nat)} (h : S[l]? = some (.dt (dtOf P))) (p : List Nat) : inD (plD p) (.ref l) S = .ok (.bl (decide (p ∈ P))) S := by simp only [inD, mem_dt h]
theorem nin_dt {S : Sto} {l : Nat} {P : List (List Nat)} (h : S[l]? = some (.dt (dtOf P))) (p : List Nat) : ninD (plD p) (.ref l) S = .ok (.bl (!decide (p ∈ P))) S := by simp only [ninD, mem_dt h]
theorem put_dt {S : Sto} {l : Nat} {P : List (List Nat)} (h : S[l]? = some (.dt (dtOf P))) (hl : P.length ≤ 100000) (p : List Nat) : putD (.ref l) (plD p) (.bl true) S = some (S.set l (.dt (dtOf (if p ∈ P then P else P ++ [p])))) := by
  have hz : (dtOf P).length < sizeLine := by unfold dtOf; rw [List.length_map]; show _ < 2 ^ 24; omega
  have e : dput S (.ref l) (plD p) (.bl true) = some (S.set l (.dt (dtOf (if p ∈ P then P else P ++ [p])))) := by
    simp only [dput, h, hz, ↓reduceIte, tkey_pl, Option.map_some, gput_dt]
  exact e
/-! no place comes twice -/
mutual
theorem plc_nodup : ∀ (t : Tr) (r : List Nat), (plc t r).Nodup
  | .nd k ps, r => by
    rw [plc]
    refine List.nodup_cons.mpr ⟨fun h => ?_, plcs_nodup ps r 0⟩
    obtain ⟨j, w, _, e⟩ := plcs_pre ps r 0 r h
    have := congrArg List.length e
    rw [List.length_append, List.length_cons] at this
    omega
theorem plcs_nodup : ∀ (ts : List Tr) (r : List Nat) (i : Nat), (plcs ts r i).Nodup
  | [], r, i => by rw [plcs]; exact List.nodup_nil
  | t :: ts, r, i => by
    rw [plcs]
    refine List.nodup_append.mpr ⟨plc_nodup t _, plcs_nodup ts r _, fun a ha b hb e => ?_⟩
    subst e
    obtain ⟨w, e1⟩ := plc_pre t _ _ ha
    obtain ⟨j, w2, hj, e2⟩ := plcs_pre ts r _ _ hb
    rw [e1, List.append_assoc] at e2
    have := List.append_cancel_left e2
    injection this with h1 _
    omega
end
/-! places at which a look holds -/
theorem skp_any : Sk "any" := by decide +kernel
theorem skp_mark : Sk "mark" := by decide +kernel
theorem skp_kind : Sk "kind" := by decide +kernel
theorem skp_not : Sk "not" := by decide +kernel
theorem skp_both : Sk "both" := by decide +kernel
theorem skp_either : Sk "either" := by decide +kernel
theorem skp_way : Sk "way" := by decide +kernel
def Hd (t : Tr) (h : Nat) (d : Dv) (g : List Nat → Bool) : Prop := ∀ (f ls : Nat) (S : Sto), 2 * h + 4 ≤ f → S[ls]? = some (.lst ((plc t []).map plD)) → ∃ (l : Nat) (S' : Sto), F f .places_of [trD t, d, .ref ls] S = .ok (.ref l) S' ∧ Gr S S' ∧ S'[l]? = some (.dt (dtOf ((plc t []).filter g)))
theorem Hd.up {t : Tr} {h h' : Nat} {d : Dv} {g : List Nat → Bool} (k : Hd t h d g) (hh : h ≤ h') : Hd t h' d g := fun f ls S hf => k f ls S (by omega)
theorem Hd.congr {t : Tr} {h : Nat} {d : Dv} {g g' : List Nat → Bool} (k : Hd t h d g) (e : ∀ p ∈ plc t [], g p = g' p) : Hd t h d g' := fun f ls S hf hl => by
  obtain ⟨l, S', a, b, c⟩ := k f ls S hf hl
  exact ⟨l, S', a, b, by rw [← List.filter_congr e]; exact c⟩
abbrev ρP (t : Tr) (d : Dv) (ls : Nat) (w : Str) (l4 l5 l6 : Nat) (v7 v8 : Option Dv) : PL.Env := [some (trD t), some d, some (.ref ls), some (.str w), some (.ref l4), some (.ref l5), some (.ref l6), v7, v8]
/-- what holds at a place, by the word -/
def gW (w : Str) (kk : List Nat → Bool) (P1 P2 : List (List Nat)) (p : List Nat) : Bool :=
  ((((decide (w = "any") || (decide (w = "kind") && kk p)) || (decide (w = "not") && !decide (p ∈ P1))) || (decide (w = "both") && (decide (p ∈ P1) && decide (p ∈ P2)))) || (decide (w = "either") && (decide (p ∈ P1) || decide (p ∈ P2))))
theorem body_po {f : Nat} {t : Tr} {d : Dv} {ls l4 l5 l6 : Nat} {w : Str} {kk : List Nat → Bool} {P1 P2 Q : List (List Nat)} {p : List Nat} {v8 : Option Dv} {S : Sto} (hw : Sk w)
    (hk : w = "kind" → ∃ (k x : Str) (rr : List Dv), Sk k ∧ Sk x ∧ F f .tree_at [trD t, plD p] S = .ok (.tup (.str k :: rr)) S ∧ idxD d (.int 1) S = .ok (.str x) S ∧ kk p = decide (k = x))
    (h4 : S[l4]? = some (.dt (dtOf P1))) (h5 : S[l5]? = some (.dt (dtOf P2))) (h6 : S[l6]? = some (.dt (dtOf Q))) (hq : Q.length ≤ 100000) :
    ∃ v8', b_places_of_1 (F f) (ρP t d ls w l4 l5 l6 (some (plD p)) v8) S = .fl (.nx (ρP t d ls w l4 l5 l6 (some (plD p)) v8')) (if gW w kk P1 P2 p = true then S.set l6 (.dt (dtOf (if p ∈ Q then Q else Q ++ [p]))) else S) := by
  have t1 := eq_str (S := S) hw skp_any
  have t2 := eq_str (S := S) hw skp_kind
  have t3 := eq_str (S := S) hw skp_not
  have t4 := eq_str (S := S) hw skp_both
  have t5 := eq_str (S := S) hw skp_either
  have n1 := nin_dt h4 p
  have i1 := in_dt h4 p
  have i2 := in_dt h5 p
  have pt := put_dt h6 hq p
  have s1 : (eOr (eBin eqD (eVar 3) (eCon (.str "any"))) (eAnd (eBin eqD (eVar 3) (eCon (.str "kind"))) (eBin eqD (eBin idxD (eOwn 2 (F f .tree_at) (aCons (eVar 0) (aCons (eVar 7) (aNil)))) (eCon (.int 0))) (eBin idxD (eVar 1) (eCon (.int 1)))))) (ρP t d ls w l4 l5 l6 (some (plD p)) v8) S = .ok (.bl (decide (w = "any") || (decide (w = "kind") && kk p))) S := by
    by_cases q2 : w = "kind"
    · obtain ⟨k, x, rr, hk1, hk2, e1, e2, e3⟩ := hk q2
      have i0 : idxD (.tup (.str k :: rr)) (.int 0) S = .ok (.str k) S := idx_t0
      have eq := eq_str (S := S) hk1 hk2
      rw [decide_eq_true q2] at t2
      have na : ¬ w = "any" := fun z => by rw [z] at q2; revert q2; decide
      rw [decide_eq_false na] at t1
      rw [decide_eq_true q2, decide_eq_false na, e3]
      simp only [ev_var, ev_con, ev_bin, ev_un, ev_anil, ev_acons, ev_call, ev_tup, ev_lst, ev_not, ev_and, ev_or, ev_if, ev_cbl, ev_btrue, ev_cand, ev_cor, ev_cnot, ev_sli, ev_onone, ev_osome, ev_chain, ev_meth, ev_get2, ev_newK, ev_newT, ev_own, ev_nil, ev_seq, ev_expr, ev_set, ev_ret, ev_retN, ev_cif, ev_brk, ev_ct, ev_asg, ev_put, ev_aug, ev_for, ev_comp, ev_newL, ev_iseq, ev_irange, ev_ienum, ev_yes, Out.bind_ok, Out.bindN_ok, bindS_ok, Tg.set, Tg.sets, List.getElem?_cons_zero, List.getElem?_cons_succ, List.set_cons_zero, List.set_cons_succ, wipeE, List.length_cons, List.length_nil, Nat.reduceAdd, Nat.reduceLeDiff, Nat.reduceEqDiff, ↓reduceIte, Bool.false_eq_true, decide_eq_true_eq, add_int, sub_int, lt_int, gt_int, le_int, ge_int, neg_int, and_int, or_int, xor_int, max2_int, min2_int, mod_pos, fdiv_sm, mul_sm, mul_smr, Int.reduceLT, Int.reduceNeg, int_bl, int_int, sli_tup, t1, t2, e1, i0, e2, eq, Bool.false_or, Bool.true_and]
    · rw [decide_eq_false q2] at t2
      rw [decide_eq_false q2]
      generalize decide (w = "any") = b1 at t1
      cases b1 <;> simp only [ev_var, ev_con, ev_bin, ev_un, ev_anil, ev_acons, ev_call, ev_tup, ev_lst, ev_not, ev_and, ev_or, ev_if, ev_cbl, ev_btrue, ev_cand, ev_cor, ev_cnot, ev_sli, ev_onone, ev_osome, ev_chain, ev_meth, ev_get2, ev_newK, ev_newT, ev_own, ev_nil, ev_seq, ev_expr, ev_set, ev_ret, ev_retN, ev_cif, ev_brk, ev_ct, ev_asg, ev_put, ev_aug, ev_for, ev_comp, ev_newL, ev_iseq, ev_irange, ev_ienum, ev_yes, Out.bind_ok, Out.bindN_ok, bindS_ok, Tg.set, Tg.sets, List.getElem?_cons_zero, List.getElem?_cons_succ, List.set_cons_zero, List.set_cons_succ, wipeE, List.length_cons, List.length_nil, Nat.reduceAdd, Nat.reduceLeDiff, Nat.reduceEqDiff, ↓reduceIte, Bool.false_eq_true, decide_eq_true_eq, add_int, sub_int, lt_int, gt_int, le_int, ge_int, neg_int, and_int, or_int, xor_int, max2_int, min2_int, mod_pos, fdiv_sm, mul_sm, mul_smr, Int.reduceLT, Int.reduceNeg, int_bl, int_int, sli_tup, t1, t2, Bool.false_or, Bool.false_and, Bool.or_false]
  unfold gW
  generalize (decide (w = "any") || (decide (w = "kind") && kk p)) = x1 at s1
  have s2 : (eOr (eVar 8) (eAnd (eBin eqD (eVar 3) (eCon (.str "not"))) (eBin ninD (eVar 7) (eVar 4)))) (ρP t d ls w l4 l5 l6 (some (plD p)) (some (.bl x1))) S = .ok (.bl (x1 || (decide (w = "not") && !decide (p ∈ P1)))) S := by
    generalize decide (w = "not") = b3 at t3
    cases x1 <;> cases b3 <;> simp only [ev_var, ev_con, ev_bin, ev_un, ev_anil, ev_acons, ev_call, ev_tup, ev_lst, ev_not, ev_and, ev_or, ev_if, ev_cbl, ev_btrue, ev_cand, ev_cor, ev_cnot, ev_sli, ev_onone, ev_osome, ev_chain, ev_meth, ev_get2, ev_newK, ev_newT, ev_own, ev_nil, ev_seq, ev_expr, ev_set, ev_ret, ev_retN, ev_cif, ev_brk, ev_ct, ev_asg, ev_put, ev_aug, ev_for, ev_comp, ev_newL, ev_iseq, ev_irange, ev_ienum, ev_yes, Out.bind_ok, Out.bindN_ok, bindS_ok, Tg.set, Tg.sets, List.getElem?_cons_zero, List.getElem?_cons_succ, List.set_cons_zero, List.set_cons_succ, wipeE, List.length_cons, List.length_nil, Nat.reduceAdd, Nat.reduceLeDiff, Nat.reduceEqDiff, ↓reduceIte, Bool.false_eq_true, decide_eq_true_eq, add_int, sub_int, lt_int, gt_int, le_int, ge_int, neg_int, and_int, or_int, xor_int, max2_int, min2_int, mod_pos, fdiv_sm, mul_sm, mul_smr, Int.reduceLT, Int.reduceNeg, int_bl, int_int, sli_tup, t3, n1, Bool.false_or, Bool.false_and, Bool.true_and, Bool.or_false, Bool.true_or]
  generalize (x1 || (decide (w = "not") && !decide (p ∈ P1))) = x2 at s2
  have s3 : (eOr (eVar 8) (eAnd (eBin eqD (eVar 3) (eCon (.str "both"))) (eAnd (eBin inD (eVar 7) (eVar 4)) (eBin inD (eVar 7) (eVar 5))))) (ρP t d ls w l4 l5 l6 (some (plD p)) (some (.bl x2))) S = .ok (.bl (x2 || (decide (w = "both") && (decide (p ∈ P1) && decide (p ∈ P2))))) S := by
    generalize decide (w = "both") = b4 at t4
    generalize decide (p ∈ P1) = j1 at i1
    cases x2 <;> cases b4 <;> cases j1 <;> simp only [ev_var, ev_con, ev_bin, ev_un, ev_anil, ev_acons, ev_call, ev_tup, ev_lst, ev_not, ev_and, ev_or, ev_if, ev_cbl, ev_btrue, ev_cand, ev_cor, ev_cnot, ev_sli, ev_onone, ev_osome, ev_chain, ev_meth, ev_get2, ev_newK, ev_newT, ev_own, ev_nil, ev_seq, ev_expr, ev_set, ev_ret, ev_retN, ev_cif, ev_brk, ev_ct, ev_asg, ev_put, ev_aug, ev_for, ev_comp, ev_newL, ev_iseq, ev_irange, ev_ienum, ev_yes, Out.bind_ok, Out.bindN_ok, bindS_ok, Tg.set, Tg.sets, List.getElem?_cons_zero, List.getElem?_cons_succ, List.set_cons_zero, List.set_cons_succ, wipeE, List.length_cons, List.length_nil, Nat.reduceAdd, Nat.reduceLeDiff, Nat.reduceEqDiff, ↓reduceIte, Bool.false_eq_true, decide_eq_true_eq, add_int, sub_int, lt_int, gt_int, le_int, ge_int, neg_int, and_int, or_int, xor_int, max2_int, min2_int, mod_pos, fdiv_sm, mul_sm, mul_smr, Int.reduceLT, Int.reduceNeg, int_bl, int_int, sli_tup, t4, i1, i2, Bool.false_or, Bool.false_and, Bool.true_and, Bool.or_false, Bool.true_or]
  generalize (x2 || (decide (w = "both") && (decide (p ∈ P1) && decide (p ∈ P2)))) = x3 at s3
  have s4 : (cOr (cBl (eVar 8)) (cAnd (cBl (eBin eqD (eVar 3) (eCon (.str "either")))) (cOr (cBl (eBin inD (eVar 7) (eVar 4))) (cBl (eBin inD (eVar 7) (eVar 5)))))) (ρP t d ls w l4 l5 l6 (some (plD p)) (some (.bl x3))) S = .ok (x3 || (decide (w = "either") && (decide (p ∈ P1) || decide (p ∈ P2)))) S := by
    generalize decide (w = "either") = b5 at t5
    generalize decide (p ∈ P1) = j1 at i1
    generalize decide (p ∈ P2) = j2 at i2
    cases x3 <;> cases b5 <;> cases j1 <;> simp only [ev_var, ev_con, ev_bin, ev_un, ev_anil, ev_acons, ev_call, ev_tup, ev_lst, ev_not, ev_and, ev_or, ev_if, ev_cbl, ev_btrue, ev_cand, ev_cor, ev_cnot, ev_sli, ev_onone, ev_osome, ev_chain, ev_meth, ev_get2, ev_newK, ev_newT, ev_own, ev_nil, ev_seq, ev_expr, ev_set, ev_ret, ev_retN, ev_cif, ev_brk, ev_ct, ev_asg, ev_put, ev_aug, ev_for, ev_comp, ev_newL, ev_iseq, ev_irange, ev_ienum, ev_yes, Out.bind_ok, Out.bindN_ok, bindS_ok, Tg.set, Tg.sets, List.getElem?_cons_zero, List.getElem?_cons_succ, List.set_cons_zero, List.set_cons_succ, wipeE, List.length_cons, List.length_nil, Nat.reduceAdd, Nat.reduceLeDiff, Nat.reduceEqDiff, ↓reduceIte, Bool.false_eq_true, decide_eq_true_eq, add_int, sub_int, lt_int, gt_int, le_int, ge_int, neg_int, and_int, or_int, xor_int, max2_int, min2_int, mod_pos, fdiv_sm, mul_sm, mul_smr, Int.reduceLT, Int.reduceNeg, int_bl, int_int, sli_tup, t5, i1, i2, Bool.false_or, Bool.false_and, Bool.true_and, Bool.or_false, Bool.true_or]
  generalize (x3 || (decide (w = "either") && (decide (p ∈ P1) || decide (p ∈ P2)))) = x4 at s4
  refine ⟨some (.bl x3), ?_⟩
  unfold b_places_of_1
  refine (seq_of (set_of s1)).trans ?_
  refine (seq_of (set_of s2)).trans ?_
  refine (seq_of (set_of s3)).trans ?_
  cases x4
  · exact (if_f s4).trans rfl
  · refine (if_t s4).trans ?_
    simp only [ev_var, ev_con, ev_bin, ev_un, ev_anil, ev_acons, ev_call, ev_tup, ev_lst, ev_not, ev_and, ev_or, ev_if, ev_cbl, ev_btrue, ev_cand, ev_cor, ev_cnot, ev_sli, ev_onone, ev_osome, ev_chain, ev_meth, ev_get2, ev_newK, ev_newT, ev_own, ev_nil, ev_seq, ev_expr, ev_set, ev_ret, ev_retN, ev_cif, ev_brk, ev_ct, ev_asg, ev_put, ev_aug, ev_for, ev_comp, ev_newL, ev_iseq, ev_irange, ev_ienum, ev_yes, Out.bind_ok, Out.bindN_ok, bindS_ok, Tg.set, Tg.sets, List.getElem?_cons_zero, List.getElem?_cons_succ, List.set_cons_zero, List.set_cons_succ, wipeE, List.length_cons, List.length_nil, Nat.reduceAdd, Nat.reduceLeDiff, Nat.reduceEqDiff, ↓reduceIte, Bool.false_eq_true, decide_eq_true_eq, add_int, sub_int, lt_int, gt_int, le_int, ge_int, neg_int, and_int, or_int, xor_int, max2_int, min2_int, mod_pos, fdiv_sm, mul_sm, mul_smr, Int.reduceLT, Int.reduceNeg, int_bl, int_int, sli_tup, pt]
theorem tail_po {f : Nat} {t : Tr} {d : Dv} {ls l4 l5 : Nat} {w : Str} {kk : List Nat → Bool} {P1 P2 : List (List Nat)} {S : Sto} (hw : Sk w) (hz : siz t ≤ 900)
    (hk : w = "kind" → ∀ p ∈ plc t [], ∀ S, ∃ (k x : Str) (rr : List Dv), Sk k ∧ Sk x ∧ F f .tree_at [trD t, plD p] S = .ok (.tup (.str k :: rr)) S ∧ idxD d (.int 1) S = .ok (.str x) S ∧ kk p = decide (k = x))
    (hs : S[ls]? = some (.lst ((plc t []).map plD))) (h4 : S[l4]? = some (.dt (dtOf P1))) (h5 : S[l5]? = some (.dt (dtOf P2))) :
    ∃ S', (cSeq (cSet 6 (eNewT)) (cSeq (cFor (iSeq (eVar 2)) (.nm 7) (b_places_of_1 (F f))) (cRet (eVar 6)))) [some (trD t), some d, some (.ref ls), some (.str w), some (.ref l4), some (.ref l5), none, none, none] S = .fl (.rt (.ref S.length)) S' ∧ Gr S S' ∧ S'[S.length]? = some (.dt (dtOf ((plc t []).filter (gW w kk P1 P2)))) := by
  have g1 := gr_app S [Ob.dt []]
  have a1 := at_new S (.dt [])
  generalize hS1 : S ++ [Ob.dt []] = S1 at g1 a1
  have hs1 := g1.at hs
  have n1 : ls ≠ S.length := ne_new hs
  have n4 : l4 ≠ S.length := ne_new h4
  have n5 : l5 ≠ S.length := ne_new h5
  have nd := plc_nodup t []
  have pl : (plc t []).length ≤ 900 := by rw [plc_len]; exact hz
  obtain ⟨ρ', S', e, v7, v8, rfl, f', h6⟩ := loop_all (ck := (Ck.ls ls ((plc t []).map plD)).ok) (t := .nm 7) (b := b_places_of_1 (F f)) (S := S1) (ρ := ρP t d ls w l4 l5 S.length none none)
    (fun i ρ S' => ∃ v7 v8, ρ = ρP t d ls w l4 l5 S.length v7 v8 ∧ Fr (· = S.length) S1 S' ∧ S'[S.length]? = some (.dt (dtOf (((plc t []).take i).filter (gW w kk P1 P2))))) ((plc t []).map plD) ⟨none, none, rfl, .refl _, a1⟩
    (fun i v ρ S' hv ⟨v7, v8, hρ, f', h6⟩ => by
      subst hρ
      rw [List.getElem?_map, Option.map_eq_some_iff] at hv
      obtain ⟨p, hp, rfl⟩ := hv
      have hi := (List.getElem?_eq_some_iff.mp hp).1
      have pm := List.mem_of_getElem? hp
      have tk : (plc t []).take (i + 1) = (plc t []).take i ++ [p] := by rw [List.take_add_one, hp]; rfl
      have hq : (((plc t []).take i).filter (gW w kk P1 P2)).length ≤ 100000 := by
        have := List.length_filter_le (gW w kk P1 P2) ((plc t []).take i)
        rw [List.length_take] at this; omega
      obtain ⟨v8', e1⟩ := body_po (f := f) (t := t) (d := d) (ls := ls) (v8 := v8) (kk := kk) hw (fun z => hk z p pm S') (f'.get l4 _ (g1.at h4) (by show l4 ≠ S.length; exact n4)) (f'.get l5 _ (g1.at h5) (by show l5 ≠ S.length; exact n5)) h6 hq
      have np : p ∉ ((plc t []).take i).filter (gW w kk P1 P2) := fun z => by
        have z2 := (List.mem_filter.mp z).1
        obtain ⟨j, hj⟩ := List.mem_iff_getElem?.mp z2
        have hjl := (List.getElem?_eq_some_iff.mp hj).1
        rw [List.length_take] at hjl
        rw [List.getElem?_take_of_lt (by omega)] at hj
        have h1 := List.getElem?_eq_some_iff.mp hj
        have h2 := List.getElem?_eq_some_iff.mp hp
        have := (List.getElem_inj nd).mp (h1.2.trans h2.2.symm)
        omega
      rw [if_neg np] at e1
      refine ⟨f'.get ls _ hs1 (by show ls ≠ S.length; exact n1), _, rfl, ρP t d ls w l4 l5 S.length (some (plD p)) v8', _, .inl e1, _, _, rfl, ?_, ?_⟩
      · split
        · exact f'.trans (fr_set _ _ _)
        · exact f'
      · rw [tk, List.filter_append]
        cases q : gW w kk P1 P2 p with
        | true =>
          rw [if_pos rfl, List.filter_cons_of_pos q]
          exact at_set h6
        | false =>
          rw [if_neg (by decide), List.filter_cons_of_neg (by rw [q]; decide)]
          show S'[S.length]? = some (.dt (dtOf (_ ++ [])))
          rw [List.append_nil]; exact h6)
    (fun ρ S' ⟨v7, v8, hρ, f', h6⟩ => f'.get ls _ hs1 (by show ls ≠ S.length; exact n1))
  rw [List.length_map, List.take_of_length_le (Nat.le_refl _)] at h6
  refine ⟨S', ?_, Gr.new g1 f' (fun l z => by omega), h6⟩
  refine (seq_of (set_of (d := .ref S.length) (S' := S1) (by simp only [ev_var, ev_con, ev_bin, ev_un, ev_anil, ev_acons, ev_call, ev_tup, ev_lst, ev_not, ev_and, ev_or, ev_if, ev_cbl, ev_btrue, ev_cand, ev_cor, ev_cnot, ev_sli, ev_onone, ev_osome, ev_chain, ev_meth, ev_get2, ev_newK, ev_newT, ev_own, ev_nil, ev_seq, ev_expr, ev_set, ev_ret, ev_retN, ev_cif, ev_brk, ev_ct, ev_asg, ev_put, ev_aug, ev_for, ev_comp, ev_newL, ev_iseq, ev_irange, ev_ienum, ev_yes, Out.bind_ok, Out.bindN_ok, bindS_ok, Tg.set, Tg.sets, List.getElem?_cons_zero, List.getElem?_cons_succ, List.set_cons_zero, List.set_cons_succ, wipeE, List.length_cons, List.length_nil, Nat.reduceAdd, Nat.reduceLeDiff, Nat.reduceEqDiff, ↓reduceIte, Bool.false_eq_true, decide_eq_true_eq, add_int, sub_int, lt_int, gt_int, le_int, ge_int, neg_int, and_int, or_int, xor_int, max2_int, min2_int, mod_pos, fdiv_sm, mul_sm, mul_smr, Int.reduceLT, Int.reduceNeg, int_bl, int_int, sli_tup, hS1]))).trans ?_
  exact (seq_of ((for_of (w := ((plc t []).map plD, .ls ls ((plc t []).map plD))) (S' := S1) (by simp only [ev_var, ev_con, ev_bin, ev_un, ev_anil, ev_acons, ev_call, ev_tup, ev_lst, ev_not, ev_and, ev_or, ev_if, ev_cbl, ev_btrue, ev_cand, ev_cor, ev_cnot, ev_sli, ev_onone, ev_osome, ev_chain, ev_meth, ev_get2, ev_newK, ev_newT, ev_own, ev_nil, ev_seq, ev_expr, ev_set, ev_ret, ev_retN, ev_cif, ev_brk, ev_ct, ev_asg, ev_put, ev_aug, ev_for, ev_comp, ev_newL, ev_iseq, ev_irange, ev_ienum, ev_yes, Out.bind_ok, Out.bindN_ok, bindS_ok, Tg.set, Tg.sets, List.getElem?_cons_zero, List.getElem?_cons_succ, List.set_cons_zero, List.set_cons_succ, wipeE, List.length_cons, List.length_nil, Nat.reduceAdd, Nat.reduceLeDiff, Nat.reduceEqDiff, ↓reduceIte, Bool.false_eq_true, decide_eq_true_eq, add_int, sub_int, lt_int, gt_int, le_int, ge_int, neg_int, and_int, or_int, xor_int, max2_int, min2_int, mod_pos, fdiv_sm, mul_sm, mul_smr, Int.reduceLT, Int.reduceNeg, int_bl, int_int, sli_tup, walk_ref hs1])).trans e)).trans (ret_of rfl)
theorem mem_w {S : Sto} (w : Str) (ys : List Str) : inD (.str w) (.tup (ys.map .str)) S = .ok (.bl (decide (w ∈ ys))) S := by simp only [inD, mem_tstrs]
theorem hd_leaf {t : Tr} {w : Str} {r : List Dv} {kk : List Nat → Bool} (hz : siz t ≤ 900) (hw : Sk w) (n1 : w ≠ "way") (n2 : w ≠ "not") (n3 : w ≠ "both") (n4 : w ≠ "either")
    (hk : w = "kind" → ∀ f, 1 ≤ f → ∀ p ∈ plc t [], ∀ S, ∃ (k x : Str) (rr : List Dv), Sk k ∧ Sk x ∧ F f .tree_at [trD t, plD p] S = .ok (.tup (.str k :: rr)) S ∧ idxD (.tup (.str w :: r)) (.int 1) S = .ok (.str x) S ∧ kk p = decide (k = x)) :
    Hd t 0 (.tup (.str w :: r)) (gW w kk [] []) := fun f ls S hf hs => by
  obtain ⟨f, rfl⟩ : ∃ k, f = k + 1 := ⟨f - 1, by omega⟩
  have g1 := gr_app S [Ob.dt []]
  have a1 := at_new S (.dt [])
  generalize hS1 : S ++ [Ob.dt []] = S1 at g1 a1
  have g2 := gr_app S1 [Ob.dt []]
  have a2 := at_new S1 (.dt [])
  generalize hS2 : S1 ++ [Ob.dt []] = S2 at g2 a2
  obtain ⟨S3, e3, g3, h3⟩ := tail_po (f := f) (t := t) (d := .tup (.str w :: r)) (kk := kk) (P1 := []) (P2 := []) hw hz (fun z p hp S => hk z f (by omega) p hp S) (g2.at (g1.at hs)) (g2.at a1) a2
  refine ⟨S2.length, S3, ?_, (g1.trans g2).trans g3, h3⟩
  rw [F_places_of]
  refine runF_rt (ρ := [some (trD t), some (.tup (.str w :: r)), some (.ref ls), none, none, none, none, none, none]) rfl rfl ?_
  unfold c_places_of
  refine (seq_of (set_of (d := .str w) (S' := S) (by simp only [ev_var, ev_con, ev_bin, ev_un, ev_anil, ev_acons, ev_call, ev_tup, ev_lst, ev_not, ev_and, ev_or, ev_if, ev_cbl, ev_btrue, ev_cand, ev_cor, ev_cnot, ev_sli, ev_onone, ev_osome, ev_chain, ev_meth, ev_get2, ev_newK, ev_newT, ev_own, ev_nil, ev_seq, ev_expr, ev_set, ev_ret, ev_retN, ev_cif, ev_brk, ev_ct, ev_asg, ev_put, ev_aug, ev_for, ev_comp, ev_newL, ev_iseq, ev_irange, ev_ienum, ev_yes, Out.bind_ok, Out.bindN_ok, bindS_ok, Tg.set, Tg.sets, List.getElem?_cons_zero, List.getElem?_cons_succ, List.set_cons_zero, List.set_cons_succ, wipeE, List.length_cons, List.length_nil, Nat.reduceAdd, Nat.reduceLeDiff, Nat.reduceEqDiff, ↓reduceIte, Bool.false_eq_true, decide_eq_true_eq, add_int, sub_int, lt_int, gt_int, le_int, ge_int, neg_int, and_int, or_int, xor_int, max2_int, min2_int, mod_pos, fdiv_sm, mul_sm, mul_smr, Int.reduceLT, Int.reduceNeg, int_bl, int_int, sli_tup, idx_t0]))).trans ?_
  refine (seq_of ((if_f (S' := S) (by simp only [ev_var, ev_con, ev_bin, ev_un, ev_anil, ev_acons, ev_call, ev_tup, ev_lst, ev_not, ev_and, ev_or, ev_if, ev_cbl, ev_btrue, ev_cand, ev_cor, ev_cnot, ev_sli, ev_onone, ev_osome, ev_chain, ev_meth, ev_get2, ev_newK, ev_newT, ev_own, ev_nil, ev_seq, ev_expr, ev_set, ev_ret, ev_retN, ev_cif, ev_brk, ev_ct, ev_asg, ev_put, ev_aug, ev_for, ev_comp, ev_newL, ev_iseq, ev_irange, ev_ienum, ev_yes, Out.bind_ok, Out.bindN_ok, bindS_ok, Tg.set, Tg.sets, List.getElem?_cons_zero, List.getElem?_cons_succ, List.set_cons_zero, List.set_cons_succ, wipeE, List.length_cons, List.length_nil, Nat.reduceAdd, Nat.reduceLeDiff, Nat.reduceEqDiff, ↓reduceIte, Bool.false_eq_true, decide_eq_true_eq, add_int, sub_int, lt_int, gt_int, le_int, ge_int, neg_int, and_int, or_int, xor_int, max2_int, min2_int, mod_pos, fdiv_sm, mul_sm, mul_smr, Int.reduceLT, Int.reduceNeg, int_bl, int_int, sli_tup, eq_str hw skp_way, n1, decide_false])).trans rfl)).trans ?_
  refine (seq_of (set_of (d := .ref S.length) (S' := S1) (by simp only [ev_var, ev_con, ev_bin, ev_un, ev_anil, ev_acons, ev_call, ev_tup, ev_lst, ev_not, ev_and, ev_or, ev_if, ev_cbl, ev_btrue, ev_cand, ev_cor, ev_cnot, ev_sli, ev_onone, ev_osome, ev_chain, ev_meth, ev_get2, ev_newK, ev_newT, ev_own, ev_nil, ev_seq, ev_expr, ev_set, ev_ret, ev_retN, ev_cif, ev_brk, ev_ct, ev_asg, ev_put, ev_aug, ev_for, ev_comp, ev_newL, ev_iseq, ev_irange, ev_ienum, ev_yes, Out.bind_ok, Out.bindN_ok, bindS_ok, Tg.set, Tg.sets, List.getElem?_cons_zero, List.getElem?_cons_succ, List.set_cons_zero, List.set_cons_succ, wipeE, List.length_cons, List.length_nil, Nat.reduceAdd, Nat.reduceLeDiff, Nat.reduceEqDiff, ↓reduceIte, Bool.false_eq_true, decide_eq_true_eq, add_int, sub_int, lt_int, gt_int, le_int, ge_int, neg_int, and_int, or_int, xor_int, max2_int, min2_int, mod_pos, fdiv_sm, mul_sm, mul_smr, Int.reduceLT, Int.reduceNeg, int_bl, int_int, sli_tup, hS1]))).trans ?_
  refine (seq_of (set_of (d := .ref S1.length) (S' := S2) (by simp only [ev_var, ev_con, ev_bin, ev_un, ev_anil, ev_acons, ev_call, ev_tup, ev_lst, ev_not, ev_and, ev_or, ev_if, ev_cbl, ev_btrue, ev_cand, ev_cor, ev_cnot, ev_sli, ev_onone, ev_osome, ev_chain, ev_meth, ev_get2, ev_newK, ev_newT, ev_own, ev_nil, ev_seq, ev_expr, ev_set, ev_ret, ev_retN, ev_cif, ev_brk, ev_ct, ev_asg, ev_put, ev_aug, ev_for, ev_comp, ev_newL, ev_iseq, ev_irange, ev_ienum, ev_yes, Out.bind_ok, Out.bindN_ok, bindS_ok, Tg.set, Tg.sets, List.getElem?_cons_zero, List.getElem?_cons_succ, List.set_cons_zero, List.set_cons_succ, wipeE, List.length_cons, List.length_nil, Nat.reduceAdd, Nat.reduceLeDiff, Nat.reduceEqDiff, ↓reduceIte, Bool.false_eq_true, decide_eq_true_eq, add_int, sub_int, lt_int, gt_int, le_int, ge_int, neg_int, and_int, or_int, xor_int, max2_int, min2_int, mod_pos, fdiv_sm, mul_sm, mul_smr, Int.reduceLT, Int.reduceNeg, int_bl, int_int, sli_tup, hS2]))).trans ?_
  have m1 := mem_w (S := S2) w ["not", "both", "either"]
  have m2 := mem_w (S := S2) w ["both", "either"]
  rw [decide_eq_false (show w ∉ (["not", "both", "either"] : List Str) by simp [n2, n3, n4])] at m1
  rw [decide_eq_false (show w ∉ (["both", "either"] : List Str) by simp [n3, n4])] at m2
  simp only [List.map_cons, List.map_nil] at m1 m2
  refine (seq_of ((if_f (S' := S2) (by simp only [ev_var, ev_con, ev_bin, ev_un, ev_anil, ev_acons, ev_call, ev_tup, ev_lst, ev_not, ev_and, ev_or, ev_if, ev_cbl, ev_btrue, ev_cand, ev_cor, ev_cnot, ev_sli, ev_onone, ev_osome, ev_chain, ev_meth, ev_get2, ev_newK, ev_newT, ev_own, ev_nil, ev_seq, ev_expr, ev_set, ev_ret, ev_retN, ev_cif, ev_brk, ev_ct, ev_asg, ev_put, ev_aug, ev_for, ev_comp, ev_newL, ev_iseq, ev_irange, ev_ienum, ev_yes, Out.bind_ok, Out.bindN_ok, bindS_ok, Tg.set, Tg.sets, List.getElem?_cons_zero, List.getElem?_cons_succ, List.set_cons_zero, List.set_cons_succ, wipeE, List.length_cons, List.length_nil, Nat.reduceAdd, Nat.reduceLeDiff, Nat.reduceEqDiff, ↓reduceIte, Bool.false_eq_true, decide_eq_true_eq, add_int, sub_int, lt_int, gt_int, le_int, ge_int, neg_int, and_int, or_int, xor_int, max2_int, min2_int, mod_pos, fdiv_sm, mul_sm, mul_smr, Int.reduceLT, Int.reduceNeg, int_bl, int_int, sli_tup, sline 3 (by omega), m1])).trans rfl)).trans ?_
  exact (seq_of ((if_f (S' := S2) (by simp only [ev_var, ev_con, ev_bin, ev_un, ev_anil, ev_acons, ev_call, ev_tup, ev_lst, ev_not, ev_and, ev_or, ev_if, ev_cbl, ev_btrue, ev_cand, ev_cor, ev_cnot, ev_sli, ev_onone, ev_osome, ev_chain, ev_meth, ev_get2, ev_newK, ev_newT, ev_own, ev_nil, ev_seq, ev_expr, ev_set, ev_ret, ev_retN, ev_cif, ev_brk, ev_ct, ev_asg, ev_put, ev_aug, ev_for, ev_comp, ev_newL, ev_iseq, ev_irange, ev_ienum, ev_yes, Out.bind_ok, Out.bindN_ok, bindS_ok, Tg.set, Tg.sets, List.getElem?_cons_zero, List.getElem?_cons_succ, List.set_cons_zero, List.set_cons_succ, wipeE, List.length_cons, List.length_nil, Nat.reduceAdd, Nat.reduceLeDiff, Nat.reduceEqDiff, ↓reduceIte, Bool.false_eq_true, decide_eq_true_eq, add_int, sub_int, lt_int, gt_int, le_int, ge_int, neg_int, and_int, or_int, xor_int, max2_int, min2_int, mod_pos, fdiv_sm, mul_sm, mul_smr, Int.reduceLT, Int.reduceNeg, int_bl, int_int, sli_tup, sline 2 (by omega), m2])).trans rfl)).trans e3
theorem hd_any {t : Tr} (hz : siz t ≤ 900) : Hd t 0 (.tup [.str "any"]) (fun _ => true) := (hd_leaf (kk := fun _ => false) hz skp_any (by decide) (by decide) (by decide) (by decide) (fun z => absurd z (by decide))).congr fun p _ => by
  unfold gW
  rw [decide_eq_true (show ("any" : Str) = "any" from rfl)]; simp
theorem hd_mark {t : Tr} (hz : siz t ≤ 900) : Hd t 0 (.tup [.str "mark"]) (fun _ => false) := (hd_leaf (kk := fun _ => false) hz skp_mark (by decide) (by decide) (by decide) (by decide) (fun z => absurd z (by decide))).congr fun p _ => by
  unfold gW
  rw [decide_eq_false (show ¬ ("mark" : Str) = "any" by decide), decide_eq_false (show ¬ ("mark" : Str) = "kind" by decide), decide_eq_false (show ¬ ("mark" : Str) = "not" by decide), decide_eq_false (show ¬ ("mark" : Str) = "both" by decide), decide_eq_false (show ¬ ("mark" : Str) = "either" by decide)]; rfl
/-- the kind of a place -/
def kindAt (t : Tr) (p : List Nat) : Str := match sub t p with
  | some s => kdT s
  | none => ""
theorem psub {t : Tr} {p : List Nat} (h : p ∈ plc t []) : ∃ s, sub t p = some s ∧ s ∈ subs t := by
  obtain ⟨i, hi⟩ := List.mem_iff_getElem?.mp h
  have hl := (List.getElem?_eq_some_iff.mp hi).1
  rw [plc_len, ← subs_len] at hl
  have hs : (subs t)[i]? = some (subs t)[i] := List.getElem?_eq_getElem hl
  obtain ⟨w, e, hw⟩ := zip_plc t [] (p, (subs t)[i]) (List.mem_of_getElem? (i := i) (by rw [List.getElem?_zip_eq_some]; exact ⟨hi, hs⟩))
  have e' : p = w := e
  subst e'
  exact ⟨_, hw, List.getElem_mem hl⟩
theorem hd_kind {t : Tr} {x : Str} (hz : siz t ≤ 900) (kt : SkT t) (hx : Sk x) : Hd t 0 (.tup [.str "kind", .str x]) (fun p => decide (kindAt t p = x)) := (hd_leaf (kk := fun p => decide (kindAt t p = x)) hz skp_kind (by decide) (by decide) (by decide) (by decide) (fun _ f hf p hp S => by
    obtain ⟨s, h1, h2⟩ := psub hp
    obtain ⟨g, rfl⟩ : ∃ g, f = g + 1 := ⟨f - 1, by omega⟩
    obtain ⟨k, ps⟩ := s
    have ks : Sk k := kt.sub h2 k (by rw [kds]; exact List.mem_cons_self)
    refine ⟨k, x, [.tup (trDs ps)], ks, hx, by have := tree_at_run (f := g) (S := S) h1; rw [trD] at this; exact this, idx_t1, ?_⟩
    unfold kindAt
    rw [h1]; rfl)).congr fun p _ => by
  unfold gW
  rw [decide_eq_false (show ¬ ("kind" : Str) = "any" by decide), decide_eq_true (show ("kind" : Str) = "kind" from rfl), decide_eq_false (show ¬ ("kind" : Str) = "not" by decide), decide_eq_false (show ¬ ("kind" : Str) = "both" by decide), decide_eq_false (show ¬ ("kind" : Str) = "either" by decide)]; simp
theorem hd_not {t : Tr} {h : Nat} {d : Dv} {g : List Nat → Bool} (hz : siz t ≤ 900) (k : Hd t h d g) : Hd t (h + 1) (.tup [.str "not", d]) (fun p => !g p) := fun f ls S hf hs => by
  obtain ⟨f, rfl⟩ : ∃ k, f = k + 1 := ⟨f - 1, by omega⟩
  have g1 := gr_app S [Ob.dt []]
  generalize hS1 : S ++ [Ob.dt []] = S1 at g1
  have g2 := gr_app S1 [Ob.dt []]
  have a2 := at_new S1 (.dt [])
  generalize hS2 : S1 ++ [Ob.dt []] = S2 at g2 a2
  obtain ⟨l4, S3, e3, g3, h3⟩ := k f ls S2 (by omega) (g2.at (g1.at hs))
  obtain ⟨S4, e4, g4, h4⟩ := tail_po (f := f) (t := t) (d := .tup [.str "not", d]) (kk := fun _ => false) skp_not hz (fun z => absurd z (by decide)) (g3.at (g2.at (g1.at hs))) h3 (show S3[S1.length]? = some (.dt (dtOf [])) from g3.at a2)
  refine ⟨S3.length, S4, ?_, ((g1.trans g2).trans g3).trans g4, ?_⟩
  · rw [F_places_of]
    refine runF_rt (ρ := [some (trD t), some (.tup [.str "not", d]), some (.ref ls), none, none, none, none, none, none]) rfl rfl ?_
    unfold c_places_of
    refine (seq_of (set_of (d := .str "not") (S' := S) (by simp only [ev_var, ev_con, ev_bin, ev_un, ev_anil, ev_acons, ev_call, ev_tup, ev_lst, ev_not, ev_and, ev_or, ev_if, ev_cbl, ev_btrue, ev_cand, ev_cor, ev_cnot, ev_sli, ev_onone, ev_osome, ev_chain, ev_meth, ev_get2, ev_newK, ev_newT, ev_own, ev_nil, ev_seq, ev_expr, ev_set, ev_ret, ev_retN, ev_cif, ev_brk, ev_ct, ev_asg, ev_put, ev_aug, ev_for, ev_comp, ev_newL, ev_iseq, ev_irange, ev_ienum, ev_yes, Out.bind_ok, Out.bindN_ok, bindS_ok, Tg.set, Tg.sets, List.getElem?_cons_zero, List.getElem?_cons_succ, List.set_cons_zero, List.set_cons_succ, wipeE, List.length_cons, List.length_nil, Nat.reduceAdd, Nat.reduceLeDiff, Nat.reduceEqDiff, ↓reduceIte, Bool.false_eq_true, decide_eq_true_eq, add_int, sub_int, lt_int, gt_int, le_int, ge_int, neg_int, and_int, or_int, xor_int, max2_int, min2_int, mod_pos, fdiv_sm, mul_sm, mul_smr, Int.reduceLT, Int.reduceNeg, int_bl, int_int, sli_tup, idx_t0]))).trans ?_
    refine (seq_of ((if_f (S' := S) (by simp only [ev_var, ev_con, ev_bin, ev_un, ev_anil, ev_acons, ev_call, ev_tup, ev_lst, ev_not, ev_and, ev_or, ev_if, ev_cbl, ev_btrue, ev_cand, ev_cor, ev_cnot, ev_sli, ev_onone, ev_osome, ev_chain, ev_meth, ev_get2, ev_newK, ev_newT, ev_own, ev_nil, ev_seq, ev_expr, ev_set, ev_ret, ev_retN, ev_cif, ev_brk, ev_ct, ev_asg, ev_put, ev_aug, ev_for, ev_comp, ev_newL, ev_iseq, ev_irange, ev_ienum, ev_yes, Out.bind_ok, Out.bindN_ok, bindS_ok, Tg.set, Tg.sets, List.getElem?_cons_zero, List.getElem?_cons_succ, List.set_cons_zero, List.set_cons_succ, wipeE, List.length_cons, List.length_nil, Nat.reduceAdd, Nat.reduceLeDiff, Nat.reduceEqDiff, ↓reduceIte, Bool.false_eq_true, decide_eq_true_eq, add_int, sub_int, lt_int, gt_int, le_int, ge_int, neg_int, and_int, or_int, xor_int, max2_int, min2_int, mod_pos, fdiv_sm, mul_sm, mul_smr, Int.reduceLT, Int.reduceNeg, int_bl, int_int, sli_tup, eq_str skp_not skp_way, show decide (("not" : Str) = "way") = false by decide])).trans rfl)).trans ?_
    refine (seq_of (set_of (d := .ref S.length) (S' := S1) (by simp only [ev_var, ev_con, ev_bin, ev_un, ev_anil, ev_acons, ev_call, ev_tup, ev_lst, ev_not, ev_and, ev_or, ev_if, ev_cbl, ev_btrue, ev_cand, ev_cor, ev_cnot, ev_sli, ev_onone, ev_osome, ev_chain, ev_meth, ev_get2, ev_newK, ev_newT, ev_own, ev_nil, ev_seq, ev_expr, ev_set, ev_ret, ev_retN, ev_cif, ev_brk, ev_ct, ev_asg, ev_put, ev_aug, ev_for, ev_comp, ev_newL, ev_iseq, ev_irange, ev_ienum, ev_yes, Out.bind_ok, Out.bindN_ok, bindS_ok, Tg.set, Tg.sets, List.getElem?_cons_zero, List.getElem?_cons_succ, List.set_cons_zero, List.set_cons_succ, wipeE, List.length_cons, List.length_nil, Nat.reduceAdd, Nat.reduceLeDiff, Nat.reduceEqDiff, ↓reduceIte, Bool.false_eq_true, decide_eq_true_eq, add_int, sub_int, lt_int, gt_int, le_int, ge_int, neg_int, and_int, or_int, xor_int, max2_int, min2_int, mod_pos, fdiv_sm, mul_sm, mul_smr, Int.reduceLT, Int.reduceNeg, int_bl, int_int, sli_tup, hS1]))).trans ?_
    refine (seq_of (set_of (d := .ref S1.length) (S' := S2) (by simp only [ev_var, ev_con, ev_bin, ev_un, ev_anil, ev_acons, ev_call, ev_tup, ev_lst, ev_not, ev_and, ev_or, ev_if, ev_cbl, ev_btrue, ev_cand, ev_cor, ev_cnot, ev_sli, ev_onone, ev_osome, ev_chain, ev_meth, ev_get2, ev_newK, ev_newT, ev_own, ev_nil, ev_seq, ev_expr, ev_set, ev_ret, ev_retN, ev_cif, ev_brk, ev_ct, ev_asg, ev_put, ev_aug, ev_for, ev_comp, ev_newL, ev_iseq, ev_irange, ev_ienum, ev_yes, Out.bind_ok, Out.bindN_ok, bindS_ok, Tg.set, Tg.sets, List.getElem?_cons_zero, List.getElem?_cons_succ, List.set_cons_zero, List.set_cons_succ, wipeE, List.length_cons, List.length_nil, Nat.reduceAdd, Nat.reduceLeDiff, Nat.reduceEqDiff, ↓reduceIte, Bool.false_eq_true, decide_eq_true_eq, add_int, sub_int, lt_int, gt_int, le_int, ge_int, neg_int, and_int, or_int, xor_int, max2_int, min2_int, mod_pos, fdiv_sm, mul_sm, mul_smr, Int.reduceLT, Int.reduceNeg, int_bl, int_int, sli_tup, hS2]))).trans ?_
    have m1 := mem_w (S := S2) "not" ["not", "both", "either"]
    have m2 := mem_w (S := S3) "not" ["both", "either"]
    rw [decide_eq_true (by decide)] at m1
    rw [decide_eq_false (by decide)] at m2
    simp only [List.map_cons, List.map_nil] at m1 m2
    refine (seq_of ((if_t (S' := S2) (by simp only [ev_var, ev_con, ev_bin, ev_un, ev_anil, ev_acons, ev_call, ev_tup, ev_lst, ev_not, ev_and, ev_or, ev_if, ev_cbl, ev_btrue, ev_cand, ev_cor, ev_cnot, ev_sli, ev_onone, ev_osome, ev_chain, ev_meth, ev_get2, ev_newK, ev_newT, ev_own, ev_nil, ev_seq, ev_expr, ev_set, ev_ret, ev_retN, ev_cif, ev_brk, ev_ct, ev_asg, ev_put, ev_aug, ev_for, ev_comp, ev_newL, ev_iseq, ev_irange, ev_ienum, ev_yes, Out.bind_ok, Out.bindN_ok, bindS_ok, Tg.set, Tg.sets, List.getElem?_cons_zero, List.getElem?_cons_succ, List.set_cons_zero, List.set_cons_succ, wipeE, List.length_cons, List.length_nil, Nat.reduceAdd, Nat.reduceLeDiff, Nat.reduceEqDiff, ↓reduceIte, Bool.false_eq_true, decide_eq_true_eq, add_int, sub_int, lt_int, gt_int, le_int, ge_int, neg_int, and_int, or_int, xor_int, max2_int, min2_int, mod_pos, fdiv_sm, mul_sm, mul_smr, Int.reduceLT, Int.reduceNeg, int_bl, int_int, sli_tup, sline 3 (by omega), m1])).trans (set_of (d := .ref l4) (S' := S3) (by simp only [ev_var, ev_con, ev_bin, ev_un, ev_anil, ev_acons, ev_call, ev_tup, ev_lst, ev_not, ev_and, ev_or, ev_if, ev_cbl, ev_btrue, ev_cand, ev_cor, ev_cnot, ev_sli, ev_onone, ev_osome, ev_chain, ev_meth, ev_get2, ev_newK, ev_newT, ev_own, ev_nil, ev_seq, ev_expr, ev_set, ev_ret, ev_retN, ev_cif, ev_brk, ev_ct, ev_asg, ev_put, ev_aug, ev_for, ev_comp, ev_newL, ev_iseq, ev_irange, ev_ienum, ev_yes, Out.bind_ok, Out.bindN_ok, bindS_ok, Tg.set, Tg.sets, List.getElem?_cons_zero, List.getElem?_cons_succ, List.set_cons_zero, List.set_cons_succ, wipeE, List.length_cons, List.length_nil, Nat.reduceAdd, Nat.reduceLeDiff, Nat.reduceEqDiff, ↓reduceIte, Bool.false_eq_true, decide_eq_true_eq, add_int, sub_int, lt_int, gt_int, le_int, ge_int, neg_int, and_int, or_int, xor_int, max2_int, min2_int, mod_pos, fdiv_sm, mul_sm, mul_smr, Int.reduceLT, Int.reduceNeg, int_bl, int_int, sli_tup, idx_t1, e3])))).trans ?_
    exact (seq_of ((if_f (S' := S3) (by simp only [ev_var, ev_con, ev_bin, ev_un, ev_anil, ev_acons, ev_call, ev_tup, ev_lst, ev_not, ev_and, ev_or, ev_if, ev_cbl, ev_btrue, ev_cand, ev_cor, ev_cnot, ev_sli, ev_onone, ev_osome, ev_chain, ev_meth, ev_get2, ev_newK, ev_newT, ev_own, ev_nil, ev_seq, ev_expr, ev_set, ev_ret, ev_retN, ev_cif, ev_brk, ev_ct, ev_asg, ev_put, ev_aug, ev_for, ev_comp, ev_newL, ev_iseq, ev_irange, ev_ienum, ev_yes, Out.bind_ok, Out.bindN_ok, bindS_ok, Tg.set, Tg.sets, List.getElem?_cons_zero, List.getElem?_cons_succ, List.set_cons_zero, List.set_cons_succ, wipeE, List.length_cons, List.length_nil, Nat.reduceAdd, Nat.reduceLeDiff, Nat.reduceEqDiff, ↓reduceIte, Bool.false_eq_true, decide_eq_true_eq, add_int, sub_int, lt_int, gt_int, le_int, ge_int, neg_int, and_int, or_int, xor_int, max2_int, min2_int, mod_pos, fdiv_sm, mul_sm, mul_smr, Int.reduceLT, Int.reduceNeg, int_bl, int_int, sli_tup, sline 2 (by omega), m2])).trans rfl)).trans e4
  · rw [h4]
    congr 3
    refine List.filter_congr fun p hp => ?_
    unfold gW
    rw [decide_eq_false (show ¬ ("not" : Str) = "any" by decide), decide_eq_false (show ¬ ("not" : Str) = "kind" by decide), decide_eq_true (show ("not" : Str) = "not" from rfl), decide_eq_false (show ¬ ("not" : Str) = "both" by decide), decide_eq_false (show ¬ ("not" : Str) = "either" by decide)]
    have : decide (p ∈ (plc t []).filter g) = g p := by
      cases q : g p with
      | true => exact decide_eq_true (List.mem_filter.mpr ⟨hp, q⟩)
      | false => exact decide_eq_false fun z => by rw [(List.mem_filter.mp z).2] at q; cases q
    rw [this]; simp
theorem hd_two {t : Tr} {h : Nat} {w : Str} {d d' : Dv} {g g' : List Nat → Bool} (hz : siz t ≤ 900) (hw : w = "both" ∨ w = "either") (k : Hd t h d g) (k' : Hd t h d' g') : Hd t (h + 1) (.tup [.str w, d, d']) (fun p => if w = "both" then g p && g' p else g p || g' p) := fun f ls S hf hs => by
  obtain ⟨f, rfl⟩ : ∃ k, f = k + 1 := ⟨f - 1, by omega⟩
  have kw : Sk w := by rcases hw with rfl | rfl <;> decide +kernel
  have nw : w ≠ "way" := by rcases hw with rfl | rfl <;> decide
  have g1 := gr_app S [Ob.dt []]
  generalize hS1 : S ++ [Ob.dt []] = S1 at g1
  have g2 := gr_app S1 [Ob.dt []]
  generalize hS2 : S1 ++ [Ob.dt []] = S2 at g2
  obtain ⟨l4, S3, e3, g3, h3⟩ := k f ls S2 (by omega) (g2.at (g1.at hs))
  obtain ⟨l5, S4, e4, g4, h4⟩ := k' f ls S3 (by omega) (g3.at (g2.at (g1.at hs)))
  obtain ⟨S5, e5, g5, h5⟩ := tail_po (f := f) (t := t) (d := .tup [.str w, d, d']) (kk := fun _ => false) kw hz (fun z => by rcases hw with rfl | rfl <;> exact absurd z (by decide)) (g4.at (g3.at (g2.at (g1.at hs)))) (g4.at h3) h4
  refine ⟨S4.length, S5, ?_, (((g1.trans g2).trans g3).trans g4).trans g5, ?_⟩
  · rw [F_places_of]
    refine runF_rt (ρ := [some (trD t), some (.tup [.str w, d, d']), some (.ref ls), none, none, none, none, none, none]) rfl rfl ?_
    unfold c_places_of
    refine (seq_of (set_of (d := .str w) (S' := S) (by simp only [ev_var, ev_con, ev_bin, ev_un, ev_anil, ev_acons, ev_call, ev_tup, ev_lst, ev_not, ev_and, ev_or, ev_if, ev_cbl, ev_btrue, ev_cand, ev_cor, ev_cnot, ev_sli, ev_onone, ev_osome, ev_chain, ev_meth, ev_get2, ev_newK, ev_newT, ev_own, ev_nil, ev_seq, ev_expr, ev_set, ev_ret, ev_retN, ev_cif, ev_brk, ev_ct, ev_asg, ev_put, ev_aug, ev_for, ev_comp, ev_newL, ev_iseq, ev_irange, ev_ienum, ev_yes, Out.bind_ok, Out.bindN_ok, bindS_ok, Tg.set, Tg.sets, List.getElem?_cons_zero, List.getElem?_cons_succ, List.set_cons_zero, List.set_cons_succ, wipeE, List.length_cons, List.length_nil, Nat.reduceAdd, Nat.reduceLeDiff, Nat.reduceEqDiff, ↓reduceIte, Bool.false_eq_true, decide_eq_true_eq, add_int, sub_int, lt_int, gt_int, le_int, ge_int, neg_int, and_int, or_int, xor_int, max2_int, min2_int, mod_pos, fdiv_sm, mul_sm, mul_smr, Int.reduceLT, Int.reduceNeg, int_bl, int_int, sli_tup, idx_t0]))).trans ?_
    refine (seq_of ((if_f (S' := S) (by simp only [ev_var, ev_con, ev_bin, ev_un, ev_anil, ev_acons, ev_call, ev_tup, ev_lst, ev_not, ev_and, ev_or, ev_if, ev_cbl, ev_btrue, ev_cand, ev_cor, ev_cnot, ev_sli, ev_onone, ev_osome, ev_chain, ev_meth, ev_get2, ev_newK, ev_newT, ev_own, ev_nil, ev_seq, ev_expr, ev_set, ev_ret, ev_retN, ev_cif, ev_brk, ev_ct, ev_asg, ev_put, ev_aug, ev_for, ev_comp, ev_newL, ev_iseq, ev_irange, ev_ienum, ev_yes, Out.bind_ok, Out.bindN_ok, bindS_ok, Tg.set, Tg.sets, List.getElem?_cons_zero, List.getElem?_cons_succ, List.set_cons_zero, List.set_cons_succ, wipeE, List.length_cons, List.length_nil, Nat.reduceAdd, Nat.reduceLeDiff, Nat.reduceEqDiff, ↓reduceIte, Bool.false_eq_true, decide_eq_true_eq, add_int, sub_int, lt_int, gt_int, le_int, ge_int, neg_int, and_int, or_int, xor_int, max2_int, min2_int, mod_pos, fdiv_sm, mul_sm, mul_smr, Int.reduceLT, Int.reduceNeg, int_bl, int_int, sli_tup, eq_str kw skp_way, nw, decide_false])).trans rfl)).trans ?_
    refine (seq_of (set_of (d := .ref S.length) (S' := S1) (by simp only [ev_var, ev_con, ev_bin, ev_un, ev_anil, ev_acons, ev_call, ev_tup, ev_lst, ev_not, ev_and, ev_or, ev_if, ev_cbl, ev_btrue, ev_cand, ev_cor, ev_cnot, ev_sli, ev_onone, ev_osome, ev_chain, ev_meth, ev_get2, ev_newK, ev_newT, ev_own, ev_nil, ev_seq, ev_expr, ev_set, ev_ret, ev_retN, ev_cif, ev_brk, ev_ct, ev_asg, ev_put, ev_aug, ev_for, ev_comp, ev_newL, ev_iseq, ev_irange, ev_ienum, ev_yes, Out.bind_ok, Out.bindN_ok, bindS_ok, Tg.set, Tg.sets, List.getElem?_cons_zero, List.getElem?_cons_succ, List.set_cons_zero, List.set_cons_succ, wipeE, List.length_cons, List.length_nil, Nat.reduceAdd, Nat.reduceLeDiff, Nat.reduceEqDiff, ↓reduceIte, Bool.false_eq_true, decide_eq_true_eq, add_int, sub_int, lt_int, gt_int, le_int, ge_int, neg_int, and_int, or_int, xor_int, max2_int, min2_int, mod_pos, fdiv_sm, mul_sm, mul_smr, Int.reduceLT, Int.reduceNeg, int_bl, int_int, sli_tup, hS1]))).trans ?_
    refine (seq_of (set_of (d := .ref S1.length) (S' := S2) (by simp only [ev_var, ev_con, ev_bin, ev_un, ev_anil, ev_acons, ev_call, ev_tup, ev_lst, ev_not, ev_and, ev_or, ev_if, ev_cbl, ev_btrue, ev_cand, ev_cor, ev_cnot, ev_sli, ev_onone, ev_osome, ev_chain, ev_meth, ev_get2, ev_newK, ev_newT, ev_own, ev_nil, ev_seq, ev_expr, ev_set, ev_ret, ev_retN, ev_cif, ev_brk, ev_ct, ev_asg, ev_put, ev_aug, ev_for, ev_comp, ev_newL, ev_iseq, ev_irange, ev_ienum, ev_yes, Out.bind_ok, Out.bindN_ok, bindS_ok, Tg.set, Tg.sets, List.getElem?_cons_zero, List.getElem?_cons_succ, List.set_cons_zero, List.set_cons_succ, wipeE, List.length_cons, List.length_nil, Nat.reduceAdd, Nat.reduceLeDiff, Nat.reduceEqDiff, ↓reduceIte, Bool.false_eq_true, decide_eq_true_eq, add_int, sub_int, lt_int, gt_int, le_int, ge_int, neg_int, and_int, or_int, xor_int, max2_int, min2_int, mod_pos, fdiv_sm, mul_sm, mul_smr, Int.reduceLT, Int.reduceNeg, int_bl, int_int, sli_tup, hS2]))).trans ?_
    have m1 := mem_w (S := S2) w ["not", "both", "either"]
    have m2 := mem_w (S := S3) w ["both", "either"]
    rw [decide_eq_true (by rcases hw with rfl | rfl <;> decide)] at m1
    rw [decide_eq_true (by rcases hw with rfl | rfl <;> decide)] at m2
    simp only [List.map_cons, List.map_nil] at m1 m2
    refine (seq_of ((if_t (S' := S2) (by simp only [ev_var, ev_con, ev_bin, ev_un, ev_anil, ev_acons, ev_call, ev_tup, ev_lst, ev_not, ev_and, ev_or, ev_if, ev_cbl, ev_btrue, ev_cand, ev_cor, ev_cnot, ev_sli, ev_onone, ev_osome, ev_chain, ev_meth, ev_get2, ev_newK, ev_newT, ev_own, ev_nil, ev_seq, ev_expr, ev_set, ev_ret, ev_retN, ev_cif, ev_brk, ev_ct, ev_asg, ev_put, ev_aug, ev_for, ev_comp, ev_newL, ev_iseq, ev_irange, ev_ienum, ev_yes, Out.bind_ok, Out.bindN_ok, bindS_ok, Tg.set, Tg.sets, List.getElem?_cons_zero, List.getElem?_cons_succ, List.set_cons_zero, List.set_cons_succ, wipeE, List.length_cons, List.length_nil, Nat.reduceAdd, Nat.reduceLeDiff, Nat.reduceEqDiff, ↓reduceIte, Bool.false_eq_true, decide_eq_true_eq, add_int, sub_int, lt_int, gt_int, le_int, ge_int, neg_int, and_int, or_int, xor_int, max2_int, min2_int, mod_pos, fdiv_sm, mul_sm, mul_smr, Int.reduceLT, Int.reduceNeg, int_bl, int_int, sli_tup, sline 3 (by omega), m1])).trans (set_of (d := .ref l4) (S' := S3) (by simp only [ev_var, ev_con, ev_bin, ev_un, ev_anil, ev_acons, ev_call, ev_tup, ev_lst, ev_not, ev_and, ev_or, ev_if, ev_cbl, ev_btrue, ev_cand, ev_cor, ev_cnot, ev_sli, ev_onone, ev_osome, ev_chain, ev_meth, ev_get2, ev_newK, ev_newT, ev_own, ev_nil, ev_seq, ev_expr, ev_set, ev_ret, ev_retN, ev_cif, ev_brk, ev_ct, ev_asg, ev_put, ev_aug, ev_for, ev_comp, ev_newL, ev_iseq, ev_irange, ev_ienum, ev_yes, Out.bind_ok, Out.bindN_ok, bindS_ok, Tg.set, Tg.sets, List.getElem?_cons_zero, List.getElem?_cons_succ, List.set_cons_zero, List.set_cons_succ, wipeE, List.length_cons, List.length_nil, Nat.reduceAdd, Nat.reduceLeDiff, Nat.reduceEqDiff, ↓reduceIte, Bool.false_eq_true, decide_eq_true_eq, add_int, sub_int, lt_int, gt_int, le_int, ge_int, neg_int, and_int, or_int, xor_int, max2_int, min2_int, mod_pos, fdiv_sm, mul_sm, mul_smr, Int.reduceLT, Int.reduceNeg, int_bl, int_int, sli_tup, idx_t1, e3])))).trans ?_
    exact (seq_of ((if_t (S' := S3) (by simp only [ev_var, ev_con, ev_bin, ev_un, ev_anil, ev_acons, ev_call, ev_tup, ev_lst, ev_not, ev_and, ev_or, ev_if, ev_cbl, ev_btrue, ev_cand, ev_cor, ev_cnot, ev_sli, ev_onone, ev_osome, ev_chain, ev_meth, ev_get2, ev_newK, ev_newT, ev_own, ev_nil, ev_seq, ev_expr, ev_set, ev_ret, ev_retN, ev_cif, ev_brk, ev_ct, ev_asg, ev_put, ev_aug, ev_for, ev_comp, ev_newL, ev_iseq, ev_irange, ev_ienum, ev_yes, Out.bind_ok, Out.bindN_ok, bindS_ok, Tg.set, Tg.sets, List.getElem?_cons_zero, List.getElem?_cons_succ, List.set_cons_zero, List.set_cons_succ, wipeE, List.length_cons, List.length_nil, Nat.reduceAdd, Nat.reduceLeDiff, Nat.reduceEqDiff, ↓reduceIte, Bool.false_eq_true, decide_eq_true_eq, add_int, sub_int, lt_int, gt_int, le_int, ge_int, neg_int, and_int, or_int, xor_int, max2_int, min2_int, mod_pos, fdiv_sm, mul_sm, mul_smr, Int.reduceLT, Int.reduceNeg, int_bl, int_int, sli_tup, sline 2 (by omega), m2])).trans (set_of (d := .ref l5) (S' := S4) (by simp only [ev_var, ev_con, ev_bin, ev_un, ev_anil, ev_acons, ev_call, ev_tup, ev_lst, ev_not, ev_and, ev_or, ev_if, ev_cbl, ev_btrue, ev_cand, ev_cor, ev_cnot, ev_sli, ev_onone, ev_osome, ev_chain, ev_meth, ev_get2, ev_newK, ev_newT, ev_own, ev_nil, ev_seq, ev_expr, ev_set, ev_ret, ev_retN, ev_cif, ev_brk, ev_ct, ev_asg, ev_put, ev_aug, ev_for, ev_comp, ev_newL, ev_iseq, ev_irange, ev_ienum, ev_yes, Out.bind_ok, Out.bindN_ok, bindS_ok, Tg.set, Tg.sets, List.getElem?_cons_zero, List.getElem?_cons_succ, List.set_cons_zero, List.set_cons_succ, wipeE, List.length_cons, List.length_nil, Nat.reduceAdd, Nat.reduceLeDiff, Nat.reduceEqDiff, ↓reduceIte, Bool.false_eq_true, decide_eq_true_eq, add_int, sub_int, lt_int, gt_int, le_int, ge_int, neg_int, and_int, or_int, xor_int, max2_int, min2_int, mod_pos, fdiv_sm, mul_sm, mul_smr, Int.reduceLT, Int.reduceNeg, int_bl, int_int, sli_tup, idx_t2, e4])))).trans e5
  · rw [h5]
    congr 3
    refine List.filter_congr fun p hp => ?_
    have m : ∀ g : List Nat → Bool, decide (p ∈ (plc t []).filter g) = g p := fun g => by
      cases q : g p with
      | true => exact decide_eq_true (List.mem_filter.mpr ⟨hp, q⟩)
      | false => exact decide_eq_false fun z => by rw [(List.mem_filter.mp z).2] at q; cases q
    unfold gW
    rw [m, m]
    rcases hw with rfl | rfl
    · rw [decide_eq_false (show ¬ ("both" : Str) = "any" by decide), decide_eq_false (show ¬ ("both" : Str) = "kind" by decide), decide_eq_false (show ¬ ("both" : Str) = "not" by decide), decide_eq_true (show ("both" : Str) = "both" from rfl), decide_eq_false (show ¬ ("both" : Str) = "either" by decide), if_pos rfl]; simp
    · rw [decide_eq_false (show ¬ ("either" : Str) = "any" by decide), decide_eq_false (show ¬ ("either" : Str) = "kind" by decide), decide_eq_false (show ¬ ("either" : Str) = "not" by decide), decide_eq_false (show ¬ ("either" : Str) = "both" by decide), decide_eq_true (show ("either" : Str) = "either" from rfl), if_neg (by decide)]; simp
def goW : List Str := ["down", "deep", "later"]
def stp (s : Str × Dv) : Dv := .tup [.str s.1, s.2]
structure En where
  look : Dv
  n : Int
  m : Int
  t : Int
def En.d (e : En) : Dv := .tup [e.look, .int e.n, .int e.m, .int e.t]
structure Ok (V : Nat → Int → Dv → Int → Prop) (e : En) : Prop where
  m1 : 1 ≤ e.m
  m40 : e.m ≤ 40
  t1 : 1 ≤ e.t
  t12 : e.t ≤ 12
  vv : V e.t.toNat e.m e.look e.n
theorem idx_e0 {S : Sto} (e : En) : idxD e.d (.int 0) S = .ok e.look S := idx_t0
theorem idx_e1 {S : Sto} (e : En) : idxD e.d (.int 1) S = .ok (.int e.n) S := idx_t1
theorem idx_e2 {S : Sto} (e : En) : idxD e.d (.int 2) S = .ok (.int e.m) S := idx_t2
theorem idx_e3 {S : Sto} (e : En) : idxD e.d (.int 3) S = .ok (.int e.t) S := idx_t3
theorem shl01 {S : Sto} {i j : Int} (hi : i = 0 ∨ i = 1) (h0 : 0 ≤ j) (h1 : j ≤ 1000) : shlD (.int i) (.int j) S = .ok (.int (i * 2 ^ j.toNat)) S := by
  have hb : ((Builtin.Int.intBits i : Nat) : Int) ≤ 1 := by rcases hi with rfl | rfl <;> decide
  simp only [shlD]
  rw [if_pos (show L2.CShl i j from ⟨h0, by omega⟩)]
theorem mem_cut {α : Type} {xs : List α} {lo hi : Option Int} {x : α} (h : x ∈ cutD xs lo hi) : x ∈ xs := by
  unfold cutD at h
  exact List.mem_of_mem_drop (List.mem_of_mem_take h)
theorem cut_map {α β : Type} (g : α → β) (xs : List α) (lo hi : Option Int) : cutD (xs.map g) lo hi = (cutD xs lo hi).map g := by
  unfold cutD; rw [List.length_map, ← List.map_drop, ← List.map_take]
theorem cut_len {α : Type} (xs : List α) (lo hi : Option Int) : (cutD xs lo hi).length ≤ xs.length := by
  unfold cutD; rw [List.length_take, List.length_drop]; omega
theorem cut_drop {α : Type} {xs : List α} {k : Nat} (h : k ≤ xs.length) : cutD xs (some (k : Int)) none = xs.drop k := by
  have e : HT.sIx xs.length 0 (some (k : Int)) = k := by unfold HT.sIx; simp only; split <;> omega
  unfold cutD
  rw [e, List.take_of_length_le]
  rw [List.length_drop]; unfold HT.sIx; simp only; omega
theorem sli_ref {S : Sto} {l : Nat} {xs : List Dv} (h : S[l]? = some (.lst xs)) (lo hi : Option Int) : sliD (.ref l) lo hi S = newL (cutD xs lo hi) S := by simp only [sliD, lst_ref h]
structure Reach (S : Sto) (lr : Nat) (MR : Str → List Int) : Prop where
  ex : ∃ kvs, S[lr]? = some (.dk kvs) ∧ ∀ go ∈ goW, ∃ (l : Nat), gat kvs (.inr go) = some (.ref l) ∧ S[l]? = some (.lst ((MR go).map .int)) ∧ (MR go).length ≤ 1000
theorem Reach.gr {S S' : Sto} {lr : Nat} {MR : Str → List Int} (h : Reach S lr MR) (g : Gr S S') : Reach S' lr MR := by
  obtain ⟨kvs, hk, hh⟩ := h.ex
  exact ⟨kvs, g.at hk, fun go hgo => let ⟨l, a, b, c⟩ := hh go hgo; ⟨l, a, g.at b, c⟩⟩
theorem Reach.get {S : Sto} {lr : Nat} {MR : Str → List Int} (h : Reach S lr MR) {go : Str} (hgo : go ∈ goW) : ∃ (l : Nat), idxD (.ref lr) (.str go) S = .ok (.ref l) S ∧ S[l]? = some (.lst ((MR go).map .int)) ∧ (MR go).length ≤ 1000 := by
  obtain ⟨kvs, hk, hh⟩ := h.ex
  obtain ⟨l, a, b, c⟩ := hh go hgo
  refine ⟨l, ?_, b, c⟩
  have : dget S (.ref lr) (.str go) = some (some (.ref l)) := by simp only [dget, hk, keyOf, Option.map_some, a]
  simp only [idxD, this]
theorem kinds_kds {t : Tr} : (plc t []).map (kindAt t) = kds t := by
  rw [← subs_kds t]
  apply List.ext_getElem?
  intro i
  rw [List.getElem?_map, List.getElem?_map]
  cases hp : (plc t [])[i]? with
  | none =>
    have : (subs t)[i]? = none := by
      rw [List.getElem?_eq_none_iff] at hp ⊢
      rw [plc_len] at hp; rw [subs_len]; exact hp
    rw [this]; rfl
  | some p =>
    have hl := (List.getElem?_eq_some_iff.mp hp).1
    rw [plc_len, ← subs_len] at hl
    have hs : (subs t)[i]? = some (subs t)[i] := List.getElem?_eq_getElem hl
    obtain ⟨w, e, hw⟩ := zip_plc t [] (p, (subs t)[i]) (List.mem_of_getElem? (i := i) (by rw [List.getElem?_zip_eq_some]; exact ⟨hp, hs⟩))
    have e' : p = w := e
    subst e'
    rw [hs]
    show some (kindAt t p) = some (kdT (subs t)[i])
    unfold kindAt
    rw [hw]
theorem zip_mem {α : Type} {P : List α} {x : α × Nat} (h : x ∈ P.zipIdx) : P[x.2]? = some x.1 := by
  have := List.mem_zipIdx_iff_getElem?.mp h
  simpa using this
theorem enum_pl (P : List (List Nat)) : enumL (P.map plD) = P.zipIdx.map fun x => .tup [.int ((x.2 : Nat) : Int), plD x.1] := by
  rw [enumL_zip, List.zipIdx_map, List.map_map]; rfl
theorem bit_at {P : List (List Nat)} {g : List Nat → Bool} {x : List Nat × Nat} (h : x ∈ P.zipIdx) {S : Sto} : (andD (.int (mkI (P.map g) / 2 ^ x.2)) (.int 1) S).bind (fun d S => eqD d (.int 1) S) = .ok (.bl (g x.1)) S := by
  rw [and1_int, Out.bind_ok, eq_int, bit_mk, getD_map, zip_mem h]
theorem eq_places {S : Sto} {a b : Nat} {P : List (List Nat)} (ha : S[a]? = some (.lst (P.map plD))) (hb : S[b]? = some (.lst (P.map plD))) : eqD (.ref a) (.ref b) S = .ok (.bl true) S := by
  obtain ⟨p1, p2⟩ := pl_toP ha
  obtain ⟨q1, _⟩ := pl_toP hb
  have e : PyData.eqv (.list (P.map plP)) (.list (P.map plP)) = true := by rw [PyData.eqv]; exact (pl_data P).2.2
  simp only [eqD, eqq, p1, q1, p2, and_self, ↓reduceIte, e]

theorem gone_in {t s : Tr} {go : Str} {p q : List Nat} (h : sub t p = some s) (hq : q ∈ goneL t go p) : q ∈ plc t [] := by
  unfold goneL at hq
  split at hq
  · rw [h] at hq
    have : q ∈ gDown s p := hq
    rw [← down_filter h] at this
    exact (List.mem_filter.mp this).1
  · split at hq
    · rw [h] at hq
      have : q ∈ gDeep s p := hq
      rw [← deep_filter h] at this
      exact (List.mem_filter.mp this).1
    · split at hq
      · cases hq
      · cases e : sub t p.dropLast with
        | none => rw [e] at hq; cases hq
        | some b =>
          rw [e] at hq
          have : q ∈ gLater b p.dropLast (p.getLastD 0) := hq
          rw [← later_filter e] at this
          exact (List.mem_filter.mp this).1
theorem goW_or {go : Str} (h : go ∈ goW) : go = "down" ∨ go = "deep" ∨ go = "later" := by
  simp only [goW, List.mem_cons, List.not_mem_nil, or_false] at h
  exact h
theorem dec_filt {P : List (List Nat)} {g : List Nat → Bool} {q : List Nat} (h : q ∈ P) : decide (q ∈ P.filter g) = g q := by
  cases e : g q with
  | true => exact decide_eq_true (List.mem_filter.mpr ⟨h, e⟩)
  | false => exact decide_eq_false fun z => by rw [(List.mem_filter.mp z).2] at e; cases e
def backG (t : Tr) (go : Str) (G g : List Nat → Bool) (p : List Nat) : Bool := (goneL t go p).any fun q => G q && g q
def wayG (t : Tr) (gE : En → List Nat → Bool) : List (Str × En) → List Nat → Bool
  | [] => fun _ => true
  | x :: r => backG t x.1 (wayG t gE r) (gE x.2)
def MRt (t : Tr) (go : Str) : List Int := (plc t []).map fun p => mkI ((plc t []).map fun q => decide (q ∈ goneL t go p))
open Classical in
noncomputable def gOf (t : Tr) (h : Nat) (e : En) : List Nat → Bool := if c : ∃ g, Hd t h e.look g ∧ e.n = mkI ((plc t []).map g) then c.choose else fun _ => false
theorem gOf_spec {t : Tr} {h : Nat} {e : En} (c : ∃ g, Hd t h e.look g ∧ e.n = mkI ((plc t []).map g)) : Hd t h e.look (gOf t h e) ∧ e.n = mkI ((plc t []).map (gOf t h e)) := by
  unfold gOf
  rw [dif_pos c]
  exact c.choose_spec
/-! the law's reach: where places stand among the rows -/
def Tail (t : Tr) (p : List Nat) (d : Nat) (w : List Nat) (PB : List (List Nat)) (B : List (Nat × Str)) : Prop :=
  (w = [] ∧ PB = [] ∧ B = []) ∨ ∃ (a : List Nat) (k : Nat) (b : Tr) (PB' : List (List Nat)) (B' : List (Nat × Str)), w = a ++ [k] ∧ sub t a = some b ∧ PB = plcs ((ptT b).drop (k + 1)) (p ++ a) (k + 1) ++ PB' ∧ B = flats ((ptT b).drop (k + 1)) (d + w.length) ++ B' ∧ PB'.length = B'.length ∧ (B' = [] ∨ ∃ x r, B' = x :: r ∧ x.1 < d + w.length)
theorem flats_head : ∀ (ts : List Tr) (d : Nat), flats ts d = [] ∨ ∃ x r, flats ts d = x :: r ∧ x.1 = d
  | [], d => .inl (by rw [flats])
  | .nd k ps :: ts, d => .inr ⟨(d, k), flats ps (d + 1) ++ flats ts d, by rw [flats, flat]; rfl, rfl⟩
mutual
theorem loc : ∀ (t : Tr) (p : List Nat) (d i : Nat), i < siz t → ∃ (w : List Nat) (s : Tr) (PB : List (List Nat)) (B : List (Nat × Str)), sub t w = some s ∧ (plc t p).drop i = plc s (p ++ w) ++ PB ∧ (flat t d).drop i = flat s (d + w.length) ++ B ∧ Tail t p d w PB B
  | .nd k ps, p, d, 0, h => ⟨[], .nd k ps, [], [], rfl, by rw [List.append_nil, List.append_nil]; rfl, by rw [List.append_nil]; rfl, .inl ⟨rfl, rfl, rfl⟩⟩
  | .nd k ps, p, d, i + 1, h => by
    rw [siz] at h
    obtain ⟨w, s, PB, B, _, h1, h2, h3, h4⟩ := locs ps k ps p d 0 i rfl (by omega)
    exact ⟨w, s, PB, B, h1, by rw [plc]; exact h2, by rw [flat]; exact h3, h4⟩
theorem locs : ∀ (ts : List Tr) (k0 : Str) (ps : List Tr) (p : List Nat) (d i0 i : Nat), ps.drop i0 = ts → i < sizs ts → ∃ (w : List Nat) (s : Tr) (PB : List (List Nat)) (B : List (Nat × Str)), w ≠ [] ∧ sub (.nd k0 ps) w = some s ∧ (plcs ts p i0).drop i = plc s (p ++ w) ++ PB ∧ (flats ts (d + 1)).drop i = flat s (d + w.length) ++ B ∧ Tail (.nd k0 ps) p d w PB B
  | [], k0, ps, p, d, i0, i, e, h => by rw [sizs] at h; omega
  | c :: ts, k0, ps, p, d, i0, i, e, h => by
    rw [sizs] at h
    have hc : ps[i0]? = some c := by
      have : (ps.drop i0)[0]? = some c := by rw [e]; rfl
      simpa using this
    have e2 : ps.drop (i0 + 1) = ts := by rw [← List.drop_drop, e]; rfl
    by_cases q : i < siz c
    · obtain ⟨w1, s, PB, B, h1, h2, h3, h4⟩ := loc c (p ++ [i0]) (d + 1) i q
      have hs : sub (.nd k0 ps) (i0 :: w1) = some s := by
        rw [sub]
        show (match ps[i0]? with | some c => sub c w1 | none => none) = _
        rw [hc]; exact h1
      have d2 : (plcs (c :: ts) p i0).drop i = plc s (p ++ i0 :: w1) ++ (PB ++ plcs ts p (i0 + 1)) := by
        rw [plcs, List.drop_append_of_le_length (by rw [plc_len]; omega), h2, List.append_assoc, List.append_assoc]; rfl
      have d3 : (flats (c :: ts) (d + 1)).drop i = flat s (d + (i0 :: w1).length) ++ (B ++ flats ts (d + 1)) := by
        rw [flats, List.drop_append_of_le_length (by rw [flat_len]; omega), h3, List.append_assoc, List.length_cons, show d + 1 + w1.length = d + (w1.length + 1) by omega]
      refine ⟨i0 :: w1, s, PB ++ plcs ts p (i0 + 1), B ++ flats ts (d + 1), by simp, hs, d2, d3, .inr ?_⟩
      rcases h4 with ⟨rfl, rfl, rfl⟩ | ⟨a, k, b, PB', B', rfl, hb, rfl, rfl, hl, hh⟩
      · refine ⟨[], i0, .nd k0 ps, [], [], rfl, rfl, ?_, ?_, rfl, .inl rfl⟩
        · show [] ++ _ = _
          rw [List.nil_append, List.append_nil, List.append_nil]
          show plcs ts p (i0 + 1) = plcs (ps.drop (i0 + 1)) p (i0 + 1)
          rw [e2]
        · show [] ++ _ = _
          rw [List.nil_append, List.append_nil]
          show flats ts (d + 1) = flats (ps.drop (i0 + 1)) (d + 1)
          rw [e2]
      · refine ⟨i0 :: a, k, b, PB' ++ plcs ts p (i0 + 1), B' ++ flats ts (d + 1), rfl, ?_, ?_, ?_, ?_, ?_⟩
        · rw [sub]
          show (match ps[i0]? with | some c => sub c a | none => none) = _
          rw [hc]; exact hb
        · rw [List.append_assoc, List.append_assoc]; rfl
        · rw [List.append_assoc, List.length_cons, show d + 1 + (a ++ [k]).length = d + ((a ++ [k]).length + 1) by omega]
        · rw [List.length_append, List.length_append, hl, plcs_len, flats_len]
        · rcases hh with rfl | ⟨x, r, rfl, hx⟩
          · rcases flats_head ts (d + 1) with e3 | ⟨x, r, e3, hx⟩
            · exact .inl (by rw [e3]; rfl)
            · refine .inr ⟨x, r, by rw [e3]; rfl, ?_⟩
              rw [hx, List.length_cons, List.length_append]; simp only [List.length_cons, List.length_nil]; omega
          · exact .inr ⟨x, r ++ flats ts (d + 1), rfl, by rw [List.length_cons]; omega⟩
    · obtain ⟨w, s, PB, B, h0, h1, h2, h3, h4⟩ := locs ts k0 ps p d (i0 + 1) (i - siz c) e2 (by omega)
      refine ⟨w, s, PB, B, h0, h1, ?_, ?_, h4⟩
      · rw [plcs, List.drop_append, List.drop_of_length_le (by rw [plc_len]; omega), List.nil_append, plc_len, h2]
      · rw [flats, List.drop_append, List.drop_of_length_le (by rw [flat_len]; omega), List.nil_append, flat_len, h3]
end
mutual
theorem plc_dep : ∀ (t : Tr) (p : List Nat), (plc t p).map List.length = (flat t p.length).map (·.1)
  | .nd k ps, p => by rw [plc, flat, List.map_cons, List.map_cons, plcs_dep ps p 0]
theorem plcs_dep : ∀ (ts : List Tr) (p : List Nat) (i : Nat), (plcs ts p i).map List.length = (flats ts (p.length + 1)).map (·.1)
  | [], p, i => by rw [plcs, flats]; rfl
  | t :: ts, p, i => by
    have := plc_dep t (p ++ [i])
    rw [List.length_append, show [i].length = 1 from rfl] at this
    rw [plcs, flats, List.map_append, List.map_append, plcs_dep ts, ← this]
end
mutual
theorem flat_ge : ∀ (t : Tr) (d : Nat) (x : Nat × Str), x ∈ flat t d → d ≤ x.1
  | .nd k ps, d, x, h => by
    rw [flat] at h
    rcases List.mem_cons.mp h with rfl | h
    · exact Nat.le_refl _
    · have := flats_ge ps (d + 1) x h; omega
theorem flats_ge : ∀ (ts : List Tr) (d : Nat) (x : Nat × Str), x ∈ flats ts d → d ≤ x.1
  | [], d, x, h => by rw [flats] at h; simp at h
  | t :: ts, d, x, h => by
    rw [flats] at h
    rcases List.mem_append.mp h with h | h
    · exact flat_ge t d x h
    · exact flats_ge ts d x h
end
/-- the bits of the rows behind a row of depth d: down, deep, later -/
def rch (d : Nat) : Bool → List (Nat × Str) → List (Bool × Bool × Bool)
  | _, [] => []
  | ins, x :: r => if x.1 < d then (x :: r).map fun _ => (false, false, false) else if x.1 = d then (false, false, true) :: rch d false r else (ins && decide (x.1 = d + 1), ins, false) :: rch d ins r
theorem rch_len (d : Nat) : ∀ (r : List (Nat × Str)) (ins : Bool), (rch d ins r).length = r.length
  | [], _ => rfl
  | x :: r, ins => by
    rw [rch]
    split
    · rw [List.length_map]
    · split
      · rw [List.length_cons, rch_len d r, List.length_cons]
      · rw [List.length_cons, rch_len d r, List.length_cons]
theorem rch_in (d : Nat) : ∀ (A Z : List (Nat × Str)), (∀ x ∈ A, d < x.1) → rch d true (A ++ Z) = A.map (fun x => (decide (x.1 = d + 1), true, false)) ++ rch d true Z
  | [], Z, _ => rfl
  | x :: A, Z, h => by
    have hx := h x List.mem_cons_self
    rw [List.cons_append, rch, if_neg (by omega), if_neg (by omega), rch_in d A Z fun y hy => h y (List.mem_cons_of_mem _ hy), List.map_cons, List.cons_append, Bool.true_and]
theorem rch_out (d : Nat) : ∀ (A Z : List (Nat × Str)), (∀ x ∈ A, d ≤ x.1) → rch d false (A ++ Z) = A.map (fun x => (false, false, decide (x.1 = d))) ++ rch d false Z
  | [], Z, _ => rfl
  | x :: A, Z, h => by
    have hx := h x List.mem_cons_self
    have ih := rch_out d A Z fun y hy => h y (List.mem_cons_of_mem _ hy)
    rw [List.cons_append, rch, if_neg (by omega), List.map_cons, List.cons_append]
    by_cases q : x.1 = d
    · rw [if_pos q, ih, decide_eq_true q]
    · rw [if_neg q, ih, decide_eq_false q, Bool.false_and]
theorem rch_end (d : Nat) (ins : Bool) (Z : List (Nat × Str)) (h : Z = [] ∨ ∃ x r, Z = x :: r ∧ x.1 < d) : rch d ins Z = Z.map fun _ => (false, false, false) := by
  rcases h with rfl | ⟨x, r, rfl, hx⟩
  · rfl
  · rw [rch, if_pos hx]
def sel3 (go : Str) (x : Bool × Bool × Bool) : Bool := if go = "down" then x.1 else if go = "deep" then x.2.1 else x.2.2
theorem map_ff {α : Type} (Z : List α) : Z.map (fun _ => ((false, false, false) : Bool × Bool × Bool)) = List.replicate Z.length (false, false, false) := List.map_const' ..
theorem reach_bits {t : Tr} {i : Nat} {go : Str} (hgo : go ∈ goW) (hi : i < siz t) : ∃ (p : List Nat) (k : Str), (plc t [])[i]? = some p ∧ (flat t 0)[i]? = some (p.length, k) ∧
    (List.replicate (i + 1) false ++ (rch p.length true ((flat t 0).drop (i + 1))).map (sel3 go)) = (plc t []).map fun q => decide (q ∈ goneL t go p) := by
  obtain ⟨w, s, PB, B, hs, hP, hR, hT⟩ := loc t [] 0 i hi
  obtain ⟨k, ps⟩ := s
  rw [List.nil_append, plc, List.cons_append] at hP
  rw [Nat.zero_add, flat, List.cons_append] at hR
  have hp0 : (plc t [])[i]? = some w := by
    have : ((plc t []).drop i)[0]? = some w := by rw [hP]; rfl
    simpa using this
  have hr0 : (flat t 0)[i]? = some (w.length, k) := by
    have : ((flat t 0).drop i)[0]? = some (w.length, k) := by rw [hR]; rfl
    simpa using this
  have hP1 : (plc t []).drop (i + 1) = plcs ps w 0 ++ PB := by rw [← List.drop_drop, hP]; rfl
  have hR1 : (flat t 0).drop (i + 1) = flats ps (w.length + 1) ++ B := by rw [← List.drop_drop, hR]; rfl
  refine ⟨w, k, hp0, hr0, ?_⟩
  have hsplit : plc t [] = (plc t []).take (i + 1) ++ (plcs ps w 0 ++ PB) := by rw [← hP1, List.take_append_drop]
  have nd := plc_nodup t []
  have tl : ((plc t []).take (i + 1)).length = i + 1 := by rw [List.length_take, plc_len]; omega
  rw [hR1, rch_in _ _ _ fun x hx => by have := flats_ge ps _ x hx; omega]
  -- what is gone to stands in these
  have hgd : ∀ q, q ∈ gDown (.nd k ps) w ↔ q ∈ plcs ps w 0 ∧ q.length = w.length + 1 := fun q => by
    have e := down_plcs ps w 0
    have e2 : gDown (.nd k ps) w = (plcs ps w 0).filter fun q => decide (q.length = w.length + 1) := by
      rw [e]
      unfold gDown
      refine List.map_congr_left fun j _ => ?_
      rw [Nat.zero_add]
    rw [e2, List.mem_filter, decide_eq_true_eq]
  have dep : ∀ (f : Nat → Bool × Bool × Bool), (flats ps (w.length + 1)).map (fun x => f x.1) = (plcs ps w 0).map fun q => f q.length := fun f => by
    have e := plcs_dep ps w 0
    have e1 : (flats ps (w.length + 1)).map (fun x => f x.1) = ((flats ps (w.length + 1)).map (·.1)).map f := by rw [List.map_map]; rfl
    have e2 : ((plcs ps w 0).map fun q => f q.length) = ((plcs ps w 0).map List.length).map f := by rw [List.map_map]; rfl
    rw [e1, e2, e]
  rw [dep fun n => (decide (n = w.length + 1), true, false)]
  -- the rest
  have key : ∀ (rest : List (Bool × Bool × Bool)), rch w.length true B = rest → (rest.map (sel3 go)) = PB.map (fun q => decide (q ∈ goneL t go w)) →
      ((plc t []).take (i + 1)).map (fun q => decide (q ∈ goneL t go w)) = List.replicate (i + 1) false →
      (((plcs ps w 0).map fun q => (decide (q.length = w.length + 1), true, false)).map (sel3 go)) = (plcs ps w 0).map (fun q => decide (q ∈ goneL t go w)) →
      (List.replicate (i + 1) false ++ (((plcs ps w 0).map fun q => (decide (q.length = w.length + 1), true, false)) ++ rch w.length true B).map (sel3 go)) = (plc t []).map fun q => decide (q ∈ goneL t go w) := fun rest h1 h2 h3 h4 => by
    rw [h1, List.map_append, h2, h4, ← h3]
    conv => rhs; rw [hsplit]
    rw [List.map_append, List.map_append]
  have sib : ∃ (D2 PB' : List (List Nat)) (A2 B' : List (Nat × Str)), PB = D2 ++ PB' ∧ B = A2 ++ B' ∧ PB'.length = B'.length ∧ (B' = [] ∨ ∃ x r, B' = x :: r ∧ x.1 < w.length) ∧ D2.map List.length = A2.map (·.1) ∧ (A2 = [] ∨ ∃ x r, A2 = x :: r ∧ x.1 = w.length) ∧ (∀ x ∈ A2, w.length ≤ x.1) ∧ ∀ q, q ∈ goneL t "later" w ↔ q ∈ D2 ∧ q.length = w.length := by
    rcases hT with ⟨rfl, rfl, rfl⟩ | ⟨a, j, b, PB', B', rfl, hb, rfl, rfl, hl, hh⟩
    · refine ⟨[], [], [], [], rfl, rfl, rfl, .inl rfl, rfl, .inl rfl, by simp, fun q => ?_⟩
      unfold goneL
      rw [if_neg (by decide), if_neg (by decide), if_pos rfl]
      simp
    · rw [Nat.zero_add] at hh ⊢
      refine ⟨_, PB', _, B', rfl, rfl, hl, hh, ?_, ?_, fun x hx => flats_ge _ _ x hx, fun q => ?_⟩
      · have := plcs_dep ((ptT b).drop (j + 1)) ([] ++ a) (j + 1)
        rw [this, List.nil_append, List.length_append]; rfl
      · exact flats_head _ _
      · unfold goneL
        rw [if_neg (by decide), if_neg (by decide), if_neg (by simp), List.dropLast_concat, List.getLastD_concat, hb]
        show q ∈ gLater b a j ↔ _
        have e := down_plcs ((ptT b).drop (j + 1)) a (j + 1)
        have e2 : gLater b a j = (plcs ((ptT b).drop (j + 1)) a (j + 1)).filter fun q => decide (q.length = a.length + 1) := by
          rw [e, List.length_drop]; rfl
        rw [e2, List.mem_filter, decide_eq_true_eq, List.nil_append, List.length_append]; rfl
  obtain ⟨D2, PB', A2, B', ePB, eB, hl, hh, hD, hA, hAg, hlat⟩ := sib
  -- the rows of the brothers, and those behind them
  have hrest : rch w.length true B = A2.map (fun x => (false, false, decide (x.1 = w.length))) ++ B'.map fun _ => (false, false, false) := by
    rw [eB]
    rcases hA with rfl | ⟨x, r, rfl, hx⟩
    · rw [List.nil_append, rch_end _ _ _ hh]; rfl
    · rw [List.cons_append, rch, if_neg (by omega), if_pos hx, rch_out _ _ _ fun y hy => hAg y (List.mem_cons_of_mem _ hy), rch_end _ _ _ hh, List.map_cons, decide_eq_true hx]; rfl
  have hrest2 : A2.map (fun x => ((false, false, decide (x.1 = w.length)) : Bool × Bool × Bool)) = D2.map fun q => (false, false, decide (q.length = w.length)) := by
    have e1 : A2.map (fun x => ((false, false, decide (x.1 = w.length)) : Bool × Bool × Bool)) = (A2.map (·.1)).map fun n => (false, false, decide (n = w.length)) := by rw [List.map_map]; rfl
    have e2 : (D2.map fun q => ((false, false, decide (q.length = w.length)) : Bool × Bool × Bool)) = (D2.map List.length).map fun n => (false, false, decide (n = w.length)) := by rw [List.map_map]; rfl
    rw [e1, e2, hD]
  have hff : B'.map (fun _ => ((false, false, false) : Bool × Bool × Bool)) = PB'.map fun _ => (false, false, false) := by rw [map_ff, map_ff, hl]
  rw [hrest2, hff] at hrest
  -- no place twice
  have nd2 := nd
  rw [hsplit, ePB] at nd2
  have n1 := List.nodup_append.mp nd2
  have n2 := List.nodup_append.mp n1.2.1
  have n3 := List.nodup_append.mp n2.2.1
  have hfalse : ∀ (L : List (List Nat)), (∀ q ∈ L, q ∉ goneL t go w) → L.map (fun q => decide (q ∈ goneL t go w)) = List.replicate L.length false := fun L h => by
    rw [← List.map_const']
    exact List.map_congr_left fun q hq => decide_eq_false (h q hq)
  have hfalse2 : ∀ (L : List (List Nat)), (L.map fun _ => ((false, false, false) : Bool × Bool × Bool)).map (sel3 go) = List.replicate L.length false := fun L => by
    rw [List.map_map, ← List.map_const']
    refine List.map_congr_left fun q _ => ?_
    show sel3 go (false, false, false) = false
    unfold sel3
    split
    · rfl
    · split <;> rfl
  have hw : ∀ {g : Str}, g = "down" ∨ g = "deep" → ∀ q, q ∈ goneL t g w → q ∈ plcs ps w 0 := fun hg q hq => by
    unfold goneL at hq
    rcases hg with rfl | rfl
    · rw [if_pos rfl, hs] at hq
      exact ((hgd q).mp hq).1
    · rw [if_neg (by decide), if_pos rfl, hs] at hq
      exact hq
  rcases goW_or hgo with rfl | rfl | rfl
  · refine key _ hrest ?_ ?_ ?_
    · rw [ePB, List.map_append, List.map_append, hfalse2, List.map_map]
      congr 1
      · refine List.map_congr_left fun q hq => ?_
        have : q ∉ goneL t "down" w := fun z => n2.2.2 q (hw (.inl rfl) q z) q (List.mem_append_left _ hq) rfl
        rw [decide_eq_false this]; rfl
      · exact (hfalse PB' fun q hq z => n2.2.2 q (hw (.inl rfl) q z) q (List.mem_append_right _ hq) rfl).symm
    · rw [hfalse _ fun q hq z => n1.2.2 q hq q (List.mem_append_left _ (hw (.inl rfl) q z)) rfl, tl]
    · rw [List.map_map]
      refine List.map_congr_left fun q hq => ?_
      show decide (q.length = w.length + 1) = decide (q ∈ goneL t "down" w)
      refine decide_eq_decide.mpr ?_
      unfold goneL
      rw [if_pos rfl, hs]
      exact ⟨fun z => (hgd q).mpr ⟨hq, z⟩, fun z => ((hgd q).mp z).2⟩
  · refine key _ hrest ?_ ?_ ?_
    · rw [ePB, List.map_append, List.map_append, hfalse2, List.map_map]
      congr 1
      · refine List.map_congr_left fun q hq => ?_
        have : q ∉ goneL t "deep" w := fun z => n2.2.2 q (hw (.inr rfl) q z) q (List.mem_append_left _ hq) rfl
        rw [decide_eq_false this]; rfl
      · exact (hfalse PB' fun q hq z => n2.2.2 q (hw (.inr rfl) q z) q (List.mem_append_right _ hq) rfl).symm
    · rw [hfalse _ fun q hq z => n1.2.2 q hq q (List.mem_append_left _ (hw (.inr rfl) q z)) rfl, tl]
    · rw [List.map_map]
      refine List.map_congr_left fun q hq => ?_
      show true = decide (q ∈ goneL t "deep" w)
      refine (decide_eq_true ?_).symm
      unfold goneL
      rw [if_neg (by decide), if_pos rfl, hs]
      exact hq
  · refine key _ hrest ?_ ?_ ?_
    · rw [ePB, List.map_append, List.map_append, hfalse2, List.map_map]
      congr 1
      · refine List.map_congr_left fun q hq => ?_
        show decide (q.length = w.length) = decide (q ∈ goneL t "later" w)
        exact decide_eq_decide.mpr ⟨fun z => (hlat q).mpr ⟨hq, z⟩, fun z => ((hlat q).mp z).2⟩
      · exact (hfalse PB' fun q hq z => n3.2.2 q ((hlat q).mp z).1 q hq rfl).symm
    · rw [hfalse _ fun q hq z => n1.2.2 q hq q (List.mem_append_right _ (List.mem_append_left _ ((hlat q).mp z).1)) rfl, tl]
    · rw [List.map_map]
      refine List.map_congr_left fun q hq => ?_
      show false = decide (q ∈ goneL t "later" w)
      exact (decide_eq_false fun z => n2.2.2 q hq q (List.mem_append_left _ ((hlat q).mp z).1) rfl).symm
/-! the law's reach, run -/
def bitsD (a b c : Int) : List (L2.Key × Dv) := [(.inr "down", .int a), (.inr "deep", .int b), (.inr "later", .int c)]
def rchD (a b c : Nat) : List (L2.Key × Dv) := [(.inr "down", .ref a), (.inr "deep", .ref b), (.inr "later", .ref c)]
theorem idx_bits {S : Sto} {l : Nat} {a b c : Int} (h : S[l]? = some (.dk (bitsD a b c))) : idxD (.ref l) (.str "down") S = .ok (.int a) S ∧ idxD (.ref l) (.str "deep") S = .ok (.int b) S ∧ idxD (.ref l) (.str "later") S = .ok (.int c) S := by
  have e1 : dget S (.ref l) (.str "down") = some (some (.int a)) := by simp only [dget, h, keyOf, Option.map_some]; rfl
  have e2 : dget S (.ref l) (.str "deep") = some (some (.int b)) := by simp only [dget, h, keyOf, Option.map_some]; rfl
  have e3 : dget S (.ref l) (.str "later") = some (some (.int c)) := by simp only [dget, h, keyOf, Option.map_some]; rfl
  exact ⟨by simp only [idxD, e1], by simp only [idxD, e2], by simp only [idxD, e3]⟩
theorem idx_rch {S : Sto} {l : Nat} {a b c : Nat} (h : S[l]? = some (.fk (rchD a b c))) : idxD (.ref l) (.str "down") S = .ok (.ref a) S ∧ idxD (.ref l) (.str "deep") S = .ok (.ref b) S ∧ idxD (.ref l) (.str "later") S = .ok (.ref c) S := by
  have e1 : dget S (.ref l) (.str "down") = some (some (.ref a)) := by simp only [dget, h, keyOf, Option.map_some]; rfl
  have e2 : dget S (.ref l) (.str "deep") = some (some (.ref b)) := by simp only [dget, h, keyOf, Option.map_some]; rfl
  have e3 : dget S (.ref l) (.str "later") = some (some (.ref c)) := by simp only [dget, h, keyOf, Option.map_some]; rfl
  exact ⟨by simp only [idxD, e1], by simp only [idxD, e2], by simp only [idxD, e3]⟩
theorem put_bits {S : Sto} {l : Nat} {a b c : Int} (h : S[l]? = some (.dk (bitsD a b c))) (v : Int) : putD (.ref l) (.str "down") (.int v) S = some (S.set l (.dk (bitsD v b c))) ∧ putD (.ref l) (.str "deep") (.int v) S = some (S.set l (.dk (bitsD a v c))) ∧ putD (.ref l) (.str "later") (.int v) S = some (S.set l (.dk (bitsD a b v))) := by
  have hl : (bitsD a b c).length < sizeLine := by show 3 < 2 ^ 24; omega
  refine ⟨?_, ?_, ?_⟩ <;> (simp only [putD, dput, h, hl, ↓reduceIte, keyOf, Option.map_some]; rfl)
theorem mkN_false : ∀ (bs : List Bool) (n : Nat), mkN (bs ++ List.replicate n false) = mkN bs
  | bs, 0 => by rw [List.replicate_zero, List.append_nil]
  | bs, n + 1 => by rw [List.replicate_succ', ← List.append_assoc, mkN_snoc, if_neg (by decide), Nat.zero_mul, Nat.add_zero, mkN_false bs n]
theorem mk_snoc_f (bs : List Bool) : mkI (bs ++ [false]) = mkI bs := by
  show ((mkN _ : Nat) : Int) = ((mkN _ : Nat) : Int)
  rw [mkN_snoc, if_neg (by decide), Nat.zero_mul, Nat.add_zero]
theorem mk_snoc_t {bs : List Bool} {j : Nat} (h : bs.length = j) : Builtin.bitOr (mkI bs) (1 * 2 ^ j) = mkI (bs ++ [true]) := by
  have := or_snoc bs true
  rw [if_pos rfl, h] at this
  exact this
/-- the masks of some bits, told by what stands ahead of them -/
abbrev mA (i : Nat) (L : List (Bool × Bool × Bool)) : Int := mkI (List.replicate (i + 1) false ++ L.map (·.1))
abbrev mB (i : Nat) (L : List (Bool × Bool × Bool)) : Int := mkI (List.replicate (i + 1) false ++ L.map (·.2.1))
abbrev mC (i : Nat) (L : List (Bool × Bool × Bool)) : Int := mkI (List.replicate (i + 1) false ++ L.map (·.2.2))
abbrev ρR (lw lr i : Nat) (x : Nat × Str) (l4 : Nat) (v5 v6 v7 : Option Dv) : PL.Env := [some (.ref lw), some (.ref lr), some (.int (i : Int)), some (rowD x), some (.ref l4), v5, v6, v7]
theorem reach_inner {G : Fn → List Dv → Sto → Out Dv} {lw lr i l4 : Nat} {x0 : Nat × Str} {R : List (Nat × Str)} {v6 v7 : Option Dv} {S : Sto} (hR : S[lw]? = some (.lst (R.map rowD))) (hl : R.length ≤ 900) (h4 : S[l4]? = some (.dk (bitsD 0 0 0))) (hi : i < R.length) :
    ∃ (v5 u6 : Option Dv) (S' : Sto), loop Ck.tt.ok (.nm 6) (b_l_reach_1 G) (rangeL ((i : Int) + 1) (R.length : Int)) (ρR lw lr i x0 l4 (some (.bl true)) v6 v7) S = .fl (.nx (ρR lw lr i x0 l4 v5 u6 v7)) S' ∧ Fr (· = l4) S S' ∧ S'[l4]? = some (.dk (bitsD (mA i (rch x0.1 true (R.drop (i + 1)))) (mB i (rch x0.1 true (R.drop (i + 1)))) (mC i (rch x0.1 true (R.drop (i + 1)))))) := by
  have n4 : lw ≠ l4 := fun z => by rw [z, h4] at hR; cases hR
  generalize hL : rch x0.1 true (R.drop (i + 1)) = L
  have hLl : L.length = R.length - (i + 1) := by rw [← hL, rch_len, List.length_drop]
  have rl : (rangeL ((i : Int) + 1) (R.length : Int)).length = R.length - (i + 1) := by rw [rangeL_len]; omega
  have z0 : ∀ (f : Bool × Bool × Bool → Bool), mkI (List.replicate (i + 1) false ++ (([] : List (Bool × Bool × Bool)).map f)) = 0 := fun f => by
    rw [List.map_nil, List.append_nil]
    have := mkN_false [] (i + 1)
    rw [List.nil_append] at this
    show ((mkN _ : Nat) : Int) = 0
    rw [this]; rfl
  refine loop_gen (t := .nm 6) (b := b_l_reach_1 G) (fun m ρ S' => ∃ (ins : Bool) (u6 : Option Dv), ρ = ρR lw lr i x0 l4 (some (.bl ins)) u6 v7 ∧ Fr (· = l4) S S' ∧ S'[l4]? = some (.dk (bitsD (mA i (L.take m)) (mB i (L.take m)) (mC i (L.take m)))) ∧ L = L.take m ++ rch x0.1 ins (R.drop (i + 1 + m)))
    (fun o => ∃ (v5 u6 : Option Dv) (S' : Sto), o = .fl (.nx (ρR lw lr i x0 l4 v5 u6 v7)) S' ∧ Fr (· = l4) S S' ∧ S'[l4]? = some (.dk (bitsD (mA i L) (mB i L) (mC i L)))) (rangeL ((i : Int) + 1) (R.length : Int)) 0 (fun m d ρ S' hd ⟨ins, u6, hρ, f', h', hs⟩ => ?_) (fun ρ S' ⟨ins, u6, hρ, f', h', hs⟩ => ?_) _ S ⟨true, v6, rfl, .refl _, by rw [List.take_zero]; show _ = some (Ob.dk (bitsD (mkI _) (mkI _) (mkI _))); rw [z0, z0, z0]; exact h4, by rw [List.take_zero]; exact hL.symm⟩
  · rw [Nat.zero_add] at h' hs ⊢
    subst hρ
    obtain ⟨rfl, hlt⟩ := rangeL_get hd
    have hm : i + 1 + m < R.length := by omega
    have hx : R[i + 1 + m]? = some R[i + 1 + m] := List.getElem?_eq_getElem hm
    have hd1 : R.drop (i + 1 + m) = R[i + 1 + m] :: R.drop (i + 1 + m + 1) := List.drop_eq_getElem_cons hm
    generalize R[i + 1 + m] = x at hx hd1
    rw [hd1, rch] at hs
    have tkl : (L.take m).length = m := by rw [List.length_take]; omega
    have ej : ((i : Int) + 1 + (m : Int)) = ((i + 1 + m : Nat) : Int) := by omega
    have i1 : idxD (.ref lw) (.int ((i : Int) + 1 + (m : Int))) S' = .ok (rowD x) S' := by
      rw [ej]; exact idx_ref (f'.get lw _ hR (by show lw ≠ l4; exact n4)) (atI_nat (by rw [List.getElem?_map, hx]; rfl))
    have i2 : idxD (rowD x) (.int 0) S' = .ok (.int (x.1 : Int)) S' := idx_t0
    have i3 : idxD (rowD x0) (.int 0) S' = .ok (.int (x0.1 : Int)) S' := idx_t0
    obtain ⟨ba, bb, bc⟩ := idx_bits h'
    have sh : ∀ S, shlD (.int 1) (.int ((i : Int) + 1 + (m : Int))) S = .ok (.int (1 * 2 ^ (i + 1 + m))) S := fun S => by
      have := shl01 (S := S) (i := 1) (j := ((i + 1 + m : Nat) : Int)) (.inr rfl) (by omega) (by omega)
      rw [Int.toNat_natCast] at this
      rw [ej]; exact this
    have bl : ∀ f : Bool × Bool × Bool → Bool, (List.replicate (i + 1) false ++ (L.take m).map f).length = i + 1 + m := fun f => by
      rw [List.length_append, List.length_replicate, List.length_map, tkl]
    have take_of : ∀ (y : Bool × Bool × Bool) (z : List (Bool × Bool × Bool)), L = L.take m ++ y :: z → L.take (m + 1) = L.take m ++ [y] := fun y z e => by
      have : L[m]? = some y := by
        rw [e, List.getElem?_append_right (by omega), tkl, Nat.sub_self]; rfl
      rw [List.take_add_one, this]; rfl
    have app : ∀ (f : Bool × Bool × Bool → Bool) (y : Bool × Bool × Bool), mkI (List.replicate (i + 1) false ++ (L.take m ++ [y]).map f) = mkI ((List.replicate (i + 1) false ++ (L.take m).map f) ++ [f y]) := fun f y => by
      rw [List.map_append, List.append_assoc]; rfl
    refine ⟨trivial, _, rfl, ?_⟩
    by_cases q1 : x.1 < x0.1
    · rw [if_pos q1] at hs
      refine .inr (.inl ⟨_, S', ?_, some (.bl ins), some (.int ((i : Int) + 1 + (m : Int))), S', rfl, f', ?_⟩)
      · unfold b_l_reach_1
        simp only [ev_seq, ev_cif, ev_var, ev_con, ev_bin, ev_un, ev_anil, ev_acons, ev_call, ev_tup, ev_lst, ev_not, ev_and, ev_or, ev_if, ev_cbl, ev_btrue, ev_cand, ev_cor, ev_cnot, ev_sli, ev_onone, ev_osome, ev_chain, ev_meth, ev_get2, ev_newK, ev_newT, ev_own, ev_nil, ev_seq, ev_expr, ev_set, ev_ret, ev_retN, ev_cif, ev_brk, ev_ct, ev_asg, ev_put, ev_aug, ev_for, ev_comp, ev_newL, ev_iseq, ev_irange, ev_ienum, ev_yes, Out.bind_ok, Out.bindN_ok, bindS_ok, Tg.set, Tg.sets, List.getElem?_cons_zero, List.getElem?_cons_succ, List.set_cons_zero, List.set_cons_succ, wipeE, List.length_cons, List.length_nil, Nat.reduceAdd, Nat.reduceLeDiff, Nat.reduceEqDiff, ↓reduceIte, Bool.false_eq_true, decide_eq_true_eq, add_int, sub_int, lt_int, gt_int, le_int, ge_int, neg_int, and_int, or_int, xor_int, max2_int, min2_int, mod_pos, fdiv_sm, mul_sm, mul_smr, Int.reduceLT, Int.reduceNeg, int_bl, int_int, sli_tup, i1, i2, i3, Int.ofNat_lt, q1, decide_true]
      · have fz : ∀ f : Bool × Bool × Bool → Bool, f (false, false, false) = false → mkI (List.replicate (i + 1) false ++ L.map f) = mkI (List.replicate (i + 1) false ++ (L.take m).map f) := fun f hf => by
          conv => lhs; rw [hs]
          rw [List.map_append, List.map_map, ← List.append_assoc]
          have : ((x :: R.drop (i + 1 + m + 1)).map (f ∘ fun _ => (false, false, false))) = List.replicate (x :: R.drop (i + 1 + m + 1)).length false := by
            rw [← List.map_const']
            exact List.map_congr_left fun _ _ => hf
          rw [this]
          show ((mkN _ : Nat) : Int) = ((mkN _ : Nat) : Int)
          rw [mkN_false]
        show _ = some (Ob.dk (bitsD (mkI _) (mkI _) (mkI _)))
        rw [fz (·.1) rfl, fz (·.2.1) rfl, fz (·.2.2) rfl]; exact h'
    · rw [if_neg q1] at hs
      by_cases q2 : x.1 = x0.1
      · rw [if_pos q2] at hs
        have tk := take_of _ _ hs
        have pb := (put_bits h' (mkI ((List.replicate (i + 1) false ++ (L.take m).map (·.2.2)) ++ [true]))).2.2
        refine .inl ⟨ρR lw lr i x0 l4 (some (.bl false)) (some (.int ((i : Int) + 1 + (m : Int)))) v7, _, .inl ?_, false, _, rfl, f'.trans (fr_set S' l4 (.dk (bitsD (mA i (L.take m)) (mB i (L.take m)) (mkI ((List.replicate (i + 1) false ++ (L.take m).map (·.2.2)) ++ [true]))))), ?_, ?_⟩
        · unfold b_l_reach_1
          refine (seq_of ((if_f (S' := S') (by simp only [ev_var, ev_con, ev_bin, ev_un, ev_anil, ev_acons, ev_call, ev_tup, ev_lst, ev_not, ev_and, ev_or, ev_if, ev_cbl, ev_btrue, ev_cand, ev_cor, ev_cnot, ev_sli, ev_onone, ev_osome, ev_chain, ev_meth, ev_get2, ev_newK, ev_newT, ev_own, ev_nil, ev_seq, ev_expr, ev_set, ev_ret, ev_retN, ev_cif, ev_brk, ev_ct, ev_asg, ev_put, ev_aug, ev_for, ev_comp, ev_newL, ev_iseq, ev_irange, ev_ienum, ev_yes, Out.bind_ok, Out.bindN_ok, bindS_ok, Tg.set, Tg.sets, List.getElem?_cons_zero, List.getElem?_cons_succ, List.set_cons_zero, List.set_cons_succ, wipeE, List.length_cons, List.length_nil, Nat.reduceAdd, Nat.reduceLeDiff, Nat.reduceEqDiff, ↓reduceIte, Bool.false_eq_true, decide_eq_true_eq, add_int, sub_int, lt_int, gt_int, le_int, ge_int, neg_int, and_int, or_int, xor_int, max2_int, min2_int, mod_pos, fdiv_sm, mul_sm, mul_smr, Int.reduceLT, Int.reduceNeg, int_bl, int_int, sli_tup, i1, i2, i3, Int.ofNat_lt, q1, decide_false])).trans rfl)).trans ?_
          have eq : eqD (.int (x.1 : Int)) (.int (x0.1 : Int)) S' = .ok (.bl true) S' := by rw [eq_int, q2, decide_eq_true rfl]
          refine (if_t (S' := S') (by simp only [ev_var, ev_con, ev_bin, ev_un, ev_anil, ev_acons, ev_call, ev_tup, ev_lst, ev_not, ev_and, ev_or, ev_if, ev_cbl, ev_btrue, ev_cand, ev_cor, ev_cnot, ev_sli, ev_onone, ev_osome, ev_chain, ev_meth, ev_get2, ev_newK, ev_newT, ev_own, ev_nil, ev_seq, ev_expr, ev_set, ev_ret, ev_retN, ev_cif, ev_brk, ev_ct, ev_asg, ev_put, ev_aug, ev_for, ev_comp, ev_newL, ev_iseq, ev_irange, ev_ienum, ev_yes, Out.bind_ok, Out.bindN_ok, bindS_ok, Tg.set, Tg.sets, List.getElem?_cons_zero, List.getElem?_cons_succ, List.set_cons_zero, List.set_cons_succ, wipeE, List.length_cons, List.length_nil, Nat.reduceAdd, Nat.reduceLeDiff, Nat.reduceEqDiff, ↓reduceIte, Bool.false_eq_true, decide_eq_true_eq, add_int, sub_int, lt_int, gt_int, le_int, ge_int, neg_int, and_int, or_int, xor_int, max2_int, min2_int, mod_pos, fdiv_sm, mul_sm, mul_smr, Int.reduceLT, Int.reduceNeg, int_bl, int_int, sli_tup, i1, i2, i3, eq])).trans ?_
          refine (seq_of (set_of (d := .bl false) (S' := S') rfl)).trans ?_
          simp only [ev_put, ev_bin, ev_var, ev_con, bindS_ok, Out.bind_ok, List.getElem?_cons_zero, List.getElem?_cons_succ, List.set_cons_zero, List.set_cons_succ, bc, sh, or_int, mk_snoc_t (bl (·.2.2)), pb]
        · rw [at_set h', tk]
          show _ = some (Ob.dk (bitsD (mkI _) (mkI _) (mkI _)))
          rw [app (·.1), app (·.2.1), app (·.2.2)]
          show _ = some (Ob.dk (bitsD (mkI (_ ++ [false])) (mkI (_ ++ [false])) (mkI (_ ++ [true]))))
          rw [mk_snoc_f, mk_snoc_f]
        · rw [tk, List.append_assoc]; exact hs
      · rw [if_neg q2] at hs
        have tk := take_of _ _ hs
        have eq : eqD (.int (x.1 : Int)) (.int (x0.1 : Int)) S' = .ok (.bl false) S' := by rw [eq_int]; exact congrArg (fun b => Out.ok (Dv.bl b) S') (decide_eq_false (by omega))
        have st : ∀ {o : OutS}, (cIf (cBl (eVar 5)) (cSeq (cPut (eVar 4) (eCon (.str "deep")) (eBin orD (eBin idxD (eVar 4) (eCon (.str "deep"))) (eBin shlD (eCon (.int 1)) (eVar 6)))) (cIf (cBl (eBin eqD (eBin idxD (eBin idxD (eVar 0) (eVar 6)) (eCon (.int 0))) (eBin addD (eBin idxD (eVar 3) (eCon (.int 0))) (eCon (.int 1))))) (cPut (eVar 4) (eCon (.str "down")) (eBin orD (eBin idxD (eVar 4) (eCon (.str "down"))) (eBin shlD (eCon (.int 1)) (eVar 6)))) (cNil))) (cNil)) (ρR lw lr i x0 l4 (some (.bl ins)) (some (.int ((i : Int) + 1 + (m : Int)))) v7) S' = o → b_l_reach_1 G (ρR lw lr i x0 l4 (some (.bl ins)) (some (.int ((i : Int) + 1 + (m : Int)))) v7) S' = o := fun {o} hb => by
          unfold b_l_reach_1
          refine (seq_of ((if_f (S' := S') (by simp only [ev_var, ev_con, ev_bin, ev_un, ev_anil, ev_acons, ev_call, ev_tup, ev_lst, ev_not, ev_and, ev_or, ev_if, ev_cbl, ev_btrue, ev_cand, ev_cor, ev_cnot, ev_sli, ev_onone, ev_osome, ev_chain, ev_meth, ev_get2, ev_newK, ev_newT, ev_own, ev_nil, ev_seq, ev_expr, ev_set, ev_ret, ev_retN, ev_cif, ev_brk, ev_ct, ev_asg, ev_put, ev_aug, ev_for, ev_comp, ev_newL, ev_iseq, ev_irange, ev_ienum, ev_yes, Out.bind_ok, Out.bindN_ok, bindS_ok, Tg.set, Tg.sets, List.getElem?_cons_zero, List.getElem?_cons_succ, List.set_cons_zero, List.set_cons_succ, wipeE, List.length_cons, List.length_nil, Nat.reduceAdd, Nat.reduceLeDiff, Nat.reduceEqDiff, ↓reduceIte, Bool.false_eq_true, decide_eq_true_eq, add_int, sub_int, lt_int, gt_int, le_int, ge_int, neg_int, and_int, or_int, xor_int, max2_int, min2_int, mod_pos, fdiv_sm, mul_sm, mul_smr, Int.reduceLT, Int.reduceNeg, int_bl, int_int, sli_tup, i1, i2, i3, Int.ofNat_lt, q1, decide_false])).trans rfl)).trans ?_
          exact (if_f (S' := S') (by simp only [ev_var, ev_con, ev_bin, ev_un, ev_anil, ev_acons, ev_call, ev_tup, ev_lst, ev_not, ev_and, ev_or, ev_if, ev_cbl, ev_btrue, ev_cand, ev_cor, ev_cnot, ev_sli, ev_onone, ev_osome, ev_chain, ev_meth, ev_get2, ev_newK, ev_newT, ev_own, ev_nil, ev_seq, ev_expr, ev_set, ev_ret, ev_retN, ev_cif, ev_brk, ev_ct, ev_asg, ev_put, ev_aug, ev_for, ev_comp, ev_newL, ev_iseq, ev_irange, ev_ienum, ev_yes, Out.bind_ok, Out.bindN_ok, bindS_ok, Tg.set, Tg.sets, List.getElem?_cons_zero, List.getElem?_cons_succ, List.set_cons_zero, List.set_cons_succ, wipeE, List.length_cons, List.length_nil, Nat.reduceAdd, Nat.reduceLeDiff, Nat.reduceEqDiff, ↓reduceIte, Bool.false_eq_true, decide_eq_true_eq, add_int, sub_int, lt_int, gt_int, le_int, ge_int, neg_int, and_int, or_int, xor_int, max2_int, min2_int, mod_pos, fdiv_sm, mul_sm, mul_smr, Int.reduceLT, Int.reduceNeg, int_bl, int_int, sli_tup, i1, i2, i3, eq])).trans hb
        cases ins with
        | false =>
          refine .inl ⟨ρR lw lr i x0 l4 (some (.bl false)) (some (.int ((i : Int) + 1 + (m : Int)))) v7, S', .inl (st ((if_f (S' := S') (by simp only [ev_var, ev_con, ev_bin, ev_un, ev_anil, ev_acons, ev_call, ev_tup, ev_lst, ev_not, ev_and, ev_or, ev_if, ev_cbl, ev_btrue, ev_cand, ev_cor, ev_cnot, ev_sli, ev_onone, ev_osome, ev_chain, ev_meth, ev_get2, ev_newK, ev_newT, ev_own, ev_nil, ev_seq, ev_expr, ev_set, ev_ret, ev_retN, ev_cif, ev_brk, ev_ct, ev_asg, ev_put, ev_aug, ev_for, ev_comp, ev_newL, ev_iseq, ev_irange, ev_ienum, ev_yes, Out.bind_ok, Out.bindN_ok, bindS_ok, Tg.set, Tg.sets, List.getElem?_cons_zero, List.getElem?_cons_succ, List.set_cons_zero, List.set_cons_succ, wipeE, List.length_cons, List.length_nil, Nat.reduceAdd, Nat.reduceLeDiff, Nat.reduceEqDiff, ↓reduceIte, Bool.false_eq_true, decide_eq_true_eq, add_int, sub_int, lt_int, gt_int, le_int, ge_int, neg_int, and_int, or_int, xor_int, max2_int, min2_int, mod_pos, fdiv_sm, mul_sm, mul_smr, Int.reduceLT, Int.reduceNeg, int_bl, int_int, sli_tup])).trans rfl)), false, _, rfl, f', ?_, ?_⟩
          · rw [tk, Bool.false_and]
            show _ = some (Ob.dk (bitsD (mkI _) (mkI _) (mkI _)))
            rw [app (·.1), app (·.2.1), app (·.2.2)]
            show _ = some (Ob.dk (bitsD (mkI (_ ++ [false])) (mkI (_ ++ [false])) (mkI (_ ++ [false]))))
            rw [mk_snoc_f, mk_snoc_f, mk_snoc_f]; exact h'
          · rw [tk, List.append_assoc]; exact hs
        | true =>
          have pb := (put_bits h' (mkI ((List.replicate (i + 1) false ++ (L.take m).map (·.2.1)) ++ [true]))).2.1
          have f1 := fr_set S' l4 (.dk (bitsD (mA i (L.take m)) (mkI ((List.replicate (i + 1) false ++ (L.take m).map (·.2.1)) ++ [true])) (mC i (L.take m))))
          have h1 := at_set (o := .dk (bitsD (mA i (L.take m)) (mkI ((List.replicate (i + 1) false ++ (L.take m).map (·.2.1)) ++ [true])) (mC i (L.take m)))) h'
          generalize S'.set l4 (.dk (bitsD (mA i (L.take m)) (mkI ((List.replicate (i + 1) false ++ (L.take m).map (·.2.1)) ++ [true])) (mC i (L.take m)))) = S1 at pb f1 h1
          have i1' : idxD (.ref lw) (.int ((i : Int) + 1 + (m : Int))) S1 = .ok (rowD x) S1 := by
            rw [ej]; exact idx_ref (f1.get lw _ (f'.get lw _ hR (by show lw ≠ l4; exact n4)) (by show lw ≠ l4; exact n4)) (atI_nat (by rw [List.getElem?_map, hx]; rfl))
          have i2' : idxD (rowD x) (.int 0) S1 = .ok (.int (x.1 : Int)) S1 := idx_t0
          have i3' : idxD (rowD x0) (.int 0) S1 = .ok (.int (x0.1 : Int)) S1 := idx_t0
          obtain ⟨ba', _, _⟩ := idx_bits h1
          have eq2 : eqD (.int (x.1 : Int)) (.int ((x0.1 : Int) + 1)) S1 = .ok (.bl (decide (x.1 = x0.1 + 1))) S1 := by rw [eq_int]; exact congrArg (fun b => Out.ok (Dv.bl b) S1) (decide_eq_decide.mpr (by omega))
          have st2 : ∀ {o : OutS}, (cIf (cBl (eBin eqD (eBin idxD (eBin idxD (eVar 0) (eVar 6)) (eCon (.int 0))) (eBin addD (eBin idxD (eVar 3) (eCon (.int 0))) (eCon (.int 1))))) (cPut (eVar 4) (eCon (.str "down")) (eBin orD (eBin idxD (eVar 4) (eCon (.str "down"))) (eBin shlD (eCon (.int 1)) (eVar 6)))) (cNil)) (ρR lw lr i x0 l4 (some (.bl true)) (some (.int ((i : Int) + 1 + (m : Int)))) v7) S1 = o → b_l_reach_1 G (ρR lw lr i x0 l4 (some (.bl true)) (some (.int ((i : Int) + 1 + (m : Int)))) v7) S' = o := fun {o} hb => by
            refine st ((if_t (S' := S') (by simp only [ev_var, ev_con, ev_bin, ev_un, ev_anil, ev_acons, ev_call, ev_tup, ev_lst, ev_not, ev_and, ev_or, ev_if, ev_cbl, ev_btrue, ev_cand, ev_cor, ev_cnot, ev_sli, ev_onone, ev_osome, ev_chain, ev_meth, ev_get2, ev_newK, ev_newT, ev_own, ev_nil, ev_seq, ev_expr, ev_set, ev_ret, ev_retN, ev_cif, ev_brk, ev_ct, ev_asg, ev_put, ev_aug, ev_for, ev_comp, ev_newL, ev_iseq, ev_irange, ev_ienum, ev_yes, Out.bind_ok, Out.bindN_ok, bindS_ok, Tg.set, Tg.sets, List.getElem?_cons_zero, List.getElem?_cons_succ, List.set_cons_zero, List.set_cons_succ, wipeE, List.length_cons, List.length_nil, Nat.reduceAdd, Nat.reduceLeDiff, Nat.reduceEqDiff, ↓reduceIte, Bool.false_eq_true, decide_eq_true_eq, add_int, sub_int, lt_int, gt_int, le_int, ge_int, neg_int, and_int, or_int, xor_int, max2_int, min2_int, mod_pos, fdiv_sm, mul_sm, mul_smr, Int.reduceLT, Int.reduceNeg, int_bl, int_int, sli_tup])).trans ?_)
            refine (seq_of ?_).trans hb
            simp only [ev_put, ev_bin, ev_var, ev_con, bindS_ok, Out.bind_ok, List.getElem?_cons_zero, List.getElem?_cons_succ, List.set_cons_zero, List.set_cons_succ, bb, sh, or_int, mk_snoc_t (bl (·.2.1)), pb]
          by_cases q3 : x.1 = x0.1 + 1
          · rw [decide_eq_true q3] at eq2 tk hs
            have pb2 := (put_bits h1 (mkI ((List.replicate (i + 1) false ++ (L.take m).map (·.1)) ++ [true]))).1
            refine .inl ⟨ρR lw lr i x0 l4 (some (.bl true)) (some (.int ((i : Int) + 1 + (m : Int)))) v7, _, .inl (st2 ((if_t (S' := S1) (by simp only [ev_var, ev_con, ev_bin, ev_un, ev_anil, ev_acons, ev_call, ev_tup, ev_lst, ev_not, ev_and, ev_or, ev_if, ev_cbl, ev_btrue, ev_cand, ev_cor, ev_cnot, ev_sli, ev_onone, ev_osome, ev_chain, ev_meth, ev_get2, ev_newK, ev_newT, ev_own, ev_nil, ev_seq, ev_expr, ev_set, ev_ret, ev_retN, ev_cif, ev_brk, ev_ct, ev_asg, ev_put, ev_aug, ev_for, ev_comp, ev_newL, ev_iseq, ev_irange, ev_ienum, ev_yes, Out.bind_ok, Out.bindN_ok, bindS_ok, Tg.set, Tg.sets, List.getElem?_cons_zero, List.getElem?_cons_succ, List.set_cons_zero, List.set_cons_succ, wipeE, List.length_cons, List.length_nil, Nat.reduceAdd, Nat.reduceLeDiff, Nat.reduceEqDiff, ↓reduceIte, Bool.false_eq_true, decide_eq_true_eq, add_int, sub_int, lt_int, gt_int, le_int, ge_int, neg_int, and_int, or_int, xor_int, max2_int, min2_int, mod_pos, fdiv_sm, mul_sm, mul_smr, Int.reduceLT, Int.reduceNeg, int_bl, int_int, sli_tup, i1', i2', i3', eq2])).trans ?_)), true, _, rfl, (f'.trans f1).trans (fr_set S1 l4 (.dk (bitsD (mkI ((List.replicate (i + 1) false ++ (L.take m).map (·.1)) ++ [true])) (mkI ((List.replicate (i + 1) false ++ (L.take m).map (·.2.1)) ++ [true])) (mC i (L.take m))))), ?_, ?_⟩
            · simp only [ev_put, ev_bin, ev_var, ev_con, bindS_ok, Out.bind_ok, List.getElem?_cons_zero, List.getElem?_cons_succ, List.set_cons_zero, List.set_cons_succ, ba', sh, or_int, mk_snoc_t (bl (·.1)), pb2]
            · rw [at_set h1, tk]
              show _ = some (Ob.dk (bitsD (mkI _) (mkI _) (mkI _)))
              rw [app (·.1), app (·.2.1), app (·.2.2)]
              show _ = some (Ob.dk (bitsD (mkI (_ ++ [true])) (mkI (_ ++ [true])) (mkI (_ ++ [false]))))
              rw [mk_snoc_f]
            · rw [tk, List.append_assoc]; exact hs
          · rw [decide_eq_false q3] at eq2 tk hs
            refine .inl ⟨ρR lw lr i x0 l4 (some (.bl true)) (some (.int ((i : Int) + 1 + (m : Int)))) v7, S1, .inl (st2 ((if_f (S' := S1) (by simp only [ev_var, ev_con, ev_bin, ev_un, ev_anil, ev_acons, ev_call, ev_tup, ev_lst, ev_not, ev_and, ev_or, ev_if, ev_cbl, ev_btrue, ev_cand, ev_cor, ev_cnot, ev_sli, ev_onone, ev_osome, ev_chain, ev_meth, ev_get2, ev_newK, ev_newT, ev_own, ev_nil, ev_seq, ev_expr, ev_set, ev_ret, ev_retN, ev_cif, ev_brk, ev_ct, ev_asg, ev_put, ev_aug, ev_for, ev_comp, ev_newL, ev_iseq, ev_irange, ev_ienum, ev_yes, Out.bind_ok, Out.bindN_ok, bindS_ok, Tg.set, Tg.sets, List.getElem?_cons_zero, List.getElem?_cons_succ, List.set_cons_zero, List.set_cons_succ, wipeE, List.length_cons, List.length_nil, Nat.reduceAdd, Nat.reduceLeDiff, Nat.reduceEqDiff, ↓reduceIte, Bool.false_eq_true, decide_eq_true_eq, add_int, sub_int, lt_int, gt_int, le_int, ge_int, neg_int, and_int, or_int, xor_int, max2_int, min2_int, mod_pos, fdiv_sm, mul_sm, mul_smr, Int.reduceLT, Int.reduceNeg, int_bl, int_int, sli_tup, i1', i2', i3', eq2])).trans rfl)), true, _, rfl, f'.trans f1, ?_, ?_⟩
            · rw [h1, tk]
              show _ = some (Ob.dk (bitsD (mkI _) (mkI _) (mkI _)))
              rw [app (·.1), app (·.2.1), app (·.2.2)]
              show _ = some (Ob.dk (bitsD (mkI (_ ++ [false])) (mkI (_ ++ [true])) (mkI (_ ++ [false]))))
              rw [mk_snoc_f, mk_snoc_f]
            · rw [tk, List.append_assoc]; exact hs
  · subst hρ
    refine ⟨trivial, some (.bl ins), u6, S', rfl, f', ?_⟩
    rw [Nat.zero_add, rl, List.take_of_length_le (by omega)] at h'
    exact h'
theorem reach_all {f lw : Nat} {R : List (Nat × Str)} {t : Tr} {S : Sto} (hR : S[lw]? = some (.lst (R.map rowD))) (ef : R = flat t 0) (hz : siz t ≤ 900) : ∃ (lr : Nat) (S' : Sto), F (f + 1) .l_reach [.ref lw] S = .ok (.ref lr) S' ∧ Gr S S' ∧ Reach S' lr (MRt t) := by
  rw [F_l_reach]
  have hRl : R.length = siz t := by rw [ef, flat_len]
  have hPl : (plc t []).length = siz t := plc_len t []
  have hMl : ∀ go, (MRt t go).length = siz t := fun go => by unfold MRt; rw [List.length_map, hPl]
  have g0 := gr_app S [Ob.dk []]
  have a0 := at_new S (.dk [])
  generalize hT0 : S ++ [Ob.dk []] = T0 at g0 a0
  have g1 := gr_app T0 [Ob.lst []]
  have a1 := at_new T0 (.lst [])
  generalize hT1 : T0 ++ [Ob.lst []] = T1 at g1 a1
  have g2 := gr_app T1 [Ob.lst []]
  have a2 := at_new T1 (.lst [])
  generalize hT2 : T1 ++ [Ob.lst []] = T2 at g2 a2
  have g3 := gr_app T2 [Ob.lst []]
  have a3 := at_new T2 (.lst [])
  generalize hT3 : T2 ++ [Ob.lst []] = T3 at g3 a3
  have b0 := g3.at (g2.at (g1.at a0))
  have b1 := g3.at (g2.at a1)
  have b2 := g3.at a2
  have f4 := fr_set T3 S.length (.dk (rchD T0.length T1.length T2.length))
  have c0 := at_set (o := .dk (rchD T0.length T1.length T2.length)) b0
  have l0 := lt_of_at a0
  have l1 := lt_of_at a1
  have l2 := lt_of_at a2
  have l3 := lt_of_at a3
  have lw0 := lt_of_at hR
  have d1 := f4.get T0.length _ b1 (by show T0.length ≠ S.length; omega)
  have d2 := f4.get T1.length _ b2 (by show T1.length ≠ S.length; omega)
  have d3 := f4.get T2.length _ a3 (by show T2.length ≠ S.length; omega)
  have hd : ∀ ρ, eDisp [(eCon (.str "down"), eLst (aNil)), (eCon (.str "deep"), eLst (aNil)), (eCon (.str "later"), eLst (aNil))] ρ S = .ok (.ref S.length) (T3.set S.length (.dk (rchD T0.length T1.length T2.length))) := fun ρ => by
    simp only [eDisp, evPairs, hT0, ev_var, ev_con, ev_bin, ev_un, ev_anil, ev_acons, ev_call, ev_tup, ev_lst, ev_not, ev_and, ev_or, ev_if, ev_cbl, ev_btrue, ev_cand, ev_cor, ev_cnot, ev_sli, ev_onone, ev_osome, ev_chain, ev_meth, ev_get2, ev_newK, ev_newT, ev_own, ev_nil, ev_seq, ev_expr, ev_set, ev_ret, ev_retN, ev_cif, ev_brk, ev_ct, ev_asg, ev_put, ev_aug, ev_for, ev_comp, ev_newL, ev_iseq, ev_irange, ev_ienum, ev_yes, Out.bind_ok, Out.bindN_ok, bindS_ok, Tg.set, Tg.sets, List.getElem?_cons_zero, List.getElem?_cons_succ, List.set_cons_zero, List.set_cons_succ, wipeE, List.length_cons, List.length_nil, Nat.reduceAdd, Nat.reduceLeDiff, Nat.reduceEqDiff, ↓reduceIte, Bool.false_eq_true, decide_eq_true_eq, add_int, sub_int, lt_int, gt_int, le_int, ge_int, neg_int, and_int, or_int, xor_int, max2_int, min2_int, mod_pos, fdiv_sm, mul_sm, mul_smr, Int.reduceLT, Int.reduceNeg, int_bl, int_int, sli_tup, sline 0 (by omega), hT1, hT2, hT3, b0]
    rfl
  have gA : Gr S (T3.set S.length (.dk (rchD T0.length T1.length T2.length))) := Gr.new g0 (((g1.trans g2).trans g3).any.trans f4) (fun l z => by omega)
  generalize hT4 : T3.set S.length (.dk (rchD T0.length T1.length T2.length)) = T4 at f4 c0 d1 d2 d3 hd gA
  have hR4 := gA.at hR
  have le4 : T2.length < T4.length := lt_of_at d3
  obtain ⟨ρ', S', e, v2, v3, v4, v5, v6, v7, rfl, f', e1, e2, e3, e4⟩ := loop_all (ck := (Ck.ls lw (R.map rowD)).ok) (t := .tp [.nm 2, .nm 3]) (b := b_l_reach_3 (F f)) (S := T4) (ρ := [some (.ref lw), some (.ref S.length), none, none, none, none, none, none])
    (fun i ρ S' => ∃ v2 v3 v4 v5 v6 v7, ρ = [some (.ref lw), some (.ref S.length), v2, v3, v4, v5, v6, v7] ∧ Fr (fun l => l = S.length ∨ l = T0.length ∨ l = T1.length ∨ l = T2.length) T4 S' ∧ S'[S.length]? = some (.dk (rchD T0.length T1.length T2.length)) ∧ S'[T0.length]? = some (.lst (((MRt t "down").take i).map .int)) ∧ S'[T1.length]? = some (.lst (((MRt t "deep").take i).map .int)) ∧ S'[T2.length]? = some (.lst (((MRt t "later").take i).map .int)))
    (enumL (R.map rowD)) ⟨none, none, none, none, none, none, rfl, .refl _, c0, by rw [List.take_zero]; exact d1, by rw [List.take_zero]; exact d2, by rw [List.take_zero]; exact d3⟩
    (fun i v ρ S' hv ⟨v2, v3, v4, v5, v6, v7, hρ, f', e1, e2, e3, e4⟩ => by
      subst hρ
      rw [enumL_get, List.getElem?_map, Option.map_map, Option.map_eq_some_iff] at hv
      obtain ⟨x, hx, rfl⟩ := hv
      have hi := (List.getElem?_eq_some_iff.mp hx).1
      rw [Nat.zero_add]
      have hRS := f'.get lw _ hR4 (by show ¬ (lw = S.length ∨ lw = T0.length ∨ lw = T1.length ∨ lw = T2.length); omega)
      refine ⟨hRS, _, rfl, ?_⟩
      -- the bits of this row
      have ga := gr_app S' [Ob.dk []]
      have aa := at_new S' (.dk [])
      generalize hSa : S' ++ [Ob.dk []] = Sa at ga aa
      have fb := fr_set Sa S'.length (.dk (bitsD 0 0 0))
      have cb := at_set (o := .dk (bitsD 0 0 0)) aa
      have hd2 : ∀ ρ, eDisp [(eCon (.str "down"), eCon (.int 0)), (eCon (.str "deep"), eCon (.int 0)), (eCon (.str "later"), eCon (.int 0))] ρ S' = .ok (.ref S'.length) (Sa.set S'.length (.dk (bitsD 0 0 0))) := fun ρ => by
        simp only [eDisp, evPairs, hSa, ev_var, ev_con, ev_bin, ev_un, ev_anil, ev_acons, ev_call, ev_tup, ev_lst, ev_not, ev_and, ev_or, ev_if, ev_cbl, ev_btrue, ev_cand, ev_cor, ev_cnot, ev_sli, ev_onone, ev_osome, ev_chain, ev_meth, ev_get2, ev_newK, ev_newT, ev_own, ev_nil, ev_seq, ev_expr, ev_set, ev_ret, ev_retN, ev_cif, ev_brk, ev_ct, ev_asg, ev_put, ev_aug, ev_for, ev_comp, ev_newL, ev_iseq, ev_irange, ev_ienum, ev_yes, Out.bind_ok, Out.bindN_ok, bindS_ok, Tg.set, Tg.sets, List.getElem?_cons_zero, List.getElem?_cons_succ, List.set_cons_zero, List.set_cons_succ, wipeE, List.length_cons, List.length_nil, Nat.reduceAdd, Nat.reduceLeDiff, Nat.reduceEqDiff, ↓reduceIte, Bool.false_eq_true, decide_eq_true_eq, add_int, sub_int, lt_int, gt_int, le_int, ge_int, neg_int, and_int, or_int, xor_int, max2_int, min2_int, mod_pos, fdiv_sm, mul_sm, mul_smr, Int.reduceLT, Int.reduceNeg, int_bl, int_int, sli_tup, aa]
        rfl
      have gab : Gr S' (Sa.set S'.length (.dk (bitsD 0 0 0))) := Gr.new ga fb (fun l z => by omega)
      generalize Sa.set S'.length (.dk (bitsD 0 0 0)) = Sb at fb cb hd2 gab
      obtain ⟨u5, u6, Sc, ec, fc, hc⟩ := reach_inner (G := F f) (lr := S.length) (x0 := x) (v6 := v6) (v7 := v7) (gab.at hRS) (by omega) cb hi
      have gac : Gr S' Sc := Gr.new gab fc (fun l z => by omega)
      have rc := gac.at e1
      have xc0 := gac.at e2
      have xc1 := gac.at e3
      have xc2 := gac.at e4
      -- what they are
      obtain ⟨p, k, hp, hr, hA⟩ := reach_bits (go := "down") (by decide) (show i < siz t by omega)
      obtain ⟨p', k', hp', hr', hB⟩ := reach_bits (go := "deep") (by decide) (show i < siz t by omega)
      obtain ⟨p'', k'', hp'', hr'', hC⟩ := reach_bits (go := "later") (by decide) (show i < siz t by omega)
      rw [hp] at hp' hp''
      injection hp' with hp'
      injection hp'' with hp''
      subst hp' hp''
      have xd : x.1 = p.length := by rw [ef, hr] at hx; injection hx with hx; rw [← hx]
      have mat : ∀ go, (MRt t go)[i]? = some (mkI ((plc t []).map fun q => decide (q ∈ goneL t go p))) := fun go => by
        unfold MRt; rw [List.getElem?_map, hp]; rfl
      have tka : ∀ go, ((MRt t go).take (i + 1)).map Dv.int = ((MRt t go).take i).map Dv.int ++ [.int (mkI ((plc t []).map fun q => decide (q ∈ goneL t go p)))] := fun go => by
        rw [List.take_add_one, mat, List.map_append]; rfl
      have vA : mA i (rch x.1 true (R.drop (i + 1))) = mkI ((plc t []).map fun q => decide (q ∈ goneL t "down" p)) := by
        rw [← hA, xd, ef]; rfl
      have vB : mB i (rch x.1 true (R.drop (i + 1))) = mkI ((plc t []).map fun q => decide (q ∈ goneL t "deep" p)) := by
        rw [← hB, xd, ef]; rfl
      have vC : mC i (rch x.1 true (R.drop (i + 1))) = mkI ((plc t []).map fun q => decide (q ∈ goneL t "later" p)) := by
        rw [← hC, xd, ef]; rfl
      rw [vA, vB, vC] at hc
      generalize hma : mkI ((plc t []).map fun q => decide (q ∈ goneL t "down" p)) = ma at hc
      generalize hmb : mkI ((plc t []).map fun q => decide (q ∈ goneL t "deep" p)) = mb at hc
      generalize hmc : mkI ((plc t []).map fun q => decide (q ∈ goneL t "later" p)) = mc at hc
      have ln : S.length < S'.length ∧ T0.length < S'.length ∧ T1.length < S'.length ∧ T2.length < S'.length := ⟨lt_of_at e1, lt_of_at e2, lt_of_at e3, lt_of_at e4⟩
      have ml : ∀ go, (((MRt t go).take i).map Dv.int).length < sizeLine := fun go => by rw [List.length_map, List.length_take, hMl]; show _ < 2 ^ 24; omega
      -- the loop over the three words
      have fd := fr_set Sc S.length (.fk (rchD T0.length T1.length T2.length))
      have hd' := at_set (o := .fk (rchD T0.length T1.length T2.length)) rc
      have y0 := fd.get T0.length _ xc0 (by show T0.length ≠ S.length; omega)
      have y1 := fd.get T1.length _ xc1 (by show T1.length ≠ S.length; omega)
      have y2 := fd.get T2.length _ xc2 (by show T2.length ≠ S.length; omega)
      have y4 := fd.get S'.length _ hc (by show S'.length ≠ S.length; omega)
      generalize hSd : Sc.set S.length (.fk (rchD T0.length T1.length T2.length)) = Sd at fd hd' y0 y1 y2 y4
      obtain ⟨ra, _, _⟩ := idx_rch hd'
      obtain ⟨qa, _, _⟩ := idx_bits y4
      have ap1 : appendD (.ref T0.length) [.int ma] Sd = .ok .non (Sd.set T0.length (.lst (((MRt t "down").take (i + 1)).map .int))) := by rw [app_ref y0 (ml "down"), tka, hma]
      have fe := fr_set Sd T0.length (.lst (((MRt t "down").take (i + 1)).map .int))
      have z0 := at_set (o := .lst (((MRt t "down").take (i + 1)).map .int)) y0
      have hd2' := fe.get S.length _ hd' (by show S.length ≠ T0.length; omega)
      have z1 := fe.get T1.length _ y1 (by show T1.length ≠ T0.length; omega)
      have z2 := fe.get T2.length _ y2 (by show T2.length ≠ T0.length; omega)
      have z4 := fe.get S'.length _ y4 (by show S'.length ≠ T0.length; omega)
      generalize Sd.set T0.length (.lst (((MRt t "down").take (i + 1)).map .int)) = Se at ap1 fe z0 hd2' z1 z2 z4
      obtain ⟨_, rb, _⟩ := idx_rch hd2'
      obtain ⟨_, qb, _⟩ := idx_bits z4
      have ap2 : appendD (.ref T1.length) [.int mb] Se = .ok .non (Se.set T1.length (.lst (((MRt t "deep").take (i + 1)).map .int))) := by rw [app_ref z1 (ml "deep"), tka, hmb]
      have ff := fr_set Se T1.length (.lst (((MRt t "deep").take (i + 1)).map .int))
      have w1 := at_set (o := .lst (((MRt t "deep").take (i + 1)).map .int)) z1
      have hd3' := ff.get S.length _ hd2' (by show S.length ≠ T1.length; omega)
      have w0 := ff.get T0.length _ z0 (by show T0.length ≠ T1.length; omega)
      have w2 := ff.get T2.length _ z2 (by show T2.length ≠ T1.length; omega)
      have w4 := ff.get S'.length _ z4 (by show S'.length ≠ T1.length; omega)
      generalize Se.set T1.length (.lst (((MRt t "deep").take (i + 1)).map .int)) = Sf at ap2 ff w1 hd3' w0 w2 w4
      obtain ⟨_, _, rcc⟩ := idx_rch hd3'
      obtain ⟨_, _, qc⟩ := idx_bits w4
      have ap3 : appendD (.ref T2.length) [.int mc] Sf = .ok .non (Sf.set T2.length (.lst (((MRt t "later").take (i + 1)).map .int))) := by rw [app_ref w2 (ml "later"), tka, hmc]
      have fg := fr_set Sf T2.length (.lst (((MRt t "later").take (i + 1)).map .int))
      have k2 := at_set (o := .lst (((MRt t "later").take (i + 1)).map .int)) w2
      have hd4' := fg.get S.length _ hd3' (by show S.length ≠ T2.length; omega)
      have k0' := fg.get T0.length _ w0 (by show T0.length ≠ T2.length; omega)
      have k1 := fg.get T1.length _ w1 (by show T1.length ≠ T2.length; omega)
      generalize Sf.set T2.length (.lst (((MRt t "later").take (i + 1)).map .int)) = Sg at ap3 fg k2 hd4' k0' k1
      have fh := fr_set Sg S.length (.dk (rchD T0.length T1.length T2.length))
      have hd5 := at_set (o := .dk (rchD T0.length T1.length T2.length)) hd4'
      have m0 := fh.get T0.length _ k0' (by show T0.length ≠ S.length; omega)
      have m1 := fh.get T1.length _ k1 (by show T1.length ≠ S.length; omega)
      have m2 := fh.get T2.length _ k2 (by show T2.length ≠ S.length; omega)
      let ρ0 : PL.Env := ρR lw S.length i x S'.length u5 u6 v7
      have b1 : b_l_reach_2 (F f) (ρR lw S.length i x S'.length u5 u6 (some (.str "down"))) Sd = .fl (.nx (ρR lw S.length i x S'.length u5 u6 (some (.str "down")))) Se := by
        unfold b_l_reach_2
        exact expr_of (d := .non) (by simp only [ev_var, ev_con, ev_bin, ev_un, ev_anil, ev_acons, ev_call, ev_tup, ev_lst, ev_not, ev_and, ev_or, ev_if, ev_cbl, ev_btrue, ev_cand, ev_cor, ev_cnot, ev_sli, ev_onone, ev_osome, ev_chain, ev_meth, ev_get2, ev_newK, ev_newT, ev_own, ev_nil, ev_seq, ev_expr, ev_set, ev_ret, ev_retN, ev_cif, ev_brk, ev_ct, ev_asg, ev_put, ev_aug, ev_for, ev_comp, ev_newL, ev_iseq, ev_irange, ev_ienum, ev_yes, Out.bind_ok, Out.bindN_ok, bindS_ok, Tg.set, Tg.sets, List.getElem?_cons_zero, List.getElem?_cons_succ, List.set_cons_zero, List.set_cons_succ, wipeE, List.length_cons, List.length_nil, Nat.reduceAdd, Nat.reduceLeDiff, Nat.reduceEqDiff, ↓reduceIte, Bool.false_eq_true, decide_eq_true_eq, add_int, sub_int, lt_int, gt_int, le_int, ge_int, neg_int, and_int, or_int, xor_int, max2_int, min2_int, mod_pos, fdiv_sm, mul_sm, mul_smr, Int.reduceLT, Int.reduceNeg, int_bl, int_int, sli_tup, ra, tyq_ref y0, qa, ap1])
      have b2 : b_l_reach_2 (F f) (ρR lw S.length i x S'.length u5 u6 (some (.str "deep"))) Se = .fl (.nx (ρR lw S.length i x S'.length u5 u6 (some (.str "deep")))) Sf := by
        unfold b_l_reach_2
        exact expr_of (d := .non) (by simp only [ev_var, ev_con, ev_bin, ev_un, ev_anil, ev_acons, ev_call, ev_tup, ev_lst, ev_not, ev_and, ev_or, ev_if, ev_cbl, ev_btrue, ev_cand, ev_cor, ev_cnot, ev_sli, ev_onone, ev_osome, ev_chain, ev_meth, ev_get2, ev_newK, ev_newT, ev_own, ev_nil, ev_seq, ev_expr, ev_set, ev_ret, ev_retN, ev_cif, ev_brk, ev_ct, ev_asg, ev_put, ev_aug, ev_for, ev_comp, ev_newL, ev_iseq, ev_irange, ev_ienum, ev_yes, Out.bind_ok, Out.bindN_ok, bindS_ok, Tg.set, Tg.sets, List.getElem?_cons_zero, List.getElem?_cons_succ, List.set_cons_zero, List.set_cons_succ, wipeE, List.length_cons, List.length_nil, Nat.reduceAdd, Nat.reduceLeDiff, Nat.reduceEqDiff, ↓reduceIte, Bool.false_eq_true, decide_eq_true_eq, add_int, sub_int, lt_int, gt_int, le_int, ge_int, neg_int, and_int, or_int, xor_int, max2_int, min2_int, mod_pos, fdiv_sm, mul_sm, mul_smr, Int.reduceLT, Int.reduceNeg, int_bl, int_int, sli_tup, rb, tyq_ref z1, qb, ap2])
      have b3 : b_l_reach_2 (F f) (ρR lw S.length i x S'.length u5 u6 (some (.str "later"))) Sf = .fl (.nx (ρR lw S.length i x S'.length u5 u6 (some (.str "later")))) Sg := by
        unfold b_l_reach_2
        exact expr_of (d := .non) (by simp only [ev_var, ev_con, ev_bin, ev_un, ev_anil, ev_acons, ev_call, ev_tup, ev_lst, ev_not, ev_and, ev_or, ev_if, ev_cbl, ev_btrue, ev_cand, ev_cor, ev_cnot, ev_sli, ev_onone, ev_osome, ev_chain, ev_meth, ev_get2, ev_newK, ev_newT, ev_own, ev_nil, ev_seq, ev_expr, ev_set, ev_ret, ev_retN, ev_cif, ev_brk, ev_ct, ev_asg, ev_put, ev_aug, ev_for, ev_comp, ev_newL, ev_iseq, ev_irange, ev_ienum, ev_yes, Out.bind_ok, Out.bindN_ok, bindS_ok, Tg.set, Tg.sets, List.getElem?_cons_zero, List.getElem?_cons_succ, List.set_cons_zero, List.set_cons_succ, wipeE, List.length_cons, List.length_nil, Nat.reduceAdd, Nat.reduceLeDiff, Nat.reduceEqDiff, ↓reduceIte, Bool.false_eq_true, decide_eq_true_eq, add_int, sub_int, lt_int, gt_int, le_int, ge_int, neg_int, and_int, or_int, xor_int, max2_int, min2_int, mod_pos, fdiv_sm, mul_sm, mul_smr, Int.reduceLT, Int.reduceNeg, int_bl, int_int, sli_tup, rcc, tyq_ref w2, qc, ap3])
      have lp3 : loop Ck.tt.ok (.nm 7) (b_l_reach_2 (F f)) [.str "down", .str "deep", .str "later"] (ρR lw S.length i x S'.length u5 u6 v7) Sd = .fl (.nx (ρR lw S.length i x S'.length u5 u6 (some (.str "later")))) Sg := by
        rw [loop, if_pos (show Ck.tt.ok Sd from trivial)]
        simp only [Tg.set, List.set_cons_zero, List.set_cons_succ, b1]
        rw [loop, if_pos (show Ck.tt.ok Se from trivial)]
        simp only [Tg.set, List.set_cons_zero, List.set_cons_succ, b2]
        rw [loop, if_pos (show Ck.tt.ok Sf from trivial)]
        simp only [Tg.set, List.set_cons_zero, List.set_cons_succ, b3]
        rw [loop, if_pos (show Ck.tt.ok Sg from trivial)]
      have efz : iFz (eVar 1) (ρR lw S.length i x S'.length u5 u6 v7) Sd = .ok ([.str "down", .str "deep", .str "later"], .tt) Sd := by
        simp only [iFz, ev_var, List.getElem?_cons_zero, List.getElem?_cons_succ, Out.bind_ok, hd']; rfl
      have eD : cForD 1 (.nm 7) (b_l_reach_2 (F f)) (ρR lw S.length i x S'.length u5 u6 v7) Sc = .fl (.nx (ρR lw S.length i x S'.length u5 u6 (some (.str "later")))) (Sg.set S.length (.dk (rchD T0.length T1.length T2.length))) := by
        simp only [cForD, List.getElem?_cons_zero, List.getElem?_cons_succ, rc, hSd]
        rw [(for_of efz).trans lp3]; rfl
      refine ⟨ρR lw S.length i x S'.length u5 u6 (some (.str "later")), _, .inl ?_, _, _, _, _, _, _, rfl, f'.trans ?_, hd5, m0, m1, m2⟩
      · unfold b_l_reach_3
        refine (seq_of (set_of (d := .ref S'.length) (S' := Sb) (hd2 _))).trans ?_
        refine (seq_of (set_of (d := .bl true) (S' := Sb) rfl)).trans ?_
        refine (seq_of ((for_of (w := (rangeL ((i : Int) + 1) (R.length : Int), .tt)) (S' := Sb) ?_).trans ec)).trans eD
        have ll := len_ref (gab.at hRS)
        rw [List.length_map] at ll
        simp only [ev_var, ev_con, ev_bin, ev_un, ev_anil, ev_acons, ev_call, ev_tup, ev_lst, ev_not, ev_and, ev_or, ev_if, ev_cbl, ev_btrue, ev_cand, ev_cor, ev_cnot, ev_sli, ev_onone, ev_osome, ev_chain, ev_meth, ev_get2, ev_newK, ev_newT, ev_own, ev_nil, ev_seq, ev_expr, ev_set, ev_ret, ev_retN, ev_cif, ev_brk, ev_ct, ev_asg, ev_put, ev_aug, ev_for, ev_comp, ev_newL, ev_iseq, ev_irange, ev_ienum, ev_yes, Out.bind_ok, Out.bindN_ok, bindS_ok, Tg.set, Tg.sets, List.getElem?_cons_zero, List.getElem?_cons_succ, List.set_cons_zero, List.set_cons_succ, wipeE, List.length_cons, List.length_nil, Nat.reduceAdd, Nat.reduceLeDiff, Nat.reduceEqDiff, ↓reduceIte, Bool.false_eq_true, decide_eq_true_eq, add_int, sub_int, lt_int, gt_int, le_int, ge_int, neg_int, and_int, or_int, xor_int, max2_int, min2_int, mod_pos, fdiv_sm, mul_sm, mul_smr, Int.reduceLT, Int.reduceNeg, int_bl, int_int, sli_tup, ll, rng2_of (i := i) (j := R.length) (by omega) (by omega)]
      · exact ((((gac.any.trans (fd.imp fun l _ z => .inl z)).trans (fe.imp fun l _ z => .inr (.inl z))).trans (ff.imp fun l _ z => .inr (.inr (.inl z)))).trans (fg.imp fun l _ z => .inr (.inr (.inr z)))).trans (fh.imp fun l _ z => .inl z))
    (fun ρ S' ⟨_, _, _, _, _, _, _, f', _⟩ => f'.get lw _ hR4 (by show ¬ (lw = S.length ∨ lw = T0.length ∨ lw = T1.length ∨ lw = T2.length); omega))
  rw [enumL_len, List.length_map, List.take_of_length_le (by rw [hMl]; omega)] at e2 e3 e4
  refine ⟨S.length, S', ?_, ?_, ⟨_, e1, fun go hgo => ?_⟩⟩
  · refine runF_rt (ρ := [some (.ref lw), none, none, none, none, none, none, none]) rfl rfl ?_
    unfold c_l_reach
    refine (seq_of (set_of (d := .ref S.length) (S' := T4) (hd _))).trans ?_
    have ez : (PL.iEnumA (aCons (eVar 0) (aNil))) [some (.ref lw), some (.ref S.length), none, none, none, none, none, none] T4 = .ok (enumL (R.map rowD), .ls lw (R.map rowD)) T4 := by
      simp only [PL.iEnumA, ev_var, ev_con, ev_bin, ev_un, ev_anil, ev_acons, ev_call, ev_tup, ev_lst, ev_not, ev_and, ev_or, ev_if, ev_cbl, ev_btrue, ev_cand, ev_cor, ev_cnot, ev_sli, ev_onone, ev_osome, ev_chain, ev_meth, ev_get2, ev_newK, ev_newT, ev_own, ev_nil, ev_seq, ev_expr, ev_set, ev_ret, ev_retN, ev_cif, ev_brk, ev_ct, ev_asg, ev_put, ev_aug, ev_for, ev_comp, ev_newL, ev_iseq, ev_irange, ev_ienum, ev_yes, Out.bind_ok, Out.bindN_ok, bindS_ok, Tg.set, Tg.sets, List.getElem?_cons_zero, List.getElem?_cons_succ, List.set_cons_zero, List.set_cons_succ, wipeE, List.length_cons, List.length_nil, Nat.reduceAdd, Nat.reduceLeDiff, Nat.reduceEqDiff, ↓reduceIte, Bool.false_eq_true, decide_eq_true_eq, add_int, sub_int, lt_int, gt_int, le_int, ge_int, neg_int, and_int, or_int, xor_int, max2_int, min2_int, mod_pos, fdiv_sm, mul_sm, mul_smr, Int.reduceLT, Int.reduceNeg, int_bl, int_int, sli_tup, seq_lst (lst_ref hR4)]; rfl
    exact (seq_of ((for_of ez).trans e)).trans (ret_of rfl)
  · exact Gr.new gA f' (fun l z => by omega)
  · rcases goW_or hgo with rfl | rfl | rfl
    · exact ⟨T0.length, rfl, e2, by rw [hMl]; omega⟩
    · exact ⟨T1.length, rfl, e3, by rw [hMl]; omega⟩
    · exact ⟨T2.length, rfl, e4, by rw [hMl]; omega⟩
/-! places, sorted -/
theorem lt_pre (r : List Nat) (j : Nat) (w : List Nat) : r < r ++ j :: w := by
  induction r with
  | nil => exact List.nil_lt_cons j w
  | cons x r ih => exact List.cons_lt_cons_iff.mpr (.inr ⟨rfl, ih⟩)
theorem lt_at (r : List Nat) {i j : Nat} (h : i < j) (v w : List Nat) : r ++ i :: v < r ++ j :: w := by
  induction r with
  | nil => exact List.cons_lt_cons_iff.mpr (.inl h)
  | cons x r ih => exact List.cons_lt_cons_iff.mpr (.inr ⟨rfl, ih⟩)
mutual
theorem plc_sorted : ∀ (t : Tr) (r : List Nat), (plc t r).Pairwise (· < ·)
  | .nd k ps, r => by
    rw [plc]
    refine List.pairwise_cons.mpr ⟨fun q hq => ?_, plcs_sorted ps r 0⟩
    obtain ⟨j, w, _, e⟩ := plcs_pre ps r 0 q hq
    rw [e]
    exact lt_pre r j w
theorem plcs_sorted : ∀ (ts : List Tr) (r : List Nat) (i : Nat), (plcs ts r i).Pairwise (· < ·)
  | [], r, i => by rw [plcs]; exact List.Pairwise.nil
  | t :: ts, r, i => by
    rw [plcs]
    refine List.pairwise_append.mpr ⟨plc_sorted t _, plcs_sorted ts r _, fun a ha b hb => ?_⟩
    obtain ⟨w, e1⟩ := plc_pre t _ _ ha
    obtain ⟨j, w2, hj, e2⟩ := plcs_pre ts r _ _ hb
    rw [e1, e2, List.append_assoc]
    exact lt_at r (by omega) w w2
end
theorem lt_ints : ∀ a b : List Nat, (a.map fun (n : Nat) => (n : Int)) < b.map (fun (n : Nat) => (n : Int)) ↔ a < b
  | [], [] => by simp
  | [], y :: b => by simp
  | x :: a, [] => by simp
  | x :: a, y :: b => by
    rw [List.map_cons, List.map_cons, List.cons_lt_cons_iff, List.cons_lt_cons_iff, lt_ints a b]
    constructor
    · rintro (h | ⟨h, h2⟩)
      · exact .inl (by omega)
      · exact .inr ⟨by omega, h2⟩
    · rintro (h | ⟨h, h2⟩)
      · exact .inl (by omega)
      · exact .inr ⟨by omega, h2⟩
theorem keyT_P (p : List Nat) : (keyT p).map kP = (p.map fun (n : Nat) => (n : Int)).map PyData.int := by
  unfold keyT
  rw [List.map_map, List.map_map]; rfl
theorem keyLe_T (a b : List Nat) : keyLe (keyT a) (keyT b) = decide (a ≤ b) := by
  show (!PySem.W.dataLt (.tuple ((keyT b).map kP)) (.tuple ((keyT a).map kP))) = _
  rw [PySem.W.dataLt_tuple, keyT_P, keyT_P]
  show (!PySem.W.rowLt _ _) = _
  rw [PySem.W.dataLt_ints]
  by_cases h : b < a
  · rw [decide_eq_true ((lt_ints b a).mpr h), decide_eq_false (fun z => List.not_lt.mpr z h)]; rfl
  · rw [decide_eq_false (fun z => h ((lt_ints b a).mp z)), decide_eq_true (List.not_lt.mp h)]; rfl
theorem sort_places {t : Tr} {P : List (List Nat)} {g : List Nat → Bool} (nd : P.Nodup) (h : ∀ q, q ∈ P ↔ q ∈ plc t [] ∧ g q = true) : ((dtOf P).map (·.1)).mergeSort keyLe = ((plc t []).filter g).map keyT := by
  have e0 : (dtOf P).map (·.1) = P.map keyT := by unfold dtOf; rw [List.map_map]; rfl
  rw [e0, ← List.map_mergeSort (r := fun a b => decide (a ≤ b)) (fun a _ b _ => (keyLe_T a b).symm)]
  congr 1
  have srt := plc_sorted t []
  refine List.Perm.eq_of_pairwise (le := fun a b => decide (a ≤ b) = true) (fun a b _ _ h1 h2 => List.le_antisymm (of_decide_eq_true h1) (of_decide_eq_true h2)) (List.pairwise_mergeSort (le := fun a b : List Nat => decide (a ≤ b)) (fun a b c h1 h2 => decide_eq_true (List.le_trans (of_decide_eq_true h1) (of_decide_eq_true h2))) (fun a b => ?_) _) ((srt.filter g).imp fun h => decide_eq_true (List.le_of_lt h)) ?_
  · rw [Bool.or_eq_true]
    exact (List.le_total a b).imp decide_eq_true decide_eq_true
  · refine (List.mergeSort_perm _ _).trans ((List.perm_ext_iff_of_nodup nd ((plc_nodup t []).filter g)).mpr fun q => ?_)
    rw [h, List.mem_filter]
/-! ways gone from the top -/
/-- a way gone from a place to another one -/
def Chain (t : Tr) (gE : En → List Nat → Bool) : List (Str × En) → List Nat → List Nat → Prop
  | [], p, q => p = q
  | x :: r, p, q => ∃ p', p' ∈ goneL t x.1 p ∧ gE x.2 p' = true ∧ Chain t gE r p' q
theorem chain_snoc {t : Tr} {gE : En → List Nat → Bool} {x : Str × En} : ∀ (ps : List (Str × En)) (p q : List Nat), Chain t gE (ps ++ [x]) p q ↔ ∃ p', Chain t gE ps p p' ∧ q ∈ goneL t x.1 p' ∧ gE x.2 q = true
  | [], p, q => by
    show (∃ p', p' ∈ goneL t x.1 p ∧ gE x.2 p' = true ∧ p' = q) ↔ ∃ p', p = p' ∧ _
    constructor
    · rintro ⟨p', a, b, rfl⟩; exact ⟨p, rfl, a, b⟩
    · rintro ⟨p', rfl, a, b⟩; exact ⟨q, a, b, rfl⟩
  | y :: ps, p, q => by
    show (∃ p1, p1 ∈ goneL t y.1 p ∧ gE y.2 p1 = true ∧ Chain t gE (ps ++ [x]) p1 q) ↔ ∃ p', (∃ p1, p1 ∈ goneL t y.1 p ∧ gE y.2 p1 = true ∧ Chain t gE ps p1 p') ∧ _
    constructor
    · rintro ⟨p1, a, b, c⟩
      obtain ⟨p', d, e⟩ := (chain_snoc ps p1 q).mp c
      exact ⟨p', ⟨p1, a, b, d⟩, e⟩
    · rintro ⟨p', ⟨p1, a, b, d⟩, e⟩
      exact ⟨p1, a, b, (chain_snoc ps p1 q).mpr ⟨p', d, e⟩⟩
/-- a way, from its end, the ends being some places -/
def wayB (t : Tr) (gE : En → List Nat → Bool) (G : List Nat → Bool) : List (Str × En) → List Nat → Bool
  | [] => G
  | x :: r => backG t x.1 (wayB t gE G r) (gE x.2)
theorem wayB_true (t : Tr) (gE : En → List Nat → Bool) : ∀ ps : List (Str × En), wayB t gE (fun _ => true) ps = wayG t gE ps
  | [] => rfl
  | x :: r => by rw [wayB, wayG, wayB_true t gE r]
theorem wayB_chain {t : Tr} {gE : En → List Nat → Bool} {G : List Nat → Bool} : ∀ (ps : List (Str × En)) (p : List Nat), wayB t gE G ps p = true ↔ ∃ q, Chain t gE ps p q ∧ G q = true
  | [], p => by
    show G p = true ↔ ∃ q, p = q ∧ _
    exact ⟨fun h => ⟨p, rfl, h⟩, fun ⟨q, e, h⟩ => by rw [e]; exact h⟩
  | x :: r, p => by
    show (goneL t x.1 p).any (fun q => wayB t gE G r q && gE x.2 q) = true ↔ _
    rw [List.any_eq_true]
    constructor
    · rintro ⟨p', a, b⟩
      rw [Bool.and_eq_true] at b
      obtain ⟨q, c, d⟩ := (wayB_chain r p').mp b.1
      exact ⟨q, ⟨p', a, b.2, c⟩, d⟩
    · rintro ⟨q, ⟨p', a, b, c⟩, d⟩
      exact ⟨p', a, by rw [Bool.and_eq_true]; exact ⟨(wayB_chain r p').mpr ⟨q, c, d⟩, b⟩⟩
theorem gone_ne {t : Tr} {go : Str} {p q : List Nat} (h : q ∈ goneL t go p) : q ≠ [] := by
  rintro rfl
  unfold goneL at h
  split at h
  · cases e : sub t p with
    | none => rw [e] at h; cases h
    | some s =>
      rw [e] at h
      obtain ⟨j, _, z⟩ := List.mem_map.mp (show [] ∈ gDown s p from h)
      simp at z
  · split at h
    · cases e : sub t p with
      | none => rw [e] at h; cases h
      | some s =>
        rw [e] at h
        obtain ⟨j, w, _, z⟩ := plcs_pre _ p 0 [] (show [] ∈ gDeep s p from h)
        simp at z
    · split at h
      · cases h
      · cases e : sub t p.dropLast with
        | none => rw [e] at h; cases h
        | some b =>
          rw [e] at h
          obtain ⟨j, _, z⟩ := List.mem_map.mp (show [] ∈ gLater b p.dropLast (p.getLastD 0) from h)
          simp at z
abbrev ρF (t : Tr) (w : Dv) (ls l3 : Nat) (v4 v5 v6 v7 v8 v9 : Option Dv) : PL.Env := [some (trD t), some w, some (.ref ls), some (.ref l3), v4, v5, v6, v7, v8, v9]
theorem in_dft {S : Sto} {l : Nat} {P : List (List Nat)} (h : S[l]? = some (.dt (dtOf P)) ∨ S[l]? = some (.ft (dtOf P))) (p : List Nat) : inD (plD p) (.ref l) S = .ok (.bl (decide (p ∈ P))) S := by
  rcases h with h | h
  · exact in_dt h p
  · have dg : dget S (.ref l) (plD p) = some (gat (dtOf P) (keyT p)) := by simp only [dget, h, tkey_pl, Option.map_some]
    have m : memq S (plD p) (.ref l) = some (decide (p ∈ P)) := by simp only [memq, tupOf, lstOf, h, dg, gat_dt]
    simp only [inD, m]
theorem f_place {f : Nat} {t s : Tr} {w : Dv} {ls l3 l6 l7 : Nat} {go : Str} {p : List Nat} {g : List Nat → Bool} {Q : List (List Nat)} {v5 v9 : Option Dv} {S : Sto} (hgo : go ∈ goW) (hsub : sub t p = some s) (hz : siz t ≤ 900) (hp : p.length ≤ 10000) (h6 : S[l6]? = some (.dt (dtOf ((plc t []).filter g))) ∨ S[l6]? = some (.ft (dtOf ((plc t []).filter g)))) (h7 : S[l7]? = some (.dt (dtOf Q))) (nd : Q.Nodup) (hq : ∀ q ∈ Q, q ∈ plc t []) (n6 : l6 ≠ l7) :
    ∃ (S' : Sto) (u9 : Option Dv) (Q' : List (List Nat)), b_finds_2 (F (f + 2)) (ρF t w ls l3 (some (.str go)) v5 (some (.ref l6)) (some (.ref l7)) (some (plD p)) v9) S = .fl (.nx (ρF t w ls l3 (some (.str go)) v5 (some (.ref l6)) (some (.ref l7)) (some (plD p)) u9)) S' ∧ Fr (· = l7) S S' ∧ S'[l7]? = some (.dt (dtOf Q')) ∧ Q'.Nodup ∧ (∀ q ∈ Q', q ∈ plc t []) ∧ ∀ q, q ∈ Q' ↔ q ∈ Q ∨ (q ∈ goneL t go p ∧ g q = true) := by
  obtain ⟨lg, S1, e1, g1, ng, hg1⟩ := gone_run (f := f) (S := S) (goW_or hgo) hsub hz hp
  have l7S := lt_of_at h7
  obtain ⟨ρ', S', e, u9, Q', rfl, f', h7', nd', hq', hm⟩ := loop_all (ck := (Ck.ls lg ((goneL t go p).map plD)).ok) (t := .nm 9) (b := b_finds_1 (F (f + 2))) (S := S1) (ρ := ρF t w ls l3 (some (.str go)) v5 (some (.ref l6)) (some (.ref l7)) (some (plD p)) v9)
    (fun i ρ S' => ∃ (u9 : Option Dv) (Q' : List (List Nat)), ρ = ρF t w ls l3 (some (.str go)) v5 (some (.ref l6)) (some (.ref l7)) (some (plD p)) u9 ∧ Fr (· = l7) S1 S' ∧ S'[l7]? = some (.dt (dtOf Q')) ∧ Q'.Nodup ∧ (∀ q ∈ Q', q ∈ plc t []) ∧ ∀ q, q ∈ Q' ↔ q ∈ Q ∨ (q ∈ (goneL t go p).take i ∧ g q = true)) ((goneL t go p).map plD)
    ⟨v9, Q, rfl, .refl _, g1.at h7, nd, hq, fun q => by rw [List.take_zero]; simp⟩
    (fun i v ρ S' hv ⟨u9, Q', hρ, f', h7', nd', hq', hm⟩ => by
      subst hρ
      rw [List.getElem?_map, Option.map_eq_some_iff] at hv
      obtain ⟨x, hx0, rfl⟩ := hv
      have xm := gone_in hsub (List.mem_of_getElem? hx0)
      have i6 := in_dft (h6.imp (fun h => f'.get l6 _ (g1.at h) (by show l6 ≠ l7; exact n6)) (fun h => f'.get l6 _ (g1.at h) (by show l6 ≠ l7; exact n6))) x
      rw [dec_filt xm] at i6
      have ql : Q'.length ≤ 900 := Nat.le_trans (nd'.length_le_of_subset hq') (by rw [plc_len]; exact hz)
      have pt := put_dt h7' (by omega) x
      have tk : ∀ q, q ∈ (goneL t go p).take (i + 1) ↔ q ∈ (goneL t go p).take i ∨ q = x := fun q => by
        rw [List.take_add_one, hx0, List.mem_append]; simp
      have tst : (cBl (eBin inD (eVar 9) (eVar 6))) (ρF t w ls l3 (some (.str go)) v5 (some (.ref l6)) (some (.ref l7)) (some (plD p)) (some (plD x))) S' = .ok (g x) S' := by
        simp only [ev_var, ev_con, ev_bin, ev_un, ev_anil, ev_acons, ev_call, ev_tup, ev_lst, ev_not, ev_and, ev_or, ev_if, ev_cbl, ev_btrue, ev_cand, ev_cor, ev_cnot, ev_sli, ev_onone, ev_osome, ev_chain, ev_meth, ev_get2, ev_newK, ev_newT, ev_own, ev_nil, ev_seq, ev_expr, ev_set, ev_ret, ev_retN, ev_cif, ev_brk, ev_ct, ev_asg, ev_put, ev_aug, ev_for, ev_comp, ev_newL, ev_iseq, ev_irange, ev_ienum, ev_yes, Out.bind_ok, Out.bindN_ok, bindS_ok, Tg.set, Tg.sets, List.getElem?_cons_zero, List.getElem?_cons_succ, List.set_cons_zero, List.set_cons_succ, wipeE, List.length_cons, List.length_nil, Nat.reduceAdd, Nat.reduceLeDiff, Nat.reduceEqDiff, ↓reduceIte, Bool.false_eq_true, decide_eq_true_eq, add_int, sub_int, lt_int, gt_int, le_int, ge_int, neg_int, and_int, or_int, xor_int, max2_int, min2_int, mod_pos, fdiv_sm, mul_sm, mul_smr, Int.reduceLT, Int.reduceNeg, int_bl, int_int, sli_tup, i6]
      refine ⟨f'.get lg _ hg1 (by show lg ≠ l7; omega), _, rfl, ?_⟩
      cases a : g x with
      | false =>
        rw [a] at tst
        refine ⟨_, S', .inl ?_, some (plD x), Q', rfl, f', h7', nd', hq', fun q => ?_⟩
        · unfold b_finds_1
          exact (if_f tst).trans rfl
        · rw [hm, tk]
          constructor
          · rintro (h | ⟨h, h2⟩)
            · exact .inl h
            · exact .inr ⟨.inl h, h2⟩
          · rintro (h | ⟨h | rfl, h2⟩)
            · exact .inl h
            · exact .inr ⟨h, h2⟩
            · rw [a] at h2; cases h2
      | true =>
        rw [a] at tst
        have hmem : ∀ q, q ∈ (if x ∈ Q' then Q' else Q' ++ [x]) ↔ q ∈ Q' ∨ q = x := fun q => by
          split
          · rename_i hx
            exact ⟨.inl, fun h => h.elim id fun e => by rw [e]; exact hx⟩
          · rw [List.mem_append]; simp
        refine ⟨ρF t w ls l3 (some (.str go)) v5 (some (.ref l6)) (some (.ref l7)) (some (plD p)) (some (plD x)), S'.set l7 (.dt (dtOf (if x ∈ Q' then Q' else Q' ++ [x]))), .inl ?_, some (plD x), (if x ∈ Q' then Q' else Q' ++ [x]), rfl, f'.trans (fr_set _ _ _), at_set h7', ?_, fun q h => ?_, fun q => ?_⟩
        · unfold b_finds_1
          refine (if_t tst).trans ?_
          simp only [ev_var, ev_con, ev_bin, ev_un, ev_anil, ev_acons, ev_call, ev_tup, ev_lst, ev_not, ev_and, ev_or, ev_if, ev_cbl, ev_btrue, ev_cand, ev_cor, ev_cnot, ev_sli, ev_onone, ev_osome, ev_chain, ev_meth, ev_get2, ev_newK, ev_newT, ev_own, ev_nil, ev_seq, ev_expr, ev_set, ev_ret, ev_retN, ev_cif, ev_brk, ev_ct, ev_asg, ev_put, ev_aug, ev_for, ev_comp, ev_newL, ev_iseq, ev_irange, ev_ienum, ev_yes, Out.bind_ok, Out.bindN_ok, bindS_ok, Tg.set, Tg.sets, List.getElem?_cons_zero, List.getElem?_cons_succ, List.set_cons_zero, List.set_cons_succ, wipeE, List.length_cons, List.length_nil, Nat.reduceAdd, Nat.reduceLeDiff, Nat.reduceEqDiff, ↓reduceIte, Bool.false_eq_true, decide_eq_true_eq, add_int, sub_int, lt_int, gt_int, le_int, ge_int, neg_int, and_int, or_int, xor_int, max2_int, min2_int, mod_pos, fdiv_sm, mul_sm, mul_smr, Int.reduceLT, Int.reduceNeg, int_bl, int_int, sli_tup, pt]
        · split
          · exact nd'
          · rename_i hx
            refine List.nodup_append.mpr ⟨nd', by simp, fun a ha b hb z => ?_⟩
            rw [List.mem_singleton] at hb
            rw [z, hb] at ha
            exact hx ha
        · rcases (hmem q).mp h with h | rfl
          · exact hq' q h
          · exact xm
        · rw [hmem, hm, tk]
          constructor
          · rintro ((h | ⟨h, h2⟩) | rfl)
            · exact .inl h
            · exact .inr ⟨.inl h, h2⟩
            · exact .inr ⟨.inr rfl, a⟩
          · rintro (h | ⟨h | rfl, h2⟩)
            · exact .inl (.inl h)
            · exact .inl (.inr ⟨h, h2⟩)
            · exact .inr rfl)
    (fun ρ S' ⟨_, _, _, f', _⟩ => f'.get lg _ hg1 (by show lg ≠ l7; omega))
  rw [List.length_map, List.take_of_length_le (Nat.le_refl _)] at hm
  refine ⟨S', u9, Q', ?_, g1.any.trans f', h7', nd', hq', hm⟩
  unfold b_finds_2
  exact (for_of (w := ((goneL t go p).map plD, .ls lg ((goneL t go p).map plD))) (S' := S1) (by simp only [ev_var, ev_con, ev_bin, ev_un, ev_anil, ev_acons, ev_call, ev_tup, ev_lst, ev_not, ev_and, ev_or, ev_if, ev_cbl, ev_btrue, ev_cand, ev_cor, ev_cnot, ev_sli, ev_onone, ev_osome, ev_chain, ev_meth, ev_get2, ev_newK, ev_newT, ev_own, ev_nil, ev_seq, ev_expr, ev_set, ev_ret, ev_retN, ev_cif, ev_brk, ev_ct, ev_asg, ev_put, ev_aug, ev_for, ev_comp, ev_newL, ev_iseq, ev_irange, ev_ienum, ev_yes, Out.bind_ok, Out.bindN_ok, bindS_ok, Tg.set, Tg.sets, List.getElem?_cons_zero, List.getElem?_cons_succ, List.set_cons_zero, List.set_cons_succ, wipeE, List.length_cons, List.length_nil, Nat.reduceAdd, Nat.reduceLeDiff, Nat.reduceEqDiff, ↓reduceIte, Bool.false_eq_true, decide_eq_true_eq, add_int, sub_int, lt_int, gt_int, le_int, ge_int, neg_int, and_int, or_int, xor_int, max2_int, min2_int, mod_pos, fdiv_sm, mul_sm, mul_smr, Int.reduceLT, Int.reduceNeg, int_bl, int_int, sli_tup, e1, walk_ref hg1])).trans e
theorem dt_keys (P : List (List Nat)) : ((dtOf P).map fun kv => Dv.tup (kv.1.map kD)) = P.map plD := by
  unfold dtOf
  rw [List.map_map]
  refine List.map_congr_left fun p _ => ?_
  show Dv.tup ((keyT p).map kD) = plD p
  unfold keyT plD
  rw [List.map_map]; rfl
theorem f_step {f : Nat} {t : Tr} {w : Dv} {ls l3 : Nat} {go : Str} {look : Dv} {h : Nat} {g : List Nat → Bool} {P : List (List Nat)} {v6 v7 v8 v9 : Option Dv} {S : Sto} (hgo : go ∈ goW) (hz : siz t ≤ 900) (hf : 2 * h + 4 ≤ f + 2) (k : Hd t h look g) (hs : S[ls]? = some (.lst ((plc t []).map plD))) (h3 : S[l3]? = some (.dt (dtOf P))) (hP : ∀ p ∈ P, p ∈ plc t []) :
    ∃ (S' : Sto) (l : Nat) (u6 u7 u8 u9 : Option Dv) (P' : List (List Nat)), b_finds_3 (F (f + 2)) (ρF t w ls l3 (some (.str go)) (some look) v6 v7 v8 v9) S = .fl (.nx (ρF t w ls l (some (.str go)) (some look) u6 u7 u8 u9)) S' ∧ Gr S S' ∧ S'[l]? = some (.dt (dtOf P')) ∧ P'.Nodup ∧ (∀ q ∈ P', q ∈ plc t []) ∧ ∀ q, q ∈ P' ↔ ∃ p ∈ P, q ∈ goneL t go p ∧ g q = true := by
  obtain ⟨l6, S1, e1, g1, h6⟩ := k (f + 2) ls S hf hs
  have g2 := gr_app S1 [Ob.dt []]
  have a2 := at_new S1 (.dt [])
  generalize hS2 : S1 ++ [Ob.dt []] = S2 at g2 a2
  have h31 := g1.at h3
  have h32 := g2.at h31
  have h62 := g2.at h6
  have n3 : l3 ≠ S1.length := ne_new h31
  have n6 : l6 ≠ S1.length := ne_new h6
  have fL := fr_set S2 l3 (.ft (dtOf P))
  have hL3 := at_set (o := .ft (dtOf P)) h32
  have hL7 := fL.get S1.length _ a2 (by show S1.length ≠ l3; omega)
  have hL6 : (S2.set l3 (.ft (dtOf P)))[l6]? = some (.dt (dtOf ((plc t []).filter g))) ∨ (S2.set l3 (.ft (dtOf P)))[l6]? = some (.ft (dtOf ((plc t []).filter g))) := by
    by_cases q : l6 = l3
    · right
      rw [q] at h62 ⊢
      rw [h32] at h62
      injection h62 with h62
      injection h62 with h62
      rw [← h62]; exact hL3
    · exact .inl (fL.get l6 _ h62 (by show l6 ≠ l3; exact q))
  have l3S := lt_of_at h3
  generalize hSL : S2.set l3 (.ft (dtOf P)) = SL at fL hL3 hL7 hL6
  obtain ⟨ρ', S', e, u8, u9, Q, rfl, f', h7, nd, hq, hm⟩ := loop_all (ck := Ck.tt.ok) (t := .nm 8) (b := b_finds_2 (F (f + 2))) (S := SL) (ρ := ρF t w ls l3 (some (.str go)) (some look) (some (.ref l6)) (some (.ref S1.length)) v8 v9)
    (fun i ρ S' => ∃ (u8 u9 : Option Dv) (Q : List (List Nat)), ρ = ρF t w ls l3 (some (.str go)) (some look) (some (.ref l6)) (some (.ref S1.length)) u8 u9 ∧ Fr (· = S1.length) SL S' ∧ S'[S1.length]? = some (.dt (dtOf Q)) ∧ Q.Nodup ∧ (∀ q ∈ Q, q ∈ plc t []) ∧ ∀ q, q ∈ Q ↔ ∃ p ∈ P.take i, q ∈ goneL t go p ∧ g q = true) (P.map plD)
    ⟨v8, v9, [], rfl, .refl _, hL7, List.nodup_nil, fun q h => (by simp at h), fun q => by rw [List.take_zero]; simp⟩
    (fun i v ρ S' hv ⟨u8, u9, Q, hρ, f', h7, nd, hq, hm⟩ => by
      subst hρ
      rw [List.getElem?_map, Option.map_eq_some_iff] at hv
      obtain ⟨p, hp, rfl⟩ := hv
      have pm := hP p (List.mem_of_getElem? hp)
      obtain ⟨s, hsub, _⟩ := psub pm
      have psz := plc_short t [] p pm
      rw [List.length_nil] at psz
      obtain ⟨S3, w9, Q', e3, f3, h73, nd', hq', hm'⟩ := f_place (f := f) (w := w) (ls := ls) (l3 := l3) (v5 := some look) (v9 := u9) hgo hsub hz (by omega) (hL6.imp (fun h => f'.get l6 _ h (by show l6 ≠ S1.length; exact n6)) (fun h => f'.get l6 _ h (by show l6 ≠ S1.length; exact n6))) h7 nd hq n6
      refine ⟨trivial, _, rfl, _, S3, .inl e3, some (plD p), w9, Q', rfl, f'.trans f3, h73, nd', hq', fun q => ?_⟩
      rw [hm', hm, List.take_add_one, hp]
      constructor
      · rintro (⟨p', h1, h2⟩ | h)
        · exact ⟨p', List.mem_append_left _ h1, h2⟩
        · exact ⟨p, List.mem_append_right _ (by simp), h⟩
      · rintro ⟨p', h1, h2⟩
        rcases List.mem_append.mp h1 with h1 | h1
        · exact .inl ⟨p', h1, h2⟩
        · obtain rfl : p' = p := by simpa using h1
          exact .inr h2)
    (fun _ _ _ => trivial)
  rw [List.length_map, List.take_of_length_le (Nat.le_refl _)] at hm
  have hz3 : S'[l3]? = some (.ft (dtOf P)) := f'.get l3 _ hL3 (by show l3 ≠ S1.length; exact n3)
  refine ⟨S'.set l3 (.dt (dtOf P)), S1.length, some (.ref l6), some (.ref S1.length), u8, u9, Q, ?_, ⟨?_, fun l o ho _ => ?_⟩, ?_, nd, hq, hm⟩
  · unfold b_finds_3
    refine (seq_of (set_of (d := .ref l6) (S' := S1) (by simp only [ev_var, ev_con, ev_bin, ev_un, ev_anil, ev_acons, ev_call, ev_tup, ev_lst, ev_not, ev_and, ev_or, ev_if, ev_cbl, ev_btrue, ev_cand, ev_cor, ev_cnot, ev_sli, ev_onone, ev_osome, ev_chain, ev_meth, ev_get2, ev_newK, ev_newT, ev_own, ev_nil, ev_seq, ev_expr, ev_set, ev_ret, ev_retN, ev_cif, ev_brk, ev_ct, ev_asg, ev_put, ev_aug, ev_for, ev_comp, ev_newL, ev_iseq, ev_irange, ev_ienum, ev_yes, Out.bind_ok, Out.bindN_ok, bindS_ok, Tg.set, Tg.sets, List.getElem?_cons_zero, List.getElem?_cons_succ, List.set_cons_zero, List.set_cons_succ, wipeE, List.length_cons, List.length_nil, Nat.reduceAdd, Nat.reduceLeDiff, Nat.reduceEqDiff, ↓reduceIte, Bool.false_eq_true, decide_eq_true_eq, add_int, sub_int, lt_int, gt_int, le_int, ge_int, neg_int, and_int, or_int, xor_int, max2_int, min2_int, mod_pos, fdiv_sm, mul_sm, mul_smr, Int.reduceLT, Int.reduceNeg, int_bl, int_int, sli_tup, e1]))).trans ?_
    refine (seq_of (set_of (d := .ref S1.length) (S' := S2) (by simp only [ev_var, ev_con, ev_bin, ev_un, ev_anil, ev_acons, ev_call, ev_tup, ev_lst, ev_not, ev_and, ev_or, ev_if, ev_cbl, ev_btrue, ev_cand, ev_cor, ev_cnot, ev_sli, ev_onone, ev_osome, ev_chain, ev_meth, ev_get2, ev_newK, ev_newT, ev_own, ev_nil, ev_seq, ev_expr, ev_set, ev_ret, ev_retN, ev_cif, ev_brk, ev_ct, ev_asg, ev_put, ev_aug, ev_for, ev_comp, ev_newL, ev_iseq, ev_irange, ev_ienum, ev_yes, Out.bind_ok, Out.bindN_ok, bindS_ok, Tg.set, Tg.sets, List.getElem?_cons_zero, List.getElem?_cons_succ, List.set_cons_zero, List.set_cons_succ, wipeE, List.length_cons, List.length_nil, Nat.reduceAdd, Nat.reduceLeDiff, Nat.reduceEqDiff, ↓reduceIte, Bool.false_eq_true, decide_eq_true_eq, add_int, sub_int, lt_int, gt_int, le_int, ge_int, neg_int, and_int, or_int, xor_int, max2_int, min2_int, mod_pos, fdiv_sm, mul_sm, mul_smr, Int.reduceLT, Int.reduceNeg, int_bl, int_int, sli_tup, hS2]))).trans ?_
    have efz : iFz (eVar 3) (ρF t w ls l3 (some (.str go)) (some look) (some (.ref l6)) (some (.ref S1.length)) v8 v9) SL = .ok (P.map plD, .tt) SL := by
      simp only [iFz, ev_var, List.getElem?_cons_zero, List.getElem?_cons_succ, Out.bind_ok, hL3, dt_keys]
    have eD : cForD 3 (.nm 8) (b_finds_2 (F (f + 2))) (ρF t w ls l3 (some (.str go)) (some look) (some (.ref l6)) (some (.ref S1.length)) v8 v9) S2 = .fl (.nx (ρF t w ls l3 (some (.str go)) (some look) (some (.ref l6)) (some (.ref S1.length)) u8 u9)) (S'.set l3 (.dt (dtOf P))) := by
      simp only [cForD, List.getElem?_cons_zero, List.getElem?_cons_succ, h32, hSL]
      rw [(for_of efz).trans e]; rfl
    exact (seq_of eD).trans (set_of rfl)
  · rw [List.length_set]
    have := f'.le; have := fL.le; have := g2.le; have := g1.le; omega
  · by_cases q : l = l3
    · subst q
      rw [h3] at ho
      injection ho with ho
      rw [← ho]
      exact at_set hz3
    · have hlS := lt_of_at ho
      have := g1.le
      have b1 := fL.get l _ (g2.at (g1.at ho)) (by show l ≠ l3; exact q)
      have b2 := f'.get l _ b1 (by show l ≠ S1.length; omega)
      exact (fr_set S' l3 (.dt (dtOf P))).get l _ b2 (by show l ≠ l3; exact q)
  · exact (fr_set S' l3 (.dt (dtOf P))).get S1.length _ h7 (by show S1.length ≠ l3; omega)
theorem top_plc (t : Tr) : [] ∈ plc t [] := by
  obtain ⟨k, ps⟩ := t
  rw [plc]; exact List.mem_cons_self
theorem chain_in {t : Tr} {gE : En → List Nat → Bool} : ∀ (ps : List (Str × En)) (p q : List Nat), p ∈ plc t [] → Chain t gE ps p q → q ∈ plc t []
  | [], p, q, hp, h => by
    obtain rfl : p = q := h
    exact hp
  | x :: r, p, q, hp, ⟨p', a, _, c⟩ => by
    obtain ⟨s, hs, _⟩ := psub hp
    exact chain_in r p' q (gone_in hs a) c
theorem chain_ne {t : Tr} {gE : En → List Nat → Bool} {ps : List (Str × En)} {p q : List Nat} (hne : ps ≠ []) (h : Chain t gE ps p q) : q ≠ [] := by
  rcases List.eq_nil_or_concat ps with e | ⟨l, x, e⟩
  · exact absurd e hne
  · rw [List.concat_eq_append] at e
    subst e
    obtain ⟨p', _, a, _⟩ := (chain_snoc l p q).mp h
    exact gone_ne a
theorem kInt_T (p : List Nat) : (keyT p).all kInt = true := by
  unfold keyT
  rw [List.all_map, List.all_eq_true]
  exact fun x _ => rfl
/-- what a way finds -/
def findG (t : Tr) (gE : En → List Nat → Bool) (ps : List (Str × En)) (q : List Nat) : Bool := wayB t gE (fun q' => decide (q' = q)) ps []
theorem findG_chain {t : Tr} {gE : En → List Nat → Bool} {ps : List (Str × En)} {q : List Nat} : findG t gE ps q = true ↔ Chain t gE ps [] q := by
  unfold findG
  rw [wayB_chain]
  exact ⟨fun ⟨q', h, e⟩ => by rw [← of_decide_eq_true e]; exact h, fun h => ⟨q, h, decide_eq_true rfl⟩⟩
theorem finds_run {f : Nat} {t : Tr} {h : Nat} {gE : En → List Nat → Bool} {ps : List (Str × En)} {S : Sto} (hz : siz t ≤ 900) (hne : ps ≠ []) (hk : ∀ x ∈ ps, x.1 ∈ goW ∧ Hd t h x.2.look (gE x.2)) (hf : 2 * h + 4 ≤ f) :
    ∃ (l : Nat) (S' : Sto), F (f + 1) .finds [trD t, .tup (ps.map fun x => Dv.tup [.str x.1, x.2.look])] S = .ok (.ref l) S' ∧ Gr S S' ∧ S.length ≤ l ∧ S'[l]? = some (.lst (((plc t []).filter (findG t gE ps)).map plD)) := by
  obtain ⟨f, rfl⟩ : ∃ k, f = k + 2 := ⟨f - 2, by omega⟩
  rw [F_finds]
  obtain ⟨ls, S1, e1, g1, _, hs⟩ := places_run (f := f + 1) (t := t) (S := S) hz
  have g2 := gr_app S1 [Ob.dt []]
  have a2 := at_new S1 (.dt [])
  have f3 := fr_set (S1 ++ [Ob.dt []]) S1.length (.dt (dtOf [[]]))
  have a3 := at_set (o := .dt (dtOf [[]])) a2
  have ed : ∀ ρ, eDisp1 (eTup (aNil), eCon (.bl true)) ρ S1 = .ok (.ref S1.length) ((S1 ++ [Ob.dt []]).set S1.length (.dt (dtOf [[]]))) := fun ρ => by
    simp only [eDisp1, evPairs, ev_var, ev_con, ev_bin, ev_un, ev_anil, ev_acons, ev_call, ev_tup, ev_lst, ev_not, ev_and, ev_or, ev_if, ev_cbl, ev_btrue, ev_cand, ev_cor, ev_cnot, ev_sli, ev_onone, ev_osome, ev_chain, ev_meth, ev_get2, ev_newK, ev_newT, ev_own, ev_nil, ev_seq, ev_expr, ev_set, ev_ret, ev_retN, ev_cif, ev_brk, ev_ct, ev_asg, ev_put, ev_aug, ev_for, ev_comp, ev_newL, ev_iseq, ev_irange, ev_ienum, ev_yes, Out.bind_ok, Out.bindN_ok, bindS_ok, Tg.set, Tg.sets, List.getElem?_cons_zero, List.getElem?_cons_succ, List.set_cons_zero, List.set_cons_succ, wipeE, List.length_cons, List.length_nil, Nat.reduceAdd, Nat.reduceLeDiff, Nat.reduceEqDiff, ↓reduceIte, Bool.false_eq_true, decide_eq_true_eq, add_int, sub_int, lt_int, gt_int, le_int, ge_int, neg_int, and_int, or_int, xor_int, max2_int, min2_int, mod_pos, fdiv_sm, mul_sm, mul_smr, Int.reduceLT, Int.reduceNeg, int_bl, int_int, sli_tup, sline 0 (by omega), a2]
    rfl
  have g13 : Gr S1 ((S1 ++ [Ob.dt []]).set S1.length (.dt (dtOf [[]]))) := Gr.new g2 f3 (fun l z => by omega)
  generalize (S1 ++ [Ob.dt []]).set S1.length (.dt (dtOf [[]])) = S3 at a3 ed g13
  have hs3 := g13.at hs
  obtain ⟨ρ', S4, e4, l3, v4, v5, v6, v7, v8, v9, P, rfl, g4, h4, nd, hP, hm⟩ := loop_all (ck := Ck.tt.ok) (t := .tp [.nm 4, .nm 5]) (b := b_finds_3 (F (f + 2))) (S := S3) (ρ := ρF t (.tup (ps.map fun x => Dv.tup [.str x.1, x.2.look])) ls S1.length none none none none none none)
    (fun i ρ S' => ∃ (l3 : Nat) (v4 v5 v6 v7 v8 v9 : Option Dv) (P : List (List Nat)), ρ = ρF t (.tup (ps.map fun x => Dv.tup [.str x.1, x.2.look])) ls l3 v4 v5 v6 v7 v8 v9 ∧ Gr S3 S' ∧ S'[l3]? = some (.dt (dtOf P)) ∧ P.Nodup ∧ (∀ q ∈ P, q ∈ plc t []) ∧ ∀ q, q ∈ P ↔ Chain t gE (ps.take i) [] q) (ps.map fun x => Dv.tup [.str x.1, x.2.look])
    ⟨S1.length, none, none, none, none, none, none, [[]], rfl, .refl _, a3, by simp, fun q hq => by rw [List.mem_singleton] at hq; rw [hq]; exact top_plc t, fun q => by
      rw [List.take_zero, List.mem_singleton]
      exact ⟨fun e => e.symm, fun e => Eq.symm e⟩⟩
    (fun i v ρ S' hv ⟨l3, v4, v5, v6, v7, v8, v9, P, hρ, g', h', nd, hP, hm⟩ => by
      subst hρ
      rw [List.getElem?_map, Option.map_eq_some_iff] at hv
      obtain ⟨x, hx, rfl⟩ := hv
      obtain ⟨kgo, kh⟩ := hk x (List.mem_of_getElem? hx)
      obtain ⟨S5, l, u6, u7, u8, u9, P', e5, g5, h5, nd', hP', hm'⟩ := f_step (f := f) (w := .tup (ps.map fun x => Dv.tup [.str x.1, x.2.look])) (v6 := v6) (v7 := v7) (v8 := v8) (v9 := v9) kgo hz hf kh (g'.at hs3) h' hP
      refine ⟨trivial, _, rfl, _, S5, .inl e5, l, _, _, _, _, _, _, P', rfl, g'.trans g5, h5, nd', hP', fun q => ?_⟩
      have tk : ps.take (i + 1) = ps.take i ++ [x] := by rw [List.take_add_one, hx]; rfl
      rw [hm', tk, chain_snoc]
      exact ⟨fun ⟨p, a, b⟩ => ⟨p, (hm p).mp a, b⟩, fun ⟨p, a, b⟩ => ⟨p, (hm p).mpr a, b⟩⟩)
    (fun _ _ _ => trivial)
  rw [List.length_map, List.take_of_length_le (Nat.le_refl _)] at hm
  have hall : ((dtOf P).all fun kv => !kv.1.isEmpty && kv.1.all kInt) = true := List.all_eq_true.mpr fun kv hkv => by
    obtain ⟨p, hp, rfl⟩ := List.mem_map.mp hkv
    have := chain_ne hne ((hm p).mp hp)
    show (!(keyT p).isEmpty && (keyT p).all kInt) = true
    rw [kInt_T, Bool.and_true]
    cases p with
    | nil => exact absurd rfl this
    | cons a r => rfl
  have es := sortT_ref h4 hall
  have esp := sort_places (t := t) (g := findG t gE ps) nd (fun q => by
    rw [hm, findG_chain]
    exact ⟨fun c => ⟨chain_in ps [] q (top_plc t) c, c⟩, fun c => c.2⟩)
  rw [esp, List.map_map] at es
  have ek : ((plc t []).filter (findG t gE ps)).map ((fun k => Dv.tup (k.map kD)) ∘ keyT) = ((plc t []).filter (findG t gE ps)).map plD := by
    refine List.map_congr_left fun p _ => ?_
    show Dv.tup ((keyT p).map kD) = plD p
    unfold keyT plD
    rw [List.map_map]; rfl
  rw [ek, ev_newL] at es
  refine ⟨S4.length, _, ?_, ((g1.trans g13).trans g4).trans (gr_app _ [Ob.lst (((plc t []).filter (findG t gE ps)).map plD)]), ((g1.trans g13).trans g4).le, at_new _ _⟩
  refine runF_rt (ρ := [some (trD t), some (.tup (ps.map fun x => Dv.tup [.str x.1, x.2.look])), none, none, none, none, none, none, none, none]) rfl rfl ?_
  unfold c_finds
  refine (seq_of (set_of (d := .ref ls) (S' := S1) (by simp only [ev_var, ev_con, ev_bin, ev_un, ev_anil, ev_acons, ev_call, ev_tup, ev_lst, ev_not, ev_and, ev_or, ev_if, ev_cbl, ev_btrue, ev_cand, ev_cor, ev_cnot, ev_sli, ev_onone, ev_osome, ev_chain, ev_meth, ev_get2, ev_newK, ev_newT, ev_own, ev_nil, ev_seq, ev_expr, ev_set, ev_ret, ev_retN, ev_cif, ev_brk, ev_ct, ev_asg, ev_put, ev_aug, ev_for, ev_comp, ev_newL, ev_iseq, ev_irange, ev_ienum, ev_yes, Out.bind_ok, Out.bindN_ok, bindS_ok, Tg.set, Tg.sets, List.getElem?_cons_zero, List.getElem?_cons_succ, List.set_cons_zero, List.set_cons_succ, wipeE, List.length_cons, List.length_nil, Nat.reduceAdd, Nat.reduceLeDiff, Nat.reduceEqDiff, ↓reduceIte, Bool.false_eq_true, decide_eq_true_eq, add_int, sub_int, lt_int, gt_int, le_int, ge_int, neg_int, and_int, or_int, xor_int, max2_int, min2_int, mod_pos, fdiv_sm, mul_sm, mul_smr, Int.reduceLT, Int.reduceNeg, int_bl, int_int, sli_tup, e1]))).trans ?_
  refine (seq_of (set_of (d := .ref S1.length) (S' := S3) (ed _))).trans ?_
  have ez : (PL.iSeq (eVar 1)) (ρF t (.tup (ps.map fun x => Dv.tup [.str x.1, x.2.look])) ls S1.length none none none none none none) S3 = .ok (ps.map fun x => Dv.tup [.str x.1, x.2.look], .tt) S3 := by
    simp only [ev_var, ev_con, ev_bin, ev_un, ev_anil, ev_acons, ev_call, ev_tup, ev_lst, ev_not, ev_and, ev_or, ev_if, ev_cbl, ev_btrue, ev_cand, ev_cor, ev_cnot, ev_sli, ev_onone, ev_osome, ev_chain, ev_meth, ev_get2, ev_newK, ev_newT, ev_own, ev_nil, ev_seq, ev_expr, ev_set, ev_ret, ev_retN, ev_cif, ev_brk, ev_ct, ev_asg, ev_put, ev_aug, ev_for, ev_comp, ev_newL, ev_iseq, ev_irange, ev_ienum, ev_yes, Out.bind_ok, Out.bindN_ok, bindS_ok, Tg.set, Tg.sets, List.getElem?_cons_zero, List.getElem?_cons_succ, List.set_cons_zero, List.set_cons_succ, wipeE, List.length_cons, List.length_nil, Nat.reduceAdd, Nat.reduceLeDiff, Nat.reduceEqDiff, ↓reduceIte, Bool.false_eq_true, decide_eq_true_eq, add_int, sub_int, lt_int, gt_int, le_int, ge_int, neg_int, and_int, or_int, xor_int, max2_int, min2_int, mod_pos, fdiv_sm, mul_sm, mul_smr, Int.reduceLT, Int.reduceNeg, int_bl, int_int, sli_tup]; rfl
  exact (seq_of ((for_of ez).trans e4)).trans (ret_of (by simp only [ev_var, ev_con, ev_bin, ev_un, ev_anil, ev_acons, ev_call, ev_tup, ev_lst, ev_not, ev_and, ev_or, ev_if, ev_cbl, ev_btrue, ev_cand, ev_cor, ev_cnot, ev_sli, ev_onone, ev_osome, ev_chain, ev_meth, ev_get2, ev_newK, ev_newT, ev_own, ev_nil, ev_seq, ev_expr, ev_set, ev_ret, ev_retN, ev_cif, ev_brk, ev_ct, ev_asg, ev_put, ev_aug, ev_for, ev_comp, ev_newL, ev_iseq, ev_irange, ev_ienum, ev_yes, Out.bind_ok, Out.bindN_ok, bindS_ok, Tg.set, Tg.sets, List.getElem?_cons_zero, List.getElem?_cons_succ, List.set_cons_zero, List.set_cons_succ, wipeE, List.length_cons, List.length_nil, Nat.reduceAdd, Nat.reduceLeDiff, Nat.reduceEqDiff, ↓reduceIte, Bool.false_eq_true, decide_eq_true_eq, add_int, sub_int, lt_int, gt_int, le_int, ge_int, neg_int, and_int, or_int, xor_int, max2_int, min2_int, mod_pos, fdiv_sm, mul_sm, mul_smr, Int.reduceLT, Int.reduceNeg, int_bl, int_int, sli_tup, es]))
/-! steps, drawn -/
def go5 : List Dv := [.str "down", .str "deep", .str "deep", .str "later", .str "down"]
theorem go5_at {i : Int} (h0 : 0 ≤ i) (h1 : i < 5) : ∃ go : Str, go ∈ goW ∧ L2.atI go5 i = some (.str go) := by
  rcases (show i = 0 ∨ i = 1 ∨ i = 2 ∨ i = 3 ∨ i = 4 by omega) with rfl | rfl | rfl | rfl | rfl
  · exact ⟨"down", by decide, rfl⟩
  · exact ⟨"deep", by decide, rfl⟩
  · exact ⟨"deep", by decide, rfl⟩
  · exact ⟨"later", by decide, rfl⟩
  · exact ⟨"down", by decide, rfl⟩
def sgD (x : Str × En) : Dv := .tup [.tup [.str x.1, x.2.look], .int x.2.n]
def StOk (t : Tr) (x : Str × En) : Prop := x.1 ∈ goW ∧ ∃ g, Hd t 1 x.2.look g ∧ x.2.n = mkI ((plc t []).map g)
theorem step_run {f ln lr : Nat} {c : Int} {names : List Str} {R : List (Nat × Str)} {t : Tr} {S : Sto} (hn : Nms S ln names) (hr : S[lr]? = some (.lst (R.map rowD))) (ef : R = flat t 0) (hz : siz t ≤ 900) (kt : SkT t) : ∃ (x : Str × En) (S' : Sto), F (f + 2) .l_step [.int c, .ref ln, .ref lr] S = .ok (sgD x) S' ∧ Gr S S' ∧ StOk t x := by
  rw [F_l_step]
  have hRl : R.length = siz t := by rw [ef, flat_len]
  have hRk : R.map (·.2) = kds t := by rw [ef, flat_kds]
  have hPl : (plc t []).length = siz t := plc_len t []
  have hsk : ∀ r ∈ R, Sk r.2 := fun r hr => kt r.2 (by rw [← hRk]; exact List.mem_map.mpr ⟨r, hr, rfl⟩)
  have g1 := gr_app S [Ob.lst go5]
  have a1 := at_new S (.lst go5)
  generalize hS1 : S ++ [Ob.lst go5] = S1 at g1 a1
  have m12 := mix_run (f := f) (c := c) (k := 12) (S := S1) (by omega) (by omega)
  have m10 := mix_run (f := f) (c := c) (k := 13) (S := S1) (by omega) (by omega)
  have m14 := mix_run (f := f) (c := c) (k := 14) (S := S1) (by omega) (by omega)
  obtain ⟨go, hgo, hat⟩ := go5_at (Int.emod_nonneg (mx c 12) (b := 5) (by omega)) (Int.emod_lt_of_pos (mx c 12) (b := 5) (by omega))
  have ix := idx_ref a1 hat
  have hr1 := g1.at hr
  have hn1 := hn.gr g1
  have lrl := len_ref hr1
  rw [List.length_map] at lrl
  have start : ∀ {b : RC} {o : OutS}, b [some (.int c), some (.ref ln), some (.ref lr), some (.str go), none, none, none, none] S1 = o →
      (cSeq (cSet 3 (eBin idxD (eLst (aCons (eCon (.str "down")) (aCons (eCon (.str "deep")) (aCons (eCon (.str "deep")) (aCons (eCon (.str "later")) (aCons (eCon (.str "down")) (aNil))))))) (eBin modD (eOwn 2 (F (f + 1) .l_mix) (aCons (eVar 0) (aCons (eCon (.int 12)) (aNil)))) (eCon (.int 5))))) b) [some (.int c), some (.ref ln), some (.ref lr), none, none, none, none, none] S = o := fun {b o} hb => by
    refine (seq_of (set_of (d := .str go) (S' := S1) ?_)).trans hb
    have e5 : ([.str "down", .str "deep", .str "deep", .str "later", .str "down"] : List Dv) = go5 := rfl
    have e6 : go5.length ≤ sizeLine := sline 5 (by omega)
    simp only [ev_var, ev_con, ev_bin, ev_un, ev_anil, ev_acons, ev_call, ev_tup, ev_lst, ev_not, ev_and, ev_or, ev_if, ev_cbl, ev_btrue, ev_cand, ev_cor, ev_cnot, ev_sli, ev_onone, ev_osome, ev_chain, ev_meth, ev_get2, ev_newK, ev_newT, ev_own, ev_nil, ev_seq, ev_expr, ev_set, ev_ret, ev_retN, ev_cif, ev_brk, ev_ct, ev_asg, ev_put, ev_aug, ev_for, ev_comp, ev_newL, ev_iseq, ev_irange, ev_ienum, ev_yes, Out.bind_ok, Out.bindN_ok, bindS_ok, Tg.set, Tg.sets, List.getElem?_cons_zero, List.getElem?_cons_succ, List.set_cons_zero, List.set_cons_succ, wipeE, List.length_cons, List.length_nil, Nat.reduceAdd, Nat.reduceLeDiff, Nat.reduceEqDiff, ↓reduceIte, Bool.false_eq_true, decide_eq_true_eq, add_int, sub_int, lt_int, gt_int, le_int, ge_int, neg_int, and_int, or_int, xor_int, max2_int, min2_int, mod_pos, fdiv_sm, mul_sm, mul_smr, Int.reduceLT, Int.reduceNeg, int_bl, int_int, sli_tup, e5, e6, hS1, m12, ix]
  by_cases q0 : mx c 13 % 3 = 0
  · have sh := shl01 (S := S1) (i := 1) (j := (R.length : Int)) (.inr rfl) (by omega) (by omega)
    rw [Int.toNat_natCast] at sh
    refine ⟨(go, ⟨.tup [.str "any"], 1 * 2 ^ R.length - 1, 1, 1⟩), S1, runF_rt (ρ := [some (.int c), some (.ref ln), some (.ref lr), none, none, none, none, none]) rfl rfl ?_, g1, hgo, _, (hd_any hz).up (by omega), ?_⟩
    · unfold c_l_step
      refine start ?_
      exact seq_rt ((if_t (S' := S1) (by simp only [ev_var, ev_con, ev_bin, ev_un, ev_anil, ev_acons, ev_call, ev_tup, ev_lst, ev_not, ev_and, ev_or, ev_if, ev_cbl, ev_btrue, ev_cand, ev_cor, ev_cnot, ev_sli, ev_onone, ev_osome, ev_chain, ev_meth, ev_get2, ev_newK, ev_newT, ev_own, ev_nil, ev_seq, ev_expr, ev_set, ev_ret, ev_retN, ev_cif, ev_brk, ev_ct, ev_asg, ev_put, ev_aug, ev_for, ev_comp, ev_newL, ev_iseq, ev_irange, ev_ienum, ev_yes, Out.bind_ok, Out.bindN_ok, bindS_ok, Tg.set, Tg.sets, List.getElem?_cons_zero, List.getElem?_cons_succ, List.set_cons_zero, List.set_cons_succ, wipeE, List.length_cons, List.length_nil, Nat.reduceAdd, Nat.reduceLeDiff, Nat.reduceEqDiff, ↓reduceIte, Bool.false_eq_true, decide_eq_true_eq, add_int, sub_int, lt_int, gt_int, le_int, ge_int, neg_int, and_int, or_int, xor_int, max2_int, min2_int, mod_pos, fdiv_sm, mul_sm, mul_smr, Int.reduceLT, Int.reduceNeg, int_bl, int_int, sli_tup, m10, eq_int, q0, decide_true])).trans (ret_of (by simp only [ev_var, ev_con, ev_bin, ev_un, ev_anil, ev_acons, ev_call, ev_tup, ev_lst, ev_not, ev_and, ev_or, ev_if, ev_cbl, ev_btrue, ev_cand, ev_cor, ev_cnot, ev_sli, ev_onone, ev_osome, ev_chain, ev_meth, ev_get2, ev_newK, ev_newT, ev_own, ev_nil, ev_seq, ev_expr, ev_set, ev_ret, ev_retN, ev_cif, ev_brk, ev_ct, ev_asg, ev_put, ev_aug, ev_for, ev_comp, ev_newL, ev_iseq, ev_irange, ev_ienum, ev_yes, Out.bind_ok, Out.bindN_ok, bindS_ok, Tg.set, Tg.sets, List.getElem?_cons_zero, List.getElem?_cons_succ, List.set_cons_zero, List.set_cons_succ, wipeE, List.length_cons, List.length_nil, Nat.reduceAdd, Nat.reduceLeDiff, Nat.reduceEqDiff, ↓reduceIte, Bool.false_eq_true, decide_eq_true_eq, add_int, sub_int, lt_int, gt_int, le_int, ge_int, neg_int, and_int, or_int, xor_int, max2_int, min2_int, mod_pos, fdiv_sm, mul_sm, mul_smr, Int.reduceLT, Int.reduceNeg, int_bl, int_int, sli_tup, lrl, sh, sline 1 (by omega), sline 2 (by omega)]; rfl)))
    · show (1 * 2 ^ R.length - 1 : Int) = _
      rw [hRl, ← hPl]; exact every_mk _
  obtain ⟨d, hd, ed⟩ := atI_mod (xs := names.map Dv.str) (by intro z; have := congrArg List.length z; simp [hn.len] at this) (mx c 14)
  obtain ⟨x, hx, rfl⟩ := List.mem_map.mp hd
  rw [List.length_map, hn.len] at ed
  have ex : idxD (.ref ln) (.int (mx c 14 % 5)) S1 = .ok (.str x) S1 := idx_ref hn1.h ed
  have kx := hn.sk x hx
  obtain ⟨ρ', S', e, v6, v7, rfl, hS⟩ := loop_all (ck := (Ck.ls lr (R.map rowD)).ok) (t := .tp [.nm 6, .nm 7]) (b := b_l_step_1 (F (f + 1))) (S := S1) (ρ := [some (.int c), some (.ref ln), some (.ref lr), some (.str go), some (.str x), some (.int 0), none, none])
    (fun i ρ S' => ∃ (v6 v7 : Option Dv), ρ = [some (.int c), some (.ref ln), some (.ref lr), some (.str go), some (.str x), some (.int (mkI ((R.take i).map fun r => decide (r.2 = x)))), v6, v7] ∧ S' = S1) (enumL (R.map rowD)) ⟨none, none, rfl, rfl⟩
    (fun i v ρ S' hv ⟨v6, v7, hρ, hS⟩ => by
      subst hρ hS
      rw [enumL_get, List.getElem?_map, Option.map_map, Option.map_eq_some_iff] at hv
      obtain ⟨r, hr0, rfl⟩ := hv
      have hi := (List.getElem?_eq_some_iff.mp hr0).1
      have kr := hsk r (List.mem_of_getElem? hr0)
      rw [Nat.zero_add]
      refine ⟨hr1, _, rfl, ?_⟩
      have e1 : idxD (rowD r) (.int 1) S' = .ok (.str r.2) S' := idx_t1
      have ib : intD [.bl (decide (r.2 = x))] S' = .ok (.int (if decide (r.2 = x) = true then 1 else 0)) S' := int_bl _
      have sh := shl01 (S := S') (i := if decide (r.2 = x) = true then 1 else 0) (j := ((i : Nat) : Int)) (by split <;> simp) (by omega) (by omega)
      rw [Int.toNat_natCast] at sh
      have tl : ((R.take i).map fun r => decide (r.2 = x)).length = i := by rw [List.length_map, List.length_take]; omega
      have os := or_snoc ((R.take i).map fun r => decide (r.2 = x)) (decide (r.2 = x))
      rw [tl] at os
      have tk : (R.take (i + 1)).map (fun r => decide (r.2 = x)) = (R.take i).map (fun r => decide (r.2 = x)) ++ [decide (r.2 = x)] := by rw [List.take_add_one, hr0, List.map_append]; rfl
      refine ⟨[some (.int c), some (.ref ln), some (.ref lr), some (.str go), some (.str x), some (.int (mkI ((R.take (i + 1)).map fun r => decide (r.2 = x)))), some (.int ((i : Nat) : Int)), some (rowD r)], S', .inl ?_, _, _, rfl, rfl⟩
      unfold b_l_step_1
      rw [tk, ← os]
      refine set_of ?_
      simp only [ev_bin, ev_var, ev_con, ev_call, ev_acons, ev_anil, Out.bind_ok, List.getElem?_cons_zero, List.getElem?_cons_succ, List.set_cons_zero, List.set_cons_succ, Tg.set, Tg.sets, e1, eq_str kr kx, ib, sh, or_int])
    (fun ρ S' ⟨v6, v7, hρ, hS⟩ => by subst hS; exact hr1)
  subst hS
  rw [enumL_len, List.length_map, List.take_of_length_le (Nat.le_refl _)] at e
  refine ⟨(go, ⟨.tup [.str "kind", .str x], mkI (R.map fun r => decide (r.2 = x)), 1, 1⟩), S', runF_rt (ρ := [some (.int c), some (.ref ln), some (.ref lr), none, none, none, none, none]) rfl rfl ?_, g1, hgo, _, (hd_kind hz kt kx).up (by omega), ?_⟩
  · unfold c_l_step
    refine start ?_
    refine (seq_of ((if_f (S' := S') (by simp only [ev_var, ev_con, ev_bin, ev_un, ev_anil, ev_acons, ev_call, ev_tup, ev_lst, ev_not, ev_and, ev_or, ev_if, ev_cbl, ev_btrue, ev_cand, ev_cor, ev_cnot, ev_sli, ev_onone, ev_osome, ev_chain, ev_meth, ev_get2, ev_newK, ev_newT, ev_own, ev_nil, ev_seq, ev_expr, ev_set, ev_ret, ev_retN, ev_cif, ev_brk, ev_ct, ev_asg, ev_put, ev_aug, ev_for, ev_comp, ev_newL, ev_iseq, ev_irange, ev_ienum, ev_yes, Out.bind_ok, Out.bindN_ok, bindS_ok, Tg.set, Tg.sets, List.getElem?_cons_zero, List.getElem?_cons_succ, List.set_cons_zero, List.set_cons_succ, wipeE, List.length_cons, List.length_nil, Nat.reduceAdd, Nat.reduceLeDiff, Nat.reduceEqDiff, ↓reduceIte, Bool.false_eq_true, decide_eq_true_eq, add_int, sub_int, lt_int, gt_int, le_int, ge_int, neg_int, and_int, or_int, xor_int, max2_int, min2_int, mod_pos, fdiv_sm, mul_sm, mul_smr, Int.reduceLT, Int.reduceNeg, int_bl, int_int, sli_tup, m10, eq_int, q0, decide_false])).trans rfl)).trans ?_
    refine (seq_of (set_of (d := .str x) (S' := S') (by simp only [ev_var, ev_con, ev_bin, ev_un, ev_anil, ev_acons, ev_call, ev_tup, ev_lst, ev_not, ev_and, ev_or, ev_if, ev_cbl, ev_btrue, ev_cand, ev_cor, ev_cnot, ev_sli, ev_onone, ev_osome, ev_chain, ev_meth, ev_get2, ev_newK, ev_newT, ev_own, ev_nil, ev_seq, ev_expr, ev_set, ev_ret, ev_retN, ev_cif, ev_brk, ev_ct, ev_asg, ev_put, ev_aug, ev_for, ev_comp, ev_newL, ev_iseq, ev_irange, ev_ienum, ev_yes, Out.bind_ok, Out.bindN_ok, bindS_ok, Tg.set, Tg.sets, List.getElem?_cons_zero, List.getElem?_cons_succ, List.set_cons_zero, List.set_cons_succ, wipeE, List.length_cons, List.length_nil, Nat.reduceAdd, Nat.reduceLeDiff, Nat.reduceEqDiff, ↓reduceIte, Bool.false_eq_true, decide_eq_true_eq, add_int, sub_int, lt_int, gt_int, le_int, ge_int, neg_int, and_int, or_int, xor_int, max2_int, min2_int, mod_pos, fdiv_sm, mul_sm, mul_smr, Int.reduceLT, Int.reduceNeg, int_bl, int_int, sli_tup, m14, ex]))).trans ?_
    refine (seq_of (set_of (d := .int 0) (S' := S') rfl)).trans ?_
    have ez : (iEnumA (aCons (eVar 2) (aNil))) [some (.int c), some (.ref ln), some (.ref lr), some (.str go), some (.str x), some (.int 0), none, none] S' = .ok (enumL (R.map rowD), .ls lr (R.map rowD)) S' := by
      simp only [iEnumA, ev_var, ev_con, ev_bin, ev_un, ev_anil, ev_acons, ev_call, ev_tup, ev_lst, ev_not, ev_and, ev_or, ev_if, ev_cbl, ev_btrue, ev_cand, ev_cor, ev_cnot, ev_sli, ev_onone, ev_osome, ev_chain, ev_meth, ev_get2, ev_newK, ev_newT, ev_own, ev_nil, ev_seq, ev_expr, ev_set, ev_ret, ev_retN, ev_cif, ev_brk, ev_ct, ev_asg, ev_put, ev_aug, ev_for, ev_comp, ev_newL, ev_iseq, ev_irange, ev_ienum, ev_yes, Out.bind_ok, Out.bindN_ok, bindS_ok, Tg.set, Tg.sets, List.getElem?_cons_zero, List.getElem?_cons_succ, List.set_cons_zero, List.set_cons_succ, wipeE, List.length_cons, List.length_nil, Nat.reduceAdd, Nat.reduceLeDiff, Nat.reduceEqDiff, ↓reduceIte, Bool.false_eq_true, decide_eq_true_eq, add_int, sub_int, lt_int, gt_int, le_int, ge_int, neg_int, and_int, or_int, xor_int, max2_int, min2_int, mod_pos, fdiv_sm, mul_sm, mul_smr, Int.reduceLT, Int.reduceNeg, int_bl, int_int, sli_tup, seq_lst (lst_ref hr1)]; rfl
    refine (seq_of ((for_of ez).trans e)).trans ?_
    exact ret_of (by simp only [ev_var, ev_con, ev_bin, ev_un, ev_anil, ev_acons, ev_call, ev_tup, ev_lst, ev_not, ev_and, ev_or, ev_if, ev_cbl, ev_btrue, ev_cand, ev_cor, ev_cnot, ev_sli, ev_onone, ev_osome, ev_chain, ev_meth, ev_get2, ev_newK, ev_newT, ev_own, ev_nil, ev_seq, ev_expr, ev_set, ev_ret, ev_retN, ev_cif, ev_brk, ev_ct, ev_asg, ev_put, ev_aug, ev_for, ev_comp, ev_newL, ev_iseq, ev_irange, ev_ienum, ev_yes, Out.bind_ok, Out.bindN_ok, bindS_ok, Tg.set, Tg.sets, List.getElem?_cons_zero, List.getElem?_cons_succ, List.set_cons_zero, List.set_cons_succ, wipeE, List.length_cons, List.length_nil, Nat.reduceAdd, Nat.reduceLeDiff, Nat.reduceEqDiff, ↓reduceIte, Bool.false_eq_true, decide_eq_true_eq, add_int, sub_int, lt_int, gt_int, le_int, ge_int, neg_int, and_int, or_int, xor_int, max2_int, min2_int, mod_pos, fdiv_sm, mul_sm, mul_smr, Int.reduceLT, Int.reduceNeg, int_bl, int_int, sli_tup, sline 2 (by omega)]; rfl)
  · have : (R.map fun r => decide (r.2 = x)) = (plc t []).map fun p => decide (kindAt t p = x) := by
      have h1 : (R.map fun r => decide (r.2 = x)) = (R.map (·.2)).map fun k => decide (k = x) := by rw [List.map_map]; rfl
      have h2 : ((plc t []).map fun p => decide (kindAt t p = x)) = ((plc t []).map (kindAt t)).map fun k => decide (k = x) := by rw [List.map_map]; rfl
      rw [h1, h2, hRk, kinds_kds]
    show mkI (R.map fun r => decide (r.2 = x)) = _
    rw [this]
/-! gone along by bits -/
theorem mk_none (P : List (List Nat)) : (0 : Int) = mkI (P.map fun _ => false) := by
  show _ = ((mkN _ : Nat) : Int)
  have : mkN (P.map fun _ => false) = 0 := by
    refine (mkN_ext (x := 0) fun j => ?_).symm
    rw [Nat.zero_testBit, getD_map]
    cases P[j]? <;> rfl
  rw [this]; rfl
theorem gone_bits {f lg : Nat} {t : Tr} {go : Str} {H : List Nat → Bool} {S : Sto} (hz : siz t ≤ 900) (hg : S[lg]? = some (.lst ((MRt t go).map .int))) : F (f + 1) .l_gone_to [.ref lg, .int (mkI ((plc t []).map H))] S = .ok (.int (mkI ((plc t []).map fun q => (plc t []).any fun p => H p && decide (q ∈ goneL t go p)))) S := by
  rw [F_l_gone_to]
  have hPl : (plc t []).length = siz t := plc_len t []
  obtain ⟨ρ', S', e, v3, v4, rfl, hS⟩ := loop_all (ck := (Ck.ls lg ((MRt t go).map .int)).ok) (t := .tp [.nm 3, .nm 4]) (b := b_l_gone_to_1 (F f)) (S := S) (ρ := [some (.ref lg), some (.int (mkI ((plc t []).map H))), some (.int 0), none, none])
    (fun i ρ S' => ∃ v3 v4, ρ = [some (.ref lg), some (.int (mkI ((plc t []).map H))), some (.int (mkI ((plc t []).map fun q => ((plc t []).take i).any fun p => H p && decide (q ∈ goneL t go p)))), v3, v4] ∧ S' = S) (enumL ((MRt t go).map .int)) ⟨none, none, by rw [List.take_zero, mk_none (plc t [])]; rfl, rfl⟩
    (fun i v ρ S' hv ⟨v3, v4, hρ, hS⟩ => by
      subst hρ hS
      rw [enumL_get, List.getElem?_map, Option.map_map, Option.map_eq_some_iff] at hv
      obtain ⟨m, hm0, rfl⟩ := hv
      rw [Nat.zero_add]
      unfold MRt at hm0
      rw [List.getElem?_map, Option.map_eq_some_iff] at hm0
      obtain ⟨p, hp, rfl⟩ := hm0
      refine ⟨hg, _, rfl, ?_⟩
      have sr := shr_int (S := S') (i := mkI ((plc t []).map H)) (j := ((i : Nat) : Int)) (by omega)
      rw [Int.toNat_natCast] at sr
      have ba : (andD (.int (mkI ((plc t []).map H) / 2 ^ i)) (.int 1) S').bind (fun d S => eqD d (.int 1) S) = .ok (.bl (H p)) S' := by
        rw [and1_int, Out.bind_ok, eq_int, bit_mk, getD_map, hp]
      have tk : ∀ q, ((plc t []).take (i + 1)).any (fun p => H p && decide (q ∈ goneL t go p)) = (((plc t []).take i).any (fun p => H p && decide (q ∈ goneL t go p)) || (H p && decide (q ∈ goneL t go p))) := fun q => by
        rw [List.take_add_one, hp, List.any_append]; simp
      have tst : (cBl (eBin eqD (eBin andD (eBin shrD (eVar 1) (eVar 3)) (eCon (.int 1))) (eCon (.int 1)))) [some (.ref lg), some (.int (mkI ((plc t []).map H))), some (.int (mkI ((plc t []).map fun q => ((plc t []).take i).any fun p => H p && decide (q ∈ goneL t go p)))), some (.int ((i : Nat) : Int)), some (.int (mkI ((plc t []).map fun q => decide (q ∈ goneL t go p))))] S' = .ok (H p) S' := by
        simp only [ev_cbl, ev_bin, ev_var, ev_con, Out.bind_ok, List.getElem?_cons_zero, List.getElem?_cons_succ, sr, ba, ev_btrue]
      refine ⟨[some (.ref lg), some (.int (mkI ((plc t []).map H))), some (.int (mkI ((plc t []).map fun q => ((plc t []).take (i + 1)).any fun p => H p && decide (q ∈ goneL t go p)))), some (.int ((i : Nat) : Int)), some (.int (mkI ((plc t []).map fun q => decide (q ∈ goneL t go p))))], S', .inl ?_, _, _, rfl, rfl⟩
      unfold b_l_gone_to_1
      cases a : H p with
      | false =>
        rw [a] at tst
        refine (if_f tst).trans ?_
        have : (fun q => ((plc t []).take (i + 1)).any fun p => H p && decide (q ∈ goneL t go p)) = fun q => ((plc t []).take i).any fun p => H p && decide (q ∈ goneL t go p) := by
          funext q; rw [tk, a, Bool.false_and, Bool.or_false]
        rw [this]; rfl
      | true =>
        rw [a] at tst
        refine (if_t tst).trans (set_of ?_)
        have : (fun q => ((plc t []).take (i + 1)).any fun p => H p && decide (q ∈ goneL t go p)) = fun q => (((plc t []).take i).any fun p => H p && decide (q ∈ goneL t go p)) || decide (q ∈ goneL t go p) := by
          funext q; rw [tk, a, Bool.true_and]
        rw [this, ← or_mk]
        simp only [ev_bin, ev_var, Out.bind_ok, List.getElem?_cons_zero, List.getElem?_cons_succ, or_int])
    (fun ρ S' ⟨_, _, _, hS⟩ => by rw [hS]; exact hg)
  subst hS
  rw [enumL_len, List.length_map, List.take_of_length_le (by unfold MRt; rw [List.length_map]; exact Nat.le_refl _)] at e
  refine runF_rt (ρ := [some (.ref lg), some (.int (mkI ((plc t []).map H))), none, none, none]) rfl rfl ?_
  unfold c_l_gone_to
  refine (seq_of (set_of (d := .int 0) (S' := S') rfl)).trans ?_
  have ez : (iEnumA (aCons (eVar 0) (aNil))) [some (.ref lg), some (.int (mkI ((plc t []).map H))), some (.int 0), none, none] S' = .ok (enumL ((MRt t go).map .int), .ls lg ((MRt t go).map .int)) S' := by
    simp only [iEnumA, ev_var, ev_con, ev_bin, ev_un, ev_anil, ev_acons, ev_call, ev_tup, ev_lst, ev_not, ev_and, ev_or, ev_if, ev_cbl, ev_btrue, ev_cand, ev_cor, ev_cnot, ev_sli, ev_onone, ev_osome, ev_chain, ev_meth, ev_get2, ev_newK, ev_newT, ev_own, ev_nil, ev_seq, ev_expr, ev_set, ev_ret, ev_retN, ev_cif, ev_brk, ev_ct, ev_asg, ev_put, ev_aug, ev_for, ev_comp, ev_newL, ev_iseq, ev_irange, ev_ienum, ev_yes, Out.bind_ok, Out.bindN_ok, bindS_ok, Tg.set, Tg.sets, List.getElem?_cons_zero, List.getElem?_cons_succ, List.set_cons_zero, List.set_cons_succ, wipeE, List.length_cons, List.length_nil, Nat.reduceAdd, Nat.reduceLeDiff, Nat.reduceEqDiff, ↓reduceIte, Bool.false_eq_true, decide_eq_true_eq, add_int, sub_int, lt_int, gt_int, le_int, ge_int, neg_int, and_int, or_int, xor_int, max2_int, min2_int, mod_pos, fdiv_sm, mul_sm, mul_smr, Int.reduceLT, Int.reduceNeg, int_bl, int_int, sli_tup, seq_lst (lst_ref hg)]; rfl
  exact (seq_of ((for_of ez).trans e)).trans (ret_of (by simp only [ev_var, ev_con, ev_bin, ev_un, ev_anil, ev_acons, ev_call, ev_tup, ev_lst, ev_not, ev_and, ev_or, ev_if, ev_cbl, ev_btrue, ev_cand, ev_cor, ev_cnot, ev_sli, ev_onone, ev_osome, ev_chain, ev_meth, ev_get2, ev_newK, ev_newT, ev_own, ev_nil, ev_seq, ev_expr, ev_set, ev_ret, ev_retN, ev_cif, ev_brk, ev_ct, ev_asg, ev_put, ev_aug, ev_for, ev_comp, ev_newL, ev_iseq, ev_irange, ev_ienum, ev_yes, Out.bind_ok, Out.bindN_ok, bindS_ok, Tg.set, Tg.sets, List.getElem?_cons_zero, List.getElem?_cons_succ, List.set_cons_zero, List.set_cons_succ, wipeE, List.length_cons, List.length_nil, Nat.reduceAdd, Nat.reduceLeDiff, Nat.reduceEqDiff, ↓reduceIte, Bool.false_eq_true, decide_eq_true_eq, add_int, sub_int, lt_int, gt_int, le_int, ge_int, neg_int, and_int, or_int, xor_int, max2_int, min2_int, mod_pos, fdiv_sm, mul_sm, mul_smr, Int.reduceLT, Int.reduceNeg, int_bl, int_int, sli_tup]))
theorem bit_one {P : List (List Nat)} {j : Nat} {q : List Nat} (nd : P.Nodup) (hj : P[j]? = some q) : (1 * 2 ^ j : Int) = mkI (P.map fun x => decide (x = q)) := by
  have e : (2 : Nat) ^ j = mkN (P.map fun x => decide (x = q)) := mkN_ext fun k => by
    rw [getD_map, Nat.testBit_two_pow]
    cases hk : P[k]? with
    | none =>
      show decide (j = k) = false
      exact decide_eq_false fun z => by rw [z, hk] at hj; cases hj
    | some x =>
      show decide (j = k) = decide (x = q)
      refine decide_eq_decide.mpr ⟨fun z => by rw [z, hk] at hj; injection hj, fun z => ?_⟩
      subst z
      have h1 := List.getElem?_eq_some_iff.mp hj
      have h2 := List.getElem?_eq_some_iff.mp hk
      exact (List.getElem_inj nd).mp (h1.2.trans h2.2.symm)
  show _ = ((mkN _ : Nat) : Int)
  rw [← e, Int.one_mul]; simp
theorem ne_places' {S : Sto} {a b : Nat} {P : List (List Nat)} (ha : S[a]? = some (.lst (P.map plD))) (hb : S[b]? = some (.lst (P.map plD))) : neD (.ref a) (.ref b) S = .ok (.bl false) S := ne_places ha hb
abbrev ρW (ns : List Int) (ln lr lm ls : Nat) (t : Tr) (l6 : Nat) (mn : Int) (v8 v9 v10 v11 v12 v13 v14 v15 v16 : Option Dv) : PL.Env := [some (.fl (ns.map .int)), some (.ref ln), some (.ref lr), some (.ref lm), some (.ref ls), some (trD t), some (.ref l6), some (.int mn), v8, v9, v10, v11, v12, v13, v14, v15, v16]
theorem bits_run {f : Nat} {ns : List Int} {ln lr lm ls l6 lc : Nat} {mn : Int} {v8 v9 v11 v12 v13 v14 v15 v16 : Option Dv} {t : Tr} {gE : En → List Nat → Bool} {ps : List (Str × En)} {S : Sto} (hz : siz t ≤ 900) (hr : Reach S lm (MRt t)) (hc : S[lc]? = some (.lst (ps.map sgD))) (hk : ∀ x ∈ ps, x.1 ∈ goW ∧ x.2.n = mkI ((plc t []).map (gE x.2))) :
    ∃ (H : List Nat → Bool) (u11 : Option Dv), loop (Ck.ls lc (ps.map sgD)).ok (.nm 11) (b_l_law_3 (F (f + 1))) (ps.map sgD) (ρW ns ln lr lm ls t l6 mn v8 v9 (some (.int 1)) v11 v12 v13 v14 v15 v16) S = .fl (.nx (ρW ns ln lr lm ls t l6 mn v8 v9 (some (.int (mkI ((plc t []).map H)))) u11 v12 v13 v14 v15 v16)) S ∧ ∀ q ∈ plc t [], (H q = true ↔ Chain t gE ps [] q) := by
  have h0 : (plc t [])[0]? = some [] := by
    obtain ⟨k, cs⟩ := t
    rw [plc]; rfl
  have b1 := bit_one (plc_nodup t []) h0
  rw [Int.pow_zero, Int.mul_one] at b1
  obtain ⟨ρ', S', e, H, u11, rfl, hS, hH⟩ := loop_all (ck := (Ck.ls lc (ps.map sgD)).ok) (t := .nm 11) (b := b_l_law_3 (F (f + 1))) (S := S) (ρ := ρW ns ln lr lm ls t l6 mn v8 v9 (some (.int 1)) v11 v12 v13 v14 v15 v16)
    (fun i ρ S' => ∃ (H : List Nat → Bool) (u11 : Option Dv), ρ = ρW ns ln lr lm ls t l6 mn v8 v9 (some (.int (mkI ((plc t []).map H)))) u11 v12 v13 v14 v15 v16 ∧ S' = S ∧ ∀ q ∈ plc t [], (H q = true ↔ Chain t gE (ps.take i) [] q)) (ps.map sgD)
    ⟨fun x => decide (x = []), v11, by rw [b1], rfl, fun q _ => by
      rw [List.take_zero, decide_eq_true_eq]
      exact ⟨fun z => z.symm, fun z => Eq.symm z⟩⟩
    (fun i v ρ S' hv ⟨H, u11, hρ, hS, hH⟩ => by
      subst hρ hS
      rw [List.getElem?_map, Option.map_eq_some_iff] at hv
      obtain ⟨x, hx, rfl⟩ := hv
      obtain ⟨kgo, kn⟩ := hk x (List.mem_of_getElem? hx)
      obtain ⟨lg, ix, hg, hgl⟩ := hr.get kgo
      have gb := gone_bits (f := f) (H := H) hz hg
      have i0 : idxD (sgD x) (.int 0) S' = .ok (.tup [.str x.1, x.2.look]) S' := idx_t0
      have i1 : idxD (sgD x) (.int 1) S' = .ok (.int x.2.n) S' := idx_t1
      have am := and_mk (plc t []) (fun q => (plc t []).any fun p => H p && decide (q ∈ goneL t x.1 p)) (gE x.2)
      rw [← kn] at am
      refine ⟨hc, _, rfl, ρW ns ln lr lm ls t l6 mn v8 v9 (some (.int (mkI ((plc t []).map fun q => ((plc t []).any fun p => H p && decide (q ∈ goneL t x.1 p)) && gE x.2 q)))) (some (sgD x)) v12 v13 v14 v15 v16, S', .inl ?_, _, _, rfl, rfl, fun q hq => ?_⟩
      · unfold b_l_law_3
        refine set_of ?_
        simp only [ev_bin, ev_var, ev_con, ev_own, ev_acons, ev_anil, Out.bind_ok, List.getElem?_cons_zero, List.getElem?_cons_succ, List.set_cons_zero, List.set_cons_succ, List.length_cons, List.length_nil, Nat.reduceAdd, ↓reduceIte, i0, i1, idx_t0, ix, gb, and_int, am]
      · have tk : ps.take (i + 1) = ps.take i ++ [x] := by rw [List.take_add_one, hx]; rfl
        rw [tk, chain_snoc, Bool.and_eq_true, List.any_eq_true]
        constructor
        · rintro ⟨⟨p, hp, h1⟩, h2⟩
          rw [Bool.and_eq_true, decide_eq_true_eq] at h1
          exact ⟨p, (hH p hp).mp h1.1, h1.2, h2⟩
        · rintro ⟨p, h1, h2, h3⟩
          have hp := chain_in _ [] p (top_plc t) h1
          exact ⟨⟨p, hp, by rw [Bool.and_eq_true, decide_eq_true_eq]; exact ⟨(hH p hp).mpr h1, h2⟩⟩, h3⟩)
    (fun ρ S' ⟨_, _, _, hS, _⟩ => by rw [hS]; exact hc)
  subst hS
  rw [List.length_map, List.take_of_length_le (Nat.le_refl _)] at hH
  exact ⟨H, u11, e, hH⟩
theorem cut_nat {α : Type} (xs : List α) (a b : Nat) : cutD xs (some (a : Int)) (some (b : Int)) = (xs.drop (min a xs.length)).take (min b xs.length - min a xs.length) := by
  unfold cutD
  rw [HT.sIx_nat, HT.sIx_nat]
theorem turn_run {f : Nat} {ns : List Int} {ln lr lm ls l6 m i : Nat} {v9 v10 v11 v12 v13 v14 v15 v16 : Option Dv} {t : Tr} {xs : List (Str × En)} {S : Sto} (hz : siz t ≤ 900) (hf : 30 ≤ f) (hr : Reach S lm (MRt t)) (hs : S[ls]? = some (.lst ((plc t []).map plD))) (h6 : S[l6]? = some (.lst (xs.map sgD))) (hx : ∀ x ∈ xs, StOk t x) (hxl : xs.length ≤ 1000) (hm : 1 ≤ m) (hi : i < xs.length) :
    ∃ (S' : Sto) (u9 u10 u11 u12 u13 : Option Dv), b_l_law_5 (F (f + 1)) (ρW ns ln lr lm ls t l6 (m : Int) (some (.int (i : Int))) v9 v10 v11 v12 v13 v14 v15 v16) S = .fl (.nx (ρW ns ln lr lm ls t l6 (m : Int) (some (.int (i : Int))) u9 u10 u11 u12 u13 v14 v15 v16)) S' ∧ Gr S S' := by
  have s1 := sli_ref h6 (some (i : Int)) (some ((i + m : Nat) : Int))
  rw [cut_map, ev_newL] at s1
  have s2' : ∀ {S2 : Sto}, S2[l6]? = some (.lst (xs.map sgD)) → sliD (.ref l6) (some (i : Int)) (some ((i + m : Nat) : Int)) S2 = .ok (.ref S2.length) (S2 ++ [Ob.lst ((cutD xs (some (i : Int)) (some ((i + m : Nat) : Int))).map sgD)]) := fun h => by
    rw [sli_ref h, cut_map, ev_newL]
  have zk : ∀ x ∈ cutD xs (some (i : Int)) (some ((i + m : Nat) : Int)), StOk t x := fun x h => hx x (mem_cut h)
  have zl := cut_len xs (some (i : Int)) (some ((i + m : Nat) : Int))
  have zne : cutD xs (some (i : Int)) (some ((i + m : Nat) : Int)) ≠ [] := fun z => by
    have := congrArg List.length z
    rw [cut_nat, List.length_take, List.length_drop, List.length_nil] at this
    omega
  have im : ((i : Int) + (m : Int)) = ((i + m : Nat) : Int) := by omega
  generalize cutD xs (some (i : Int)) (some ((i + m : Nat) : Int)) = zs at s1 s2' zk zl zne
  have sp : ∀ x ∈ zs, x.1 ∈ goW ∧ Hd t 1 x.2.look (gOf t 1 x.2) ∧ x.2.n = mkI ((plc t []).map (gOf t 1 x.2)) := fun x h => ⟨(zk x h).1, gOf_spec (zk x h).2⟩
  have hk1 : ∀ x ∈ zs, x.1 ∈ goW ∧ Hd t 1 x.2.look (gOf t 1 x.2) := fun x h => ⟨(sp x h).1, (sp x h).2.1⟩
  have hk2 : ∀ x ∈ zs, x.1 ∈ goW ∧ x.2.n = mkI ((plc t []).map (gOf t 1 x.2)) := fun x h => ⟨(sp x h).1, (sp x h).2.2⟩
  have g1 := gr_app S [Ob.lst (zs.map sgD)]
  have a1 := at_new S (.lst (zs.map sgD))
  generalize hS1 : S ++ [Ob.lst (zs.map sgD)] = S1 at s1 g1 a1
  -- the way's steps
  have cw := comp_filt (ck := (Ck.ls S.length (zs.map sgD)).ok) (xs := zs) (D := sgD) (E := fun x => Dv.tup [.str x.1, x.2.look]) (g := fun _ => true) (S := S1) (ρ := ρW ns ln lr lm ls t l6 (m : Int) (some (.int (i : Int))) v9 v10 none v12 v13 v14 v15 v16) (t := .nm 11) (c := cYes) (y := y_l_law_2 (F (f + 1))) a1 (by omega)
    (fun x _ => ⟨_, rfl, rfl, fun _ => by
      have i0 : idxD (sgD x) (.int 0) S1 = .ok (.tup [.str x.1, x.2.look]) S1 := idx_t0
      unfold y_l_law_2; simp only [ev_var, ev_con, ev_bin, ev_un, ev_anil, ev_acons, ev_call, ev_tup, ev_lst, ev_not, ev_and, ev_or, ev_if, ev_cbl, ev_btrue, ev_cand, ev_cor, ev_cnot, ev_sli, ev_onone, ev_osome, ev_chain, ev_meth, ev_get2, ev_newK, ev_newT, ev_own, ev_nil, ev_seq, ev_expr, ev_set, ev_ret, ev_retN, ev_cif, ev_brk, ev_ct, ev_asg, ev_put, ev_aug, ev_for, ev_comp, ev_newL, ev_iseq, ev_irange, ev_ienum, ev_yes, Out.bind_ok, Out.bindN_ok, bindS_ok, Tg.set, Tg.sets, List.getElem?_cons_zero, List.getElem?_cons_succ, List.set_cons_zero, List.set_cons_succ, wipeE, List.length_cons, List.length_nil, Nat.reduceAdd, Nat.reduceLeDiff, Nat.reduceEqDiff, ↓reduceIte, Bool.false_eq_true, decide_eq_true_eq, add_int, sub_int, lt_int, gt_int, le_int, ge_int, neg_int, and_int, or_int, xor_int, max2_int, min2_int, mod_pos, fdiv_sm, mul_sm, mul_smr, Int.reduceLT, Int.reduceNeg, int_bl, int_int, sli_tup, i0]⟩)
  rw [filt_all] at cw
  have g2 := gr_app S1 [Ob.lst (zs.map fun x => Dv.tup [.str x.1, x.2.look])]
  have a2 := at_new S1 (.lst (zs.map fun x => Dv.tup [.str x.1, x.2.look]))
  generalize hS2 : S1 ++ [Ob.lst (zs.map fun x => Dv.tup [.str x.1, x.2.look])] = S2 at g2 a2
  have h62 := g2.at (g1.at h6)
  have s3 := s2' h62
  have g3 := gr_app S2 [Ob.lst (zs.map sgD)]
  have a3 := at_new S2 (.lst (zs.map sgD))
  generalize hS3 : S2 ++ [Ob.lst (zs.map sgD)] = S3 at s3 g3 a3
  have gA := (g1.trans g2).trans g3
  obtain ⟨H, u11, e3, hH⟩ := bits_run (f := f) (ns := ns) (ln := ln) (lr := lr) (lm := lm) (ls := ls) (l6 := l6) (mn := (m : Int)) (v8 := some (.int (i : Int))) (v9 := some (.ref S1.length)) (v11 := v11) (v12 := v12) (v13 := v13) (v14 := v14) (v15 := v15) (v16 := v16) hz (hr.gr gA) a3 hk2
  have hs3 := gA.at hs
  have cd := comp_filt (ck := (Ck.ls ls ((plc t []).map plD)).ok) (xs := (plc t []).zipIdx) (D := fun x => .tup [.int ((x.2 : Nat) : Int), plD x.1]) (E := fun x => plD x.1) (g := fun x => H x.1) (S := S3) (ρ := ρW ns ln lr lm ls t l6 (m : Int) (some (.int (i : Int))) (some (.ref S1.length)) (some (.int (mkI ((plc t []).map H)))) u11 v12 v13 v14 none none) (t := .tp [.nm 15, .nm 16]) (c := q_l_law_4 (F (f + 1))) (y := y_l_law_4 (F (f + 1))) hs3 (by rw [List.length_zipIdx, plc_len]; omega)
    (fun x hx => ⟨_, rfl, by
      have ba := bit_at (g := H) hx (S := S3)
      have sr := shr_int (S := S3) (i := mkI ((plc t []).map H)) (j := ((x.2 : Nat) : Int)) (by omega)
      rw [Int.toNat_natCast] at sr
      unfold q_l_law_4
      simp only [ev_cbl, ev_bin, ev_var, ev_con, Out.bind_ok, List.getElem?_cons_zero, List.getElem?_cons_succ, List.set_cons_zero, List.set_cons_succ, sr, ba, ev_btrue], fun _ => by unfold y_l_law_4; simp only [ev_var, ev_con, ev_bin, ev_un, ev_anil, ev_acons, ev_call, ev_tup, ev_lst, ev_not, ev_and, ev_or, ev_if, ev_cbl, ev_btrue, ev_cand, ev_cor, ev_cnot, ev_sli, ev_onone, ev_osome, ev_chain, ev_meth, ev_get2, ev_newK, ev_newT, ev_own, ev_nil, ev_seq, ev_expr, ev_set, ev_ret, ev_retN, ev_cif, ev_brk, ev_ct, ev_asg, ev_put, ev_aug, ev_for, ev_comp, ev_newL, ev_iseq, ev_irange, ev_ienum, ev_yes, Out.bind_ok, Out.bindN_ok, bindS_ok, Tg.set, Tg.sets, List.getElem?_cons_zero, List.getElem?_cons_succ, List.set_cons_zero, List.set_cons_succ, wipeE, List.length_cons, List.length_nil, Nat.reduceAdd, Nat.reduceLeDiff, Nat.reduceEqDiff, ↓reduceIte, Bool.false_eq_true, decide_eq_true_eq, add_int, sub_int, lt_int, gt_int, le_int, ge_int, neg_int, and_int, or_int, xor_int, max2_int, min2_int, mod_pos, fdiv_sm, mul_sm, mul_smr, Int.reduceLT, Int.reduceNeg, int_bl, int_int, sli_tup]⟩)
  rw [← enum_pl, show ((plc t []).zipIdx.filter fun x => H x.1).map (fun x => plD x.1) = (((plc t []).zipIdx.filter fun x => H x.1).map (·.1)).map plD by rw [List.map_map]; rfl, filt_zip] at cd
  have hF : (plc t []).filter H = (plc t []).filter (findG t (gOf t 1) zs) := List.filter_congr fun q hq => by
    rw [Bool.eq_iff_iff, hH q hq, findG_chain]
  rw [hF] at cd
  have g4 := gr_app S3 [Ob.lst (((plc t []).filter (findG t (gOf t 1) zs)).map plD)]
  have a4 := at_new S3 (.lst (((plc t []).filter (findG t (gOf t 1) zs)).map plD))
  generalize hS4 : S3 ++ [Ob.lst (((plc t []).filter (findG t (gOf t 1) zs)).map plD)] = S4 at g4 a4
  obtain ⟨f, rfl⟩ : ∃ k, f = k := ⟨f, rfl⟩
  obtain ⟨lt, S5, e5, g5, n5, h5⟩ := finds_run (f := f) (S := S4) hz zne hk1 (by omega)
  have a25 := (g3.trans g4).at a2
  have tw : ∀ {S : Sto}, S[S1.length]? = some (.lst (zs.map fun x => Dv.tup [.str x.1, x.2.look])) → tupleD [.ref S1.length] S = .ok (.tup (zs.map fun x => Dv.tup [.str x.1, x.2.look])) S := fun h => by simp only [tupleD, lst_ref h]
  have ne1 := ne_places h5 (g5.at a4)
  have ap := app_ref (x := plD []) h5 (by rw [List.length_map]; have := List.length_filter_le (findG t (gOf t 1) zs) (plc t []); rw [plc_len] at this; show _ < 2 ^ 24; omega)
  have f6 := fr_set S5 lt (.lst (((plc t []).filter (findG t (gOf t 1) zs)).map plD ++ [plD []]))
  have gB : Gr S4 (S5.set lt (.lst (((plc t []).filter (findG t (gOf t 1) zs)).map plD ++ [plD []]))) := Gr.new g5 f6 (fun l z => by omega)
  generalize hS6 : S5.set lt (.lst (((plc t []).filter (findG t (gOf t 1) zs)).map plD ++ [plD []])) = S6 at ap f6 gB
  obtain ⟨lt2, S7, e7, g7, n7, h7⟩ := finds_run (f := f) (S := S6) hz zne hk1 (by omega)
  have ne2 := ne_places h7 (g7.at (gB.at a4))
  refine ⟨if i = 0 then S7 else S6, some (.ref S1.length), some (.int (mkI ((plc t []).map H))), u11, some (.ref S3.length), some (.ref lt), ?_, ?_⟩
  · unfold b_l_law_5
    refine (seq_of (set_of (d := .ref S1.length) (S' := S2) ?_)).trans ?_
    · simp only [ev_comp, ev_iseq, ev_sli, ev_osome, ev_bin, ev_var, Out.bind_ok, List.getElem?_cons_zero, List.getElem?_cons_succ, add_int, im, s1, walk_ref a1, wipeE, List.set_cons_zero, List.set_cons_succ, cw, ev_newL, hS2]
    refine (seq_of (set_of (d := .int 1) (S' := S2) rfl)).trans ?_
    refine (seq_of ((for_of (w := (zs.map sgD, .ls S2.length (zs.map sgD))) (S' := S3) (by simp only [ev_var, ev_con, ev_bin, ev_un, ev_anil, ev_acons, ev_call, ev_tup, ev_lst, ev_not, ev_and, ev_or, ev_if, ev_cbl, ev_btrue, ev_cand, ev_cor, ev_cnot, ev_sli, ev_onone, ev_osome, ev_chain, ev_meth, ev_get2, ev_newK, ev_newT, ev_own, ev_nil, ev_seq, ev_expr, ev_set, ev_ret, ev_retN, ev_cif, ev_brk, ev_ct, ev_asg, ev_put, ev_aug, ev_for, ev_comp, ev_newL, ev_iseq, ev_irange, ev_ienum, ev_yes, Out.bind_ok, Out.bindN_ok, bindS_ok, Tg.set, Tg.sets, List.getElem?_cons_zero, List.getElem?_cons_succ, List.set_cons_zero, List.set_cons_succ, wipeE, List.length_cons, List.length_nil, Nat.reduceAdd, Nat.reduceLeDiff, Nat.reduceEqDiff, ↓reduceIte, Bool.false_eq_true, decide_eq_true_eq, add_int, sub_int, lt_int, gt_int, le_int, ge_int, neg_int, and_int, or_int, xor_int, max2_int, min2_int, mod_pos, fdiv_sm, mul_sm, mul_smr, Int.reduceLT, Int.reduceNeg, int_bl, int_int, sli_tup, im, s3, walk_ref a3])).trans e3)).trans ?_
    have ez : (iEnumA (aCons (eVar 4) (aNil))) (ρW ns ln lr lm ls t l6 (m : Int) (some (.int (i : Int))) (some (.ref S1.length)) (some (.int (mkI ((plc t []).map H)))) u11 v12 v13 v14 v15 v16) S3 = .ok (enumL ((plc t []).map plD), .ls ls ((plc t []).map plD)) S3 := by
      simp only [iEnumA, ev_var, ev_con, ev_bin, ev_un, ev_anil, ev_acons, ev_call, ev_tup, ev_lst, ev_not, ev_and, ev_or, ev_if, ev_cbl, ev_btrue, ev_cand, ev_cor, ev_cnot, ev_sli, ev_onone, ev_osome, ev_chain, ev_meth, ev_get2, ev_newK, ev_newT, ev_own, ev_nil, ev_seq, ev_expr, ev_set, ev_ret, ev_retN, ev_cif, ev_brk, ev_ct, ev_asg, ev_put, ev_aug, ev_for, ev_comp, ev_newL, ev_iseq, ev_irange, ev_ienum, ev_yes, Out.bind_ok, Out.bindN_ok, bindS_ok, Tg.set, Tg.sets, List.getElem?_cons_zero, List.getElem?_cons_succ, List.set_cons_zero, List.set_cons_succ, wipeE, List.length_cons, List.length_nil, Nat.reduceAdd, Nat.reduceLeDiff, Nat.reduceEqDiff, ↓reduceIte, Bool.false_eq_true, decide_eq_true_eq, add_int, sub_int, lt_int, gt_int, le_int, ge_int, neg_int, and_int, or_int, xor_int, max2_int, min2_int, mod_pos, fdiv_sm, mul_sm, mul_smr, Int.reduceLT, Int.reduceNeg, int_bl, int_int, sli_tup, seq_lst (lst_ref hs3)]; rfl
    refine (seq_of (set_of (d := .ref S3.length) (S' := S4) ?_)).trans ?_
    · show eComp _ _ _ _ _ (ρW ns ln lr lm ls t l6 (m : Int) (some (.int (i : Int))) (some (.ref S1.length)) (some (.int (mkI ((plc t []).map H)))) u11 v12 v13 v14 v15 v16) S3 = _
      simp only [ev_comp, ez, Out.bind_ok, wipeE, List.set_cons_zero, List.set_cons_succ, cd, ev_newL, hS4]
    refine (seq_of (set_of (d := .ref lt) (S' := S5) (by simp only [ev_var, ev_con, ev_bin, ev_un, ev_anil, ev_acons, ev_call, ev_tup, ev_lst, ev_not, ev_and, ev_or, ev_if, ev_cbl, ev_btrue, ev_cand, ev_cor, ev_cnot, ev_sli, ev_onone, ev_osome, ev_chain, ev_meth, ev_get2, ev_newK, ev_newT, ev_own, ev_nil, ev_seq, ev_expr, ev_set, ev_ret, ev_retN, ev_cif, ev_brk, ev_ct, ev_asg, ev_put, ev_aug, ev_for, ev_comp, ev_newL, ev_iseq, ev_irange, ev_ienum, ev_yes, Out.bind_ok, Out.bindN_ok, bindS_ok, Tg.set, Tg.sets, List.getElem?_cons_zero, List.getElem?_cons_succ, List.set_cons_zero, List.set_cons_succ, wipeE, List.length_cons, List.length_nil, Nat.reduceAdd, Nat.reduceLeDiff, Nat.reduceEqDiff, ↓reduceIte, Bool.false_eq_true, decide_eq_true_eq, add_int, sub_int, lt_int, gt_int, le_int, ge_int, neg_int, and_int, or_int, xor_int, max2_int, min2_int, mod_pos, fdiv_sm, mul_sm, mul_smr, Int.reduceLT, Int.reduceNeg, int_bl, int_int, sli_tup, tw a25, e5]))).trans ?_
    refine (seq_of ((if_f (S' := S5) (by simp only [ev_var, ev_con, ev_bin, ev_un, ev_anil, ev_acons, ev_call, ev_tup, ev_lst, ev_not, ev_and, ev_or, ev_if, ev_cbl, ev_btrue, ev_cand, ev_cor, ev_cnot, ev_sli, ev_onone, ev_osome, ev_chain, ev_meth, ev_get2, ev_newK, ev_newT, ev_own, ev_nil, ev_seq, ev_expr, ev_set, ev_ret, ev_retN, ev_cif, ev_brk, ev_ct, ev_asg, ev_put, ev_aug, ev_for, ev_comp, ev_newL, ev_iseq, ev_irange, ev_ienum, ev_yes, Out.bind_ok, Out.bindN_ok, bindS_ok, Tg.set, Tg.sets, List.getElem?_cons_zero, List.getElem?_cons_succ, List.set_cons_zero, List.set_cons_succ, wipeE, List.length_cons, List.length_nil, Nat.reduceAdd, Nat.reduceLeDiff, Nat.reduceEqDiff, ↓reduceIte, Bool.false_eq_true, decide_eq_true_eq, add_int, sub_int, lt_int, gt_int, le_int, ge_int, neg_int, and_int, or_int, xor_int, max2_int, min2_int, mod_pos, fdiv_sm, mul_sm, mul_smr, Int.reduceLT, Int.reduceNeg, int_bl, int_int, sli_tup, isi_list h5, Bool.not_true, ne1])).trans rfl)).trans ?_
    refine (seq_of (expr_of (d := .non) (S' := S6) ?_)).trans ?_
    · have e0 : Dv.tup [] = plD [] := rfl
      simp only [ev_var, ev_con, ev_bin, ev_un, ev_anil, ev_acons, ev_call, ev_tup, ev_lst, ev_not, ev_and, ev_or, ev_if, ev_cbl, ev_btrue, ev_cand, ev_cor, ev_cnot, ev_sli, ev_onone, ev_osome, ev_chain, ev_meth, ev_get2, ev_newK, ev_newT, ev_own, ev_nil, ev_seq, ev_expr, ev_set, ev_ret, ev_retN, ev_cif, ev_brk, ev_ct, ev_asg, ev_put, ev_aug, ev_for, ev_comp, ev_newL, ev_iseq, ev_irange, ev_ienum, ev_yes, Out.bind_ok, Out.bindN_ok, bindS_ok, Tg.set, Tg.sets, List.getElem?_cons_zero, List.getElem?_cons_succ, List.set_cons_zero, List.set_cons_succ, wipeE, List.length_cons, List.length_nil, Nat.reduceAdd, Nat.reduceLeDiff, Nat.reduceEqDiff, ↓reduceIte, Bool.false_eq_true, decide_eq_true_eq, add_int, sub_int, lt_int, gt_int, le_int, ge_int, neg_int, and_int, or_int, xor_int, max2_int, min2_int, mod_pos, fdiv_sm, mul_sm, mul_smr, Int.reduceLT, Int.reduceNeg, int_bl, int_int, sli_tup, tyq_ref h5, sline 0 (by omega), e0, ap]
    by_cases q : i = 0
    · rw [if_pos q]
      have hq : decide ((i : Int) = 0) = true := decide_eq_true (by omega)
      exact (if_f (S' := S7) (by simp only [ev_var, ev_con, ev_bin, ev_un, ev_anil, ev_acons, ev_call, ev_tup, ev_lst, ev_not, ev_and, ev_or, ev_if, ev_cbl, ev_btrue, ev_cand, ev_cor, ev_cnot, ev_sli, ev_onone, ev_osome, ev_chain, ev_meth, ev_get2, ev_newK, ev_newT, ev_own, ev_nil, ev_seq, ev_expr, ev_set, ev_ret, ev_retN, ev_cif, ev_brk, ev_ct, ev_asg, ev_put, ev_aug, ev_for, ev_comp, ev_newL, ev_iseq, ev_irange, ev_ienum, ev_yes, Out.bind_ok, Out.bindN_ok, bindS_ok, Tg.set, Tg.sets, List.getElem?_cons_zero, List.getElem?_cons_succ, List.set_cons_zero, List.set_cons_succ, wipeE, List.length_cons, List.length_nil, Nat.reduceAdd, Nat.reduceLeDiff, Nat.reduceEqDiff, ↓reduceIte, Bool.false_eq_true, decide_eq_true_eq, add_int, sub_int, lt_int, gt_int, le_int, ge_int, neg_int, and_int, or_int, xor_int, max2_int, min2_int, mod_pos, fdiv_sm, mul_sm, mul_smr, Int.reduceLT, Int.reduceNeg, int_bl, int_int, sli_tup, eq_int, hq, tw (gB.at a25), e7, ne2])).trans rfl
    · rw [if_neg q]
      have hq : decide ((i : Int) = 0) = false := decide_eq_false (by omega)
      exact (if_f (S' := S6) (by simp only [ev_var, ev_con, ev_bin, ev_un, ev_anil, ev_acons, ev_call, ev_tup, ev_lst, ev_not, ev_and, ev_or, ev_if, ev_cbl, ev_btrue, ev_cand, ev_cor, ev_cnot, ev_sli, ev_onone, ev_osome, ev_chain, ev_meth, ev_get2, ev_newK, ev_newT, ev_own, ev_nil, ev_seq, ev_expr, ev_set, ev_ret, ev_retN, ev_cif, ev_brk, ev_ct, ev_asg, ev_put, ev_aug, ev_for, ev_comp, ev_newL, ev_iseq, ev_irange, ev_ienum, ev_yes, Out.bind_ok, Out.bindN_ok, bindS_ok, Tg.set, Tg.sets, List.getElem?_cons_zero, List.getElem?_cons_succ, List.set_cons_zero, List.set_cons_succ, wipeE, List.length_cons, List.length_nil, Nat.reduceAdd, Nat.reduceLeDiff, Nat.reduceEqDiff, ↓reduceIte, Bool.false_eq_true, decide_eq_true_eq, add_int, sub_int, lt_int, gt_int, le_int, ge_int, neg_int, and_int, or_int, xor_int, max2_int, min2_int, mod_pos, fdiv_sm, mul_sm, mul_smr, Int.reduceLT, Int.reduceNeg, int_bl, int_int, sli_tup, eq_int, hq])).trans rfl
  · have := (gA.trans g4).trans gB
    split
    · exact this.trans g7
    · exact this
theorem stepL_get {i c : Int} {n k : Nat} {d : Dv} (h : (stepL i c n)[k]? = some d) : k < n ∧ d = .int (i + (k : Int) * c) := by
  have hl : (stepL i c n).length = n := by simp [stepL]
  have hi : k < n := by rw [← hl]; exact (List.getElem?_eq_some_iff.mp h).1
  simp only [stepL, List.getElem?_map, List.getElem?_range hi, Option.map_some, Option.some.injEq] at h
  exact ⟨hi, h.symm⟩
theorem upN_lt {j c k : Nat} (hc : 1 ≤ c) (h : k < upN 0 (j : Int) (c : Int)) : k * c < j := by
  unfold upN at h
  by_cases q : (0 : Int) < (j : Int)
  · rw [if_pos q] at h
    have h0 : 0 ≤ ((j : Int) - 0 - 1) / (c : Int) := Int.ediv_nonneg (by omega) (by omega)
    have h1 : (k : Int) ≤ ((j : Int) - 0 - 1) / (c : Int) := by omega
    have h2 := Int.mul_le_of_le_ediv (show (0 : Int) < c by omega) h1
    have h3 : ((k * c : Nat) : Int) = (k : Int) * (c : Int) := by simp
    omega
  · rw [if_neg q] at h
    omega
theorem rngU_of {j c : Nat} (h1 : j ≤ 1000) (h2 : 1 ≤ c) (h3 : c ≤ 1000) : rngU [.int 0, .int (j : Int), .int (c : Int)] = some (stepL 0 (c : Int) (upN 0 (j : Int) (c : Int))) := by
  have h : upOk 0 (j : Int) (c : Int) = true := upOk_iff.mpr ⟨by omega, by omega, by omega, by omega, by omega, by omega⟩
  simp only [rngU, h, if_true]
theorem later_none {t : Tr} {gE : En → List Nat → Bool} {e : En} : (plc t []).filter (findG t gE [("later", e)]) = [] := by
  refine List.filter_eq_nil_iff.mpr fun q _ h => ?_
  obtain ⟨p', h1, _⟩ := findG_chain.mp h
  have : goneL t "later" [] = [] := by
    unfold goneL
    rw [if_neg (by decide), if_neg (by decide), if_pos rfl]
  rw [show (("later", e) : Str × En).1 = "later" from rfl, this] at h1
  cases h1
theorem turns_run {ns : List Int} {ln lr lm ls l6 mn : Nat} {t : Tr} {zs : List (Str × En)} {S13 : Sto} (hz : siz t ≤ 900) (hr : Reach S13 lm (MRt t)) (hs : S13[ls]? = some (.lst ((plc t []).map plD))) (h13 : S13[l6]? = some (.lst (zs.map sgD))) (hzk : ∀ x ∈ zs, StOk t x) (hl : zs.length ≤ 1000) (hmn : 1 ≤ mn) :
    ∃ (v8 v9 v10 v11 v12 v13 : Option Dv) (S14 : Sto), loop Ck.tt.ok (.nm 8) (b_l_law_5 (F 39)) (stepL 0 (mn : Int) (upN 0 (zs.length : Int) (mn : Int))) (ρW ns ln lr lm ls t l6 (mn : Int) none none none none none none none none none) S13 = .fl (.nx (ρW ns ln lr lm ls t l6 (mn : Int) v8 v9 v10 v11 v12 v13 none none none)) S14 ∧ Gr S13 S14 := by
  obtain ⟨ρ', S14, e14, v8, v9, v10, v11, v12, v13, rfl, g14⟩ := loop_all (ck := Ck.tt.ok) (t := .nm 8) (b := b_l_law_5 (F 39)) (S := S13) (ρ := ρW ns ln lr lm ls t l6 (mn : Int) none none none none none none none none none)
    (fun i ρ S' => ∃ v8 v9 v10 v11 v12 v13, ρ = ρW ns ln lr lm ls t l6 (mn : Int) v8 v9 v10 v11 v12 v13 none none none ∧ Gr S13 S') (stepL 0 (mn : Int) (upN 0 (zs.length : Int) (mn : Int))) ⟨none, none, none, none, none, none, rfl, .refl _⟩
    (fun i d ρ S' hd ⟨v8, v9, v10, v11, v12, v13, hρ, g'⟩ => by
      subst hρ
      obtain ⟨hi, rfl⟩ := stepL_get hd
      have hi2 := upN_lt (j := zs.length) (c := mn) (by omega) hi
      have ei : (0 + (i : Int) * (mn : Int)) = ((i * mn : Nat) : Int) := by rw [Int.zero_add, Int.natCast_mul]
      obtain ⟨Sx, u9, u10, u11, u12, u13, ex, gx⟩ := turn_run (f := 38) (ns := ns) (ln := ln) (lr := lr) (lm := lm) (ls := ls) (m := mn) (i := i * mn) (v9 := v9) (v10 := v10) (v11 := v11) (v12 := v12) (v13 := v13) (v14 := none) (v15 := none) (v16 := none) hz (by omega) (hr.gr g') (g'.at hs) (g'.at h13) hzk (by omega) (by omega) hi2
      refine ⟨trivial, _, rfl, ρW ns ln lr lm ls t l6 (mn : Int) (some (.int ((i * mn : Nat) : Int))) u9 u10 u11 u12 u13 none none none, Sx, .inl ?_, _, _, _, _, _, _, rfl, g'.trans gx⟩
      show b_l_law_5 (F 39) (ρW ns ln lr lm ls t l6 (mn : Int) (some (.int (0 + (i : Int) * (mn : Int)))) v9 v10 v11 v12 v13 none none none) S' = _
      rw [ei]; exact ex)
    (fun _ _ _ => trivial)
  exact ⟨_, _, _, _, _, _, _, e14, g14⟩
theorem law_true (ns : List Int) (hns : ns.length ≤ 63) : ∃ S, F 40 .l_law [.fl (ns.map .int)] [] = .ok (.bl true) S := by
  obtain ⟨c0, S0, e0, g0⟩ := tsum_fl (ns := ns) none (some 1) []
  obtain ⟨ln, names, S1, e1, g1, _, hn1⟩ := names_run (f := 37) (c := c0) (S := S0)
  obtain ⟨lc, xs, S2, e2, g2, _, hc2, hx2, hx2'⟩ := cells_run (f := 37) (s := 0) (S := S1) hns (by omega) (by omega)
  obtain ⟨m, S5, e5, g5, m1, m2⟩ := most_run (f := 37) (m := 36) (ns := ns) (S := S2) (by omega)
  obtain ⟨lr, R, S6, e6, g6, hR, kR⟩ := rows_run (f := 37) (m := m) (g5.at hc2) (fun z => by have := congrArg List.length z; rw [List.length_nil] at this; omega) (hn1.gr (g2.trans g5)) m1 (by omega)
  obtain ⟨k0, rest, t, eR, h1, ef, et, es, ez, kt⟩ := kR.tree
  have hl := kR.len
  have rl : rest.length ≤ 1000 := by rw [eR, List.length_cons] at hl; omega
  have hz : siz t ≤ 900 := by omega
  have hPl : (plc t []).length = siz t := plc_len t []
  have hn6 := hn1.gr ((g2.trans g5).trans g6)
  obtain ⟨lm, S7, e7, g7, hr7⟩ := reach_all (f := 38) hR ef hz
  have hR7 := g7.at hR
  have hR7' := hR7
  rw [eR] at hR7'
  obtain ⟨ls, S8, e8, g8, hs⟩ := spots_run (f := 38) hR7' h1 rl
  have hR8 := g8.at hR7
  obtain ⟨lt, S9, e9, g9, ht⟩ := trees_run (f := 38) hR8 (by omega)
  rw [et] at ht
  rw [es] at hs
  have i0 : ∀ {S : Sto} {l : Nat}, S[l]? = some (.lst ((subs t).map trD)) → idxD (.ref l) (.int 0) S = .ok (trD t) S := fun h => idx_ref h (atI_nat (i := 0) (by rw [List.getElem?_map, subs_head]; rfl))
  obtain ⟨lc', ys, S10, e10, g10, _, hc10, hy10, _⟩ := cells_run (f := 37) (s := 1) (S := S9) hns (by omega) (by omega)
  have g710 := ((g7.trans g8).trans g9).trans g10
  have hn10 := hn6.gr g710
  have hR10 := g710.at hR
  have hr10 := hr7.gr ((g8.trans g9).trans g10)
  have hs10 := (g9.trans g10).at hs
  -- the steps
  obtain ⟨acc, S11, e11, zs, rfl, hzl, g11, hzk⟩ := comp_gen (ck := (Ck.ls lc' (ys.map .int)).ok) (t := .nm 14) (c := cYes) (y := y_l_law_1 (F 39)) (acc := []) (S := S10)
    (fun i acc S' => ∃ zs : List (Str × En), acc = zs.map sgD ∧ zs.length = i ∧ Gr S10 S' ∧ ∀ x ∈ zs, StOk t x) (ys.map .int) [some (.fl (ns.map .int)), some (.ref ln), some (.ref lr), some (.ref lm), some (.ref ls), some (trD t), none, none, none, none, none, none, none, none, none, none, none]
    (fun i d acc S' hd ⟨zs, ha, hl, g', hk⟩ => by
      subst ha
      rw [List.getElem?_map, Option.map_eq_some_iff] at hd
      obtain ⟨c, hc, rfl⟩ := hd
      have hi := (List.getElem?_eq_some_iff.mp hc).1
      refine ⟨g'.at hc10, _, rfl, true, S', rfl, fun _ => ?_, fun z => nomatch z⟩
      obtain ⟨x, S'', ex, gx, kx⟩ := step_run (f := 37) (c := c) (hn10.gr g') (g'.at hR10) ef hz kt
      refine ⟨sgD x, S'', by unfold y_l_law_1; simp only [ev_var, ev_con, ev_bin, ev_un, ev_anil, ev_acons, ev_call, ev_tup, ev_lst, ev_not, ev_and, ev_or, ev_if, ev_cbl, ev_btrue, ev_cand, ev_cor, ev_cnot, ev_sli, ev_onone, ev_osome, ev_chain, ev_meth, ev_get2, ev_newK, ev_newT, ev_own, ev_nil, ev_seq, ev_expr, ev_set, ev_ret, ev_retN, ev_cif, ev_brk, ev_ct, ev_asg, ev_put, ev_aug, ev_for, ev_comp, ev_newL, ev_iseq, ev_irange, ev_ienum, ev_yes, Out.bind_ok, Out.bindN_ok, bindS_ok, Tg.set, Tg.sets, List.getElem?_cons_zero, List.getElem?_cons_succ, List.set_cons_zero, List.set_cons_succ, wipeE, List.length_cons, List.length_nil, Nat.reduceAdd, Nat.reduceLeDiff, Nat.reduceEqDiff, ↓reduceIte, Bool.false_eq_true, decide_eq_true_eq, add_int, sub_int, lt_int, gt_int, le_int, ge_int, neg_int, and_int, or_int, xor_int, max2_int, min2_int, mod_pos, fdiv_sm, mul_sm, mul_smr, Int.reduceLT, Int.reduceNeg, int_bl, int_int, sli_tup, ex], by rw [List.length_map]; show _ < 2 ^ 24; omega, zs ++ [x], by rw [List.map_append]; rfl, by rw [List.length_append]; simp only [List.length_cons, List.length_nil]; omega, g'.trans gx, fun y hy => ?_⟩
      rcases List.mem_append.mp hy with hy | hy
      · exact hk y hy
      · rw [List.mem_singleton] at hy
        rw [hy]; exact kx)
    (fun acc S' ⟨_, _, _, g', _⟩ => g'.at hc10) ⟨[], rfl, rfl, .refl _, fun x h => (by simp at h)⟩
  rw [List.length_map] at hzl
  have g12 := gr_app S11 [Ob.lst (zs.map sgD)]
  have a12 := at_new S11 (.lst (zs.map sgD))
  generalize hS12 : S11 ++ [Ob.lst (zs.map sgD)] = S12 at g12 a12
  obtain ⟨ch, S13, e13, g13⟩ := tsum_fl (ns := ns) (some 1) (some 2) S12
  have mr := mix_run (f := 38) (c := ch) (k := 45) (S := S13) (by omega) (by omega)
  have p0 := Int.emod_nonneg (mx ch 45) (b := 6) (by omega)
  obtain ⟨mn, hmn⟩ : ∃ mn : Nat, 1 + mx ch 45 % 6 = (mn : Int) := ⟨(1 + mx ch 45 % 6).toNat, by omega⟩
  have h13 := g13.at a12
  have gC := ((g11.trans g12).trans g13)
  have ll := len_ref h13
  rw [List.length_map] at ll
  have p1 := Int.emod_lt_of_pos (mx ch 45) (b := 6) (by omega)
  have rU := rngU_of (j := zs.length) (c := mn) (by omega) (by omega) (by omega)
  obtain ⟨v8, v9, v10, v11, v12, v13, S14, e14, g14⟩ := turns_run (ns := ns) (ln := ln) (lr := lr) (mn := mn) hz (hr10.gr gC) (gC.at hs10) h13 hzk (by omega) (by omega)
  -- none behind a later
  obtain ⟨lf, S15, e15, g15, _, h15⟩ := finds_run (f := 38) (t := t) (h := 1) (gE := fun _ _ => true) (ps := [("later", ⟨.tup [.str "any"], 0, 1, 1⟩)]) (S := S14) hz (by simp) (fun x hx => by
    rw [List.mem_singleton] at hx
    subst hx
    exact ⟨(by decide : ("later" : Str) ∈ goW), (hd_any hz).up (by omega)⟩) (by omega)
  rw [later_none] at h15
  have g16 := gr_app S15 [Ob.lst []]
  have a16 := at_new S15 (.lst [])
  generalize hS16 : S15 ++ [Ob.lst []] = S16 at g16 a16
  have e0s := eq_places (P := []) (g16.at h15) a16
  obtain ⟨lt', S17, e17, g17, ht17⟩ := trees_run (f := 38) (g16.at (g15.at (g14.at (gC.at hR10)))) (by omega)
  rw [et] at ht17
  refine ⟨S17, ?_⟩
  rw [F_l_law]
  refine runF_rt (ρ := [some (.fl (ns.map .int)), none, none, none, none, none, none, none, none, none, none, none, none, none, none, none, none]) rfl rfl ?_
  unfold c_l_law
  have e0' := e0 [some (.fl (ns.map .int)), none, none, none, none, none, none, none, none, none, none, none, none, none, none, none, none] oNone (oSome (eCon (.int 1))) rfl (by simp only [ev_var, ev_con, ev_bin, ev_un, ev_anil, ev_acons, ev_call, ev_tup, ev_lst, ev_not, ev_and, ev_or, ev_if, ev_cbl, ev_btrue, ev_cand, ev_cor, ev_cnot, ev_sli, ev_onone, ev_osome, ev_chain, ev_meth, ev_get2, ev_newK, ev_newT, ev_own, ev_nil, ev_seq, ev_expr, ev_set, ev_ret, ev_retN, ev_cif, ev_brk, ev_ct, ev_asg, ev_put, ev_aug, ev_for, ev_comp, ev_newL, ev_iseq, ev_irange, ev_ienum, ev_yes, Out.bind_ok, Out.bindN_ok, bindS_ok, Tg.set, Tg.sets, List.getElem?_cons_zero, List.getElem?_cons_succ, List.set_cons_zero, List.set_cons_succ, wipeE, List.length_cons, List.length_nil, Nat.reduceAdd, Nat.reduceLeDiff, Nat.reduceEqDiff, ↓reduceIte, Bool.false_eq_true, decide_eq_true_eq, add_int, sub_int, lt_int, gt_int, le_int, ge_int, neg_int, and_int, or_int, xor_int, max2_int, min2_int, mod_pos, fdiv_sm, mul_sm, mul_smr, Int.reduceLT, Int.reduceNeg, int_bl, int_int, sli_tup]) (by simp only [ev_var, ev_con, ev_bin, ev_un, ev_anil, ev_acons, ev_call, ev_tup, ev_lst, ev_not, ev_and, ev_or, ev_if, ev_cbl, ev_btrue, ev_cand, ev_cor, ev_cnot, ev_sli, ev_onone, ev_osome, ev_chain, ev_meth, ev_get2, ev_newK, ev_newT, ev_own, ev_nil, ev_seq, ev_expr, ev_set, ev_ret, ev_retN, ev_cif, ev_brk, ev_ct, ev_asg, ev_put, ev_aug, ev_for, ev_comp, ev_newL, ev_iseq, ev_irange, ev_ienum, ev_yes, Out.bind_ok, Out.bindN_ok, bindS_ok, Tg.set, Tg.sets, List.getElem?_cons_zero, List.getElem?_cons_succ, List.set_cons_zero, List.set_cons_succ, wipeE, List.length_cons, List.length_nil, Nat.reduceAdd, Nat.reduceLeDiff, Nat.reduceEqDiff, ↓reduceIte, Bool.false_eq_true, decide_eq_true_eq, add_int, sub_int, lt_int, gt_int, le_int, ge_int, neg_int, and_int, or_int, xor_int, max2_int, min2_int, mod_pos, fdiv_sm, mul_sm, mul_smr, Int.reduceLT, Int.reduceNeg, int_bl, int_int, sli_tup])
  refine (seq_of (set_of (d := .ref ln) (S' := S1) (by rw [ev_own, ev_acons, e0']; simp only [ev_var, ev_con, ev_bin, ev_un, ev_anil, ev_acons, ev_call, ev_tup, ev_lst, ev_not, ev_and, ev_or, ev_if, ev_cbl, ev_btrue, ev_cand, ev_cor, ev_cnot, ev_sli, ev_onone, ev_osome, ev_chain, ev_meth, ev_get2, ev_newK, ev_newT, ev_own, ev_nil, ev_seq, ev_expr, ev_set, ev_ret, ev_retN, ev_cif, ev_brk, ev_ct, ev_asg, ev_put, ev_aug, ev_for, ev_comp, ev_newL, ev_iseq, ev_irange, ev_ienum, ev_yes, Out.bind_ok, Out.bindN_ok, bindS_ok, Tg.set, Tg.sets, List.getElem?_cons_zero, List.getElem?_cons_succ, List.set_cons_zero, List.set_cons_succ, wipeE, List.length_cons, List.length_nil, Nat.reduceAdd, Nat.reduceLeDiff, Nat.reduceEqDiff, ↓reduceIte, Bool.false_eq_true, decide_eq_true_eq, add_int, sub_int, lt_int, gt_int, le_int, ge_int, neg_int, and_int, or_int, xor_int, max2_int, min2_int, mod_pos, fdiv_sm, mul_sm, mul_smr, Int.reduceLT, Int.reduceNeg, int_bl, int_int, sli_tup, e1]))).trans ?_
  have e5' : F 39 .l_most [.fl (ns.map .int), .int 36] S2 = .ok (.int (m : Int)) S5 := e5
  refine (seq_of (set_of (d := .ref lr) (S' := S6) (by simp only [ev_var, ev_con, ev_bin, ev_un, ev_anil, ev_acons, ev_call, ev_tup, ev_lst, ev_not, ev_and, ev_or, ev_if, ev_cbl, ev_btrue, ev_cand, ev_cor, ev_cnot, ev_sli, ev_onone, ev_osome, ev_chain, ev_meth, ev_get2, ev_newK, ev_newT, ev_own, ev_nil, ev_seq, ev_expr, ev_set, ev_ret, ev_retN, ev_cif, ev_brk, ev_ct, ev_asg, ev_put, ev_aug, ev_for, ev_comp, ev_newL, ev_iseq, ev_irange, ev_ienum, ev_yes, Out.bind_ok, Out.bindN_ok, bindS_ok, Tg.set, Tg.sets, List.getElem?_cons_zero, List.getElem?_cons_succ, List.set_cons_zero, List.set_cons_succ, wipeE, List.length_cons, List.length_nil, Nat.reduceAdd, Nat.reduceLeDiff, Nat.reduceEqDiff, ↓reduceIte, Bool.false_eq_true, decide_eq_true_eq, add_int, sub_int, lt_int, gt_int, le_int, ge_int, neg_int, and_int, or_int, xor_int, max2_int, min2_int, mod_pos, fdiv_sm, mul_sm, mul_smr, Int.reduceLT, Int.reduceNeg, int_bl, int_int, sli_tup, e2, e5', e6]))).trans ?_
  refine (seq_of (set_of (d := .ref lm) (S' := S7) (by simp only [ev_var, ev_con, ev_bin, ev_un, ev_anil, ev_acons, ev_call, ev_tup, ev_lst, ev_not, ev_and, ev_or, ev_if, ev_cbl, ev_btrue, ev_cand, ev_cor, ev_cnot, ev_sli, ev_onone, ev_osome, ev_chain, ev_meth, ev_get2, ev_newK, ev_newT, ev_own, ev_nil, ev_seq, ev_expr, ev_set, ev_ret, ev_retN, ev_cif, ev_brk, ev_ct, ev_asg, ev_put, ev_aug, ev_for, ev_comp, ev_newL, ev_iseq, ev_irange, ev_ienum, ev_yes, Out.bind_ok, Out.bindN_ok, bindS_ok, Tg.set, Tg.sets, List.getElem?_cons_zero, List.getElem?_cons_succ, List.set_cons_zero, List.set_cons_succ, wipeE, List.length_cons, List.length_nil, Nat.reduceAdd, Nat.reduceLeDiff, Nat.reduceEqDiff, ↓reduceIte, Bool.false_eq_true, decide_eq_true_eq, add_int, sub_int, lt_int, gt_int, le_int, ge_int, neg_int, and_int, or_int, xor_int, max2_int, min2_int, mod_pos, fdiv_sm, mul_sm, mul_smr, Int.reduceLT, Int.reduceNeg, int_bl, int_int, sli_tup, e7]))).trans ?_
  refine (seq_of (set_of (d := .ref ls) (S' := S8) (by simp only [ev_var, ev_con, ev_bin, ev_un, ev_anil, ev_acons, ev_call, ev_tup, ev_lst, ev_not, ev_and, ev_or, ev_if, ev_cbl, ev_btrue, ev_cand, ev_cor, ev_cnot, ev_sli, ev_onone, ev_osome, ev_chain, ev_meth, ev_get2, ev_newK, ev_newT, ev_own, ev_nil, ev_seq, ev_expr, ev_set, ev_ret, ev_retN, ev_cif, ev_brk, ev_ct, ev_asg, ev_put, ev_aug, ev_for, ev_comp, ev_newL, ev_iseq, ev_irange, ev_ienum, ev_yes, Out.bind_ok, Out.bindN_ok, bindS_ok, Tg.set, Tg.sets, List.getElem?_cons_zero, List.getElem?_cons_succ, List.set_cons_zero, List.set_cons_succ, wipeE, List.length_cons, List.length_nil, Nat.reduceAdd, Nat.reduceLeDiff, Nat.reduceEqDiff, ↓reduceIte, Bool.false_eq_true, decide_eq_true_eq, add_int, sub_int, lt_int, gt_int, le_int, ge_int, neg_int, and_int, or_int, xor_int, max2_int, min2_int, mod_pos, fdiv_sm, mul_sm, mul_smr, Int.reduceLT, Int.reduceNeg, int_bl, int_int, sli_tup, e8]))).trans ?_
  refine (seq_of (set_of (d := trD t) (S' := S9) (by simp only [ev_var, ev_con, ev_bin, ev_un, ev_anil, ev_acons, ev_call, ev_tup, ev_lst, ev_not, ev_and, ev_or, ev_if, ev_cbl, ev_btrue, ev_cand, ev_cor, ev_cnot, ev_sli, ev_onone, ev_osome, ev_chain, ev_meth, ev_get2, ev_newK, ev_newT, ev_own, ev_nil, ev_seq, ev_expr, ev_set, ev_ret, ev_retN, ev_cif, ev_brk, ev_ct, ev_asg, ev_put, ev_aug, ev_for, ev_comp, ev_newL, ev_iseq, ev_irange, ev_ienum, ev_yes, Out.bind_ok, Out.bindN_ok, bindS_ok, Tg.set, Tg.sets, List.getElem?_cons_zero, List.getElem?_cons_succ, List.set_cons_zero, List.set_cons_succ, wipeE, List.length_cons, List.length_nil, Nat.reduceAdd, Nat.reduceLeDiff, Nat.reduceEqDiff, ↓reduceIte, Bool.false_eq_true, decide_eq_true_eq, add_int, sub_int, lt_int, gt_int, le_int, ge_int, neg_int, and_int, or_int, xor_int, max2_int, min2_int, mod_pos, fdiv_sm, mul_sm, mul_smr, Int.reduceLT, Int.reduceNeg, int_bl, int_int, sli_tup, e9, i0 ht]))).trans ?_
  refine (seq_of (set_of (d := .ref S11.length) (S' := S12) ?_)).trans ?_
  · show eComp _ _ _ _ _ [some (.fl (ns.map .int)), some (.ref ln), some (.ref lr), some (.ref lm), some (.ref ls), some (trD t), none, none, none, none, none, none, none, none, none, none, none] S9 = _
    have e11' : compL (Ck.ls lc' (ys.map .int)).ok (.nm 14) cYes (y_l_law_1 (F 39)) [some (.fl (ns.map .int)), some (.ref ln), some (.ref lr), some (.ref lm), some (.ref ls), some (trD t), none, none, none, none, none, none, none, none, none, none, none] (ys.map .int) [] S10 = .ok (zs.map sgD) S11 := e11
    simp only [ev_comp, ev_iseq, ev_own, ev_acons, ev_anil, ev_var, ev_con, List.getElem?_cons_zero, List.getElem?_cons_succ, Out.bind_ok, List.length_cons, List.length_nil, Nat.reduceAdd, ↓reduceIte, e10, walk_ref hc10, wipeE, List.set_cons_zero, List.set_cons_succ, e11', ev_newL, hS12]
  have e13' := e13 [some (.fl (ns.map .int)), some (.ref ln), some (.ref lr), some (.ref lm), some (.ref ls), some (trD t), some (.ref S11.length), none, none, none, none, none, none, none, none, none, none] (oSome (eCon (.int 1))) (oSome (eCon (.int 2))) rfl (by simp only [ev_var, ev_con, ev_bin, ev_un, ev_anil, ev_acons, ev_call, ev_tup, ev_lst, ev_not, ev_and, ev_or, ev_if, ev_cbl, ev_btrue, ev_cand, ev_cor, ev_cnot, ev_sli, ev_onone, ev_osome, ev_chain, ev_meth, ev_get2, ev_newK, ev_newT, ev_own, ev_nil, ev_seq, ev_expr, ev_set, ev_ret, ev_retN, ev_cif, ev_brk, ev_ct, ev_asg, ev_put, ev_aug, ev_for, ev_comp, ev_newL, ev_iseq, ev_irange, ev_ienum, ev_yes, Out.bind_ok, Out.bindN_ok, bindS_ok, Tg.set, Tg.sets, List.getElem?_cons_zero, List.getElem?_cons_succ, List.set_cons_zero, List.set_cons_succ, wipeE, List.length_cons, List.length_nil, Nat.reduceAdd, Nat.reduceLeDiff, Nat.reduceEqDiff, ↓reduceIte, Bool.false_eq_true, decide_eq_true_eq, add_int, sub_int, lt_int, gt_int, le_int, ge_int, neg_int, and_int, or_int, xor_int, max2_int, min2_int, mod_pos, fdiv_sm, mul_sm, mul_smr, Int.reduceLT, Int.reduceNeg, int_bl, int_int, sli_tup]) (by simp only [ev_var, ev_con, ev_bin, ev_un, ev_anil, ev_acons, ev_call, ev_tup, ev_lst, ev_not, ev_and, ev_or, ev_if, ev_cbl, ev_btrue, ev_cand, ev_cor, ev_cnot, ev_sli, ev_onone, ev_osome, ev_chain, ev_meth, ev_get2, ev_newK, ev_newT, ev_own, ev_nil, ev_seq, ev_expr, ev_set, ev_ret, ev_retN, ev_cif, ev_brk, ev_ct, ev_asg, ev_put, ev_aug, ev_for, ev_comp, ev_newL, ev_iseq, ev_irange, ev_ienum, ev_yes, Out.bind_ok, Out.bindN_ok, bindS_ok, Tg.set, Tg.sets, List.getElem?_cons_zero, List.getElem?_cons_succ, List.set_cons_zero, List.set_cons_succ, wipeE, List.length_cons, List.length_nil, Nat.reduceAdd, Nat.reduceLeDiff, Nat.reduceEqDiff, ↓reduceIte, Bool.false_eq_true, decide_eq_true_eq, add_int, sub_int, lt_int, gt_int, le_int, ge_int, neg_int, and_int, or_int, xor_int, max2_int, min2_int, mod_pos, fdiv_sm, mul_sm, mul_smr, Int.reduceLT, Int.reduceNeg, int_bl, int_int, sli_tup])
  have eM : eOwn 2 (F 39 .l_mix) (aCons (eCall sumD (aCons (eSli (eVar 0) (oSome (eCon (.int 1))) (oSome (eCon (.int 2)))) (aNil))) (aCons (eCon (.int 45)) (aNil))) [some (.fl (ns.map .int)), some (.ref ln), some (.ref lr), some (.ref lm), some (.ref ls), some (trD t), some (.ref S11.length), none, none, none, none, none, none, none, none, none, none] S12 = .ok (.int (mx ch 45)) S13 := by
    rw [ev_own, ev_acons, e13']
    simp only [ev_var, ev_con, ev_bin, ev_un, ev_anil, ev_acons, ev_call, ev_tup, ev_lst, ev_not, ev_and, ev_or, ev_if, ev_cbl, ev_btrue, ev_cand, ev_cor, ev_cnot, ev_sli, ev_onone, ev_osome, ev_chain, ev_meth, ev_get2, ev_newK, ev_newT, ev_own, ev_nil, ev_seq, ev_expr, ev_set, ev_ret, ev_retN, ev_cif, ev_brk, ev_ct, ev_asg, ev_put, ev_aug, ev_for, ev_comp, ev_newL, ev_iseq, ev_irange, ev_ienum, ev_yes, Out.bind_ok, Out.bindN_ok, bindS_ok, Tg.set, Tg.sets, List.getElem?_cons_zero, List.getElem?_cons_succ, List.set_cons_zero, List.set_cons_succ, wipeE, List.length_cons, List.length_nil, Nat.reduceAdd, Nat.reduceLeDiff, Nat.reduceEqDiff, ↓reduceIte, Bool.false_eq_true, decide_eq_true_eq, add_int, sub_int, lt_int, gt_int, le_int, ge_int, neg_int, and_int, or_int, xor_int, max2_int, min2_int, mod_pos, fdiv_sm, mul_sm, mul_smr, Int.reduceLT, Int.reduceNeg, int_bl, int_int, sli_tup, mr]
  refine (seq_of (set_of (d := .int (mn : Int)) (S' := S13) ?_)).trans ?_
  · show eBin addD _ _ [some (.fl (ns.map .int)), some (.ref ln), some (.ref lr), some (.ref lm), some (.ref ls), some (trD t), some (.ref S11.length), none, none, none, none, none, none, none, none, none, none] S12 = _
    rw [ev_bin, ev_con, Out.bind_ok, ev_bin, eM, Out.bind_ok, ev_con, Out.bind_ok, mod_pos (by omega), Out.bind_ok, add_int, hmn]
  refine (seq_of ((for_of (w := (stepL 0 (mn : Int) (upN 0 (zs.length : Int) (mn : Int)), .tt)) (S' := S13) (by simp only [ev_var, ev_con, ev_bin, ev_un, ev_anil, ev_acons, ev_call, ev_tup, ev_lst, ev_not, ev_and, ev_or, ev_if, ev_cbl, ev_btrue, ev_cand, ev_cor, ev_cnot, ev_sli, ev_onone, ev_osome, ev_chain, ev_meth, ev_get2, ev_newK, ev_newT, ev_own, ev_nil, ev_seq, ev_expr, ev_set, ev_ret, ev_retN, ev_cif, ev_brk, ev_ct, ev_asg, ev_put, ev_aug, ev_for, ev_comp, ev_newL, ev_iseq, ev_irange, ev_ienum, ev_yes, Out.bind_ok, Out.bindN_ok, bindS_ok, Tg.set, Tg.sets, List.getElem?_cons_zero, List.getElem?_cons_succ, List.set_cons_zero, List.set_cons_succ, wipeE, List.length_cons, List.length_nil, Nat.reduceAdd, Nat.reduceLeDiff, Nat.reduceEqDiff, ↓reduceIte, Bool.false_eq_true, decide_eq_true_eq, add_int, sub_int, lt_int, gt_int, le_int, ge_int, neg_int, and_int, or_int, xor_int, max2_int, min2_int, mod_pos, fdiv_sm, mul_sm, mul_smr, Int.reduceLT, Int.reduceNeg, int_bl, int_int, sli_tup, ll, rU])).trans e14)).trans ?_
  refine ret_of ?_
  have e15' : F 39 .finds [trD t, .tup [.tup [.str "later", .tup [.str "any"]]]] S14 = .ok (.ref lf) S15 := e15
  simp only [ev_var, ev_con, ev_bin, ev_un, ev_anil, ev_acons, ev_call, ev_tup, ev_lst, ev_not, ev_and, ev_or, ev_if, ev_cbl, ev_btrue, ev_cand, ev_cor, ev_cnot, ev_sli, ev_onone, ev_osome, ev_chain, ev_meth, ev_get2, ev_newK, ev_newT, ev_own, ev_nil, ev_seq, ev_expr, ev_set, ev_ret, ev_retN, ev_cif, ev_brk, ev_ct, ev_asg, ev_put, ev_aug, ev_for, ev_comp, ev_newL, ev_iseq, ev_irange, ev_ienum, ev_yes, Out.bind_ok, Out.bindN_ok, bindS_ok, Tg.set, Tg.sets, List.getElem?_cons_zero, List.getElem?_cons_succ, List.set_cons_zero, List.set_cons_succ, wipeE, List.length_cons, List.length_nil, Nat.reduceAdd, Nat.reduceLeDiff, Nat.reduceEqDiff, ↓reduceIte, Bool.false_eq_true, decide_eq_true_eq, add_int, sub_int, lt_int, gt_int, le_int, ge_int, neg_int, and_int, or_int, xor_int, max2_int, min2_int, mod_pos, fdiv_sm, mul_sm, mul_smr, Int.reduceLT, Int.reduceNeg, int_bl, int_int, sli_tup, sline 0 (by omega), sline 1 (by omega), sline 2 (by omega), e15', hS16, e0s, e17, i0 ht17, eq_tr kt (show siz t ≤ 110 by omega)]
end Wk

/-! the end (printed by gen.py) -/
namespace Wk
open PySem PySem.Spec PyProof.Rows L2 PL
section
variable {P : Program} {w : World} {K : PySem.W.Frag} {mg : Str → Option Value} {base : Heap} {fa : Fn → Addr} {fd : Fn → FuncData}
theorem all_mk {l : PySem.W.OpenLaw} {w : World} {K : PySem.W.Frag} {h : Heap} {mg : Str → Option Value} {fl : Addr} (X : K.In h) (G : h.Ns mainGlobals mg) (hfa : mg "law" = some (.ref fl))
    {f1 : Addr} {od1 an1 : Option Addr} {sl1 : Array (Option Value)} {oc1 kV1 dc1 pm1 cd1 ct1 : Value} (a1 : PySem.W.nsIn K mainGlobals "all_places" = some (some (.ref f1)))
    (l1 : K.lookup f1 = some ⟨oc1, od1, .func (PySem.W.fnOf "all_places" "all_places" (defArgs s_all_places) (defBody s_all_places) (defScope s_all_places) .none kV1 dc1 pm1 an1 cd1 ct1), sl1⟩) (c1 : PySem.W.codeIn K cd1 "all_places" = true) (k1 : PySem.W.keepIn K (.ref f1) = true)
    {f2 : Addr} {od2 an2 : Option Addr} {sl2 : Array (Option Value)} {oc2 kV2 dc2 pm2 cd2 ct2 : Value} (a2 : PySem.W.nsIn K mainGlobals "tree_at" = some (some (.ref f2)))
    (l2 : K.lookup f2 = some ⟨oc2, od2, .func (PySem.W.fnOf "tree_at" "tree_at" (defArgs s_tree_at) (defBody s_tree_at) (defScope s_tree_at) .none kV2 dc2 pm2 an2 cd2 ct2), sl2⟩) (c2 : PySem.W.codeIn K cd2 "tree_at" = true) (k2 : PySem.W.keepIn K (.ref f2) = true)
    {f3 : Addr} {od3 an3 : Option Addr} {sl3 : Array (Option Value)} {oc3 kV3 dc3 pm3 cd3 ct3 : Value} (a3 : PySem.W.nsIn K mainGlobals "gone_to" = some (some (.ref f3)))
    (l3 : K.lookup f3 = some ⟨oc3, od3, .func (PySem.W.fnOf "gone_to" "gone_to" (defArgs s_gone_to) (defBody s_gone_to) (defScope s_gone_to) .none kV3 dc3 pm3 an3 cd3 ct3), sl3⟩) (c3 : PySem.W.codeIn K cd3 "gone_to" = true) (k3 : PySem.W.keepIn K (.ref f3) = true)
    {f4 : Addr} {od4 an4 : Option Addr} {sl4 : Array (Option Value)} {oc4 kV4 dc4 pm4 cd4 ct4 : Value} (a4 : PySem.W.nsIn K mainGlobals "starts_of" = some (some (.ref f4)))
    (l4 : K.lookup f4 = some ⟨oc4, od4, .func (PySem.W.fnOf "starts_of" "starts_of" (defArgs s_starts_of) (defBody s_starts_of) (defScope s_starts_of) .none kV4 dc4 pm4 an4 cd4 ct4), sl4⟩) (c4 : PySem.W.codeIn K cd4 "starts_of" = true) (k4 : PySem.W.keepIn K (.ref f4) = true)
    {f5 : Addr} {od5 an5 : Option Addr} {sl5 : Array (Option Value)} {oc5 kV5 dc5 pm5 cd5 ct5 : Value} (a5 : PySem.W.nsIn K mainGlobals "places_of" = some (some (.ref f5)))
    (l5 : K.lookup f5 = some ⟨oc5, od5, .func (PySem.W.fnOf "places_of" "places_of" (defArgs s_places_of) (defBody s_places_of) (defScope s_places_of) .none kV5 dc5 pm5 an5 cd5 ct5), sl5⟩) (c5 : PySem.W.codeIn K cd5 "places_of" = true) (k5 : PySem.W.keepIn K (.ref f5) = true)
    {f6 : Addr} {od6 an6 : Option Addr} {sl6 : Array (Option Value)} {oc6 kV6 dc6 pm6 cd6 ct6 : Value} (a6 : PySem.W.nsIn K mainGlobals "finds" = some (some (.ref f6)))
    (l6 : K.lookup f6 = some ⟨oc6, od6, .func (PySem.W.fnOf "finds" "finds" (defArgs s_finds) (defBody s_finds) (defScope s_finds) .none kV6 dc6 pm6 an6 cd6 ct6), sl6⟩) (c6 : PySem.W.codeIn K cd6 "finds" = true) (k6 : PySem.W.keepIn K (.ref f6) = true)
    {f7 : Addr} {od7 an7 : Option Addr} {sl7 : Array (Option Value)} {oc7 kV7 dc7 pm7 cd7 ct7 : Value} (a7 : PySem.W.nsIn K mainGlobals "_law_mix" = some (some (.ref f7)))
    (l7 : K.lookup f7 = some ⟨oc7, od7, .func (PySem.W.fnOf "_law_mix" "_law_mix" (defArgs s_l_mix) (defBody s_l_mix) (defScope s_l_mix) .none kV7 dc7 pm7 an7 cd7 ct7), sl7⟩) (c7 : PySem.W.codeIn K cd7 "_law_mix" = true) (k7 : PySem.W.keepIn K (.ref f7) = true)
    {f8 : Addr} {od8 an8 : Option Addr} {sl8 : Array (Option Value)} {oc8 kV8 dc8 pm8 cd8 ct8 : Value} (a8 : PySem.W.nsIn K mainGlobals "_law_cells" = some (some (.ref f8)))
    (l8 : K.lookup f8 = some ⟨oc8, od8, .func (PySem.W.fnOf "_law_cells" "_law_cells" (defArgs s_l_cells) (defBody s_l_cells) (defScope s_l_cells) .none kV8 dc8 pm8 an8 cd8 ct8), sl8⟩) (c8 : PySem.W.codeIn K cd8 "_law_cells" = true) (k8 : PySem.W.keepIn K (.ref f8) = true)
    {f9 : Addr} {od9 an9 : Option Addr} {sl9 : Array (Option Value)} {oc9 kV9 dc9 pm9 cd9 ct9 : Value} (a9 : PySem.W.nsIn K mainGlobals "_law_names" = some (some (.ref f9)))
    (l9 : K.lookup f9 = some ⟨oc9, od9, .func (PySem.W.fnOf "_law_names" "_law_names" (defArgs s_l_names) (defBody s_l_names) (defScope s_l_names) .none kV9 dc9 pm9 an9 cd9 ct9), sl9⟩) (c9 : PySem.W.codeIn K cd9 "_law_names" = true) (k9 : PySem.W.keepIn K (.ref f9) = true)
    {f10 : Addr} {od10 an10 : Option Addr} {sl10 : Array (Option Value)} {oc10 kV10 dc10 pm10 cd10 ct10 : Value} (a10 : PySem.W.nsIn K mainGlobals "_law_rows" = some (some (.ref f10)))
    (l10 : K.lookup f10 = some ⟨oc10, od10, .func (PySem.W.fnOf "_law_rows" "_law_rows" (defArgs s_l_rows) (defBody s_l_rows) (defScope s_l_rows) .none kV10 dc10 pm10 an10 cd10 ct10), sl10⟩) (c10 : PySem.W.codeIn K cd10 "_law_rows" = true) (k10 : PySem.W.keepIn K (.ref f10) = true)
    {f11 : Addr} {od11 an11 : Option Addr} {sl11 : Array (Option Value)} {oc11 kV11 dc11 pm11 cd11 ct11 : Value} (a11 : PySem.W.nsIn K mainGlobals "_law_trees" = some (some (.ref f11)))
    (l11 : K.lookup f11 = some ⟨oc11, od11, .func (PySem.W.fnOf "_law_trees" "_law_trees" (defArgs s_l_trees) (defBody s_l_trees) (defScope s_l_trees) .none kV11 dc11 pm11 an11 cd11 ct11), sl11⟩) (c11 : PySem.W.codeIn K cd11 "_law_trees" = true) (k11 : PySem.W.keepIn K (.ref f11) = true)
    {f12 : Addr} {od12 an12 : Option Addr} {sl12 : Array (Option Value)} {oc12 kV12 dc12 pm12 cd12 ct12 : Value} (a12 : PySem.W.nsIn K mainGlobals "_law_spots" = some (some (.ref f12)))
    (l12 : K.lookup f12 = some ⟨oc12, od12, .func (PySem.W.fnOf "_law_spots" "_law_spots" (defArgs s_l_spots) (defBody s_l_spots) (defScope s_l_spots) .none kV12 dc12 pm12 an12 cd12 ct12), sl12⟩) (c12 : PySem.W.codeIn K cd12 "_law_spots" = true) (k12 : PySem.W.keepIn K (.ref f12) = true)
    {f13 : Addr} {od13 an13 : Option Addr} {sl13 : Array (Option Value)} {oc13 kV13 dc13 pm13 cd13 ct13 : Value} (a13 : PySem.W.nsIn K mainGlobals "_law_reach" = some (some (.ref f13)))
    (l13 : K.lookup f13 = some ⟨oc13, od13, .func (PySem.W.fnOf "_law_reach" "_law_reach" (defArgs s_l_reach) (defBody s_l_reach) (defScope s_l_reach) .none kV13 dc13 pm13 an13 cd13 ct13), sl13⟩) (c13 : PySem.W.codeIn K cd13 "_law_reach" = true) (k13 : PySem.W.keepIn K (.ref f13) = true)
    {f14 : Addr} {od14 an14 : Option Addr} {sl14 : Array (Option Value)} {oc14 kV14 dc14 pm14 cd14 ct14 : Value} (a14 : PySem.W.nsIn K mainGlobals "_law_step" = some (some (.ref f14)))
    (l14 : K.lookup f14 = some ⟨oc14, od14, .func (PySem.W.fnOf "_law_step" "_law_step" (defArgs s_l_step) (defBody s_l_step) (defScope s_l_step) .none kV14 dc14 pm14 an14 cd14 ct14), sl14⟩) (c14 : PySem.W.codeIn K cd14 "_law_step" = true) (k14 : PySem.W.keepIn K (.ref f14) = true)
    {f15 : Addr} {od15 an15 : Option Addr} {sl15 : Array (Option Value)} {oc15 kV15 dc15 pm15 cd15 ct15 : Value} (a15 : PySem.W.nsIn K mainGlobals "_law_gone_to" = some (some (.ref f15)))
    (l15 : K.lookup f15 = some ⟨oc15, od15, .func (PySem.W.fnOf "_law_gone_to" "_law_gone_to" (defArgs s_l_gone_to) (defBody s_l_gone_to) (defScope s_l_gone_to) .none kV15 dc15 pm15 an15 cd15 ct15), sl15⟩) (c15 : PySem.W.codeIn K cd15 "_law_gone_to" = true) (k15 : PySem.W.keepIn K (.ref f15) = true)
    {f16 : Addr} {od16 an16 : Option Addr} {sl16 : Array (Option Value)} {oc16 kV16 dc16 pm16 cd16 ct16 : Value} (a16 : PySem.W.nsIn K mainGlobals "_law_most" = some (some (.ref f16)))
    (l16 : K.lookup f16 = some ⟨oc16, od16, .func (PySem.W.fnOf "_law_most" "_law_most" (defArgs s_l_most) (defBody s_l_most) (defScope s_l_most) .none kV16 dc16 pm16 an16 cd16 ct16), sl16⟩) (c16 : PySem.W.codeIn K cd16 "_law_most" = true) (k16 : PySem.W.keepIn K (.ref f16) = true)
    {f17 : Addr} {od17 an17 : Option Addr} {sl17 : Array (Option Value)} {oc17 kV17 dc17 pm17 cd17 ct17 : Value} (a17 : PySem.W.nsIn K mainGlobals "law" = some (some (.ref f17)))
    (l17 : K.lookup f17 = some ⟨oc17, od17, .func (PySem.W.fnOf "law" "law" (defArgs s_l_law) (defBody s_l_law) (defScope s_l_law) .none kV17 dc17 pm17 an17 cd17 ct17), sl17⟩) (c17 : PySem.W.codeIn K cd17 "law" = true) (k17 : PySem.W.keepIn K (.ref f17) = true)
    (z_enumerate : PySem.W.nsIn K mainGlobals "enumerate" = some none)
    (z_int : PySem.W.nsIn K mainGlobals "int" = some none)
    (z_isinstance : PySem.W.nsIn K mainGlobals "isinstance" = some none)
    (z_len : PySem.W.nsIn K mainGlobals "len" = some none)
    (z_list : PySem.W.nsIn K mainGlobals "list" = some none)
    (z_min : PySem.W.nsIn K mainGlobals "min" = some none)
    (z_range : PySem.W.nsIn K mainGlobals "range" = some none)
    (z_reversed : PySem.W.nsIn K mainGlobals "reversed" = some none)
    (z_sorted : PySem.W.nsIn K mainGlobals "sorted" = some none)
    (z_sum : PySem.W.nsIn K mainGlobals "sum" = some none)
    (z_tuple : PySem.W.nsIn K mainGlobals "tuple" = some none)
    : ∃ fd : FuncData, (∀ (s : Shared) (v : Value), BindsTo s fd ⟨[v], []⟩ [("_law_script", v)]) ∧ ∀ base : Heap, K.In base → base.Ns mainGlobals mg → FnOk l.prog w K mg base CX0 50 fl fd ["_law_script"] (spD K mg (F 40 .l_law) 1) := by
  have e := hfa.symm.trans (PySem.W.mg_of X G a17)
  cases e
  have F1 := fun_mk (st := s_all_places) l1 c1 k1
  have b1 := F1.binds (ps := p_all_places) fun _ _ _ _ _ _ us hl => match us, hl with | [_], _ => rfl
  have F2 := fun_mk (st := s_tree_at) l2 c2 k2
  have b2 := F2.binds (ps := p_tree_at) fun _ _ _ _ _ _ us hl => match us, hl with | [_, _], _ => rfl
  have F3 := fun_mk (st := s_gone_to) l3 c3 k3
  have b3 := F3.binds (ps := p_gone_to) fun _ _ _ _ _ _ us hl => match us, hl with | [_, _, _], _ => rfl
  have F4 := fun_mk (st := s_starts_of) l4 c4 k4
  have b4 := F4.binds (ps := p_starts_of) fun _ _ _ _ _ _ us hl => match us, hl with | [_, _, _], _ => rfl
  have F5 := fun_mk (st := s_places_of) l5 c5 k5
  have b5 := F5.binds (ps := p_places_of) fun _ _ _ _ _ _ us hl => match us, hl with | [_, _, _], _ => rfl
  have F6 := fun_mk (st := s_finds) l6 c6 k6
  have b6 := F6.binds (ps := p_finds) fun _ _ _ _ _ _ us hl => match us, hl with | [_, _], _ => rfl
  have F7 := fun_mk (st := s_l_mix) l7 c7 k7
  have b7 := F7.binds (ps := p_l_mix) fun _ _ _ _ _ _ us hl => match us, hl with | [_, _], _ => rfl
  have F8 := fun_mk (st := s_l_cells) l8 c8 k8
  have b8 := F8.binds (ps := p_l_cells) fun _ _ _ _ _ _ us hl => match us, hl with | [_, _], _ => rfl
  have F9 := fun_mk (st := s_l_names) l9 c9 k9
  have b9 := F9.binds (ps := p_l_names) fun _ _ _ _ _ _ us hl => match us, hl with | [_], _ => rfl
  have F10 := fun_mk (st := s_l_rows) l10 c10 k10
  have b10 := F10.binds (ps := p_l_rows) fun _ _ _ _ _ _ us hl => match us, hl with | [_, _, _], _ => rfl
  have F11 := fun_mk (st := s_l_trees) l11 c11 k11
  have b11 := F11.binds (ps := p_l_trees) fun _ _ _ _ _ _ us hl => match us, hl with | [_], _ => rfl
  have F12 := fun_mk (st := s_l_spots) l12 c12 k12
  have b12 := F12.binds (ps := p_l_spots) fun _ _ _ _ _ _ us hl => match us, hl with | [_], _ => rfl
  have F13 := fun_mk (st := s_l_reach) l13 c13 k13
  have b13 := F13.binds (ps := p_l_reach) fun _ _ _ _ _ _ us hl => match us, hl with | [_], _ => rfl
  have F14 := fun_mk (st := s_l_step) l14 c14 k14
  have b14 := F14.binds (ps := p_l_step) fun _ _ _ _ _ _ us hl => match us, hl with | [_, _, _], _ => rfl
  have F15 := fun_mk (st := s_l_gone_to) l15 c15 k15
  have b15 := F15.binds (ps := p_l_gone_to) fun _ _ _ _ _ _ us hl => match us, hl with | [_, _], _ => rfl
  have F16 := fun_mk (st := s_l_most) l16 c16 k16
  have b16 := F16.binds (ps := p_l_most) fun _ _ _ _ _ _ us hl => match us, hl with | [_, _], _ => rfl
  have F17 := fun_mk (st := s_l_law) l17 c17 k17
  have b17 := F17.binds (ps := p_l_law) fun _ _ _ _ _ _ us hl => match us, hl with | [_], _ => rfl
  have T : Tx K mg (fun | .all_places => f1 | .tree_at => f2 | .gone_to => f3 | .starts_of => f4 | .places_of => f5 | .finds => f6 | .l_mix => f7 | .l_cells => f8 | .l_names => f9 | .l_rows => f10 | .l_trees => f11 | .l_spots => f12 | .l_reach => f13 | .l_step => f14 | .l_gone_to => f15 | .l_most => f16 | .l_law => fl) (fun | .all_places => PySem.W.fnOf "all_places" "all_places" (defArgs s_all_places) (defBody s_all_places) (defScope s_all_places) .none kV1 dc1 pm1 an1 cd1 ct1 | .tree_at => PySem.W.fnOf "tree_at" "tree_at" (defArgs s_tree_at) (defBody s_tree_at) (defScope s_tree_at) .none kV2 dc2 pm2 an2 cd2 ct2 | .gone_to => PySem.W.fnOf "gone_to" "gone_to" (defArgs s_gone_to) (defBody s_gone_to) (defScope s_gone_to) .none kV3 dc3 pm3 an3 cd3 ct3 | .starts_of => PySem.W.fnOf "starts_of" "starts_of" (defArgs s_starts_of) (defBody s_starts_of) (defScope s_starts_of) .none kV4 dc4 pm4 an4 cd4 ct4 | .places_of => PySem.W.fnOf "places_of" "places_of" (defArgs s_places_of) (defBody s_places_of) (defScope s_places_of) .none kV5 dc5 pm5 an5 cd5 ct5 | .finds => PySem.W.fnOf "finds" "finds" (defArgs s_finds) (defBody s_finds) (defScope s_finds) .none kV6 dc6 pm6 an6 cd6 ct6 | .l_mix => PySem.W.fnOf "_law_mix" "_law_mix" (defArgs s_l_mix) (defBody s_l_mix) (defScope s_l_mix) .none kV7 dc7 pm7 an7 cd7 ct7 | .l_cells => PySem.W.fnOf "_law_cells" "_law_cells" (defArgs s_l_cells) (defBody s_l_cells) (defScope s_l_cells) .none kV8 dc8 pm8 an8 cd8 ct8 | .l_names => PySem.W.fnOf "_law_names" "_law_names" (defArgs s_l_names) (defBody s_l_names) (defScope s_l_names) .none kV9 dc9 pm9 an9 cd9 ct9 | .l_rows => PySem.W.fnOf "_law_rows" "_law_rows" (defArgs s_l_rows) (defBody s_l_rows) (defScope s_l_rows) .none kV10 dc10 pm10 an10 cd10 ct10 | .l_trees => PySem.W.fnOf "_law_trees" "_law_trees" (defArgs s_l_trees) (defBody s_l_trees) (defScope s_l_trees) .none kV11 dc11 pm11 an11 cd11 ct11 | .l_spots => PySem.W.fnOf "_law_spots" "_law_spots" (defArgs s_l_spots) (defBody s_l_spots) (defScope s_l_spots) .none kV12 dc12 pm12 an12 cd12 ct12 | .l_reach => PySem.W.fnOf "_law_reach" "_law_reach" (defArgs s_l_reach) (defBody s_l_reach) (defScope s_l_reach) .none kV13 dc13 pm13 an13 cd13 ct13 | .l_step => PySem.W.fnOf "_law_step" "_law_step" (defArgs s_l_step) (defBody s_l_step) (defScope s_l_step) .none kV14 dc14 pm14 an14 cd14 ct14 | .l_gone_to => PySem.W.fnOf "_law_gone_to" "_law_gone_to" (defArgs s_l_gone_to) (defBody s_l_gone_to) (defScope s_l_gone_to) .none kV15 dc15 pm15 an15 cd15 ct15 | .l_most => PySem.W.fnOf "_law_most" "_law_most" (defArgs s_l_most) (defBody s_l_most) (defScope s_l_most) .none kV16 dc16 pm16 an16 cd16 ct16 | .l_law => PySem.W.fnOf "law" "law" (defArgs s_l_law) (defBody s_l_law) (defScope s_l_law) .none kV17 dc17 pm17 an17 cd17 ct17) :=
    ⟨F1, PySem.W.mg_of X G a1, b1, F2, PySem.W.mg_of X G a2, b2, F3, PySem.W.mg_of X G a3, b3, F4, PySem.W.mg_of X G a4, b4, F5, PySem.W.mg_of X G a5, b5, F6, PySem.W.mg_of X G a6, b6, F7, PySem.W.mg_of X G a7, b7, F8, PySem.W.mg_of X G a8, b8, F9, PySem.W.mg_of X G a9, b9, F10, PySem.W.mg_of X G a10, b10, F11, PySem.W.mg_of X G a11, b11, F12, PySem.W.mg_of X G a12, b12, F13, PySem.W.mg_of X G a13, b13, F14, PySem.W.mg_of X G a14, b14, F15, PySem.W.mg_of X G a15, b15, F16, PySem.W.mg_of X G a16, b16, F17, PySem.W.mg_of X G a17, b17, PySem.W.mg_none_of X G z_enumerate, PySem.W.mg_none_of X G z_int, PySem.W.mg_none_of X G z_isinstance, PySem.W.mg_none_of X G z_len, PySem.W.mg_none_of X G z_list, PySem.W.mg_none_of X G z_min, PySem.W.mg_none_of X G z_range, PySem.W.mg_none_of X G z_reversed, PySem.W.mg_none_of X G z_sorted, PySem.W.mg_none_of X G z_sum, PySem.W.mg_none_of X G z_tuple⟩
  exact ⟨_, fun s v => .of_eq rfl, fun base _ _ => ok_all T 40 .l_law⟩
end
theorem walk {l : PySem.W.OpenLaw} {q : Program} {loose : List Str} {XP : (Str → Option Value) → Heap → Prop} {YP : World → Heap → Prop} {d : DefRec} {K : Params → PySem.W.Frag} (hn : l.most = some 63) (hdf : d.params.defaults = [])
    (hY : ∀ (w : World) (h : Heap), YP w h → (K w.params).In h)
    (FF : ∀ (w : World) (mg : Str → Option Value) (fa : Addr) (h : Heap), (K w.params).In h → h.Ns mainGlobals mg → mg d.name = some (.ref fa) →
      ∃ fd : FuncData, (∀ (s : Shared) (u : Value), BindsTo s fd ⟨[u], []⟩ [("_law_script", u)]) ∧ ∀ base : Heap, (K w.params).In base → base.Ns mainGlobals mg → FnOk l.prog w (K w.params) mg base CX0 50 fa fd ["_law_script"] (spD (K w.params) mg (F 40 .l_law) 1)) :
    PySem.W.WalkO q loose XP YP l.row.toRowW d [] (fun f vs => PySem.call f vs) :=
  walk_law (k := 50) (x := "_law_script") hn hdf ⟨rfl, by decide, by decide⟩ hY law_true FF
end Wk
open PySem PySem.W PyProof.Rows in
set_option maxRecDepth 100000 in
set_option maxHeartbeats 0 in
theorem PySem.Challenge.cw_pathshape_k33_ways_without_looks_holds : PySem.Challenge.rw_pathshape_k33_ways_without_looks.Holds := by
  w_on; o_law; k_head; (case hw => w_witness2)
  k_fill
  refine Wk.walk (l := PySem.Challenge.rw_pathshape_k33_ways_without_looks) rfl rfl (fun w h Y => PySem.W.kIn_of Y) ?FF
  case FF =>
    intro w mg fa h KX G hmg
    refine' Wk.all_mk KX G hmg ?a1 ?l1 ?c1 ?k1 ?a2 ?l2 ?c2 ?k2 ?a3 ?l3 ?c3 ?k3 ?a4 ?l4 ?c4 ?k4 ?a5 ?l5 ?c5 ?k5 ?a6 ?l6 ?c6 ?k6 ?a7 ?l7 ?c7 ?k7 ?a8 ?l8 ?c8 ?k8 ?a9 ?l9 ?c9 ?k9 ?a10 ?l10 ?c10 ?k10 ?a11 ?l11 ?c11 ?k11 ?a12 ?l12 ?c12 ?k12 ?a13 ?l13 ?c13 ?k13 ?a14 ?l14 ?c14 ?k14 ?a15 ?l15 ?c15 ?k15 ?a16 ?l16 ?c16 ?k16 ?a17 ?l17 ?c17 ?k17 ?z_enumerate ?z_int ?z_isinstance ?z_len ?z_list ?z_min ?z_range ?z_reversed ?z_sorted ?z_sum ?z_tuple
    (case a1 => k_is)
    (case l1 => k_is)
    (case c1 => k_is)
    (case k1 => k_is)
    (case a2 => k_is)
    (case l2 => k_is)
    (case c2 => k_is)
    (case k2 => k_is)
    (case a3 => k_is)
    (case l3 => k_is)
    (case c3 => k_is)
    (case k3 => k_is)
    (case a4 => k_is)
    (case l4 => k_is)
    (case c4 => k_is)
    (case k4 => k_is)
    (case a5 => k_is)
    (case l5 => k_is)
    (case c5 => k_is)
    (case k5 => k_is)
    (case a6 => k_is)
    (case l6 => k_is)
    (case c6 => k_is)
    (case k6 => k_is)
    (case a7 => k_is)
    (case l7 => k_is)
    (case c7 => k_is)
    (case k7 => k_is)
    (case a8 => k_is)
    (case l8 => k_is)
    (case c8 => k_is)
    (case k8 => k_is)
    (case a9 => k_is)
    (case l9 => k_is)
    (case c9 => k_is)
    (case k9 => k_is)
    (case a10 => k_is)
    (case l10 => k_is)
    (case c10 => k_is)
    (case k10 => k_is)
    (case a11 => k_is)
    (case l11 => k_is)
    (case c11 => k_is)
    (case k11 => k_is)
    (case a12 => k_is)
    (case l12 => k_is)
    (case c12 => k_is)
    (case k12 => k_is)
    (case a13 => k_is)
    (case l13 => k_is)
    (case c13 => k_is)
    (case k13 => k_is)
    (case a14 => k_is)
    (case l14 => k_is)
    (case c14 => k_is)
    (case k14 => k_is)
    (case a15 => k_is)
    (case l15 => k_is)
    (case c15 => k_is)
    (case k15 => k_is)
    (case a16 => k_is)
    (case l16 => k_is)
    (case c16 => k_is)
    (case k16 => k_is)
    (case a17 => k_is)
    (case l17 => k_is)
    (case c17 => k_is)
    (case k17 => k_is)
    (case z_enumerate => k_is)
    (case z_int => k_is)
    (case z_isinstance => k_is)
    (case z_len => k_is)
    (case z_list => k_is)
    (case z_min => k_is)
    (case z_range => k_is)
    (case z_reversed => k_is)
    (case z_sorted => k_is)
    (case z_sum => k_is)
    (case z_tuple => k_is)
#print axioms PySem.Challenge.cw_pathshape_k33_ways_without_looks_holds
