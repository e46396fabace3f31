import PyProof.Rows.All
import Wide.All
import OpenK.AllK
import Wide.FinOn
import HandS.ForMost
import HandS.Deep
import HandS.TupAny
import HandS.Wide
import HandS.WideBits
import HandS.Conv
import HandS.DictTup
import HandS.IsInst
import HandS.Flow
import HandS.More
import HandS.TupLen
import HandS.WordsDict
import HandS.CallSlots
import KE.GoesEnum
import HandS.Rev
import KE.DatumOrd
import HandS.RevRange
import KE.BitLaws
import PySem.Challenge.RW_pathshape_k43_masks_of_places
set_option Elab.async false
set_option linter.all false
set_option maxRecDepth 100000
set_option maxHeartbeats 4000000
namespace PL
open PySem PySem.Spec PyProof.Rows L2

/-! ### data, store, outcomes -/
inductive Dv where
  | non | bl (b : Bool) | int (i : Int) | str (x : Str) | tup (ds : List Dv) | kt (ds : List Dv) | fl (ds : List Dv) | ref (l : Nat)
inductive Ob where
  | lst (ds : List Dv) | dk (kvs : List (L2.Key × Dv)) | dt (kvs : List (List L2.Key × Dv))
abbrev Sto := List Ob
abbrev Env := List (Option Dv)
structure Ex where
  cls : Str
  fs : Option (Str × Dv)
inductive Out (α : Type) where
  | ok (a : α) (S : Sto) | ex (x : Ex) (S : Sto) | no
def Out.bind {α β : Type} : Out α → (α → Sto → Out β) → Out β
  | .ok a S, f => f a S
  | .ex x S, _ => .ex x S
  | .no, _ => .no
@[simp] theorem Out.bind_ok {α β : Type} (a : α) (S : Sto) (f : α → Sto → Out β) : (Out.ok a S).bind f = f a S := rfl
@[simp] theorem Out.bind_ex {α β : Type} (x : Ex) (S : Sto) (f : α → Sto → Out β) : (Out.ex x S : Out α).bind f = .ex x S := rfl
@[simp] theorem Out.bind_no {α β : Type} (f : α → Sto → Out β) : (Out.no : Out α).bind f = .no := rfl
/-- what is raised here is not told -/
def Out.bindN {α β : Type} : Out α → (α → Sto → Out β) → Out β
  | .ok a S, f => f a S
  | _, _ => .no
@[simp] theorem Out.bindN_ok {α β : Type} (a : α) (S : Sto) (f : α → Sto → Out β) : (Out.ok a S).bindN f = f a S := rfl
abbrev RE := Env → Sto → Out Dv
abbrev RT := Env → Sto → Out Bool
abbrev RA := Env → Sto → Out (List Dv)

/-! ### what a value stands for -/
def TupAt (μ : List Addr) (H : Hp) (a : Addr) (vs : List V) : Prop := H a = some (.tup vs) ∧ a ∉ μ
def ConAt (K : PySem.W.Frag) (a : Addr) (vs : List V) : Prop :=
  ∃ (o : Obj) (its : Array Value) (n : Nat), K.lookup a = some o ∧ o.cls = .type "tuple" ∧ o.data = .seq its n ∧ its.size ≤ sizeLine ∧ Vals vs its.toList
def LisAt (K : PySem.W.Frag) (μ : List Addr) (H : Hp) (a : Addr) (vs : List V) : Prop :=
  ((∃ o, H a = some (.frz o (.lst vs))) ∧ a ∉ μ) ∨ ∃ (o : Obj) (its : Array Value) (n : Nat), K.lookup a = some o ∧ o.cls = .type "list" ∧ o.dict = none ∧ o.data = .seq its n ∧ its.size ≤ sizeLine ∧ Vals vs its.toList
inductive Rep (K : PySem.W.Frag) (μ : List Addr) (H : Hp) : V → Dv → Prop
  | non : Rep K μ H .non .non
  | bl (b : Bool) : Rep K μ H (.bl b) (.bl b)
  | int (i : Int) : Rep K μ H (.int i) (.int i)
  | str (x : Str) : Rep K μ H (.str x) (.str x)
  | ref {l : Nat} {a : Addr} : μ[l]? = some a → Rep K μ H (.ref a) (.ref l)
  | kt {a : Addr} {vs : List V} {ds : List Dv} : ConAt K a vs → vs.length = ds.length → (∀ (i : Nat) (v : V) (d : Dv), vs[i]? = some v → ds[i]? = some d → Rep K μ H v d) → Rep K μ H (.ref a) (.kt ds)
  | tup {a : Addr} {vs : List V} {ds : List Dv} : TupAt μ H a vs → vs.length = ds.length → (∀ (i : Nat) (v : V) (d : Dv), vs[i]? = some v → ds[i]? = some d → Rep K μ H v d) → Rep K μ H (.ref a) (.tup ds)
  | fl {a : Addr} {vs : List V} {ds : List Dv} : LisAt K μ H a vs → vs.length = ds.length → (∀ (i : Nat) (v : V) (d : Dv), vs[i]? = some v → ds[i]? = some d → Rep K μ H v d) → Rep K μ H (.ref a) (.fl ds)
def Reps (K : PySem.W.Frag) (μ : List Addr) (H : Hp) (vs : List V) (ds : List Dv) : Prop :=
  vs.length = ds.length ∧ ∀ (i : Nat) (v : V) (d : Dv), vs[i]? = some v → ds[i]? = some d → Rep K μ H v d

structure Step (μ : List Addr) (H : Hp) (μ' : List Addr) (H' : Hp) : Prop where
  pre : ∃ ν, μ' = μ ++ ν ∧ ∀ b ∈ ν, H b = none
  keep : ∀ b o, H b = some o → b ∉ μ → H' b = some o
  live : ∀ b, H b ≠ none → H' b ≠ none

def ObR (K : PySem.W.Frag) (μ : List Addr) (H : Hp) (a : Addr) : Ob → Prop
  | .lst ds => ∃ vs, H a = some (.lst vs) ∧ Reps K μ H vs ds
  | .dk kvs => ∃ ws, H a = some (.dK ws) ∧ ws.map (·.1) = kvs.map (·.1) ∧ Reps K μ H (ws.map (·.2)) (kvs.map (·.2))
  | .dt kvs => ∃ ws, H a = some (.dT ws) ∧ ws.map (·.1) = kvs.map (·.1) ∧ Reps K μ H (ws.map (·.2)) (kvs.map (·.2))
structure SimS (K : PySem.W.Frag) (μ : List Addr) (S : Sto) (H : Hp) : Prop where
  len : μ.length = S.length
  nd : μ.Nodup
  ob : ∀ (l : Nat) (a : Addr) (o : Ob), μ[l]? = some a → S[l]? = some o → ObR K μ H a o
def SimE (K : PySem.W.Frag) (μ : List Addr) (H : Hp) (ρ : Env) (σ : L2.St) : Prop :=
  ρ.length = σ.length ∧ ∀ (i : Nat) (d : Dv), ρ[i]? = some (some d) → ∃ v, σ[i]? = some (some v) ∧ Rep K μ H v d
def XRep (K : PySem.W.Frag) (mg : Str → Option Value) (μ : List Addr) (H : Hp) (x : Ex) (cls : Value) (d : Option Addr) : Prop :=
  mg x.cls = some cls ∧ ((x.fs = none ∧ d = none) ∨ ∃ f e dx v, x.fs = some (f, e) ∧ d = some dx ∧ H dx = some (.xd [(f, v)]) ∧ Rep K μ H v e)

/-! ### keeping -/
section
variable {K : PySem.W.Frag} {μ μ' μ1 μ2 : List Addr} {H H' H1 H2 : Hp} {v : V} {d : Dv} {vs : List V} {ds : List Dv} {a : Addr}
theorem Step.refl (μ : List Addr) (H : Hp) : Step μ H μ H := ⟨⟨[], by simp, fun _ h => nomatch h⟩, fun _ _ h _ => h, fun _ h => h⟩
theorem Step.nin (s : Step μ H μ' H') {o : HO} (h : H a = some o) (n : a ∉ μ) : a ∉ μ' := by
  obtain ⟨ν, e, f⟩ := s.pre
  rw [e]
  intro q
  rcases List.mem_append.mp q with q | q
  · exact n q
  · rw [f a q] at h; cases h
theorem Step.trans (s : Step μ H μ1 H1) (t : Step μ1 H1 μ2 H2) : Step μ H μ2 H2 := by
  refine ⟨?_, fun b o h n => t.keep b o (s.keep b o h n) (s.nin h n), fun b h => t.live b (s.live b h)⟩
  obtain ⟨ν, e, f⟩ := s.pre
  obtain ⟨ν', e', f'⟩ := t.pre
  refine ⟨ν ++ ν', by rw [e', e, List.append_assoc], fun b hb => ?_⟩
  rcases List.mem_append.mp hb with hb | hb
  · exact f b hb
  · cases q : H b with
    | none => rfl
    | some o => exact absurd (f' b hb) (s.live b (by rw [q]; exact fun z => nomatch z))
theorem Step.get (s : Step μ H μ' H') {l : Nat} (h : μ[l]? = some a) : μ'[l]? = some a := by
  obtain ⟨ν, e, _⟩ := s.pre
  rw [e, List.getElem?_append_left (List.getElem?_eq_some_iff.mp h).1]
  exact h
theorem TupAt.step (s : Step μ H μ' H') (h : TupAt μ H a vs) : TupAt μ' H' a vs := ⟨s.keep _ _ h.1 h.2, s.nin h.1 h.2⟩
theorem LisAt.step (s : Step μ H μ' H') (h : LisAt K μ H a vs) : LisAt K μ' H' a vs := by
  rcases h with ⟨⟨o, h⟩, n⟩ | h
  · exact .inl ⟨⟨o, s.keep _ _ h n⟩, s.nin h n⟩
  · exact .inr h
theorem Rep.step (s : Step μ H μ' H') (h : Rep K μ H v d) : Rep K μ' H' v d := by
  induction h with
  | non => exact .non
  | bl b => exact .bl b
  | int i => exact .int i
  | str x => exact .str x
  | ref h => exact .ref (s.get h)
  | kt h e _ ih => exact .kt h e fun i v d h1 h2 => ih i v d h1 h2
  | tup h e _ ih => exact .tup (h.step s) e fun i v d h1 h2 => ih i v d h1 h2
  | fl h e _ ih => exact .fl (h.step s) e fun i v d h1 h2 => ih i v d h1 h2
theorem Reps.step (s : Step μ H μ' H') (h : Reps K μ H vs ds) : Reps K μ' H' vs ds := ⟨h.1, fun i v d h1 h2 => (h.2 i v d h1 h2).step s⟩
theorem Reps.nil : Reps K μ H [] [] := ⟨rfl, fun i v d h => by simp at h⟩
theorem Reps.cons (t : Reps K μ H vs ds) (h : Rep K μ H v d) : Reps K μ H (v :: vs) (d :: ds) := by
  refine ⟨by simp [t.1], fun i v' d' h1 h2 => ?_⟩
  cases i with
  | zero => simp at h1 h2; subst h1; subst h2; exact h
  | succ i => exact t.2 i v' d' (by simpa using h1) (by simpa using h2)
theorem Reps.uncons {e : Dv} {es : List Dv} (t : Reps K μ H vs (e :: es)) : ∃ v ws, vs = v :: ws ∧ Rep K μ H v e ∧ Reps K μ H ws es := by
  cases vs with
  | nil => exact absurd t.1 (by simp)
  | cons v ws => exact ⟨v, ws, rfl, t.2 0 v e rfl rfl, by have := t.1; simpa using this, fun i v' d' h1 h2 => t.2 (i + 1) v' d' (by simpa using h1) (by simpa using h2)⟩
theorem Reps.un0 (t : Reps K μ H vs []) : vs = [] := List.eq_nil_of_length_eq_zero (by rw [t.1]; rfl)
theorem Reps.append {ws : List V} {es : List Dv} (h : Reps K μ H vs ds) (t : Reps K μ H ws es) : Reps K μ H (vs ++ ws) (ds ++ es) := by
  refine ⟨by simp [h.1, t.1], fun i v d h1 h2 => ?_⟩
  by_cases hi : i < vs.length
  · rw [List.getElem?_append_left hi] at h1
    rw [List.getElem?_append_left (by rw [← h.1]; exact hi)] at h2
    exact h.2 i v d h1 h2
  · rw [List.getElem?_append_right (by omega)] at h1
    rw [List.getElem?_append_right (by rw [← h.1]; omega), ← h.1] at h2
    exact t.2 _ v d h1 h2
theorem Rep.reps_cons (h : Rep K μ H v d) (t : Reps K μ H vs ds) : Reps K μ H (v :: vs) (d :: ds) := t.cons h
theorem Reps.one (h : Rep K μ H v d) : Reps K μ H [v] [d] := Reps.nil.cons h
theorem Reps.get (h : Reps K μ H vs ds) {i : Nat} (e : ds[i]? = some d) : ∃ v, vs[i]? = some v ∧ Rep K μ H v d := by
  have hi : i < vs.length := by rw [h.1]; exact (List.getElem?_eq_some_iff.mp e).1
  exact ⟨vs[i], List.getElem?_eq_getElem hi, h.2 i _ d (List.getElem?_eq_getElem hi) e⟩
theorem Reps.set (h : Reps K μ H vs ds) (r : Rep K μ H v d) (i : Nat) : Reps K μ H (vs.set i v) (ds.set i d) := by
  refine ⟨by simp [h.1], fun j v' d' h1 h2 => ?_⟩
  by_cases hj : i = j
  · subst hj
    have h3 : i < vs.length := by have := (List.getElem?_eq_some_iff.mp h1).1; simpa using this
    rw [List.getElem?_set_self h3] at h1
    rw [List.getElem?_set_self (by rw [← h.1]; exact h3)] at h2
    cases h1; cases h2; exact r
  · rw [List.getElem?_set_ne hj] at h1 h2
    exact h.2 j v' d' h1 h2
theorem Reps.sub (h : Reps K μ H vs ds) {ws : List V} {es : List Dv} (f : Nat → Nat) (hl : ws.length = es.length) (h1 : ∀ i, i < ws.length → ws[i]? = vs[f i]?) (h2 : ∀ i, i < ws.length → es[i]? = ds[f i]?) : Reps K μ H ws es :=
  ⟨hl, fun i v d e1 e2 => by
    have hi := (List.getElem?_eq_some_iff.mp e1).1
    exact h.2 (f i) v d ((h1 i hi).symm.trans e1) ((h2 i hi).symm.trans e2)⟩
theorem Reps.take (h : Reps K μ H vs ds) (n : Nat) : Reps K μ H (vs.take n) (ds.take n) :=
  h.sub id (by simp [h.1]) (fun i hi => by simp at hi; simp only [List.getElem?_take, id]; rw [if_pos (by omega)]) fun i hi => by simp at hi; simp only [List.getElem?_take, id]; rw [if_pos (by omega)]
theorem Reps.drop (h : Reps K μ H vs ds) (n : Nat) : Reps K μ H (vs.drop n) (ds.drop n) :=
  h.sub (fun i => n + i) (by simp [h.1]) (fun i _ => by simp [List.getElem?_drop]) fun i _ => by simp [List.getElem?_drop]
theorem Reps.rev (h : Reps K μ H vs ds) : Reps K μ H vs.reverse ds.reverse :=
  h.sub (fun i => vs.length - 1 - i) (by simp [h.1]) (fun i hi => by rw [List.getElem?_reverse (by simpa using hi)]) fun i hi => by
    rw [List.length_reverse] at hi
    rw [List.getElem?_reverse (by rw [← h.1]; exact hi), h.1]
theorem ObR.step (s : Step μ H μ' H') {o : Ob} {l : Nat} (h : ObR K μ H a o) (k : ∀ u, H a = some u → H' a = some u) : ObR K μ' H' a o := by
  cases o with
  | lst ds => obtain ⟨vs, e, r⟩ := h; exact ⟨vs, k _ e, r.step s⟩
  | dk kvs => obtain ⟨vs, e, q, r⟩ := h; exact ⟨vs, k _ e, q, r.step s⟩
  | dt kvs => obtain ⟨vs, e, q, r⟩ := h; exact ⟨vs, k _ e, q, r.step s⟩
theorem ObR.some {o : Ob} (h : ObR K μ H a o) : ∃ u, H a = some u := by
  cases o with
  | lst ds => obtain ⟨vs, e, _⟩ := h; exact ⟨_, e⟩
  | dk kvs => obtain ⟨vs, e, _⟩ := h; exact ⟨_, e⟩
  | dt kvs => obtain ⟨vs, e, _⟩ := h; exact ⟨_, e⟩
theorem SimE.step {ρ : Env} {σ : L2.St} (s : Step μ H μ' H') (h : SimE K μ H ρ σ) : SimE K μ' H' ρ σ :=
  ⟨h.1, fun i d e => let ⟨v, e', r⟩ := h.2 i d e; ⟨v, e', r.step s⟩⟩
variable {S : Sto} {o : Ob} {l : Nat} {p : Addr}
theorem SimS.at (h : SimS K μ S H) (e : S[l]? = some o) : ∃ a, μ[l]? = some a ∧ ObR K μ H a o := by
  have hl : l < μ.length := by rw [h.len]; exact (List.getElem?_eq_some_iff.mp e).1
  exact ⟨μ[l], List.getElem?_eq_getElem hl, h.ob l _ o (List.getElem?_eq_getElem hl) e⟩
theorem SimS.at' (h : SimS K μ S H) (e : S[l]? = some o) (q : μ[l]? = some a) : ObR K μ H a o := h.ob l a o q e
theorem SimS.tracked (h : SimS K μ S H) (m : a ∈ μ) : ∃ u, H a = some u := by
  obtain ⟨l, hl, e⟩ := List.getElem_of_mem m
  have hs : l < S.length := by rw [← h.len]; exact hl
  exact (h.ob l a S[l] (by rw [List.getElem?_eq_getElem hl, e]) (List.getElem?_eq_getElem hs)).some
theorem SimS.fresh (h : SimS K μ S H) (n : H p = none) : p ∉ μ := fun m => by
  obtain ⟨u, e⟩ := h.tracked m
  rw [n] at e; cases e
/-- something laid that is no store object -/
theorem step_lay (h : SimS K μ S H) (n : H p = none) (u : HO) : Step μ H μ (upd H p u) :=
  ⟨⟨[], by simp, fun _ h => nomatch h⟩, fun b o e _ => by rw [upd_ne (ne_of_none e n)]; exact e, fun b e => by
    by_cases hb : b = p
    · rw [hb, upd_same]; exact fun z => nomatch z
    · rw [upd_ne hb]; exact e⟩
theorem SimS.lay (h : SimS K μ S H) (n : H p = none) (u : HO) : SimS K μ S (upd H p u) :=
  ⟨h.len, h.nd, fun l a o e1 e2 => (h.ob l a o e1 e2).step (l := l) (step_lay h n u) fun w q => by rw [upd_ne (ne_of_none q n)]; exact q⟩
theorem step_new (h : SimS K μ S H) (n : H p = none) (u : HO) : Step μ H (μ ++ [p]) (upd H p u) :=
  ⟨⟨[p], rfl, fun b hb => by simp at hb; rw [hb]; exact n⟩, (step_lay h n u).keep, (step_lay h n u).live⟩
theorem SimS.new (h : SimS K μ S H) (n : H p = none) {u : HO} (r : ObR K (μ ++ [p]) (upd H p u) p o) : SimS K (μ ++ [p]) (S ++ [o]) (upd H p u) := by
  refine ⟨by simp [h.len], List.nodup_append.mpr ⟨h.nd, by simp, fun a ha b hb => ?_⟩, fun l a o' e1 e2 => ?_⟩
  · simp at hb; subst hb; exact fun z => h.fresh n (z ▸ ha)
  · by_cases hl : l < μ.length
    · rw [List.getElem?_append_left hl] at e1
      rw [List.getElem?_append_left (by rw [← h.len]; exact hl)] at e2
      exact (h.ob l a o' e1 e2).step (l := l) (step_new h n u) fun w q => by rw [upd_ne (ne_of_none q n)]; exact q
    · have hl2 : l = μ.length := by have := (List.getElem?_eq_some_iff.mp e1).1; simp at this; omega
      subst hl2
      rw [List.getElem?_append_right (Nat.le_refl _)] at e1
      rw [List.getElem?_append_right (by rw [h.len]; exact Nat.le_refl _), h.len] at e2
      simp at e1 e2
      subst e1; subst e2; exact r
theorem new_at (h : SimS K μ S H) (p : Addr) : (μ ++ [p])[S.length]? = some p := by rw [← h.len]; simp
theorem step_put (h : SimS K μ S H) (e : μ[l]? = some a) (u : HO) : Step μ H μ (upd H a u) :=
  ⟨⟨[], by simp, fun _ h => nomatch h⟩, fun b o q n => by rw [upd_ne (fun z => n (by rw [z]; exact List.mem_of_getElem? e))]; exact q, fun b q => by
    by_cases hb : b = a
    · rw [hb, upd_same]; exact fun z => nomatch z
    · rw [upd_ne hb]; exact q⟩
theorem SimS.put (h : SimS K μ S H) (e : μ[l]? = some a) {u : HO} (r : ObR K μ (upd H a u) a o) : SimS K μ (S.set l o) (upd H a u) := by
  refine ⟨by simp [h.len], h.nd, fun k b o' e1 e2 => ?_⟩
  by_cases hk : l = k
  · subst hk
    rw [e] at e1; cases e1
    have hl : l < S.length := by rw [← h.len]; exact (List.getElem?_eq_some_iff.mp e).1
    rw [List.getElem?_set_self hl] at e2
    cases e2; exact r
  · rw [List.getElem?_set_ne hk] at e2
    have hne : b ≠ a := fun z => by
      subst z
      have h1 := List.getElem?_eq_some_iff.mp e
      have h2 := List.getElem?_eq_some_iff.mp e1
      exact hk ((List.getElem_inj h.nd).mp (h1.2.trans h2.2.symm))
    exact (h.ob k b o' e1 e2).step (l := k) (step_put h e u) fun w q => by rw [upd_ne hne]; exact q
end

/-! ### sequences -/
def tupOf : Dv → Option (List Dv)
  | .tup ds => some ds
  | .kt ds => some ds
  | _ => none
def lstOf (S : Sto) : Dv → Option (List Dv)
  | .fl ds => some ds
  | .ref l => match S[l]? with
    | some (.lst ds) => some ds
    | _ => none
  | _ => none
section
variable {K : PySem.W.Frag} {μ : List Addr} {H : Hp} {v : V} {d : Dv} {ds : List Dv} {S : Sto}
theorem Rep.sqT (r : Rep K μ H v d) (e : tupOf d = some ds) : ∃ a vs, v = .ref a ∧ SqT K H a vs ∧ Reps K μ H vs ds := by
  cases r with
  | tup h l q => simp only [tupOf, Option.some.injEq] at e; subst e; exact ⟨_, _, rfl, .inl (.inl h.1), l, q⟩
  | kt h l q => simp only [tupOf, Option.some.injEq] at e; subst e; exact ⟨_, _, rfl, .inr h, l, q⟩
  | _ => simp [tupOf] at e
theorem Rep.sqL (hS : SimS K μ S H) (r : Rep K μ H v d) (e : lstOf S d = some ds) : ∃ a vs, v = .ref a ∧ SqL K H a vs ∧ Reps K μ H vs ds := by
  cases r with
  | fl h l q =>
    simp only [lstOf, Option.some.injEq] at e; subst e
    rcases h with ⟨⟨o, h⟩, _⟩ | h
    · exact ⟨_, _, rfl, .inl (.inr ⟨o, h⟩), l, q⟩
    · exact ⟨_, _, rfl, .inr h, l, q⟩
  | @ref l a h =>
    simp only [lstOf] at e
    split at e
    · rename_i es hs
      simp only [Option.some.injEq] at e; subst e
      obtain ⟨vs, e1, r⟩ := hS.at' hs h
      exact ⟨a, vs, rfl, .inl (.inl e1), r⟩
    · cases e
  | _ => simp [lstOf] at e
theorem Rep.lst {l : Nat} (hS : SimS K μ S H) (r : Rep K μ H v (.ref l)) (e : S[l]? = some (.lst ds)) : ∃ a vs, v = .ref a ∧ μ[l]? = some a ∧ H a = some (.lst vs) ∧ Reps K μ H vs ds := by
  cases r with
  | ref h => obtain ⟨vs, e1, r⟩ := hS.at' e h; exact ⟨_, vs, rfl, h, e1, r⟩
end

/-! ### outcomes, as the layer's readings -/
def Met {α β : Type} (RP : List Addr → Hp → β → α → Prop) (K : PySem.W.Frag) (mg : Str → Option Value) (W : Value → Option Addr → Hp → Prop) (μ : List Addr) (H : Hp) (o : Out α) (Q : β → Hp → Prop) : Prop :=
  match o with
  | .ok d S' => ∀ μ' H' v, SimS K μ' S' H' → Step μ H μ' H' → RP μ' H' v d → Q v H'
  | .ex x S' => ∀ μ' H' cls dd, SimS K μ' S' H' → Step μ H μ' H' → XRep K mg μ' H' x cls dd → W cls dd H'
  | .no => False
abbrev WX := Value → Option Addr → L2.St → Hp → Prop
abbrev WX.at (W : WX) (σ : L2.St) : Value → Option Addr → Hp → Prop := fun c d H => W c d σ H
def tG {α β : Type} (RP : List Addr → Hp → β → α → Prop) (K : PySem.W.Frag) (mg : Str → Option Value) (W : WX) (r : Env → Sto → Out α) (σ : L2.St) (H : Hp) (Q : β → Hp → Prop) : Prop :=
  ∃ μ ρ S, SimS K μ S H ∧ SimE K μ H ρ σ ∧ Met RP K mg (W.at σ) μ H (r ρ S) Q
def RBool (μ : List Addr) (H : Hp) (b b' : Bool) : Prop := b = b'
section
variable {K : PySem.W.Frag} {mg : Str → Option Value} {W : WX} {μ μ1 : List Addr} {H H1 : Hp} {ρ : Env} {σ : L2.St} {S : Sto}
theorem Met.step {α β : Type} {RP : List Addr → Hp → β → α → Prop} {Wx : Value → Option Addr → Hp → Prop} {o : Out α} {Q : β → Hp → Prop} (s : Step μ H μ1 H1) (h : Met RP K mg Wx μ H o Q) : Met RP K mg Wx μ1 H1 o Q := by
  cases o with
  | ok d S' => exact fun μ' H' v a b c => h μ' H' v a (s.trans b) c
  | ex x S' => exact fun μ' H' cl dd a b c => h μ' H' cl dd a (s.trans b) c
  | no => exact h
theorem Met.mono {α β : Type} {RP : List Addr → Hp → β → α → Prop} {Wx : Value → Option Addr → Hp → Prop} {o : Out α} {Q Q' : β → Hp → Prop} (h : Met RP K mg Wx μ H o Q) (q : ∀ v H', Q v H' → Q' v H') : Met RP K mg Wx μ H o Q' := by
  cases o with
  | ok d S' => exact fun μ' H' v a b c => q _ _ (h μ' H' v a b c)
  | ex x S' => exact h
  | no => exact h
theorem bnd {α β γ δ : Type} {R1 : List Addr → Hp → β → α → Prop} {R2 : List Addr → Hp → δ → γ → Prop} {r : Env → Sto → Out α} {f : α → Sto → Out γ} {Q : δ → Hp → Prop} (hS : SimS K μ S H) (hE : SimE K μ H ρ σ)
    (h : Met R2 K mg (W.at σ) μ H ((r ρ S).bind f) Q) : tG R1 K mg W r σ H (fun v H1 => ∃ μ1 S1 d, SimS K μ1 S1 H1 ∧ SimE K μ1 H1 ρ σ ∧ Step μ H μ1 H1 ∧ R1 μ1 H1 v d ∧ Met R2 K mg (W.at σ) μ1 H1 (f d S1) Q) := by
  refine ⟨μ, ρ, S, hS, hE, ?_⟩
  cases q : r ρ S with
  | ok d S1 =>
    rw [q] at h
    exact fun μ1 H1 v a b c => ⟨μ1, S1, d, a, hE.step b, b, c, h.step b⟩
  | ex x S1 => rw [q] at h; exact h
  | no => rw [q] at h; exact h
/-- an outcome that is at hand -/
theorem Met.ok {α β : Type} {RP : List Addr → Hp → β → α → Prop} {Wx : Value → Option Addr → Hp → Prop} {d : α} {Q : β → Hp → Prop} {v : β} (h : Met RP K mg Wx μ H (.ok d S) Q) (hS : SimS K μ S H) (r : RP μ H v d) : Q v H := h μ H v hS (.refl μ H) r
/-- a new store object -/
theorem Met.new {o : Ob} {u : HO} {p : Addr} {Wx : Value → Option Addr → Hp → Prop} {Q : V → Hp → Prop} (h : Met (Rep K) K mg Wx μ H (.ok (.ref S.length) (S ++ [o])) Q) (hS : SimS K μ S H) (n : H p = none) (r : ObR K (μ ++ [p]) (upd H p u) p o) : Q (.ref p) (upd H p u) :=
  h _ _ _ (hS.new n r) (step_new hS n u) (.ref (new_at hS p))
theorem Met.lst {ds : List Dv} {vs : List V} {p : Addr} {Wx : Value → Option Addr → Hp → Prop} {Q : V → Hp → Prop} (h : Met (Rep K) K mg Wx μ H (.ok (.ref S.length) (S ++ [.lst ds])) Q) (hS : SimS K μ S H) (n : H p = none) (r : Reps K μ H vs ds) : Q (.ref p) (upd H p (.lst vs)) :=
  h.new hS n ⟨vs, upd_same, r.step (step_new hS n _)⟩
theorem Met.tup {ds : List Dv} {vs : List V} {p : Addr} {Wx : Value → Option Addr → Hp → Prop} {Q : V → Hp → Prop} (h : Met (Rep K) K mg Wx μ H (.ok (.tup ds) S) Q) (hS : SimS K μ S H) (n : H p = none) (r : Reps K μ H vs ds) : Q (.ref p) (upd H p (.tup vs)) :=
  h _ _ _ (hS.lay n _) (step_lay hS n _) (.tup ⟨upd_same, hS.fresh n⟩ r.1 (r.step (step_lay hS n _)).2)
/-- a store object written -/
theorem Met.put {α β : Type} {RP : List Addr → Hp → β → α → Prop} {o : Ob} {u : HO} {a : Addr} {l : Nat} {Wx : Value → Option Addr → Hp → Prop} {Q : β → Hp → Prop} {d : α} {v : β} (h : Met RP K mg Wx μ H (.ok d (S.set l o)) Q) (hS : SimS K μ S H) (e : μ[l]? = some a) (r : ObR K μ (upd H a u) a o) (rv : RP μ (upd H a u) v d) : Q v (upd H a u) :=
  h _ _ _ (hS.put e r) (step_put hS e u) rv
end
end PL

namespace PL
open PySem PySem.Spec PyProof.Rows L2

/-! ### rules: from readings to outcomes -/
theorem PE.imp {X : Cx} {e : Expr} {t t' : TE} (h : PE X e t) (i : ∀ σ H Q, t' σ H Q → t σ H Q) : PE X e t' := ⟨fun pins s σ H Q I w => h.run pins s σ H Q I (i σ H Q w)⟩
theorem PT.imp {X : Cx} {e : Expr} {t t' : TT} (h : PT X e t) (i : ∀ σ H Q, t' σ H Q → t σ H Q) : PT X e t' := ⟨fun pins s σ H Q I w => h.run pins s σ H Q I (i σ H Q w)⟩
theorem PW.imp {X : Cx} {e : Expr} {t t' : TT} (h : PW X e t) (i : ∀ σ H Q, t' σ H Q → t σ H Q) : PW X e t' := ⟨fun wh pins s σ H Q I w => h.run wh pins s σ H Q I (i σ H Q w)⟩
theorem PA.imp {X : Cx} {e : List Expr} {t t' : TA} (h : PA X e t) (i : ∀ σ H Q, t' σ H Q → t σ H Q) : PA X e t' := ⟨fun ps pins s σ H Q I w => h.run ps pins s σ H Q I (i σ H Q w)⟩
theorem PE.or {X : Cx} {e : Expr} {t t' : TE} (h : PE X e t) (h' : PE X e t') : PE X e (fun σ H Q => t σ H Q ∨ t' σ H Q) :=
  ⟨fun pins s σ H Q I w => w.elim (h.run pins s σ H Q I) (h'.run pins s σ H Q I)⟩
theorem OpR.or {X : Cx} {f : Value → Value → Sem Value} {r r' : R2} (h : OpR X f r) (h' : OpR X f r') : OpR X f (fun x y H Q => r x y H Q ∨ r' x y H Q) :=
  fun pins s σ H x y v u Q I rx ry w => w.elim (h pins s σ H x y v u Q I rx ry) (h' pins s σ H x y v u Q I rx ry)
theorem CallR.or {X : Cx} {f : Value} {r r' : List V → Hp → VK → Prop} (h : CallR X f r) (h' : CallR X f r') : CallR X f (fun x H Q => r x H Q ∨ r' x H Q) :=
  fun pins s σ H x v Q I rx w => w.elim (h pins s σ H x v Q I rx) (h' pins s σ H x v Q I rx)
theorem tG.mono {α β : Type} {RP : List Addr → Hp → β → α → Prop} {K : PySem.W.Frag} {mg : Str → Option Value} {W : WX} {f : Env → Sto → Out α} {σ : L2.St} {H : Hp} {Q Q' : β → Hp → Prop}
    (h : tG RP K mg W f σ H Q) (q : ∀ v H', Q v H' → Q' v H') : tG RP K mg W f σ H Q' := let ⟨μ, ρ, S, a, b, c⟩ := h; ⟨μ, ρ, S, a, b, c.mono q⟩

abbrev SE (X : Cx) (W : WX) (e : Expr) (r : RE) : Prop := PE X e (tG (Rep X.K) X.K X.mg W r)
abbrev ST (X : Cx) (W : WX) (e : Expr) (r : RT) : Prop := PT X e (tG RBool X.K X.mg W r)
abbrev SW (X : Cx) (W : WX) (e : Expr) (r : RT) : Prop := PW X e (tG RBool X.K X.mg W r)
abbrev SA (X : Cx) (W : WX) (es : List Expr) (r : RA) : Prop := PA X es (tG (Reps X.K) X.K X.mg W r)

/-- how an operation on data is met by the layer's reading -/
def Op2 (K : PySem.W.Frag) (f : Dv → Dv → Sto → Out Dv) (r : R2) : Prop :=
  ∀ (mg : Str → Option Value) (Wx : Value → Option Addr → Hp → Prop) (μ : List Addr) (H : Hp) (S : Sto) (x y : V) (d e : Dv) (Q : VK), SimS K μ S H → Rep K μ H x d → Rep K μ H y e → Met (Rep K) K mg Wx μ H (f d e S) Q → r x y H Q
def OpL (K : PySem.W.Frag) (f : List Dv → Sto → Out Dv) (r : List V → Hp → VK → Prop) : Prop :=
  ∀ (mg : Str → Option Value) (Wx : Value → Option Addr → Hp → Prop) (μ : List Addr) (H : Hp) (S : Sto) (vs : List V) (ds : List Dv) (Q : VK), SimS K μ S H → Reps K μ H vs ds → Met (Rep K) K mg Wx μ H (f ds S) Q → r vs H Q
def OpM (K : PySem.W.Frag) (f : Dv → List Dv → Sto → Out Dv) (r : V → List V → Hp → VK → Prop) : Prop :=
  ∀ (mg : Str → Option Value) (Wx : Value → Option Addr → Hp → Prop) (μ : List Addr) (H : Hp) (S : Sto) (x : V) (vs : List V) (d : Dv) (ds : List Dv) (Q : VK), SimS K μ S H → Rep K μ H x d → Reps K μ H vs ds → Met (Rep K) K mg Wx μ H (f d ds S) Q → r x vs H Q

/-! ### terms -/
def eVar (i : Nat) : RE := fun ρ S => match ρ[i]? with
  | some (some d) => .ok d S
  | _ => .no
def eCon (d : Dv) : RE := fun _ S => .ok d S
def eBin (f : Dv → Dv → Sto → Out Dv) (a b : RE) : RE := fun ρ S => (a ρ S).bind fun x S1 => (b ρ S1).bind fun y S2 => f x y S2
def eUn (f : Dv → Sto → Out Dv) (a : RE) : RE := fun ρ S => (a ρ S).bind f
def aNil : RA := fun _ S => .ok [] S
def aCons (r : RE) (t : RA) : RA := fun ρ S => (r ρ S).bind fun d S1 => (t ρ S1).bind fun ds S2 => .ok (d :: ds) S2
def eCall (f : List Dv → Sto → Out Dv) (a : RA) : RE := fun ρ S => (a ρ S).bind f
def eMet (f : Dv → List Dv → Sto → Out Dv) (o : RE) (a : RA) : RE := fun ρ S => (o ρ S).bind fun d S1 => (a ρ S1).bind fun ds S2 => f d ds S2
def eTup (a : RA) : RE := fun ρ S => (a ρ S).bind fun ds S1 => if ds.length ≤ sizeLine then .ok (.tup ds) S1 else .no
def eLst (a : RA) : RE := fun ρ S => (a ρ S).bind fun ds S1 => if ds.length ≤ sizeLine then .ok (.ref S1.length) (S1 ++ [.lst ds]) else .no
def eNot (a : RE) : RE := fun ρ S => (a ρ S).bind fun d S1 => match d with
  | .bl b => .ok (.bl (!b)) S1
  | _ => .no
def eAnd (a b : RE) : RE := fun ρ S => (a ρ S).bind fun d S1 => match d with
  | .bl true => b ρ S1
  | .bl false => .ok (.bl false) S1
  | _ => .no
def eOr (a b : RE) : RE := fun ρ S => (a ρ S).bind fun d S1 => match d with
  | .bl true => .ok (.bl true) S1
  | .bl false => b ρ S1
  | _ => .no
def eIf (c : RT) (a b : RE) : RE := fun ρ S => (c ρ S).bind fun t S1 => if t = true then a ρ S1 else b ρ S1
def bTrue (d : Dv) (S : Sto) : Out Bool := match d with
  | .bl b => .ok b S
  | _ => .no
def cBl (a : RE) : RT := fun ρ S => (a ρ S).bind bTrue
def cAnd (a b : RT) : RT := fun ρ S => (a ρ S).bind fun t S1 => if t = true then b ρ S1 else .ok false S1
def cOr (a b : RT) : RT := fun ρ S => (a ρ S).bind fun t S1 => if t = true then .ok true S1 else b ρ S1
def cNot (a : RT) : RT := fun ρ S => (a ρ S).bind fun t S1 => .ok (!t) S1

section
variable {X : Cx} {W : WX} {a b c e : Expr} {es : List Expr} {ra rb rc : RE} {rs : RA} {ta tb : RT} {pos : Pos}
theorem se_var (i : Nat) {x : Str} (hN : X.N[i]? = some x := by rfl) (hv : Vis X.env.scope x := by first | exact Or.inl rfl | exact Or.inr (Or.inl rfl) | exact Or.inr (Or.inr rfl)) (hd : (x == ("__debug__" : Str)) = false := by decide)
    (hcd : (x == ("__classdict__" : Str)) = false := by decide) : SE X W (.Name x pos) (eVar i) := by
  refine PE.imp (pe_var hN hv hd hcd) fun σ H Q ⟨μ, ρ, S, hS, hE, h⟩ => ?_
  unfold eVar at h
  split at h
  · rename_i d hd
    obtain ⟨v, e1, r⟩ := hE.2 i d hd
    exact ⟨v, e1, h.ok hS r⟩
  · exact h.elim
theorem se_con {d : Dv} {v : V} (h : PE X e (tC v)) (r : ∀ μ H, Rep X.K μ H v d) : SE X W e (eCon d) :=
  PE.imp h fun σ H Q ⟨μ, ρ, S, hS, hE, h⟩ => show Q v H from h.ok hS (r μ H)
theorem se_int {i j} : SE X W (.Constant (.int i) j pos) (eCon (.int i)) := se_con pe_int fun _ _ => .int i
theorem se_bl {i j} : SE X W (.Constant (.bool i) j pos) (eCon (.bl i)) := se_con pe_bl fun _ _ => .bl i
theorem se_non {j} : SE X W (.Constant .none j pos) (eCon .non) := se_con pe_non fun _ _ => .non
theorem se_str {i j} : SE X W (.Constant (.str i) j pos) (eCon (.str i)) := se_con pe_str fun _ _ => .str i
theorem bnd2 {f : Dv → Dv → Sto → Out Dv} {r : R2} (hf : Op2 X.K f r) {σ : L2.St} {H : Hp} {Q : VK} (h : tG (Rep X.K) X.K X.mg W (eBin f ra rb) σ H Q) :
    tOp r (tG (Rep X.K) X.K X.mg W ra) (tG (Rep X.K) X.K X.mg W rb) σ H Q := by
  obtain ⟨μ, ρ, S, hS, hE, h⟩ := h
  refine (bnd hS hE h).mono fun x H1 ⟨μ1, S1, d, hS1, hE1, s1, rx, h1⟩ => ?_
  refine (bnd hS1 hE1 h1).mono fun y H2 ⟨μ2, S2, d2, hS2, hE2, s2, ry, h2⟩ => ?_
  exact hf _ _ μ2 H2 S2 x y d d2 Q hS2 (rx.step s2) ry h2
theorem se_bin {op : Operator} {f : Dv → Dv → Sto → Out Dv} {r : R2} (ho : OpR X (binaryOp op) r) (hf : Op2 X.K f r) (ha : SE X W a ra) (hb : SE X W b rb) : SE X W (.BinOp a op b pos) (eBin f ra rb) :=
  PE.imp (pe_op ho ha hb) fun _ _ _ h => bnd2 hf h
theorem se_cmp {op : CmpOp} {f : Dv → Dv → Sto → Out Dv} {r : R2} (ho : OpR X (compareOp op) r) (hf : Op2 X.K f r) (ha : SE X W a ra) (hb : SE X W b rb) (hm : behindInMarks op b = false) : SE X W (.Compare a [op] [b] pos) (eBin f ra rb) :=
  PE.imp (pe_cmpR ho ha hb hm) fun _ _ _ h => bnd2 hf h
theorem bTrue_met {K : PySem.W.Frag} {mg : Str → Option Value} {Wx : Value → Option Addr → Hp → Prop} {μ : List Addr} {H : Hp} {S : Sto} {v : V} {d : Dv} {Q : Bool → Hp → Prop} (hS : SimS K μ S H) (r : Rep K μ H v d) (h : Met RBool K mg Wx μ H (bTrue d S) Q) : ∃ k, v = .bl k ∧ Q k H := by
  cases r with
  | bl b => exact ⟨b, rfl, h.ok hS rfl⟩
  | _ => exact h.elim
theorem st_cmp {op : CmpOp} {f : Dv → Dv → Sto → Out Dv} {r : R2} (ho : OpR X (compareOp op) r) (hf : Op2 X.K f r) (ha : SE X W a ra) (hb : SE X W b rb) (hm : behindInMarks op b = false) : ST X W (.Compare a [op] [b] pos) (cBl (eBin f ra rb)) :=
  PT.imp (pt_cmpR ho ha hb hm) fun σ H Q ⟨μ, ρ, S, hS, hE, h⟩ => bnd2 hf ((bnd hS hE h).mono fun v H1 ⟨μ1, S1, d, hS1, hE1, s1, rv, h1⟩ => bTrue_met hS1 rv h1)
theorem st_bl (he : SE X W e ra) (hp : ∀ whole, isTrue e X.env whole = (do let v ← whole; standAt e.pos; holding [v] (truthy v)) := by intro _; rfl) : ST X W e (cBl ra) :=
  PT.imp (pt_val he hp) fun σ H Q ⟨μ, ρ, S, hS, hE, h⟩ => (bnd hS hE h).mono fun v H1 ⟨μ1, S1, d, hS1, hE1, s1, rv, h1⟩ => bTrue_met hS1 rv h1
theorem st_not (h : ST X W e ta) : ST X W (.UnaryOp .Not e pos) (cNot ta) :=
  PT.imp (pt_not h) fun σ H Q ⟨μ, ρ, S, hS, hE, h⟩ => (bnd (R1 := RBool) hS hE h).mono fun v H1 ⟨μ1, S1, d, hS1, hE1, s1, rv, h1⟩ => by
    cases (show v = d from rv)
    exact h1.ok hS1 rfl
theorem sw_one_and (h : ST X W e ta) : SW X W (.BoolOp .And [e] pos) ta := pw_and1 h
theorem sw_one_or (h : ST X W e ta) : SW X W (.BoolOp .Or [e] pos) ta := pw_or1 h
theorem sw_and (h : ST X W e ta) (t : SW X W (.BoolOp .And (b :: es) pos) tb) : SW X W (.BoolOp .And (e :: b :: es) pos) (cAnd ta tb) :=
  PW.imp (pw_and h t) fun σ H Q ⟨μ, ρ, S, hS, hE, h⟩ => (bnd (R1 := RBool) hS hE h).mono fun v H1 ⟨μ1, S1, d, hS1, hE1, s1, rv, h1⟩ => by
    cases (show v = d from rv)
    cases v with
    | true => exact ⟨μ1, ρ, S1, hS1, hE1, h1⟩
    | false => exact Met.ok (RP := RBool) h1 hS1 rfl
theorem sw_or (h : ST X W e ta) (t : SW X W (.BoolOp .Or (b :: es) pos) tb) : SW X W (.BoolOp .Or (e :: b :: es) pos) (cOr ta tb) :=
  PW.imp (pw_or h t) fun σ H Q ⟨μ, ρ, S, hS, hE, h⟩ => (bnd (R1 := RBool) hS hE h).mono fun v H1 ⟨μ1, S1, d, hS1, hE1, s1, rv, h1⟩ => by
    cases (show v = d from rv)
    cases v with
    | true => exact Met.ok (RP := RBool) h1 hS1 rfl
    | false => exact ⟨μ1, ρ, S1, hS1, hE1, h1⟩
theorem st_w (h : SW X W e ta) : ST X W e ta := PW.pt h
theorem se_not (h : SE X W e ra) : SE X W (.UnaryOp .Not e pos) (eNot ra) :=
  PE.imp (pe_not h) fun σ H Q ⟨μ, ρ, S, hS, hE, h⟩ => (bnd hS hE h).mono fun v H1 ⟨μ1, S1, d, hS1, hE1, s1, rv, h1⟩ => by
    cases rv with
    | bl b => exact ⟨b, rfl, Met.ok (RP := Rep X.K) h1 hS1 (.bl _)⟩
    | _ => exact h1.elim
theorem se_one {op} (h : SE X W e ra) : SE X W (.BoolOp op [e] pos) ra := pe_one h
theorem se_and (h : SE X W e ra) (t : SE X W (.BoolOp .And (b :: es) pos) rb) : SE X W (.BoolOp .And (e :: b :: es) pos) (eAnd ra rb) :=
  PE.imp (pe_and h t) fun σ H Q ⟨μ, ρ, S, hS, hE, h⟩ => (bnd hS hE h).mono fun v H1 ⟨μ1, S1, d, hS1, hE1, s1, rv, h1⟩ => by
    cases rv with
    | bl b => cases b with
      | true => exact ⟨true, rfl, ⟨μ1, ρ, S1, hS1, hE1, h1⟩⟩
      | false => exact ⟨false, rfl, Met.ok (RP := Rep X.K) h1 hS1 (.bl _)⟩
    | _ => exact h1.elim
theorem se_or (h : SE X W e ra) (t : SE X W (.BoolOp .Or (b :: es) pos) rb) : SE X W (.BoolOp .Or (e :: b :: es) pos) (eOr ra rb) :=
  PE.imp (pe_or h t) fun σ H Q ⟨μ, ρ, S, hS, hE, h⟩ => (bnd hS hE h).mono fun v H1 ⟨μ1, S1, d, hS1, hE1, s1, rv, h1⟩ => by
    cases rv with
    | bl b => cases b with
      | true => exact ⟨true, rfl, Met.ok (RP := Rep X.K) h1 hS1 (.bl _)⟩
      | false => exact ⟨false, rfl, ⟨μ1, ρ, S1, hS1, hE1, h1⟩⟩
    | _ => exact h1.elim
theorem se_if (hc : ST X W c ta) (ha : SE X W a ra) (hb : SE X W b rb) : SE X W (.IfExp c a b pos) (eIf ta ra rb) :=
  PE.imp (pe_ifExp hc ha hb) fun σ H Q ⟨μ, ρ, S, hS, hE, h⟩ => (bnd (R1 := RBool) hS hE h).mono fun v H1 ⟨μ1, S1, d, hS1, hE1, s1, rv, h1⟩ => by
    cases (show v = d from rv)
    cases v with
    | true => exact ⟨μ1, ρ, S1, hS1, hE1, h1⟩
    | false => exact ⟨μ1, ρ, S1, hS1, hE1, h1⟩
theorem sa_nil : SA X W [] aNil := PA.imp pa_nil fun σ H Q ⟨μ, ρ, S, hS, hE, h⟩ => Met.ok (RP := Reps X.K) h hS .nil
theorem sa_cons (h : SE X W e ra) (t : SA X W es rs) (hs : starEach (e :: es) X.env = (false, eval e X.env) :: starEach es X.env := by rfl) : SA X W (e :: es) (aCons ra rs) :=
  PA.imp (pa_cons h t hs) fun σ H Q ⟨μ, ρ, S, hS, hE, h⟩ => (bnd hS hE h).mono fun v H1 ⟨μ1, S1, d, hS1, hE1, s1, rv, h1⟩ =>
    (bnd (R1 := Reps X.K) hS1 hE1 h1).mono fun vs H2 ⟨μ2, S2, ds, hS2, hE2, s2, rvs, h2⟩ => h2.ok hS2 ((rv.step s2).reps_cons rvs)
theorem se_tup {k} (h : SA X W es rs) : SE X W (.Tuple es k pos) (eTup rs) :=
  PE.imp (pe_tup h) fun σ H Q ⟨μ, ρ, S, hS, hE, h⟩ => (bnd (R1 := Reps X.K) hS hE h).mono fun vs H1 ⟨μ1, S1, ds, hS1, hE1, s1, rv, h1⟩ => by
    split at h1
    · rename_i hz
      exact ⟨by rw [rv.1]; exact hz, fun p n => h1.tup hS1 n rv⟩
    · exact h1.elim
theorem se_lst (h : SA X W es rs) : SE X W (.List es pos) (eLst rs) :=
  PE.imp (pe_lst h) fun σ H Q ⟨μ, ρ, S, hS, hE, h⟩ => (bnd (R1 := Reps X.K) hS hE h).mono fun vs H1 ⟨μ1, S1, ds, hS1, hE1, s1, rv, h1⟩ => by
    split at h1
    · rename_i hz
      exact ⟨by rw [rv.1]; exact hz, fun p n => h1.lst hS1 n rv⟩
    · exact h1.elim
/-- a built-in by its name -/
theorem se_callB {id : String} {x : Str} {p : Pos} {f : List Dv → Sto → Out Dv} {r : List V → Hp → VK → Prop} (hc : CallR X (.builtin id) r) (hf : OpL X.K f r) (hg : Gl X x) (hm : X.mg x = none) (hv : bootBuiltins x = some (.builtin id)) (ha : SA X W (e :: es) rs)
    (hn : x ≠ "__name__" := by decide) (hdb : (x == ("__debug__" : Str)) = false := by decide) (he : starEach (e :: es) X.env = (false, eval e X.env) :: starEach es X.env := by rfl) (hpl : (backTo pos (starEach es X.env)).any (·.1) = false := by rfl) : SE X W (.Call (.Name x p) (e :: es) [] pos) (eCall f rs) :=
  PE.imp (pe_callB hc hg hm hv ha hn hdb he hpl) fun σ H Q ⟨μ, ρ, S, hS, hE, h⟩ => (bnd (R1 := Reps X.K) hS hE h).mono fun vs H1 ⟨μ1, S1, ds, hS1, hE1, s1, rv, h1⟩ => hf _ _ μ1 H1 S1 vs ds Q hS1 rv h1
theorem se_callTy {T : String} {x : Str} {p : Pos} {f : List Dv → Sto → Out Dv} {r : List V → Hp → VK → Prop} (hc : CallR X (.type T) r) (hf : OpL X.K f r) (hg : Gl X x) (hm : X.mg x = none) (hv : bootBuiltins x = some (.type T)) (ha : SA X W (e :: es) rs)
    (hn : x ≠ "__name__" := by decide) (hdb : (x == ("__debug__" : Str)) = false := by decide) (he : starEach (e :: es) X.env = (false, eval e X.env) :: starEach es X.env := by rfl) (hpl : (backTo pos (starEach es X.env)).any (·.1) = false := by rfl) : SE X W (.Call (.Name x p) (e :: es) [] pos) (eCall f rs) :=
  PE.imp (pe_callTy hc hg hm hv ha hn hdb he hpl) fun σ H Q ⟨μ, ρ, S, hS, hE, h⟩ => (bnd (R1 := Reps X.K) hS hE h).mono fun vs H1 ⟨μ1, S1, ds, hS1, hE1, s1, rv, h1⟩ => hf _ _ μ1 H1 S1 vs ds Q hS1 rv h1
end
end PL

namespace PL
open PySem PySem.Spec PyProof.Rows L2

/-! ### numbers, texts, sequences: what the operators do -/
noncomputable instance (i j : Int) : Decidable (CMul i j) := Classical.propDecidable _
noncomputable instance (i j : Int) : Decidable (CPow i j) := Classical.propDecidable _
noncomputable instance (i j : Int) : Decidable (CShl i j) := Classical.propDecidable _
def newL (ds : List Dv) (S : Sto) : Out Dv := .ok (.ref S.length) (S ++ [.lst ds])
def addD (x y : Dv) (S : Sto) : Out Dv := match x, y with
  | .int i, .int j => .ok (.int (i + j)) S
  | .str a, .str b => if a.length + b.length ≤ sizeLine then .ok (.str (a ++ b)) S else .no
  | .tup a, .tup b => if a.length + b.length ≤ sizeLine then .ok (.tup (a ++ b)) S else .no
  | .ref l, .ref m => match S[l]?, S[m]? with
    | some (.lst a), some (.lst b) => if a.length + b.length ≤ sizeLine then newL (a ++ b) S else .no
    | _, _ => .no
  | _, _ => .no
def subD (x y : Dv) (S : Sto) : Out Dv := match x, y with
  | .int i, .int j => .ok (.int (i - j)) S
  | _, _ => .no
noncomputable def mulD (x y : Dv) (S : Sto) : Out Dv := match x, y with
  | .int i, .int j => if CMul i j then .ok (.int (i * j)) S else .no
  | .ref l, .int k => match S[l]? with
    | some (.lst a) => @ite _ (-(2 ^ 63) ≤ k ∧ k < 2 ^ 63 ∧ a.length * k.toNat ≤ sizeLine) (Classical.propDecidable _) (newL (List.replicate k.toNat a).flatten S) .no
    | _ => .no
  | _, _ => .no
def fdivD (x y : Dv) (S : Sto) : Out Dv := match x, y with
  | .int i, .int j => if 0 < j ∧ j.natAbs.log2 < 9000 then .ok (.int (i / j)) S else .no
  | _, _ => .no
def modD (x y : Dv) (S : Sto) : Out Dv := match x, y with
  | .int i, .int j => if 0 < j then .ok (.int (i % j)) S else .no
  | _, _ => .no
noncomputable def powD (x y : Dv) (S : Sto) : Out Dv := match x, y with
  | .int i, .int j => if CPow i j then .ok (.int (i ^ j.toNat)) S else .no
  | _, _ => .no
noncomputable def shlD (x y : Dv) (S : Sto) : Out Dv := match x, y with
  | .int i, .int j => if CShl i j then .ok (.int (i * 2 ^ j.toNat)) S else .no
  | _, _ => .no
def shrD (x y : Dv) (S : Sto) : Out Dv := match x, y with
  | .int i, .int j => if 0 ≤ j then .ok (.int (i / 2 ^ j.toNat)) S else .no
  | _, _ => .no
def andD (x y : Dv) (S : Sto) : Out Dv := match x, y with
  | .int i, .int j => .ok (.int (Builtin.bitAnd i j)) S
  | _, _ => .no
def orD (x y : Dv) (S : Sto) : Out Dv := match x, y with
  | .int i, .int j => .ok (.int (Builtin.bitOr i j)) S
  | _, _ => .no
def xorD (x y : Dv) (S : Sto) : Out Dv := match x, y with
  | .int i, .int j => .ok (.int (Builtin.bitXor i j)) S
  | _, _ => .no
def ltD (x y : Dv) (S : Sto) : Out Dv := match x, y with
  | .int i, .int j => .ok (.bl (decide (i < j))) S
  | .str a, .str b => .ok (.bl (decide (a.cps.toList < b.cps.toList))) S
  | _, _ => .no
def leD (x y : Dv) (S : Sto) : Out Dv := match x, y with
  | .int i, .int j => .ok (.bl (decide (i ≤ j))) S
  | _, _ => .no
def gtD (x y : Dv) (S : Sto) : Out Dv := match x, y with
  | .int i, .int j => .ok (.bl (decide (j < i))) S
  | _, _ => .no
def geD (x y : Dv) (S : Sto) : Out Dv := match x, y with
  | .int i, .int j => .ok (.bl (decide (j ≤ i))) S
  | _, _ => .no
def isN (d : Dv) : Bool := match d with
  | .non => true
  | _ => false
def isD (x y : Dv) (S : Sto) : Out Dv := match y with
  | .non => .ok (.bl (isN x)) S
  | _ => .no
def isNotD (x y : Dv) (S : Sto) : Out Dv := match y with
  | .non => .ok (.bl (!isN x)) S
  | _ => .no
def negD (x : Dv) (S : Sto) : Out Dv := match x with
  | .int i => .ok (.int (-i)) S
  | _ => .no

section
variable {X : Cx} {K : PySem.W.Frag}
theorem op2I {C : Int → Int → Prop} [∀ i j, Decidable (C i j)] {g : Int → Int → V} {k : Int → Int → Dv} {f : Dv → Dv → Sto → Out Dv} (hf : ∀ x y S, f x y S = match x, y with | .int i, .int j => (if C i j then .ok (k i j) S else .no) | _, _ => .no)
    (hk : ∀ μ H i j, Rep K μ H (g i j) (k i j)) : Op2 K f (rI C g) := by
  intro mg Wx μ H S x y d e Q hS rx ry h
  rw [hf] at h
  cases rx <;> cases ry <;> first | exact h.elim | skip
  dsimp only at h
  split at h
  · rename_i hc; exact ⟨_, _, rfl, rfl, hc, h.ok hS (hk ..)⟩
  · exact h.elim
theorem op2I0 {g : Int → Int → V} {k : Int → Int → Dv} {f : Dv → Dv → Sto → Out Dv} (hf : ∀ x y S, f x y S = match x, y with | .int i, .int j => .ok (k i j) S | _, _ => .no)
    (hk : ∀ μ H i j, Rep K μ H (g i j) (k i j)) : Op2 K f (rI0 g) := by
  intro mg Wx μ H S x y d e Q hS rx ry h
  rw [hf] at h
  cases rx <;> cases ry <;> first | exact h.elim | exact ⟨_, _, rfl, rfl, h.ok hS (hk ..)⟩
theorem o_sub : Op2 K subD (rI0 fun i j => .int (i - j)) := op2I0 (fun x y S => rfl) fun _ _ _ _ => .int _
theorem o_and : Op2 K andD (rI0 fun i j => .int (Builtin.bitAnd i j)) := op2I0 (fun x y S => rfl) fun _ _ _ _ => .int _
theorem o_or : Op2 K orD (rI0 fun i j => .int (Builtin.bitOr i j)) := op2I0 (fun x y S => rfl) fun _ _ _ _ => .int _
theorem o_xor : Op2 K xorD (rI0 fun i j => .int (Builtin.bitXor i j)) := op2I0 (fun x y S => rfl) fun _ _ _ _ => .int _
theorem o_le : Op2 K leD (rI0 fun i j => .bl (decide (i ≤ j))) := op2I0 (fun x y S => rfl) fun _ _ _ _ => .bl _
theorem o_gt : Op2 K gtD (rI0 fun i j => .bl (decide (j < i))) := op2I0 (fun x y S => rfl) fun _ _ _ _ => .bl _
theorem o_ge : Op2 K geD (rI0 fun i j => .bl (decide (j ≤ i))) := op2I0 (fun x y S => rfl) fun _ _ _ _ => .bl _
theorem o_fdiv : Op2 K fdivD (rI CDivW fun i j => .int (i / j)) := op2I (C := fun _ j => 0 < j ∧ j.natAbs.log2 < 9000) (fun x y S => rfl) fun _ _ _ _ => .int _
theorem o_mod : Op2 K modD (rI (fun _ j => 0 < j) fun i j => .int (i % j)) := op2I (fun x y S => rfl) fun _ _ _ _ => .int _
theorem o_pow : Op2 K powD (rI CPow fun i j => .int (i ^ j.toNat)) := op2I (fun x y S => rfl) fun _ _ _ _ => .int _
theorem o_shl : Op2 K shlD (rI CShl fun i j => .int (i * 2 ^ j.toNat)) := op2I (fun x y S => rfl) fun _ _ _ _ => .int _
theorem o_shr : Op2 K shrD (rI (fun _ j => 0 ≤ j) fun i j => .int (i / 2 ^ j.toNat)) := op2I (C := fun _ j => 0 ≤ j) (fun x y S => rfl) fun _ _ _ _ => .int _
abbrev rAddS : R2 := fun x y H Q => ∃ i j, x = .str i ∧ y = .str j ∧ i.length + j.length ≤ sizeLine ∧ Q (.str (i ++ j)) H
abbrev rAddAll (K : PySem.W.Frag) : R2 := fun x y H Q => rI0 (fun i j => .int (i + j)) x y H Q ∨ (rAddS x y H Q ∨ (rCatA K x y H Q ∨ rCat x y H Q))
theorem op_addAll : OpR X (binaryOp .Add) (rAddAll X.K) := OpR.or op_add (OpR.or op_add_str (OpR.or op_catA op_cat))
theorem o_add : Op2 K addD (rAddAll K) := by
  intro mg Wx μ H S x y d e Q hS rx ry h
  cases rx with
  | int i => cases ry <;> first | exact h.elim | exact .inl ⟨_, _, rfl, rfl, h.ok hS (.int _)⟩
  | str a =>
    cases ry <;> first | exact h.elim | skip
    rename_i b
    unfold addD at h; dsimp only at h
    split at h
    · rename_i hz; exact .inr (.inl ⟨_, _, rfl, rfl, hz, h.ok hS (.str _)⟩)
    · exact h.elim
  | @tup a vs ds h1 l1 q1 =>
    cases ry <;> first | exact h.elim | skip
    rename_i b ws es h2 l2 q2
    unfold addD at h; dsimp only at h
    split at h
    · rename_i hz
      have r := Reps.append ⟨l1, q1⟩ ⟨l2, q2⟩
      refine .inr (.inr (.inl ⟨_, _, _, _, rfl, rfl, .of h1.1, .of h2.1, by rw [l1, l2]; exact hz, fun e => ?_, fun _ e => ?_, fun _ _ p n => h.tup hS n r⟩))
      · subst e
        have e2 : ds = [] := List.eq_nil_of_length_eq_zero l1.symm
        subst e2
        exact h.ok hS (.tup h2 l2 q2)
      · subst e
        have e2 : es = [] := List.eq_nil_of_length_eq_zero l2.symm
        subst e2
        rw [List.append_nil] at h
        exact h.ok hS (.tup h1 l1 q1)
    · exact h.elim
  | @ref l a h1 =>
    cases ry <;> first | exact h.elim | skip
    rename_i m b h2
    unfold addD at h; dsimp only at h
    split at h
    · rename_i as bs e1 e2
      split at h
      · rename_i hz
        obtain ⟨vs, g1, r1⟩ := hS.at' e1 h1
        obtain ⟨ws, g2, r2⟩ := hS.at' e2 h2
        exact .inr (.inr (.inr ⟨_, _, _, _, rfl, rfl, g1, g2, by rw [r1.1, r2.1]; exact hz, fun p n => h.lst hS n (r1.append r2)⟩))
      · exact h.elim
    · exact h.elim
  | _ => cases ry <;> exact h.elim
abbrev rMulAll : R2 := fun x y H Q => rI CMul (fun i j => .int (i * j)) x y H Q ∨ rRep x y H Q
theorem op_mulAll : OpR X (binaryOp .Mult) rMulAll := OpR.or op_mul op_rep
theorem reps_rep {μ : List Addr} {H : Hp} {vs : List V} {ds : List Dv} (r : Reps K μ H vs ds) : ∀ n : Nat, Reps K μ H (List.replicate n vs).flatten (List.replicate n ds).flatten
  | 0 => .nil
  | n + 1 => by
    rw [List.replicate_succ, List.replicate_succ, List.flatten_cons, List.flatten_cons]
    exact r.append (reps_rep r n)
abbrev rLtAll : R2 := fun x y H Q => rI0 (fun i j => .bl (decide (i < j))) x y H Q ∨ (∃ i j, x = .str i ∧ y = .str j ∧ Q (.bl (decide (i.cps.toList < j.cps.toList))) H)
theorem op_ltAll : OpR X (compareOp .Lt) rLtAll := OpR.or op_lt op_lt_str
theorem o_lt : Op2 K ltD rLtAll := by
  intro mg Wx μ H S x y d e Q hS rx ry h
  cases rx <;> cases ry <;> first | exact h.elim | exact .inl ⟨_, _, rfl, rfl, h.ok hS (.bl _)⟩ | exact .inr ⟨_, _, rfl, rfl, h.ok hS (.bl _)⟩
theorem isN_of {μ : List Addr} {H : Hp} {v : V} {d : Dv} (r : Rep K μ H v d) : isN d = decide (v = .non) := by
  cases r <;> rfl
theorem o_is : Op2 K isD (fun x y H Q => y = .non ∧ Q (.bl (decide (x = .non))) H) := by
  intro mg Wx μ H S x y d e Q hS rx ry h
  cases ry <;> first | exact h.elim | skip
  exact ⟨rfl, Met.ok (RP := Rep K) h hS (by rw [isN_of rx]; exact .bl _)⟩
theorem o_isNot : Op2 K isNotD (fun x y H Q => y = .non ∧ Q (.bl (!decide (x = .non))) H) := by
  intro mg Wx μ H S x y d e Q hS rx ry h
  cases ry <;> first | exact h.elim | skip
  exact ⟨rfl, Met.ok (RP := Rep K) h hS (by rw [isN_of rx]; exact .bl _)⟩
end
end PL

namespace PL
open PySem PySem.Spec PyProof.Rows L2

section
variable {X : Cx} {K : PySem.W.Frag}
theorem o_mul : Op2 K mulD rMulAll := by
  intro mg Wx μ H S x y d e Q hS rx ry h
  cases rx with
  | int i =>
    cases ry <;> first | exact h.elim | skip
    unfold mulD at h; dsimp only at h
    split at h
    · rename_i hc; exact .inl ⟨_, _, rfl, rfl, hc, h.ok hS (.int _)⟩
    · exact h.elim
  | @ref l a h1 =>
    cases ry <;> first | exact h.elim | skip
    unfold mulD at h; dsimp only at h
    split at h
    · rename_i as e1
      split at h
      · rename_i hc
        obtain ⟨vs, g1, r1⟩ := hS.at' e1 h1
        exact .inr ⟨_, _, _, rfl, rfl, g1, hc.1, hc.2.1, by rw [r1.1]; exact hc.2.2, fun p n => h.lst hS n (reps_rep r1 _)⟩
      · exact h.elim
    · exact h.elim
  | _ => cases ry <;> exact h.elim
end

/-! ### equality of data -/
mutual
def toP : Nat → Sto → Dv → Option PyData
  | 0, _, _ => none
  | _ + 1, _, .non => some .none
  | _ + 1, _, .bl b => some (.bool b)
  | _ + 1, _, .int i => some (.int i)
  | _ + 1, _, .str x => some (.str x)
  | n + 1, S, .tup ds => (toPs n S ds).map .tuple
  | n + 1, S, .kt ds => (toPs n S ds).map .tuple
  | n + 1, S, .fl ds => (toPs n S ds).map .list
  | n + 1, S, .ref l => match S[l]? with
    | some (.lst ds) => (toPs n S ds).map .list
    | _ => none
def toPs : Nat → Sto → List Dv → Option (List PyData)
  | _, _, [] => some []
  | n, S, d :: ds => match toP n S d, toPs n S ds with
    | some p, some ps => some (p :: ps)
    | _, _ => none
end
/-- == -/
def eqq (S : Sto) (x y : Dv) : Option Bool := match toP 40 S x, toP 40 S y with
  | some p, some q => if SeqAt.shaped p = true ∧ SeqAt.shaped q = true then some (PyData.eqv p q) else none
  | _, _ => none
def eqD (x y : Dv) (S : Sto) : Out Dv := match eqq S x y with
  | some b => .ok (.bl b) S
  | none => .no
def neD (x y : Dv) (S : Sto) : Out Dv := match eqq S x y with
  | some b => .ok (.bl (!b)) S
  | none => .no
section
variable {X : Cx} {K : PySem.W.Frag} {μ : List Addr} {H : Hp} {S : Sto}
mutual
theorem dp_of (hS : SimS K μ S H) : ∀ (n : Nat) (v : V) (d : Dv) (p : PyData), Rep K μ H v d → toP n S d = some p → Dp K H v p
  | 0, _, _, _, _, h => by simp [toP] at h
  | n + 1, v, .non, p, r, h => by cases r; simp [toP] at h; subst h; exact .non
  | n + 1, v, .bl b, p, r, h => by cases r; simp [toP] at h; subst h; exact .bl _
  | n + 1, v, .int b, p, r, h => by cases r; simp [toP] at h; subst h; exact .int _
  | n + 1, v, .str b, p, r, h => by cases r; simp [toP] at h; subst h; exact .str _
  | n + 1, v, .tup ds, p, r, h => by
    cases r with
    | tup h1 l1 q1 =>
      simp only [toP, Option.map_eq_some_iff] at h
      obtain ⟨ps, h, rfl⟩ := h
      exact .tup (.of h1.1) (dps_of hS n _ ds ps ⟨l1, q1⟩ h)
  | n + 1, v, .kt ds, p, r, h => by
    cases r with
    | kt h1 l1 q1 =>
      simp only [toP, Option.map_eq_some_iff] at h
      obtain ⟨ps, h, rfl⟩ := h
      exact .tup (.inr h1) (dps_of hS n _ ds ps ⟨l1, q1⟩ h)
  | n + 1, v, .fl ds, p, r, h => by
    obtain ⟨a, vs, e, hq, rr⟩ := r.sqL hS (ds := ds) rfl
    subst e
    simp only [toP, Option.map_eq_some_iff] at h
    obtain ⟨ps, h, rfl⟩ := h
    exact .lst hq (dps_of hS n _ ds ps rr h)
  | n + 1, v, .ref l, p, r, h => by
    simp only [toP] at h
    split at h
    · rename_i ds e
      obtain ⟨a, vs, e', hq, rr⟩ := r.sqL hS (ds := ds) (by simp [lstOf, e])
      subst e'
      simp only [Option.map_eq_some_iff] at h
      obtain ⟨ps, h, rfl⟩ := h
      exact .lst hq (dps_of hS n _ ds ps rr h)
    · cases h
theorem dps_of (hS : SimS K μ S H) : ∀ (n : Nat) (vs : List V) (ds : List Dv) (ps : List PyData), Reps K μ H vs ds → toPs n S ds = some ps → DpAll K H vs ps
  | n, vs, [], ps, r, h => by
    cases r.un0
    simp [toPs] at h; subst h; exact .nil
  | n, vs, d :: ds, ps, r, h => by
    obtain ⟨v, ws, rfl, r1, r2⟩ := r.uncons
    simp only [toPs] at h
    split at h
    · rename_i p qs e1 e2
      simp only [Option.some.injEq] at h; subst h
      exact .cons (dp_of hS n v d p r1 e1) (dps_of hS n ws ds qs r2 e2)
    · cases h
end
theorem eqq_some {x y : Dv} {b : Bool} (h : eqq S x y = some b) : ∃ p q, toP 40 S x = some p ∧ toP 40 S y = some q ∧ SeqAt.shaped p = true ∧ SeqAt.shaped q = true ∧ b = PyData.eqv p q := by
  unfold eqq at h
  split at h
  · rename_i p q e1 e2
    split at h
    · rename_i hc
      exact ⟨p, q, e1, e2, hc.1, hc.2, (Option.some.inj h).symm⟩
    · cases h
  · cases h
theorem o_eq : Op2 K eqD (rEqD K) := by
  intro mg Wx μ H S x y d e Q hS rx ry h
  unfold eqD at h
  split at h
  · rename_i b hb
    obtain ⟨p, q, e1, e2, s1, s2, rfl⟩ := eqq_some hb
    exact ⟨p, q, dp_of hS 40 _ _ _ rx e1, dp_of hS 40 _ _ _ ry e2, s1, s2, h.ok hS (.bl _)⟩
  · exact h.elim
theorem o_ne : Op2 K neD (rNeD K) := by
  intro mg Wx μ H S x y d e Q hS rx ry h
  unfold neD at h
  split at h
  · rename_i b hb
    obtain ⟨p, q, e1, e2, s1, s2, rfl⟩ := eqq_some hb
    exact ⟨p, q, dp_of hS 40 _ _ _ rx e1, dp_of hS 40 _ _ _ ry e2, s1, s2, h.ok hS (.bl _)⟩
  · exact h.elim
end

/-! ### keys -/
def keyOf : Dv → Option L2.Key
  | .int i => some (.inl i)
  | .str x => some (.inr x)
  | _ => none
def keysOf : List Dv → Option (List L2.Key)
  | [] => some []
  | d :: ds => match keyOf d, keysOf ds with
    | some k, some ks => some (k :: ks)
    | _, _ => none
def tkeyOf : Dv → Option (List L2.Key)
  | .tup ds => keysOf ds
  | _ => none
section
variable {κ : Type} [DecidableEq κ] {α : Type}
def gat : List (κ × α) → κ → Option α
  | [], _ => none
  | p :: r, k => if p.1 = k then some p.2 else gat r k
def gput (kvs : List (κ × α)) (k : κ) (v : α) : List (κ × α) :=
  if (kvs.any fun kv => decide (kv.1 = k)) = true then kvs.map (fun kv => if kv.1 = k then (kv.1, v) else kv) else kvs ++ [(k, v)]
end
section
variable {K : PySem.W.Frag} {μ : List Addr} {H : Hp} {S : Sto}
theorem keyOf_rep {v : V} {d : Dv} {k : L2.Key} (r : Rep K μ H v d) (h : keyOf d = some k) : v = kV k := by
  cases r <;> simp [keyOf] at h <;> (subst h; rfl)
theorem keysOf_rep : ∀ {vs : List V} {ds : List Dv} {ks : List L2.Key}, Reps K μ H vs ds → keysOf ds = some ks → vs = ks.map kV
  | vs, [], ks, r, h => by cases r.un0; simp [keysOf] at h; subst h; rfl
  | vs, d :: ds, ks, r, h => by
    obtain ⟨v, ws, rfl, r1, r2⟩ := r.uncons
    simp only [keysOf] at h
    split at h
    · rename_i k ks' e1 e2
      simp only [Option.some.injEq] at h; subst h
      rw [keyOf_rep r1 e1, keysOf_rep r2 e2]; rfl
    · cases h
theorem tkeyOf_rep {v : V} {d : Dv} {ks : List L2.Key} (r : Rep K μ H v d) (h : tkeyOf d = some ks) : ∃ b, v = .ref b ∧ H b = some (.tup (ks.map kV)) := by
  cases r with
  | tup h1 l q => exact ⟨_, rfl, by rw [h1.1, keysOf_rep ⟨l, q⟩ h]⟩
  | _ => simp [tkeyOf] at h
variable {κ : Type} [DecidableEq κ]
theorem gat_rep : ∀ {ws : List (κ × V)} {kvs : List (κ × Dv)} (k : κ), ws.map (·.1) = kvs.map (·.1) → Reps K μ H (ws.map (·.2)) (kvs.map (·.2)) →
    (gat kvs k = none ∧ valV ws k = none) ∨ ∃ d v, gat kvs k = some d ∧ valV ws k = some v ∧ Rep K μ H v d
  | [], [], k, _, _ => .inl ⟨rfl, rfl⟩
  | p :: ws, q :: kvs, k, h, r => by
    simp only [List.map_cons, List.cons.injEq] at h
    obtain ⟨v, vs, e, r1, r2⟩ := Reps.uncons r
    simp only [List.map_cons, List.cons.injEq] at e
    obtain ⟨rfl, rfl⟩ := e
    by_cases hk : q.1 = k
    · exact .inr ⟨q.2, p.2, by simp [gat, hk], valV_pos (h.1.trans hk), r1⟩
    · rcases gat_rep k h.2 r2 with ⟨e1, e2⟩ | ⟨d, v, e1, e2, e3⟩
      · exact .inl ⟨by simp [gat, hk, e1], by rw [valV_neg (by rw [h.1]; exact hk)]; exact e2⟩
      · exact .inr ⟨d, v, by simp [gat, hk, e1], by rw [valV_neg (by rw [h.1]; exact hk)]; exact e2, e3⟩
  | [], _ :: _, _, h, _ => by simp at h
  | _ :: _, [], _, h, _ => by simp at h
theorem any_keys {α β : Type} {k : κ} : ∀ {ws : List (κ × α)} {kvs : List (κ × β)}, ws.map (·.1) = kvs.map (·.1) → (ws.any fun kv => decide (kv.1 = k)) = kvs.any fun kv => decide (kv.1 = k)
  | [], [], _ => rfl
  | p :: ws, q :: kvs, h => by
    simp only [List.map_cons, List.cons.injEq] at h
    rw [List.any_cons, List.any_cons, any_keys h.2, h.1]
  | [], _ :: _, h => by simp at h
  | _ :: _, [], h => by simp at h
theorem repl_keys {α : Type} {k : κ} {v : α} (kvs : List (κ × α)) : (kvs.map fun kv => if kv.1 = k then (kv.1, v) else kv).map (·.1) = kvs.map (·.1) := by
  rw [List.map_map]
  refine List.map_congr_left fun p _ => ?_
  show (if p.1 = k then (p.1, v) else p).1 = p.1
  split <;> rfl
theorem repl_rep {k : κ} {v : V} {d : Dv} (rv : Rep K μ H v d) : ∀ {ws : List (κ × V)} {kvs : List (κ × Dv)}, ws.map (·.1) = kvs.map (·.1) → Reps K μ H (ws.map (·.2)) (kvs.map (·.2)) →
    Reps K μ H ((ws.map fun kv => if kv.1 = k then (kv.1, v) else kv).map (·.2)) ((kvs.map fun kv => if kv.1 = k then (kv.1, d) else kv).map (·.2))
  | [], [], _, _ => .nil
  | p :: ws, q :: kvs, h, r => by
    simp only [List.map_cons, List.cons.injEq] at h
    obtain ⟨u, us, e, r1, r2⟩ := Reps.uncons r
    simp only [List.map_cons, List.cons.injEq] at e
    obtain ⟨rfl, rfl⟩ := e
    simp only [List.map_cons]
    refine Reps.cons (repl_rep rv h.2 r2) ?_
    rw [h.1]
    split
    · exact rv
    · exact r1
  | [], _ :: _, h, _ => by simp at h
  | _ :: _, [], h, _ => by simp at h
theorem gput_rep {ws : List (κ × V)} {kvs : List (κ × Dv)} {k : κ} {v : V} {d : Dv} (h : ws.map (·.1) = kvs.map (·.1)) (r : Reps K μ H (ws.map (·.2)) (kvs.map (·.2))) (rv : Rep K μ H v d) :
    (putK ws k v).map (·.1) = (gput kvs k d).map (·.1) ∧ Reps K μ H ((putK ws k v).map (·.2)) ((gput kvs k d).map (·.2)) := by
  unfold putK gput
  rw [any_keys h]
  split
  · exact ⟨by rw [repl_keys, repl_keys, h], repl_rep rv h r⟩
  · exact ⟨by rw [List.map_append, List.map_append, h]; rfl, by rw [List.map_append, List.map_append]; exact r.append (.one rv)⟩
/-- what a dict tells of a key -/
def dget (S : Sto) (o k : Dv) : Option (Option Dv) := match o with
  | .ref l => match S[l]? with
    | some (.dk kvs) => (keyOf k).map (gat kvs)
    | some (.dt kvs) => (tkeyOf k).map (gat kvs)
    | _ => none
  | _ => none
theorem dget_rep {x y : V} {o k : Dv} {r : Option Dv} (hS : SimS K μ S H) (rx : Rep K μ H x o) (ry : Rep K μ H y k) (h : dget S o k = some r) :
    ∃ a u, x = .ref a ∧ DGet H a y u ∧ ((r = none ∧ u = none) ∨ ∃ d v, r = some d ∧ u = some v ∧ Rep K μ H v d) := by
  cases rx with
  | @ref l a hl =>
    simp only [dget] at h
    split at h
    · rename_i kvs e
      obtain ⟨ws, e1, e2, e3⟩ := hS.at' e hl
      simp only [Option.map_eq_some_iff] at h
      obtain ⟨κ, hk, h⟩ := h
      refine ⟨a, valV ws κ, rfl, ?_, ?_⟩
      · rw [keyOf_rep ry hk]; exact .k e1
      · rcases gat_rep κ e2 e3 with ⟨g1, g2⟩ | ⟨d, v, g1, g2, g3⟩
        · exact .inl ⟨h.symm.trans g1, g2⟩
        · exact .inr ⟨d, v, h.symm.trans g1, g2, g3⟩
    · rename_i kvs e
      obtain ⟨ws, e1, e2, e3⟩ := hS.at' e hl
      simp only [Option.map_eq_some_iff] at h
      obtain ⟨κ, hk, h⟩ := h
      obtain ⟨b, rfl, eb⟩ := tkeyOf_rep ry hk
      refine ⟨a, valV ws κ, rfl, .t e1 eb, ?_⟩
      rcases gat_rep κ e2 e3 with ⟨g1, g2⟩ | ⟨d, v, g1, g2, g3⟩
      · exact .inl ⟨h.symm.trans g1, g2⟩
      · exact .inr ⟨d, v, h.symm.trans g1, g2, g3⟩
    · cases h
  | _ => simp [dget] at h
/-- the store behind o[k] = d -/
def dput (S : Sto) (o k d : Dv) : Option Sto := match o with
  | .ref l => match S[l]? with
    | some (.dk kvs) => if kvs.length < sizeLine then (keyOf k).map fun κ => S.set l (.dk (gput kvs κ d)) else none
    | some (.dt kvs) => if kvs.length < sizeLine then (tkeyOf k).map fun κ => S.set l (.dt (gput kvs κ d)) else none
    | _ => none
  | _ => none
theorem dput_rep {x y v : V} {o k d : Dv} {S' : Sto} (hS : SimS K μ S H) (rx : Rep K μ H x o) (ry : Rep K μ H y k) (rv : Rep K μ H v d) (h : dput S o k d = some S') :
    ∃ a H', x = .ref a ∧ DPut H a y v H' ∧ SimS K μ S' H' ∧ Step μ H μ H' := by
  cases rx with
  | @ref l a hl =>
    simp only [dput] at h
    split at h
    · rename_i kvs e
      obtain ⟨ws, e1, e2, e3⟩ := hS.at' e hl
      split at h
      · rename_i hz
        simp only [Option.map_eq_some_iff] at h
        obtain ⟨κ, hk, rfl⟩ := h
        have hw : ws.length < sizeLine := by have := congrArg List.length e2; simp at this; omega
        refine ⟨a, _, rfl, ?_, hS.put hl (u := .dK (putK ws κ v)) ⟨_, upd_same, ?_⟩, step_put hS hl _⟩
        · rw [keyOf_rep ry hk]; exact .k e1 hw
        · obtain ⟨g1, g2⟩ := gput_rep (k := κ) e2 e3 rv
          exact ⟨g1, g2.step (step_put hS hl _)⟩
      · cases h
    · rename_i kvs e
      obtain ⟨ws, e1, e2, e3⟩ := hS.at' e hl
      split at h
      · rename_i hz
        simp only [Option.map_eq_some_iff] at h
        obtain ⟨κ, hk, rfl⟩ := h
        obtain ⟨b, rfl, eb⟩ := tkeyOf_rep ry hk
        have hw : ws.length < sizeLine := by have := congrArg List.length e2; simp at this; omega
        refine ⟨a, _, rfl, .t e1 eb hw, hS.put hl (u := .dT (putK ws κ v)) ⟨_, upd_same, ?_⟩, step_put hS hl _⟩
        obtain ⟨g1, g2⟩ := gput_rep (k := κ) e2 e3 rv
        exact ⟨g1, g2.step (step_put hS hl _)⟩
      · cases h
    · cases h
  | _ => simp [dput] at h
end

/-! ### subscripts -/
def idxD (o i : Dv) (S : Sto) : Out Dv := match i with
  | .int k => match o with
    | .str x => if x.length ≤ sizeLine then (match atI x.cps.toList k with | some c => .ok (.str ⟨#[c]⟩) S | none => .no) else .no
    | _ => match tupOf o with
      | some ds => (match atI ds k with | some d => .ok d S | none => .no)
      | none => match lstOf S o with
        | some ds => (match atI ds k with | some d => .ok d S | none => .no)
        | none => match dget S o i with
          | some (some d) => .ok d S
          | _ => .no
  | _ => match dget S o i with
    | some (some d) => .ok d S
    | _ => .no
abbrev rIxD : R2 := fun x y H Q => ∃ a v, x = .ref a ∧ DGet H a y (some v) ∧ Q v H
theorem ix_dict {X : Cx} (hu : X.A.units + 1 < cLine) : IxR X rIxD := by
  intro value slice pins s σ H x y v u Q I rx ry h hs
  obtain ⟨a, w, rfl, g, q⟩ := h
  cases rx
  exact tail_any (ops := [.ref a, u]) (dict_typeIs I g) PySem.F.slot_dict_getitem.lookup (d_getItem hu I g ry fun w' s3 I3 rw' => ⟨w, H, I3, rw', q⟩) hs
abbrev rIxAll (K : PySem.W.Frag) : R2 := fun x y H Q => rIx K x y H Q ∨ rIxD x y H Q
section
variable {X : Cx} {K : PySem.W.Frag} {W : WX} {a b : Expr} {ra rb : RE} {pos : Pos}
theorem atI_rep {μ : List Addr} {H : Hp} {vs : List V} {ds : List Dv} {k : Int} {d : Dv} (r : Reps K μ H vs ds) (h : atI ds k = some d) : ∃ v, atI vs k = some v ∧ Rep K μ H v d := by
  unfold atI at h ⊢
  rw [r.1]
  obtain ⟨j, e, h⟩ := Option.bind_eq_some_iff.mp h
  obtain ⟨v, e1, rv⟩ := r.get h
  exact ⟨v, by rw [e]; exact e1, rv⟩
theorem o_idx : Op2 K idxD (rIxAll K) := by
  intro mg Wx μ H S x y o i Q hS rx ry h
  have dict : ∀ (h : Met (Rep K) K mg Wx μ H (match dget S o i with | some (some d) => .ok d S | _ => .no) Q), rIxAll K x y H Q := fun h => by
    split at h
    · rename_i d e
      obtain ⟨a, u, ex, g, hh⟩ := dget_rep hS rx ry e
      rcases hh with ⟨z, _⟩ | ⟨d', v, e1, e2, r⟩
      · cases z
      · cases e1; subst e2
        exact .inr ⟨a, v, ex, g, h.ok hS r⟩
    · exact h.elim
  unfold idxD at h
  split at h
  · rename_i k
    cases ry
    split at h
    · rename_i z
      cases rx
      split at h
      · rename_i hz
        split at h
        · rename_i c e
          exact .inl (.inr (.inr ⟨_, _, c, rfl, rfl, hz, e, h.ok hS (.str _)⟩))
        · exact h.elim
      · exact h.elim
    · split at h
      · rename_i ds e
        obtain ⟨a, vs, rfl, hq, r⟩ := rx.sqT e
        split at h
        · rename_i d e2
          obtain ⟨v, e3, rv⟩ := atI_rep r e2
          exact .inl (.inr (.inl ⟨_, _, _, v, rfl, rfl, hq, e3, h.ok hS rv⟩))
        · exact h.elim
      · split at h
        · rename_i ds e
          obtain ⟨a, vs, rfl, hq, r⟩ := rx.sqL hS e
          split at h
          · rename_i d e2
            obtain ⟨v, e3, rv⟩ := atI_rep r e2
            exact .inl (.inl ⟨_, _, _, v, rfl, rfl, hq, e3, h.ok hS rv⟩)
          · exact h.elim
        · exact dict h
  · exact dict h
theorem se_ix (hu : X.A.units + 1 < cLine) (ha : SE X W a ra) (hb : SE X W b rb) (hs : PlainIx b := by exact fun _ _ => rfl) : SE X W (.Subscript a b pos) (eBin idxD ra rb) :=
  PE.imp (pe_ix (IxR.or ix_seq (ix_dict hu)) ha hb hs) fun _ _ _ h => bnd2 o_idx h
/-! ### slices -/
abbrev RO := Env → Sto → Out (Option Int)
def oNone : RO := fun _ S => .ok none S
def oSome (r : RE) : RO := fun ρ S => (r ρ S).bind fun d S1 => match d with
  | .int i => .ok (some i) S1
  | _ => .no
def cutD {α : Type} (ds : List α) (lo hi : Option Int) : List α := (ds.drop (HT.sIx ds.length 0 lo)).take (HT.sIx ds.length ds.length hi - HT.sIx ds.length 0 lo)
def sliD (o : Dv) (lo hi : Option Int) (S : Sto) : Out Dv := match o with
  | .str x => if x.length ≤ sizeLine then .ok (.str (cutS x lo hi)) S else .no
  | .tup ds => .ok (.tup (cutD ds lo hi)) S
  | _ => match lstOf S o with
    | some ds => newL (cutD ds lo hi) S
    | none => .no
def eSli (o : RE) (l h : RO) : RE := fun ρ S => (o ρ S).bind fun d S1 => (l ρ S1).bind fun lo S2 => (h ρ S2).bind fun hi S3 => sliD d lo hi S3
def RInt (μ : List Addr) (H : Hp) (b b' : Option Int) : Prop := b = b'
structure SO (X : Cx) (W : WX) (e : Option Expr) (r : RO) : Prop where
  po : PO X e (tG RInt X.K X.mg W r)
theorem so_none : SO X W none oNone := ⟨⟨fun pins s σ H Q I ⟨μ, ρ, S, hS, hE, h⟩ => po_none.run pins s σ H Q I (Met.ok (RP := RInt) h hS rfl)⟩⟩
theorem so_some {e : Expr} (h : SE X W e ra) : SO X W (some e) (oSome ra) := ⟨⟨fun pins s σ H Q I ⟨μ, ρ, S, hS, hE, hm⟩ => (po_some h).run pins s σ H Q I <|
  (bnd hS hE hm).mono fun v H1 ⟨μ1, S1, d, hS1, hE1, s1, rv, h1⟩ => by
    cases rv <;> first | exact h1.elim | exact ⟨_, rfl, Met.ok (RP := RInt) h1 hS1 rfl⟩⟩⟩
theorem cut_rep {μ : List Addr} {H : Hp} {vs : List V} {ds : List Dv} (r : Reps K μ H vs ds) (lo hi : Option Int) : Reps K μ H (cutV vs lo hi) (cutD ds lo hi) := by
  unfold cutV cutD
  rw [r.1]
  exact (r.drop _).take _
theorem cut_whole {α : Type} {ds : List α} {lo hi : Option Int} (h : HT.sIx ds.length 0 lo = 0 ∧ HT.sIx ds.length ds.length hi = ds.length) : cutD ds lo hi = ds := by
  unfold cutD
  rw [h.1, h.2]
  simp
theorem se_sli {lo hi : Option Expr} {rl rh : RO} {p2 : Pos} (ha : SE X W a ra) (hl : SO X W lo rl) (hh : SO X W hi rh) : SE X W (.Subscript a (.Slice lo hi none p2) pos) (eSli ra rl rh) :=
  PE.imp (pe_slice (SlR.or sl_str (SlR.or sl_tupA sl_list)) ha hl.po hh.po) fun σ H Q ⟨μ, ρ, S, hS, hE, h⟩ => (bnd hS hE h).mono fun v H1 ⟨μ1, S1, d, hS1, hE1, s1, rv, h1⟩ =>
    (bnd (R1 := RInt) hS1 hE1 h1).mono fun l H2 ⟨μ2, S2, l', hS2, hE2, s2, rl, h2⟩ => (bnd (R1 := RInt) hS2 hE2 h2).mono fun u H3 ⟨μ3, S3, u', hS3, hE3, s3, ru, h3⟩ => by
      cases (show l = l' from rl)
      cases (show u = u' from ru)
      have rv3 := (rv.step s2).step s3
      unfold sliD at h3
      split at h3
      · cases rv3
        split at h3
        · rename_i hz; exact .inl ⟨_, rfl, hz, h3.ok hS3 (.str _)⟩
        · exact h3.elim
      · cases rv3 with
        | tup t1 t2 t3 =>
          have r : Reps X.K μ3 H3 _ _ := ⟨t2, t3⟩
          refine .inr (.inl ⟨_, _, rfl, .of t1.1, fun w => ?_, fun _ p n => h3.tup hS3 n (cut_rep r _ _)⟩)
          rw [t2] at w
          rw [cut_whole w] at h3
          exact h3.ok hS3 (.tup t1 t2 t3)
      · split at h3
        · rename_i ds e
          obtain ⟨a, vs, rfl, hq, r⟩ := rv3.sqL hS3 e
          exact .inr (.inr ⟨a, vs, rfl, hq, fun p n => h3.lst hS3 n (cut_rep r _ _)⟩)
        · exact h3.elim
end
end PL

namespace PL
open PySem PySem.Spec PyProof.Rows L2

/-! ### built-ins -/
def kD : L2.Key → Dv
  | .inl i => .int i
  | .inr x => .str x
def intsOf : List Dv → Option (List Int)
  | [] => some []
  | .int i :: r => (intsOf r).map (i :: ·)
  | _ => none
def blsOf : List Dv → Option (List Bool)
  | [] => some []
  | .bl i :: r => (blsOf r).map (i :: ·)
  | _ => none
def strsOf : List Dv → Option (List Str)
  | [] => some []
  | .str i :: r => (strsOf r).map (i :: ·)
  | _ => none
def seqOf (S : Sto) (d : Dv) : Option (List Dv) := match tupOf d with
  | some ds => some ds
  | none => lstOf S d
def lenD (ds : List Dv) (S : Sto) : Out Dv := match ds with
  | [.str x] => if x.length ≤ sizeLine then .ok (.int x.length) S else .no
  | [d] => match seqOf S d with
    | some xs => .ok (.int xs.length) S
    | none => match d with
      | .ref l => match S[l]? with
        | some (.dk kvs) => .ok (.int kvs.length) S
        | some (.dt kvs) => .ok (.int kvs.length) S
        | _ => .no
      | _ => .no
  | _ => .no
def listD (ds : List Dv) (S : Sto) : Out Dv := match ds with
  | [d] => match seqOf S d with
    | some xs => newL xs S
    | none => match d with
      | .ref l => match S[l]? with
        | some (.dk kvs) => newL (kvs.map fun kv => kD kv.1) S
        | _ => .no
      | _ => .no
  | _ => .no
def tupleD (ds : List Dv) (S : Sto) : Out Dv := match ds with
  | [.tup xs] => .ok (.tup xs) S
  | [.kt xs] => .ok (.kt xs) S
  | [d] => match lstOf S d with
    | some xs => .ok (.tup xs) S
    | none => .no
  | _ => .no
def intD (ds : List Dv) (S : Sto) : Out Dv := match ds with
  | [.int i] => .ok (.int i) S
  | [.bl b] => .ok (.int (if b then 1 else 0)) S
  | [.str x] => match PySem.intText? x with
    | some n => if x.length ≤ 640 then .ok (.int n) S else .no
    | none => .no
  | _ => .no
def strD (ds : List Dv) (S : Sto) : Out Dv := match ds with
  | [.int i] => if i.natAbs.log2 < 1920 then .ok (.str (toString i)) S else .no
  | _ => .no
def absD (ds : List Dv) (S : Sto) : Out Dv := match ds with
  | [.int i] => .ok (.int (if i < 0 then -i else i)) S
  | _ => .no
def maxI : List Int → Option Int
  | [] => none
  | x :: r => some (r.foldl max x)
def minI : List Int → Option Int
  | [] => none
  | x :: r => some (r.foldl min x)
def max2D (ds : List Dv) (S : Sto) : Out Dv := match ds with
  | [.int i, .int j] => .ok (.int (max i j)) S
  | _ => .no
def min2D (ds : List Dv) (S : Sto) : Out Dv := match ds with
  | [.int i, .int j] => .ok (.int (min i j)) S
  | _ => .no
def maxD (ds : List Dv) (S : Sto) : Out Dv := match ds with
  | [d] => match (lstOf S d).bind intsOf with
    | some ns => match maxI ns with
      | some m => .ok (.int m) S
      | none => .no
    | none => .no
  | _ => .no
def minD (ds : List Dv) (S : Sto) : Out Dv := match ds with
  | [d] => match (lstOf S d).bind intsOf with
    | some ns => match minI ns with
      | some m => .ok (.int m) S
      | none => .no
    | none => .no
  | _ => .no
def sumD (ds : List Dv) (S : Sto) : Out Dv := match ds with
  | [d] => match (lstOf S d).bind intsOf with
    | some ns => .ok (.int ns.sum) S
    | none => .no
  | _ => .no
def anyD (ds : List Dv) (S : Sto) : Out Dv := match ds with
  | [d] => match (lstOf S d).bind blsOf with
    | some ns => .ok (.bl (ns.any id)) S
    | none => .no
  | _ => .no
section
variable {X : Cx} {K : PySem.W.Frag} {μ : List Addr} {H : Hp} {S : Sto}
theorem intsOf_rep : ∀ {vs : List V} {ds : List Dv} {ns : List Int}, Reps K μ H vs ds → intsOf ds = some ns → vs = ns.map V.int
  | vs, [], ks, r, h => by cases r.un0; simp [intsOf] at h; subst h; rfl
  | vs, d :: ds, ks, r, h => by
    obtain ⟨v, ws, rfl, r1, r2⟩ := r.uncons
    cases r1 <;> simp only [intsOf] at h <;> first | cases h | skip
    rw [Option.map_eq_some_iff] at h
    obtain ⟨ns, e, rfl⟩ := h
    rw [intsOf_rep r2 e]; rfl
theorem blsOf_rep : ∀ {vs : List V} {ds : List Dv} {ns : List Bool}, Reps K μ H vs ds → blsOf ds = some ns → vs = ns.map V.bl
  | vs, [], ks, r, h => by cases r.un0; simp [blsOf] at h; subst h; rfl
  | vs, d :: ds, ks, r, h => by
    obtain ⟨v, ws, rfl, r1, r2⟩ := r.uncons
    cases r1 <;> simp only [blsOf] at h <;> first | cases h | skip
    rw [Option.map_eq_some_iff] at h
    obtain ⟨ns, e, rfl⟩ := h
    rw [blsOf_rep r2 e]; rfl
theorem strsOf_rep : ∀ {vs : List V} {ds : List Dv} {ns : List Str}, Reps K μ H vs ds → strsOf ds = some ns → vs = ns.map V.str
  | vs, [], ks, r, h => by cases r.un0; simp [strsOf] at h; subst h; rfl
  | vs, d :: ds, ks, r, h => by
    obtain ⟨v, ws, rfl, r1, r2⟩ := r.uncons
    cases r1 <;> simp only [strsOf] at h <;> first | cases h | skip
    rw [Option.map_eq_some_iff] at h
    obtain ⟨ns, e, rfl⟩ := h
    rw [strsOf_rep r2 e]; rfl
theorem seq_rep {v : V} {d : Dv} {ds : List Dv} (hS : SimS K μ S H) (r : Rep K μ H v d) (e : seqOf S d = some ds) : ∃ a vs, v = .ref a ∧ (SqL K H a vs ∨ SqT K H a vs) ∧ Reps K μ H vs ds := by
  unfold seqOf at e
  split at e
  · rename_i xs e1
    cases e
    obtain ⟨a, vs, h1, h2, h3⟩ := r.sqT e1
    exact ⟨a, vs, h1, .inr h2, h3⟩
  · obtain ⟨a, vs, h1, h2, h3⟩ := r.sqL hS e
    exact ⟨a, vs, h1, .inl h2, h3⟩
theorem Reps.get1 {vs : List V} {d : Dv} (r : Reps K μ H vs [d]) : ∃ v, vs = [v] ∧ Rep K μ H v d := by
  obtain ⟨v, ws, rfl, r1, r2⟩ := r.uncons
  cases r2.un0
  exact ⟨v, rfl, r1⟩
theorem Reps.get2 {vs : List V} {d e : Dv} (r : Reps K μ H vs [d, e]) : ∃ v u, vs = [v, u] ∧ Rep K μ H v d ∧ Rep K μ H u e := by
  obtain ⟨v, ws, rfl, r1, r2⟩ := r.uncons
  obtain ⟨u, rfl, r3⟩ := r2.get1
  exact ⟨v, u, rfl, r1, r3⟩
theorem call_lenAll : CallR X (.builtin "len") (fun xs H Q => (∃ x n, xs = [x] ∧ LenV X.K x H n ∧ Q (.int n) H) ∨ ((∃ a kvs, xs = [V.ref a] ∧ H a = some (.dK kvs) ∧ Q (.int kvs.length) H) ∨ rLenT xs H Q)) := CallR.or call_len (CallR.or call_lenD call_len_dT)
theorem o_len : OpL K lenD (fun xs H Q => (∃ x n, xs = [x] ∧ LenV K x H n ∧ Q (.int n) H) ∨ ((∃ a kvs, xs = [V.ref a] ∧ H a = some (.dK kvs) ∧ Q (.int kvs.length) H) ∨ rLenT xs H Q)) := by
  intro mg Wx μ H S vs ds Q hS r h
  unfold lenD at h
  split at h
  · rename_i x
    obtain ⟨v, rfl, rv⟩ := r.get1
    cases rv
    split at h
    · rename_i hz; exact .inl ⟨_, _, rfl, ⟨hz, rfl⟩, h.ok hS (.int _)⟩
    · exact h.elim
  · rename_i d _
    obtain ⟨v, rfl, rv⟩ := r.get1
    split at h
    · rename_i xs e
      obtain ⟨a, vs, rfl, hq, rr⟩ := seq_rep hS rv e
      refine .inl ⟨_, vs.length, rfl, ?_, by rw [rr.1]; exact h.ok hS (.int _)⟩
      exact hq.imp (fun q => ⟨vs, q, rfl⟩) fun q => ⟨vs, q, rfl⟩
    · split at h
      · cases rv with
        | ref hl =>
          split at h
          · rename_i kvs e
            obtain ⟨ws, e1, e2, e3⟩ := hS.at' e hl
            have e4 : ws.length = kvs.length := by have := congrArg List.length e2; simpa using this
            exact .inr (.inl ⟨_, ws, rfl, e1, by rw [e4]; exact h.ok hS (.int _)⟩)
          · rename_i kvs e
            obtain ⟨ws, e1, e2, e3⟩ := hS.at' e hl
            have e4 : ws.length = kvs.length := by have := congrArg List.length e2; simpa using this
            exact .inr (.inr ⟨_, ws, rfl, e1, by rw [e4]; exact h.ok hS (.int _)⟩)
          · exact h.elim
      · exact h.elim
  · exact h.elim
abbrev rListAll (K : PySem.W.Frag) : List V → Hp → VK → Prop := fun xs H Q => (∃ p ys, xs = [.ref p] ∧ (SqL K H p ys ∨ SqT K H p ys) ∧ ∀ l, H l = none → Q (.ref l) (upd H l (.lst ys))) ∨ rListD xs H Q
theorem call_listAll (hc : X.calm = true) : CallR X (.type "list") (rListAll X.K) := CallR.or call_list_of (call_list_dK hc)
theorem rep_kV {μ : List Addr} {H : Hp} (k : L2.Key) : Rep K μ H (kV k) (kD k) := by
  cases k with
  | inl i => exact .int i
  | inr x => exact .str x
theorem reps_keys {μ : List Addr} {H : Hp} : ∀ {ws : List (L2.Key × V)} {kvs : List (L2.Key × Dv)}, ws.map (·.1) = kvs.map (·.1) → Reps K μ H (ws.map fun kv => kV kv.1) (kvs.map fun kv => kD kv.1)
  | [], [], _ => .nil
  | p :: ws, q :: kvs, h => by
    simp only [List.map_cons, List.cons.injEq] at h
    simp only [List.map_cons]
    rw [h.1]
    exact (reps_keys h.2).cons (rep_kV _)
  | [], _ :: _, h => by simp at h
  | _ :: _, [], h => by simp at h
theorem o_list : OpL K listD (rListAll K) := by
  intro mg Wx μ H S vs ds Q hS r h
  unfold listD at h
  split at h
  · rename_i d
    obtain ⟨v, rfl, rv⟩ := r.get1
    split at h
    · rename_i xs e
      obtain ⟨a, vs, rfl, hq, rr⟩ := seq_rep hS rv e
      exact .inl ⟨_, vs, rfl, hq, fun p n => h.lst hS n rr⟩
    · split at h
      · cases rv with
        | ref hl =>
          split at h
          · rename_i kvs e
            obtain ⟨ws, e1, e2, e3⟩ := hS.at' e hl
            exact .inr ⟨_, ws, rfl, e1, fun p n => h.lst hS n (reps_keys e2)⟩
          · exact h.elim
      · exact h.elim
  · exact h.elim
theorem o_tuple : OpL K tupleD (fun xs H Q => ∃ p ys, xs = [.ref p] ∧ ((SqL K H p ys ∧ ∀ l, H l = none → Q (.ref l) (upd H l (.tup ys))) ∨ (SqT K H p ys ∧ Q (.ref p) H))) := by
  intro mg Wx μ H S vs ds Q hS r h
  unfold tupleD at h
  split at h
  · obtain ⟨v, rfl, rv⟩ := r.get1
    cases rv with
    | tup t l q => exact ⟨_, _, rfl, .inr ⟨.of t.1, h.ok hS (.tup t l q)⟩⟩
  · obtain ⟨v, rfl, rv⟩ := r.get1
    cases rv with
    | kt t l q => exact ⟨_, _, rfl, .inr ⟨.inr t, h.ok hS (.kt t l q)⟩⟩
  · obtain ⟨v, rfl, rv⟩ := r.get1
    split at h
    · rename_i xs e
      obtain ⟨a, vs, rfl, hq, rr⟩ := rv.sqL hS e
      exact ⟨_, _, rfl, .inl ⟨hq, fun p n => h.tup hS n rr⟩⟩
    · exact h.elim
  · exact h.elim
abbrev rInt : List V → Hp → VK → Prop := fun xs H Q => ((∃ i, xs = [.int i] ∧ Q (.int i) H) ∨ ∃ k, xs = [.bl k] ∧ Q (.int (if k then 1 else 0)) H) ∨ (∃ a n, xs = [.str a] ∧ PySem.intText? a = some n ∧ a.length ≤ 640 ∧ Q (.int n) H)
theorem call_intAll : CallR X (.type "int") rInt := CallR.or call_int1 call_int_str
theorem o_int : OpL K intD rInt := by
  intro mg Wx μ H S vs ds Q hS r h
  unfold intD at h
  split at h
  · obtain ⟨v, rfl, rv⟩ := r.get1; cases rv; exact .inl (.inl ⟨_, rfl, h.ok hS (.int _)⟩)
  · obtain ⟨v, rfl, rv⟩ := r.get1; cases rv; exact .inl (.inr ⟨_, rfl, h.ok hS (.int _)⟩)
  · obtain ⟨v, rfl, rv⟩ := r.get1
    cases rv
    split at h
    · split at h
      · rename_i n e hz; exact .inr ⟨_, n, rfl, e, hz, h.ok hS (.int _)⟩
      · exact h.elim
    · exact h.elim
  · exact h.elim
theorem o_str : OpL K strD (fun xs H Q => ∃ i, xs = [.int i] ∧ i.natAbs.log2 < 1920 ∧ Q (.str (toString i)) H) := by
  intro mg Wx μ H S vs ds Q hS r h
  unfold strD at h
  split at h
  · obtain ⟨v, rfl, rv⟩ := r.get1
    cases rv
    split at h
    · rename_i hz; exact ⟨_, rfl, hz, h.ok hS (.str _)⟩
    · exact h.elim
  · exact h.elim
theorem o_abs : OpL K absD (fun xs H Q => ∃ i, xs = [.int i] ∧ Q (.int (if i < 0 then -i else i)) H) := by
  intro mg Wx μ H S vs ds Q hS r h
  unfold absD at h
  split at h
  · obtain ⟨v, rfl, rv⟩ := r.get1; cases rv; exact ⟨_, rfl, h.ok hS (.int _)⟩
  · exact h.elim
theorem o_max2 : OpL K max2D (fun xs H Q => ∃ i j, xs = [.int i, .int j] ∧ Q (.int (if j > i then j else i)) H) := by
  intro mg Wx μ H S vs ds Q hS r h
  unfold max2D at h
  split at h
  · rename_i i j
    obtain ⟨v, u, rfl, rv, ru⟩ := r.get2; cases rv; cases ru
    refine ⟨_, _, rfl, ?_⟩
    have e : max i j = if j > i then j else i := by split <;> omega
    rw [e] at h
    exact h.ok hS (.int _)
  · exact h.elim
theorem o_min2 : OpL K min2D (fun xs H Q => ∃ i j, xs = [.int i, .int j] ∧ Q (.int (if j < i then j else i)) H) := by
  intro mg Wx μ H S vs ds Q hS r h
  unfold min2D at h
  split at h
  · rename_i i j
    obtain ⟨v, u, rfl, rv, ru⟩ := r.get2; cases rv; cases ru
    refine ⟨_, _, rfl, ?_⟩
    have e : min i j = if j < i then j else i := by split <;> omega
    rw [e] at h
    exact h.ok hS (.int _)
  · exact h.elim
theorem foldmax_spec : ∀ (ns : List Int) (x : Int), (ns.foldl max x ∈ x :: ns) ∧ ∀ y ∈ x :: ns, y ≤ ns.foldl max x
  | [], x => by simp
  | y :: r, x => by
    obtain ⟨h1, h2⟩ := foldmax_spec r (max x y)
    have h3 := h2 (max x y) List.mem_cons_self
    rw [List.foldl_cons]
    refine ⟨?_, fun z hz => ?_⟩
    · rcases List.mem_cons.mp h1 with e | h1
      · rw [e]
        by_cases hxy : x ≤ y
        · rw [Int.max_eq_right hxy]; simp
        · rw [Int.max_eq_left (by omega)]; simp
      · exact List.mem_cons_of_mem _ (List.mem_cons_of_mem _ h1)
    · rcases List.mem_cons.mp hz with rfl | hz
      · omega
      · rcases List.mem_cons.mp hz with rfl | hz
        · omega
        · exact h2 z (List.mem_cons_of_mem _ hz)
theorem foldmin_spec : ∀ (ns : List Int) (x : Int), (ns.foldl min x ∈ x :: ns) ∧ ∀ y ∈ x :: ns, ns.foldl min x ≤ y
  | [], x => by simp
  | y :: r, x => by
    obtain ⟨h1, h2⟩ := foldmin_spec r (min x y)
    have h3 := h2 (min x y) List.mem_cons_self
    rw [List.foldl_cons]
    refine ⟨?_, fun z hz => ?_⟩
    · rcases List.mem_cons.mp h1 with e | h1
      · rw [e]
        by_cases hxy : x ≤ y
        · rw [Int.min_eq_left hxy]; simp
        · rw [Int.min_eq_right (by omega)]; simp
      · exact List.mem_cons_of_mem _ (List.mem_cons_of_mem _ h1)
    · rcases List.mem_cons.mp hz with rfl | hz
      · omega
      · rcases List.mem_cons.mp hz with rfl | hz
        · omega
        · exact h2 z (List.mem_cons_of_mem _ hz)
theorem maxI_spec (ns : List Int) (m : Int) (h : maxI ns = some m) : m ∈ ns ∧ ∀ y ∈ ns, y ≤ m := by
  cases ns with
  | nil => simp [maxI] at h
  | cons x r => simp only [maxI, Option.some.injEq] at h; subst h; exact foldmax_spec r x
theorem minI_spec (ns : List Int) (m : Int) (h : minI ns = some m) : m ∈ ns ∧ ∀ y ∈ ns, m ≤ y := by
  cases ns with
  | nil => simp [minI] at h
  | cons x r => simp only [minI, Option.some.injEq] at h; subst h; exact foldmin_spec r x
theorem o_max : OpL K maxD (rMax K) := by
  intro mg Wx μ H S vs ds Q hS r h
  unfold maxD at h
  split at h
  · obtain ⟨v, rfl, rv⟩ := r.get1
    split at h
    · rename_i ns e
      split at h
      · rename_i m em
        obtain ⟨es, e1, e2⟩ := Option.bind_eq_some_iff.mp e
        obtain ⟨a, us, rfl, hq, rr⟩ := rv.sqL hS e1
        cases intsOf_rep rr e2
        obtain ⟨h1, h2⟩ := maxI_spec ns m em
        refine ⟨a, ns, rfl, hq, List.length_pos_of_mem h1, fun m' hm' hle => ?_⟩
        have e3 : m = m' := Int.le_antisymm (hle _ h1) (h2 _ hm')
        subst e3
        exact h.ok hS (.int _)
      · exact h.elim
    · exact h.elim
  · exact h.elim
theorem o_min : OpL K minD (rMin K) := by
  intro mg Wx μ H S vs ds Q hS r h
  unfold minD at h
  split at h
  · obtain ⟨v, rfl, rv⟩ := r.get1
    split at h
    · rename_i ns e
      split at h
      · rename_i m em
        obtain ⟨es, e1, e2⟩ := Option.bind_eq_some_iff.mp e
        obtain ⟨a, us, rfl, hq, rr⟩ := rv.sqL hS e1
        cases intsOf_rep rr e2
        obtain ⟨h1, h2⟩ := minI_spec ns m em
        refine ⟨a, ns, rfl, hq, List.length_pos_of_mem h1, fun m' hm' hle => ?_⟩
        have e3 : m = m' := Int.le_antisymm (h2 _ hm') (hle _ h1)
        subst e3
        exact h.ok hS (.int _)
      · exact h.elim
    · exact h.elim
  · exact h.elim
theorem o_sum : OpL K sumD (rSum K) := by
  intro mg Wx μ H S vs ds Q hS r h
  unfold sumD at h
  split at h
  · obtain ⟨v, rfl, rv⟩ := r.get1
    split at h
    · rename_i ns e
      obtain ⟨es, e1, e2⟩ := Option.bind_eq_some_iff.mp e
      obtain ⟨a, us, rfl, hq, rr⟩ := rv.sqL hS e1
      cases intsOf_rep rr e2
      exact ⟨a, ns, rfl, hq, h.ok hS (.int _)⟩
    · exact h.elim
  · exact h.elim
theorem o_any : OpL K anyD (rAny K) := by
  intro mg Wx μ H S vs ds Q hS r h
  unfold anyD at h
  split at h
  · obtain ⟨v, rfl, rv⟩ := r.get1
    split at h
    · rename_i ns e
      obtain ⟨es, e1, e2⟩ := Option.bind_eq_some_iff.mp e
      obtain ⟨a, us, rfl, hq, rr⟩ := rv.sqL hS e1
      cases blsOf_rep rr e2
      exact ⟨a, ns, rfl, hq, h.ok hS (.bl _)⟩
    · exact h.elim
  · exact h.elim
end
end PL

namespace PL
open PySem PySem.Spec PyProof.Rows L2

/-! ### in -/
def flatD : Dv → Bool
  | .non => true
  | .bl _ => true
  | .int _ => true
  | .str _ => true
  | _ => false
def eqF : Dv → Dv → Bool
  | .non, .non => true
  | .bl a, .bl b => a == b
  | .bl a, .int b => (if a then 1 else 0) == b
  | .int a, .bl b => a == (if b then 1 else 0)
  | .int a, .int b => a == b
  | .str a, .str b => a == b
  | _, _ => false
def memq (S : Sto) (x y : Dv) : Option Bool := match y with
  | .str z => match x with
    | .str w => match w.cps.toList with
      | [c] => some (decide (c ∈ z.cps.toList))
      | _ => none
    | _ => none
  | _ => match tupOf y with
    | some ds => if flatD x = true ∧ ds.all flatD = true then some (ds.any fun d => eqF d x) else none
    | none => match lstOf S y with
      | some ds => match toP 40 S x, toPs 39 S ds with
        | some p, some qs => if SeqAt.shaped p = true ∧ SeqAt.shaped (.list qs) = true then some (qs.any fun z => PyData.eqv z p) else none
        | _, _ => none
      | none => match dget S y x with
        | some r => some r.isSome
        | none => none
def inD (x y : Dv) (S : Sto) : Out Dv := match memq S x y with
  | some b => .ok (.bl b) S
  | none => .no
def ninD (x y : Dv) (S : Sto) : Out Dv := match memq S x y with
  | some b => .ok (.bl (!b)) S
  | none => .no
abbrev rInAll (K : PySem.W.Frag) (g : Bool → Bool) : R2 := fun x y H Q =>
  (∃ (c : Nat) (z : Str), x = .str ⟨#[c]⟩ ∧ y = .str z ∧ Q (.bl (g (decide (c ∈ z.cps.toList)))) H) ∨
  ((∃ p xs, y = .ref p ∧ (SqL K H p xs ∨ SqT K H p xs) ∧ flatV x = true ∧ xs.all flatV = true ∧ Q (.bl (g (inV x xs))) H) ∨
  ((∃ d ds, Dp K H x d ∧ Dp K H y (.list ds) ∧ SeqAt.shaped d = true ∧ SeqAt.shaped (.list ds) = true ∧ Q (.bl (g (ds.any fun z => PyData.eqv z d))) H) ∨
  ∃ a o, y = .ref a ∧ DGet H a x o ∧ Q (.bl (g o.isSome)) H))
section
variable {X : Cx} {K : PySem.W.Frag} {μ : List Addr} {H : Hp} {S : Sto}
theorem op_inAll (hu : X.A.units + 65 < cLine) : OpR X (compareOp .In) (rInAll X.K id) :=
  OpR.or op_in_sign (OpR.or op_in_seq (OpR.or (op_inD hu) fun pins s σ H x y v u Q I rx ry ⟨a, o, ey, g, q⟩ => by
    subst ey
    obtain rfl : u = Value.ref a := ry
    exact d_in (by omega) I g rx fun s3 I3 => ⟨.bl o.isSome, H, I3, rfl, q⟩))
theorem op_ninAll (hu : X.A.units + 65 < cLine) : OpR X (compareOp .NotIn) (rInAll X.K not) :=
  OpR.or op_notIn_sign (OpR.or op_notIn_seq (OpR.or (op_notInD hu) fun pins s σ H x y v u Q I rx ry ⟨a, o, ey, g, q⟩ => by
    subst ey
    obtain rfl : u = Value.ref a := ry
    exact d_notIn (by omega) I g rx fun s3 I3 => ⟨.bl (!o.isSome), H, I3, rfl, q⟩))
theorem flat_rep {v : V} {d : Dv} (r : Rep K μ H v d) (f : flatD d = true) : flatV v = true := by
  cases r <;> first | rfl | simp [flatD] at f
theorem eqF_rep {v u : V} {d e : Dv} (r : Rep K μ H v d) (q : Rep K μ H u e) (f : flatD d = true) (g : flatD e = true) : eqV v u = eqF d e := by
  cases r <;> cases q <;> first | rfl | simp [flatD] at f | simp [flatD] at g
theorem anyF_rep {x : V} {d : Dv} (r : Rep K μ H x d) (f : flatD d = true) : ∀ {vs : List V} {ds : List Dv}, Reps K μ H vs ds → ds.all flatD = true → vs.all flatV = true ∧ inV x vs = ds.any fun e => eqF e d
  | vs, [], rr, _ => by cases rr.un0; exact ⟨rfl, rfl⟩
  | vs, e :: ds, rr, h => by
    obtain ⟨v, ws, rfl, r1, r2⟩ := rr.uncons
    rw [List.all_cons, Bool.and_eq_true] at h
    obtain ⟨h1, h2⟩ := anyF_rep r f r2 h.2
    refine ⟨by rw [List.all_cons, h1, flat_rep r1 h.1]; rfl, ?_⟩
    rw [List.any_cons, ← h2, ← eqF_rep r1 r h.1 f]
    rfl
theorem o_mem {g : Bool → Bool} {mg : Str → Option Value} {Wx : Value → Option Addr → Hp → Prop} {x y : V} {d e : Dv} {Q : VK} (hS : SimS K μ S H) (rx : Rep K μ H x d) (ry : Rep K μ H y e)
    (h : Met (Rep K) K mg Wx μ H (match memq S d e with | some b => .ok (.bl (g b)) S | none => .no) Q) : rInAll K g x y H Q := by
  split at h
  · rename_i b hb
    unfold memq at hb
    split at hb
    · cases ry
      split at hb
      · cases rx
        split at hb
        · rename_i w _ c e
          cases hb
          have ew : w = ⟨#[c]⟩ := by
            obtain ⟨w⟩ := w
            simp only [Str.mk.injEq]
            apply Array.toList_inj.mp
            rw [e]
          exact .inl ⟨c, _, by rw [ew], rfl, h.ok hS (.bl _)⟩
        · cases hb
      · cases hb
    · split at hb
      · rename_i ds e1
        split at hb
        · rename_i hf
          cases hb
          obtain ⟨a, vs, rfl, hq, rr⟩ := ry.sqT e1
          obtain ⟨h1, h2⟩ := anyF_rep rx hf.1 rr hf.2
          rw [← h2] at h
          exact .inr (.inl ⟨a, vs, rfl, .inr hq, flat_rep rx hf.1, h1, h.ok hS (.bl _)⟩)
        · cases hb
      · split at hb
        · rename_i ds e1
          split at hb
          · rename_i p qs e2 e3
            split at hb
            · rename_i hs
              cases hb
              obtain ⟨a, vs, rfl, hq, rr⟩ := ry.sqL hS e1
              exact .inr (.inr (.inl ⟨p, qs, dp_of hS 40 _ _ _ rx e2, .lst hq (dps_of hS 39 _ _ _ rr e3), hs.1, hs.2, h.ok hS (.bl _)⟩))
            · cases hb
          · cases hb
        · split at hb
          · rename_i r e1
            cases hb
            obtain ⟨a, u, ex, gg, hh⟩ := dget_rep hS ry rx e1
            refine .inr (.inr (.inr ⟨a, u, ex, gg, ?_⟩))
            rcases hh with ⟨rfl, rfl⟩ | ⟨d', v, rfl, rfl, _⟩ <;> exact h.ok hS (.bl _)
          · cases hb
  · exact h.elim
theorem o_in : Op2 K inD (rInAll K id) := fun mg Wx μ H S x y d e Q hS rx ry h => o_mem (g := id) hS rx ry h
theorem o_nin : Op2 K ninD (rInAll K not) := fun mg Wx μ H S x y d e Q hS rx ry h => o_mem (g := not) hS rx ry h
end

/-! ### isinstance -/
def tyN (S : Sto) : Dv → Option String
  | .non => some "NoneType"
  | .bl _ => some "bool"
  | .int _ => some "int"
  | .str _ => some "str"
  | .tup _ => some "tuple"
  | .kt _ => some "tuple"
  | .fl _ => some "list"
  | .ref l => match S[l]? with
    | some (.lst _) => some "list"
    | some (.dk _) => some "dict"
    | some (.dt _) => some "dict"
    | none => none
def isiB (a b : String) : Option Bool :=
  if a ∈ ["NoneType", "bool", "int", "str", "tuple", "list", "dict"] ∧ b ∈ ["bool", "int", "str", "tuple", "list", "dict"] then some (a == b || (a == "bool" && b == "int")) else none
theorem kit_all : ∀ a ∈ ["NoneType", "bool", "int", "str", "tuple", "list", "dict"], ∀ b ∈ ["bool", "int", "str", "tuple", "list", "dict"], kitB a b = some (a == b || (a == "bool" && b == "int")) := by decide +kernel
def isiD (T : String) (d : Dv) (S : Sto) : Out Dv := match (tyN S d).bind fun a => isiB a T with
  | some b => .ok (.bl b) S
  | none => .no
section
variable {X : Cx} {K : PySem.W.Frag} {W : WX} {e : Expr} {ra : RE} {pos p p2 : Pos}
theorem tyN_rep {μ : List Addr} {H : Hp} {S : Sto} {v : V} {d : Dv} {a : String} (hS : SimS K μ S H) (r : Rep K μ H v d) (h : tyN S d = some a) : TyX K H v (.type a) := by
  cases r with
  | non => cases h; exact .base .non
  | bl b => cases h; exact .base (.bl b)
  | int b => cases h; exact .base (.int b)
  | str b => cases h; exact .base (.str b)
  | tup t l q => cases h; exact .base (.tup t.1)
  | kt t l q => cases h; obtain ⟨o, its, n, e1, e2, _⟩ := t; exact .kTuple e1 e2
  | fl t l q =>
    cases h
    rcases t with ⟨⟨o, t⟩, _⟩ | ⟨o, its, n, e1, e2, _⟩
    · exact .base (.frz t)
    · exact .kList e1 e2
  | ref hl =>
    simp only [tyN] at h
    split at h
    · rename_i ds e; cases h; obtain ⟨ws, e1, _⟩ := hS.at' e hl; exact .base (.lst e1)
    · rename_i ds e; cases h; obtain ⟨ws, e1, _⟩ := hS.at' e hl; exact .base (.dK e1)
    · rename_i ds e; cases h; obtain ⟨ws, e1, _⟩ := hS.at' e hl; exact .base (.dT e1)
    · cases h
theorem se_isi {T : String} {t : Str} (hg : Gl X "isinstance") (hm : X.mg "isinstance" = none) (hgt : Gl X t) (hmt : X.mg t = none) (hbt : bootBuiltins t = some (.type T)) (he : SE X W e ra)
    (hn : t ≠ "__name__" := by decide) (hd : (t == ("__debug__" : Str)) = false := by decide)
    (hs1 : starEach [e, .Name t p2] X.env = (false, eval e X.env) :: starEach [.Name t p2] X.env := by rfl) (hs2 : starEach [.Name t p2] X.env = (false, eval (.Name t p2) X.env) :: starEach [] X.env := by rfl) (hpl : (backTo pos (starEach [.Name t p2] X.env)).any (·.1) = false := by rfl) :
    SE X W (.Call (.Name "isinstance" p) [e, .Name t p2] [] pos) (eUn (isiD T) ra) :=
  PE.imp (pe_callB call_isi hg hm (by decide +kernel) (pa_cons he (pa_cons (pe_bltn (v := .ty T) hgt hmt hbt rfl hn hd) pa_nil hs2) hs1) (by decide) (by decide) hs1 hpl) fun σ H Q ⟨μ, ρ, S, hS, hE, h⟩ =>
    (bnd hS hE h).mono fun v H1 ⟨μ1, S1, d, hS1, hE1, s1, rv, h1⟩ => by
      unfold isiD at h1
      split at h1
      · rename_i b hb
        obtain ⟨a, e1, e2⟩ := Option.bind_eq_some_iff.mp hb
        refine ⟨v, .ty T, .type a, .type T, b, rfl, .ty T, tyN_rep hS1 rv e1, kit_ty ?_, h1.ok hS1 (.bl _)⟩
        unfold isiB at e2
        split at e2
        · rename_i hm; rw [← e2]; exact kit_all a hm.1 T hm.2
        · cases e2
      · exact h1.elim
/-! ### chains, signs -/
def eChain (f g : Dv → Dv → Sto → Out Dv) (a b c : RE) : RE := fun ρ S => (a ρ S).bind fun x S1 => (b ρ S1).bind fun y S2 => (f x y S2).bind fun z S3 => match z with
  | .bl true => (c ρ S3).bind fun w S4 => g y w S4
  | .bl false => .ok (.bl false) S3
  | _ => .no
theorem bnd3 {rf rg : R2} {f g : Dv → Dv → Sto → Out Dv} {rb rc : RE} (hf : Op2 X.K f rf) (hg : Op2 X.K g rg) {σ : L2.St} {H : Hp} {Q : VK} (h : tG (Rep X.K) X.K X.mg W (eChain f g ra rb rc) σ H Q) :
    tChain rf rg (tG (Rep X.K) X.K X.mg W ra) (tG (Rep X.K) X.K X.mg W rb) (tG (Rep X.K) X.K X.mg W rc) σ H Q := by
  obtain ⟨μ, ρ, S, hS, hE, h⟩ := h
  refine (bnd hS hE h).mono fun x H1 ⟨μ1, S1, d, hS1, hE1, s1, rx, h1⟩ => ?_
  refine (bnd hS1 hE1 h1).mono fun y H2 ⟨μ2, S2, d2, hS2, hE2, s2, ry, h2⟩ => ?_
  obtain ⟨μ3, ρ3, S3, hS3, hE3, h3⟩ := bnd (r := fun ρ S => f d d2 S) (R1 := Rep X.K) hS2 hE2 h2
  refine hf X.mg (W.at σ) μ2 H2 S2 x y d d2 _ hS2 (rx.step s2) ry ?_
  cases q : f d d2 S2 with
  | no => rw [q] at h2; exact h2.elim
  | ex x S => rw [q] at h2; exact h2
  | ok z S3 =>
    rw [q] at h2
    intro μ3 H3 zv hS3 s3 rz
    have h3 := Met.step s3 h2
    simp only [Out.bind_ok] at h3
    cases rz <;> first | exact h3.elim | skip
    rename_i k
    refine ⟨k, rfl, ?_⟩
    cases k with
    | false => exact Met.ok (RP := Rep X.K) h3 hS3 (.bl _)
    | true =>
      have hE3 := (hE2.step s3)
      exact (bnd hS3 hE3 h3).mono fun w H4 ⟨μ4, S4, d4, hS4, hE4, s4, rw4, h4⟩ => hg _ _ μ4 H4 S4 y w d2 d4 Q hS4 ((ry.step s3).step s4) rw4 h4
theorem se_chain {op op' : CmpOp} {rf rg : R2} {f g : Dv → Dv → Sto → Out Dv} {a b c : Expr} {rb rc : RE} (ho : OpR X (compareOp op) rf) (hf : Op2 X.K f rf) (ho' : OpR X (compareOp op') rg) (hg : Op2 X.K g rg) (ha : SE X W a ra) (hb : SE X W b rb) (hc : SE X W c rc)
    (hm : lastMarks [op, op'] [b, c] = false := by with_unfolding_all rfl) : SE X W (.Compare a [op, op'] [b, c] pos) (eChain f g ra rb rc) :=
  PE.imp (pe_chain ho ho' ha hb hc hm) fun _ _ _ h => bnd3 hf hg h
theorem st_chain {op op' : CmpOp} {rf rg : R2} {f g : Dv → Dv → Sto → Out Dv} {a b c : Expr} {rb rc : RE} (ho : OpR X (compareOp op) rf) (hf : Op2 X.K f rf) (ho' : OpR X (compareOp op') rg) (hg : Op2 X.K g rg) (ha : SE X W a ra) (hb : SE X W b rb) (hc : SE X W c rc)
    (hm : lastMarks [op, op'] [b, c] = false := by with_unfolding_all rfl) : ST X W (.Compare a [op, op'] [b, c] pos) (cBl (eChain f g ra rb rc)) :=
  PT.imp (pt_chain ho ho' ha hb hc hm) fun σ H Q ⟨μ, ρ, S, hS, hE, h⟩ => bnd3 hf hg ((bnd hS hE h).mono fun v H1 ⟨μ1, S1, d, hS1, hE1, s1, rv, h1⟩ => bTrue_met hS1 rv h1)
theorem se_neg (h : SE X W e ra) : SE X W (.UnaryOp .USub e pos) (eUn negD ra) :=
  PE.imp (pe_un un_neg h) fun σ H Q ⟨μ, ρ, S, hS, hE, h⟩ => (bnd hS hE h).mono fun v H1 ⟨μ1, S1, d, hS1, hE1, s1, rv, h1⟩ => by
    cases rv <;> first | exact h1.elim | exact ⟨_, rfl, Met.ok (RP := Rep X.K) h1 hS1 (.int _)⟩
end
end PL

namespace PL
open PySem PySem.Spec PyProof.Rows L2

/-! ### methods -/
def tyQ (T : String) (d : Dv) (S : Sto) : Bool := match d with
  | .str _ => T == "str"
  | .fl _ => T == "list"
  | .ref l => match S[l]? with
    | some (.lst _) => T == "list"
    | some (.dk _) => T == "dict"
    | some (.dt _) => T == "dict"
    | none => false
  | _ => false
def eMeth (T : String) (f : Dv → List Dv → Sto → Out Dv) (o : RE) (a : RA) : RE := fun ρ S => (o ρ S).bind fun d S1 => if tyQ T d S1 = true then (a ρ S1).bind fun ds S2 => f d ds S2 else .no
def lmap (d : Dv) (S : Sto) (f : Nat → List Dv → Out Dv) : Out Dv := match d with
  | .ref l => match S[l]? with
    | some (.lst xs) => f l xs
    | _ => .no
  | _ => .no
def appendD (d : Dv) (ds : List Dv) (S : Sto) : Out Dv := match ds with
  | [y] => lmap d S fun l xs => if xs.length < sizeLine then .ok .non (S.set l (.lst (xs ++ [y]))) else .no
  | _ => .no
noncomputable def popD (d : Dv) (ds : List Dv) (S : Sto) : Out Dv := match ds with
  | [] => lmap d S fun l xs => match xs[xs.length - 1]? with
    | some y => .ok y (S.set l (.lst xs.dropLast))
    | none => .no
  | [.int i] => lmap d S fun l xs => @ite _ (-(2 ^ 63) ≤ i ∧ i < 2 ^ 63) (Classical.propDecidable _) (match seqIndex? i xs.length with
    | some k => match xs[k]? with
      | some y => .ok y (S.set l (.lst (xs.eraseIdx k)))
      | none => .no
    | none => .no) .no
  | _ => .no
def extendD (d : Dv) (ds : List Dv) (S : Sto) : Out Dv := match ds with
  | [e] => lmap d S fun l xs => match e with
    | .ref m => match S[m]? with
      | some (.lst zs) => if xs.length + zs.length ≤ sizeLine then .ok .non (S.set l (.lst (xs ++ zs))) else .no
      | _ => .no
    | _ => .no
  | _ => .no
def clearD (d : Dv) (ds : List Dv) (S : Sto) : Out Dv := match ds with
  | [] => lmap d S fun l _ => .ok .non (S.set l (.lst []))
  | _ => .no
noncomputable def insertD (d : Dv) (ds : List Dv) (S : Sto) : Out Dv := match ds with
  | [.int i, y] => lmap d S fun l xs => @ite _ (xs.length < sizeLine ∧ 0 ≤ i ∧ i < 2 ^ 63) (Classical.propDecidable _) (.ok .non (S.set l (.lst (xs.take i.toNat ++ [y] ++ xs.drop i.toNat)))) .no
  | _ => .no
def joinD (d : Dv) (ds : List Dv) (S : Sto) : Out Dv := match d, ds with
  | .str a, [e] => match (seqOf S e).bind strsOf with
    | some ys => if (ys.map (·.length)).sum + ys.length * a.length ≤ 16777216 then .ok (.str (Txt.join a ys)) S else .no
    | none => .no
  | _, _ => .no
def splitD (d : Dv) (ds : List Dv) (S : Sto) : Out Dv := match d, ds with
  | .str a, [.str b] => if (b.length == 0) = false ∧ a.length + 2 ≤ sizeLine then newL ((Txt.split a b).map .str) S else .no
  | _, _ => .no
def getD2 (d : Dv) (ds : List Dv) (S : Sto) : Out Dv := match ds with
  | [k, x] => match dget S d k with
    | some (some y) => .ok y S
    | some none => .ok x S
    | none => .no
  | _ => .no
section
variable {X : Cx} {K : PySem.W.Frag} {W : WX} {o e f : Expr} {es : List Expr} {ra rb rc : RE} {rs : RA} {apos cpos pos p : Pos}
theorem tyQ_rep {T : String} {μ : List Addr} {H : Hp} {S : Sto} {v : V} {d : Dv} (hS : SimS K μ S H) (r : Rep K μ H v d) (h : tyQ T d S = true) : tyV K T v H := by
  cases r with
  | str x => exact eq_of_beq h
  | fl t l q =>
    rcases t with ⟨⟨o, t⟩, _⟩ | t
    · exact .inl ⟨eq_of_beq h, _, .inl (.inr ⟨o, t⟩)⟩
    · exact .inl ⟨eq_of_beq h, _, .inr t⟩
  | ref hl =>
    simp only [tyQ] at h
    split at h
    · rename_i ds e; obtain ⟨ws, e1, _⟩ := hS.at' e hl; exact .inl ⟨eq_of_beq h, ws, .of e1⟩
    · rename_i ds e; obtain ⟨ws, e1, _⟩ := hS.at' e hl; exact .inr (.inr (.inl ⟨eq_of_beq h, .inl ⟨ws, e1⟩⟩))
    · rename_i ds e; obtain ⟨ws, e1, _⟩ := hS.at' e hl; exact .inr (.inr (.inl ⟨eq_of_beq h, .inr ⟨ws, e1⟩⟩))
    · cases h
  | _ => simp [tyQ] at h
theorem se_meth {T id : String} {name : Str} {g : Dv → List Dv → Sto → Out Dv} {r : V → List V → Hp → VK → Prop} (pa : PlainAttrs T) (slot : Slot T name id) (hty : typeOf (.builtin id) = pure (.type "method_descriptor")) (hm : MtR X id r) (hf : OpM X.K g r)
    (ho : SE X W o ra) (ha : SA X W (e :: es) rs) (hbase : attributeBase o name X.env (eval o X.env) = eval o X.env := by rfl)
    (hfew : ((backTo cpos (starEach (e :: es) X.env)).all (fun x => !x.1) && (backToKw cpos (keywordEach [] X.env)).all (fun x => x.1.isSome)
      && decide ((e :: es).length + ([] : List Keyword).length + (if ([] : List Keyword).isEmpty then 0 else 1) < 30)) = true := by rfl)
    (hline : (apos.endLine == cpos.line) = true := by rfl) (hs : starEach (e :: es) X.env = (false, eval e X.env) :: starEach es X.env := by rfl) (hplain : (backTo cpos (starEach es X.env)).any (·.1) = false := by rfl) :
    SE X W (.Call (.Attribute o name apos) (e :: es) [] cpos) (eMeth T g ra rs) :=
  PE.imp (pe_bm pa slot hty hm ho ha hbase hfew hline hs hplain) fun σ H Q ⟨μ, ρ, S, hS, hE, h⟩ => (bnd hS hE h).mono fun v H1 ⟨μ1, S1, d, hS1, hE1, s1, rv, h1⟩ => by
    split at h1
    · rename_i hq
      exact ⟨tyQ_rep hS1 rv hq, (bnd (R1 := Reps X.K) hS1 hE1 h1).mono fun vs H2 ⟨μ2, S2, ds, hS2, hE2, s2, rvs, h2⟩ => hf _ _ μ2 H2 S2 v vs d ds Q hS2 (rv.step s2) rvs h2⟩
    · exact h1.elim
theorem se_meth0 {T id : String} {name : Str} {g : Dv → List Dv → Sto → Out Dv} {r : V → List V → Hp → VK → Prop} (pa : PlainAttrs T) (slot : Slot T name id) (hty : typeOf (.builtin id) = pure (.type "method_descriptor")) (hm : MtR X id r) (hf : OpM X.K g r)
    (ho : SE X W o ra) (hbase : attributeBase o name X.env (eval o X.env) = eval o X.env := by rfl) (hline : (apos.endLine == cpos.line) = true := by rfl) :
    SE X W (.Call (.Attribute o name apos) [] [] cpos) (eMeth T g ra aNil) :=
  PE.imp (pe_bm0 pa slot hty hm ho hbase hline) fun σ H Q ⟨μ, ρ, S, hS, hE, h⟩ => (bnd hS hE h).mono fun v H1 ⟨μ1, S1, d, hS1, hE1, s1, rv, h1⟩ => by
    split at h1
    · rename_i hq
      exact ⟨tyQ_rep hS1 rv hq, hf _ _ μ1 H1 S1 v [] d [] Q hS1 rv .nil h1⟩
    · exact h1.elim
theorem lmap_met {mg : Str → Option Value} {Wx : Value → Option Addr → Hp → Prop} {μ : List Addr} {H : Hp} {S : Sto} {x : V} {d : Dv} {Q : VK} {g : Nat → List Dv → Out Dv} (hS : SimS K μ S H) (r : Rep K μ H x d) (h : Met (Rep K) K mg Wx μ H (lmap d S g) Q) :
    ∃ l a xs vs, x = .ref a ∧ μ[l]? = some a ∧ S[l]? = some (.lst xs) ∧ H a = some (.lst vs) ∧ Reps K μ H vs xs ∧ Met (Rep K) K mg Wx μ H (g l xs) Q := by
  unfold lmap at h
  split at h
  · rename_i l
    cases r with
    | ref hl =>
      split at h
      · rename_i xs e
        obtain ⟨vs, e1, rr⟩ := hS.at' e hl
        exact ⟨l, _, xs, vs, rfl, hl, e, e1, rr, h⟩
      · exact h.elim
  · exact h.elim
theorem putL {mg : Str → Option Value} {Wx : Value → Option Addr → Hp → Prop} {μ : List Addr} {H : Hp} {S : Sto} {l : Nat} {a : Addr} {d : Dv} {v : V} {ys : List Dv} {ws : List V} {Q : VK} (h : Met (Rep K) K mg Wx μ H (.ok d (S.set l (.lst ys))) Q) (hS : SimS K μ S H) (hl : μ[l]? = some a)
    (r : Reps K μ H ws ys) (rv : Rep K μ H v d) : Q v (upd H a (.lst ws)) := h.put hS hl ⟨ws, upd_same, r.step (step_put hS hl _)⟩ (rv.step (step_put hS hl _))
theorem o_append : OpM K appendD rAppend := by
  intro mg Wx μ H S x vs d ds Q hS rx rs h
  unfold appendD at h
  split at h
  · obtain ⟨y, rfl, ry⟩ := rs.get1
    obtain ⟨l, a, xs, us, rfl, hl, e, e1, rr, h⟩ := lmap_met hS rx h
    split at h
    · rename_i hz
      exact ⟨a, us, y, rfl, rfl, e1, by rw [rr.1]; exact hz, putL h hS hl (rr.append (.one ry)) .non⟩
    · exact h.elim
  · exact h.elim
theorem Reps.dropLast {μ : List Addr} {H : Hp} {vs : List V} {ds : List Dv} (r : Reps K μ H vs ds) : Reps K μ H vs.dropLast ds.dropLast := by
  rw [List.dropLast_eq_take, List.dropLast_eq_take, r.1]
  exact r.take _
theorem Reps.erase {μ : List Addr} {H : Hp} {vs : List V} {ds : List Dv} (r : Reps K μ H vs ds) (k : Nat) : Reps K μ H (vs.eraseIdx k) (ds.eraseIdx k) := by
  rw [List.eraseIdx_eq_take_drop_succ, List.eraseIdx_eq_take_drop_succ]
  exact (r.take _).append (r.drop _)
theorem o_pop : OpM K popD (fun x vs H Q => rPop x vs H Q ∨ rPopAt x vs H Q) := by
  intro mg Wx μ H S x vs d ds Q hS rx rs h
  unfold popD at h
  split at h
  · cases rs.un0
    obtain ⟨l, a, xs, us, rfl, hl, e, e1, rr, h⟩ := lmap_met hS rx h
    split at h
    · rename_i y ey
      obtain ⟨v, ev, rv⟩ := rr.get ey
      exact .inl ⟨a, us, v, rfl, rfl, e1, by rw [rr.1]; exact ev, putL h hS hl rr.dropLast rv⟩
    · exact h.elim
  · obtain ⟨y, rfl, ry⟩ := rs.get1
    cases ry
    obtain ⟨l, a, xs, us, rfl, hl, e, e1, rr, h⟩ := lmap_met hS rx h
    split at h
    · rename_i hz
      split at h
      · rename_i k ek
        split at h
        · rename_i y ey
          obtain ⟨v, ev, rv⟩ := rr.get ey
          exact .inr ⟨a, us, _, k, v, rfl, rfl, e1, hz.1, hz.2, by rw [rr.1]; exact ek, ev, putL h hS hl (rr.erase k) rv⟩
        · exact h.elim
      · exact h.elim
    · exact h.elim
  · exact h.elim
theorem mt_popAll : MtR X "list.pop" (fun x vs H Q => rPop x vs H Q ∨ rPopAt x vs H Q) := MtR.or mt_pop mt_popAt
theorem o_extend : OpM K extendD rExtend := by
  intro mg Wx μ H S x vs d ds Q hS rx rs h
  unfold extendD at h
  split at h
  · obtain ⟨y, rfl, ry⟩ := rs.get1
    obtain ⟨l, a, xs, us, rfl, hl, e, e1, rr, h⟩ := lmap_met hS rx h
    split at h
    · cases ry with
      | ref hm =>
        split at h
        · rename_i zs e2
          obtain ⟨ws, e3, r3⟩ := hS.at' e2 hm
          split at h
          · rename_i hz
            exact ⟨a, _, us, ws, rfl, rfl, e1, e3, by rw [rr.1, r3.1]; exact hz, putL h hS hl (rr.append r3) .non⟩
          · exact h.elim
        · exact h.elim
    · exact h.elim
  · exact h.elim
theorem o_clear : OpM K clearD rClear := by
  intro mg Wx μ H S x vs d ds Q hS rx rs h
  unfold clearD at h
  split at h
  · cases rs.un0
    obtain ⟨l, a, xs, us, rfl, hl, e, e1, rr, h⟩ := lmap_met hS rx h
    exact ⟨a, us, rfl, rfl, e1, putL h hS hl .nil .non⟩
  · exact h.elim
theorem o_insert : OpM K insertD (fun x vs H Q => ∃ (l : Addr) (xs : List V) (i : Int) (y : V), x = .ref l ∧ vs = [.int i, y] ∧ H l = some (.lst xs) ∧ xs.length < sizeLine ∧ 0 ≤ i ∧ i < 2 ^ 63 ∧ Q .non (upd H l (.lst (xs.take i.toNat ++ [y] ++ xs.drop i.toNat)))) := by
  intro mg Wx μ H S x vs d ds Q hS rx rs h
  unfold insertD at h
  split at h
  · obtain ⟨i, y, rfl, ri, ry⟩ := rs.get2
    cases ri
    obtain ⟨l, a, xs, us, rfl, hl, e, e1, rr, h⟩ := lmap_met hS rx h
    split at h
    · rename_i hz
      exact ⟨a, us, _, y, rfl, rfl, e1, by rw [rr.1]; exact hz.1, hz.2.1, hz.2.2, putL h hS hl (((rr.take _).append (.one ry)).append (rr.drop _)) .non⟩
    · exact h.elim
  · exact h.elim
theorem reps_strs {μ : List Addr} {H : Hp} : ∀ ys : List Str, Reps K μ H (ys.map V.str) (ys.map Dv.str)
  | [] => .nil
  | y :: ys => (reps_strs ys).cons (.str y)
theorem o_join : OpM K joinD (fun x xs H Q => ∃ a p, ∃ ys : List Str, x = .str a ∧ xs = [.ref p] ∧ (SqL K H p (ys.map V.str) ∨ SqT K H p (ys.map V.str)) ∧ (ys.map (·.length)).sum + ys.length * a.length ≤ 16777216 ∧ Q (.str (Txt.join a ys)) H) := by
  intro mg Wx μ H S x vs d ds Q hS rx rs h
  unfold joinD at h
  split at h
  · cases rx
    obtain ⟨y, rfl, ry⟩ := rs.get1
    split at h
    · rename_i ys e
      obtain ⟨es, e1, e2⟩ := Option.bind_eq_some_iff.mp e
      obtain ⟨a, us, rfl, hq, rr⟩ := seq_rep hS ry e1
      cases strsOf_rep rr e2
      split at h
      · rename_i hz; exact ⟨_, a, ys, rfl, rfl, hq, hz, h.ok hS (.str _)⟩
      · exact h.elim
    · exact h.elim
  · exact h.elim
theorem o_split : OpM K splitD (fun x xs H Q => ∃ a b, x = .str a ∧ xs = [.str b] ∧ (b.length == 0) = false ∧ a.length + 2 ≤ sizeLine ∧ rNewStrs (Txt.split a b) H Q) := by
  intro mg Wx μ H S x vs d ds Q hS rx rs h
  unfold splitD at h
  split at h
  · cases rx
    obtain ⟨y, rfl, ry⟩ := rs.get1
    cases ry
    split at h
    · rename_i hz; exact ⟨_, _, rfl, rfl, hz.1, hz.2, fun p n => h.lst hS n (reps_strs _)⟩
    · exact h.elim
  · exact h.elim
/-- o.get(k, x) -/
def eGet2 (o k x : RE) : RE := fun ρ S => (o ρ S).bind fun d S1 => if tyQ "dict" d S1 = true then (k ρ S1).bind fun y S2 => (x ρ S2).bind fun z S3 => getD2 d [y, z] S3 else .no
theorem se_get2 (hu : X.A.units + 1 < cLine) (ho : SE X W o ra) (he : SE X W e rb) (hf : SE X W f rc) (m : M2 X o "get" apos e f cpos) : SE X W (.Call (.Attribute o "get" apos) [e, f] [] cpos) (eGet2 ra rb rc) :=
  PE.imp (pe_dget2 hu ho he hf m) fun σ H Q ⟨μ, ρ, S, hS, hE, h⟩ => (bnd hS hE h).mono fun v H1 ⟨μ1, S1, d, hS1, hE1, s1, rv, h1⟩ => by
    split at h1
    · rename_i hq
      have ty := tyQ_rep hS1 rv hq
      cases rv with
      | @ref l a hl =>
        refine ⟨a, rfl, ?_, ?_⟩
        · rcases ty with ⟨z, _⟩ | ⟨z, _⟩ | ⟨_, ⟨kvs, z⟩ | ⟨kvs, z⟩⟩ | ⟨z, _⟩
          · simp at z
          · simp at z
          · exact .inl ⟨kvs, .inl z⟩
          · exact .inr ⟨kvs, .inl z⟩
          · simp at z
        · refine (bnd hS1 hE1 h1).mono fun y H2 ⟨μ2, S2, d2, hS2, hE2, s2, ry, h2⟩ => ?_
          refine (bnd hS2 hE2 h2).mono fun z H3 ⟨μ3, S3, d3, hS3, hE3, s3, rz, h3⟩ => ?_
          unfold getD2 at h3
          simp only at h3
          have rl : Rep X.K μ3 H3 (.ref a) (.ref l) := (Rep.ref hl).step (s2.trans s3)
          split at h3
          · rename_i y' e1
            obtain ⟨a', u, ex, g, hh⟩ := dget_rep hS3 rl (ry.step s3) e1
            cases ex
            rcases hh with ⟨w, _⟩ | ⟨d', v', e2, e3, r⟩
            · cases w
            · cases e2; subst e3; exact ⟨_, g, h3.ok hS3 r⟩
          · rename_i e1
            obtain ⟨a', u, ex, g, hh⟩ := dget_rep hS3 rl (ry.step s3) e1
            cases ex
            rcases hh with ⟨_, w⟩ | ⟨d', v', e2, e3, r⟩
            · subst w; exact ⟨_, g, h3.ok hS3 rz⟩
            · cases e2
          · exact h3.elim
      | str x => simp [tyQ] at hq
      | fl t l q => simp [tyQ] at hq
      | _ => simp [tyQ] at hq
    · exact h1.elim
/-! ### dicts made -/
def eNewK : RE := fun _ S => .ok (.ref S.length) (S ++ [.dk []])
def eNewT : RE := fun _ S => .ok (.ref S.length) (S ++ [.dt []])
theorem se_newK : SE X W (.Dict [] [] pos) eNewK := PE.imp pe_dnewK fun σ H Q ⟨μ, ρ, S, hS, hE, h⟩ p n => Met.new (o := .dk []) h hS n ⟨[], upd_same, rfl, .nil⟩
theorem se_newT : SE X W (.Dict [] [] pos) eNewT := PE.imp pe_dnewT fun σ H Q ⟨μ, ρ, S, hS, hE, h⟩ p n => Met.new (o := .dt []) h hS n ⟨[], upd_same, rfl, .nil⟩
/-! ### own defs -/
def spD (K : PySem.W.Frag) (mg : Str → Option Value) (F : List Dv → Sto → Out Dv) (n : Nat) : Sp := fun vs H Q E => ∃ μ S ds, ds.length = n ∧ SimS K μ S H ∧ Reps K μ H vs ds ∧ Met (Rep K) K mg E μ H (F ds S) Q
def eOwn (n : Nat) (F : List Dv → Sto → Out Dv) (a : RA) : RE := fun ρ S => (a ρ S).bind fun ds S1 => if ds.length = n then F ds S1 else .no
theorem se_own {CX : CXT} {k n : Nat} {fa : Addr} {fd : FuncData} {ps : List Str} {x : Str} {F : List Dv → Sto → Out Dv} (G : FnOk X.prog X.w X.K X.mg X.base CX k fa fd ps (spD X.K X.mg F n)) (hr : Room k X.A) (hg : Gl X x) (hm : X.mg x = some (.ref fa)) (hk : PySem.W.keepIn X.K (.ref fa) = true)
    (hb : Binds X.K fd ps []) (hx : ∀ σ, PassesAt CX X σ (W.at σ)) (ha : SA X W (e :: es) rs) (hdb : (x == ("__debug__" : Str)) = false := by decide) (he : starEach (e :: es) X.env = (false, eval e X.env) :: starEach es X.env := by rfl) (hpl : (backTo pos (starEach es X.env)).any (·.1) = false := by rfl) :
    SE X W (.Call (.Name x p) (e :: es) [] pos) (eOwn n F rs) :=
  PE.imp (pe_callSD (E := fun σ => W.at σ) G hr hg hm hk hb .nil hx ha hdb he hpl) fun σ H Q ⟨μ, ρ, S, hS, hE, h⟩ => (bnd (R1 := Reps X.K) hS hE h).mono fun vs H1 ⟨μ1, S1, ds, hS1, hE1, s1, rv, h1⟩ => by
    split at h1
    · rename_i hn
      rw [List.append_nil]
      exact ⟨μ1, S1, ds, hn, hS1, rv, h1⟩
    · exact h1.elim
theorem se_own0 {CX : CXT} {k : Nat} {fa : Addr} {fd : FuncData} {ps : List Str} {x : Str} {F : List Dv → Sto → Out Dv} (G : FnOk X.prog X.w X.K X.mg X.base CX k fa fd ps (spD X.K X.mg F 0)) (hr : Room k X.A) (hg : Gl X x) (hm : X.mg x = some (.ref fa)) (hk : PySem.W.keepIn X.K (.ref fa) = true)
    (hb : Binds X.K fd ps []) (hx : ∀ σ, PassesAt CX X σ (W.at σ)) (hdb : (x == ("__debug__" : Str)) = false := by decide) : SE X W (.Call (.Name x p) [] [] pos) (eOwn 0 F aNil) := by
  refine ⟨fun pins s σ H Q I ⟨μ, ρ, S, hS, hE, h⟩ => ?_⟩
  refine wpAny_Call_Name_kw (ld_glob I hg hm ?_ hdb)
  exact PySem.W.callWith_K0 I.kIn hk (run_fnSD (dvs := []) (ds := []) (E := fun σ => W.at σ) (us := []) G hr hb .nil (hx σ) I .nil ⟨μ, S, [], rfl, hS, .nil, h⟩)
end
end PL

namespace PL
open PySem PySem.Spec PyProof.Rows L2

/-! ### statements: outcomes -/
inductive Fl where
  | nx (ρ : Env) | rt (d : Dv) | bk (ρ : Env) | ct (ρ : Env)
inductive OutS where
  | fl (f : Fl) (S : Sto) | ex (x : Ex) (ρ : Env) (S : Sto) | no
abbrev RC := Env → Sto → OutS
def MetS (K : PySem.W.Frag) (mg : Str → Option Value) (W : WX) (μ : List Addr) (H : Hp) (o : OutS) (D : Ends) : Prop :=
  match o with
  | .fl (.nx ρ') S' => ∀ μ' σ' H', SimS K μ' S' H' → SimE K μ' H' ρ' σ' → Step μ H μ' H' → D.nx σ' H'
  | .fl (.rt d) S' => ∀ μ' v H', SimS K μ' S' H' → Step μ H μ' H' → Rep K μ' H' v d → D.rt v H'
  | .fl (.bk ρ') S' => ∀ μ' σ' H', SimS K μ' S' H' → SimE K μ' H' ρ' σ' → Step μ H μ' H' → D.bk σ' H'
  | .fl (.ct ρ') S' => ∀ μ' σ' H', SimS K μ' S' H' → SimE K μ' H' ρ' σ' → Step μ H μ' H' → D.ct σ' H'
  | .ex x ρ' S' => ∀ μ' σ' H' cls d, SimS K μ' S' H' → SimE K μ' H' ρ' σ' → Step μ H μ' H' → XRep K mg μ' H' x cls d → W cls d σ' H'
  | .no => False
def tS (K : PySem.W.Frag) (mg : Str → Option Value) (W : WX) (c : RC) : TS := fun D σ H => ∃ μ ρ S, SimS K μ S H ∧ SimE K μ H ρ σ ∧ MetS K mg W μ H (c ρ S) D
abbrev SC (X : Cx) (W : WX) (st : Stmt) (c : RC) : Prop := PS X st (tS X.K X.mg W c)
abbrev SCs (X : Cx) (W : WX) (st : List Stmt) (c : RC) : Prop := PSs X st (tS X.K X.mg W c)
theorem PS.imp {X : Cx} {e : Stmt} {t t' : TS} (h : PS X e t) (i : ∀ D σ H, t' D σ H → t D σ H) : PS X e t' := ⟨fun pins s σ H D I w => h.run pins s σ H D I (i D σ H w)⟩
theorem PSs.imp {X : Cx} {e : List Stmt} {t t' : TS} (h : PSs X e t) (i : ∀ D σ H, t' D σ H → t D σ H) : PSs X e t' := ⟨fun pins s σ H D I w => h.run pins s σ H D I (i D σ H w)⟩
section
variable {K : PySem.W.Frag} {mg : Str → Option Value} {W : WX} {μ μ1 : List Addr} {H H1 : Hp} {ρ : Env} {σ : L2.St} {S : Sto} {D D' : Ends}
theorem MetS.step {o : OutS} (s : Step μ H μ1 H1) (h : MetS K mg W μ H o D) : MetS K mg W μ1 H1 o D := by
  cases o with
  | fl f S' =>
    cases f with
    | nx ρ' => exact fun μ' σ' H' a b c => h μ' σ' H' a b (s.trans c)
    | rt d => exact fun μ' σ' H' a b c => h μ' σ' H' a (s.trans b) c
    | bk ρ' => exact fun μ' σ' H' a b c => h μ' σ' H' a b (s.trans c)
    | ct ρ' => exact fun μ' σ' H' a b c => h μ' σ' H' a b (s.trans c)
  | ex x ρ' S' => exact fun μ' σ' H' cl dd a b c d => h μ' σ' H' cl dd a b (s.trans c) d
  | no => exact h
def bindS {α : Type} (o : Out α) (ρ : Env) (f : α → Sto → OutS) : OutS := match o with
  | .ok a S => f a S
  | .ex x S => .ex x ρ S
  | .no => .no
@[simp] theorem bindS_ok {α : Type} (a : α) (S : Sto) (ρ : Env) (f : α → Sto → OutS) : bindS (.ok a S) ρ f = f a S := rfl
@[simp] theorem bindS_ex {α : Type} (x : Ex) (S : Sto) (ρ : Env) (f : α → Sto → OutS) : bindS (.ex x S : Out α) ρ f = .ex x ρ S := rfl
@[simp] theorem bindS_no {α : Type} (ρ : Env) (f : α → Sto → OutS) : bindS (.no : Out α) ρ f = .no := rfl
theorem bndS {α β : Type} {R1 : List Addr → Hp → β → α → Prop} {r : Env → Sto → Out α} {f : α → Sto → OutS} (hS : SimS K μ S H) (hE : SimE K μ H ρ σ)
    (h : MetS K mg W μ H (bindS (r ρ S) ρ f) D) : tG R1 K mg W r σ H (fun v H1 => ∃ μ1 S1 d, SimS K μ1 S1 H1 ∧ SimE K μ1 H1 ρ σ ∧ Step μ H μ1 H1 ∧ R1 μ1 H1 v d ∧ MetS K mg W μ1 H1 (f d S1) D) := by
  refine ⟨μ, ρ, S, hS, hE, ?_⟩
  cases q : r ρ S with
  | ok d S1 =>
    rw [q] at h
    exact fun μ1 H1 v a b c => ⟨μ1, S1, d, a, hE.step b, b, c, h.step b⟩
  | ex x S1 =>
    rw [q] at h
    exact fun μ1 H1 cl dd a b c => h μ1 σ H1 cl dd a (hE.step b) b c
  | no => rw [q] at h; exact h
end

/-! ### statements -/
def cNil : RC := fun ρ S => .fl (.nx ρ) S
def cSeq (a b : RC) : RC := fun ρ S => match a ρ S with
  | .fl (.nx ρ') S' => b ρ' S'
  | o => o
def cExpr (e : RE) : RC := fun ρ S => bindS (e ρ S) ρ fun _ S1 => .fl (.nx ρ) S1
def cSet (i : Nat) (e : RE) : RC := fun ρ S => bindS (e ρ S) ρ fun d S1 => .fl (.nx (ρ.set i (some d))) S1
def cRet (e : RE) : RC := fun ρ S => bindS (e ρ S) ρ fun d S1 => .fl (.rt d) S1
def cRetN : RC := fun ρ S => .fl (.rt .non) S
def cIf (t : RT) (a b : RC) : RC := fun ρ S => bindS (t ρ S) ρ fun c S1 => if c = true then a ρ S1 else b ρ S1
def cBrk : RC := fun ρ S => .fl (.bk ρ) S
def cCt : RC := fun ρ S => .fl (.ct ρ) S
def cNo : RC := fun _ _ => .no
inductive Tg where
  | nm (i : Nat) | tp (ts : List Tg)
mutual
def Tg.set : Tg → Dv → Env → Option Env
  | .nm i, d, ρ => some (ρ.set i (some d))
  | .tp ts, d, ρ => match tupOf d with
    | some ds => Tg.sets ts ds ρ
    | none => none
def Tg.sets : List Tg → List Dv → Env → Option Env
  | [], [], ρ => some ρ
  | t :: ts, d :: ds, ρ => match t.set d ρ with
    | some ρ' => Tg.sets ts ds ρ'
    | none => none
  | _, _, _ => none
def Tg.slots : Tg → List Nat
  | .nm i => [i]
  | .tp ts => Tg.slotss ts
def Tg.slotss : List Tg → List Nat
  | [] => []
  | t :: ts => t.slots ++ Tg.slotss ts
end
def cAsg (t : Tg) (e : RE) : RC := fun ρ S => bindS (e ρ S) ρ fun d S1 => match t.set d ρ with
  | some ρ' => .fl (.nx ρ') S1
  | none => .no
/-- o[k] = d -/
def putD (o k d : Dv) (S : Sto) : Option Sto := match o, k with
  | .ref l, .int i => match S[l]? with
    | some (.lst xs) => match ixN xs.length i with
      | some j => some (S.set l (.lst (xs.set j d)))
      | none => none
    | _ => dput S o k d
  | _, _ => dput S o k d
def cPut (o k v : RE) : RC := fun ρ S => bindS (v ρ S) ρ fun d S1 => bindS (o ρ S1) ρ fun x S2 => bindS (k ρ S2) ρ fun y S3 => match putD x y d S3 with
  | some S4 => .fl (.nx ρ) S4
  | none => .no
def cAug (i : Nat) (f : Dv → Dv → Sto → Out Dv) (e : RE) : RC := fun ρ S => bindS (eBin f (eVar i) e ρ S) ρ fun d S1 => .fl (.nx (ρ.set i (some d))) S1

section
variable {X : Cx} {W : WX} {e o k v : Expr} {re ro rk rv : RE} {rt : RT} {st : Stmt} {sts : List Stmt} {a b : RC} {pos pos' : Pos}
theorem scs_nil : SCs X W [] cNil := PSs.imp pss_nil fun D σ H ⟨μ, ρ, S, hS, hE, h⟩ => h μ σ H hS hE (.refl μ H)
theorem scs_cons (h : SC X W st a) (t : SCs X W sts b) : SCs X W (st :: sts) (cSeq a b) :=
  PSs.imp (pss_cons h t) fun D σ H ⟨μ, ρ, S, hS, hE, h⟩ => ⟨μ, ρ, S, hS, hE, by
    unfold cSeq at h
    cases q : a ρ S with
    | fl f S1 =>
      rw [q] at h
      cases f with
      | nx ρ1 => exact fun μ' σ' H' x y z => ⟨μ', ρ1, S1, x, y, h.step z⟩
      | rt d => exact h
      | bk ρ1 => exact h
      | ct ρ1 => exact h
    | ex x ρ1 S1 => rw [q] at h; exact h
    | no => rw [q] at h; exact h⟩
theorem scs_one (h : SC X W st a) : SCs X W [st] a := pss_one h
theorem sc_pass : SC X W (.Pass pos) cNil := PS.imp ps_pass fun D σ H ⟨μ, ρ, S, hS, hE, h⟩ => h μ σ H hS hE (.refl μ H)
theorem sc_break : SC X W (.Break pos) cBrk := PS.imp ps_break fun D σ H ⟨μ, ρ, S, hS, hE, h⟩ => h μ σ H hS hE (.refl μ H)
theorem sc_cont : SC X W (.Continue pos) cCt := PS.imp ps_continue fun D σ H ⟨μ, ρ, S, hS, hE, h⟩ => h μ σ H hS hE (.refl μ H)
theorem sc_never : SC X W st cNo := PS.imp ps_never fun D σ H ⟨μ, ρ, S, hS, hE, h⟩ => h
theorem sc_doc {x j} : SC X W (.Expr (.Constant (.str x) j pos) pos') cNil := PS.imp ps_doc fun D σ H ⟨μ, ρ, S, hS, hE, h⟩ => h μ σ H hS hE (.refl μ H)
theorem sc_expr (he : SE X W e re) (hs : swapsWith e none pos.line X.env = pure false := by rfl) : SC X W (.Expr e pos) (cExpr re) :=
  PS.imp (ps_expr he hs) fun D σ H ⟨μ, ρ, S, hS, hE, h⟩ => (bndS hS hE h).mono fun v H1 ⟨μ1, S1, d, hS1, hE1, s1, rv, h1⟩ => h1 μ1 σ H1 hS1 hE1 (.refl ..)
theorem sc_ret (he : SE X W e re) : SC X W (.Return (some e) pos) (cRet re) :=
  PS.imp (ps_ret he) fun D σ H ⟨μ, ρ, S, hS, hE, h⟩ => (bndS hS hE h).mono fun v H1 ⟨μ1, S1, d, hS1, hE1, s1, rv, h1⟩ => h1 μ1 v H1 hS1 (.refl ..) rv
theorem sc_retN : SC X W (.Return none pos) cRetN :=
  PS.imp ps_retN fun D σ H ⟨μ, ρ, S, hS, hE, h⟩ => h μ _ H hS (.refl ..) .non
theorem SimE.set {K : PySem.W.Frag} {μ : List Addr} {H : Hp} {ρ : Env} {σ : L2.St} {v : V} {d : Dv} (h : SimE K μ H ρ σ) (r : Rep K μ H v d) (i : Nat) : SimE K μ H (ρ.set i (some d)) (σ.set i (some v)) := by
  refine ⟨by rw [List.length_set, List.length_set, h.1], fun j e hj => ?_⟩
  by_cases hi : i = j
  · subst hi
    have hl : i < ρ.length := by have := (List.getElem?_eq_some_iff.mp hj).1; simpa using this
    rw [List.getElem?_set_self hl] at hj
    cases hj
    exact ⟨v, List.getElem?_set_self (by rw [← h.1]; exact hl), r⟩
  · rw [List.getElem?_set_ne hi] at hj
    obtain ⟨u, e1, r1⟩ := h.2 j e hj
    exact ⟨u, by rw [List.getElem?_set_ne hi]; exact e1, r1⟩
theorem sc_set {i : Nat} {x : Str} (hN : X.N.Nodup) (hi : X.N[i]? = some x) (hx : Loc X.env.scope x) (he : SE X W e re) (hs : swapsWith e (some (.Name x pos')) pos.line X.env = pure false := by rfl) (hf : X.fn x = true ∨ X.env.scope.names.lookup x = some .local := by first | exact .inl rfl | exact .inr rfl | assumption) :
    SC X W (.Assign [.Name x pos'] e pos) (cSet i re) :=
  PS.imp (ps_set hN hi hx he hs hf) fun D σ H ⟨μ, ρ, S, hS, hE, h⟩ => (bndS hS hE h).mono fun v H1 ⟨μ1, S1, d, hS1, hE1, s1, rv, h1⟩ => h1 μ1 _ H1 hS1 (hE1.set rv i) (.refl ..)
theorem sc_if {c : Expr} {as bs : List Stmt} (hc : ST X W c rt) (ha : SCs X W as a) (hb : SCs X W bs b) : SC X W (.If c as bs pos) (cIf rt a b) :=
  PS.imp (ps_if hc ha hb) fun D σ H ⟨μ, ρ, S, hS, hE, h⟩ => (bndS (R1 := RBool) hS hE h).mono fun v H1 ⟨μ1, S1, d, hS1, hE1, s1, rv, h1⟩ => by
    cases (show v = d from rv)
    cases v with
    | true => exact ⟨μ1, ρ, S1, hS1, hE1, h1⟩
    | false => exact ⟨μ1, ρ, S1, hS1, hE1, h1⟩
/-! ### targets -/
def tGt (K : PySem.W.Frag) (t : Tg) : TG := fun v σ H Q => ∃ μ ρ d ρ', SimE K μ H ρ σ ∧ Rep K μ H v d ∧ t.set d ρ = some ρ' ∧ ∀ σ', SimE K μ H ρ' σ' → σ'.length = σ.length → (∀ j, j ∉ t.slots → σ'[j]? = σ[j]?) → Q σ' H
def tGts (K : PySem.W.Frag) (ts : List Tg) : TGs := fun vs σ H Q => ∃ μ ρ ds ρ', SimE K μ H ρ σ ∧ Reps K μ H vs ds ∧ Tg.sets ts ds ρ = some ρ' ∧ ∀ σ', SimE K μ H ρ' σ' → σ'.length = σ.length → (∀ j, j ∉ Tg.slotss ts → σ'[j]? = σ[j]?) → Q σ' H
abbrev SG (X : Cx) (tg : Expr) (t : Tg) : Prop := PG X tg (tGt X.K t)
abbrev SGs (X : Cx) (tg : List Expr) (t : List Tg) : Prop := PGs X tg (tGts X.K t)
theorem sg_name {i : Nat} {x : Str} (hN : X.N.Nodup) (hi : X.N[i]? = some x) (hx : Loc X.env.scope x) (hf : X.fn x = true ∨ X.env.scope.names.lookup x = some .local := by first | exact .inl rfl | exact .inr rfl | assumption) : SG X (.Name x pos) (.nm i) :=
  ⟨fun pins s σ H v u Q I r ⟨μ, ρ, d, ρ', hE, rv, hs, h⟩ => (pg_name hN hi hx hf).run pins s σ H v u Q I r (by
    simp only [Tg.set, Option.some.injEq] at hs
    subst hs
    exact h _ (hE.set rv i) (by simp) fun j hj => List.getElem?_set_ne (by intro z; subst z; simp [Tg.slots] at hj))⟩
theorem sgs_nil : SGs X [] [] :=
  ⟨fun pins s σ H vs us Q I r ⟨μ, ρ, ds, ρ', hE, rv, hs, h⟩ => pgs_nil.run pins s σ H vs us Q I r (by
    cases ds with
    | nil =>
      simp only [Tg.sets, Option.some.injEq] at hs
      subst hs
      exact ⟨rv.un0, h σ hE rfl fun _ _ => rfl⟩
    | cons => simp [Tg.sets] at hs)⟩
theorem sgs_cons {es : List Expr} {t : Tg} {ts : List Tg} (h1 : SG X e t) (h2 : SGs X es ts) (hs : (assignEach (e :: es) X.env).map (·.2) = assign e X.env :: (assignEach es X.env).map (·.2) := by rfl) : SGs X (e :: es) (t :: ts) :=
  ⟨fun pins s σ H vs us Q I r ⟨μ, ρ, ds, ρ', hE, rv, hh, h⟩ => (pgs_cons h1 h2 hs).run pins s σ H vs us Q I r (by
    cases ds with
    | nil => simp [Tg.sets] at hh
    | cons d ds =>
      obtain ⟨v, ws, rfl, r1, r2⟩ := rv.uncons
      simp only [Tg.sets] at hh
      split at hh
      · rename_i ρ1 e1
        refine ⟨v, ws, rfl, μ, ρ, d, ρ1, hE, r1, e1, fun σ1 hE1 l1 n1 => ⟨μ, ρ1, ds, ρ', hE1, r2, hh, fun σ2 hE2 l2 n2 => h σ2 hE2 (l2.trans l1) fun j hj => ?_⟩⟩
        simp only [Tg.slotss, List.mem_append, not_or] at hj
        exact (n2 j hj.2).trans (n1 j hj.1)
      · cases hh)⟩
theorem sg_tup {es : List Expr} {k : Nat} {ts : List Tg} {n : Nat} (hc : X.calm = true) (h : SGs X es ts) (hl : ts.length = n) (hn : (assignEach es X.env).length = n := by rfl) (hst : (assignEach es X.env).findIdx? (·.1) = none := by rfl) : SG X (.Tuple es k pos) (.tp ts) :=
  ⟨fun pins s σ H v u Q I r ⟨μ, ρ, d, ρ', hE, rv, hh, hq⟩ => (pg_tup hc h hn hst).run pins s σ H v u Q I r (by
    simp only [Tg.set] at hh
    split at hh
    · rename_i ds e
      obtain ⟨a, vs, rfl, hq2, rr⟩ := rv.sqT e
      have len : ∀ (ts : List Tg) (ds : List Dv) (ρ ρ' : Env), Tg.sets ts ds ρ = some ρ' → ts.length = ds.length := by
        intro ts
        induction ts with
        | nil => intro ds ρ ρ' h; cases ds with | nil => rfl | cons => simp [Tg.sets] at h
        | cons t ts ih =>
          intro ds ρ ρ' h
          cases ds with
          | nil => simp [Tg.sets] at h
          | cons d ds =>
            simp only [Tg.sets] at h
            split at h
            · simp [ih _ _ _ h]
            · cases h
      exact ⟨a, vs, rfl, hq2, by rw [rr.1, ← len _ _ _ _ hh, hl], μ, ρ, ds, ρ', hE, rr, hh, hq⟩
    · cases hh)⟩
theorem sc_asg {tg : Expr} {t : Tg} (he : SE X W e re) (hg : SG X tg t) (hs : swapsWithSole [tg] e pos.line X.env = pure false := by rfl) (hw : swappedStores [tg] e X.env = pure none := by rfl)
    (h1 : (assignEach [tg] X.env).map (·.2) = [assign tg X.env] := by rfl) : SC X W (.Assign [tg] e pos) (cAsg t re) :=
  PS.imp (ps_asg he hg hs hw h1) fun D σ H ⟨μ, ρ, S, hS, hE, h⟩ => (bndS hS hE h).mono fun v H1 ⟨μ1, S1, d, hS1, hE1, s1, rv, h1⟩ => by
    split at h1
    · rename_i ρ' e1
      exact ⟨μ1, ρ, d, ρ', hE1, rv, e1, fun σ' hE' _ _ => h1 μ1 σ' H1 hS1 hE' (.refl ..)⟩
    · exact h1.elim
abbrev rSetD : TSet := fun o i v H Q => ∃ a H', o = .ref a ∧ DPut H a i v H' ∧ Q H'
theorem set_all (hu : X.A.units + 1 < cLine) : PSet X (fun o i v H Q => rSetL o i v H Q ∨ rSetD o i v H Q) := by
  intro pins s σ H o i v ov iv u Q I ro ri rv h
  rcases h with h | ⟨a, H', rfl, g, q⟩
  · exact set_list pins s σ H o i v ov iv u Q I ro ri rv h
  · obtain rfl : ov = Value.ref a := ro
    exact d_setItem hu I g ri rv fun s' I' => ⟨H', I', q⟩
theorem sc_put (hu : X.A.units + 1 < cLine) (ho : SE X W o ro) (hk : SE X W k rk) (hv : SE X W v rv) (hs : swapsWithSole [.Subscript o k pos'] v pos.line X.env = pure false := by rfl) (hw : swappedStores [.Subscript o k pos'] v X.env = pure none := by rfl)
    (h1 : (assignEach [.Subscript o k pos'] X.env).map (·.2) = [assign (.Subscript o k pos') X.env] := by rfl)
    (ha : ∀ v, assign (.Subscript o k pos') X.env v = (do
      let ov ← holding [v] (eval o X.env)
      let iv ← holding [v, ov] (eval k X.env)
      standAt pos'
      holding [v, ov, iv] (setItem ov iv v)
      release [v, ov, iv] []) := by intro _; rfl) : SC X W (.Assign [.Subscript o k pos'] v pos) (cPut ro rk rv) :=
  PS.imp (ps_asg hv (pg_sub ho hk (set_all hu) ha) hs hw h1) fun D σ H ⟨μ, ρ, S, hS, hE, h⟩ => (bndS hS hE h).mono fun v H1 ⟨μ1, S1, d, hS1, hE1, s1, rv, h1⟩ =>
    (bndS hS1 hE1 h1).mono fun x H2 ⟨μ2, S2, d2, hS2, hE2, s2, rx, h2⟩ => (bndS hS2 hE2 h2).mono fun y H3 ⟨μ3, S3, d3, hS3, hE3, s3, ry, h3⟩ => by
      split at h3
      · rename_i S4 e4
        have rx3 := rx.step s3
        have rv3 := (rv.step s2).step s3
        have dict : ∀ (e : dput S3 d2 d3 d = some S4), rSetL x y v H3 (fun H' => D.nx σ H') ∨ rSetD x y v H3 (fun H' => D.nx σ H') := fun e => by
          obtain ⟨a, H', ex, g, hS4, s4⟩ := dput_rep hS3 rx3 ry rv3 e
          exact .inr ⟨a, H', ex, g, h3 μ3 σ H' hS4 (hE3.step s4) s4⟩
        unfold putD at e4
        split at e4
        · split at e4
          · rename_i xs e5
            split at e4
            · rename_i j e6
              cases e4
              cases rx3 with
              | ref hl =>
                cases ry
                obtain ⟨vs, e7, rr⟩ := hS3.at' e5 hl
                refine .inl ⟨_, vs, _, j, rfl, rfl, e7, by rw [rr.1]; exact e6, ?_⟩
                exact h3 μ3 σ _ (hS3.put hl ⟨_, upd_same, (rr.set rv3 j).step (step_put hS3 hl _)⟩) (hE3.step (step_put hS3 hl _)) (step_put hS3 hl _)
            · cases e4
          · exact dict e4
        · exact dict e4
      · exact h3.elim
/-- a op= e, by the operator's own rule in place -/
theorem sc_aug {i : Nat} {x : Str} {op : Operator} {f : Dv → Dv → Sto → Out Dv} {ti : TIp} (hN : X.N.Nodup) (hi : X.N[i]? = some x) (hx : Loc X.env.scope x) (he : SE X W e re) (ho : PIp X op ti) (hti : Op2 X.K f ti) (hf : X.fn x = true ∨ X.env.scope.names.lookup x = some .local := by first | exact .inl rfl | exact .inr rfl | assumption) :
    SC X W (.AugAssign (.Name x pos') op e pos) (cAug i f re) :=
  PS.imp (ps_aug hN hi hx he ho hf) fun D σ H ⟨μ, ρ, S, hS, hE, h⟩ => by
    unfold cAug eBin eVar at h
    split at h
    · rename_i d hd
      obtain ⟨v, e1, r⟩ := hE.2 i d hd
      refine ⟨v, e1, ?_⟩
      simp only [Out.bind_ok] at h
      cases q : re ρ S with
      | no => rw [q] at h; exact h.elim
      | ex x S1 =>
        rw [q] at h
        exact ⟨μ, ρ, S, hS, hE, by rw [q]; exact fun μ1 H1 cl dd a b c => h μ1 σ H1 cl dd a (hE.step b) b c⟩
      | ok y S1 =>
        rw [q] at h
        refine ⟨μ, ρ, S, hS, hE, ?_⟩
        rw [q]
        intro μ1 H1 yv hS1 s1 ry
        have h1 := h.step s1
        simp only [Out.bind_ok] at h1
        refine hti X.mg (W.at σ) μ1 H1 S1 v yv d y _ hS1 (r.step s1) ry ?_
        cases q2 : f d y S1 with
        | no => rw [q2] at h1; exact h1.elim
        | ex x S2 => rw [q2] at h1; exact fun μ2 H2 cl dd a b c => h1 μ2 σ H2 cl dd a ((hE.step s1).step b) b c
        | ok z S2 =>
          rw [q2] at h1
          exact fun μ2 H2 zv hS2 s2 rz => h1 μ2 _ H2 hS2 (((hE.step s1).step s2).set rz i) s2
    · exact h.elim
def addI (x y : Dv) (S : Sto) : Out Dv := match x, y with
  | .int i, .int j => .ok (.int (i + j)) S
  | _, _ => .no
theorem o_addI {K : PySem.W.Frag} : Op2 K addI (ipI fun i j => i + j) := by
  intro mg Wx μ H S x y d e Q hS rx ry h
  cases rx <;> cases ry <;> first | exact h.elim | exact ⟨_, _, rfl, rfl, h.ok hS (.int _)⟩
end
end PL

namespace PL
open PySem PySem.Spec PyProof.Rows L2

/-! ### what is walked -/
/-- what must stand still while a loop goes -/
inductive Ck where
  | tt | ls (l : Nat) (ds : List Dv) | and (a b : Ck)
def Ck.ok : Ck → Sto → Prop
  | .tt, _ => True
  | .ls l ds, S => S[l]? = some (.lst ds)
  | .and a b, S => a.ok S ∧ b.ok S
abbrev RI := Env → Sto → Out (List Dv × Ck)
/-- an iterator that yields the items, as long as what it walks stands -/
def ItR (K : PySem.W.Frag) (μ : List Addr) (H : Hp) (J : It) (w : List Dv × Ck) : Prop :=
  ∀ (μ' : List Addr) (S' : Sto) (H' : Hp) (i : Nat), Step μ H μ' H' → SimS K μ' S' H' → w.2.ok S' →
    (i = w.1.length → J.stop i H') ∧ ∀ d, w.1[i]? = some d → J.go i H' ∧ ∀ x H'', J.yld i H' x H'' → Step μ' H' μ' H'' ∧ SimS K μ' S' H'' ∧ Rep K μ' H'' x d
def tI (K : PySem.W.Frag) (mg : Str → Option Value) (W : WX) (r : RI) : TI := fun σ H R => ∃ μ ρ S, SimS K μ S H ∧ SimE K μ H ρ σ ∧
  match r ρ S with
  | .ok w S1 => ∀ μ1 H1 J, SimS K μ1 S1 H1 → Step μ H μ1 H1 → ItR K μ1 H1 J w → R J H1
  | .ex x S1 => ∀ μ1 H1 cls dd, SimS K μ1 S1 H1 → Step μ H μ1 H1 → XRep K mg μ1 H1 x cls dd → W cls dd σ H1
  | .no => False
abbrev SI (X : Cx) (W : WX) (tg iter : Expr) (r : RI) : Prop := PI X tg iter (tI X.K X.mg W r)
theorem PI.imp {X : Cx} {tg e : Expr} {t t' : TI} (h : PI X tg e t) (i : ∀ σ H Q, t' σ H Q → t σ H Q) : PI X tg e t' := ⟨fun pins s σ H Q I w => h.run pins s σ H Q I (i σ H Q w)⟩
theorem PI.or {X : Cx} {tg e : Expr} {t t' : TI} (h : PI X tg e t) (h' : PI X tg e t') : PI X tg e (fun σ H Q => t σ H Q ∨ t' σ H Q) :=
  ⟨fun pins s σ H Q I w => w.elim (h.run pins s σ H Q I) (h'.run pins s σ H Q I)⟩
def ckOf : Dv → List Dv → Ck
  | .ref l, ds => .ls l ds
  | _, _ => .tt
def chars (x : Str) : List Dv := x.cps.toList.map fun c => .str ⟨#[c]⟩
/-- a list, a tuple, a text -/
def walkD (d : Dv) (S : Sto) : Option (List Dv × Ck) := match d with
  | .str x => some (chars x, .tt)
  | _ => (seqOf S d).map fun ds => (ds, ckOf d ds)
def iSeq (e : RE) : RI := fun ρ S => (e ρ S).bind fun d S1 => match walkD d S1 with
  | some w => .ok w S1
  | none => .no
def rangeL (lo hi : Int) : List Dv := (List.range (hi - lo).toNat).map fun (i : Nat) => .int (lo + i)
noncomputable def rok (i : Int) : Bool := @decide (-(2 ^ 62) ≤ i ∧ i < 2 ^ 62) (Classical.propDecidable _)
noncomputable def rng1 : List Dv → Option (List Dv)
  | [.int j] => if rok j = true then some (rangeL 0 j) else none
  | _ => none
noncomputable def rng2 : List Dv → Option (List Dv)
  | [.int i, .int j] => if rok i = true ∧ rok j = true then some (rangeL i j) else none
  | _ => none
def downL (hi lo : Int) : List Dv := (List.range (hi - lo).toNat).map fun (i : Nat) => .int (hi - i)
noncomputable def rng3 : List Dv → Option (List Dv)
  | [.int i, .int j, .int c] => if rok i = true ∧ rok j = true ∧ c = -1 then some (downL i j) else none
  | _ => none
def iRange (f : List Dv → Option (List Dv)) (a : RA) : RI := fun ρ S => (a ρ S).bind fun ds S1 => match f ds with
  | some w => .ok (w, .tt) S1
  | none => .no
section
variable {K : PySem.W.Frag} {mg : Str → Option Value} {W : WX} {μ μ1 : List Addr} {H H1 : Hp} {S S1 : Sto} {σ : L2.St} {ρ : Env}
theorem itr_tup {a : Addr} {vs : List V} {ds : List Dv} (h : ∀ μ' H', Step μ H μ' H' → SqT K H' a vs) (r : Reps K μ H vs ds) : ItR K μ H (Itt K a) (ds, .tt) := by
  intro μ' S' H' i st hS _
  have q := h μ' H' st
  refine ⟨fun e => ⟨vs, q, by rw [r.1]; exact Nat.le_of_eq e.symm⟩, fun d hd => ?_⟩
  obtain ⟨v, hv, rv⟩ := r.get hd
  refine ⟨⟨vs, v, q, hv⟩, fun x H'' y => ?_⟩
  obtain ⟨rfl, y⟩ := y
  have := y vs q
  rw [hv] at this; cases this
  exact ⟨.refl .., hS, rv.step st⟩
theorem sqT_keep {v : V} {d : Dv} {ds : List Dv} (r : Rep K μ H v d) (e : tupOf d = some ds) : ∃ a vs, v = .ref a ∧ Reps K μ H vs ds ∧ SqT K H a vs ∧ ∀ μ' H', Step μ H μ' H' → SqT K H' a vs := by
  cases r with
  | tup t l q => simp only [tupOf, Option.some.injEq] at e; subst e; exact ⟨_, _, rfl, ⟨l, q⟩, .of t.1, fun μ' H' s => .of (t.step s).1⟩
  | kt t l q => simp only [tupOf, Option.some.injEq] at e; subst e; exact ⟨_, _, rfl, ⟨l, q⟩, .inr t, fun μ' H' s => .inr t⟩
  | _ => simp [tupOf] at e
/-- a list: read-only, or one of the store that stands still -/
theorem itr_list {v : V} {d : Dv} {ds : List Dv} (hS : SimS K μ S H) (r : Rep K μ H v d) (e : lstOf S d = some ds) :
    ∃ a vs, v = .ref a ∧ SqL K H a vs ∧ ∀ μ' S' H', Step μ H μ' H' → SimS K μ' S' H' → (ckOf d ds).ok S' → ∃ ws, SqL K H' a ws ∧ Reps K μ' H' ws ds := by
  cases r with
  | fl t l q =>
    simp only [lstOf, Option.some.injEq] at e; subst e
    have k : ∀ {H' : Hp} {μ' : List Addr} {a : Addr} {vs : List V}, LisAt K μ' H' a vs → SqL K H' a vs := fun t => by
      rcases t with ⟨⟨o, t⟩, _⟩ | t
      · exact .inl (.inr ⟨o, t⟩)
      · exact .inr t
    exact ⟨_, _, rfl, k t, fun μ' S' H' st _ _ => ⟨_, k (t.step st), Reps.step st ⟨l, q⟩⟩⟩
  | @ref l a hl =>
    have e0 := e
    simp only [lstOf] at e
    split at e
    · rename_i es hs
      cases e
      obtain ⟨vs, e1, rr⟩ := hS.at' hs hl
      refine ⟨a, vs, rfl, .of e1, fun μ' S' H' st hS' ck => ?_⟩
      obtain ⟨ws, e2, r2⟩ := hS'.at' ck (st.get hl)
      exact ⟨ws, .of e2, r2⟩
    · cases e
  | _ => simp [lstOf] at e
theorem itr_of_list {a : Addr} {w : List Dv × Ck} (h : ∀ μ' S' H', Step μ H μ' H' → SimS K μ' S' H' → w.2.ok S' → ∃ ws, SqL K H' a ws ∧ Reps K μ' H' ws w.1) : ItR K μ H (Itl K a) w := by
  intro μ' S' H' i st hS ck
  obtain ⟨ws, q, r⟩ := h μ' S' H' st hS ck
  refine ⟨fun e => ⟨ws, q, by rw [r.1]; exact Nat.le_of_eq e.symm⟩, fun d hd => ?_⟩
  obtain ⟨v, hv, rv⟩ := r.get hd
  refine ⟨⟨ws, v, q, hv⟩, fun x H'' y => ?_⟩
  obtain ⟨rfl, y⟩ := y
  have := y ws q
  rw [hv] at this; cases this
  exact ⟨.refl .., hS, rv⟩
theorem itr_range {lo hi : Int} : ItR K μ H (Itr lo (hi - lo).toNat) (rangeL lo hi, .tt) := by
  intro μ' S' H' i st hS _
  refine ⟨fun e => by have : i = (hi - lo).toNat := by rw [e]; simp [rangeL]
                      exact Nat.le_of_eq this.symm, fun d hd => ?_⟩
  have hi' := (List.getElem?_eq_some_iff.mp hd).1
  simp only [rangeL, List.length_map, List.length_range] at hi'
  refine ⟨hi', fun x H'' y => ?_⟩
  obtain ⟨rfl, rfl⟩ := y
  simp only [rangeL, List.getElem?_map, List.getElem?_range hi', Option.map_some, Option.some.injEq] at hd
  subst hd
  exact ⟨.refl .., hS, .int _⟩
theorem itr_str {x : Str} : ItR K μ H (Its x) (chars x, .tt) := by
  intro μ' S' H' i st hS _
  have hl : (chars x).length = x.cps.size := by simp [chars]
  refine ⟨fun e => Nat.le_of_eq (hl.symm.trans e.symm), fun d hd => ?_⟩
  have hi := (List.getElem?_eq_some_iff.mp hd).1
  refine ⟨(show i < x.cps.size by rw [← hl]; exact hi), fun v H'' y => ?_⟩
  obtain ⟨rfl, c, hc, rfl⟩ := y
  have hd' : (chars x)[i]? = some d := hd
  simp only [chars, List.getElem?_map, Array.getElem?_toList, hc, Option.map_some, Option.some.injEq] at hd'
  subst hd'
  exact ⟨.refl .., hS, .str _⟩
end
section
variable {X : Cx} {W : WX} {tg e : Expr} {re : RE} {ra : RA} {p pos : Pos}
theorem si_seq (he : SE X W e re) : SI X W tg e (iSeq re) :=
  PI.imp (PI.or (pi_list he) (PI.or (pi_tup he) (pi_str he))) fun σ H R ⟨μ, ρ, S, hS, hE, h⟩ => by
    unfold iSeq at h
    cases q : re ρ S with
    | no => rw [q] at h; exact h.elim
    | ex x S1 => rw [q] at h; exact .inl ⟨μ, ρ, S, hS, hE, by rw [q]; exact h⟩
    | ok d S1 =>
      rw [q] at h
      simp only [Out.bind_ok] at h
      cases ew : walkD d S1 with
      | none => rw [ew] at h; exact h.elim
      | some w =>
        rw [ew] at h
        unfold walkD at ew
        split at ew
        · cases ew
          refine .inr (.inr ⟨μ, ρ, S, hS, hE, ?_⟩)
          rw [q]
          intro μ1 H1 v a b r
          cases r
          exact ⟨_, rfl, h μ1 H1 _ a b itr_str⟩
        · rw [Option.map_eq_some_iff] at ew
          obtain ⟨ds, e1, rfl⟩ := ew
          unfold seqOf at e1
          split at e1
          · rename_i es e2
            cases e1
            refine .inr (.inl ⟨μ, ρ, S, hS, hE, ?_⟩)
            rw [q]
            intro μ1 H1 v a b r
            obtain ⟨ad, vs, rfl, rr, hq, kp⟩ := sqT_keep r e2
            have ck : ckOf d ds = .tt := by cases d <;> first | rfl | simp [tupOf] at e2
            rw [ck] at h
            exact ⟨ad, rfl, ⟨vs, hq⟩, h μ1 H1 _ a b (itr_tup kp rr)⟩
          · refine .inl ⟨μ, ρ, S, hS, hE, ?_⟩
            rw [q]
            intro μ1 H1 v a b r
            obtain ⟨ad, vs, rfl, hq, kp⟩ := itr_list a r e1
            exact ⟨ad, rfl, ⟨vs, hq⟩, h μ1 H1 _ a b (itr_of_list kp)⟩
theorem rok_iff {i : Int} : rok i = true ↔ -(2 ^ 62) ≤ i ∧ i < 2 ^ 62 := by unfold rok; exact @decide_eq_true_iff _ (Classical.propDecidable _)
/-- a walk over values -/
theorem iRange_met {K : PySem.W.Frag} {mg : Str → Option Value} {f : List Dv → Option (List Dv)} {σ : L2.St} {H : Hp} {R : It → Hp → Prop} (h : tI K mg W (iRange f ra) σ H R) {Q : List V → Hp → Prop}
    (hq : ∀ μ1 H1 S1 vs ds w, SimS K μ1 S1 H1 → Reps K μ1 H1 vs ds → f ds = some w → (∀ J, ItR K μ1 H1 J (w, .tt) → R J H1) → Q vs H1) : tG (Reps K) K mg W ra σ H Q := by
  obtain ⟨μ, ρ, S, hS, hE, h⟩ := h
  refine ⟨μ, ρ, S, hS, hE, ?_⟩
  unfold iRange at h
  cases q : ra ρ S with
  | no => rw [q] at h; exact h.elim
  | ex x S1 => rw [q] at h; exact h
  | ok ds S1 =>
    rw [q] at h
    simp only [Out.bind_ok] at h
    intro μ1 H1 vs a b r
    cases ew : f ds with
    | none => rw [ew] at h; exact h.elim
    | some w => rw [ew] at h; exact hq μ1 H1 S1 vs ds w a r ew fun J hj => h μ1 H1 J a b hj
theorem si_range1 {a : Expr} (hg : Gl X "range") (hm : X.mg "range" = none) (ha : SA X W [a] ra) (hs : starEach [a] X.env = [(false, eval a X.env)] := by rfl) : SI X W tg (.Call (.Name "range" p) [a] [] pos) (iRange rng1 ra) :=
  PI.imp (pi_range1 hg hm ha hs) fun σ H R h => iRange_met h fun μ1 H1 S1 vs ds w a r ew hR => by
    unfold rng1 at ew
    split at ew
    · rename_i j
      obtain ⟨v, rfl, rv⟩ := r.get1
      cases rv
      split at ew
      · rename_i hj
        cases ew
        obtain ⟨h1, h2⟩ := rok_iff.mp hj
        refine ⟨j, rfl, h1, h2, hR _ ?_⟩
        have e : j.toNat = (j - 0).toNat := by rw [Int.sub_zero]
        rw [e]
        exact itr_range
      · cases ew
    · cases ew
theorem si_range2 {a b : Expr} (hg : Gl X "range") (hm : X.mg "range" = none) (ha : SA X W [a, b] ra) (hs : starEach [a, b] X.env = [(false, eval a X.env), (false, eval b X.env)] := by rfl) (hs2 : starEach [b] X.env = [(false, eval b X.env)] := by rfl) :
    SI X W tg (.Call (.Name "range" p) [a, b] [] pos) (iRange rng2 ra) :=
  PI.imp (pi_range2 hg hm ha hs hs2) fun σ H R h => iRange_met h fun μ1 H1 S1 vs ds w a r ew hR => by
    unfold rng2 at ew
    split at ew
    · rename_i i j
      obtain ⟨v, u, rfl, rv, ru⟩ := r.get2
      cases rv; cases ru
      split at ew
      · rename_i hj
        cases ew
        obtain ⟨h1, h2⟩ := rok_iff.mp hj.1
        obtain ⟨h3, h4⟩ := rok_iff.mp hj.2
        exact ⟨i, j, rfl, ⟨h1, h2, h3, h4⟩, hR _ itr_range⟩
      · cases ew
    · cases ew
theorem itr_down {K : PySem.W.Frag} {μ : List Addr} {H : Hp} {lo hi : Int} : ItR K μ H (Itc hi (-1) (hi - lo).toNat) (downL hi lo, .tt) := by
  intro μ' S' H' i st hS _
  have hl : (downL hi lo).length = (hi - lo).toNat := by simp [downL]
  refine ⟨fun e => Nat.le_of_eq (hl.symm.trans e.symm), fun d hd => ?_⟩
  have hi' : i < (hi - lo).toNat := by rw [← hl]; exact (List.getElem?_eq_some_iff.mp hd).1
  refine ⟨hi', fun x H'' y => ?_⟩
  obtain ⟨rfl, rfl⟩ := y
  have hd' : (downL hi lo)[i]? = some d := hd
  simp only [downL, List.getElem?_map, List.getElem?_range hi', Option.map_some, Option.some.injEq] at hd'
  subst hd'
  have e : hi + (i : Nat) * (-1) = hi - (i : Int) := by omega
  rw [e]
  exact ⟨.refl .., hS, .int _⟩
theorem si_range3 {a b c : Expr} (hg : Gl X "range") (hm : X.mg "range" = none) (ha : SA X W [a, b, c] ra)
    (hs : starEach [a, b, c] X.env = (false, eval a X.env) :: starEach [b, c] X.env := by rfl) (hs2 : (backTo pos (starEach [b, c] X.env)).any (·.1) = false := by rfl) : SI X W tg (.Call (.Name "range" p) [a, b, c] [] pos) (iRange rng3 ra) :=
  PI.imp (pi_range3 hg hm ha hs hs2) fun σ H R h => iRange_met h fun μ1 H1 S1 vs ds w a r ew hR => by
    unfold rng3 at ew
    split at ew
    · rename_i i j c
      obtain ⟨v, ws, rfl, rv, r2⟩ := r.uncons
      obtain ⟨u, u2, rfl, ru, ru2⟩ := r2.get2
      cases rv; cases ru; cases ru2
      split at ew
      · rename_i hj
        cases ew
        obtain ⟨h1, h2⟩ := rok_iff.mp hj.1
        obtain ⟨h3, h4⟩ := rok_iff.mp hj.2.1
        rw [hj.2.2]
        exact ⟨i, j, -1, (i - j).toNat, rfl, RgC.neg h1 h2 h3 h4, hR _ itr_down⟩
      · cases ew
    · cases ew
/-- items, by pairs that are made in the turn -/
def enumL (ds : List Dv) (n : Nat := 0) : List Dv := match ds with
  | [] => []
  | d :: r => .tup [.int n, d] :: enumL r (n + 1)
theorem enumL_get : ∀ (ds : List Dv) (n i : Nat), (enumL ds n)[i]? = (ds[i]?).map fun d => .tup [.int ((n + i : Nat) : Int), d]
  | [], n, i => by simp [enumL]
  | d :: r, n, 0 => by simp [enumL]
  | d :: r, n, i + 1 => by
    rw [enumL, List.getElem?_cons_succ, List.getElem?_cons_succ, enumL_get r (n + 1) i]
    have e : n + 1 + i = n + (i + 1) := by omega
    rw [e]
theorem enumL_len : ∀ (ds : List Dv) (n : Nat), (enumL ds n).length = ds.length
  | [], _ => rfl
  | _ :: r, n => by rw [enumL, List.length_cons, List.length_cons, enumL_len r]
theorem itr_enum {K : PySem.W.Frag} {μ : List Addr} {H : Hp} {a : Addr} {ds : List Dv} {ck : Ck} (h : ∀ μ' S' H', Step μ H μ' H' → SimS K μ' S' H' → ck.ok S' → ∃ ws, SqL K H' a ws ∧ Reps K μ' H' ws ds) : ItR K μ H (Ite K a) (enumL ds, ck) := by
  intro μ' S' H' i st hS hck
  obtain ⟨ws, q, r⟩ := h μ' S' H' st hS hck
  refine ⟨fun e => ⟨ws, q, by rw [r.1]; rw [show (enumL ds, ck).1.length = ds.length from enumL_len ds 0] at e; omega⟩, fun d hd => ?_⟩
  have hd' : (enumL ds)[i]? = some d := hd
  rw [enumL_get, Option.map_eq_some_iff] at hd'
  obtain ⟨d', hd', rfl⟩ := hd'
  obtain ⟨v, hv, rv⟩ := r.get hd'
  refine ⟨⟨ws, v, q, hv⟩, fun x H'' y => ?_⟩
  obtain ⟨T, z, rfl, hT, rfl, y⟩ := y
  have := y ws q
  rw [hv] at this; cases this
  have rr : Reps K μ' H' [.int (i : Nat), v] [.int ((0 + i : Nat) : Int), d'] := by
    rw [Nat.zero_add]
    exact (Reps.one rv).cons (.int _)
  exact ⟨step_lay hS hT _, hS.lay hT _, .tup ⟨upd_same, hS.fresh hT⟩ rr.1 (rr.step (step_lay hS hT _)).2⟩
def iEnum (a : RA) : RI := fun ρ S => (a ρ S).bind fun ds S1 => match ds with
  | [d] => match lstOf S1 d with
    | some xs => .ok (enumL xs, ckOf d xs) S1
    | none => .no
  | _ => .no
theorem si_enum {elts : List Expr} {kk : Nat} {tpos : Pos} (hg : Gl X "enumerate") (hm : X.mg "enumerate" = none) (ha : SA X W [e] ra) (hs : starEach [e] X.env = [(false, eval e X.env)] := by rfl) : SI X W (.Tuple elts kk tpos) (.Call (.Name "enumerate" p) [e] [] pos) (iEnum ra) :=
  PI.imp (pi_enum hg hm ha hs) fun σ H R ⟨μ, ρ, S, hS, hE, h⟩ => by
    refine ⟨μ, ρ, S, hS, hE, ?_⟩
    unfold iEnum at h
    cases q : ra ρ S with
    | no => rw [q] at h; exact h.elim
    | ex x S1 => rw [q] at h; exact h
    | ok ds S1 =>
      rw [q] at h
      simp only [Out.bind_ok] at h
      intro μ1 H1 vs a b r
      cases ds with
      | nil => exact h.elim
      | cons d ds =>
        cases ds with
        | cons => exact h.elim
        | nil =>
          obtain ⟨v, rfl, rv⟩ := r.get1
          cases el : lstOf S1 d with
          | none => simp only [el] at h
          | some xs =>
            simp only [el] at h
            obtain ⟨ad, us, rfl, hq, kp⟩ := itr_list a rv el
            exact ⟨ad, us, rfl, hq, h μ1 H1 _ a b (itr_enum kp)⟩
end

/-! ### for, comprehensions, while -/
def loop (ck : Sto → Prop) [∀ S, Decidable (ck S)] (t : Tg) (b : RC) : List Dv → Env → Sto → OutS
  | [], ρ, S => if ck S then .fl (.nx ρ) S else .no
  | d :: ds, ρ, S => if ck S then match t.set d ρ with
    | some ρ1 => match b ρ1 S with
      | .fl (.nx ρ2) S2 => loop ck t b ds ρ2 S2
      | .fl (.ct ρ2) S2 => loop ck t b ds ρ2 S2
      | .fl (.bk ρ2) S2 => .fl (.nx ρ2) S2
      | o => o
    | none => .no else .no
noncomputable instance (c : Ck) (S : Sto) : Decidable (c.ok S) := Classical.propDecidable _
noncomputable def cFor (r : RI) (t : Tg) (b : RC) : RC := fun ρ S => bindS (r ρ S) ρ fun w S1 => loop w.2.ok t b w.1 ρ S1
def wipeE (ρ : Env) : List Nat → Env
  | [] => ρ
  | v :: vs => (wipeE ρ vs).set v none
def compL (ck : Sto → Prop) [∀ S, Decidable (ck S)] (t : Tg) (c : RT) (y : RE) (ρ : Env) : List Dv → List Dv → Sto → Out (List Dv)
  | [], acc, S => if ck S then .ok acc S else .no
  | d :: ds, acc, S => if ck S then match t.set d ρ with
    | some ρ1 => (c ρ1 S).bindN fun k S1 => if k = true then (y ρ1 S1).bindN fun z S2 => if acc.length < sizeLine then compL ck t c y ρ ds (acc ++ [z]) S2 else .no else compL ck t c y ρ ds acc S1
    | none => .no else .no
def cYes : RT := fun _ S => .ok true S
noncomputable def eComp (r : RI) (t : Tg) (c : RT) (y : RE) (vs : List Nat) : RE := fun ρ S => (r ρ S).bind fun w S1 => (compL w.2.ok t c y (wipeE ρ vs) w.1 [] S1).bind newL
def loopW : Nat → RT → RC → RC
  | 0, _, _ => fun _ _ => .no
  | n + 1, c, b => fun ρ S => bindS (c ρ S) ρ fun k S1 => if k = true then match b ρ S1 with
    | .fl (.nx ρ2) S2 => loopW n c b ρ2 S2
    | .fl (.ct ρ2) S2 => loopW n c b ρ2 S2
    | .fl (.bk ρ2) S2 => .fl (.nx ρ2) S2
    | o => o else .fl (.nx ρ) S1
open Classical in
noncomputable def cWhile (c : RT) (b : RC) : RC := fun ρ S => if h : ∃ n, loopW n c b ρ S ≠ .no then loopW h.choose c b ρ S else .no
theorem loopW_mono {c : RT} {b : RC} : ∀ (n m : Nat) (ρ : Env) (S : Sto), n ≤ m → loopW n c b ρ S ≠ .no → loopW m c b ρ S = loopW n c b ρ S
  | 0, _, _, _, _, h => absurd rfl h
  | n + 1, 0, _, _, h, _ => by omega
  | n + 1, m + 1, ρ, S, hl, h => by
    simp only [loopW] at h ⊢
    cases q : c ρ S with
    | no => rfl
    | ex x S1 => rfl
    | ok k S1 =>
      rw [q] at h
      simp only [bindS_ok] at h ⊢
      cases k with
      | false => rfl
      | true =>
        simp only [if_true] at h ⊢
        cases q2 : b ρ S1 with
        | no => rfl
        | ex x ρ2 S2 => rfl
        | fl f S2 =>
          rw [q2] at h
          cases f with
          | nx ρ2 => exact loopW_mono n m ρ2 S2 (by omega) h
          | ct ρ2 => exact loopW_mono n m ρ2 S2 (by omega) h
          | bk ρ2 => rfl
          | rt d => rfl
theorem cWhile_of {c : RT} {b : RC} {ρ : Env} {S : Sto} (n : Nat) (h : loopW n c b ρ S ≠ .no) : cWhile c b ρ S = loopW n c b ρ S := by
  unfold cWhile
  have hx : ∃ n, loopW n c b ρ S ≠ .no := ⟨n, h⟩
  rw [dif_pos hx]
  rcases Nat.le_total n hx.choose with l | l
  · exact loopW_mono _ _ ρ S l h
  · exact (loopW_mono _ _ ρ S l hx.choose_spec).symm
section
variable {X : Cx} {W : WX} {tg iter c elt : Expr} {body : List Stmt} {r : RI} {t : Tg} {b : RC} {rc : RT} {ry : RE} {pos : Pos}
theorem sc_for (hp : PassesOwn (model X.prog X.w) X.A X.env X.xe) (hc : X.calm = true) (hi : SI X W tg iter r) (hg : SG X tg t) (hb : SCs X W body b) (hs : ∀ x, foldedSetIterable iter X.env x = pure x := by intro _; rfl) : SC X W (.For tg iter body [] pos) (cFor r t b) :=
  PS.imp (ps_for hp hc hi hg hb hs) fun D σ H ⟨μ, ρ, S, hS, hE, h⟩ => by
    refine ⟨μ, ρ, S, hS, hE, ?_⟩
    unfold cFor at h
    cases q : r ρ S with
    | no => rw [q] at h; exact h.elim
    | ex x S1 => rw [q] at h; exact fun μ1 H1 cls dd a b c => h μ1 σ H1 cls dd a (hE.step b) b c
    | ok w S1 =>
      rw [q] at h
      intro μ1 H1 J hS1 s1 hJ
      refine ⟨fun i m σ' H' => ∃ μ' ρ' S', SimS X.K μ' S' H' ∧ SimE X.K μ' H' ρ' σ' ∧ Step μ1 H1 μ' H' ∧ m = w.1.length - i ∧ i ≤ w.1.length ∧ MetS X.K X.mg W μ' H' (loop w.2.ok t b (w.1.drop i) ρ' S') D,
        ⟨_, μ1, ρ, S1, hS1, hE.step s1, .refl .., rfl, Nat.zero_le _, by rw [List.drop_zero]; exact h.step s1⟩, ?_⟩
      rintro i m σ' H' ⟨μ', ρ', S', hS', hE', s', rfl, hil, hm⟩
      by_cases hlt : i < w.1.length
      · rw [List.drop_eq_getElem_cons hlt, loop] at hm
        split at hm
        · rename_i hck
          obtain ⟨_, hgo⟩ := hJ μ' S' H' i s' hS' hck
          obtain ⟨go, yl⟩ := hgo w.1[i] (List.getElem?_eq_getElem hlt)
          split at hm
          · rename_i ρ1 e1
            refine .inr ⟨go, fun σ2 H2 => ∃ μ2 ρ2 S2, SimS X.K μ2 S2 H2 ∧ SimE X.K μ2 H2 ρ2 σ2 ∧ Step μ1 H1 μ2 H2 ∧ MetS X.K X.mg W μ2 H2 (loop w.2.ok t b (w.1.drop (i + 1)) ρ2 S2) D,
              fun σ2 H2 ⟨μ2, ρ2, S2, a1, a2, a3, a4⟩ => ⟨_, by omega, μ2, ρ2, S2, a1, a2, a3, rfl, hlt, a4⟩, fun x H2 y => ?_⟩
            obtain ⟨s2, hS2, rx⟩ := yl x H2 y
            refine ⟨μ', ρ', _, ρ1, hE'.step s2, rx, e1, fun σ2 hE2 _ _ => ⟨μ', ρ1, S', hS2, hE2, ?_⟩⟩
            have hm2 := hm
            cases q2 : b ρ1 S' with
            | no => rw [q2] at hm2; exact hm2.elim
            | ex x ρ3 S3 => rw [q2] at hm2; exact fun μ3 σ3 H3 cl dd a1 a2 a3 a4 => hm2 μ3 σ3 H3 cl dd a1 a2 (s2.trans a3) a4
            | fl f S3 =>
              rw [q2] at hm2
              cases f with
              | nx ρ3 => exact fun μ3 σ3 H3 a1 a2 a3 => ⟨μ3, ρ3, S3, a1, a2, s'.trans (s2.trans a3), hm2.step (s2.trans a3)⟩
              | ct ρ3 => exact fun μ3 σ3 H3 a1 a2 a3 => ⟨μ3, ρ3, S3, a1, a2, s'.trans (s2.trans a3), hm2.step (s2.trans a3)⟩
              | bk ρ3 => exact fun μ3 σ3 H3 a1 a2 a3 => hm2 μ3 σ3 H3 a1 a2 (s2.trans a3)
              | rt d => exact fun μ3 v3 H3 a1 a2 a3 => hm2 μ3 v3 H3 a1 (s2.trans a2) a3
          · exact hm.elim
        · exact hm.elim
      · have e : i = w.1.length := by omega
        rw [List.drop_of_length_le (by omega), loop] at hm
        split at hm
        · rename_i hck
          exact .inl ⟨(hJ μ' S' H' i s' hS' hck).1 e, hm μ' σ' H' hS' hE' (.refl ..)⟩
        · exact hm.elim
theorem sc_while (hp : PassesOwn (model X.prog X.w) X.A X.env X.xe) (hc : ST X W c rc) (hb : SCs X W body b) : SC X W (.While c body [] pos) (cWhile rc b) :=
  PS.imp (ps_while hp hc hb) fun D σ H ⟨μ, ρ, S, hS, hE, h⟩ => by
    unfold cWhile at h
    split at h
    · rename_i hx
      refine ⟨fun m σ' H' => ∃ μ' ρ' S', SimS X.K μ' S' H' ∧ SimE X.K μ' H' ρ' σ' ∧ MetS X.K X.mg W μ' H' (loopW m rc b ρ' S') D, ⟨_, μ, ρ, S, hS, hE, h⟩, ?_⟩
      rintro m σ' H' ⟨μ', ρ', S', hS', hE', hm⟩
      cases m with
      | zero => exact hm.elim
      | succ m =>
        simp only [loopW] at hm
        refine (bndS (R1 := RBool) hS' hE' hm).mono fun v H1 ⟨μ1, S1, d, hS1, hE1, s1, rv, h1⟩ => ?_
        cases (show v = d from rv)
        cases v with
        | false => exact h1 μ1 σ' H1 hS1 hE1 (.refl ..)
        | true =>
          simp only [if_true] at h1
          refine ⟨fun σ2 H2 => ∃ μ2 ρ2 S2, SimS X.K μ2 S2 H2 ∧ SimE X.K μ2 H2 ρ2 σ2 ∧ MetS X.K X.mg W μ2 H2 (loopW m rc b ρ2 S2) D, fun σ2 H2 h2 => ⟨m, Nat.lt_succ_self m, h2⟩, μ1, ρ', S1, hS1, hE1, ?_⟩
          cases q2 : b ρ' S1 with
          | no => rw [q2] at h1; exact h1.elim
          | ex x ρ3 S3 => rw [q2] at h1; exact h1
          | fl f S3 =>
            rw [q2] at h1
            cases f with
            | nx ρ3 => exact fun μ3 σ3 H3 a1 a2 a3 => ⟨μ3, ρ3, S3, a1, a2, h1.step a3⟩
            | ct ρ3 => exact fun μ3 σ3 H3 a1 a2 a3 => ⟨μ3, ρ3, S3, a1, a2, h1.step a3⟩
            | bk ρ3 => exact h1
            | rt d => exact h1
    · exact h.elim
end
end PL

namespace PL
open PySem PySem.Spec PyProof.Rows L2

section
variable {K : PySem.W.Frag} {mg : Str → Option Value} {W : WX} {μ μ1 : List Addr} {H H1 : Hp} {S S1 : Sto} {σ : L2.St} {ρ : Env}
theorem wipeE_rep (h : SimE K μ H ρ σ) : ∀ vs : List Nat, SimE K μ H (wipeE ρ vs) (wipe σ vs)
  | [] => h
  | v :: vs => by
    have ih := wipeE_rep h vs
    refine ⟨by simp only [wipeE, wipe, List.length_set]; exact ih.1, fun i d hd => ?_⟩
    simp only [wipeE] at hd
    by_cases hv : v = i
    · subst hv
      have hl : v < (wipeE ρ vs).length := by have := (List.getElem?_eq_some_iff.mp hd).1; simpa using this
      rw [List.getElem?_set_self hl] at hd; cases hd
    · rw [List.getElem?_set_ne hv] at hd
      obtain ⟨u, e1, r1⟩ := ih.2 i d hd
      exact ⟨u, by simp only [wipe]; rw [List.getElem?_set_ne hv]; exact e1, r1⟩
theorem wipe_same {σ σ' : L2.St} (hl : σ'.length = σ.length) : ∀ {vs : List Nat}, (∀ j, j ∉ vs → σ'[j]? = σ[j]?) → wipe σ' vs = wipe σ vs := by
  intro vs h
  refine List.ext_getElem? fun j => ?_
  by_cases hj : j ∈ vs
  · have : ∀ {τ : L2.St} {vs : List Nat}, j ∈ vs → j < τ.length → (wipe τ vs)[j]? = some none := by
      intro τ vs
      induction vs with
      | nil => intro h _; cases h
      | cons v vs ih =>
        intro h hlt
        simp only [wipe]
        by_cases hv : v = j
        · subst hv; rw [List.getElem?_set_self (by rw [wipe_length]; exact hlt)]
        · rw [List.getElem?_set_ne hv]
          rcases List.mem_cons.mp h with e | h
          · exact absurd e.symm hv
          · exact ih h hlt
    by_cases hlt : j < σ.length
    · rw [this hj (by rw [hl]; exact hlt), this hj hlt]
    · rw [List.getElem?_eq_none (by rw [wipe_length, hl]; omega), List.getElem?_eq_none (by rw [wipe_length]; omega)]
  · rw [wipe_out hj, wipe_out hj, h j hj]
end
section
variable {K : PySem.W.Frag} {μ μ' μ1 μ2 : List Addr} {H H' H1 H2 : Hp} {S S' S1 : Sto} {D : Addr} {us ws : List V} {v : V} {d : Dv}
theorem rep_priv (hD : H D = some (.lst us)) (r : Rep K μ H v d) : Rep K μ (upd H D (.lst ws)) v d := by
  induction r with
  | non => exact .non
  | bl b => exact .bl b
  | int i => exact .int i
  | str x => exact .str x
  | ref h => exact .ref h
  | kt h e _ ih => exact .kt h e fun i v d h1 h2 => ih i v d h1 h2
  | tup h e _ ih => exact .tup ⟨by rw [upd_ne (ne_of h.1 hD (by intro z; cases z))]; exact h.1, h.2⟩ e fun i v d h1 h2 => ih i v d h1 h2
  | fl h e _ ih =>
    refine .fl ?_ e fun i v d h1 h2 => ih i v d h1 h2
    rcases h with ⟨⟨o, h⟩, n⟩ | h
    · exact .inl ⟨⟨o, by rw [upd_ne (ne_of h hD (by intro z; cases z))]; exact h⟩, n⟩
    · exact .inr h
theorem reps_priv {vs : List V} {ds : List Dv} (hD : H D = some (.lst us)) (r : Reps K μ H vs ds) : Reps K μ (upd H D (.lst ws)) vs ds := ⟨r.1, fun i v d h1 h2 => rep_priv hD (r.2 i v d h1 h2)⟩
theorem sim_priv (hD : H D = some (.lst us)) (n : D ∉ μ) (h : SimS K μ S H) : SimS K μ S (upd H D (.lst ws)) :=
  ⟨h.len, h.nd, fun l a o e1 e2 => by
    have ne : a ≠ D := fun z => n (z ▸ List.mem_of_getElem? e1)
    have q := h.ob l a o e1 e2
    cases o with
    | lst ds => obtain ⟨vs, g, r⟩ := q; exact ⟨vs, by rw [upd_ne ne]; exact g, reps_priv hD r⟩
    | dk kvs => obtain ⟨vs, g, g2, r⟩ := q; exact ⟨vs, by rw [upd_ne ne]; exact g, g2, reps_priv hD r⟩
    | dt kvs => obtain ⟨vs, g, g2, r⟩ := q; exact ⟨vs, by rw [upd_ne ne]; exact g, g2, reps_priv hD r⟩⟩
theorem step_priv (hD : H1 D = none) (s : Step μ1 H1 μ H) : Step μ1 H1 μ (upd H D (.lst ws)) :=
  ⟨s.pre, fun b o e n => by rw [upd_ne (ne_of_none e hD)]; exact s.keep b o e n, fun b e => by
    by_cases hb : b = D
    · rw [hb, upd_same]; exact fun z => nomatch z
    · rw [upd_ne hb]; exact s.live b e⟩
theorem step_open (hD : H1 D = none) (s : Step μ1 H1 μ H) : Step μ1 H1 (μ ++ [D]) H := by
  refine ⟨?_, s.keep, s.live⟩
  obtain ⟨ν, e, f⟩ := s.pre
  exact ⟨ν ++ [D], by rw [e, List.append_assoc], fun b hb => by
    rcases List.mem_append.mp hb with hb | hb
    · exact f b hb
    · simp at hb; rw [hb]; exact hD⟩
/-- an object of ours comes into the store -/
theorem step_adopt (n : D ∉ μ) (hD : H D = some (.lst us)) : Step μ H μ H := .refl _ _
theorem rep_adopt (hD : H D = some (.lst us)) (r : Rep K μ H v d) : Rep K (μ ++ [D]) H v d := by
  induction r with
  | non => exact .non
  | bl b => exact .bl b
  | int i => exact .int i
  | str x => exact .str x
  | ref h => exact .ref (by rw [List.getElem?_append_left (List.getElem?_eq_some_iff.mp h).1]; exact h)
  | kt h e _ ih => exact .kt h e fun i v d h1 h2 => ih i v d h1 h2
  | tup h e _ ih => exact .tup ⟨h.1, fun z => (List.mem_append.mp z).elim h.2 fun z => by simp at z; exact ne_of h.1 hD (by intro q; cases q) z⟩ e fun i v d h1 h2 => ih i v d h1 h2
  | fl h e _ ih =>
    refine .fl ?_ e fun i v d h1 h2 => ih i v d h1 h2
    rcases h with ⟨⟨o, h⟩, n⟩ | h
    · exact .inl ⟨⟨o, h⟩, fun z => (List.mem_append.mp z).elim n fun z => by simp at z; exact ne_of h hD (by intro q; cases q) z⟩
    · exact .inr h
theorem reps_adopt {vs : List V} {ds : List Dv} (hD : H D = some (.lst us)) (r : Reps K μ H vs ds) : Reps K (μ ++ [D]) H vs ds := ⟨r.1, fun i v d h1 h2 => rep_adopt hD (r.2 i v d h1 h2)⟩
theorem sim_adopt {acc : List Dv} (hD : H D = some (.lst us)) (n : D ∉ μ) (r : Reps K μ H us acc) (h : SimS K μ S H) : SimS K (μ ++ [D]) (S ++ [.lst acc]) H := by
  refine ⟨by simp [h.len], List.nodup_append.mpr ⟨h.nd, by simp, fun a ha b hb => by simp at hb; subst hb; exact fun z => n (z ▸ ha)⟩, fun l a o e1 e2 => ?_⟩
  by_cases hl : l < μ.length
  · rw [List.getElem?_append_left hl] at e1
    rw [List.getElem?_append_left (by rw [← h.len]; exact hl)] at e2
    have q := h.ob l a o e1 e2
    cases o with
    | lst ds => obtain ⟨vs, g, r⟩ := q; exact ⟨vs, g, reps_adopt hD r⟩
    | dk kvs => obtain ⟨vs, g, g2, r⟩ := q; exact ⟨vs, g, g2, reps_adopt hD r⟩
    | dt kvs => obtain ⟨vs, g, g2, r⟩ := q; exact ⟨vs, g, g2, reps_adopt hD r⟩
  · have hl2 : l = μ.length := by have := (List.getElem?_eq_some_iff.mp e1).1; simp at this; omega
    subst hl2
    rw [List.getElem?_append_right (Nat.le_refl _)] at e1
    rw [List.getElem?_append_right (by rw [h.len]; exact Nat.le_refl _), h.len] at e2
    simp at e1 e2
    subst e1; subst e2
    exact ⟨us, hD, reps_adopt hD r⟩
end
section
variable {X : Cx} {W : WX} {tg iter elt : Expr} {ifs : List Expr} {scope : Scope} {own : List (Str × Nat)} {pos spos : Pos} {r : RI} {t : Tg} {rc : RT} {ry : RE}
/-- the reading of a comprehension -/
theorem comp_met {Wb : WX} {σ : L2.St} {H : Hp} {Q : VK} {vs : List Nat} (hown : ∀ i ∈ t.slots, i ∈ vs) (h : tG (Rep X.K) X.K X.mg W (eComp r t rc ry vs) σ H Q) :
    tLc (tI X.K X.mg W r) (tGt X.K t) (tG RBool X.K X.mg Wb rc) (tG (Rep X.K) X.K X.mg Wb ry) vs σ H Q := by
  obtain ⟨μ, ρ, S, hS, hE, h⟩ := h
  refine ⟨μ, ρ, S, hS, hE, ?_⟩
  unfold eComp at h
  cases q : r ρ S with
  | no => rw [q] at h; exact h.elim
  | ex x S1 => rw [q] at h; exact fun μ1 H1 cls dd a b c => h μ1 H1 cls dd a b c
  | ok w S1 =>
    rw [q] at h
    simp only [Out.bind_ok] at h
    intro μ1 H1 J hS1 s1 hJ D hD
    have hE1 := hE.step s1
    refine ⟨fun i m H' => ∃ μ' S' acc us, SimS X.K μ' S' H' ∧ D ∉ μ' ∧ H' D = some (.lst us) ∧ Reps X.K μ' H' us acc ∧ Step μ1 H1 μ' H' ∧ m = w.1.length - i ∧ i ≤ w.1.length ∧
        Met (Rep X.K) X.K X.mg (W.at σ) μ H ((compL w.2.ok t rc ry (wipeE ρ vs) (w.1.drop i) acc S').bind newL) Q,
      ⟨_, μ1, S1, [], [], hS1.lay hD _, hS1.fresh hD, upd_same, .nil, step_lay hS1 hD _, rfl, Nat.zero_le _, by rw [List.drop_zero]; exact h⟩, ?_⟩
    rintro i m H' ⟨μ', S', acc, us, hS', nD, eD, ra, s', rfl, hil, hm⟩
    by_cases hlt : i < w.1.length
    · rw [List.drop_eq_getElem_cons hlt, compL] at hm
      split at hm
      · rename_i hck
        obtain ⟨go, yl⟩ := (hJ μ' S' H' i s' hS' hck).2 w.1[i] (List.getElem?_eq_getElem hlt)
        split at hm
        · rename_i ρ1 e1
          refine .inr ⟨go, fun H5 => ∃ μ5 S5 acc5 us5, SimS X.K μ5 S5 H5 ∧ D ∉ μ5 ∧ H5 D = some (.lst us5) ∧ Reps X.K μ5 H5 us5 acc5 ∧ Step μ1 H1 μ5 H5 ∧
              Met (Rep X.K) X.K X.mg (W.at σ) μ H ((compL w.2.ok t rc ry (wipeE ρ vs) (w.1.drop (i + 1)) acc5 S5).bind newL) Q,
            fun H5 ⟨μ5, S5, acc5, us5, a1, a2, a3, a4, a5, a6⟩ => ⟨_, by omega, μ5, S5, acc5, us5, a1, a2, a3, a4, a5, rfl, hlt, a6⟩, fun x H2 y => ?_⟩
          obtain ⟨s2, hS2, rx⟩ := yl x H2 y
          refine ⟨μ', wipeE ρ vs, _, ρ1, (wipeE_rep (hE1.step s') vs).step s2, rx, e1, fun σ2 hE2 l2 n2 => ⟨?_, μ', ρ1, S', hS2, hE2, ?_⟩⟩
          · have := wipe_same (vs := vs) l2 fun j hj => n2 j fun z => hj (hown j z)
            rw [this]
            refine List.ext_getElem? fun j => ?_
            by_cases hj : j ∈ vs
            · have k : ∀ {τ : L2.St} {vs : List Nat}, j ∈ vs → j < τ.length → (wipe τ vs)[j]? = some none := by
                intro τ vs
                induction vs with
                | nil => intro h _; cases h
                | cons v vs ih =>
                  intro h hlt
                  simp only [wipe]
                  by_cases hv : v = j
                  · subst hv; rw [List.getElem?_set_self (by rw [wipe_length]; exact hlt)]
                  · rw [List.getElem?_set_ne hv]
                    rcases List.mem_cons.mp h with e | h
                    · exact absurd e.symm hv
                    · exact ih h hlt
              by_cases hlt : j < σ.length
              · rw [k hj (by rw [wipe_length]; exact hlt), k hj hlt]
              · rw [List.getElem?_eq_none (by rw [wipe_length, wipe_length]; omega), List.getElem?_eq_none (by rw [wipe_length]; omega)]
            · rw [wipe_out hj]
          · cases q2 : rc ρ1 S' with
            | no => rw [q2] at hm; exact hm.elim
            | ex x S3 => rw [q2] at hm; exact hm.elim
            | ok k S3 =>
              rw [q2] at hm
              simp only [Out.bindN_ok] at hm
              intro μ3 H3 kb hS3 s3 ek
              have ek' : kb = k := ek
              subst ek'
              have nD3 : D ∉ μ3 := s3.nin (s2.keep _ _ eD nD) nD
              have eD3 := s3.keep _ _ (s2.keep _ _ eD nD) nD
              have st3 := (s'.trans s2).trans s3
              cases kb with
              | false => exact ⟨μ3, S3, acc, us, hS3, nD3, eD3, (ra.step s2).step s3, st3, hm⟩
              | true =>
                simp only [if_true] at hm ⊢
                refine ⟨μ3, ρ1, S3, hS3, hE2.step s3, ?_⟩
                cases q3 : ry ρ1 S3 with
                | no => rw [q3] at hm; exact hm.elim
                | ex x S4 => rw [q3] at hm; exact hm.elim
                | ok z S4 =>
                  rw [q3] at hm
                  simp only [Out.bindN_ok] at hm
                  intro μ4 H4 zv hS4 s4 rz
                  have nD4 : D ∉ μ4 := s4.nin eD3 nD3
                  have eD4 := s4.keep _ _ eD3 nD3
                  have ra4 := ((ra.step s2).step s3).step s4
                  split at hm
                  · rename_i hz
                    exact ⟨us, eD4, by rw [ra4.1]; exact hz, μ4, S4, acc ++ [z], us ++ [zv], sim_priv eD4 nD4 hS4, nD4, upd_same, reps_priv eD4 (ra4.append (.one rz)), step_priv hD (st3.trans s4), hm⟩
                  · exact hm.elim
        · exact hm.elim
      · exact hm.elim
    · have e : i = w.1.length := by omega
      rw [List.drop_of_length_le (by omega), compL] at hm
      split at hm
      · rename_i hck
        refine .inl ⟨(hJ μ' S' H' i s' hS' hck).1 e, ?_⟩
        exact hm _ _ _ (sim_adopt eD nD ra hS') (s1.trans (step_open hD s')) (.ref (new_at hS' D))
      · exact hm.elim
abbrev Blk (X : Cx) (scope : Scope) (P : Cx → Prop) : Prop := ∀ (s : Shared) (H : Hp) (C : Addr) (cl : List (Str × Addr)) (fp : List Addr), P (X.blk s H scope (compEnvC scope cl C X.env) fp)
theorem se_comp (hc : X.calm = true) (hN : X.N.Nodup) (hi : SI X W tg iter r) (ok : BlkOk X.N X.env.scope scope own) (hg : Blk X scope fun Y => SG Y tg t) (ht : Blk X scope fun Y => PTs Y ifs (tG RBool X.K X.mg W rc)) (he : Blk X scope fun Y => SE Y W elt ry)
    (hown : ∀ i ∈ t.slots, i ∈ own.map (·.2)) (hs : ∀ x, foldedSetIterable iter X.env x = pure x := by intro _; rfl) : SE X W (.ListComp elt [⟨tg, iter, ifs, 0⟩] scope pos) (eComp r t rc ry (own.map (·.2))) :=
  PE.imp (pe_lc hc hN hi ok hg ht he hs) fun _ _ _ h => comp_met (ry := ry) (Wb := W) hown h
theorem sc_setComp {i : Nat} {y : Str} {py : Pos} (hc : X.calm = true) (hN : X.N.Nodup) (hy : X.N[i]? = some y) (hyl : X.env.scope.names.lookup y = some .local) (hsw : swapsWith (.ListComp elt [⟨tg, iter, ifs, 0⟩] scope pos) (some (.Name y py)) spos.line X.env = pure true)
    (hi : SI X W tg iter r) (ok : BlkOk X.N X.env.scope scope own) (hg : Blk X scope fun Y => SG Y tg t) (ht : Blk X scope fun Y => PTs Y ifs (tG RBool X.K X.mg W rc)) (he : Blk X scope fun Y => SE Y W elt ry)
    (hown : ∀ i ∈ t.slots, i ∈ own.map (·.2)) (hs : ∀ x, foldedSetIterable iter X.env x = pure x := by intro _; rfl) : SC X W (.Assign [.Name y py] (.ListComp elt [⟨tg, iter, ifs, 0⟩] scope pos) spos) (cSet i (eComp r t rc ry (own.map (·.2)))) :=
  PS.imp (ps_setLc hc hN hy hyl hsw hi ok hg ht he hs) fun D σ H ⟨μ, ρ, S, hS, hE, h⟩ => by
    refine comp_met (ry := ry) (Wb := W) hown ?_
    exact (bndS hS hE h).mono fun v H1 ⟨μ1, S1, d, hS1, hE1, s1, rv, h1⟩ => h1 μ1 _ H1 hS1 (hE1.set rv i) (.refl ..)
theorem sts_nil {Y : Cx} : PTs Y [] (tG RBool Y.K Y.mg W cYes) := ⟨fun pins s σ H Q I ⟨μ, ρ, S, hS, hE, h⟩ => pts_nil.run pins s σ H Q I (Met.ok (RP := RBool) h hS rfl)⟩
theorem sts_one {Y : Cx} {c : Expr} (h : ST Y W c rc) : PTs Y [c] (tG RBool Y.K Y.mg W rc) := pts_one h
end

/-! ### defs -/
def runF (c : RC) (m n : Nat) (ds : List Dv) (S : Sto) : Out Dv := if ds.length = n then match c (ds.map some ++ List.replicate (m - n) none) S with
  | .fl (.nx _) S' => .ok .non S'
  | .fl (.rt d) S' => .ok d S'
  | .ex x _ S' => .ex x S'
  | _ => .no else .no
section
variable {P : Program} {w : World} {K : PySem.W.Frag} {mg : Str → Option Value} {base : Heap}
theorem start_rep {μ : List Addr} {H : Hp} {N : List Str} {vs : List V} {ds : List Dv} (r : Reps K μ H vs ds) : SimE K μ H (ds.map some ++ List.replicate (N.length - ds.length) none) (L2.start N vs) := by
  unfold L2.start
  rw [r.1]
  refine ⟨by simp [r.1], fun i d hd => ?_⟩
  by_cases hi : i < ds.length
  · rw [List.getElem?_append_left (by simpa using hi)] at hd
    rw [List.getElem?_append_left (by simpa [r.1] using hi)]
    simp only [List.getElem?_map, Option.map_eq_some_iff] at hd ⊢
    obtain ⟨d', hd', e⟩ := hd
    cases e
    obtain ⟨v, hv, rv⟩ := r.get hd'
    exact ⟨v, ⟨v, hv, rfl⟩, rv⟩
  · rw [List.getElem?_append_right (by simpa using hi)] at hd
    simp only [List.getElem?_replicate] at hd
    split at hd <;> cases hd
theorem def_body {X : Cx} {E : XK} {c : RC} {N : List Str} {n : Nat} {body : List Stmt} (hb : SCs X (fun cl d _ H => E cl d H) body c) {H : Hp} {vs : List V} {Q : VK} (h : spD X.K X.mg (runF c N.length n) n vs H Q E) :
    ∃ t, PSs X body t ∧ t { nx := fun _ H' => Q .non H', rt := Q } (L2.start N vs) H := by
  obtain ⟨μ, S, ds, hn, hS, r, h⟩ := h
  refine ⟨_, hb, μ, _, S, hS, start_rep (N := N) r, ?_⟩
  unfold runF at h
  rw [if_pos hn] at h
  rw [hn]
  cases q : c (ds.map some ++ List.replicate (N.length - n) none) S with
  | no => rw [q] at h; exact h
  | ex x ρ S1 => rw [q] at h; exact fun μ1 σ1 H1 cl dd a b c d => h μ1 H1 cl dd a c d
  | fl f S1 =>
    rw [q] at h
    cases f with
    | nx ρ => exact fun μ1 σ1 H1 a b c => h μ1 H1 .non a c .non
    | rt d => exact fun μ1 v H1 a b c => h μ1 H1 v a b c
    | bk ρ => exact h.elim
    | ct ρ => exact h.elim
/-- THE RULE for a def that lets no exception out -/
theorem fn_mk {x qual : Str} {st : Stmt} {f : Addr} {fd : FuncData} {N ps : List Str} {k : Nat} {c : RC} (F : Fun K x qual st f fd) (S : FnScope N ps (defScope st))
    (hbody : ∀ (cdv : Value) (A : Around) (outer : List PySem.Env) (s : Shared) (H : Hp) (E : XK), Room k (A.deeper (envOfC qual (defScope st) s.heap.objs.size f cdv)) →
      SCs (cxOf CX0 P w K mg base N qual (defScope st) f cdv A outer s H E).nox (fun cl d _ H => E cl d H) (defBody st) c) : FnOk P w K mg base CX0 (k + 1) f fd ps (spD K mg (runF c N.length ps.length) ps.length) :=
  F.ok S (fun vs H Q E ⟨μ, S, ds, hn, hS, r, h⟩ => r.1.trans hn) fun cdv A outer s H vs Q E hr h => def_body (X := (cxOf CX0 P w K mg base N qual (defScope st) f cdv A outer s H E).nox) (hbody cdv A outer s H E hr) h
theorem pas0 {X : Cx} {W : WX} : ∀ σ, PassesAt CX0 X σ (W.at σ) := fun _ _ _ _ _ _ _ h => h.elim
/-- a promise may be said of a greater function -/
theorem fn_more {CX : CXT} {k n : Nat} {f : Addr} {fd : FuncData} {ps : List Str} {F G : List Dv → Sto → Out Dv} (h : FnOk P w K mg base CX k f fd ps (spD K mg F n)) (e : ∀ ds S, G ds S = .no ∨ G ds S = F ds S) : FnOk P w K mg base CX k f fd ps (spD K mg G n) :=
  h.imp fun vs H Q E ⟨μ, S, ds, hn, hS, r, q⟩ => ⟨μ, S, ds, hn, hS, r, by
    rcases e ds S with z | z
    · rw [z] at q; exact q.elim
    · rw [← z]; exact q⟩
end
end PL

namespace PL
open PySem PySem.Spec PyProof.Rows L2
theorem hu65 {A : Around} {k : Nat} (hr : Room k A) : A.units + 65 < cLine := by have := hr.un; omega
theorem fn_zero {P : Program} {w : World} {K : PySem.W.Frag} {mg : Str → Option Value} {base : Heap} {CX : CXT} {k n : Nat} {f : Addr} {fd : FuncData} {ps : List Str} (h : n = ps.length) : FnOk P w K mg base CX k f fd ps (spD K mg (fun _ _ => .no) n) :=
  ⟨fun vs H Q E ⟨μ, S, ds, hn, hS, r, q⟩ => q.elim, fun A outer s H args us vs Q E hr he hb hv ⟨μ, S, ds, hn, hS, r, q⟩ => q.elim⟩
theorem bt_len : bootBuiltins "len" = some (.builtin "len") := by decide +kernel
theorem bt_max : bootBuiltins "max" = some (.builtin "max") := by decide +kernel
theorem bt_min : bootBuiltins "min" = some (.builtin "min") := by decide +kernel
theorem bt_sum : bootBuiltins "sum" = some (.builtin "sum") := by decide +kernel
theorem bt_any : bootBuiltins "any" = some (.builtin "any") := by decide +kernel
theorem bt_abs : bootBuiltins "abs" = some (.builtin "abs") := by decide +kernel
theorem bt_sorted : bootBuiltins "sorted" = some (.builtin "sorted") := by decide +kernel
theorem bt_int : bootBuiltins "int" = some (.type "int") := by decide +kernel
theorem bt_list : bootBuiltins "list" = some (.type "list") := by decide +kernel
theorem bt_tuple : bootBuiltins "tuple" = some (.type "tuple") := by decide +kernel
theorem bt_str : bootBuiltins "str" = some (.type "str") := by decide +kernel
theorem bt_bool : bootBuiltins "bool" = some (.type "bool") := by decide +kernel
theorem bt_dict : bootBuiltins "dict" = some (.type "dict") := by decide +kernel
theorem bt_set : bootBuiltins "set" = some (.type "set") := by decide +kernel
end PL

namespace PL
open PySem PySem.Spec PyProof.Rows L2

/-! ### reckoning with outcomes -/
section
variable {ρ ρ' : Env} {S S' S1 : Sto} {a b c : RE} {x y d e : Dv} {ra rb : RC} {ta tb : RT}
theorem ev_var (i : Nat) : eVar i ρ S = match ρ[i]? with | some (some d) => .ok d S | _ => .no := .trans rfl rfl
theorem ev_con : eCon d ρ S = .ok d S := .trans rfl rfl
theorem ev_bin (f : Dv → Dv → Sto → Out Dv) : eBin f a b ρ S = (a ρ S).bind fun x S1 => (b ρ S1).bind fun y S2 => f x y S2 := .trans rfl rfl
theorem ev_un (f : Dv → Sto → Out Dv) : eUn f a ρ S = (a ρ S).bind f := .trans rfl rfl
theorem ev_anil : aNil ρ S = .ok [] S := .trans rfl rfl
theorem ev_acons (r : RE) (t : RA) : aCons r t ρ S = (r ρ S).bind fun d S1 => (t ρ S1).bind fun ds S2 => .ok (d :: ds) S2 := .trans rfl rfl
theorem ev_call (f : List Dv → Sto → Out Dv) (a : RA) : eCall f a ρ S = (a ρ S).bind f := .trans rfl rfl
theorem ev_tup (a : RA) : eTup a ρ S = (a ρ S).bind fun ds S1 => if ds.length ≤ sizeLine then .ok (.tup ds) S1 else .no := .trans rfl rfl
theorem ev_lst (a : RA) : eLst a ρ S = (a ρ S).bind fun ds S1 => if ds.length ≤ sizeLine then .ok (.ref S1.length) (S1 ++ [.lst ds]) else .no := .trans rfl rfl
theorem ev_not : eNot a ρ S = (a ρ S).bind fun d S1 => match d with | .bl b => .ok (.bl (!b)) S1 | _ => .no := .trans rfl rfl
theorem ev_and : eAnd a b ρ S = (a ρ S).bind fun d S1 => match d with | .bl true => b ρ S1 | .bl false => .ok (.bl false) S1 | _ => .no := .trans rfl rfl
theorem ev_or : eOr a b ρ S = (a ρ S).bind fun d S1 => match d with | .bl true => .ok (.bl true) S1 | .bl false => b ρ S1 | _ => .no := .trans rfl rfl
theorem ev_if : eIf ta a b ρ S = (ta ρ S).bind fun t S1 => if t = true then a ρ S1 else b ρ S1 := .trans rfl rfl
theorem ev_cbl : cBl a ρ S = (a ρ S).bind bTrue := .trans rfl rfl
theorem ev_btrue (b : Bool) : bTrue (.bl b) S = .ok b S := .trans rfl rfl
theorem ev_cand : cAnd ta tb ρ S = (ta ρ S).bind fun t S1 => if t = true then tb ρ S1 else .ok false S1 := .trans rfl rfl
theorem ev_cor : cOr ta tb ρ S = (ta ρ S).bind fun t S1 => if t = true then .ok true S1 else tb ρ S1 := .trans rfl rfl
theorem ev_cnot : cNot ta ρ S = (ta ρ S).bind fun t S1 => .ok (!t) S1 := .trans rfl rfl
theorem ev_sli (l h : RO) : eSli a l h ρ S = (a ρ S).bind fun d S1 => (l ρ S1).bind fun lo S2 => (h ρ S2).bind fun hi S3 => sliD d lo hi S3 := .trans rfl rfl
theorem ev_onone : oNone ρ S = .ok none S := .trans rfl rfl
theorem ev_osome : oSome a ρ S = (a ρ S).bind fun d S1 => match d with | .int i => .ok (some i) S1 | _ => .no := .trans rfl rfl
theorem ev_chain (f g : Dv → Dv → Sto → Out Dv) : eChain f g a b c ρ S = (a ρ S).bind fun x S1 => (b ρ S1).bind fun y S2 => (f x y S2).bind fun z S3 => match z with
  | .bl true => (c ρ S3).bind fun w S4 => g y w S4
  | .bl false => .ok (.bl false) S3
  | _ => .no := .trans rfl rfl
theorem ev_meth (T : String) (f : Dv → List Dv → Sto → Out Dv) (a' : RA) : eMeth T f a a' ρ S = (a ρ S).bind fun d S1 => if tyQ T d S1 = true then (a' ρ S1).bind fun ds S2 => f d ds S2 else .no := .trans rfl rfl
theorem ev_get2 : eGet2 a b c ρ S = (a ρ S).bind fun d S1 => if tyQ "dict" d S1 = true then (b ρ S1).bind fun y S2 => (c ρ S2).bind fun z S3 => getD2 d [y, z] S3 else .no := .trans rfl rfl
theorem ev_newK : eNewK ρ S = .ok (.ref S.length) (S ++ [.dk []]) := .trans rfl rfl
theorem ev_newT : eNewT ρ S = .ok (.ref S.length) (S ++ [.dt []]) := .trans rfl rfl
theorem ev_own (n : Nat) (F : List Dv → Sto → Out Dv) (a : RA) : eOwn n F a ρ S = (a ρ S).bind fun ds S1 => if ds.length = n then F ds S1 else .no := .trans rfl rfl
theorem ev_nil : cNil ρ S = .fl (.nx ρ) S := .trans rfl rfl
theorem ev_seq : cSeq ra rb ρ S = match ra ρ S with | .fl (.nx ρ') S' => rb ρ' S' | o => o := .trans rfl rfl
theorem ev_expr : cExpr a ρ S = bindS (a ρ S) ρ fun _ S1 => .fl (.nx ρ) S1 := .trans rfl rfl
theorem ev_set (i : Nat) : cSet i a ρ S = bindS (a ρ S) ρ fun d S1 => .fl (.nx (ρ.set i (some d))) S1 := .trans rfl rfl
theorem ev_ret : cRet a ρ S = bindS (a ρ S) ρ fun d S1 => .fl (.rt d) S1 := .trans rfl rfl
theorem ev_retN : cRetN ρ S = .fl (.rt .non) S := .trans rfl rfl
theorem ev_cif : cIf ta ra rb ρ S = bindS (ta ρ S) ρ fun c S1 => if c = true then ra ρ S1 else rb ρ S1 := .trans rfl rfl
theorem ev_brk : cBrk ρ S = .fl (.bk ρ) S := .trans rfl rfl
theorem ev_ct : cCt ρ S = .fl (.ct ρ) S := .trans rfl rfl
theorem ev_asg (t : Tg) : cAsg t a ρ S = bindS (a ρ S) ρ fun d S1 => match t.set d ρ with | some ρ' => .fl (.nx ρ') S1 | none => .no := .trans rfl rfl
theorem ev_put : cPut a b c ρ S = bindS (c ρ S) ρ fun d S1 => bindS (a ρ S1) ρ fun x S2 => bindS (b ρ S2) ρ fun y S3 => match putD x y d S3 with | some S4 => .fl (.nx ρ) S4 | none => .no := .trans rfl rfl
theorem ev_aug (i : Nat) (f : Dv → Dv → Sto → Out Dv) : cAug i f a ρ S = bindS (eBin f (eVar i) a ρ S) ρ fun d S1 => .fl (.nx (ρ.set i (some d))) S1 := .trans rfl rfl
theorem ev_for (r : RI) (t : Tg) : cFor r t ra ρ S = bindS (r ρ S) ρ fun w S1 => loop w.2.ok t ra w.1 ρ S1 := .trans rfl rfl
theorem ev_comp (r : RI) (t : Tg) (c : RT) (y : RE) (vs : List Nat) : eComp r t c y vs ρ S = (r ρ S).bind fun w S1 => (compL w.2.ok t c y (wipeE ρ vs) w.1 [] S1).bind newL := .trans rfl rfl
theorem ev_newL (ds : List Dv) : newL ds S = .ok (.ref S.length) (S ++ [.lst ds]) := .trans rfl rfl
theorem ev_iseq : iSeq a ρ S = (a ρ S).bind fun d S1 => match walkD d S1 with | some w => .ok w S1 | none => .no := .trans rfl rfl
theorem ev_irange (f : List Dv → Option (List Dv)) (a : RA) : iRange f a ρ S = (a ρ S).bind fun ds S1 => match f ds with | some w => .ok (w, .tt) S1 | none => .no := .trans rfl rfl
theorem ev_ienum (a : RA) : iEnum a ρ S = (a ρ S).bind fun ds S1 => match ds with
  | [d] => match lstOf S1 d with
    | some xs => .ok (enumL xs, ckOf d xs) S1
    | none => .no
  | _ => .no := .trans rfl rfl
theorem ev_yes : cYes ρ S = .ok true S := .trans rfl rfl

/-! ### loops by an invariant -/
theorem loop_gen {ck : Sto → Prop} [∀ S, Decidable (ck S)] {t : Tg} {b : RC} (I : Nat → Env → Sto → Prop) (D : OutS → Prop) (ds : List Dv) (n : Nat)
    (hs : ∀ i d ρ S, ds[i]? = some d → I (n + i) ρ S → ck S ∧ ∃ ρ1, t.set d ρ = some ρ1 ∧ ((∃ ρ2 S2, (b ρ1 S = .fl (.nx ρ2) S2 ∨ b ρ1 S = .fl (.ct ρ2) S2) ∧ I (n + i + 1) ρ2 S2) ∨ (∃ ρ2 S2, b ρ1 S = .fl (.bk ρ2) S2 ∧ D (.fl (.nx ρ2) S2)) ∨ (∃ e S2, b ρ1 S = .fl (.rt e) S2 ∧ D (.fl (.rt e) S2))))
    (he : ∀ ρ S, I (n + ds.length) ρ S → ck S ∧ D (.fl (.nx ρ) S)) (ρ : Env) (S : Sto) (h0 : I n ρ S) : D (loop ck t b ds ρ S) := by
  induction ds generalizing n ρ S with
  | nil =>
    obtain ⟨h1, h2⟩ := he ρ S h0
    rw [loop, if_pos h1]; exact h2
  | cons d ds ih =>
    obtain ⟨hc, ρ1, e1, h⟩ := hs 0 d ρ S rfl h0
    have ih2 : ∀ ρ S, I (n + 1) ρ S → D (loop ck t b ds ρ S) := fun ρ S hI => ih (n + 1)
      (fun i d' ρ S hd hI => by
        have := hs (i + 1) d' ρ S (by simpa using hd) (by rw [show n + (i + 1) = n + 1 + i by omega]; exact hI)
        rw [show n + (i + 1) + 1 = n + 1 + i + 1 by omega] at this
        exact this)
      (fun ρ S hI => he ρ S (by rw [List.length_cons, show n + (ds.length + 1) = n + 1 + ds.length by omega]; exact hI)) ρ S hI
    rw [loop, if_pos hc, e1]
    rcases h with ⟨ρ2, S2, h | h, hI⟩ | ⟨ρ2, S2, h, hD⟩ | ⟨e, S2, h, hD⟩
    · simp only [h]; exact ih2 ρ2 S2 hI
    · simp only [h]; exact ih2 ρ2 S2 hI
    · simp only [h]; exact hD
    · simp only [h]; exact hD
/-- a loop that runs to its end -/
theorem loop_all {ck : Sto → Prop} [∀ S, Decidable (ck S)] {t : Tg} {b : RC} (I : Nat → Env → Sto → Prop) (ds : List Dv) {ρ : Env} {S : Sto} (h0 : I 0 ρ S)
    (hs : ∀ i d ρ S, ds[i]? = some d → I i ρ S → ck S ∧ ∃ ρ1, t.set d ρ = some ρ1 ∧ ∃ ρ2 S2, (b ρ1 S = .fl (.nx ρ2) S2 ∨ b ρ1 S = .fl (.ct ρ2) S2) ∧ I (i + 1) ρ2 S2)
    (he : ∀ ρ S, I ds.length ρ S → ck S) : ∃ ρ' S', loop ck t b ds ρ S = .fl (.nx ρ') S' ∧ I ds.length ρ' S' := by
  refine loop_gen (t := t) (b := b) I (fun o => ∃ ρ' S', o = .fl (.nx ρ') S' ∧ I ds.length ρ' S') ds 0 (fun i d ρ S hd hI => ?_) (fun ρ S hI => ?_) ρ S h0
  · rw [Nat.zero_add] at hI ⊢
    obtain ⟨a, ρ1, b, c⟩ := hs i d ρ S hd hI
    exact ⟨a, ρ1, b, .inl c⟩
  · rw [Nat.zero_add] at hI
    exact ⟨he ρ S hI, ρ, S, rfl, hI⟩
theorem comp_gen {ck : Sto → Prop} [∀ S, Decidable (ck S)] {t : Tg} {c : RT} {y : RE} (I : Nat → List Dv → Sto → Prop) (ds : List Dv) (ρ : Env)
    (hs : ∀ i d acc S, ds[i]? = some d → I i acc S → ck S ∧ ∃ ρ1, t.set d ρ = some ρ1 ∧ ∃ k S1, c ρ1 S = .ok k S1 ∧ (k = true → ∃ z S2, y ρ1 S1 = .ok z S2 ∧ acc.length < sizeLine ∧ I (i + 1) (acc ++ [z]) S2) ∧ (k = false → I (i + 1) acc S1))
    (he : ∀ acc S, I ds.length acc S → ck S) {acc : List Dv} {S : Sto} (h0 : I 0 acc S) : ∃ acc' S', compL ck t c y ρ ds acc S = .ok acc' S' ∧ I ds.length acc' S' := by
  suffices H : ∀ (rest : List Dv) (n : Nat) (acc : List Dv) (S : Sto), n + rest.length = ds.length → ds.drop n = rest → I n acc S → ∃ acc' S', compL ck t c y ρ rest acc S = .ok acc' S' ∧ I ds.length acc' S' from H ds 0 acc S (by simp) rfl h0
  intro rest
  induction rest with
  | nil =>
    intro n acc S hn _ hI
    have : n = ds.length := by simpa using hn
    subst this
    rw [compL, if_pos (he acc S hI)]
    exact ⟨_, _, rfl, hI⟩
  | cons d rest ih =>
    intro n acc S hn hd hI
    have hdn : ds[n]? = some d := by
      have : (ds.drop n)[0]? = some d := by rw [hd]; rfl
      simpa using this
    have hd2 : ds.drop (n + 1) = rest := by rw [← List.drop_drop, hd]; rfl
    obtain ⟨hc, ρ1, e1, k, S1, e2, h1, h2⟩ := hs n d acc S hdn hI
    rw [compL, if_pos hc, e1]
    simp only [e2, Out.bindN_ok]
    cases k with
    | true =>
      obtain ⟨z, S2, e3, hl, hI2⟩ := h1 rfl
      simp only [if_true, e3, Out.bindN_ok, if_pos hl]
      exact ih (n + 1) _ S2 (by rw [List.length_cons] at hn; omega) hd2 hI2
    | false => exact ih (n + 1) _ S1 (by rw [List.length_cons] at hn; omega) hd2 (h2 rfl)
end
/-! ### stores -/
/-- what stood stands, but at the places P -/
structure Fr (P : Nat → Prop) (S S' : Sto) : Prop where
  le : S.length ≤ S'.length
  get : ∀ (l : Nat) (o : Ob), S[l]? = some o → ¬ P l → S'[l]? = some o
abbrev Gr (S S' : Sto) : Prop := Fr (fun _ => False) S S'
theorem Fr.refl {P : Nat → Prop} (S : Sto) : Fr P S S := ⟨Nat.le_refl _, fun _ _ h _ => h⟩
theorem Fr.trans {P : Nat → Prop} {S S1 S2 : Sto} (h : Fr P S S1) (t : Fr P S1 S2) : Fr P S S2 := ⟨Nat.le_trans h.le t.le, fun l o e n => t.get l o (h.get l o e n) n⟩
theorem Fr.imp {P P' : Nat → Prop} {S S1 : Sto} (h : Fr P S S1) (i : ∀ l, l < S.length → P l → P' l) : Fr P' S S1 := ⟨h.le, fun l o e n => h.get l o e fun z => n (i l (List.getElem?_eq_some_iff.mp e).1 z)⟩
theorem Gr.any {P : Nat → Prop} {S S1 : Sto} (h : Gr S S1) : Fr P S S1 := h.imp fun _ _ z => z.elim
theorem Gr.at {S S1 : Sto} (h : Gr S S1) {l : Nat} {o : Ob} (e : S[l]? = some o) : S1[l]? = some o := h.get l o e id
theorem gr_app (S T : Sto) : Gr S (S ++ T) := ⟨by simp, fun l o e _ => by rw [List.getElem?_append_left (List.getElem?_eq_some_iff.mp e).1]; exact e⟩
theorem at_new (S : Sto) (o : Ob) : (S ++ [o])[S.length]? = some o := by simp
theorem fr_set (S : Sto) (l : Nat) (o : Ob) : Fr (· = l) S (S.set l o) := ⟨by simp, fun m u e n => by rw [List.getElem?_set_ne (fun z => n z.symm)]; exact e⟩
theorem at_set {S : Sto} {l : Nat} {o u : Ob} (e : S[l]? = some u) : (S.set l o)[l]? = some o := List.getElem?_set_self (List.getElem?_eq_some_iff.mp e).1
theorem lt_of_at {S : Sto} {l : Nat} {u : Ob} (e : S[l]? = some u) : l < S.length := (List.getElem?_eq_some_iff.mp e).1
theorem ne_new {S : Sto} {l : Nat} {u : Ob} (e : S[l]? = some u) : l ≠ S.length := Nat.ne_of_lt (lt_of_at e)
end PL
namespace PL
open PySem PySem.Spec PyProof.Rows L2
theorem fn_def {P : Program} {w : World} {K : PySem.W.Frag} {mg : Str → Option Value} {base : Heap} {x qual : Str} {st : Stmt} {f : Addr} {fd : FuncData} {N ps : List Str} {k m n : Nat} {c : RC} {G : List Dv → Sto → Out Dv} (F : Fun K x qual st f fd) (S : FnScope N ps (defScope st)) (hG : G = runF c m n) (hm : N.length = m) (hn : ps.length = n)
    (hbody : ∀ (cdv : Value) (A : Around) (outer : List PySem.Env) (s : Shared) (H : Hp) (E : XK), Room k (A.deeper (envOfC qual (defScope st) s.heap.objs.size f cdv)) →
      SCs (cxOf CX0 P w K mg base N qual (defScope st) f cdv A outer s H E).nox (fun cl d _ H => E cl d H) (defBody st) c) : FnOk P w K mg base CX0 (k + 1) f fd ps (spD K mg G n) := by
  subst hG hm hn
  exact fn_mk F S hbody
end PL
namespace PL
open PySem PySem.Spec PyProof.Rows L2
section
variable {X : Cx} {W : WX} {tg iter elt : Expr} {ifs : List Expr} {scope : Scope} {own : List (Str × Nat)} {pos spos : Pos} {r : RI} {t : Tg} {rc : RT} {ry : RE} {vs : List Nat}
theorem se_compB (own : List (Str × Nat)) (hc : X.calm = true) (hN : X.N.Nodup) (hi : SI X W tg iter r) (ok : BlkOk X.N X.env.scope scope own) (hg : Blk X scope fun Y => SG Y tg t) (ht : Blk X scope fun Y => PTs Y ifs (tG RBool X.K X.mg W rc)) (he : Blk X scope fun Y => SE Y W elt ry)
    (hv : vs = own.map (·.2)) (hown : ∀ i ∈ t.slots, i ∈ own.map (·.2)) (hs : ∀ x, foldedSetIterable iter X.env x = pure x := by intro _; rfl) : SE X W (.ListComp elt [⟨tg, iter, ifs, 0⟩] scope pos) (eComp r t rc ry vs) := by
  subst hv; exact se_comp hc hN hi ok hg ht he hown hs
theorem sc_setCompB {i : Nat} {y : Str} {py : Pos} (own : List (Str × Nat)) (hc : X.calm = true) (hN : X.N.Nodup) (hy : X.N[i]? = some y) (hyl : X.env.scope.names.lookup y = some .local) (hsw : swapsWith (.ListComp elt [⟨tg, iter, ifs, 0⟩] scope pos) (some (.Name y py)) spos.line X.env = pure true)
    (hi : SI X W tg iter r) (ok : BlkOk X.N X.env.scope scope own) (hg : Blk X scope fun Y => SG Y tg t) (ht : Blk X scope fun Y => PTs Y ifs (tG RBool X.K X.mg W rc)) (he : Blk X scope fun Y => SE Y W elt ry)
    (hv : vs = own.map (·.2)) (hown : ∀ i ∈ t.slots, i ∈ own.map (·.2)) (hs : ∀ x, foldedSetIterable iter X.env x = pure x := by intro _; rfl) : SC X W (.Assign [.Name y py] (.ListComp elt [⟨tg, iter, ifs, 0⟩] scope pos) spos) (cSet i (eComp r t rc ry vs)) := by
  subst hv; exact sc_setComp hc hN hy hyl hsw hi ok hg ht he hown hs
end
end PL
namespace PL
open PySem PySem.Spec PyProof.Rows L2
/-! ### the end -/
theorem walk_law {l : PySem.W.OpenLaw} {q : Program} {loose : List Str} {XP : (Str → Option Value) → Heap → Prop} {YP : World → Heap → Prop} {d : DefRec} {K : Params → PySem.W.Frag} {k : Nat} {x : Str} {G : List Dv → Sto → Out Dv} (hn : l.most = some 63) (hdf : d.params.defaults = []) (hr : Room k callerA)
    (hY : ∀ (w : World) (h : Heap), YP w h → (K w.params).In h)
    (hG : ∀ ns : List Int, ns.length ≤ 63 → ∃ S, G [.fl (ns.map .int)] [] = .ok (.bl true) S)
    (FF : ∀ (w : World) (mg : Str → Option Value) (fa : Addr) (h : Heap), (K w.params).In h → h.Ns mainGlobals mg → mg d.name = some (.ref fa) →
      ∃ fd : FuncData, (∀ (s : Shared) (u : Value), BindsTo s fd ⟨[u], []⟩ [(x, u)]) ∧ ∀ base : Heap, (K w.params).In base → base.Ns mainGlobals mg → FnOk l.prog w (K w.params) mg base CX0 k fa fd [x] (spD (K w.params) mg G 1)) :
    PySem.W.WalkO q loose XP YP l.row.toRowW d [] (fun f vs => PySem.call f vs) := by
  refine L2.walk_of (n := 63) (k := k) (x := x) (CX := fun _ => CX0) (sp := fun w vs H Q _ => ∃ (a : Addr) (ns : List Int), vs = [.ref a] ∧ SqL (K w.params) H a (ns.map V.int) ∧ ns.length ≤ 63 ∧ Only H ∧ ∀ H', Q (.bl true) H') hn (by decide) hdf hr hY ?_ (fun _ _ a ns hl ho hS => ⟨a, ns, rfl, hS, hl, ho, fun _ => rfl⟩) fun _ _ _ _ _ z => z
  intro w mg fa h hK hNs hmg
  obtain ⟨fd, h1, h2⟩ := FF w mg fa h hK hNs hmg
  refine ⟨fd, h1, fun base hb hn => (h2 base hb hn).imp ?_⟩
  rintro vs H Q E ⟨a, ns, rfl, hS, hl, ho, hQ⟩
  obtain ⟨S', e⟩ := hG ns hl
  refine ⟨[], [], [.fl (ns.map .int)], rfl, ⟨rfl, List.nodup_nil, fun l a o z => by simp at z⟩, Reps.one ?_, ?_⟩
  · refine Rep.fl (vs := ns.map V.int) ?_ (by simp) (fun i v d h1 h2 => ?_)
    · rcases hS with h | ⟨o, its, n, h⟩
      · left
        refine ⟨?_, by simp⟩
        rcases h with h | h
        · rcases ho a with z | ⟨o, xs, z⟩
          · rw [z] at h; cases h
          · rw [z] at h; cases h
        · exact h
      · exact .inr ⟨o, its, n, h⟩
    · rw [List.getElem?_map] at h1 h2
      cases q : ns[i]? with
      | none => rw [q] at h1; cases h1
      | some j =>
        rw [q] at h1 h2
        cases h1; cases h2
        exact .int j
  · rw [e]
    intro μ1 H1 v _ _ rv
    cases rv with
    | bl b => exact hQ H1
end PL
namespace PL
open PySem PySem.Spec PyProof.Rows L2
theorem runF_rt {c : RC} {m n : Nat} {ds : List Dv} {S S' : Sto} {d : Dv} {ρ : Env} (hρ : ds.map some ++ List.replicate (m - n) none = ρ) (hn : ds.length = n) (h : c ρ S = .fl (.rt d) S') : runF c m n ds S = .ok d S' := by
  unfold runF
  rw [if_pos hn, hρ, h]
theorem runF_nx {c : RC} {m n : Nat} {ds : List Dv} {S S' : Sto} {ρ ρ' : Env} (hρ : ds.map some ++ List.replicate (m - n) none = ρ) (hn : ds.length = n) (h : c ρ S = .fl (.nx ρ') S') : runF c m n ds S = .ok .non S' := by
  unfold runF
  rw [if_pos hn, hρ, h]
end PL

namespace PL
open PySem PySem.Spec PyProof.Rows L2
section
variable {S S' : Sto} {d x y : Dv} {ds xs : List Dv}
theorem Fr.then {P Q : Nat → Prop} {S S1 S2 : Sto} (g : Fr P S S1) (f : Fr Q S1 S2) (h : ∀ l, Q l → l < S.length → P l) : Fr P S S2 := ⟨Nat.le_trans g.le f.le, fun l o e n => f.get l o (g.get l o e n) fun q => n (h l q (List.getElem?_eq_some_iff.mp e).1)⟩
theorem Gr.new {Q : Nat → Prop} {S S1 S2 : Sto} (g : Gr S S1) (f : Fr Q S1 S2) (h : ∀ l, Q l → S.length ≤ l) : Gr S S2 := Fr.then g f fun l q hl => absurd (h l q) (by omega)
theorem lst_gr (g : Gr S S') (h : lstOf S d = some ds) : lstOf S' d = some ds := by
  cases d with
  | fl => exact h
  | ref l =>
    simp only [lstOf] at h ⊢
    split at h
    · rename_i q; rw [g.at q]; exact h
    · cases h
  | _ => cases h
theorem lst_ref {l : Nat} (h : S[l]? = some (.lst ds)) : lstOf S (.ref l) = some ds := by simp only [lstOf, h]
theorem tup_lst (h : lstOf S d = some ds) : tupOf d = none := by cases d <;> first | rfl | cases h
theorem seq_lst (h : lstOf S d = some ds) : seqOf S d = some ds := by rw [seqOf, tup_lst h, h]
theorem len_seq (h : seqOf S d = some ds) : lenD [d] S = .ok (.int ds.length) S := by
  cases d with
  | str x => cases h
  | _ => simp only [lenD, h]
theorem len_lst (h : lstOf S d = some ds) : lenD [d] S = .ok (.int ds.length) S := len_seq (seq_lst h)
theorem len_ref {l : Nat} (h : S[l]? = some (.lst ds)) : lenD [.ref l] S = .ok (.int ds.length) S := len_lst (lst_ref h)
theorem len_tup : lenD [.tup ds] S = .ok (.int ds.length) S := len_seq rfl
theorem idx_lst (h : lstOf S d = some ds) {i : Int} (e : atI ds i = some x) : idxD d (.int i) S = .ok x S := by
  cases d with
  | str => cases h
  | _ => simp only [idxD, tup_lst h, h, e]
theorem idx_ref {l : Nat} (h : S[l]? = some (.lst ds)) {i : Int} (e : atI ds i = some x) : idxD (.ref l) (.int i) S = .ok x S := idx_lst (lst_ref h) e
theorem idx_tup {i : Int} (e : atI ds i = some x) : idxD (.tup ds) (.int i) S = .ok x S := by simp only [idxD, tupOf, e]
theorem atI_nat {α : Type} {xs : List α} {i : Nat} {a : α} (e : xs[i]? = some a) : atI xs (i : Int) = some a := by
  have h := (List.getElem?_eq_some_iff.mp e).1
  unfold atI ixN
  rw [if_pos (by omega), if_pos (by omega)]
  simpa using e
theorem atI_last {α : Type} {xs : List α} {a : α} : atI (xs ++ [a]) (-1) = some a := by
  unfold atI ixN
  rw [if_neg (by omega), if_pos (by simp; omega)]
  simp only [List.length_append, List.length_cons, List.length_nil, Option.bind_some]
  rw [show (-1 + ((xs.length + (0 + 1) : Nat) : Int)).toNat = xs.length by omega]
  simp
theorem idx_last {l : Nat} (h : S[l]? = some (.lst (xs ++ [x]))) : idxD (.ref l) (.int (-1)) S = .ok x S := idx_ref h atI_last
theorem idx_t0 {a : Dv} : idxD (.tup (a :: ds)) (.int 0) S = .ok a S := idx_tup (atI_nat (i := 0) rfl)
theorem idx_t1 {a b : Dv} : idxD (.tup (a :: b :: ds)) (.int 1) S = .ok b S := idx_tup (atI_nat (i := 1) rfl)
theorem idx_t2 {a b c : Dv} : idxD (.tup (a :: b :: c :: ds)) (.int 2) S = .ok c S := idx_tup (atI_nat (i := 2) rfl)
theorem idx_t3 {a b c e : Dv} : idxD (.tup (a :: b :: c :: e :: ds)) (.int 3) S = .ok e S := idx_tup (atI_nat (i := 3) rfl)
theorem atI_mod {α : Type} {xs : List α} (h : xs ≠ []) (i : Int) : ∃ a, a ∈ xs ∧ atI xs (i % (xs.length : Int)) = some a := by
  have hp : 0 < xs.length := List.length_pos_iff.mpr h
  have h1 := Int.emod_nonneg i (b := (xs.length : Int)) (by omega)
  have h2 := Int.emod_lt_of_pos i (b := (xs.length : Int)) (by omega)
  obtain ⟨j, hj⟩ := Int.eq_ofNat_of_zero_le h1
  have hl : j < xs.length := by omega
  exact ⟨xs[j], List.getElem_mem hl, by rw [hj]; exact atI_nat (List.getElem?_eq_getElem hl)⟩
theorem rangeL_get {lo hi : Int} {i : Nat} (h : (rangeL lo hi)[i]? = some d) : d = .int (lo + i) ∧ lo + i < hi := by
  unfold rangeL at h
  rw [List.getElem?_map] at h
  obtain ⟨j, hj, e⟩ := Option.map_eq_some_iff.mp h
  obtain ⟨hl, e2⟩ := List.getElem?_eq_some_iff.mp hj
  simp at hl e2
  subst e2
  exact ⟨e.symm, by omega⟩
theorem rangeL_len (lo hi : Int) : (rangeL lo hi).length = (hi - lo).toNat := by unfold rangeL; simp
theorem rok_of {i : Int} (h : 0 ≤ i) (h2 : i < 2 ^ 62) : rok i = true := by unfold rok; exact @decide_eq_true _ (Classical.propDecidable _) ⟨by omega, h2⟩
theorem rng1_of {i : Int} (h : 0 ≤ i) (h2 : i < 2 ^ 62) : rng1 [.int i] = some (rangeL 0 i) := by simp only [rng1]; rw [if_pos (rok_of h h2)]
theorem app_ref {l : Nat} (h : S[l]? = some (.lst ds)) (hl : ds.length < sizeLine) : appendD (.ref l) [x] S = .ok .non (S.set l (.lst (ds ++ [x]))) := by simp only [appendD, lmap, h, if_pos hl]
theorem pop_ref {l : Nat} (h : S[l]? = some (.lst (ds ++ [x]))) : popD (.ref l) [] S = .ok x (S.set l (.lst ds)) := by
  simp only [popD, lmap, h]
  simp
theorem tyq_ref {l : Nat} (h : S[l]? = some (.lst ds)) : tyQ "list" (.ref l) S = true := by simp only [tyQ, h]; rfl
theorem list_ref {l : Nat} (h : S[l]? = some (.lst ds)) : listD [.ref l] S = newL ds S := by simp only [listD, seq_lst (lst_ref h)]
theorem tuple_ref {l : Nat} (h : S[l]? = some (.lst ds)) : tupleD [.ref l] S = .ok (.tup ds) S := by simp only [tupleD, lst_ref h]
theorem walk_ref {l : Nat} (h : S[l]? = some (.lst ds)) : walkD (.ref l) S = some (ds, .ls l ds) := by simp only [walkD, seq_lst (lst_ref h)]; rfl
theorem walk_tup : walkD (.tup ds) S = some (ds, .tt) := by simp only [walkD, seqOf, tupOf]; rfl
theorem sline (n : Nat) (h : n ≤ 16777216) : n ≤ sizeLine := h
end

/-! ### the law's draws -/
section
noncomputable def drawsB : RC := cSeq (cSet 4 (eCon (.int 0))) (cSeq (cIf (cBl (eBin gtD (eCall lenD (aCons (eVar 0) (aNil))) (eCon (.int 0)))) (cSet 4 (eBin modD (eBin idxD (eVar 0) (eBin modD (eVar 3) (eCall lenD (aCons (eVar 0) (aNil))))) (eBin powD (eCon (.int 10)) (eCon (.int 18))))) (cNil)) (cExpr (eMeth "list" appendD (eVar 2) (aCons (eBin addD (eVar 4) (eBin mulD (eCon (.int 7919)) (eBin fdivD (eVar 3) (eCall max2D (aCons (eCon (.int 1)) (aCons (eCall lenD (aCons (eVar 0) (aNil))) (aNil))))))) (aNil)))))
noncomputable def drawsC : RC := cSeq (cSet 2 (eLst (aNil))) (cSeq (cFor (iRange rng1 (aCons (eVar 1) (aNil))) (.nm 3) drawsB) (cRet (eVar 2)))
variable {S S' : Sto} {d : Dv}
theorem draws_run {ns : List Int} {n : Nat} (hd : lstOf S d = some (ns.map .int)) (hn : n ≤ 1000) (hl : ns.length ≤ 63) : ∃ (l : Nat) (xs : List Int) (S' : Sto), runF drawsC 5 2 [d, .int n] S = .ok (.ref l) S' ∧ Gr S S' ∧ S.length ≤ l ∧ S'[l]? = some (.lst (xs.map .int)) ∧ xs.length = n ∧ ∀ x ∈ xs, 0 ≤ x ∧ x < 2 ^ 62 := by
  have h10 : CPow 10 18 := ⟨by omega, by omega, by omega⟩
  refine (loop_all (ck := Ck.tt.ok) (t := .nm 3) (b := drawsB) (S := S ++ [.lst []]) (ρ := [some d, some (.int n), some (.ref S.length), none, none])
    (fun i ρ S' => ∃ (v3 v4 : Option Dv) (xs : List Int), ρ = [some d, some (.int n), some (.ref S.length), v3, v4] ∧ Gr S S' ∧ S'[S.length]? = some (.lst (xs.map .int)) ∧ xs.length = i ∧ ∀ x ∈ xs, (0 : Int) ≤ x ∧ x < 2 ^ 62) (rangeL 0 n)
    ⟨none, none, [], rfl, gr_app _ _, at_new _ _, rfl, by simp⟩ ?_ (fun _ _ _ => trivial)).elim fun ρ' ⟨S', e, v3, v4, xs, hρ, g, h1, h2, h3⟩ => ?_
  rotate_left
  · subst hρ
    refine ⟨S.length, xs, S', ?_, g, Nat.le_refl _, h1, by rw [h2, rangeL_len]; omega, h3⟩
    refine runF_rt (ρ := [some d, some (.int n), none, none, none]) rfl rfl ?_
    simp only [drawsC, ev_var, ev_con, ev_bin, ev_un, ev_anil, ev_acons, ev_call, ev_tup, ev_lst, ev_not, ev_and, ev_or, ev_if, ev_cbl, ev_btrue, ev_cand, ev_cor, ev_cnot, ev_sli, ev_onone, ev_osome, ev_chain, ev_meth, ev_get2, ev_newK, ev_newT, ev_own, ev_nil, ev_seq, ev_expr, ev_set, ev_ret, ev_retN, ev_cif, ev_brk, ev_ct, ev_asg, ev_put, ev_aug, ev_for, ev_comp, ev_newL, ev_iseq, ev_irange, ev_ienum, ev_yes, Out.bind_ok, Out.bindN_ok, bindS_ok, Tg.set, Tg.sets, List.getElem?_cons_zero, List.getElem?_cons_succ, List.set_cons_zero, List.set_cons_succ, wipeE, List.length_cons, List.length_nil, Nat.reduceAdd, Nat.reduceLeDiff, Nat.reduceEqDiff, ↓reduceIte, Bool.false_eq_true, decide_eq_true_eq, addD, subD, mulD, fdivD, modD, powD, negD, ltD, leD, gtD, geD, andD, orD, xorD, max2D, min2D, Nat.zero_le, rng1_of (i := (n : Int)) (by omega) (by omega), e]
  · rintro i v ρ S1 hv ⟨v3, v4, xs, rfl, g, h1, h2, h3⟩
    obtain ⟨rfl, hlt⟩ := rangeL_get hv
    refine ⟨trivial, _, rfl, ?_⟩
    have hd1 := lst_gr g hd
    have hlen : (xs.map Dv.int).length < sizeLine := by rw [List.length_map]; unfold sizeLine; omega
    -- what is put in
    have key : ∃ c : Int, 0 ≤ c ∧ c < 10 ^ 18 ∧ (cIf (cBl (eBin gtD (eCall lenD (aCons (eVar 0) (aNil))) (eCon (.int 0)))) (cSet 4 (eBin modD (eBin idxD (eVar 0) (eBin modD (eVar 3) (eCall lenD (aCons (eVar 0) (aNil))))) (eBin powD (eCon (.int 10)) (eCon (.int 18))))) (cNil))
        [some d, some (.int n), some (.ref S.length), some (.int (0 + i)), some (.int 0)] S1 = .fl (.nx [some d, some (.int n), some (.ref S.length), some (.int (0 + i)), some (.int c)]) S1 := by
      by_cases hns : ns = []
      · subst hns
        refine ⟨0, by omega, by omega, ?_⟩
        simp [ev_var, ev_con, ev_bin, ev_un, ev_anil, ev_acons, ev_call, ev_tup, ev_lst, ev_not, ev_and, ev_or, ev_if, ev_cbl, ev_btrue, ev_cand, ev_cor, ev_cnot, ev_sli, ev_onone, ev_osome, ev_chain, ev_meth, ev_get2, ev_newK, ev_newT, ev_own, ev_nil, ev_seq, ev_expr, ev_set, ev_ret, ev_retN, ev_cif, ev_brk, ev_ct, ev_asg, ev_put, ev_aug, ev_for, ev_comp, ev_newL, ev_iseq, ev_irange, ev_ienum, ev_yes, Out.bind_ok, Out.bindN_ok, bindS_ok, Tg.set, Tg.sets, List.getElem?_cons_zero, List.getElem?_cons_succ, List.set_cons_zero, List.set_cons_succ, wipeE, List.length_cons, List.length_nil, Nat.reduceAdd, Nat.reduceLeDiff, Nat.reduceEqDiff, ↓reduceIte, Bool.false_eq_true, decide_eq_true_eq, addD, subD, mulD, fdivD, modD, powD, negD, ltD, leD, gtD, geD, andD, orD, xorD, max2D, min2D, len_lst hd1]
      · have hp : 0 < ns.length := List.length_pos_iff.mpr hns
        obtain ⟨a, _, ha⟩ := atI_mod (xs := ns.map Dv.int) (by simpa using hns) (0 + i)
        obtain ⟨c, rfl⟩ : ∃ c, a = .int c := by
          rename_i hm
          obtain ⟨c, _, e⟩ := List.mem_map.mp hm
          exact ⟨c, e.symm⟩
        refine ⟨c % 10 ^ 18, Int.emod_nonneg _ (by omega), Int.emod_lt_of_pos _ (by omega), ?_⟩
        have hpI : (0 : Int) < ((ns.map Dv.int).length : Int) := by rw [List.length_map]; omega
        simp only [ev_var, ev_con, ev_bin, ev_un, ev_anil, ev_acons, ev_call, ev_tup, ev_lst, ev_not, ev_and, ev_or, ev_if, ev_cbl, ev_btrue, ev_cand, ev_cor, ev_cnot, ev_sli, ev_onone, ev_osome, ev_chain, ev_meth, ev_get2, ev_newK, ev_newT, ev_own, ev_nil, ev_seq, ev_expr, ev_set, ev_ret, ev_retN, ev_cif, ev_brk, ev_ct, ev_asg, ev_put, ev_aug, ev_for, ev_comp, ev_newL, ev_iseq, ev_irange, ev_ienum, ev_yes, Out.bind_ok, Out.bindN_ok, bindS_ok, Tg.set, Tg.sets, List.getElem?_cons_zero, List.getElem?_cons_succ, List.set_cons_zero, List.set_cons_succ, wipeE, List.length_cons, List.length_nil, Nat.reduceAdd, Nat.reduceLeDiff, Nat.reduceEqDiff, ↓reduceIte, Bool.false_eq_true, decide_eq_true_eq, addD, subD, mulD, fdivD, modD, powD, negD, ltD, leD, gtD, geD, andD, orD, xorD, max2D, min2D, len_lst hd1, hpI, idx_lst hd1 ha, h10, Int.reduceToNat, show (0 : Int) < 10 ^ 18 by omega]
    obtain ⟨c, c0, c1, e1⟩ := key
    have hm : (max 1 ((ns.map Dv.int).length : Int)) = max 1 (ns.length : Int) := by rw [List.length_map]
    have hmp : (0 : Int) < max 1 (ns.length : Int) := by omega
    have hlog : (max 1 (ns.length : Int)).natAbs.log2 < 9000 := by
      have h1 := Nat.log2_le_self (max 1 (ns.length : Int)).natAbs
      have h2 : (max 1 (ns.length : Int)).natAbs ≤ 64 := by omega
      omega
    have hq0 : 0 ≤ ((0 : Int) + i) / max 1 (ns.length : Int) := Int.ediv_nonneg (by omega) (by omega)
    have hq1 : ((0 : Int) + i) / max 1 (ns.length : Int) ≤ i := by
      have := Int.ediv_le_self (a := (0 : Int) + i) (max 1 (ns.length : Int)) (by omega)
      omega
    have hmul : CMul 7919 (((0 : Int) + i) / max 1 (ns.length : Int)) := .inl ⟨by omega, by omega⟩
    refine ⟨[some d, some (.int n), some (.ref S.length), some (.int (0 + i)), some (.int c)], S1.set S.length (.lst ((xs ++ [c + 7919 * ((0 + i) / max 1 (ns.length : Int))]).map .int)), .inl ?_, _, _, _, rfl, ?_, at_set h1, by simp [h2], ?_⟩
    · unfold drawsB
      rw [ev_seq]
      simp only [ev_set, ev_con, bindS_ok, List.set_cons_zero, List.set_cons_succ]
      rw [ev_seq, e1]
      simp only [ev_var, ev_con, ev_bin, ev_un, ev_anil, ev_acons, ev_call, ev_tup, ev_lst, ev_not, ev_and, ev_or, ev_if, ev_cbl, ev_btrue, ev_cand, ev_cor, ev_cnot, ev_sli, ev_onone, ev_osome, ev_chain, ev_meth, ev_get2, ev_newK, ev_newT, ev_own, ev_nil, ev_seq, ev_expr, ev_set, ev_ret, ev_retN, ev_cif, ev_brk, ev_ct, ev_asg, ev_put, ev_aug, ev_for, ev_comp, ev_newL, ev_iseq, ev_irange, ev_ienum, ev_yes, Out.bind_ok, Out.bindN_ok, bindS_ok, Tg.set, Tg.sets, List.getElem?_cons_zero, List.getElem?_cons_succ, List.set_cons_zero, List.set_cons_succ, wipeE, List.length_cons, List.length_nil, Nat.reduceAdd, Nat.reduceLeDiff, Nat.reduceEqDiff, ↓reduceIte, Bool.false_eq_true, decide_eq_true_eq, addD, subD, mulD, fdivD, modD, powD, negD, ltD, leD, gtD, geD, andD, orD, xorD, max2D, min2D, len_lst hd1, tyq_ref h1, hm, hmp, hlog, hmul, and_self, app_ref h1 hlen, List.map_append, List.map_cons, List.map_nil]
    · exact g.new (fr_set S1 S.length _) fun l z => by subst z; exact Nat.le_refl _
    · intro x hx
      rcases List.mem_append.mp hx with hx | hx
      · exact h3 x hx
      · rw [List.mem_singleton] at hx; subst hx; constructor <;> omega
end
end PL

namespace PL
open PySem PySem.Spec PyProof.Rows L2
section
variable {S S' : Sto} {d x y : Dv} {ds xs : List Dv}
theorem Fr.at {S S1 : Sto} (h : Fr (fun _ => False) S S1) {l : Nat} {o : Ob} (e : S[l]? = some o) : S1[l]? = some o := h.get l o e id
theorem Fr.any {P : Nat → Prop} {S S1 : Sto} (h : Fr (fun _ => False) S S1) : Fr P S S1 := h.imp fun _ _ z => z.elim
theorem seq_of {a b : RC} {ρ ρ' : Env} {S S' : Sto} (h : a ρ S = .fl (.nx ρ') S') : cSeq a b ρ S = b ρ' S' := by simp only [cSeq, h]
theorem seq_rt {a b : RC} {ρ : Env} {S S' : Sto} {d : Dv} (h : a ρ S = .fl (.rt d) S') : cSeq a b ρ S = .fl (.rt d) S' := by simp only [cSeq, h]
theorem if_t {t : RT} {a b : RC} {ρ : Env} {S S' : Sto} (h : t ρ S = .ok true S') : cIf t a b ρ S = a ρ S' := by simp only [cIf, h, bindS_ok, ↓reduceIte]
theorem if_f {t : RT} {a b : RC} {ρ : Env} {S S' : Sto} (h : t ρ S = .ok false S') : cIf t a b ρ S = b ρ S' := by simp only [cIf, h, bindS_ok, Bool.false_eq_true, ↓reduceIte]
theorem set_of {i : Nat} {e : RE} {ρ : Env} {S S' : Sto} {d : Dv} (h : e ρ S = .ok d S') : cSet i e ρ S = .fl (.nx (ρ.set i (some d))) S' := by simp only [cSet, h, bindS_ok]
theorem expr_of {e : RE} {ρ : Env} {S S' : Sto} {d : Dv} (h : e ρ S = .ok d S') : cExpr e ρ S = .fl (.nx ρ) S' := by simp only [cExpr, h, bindS_ok]
theorem ret_of {e : RE} {ρ : Env} {S S' : Sto} {d : Dv} (h : e ρ S = .ok d S') : cRet e ρ S = .fl (.rt d) S' := by simp only [cRet, h, bindS_ok]
theorem for_of {r : RI} {t : Tg} {b : RC} {ρ : Env} {S S' : Sto} {w : List Dv × Ck} (h : r ρ S = .ok w S') : cFor r t b ρ S = loop w.2.ok t b w.1 ρ S' := by simp only [cFor, h, bindS_ok]
theorem add_int (i j : Int) : addD (.int i) (.int j) S = .ok (.int (i + j)) S := .trans rfl rfl
theorem sub_int (i j : Int) : subD (.int i) (.int j) S = .ok (.int (i - j)) S := .trans rfl rfl
theorem lt_int (i j : Int) : ltD (.int i) (.int j) S = .ok (.bl (decide (i < j))) S := .trans rfl rfl
theorem le_int (i j : Int) : leD (.int i) (.int j) S = .ok (.bl (decide (i ≤ j))) S := .trans rfl rfl
theorem gt_int (i j : Int) : gtD (.int i) (.int j) S = .ok (.bl (decide (j < i))) S := .trans rfl rfl
theorem ge_int (i j : Int) : geD (.int i) (.int j) S = .ok (.bl (decide (j ≤ i))) S := .trans rfl rfl
theorem neg_int (i : Int) : negD (.int i) S = .ok (.int (-i)) S := .trans rfl rfl
theorem and_int (i j : Int) : andD (.int i) (.int j) S = .ok (.int (Builtin.bitAnd i j)) S := .trans rfl rfl
theorem or_int (i j : Int) : orD (.int i) (.int j) S = .ok (.int (Builtin.bitOr i j)) S := .trans rfl rfl
theorem xor_int (i j : Int) : xorD (.int i) (.int j) S = .ok (.int (Builtin.bitXor i j)) S := .trans rfl rfl
theorem max2_int (i j : Int) : max2D [.int i, .int j] S = .ok (.int (max i j)) S := .trans rfl rfl
theorem min2_int (i j : Int) : min2D [.int i, .int j] S = .ok (.int (min i j)) S := .trans rfl rfl
theorem int_bl (b : Bool) : intD [.bl b] S = .ok (.int (if b then 1 else 0)) S := .trans rfl rfl
theorem int_int (b : Int) : intD [.int b] S = .ok (.int b) S := .trans rfl rfl
theorem sli_tup (lo hi : Option Int) : sliD (.tup ds) lo hi S = .ok (.tup (cutD ds lo hi)) S := .trans rfl rfl
theorem beqD (a b : Str) : (a == b) = decide (a = b) := by by_cases h : a = b <;> simp [h]
theorem shp_int (i : Int) : SeqAt.shaped (.int i) = true := by rfl
abbrev Sk (x : Str) : Prop := PyData.strOk x = true
theorem sk_of {x : Str} (h : ∀ c ∈ x.cps.toList, c < 1114112) : Sk x := by
  show x.cps.all (fun c => decide (c < 1114112)) = true
  rw [← Array.all_toList, List.all_eq_true]
  exact fun c hc => decide_eq_true (h c hc)
theorem sk_app {x y : Str} (h : Sk x) (k : Sk y) : Sk (x ++ y) := by
  show (x.cps ++ y.cps).all (fun c => decide (c < 1114112)) = true
  rw [Array.all_append]
  exact Bool.and_eq_true_iff.mpr ⟨h, k⟩
theorem shp_str {x : Str} (h : Sk x) : SeqAt.shaped (.str x) = true := by
  unfold SeqAt.shaped
  simp only [PyData.canLay0, PyData.depth, h, Bool.true_and]; rfl
theorem shp_bl (x : Bool) : SeqAt.shaped (.bool x) = true := by rfl
theorem eq_int (i j : Int) : eqD (.int i) (.int j) S = .ok (.bl (decide (i = j))) S := by
  simp only [eqD, eqq, toP, shp_int, and_self, ↓reduceIte, PyData.eqv]; rfl
theorem ne_int (i j : Int) : neD (.int i) (.int j) S = .ok (.bl (!decide (i = j))) S := by
  simp only [neD, eqq, toP, shp_int, and_self, ↓reduceIte, PyData.eqv]; rfl
theorem eq_str {i j : Str} (hi : Sk i) (hj : Sk j) : eqD (.str i) (.str j) S = .ok (.bl (decide (i = j))) S := by
  simp only [eqD, eqq, toP, shp_str hi, shp_str hj, and_self, ↓reduceIte, PyData.eqv, beqD]
theorem ne_str {i j : Str} (hi : Sk i) (hj : Sk j) : neD (.str i) (.str j) S = .ok (.bl (!decide (i = j))) S := by
  simp only [neD, eqq, toP, shp_str hi, shp_str hj, and_self, ↓reduceIte, PyData.eqv, beqD]
theorem eq_bl (i j : Bool) : eqD (.bl i) (.bl j) S = .ok (.bl (decide (i = j))) S := by
  simp only [eqD, eqq, toP, shp_bl, and_self, ↓reduceIte, PyData.eqv]; cases i <;> cases j <;> rfl
theorem ne_bl (i j : Bool) : neD (.bl i) (.bl j) S = .ok (.bl (!decide (i = j))) S := by
  simp only [neD, eqq, toP, shp_bl, and_self, ↓reduceIte, PyData.eqv]; cases i <;> cases j <;> rfl
theorem toPs_strs (n : Nat) : ∀ ys : List Str, toPs (n + 1) S (ys.map .str) = some (ys.map .str)
  | [] => by simp only [List.map_nil, toPs]
  | y :: ys => by simp only [List.map_cons, toPs, toP, toPs_strs n ys]
/-- a text in a list of texts -/
theorem mem_strs {l : Nat} {ys : List Str} (h : S[l]? = some (.lst (ys.map .str))) (hs : SeqAt.shaped (.list (ys.map .str)) = true) {x : Str} (hx : Sk x) : memq S (.str x) (.ref l) = some (decide (x ∈ ys)) := by
  simp only [memq, tupOf, lst_ref h, toP, toPs_strs 38 ys, shp_str hx, hs, and_self, ↓reduceIte, List.any_map, Option.some.injEq]
  induction ys with
  | nil => rfl
  | cons y ys ih =>
    rw [List.any_cons]
    have : (ys.any ((fun z => z.eqv (PyData.str x)) ∘ PyData.str)) = decide (x ∈ ys) := by
      clear ih h hs
      induction ys with
      | nil => rfl
      | cons z ys ih => rw [List.any_cons, ih]; simp [PyData.eqv, beqD, List.mem_cons, eq_comm]
    rw [this]
    simp [PyData.eqv, beqD, List.mem_cons, eq_comm]
/-- a text in a row of texts -/
theorem mem_tstrs (ys : List Str) (x : Str) : memq S (.str x) (.tup (ys.map .str)) = some (decide (x ∈ ys)) := by
  have h1 : (ys.map Dv.str).all flatD = true := by simp [List.all_map, flatD]
  simp only [memq, tupOf, h1, flatD, and_self, ↓reduceIte, Option.some.injEq]
  clear h1
  induction ys with
  | nil => rfl
  | cons y ys ih => rw [List.map_cons, List.any_cons, ih]; simp [eqF, beqD, List.mem_cons, eq_comm]
theorem strlen_app (a b : Str) : (a ++ b).length = a.length + b.length := by
  show (a.cps ++ b.cps).size = _
  rw [Array.size_append]; rfl
theorem str_app (a b : Str) : (a ++ b).cps.toList = a.cps.toList ++ b.cps.toList := by
  show (a.cps ++ b.cps).toList = _
  rw [Array.toList_append]
theorem strlen_toList (a : Str) : a.cps.toList.length = a.length := by
  show _ = a.cps.size
  rw [Array.length_toList]
theorem add_str {a b : Str} (h : a.length + b.length ≤ sizeLine) : addD (.str a) (.str b) S = .ok (.str (a ++ b)) S := by simp only [addD, h, ↓reduceIte]
theorem idx_smod {x : Str} {n : Int} (hx : (x.length : Int) = n) (h0 : 0 < n) (hl : x.length ≤ sizeLine) (i : Int) : ∃ c ∈ x.cps.toList, idxD (.str x) (.int (i % n)) S = .ok (.str ⟨#[c]⟩) S := by
  obtain ⟨c, hc, e⟩ := atI_mod (xs := x.cps.toList) (by intro z; have := strlen_toList x; rw [z] at this; simp at this; omega) i
  rw [strlen_toList, hx] at e
  exact ⟨c, hc, by simp only [idxD, hl, ↓reduceIte, e]⟩
end

/-! ### the law's names -/
def abc : Str := "abcdefghijklmnopqrstuvwxyz"
def takenW : List Str := ["start", "rule", "row", "mix", "many", "any", "kind", "not", "both", "either", "way", "mark"]
structure NameOk (x : Str) : Prop where
  len : 1 ≤ x.length ∧ x.length ≤ 8
  low : ∀ c ∈ x.cps.toList, c ∈ abc.cps.toList
  free : x ∉ takenW
noncomputable def nameB : RC := cSeq (cSet 5 (eBin addD (eBin addD (eBin fdivD (eVar 0) (eCon (.int 208))) (eBin mulD (eBin mulD (eCon (.int 7)) (eVar 3)) (eVar 3))) (eBin mulD (eBin modD (eBin fdivD (eVar 0) (eCon (.int 5408))) (eCon (.int 26))) (eVar 3)))) (cSet 2 (eBin addD (eVar 2) (eBin idxD (eVar 1) (eBin modD (eVar 5) (eCon (.int 26))))))
noncomputable def nameC : RC := cSeq (cSet 1 (eCon (.str "abcdefghijklmnopqrstuvwxyz"))) (cSeq (cSet 2 (eBin idxD (eVar 1) (eBin modD (eVar 0) (eCon (.int 26))))) (cSeq (cFor (iRange rng1 (aCons (eBin modD (eBin fdivD (eVar 0) (eCon (.int 26))) (eCon (.int 8))) (aNil))) (.nm 3) nameB) (cSeq (cSet 4 (eLst (aCons (eCon (.str "start")) (aCons (eCon (.str "rule")) (aCons (eCon (.str "row")) (aCons (eCon (.str "mix")) (aCons (eCon (.str "many")) (aCons (eCon (.str "any")) (aCons (eCon (.str "kind")) (aCons (eCon (.str "not")) (aCons (eCon (.str "both")) (aCons (eCon (.str "either")) (aCons (eCon (.str "way")) (aCons (eCon (.str "mark")) (aNil))))))))))))))) (cSeq (cIf (cBl (eBin inD (eVar 2) (eVar 4))) (cRet (eBin addD (eVar 2) (eCon (.str "z")))) (cNil)) (cRet (eVar 2))))))
theorem abc_lt : ∀ c ∈ abc.cps.toList, c < 1114112 := by
  have : abc.cps.toList.all (fun c => decide (c < 1114112)) = true := by decide +kernel
  intro c hc
  exact of_decide_eq_true (List.all_eq_true.mp this c hc)
theorem NameOk.sk {x : Str} (h : NameOk x) : Sk x := sk_of fun c hc => abc_lt c (h.low c hc)
theorem log26 : (26 : Int).natAbs.log2 < 9000 := by have := Nat.log2_le_self 26; show Nat.log2 26 < 9000; omega
theorem log_lt {n : Nat} (h : n < 9000) : (n : Int).natAbs.log2 < 9000 := by have := Nat.log2_le_self n; show Nat.log2 n < 9000; omega
theorem fdiv_lit {S : Sto} {i : Int} {n : Nat} (h0 : 0 < n) (h : n < 9000) : fdivD (.int i) (.int (n : Int)) S = .ok (.int (i / n)) S := by
  simp only [fdivD]
  rw [if_pos ⟨by omega, log_lt h⟩]
theorem mod_pos {S : Sto} {i j : Int} (h0 : 0 < j) : modD (.int i) (.int j) S = .ok (.int (i % j)) S := by simp only [modD, h0, ↓reduceIte]
theorem mul_l {S : Sto} {i j : Int} (h : -2 ^ 64 < i ∧ i < 2 ^ 64) : mulD (.int i) (.int j) S = .ok (.int (i * j)) S := by
  simp only [mulD]
  rw [if_pos (show CMul i j from Or.inl h)]
theorem mul_r {S : Sto} {i j : Int} (h : -2 ^ 64 < j ∧ j < 2 ^ 64) : mulD (.int i) (.int j) S = .ok (.int (i * j)) S := by
  simp only [mulD]
  rw [if_pos (show CMul i j from Or.inr h)]
theorem fdiv_sm {S : Sto} {i j : Int} (h0 : 0 < j) (h : j < 9000) : fdivD (.int i) (.int j) S = .ok (.int (i / j)) S := by
  obtain ⟨n, rfl⟩ := Int.eq_ofNat_of_zero_le (Int.le_of_lt h0)
  exact fdiv_lit (by omega) (by omega)
theorem mul_sm {S : Sto} {i j : Int} (h : -10000000 < i) (h2 : i < 10000000) : mulD (.int i) (.int j) S = .ok (.int (i * j)) S := mul_l (by omega)
theorem mul_smr {S : Sto} {i j : Int} (h : -10000000 < j) (h2 : j < 10000000) : mulD (.int i) (.int j) S = .ok (.int (i * j)) S := mul_r (by omega)
theorem name_run {S : Sto} {d : Int} (h0 : 0 ≤ d) : ∃ (x : Str) (S' : Sto), runF nameC 6 1 [.int d] S = .ok (.str x) S' ∧ Gr S S' ∧ NameOk x := by
  have hab : ((abc.length : Nat) : Int) = 26 := by decide
  have habl : abc.length ≤ sizeLine := by show (26 : Nat) ≤ 2 ^ 24; omega
  have fd (n : Nat) (h0 : 0 < n) (h : n < 9000) (i : Int) (S : Sto) := fdiv_lit (S := S) (i := i) h0 h
  obtain ⟨c1, hc1, e1⟩ := idx_smod (S := S) hab (by omega) habl d
  have hm0 := Int.emod_nonneg (d / 26) (b := 8) (by omega)
  have hm1 := Int.emod_lt_of_pos (d / 26) (b := 8) (by omega)
  refine (loop_all (ck := Ck.tt.ok) (t := .nm 3) (b := nameB) (S := S) (ρ := [some (.int d), some (.str abc), some (.str ⟨#[c1]⟩), none, none, none])
    (fun i ρ S' => ∃ (v3 v5 : Option Dv) (x : Str), ρ = [some (.int d), some (.str abc), some (.str x), v3, none, v5] ∧ S' = S ∧ x.length = 1 + i ∧ ∀ c ∈ x.cps.toList, c ∈ abc.cps.toList) (rangeL 0 (d / 26 % 8))
    ⟨none, none, _, rfl, rfl, rfl, by intro c hc; simp at hc; subst hc; exact hc1⟩ ?_ (fun _ _ _ => trivial)).elim fun ρ' ⟨S', e, v3, v5, x, hρ, hS, h1, h2⟩ => ?_
  · rintro i v ρ S1 hv ⟨v3, v5, x, rfl, rfl, h1, h2⟩
    obtain ⟨rfl, hlt⟩ := rangeL_get hv
    refine ⟨trivial, _, rfl, ?_⟩
    have hi : (0 : Int) + i < 8 := by omega
    obtain ⟨c2, hc2, e2⟩ := idx_smod (S := S1) hab (by omega) habl (d / 208 + 7 * (0 + i) * (0 + i) + d / 5408 % 26 * (0 + i))
    have hx : x.length + Str.length ⟨#[c2]⟩ ≤ sizeLine := by
      show x.length + 1 ≤ 2 ^ 24
      omega
    refine ⟨[some (.int d), some (.str abc), some (.str (x ++ ⟨#[c2]⟩)), some (.int (0 + i)), none, some (.int (d / 208 + 7 * (0 + i) * (0 + i) + d / 5408 % 26 * (0 + i)))], S1, .inl ?_, _, _, _, rfl, rfl, ?_, ?_⟩
    · have f1 : fdivD (.int d) (.int 208) S1 = .ok (.int (d / 208)) S1 := fdiv_lit (n := 208) (by omega) (by omega)
      have f2 : fdivD (.int d) (.int 5408) S1 = .ok (.int (d / 5408)) S1 := fdiv_lit (n := 5408) (by omega) (by omega)
      have f3 : mulD (.int 7) (.int (0 + i)) S1 = .ok (.int (7 * (0 + i))) S1 := mul_l (by omega)
      have f4 : mulD (.int (7 * (0 + i))) (.int (0 + i)) S1 = .ok (.int (7 * (0 + i) * (0 + i))) S1 := mul_r (by omega)
      have f5 : mulD (.int (d / 5408 % 26)) (.int (0 + i)) S1 = .ok (.int (d / 5408 % 26 * (0 + i))) S1 := mul_r (by omega)
      have f6 : modD (.int (d / 5408)) (.int 26) S1 = .ok (.int (d / 5408 % 26)) S1 := mod_pos (by omega)
      have f7 : modD (.int (d / 208 + 7 * (0 + i) * (0 + i) + d / 5408 % 26 * (0 + i))) (.int 26) S1 = _ := mod_pos (by omega)
      simp only [nameB, ev_seq, ev_set, ev_bin, ev_var, ev_con, List.getElem?_cons_zero, List.getElem?_cons_succ, List.set_cons_zero, List.set_cons_succ, Out.bind_ok, bindS_ok, f1, f2, f3, f4, f5, f6, f7, addD, e2, hx, ↓reduceIte]
    · rw [strlen_app, h1]; show 1 + i + 1 = _; omega
    · intro c hc
      rw [str_app] at hc
      rcases List.mem_append.mp hc with hc | hc
      · exact h2 c hc
      · simp at hc; subst hc; exact hc2
  · subst hρ hS
    rw [rangeL_len] at h1
    have hlen : x.length ≤ 8 := by omega
    have hsk : Sk x := sk_of fun c hc => abc_lt c (h2 c hc)
    have hin : memq (S' ++ [.lst (takenW.map .str)]) (.str x) (.ref S'.length) = some (decide (x ∈ takenW)) := mem_strs (at_new _ _) (by decide +kernel) hsk
    have g : Gr S' (S' ++ [.lst (takenW.map .str)]) := gr_app _ _
    have f1 : fdivD (.int d) (.int 26) S' = .ok (.int (d / 26)) S' := fdiv_lit (n := 26) (by omega) (by omega)
    have f2 : modD (.int (d / 26)) (.int 8) S' = .ok (.int (d / 26 % 8)) S' := mod_pos (by omega)
    have f3 : modD (.int d) (.int 26) S' = .ok (.int (d % 26)) S' := mod_pos (by omega)
    have r1 := rng1_of hm0 (by omega)
    have s12 : (takenW.map Dv.str).length ≤ sizeLine := by show (12 : Nat) ≤ 2 ^ 24; omega
    have et : ([.str "start", .str "rule", .str "row", .str "mix", .str "many", .str "any", .str "kind", .str "not", .str "both", .str "either", .str "way", .str "mark"] : List Dv) = takenW.map .str := rfl
    have ea : ("abcdefghijklmnopqrstuvwxyz" : Str) = abc := rfl
    by_cases ht : x ∈ takenW
    · have hz : ∀ t ∈ takenW, NameOk (t ++ "z") := by
        have : takenW.all (fun t => decide (1 ≤ (t ++ ("z" : Str)).length ∧ (t ++ ("z" : Str)).length ≤ 8) && (t ++ ("z" : Str)).cps.toList.all (fun c => decide (c ∈ abc.cps.toList)) && decide ((t ++ ("z" : Str)) ∉ takenW)) = true := by decide +kernel
        intro t ht
        have := List.all_eq_true.mp this t ht
        simp only [Bool.and_eq_true, decide_eq_true_eq, List.all_eq_true] at this
        exact ⟨this.1.1, this.1.2, this.2⟩
      have hzl : x.length + Str.length "z" ≤ sizeLine := by show x.length + 1 ≤ 2 ^ 24; omega
      refine ⟨x ++ "z", _, runF_rt (ρ := [some (.int d), none, none, none, none, none]) rfl rfl ?_, g, hz x ht⟩
      simp only [nameC, ev_seq, ev_set, ev_con, ev_bin, ev_var, ev_for, ev_irange, ev_acons, ev_anil, ev_lst, ev_cif, ev_cbl, ev_btrue, ev_ret, List.getElem?_cons_zero, List.getElem?_cons_succ, List.set_cons_zero, List.set_cons_succ, Out.bind_ok, bindS_ok, f1, f2, f3, ea, e1, r1, e, et, s12, inD, hin, ht, decide_true, ↓reduceIte, addD, hzl]
    · refine ⟨x, _, runF_rt (ρ := [some (.int d), none, none, none, none, none]) rfl rfl ?_, g, ⟨⟨by omega, hlen⟩, h2, ht⟩⟩
      simp only [nameC, ev_seq, ev_set, ev_con, ev_bin, ev_var, ev_for, ev_irange, ev_acons, ev_anil, ev_lst, ev_cif, ev_cbl, ev_btrue, ev_ret, ev_nil, List.getElem?_cons_zero, List.getElem?_cons_succ, List.set_cons_zero, List.set_cons_succ, Out.bind_ok, bindS_ok, f1, f2, f3, ea, e1, r1, e, et, s12, inD, hin, ht, decide_false, Bool.false_eq_true, ↓reduceIte]
end PL
namespace PL
open PySem PySem.Spec PyProof.Rows L2
/-! ### a module's constant rows -/
def cV : Value → Option Dv
  | .none => some .non
  | .bool b => some (.bl b)
  | .int i _ => some (.int i)
  | .str x _ => some (.str x)
  | _ => none
def vV : Value → V
  | .bool b => .bl b
  | .int i _ => .int i
  | .str x _ => .str x
  | _ => .non
def Cst (its : List Value) (k : Dv) : Prop := ∃ ds, k = .kt ds ∧ its.map cV = ds.map some ∧ Nat.ble its.length 16777216 = true
theorem cst_rep {K : PySem.W.Frag} {μ : List Addr} {H : Hp} {a : Addr} {od : Option Addr} {its : Array Value} {n : Nat} {sl : Array (Option Value)} {k : Dv} (w : K.lookup a = some ⟨.type "tuple", od, .seq its n, sl⟩) (u : Cst its.toList k) : Rep K μ H (.ref a) k := by
  obtain ⟨ds, rfl, e, hl⟩ := u
  have hlen : its.toList.length = ds.length := by have := congrArg List.length e; simpa using this
  have key : ∀ (xs : List Value) (ds : List Dv), xs.map cV = ds.map some → Vals (xs.map vV) xs ∧ ∀ (i : Nat) (v : V) (d : Dv), (xs.map vV)[i]? = some v → ds[i]? = some d → Rep K μ H v d := by
    intro xs
    induction xs with
    | nil => intro ds e; exact ⟨.nil, fun i v d h => by simp at h⟩
    | cons x xs ih =>
      intro ds e
      cases ds with
      | nil => simp at e
      | cons d ds =>
        simp only [List.map_cons, List.cons.injEq] at e
        obtain ⟨h1, h2⟩ := ih ds e.2
        have hx : L2.RelV (vV x) x ∧ Rep K μ H (vV x) d := by
          have e1 := e.1
          cases x <;> simp only [cV, Option.some.injEq] at e1 <;> first | cases e1 | skip
          · exact ⟨rfl, .non⟩
          · exact ⟨rfl, .bl _⟩
          · exact ⟨⟨_, rfl⟩, .int _⟩
          · exact ⟨⟨_, rfl⟩, .str _⟩
        refine ⟨.cons hx.1 h1, fun i v d' hv hd => ?_⟩
        cases i with
        | zero => simp at hv hd; subst hv; subst hd; exact hx.2
        | succ i => exact h2 i v d' (by simpa using hv) (by simpa using hd)
  obtain ⟨h1, h2⟩ := key _ _ e
  exact .kt ⟨_, its, n, w, rfl, rfl, by have := Nat.le_of_ble_eq_true hl; rw [Array.length_toList] at this; exact this, h1⟩ (by simpa using hlen) h2
theorem rel_str {x : Str} {t : Tok} : L2.RelV (.str x) (.str x t) := ⟨_, rfl⟩
theorem rel_int {x : Int} {t : Tok} : L2.RelV (.int x) (.int x t) := ⟨_, rfl⟩
end PL

namespace PL
open PySem PySem.Spec PyProof.Rows L2

/-! ### sources that are lists or tuples: zip and enumerate over either kind -/
def Sq (K : PySem.W.Frag) (l : Bool) (H : Hp) (a : Addr) (vs : List V) : Prop := match l with
  | true => SqL K H a vs
  | false => SqT K H a vs
def Pn (l : Bool) (h : Heap) (a : Addr) (its : Array Value) : Prop := match l with
  | true => h.IsList a its
  | false => h.IsTuple a its
def Cur (l : Bool) (h : Heap) (it a : Addr) (i : Nat) : Prop := match l with
  | true => h.IsListIter it a i
  | false => h.IsTupleIter it a i
def itO (l : Bool) (a : Addr) : Obj := match l with
  | true => { cls := .type "list_iterator", data := .fields #[.ref a, .int 0 0] }
  | false => { cls := .type "tuple_iterator", data := .fields #[.ref a, .int 0 0] }
section
variable {X : Cx} {pins : List (Addr × Obj)} {σ : L2.St} {H : Hp} {s : Shared} {a : Addr} {vs us : List V} {l : Bool}
theorem sq_read (I : Inv X pins σ H s) (q : Sq X.K l H a vs) : ∃ its : List Value, Vals vs its ∧ Pn l s.heap a its.toArray := by
  cases l with
  | true => obtain ⟨its, r, p, _⟩ := I.list q; exact ⟨its, r, p.isList⟩
  | false => obtain ⟨its, r, p, _⟩ := I.tuple q; exact ⟨its, r, p⟩
theorem sq_inj (I : Inv X pins σ H s) (q : Sq X.K l H a vs) (q' : Sq X.K l H a us) : vs = us := by
  cases l with
  | true => exact I.list_inj q q'
  | false => exact I.tuple_inj q q'
theorem pn_lt {h : Heap} {its : Array Value} (p : Pn l h a its) : a < h.objs.size := by
  cases l with
  | true => obtain ⟨o, e, _⟩ := p; exact Heap.lt_size e
  | false => obtain ⟨o, e, _⟩ := p; exact Heap.lt_size e
theorem cur_obj {h : Heap} {it : Addr} {i : Nat} (c : Cur l h it a i) : ∃ o, h.get? it = some o ∧ ∀ v, o.data ≠ .cell v := by
  cases l with
  | true => obtain ⟨o, e, _, d⟩ := c; exact ⟨o, e, fun v z => by rw [d] at z; cases z⟩
  | false => obtain ⟨o, e, _, d⟩ := c; exact ⟨o, e, fun v z => by rw [d] at z; cases z⟩
theorem cur_at {h h' : Heap} {it : Addr} {i : Nat} (c : Cur l h it a i) (k : ∀ o, h.get? it = some o → h'.get? it = some o) : Cur l h' it a i := by
  cases l with
  | true => exact Heap.IsListIter.at c k
  | false => exact Heap.IsTupleIter.at c k
theorem pn_at {h h' : Heap} {its : Array Value} (c : Pn l h a its) (k : ∀ o, h.get? a = some o → h'.get? a = some o) : Pn l h' a its := by
  cases l with
  | true => exact Heap.IsList.at c k
  | false => exact Heap.IsTuple.at c k
theorem cur_new {h : Heap} {it : Addr} (e : h.get? it = some (itO l a)) : Cur l h it a 0 := by
  cases l with
  | true => exact ⟨_, e, rfl, rfl⟩
  | false => exact ⟨_, e, rfl, rfl⟩
theorem pn_draws {prog : Program} {w : World} {A : Around} (hh : A.handled = none) (it : Addr) (ne : a ≠ it) (its : Array Value) :
    Draws prog w A it [it, a] its.size (fun i v => its[i]? = some v) (fun i h => Cur l h it a i ∧ Pn l h a its) := by
  cases l with
  | true => exact Draws.list hh it a ne its
  | false => exact Draws.tuple hh it a ne its
theorem pn_begins (its : Array Value) : Begins (.ref a) (itO l a) (fun h => Pn l h a its) := by
  cases l with
  | true => exact begins_list a its
  | false => exact begins_tuple a its
end
/-- the items of two sources, side by side -/
def Jz (K : PySem.W.Frag) (l1 l2 : Bool) (a b : Addr) : It :=
  ⟨fun i H => ∃ vs us x y, Sq K l1 H a vs ∧ Sq K l2 H b us ∧ vs[i]? = some x ∧ us[i]? = some y,
    fun i H v H' => ∃ T x y, v = .ref T ∧ H T = none ∧ H' = upd H T (.tup [x, y]) ∧ (∀ vs, Sq K l1 H a vs → vs[i]? = some x) ∧ (∀ us, Sq K l2 H b us → us[i]? = some y),
    fun i H => ∃ vs us, Sq K l1 H a vs ∧ Sq K l2 H b us ∧ i ≤ vs.length ∧ i ≤ us.length ∧ (i = vs.length ∨ i = us.length)⟩
theorem turn_jz {P : Program} {w : World} {K : PySem.W.Frag} {elts : List Expr} {kk : Nat} {tpos : Pos} {l1 l2 : Bool} {a b z TI TO i1 i2 : Addr} (D : ZipSep2 z TI TO i1 i2 [i1, a] [i2, b]) (na : a ≠ i1) (nb : b ≠ i2) :
    Turn P w K (.Tuple elts kk tpos) (Jz K l1 l2 a b) [z, TI, TO, i1, i2] z (fun i h => IsZip h z TI TO .none ∧ IsTupOf2 h TI (.ref i1) (.ref i2) ∧ (∃ x y, IsTupOf2 h TO x y) ∧ Cur l1 h i1 a i ∧ Cur l2 h i2 b i) := by
  have sp : ∀ {c : Addr}, c ∈ [z, TI, TO, i1, i2] → c = z ∨ c = TI ∨ c = TO ∨ c = i1 ∨ c = i2 := fun h => by simpa using h
  refine ⟨by simp, ?_, ?_, ?_, ?_, fun A i s Q E st hQ => wpAny_pyIter_zip st.1 hQ⟩
  · rintro i h ⟨e1, e2, ⟨_, _, e3⟩, e4, e5⟩ c hc
    rcases sp hc with rfl | rfl | rfl | rfl | rfl
    · exact ⟨_, e1, fun v z => nomatch z⟩
    · exact ⟨_, e2, fun v z => nomatch z⟩
    · exact ⟨_, e3, fun v z => nomatch z⟩
    · exact cur_obj e4
    · exact cur_obj e5
  · rintro i h h' ⟨e1, e2, ⟨x, y, e3⟩, e4, e5⟩ kp
    exact ⟨kp z (by simp) _ e1, kp TI (by simp) _ e2, ⟨x, y, kp TO (by simp) _ e3⟩, cur_at e4 (kp i1 (by simp)), cur_at e5 (kp i2 (by simp))⟩
  · intro X hP hw hK hc i pins s σ H E I hf ⟨e1, e2, ⟨x0, y0, e3⟩, e4, e5⟩ ⟨vs, us, x, y, q1, q2, g1, g2⟩
    subst hP hw hK
    obtain ⟨its, r1, p1⟩ := sq_read I q1
    obtain ⟨jts, r2, p2⟩ := sq_read I q2
    obtain ⟨u1, hu1, ru1⟩ := r1.get g1
    obtain ⟨u2, hu2, ru2⟩ := r2.get g2
    have lt1 : i < its.toArray.size := by rw [List.size_toArray]; exact (List.getElem?_eq_some_iff.mp hu1).1
    have lt2 : i < jts.toArray.size := by rw [List.size_toArray]; exact (List.getElem?_eq_some_iff.mp hu2).1
    have hh : X.A.handled = none := I.ok.hd hc
    have D1 := pn_draws (prog := X.prog) (w := X.w) (A := X.A.in1) (l := l1) hh i1 na its.toArray
    have D2 := pn_draws (prog := X.prog) (w := X.w) (A := X.A.in1) (l := l2) hh i2 nb jts.toArray
    refine wpAny_pyNext_zipD2_item D D1 D2 e1 e2 e3 ⟨e4, p1⟩ ⟨e5, p2⟩ lt1 lt2 fun w1 w2 h' tk a1 a2 z' t' st1 st2 tn _ kp => ?_
    have w1e : w1 = u1 := by have := a1.symm.trans (show its.toArray[i]? = some u1 by simpa using hu1); exact Option.some.inj this
    have w2e : w2 = u2 := by have := a2.symm.trans (show jts.toArray[i]? = some u2 by simpa using hu2); exact Option.some.inj this
    subst w1e w2e
    refine ⟨_, rfl, wpAny_letOwnedTupleGo_zip (s := { s with heap := h', toks := tk }) z' fun h2 z2 sb => ?_⟩
    have zl : z < s.heap.objs.size := Heap.lt_size e1
    have tn2 : h2.get? s.heap.objs.size = some { cls := .type "tuple", data := .seq #[w1, w2] } := (sb.2 _ (Nat.ne_of_gt zl)).trans tn
    have ok : ObjOk X.prog X.w (upd H s.heap.objs.size (.tup [x, y])) h2 s.heap.objs.size (.tup [x, y]) := ⟨show 2 ≤ 2 ^ 24 by omega, [w1, w2], .cons ru1 (.cons ru2 .nil), ⟨_, tn2, rfl, _, rfl⟩⟩
    have I2 : Inv X pins σ (upd H s.heap.objs.size (.tup [x, y])) { s with heap := h2, toks := tk } :=
      I.turnedNew (t' := tk) (ch := [z, TI, TO, i1, i2]) (fun c o hn q => by
        have n1 : c ≠ z := fun e => hn (by simp [e])
        exact (sb.2 c n1).trans (kp c o n1 (fun e => hn (by simp [e])) (fun e => hn (by simp [e])) (fun e => hn (by simp [e])) q)) hf (Nat.le_refl _) ok
    refine ⟨.ref s.heap.objs.size, _, I2, rfl, ⟨_, x, y, rfl, I.hok.fresh (Nat.le_refl _), rfl, fun ws q => by rw [sq_inj I q q1]; exact g1, fun ws q => by rw [sq_inj I q q2]; exact g2⟩, ⟨z2, ?_, ⟨w1, w2, ?_⟩, ?_, ?_⟩, fun c hcm => ?_⟩
    · exact (sb.2 _ D.TIz).trans (kp TI _ D.TIz D.TITO D.TIi1 D.TIi2 e2)
    · exact (sb.2 _ D.TOz).trans t'
    · exact cur_at st1.1 fun o q => (sb.2 _ (Ne.symm D.zi1)).trans q
    · exact cur_at st2.1 fun o q => (sb.2 _ (Ne.symm D.zi2)).trans q
    · have hlt : c < s.heap.objs.size := by
        rcases sp hcm with rfl | rfl | rfl | rfl | rfl
        · exact zl
        · exact Heap.lt_size e2
        · exact Heap.lt_size e3
        · obtain ⟨o, q, _⟩ := cur_obj e4; exact Heap.lt_size q
        · obtain ⟨o, q, _⟩ := cur_obj e5; exact Heap.lt_size q
      rw [upd_ne (Nat.ne_of_lt hlt)]
      exact (hf c hcm).1
  · intro X hP hw hK hc i pins s σ H E I hf ⟨e1, e2, ⟨x0, y0, e3⟩, e4, e5⟩ ⟨vs, us, q1, q2, le1, le2, he⟩
    subst hP hw hK
    obtain ⟨its, r1, p1⟩ := sq_read I q1
    obtain ⟨jts, r2, p2⟩ := sq_read I q2
    have s1 : its.toArray.size = vs.length := by rw [List.size_toArray]; exact r1.length.symm
    have s2 : jts.toArray.size = us.length := by rw [List.size_toArray]; exact r2.length.symm
    have hh : X.A.handled = none := I.ok.hd hc
    have D1 := pn_draws (prog := X.prog) (w := X.w) (A := X.A.in1) (l := l1) hh i1 na its.toArray
    have D2 := pn_draws (prog := X.prog) (w := X.w) (A := X.A.in1) (l := l2) hh i2 nb jts.toArray
    exact wpAny_pyNext_zipD2_end D D1 D2 e1 e2 e3 ⟨e4, p1⟩ ⟨e5, p2⟩ (by omega) (by omega) (by omega) fun h' tk kp => ⟨rfl, I.turnedL (t' := tk) (ch := [z, TI, TO, i1, i2]) (fun c o hn q =>
      kp c o (fun e => hn (by simp [e])) (fun e => hn (by simp [e])) (fun e => hn (by simp [e])) (fun e => hn (by simp [e])) q) hf⟩
def tJz (K : PySem.W.Frag) (ta : TA) : TI := fun σ H R => ta σ H fun vs H1 => ∃ l1 l2 a b xs ys, vs = [.ref a, .ref b] ∧ Sq K l1 H1 a xs ∧ Sq K l2 H1 b ys ∧ R (Jz K l1 l2 a b) H1
theorem pi_jz {X : Cx} {e e2 : Expr} {ta : TA} {p pos tpos : Pos} {elts : List Expr} {kk : Nat} (hg : Gl X "zip") (hm : X.mg "zip" = none) (ha : PA X [e, e2] ta)
    (hs : starEach [e, e2] X.env = (false, eval e X.env) :: starEach [e2] X.env := by rfl) (hpl : (backTo pos (starEach [e2] X.env)).any (·.1) = false := by rfl) :
    PI X (.Tuple elts kk tpos) (.Call (.Name "zip" p) [e, e2] [] pos) (tJz X.K ta) := by
  refine ⟨fun pins s σ H R I h => Call_ (ld_blt I hg hm PyProof.Rows.boot_zip (PyProof.Rows.callWith_type1 (thn (ha.run pos pins s σ H _ I h) ?_) hs hpl))⟩
  rintro us s1 ⟨vs, H1, I1, r1, l1, l2, a, b, xs, ys, rfl, q1, q2, hR⟩
  match us, r1 with
  | _, .cons (b := ua) ra (.cons (b := ub) rb .nil) =>
    obtain rfl : ua = .ref a := ra
    obtain rfl : ub = .ref b := rb
    obtain ⟨its, _, p1⟩ := sq_read I1 q1
    obtain ⟨jts, _, p2⟩ := sq_read I1 q2
    refine zip_begins2 (pn_begins its.toArray) (pn_begins jts.toArray) p1 p2 fun h' e1 e2 e3 e4 e5 _ kp => wpAny_pyIter_zip e1 ?_
    have I2 : Inv X pins σ H1 { s1 with heap := h' } := I1.kept (t' := s1.toks) kp
    have D := zip_sep2 (N := s1.heap.objs.size) (fp1 := [a]) (fp2 := [b]) (fun c hc => by simp at hc; subst hc; exact pn_lt p1) (fun c hc => by simp at hc; subst hc; exact pn_lt p2)
    refine ⟨_, _, _, _, H1, rfl, I2, turn_jz (l1 := l1) (l2 := l2) D (Nat.ne_of_lt (pn_lt p1)) (Nat.ne_of_lt (Nat.lt_succ_of_lt (pn_lt p2))), ⟨e1, e2, ⟨_, _, e3⟩, cur_new e4, cur_new e5⟩, fun c hc => ?_, hR⟩
    have hle : s1.heap.objs.size ≤ c := by
      have : c = s1.heap.objs.size + 4 ∨ c = s1.heap.objs.size + 2 ∨ c = s1.heap.objs.size + 3 ∨ c = s1.heap.objs.size ∨ c = s1.heap.objs.size + 1 := by simpa using hc
      rcases this with z | z | z | z | z
      all_goals rw [z]
      all_goals first | exact Nat.le_refl _ | exact Nat.le_add_right _ _
    exact I1.fpOk hle (I1.hok.fresh hle)

/-! ### the rules -/
section
variable {K : PySem.W.Frag} {mg : Str → Option Value} {W : WX} {μ μ1 : List Addr} {H H1 : Hp} {S S1 : Sto} {σ : L2.St} {ρ : Env}
theorem src_keep {v : V} {d : Dv} {ds : List Dv} (hS : SimS K μ S H) (r : Rep K μ H v d) (e : seqOf S d = some ds) :
    ∃ l a vs, v = .ref a ∧ Sq K l H a vs ∧ ∀ μ' S' H', Step μ H μ' H' → SimS K μ' S' H' → (ckOf d ds).ok S' → ∃ ws, Sq K l H' a ws ∧ Reps K μ' H' ws ds := by
  unfold seqOf at e
  cases q : tupOf d with
  | some es =>
    rw [q] at e
    cases e
    obtain ⟨a, vs, rfl, rr, h1, h2⟩ := sqT_keep r q
    exact ⟨false, a, vs, rfl, h1, fun μ' S' H' st _ _ => ⟨vs, h2 μ' H' st, rr.step st⟩⟩
  | none =>
    rw [q] at e
    obtain ⟨a, vs, rfl, h1, h2⟩ := itr_list hS r e
    exact ⟨true, a, vs, rfl, h1, h2⟩
def zipL : List Dv → List Dv → List Dv
  | x :: xs, y :: ys => .tup [x, y] :: zipL xs ys
  | _, _ => []
theorem zipL_get : ∀ (xs ys : List Dv) (i : Nat) (d : Dv), (zipL xs ys)[i]? = some d → ∃ x y, xs[i]? = some x ∧ ys[i]? = some y ∧ d = .tup [x, y]
  | [], _, i, d, h => by simp [zipL] at h
  | x :: xs, [], i, d, h => by simp [zipL] at h
  | x :: xs, y :: ys, 0, d, h => by simp [zipL] at h; exact ⟨x, y, rfl, rfl, h.symm⟩
  | x :: xs, y :: ys, i + 1, d, h => by simpa using zipL_get xs ys i d (by simpa [zipL] using h)
theorem zipL_len : ∀ xs ys : List Dv, (zipL xs ys).length = min xs.length ys.length
  | [], ys => by simp [zipL]
  | x :: xs, [] => by simp [zipL]
  | x :: xs, y :: ys => by simp [zipL, zipL_len xs ys]
theorem itr_jz {a b : Addr} {l1 l2 : Bool} {ds es : List Dv} {c1 c2 : Ck} (h1 : ∀ μ' S' H', Step μ H μ' H' → SimS K μ' S' H' → c1.ok S' → ∃ ws, Sq K l1 H' a ws ∧ Reps K μ' H' ws ds)
    (h2 : ∀ μ' S' H', Step μ H μ' H' → SimS K μ' S' H' → c2.ok S' → ∃ ws, Sq K l2 H' b ws ∧ Reps K μ' H' ws es) : ItR K μ H (Jz K l1 l2 a b) (zipL ds es, .and c1 c2) := by
  intro μ' S' H' i st hS hck
  obtain ⟨vs, q1, r1⟩ := h1 μ' S' H' st hS hck.1
  obtain ⟨us, q2, r2⟩ := h2 μ' S' H' st hS hck.2
  refine ⟨fun e => ⟨vs, us, q1, q2, ?_⟩, fun d hd => ?_⟩
  · have e' : i = min ds.length es.length := by rw [e]; exact zipL_len ds es
    rw [r1.1, r2.1]; omega
  · obtain ⟨x, y, g1, g2, rfl⟩ := zipL_get ds es i d hd
    obtain ⟨v, hv, rv⟩ := r1.get g1
    obtain ⟨u, hu, ru⟩ := r2.get g2
    refine ⟨⟨vs, us, v, u, q1, q2, hv, hu⟩, ?_⟩
    rintro _ _ ⟨T, v', u', rfl, hT, rfl, f1, f2⟩
    have e1 := f1 vs q1
    have e2 := f2 us q2
    rw [hv] at e1; cases e1
    rw [hu] at e2; cases e2
    have rr : Reps K μ' H' [v, u] [x, y] := (Reps.one ru).cons rv
    exact ⟨step_lay hS hT _, hS.lay hT _, .tup ⟨upd_same, hS.fresh hT⟩ rr.1 (rr.step (step_lay hS hT _)).2⟩
end
def iZip (a : RA) : RI := fun ρ S => (a ρ S).bind fun ds S1 => match ds with
  | [d, e] => match seqOf S1 d, seqOf S1 e with
    | some xs, some ys => .ok (zipL xs ys, .and (ckOf d xs) (ckOf e ys)) S1
    | _, _ => .no
  | _ => .no
section
variable {X : Cx} {W : WX} {tg e e2 : Expr} {re : RE} {ra : RA} {p pos tpos : Pos} {elts : List Expr} {kk : Nat}
theorem si_zip (hg : Gl X "zip") (hm : X.mg "zip" = none) (ha : SA X W [e, e2] ra) (hs : starEach [e, e2] X.env = (false, eval e X.env) :: starEach [e2] X.env := by rfl) (hpl : (backTo pos (starEach [e2] X.env)).any (·.1) = false := by rfl) :
    SI X W (.Tuple elts kk tpos) (.Call (.Name "zip" p) [e, e2] [] pos) (iZip ra) :=
  PI.imp (pi_jz hg hm ha hs hpl) fun σ H R ⟨μ, ρ, S, hS, hE, h⟩ => by
    refine ⟨μ, ρ, S, hS, hE, ?_⟩
    unfold iZip at h
    cases q : ra ρ S with
    | no => rw [q] at h; exact h.elim
    | ex x S1 => rw [q] at h; exact h
    | ok ds S1 =>
      rw [q] at h
      simp only [Out.bind_ok] at h
      intro μ1 H1 vs a b r
      match ds, r, h with
      | [d, e], r, h =>
        obtain ⟨v, u, rfl, rv, ru⟩ := r.get2
        dsimp only at h
        cases q1 : seqOf S1 d with
        | none => rw [q1] at h; exact h.elim
        | some xs =>
          cases q2 : seqOf S1 e with
          | none => rw [q1, q2] at h; exact h.elim
          | some ys =>
            rw [q1, q2] at h
            obtain ⟨l1, a1, ws1, rfl, s1, k1⟩ := src_keep a rv q1
            obtain ⟨l2, a2, ws2, rfl, s2, k2⟩ := src_keep a ru q2
            exact ⟨l1, l2, a1, a2, ws1, ws2, rfl, s1, s2, h μ1 H1 _ a b (itr_jz k1 k2)⟩
      | [], r, h => exact h.elim
      | [_], r, h => exact h.elim
      | _ :: _ :: _ :: _, r, h => exact h.elim
end
end PL

namespace PL
open PySem PySem.Spec PyProof.Rows L2
/-! ### enumerate over a list or a tuple -/
def enO (it : Addr) : Obj := { cls := .type "enumerate", data := .fields #[.none, .bool false, .ref it, rawInt 0, .none, .none] }
theorem en_meets {v : Value} {it : Heap → Addr} {nx : Heap → Heap} {Hh : Heap → Prop}
    (B : ∀ (prog : Program) (w : World) (A : Around) (E : Value → Shared → Prop) (s : Shared) (Q : Value → Shared → Prop), Hh s.heap → Q (.ref (it s.heap)) { s with heap := nx s.heap } → wpAny (model prog w) A (pyIter v) Q E s) :
    Meets (Builtin.«enumerate.__new__» ⟨[.type "enumerate", v], []⟩) (fun _ R s => Hh s.heap ∧ R (.ok (.ret (.ref (nx s.heap).objs.size))) { s with heap := (nx s.heap).push (enO (it s.heap)) }) :=
  .of_wp fun prog w A R s h => by
    obtain ⟨hp, g, d, tk, os⟩ := s
    obtain ⟨h1, h⟩ := h
    have hsub := sub_enumerate
    have q1 : ∀ {A' : Around} {E : Value → Shared → Prop} {Q : Value → Shared → Prop}, Q (.ref (it hp)) ⟨nx hp, g, d, tk, os⟩ → wpAny (model prog w) A' (pyIter v) Q E ⟨hp, g, d, tk, os⟩ := fun q => B prog w _ _ ⟨hp, g, d, tk, os⟩ _ h1 q
    wp_walk using q1
    refine wpAny_stack_any fun st => wpAny_pure ?_
    split
    · rename_i c _ _ _ _ _
      cases (c == Value.type "enumerate") <;> (wp_walk using q1; exact ⟨_, rfl, h⟩)
    · wp_walk using q1
      exact ⟨_, rfl, h⟩

theorem en_call {prog : Program} {w : World} {A : Around} {E : Value → Shared → Prop} {s : Shared} {v : Value} {it : Heap → Addr} {nx : Heap → Heap} {Hh : Heap → Prop} {Q : Value → Shared → Prop}
    (B : ∀ (prog : Program) (w : World) (A : Around) (E : Value → Shared → Prop) (s : Shared) (Q : Value → Shared → Prop), Hh s.heap → Q (.ref (it s.heap)) { s with heap := nx s.heap } → wpAny (model prog w) A (pyIter v) Q E s) (h1 : Hh s.heap)
    (h : IsEnum ((nx s.heap).push (enO (it s.heap))) (nx s.heap).objs.size (it s.heap) 0 .none → Q (.ref (nx s.heap).objs.size) { s with heap := (nx s.heap).push (enO (it s.heap)) }) : wpAny (model prog w) A (call (.type "enumerate") [v]) Q E s := by
  refine callType_new F.called_enumerate (by decide) (F.typeCall_enumerate_1 _) (F.newCall_enumerate_1 _) (fun obj => F.args_object_init_2 obj _) F.entry_enumerate_new (en_meets B) ⟨h1, ?_⟩
  have he : IsEnum ((nx s.heap).push (enO (it s.heap))) (nx s.heap).objs.size (it s.heap) 0 .none := Heap.get?_push_size (nx s.heap) (o := enO (it s.heap)) rfl
  exact ⟨⟨_, he, rfl⟩, h he⟩
/-- numbered items -/
def Je (K : PySem.W.Frag) (l : Bool) (a : Addr) : It :=
  ⟨fun i H => ∃ vs x, Sq K l H a vs ∧ vs[i]? = some x,
    fun i H v H' => ∃ T x, v = .ref T ∧ H T = none ∧ H' = upd H T (.tup [.int (i : Nat), x]) ∧ (∀ vs, Sq K l H a vs → vs[i]? = some x),
    fun i H => ∃ vs, Sq K l H a vs ∧ i = vs.length⟩
theorem turn_je {P : Program} {w : World} {K : PySem.W.Frag} {elts : List Expr} {kk : Nat} {tpos : Pos} {l : Bool} {a e it : Addr} (ne : e ≠ it) (ni : a ≠ it) (na : a ≠ e) :
    Turn P w K (.Tuple elts kk tpos) (Je K l a) [e, it] e (fun i h => (∃ old, IsEnum h e it ((i : Nat) : Int) old) ∧ Cur l h it a i) := by
  have sp : ∀ {c : Addr}, c ∈ [e, it] → c = e ∨ c = it := fun h => by simpa using h
  have nf : e ∉ [it, a] := fun h => by
    simp only [List.mem_cons, List.not_mem_nil, or_false] at h
    exact h.elim ne fun z => na z.symm
  refine ⟨by simp, ?_, ?_, ?_, ?_, fun A i s Q E st hQ => let ⟨⟨_, e1⟩, _⟩ := st; wpAny_pyIter_enum e1 hQ⟩
  · rintro i h ⟨⟨old, e1⟩, e2⟩ c hc
    rcases sp hc with rfl | rfl
    · exact ⟨_, e1, fun v z => nomatch z⟩
    · exact cur_obj e2
  · rintro i h h' ⟨⟨old, e1⟩, e2⟩ kp
    exact ⟨⟨old, kp e (by simp) _ e1⟩, cur_at e2 (kp it (by simp))⟩
  · intro X hP hw hK hc i pins s σ H E I hf ⟨⟨old, e1⟩, e2⟩ ⟨vs, x, q1, g1⟩
    subst hP hw hK
    obtain ⟨its, r1, p1⟩ := sq_read I q1
    obtain ⟨u1, hu1, ru1⟩ := r1.get g1
    have lt1 : i < its.toArray.size := by rw [List.size_toArray]; exact (List.getElem?_eq_some_iff.mp hu1).1
    have hh : X.A.handled = none := I.ok.hd hc
    have D1 := pn_draws (prog := X.prog) (w := X.w) (A := X.A.in1) (l := l) hh it ni its.toArray
    refine wpAny_pyNext_enum_itemD D1 e1 ⟨e2, p1⟩ lt1 ne nf fun w1 h' tk a1 en st1 tn _ kp => ?_
    have w1e : w1 = u1 := Option.some.inj (a1.symm.trans (show its.toArray[i]? = some u1 by simpa using hu1))
    subst w1e
    refine ⟨_, rfl, wpAny_letOwnedTupleGo_enum (s := { s with heap := h', toks := tk + 1 }) en fun h2 en2 sb => ?_⟩
    have zl : e < s.heap.objs.size := Heap.lt_size e1
    have tn2 : h2.get? s.heap.objs.size = some { cls := .type "tuple", data := .seq #[.int i tk, w1] } := (sb.2 _ (Nat.ne_of_gt zl)).trans tn
    have ok : ObjOk X.prog X.w (upd H s.heap.objs.size (.tup [.int (i : Nat), x])) h2 s.heap.objs.size (.tup [.int (i : Nat), x]) := ⟨show 2 ≤ 2 ^ 24 by omega, [.int i tk, w1], .cons ⟨_, rfl⟩ (.cons ru1 .nil), ⟨_, tn2, rfl, _, rfl⟩⟩
    have I2 : Inv X pins σ (upd H s.heap.objs.size (.tup [.int (i : Nat), x])) { s with heap := h2, toks := tk + 1 } :=
      I.turnedNew (t' := tk + 1) (ch := [e, it]) (fun c o hn q => by
        have n1 : c ≠ e := fun z => hn (by simp [z])
        exact (sb.2 c n1).trans (kp c o n1 (fun z => hn (by simp [z])) q)) hf (Nat.le_refl _) ok
    refine ⟨.ref s.heap.objs.size, _, I2, rfl, ⟨_, x, rfl, I.hok.fresh (Nat.le_refl _), rfl, fun ws q => by rw [sq_inj I q q1]; exact g1⟩, ⟨⟨w1, ?_⟩, ?_⟩, fun c hcm => ?_⟩
    · rw [show ((i + 1 : Nat) : Int) = (i : Int) + 1 by omega]; exact en2
    · exact cur_at st1.1 fun o q => (sb.2 _ (Ne.symm ne)).trans q
    · have hlt : c < s.heap.objs.size := by
        rcases sp hcm with rfl | rfl
        · exact zl
        · obtain ⟨o, q, _⟩ := cur_obj e2; exact Heap.lt_size q
      rw [upd_ne (Nat.ne_of_lt hlt)]
      exact (hf c hcm).1
  · intro X hP hw hK hc i pins s σ H E I hf ⟨⟨old, e1⟩, e2⟩ ⟨vs, q1, he⟩
    subst hP hw hK
    obtain ⟨its, r1, p1⟩ := sq_read I q1
    have s1 : its.toArray.size = vs.length := by rw [List.size_toArray]; exact r1.length.symm
    have hh : X.A.handled = none := I.ok.hd hc
    have D1 := pn_draws (prog := X.prog) (w := X.w) (A := X.A.in1) (l := l) hh it ni its.toArray
    have st : Cur l s.heap it a its.toArray.size ∧ Pn l s.heap a its.toArray := ⟨by rw [s1, ← he]; exact e2, p1⟩
    exact wpAny_pyNext_enum_endD D1 e1 st fun h' kp => ⟨rfl, I.turnedL (t' := s.toks) (ch := [e, it]) (fun c o hn q => kp c o (fun z => hn (by simp [z])) q) hf⟩
def tJe (K : PySem.W.Frag) (ta : TA) : TI := fun σ H R => ta σ H fun vs H1 => ∃ l a xs, vs = [.ref a] ∧ Sq K l H1 a xs ∧ R (Je K l a) H1
theorem pi_je {X : Cx} {e : Expr} {ta : TA} {p pos tpos : Pos} {elts : List Expr} {kk : Nat} (hg : Gl X "enumerate") (hm : X.mg "enumerate" = none) (ha : PA X [e] ta) (hs : starEach [e] X.env = [(false, eval e X.env)] := by rfl) :
    PI X (.Tuple elts kk tpos) (.Call (.Name "enumerate" p) [e] [] pos) (tJe X.K ta) := by
  refine ⟨fun pins s σ H R I h => Call_ (ld_blt I hg hm boot_enumerate (PyProof.Rows.callWith_type1 (thn (ha.run pos pins s σ H _ I h) ?_) hs rfl))⟩
  rintro us s1 ⟨vs, H1, I1, r1, l, a, xs, rfl, q1, hR⟩
  match us, r1 with
  | _, .cons (b := ua) ra .nil =>
    obtain rfl : ua = .ref a := ra
    obtain ⟨its, _, p1⟩ := sq_read I1 q1
    have lt := pn_lt p1
    refine en_call (Hh := fun h => Pn l h a its.toArray) (it := fun h => h.objs.size) (nx := fun h => h.push (itO l a)) (pn_begins (l := l) (a := a) its.toArray).iter p1 fun e1 => wpAny_pyIter_enum e1 ?_
    have zs : (s1.heap.push (itO l a)).objs.size = s1.heap.objs.size + 1 := Heap.size_push ..
    have fr : (itO l a).isFreed = false := (pn_begins (l := l) (a := a) its.toArray).free
    have kp : ∀ c o, s1.heap.get? c = some o → ((s1.heap.push (itO l a)).push (enO s1.heap.objs.size)).get? c = some o := fun c o q => Heap.get?_push_of_some _ (Heap.get?_push_of_some _ q)
    have I2 : Inv X pins σ H1 { s1 with heap := (s1.heap.push (itO l a)).push (enO s1.heap.objs.size) } := I1.kept (t' := s1.toks) kp
    have n1 : (s1.heap.push (itO l a)).objs.size ≠ s1.heap.objs.size := by rw [zs]; exact Nat.succ_ne_self _
    have n2 : a ≠ (s1.heap.push (itO l a)).objs.size := by rw [zs]; exact Nat.ne_of_lt (Nat.lt_succ_of_lt lt)
    refine ⟨_, _, _, _, H1, rfl, I2, turn_je (l := l) n1 (Nat.ne_of_lt lt) n2, ⟨⟨.none, e1⟩, cur_new (Heap.get?_push_of_some _ (Heap.get?_push_size _ fr))⟩, fun c hc => ?_, hR⟩
    have hle : s1.heap.objs.size ≤ c := by
      have : c = (s1.heap.push (itO l a)).objs.size ∨ c = s1.heap.objs.size := by simpa using hc
      rcases this with z | z
      · rw [z, zs]; exact Nat.le_succ _
      · rw [z]; exact Nat.le_refl _
    exact I1.fpOk hle (I1.hok.fresh hle)
theorem itr_je {K : PySem.W.Frag} {μ : List Addr} {H : Hp} {a : Addr} {l : Bool} {ds : List Dv} {ck : Ck} (h : ∀ μ' S' H', Step μ H μ' H' → SimS K μ' S' H' → ck.ok S' → ∃ ws, Sq K l H' a ws ∧ Reps K μ' H' ws ds) : ItR K μ H (Je K l a) (enumL ds, ck) := by
  intro μ' S' H' i st hS hck
  obtain ⟨ws, q, r⟩ := h μ' S' H' st hS hck
  refine ⟨fun e => ⟨ws, q, by rw [r.1, e]; exact enumL_len ds 0⟩, fun d hd => ?_⟩
  have hd' : (enumL ds)[i]? = some d := hd
  rw [enumL_get, Option.map_eq_some_iff] at hd'
  obtain ⟨d', hd', rfl⟩ := hd'
  obtain ⟨v, hv, rv⟩ := r.get hd'
  refine ⟨⟨ws, v, q, hv⟩, ?_⟩
  rintro _ _ ⟨T, z, rfl, hT, rfl, y⟩
  have e1 := y ws q
  rw [hv] at e1; cases e1
  have rr : Reps K μ' H' [.int (i : Nat), v] [.int ((0 + i : Nat) : Int), d'] := by
    rw [Nat.zero_add]; exact (Reps.one rv).cons (.int _)
  exact ⟨step_lay hS hT _, hS.lay hT _, .tup ⟨upd_same, hS.fresh hT⟩ rr.1 (rr.step (step_lay hS hT _)).2⟩
def iEnumA (a : RA) : RI := fun ρ S => (a ρ S).bind fun ds S1 => match ds with
  | [d] => match seqOf S1 d with
    | some xs => .ok (enumL xs, ckOf d xs) S1
    | none => .no
  | _ => .no
theorem si_enumA {X : Cx} {W : WX} {e : Expr} {ra : RA} {p pos tpos : Pos} {elts : List Expr} {kk : Nat} (hg : Gl X "enumerate") (hm : X.mg "enumerate" = none) (ha : SA X W [e] ra) (hs : starEach [e] X.env = [(false, eval e X.env)] := by rfl) : SI X W (.Tuple elts kk tpos) (.Call (.Name "enumerate" p) [e] [] pos) (iEnumA ra) :=
  PI.imp (pi_je hg hm ha hs) fun σ H R ⟨μ, ρ, S, hS, hE, h⟩ => by
    refine ⟨μ, ρ, S, hS, hE, ?_⟩
    unfold iEnumA at h
    cases q : ra ρ S with
    | no => rw [q] at h; exact h.elim
    | ex x S1 => rw [q] at h; exact h
    | ok ds S1 =>
      rw [q] at h
      simp only [Out.bind_ok] at h
      intro μ1 H1 vs a b r
      match ds, r, h with
      | [d], r, h =>
        obtain ⟨v, rfl, rv⟩ := r.get1
        dsimp only at h
        cases q1 : seqOf S1 d with
        | none => rw [q1] at h; exact h.elim
        | some xs =>
          rw [q1] at h
          obtain ⟨l1, a1, ws1, rfl, s1, k1⟩ := src_keep a rv q1
          exact ⟨l1, a1, ws1, rfl, s1, h μ1 H1 _ a b (itr_je k1)⟩
      | [], r, h => exact h.elim
      | _ :: _ :: _, r, h => exact h.elim
end PL
namespace PL
open PySem PySem.Spec PyProof.Rows L2
/-- x or y, of numbers and None -/
def truD : Dv → Option Bool
  | .non => some false
  | .bl b => some b
  | .int i => some (i != 0)
  | _ => none
def eOrV (a b : RE) : RE := fun ρ S => (a ρ S).bind fun d S1 => match truD d with
  | some true => .ok d S1
  | some false => b ρ S1
  | none => .no
theorem ev_orV {a b : RE} {ρ : Env} {S : Sto} : eOrV a b ρ S = (a ρ S).bind fun d S1 => match truD d with
  | some true => .ok d S1
  | some false => b ρ S1
  | none => .no := .trans rfl rfl
theorem se_orV {X : Cx} {W : WX} {e b : Expr} {es : List Expr} {ra rb : RE} {pos : Pos} (h : SE X W e ra) (t : SE X W (.BoolOp .Or (b :: es) pos) rb) : SE X W (.BoolOp .Or (e :: b :: es) pos) (eOrV ra rb) :=
  PE.imp (pe_orT h t) fun σ H Q ⟨μ, ρ, S, hS, hE, h⟩ => (bnd hS hE h).mono fun v H1 ⟨μ1, S1, d, hS1, hE1, s1, rv, h1⟩ => by
    cases rv with
    | non => exact ⟨false, rfl, ⟨μ1, ρ, S1, hS1, hE1, h1⟩⟩
    | bl k =>
      cases k with
      | true => exact ⟨true, rfl, Met.ok (RP := Rep X.K) h1 hS1 (.bl _)⟩
      | false => exact ⟨false, rfl, ⟨μ1, ρ, S1, hS1, hE1, h1⟩⟩
    | int i =>
      dsimp only [truD] at h1
      refine ⟨i != 0, rfl, ?_⟩
      cases q : (i != 0) with
      | true => rw [q] at h1; exact Met.ok (RP := Rep X.K) h1 hS1 (.int _)
      | false => rw [q] at h1; exact ⟨μ1, ρ, S1, hS1, hE1, h1⟩
    | _ => exact h1.elim
end PL
namespace PL
open PySem PySem.Spec PyProof.Rows L2
/-! ### list(range(a, b)) -/
noncomputable def lrD (x y : Dv) (S : Sto) : Out Dv := match x, y with
  | .int i, .int j => @ite _ (RgOk i j) (Classical.propDecidable _) (newL (rangeL i j) S) .no
  | _, _ => .no
theorem rg_rep {K : PySem.W.Frag} {μ : List Addr} {H : Hp} (i j : Int) : Reps K μ H (rgV i j) (rangeL i j) := by
  unfold rgV rangeL
  refine ⟨by simp, fun n v d h1 h2 => ?_⟩
  rw [List.getElem?_map] at h1 h2
  cases q : (List.range (j - i).toNat)[n]? with
  | none => rw [q] at h1; cases h1
  | some m => rw [q] at h1 h2; cases h1; cases h2; exact .int _
theorem se_lrange2 {X : Cx} {W : WX} {a b : Expr} {ra rb : RE} {p pos p2 pos2 : Pos} (hc : X.calm = true) (hg : Gl X "list") (hm : X.mg "list" = none) (hg2 : Gl X "range") (hm2 : X.mg "range" = none) (ha : SE X W a ra) (hb : SE X W b rb)
    (h1 : starEach [a, b] X.env = (false, eval a X.env) :: starEach [b] X.env := by rfl) (h2 : starEach [b] X.env = (false, eval b X.env) :: starEach [] X.env := by rfl) (h3 : ((backTo pos2 (starEach [b] X.env)).any fun x => x.fst) = false := by rfl)
    (h4 : starEach [.Call (.Name "range" p2) [a, b] [] pos2] X.env = (false, eval (.Call (.Name "range" p2) [a, b] [] pos2) X.env) :: starEach [] X.env := by rfl) :
    SE X W (.Call (.Name "list" p) [.Call (.Name "range" p2) [a, b] [] pos2] [] pos) (eBin lrD ra rb) :=
  PE.imp (pe_listRg hc hg hm (prg_2 hg2 hm2 ha hb h1 h2 h3) h4) fun σ H Q ⟨μ, ρ, S, hS, hE, h⟩ => (bnd hS hE h).mono fun v H1 ⟨μ1, S1, d, hS1, hE1, s1, rv, g1⟩ => (bnd hS1 hE1 g1).mono fun u H2 ⟨μ2, S2, e, hS2, hE2, s2, ru, g2⟩ => by
    have rv' := rv.step s2
    cases rv' with
    | int i =>
      cases ru with
      | int j =>
        unfold lrD at g2
        dsimp only at g2
        split at g2
        · rename_i ok
          exact ⟨i, j, rfl, rfl, ok, fun q n => g2.lst hS2 n (rg_rep i j)⟩
        · exact g2.elim
      | _ => exact g2.elim
    | _ => exact g2.elim
theorem lr_int {S : Sto} {i j : Int} (h0 : 0 ≤ i) (h1 : i < 1000000) (h2 : 0 ≤ j) (h3 : j < 1000000) : lrD (.int i) (.int j) S = newL (rangeL i j) S := by
  unfold lrD
  dsimp only
  rw [if_pos (show RgOk i j from ⟨by omega, by omega, by omega, by omega, by omega⟩)]
end PL

namespace PL
open PySem PySem.Spec PyProof.Rows L2
/-! ### dict displays with keys that are numbers or texts -/
def evPairs : List (RE × RE) → Env → Sto → Out (List (Dv × Dv))
  | [], _, S => .ok [] S
  | p :: r, ρ, S => (p.1 ρ S).bind fun x S1 => (p.2 ρ S1).bind fun y S2 => (evPairs r ρ S2).bind fun ps S3 => .ok ((x, y) :: ps) S3
def RPairs (K : PySem.W.Frag) (μ : List Addr) (H : Hp) (ps : List (V × V)) (qs : List (Dv × Dv)) : Prop := Reps K μ H (ps.map (·.1)) (qs.map (·.1)) ∧ Reps K μ H (ps.map (·.2)) (qs.map (·.2))
def keysD : List (Dv × Dv) → Option (List (L2.Key × Dv))
  | [] => some []
  | q :: r => match keyOf q.1, keysD r with
    | some k, some es => some ((k, q.2) :: es)
    | _, _ => none
def mergeD (acc : List (L2.Key × Dv)) (es : List (L2.Key × Dv)) : List (L2.Key × Dv) := es.foldl (fun a e => gput a e.1 e.2) acc
def eDisp (rs : List (RE × RE)) : RE := fun ρ S => (evPairs rs ρ (S ++ [.dk []])).bind fun qs S2 => match S2[S.length]? with
  | some (.dk []) => match keysD qs with
    | some es => if es.length ≤ 15 then .ok (.ref S.length) (S2.set S.length (.dk (mergeD [] es))) else .no
    | none => .no
  | _ => .no
section
variable {K : PySem.W.Frag} {mg : Str → Option Value} {W : WX} {μ μ1 : List Addr} {H H1 : Hp} {S S1 : Sto} {σ : L2.St} {ρ : Env}
theorem tp_met : ∀ (rs : List (RE × RE)) {σ : L2.St} {H : Hp} {Q : List (V × V) → Hp → Prop}, tG (RPairs K) K mg W (evPairs rs) σ H Q → tPairs (rs.map fun r => (tG (Rep K) K mg W r.1, tG (Rep K) K mg W r.2)) σ H Q
  | [], σ, H, Q, h => by
    obtain ⟨μ, ρ, S, hS, hE, h⟩ := h
    exact Met.ok (RP := RPairs K) h hS ⟨.nil, .nil⟩
  | r :: rs, σ, H, Q, h => by
    obtain ⟨μ, ρ, S, hS, hE, h⟩ := h
    refine (bnd hS hE h).mono fun x H1 ⟨μ1, S1, d, hS1, hE1, s1, rx, h1⟩ => ?_
    refine (bnd hS1 hE1 h1).mono fun y H2 ⟨μ2, S2, e, hS2, hE2, s2, ry, h2⟩ => ?_
    refine tp_met rs ((bnd (R1 := RPairs K) hS2 hE2 h2).mono fun ps H3 ⟨μ3, S3, qs, hS3, hE3, s3, rp, h3⟩ => ?_)
    exact Met.ok (RP := RPairs K) h3 hS3 ⟨rp.1.cons ((rx.step s2).step s3), rp.2.cons (ry.step s3)⟩
theorem keysD_rep : ∀ {qs : List (Dv × Dv)} {es : List (L2.Key × Dv)} {ps : List (V × V)}, keysD qs = some es → RPairs K μ H ps qs → ∃ kvs : List (L2.Key × V), ps = kvs.map (fun kv => (kV kv.1, kv.2)) ∧ kvs.map (·.1) = es.map (·.1) ∧ Reps K μ H (kvs.map (·.2)) (es.map (·.2))
  | [], es, ps, h, r => by
    cases h
    have := r.1.un0
    rw [List.map_eq_nil_iff] at this
    subst this
    exact ⟨[], rfl, rfl, .nil⟩
  | q :: qs, es, ps, h, r => by
    simp only [keysD] at h
    split at h
    · rename_i k es' hk he
      cases h
      cases ps with
      | nil => exact absurd r.1.1 (by simp)
      | cons p ps =>
        obtain ⟨v, ws, e1, r1, t1⟩ := r.1.uncons
        obtain ⟨u, zs, e2, r2, t2⟩ := r.2.uncons
        simp only [List.map_cons, List.cons.injEq] at e1 e2
        obtain ⟨rfl, rfl⟩ := e1
        obtain ⟨rfl, rfl⟩ := e2
        obtain ⟨kvs, e3, e4, e5⟩ := keysD_rep he ⟨t1, t2⟩
        refine ⟨(k, p.2) :: kvs, ?_, by rw [List.map_cons, List.map_cons, e4], e5.cons r2⟩
        rw [List.map_cons, ← e3, ← keyOf_rep r1 hk]
    · cases h
theorem merge_rep : ∀ (es : List (L2.Key × Dv)) (kvs : List (L2.Key × V)) (acc : List (L2.Key × Dv)) (ws : List (L2.Key × V)), kvs.map (·.1) = es.map (·.1) → Reps K μ H (kvs.map (·.2)) (es.map (·.2)) → ws.map (·.1) = acc.map (·.1) → Reps K μ H (ws.map (·.2)) (acc.map (·.2)) →
    (mergeK ws kvs).map (·.1) = (mergeD acc es).map (·.1) ∧ Reps K μ H ((mergeK ws kvs).map (·.2)) ((mergeD acc es).map (·.2))
  | [], kvs, acc, ws, h, r, ha, ra => by
    rw [List.map_nil, List.map_eq_nil_iff] at h
    subst h
    exact ⟨ha, ra⟩
  | e :: es, [], acc, ws, h, r, ha, ra => by simp at h
  | e :: es, kv :: kvs, acc, ws, h, r, ha, ra => by
    simp only [List.map_cons, List.cons.injEq] at h
    obtain ⟨u, zs, e2, r2, t2⟩ := r.uncons
    simp only [List.map_cons, List.cons.injEq] at e2
    obtain ⟨rfl, rfl⟩ := e2
    obtain ⟨g1, g2⟩ := gput_rep (k := e.1) ha ra r2
    have := merge_rep es kvs (gput acc e.1 e.2) (putK ws e.1 kv.2) h.2 t2 g1 g2
    show (mergeK (putK ws kv.1 kv.2) kvs).map (·.1) = (mergeD (gput acc e.1 e.2) es).map (·.1) ∧ Reps K μ H ((mergeK (putK ws kv.1 kv.2) kvs).map (·.2)) ((mergeD (gput acc e.1 e.2) es).map (·.2))
    rw [h.1]
    exact this
end
section
variable {X : Cx} {W : WX} {k v e : Expr} {ks : List (Option Expr)} {vs : List Expr} {a b : RE} {rs : List (RE × RE)} {pos : Pos}
structure SPs (X : Cx) (W : WX) (pos : Pos) (ks : List (Option Expr)) (vs : List Expr) (rs : List (RE × RE)) : Prop where
  pp : PPs X pos ks vs (rs.map fun r => (tG (Rep X.K) X.K X.mg W r.1, tG (Rep X.K) X.K X.mg W r.2))
theorem sps_nil : SPs X W pos [] [] [] := ⟨pps_nil⟩
theorem sps_cons (hk : SE X W k a) (hv : SE X W v b) (t : SPs X W pos ks vs rs) : SPs X W pos (some k :: ks) (v :: vs) ((a, b) :: rs) := ⟨pps_cons hk hv t.pp⟩
theorem se_disp (h : SPs X W pos ks vs rs) (hall : ks.all (·.isSome) = true) (hl : ks.length = vs.length) (h0 : ks ≠ []) (h15 : ks.length ≤ 15) : SE X W (.Dict ks vs pos) (eDisp rs) :=
  PE.imp (pe_disp h.pp hall hl h0 h15) fun σ H Q ⟨μ, ρ, S, hS, hE, hm⟩ p hp => by
    have st0 := step_new hS hp (.dK [])
    have hS0 : SimS X.K (μ ++ [p]) (S ++ [.dk []]) (upd H p (.dK [])) := hS.new hp ⟨[], upd_same, rfl, .nil⟩
    have hm0 := Met.step st0 hm
    refine tp_met rs ((bnd (R1 := RPairs X.K) hS0 (hE.step st0) hm0).mono fun ps H2 ⟨μ2, S2, qs, hS2, hE2, s2, rp, h2⟩ => ?_)
    have hp2 : μ2[S.length]? = some p := s2.get (new_at hS p)
    split at h2
    · rename_i eS
      obtain ⟨ws, w1, w2, _⟩ := hS2.at' eS hp2
      rw [List.map_nil, List.map_eq_nil_iff] at w2
      subst w2
      split at h2
      · rename_i es he
        split at h2
        · rename_i h15'
          obtain ⟨kvs, e3, e4, e5⟩ := keysD_rep he rp
          refine ⟨w1, kvs, e3, by have := congrArg List.length e4; simp at this; omega, ?_⟩
          obtain ⟨m1, m2⟩ := merge_rep es kvs [] [] e4 e5 rfl .nil
          exact h2.put (RP := Rep X.K) hS2 hp2 (u := .dK (mergeK [] kvs)) ⟨_, upd_same, m1, m2.step (step_put hS2 hp2 _)⟩ (.ref hp2)
        · exact h2.elim
      · exact h2.elim
    · exact h2.elim
end
/-! ### reversed -/
def trevD (d : Dv) (S : Sto) : Out Dv := match lstOf S d with
  | some ds => .ok (.tup ds.reverse) S
  | none => .no
theorem se_tupRev {X : Cx} {W : WX} {e : Expr} {ra : RE} {p p2 pos pos2 : Pos} (hc : X.calm = true) (hg : Gl X "tuple") (hm : X.mg "tuple" = none) (hg2 : Gl X "reversed") (hm2 : X.mg "reversed" = none) (he : SE X W e ra)
    (hs : starEach [e] X.env = (false, eval e X.env) :: starEach [] X.env := by rfl)
    (hs2 : starEach [.Call (.Name "reversed" p2) [e] [] pos2] X.env = (false, eval (.Call (.Name "reversed" p2) [e] [] pos2) X.env) :: starEach [] X.env := by rfl) :
    SE X W (.Call (.Name "tuple" p) [.Call (.Name "reversed" p2) [e] [] pos2] [] pos) (eUn trevD ra) :=
  PE.imp (RT.pe_tupRev hc hg hm hg2 hm2 he hs hs2) fun σ H Q ⟨μ, ρ, S, hS, hE, h⟩ => (bnd hS hE h).mono fun v H1 ⟨μ1, S1, d, hS1, hE1, s1, rv, h1⟩ => by
    unfold trevD at h1
    split at h1
    · rename_i ds el
      obtain ⟨a, vs, rfl, q, r⟩ := rv.sqL hS1 el
      exact ⟨a, vs, rfl, q, fun q' n => h1.tup hS1 n r.rev⟩
    · exact h1.elim
end PL
namespace PL
open PySem PySem.Spec PyProof.Rows L2
/-! ### loops over reversed(..) -/
def iRev (e : RE) : RI := fun ρ S => (e ρ S).bind fun d S1 => match seqOf S1 d with
  | some ds => .ok (ds.reverse, ckOf d ds) S1
  | none => .no
theorem rev_get {α : Type} {xs : List α} {i : Nat} {x : α} (h : xs.reverse[i]? = some x) : i < xs.length ∧ xs[xs.length - 1 - i]? = some x := by
  have hi := (List.getElem?_eq_some_iff.mp h).1
  rw [List.length_reverse] at hi
  rw [List.getElem?_reverse hi] at h
  exact ⟨hi, h⟩
theorem src_keep2 {K : PySem.W.Frag} {μ : List Addr} {H : Hp} {S : Sto} {v : V} {d : Dv} {ds : List Dv} (hS : SimS K μ S H) (r : Rep K μ H v d) (e : seqOf S d = some ds) :
    ∃ l a vs, v = .ref a ∧ Sq K l H a vs ∧ Reps K μ H vs ds ∧ ∀ μ' S' H', Step μ H μ' H' → SimS K μ' S' H' → (ckOf d ds).ok S' → ∃ ws, Sq K l H' a ws ∧ Reps K μ' H' ws ds := by
  unfold seqOf at e
  cases q : tupOf d with
  | some es =>
    rw [q] at e
    cases e
    obtain ⟨a, vs, rfl, rr, h1, h2⟩ := sqT_keep r q
    exact ⟨false, a, vs, rfl, h1, rr, fun μ' S' H' st _ _ => ⟨vs, h2 μ' H' st, rr.step st⟩⟩
  | none =>
    rw [q] at e
    obtain ⟨a, vs, rfl, h1, rr⟩ := r.sqL hS e
    obtain ⟨a', vs', e', _, h2⟩ := itr_list hS r e
    cases e'
    exact ⟨true, a, vs, rfl, h1, rr, h2⟩
theorem si_rev {X : Cx} {W : WX} {tg e : Expr} {re : RE} {p pos : Pos} (hg : Gl X "reversed") (hm : X.mg "reversed" = none) (he : SE X W e re) (hs : starEach [e] X.env = (false, eval e X.env) :: starEach [] X.env := by rfl) : SI X W tg (.Call (.Name "reversed" p) [e] [] pos) (iRev re) :=
  PI.imp (RT.pi_revA hg hm he hs) fun σ H R ⟨μ, ρ, S, hS, hE, h⟩ => by
    refine ⟨μ, ρ, S, hS, hE, ?_⟩
    unfold iRev at h
    cases q : re ρ S with
    | no => rw [q] at h; exact h.elim
    | ex x S1 => rw [q] at h; exact h
    | ok d S1 =>
      rw [q] at h
      simp only [Out.bind_ok] at h
      intro μ1 H1 v a b r
      cases q1 : seqOf S1 d with
      | none => rw [q1] at h; exact h.elim
      | some ds =>
        rw [q1] at h
        obtain ⟨l, a1, vs, rfl, s1, r1, k1⟩ := src_keep2 a r q1
        refine ⟨a1, vs, rfl, ?_⟩
        cases l with
        | true =>
          refine .inl ⟨s1, h μ1 H1 _ a b fun μ' S' H' i st hS' hck => ?_⟩
          obtain ⟨ws, w1, w2⟩ := k1 μ' S' H' st hS' hck
          refine ⟨fun e => by show vs.length ≤ i; rw [e, r1.1]; exact Nat.le_of_eq (List.length_reverse).symm, fun d hd => ?_⟩
          obtain ⟨hi, hd⟩ := rev_get hd
          rw [← r1.1] at hi hd
          obtain ⟨u, hu, ru⟩ := w2.get hd
          refine ⟨⟨hi, ws, u, w1, hu⟩, ?_⟩
          rintro x _ ⟨rfl, y⟩
          have := y ws w1
          rw [hu] at this; cases this
          exact ⟨.refl .., hS', ru⟩
        | false =>
          refine .inr ⟨s1, h μ1 H1 _ a b fun μ' S' H' i st hS' hck => ?_⟩
          obtain ⟨ws, w1, w2⟩ := k1 μ' S' H' st hS' hck
          refine ⟨fun e => by show vs.length ≤ i; rw [e, r1.1]; exact Nat.le_of_eq (List.length_reverse).symm, fun d hd => ?_⟩
          obtain ⟨hi, hd⟩ := rev_get hd
          rw [← r1.1] at hi hd
          obtain ⟨u, hu, ru⟩ := w2.get hd
          refine ⟨⟨hi, ws, u, w1, hu⟩, ?_⟩
          rintro x _ ⟨rfl, y⟩
          have := y ws w1
          rw [hu] at this; cases this
          exact ⟨.refl .., hS', ru⟩
end PL
namespace PL
open PySem PySem.Spec PyProof.Rows L2
/-! ### enumerate(reversed(a list)) -/
section
variable {prog : Program} {w : World} {A : Around} {E : Value → Shared → Prop} {s : Shared}
theorem nx_rev {it l : Addr} {i : Nat} {items : Array Value} {x : Value} {Q : Value → Shared → Prop} (hit : s.heap.IsRevIter it l (i : Int)) (hl : s.heap.IsList l items) (hx : items[i]? = some x)
    (hQ : ∀ h', h'.IsRevIter it l ((i : Int) - 1) → Heap.SameBut it s.heap h' → Q x { s with heap := h' }) : wpAny (model prog w) A (Builtin.SmallTypes.nextOf (.ref it)) Q E s := by
  obtain ⟨o, ho, hc, hd⟩ := id hit
  obtain ⟨ol, hol, _, nl, hdl⟩ := hl
  unfold Builtin.SmallTypes.nextOf
  refine wpAny_bind (wpAny_callSpecial?_slot (name := Str.ofString "__next__") hit.typeIs F.slot_lri_next (wpAny_call_entry F.slot_lri_next hit.typeIs F.entry_lri_next ?_ (F.args_lri_next_1 _)))
  unfold Builtin.«list_reverseiterator.__next__»
  refine wpAny_bind (wpAny_of_eq (a := (Value.ref it, [])) rfl ?_); (try dsimp only)
  refine wpAny_bind (wpAny_field ho hd (x := rawInt (i : Int)) rfl ?_); show wpAny _ _ (if (i : Int) < 0 then _ else _) _ _ s; rw [if_neg (by omega)]
  show wpAny _ _ (field (.ref it) 0 >>= _) _ _ s; refine wpAny_bind (wpAny_field ho hd (x := .ref l) rfl ?_)
  show wpAny _ _ (seqItems? (.ref l) >>= _) _ _ s; refine wpAny_bind (wpAny_seqItems hol hdl ?_)
  simp only [Int.toNat_natCast, hx]
  have fin : ∀ h', h' = s.heap.update it (fun o => o) → True := fun _ _ => trivial
  refine wpAny_bind (wpAny_setField ho hd (by simp) ?_)
  first
    | refine wpAny_pure ⟨x, rfl, wpAny_pure (hQ _ ?_ (Heap.SameBut.update ..))⟩
    | refine wpAny_bind (wpAny_pure (wpAny_pure ⟨x, rfl, wpAny_pure (hQ _ ?_ (Heap.SameBut.update ..))⟩))
  exact ⟨_, Heap.get?_update_self _ ho (Obj.isFreed_of_fields (Obj.data_mapFields hd _)), (Obj.cls_mapFields ..).trans hc, by rw [Obj.data_mapFields hd]; simp⟩
theorem nx_rev_end {it l : Addr} {Q : Value → Shared → Prop} (hh : A.handled = none) (hit : s.heap.IsRevIter it l (-1))
    (hE : ∀ h' e, Heap.ExtBut it s.heap h' → (∃ o, h'.get? e = some o ∧ o.cls = .type "StopIteration") → E (.ref e) { s with heap := h' }) : wpAny (model prog w) A (Builtin.SmallTypes.nextOf (.ref it)) Q E s := by
  obtain ⟨o, ho, hc, hd⟩ := id hit
  unfold Builtin.SmallTypes.nextOf
  refine wpAny_bind (wpAny_callSpecial?_slot (name := Str.ofString "__next__") hit.typeIs F.slot_lri_next (wpAny_call_entry F.slot_lri_next hit.typeIs F.entry_lri_next ?_ (F.args_lri_next_1 _)))
  unfold Builtin.«list_reverseiterator.__next__»
  refine wpAny_bind (wpAny_of_eq (a := (Value.ref it, [])) rfl ?_); (try dsimp only)
  refine wpAny_bind (wpAny_field ho hd (x := rawInt (-1)) rfl ?_); show wpAny _ _ (if (-1 : Int) < 0 then _ else _) _ _ s; rw [if_pos (by decide)]
  refine wpAny_bind (wpAny_rule ?_)
  first
    | show wpAny _ _ (newExc (.type "StopIteration") [] >>= _) _ _ _
    | (refine wpAny_bind ?_; show wpAny _ _ (newExc (.type "StopIteration") [] >>= _) _ _ _)
  refine wpAny_bind ?_; simp only [newExc, newTuple]; refine wpAny_bind (wpAny_newObj_type ?_ (by size_fits))
  refine wpAny_bind (m := firstArgMember _ _) (wpAny_of_eq (a := Value.none) (by first | rfl | (simp only [firstArgMember]; rfl)) ?_); refine wpAny_newObj_type ?_ (by size_fits)
  simp only [raiseNew]; refine wpAny_bind (wpAny_handled ?_)
  first | rw [show A.in1.handled = none from hh] | rw [hh]
  refine wpAny_bind (wpAny_pure (wpAny_throw ?_)); exact hE _ _ (((Heap.ExtBut.refl _ _).push _).push _) ⟨_, Heap.get?_push_size _ rfl, rfl⟩
end
theorem rev_draws {prog : Program} {w : World} {A : Around} (hh : A.handled = none) (it l : Addr) (ne : l ≠ it) (items : Array Value) :
    Draws prog w A it [it, l] items.size (fun i v => items[items.size - 1 - i]? = some v) (fun i h => i ≤ items.size ∧ h.IsRevIter it l ((items.size : Int) - 1 - (i : Nat)) ∧ h.IsList l items) where
  live := fun _ _ st => let ⟨o, ho, _⟩ := st.2.1; ⟨o, ho⟩
  frame := fun _ _ _ st hk => ⟨st.1, st.2.1.at fun o e => hk it (by simp) o e, st.2.2.at fun o e => hk l (by simp) o e⟩
  item := fun i s Q E hi st hQ => by
    have e1 : (items.size : Int) - 1 - (i : Nat) = ((items.size - 1 - i : Nat) : Int) := by omega
    have st1 := st.2.1
    rw [e1] at st1
    refine nx_rev st1 st.2.2 (x := items[items.size - 1 - i]'(by omega)) (by simp) fun h' hit' hs' => ?_
    refine hQ _ h' s.toks (by simp) ⟨hi, ?_, st.2.2.extBut hs'.extBut ne⟩ hs'
    rw [show (items.size : Int) - 1 - ((i + 1 : Nat) : Int) = ((items.size - 1 - i : Nat) : Int) - 1 by omega]; exact hit'
  done := fun s Q E st hE => nx_rev_end hh (by have := st.2.1; rwa [show (items.size : Int) - 1 - ((items.size : Nat) : Int) = -1 by omega] at this) hE
/-- numbered items of a list from its end -/
def Jr (K : PySem.W.Frag) (a : Addr) (n : Nat) : It :=
  ⟨fun i H => i < n ∧ ∃ vs x, SqL K H a vs ∧ vs.length = n ∧ vs[n - 1 - i]? = some x,
    fun i H v H' => ∃ T x, v = .ref T ∧ H T = none ∧ H' = upd H T (.tup [.int (i : Nat), x]) ∧ (∀ vs, SqL K H a vs → vs[n - 1 - i]? = some x),
    fun i H => ∃ vs, SqL K H a vs ∧ vs.length = n ∧ i = n⟩
theorem turn_jr {P : Program} {w : World} {K : PySem.W.Frag} {elts : List Expr} {kk n : Nat} {tpos : Pos} {a e it : Addr} (ne : e ≠ it) (ni : a ≠ it) (na : a ≠ e) :
    Turn P w K (.Tuple elts kk tpos) (Jr K a n) [e, it] e (fun i h => (∃ old, IsEnum h e it ((i : Nat) : Int) old) ∧ i ≤ n ∧ h.IsRevIter it a ((n : Int) - 1 - (i : Nat))) := by
  have sp : ∀ {c : Addr}, c ∈ [e, it] → c = e ∨ c = it := fun h => by simpa using h
  have nf : e ∉ [it, a] := fun h => by
    simp only [List.mem_cons, List.not_mem_nil, or_false] at h
    exact h.elim ne fun z => na z.symm
  refine ⟨by simp, ?_, ?_, ?_, ?_, fun A i s Q E st hQ => let ⟨⟨_, e1⟩, _⟩ := st; wpAny_pyIter_enum e1 hQ⟩
  · rintro i h ⟨⟨old, e1⟩, _, o, e2, _, d⟩ c hc
    rcases sp hc with rfl | rfl
    · exact ⟨_, e1, fun v z => nomatch z⟩
    · exact ⟨o, e2, fun v z => by rw [d] at z; cases z⟩
  · rintro i h h' ⟨⟨old, e1⟩, le, e2⟩ kp
    exact ⟨⟨old, kp e (by simp) _ e1⟩, le, e2.at (kp it (by simp))⟩
  · intro X hP hw hK hc i pins s σ H E I hf ⟨⟨old, e1⟩, le, e2⟩ ⟨hin, vs, x, q1, hn, g1⟩
    subst hP hw hK
    obtain ⟨its, r1, p1⟩ := sq_read (l := true) I q1
    obtain ⟨u1, hu1, ru1⟩ := r1.get g1
    have sz : its.toArray.size = n := by rw [List.size_toArray, ← hn]; exact r1.length.symm
    have hh : X.A.handled = none := I.ok.hd hc
    have D1 := rev_draws (prog := X.prog) (w := X.w) (A := X.A.in1) hh it a ni its.toArray
    refine wpAny_pyNext_enum_itemD D1 e1 ⟨by omega, by rw [sz]; exact e2, p1⟩ (by omega) ne nf fun w1 h' tk a1 en st1 tn _ kp => ?_
    have w1e : w1 = u1 := Option.some.inj (a1.symm.trans (show its.toArray[its.toArray.size - 1 - i]? = some u1 by rw [sz]; simpa using hu1))
    subst w1e
    refine ⟨_, rfl, wpAny_letOwnedTupleGo_enum (s := { s with heap := h', toks := tk + 1 }) en fun h2 en2 sb => ?_⟩
    have zl : e < s.heap.objs.size := Heap.lt_size e1
    have tn2 : h2.get? s.heap.objs.size = some { cls := .type "tuple", data := .seq #[.int i tk, w1] } := (sb.2 _ (Nat.ne_of_gt zl)).trans tn
    have ok : ObjOk X.prog X.w (upd H s.heap.objs.size (.tup [.int (i : Nat), x])) h2 s.heap.objs.size (.tup [.int (i : Nat), x]) := ⟨show 2 ≤ 2 ^ 24 by omega, [.int i tk, w1], .cons ⟨_, rfl⟩ (.cons ru1 .nil), ⟨_, tn2, rfl, _, rfl⟩⟩
    have I2 : Inv X pins σ (upd H s.heap.objs.size (.tup [.int (i : Nat), x])) { s with heap := h2, toks := tk + 1 } :=
      I.turnedNew (t' := tk + 1) (ch := [e, it]) (fun c o hn' q => by
        have n1 : c ≠ e := fun z => hn' (by simp [z])
        exact (sb.2 c n1).trans (kp c o n1 (fun z => hn' (by simp [z])) q)) hf (Nat.le_refl _) ok
    refine ⟨.ref s.heap.objs.size, _, I2, rfl, ⟨_, x, rfl, I.hok.fresh (Nat.le_refl _), rfl, fun ws q => by rw [I.list_inj q q1]; exact g1⟩, ⟨⟨w1, ?_⟩, hin, ?_⟩, fun c hcm => ?_⟩
    · rw [show ((i + 1 : Nat) : Int) = (i : Int) + 1 by omega]; exact en2
    · have := st1.2.1
      rw [sz] at this
      exact this.at fun o q => (sb.2 _ (Ne.symm ne)).trans q
    · have hlt : c < s.heap.objs.size := by
        rcases sp hcm with rfl | rfl
        · exact zl
        · obtain ⟨o, q, _⟩ := e2; exact Heap.lt_size q
      rw [upd_ne (Nat.ne_of_lt hlt)]
      exact (hf c hcm).1
  · intro X hP hw hK hc i pins s σ H E I hf ⟨⟨old, e1⟩, le, e2⟩ ⟨vs, q1, hn, he⟩
    subst hP hw hK
    obtain ⟨its, r1, p1⟩ := sq_read (l := true) I q1
    have sz : its.toArray.size = n := by rw [List.size_toArray, ← hn]; exact r1.length.symm
    have hh : X.A.handled = none := I.ok.hd hc
    have D1 := rev_draws (prog := X.prog) (w := X.w) (A := X.A.in1) hh it a ni its.toArray
    have st : its.toArray.size ≤ its.toArray.size ∧ s.heap.IsRevIter it a ((its.toArray.size : Int) - 1 - (its.toArray.size : Nat)) ∧ s.heap.IsList a its.toArray := ⟨Nat.le_refl _, by rw [sz]; rw [he] at e2; exact e2, p1⟩
    exact wpAny_pyNext_enum_endD D1 e1 st fun h' kp => ⟨rfl, I.turnedL (t' := s.toks) (ch := [e, it]) (fun c o hn' q => kp c o (fun z => hn' (by simp [z])) q) hf⟩
def tJr (K : PySem.W.Frag) (te : TE) : TI := fun σ H R => te σ H fun v H1 => ∃ a xs, v = .ref a ∧ SqL K H1 a xs ∧ R (Jr K a xs.length) H1
theorem pi_jr {X : Cx} {e : Expr} {te : TE} {p p2 pos pos2 tpos : Pos} {elts : List Expr} {kk : Nat} (hg : Gl X "enumerate") (hm : X.mg "enumerate" = none) (hg2 : Gl X "reversed") (hm2 : X.mg "reversed" = none) (he : PE X e te)
    (hs : starEach [e] X.env = (false, eval e X.env) :: starEach [] X.env := by rfl)
    (hs2 : starEach [.Call (.Name "reversed" p2) [e] [] pos2] X.env = (false, eval (.Call (.Name "reversed" p2) [e] [] pos2) X.env) :: starEach [] X.env := by rfl) :
    PI X (.Tuple elts kk tpos) (.Call (.Name "enumerate" p) [.Call (.Name "reversed" p2) [e] [] pos2] [] pos) (tJr X.K te) := by
  refine ⟨fun pins s σ H R I h => Call_ (ld_blt I hg hm boot_enumerate (PyProof.Rows.callWith_type1 (args_cons (Call_ (ld_blt I hg2 hm2 PyProof.Rows.boot_reversed (PyProof.Rows.callWith_type1 (args_cons (thn (he.run pins s σ H _ I h) ?_) hs) hs rfl))) hs2) hs2 rfl))⟩
  rintro u s1 ⟨v, H1, I1, r1, a, xs, rfl, q1, hR⟩
  obtain rfl : u = .ref a := r1
  obtain ⟨its, rv, p1⟩ := sq_read (l := true) I1 q1
  have lt := pn_lt (l := true) p1
  have sz : its.toArray.size = xs.length := by rw [List.size_toArray]; exact rv.length.symm
  refine args_nil (call_reversed_list (show s1.heap.IsList a its.toArray from p1) (args_nil ?_))
  have h0 : (s1.heap.push (revObj a ((its.toArray.size : Int) - 1))).IsRevIter s1.heap.objs.size a ((its.toArray.size : Int) - 1) := ⟨_, Heap.get?_push_size _ rfl, rfl, rfl⟩
  refine en_call (s := { s1 with heap := s1.heap.push (revObj a ((its.toArray.size : Int) - 1)) }) (Hh := fun h => h.IsRevIter s1.heap.objs.size a ((its.toArray.size : Int) - 1)) (it := fun _ => s1.heap.objs.size) (nx := fun h => h) (fun prog w A E s Q hh hq => wpAny_pyIter_revIter hh hq) h0 fun e1 => wpAny_pyIter_enum e1 ?_
  have zs : (s1.heap.push (revObj a ((its.toArray.size : Int) - 1))).objs.size = s1.heap.objs.size + 1 := Heap.size_push ..
  have kp : ∀ c o, s1.heap.get? c = some o → ((s1.heap.push (revObj a ((its.toArray.size : Int) - 1))).push (enO s1.heap.objs.size)).get? c = some o := fun c o q => Heap.get?_push_of_some _ (Heap.get?_push_of_some _ q)
  have I2 : Inv X pins σ H1 { s1 with heap := (s1.heap.push (revObj a ((its.toArray.size : Int) - 1))).push (enO s1.heap.objs.size) } := I1.kept (t' := s1.toks) kp
  have n1 : (s1.heap.push (revObj a ((its.toArray.size : Int) - 1))).objs.size ≠ s1.heap.objs.size := by rw [zs]; exact Nat.succ_ne_self _
  have n2 : a ≠ (s1.heap.push (revObj a ((its.toArray.size : Int) - 1))).objs.size := by rw [zs]; exact Nat.ne_of_lt (Nat.lt_succ_of_lt lt)
  have st0 : ((s1.heap.push (revObj a ((its.toArray.size : Int) - 1))).push (enO s1.heap.objs.size)).IsRevIter s1.heap.objs.size a ((xs.length : Int) - 1 - ((0 : Nat) : Int)) := by
    rw [show (xs.length : Int) - 1 - ((0 : Nat) : Int) = (its.toArray.size : Int) - 1 by rw [sz]; omega]
    exact h0.at fun o q => Heap.get?_push_of_some _ q
  refine ⟨_, _, _, _, H1, rfl, I2, turn_jr (n := xs.length) n1 (Nat.ne_of_lt lt) n2, ⟨⟨.none, e1⟩, Nat.zero_le _, st0⟩, fun c hc => ?_, hR⟩
  have hle : s1.heap.objs.size ≤ c := by
    have : c = (s1.heap.push (revObj a ((its.toArray.size : Int) - 1))).objs.size ∨ c = s1.heap.objs.size := by simpa using hc
    rcases this with z | z
    · rw [z, zs]; exact Nat.le_succ _
    · rw [z]; exact Nat.le_refl _
  exact I1.fpOk hle (I1.hok.fresh hle)
def iEnumR (e : RE) : RI := fun ρ S => (e ρ S).bind fun d S1 => match lstOf S1 d with
  | some ds => .ok (enumL ds.reverse, ckOf d ds) S1
  | none => .no
theorem si_enumR {X : Cx} {W : WX} {e : Expr} {re : RE} {p p2 pos pos2 tpos : Pos} {elts : List Expr} {kk : Nat} (hg : Gl X "enumerate") (hm : X.mg "enumerate" = none) (hg2 : Gl X "reversed") (hm2 : X.mg "reversed" = none) (he : SE X W e re)
    (hs : starEach [e] X.env = (false, eval e X.env) :: starEach [] X.env := by rfl)
    (hs2 : starEach [.Call (.Name "reversed" p2) [e] [] pos2] X.env = (false, eval (.Call (.Name "reversed" p2) [e] [] pos2) X.env) :: starEach [] X.env := by rfl) :
    SI X W (.Tuple elts kk tpos) (.Call (.Name "enumerate" p) [.Call (.Name "reversed" p2) [e] [] pos2] [] pos) (iEnumR re) :=
  PI.imp (pi_jr hg hm hg2 hm2 he hs hs2) fun σ H R ⟨μ, ρ, S, hS, hE, h⟩ => by
    refine ⟨μ, ρ, S, hS, hE, ?_⟩
    unfold iEnumR at h
    cases q : re ρ S with
    | no => rw [q] at h; exact h.elim
    | ex x S1 => rw [q] at h; exact h
    | ok d S1 =>
      rw [q] at h
      simp only [Out.bind_ok] at h
      intro μ1 H1 v a b r
      cases q1 : lstOf S1 d with
      | none => rw [q1] at h; exact h.elim
      | some ds =>
        rw [q1] at h
        obtain ⟨a1, vs, rfl, s1, r1⟩ := r.sqL a q1
        obtain ⟨a2, vs2, e2, _, k1⟩ := itr_list a r q1
        cases e2
        refine ⟨a1, vs, rfl, s1, h μ1 H1 _ a b fun μ' S' H' i st hS' hck => ?_⟩
        obtain ⟨ws, w1, w2⟩ := k1 μ' S' H' st hS' hck
        have lw : ws.length = vs.length := by rw [w2.1, r1.1]
        have ll : (enumL ds.reverse).length = vs.length := by rw [enumL_len ds.reverse 0, List.length_reverse, r1.1]
        refine ⟨fun e => ⟨ws, w1, lw, by rw [e]; exact ll⟩, fun d hd => ?_⟩
        have hd' : (enumL ds.reverse)[i]? = some d := hd
        rw [enumL_get, Option.map_eq_some_iff] at hd'
        obtain ⟨d', hd', rfl⟩ := hd'
        obtain ⟨hi, hd'⟩ := rev_get hd'
        rw [← r1.1] at hi hd'
        obtain ⟨v, hv, rv⟩ := w2.get hd'
        refine ⟨⟨hi, ws, v, w1, lw, hv⟩, ?_⟩
        rintro _ _ ⟨T, z, rfl, hT, rfl, y⟩
        have e1 := y ws w1
        rw [hv] at e1; cases e1
        have rr : Reps X.K μ' H' [.int (i : Nat), v] [.int ((0 + i : Nat) : Int), d'] := by
          rw [Nat.zero_add]; exact (Reps.one rv).cons (.int _)
        exact ⟨step_lay hS' hT _, hS'.lay hT _, .tup ⟨upd_same, hS'.fresh hT⟩ rr.1 (rr.step (step_lay hS' hT _)).2⟩
end PL
namespace PL
open PySem PySem.Spec PyProof.Rows L2
/-! ### range(i, j, 2) -/
def upL2 (lo hi : Int) : List Dv := (List.range ((hi - lo + 1) / 2).toNat).map fun (i : Nat) => .int (lo + 2 * i)
noncomputable def rngS : List Dv → Option (List Dv)
  | [.int i, .int j, .int c] => @ite _ (0 ≤ i ∧ i < 1000000 ∧ 0 ≤ j ∧ j < 1000000 ∧ c = 2) (Classical.propDecidable _) (some (upL2 i j)) none
  | _ => none
theorem itr_up2 {K : PySem.W.Frag} {μ : List Addr} {H : Hp} {lo hi : Int} : ItR K μ H (Itc lo 2 ((hi - lo + 1) / 2).toNat) (upL2 lo hi, .tt) := by
  intro μ' S' H' i st hS _
  have hl : (upL2 lo hi).length = ((hi - lo + 1) / 2).toNat := by simp [upL2]
  refine ⟨fun e => Nat.le_of_eq (hl.symm.trans e.symm), fun d hd => ?_⟩
  have hi' : i < ((hi - lo + 1) / 2).toNat := by rw [← hl]; exact (List.getElem?_eq_some_iff.mp hd).1
  refine ⟨hi', fun x H'' y => ?_⟩
  obtain ⟨rfl, rfl⟩ := y
  have hd' : (upL2 lo hi)[i]? = some d := hd
  simp only [upL2, List.getElem?_map, List.getElem?_range hi', Option.map_some, Option.some.injEq] at hd'
  subst hd'
  rw [show lo + (i : Nat) * 2 = lo + 2 * (i : Int) by omega]
  exact ⟨.refl .., hS, .int _⟩
theorem rgc2 {i j : Int} (h0 : 0 ≤ i) (h1 : i < 1000000) (h2 : 0 ≤ j) (h3 : j < 1000000) : RgC i j 2 ((j - i + 1) / 2).toNat := by
  have e : Builtin.Range.rangeSize i j 2 = (((j - i + 1) / 2).toNat : Int) := by
    unfold Builtin.Range.rangeSize
    rw [if_pos (by decide)]
    split <;> omega
  refine ⟨by decide, by decide, ?_, e⟩
  unfold Builtin.Range.small
  rw [e]
  simp only [Builtin.Range.rangeFitsLong, Bool.and_eq_true, Bool.or_eq_true, decide_eq_true_eq, beq_iff_eq, show (2 : Int) > 0 by decide, if_true]
  omega
theorem si_rangeS {X : Cx} {W : WX} {tg a b c : Expr} {ra : RA} {p pos : Pos} (hg : Gl X "range") (hm : X.mg "range" = none) (ha : SA X W [a, b, c] ra)
    (hs : starEach [a, b, c] X.env = (false, eval a X.env) :: starEach [b, c] X.env := by rfl) (hs2 : (backTo pos (starEach [b, c] X.env)).any (·.1) = false := by rfl) : SI X W tg (.Call (.Name "range" p) [a, b, c] [] pos) (iRange rngS ra) :=
  PI.imp (pi_range3 hg hm ha hs hs2) fun σ H R h => iRange_met h fun μ1 H1 S1 vs ds w a r ew hR => by
    unfold rngS at ew
    split at ew
    · rename_i i j c
      obtain ⟨v, ws, rfl, rv, r2⟩ := r.uncons
      obtain ⟨u, u2, rfl, ru, ru2⟩ := r2.get2
      cases rv; cases ru; cases ru2
      split at ew
      · rename_i hj
        cases ew
        obtain ⟨q0, q1, q2, q3, q4⟩ := hj
        rw [q4]
        exact ⟨i, j, 2, ((j - i + 1) / 2).toNat, rfl, rgc2 q0 q1 q2 q3, hR _ itr_up2⟩
      · cases ew
    · cases ew
theorem rngS_of {i j : Int} (h0 : 0 ≤ i) (h1 : i < 1000000) (h2 : 0 ≤ j) (h3 : j < 1000000) : rngS [.int i, .int j, .int 2] = some (upL2 i j) := by
  simp only [rngS]
  rw [if_pos ⟨h0, h1, h2, h3, trivial⟩]
end PL

namespace PL
open PySem PySem.Spec PyProof.Rows L2
/-! ### max of a list of pairs of whole numbers -/
def pairsD : List Dv → Option (List (Int × Int))
  | [] => some []
  | .tup [.int a, .int b] :: r => (pairsD r).map ((a, b) :: ·)
  | _ => none
theorem pairsD_eq : ∀ {ds : List Dv} {ps : List (Int × Int)}, pairsD ds = some ps → ds = ps.map fun p => .tup [.int p.1, .int p.2]
  | [], ps, h => by simp [pairsD] at h; subst h; rfl
  | d :: r, ps, h => by
    unfold pairsD at h
    split at h
    · rename_i e; cases e
    · rename_i a b r' e
      injection e with e1 e2
      subst e1 e2
      obtain ⟨qs, e3, rfl⟩ := Option.map_eq_some_iff.mp h
      rw [pairsD_eq e3]; rfl
    · cases h
theorem pairsD_of (ps : List (Int × Int)) : pairsD (ps.map fun p => .tup [.int p.1, .int p.2]) = some ps := by
  induction ps with
  | nil => rfl
  | cons p ps ih => rw [List.map_cons, pairsD, ih]; rfl
def maxP (p : Int × Int) (ps : List (Int × Int)) : Int × Int := PySem.W.maxOf p ps
def maxpD (ds : List Dv) (S : Sto) : Out Dv := match ds with
  | [d] => match (lstOf S d).bind pairsD with
    | some (p :: ps) => .ok (.tup [.int (maxP p ps).1, .int (maxP p ps).2]) S
    | _ => .no
  | _ => .no
abbrev pD (p : Int × Int) : PyData := .tuple [.int p.1, .int p.2]
def rMaxP (K : PySem.W.Frag) : List V → Hp → VK → Prop := fun vs H Q => ∃ (a : Addr) (xs : List V) (p : Int × Int) (ps : List (Int × Int)), vs = [V.ref a] ∧ SqL K H a xs ∧ DpAll K H xs ((p :: ps).map pD) ∧
  ∀ (i : Nat) (x : V), xs[i]? = some x → (p :: ps)[i]? = some (maxP p ps) → Q x H
theorem cr_maxP {X : Cx} (hc : X.calm = true) (hu : X.A.units + 65 < cLine) : CallR X (.builtin "max") (rMaxP X.K) := by
  intro pins s σ H vs us Q I r h
  obtain ⟨a, xs, p, ps, rfl, hs, hd, q⟩ := h
  obtain ⟨its, rv, hl, _⟩ := I.list hs
  rw [Vals.ref1 r]
  obtain ⟨as, hr⟩ := Dp.readsAll I _ _ its hd rv
  have hH : PySem.W.HoldAll s.heap its.toArray.toList (p :: ps) := ⟨as, hr⟩
  have hdep : PySem.W.Datum.depth (Int × Int) ≤ 2 := by decide
  refine PySem.W.max_list_datum (I.ok.hd hc) hl.isList hH (by omega) fun i v h' tk hi hv hk => ?_
  have hlen := PySem.W.HoldAll.length hH
  have hii : i < its.length := by
    have := (Array.getElem?_eq_some_iff.mp hi).1
    simpa using this
  have hxl := rv.length
  have hiv : its[i]? = some v := by
    have : its.toArray.toList[i]? = some v := by rw [Array.getElem?_toList]; exact hi
    simpa using this
  have hlen' : its.length = (p :: ps).length := hlen
  obtain ⟨y, hy⟩ : ∃ y, (p :: ps)[i]? = some y := ⟨_, List.getElem?_eq_getElem (by omega)⟩
  obtain ⟨x, hx⟩ : ∃ x, xs[i]? = some x := ⟨_, List.getElem?_eq_getElem (by omega)⟩
  have hat : ∀ (vs : List Value) (qs : List (Int × Int)) (j : Nat) (w : Value) (z : Int × Int), PySem.W.HoldAll s.heap vs qs → vs[j]? = some w → qs[j]? = some z → PySem.W.Holds s.heap w z := by
    intro vs
    induction vs with
    | nil => intro qs j w z _ h; simp at h
    | cons w0 vs ih =>
      intro qs j w z H h1 h2
      cases qs with
      | nil => simp at h2
      | cons z0 qs =>
        cases j with
        | zero => simp at h1 h2; subst h1 h2; exact H.head.1
        | succ j => exact ih qs j w z H.head.2 (by simpa using h1) (by simpa using h2)
  obtain ⟨as1, r1⟩ := (hat _ _ i v y hH (by simpa using hiv) hy).keeps hk
  obtain ⟨as2, r2⟩ := hv
  have e := Reads.unique r1 _ _ r2
  have e1 : y = maxP p ps := by
    have e0 : (PyData.tuple [.int y.1, .int y.2]) = .tuple [.int (maxP p ps).1, .int (maxP p ps).2] := e.1
    injection e0 with e0
    injection e0 with e1 e2
    injection e2 with e2 _
    injection e1 with e1
    injection e2 with e2
    exact Prod.ext e1 e2
  subst e1
  obtain ⟨u, hu', ru⟩ := rv.get hx
  rw [hiv] at hu'; cases hu'
  exact ⟨x, H, I.kept hk, ru, q i x hx hy⟩
theorem o_maxP {K : PySem.W.Frag} : OpL K maxpD (rMaxP K) := by
  intro mg Wx μ H S vs ds Q hS r h
  unfold maxpD at h
  split at h
  · obtain ⟨v, rfl, rv⟩ := r.get1
    split at h
    · rename_i p ps e
      obtain ⟨es, e1, e2⟩ := Option.bind_eq_some_iff.mp e
      obtain ⟨a, us, rfl, hq, rr⟩ := rv.sqL hS e1
      have ee := pairsD_eq e2
      have tp : ∀ qs : List (Int × Int), toPs 3 S (qs.map fun p => .tup [.int p.1, .int p.2]) = some (qs.map pD) := fun qs => by
        induction qs with
        | nil => simp only [List.map_nil, toPs]
        | cons q qs ih => simp only [List.map_cons, toPs, toP, ih, Option.map_some]
      refine ⟨a, us, p, ps, rfl, hq, dps_of hS 3 us es _ rr (by rw [ee]; exact tp _), fun i x hx hp => ?_⟩
      have hd : es[i]? = some (.tup [.int (maxP p ps).1, .int (maxP p ps).2]) := by rw [ee, List.getElem?_map, hp]; rfl
      obtain ⟨u, hu, ru⟩ := rr.get hd
      rw [hx] at hu; cases hu
      exact h.ok hS ru
    · exact h.elim
  · exact h.elim
theorem maxp_ref {S : Sto} {l : Nat} {p : Int × Int} {ps : List (Int × Int)} (h : S[l]? = some (.lst ((p :: ps).map fun p => .tup [.int p.1, .int p.2]))) : maxpD [.ref l] S = .ok (.tup [.int (maxP p ps).1, .int (maxP p ps).2]) S := by
  simp only [maxpD, lst_ref h, Option.bind_some, pairsD_of]
theorem maxP_mem (p : Int × Int) (ps : List (Int × Int)) : maxP p ps ∈ p :: ps := by
  unfold maxP PySem.W.maxOf
  induction ps generalizing p with
  | nil => simp
  | cons q ps ih =>
    rw [List.foldl_cons]
    split
    · exact List.mem_cons_of_mem _ (ih q)
    · rcases List.mem_cons.mp (ih p) with e | e
      · rw [e]; simp
      · exact List.mem_cons_of_mem _ (List.mem_cons_of_mem _ e)
/-! ### a loop over reversed(range(n)) -/
noncomputable def iRevN (e : RE) : RI := fun ρ S => (e ρ S).bind fun d S1 => match d with
  | .int n => @ite _ (0 ≤ n ∧ n < 2 ^ 62) (Classical.propDecidable _) (.ok (downL (n - 1) (-1), .tt) S1) .no
  | _ => .no
theorem si_revN {X : Cx} {W : WX} {tg e : Expr} {re : RE} {p pos p2 pos2 : Pos} (hg : Gl X "reversed") (hm : X.mg "reversed" = none) (hg2 : Gl X "range") (hm2 : X.mg "range" = none) (he : SE X W e re)
    (h1 : starEach [e] X.env = (false, eval e X.env) :: starEach [] X.env := by rfl)
    (h2 : starEach [.Call (.Name "range" p2) [e] [] pos2] X.env = (false, eval (.Call (.Name "range" p2) [e] [] pos2) X.env) :: starEach [] X.env := by rfl) :
    SI X W tg (.Call (.Name "reversed" p) [.Call (.Name "range" p2) [e] [] pos2] [] pos) (iRevN re) :=
  PI.imp (pi_revR hg hm (prg_1 hg2 hm2 he h1) h2) fun σ H R ⟨μ, ρ, S, hS, hE, h⟩ => by
    refine ⟨μ, ρ, S, hS, hE, ?_⟩
    unfold iRevN at h
    cases q : re ρ S with
    | no => rw [q] at h; exact h.elim
    | ex x S1 => rw [q] at h; exact h
    | ok d S1 =>
      rw [q] at h
      simp only [Out.bind_ok] at h
      intro μ1 H1 v a b r
      cases r with
      | int n =>
        by_cases ok : 0 ≤ n ∧ n < 2 ^ 62
        · simp only [if_pos ok] at h
          obtain ⟨k0, k1⟩ := ok
          have e1 : (0 : Int) + (((n - 0).toNat : Nat) : Int) - 1 = n - 1 := by omega
          have e2 : (n - 0).toNat = (n - 1 - -1).toNat := by omega
          refine ⟨n, rfl, by omega, by omega, by omega, k1, ?_⟩
          rw [e1, e2]
          exact h μ1 H1 _ a b itr_down
        · simp only [if_neg ok] at h
      | _ => exact h.elim
theorem ev_irevn {e : RE} {ρ : Env} {S : Sto} : iRevN e ρ S = (e ρ S).bind fun d S1 => match d with
  | .int n => @ite _ (0 ≤ n ∧ n < 2 ^ 62) (Classical.propDecidable _) (.ok (downL (n - 1) (-1), .tt) S1) .no
  | _ => .no := rfl
/-! bits -/
theorem and1_int {S : Sto} (x : Int) : andD (.int x) (.int 1) S = .ok (.int (x % 2)) S := by rw [and_int, bitAnd_m1]
theorem shr_int {S : Sto} {i j : Int} (h : 0 ≤ j) : shrD (.int i) (.int j) S = .ok (.int (i / 2 ^ j.toNat)) S := by simp only [shrD, h, ↓reduceIte]
theorem fdiv_shl {S : Sto} {i : Int} {n : Nat} (hn : n ≤ 1000) : fdivD (.int i) (.int (1 * 2 ^ n)) S = .ok (.int (i / 2 ^ n)) S := by
  rw [Int.one_mul]
  have e : ((2 : Int) ^ n).natAbs = 2 ^ n := by rw [Int.natAbs_pow]; rfl
  have h0 : (0 : Int) < 2 ^ n := Int.pow_pos (by omega)
  have h1 : ((2 : Int) ^ n).natAbs.log2 < 9000 := by rw [e, Nat.log2_two_pow]; omega
  simp only [fdivD]
  rw [if_pos ⟨h0, h1⟩]
theorem mod_shl {S : Sto} {i : Int} {n : Nat} : modD (.int i) (.int (1 * 2 ^ n)) S = .ok (.int (i % 2 ^ n)) S := by
  rw [Int.one_mul]; exact mod_pos (Int.pow_pos (by omega))
end PL

/-! the walk of the linked text (printed by gen.py) -/
namespace Wk
open PySem PySem.Spec PyProof.Rows L2 PL
def topS (i : Nat) : Stmt := PySem.Challenge.pw_pathshape_k43_masks_of_places.main.body.getD i (.Pass ⟨0, 0, 0, 0⟩)
abbrev s_has_bit : Stmt := topS 1
abbrev N_has_bit : List Str := ["mask", "number"]
abbrev p_has_bit : List Str := ["mask", "number"]
theorem sc_has_bit : FnScope N_has_bit p_has_bit (defScope s_has_bit) := ⟨rfl, rfl, rfl, by decide +kernel, rfl, by decide +kernel, by decide +kernel⟩
abbrev s_says : Stmt := topS 2
abbrev N_says : List Str := ["rows", "look", "kind", "marked", "below", "beside", "word", "one"]
abbrev p_says : List Str := ["rows", "look", "kind", "marked", "below", "beside"]
theorem sc_says : FnScope N_says p_says (defScope s_says) := ⟨rfl, rfl, rfl, by decide +kernel, rfl, by decide +kernel, by decide +kernel⟩
abbrev s_mask_of : Stmt := topS 3
abbrev N_mask_of : List Str := ["rows", "kind", "marked", "below", "beside", "mask", "j", "row", "hit", "go", "look", "rest"]
abbrev p_mask_of : List Str := ["rows", "kind", "marked", "below", "beside"]
theorem sc_mask_of : FnScope N_mask_of p_mask_of (defScope s_mask_of) := ⟨rfl, rfl, rfl, by decide +kernel, rfl, by decide +kernel, by decide +kernel⟩
abbrev s_l_mix : Stmt := topS 5
abbrev N_l_mix : List Str := ["_law_cell", "_law_k", "_law_digit", "_law_number", "_law_j"]
abbrev p_l_mix : List Str := ["_law_cell", "_law_k"]
theorem sc_l_mix : FnScope N_l_mix p_l_mix (defScope s_l_mix) := ⟨rfl, rfl, rfl, by decide +kernel, rfl, by decide +kernel, by decide +kernel⟩
abbrev s_l_cells : Stmt := topS 6
abbrev N_l_cells : List Str := ["_law_script", "_law_start", "_law_cells_here", "_law_k"]
abbrev p_l_cells : List Str := ["_law_script", "_law_start"]
theorem sc_l_cells : FnScope N_l_cells p_l_cells (defScope s_l_cells) := ⟨rfl, rfl, rfl, by decide +kernel, rfl, by decide +kernel, by decide +kernel⟩
abbrev s_l_names : Stmt := topS 7
abbrev N_l_names : List Str := ["_law_cell", "_law_names_here", "_law_wide", "_law_place", "_law_k", "_law_word", "_law_j", "_law_name"]
abbrev p_l_names : List Str := ["_law_cell"]
theorem sc_l_names : FnScope N_l_names p_l_names (defScope s_l_names) := ⟨rfl, rfl, rfl, by decide +kernel, rfl, by decide +kernel, by decide +kernel⟩
abbrev s_l_leaf : Stmt := topS 8
abbrev N_l_leaf : List Str := ["_law_cell", "_law_names_here", "_law_rows", "_law_spot", "_law_kind", "_law_bits_here", "_law_j", "_law_row"]
abbrev p_l_leaf : List Str := ["_law_cell", "_law_names_here", "_law_rows", "_law_spot"]
theorem sc_l_leaf : FnScope N_l_leaf p_l_leaf (defScope s_l_leaf) := ⟨rfl, rfl, rfl, by decide +kernel, rfl, by decide +kernel, by decide +kernel⟩
abbrev s_l_truths : Stmt := topS 9
abbrev N_l_truths : List Str := ["_law_pile_here", "_law_cell", "_law_every", "_law_way_here", "_law_one", "_law_other", "_law_many_here", "_law_deep"]
abbrev p_l_truths : List Str := ["_law_pile_here", "_law_cell", "_law_every"]
theorem sc_l_truths : FnScope N_l_truths p_l_truths (defScope s_l_truths) := ⟨rfl, rfl, rfl, by decide +kernel, rfl, by decide +kernel, by decide +kernel⟩
abbrev s_l_before : Stmt := topS 10
abbrev N_l_before : List Str := ["_law_masks_of", "_law_bits_here", "_law_here", "_law_i", "_law_mask"]
abbrev p_l_before : List Str := ["_law_masks_of", "_law_bits_here"]
theorem sc_l_before : FnScope N_l_before p_l_before (defScope s_l_before) := ⟨rfl, rfl, rfl, by decide +kernel, rfl, by decide +kernel, by decide +kernel⟩
abbrev s_l_many : Stmt := topS 11
abbrev N_l_many : List Str := ["_law_pile_here", "_law_cell"]
abbrev p_l_many : List Str := ["_law_pile_here", "_law_cell"]
theorem sc_l_many : FnScope N_l_many p_l_many (defScope s_l_many) := ⟨rfl, rfl, rfl, by decide +kernel, rfl, by decide +kernel, by decide +kernel⟩
abbrev s_l_way : Stmt := topS 12
abbrev N_l_way : List Str := ["_law_pile_here", "_law_cell", "_law_every", "_law_reach", "_law_many_here", "_law_some", "_law_looks", "_law_deep", "_law_steps", "_law_good", "_law_k", "_law_item", "_law_go"]
abbrev p_l_way : List Str := ["_law_pile_here", "_law_cell", "_law_every", "_law_reach"]
theorem sc_l_way : FnScope N_l_way p_l_way (defScope s_l_way) := ⟨rfl, rfl, rfl, by decide +kernel, rfl, by decide +kernel, by decide +kernel⟩
abbrev s_l_pile : Stmt := topS 13
abbrev N_l_pile : List Str := ["_law_cells_here", "_law_names_here", "_law_rows", "_law_reach", "_law_spot", "_law_every", "_law_pile_here", "_law_cell", "_law_some", "_law_many_here"]
abbrev p_l_pile : List Str := ["_law_cells_here", "_law_names_here", "_law_rows", "_law_reach", "_law_spot"]
theorem sc_l_pile : FnScope N_l_pile p_l_pile (defScope s_l_pile) := ⟨rfl, rfl, rfl, by decide +kernel, rfl, by decide +kernel, by decide +kernel⟩
abbrev s_l_turned : Stmt := topS 14
abbrev N_l_turned : List Str := ["_law_look", "_law_table", "_law_rest", "_law_one", "_law_go", "_law_inner", "_law_turned_here"]
abbrev p_l_turned : List Str := ["_law_look", "_law_table"]
theorem sc_l_turned : FnScope N_l_turned p_l_turned (defScope s_l_turned) := ⟨rfl, rfl, rfl, by decide +kernel, rfl, by decide +kernel, by decide +kernel⟩
abbrev s_l_dealt_look : Stmt := topS 15
abbrev N_l_dealt_look : List Str := ["_law_look", "_law_places_now", "_law_one"]
abbrev p_l_dealt_look : List Str := ["_law_look", "_law_places_now"]
theorem sc_l_dealt_look : FnScope N_l_dealt_look p_l_dealt_look (defScope s_l_dealt_look) := ⟨rfl, rfl, rfl, by decide +kernel, rfl, by decide +kernel, by decide +kernel⟩
abbrev s_l_dealt : Stmt := topS 16
abbrev N_l_dealt : List Str := ["_law_table", "_law_cell", "_law_many_here", "_law_by", "_law_places_now", "_law_rows", "_law_j", "_law_row", "_law_rest"]
abbrev p_l_dealt : List Str := ["_law_table", "_law_cell"]
theorem sc_l_dealt : FnScope N_l_dealt p_l_dealt (defScope s_l_dealt) := ⟨rfl, rfl, rfl, by decide +kernel, rfl, by decide +kernel, by decide +kernel⟩
abbrev s_l_truth : Stmt := topS 17
abbrev N_l_truth : List Str := ["_law_table", "_law_look", "_law_case", "_law_both", "_law_kind", "_law_marked", "_law_below", "_law_beside"]
abbrev p_l_truth : List Str := ["_law_table", "_law_look", "_law_case"]
theorem sc_l_truth : FnScope N_l_truth p_l_truth (defScope s_l_truth) := ⟨rfl, rfl, rfl, by decide +kernel, rfl, by decide +kernel, by decide +kernel⟩
abbrev s_l_due : Stmt := topS 18
abbrev N_l_due : List Str := ["_law_table", "_law_case", "_law_mask", "_law_j", "_law_hit", "_law_go", "_law_look", "_law_rest"]
abbrev p_l_due : List Str := ["_law_table", "_law_case"]
theorem sc_l_due : FnScope N_l_due p_l_due (defScope s_l_due) := ⟨rfl, rfl, rfl, by decide +kernel, rfl, by decide +kernel, by decide +kernel⟩
abbrev s_l_bits : Stmt := topS 19
abbrev N_l_bits : List Str := ["_law_cell", "_law_turn", "_law_many_here"]
abbrev p_l_bits : List Str := ["_law_cell", "_law_turn", "_law_many_here"]
theorem sc_l_bits : FnScope N_l_bits p_l_bits (defScope s_l_bits) := ⟨rfl, rfl, rfl, by decide +kernel, rfl, by decide +kernel, by decide +kernel⟩
abbrev s_l_law : Stmt := topS 20
abbrev N_l_law : List Str := ["_law_script", "_law_names_here", "_law_reach", "_law_pile_here", "_law_table", "_law_cell", "_law_cases", "_law_k", "_law_case", "_law_bits_here", "_law_told", "_law_turn", "_law_item"]
abbrev p_l_law : List Str := ["_law_script"]
theorem sc_l_law : FnScope N_l_law p_l_law (defScope s_l_law) := ⟨rfl, rfl, rfl, by decide +kernel, rfl, by decide +kernel, by decide +kernel⟩
inductive Fn where
  | has_bit | says | mask_of | l_mix | l_cells | l_names | l_leaf | l_truths | l_before | l_many | l_way | l_pile | l_turned | l_dealt_look | l_dealt | l_truth | l_due | l_bits | l_law
noncomputable def c_has_bit (G : Fn → List Dv → Sto → Out Dv) : RC := cRet (eBin eqD (eBin andD (eBin shrD (eVar 0) (eVar 1)) (eCon (.int 1))) (eCon (.int 1)))
noncomputable def c_says (G : Fn → List Dv → Sto → Out Dv) : RC := cSeq (cSet 6 (eBin idxD (eVar 1) (eCon (.int 0)))) (cSeq (cIf (cBl (eBin eqD (eVar 6) (eCon (.str "kind")))) (cRet (eBin eqD (eBin idxD (eVar 1) (eCon (.int 1))) (eVar 2))) (cNil)) (cSeq (cIf (cBl (eBin eqD (eVar 6) (eCon (.str "mark")))) (cRet (eVar 3)) (cNil)) (cSeq (cIf (cBl (eBin eqD (eVar 6) (eCon (.str "from")))) (cSeq (cIf (cBl (eBin eqD (eBin idxD (eBin idxD (eVar 0) (eBin idxD (eVar 1) (eCon (.int 1)))) (eCon (.int 0))) (eCon (.str "later")))) (cRet (eOwn 2 (G .has_bit) (aCons (eVar 5) (aCons (eBin idxD (eVar 1) (eCon (.int 1))) (aNil))))) (cNil)) (cRet (eOwn 2 (G .has_bit) (aCons (eVar 4) (aCons (eBin idxD (eVar 1) (eCon (.int 1))) (aNil)))))) (cNil)) (cSeq (cIf (cBl (eBin eqD (eVar 6) (eCon (.str "not")))) (cRet (eNot (eOwn 6 (G .says) (aCons (eVar 0) (aCons (eBin idxD (eVar 1) (eCon (.int 1))) (aCons (eVar 2) (aCons (eVar 3) (aCons (eVar 4) (aCons (eVar 5) (aNil)))))))))) (cNil)) (cSeq (cIf (cBl (eBin eqD (eVar 6) (eCon (.str "any")))) (cRet (eCon (.bl true))) (cNil)) (cSeq (cSet 7 (eOwn 6 (G .says) (aCons (eVar 0) (aCons (eBin idxD (eVar 1) (eCon (.int 1))) (aCons (eVar 2) (aCons (eVar 3) (aCons (eVar 4) (aCons (eVar 5) (aNil))))))))) (cSeq (cIf (cBl (eBin eqD (eVar 6) (eCon (.str "both")))) (cRet (eAnd (eVar 7) (eOwn 6 (G .says) (aCons (eVar 0) (aCons (eBin idxD (eVar 1) (eCon (.int 2))) (aCons (eVar 2) (aCons (eVar 3) (aCons (eVar 4) (aCons (eVar 5) (aNil)))))))))) (cNil)) (cRet (eOr (eVar 7) (eOwn 6 (G .says) (aCons (eVar 0) (aCons (eBin idxD (eVar 1) (eCon (.int 2))) (aCons (eVar 2) (aCons (eVar 3) (aCons (eVar 4) (aCons (eVar 5) (aNil)))))))))))))))))
noncomputable def b_mask_of_1 (G : Fn → List Dv → Sto → Out Dv) : RC := cSeq (cAsg (.tp [.nm 9, .nm 10, .nm 11]) (eVar 7)) (cSeq (cSet 8 (eOwn 6 (G .says) (aCons (eVar 0) (aCons (eVar 10) (aCons (eVar 1) (aCons (eVar 2) (aCons (eVar 3) (aCons (eVar 4) (aNil))))))))) (cSeq (cIf (cAnd (cBl (eVar 8)) (cBl (eBin isNotD (eVar 11) (eCon .non)))) (cSet 8 (eOwn 6 (G .says) (aCons (eVar 0) (aCons (eTup (aCons (eCon (.str "from")) (aCons (eVar 11) (aNil)))) (aCons (eVar 1) (aCons (eVar 2) (aCons (eVar 3) (aCons (eVar 4) (aNil))))))))) (cNil)) (cIf (cOr (cBl (eVar 8)) (cAnd (cBl (eBin eqD (eVar 9) (eCon (.str "deep")))) (cBl (eOwn 2 (G .has_bit) (aCons (eVar 3) (aCons (eVar 6) (aNil))))))) (cSet 5 (eBin orD (eVar 5) (eBin shlD (eCon (.int 1)) (eVar 6)))) (cNil))))
noncomputable def c_mask_of (G : Fn → List Dv → Sto → Out Dv) : RC := cSeq (cSet 5 (eCon (.int 0))) (cSeq (cFor (iEnumA (aCons (eVar 0) (aNil))) (.tp [.nm 6, .nm 7]) (b_mask_of_1 G)) (cRet (eVar 5)))
noncomputable def b_l_mix_1 (G : Fn → List Dv → Sto → Out Dv) : RC := cSet 2 (eBin fdivD (eVar 2) (eCon (.int 840)))
noncomputable def c_l_mix (G : Fn → List Dv → Sto → Out Dv) : RC := cSeq (cSet 2 (eCon (.int 0))) (cSeq (cIf (cBl (eBin geD (eVar 0) (eBin powD (eCon (.int 10)) (eCon (.int 9))))) (cSeq (cSet 2 (eVar 0)) (cFor (iRange rng1 (aCons (eBin modD (eVar 1) (eCon (.int 46))) (aNil))) (.nm 4) (b_l_mix_1 G))) (cNil)) (cSeq (cIf (cBl (eBin gtD (eVar 2) (eCon (.int 0)))) (cRet (eBin modD (eVar 2) (eCon (.int 840)))) (cNil)) (cSeq (cSet 3 (eBin addD (eBin addD (eBin modD (eVar 0) (eCon (.int 1000000007))) (eBin mulD (eCon (.int 7919)) (eVar 1))) (eCon (.int 13)))) (cSeq (cSet 3 (eBin modD (eBin mulD (eVar 3) (eVar 3)) (eCon (.int 998244353)))) (cRet (eBin fdivD (eBin modD (eBin mulD (eVar 3) (eBin addD (eBin addD (eVar 3) (eBin mulD (eCon (.int 16807)) (eVar 1))) (eCon (.int 1)))) (eCon (.int 1000000007))) (eCon (.int 3))))))))
noncomputable def y_l_cells_1 (G : Fn → List Dv → Sto → Out Dv) : RE := eBin idxD (eVar 0) (eVar 3)
noncomputable def y_l_cells_2 (G : Fn → List Dv → Sto → Out Dv) : RE := eOwn 2 (G .l_mix) (aCons (eCall lenD (aCons (eVar 0) (aNil))) (aCons (eBin addD (eBin addD (eCon (.int 40)) (eVar 1)) (eVar 3)) (aNil)))
noncomputable def c_l_cells (G : Fn → List Dv → Sto → Out Dv) : RC := cSeq (cSet 2 (eComp (iRange rngS (aCons (eVar 1) (aCons (eCall min2D (aCons (eCall lenD (aCons (eVar 0) (aNil))) (aCons (eCon (.int 64)) (aNil)))) (aCons (eCon (.int 2)) (aNil))))) (.nm 3) (cYes) (y_l_cells_1 G) [3])) (cRet (eBin addD (eVar 2) (eComp (iRange rng1 (aCons (eBin subD (eCon (.int 6)) (eCall lenD (aCons (eVar 2) (aNil)))) (aNil))) (.nm 3) (cYes) (y_l_cells_2 G) [3])))
noncomputable def b_l_names_1 (G : Fn → List Dv → Sto → Out Dv) : RC := cSet 5 (eBin addD (eVar 5) (eBin idxD (eCon (.str "abcdefghijklmnopqrstuvwxyz")) (eBin modD (eOwn 2 (G .l_mix) (aCons (eVar 0) (aCons (eBin addD (eCon (.int 32)) (eVar 6)) (aNil)))) (eCon (.int 26)))))
noncomputable def y_l_names_2 (G : Fn → List Dv → Sto → Out Dv) : RE := eSli (eVar 5) (oNone) (oSome (eBin addD (eBin addD (eCon (.int 1)) (eBin modD (eOwn 2 (G .l_mix) (aCons (eVar 0) (aCons (eCon (.int 43)) (aNil)))) (eCon (.int 4)))) (eVar 4)))
noncomputable def b_l_names_3 (G : Fn → List Dv → Sto → Out Dv) : RC := cSet 7 (eBin addD (eVar 7) (eBin idxD (eCon (.str "abcdefghijklmnopqrstuvwxyz")) (eBin modD (eBin addD (eOwn 2 (G .l_mix) (aCons (eVar 0) (aCons (eBin addD (eCon (.int 32)) (eVar 6)) (aNil)))) (eBin mulD (eVar 4) (eCall intD (aCons (eBin eqD (eVar 6) (eVar 3)) (aNil))))) (eCon (.int 26)))))
noncomputable def b_l_names_4 (G : Fn → List Dv → Sto → Out Dv) : RC := cSeq (cSet 7 (eCon (.str ""))) (cSeq (cFor (iRange rng1 (aCons (eVar 2) (aNil))) (.nm 6) (b_l_names_3 G)) (cSeq (cIf (cBl (eBin inD (eVar 7) (eLst (aCons (eCon (.str "start")) (aCons (eCon (.str "rule")) (aCons (eCon (.str "row")) (aCons (eCon (.str "mix")) (aCons (eCon (.str "many")) (aCons (eCon (.str "any")) (aCons (eCon (.str "kind")) (aCons (eCon (.str "not")) (aCons (eCon (.str "both")) (aCons (eCon (.str "either")) (aCons (eCon (.str "way")) (aCons (eCon (.str "mark")) (aNil)))))))))))))))) (cSet 7 (eBin addD (eVar 7) (eCon (.str "z")))) (cNil)) (cExpr (eMeth "list" appendD (eVar 1) (aCons (eVar 7) (aNil))))))
noncomputable def c_l_names (G : Fn → List Dv → Sto → Out Dv) : RC := cSeq (cSet 1 (eLst (aNil))) (cSeq (cIf (cBl (eBin eqD (eBin modD (eOwn 2 (G .l_mix) (aCons (eVar 0) (aCons (eCon (.int 40)) (aNil)))) (eCon (.int 3))) (eCon (.int 0)))) (cSeq (cSet 5 (eCon (.str "q"))) (cSeq (cFor (iRange rng1 (aCons (eCon (.int 7)) (aNil))) (.nm 6) (b_l_names_1 G)) (cRet (eComp (iRange rng1 (aCons (eCon (.int 5)) (aNil))) (.nm 4) (cYes) (y_l_names_2 G) [4])))) (cNil)) (cSeq (cSet 2 (eBin addD (eCon (.int 1)) (eBin modD (eOwn 2 (G .l_mix) (aCons (eVar 0) (aCons (eCon (.int 41)) (aNil)))) (eCon (.int 8))))) (cSeq (cSet 3 (eBin modD (eOwn 2 (G .l_mix) (aCons (eVar 0) (aCons (eCon (.int 42)) (aNil)))) (eVar 2))) (cSeq (cFor (iRange rng1 (aCons (eCon (.int 5)) (aNil))) (.nm 4) (b_l_names_4 G)) (cRet (eVar 1))))))
noncomputable def b_l_leaf_1 (G : Fn → List Dv → Sto → Out Dv) : RC := cSet 5 (eBin orD (eVar 5) (eBin shlD (eCall intD (aCons (eBin eqD (eBin idxD (eVar 7) (eCon (.int 1))) (eVar 4)) (aNil))) (eVar 6)))
noncomputable def c_l_leaf (G : Fn → List Dv → Sto → Out Dv) : RC := cSeq (cIf (cBl (eBin eqD (eBin modD (eOwn 2 (G .l_mix) (aCons (eVar 0) (aCons (eCon (.int 10)) (aNil)))) (eCon (.int 5))) (eCon (.int 1)))) (cRet (eTup (aCons (eTup (aCons (eCon (.str "mark")) (aNil))) (aCons (eVar 3) (aCons (eCon (.int 1)) (aCons (eCon (.int 1)) (aNil))))))) (cNil)) (cSeq (cIf (cBl (eBin eqD (eBin modD (eOwn 2 (G .l_mix) (aCons (eVar 0) (aCons (eCon (.int 10)) (aNil)))) (eCon (.int 5))) (eCon (.int 0)))) (cRet (eTup (aCons (eTup (aCons (eCon (.str "any")) (aNil))) (aCons (eBin subD (eBin shlD (eCon (.int 1)) (eCall lenD (aCons (eVar 2) (aNil)))) (eCon (.int 1))) (aCons (eCon (.int 1)) (aCons (eCon (.int 1)) (aNil))))))) (cNil)) (cSeq (cSet 4 (eBin idxD (eVar 1) (eBin modD (eOwn 2 (G .l_mix) (aCons (eVar 0) (aCons (eCon (.int 14)) (aNil)))) (eCon (.int 5))))) (cSeq (cSet 5 (eCon (.int 0))) (cSeq (cFor (iEnumA (aCons (eVar 2) (aNil))) (.tp [.nm 6, .nm 7]) (b_l_leaf_1 G)) (cRet (eTup (aCons (eTup (aCons (eCon (.str "kind")) (aCons (eVar 4) (aNil)))) (aCons (eVar 5) (aCons (eCon (.int 1)) (aCons (eCon (.int 1)) (aNil)))))))))))
noncomputable def c_l_truths (G : Fn → List Dv → Sto → Out Dv) : RC := cSeq (cSet 3 (eBin modD (eOwn 2 (G .l_mix) (aCons (eVar 1) (aCons (eCon (.int 11)) (aNil)))) (eCon (.int 6)))) (cSeq (cSet 4 (eBin idxD (eVar 0) (eUn negD (eCon (.int 1))))) (cSeq (cIf (cAnd (cBl (eBin eqD (eVar 3) (eCon (.int 0)))) (cAnd (cBl (eBin ltD (eBin idxD (eVar 4) (eCon (.int 3))) (eCon (.int 12)))) (cBl (eBin ltD (eBin idxD (eVar 4) (eCon (.int 2))) (eCon (.int 40)))))) (cRet (eLst (aCons (eTup (aCons (eTup (aCons (eCon (.str "not")) (aCons (eBin idxD (eVar 4) (eCon (.int 0))) (aNil)))) (aCons (eBin xorD (eVar 2) (eBin idxD (eVar 4) (eCon (.int 1)))) (aCons (eBin addD (eBin idxD (eVar 4) (eCon (.int 2))) (eCon (.int 1))) (aCons (eBin addD (eBin idxD (eVar 4) (eCon (.int 3))) (eCon (.int 1))) (aNil)))))) (aNil)))) (cNil)) (cSeq (cIf (cAnd (cBl (eBin ltD (eVar 3) (eCon (.int 3)))) (cBl (eBin gtD (eCall lenD (aCons (eVar 0) (aNil))) (eCon (.int 1))))) (cSeq (cSet 5 (eBin idxD (eVar 0) (eUn negD (eCon (.int 2))))) (cSeq (cSet 6 (eBin addD (eBin addD (eBin idxD (eVar 4) (eCon (.int 2))) (eBin idxD (eVar 5) (eCon (.int 2)))) (eCon (.int 1)))) (cSeq (cSet 7 (eBin addD (eCall max2D (aCons (eBin idxD (eVar 4) (eCon (.int 3))) (aCons (eBin idxD (eVar 5) (eCon (.int 3))) (aNil)))) (eCon (.int 1)))) (cSeq (cIf (cAnd (cBl (eBin ltD (eVar 6) (eCon (.int 41)))) (cAnd (cBl (eBin ltD (eVar 7) (eCon (.int 13)))) (cBl (eBin eqD (eVar 3) (eCon (.int 1)))))) (cRet (eLst (aCons (eTup (aCons (eTup (aCons (eCon (.str "both")) (aCons (eBin idxD (eVar 5) (eCon (.int 0))) (aCons (eBin idxD (eVar 4) (eCon (.int 0))) (aNil))))) (aCons (eBin andD (eBin idxD (eVar 5) (eCon (.int 1))) (eBin idxD (eVar 4) (eCon (.int 1)))) (aCons (eVar 6) (aCons (eVar 7) (aNil)))))) (aNil)))) (cNil)) (cIf (cAnd (cBl (eBin ltD (eVar 6) (eCon (.int 41)))) (cBl (eBin ltD (eVar 7) (eCon (.int 13))))) (cRet (eLst (aCons (eTup (aCons (eTup (aCons (eCon (.str "either")) (aCons (eBin idxD (eVar 5) (eCon (.int 0))) (aCons (eBin idxD (eVar 4) (eCon (.int 0))) (aNil))))) (aCons (eBin orD (eBin idxD (eVar 5) (eCon (.int 1))) (eBin idxD (eVar 4) (eCon (.int 1)))) (aCons (eVar 6) (aCons (eVar 7) (aNil)))))) (aNil)))) (cNil)))))) (cNil)) (cRet (eLst (aNil))))))
noncomputable def b_l_before_1 (G : Fn → List Dv → Sto → Out Dv) : RC := cIf (cBl (eBin neD (eBin andD (eVar 4) (eVar 1)) (eCon (.int 0)))) (cSet 2 (eBin orD (eVar 2) (eBin shlD (eCon (.int 1)) (eVar 3)))) (cNil)
noncomputable def c_l_before (G : Fn → List Dv → Sto → Out Dv) : RC := cSeq (cSet 2 (eCon (.int 0))) (cSeq (cFor (iEnumA (aCons (eVar 0) (aNil))) (.tp [.nm 3, .nm 4]) (b_l_before_1 G)) (cRet (eVar 2)))
noncomputable def c_l_many (G : Fn → List Dv → Sto → Out Dv) : RC := cRet (eCall min2D (aCons (eCall lenD (aCons (eVar 0) (aNil))) (aCons (eBin idxD (eLst (aCons (eCon (.int 1)) (aCons (eCon (.int 2)) (aCons (eCon (.int 3)) (aCons (eCon (.int 1)) (aCons (eCon (.int 2)) (aCons (eCon (.int 3)) (aCons (eCon (.int 2)) (aCons (eCon (.int 7)) (aNil)))))))))) (eBin modD (eOwn 2 (G .l_mix) (aCons (eVar 1) (aCons (eCon (.int 15)) (aNil)))) (eCon (.int 8)))) (aNil))))
noncomputable def y_l_way_1 (G : Fn → List Dv → Sto → Out Dv) : RE := eBin idxD (eVar 11) (eCon (.int 2))
noncomputable def y_l_way_2 (G : Fn → List Dv → Sto → Out Dv) : RE := eBin idxD (eVar 11) (eCon (.int 3))
noncomputable def b_l_way_3 (G : Fn → List Dv → Sto → Out Dv) : RC := cSeq (cSet 12 (eBin idxD (eLst (aCons (eCon (.str "down")) (aCons (eCon (.str "deep")) (aCons (eCon (.str "later")) (aCons (eCon (.str "down")) (aNil)))))) (eBin modD (eOwn 2 (G .l_mix) (aCons (eVar 1) (aCons (eBin addD (eCon (.int 50)) (eVar 10)) (aNil)))) (eCon (.int 4))))) (cSeq (cExpr (eMeth "list" appendD (eVar 8) (aCons (eTup (aCons (eVar 12) (aCons (eBin idxD (eVar 11) (eCon (.int 0))) (aNil)))) (aNil)))) (cSet 9 (eOwn 2 (G .l_before) (aCons (eBin idxD (eVar 3) (eVar 12)) (aCons (eBin andD (eVar 9) (eBin idxD (eVar 11) (eCon (.int 1)))) (aNil))))))
noncomputable def c_l_way (G : Fn → List Dv → Sto → Out Dv) : RC := cSeq (cSet 4 (eOwn 2 (G .l_many) (aCons (eVar 0) (aCons (eVar 1) (aNil))))) (cSeq (cSet 5 (eSli (eVar 0) (oSome (eBin subD (eCall lenD (aCons (eVar 0) (aNil))) (eVar 4))) (oNone))) (cSeq (cSet 6 (eBin addD (eCon (.int 1)) (eCall sumD (aCons (eComp (iSeq (eVar 5)) (.nm 11) (cYes) (y_l_way_1 G) [11]) (aNil))))) (cSeq (cSet 7 (eBin addD (eCon (.int 1)) (eCall maxD (aCons (eComp (iSeq (eVar 5)) (.nm 11) (cYes) (y_l_way_2 G) [11]) (aNil))))) (cSeq (cIf (cOr (cBl (eBin gtD (eVar 6) (eCon (.int 40)))) (cBl (eBin gtD (eVar 7) (eCon (.int 12))))) (cRet (eLst (aNil))) (cNil)) (cSeq (cSet 8 (eLst (aNil))) (cSeq (cSet 9 (eVar 2)) (cSeq (cFor (iEnumR (eVar 5)) (.tp [.nm 10, .nm 11]) (b_l_way_3 G)) (cRet (eLst (aCons (eTup (aCons (eTup (aCons (eCon (.str "way")) (aCons (eUn trevD (eVar 8)) (aNil)))) (aCons (eVar 9) (aCons (eVar 6) (aCons (eVar 7) (aNil)))))) (aNil)))))))))))
noncomputable def b_l_pile_1 (G : Fn → List Dv → Sto → Out Dv) : RC := cSeq (cSet 8 (eLst (aNil))) (cSeq (cSet 9 (eCon (.int 1))) (cSeq (cIf (cAnd (cBl (eBin gtD (eCall lenD (aCons (eVar 6) (aNil))) (eCon (.int 0)))) (cBl (eBin eqD (eBin modD (eOwn 2 (G .l_mix) (aCons (eVar 7) (aCons (eCon (.int 19)) (aNil)))) (eCon (.int 3))) (eCon (.int 0))))) (cSeq (cSet 8 (eOwn 4 (G .l_way) (aCons (eVar 6) (aCons (eVar 7) (aCons (eVar 5) (aCons (eVar 3) (aNil))))))) (cSet 9 (eOwn 2 (G .l_many) (aCons (eVar 6) (aCons (eVar 7) (aNil)))))) (cIf (cBl (eBin gtD (eCall lenD (aCons (eVar 6) (aNil))) (eCon (.int 0)))) (cSeq (cSet 8 (eOwn 3 (G .l_truths) (aCons (eVar 6) (aCons (eVar 7) (aCons (eVar 5) (aNil)))))) (cSet 9 (eBin subD (eCon (.int 2)) (eCall intD (aCons (eAnd (eBin gtD (eCall lenD (aCons (eVar 8) (aNil))) (eCon (.int 0))) (eBin eqD (eBin idxD (eBin idxD (eBin idxD (eVar 8) (eCon (.int 0))) (eCon (.int 0))) (eCon (.int 0))) (eCon (.str "not")))) (aNil)))))) (cNil))) (cIf (cBl (eBin gtD (eCall lenD (aCons (eVar 8) (aNil))) (eCon (.int 0)))) (cSet 6 (eBin addD (eSli (eVar 6) (oNone) (oSome (eBin subD (eCall lenD (aCons (eVar 6) (aNil))) (eVar 9)))) (eVar 8))) (cExpr (eMeth "list" appendD (eVar 6) (aCons (eOwn 4 (G .l_leaf) (aCons (eVar 7) (aCons (eVar 1) (aCons (eVar 2) (aCons (eVar 4) (aNil)))))) (aNil)))))))
noncomputable def c_l_pile (G : Fn → List Dv → Sto → Out Dv) : RC := cSeq (cSet 5 (eBin subD (eBin shlD (eCon (.int 1)) (eCall lenD (aCons (eVar 2) (aNil)))) (eCon (.int 1)))) (cSeq (cSet 6 (eLst (aNil))) (cSeq (cFor (iSeq (eVar 0)) (.nm 7) (b_l_pile_1 G)) (cRet (eVar 6))))
noncomputable def b_l_turned_1 (G : Fn → List Dv → Sto → Out Dv) : RC := cSeq (cSet 6 (eOwn 2 (G .l_turned) (aCons (eVar 5) (aCons (eVar 1) (aNil))))) (cSeq (cExpr (eMeth "list" appendD (eVar 1) (aCons (eTup (aCons (eVar 4) (aCons (eVar 6) (aCons (eVar 2) (aNil))))) (aNil)))) (cSet 2 (eBin subD (eCall lenD (aCons (eVar 1) (aNil))) (eCon (.int 1)))))
noncomputable def c_l_turned (G : Fn → List Dv → Sto → Out Dv) : RC := cSeq (cIf (cBl (eBin eqD (eBin idxD (eVar 0) (eCon (.int 0))) (eCon (.str "way")))) (cSeq (cSet 2 (eCon .non)) (cSeq (cFor (iRev (eBin idxD (eVar 0) (eCon (.int 1)))) (.tp [.nm 4, .nm 5]) (b_l_turned_1 G)) (cRet (eTup (aCons (eCon (.str "from")) (aCons (eVar 2) (aNil))))))) (cNil)) (cSeq (cIf (cBl (eBin eqD (eBin idxD (eVar 0) (eCon (.int 0))) (eCon (.str "not")))) (cRet (eTup (aCons (eCon (.str "not")) (aCons (eOwn 2 (G .l_turned) (aCons (eBin idxD (eVar 0) (eCon (.int 1))) (aCons (eVar 1) (aNil)))) (aNil))))) (cNil)) (cSeq (cIf (cBl (eBin inD (eBin idxD (eVar 0) (eCon (.int 0))) (eLst (aCons (eCon (.str "both")) (aCons (eCon (.str "either")) (aNil)))))) (cSeq (cSet 3 (eOwn 2 (G .l_turned) (aCons (eBin idxD (eVar 0) (eCon (.int 1))) (aCons (eVar 1) (aNil))))) (cRet (eTup (aCons (eBin idxD (eVar 0) (eCon (.int 0))) (aCons (eVar 3) (aCons (eOwn 2 (G .l_turned) (aCons (eBin idxD (eVar 0) (eCon (.int 2))) (aCons (eVar 1) (aNil)))) (aNil))))))) (cNil)) (cRet (eVar 0))))
noncomputable def c_l_dealt_look (G : Fn → List Dv → Sto → Out Dv) : RC := cSeq (cIf (cBl (eBin eqD (eBin idxD (eVar 0) (eCon (.int 0))) (eCon (.str "from")))) (cRet (eTup (aCons (eCon (.str "from")) (aCons (eBin idxD (eVar 1) (eBin idxD (eVar 0) (eCon (.int 1)))) (aNil))))) (cNil)) (cSeq (cIf (cBl (eBin eqD (eBin idxD (eVar 0) (eCon (.int 0))) (eCon (.str "not")))) (cRet (eTup (aCons (eCon (.str "not")) (aCons (eOwn 2 (G .l_dealt_look) (aCons (eBin idxD (eVar 0) (eCon (.int 1))) (aCons (eVar 1) (aNil)))) (aNil))))) (cNil)) (cSeq (cIf (cBl (eBin inD (eBin idxD (eVar 0) (eCon (.int 0))) (eLst (aCons (eCon (.str "both")) (aCons (eCon (.str "either")) (aNil)))))) (cSeq (cSet 2 (eOwn 2 (G .l_dealt_look) (aCons (eBin idxD (eVar 0) (eCon (.int 1))) (aCons (eVar 1) (aNil))))) (cRet (eTup (aCons (eBin idxD (eVar 0) (eCon (.int 0))) (aCons (eVar 2) (aCons (eOwn 2 (G .l_dealt_look) (aCons (eBin idxD (eVar 0) (eCon (.int 2))) (aCons (eVar 1) (aNil)))) (aNil))))))) (cNil)) (cRet (eVar 0))))
noncomputable def y_l_dealt_1 (G : Fn → List Dv → Sto → Out Dv) : RE := eBin modD (eBin addD (eBin fdivD (eVar 1) (eCon (.int 2))) (eBin mulD (eVar 3) (eVar 6))) (eVar 2)
noncomputable def b_l_dealt_2 (G : Fn → List Dv → Sto → Out Dv) : RC := cSeq (cSet 8 (eBin idxD (eVar 7) (eCon (.int 2)))) (cSeq (cIf (cBl (eBin isNotD (eVar 8) (eCon .non))) (cSet 8 (eBin idxD (eVar 4) (eVar 8))) (cNil)) (cPut (eVar 5) (eBin idxD (eVar 4) (eVar 6)) (eTup (aCons (eBin idxD (eVar 7) (eCon (.int 0))) (aCons (eOwn 2 (G .l_dealt_look) (aCons (eBin idxD (eVar 7) (eCon (.int 1))) (aCons (eVar 4) (aNil)))) (aCons (eVar 8) (aNil)))))))
noncomputable def c_l_dealt (G : Fn → List Dv → Sto → Out Dv) : RC := cSeq (cSet 2 (eCall lenD (aCons (eVar 0) (aNil)))) (cSeq (cSet 3 (eBin idxD (eLst (aCons (eCon (.int 1)) (aCons (eCall max2D (aCons (eBin subD (eVar 2) (eCon (.int 1))) (aCons (eCon (.int 1)) (aNil)))) (aNil)))) (eBin modD (eVar 1) (eCon (.int 2))))) (cSeq (cSet 4 (eComp (iRange rng1 (aCons (eVar 2) (aNil))) (.nm 6) (cYes) (y_l_dealt_1 G) [6])) (cSeq (cSet 5 (eBin mulD (eLst (aCons (eCon .non) (aNil))) (eVar 2))) (cSeq (cFor (iEnumA (aCons (eVar 0) (aNil))) (.tp [.nm 6, .nm 7]) (b_l_dealt_2 G)) (cRet (eTup (aCons (eVar 5) (aCons (eVar 4) (aNil)))))))))
noncomputable def c_l_truth (G : Fn → List Dv → Sto → Out Dv) : RC := cSeq (cAsg (.tp [.nm 4, .nm 5, .nm 6, .nm 7]) (eVar 2)) (cSeq (cIf (cBl (eBin eqD (eBin idxD (eVar 1) (eCon (.int 0))) (eCon (.str "any")))) (cRet (eCon (.bl true))) (cNil)) (cSeq (cIf (cBl (eBin eqD (eBin idxD (eVar 1) (eCon (.int 0))) (eCon (.str "kind")))) (cRet (eBin eqD (eVar 4) (eBin idxD (eVar 1) (eCon (.int 1))))) (cNil)) (cSeq (cIf (cBl (eBin eqD (eBin idxD (eVar 1) (eCon (.int 0))) (eCon (.str "mark")))) (cRet (eVar 5)) (cNil)) (cSeq (cIf (cBl (eBin eqD (eBin idxD (eVar 1) (eCon (.int 0))) (eCon (.str "from")))) (cRet (eBin eqD (eBin modD (eBin fdivD (eBin idxD (eLst (aCons (eVar 6) (aCons (eVar 7) (aNil)))) (eCall intD (aCons (eBin eqD (eBin idxD (eBin idxD (eVar 0) (eBin idxD (eVar 1) (eCon (.int 1)))) (eCon (.int 0))) (eCon (.str "later"))) (aNil)))) (eBin shlD (eCon (.int 1)) (eBin idxD (eVar 1) (eCon (.int 1))))) (eCon (.int 2))) (eCon (.int 1)))) (cNil)) (cSeq (cIf (cBl (eBin eqD (eBin idxD (eVar 1) (eCon (.int 0))) (eCon (.str "not")))) (cRet (eNot (eOwn 3 (G .l_truth) (aCons (eVar 0) (aCons (eBin idxD (eVar 1) (eCon (.int 1))) (aCons (eVar 2) (aNil))))))) (cNil)) (cSeq (cSet 3 (eLst (aCons (eOwn 3 (G .l_truth) (aCons (eVar 0) (aCons (eBin idxD (eVar 1) (eCon (.int 1))) (aCons (eVar 2) (aNil))))) (aCons (eOwn 3 (G .l_truth) (aCons (eVar 0) (aCons (eBin idxD (eVar 1) (eCon (.int 2))) (aCons (eVar 2) (aNil))))) (aNil))))) (cSeq (cIf (cBl (eBin eqD (eBin idxD (eVar 1) (eCon (.int 0))) (eCon (.str "both")))) (cRet (eAnd (eBin idxD (eVar 3) (eCon (.int 0))) (eBin idxD (eVar 3) (eCon (.int 1))))) (cNil)) (cRet (eOrV (eBin idxD (eVar 3) (eCon (.int 0))) (eBin idxD (eVar 3) (eCon (.int 1))))))))))))
noncomputable def b_l_due_1 (G : Fn → List Dv → Sto → Out Dv) : RC := cSeq (cAsg (.tp [.nm 5, .nm 6, .nm 7]) (eBin idxD (eVar 0) (eVar 3))) (cSeq (cSet 4 (eOwn 3 (G .l_truth) (aCons (eVar 0) (aCons (eVar 6) (aCons (eVar 1) (aNil)))))) (cSeq (cIf (cBl (eBin isNotD (eVar 7) (eCon .non))) (cSet 4 (eAnd (eVar 4) (eOwn 3 (G .l_truth) (aCons (eVar 0) (aCons (eTup (aCons (eCon (.str "from")) (aCons (eVar 7) (aNil)))) (aCons (eVar 1) (aNil))))))) (cNil)) (cSeq (cIf (cBl (eBin eqD (eVar 5) (eCon (.str "deep")))) (cSet 4 (eOr (eVar 4) (eBin eqD (eBin modD (eBin fdivD (eBin idxD (eVar 1) (eCon (.int 2))) (eBin shlD (eCon (.int 1)) (eVar 3))) (eCon (.int 2))) (eCon (.int 1))))) (cNil)) (cSet 2 (eBin addD (eBin mulD (eCon (.int 2)) (eVar 2)) (eCall intD (aCons (eVar 4) (aNil))))))))
noncomputable def c_l_due (G : Fn → List Dv → Sto → Out Dv) : RC := cSeq (cSet 2 (eCon (.int 0))) (cSeq (cFor (iRevN (eCall lenD (aCons (eVar 0) (aNil)))) (.nm 3) (b_l_due_1 G)) (cRet (eVar 2)))
noncomputable def c_l_bits (G : Fn → List Dv → Sto → Out Dv) : RC := cSeq (cIf (cBl (eBin geD (eVar 0) (eBin powD (eCon (.int 10)) (eCon (.int 9))))) (cRet (eBin modD (eBin fdivD (eVar 0) (eBin idxD (eLst (aCons (eCon (.int 1)) (aCons (eBin powD (eCon (.int 2)) (eCon (.int 40))) (aNil)))) (eVar 1))) (eBin shlD (eCon (.int 1)) (eVar 2)))) (cNil)) (cRet (eBin modD (eBin addD (eBin mulD (eOwn 2 (G .l_mix) (aCons (eVar 0) (aCons (eBin addD (eCon (.int 26)) (eVar 1)) (aNil)))) (eBin powD (eCon (.int 2)) (eCon (.int 28)))) (eOwn 2 (G .l_mix) (aCons (eVar 0) (aCons (eBin addD (eCon (.int 28)) (eVar 1)) (aNil))))) (eBin shlD (eCon (.int 1)) (eVar 2))))
noncomputable def y_l_law_1 (G : Fn → List Dv → Sto → Out Dv) : RE := eTup (aCons (eBin idxD (eVar 12) (eCon (.int 2))) (aCons (eVar 7) (aNil)))
noncomputable def y_l_law_2 (G : Fn → List Dv → Sto → Out Dv) : RE := eOwn 3 (G .l_bits) (aCons (eBin addD (eCall sumD (aCons (eSli (eVar 0) (oSome (eBin addD (eCon (.int 3)) (eVar 7))) (oSome (eBin addD (eCon (.int 4)) (eVar 7)))) (aNil))) (eVar 7)) (aCons (eVar 11) (aCons (eCall lenD (aCons (eVar 4) (aNil))) (aNil))))
noncomputable def b_l_law_3 (G : Fn → List Dv → Sto → Out Dv) : RC := cSeq (cSet 8 (eTup (aCons (eBin idxD (eVar 1) (eBin modD (eOwn 2 (G .l_mix) (aCons (eVar 5) (aCons (eBin addD (eCon (.int 24)) (eBin mulD (eCon (.int 4)) (eVar 7))) (aNil)))) (eCon (.int 5)))) (aCons (eBin eqD (eBin modD (eOwn 2 (G .l_mix) (aCons (eVar 5) (aCons (eBin addD (eCon (.int 25)) (eBin mulD (eCon (.int 4)) (eVar 7))) (aNil)))) (eCon (.int 2))) (eCon (.int 1))) (aNil))))) (cSeq (cSet 9 (eComp (iRange rng1 (aCons (eCon (.int 2)) (aNil))) (.nm 11) (cYes) (y_l_law_2 G) [11])) (cExpr (eMeth "list" appendD (eVar 6) (aCons (eBin addD (eVar 8) (eTup (aCons (eBin idxD (eVar 9) (eCon (.int 0))) (aCons (eBin idxD (eVar 9) (eCon (.int 1))) (aNil))))) (aNil)))))
noncomputable def b_l_law_4 (G : Fn → List Dv → Sto → Out Dv) : RC := cSeq (cSet 10 (eOwn 5 (G .mask_of) (aCons (eCall tupleD (aCons (eVar 4) (aNil))) (aCons (eBin idxD (eVar 8) (eCon (.int 0))) (aCons (eBin idxD (eVar 8) (eCon (.int 1))) (aCons (eBin idxD (eVar 8) (eCon (.int 2))) (aCons (eBin idxD (eVar 8) (eCon (.int 3))) (aNil)))))))) (cIf (cOr (cNot (cBl (eUn (isiD "int") (eVar 10)))) (cOr (cBl (eUn (isiD "bool") (eVar 10))) (cBl (eBin neD (eVar 10) (eOwn 2 (G .l_due) (aCons (eVar 4) (aCons (eVar 8) (aNil)))))))) (cRet (eCon (.bl false))) (cNil))
noncomputable def c_l_law (G : Fn → List Dv → Sto → Out Dv) : RC := cSeq (cSet 1 (eOwn 1 (G .l_names) (aCons (eCall sumD (aCons (eSli (eVar 0) (oNone) (oSome (eCon (.int 1)))) (aNil))) (aNil)))) (cSeq (cSet 2 (eDisp [(eCon (.str "down"), eLst (aCons (eCon (.int 0)) (aNil))), (eCon (.str "deep"), eLst (aCons (eCon (.int 0)) (aNil))), (eCon (.str "later"), eLst (aCons (eCon (.int 0)) (aNil)))])) (cSeq (cSet 3 (eOwn 5 (G .l_pile) (aCons (eBin addD (eOwn 2 (G .l_cells) (aCons (eVar 0) (aCons (eCon (.int 0)) (aNil)))) (eOwn 2 (G .l_cells) (aCons (eVar 0) (aCons (eCon (.int 1)) (aNil))))) (aCons (eVar 1) (aCons (eLst (aCons (eTup (aCons (eCon (.int 0)) (aCons (eBin idxD (eVar 1) (eCon (.int 0))) (aNil)))) (aNil))) (aCons (eVar 2) (aCons (eCon (.int 1)) (aNil)))))))) (cSeq (cSet 4 (eLst (aNil))) (cSeq (cExpr (eOwn 2 (G .l_turned) (aCons (eBin idxD (eBin idxD (eVar 3) (eBin idxD (eCall maxpD (aCons (eComp (iEnumA (aCons (eVar 3) (aNil))) (.tp [.nm 7, .nm 12]) (cYes) (y_l_law_1 G) [7, 12]) (aNil))) (eCon (.int 1)))) (eCon (.int 0))) (aCons (eVar 4) (aNil))))) (cSeq (cSet 5 (eCall sumD (aCons (eSli (eVar 0) (oSome (eCon (.int 2))) (oSome (eCon (.int 3)))) (aNil)))) (cSeq (cSet 4 (eBin idxD (eOwn 2 (G .l_dealt) (aCons (eVar 4) (aCons (eOwn 2 (G .l_mix) (aCons (eVar 5) (aCons (eCon (.int 28)) (aNil)))) (aNil)))) (eCon (.int 0)))) (cSeq (cSet 6 (eLst (aNil))) (cSeq (cFor (iRange rng1 (aCons (eCon (.int 4)) (aNil))) (.nm 7) (b_l_law_3 G)) (cSeq (cFor (iSeq (eBin addD (eVar 6) (eSli (eVar 6) (oNone) (oSome (eCon (.int 1)))))) (.nm 8) (b_l_law_4 G)) (cRet (eCon (.bl true))))))))))))
noncomputable def Fs (G : Fn → List Dv → Sto → Out Dv) : Fn → List Dv → Sto → Out Dv
  | .has_bit => runF (c_has_bit G) 2 2
  | .says => runF (c_says G) 8 6
  | .mask_of => runF (c_mask_of G) 12 5
  | .l_mix => runF (c_l_mix G) 5 2
  | .l_cells => runF (c_l_cells G) 4 2
  | .l_names => runF (c_l_names G) 8 1
  | .l_leaf => runF (c_l_leaf G) 8 4
  | .l_truths => runF (c_l_truths G) 8 3
  | .l_before => runF (c_l_before G) 5 2
  | .l_many => runF (c_l_many G) 2 2
  | .l_way => runF (c_l_way G) 13 4
  | .l_pile => runF (c_l_pile G) 10 5
  | .l_turned => runF (c_l_turned G) 7 2
  | .l_dealt_look => runF (c_l_dealt_look G) 3 2
  | .l_dealt => runF (c_l_dealt G) 9 2
  | .l_truth => runF (c_l_truth G) 8 3
  | .l_due => runF (c_l_due G) 8 2
  | .l_bits => runF (c_l_bits G) 3 3
  | .l_law => runF (c_l_law G) 13 1
noncomputable def F : Nat → Fn → List Dv → Sto → Out Dv
  | 0, _ => fun _ _ => .no
  | k + 1, f => Fs (F k) f
theorem F_has_bit (k : Nat) : F (k + 1) .has_bit = runF (c_has_bit (F k)) 2 2 := rfl
theorem F_says (k : Nat) : F (k + 1) .says = runF (c_says (F k)) 8 6 := rfl
theorem F_mask_of (k : Nat) : F (k + 1) .mask_of = runF (c_mask_of (F k)) 12 5 := rfl
theorem F_l_mix (k : Nat) : F (k + 1) .l_mix = runF (c_l_mix (F k)) 5 2 := rfl
theorem F_l_cells (k : Nat) : F (k + 1) .l_cells = runF (c_l_cells (F k)) 4 2 := rfl
theorem F_l_names (k : Nat) : F (k + 1) .l_names = runF (c_l_names (F k)) 8 1 := rfl
theorem F_l_leaf (k : Nat) : F (k + 1) .l_leaf = runF (c_l_leaf (F k)) 8 4 := rfl
theorem F_l_truths (k : Nat) : F (k + 1) .l_truths = runF (c_l_truths (F k)) 8 3 := rfl
theorem F_l_before (k : Nat) : F (k + 1) .l_before = runF (c_l_before (F k)) 5 2 := rfl
theorem F_l_many (k : Nat) : F (k + 1) .l_many = runF (c_l_many (F k)) 2 2 := rfl
theorem F_l_way (k : Nat) : F (k + 1) .l_way = runF (c_l_way (F k)) 13 4 := rfl
theorem F_l_pile (k : Nat) : F (k + 1) .l_pile = runF (c_l_pile (F k)) 10 5 := rfl
theorem F_l_turned (k : Nat) : F (k + 1) .l_turned = runF (c_l_turned (F k)) 7 2 := rfl
theorem F_l_dealt_look (k : Nat) : F (k + 1) .l_dealt_look = runF (c_l_dealt_look (F k)) 3 2 := rfl
theorem F_l_dealt (k : Nat) : F (k + 1) .l_dealt = runF (c_l_dealt (F k)) 9 2 := rfl
theorem F_l_truth (k : Nat) : F (k + 1) .l_truth = runF (c_l_truth (F k)) 8 3 := rfl
theorem F_l_due (k : Nat) : F (k + 1) .l_due = runF (c_l_due (F k)) 8 2 := rfl
theorem F_l_bits (k : Nat) : F (k + 1) .l_bits = runF (c_l_bits (F k)) 3 3 := rfl
theorem F_l_law (k : Nat) : F (k + 1) .l_law = runF (c_l_law (F k)) 13 1 := rfl
def ar : Fn → Nat
  | .has_bit => 2
  | .says => 6
  | .mask_of => 5
  | .l_mix => 2
  | .l_cells => 2
  | .l_names => 1
  | .l_leaf => 4
  | .l_truths => 3
  | .l_before => 2
  | .l_many => 2
  | .l_way => 4
  | .l_pile => 5
  | .l_turned => 2
  | .l_dealt_look => 2
  | .l_dealt => 2
  | .l_truth => 3
  | .l_due => 2
  | .l_bits => 3
  | .l_law => 1
def nps : Fn → List Str
  | .has_bit => p_has_bit
  | .says => p_says
  | .mask_of => p_mask_of
  | .l_mix => p_l_mix
  | .l_cells => p_l_cells
  | .l_names => p_l_names
  | .l_leaf => p_l_leaf
  | .l_truths => p_l_truths
  | .l_before => p_l_before
  | .l_many => p_l_many
  | .l_way => p_l_way
  | .l_pile => p_l_pile
  | .l_turned => p_l_turned
  | .l_dealt_look => p_l_dealt_look
  | .l_dealt => p_l_dealt
  | .l_truth => p_l_truth
  | .l_due => p_l_due
  | .l_bits => p_l_bits
  | .l_law => p_l_law
structure Tx (K : PySem.W.Frag) (mg : Str → Option Value) (fa : Fn → Addr) (fd : Fn → FuncData) : Prop where
  f_has_bit : Fun K "has_bit" "has_bit" s_has_bit (fa .has_bit) (fd .has_bit)
  g_has_bit : mg "has_bit" = some (.ref (fa .has_bit))
  b_has_bit : Binds K (fd .has_bit) p_has_bit []
  f_says : Fun K "says" "says" s_says (fa .says) (fd .says)
  g_says : mg "says" = some (.ref (fa .says))
  b_says : Binds K (fd .says) p_says []
  f_mask_of : Fun K "mask_of" "mask_of" s_mask_of (fa .mask_of) (fd .mask_of)
  g_mask_of : mg "mask_of" = some (.ref (fa .mask_of))
  b_mask_of : Binds K (fd .mask_of) p_mask_of []
  f_l_mix : Fun K "_law_mix" "_law_mix" s_l_mix (fa .l_mix) (fd .l_mix)
  g_l_mix : mg "_law_mix" = some (.ref (fa .l_mix))
  b_l_mix : Binds K (fd .l_mix) p_l_mix []
  f_l_cells : Fun K "_law_cells" "_law_cells" s_l_cells (fa .l_cells) (fd .l_cells)
  g_l_cells : mg "_law_cells" = some (.ref (fa .l_cells))
  b_l_cells : Binds K (fd .l_cells) p_l_cells []
  f_l_names : Fun K "_law_names" "_law_names" s_l_names (fa .l_names) (fd .l_names)
  g_l_names : mg "_law_names" = some (.ref (fa .l_names))
  b_l_names : Binds K (fd .l_names) p_l_names []
  f_l_leaf : Fun K "_law_leaf" "_law_leaf" s_l_leaf (fa .l_leaf) (fd .l_leaf)
  g_l_leaf : mg "_law_leaf" = some (.ref (fa .l_leaf))
  b_l_leaf : Binds K (fd .l_leaf) p_l_leaf []
  f_l_truths : Fun K "_law_truths" "_law_truths" s_l_truths (fa .l_truths) (fd .l_truths)
  g_l_truths : mg "_law_truths" = some (.ref (fa .l_truths))
  b_l_truths : Binds K (fd .l_truths) p_l_truths []
  f_l_before : Fun K "_law_before" "_law_before" s_l_before (fa .l_before) (fd .l_before)
  g_l_before : mg "_law_before" = some (.ref (fa .l_before))
  b_l_before : Binds K (fd .l_before) p_l_before []
  f_l_many : Fun K "_law_many" "_law_many" s_l_many (fa .l_many) (fd .l_many)
  g_l_many : mg "_law_many" = some (.ref (fa .l_many))
  b_l_many : Binds K (fd .l_many) p_l_many []
  f_l_way : Fun K "_law_way" "_law_way" s_l_way (fa .l_way) (fd .l_way)
  g_l_way : mg "_law_way" = some (.ref (fa .l_way))
  b_l_way : Binds K (fd .l_way) p_l_way []
  f_l_pile : Fun K "_law_pile" "_law_pile" s_l_pile (fa .l_pile) (fd .l_pile)
  g_l_pile : mg "_law_pile" = some (.ref (fa .l_pile))
  b_l_pile : Binds K (fd .l_pile) p_l_pile []
  f_l_turned : Fun K "_law_turned" "_law_turned" s_l_turned (fa .l_turned) (fd .l_turned)
  g_l_turned : mg "_law_turned" = some (.ref (fa .l_turned))
  b_l_turned : Binds K (fd .l_turned) p_l_turned []
  f_l_dealt_look : Fun K "_law_dealt_look" "_law_dealt_look" s_l_dealt_look (fa .l_dealt_look) (fd .l_dealt_look)
  g_l_dealt_look : mg "_law_dealt_look" = some (.ref (fa .l_dealt_look))
  b_l_dealt_look : Binds K (fd .l_dealt_look) p_l_dealt_look []
  f_l_dealt : Fun K "_law_dealt" "_law_dealt" s_l_dealt (fa .l_dealt) (fd .l_dealt)
  g_l_dealt : mg "_law_dealt" = some (.ref (fa .l_dealt))
  b_l_dealt : Binds K (fd .l_dealt) p_l_dealt []
  f_l_truth : Fun K "_law_truth" "_law_truth" s_l_truth (fa .l_truth) (fd .l_truth)
  g_l_truth : mg "_law_truth" = some (.ref (fa .l_truth))
  b_l_truth : Binds K (fd .l_truth) p_l_truth []
  f_l_due : Fun K "_law_due" "_law_due" s_l_due (fa .l_due) (fd .l_due)
  g_l_due : mg "_law_due" = some (.ref (fa .l_due))
  b_l_due : Binds K (fd .l_due) p_l_due []
  f_l_bits : Fun K "_law_bits" "_law_bits" s_l_bits (fa .l_bits) (fd .l_bits)
  g_l_bits : mg "_law_bits" = some (.ref (fa .l_bits))
  b_l_bits : Binds K (fd .l_bits) p_l_bits []
  f_l_law : Fun K "law" "law" s_l_law (fa .l_law) (fd .l_law)
  g_l_law : mg "law" = some (.ref (fa .l_law))
  b_l_law : Binds K (fd .l_law) p_l_law []
  z_bool : mg "bool" = none
  z_enumerate : mg "enumerate" = none
  z_int : mg "int" = none
  z_isinstance : mg "isinstance" = none
  z_len : mg "len" = none
  z_max : mg "max" = none
  z_min : mg "min" = none
  z_range : mg "range" = none
  z_reversed : mg "reversed" = none
  z_sum : mg "sum" = none
  z_tuple : mg "tuple" = none
section
variable {P : Program} {w : World} {K : PySem.W.Frag} {mg : Str → Option Value} {base : Heap} {fa : Fn → Addr} {fd : Fn → FuncData}
theorem ok_has_bit (T : Tx K mg fa fd) {k : Nat} (G : ∀ f, FnOk P w K mg base CX0 k (fa f) (fd f) (nps f) (spD K mg (F k f) (ar f))) : FnOk P w K mg base CX0 (k + 1) (fa .has_bit) (fd .has_bit) p_has_bit (spD K mg (F (k + 1) .has_bit) 2) := by
  refine fn_def (c := c_has_bit (F k)) (m := 2) T.f_has_bit sc_has_bit (F_has_bit k) rfl rfl fun cdv A outer s H E hr => ?_
  have hu1 := hu_of hr
  have hu64 := hr.units
  have hu65 := PL.hu65 hr
  exact scs_one (sc_ret (se_cmp (op_eqD hu64) o_eq (se_bin op_and o_and (se_bin op_shr o_shr (se_var 0) (se_var 1)) (se_int)) (se_int) (nomark _)))
theorem ok_says (T : Tx K mg fa fd) {k : Nat} (G : ∀ f, FnOk P w K mg base CX0 k (fa f) (fd f) (nps f) (spD K mg (F k f) (ar f))) : FnOk P w K mg base CX0 (k + 1) (fa .says) (fd .says) p_says (spD K mg (F (k + 1) .says) 6) := by
  refine fn_def (c := c_says (F k)) (m := 8) T.f_says sc_says (F_says k) rfl rfl fun cdv A outer s H E hr => ?_
  have hu1 := hu_of hr
  have hu64 := hr.units
  have hu65 := PL.hu65 hr
  exact scs_cons (sc_set (i := 6) sc_says.nd rfl (by first | exact Or.inl rfl | exact Or.inr rfl) (se_ix hu1 (se_var 1) (se_int))) (scs_cons (sc_if (st_cmp (op_eqD hu64) o_eq (se_var 6) (se_str) (nomark _)) (scs_one (sc_ret (se_cmp (op_eqD hu64) o_eq (se_ix hu1 (se_var 1) (se_int)) (se_var 2) (nomark _)))) (scs_nil)) (scs_cons (sc_if (st_cmp (op_eqD hu64) o_eq (se_var 6) (se_str) (nomark _)) (scs_one (sc_ret (se_var 3))) (scs_nil)) (scs_cons (sc_if (st_cmp (op_eqD hu64) o_eq (se_var 6) (se_str) (nomark _)) (scs_cons (sc_if (st_cmp (op_eqD hu64) o_eq (se_ix hu1 (se_ix hu1 (se_var 0) (se_ix hu1 (se_var 1) (se_int))) (se_int)) (se_str) (nomark _)) (scs_one (sc_ret (se_own (G .has_bit) hr (by rfl) T.g_has_bit T.f_has_bit.kp T.b_has_bit pas0 (sa_cons (se_var 5) (sa_cons (se_ix hu1 (se_var 1) (se_int)) (sa_nil)))))) (scs_nil)) (scs_one (sc_ret (se_own (G .has_bit) hr (by rfl) T.g_has_bit T.f_has_bit.kp T.b_has_bit pas0 (sa_cons (se_var 4) (sa_cons (se_ix hu1 (se_var 1) (se_int)) (sa_nil))))))) (scs_nil)) (scs_cons (sc_if (st_cmp (op_eqD hu64) o_eq (se_var 6) (se_str) (nomark _)) (scs_one (sc_ret (se_not (se_own (G .says) hr (by rfl) T.g_says T.f_says.kp T.b_says pas0 (sa_cons (se_var 0) (sa_cons (se_ix hu1 (se_var 1) (se_int)) (sa_cons (se_var 2) (sa_cons (se_var 3) (sa_cons (se_var 4) (sa_cons (se_var 5) (sa_nil))))))))))) (scs_nil)) (scs_cons (sc_if (st_cmp (op_eqD hu64) o_eq (se_var 6) (se_str) (nomark _)) (scs_one (sc_ret (se_bl))) (scs_nil)) (scs_cons (sc_set (i := 7) sc_says.nd rfl (by first | exact Or.inl rfl | exact Or.inr rfl) (se_own (G .says) hr (by rfl) T.g_says T.f_says.kp T.b_says pas0 (sa_cons (se_var 0) (sa_cons (se_ix hu1 (se_var 1) (se_int)) (sa_cons (se_var 2) (sa_cons (se_var 3) (sa_cons (se_var 4) (sa_cons (se_var 5) (sa_nil))))))))) (scs_cons (sc_if (st_cmp (op_eqD hu64) o_eq (se_var 6) (se_str) (nomark _)) (scs_one (sc_ret (se_and (se_var 7) (se_one (se_own (G .says) hr (by rfl) T.g_says T.f_says.kp T.b_says pas0 (sa_cons (se_var 0) (sa_cons (se_ix hu1 (se_var 1) (se_int)) (sa_cons (se_var 2) (sa_cons (se_var 3) (sa_cons (se_var 4) (sa_cons (se_var 5) (sa_nil)))))))))))) (scs_nil)) (scs_one (sc_ret (se_or (se_var 7) (se_one (se_own (G .says) hr (by rfl) T.g_says T.f_says.kp T.b_says pas0 (sa_cons (se_var 0) (sa_cons (se_ix hu1 (se_var 1) (se_int)) (sa_cons (se_var 2) (sa_cons (se_var 3) (sa_cons (se_var 4) (sa_cons (se_var 5) (sa_nil)))))))))))))))))))
theorem ok_mask_of (T : Tx K mg fa fd) {k : Nat} (G : ∀ f, FnOk P w K mg base CX0 k (fa f) (fd f) (nps f) (spD K mg (F k f) (ar f))) : FnOk P w K mg base CX0 (k + 1) (fa .mask_of) (fd .mask_of) p_mask_of (spD K mg (F (k + 1) .mask_of) 5) := by
  refine fn_def (c := c_mask_of (F k)) (m := 12) T.f_mask_of sc_mask_of (F_mask_of k) rfl rfl fun cdv A outer s H E hr => ?_
  have hu1 := hu_of hr
  have hu64 := hr.units
  have hu65 := PL.hu65 hr
  exact scs_cons (sc_set (i := 5) sc_mask_of.nd rfl (by first | exact Or.inl rfl | exact Or.inr rfl) (se_int)) (scs_cons (sc_for PassesOwn.never rfl (si_enumA (by rfl) T.z_enumerate (sa_cons (se_var 0) (sa_nil))) (sg_tup rfl (sgs_cons (sg_name sc_mask_of.nd rfl (by first | exact Or.inl rfl | exact Or.inr rfl)) (sgs_cons (sg_name sc_mask_of.nd rfl (by first | exact Or.inl rfl | exact Or.inr rfl)) (sgs_nil))) rfl) (scs_cons (sc_asg (se_var 7) (sg_tup rfl (sgs_cons (sg_name sc_mask_of.nd rfl (by first | exact Or.inl rfl | exact Or.inr rfl)) (sgs_cons (sg_name sc_mask_of.nd rfl (by first | exact Or.inl rfl | exact Or.inr rfl)) (sgs_cons (sg_name sc_mask_of.nd rfl (by first | exact Or.inl rfl | exact Or.inr rfl)) (sgs_nil)))) rfl)) (scs_cons (sc_set (i := 8) sc_mask_of.nd rfl (by first | exact Or.inl rfl | exact Or.inr rfl) (se_own (G .says) hr (by rfl) T.g_says T.f_says.kp T.b_says pas0 (sa_cons (se_var 0) (sa_cons (se_var 10) (sa_cons (se_var 1) (sa_cons (se_var 2) (sa_cons (se_var 3) (sa_cons (se_var 4) (sa_nil))))))))) (scs_cons (sc_if (st_w (sw_and (st_bl (se_var 8)) (sw_one_and (st_cmp op_notN o_isNot (se_var 11) (se_non) (nomark _))))) (scs_one (sc_set (i := 8) sc_mask_of.nd rfl (by first | exact Or.inl rfl | exact Or.inr rfl) (se_own (G .says) hr (by rfl) T.g_says T.f_says.kp T.b_says pas0 (sa_cons (se_var 0) (sa_cons (se_tup (sa_cons (se_str) (sa_cons (se_var 11) (sa_nil)))) (sa_cons (se_var 1) (sa_cons (se_var 2) (sa_cons (se_var 3) (sa_cons (se_var 4) (sa_nil)))))))))) (scs_nil)) (scs_one (sc_if (st_w (sw_or (st_bl (se_var 8)) (sw_one_or (st_w (sw_and (st_cmp (op_eqD hu64) o_eq (se_var 9) (se_str) (nomark _)) (sw_one_and (st_bl (se_own (G .has_bit) hr (by rfl) T.g_has_bit T.f_has_bit.kp T.b_has_bit pas0 (sa_cons (se_var 3) (sa_cons (se_var 6) (sa_nil))))))))))) (scs_one (sc_set (i := 5) sc_mask_of.nd rfl (by first | exact Or.inl rfl | exact Or.inr rfl) (se_bin op_or o_or (se_var 5) (se_bin op_shlW o_shl (se_int) (se_var 6))))) (scs_nil))))))) (scs_one (sc_ret (se_var 5))))
theorem ok_l_mix (T : Tx K mg fa fd) {k : Nat} (G : ∀ f, FnOk P w K mg base CX0 k (fa f) (fd f) (nps f) (spD K mg (F k f) (ar f))) : FnOk P w K mg base CX0 (k + 1) (fa .l_mix) (fd .l_mix) p_l_mix (spD K mg (F (k + 1) .l_mix) 2) := by
  refine fn_def (c := c_l_mix (F k)) (m := 5) T.f_l_mix sc_l_mix (F_l_mix k) rfl rfl fun cdv A outer s H E hr => ?_
  have hu1 := hu_of hr
  have hu64 := hr.units
  have hu65 := PL.hu65 hr
  exact scs_cons (sc_set (i := 2) sc_l_mix.nd rfl (by first | exact Or.inl rfl | exact Or.inr rfl) (se_int)) (scs_cons (sc_if (st_cmp op_ge o_ge (se_var 0) (se_bin op_pow o_pow (se_int) (se_int)) (nomark _)) (scs_cons (sc_set (i := 2) sc_l_mix.nd rfl (by first | exact Or.inl rfl | exact Or.inr rfl) (se_var 0)) (scs_one (sc_for PassesOwn.never rfl (si_range1 (by rfl) T.z_range (sa_cons (se_bin op_mod o_mod (se_var 1) (se_int)) (sa_nil))) (sg_name sc_l_mix.nd rfl (by first | exact Or.inl rfl | exact Or.inr rfl)) (scs_one (sc_set (i := 2) sc_l_mix.nd rfl (by first | exact Or.inl rfl | exact Or.inr rfl) (se_bin op_fdivW o_fdiv (se_var 2) (se_int))))))) (scs_nil)) (scs_cons (sc_if (st_cmp op_gt o_gt (se_var 2) (se_int) (nomark _)) (scs_one (sc_ret (se_bin op_mod o_mod (se_var 2) (se_int)))) (scs_nil)) (scs_cons (sc_set (i := 3) sc_l_mix.nd rfl (by first | exact Or.inl rfl | exact Or.inr rfl) (se_bin op_addAll o_add (se_bin op_addAll o_add (se_bin op_mod o_mod (se_var 0) (se_int)) (se_bin op_mulAll o_mul (se_int) (se_var 1))) (se_int))) (scs_cons (sc_set (i := 3) sc_l_mix.nd rfl (by first | exact Or.inl rfl | exact Or.inr rfl) (se_bin op_mod o_mod (se_bin op_mulAll o_mul (se_var 3) (se_var 3)) (se_int))) (scs_one (sc_ret (se_bin op_fdivW o_fdiv (se_bin op_mod o_mod (se_bin op_mulAll o_mul (se_var 3) (se_bin op_addAll o_add (se_bin op_addAll o_add (se_var 3) (se_bin op_mulAll o_mul (se_int) (se_var 1))) (se_int))) (se_int)) (se_int))))))))
theorem ok_l_cells (T : Tx K mg fa fd) {k : Nat} (G : ∀ f, FnOk P w K mg base CX0 k (fa f) (fd f) (nps f) (spD K mg (F k f) (ar f))) : FnOk P w K mg base CX0 (k + 1) (fa .l_cells) (fd .l_cells) p_l_cells (spD K mg (F (k + 1) .l_cells) 2) := by
  refine fn_def (c := c_l_cells (F k)) (m := 4) T.f_l_cells sc_l_cells (F_l_cells k) rfl rfl fun cdv A outer s H E hr => ?_
  have hu1 := hu_of hr
  have hu64 := hr.units
  have hu65 := PL.hu65 hr
  exact scs_cons (sc_setCompB (i := 2) [("_law_k", 3)] rfl sc_l_cells.nd rfl rfl (sw_true rfl rfl rfl (by decide +kernel)) (si_rangeS (by rfl) T.z_range (sa_cons (se_var 1) (sa_cons (se_callB (call_min2 rfl) o_min2 (by rfl) T.z_min bt_min (sa_cons (se_callB call_lenAll o_len (by rfl) T.z_len bt_len (sa_cons (se_var 0) (sa_nil))) (sa_cons (se_int) (sa_nil)))) (sa_cons (se_int) (sa_nil))))) (blkOk_by (own := [("_law_k", 3)]) (N := N_l_cells) (sc := defScope s_l_cells) (by decide +kernel)) (by intro _ _ _ _ _; exact sg_name sc_l_cells.nd rfl (by first | exact Or.inl rfl | exact Or.inr rfl)) (by intro _ _ _ _ _; exact sts_nil) (by intro _ _ _ _ _; exact se_ix hu1 (se_var 0) (se_var 3)) rfl (by decide)) (scs_one (sc_ret (se_bin op_addAll o_add (se_var 2) (se_compB [("_law_k", 3)] rfl sc_l_cells.nd (si_range1 (by rfl) T.z_range (sa_cons (se_bin op_sub o_sub (se_int) (se_callB call_lenAll o_len (by rfl) T.z_len bt_len (sa_cons (se_var 2) (sa_nil)))) (sa_nil))) (blkOk_by (own := [("_law_k", 3)]) (N := N_l_cells) (sc := defScope s_l_cells) (by decide +kernel)) (by intro _ _ _ _ _; exact sg_name sc_l_cells.nd rfl (by first | exact Or.inl rfl | exact Or.inr rfl)) (by intro _ _ _ _ _; exact sts_nil) (by intro _ _ _ _ _; exact se_own (G .l_mix) hr (by rfl) T.g_l_mix T.f_l_mix.kp T.b_l_mix pas0 (sa_cons (se_callB call_lenAll o_len (by rfl) T.z_len bt_len (sa_cons (se_var 0) (sa_nil))) (sa_cons (se_bin op_addAll o_add (se_bin op_addAll o_add (se_int) (se_var 1)) (se_var 3)) (sa_nil)))) rfl (by decide)))))
theorem ok_l_names (T : Tx K mg fa fd) {k : Nat} (G : ∀ f, FnOk P w K mg base CX0 k (fa f) (fd f) (nps f) (spD K mg (F k f) (ar f))) : FnOk P w K mg base CX0 (k + 1) (fa .l_names) (fd .l_names) p_l_names (spD K mg (F (k + 1) .l_names) 1) := by
  refine fn_def (c := c_l_names (F k)) (m := 8) T.f_l_names sc_l_names (F_l_names k) rfl rfl fun cdv A outer s H E hr => ?_
  have hu1 := hu_of hr
  have hu64 := hr.units
  have hu65 := PL.hu65 hr
  exact scs_cons (sc_set (i := 1) sc_l_names.nd rfl (by first | exact Or.inl rfl | exact Or.inr rfl) (se_lst (sa_nil))) (scs_cons (sc_if (st_cmp (op_eqD hu64) o_eq (se_bin op_mod o_mod (se_own (G .l_mix) hr (by rfl) T.g_l_mix T.f_l_mix.kp T.b_l_mix pas0 (sa_cons (se_var 0) (sa_cons (se_int) (sa_nil)))) (se_int)) (se_int) (nomark _)) (scs_cons (sc_set (i := 5) sc_l_names.nd rfl (by first | exact Or.inl rfl | exact Or.inr rfl) (se_str)) (scs_cons (sc_for PassesOwn.never rfl (si_range1 (by rfl) T.z_range (sa_cons (se_int) (sa_nil))) (sg_name sc_l_names.nd rfl (by first | exact Or.inl rfl | exact Or.inr rfl)) (scs_one (sc_set (i := 5) sc_l_names.nd rfl (by first | exact Or.inl rfl | exact Or.inr rfl) (se_bin op_addAll o_add (se_var 5) (se_ix hu1 (se_str) (se_bin op_mod o_mod (se_own (G .l_mix) hr (by rfl) T.g_l_mix T.f_l_mix.kp T.b_l_mix pas0 (sa_cons (se_var 0) (sa_cons (se_bin op_addAll o_add (se_int) (se_var 6)) (sa_nil)))) (se_int))))))) (scs_one (sc_ret (se_compB [("_law_k", 4)] rfl sc_l_names.nd (si_range1 (by rfl) T.z_range (sa_cons (se_int) (sa_nil))) (blkOk_by (own := [("_law_k", 4)]) (N := N_l_names) (sc := defScope s_l_names) (by decide +kernel)) (by intro _ _ _ _ _; exact sg_name sc_l_names.nd rfl (by first | exact Or.inl rfl | exact Or.inr rfl)) (by intro _ _ _ _ _; exact sts_nil) (by intro _ _ _ _ _; exact se_sli (se_var 5) (so_none) (so_some (se_bin op_addAll o_add (se_bin op_addAll o_add (se_int) (se_bin op_mod o_mod (se_own (G .l_mix) hr (by rfl) T.g_l_mix T.f_l_mix.kp T.b_l_mix pas0 (sa_cons (se_var 0) (sa_cons (se_int) (sa_nil)))) (se_int))) (se_var 4)))) rfl (by decide)))))) (scs_nil)) (scs_cons (sc_set (i := 2) sc_l_names.nd rfl (by first | exact Or.inl rfl | exact Or.inr rfl) (se_bin op_addAll o_add (se_int) (se_bin op_mod o_mod (se_own (G .l_mix) hr (by rfl) T.g_l_mix T.f_l_mix.kp T.b_l_mix pas0 (sa_cons (se_var 0) (sa_cons (se_int) (sa_nil)))) (se_int)))) (scs_cons (sc_set (i := 3) sc_l_names.nd rfl (by first | exact Or.inl rfl | exact Or.inr rfl) (se_bin op_mod o_mod (se_own (G .l_mix) hr (by rfl) T.g_l_mix T.f_l_mix.kp T.b_l_mix pas0 (sa_cons (se_var 0) (sa_cons (se_int) (sa_nil)))) (se_var 2))) (scs_cons (sc_for PassesOwn.never rfl (si_range1 (by rfl) T.z_range (sa_cons (se_int) (sa_nil))) (sg_name sc_l_names.nd rfl (by first | exact Or.inl rfl | exact Or.inr rfl)) (scs_cons (sc_set (i := 7) sc_l_names.nd rfl (by first | exact Or.inl rfl | exact Or.inr rfl) (se_str)) (scs_cons (sc_for PassesOwn.never rfl (si_range1 (by rfl) T.z_range (sa_cons (se_var 2) (sa_nil))) (sg_name sc_l_names.nd rfl (by first | exact Or.inl rfl | exact Or.inr rfl)) (scs_one (sc_set (i := 7) sc_l_names.nd rfl (by first | exact Or.inl rfl | exact Or.inr rfl) (se_bin op_addAll o_add (se_var 7) (se_ix hu1 (se_str) (se_bin op_mod o_mod (se_bin op_addAll o_add (se_own (G .l_mix) hr (by rfl) T.g_l_mix T.f_l_mix.kp T.b_l_mix pas0 (sa_cons (se_var 0) (sa_cons (se_bin op_addAll o_add (se_int) (se_var 6)) (sa_nil)))) (se_bin op_mulAll o_mul (se_var 4) (se_callTy call_intAll o_int (by rfl) T.z_int bt_int (sa_cons (se_cmp (op_eqD hu64) o_eq (se_var 6) (se_var 3) (nomark _)) (sa_nil))))) (se_int))))))) (scs_cons (sc_if (st_cmp (op_inAll hu65) o_in (se_var 7) (se_lst (sa_cons (se_str) (sa_cons (se_str) (sa_cons (se_str) (sa_cons (se_str) (sa_cons (se_str) (sa_cons (se_str) (sa_cons (se_str) (sa_cons (se_str) (sa_cons (se_str) (sa_cons (se_str) (sa_cons (se_str) (sa_cons (se_str) (sa_nil)))))))))))))) (by rfl)) (scs_one (sc_set (i := 7) sc_l_names.nd rfl (by first | exact Or.inl rfl | exact Or.inr rfl) (se_bin op_addAll o_add (se_var 7) (se_str)))) (scs_nil)) (scs_one (sc_expr (se_meth PySem.F.plainAttrs_list PySem.F.slot_list_append PySem.F.type_list_append mt_append o_append (se_var 1) (sa_cons (se_var 7) (sa_nil))))))))) (scs_one (sc_ret (se_var 1)))))))
theorem ok_l_leaf (T : Tx K mg fa fd) {k : Nat} (G : ∀ f, FnOk P w K mg base CX0 k (fa f) (fd f) (nps f) (spD K mg (F k f) (ar f))) : FnOk P w K mg base CX0 (k + 1) (fa .l_leaf) (fd .l_leaf) p_l_leaf (spD K mg (F (k + 1) .l_leaf) 4) := by
  refine fn_def (c := c_l_leaf (F k)) (m := 8) T.f_l_leaf sc_l_leaf (F_l_leaf k) rfl rfl fun cdv A outer s H E hr => ?_
  have hu1 := hu_of hr
  have hu64 := hr.units
  have hu65 := PL.hu65 hr
  exact scs_cons (sc_if (st_cmp (op_eqD hu64) o_eq (se_bin op_mod o_mod (se_own (G .l_mix) hr (by rfl) T.g_l_mix T.f_l_mix.kp T.b_l_mix pas0 (sa_cons (se_var 0) (sa_cons (se_int) (sa_nil)))) (se_int)) (se_int) (nomark _)) (scs_one (sc_ret (se_tup (sa_cons (se_tup (sa_cons (se_str) (sa_nil))) (sa_cons (se_var 3) (sa_cons (se_int) (sa_cons (se_int) (sa_nil)))))))) (scs_nil)) (scs_cons (sc_if (st_cmp (op_eqD hu64) o_eq (se_bin op_mod o_mod (se_own (G .l_mix) hr (by rfl) T.g_l_mix T.f_l_mix.kp T.b_l_mix pas0 (sa_cons (se_var 0) (sa_cons (se_int) (sa_nil)))) (se_int)) (se_int) (nomark _)) (scs_one (sc_ret (se_tup (sa_cons (se_tup (sa_cons (se_str) (sa_nil))) (sa_cons (se_bin op_sub o_sub (se_bin op_shlW o_shl (se_int) (se_callB call_lenAll o_len (by rfl) T.z_len bt_len (sa_cons (se_var 2) (sa_nil)))) (se_int)) (sa_cons (se_int) (sa_cons (se_int) (sa_nil)))))))) (scs_nil)) (scs_cons (sc_set (i := 4) sc_l_leaf.nd rfl (by first | exact Or.inl rfl | exact Or.inr rfl) (se_ix hu1 (se_var 1) (se_bin op_mod o_mod (se_own (G .l_mix) hr (by rfl) T.g_l_mix T.f_l_mix.kp T.b_l_mix pas0 (sa_cons (se_var 0) (sa_cons (se_int) (sa_nil)))) (se_int)))) (scs_cons (sc_set (i := 5) sc_l_leaf.nd rfl (by first | exact Or.inl rfl | exact Or.inr rfl) (se_int)) (scs_cons (sc_for PassesOwn.never rfl (si_enumA (by rfl) T.z_enumerate (sa_cons (se_var 2) (sa_nil))) (sg_tup rfl (sgs_cons (sg_name sc_l_leaf.nd rfl (by first | exact Or.inl rfl | exact Or.inr rfl)) (sgs_cons (sg_name sc_l_leaf.nd rfl (by first | exact Or.inl rfl | exact Or.inr rfl)) (sgs_nil))) rfl) (scs_one (sc_set (i := 5) sc_l_leaf.nd rfl (by first | exact Or.inl rfl | exact Or.inr rfl) (se_bin op_or o_or (se_var 5) (se_bin op_shlW o_shl (se_callTy call_intAll o_int (by rfl) T.z_int bt_int (sa_cons (se_cmp (op_eqD hu64) o_eq (se_ix hu1 (se_var 7) (se_int)) (se_var 4) (nomark _)) (sa_nil))) (se_var 6)))))) (scs_one (sc_ret (se_tup (sa_cons (se_tup (sa_cons (se_str) (sa_cons (se_var 4) (sa_nil)))) (sa_cons (se_var 5) (sa_cons (se_int) (sa_cons (se_int) (sa_nil))))))))))))
theorem ok_l_truths (T : Tx K mg fa fd) {k : Nat} (G : ∀ f, FnOk P w K mg base CX0 k (fa f) (fd f) (nps f) (spD K mg (F k f) (ar f))) : FnOk P w K mg base CX0 (k + 1) (fa .l_truths) (fd .l_truths) p_l_truths (spD K mg (F (k + 1) .l_truths) 3) := by
  refine fn_def (c := c_l_truths (F k)) (m := 8) T.f_l_truths sc_l_truths (F_l_truths k) rfl rfl fun cdv A outer s H E hr => ?_
  have hu1 := hu_of hr
  have hu64 := hr.units
  have hu65 := PL.hu65 hr
  exact scs_cons (sc_set (i := 3) sc_l_truths.nd rfl (by first | exact Or.inl rfl | exact Or.inr rfl) (se_bin op_mod o_mod (se_own (G .l_mix) hr (by rfl) T.g_l_mix T.f_l_mix.kp T.b_l_mix pas0 (sa_cons (se_var 1) (sa_cons (se_int) (sa_nil)))) (se_int))) (scs_cons (sc_set (i := 4) sc_l_truths.nd rfl (by first | exact Or.inl rfl | exact Or.inr rfl) (se_ix hu1 (se_var 0) (se_neg (se_int)))) (scs_cons (sc_if (st_w (sw_and (st_cmp (op_eqD hu64) o_eq (se_var 3) (se_int) (nomark _)) (sw_and (st_cmp op_ltAll o_lt (se_ix hu1 (se_var 4) (se_int)) (se_int) (nomark _)) (sw_one_and (st_cmp op_ltAll o_lt (se_ix hu1 (se_var 4) (se_int)) (se_int) (nomark _)))))) (scs_one (sc_ret (se_lst (sa_cons (se_tup (sa_cons (se_tup (sa_cons (se_str) (sa_cons (se_ix hu1 (se_var 4) (se_int)) (sa_nil)))) (sa_cons (se_bin op_xor o_xor (se_var 2) (se_ix hu1 (se_var 4) (se_int))) (sa_cons (se_bin op_addAll o_add (se_ix hu1 (se_var 4) (se_int)) (se_int)) (sa_cons (se_bin op_addAll o_add (se_ix hu1 (se_var 4) (se_int)) (se_int)) (sa_nil)))))) (sa_nil))))) (scs_nil)) (scs_cons (sc_if (st_w (sw_and (st_cmp op_ltAll o_lt (se_var 3) (se_int) (nomark _)) (sw_one_and (st_cmp op_gt o_gt (se_callB call_lenAll o_len (by rfl) T.z_len bt_len (sa_cons (se_var 0) (sa_nil))) (se_int) (nomark _))))) (scs_cons (sc_set (i := 5) sc_l_truths.nd rfl (by first | exact Or.inl rfl | exact Or.inr rfl) (se_ix hu1 (se_var 0) (se_neg (se_int)))) (scs_cons (sc_set (i := 6) sc_l_truths.nd rfl (by first | exact Or.inl rfl | exact Or.inr rfl) (se_bin op_addAll o_add (se_bin op_addAll o_add (se_ix hu1 (se_var 4) (se_int)) (se_ix hu1 (se_var 5) (se_int))) (se_int))) (scs_cons (sc_set (i := 7) sc_l_truths.nd rfl (by first | exact Or.inl rfl | exact Or.inr rfl) (se_bin op_addAll o_add (se_callB (call_max2 rfl) o_max2 (by rfl) T.z_max bt_max (sa_cons (se_ix hu1 (se_var 4) (se_int)) (sa_cons (se_ix hu1 (se_var 5) (se_int)) (sa_nil)))) (se_int))) (scs_cons (sc_if (st_w (sw_and (st_cmp op_ltAll o_lt (se_var 6) (se_int) (nomark _)) (sw_and (st_cmp op_ltAll o_lt (se_var 7) (se_int) (nomark _)) (sw_one_and (st_cmp (op_eqD hu64) o_eq (se_var 3) (se_int) (nomark _)))))) (scs_one (sc_ret (se_lst (sa_cons (se_tup (sa_cons (se_tup (sa_cons (se_str) (sa_cons (se_ix hu1 (se_var 5) (se_int)) (sa_cons (se_ix hu1 (se_var 4) (se_int)) (sa_nil))))) (sa_cons (se_bin op_and o_and (se_ix hu1 (se_var 5) (se_int)) (se_ix hu1 (se_var 4) (se_int))) (sa_cons (se_var 6) (sa_cons (se_var 7) (sa_nil)))))) (sa_nil))))) (scs_nil)) (scs_one (sc_if (st_w (sw_and (st_cmp op_ltAll o_lt (se_var 6) (se_int) (nomark _)) (sw_one_and (st_cmp op_ltAll o_lt (se_var 7) (se_int) (nomark _))))) (scs_one (sc_ret (se_lst (sa_cons (se_tup (sa_cons (se_tup (sa_cons (se_str) (sa_cons (se_ix hu1 (se_var 5) (se_int)) (sa_cons (se_ix hu1 (se_var 4) (se_int)) (sa_nil))))) (sa_cons (se_bin op_or o_or (se_ix hu1 (se_var 5) (se_int)) (se_ix hu1 (se_var 4) (se_int))) (sa_cons (se_var 6) (sa_cons (se_var 7) (sa_nil)))))) (sa_nil))))) (scs_nil))))))) (scs_nil)) (scs_one (sc_ret (se_lst (sa_nil)))))))
theorem ok_l_before (T : Tx K mg fa fd) {k : Nat} (G : ∀ f, FnOk P w K mg base CX0 k (fa f) (fd f) (nps f) (spD K mg (F k f) (ar f))) : FnOk P w K mg base CX0 (k + 1) (fa .l_before) (fd .l_before) p_l_before (spD K mg (F (k + 1) .l_before) 2) := by
  refine fn_def (c := c_l_before (F k)) (m := 5) T.f_l_before sc_l_before (F_l_before k) rfl rfl fun cdv A outer s H E hr => ?_
  have hu1 := hu_of hr
  have hu64 := hr.units
  have hu65 := PL.hu65 hr
  exact scs_cons (sc_set (i := 2) sc_l_before.nd rfl (by first | exact Or.inl rfl | exact Or.inr rfl) (se_int)) (scs_cons (sc_for PassesOwn.never rfl (si_enumA (by rfl) T.z_enumerate (sa_cons (se_var 0) (sa_nil))) (sg_tup rfl (sgs_cons (sg_name sc_l_before.nd rfl (by first | exact Or.inl rfl | exact Or.inr rfl)) (sgs_cons (sg_name sc_l_before.nd rfl (by first | exact Or.inl rfl | exact Or.inr rfl)) (sgs_nil))) rfl) (scs_one (sc_if (st_cmp (op_neD hu64) o_ne (se_bin op_and o_and (se_var 4) (se_var 1)) (se_int) (nomark _)) (scs_one (sc_set (i := 2) sc_l_before.nd rfl (by first | exact Or.inl rfl | exact Or.inr rfl) (se_bin op_or o_or (se_var 2) (se_bin op_shlW o_shl (se_int) (se_var 3))))) (scs_nil)))) (scs_one (sc_ret (se_var 2))))
theorem ok_l_many (T : Tx K mg fa fd) {k : Nat} (G : ∀ f, FnOk P w K mg base CX0 k (fa f) (fd f) (nps f) (spD K mg (F k f) (ar f))) : FnOk P w K mg base CX0 (k + 1) (fa .l_many) (fd .l_many) p_l_many (spD K mg (F (k + 1) .l_many) 2) := by
  refine fn_def (c := c_l_many (F k)) (m := 2) T.f_l_many sc_l_many (F_l_many k) rfl rfl fun cdv A outer s H E hr => ?_
  have hu1 := hu_of hr
  have hu64 := hr.units
  have hu65 := PL.hu65 hr
  exact scs_one (sc_ret (se_callB (call_min2 rfl) o_min2 (by rfl) T.z_min bt_min (sa_cons (se_callB call_lenAll o_len (by rfl) T.z_len bt_len (sa_cons (se_var 0) (sa_nil))) (sa_cons (se_ix hu1 (se_lst (sa_cons (se_int) (sa_cons (se_int) (sa_cons (se_int) (sa_cons (se_int) (sa_cons (se_int) (sa_cons (se_int) (sa_cons (se_int) (sa_cons (se_int) (sa_nil)))))))))) (se_bin op_mod o_mod (se_own (G .l_mix) hr (by rfl) T.g_l_mix T.f_l_mix.kp T.b_l_mix pas0 (sa_cons (se_var 1) (sa_cons (se_int) (sa_nil)))) (se_int))) (sa_nil)))))
theorem ok_l_way (T : Tx K mg fa fd) {k : Nat} (G : ∀ f, FnOk P w K mg base CX0 k (fa f) (fd f) (nps f) (spD K mg (F k f) (ar f))) : FnOk P w K mg base CX0 (k + 1) (fa .l_way) (fd .l_way) p_l_way (spD K mg (F (k + 1) .l_way) 4) := by
  refine fn_def (c := c_l_way (F k)) (m := 13) T.f_l_way sc_l_way (F_l_way k) rfl rfl fun cdv A outer s H E hr => ?_
  have hu1 := hu_of hr
  have hu64 := hr.units
  have hu65 := PL.hu65 hr
  exact scs_cons (sc_set (i := 4) sc_l_way.nd rfl (by first | exact Or.inl rfl | exact Or.inr rfl) (se_own (G .l_many) hr (by rfl) T.g_l_many T.f_l_many.kp T.b_l_many pas0 (sa_cons (se_var 0) (sa_cons (se_var 1) (sa_nil))))) (scs_cons (sc_set (i := 5) sc_l_way.nd rfl (by first | exact Or.inl rfl | exact Or.inr rfl) (se_sli (se_var 0) (so_some (se_bin op_sub o_sub (se_callB call_lenAll o_len (by rfl) T.z_len bt_len (sa_cons (se_var 0) (sa_nil))) (se_var 4))) (so_none))) (scs_cons (sc_set (i := 6) sc_l_way.nd rfl (by first | exact Or.inl rfl | exact Or.inr rfl) (se_bin op_addAll o_add (se_int) (se_callB (cr_sum rfl) o_sum (by rfl) T.z_sum bt_sum (sa_cons (se_compB [("_law_item", 11)] rfl sc_l_way.nd (si_seq (se_var 5)) (blkOk_by (own := [("_law_item", 11)]) (N := N_l_way) (sc := defScope s_l_way) (by decide +kernel)) (by intro _ _ _ _ _; exact sg_name sc_l_way.nd rfl (by first | exact Or.inl rfl | exact Or.inr rfl)) (by intro _ _ _ _ _; exact sts_nil) (by intro _ _ _ _ _; exact se_ix hu1 (se_var 11) (se_int)) rfl (by decide)) (sa_nil))))) (scs_cons (sc_set (i := 7) sc_l_way.nd rfl (by first | exact Or.inl rfl | exact Or.inr rfl) (se_bin op_addAll o_add (se_int) (se_callB (cr_max rfl) o_max (by rfl) T.z_max bt_max (sa_cons (se_compB [("_law_item", 11)] rfl sc_l_way.nd (si_seq (se_var 5)) (blkOk_by (own := [("_law_item", 11)]) (N := N_l_way) (sc := defScope s_l_way) (by decide +kernel)) (by intro _ _ _ _ _; exact sg_name sc_l_way.nd rfl (by first | exact Or.inl rfl | exact Or.inr rfl)) (by intro _ _ _ _ _; exact sts_nil) (by intro _ _ _ _ _; exact se_ix hu1 (se_var 11) (se_int)) rfl (by decide)) (sa_nil))))) (scs_cons (sc_if (st_w (sw_or (st_cmp op_gt o_gt (se_var 6) (se_int) (nomark _)) (sw_one_or (st_cmp op_gt o_gt (se_var 7) (se_int) (nomark _))))) (scs_one (sc_ret (se_lst (sa_nil)))) (scs_nil)) (scs_cons (sc_set (i := 8) sc_l_way.nd rfl (by first | exact Or.inl rfl | exact Or.inr rfl) (se_lst (sa_nil))) (scs_cons (sc_set (i := 9) sc_l_way.nd rfl (by first | exact Or.inl rfl | exact Or.inr rfl) (se_var 2)) (scs_cons (sc_for PassesOwn.never rfl (si_enumR (by rfl) T.z_enumerate (by rfl) T.z_reversed (se_var 5)) (sg_tup rfl (sgs_cons (sg_name sc_l_way.nd rfl (by first | exact Or.inl rfl | exact Or.inr rfl)) (sgs_cons (sg_name sc_l_way.nd rfl (by first | exact Or.inl rfl | exact Or.inr rfl)) (sgs_nil))) rfl) (scs_cons (sc_set (i := 12) sc_l_way.nd rfl (by first | exact Or.inl rfl | exact Or.inr rfl) (se_ix hu1 (se_lst (sa_cons (se_str) (sa_cons (se_str) (sa_cons (se_str) (sa_cons (se_str) (sa_nil)))))) (se_bin op_mod o_mod (se_own (G .l_mix) hr (by rfl) T.g_l_mix T.f_l_mix.kp T.b_l_mix pas0 (sa_cons (se_var 1) (sa_cons (se_bin op_addAll o_add (se_int) (se_var 10)) (sa_nil)))) (se_int)))) (scs_cons (sc_expr (se_meth PySem.F.plainAttrs_list PySem.F.slot_list_append PySem.F.type_list_append mt_append o_append (se_var 8) (sa_cons (se_tup (sa_cons (se_var 12) (sa_cons (se_ix hu1 (se_var 11) (se_int)) (sa_nil)))) (sa_nil)))) (scs_one (sc_set (i := 9) sc_l_way.nd rfl (by first | exact Or.inl rfl | exact Or.inr rfl) (se_own (G .l_before) hr (by rfl) T.g_l_before T.f_l_before.kp T.b_l_before pas0 (sa_cons (se_ix hu1 (se_var 3) (se_var 12)) (sa_cons (se_bin op_and o_and (se_var 9) (se_ix hu1 (se_var 11) (se_int))) (sa_nil))))))))) (scs_one (sc_ret (se_lst (sa_cons (se_tup (sa_cons (se_tup (sa_cons (se_str) (sa_cons (se_tupRev rfl (by rfl) T.z_tuple (by rfl) T.z_reversed (se_var 8)) (sa_nil)))) (sa_cons (se_var 9) (sa_cons (se_var 6) (sa_cons (se_var 7) (sa_nil)))))) (sa_nil))))))))))))
theorem ok_l_pile (T : Tx K mg fa fd) {k : Nat} (G : ∀ f, FnOk P w K mg base CX0 k (fa f) (fd f) (nps f) (spD K mg (F k f) (ar f))) : FnOk P w K mg base CX0 (k + 1) (fa .l_pile) (fd .l_pile) p_l_pile (spD K mg (F (k + 1) .l_pile) 5) := by
  refine fn_def (c := c_l_pile (F k)) (m := 10) T.f_l_pile sc_l_pile (F_l_pile k) rfl rfl fun cdv A outer s H E hr => ?_
  have hu1 := hu_of hr
  have hu64 := hr.units
  have hu65 := PL.hu65 hr
  exact scs_cons (sc_set (i := 5) sc_l_pile.nd rfl (by first | exact Or.inl rfl | exact Or.inr rfl) (se_bin op_sub o_sub (se_bin op_shlW o_shl (se_int) (se_callB call_lenAll o_len (by rfl) T.z_len bt_len (sa_cons (se_var 2) (sa_nil)))) (se_int))) (scs_cons (sc_set (i := 6) sc_l_pile.nd rfl (by first | exact Or.inl rfl | exact Or.inr rfl) (se_lst (sa_nil))) (scs_cons (sc_for PassesOwn.never rfl (si_seq (se_var 0)) (sg_name sc_l_pile.nd rfl (by first | exact Or.inl rfl | exact Or.inr rfl)) (scs_cons (sc_set (i := 8) sc_l_pile.nd rfl (by first | exact Or.inl rfl | exact Or.inr rfl) (se_lst (sa_nil))) (scs_cons (sc_set (i := 9) sc_l_pile.nd rfl (by first | exact Or.inl rfl | exact Or.inr rfl) (se_int)) (scs_cons (sc_if (st_w (sw_and (st_cmp op_gt o_gt (se_callB call_lenAll o_len (by rfl) T.z_len bt_len (sa_cons (se_var 6) (sa_nil))) (se_int) (nomark _)) (sw_one_and (st_cmp (op_eqD hu64) o_eq (se_bin op_mod o_mod (se_own (G .l_mix) hr (by rfl) T.g_l_mix T.f_l_mix.kp T.b_l_mix pas0 (sa_cons (se_var 7) (sa_cons (se_int) (sa_nil)))) (se_int)) (se_int) (nomark _))))) (scs_cons (sc_set (i := 8) sc_l_pile.nd rfl (by first | exact Or.inl rfl | exact Or.inr rfl) (se_own (G .l_way) hr (by rfl) T.g_l_way T.f_l_way.kp T.b_l_way pas0 (sa_cons (se_var 6) (sa_cons (se_var 7) (sa_cons (se_var 5) (sa_cons (se_var 3) (sa_nil))))))) (scs_one (sc_set (i := 9) sc_l_pile.nd rfl (by first | exact Or.inl rfl | exact Or.inr rfl) (se_own (G .l_many) hr (by rfl) T.g_l_many T.f_l_many.kp T.b_l_many pas0 (sa_cons (se_var 6) (sa_cons (se_var 7) (sa_nil))))))) (scs_one (sc_if (st_cmp op_gt o_gt (se_callB call_lenAll o_len (by rfl) T.z_len bt_len (sa_cons (se_var 6) (sa_nil))) (se_int) (nomark _)) (scs_cons (sc_set (i := 8) sc_l_pile.nd rfl (by first | exact Or.inl rfl | exact Or.inr rfl) (se_own (G .l_truths) hr (by rfl) T.g_l_truths T.f_l_truths.kp T.b_l_truths pas0 (sa_cons (se_var 6) (sa_cons (se_var 7) (sa_cons (se_var 5) (sa_nil)))))) (scs_one (sc_set (i := 9) sc_l_pile.nd rfl (by first | exact Or.inl rfl | exact Or.inr rfl) (se_bin op_sub o_sub (se_int) (se_callTy call_intAll o_int (by rfl) T.z_int bt_int (sa_cons (se_and (se_cmp op_gt o_gt (se_callB call_lenAll o_len (by rfl) T.z_len bt_len (sa_cons (se_var 8) (sa_nil))) (se_int) (nomark _)) (se_one (se_cmp (op_eqD hu64) o_eq (se_ix hu1 (se_ix hu1 (se_ix hu1 (se_var 8) (se_int)) (se_int)) (se_int)) (se_str) (nomark _)))) (sa_nil))))))) (scs_nil)))) (scs_one (sc_if (st_cmp op_gt o_gt (se_callB call_lenAll o_len (by rfl) T.z_len bt_len (sa_cons (se_var 8) (sa_nil))) (se_int) (nomark _)) (scs_one (sc_set (i := 6) sc_l_pile.nd rfl (by first | exact Or.inl rfl | exact Or.inr rfl) (se_bin op_addAll o_add (se_sli (se_var 6) (so_none) (so_some (se_bin op_sub o_sub (se_callB call_lenAll o_len (by rfl) T.z_len bt_len (sa_cons (se_var 6) (sa_nil))) (se_var 9)))) (se_var 8)))) (scs_one (sc_expr (se_meth PySem.F.plainAttrs_list PySem.F.slot_list_append PySem.F.type_list_append mt_append o_append (se_var 6) (sa_cons (se_own (G .l_leaf) hr (by rfl) T.g_l_leaf T.f_l_leaf.kp T.b_l_leaf pas0 (sa_cons (se_var 7) (sa_cons (se_var 1) (sa_cons (se_var 2) (sa_cons (se_var 4) (sa_nil)))))) (sa_nil))))))))))) (scs_one (sc_ret (se_var 6)))))
theorem ok_l_turned (T : Tx K mg fa fd) {k : Nat} (G : ∀ f, FnOk P w K mg base CX0 k (fa f) (fd f) (nps f) (spD K mg (F k f) (ar f))) : FnOk P w K mg base CX0 (k + 1) (fa .l_turned) (fd .l_turned) p_l_turned (spD K mg (F (k + 1) .l_turned) 2) := by
  refine fn_def (c := c_l_turned (F k)) (m := 7) T.f_l_turned sc_l_turned (F_l_turned k) rfl rfl fun cdv A outer s H E hr => ?_
  have hu1 := hu_of hr
  have hu64 := hr.units
  have hu65 := PL.hu65 hr
  exact scs_cons (sc_if (st_cmp (op_eqD hu64) o_eq (se_ix hu1 (se_var 0) (se_int)) (se_str) (nomark _)) (scs_cons (sc_set (i := 2) sc_l_turned.nd rfl (by first | exact Or.inl rfl | exact Or.inr rfl) (se_non)) (scs_cons (sc_for PassesOwn.never rfl (si_rev (by rfl) T.z_reversed (se_ix hu1 (se_var 0) (se_int))) (sg_tup rfl (sgs_cons (sg_name sc_l_turned.nd rfl (by first | exact Or.inl rfl | exact Or.inr rfl)) (sgs_cons (sg_name sc_l_turned.nd rfl (by first | exact Or.inl rfl | exact Or.inr rfl)) (sgs_nil))) rfl) (scs_cons (sc_set (i := 6) sc_l_turned.nd rfl (by first | exact Or.inl rfl | exact Or.inr rfl) (se_own (G .l_turned) hr (by rfl) T.g_l_turned T.f_l_turned.kp T.b_l_turned pas0 (sa_cons (se_var 5) (sa_cons (se_var 1) (sa_nil))))) (scs_cons (sc_expr (se_meth PySem.F.plainAttrs_list PySem.F.slot_list_append PySem.F.type_list_append mt_append o_append (se_var 1) (sa_cons (se_tup (sa_cons (se_var 4) (sa_cons (se_var 6) (sa_cons (se_var 2) (sa_nil))))) (sa_nil)))) (scs_one (sc_set (i := 2) sc_l_turned.nd rfl (by first | exact Or.inl rfl | exact Or.inr rfl) (se_bin op_sub o_sub (se_callB call_lenAll o_len (by rfl) T.z_len bt_len (sa_cons (se_var 1) (sa_nil))) (se_int))))))) (scs_one (sc_ret (se_tup (sa_cons (se_str) (sa_cons (se_var 2) (sa_nil)))))))) (scs_nil)) (scs_cons (sc_if (st_cmp (op_eqD hu64) o_eq (se_ix hu1 (se_var 0) (se_int)) (se_str) (nomark _)) (scs_one (sc_ret (se_tup (sa_cons (se_str) (sa_cons (se_own (G .l_turned) hr (by rfl) T.g_l_turned T.f_l_turned.kp T.b_l_turned pas0 (sa_cons (se_ix hu1 (se_var 0) (se_int)) (sa_cons (se_var 1) (sa_nil)))) (sa_nil)))))) (scs_nil)) (scs_cons (sc_if (st_cmp (op_inAll hu65) o_in (se_ix hu1 (se_var 0) (se_int)) (se_lst (sa_cons (se_str) (sa_cons (se_str) (sa_nil)))) (by rfl)) (scs_cons (sc_set (i := 3) sc_l_turned.nd rfl (by first | exact Or.inl rfl | exact Or.inr rfl) (se_own (G .l_turned) hr (by rfl) T.g_l_turned T.f_l_turned.kp T.b_l_turned pas0 (sa_cons (se_ix hu1 (se_var 0) (se_int)) (sa_cons (se_var 1) (sa_nil))))) (scs_one (sc_ret (se_tup (sa_cons (se_ix hu1 (se_var 0) (se_int)) (sa_cons (se_var 3) (sa_cons (se_own (G .l_turned) hr (by rfl) T.g_l_turned T.f_l_turned.kp T.b_l_turned pas0 (sa_cons (se_ix hu1 (se_var 0) (se_int)) (sa_cons (se_var 1) (sa_nil)))) (sa_nil)))))))) (scs_nil)) (scs_one (sc_ret (se_var 0)))))
theorem ok_l_dealt_look (T : Tx K mg fa fd) {k : Nat} (G : ∀ f, FnOk P w K mg base CX0 k (fa f) (fd f) (nps f) (spD K mg (F k f) (ar f))) : FnOk P w K mg base CX0 (k + 1) (fa .l_dealt_look) (fd .l_dealt_look) p_l_dealt_look (spD K mg (F (k + 1) .l_dealt_look) 2) := by
  refine fn_def (c := c_l_dealt_look (F k)) (m := 3) T.f_l_dealt_look sc_l_dealt_look (F_l_dealt_look k) rfl rfl fun cdv A outer s H E hr => ?_
  have hu1 := hu_of hr
  have hu64 := hr.units
  have hu65 := PL.hu65 hr
  exact scs_cons (sc_if (st_cmp (op_eqD hu64) o_eq (se_ix hu1 (se_var 0) (se_int)) (se_str) (nomark _)) (scs_one (sc_ret (se_tup (sa_cons (se_str) (sa_cons (se_ix hu1 (se_var 1) (se_ix hu1 (se_var 0) (se_int))) (sa_nil)))))) (scs_nil)) (scs_cons (sc_if (st_cmp (op_eqD hu64) o_eq (se_ix hu1 (se_var 0) (se_int)) (se_str) (nomark _)) (scs_one (sc_ret (se_tup (sa_cons (se_str) (sa_cons (se_own (G .l_dealt_look) hr (by rfl) T.g_l_dealt_look T.f_l_dealt_look.kp T.b_l_dealt_look pas0 (sa_cons (se_ix hu1 (se_var 0) (se_int)) (sa_cons (se_var 1) (sa_nil)))) (sa_nil)))))) (scs_nil)) (scs_cons (sc_if (st_cmp (op_inAll hu65) o_in (se_ix hu1 (se_var 0) (se_int)) (se_lst (sa_cons (se_str) (sa_cons (se_str) (sa_nil)))) (by rfl)) (scs_cons (sc_set (i := 2) sc_l_dealt_look.nd rfl (by first | exact Or.inl rfl | exact Or.inr rfl) (se_own (G .l_dealt_look) hr (by rfl) T.g_l_dealt_look T.f_l_dealt_look.kp T.b_l_dealt_look pas0 (sa_cons (se_ix hu1 (se_var 0) (se_int)) (sa_cons (se_var 1) (sa_nil))))) (scs_one (sc_ret (se_tup (sa_cons (se_ix hu1 (se_var 0) (se_int)) (sa_cons (se_var 2) (sa_cons (se_own (G .l_dealt_look) hr (by rfl) T.g_l_dealt_look T.f_l_dealt_look.kp T.b_l_dealt_look pas0 (sa_cons (se_ix hu1 (se_var 0) (se_int)) (sa_cons (se_var 1) (sa_nil)))) (sa_nil)))))))) (scs_nil)) (scs_one (sc_ret (se_var 0)))))
theorem ok_l_dealt (T : Tx K mg fa fd) {k : Nat} (G : ∀ f, FnOk P w K mg base CX0 k (fa f) (fd f) (nps f) (spD K mg (F k f) (ar f))) : FnOk P w K mg base CX0 (k + 1) (fa .l_dealt) (fd .l_dealt) p_l_dealt (spD K mg (F (k + 1) .l_dealt) 2) := by
  refine fn_def (c := c_l_dealt (F k)) (m := 9) T.f_l_dealt sc_l_dealt (F_l_dealt k) rfl rfl fun cdv A outer s H E hr => ?_
  have hu1 := hu_of hr
  have hu64 := hr.units
  have hu65 := PL.hu65 hr
  exact scs_cons (sc_set (i := 2) sc_l_dealt.nd rfl (by first | exact Or.inl rfl | exact Or.inr rfl) (se_callB call_lenAll o_len (by rfl) T.z_len bt_len (sa_cons (se_var 0) (sa_nil)))) (scs_cons (sc_set (i := 3) sc_l_dealt.nd rfl (by first | exact Or.inl rfl | exact Or.inr rfl) (se_ix hu1 (se_lst (sa_cons (se_int) (sa_cons (se_callB (call_max2 rfl) o_max2 (by rfl) T.z_max bt_max (sa_cons (se_bin op_sub o_sub (se_var 2) (se_int)) (sa_cons (se_int) (sa_nil)))) (sa_nil)))) (se_bin op_mod o_mod (se_var 1) (se_int)))) (scs_cons (sc_setCompB (i := 4) [("_law_j", 6)] rfl sc_l_dealt.nd rfl rfl (sw_true rfl rfl rfl (by decide +kernel)) (si_range1 (by rfl) T.z_range (sa_cons (se_var 2) (sa_nil))) (blkOk_by (own := [("_law_j", 6)]) (N := N_l_dealt) (sc := defScope s_l_dealt) (by decide +kernel)) (by intro _ _ _ _ _; exact sg_name sc_l_dealt.nd rfl (by first | exact Or.inl rfl | exact Or.inr rfl)) (by intro _ _ _ _ _; exact sts_nil) (by intro _ _ _ _ _; exact se_bin op_mod o_mod (se_bin op_addAll o_add (se_bin op_fdivW o_fdiv (se_var 1) (se_int)) (se_bin op_mulAll o_mul (se_var 3) (se_var 6))) (se_var 2)) rfl (by decide)) (scs_cons (sc_set (i := 5) sc_l_dealt.nd rfl (by first | exact Or.inl rfl | exact Or.inr rfl) (se_bin op_mulAll o_mul (se_lst (sa_cons (se_non) (sa_nil))) (se_var 2))) (scs_cons (sc_for PassesOwn.never rfl (si_enumA (by rfl) T.z_enumerate (sa_cons (se_var 0) (sa_nil))) (sg_tup rfl (sgs_cons (sg_name sc_l_dealt.nd rfl (by first | exact Or.inl rfl | exact Or.inr rfl)) (sgs_cons (sg_name sc_l_dealt.nd rfl (by first | exact Or.inl rfl | exact Or.inr rfl)) (sgs_nil))) rfl) (scs_cons (sc_set (i := 8) sc_l_dealt.nd rfl (by first | exact Or.inl rfl | exact Or.inr rfl) (se_ix hu1 (se_var 7) (se_int))) (scs_cons (sc_if (st_cmp op_notN o_isNot (se_var 8) (se_non) (nomark _)) (scs_one (sc_set (i := 8) sc_l_dealt.nd rfl (by first | exact Or.inl rfl | exact Or.inr rfl) (se_ix hu1 (se_var 4) (se_var 8)))) (scs_nil)) (scs_one (sc_put hu1 (se_var 5) (se_ix hu1 (se_var 4) (se_var 6)) (se_tup (sa_cons (se_ix hu1 (se_var 7) (se_int)) (sa_cons (se_own (G .l_dealt_look) hr (by rfl) T.g_l_dealt_look T.f_l_dealt_look.kp T.b_l_dealt_look pas0 (sa_cons (se_ix hu1 (se_var 7) (se_int)) (sa_cons (se_var 4) (sa_nil)))) (sa_cons (se_var 8) (sa_nil)))))))))) (scs_one (sc_ret (se_tup (sa_cons (se_var 5) (sa_cons (se_var 4) (sa_nil))))))))))
theorem ok_l_truth (T : Tx K mg fa fd) {k : Nat} (G : ∀ f, FnOk P w K mg base CX0 k (fa f) (fd f) (nps f) (spD K mg (F k f) (ar f))) : FnOk P w K mg base CX0 (k + 1) (fa .l_truth) (fd .l_truth) p_l_truth (spD K mg (F (k + 1) .l_truth) 3) := by
  refine fn_def (c := c_l_truth (F k)) (m := 8) T.f_l_truth sc_l_truth (F_l_truth k) rfl rfl fun cdv A outer s H E hr => ?_
  have hu1 := hu_of hr
  have hu64 := hr.units
  have hu65 := PL.hu65 hr
  exact scs_cons (sc_asg (se_var 2) (sg_tup rfl (sgs_cons (sg_name sc_l_truth.nd rfl (by first | exact Or.inl rfl | exact Or.inr rfl)) (sgs_cons (sg_name sc_l_truth.nd rfl (by first | exact Or.inl rfl | exact Or.inr rfl)) (sgs_cons (sg_name sc_l_truth.nd rfl (by first | exact Or.inl rfl | exact Or.inr rfl)) (sgs_cons (sg_name sc_l_truth.nd rfl (by first | exact Or.inl rfl | exact Or.inr rfl)) (sgs_nil))))) rfl)) (scs_cons (sc_if (st_cmp (op_eqD hu64) o_eq (se_ix hu1 (se_var 1) (se_int)) (se_str) (nomark _)) (scs_one (sc_ret (se_bl))) (scs_nil)) (scs_cons (sc_if (st_cmp (op_eqD hu64) o_eq (se_ix hu1 (se_var 1) (se_int)) (se_str) (nomark _)) (scs_one (sc_ret (se_cmp (op_eqD hu64) o_eq (se_var 4) (se_ix hu1 (se_var 1) (se_int)) (nomark _)))) (scs_nil)) (scs_cons (sc_if (st_cmp (op_eqD hu64) o_eq (se_ix hu1 (se_var 1) (se_int)) (se_str) (nomark _)) (scs_one (sc_ret (se_var 5))) (scs_nil)) (scs_cons (sc_if (st_cmp (op_eqD hu64) o_eq (se_ix hu1 (se_var 1) (se_int)) (se_str) (nomark _)) (scs_one (sc_ret (se_cmp (op_eqD hu64) o_eq (se_bin op_mod o_mod (se_bin op_fdivW o_fdiv (se_ix hu1 (se_lst (sa_cons (se_var 6) (sa_cons (se_var 7) (sa_nil)))) (se_callTy call_intAll o_int (by rfl) T.z_int bt_int (sa_cons (se_cmp (op_eqD hu64) o_eq (se_ix hu1 (se_ix hu1 (se_var 0) (se_ix hu1 (se_var 1) (se_int))) (se_int)) (se_str) (nomark _)) (sa_nil)))) (se_bin op_shlW o_shl (se_int) (se_ix hu1 (se_var 1) (se_int)))) (se_int)) (se_int) (nomark _)))) (scs_nil)) (scs_cons (sc_if (st_cmp (op_eqD hu64) o_eq (se_ix hu1 (se_var 1) (se_int)) (se_str) (nomark _)) (scs_one (sc_ret (se_not (se_own (G .l_truth) hr (by rfl) T.g_l_truth T.f_l_truth.kp T.b_l_truth pas0 (sa_cons (se_var 0) (sa_cons (se_ix hu1 (se_var 1) (se_int)) (sa_cons (se_var 2) (sa_nil)))))))) (scs_nil)) (scs_cons (sc_set (i := 3) sc_l_truth.nd rfl (by first | exact Or.inl rfl | exact Or.inr rfl) (se_lst (sa_cons (se_own (G .l_truth) hr (by rfl) T.g_l_truth T.f_l_truth.kp T.b_l_truth pas0 (sa_cons (se_var 0) (sa_cons (se_ix hu1 (se_var 1) (se_int)) (sa_cons (se_var 2) (sa_nil))))) (sa_cons (se_own (G .l_truth) hr (by rfl) T.g_l_truth T.f_l_truth.kp T.b_l_truth pas0 (sa_cons (se_var 0) (sa_cons (se_ix hu1 (se_var 1) (se_int)) (sa_cons (se_var 2) (sa_nil))))) (sa_nil))))) (scs_cons (sc_if (st_cmp (op_eqD hu64) o_eq (se_ix hu1 (se_var 1) (se_int)) (se_str) (nomark _)) (scs_one (sc_ret (se_and (se_ix hu1 (se_var 3) (se_int)) (se_one (se_ix hu1 (se_var 3) (se_int)))))) (scs_nil)) (scs_one (sc_ret (se_orV (se_ix hu1 (se_var 3) (se_int)) (se_one (se_ix hu1 (se_var 3) (se_int)))))))))))))
theorem ok_l_due (T : Tx K mg fa fd) {k : Nat} (G : ∀ f, FnOk P w K mg base CX0 k (fa f) (fd f) (nps f) (spD K mg (F k f) (ar f))) : FnOk P w K mg base CX0 (k + 1) (fa .l_due) (fd .l_due) p_l_due (spD K mg (F (k + 1) .l_due) 2) := by
  refine fn_def (c := c_l_due (F k)) (m := 8) T.f_l_due sc_l_due (F_l_due k) rfl rfl fun cdv A outer s H E hr => ?_
  have hu1 := hu_of hr
  have hu64 := hr.units
  have hu65 := PL.hu65 hr
  exact scs_cons (sc_set (i := 2) sc_l_due.nd rfl (by first | exact Or.inl rfl | exact Or.inr rfl) (se_int)) (scs_cons (sc_for PassesOwn.never rfl (si_revN (by rfl) T.z_reversed (by rfl) T.z_range (se_callB call_lenAll o_len (by rfl) T.z_len bt_len (sa_cons (se_var 0) (sa_nil)))) (sg_name sc_l_due.nd rfl (by first | exact Or.inl rfl | exact Or.inr rfl)) (scs_cons (sc_asg (se_ix hu1 (se_var 0) (se_var 3)) (sg_tup rfl (sgs_cons (sg_name sc_l_due.nd rfl (by first | exact Or.inl rfl | exact Or.inr rfl)) (sgs_cons (sg_name sc_l_due.nd rfl (by first | exact Or.inl rfl | exact Or.inr rfl)) (sgs_cons (sg_name sc_l_due.nd rfl (by first | exact Or.inl rfl | exact Or.inr rfl)) (sgs_nil)))) rfl)) (scs_cons (sc_set (i := 4) sc_l_due.nd rfl (by first | exact Or.inl rfl | exact Or.inr rfl) (se_own (G .l_truth) hr (by rfl) T.g_l_truth T.f_l_truth.kp T.b_l_truth pas0 (sa_cons (se_var 0) (sa_cons (se_var 6) (sa_cons (se_var 1) (sa_nil)))))) (scs_cons (sc_if (st_cmp op_notN o_isNot (se_var 7) (se_non) (nomark _)) (scs_one (sc_set (i := 4) sc_l_due.nd rfl (by first | exact Or.inl rfl | exact Or.inr rfl) (se_and (se_var 4) (se_one (se_own (G .l_truth) hr (by rfl) T.g_l_truth T.f_l_truth.kp T.b_l_truth pas0 (sa_cons (se_var 0) (sa_cons (se_tup (sa_cons (se_str) (sa_cons (se_var 7) (sa_nil)))) (sa_cons (se_var 1) (sa_nil))))))))) (scs_nil)) (scs_cons (sc_if (st_cmp (op_eqD hu64) o_eq (se_var 5) (se_str) (nomark _)) (scs_one (sc_set (i := 4) sc_l_due.nd rfl (by first | exact Or.inl rfl | exact Or.inr rfl) (se_or (se_var 4) (se_one (se_cmp (op_eqD hu64) o_eq (se_bin op_mod o_mod (se_bin op_fdivW o_fdiv (se_ix hu1 (se_var 1) (se_int)) (se_bin op_shlW o_shl (se_int) (se_var 3))) (se_int)) (se_int) (nomark _)))))) (scs_nil)) (scs_one (sc_set (i := 2) sc_l_due.nd rfl (by first | exact Or.inl rfl | exact Or.inr rfl) (se_bin op_addAll o_add (se_bin op_mulAll o_mul (se_int) (se_var 2)) (se_callTy call_intAll o_int (by rfl) T.z_int bt_int (sa_cons (se_var 4) (sa_nil))))))))))) (scs_one (sc_ret (se_var 2))))
theorem ok_l_bits (T : Tx K mg fa fd) {k : Nat} (G : ∀ f, FnOk P w K mg base CX0 k (fa f) (fd f) (nps f) (spD K mg (F k f) (ar f))) : FnOk P w K mg base CX0 (k + 1) (fa .l_bits) (fd .l_bits) p_l_bits (spD K mg (F (k + 1) .l_bits) 3) := by
  refine fn_def (c := c_l_bits (F k)) (m := 3) T.f_l_bits sc_l_bits (F_l_bits k) rfl rfl fun cdv A outer s H E hr => ?_
  have hu1 := hu_of hr
  have hu64 := hr.units
  have hu65 := PL.hu65 hr
  exact scs_cons (sc_if (st_cmp op_ge o_ge (se_var 0) (se_bin op_pow o_pow (se_int) (se_int)) (nomark _)) (scs_one (sc_ret (se_bin op_mod o_mod (se_bin op_fdivW o_fdiv (se_var 0) (se_ix hu1 (se_lst (sa_cons (se_int) (sa_cons (se_bin op_pow o_pow (se_int) (se_int)) (sa_nil)))) (se_var 1))) (se_bin op_shlW o_shl (se_int) (se_var 2))))) (scs_nil)) (scs_one (sc_ret (se_bin op_mod o_mod (se_bin op_addAll o_add (se_bin op_mulAll o_mul (se_own (G .l_mix) hr (by rfl) T.g_l_mix T.f_l_mix.kp T.b_l_mix pas0 (sa_cons (se_var 0) (sa_cons (se_bin op_addAll o_add (se_int) (se_var 1)) (sa_nil)))) (se_bin op_pow o_pow (se_int) (se_int))) (se_own (G .l_mix) hr (by rfl) T.g_l_mix T.f_l_mix.kp T.b_l_mix pas0 (sa_cons (se_var 0) (sa_cons (se_bin op_addAll o_add (se_int) (se_var 1)) (sa_nil))))) (se_bin op_shlW o_shl (se_int) (se_var 2)))))
theorem ok_l_law (T : Tx K mg fa fd) {k : Nat} (G : ∀ f, FnOk P w K mg base CX0 k (fa f) (fd f) (nps f) (spD K mg (F k f) (ar f))) : FnOk P w K mg base CX0 (k + 1) (fa .l_law) (fd .l_law) p_l_law (spD K mg (F (k + 1) .l_law) 1) := by
  refine fn_def (c := c_l_law (F k)) (m := 13) T.f_l_law sc_l_law (F_l_law k) rfl rfl fun cdv A outer s H E hr => ?_
  have hu1 := hu_of hr
  have hu64 := hr.units
  have hu65 := PL.hu65 hr
  exact scs_cons (sc_set (i := 1) sc_l_law.nd rfl (by first | exact Or.inl rfl | exact Or.inr rfl) (se_own (G .l_names) hr (by rfl) T.g_l_names T.f_l_names.kp T.b_l_names pas0 (sa_cons (se_callB (cr_sum rfl) o_sum (by rfl) T.z_sum bt_sum (sa_cons (se_sli (se_var 0) (so_none) (so_some (se_int))) (sa_nil))) (sa_nil)))) (scs_cons (sc_set (i := 2) sc_l_law.nd rfl (by first | exact Or.inl rfl | exact Or.inr rfl) (se_disp (sps_cons (se_str) (se_lst (sa_cons (se_int) (sa_nil))) (sps_cons (se_str) (se_lst (sa_cons (se_int) (sa_nil))) (sps_cons (se_str) (se_lst (sa_cons (se_int) (sa_nil))) (sps_nil)))) rfl rfl (List.cons_ne_nil _ _) (Nat.le_of_ble_eq_true rfl))) (scs_cons (sc_set (i := 3) sc_l_law.nd rfl (by first | exact Or.inl rfl | exact Or.inr rfl) (se_own (G .l_pile) hr (by rfl) T.g_l_pile T.f_l_pile.kp T.b_l_pile pas0 (sa_cons (se_bin op_addAll o_add (se_own (G .l_cells) hr (by rfl) T.g_l_cells T.f_l_cells.kp T.b_l_cells pas0 (sa_cons (se_var 0) (sa_cons (se_int) (sa_nil)))) (se_own (G .l_cells) hr (by rfl) T.g_l_cells T.f_l_cells.kp T.b_l_cells pas0 (sa_cons (se_var 0) (sa_cons (se_int) (sa_nil))))) (sa_cons (se_var 1) (sa_cons (se_lst (sa_cons (se_tup (sa_cons (se_int) (sa_cons (se_ix hu1 (se_var 1) (se_int)) (sa_nil)))) (sa_nil))) (sa_cons (se_var 2) (sa_cons (se_int) (sa_nil)))))))) (scs_cons (sc_set (i := 4) sc_l_law.nd rfl (by first | exact Or.inl rfl | exact Or.inr rfl) (se_lst (sa_nil))) (scs_cons (sc_expr (se_own (G .l_turned) hr (by rfl) T.g_l_turned T.f_l_turned.kp T.b_l_turned pas0 (sa_cons (se_ix hu1 (se_ix hu1 (se_var 3) (se_ix hu1 (se_callB (cr_maxP rfl hu65) o_maxP (by rfl) T.z_max bt_max (sa_cons (se_compB [("_law_k", 7), ("_law_item", 12)] rfl sc_l_law.nd (si_enumA (by rfl) T.z_enumerate (sa_cons (se_var 3) (sa_nil))) (blkOk_by (own := [("_law_k", 7), ("_law_item", 12)]) (N := N_l_law) (sc := defScope s_l_law) (by decide +kernel)) (by intro _ _ _ _ _; exact sg_tup rfl (sgs_cons (sg_name sc_l_law.nd rfl (by first | exact Or.inl rfl | exact Or.inr rfl)) (sgs_cons (sg_name sc_l_law.nd rfl (by first | exact Or.inl rfl | exact Or.inr rfl)) (sgs_nil))) rfl) (by intro _ _ _ _ _; exact sts_nil) (by intro _ _ _ _ _; exact se_tup (sa_cons (se_ix hu1 (se_var 12) (se_int)) (sa_cons (se_var 7) (sa_nil)))) rfl (by decide)) (sa_nil))) (se_int))) (se_int)) (sa_cons (se_var 4) (sa_nil))))) (scs_cons (sc_set (i := 5) sc_l_law.nd rfl (by first | exact Or.inl rfl | exact Or.inr rfl) (se_callB (cr_sum rfl) o_sum (by rfl) T.z_sum bt_sum (sa_cons (se_sli (se_var 0) (so_some (se_int)) (so_some (se_int))) (sa_nil)))) (scs_cons (sc_set (i := 4) sc_l_law.nd rfl (by first | exact Or.inl rfl | exact Or.inr rfl) (se_ix hu1 (se_own (G .l_dealt) hr (by rfl) T.g_l_dealt T.f_l_dealt.kp T.b_l_dealt pas0 (sa_cons (se_var 4) (sa_cons (se_own (G .l_mix) hr (by rfl) T.g_l_mix T.f_l_mix.kp T.b_l_mix pas0 (sa_cons (se_var 5) (sa_cons (se_int) (sa_nil)))) (sa_nil)))) (se_int))) (scs_cons (sc_set (i := 6) sc_l_law.nd rfl (by first | exact Or.inl rfl | exact Or.inr rfl) (se_lst (sa_nil))) (scs_cons (sc_for PassesOwn.never rfl (si_range1 (by rfl) T.z_range (sa_cons (se_int) (sa_nil))) (sg_name sc_l_law.nd rfl (by first | exact Or.inl rfl | exact Or.inr rfl)) (scs_cons (sc_set (i := 8) sc_l_law.nd rfl (by first | exact Or.inl rfl | exact Or.inr rfl) (se_tup (sa_cons (se_ix hu1 (se_var 1) (se_bin op_mod o_mod (se_own (G .l_mix) hr (by rfl) T.g_l_mix T.f_l_mix.kp T.b_l_mix pas0 (sa_cons (se_var 5) (sa_cons (se_bin op_addAll o_add (se_int) (se_bin op_mulAll o_mul (se_int) (se_var 7))) (sa_nil)))) (se_int))) (sa_cons (se_cmp (op_eqD hu64) o_eq (se_bin op_mod o_mod (se_own (G .l_mix) hr (by rfl) T.g_l_mix T.f_l_mix.kp T.b_l_mix pas0 (sa_cons (se_var 5) (sa_cons (se_bin op_addAll o_add (se_int) (se_bin op_mulAll o_mul (se_int) (se_var 7))) (sa_nil)))) (se_int)) (se_int) (nomark _)) (sa_nil))))) (scs_cons (sc_setCompB (i := 9) [("_law_turn", 11)] rfl sc_l_law.nd rfl rfl (sw_true rfl rfl rfl (by decide +kernel)) (si_range1 (by rfl) T.z_range (sa_cons (se_int) (sa_nil))) (blkOk_by (own := [("_law_turn", 11)]) (N := N_l_law) (sc := defScope s_l_law) (by decide +kernel)) (by intro _ _ _ _ _; exact sg_name sc_l_law.nd rfl (by first | exact Or.inl rfl | exact Or.inr rfl)) (by intro _ _ _ _ _; exact sts_nil) (by intro _ _ _ _ _; exact se_own (G .l_bits) hr (by rfl) T.g_l_bits T.f_l_bits.kp T.b_l_bits pas0 (sa_cons (se_bin op_addAll o_add (se_callB (cr_sum rfl) o_sum (by rfl) T.z_sum bt_sum (sa_cons (se_sli (se_var 0) (so_some (se_bin op_addAll o_add (se_int) (se_var 7))) (so_some (se_bin op_addAll o_add (se_int) (se_var 7)))) (sa_nil))) (se_var 7)) (sa_cons (se_var 11) (sa_cons (se_callB call_lenAll o_len (by rfl) T.z_len bt_len (sa_cons (se_var 4) (sa_nil))) (sa_nil))))) rfl (by decide)) (scs_one (sc_expr (se_meth PySem.F.plainAttrs_list PySem.F.slot_list_append PySem.F.type_list_append mt_append o_append (se_var 6) (sa_cons (se_bin op_addAll o_add (se_var 8) (se_tup (sa_cons (se_ix hu1 (se_var 9) (se_int)) (sa_cons (se_ix hu1 (se_var 9) (se_int)) (sa_nil))))) (sa_nil)))))))) (scs_cons (sc_for PassesOwn.never rfl (si_seq (se_bin op_addAll o_add (se_var 6) (se_sli (se_var 6) (so_none) (so_some (se_int))))) (sg_name sc_l_law.nd rfl (by first | exact Or.inl rfl | exact Or.inr rfl)) (scs_cons (sc_set (i := 10) sc_l_law.nd rfl (by first | exact Or.inl rfl | exact Or.inr rfl) (se_own (G .mask_of) hr (by rfl) T.g_mask_of T.f_mask_of.kp T.b_mask_of pas0 (sa_cons (se_callTy call_tuple_of o_tuple (by rfl) T.z_tuple bt_tuple (sa_cons (se_var 4) (sa_nil))) (sa_cons (se_ix hu1 (se_var 8) (se_int)) (sa_cons (se_ix hu1 (se_var 8) (se_int)) (sa_cons (se_ix hu1 (se_var 8) (se_int)) (sa_cons (se_ix hu1 (se_var 8) (se_int)) (sa_nil)))))))) (scs_one (sc_if (st_w (sw_or (st_not (st_bl (se_isi (by rfl) T.z_isinstance (by rfl) T.z_int bt_int (se_var 10)))) (sw_or (st_bl (se_isi (by rfl) T.z_isinstance (by rfl) T.z_bool bt_bool (se_var 10))) (sw_one_or (st_cmp (op_neD hu64) o_ne (se_var 10) (se_own (G .l_due) hr (by rfl) T.g_l_due T.f_l_due.kp T.b_l_due pas0 (sa_cons (se_var 4) (sa_cons (se_var 8) (sa_nil)))) (nomark _)))))) (scs_one (sc_ret (se_bl))) (scs_nil))))) (scs_one (sc_ret (se_bl))))))))))))
theorem ok_all (T : Tx K mg fa fd) : ∀ (k : Nat) (f : Fn), FnOk P w K mg base CX0 k (fa f) (fd f) (nps f) (spD K mg (F k f) (ar f))
  | 0, f => fn_zero (by cases f <;> rfl)
  | k + 1, f => by
    have G := ok_all T k
    cases f
    · exact ok_has_bit T G
    · exact ok_says T G
    · exact ok_mask_of T G
    · exact ok_l_mix T G
    · exact ok_l_cells T G
    · exact ok_l_names T G
    · exact ok_l_leaf T G
    · exact ok_l_truths T G
    · exact ok_l_before T G
    · exact ok_l_many T G
    · exact ok_l_way T G
    · exact ok_l_pile T G
    · exact ok_l_turned T G
    · exact ok_l_dealt_look T G
    · exact ok_l_dealt T G
    · exact ok_l_truth T G
    · exact ok_l_due T G
    · exact ok_l_bits T G
    · exact ok_l_law T G
end
end Wk

namespace Wk
open PySem PL
/-! the laws' cells -/
def dg (c : Int) : Nat → Int
  | 0 => c
  | n + 1 => dg c n / 840
def mxN (c k : Int) : Int := (c % 1000000007 + 7919 * k + 13) * (c % 1000000007 + 7919 * k + 13) % 998244353
def mx (c k : Int) : Int := if 1000000000 ≤ c ∧ 0 < dg c (k % 46).toNat then dg c (k % 46).toNat % 840 else mxN c k * (mxN c k + 16807 * k + 1) % 1000000007 / 3
theorem mx_pos (c k : Int) : 0 ≤ mx c k := by
  unfold mx
  split
  · exact Int.emod_nonneg _ (by omega)
  · exact Int.ediv_nonneg (Int.emod_nonneg _ (by omega)) (by omega)
theorem mx_lt (c k : Int) : mx c k < 400000000 := by
  unfold mx
  split
  · have := Int.emod_lt_of_pos (dg c (k % 46).toNat) (b := 840) (by omega); omega
  · have := Int.emod_lt_of_pos (mxN c k * (mxN c k + 16807 * k + 1)) (b := 1000000007) (by omega); omega
theorem mix_run {f : Nat} {c k : Int} {S : Sto} (k0 : 0 ≤ k) (k1 : k < 100000) : F (f + 1) .l_mix [.int c, .int k] S = .ok (.int (mx c k)) S := by
  rw [F_l_mix]
  refine runF_rt (ρ := [some (.int c), some (.int k), none, none, none]) rfl rfl ?_
  have hp : powD (.int 10) (.int 9) S = .ok (.int 1000000000) S := by
    simp only [powD]
    rw [if_pos (show L2.CPow 10 9 from ⟨by omega, by omega, by omega⟩)]; rfl
  have m0 := Int.emod_nonneg k (b := 46) (by omega)
  have m1 := Int.emod_lt_of_pos k (b := 46) (by omega)
  have tail : ∀ (g : Int) (v4 : Option Dv), (1000000000 ≤ c ∧ 0 < dg c (k % 46).toNat ↔ 0 < g) → (0 < g → g = dg c (k % 46).toNat) → cSeq (cIf (cBl (eBin gtD (eVar 2) (eCon (.int 0)))) (cRet (eBin modD (eVar 2) (eCon (.int 840)))) (cNil)) (cSeq (cSet 3 (eBin addD (eBin addD (eBin modD (eVar 0) (eCon (.int 1000000007))) (eBin mulD (eCon (.int 7919)) (eVar 1))) (eCon (.int 13)))) (cSeq (cSet 3 (eBin modD (eBin mulD (eVar 3) (eVar 3)) (eCon (.int 998244353)))) (cRet (eBin fdivD (eBin modD (eBin mulD (eVar 3) (eBin addD (eBin addD (eVar 3) (eBin mulD (eCon (.int 16807)) (eVar 1))) (eCon (.int 1)))) (eCon (.int 1000000007))) (eCon (.int 3))))))
      [some (.int c), some (.int k), some (.int g), none, v4] S = .fl (.rt (.int (mx c k))) S := fun g v4 h1 h2 => by
    by_cases q : 0 < g
    · have e : mx c k = g % 840 := by unfold mx; rw [if_pos (h1.mpr q), h2 q]
      rw [e]
      exact seq_rt ((if_t (S' := S) (by simp only [ev_var, ev_con, ev_bin, ev_un, ev_anil, ev_acons, ev_call, ev_tup, ev_lst, ev_not, ev_and, ev_or, ev_if, ev_cbl, ev_btrue, ev_cand, ev_cor, ev_cnot, ev_sli, ev_onone, ev_osome, ev_chain, ev_meth, ev_get2, ev_newK, ev_newT, ev_own, ev_nil, ev_seq, ev_expr, ev_set, ev_ret, ev_retN, ev_cif, ev_brk, ev_ct, ev_asg, ev_put, ev_aug, ev_for, ev_comp, ev_newL, ev_iseq, ev_irange, ev_ienum, ev_yes, Out.bind_ok, Out.bindN_ok, bindS_ok, Tg.set, Tg.sets, List.getElem?_cons_zero, List.getElem?_cons_succ, List.set_cons_zero, List.set_cons_succ, wipeE, List.length_cons, List.length_nil, Nat.reduceAdd, Nat.reduceLeDiff, Nat.reduceEqDiff, ↓reduceIte, Bool.false_eq_true, decide_eq_true_eq, add_int, sub_int, lt_int, gt_int, le_int, ge_int, neg_int, and_int, or_int, xor_int, max2_int, min2_int, mod_pos, fdiv_sm, mul_sm, mul_smr, Int.reduceLT, Int.reduceNeg, int_bl, int_int, sli_tup, q, decide_true])).trans (ret_of (by simp only [ev_var, ev_con, ev_bin, ev_un, ev_anil, ev_acons, ev_call, ev_tup, ev_lst, ev_not, ev_and, ev_or, ev_if, ev_cbl, ev_btrue, ev_cand, ev_cor, ev_cnot, ev_sli, ev_onone, ev_osome, ev_chain, ev_meth, ev_get2, ev_newK, ev_newT, ev_own, ev_nil, ev_seq, ev_expr, ev_set, ev_ret, ev_retN, ev_cif, ev_brk, ev_ct, ev_asg, ev_put, ev_aug, ev_for, ev_comp, ev_newL, ev_iseq, ev_irange, ev_ienum, ev_yes, Out.bind_ok, Out.bindN_ok, bindS_ok, Tg.set, Tg.sets, List.getElem?_cons_zero, List.getElem?_cons_succ, List.set_cons_zero, List.set_cons_succ, wipeE, List.length_cons, List.length_nil, Nat.reduceAdd, Nat.reduceLeDiff, Nat.reduceEqDiff, ↓reduceIte, Bool.false_eq_true, decide_eq_true_eq, add_int, sub_int, lt_int, gt_int, le_int, ge_int, neg_int, and_int, or_int, xor_int, max2_int, min2_int, mod_pos, fdiv_sm, mul_sm, mul_smr, Int.reduceLT, Int.reduceNeg, int_bl, int_int, sli_tup])))
    · have e : mx c k = mxN c k * (mxN c k + 16807 * k + 1) % 1000000007 / 3 := by unfold mx; rw [if_neg (fun z => q (h1.mp z))]
      rw [e]
      have a0 := Int.emod_nonneg c (b := 1000000007) (by omega)
      have a1 := Int.emod_lt_of_pos c (b := 1000000007) (by omega)
      have u1 : mulD (.int (c % 1000000007 + 7919 * k + 13)) (.int (c % 1000000007 + 7919 * k + 13)) S = .ok (.int ((c % 1000000007 + 7919 * k + 13) * (c % 1000000007 + 7919 * k + 13))) S := mul_l (by omega)
      have b0 := Int.emod_nonneg ((c % 1000000007 + 7919 * k + 13) * (c % 1000000007 + 7919 * k + 13)) (b := 998244353) (by omega)
      have b1 := Int.emod_lt_of_pos ((c % 1000000007 + 7919 * k + 13) * (c % 1000000007 + 7919 * k + 13)) (b := 998244353) (by omega)
      have u2 : mulD (.int (mxN c k)) (.int (mxN c k + 16807 * k + 1)) S = .ok (.int (mxN c k * (mxN c k + 16807 * k + 1))) S := mul_l (by unfold mxN; omega)
      refine (seq_of ((if_f (S' := S) (by simp only [ev_var, ev_con, ev_bin, ev_un, ev_anil, ev_acons, ev_call, ev_tup, ev_lst, ev_not, ev_and, ev_or, ev_if, ev_cbl, ev_btrue, ev_cand, ev_cor, ev_cnot, ev_sli, ev_onone, ev_osome, ev_chain, ev_meth, ev_get2, ev_newK, ev_newT, ev_own, ev_nil, ev_seq, ev_expr, ev_set, ev_ret, ev_retN, ev_cif, ev_brk, ev_ct, ev_asg, ev_put, ev_aug, ev_for, ev_comp, ev_newL, ev_iseq, ev_irange, ev_ienum, ev_yes, Out.bind_ok, Out.bindN_ok, bindS_ok, Tg.set, Tg.sets, List.getElem?_cons_zero, List.getElem?_cons_succ, List.set_cons_zero, List.set_cons_succ, wipeE, List.length_cons, List.length_nil, Nat.reduceAdd, Nat.reduceLeDiff, Nat.reduceEqDiff, ↓reduceIte, Bool.false_eq_true, decide_eq_true_eq, add_int, sub_int, lt_int, gt_int, le_int, ge_int, neg_int, and_int, or_int, xor_int, max2_int, min2_int, mod_pos, fdiv_sm, mul_sm, mul_smr, Int.reduceLT, Int.reduceNeg, int_bl, int_int, sli_tup, q, decide_false])).trans rfl)).trans ?_
      refine (seq_of (set_of (d := .int (c % 1000000007 + 7919 * k + 13)) (S' := S) (by simp only [ev_var, ev_con, ev_bin, ev_un, ev_anil, ev_acons, ev_call, ev_tup, ev_lst, ev_not, ev_and, ev_or, ev_if, ev_cbl, ev_btrue, ev_cand, ev_cor, ev_cnot, ev_sli, ev_onone, ev_osome, ev_chain, ev_meth, ev_get2, ev_newK, ev_newT, ev_own, ev_nil, ev_seq, ev_expr, ev_set, ev_ret, ev_retN, ev_cif, ev_brk, ev_ct, ev_asg, ev_put, ev_aug, ev_for, ev_comp, ev_newL, ev_iseq, ev_irange, ev_ienum, ev_yes, Out.bind_ok, Out.bindN_ok, bindS_ok, Tg.set, Tg.sets, List.getElem?_cons_zero, List.getElem?_cons_succ, List.set_cons_zero, List.set_cons_succ, wipeE, List.length_cons, List.length_nil, Nat.reduceAdd, Nat.reduceLeDiff, Nat.reduceEqDiff, ↓reduceIte, Bool.false_eq_true, decide_eq_true_eq, add_int, sub_int, lt_int, gt_int, le_int, ge_int, neg_int, and_int, or_int, xor_int, max2_int, min2_int, mod_pos, fdiv_sm, mul_sm, mul_smr, Int.reduceLT, Int.reduceNeg, int_bl, int_int, sli_tup]))).trans ?_
      refine (seq_of (set_of (d := .int (mxN c k)) (S' := S) (by simp only [ev_var, ev_con, ev_bin, ev_un, ev_anil, ev_acons, ev_call, ev_tup, ev_lst, ev_not, ev_and, ev_or, ev_if, ev_cbl, ev_btrue, ev_cand, ev_cor, ev_cnot, ev_sli, ev_onone, ev_osome, ev_chain, ev_meth, ev_get2, ev_newK, ev_newT, ev_own, ev_nil, ev_seq, ev_expr, ev_set, ev_ret, ev_retN, ev_cif, ev_brk, ev_ct, ev_asg, ev_put, ev_aug, ev_for, ev_comp, ev_newL, ev_iseq, ev_irange, ev_ienum, ev_yes, Out.bind_ok, Out.bindN_ok, bindS_ok, Tg.set, Tg.sets, List.getElem?_cons_zero, List.getElem?_cons_succ, List.set_cons_zero, List.set_cons_succ, wipeE, List.length_cons, List.length_nil, Nat.reduceAdd, Nat.reduceLeDiff, Nat.reduceEqDiff, ↓reduceIte, Bool.false_eq_true, decide_eq_true_eq, add_int, sub_int, lt_int, gt_int, le_int, ge_int, neg_int, and_int, or_int, xor_int, max2_int, min2_int, mod_pos, fdiv_sm, mul_sm, mul_smr, Int.reduceLT, Int.reduceNeg, int_bl, int_int, sli_tup, u1]; rfl))).trans ?_
      exact ret_of (by simp only [ev_var, ev_con, ev_bin, ev_un, ev_anil, ev_acons, ev_call, ev_tup, ev_lst, ev_not, ev_and, ev_or, ev_if, ev_cbl, ev_btrue, ev_cand, ev_cor, ev_cnot, ev_sli, ev_onone, ev_osome, ev_chain, ev_meth, ev_get2, ev_newK, ev_newT, ev_own, ev_nil, ev_seq, ev_expr, ev_set, ev_ret, ev_retN, ev_cif, ev_brk, ev_ct, ev_asg, ev_put, ev_aug, ev_for, ev_comp, ev_newL, ev_iseq, ev_irange, ev_ienum, ev_yes, Out.bind_ok, Out.bindN_ok, bindS_ok, Tg.set, Tg.sets, List.getElem?_cons_zero, List.getElem?_cons_succ, List.set_cons_zero, List.set_cons_succ, wipeE, List.length_cons, List.length_nil, Nat.reduceAdd, Nat.reduceLeDiff, Nat.reduceEqDiff, ↓reduceIte, Bool.false_eq_true, decide_eq_true_eq, add_int, sub_int, lt_int, gt_int, le_int, ge_int, neg_int, and_int, or_int, xor_int, max2_int, min2_int, mod_pos, fdiv_sm, mul_sm, mul_smr, Int.reduceLT, Int.reduceNeg, int_bl, int_int, sli_tup, u2])
  unfold c_l_mix
  refine (seq_of (set_of rfl)).trans ?_
  by_cases q : 1000000000 ≤ c
  · obtain ⟨ρ', S', e, v4, rfl, rfl⟩ := loop_all (ck := Ck.tt.ok) (t := .nm 4) (b := b_l_mix_1 (F f)) (S := S) (ρ := [some (.int c), some (.int k), some (.int c), none, none])
      (fun i ρ S' => ∃ v4, ρ = [some (.int c), some (.int k), some (.int (dg c i)), none, v4] ∧ S' = S) (rangeL 0 (k % 46)) ⟨none, rfl, rfl⟩
      (fun i v ρ S' hv ⟨v4, hρ, hS⟩ => by
        subst hρ hS
        obtain ⟨rfl, hlt⟩ := rangeL_get hv
        exact ⟨trivial, _, rfl, [some (.int c), some (.int k), some (.int (dg c (i + 1))), none, some (.int (0 + i))], S', .inl (by unfold b_l_mix_1; exact set_of (by simp only [ev_var, ev_con, ev_bin, ev_un, ev_anil, ev_acons, ev_call, ev_tup, ev_lst, ev_not, ev_and, ev_or, ev_if, ev_cbl, ev_btrue, ev_cand, ev_cor, ev_cnot, ev_sli, ev_onone, ev_osome, ev_chain, ev_meth, ev_get2, ev_newK, ev_newT, ev_own, ev_nil, ev_seq, ev_expr, ev_set, ev_ret, ev_retN, ev_cif, ev_brk, ev_ct, ev_asg, ev_put, ev_aug, ev_for, ev_comp, ev_newL, ev_iseq, ev_irange, ev_ienum, ev_yes, Out.bind_ok, Out.bindN_ok, bindS_ok, Tg.set, Tg.sets, List.getElem?_cons_zero, List.getElem?_cons_succ, List.set_cons_zero, List.set_cons_succ, wipeE, List.length_cons, List.length_nil, Nat.reduceAdd, Nat.reduceLeDiff, Nat.reduceEqDiff, ↓reduceIte, Bool.false_eq_true, decide_eq_true_eq, add_int, sub_int, lt_int, gt_int, le_int, ge_int, neg_int, and_int, or_int, xor_int, max2_int, min2_int, mod_pos, fdiv_sm, mul_sm, mul_smr, Int.reduceLT, Int.reduceNeg, int_bl, int_int, sli_tup]; rfl)), _, rfl, rfl⟩)
      (fun _ _ _ => trivial)
    have el : (rangeL 0 (k % 46)).length = (k % 46).toNat := by rw [rangeL_len, Int.sub_zero]
    rw [el] at e
    refine (seq_of ((if_t (S' := S') (by simp only [ev_var, ev_con, ev_bin, ev_un, ev_anil, ev_acons, ev_call, ev_tup, ev_lst, ev_not, ev_and, ev_or, ev_if, ev_cbl, ev_btrue, ev_cand, ev_cor, ev_cnot, ev_sli, ev_onone, ev_osome, ev_chain, ev_meth, ev_get2, ev_newK, ev_newT, ev_own, ev_nil, ev_seq, ev_expr, ev_set, ev_ret, ev_retN, ev_cif, ev_brk, ev_ct, ev_asg, ev_put, ev_aug, ev_for, ev_comp, ev_newL, ev_iseq, ev_irange, ev_ienum, ev_yes, Out.bind_ok, Out.bindN_ok, bindS_ok, Tg.set, Tg.sets, List.getElem?_cons_zero, List.getElem?_cons_succ, List.set_cons_zero, List.set_cons_succ, wipeE, List.length_cons, List.length_nil, Nat.reduceAdd, Nat.reduceLeDiff, Nat.reduceEqDiff, ↓reduceIte, Bool.false_eq_true, decide_eq_true_eq, add_int, sub_int, lt_int, gt_int, le_int, ge_int, neg_int, and_int, or_int, xor_int, max2_int, min2_int, mod_pos, fdiv_sm, mul_sm, mul_smr, Int.reduceLT, Int.reduceNeg, int_bl, int_int, sli_tup, hp, q, decide_true])).trans ((seq_of (set_of rfl)).trans ((for_of (w := (rangeL 0 (k % 46), .tt)) (S' := S') (by simp only [ev_var, ev_con, ev_bin, ev_un, ev_anil, ev_acons, ev_call, ev_tup, ev_lst, ev_not, ev_and, ev_or, ev_if, ev_cbl, ev_btrue, ev_cand, ev_cor, ev_cnot, ev_sli, ev_onone, ev_osome, ev_chain, ev_meth, ev_get2, ev_newK, ev_newT, ev_own, ev_nil, ev_seq, ev_expr, ev_set, ev_ret, ev_retN, ev_cif, ev_brk, ev_ct, ev_asg, ev_put, ev_aug, ev_for, ev_comp, ev_newL, ev_iseq, ev_irange, ev_ienum, ev_yes, Out.bind_ok, Out.bindN_ok, bindS_ok, Tg.set, Tg.sets, List.getElem?_cons_zero, List.getElem?_cons_succ, List.set_cons_zero, List.set_cons_succ, wipeE, List.length_cons, List.length_nil, Nat.reduceAdd, Nat.reduceLeDiff, Nat.reduceEqDiff, ↓reduceIte, Bool.false_eq_true, decide_eq_true_eq, add_int, sub_int, lt_int, gt_int, le_int, ge_int, neg_int, and_int, or_int, xor_int, max2_int, min2_int, mod_pos, fdiv_sm, mul_sm, mul_smr, Int.reduceLT, Int.reduceNeg, int_bl, int_int, sli_tup, rng1_of m0 (by omega)])).trans e)))).trans ?_
    exact tail _ _ ⟨fun z => z.2, fun z => ⟨q, z⟩⟩ fun _ => rfl
  · refine (seq_of ((if_f (S' := S) (by simp only [ev_var, ev_con, ev_bin, ev_un, ev_anil, ev_acons, ev_call, ev_tup, ev_lst, ev_not, ev_and, ev_or, ev_if, ev_cbl, ev_btrue, ev_cand, ev_cor, ev_cnot, ev_sli, ev_onone, ev_osome, ev_chain, ev_meth, ev_get2, ev_newK, ev_newT, ev_own, ev_nil, ev_seq, ev_expr, ev_set, ev_ret, ev_retN, ev_cif, ev_brk, ev_ct, ev_asg, ev_put, ev_aug, ev_for, ev_comp, ev_newL, ev_iseq, ev_irange, ev_ienum, ev_yes, Out.bind_ok, Out.bindN_ok, bindS_ok, Tg.set, Tg.sets, List.getElem?_cons_zero, List.getElem?_cons_succ, List.set_cons_zero, List.set_cons_succ, wipeE, List.length_cons, List.length_nil, Nat.reduceAdd, Nat.reduceLeDiff, Nat.reduceEqDiff, ↓reduceIte, Bool.false_eq_true, decide_eq_true_eq, add_int, sub_int, lt_int, gt_int, le_int, ge_int, neg_int, and_int, or_int, xor_int, max2_int, min2_int, mod_pos, fdiv_sm, mul_sm, mul_smr, Int.reduceLT, Int.reduceNeg, int_bl, int_int, sli_tup, hp, q, decide_false])).trans rfl)).trans ?_
    exact tail 0 none ⟨fun z => absurd z.1 q, fun z => by omega⟩ fun z => by omega
theorem rng1_any {i : Int} (h0 : -1000000 < i) (h1 : i < 1000000) : rng1 [.int i] = some (rangeL 0 i) := by
  have : rok i = true := by unfold rok; exact @decide_eq_true _ (Classical.propDecidable _) ⟨by omega, by omega⟩
  simp only [rng1]
  rw [if_pos this]
theorem upL2_get {lo hi : Int} {i : Nat} {d : Dv} (h : (upL2 lo hi)[i]? = some d) : d = .int (lo + 2 * i) ∧ lo + 2 * (i : Int) < hi := by
  unfold upL2 at h
  rw [List.getElem?_map] at h
  obtain ⟨j, hj, e⟩ := Option.map_eq_some_iff.mp h
  obtain ⟨hl, e2⟩ := List.getElem?_eq_some_iff.mp hj
  simp at hl e2
  subst e2
  exact ⟨e.symm, by omega⟩
theorem upL2_len (lo hi : Int) : (upL2 lo hi).length = ((hi - lo + 1) / 2).toNat := by unfold upL2; simp
theorem add_ref {S : Sto} {l m : Nat} {xs ys : List Dv} (h : S[l]? = some (.lst xs)) (h2 : S[m]? = some (.lst ys)) (hl : xs.length + ys.length ≤ sizeLine) : addD (.ref l) (.ref m) S = newL (xs ++ ys) S := by simp only [addD, h, h2, hl, ↓reduceIte]
theorem cells_run {f : Nat} {ns : List Int} {s : Int} {S : Sto} (hns : ns.length ≤ 63) (s0 : 0 ≤ s) (s1 : s ≤ 1) : ∃ (l : Nat) (xs : List Int) (S' : Sto), F (f + 2) .l_cells [.fl (ns.map .int), .int s] S = .ok (.ref l) S' ∧ Gr S S' ∧ S.length ≤ l ∧ S'[l]? = some (.lst (xs.map .int)) ∧ xs.length ≤ 100 ∧ 6 ≤ xs.length := by
  rw [F_l_cells]
  have ln : ∀ S, lenD [.fl (ns.map .int)] S = .ok (.int (ns.map Dv.int).length) S := fun S => len_lst rfl
  have nl : (ns.map Dv.int).length = ns.length := List.length_map _
  obtain ⟨acc, S1, e1, hS, xs, rfl, hx⟩ := comp_gen (ck := Ck.tt.ok) (t := .nm 3) (c := cYes) (y := y_l_cells_1 (F (f + 1))) (acc := []) (S := S) (fun i acc S' => S' = S ∧ ∃ xs : List Int, acc = xs.map .int ∧ xs.length = i) (upL2 s (min ((ns.map Dv.int).length : Int) 64)) [some (.fl (ns.map .int)), some (.int s), none, none]
    (fun i d acc S' hd ⟨hS, xs, ha, hx⟩ => by
      subst hS
      obtain ⟨rfl, hlt⟩ := upL2_get hd
      obtain ⟨j, hj⟩ := Int.eq_ofNat_of_zero_le (show 0 ≤ s + 2 * (i : Int) by omega)
      have hjl : j < ns.length := by omega
      have ix : idxD (.fl (ns.map .int)) (.int (s + 2 * (i : Int))) S' = .ok (.int ns[j]) S' := by
        rw [hj]; exact idx_lst rfl (atI_nat (by rw [List.getElem?_map, List.getElem?_eq_getElem hjl]; rfl))
      refine ⟨trivial, _, rfl, true, S', rfl, fun _ => ⟨.int ns[j], S', by simp only [y_l_cells_1, ev_var, ev_con, ev_bin, ev_un, ev_anil, ev_acons, ev_call, ev_tup, ev_lst, ev_not, ev_and, ev_or, ev_if, ev_cbl, ev_btrue, ev_cand, ev_cor, ev_cnot, ev_sli, ev_onone, ev_osome, ev_chain, ev_meth, ev_get2, ev_newK, ev_newT, ev_own, ev_nil, ev_seq, ev_expr, ev_set, ev_ret, ev_retN, ev_cif, ev_brk, ev_ct, ev_asg, ev_put, ev_aug, ev_for, ev_comp, ev_newL, ev_iseq, ev_irange, ev_ienum, ev_yes, Out.bind_ok, Out.bindN_ok, bindS_ok, Tg.set, Tg.sets, List.getElem?_cons_zero, List.getElem?_cons_succ, List.set_cons_zero, List.set_cons_succ, wipeE, List.length_cons, List.length_nil, Nat.reduceAdd, Nat.reduceLeDiff, Nat.reduceEqDiff, ↓reduceIte, Bool.false_eq_true, decide_eq_true_eq, add_int, sub_int, lt_int, gt_int, le_int, ge_int, neg_int, and_int, or_int, xor_int, max2_int, min2_int, mod_pos, fdiv_sm, mul_sm, mul_smr, Int.reduceLT, Int.reduceNeg, int_bl, int_int, sli_tup, ix], ?_, rfl, xs ++ [ns[j]], by simp [ha], by simp [hx]⟩, fun z => nomatch z⟩
      rw [ha, List.length_map]; show _ < 2 ^ 24; omega) (fun _ _ _ => trivial) ⟨rfl, [], rfl, rfl⟩
  subst hS
  rw [upL2_len] at hx
  have g1 := gr_app S1 [.lst (xs.map .int)]
  have xl : (xs.map Dv.int).length = xs.length := List.length_map _
  obtain ⟨acc, S2, e2, hS, ys, rfl, hy⟩ := comp_gen (ck := Ck.tt.ok) (t := .nm 3) (c := cYes) (y := y_l_cells_2 (F (f + 1))) (acc := []) (S := S1 ++ [.lst (xs.map .int)]) (fun i acc S' => S' = S1 ++ [.lst (xs.map .int)] ∧ ∃ ys : List Int, acc = ys.map .int ∧ ys.length = i) (rangeL 0 (6 - ((xs.map Dv.int).length : Int))) [some (.fl (ns.map .int)), some (.int s), some (.ref S1.length), none]
    (fun i d acc S' hd ⟨hS, ys, ha, hy⟩ => by
      subst hS
      obtain ⟨rfl, hlt⟩ := rangeL_get hd
      refine ⟨trivial, _, rfl, true, _, rfl, fun _ => ⟨.int (mx ((ns.map Dv.int).length : Int) (40 + s + (0 + i))), _, by simp only [y_l_cells_2, ev_var, ev_con, ev_bin, ev_un, ev_anil, ev_acons, ev_call, ev_tup, ev_lst, ev_not, ev_and, ev_or, ev_if, ev_cbl, ev_btrue, ev_cand, ev_cor, ev_cnot, ev_sli, ev_onone, ev_osome, ev_chain, ev_meth, ev_get2, ev_newK, ev_newT, ev_own, ev_nil, ev_seq, ev_expr, ev_set, ev_ret, ev_retN, ev_cif, ev_brk, ev_ct, ev_asg, ev_put, ev_aug, ev_for, ev_comp, ev_newL, ev_iseq, ev_irange, ev_ienum, ev_yes, Out.bind_ok, Out.bindN_ok, bindS_ok, Tg.set, Tg.sets, List.getElem?_cons_zero, List.getElem?_cons_succ, List.set_cons_zero, List.set_cons_succ, wipeE, List.length_cons, List.length_nil, Nat.reduceAdd, Nat.reduceLeDiff, Nat.reduceEqDiff, ↓reduceIte, Bool.false_eq_true, decide_eq_true_eq, add_int, sub_int, lt_int, gt_int, le_int, ge_int, neg_int, and_int, or_int, xor_int, max2_int, min2_int, mod_pos, fdiv_sm, mul_sm, mul_smr, Int.reduceLT, Int.reduceNeg, int_bl, int_int, sli_tup, ln, mix_run (f := f) (c := ((ns.map Dv.int).length : Int)) (k := 40 + s + (0 + i)) (by omega) (by omega)], ?_, rfl, ys ++ [_], by rw [ha, List.map_append]; rfl, by simp [hy]⟩, fun z => nomatch z⟩
      rw [ha, List.length_map]; show _ < 2 ^ 24; omega) (fun _ _ _ => trivial) ⟨rfl, [], rfl, rfl⟩
  subst hS
  rw [rangeL_len] at hy
  have g2 := gr_app (S1 ++ [Ob.lst (xs.map .int)]) [.lst (ys.map .int)]
  have g3 := gr_app (S1 ++ [Ob.lst (xs.map .int)] ++ [Ob.lst (ys.map .int)]) [.lst (xs.map .int ++ ys.map .int)]
  have ea := add_ref (g2.at (at_new S1 (.lst (xs.map .int)))) (at_new (S1 ++ [Ob.lst (xs.map .int)]) (.lst (ys.map .int))) (sline _ (by rw [List.length_map, List.length_map]; omega))
  refine ⟨(S1 ++ [Ob.lst (xs.map .int)] ++ [Ob.lst (ys.map .int)]).length, xs ++ ys, _, runF_rt (ρ := [some (.fl (ns.map .int)), some (.int s), none, none]) rfl rfl ?_, (g1.trans g2).trans g3, (g1.trans g2).le, by rw [List.map_append]; exact at_new _ _, by rw [List.length_append]; omega, by rw [List.length_append]; rw [List.length_map] at hy; omega⟩
  unfold c_l_cells
  refine (seq_of (set_of (d := .ref S1.length) (S' := S1 ++ [Ob.lst (xs.map .int)]) (by simp only [ev_var, ev_con, ev_bin, ev_un, ev_anil, ev_acons, ev_call, ev_tup, ev_lst, ev_not, ev_and, ev_or, ev_if, ev_cbl, ev_btrue, ev_cand, ev_cor, ev_cnot, ev_sli, ev_onone, ev_osome, ev_chain, ev_meth, ev_get2, ev_newK, ev_newT, ev_own, ev_nil, ev_seq, ev_expr, ev_set, ev_ret, ev_retN, ev_cif, ev_brk, ev_ct, ev_asg, ev_put, ev_aug, ev_for, ev_comp, ev_newL, ev_iseq, ev_irange, ev_ienum, ev_yes, Out.bind_ok, Out.bindN_ok, bindS_ok, Tg.set, Tg.sets, List.getElem?_cons_zero, List.getElem?_cons_succ, List.set_cons_zero, List.set_cons_succ, wipeE, List.length_cons, List.length_nil, Nat.reduceAdd, Nat.reduceLeDiff, Nat.reduceEqDiff, ↓reduceIte, Bool.false_eq_true, decide_eq_true_eq, add_int, sub_int, lt_int, gt_int, le_int, ge_int, neg_int, and_int, or_int, xor_int, max2_int, min2_int, mod_pos, fdiv_sm, mul_sm, mul_smr, Int.reduceLT, Int.reduceNeg, int_bl, int_int, sli_tup, ln, rngS_of (i := s) (j := min ((ns.map Dv.int).length : Int) 64) (by omega) (by omega) (by omega) (by omega), e1]))).trans ?_
  exact ret_of (by simp only [ev_var, ev_con, ev_bin, ev_un, ev_anil, ev_acons, ev_call, ev_tup, ev_lst, ev_not, ev_and, ev_or, ev_if, ev_cbl, ev_btrue, ev_cand, ev_cor, ev_cnot, ev_sli, ev_onone, ev_osome, ev_chain, ev_meth, ev_get2, ev_newK, ev_newT, ev_own, ev_nil, ev_seq, ev_expr, ev_set, ev_ret, ev_retN, ev_cif, ev_brk, ev_ct, ev_asg, ev_put, ev_aug, ev_for, ev_comp, ev_newL, ev_iseq, ev_irange, ev_ienum, ev_yes, Out.bind_ok, Out.bindN_ok, bindS_ok, Tg.set, Tg.sets, List.getElem?_cons_zero, List.getElem?_cons_succ, List.set_cons_zero, List.set_cons_succ, wipeE, List.length_cons, List.length_nil, Nat.reduceAdd, Nat.reduceLeDiff, Nat.reduceEqDiff, ↓reduceIte, Bool.false_eq_true, decide_eq_true_eq, add_int, sub_int, lt_int, gt_int, le_int, ge_int, neg_int, and_int, or_int, xor_int, max2_int, min2_int, mod_pos, fdiv_sm, mul_sm, mul_smr, Int.reduceLT, Int.reduceNeg, int_bl, int_int, sli_tup, len_ref (at_new S1 (.lst (xs.map .int))), rng1_any (i := 6 - ((xs.map Dv.int).length : Int)) (by omega) (by omega), e2, ea])
theorem cut_sk {x : Str} {lo hi : Option Int} (h : Sk x) : Sk (L2.cutS x lo hi) := by
  have hx : ∀ c ∈ x.cps.toList, c < 1114112 := fun c hc => by
    have h' : x.cps.all (fun c => decide (c < 1114112)) = true := h
    rw [← Array.all_toList, List.all_eq_true] at h'
    exact of_decide_eq_true (h' c hc)
  refine sk_of fun c hc => hx c ?_
  have : c ∈ (List.take _ (List.drop _ x.cps.toList)).toArray.toList := hc
  rw [List.toList_toArray] at this
  exact List.mem_of_mem_drop (List.mem_of_mem_take this)
structure Nms (S : Sto) (l : Nat) (names : List Str) : Prop where
  h : S[l]? = some (.lst (names.map .str))
  len : names.length = 5
  sk : ∀ x ∈ names, Sk x
theorem Nms.gr {S S' : Sto} {l : Nat} {names : List Str} (h : Nms S l names) (g : Gr S S') : Nms S' l names := ⟨g.at h.h, h.len, h.sk⟩
theorem names_run {f : Nat} {c : Int} {S : Sto} : ∃ (l : Nat) (names : List Str) (S' : Sto), F (f + 2) .l_names [.int c] S = .ok (.ref l) S' ∧ Gr S S' ∧ S.length ≤ l ∧ Nms S' l names := by
  rw [F_l_names]
  have ha : ((abc.length : Nat) : Int) = 26 := by decide
  have hal : abc.length ≤ sizeLine := sline _ (by omega)
  have lt (i : Int) (S : Sto) := idx_smod (S := S) ha (by omega) hal i
  have sk1 : ∀ n, n ∈ abc.cps.toList → Sk ⟨#[n]⟩ := fun n hn => sk_of fun c hc => by simp at hc; subst hc; exact abc_lt _ hn
  have ea : ("abcdefghijklmnopqrstuvwxyz" : Str) = abc := rfl
  have g0 := gr_app S [.lst []]
  have m40 (S : Sto) := mix_run (f := f) (c := c) (k := 40) (S := S) (by omega) (by omega)
  have m41 (S : Sto) := mix_run (f := f) (c := c) (k := 41) (S := S) (by omega) (by omega)
  have m42 (S : Sto) := mix_run (f := f) (c := c) (k := 42) (S := S) (by omega) (by omega)
  have m43 (S : Sto) := mix_run (f := f) (c := c) (k := 43) (S := S) (by omega) (by omega)
  by_cases q : mx c 40 % 3 = 0
  · obtain ⟨ρ', S', e, v6, w, rfl, rfl, hwl, hws⟩ := loop_all (ck := Ck.tt.ok) (t := .nm 6) (b := b_l_names_1 (F (f + 1))) (S := S ++ [.lst []]) (ρ := [some (.int c), some (.ref S.length), none, none, none, some (.str "q"), none, none])
      (fun i ρ S' => ∃ (v6 : Option Dv) (w : Str), ρ = [some (.int c), some (.ref S.length), none, none, none, some (.str w), v6, none] ∧ S' = S ++ [.lst []] ∧ w.length = 1 + i ∧ Sk w) (rangeL 0 7) ⟨none, "q", rfl, rfl, rfl, by decide +kernel⟩
      (fun i v ρ S' hv ⟨v6, w, hρ, hS, hwl, hws⟩ => by
        subst hρ hS
        obtain ⟨rfl, hlt⟩ := rangeL_get hv
        obtain ⟨n, hn, en⟩ := lt (mx c (32 + (0 + i))) (S ++ [Ob.lst []])
        have al : addD (.str w) (.str ⟨#[n]⟩) (S ++ [Ob.lst []]) = .ok (.str (w ++ ⟨#[n]⟩)) (S ++ [Ob.lst []]) := add_str (sline _ (by show w.length + 1 ≤ _; omega))
        refine ⟨trivial, _, rfl, [some (.int c), some (.ref S.length), none, none, none, some (.str (w ++ ⟨#[n]⟩)), some (.int (0 + i)), none], _, .inl ?_, _, _, rfl, rfl, by rw [strlen_app, hwl]; show 1 + i + 1 = _; omega, sk_app hws (sk1 n hn)⟩
        unfold b_l_names_1
        refine set_of ?_
        simp only [ev_var, ev_con, ev_bin, ev_un, ev_anil, ev_acons, ev_call, ev_tup, ev_lst, ev_not, ev_and, ev_or, ev_if, ev_cbl, ev_btrue, ev_cand, ev_cor, ev_cnot, ev_sli, ev_onone, ev_osome, ev_chain, ev_meth, ev_get2, ev_newK, ev_newT, ev_own, ev_nil, ev_seq, ev_expr, ev_set, ev_ret, ev_retN, ev_cif, ev_brk, ev_ct, ev_asg, ev_put, ev_aug, ev_for, ev_comp, ev_newL, ev_iseq, ev_irange, ev_ienum, ev_yes, Out.bind_ok, Out.bindN_ok, bindS_ok, Tg.set, Tg.sets, List.getElem?_cons_zero, List.getElem?_cons_succ, List.set_cons_zero, List.set_cons_succ, wipeE, List.length_cons, List.length_nil, Nat.reduceAdd, Nat.reduceLeDiff, Nat.reduceEqDiff, ↓reduceIte, Bool.false_eq_true, decide_eq_true_eq, add_int, sub_int, lt_int, gt_int, le_int, ge_int, neg_int, and_int, or_int, xor_int, max2_int, min2_int, mod_pos, fdiv_sm, mul_sm, mul_smr, Int.reduceLT, Int.reduceNeg, int_bl, int_int, sli_tup, mix_run (f := f) (c := c) (k := 32 + (0 + (i : Int))) (by omega) (by omega), ea, en, al])
      (fun _ _ _ => trivial)
    rw [rangeL_len] at hwl
    have h43 := mx_pos c 43
    obtain ⟨acc, S2, e2, hS, ys, rfl, hy, hys⟩ := comp_gen (ck := Ck.tt.ok) (t := .nm 4) (c := cYes) (y := y_l_names_2 (F (f + 1))) (acc := []) (S := S ++ [.lst []]) (fun i acc S' => S' = S ++ [.lst []] ∧ ∃ ys : List Str, acc = ys.map .str ∧ ys.length = i ∧ ∀ y ∈ ys, Sk y) (rangeL 0 5) [some (.int c), some (.ref S.length), none, none, none, some (.str w), v6, none]
      (fun i d acc S' hd ⟨hS, ys, ha, hy, hys⟩ => by
        subst hS
        obtain ⟨rfl, hlt⟩ := rangeL_get hd
        have es : sliD (.str w) none (some (1 + mx c 43 % 4 + (0 + i))) (S ++ [Ob.lst []]) = .ok (.str (L2.cutS w none (some (1 + mx c 43 % 4 + (0 + i))))) (S ++ [Ob.lst []]) := by simp only [sliD, sline w.length (by omega), ↓reduceIte]
        refine ⟨trivial, _, rfl, true, _, rfl, fun _ => ⟨_, _, by simp only [y_l_names_2, ev_var, ev_con, ev_bin, ev_un, ev_anil, ev_acons, ev_call, ev_tup, ev_lst, ev_not, ev_and, ev_or, ev_if, ev_cbl, ev_btrue, ev_cand, ev_cor, ev_cnot, ev_sli, ev_onone, ev_osome, ev_chain, ev_meth, ev_get2, ev_newK, ev_newT, ev_own, ev_nil, ev_seq, ev_expr, ev_set, ev_ret, ev_retN, ev_cif, ev_brk, ev_ct, ev_asg, ev_put, ev_aug, ev_for, ev_comp, ev_newL, ev_iseq, ev_irange, ev_ienum, ev_yes, Out.bind_ok, Out.bindN_ok, bindS_ok, Tg.set, Tg.sets, List.getElem?_cons_zero, List.getElem?_cons_succ, List.set_cons_zero, List.set_cons_succ, wipeE, List.length_cons, List.length_nil, Nat.reduceAdd, Nat.reduceLeDiff, Nat.reduceEqDiff, ↓reduceIte, Bool.false_eq_true, decide_eq_true_eq, add_int, sub_int, lt_int, gt_int, le_int, ge_int, neg_int, and_int, or_int, xor_int, max2_int, min2_int, mod_pos, fdiv_sm, mul_sm, mul_smr, Int.reduceLT, Int.reduceNeg, int_bl, int_int, sli_tup, m43, es]; rfl, ?_, rfl, ys ++ [L2.cutS w none (some (1 + mx c 43 % 4 + (0 + i)))], by rw [ha, List.map_append]; rfl, by simp [hy], fun y hy' => ?_⟩, fun z => nomatch z⟩
        · rw [ha, List.length_map]; show _ < 2 ^ 24; omega
        · rcases List.mem_append.mp hy' with hy' | hy'
          · exact hys y hy'
          · rw [List.mem_singleton] at hy'; subst hy'; exact cut_sk hws) (fun _ _ _ => trivial) ⟨rfl, [], rfl, rfl, by simp⟩
    subst hS
    rw [rangeL_len] at hy
    refine ⟨(S ++ [Ob.lst []]).length, ys, _, runF_rt (ρ := [some (.int c), none, none, none, none, none, none, none]) rfl rfl ?_, g0.trans (gr_app _ [.lst (ys.map .str)]), g0.le, ⟨at_new _ _, hy, hys⟩⟩
    unfold c_l_names
    refine (seq_of (by simp only [ev_var, ev_con, ev_bin, ev_un, ev_anil, ev_acons, ev_call, ev_tup, ev_lst, ev_not, ev_and, ev_or, ev_if, ev_cbl, ev_btrue, ev_cand, ev_cor, ev_cnot, ev_sli, ev_onone, ev_osome, ev_chain, ev_meth, ev_get2, ev_newK, ev_newT, ev_own, ev_nil, ev_seq, ev_expr, ev_set, ev_ret, ev_retN, ev_cif, ev_brk, ev_ct, ev_asg, ev_put, ev_aug, ev_for, ev_comp, ev_newL, ev_iseq, ev_irange, ev_ienum, ev_yes, Out.bind_ok, Out.bindN_ok, bindS_ok, Tg.set, Tg.sets, List.getElem?_cons_zero, List.getElem?_cons_succ, List.set_cons_zero, List.set_cons_succ, wipeE, List.length_cons, List.length_nil, Nat.reduceAdd, Nat.reduceLeDiff, Nat.reduceEqDiff, ↓reduceIte, Bool.false_eq_true, decide_eq_true_eq, add_int, sub_int, lt_int, gt_int, le_int, ge_int, neg_int, and_int, or_int, xor_int, max2_int, min2_int, mod_pos, fdiv_sm, mul_sm, mul_smr, Int.reduceLT, Int.reduceNeg, int_bl, int_int, sli_tup, sline 0 (by omega)]; rfl)).trans ?_
    refine seq_rt ((if_t (S' := S ++ [Ob.lst []]) (by simp only [ev_var, ev_con, ev_bin, ev_un, ev_anil, ev_acons, ev_call, ev_tup, ev_lst, ev_not, ev_and, ev_or, ev_if, ev_cbl, ev_btrue, ev_cand, ev_cor, ev_cnot, ev_sli, ev_onone, ev_osome, ev_chain, ev_meth, ev_get2, ev_newK, ev_newT, ev_own, ev_nil, ev_seq, ev_expr, ev_set, ev_ret, ev_retN, ev_cif, ev_brk, ev_ct, ev_asg, ev_put, ev_aug, ev_for, ev_comp, ev_newL, ev_iseq, ev_irange, ev_ienum, ev_yes, Out.bind_ok, Out.bindN_ok, bindS_ok, Tg.set, Tg.sets, List.getElem?_cons_zero, List.getElem?_cons_succ, List.set_cons_zero, List.set_cons_succ, wipeE, List.length_cons, List.length_nil, Nat.reduceAdd, Nat.reduceLeDiff, Nat.reduceEqDiff, ↓reduceIte, Bool.false_eq_true, decide_eq_true_eq, add_int, sub_int, lt_int, gt_int, le_int, ge_int, neg_int, and_int, or_int, xor_int, max2_int, min2_int, mod_pos, fdiv_sm, mul_sm, mul_smr, Int.reduceLT, Int.reduceNeg, int_bl, int_int, sli_tup, m40, eq_int, q, decide_true])).trans ?_)
    refine (seq_of (set_of rfl)).trans ?_
    refine (seq_of ((for_of (w := (rangeL 0 7, .tt)) (S' := S ++ [Ob.lst []]) (by simp only [ev_var, ev_con, ev_bin, ev_un, ev_anil, ev_acons, ev_call, ev_tup, ev_lst, ev_not, ev_and, ev_or, ev_if, ev_cbl, ev_btrue, ev_cand, ev_cor, ev_cnot, ev_sli, ev_onone, ev_osome, ev_chain, ev_meth, ev_get2, ev_newK, ev_newT, ev_own, ev_nil, ev_seq, ev_expr, ev_set, ev_ret, ev_retN, ev_cif, ev_brk, ev_ct, ev_asg, ev_put, ev_aug, ev_for, ev_comp, ev_newL, ev_iseq, ev_irange, ev_ienum, ev_yes, Out.bind_ok, Out.bindN_ok, bindS_ok, Tg.set, Tg.sets, List.getElem?_cons_zero, List.getElem?_cons_succ, List.set_cons_zero, List.set_cons_succ, wipeE, List.length_cons, List.length_nil, Nat.reduceAdd, Nat.reduceLeDiff, Nat.reduceEqDiff, ↓reduceIte, Bool.false_eq_true, decide_eq_true_eq, add_int, sub_int, lt_int, gt_int, le_int, ge_int, neg_int, and_int, or_int, xor_int, max2_int, min2_int, mod_pos, fdiv_sm, mul_sm, mul_smr, Int.reduceLT, Int.reduceNeg, int_bl, int_int, sli_tup, rng1_of (i := 7) (by omega) (by omega)])).trans e)).trans ?_
    exact ret_of (by simp only [ev_var, ev_con, ev_bin, ev_un, ev_anil, ev_acons, ev_call, ev_tup, ev_lst, ev_not, ev_and, ev_or, ev_if, ev_cbl, ev_btrue, ev_cand, ev_cor, ev_cnot, ev_sli, ev_onone, ev_osome, ev_chain, ev_meth, ev_get2, ev_newK, ev_newT, ev_own, ev_nil, ev_seq, ev_expr, ev_set, ev_ret, ev_retN, ev_cif, ev_brk, ev_ct, ev_asg, ev_put, ev_aug, ev_for, ev_comp, ev_newL, ev_iseq, ev_irange, ev_ienum, ev_yes, Out.bind_ok, Out.bindN_ok, bindS_ok, Tg.set, Tg.sets, List.getElem?_cons_zero, List.getElem?_cons_succ, List.set_cons_zero, List.set_cons_succ, wipeE, List.length_cons, List.length_nil, Nat.reduceAdd, Nat.reduceLeDiff, Nat.reduceEqDiff, ↓reduceIte, Bool.false_eq_true, decide_eq_true_eq, add_int, sub_int, lt_int, gt_int, le_int, ge_int, neg_int, and_int, or_int, xor_int, max2_int, min2_int, mod_pos, fdiv_sm, mul_sm, mul_smr, Int.reduceLT, Int.reduceNeg, int_bl, int_int, sli_tup, rng1_of (i := 5) (by omega) (by omega), e2])
  · have h41 := mx_pos c 41
    have w0 := Int.emod_nonneg (mx c 41) (b := 8) (by omega)
    have w1 := Int.emod_lt_of_pos (mx c 41) (b := 8) (by omega)
    generalize hw : 1 + mx c 41 % 8 = w at *
    have md : ∀ S : Sto, modD (.int (mx c 42)) (.int w) S = .ok (.int (mx c 42 % w)) S := fun S => mod_pos (by omega)
    generalize mx c 42 % w = pl at md
    obtain ⟨ρ', S', e, v4, v6, v7, ys, rfl, f', hx, hy, hys⟩ := loop_all (ck := Ck.tt.ok) (t := .nm 4) (b := b_l_names_4 (F (f + 1))) (S := S ++ [.lst []]) (ρ := [some (.int c), some (.ref S.length), some (.int w), some (.int pl), none, none, none, none])
      (fun i ρ S' => ∃ (v4 v6 v7 : Option Dv) (ys : List Str), ρ = [some (.int c), some (.ref S.length), some (.int w), some (.int pl), v4, none, v6, v7] ∧ Fr (· = S.length) (S ++ [.lst []]) S' ∧ S'[S.length]? = some (.lst (ys.map .str)) ∧ ys.length = i ∧ ∀ y ∈ ys, Sk y) (rangeL 0 5) ⟨none, none, none, [], rfl, .refl _, at_new _ _, rfl, by simp⟩
      (fun i v ρ S2 hv ⟨v4, v6, v7, ys, hρ, f', hx, hy, hys⟩ => by
        subst hρ
        obtain ⟨rfl, hlt⟩ := rangeL_get hv
        refine ⟨trivial, _, rfl, ?_⟩
        obtain ⟨ρ3, S3, e3, u6, x, rfl, rfl, hxl, hxs⟩ := loop_all (ck := Ck.tt.ok) (t := .nm 6) (b := b_l_names_3 (F (f + 1))) (S := S2) (ρ := [some (.int c), some (.ref S.length), some (.int w), some (.int pl), some (.int (0 + i)), none, v6, some (.str "")])
          (fun j ρ S' => ∃ (u6 : Option Dv) (x : Str), ρ = [some (.int c), some (.ref S.length), some (.int w), some (.int pl), some (.int (0 + i)), none, u6, some (.str x)] ∧ S' = S2 ∧ x.length = j ∧ Sk x) (rangeL 0 w) ⟨_, "", rfl, rfl, rfl, by decide +kernel⟩
          (fun j v ρ S3 hv ⟨u6, x, hρ, hS, hxl, hxs⟩ => by
            subst hρ hS
            obtain ⟨rfl, hlt⟩ := rangeL_get hv
            obtain ⟨n, hn, en⟩ := lt (mx c (32 + (0 + j)) + (0 + i) * (if decide ((0 + j : Int) = pl) = true then 1 else 0)) S3
            have al : addD (.str x) (.str ⟨#[n]⟩) S3 = .ok (.str (x ++ ⟨#[n]⟩)) S3 := add_str (sline _ (by show x.length + 1 ≤ _; omega))
            have mu : mulD (.int (0 + i)) (.int (if decide ((0 + j : Int) = pl) = true then 1 else 0)) S3 = .ok (.int ((0 + i) * (if decide ((0 + j : Int) = pl) = true then 1 else 0))) S3 := mul_l (by omega)
            refine ⟨trivial, _, rfl, [some (.int c), some (.ref S.length), some (.int w), some (.int pl), some (.int (0 + i)), none, some (.int (0 + j)), some (.str (x ++ ⟨#[n]⟩))], S3, .inl ?_, _, _, rfl, rfl, by rw [strlen_app, hxl]; rfl, sk_app hxs (sk1 n hn)⟩
            unfold b_l_names_3
            refine set_of ?_
            have ib : ∀ b : Bool, intD [.bl b] S3 = .ok (.int (if b = true then 1 else 0)) S3 := fun b => int_bl b
            have m32 := mix_run (f := f) (c := c) (k := 32 + (0 + (j : Int))) (S := S3) (by omega) (by omega)
            simp only [ev_bin, ev_var, ev_con, ev_own, ev_acons, ev_anil, ev_call, Out.bind_ok, List.getElem?_cons_zero, List.getElem?_cons_succ, List.set_cons_zero, List.set_cons_succ, List.length_cons, List.length_nil, Nat.reduceAdd, ↓reduceIte, add_int, m32, eq_int, ib, mu, mod_pos (show (0 : Int) < 26 by omega), ea, en, al])
          (fun _ _ _ => trivial)
        rw [rangeL_len] at hxl
        have g3 := gr_app S3 [.lst (takenW.map .str)]
        have mem : memq (S3 ++ [.lst (takenW.map .str)]) (.str x) (.ref S3.length) = some (decide (x ∈ takenW)) := mem_strs (at_new _ _) (by decide +kernel) hxs
        have s12 : (takenW.map Dv.str).length ≤ sizeLine := sline 12 (by omega)
        have et : ([.str "start", .str "rule", .str "row", .str "mix", .str "many", .str "any", .str "kind", .str "not", .str "both", .str "either", .str "way", .str "mark"] : List Dv) = takenW.map .str := rfl
        have key : ∃ z : Str, Sk z ∧ (cIf (cBl (eBin inD (eVar 7) (eLst (aCons (eCon (.str "start")) (aCons (eCon (.str "rule")) (aCons (eCon (.str "row")) (aCons (eCon (.str "mix")) (aCons (eCon (.str "many")) (aCons (eCon (.str "any")) (aCons (eCon (.str "kind")) (aCons (eCon (.str "not")) (aCons (eCon (.str "both")) (aCons (eCon (.str "either")) (aCons (eCon (.str "way")) (aCons (eCon (.str "mark")) (aNil)))))))))))))))) (cSet 7 (eBin addD (eVar 7) (eCon (.str "z")))) (cNil)) [some (.int c), some (.ref S.length), some (.int w), some (.int pl), some (.int (0 + i)), none, u6, some (.str x)] S3 = .fl (.nx [some (.int c), some (.ref S.length), some (.int w), some (.int pl), some (.int (0 + i)), none, u6, some (.str z)]) (S3 ++ [Ob.lst (takenW.map .str)]) := by
          by_cases q : x ∈ takenW
          · refine ⟨x ++ "z", sk_app hxs (by decide +kernel), (if_t (S' := S3 ++ [Ob.lst (takenW.map .str)]) ?_).trans (set_of ?_)⟩
            · simp only [ev_var, ev_con, ev_bin, ev_un, ev_anil, ev_acons, ev_call, ev_tup, ev_lst, ev_not, ev_and, ev_or, ev_if, ev_cbl, ev_btrue, ev_cand, ev_cor, ev_cnot, ev_sli, ev_onone, ev_osome, ev_chain, ev_meth, ev_get2, ev_newK, ev_newT, ev_own, ev_nil, ev_seq, ev_expr, ev_set, ev_ret, ev_retN, ev_cif, ev_brk, ev_ct, ev_asg, ev_put, ev_aug, ev_for, ev_comp, ev_newL, ev_iseq, ev_irange, ev_ienum, ev_yes, Out.bind_ok, Out.bindN_ok, bindS_ok, Tg.set, Tg.sets, List.getElem?_cons_zero, List.getElem?_cons_succ, List.set_cons_zero, List.set_cons_succ, wipeE, List.length_cons, List.length_nil, Nat.reduceAdd, Nat.reduceLeDiff, Nat.reduceEqDiff, ↓reduceIte, Bool.false_eq_true, decide_eq_true_eq, add_int, sub_int, lt_int, gt_int, le_int, ge_int, neg_int, and_int, or_int, xor_int, max2_int, min2_int, mod_pos, fdiv_sm, mul_sm, mul_smr, Int.reduceLT, Int.reduceNeg, int_bl, int_int, sli_tup, inD, s12, et, mem, q, decide_true]
            · have : addD (.str x) (.str "z") (S3 ++ [Ob.lst (takenW.map .str)]) = .ok (.str (x ++ "z")) (S3 ++ [Ob.lst (takenW.map .str)]) := add_str (sline _ (by show x.length + 1 ≤ _; omega))
              simp only [ev_var, ev_con, ev_bin, ev_un, ev_anil, ev_acons, ev_call, ev_tup, ev_lst, ev_not, ev_and, ev_or, ev_if, ev_cbl, ev_btrue, ev_cand, ev_cor, ev_cnot, ev_sli, ev_onone, ev_osome, ev_chain, ev_meth, ev_get2, ev_newK, ev_newT, ev_own, ev_nil, ev_seq, ev_expr, ev_set, ev_ret, ev_retN, ev_cif, ev_brk, ev_ct, ev_asg, ev_put, ev_aug, ev_for, ev_comp, ev_newL, ev_iseq, ev_irange, ev_ienum, ev_yes, Out.bind_ok, Out.bindN_ok, bindS_ok, Tg.set, Tg.sets, List.getElem?_cons_zero, List.getElem?_cons_succ, List.set_cons_zero, List.set_cons_succ, wipeE, List.length_cons, List.length_nil, Nat.reduceAdd, Nat.reduceLeDiff, Nat.reduceEqDiff, ↓reduceIte, Bool.false_eq_true, decide_eq_true_eq, add_int, sub_int, lt_int, gt_int, le_int, ge_int, neg_int, and_int, or_int, xor_int, max2_int, min2_int, mod_pos, fdiv_sm, mul_sm, mul_smr, Int.reduceLT, Int.reduceNeg, int_bl, int_int, sli_tup, this]
          · refine ⟨x, hxs, (if_f (S' := S3 ++ [Ob.lst (takenW.map .str)]) ?_).trans rfl⟩
            simp only [ev_var, ev_con, ev_bin, ev_un, ev_anil, ev_acons, ev_call, ev_tup, ev_lst, ev_not, ev_and, ev_or, ev_if, ev_cbl, ev_btrue, ev_cand, ev_cor, ev_cnot, ev_sli, ev_onone, ev_osome, ev_chain, ev_meth, ev_get2, ev_newK, ev_newT, ev_own, ev_nil, ev_seq, ev_expr, ev_set, ev_ret, ev_retN, ev_cif, ev_brk, ev_ct, ev_asg, ev_put, ev_aug, ev_for, ev_comp, ev_newL, ev_iseq, ev_irange, ev_ienum, ev_yes, Out.bind_ok, Out.bindN_ok, bindS_ok, Tg.set, Tg.sets, List.getElem?_cons_zero, List.getElem?_cons_succ, List.set_cons_zero, List.set_cons_succ, wipeE, List.length_cons, List.length_nil, Nat.reduceAdd, Nat.reduceLeDiff, Nat.reduceEqDiff, ↓reduceIte, Bool.false_eq_true, decide_eq_true_eq, add_int, sub_int, lt_int, gt_int, le_int, ge_int, neg_int, and_int, or_int, xor_int, max2_int, min2_int, mod_pos, fdiv_sm, mul_sm, mul_smr, Int.reduceLT, Int.reduceNeg, int_bl, int_int, sli_tup, inD, s12, et, mem, q, decide_false]
        obtain ⟨z, hz, ez⟩ := key
        have hx3 := g3.at hx
        refine ⟨[some (.int c), some (.ref S.length), some (.int w), some (.int pl), some (.int (0 + i)), none, u6, some (.str z)], (S3 ++ [Ob.lst (takenW.map .str)]).set S.length (.lst ((ys ++ [z]).map .str)), .inl ?_, _, _, _, ys ++ [z], rfl, f'.trans (g3.any.trans (fr_set _ _ _)), at_set hx3, by simp [hy], fun y hy' => ?_⟩
        · unfold b_l_names_4
          refine (seq_of (set_of rfl)).trans ?_
          refine (seq_of ((for_of (w := (rangeL 0 w, .tt)) (S' := S3) (by simp only [ev_var, ev_con, ev_bin, ev_un, ev_anil, ev_acons, ev_call, ev_tup, ev_lst, ev_not, ev_and, ev_or, ev_if, ev_cbl, ev_btrue, ev_cand, ev_cor, ev_cnot, ev_sli, ev_onone, ev_osome, ev_chain, ev_meth, ev_get2, ev_newK, ev_newT, ev_own, ev_nil, ev_seq, ev_expr, ev_set, ev_ret, ev_retN, ev_cif, ev_brk, ev_ct, ev_asg, ev_put, ev_aug, ev_for, ev_comp, ev_newL, ev_iseq, ev_irange, ev_ienum, ev_yes, Out.bind_ok, Out.bindN_ok, bindS_ok, Tg.set, Tg.sets, List.getElem?_cons_zero, List.getElem?_cons_succ, List.set_cons_zero, List.set_cons_succ, wipeE, List.length_cons, List.length_nil, Nat.reduceAdd, Nat.reduceLeDiff, Nat.reduceEqDiff, ↓reduceIte, Bool.false_eq_true, decide_eq_true_eq, add_int, sub_int, lt_int, gt_int, le_int, ge_int, neg_int, and_int, or_int, xor_int, max2_int, min2_int, mod_pos, fdiv_sm, mul_sm, mul_smr, Int.reduceLT, Int.reduceNeg, int_bl, int_int, sli_tup, rng1_of (i := w) (by omega) (by omega)])).trans e3)).trans ?_
          refine (seq_of ez).trans ?_
          refine expr_of (d := .non) ?_
          have em : (ys ++ [z]).map Dv.str = ys.map .str ++ [.str z] := by rw [List.map_append]; rfl
          simp only [ev_var, ev_con, ev_bin, ev_un, ev_anil, ev_acons, ev_call, ev_tup, ev_lst, ev_not, ev_and, ev_or, ev_if, ev_cbl, ev_btrue, ev_cand, ev_cor, ev_cnot, ev_sli, ev_onone, ev_osome, ev_chain, ev_meth, ev_get2, ev_newK, ev_newT, ev_own, ev_nil, ev_seq, ev_expr, ev_set, ev_ret, ev_retN, ev_cif, ev_brk, ev_ct, ev_asg, ev_put, ev_aug, ev_for, ev_comp, ev_newL, ev_iseq, ev_irange, ev_ienum, ev_yes, Out.bind_ok, Out.bindN_ok, bindS_ok, Tg.set, Tg.sets, List.getElem?_cons_zero, List.getElem?_cons_succ, List.set_cons_zero, List.set_cons_succ, wipeE, List.length_cons, List.length_nil, Nat.reduceAdd, Nat.reduceLeDiff, Nat.reduceEqDiff, ↓reduceIte, Bool.false_eq_true, decide_eq_true_eq, add_int, sub_int, lt_int, gt_int, le_int, ge_int, neg_int, and_int, or_int, xor_int, max2_int, min2_int, mod_pos, fdiv_sm, mul_sm, mul_smr, Int.reduceLT, Int.reduceNeg, int_bl, int_int, sli_tup, tyq_ref hx3, app_ref hx3 (show (ys.map Dv.str).length < sizeLine by rw [List.length_map]; show _ < 2 ^ 24; omega), em]
        · rcases List.mem_append.mp hy' with hy' | hy'
          · exact hys y hy'
          · rw [List.mem_singleton] at hy'; subst hy'; exact hz)
      (fun _ _ _ => trivial)
    rw [rangeL_len] at hy
    refine ⟨S.length, ys, S', runF_rt (ρ := [some (.int c), none, none, none, none, none, none, none]) rfl rfl ?_, Gr.new g0 f' (fun l z => by omega), Nat.le_refl _, ⟨hx, hy, hys⟩⟩
    unfold c_l_names
    refine (seq_of (by simp only [ev_var, ev_con, ev_bin, ev_un, ev_anil, ev_acons, ev_call, ev_tup, ev_lst, ev_not, ev_and, ev_or, ev_if, ev_cbl, ev_btrue, ev_cand, ev_cor, ev_cnot, ev_sli, ev_onone, ev_osome, ev_chain, ev_meth, ev_get2, ev_newK, ev_newT, ev_own, ev_nil, ev_seq, ev_expr, ev_set, ev_ret, ev_retN, ev_cif, ev_brk, ev_ct, ev_asg, ev_put, ev_aug, ev_for, ev_comp, ev_newL, ev_iseq, ev_irange, ev_ienum, ev_yes, Out.bind_ok, Out.bindN_ok, bindS_ok, Tg.set, Tg.sets, List.getElem?_cons_zero, List.getElem?_cons_succ, List.set_cons_zero, List.set_cons_succ, wipeE, List.length_cons, List.length_nil, Nat.reduceAdd, Nat.reduceLeDiff, Nat.reduceEqDiff, ↓reduceIte, Bool.false_eq_true, decide_eq_true_eq, add_int, sub_int, lt_int, gt_int, le_int, ge_int, neg_int, and_int, or_int, xor_int, max2_int, min2_int, mod_pos, fdiv_sm, mul_sm, mul_smr, Int.reduceLT, Int.reduceNeg, int_bl, int_int, sli_tup, sline 0 (by omega)]; rfl)).trans ?_
    refine (seq_of ((if_f (S' := S ++ [Ob.lst []]) (by simp only [ev_var, ev_con, ev_bin, ev_un, ev_anil, ev_acons, ev_call, ev_tup, ev_lst, ev_not, ev_and, ev_or, ev_if, ev_cbl, ev_btrue, ev_cand, ev_cor, ev_cnot, ev_sli, ev_onone, ev_osome, ev_chain, ev_meth, ev_get2, ev_newK, ev_newT, ev_own, ev_nil, ev_seq, ev_expr, ev_set, ev_ret, ev_retN, ev_cif, ev_brk, ev_ct, ev_asg, ev_put, ev_aug, ev_for, ev_comp, ev_newL, ev_iseq, ev_irange, ev_ienum, ev_yes, Out.bind_ok, Out.bindN_ok, bindS_ok, Tg.set, Tg.sets, List.getElem?_cons_zero, List.getElem?_cons_succ, List.set_cons_zero, List.set_cons_succ, wipeE, List.length_cons, List.length_nil, Nat.reduceAdd, Nat.reduceLeDiff, Nat.reduceEqDiff, ↓reduceIte, Bool.false_eq_true, decide_eq_true_eq, add_int, sub_int, lt_int, gt_int, le_int, ge_int, neg_int, and_int, or_int, xor_int, max2_int, min2_int, mod_pos, fdiv_sm, mul_sm, mul_smr, Int.reduceLT, Int.reduceNeg, int_bl, int_int, sli_tup, m40, eq_int, q, decide_false])).trans rfl)).trans ?_
    refine (seq_of (set_of (d := .int w) (S' := S ++ [Ob.lst []]) (by simp only [ev_var, ev_con, ev_bin, ev_un, ev_anil, ev_acons, ev_call, ev_tup, ev_lst, ev_not, ev_and, ev_or, ev_if, ev_cbl, ev_btrue, ev_cand, ev_cor, ev_cnot, ev_sli, ev_onone, ev_osome, ev_chain, ev_meth, ev_get2, ev_newK, ev_newT, ev_own, ev_nil, ev_seq, ev_expr, ev_set, ev_ret, ev_retN, ev_cif, ev_brk, ev_ct, ev_asg, ev_put, ev_aug, ev_for, ev_comp, ev_newL, ev_iseq, ev_irange, ev_ienum, ev_yes, Out.bind_ok, Out.bindN_ok, bindS_ok, Tg.set, Tg.sets, List.getElem?_cons_zero, List.getElem?_cons_succ, List.set_cons_zero, List.set_cons_succ, wipeE, List.length_cons, List.length_nil, Nat.reduceAdd, Nat.reduceLeDiff, Nat.reduceEqDiff, ↓reduceIte, Bool.false_eq_true, decide_eq_true_eq, add_int, sub_int, lt_int, gt_int, le_int, ge_int, neg_int, and_int, or_int, xor_int, max2_int, min2_int, mod_pos, fdiv_sm, mul_sm, mul_smr, Int.reduceLT, Int.reduceNeg, int_bl, int_int, sli_tup, m41, hw]))).trans ?_
    refine (seq_of (set_of (d := .int pl) (S' := S ++ [Ob.lst []]) (by simp only [ev_var, ev_con, ev_bin, ev_un, ev_anil, ev_acons, ev_call, ev_tup, ev_lst, ev_not, ev_and, ev_or, ev_if, ev_cbl, ev_btrue, ev_cand, ev_cor, ev_cnot, ev_sli, ev_onone, ev_osome, ev_chain, ev_meth, ev_get2, ev_newK, ev_newT, ev_own, ev_nil, ev_seq, ev_expr, ev_set, ev_ret, ev_retN, ev_cif, ev_brk, ev_ct, ev_asg, ev_put, ev_aug, ev_for, ev_comp, ev_newL, ev_iseq, ev_irange, ev_ienum, ev_yes, Out.bind_ok, Out.bindN_ok, bindS_ok, Tg.set, Tg.sets, List.getElem?_cons_zero, List.getElem?_cons_succ, List.set_cons_zero, List.set_cons_succ, wipeE, List.length_cons, List.length_nil, Nat.reduceAdd, Nat.reduceLeDiff, Nat.reduceEqDiff, ↓reduceIte, Bool.false_eq_true, decide_eq_true_eq, add_int, sub_int, lt_int, gt_int, le_int, ge_int, neg_int, and_int, or_int, xor_int, max2_int, min2_int, mod_pos, fdiv_sm, mul_sm, mul_smr, Int.reduceLT, Int.reduceNeg, int_bl, int_int, sli_tup, m42, md]))).trans ?_
    exact (seq_of ((for_of (w := (rangeL 0 5, .tt)) (S' := S ++ [Ob.lst []]) (by simp only [ev_var, ev_con, ev_bin, ev_un, ev_anil, ev_acons, ev_call, ev_tup, ev_lst, ev_not, ev_and, ev_or, ev_if, ev_cbl, ev_btrue, ev_cand, ev_cor, ev_cnot, ev_sli, ev_onone, ev_osome, ev_chain, ev_meth, ev_get2, ev_newK, ev_newT, ev_own, ev_nil, ev_seq, ev_expr, ev_set, ev_ret, ev_retN, ev_cif, ev_brk, ev_ct, ev_asg, ev_put, ev_aug, ev_for, ev_comp, ev_newL, ev_iseq, ev_irange, ev_ienum, ev_yes, Out.bind_ok, Out.bindN_ok, bindS_ok, Tg.set, Tg.sets, List.getElem?_cons_zero, List.getElem?_cons_succ, List.set_cons_zero, List.set_cons_succ, wipeE, List.length_cons, List.length_nil, Nat.reduceAdd, Nat.reduceLeDiff, Nat.reduceEqDiff, ↓reduceIte, Bool.false_eq_true, decide_eq_true_eq, add_int, sub_int, lt_int, gt_int, le_int, ge_int, neg_int, and_int, or_int, xor_int, max2_int, min2_int, mod_pos, fdiv_sm, mul_sm, mul_smr, Int.reduceLT, Int.reduceNeg, int_bl, int_int, sli_tup, rng1_of (i := 5) (by omega) (by omega)])).trans e)).trans (ret_of rfl)
/-! the pile of looks -/
def goW : List Str := ["down", "deep", "later"]
def stp (s : Str × Dv) : Dv := .tup [.str s.1, s.2]
def LP : Nat → Dv → Prop
  | 0, d => d = .tup [.str "any"] ∨ d = .tup [.str "mark"] ∨ ∃ x, Sk x ∧ d = .tup [.str "kind", .str x]
  | h + 1, d => LP h d ∨ (∃ e, d = .tup [.str "not", e] ∧ LP h e) ∨ (∃ w e f, w ∈ (["both", "either"] : List Str) ∧ d = .tup [.str w, e, f] ∧ LP h e ∧ LP h f) ∨
      ∃ ss : List (Str × Dv), d = .tup [.str "way", .tup (ss.map stp)] ∧ ss ≠ [] ∧ ss.length ≤ 7 ∧ ∀ s ∈ ss, s.1 ∈ goW ∧ LP h s.2
theorem LP.up {h : Nat} {d : Dv} (k : LP h d) : ∀ {h' : Nat}, h ≤ h' → LP h' d
  | 0, hh => by cases (Nat.le_zero.mp hh); exact k
  | h' + 1, hh => by
    rcases Nat.lt_or_ge h (h' + 1) with q | q
    · exact .inl (LP.up k (by omega))
    · have : h = h' + 1 := by omega
      subst this; exact k
theorem LP.word {h : Nat} {d : Dv} (k : LP h d) : ∃ w r, d = .tup (.str w :: r) ∧ Sk w := by
  induction h generalizing d with
  | zero => rcases k with rfl | rfl | ⟨x, _, rfl⟩ <;> exact ⟨_, _, rfl, by decide +kernel⟩
  | succ h ih =>
    rcases k with k | ⟨e, rfl, _⟩ | ⟨w, e, f, hw, rfl, _⟩ | ⟨ss, rfl, _⟩
    · exact ih k
    · exact ⟨_, _, rfl, by decide +kernel⟩
    · refine ⟨_, _, rfl, ?_⟩
      simp only [List.mem_cons, List.not_mem_nil, or_false] at hw
      rcases hw with rfl | rfl <;> decide +kernel
    · exact ⟨_, _, rfl, by decide +kernel⟩
mutual
def tN : Dv → Nat
  | .tup ds => 1 + tNs ds
  | _ => 0
def tNs : List Dv → Nat
  | [] => 0
  | d :: ds => tN d + tNs ds
end
theorem tN_steps : ∀ ss : List (Str × Dv), tNs (ss.map stp) = ss.length + (ss.map fun s => tN s.2).sum
  | [] => rfl
  | s :: ss => by
    rw [List.map_cons, tNs, tN_steps ss, List.length_cons, List.map_cons, List.sum_cons]
    simp only [stp, tN, tNs]; omega
theorem tN_way (ss : List (Str × Dv)) : tN (.tup [.str "way", .tup (ss.map stp)]) = 2 + ss.length + (ss.map fun s => tN s.2).sum := by
  simp only [tN, tNs, tN_steps]; omega
theorem tN_not (e : Dv) : tN (.tup [.str "not", e]) = 1 + tN e := by simp only [tN, tNs]; omega
theorem tN_two (w : Str) (e f : Dv) : tN (.tup [.str w, e, f]) = 1 + tN e + tN f := by simp only [tN, tNs]; omega
structure En where
  look : Dv
  n : Int
  m : Int
  t : Int
def En.d (e : En) : Dv := .tup [e.look, .int e.n, .int e.m, .int e.t]
structure Ok (e : En) : Prop where
  m1 : 1 ≤ e.m
  m40 : e.m ≤ 40
  t1 : 1 ≤ e.t
  t12 : e.t ≤ 12
  lk : LP e.t.toNat e.look
  sz : (tN e.look : Int) ≤ 3 * e.m - 1
theorem idx_e0 {S : Sto} (e : En) : idxD e.d (.int 0) S = .ok e.look S := idx_t0
theorem idx_e1 {S : Sto} (e : En) : idxD e.d (.int 1) S = .ok (.int e.n) S := idx_t1
theorem idx_e2 {S : Sto} (e : En) : idxD e.d (.int 2) S = .ok (.int e.m) S := idx_t2
theorem idx_e3 {S : Sto} (e : En) : idxD e.d (.int 3) S = .ok (.int e.t) S := idx_t3
theorem shl01 {S : Sto} {i j : Int} (hi : i = 0 ∨ i = 1) (h0 : 0 ≤ j) (h1 : j ≤ 1000) : shlD (.int i) (.int j) S = .ok (.int (i * 2 ^ j.toNat)) S := by
  have hb : ((Builtin.Int.intBits i : Nat) : Int) ≤ 1 := by rcases hi with rfl | rfl <;> decide
  simp only [shlD]
  rw [if_pos (show L2.CShl i j from ⟨h0, by omega⟩)]
structure Rows (S : Sto) (l : Nat) (rs : List (Int × Str)) : Prop where
  h : S[l]? = some (.lst (rs.map fun r => .tup [.int r.1, .str r.2]))
  len : rs.length ≤ 200
  sk : ∀ r ∈ rs, Sk r.2
theorem Rows.gr {S S' : Sto} {l : Nat} {rs : List (Int × Str)} (h : Rows S l rs) (g : Gr S S') : Rows S' l rs := ⟨g.at h.h, h.len, h.sk⟩
theorem leaf_run {f ln lr : Nat} {c spot : Int} {names : List Str} {rs : List (Int × Str)} {S : Sto} (hn : Nms S ln names) (hr : Rows S lr rs) : ∃ e : En, F (f + 2) .l_leaf [.int c, .ref ln, .ref lr, .int spot] S = .ok e.d S ∧ Ok e := by
  rw [F_l_leaf]
  have ok0 : ∀ (d : Dv) (n : Int), LP 0 d → Ok ⟨d, n, 1, 1⟩ := fun d n h => ⟨Int.le_refl _, show (1 : Int) ≤ 40 by omega, Int.le_refl _, show (1 : Int) ≤ 12 by omega, h.up (Nat.zero_le _), by
    rcases h with rfl | rfl | ⟨x, _, rfl⟩ <;> simp only [tN, tNs] <;> decide⟩
  have m10 := mix_run (f := f) (c := c) (k := 10) (S := S) (by omega) (by omega)
  have m14 := mix_run (f := f) (c := c) (k := 14) (S := S) (by omega) (by omega)
  by_cases q1 : mx c 10 % 5 = 1
  · refine ⟨⟨.tup [.str "mark"], spot, 1, 1⟩, runF_rt (ρ := [some (.int c), some (.ref ln), some (.ref lr), some (.int spot), none, none, none, none]) rfl rfl ?_, ok0 _ _ (.inr (.inl rfl))⟩
    unfold c_l_leaf
    exact seq_rt ((if_t (S' := S) (by simp only [ev_var, ev_con, ev_bin, ev_un, ev_anil, ev_acons, ev_call, ev_tup, ev_lst, ev_not, ev_and, ev_or, ev_if, ev_cbl, ev_btrue, ev_cand, ev_cor, ev_cnot, ev_sli, ev_onone, ev_osome, ev_chain, ev_meth, ev_get2, ev_newK, ev_newT, ev_own, ev_nil, ev_seq, ev_expr, ev_set, ev_ret, ev_retN, ev_cif, ev_brk, ev_ct, ev_asg, ev_put, ev_aug, ev_for, ev_comp, ev_newL, ev_iseq, ev_irange, ev_ienum, ev_yes, Out.bind_ok, Out.bindN_ok, bindS_ok, Tg.set, Tg.sets, List.getElem?_cons_zero, List.getElem?_cons_succ, List.set_cons_zero, List.set_cons_succ, wipeE, List.length_cons, List.length_nil, Nat.reduceAdd, Nat.reduceLeDiff, Nat.reduceEqDiff, ↓reduceIte, Bool.false_eq_true, decide_eq_true_eq, add_int, sub_int, lt_int, gt_int, le_int, ge_int, neg_int, and_int, or_int, xor_int, max2_int, min2_int, mod_pos, fdiv_sm, mul_sm, mul_smr, Int.reduceLT, Int.reduceNeg, int_bl, int_int, sli_tup, m10, eq_int, q1, decide_true])).trans (ret_of (by simp only [ev_var, ev_con, ev_bin, ev_un, ev_anil, ev_acons, ev_call, ev_tup, ev_lst, ev_not, ev_and, ev_or, ev_if, ev_cbl, ev_btrue, ev_cand, ev_cor, ev_cnot, ev_sli, ev_onone, ev_osome, ev_chain, ev_meth, ev_get2, ev_newK, ev_newT, ev_own, ev_nil, ev_seq, ev_expr, ev_set, ev_ret, ev_retN, ev_cif, ev_brk, ev_ct, ev_asg, ev_put, ev_aug, ev_for, ev_comp, ev_newL, ev_iseq, ev_irange, ev_ienum, ev_yes, Out.bind_ok, Out.bindN_ok, bindS_ok, Tg.set, Tg.sets, List.getElem?_cons_zero, List.getElem?_cons_succ, List.set_cons_zero, List.set_cons_succ, wipeE, List.length_cons, List.length_nil, Nat.reduceAdd, Nat.reduceLeDiff, Nat.reduceEqDiff, ↓reduceIte, Bool.false_eq_true, decide_eq_true_eq, add_int, sub_int, lt_int, gt_int, le_int, ge_int, neg_int, and_int, or_int, xor_int, max2_int, min2_int, mod_pos, fdiv_sm, mul_sm, mul_smr, Int.reduceLT, Int.reduceNeg, int_bl, int_int, sli_tup, sline 1 (by omega), sline 4 (by omega)]; rfl)))
  have s1 : ∀ {b r : RC} {o : OutS}, b [some (.int c), some (.ref ln), some (.ref lr), some (.int spot), none, none, none, none] S = o → cSeq (cIf (cBl (eBin eqD (eBin modD (eOwn 2 (F (f + 1) .l_mix) (aCons (eVar 0) (aCons (eCon (.int 10)) (aNil)))) (eCon (.int 5))) (eCon (.int 1)))) r (cNil)) b [some (.int c), some (.ref ln), some (.ref lr), some (.int spot), none, none, none, none] S = o := fun {b r o} hb =>
    (seq_of ((if_f (S' := S) (by simp only [ev_var, ev_con, ev_bin, ev_un, ev_anil, ev_acons, ev_call, ev_tup, ev_lst, ev_not, ev_and, ev_or, ev_if, ev_cbl, ev_btrue, ev_cand, ev_cor, ev_cnot, ev_sli, ev_onone, ev_osome, ev_chain, ev_meth, ev_get2, ev_newK, ev_newT, ev_own, ev_nil, ev_seq, ev_expr, ev_set, ev_ret, ev_retN, ev_cif, ev_brk, ev_ct, ev_asg, ev_put, ev_aug, ev_for, ev_comp, ev_newL, ev_iseq, ev_irange, ev_ienum, ev_yes, Out.bind_ok, Out.bindN_ok, bindS_ok, Tg.set, Tg.sets, List.getElem?_cons_zero, List.getElem?_cons_succ, List.set_cons_zero, List.set_cons_succ, wipeE, List.length_cons, List.length_nil, Nat.reduceAdd, Nat.reduceLeDiff, Nat.reduceEqDiff, ↓reduceIte, Bool.false_eq_true, decide_eq_true_eq, add_int, sub_int, lt_int, gt_int, le_int, ge_int, neg_int, and_int, or_int, xor_int, max2_int, min2_int, mod_pos, fdiv_sm, mul_sm, mul_smr, Int.reduceLT, Int.reduceNeg, int_bl, int_int, sli_tup, m10, eq_int, q1, decide_false])).trans rfl)).trans hb
  have lrl := len_ref hr.h
  have r200 := hr.len
  by_cases q0 : mx c 10 % 5 = 0
  · refine ⟨⟨.tup [.str "any"], 1 * 2 ^ ((rs.map fun r => Dv.tup [.int r.1, .str r.2]).length : Int).toNat - 1, 1, 1⟩, runF_rt (ρ := [some (.int c), some (.ref ln), some (.ref lr), some (.int spot), none, none, none, none]) rfl rfl (s1 ?_), ok0 _ _ (.inl rfl)⟩
    have sh := shl01 (S := S) (i := 1) (j := ((rs.map fun r => Dv.tup [.int r.1, .str r.2]).length : Int)) (.inr rfl) (by omega) (by rw [List.length_map]; omega)
    exact seq_rt ((if_t (S' := S) (by simp only [ev_var, ev_con, ev_bin, ev_un, ev_anil, ev_acons, ev_call, ev_tup, ev_lst, ev_not, ev_and, ev_or, ev_if, ev_cbl, ev_btrue, ev_cand, ev_cor, ev_cnot, ev_sli, ev_onone, ev_osome, ev_chain, ev_meth, ev_get2, ev_newK, ev_newT, ev_own, ev_nil, ev_seq, ev_expr, ev_set, ev_ret, ev_retN, ev_cif, ev_brk, ev_ct, ev_asg, ev_put, ev_aug, ev_for, ev_comp, ev_newL, ev_iseq, ev_irange, ev_ienum, ev_yes, Out.bind_ok, Out.bindN_ok, bindS_ok, Tg.set, Tg.sets, List.getElem?_cons_zero, List.getElem?_cons_succ, List.set_cons_zero, List.set_cons_succ, wipeE, List.length_cons, List.length_nil, Nat.reduceAdd, Nat.reduceLeDiff, Nat.reduceEqDiff, ↓reduceIte, Bool.false_eq_true, decide_eq_true_eq, add_int, sub_int, lt_int, gt_int, le_int, ge_int, neg_int, and_int, or_int, xor_int, max2_int, min2_int, mod_pos, fdiv_sm, mul_sm, mul_smr, Int.reduceLT, Int.reduceNeg, int_bl, int_int, sli_tup, m10, eq_int, q0, decide_true])).trans (ret_of (by simp only [ev_var, ev_con, ev_bin, ev_un, ev_anil, ev_acons, ev_call, ev_tup, ev_lst, ev_not, ev_and, ev_or, ev_if, ev_cbl, ev_btrue, ev_cand, ev_cor, ev_cnot, ev_sli, ev_onone, ev_osome, ev_chain, ev_meth, ev_get2, ev_newK, ev_newT, ev_own, ev_nil, ev_seq, ev_expr, ev_set, ev_ret, ev_retN, ev_cif, ev_brk, ev_ct, ev_asg, ev_put, ev_aug, ev_for, ev_comp, ev_newL, ev_iseq, ev_irange, ev_ienum, ev_yes, Out.bind_ok, Out.bindN_ok, bindS_ok, Tg.set, Tg.sets, List.getElem?_cons_zero, List.getElem?_cons_succ, List.set_cons_zero, List.set_cons_succ, wipeE, List.length_cons, List.length_nil, Nat.reduceAdd, Nat.reduceLeDiff, Nat.reduceEqDiff, ↓reduceIte, Bool.false_eq_true, decide_eq_true_eq, add_int, sub_int, lt_int, gt_int, le_int, ge_int, neg_int, and_int, or_int, xor_int, max2_int, min2_int, mod_pos, fdiv_sm, mul_sm, mul_smr, Int.reduceLT, Int.reduceNeg, int_bl, int_int, sli_tup, lrl, sh, sline 1 (by omega), sline 4 (by omega)]; rfl)))
  obtain ⟨d, hd, ed⟩ := atI_mod (xs := names.map Dv.str) (by intro z; have := congrArg List.length z; simp [hn.len] at this) (mx c 14)
  obtain ⟨x, hx, rfl⟩ := List.mem_map.mp hd
  rw [List.length_map, hn.len] at ed
  have ex : idxD (.ref ln) (.int (mx c 14 % 5)) S = .ok (.str x) S := idx_ref hn.h ed
  have kx := hn.sk x hx
  obtain ⟨ρ', S', e, v6, v7, b, rfl, rfl⟩ := loop_all (ck := (Ck.ls lr (rs.map fun r => .tup [.int r.1, .str r.2])).ok) (t := .tp [.nm 6, .nm 7]) (b := b_l_leaf_1 (F (f + 1))) (S := S) (ρ := [some (.int c), some (.ref ln), some (.ref lr), some (.int spot), some (.str x), some (.int 0), none, none])
    (fun i ρ S' => ∃ (v6 v7 : Option Dv) (b : Int), ρ = [some (.int c), some (.ref ln), some (.ref lr), some (.int spot), some (.str x), some (.int b), v6, v7] ∧ S' = S) (enumL (rs.map fun r => .tup [.int r.1, .str r.2])) ⟨none, none, 0, rfl, rfl⟩
    (fun i v ρ S' hv ⟨v6, v7, b, hρ, hS⟩ => by
      subst hρ hS
      rw [enumL_get, List.getElem?_map, Option.map_map, Option.map_eq_some_iff] at hv
      obtain ⟨r, hr0, rfl⟩ := hv
      have hi := (List.getElem?_eq_some_iff.mp hr0).1
      have kr := hr.sk r (List.mem_of_getElem? hr0)
      refine ⟨hr.h, _, rfl, ?_⟩
      have e1 : idxD (.tup [.int r.1, .str r.2]) (.int 1) S' = .ok (.str r.2) S' := idx_t1
      have ib : intD [.bl (decide (r.2 = x))] S' = .ok (.int (if decide (r.2 = x) = true then 1 else 0)) S' := int_bl _
      have sh := shl01 (S := S') (i := if decide (r.2 = x) = true then 1 else 0) (j := ((0 + i : Nat) : Int)) (by split <;> simp) (by omega) (by omega)
      refine ⟨[some (.int c), some (.ref ln), some (.ref lr), some (.int spot), some (.str x), some (.int (Builtin.bitOr b ((if decide (r.2 = x) = true then 1 else 0) * 2 ^ ((0 + i : Nat) : Int).toNat))), some (.int ((0 + i : Nat) : Int)), some (.tup [.int r.1, .str r.2])], S', .inl ?_, _, _, _, rfl, rfl⟩
      unfold b_l_leaf_1
      refine set_of ?_
      simp only [ev_bin, ev_var, ev_con, ev_call, ev_acons, ev_anil, Out.bind_ok, List.getElem?_cons_zero, List.getElem?_cons_succ, List.set_cons_zero, List.set_cons_succ, Tg.set, Tg.sets, e1, eq_str kr kx, ib, sh, or_int])
    (fun ρ S' ⟨v6, v7, b, hρ, hS⟩ => by subst hS; exact hr.h)
  refine ⟨⟨.tup [.str "kind", .str x], b, 1, 1⟩, runF_rt (ρ := [some (.int c), some (.ref ln), some (.ref lr), some (.int spot), none, none, none, none]) rfl rfl (s1 ?_), ok0 _ _ (.inr (.inr ⟨x, kx, rfl⟩))⟩
  refine (seq_of ((if_f (S' := S') (by simp only [ev_var, ev_con, ev_bin, ev_un, ev_anil, ev_acons, ev_call, ev_tup, ev_lst, ev_not, ev_and, ev_or, ev_if, ev_cbl, ev_btrue, ev_cand, ev_cor, ev_cnot, ev_sli, ev_onone, ev_osome, ev_chain, ev_meth, ev_get2, ev_newK, ev_newT, ev_own, ev_nil, ev_seq, ev_expr, ev_set, ev_ret, ev_retN, ev_cif, ev_brk, ev_ct, ev_asg, ev_put, ev_aug, ev_for, ev_comp, ev_newL, ev_iseq, ev_irange, ev_ienum, ev_yes, Out.bind_ok, Out.bindN_ok, bindS_ok, Tg.set, Tg.sets, List.getElem?_cons_zero, List.getElem?_cons_succ, List.set_cons_zero, List.set_cons_succ, wipeE, List.length_cons, List.length_nil, Nat.reduceAdd, Nat.reduceLeDiff, Nat.reduceEqDiff, ↓reduceIte, Bool.false_eq_true, decide_eq_true_eq, add_int, sub_int, lt_int, gt_int, le_int, ge_int, neg_int, and_int, or_int, xor_int, max2_int, min2_int, mod_pos, fdiv_sm, mul_sm, mul_smr, Int.reduceLT, Int.reduceNeg, int_bl, int_int, sli_tup, m10, eq_int, q0, decide_false])).trans rfl)).trans ?_
  refine (seq_of (set_of (d := .str x) (S' := S') (by simp only [ev_var, ev_con, ev_bin, ev_un, ev_anil, ev_acons, ev_call, ev_tup, ev_lst, ev_not, ev_and, ev_or, ev_if, ev_cbl, ev_btrue, ev_cand, ev_cor, ev_cnot, ev_sli, ev_onone, ev_osome, ev_chain, ev_meth, ev_get2, ev_newK, ev_newT, ev_own, ev_nil, ev_seq, ev_expr, ev_set, ev_ret, ev_retN, ev_cif, ev_brk, ev_ct, ev_asg, ev_put, ev_aug, ev_for, ev_comp, ev_newL, ev_iseq, ev_irange, ev_ienum, ev_yes, Out.bind_ok, Out.bindN_ok, bindS_ok, Tg.set, Tg.sets, List.getElem?_cons_zero, List.getElem?_cons_succ, List.set_cons_zero, List.set_cons_succ, wipeE, List.length_cons, List.length_nil, Nat.reduceAdd, Nat.reduceLeDiff, Nat.reduceEqDiff, ↓reduceIte, Bool.false_eq_true, decide_eq_true_eq, add_int, sub_int, lt_int, gt_int, le_int, ge_int, neg_int, and_int, or_int, xor_int, max2_int, min2_int, mod_pos, fdiv_sm, mul_sm, mul_smr, Int.reduceLT, Int.reduceNeg, int_bl, int_int, sli_tup, m14, ex]))).trans ?_
  refine (seq_of (set_of rfl)).trans ?_
  have ez : (iEnumA (aCons (eVar 2) (aNil))) [some (.int c), some (.ref ln), some (.ref lr), some (.int spot), some (.str x), some (.int 0), none, none] S' = .ok (enumL (rs.map fun r => .tup [.int r.1, .str r.2]), .ls lr (rs.map fun r => .tup [.int r.1, .str r.2])) S' := by
    simp only [iEnumA, ev_var, ev_con, ev_bin, ev_un, ev_anil, ev_acons, ev_call, ev_tup, ev_lst, ev_not, ev_and, ev_or, ev_if, ev_cbl, ev_btrue, ev_cand, ev_cor, ev_cnot, ev_sli, ev_onone, ev_osome, ev_chain, ev_meth, ev_get2, ev_newK, ev_newT, ev_own, ev_nil, ev_seq, ev_expr, ev_set, ev_ret, ev_retN, ev_cif, ev_brk, ev_ct, ev_asg, ev_put, ev_aug, ev_for, ev_comp, ev_newL, ev_iseq, ev_irange, ev_ienum, ev_yes, Out.bind_ok, Out.bindN_ok, bindS_ok, Tg.set, Tg.sets, List.getElem?_cons_zero, List.getElem?_cons_succ, List.set_cons_zero, List.set_cons_succ, wipeE, List.length_cons, List.length_nil, Nat.reduceAdd, Nat.reduceLeDiff, Nat.reduceEqDiff, ↓reduceIte, Bool.false_eq_true, decide_eq_true_eq, add_int, sub_int, lt_int, gt_int, le_int, ge_int, neg_int, and_int, or_int, xor_int, max2_int, min2_int, mod_pos, fdiv_sm, mul_sm, mul_smr, Int.reduceLT, Int.reduceNeg, int_bl, int_int, sli_tup, seq_lst (lst_ref hr.h)]; rfl
  refine (seq_of ((for_of ez).trans e)).trans ?_
  exact ret_of (by simp only [ev_var, ev_con, ev_bin, ev_un, ev_anil, ev_acons, ev_call, ev_tup, ev_lst, ev_not, ev_and, ev_or, ev_if, ev_cbl, ev_btrue, ev_cand, ev_cor, ev_cnot, ev_sli, ev_onone, ev_osome, ev_chain, ev_meth, ev_get2, ev_newK, ev_newT, ev_own, ev_nil, ev_seq, ev_expr, ev_set, ev_ret, ev_retN, ev_cif, ev_brk, ev_ct, ev_asg, ev_put, ev_aug, ev_for, ev_comp, ev_newL, ev_iseq, ev_irange, ev_ienum, ev_yes, Out.bind_ok, Out.bindN_ok, bindS_ok, Tg.set, Tg.sets, List.getElem?_cons_zero, List.getElem?_cons_succ, List.set_cons_zero, List.set_cons_succ, wipeE, List.length_cons, List.length_nil, Nat.reduceAdd, Nat.reduceLeDiff, Nat.reduceEqDiff, ↓reduceIte, Bool.false_eq_true, decide_eq_true_eq, add_int, sub_int, lt_int, gt_int, le_int, ge_int, neg_int, and_int, or_int, xor_int, max2_int, min2_int, mod_pos, fdiv_sm, mul_sm, mul_smr, Int.reduceLT, Int.reduceNeg, int_bl, int_int, sli_tup, sline 2 (by omega), sline 4 (by omega)]; rfl)
abbrev One (o : Out Dv) (S : Sto) (P : List En → Prop) : Prop := ∃ (l : Nat) (zs : List En) (S' : Sto), o = .ok (.ref l) S' ∧ Gr S S' ∧ S.length ≤ l ∧ S'[l]? = some (.lst (zs.map En.d)) ∧ (zs = [] ∨ ∃ e, zs = [e] ∧ Ok e) ∧ P zs
theorem atI_m2 {α : Type} {xs : List α} {a b : α} : L2.atI (xs ++ [a, b]) (-2) = some a := by
  unfold L2.atI L2.ixN
  rw [if_neg (by omega), if_pos (by simp; omega)]
  simp only [List.length_append, List.length_cons, List.length_nil, Option.bind_some]
  rw [show (-2 + ((xs.length + (0 + 1 + 1) : Nat) : Int)).toNat = xs.length by omega]
  simp
theorem truths_run {f lp : Nat} {c ev : Int} {xs : List En} {S : Sto} (hp : S[lp]? = some (.lst (xs.map En.d))) (hx : xs ≠ []) (hok : ∀ e ∈ xs, Ok e) : One (F (f + 2) .l_truths [.ref lp, .int c, .int ev] S) S (fun _ => True) := by
  rw [F_l_truths]
  obtain ⟨ys, e, rfl⟩ : ∃ ys e, xs = ys ++ [e] := by
    rcases List.eq_nil_or_concat xs with h | ⟨ys, e, h⟩
    · exact absurd h hx
    · exact ⟨ys, e, by rw [h, List.concat_eq_append]⟩
  have ke := hok e (by simp)
  have hl : idxD (.ref lp) (.int (-1)) S = .ok e.d S := by
    rw [List.map_append] at hp; exact idx_last hp
  have m11 := mix_run (f := f) (c := c) (k := 11) (S := S) (by omega) (by omega)
  generalize hw : mx c 11 % 6 = w
  have start : ∀ {b : RC} {o : OutS}, b [some (.ref lp), some (.int c), some (.int ev), some (.int w), some e.d, none, none, none] S = o → cSeq (cSet 3 (eBin modD (eOwn 2 (F (f + 1) .l_mix) (aCons (eVar 1) (aCons (eCon (.int 11)) (aNil)))) (eCon (.int 6)))) (cSeq (cSet 4 (eBin idxD (eVar 0) (eUn negD (eCon (.int 1))))) b) [some (.ref lp), some (.int c), some (.int ev), none, none, none, none, none] S = o := fun {b o} hb => by
    refine (seq_of (set_of (d := .int w) (S' := S) (by simp only [ev_var, ev_con, ev_bin, ev_un, ev_anil, ev_acons, ev_call, ev_tup, ev_lst, ev_not, ev_and, ev_or, ev_if, ev_cbl, ev_btrue, ev_cand, ev_cor, ev_cnot, ev_sli, ev_onone, ev_osome, ev_chain, ev_meth, ev_get2, ev_newK, ev_newT, ev_own, ev_nil, ev_seq, ev_expr, ev_set, ev_ret, ev_retN, ev_cif, ev_brk, ev_ct, ev_asg, ev_put, ev_aug, ev_for, ev_comp, ev_newL, ev_iseq, ev_irange, ev_ienum, ev_yes, Out.bind_ok, Out.bindN_ok, bindS_ok, Tg.set, Tg.sets, List.getElem?_cons_zero, List.getElem?_cons_succ, List.set_cons_zero, List.set_cons_succ, wipeE, List.length_cons, List.length_nil, Nat.reduceAdd, Nat.reduceLeDiff, Nat.reduceEqDiff, ↓reduceIte, Bool.false_eq_true, decide_eq_true_eq, add_int, sub_int, lt_int, gt_int, le_int, ge_int, neg_int, and_int, or_int, xor_int, max2_int, min2_int, mod_pos, fdiv_sm, mul_sm, mul_smr, Int.reduceLT, Int.reduceNeg, int_bl, int_int, sli_tup, m11, hw]))).trans ?_
    exact (seq_of (set_of (d := e.d) (S' := S) (by simp only [ev_var, ev_con, ev_bin, ev_un, ev_anil, ev_acons, ev_call, ev_tup, ev_lst, ev_not, ev_and, ev_or, ev_if, ev_cbl, ev_btrue, ev_cand, ev_cor, ev_cnot, ev_sli, ev_onone, ev_osome, ev_chain, ev_meth, ev_get2, ev_newK, ev_newT, ev_own, ev_nil, ev_seq, ev_expr, ev_set, ev_ret, ev_retN, ev_cif, ev_brk, ev_ct, ev_asg, ev_put, ev_aug, ev_for, ev_comp, ev_newL, ev_iseq, ev_irange, ev_ienum, ev_yes, Out.bind_ok, Out.bindN_ok, bindS_ok, Tg.set, Tg.sets, List.getElem?_cons_zero, List.getElem?_cons_succ, List.set_cons_zero, List.set_cons_succ, wipeE, List.length_cons, List.length_nil, Nat.reduceAdd, Nat.reduceLeDiff, Nat.reduceEqDiff, ↓reduceIte, Bool.false_eq_true, decide_eq_true_eq, add_int, sub_int, lt_int, gt_int, le_int, ge_int, neg_int, and_int, or_int, xor_int, max2_int, min2_int, mod_pos, fdiv_sm, mul_sm, mul_smr, Int.reduceLT, Int.reduceNeg, int_bl, int_int, sli_tup, hl]))).trans hb
  have nothing : ∀ (ρ : PL.Env), (cRet (eLst (aNil))) ρ S = .fl (.rt (.ref S.length)) (S ++ [Ob.lst []]) := fun ρ => ret_of (by simp only [ev_var, ev_con, ev_bin, ev_un, ev_anil, ev_acons, ev_call, ev_tup, ev_lst, ev_not, ev_and, ev_or, ev_if, ev_cbl, ev_btrue, ev_cand, ev_cor, ev_cnot, ev_sli, ev_onone, ev_osome, ev_chain, ev_meth, ev_get2, ev_newK, ev_newT, ev_own, ev_nil, ev_seq, ev_expr, ev_set, ev_ret, ev_retN, ev_cif, ev_brk, ev_ct, ev_asg, ev_put, ev_aug, ev_for, ev_comp, ev_newL, ev_iseq, ev_irange, ev_ienum, ev_yes, Out.bind_ok, Out.bindN_ok, bindS_ok, Tg.set, Tg.sets, List.getElem?_cons_zero, List.getElem?_cons_succ, List.set_cons_zero, List.set_cons_succ, wipeE, List.length_cons, List.length_nil, Nat.reduceAdd, Nat.reduceLeDiff, Nat.reduceEqDiff, ↓reduceIte, Bool.false_eq_true, decide_eq_true_eq, add_int, sub_int, lt_int, gt_int, le_int, ge_int, neg_int, and_int, or_int, xor_int, max2_int, min2_int, mod_pos, fdiv_sm, mul_sm, mul_smr, Int.reduceLT, Int.reduceNeg, int_bl, int_int, sli_tup, sline 0 (by omega)])
  have one : ∀ e' : En, Ok e' → runF (c_l_truths (F (f + 1))) 8 3 [.ref lp, .int c, .int ev] S = .ok (.ref S.length) (S ++ [.lst [e'.d]]) → One (runF (c_l_truths (F (f + 1))) 8 3 [.ref lp, .int c, .int ev] S) S (fun _ => True) := fun e' k h => ⟨S.length, [e'], _, h, gr_app _ _, Nat.le_refl _, at_new _ _, .inr ⟨e', rfl, k⟩, trivial⟩
  have none' : runF (c_l_truths (F (f + 1))) 8 3 [.ref lp, .int c, .int ev] S = .ok (.ref S.length) (S ++ [.lst []]) → One (runF (c_l_truths (F (f + 1))) 8 3 [.ref lp, .int c, .int ev] S) S (fun _ => True) := fun h => ⟨S.length, [], _, h, gr_app _ _, Nat.le_refl _, at_new _ _, .inl rfl, trivial⟩
  by_cases q : w = 0 ∧ e.t < 12 ∧ e.m < 40
  · refine one ⟨.tup [.str "not", e.look], Builtin.bitXor ev e.n, e.m + 1, e.t + 1⟩ ⟨by have := ke.m1; show 1 ≤ e.m + 1; omega, by show e.m + 1 ≤ 40; omega, by have := ke.t1; show 1 ≤ e.t + 1; omega, by show e.t + 1 ≤ 12; omega, ?_, ?_⟩ (runF_rt (ρ := [some (.ref lp), some (.int c), some (.int ev), none, none, none, none, none]) rfl rfl (start ?_))
    · show LP (e.t + 1).toNat _
      rw [show (e.t + 1).toNat = e.t.toNat + 1 by have := ke.t1; omega]
      exact .inr (.inl ⟨_, rfl, ke.lk⟩)
    · have := ke.sz
      show (tN (.tup [.str "not", e.look]) : Int) ≤ 3 * (e.m + 1) - 1
      rw [tN_not]; omega
    · exact seq_rt ((if_t (S' := S) (by simp only [ev_var, ev_con, ev_bin, ev_un, ev_anil, ev_acons, ev_call, ev_tup, ev_lst, ev_not, ev_and, ev_or, ev_if, ev_cbl, ev_btrue, ev_cand, ev_cor, ev_cnot, ev_sli, ev_onone, ev_osome, ev_chain, ev_meth, ev_get2, ev_newK, ev_newT, ev_own, ev_nil, ev_seq, ev_expr, ev_set, ev_ret, ev_retN, ev_cif, ev_brk, ev_ct, ev_asg, ev_put, ev_aug, ev_for, ev_comp, ev_newL, ev_iseq, ev_irange, ev_ienum, ev_yes, Out.bind_ok, Out.bindN_ok, bindS_ok, Tg.set, Tg.sets, List.getElem?_cons_zero, List.getElem?_cons_succ, List.set_cons_zero, List.set_cons_succ, wipeE, List.length_cons, List.length_nil, Nat.reduceAdd, Nat.reduceLeDiff, Nat.reduceEqDiff, ↓reduceIte, Bool.false_eq_true, decide_eq_true_eq, add_int, sub_int, lt_int, gt_int, le_int, ge_int, neg_int, and_int, or_int, xor_int, max2_int, min2_int, mod_pos, fdiv_sm, mul_sm, mul_smr, Int.reduceLT, Int.reduceNeg, int_bl, int_int, sli_tup, eq_int, idx_e2, idx_e3, q.1, q.2.1, q.2.2, decide_true])).trans (ret_of (by simp only [ev_var, ev_con, ev_bin, ev_un, ev_anil, ev_acons, ev_call, ev_tup, ev_lst, ev_not, ev_and, ev_or, ev_if, ev_cbl, ev_btrue, ev_cand, ev_cor, ev_cnot, ev_sli, ev_onone, ev_osome, ev_chain, ev_meth, ev_get2, ev_newK, ev_newT, ev_own, ev_nil, ev_seq, ev_expr, ev_set, ev_ret, ev_retN, ev_cif, ev_brk, ev_ct, ev_asg, ev_put, ev_aug, ev_for, ev_comp, ev_newL, ev_iseq, ev_irange, ev_ienum, ev_yes, Out.bind_ok, Out.bindN_ok, bindS_ok, Tg.set, Tg.sets, List.getElem?_cons_zero, List.getElem?_cons_succ, List.set_cons_zero, List.set_cons_succ, wipeE, List.length_cons, List.length_nil, Nat.reduceAdd, Nat.reduceLeDiff, Nat.reduceEqDiff, ↓reduceIte, Bool.false_eq_true, decide_eq_true_eq, add_int, sub_int, lt_int, gt_int, le_int, ge_int, neg_int, and_int, or_int, xor_int, max2_int, min2_int, mod_pos, fdiv_sm, mul_sm, mul_smr, Int.reduceLT, Int.reduceNeg, int_bl, int_int, sli_tup, idx_e0, idx_e1, idx_e2, idx_e3, sline 1 (by omega), sline 2 (by omega), sline 4 (by omega)]; rfl)))
  have s1 : ∀ {b r : RC} {o : OutS}, b [some (.ref lp), some (.int c), some (.int ev), some (.int w), some e.d, none, none, none] S = o → cSeq (cIf (cAnd (cBl (eBin eqD (eVar 3) (eCon (.int 0)))) (cAnd (cBl (eBin ltD (eBin idxD (eVar 4) (eCon (.int 3))) (eCon (.int 12)))) (cBl (eBin ltD (eBin idxD (eVar 4) (eCon (.int 2))) (eCon (.int 40)))))) r (cNil)) b [some (.ref lp), some (.int c), some (.int ev), some (.int w), some e.d, none, none, none] S = o := fun {b r o} hb => by
    refine (seq_of ((if_f (S' := S) ?_).trans rfl)).trans hb
    by_cases z1 : w = 0
    · by_cases z2 : e.t < 12
      · have z3 : ¬ e.m < 40 := fun z => q ⟨z1, z2, z⟩
        simp only [ev_var, ev_con, ev_bin, ev_un, ev_anil, ev_acons, ev_call, ev_tup, ev_lst, ev_not, ev_and, ev_or, ev_if, ev_cbl, ev_btrue, ev_cand, ev_cor, ev_cnot, ev_sli, ev_onone, ev_osome, ev_chain, ev_meth, ev_get2, ev_newK, ev_newT, ev_own, ev_nil, ev_seq, ev_expr, ev_set, ev_ret, ev_retN, ev_cif, ev_brk, ev_ct, ev_asg, ev_put, ev_aug, ev_for, ev_comp, ev_newL, ev_iseq, ev_irange, ev_ienum, ev_yes, Out.bind_ok, Out.bindN_ok, bindS_ok, Tg.set, Tg.sets, List.getElem?_cons_zero, List.getElem?_cons_succ, List.set_cons_zero, List.set_cons_succ, wipeE, List.length_cons, List.length_nil, Nat.reduceAdd, Nat.reduceLeDiff, Nat.reduceEqDiff, ↓reduceIte, Bool.false_eq_true, decide_eq_true_eq, add_int, sub_int, lt_int, gt_int, le_int, ge_int, neg_int, and_int, or_int, xor_int, max2_int, min2_int, mod_pos, fdiv_sm, mul_sm, mul_smr, Int.reduceLT, Int.reduceNeg, int_bl, int_int, sli_tup, eq_int, idx_e2, idx_e3, z1, z2, z3, decide_true, decide_false]
      · simp only [ev_var, ev_con, ev_bin, ev_un, ev_anil, ev_acons, ev_call, ev_tup, ev_lst, ev_not, ev_and, ev_or, ev_if, ev_cbl, ev_btrue, ev_cand, ev_cor, ev_cnot, ev_sli, ev_onone, ev_osome, ev_chain, ev_meth, ev_get2, ev_newK, ev_newT, ev_own, ev_nil, ev_seq, ev_expr, ev_set, ev_ret, ev_retN, ev_cif, ev_brk, ev_ct, ev_asg, ev_put, ev_aug, ev_for, ev_comp, ev_newL, ev_iseq, ev_irange, ev_ienum, ev_yes, Out.bind_ok, Out.bindN_ok, bindS_ok, Tg.set, Tg.sets, List.getElem?_cons_zero, List.getElem?_cons_succ, List.set_cons_zero, List.set_cons_succ, wipeE, List.length_cons, List.length_nil, Nat.reduceAdd, Nat.reduceLeDiff, Nat.reduceEqDiff, ↓reduceIte, Bool.false_eq_true, decide_eq_true_eq, add_int, sub_int, lt_int, gt_int, le_int, ge_int, neg_int, and_int, or_int, xor_int, max2_int, min2_int, mod_pos, fdiv_sm, mul_sm, mul_smr, Int.reduceLT, Int.reduceNeg, int_bl, int_int, sli_tup, eq_int, idx_e3, z1, z2, decide_true, decide_false]
    · simp only [ev_var, ev_con, ev_bin, ev_un, ev_anil, ev_acons, ev_call, ev_tup, ev_lst, ev_not, ev_and, ev_or, ev_if, ev_cbl, ev_btrue, ev_cand, ev_cor, ev_cnot, ev_sli, ev_onone, ev_osome, ev_chain, ev_meth, ev_get2, ev_newK, ev_newT, ev_own, ev_nil, ev_seq, ev_expr, ev_set, ev_ret, ev_retN, ev_cif, ev_brk, ev_ct, ev_asg, ev_put, ev_aug, ev_for, ev_comp, ev_newL, ev_iseq, ev_irange, ev_ienum, ev_yes, Out.bind_ok, Out.bindN_ok, bindS_ok, Tg.set, Tg.sets, List.getElem?_cons_zero, List.getElem?_cons_succ, List.set_cons_zero, List.set_cons_succ, wipeE, List.length_cons, List.length_nil, Nat.reduceAdd, Nat.reduceLeDiff, Nat.reduceEqDiff, ↓reduceIte, Bool.false_eq_true, decide_eq_true_eq, add_int, sub_int, lt_int, gt_int, le_int, ge_int, neg_int, and_int, or_int, xor_int, max2_int, min2_int, mod_pos, fdiv_sm, mul_sm, mul_smr, Int.reduceLT, Int.reduceNeg, int_bl, int_int, sli_tup, eq_int, z1, decide_false]
  have ll := len_ref hp
  by_cases q2 : w < 3 ∧ (1 : Int) < (((ys ++ [e]).map En.d).length : Int)
  · obtain ⟨zs, g, rfl⟩ : ∃ zs g, ys = zs ++ [g] := by
      rcases List.eq_nil_or_concat ys with h | ⟨zs, g, h⟩
      · subst h; exfalso; have := q2.2; simp at this
      · exact ⟨zs, g, by rw [h, List.concat_eq_append]⟩
    have kg := hok g (by simp)
    have hl2 : idxD (.ref lp) (.int (-2)) S = .ok g.d S := by
      refine idx_ref hp ?_
      rw [List.append_assoc, List.map_append]; exact atI_m2
    have a1 := ke.m1; have a2 := kg.m1; have a3 := ke.t1; have a4 := kg.t1
    generalize hM : e.m + g.m + 1 = M
    generalize hT : max e.t g.t + 1 = T
    have okk : ∀ (wd : Str) (n : Int), wd ∈ (["both", "either"] : List Str) → M < 41 → T < 13 → Ok ⟨.tup [.str wd, g.look, e.look], n, M, T⟩ := fun wd n hwd h1 h2 => ⟨show 1 ≤ M by omega, show M ≤ 40 by omega, show 1 ≤ T by omega, show T ≤ 12 by omega, by
      show LP T.toNat _
      rw [show T.toNat = (T - 1).toNat + 1 by omega]
      exact .inr (.inr (.inl ⟨wd, _, _, hwd, rfl, kg.lk.up (by omega), ke.lk.up (by omega)⟩)), by
      have := ke.sz; have := kg.sz
      show (tN (.tup [.str wd, g.look, e.look]) : Int) ≤ 3 * M - 1
      rw [tN_two]; omega⟩
    have st2 : ∀ {b b2 : RC} {o : OutS}, b [some (.ref lp), some (.int c), some (.int ev), some (.int w), some e.d, some g.d, some (.int M), some (.int T)] S = o → (∃ d S', o = .fl (.rt d) S') → cSeq (cIf (cAnd (cBl (eBin ltD (eVar 3) (eCon (.int 3)))) (cBl (eBin gtD (eCall lenD (aCons (eVar 0) (aNil))) (eCon (.int 1))))) (cSeq (cSet 5 (eBin idxD (eVar 0) (eUn negD (eCon (.int 2))))) (cSeq (cSet 6 (eBin addD (eBin addD (eBin idxD (eVar 4) (eCon (.int 2))) (eBin idxD (eVar 5) (eCon (.int 2)))) (eCon (.int 1)))) (cSeq (cSet 7 (eBin addD (eCall max2D (aCons (eBin idxD (eVar 4) (eCon (.int 3))) (aCons (eBin idxD (eVar 5) (eCon (.int 3))) (aNil)))) (eCon (.int 1)))) b))) (cNil)) b2 [some (.ref lp), some (.int c), some (.int ev), some (.int w), some e.d, none, none, none] S = o := fun {b b2 o} hb ⟨d, S', ho⟩ => by
      subst ho
      refine seq_rt ((if_t (S' := S) (by simp only [ev_var, ev_con, ev_bin, ev_un, ev_anil, ev_acons, ev_call, ev_tup, ev_lst, ev_not, ev_and, ev_or, ev_if, ev_cbl, ev_btrue, ev_cand, ev_cor, ev_cnot, ev_sli, ev_onone, ev_osome, ev_chain, ev_meth, ev_get2, ev_newK, ev_newT, ev_own, ev_nil, ev_seq, ev_expr, ev_set, ev_ret, ev_retN, ev_cif, ev_brk, ev_ct, ev_asg, ev_put, ev_aug, ev_for, ev_comp, ev_newL, ev_iseq, ev_irange, ev_ienum, ev_yes, Out.bind_ok, Out.bindN_ok, bindS_ok, Tg.set, Tg.sets, List.getElem?_cons_zero, List.getElem?_cons_succ, List.set_cons_zero, List.set_cons_succ, wipeE, List.length_cons, List.length_nil, Nat.reduceAdd, Nat.reduceLeDiff, Nat.reduceEqDiff, ↓reduceIte, Bool.false_eq_true, decide_eq_true_eq, add_int, sub_int, lt_int, gt_int, le_int, ge_int, neg_int, and_int, or_int, xor_int, max2_int, min2_int, mod_pos, fdiv_sm, mul_sm, mul_smr, Int.reduceLT, Int.reduceNeg, int_bl, int_int, sli_tup, ll, q2.1, q2.2, decide_true])).trans ?_)
      refine (seq_of (set_of (d := g.d) (S' := S) (by simp only [ev_var, ev_con, ev_bin, ev_un, ev_anil, ev_acons, ev_call, ev_tup, ev_lst, ev_not, ev_and, ev_or, ev_if, ev_cbl, ev_btrue, ev_cand, ev_cor, ev_cnot, ev_sli, ev_onone, ev_osome, ev_chain, ev_meth, ev_get2, ev_newK, ev_newT, ev_own, ev_nil, ev_seq, ev_expr, ev_set, ev_ret, ev_retN, ev_cif, ev_brk, ev_ct, ev_asg, ev_put, ev_aug, ev_for, ev_comp, ev_newL, ev_iseq, ev_irange, ev_ienum, ev_yes, Out.bind_ok, Out.bindN_ok, bindS_ok, Tg.set, Tg.sets, List.getElem?_cons_zero, List.getElem?_cons_succ, List.set_cons_zero, List.set_cons_succ, wipeE, List.length_cons, List.length_nil, Nat.reduceAdd, Nat.reduceLeDiff, Nat.reduceEqDiff, ↓reduceIte, Bool.false_eq_true, decide_eq_true_eq, add_int, sub_int, lt_int, gt_int, le_int, ge_int, neg_int, and_int, or_int, xor_int, max2_int, min2_int, mod_pos, fdiv_sm, mul_sm, mul_smr, Int.reduceLT, Int.reduceNeg, int_bl, int_int, sli_tup, hl2]))).trans ?_
      refine (seq_of (set_of (d := .int M) (S' := S) (by simp only [ev_var, ev_con, ev_bin, ev_un, ev_anil, ev_acons, ev_call, ev_tup, ev_lst, ev_not, ev_and, ev_or, ev_if, ev_cbl, ev_btrue, ev_cand, ev_cor, ev_cnot, ev_sli, ev_onone, ev_osome, ev_chain, ev_meth, ev_get2, ev_newK, ev_newT, ev_own, ev_nil, ev_seq, ev_expr, ev_set, ev_ret, ev_retN, ev_cif, ev_brk, ev_ct, ev_asg, ev_put, ev_aug, ev_for, ev_comp, ev_newL, ev_iseq, ev_irange, ev_ienum, ev_yes, Out.bind_ok, Out.bindN_ok, bindS_ok, Tg.set, Tg.sets, List.getElem?_cons_zero, List.getElem?_cons_succ, List.set_cons_zero, List.set_cons_succ, wipeE, List.length_cons, List.length_nil, Nat.reduceAdd, Nat.reduceLeDiff, Nat.reduceEqDiff, ↓reduceIte, Bool.false_eq_true, decide_eq_true_eq, add_int, sub_int, lt_int, gt_int, le_int, ge_int, neg_int, and_int, or_int, xor_int, max2_int, min2_int, mod_pos, fdiv_sm, mul_sm, mul_smr, Int.reduceLT, Int.reduceNeg, int_bl, int_int, sli_tup, idx_e2, hM]))).trans ?_
      exact (seq_of (set_of (d := .int T) (S' := S) (by simp only [ev_var, ev_con, ev_bin, ev_un, ev_anil, ev_acons, ev_call, ev_tup, ev_lst, ev_not, ev_and, ev_or, ev_if, ev_cbl, ev_btrue, ev_cand, ev_cor, ev_cnot, ev_sli, ev_onone, ev_osome, ev_chain, ev_meth, ev_get2, ev_newK, ev_newT, ev_own, ev_nil, ev_seq, ev_expr, ev_set, ev_ret, ev_retN, ev_cif, ev_brk, ev_ct, ev_asg, ev_put, ev_aug, ev_for, ev_comp, ev_newL, ev_iseq, ev_irange, ev_ienum, ev_yes, Out.bind_ok, Out.bindN_ok, bindS_ok, Tg.set, Tg.sets, List.getElem?_cons_zero, List.getElem?_cons_succ, List.set_cons_zero, List.set_cons_succ, wipeE, List.length_cons, List.length_nil, Nat.reduceAdd, Nat.reduceLeDiff, Nat.reduceEqDiff, ↓reduceIte, Bool.false_eq_true, decide_eq_true_eq, add_int, sub_int, lt_int, gt_int, le_int, ge_int, neg_int, and_int, or_int, xor_int, max2_int, min2_int, mod_pos, fdiv_sm, mul_sm, mul_smr, Int.reduceLT, Int.reduceNeg, int_bl, int_int, sli_tup, idx_e3, hT]))).trans hb
    by_cases b1 : M < 41 ∧ T < 13
    · by_cases b2 : w = 1
      · refine one ⟨.tup [.str "both", g.look, e.look], Builtin.bitAnd g.n e.n, M, T⟩ (okk _ _ (by simp) b1.1 b1.2) (runF_rt (ρ := [some (.ref lp), some (.int c), some (.int ev), none, none, none, none, none]) rfl rfl (start (s1 (st2 ?_ ⟨_, _, rfl⟩))))
        exact seq_rt ((if_t (S' := S) (by simp only [ev_var, ev_con, ev_bin, ev_un, ev_anil, ev_acons, ev_call, ev_tup, ev_lst, ev_not, ev_and, ev_or, ev_if, ev_cbl, ev_btrue, ev_cand, ev_cor, ev_cnot, ev_sli, ev_onone, ev_osome, ev_chain, ev_meth, ev_get2, ev_newK, ev_newT, ev_own, ev_nil, ev_seq, ev_expr, ev_set, ev_ret, ev_retN, ev_cif, ev_brk, ev_ct, ev_asg, ev_put, ev_aug, ev_for, ev_comp, ev_newL, ev_iseq, ev_irange, ev_ienum, ev_yes, Out.bind_ok, Out.bindN_ok, bindS_ok, Tg.set, Tg.sets, List.getElem?_cons_zero, List.getElem?_cons_succ, List.set_cons_zero, List.set_cons_succ, wipeE, List.length_cons, List.length_nil, Nat.reduceAdd, Nat.reduceLeDiff, Nat.reduceEqDiff, ↓reduceIte, Bool.false_eq_true, decide_eq_true_eq, add_int, sub_int, lt_int, gt_int, le_int, ge_int, neg_int, and_int, or_int, xor_int, max2_int, min2_int, mod_pos, fdiv_sm, mul_sm, mul_smr, Int.reduceLT, Int.reduceNeg, int_bl, int_int, sli_tup, eq_int, b1.1, b1.2, b2, decide_true])).trans (ret_of (by simp only [ev_var, ev_con, ev_bin, ev_un, ev_anil, ev_acons, ev_call, ev_tup, ev_lst, ev_not, ev_and, ev_or, ev_if, ev_cbl, ev_btrue, ev_cand, ev_cor, ev_cnot, ev_sli, ev_onone, ev_osome, ev_chain, ev_meth, ev_get2, ev_newK, ev_newT, ev_own, ev_nil, ev_seq, ev_expr, ev_set, ev_ret, ev_retN, ev_cif, ev_brk, ev_ct, ev_asg, ev_put, ev_aug, ev_for, ev_comp, ev_newL, ev_iseq, ev_irange, ev_ienum, ev_yes, Out.bind_ok, Out.bindN_ok, bindS_ok, Tg.set, Tg.sets, List.getElem?_cons_zero, List.getElem?_cons_succ, List.set_cons_zero, List.set_cons_succ, wipeE, List.length_cons, List.length_nil, Nat.reduceAdd, Nat.reduceLeDiff, Nat.reduceEqDiff, ↓reduceIte, Bool.false_eq_true, decide_eq_true_eq, add_int, sub_int, lt_int, gt_int, le_int, ge_int, neg_int, and_int, or_int, xor_int, max2_int, min2_int, mod_pos, fdiv_sm, mul_sm, mul_smr, Int.reduceLT, Int.reduceNeg, int_bl, int_int, sli_tup, idx_e0, idx_e1, sline 1 (by omega), sline 3 (by omega), sline 4 (by omega)]; rfl)))
      · refine one ⟨.tup [.str "either", g.look, e.look], Builtin.bitOr g.n e.n, M, T⟩ (okk _ _ (by simp) b1.1 b1.2) (runF_rt (ρ := [some (.ref lp), some (.int c), some (.int ev), none, none, none, none, none]) rfl rfl (start (s1 (st2 ?_ ⟨_, _, rfl⟩))))
        refine (seq_of ((if_f (S' := S) (by simp only [ev_var, ev_con, ev_bin, ev_un, ev_anil, ev_acons, ev_call, ev_tup, ev_lst, ev_not, ev_and, ev_or, ev_if, ev_cbl, ev_btrue, ev_cand, ev_cor, ev_cnot, ev_sli, ev_onone, ev_osome, ev_chain, ev_meth, ev_get2, ev_newK, ev_newT, ev_own, ev_nil, ev_seq, ev_expr, ev_set, ev_ret, ev_retN, ev_cif, ev_brk, ev_ct, ev_asg, ev_put, ev_aug, ev_for, ev_comp, ev_newL, ev_iseq, ev_irange, ev_ienum, ev_yes, Out.bind_ok, Out.bindN_ok, bindS_ok, Tg.set, Tg.sets, List.getElem?_cons_zero, List.getElem?_cons_succ, List.set_cons_zero, List.set_cons_succ, wipeE, List.length_cons, List.length_nil, Nat.reduceAdd, Nat.reduceLeDiff, Nat.reduceEqDiff, ↓reduceIte, Bool.false_eq_true, decide_eq_true_eq, add_int, sub_int, lt_int, gt_int, le_int, ge_int, neg_int, and_int, or_int, xor_int, max2_int, min2_int, mod_pos, fdiv_sm, mul_sm, mul_smr, Int.reduceLT, Int.reduceNeg, int_bl, int_int, sli_tup, eq_int, b1.1, b1.2, b2, decide_true, decide_false])).trans rfl)).trans ?_
        exact (if_t (S' := S) (by simp only [ev_var, ev_con, ev_bin, ev_un, ev_anil, ev_acons, ev_call, ev_tup, ev_lst, ev_not, ev_and, ev_or, ev_if, ev_cbl, ev_btrue, ev_cand, ev_cor, ev_cnot, ev_sli, ev_onone, ev_osome, ev_chain, ev_meth, ev_get2, ev_newK, ev_newT, ev_own, ev_nil, ev_seq, ev_expr, ev_set, ev_ret, ev_retN, ev_cif, ev_brk, ev_ct, ev_asg, ev_put, ev_aug, ev_for, ev_comp, ev_newL, ev_iseq, ev_irange, ev_ienum, ev_yes, Out.bind_ok, Out.bindN_ok, bindS_ok, Tg.set, Tg.sets, List.getElem?_cons_zero, List.getElem?_cons_succ, List.set_cons_zero, List.set_cons_succ, wipeE, List.length_cons, List.length_nil, Nat.reduceAdd, Nat.reduceLeDiff, Nat.reduceEqDiff, ↓reduceIte, Bool.false_eq_true, decide_eq_true_eq, add_int, sub_int, lt_int, gt_int, le_int, ge_int, neg_int, and_int, or_int, xor_int, max2_int, min2_int, mod_pos, fdiv_sm, mul_sm, mul_smr, Int.reduceLT, Int.reduceNeg, int_bl, int_int, sli_tup, b1.1, b1.2, decide_true])).trans (ret_of (by simp only [ev_var, ev_con, ev_bin, ev_un, ev_anil, ev_acons, ev_call, ev_tup, ev_lst, ev_not, ev_and, ev_or, ev_if, ev_cbl, ev_btrue, ev_cand, ev_cor, ev_cnot, ev_sli, ev_onone, ev_osome, ev_chain, ev_meth, ev_get2, ev_newK, ev_newT, ev_own, ev_nil, ev_seq, ev_expr, ev_set, ev_ret, ev_retN, ev_cif, ev_brk, ev_ct, ev_asg, ev_put, ev_aug, ev_for, ev_comp, ev_newL, ev_iseq, ev_irange, ev_ienum, ev_yes, Out.bind_ok, Out.bindN_ok, bindS_ok, Tg.set, Tg.sets, List.getElem?_cons_zero, List.getElem?_cons_succ, List.set_cons_zero, List.set_cons_succ, wipeE, List.length_cons, List.length_nil, Nat.reduceAdd, Nat.reduceLeDiff, Nat.reduceEqDiff, ↓reduceIte, Bool.false_eq_true, decide_eq_true_eq, add_int, sub_int, lt_int, gt_int, le_int, ge_int, neg_int, and_int, or_int, xor_int, max2_int, min2_int, mod_pos, fdiv_sm, mul_sm, mul_smr, Int.reduceLT, Int.reduceNeg, int_bl, int_int, sli_tup, idx_e0, idx_e1, sline 1 (by omega), sline 3 (by omega), sline 4 (by omega)]; rfl))
    · refine none' (runF_rt (ρ := [some (.ref lp), some (.int c), some (.int ev), none, none, none, none, none]) rfl rfl (start (s1 ?_)))
      refine (seq_of (ρ' := [some (.ref lp), some (.int c), some (.int ev), some (.int w), some e.d, some g.d, some (.int M), some (.int T)]) (S' := S) ((if_t (S' := S) (by simp only [ev_var, ev_con, ev_bin, ev_un, ev_anil, ev_acons, ev_call, ev_tup, ev_lst, ev_not, ev_and, ev_or, ev_if, ev_cbl, ev_btrue, ev_cand, ev_cor, ev_cnot, ev_sli, ev_onone, ev_osome, ev_chain, ev_meth, ev_get2, ev_newK, ev_newT, ev_own, ev_nil, ev_seq, ev_expr, ev_set, ev_ret, ev_retN, ev_cif, ev_brk, ev_ct, ev_asg, ev_put, ev_aug, ev_for, ev_comp, ev_newL, ev_iseq, ev_irange, ev_ienum, ev_yes, Out.bind_ok, Out.bindN_ok, bindS_ok, Tg.set, Tg.sets, List.getElem?_cons_zero, List.getElem?_cons_succ, List.set_cons_zero, List.set_cons_succ, wipeE, List.length_cons, List.length_nil, Nat.reduceAdd, Nat.reduceLeDiff, Nat.reduceEqDiff, ↓reduceIte, Bool.false_eq_true, decide_eq_true_eq, add_int, sub_int, lt_int, gt_int, le_int, ge_int, neg_int, and_int, or_int, xor_int, max2_int, min2_int, mod_pos, fdiv_sm, mul_sm, mul_smr, Int.reduceLT, Int.reduceNeg, int_bl, int_int, sli_tup, ll, q2.1, q2.2, decide_true])).trans ?_)).trans (nothing _)
      refine (seq_of (set_of (d := g.d) (S' := S) (by simp only [ev_var, ev_con, ev_bin, ev_un, ev_anil, ev_acons, ev_call, ev_tup, ev_lst, ev_not, ev_and, ev_or, ev_if, ev_cbl, ev_btrue, ev_cand, ev_cor, ev_cnot, ev_sli, ev_onone, ev_osome, ev_chain, ev_meth, ev_get2, ev_newK, ev_newT, ev_own, ev_nil, ev_seq, ev_expr, ev_set, ev_ret, ev_retN, ev_cif, ev_brk, ev_ct, ev_asg, ev_put, ev_aug, ev_for, ev_comp, ev_newL, ev_iseq, ev_irange, ev_ienum, ev_yes, Out.bind_ok, Out.bindN_ok, bindS_ok, Tg.set, Tg.sets, List.getElem?_cons_zero, List.getElem?_cons_succ, List.set_cons_zero, List.set_cons_succ, wipeE, List.length_cons, List.length_nil, Nat.reduceAdd, Nat.reduceLeDiff, Nat.reduceEqDiff, ↓reduceIte, Bool.false_eq_true, decide_eq_true_eq, add_int, sub_int, lt_int, gt_int, le_int, ge_int, neg_int, and_int, or_int, xor_int, max2_int, min2_int, mod_pos, fdiv_sm, mul_sm, mul_smr, Int.reduceLT, Int.reduceNeg, int_bl, int_int, sli_tup, hl2]))).trans ?_
      refine (seq_of (set_of (d := .int M) (S' := S) (by simp only [ev_var, ev_con, ev_bin, ev_un, ev_anil, ev_acons, ev_call, ev_tup, ev_lst, ev_not, ev_and, ev_or, ev_if, ev_cbl, ev_btrue, ev_cand, ev_cor, ev_cnot, ev_sli, ev_onone, ev_osome, ev_chain, ev_meth, ev_get2, ev_newK, ev_newT, ev_own, ev_nil, ev_seq, ev_expr, ev_set, ev_ret, ev_retN, ev_cif, ev_brk, ev_ct, ev_asg, ev_put, ev_aug, ev_for, ev_comp, ev_newL, ev_iseq, ev_irange, ev_ienum, ev_yes, Out.bind_ok, Out.bindN_ok, bindS_ok, Tg.set, Tg.sets, List.getElem?_cons_zero, List.getElem?_cons_succ, List.set_cons_zero, List.set_cons_succ, wipeE, List.length_cons, List.length_nil, Nat.reduceAdd, Nat.reduceLeDiff, Nat.reduceEqDiff, ↓reduceIte, Bool.false_eq_true, decide_eq_true_eq, add_int, sub_int, lt_int, gt_int, le_int, ge_int, neg_int, and_int, or_int, xor_int, max2_int, min2_int, mod_pos, fdiv_sm, mul_sm, mul_smr, Int.reduceLT, Int.reduceNeg, int_bl, int_int, sli_tup, idx_e2, hM]))).trans ?_
      refine (seq_of (set_of (d := .int T) (S' := S) (by simp only [ev_var, ev_con, ev_bin, ev_un, ev_anil, ev_acons, ev_call, ev_tup, ev_lst, ev_not, ev_and, ev_or, ev_if, ev_cbl, ev_btrue, ev_cand, ev_cor, ev_cnot, ev_sli, ev_onone, ev_osome, ev_chain, ev_meth, ev_get2, ev_newK, ev_newT, ev_own, ev_nil, ev_seq, ev_expr, ev_set, ev_ret, ev_retN, ev_cif, ev_brk, ev_ct, ev_asg, ev_put, ev_aug, ev_for, ev_comp, ev_newL, ev_iseq, ev_irange, ev_ienum, ev_yes, Out.bind_ok, Out.bindN_ok, bindS_ok, Tg.set, Tg.sets, List.getElem?_cons_zero, List.getElem?_cons_succ, List.set_cons_zero, List.set_cons_succ, wipeE, List.length_cons, List.length_nil, Nat.reduceAdd, Nat.reduceLeDiff, Nat.reduceEqDiff, ↓reduceIte, Bool.false_eq_true, decide_eq_true_eq, add_int, sub_int, lt_int, gt_int, le_int, ge_int, neg_int, and_int, or_int, xor_int, max2_int, min2_int, mod_pos, fdiv_sm, mul_sm, mul_smr, Int.reduceLT, Int.reduceNeg, int_bl, int_int, sli_tup, idx_e3, hT]))).trans ?_
      by_cases c1 : M < 41
      · have c2 : ¬ T < 13 := fun z => b1 ⟨c1, z⟩
        refine (seq_of ((if_f (S' := S) (by simp only [ev_var, ev_con, ev_bin, ev_un, ev_anil, ev_acons, ev_call, ev_tup, ev_lst, ev_not, ev_and, ev_or, ev_if, ev_cbl, ev_btrue, ev_cand, ev_cor, ev_cnot, ev_sli, ev_onone, ev_osome, ev_chain, ev_meth, ev_get2, ev_newK, ev_newT, ev_own, ev_nil, ev_seq, ev_expr, ev_set, ev_ret, ev_retN, ev_cif, ev_brk, ev_ct, ev_asg, ev_put, ev_aug, ev_for, ev_comp, ev_newL, ev_iseq, ev_irange, ev_ienum, ev_yes, Out.bind_ok, Out.bindN_ok, bindS_ok, Tg.set, Tg.sets, List.getElem?_cons_zero, List.getElem?_cons_succ, List.set_cons_zero, List.set_cons_succ, wipeE, List.length_cons, List.length_nil, Nat.reduceAdd, Nat.reduceLeDiff, Nat.reduceEqDiff, ↓reduceIte, Bool.false_eq_true, decide_eq_true_eq, add_int, sub_int, lt_int, gt_int, le_int, ge_int, neg_int, and_int, or_int, xor_int, max2_int, min2_int, mod_pos, fdiv_sm, mul_sm, mul_smr, Int.reduceLT, Int.reduceNeg, int_bl, int_int, sli_tup, c1, c2, decide_true, decide_false])).trans rfl)).trans ?_
        exact (if_f (S' := S) (by simp only [ev_var, ev_con, ev_bin, ev_un, ev_anil, ev_acons, ev_call, ev_tup, ev_lst, ev_not, ev_and, ev_or, ev_if, ev_cbl, ev_btrue, ev_cand, ev_cor, ev_cnot, ev_sli, ev_onone, ev_osome, ev_chain, ev_meth, ev_get2, ev_newK, ev_newT, ev_own, ev_nil, ev_seq, ev_expr, ev_set, ev_ret, ev_retN, ev_cif, ev_brk, ev_ct, ev_asg, ev_put, ev_aug, ev_for, ev_comp, ev_newL, ev_iseq, ev_irange, ev_ienum, ev_yes, Out.bind_ok, Out.bindN_ok, bindS_ok, Tg.set, Tg.sets, List.getElem?_cons_zero, List.getElem?_cons_succ, List.set_cons_zero, List.set_cons_succ, wipeE, List.length_cons, List.length_nil, Nat.reduceAdd, Nat.reduceLeDiff, Nat.reduceEqDiff, ↓reduceIte, Bool.false_eq_true, decide_eq_true_eq, add_int, sub_int, lt_int, gt_int, le_int, ge_int, neg_int, and_int, or_int, xor_int, max2_int, min2_int, mod_pos, fdiv_sm, mul_sm, mul_smr, Int.reduceLT, Int.reduceNeg, int_bl, int_int, sli_tup, c1, c2, decide_true, decide_false])).trans rfl
      · refine (seq_of ((if_f (S' := S) (by simp only [ev_var, ev_con, ev_bin, ev_un, ev_anil, ev_acons, ev_call, ev_tup, ev_lst, ev_not, ev_and, ev_or, ev_if, ev_cbl, ev_btrue, ev_cand, ev_cor, ev_cnot, ev_sli, ev_onone, ev_osome, ev_chain, ev_meth, ev_get2, ev_newK, ev_newT, ev_own, ev_nil, ev_seq, ev_expr, ev_set, ev_ret, ev_retN, ev_cif, ev_brk, ev_ct, ev_asg, ev_put, ev_aug, ev_for, ev_comp, ev_newL, ev_iseq, ev_irange, ev_ienum, ev_yes, Out.bind_ok, Out.bindN_ok, bindS_ok, Tg.set, Tg.sets, List.getElem?_cons_zero, List.getElem?_cons_succ, List.set_cons_zero, List.set_cons_succ, wipeE, List.length_cons, List.length_nil, Nat.reduceAdd, Nat.reduceLeDiff, Nat.reduceEqDiff, ↓reduceIte, Bool.false_eq_true, decide_eq_true_eq, add_int, sub_int, lt_int, gt_int, le_int, ge_int, neg_int, and_int, or_int, xor_int, max2_int, min2_int, mod_pos, fdiv_sm, mul_sm, mul_smr, Int.reduceLT, Int.reduceNeg, int_bl, int_int, sli_tup, c1, decide_false])).trans rfl)).trans ?_
        exact (if_f (S' := S) (by simp only [ev_var, ev_con, ev_bin, ev_un, ev_anil, ev_acons, ev_call, ev_tup, ev_lst, ev_not, ev_and, ev_or, ev_if, ev_cbl, ev_btrue, ev_cand, ev_cor, ev_cnot, ev_sli, ev_onone, ev_osome, ev_chain, ev_meth, ev_get2, ev_newK, ev_newT, ev_own, ev_nil, ev_seq, ev_expr, ev_set, ev_ret, ev_retN, ev_cif, ev_brk, ev_ct, ev_asg, ev_put, ev_aug, ev_for, ev_comp, ev_newL, ev_iseq, ev_irange, ev_ienum, ev_yes, Out.bind_ok, Out.bindN_ok, bindS_ok, Tg.set, Tg.sets, List.getElem?_cons_zero, List.getElem?_cons_succ, List.set_cons_zero, List.set_cons_succ, wipeE, List.length_cons, List.length_nil, Nat.reduceAdd, Nat.reduceLeDiff, Nat.reduceEqDiff, ↓reduceIte, Bool.false_eq_true, decide_eq_true_eq, add_int, sub_int, lt_int, gt_int, le_int, ge_int, neg_int, and_int, or_int, xor_int, max2_int, min2_int, mod_pos, fdiv_sm, mul_sm, mul_smr, Int.reduceLT, Int.reduceNeg, int_bl, int_int, sli_tup, c1, decide_false])).trans rfl
  · refine none' (runF_rt (ρ := [some (.ref lp), some (.int c), some (.int ev), none, none, none, none, none]) rfl rfl (start (s1 ?_)))
    refine (seq_of ((if_f (S' := S) ?_).trans rfl)).trans (nothing _)
    by_cases z1 : w < 3
    · have z2 : ¬ (1 : Int) < (((ys ++ [e]).map En.d).length : Int) := fun z => q2 ⟨z1, z⟩
      simp only [ev_var, ev_con, ev_bin, ev_un, ev_anil, ev_acons, ev_call, ev_tup, ev_lst, ev_not, ev_and, ev_or, ev_if, ev_cbl, ev_btrue, ev_cand, ev_cor, ev_cnot, ev_sli, ev_onone, ev_osome, ev_chain, ev_meth, ev_get2, ev_newK, ev_newT, ev_own, ev_nil, ev_seq, ev_expr, ev_set, ev_ret, ev_retN, ev_cif, ev_brk, ev_ct, ev_asg, ev_put, ev_aug, ev_for, ev_comp, ev_newL, ev_iseq, ev_irange, ev_ienum, ev_yes, Out.bind_ok, Out.bindN_ok, bindS_ok, Tg.set, Tg.sets, List.getElem?_cons_zero, List.getElem?_cons_succ, List.set_cons_zero, List.set_cons_succ, wipeE, List.length_cons, List.length_nil, Nat.reduceAdd, Nat.reduceLeDiff, Nat.reduceEqDiff, ↓reduceIte, Bool.false_eq_true, decide_eq_true_eq, add_int, sub_int, lt_int, gt_int, le_int, ge_int, neg_int, and_int, or_int, xor_int, max2_int, min2_int, mod_pos, fdiv_sm, mul_sm, mul_smr, Int.reduceLT, Int.reduceNeg, int_bl, int_int, sli_tup, ll, z1, z2, decide_true, decide_false]
    · simp only [ev_var, ev_con, ev_bin, ev_un, ev_anil, ev_acons, ev_call, ev_tup, ev_lst, ev_not, ev_and, ev_or, ev_if, ev_cbl, ev_btrue, ev_cand, ev_cor, ev_cnot, ev_sli, ev_onone, ev_osome, ev_chain, ev_meth, ev_get2, ev_newK, ev_newT, ev_own, ev_nil, ev_seq, ev_expr, ev_set, ev_ret, ev_retN, ev_cif, ev_brk, ev_ct, ev_asg, ev_put, ev_aug, ev_for, ev_comp, ev_newL, ev_iseq, ev_irange, ev_ienum, ev_yes, Out.bind_ok, Out.bindN_ok, bindS_ok, Tg.set, Tg.sets, List.getElem?_cons_zero, List.getElem?_cons_succ, List.set_cons_zero, List.set_cons_succ, wipeE, List.length_cons, List.length_nil, Nat.reduceAdd, Nat.reduceLeDiff, Nat.reduceEqDiff, ↓reduceIte, Bool.false_eq_true, decide_eq_true_eq, add_int, sub_int, lt_int, gt_int, le_int, ge_int, neg_int, and_int, or_int, xor_int, max2_int, min2_int, mod_pos, fdiv_sm, mul_sm, mul_smr, Int.reduceLT, Int.reduceNeg, int_bl, int_int, sli_tup, z1, decide_false]
/-! the pile: before, many, way, pile -/
theorem mem_cut {α : Type} {xs : List α} {lo hi : Option Int} {x : α} (h : x ∈ cutD xs lo hi) : x ∈ xs := by
  unfold cutD at h
  exact List.mem_of_mem_drop (List.mem_of_mem_take h)
theorem cut_map {α β : Type} (g : α → β) (xs : List α) (lo hi : Option Int) : cutD (xs.map g) lo hi = (cutD xs lo hi).map g := by
  unfold cutD; rw [List.length_map, ← List.map_drop, ← List.map_take]
theorem cut_len {α : Type} (xs : List α) (lo hi : Option Int) : (cutD xs lo hi).length ≤ xs.length := by
  unfold cutD; rw [List.length_take, List.length_drop]; omega
theorem cut_drop {α : Type} {xs : List α} {k : Nat} (h : k ≤ xs.length) : cutD xs (some (k : Int)) none = xs.drop k := by
  have e : HT.sIx xs.length 0 (some (k : Int)) = k := by unfold HT.sIx; simp only; split <;> omega
  unfold cutD
  rw [e, List.take_of_length_le]
  rw [List.length_drop]; unfold HT.sIx; simp only; omega
theorem sli_ref {S : Sto} {l : Nat} {xs : List Dv} (h : S[l]? = some (.lst xs)) (lo hi : Option Int) : sliD (.ref l) lo hi S = newL (cutD xs lo hi) S := by simp only [sliD, lst_ref h]
theorem comp_map {l : Nat} {ds : List Dv} {S : Sto} {t : Tg} {y : RE} {ρ : PL.Env} (g : Dv → Dv) (h : S[l]? = some (.lst ds)) (hl : ds.length ≤ sizeLine) (hy : ∀ d ∈ ds, ∃ ρ1, t.set d ρ = some ρ1 ∧ y ρ1 S = .ok (g d) S) : compL (Ck.ls l ds).ok t cYes y ρ ds [] S = .ok (ds.map g) S := by
  obtain ⟨acc, S1, e1, hS, ha⟩ := comp_gen (ck := (Ck.ls l ds).ok) (t := t) (c := cYes) (y := y) (acc := []) (S := S) (fun i acc S' => S' = S ∧ acc = (ds.take i).map g) ds ρ
    (fun i d acc S' hd ⟨hS, ha⟩ => by
      subst hS
      obtain ⟨ρ1, e1, e2⟩ := hy d (List.mem_of_getElem? hd)
      have hi := (List.getElem?_eq_some_iff.mp hd).1
      refine ⟨h, ρ1, e1, true, S', rfl, fun _ => ⟨g d, S', e2, by rw [ha, List.length_map, List.length_take]; omega, rfl, ?_⟩, fun z => nomatch z⟩
      rw [ha, List.take_add_one, hd, List.map_append]; rfl) (fun acc S' ⟨hS, _⟩ => by subst hS; exact h) ⟨rfl, rfl⟩
  subst hS
  rw [e1, ha, List.take_of_length_le (Nat.le_refl _)]
theorem ints_map : ∀ ns : List Int, intsOf (ns.map .int) = some ns
  | [] => rfl
  | n :: ns => by show (intsOf (ns.map .int)).map _ = _; rw [ints_map ns]; rfl
theorem foldl_max_ge : ∀ (ns : List Int) (a : Int), a ≤ ns.foldl max a ∧ ∀ x ∈ ns, x ≤ ns.foldl max a
  | [], a => ⟨Int.le_refl _, by simp⟩
  | n :: ns, a => by
    obtain ⟨h1, h2⟩ := foldl_max_ge ns (max a n)
    rw [List.foldl_cons]
    refine ⟨by omega, fun x hx => ?_⟩
    rcases List.mem_cons.mp hx with rfl | hx
    · omega
    · exact h2 x hx
theorem max_run {ns : List Int} (h : ns ≠ []) : ∃ m, (∀ x ∈ ns, x ≤ m) ∧ ∀ (S : Sto) (l : Nat), S[l]? = some (.lst (ns.map .int)) → maxD [.ref l] S = .ok (.int m) S := by
  obtain ⟨a, r, rfl⟩ := List.exists_cons_of_ne_nil h
  refine ⟨r.foldl max a, fun x hx => ?_, fun S l hl => ?_⟩
  · obtain ⟨h1, h2⟩ := foldl_max_ge r a
    rcases List.mem_cons.mp hx with rfl | hx
    · exact h1
    · exact h2 x hx
  · simp only [maxD, lst_ref hl, Option.bind_some, ints_map, maxI]
theorem sum_run {ns : List Int} {S : Sto} {l : Nat} (hl : S[l]? = some (.lst (ns.map .int))) : sumD [.ref l] S = .ok (.int ns.sum) S := by
  simp only [sumD, lst_ref hl, Option.bind_some, ints_map]
theorem before_run {f lm : Nat} {b : Int} {ms : List Int} {S : Sto} (hm : S[lm]? = some (.lst (ms.map .int))) (hl : ms.length ≤ 1000) : ∃ r : Int, F (f + 1) .l_before [.ref lm, .int b] S = .ok (.int r) S := by
  rw [F_l_before]
  obtain ⟨ρ', S', e, r, v3, v4, rfl, rfl⟩ := loop_all (ck := (Ck.ls lm (ms.map .int)).ok) (t := .tp [.nm 3, .nm 4]) (b := b_l_before_1 (F f)) (S := S) (ρ := [some (.ref lm), some (.int b), some (.int 0), none, none])
    (fun i ρ S' => ∃ (r : Int) (v3 v4 : Option Dv), ρ = [some (.ref lm), some (.int b), some (.int r), v3, v4] ∧ S' = S) (enumL (ms.map .int)) ⟨0, none, none, rfl, rfl⟩
    (fun i v ρ S' hv ⟨r, v3, v4, hρ, hS⟩ => by
      subst hρ hS
      rw [enumL_get, List.getElem?_map, Option.map_map, Option.map_eq_some_iff] at hv
      obtain ⟨m, hm0, rfl⟩ := hv
      have hi := (List.getElem?_eq_some_iff.mp hm0).1
      have sh := shl01 (S := S') (i := 1) (j := ((0 + i : Nat) : Int)) (.inr rfl) (by omega) (by omega)
      refine ⟨hm, _, rfl, ?_⟩
      by_cases q : Builtin.bitAnd m b = 0
      · refine ⟨[some (.ref lm), some (.int b), some (.int r), some (.int ((0 + i : Nat) : Int)), some (.int m)], S', .inl ?_, _, _, _, rfl, rfl⟩
        unfold b_l_before_1
        exact (if_f (S' := S') (by simp only [ev_var, ev_con, ev_bin, ev_un, ev_anil, ev_acons, ev_call, ev_tup, ev_lst, ev_not, ev_and, ev_or, ev_if, ev_cbl, ev_btrue, ev_cand, ev_cor, ev_cnot, ev_sli, ev_onone, ev_osome, ev_chain, ev_meth, ev_get2, ev_newK, ev_newT, ev_own, ev_nil, ev_seq, ev_expr, ev_set, ev_ret, ev_retN, ev_cif, ev_brk, ev_ct, ev_asg, ev_put, ev_aug, ev_for, ev_comp, ev_newL, ev_iseq, ev_irange, ev_ienum, ev_yes, Out.bind_ok, Out.bindN_ok, bindS_ok, Tg.set, Tg.sets, List.getElem?_cons_zero, List.getElem?_cons_succ, List.set_cons_zero, List.set_cons_succ, wipeE, List.length_cons, List.length_nil, Nat.reduceAdd, Nat.reduceLeDiff, Nat.reduceEqDiff, ↓reduceIte, Bool.false_eq_true, decide_eq_true_eq, add_int, sub_int, lt_int, gt_int, le_int, ge_int, neg_int, and_int, or_int, xor_int, max2_int, min2_int, mod_pos, fdiv_sm, mul_sm, mul_smr, Int.reduceLT, Int.reduceNeg, int_bl, int_int, sli_tup, ne_int, q, decide_true, Bool.not_true])).trans rfl
      · refine ⟨[some (.ref lm), some (.int b), some (.int (Builtin.bitOr r (1 * 2 ^ ((0 + i : Nat) : Int).toNat))), some (.int ((0 + i : Nat) : Int)), some (.int m)], S', .inl ?_, _, _, _, rfl, rfl⟩
        unfold b_l_before_1
        exact (if_t (S' := S') (by simp only [ev_var, ev_con, ev_bin, ev_un, ev_anil, ev_acons, ev_call, ev_tup, ev_lst, ev_not, ev_and, ev_or, ev_if, ev_cbl, ev_btrue, ev_cand, ev_cor, ev_cnot, ev_sli, ev_onone, ev_osome, ev_chain, ev_meth, ev_get2, ev_newK, ev_newT, ev_own, ev_nil, ev_seq, ev_expr, ev_set, ev_ret, ev_retN, ev_cif, ev_brk, ev_ct, ev_asg, ev_put, ev_aug, ev_for, ev_comp, ev_newL, ev_iseq, ev_irange, ev_ienum, ev_yes, Out.bind_ok, Out.bindN_ok, bindS_ok, Tg.set, Tg.sets, List.getElem?_cons_zero, List.getElem?_cons_succ, List.set_cons_zero, List.set_cons_succ, wipeE, List.length_cons, List.length_nil, Nat.reduceAdd, Nat.reduceLeDiff, Nat.reduceEqDiff, ↓reduceIte, Bool.false_eq_true, decide_eq_true_eq, add_int, sub_int, lt_int, gt_int, le_int, ge_int, neg_int, and_int, or_int, xor_int, max2_int, min2_int, mod_pos, fdiv_sm, mul_sm, mul_smr, Int.reduceLT, Int.reduceNeg, int_bl, int_int, sli_tup, ne_int, q, decide_false, Bool.not_false])).trans (set_of (by simp only [ev_var, ev_con, ev_bin, ev_un, ev_anil, ev_acons, ev_call, ev_tup, ev_lst, ev_not, ev_and, ev_or, ev_if, ev_cbl, ev_btrue, ev_cand, ev_cor, ev_cnot, ev_sli, ev_onone, ev_osome, ev_chain, ev_meth, ev_get2, ev_newK, ev_newT, ev_own, ev_nil, ev_seq, ev_expr, ev_set, ev_ret, ev_retN, ev_cif, ev_brk, ev_ct, ev_asg, ev_put, ev_aug, ev_for, ev_comp, ev_newL, ev_iseq, ev_irange, ev_ienum, ev_yes, Out.bind_ok, Out.bindN_ok, bindS_ok, Tg.set, Tg.sets, List.getElem?_cons_zero, List.getElem?_cons_succ, List.set_cons_zero, List.set_cons_succ, wipeE, List.length_cons, List.length_nil, Nat.reduceAdd, Nat.reduceLeDiff, Nat.reduceEqDiff, ↓reduceIte, Bool.false_eq_true, decide_eq_true_eq, add_int, sub_int, lt_int, gt_int, le_int, ge_int, neg_int, and_int, or_int, xor_int, max2_int, min2_int, mod_pos, fdiv_sm, mul_sm, mul_smr, Int.reduceLT, Int.reduceNeg, int_bl, int_int, sli_tup, sh])))
    (fun ρ S' ⟨r, v3, v4, hρ, hS⟩ => by subst hS; exact hm)
  refine ⟨r, runF_rt (ρ := [some (.ref lm), some (.int b), none, none, none]) rfl rfl ?_⟩
  unfold c_l_before
  refine (seq_of (set_of rfl)).trans ?_
  have ez : (iEnumA (aCons (eVar 0) (aNil))) [some (.ref lm), some (.int b), some (.int 0), none, none] S' = .ok (enumL (ms.map .int), .ls lm (ms.map .int)) S' := by
    simp only [iEnumA, ev_var, ev_con, ev_bin, ev_un, ev_anil, ev_acons, ev_call, ev_tup, ev_lst, ev_not, ev_and, ev_or, ev_if, ev_cbl, ev_btrue, ev_cand, ev_cor, ev_cnot, ev_sli, ev_onone, ev_osome, ev_chain, ev_meth, ev_get2, ev_newK, ev_newT, ev_own, ev_nil, ev_seq, ev_expr, ev_set, ev_ret, ev_retN, ev_cif, ev_brk, ev_ct, ev_asg, ev_put, ev_aug, ev_for, ev_comp, ev_newL, ev_iseq, ev_irange, ev_ienum, ev_yes, Out.bind_ok, Out.bindN_ok, bindS_ok, Tg.set, Tg.sets, List.getElem?_cons_zero, List.getElem?_cons_succ, List.set_cons_zero, List.set_cons_succ, wipeE, List.length_cons, List.length_nil, Nat.reduceAdd, Nat.reduceLeDiff, Nat.reduceEqDiff, ↓reduceIte, Bool.false_eq_true, decide_eq_true_eq, add_int, sub_int, lt_int, gt_int, le_int, ge_int, neg_int, and_int, or_int, xor_int, max2_int, min2_int, mod_pos, fdiv_sm, mul_sm, mul_smr, Int.reduceLT, Int.reduceNeg, int_bl, int_int, sli_tup, seq_lst (lst_ref hm)]; rfl
  exact (seq_of ((for_of ez).trans e)).trans (ret_of (by simp only [ev_var, ev_con, ev_bin, ev_un, ev_anil, ev_acons, ev_call, ev_tup, ev_lst, ev_not, ev_and, ev_or, ev_if, ev_cbl, ev_btrue, ev_cand, ev_cor, ev_cnot, ev_sli, ev_onone, ev_osome, ev_chain, ev_meth, ev_get2, ev_newK, ev_newT, ev_own, ev_nil, ev_seq, ev_expr, ev_set, ev_ret, ev_retN, ev_cif, ev_brk, ev_ct, ev_asg, ev_put, ev_aug, ev_for, ev_comp, ev_newL, ev_iseq, ev_irange, ev_ienum, ev_yes, Out.bind_ok, Out.bindN_ok, bindS_ok, Tg.set, Tg.sets, List.getElem?_cons_zero, List.getElem?_cons_succ, List.set_cons_zero, List.set_cons_succ, wipeE, List.length_cons, List.length_nil, Nat.reduceAdd, Nat.reduceLeDiff, Nat.reduceEqDiff, ↓reduceIte, Bool.false_eq_true, decide_eq_true_eq, add_int, sub_int, lt_int, gt_int, le_int, ge_int, neg_int, and_int, or_int, xor_int, max2_int, min2_int, mod_pos, fdiv_sm, mul_sm, mul_smr, Int.reduceLT, Int.reduceNeg, int_bl, int_int, sli_tup]))
def manyV (c : Int) : Int := ([1, 2, 3, 1, 2, 3, 2, 7] : List Int).getD (mx c 15 % 8).toNat 1
theorem many_at (c : Int) : 1 ≤ manyV c ∧ manyV c ≤ 7 ∧ L2.atI ([.int 1, .int 2, .int 3, .int 1, .int 2, .int 3, .int 2, .int 7] : List Dv) (mx c 15 % 8) = some (.int (manyV c)) := by
  unfold manyV
  have h0 := Int.emod_nonneg (mx c 15) (b := 8) (by omega)
  have h1 := Int.emod_lt_of_pos (mx c 15) (b := 8) (by omega)
  generalize mx c 15 % 8 = i at *
  rcases (show i = 0 ∨ i = 1 ∨ i = 2 ∨ i = 3 ∨ i = 4 ∨ i = 5 ∨ i = 6 ∨ i = 7 by omega) with rfl | rfl | rfl | rfl | rfl | rfl | rfl | rfl <;> exact ⟨by decide, by decide, rfl⟩
def many8 : List Dv := [.int 1, .int 2, .int 3, .int 1, .int 2, .int 3, .int 2, .int 7]
theorem many_run {f lp : Nat} {c : Int} {xs : List Dv} {S : Sto} (hp : S[lp]? = some (.lst xs)) : F (f + 2) .l_many [.ref lp, .int c] S = .ok (.int (min (xs.length : Int) (manyV c))) (S ++ [Ob.lst many8]) := by
  rw [F_l_many]
  refine runF_rt (ρ := [some (.ref lp), some (.int c)]) rfl rfl ?_
  unfold c_l_many
  have ix : idxD (.ref S.length) (.int (mx c 15 % 8)) (S ++ [Ob.lst many8]) = .ok (.int (manyV c)) (S ++ [Ob.lst many8]) := idx_ref (at_new _ _) (many_at c).2.2
  refine ret_of ?_
  have e8 : ([.int 1, .int 2, .int 3, .int 1, .int 2, .int 3, .int 2, .int 7] : List Dv) = many8 := rfl
  have e9 : many8.length ≤ sizeLine := sline 8 (by omega)
  simp only [ev_var, ev_con, ev_bin, ev_un, ev_anil, ev_acons, ev_call, ev_tup, ev_lst, ev_not, ev_and, ev_or, ev_if, ev_cbl, ev_btrue, ev_cand, ev_cor, ev_cnot, ev_sli, ev_onone, ev_osome, ev_chain, ev_meth, ev_get2, ev_newK, ev_newT, ev_own, ev_nil, ev_seq, ev_expr, ev_set, ev_ret, ev_retN, ev_cif, ev_brk, ev_ct, ev_asg, ev_put, ev_aug, ev_for, ev_comp, ev_newL, ev_iseq, ev_irange, ev_ienum, ev_yes, Out.bind_ok, Out.bindN_ok, bindS_ok, Tg.set, Tg.sets, List.getElem?_cons_zero, List.getElem?_cons_succ, List.set_cons_zero, List.set_cons_succ, wipeE, List.length_cons, List.length_nil, Nat.reduceAdd, Nat.reduceLeDiff, Nat.reduceEqDiff, ↓reduceIte, Bool.false_eq_true, decide_eq_true_eq, add_int, sub_int, lt_int, gt_int, le_int, ge_int, neg_int, and_int, or_int, xor_int, max2_int, min2_int, mod_pos, fdiv_sm, mul_sm, mul_smr, Int.reduceLT, Int.reduceNeg, int_bl, int_int, sli_tup, len_ref hp, e8, e9, mix_run (f := f) (c := c) (k := 15) (by omega) (by omega), ix]
structure Reach (S : Sto) (lr : Nat) : Prop where
  ex : ∃ kvs, S[lr]? = some (.dk kvs) ∧ ∀ go ∈ goW, ∃ (l : Nat) (ms : List Int), gat kvs (.inr go) = some (.ref l) ∧ S[l]? = some (.lst (ms.map .int)) ∧ ms.length ≤ 1000
theorem Reach.gr {S S' : Sto} {lr : Nat} (h : Reach S lr) (g : Gr S S') : Reach S' lr := by
  obtain ⟨kvs, hk, hh⟩ := h.ex
  exact ⟨kvs, g.at hk, fun go hgo => let ⟨l, ms, a, b, c⟩ := hh go hgo; ⟨l, ms, a, g.at b, c⟩⟩
theorem Reach.get {S : Sto} {lr : Nat} (h : Reach S lr) {go : Str} (hgo : go ∈ goW) : ∃ (l : Nat) (ms : List Int), idxD (.ref lr) (.str go) S = .ok (.ref l) S ∧ S[l]? = some (.lst (ms.map .int)) ∧ ms.length ≤ 1000 := by
  obtain ⟨kvs, hk, hh⟩ := h.ex
  obtain ⟨l, ms, a, b, c⟩ := hh go hgo
  refine ⟨l, ms, ?_, b, c⟩
  have : dget S (.ref lr) (.str go) = some (some (.ref l)) := by simp only [dget, hk, keyOf, Option.map_some, a]
  simp only [idxD, this]
theorem way_run {f lp lr : Nat} {c ev : Int} {xs : List En} {S : Sto} (hp : S[lp]? = some (.lst (xs.map En.d))) (hx : xs ≠ []) (hxl : xs.length ≤ 1000) (hok : ∀ e ∈ xs, Ok e) (hr : Reach S lr) : One (F (f + 3) .l_way [.ref lp, .int c, .int ev, .ref lr] S) S (fun _ => True) := by
  rw [F_l_way]
  have hm := many_run (f := f) (c := c) hp
  obtain ⟨v1, v7, _⟩ := many_at c
  have hx0 : 0 < xs.length := List.length_pos_iff.mpr hx
  rw [List.length_map] at hm
  obtain ⟨k, hk⟩ := Int.eq_ofNat_of_zero_le (show 0 ≤ min (xs.length : Int) (manyV c) by omega)
  rw [hk] at hm
  have k1 : 1 ≤ k := by omega
  have k7 : k ≤ 7 := by omega
  have kl : k ≤ xs.length := by omega
  generalize hS1 : S ++ [Ob.lst many8] = S1 at hm
  have g1 : Gr S S1 := by rw [← hS1]; exact gr_app _ _
  have hp1 := g1.at hp
  have hc : cutD (xs.map En.d) (some ((xs.length : Int) - (k : Int))) none = (xs.drop (xs.length - k)).map En.d := by
    rw [cut_map, show (xs.length : Int) - (k : Int) = ((xs.length - k : Nat) : Int) by omega, cut_drop (by omega)]
  generalize hzs : xs.drop (xs.length - k) = zs at hc
  have zok : ∀ e ∈ zs, Ok e := fun e he => hok e (by rw [← hzs] at he; exact List.mem_of_mem_drop he)
  have zl : zs.length = k := by rw [← hzs, List.length_drop]; omega
  have hs := sli_ref hp1 (some ((xs.length : Int) - (k : Int))) none
  rw [hc, ev_newL] at hs
  have lsome := at_new S1 (.lst (zs.map En.d))
  have g2 : Gr S1 (S1 ++ [Ob.lst (zs.map En.d)]) := gr_app _ _
  generalize hS2 : S1 ++ [Ob.lst (zs.map En.d)] = S2 at hs lsome g2
  have cm : ∀ {T : Sto} {ρ : PL.Env} {t : Tg} {y : RE} (g : En → Int), T[S1.length]? = some (.lst (zs.map En.d)) → (∀ e ∈ zs, ∃ ρ1, t.set e.d ρ = some ρ1 ∧ y ρ1 T = .ok (.int (g e)) T) → compL (Ck.ls S1.length (zs.map En.d)).ok t cYes y ρ (zs.map En.d) [] T = .ok ((zs.map g).map .int) T := fun {T ρ t y} g ht hy => by
    let gg : Dv → Dv := fun d => match d with | .tup [l, .int n, .int m, .int t] => .int (g ⟨l, n, m, t⟩) | _ => d
    have hgg : ∀ e : En, gg e.d = .int (g e) := fun e => rfl
    rw [comp_map gg ht (by rw [List.length_map]; exact sline _ (by omega)) (fun d hd => by
      obtain ⟨e, he, rfl⟩ := List.mem_map.mp hd
      rw [hgg]; exact hy e he), List.map_map, List.map_map]
    rfl
  have sm0 : ∀ ys : List En, (∀ e ∈ ys, Ok e) → 0 ≤ (ys.map En.m).sum := by
    intro ys h
    induction ys with
    | nil => simp
    | cons e ys ih => have := (h e (by simp)).m1; have := ih fun e he => h e (by simp [he]); simp; omega
  have hsum := sm0 zs zok
  have zne : zs.map En.t ≠ [] := fun z => by have := congrArg List.length z; simp at this; subst this; simp at zl; omega
  obtain ⟨T, hT, eT⟩ := max_run zne
  generalize hM : 1 + (zs.map En.m).sum = M
  have T1 : 1 ≤ T := by
    obtain ⟨e, he⟩ := List.exists_mem_of_ne_nil zs (fun z => by subst z; simp at zl; omega)
    have := (zok e he).t1
    have := hT e.t (List.mem_map_of_mem he)
    omega
  have lw2 := len_ref hp1
  rw [List.length_map] at lw2
  have e1 : iSeq (eVar 5) [some (.ref lp), some (.int c), some (.int ev), some (.ref lr), some (.int k), some (.ref S1.length), none, none, none, none, none, none, none] S2 = .ok (zs.map En.d, .ls S1.length (zs.map En.d)) S2 := by simp only [ev_var, ev_con, ev_bin, ev_un, ev_anil, ev_acons, ev_call, ev_tup, ev_lst, ev_not, ev_and, ev_or, ev_if, ev_cbl, ev_btrue, ev_cand, ev_cor, ev_cnot, ev_sli, ev_onone, ev_osome, ev_chain, ev_meth, ev_get2, ev_newK, ev_newT, ev_own, ev_nil, ev_seq, ev_expr, ev_set, ev_ret, ev_retN, ev_cif, ev_brk, ev_ct, ev_asg, ev_put, ev_aug, ev_for, ev_comp, ev_newL, ev_iseq, ev_irange, ev_ienum, ev_yes, Out.bind_ok, Out.bindN_ok, bindS_ok, Tg.set, Tg.sets, List.getElem?_cons_zero, List.getElem?_cons_succ, List.set_cons_zero, List.set_cons_succ, wipeE, List.length_cons, List.length_nil, Nat.reduceAdd, Nat.reduceLeDiff, Nat.reduceEqDiff, ↓reduceIte, Bool.false_eq_true, decide_eq_true_eq, add_int, sub_int, lt_int, gt_int, le_int, ge_int, neg_int, and_int, or_int, xor_int, max2_int, min2_int, mod_pos, fdiv_sm, mul_sm, mul_smr, Int.reduceLT, Int.reduceNeg, int_bl, int_int, sli_tup, walk_ref lsome]
  have c1 := cm (ρ := wipeE [some (.ref lp), some (.int c), some (.int ev), some (.ref lr), some (.int k), some (.ref S1.length), none, none, none, none, none, none, none] [11]) (t := .nm 11) (y := y_l_way_1 (F (f + 2))) En.m lsome (fun e _ => ⟨_, rfl, by unfold y_l_way_1; simp only [ev_var, ev_con, ev_bin, ev_un, ev_anil, ev_acons, ev_call, ev_tup, ev_lst, ev_not, ev_and, ev_or, ev_if, ev_cbl, ev_btrue, ev_cand, ev_cor, ev_cnot, ev_sli, ev_onone, ev_osome, ev_chain, ev_meth, ev_get2, ev_newK, ev_newT, ev_own, ev_nil, ev_seq, ev_expr, ev_set, ev_ret, ev_retN, ev_cif, ev_brk, ev_ct, ev_asg, ev_put, ev_aug, ev_for, ev_comp, ev_newL, ev_iseq, ev_irange, ev_ienum, ev_yes, Out.bind_ok, Out.bindN_ok, bindS_ok, Tg.set, Tg.sets, List.getElem?_cons_zero, List.getElem?_cons_succ, List.set_cons_zero, List.set_cons_succ, wipeE, List.length_cons, List.length_nil, Nat.reduceAdd, Nat.reduceLeDiff, Nat.reduceEqDiff, ↓reduceIte, Bool.false_eq_true, decide_eq_true_eq, add_int, sub_int, lt_int, gt_int, le_int, ge_int, neg_int, and_int, or_int, xor_int, max2_int, min2_int, mod_pos, fdiv_sm, mul_sm, mul_smr, Int.reduceLT, Int.reduceNeg, int_bl, int_int, sli_tup, idx_e2]⟩)
  have g3 : Gr S2 (S2 ++ [Ob.lst ((zs.map En.m).map .int)]) := gr_app _ _
  have l3 := at_new S2 (.lst ((zs.map En.m).map .int))
  have s3 := sum_run l3
  generalize hS3 : S2 ++ [Ob.lst ((zs.map En.m).map .int)] = S3 at g3 l3 s3
  have lsome3 := g3.at lsome
  have c2 := cm (ρ := wipeE [some (.ref lp), some (.int c), some (.int ev), some (.ref lr), some (.int k), some (.ref S1.length), some (.int M), none, none, none, none, none, none] [11]) (t := .nm 11) (y := y_l_way_2 (F (f + 2))) En.t lsome3 (fun e _ => ⟨_, rfl, by unfold y_l_way_2; simp only [ev_var, ev_con, ev_bin, ev_un, ev_anil, ev_acons, ev_call, ev_tup, ev_lst, ev_not, ev_and, ev_or, ev_if, ev_cbl, ev_btrue, ev_cand, ev_cor, ev_cnot, ev_sli, ev_onone, ev_osome, ev_chain, ev_meth, ev_get2, ev_newK, ev_newT, ev_own, ev_nil, ev_seq, ev_expr, ev_set, ev_ret, ev_retN, ev_cif, ev_brk, ev_ct, ev_asg, ev_put, ev_aug, ev_for, ev_comp, ev_newL, ev_iseq, ev_irange, ev_ienum, ev_yes, Out.bind_ok, Out.bindN_ok, bindS_ok, Tg.set, Tg.sets, List.getElem?_cons_zero, List.getElem?_cons_succ, List.set_cons_zero, List.set_cons_succ, wipeE, List.length_cons, List.length_nil, Nat.reduceAdd, Nat.reduceLeDiff, Nat.reduceEqDiff, ↓reduceIte, Bool.false_eq_true, decide_eq_true_eq, add_int, sub_int, lt_int, gt_int, le_int, ge_int, neg_int, and_int, or_int, xor_int, max2_int, min2_int, mod_pos, fdiv_sm, mul_sm, mul_smr, Int.reduceLT, Int.reduceNeg, int_bl, int_int, sli_tup, idx_e3]⟩)
  have g4 : Gr S3 (S3 ++ [Ob.lst ((zs.map En.t).map .int)]) := gr_app _ _
  have s4 := eT _ _ (at_new S3 (.lst ((zs.map En.t).map .int)))
  generalize hS4 : S3 ++ [Ob.lst ((zs.map En.t).map .int)] = S4 at g4 s4
  have lsome4 := g4.at lsome3
  have start : ∀ {b : RC} {o : OutS}, b [some (.ref lp), some (.int c), some (.int ev), some (.ref lr), some (.int k), some (.ref S1.length), some (.int M), some (.int (1 + T)), none, none, none, none, none] S4 = o →
      (cSeq (cSet 4 (eOwn 2 (F (f + 2) .l_many) (aCons (eVar 0) (aCons (eVar 1) (aNil))))) (cSeq (cSet 5 (eSli (eVar 0) (oSome (eBin subD (eCall lenD (aCons (eVar 0) (aNil))) (eVar 4))) (oNone))) (cSeq (cSet 6 (eBin addD (eCon (.int 1)) (eCall sumD (aCons (eComp (iSeq (eVar 5)) (.nm 11) (cYes) (y_l_way_1 (F (f + 2))) [11]) (aNil))))) (cSeq (cSet 7 (eBin addD (eCon (.int 1)) (eCall maxD (aCons (eComp (iSeq (eVar 5)) (.nm 11) (cYes) (y_l_way_2 (F (f + 2))) [11]) (aNil))))) b)))) [some (.ref lp), some (.int c), some (.int ev), some (.ref lr), none, none, none, none, none, none, none, none, none] S = o := fun {b o} hb => by
    refine (seq_of (set_of (d := .int k) (S' := S1) (by simp only [ev_var, ev_con, ev_bin, ev_un, ev_anil, ev_acons, ev_call, ev_tup, ev_lst, ev_not, ev_and, ev_or, ev_if, ev_cbl, ev_btrue, ev_cand, ev_cor, ev_cnot, ev_sli, ev_onone, ev_osome, ev_chain, ev_meth, ev_get2, ev_newK, ev_newT, ev_own, ev_nil, ev_seq, ev_expr, ev_set, ev_ret, ev_retN, ev_cif, ev_brk, ev_ct, ev_asg, ev_put, ev_aug, ev_for, ev_comp, ev_newL, ev_iseq, ev_irange, ev_ienum, ev_yes, Out.bind_ok, Out.bindN_ok, bindS_ok, Tg.set, Tg.sets, List.getElem?_cons_zero, List.getElem?_cons_succ, List.set_cons_zero, List.set_cons_succ, wipeE, List.length_cons, List.length_nil, Nat.reduceAdd, Nat.reduceLeDiff, Nat.reduceEqDiff, ↓reduceIte, Bool.false_eq_true, decide_eq_true_eq, add_int, sub_int, lt_int, gt_int, le_int, ge_int, neg_int, and_int, or_int, xor_int, max2_int, min2_int, mod_pos, fdiv_sm, mul_sm, mul_smr, Int.reduceLT, Int.reduceNeg, int_bl, int_int, sli_tup, hm]))).trans ?_
    refine (seq_of (set_of (d := .ref S1.length) (S' := S2) (by simp only [ev_var, ev_con, ev_bin, ev_un, ev_anil, ev_acons, ev_call, ev_tup, ev_lst, ev_not, ev_and, ev_or, ev_if, ev_cbl, ev_btrue, ev_cand, ev_cor, ev_cnot, ev_sli, ev_onone, ev_osome, ev_chain, ev_meth, ev_get2, ev_newK, ev_newT, ev_own, ev_nil, ev_seq, ev_expr, ev_set, ev_ret, ev_retN, ev_cif, ev_brk, ev_ct, ev_asg, ev_put, ev_aug, ev_for, ev_comp, ev_newL, ev_iseq, ev_irange, ev_ienum, ev_yes, Out.bind_ok, Out.bindN_ok, bindS_ok, Tg.set, Tg.sets, List.getElem?_cons_zero, List.getElem?_cons_succ, List.set_cons_zero, List.set_cons_succ, wipeE, List.length_cons, List.length_nil, Nat.reduceAdd, Nat.reduceLeDiff, Nat.reduceEqDiff, ↓reduceIte, Bool.false_eq_true, decide_eq_true_eq, add_int, sub_int, lt_int, gt_int, le_int, ge_int, neg_int, and_int, or_int, xor_int, max2_int, min2_int, mod_pos, fdiv_sm, mul_sm, mul_smr, Int.reduceLT, Int.reduceNeg, int_bl, int_int, sli_tup, lw2, hs]))).trans ?_
    refine (seq_of (set_of (d := .int M) (S' := S3) ?_)).trans ?_
    · simp only [ev_var, ev_con, ev_bin, ev_un, ev_anil, ev_acons, ev_call, ev_tup, ev_lst, ev_not, ev_and, ev_or, ev_if, ev_cbl, ev_btrue, ev_cand, ev_cor, ev_cnot, ev_sli, ev_onone, ev_osome, ev_chain, ev_meth, ev_get2, ev_newK, ev_newT, ev_own, ev_nil, ev_seq, ev_expr, ev_set, ev_ret, ev_retN, ev_cif, ev_brk, ev_ct, ev_asg, ev_put, ev_aug, ev_for, ev_comp, ev_newL, ev_iseq, ev_irange, ev_ienum, ev_yes, Out.bind_ok, Out.bindN_ok, bindS_ok, Tg.set, Tg.sets, List.getElem?_cons_zero, List.getElem?_cons_succ, List.set_cons_zero, List.set_cons_succ, wipeE, List.length_cons, List.length_nil, Nat.reduceAdd, Nat.reduceLeDiff, Nat.reduceEqDiff, ↓reduceIte, Bool.false_eq_true, decide_eq_true_eq, add_int, sub_int, lt_int, gt_int, le_int, ge_int, neg_int, and_int, or_int, xor_int, max2_int, min2_int, mod_pos, fdiv_sm, mul_sm, mul_smr, Int.reduceLT, Int.reduceNeg, int_bl, int_int, sli_tup, walk_ref lsome]
      simp only [wipeE, List.set_cons_zero, List.set_cons_succ] at c1
      simp only [c1, ev_var, ev_con, ev_bin, ev_un, ev_anil, ev_acons, ev_call, ev_tup, ev_lst, ev_not, ev_and, ev_or, ev_if, ev_cbl, ev_btrue, ev_cand, ev_cor, ev_cnot, ev_sli, ev_onone, ev_osome, ev_chain, ev_meth, ev_get2, ev_newK, ev_newT, ev_own, ev_nil, ev_seq, ev_expr, ev_set, ev_ret, ev_retN, ev_cif, ev_brk, ev_ct, ev_asg, ev_put, ev_aug, ev_for, ev_comp, ev_newL, ev_iseq, ev_irange, ev_ienum, ev_yes, Out.bind_ok, Out.bindN_ok, bindS_ok, Tg.set, Tg.sets, List.getElem?_cons_zero, List.getElem?_cons_succ, List.set_cons_zero, List.set_cons_succ, wipeE, List.length_cons, List.length_nil, Nat.reduceAdd, Nat.reduceLeDiff, Nat.reduceEqDiff, ↓reduceIte, Bool.false_eq_true, decide_eq_true_eq, add_int, sub_int, lt_int, gt_int, le_int, ge_int, neg_int, and_int, or_int, xor_int, max2_int, min2_int, mod_pos, fdiv_sm, mul_sm, mul_smr, Int.reduceLT, Int.reduceNeg, int_bl, int_int, sli_tup, hS3, s3, hM]
    refine (seq_of (set_of (d := .int (1 + T)) (S' := S4) ?_)).trans hb
    simp only [ev_var, ev_con, ev_bin, ev_un, ev_anil, ev_acons, ev_call, ev_tup, ev_lst, ev_not, ev_and, ev_or, ev_if, ev_cbl, ev_btrue, ev_cand, ev_cor, ev_cnot, ev_sli, ev_onone, ev_osome, ev_chain, ev_meth, ev_get2, ev_newK, ev_newT, ev_own, ev_nil, ev_seq, ev_expr, ev_set, ev_ret, ev_retN, ev_cif, ev_brk, ev_ct, ev_asg, ev_put, ev_aug, ev_for, ev_comp, ev_newL, ev_iseq, ev_irange, ev_ienum, ev_yes, Out.bind_ok, Out.bindN_ok, bindS_ok, Tg.set, Tg.sets, List.getElem?_cons_zero, List.getElem?_cons_succ, List.set_cons_zero, List.set_cons_succ, wipeE, List.length_cons, List.length_nil, Nat.reduceAdd, Nat.reduceLeDiff, Nat.reduceEqDiff, ↓reduceIte, Bool.false_eq_true, decide_eq_true_eq, add_int, sub_int, lt_int, gt_int, le_int, ge_int, neg_int, and_int, or_int, xor_int, max2_int, min2_int, mod_pos, fdiv_sm, mul_sm, mul_smr, Int.reduceLT, Int.reduceNeg, int_bl, int_int, sli_tup, walk_ref lsome3]
    simp only [wipeE, List.set_cons_zero, List.set_cons_succ] at c2
    simp only [c2, ev_var, ev_con, ev_bin, ev_un, ev_anil, ev_acons, ev_call, ev_tup, ev_lst, ev_not, ev_and, ev_or, ev_if, ev_cbl, ev_btrue, ev_cand, ev_cor, ev_cnot, ev_sli, ev_onone, ev_osome, ev_chain, ev_meth, ev_get2, ev_newK, ev_newT, ev_own, ev_nil, ev_seq, ev_expr, ev_set, ev_ret, ev_retN, ev_cif, ev_brk, ev_ct, ev_asg, ev_put, ev_aug, ev_for, ev_comp, ev_newL, ev_iseq, ev_irange, ev_ienum, ev_yes, Out.bind_ok, Out.bindN_ok, bindS_ok, Tg.set, Tg.sets, List.getElem?_cons_zero, List.getElem?_cons_succ, List.set_cons_zero, List.set_cons_succ, wipeE, List.length_cons, List.length_nil, Nat.reduceAdd, Nat.reduceLeDiff, Nat.reduceEqDiff, ↓reduceIte, Bool.false_eq_true, decide_eq_true_eq, add_int, sub_int, lt_int, gt_int, le_int, ge_int, neg_int, and_int, or_int, xor_int, max2_int, min2_int, mod_pos, fdiv_sm, mul_sm, mul_smr, Int.reduceLT, Int.reduceNeg, int_bl, int_int, sli_tup, hS4, s4]
  have g14 := ((g1.trans g2).trans g3).trans g4
  by_cases q : 40 < M ∨ 12 < 1 + T
  · refine ⟨S4.length, [], _, runF_rt (ρ := [some (.ref lp), some (.int c), some (.int ev), some (.ref lr), none, none, none, none, none, none, none, none, none]) rfl rfl (start ?_), g14.trans (gr_app _ [.lst []]), g14.le, at_new _ _, .inl rfl, trivial⟩
    refine seq_rt ((if_t (S' := S4) ?_).trans (ret_of (by simp only [ev_var, ev_con, ev_bin, ev_un, ev_anil, ev_acons, ev_call, ev_tup, ev_lst, ev_not, ev_and, ev_or, ev_if, ev_cbl, ev_btrue, ev_cand, ev_cor, ev_cnot, ev_sli, ev_onone, ev_osome, ev_chain, ev_meth, ev_get2, ev_newK, ev_newT, ev_own, ev_nil, ev_seq, ev_expr, ev_set, ev_ret, ev_retN, ev_cif, ev_brk, ev_ct, ev_asg, ev_put, ev_aug, ev_for, ev_comp, ev_newL, ev_iseq, ev_irange, ev_ienum, ev_yes, Out.bind_ok, Out.bindN_ok, bindS_ok, Tg.set, Tg.sets, List.getElem?_cons_zero, List.getElem?_cons_succ, List.set_cons_zero, List.set_cons_succ, wipeE, List.length_cons, List.length_nil, Nat.reduceAdd, Nat.reduceLeDiff, Nat.reduceEqDiff, ↓reduceIte, Bool.false_eq_true, decide_eq_true_eq, add_int, sub_int, lt_int, gt_int, le_int, ge_int, neg_int, and_int, or_int, xor_int, max2_int, min2_int, mod_pos, fdiv_sm, mul_sm, mul_smr, Int.reduceLT, Int.reduceNeg, int_bl, int_int, sli_tup, sline 0 (by omega)])))
    by_cases z : 40 < M
    · simp only [ev_var, ev_con, ev_bin, ev_un, ev_anil, ev_acons, ev_call, ev_tup, ev_lst, ev_not, ev_and, ev_or, ev_if, ev_cbl, ev_btrue, ev_cand, ev_cor, ev_cnot, ev_sli, ev_onone, ev_osome, ev_chain, ev_meth, ev_get2, ev_newK, ev_newT, ev_own, ev_nil, ev_seq, ev_expr, ev_set, ev_ret, ev_retN, ev_cif, ev_brk, ev_ct, ev_asg, ev_put, ev_aug, ev_for, ev_comp, ev_newL, ev_iseq, ev_irange, ev_ienum, ev_yes, Out.bind_ok, Out.bindN_ok, bindS_ok, Tg.set, Tg.sets, List.getElem?_cons_zero, List.getElem?_cons_succ, List.set_cons_zero, List.set_cons_succ, wipeE, List.length_cons, List.length_nil, Nat.reduceAdd, Nat.reduceLeDiff, Nat.reduceEqDiff, ↓reduceIte, Bool.false_eq_true, decide_eq_true_eq, add_int, sub_int, lt_int, gt_int, le_int, ge_int, neg_int, and_int, or_int, xor_int, max2_int, min2_int, mod_pos, fdiv_sm, mul_sm, mul_smr, Int.reduceLT, Int.reduceNeg, int_bl, int_int, sli_tup, z, decide_true]
    · have z2 : 12 < 1 + T := by omega
      simp only [ev_var, ev_con, ev_bin, ev_un, ev_anil, ev_acons, ev_call, ev_tup, ev_lst, ev_not, ev_and, ev_or, ev_if, ev_cbl, ev_btrue, ev_cand, ev_cor, ev_cnot, ev_sli, ev_onone, ev_osome, ev_chain, ev_meth, ev_get2, ev_newK, ev_newT, ev_own, ev_nil, ev_seq, ev_expr, ev_set, ev_ret, ev_retN, ev_cif, ev_brk, ev_ct, ev_asg, ev_put, ev_aug, ev_for, ev_comp, ev_newL, ev_iseq, ev_irange, ev_ienum, ev_yes, Out.bind_ok, Out.bindN_ok, bindS_ok, Tg.set, Tg.sets, List.getElem?_cons_zero, List.getElem?_cons_succ, List.set_cons_zero, List.set_cons_succ, wipeE, List.length_cons, List.length_nil, Nat.reduceAdd, Nat.reduceLeDiff, Nat.reduceEqDiff, ↓reduceIte, Bool.false_eq_true, decide_eq_true_eq, add_int, sub_int, lt_int, gt_int, le_int, ge_int, neg_int, and_int, or_int, xor_int, max2_int, min2_int, mod_pos, fdiv_sm, mul_sm, mul_smr, Int.reduceLT, Int.reduceNeg, int_bl, int_int, sli_tup, z, z2, decide_false, decide_true]
  have q1 : ¬ 40 < M := fun z => q (.inl z)
  have q2 : ¬ 12 < 1 + T := fun z => q (.inr z)
  have g5 : Gr S4 (S4 ++ [Ob.lst []]) := gr_app _ _
  obtain ⟨ρ', S', e, good, st, v10, v11, v12, rfl, f', hst, hsl, hsg, hsr⟩ := loop_all (ck := (Ck.ls S1.length (zs.map En.d)).ok) (t := .tp [.nm 10, .nm 11]) (b := b_l_way_3 (F (f + 2))) (S := S4 ++ [Ob.lst []]) (ρ := [some (.ref lp), some (.int c), some (.int ev), some (.ref lr), some (.int k), some (.ref S1.length), some (.int M), some (.int (1 + T)), some (.ref S4.length), some (.int ev), none, none, none])
    (fun i ρ S' => ∃ (good : Int) (st : List (Str × Dv)) (v10 v11 v12 : Option Dv), ρ = [some (.ref lp), some (.int c), some (.int ev), some (.ref lr), some (.int k), some (.ref S1.length), some (.int M), some (.int (1 + T)), some (.ref S4.length), some (.int good), v10, v11, v12] ∧ Fr (· = S4.length) (S4 ++ [Ob.lst []]) S' ∧ S'[S4.length]? = some (.lst (st.map stp)) ∧ st.length = i ∧ (∀ s ∈ st, s.1 ∈ goW ∧ ∃ e ∈ zs, s.2 = e.look) ∧ st.map (·.2) = (zs.reverse.take i).map En.look)
    (enumL (zs.map En.d).reverse) ⟨ev, [], none, none, none, rfl, .refl _, at_new _ _, rfl, by simp, rfl⟩
    (fun i v ρ S' hv ⟨good, st, v10, v11, v12, hρ, f', hst, hsl, hsg, hsr⟩ => by
      subst hρ
      rw [enumL_get, Option.map_eq_some_iff] at hv
      obtain ⟨d, hd, rfl⟩ := hv
      have hi := (List.getElem?_eq_some_iff.mp hd).1
      rw [List.length_reverse, List.length_map] at hi
      rw [← List.map_reverse, List.getElem?_map, Option.map_eq_some_iff] at hd
      obtain ⟨e, hei, rfl⟩ := hd
      have he : e ∈ zs := List.mem_reverse.mp (List.mem_of_getElem? hei)
      have gq := Gr.new g5 f' (fun l z => by omega)
      refine ⟨gq.at lsome4, _, rfl, ?_⟩
      have m50 := mix_run (f := f + 1) (c := c) (k := 50 + ((0 + i : Nat) : Int)) (S := S' ++ [Ob.lst [.str "down", .str "deep", .str "later", .str "down"]]) (by omega) (by omega)
      obtain ⟨go, hgo, ego⟩ := atI_mod (xs := ([.str "down", .str "deep", .str "later", .str "down"] : List Dv)) (by simp) (mx c (50 + ((0 + i : Nat) : Int)))
      obtain ⟨g, hg, rfl⟩ : ∃ g, g ∈ goW ∧ go = .str g := by
        simp only [List.mem_cons, List.not_mem_nil, or_false] at hgo
        rcases hgo with rfl | rfl | rfl | rfl <;> exact ⟨_, by simp [goW], rfl⟩
      have hgS : Gr S' (S' ++ [Ob.lst [.str "down", .str "deep", .str "later", .str "down"]]) := gr_app _ _
      have ig := idx_ref (at_new S' (.lst [.str "down", .str "deep", .str "later", .str "down"])) ego
      generalize hT0 : S' ++ [Ob.lst [.str "down", .str "deep", .str "later", .str "down"]] = S5 at m50 hgS ig
      have hst5 := hgS.at hst
      have f6 := fr_set S5 S4.length (.lst ((st ++ [(g, e.look)]).map stp))
      have hst6 : (S5.set S4.length (.lst ((st ++ [(g, e.look)]).map stp)))[S4.length]? = some (.lst ((st ++ [(g, e.look)]).map stp)) := at_set hst5
      have fall : Fr (· = S4.length) (S4 ++ [Ob.lst []]) (S5.set S4.length (.lst ((st ++ [(g, e.look)]).map stp))) := (f'.trans hgS.any).trans f6
      have ap : appendD (.ref S4.length) [.tup [.str g, e.look]] S5 = .ok .non (S5.set S4.length (.lst ((st ++ [(g, e.look)]).map stp))) := by
        rw [app_ref hst5 (by rw [List.length_map]; show _ < 2 ^ 24; omega), List.map_append]; rfl
      generalize hT6 : S5.set S4.length (.lst ((st ++ [(g, e.look)]).map stp)) = S6 at *
      have g46 := Gr.new g5 fall (fun l z => by omega)
      obtain ⟨lg, ms, rg, hms, hml⟩ := (hr.gr (g14.trans g46)).get hg
      obtain ⟨b, hb⟩ := before_run (f := f + 1) (b := Builtin.bitAnd good e.n) hms hml
      refine ⟨[some (.ref lp), some (.int c), some (.int ev), some (.ref lr), some (.int k), some (.ref S1.length), some (.int M), some (.int (1 + T)), some (.ref S4.length), some (.int b), some (.int ((0 + i : Nat) : Int)), some e.d, some (.str g)], S6, .inl ?_, b, st ++ [(g, e.look)], _, _, _, rfl, fall, hst6, by simp [hsl], fun s hs => ?_, by rw [List.take_add_one, hei, List.map_append, List.map_append, hsr]; rfl⟩
      · unfold b_l_way_3
        refine (seq_of (set_of (d := .str g) (S' := S5) ?_)).trans ?_
        · have : ((([.str "down", .str "deep", .str "later", .str "down"] : List Dv).length : Nat) : Int) = 4 := rfl
          rw [this] at ig
          simp only [ev_var, ev_con, ev_bin, ev_un, ev_anil, ev_acons, ev_call, ev_tup, ev_lst, ev_not, ev_and, ev_or, ev_if, ev_cbl, ev_btrue, ev_cand, ev_cor, ev_cnot, ev_sli, ev_onone, ev_osome, ev_chain, ev_meth, ev_get2, ev_newK, ev_newT, ev_own, ev_nil, ev_seq, ev_expr, ev_set, ev_ret, ev_retN, ev_cif, ev_brk, ev_ct, ev_asg, ev_put, ev_aug, ev_for, ev_comp, ev_newL, ev_iseq, ev_irange, ev_ienum, ev_yes, Out.bind_ok, Out.bindN_ok, bindS_ok, Tg.set, Tg.sets, List.getElem?_cons_zero, List.getElem?_cons_succ, List.set_cons_zero, List.set_cons_succ, wipeE, List.length_cons, List.length_nil, Nat.reduceAdd, Nat.reduceLeDiff, Nat.reduceEqDiff, ↓reduceIte, Bool.false_eq_true, decide_eq_true_eq, add_int, sub_int, lt_int, gt_int, le_int, ge_int, neg_int, and_int, or_int, xor_int, max2_int, min2_int, mod_pos, fdiv_sm, mul_sm, mul_smr, Int.reduceLT, Int.reduceNeg, int_bl, int_int, sli_tup, sline 4 (by omega), hT0, m50, ig]
        refine (seq_of (expr_of (d := .non) (S' := S6) ?_)).trans ?_
        · simp only [ev_var, ev_con, ev_bin, ev_un, ev_anil, ev_acons, ev_call, ev_tup, ev_lst, ev_not, ev_and, ev_or, ev_if, ev_cbl, ev_btrue, ev_cand, ev_cor, ev_cnot, ev_sli, ev_onone, ev_osome, ev_chain, ev_meth, ev_get2, ev_newK, ev_newT, ev_own, ev_nil, ev_seq, ev_expr, ev_set, ev_ret, ev_retN, ev_cif, ev_brk, ev_ct, ev_asg, ev_put, ev_aug, ev_for, ev_comp, ev_newL, ev_iseq, ev_irange, ev_ienum, ev_yes, Out.bind_ok, Out.bindN_ok, bindS_ok, Tg.set, Tg.sets, List.getElem?_cons_zero, List.getElem?_cons_succ, List.set_cons_zero, List.set_cons_succ, wipeE, List.length_cons, List.length_nil, Nat.reduceAdd, Nat.reduceLeDiff, Nat.reduceEqDiff, ↓reduceIte, Bool.false_eq_true, decide_eq_true_eq, add_int, sub_int, lt_int, gt_int, le_int, ge_int, neg_int, and_int, or_int, xor_int, max2_int, min2_int, mod_pos, fdiv_sm, mul_sm, mul_smr, Int.reduceLT, Int.reduceNeg, int_bl, int_int, sli_tup, tyq_ref hst5, idx_e0, sline 2 (by omega), ap]
        exact set_of (by simp only [ev_var, ev_con, ev_bin, ev_un, ev_anil, ev_acons, ev_call, ev_tup, ev_lst, ev_not, ev_and, ev_or, ev_if, ev_cbl, ev_btrue, ev_cand, ev_cor, ev_cnot, ev_sli, ev_onone, ev_osome, ev_chain, ev_meth, ev_get2, ev_newK, ev_newT, ev_own, ev_nil, ev_seq, ev_expr, ev_set, ev_ret, ev_retN, ev_cif, ev_brk, ev_ct, ev_asg, ev_put, ev_aug, ev_for, ev_comp, ev_newL, ev_iseq, ev_irange, ev_ienum, ev_yes, Out.bind_ok, Out.bindN_ok, bindS_ok, Tg.set, Tg.sets, List.getElem?_cons_zero, List.getElem?_cons_succ, List.set_cons_zero, List.set_cons_succ, wipeE, List.length_cons, List.length_nil, Nat.reduceAdd, Nat.reduceLeDiff, Nat.reduceEqDiff, ↓reduceIte, Bool.false_eq_true, decide_eq_true_eq, add_int, sub_int, lt_int, gt_int, le_int, ge_int, neg_int, and_int, or_int, xor_int, max2_int, min2_int, mod_pos, fdiv_sm, mul_sm, mul_smr, Int.reduceLT, Int.reduceNeg, int_bl, int_int, sli_tup, rg, idx_e1, hb])
      · rcases List.mem_append.mp hs with hs | hs
        · exact hsg s hs
        · rw [List.mem_singleton] at hs; subst hs; exact ⟨hg, e, he, rfl⟩)
    (fun ρ S' ⟨good, st, v10, v11, v12, hρ, f', hst, hsl, hsg, hsr⟩ => (Gr.new g5 f' (fun l z => by omega)).at lsome4)
  have el : (enumL (zs.map En.d).reverse).length = zs.length := by rw [enumL_len, List.length_reverse, List.length_map]
  rw [el, zl] at hsl
  rw [el, List.take_of_length_le (by rw [List.length_reverse]; omega)] at hsr
  have gq := Gr.new g5 f' (fun l z => by omega)
  have g4' := g14.trans gq
  refine ⟨S'.length, [⟨.tup [.str "way", .tup (st.reverse.map stp)], good, M, 1 + T⟩], _, runF_rt (ρ := [some (.ref lp), some (.int c), some (.int ev), some (.ref lr), none, none, none, none, none, none, none, none, none]) rfl rfl (start ?_), g4'.trans (gr_app _ [.lst [.tup [.tup [.str "way", .tup (st.reverse.map stp)], .int good, .int M, .int (1 + T)]]]), g4'.le, at_new _ _, .inr ⟨_, rfl, ⟨by show 1 ≤ M; omega, by show M ≤ 40; omega, by show 1 ≤ 1 + T; omega, by show 1 + T ≤ 12; omega, ?_, ?_⟩⟩, trivial⟩
  · refine (seq_of ((if_f (S' := S4) (by simp only [ev_var, ev_con, ev_bin, ev_un, ev_anil, ev_acons, ev_call, ev_tup, ev_lst, ev_not, ev_and, ev_or, ev_if, ev_cbl, ev_btrue, ev_cand, ev_cor, ev_cnot, ev_sli, ev_onone, ev_osome, ev_chain, ev_meth, ev_get2, ev_newK, ev_newT, ev_own, ev_nil, ev_seq, ev_expr, ev_set, ev_ret, ev_retN, ev_cif, ev_brk, ev_ct, ev_asg, ev_put, ev_aug, ev_for, ev_comp, ev_newL, ev_iseq, ev_irange, ev_ienum, ev_yes, Out.bind_ok, Out.bindN_ok, bindS_ok, Tg.set, Tg.sets, List.getElem?_cons_zero, List.getElem?_cons_succ, List.set_cons_zero, List.set_cons_succ, wipeE, List.length_cons, List.length_nil, Nat.reduceAdd, Nat.reduceLeDiff, Nat.reduceEqDiff, ↓reduceIte, Bool.false_eq_true, decide_eq_true_eq, add_int, sub_int, lt_int, gt_int, le_int, ge_int, neg_int, and_int, or_int, xor_int, max2_int, min2_int, mod_pos, fdiv_sm, mul_sm, mul_smr, Int.reduceLT, Int.reduceNeg, int_bl, int_int, sli_tup, q1, q2, decide_false])).trans rfl)).trans ?_
    refine (seq_of (set_of (d := .ref S4.length) (S' := S4 ++ [Ob.lst []]) (by simp only [ev_var, ev_con, ev_bin, ev_un, ev_anil, ev_acons, ev_call, ev_tup, ev_lst, ev_not, ev_and, ev_or, ev_if, ev_cbl, ev_btrue, ev_cand, ev_cor, ev_cnot, ev_sli, ev_onone, ev_osome, ev_chain, ev_meth, ev_get2, ev_newK, ev_newT, ev_own, ev_nil, ev_seq, ev_expr, ev_set, ev_ret, ev_retN, ev_cif, ev_brk, ev_ct, ev_asg, ev_put, ev_aug, ev_for, ev_comp, ev_newL, ev_iseq, ev_irange, ev_ienum, ev_yes, Out.bind_ok, Out.bindN_ok, bindS_ok, Tg.set, Tg.sets, List.getElem?_cons_zero, List.getElem?_cons_succ, List.set_cons_zero, List.set_cons_succ, wipeE, List.length_cons, List.length_nil, Nat.reduceAdd, Nat.reduceLeDiff, Nat.reduceEqDiff, ↓reduceIte, Bool.false_eq_true, decide_eq_true_eq, add_int, sub_int, lt_int, gt_int, le_int, ge_int, neg_int, and_int, or_int, xor_int, max2_int, min2_int, mod_pos, fdiv_sm, mul_sm, mul_smr, Int.reduceLT, Int.reduceNeg, int_bl, int_int, sli_tup, sline 0 (by omega)]))).trans ?_
    refine (seq_of (set_of rfl)).trans ?_
    have ez : (iEnumR (eVar 5)) [some (.ref lp), some (.int c), some (.int ev), some (.ref lr), some (.int k), some (.ref S1.length), some (.int M), some (.int (1 + T)), some (.ref S4.length), some (.int ev), none, none, none] (S4 ++ [Ob.lst []]) = .ok (enumL (zs.map En.d).reverse, .ls S1.length (zs.map En.d)) (S4 ++ [Ob.lst []]) := by
      simp only [iEnumR, ev_var, ev_con, ev_bin, ev_un, ev_anil, ev_acons, ev_call, ev_tup, ev_lst, ev_not, ev_and, ev_or, ev_if, ev_cbl, ev_btrue, ev_cand, ev_cor, ev_cnot, ev_sli, ev_onone, ev_osome, ev_chain, ev_meth, ev_get2, ev_newK, ev_newT, ev_own, ev_nil, ev_seq, ev_expr, ev_set, ev_ret, ev_retN, ev_cif, ev_brk, ev_ct, ev_asg, ev_put, ev_aug, ev_for, ev_comp, ev_newL, ev_iseq, ev_irange, ev_ienum, ev_yes, Out.bind_ok, Out.bindN_ok, bindS_ok, Tg.set, Tg.sets, List.getElem?_cons_zero, List.getElem?_cons_succ, List.set_cons_zero, List.set_cons_succ, wipeE, List.length_cons, List.length_nil, Nat.reduceAdd, Nat.reduceLeDiff, Nat.reduceEqDiff, ↓reduceIte, Bool.false_eq_true, decide_eq_true_eq, add_int, sub_int, lt_int, gt_int, le_int, ge_int, neg_int, and_int, or_int, xor_int, max2_int, min2_int, mod_pos, fdiv_sm, mul_sm, mul_smr, Int.reduceLT, Int.reduceNeg, int_bl, int_int, sli_tup, lst_ref (g5.at lsome4)]; rfl
    refine (seq_of ((for_of ez).trans e)).trans ?_
    have tr : trevD (.ref S4.length) S' = .ok (.tup (st.reverse.map stp)) S' := by simp only [trevD, lst_ref hst, List.map_reverse]
    exact ret_of (by simp only [ev_var, ev_con, ev_bin, ev_un, ev_anil, ev_acons, ev_call, ev_tup, ev_lst, ev_not, ev_and, ev_or, ev_if, ev_cbl, ev_btrue, ev_cand, ev_cor, ev_cnot, ev_sli, ev_onone, ev_osome, ev_chain, ev_meth, ev_get2, ev_newK, ev_newT, ev_own, ev_nil, ev_seq, ev_expr, ev_set, ev_ret, ev_retN, ev_cif, ev_brk, ev_ct, ev_asg, ev_put, ev_aug, ev_for, ev_comp, ev_newL, ev_iseq, ev_irange, ev_ienum, ev_yes, Out.bind_ok, Out.bindN_ok, bindS_ok, Tg.set, Tg.sets, List.getElem?_cons_zero, List.getElem?_cons_succ, List.set_cons_zero, List.set_cons_succ, wipeE, List.length_cons, List.length_nil, Nat.reduceAdd, Nat.reduceLeDiff, Nat.reduceEqDiff, ↓reduceIte, Bool.false_eq_true, decide_eq_true_eq, add_int, sub_int, lt_int, gt_int, le_int, ge_int, neg_int, and_int, or_int, xor_int, max2_int, min2_int, mod_pos, fdiv_sm, mul_sm, mul_smr, Int.reduceLT, Int.reduceNeg, int_bl, int_int, sli_tup, tr, sline 1 (by omega), sline 2 (by omega), sline 4 (by omega)])
  · show LP (1 + T).toNat _
    rw [show (1 + T).toNat = T.toNat + 1 by omega]
    refine .inr (.inr (.inr ⟨st.reverse, rfl, fun z => ?_, by rw [List.length_reverse]; omega, fun s hs => ?_⟩))
    · have := congrArg List.length z; simp at this; subst this; simp at hsl; omega
    · obtain ⟨h1, e, he, h2⟩ := hsg s (List.mem_reverse.mp hs)
      have := hT e.t (List.mem_map_of_mem he)
      exact ⟨h1, by rw [h2]; exact (zok e he).lk.up (by omega)⟩
  · show (tN (.tup [.str "way", .tup (st.reverse.map stp)]) : Int) ≤ 3 * M - 1
    have szs : ∀ ys : List En, (∀ e ∈ ys, Ok e) → ((ys.length + ((ys.map En.look).map tN).sum : Nat) : Int) ≤ 3 * (ys.map En.m).sum := by
      intro ys h
      induction ys with
      | nil => simp
      | cons e ys ih => have := (h e (by simp)).sz; have := ih fun e he => h e (by simp [he]); simp only [List.map_cons, List.sum_cons, List.length_cons] at *; omega
    have es : (st.reverse.map fun s => tN s.2) = (zs.map En.look).map tN := by
      rw [show (st.reverse.map fun s => tN s.2) = ((st.map (·.2)).reverse).map tN by rw [List.map_reverse, List.map_reverse, List.map_map]; rfl, hsr]; simp only [List.map_reverse, List.reverse_reverse]
    have := szs zs zok
    rw [tN_way, es, List.length_reverse, hsl, ← hM]
    omega
theorem pile_run {f lc ln lr lm : Nat} {cs : List Int} {names : List Str} {rs : List (Int × Str)} {spot : Int} {S : Sto} (hc : S[lc]? = some (.lst (cs.map .int))) (hcl : cs.length ≤ 200) (hn : Nms S ln names) (hrs : Rows S lr rs) (hr : Reach S lm) :
    ∃ (l : Nat) (zs : List En) (S' : Sto), F (f + 4) .l_pile [.ref lc, .ref ln, .ref lr, .ref lm, .int spot] S = .ok (.ref l) S' ∧ Gr S S' ∧ S.length ≤ l ∧ S'[l]? = some (.lst (zs.map En.d)) ∧ (∀ e ∈ zs, Ok e) ∧ zs.length ≤ cs.length ∧ (cs ≠ [] → zs ≠ []) := by
  rw [F_l_pile]
  have lrl := len_ref hrs.h
  rw [List.length_map] at lrl
  have r200 := hrs.len
  have sh := shl01 (S := S) (i := 1) (j := (rs.length : Int)) (.inr rfl) (by omega) (by omega)
  generalize hev : (1 : Int) * 2 ^ (rs.length : Int).toNat - 1 = ev
  have g0 : Gr S (S ++ [Ob.lst []]) := gr_app _ _
  obtain ⟨ρ', S', e, lp, zs, v7, v8, v9, rfl, g', hle, hz, hzk, hzl, hzn⟩ := loop_all (ck := (Ck.ls lc (cs.map .int)).ok) (t := .nm 7) (b := b_l_pile_1 (F (f + 3))) (S := S ++ [Ob.lst []]) (ρ := [some (.ref lc), some (.ref ln), some (.ref lr), some (.ref lm), some (.int spot), some (.int ev), some (.ref S.length), none, none, none])
    (fun i ρ S' => ∃ (lp : Nat) (zs : List En) (v7 v8 v9 : Option Dv), ρ = [some (.ref lc), some (.ref ln), some (.ref lr), some (.ref lm), some (.int spot), some (.int ev), some (.ref lp), v7, v8, v9] ∧ Gr S S' ∧ S.length ≤ lp ∧ S'[lp]? = some (.lst (zs.map En.d)) ∧ (∀ e ∈ zs, Ok e) ∧ zs.length ≤ i ∧ (0 < i → zs ≠ []))
    (cs.map .int) ⟨S.length, [], none, none, none, rfl, g0, Nat.le_refl _, at_new _ _, by simp, Nat.le_refl _, fun z => absurd z (by omega)⟩
    (fun i v ρ S' hv ⟨lp, zs, v7, v8, v9, hρ, g', hle, hz, hzk, hzl, hzn⟩ => by
      subst hρ
      have hi := (List.getElem?_eq_some_iff.mp hv).1
      rw [List.length_map] at hi
      rw [List.getElem?_map, Option.map_eq_some_iff] at hv
      obtain ⟨c, hc0, rfl⟩ := hv
      refine ⟨g'.at hc, _, rfl, ?_⟩
      have g1 : Gr S' (S' ++ [Ob.lst []]) := gr_app _ _
      have h8 := at_new S' (.lst [])
      generalize hS1 : S' ++ [Ob.lst []] = S1 at g1 h8
      have hz1 := g1.at hz
      have ll := len_ref hz1
      rw [List.length_map] at ll
      have m19 := mix_run (f := f + 2) (c := c) (k := 19) (S := S1) (by omega) (by omega)
      have key : ∃ (ls : Nat) (ws : List En) (m : Int) (S2 : Sto), (cIf (cAnd (cBl (eBin gtD (eCall lenD (aCons (eVar 6) (aNil))) (eCon (.int 0)))) (cBl (eBin eqD (eBin modD (eOwn 2 (F (f + 3) .l_mix) (aCons (eVar 7) (aCons (eCon (.int 19)) (aNil)))) (eCon (.int 3))) (eCon (.int 0))))) (cSeq (cSet 8 (eOwn 4 (F (f + 3) .l_way) (aCons (eVar 6) (aCons (eVar 7) (aCons (eVar 5) (aCons (eVar 3) (aNil))))))) (cSet 9 (eOwn 2 (F (f + 3) .l_many) (aCons (eVar 6) (aCons (eVar 7) (aNil)))))) (cIf (cBl (eBin gtD (eCall lenD (aCons (eVar 6) (aNil))) (eCon (.int 0)))) (cSeq (cSet 8 (eOwn 3 (F (f + 3) .l_truths) (aCons (eVar 6) (aCons (eVar 7) (aCons (eVar 5) (aNil)))))) (cSet 9 (eBin subD (eCon (.int 2)) (eCall intD (aCons (eAnd (eBin gtD (eCall lenD (aCons (eVar 8) (aNil))) (eCon (.int 0))) (eBin eqD (eBin idxD (eBin idxD (eBin idxD (eVar 8) (eCon (.int 0))) (eCon (.int 0))) (eCon (.int 0))) (eCon (.str "not")))) (aNil)))))) (cNil)))
          [some (.ref lc), some (.ref ln), some (.ref lr), some (.ref lm), some (.int spot), some (.int ev), some (.ref lp), some (.int c), some (.ref S'.length), some (.int 1)] S1 = .fl (.nx [some (.ref lc), some (.ref ln), some (.ref lr), some (.ref lm), some (.int spot), some (.int ev), some (.ref lp), some (.int c), some (.ref ls), some (.int m)]) S2
          ∧ Gr S1 S2 ∧ S2[ls]? = some (.lst (ws.map En.d)) ∧ (ws = [] ∨ ∃ e, ws = [e] ∧ Ok e) := by
        by_cases q0 : (0 : Int) < (zs.length : Int)
        · have zne : zs ≠ [] := fun z => by subst z; simp at q0
          by_cases q : mx c 19 % 3 = 0
          · obtain ⟨ls, ws, S2, e2, g2, _, hw, hwk, _⟩ := way_run (f := f) (c := c) (ev := ev) hz1 zne (by omega) hzk ((hr.gr g').gr g1)
            have em := many_run (f := f + 1) (c := c) (g2.at hz1)
            have g3 : Gr S2 (S2 ++ [Ob.lst many8]) := gr_app _ _
            refine ⟨ls, ws, min ((zs.map En.d).length : Int) (manyV c), S2 ++ [Ob.lst many8], (if_t (S' := S1) (by simp only [ev_var, ev_con, ev_bin, ev_un, ev_anil, ev_acons, ev_call, ev_tup, ev_lst, ev_not, ev_and, ev_or, ev_if, ev_cbl, ev_btrue, ev_cand, ev_cor, ev_cnot, ev_sli, ev_onone, ev_osome, ev_chain, ev_meth, ev_get2, ev_newK, ev_newT, ev_own, ev_nil, ev_seq, ev_expr, ev_set, ev_ret, ev_retN, ev_cif, ev_brk, ev_ct, ev_asg, ev_put, ev_aug, ev_for, ev_comp, ev_newL, ev_iseq, ev_irange, ev_ienum, ev_yes, Out.bind_ok, Out.bindN_ok, bindS_ok, Tg.set, Tg.sets, List.getElem?_cons_zero, List.getElem?_cons_succ, List.set_cons_zero, List.set_cons_succ, wipeE, List.length_cons, List.length_nil, Nat.reduceAdd, Nat.reduceLeDiff, Nat.reduceEqDiff, ↓reduceIte, Bool.false_eq_true, decide_eq_true_eq, add_int, sub_int, lt_int, gt_int, le_int, ge_int, neg_int, and_int, or_int, xor_int, max2_int, min2_int, mod_pos, fdiv_sm, mul_sm, mul_smr, Int.reduceLT, Int.reduceNeg, int_bl, int_int, sli_tup, ll, q0, m19, eq_int, q, decide_true])).trans ?_, g2.trans g3, g3.at hw, hwk⟩
            refine (seq_of (set_of (d := .ref ls) (S' := S2) (by simp only [ev_var, ev_con, ev_bin, ev_un, ev_anil, ev_acons, ev_call, ev_tup, ev_lst, ev_not, ev_and, ev_or, ev_if, ev_cbl, ev_btrue, ev_cand, ev_cor, ev_cnot, ev_sli, ev_onone, ev_osome, ev_chain, ev_meth, ev_get2, ev_newK, ev_newT, ev_own, ev_nil, ev_seq, ev_expr, ev_set, ev_ret, ev_retN, ev_cif, ev_brk, ev_ct, ev_asg, ev_put, ev_aug, ev_for, ev_comp, ev_newL, ev_iseq, ev_irange, ev_ienum, ev_yes, Out.bind_ok, Out.bindN_ok, bindS_ok, Tg.set, Tg.sets, List.getElem?_cons_zero, List.getElem?_cons_succ, List.set_cons_zero, List.set_cons_succ, wipeE, List.length_cons, List.length_nil, Nat.reduceAdd, Nat.reduceLeDiff, Nat.reduceEqDiff, ↓reduceIte, Bool.false_eq_true, decide_eq_true_eq, add_int, sub_int, lt_int, gt_int, le_int, ge_int, neg_int, and_int, or_int, xor_int, max2_int, min2_int, mod_pos, fdiv_sm, mul_sm, mul_smr, Int.reduceLT, Int.reduceNeg, int_bl, int_int, sli_tup, e2]))).trans ?_
            exact set_of (by simp only [ev_var, ev_con, ev_bin, ev_un, ev_anil, ev_acons, ev_call, ev_tup, ev_lst, ev_not, ev_and, ev_or, ev_if, ev_cbl, ev_btrue, ev_cand, ev_cor, ev_cnot, ev_sli, ev_onone, ev_osome, ev_chain, ev_meth, ev_get2, ev_newK, ev_newT, ev_own, ev_nil, ev_seq, ev_expr, ev_set, ev_ret, ev_retN, ev_cif, ev_brk, ev_ct, ev_asg, ev_put, ev_aug, ev_for, ev_comp, ev_newL, ev_iseq, ev_irange, ev_ienum, ev_yes, Out.bind_ok, Out.bindN_ok, bindS_ok, Tg.set, Tg.sets, List.getElem?_cons_zero, List.getElem?_cons_succ, List.set_cons_zero, List.set_cons_succ, wipeE, List.length_cons, List.length_nil, Nat.reduceAdd, Nat.reduceLeDiff, Nat.reduceEqDiff, ↓reduceIte, Bool.false_eq_true, decide_eq_true_eq, add_int, sub_int, lt_int, gt_int, le_int, ge_int, neg_int, and_int, or_int, xor_int, max2_int, min2_int, mod_pos, fdiv_sm, mul_sm, mul_smr, Int.reduceLT, Int.reduceNeg, int_bl, int_int, sli_tup, em])
          · obtain ⟨ls, ws, S2, e2, g2, _, hw, hwk, _⟩ := truths_run (f := f + 1) (c := c) (ev := ev) hz1 zne hzk
            have lw := len_ref hw
            rw [List.length_map] at lw
            suffices hm : ∃ m : Int, (eBin subD (eCon (.int 2)) (eCall intD (aCons (eAnd (eBin gtD (eCall lenD (aCons (eVar 8) (aNil))) (eCon (.int 0))) (eBin eqD (eBin idxD (eBin idxD (eBin idxD (eVar 8) (eCon (.int 0))) (eCon (.int 0))) (eCon (.int 0))) (eCon (.str "not")))) (aNil))))
                [some (.ref lc), some (.ref ln), some (.ref lr), some (.ref lm), some (.int spot), some (.int ev), some (.ref lp), some (.int c), some (.ref ls), some (.int 1)] S2 = .ok (.int m) S2 by
              obtain ⟨m, hm⟩ := hm
              refine ⟨ls, ws, m, S2, (if_f (S' := S1) (by simp only [ev_var, ev_con, ev_bin, ev_un, ev_anil, ev_acons, ev_call, ev_tup, ev_lst, ev_not, ev_and, ev_or, ev_if, ev_cbl, ev_btrue, ev_cand, ev_cor, ev_cnot, ev_sli, ev_onone, ev_osome, ev_chain, ev_meth, ev_get2, ev_newK, ev_newT, ev_own, ev_nil, ev_seq, ev_expr, ev_set, ev_ret, ev_retN, ev_cif, ev_brk, ev_ct, ev_asg, ev_put, ev_aug, ev_for, ev_comp, ev_newL, ev_iseq, ev_irange, ev_ienum, ev_yes, Out.bind_ok, Out.bindN_ok, bindS_ok, Tg.set, Tg.sets, List.getElem?_cons_zero, List.getElem?_cons_succ, List.set_cons_zero, List.set_cons_succ, wipeE, List.length_cons, List.length_nil, Nat.reduceAdd, Nat.reduceLeDiff, Nat.reduceEqDiff, ↓reduceIte, Bool.false_eq_true, decide_eq_true_eq, add_int, sub_int, lt_int, gt_int, le_int, ge_int, neg_int, and_int, or_int, xor_int, max2_int, min2_int, mod_pos, fdiv_sm, mul_sm, mul_smr, Int.reduceLT, Int.reduceNeg, int_bl, int_int, sli_tup, ll, q0, m19, eq_int, q, decide_true, decide_false])).trans ?_, g2, hw, hwk⟩
              refine (if_t (S' := S1) (by simp only [ev_var, ev_con, ev_bin, ev_un, ev_anil, ev_acons, ev_call, ev_tup, ev_lst, ev_not, ev_and, ev_or, ev_if, ev_cbl, ev_btrue, ev_cand, ev_cor, ev_cnot, ev_sli, ev_onone, ev_osome, ev_chain, ev_meth, ev_get2, ev_newK, ev_newT, ev_own, ev_nil, ev_seq, ev_expr, ev_set, ev_ret, ev_retN, ev_cif, ev_brk, ev_ct, ev_asg, ev_put, ev_aug, ev_for, ev_comp, ev_newL, ev_iseq, ev_irange, ev_ienum, ev_yes, Out.bind_ok, Out.bindN_ok, bindS_ok, Tg.set, Tg.sets, List.getElem?_cons_zero, List.getElem?_cons_succ, List.set_cons_zero, List.set_cons_succ, wipeE, List.length_cons, List.length_nil, Nat.reduceAdd, Nat.reduceLeDiff, Nat.reduceEqDiff, ↓reduceIte, Bool.false_eq_true, decide_eq_true_eq, add_int, sub_int, lt_int, gt_int, le_int, ge_int, neg_int, and_int, or_int, xor_int, max2_int, min2_int, mod_pos, fdiv_sm, mul_sm, mul_smr, Int.reduceLT, Int.reduceNeg, int_bl, int_int, sli_tup, ll, q0, decide_true])).trans ?_
              refine (seq_of (set_of (d := .ref ls) (S' := S2) (by simp only [ev_var, ev_con, ev_bin, ev_un, ev_anil, ev_acons, ev_call, ev_tup, ev_lst, ev_not, ev_and, ev_or, ev_if, ev_cbl, ev_btrue, ev_cand, ev_cor, ev_cnot, ev_sli, ev_onone, ev_osome, ev_chain, ev_meth, ev_get2, ev_newK, ev_newT, ev_own, ev_nil, ev_seq, ev_expr, ev_set, ev_ret, ev_retN, ev_cif, ev_brk, ev_ct, ev_asg, ev_put, ev_aug, ev_for, ev_comp, ev_newL, ev_iseq, ev_irange, ev_ienum, ev_yes, Out.bind_ok, Out.bindN_ok, bindS_ok, Tg.set, Tg.sets, List.getElem?_cons_zero, List.getElem?_cons_succ, List.set_cons_zero, List.set_cons_succ, wipeE, List.length_cons, List.length_nil, Nat.reduceAdd, Nat.reduceLeDiff, Nat.reduceEqDiff, ↓reduceIte, Bool.false_eq_true, decide_eq_true_eq, add_int, sub_int, lt_int, gt_int, le_int, ge_int, neg_int, and_int, or_int, xor_int, max2_int, min2_int, mod_pos, fdiv_sm, mul_sm, mul_smr, Int.reduceLT, Int.reduceNeg, int_bl, int_int, sli_tup, e2]))).trans ?_
              exact set_of hm
            have ib : ∀ b : Bool, intD [.bl b] S2 = .ok (.int (if b = true then 1 else 0)) S2 := fun b => int_bl b
            rcases hwk with rfl | ⟨e, rfl, ke⟩
            · simp only [List.length_nil] at lw
              have lw0 : lenD [.ref ls] S2 = .ok (.int 0) S2 := lw
              exact ⟨2, by simp only [ev_var, ev_con, ev_bin, ev_un, ev_anil, ev_acons, ev_call, ev_tup, ev_lst, ev_not, ev_and, ev_or, ev_if, ev_cbl, ev_btrue, ev_cand, ev_cor, ev_cnot, ev_sli, ev_onone, ev_osome, ev_chain, ev_meth, ev_get2, ev_newK, ev_newT, ev_own, ev_nil, ev_seq, ev_expr, ev_set, ev_ret, ev_retN, ev_cif, ev_brk, ev_ct, ev_asg, ev_put, ev_aug, ev_for, ev_comp, ev_newL, ev_iseq, ev_irange, ev_ienum, ev_yes, Out.bind_ok, Out.bindN_ok, bindS_ok, Tg.set, Tg.sets, List.getElem?_cons_zero, List.getElem?_cons_succ, List.set_cons_zero, List.set_cons_succ, wipeE, List.length_cons, List.length_nil, Nat.reduceAdd, Nat.reduceLeDiff, Nat.reduceEqDiff, ↓reduceIte, Bool.false_eq_true, decide_eq_true_eq, add_int, sub_int, lt_int, gt_int, le_int, ge_int, neg_int, and_int, or_int, xor_int, max2_int, min2_int, mod_pos, fdiv_sm, mul_sm, mul_smr, Int.reduceLT, Int.reduceNeg, int_bl, int_int, sli_tup, lw0, Int.lt_irrefl, decide_false, ib]; rfl⟩
            · obtain ⟨w, r, ew, kw⟩ := ke.lk.word
              have i0 : idxD (.ref ls) (.int 0) S2 = .ok e.d S2 := idx_ref hw (atI_nat (i := 0) rfl)
              have i1 : idxD e.look (.int 0) S2 = .ok (.str w) S2 := by rw [ew]; exact idx_t0
              have en := eq_str (S := S2) kw (show Sk "not" by decide +kernel)
              simp only [List.length_cons, List.length_nil] at lw
              have lw1 : lenD [.ref ls] S2 = .ok (.int 1) S2 := lw
              exact ⟨2 - (if decide (w = "not") = true then 1 else 0), by simp only [ev_var, ev_con, ev_bin, ev_un, ev_anil, ev_acons, ev_call, ev_tup, ev_lst, ev_not, ev_and, ev_or, ev_if, ev_cbl, ev_btrue, ev_cand, ev_cor, ev_cnot, ev_sli, ev_onone, ev_osome, ev_chain, ev_meth, ev_get2, ev_newK, ev_newT, ev_own, ev_nil, ev_seq, ev_expr, ev_set, ev_ret, ev_retN, ev_cif, ev_brk, ev_ct, ev_asg, ev_put, ev_aug, ev_for, ev_comp, ev_newL, ev_iseq, ev_irange, ev_ienum, ev_yes, Out.bind_ok, Out.bindN_ok, bindS_ok, Tg.set, Tg.sets, List.getElem?_cons_zero, List.getElem?_cons_succ, List.set_cons_zero, List.set_cons_succ, wipeE, List.length_cons, List.length_nil, Nat.reduceAdd, Nat.reduceLeDiff, Nat.reduceEqDiff, ↓reduceIte, Bool.false_eq_true, decide_eq_true_eq, add_int, sub_int, lt_int, gt_int, le_int, ge_int, neg_int, and_int, or_int, xor_int, max2_int, min2_int, mod_pos, fdiv_sm, mul_sm, mul_smr, Int.reduceLT, Int.reduceNeg, int_bl, int_int, sli_tup, lw1, show ((0 : Int) < 1) = True by simp, decide_true, i0, idx_e0, i1, en, ib]⟩
        · refine ⟨S'.length, [], 1, S1, (if_f (S' := S1) (by simp only [ev_var, ev_con, ev_bin, ev_un, ev_anil, ev_acons, ev_call, ev_tup, ev_lst, ev_not, ev_and, ev_or, ev_if, ev_cbl, ev_btrue, ev_cand, ev_cor, ev_cnot, ev_sli, ev_onone, ev_osome, ev_chain, ev_meth, ev_get2, ev_newK, ev_newT, ev_own, ev_nil, ev_seq, ev_expr, ev_set, ev_ret, ev_retN, ev_cif, ev_brk, ev_ct, ev_asg, ev_put, ev_aug, ev_for, ev_comp, ev_newL, ev_iseq, ev_irange, ev_ienum, ev_yes, Out.bind_ok, Out.bindN_ok, bindS_ok, Tg.set, Tg.sets, List.getElem?_cons_zero, List.getElem?_cons_succ, List.set_cons_zero, List.set_cons_succ, wipeE, List.length_cons, List.length_nil, Nat.reduceAdd, Nat.reduceLeDiff, Nat.reduceEqDiff, ↓reduceIte, Bool.false_eq_true, decide_eq_true_eq, add_int, sub_int, lt_int, gt_int, le_int, ge_int, neg_int, and_int, or_int, xor_int, max2_int, min2_int, mod_pos, fdiv_sm, mul_sm, mul_smr, Int.reduceLT, Int.reduceNeg, int_bl, int_int, sli_tup, ll, q0, decide_false])).trans ((if_f (S' := S1) (by simp only [ev_var, ev_con, ev_bin, ev_un, ev_anil, ev_acons, ev_call, ev_tup, ev_lst, ev_not, ev_and, ev_or, ev_if, ev_cbl, ev_btrue, ev_cand, ev_cor, ev_cnot, ev_sli, ev_onone, ev_osome, ev_chain, ev_meth, ev_get2, ev_newK, ev_newT, ev_own, ev_nil, ev_seq, ev_expr, ev_set, ev_ret, ev_retN, ev_cif, ev_brk, ev_ct, ev_asg, ev_put, ev_aug, ev_for, ev_comp, ev_newL, ev_iseq, ev_irange, ev_ienum, ev_yes, Out.bind_ok, Out.bindN_ok, bindS_ok, Tg.set, Tg.sets, List.getElem?_cons_zero, List.getElem?_cons_succ, List.set_cons_zero, List.set_cons_succ, wipeE, List.length_cons, List.length_nil, Nat.reduceAdd, Nat.reduceLeDiff, Nat.reduceEqDiff, ↓reduceIte, Bool.false_eq_true, decide_eq_true_eq, add_int, sub_int, lt_int, gt_int, le_int, ge_int, neg_int, and_int, or_int, xor_int, max2_int, min2_int, mod_pos, fdiv_sm, mul_sm, mul_smr, Int.reduceLT, Int.reduceNeg, int_bl, int_int, sli_tup, ll, q0, decide_false])).trans rfl), .refl _, h8, .inl rfl⟩
      obtain ⟨ls, ws, m, S2, e2, g2, hw, hwk⟩ := key
      have g12 := (g'.trans g1).trans g2
      have hz2 := g2.at hz1
      have lw := len_ref hw
      rw [List.length_map] at lw
      have stepd : ∀ {ρ2 : PL.Env} {S3 : Sto}, (cIf (cBl (eBin gtD (eCall lenD (aCons (eVar 8) (aNil))) (eCon (.int 0)))) (cSet 6 (eBin addD (eSli (eVar 6) (oNone) (oSome (eBin subD (eCall lenD (aCons (eVar 6) (aNil))) (eVar 9)))) (eVar 8))) (cExpr (eMeth "list" appendD (eVar 6) (aCons (eOwn 4 (F (f + 3) .l_leaf) (aCons (eVar 7) (aCons (eVar 1) (aCons (eVar 2) (aCons (eVar 4) (aNil)))))) (aNil)))))
          [some (.ref lc), some (.ref ln), some (.ref lr), some (.ref lm), some (.int spot), some (.int ev), some (.ref lp), some (.int c), some (.ref ls), some (.int m)] S2 = .fl (.nx ρ2) S3 →
          b_l_pile_1 (F (f + 3)) [some (.ref lc), some (.ref ln), some (.ref lr), some (.ref lm), some (.int spot), some (.int ev), some (.ref lp), some (.int c), v8, v9] S' = .fl (.nx ρ2) S3 := fun h => by
        unfold b_l_pile_1
        refine (seq_of (set_of (d := .ref S'.length) (S' := S1) (by simp only [ev_var, ev_con, ev_bin, ev_un, ev_anil, ev_acons, ev_call, ev_tup, ev_lst, ev_not, ev_and, ev_or, ev_if, ev_cbl, ev_btrue, ev_cand, ev_cor, ev_cnot, ev_sli, ev_onone, ev_osome, ev_chain, ev_meth, ev_get2, ev_newK, ev_newT, ev_own, ev_nil, ev_seq, ev_expr, ev_set, ev_ret, ev_retN, ev_cif, ev_brk, ev_ct, ev_asg, ev_put, ev_aug, ev_for, ev_comp, ev_newL, ev_iseq, ev_irange, ev_ienum, ev_yes, Out.bind_ok, Out.bindN_ok, bindS_ok, Tg.set, Tg.sets, List.getElem?_cons_zero, List.getElem?_cons_succ, List.set_cons_zero, List.set_cons_succ, wipeE, List.length_cons, List.length_nil, Nat.reduceAdd, Nat.reduceLeDiff, Nat.reduceEqDiff, ↓reduceIte, Bool.false_eq_true, decide_eq_true_eq, add_int, sub_int, lt_int, gt_int, le_int, ge_int, neg_int, and_int, or_int, xor_int, max2_int, min2_int, mod_pos, fdiv_sm, mul_sm, mul_smr, Int.reduceLT, Int.reduceNeg, int_bl, int_int, sli_tup, sline 0 (by omega), hS1]))).trans ?_
        refine (seq_of (set_of rfl)).trans ?_
        exact (seq_of e2).trans h
      rcases hwk with rfl | ⟨e, rfl, ke⟩
      · obtain ⟨lf, elf, klf⟩ := leaf_run (f := f + 1) (c := c) (spot := spot) (hn.gr g12) (hrs.gr g12)
        have ap : appendD (.ref lp) [lf.d] S2 = .ok .non (S2.set lp (.lst ((zs ++ [lf]).map En.d))) := by
          rw [app_ref hz2 (by rw [List.length_map]; show _ < 2 ^ 24; omega), List.map_append]; rfl
        refine ⟨_, _, .inl (stepd ((if_f (S' := S2) (by simp only [ev_var, ev_con, ev_bin, ev_un, ev_anil, ev_acons, ev_call, ev_tup, ev_lst, ev_not, ev_and, ev_or, ev_if, ev_cbl, ev_btrue, ev_cand, ev_cor, ev_cnot, ev_sli, ev_onone, ev_osome, ev_chain, ev_meth, ev_get2, ev_newK, ev_newT, ev_own, ev_nil, ev_seq, ev_expr, ev_set, ev_ret, ev_retN, ev_cif, ev_brk, ev_ct, ev_asg, ev_put, ev_aug, ev_for, ev_comp, ev_newL, ev_iseq, ev_irange, ev_ienum, ev_yes, Out.bind_ok, Out.bindN_ok, bindS_ok, Tg.set, Tg.sets, List.getElem?_cons_zero, List.getElem?_cons_succ, List.set_cons_zero, List.set_cons_succ, wipeE, List.length_cons, List.length_nil, Nat.reduceAdd, Nat.reduceLeDiff, Nat.reduceEqDiff, ↓reduceIte, Bool.false_eq_true, decide_eq_true_eq, add_int, sub_int, lt_int, gt_int, le_int, ge_int, neg_int, and_int, or_int, xor_int, max2_int, min2_int, mod_pos, fdiv_sm, mul_sm, mul_smr, Int.reduceLT, Int.reduceNeg, int_bl, int_int, sli_tup, lw]; rfl)).trans (expr_of (d := .non) (S' := S2.set lp (.lst ((zs ++ [lf]).map En.d))) (by simp only [ev_var, ev_con, ev_bin, ev_un, ev_anil, ev_acons, ev_call, ev_tup, ev_lst, ev_not, ev_and, ev_or, ev_if, ev_cbl, ev_btrue, ev_cand, ev_cor, ev_cnot, ev_sli, ev_onone, ev_osome, ev_chain, ev_meth, ev_get2, ev_newK, ev_newT, ev_own, ev_nil, ev_seq, ev_expr, ev_set, ev_ret, ev_retN, ev_cif, ev_brk, ev_ct, ev_asg, ev_put, ev_aug, ev_for, ev_comp, ev_newL, ev_iseq, ev_irange, ev_ienum, ev_yes, Out.bind_ok, Out.bindN_ok, bindS_ok, Tg.set, Tg.sets, List.getElem?_cons_zero, List.getElem?_cons_succ, List.set_cons_zero, List.set_cons_succ, wipeE, List.length_cons, List.length_nil, Nat.reduceAdd, Nat.reduceLeDiff, Nat.reduceEqDiff, ↓reduceIte, Bool.false_eq_true, decide_eq_true_eq, add_int, sub_int, lt_int, gt_int, le_int, ge_int, neg_int, and_int, or_int, xor_int, max2_int, min2_int, mod_pos, fdiv_sm, mul_sm, mul_smr, Int.reduceLT, Int.reduceNeg, int_bl, int_int, sli_tup, tyq_ref hz2, elf, ap])))), lp, zs ++ [lf], _, _, _, rfl, Gr.new g12 (fr_set _ _ _) (fun l z => by omega), hle, at_set hz2, ?_, by simp; omega, fun _ => by simp⟩
        intro e he
        rcases List.mem_append.mp he with he | he
        · exact hzk e he
        · rw [List.mem_singleton] at he; subst he; exact klf
      · have ll2 := len_ref hz2
        rw [List.length_map] at ll2
        have hs := sli_ref hz2 none (some ((zs.length : Int) - m))
        rw [cut_map, ev_newL] at hs
        have cl := cut_len zs none (some ((zs.length : Int) - m))
        have cmm : ∀ e ∈ cutD zs none (some ((zs.length : Int) - m)), e ∈ zs := fun e h => mem_cut h
        generalize hys : cutD zs none (some ((zs.length : Int) - m)) = ys at hs cl cmm
        have g3 : Gr S2 (S2 ++ [Ob.lst (ys.map En.d)]) := gr_app _ _
        have ea := add_ref (at_new S2 (.lst (ys.map En.d))) (g3.at hw) (sline _ (by rw [List.length_map, List.length_map]; simp only [List.length_cons, List.length_nil]; omega))
        rw [ev_newL, ← List.map_append] at ea
        generalize hS3 : S2 ++ [Ob.lst (ys.map En.d)] = S3 at hs g3 ea
        have g4 : Gr S3 (S3 ++ [Ob.lst ((ys ++ [e]).map En.d)]) := gr_app _ _
        simp only [List.length_cons, List.length_nil] at lw
        have lw1 : lenD [.ref ls] S2 = .ok (.int 1) S2 := lw
        refine ⟨_, _, .inl (stepd ((if_t (S' := S2) (by simp only [ev_var, ev_con, ev_bin, ev_un, ev_anil, ev_acons, ev_call, ev_tup, ev_lst, ev_not, ev_and, ev_or, ev_if, ev_cbl, ev_btrue, ev_cand, ev_cor, ev_cnot, ev_sli, ev_onone, ev_osome, ev_chain, ev_meth, ev_get2, ev_newK, ev_newT, ev_own, ev_nil, ev_seq, ev_expr, ev_set, ev_ret, ev_retN, ev_cif, ev_brk, ev_ct, ev_asg, ev_put, ev_aug, ev_for, ev_comp, ev_newL, ev_iseq, ev_irange, ev_ienum, ev_yes, Out.bind_ok, Out.bindN_ok, bindS_ok, Tg.set, Tg.sets, List.getElem?_cons_zero, List.getElem?_cons_succ, List.set_cons_zero, List.set_cons_succ, wipeE, List.length_cons, List.length_nil, Nat.reduceAdd, Nat.reduceLeDiff, Nat.reduceEqDiff, ↓reduceIte, Bool.false_eq_true, decide_eq_true_eq, add_int, sub_int, lt_int, gt_int, le_int, ge_int, neg_int, and_int, or_int, xor_int, max2_int, min2_int, mod_pos, fdiv_sm, mul_sm, mul_smr, Int.reduceLT, Int.reduceNeg, int_bl, int_int, sli_tup, lw1]; rfl)).trans (set_of (d := .ref S3.length) (S' := S3 ++ [Ob.lst ((ys ++ [e]).map En.d)]) (by simp only [ev_var, ev_con, ev_bin, ev_un, ev_anil, ev_acons, ev_call, ev_tup, ev_lst, ev_not, ev_and, ev_or, ev_if, ev_cbl, ev_btrue, ev_cand, ev_cor, ev_cnot, ev_sli, ev_onone, ev_osome, ev_chain, ev_meth, ev_get2, ev_newK, ev_newT, ev_own, ev_nil, ev_seq, ev_expr, ev_set, ev_ret, ev_retN, ev_cif, ev_brk, ev_ct, ev_asg, ev_put, ev_aug, ev_for, ev_comp, ev_newL, ev_iseq, ev_irange, ev_ienum, ev_yes, Out.bind_ok, Out.bindN_ok, bindS_ok, Tg.set, Tg.sets, List.getElem?_cons_zero, List.getElem?_cons_succ, List.set_cons_zero, List.set_cons_succ, wipeE, List.length_cons, List.length_nil, Nat.reduceAdd, Nat.reduceLeDiff, Nat.reduceEqDiff, ↓reduceIte, Bool.false_eq_true, decide_eq_true_eq, add_int, sub_int, lt_int, gt_int, le_int, ge_int, neg_int, and_int, or_int, xor_int, max2_int, min2_int, mod_pos, fdiv_sm, mul_sm, mul_smr, Int.reduceLT, Int.reduceNeg, int_bl, int_int, sli_tup, ll2, hs, ea])))), S3.length, ys ++ [e], _, _, _, rfl, (g12.trans g3).trans g4, (g12.trans g3).le, at_new _ _, ?_, ?_, fun _ => by simp⟩
        · intro e he
          rcases List.mem_append.mp he with he | he
          · exact hzk e (cmm e he)
          · rw [List.mem_singleton] at he; subst he; exact ke
        · rw [List.length_append]; simp only [List.length_cons, List.length_nil]; omega)
    (fun ρ S' ⟨lp, zs, v7, v8, v9, hρ, g', _⟩ => g'.at hc)
  rw [List.length_map] at hzl hzn
  refine ⟨lp, zs, S', runF_rt (ρ := [some (.ref lc), some (.ref ln), some (.ref lr), some (.ref lm), some (.int spot), none, none, none, none, none]) rfl rfl ?_, g', hle, hz, hzk, hzl, fun z => hzn (List.length_pos_iff.mpr z)⟩
  unfold c_l_pile
  refine (seq_of (set_of (d := .int ev) (S' := S) (by simp only [ev_var, ev_con, ev_bin, ev_un, ev_anil, ev_acons, ev_call, ev_tup, ev_lst, ev_not, ev_and, ev_or, ev_if, ev_cbl, ev_btrue, ev_cand, ev_cor, ev_cnot, ev_sli, ev_onone, ev_osome, ev_chain, ev_meth, ev_get2, ev_newK, ev_newT, ev_own, ev_nil, ev_seq, ev_expr, ev_set, ev_ret, ev_retN, ev_cif, ev_brk, ev_ct, ev_asg, ev_put, ev_aug, ev_for, ev_comp, ev_newL, ev_iseq, ev_irange, ev_ienum, ev_yes, Out.bind_ok, Out.bindN_ok, bindS_ok, Tg.set, Tg.sets, List.getElem?_cons_zero, List.getElem?_cons_succ, List.set_cons_zero, List.set_cons_succ, wipeE, List.length_cons, List.length_nil, Nat.reduceAdd, Nat.reduceLeDiff, Nat.reduceEqDiff, ↓reduceIte, Bool.false_eq_true, decide_eq_true_eq, add_int, sub_int, lt_int, gt_int, le_int, ge_int, neg_int, and_int, or_int, xor_int, max2_int, min2_int, mod_pos, fdiv_sm, mul_sm, mul_smr, Int.reduceLT, Int.reduceNeg, int_bl, int_int, sli_tup, lrl, sh, hev]))).trans ?_
  refine (seq_of (set_of (d := .ref S.length) (S' := S ++ [Ob.lst []]) (by simp only [ev_var, ev_con, ev_bin, ev_un, ev_anil, ev_acons, ev_call, ev_tup, ev_lst, ev_not, ev_and, ev_or, ev_if, ev_cbl, ev_btrue, ev_cand, ev_cor, ev_cnot, ev_sli, ev_onone, ev_osome, ev_chain, ev_meth, ev_get2, ev_newK, ev_newT, ev_own, ev_nil, ev_seq, ev_expr, ev_set, ev_ret, ev_retN, ev_cif, ev_brk, ev_ct, ev_asg, ev_put, ev_aug, ev_for, ev_comp, ev_newL, ev_iseq, ev_irange, ev_ienum, ev_yes, Out.bind_ok, Out.bindN_ok, bindS_ok, Tg.set, Tg.sets, List.getElem?_cons_zero, List.getElem?_cons_succ, List.set_cons_zero, List.set_cons_succ, wipeE, List.length_cons, List.length_nil, Nat.reduceAdd, Nat.reduceLeDiff, Nat.reduceEqDiff, ↓reduceIte, Bool.false_eq_true, decide_eq_true_eq, add_int, sub_int, lt_int, gt_int, le_int, ge_int, neg_int, and_int, or_int, xor_int, max2_int, min2_int, mod_pos, fdiv_sm, mul_sm, mul_smr, Int.reduceLT, Int.reduceNeg, int_bl, int_int, sli_tup, sline 0 (by omega)]))).trans ?_
  exact (seq_of ((for_of (w := (cs.map .int, .ls lc (cs.map .int))) (S' := S ++ [Ob.lst []]) (by simp only [ev_var, ev_con, ev_bin, ev_un, ev_anil, ev_acons, ev_call, ev_tup, ev_lst, ev_not, ev_and, ev_or, ev_if, ev_cbl, ev_btrue, ev_cand, ev_cor, ev_cnot, ev_sli, ev_onone, ev_osome, ev_chain, ev_meth, ev_get2, ev_newK, ev_newT, ev_own, ev_nil, ev_seq, ev_expr, ev_set, ev_ret, ev_retN, ev_cif, ev_brk, ev_ct, ev_asg, ev_put, ev_aug, ev_for, ev_comp, ev_newL, ev_iseq, ev_irange, ev_ienum, ev_yes, Out.bind_ok, Out.bindN_ok, bindS_ok, Tg.set, Tg.sets, List.getElem?_cons_zero, List.getElem?_cons_succ, List.set_cons_zero, List.set_cons_succ, wipeE, List.length_cons, List.length_nil, Nat.reduceAdd, Nat.reduceLeDiff, Nat.reduceEqDiff, ↓reduceIte, Bool.false_eq_true, decide_eq_true_eq, add_int, sub_int, lt_int, gt_int, le_int, ge_int, neg_int, and_int, or_int, xor_int, max2_int, min2_int, mod_pos, fdiv_sm, mul_sm, mul_smr, Int.reduceLT, Int.reduceNeg, int_bl, int_int, sli_tup, walk_ref (g0.at hc)])).trans e)).trans (ret_of (by simp only [ev_var, ev_con, ev_bin, ev_un, ev_anil, ev_acons, ev_call, ev_tup, ev_lst, ev_not, ev_and, ev_or, ev_if, ev_cbl, ev_btrue, ev_cand, ev_cor, ev_cnot, ev_sli, ev_onone, ev_osome, ev_chain, ev_meth, ev_get2, ev_newK, ev_newT, ev_own, ev_nil, ev_seq, ev_expr, ev_set, ev_ret, ev_retN, ev_cif, ev_brk, ev_ct, ev_asg, ev_put, ev_aug, ev_for, ev_comp, ev_newL, ev_iseq, ev_irange, ev_ienum, ev_yes, Out.bind_ok, Out.bindN_ok, bindS_ok, Tg.set, Tg.sets, List.getElem?_cons_zero, List.getElem?_cons_succ, List.set_cons_zero, List.set_cons_succ, wipeE, List.length_cons, List.length_nil, Nat.reduceAdd, Nat.reduceLeDiff, Nat.reduceEqDiff, ↓reduceIte, Bool.false_eq_true, decide_eq_true_eq, add_int, sub_int, lt_int, gt_int, le_int, ge_int, neg_int, and_int, or_int, xor_int, max2_int, min2_int, mod_pos, fdiv_sm, mul_sm, mul_smr, Int.reduceLT, Int.reduceNeg, int_bl, int_int, sli_tup]))
theorem eqs {S : Sto} {w v : Str} (hw : Sk w) (hv : Sk v) : eqD (.str w) (.str v) S = .ok (.bl (decide (w = v))) S := eq_str hw hv
theorem nes {S : Sto} {w v : Str} (hw : Sk w) (hv : Sk v) : neD (.str w) (.str v) S = .ok (.bl (!decide (w = v))) S := ne_str hw hv
theorem sk_way : Sk "way" := by decide +kernel
theorem sk_not : Sk "not" := by decide +kernel
theorem sk_both : Sk "both" := by decide +kernel
theorem sk_either : Sk "either" := by decide +kernel
theorem sk_from : Sk "from" := by decide +kernel
structure Leaf (d : Dv) : Prop where
  ex : ∃ w r, d = .tup (.str w :: r) ∧ Sk w ∧ w ≠ "way" ∧ w ≠ "not" ∧ w ≠ "both" ∧ w ≠ "either" ∧ ∀ S, eqD d d S = .ok (.bl true) S
theorem leaf_of {d : Dv} (h : LP 0 d) : Leaf d := by
  have one : ∀ w : Str, Sk w → ∀ S, eqD (.tup [.str w]) (.tup [.str w]) S = .ok (.bl true) S := fun w hw S => by
    have e1 : toP 40 S (.tup [.str w]) = some (.tuple [.str w]) := by simp only [toP, toPs, Option.map_some]
    have e3 : SeqAt.shaped (.tuple [.str w]) = true := by
      unfold SeqAt.shaped
      have : PyData.strOk w = true := hw
      simp only [PyData.canLay0, PyData.canLayAll0, PyData.depth, PyData.depthAll, this]; rfl
    have e4 : PyData.eqv (.tuple [.str w]) (.tuple [.str w]) = true := by simp [PyData.eqv, PyData.eqvAll]
    simp only [eqD, eqq, e1, e3, e4, and_self, ↓reduceIte]
  rcases h with rfl | rfl | ⟨x, hx, rfl⟩
  · exact ⟨_, _, rfl, by decide +kernel, by decide, by decide, by decide, by decide, one _ (by decide +kernel)⟩
  · exact ⟨_, _, rfl, by decide +kernel, by decide, by decide, by decide, by decide, one _ (by decide +kernel)⟩
  · refine ⟨_, _, rfl, by decide +kernel, by decide, by decide, by decide, by decide, fun S => ?_⟩
    have e1 : toP 40 S (.tup [.str "kind", .str x]) = some (.tuple [.str "kind", .str x]) := by simp only [toP, toPs, Option.map_some]
    have e3 : SeqAt.shaped (.tuple [.str "kind", .str x]) = true := by
      unfold SeqAt.shaped
      have : PyData.strOk x = true := hx
      have h2 : PyData.strOk "kind" = true := by decide +kernel
      simp only [PyData.canLay0, PyData.canLayAll0, PyData.depth, PyData.depthAll, this, h2]; rfl
    have e4 : PyData.eqv (.tuple [.str "kind", .str x]) (.tuple [.str "kind", .str x]) = true := by simp [PyData.eqv, PyData.eqvAll]
    simp only [eqD, eqq, e1, e3, e4, and_self, ↓reduceIte]
theorem mem_be {S : Sto} {w : Str} (hw : Sk w) : memq (S ++ [Ob.lst [.str "both", .str "either"]]) (.str w) (.ref S.length) = some (decide (w ∈ (["both", "either"] : List Str))) :=
  mem_strs (ys := ["both", "either"]) (at_new _ _) (by decide +kernel) hw
theorem isi_tup {S : Sto} {ds : List Dv} : isiD "tuple" (.tup ds) S = .ok (.bl true) S := rfl
theorem ext_ref {S : Sto} {l m : Nat} {xs ys : List Dv} (h : S[l]? = some (.lst xs)) (h2 : S[m]? = some (.lst ys)) (hl : xs.length + ys.length ≤ sizeLine) : extendD (.ref l) [.ref m] S = .ok .non (S.set l (.lst (xs ++ ys))) := by simp only [extendD, lmap, h, h2, hl, ↓reduceIte]
theorem rep_ref {S : Sto} {l n : Nat} {x : Dv} (h : S[l]? = some (.lst [x])) (hn : n ≤ 1000) : mulD (.ref l) (.int (n : Int)) S = newL (List.replicate n x) S := by
  have hc : (-(2 ^ 63) ≤ (n : Int) ∧ (n : Int) < 2 ^ 63 ∧ [x].length * (n : Int).toNat ≤ sizeLine) := ⟨by omega, by omega, by show 1 * _ ≤ 16777216; omega⟩
  simp only [mulD, h]
  rw [if_pos hc, Int.toNat_natCast, List.flatten_replicate_singleton]
theorem put_at {S : Sto} {l j : Nat} {xs : List Dv} {y : Dv} (h : S[l]? = some (.lst xs)) (hj : j < xs.length) : putD (.ref l) (.int (j : Int)) y S = some (S.set l (.lst (xs.set j y))) := by
  have : L2.ixN xs.length (j : Int) = some j := by unfold L2.ixN; rw [if_pos (by omega), if_pos (by omega)]; rfl
  simp only [putD, h, this]
theorem sum_take_le (xs : List Nat) (i : Nat) : (xs.take i).sum ≤ xs.sum := by
  conv => rhs; rw [← List.take_append_drop i xs, List.sum_append]
  omega
theorem reach_run {ρ : PL.Env} {S : Sto} : ∃ S', eDisp [(eCon (.str "down"), eLst (aCons (eCon (.int 0)) (aNil))), (eCon (.str "deep"), eLst (aCons (eCon (.int 0)) (aNil))), (eCon (.str "later"), eLst (aCons (eCon (.int 0)) (aNil)))] ρ S = .ok (.ref S.length) S' ∧ Gr S S' ∧ Reach S' S.length := by
  have g0 := gr_app S [Ob.dk []]
  have a0 := at_new S (.dk [])
  generalize hT0 : S ++ [Ob.dk []] = T0 at g0 a0
  have g1 := gr_app T0 [Ob.lst [.int 0]]
  have a1 := at_new T0 (.lst [.int 0])
  generalize hT1 : T0 ++ [Ob.lst [.int 0]] = T1 at g1 a1
  have g2 := gr_app T1 [Ob.lst [.int 0]]
  have a2 := at_new T1 (.lst [.int 0])
  generalize hT2 : T1 ++ [Ob.lst [.int 0]] = T2 at g2 a2
  have g3 := gr_app T2 [Ob.lst [.int 0]]
  have a3 := at_new T2 (.lst [.int 0])
  generalize hT3 : T2 ++ [Ob.lst [.int 0]] = T3 at g3 a3
  have b0 := g3.at (g2.at (g1.at a0))
  have b1 := g3.at (g2.at a1)
  have b2 := g3.at a2
  let kvs : List (L2.Key × Dv) := [(.inr "down", .ref T0.length), (.inr "deep", .ref T1.length), (.inr "later", .ref T2.length)]
  have f4 := fr_set T3 S.length (.dk kvs)
  have c0 := at_set (o := .dk kvs) b0
  have l0 := lt_of_at a0
  have l1 := lt_of_at a1
  have l2 := lt_of_at a2
  refine ⟨T3.set S.length (.dk kvs), ?_, Gr.new g0 ((g1.trans g2).trans g3 |>.any.trans f4) (fun l z => by omega), ⟨kvs, c0, ?_⟩⟩
  · simp only [eDisp, evPairs, hT0, ev_var, ev_con, ev_bin, ev_un, ev_anil, ev_acons, ev_call, ev_tup, ev_lst, ev_not, ev_and, ev_or, ev_if, ev_cbl, ev_btrue, ev_cand, ev_cor, ev_cnot, ev_sli, ev_onone, ev_osome, ev_chain, ev_meth, ev_get2, ev_newK, ev_newT, ev_own, ev_nil, ev_seq, ev_expr, ev_set, ev_ret, ev_retN, ev_cif, ev_brk, ev_ct, ev_asg, ev_put, ev_aug, ev_for, ev_comp, ev_newL, ev_iseq, ev_irange, ev_ienum, ev_yes, Out.bind_ok, Out.bindN_ok, bindS_ok, Tg.set, Tg.sets, List.getElem?_cons_zero, List.getElem?_cons_succ, List.set_cons_zero, List.set_cons_succ, wipeE, List.length_cons, List.length_nil, Nat.reduceAdd, Nat.reduceLeDiff, Nat.reduceEqDiff, ↓reduceIte, Bool.false_eq_true, decide_eq_true_eq, add_int, sub_int, lt_int, gt_int, le_int, ge_int, neg_int, and_int, or_int, xor_int, max2_int, min2_int, mod_pos, fdiv_sm, mul_sm, mul_smr, Int.reduceLT, Int.reduceNeg, int_bl, int_int, sli_tup, sline 1 (by omega), hT1, hT2, hT3, b0]
    rfl
  · intro go hgo
    simp only [goW, List.mem_cons, List.not_mem_nil, or_false] at hgo
    rcases hgo with rfl | rfl | rfl
    · exact ⟨T0.length, [0], rfl, f4.get _ _ b1 (by show T0.length ≠ S.length; omega), by simp⟩
    · exact ⟨T1.length, [0], rfl, f4.get _ _ b2 (by show T1.length ≠ S.length; omega), by simp⟩
    · exact ⟨T2.length, [0], rfl, f4.get _ _ a3 (by show T2.length ≠ S.length; omega), by simp⟩
theorem sli_fl {S : Sto} {xs : List Dv} (lo hi : Option Int) : sliD (.fl xs) lo hi S = newL (cutD xs lo hi) S := by simp only [sliD, lstOf]
/-! the law's own table -/
def TLk (n : Nat) : Nat → Dv → Prop
  | 0, d => LP 0 d ∨ ∃ i : Nat, i < n ∧ d = .tup [.str "from", .int i]
  | h + 1, d => TLk n h d ∨ (∃ e, d = .tup [.str "not", e] ∧ TLk n h e) ∨ ∃ w e f, w ∈ (["both", "either"] : List Str) ∧ d = .tup [.str w, e, f] ∧ TLk n h e ∧ TLk n h f
theorem TLk.up {n h : Nat} {d : Dv} (k : TLk n h d) : ∀ {h' : Nat}, h ≤ h' → TLk n h' d
  | 0, hh => by cases (Nat.le_zero.mp hh); exact k
  | h' + 1, hh => by
    rcases Nat.lt_or_ge h (h' + 1) with q | q
    · exact .inl (TLk.up k (by omega))
    · have : h = h' + 1 := by omega
      subst this; exact k
theorem TLk.more {n n' : Nat} (hn : n ≤ n') : ∀ {h : Nat} {d : Dv}, TLk n h d → TLk n' h d
  | 0, d, .inl k => .inl k
  | 0, d, .inr ⟨i, hi, e⟩ => .inr ⟨i, by omega, e⟩
  | h + 1, d, .inl k => .inl (TLk.more hn k)
  | h + 1, d, .inr (.inl ⟨e, q, k⟩) => .inr (.inl ⟨e, q, TLk.more hn k⟩)
  | h + 1, d, .inr (.inr ⟨w, e, f, hw, q, k1, k2⟩) => .inr (.inr ⟨w, e, f, hw, q, TLk.more hn k1, TLk.more hn k2⟩)
structure Rw where
  go : Str
  look : Dv
  rest : Option Nat
def Rw.r (r : Rw) : Dv := match r.rest with | none => .non | some i => .int (i : Int)
def Rw.d (r : Rw) : Dv := .tup [.str r.go, r.look, r.r]
structure RwOk (n : Nat) (r : Rw) : Prop where
  go : r.go ∈ goW
  look : TLk n 12 r.look
  rest : ∀ i, r.rest = some i → i < n
theorem RwOk.more {n n' : Nat} {r : Rw} (hn : n ≤ n') (h : RwOk n r) : RwOk n' r := ⟨h.go, h.look.more hn, fun i hi => by have := h.rest i hi; omega⟩
theorem go_sk {w : Str} (h : w ∈ goW) : Sk w := by
  have : goW.all (fun w => PyData.strOk w) = true := by decide +kernel
  exact List.all_eq_true.mp this _ h
abbrev Turned (f h : Nat) (d : Dv) (lt : Nat) (T : List Rw) (S : Sto) : Prop := ∃ told N S', F f .l_turned [d, .ref lt] S = .ok told S' ∧ Fr (· = lt) S S' ∧ S'[lt]? = some (.lst ((T ++ N).map Rw.d)) ∧ N.length ≤ tN d ∧ TLk (T ++ N).length h told ∧ ∀ r ∈ N, RwOk (T ++ N).length r
theorem turned_way {f h : Nat} {ss : List (Str × Dv)} {lt : Nat} {T : List Rw} {S : Sto} (hh : h ≤ 12) (ih : ∀ s ∈ ss, ∀ (T : List Rw) (S : Sto), S[lt]? = some (.lst (T.map Rw.d)) → T.length + tN s.2 ≤ 1000 → Turned f h s.2 lt T S) (hne : ss ≠ []) (hgo : ∀ s ∈ ss, s.1 ∈ goW) (hT : S[lt]? = some (.lst (T.map Rw.d))) (hl : T.length + ss.length + (ss.map fun s => tN s.2).sum ≤ 1000) :
    Turned (f + 1) 0 (.tup [.str "way", .tup (ss.map stp)]) lt T S := by
  have hsum : (ss.map fun s => tN s.2).sum = (ss.reverse.map fun s => tN s.2).sum := by rw [List.map_reverse, List.sum_reverse]
  have hlen : ss.reverse.length = ss.length := List.length_reverse
  obtain ⟨ρ', S', e, N, v2, v4, v5, v6, rfl, f', hC, hNl, hN, h2⟩ := loop_all (ck := Ck.tt.ok) (t := .tp [.nm 4, .nm 5]) (b := b_l_turned_1 (F f)) (S := S) (ρ := [some (.tup [.str "way", .tup (ss.map stp)]), some (.ref lt), some .non, none, none, none, none])
    (fun i ρ S' => ∃ (N : List Rw) (v2 : Dv) (v4 v5 v6 : Option Dv), ρ = [some (.tup [.str "way", .tup (ss.map stp)]), some (.ref lt), some v2, none, v4, v5, v6] ∧ Fr (· = lt) S S' ∧ S'[lt]? = some (.lst ((T ++ N).map Rw.d)) ∧ N.length ≤ i + ((ss.reverse.map fun s => tN s.2).take i).sum ∧ (∀ r ∈ N, RwOk (T ++ N).length r) ∧
      ((i = 0 ∧ v2 = .non) ∨ (0 < (T ++ N).length ∧ v2 = .int ((((T ++ N).length - 1 : Nat)) : Int))))
    (ss.map stp).reverse ⟨[], .non, none, none, none, rfl, .refl _, by simpa using hT, by simp, by simp, .inl ⟨rfl, rfl⟩⟩
    (fun i v ρ S' hv ⟨N, v2, v4, v5, v6, hρ, f', hC, hNl, hN, h2⟩ => by
      subst hρ
      rw [← List.map_reverse, List.getElem?_map, Option.map_eq_some_iff] at hv
      obtain ⟨s, hs0, rfl⟩ := hv
      have hi := (List.getElem?_eq_some_iff.mp hs0).1
      have hsm : s ∈ ss := List.mem_reverse.mp (List.mem_of_getElem? hs0)
      have st1 : ((ss.reverse.map fun s => tN s.2).take (i + 1)).sum = ((ss.reverse.map fun s => tN s.2).take i).sum + tN s.2 := by
        rw [List.take_add_one, List.getElem?_map, hs0, List.sum_append]; simp
      have stl := sum_take_le (ss.reverse.map fun s => tN s.2) (i + 1)
      obtain ⟨told, N2, S5, e5, f5, hC5, hN2l, hk, hN2⟩ := ih s hsm (T ++ N) S' hC (by rw [List.length_append]; omega)
      have hrest : ∃ ro : Option Nat, v2 = Rw.r ⟨s.1, told, ro⟩ ∧ ∀ j, ro = some j → j < (T ++ N).length := by
        rcases h2 with ⟨_, rfl⟩ | ⟨h0, rfl⟩
        · exact ⟨none, rfl, fun j hj => by cases hj⟩
        · exact ⟨some ((T ++ N).length - 1), rfl, fun j hj => by injection hj; omega⟩
      obtain ⟨ro, hro, hrl⟩ := hrest
      have hC5' : S5[lt]? = some (.lst ((T ++ N ++ N2).map Rw.d)) := hC5
      have hlen2 : (T ++ N ++ N2).length < 1000 := by simp only [List.length_append]; omega
      have ap : appendD (.ref lt) [.tup [.str s.1, told, v2]] S5 = .ok .non (S5.set lt (.lst ((T ++ (N ++ (N2 ++ [(⟨s.1, told, ro⟩ : Rw)]))).map Rw.d))) := by
        rw [app_ref hC5' (by rw [List.length_map]; show _ < 2 ^ 24; omega)]
        simp only [List.map_append, List.append_assoc, List.map_cons, List.map_nil, Rw.d, hro]
      have f6 := fr_set S5 lt (.lst ((T ++ (N ++ (N2 ++ [(⟨s.1, told, ro⟩ : Rw)]))).map Rw.d))
      have hC6 := at_set (o := .lst ((T ++ (N ++ (N2 ++ [(⟨s.1, told, ro⟩ : Rw)]))).map Rw.d)) hC5
      generalize S5.set lt (.lst ((T ++ (N ++ (N2 ++ [(⟨s.1, told, ro⟩ : Rw)]))).map Rw.d)) = S6 at ap f6 hC6
      have ll := len_ref hC6
      have nlen : (T ++ (N ++ (N2 ++ [(⟨s.1, told, ro⟩ : Rw)]))).length = (T ++ N ++ N2).length + 1 := by simp only [List.length_append, List.length_cons, List.length_nil]; omega
      rw [List.length_map] at ll
      refine ⟨trivial, _, rfl, [some (.tup [.str "way", .tup (ss.map stp)]), some (.ref lt), some (.int (((T ++ (N ++ (N2 ++ [(⟨s.1, told, ro⟩ : Rw)]))).length : Int) - 1)), none, some (.str s.1), some s.2, some told], S6, .inl ?_, N ++ (N2 ++ [(⟨s.1, told, ro⟩ : Rw)]), _, _, _, _, rfl, (f'.trans f5).trans f6, hC6, ?_, ?_, .inr ⟨by rw [nlen]; omega, by congr 1; omega⟩⟩
      · unfold b_l_turned_1
        refine (seq_of (set_of (d := told) (S' := S5) (by simp only [ev_var, ev_con, ev_bin, ev_un, ev_anil, ev_acons, ev_call, ev_tup, ev_lst, ev_not, ev_and, ev_or, ev_if, ev_cbl, ev_btrue, ev_cand, ev_cor, ev_cnot, ev_sli, ev_onone, ev_osome, ev_chain, ev_meth, ev_get2, ev_newK, ev_newT, ev_own, ev_nil, ev_seq, ev_expr, ev_set, ev_ret, ev_retN, ev_cif, ev_brk, ev_ct, ev_asg, ev_put, ev_aug, ev_for, ev_comp, ev_newL, ev_iseq, ev_irange, ev_ienum, ev_yes, Out.bind_ok, Out.bindN_ok, bindS_ok, Tg.set, Tg.sets, List.getElem?_cons_zero, List.getElem?_cons_succ, List.set_cons_zero, List.set_cons_succ, wipeE, List.length_cons, List.length_nil, Nat.reduceAdd, Nat.reduceLeDiff, Nat.reduceEqDiff, ↓reduceIte, Bool.false_eq_true, decide_eq_true_eq, add_int, sub_int, lt_int, gt_int, le_int, ge_int, neg_int, and_int, or_int, xor_int, max2_int, min2_int, mod_pos, fdiv_sm, mul_sm, mul_smr, Int.reduceLT, Int.reduceNeg, int_bl, int_int, sli_tup, e5]))).trans ?_
        refine (seq_of (expr_of (d := .non) (S' := S6) (by simp only [ev_var, ev_con, ev_bin, ev_un, ev_anil, ev_acons, ev_call, ev_tup, ev_lst, ev_not, ev_and, ev_or, ev_if, ev_cbl, ev_btrue, ev_cand, ev_cor, ev_cnot, ev_sli, ev_onone, ev_osome, ev_chain, ev_meth, ev_get2, ev_newK, ev_newT, ev_own, ev_nil, ev_seq, ev_expr, ev_set, ev_ret, ev_retN, ev_cif, ev_brk, ev_ct, ev_asg, ev_put, ev_aug, ev_for, ev_comp, ev_newL, ev_iseq, ev_irange, ev_ienum, ev_yes, Out.bind_ok, Out.bindN_ok, bindS_ok, Tg.set, Tg.sets, List.getElem?_cons_zero, List.getElem?_cons_succ, List.set_cons_zero, List.set_cons_succ, wipeE, List.length_cons, List.length_nil, Nat.reduceAdd, Nat.reduceLeDiff, Nat.reduceEqDiff, ↓reduceIte, Bool.false_eq_true, decide_eq_true_eq, add_int, sub_int, lt_int, gt_int, le_int, ge_int, neg_int, and_int, or_int, xor_int, max2_int, min2_int, mod_pos, fdiv_sm, mul_sm, mul_smr, Int.reduceLT, Int.reduceNeg, int_bl, int_int, sli_tup, tyq_ref hC5, sline 3 (by omega), ap]))).trans ?_
        exact set_of (by simp only [ev_var, ev_con, ev_bin, ev_un, ev_anil, ev_acons, ev_call, ev_tup, ev_lst, ev_not, ev_and, ev_or, ev_if, ev_cbl, ev_btrue, ev_cand, ev_cor, ev_cnot, ev_sli, ev_onone, ev_osome, ev_chain, ev_meth, ev_get2, ev_newK, ev_newT, ev_own, ev_nil, ev_seq, ev_expr, ev_set, ev_ret, ev_retN, ev_cif, ev_brk, ev_ct, ev_asg, ev_put, ev_aug, ev_for, ev_comp, ev_newL, ev_iseq, ev_irange, ev_ienum, ev_yes, Out.bind_ok, Out.bindN_ok, bindS_ok, Tg.set, Tg.sets, List.getElem?_cons_zero, List.getElem?_cons_succ, List.set_cons_zero, List.set_cons_succ, wipeE, List.length_cons, List.length_nil, Nat.reduceAdd, Nat.reduceLeDiff, Nat.reduceEqDiff, ↓reduceIte, Bool.false_eq_true, decide_eq_true_eq, add_int, sub_int, lt_int, gt_int, le_int, ge_int, neg_int, and_int, or_int, xor_int, max2_int, min2_int, mod_pos, fdiv_sm, mul_sm, mul_smr, Int.reduceLT, Int.reduceNeg, int_bl, int_int, sli_tup, ll])
      · rw [st1]; simp only [List.length_append, List.length_cons, List.length_nil]; omega
      · intro r hr
        have l1 : (T ++ N).length ≤ (T ++ N ++ N2).length := by simp only [List.length_append]; omega
        rcases List.mem_append.mp hr with hr | hr
        · exact (hN r hr).more (by rw [nlen]; omega)
        · rcases List.mem_append.mp hr with hr | hr
          · exact (hN2 r hr).more (by rw [nlen]; omega)
          · rw [List.mem_singleton] at hr; subst hr
            exact ⟨hgo s hsm, (hk.up hh).more (by rw [nlen]; omega), fun j hj => by have := hrl j hj; rw [nlen]; omega⟩)
    (fun _ _ _ => trivial)
  have el : (ss.map stp).reverse.length = ss.length := by rw [List.length_reverse, List.length_map]
  rw [el] at hNl h2
  have h0 : 0 < ss.length := List.length_pos_iff.mpr hne
  have stl := sum_take_le (ss.reverse.map fun s => tN s.2) ss.length
  rcases h2 with ⟨h2, _⟩ | ⟨h1, rfl⟩
  · omega
  refine ⟨.tup [.str "from", .int (((T ++ N).length - 1 : Nat) : Int)], N, S', ?_, f', hC, by rw [tN_way]; omega, .inr ⟨_, by omega, rfl⟩, hN⟩
  rw [F_l_turned]
  refine runF_rt (ρ := [some (.tup [.str "way", .tup (ss.map stp)]), some (.ref lt), none, none, none, none, none]) rfl rfl ?_
  unfold c_l_turned
  refine seq_rt ((if_t (S' := S) (by simp only [ev_var, ev_con, ev_bin, ev_un, ev_anil, ev_acons, ev_call, ev_tup, ev_lst, ev_not, ev_and, ev_or, ev_if, ev_cbl, ev_btrue, ev_cand, ev_cor, ev_cnot, ev_sli, ev_onone, ev_osome, ev_chain, ev_meth, ev_get2, ev_newK, ev_newT, ev_own, ev_nil, ev_seq, ev_expr, ev_set, ev_ret, ev_retN, ev_cif, ev_brk, ev_ct, ev_asg, ev_put, ev_aug, ev_for, ev_comp, ev_newL, ev_iseq, ev_irange, ev_ienum, ev_yes, Out.bind_ok, Out.bindN_ok, bindS_ok, Tg.set, Tg.sets, List.getElem?_cons_zero, List.getElem?_cons_succ, List.set_cons_zero, List.set_cons_succ, wipeE, List.length_cons, List.length_nil, Nat.reduceAdd, Nat.reduceLeDiff, Nat.reduceEqDiff, ↓reduceIte, Bool.false_eq_true, decide_eq_true_eq, add_int, sub_int, lt_int, gt_int, le_int, ge_int, neg_int, and_int, or_int, xor_int, max2_int, min2_int, mod_pos, fdiv_sm, mul_sm, mul_smr, Int.reduceLT, Int.reduceNeg, int_bl, int_int, sli_tup, idx_t0, eqs sk_way sk_way, decide_true])).trans ?_)
  refine (seq_of (set_of rfl)).trans ?_
  have ez : (PL.iRev (eBin idxD (eVar 0) (eCon (.int 1)))) [some (.tup [.str "way", .tup (ss.map stp)]), some (.ref lt), some .non, none, none, none, none] S = .ok ((ss.map stp).reverse, .tt) S := by
    simp only [PL.iRev, ev_var, ev_con, ev_bin, ev_un, ev_anil, ev_acons, ev_call, ev_tup, ev_lst, ev_not, ev_and, ev_or, ev_if, ev_cbl, ev_btrue, ev_cand, ev_cor, ev_cnot, ev_sli, ev_onone, ev_osome, ev_chain, ev_meth, ev_get2, ev_newK, ev_newT, ev_own, ev_nil, ev_seq, ev_expr, ev_set, ev_ret, ev_retN, ev_cif, ev_brk, ev_ct, ev_asg, ev_put, ev_aug, ev_for, ev_comp, ev_newL, ev_iseq, ev_irange, ev_ienum, ev_yes, Out.bind_ok, Out.bindN_ok, bindS_ok, Tg.set, Tg.sets, List.getElem?_cons_zero, List.getElem?_cons_succ, List.set_cons_zero, List.set_cons_succ, wipeE, List.length_cons, List.length_nil, Nat.reduceAdd, Nat.reduceLeDiff, Nat.reduceEqDiff, ↓reduceIte, Bool.false_eq_true, decide_eq_true_eq, add_int, sub_int, lt_int, gt_int, le_int, ge_int, neg_int, and_int, or_int, xor_int, max2_int, min2_int, mod_pos, fdiv_sm, mul_sm, mul_smr, Int.reduceLT, Int.reduceNeg, int_bl, int_int, sli_tup, idx_t1, seqOf, tupOf]; rfl
  exact (seq_of ((for_of ez).trans e)).trans (ret_of (by simp only [ev_var, ev_con, ev_bin, ev_un, ev_anil, ev_acons, ev_call, ev_tup, ev_lst, ev_not, ev_and, ev_or, ev_if, ev_cbl, ev_btrue, ev_cand, ev_cor, ev_cnot, ev_sli, ev_onone, ev_osome, ev_chain, ev_meth, ev_get2, ev_newK, ev_newT, ev_own, ev_nil, ev_seq, ev_expr, ev_set, ev_ret, ev_retN, ev_cif, ev_brk, ev_ct, ev_asg, ev_put, ev_aug, ev_for, ev_comp, ev_newL, ev_iseq, ev_irange, ev_ienum, ev_yes, Out.bind_ok, Out.bindN_ok, bindS_ok, Tg.set, Tg.sets, List.getElem?_cons_zero, List.getElem?_cons_succ, List.set_cons_zero, List.set_cons_succ, wipeE, List.length_cons, List.length_nil, Nat.reduceAdd, Nat.reduceLeDiff, Nat.reduceEqDiff, ↓reduceIte, Bool.false_eq_true, decide_eq_true_eq, add_int, sub_int, lt_int, gt_int, le_int, ge_int, neg_int, and_int, or_int, xor_int, max2_int, min2_int, mod_pos, fdiv_sm, mul_sm, mul_smr, Int.reduceLT, Int.reduceNeg, int_bl, int_int, sli_tup, sline 2 (by omega)]))
theorem law_turned : ∀ (h : Nat) (d : Dv), h ≤ 12 → LP h d → ∀ (f lt : Nat) (T : List Rw) (S : Sto), h + 1 ≤ f → S[lt]? = some (.lst (T.map Rw.d)) → T.length + tN d ≤ 1000 → Turned f h d lt T S := by
  have leaf0 : ∀ (d : Dv), LP 0 d → ∀ (f lt : Nat) (T : List Rw) (S : Sto), 1 ≤ f → S[lt]? = some (.lst (T.map Rw.d)) → Turned f 0 d lt T S := fun d hd f lt T S hf hT => by
    obtain ⟨k, rfl⟩ : ∃ k, f = k + 1 := ⟨f - 1, by omega⟩
    obtain ⟨w, r, rfl, hw, n1, n2, n3, n4, he⟩ := (leaf_of hd).ex
    have g := gr_app S [Ob.lst [.str "both", .str "either"]]
    refine ⟨_, [], S ++ [Ob.lst [.str "both", .str "either"]], ?_, g.any, by rw [List.append_nil]; exact g.at hT, Nat.zero_le _, .inl hd, by simp⟩
    rw [F_l_turned]
    refine runF_rt (ρ := [some (.tup (.str w :: r)), some (.ref lt), none, none, none, none, none]) rfl rfl ?_
    unfold c_l_turned
    have nm : w ∉ (["both", "either"] : List Str) := by simp [n3, n4]
    refine (seq_of ((if_f (S' := S) (by simp only [ev_var, ev_con, ev_bin, ev_un, ev_anil, ev_acons, ev_call, ev_tup, ev_lst, ev_not, ev_and, ev_or, ev_if, ev_cbl, ev_btrue, ev_cand, ev_cor, ev_cnot, ev_sli, ev_onone, ev_osome, ev_chain, ev_meth, ev_get2, ev_newK, ev_newT, ev_own, ev_nil, ev_seq, ev_expr, ev_set, ev_ret, ev_retN, ev_cif, ev_brk, ev_ct, ev_asg, ev_put, ev_aug, ev_for, ev_comp, ev_newL, ev_iseq, ev_irange, ev_ienum, ev_yes, Out.bind_ok, Out.bindN_ok, bindS_ok, Tg.set, Tg.sets, List.getElem?_cons_zero, List.getElem?_cons_succ, List.set_cons_zero, List.set_cons_succ, wipeE, List.length_cons, List.length_nil, Nat.reduceAdd, Nat.reduceLeDiff, Nat.reduceEqDiff, ↓reduceIte, Bool.false_eq_true, decide_eq_true_eq, add_int, sub_int, lt_int, gt_int, le_int, ge_int, neg_int, and_int, or_int, xor_int, max2_int, min2_int, mod_pos, fdiv_sm, mul_sm, mul_smr, Int.reduceLT, Int.reduceNeg, int_bl, int_int, sli_tup, idx_t0, eqs hw sk_way, n1, decide_false])).trans rfl)).trans ?_
    refine (seq_of ((if_f (S' := S) (by simp only [ev_var, ev_con, ev_bin, ev_un, ev_anil, ev_acons, ev_call, ev_tup, ev_lst, ev_not, ev_and, ev_or, ev_if, ev_cbl, ev_btrue, ev_cand, ev_cor, ev_cnot, ev_sli, ev_onone, ev_osome, ev_chain, ev_meth, ev_get2, ev_newK, ev_newT, ev_own, ev_nil, ev_seq, ev_expr, ev_set, ev_ret, ev_retN, ev_cif, ev_brk, ev_ct, ev_asg, ev_put, ev_aug, ev_for, ev_comp, ev_newL, ev_iseq, ev_irange, ev_ienum, ev_yes, Out.bind_ok, Out.bindN_ok, bindS_ok, Tg.set, Tg.sets, List.getElem?_cons_zero, List.getElem?_cons_succ, List.set_cons_zero, List.set_cons_succ, wipeE, List.length_cons, List.length_nil, Nat.reduceAdd, Nat.reduceLeDiff, Nat.reduceEqDiff, ↓reduceIte, Bool.false_eq_true, decide_eq_true_eq, add_int, sub_int, lt_int, gt_int, le_int, ge_int, neg_int, and_int, or_int, xor_int, max2_int, min2_int, mod_pos, fdiv_sm, mul_sm, mul_smr, Int.reduceLT, Int.reduceNeg, int_bl, int_int, sli_tup, idx_t0, eqs hw sk_not, n2, decide_false])).trans rfl)).trans ?_
    refine (seq_of ((if_f (S' := S ++ [Ob.lst [.str "both", .str "either"]]) (by simp only [ev_var, ev_con, ev_bin, ev_un, ev_anil, ev_acons, ev_call, ev_tup, ev_lst, ev_not, ev_and, ev_or, ev_if, ev_cbl, ev_btrue, ev_cand, ev_cor, ev_cnot, ev_sli, ev_onone, ev_osome, ev_chain, ev_meth, ev_get2, ev_newK, ev_newT, ev_own, ev_nil, ev_seq, ev_expr, ev_set, ev_ret, ev_retN, ev_cif, ev_brk, ev_ct, ev_asg, ev_put, ev_aug, ev_for, ev_comp, ev_newL, ev_iseq, ev_irange, ev_ienum, ev_yes, Out.bind_ok, Out.bindN_ok, bindS_ok, Tg.set, Tg.sets, List.getElem?_cons_zero, List.getElem?_cons_succ, List.set_cons_zero, List.set_cons_succ, wipeE, List.length_cons, List.length_nil, Nat.reduceAdd, Nat.reduceLeDiff, Nat.reduceEqDiff, ↓reduceIte, Bool.false_eq_true, decide_eq_true_eq, add_int, sub_int, lt_int, gt_int, le_int, ge_int, neg_int, and_int, or_int, xor_int, max2_int, min2_int, mod_pos, fdiv_sm, mul_sm, mul_smr, Int.reduceLT, Int.reduceNeg, int_bl, int_int, sli_tup, idx_t0, sline 2 (by omega), inD, mem_be hw, nm, decide_false])).trans rfl)).trans ?_
    exact ret_of (by simp only [ev_var, ev_con, ev_bin, ev_un, ev_anil, ev_acons, ev_call, ev_tup, ev_lst, ev_not, ev_and, ev_or, ev_if, ev_cbl, ev_btrue, ev_cand, ev_cor, ev_cnot, ev_sli, ev_onone, ev_osome, ev_chain, ev_meth, ev_get2, ev_newK, ev_newT, ev_own, ev_nil, ev_seq, ev_expr, ev_set, ev_ret, ev_retN, ev_cif, ev_brk, ev_ct, ev_asg, ev_put, ev_aug, ev_for, ev_comp, ev_newL, ev_iseq, ev_irange, ev_ienum, ev_yes, Out.bind_ok, Out.bindN_ok, bindS_ok, Tg.set, Tg.sets, List.getElem?_cons_zero, List.getElem?_cons_succ, List.set_cons_zero, List.set_cons_succ, wipeE, List.length_cons, List.length_nil, Nat.reduceAdd, Nat.reduceLeDiff, Nat.reduceEqDiff, ↓reduceIte, Bool.false_eq_true, decide_eq_true_eq, add_int, sub_int, lt_int, gt_int, le_int, ge_int, neg_int, and_int, or_int, xor_int, max2_int, min2_int, mod_pos, fdiv_sm, mul_sm, mul_smr, Int.reduceLT, Int.reduceNeg, int_bl, int_int, sli_tup])
  intro h
  induction h with
  | zero => exact fun d _ hd f lt T S hf hT _ => leaf0 d hd f lt T S (by omega) hT
  | succ h ih =>
    intro d hh hd f lt T S hf hT hl
    obtain ⟨k, rfl⟩ : ∃ k, f = k + 1 := ⟨f - 1, by omega⟩
    rcases hd with hd | ⟨e, rfl, he⟩ | ⟨w, e, g, hw, rfl, he, hg⟩ | ⟨ss, rfl, hne, hss, hx⟩
    · obtain ⟨told, N, S', a, b, c, d', e, e2⟩ := ih d (by omega) hd (k + 1) lt T S (by omega) hT hl
      exact ⟨told, N, S', a, b, c, d', e.up (by omega), e2⟩
    · rw [tN_not] at hl
      obtain ⟨told, N, S', a, b, c, d', e', e2⟩ := ih e (by omega) he k lt T S (by omega) hT (by omega)
      refine ⟨.tup [.str "not", told], N, S', ?_, b, c, by rw [tN_not]; omega, .inr (.inl ⟨_, rfl, e'⟩), e2⟩
      rw [F_l_turned]
      refine runF_rt (ρ := [some (.tup [.str "not", e]), some (.ref lt), none, none, none, none, none]) rfl rfl ?_
      unfold c_l_turned
      refine (seq_of ((if_f (S' := S) (by simp only [ev_var, ev_con, ev_bin, ev_un, ev_anil, ev_acons, ev_call, ev_tup, ev_lst, ev_not, ev_and, ev_or, ev_if, ev_cbl, ev_btrue, ev_cand, ev_cor, ev_cnot, ev_sli, ev_onone, ev_osome, ev_chain, ev_meth, ev_get2, ev_newK, ev_newT, ev_own, ev_nil, ev_seq, ev_expr, ev_set, ev_ret, ev_retN, ev_cif, ev_brk, ev_ct, ev_asg, ev_put, ev_aug, ev_for, ev_comp, ev_newL, ev_iseq, ev_irange, ev_ienum, ev_yes, Out.bind_ok, Out.bindN_ok, bindS_ok, Tg.set, Tg.sets, List.getElem?_cons_zero, List.getElem?_cons_succ, List.set_cons_zero, List.set_cons_succ, wipeE, List.length_cons, List.length_nil, Nat.reduceAdd, Nat.reduceLeDiff, Nat.reduceEqDiff, ↓reduceIte, Bool.false_eq_true, decide_eq_true_eq, add_int, sub_int, lt_int, gt_int, le_int, ge_int, neg_int, and_int, or_int, xor_int, max2_int, min2_int, mod_pos, fdiv_sm, mul_sm, mul_smr, Int.reduceLT, Int.reduceNeg, int_bl, int_int, sli_tup, idx_t0, eqs sk_not sk_way, show decide (("not" : Str) = "way") = false by decide])).trans rfl)).trans ?_
      exact seq_rt ((if_t (S' := S) (by simp only [ev_var, ev_con, ev_bin, ev_un, ev_anil, ev_acons, ev_call, ev_tup, ev_lst, ev_not, ev_and, ev_or, ev_if, ev_cbl, ev_btrue, ev_cand, ev_cor, ev_cnot, ev_sli, ev_onone, ev_osome, ev_chain, ev_meth, ev_get2, ev_newK, ev_newT, ev_own, ev_nil, ev_seq, ev_expr, ev_set, ev_ret, ev_retN, ev_cif, ev_brk, ev_ct, ev_asg, ev_put, ev_aug, ev_for, ev_comp, ev_newL, ev_iseq, ev_irange, ev_ienum, ev_yes, Out.bind_ok, Out.bindN_ok, bindS_ok, Tg.set, Tg.sets, List.getElem?_cons_zero, List.getElem?_cons_succ, List.set_cons_zero, List.set_cons_succ, wipeE, List.length_cons, List.length_nil, Nat.reduceAdd, Nat.reduceLeDiff, Nat.reduceEqDiff, ↓reduceIte, Bool.false_eq_true, decide_eq_true_eq, add_int, sub_int, lt_int, gt_int, le_int, ge_int, neg_int, and_int, or_int, xor_int, max2_int, min2_int, mod_pos, fdiv_sm, mul_sm, mul_smr, Int.reduceLT, Int.reduceNeg, int_bl, int_int, sli_tup, idx_t0, eqs sk_not sk_not, decide_true])).trans (ret_of (by simp only [ev_var, ev_con, ev_bin, ev_un, ev_anil, ev_acons, ev_call, ev_tup, ev_lst, ev_not, ev_and, ev_or, ev_if, ev_cbl, ev_btrue, ev_cand, ev_cor, ev_cnot, ev_sli, ev_onone, ev_osome, ev_chain, ev_meth, ev_get2, ev_newK, ev_newT, ev_own, ev_nil, ev_seq, ev_expr, ev_set, ev_ret, ev_retN, ev_cif, ev_brk, ev_ct, ev_asg, ev_put, ev_aug, ev_for, ev_comp, ev_newL, ev_iseq, ev_irange, ev_ienum, ev_yes, Out.bind_ok, Out.bindN_ok, bindS_ok, Tg.set, Tg.sets, List.getElem?_cons_zero, List.getElem?_cons_succ, List.set_cons_zero, List.set_cons_succ, wipeE, List.length_cons, List.length_nil, Nat.reduceAdd, Nat.reduceLeDiff, Nat.reduceEqDiff, ↓reduceIte, Bool.false_eq_true, decide_eq_true_eq, add_int, sub_int, lt_int, gt_int, le_int, ge_int, neg_int, and_int, or_int, xor_int, max2_int, min2_int, mod_pos, fdiv_sm, mul_sm, mul_smr, Int.reduceLT, Int.reduceNeg, int_bl, int_int, sli_tup, idx_t1, a, sline 2 (by omega)])))
    · rw [tN_two] at hl
      have g0 := gr_app S [Ob.lst [.str "both", .str "either"]]
      obtain ⟨t1, N1, S1, a1, b1, c1, d1, k1, r1⟩ := ih e (by omega) he k lt T (S ++ [Ob.lst [.str "both", .str "either"]]) (by omega) (g0.at hT) (by omega)
      obtain ⟨t2, N2, S2, a2, b2, c2, d2, k2, r2⟩ := ih g (by omega) hg k lt (T ++ N1) S1 (by omega) c1 (by rw [List.length_append]; omega)
      have hw2 : Sk w ∧ w ≠ "way" ∧ w ≠ "not" := by
        simp only [List.mem_cons, List.not_mem_nil, or_false] at hw
        rcases hw with rfl | rfl <;> exact ⟨by decide +kernel, by decide, by decide⟩
      have be := mem_be (S := S) hw2.1
      have ll : (T ++ N1).length ≤ (T ++ N1 ++ N2).length := by simp only [List.length_append]; omega
      rw [List.append_assoc] at c2 k2 r2 ll
      refine ⟨.tup [.str w, t1, t2], N1 ++ N2, S2, ?_, (g0.any.trans b1).trans b2, c2, by rw [tN_two, List.length_append]; omega, .inr (.inr ⟨w, _, _, hw, rfl, k1.more ll, k2⟩), fun r hr => ?_⟩
      · rw [F_l_turned]
        refine runF_rt (ρ := [some (.tup [.str w, e, g]), some (.ref lt), none, none, none, none, none]) rfl rfl ?_
        unfold c_l_turned
        refine (seq_of ((if_f (S' := S) (by simp only [ev_var, ev_con, ev_bin, ev_un, ev_anil, ev_acons, ev_call, ev_tup, ev_lst, ev_not, ev_and, ev_or, ev_if, ev_cbl, ev_btrue, ev_cand, ev_cor, ev_cnot, ev_sli, ev_onone, ev_osome, ev_chain, ev_meth, ev_get2, ev_newK, ev_newT, ev_own, ev_nil, ev_seq, ev_expr, ev_set, ev_ret, ev_retN, ev_cif, ev_brk, ev_ct, ev_asg, ev_put, ev_aug, ev_for, ev_comp, ev_newL, ev_iseq, ev_irange, ev_ienum, ev_yes, Out.bind_ok, Out.bindN_ok, bindS_ok, Tg.set, Tg.sets, List.getElem?_cons_zero, List.getElem?_cons_succ, List.set_cons_zero, List.set_cons_succ, wipeE, List.length_cons, List.length_nil, Nat.reduceAdd, Nat.reduceLeDiff, Nat.reduceEqDiff, ↓reduceIte, Bool.false_eq_true, decide_eq_true_eq, add_int, sub_int, lt_int, gt_int, le_int, ge_int, neg_int, and_int, or_int, xor_int, max2_int, min2_int, mod_pos, fdiv_sm, mul_sm, mul_smr, Int.reduceLT, Int.reduceNeg, int_bl, int_int, sli_tup, idx_t0, eqs hw2.1 sk_way, hw2.2.1, decide_false])).trans rfl)).trans ?_
        refine (seq_of ((if_f (S' := S) (by simp only [ev_var, ev_con, ev_bin, ev_un, ev_anil, ev_acons, ev_call, ev_tup, ev_lst, ev_not, ev_and, ev_or, ev_if, ev_cbl, ev_btrue, ev_cand, ev_cor, ev_cnot, ev_sli, ev_onone, ev_osome, ev_chain, ev_meth, ev_get2, ev_newK, ev_newT, ev_own, ev_nil, ev_seq, ev_expr, ev_set, ev_ret, ev_retN, ev_cif, ev_brk, ev_ct, ev_asg, ev_put, ev_aug, ev_for, ev_comp, ev_newL, ev_iseq, ev_irange, ev_ienum, ev_yes, Out.bind_ok, Out.bindN_ok, bindS_ok, Tg.set, Tg.sets, List.getElem?_cons_zero, List.getElem?_cons_succ, List.set_cons_zero, List.set_cons_succ, wipeE, List.length_cons, List.length_nil, Nat.reduceAdd, Nat.reduceLeDiff, Nat.reduceEqDiff, ↓reduceIte, Bool.false_eq_true, decide_eq_true_eq, add_int, sub_int, lt_int, gt_int, le_int, ge_int, neg_int, and_int, or_int, xor_int, max2_int, min2_int, mod_pos, fdiv_sm, mul_sm, mul_smr, Int.reduceLT, Int.reduceNeg, int_bl, int_int, sli_tup, idx_t0, eqs hw2.1 sk_not, hw2.2.2, decide_false])).trans rfl)).trans ?_
        refine seq_rt ((if_t (S' := S ++ [Ob.lst [.str "both", .str "either"]]) (by simp only [ev_var, ev_con, ev_bin, ev_un, ev_anil, ev_acons, ev_call, ev_tup, ev_lst, ev_not, ev_and, ev_or, ev_if, ev_cbl, ev_btrue, ev_cand, ev_cor, ev_cnot, ev_sli, ev_onone, ev_osome, ev_chain, ev_meth, ev_get2, ev_newK, ev_newT, ev_own, ev_nil, ev_seq, ev_expr, ev_set, ev_ret, ev_retN, ev_cif, ev_brk, ev_ct, ev_asg, ev_put, ev_aug, ev_for, ev_comp, ev_newL, ev_iseq, ev_irange, ev_ienum, ev_yes, Out.bind_ok, Out.bindN_ok, bindS_ok, Tg.set, Tg.sets, List.getElem?_cons_zero, List.getElem?_cons_succ, List.set_cons_zero, List.set_cons_succ, wipeE, List.length_cons, List.length_nil, Nat.reduceAdd, Nat.reduceLeDiff, Nat.reduceEqDiff, ↓reduceIte, Bool.false_eq_true, decide_eq_true_eq, add_int, sub_int, lt_int, gt_int, le_int, ge_int, neg_int, and_int, or_int, xor_int, max2_int, min2_int, mod_pos, fdiv_sm, mul_sm, mul_smr, Int.reduceLT, Int.reduceNeg, int_bl, int_int, sli_tup, idx_t0, sline 2 (by omega), inD, be, hw, decide_true])).trans ?_)
        refine (seq_of (set_of (d := t1) (S' := S1) (by simp only [ev_var, ev_con, ev_bin, ev_un, ev_anil, ev_acons, ev_call, ev_tup, ev_lst, ev_not, ev_and, ev_or, ev_if, ev_cbl, ev_btrue, ev_cand, ev_cor, ev_cnot, ev_sli, ev_onone, ev_osome, ev_chain, ev_meth, ev_get2, ev_newK, ev_newT, ev_own, ev_nil, ev_seq, ev_expr, ev_set, ev_ret, ev_retN, ev_cif, ev_brk, ev_ct, ev_asg, ev_put, ev_aug, ev_for, ev_comp, ev_newL, ev_iseq, ev_irange, ev_ienum, ev_yes, Out.bind_ok, Out.bindN_ok, bindS_ok, Tg.set, Tg.sets, List.getElem?_cons_zero, List.getElem?_cons_succ, List.set_cons_zero, List.set_cons_succ, wipeE, List.length_cons, List.length_nil, Nat.reduceAdd, Nat.reduceLeDiff, Nat.reduceEqDiff, ↓reduceIte, Bool.false_eq_true, decide_eq_true_eq, add_int, sub_int, lt_int, gt_int, le_int, ge_int, neg_int, and_int, or_int, xor_int, max2_int, min2_int, mod_pos, fdiv_sm, mul_sm, mul_smr, Int.reduceLT, Int.reduceNeg, int_bl, int_int, sli_tup, idx_t1, a1]))).trans ?_
        exact ret_of (by simp only [ev_var, ev_con, ev_bin, ev_un, ev_anil, ev_acons, ev_call, ev_tup, ev_lst, ev_not, ev_and, ev_or, ev_if, ev_cbl, ev_btrue, ev_cand, ev_cor, ev_cnot, ev_sli, ev_onone, ev_osome, ev_chain, ev_meth, ev_get2, ev_newK, ev_newT, ev_own, ev_nil, ev_seq, ev_expr, ev_set, ev_ret, ev_retN, ev_cif, ev_brk, ev_ct, ev_asg, ev_put, ev_aug, ev_for, ev_comp, ev_newL, ev_iseq, ev_irange, ev_ienum, ev_yes, Out.bind_ok, Out.bindN_ok, bindS_ok, Tg.set, Tg.sets, List.getElem?_cons_zero, List.getElem?_cons_succ, List.set_cons_zero, List.set_cons_succ, wipeE, List.length_cons, List.length_nil, Nat.reduceAdd, Nat.reduceLeDiff, Nat.reduceEqDiff, ↓reduceIte, Bool.false_eq_true, decide_eq_true_eq, add_int, sub_int, lt_int, gt_int, le_int, ge_int, neg_int, and_int, or_int, xor_int, max2_int, min2_int, mod_pos, fdiv_sm, mul_sm, mul_smr, Int.reduceLT, Int.reduceNeg, int_bl, int_int, sli_tup, idx_t0, idx_t2, a2, sline 3 (by omega)])
      · rcases List.mem_append.mp hr with hr | hr
        · exact (r1 r hr).more ll
        · exact r2 r hr
    · rw [tN_way] at hl
      obtain ⟨told, N, S', a, b, c, d', e, e2⟩ := turned_way (f := k) (h := h) (ss := ss) (lt := lt) (T := T) (S := S) (by omega) (fun s hs T' S' hT' hl' => ih s.2 (by omega) (hx s hs).2 k lt T' S' (by omega) hT' hl') hne (fun s hs => (hx s hs).1) hT (by omega)
      exact ⟨told, N, S', a, b, c, d', e.up (by omega), e2⟩
theorem dealt_look_run {n lp : Nat} {ps : List Nat} (hps : ps.length = n) (hpn : ∀ p ∈ ps, p < n) : ∀ (h : Nat) (d : Dv), TLk n h d → ∀ (f : Nat) (S : Sto), h + 1 ≤ f → S[lp]? = some (.lst (ps.map fun (p : Nat) => .int (p : Int))) → ∃ told S', F f .l_dealt_look [d, .ref lp] S = .ok told S' ∧ Gr S S' ∧ TLk n h told := by
  intro h
  induction h with
  | zero =>
    intro d hd f S hf hp
    obtain ⟨k, rfl⟩ : ∃ k, f = k + 1 := ⟨f - 1, by omega⟩
    rcases hd with hd | ⟨i, hi, rfl⟩
    · obtain ⟨w, r, rfl, hw, n1, n2, n3, n4, he⟩ := (leaf_of hd).ex
      have nf : w ≠ "from" := by
        intro z; subst z
        rcases hd with hd | hd | ⟨x, _, hd⟩ <;> (injection hd with hd; injection hd with hd; injection hd with hd; revert hd; decide)
      have g := gr_app S [Ob.lst [.str "both", .str "either"]]
      refine ⟨_, S ++ [Ob.lst [.str "both", .str "either"]], ?_, g, .inl hd⟩
      rw [F_l_dealt_look]
      refine runF_rt (ρ := [some (.tup (.str w :: r)), some (.ref lp), none]) rfl rfl ?_
      unfold c_l_dealt_look
      have nm : w ∉ (["both", "either"] : List Str) := by simp [n3, n4]
      refine (seq_of ((if_f (S' := S) (by simp only [ev_var, ev_con, ev_bin, ev_un, ev_anil, ev_acons, ev_call, ev_tup, ev_lst, ev_not, ev_and, ev_or, ev_if, ev_cbl, ev_btrue, ev_cand, ev_cor, ev_cnot, ev_sli, ev_onone, ev_osome, ev_chain, ev_meth, ev_get2, ev_newK, ev_newT, ev_own, ev_nil, ev_seq, ev_expr, ev_set, ev_ret, ev_retN, ev_cif, ev_brk, ev_ct, ev_asg, ev_put, ev_aug, ev_for, ev_comp, ev_newL, ev_iseq, ev_irange, ev_ienum, ev_yes, Out.bind_ok, Out.bindN_ok, bindS_ok, Tg.set, Tg.sets, List.getElem?_cons_zero, List.getElem?_cons_succ, List.set_cons_zero, List.set_cons_succ, wipeE, List.length_cons, List.length_nil, Nat.reduceAdd, Nat.reduceLeDiff, Nat.reduceEqDiff, ↓reduceIte, Bool.false_eq_true, decide_eq_true_eq, add_int, sub_int, lt_int, gt_int, le_int, ge_int, neg_int, and_int, or_int, xor_int, max2_int, min2_int, mod_pos, fdiv_sm, mul_sm, mul_smr, Int.reduceLT, Int.reduceNeg, int_bl, int_int, sli_tup, idx_t0, eqs hw sk_from, nf, decide_false])).trans rfl)).trans ?_
      refine (seq_of ((if_f (S' := S) (by simp only [ev_var, ev_con, ev_bin, ev_un, ev_anil, ev_acons, ev_call, ev_tup, ev_lst, ev_not, ev_and, ev_or, ev_if, ev_cbl, ev_btrue, ev_cand, ev_cor, ev_cnot, ev_sli, ev_onone, ev_osome, ev_chain, ev_meth, ev_get2, ev_newK, ev_newT, ev_own, ev_nil, ev_seq, ev_expr, ev_set, ev_ret, ev_retN, ev_cif, ev_brk, ev_ct, ev_asg, ev_put, ev_aug, ev_for, ev_comp, ev_newL, ev_iseq, ev_irange, ev_ienum, ev_yes, Out.bind_ok, Out.bindN_ok, bindS_ok, Tg.set, Tg.sets, List.getElem?_cons_zero, List.getElem?_cons_succ, List.set_cons_zero, List.set_cons_succ, wipeE, List.length_cons, List.length_nil, Nat.reduceAdd, Nat.reduceLeDiff, Nat.reduceEqDiff, ↓reduceIte, Bool.false_eq_true, decide_eq_true_eq, add_int, sub_int, lt_int, gt_int, le_int, ge_int, neg_int, and_int, or_int, xor_int, max2_int, min2_int, mod_pos, fdiv_sm, mul_sm, mul_smr, Int.reduceLT, Int.reduceNeg, int_bl, int_int, sli_tup, idx_t0, eqs hw sk_not, n2, decide_false])).trans rfl)).trans ?_
      refine (seq_of ((if_f (S' := S ++ [Ob.lst [.str "both", .str "either"]]) (by simp only [ev_var, ev_con, ev_bin, ev_un, ev_anil, ev_acons, ev_call, ev_tup, ev_lst, ev_not, ev_and, ev_or, ev_if, ev_cbl, ev_btrue, ev_cand, ev_cor, ev_cnot, ev_sli, ev_onone, ev_osome, ev_chain, ev_meth, ev_get2, ev_newK, ev_newT, ev_own, ev_nil, ev_seq, ev_expr, ev_set, ev_ret, ev_retN, ev_cif, ev_brk, ev_ct, ev_asg, ev_put, ev_aug, ev_for, ev_comp, ev_newL, ev_iseq, ev_irange, ev_ienum, ev_yes, Out.bind_ok, Out.bindN_ok, bindS_ok, Tg.set, Tg.sets, List.getElem?_cons_zero, List.getElem?_cons_succ, List.set_cons_zero, List.set_cons_succ, wipeE, List.length_cons, List.length_nil, Nat.reduceAdd, Nat.reduceLeDiff, Nat.reduceEqDiff, ↓reduceIte, Bool.false_eq_true, decide_eq_true_eq, add_int, sub_int, lt_int, gt_int, le_int, ge_int, neg_int, and_int, or_int, xor_int, max2_int, min2_int, mod_pos, fdiv_sm, mul_sm, mul_smr, Int.reduceLT, Int.reduceNeg, int_bl, int_int, sli_tup, idx_t0, sline 2 (by omega), inD, mem_be hw, nm, decide_false])).trans rfl)).trans ?_
      exact ret_of (by simp only [ev_var, ev_con, ev_bin, ev_un, ev_anil, ev_acons, ev_call, ev_tup, ev_lst, ev_not, ev_and, ev_or, ev_if, ev_cbl, ev_btrue, ev_cand, ev_cor, ev_cnot, ev_sli, ev_onone, ev_osome, ev_chain, ev_meth, ev_get2, ev_newK, ev_newT, ev_own, ev_nil, ev_seq, ev_expr, ev_set, ev_ret, ev_retN, ev_cif, ev_brk, ev_ct, ev_asg, ev_put, ev_aug, ev_for, ev_comp, ev_newL, ev_iseq, ev_irange, ev_ienum, ev_yes, Out.bind_ok, Out.bindN_ok, bindS_ok, Tg.set, Tg.sets, List.getElem?_cons_zero, List.getElem?_cons_succ, List.set_cons_zero, List.set_cons_succ, wipeE, List.length_cons, List.length_nil, Nat.reduceAdd, Nat.reduceLeDiff, Nat.reduceEqDiff, ↓reduceIte, Bool.false_eq_true, decide_eq_true_eq, add_int, sub_int, lt_int, gt_int, le_int, ge_int, neg_int, and_int, or_int, xor_int, max2_int, min2_int, mod_pos, fdiv_sm, mul_sm, mul_smr, Int.reduceLT, Int.reduceNeg, int_bl, int_int, sli_tup])
    · have hpi : ps[i]? = some ps[i] := List.getElem?_eq_getElem (by omega)
      have ix : idxD (.ref lp) (.int (i : Int)) S = .ok (.int (ps[i] : Int)) S := idx_ref hp (atI_nat (by rw [List.getElem?_map, hpi]; rfl))
      refine ⟨.tup [.str "from", .int (ps[i] : Int)], S, ?_, .refl _, .inr ⟨ps[i], hpn _ (List.mem_of_getElem? hpi), rfl⟩⟩
      rw [F_l_dealt_look]
      refine runF_rt (ρ := [some (.tup [.str "from", .int (i : Int)]), some (.ref lp), none]) rfl rfl ?_
      unfold c_l_dealt_look
      exact seq_rt ((if_t (S' := S) (by simp only [ev_var, ev_con, ev_bin, ev_un, ev_anil, ev_acons, ev_call, ev_tup, ev_lst, ev_not, ev_and, ev_or, ev_if, ev_cbl, ev_btrue, ev_cand, ev_cor, ev_cnot, ev_sli, ev_onone, ev_osome, ev_chain, ev_meth, ev_get2, ev_newK, ev_newT, ev_own, ev_nil, ev_seq, ev_expr, ev_set, ev_ret, ev_retN, ev_cif, ev_brk, ev_ct, ev_asg, ev_put, ev_aug, ev_for, ev_comp, ev_newL, ev_iseq, ev_irange, ev_ienum, ev_yes, Out.bind_ok, Out.bindN_ok, bindS_ok, Tg.set, Tg.sets, List.getElem?_cons_zero, List.getElem?_cons_succ, List.set_cons_zero, List.set_cons_succ, wipeE, List.length_cons, List.length_nil, Nat.reduceAdd, Nat.reduceLeDiff, Nat.reduceEqDiff, ↓reduceIte, Bool.false_eq_true, decide_eq_true_eq, add_int, sub_int, lt_int, gt_int, le_int, ge_int, neg_int, and_int, or_int, xor_int, max2_int, min2_int, mod_pos, fdiv_sm, mul_sm, mul_smr, Int.reduceLT, Int.reduceNeg, int_bl, int_int, sli_tup, idx_t0, eqs sk_from sk_from, decide_true])).trans (ret_of (by simp only [ev_var, ev_con, ev_bin, ev_un, ev_anil, ev_acons, ev_call, ev_tup, ev_lst, ev_not, ev_and, ev_or, ev_if, ev_cbl, ev_btrue, ev_cand, ev_cor, ev_cnot, ev_sli, ev_onone, ev_osome, ev_chain, ev_meth, ev_get2, ev_newK, ev_newT, ev_own, ev_nil, ev_seq, ev_expr, ev_set, ev_ret, ev_retN, ev_cif, ev_brk, ev_ct, ev_asg, ev_put, ev_aug, ev_for, ev_comp, ev_newL, ev_iseq, ev_irange, ev_ienum, ev_yes, Out.bind_ok, Out.bindN_ok, bindS_ok, Tg.set, Tg.sets, List.getElem?_cons_zero, List.getElem?_cons_succ, List.set_cons_zero, List.set_cons_succ, wipeE, List.length_cons, List.length_nil, Nat.reduceAdd, Nat.reduceLeDiff, Nat.reduceEqDiff, ↓reduceIte, Bool.false_eq_true, decide_eq_true_eq, add_int, sub_int, lt_int, gt_int, le_int, ge_int, neg_int, and_int, or_int, xor_int, max2_int, min2_int, mod_pos, fdiv_sm, mul_sm, mul_smr, Int.reduceLT, Int.reduceNeg, int_bl, int_int, sli_tup, idx_t1, ix, sline 2 (by omega)])))
  | succ h ih =>
    intro d hd f S hf hp
    obtain ⟨k, rfl⟩ : ∃ k, f = k + 1 := ⟨f - 1, by omega⟩
    rcases hd with hd | ⟨e, rfl, he⟩ | ⟨w, e, g, hw, rfl, he, hg⟩
    · obtain ⟨told, S', a, b, c⟩ := ih d hd (k + 1) S (by omega) hp
      exact ⟨told, S', a, b, .inl c⟩
    · obtain ⟨told, S', a, b, c⟩ := ih e he k S (by omega) hp
      refine ⟨.tup [.str "not", told], S', ?_, b, .inr (.inl ⟨_, rfl, c⟩)⟩
      rw [F_l_dealt_look]
      refine runF_rt (ρ := [some (.tup [.str "not", e]), some (.ref lp), none]) rfl rfl ?_
      unfold c_l_dealt_look
      refine (seq_of ((if_f (S' := S) (by simp only [ev_var, ev_con, ev_bin, ev_un, ev_anil, ev_acons, ev_call, ev_tup, ev_lst, ev_not, ev_and, ev_or, ev_if, ev_cbl, ev_btrue, ev_cand, ev_cor, ev_cnot, ev_sli, ev_onone, ev_osome, ev_chain, ev_meth, ev_get2, ev_newK, ev_newT, ev_own, ev_nil, ev_seq, ev_expr, ev_set, ev_ret, ev_retN, ev_cif, ev_brk, ev_ct, ev_asg, ev_put, ev_aug, ev_for, ev_comp, ev_newL, ev_iseq, ev_irange, ev_ienum, ev_yes, Out.bind_ok, Out.bindN_ok, bindS_ok, Tg.set, Tg.sets, List.getElem?_cons_zero, List.getElem?_cons_succ, List.set_cons_zero, List.set_cons_succ, wipeE, List.length_cons, List.length_nil, Nat.reduceAdd, Nat.reduceLeDiff, Nat.reduceEqDiff, ↓reduceIte, Bool.false_eq_true, decide_eq_true_eq, add_int, sub_int, lt_int, gt_int, le_int, ge_int, neg_int, and_int, or_int, xor_int, max2_int, min2_int, mod_pos, fdiv_sm, mul_sm, mul_smr, Int.reduceLT, Int.reduceNeg, int_bl, int_int, sli_tup, idx_t0, eqs sk_not sk_from, show decide (("not" : Str) = "from") = false by decide])).trans rfl)).trans ?_
      exact seq_rt ((if_t (S' := S) (by simp only [ev_var, ev_con, ev_bin, ev_un, ev_anil, ev_acons, ev_call, ev_tup, ev_lst, ev_not, ev_and, ev_or, ev_if, ev_cbl, ev_btrue, ev_cand, ev_cor, ev_cnot, ev_sli, ev_onone, ev_osome, ev_chain, ev_meth, ev_get2, ev_newK, ev_newT, ev_own, ev_nil, ev_seq, ev_expr, ev_set, ev_ret, ev_retN, ev_cif, ev_brk, ev_ct, ev_asg, ev_put, ev_aug, ev_for, ev_comp, ev_newL, ev_iseq, ev_irange, ev_ienum, ev_yes, Out.bind_ok, Out.bindN_ok, bindS_ok, Tg.set, Tg.sets, List.getElem?_cons_zero, List.getElem?_cons_succ, List.set_cons_zero, List.set_cons_succ, wipeE, List.length_cons, List.length_nil, Nat.reduceAdd, Nat.reduceLeDiff, Nat.reduceEqDiff, ↓reduceIte, Bool.false_eq_true, decide_eq_true_eq, add_int, sub_int, lt_int, gt_int, le_int, ge_int, neg_int, and_int, or_int, xor_int, max2_int, min2_int, mod_pos, fdiv_sm, mul_sm, mul_smr, Int.reduceLT, Int.reduceNeg, int_bl, int_int, sli_tup, idx_t0, eqs sk_not sk_not, decide_true])).trans (ret_of (by simp only [ev_var, ev_con, ev_bin, ev_un, ev_anil, ev_acons, ev_call, ev_tup, ev_lst, ev_not, ev_and, ev_or, ev_if, ev_cbl, ev_btrue, ev_cand, ev_cor, ev_cnot, ev_sli, ev_onone, ev_osome, ev_chain, ev_meth, ev_get2, ev_newK, ev_newT, ev_own, ev_nil, ev_seq, ev_expr, ev_set, ev_ret, ev_retN, ev_cif, ev_brk, ev_ct, ev_asg, ev_put, ev_aug, ev_for, ev_comp, ev_newL, ev_iseq, ev_irange, ev_ienum, ev_yes, Out.bind_ok, Out.bindN_ok, bindS_ok, Tg.set, Tg.sets, List.getElem?_cons_zero, List.getElem?_cons_succ, List.set_cons_zero, List.set_cons_succ, wipeE, List.length_cons, List.length_nil, Nat.reduceAdd, Nat.reduceLeDiff, Nat.reduceEqDiff, ↓reduceIte, Bool.false_eq_true, decide_eq_true_eq, add_int, sub_int, lt_int, gt_int, le_int, ge_int, neg_int, and_int, or_int, xor_int, max2_int, min2_int, mod_pos, fdiv_sm, mul_sm, mul_smr, Int.reduceLT, Int.reduceNeg, int_bl, int_int, sli_tup, idx_t1, a, sline 2 (by omega)])))
    · have g0 := gr_app S [Ob.lst [.str "both", .str "either"]]
      obtain ⟨t1, S1, a1, b1, k1⟩ := ih e he k (S ++ [Ob.lst [.str "both", .str "either"]]) (by omega) (g0.at hp)
      obtain ⟨t2, S2, a2, b2, k2⟩ := ih g hg k S1 (by omega) (b1.at (g0.at hp))
      have hw2 : Sk w ∧ w ≠ "from" ∧ w ≠ "not" := by
        simp only [List.mem_cons, List.not_mem_nil, or_false] at hw
        rcases hw with rfl | rfl <;> exact ⟨by decide +kernel, by decide, by decide⟩
      have be := mem_be (S := S) hw2.1
      refine ⟨.tup [.str w, t1, t2], S2, ?_, (g0.trans b1).trans b2, .inr (.inr ⟨w, _, _, hw, rfl, k1, k2⟩)⟩
      rw [F_l_dealt_look]
      refine runF_rt (ρ := [some (.tup [.str w, e, g]), some (.ref lp), none]) rfl rfl ?_
      unfold c_l_dealt_look
      refine (seq_of ((if_f (S' := S) (by simp only [ev_var, ev_con, ev_bin, ev_un, ev_anil, ev_acons, ev_call, ev_tup, ev_lst, ev_not, ev_and, ev_or, ev_if, ev_cbl, ev_btrue, ev_cand, ev_cor, ev_cnot, ev_sli, ev_onone, ev_osome, ev_chain, ev_meth, ev_get2, ev_newK, ev_newT, ev_own, ev_nil, ev_seq, ev_expr, ev_set, ev_ret, ev_retN, ev_cif, ev_brk, ev_ct, ev_asg, ev_put, ev_aug, ev_for, ev_comp, ev_newL, ev_iseq, ev_irange, ev_ienum, ev_yes, Out.bind_ok, Out.bindN_ok, bindS_ok, Tg.set, Tg.sets, List.getElem?_cons_zero, List.getElem?_cons_succ, List.set_cons_zero, List.set_cons_succ, wipeE, List.length_cons, List.length_nil, Nat.reduceAdd, Nat.reduceLeDiff, Nat.reduceEqDiff, ↓reduceIte, Bool.false_eq_true, decide_eq_true_eq, add_int, sub_int, lt_int, gt_int, le_int, ge_int, neg_int, and_int, or_int, xor_int, max2_int, min2_int, mod_pos, fdiv_sm, mul_sm, mul_smr, Int.reduceLT, Int.reduceNeg, int_bl, int_int, sli_tup, idx_t0, eqs hw2.1 sk_from, hw2.2.1, decide_false])).trans rfl)).trans ?_
      refine (seq_of ((if_f (S' := S) (by simp only [ev_var, ev_con, ev_bin, ev_un, ev_anil, ev_acons, ev_call, ev_tup, ev_lst, ev_not, ev_and, ev_or, ev_if, ev_cbl, ev_btrue, ev_cand, ev_cor, ev_cnot, ev_sli, ev_onone, ev_osome, ev_chain, ev_meth, ev_get2, ev_newK, ev_newT, ev_own, ev_nil, ev_seq, ev_expr, ev_set, ev_ret, ev_retN, ev_cif, ev_brk, ev_ct, ev_asg, ev_put, ev_aug, ev_for, ev_comp, ev_newL, ev_iseq, ev_irange, ev_ienum, ev_yes, Out.bind_ok, Out.bindN_ok, bindS_ok, Tg.set, Tg.sets, List.getElem?_cons_zero, List.getElem?_cons_succ, List.set_cons_zero, List.set_cons_succ, wipeE, List.length_cons, List.length_nil, Nat.reduceAdd, Nat.reduceLeDiff, Nat.reduceEqDiff, ↓reduceIte, Bool.false_eq_true, decide_eq_true_eq, add_int, sub_int, lt_int, gt_int, le_int, ge_int, neg_int, and_int, or_int, xor_int, max2_int, min2_int, mod_pos, fdiv_sm, mul_sm, mul_smr, Int.reduceLT, Int.reduceNeg, int_bl, int_int, sli_tup, idx_t0, eqs hw2.1 sk_not, hw2.2.2, decide_false])).trans rfl)).trans ?_
      refine seq_rt ((if_t (S' := S ++ [Ob.lst [.str "both", .str "either"]]) (by simp only [ev_var, ev_con, ev_bin, ev_un, ev_anil, ev_acons, ev_call, ev_tup, ev_lst, ev_not, ev_and, ev_or, ev_if, ev_cbl, ev_btrue, ev_cand, ev_cor, ev_cnot, ev_sli, ev_onone, ev_osome, ev_chain, ev_meth, ev_get2, ev_newK, ev_newT, ev_own, ev_nil, ev_seq, ev_expr, ev_set, ev_ret, ev_retN, ev_cif, ev_brk, ev_ct, ev_asg, ev_put, ev_aug, ev_for, ev_comp, ev_newL, ev_iseq, ev_irange, ev_ienum, ev_yes, Out.bind_ok, Out.bindN_ok, bindS_ok, Tg.set, Tg.sets, List.getElem?_cons_zero, List.getElem?_cons_succ, List.set_cons_zero, List.set_cons_succ, wipeE, List.length_cons, List.length_nil, Nat.reduceAdd, Nat.reduceLeDiff, Nat.reduceEqDiff, ↓reduceIte, Bool.false_eq_true, decide_eq_true_eq, add_int, sub_int, lt_int, gt_int, le_int, ge_int, neg_int, and_int, or_int, xor_int, max2_int, min2_int, mod_pos, fdiv_sm, mul_sm, mul_smr, Int.reduceLT, Int.reduceNeg, int_bl, int_int, sli_tup, idx_t0, sline 2 (by omega), inD, be, hw, decide_true])).trans ?_)
      refine (seq_of (set_of (d := t1) (S' := S1) (by simp only [ev_var, ev_con, ev_bin, ev_un, ev_anil, ev_acons, ev_call, ev_tup, ev_lst, ev_not, ev_and, ev_or, ev_if, ev_cbl, ev_btrue, ev_cand, ev_cor, ev_cnot, ev_sli, ev_onone, ev_osome, ev_chain, ev_meth, ev_get2, ev_newK, ev_newT, ev_own, ev_nil, ev_seq, ev_expr, ev_set, ev_ret, ev_retN, ev_cif, ev_brk, ev_ct, ev_asg, ev_put, ev_aug, ev_for, ev_comp, ev_newL, ev_iseq, ev_irange, ev_ienum, ev_yes, Out.bind_ok, Out.bindN_ok, bindS_ok, Tg.set, Tg.sets, List.getElem?_cons_zero, List.getElem?_cons_succ, List.set_cons_zero, List.set_cons_succ, wipeE, List.length_cons, List.length_nil, Nat.reduceAdd, Nat.reduceLeDiff, Nat.reduceEqDiff, ↓reduceIte, Bool.false_eq_true, decide_eq_true_eq, add_int, sub_int, lt_int, gt_int, le_int, ge_int, neg_int, and_int, or_int, xor_int, max2_int, min2_int, mod_pos, fdiv_sm, mul_sm, mul_smr, Int.reduceLT, Int.reduceNeg, int_bl, int_int, sli_tup, idx_t1, a1]))).trans ?_
      exact ret_of (by simp only [ev_var, ev_con, ev_bin, ev_un, ev_anil, ev_acons, ev_call, ev_tup, ev_lst, ev_not, ev_and, ev_or, ev_if, ev_cbl, ev_btrue, ev_cand, ev_cor, ev_cnot, ev_sli, ev_onone, ev_osome, ev_chain, ev_meth, ev_get2, ev_newK, ev_newT, ev_own, ev_nil, ev_seq, ev_expr, ev_set, ev_ret, ev_retN, ev_cif, ev_brk, ev_ct, ev_asg, ev_put, ev_aug, ev_for, ev_comp, ev_newL, ev_iseq, ev_irange, ev_ienum, ev_yes, Out.bind_ok, Out.bindN_ok, bindS_ok, Tg.set, Tg.sets, List.getElem?_cons_zero, List.getElem?_cons_succ, List.set_cons_zero, List.set_cons_succ, wipeE, List.length_cons, List.length_nil, Nat.reduceAdd, Nat.reduceLeDiff, Nat.reduceEqDiff, ↓reduceIte, Bool.false_eq_true, decide_eq_true_eq, add_int, sub_int, lt_int, gt_int, le_int, ge_int, neg_int, and_int, or_int, xor_int, max2_int, min2_int, mod_pos, fdiv_sm, mul_sm, mul_smr, Int.reduceLT, Int.reduceNeg, int_bl, int_int, sli_tup, idx_t0, idx_t2, a2, sline 3 (by omega)])
/-- every place is dealt -/
theorem deal_all {n : Nat} {a by' : Int} (hby : by' = 1 ∨ by' = (n : Int) - 1) (p : Nat) (hp : p < n) : ∃ j : Nat, j < n ∧ (a + by' * (j : Int)) % (n : Int) = (p : Int) := by
  have hn : (0 : Int) < (n : Int) := by omega
  rcases hby with rfl | rfl
  · have h0 := Int.emod_nonneg ((p : Int) - a) (b := (n : Int)) (by omega)
    have h1 := Int.emod_lt_of_pos ((p : Int) - a) hn
    have e := Int.emod_def ((p : Int) - a) (n : Int)
    refine ⟨(((p : Int) - a) % (n : Int)).toNat, by omega, ?_⟩
    rw [Int.toNat_of_nonneg h0, Int.one_mul, e, show a + ((p : Int) - a - (n : Int) * (((p : Int) - a) / (n : Int))) = (p : Int) + (n : Int) * (-(((p : Int) - a) / (n : Int))) by rw [Int.mul_neg]; omega, Int.add_mul_emod_self_left]
    exact Int.emod_eq_of_lt (by omega) (by omega)
  · have h0 := Int.emod_nonneg (a - (p : Int)) (b := (n : Int)) (by omega)
    have h1 := Int.emod_lt_of_pos (a - (p : Int)) hn
    have e := Int.emod_def (a - (p : Int)) (n : Int)
    refine ⟨((a - (p : Int)) % (n : Int)).toNat, by omega, ?_⟩
    rw [Int.toNat_of_nonneg h0]
    generalize hj : (a - (p : Int)) % (n : Int) = j at *
    rw [show a + ((n : Int) - 1) * j = (p : Int) + (n : Int) * ((a - (p : Int)) / (n : Int) + j) by rw [Int.sub_mul, Int.one_mul, Int.mul_add]; omega, Int.add_mul_emod_self_left]
    exact Int.emod_eq_of_lt (by omega) (by omega)
theorem dealt_run {f lt : Nat} {c : Int} {T : List Rw} {S : Sto} (hf : 13 ≤ f) (hc : 0 ≤ c) (hT : S[lt]? = some (.lst (T.map Rw.d))) (hTl : T.length ≤ 1000) (hok : ∀ r ∈ T, RwOk T.length r) :
    ∃ (lr lp : Nat) (D : List Rw) (ps : List Nat) (S' : Sto), F (f + 1) .l_dealt [.ref lt, .int c] S = .ok (.tup [.ref lr, .ref lp]) S' ∧ Gr S S' ∧ S'[lr]? = some (.lst (D.map Rw.d)) ∧ S.length ≤ lr ∧ D.length = T.length ∧ (∀ r ∈ D, RwOk D.length r) ∧ S'[lp]? = some (.lst (ps.map fun (p : Nat) => .int (p : Int))) := by
  rw [F_l_dealt]
  have ll := len_ref hT
  rw [List.length_map] at ll
  generalize hn : T.length = n at *
  have c0 := Int.emod_nonneg c (b := 2) (by omega)
  have c1 := Int.emod_lt_of_pos c (b := 2) (by omega)
  obtain ⟨by', hby, hatI⟩ : ∃ by' : Int, (n = 0 ∨ by' = 1 ∨ by' = (n : Int) - 1) ∧ L2.atI ([.int 1, .int (max ((n : Int) - 1) 1)] : List Dv) (c % 2) = some (.int by') := by
    rcases (show c % 2 = 0 ∨ c % 2 = 1 by omega) with e | e
    · exact ⟨1, .inr (.inl rfl), by rw [e]; rfl⟩
    · refine ⟨max ((n : Int) - 1) 1, by omega, by rw [e]; rfl⟩
  have hbb : -10000000 < by' ∧ by' < 10000000 := by
    rcases (show c % 2 = 0 ∨ c % 2 = 1 by omega) with e | e
    · rw [e] at hatI; have : by' = 1 := by injection hatI with h; injection h with h; exact h.symm
      omega
    · rw [e] at hatI; have : by' = max ((n : Int) - 1) 1 := by injection hatI with h; injection h with h; exact h.symm
      omega
  have g1 := gr_app S [Ob.lst [.int 1, .int (max ((n : Int) - 1) 1)]]
  have ib := idx_ref (at_new S (.lst [.int 1, .int (max ((n : Int) - 1) 1)])) hatI
  generalize hS1 : S ++ [Ob.lst [.int 1, .int (max ((n : Int) - 1) 1)]] = S1 at g1 ib
  obtain ⟨acc, S1', ec, hS, ps, rfl, hpl, hpn⟩ := comp_gen (ck := Ck.tt.ok) (t := .nm 6) (c := cYes) (y := y_l_dealt_1 (F f)) (acc := []) (S := S1) (fun i acc S' => S' = S1 ∧ ∃ ps : List Nat, acc = (ps.map fun (p : Nat) => Dv.int (p : Int)) ∧ ps.length = i ∧ ∀ (j p : Nat), ps[j]? = some p → p < n ∧ (p : Int) = (c / 2 + by' * (j : Int)) % (n : Int)) (rangeL 0 (n : Int)) [some (.ref lt), some (.int c), some (.int (n : Int)), some (.int by'), none, none, none, none, none]
    (fun i d acc S' hd ⟨hS, ps, ha, hx, hp⟩ => by
      subst hS
      obtain ⟨rfl, hlt⟩ := rangeL_get hd
      have n0 : (0 : Int) < (n : Int) := by omega
      have e0 := Int.emod_nonneg (c / 2 + by' * (0 + (i : Int))) (b := (n : Int)) (by omega)
      have e1 := Int.emod_lt_of_pos (c / 2 + by' * (0 + (i : Int))) n0
      obtain ⟨q, hq⟩ := Int.eq_ofNat_of_zero_le e0
      have hqn : q < n := by omega
      have fd : fdivD (.int c) (.int 2) S' = .ok (.int (c / 2)) S' := fdiv_sm (by omega) (by omega)
      have ml : mulD (.int by') (.int (0 + (i : Int))) S' = .ok (.int (by' * (0 + (i : Int)))) S' := mul_sm hbb.1 hbb.2
      refine ⟨trivial, _, rfl, true, S', rfl, fun _ => ⟨.int (q : Int), S', by simp only [y_l_dealt_1, ev_var, ev_con, ev_bin, ev_un, ev_anil, ev_acons, ev_call, ev_tup, ev_lst, ev_not, ev_and, ev_or, ev_if, ev_cbl, ev_btrue, ev_cand, ev_cor, ev_cnot, ev_sli, ev_onone, ev_osome, ev_chain, ev_meth, ev_get2, ev_newK, ev_newT, ev_own, ev_nil, ev_seq, ev_expr, ev_set, ev_ret, ev_retN, ev_cif, ev_brk, ev_ct, ev_asg, ev_put, ev_aug, ev_for, ev_comp, ev_newL, ev_iseq, ev_irange, ev_ienum, ev_yes, Out.bind_ok, Out.bindN_ok, bindS_ok, Tg.set, Tg.sets, List.getElem?_cons_zero, List.getElem?_cons_succ, List.set_cons_zero, List.set_cons_succ, wipeE, List.length_cons, List.length_nil, Nat.reduceAdd, Nat.reduceLeDiff, Nat.reduceEqDiff, ↓reduceIte, Bool.false_eq_true, decide_eq_true_eq, add_int, sub_int, lt_int, gt_int, le_int, ge_int, neg_int, and_int, or_int, xor_int, max2_int, min2_int, mod_pos, fdiv_sm, mul_sm, mul_smr, Int.reduceLT, Int.reduceNeg, int_bl, int_int, sli_tup, fd, ml, mod_pos n0, hq], ?_, rfl, ps ++ [q], by rw [ha, List.map_append]; rfl, by simp [hx], fun j p hj => ?_⟩, fun z => nomatch z⟩
      · rw [ha, List.length_map]; show _ < 2 ^ 24; omega
      · rcases Nat.lt_or_ge j ps.length with z | z
        · rw [List.getElem?_append_left z] at hj; exact hp j p hj
        · rw [List.getElem?_append_right z] at hj
          have hj0 : j - ps.length = 0 := by
            have := (List.getElem?_eq_some_iff.mp hj).1; simp at this; omega
          rw [hj0] at hj; simp at hj; subst hj
          have hji : j = i := by omega
          subst hji
          rw [Int.zero_add] at hq
          exact ⟨hqn, hq.symm⟩) (fun _ _ _ => trivial) ⟨rfl, [], rfl, rfl, by simp⟩
  subst hS
  rw [rangeL_len, Int.sub_zero, Int.toNat_natCast] at hpl
  have hpm : ∀ p ∈ ps, p < n := fun p hp => by
    obtain ⟨j, hj⟩ := List.mem_iff_getElem?.mp hp
    exact (hpn j p hj).1
  have g2 := gr_app S1' [Ob.lst (ps.map fun (p : Nat) => Dv.int (p : Int))]
  have a2 := at_new S1' (.lst (ps.map fun (p : Nat) => Dv.int (p : Int)))
  generalize hS2 : S1' ++ [Ob.lst (ps.map fun (p : Nat) => Dv.int (p : Int))] = S2 at g2 a2
  have g3 := gr_app S2 [Ob.lst [.non]]
  have a3 := at_new S2 (.lst [.non])
  generalize hS3 : S2 ++ [Ob.lst [.non]] = S3 at g3 a3
  have er := rep_ref (n := n) a3 hTl
  rw [ev_newL] at er
  have g4 := gr_app S3 [Ob.lst (List.replicate n .non)]
  have a4 := at_new S3 (.lst (List.replicate n .non))
  generalize hS4 : S3 ++ [Ob.lst (List.replicate n .non)] = S4 at g4 a4 er
  have g04 : Gr S S4 := ((g1.trans g2).trans g3).trans g4
  have hT4 := g04.at hT
  have hp4 := g4.at (g3.at a2)
  have ne : S1'.length < S3.length := Nat.lt_of_lt_of_le (lt_of_at a2) g3.le
  have nt : lt < S3.length := by have := lt_of_at hT; have := ((g1.trans g2).trans g3).le; omega
  obtain ⟨ρ', S', e, Q, v6, v7, v8, rfl, f', hQ, hQl, hQj⟩ := loop_all (ck := (Ck.ls lt (T.map Rw.d)).ok) (t := .tp [.nm 6, .nm 7]) (b := b_l_dealt_2 (F f)) (S := S4) (ρ := [some (.ref lt), some (.int c), some (.int (n : Int)), some (.int by'), some (.ref S1'.length), some (.ref S3.length), none, none, none])
    (fun i ρ S' => ∃ (Q : List (Option Rw)) (v6 v7 v8 : Option Dv), ρ = [some (.ref lt), some (.int c), some (.int (n : Int)), some (.int by'), some (.ref S1'.length), some (.ref S3.length), v6, v7, v8] ∧ Fr (· = S3.length) S4 S' ∧ S'[S3.length]? = some (.lst (Q.map fun o => match o with | none => .non | some r => Rw.d r)) ∧ Q.length = n ∧ ((∀ r, some r ∈ Q → RwOk n r) ∧ ∀ (j p : Nat), j < i → ps[j]? = some p → ∃ r, Q[p]? = some (some r)))
    (enumL (T.map Rw.d)) ⟨List.replicate n none, none, none, none, rfl, .refl _, by rw [List.map_replicate]; exact a4, List.length_replicate, fun r hr => (by have := List.eq_of_mem_replicate hr; cases this), fun j p hj => by omega⟩
    (fun i v ρ S' hv ⟨Q, v6, v7, v8, hρ, f', hQ, hQl, hQr, hQj⟩ => by
      subst hρ
      rw [enumL_get, List.getElem?_map, Option.map_map, Option.map_eq_some_iff] at hv
      obtain ⟨r, hr0, rfl⟩ := hv
      have hi := (List.getElem?_eq_some_iff.mp hr0).1
      have kr := hok r (List.mem_of_getElem? hr0)
      have hTS := f'.get lt _ hT4 (by show lt ≠ S3.length; omega)
      have hpS := f'.get S1'.length _ hp4 (by show S1'.length ≠ S3.length; omega)
      have hpi : ps[i]? = some ps[i] := List.getElem?_eq_getElem (by omega)
      have ip : ∀ {S : Sto}, S[S1'.length]? = some (.lst (ps.map fun (p : Nat) => Dv.int (p : Int))) → ∀ (j p : Nat), ps[j]? = some p → idxD (.ref S1'.length) (.int (j : Int)) S = .ok (.int (p : Int)) S := fun h j p hj => idx_ref h (atI_nat (by rw [List.getElem?_map, hj]; rfl))
      obtain ⟨told, S5, e5, g5, k5⟩ := dealt_look_run hpl hpm 12 r.look kr.look f S' (by omega) hpS
      have hpS5 := g5.at hpS
      have hQ5 := g5.at hQ
      obtain ⟨ro, hro, hrl⟩ : ∃ ro : Option Nat, (cIf (cBl (eBin isNotD (eVar 8) (eCon .non))) (cSet 8 (eBin idxD (eVar 4) (eVar 8))) (cNil)) [some (.ref lt), some (.int c), some (.int (n : Int)), some (.int by'), some (.ref S1'.length), some (.ref S3.length), some (.int ((0 + i : Nat) : Int)), some r.d, some r.r] S' = .fl (.nx [some (.ref lt), some (.int c), some (.int (n : Int)), some (.int by'), some (.ref S1'.length), some (.ref S3.length), some (.int ((0 + i : Nat) : Int)), some r.d, some (Rw.r ⟨r.go, told, ro⟩)]) S' ∧ ∀ j, ro = some j → j < n := by
        cases hrr : r.rest with
        | none =>
          refine ⟨none, ?_, fun j hj => by cases hj⟩
          have : r.r = .non := by unfold Rw.r; rw [hrr]
          rw [this]
          exact (if_f (S' := S') (by simp only [ev_var, ev_con, ev_bin, ev_un, ev_anil, ev_acons, ev_call, ev_tup, ev_lst, ev_not, ev_and, ev_or, ev_if, ev_cbl, ev_btrue, ev_cand, ev_cor, ev_cnot, ev_sli, ev_onone, ev_osome, ev_chain, ev_meth, ev_get2, ev_newK, ev_newT, ev_own, ev_nil, ev_seq, ev_expr, ev_set, ev_ret, ev_retN, ev_cif, ev_brk, ev_ct, ev_asg, ev_put, ev_aug, ev_for, ev_comp, ev_newL, ev_iseq, ev_irange, ev_ienum, ev_yes, Out.bind_ok, Out.bindN_ok, bindS_ok, Tg.set, Tg.sets, List.getElem?_cons_zero, List.getElem?_cons_succ, List.set_cons_zero, List.set_cons_succ, wipeE, List.length_cons, List.length_nil, Nat.reduceAdd, Nat.reduceLeDiff, Nat.reduceEqDiff, ↓reduceIte, Bool.false_eq_true, decide_eq_true_eq, add_int, sub_int, lt_int, gt_int, le_int, ge_int, neg_int, and_int, or_int, xor_int, max2_int, min2_int, mod_pos, fdiv_sm, mul_sm, mul_smr, Int.reduceLT, Int.reduceNeg, int_bl, int_int, sli_tup, isNotD, isN, Bool.not_true])).trans rfl
        | some j =>
          have hj := kr.rest j hrr
          have hpj : ps[j]? = some ps[j] := List.getElem?_eq_getElem (by omega)
          refine ⟨some ps[j], ?_, fun j' hj' => by injection hj' with hj'; subst hj'; exact hpm _ (List.mem_of_getElem? hpj)⟩
          have : r.r = .int (j : Int) := by unfold Rw.r; rw [hrr]
          rw [this]
          exact (if_t (S' := S') (by simp only [ev_var, ev_con, ev_bin, ev_un, ev_anil, ev_acons, ev_call, ev_tup, ev_lst, ev_not, ev_and, ev_or, ev_if, ev_cbl, ev_btrue, ev_cand, ev_cor, ev_cnot, ev_sli, ev_onone, ev_osome, ev_chain, ev_meth, ev_get2, ev_newK, ev_newT, ev_own, ev_nil, ev_seq, ev_expr, ev_set, ev_ret, ev_retN, ev_cif, ev_brk, ev_ct, ev_asg, ev_put, ev_aug, ev_for, ev_comp, ev_newL, ev_iseq, ev_irange, ev_ienum, ev_yes, Out.bind_ok, Out.bindN_ok, bindS_ok, Tg.set, Tg.sets, List.getElem?_cons_zero, List.getElem?_cons_succ, List.set_cons_zero, List.set_cons_succ, wipeE, List.length_cons, List.length_nil, Nat.reduceAdd, Nat.reduceLeDiff, Nat.reduceEqDiff, ↓reduceIte, Bool.false_eq_true, decide_eq_true_eq, add_int, sub_int, lt_int, gt_int, le_int, ge_int, neg_int, and_int, or_int, xor_int, max2_int, min2_int, mod_pos, fdiv_sm, mul_sm, mul_smr, Int.reduceLT, Int.reduceNeg, int_bl, int_int, sli_tup, isNotD, isN, Bool.not_false])).trans (set_of (by simp only [ev_var, ev_con, ev_bin, ev_un, ev_anil, ev_acons, ev_call, ev_tup, ev_lst, ev_not, ev_and, ev_or, ev_if, ev_cbl, ev_btrue, ev_cand, ev_cor, ev_cnot, ev_sli, ev_onone, ev_osome, ev_chain, ev_meth, ev_get2, ev_newK, ev_newT, ev_own, ev_nil, ev_seq, ev_expr, ev_set, ev_ret, ev_retN, ev_cif, ev_brk, ev_ct, ev_asg, ev_put, ev_aug, ev_for, ev_comp, ev_newL, ev_iseq, ev_irange, ev_ienum, ev_yes, Out.bind_ok, Out.bindN_ok, bindS_ok, Tg.set, Tg.sets, List.getElem?_cons_zero, List.getElem?_cons_succ, List.set_cons_zero, List.set_cons_succ, wipeE, List.length_cons, List.length_nil, Nat.reduceAdd, Nat.reduceLeDiff, Nat.reduceEqDiff, ↓reduceIte, Bool.false_eq_true, decide_eq_true_eq, add_int, sub_int, lt_int, gt_int, le_int, ge_int, neg_int, and_int, or_int, xor_int, max2_int, min2_int, mod_pos, fdiv_sm, mul_sm, mul_smr, Int.reduceLT, Int.reduceNeg, int_bl, int_int, sli_tup, ip hpS j _ hpj]; rfl))
      have kn : RwOk n ⟨r.go, told, ro⟩ := ⟨kr.go, k5, hrl⟩
      have hpin : ps[i] < n := hpm _ (List.mem_of_getElem? hpi)
      have pt := put_at (j := ps[i]) (y := Rw.d ⟨r.go, told, ro⟩) hQ5 (by rw [List.length_map]; omega)
      have sm : (Q.map fun o => match o with | none => Dv.non | some r => Rw.d r).set ps[i] (Rw.d ⟨r.go, told, ro⟩) = (Q.set ps[i] (some ⟨r.go, told, ro⟩)).map fun o => match o with | none => Dv.non | some r => Rw.d r := by rw [List.map_set]
      rw [sm] at pt
      have f6 := fr_set S5 S3.length (.lst ((Q.set ps[i] (some ⟨r.go, told, ro⟩)).map fun o => match o with | none => Dv.non | some r => Rw.d r))
      have hQ6 := at_set (o := .lst ((Q.set ps[i] (some ⟨r.go, told, ro⟩)).map fun o => match o with | none => Dv.non | some r => Rw.d r)) hQ5
      generalize S5.set S3.length (.lst ((Q.set ps[i] (some ⟨r.go, told, ro⟩)).map fun o => match o with | none => Dv.non | some r => Rw.d r)) = S6 at pt f6 hQ6
      refine ⟨hTS, _, rfl, [some (.ref lt), some (.int c), some (.int (n : Int)), some (.int by'), some (.ref S1'.length), some (.ref S3.length), some (.int ((0 + i : Nat) : Int)), some r.d, some (Rw.r ⟨r.go, told, ro⟩)], S6, .inl ?_, _, _, _, _, rfl, (f'.trans g5.any).trans f6, hQ6, by rw [List.length_set]; exact hQl, fun r' hr' => ?_, fun j p hj hp => ?_⟩
      · unfold b_l_dealt_2
        have i0 : ∀ S, idxD r.d (.int 0) S = .ok (.str r.go) S := fun S => idx_t0
        have i1 : ∀ S, idxD r.d (.int 1) S = .ok r.look S := fun S => idx_t1
        have i2 : ∀ S, idxD r.d (.int 2) S = .ok r.r S := fun S => idx_t2
        refine (seq_of (set_of (d := r.r) (S' := S') (by simp only [ev_var, ev_con, ev_bin, ev_un, ev_anil, ev_acons, ev_call, ev_tup, ev_lst, ev_not, ev_and, ev_or, ev_if, ev_cbl, ev_btrue, ev_cand, ev_cor, ev_cnot, ev_sli, ev_onone, ev_osome, ev_chain, ev_meth, ev_get2, ev_newK, ev_newT, ev_own, ev_nil, ev_seq, ev_expr, ev_set, ev_ret, ev_retN, ev_cif, ev_brk, ev_ct, ev_asg, ev_put, ev_aug, ev_for, ev_comp, ev_newL, ev_iseq, ev_irange, ev_ienum, ev_yes, Out.bind_ok, Out.bindN_ok, bindS_ok, Tg.set, Tg.sets, List.getElem?_cons_zero, List.getElem?_cons_succ, List.set_cons_zero, List.set_cons_succ, wipeE, List.length_cons, List.length_nil, Nat.reduceAdd, Nat.reduceLeDiff, Nat.reduceEqDiff, ↓reduceIte, Bool.false_eq_true, decide_eq_true_eq, add_int, sub_int, lt_int, gt_int, le_int, ge_int, neg_int, and_int, or_int, xor_int, max2_int, min2_int, mod_pos, fdiv_sm, mul_sm, mul_smr, Int.reduceLT, Int.reduceNeg, int_bl, int_int, sli_tup, Function.comp_apply, i2]))).trans ?_
        refine (seq_of hro).trans ?_
        simp only [ev_var, ev_con, ev_bin, ev_un, ev_anil, ev_acons, ev_call, ev_tup, ev_lst, ev_not, ev_and, ev_or, ev_if, ev_cbl, ev_btrue, ev_cand, ev_cor, ev_cnot, ev_sli, ev_onone, ev_osome, ev_chain, ev_meth, ev_get2, ev_newK, ev_newT, ev_own, ev_nil, ev_seq, ev_expr, ev_set, ev_ret, ev_retN, ev_cif, ev_brk, ev_ct, ev_asg, ev_put, ev_aug, ev_for, ev_comp, ev_newL, ev_iseq, ev_irange, ev_ienum, ev_yes, Out.bind_ok, Out.bindN_ok, bindS_ok, Tg.set, Tg.sets, List.getElem?_cons_zero, List.getElem?_cons_succ, List.set_cons_zero, List.set_cons_succ, wipeE, List.length_cons, List.length_nil, Nat.reduceAdd, Nat.reduceLeDiff, Nat.reduceEqDiff, ↓reduceIte, Bool.false_eq_true, decide_eq_true_eq, add_int, sub_int, lt_int, gt_int, le_int, ge_int, neg_int, and_int, or_int, xor_int, max2_int, min2_int, mod_pos, fdiv_sm, mul_sm, mul_smr, Int.reduceLT, Int.reduceNeg, int_bl, int_int, sli_tup, Function.comp_apply, i0, i1, e5, sline 3 (by omega)]
        have hd : Dv.tup [.str r.go, told, Rw.r ⟨r.go, told, ro⟩] = Rw.d ⟨r.go, told, ro⟩ := rfl
        simp only [ip (g5.at hpS) (0 + i) _ (by rw [Nat.zero_add]; exact hpi), bindS_ok, hd, pt]
      · rcases List.mem_or_eq_of_mem_set hr' with h | h
        · exact hQr r' h
        · injection h with h; subst h; exact kn
      · by_cases z : p = ps[i]
        · subst z
          exact ⟨_, List.getElem?_set_self (by omega)⟩
        · rw [List.getElem?_set_ne (fun h => z h.symm)]
          refine hQj j p ?_ hp
          rcases Nat.lt_or_ge j i with h | h
          · exact h
          · have : j = i := by omega
            subst this; rw [hpi] at hp; injection hp with hp; exact absurd hp.symm z)
    (fun ρ S' ⟨Q, v6, v7, v8, hρ, f', _⟩ => f'.get lt _ hT4 (by show lt ≠ S3.length; omega))
  obtain ⟨hQr, hQj⟩ := hQj
  have el : (enumL (T.map Rw.d)).length = n := by rw [enumL_len, List.length_map, hn]
  rw [el] at hQj
  have hall : ∀ p, p < n → ∃ r, Q[p]? = some (some r) := fun p hp => by
    obtain ⟨j, hj, ej⟩ := deal_all (a := c / 2) (by' := by') (n := n) (by rcases hby with h | h; omega; exact h) p hp
    have hpj : ps[j]? = some ps[j] := List.getElem?_eq_getElem (by omega)
    have := (hpn j _ hpj).2
    rw [ej] at this
    have : ps[j] = p := by omega
    rw [this] at hpj
    exact hQj j p hj hpj
  obtain ⟨D, hD⟩ : ∃ D : List Rw, Q = D.map some := by
    refine ⟨Q.filterMap id, ?_⟩
    apply List.ext_getElem?
    intro p
    have : ∀ Q : List (Option Rw), (∀ o ∈ Q, o ≠ none) → Q = (Q.filterMap id).map some := by
      intro Q
      induction Q with
      | nil => intro _; rfl
      | cons o Q ih =>
        intro h
        cases o with
        | none => exact absurd rfl (h none (by simp))
        | some r => rw [List.filterMap_cons]; simp only [id, List.map_cons]; rw [← ih fun o ho => h o (by simp [ho])]
    rw [← this Q fun o ho z => by
      subst z
      obtain ⟨j, hj⟩ := List.mem_iff_getElem?.mp ho
      obtain ⟨r, hr⟩ := hall j (by have := (List.getElem?_eq_some_iff.mp hj).1; omega)
      rw [hr] at hj; injection hj with hj; cases hj]
  subst hD
  rw [List.length_map] at hQl
  refine ⟨S3.length, S1'.length, D, ps, S', ?_, Gr.new ((g1.trans g2).trans g3) ((g4.any).trans f') (fun l z => by have := ((g1.trans g2).trans g3).le; omega), ?_, ((g1.trans g2).trans g3).le, hQl, fun r hr => by rw [hQl]; exact hQr r (List.mem_map_of_mem hr), f'.get _ _ hp4 (by show S1'.length ≠ S3.length; omega)⟩
  · refine runF_rt (ρ := [some (.ref lt), some (.int c), none, none, none, none, none, none, none]) rfl rfl ?_
    unfold c_l_dealt
    refine (seq_of (set_of (d := .int (n : Int)) (S' := S) (by simp only [ev_var, ev_con, ev_bin, ev_un, ev_anil, ev_acons, ev_call, ev_tup, ev_lst, ev_not, ev_and, ev_or, ev_if, ev_cbl, ev_btrue, ev_cand, ev_cor, ev_cnot, ev_sli, ev_onone, ev_osome, ev_chain, ev_meth, ev_get2, ev_newK, ev_newT, ev_own, ev_nil, ev_seq, ev_expr, ev_set, ev_ret, ev_retN, ev_cif, ev_brk, ev_ct, ev_asg, ev_put, ev_aug, ev_for, ev_comp, ev_newL, ev_iseq, ev_irange, ev_ienum, ev_yes, Out.bind_ok, Out.bindN_ok, bindS_ok, Tg.set, Tg.sets, List.getElem?_cons_zero, List.getElem?_cons_succ, List.set_cons_zero, List.set_cons_succ, wipeE, List.length_cons, List.length_nil, Nat.reduceAdd, Nat.reduceLeDiff, Nat.reduceEqDiff, ↓reduceIte, Bool.false_eq_true, decide_eq_true_eq, add_int, sub_int, lt_int, gt_int, le_int, ge_int, neg_int, and_int, or_int, xor_int, max2_int, min2_int, mod_pos, fdiv_sm, mul_sm, mul_smr, Int.reduceLT, Int.reduceNeg, int_bl, int_int, sli_tup, ll]))).trans ?_
    refine (seq_of (set_of (d := .int by') (S' := S1') (by simp only [ev_var, ev_con, ev_bin, ev_un, ev_anil, ev_acons, ev_call, ev_tup, ev_lst, ev_not, ev_and, ev_or, ev_if, ev_cbl, ev_btrue, ev_cand, ev_cor, ev_cnot, ev_sli, ev_onone, ev_osome, ev_chain, ev_meth, ev_get2, ev_newK, ev_newT, ev_own, ev_nil, ev_seq, ev_expr, ev_set, ev_ret, ev_retN, ev_cif, ev_brk, ev_ct, ev_asg, ev_put, ev_aug, ev_for, ev_comp, ev_newL, ev_iseq, ev_irange, ev_ienum, ev_yes, Out.bind_ok, Out.bindN_ok, bindS_ok, Tg.set, Tg.sets, List.getElem?_cons_zero, List.getElem?_cons_succ, List.set_cons_zero, List.set_cons_succ, wipeE, List.length_cons, List.length_nil, Nat.reduceAdd, Nat.reduceLeDiff, Nat.reduceEqDiff, ↓reduceIte, Bool.false_eq_true, decide_eq_true_eq, add_int, sub_int, lt_int, gt_int, le_int, ge_int, neg_int, and_int, or_int, xor_int, max2_int, min2_int, mod_pos, fdiv_sm, mul_sm, mul_smr, Int.reduceLT, Int.reduceNeg, int_bl, int_int, sli_tup, sline 2 (by omega), hS1, ib]))).trans ?_
    refine (seq_of (set_of (d := .ref S1'.length) (S' := S2) (by simp only [ev_var, ev_con, ev_bin, ev_un, ev_anil, ev_acons, ev_call, ev_tup, ev_lst, ev_not, ev_and, ev_or, ev_if, ev_cbl, ev_btrue, ev_cand, ev_cor, ev_cnot, ev_sli, ev_onone, ev_osome, ev_chain, ev_meth, ev_get2, ev_newK, ev_newT, ev_own, ev_nil, ev_seq, ev_expr, ev_set, ev_ret, ev_retN, ev_cif, ev_brk, ev_ct, ev_asg, ev_put, ev_aug, ev_for, ev_comp, ev_newL, ev_iseq, ev_irange, ev_ienum, ev_yes, Out.bind_ok, Out.bindN_ok, bindS_ok, Tg.set, Tg.sets, List.getElem?_cons_zero, List.getElem?_cons_succ, List.set_cons_zero, List.set_cons_succ, wipeE, List.length_cons, List.length_nil, Nat.reduceAdd, Nat.reduceLeDiff, Nat.reduceEqDiff, ↓reduceIte, Bool.false_eq_true, decide_eq_true_eq, add_int, sub_int, lt_int, gt_int, le_int, ge_int, neg_int, and_int, or_int, xor_int, max2_int, min2_int, mod_pos, fdiv_sm, mul_sm, mul_smr, Int.reduceLT, Int.reduceNeg, int_bl, int_int, sli_tup, rng1_of (i := (n : Int)) (by omega) (by omega), ec, hS2]))).trans ?_
    refine (seq_of (set_of (d := .ref S3.length) (S' := S4) (by simp only [ev_var, ev_con, ev_bin, ev_un, ev_anil, ev_acons, ev_call, ev_tup, ev_lst, ev_not, ev_and, ev_or, ev_if, ev_cbl, ev_btrue, ev_cand, ev_cor, ev_cnot, ev_sli, ev_onone, ev_osome, ev_chain, ev_meth, ev_get2, ev_newK, ev_newT, ev_own, ev_nil, ev_seq, ev_expr, ev_set, ev_ret, ev_retN, ev_cif, ev_brk, ev_ct, ev_asg, ev_put, ev_aug, ev_for, ev_comp, ev_newL, ev_iseq, ev_irange, ev_ienum, ev_yes, Out.bind_ok, Out.bindN_ok, bindS_ok, Tg.set, Tg.sets, List.getElem?_cons_zero, List.getElem?_cons_succ, List.set_cons_zero, List.set_cons_succ, wipeE, List.length_cons, List.length_nil, Nat.reduceAdd, Nat.reduceLeDiff, Nat.reduceEqDiff, ↓reduceIte, Bool.false_eq_true, decide_eq_true_eq, add_int, sub_int, lt_int, gt_int, le_int, ge_int, neg_int, and_int, or_int, xor_int, max2_int, min2_int, mod_pos, fdiv_sm, mul_sm, mul_smr, Int.reduceLT, Int.reduceNeg, int_bl, int_int, sli_tup, sline 1 (by omega), hS3, er]))).trans ?_
    have ez : (PL.iEnumA (aCons (eVar 0) (aNil))) [some (.ref lt), some (.int c), some (.int (n : Int)), some (.int by'), some (.ref S1'.length), some (.ref S3.length), none, none, none] S4 = .ok (enumL (T.map Rw.d), .ls lt (T.map Rw.d)) S4 := by
      simp only [PL.iEnumA, ev_var, ev_con, ev_bin, ev_un, ev_anil, ev_acons, ev_call, ev_tup, ev_lst, ev_not, ev_and, ev_or, ev_if, ev_cbl, ev_btrue, ev_cand, ev_cor, ev_cnot, ev_sli, ev_onone, ev_osome, ev_chain, ev_meth, ev_get2, ev_newK, ev_newT, ev_own, ev_nil, ev_seq, ev_expr, ev_set, ev_ret, ev_retN, ev_cif, ev_brk, ev_ct, ev_asg, ev_put, ev_aug, ev_for, ev_comp, ev_newL, ev_iseq, ev_irange, ev_ienum, ev_yes, Out.bind_ok, Out.bindN_ok, bindS_ok, Tg.set, Tg.sets, List.getElem?_cons_zero, List.getElem?_cons_succ, List.set_cons_zero, List.set_cons_succ, wipeE, List.length_cons, List.length_nil, Nat.reduceAdd, Nat.reduceLeDiff, Nat.reduceEqDiff, ↓reduceIte, Bool.false_eq_true, decide_eq_true_eq, add_int, sub_int, lt_int, gt_int, le_int, ge_int, neg_int, and_int, or_int, xor_int, max2_int, min2_int, mod_pos, fdiv_sm, mul_sm, mul_smr, Int.reduceLT, Int.reduceNeg, int_bl, int_int, sli_tup, seq_lst (lst_ref hT4)]; rfl
    exact (seq_of ((for_of ez).trans e)).trans (ret_of (by simp only [ev_var, ev_con, ev_bin, ev_un, ev_anil, ev_acons, ev_call, ev_tup, ev_lst, ev_not, ev_and, ev_or, ev_if, ev_cbl, ev_btrue, ev_cand, ev_cor, ev_cnot, ev_sli, ev_onone, ev_osome, ev_chain, ev_meth, ev_get2, ev_newK, ev_newT, ev_own, ev_nil, ev_seq, ev_expr, ev_set, ev_ret, ev_retN, ev_cif, ev_brk, ev_ct, ev_asg, ev_put, ev_aug, ev_for, ev_comp, ev_newL, ev_iseq, ev_irange, ev_ienum, ev_yes, Out.bind_ok, Out.bindN_ok, bindS_ok, Tg.set, Tg.sets, List.getElem?_cons_zero, List.getElem?_cons_succ, List.set_cons_zero, List.set_cons_succ, wipeE, List.length_cons, List.length_nil, Nat.reduceAdd, Nat.reduceLeDiff, Nat.reduceEqDiff, ↓reduceIte, Bool.false_eq_true, decide_eq_true_eq, add_int, sub_int, lt_int, gt_int, le_int, ge_int, neg_int, and_int, or_int, xor_int, max2_int, min2_int, mod_pos, fdiv_sm, mul_sm, mul_smr, Int.reduceLT, Int.reduceNeg, int_bl, int_int, sli_tup, sline 2 (by omega)]))
  · rw [hQ, List.map_map]; rfl
structure Nice (k : Nat) (d : Dv) : Prop where
  ex : ∃ p : PyData, (∀ f S, k < f → toP f S d = some p) ∧ p.canLay0 = true ∧ p.depth ≤ k ∧ PyData.eqv p p = true
theorem nice_list {k : Nat} : ∀ ds : List Dv, (∀ d ∈ ds, Nice k d) → ∃ ps : List PyData, (∀ f S, k < f → toPs f S ds = some ps) ∧ PyData.canLayAll0 ps = true ∧ PyData.depthAll ps ≤ k ∧ PyData.eqvAll ps ps = true
  | [], _ => ⟨[], fun f S _ => by simp only [toPs], rfl, Nat.zero_le _, rfl⟩
  | d :: ds, h => by
    obtain ⟨p, h1, h2, h3, h4⟩ := (h d (by simp)).ex
    obtain ⟨ps, g1, g2, g3, g4⟩ := nice_list ds fun e he => h e (by simp [he])
    refine ⟨p :: ps, fun f S hf => by simp only [toPs, h1 f S hf, g1 f S hf], ?_, ?_, ?_⟩
    · rw [PyData.canLayAll0, h2, g2]; rfl
    · rw [PyData.depthAll]; omega
    · rw [PyData.eqvAll, h4, g4]; rfl
theorem nice_tup {k : Nat} {ds : List Dv} (h : ∀ d ∈ ds, Nice k d) : Nice (k + 1) (.tup ds) := by
  obtain ⟨ps, g1, g2, g3, g4⟩ := nice_list ds h
  refine ⟨.tuple ps, fun f S hf => ?_, ?_, ?_, ?_⟩
  · obtain ⟨f, rfl⟩ : ∃ j, f = j + 1 := ⟨f - 1, by omega⟩
    simp only [toP, g1 f S (by omega), Option.map_some]
  · rw [PyData.canLay0]; exact g2
  · rw [PyData.depth]; omega
  · rw [PyData.eqv]; exact g4
theorem Nice.up {k k' : Nat} {d : Dv} (h : Nice k d) (l : k ≤ k') : Nice k' d := by
  obtain ⟨p, h1, h2, h3, h4⟩ := h.ex
  exact ⟨p, fun f S hf => h1 f S (by omega), h2, by omega, h4⟩
theorem nice_str {x : Str} (h : Sk x) : Nice 0 (.str x) :=
  ⟨.str x, fun f S hf => by obtain ⟨f, rfl⟩ : ∃ j, f = j + 1 := ⟨f - 1, by omega⟩; simp only [toP], by rw [PyData.canLay0]; exact h, by rw [PyData.depth]; omega, by rw [PyData.eqv]; simp⟩
theorem nice_int (i : Int) : Nice 0 (.int i) :=
  ⟨.int i, fun f S hf => by obtain ⟨f, rfl⟩ : ∃ j, f = j + 1 := ⟨f - 1, by omega⟩; simp only [toP], by rw [PyData.canLay0], by rw [PyData.depth]; omega, by rw [PyData.eqv]; simp⟩
theorem nice_bl (i : Bool) : Nice 0 (.bl i) :=
  ⟨.bool i, fun f S hf => by obtain ⟨f, rfl⟩ : ∃ j, f = j + 1 := ⟨f - 1, by omega⟩; simp only [toP], by rw [PyData.canLay0], by rw [PyData.depth]; omega, by rw [PyData.eqv]; simp⟩
theorem shaped_nil : SeqAt.shaped (.list []) = true := by rfl
theorem eq_nil_nil {S : Sto} {a b : Nat} (ha : S[a]? = some (.lst [])) (hb : S[b]? = some (.lst [])) : eqD (.ref a) (.ref b) S = .ok (.bl true) S := by
  have e1 : toP 40 S (.ref a) = some (.list []) := by simp only [toP, ha, toPs, Option.map_some]
  have e2 : toP 40 S (.ref b) = some (.list []) := by simp only [toP, hb, toPs, Option.map_some]
  have e3 : PyData.eqv (.list []) (.list []) = true := by simp [PyData.eqv, PyData.eqvAll]
  simp only [eqD, eqq, e1, e2, e3, shaped_nil, and_self, ↓reduceIte]
theorem eq_one_nil {S : Sto} {a b k : Nat} {d : Dv} (ha : S[a]? = some (.lst [d])) (hd : Nice k d) (hk : k ≤ 30) (hb : S[b]? = some (.lst [])) : eqD (.ref a) (.ref b) S = .ok (.bl false) S := by
  obtain ⟨p, h1, h2, h3, h4⟩ := hd.ex
  have e1 : toP 40 S (.ref a) = some (.list [p]) := by simp only [toP, ha, toPs, h1 39 S (by omega), Option.map_some]
  have e2 : toP 40 S (.ref b) = some (.list []) := by simp only [toP, hb, toPs, Option.map_some]
  have e3 : PyData.eqv (.list [p]) (.list []) = false := by simp [PyData.eqv, PyData.eqvAll]
  have e4 : SeqAt.shaped (.list [p]) = true := by
    unfold SeqAt.shaped
    rw [PyData.canLay0, PyData.canLayAll0, h2, PyData.canLayAll0, PyData.depth, PyData.depthAll, PyData.depthAll, Bool.true_and, Bool.true_and]
    exact decide_eq_true (by omega)
  simp only [eqD, eqq, e1, e2, e3, e4, shaped_nil, and_self, ↓reduceIte]
/-! the look with most looks -/
def prsZ (zs : List En) : List (Int × Int) := zs.zipIdx.map fun x => (x.1.m, (x.2 : Int))
theorem best_max {zs : List En} (hne : zs ≠ []) : ∃ (k : Nat) (e : En) (m : Int), zs[k]? = some e ∧ ∀ (S : Sto) (l : Nat), S[l]? = some (.lst ((prsZ zs).map fun p => .tup [.int p.1, .int p.2])) → maxpD [.ref l] S = .ok (.tup [.int m, .int (k : Int)]) S := by
  cases hp : prsZ zs with
  | nil => exact absurd (by have := congrArg List.length hp; simpa [prsZ] using this) hne
  | cons p ps =>
    have hm := maxP_mem p ps
    rw [← hp] at hm
    obtain ⟨x, hx, ex⟩ := List.mem_map.mp hm
    obtain ⟨e, k⟩ := x
    have hk : zs[k]? = some e := by
      have := List.mem_zipIdx_iff_getElem?.mp hx
      simpa using this
    refine ⟨k, e, (maxP p ps).1, hk, fun S l hl => ?_⟩
    have : (maxP p ps).2 = (k : Int) := by rw [← ex]
    rw [maxp_ref hl, this]
theorem best_comp {ck : Sto → Prop} [∀ S, Decidable (ck S)] {zs : List En} {S : Sto} {y : RE} {ρ : PL.Env} {t : Tg} (hck : ck S) (hl : zs.length ≤ 1000) (hy : ∀ (k : Nat) (e : En), ∃ ρ1, t.set (.tup [.int (k : Int), e.d]) ρ = some ρ1 ∧ y ρ1 S = .ok (.tup [.int e.m, .int (k : Int)]) S) :
    compL ck t cYes y ρ (enumL (zs.map En.d)) [] S = .ok ((prsZ zs).map fun p => .tup [.int p.1, .int p.2]) S := by
  obtain ⟨acc, S1, e1, hS, ha⟩ := comp_gen (ck := ck) (t := t) (c := cYes) (y := y) (acc := []) (S := S) (fun i acc S' => S' = S ∧ acc = ((prsZ zs).take i).map fun p => .tup [.int p.1, .int p.2]) (enumL (zs.map En.d)) ρ
    (fun i d acc S' hd ⟨hS, ha⟩ => by
      subst hS
      rw [enumL_get, List.getElem?_map, Option.map_map, Option.map_eq_some_iff] at hd
      obtain ⟨e, he, rfl⟩ := hd
      have hi := (List.getElem?_eq_some_iff.mp he).1
      obtain ⟨ρ1, e1, e2⟩ := hy (0 + i) e
      refine ⟨hck, ρ1, e1, true, S', rfl, fun _ => ⟨_, S', e2, ?_, rfl, ?_⟩, fun z => nomatch z⟩
      · rw [ha, List.length_map, List.length_take]; show _ < 2 ^ 24; omega
      · have : (prsZ zs)[i]? = some (e.m, ((0 + i : Nat) : Int)) := by
          unfold prsZ; rw [List.getElem?_map, List.getElem?_zipIdx, he, Nat.zero_add]; rfl
        rw [ha, List.take_add_one, this, List.map_append]; rfl) (fun acc S' ⟨hS, _⟩ => by subst hS; exact hck) ⟨rfl, rfl⟩
  subst hS
  have : (enumL (zs.map En.d)).length = (prsZ zs).length := by rw [enumL_len, List.length_map]; simp [prsZ]
  rw [e1, ha, this, List.take_of_length_le (Nat.le_refl _)]
theorem bits_run {f : Nat} {c t : Int} {n : Nat} {S : Sto} (ht : t = 0 ∨ t = 1) (hn : n ≤ 1000) : ∃ (r : Int) (S' : Sto), F (f + 2) .l_bits [.int c, .int t, .int n] S = .ok (.int r) S' ∧ Gr S S' ∧ 0 ≤ r := by
  rw [F_l_bits]
  have hp : powD (.int 10) (.int 9) S = .ok (.int 1000000000) S := by
    simp only [powD]
    rw [if_pos (show L2.CPow 10 9 from ⟨by omega, by omega, by omega⟩)]; rfl
  have hp40 : ∀ S, powD (.int 2) (.int 40) S = .ok (.int 1099511627776) S := fun S => by
    simp only [powD]
    rw [if_pos (show L2.CPow 2 40 from ⟨by omega, by omega, by omega⟩)]; rfl
  have hp28 : ∀ S, powD (.int 2) (.int 28) S = .ok (.int 268435456) S := fun S => by
    simp only [powD]
    rw [if_pos (show L2.CPow 2 28 from ⟨by omega, by omega, by omega⟩)]; rfl
  have sh : ∀ S, shlD (.int 1) (.int (n : Int)) S = .ok (.int (1 * 2 ^ n)) S := fun S => by
    have := shl01 (S := S) (i := 1) (j := (n : Int)) (.inr rfl) (by omega) (by omega)
    rw [Int.toNat_natCast] at this; exact this
  have pos : (0 : Int) < 2 ^ n := Int.pow_pos (by omega)
  by_cases q : 1000000000 ≤ c
  · obtain ⟨b, hb, ib⟩ : ∃ b : Int, (b = 1 ∨ b = 1099511627776) ∧ L2.atI ([.int 1, .int 1099511627776] : List Dv) t = some (.int b) := by
      rcases ht with rfl | rfl
      · exact ⟨1, .inl rfl, rfl⟩
      · exact ⟨_, .inr rfl, rfl⟩
    have fd : ∀ S, fdivD (.int c) (.int b) S = .ok (.int (c / b)) S := fun S => by
      rcases hb with rfl | rfl
      · exact fdiv_sm (by omega) (by omega)
      · simp only [fdivD]
        rw [if_pos ⟨by omega, by decide +kernel⟩]
    have ix := idx_ref (at_new S (.lst [.int 1, .int 1099511627776])) ib
    refine ⟨c / b % 2 ^ n, S ++ [Ob.lst [.int 1, .int 1099511627776]], runF_rt (ρ := [some (.int c), some (.int t), some (.int n)]) rfl rfl ?_, gr_app _ _, Int.emod_nonneg _ (by omega)⟩
    unfold c_l_bits
    exact seq_rt ((if_t (S' := S) (by simp only [ev_var, ev_con, ev_bin, ev_un, ev_anil, ev_acons, ev_call, ev_tup, ev_lst, ev_not, ev_and, ev_or, ev_if, ev_cbl, ev_btrue, ev_cand, ev_cor, ev_cnot, ev_sli, ev_onone, ev_osome, ev_chain, ev_meth, ev_get2, ev_newK, ev_newT, ev_own, ev_nil, ev_seq, ev_expr, ev_set, ev_ret, ev_retN, ev_cif, ev_brk, ev_ct, ev_asg, ev_put, ev_aug, ev_for, ev_comp, ev_newL, ev_iseq, ev_irange, ev_ienum, ev_yes, Out.bind_ok, Out.bindN_ok, bindS_ok, Tg.set, Tg.sets, List.getElem?_cons_zero, List.getElem?_cons_succ, List.set_cons_zero, List.set_cons_succ, wipeE, List.length_cons, List.length_nil, Nat.reduceAdd, Nat.reduceLeDiff, Nat.reduceEqDiff, ↓reduceIte, Bool.false_eq_true, decide_eq_true_eq, add_int, sub_int, lt_int, gt_int, le_int, ge_int, neg_int, and_int, or_int, xor_int, max2_int, min2_int, mod_pos, fdiv_sm, mul_sm, mul_smr, Int.reduceLT, Int.reduceNeg, int_bl, int_int, sli_tup, hp, q, decide_true])).trans (ret_of (by simp only [ev_var, ev_con, ev_bin, ev_un, ev_anil, ev_acons, ev_call, ev_tup, ev_lst, ev_not, ev_and, ev_or, ev_if, ev_cbl, ev_btrue, ev_cand, ev_cor, ev_cnot, ev_sli, ev_onone, ev_osome, ev_chain, ev_meth, ev_get2, ev_newK, ev_newT, ev_own, ev_nil, ev_seq, ev_expr, ev_set, ev_ret, ev_retN, ev_cif, ev_brk, ev_ct, ev_asg, ev_put, ev_aug, ev_for, ev_comp, ev_newL, ev_iseq, ev_irange, ev_ienum, ev_yes, Out.bind_ok, Out.bindN_ok, bindS_ok, Tg.set, Tg.sets, List.getElem?_cons_zero, List.getElem?_cons_succ, List.set_cons_zero, List.set_cons_succ, wipeE, List.length_cons, List.length_nil, Nat.reduceAdd, Nat.reduceLeDiff, Nat.reduceEqDiff, ↓reduceIte, Bool.false_eq_true, decide_eq_true_eq, add_int, sub_int, lt_int, gt_int, le_int, ge_int, neg_int, and_int, or_int, xor_int, max2_int, min2_int, mod_pos, fdiv_sm, mul_sm, mul_smr, Int.reduceLT, Int.reduceNeg, int_bl, int_int, sli_tup, hp40, sline 2 (by omega), ix, fd, sh, mod_shl])))
  · refine ⟨(mx c (26 + t) * 268435456 + mx c (28 + t)) % 2 ^ n, S, runF_rt (ρ := [some (.int c), some (.int t), some (.int n)]) rfl rfl ?_, .refl _, Int.emod_nonneg _ (by omega)⟩
    unfold c_l_bits
    refine (seq_of ((if_f (S' := S) (by simp only [ev_var, ev_con, ev_bin, ev_un, ev_anil, ev_acons, ev_call, ev_tup, ev_lst, ev_not, ev_and, ev_or, ev_if, ev_cbl, ev_btrue, ev_cand, ev_cor, ev_cnot, ev_sli, ev_onone, ev_osome, ev_chain, ev_meth, ev_get2, ev_newK, ev_newT, ev_own, ev_nil, ev_seq, ev_expr, ev_set, ev_ret, ev_retN, ev_cif, ev_brk, ev_ct, ev_asg, ev_put, ev_aug, ev_for, ev_comp, ev_newL, ev_iseq, ev_irange, ev_ienum, ev_yes, Out.bind_ok, Out.bindN_ok, bindS_ok, Tg.set, Tg.sets, List.getElem?_cons_zero, List.getElem?_cons_succ, List.set_cons_zero, List.set_cons_succ, wipeE, List.length_cons, List.length_nil, Nat.reduceAdd, Nat.reduceLeDiff, Nat.reduceEqDiff, ↓reduceIte, Bool.false_eq_true, decide_eq_true_eq, add_int, sub_int, lt_int, gt_int, le_int, ge_int, neg_int, and_int, or_int, xor_int, max2_int, min2_int, mod_pos, fdiv_sm, mul_sm, mul_smr, Int.reduceLT, Int.reduceNeg, int_bl, int_int, sli_tup, hp, q, decide_false])).trans rfl)).trans ?_
    have m1 := mix_run (f := f) (c := c) (k := 26 + t) (S := S) (by omega) (by omega)
    have m2 := mix_run (f := f) (c := c) (k := 28 + t) (S := S) (by omega) (by omega)
    have ml : mulD (.int (mx c (26 + t))) (.int 268435456) S = .ok (.int (mx c (26 + t) * 268435456)) S := mul_r (by omega)
    exact ret_of (by simp only [ev_var, ev_con, ev_bin, ev_un, ev_anil, ev_acons, ev_call, ev_tup, ev_lst, ev_not, ev_and, ev_or, ev_if, ev_cbl, ev_btrue, ev_cand, ev_cor, ev_cnot, ev_sli, ev_onone, ev_osome, ev_chain, ev_meth, ev_get2, ev_newK, ev_newT, ev_own, ev_nil, ev_seq, ev_expr, ev_set, ev_ret, ev_retN, ev_cif, ev_brk, ev_ct, ev_asg, ev_put, ev_aug, ev_for, ev_comp, ev_newL, ev_iseq, ev_irange, ev_ienum, ev_yes, Out.bind_ok, Out.bindN_ok, bindS_ok, Tg.set, Tg.sets, List.getElem?_cons_zero, List.getElem?_cons_succ, List.set_cons_zero, List.set_cons_succ, wipeE, List.length_cons, List.length_nil, Nat.reduceAdd, Nat.reduceLeDiff, Nat.reduceEqDiff, ↓reduceIte, Bool.false_eq_true, decide_eq_true_eq, add_int, sub_int, lt_int, gt_int, le_int, ge_int, neg_int, and_int, or_int, xor_int, max2_int, min2_int, mod_pos, fdiv_sm, mul_sm, mul_smr, Int.reduceLT, Int.reduceNeg, int_bl, int_int, sli_tup, m1, m2, hp28, ml, sh, mod_shl])
/-! says -/
def bitB (i : Int) (n : Nat) : Bool := decide (i / 2 ^ n % 2 = 1)
theorem bit_run {f : Nat} {i : Int} {n : Nat} {S : Sto} : F (f + 1) .has_bit [.int i, .int (n : Int)] S = .ok (.bl (bitB i n)) S := by
  rw [F_has_bit]
  refine runF_rt (ρ := [some (.int i), some (.int (n : Int))]) rfl rfl ?_
  unfold c_has_bit
  exact ret_of (by simp only [ev_var, ev_con, ev_bin, ev_un, ev_anil, ev_acons, ev_call, ev_tup, ev_lst, ev_not, ev_and, ev_or, ev_if, ev_cbl, ev_btrue, ev_cand, ev_cor, ev_cnot, ev_sli, ev_onone, ev_osome, ev_chain, ev_meth, ev_get2, ev_newK, ev_newT, ev_own, ev_nil, ev_seq, ev_expr, ev_set, ev_ret, ev_retN, ev_cif, ev_brk, ev_ct, ev_asg, ev_put, ev_aug, ev_for, ev_comp, ev_newL, ev_iseq, ev_irange, ev_ienum, ev_yes, Out.bind_ok, Out.bindN_ok, bindS_ok, Tg.set, Tg.sets, List.getElem?_cons_zero, List.getElem?_cons_succ, List.set_cons_zero, List.set_cons_succ, wipeE, List.length_cons, List.length_nil, Nat.reduceAdd, Nat.reduceLeDiff, Nat.reduceEqDiff, ↓reduceIte, Bool.false_eq_true, decide_eq_true_eq, add_int, sub_int, lt_int, gt_int, le_int, ge_int, neg_int, and_int, or_int, xor_int, max2_int, min2_int, mod_pos, fdiv_sm, mul_sm, mul_smr, Int.reduceLT, Int.reduceNeg, int_bl, int_int, sli_tup, shr_int (show (0 : Int) ≤ (n : Int) by omega), Int.toNat_natCast, PyProof.Rows.bitAnd_m1, eq_int]; rfl)
structure Cs where
  D : List Rw
  x : Str
  mkd : Bool
  lo : Int
  be : Int
structure CsOk (c : Cs) : Prop where
  len : c.D.length ≤ 1000
  go : ∀ r ∈ c.D, Sk r.go
  x : Sk c.x
def Says (c : Cs) (h : Nat) (d : Dv) (b : Bool) : Prop := ∀ (f : Nat) (S : Sto), h + 2 ≤ f → F f .says [.tup (c.D.map Rw.d), d, .str c.x, .bl c.mkd, .int c.lo, .int c.be] S = .ok (.bl b) S
theorem sk_kind : Sk "kind" := by decide +kernel
theorem sk_mark : Sk "mark" := by decide +kernel
theorem sk_any : Sk "any" := by decide +kernel
theorem sk_later : Sk "later" := by decide +kernel
section
variable {c : Cs} {h : Nat} {d e : Dv} {b b' : Bool} {w : Str} {r : List Dv}
abbrev ρS (c : Cs) (d : Dv) (v : Option Dv) (v7 : Option Dv) : PL.Env := [some (.tup (c.D.map Rw.d)), some d, some (.str c.x), some (.bl c.mkd), some (.int c.lo), some (.int c.be), v, v7]
theorem nope {w v : Str} {S : Sto} {a bb : RC} {v7 : Option Dv} {d : Dv} (hw : Sk w) (hv : Sk v) (n : w ≠ v) {o : OutS} (hb : bb (ρS c d (some (.str w)) v7) S = o) : cSeq (cIf (cBl (eBin eqD (eVar 6) (eCon (.str v)))) a (cNil)) bb (ρS c d (some (.str w)) v7) S = o :=
  (seq_of ((if_f (S' := S) (by simp only [ev_var, ev_con, ev_bin, ev_un, ev_anil, ev_acons, ev_call, ev_tup, ev_lst, ev_not, ev_and, ev_or, ev_if, ev_cbl, ev_btrue, ev_cand, ev_cor, ev_cnot, ev_sli, ev_onone, ev_osome, ev_chain, ev_meth, ev_get2, ev_newK, ev_newT, ev_own, ev_nil, ev_seq, ev_expr, ev_set, ev_ret, ev_retN, ev_cif, ev_brk, ev_ct, ev_asg, ev_put, ev_aug, ev_for, ev_comp, ev_newL, ev_iseq, ev_irange, ev_ienum, ev_yes, Out.bind_ok, Out.bindN_ok, bindS_ok, Tg.set, Tg.sets, List.getElem?_cons_zero, List.getElem?_cons_succ, List.set_cons_zero, List.set_cons_succ, wipeE, List.length_cons, List.length_nil, Nat.reduceAdd, Nat.reduceLeDiff, Nat.reduceEqDiff, ↓reduceIte, Bool.false_eq_true, decide_eq_true_eq, add_int, sub_int, lt_int, gt_int, le_int, ge_int, neg_int, and_int, or_int, xor_int, max2_int, min2_int, mod_pos, fdiv_sm, mul_sm, mul_smr, Int.reduceLT, Int.reduceNeg, int_bl, int_int, sli_tup, eqs hw hv, n, decide_false])).trans rfl)).trans hb
theorem yep {w : Str} {S : Sto} {a bb : RC} {v7 : Option Dv} {d : Dv} (hw : Sk w) {z : Dv} {S' : Sto} (ha : a (ρS c d (some (.str w)) v7) S = .fl (.rt z) S') : cSeq (cIf (cBl (eBin eqD (eVar 6) (eCon (.str w)))) a (cNil)) bb (ρS c d (some (.str w)) v7) S = .fl (.rt z) S' :=
  seq_rt ((if_t (S' := S) (by simp only [ev_var, ev_con, ev_bin, ev_un, ev_anil, ev_acons, ev_call, ev_tup, ev_lst, ev_not, ev_and, ev_or, ev_if, ev_cbl, ev_btrue, ev_cand, ev_cor, ev_cnot, ev_sli, ev_onone, ev_osome, ev_chain, ev_meth, ev_get2, ev_newK, ev_newT, ev_own, ev_nil, ev_seq, ev_expr, ev_set, ev_ret, ev_retN, ev_cif, ev_brk, ev_ct, ev_asg, ev_put, ev_aug, ev_for, ev_comp, ev_newL, ev_iseq, ev_irange, ev_ienum, ev_yes, Out.bind_ok, Out.bindN_ok, bindS_ok, Tg.set, Tg.sets, List.getElem?_cons_zero, List.getElem?_cons_succ, List.set_cons_zero, List.set_cons_succ, wipeE, List.length_cons, List.length_nil, Nat.reduceAdd, Nat.reduceLeDiff, Nat.reduceEqDiff, ↓reduceIte, Bool.false_eq_true, decide_eq_true_eq, add_int, sub_int, lt_int, gt_int, le_int, ge_int, neg_int, and_int, or_int, xor_int, max2_int, min2_int, mod_pos, fdiv_sm, mul_sm, mul_smr, Int.reduceLT, Int.reduceNeg, int_bl, int_int, sli_tup, eqs hw hw, decide_true])).trans ha)
theorem says_any : Says c 0 (.tup [.str "any"]) true := fun f S hf => by
  obtain ⟨k, rfl⟩ : ∃ k, f = k + 1 := ⟨f - 1, by omega⟩
  rw [F_says]
  refine runF_rt (ρ := ρS c (.tup [.str "any"]) none none) rfl rfl ?_
  unfold c_says
  refine (seq_of (set_of (d := .str "any") (S' := S) (by simp only [ev_var, ev_con, ev_bin, ev_un, ev_anil, ev_acons, ev_call, ev_tup, ev_lst, ev_not, ev_and, ev_or, ev_if, ev_cbl, ev_btrue, ev_cand, ev_cor, ev_cnot, ev_sli, ev_onone, ev_osome, ev_chain, ev_meth, ev_get2, ev_newK, ev_newT, ev_own, ev_nil, ev_seq, ev_expr, ev_set, ev_ret, ev_retN, ev_cif, ev_brk, ev_ct, ev_asg, ev_put, ev_aug, ev_for, ev_comp, ev_newL, ev_iseq, ev_irange, ev_ienum, ev_yes, Out.bind_ok, Out.bindN_ok, bindS_ok, Tg.set, Tg.sets, List.getElem?_cons_zero, List.getElem?_cons_succ, List.set_cons_zero, List.set_cons_succ, wipeE, List.length_cons, List.length_nil, Nat.reduceAdd, Nat.reduceLeDiff, Nat.reduceEqDiff, ↓reduceIte, Bool.false_eq_true, decide_eq_true_eq, add_int, sub_int, lt_int, gt_int, le_int, ge_int, neg_int, and_int, or_int, xor_int, max2_int, min2_int, mod_pos, fdiv_sm, mul_sm, mul_smr, Int.reduceLT, Int.reduceNeg, int_bl, int_int, sli_tup, idx_t0]))).trans ?_
  refine nope sk_any sk_kind (by decide) ?_
  refine nope sk_any sk_mark (by decide) ?_
  refine nope sk_any sk_from (by decide) ?_
  refine nope sk_any sk_not (by decide) ?_
  exact yep sk_any (ret_of rfl)
theorem says_mark : Says c 0 (.tup [.str "mark"]) c.mkd := fun f S hf => by
  obtain ⟨k, rfl⟩ : ∃ k, f = k + 1 := ⟨f - 1, by omega⟩
  rw [F_says]
  refine runF_rt (ρ := ρS c (.tup [.str "mark"]) none none) rfl rfl ?_
  unfold c_says
  refine (seq_of (set_of (d := .str "mark") (S' := S) (by simp only [ev_var, ev_con, ev_bin, ev_un, ev_anil, ev_acons, ev_call, ev_tup, ev_lst, ev_not, ev_and, ev_or, ev_if, ev_cbl, ev_btrue, ev_cand, ev_cor, ev_cnot, ev_sli, ev_onone, ev_osome, ev_chain, ev_meth, ev_get2, ev_newK, ev_newT, ev_own, ev_nil, ev_seq, ev_expr, ev_set, ev_ret, ev_retN, ev_cif, ev_brk, ev_ct, ev_asg, ev_put, ev_aug, ev_for, ev_comp, ev_newL, ev_iseq, ev_irange, ev_ienum, ev_yes, Out.bind_ok, Out.bindN_ok, bindS_ok, Tg.set, Tg.sets, List.getElem?_cons_zero, List.getElem?_cons_succ, List.set_cons_zero, List.set_cons_succ, wipeE, List.length_cons, List.length_nil, Nat.reduceAdd, Nat.reduceLeDiff, Nat.reduceEqDiff, ↓reduceIte, Bool.false_eq_true, decide_eq_true_eq, add_int, sub_int, lt_int, gt_int, le_int, ge_int, neg_int, and_int, or_int, xor_int, max2_int, min2_int, mod_pos, fdiv_sm, mul_sm, mul_smr, Int.reduceLT, Int.reduceNeg, int_bl, int_int, sli_tup, idx_t0]))).trans ?_
  refine nope sk_mark sk_kind (by decide) ?_
  exact yep sk_mark (ret_of rfl)
theorem says_kind (ok : CsOk c) (hw : Sk w) : Says c 0 (.tup [.str "kind", .str w]) (decide (w = c.x)) := fun f S hf => by
  obtain ⟨k, rfl⟩ : ∃ k, f = k + 1 := ⟨f - 1, by omega⟩
  rw [F_says]
  refine runF_rt (ρ := ρS c (.tup [.str "kind", .str w]) none none) rfl rfl ?_
  unfold c_says
  refine (seq_of (set_of (d := .str "kind") (S' := S) (by simp only [ev_var, ev_con, ev_bin, ev_un, ev_anil, ev_acons, ev_call, ev_tup, ev_lst, ev_not, ev_and, ev_or, ev_if, ev_cbl, ev_btrue, ev_cand, ev_cor, ev_cnot, ev_sli, ev_onone, ev_osome, ev_chain, ev_meth, ev_get2, ev_newK, ev_newT, ev_own, ev_nil, ev_seq, ev_expr, ev_set, ev_ret, ev_retN, ev_cif, ev_brk, ev_ct, ev_asg, ev_put, ev_aug, ev_for, ev_comp, ev_newL, ev_iseq, ev_irange, ev_ienum, ev_yes, Out.bind_ok, Out.bindN_ok, bindS_ok, Tg.set, Tg.sets, List.getElem?_cons_zero, List.getElem?_cons_succ, List.set_cons_zero, List.set_cons_succ, wipeE, List.length_cons, List.length_nil, Nat.reduceAdd, Nat.reduceLeDiff, Nat.reduceEqDiff, ↓reduceIte, Bool.false_eq_true, decide_eq_true_eq, add_int, sub_int, lt_int, gt_int, le_int, ge_int, neg_int, and_int, or_int, xor_int, max2_int, min2_int, mod_pos, fdiv_sm, mul_sm, mul_smr, Int.reduceLT, Int.reduceNeg, int_bl, int_int, sli_tup, idx_t0]))).trans ?_
  exact yep sk_kind (ret_of (by simp only [ev_var, ev_con, ev_bin, ev_un, ev_anil, ev_acons, ev_call, ev_tup, ev_lst, ev_not, ev_and, ev_or, ev_if, ev_cbl, ev_btrue, ev_cand, ev_cor, ev_cnot, ev_sli, ev_onone, ev_osome, ev_chain, ev_meth, ev_get2, ev_newK, ev_newT, ev_own, ev_nil, ev_seq, ev_expr, ev_set, ev_ret, ev_retN, ev_cif, ev_brk, ev_ct, ev_asg, ev_put, ev_aug, ev_for, ev_comp, ev_newL, ev_iseq, ev_irange, ev_ienum, ev_yes, Out.bind_ok, Out.bindN_ok, bindS_ok, Tg.set, Tg.sets, List.getElem?_cons_zero, List.getElem?_cons_succ, List.set_cons_zero, List.set_cons_succ, wipeE, List.length_cons, List.length_nil, Nat.reduceAdd, Nat.reduceLeDiff, Nat.reduceEqDiff, ↓reduceIte, Bool.false_eq_true, decide_eq_true_eq, add_int, sub_int, lt_int, gt_int, le_int, ge_int, neg_int, and_int, or_int, xor_int, max2_int, min2_int, mod_pos, fdiv_sm, mul_sm, mul_smr, Int.reduceLT, Int.reduceNeg, int_bl, int_int, sli_tup, idx_t1, eqs hw ok.x]))
theorem says_from (ok : CsOk c) {j : Nat} {rw_ : Rw} (hj : c.D[j]? = some rw_) : Says c 0 (.tup [.str "from", .int (j : Int)]) (bitB (if rw_.go = "later" then c.be else c.lo) j) := fun f S hf => by
  obtain ⟨k, rfl⟩ : ∃ k, f = k + 2 := ⟨f - 2, by omega⟩
  rw [F_says]
  refine runF_rt (ρ := ρS c (.tup [.str "from", .int (j : Int)]) none none) rfl rfl ?_
  unfold c_says
  have sg := ok.go _ (List.mem_of_getElem? hj)
  have i0 : idxD (.tup (c.D.map Rw.d)) (.int (j : Int)) S = .ok rw_.d S := idx_tup (atI_nat (by rw [List.getElem?_map, hj]; rfl))
  have i1 : idxD rw_.d (.int 0) S = .ok (.str rw_.go) S := idx_t0
  refine (seq_of (set_of (d := .str "from") (S' := S) (by simp only [ev_var, ev_con, ev_bin, ev_un, ev_anil, ev_acons, ev_call, ev_tup, ev_lst, ev_not, ev_and, ev_or, ev_if, ev_cbl, ev_btrue, ev_cand, ev_cor, ev_cnot, ev_sli, ev_onone, ev_osome, ev_chain, ev_meth, ev_get2, ev_newK, ev_newT, ev_own, ev_nil, ev_seq, ev_expr, ev_set, ev_ret, ev_retN, ev_cif, ev_brk, ev_ct, ev_asg, ev_put, ev_aug, ev_for, ev_comp, ev_newL, ev_iseq, ev_irange, ev_ienum, ev_yes, Out.bind_ok, Out.bindN_ok, bindS_ok, Tg.set, Tg.sets, List.getElem?_cons_zero, List.getElem?_cons_succ, List.set_cons_zero, List.set_cons_succ, wipeE, List.length_cons, List.length_nil, Nat.reduceAdd, Nat.reduceLeDiff, Nat.reduceEqDiff, ↓reduceIte, Bool.false_eq_true, decide_eq_true_eq, add_int, sub_int, lt_int, gt_int, le_int, ge_int, neg_int, and_int, or_int, xor_int, max2_int, min2_int, mod_pos, fdiv_sm, mul_sm, mul_smr, Int.reduceLT, Int.reduceNeg, int_bl, int_int, sli_tup, idx_t0]))).trans ?_
  refine nope sk_from sk_kind (by decide) ?_
  refine nope sk_from sk_mark (by decide) ?_
  refine yep sk_from ?_
  by_cases q : rw_.go = "later"
  · rw [if_pos q]
    have el : eqD (.str rw_.go) (.str "later") S = .ok (.bl true) S := (eqs sg sk_later).trans (by rw [decide_eq_true q])
    exact seq_rt ((if_t (S' := S) (by simp only [ev_var, ev_con, ev_bin, ev_un, ev_anil, ev_acons, ev_call, ev_tup, ev_lst, ev_not, ev_and, ev_or, ev_if, ev_cbl, ev_btrue, ev_cand, ev_cor, ev_cnot, ev_sli, ev_onone, ev_osome, ev_chain, ev_meth, ev_get2, ev_newK, ev_newT, ev_own, ev_nil, ev_seq, ev_expr, ev_set, ev_ret, ev_retN, ev_cif, ev_brk, ev_ct, ev_asg, ev_put, ev_aug, ev_for, ev_comp, ev_newL, ev_iseq, ev_irange, ev_ienum, ev_yes, Out.bind_ok, Out.bindN_ok, bindS_ok, Tg.set, Tg.sets, List.getElem?_cons_zero, List.getElem?_cons_succ, List.set_cons_zero, List.set_cons_succ, wipeE, List.length_cons, List.length_nil, Nat.reduceAdd, Nat.reduceLeDiff, Nat.reduceEqDiff, ↓reduceIte, Bool.false_eq_true, decide_eq_true_eq, add_int, sub_int, lt_int, gt_int, le_int, ge_int, neg_int, and_int, or_int, xor_int, max2_int, min2_int, mod_pos, fdiv_sm, mul_sm, mul_smr, Int.reduceLT, Int.reduceNeg, int_bl, int_int, sli_tup, idx_t1, i0, i1, el])).trans (ret_of (by simp only [ev_var, ev_con, ev_bin, ev_un, ev_anil, ev_acons, ev_call, ev_tup, ev_lst, ev_not, ev_and, ev_or, ev_if, ev_cbl, ev_btrue, ev_cand, ev_cor, ev_cnot, ev_sli, ev_onone, ev_osome, ev_chain, ev_meth, ev_get2, ev_newK, ev_newT, ev_own, ev_nil, ev_seq, ev_expr, ev_set, ev_ret, ev_retN, ev_cif, ev_brk, ev_ct, ev_asg, ev_put, ev_aug, ev_for, ev_comp, ev_newL, ev_iseq, ev_irange, ev_ienum, ev_yes, Out.bind_ok, Out.bindN_ok, bindS_ok, Tg.set, Tg.sets, List.getElem?_cons_zero, List.getElem?_cons_succ, List.set_cons_zero, List.set_cons_succ, wipeE, List.length_cons, List.length_nil, Nat.reduceAdd, Nat.reduceLeDiff, Nat.reduceEqDiff, ↓reduceIte, Bool.false_eq_true, decide_eq_true_eq, add_int, sub_int, lt_int, gt_int, le_int, ge_int, neg_int, and_int, or_int, xor_int, max2_int, min2_int, mod_pos, fdiv_sm, mul_sm, mul_smr, Int.reduceLT, Int.reduceNeg, int_bl, int_int, sli_tup, idx_t1, bit_run])))
  · rw [if_neg q]
    refine (seq_of ((if_f (S' := S) (by simp only [ev_var, ev_con, ev_bin, ev_un, ev_anil, ev_acons, ev_call, ev_tup, ev_lst, ev_not, ev_and, ev_or, ev_if, ev_cbl, ev_btrue, ev_cand, ev_cor, ev_cnot, ev_sli, ev_onone, ev_osome, ev_chain, ev_meth, ev_get2, ev_newK, ev_newT, ev_own, ev_nil, ev_seq, ev_expr, ev_set, ev_ret, ev_retN, ev_cif, ev_brk, ev_ct, ev_asg, ev_put, ev_aug, ev_for, ev_comp, ev_newL, ev_iseq, ev_irange, ev_ienum, ev_yes, Out.bind_ok, Out.bindN_ok, bindS_ok, Tg.set, Tg.sets, List.getElem?_cons_zero, List.getElem?_cons_succ, List.set_cons_zero, List.set_cons_succ, wipeE, List.length_cons, List.length_nil, Nat.reduceAdd, Nat.reduceLeDiff, Nat.reduceEqDiff, ↓reduceIte, Bool.false_eq_true, decide_eq_true_eq, add_int, sub_int, lt_int, gt_int, le_int, ge_int, neg_int, and_int, or_int, xor_int, max2_int, min2_int, mod_pos, fdiv_sm, mul_sm, mul_smr, Int.reduceLT, Int.reduceNeg, int_bl, int_int, sli_tup, idx_t1, i0, i1, (eqs sg sk_later).trans (by rw [decide_eq_false q])])).trans rfl)).trans ?_
    exact ret_of (by simp only [ev_var, ev_con, ev_bin, ev_un, ev_anil, ev_acons, ev_call, ev_tup, ev_lst, ev_not, ev_and, ev_or, ev_if, ev_cbl, ev_btrue, ev_cand, ev_cor, ev_cnot, ev_sli, ev_onone, ev_osome, ev_chain, ev_meth, ev_get2, ev_newK, ev_newT, ev_own, ev_nil, ev_seq, ev_expr, ev_set, ev_ret, ev_retN, ev_cif, ev_brk, ev_ct, ev_asg, ev_put, ev_aug, ev_for, ev_comp, ev_newL, ev_iseq, ev_irange, ev_ienum, ev_yes, Out.bind_ok, Out.bindN_ok, bindS_ok, Tg.set, Tg.sets, List.getElem?_cons_zero, List.getElem?_cons_succ, List.set_cons_zero, List.set_cons_succ, wipeE, List.length_cons, List.length_nil, Nat.reduceAdd, Nat.reduceLeDiff, Nat.reduceEqDiff, ↓reduceIte, Bool.false_eq_true, decide_eq_true_eq, add_int, sub_int, lt_int, gt_int, le_int, ge_int, neg_int, and_int, or_int, xor_int, max2_int, min2_int, mod_pos, fdiv_sm, mul_sm, mul_smr, Int.reduceLT, Int.reduceNeg, int_bl, int_int, sli_tup, idx_t1, bit_run])
theorem says_not (he : Says c h d b) : Says c (h + 1) (.tup [.str "not", d]) (!b) := fun f S hf => by
  obtain ⟨k, rfl⟩ : ∃ k, f = k + 1 := ⟨f - 1, by omega⟩
  rw [F_says]
  refine runF_rt (ρ := ρS c (.tup [.str "not", d]) none none) rfl rfl ?_
  unfold c_says
  refine (seq_of (set_of (d := .str "not") (S' := S) (by simp only [ev_var, ev_con, ev_bin, ev_un, ev_anil, ev_acons, ev_call, ev_tup, ev_lst, ev_not, ev_and, ev_or, ev_if, ev_cbl, ev_btrue, ev_cand, ev_cor, ev_cnot, ev_sli, ev_onone, ev_osome, ev_chain, ev_meth, ev_get2, ev_newK, ev_newT, ev_own, ev_nil, ev_seq, ev_expr, ev_set, ev_ret, ev_retN, ev_cif, ev_brk, ev_ct, ev_asg, ev_put, ev_aug, ev_for, ev_comp, ev_newL, ev_iseq, ev_irange, ev_ienum, ev_yes, Out.bind_ok, Out.bindN_ok, bindS_ok, Tg.set, Tg.sets, List.getElem?_cons_zero, List.getElem?_cons_succ, List.set_cons_zero, List.set_cons_succ, wipeE, List.length_cons, List.length_nil, Nat.reduceAdd, Nat.reduceLeDiff, Nat.reduceEqDiff, ↓reduceIte, Bool.false_eq_true, decide_eq_true_eq, add_int, sub_int, lt_int, gt_int, le_int, ge_int, neg_int, and_int, or_int, xor_int, max2_int, min2_int, mod_pos, fdiv_sm, mul_sm, mul_smr, Int.reduceLT, Int.reduceNeg, int_bl, int_int, sli_tup, idx_t0]))).trans ?_
  refine nope sk_not sk_kind (by decide) ?_
  refine nope sk_not sk_mark (by decide) ?_
  refine nope sk_not sk_from (by decide) ?_
  exact yep sk_not (ret_of (by simp only [ev_var, ev_con, ev_bin, ev_un, ev_anil, ev_acons, ev_call, ev_tup, ev_lst, ev_not, ev_and, ev_or, ev_if, ev_cbl, ev_btrue, ev_cand, ev_cor, ev_cnot, ev_sli, ev_onone, ev_osome, ev_chain, ev_meth, ev_get2, ev_newK, ev_newT, ev_own, ev_nil, ev_seq, ev_expr, ev_set, ev_ret, ev_retN, ev_cif, ev_brk, ev_ct, ev_asg, ev_put, ev_aug, ev_for, ev_comp, ev_newL, ev_iseq, ev_irange, ev_ienum, ev_yes, Out.bind_ok, Out.bindN_ok, bindS_ok, Tg.set, Tg.sets, List.getElem?_cons_zero, List.getElem?_cons_succ, List.set_cons_zero, List.set_cons_succ, wipeE, List.length_cons, List.length_nil, Nat.reduceAdd, Nat.reduceLeDiff, Nat.reduceEqDiff, ↓reduceIte, Bool.false_eq_true, decide_eq_true_eq, add_int, sub_int, lt_int, gt_int, le_int, ge_int, neg_int, and_int, or_int, xor_int, max2_int, min2_int, mod_pos, fdiv_sm, mul_sm, mul_smr, Int.reduceLT, Int.reduceNeg, int_bl, int_int, sli_tup, idx_t1, he k S (by omega)]))
theorem says_both (h1 : Says c h d b) (h2 : Says c h e b') : Says c (h + 1) (.tup [.str "both", d, e]) (b && b') := fun f S hf => by
  obtain ⟨k, rfl⟩ : ∃ k, f = k + 1 := ⟨f - 1, by omega⟩
  rw [F_says]
  refine runF_rt (ρ := ρS c (.tup [.str "both", d, e]) none none) rfl rfl ?_
  unfold c_says
  refine (seq_of (set_of (d := .str "both") (S' := S) (by simp only [ev_var, ev_con, ev_bin, ev_un, ev_anil, ev_acons, ev_call, ev_tup, ev_lst, ev_not, ev_and, ev_or, ev_if, ev_cbl, ev_btrue, ev_cand, ev_cor, ev_cnot, ev_sli, ev_onone, ev_osome, ev_chain, ev_meth, ev_get2, ev_newK, ev_newT, ev_own, ev_nil, ev_seq, ev_expr, ev_set, ev_ret, ev_retN, ev_cif, ev_brk, ev_ct, ev_asg, ev_put, ev_aug, ev_for, ev_comp, ev_newL, ev_iseq, ev_irange, ev_ienum, ev_yes, Out.bind_ok, Out.bindN_ok, bindS_ok, Tg.set, Tg.sets, List.getElem?_cons_zero, List.getElem?_cons_succ, List.set_cons_zero, List.set_cons_succ, wipeE, List.length_cons, List.length_nil, Nat.reduceAdd, Nat.reduceLeDiff, Nat.reduceEqDiff, ↓reduceIte, Bool.false_eq_true, decide_eq_true_eq, add_int, sub_int, lt_int, gt_int, le_int, ge_int, neg_int, and_int, or_int, xor_int, max2_int, min2_int, mod_pos, fdiv_sm, mul_sm, mul_smr, Int.reduceLT, Int.reduceNeg, int_bl, int_int, sli_tup, idx_t0]))).trans ?_
  refine nope sk_both sk_kind (by decide) ?_
  refine nope sk_both sk_mark (by decide) ?_
  refine nope sk_both sk_from (by decide) ?_
  refine nope sk_both sk_not (by decide) ?_
  refine nope sk_both sk_any (by decide) ?_
  refine (seq_of (set_of (d := .bl b) (S' := S) (by simp only [ev_var, ev_con, ev_bin, ev_un, ev_anil, ev_acons, ev_call, ev_tup, ev_lst, ev_not, ev_and, ev_or, ev_if, ev_cbl, ev_btrue, ev_cand, ev_cor, ev_cnot, ev_sli, ev_onone, ev_osome, ev_chain, ev_meth, ev_get2, ev_newK, ev_newT, ev_own, ev_nil, ev_seq, ev_expr, ev_set, ev_ret, ev_retN, ev_cif, ev_brk, ev_ct, ev_asg, ev_put, ev_aug, ev_for, ev_comp, ev_newL, ev_iseq, ev_irange, ev_ienum, ev_yes, Out.bind_ok, Out.bindN_ok, bindS_ok, Tg.set, Tg.sets, List.getElem?_cons_zero, List.getElem?_cons_succ, List.set_cons_zero, List.set_cons_succ, wipeE, List.length_cons, List.length_nil, Nat.reduceAdd, Nat.reduceLeDiff, Nat.reduceEqDiff, ↓reduceIte, Bool.false_eq_true, decide_eq_true_eq, add_int, sub_int, lt_int, gt_int, le_int, ge_int, neg_int, and_int, or_int, xor_int, max2_int, min2_int, mod_pos, fdiv_sm, mul_sm, mul_smr, Int.reduceLT, Int.reduceNeg, int_bl, int_int, sli_tup, idx_t1, h1 k S (by omega)]))).trans ?_
  refine yep sk_both (ret_of ?_)
  cases b
  · simp only [ev_var, ev_con, ev_bin, ev_un, ev_anil, ev_acons, ev_call, ev_tup, ev_lst, ev_not, ev_and, ev_or, ev_if, ev_cbl, ev_btrue, ev_cand, ev_cor, ev_cnot, ev_sli, ev_onone, ev_osome, ev_chain, ev_meth, ev_get2, ev_newK, ev_newT, ev_own, ev_nil, ev_seq, ev_expr, ev_set, ev_ret, ev_retN, ev_cif, ev_brk, ev_ct, ev_asg, ev_put, ev_aug, ev_for, ev_comp, ev_newL, ev_iseq, ev_irange, ev_ienum, ev_yes, Out.bind_ok, Out.bindN_ok, bindS_ok, Tg.set, Tg.sets, List.getElem?_cons_zero, List.getElem?_cons_succ, List.set_cons_zero, List.set_cons_succ, wipeE, List.length_cons, List.length_nil, Nat.reduceAdd, Nat.reduceLeDiff, Nat.reduceEqDiff, ↓reduceIte, Bool.false_eq_true, decide_eq_true_eq, add_int, sub_int, lt_int, gt_int, le_int, ge_int, neg_int, and_int, or_int, xor_int, max2_int, min2_int, mod_pos, fdiv_sm, mul_sm, mul_smr, Int.reduceLT, Int.reduceNeg, int_bl, int_int, sli_tup, Bool.false_and]
  · simp only [ev_var, ev_con, ev_bin, ev_un, ev_anil, ev_acons, ev_call, ev_tup, ev_lst, ev_not, ev_and, ev_or, ev_if, ev_cbl, ev_btrue, ev_cand, ev_cor, ev_cnot, ev_sli, ev_onone, ev_osome, ev_chain, ev_meth, ev_get2, ev_newK, ev_newT, ev_own, ev_nil, ev_seq, ev_expr, ev_set, ev_ret, ev_retN, ev_cif, ev_brk, ev_ct, ev_asg, ev_put, ev_aug, ev_for, ev_comp, ev_newL, ev_iseq, ev_irange, ev_ienum, ev_yes, Out.bind_ok, Out.bindN_ok, bindS_ok, Tg.set, Tg.sets, List.getElem?_cons_zero, List.getElem?_cons_succ, List.set_cons_zero, List.set_cons_succ, wipeE, List.length_cons, List.length_nil, Nat.reduceAdd, Nat.reduceLeDiff, Nat.reduceEqDiff, ↓reduceIte, Bool.false_eq_true, decide_eq_true_eq, add_int, sub_int, lt_int, gt_int, le_int, ge_int, neg_int, and_int, or_int, xor_int, max2_int, min2_int, mod_pos, fdiv_sm, mul_sm, mul_smr, Int.reduceLT, Int.reduceNeg, int_bl, int_int, sli_tup, idx_t2, h2 k S (by omega), Bool.true_and]
theorem says_either (h1 : Says c h d b) (h2 : Says c h e b') : Says c (h + 1) (.tup [.str "either", d, e]) (b || b') := fun f S hf => by
  obtain ⟨k, rfl⟩ : ∃ k, f = k + 1 := ⟨f - 1, by omega⟩
  rw [F_says]
  refine runF_rt (ρ := ρS c (.tup [.str "either", d, e]) none none) rfl rfl ?_
  unfold c_says
  refine (seq_of (set_of (d := .str "either") (S' := S) (by simp only [ev_var, ev_con, ev_bin, ev_un, ev_anil, ev_acons, ev_call, ev_tup, ev_lst, ev_not, ev_and, ev_or, ev_if, ev_cbl, ev_btrue, ev_cand, ev_cor, ev_cnot, ev_sli, ev_onone, ev_osome, ev_chain, ev_meth, ev_get2, ev_newK, ev_newT, ev_own, ev_nil, ev_seq, ev_expr, ev_set, ev_ret, ev_retN, ev_cif, ev_brk, ev_ct, ev_asg, ev_put, ev_aug, ev_for, ev_comp, ev_newL, ev_iseq, ev_irange, ev_ienum, ev_yes, Out.bind_ok, Out.bindN_ok, bindS_ok, Tg.set, Tg.sets, List.getElem?_cons_zero, List.getElem?_cons_succ, List.set_cons_zero, List.set_cons_succ, wipeE, List.length_cons, List.length_nil, Nat.reduceAdd, Nat.reduceLeDiff, Nat.reduceEqDiff, ↓reduceIte, Bool.false_eq_true, decide_eq_true_eq, add_int, sub_int, lt_int, gt_int, le_int, ge_int, neg_int, and_int, or_int, xor_int, max2_int, min2_int, mod_pos, fdiv_sm, mul_sm, mul_smr, Int.reduceLT, Int.reduceNeg, int_bl, int_int, sli_tup, idx_t0]))).trans ?_
  refine nope sk_either sk_kind (by decide) ?_
  refine nope sk_either sk_mark (by decide) ?_
  refine nope sk_either sk_from (by decide) ?_
  refine nope sk_either sk_not (by decide) ?_
  refine nope sk_either sk_any (by decide) ?_
  refine (seq_of (set_of (d := .bl b) (S' := S) (by simp only [ev_var, ev_con, ev_bin, ev_un, ev_anil, ev_acons, ev_call, ev_tup, ev_lst, ev_not, ev_and, ev_or, ev_if, ev_cbl, ev_btrue, ev_cand, ev_cor, ev_cnot, ev_sli, ev_onone, ev_osome, ev_chain, ev_meth, ev_get2, ev_newK, ev_newT, ev_own, ev_nil, ev_seq, ev_expr, ev_set, ev_ret, ev_retN, ev_cif, ev_brk, ev_ct, ev_asg, ev_put, ev_aug, ev_for, ev_comp, ev_newL, ev_iseq, ev_irange, ev_ienum, ev_yes, Out.bind_ok, Out.bindN_ok, bindS_ok, Tg.set, Tg.sets, List.getElem?_cons_zero, List.getElem?_cons_succ, List.set_cons_zero, List.set_cons_succ, wipeE, List.length_cons, List.length_nil, Nat.reduceAdd, Nat.reduceLeDiff, Nat.reduceEqDiff, ↓reduceIte, Bool.false_eq_true, decide_eq_true_eq, add_int, sub_int, lt_int, gt_int, le_int, ge_int, neg_int, and_int, or_int, xor_int, max2_int, min2_int, mod_pos, fdiv_sm, mul_sm, mul_smr, Int.reduceLT, Int.reduceNeg, int_bl, int_int, sli_tup, idx_t1, h1 k S (by omega)]))).trans ?_
  refine nope sk_either sk_both (by decide) ?_
  refine ret_of ?_
  cases b
  · simp only [ev_var, ev_con, ev_bin, ev_un, ev_anil, ev_acons, ev_call, ev_tup, ev_lst, ev_not, ev_and, ev_or, ev_if, ev_cbl, ev_btrue, ev_cand, ev_cor, ev_cnot, ev_sli, ev_onone, ev_osome, ev_chain, ev_meth, ev_get2, ev_newK, ev_newT, ev_own, ev_nil, ev_seq, ev_expr, ev_set, ev_ret, ev_retN, ev_cif, ev_brk, ev_ct, ev_asg, ev_put, ev_aug, ev_for, ev_comp, ev_newL, ev_iseq, ev_irange, ev_ienum, ev_yes, Out.bind_ok, Out.bindN_ok, bindS_ok, Tg.set, Tg.sets, List.getElem?_cons_zero, List.getElem?_cons_succ, List.set_cons_zero, List.set_cons_succ, wipeE, List.length_cons, List.length_nil, Nat.reduceAdd, Nat.reduceLeDiff, Nat.reduceEqDiff, ↓reduceIte, Bool.false_eq_true, decide_eq_true_eq, add_int, sub_int, lt_int, gt_int, le_int, ge_int, neg_int, and_int, or_int, xor_int, max2_int, min2_int, mod_pos, fdiv_sm, mul_sm, mul_smr, Int.reduceLT, Int.reduceNeg, int_bl, int_int, sli_tup, idx_t2, h2 k S (by omega), Bool.false_or]
  · simp only [ev_var, ev_con, ev_bin, ev_un, ev_anil, ev_acons, ev_call, ev_tup, ev_lst, ev_not, ev_and, ev_or, ev_if, ev_cbl, ev_btrue, ev_cand, ev_cor, ev_cnot, ev_sli, ev_onone, ev_osome, ev_chain, ev_meth, ev_get2, ev_newK, ev_newT, ev_own, ev_nil, ev_seq, ev_expr, ev_set, ev_ret, ev_retN, ev_cif, ev_brk, ev_ct, ev_asg, ev_put, ev_aug, ev_for, ev_comp, ev_newL, ev_iseq, ev_irange, ev_ienum, ev_yes, Out.bind_ok, Out.bindN_ok, bindS_ok, Tg.set, Tg.sets, List.getElem?_cons_zero, List.getElem?_cons_succ, List.set_cons_zero, List.set_cons_succ, wipeE, List.length_cons, List.length_nil, Nat.reduceAdd, Nat.reduceLeDiff, Nat.reduceEqDiff, ↓reduceIte, Bool.false_eq_true, decide_eq_true_eq, add_int, sub_int, lt_int, gt_int, le_int, ge_int, neg_int, and_int, or_int, xor_int, max2_int, min2_int, mod_pos, fdiv_sm, mul_sm, mul_smr, Int.reduceLT, Int.reduceNeg, int_bl, int_int, sli_tup, Bool.true_or]
theorem Says.up {h' : Nat} (k : Says c h d b) (hh : h ≤ h') : Says c h' d b := fun f S hf => k f S (by omega)
end
/-! the law's own truth -/
def Cs.d (c : Cs) : Dv := .tup [.str c.x, .bl c.mkd, .int c.lo, .int c.be]
def LTr (c : Cs) (h : Nat) (d : Dv) (b : Bool) : Prop := ∀ (f l : Nat) (S : Sto), h + 1 ≤ f → S[l]? = some (.lst (c.D.map Rw.d)) → ∃ S', F f .l_truth [.ref l, d, c.d] S = .ok (.bl b) S' ∧ Gr S S'
section
variable {c : Cs} {h : Nat} {d e : Dv} {b b' : Bool} {w : Str} {r : List Dv}
abbrev ρT (c : Cs) (l : Nat) (d : Dv) (v : Option Dv) : PL.Env := [some (.ref l), some d, some c.d, v, some (.str c.x), some (.bl c.mkd), some (.int c.lo), some (.int c.be)]
theorem truth_begin {l : Nat} {S : Sto} {k : RC} {o : OutS} (hb : k (ρT c l d none) S = o) : cSeq (cAsg (.tp [.nm 4, .nm 5, .nm 6, .nm 7]) (eVar 2)) k [some (.ref l), some d, some c.d, none, none, none, none, none] S = o :=
  (seq_of (ρ' := ρT c l d none) (S' := S) (by simp only [ev_var, ev_con, ev_bin, ev_un, ev_anil, ev_acons, ev_call, ev_tup, ev_lst, ev_not, ev_and, ev_or, ev_if, ev_cbl, ev_btrue, ev_cand, ev_cor, ev_cnot, ev_sli, ev_onone, ev_osome, ev_chain, ev_meth, ev_get2, ev_newK, ev_newT, ev_own, ev_nil, ev_seq, ev_expr, ev_set, ev_ret, ev_retN, ev_cif, ev_brk, ev_ct, ev_asg, ev_put, ev_aug, ev_for, ev_comp, ev_newL, ev_iseq, ev_irange, ev_ienum, ev_yes, Out.bind_ok, Out.bindN_ok, bindS_ok, Tg.set, Tg.sets, List.getElem?_cons_zero, List.getElem?_cons_succ, List.set_cons_zero, List.set_cons_succ, wipeE, List.length_cons, List.length_nil, Nat.reduceAdd, Nat.reduceLeDiff, Nat.reduceEqDiff, ↓reduceIte, Bool.false_eq_true, decide_eq_true_eq, add_int, sub_int, lt_int, gt_int, le_int, ge_int, neg_int, and_int, or_int, xor_int, max2_int, min2_int, mod_pos, fdiv_sm, mul_sm, mul_smr, Int.reduceLT, Int.reduceNeg, int_bl, int_int, sli_tup, Cs.d]; rfl)).trans hb
theorem nopeT {l : Nat} {w v : Str} {S : Sto} {a k : RC} {v3 : Option Dv} (hw : Sk w) (hv : Sk v) (n : w ≠ v) {o : OutS} (hb : k (ρT c l (.tup (.str w :: r)) v3) S = o) : cSeq (cIf (cBl (eBin eqD (eBin idxD (eVar 1) (eCon (.int 0))) (eCon (.str v)))) a (cNil)) k (ρT c l (.tup (.str w :: r)) v3) S = o :=
  (seq_of ((if_f (S' := S) (by simp only [ev_var, ev_con, ev_bin, ev_un, ev_anil, ev_acons, ev_call, ev_tup, ev_lst, ev_not, ev_and, ev_or, ev_if, ev_cbl, ev_btrue, ev_cand, ev_cor, ev_cnot, ev_sli, ev_onone, ev_osome, ev_chain, ev_meth, ev_get2, ev_newK, ev_newT, ev_own, ev_nil, ev_seq, ev_expr, ev_set, ev_ret, ev_retN, ev_cif, ev_brk, ev_ct, ev_asg, ev_put, ev_aug, ev_for, ev_comp, ev_newL, ev_iseq, ev_irange, ev_ienum, ev_yes, Out.bind_ok, Out.bindN_ok, bindS_ok, Tg.set, Tg.sets, List.getElem?_cons_zero, List.getElem?_cons_succ, List.set_cons_zero, List.set_cons_succ, wipeE, List.length_cons, List.length_nil, Nat.reduceAdd, Nat.reduceLeDiff, Nat.reduceEqDiff, ↓reduceIte, Bool.false_eq_true, decide_eq_true_eq, add_int, sub_int, lt_int, gt_int, le_int, ge_int, neg_int, and_int, or_int, xor_int, max2_int, min2_int, mod_pos, fdiv_sm, mul_sm, mul_smr, Int.reduceLT, Int.reduceNeg, int_bl, int_int, sli_tup, idx_t0, eqs hw hv, n, decide_false])).trans rfl)).trans hb
theorem yepT {l : Nat} {w : Str} {S : Sto} {a k : RC} {v3 : Option Dv} (hw : Sk w) {z : Dv} {S' : Sto} (ha : a (ρT c l (.tup (.str w :: r)) v3) S = .fl (.rt z) S') : cSeq (cIf (cBl (eBin eqD (eBin idxD (eVar 1) (eCon (.int 0))) (eCon (.str w)))) a (cNil)) k (ρT c l (.tup (.str w :: r)) v3) S = .fl (.rt z) S' :=
  seq_rt ((if_t (S' := S) (by simp only [ev_var, ev_con, ev_bin, ev_un, ev_anil, ev_acons, ev_call, ev_tup, ev_lst, ev_not, ev_and, ev_or, ev_if, ev_cbl, ev_btrue, ev_cand, ev_cor, ev_cnot, ev_sli, ev_onone, ev_osome, ev_chain, ev_meth, ev_get2, ev_newK, ev_newT, ev_own, ev_nil, ev_seq, ev_expr, ev_set, ev_ret, ev_retN, ev_cif, ev_brk, ev_ct, ev_asg, ev_put, ev_aug, ev_for, ev_comp, ev_newL, ev_iseq, ev_irange, ev_ienum, ev_yes, Out.bind_ok, Out.bindN_ok, bindS_ok, Tg.set, Tg.sets, List.getElem?_cons_zero, List.getElem?_cons_succ, List.set_cons_zero, List.set_cons_succ, wipeE, List.length_cons, List.length_nil, Nat.reduceAdd, Nat.reduceLeDiff, Nat.reduceEqDiff, ↓reduceIte, Bool.false_eq_true, decide_eq_true_eq, add_int, sub_int, lt_int, gt_int, le_int, ge_int, neg_int, and_int, or_int, xor_int, max2_int, min2_int, mod_pos, fdiv_sm, mul_sm, mul_smr, Int.reduceLT, Int.reduceNeg, int_bl, int_int, sli_tup, idx_t0, eqs hw hw, decide_true])).trans ha)
theorem LTr.up {h' : Nat} (k : LTr c h d b) (hh : h ≤ h') : LTr c h' d b := fun f l S hf => k f l S (by omega)
theorem ltr_any : LTr c 0 (.tup [.str "any"]) true := fun f l S hf hl => by
  obtain ⟨k, rfl⟩ : ∃ k, f = k + 1 := ⟨f - 1, by omega⟩
  refine ⟨S, ?_, .refl _⟩
  rw [F_l_truth]
  refine runF_rt (ρ := [some (.ref l), some (.tup [.str "any"]), some c.d, none, none, none, none, none]) rfl rfl ?_
  unfold c_l_truth
  refine truth_begin ?_
  exact yepT sk_any (ret_of rfl)
theorem ltr_mark : LTr c 0 (.tup [.str "mark"]) c.mkd := fun f l S hf hl => by
  obtain ⟨k, rfl⟩ : ∃ k, f = k + 1 := ⟨f - 1, by omega⟩
  refine ⟨S, ?_, .refl _⟩
  rw [F_l_truth]
  refine runF_rt (ρ := [some (.ref l), some (.tup [.str "mark"]), some c.d, none, none, none, none, none]) rfl rfl ?_
  unfold c_l_truth
  refine truth_begin ?_
  refine nopeT sk_mark sk_any (by decide) ?_
  refine nopeT sk_mark sk_kind (by decide) ?_
  exact yepT sk_mark (ret_of rfl)
theorem ltr_kind (ok : CsOk c) (hw : Sk w) : LTr c 0 (.tup [.str "kind", .str w]) (decide (w = c.x)) := fun f l S hf hl => by
  obtain ⟨k, rfl⟩ : ∃ k, f = k + 1 := ⟨f - 1, by omega⟩
  refine ⟨S, ?_, .refl _⟩
  rw [F_l_truth]
  refine runF_rt (ρ := [some (.ref l), some (.tup [.str "kind", .str w]), some c.d, none, none, none, none, none]) rfl rfl ?_
  unfold c_l_truth
  refine truth_begin ?_
  refine nopeT sk_kind sk_any (by decide) ?_
  have e : eqD (.str c.x) (.str w) S = .ok (.bl (decide (w = c.x))) S := by
    rw [eqs ok.x hw, show decide (c.x = w) = decide (w = c.x) from decide_eq_decide.mpr ⟨Eq.symm, Eq.symm⟩]
  exact yepT sk_kind (ret_of (by simp only [ev_var, ev_con, ev_bin, ev_un, ev_anil, ev_acons, ev_call, ev_tup, ev_lst, ev_not, ev_and, ev_or, ev_if, ev_cbl, ev_btrue, ev_cand, ev_cor, ev_cnot, ev_sli, ev_onone, ev_osome, ev_chain, ev_meth, ev_get2, ev_newK, ev_newT, ev_own, ev_nil, ev_seq, ev_expr, ev_set, ev_ret, ev_retN, ev_cif, ev_brk, ev_ct, ev_asg, ev_put, ev_aug, ev_for, ev_comp, ev_newL, ev_iseq, ev_irange, ev_ienum, ev_yes, Out.bind_ok, Out.bindN_ok, bindS_ok, Tg.set, Tg.sets, List.getElem?_cons_zero, List.getElem?_cons_succ, List.set_cons_zero, List.set_cons_succ, wipeE, List.length_cons, List.length_nil, Nat.reduceAdd, Nat.reduceLeDiff, Nat.reduceEqDiff, ↓reduceIte, Bool.false_eq_true, decide_eq_true_eq, add_int, sub_int, lt_int, gt_int, le_int, ge_int, neg_int, and_int, or_int, xor_int, max2_int, min2_int, mod_pos, fdiv_sm, mul_sm, mul_smr, Int.reduceLT, Int.reduceNeg, int_bl, int_int, sli_tup, idx_t1, e]))
theorem ltr_from (ok : CsOk c) {j : Nat} {q : Rw} (hj : c.D[j]? = some q) : LTr c 0 (.tup [.str "from", .int (j : Int)]) (bitB (if q.go = "later" then c.be else c.lo) j) := fun f l S hf hl => by
  obtain ⟨k, rfl⟩ : ∃ k, f = k + 1 := ⟨f - 1, by omega⟩
  have sg := ok.go _ (List.mem_of_getElem? hj)
  have jl := (List.getElem?_eq_some_iff.mp hj).1
  have okl := ok.len
  have g := gr_app S [Ob.lst [.int c.lo, .int c.be]]
  have a := at_new S (.lst [.int c.lo, .int c.be])
  generalize hS1 : S ++ [Ob.lst [.int c.lo, .int c.be]] = S1 at g a
  have i0 : idxD (.ref l) (.int (j : Int)) S1 = .ok q.d S1 := idx_ref (g.at hl) (atI_nat (by rw [List.getElem?_map, hj]; rfl))
  have i1 : idxD q.d (.int 0) S1 = .ok (.str q.go) S1 := idx_t0
  have ib : ∀ b : Bool, intD [.bl b] S1 = .ok (.int (if b = true then 1 else 0)) S1 := fun b => int_bl b
  have i2 : idxD (.ref S.length) (.int (if q.go = "later" then 1 else 0)) S1 = .ok (.int (if q.go = "later" then c.be else c.lo)) S1 := by
    by_cases z : q.go = "later"
    · rw [if_pos z, if_pos z]; exact idx_ref a rfl
    · rw [if_neg z, if_neg z]; exact idx_ref a rfl
  have sh : shlD (.int 1) (.int (j : Int)) S1 = .ok (.int (1 * 2 ^ j)) S1 := by
    have := shl01 (S := S1) (i := 1) (j := (j : Int)) (.inr rfl) (by omega) (by omega)
    rw [Int.toNat_natCast] at this; exact this
  have fd := fdiv_shl (S := S1) (i := if q.go = "later" then c.be else c.lo) (n := j) (by omega)
  refine ⟨S1, ?_, g⟩
  rw [F_l_truth]
  refine runF_rt (ρ := [some (.ref l), some (.tup [.str "from", .int (j : Int)]), some c.d, none, none, none, none, none]) rfl rfl ?_
  unfold c_l_truth
  refine truth_begin ?_
  refine nopeT sk_from sk_any (by decide) ?_
  refine nopeT sk_from sk_kind (by decide) ?_
  refine nopeT sk_from sk_mark (by decide) ?_
  exact yepT sk_from (ret_of (by simp only [ev_var, ev_con, ev_bin, ev_un, ev_anil, ev_acons, ev_call, ev_tup, ev_lst, ev_not, ev_and, ev_or, ev_if, ev_cbl, ev_btrue, ev_cand, ev_cor, ev_cnot, ev_sli, ev_onone, ev_osome, ev_chain, ev_meth, ev_get2, ev_newK, ev_newT, ev_own, ev_nil, ev_seq, ev_expr, ev_set, ev_ret, ev_retN, ev_cif, ev_brk, ev_ct, ev_asg, ev_put, ev_aug, ev_for, ev_comp, ev_newL, ev_iseq, ev_irange, ev_ienum, ev_yes, Out.bind_ok, Out.bindN_ok, bindS_ok, Tg.set, Tg.sets, List.getElem?_cons_zero, List.getElem?_cons_succ, List.set_cons_zero, List.set_cons_succ, wipeE, List.length_cons, List.length_nil, Nat.reduceAdd, Nat.reduceLeDiff, Nat.reduceEqDiff, ↓reduceIte, Bool.false_eq_true, decide_eq_true_eq, add_int, sub_int, lt_int, gt_int, le_int, ge_int, neg_int, and_int, or_int, xor_int, max2_int, min2_int, mod_pos, fdiv_sm, mul_sm, mul_smr, Int.reduceLT, Int.reduceNeg, int_bl, int_int, sli_tup, sline 2 (by omega), hS1, idx_t1, i0, i1, eqs sg sk_later, ib, i2, sh, fd, eq_int]; rfl))
theorem ltr_not (he : LTr c h d b) : LTr c (h + 1) (.tup [.str "not", d]) (!b) := fun f l S hf hl => by
  obtain ⟨k, rfl⟩ : ∃ k, f = k + 1 := ⟨f - 1, by omega⟩
  obtain ⟨S1, e1, g1⟩ := he k l S (by omega) hl
  refine ⟨S1, ?_, g1⟩
  rw [F_l_truth]
  refine runF_rt (ρ := [some (.ref l), some (.tup [.str "not", d]), some c.d, none, none, none, none, none]) rfl rfl ?_
  unfold c_l_truth
  refine truth_begin ?_
  refine nopeT sk_not sk_any (by decide) ?_
  refine nopeT sk_not sk_kind (by decide) ?_
  refine nopeT sk_not sk_mark (by decide) ?_
  refine nopeT sk_not sk_from (by decide) ?_
  exact yepT sk_not (ret_of (by simp only [ev_var, ev_con, ev_bin, ev_un, ev_anil, ev_acons, ev_call, ev_tup, ev_lst, ev_not, ev_and, ev_or, ev_if, ev_cbl, ev_btrue, ev_cand, ev_cor, ev_cnot, ev_sli, ev_onone, ev_osome, ev_chain, ev_meth, ev_get2, ev_newK, ev_newT, ev_own, ev_nil, ev_seq, ev_expr, ev_set, ev_ret, ev_retN, ev_cif, ev_brk, ev_ct, ev_asg, ev_put, ev_aug, ev_for, ev_comp, ev_newL, ev_iseq, ev_irange, ev_ienum, ev_yes, Out.bind_ok, Out.bindN_ok, bindS_ok, Tg.set, Tg.sets, List.getElem?_cons_zero, List.getElem?_cons_succ, List.set_cons_zero, List.set_cons_succ, wipeE, List.length_cons, List.length_nil, Nat.reduceAdd, Nat.reduceLeDiff, Nat.reduceEqDiff, ↓reduceIte, Bool.false_eq_true, decide_eq_true_eq, add_int, sub_int, lt_int, gt_int, le_int, ge_int, neg_int, and_int, or_int, xor_int, max2_int, min2_int, mod_pos, fdiv_sm, mul_sm, mul_smr, Int.reduceLT, Int.reduceNeg, int_bl, int_int, sli_tup, idx_t1, e1]))
theorem ltr_two (hw : w ∈ (["both", "either"] : List Str)) (h1 : LTr c h d b) (h2 : LTr c h e b') : LTr c (h + 1) (.tup [.str w, d, e]) (if w = "both" then b && b' else b || b') := fun f l S hf hl => by
  obtain ⟨k, rfl⟩ : ∃ k, f = k + 1 := ⟨f - 1, by omega⟩
  obtain ⟨S1, e1, g1⟩ := h1 k l S (by omega) hl
  obtain ⟨S2, e2, g2⟩ := h2 k l S1 (by omega) (g1.at hl)
  have g3 := gr_app S2 [Ob.lst [.bl b, .bl b']]
  have a3 := at_new S2 (.lst [.bl b, .bl b'])
  generalize hS3 : S2 ++ [Ob.lst [.bl b, .bl b']] = S3 at g3 a3
  have i0 : idxD (.ref S2.length) (.int 0) S3 = .ok (.bl b) S3 := idx_ref a3 rfl
  have i1 : idxD (.ref S2.length) (.int 1) S3 = .ok (.bl b') S3 := idx_ref a3 rfl
  have hw2 : Sk w ∧ w ≠ "any" ∧ w ≠ "kind" ∧ w ≠ "mark" ∧ w ≠ "from" ∧ w ≠ "not" := by
    simp only [List.mem_cons, List.not_mem_nil, or_false] at hw
    rcases hw with rfl | rfl <;> exact ⟨by decide +kernel, by decide, by decide, by decide, by decide, by decide⟩
  obtain ⟨kw, n1, n2, n3, n4, n5⟩ := hw2
  refine ⟨S3, ?_, (g1.trans g2).trans g3⟩
  rw [F_l_truth]
  refine runF_rt (ρ := [some (.ref l), some (.tup [.str w, d, e]), some c.d, none, none, none, none, none]) rfl rfl ?_
  unfold c_l_truth
  refine truth_begin ?_
  refine nopeT kw sk_any n1 ?_
  refine nopeT kw sk_kind n2 ?_
  refine nopeT kw sk_mark n3 ?_
  refine nopeT kw sk_from n4 ?_
  refine nopeT kw sk_not n5 ?_
  refine (seq_of (set_of (d := .ref S2.length) (S' := S3) (by simp only [ev_var, ev_con, ev_bin, ev_un, ev_anil, ev_acons, ev_call, ev_tup, ev_lst, ev_not, ev_and, ev_or, ev_if, ev_cbl, ev_btrue, ev_cand, ev_cor, ev_cnot, ev_sli, ev_onone, ev_osome, ev_chain, ev_meth, ev_get2, ev_newK, ev_newT, ev_own, ev_nil, ev_seq, ev_expr, ev_set, ev_ret, ev_retN, ev_cif, ev_brk, ev_ct, ev_asg, ev_put, ev_aug, ev_for, ev_comp, ev_newL, ev_iseq, ev_irange, ev_ienum, ev_yes, Out.bind_ok, Out.bindN_ok, bindS_ok, Tg.set, Tg.sets, List.getElem?_cons_zero, List.getElem?_cons_succ, List.set_cons_zero, List.set_cons_succ, wipeE, List.length_cons, List.length_nil, Nat.reduceAdd, Nat.reduceLeDiff, Nat.reduceEqDiff, ↓reduceIte, Bool.false_eq_true, decide_eq_true_eq, add_int, sub_int, lt_int, gt_int, le_int, ge_int, neg_int, and_int, or_int, xor_int, max2_int, min2_int, mod_pos, fdiv_sm, mul_sm, mul_smr, Int.reduceLT, Int.reduceNeg, int_bl, int_int, sli_tup, idx_t1, idx_t2, e1, e2, sline 2 (by omega), hS3]))).trans ?_
  by_cases q : w = "both"
  · subst q
    rw [if_pos rfl]
    refine yepT kw (ret_of ?_)
    cases b
    · simp only [ev_var, ev_con, ev_bin, ev_un, ev_anil, ev_acons, ev_call, ev_tup, ev_lst, ev_not, ev_and, ev_or, ev_if, ev_cbl, ev_btrue, ev_cand, ev_cor, ev_cnot, ev_sli, ev_onone, ev_osome, ev_chain, ev_meth, ev_get2, ev_newK, ev_newT, ev_own, ev_nil, ev_seq, ev_expr, ev_set, ev_ret, ev_retN, ev_cif, ev_brk, ev_ct, ev_asg, ev_put, ev_aug, ev_for, ev_comp, ev_newL, ev_iseq, ev_irange, ev_ienum, ev_yes, Out.bind_ok, Out.bindN_ok, bindS_ok, Tg.set, Tg.sets, List.getElem?_cons_zero, List.getElem?_cons_succ, List.set_cons_zero, List.set_cons_succ, wipeE, List.length_cons, List.length_nil, Nat.reduceAdd, Nat.reduceLeDiff, Nat.reduceEqDiff, ↓reduceIte, Bool.false_eq_true, decide_eq_true_eq, add_int, sub_int, lt_int, gt_int, le_int, ge_int, neg_int, and_int, or_int, xor_int, max2_int, min2_int, mod_pos, fdiv_sm, mul_sm, mul_smr, Int.reduceLT, Int.reduceNeg, int_bl, int_int, sli_tup, i0, Bool.false_and]
    · simp only [ev_var, ev_con, ev_bin, ev_un, ev_anil, ev_acons, ev_call, ev_tup, ev_lst, ev_not, ev_and, ev_or, ev_if, ev_cbl, ev_btrue, ev_cand, ev_cor, ev_cnot, ev_sli, ev_onone, ev_osome, ev_chain, ev_meth, ev_get2, ev_newK, ev_newT, ev_own, ev_nil, ev_seq, ev_expr, ev_set, ev_ret, ev_retN, ev_cif, ev_brk, ev_ct, ev_asg, ev_put, ev_aug, ev_for, ev_comp, ev_newL, ev_iseq, ev_irange, ev_ienum, ev_yes, Out.bind_ok, Out.bindN_ok, bindS_ok, Tg.set, Tg.sets, List.getElem?_cons_zero, List.getElem?_cons_succ, List.set_cons_zero, List.set_cons_succ, wipeE, List.length_cons, List.length_nil, Nat.reduceAdd, Nat.reduceLeDiff, Nat.reduceEqDiff, ↓reduceIte, Bool.false_eq_true, decide_eq_true_eq, add_int, sub_int, lt_int, gt_int, le_int, ge_int, neg_int, and_int, or_int, xor_int, max2_int, min2_int, mod_pos, fdiv_sm, mul_sm, mul_smr, Int.reduceLT, Int.reduceNeg, int_bl, int_int, sli_tup, i0, i1, Bool.true_and]
  · rw [if_neg q]
    refine nopeT kw sk_both q (ret_of ?_)
    cases b
    · simp only [ev_orV, ev_var, ev_con, ev_bin, ev_un, ev_anil, ev_acons, ev_call, ev_tup, ev_lst, ev_not, ev_and, ev_or, ev_if, ev_cbl, ev_btrue, ev_cand, ev_cor, ev_cnot, ev_sli, ev_onone, ev_osome, ev_chain, ev_meth, ev_get2, ev_newK, ev_newT, ev_own, ev_nil, ev_seq, ev_expr, ev_set, ev_ret, ev_retN, ev_cif, ev_brk, ev_ct, ev_asg, ev_put, ev_aug, ev_for, ev_comp, ev_newL, ev_iseq, ev_irange, ev_ienum, ev_yes, Out.bind_ok, Out.bindN_ok, bindS_ok, Tg.set, Tg.sets, List.getElem?_cons_zero, List.getElem?_cons_succ, List.set_cons_zero, List.set_cons_succ, wipeE, List.length_cons, List.length_nil, Nat.reduceAdd, Nat.reduceLeDiff, Nat.reduceEqDiff, ↓reduceIte, Bool.false_eq_true, decide_eq_true_eq, add_int, sub_int, lt_int, gt_int, le_int, ge_int, neg_int, and_int, or_int, xor_int, max2_int, min2_int, mod_pos, fdiv_sm, mul_sm, mul_smr, Int.reduceLT, Int.reduceNeg, int_bl, int_int, sli_tup, i0, truD, i1, Bool.false_or]
    · simp only [ev_orV, ev_var, ev_con, ev_bin, ev_un, ev_anil, ev_acons, ev_call, ev_tup, ev_lst, ev_not, ev_and, ev_or, ev_if, ev_cbl, ev_btrue, ev_cand, ev_cor, ev_cnot, ev_sli, ev_onone, ev_osome, ev_chain, ev_meth, ev_get2, ev_newK, ev_newT, ev_own, ev_nil, ev_seq, ev_expr, ev_set, ev_ret, ev_retN, ev_cif, ev_brk, ev_ct, ev_asg, ev_put, ev_aug, ev_for, ev_comp, ev_newL, ev_iseq, ev_irange, ev_ienum, ev_yes, Out.bind_ok, Out.bindN_ok, bindS_ok, Tg.set, Tg.sets, List.getElem?_cons_zero, List.getElem?_cons_succ, List.set_cons_zero, List.set_cons_succ, wipeE, List.length_cons, List.length_nil, Nat.reduceAdd, Nat.reduceLeDiff, Nat.reduceEqDiff, ↓reduceIte, Bool.false_eq_true, decide_eq_true_eq, add_int, sub_int, lt_int, gt_int, le_int, ge_int, neg_int, and_int, or_int, xor_int, max2_int, min2_int, mod_pos, fdiv_sm, mul_sm, mul_smr, Int.reduceLT, Int.reduceNeg, int_bl, int_int, sli_tup, i0, truD, Bool.true_or]
theorem says_truth (ok : CsOk c) : ∀ (h : Nat) (d : Dv), TLk c.D.length h d → ∃ b, Says c h d b ∧ LTr c h d b
  | 0, d, .inl (.inl e) => by subst e; exact ⟨true, says_any, ltr_any⟩
  | 0, d, .inl (.inr (.inl e)) => by subst e; exact ⟨_, says_mark, ltr_mark⟩
  | 0, d, .inl (.inr (.inr ⟨x, hx, e⟩)) => by subst e; exact ⟨_, says_kind ok hx, ltr_kind ok hx⟩
  | 0, d, .inr ⟨i, hi, e⟩ => by
    subst e
    have hj : c.D[i]? = some c.D[i] := List.getElem?_eq_getElem hi
    exact ⟨_, says_from ok hj, ltr_from ok hj⟩
  | h + 1, d, .inl k => by
    obtain ⟨b, h1, h2⟩ := says_truth ok h d k
    exact ⟨b, h1.up (by omega), h2.up (by omega)⟩
  | h + 1, d, .inr (.inl ⟨e, q, k⟩) => by
    subst q
    obtain ⟨b, h1, h2⟩ := says_truth ok h e k
    exact ⟨!b, says_not h1, ltr_not h2⟩
  | h + 1, d, .inr (.inr ⟨w, e, f, hw, q, k1, k2⟩) => by
    subst q
    obtain ⟨b, h1, h2⟩ := says_truth ok h e k1
    obtain ⟨b', h3, h4⟩ := says_truth ok h f k2
    refine ⟨_, ?_, ltr_two hw h2 h4⟩
    simp only [List.mem_cons, List.not_mem_nil, or_false] at hw
    rcases hw with rfl | rfl
    · exact says_both h1 h3
    · exact says_either h1 h3
end
/-! masks out of bits -/
def mkB : List Bool → Int
  | [] => 0
  | b :: r => (if b = true then 1 else 0) + 2 * mkB r
theorem mkB_rng : ∀ bs : List Bool, 0 ≤ mkB bs ∧ mkB bs < 2 ^ bs.length
  | [] => ⟨Int.le_refl _, by decide⟩
  | b :: r => by
    have ih := mkB_rng r
    rw [mkB, List.length_cons, Int.pow_succ]
    by_cases q : b = true
    · rw [if_pos q]; omega
    · rw [if_neg q]; omega
theorem mkB_snoc : ∀ (bs : List Bool) (b : Bool), mkB (bs ++ [b]) = mkB bs + (if b = true then 1 else 0) * 2 ^ bs.length
  | [], b => by simp only [List.nil_append, mkB, List.length_nil, Int.pow_zero]; omega
  | a :: r, b => by
    rw [List.cons_append, mkB, mkB, mkB_snoc r b, List.length_cons, Int.pow_succ, Int.mul_add, Int.add_assoc]
    congr 2
    rw [Int.mul_comm (2 ^ r.length) 2, ← Int.mul_assoc, ← Int.mul_assoc, Int.mul_comm 2]
theorem or_bit {bs : List Bool} {S : Sto} : orD (.int (mkB bs)) (.int (1 * 2 ^ bs.length)) S = .ok (.int (mkB (bs ++ [true]))) S := by
  have r := mkB_rng bs
  rw [or_int, Bits.bitOr_join r.1 r.2 (by omega), mkB_snoc]; rfl
structure HitB (c : Cs) (j : Nat) (b : Bool) : Prop where
  ex : ∃ (r : Rw) (b0 rb : Bool), c.D[j]? = some r ∧ Says c 12 r.look b0 ∧ LTr c 12 r.look b0 ∧ (r.rest = none → rb = true) ∧ (∀ i, r.rest = some i → Says c 0 (.tup [.str "from", .int (i : Int)]) rb ∧ LTr c 0 (.tup [.str "from", .int (i : Int)]) rb) ∧ b = ((b0 && rb) || (decide (r.go = "deep") && bitB c.lo j))
theorem pick : ∀ {P : Nat → Bool → Prop} (n : Nat), (∀ j, j < n → ∃ b, P j b) → ∃ bs : List Bool, bs.length = n ∧ ∀ (j : Nat) (b : Bool), bs[j]? = some b → P j b
  | P, 0, _ => ⟨[], rfl, fun j b h => by simp at h⟩
  | P, n + 1, h => by
    obtain ⟨bs, hl, hb⟩ := pick (P := P) n fun j hj => h j (by omega)
    obtain ⟨b, pb⟩ := h n (by omega)
    refine ⟨bs ++ [b], by simp [hl], fun j b' hj => ?_⟩
    rcases Nat.lt_or_ge j bs.length with z | z
    · rw [List.getElem?_append_left z] at hj; exact hb j b' hj
    · rw [List.getElem?_append_right z] at hj
      have h0 : j - bs.length = 0 := by have := (List.getElem?_eq_some_iff.mp hj).1; simp at this; omega
      rw [h0] at hj; simp at hj; subst hj
      have : j = n := by omega
      subst this; exact pb
theorem hits {c : Cs} (ok : CsOk c) (hk : ∀ r ∈ c.D, RwOk c.D.length r) : ∃ bs : List Bool, bs.length = c.D.length ∧ ∀ (j : Nat) (b : Bool), bs[j]? = some b → HitB c j b := by
  refine pick _ fun j hj => ?_
  have e : c.D[j]? = some c.D[j] := List.getElem?_eq_getElem hj
  have kr := hk _ (List.mem_of_getElem? e)
  obtain ⟨b0, h1, h2⟩ := says_truth ok 12 _ kr.look
  cases q : (c.D[j]).rest with
  | none => exact ⟨_, ⟨_, b0, true, e, h1, h2, fun _ => rfl, (fun i hi => by rw [q] at hi; cases hi), rfl⟩⟩
  | some i =>
    have hi := kr.rest i q
    have e2 : c.D[i]? = some c.D[i] := List.getElem?_eq_getElem hi
    exact ⟨_, ⟨_, b0, bitB (if (c.D[i]).go = "later" then c.be else c.lo) i, e, h1, h2, (fun z => by rw [q] at z; cases z), (fun i' hi' => by rw [q] at hi'; injection hi' with hi'; subst hi'; exact ⟨says_from ok e2, ltr_from ok e2⟩), rfl⟩⟩
theorem sk_deep : Sk "deep" := by decide +kernel
theorem mask_run {c : Cs} {f : Nat} {bs : List Bool} {S : Sto} (ok : CsOk c) (hf : 15 ≤ f) (hb : bs.length = c.D.length) (hs : ∀ (j : Nat) (b : Bool), bs[j]? = some b → HitB c j b) : F (f + 1) .mask_of [.tup (c.D.map Rw.d), .str c.x, .bl c.mkd, .int c.lo, .int c.be] S = .ok (.int (mkB bs)) S := by
  rw [F_mask_of]
  have okl := ok.len
  obtain ⟨ρ', S', e, v6, v7, v8, v9, v10, v11, rfl, hS⟩ := loop_all (ck := Ck.tt.ok) (t := .tp [.nm 6, .nm 7]) (b := b_mask_of_1 (F f)) (S := S) (ρ := [some (.tup (c.D.map Rw.d)), some (.str c.x), some (.bl c.mkd), some (.int c.lo), some (.int c.be), some (.int 0), none, none, none, none, none, none])
    (fun i ρ S' => ∃ v6 v7 v8 v9 v10 v11, ρ = [some (.tup (c.D.map Rw.d)), some (.str c.x), some (.bl c.mkd), some (.int c.lo), some (.int c.be), some (.int (mkB (bs.take i))), v6, v7, v8, v9, v10, v11] ∧ S' = S) (enumL (c.D.map Rw.d)) ⟨none, none, none, none, none, none, rfl, rfl⟩
    (fun i v ρ S' hv ⟨v6, v7, v8, v9, v10, v11, hρ, hS⟩ => by
      subst hρ
      subst hS
      rw [enumL_get, List.getElem?_map, Option.map_map, Option.map_eq_some_iff] at hv
      obtain ⟨r, hr0, rfl⟩ := hv
      have hi := (List.getElem?_eq_some_iff.mp hr0).1
      have hbi : bs[i]? = some bs[i] := List.getElem?_eq_getElem (by omega)
      obtain ⟨r', b0, rb, h1, h2, _, h3, h4, h5⟩ := (hs i _ hbi).ex
      rw [hr0] at h1
      injection h1 with h1
      subst h1
      have tk : bs.take (i + 1) = bs.take i ++ [bs[i]] := by rw [List.take_add_one, hbi]; rfl
      have tl : (bs.take i).length = i := by rw [List.length_take]; omega
      have sy := h2 f S' (by omega)
      have sg := ok.go r (List.mem_of_getElem? hr0)
      rw [Nat.zero_add]
      have key1 : (cIf (cAnd (cBl (eVar 8)) (cBl (eBin isNotD (eVar 11) (eCon .non)))) (cSet 8 (eOwn 6 (F f .says) (aCons (eVar 0) (aCons (eTup (aCons (eCon (.str "from")) (aCons (eVar 11) (aNil)))) (aCons (eVar 1) (aCons (eVar 2) (aCons (eVar 3) (aCons (eVar 4) (aNil))))))))) (cNil)) [some (.tup (c.D.map Rw.d)), some (.str c.x), some (.bl c.mkd), some (.int c.lo), some (.int c.be), some (.int (mkB (bs.take i))), some (.int (i : Int)), some r.d, some (.bl b0), some (.str r.go), some r.look, some r.r] S' = .fl (.nx [some (.tup (c.D.map Rw.d)), some (.str c.x), some (.bl c.mkd), some (.int c.lo), some (.int c.be), some (.int (mkB (bs.take i))), some (.int (i : Int)), some r.d, some (.bl (b0 && rb)), some (.str r.go), some r.look, some r.r]) S' := by
        cases b0
        · rw [Bool.false_and]; exact (if_f (S' := S') (by simp only [ev_var, ev_con, ev_bin, ev_un, ev_anil, ev_acons, ev_call, ev_tup, ev_lst, ev_not, ev_and, ev_or, ev_if, ev_cbl, ev_btrue, ev_cand, ev_cor, ev_cnot, ev_sli, ev_onone, ev_osome, ev_chain, ev_meth, ev_get2, ev_newK, ev_newT, ev_own, ev_nil, ev_seq, ev_expr, ev_set, ev_ret, ev_retN, ev_cif, ev_brk, ev_ct, ev_asg, ev_put, ev_aug, ev_for, ev_comp, ev_newL, ev_iseq, ev_irange, ev_ienum, ev_yes, Out.bind_ok, Out.bindN_ok, bindS_ok, Tg.set, Tg.sets, List.getElem?_cons_zero, List.getElem?_cons_succ, List.set_cons_zero, List.set_cons_succ, wipeE, List.length_cons, List.length_nil, Nat.reduceAdd, Nat.reduceLeDiff, Nat.reduceEqDiff, ↓reduceIte, Bool.false_eq_true, decide_eq_true_eq, add_int, sub_int, lt_int, gt_int, le_int, ge_int, neg_int, and_int, or_int, xor_int, max2_int, min2_int, mod_pos, fdiv_sm, mul_sm, mul_smr, Int.reduceLT, Int.reduceNeg, int_bl, int_int, sli_tup])).trans rfl
        · rw [Bool.true_and]
          cases q : r.rest with
          | none =>
            have e1 : r.r = .non := by unfold Rw.r; rw [q]
            rw [e1, h3 q]
            exact (if_f (S' := S') (by simp only [ev_var, ev_con, ev_bin, ev_un, ev_anil, ev_acons, ev_call, ev_tup, ev_lst, ev_not, ev_and, ev_or, ev_if, ev_cbl, ev_btrue, ev_cand, ev_cor, ev_cnot, ev_sli, ev_onone, ev_osome, ev_chain, ev_meth, ev_get2, ev_newK, ev_newT, ev_own, ev_nil, ev_seq, ev_expr, ev_set, ev_ret, ev_retN, ev_cif, ev_brk, ev_ct, ev_asg, ev_put, ev_aug, ev_for, ev_comp, ev_newL, ev_iseq, ev_irange, ev_ienum, ev_yes, Out.bind_ok, Out.bindN_ok, bindS_ok, Tg.set, Tg.sets, List.getElem?_cons_zero, List.getElem?_cons_succ, List.set_cons_zero, List.set_cons_succ, wipeE, List.length_cons, List.length_nil, Nat.reduceAdd, Nat.reduceLeDiff, Nat.reduceEqDiff, ↓reduceIte, Bool.false_eq_true, decide_eq_true_eq, add_int, sub_int, lt_int, gt_int, le_int, ge_int, neg_int, and_int, or_int, xor_int, max2_int, min2_int, mod_pos, fdiv_sm, mul_sm, mul_smr, Int.reduceLT, Int.reduceNeg, int_bl, int_int, sli_tup, isNotD, isN, Bool.not_true])).trans rfl
          | some k =>
            have e1 : r.r = .int (k : Int) := by unfold Rw.r; rw [q]
            rw [e1]
            exact (if_t (S' := S') (by simp only [ev_var, ev_con, ev_bin, ev_un, ev_anil, ev_acons, ev_call, ev_tup, ev_lst, ev_not, ev_and, ev_or, ev_if, ev_cbl, ev_btrue, ev_cand, ev_cor, ev_cnot, ev_sli, ev_onone, ev_osome, ev_chain, ev_meth, ev_get2, ev_newK, ev_newT, ev_own, ev_nil, ev_seq, ev_expr, ev_set, ev_ret, ev_retN, ev_cif, ev_brk, ev_ct, ev_asg, ev_put, ev_aug, ev_for, ev_comp, ev_newL, ev_iseq, ev_irange, ev_ienum, ev_yes, Out.bind_ok, Out.bindN_ok, bindS_ok, Tg.set, Tg.sets, List.getElem?_cons_zero, List.getElem?_cons_succ, List.set_cons_zero, List.set_cons_succ, wipeE, List.length_cons, List.length_nil, Nat.reduceAdd, Nat.reduceLeDiff, Nat.reduceEqDiff, ↓reduceIte, Bool.false_eq_true, decide_eq_true_eq, add_int, sub_int, lt_int, gt_int, le_int, ge_int, neg_int, and_int, or_int, xor_int, max2_int, min2_int, mod_pos, fdiv_sm, mul_sm, mul_smr, Int.reduceLT, Int.reduceNeg, int_bl, int_int, sli_tup, isNotD, isN, Bool.not_false])).trans (set_of (by simp only [ev_var, ev_con, ev_bin, ev_un, ev_anil, ev_acons, ev_call, ev_tup, ev_lst, ev_not, ev_and, ev_or, ev_if, ev_cbl, ev_btrue, ev_cand, ev_cor, ev_cnot, ev_sli, ev_onone, ev_osome, ev_chain, ev_meth, ev_get2, ev_newK, ev_newT, ev_own, ev_nil, ev_seq, ev_expr, ev_set, ev_ret, ev_retN, ev_cif, ev_brk, ev_ct, ev_asg, ev_put, ev_aug, ev_for, ev_comp, ev_newL, ev_iseq, ev_irange, ev_ienum, ev_yes, Out.bind_ok, Out.bindN_ok, bindS_ok, Tg.set, Tg.sets, List.getElem?_cons_zero, List.getElem?_cons_succ, List.set_cons_zero, List.set_cons_succ, wipeE, List.length_cons, List.length_nil, Nat.reduceAdd, Nat.reduceLeDiff, Nat.reduceEqDiff, ↓reduceIte, Bool.false_eq_true, decide_eq_true_eq, add_int, sub_int, lt_int, gt_int, le_int, ge_int, neg_int, and_int, or_int, xor_int, max2_int, min2_int, mod_pos, fdiv_sm, mul_sm, mul_smr, Int.reduceLT, Int.reduceNeg, int_bl, int_int, sli_tup, sline 2 (by omega), (h4 k q).1 f S' (by omega)]))
      have bt : F f .has_bit [.int c.lo, .int (i : Int)] S' = .ok (.bl (bitB c.lo i)) S' := by
        obtain ⟨k, rfl⟩ : ∃ k, f = k + 1 := ⟨f - 1, by omega⟩
        exact bit_run
      have el := eqs (S := S') sg sk_deep
      generalize decide (r.go = "deep") = dp at el h5
      have tst : (cOr (cBl (eVar 8)) (cAnd (cBl (eBin eqD (eVar 9) (eCon (.str "deep")))) (cBl (eOwn 2 (F f .has_bit) (aCons (eVar 3) (aCons (eVar 6) (aNil))))))) [some (.tup (c.D.map Rw.d)), some (.str c.x), some (.bl c.mkd), some (.int c.lo), some (.int c.be), some (.int (mkB (bs.take i))), some (.int (i : Int)), some r.d, some (.bl (b0 && rb)), some (.str r.go), some r.look, some r.r] S' = .ok bs[i] S' := by
        rw [h5]
        generalize (b0 && rb) = hh
        cases hh <;> cases dp <;> simp only [ev_var, ev_con, ev_bin, ev_un, ev_anil, ev_acons, ev_call, ev_tup, ev_lst, ev_not, ev_and, ev_or, ev_if, ev_cbl, ev_btrue, ev_cand, ev_cor, ev_cnot, ev_sli, ev_onone, ev_osome, ev_chain, ev_meth, ev_get2, ev_newK, ev_newT, ev_own, ev_nil, ev_seq, ev_expr, ev_set, ev_ret, ev_retN, ev_cif, ev_brk, ev_ct, ev_asg, ev_put, ev_aug, ev_for, ev_comp, ev_newL, ev_iseq, ev_irange, ev_ienum, ev_yes, Out.bind_ok, Out.bindN_ok, bindS_ok, Tg.set, Tg.sets, List.getElem?_cons_zero, List.getElem?_cons_succ, List.set_cons_zero, List.set_cons_succ, wipeE, List.length_cons, List.length_nil, Nat.reduceAdd, Nat.reduceLeDiff, Nat.reduceEqDiff, ↓reduceIte, Bool.false_eq_true, decide_eq_true_eq, add_int, sub_int, lt_int, gt_int, le_int, ge_int, neg_int, and_int, or_int, xor_int, max2_int, min2_int, mod_pos, fdiv_sm, mul_sm, mul_smr, Int.reduceLT, Int.reduceNeg, int_bl, int_int, sli_tup, el, bt, Bool.false_or, Bool.true_and, Bool.false_and, Bool.true_or]
      refine ⟨trivial, _, rfl, [some (.tup (c.D.map Rw.d)), some (.str c.x), some (.bl c.mkd), some (.int c.lo), some (.int c.be), some (.int (mkB (bs.take (i + 1)))), some (.int (i : Int)), some r.d, some (.bl (b0 && rb)), some (.str r.go), some r.look, some r.r], S', .inl ?_, _, _, _, _, _, _, rfl, rfl⟩
      unfold b_mask_of_1
      refine (seq_of (ρ' := [some (.tup (c.D.map Rw.d)), some (.str c.x), some (.bl c.mkd), some (.int c.lo), some (.int c.be), some (.int (mkB (bs.take i))), some (.int (i : Int)), some r.d, v8, some (.str r.go), some r.look, some r.r]) (S' := S') (by simp only [ev_var, ev_con, ev_bin, ev_un, ev_anil, ev_acons, ev_call, ev_tup, ev_lst, ev_not, ev_and, ev_or, ev_if, ev_cbl, ev_btrue, ev_cand, ev_cor, ev_cnot, ev_sli, ev_onone, ev_osome, ev_chain, ev_meth, ev_get2, ev_newK, ev_newT, ev_own, ev_nil, ev_seq, ev_expr, ev_set, ev_ret, ev_retN, ev_cif, ev_brk, ev_ct, ev_asg, ev_put, ev_aug, ev_for, ev_comp, ev_newL, ev_iseq, ev_irange, ev_ienum, ev_yes, Out.bind_ok, Out.bindN_ok, bindS_ok, Tg.set, Tg.sets, List.getElem?_cons_zero, List.getElem?_cons_succ, List.set_cons_zero, List.set_cons_succ, wipeE, List.length_cons, List.length_nil, Nat.reduceAdd, Nat.reduceLeDiff, Nat.reduceEqDiff, ↓reduceIte, Bool.false_eq_true, decide_eq_true_eq, add_int, sub_int, lt_int, gt_int, le_int, ge_int, neg_int, and_int, or_int, xor_int, max2_int, min2_int, mod_pos, fdiv_sm, mul_sm, mul_smr, Int.reduceLT, Int.reduceNeg, int_bl, int_int, sli_tup, Rw.d]; rfl)).trans ?_
      refine (seq_of (set_of (d := .bl b0) (S' := S') (by simp only [ev_var, ev_con, ev_bin, ev_un, ev_anil, ev_acons, ev_call, ev_tup, ev_lst, ev_not, ev_and, ev_or, ev_if, ev_cbl, ev_btrue, ev_cand, ev_cor, ev_cnot, ev_sli, ev_onone, ev_osome, ev_chain, ev_meth, ev_get2, ev_newK, ev_newT, ev_own, ev_nil, ev_seq, ev_expr, ev_set, ev_ret, ev_retN, ev_cif, ev_brk, ev_ct, ev_asg, ev_put, ev_aug, ev_for, ev_comp, ev_newL, ev_iseq, ev_irange, ev_ienum, ev_yes, Out.bind_ok, Out.bindN_ok, bindS_ok, Tg.set, Tg.sets, List.getElem?_cons_zero, List.getElem?_cons_succ, List.set_cons_zero, List.set_cons_succ, wipeE, List.length_cons, List.length_nil, Nat.reduceAdd, Nat.reduceLeDiff, Nat.reduceEqDiff, ↓reduceIte, Bool.false_eq_true, decide_eq_true_eq, add_int, sub_int, lt_int, gt_int, le_int, ge_int, neg_int, and_int, or_int, xor_int, max2_int, min2_int, mod_pos, fdiv_sm, mul_sm, mul_smr, Int.reduceLT, Int.reduceNeg, int_bl, int_int, sli_tup, sy]))).trans ?_
      refine (seq_of key1).trans ?_
      rw [tk]
      generalize bs[i] = bi at tst
      cases bi
      · refine (if_f tst).trans ?_
        rw [mkB_snoc, if_neg (by decide), Int.zero_mul, Int.add_zero]; rfl
      · have ob := or_bit (bs := bs.take i) (S := S')
        rw [tl] at ob
        have sh : shlD (.int 1) (.int (i : Int)) S' = .ok (.int (1 * 2 ^ i)) S' := by
          have := shl01 (S := S') (i := 1) (j := (i : Int)) (.inr rfl) (by omega) (by omega)
          rw [Int.toNat_natCast] at this; exact this
        exact (if_t tst).trans (set_of (by simp only [ev_bin, ev_var, ev_con, List.getElem?_cons_zero, List.getElem?_cons_succ, Out.bind_ok, sh, ob])))
    (fun _ _ _ => trivial)
  subst hS
  refine runF_rt (ρ := [some (.tup (c.D.map Rw.d)), some (.str c.x), some (.bl c.mkd), some (.int c.lo), some (.int c.be), none, none, none, none, none, none, none]) rfl rfl ?_
  unfold c_mask_of
  refine (seq_of (set_of (d := .int 0) (S' := S') rfl)).trans ?_
  have ez : (PL.iEnumA (aCons (eVar 0) (aNil))) [some (.tup (c.D.map Rw.d)), some (.str c.x), some (.bl c.mkd), some (.int c.lo), some (.int c.be), some (.int 0), none, none, none, none, none, none] S' = .ok (enumL (c.D.map Rw.d), .tt) S' := by
    simp only [PL.iEnumA, ev_var, ev_con, ev_bin, ev_un, ev_anil, ev_acons, ev_call, ev_tup, ev_lst, ev_not, ev_and, ev_or, ev_if, ev_cbl, ev_btrue, ev_cand, ev_cor, ev_cnot, ev_sli, ev_onone, ev_osome, ev_chain, ev_meth, ev_get2, ev_newK, ev_newT, ev_own, ev_nil, ev_seq, ev_expr, ev_set, ev_ret, ev_retN, ev_cif, ev_brk, ev_ct, ev_asg, ev_put, ev_aug, ev_for, ev_comp, ev_newL, ev_iseq, ev_irange, ev_ienum, ev_yes, Out.bind_ok, Out.bindN_ok, bindS_ok, Tg.set, Tg.sets, List.getElem?_cons_zero, List.getElem?_cons_succ, List.set_cons_zero, List.set_cons_succ, wipeE, List.length_cons, List.length_nil, Nat.reduceAdd, Nat.reduceLeDiff, Nat.reduceEqDiff, ↓reduceIte, Bool.false_eq_true, decide_eq_true_eq, add_int, sub_int, lt_int, gt_int, le_int, ge_int, neg_int, and_int, or_int, xor_int, max2_int, min2_int, mod_pos, fdiv_sm, mul_sm, mul_smr, Int.reduceLT, Int.reduceNeg, int_bl, int_int, sli_tup, seqOf, tupOf]; rfl
  rw [enumL_len, List.length_map, List.take_of_length_le (by omega)] at e
  exact (seq_of ((for_of ez).trans e)).trans (ret_of rfl)
theorem downN_get {n i : Nat} {v : Dv} (h : (downL ((n : Int) - 1) (-1))[i]? = some v) : i < n ∧ v = .int ((n - 1 - i : Nat) : Int) := by
  have hl : (downL ((n : Int) - 1) (-1)).length = n := by simp [downL]
  have hi : i < n := by
    have := (List.getElem?_eq_some_iff.mp h).1
    omega
  refine ⟨hi, ?_⟩
  simp only [downL, List.getElem?_map, List.getElem?_range (show i < ((n : Int) - 1 - (-1)).toNat by omega), Option.map_some, Option.some.injEq] at h
  rw [← h]
  congr 1
  omega
theorem due_run {c : Cs} {f l : Nat} {bs : List Bool} {S : Sto} (ok : CsOk c) (hf : 15 ≤ f) (hb : bs.length = c.D.length) (hs : ∀ (j : Nat) (b : Bool), bs[j]? = some b → HitB c j b) (hl : S[l]? = some (.lst (c.D.map Rw.d))) : ∃ S', F (f + 1) .l_due [.ref l, c.d] S = .ok (.int (mkB bs)) S' ∧ Gr S S' := by
  rw [F_l_due]
  have okl := ok.len
  have ln : (downL ((c.D.length : Int) - 1) (-1)).length = c.D.length := by simp [downL]
  obtain ⟨ρ', S', e, v3, v4, v5, v6, v7, rfl, g'⟩ := loop_all (ck := Ck.tt.ok) (t := .nm 3) (b := b_l_due_1 (F f)) (S := S) (ρ := [some (.ref l), some c.d, some (.int 0), none, none, none, none, none])
    (fun i ρ S' => ∃ v3 v4 v5 v6 v7, ρ = [some (.ref l), some c.d, some (.int (mkB (bs.drop (c.D.length - i)))), v3, v4, v5, v6, v7] ∧ Gr S S') (downL ((c.D.length : Int) - 1) (-1)) ⟨none, none, none, none, none, by rw [Nat.sub_zero, List.drop_eq_nil_of_le (by omega)]; rfl, .refl _⟩
    (fun i v ρ S' hv ⟨v3, v4, v5, v6, v7, hρ, g'⟩ => by
      subst hρ
      obtain ⟨hi, rfl⟩ := downN_get hv
      obtain ⟨j, hj⟩ : ∃ j, j = c.D.length - 1 - i := ⟨_, rfl⟩
      rw [← hj]
      have hjl : j < bs.length := by omega
      have hbi : bs[j]? = some bs[j] := List.getElem?_eq_getElem hjl
      obtain ⟨r, b0, rb, h1, _, h2, h3, h4, h5⟩ := (hs j _ hbi).ex
      have d1 : bs.drop (c.D.length - (i + 1)) = bs[j] :: bs.drop (c.D.length - i) := by
        rw [show c.D.length - (i + 1) = j by omega, List.drop_eq_getElem_cons hjl, show j + 1 = c.D.length - i by omega]
      have sg := ok.go r (List.mem_of_getElem? h1)
      have l' := g'.at hl
      have ir : idxD (.ref l) (.int (j : Int)) S' = .ok r.d S' := idx_ref l' (atI_nat (by rw [List.getElem?_map, h1]; rfl))
      obtain ⟨S1, e1, g1⟩ := h2 f l S' (by omega) l'
      generalize hm : mkB (bs.drop (c.D.length - i)) = m
      obtain ⟨S2, key1, g2⟩ : ∃ S2, (cIf (cBl (eBin isNotD (eVar 7) (eCon .non))) (cSet 4 (eAnd (eVar 4) (eOwn 3 (F f .l_truth) (aCons (eVar 0) (aCons (eTup (aCons (eCon (.str "from")) (aCons (eVar 7) (aNil)))) (aCons (eVar 1) (aNil))))))) (cNil)) [some (.ref l), some c.d, some (.int m), some (.int (j : Int)), some (.bl b0), some (.str r.go), some r.look, some r.r] S1 = .fl (.nx [some (.ref l), some c.d, some (.int m), some (.int (j : Int)), some (.bl (b0 && rb)), some (.str r.go), some r.look, some r.r]) S2 ∧ Gr S1 S2 := by
        cases q : r.rest with
        | none =>
          have e1 : r.r = .non := by unfold Rw.r; rw [q]
          refine ⟨S1, ?_, .refl _⟩
          rw [e1, h3 q, Bool.and_true]
          exact (if_f (S' := S1) (by simp only [ev_var, ev_con, ev_bin, ev_un, ev_anil, ev_acons, ev_call, ev_tup, ev_lst, ev_not, ev_and, ev_or, ev_if, ev_cbl, ev_btrue, ev_cand, ev_cor, ev_cnot, ev_sli, ev_onone, ev_osome, ev_chain, ev_meth, ev_get2, ev_newK, ev_newT, ev_own, ev_nil, ev_seq, ev_expr, ev_set, ev_ret, ev_retN, ev_cif, ev_brk, ev_ct, ev_asg, ev_put, ev_aug, ev_for, ev_comp, ev_newL, ev_iseq, ev_irange, ev_ienum, ev_yes, Out.bind_ok, Out.bindN_ok, bindS_ok, Tg.set, Tg.sets, List.getElem?_cons_zero, List.getElem?_cons_succ, List.set_cons_zero, List.set_cons_succ, wipeE, List.length_cons, List.length_nil, Nat.reduceAdd, Nat.reduceLeDiff, Nat.reduceEqDiff, ↓reduceIte, Bool.false_eq_true, decide_eq_true_eq, add_int, sub_int, lt_int, gt_int, le_int, ge_int, neg_int, and_int, or_int, xor_int, max2_int, min2_int, mod_pos, fdiv_sm, mul_sm, mul_smr, Int.reduceLT, Int.reduceNeg, int_bl, int_int, sli_tup, isNotD, isN, Bool.not_true])).trans rfl
        | some k =>
          have e1 : r.r = .int (k : Int) := by unfold Rw.r; rw [q]
          rw [e1]
          cases b0
          · exact ⟨S1, (if_t (S' := S1) (by simp only [ev_var, ev_con, ev_bin, ev_un, ev_anil, ev_acons, ev_call, ev_tup, ev_lst, ev_not, ev_and, ev_or, ev_if, ev_cbl, ev_btrue, ev_cand, ev_cor, ev_cnot, ev_sli, ev_onone, ev_osome, ev_chain, ev_meth, ev_get2, ev_newK, ev_newT, ev_own, ev_nil, ev_seq, ev_expr, ev_set, ev_ret, ev_retN, ev_cif, ev_brk, ev_ct, ev_asg, ev_put, ev_aug, ev_for, ev_comp, ev_newL, ev_iseq, ev_irange, ev_ienum, ev_yes, Out.bind_ok, Out.bindN_ok, bindS_ok, Tg.set, Tg.sets, List.getElem?_cons_zero, List.getElem?_cons_succ, List.set_cons_zero, List.set_cons_succ, wipeE, List.length_cons, List.length_nil, Nat.reduceAdd, Nat.reduceLeDiff, Nat.reduceEqDiff, ↓reduceIte, Bool.false_eq_true, decide_eq_true_eq, add_int, sub_int, lt_int, gt_int, le_int, ge_int, neg_int, and_int, or_int, xor_int, max2_int, min2_int, mod_pos, fdiv_sm, mul_sm, mul_smr, Int.reduceLT, Int.reduceNeg, int_bl, int_int, sli_tup, isNotD, isN, Bool.not_false])).trans (set_of (by simp only [ev_var, ev_con, ev_bin, ev_un, ev_anil, ev_acons, ev_call, ev_tup, ev_lst, ev_not, ev_and, ev_or, ev_if, ev_cbl, ev_btrue, ev_cand, ev_cor, ev_cnot, ev_sli, ev_onone, ev_osome, ev_chain, ev_meth, ev_get2, ev_newK, ev_newT, ev_own, ev_nil, ev_seq, ev_expr, ev_set, ev_ret, ev_retN, ev_cif, ev_brk, ev_ct, ev_asg, ev_put, ev_aug, ev_for, ev_comp, ev_newL, ev_iseq, ev_irange, ev_ienum, ev_yes, Out.bind_ok, Out.bindN_ok, bindS_ok, Tg.set, Tg.sets, List.getElem?_cons_zero, List.getElem?_cons_succ, List.set_cons_zero, List.set_cons_succ, wipeE, List.length_cons, List.length_nil, Nat.reduceAdd, Nat.reduceLeDiff, Nat.reduceEqDiff, ↓reduceIte, Bool.false_eq_true, decide_eq_true_eq, add_int, sub_int, lt_int, gt_int, le_int, ge_int, neg_int, and_int, or_int, xor_int, max2_int, min2_int, mod_pos, fdiv_sm, mul_sm, mul_smr, Int.reduceLT, Int.reduceNeg, int_bl, int_int, sli_tup]; rfl)), .refl _⟩
          · obtain ⟨S2, e2, g2⟩ := (h4 k q).2 f l S1 (by omega) (g1.at l')
            exact ⟨S2, (if_t (S' := S1) (by simp only [ev_var, ev_con, ev_bin, ev_un, ev_anil, ev_acons, ev_call, ev_tup, ev_lst, ev_not, ev_and, ev_or, ev_if, ev_cbl, ev_btrue, ev_cand, ev_cor, ev_cnot, ev_sli, ev_onone, ev_osome, ev_chain, ev_meth, ev_get2, ev_newK, ev_newT, ev_own, ev_nil, ev_seq, ev_expr, ev_set, ev_ret, ev_retN, ev_cif, ev_brk, ev_ct, ev_asg, ev_put, ev_aug, ev_for, ev_comp, ev_newL, ev_iseq, ev_irange, ev_ienum, ev_yes, Out.bind_ok, Out.bindN_ok, bindS_ok, Tg.set, Tg.sets, List.getElem?_cons_zero, List.getElem?_cons_succ, List.set_cons_zero, List.set_cons_succ, wipeE, List.length_cons, List.length_nil, Nat.reduceAdd, Nat.reduceLeDiff, Nat.reduceEqDiff, ↓reduceIte, Bool.false_eq_true, decide_eq_true_eq, add_int, sub_int, lt_int, gt_int, le_int, ge_int, neg_int, and_int, or_int, xor_int, max2_int, min2_int, mod_pos, fdiv_sm, mul_sm, mul_smr, Int.reduceLT, Int.reduceNeg, int_bl, int_int, sli_tup, isNotD, isN, Bool.not_false])).trans (set_of (by simp only [ev_var, ev_con, ev_bin, ev_un, ev_anil, ev_acons, ev_call, ev_tup, ev_lst, ev_not, ev_and, ev_or, ev_if, ev_cbl, ev_btrue, ev_cand, ev_cor, ev_cnot, ev_sli, ev_onone, ev_osome, ev_chain, ev_meth, ev_get2, ev_newK, ev_newT, ev_own, ev_nil, ev_seq, ev_expr, ev_set, ev_ret, ev_retN, ev_cif, ev_brk, ev_ct, ev_asg, ev_put, ev_aug, ev_for, ev_comp, ev_newL, ev_iseq, ev_irange, ev_ienum, ev_yes, Out.bind_ok, Out.bindN_ok, bindS_ok, Tg.set, Tg.sets, List.getElem?_cons_zero, List.getElem?_cons_succ, List.set_cons_zero, List.set_cons_succ, wipeE, List.length_cons, List.length_nil, Nat.reduceAdd, Nat.reduceLeDiff, Nat.reduceEqDiff, ↓reduceIte, Bool.false_eq_true, decide_eq_true_eq, add_int, sub_int, lt_int, gt_int, le_int, ge_int, neg_int, and_int, or_int, xor_int, max2_int, min2_int, mod_pos, fdiv_sm, mul_sm, mul_smr, Int.reduceLT, Int.reduceNeg, int_bl, int_int, sli_tup, sline 2 (by omega), e2]; rfl)), g2⟩
      have el := eqs (S := S2) sg sk_deep
      generalize decide (r.go = "deep") = dp at el h5
      have sh : shlD (.int 1) (.int (j : Int)) S2 = .ok (.int (1 * 2 ^ j)) S2 := by
        have := shl01 (S := S2) (i := 1) (j := (j : Int)) (.inr rfl) (by omega) (by omega)
        rw [Int.toNat_natCast] at this; exact this
      have fd := fdiv_shl (S := S2) (i := c.lo) (n := j) (by omega)
      have j2 : idxD c.d (.int 2) S2 = .ok (.int c.lo) S2 := idx_t2
      have key2 : (cIf (cBl (eBin eqD (eVar 5) (eCon (.str "deep")))) (cSet 4 (eOr (eVar 4) (eBin eqD (eBin modD (eBin fdivD (eBin idxD (eVar 1) (eCon (.int 2))) (eBin shlD (eCon (.int 1)) (eVar 3))) (eCon (.int 2))) (eCon (.int 1))))) (cNil)) [some (.ref l), some c.d, some (.int m), some (.int (j : Int)), some (.bl (b0 && rb)), some (.str r.go), some r.look, some r.r] S2 = .fl (.nx [some (.ref l), some c.d, some (.int m), some (.int (j : Int)), some (.bl bs[j]), some (.str r.go), some r.look, some r.r]) S2 := by
        rw [h5]
        generalize (b0 && rb) = hh
        cases dp
        · rw [Bool.false_and, Bool.or_false]
          exact (if_f (S' := S2) (by simp only [ev_var, ev_con, ev_bin, ev_un, ev_anil, ev_acons, ev_call, ev_tup, ev_lst, ev_not, ev_and, ev_or, ev_if, ev_cbl, ev_btrue, ev_cand, ev_cor, ev_cnot, ev_sli, ev_onone, ev_osome, ev_chain, ev_meth, ev_get2, ev_newK, ev_newT, ev_own, ev_nil, ev_seq, ev_expr, ev_set, ev_ret, ev_retN, ev_cif, ev_brk, ev_ct, ev_asg, ev_put, ev_aug, ev_for, ev_comp, ev_newL, ev_iseq, ev_irange, ev_ienum, ev_yes, Out.bind_ok, Out.bindN_ok, bindS_ok, Tg.set, Tg.sets, List.getElem?_cons_zero, List.getElem?_cons_succ, List.set_cons_zero, List.set_cons_succ, wipeE, List.length_cons, List.length_nil, Nat.reduceAdd, Nat.reduceLeDiff, Nat.reduceEqDiff, ↓reduceIte, Bool.false_eq_true, decide_eq_true_eq, add_int, sub_int, lt_int, gt_int, le_int, ge_int, neg_int, and_int, or_int, xor_int, max2_int, min2_int, mod_pos, fdiv_sm, mul_sm, mul_smr, Int.reduceLT, Int.reduceNeg, int_bl, int_int, sli_tup, el])).trans rfl
        · rw [Bool.true_and]
          refine (if_t (S' := S2) (by simp only [ev_var, ev_con, ev_bin, ev_un, ev_anil, ev_acons, ev_call, ev_tup, ev_lst, ev_not, ev_and, ev_or, ev_if, ev_cbl, ev_btrue, ev_cand, ev_cor, ev_cnot, ev_sli, ev_onone, ev_osome, ev_chain, ev_meth, ev_get2, ev_newK, ev_newT, ev_own, ev_nil, ev_seq, ev_expr, ev_set, ev_ret, ev_retN, ev_cif, ev_brk, ev_ct, ev_asg, ev_put, ev_aug, ev_for, ev_comp, ev_newL, ev_iseq, ev_irange, ev_ienum, ev_yes, Out.bind_ok, Out.bindN_ok, bindS_ok, Tg.set, Tg.sets, List.getElem?_cons_zero, List.getElem?_cons_succ, List.set_cons_zero, List.set_cons_succ, wipeE, List.length_cons, List.length_nil, Nat.reduceAdd, Nat.reduceLeDiff, Nat.reduceEqDiff, ↓reduceIte, Bool.false_eq_true, decide_eq_true_eq, add_int, sub_int, lt_int, gt_int, le_int, ge_int, neg_int, and_int, or_int, xor_int, max2_int, min2_int, mod_pos, fdiv_sm, mul_sm, mul_smr, Int.reduceLT, Int.reduceNeg, int_bl, int_int, sli_tup, el])).trans (set_of ?_)
          cases hh
          · rw [Bool.false_or]
            simp only [ev_var, ev_con, ev_bin, ev_un, ev_anil, ev_acons, ev_call, ev_tup, ev_lst, ev_not, ev_and, ev_or, ev_if, ev_cbl, ev_btrue, ev_cand, ev_cor, ev_cnot, ev_sli, ev_onone, ev_osome, ev_chain, ev_meth, ev_get2, ev_newK, ev_newT, ev_own, ev_nil, ev_seq, ev_expr, ev_set, ev_ret, ev_retN, ev_cif, ev_brk, ev_ct, ev_asg, ev_put, ev_aug, ev_for, ev_comp, ev_newL, ev_iseq, ev_irange, ev_ienum, ev_yes, Out.bind_ok, Out.bindN_ok, bindS_ok, Tg.set, Tg.sets, List.getElem?_cons_zero, List.getElem?_cons_succ, List.set_cons_zero, List.set_cons_succ, wipeE, List.length_cons, List.length_nil, Nat.reduceAdd, Nat.reduceLeDiff, Nat.reduceEqDiff, ↓reduceIte, Bool.false_eq_true, decide_eq_true_eq, add_int, sub_int, lt_int, gt_int, le_int, ge_int, neg_int, and_int, or_int, xor_int, max2_int, min2_int, mod_pos, fdiv_sm, mul_sm, mul_smr, Int.reduceLT, Int.reduceNeg, int_bl, int_int, sli_tup, j2, sh, fd, eq_int]; rfl
          · rw [Bool.true_or]
            simp only [ev_var, ev_con, ev_bin, ev_un, ev_anil, ev_acons, ev_call, ev_tup, ev_lst, ev_not, ev_and, ev_or, ev_if, ev_cbl, ev_btrue, ev_cand, ev_cor, ev_cnot, ev_sli, ev_onone, ev_osome, ev_chain, ev_meth, ev_get2, ev_newK, ev_newT, ev_own, ev_nil, ev_seq, ev_expr, ev_set, ev_ret, ev_retN, ev_cif, ev_brk, ev_ct, ev_asg, ev_put, ev_aug, ev_for, ev_comp, ev_newL, ev_iseq, ev_irange, ev_ienum, ev_yes, Out.bind_ok, Out.bindN_ok, bindS_ok, Tg.set, Tg.sets, List.getElem?_cons_zero, List.getElem?_cons_succ, List.set_cons_zero, List.set_cons_succ, wipeE, List.length_cons, List.length_nil, Nat.reduceAdd, Nat.reduceLeDiff, Nat.reduceEqDiff, ↓reduceIte, Bool.false_eq_true, decide_eq_true_eq, add_int, sub_int, lt_int, gt_int, le_int, ge_int, neg_int, and_int, or_int, xor_int, max2_int, min2_int, mod_pos, fdiv_sm, mul_sm, mul_smr, Int.reduceLT, Int.reduceNeg, int_bl, int_int, sli_tup]
      have ml : mulD (.int 2) (.int m) S2 = .ok (.int (2 * m)) S2 := mul_sm (by omega) (by omega)
      have ib : ∀ b : Bool, intD [.bl b] S2 = .ok (.int (if b = true then 1 else 0)) S2 := fun b => int_bl b
      refine ⟨trivial, _, rfl, [some (.ref l), some c.d, some (.int (mkB (bs.drop (c.D.length - (i + 1))))), some (.int (j : Int)), some (.bl bs[j]), some (.str r.go), some r.look, some r.r], S2, .inl ?_, _, _, _, _, _, rfl, (g'.trans g1).trans g2⟩
      unfold b_l_due_1
      refine (seq_of (ρ' := [some (.ref l), some c.d, some (.int m), some (.int (j : Int)), v4, some (.str r.go), some r.look, some r.r]) (S' := S') (by simp only [ev_var, ev_con, ev_bin, ev_un, ev_anil, ev_acons, ev_call, ev_tup, ev_lst, ev_not, ev_and, ev_or, ev_if, ev_cbl, ev_btrue, ev_cand, ev_cor, ev_cnot, ev_sli, ev_onone, ev_osome, ev_chain, ev_meth, ev_get2, ev_newK, ev_newT, ev_own, ev_nil, ev_seq, ev_expr, ev_set, ev_ret, ev_retN, ev_cif, ev_brk, ev_ct, ev_asg, ev_put, ev_aug, ev_for, ev_comp, ev_newL, ev_iseq, ev_irange, ev_ienum, ev_yes, Out.bind_ok, Out.bindN_ok, bindS_ok, Tg.set, Tg.sets, List.getElem?_cons_zero, List.getElem?_cons_succ, List.set_cons_zero, List.set_cons_succ, wipeE, List.length_cons, List.length_nil, Nat.reduceAdd, Nat.reduceLeDiff, Nat.reduceEqDiff, ↓reduceIte, Bool.false_eq_true, decide_eq_true_eq, add_int, sub_int, lt_int, gt_int, le_int, ge_int, neg_int, and_int, or_int, xor_int, max2_int, min2_int, mod_pos, fdiv_sm, mul_sm, mul_smr, Int.reduceLT, Int.reduceNeg, int_bl, int_int, sli_tup, ir, Rw.d]; rfl)).trans ?_
      refine (seq_of (set_of (d := .bl b0) (S' := S1) (by simp only [ev_var, ev_con, ev_bin, ev_un, ev_anil, ev_acons, ev_call, ev_tup, ev_lst, ev_not, ev_and, ev_or, ev_if, ev_cbl, ev_btrue, ev_cand, ev_cor, ev_cnot, ev_sli, ev_onone, ev_osome, ev_chain, ev_meth, ev_get2, ev_newK, ev_newT, ev_own, ev_nil, ev_seq, ev_expr, ev_set, ev_ret, ev_retN, ev_cif, ev_brk, ev_ct, ev_asg, ev_put, ev_aug, ev_for, ev_comp, ev_newL, ev_iseq, ev_irange, ev_ienum, ev_yes, Out.bind_ok, Out.bindN_ok, bindS_ok, Tg.set, Tg.sets, List.getElem?_cons_zero, List.getElem?_cons_succ, List.set_cons_zero, List.set_cons_succ, wipeE, List.length_cons, List.length_nil, Nat.reduceAdd, Nat.reduceLeDiff, Nat.reduceEqDiff, ↓reduceIte, Bool.false_eq_true, decide_eq_true_eq, add_int, sub_int, lt_int, gt_int, le_int, ge_int, neg_int, and_int, or_int, xor_int, max2_int, min2_int, mod_pos, fdiv_sm, mul_sm, mul_smr, Int.reduceLT, Int.reduceNeg, int_bl, int_int, sli_tup, e1]))).trans ?_
      refine (seq_of key1).trans ?_
      refine (seq_of key2).trans ?_
      rw [d1, mkB, hm, Int.add_comm]
      exact set_of (by simp only [ev_bin, ev_var, ev_con, ev_call, ev_acons, ev_anil, List.getElem?_cons_zero, List.getElem?_cons_succ, Out.bind_ok, ml, ib, add_int]))
    (fun _ _ _ => trivial)
  refine ⟨S', ?_, g'⟩
  refine runF_rt (ρ := [some (.ref l), some c.d, none, none, none, none, none, none]) rfl rfl ?_
  unfold c_l_due
  refine (seq_of (set_of (d := .int 0) (S' := S) rfl)).trans ?_
  have ll := len_ref hl
  rw [List.length_map] at ll
  have ez : (PL.iRevN (eCall lenD (aCons (eVar 0) (aNil)))) [some (.ref l), some c.d, some (.int 0), none, none, none, none, none] S = .ok (downL ((c.D.length : Int) - 1) (-1), .tt) S := by
    simp only [ev_irevn, ev_var, ev_con, ev_bin, ev_un, ev_anil, ev_acons, ev_call, ev_tup, ev_lst, ev_not, ev_and, ev_or, ev_if, ev_cbl, ev_btrue, ev_cand, ev_cor, ev_cnot, ev_sli, ev_onone, ev_osome, ev_chain, ev_meth, ev_get2, ev_newK, ev_newT, ev_own, ev_nil, ev_seq, ev_expr, ev_set, ev_ret, ev_retN, ev_cif, ev_brk, ev_ct, ev_asg, ev_put, ev_aug, ev_for, ev_comp, ev_newL, ev_iseq, ev_irange, ev_ienum, ev_yes, Out.bind_ok, Out.bindN_ok, bindS_ok, Tg.set, Tg.sets, List.getElem?_cons_zero, List.getElem?_cons_succ, List.set_cons_zero, List.set_cons_succ, wipeE, List.length_cons, List.length_nil, Nat.reduceAdd, Nat.reduceLeDiff, Nat.reduceEqDiff, ↓reduceIte, Bool.false_eq_true, decide_eq_true_eq, add_int, sub_int, lt_int, gt_int, le_int, ge_int, neg_int, and_int, or_int, xor_int, max2_int, min2_int, mod_pos, fdiv_sm, mul_sm, mul_smr, Int.reduceLT, Int.reduceNeg, int_bl, int_int, sli_tup, ll]
    rw [if_pos (show (0 : Int) ≤ (c.D.length : Int) ∧ (c.D.length : Int) < 2 ^ 62 from ⟨by omega, by omega⟩)]
  rw [ln, Nat.sub_self, List.drop_zero] at e
  exact (seq_of ((for_of ez).trans e)).trans (ret_of rfl)
theorem sum_fl {ns : List Int} (lo hi : Option Int) (S : Sto) : ∃ (c : Int) (S' : Sto), (∀ (ρ : PL.Env) (rl rh : RO), ρ[0]? = some (some (.fl (ns.map .int))) → rl ρ S = .ok lo S → rh ρ S = .ok hi S → eCall sumD (aCons (eSli (eVar 0) rl rh) aNil) ρ S = .ok (.int c) S') ∧ Gr S S' := by
  have s0 := sum_run (at_new S (.lst ((cutD ns lo hi).map .int)))
  refine ⟨(cutD ns lo hi).sum, S ++ [Ob.lst ((cutD ns lo hi).map .int)], fun ρ rl rh h0 h1 h2 => ?_, gr_app _ _⟩
  simp only [ev_call, ev_acons, ev_anil, ev_sli, ev_var, h0, h1, h2, Out.bind_ok, sli_fl, cut_map, ev_newL, s0]
theorem law_true (ns : List Int) (hns : ns.length ≤ 63) : ∃ S, F 40 .l_law [.fl (ns.map .int)] [] = .ok (.bl true) S := by
  obtain ⟨c0, S0, e0, g0⟩ := sum_fl (ns := ns) none (some 1) []
  obtain ⟨ln, names, S1, e1, g1, _, hn1⟩ := names_run (f := 37) (c := c0) (S := S0)
  obtain ⟨S2, e2, g2, hr2⟩ := reach_run (ρ := [some (.fl (ns.map .int)), some (.ref ln), none, none, none, none, none, none, none, none, none, none, none]) (S := S1)
  obtain ⟨lc, xs, S3, e3, g3, _, hc3, hx3, hx3'⟩ := cells_run (f := 37) (s := 0) (S := S2) hns (by omega) (by omega)
  obtain ⟨lc', ys, S4, e4, g4, _, hc4, hy4, _⟩ := cells_run (f := 37) (s := 1) (S := S3) hns (by omega) (by omega)
  have ea := add_ref (g4.at hc3) hc4 (sline _ (by rw [List.length_map, List.length_map]; omega))
  rw [← List.map_append, ev_newL] at ea
  have g5 := gr_app S4 [Ob.lst ((xs ++ ys).map .int)]
  have a5 := at_new S4 (.lst ((xs ++ ys).map .int))
  generalize hS5 : S4 ++ [Ob.lst ((xs ++ ys).map .int)] = S5 at g5 a5 ea
  have hn5 := hn1.gr (((g2.trans g3).trans g4).trans g5)
  obtain ⟨nm, nr, rfl⟩ : ∃ nm nr, names = nm :: nr := by
    cases names with
    | nil => have := hn1.len; simp at this
    | cons a r => exact ⟨a, r, rfl⟩
  have ix : idxD (.ref ln) (.int 0) S5 = .ok (.str nm) S5 := idx_ref hn5.h (atI_nat (i := 0) rfl)
  have g6 := gr_app S5 [Ob.lst [.tup [.int 0, .str nm]]]
  have a6 := at_new S5 (.lst [.tup [.int 0, .str nm]])
  generalize hS6 : S5 ++ [Ob.lst [.tup [.int 0, .str nm]]] = S6 at g6 a6
  have hrows : Rows S6 S5.length [(0, nm)] := ⟨a6, by simp, fun r hr => by simp at hr; subst hr; exact hn1.sk nm (by simp)⟩
  obtain ⟨lp, zs, S7, e7, g7, _, hz7, hzk, hzl, hzn⟩ := pile_run (f := 35) (spot := 1) (g6.at a5) (by rw [List.length_append]; omega) (hn5.gr g6) hrows (hr2.gr (((g3.trans g4).trans g5).trans g6))
  have hzne : zs ≠ [] := hzn (fun z => by have := congrArg List.length z; rw [List.length_append, List.length_nil] at this; omega)
  have hn7 := (hn5.gr g6).gr g7
  -- the table
  have g8 := gr_app S7 [Ob.lst []]
  have a8 := at_new S7 (.lst [])
  generalize hS8 : S7 ++ [Ob.lst []] = S8 at g8 a8
  have hz8 := g8.at hz7
  obtain ⟨k, eb, mm, hk, hmax⟩ := best_max hzne
  have hzl' : zs.length ≤ 1000 := by rw [List.length_append] at hzl; omega
  have c9 := best_comp (zs := zs) (ck := (Ck.ls lp (zs.map En.d)).ok) (S := S8) (y := y_l_law_1 (F 39)) (t := .tp [.nm 7, .nm 12]) (ρ := wipeE [some (.fl (ns.map .int)), some (.ref ln), some (.ref S1.length), some (.ref lp), some (.ref S7.length), none, none, none, none, none, none, none, none] [7, 12]) hz8 hzl'
    (fun k e => ⟨_, rfl, by unfold y_l_law_1; simp only [ev_var, ev_con, ev_bin, ev_un, ev_anil, ev_acons, ev_call, ev_tup, ev_lst, ev_not, ev_and, ev_or, ev_if, ev_cbl, ev_btrue, ev_cand, ev_cor, ev_cnot, ev_sli, ev_onone, ev_osome, ev_chain, ev_meth, ev_get2, ev_newK, ev_newT, ev_own, ev_nil, ev_seq, ev_expr, ev_set, ev_ret, ev_retN, ev_cif, ev_brk, ev_ct, ev_asg, ev_put, ev_aug, ev_for, ev_comp, ev_newL, ev_iseq, ev_irange, ev_ienum, ev_yes, Out.bind_ok, Out.bindN_ok, bindS_ok, Tg.set, Tg.sets, List.getElem?_cons_zero, List.getElem?_cons_succ, List.set_cons_zero, List.set_cons_succ, wipeE, List.length_cons, List.length_nil, Nat.reduceAdd, Nat.reduceLeDiff, Nat.reduceEqDiff, ↓reduceIte, Bool.false_eq_true, decide_eq_true_eq, add_int, sub_int, lt_int, gt_int, le_int, ge_int, neg_int, and_int, or_int, xor_int, max2_int, min2_int, mod_pos, fdiv_sm, mul_sm, mul_smr, Int.reduceLT, Int.reduceNeg, int_bl, int_int, sli_tup, idx_e2, sline 2 (by omega)]⟩)
  simp only [wipeE, List.set_cons_zero, List.set_cons_succ] at c9
  have g9 := gr_app S8 [Ob.lst ((prsZ zs).map fun p => .tup [.int p.1, .int p.2])]
  have m9 := hmax _ _ (at_new S8 (.lst ((prsZ zs).map fun p => .tup [.int p.1, .int p.2])))
  generalize hS9 : S8 ++ [Ob.lst ((prsZ zs).map fun p => .tup [.int p.1, .int p.2])] = S9 at g9 m9
  have keb := hzk eb (List.mem_of_getElem? hk)
  have ip : idxD (.ref lp) (.int (k : Int)) S9 = .ok eb.d S9 := idx_ref (g9.at hz8) (atI_nat (by rw [List.getElem?_map, hk]; rfl))
  have k1 := keb.t12; have k2 := keb.sz; have k3 := keb.m40; have k4 := keb.t1
  obtain ⟨told, N, S10, e10, f10, hN, hNl, _, hNk⟩ := law_turned eb.t.toNat eb.look (by omega) keb.lk 39 S7.length [] S9 (by omega) (g9.at a8) (by simp; omega)
  rw [List.nil_append] at hN hNk
  have g10 : Gr S7 S10 := Gr.new (g8.trans g9) f10 (fun l z => by omega)
  obtain ⟨c1, S11, e11, g11⟩ := sum_fl (ns := ns) (some 2) (some 3) S10
  have mp := mx_pos c1 28
  obtain ⟨lr, lps, D, ps, S12, e12, g12, hD, _, hDl, hDk, _⟩ := dealt_run (f := 38) (c := mx c1 28) (S := S11) (by omega) mp (g11.at hN) (by omega) hNk
  have hn12 := hn7.gr ((g10.trans g11).trans g12)
  have lD : D.length ≤ 1000 := by omega
  -- the cases
  have g13 := gr_app S12 [Ob.lst []]
  have a13 := at_new S12 (.lst [])
  generalize hS13 : S12 ++ [Ob.lst []] = S13 at g13 a13
  have hn13 := hn12.gr g13
  have hD13 := g13.at hD
  have nlD : lr ≠ S12.length := by have := lt_of_at hD; omega
  have nln : ln ≠ S12.length := by have := lt_of_at hn12.h; omega
  obtain ⟨ρ', S14, e14, css, v7, v8, v9, rfl, f14, hcs, hck, hcl⟩ := loop_all (ck := Ck.tt.ok) (t := .nm 7) (b := b_l_law_3 (F 39)) (S := S13) (ρ := [some (.fl (ns.map .int)), some (.ref ln), some (.ref S1.length), some (.ref lp), some (.ref lr), some (.int c1), some (.ref S12.length), none, none, none, none, none, none])
    (fun i ρ S' => ∃ (css : List Cs) (v7 v8 v9 : Option Dv), ρ = [some (.fl (ns.map .int)), some (.ref ln), some (.ref S1.length), some (.ref lp), some (.ref lr), some (.int c1), some (.ref S12.length), v7, v8, v9, none, none, none] ∧ Fr (· = S12.length) S13 S' ∧ S'[S12.length]? = some (.lst (css.map Cs.d)) ∧ (∀ cs ∈ css, cs.D = D ∧ CsOk cs) ∧ css.length = i)
    (rangeL 0 4) ⟨[], none, none, none, rfl, .refl _, a13, by simp, rfl⟩
    (fun i v ρ S' hv ⟨css, v7, v8, v9, hρ, f', hcs, hck, hcl⟩ => by
      subst hρ
      obtain ⟨rfl, hlt⟩ := rangeL_get hv
      have hnS : idxD (.ref ln) = idxD (.ref ln) := rfl
      have hN' := f'.get ln _ hn13.h (by show ln ≠ S12.length; exact nln)
      have hD' := f'.get lr _ hD13 (by show lr ≠ S12.length; exact nlD)
      generalize hki : (0 : Int) + (i : Int) = ki at *
      have hk0 : 0 ≤ ki := by omega
      have hk4 : ki < 4 := by omega
      obtain ⟨d, hd, ed⟩ := atI_mod (xs := (nm :: nr).map Dv.str) (by simp) (mx c1 (24 + 4 * ki))
      obtain ⟨x, hx, rfl⟩ := List.mem_map.mp hd
      rw [List.length_map, hn1.len] at ed
      have ex : idxD (.ref ln) (.int (mx c1 (24 + 4 * ki) % 5)) S' = .ok (.str x) S' := idx_ref hN' ed
      have kx := hn1.sk x hx
      have m24 := mix_run (f := 38) (c := c1) (k := 24 + 4 * ki) (S := S') (by omega) (by omega)
      have m25 := mix_run (f := 38) (c := c1) (k := 25 + 4 * ki) (S := S') (by omega) (by omega)
      obtain ⟨acc, S3', e3', g3', bs, rfl, hbl⟩ := comp_gen (ck := Ck.tt.ok) (t := .nm 11) (c := cYes) (y := y_l_law_2 (F 39)) (acc := []) (S := S') (fun j acc S4 => Gr S' S4 ∧ ∃ bs : List Int, acc = bs.map .int ∧ bs.length = j) (rangeL 0 2) [some (.fl (ns.map .int)), some (.ref ln), some (.ref S1.length), some (.ref lp), some (.ref lr), some (.int c1), some (.ref S12.length), some (.int ki), some (.tup [.str x, .bl (decide (mx c1 (25 + 4 * ki) % 2 = 1))]), v9, none, none, none]
        (fun j d acc S4 hd ⟨g', bs, ha, hbl⟩ => by
          obtain ⟨rfl, hlt⟩ := rangeL_get hd
          obtain ⟨c2, S5, e5, g5⟩ := sum_fl (ns := ns) (some (3 + ki)) (some (4 + ki)) S4
          have l4 := len_ref (g5.at (g'.at hD'))
          rw [List.length_map] at l4
          obtain ⟨r, S6, e6, g6, _⟩ := bits_run (f := 37) (c := c2 + ki) (t := 0 + (j : Int)) (n := D.length) (S := S5) (by omega) lD
          refine ⟨trivial, _, rfl, true, S4, rfl, fun _ => ⟨.int r, S6, ?_, ?_, (g'.trans g5).trans g6, bs ++ [r], by rw [ha, List.map_append]; rfl, by simp [hbl]⟩, fun z => nomatch z⟩
          · unfold y_l_law_2
            simp only [ev_own, ev_acons, ev_bin]
            rw [e5 _ _ _ rfl (by simp only [ev_var, ev_con, ev_bin, ev_un, ev_anil, ev_acons, ev_call, ev_tup, ev_lst, ev_not, ev_and, ev_or, ev_if, ev_cbl, ev_btrue, ev_cand, ev_cor, ev_cnot, ev_sli, ev_onone, ev_osome, ev_chain, ev_meth, ev_get2, ev_newK, ev_newT, ev_own, ev_nil, ev_seq, ev_expr, ev_set, ev_ret, ev_retN, ev_cif, ev_brk, ev_ct, ev_asg, ev_put, ev_aug, ev_for, ev_comp, ev_newL, ev_iseq, ev_irange, ev_ienum, ev_yes, Out.bind_ok, Out.bindN_ok, bindS_ok, Tg.set, Tg.sets, List.getElem?_cons_zero, List.getElem?_cons_succ, List.set_cons_zero, List.set_cons_succ, wipeE, List.length_cons, List.length_nil, Nat.reduceAdd, Nat.reduceLeDiff, Nat.reduceEqDiff, ↓reduceIte, Bool.false_eq_true, decide_eq_true_eq, add_int, sub_int, lt_int, gt_int, le_int, ge_int, neg_int, and_int, or_int, xor_int, max2_int, min2_int, mod_pos, fdiv_sm, mul_sm, mul_smr, Int.reduceLT, Int.reduceNeg, int_bl, int_int, sli_tup]) (by simp only [ev_var, ev_con, ev_bin, ev_un, ev_anil, ev_acons, ev_call, ev_tup, ev_lst, ev_not, ev_and, ev_or, ev_if, ev_cbl, ev_btrue, ev_cand, ev_cor, ev_cnot, ev_sli, ev_onone, ev_osome, ev_chain, ev_meth, ev_get2, ev_newK, ev_newT, ev_own, ev_nil, ev_seq, ev_expr, ev_set, ev_ret, ev_retN, ev_cif, ev_brk, ev_ct, ev_asg, ev_put, ev_aug, ev_for, ev_comp, ev_newL, ev_iseq, ev_irange, ev_ienum, ev_yes, Out.bind_ok, Out.bindN_ok, bindS_ok, Tg.set, Tg.sets, List.getElem?_cons_zero, List.getElem?_cons_succ, List.set_cons_zero, List.set_cons_succ, wipeE, List.length_cons, List.length_nil, Nat.reduceAdd, Nat.reduceLeDiff, Nat.reduceEqDiff, ↓reduceIte, Bool.false_eq_true, decide_eq_true_eq, add_int, sub_int, lt_int, gt_int, le_int, ge_int, neg_int, and_int, or_int, xor_int, max2_int, min2_int, mod_pos, fdiv_sm, mul_sm, mul_smr, Int.reduceLT, Int.reduceNeg, int_bl, int_int, sli_tup])]
            simp only [ev_var, ev_con, ev_bin, ev_un, ev_anil, ev_acons, ev_call, ev_tup, ev_lst, ev_not, ev_and, ev_or, ev_if, ev_cbl, ev_btrue, ev_cand, ev_cor, ev_cnot, ev_sli, ev_onone, ev_osome, ev_chain, ev_meth, ev_get2, ev_newK, ev_newT, ev_own, ev_nil, ev_seq, ev_expr, ev_set, ev_ret, ev_retN, ev_cif, ev_brk, ev_ct, ev_asg, ev_put, ev_aug, ev_for, ev_comp, ev_newL, ev_iseq, ev_irange, ev_ienum, ev_yes, Out.bind_ok, Out.bindN_ok, bindS_ok, Tg.set, Tg.sets, List.getElem?_cons_zero, List.getElem?_cons_succ, List.set_cons_zero, List.set_cons_succ, wipeE, List.length_cons, List.length_nil, Nat.reduceAdd, Nat.reduceLeDiff, Nat.reduceEqDiff, ↓reduceIte, Bool.false_eq_true, decide_eq_true_eq, add_int, sub_int, lt_int, gt_int, le_int, ge_int, neg_int, and_int, or_int, xor_int, max2_int, min2_int, mod_pos, fdiv_sm, mul_sm, mul_smr, Int.reduceLT, Int.reduceNeg, int_bl, int_int, sli_tup, l4, e6]
          · rw [ha, List.length_map]; show _ < 2 ^ 24; omega) (fun _ _ _ => trivial) ⟨.refl _, [], rfl, rfl⟩
      rw [rangeL_len] at hbl
      obtain ⟨b0, b1, rfl⟩ : ∃ b0 b1, bs = [b0, b1] := by
        match bs, hbl with
        | [b0, b1], _ => exact ⟨b0, b1, rfl⟩
      have g4' := gr_app S3' [Ob.lst [.int b0, .int b1]]
      have a4' := at_new S3' (.lst [.int b0, .int b1])
      generalize hS4' : S3' ++ [Ob.lst [.int b0, .int b1]] = S4' at g4' a4'
      have i14 : idxD (.ref S3'.length) (.int 0) S4' = .ok (.int b0) S4' := idx_ref a4' (atI_nat (i := 0) rfl)
      have i14' : idxD (.ref S3'.length) (.int 1) S4' = .ok (.int b1) S4' := idx_ref a4' (atI_nat (i := 1) rfl)
      let cs : Cs := ⟨D, x, decide (mx c1 (25 + 4 * ki) % 2 = 1), b0, b1⟩
      have csok : CsOk cs := ⟨lD, fun r hr => go_sk (hDk r hr).go, kx⟩
      have ac : addD (.tup [.str x, .bl (decide (mx c1 (25 + 4 * ki) % 2 = 1))]) (.tup [.int b0, .int b1]) S4' = .ok cs.d S4' := by
        simp only [addD]; rw [if_pos (show ([Dv.str x, Dv.bl (decide (mx c1 (25 + 4 * ki) % 2 = 1))].length + [Dv.int b0, Dv.int b1].length) ≤ sizeLine from sline 4 (by omega))]; rfl
      have hcs4 := g4'.at (g3'.at hcs)
      have ap : appendD (.ref S12.length) [cs.d] S4' = .ok .non (S4'.set S12.length (.lst ((css ++ [cs]).map Cs.d))) := by
        rw [app_ref hcs4 (by rw [List.length_map]; show _ < 2 ^ 24; omega), List.map_append]; rfl
      have f5 := fr_set S4' S12.length (.lst ((css ++ [cs]).map Cs.d))
      have ml : ∀ S, mulD (.int 4) (.int ki) S = .ok (.int (4 * ki)) S := fun S => mul_sm (by omega) (by omega)
      refine ⟨trivial, _, rfl, [some (.fl (ns.map .int)), some (.ref ln), some (.ref S1.length), some (.ref lp), some (.ref lr), some (.int c1), some (.ref S12.length), some (.int ki), some (.tup [.str x, .bl (decide (mx c1 (25 + 4 * ki) % 2 = 1))]), some (.ref S3'.length), none, none, none], S4'.set S12.length (.lst ((css ++ [cs]).map Cs.d)), .inl ?_, css ++ [cs], _, _, _, rfl, ((f'.trans g3'.any).trans g4'.any).trans f5, at_set hcs4, ?_, by simp [hcl]⟩
      · unfold b_l_law_3
        refine (seq_of (set_of (d := .tup [.str x, .bl (decide (mx c1 (25 + 4 * ki) % 2 = 1))]) (S' := S') (by simp only [ev_var, ev_con, ev_bin, ev_un, ev_anil, ev_acons, ev_call, ev_tup, ev_lst, ev_not, ev_and, ev_or, ev_if, ev_cbl, ev_btrue, ev_cand, ev_cor, ev_cnot, ev_sli, ev_onone, ev_osome, ev_chain, ev_meth, ev_get2, ev_newK, ev_newT, ev_own, ev_nil, ev_seq, ev_expr, ev_set, ev_ret, ev_retN, ev_cif, ev_brk, ev_ct, ev_asg, ev_put, ev_aug, ev_for, ev_comp, ev_newL, ev_iseq, ev_irange, ev_ienum, ev_yes, Out.bind_ok, Out.bindN_ok, bindS_ok, Tg.set, Tg.sets, List.getElem?_cons_zero, List.getElem?_cons_succ, List.set_cons_zero, List.set_cons_succ, wipeE, List.length_cons, List.length_nil, Nat.reduceAdd, Nat.reduceLeDiff, Nat.reduceEqDiff, ↓reduceIte, Bool.false_eq_true, decide_eq_true_eq, add_int, sub_int, lt_int, gt_int, le_int, ge_int, neg_int, and_int, or_int, xor_int, max2_int, min2_int, mod_pos, fdiv_sm, mul_sm, mul_smr, Int.reduceLT, Int.reduceNeg, int_bl, int_int, sli_tup, ml, m24, m25, ex, eq_int, sline 2 (by omega)]))).trans ?_
        refine (seq_of (set_of (d := .ref S3'.length) (S' := S4') (by simp only [ev_var, ev_con, ev_bin, ev_un, ev_anil, ev_acons, ev_call, ev_tup, ev_lst, ev_not, ev_and, ev_or, ev_if, ev_cbl, ev_btrue, ev_cand, ev_cor, ev_cnot, ev_sli, ev_onone, ev_osome, ev_chain, ev_meth, ev_get2, ev_newK, ev_newT, ev_own, ev_nil, ev_seq, ev_expr, ev_set, ev_ret, ev_retN, ev_cif, ev_brk, ev_ct, ev_asg, ev_put, ev_aug, ev_for, ev_comp, ev_newL, ev_iseq, ev_irange, ev_ienum, ev_yes, Out.bind_ok, Out.bindN_ok, bindS_ok, Tg.set, Tg.sets, List.getElem?_cons_zero, List.getElem?_cons_succ, List.set_cons_zero, List.set_cons_succ, wipeE, List.length_cons, List.length_nil, Nat.reduceAdd, Nat.reduceLeDiff, Nat.reduceEqDiff, ↓reduceIte, Bool.false_eq_true, decide_eq_true_eq, add_int, sub_int, lt_int, gt_int, le_int, ge_int, neg_int, and_int, or_int, xor_int, max2_int, min2_int, mod_pos, fdiv_sm, mul_sm, mul_smr, Int.reduceLT, Int.reduceNeg, int_bl, int_int, sli_tup, rng1_of (i := 2) (by omega) (by omega), e3', List.map_cons, List.map_nil, hS4']))).trans ?_
        exact expr_of (d := .non) (by simp only [ev_var, ev_con, ev_bin, ev_un, ev_anil, ev_acons, ev_call, ev_tup, ev_lst, ev_not, ev_and, ev_or, ev_if, ev_cbl, ev_btrue, ev_cand, ev_cor, ev_cnot, ev_sli, ev_onone, ev_osome, ev_chain, ev_meth, ev_get2, ev_newK, ev_newT, ev_own, ev_nil, ev_seq, ev_expr, ev_set, ev_ret, ev_retN, ev_cif, ev_brk, ev_ct, ev_asg, ev_put, ev_aug, ev_for, ev_comp, ev_newL, ev_iseq, ev_irange, ev_ienum, ev_yes, Out.bind_ok, Out.bindN_ok, bindS_ok, Tg.set, Tg.sets, List.getElem?_cons_zero, List.getElem?_cons_succ, List.set_cons_zero, List.set_cons_succ, wipeE, List.length_cons, List.length_nil, Nat.reduceAdd, Nat.reduceLeDiff, Nat.reduceEqDiff, ↓reduceIte, Bool.false_eq_true, decide_eq_true_eq, add_int, sub_int, lt_int, gt_int, le_int, ge_int, neg_int, and_int, or_int, xor_int, max2_int, min2_int, mod_pos, fdiv_sm, mul_sm, mul_smr, Int.reduceLT, Int.reduceNeg, int_bl, int_int, sli_tup, tyq_ref hcs4, i14, i14', sline 2 (by omega), ac, ap])
      · intro c hc
        rcases List.mem_append.mp hc with hc | hc
        · exact hck c hc
        · rw [List.mem_singleton] at hc; subst hc; exact ⟨rfl, csok⟩)
    (fun _ _ _ => trivial)
  rw [rangeL_len] at hcl
  have hD14 := f14.get lr _ hD13 (by show lr ≠ S12.length; exact nlD)
  have s15 := sli_ref hcs none (some 1)
  rw [cut_map, ev_newL] at s15
  have mem1 : ∀ c ∈ cutD css none (some 1), c ∈ css := fun c h => mem_cut h
  have cl := cut_len css none (some 1)
  generalize cutD css none (some 1) = first at s15 mem1 cl
  have g15 := gr_app S14 [Ob.lst (first.map Cs.d)]
  have a15 := at_new S14 (.lst (first.map Cs.d))
  generalize hS15 : S14 ++ [Ob.lst (first.map Cs.d)] = S15 at g15 a15 s15
  have ea15 := add_ref (g15.at hcs) a15 (sline _ (by rw [List.length_map, List.length_map]; omega))
  rw [ev_newL, ← List.map_append] at ea15
  have g16 := gr_app S15 [Ob.lst ((css ++ first).map Cs.d)]
  have a16 := at_new S15 (.lst ((css ++ first).map Cs.d))
  generalize hS16 : S15 ++ [Ob.lst ((css ++ first).map Cs.d)] = S16 at g16 a16 ea15
  have hD16 := g16.at (g15.at hD14)
  have hall : ∀ c ∈ css ++ first, c.D = D ∧ CsOk c := fun c h => by
    rcases List.mem_append.mp h with h | h
    · exact hck c h
    · exact hck c (mem1 c h)
  obtain ⟨ρ', S17, e17, _, _, rfl, g17⟩ := loop_all (ck := (Ck.ls S15.length ((css ++ first).map Cs.d)).ok) (t := .nm 8) (b := b_l_law_4 (F 39)) (S := S16) (ρ := [some (.fl (ns.map .int)), some (.ref ln), some (.ref S1.length), some (.ref lp), some (.ref lr), some (.int c1), some (.ref S12.length), v7, v8, v9, none, none, none])
    (fun i ρ S' => ∃ v8 v10, ρ = [some (.fl (ns.map .int)), some (.ref ln), some (.ref S1.length), some (.ref lp), some (.ref lr), some (.int c1), some (.ref S12.length), v7, v8, v9, v10, none, none] ∧ Gr S16 S') ((css ++ first).map Cs.d) ⟨_, none, rfl, .refl _⟩
    (fun i v ρ S' hv ⟨v8, v10, hρ, g'⟩ => by
      subst hρ
      rw [List.getElem?_map, Option.map_eq_some_iff] at hv
      obtain ⟨cs, hcs0, rfl⟩ := hv
      obtain ⟨hcD, csok⟩ := hall cs (List.mem_of_getElem? hcs0)
      obtain ⟨bs, hbl, hbs⟩ := hits csok (by rw [hcD]; exact hDk)
      have hD' := g'.at hD16
      rw [← hcD] at hD'
      have tt := tuple_ref hD'
      have mr := mask_run (f := 38) (S := S') csok (by omega) hbl hbs
      obtain ⟨S5, e5, g5⟩ := due_run (f := 38) csok (by omega) hbl hbs hD'
      have j0 : idxD cs.d (.int 0) S' = .ok (.str cs.x) S' := idx_t0
      have j1 : idxD cs.d (.int 1) S' = .ok (.bl cs.mkd) S' := idx_t1
      have j2 : idxD cs.d (.int 2) S' = .ok (.int cs.lo) S' := idx_t2
      have j3 : idxD cs.d (.int 3) S' = .ok (.int cs.be) S' := idx_t3
      have ib : isiD "int" (.int (mkB bs)) S' = .ok (.bl true) S' := rfl
      have ic : isiD "bool" (.int (mkB bs)) S' = .ok (.bl false) S' := rfl
      have ne : neD (.int (mkB bs)) (.int (mkB bs)) S5 = .ok (.bl false) S5 := by rw [ne_int, decide_eq_true rfl]; rfl
      refine ⟨g'.at a16, _, rfl, [some (.fl (ns.map .int)), some (.ref ln), some (.ref S1.length), some (.ref lp), some (.ref lr), some (.int c1), some (.ref S12.length), v7, some cs.d, v9, some (.int (mkB bs)), none, none], S5, .inl ?_, _, _, rfl, g'.trans g5⟩
      unfold b_l_law_4
      refine (seq_of (set_of (d := .int (mkB bs)) (S' := S') (by simp only [ev_var, ev_con, ev_bin, ev_un, ev_anil, ev_acons, ev_call, ev_tup, ev_lst, ev_not, ev_and, ev_or, ev_if, ev_cbl, ev_btrue, ev_cand, ev_cor, ev_cnot, ev_sli, ev_onone, ev_osome, ev_chain, ev_meth, ev_get2, ev_newK, ev_newT, ev_own, ev_nil, ev_seq, ev_expr, ev_set, ev_ret, ev_retN, ev_cif, ev_brk, ev_ct, ev_asg, ev_put, ev_aug, ev_for, ev_comp, ev_newL, ev_iseq, ev_irange, ev_ienum, ev_yes, Out.bind_ok, Out.bindN_ok, bindS_ok, Tg.set, Tg.sets, List.getElem?_cons_zero, List.getElem?_cons_succ, List.set_cons_zero, List.set_cons_succ, wipeE, List.length_cons, List.length_nil, Nat.reduceAdd, Nat.reduceLeDiff, Nat.reduceEqDiff, ↓reduceIte, Bool.false_eq_true, decide_eq_true_eq, add_int, sub_int, lt_int, gt_int, le_int, ge_int, neg_int, and_int, or_int, xor_int, max2_int, min2_int, mod_pos, fdiv_sm, mul_sm, mul_smr, Int.reduceLT, Int.reduceNeg, int_bl, int_int, sli_tup, tt, j0, j1, j2, j3, mr]))).trans ?_
      exact (if_f (S' := S5) (by simp only [ev_var, ev_con, ev_bin, ev_un, ev_anil, ev_acons, ev_call, ev_tup, ev_lst, ev_not, ev_and, ev_or, ev_if, ev_cbl, ev_btrue, ev_cand, ev_cor, ev_cnot, ev_sli, ev_onone, ev_osome, ev_chain, ev_meth, ev_get2, ev_newK, ev_newT, ev_own, ev_nil, ev_seq, ev_expr, ev_set, ev_ret, ev_retN, ev_cif, ev_brk, ev_ct, ev_asg, ev_put, ev_aug, ev_for, ev_comp, ev_newL, ev_iseq, ev_irange, ev_ienum, ev_yes, Out.bind_ok, Out.bindN_ok, bindS_ok, Tg.set, Tg.sets, List.getElem?_cons_zero, List.getElem?_cons_succ, List.set_cons_zero, List.set_cons_succ, wipeE, List.length_cons, List.length_nil, Nat.reduceAdd, Nat.reduceLeDiff, Nat.reduceEqDiff, ↓reduceIte, Bool.false_eq_true, decide_eq_true_eq, add_int, sub_int, lt_int, gt_int, le_int, ge_int, neg_int, and_int, or_int, xor_int, max2_int, min2_int, mod_pos, fdiv_sm, mul_sm, mul_smr, Int.reduceLT, Int.reduceNeg, int_bl, int_int, sli_tup, ib, Bool.not_true, ic, e5, ne])).trans rfl)
    (fun ρ S' ⟨_, _, hρ, g'⟩ => g'.at a16)
  refine ⟨S17, ?_⟩
  rw [F_l_law]
  refine runF_rt (ρ := [some (.fl (ns.map .int)), none, none, none, none, none, none, none, none, none, none, none, none]) rfl rfl ?_
  unfold c_l_law
  have e0' := e0 [some (.fl (ns.map .int)), none, none, none, none, none, none, none, none, none, none, none, none] oNone (oSome (eCon (.int 1))) rfl (by simp only [ev_var, ev_con, ev_bin, ev_un, ev_anil, ev_acons, ev_call, ev_tup, ev_lst, ev_not, ev_and, ev_or, ev_if, ev_cbl, ev_btrue, ev_cand, ev_cor, ev_cnot, ev_sli, ev_onone, ev_osome, ev_chain, ev_meth, ev_get2, ev_newK, ev_newT, ev_own, ev_nil, ev_seq, ev_expr, ev_set, ev_ret, ev_retN, ev_cif, ev_brk, ev_ct, ev_asg, ev_put, ev_aug, ev_for, ev_comp, ev_newL, ev_iseq, ev_irange, ev_ienum, ev_yes, Out.bind_ok, Out.bindN_ok, bindS_ok, Tg.set, Tg.sets, List.getElem?_cons_zero, List.getElem?_cons_succ, List.set_cons_zero, List.set_cons_succ, wipeE, List.length_cons, List.length_nil, Nat.reduceAdd, Nat.reduceLeDiff, Nat.reduceEqDiff, ↓reduceIte, Bool.false_eq_true, decide_eq_true_eq, add_int, sub_int, lt_int, gt_int, le_int, ge_int, neg_int, and_int, or_int, xor_int, max2_int, min2_int, mod_pos, fdiv_sm, mul_sm, mul_smr, Int.reduceLT, Int.reduceNeg, int_bl, int_int, sli_tup]) (by simp only [ev_var, ev_con, ev_bin, ev_un, ev_anil, ev_acons, ev_call, ev_tup, ev_lst, ev_not, ev_and, ev_or, ev_if, ev_cbl, ev_btrue, ev_cand, ev_cor, ev_cnot, ev_sli, ev_onone, ev_osome, ev_chain, ev_meth, ev_get2, ev_newK, ev_newT, ev_own, ev_nil, ev_seq, ev_expr, ev_set, ev_ret, ev_retN, ev_cif, ev_brk, ev_ct, ev_asg, ev_put, ev_aug, ev_for, ev_comp, ev_newL, ev_iseq, ev_irange, ev_ienum, ev_yes, Out.bind_ok, Out.bindN_ok, bindS_ok, Tg.set, Tg.sets, List.getElem?_cons_zero, List.getElem?_cons_succ, List.set_cons_zero, List.set_cons_succ, wipeE, List.length_cons, List.length_nil, Nat.reduceAdd, Nat.reduceLeDiff, Nat.reduceEqDiff, ↓reduceIte, Bool.false_eq_true, decide_eq_true_eq, add_int, sub_int, lt_int, gt_int, le_int, ge_int, neg_int, and_int, or_int, xor_int, max2_int, min2_int, mod_pos, fdiv_sm, mul_sm, mul_smr, Int.reduceLT, Int.reduceNeg, int_bl, int_int, sli_tup])
  refine (seq_of (set_of (d := .ref ln) (S' := S1) (by rw [ev_own, ev_acons, e0']; simp only [ev_var, ev_con, ev_bin, ev_un, ev_anil, ev_acons, ev_call, ev_tup, ev_lst, ev_not, ev_and, ev_or, ev_if, ev_cbl, ev_btrue, ev_cand, ev_cor, ev_cnot, ev_sli, ev_onone, ev_osome, ev_chain, ev_meth, ev_get2, ev_newK, ev_newT, ev_own, ev_nil, ev_seq, ev_expr, ev_set, ev_ret, ev_retN, ev_cif, ev_brk, ev_ct, ev_asg, ev_put, ev_aug, ev_for, ev_comp, ev_newL, ev_iseq, ev_irange, ev_ienum, ev_yes, Out.bind_ok, Out.bindN_ok, bindS_ok, Tg.set, Tg.sets, List.getElem?_cons_zero, List.getElem?_cons_succ, List.set_cons_zero, List.set_cons_succ, wipeE, List.length_cons, List.length_nil, Nat.reduceAdd, Nat.reduceLeDiff, Nat.reduceEqDiff, ↓reduceIte, Bool.false_eq_true, decide_eq_true_eq, add_int, sub_int, lt_int, gt_int, le_int, ge_int, neg_int, and_int, or_int, xor_int, max2_int, min2_int, mod_pos, fdiv_sm, mul_sm, mul_smr, Int.reduceLT, Int.reduceNeg, int_bl, int_int, sli_tup, e1]))).trans ?_
  refine (seq_of (set_of (d := .ref S1.length) (S' := S2) (by simp only [List.set_cons_zero, List.set_cons_succ, e2]))).trans ?_
  refine (seq_of (set_of (d := .ref lp) (S' := S7) (by simp only [ev_var, ev_con, ev_bin, ev_un, ev_anil, ev_acons, ev_call, ev_tup, ev_lst, ev_not, ev_and, ev_or, ev_if, ev_cbl, ev_btrue, ev_cand, ev_cor, ev_cnot, ev_sli, ev_onone, ev_osome, ev_chain, ev_meth, ev_get2, ev_newK, ev_newT, ev_own, ev_nil, ev_seq, ev_expr, ev_set, ev_ret, ev_retN, ev_cif, ev_brk, ev_ct, ev_asg, ev_put, ev_aug, ev_for, ev_comp, ev_newL, ev_iseq, ev_irange, ev_ienum, ev_yes, Out.bind_ok, Out.bindN_ok, bindS_ok, Tg.set, Tg.sets, List.getElem?_cons_zero, List.getElem?_cons_succ, List.set_cons_zero, List.set_cons_succ, wipeE, List.length_cons, List.length_nil, Nat.reduceAdd, Nat.reduceLeDiff, Nat.reduceEqDiff, ↓reduceIte, Bool.false_eq_true, decide_eq_true_eq, add_int, sub_int, lt_int, gt_int, le_int, ge_int, neg_int, and_int, or_int, xor_int, max2_int, min2_int, mod_pos, fdiv_sm, mul_sm, mul_smr, Int.reduceLT, Int.reduceNeg, int_bl, int_int, sli_tup, e3, e4, ea, ix, sline 1 (by omega), sline 2 (by omega), hS6, e7]))).trans ?_
  refine (seq_of (set_of (d := .ref S7.length) (S' := S8) (by simp only [ev_var, ev_con, ev_bin, ev_un, ev_anil, ev_acons, ev_call, ev_tup, ev_lst, ev_not, ev_and, ev_or, ev_if, ev_cbl, ev_btrue, ev_cand, ev_cor, ev_cnot, ev_sli, ev_onone, ev_osome, ev_chain, ev_meth, ev_get2, ev_newK, ev_newT, ev_own, ev_nil, ev_seq, ev_expr, ev_set, ev_ret, ev_retN, ev_cif, ev_brk, ev_ct, ev_asg, ev_put, ev_aug, ev_for, ev_comp, ev_newL, ev_iseq, ev_irange, ev_ienum, ev_yes, Out.bind_ok, Out.bindN_ok, bindS_ok, Tg.set, Tg.sets, List.getElem?_cons_zero, List.getElem?_cons_succ, List.set_cons_zero, List.set_cons_succ, wipeE, List.length_cons, List.length_nil, Nat.reduceAdd, Nat.reduceLeDiff, Nat.reduceEqDiff, ↓reduceIte, Bool.false_eq_true, decide_eq_true_eq, add_int, sub_int, lt_int, gt_int, le_int, ge_int, neg_int, and_int, or_int, xor_int, max2_int, min2_int, mod_pos, fdiv_sm, mul_sm, mul_smr, Int.reduceLT, Int.reduceNeg, int_bl, int_int, sli_tup, sline 0 (by omega), hS8]))).trans ?_
  have ez : (PL.iEnumA (aCons (eVar 3) (aNil))) [some (.fl (ns.map .int)), some (.ref ln), some (.ref S1.length), some (.ref lp), some (.ref S7.length), none, none, none, none, none, none, none, none] S8 = .ok (enumL (zs.map En.d), .ls lp (zs.map En.d)) S8 := by
    simp only [PL.iEnumA, ev_var, ev_con, ev_bin, ev_un, ev_anil, ev_acons, ev_call, ev_tup, ev_lst, ev_not, ev_and, ev_or, ev_if, ev_cbl, ev_btrue, ev_cand, ev_cor, ev_cnot, ev_sli, ev_onone, ev_osome, ev_chain, ev_meth, ev_get2, ev_newK, ev_newT, ev_own, ev_nil, ev_seq, ev_expr, ev_set, ev_ret, ev_retN, ev_cif, ev_brk, ev_ct, ev_asg, ev_put, ev_aug, ev_for, ev_comp, ev_newL, ev_iseq, ev_irange, ev_ienum, ev_yes, Out.bind_ok, Out.bindN_ok, bindS_ok, Tg.set, Tg.sets, List.getElem?_cons_zero, List.getElem?_cons_succ, List.set_cons_zero, List.set_cons_succ, wipeE, List.length_cons, List.length_nil, Nat.reduceAdd, Nat.reduceLeDiff, Nat.reduceEqDiff, ↓reduceIte, Bool.false_eq_true, decide_eq_true_eq, add_int, sub_int, lt_int, gt_int, le_int, ge_int, neg_int, and_int, or_int, xor_int, max2_int, min2_int, mod_pos, fdiv_sm, mul_sm, mul_smr, Int.reduceLT, Int.reduceNeg, int_bl, int_int, sli_tup, seq_lst (lst_ref hz8)]; rfl
  refine (seq_of (expr_of (d := told) (S' := S10) ?_)).trans ?_
  · simp only [List.set_cons_zero, List.set_cons_succ, ev_var, ev_con, ev_bin, ev_un, ev_anil, ev_acons, ev_call, ev_tup, ev_lst, ev_not, ev_and, ev_or, ev_if, ev_cbl, ev_btrue, ev_cand, ev_cor, ev_cnot, ev_sli, ev_onone, ev_osome, ev_chain, ev_meth, ev_get2, ev_newK, ev_newT, ev_own, ev_nil, ev_seq, ev_expr, ev_set, ev_ret, ev_retN, ev_cif, ev_brk, ev_ct, ev_asg, ev_put, ev_aug, ev_for, ev_comp, ev_newL, ev_iseq, ev_irange, ev_ienum, ev_yes, Out.bind_ok, Out.bindN_ok, bindS_ok, Tg.set, Tg.sets, List.getElem?_cons_zero, List.getElem?_cons_succ, List.set_cons_zero, List.set_cons_succ, wipeE, List.length_cons, List.length_nil, Nat.reduceAdd, Nat.reduceLeDiff, Nat.reduceEqDiff, ↓reduceIte, Bool.false_eq_true, decide_eq_true_eq, add_int, sub_int, lt_int, gt_int, le_int, ge_int, neg_int, and_int, or_int, xor_int, max2_int, min2_int, mod_pos, fdiv_sm, mul_sm, mul_smr, Int.reduceLT, Int.reduceNeg, int_bl, int_int, sli_tup, ez, c9, hS9, m9, idx_t1, ip, idx_e0, e10]
  have e11' := e11 [some (.fl (ns.map .int)), some (.ref ln), some (.ref S1.length), some (.ref lp), some (.ref S7.length), none, none, none, none, none, none, none, none] (oSome (eCon (.int 2))) (oSome (eCon (.int 3))) rfl (by simp only [ev_var, ev_con, ev_bin, ev_un, ev_anil, ev_acons, ev_call, ev_tup, ev_lst, ev_not, ev_and, ev_or, ev_if, ev_cbl, ev_btrue, ev_cand, ev_cor, ev_cnot, ev_sli, ev_onone, ev_osome, ev_chain, ev_meth, ev_get2, ev_newK, ev_newT, ev_own, ev_nil, ev_seq, ev_expr, ev_set, ev_ret, ev_retN, ev_cif, ev_brk, ev_ct, ev_asg, ev_put, ev_aug, ev_for, ev_comp, ev_newL, ev_iseq, ev_irange, ev_ienum, ev_yes, Out.bind_ok, Out.bindN_ok, bindS_ok, Tg.set, Tg.sets, List.getElem?_cons_zero, List.getElem?_cons_succ, List.set_cons_zero, List.set_cons_succ, wipeE, List.length_cons, List.length_nil, Nat.reduceAdd, Nat.reduceLeDiff, Nat.reduceEqDiff, ↓reduceIte, Bool.false_eq_true, decide_eq_true_eq, add_int, sub_int, lt_int, gt_int, le_int, ge_int, neg_int, and_int, or_int, xor_int, max2_int, min2_int, mod_pos, fdiv_sm, mul_sm, mul_smr, Int.reduceLT, Int.reduceNeg, int_bl, int_int, sli_tup]) (by simp only [ev_var, ev_con, ev_bin, ev_un, ev_anil, ev_acons, ev_call, ev_tup, ev_lst, ev_not, ev_and, ev_or, ev_if, ev_cbl, ev_btrue, ev_cand, ev_cor, ev_cnot, ev_sli, ev_onone, ev_osome, ev_chain, ev_meth, ev_get2, ev_newK, ev_newT, ev_own, ev_nil, ev_seq, ev_expr, ev_set, ev_ret, ev_retN, ev_cif, ev_brk, ev_ct, ev_asg, ev_put, ev_aug, ev_for, ev_comp, ev_newL, ev_iseq, ev_irange, ev_ienum, ev_yes, Out.bind_ok, Out.bindN_ok, bindS_ok, Tg.set, Tg.sets, List.getElem?_cons_zero, List.getElem?_cons_succ, List.set_cons_zero, List.set_cons_succ, wipeE, List.length_cons, List.length_nil, Nat.reduceAdd, Nat.reduceLeDiff, Nat.reduceEqDiff, ↓reduceIte, Bool.false_eq_true, decide_eq_true_eq, add_int, sub_int, lt_int, gt_int, le_int, ge_int, neg_int, and_int, or_int, xor_int, max2_int, min2_int, mod_pos, fdiv_sm, mul_sm, mul_smr, Int.reduceLT, Int.reduceNeg, int_bl, int_int, sli_tup])
  refine (seq_of (set_of (d := .int c1) (S' := S11) e11')).trans ?_
  have m28 := mix_run (f := 38) (c := c1) (k := 28) (S := S11) (by omega) (by omega)
  refine (seq_of (set_of (d := .ref lr) (S' := S12) (by simp only [ev_var, ev_con, ev_bin, ev_un, ev_anil, ev_acons, ev_call, ev_tup, ev_lst, ev_not, ev_and, ev_or, ev_if, ev_cbl, ev_btrue, ev_cand, ev_cor, ev_cnot, ev_sli, ev_onone, ev_osome, ev_chain, ev_meth, ev_get2, ev_newK, ev_newT, ev_own, ev_nil, ev_seq, ev_expr, ev_set, ev_ret, ev_retN, ev_cif, ev_brk, ev_ct, ev_asg, ev_put, ev_aug, ev_for, ev_comp, ev_newL, ev_iseq, ev_irange, ev_ienum, ev_yes, Out.bind_ok, Out.bindN_ok, bindS_ok, Tg.set, Tg.sets, List.getElem?_cons_zero, List.getElem?_cons_succ, List.set_cons_zero, List.set_cons_succ, wipeE, List.length_cons, List.length_nil, Nat.reduceAdd, Nat.reduceLeDiff, Nat.reduceEqDiff, ↓reduceIte, Bool.false_eq_true, decide_eq_true_eq, add_int, sub_int, lt_int, gt_int, le_int, ge_int, neg_int, and_int, or_int, xor_int, max2_int, min2_int, mod_pos, fdiv_sm, mul_sm, mul_smr, Int.reduceLT, Int.reduceNeg, int_bl, int_int, sli_tup, m28, e12, idx_t0]))).trans ?_
  refine (seq_of (set_of (d := .ref S12.length) (S' := S13) (by simp only [ev_var, ev_con, ev_bin, ev_un, ev_anil, ev_acons, ev_call, ev_tup, ev_lst, ev_not, ev_and, ev_or, ev_if, ev_cbl, ev_btrue, ev_cand, ev_cor, ev_cnot, ev_sli, ev_onone, ev_osome, ev_chain, ev_meth, ev_get2, ev_newK, ev_newT, ev_own, ev_nil, ev_seq, ev_expr, ev_set, ev_ret, ev_retN, ev_cif, ev_brk, ev_ct, ev_asg, ev_put, ev_aug, ev_for, ev_comp, ev_newL, ev_iseq, ev_irange, ev_ienum, ev_yes, Out.bind_ok, Out.bindN_ok, bindS_ok, Tg.set, Tg.sets, List.getElem?_cons_zero, List.getElem?_cons_succ, List.set_cons_zero, List.set_cons_succ, wipeE, List.length_cons, List.length_nil, Nat.reduceAdd, Nat.reduceLeDiff, Nat.reduceEqDiff, ↓reduceIte, Bool.false_eq_true, decide_eq_true_eq, add_int, sub_int, lt_int, gt_int, le_int, ge_int, neg_int, and_int, or_int, xor_int, max2_int, min2_int, mod_pos, fdiv_sm, mul_sm, mul_smr, Int.reduceLT, Int.reduceNeg, int_bl, int_int, sli_tup, sline 0 (by omega), hS13]))).trans ?_
  refine (seq_of ((for_of (w := (rangeL 0 4, .tt)) (S' := S13) (by simp only [ev_var, ev_con, ev_bin, ev_un, ev_anil, ev_acons, ev_call, ev_tup, ev_lst, ev_not, ev_and, ev_or, ev_if, ev_cbl, ev_btrue, ev_cand, ev_cor, ev_cnot, ev_sli, ev_onone, ev_osome, ev_chain, ev_meth, ev_get2, ev_newK, ev_newT, ev_own, ev_nil, ev_seq, ev_expr, ev_set, ev_ret, ev_retN, ev_cif, ev_brk, ev_ct, ev_asg, ev_put, ev_aug, ev_for, ev_comp, ev_newL, ev_iseq, ev_irange, ev_ienum, ev_yes, Out.bind_ok, Out.bindN_ok, bindS_ok, Tg.set, Tg.sets, List.getElem?_cons_zero, List.getElem?_cons_succ, List.set_cons_zero, List.set_cons_succ, wipeE, List.length_cons, List.length_nil, Nat.reduceAdd, Nat.reduceLeDiff, Nat.reduceEqDiff, ↓reduceIte, Bool.false_eq_true, decide_eq_true_eq, add_int, sub_int, lt_int, gt_int, le_int, ge_int, neg_int, and_int, or_int, xor_int, max2_int, min2_int, mod_pos, fdiv_sm, mul_sm, mul_smr, Int.reduceLT, Int.reduceNeg, int_bl, int_int, sli_tup, rng1_of (i := 4) (by omega) (by omega)])).trans e14)).trans ?_
  refine (seq_of ((for_of (w := ((css ++ first).map Cs.d, .ls S15.length ((css ++ first).map Cs.d))) (S' := S16) (by simp only [ev_var, ev_con, ev_bin, ev_un, ev_anil, ev_acons, ev_call, ev_tup, ev_lst, ev_not, ev_and, ev_or, ev_if, ev_cbl, ev_btrue, ev_cand, ev_cor, ev_cnot, ev_sli, ev_onone, ev_osome, ev_chain, ev_meth, ev_get2, ev_newK, ev_newT, ev_own, ev_nil, ev_seq, ev_expr, ev_set, ev_ret, ev_retN, ev_cif, ev_brk, ev_ct, ev_asg, ev_put, ev_aug, ev_for, ev_comp, ev_newL, ev_iseq, ev_irange, ev_ienum, ev_yes, Out.bind_ok, Out.bindN_ok, bindS_ok, Tg.set, Tg.sets, List.getElem?_cons_zero, List.getElem?_cons_succ, List.set_cons_zero, List.set_cons_succ, wipeE, List.length_cons, List.length_nil, Nat.reduceAdd, Nat.reduceLeDiff, Nat.reduceEqDiff, ↓reduceIte, Bool.false_eq_true, decide_eq_true_eq, add_int, sub_int, lt_int, gt_int, le_int, ge_int, neg_int, and_int, or_int, xor_int, max2_int, min2_int, mod_pos, fdiv_sm, mul_sm, mul_smr, Int.reduceLT, Int.reduceNeg, int_bl, int_int, sli_tup, s15, ea15, walk_ref a16])).trans e17)).trans ?_
  exact ret_of rfl
end Wk

/-! the end (printed by gen.py) -/
namespace Wk
open PySem PySem.Spec PyProof.Rows L2 PL
section
variable {P : Program} {w : World} {K : PySem.W.Frag} {mg : Str → Option Value} {base : Heap} {fa : Fn → Addr} {fd : Fn → FuncData}
theorem all_mk {l : PySem.W.OpenLaw} {w : World} {K : PySem.W.Frag} {h : Heap} {mg : Str → Option Value} {fl : Addr} (X : K.In h) (G : h.Ns mainGlobals mg) (hfa : mg "law" = some (.ref fl))
    {f1 : Addr} {od1 an1 : Option Addr} {sl1 : Array (Option Value)} {oc1 kV1 dc1 pm1 cd1 ct1 : Value} (a1 : PySem.W.nsIn K mainGlobals "has_bit" = some (some (.ref f1)))
    (l1 : K.lookup f1 = some ⟨oc1, od1, .func (PySem.W.fnOf "has_bit" "has_bit" (defArgs s_has_bit) (defBody s_has_bit) (defScope s_has_bit) .none kV1 dc1 pm1 an1 cd1 ct1), sl1⟩) (c1 : PySem.W.codeIn K cd1 "has_bit" = true) (k1 : PySem.W.keepIn K (.ref f1) = true)
    {f2 : Addr} {od2 an2 : Option Addr} {sl2 : Array (Option Value)} {oc2 kV2 dc2 pm2 cd2 ct2 : Value} (a2 : PySem.W.nsIn K mainGlobals "says" = some (some (.ref f2)))
    (l2 : K.lookup f2 = some ⟨oc2, od2, .func (PySem.W.fnOf "says" "says" (defArgs s_says) (defBody s_says) (defScope s_says) .none kV2 dc2 pm2 an2 cd2 ct2), sl2⟩) (c2 : PySem.W.codeIn K cd2 "says" = true) (k2 : PySem.W.keepIn K (.ref f2) = true)
    {f3 : Addr} {od3 an3 : Option Addr} {sl3 : Array (Option Value)} {oc3 kV3 dc3 pm3 cd3 ct3 : Value} (a3 : PySem.W.nsIn K mainGlobals "mask_of" = some (some (.ref f3)))
    (l3 : K.lookup f3 = some ⟨oc3, od3, .func (PySem.W.fnOf "mask_of" "mask_of" (defArgs s_mask_of) (defBody s_mask_of) (defScope s_mask_of) .none kV3 dc3 pm3 an3 cd3 ct3), sl3⟩) (c3 : PySem.W.codeIn K cd3 "mask_of" = true) (k3 : PySem.W.keepIn K (.ref f3) = true)
    {f4 : Addr} {od4 an4 : Option Addr} {sl4 : Array (Option Value)} {oc4 kV4 dc4 pm4 cd4 ct4 : Value} (a4 : PySem.W.nsIn K mainGlobals "_law_mix" = some (some (.ref f4)))
    (l4 : K.lookup f4 = some ⟨oc4, od4, .func (PySem.W.fnOf "_law_mix" "_law_mix" (defArgs s_l_mix) (defBody s_l_mix) (defScope s_l_mix) .none kV4 dc4 pm4 an4 cd4 ct4), sl4⟩) (c4 : PySem.W.codeIn K cd4 "_law_mix" = true) (k4 : PySem.W.keepIn K (.ref f4) = true)
    {f5 : Addr} {od5 an5 : Option Addr} {sl5 : Array (Option Value)} {oc5 kV5 dc5 pm5 cd5 ct5 : Value} (a5 : PySem.W.nsIn K mainGlobals "_law_cells" = some (some (.ref f5)))
    (l5 : K.lookup f5 = some ⟨oc5, od5, .func (PySem.W.fnOf "_law_cells" "_law_cells" (defArgs s_l_cells) (defBody s_l_cells) (defScope s_l_cells) .none kV5 dc5 pm5 an5 cd5 ct5), sl5⟩) (c5 : PySem.W.codeIn K cd5 "_law_cells" = true) (k5 : PySem.W.keepIn K (.ref f5) = true)
    {f6 : Addr} {od6 an6 : Option Addr} {sl6 : Array (Option Value)} {oc6 kV6 dc6 pm6 cd6 ct6 : Value} (a6 : PySem.W.nsIn K mainGlobals "_law_names" = some (some (.ref f6)))
    (l6 : K.lookup f6 = some ⟨oc6, od6, .func (PySem.W.fnOf "_law_names" "_law_names" (defArgs s_l_names) (defBody s_l_names) (defScope s_l_names) .none kV6 dc6 pm6 an6 cd6 ct6), sl6⟩) (c6 : PySem.W.codeIn K cd6 "_law_names" = true) (k6 : PySem.W.keepIn K (.ref f6) = true)
    {f7 : Addr} {od7 an7 : Option Addr} {sl7 : Array (Option Value)} {oc7 kV7 dc7 pm7 cd7 ct7 : Value} (a7 : PySem.W.nsIn K mainGlobals "_law_leaf" = some (some (.ref f7)))
    (l7 : K.lookup f7 = some ⟨oc7, od7, .func (PySem.W.fnOf "_law_leaf" "_law_leaf" (defArgs s_l_leaf) (defBody s_l_leaf) (defScope s_l_leaf) .none kV7 dc7 pm7 an7 cd7 ct7), sl7⟩) (c7 : PySem.W.codeIn K cd7 "_law_leaf" = true) (k7 : PySem.W.keepIn K (.ref f7) = true)
    {f8 : Addr} {od8 an8 : Option Addr} {sl8 : Array (Option Value)} {oc8 kV8 dc8 pm8 cd8 ct8 : Value} (a8 : PySem.W.nsIn K mainGlobals "_law_truths" = some (some (.ref f8)))
    (l8 : K.lookup f8 = some ⟨oc8, od8, .func (PySem.W.fnOf "_law_truths" "_law_truths" (defArgs s_l_truths) (defBody s_l_truths) (defScope s_l_truths) .none kV8 dc8 pm8 an8 cd8 ct8), sl8⟩) (c8 : PySem.W.codeIn K cd8 "_law_truths" = true) (k8 : PySem.W.keepIn K (.ref f8) = true)
    {f9 : Addr} {od9 an9 : Option Addr} {sl9 : Array (Option Value)} {oc9 kV9 dc9 pm9 cd9 ct9 : Value} (a9 : PySem.W.nsIn K mainGlobals "_law_before" = some (some (.ref f9)))
    (l9 : K.lookup f9 = some ⟨oc9, od9, .func (PySem.W.fnOf "_law_before" "_law_before" (defArgs s_l_before) (defBody s_l_before) (defScope s_l_before) .none kV9 dc9 pm9 an9 cd9 ct9), sl9⟩) (c9 : PySem.W.codeIn K cd9 "_law_before" = true) (k9 : PySem.W.keepIn K (.ref f9) = true)
    {f10 : Addr} {od10 an10 : Option Addr} {sl10 : Array (Option Value)} {oc10 kV10 dc10 pm10 cd10 ct10 : Value} (a10 : PySem.W.nsIn K mainGlobals "_law_many" = some (some (.ref f10)))
    (l10 : K.lookup f10 = some ⟨oc10, od10, .func (PySem.W.fnOf "_law_many" "_law_many" (defArgs s_l_many) (defBody s_l_many) (defScope s_l_many) .none kV10 dc10 pm10 an10 cd10 ct10), sl10⟩) (c10 : PySem.W.codeIn K cd10 "_law_many" = true) (k10 : PySem.W.keepIn K (.ref f10) = true)
    {f11 : Addr} {od11 an11 : Option Addr} {sl11 : Array (Option Value)} {oc11 kV11 dc11 pm11 cd11 ct11 : Value} (a11 : PySem.W.nsIn K mainGlobals "_law_way" = some (some (.ref f11)))
    (l11 : K.lookup f11 = some ⟨oc11, od11, .func (PySem.W.fnOf "_law_way" "_law_way" (defArgs s_l_way) (defBody s_l_way) (defScope s_l_way) .none kV11 dc11 pm11 an11 cd11 ct11), sl11⟩) (c11 : PySem.W.codeIn K cd11 "_law_way" = true) (k11 : PySem.W.keepIn K (.ref f11) = true)
    {f12 : Addr} {od12 an12 : Option Addr} {sl12 : Array (Option Value)} {oc12 kV12 dc12 pm12 cd12 ct12 : Value} (a12 : PySem.W.nsIn K mainGlobals "_law_pile" = some (some (.ref f12)))
    (l12 : K.lookup f12 = some ⟨oc12, od12, .func (PySem.W.fnOf "_law_pile" "_law_pile" (defArgs s_l_pile) (defBody s_l_pile) (defScope s_l_pile) .none kV12 dc12 pm12 an12 cd12 ct12), sl12⟩) (c12 : PySem.W.codeIn K cd12 "_law_pile" = true) (k12 : PySem.W.keepIn K (.ref f12) = true)
    {f13 : Addr} {od13 an13 : Option Addr} {sl13 : Array (Option Value)} {oc13 kV13 dc13 pm13 cd13 ct13 : Value} (a13 : PySem.W.nsIn K mainGlobals "_law_turned" = some (some (.ref f13)))
    (l13 : K.lookup f13 = some ⟨oc13, od13, .func (PySem.W.fnOf "_law_turned" "_law_turned" (defArgs s_l_turned) (defBody s_l_turned) (defScope s_l_turned) .none kV13 dc13 pm13 an13 cd13 ct13), sl13⟩) (c13 : PySem.W.codeIn K cd13 "_law_turned" = true) (k13 : PySem.W.keepIn K (.ref f13) = true)
    {f14 : Addr} {od14 an14 : Option Addr} {sl14 : Array (Option Value)} {oc14 kV14 dc14 pm14 cd14 ct14 : Value} (a14 : PySem.W.nsIn K mainGlobals "_law_dealt_look" = some (some (.ref f14)))
    (l14 : K.lookup f14 = some ⟨oc14, od14, .func (PySem.W.fnOf "_law_dealt_look" "_law_dealt_look" (defArgs s_l_dealt_look) (defBody s_l_dealt_look) (defScope s_l_dealt_look) .none kV14 dc14 pm14 an14 cd14 ct14), sl14⟩) (c14 : PySem.W.codeIn K cd14 "_law_dealt_look" = true) (k14 : PySem.W.keepIn K (.ref f14) = true)
    {f15 : Addr} {od15 an15 : Option Addr} {sl15 : Array (Option Value)} {oc15 kV15 dc15 pm15 cd15 ct15 : Value} (a15 : PySem.W.nsIn K mainGlobals "_law_dealt" = some (some (.ref f15)))
    (l15 : K.lookup f15 = some ⟨oc15, od15, .func (PySem.W.fnOf "_law_dealt" "_law_dealt" (defArgs s_l_dealt) (defBody s_l_dealt) (defScope s_l_dealt) .none kV15 dc15 pm15 an15 cd15 ct15), sl15⟩) (c15 : PySem.W.codeIn K cd15 "_law_dealt" = true) (k15 : PySem.W.keepIn K (.ref f15) = true)
    {f16 : Addr} {od16 an16 : Option Addr} {sl16 : Array (Option Value)} {oc16 kV16 dc16 pm16 cd16 ct16 : Value} (a16 : PySem.W.nsIn K mainGlobals "_law_truth" = some (some (.ref f16)))
    (l16 : K.lookup f16 = some ⟨oc16, od16, .func (PySem.W.fnOf "_law_truth" "_law_truth" (defArgs s_l_truth) (defBody s_l_truth) (defScope s_l_truth) .none kV16 dc16 pm16 an16 cd16 ct16), sl16⟩) (c16 : PySem.W.codeIn K cd16 "_law_truth" = true) (k16 : PySem.W.keepIn K (.ref f16) = true)
    {f17 : Addr} {od17 an17 : Option Addr} {sl17 : Array (Option Value)} {oc17 kV17 dc17 pm17 cd17 ct17 : Value} (a17 : PySem.W.nsIn K mainGlobals "_law_due" = some (some (.ref f17)))
    (l17 : K.lookup f17 = some ⟨oc17, od17, .func (PySem.W.fnOf "_law_due" "_law_due" (defArgs s_l_due) (defBody s_l_due) (defScope s_l_due) .none kV17 dc17 pm17 an17 cd17 ct17), sl17⟩) (c17 : PySem.W.codeIn K cd17 "_law_due" = true) (k17 : PySem.W.keepIn K (.ref f17) = true)
    {f18 : Addr} {od18 an18 : Option Addr} {sl18 : Array (Option Value)} {oc18 kV18 dc18 pm18 cd18 ct18 : Value} (a18 : PySem.W.nsIn K mainGlobals "_law_bits" = some (some (.ref f18)))
    (l18 : K.lookup f18 = some ⟨oc18, od18, .func (PySem.W.fnOf "_law_bits" "_law_bits" (defArgs s_l_bits) (defBody s_l_bits) (defScope s_l_bits) .none kV18 dc18 pm18 an18 cd18 ct18), sl18⟩) (c18 : PySem.W.codeIn K cd18 "_law_bits" = true) (k18 : PySem.W.keepIn K (.ref f18) = true)
    {f19 : Addr} {od19 an19 : Option Addr} {sl19 : Array (Option Value)} {oc19 kV19 dc19 pm19 cd19 ct19 : Value} (a19 : PySem.W.nsIn K mainGlobals "law" = some (some (.ref f19)))
    (l19 : K.lookup f19 = some ⟨oc19, od19, .func (PySem.W.fnOf "law" "law" (defArgs s_l_law) (defBody s_l_law) (defScope s_l_law) .none kV19 dc19 pm19 an19 cd19 ct19), sl19⟩) (c19 : PySem.W.codeIn K cd19 "law" = true) (k19 : PySem.W.keepIn K (.ref f19) = true)
    (z_bool : PySem.W.nsIn K mainGlobals "bool" = some none)
    (z_enumerate : PySem.W.nsIn K mainGlobals "enumerate" = some none)
    (z_int : PySem.W.nsIn K mainGlobals "int" = some none)
    (z_isinstance : PySem.W.nsIn K mainGlobals "isinstance" = some none)
    (z_len : PySem.W.nsIn K mainGlobals "len" = some none)
    (z_max : PySem.W.nsIn K mainGlobals "max" = some none)
    (z_min : PySem.W.nsIn K mainGlobals "min" = some none)
    (z_range : PySem.W.nsIn K mainGlobals "range" = some none)
    (z_reversed : PySem.W.nsIn K mainGlobals "reversed" = some none)
    (z_sum : PySem.W.nsIn K mainGlobals "sum" = some none)
    (z_tuple : PySem.W.nsIn K mainGlobals "tuple" = some none)
    : ∃ fd : FuncData, (∀ (s : Shared) (v : Value), BindsTo s fd ⟨[v], []⟩ [("_law_script", v)]) ∧ ∀ base : Heap, K.In base → base.Ns mainGlobals mg → FnOk l.prog w K mg base CX0 40 fl fd ["_law_script"] (spD K mg (F 40 .l_law) 1) := by
  have e := hfa.symm.trans (PySem.W.mg_of X G a19)
  cases e
  have F1 := fun_mk (st := s_has_bit) l1 c1 k1
  have b1 := F1.binds (ps := p_has_bit) fun _ _ _ _ _ _ us hl => match us, hl with | [_, _], _ => rfl
  have F2 := fun_mk (st := s_says) l2 c2 k2
  have b2 := F2.binds (ps := p_says) fun _ _ _ _ _ _ us hl => match us, hl with | [_, _, _, _, _, _], _ => rfl
  have F3 := fun_mk (st := s_mask_of) l3 c3 k3
  have b3 := F3.binds (ps := p_mask_of) fun _ _ _ _ _ _ us hl => match us, hl with | [_, _, _, _, _], _ => rfl
  have F4 := fun_mk (st := s_l_mix) l4 c4 k4
  have b4 := F4.binds (ps := p_l_mix) fun _ _ _ _ _ _ us hl => match us, hl with | [_, _], _ => rfl
  have F5 := fun_mk (st := s_l_cells) l5 c5 k5
  have b5 := F5.binds (ps := p_l_cells) fun _ _ _ _ _ _ us hl => match us, hl with | [_, _], _ => rfl
  have F6 := fun_mk (st := s_l_names) l6 c6 k6
  have b6 := F6.binds (ps := p_l_names) fun _ _ _ _ _ _ us hl => match us, hl with | [_], _ => rfl
  have F7 := fun_mk (st := s_l_leaf) l7 c7 k7
  have b7 := F7.binds (ps := p_l_leaf) fun _ _ _ _ _ _ us hl => match us, hl with | [_, _, _, _], _ => rfl
  have F8 := fun_mk (st := s_l_truths) l8 c8 k8
  have b8 := F8.binds (ps := p_l_truths) fun _ _ _ _ _ _ us hl => match us, hl with | [_, _, _], _ => rfl
  have F9 := fun_mk (st := s_l_before) l9 c9 k9
  have b9 := F9.binds (ps := p_l_before) fun _ _ _ _ _ _ us hl => match us, hl with | [_, _], _ => rfl
  have F10 := fun_mk (st := s_l_many) l10 c10 k10
  have b10 := F10.binds (ps := p_l_many) fun _ _ _ _ _ _ us hl => match us, hl with | [_, _], _ => rfl
  have F11 := fun_mk (st := s_l_way) l11 c11 k11
  have b11 := F11.binds (ps := p_l_way) fun _ _ _ _ _ _ us hl => match us, hl with | [_, _, _, _], _ => rfl
  have F12 := fun_mk (st := s_l_pile) l12 c12 k12
  have b12 := F12.binds (ps := p_l_pile) fun _ _ _ _ _ _ us hl => match us, hl with | [_, _, _, _, _], _ => rfl
  have F13 := fun_mk (st := s_l_turned) l13 c13 k13
  have b13 := F13.binds (ps := p_l_turned) fun _ _ _ _ _ _ us hl => match us, hl with | [_, _], _ => rfl
  have F14 := fun_mk (st := s_l_dealt_look) l14 c14 k14
  have b14 := F14.binds (ps := p_l_dealt_look) fun _ _ _ _ _ _ us hl => match us, hl with | [_, _], _ => rfl
  have F15 := fun_mk (st := s_l_dealt) l15 c15 k15
  have b15 := F15.binds (ps := p_l_dealt) fun _ _ _ _ _ _ us hl => match us, hl with | [_, _], _ => rfl
  have F16 := fun_mk (st := s_l_truth) l16 c16 k16
  have b16 := F16.binds (ps := p_l_truth) fun _ _ _ _ _ _ us hl => match us, hl with | [_, _, _], _ => rfl
  have F17 := fun_mk (st := s_l_due) l17 c17 k17
  have b17 := F17.binds (ps := p_l_due) fun _ _ _ _ _ _ us hl => match us, hl with | [_, _], _ => rfl
  have F18 := fun_mk (st := s_l_bits) l18 c18 k18
  have b18 := F18.binds (ps := p_l_bits) fun _ _ _ _ _ _ us hl => match us, hl with | [_, _, _], _ => rfl
  have F19 := fun_mk (st := s_l_law) l19 c19 k19
  have b19 := F19.binds (ps := p_l_law) fun _ _ _ _ _ _ us hl => match us, hl with | [_], _ => rfl
  have T : Tx K mg (fun | .has_bit => f1 | .says => f2 | .mask_of => f3 | .l_mix => f4 | .l_cells => f5 | .l_names => f6 | .l_leaf => f7 | .l_truths => f8 | .l_before => f9 | .l_many => f10 | .l_way => f11 | .l_pile => f12 | .l_turned => f13 | .l_dealt_look => f14 | .l_dealt => f15 | .l_truth => f16 | .l_due => f17 | .l_bits => f18 | .l_law => fl) (fun | .has_bit => PySem.W.fnOf "has_bit" "has_bit" (defArgs s_has_bit) (defBody s_has_bit) (defScope s_has_bit) .none kV1 dc1 pm1 an1 cd1 ct1 | .says => PySem.W.fnOf "says" "says" (defArgs s_says) (defBody s_says) (defScope s_says) .none kV2 dc2 pm2 an2 cd2 ct2 | .mask_of => PySem.W.fnOf "mask_of" "mask_of" (defArgs s_mask_of) (defBody s_mask_of) (defScope s_mask_of) .none kV3 dc3 pm3 an3 cd3 ct3 | .l_mix => PySem.W.fnOf "_law_mix" "_law_mix" (defArgs s_l_mix) (defBody s_l_mix) (defScope s_l_mix) .none kV4 dc4 pm4 an4 cd4 ct4 | .l_cells => PySem.W.fnOf "_law_cells" "_law_cells" (defArgs s_l_cells) (defBody s_l_cells) (defScope s_l_cells) .none kV5 dc5 pm5 an5 cd5 ct5 | .l_names => PySem.W.fnOf "_law_names" "_law_names" (defArgs s_l_names) (defBody s_l_names) (defScope s_l_names) .none kV6 dc6 pm6 an6 cd6 ct6 | .l_leaf => PySem.W.fnOf "_law_leaf" "_law_leaf" (defArgs s_l_leaf) (defBody s_l_leaf) (defScope s_l_leaf) .none kV7 dc7 pm7 an7 cd7 ct7 | .l_truths => PySem.W.fnOf "_law_truths" "_law_truths" (defArgs s_l_truths) (defBody s_l_truths) (defScope s_l_truths) .none kV8 dc8 pm8 an8 cd8 ct8 | .l_before => PySem.W.fnOf "_law_before" "_law_before" (defArgs s_l_before) (defBody s_l_before) (defScope s_l_before) .none kV9 dc9 pm9 an9 cd9 ct9 | .l_many => PySem.W.fnOf "_law_many" "_law_many" (defArgs s_l_many) (defBody s_l_many) (defScope s_l_many) .none kV10 dc10 pm10 an10 cd10 ct10 | .l_way => PySem.W.fnOf "_law_way" "_law_way" (defArgs s_l_way) (defBody s_l_way) (defScope s_l_way) .none kV11 dc11 pm11 an11 cd11 ct11 | .l_pile => PySem.W.fnOf "_law_pile" "_law_pile" (defArgs s_l_pile) (defBody s_l_pile) (defScope s_l_pile) .none kV12 dc12 pm12 an12 cd12 ct12 | .l_turned => PySem.W.fnOf "_law_turned" "_law_turned" (defArgs s_l_turned) (defBody s_l_turned) (defScope s_l_turned) .none kV13 dc13 pm13 an13 cd13 ct13 | .l_dealt_look => PySem.W.fnOf "_law_dealt_look" "_law_dealt_look" (defArgs s_l_dealt_look) (defBody s_l_dealt_look) (defScope s_l_dealt_look) .none kV14 dc14 pm14 an14 cd14 ct14 | .l_dealt => PySem.W.fnOf "_law_dealt" "_law_dealt" (defArgs s_l_dealt) (defBody s_l_dealt) (defScope s_l_dealt) .none kV15 dc15 pm15 an15 cd15 ct15 | .l_truth => PySem.W.fnOf "_law_truth" "_law_truth" (defArgs s_l_truth) (defBody s_l_truth) (defScope s_l_truth) .none kV16 dc16 pm16 an16 cd16 ct16 | .l_due => PySem.W.fnOf "_law_due" "_law_due" (defArgs s_l_due) (defBody s_l_due) (defScope s_l_due) .none kV17 dc17 pm17 an17 cd17 ct17 | .l_bits => PySem.W.fnOf "_law_bits" "_law_bits" (defArgs s_l_bits) (defBody s_l_bits) (defScope s_l_bits) .none kV18 dc18 pm18 an18 cd18 ct18 | .l_law => PySem.W.fnOf "law" "law" (defArgs s_l_law) (defBody s_l_law) (defScope s_l_law) .none kV19 dc19 pm19 an19 cd19 ct19) :=
    ⟨F1, PySem.W.mg_of X G a1, b1, F2, PySem.W.mg_of X G a2, b2, F3, PySem.W.mg_of X G a3, b3, F4, PySem.W.mg_of X G a4, b4, F5, PySem.W.mg_of X G a5, b5, F6, PySem.W.mg_of X G a6, b6, F7, PySem.W.mg_of X G a7, b7, F8, PySem.W.mg_of X G a8, b8, F9, PySem.W.mg_of X G a9, b9, F10, PySem.W.mg_of X G a10, b10, F11, PySem.W.mg_of X G a11, b11, F12, PySem.W.mg_of X G a12, b12, F13, PySem.W.mg_of X G a13, b13, F14, PySem.W.mg_of X G a14, b14, F15, PySem.W.mg_of X G a15, b15, F16, PySem.W.mg_of X G a16, b16, F17, PySem.W.mg_of X G a17, b17, F18, PySem.W.mg_of X G a18, b18, F19, PySem.W.mg_of X G a19, b19, PySem.W.mg_none_of X G z_bool, PySem.W.mg_none_of X G z_enumerate, PySem.W.mg_none_of X G z_int, PySem.W.mg_none_of X G z_isinstance, PySem.W.mg_none_of X G z_len, PySem.W.mg_none_of X G z_max, PySem.W.mg_none_of X G z_min, PySem.W.mg_none_of X G z_range, PySem.W.mg_none_of X G z_reversed, PySem.W.mg_none_of X G z_sum, PySem.W.mg_none_of X G z_tuple⟩
  exact ⟨_, fun s v => .of_eq rfl, fun base _ _ => ok_all T 40 .l_law⟩
end
theorem walk {l : PySem.W.OpenLaw} {q : Program} {loose : List Str} {XP : (Str → Option Value) → Heap → Prop} {YP : World → Heap → Prop} {d : DefRec} {K : Params → PySem.W.Frag} (hn : l.most = some 63) (hdf : d.params.defaults = [])
    (hY : ∀ (w : World) (h : Heap), YP w h → (K w.params).In h)
    (FF : ∀ (w : World) (mg : Str → Option Value) (fa : Addr) (h : Heap), (K w.params).In h → h.Ns mainGlobals mg → mg d.name = some (.ref fa) →
      ∃ fd : FuncData, (∀ (s : Shared) (u : Value), BindsTo s fd ⟨[u], []⟩ [("_law_script", u)]) ∧ ∀ base : Heap, (K w.params).In base → base.Ns mainGlobals mg → FnOk l.prog w (K w.params) mg base CX0 40 fa fd ["_law_script"] (spD (K w.params) mg (F 40 .l_law) 1)) :
    PySem.W.WalkO q loose XP YP l.row.toRowW d [] (fun f vs => PySem.call f vs) :=
  walk_law (k := 40) (x := "_law_script") hn hdf ⟨rfl, by decide, by decide⟩ hY law_true FF
end Wk
open PySem PySem.W PyProof.Rows in
set_option maxRecDepth 100000 in
set_option maxHeartbeats 0 in
theorem PySem.Challenge.cw_pathshape_k43_masks_of_places_holds : PySem.Challenge.rw_pathshape_k43_masks_of_places.Holds := by
  w_on; o_law; k_head; (case hw => w_witness2)
  k_fill
  refine Wk.walk (l := PySem.Challenge.rw_pathshape_k43_masks_of_places) rfl rfl (fun w h Y => PySem.W.kIn_of Y) ?FF
  case FF =>
    intro w mg fa h KX G hmg
    refine' Wk.all_mk KX G hmg ?a1 ?l1 ?c1 ?k1 ?a2 ?l2 ?c2 ?k2 ?a3 ?l3 ?c3 ?k3 ?a4 ?l4 ?c4 ?k4 ?a5 ?l5 ?c5 ?k5 ?a6 ?l6 ?c6 ?k6 ?a7 ?l7 ?c7 ?k7 ?a8 ?l8 ?c8 ?k8 ?a9 ?l9 ?c9 ?k9 ?a10 ?l10 ?c10 ?k10 ?a11 ?l11 ?c11 ?k11 ?a12 ?l12 ?c12 ?k12 ?a13 ?l13 ?c13 ?k13 ?a14 ?l14 ?c14 ?k14 ?a15 ?l15 ?c15 ?k15 ?a16 ?l16 ?c16 ?k16 ?a17 ?l17 ?c17 ?k17 ?a18 ?l18 ?c18 ?k18 ?a19 ?l19 ?c19 ?k19 ?z_bool ?z_enumerate ?z_int ?z_isinstance ?z_len ?z_max ?z_min ?z_range ?z_reversed ?z_sum ?z_tuple
    (case a1 => k_is)
    (case l1 => k_is)
    (case c1 => k_is)
    (case k1 => k_is)
    (case a2 => k_is)
    (case l2 => k_is)
    (case c2 => k_is)
    (case k2 => k_is)
    (case a3 => k_is)
    (case l3 => k_is)
    (case c3 => k_is)
    (case k3 => k_is)
    (case a4 => k_is)
    (case l4 => k_is)
    (case c4 => k_is)
    (case k4 => k_is)
    (case a5 => k_is)
    (case l5 => k_is)
    (case c5 => k_is)
    (case k5 => k_is)
    (case a6 => k_is)
    (case l6 => k_is)
    (case c6 => k_is)
    (case k6 => k_is)
    (case a7 => k_is)
    (case l7 => k_is)
    (case c7 => k_is)
    (case k7 => k_is)
    (case a8 => k_is)
    (case l8 => k_is)
    (case c8 => k_is)
    (case k8 => k_is)
    (case a9 => k_is)
    (case l9 => k_is)
    (case c9 => k_is)
    (case k9 => k_is)
    (case a10 => k_is)
    (case l10 => k_is)
    (case c10 => k_is)
    (case k10 => k_is)
    (case a11 => k_is)
    (case l11 => k_is)
    (case c11 => k_is)
    (case k11 => k_is)
    (case a12 => k_is)
    (case l12 => k_is)
    (case c12 => k_is)
    (case k12 => k_is)
    (case a13 => k_is)
    (case l13 => k_is)
    (case c13 => k_is)
    (case k13 => k_is)
    (case a14 => k_is)
    (case l14 => k_is)
    (case c14 => k_is)
    (case k14 => k_is)
    (case a15 => k_is)
    (case l15 => k_is)
    (case c15 => k_is)
    (case k15 => k_is)
    (case a16 => k_is)
    (case l16 => k_is)
    (case c16 => k_is)
    (case k16 => k_is)
    (case a17 => k_is)
    (case l17 => k_is)
    (case c17 => k_is)
    (case k17 => k_is)
    (case a18 => k_is)
    (case l18 => k_is)
    (case c18 => k_is)
    (case k18 => k_is)
    (case a19 => k_is)
    (case l19 => k_is)
    (case c19 => k_is)
    (case k19 => k_is)
    (case z_bool => k_is)
    (case z_enumerate => k_is)
    (case z_int => k_is)
    (case z_isinstance => k_is)
    (case z_len => k_is)
    (case z_max => k_is)
    (case z_min => k_is)
    (case z_range => k_is)
    (case z_reversed => k_is)
    (case z_sum => k_is)
    (case z_tuple => k_is)
#print axioms PySem.Challenge.cw_pathshape_k43_masks_of_places_holds
