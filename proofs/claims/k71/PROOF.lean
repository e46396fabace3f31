import PyProof.Rows.All
import Wide.All
import OpenK.AllK
import Wide.FinOn
import HandS.ForMost
import HandS.Deep
import HandS.TupAny
import HandS.Wide
import HandS.WideBits
import HandS.Conv
import HandS.DictTup
import HandS.IsInst
import HandS.Flow
import HandS.More
import HandS.TupLen
import HandS.WordsDict
import HandS.CallSlots
import KE.GoesEnum
import PySem.Challenge.RW_pathshape_k71_looks_numbered
set_option Elab.async false
set_option linter.all false
set_option maxRecDepth 100000
set_option maxHeartbeats 4000000
namespace PL
open PySem PySem.Spec PyProof.Rows L2

/-! ### data, store, outcomes -/
inductive Dv where
  | non | bl (b : Bool) | int (i : Int) | str (x : Str) | tup (ds : List Dv) | kt (ds : List Dv) | fl (ds : List Dv) | ref (l : Nat)
inductive Ob where
  | lst (ds : List Dv) | dk (kvs : List (L2.Key × Dv)) | dt (kvs : List (List L2.Key × Dv))
abbrev Sto := List Ob
abbrev Env := List (Option Dv)
structure Ex where
  cls : Str
  fs : Option (Str × Dv)
inductive Out (α : Type) where
  | ok (a : α) (S : Sto) | ex (x : Ex) (S : Sto) | no
def Out.bind {α β : Type} : Out α → (α → Sto → Out β) → Out β
  | .ok a S, f => f a S
  | .ex x S, _ => .ex x S
  | .no, _ => .no
@[simp] theorem Out.bind_ok {α β : Type} (a : α) (S : Sto) (f : α → Sto → Out β) : (Out.ok a S).bind f = f a S := rfl
@[simp] theorem Out.bind_ex {α β : Type} (x : Ex) (S : Sto) (f : α → Sto → Out β) : (Out.ex x S : Out α).bind f = .ex x S := rfl
@[simp] theorem Out.bind_no {α β : Type} (f : α → Sto → Out β) : (Out.no : Out α).bind f = .no := rfl
/-- what is raised here is not told -/
def Out.bindN {α β : Type} : Out α → (α → Sto → Out β) → Out β
  | .ok a S, f => f a S
  | _, _ => .no
@[simp] theorem Out.bindN_ok {α β : Type} (a : α) (S : Sto) (f : α → Sto → Out β) : (Out.ok a S).bindN f = f a S := rfl
abbrev RE := Env → Sto → Out Dv
abbrev RT := Env → Sto → Out Bool
abbrev RA := Env → Sto → Out (List Dv)

/-! ### what a value stands for -/
def TupAt (μ : List Addr) (H : Hp) (a : Addr) (vs : List V) : Prop := H a = some (.tup vs) ∧ a ∉ μ
def ConAt (K : PySem.W.Frag) (a : Addr) (vs : List V) : Prop :=
  ∃ (o : Obj) (its : Array Value) (n : Nat), K.lookup a = some o ∧ o.cls = .type "tuple" ∧ o.data = .seq its n ∧ its.size ≤ sizeLine ∧ Vals vs its.toList
def LisAt (K : PySem.W.Frag) (μ : List Addr) (H : Hp) (a : Addr) (vs : List V) : Prop :=
  ((∃ o, H a = some (.frz o (.lst vs))) ∧ a ∉ μ) ∨ ∃ (o : Obj) (its : Array Value) (n : Nat), K.lookup a = some o ∧ o.cls = .type "list" ∧ o.dict = none ∧ o.data = .seq its n ∧ its.size ≤ sizeLine ∧ Vals vs its.toList
inductive Rep (K : PySem.W.Frag) (μ : List Addr) (H : Hp) : V → Dv → Prop
  | non : Rep K μ H .non .non
  | bl (b : Bool) : Rep K μ H (.bl b) (.bl b)
  | int (i : Int) : Rep K μ H (.int i) (.int i)
  | str (x : Str) : Rep K μ H (.str x) (.str x)
  | ref {l : Nat} {a : Addr} : μ[l]? = some a → Rep K μ H (.ref a) (.ref l)
  | kt {a : Addr} {vs : List V} {ds : List Dv} : ConAt K a vs → vs.length = ds.length → (∀ (i : Nat) (v : V) (d : Dv), vs[i]? = some v → ds[i]? = some d → Rep K μ H v d) → Rep K μ H (.ref a) (.kt ds)
  | tup {a : Addr} {vs : List V} {ds : List Dv} : TupAt μ H a vs → vs.length = ds.length → (∀ (i : Nat) (v : V) (d : Dv), vs[i]? = some v → ds[i]? = some d → Rep K μ H v d) → Rep K μ H (.ref a) (.tup ds)
  | fl {a : Addr} {vs : List V} {ds : List Dv} : LisAt K μ H a vs → vs.length = ds.length → (∀ (i : Nat) (v : V) (d : Dv), vs[i]? = some v → ds[i]? = some d → Rep K μ H v d) → Rep K μ H (.ref a) (.fl ds)
def Reps (K : PySem.W.Frag) (μ : List Addr) (H : Hp) (vs : List V) (ds : List Dv) : Prop :=
  vs.length = ds.length ∧ ∀ (i : Nat) (v : V) (d : Dv), vs[i]? = some v → ds[i]? = some d → Rep K μ H v d

structure Step (μ : List Addr) (H : Hp) (μ' : List Addr) (H' : Hp) : Prop where
  pre : ∃ ν, μ' = μ ++ ν ∧ ∀ b ∈ ν, H b = none
  keep : ∀ b o, H b = some o → b ∉ μ → H' b = some o
  live : ∀ b, H b ≠ none → H' b ≠ none

def ObR (K : PySem.W.Frag) (μ : List Addr) (H : Hp) (a : Addr) : Ob → Prop
  | .lst ds => ∃ vs, H a = some (.lst vs) ∧ Reps K μ H vs ds
  | .dk kvs => ∃ ws, H a = some (.dK ws) ∧ ws.map (·.1) = kvs.map (·.1) ∧ Reps K μ H (ws.map (·.2)) (kvs.map (·.2))
  | .dt kvs => ∃ ws, H a = some (.dT ws) ∧ ws.map (·.1) = kvs.map (·.1) ∧ Reps K μ H (ws.map (·.2)) (kvs.map (·.2))
structure SimS (K : PySem.W.Frag) (μ : List Addr) (S : Sto) (H : Hp) : Prop where
  len : μ.length = S.length
  nd : μ.Nodup
  ob : ∀ (l : Nat) (a : Addr) (o : Ob), μ[l]? = some a → S[l]? = some o → ObR K μ H a o
def SimE (K : PySem.W.Frag) (μ : List Addr) (H : Hp) (ρ : Env) (σ : L2.St) : Prop :=
  ρ.length = σ.length ∧ ∀ (i : Nat) (d : Dv), ρ[i]? = some (some d) → ∃ v, σ[i]? = some (some v) ∧ Rep K μ H v d
def XRep (K : PySem.W.Frag) (mg : Str → Option Value) (μ : List Addr) (H : Hp) (x : Ex) (cls : Value) (d : Option Addr) : Prop :=
  mg x.cls = some cls ∧ ((x.fs = none ∧ d = none) ∨ ∃ f e dx v, x.fs = some (f, e) ∧ d = some dx ∧ H dx = some (.xd [(f, v)]) ∧ Rep K μ H v e)

/-! ### keeping -/
section
variable {K : PySem.W.Frag} {μ μ' μ1 μ2 : List Addr} {H H' H1 H2 : Hp} {v : V} {d : Dv} {vs : List V} {ds : List Dv} {a : Addr}
theorem Step.refl (μ : List Addr) (H : Hp) : Step μ H μ H := ⟨⟨[], by simp, fun _ h => nomatch h⟩, fun _ _ h _ => h, fun _ h => h⟩
theorem Step.nin (s : Step μ H μ' H') {o : HO} (h : H a = some o) (n : a ∉ μ) : a ∉ μ' := by
  obtain ⟨ν, e, f⟩ := s.pre
  rw [e]
  intro q
  rcases List.mem_append.mp q with q | q
  · exact n q
  · rw [f a q] at h; cases h
theorem Step.trans (s : Step μ H μ1 H1) (t : Step μ1 H1 μ2 H2) : Step μ H μ2 H2 := by
  refine ⟨?_, fun b o h n => t.keep b o (s.keep b o h n) (s.nin h n), fun b h => t.live b (s.live b h)⟩
  obtain ⟨ν, e, f⟩ := s.pre
  obtain ⟨ν', e', f'⟩ := t.pre
  refine ⟨ν ++ ν', by rw [e', e, List.append_assoc], fun b hb => ?_⟩
  rcases List.mem_append.mp hb with hb | hb
  · exact f b hb
  · cases q : H b with
    | none => rfl
    | some o => exact absurd (f' b hb) (s.live b (by rw [q]; exact fun z => nomatch z))
theorem Step.get (s : Step μ H μ' H') {l : Nat} (h : μ[l]? = some a) : μ'[l]? = some a := by
  obtain ⟨ν, e, _⟩ := s.pre
  rw [e, List.getElem?_append_left (List.getElem?_eq_some_iff.mp h).1]
  exact h
theorem TupAt.step (s : Step μ H μ' H') (h : TupAt μ H a vs) : TupAt μ' H' a vs := ⟨s.keep _ _ h.1 h.2, s.nin h.1 h.2⟩
theorem LisAt.step (s : Step μ H μ' H') (h : LisAt K μ H a vs) : LisAt K μ' H' a vs := by
  rcases h with ⟨⟨o, h⟩, n⟩ | h
  · exact .inl ⟨⟨o, s.keep _ _ h n⟩, s.nin h n⟩
  · exact .inr h
theorem Rep.step (s : Step μ H μ' H') (h : Rep K μ H v d) : Rep K μ' H' v d := by
  induction h with
  | non => exact .non
  | bl b => exact .bl b
  | int i => exact .int i
  | str x => exact .str x
  | ref h => exact .ref (s.get h)
  | kt h e _ ih => exact .kt h e fun i v d h1 h2 => ih i v d h1 h2
  | tup h e _ ih => exact .tup (h.step s) e fun i v d h1 h2 => ih i v d h1 h2
  | fl h e _ ih => exact .fl (h.step s) e fun i v d h1 h2 => ih i v d h1 h2
theorem Reps.step (s : Step μ H μ' H') (h : Reps K μ H vs ds) : Reps K μ' H' vs ds := ⟨h.1, fun i v d h1 h2 => (h.2 i v d h1 h2).step s⟩
theorem Reps.nil : Reps K μ H [] [] := ⟨rfl, fun i v d h => by simp at h⟩
theorem Reps.cons (t : Reps K μ H vs ds) (h : Rep K μ H v d) : Reps K μ H (v :: vs) (d :: ds) := by
  refine ⟨by simp [t.1], fun i v' d' h1 h2 => ?_⟩
  cases i with
  | zero => simp at h1 h2; subst h1; subst h2; exact h
  | succ i => exact t.2 i v' d' (by simpa using h1) (by simpa using h2)
theorem Reps.uncons {e : Dv} {es : List Dv} (t : Reps K μ H vs (e :: es)) : ∃ v ws, vs = v :: ws ∧ Rep K μ H v e ∧ Reps K μ H ws es := by
  cases vs with
  | nil => exact absurd t.1 (by simp)
  | cons v ws => exact ⟨v, ws, rfl, t.2 0 v e rfl rfl, by have := t.1; simpa using this, fun i v' d' h1 h2 => t.2 (i + 1) v' d' (by simpa using h1) (by simpa using h2)⟩
theorem Reps.un0 (t : Reps K μ H vs []) : vs = [] := List.eq_nil_of_length_eq_zero (by rw [t.1]; rfl)
theorem Reps.append {ws : List V} {es : List Dv} (h : Reps K μ H vs ds) (t : Reps K μ H ws es) : Reps K μ H (vs ++ ws) (ds ++ es) := by
  refine ⟨by simp [h.1, t.1], fun i v d h1 h2 => ?_⟩
  by_cases hi : i < vs.length
  · rw [List.getElem?_append_left hi] at h1
    rw [List.getElem?_append_left (by rw [← h.1]; exact hi)] at h2
    exact h.2 i v d h1 h2
  · rw [List.getElem?_append_right (by omega)] at h1
    rw [List.getElem?_append_right (by rw [← h.1]; omega), ← h.1] at h2
    exact t.2 _ v d h1 h2
theorem Rep.reps_cons (h : Rep K μ H v d) (t : Reps K μ H vs ds) : Reps K μ H (v :: vs) (d :: ds) := t.cons h
theorem Reps.one (h : Rep K μ H v d) : Reps K μ H [v] [d] := Reps.nil.cons h
theorem Reps.get (h : Reps K μ H vs ds) {i : Nat} (e : ds[i]? = some d) : ∃ v, vs[i]? = some v ∧ Rep K μ H v d := by
  have hi : i < vs.length := by rw [h.1]; exact (List.getElem?_eq_some_iff.mp e).1
  exact ⟨vs[i], List.getElem?_eq_getElem hi, h.2 i _ d (List.getElem?_eq_getElem hi) e⟩
theorem Reps.set (h : Reps K μ H vs ds) (r : Rep K μ H v d) (i : Nat) : Reps K μ H (vs.set i v) (ds.set i d) := by
  refine ⟨by simp [h.1], fun j v' d' h1 h2 => ?_⟩
  by_cases hj : i = j
  · subst hj
    have h3 : i < vs.length := by have := (List.getElem?_eq_some_iff.mp h1).1; simpa using this
    rw [List.getElem?_set_self h3] at h1
    rw [List.getElem?_set_self (by rw [← h.1]; exact h3)] at h2
    cases h1; cases h2; exact r
  · rw [List.getElem?_set_ne hj] at h1 h2
    exact h.2 j v' d' h1 h2
theorem Reps.sub (h : Reps K μ H vs ds) {ws : List V} {es : List Dv} (f : Nat → Nat) (hl : ws.length = es.length) (h1 : ∀ i, i < ws.length → ws[i]? = vs[f i]?) (h2 : ∀ i, i < ws.length → es[i]? = ds[f i]?) : Reps K μ H ws es :=
  ⟨hl, fun i v d e1 e2 => by
    have hi := (List.getElem?_eq_some_iff.mp e1).1
    exact h.2 (f i) v d ((h1 i hi).symm.trans e1) ((h2 i hi).symm.trans e2)⟩
theorem Reps.take (h : Reps K μ H vs ds) (n : Nat) : Reps K μ H (vs.take n) (ds.take n) :=
  h.sub id (by simp [h.1]) (fun i hi => by simp at hi; simp only [List.getElem?_take, id]; rw [if_pos (by omega)]) fun i hi => by simp at hi; simp only [List.getElem?_take, id]; rw [if_pos (by omega)]
theorem Reps.drop (h : Reps K μ H vs ds) (n : Nat) : Reps K μ H (vs.drop n) (ds.drop n) :=
  h.sub (fun i => n + i) (by simp [h.1]) (fun i _ => by simp [List.getElem?_drop]) fun i _ => by simp [List.getElem?_drop]
theorem Reps.rev (h : Reps K μ H vs ds) : Reps K μ H vs.reverse ds.reverse :=
  h.sub (fun i => vs.length - 1 - i) (by simp [h.1]) (fun i hi => by rw [List.getElem?_reverse (by simpa using hi)]) fun i hi => by
    rw [List.length_reverse] at hi
    rw [List.getElem?_reverse (by rw [← h.1]; exact hi), h.1]
theorem ObR.step (s : Step μ H μ' H') {o : Ob} {l : Nat} (h : ObR K μ H a o) (k : ∀ u, H a = some u → H' a = some u) : ObR K μ' H' a o := by
  cases o with
  | lst ds => obtain ⟨vs, e, r⟩ := h; exact ⟨vs, k _ e, r.step s⟩
  | dk kvs => obtain ⟨vs, e, q, r⟩ := h; exact ⟨vs, k _ e, q, r.step s⟩
  | dt kvs => obtain ⟨vs, e, q, r⟩ := h; exact ⟨vs, k _ e, q, r.step s⟩
theorem ObR.some {o : Ob} (h : ObR K μ H a o) : ∃ u, H a = some u := by
  cases o with
  | lst ds => obtain ⟨vs, e, _⟩ := h; exact ⟨_, e⟩
  | dk kvs => obtain ⟨vs, e, _⟩ := h; exact ⟨_, e⟩
  | dt kvs => obtain ⟨vs, e, _⟩ := h; exact ⟨_, e⟩
theorem SimE.step {ρ : Env} {σ : L2.St} (s : Step μ H μ' H') (h : SimE K μ H ρ σ) : SimE K μ' H' ρ σ :=
  ⟨h.1, fun i d e => let ⟨v, e', r⟩ := h.2 i d e; ⟨v, e', r.step s⟩⟩
variable {S : Sto} {o : Ob} {l : Nat} {p : Addr}
theorem SimS.at (h : SimS K μ S H) (e : S[l]? = some o) : ∃ a, μ[l]? = some a ∧ ObR K μ H a o := by
  have hl : l < μ.length := by rw [h.len]; exact (List.getElem?_eq_some_iff.mp e).1
  exact ⟨μ[l], List.getElem?_eq_getElem hl, h.ob l _ o (List.getElem?_eq_getElem hl) e⟩
theorem SimS.at' (h : SimS K μ S H) (e : S[l]? = some o) (q : μ[l]? = some a) : ObR K μ H a o := h.ob l a o q e
theorem SimS.tracked (h : SimS K μ S H) (m : a ∈ μ) : ∃ u, H a = some u := by
  obtain ⟨l, hl, e⟩ := List.getElem_of_mem m
  have hs : l < S.length := by rw [← h.len]; exact hl
  exact (h.ob l a S[l] (by rw [List.getElem?_eq_getElem hl, e]) (List.getElem?_eq_getElem hs)).some
theorem SimS.fresh (h : SimS K μ S H) (n : H p = none) : p ∉ μ := fun m => by
  obtain ⟨u, e⟩ := h.tracked m
  rw [n] at e; cases e
/-- something laid that is no store object -/
theorem step_lay (h : SimS K μ S H) (n : H p = none) (u : HO) : Step μ H μ (upd H p u) :=
  ⟨⟨[], by simp, fun _ h => nomatch h⟩, fun b o e _ => by rw [upd_ne (ne_of_none e n)]; exact e, fun b e => by
    by_cases hb : b = p
    · rw [hb, upd_same]; exact fun z => nomatch z
    · rw [upd_ne hb]; exact e⟩
theorem SimS.lay (h : SimS K μ S H) (n : H p = none) (u : HO) : SimS K μ S (upd H p u) :=
  ⟨h.len, h.nd, fun l a o e1 e2 => (h.ob l a o e1 e2).step (l := l) (step_lay h n u) fun w q => by rw [upd_ne (ne_of_none q n)]; exact q⟩
theorem step_new (h : SimS K μ S H) (n : H p = none) (u : HO) : Step μ H (μ ++ [p]) (upd H p u) :=
  ⟨⟨[p], rfl, fun b hb => by simp at hb; rw [hb]; exact n⟩, (step_lay h n u).keep, (step_lay h n u).live⟩
theorem SimS.new (h : SimS K μ S H) (n : H p = none) {u : HO} (r : ObR K (μ ++ [p]) (upd H p u) p o) : SimS K (μ ++ [p]) (S ++ [o]) (upd H p u) := by
  refine ⟨by simp [h.len], List.nodup_append.mpr ⟨h.nd, by simp, fun a ha b hb => ?_⟩, fun l a o' e1 e2 => ?_⟩
  · simp at hb; subst hb; exact fun z => h.fresh n (z ▸ ha)
  · by_cases hl : l < μ.length
    · rw [List.getElem?_append_left hl] at e1
      rw [List.getElem?_append_left (by rw [← h.len]; exact hl)] at e2
      exact (h.ob l a o' e1 e2).step (l := l) (step_new h n u) fun w q => by rw [upd_ne (ne_of_none q n)]; exact q
    · have hl2 : l = μ.length := by have := (List.getElem?_eq_some_iff.mp e1).1; simp at this; omega
      subst hl2
      rw [List.getElem?_append_right (Nat.le_refl _)] at e1
      rw [List.getElem?_append_right (by rw [h.len]; exact Nat.le_refl _), h.len] at e2
      simp at e1 e2
      subst e1; subst e2; exact r
theorem new_at (h : SimS K μ S H) (p : Addr) : (μ ++ [p])[S.length]? = some p := by rw [← h.len]; simp
theorem step_put (h : SimS K μ S H) (e : μ[l]? = some a) (u : HO) : Step μ H μ (upd H a u) :=
  ⟨⟨[], by simp, fun _ h => nomatch h⟩, fun b o q n => by rw [upd_ne (fun z => n (by rw [z]; exact List.mem_of_getElem? e))]; exact q, fun b q => by
    by_cases hb : b = a
    · rw [hb, upd_same]; exact fun z => nomatch z
    · rw [upd_ne hb]; exact q⟩
theorem SimS.put (h : SimS K μ S H) (e : μ[l]? = some a) {u : HO} (r : ObR K μ (upd H a u) a o) : SimS K μ (S.set l o) (upd H a u) := by
  refine ⟨by simp [h.len], h.nd, fun k b o' e1 e2 => ?_⟩
  by_cases hk : l = k
  · subst hk
    rw [e] at e1; cases e1
    have hl : l < S.length := by rw [← h.len]; exact (List.getElem?_eq_some_iff.mp e).1
    rw [List.getElem?_set_self hl] at e2
    cases e2; exact r
  · rw [List.getElem?_set_ne hk] at e2
    have hne : b ≠ a := fun z => by
      subst z
      have h1 := List.getElem?_eq_some_iff.mp e
      have h2 := List.getElem?_eq_some_iff.mp e1
      exact hk ((List.getElem_inj h.nd).mp (h1.2.trans h2.2.symm))
    exact (h.ob k b o' e1 e2).step (l := k) (step_put h e u) fun w q => by rw [upd_ne hne]; exact q
end

/-! ### sequences -/
def tupOf : Dv → Option (List Dv)
  | .tup ds => some ds
  | .kt ds => some ds
  | _ => none
def lstOf (S : Sto) : Dv → Option (List Dv)
  | .fl ds => some ds
  | .ref l => match S[l]? with
    | some (.lst ds) => some ds
    | _ => none
  | _ => none
section
variable {K : PySem.W.Frag} {μ : List Addr} {H : Hp} {v : V} {d : Dv} {ds : List Dv} {S : Sto}
theorem Rep.sqT (r : Rep K μ H v d) (e : tupOf d = some ds) : ∃ a vs, v = .ref a ∧ SqT K H a vs ∧ Reps K μ H vs ds := by
  cases r with
  | tup h l q => simp only [tupOf, Option.some.injEq] at e; subst e; exact ⟨_, _, rfl, .inl (.inl h.1), l, q⟩
  | kt h l q => simp only [tupOf, Option.some.injEq] at e; subst e; exact ⟨_, _, rfl, .inr h, l, q⟩
  | _ => simp [tupOf] at e
theorem Rep.sqL (hS : SimS K μ S H) (r : Rep K μ H v d) (e : lstOf S d = some ds) : ∃ a vs, v = .ref a ∧ SqL K H a vs ∧ Reps K μ H vs ds := by
  cases r with
  | fl h l q =>
    simp only [lstOf, Option.some.injEq] at e; subst e
    rcases h with ⟨⟨o, h⟩, _⟩ | h
    · exact ⟨_, _, rfl, .inl (.inr ⟨o, h⟩), l, q⟩
    · exact ⟨_, _, rfl, .inr h, l, q⟩
  | @ref l a h =>
    simp only [lstOf] at e
    split at e
    · rename_i es hs
      simp only [Option.some.injEq] at e; subst e
      obtain ⟨vs, e1, r⟩ := hS.at' hs h
      exact ⟨a, vs, rfl, .inl (.inl e1), r⟩
    · cases e
  | _ => simp [lstOf] at e
theorem Rep.lst {l : Nat} (hS : SimS K μ S H) (r : Rep K μ H v (.ref l)) (e : S[l]? = some (.lst ds)) : ∃ a vs, v = .ref a ∧ μ[l]? = some a ∧ H a = some (.lst vs) ∧ Reps K μ H vs ds := by
  cases r with
  | ref h => obtain ⟨vs, e1, r⟩ := hS.at' e h; exact ⟨_, vs, rfl, h, e1, r⟩
end

/-! ### outcomes, as the layer's readings -/
def Met {α β : Type} (RP : List Addr → Hp → β → α → Prop) (K : PySem.W.Frag) (mg : Str → Option Value) (W : Value → Option Addr → Hp → Prop) (μ : List Addr) (H : Hp) (o : Out α) (Q : β → Hp → Prop) : Prop :=
  match o with
  | .ok d S' => ∀ μ' H' v, SimS K μ' S' H' → Step μ H μ' H' → RP μ' H' v d → Q v H'
  | .ex x S' => ∀ μ' H' cls dd, SimS K μ' S' H' → Step μ H μ' H' → XRep K mg μ' H' x cls dd → W cls dd H'
  | .no => False
abbrev WX := Value → Option Addr → L2.St → Hp → Prop
abbrev WX.at (W : WX) (σ : L2.St) : Value → Option Addr → Hp → Prop := fun c d H => W c d σ H
def tG {α β : Type} (RP : List Addr → Hp → β → α → Prop) (K : PySem.W.Frag) (mg : Str → Option Value) (W : WX) (r : Env → Sto → Out α) (σ : L2.St) (H : Hp) (Q : β → Hp → Prop) : Prop :=
  ∃ μ ρ S, SimS K μ S H ∧ SimE K μ H ρ σ ∧ Met RP K mg (W.at σ) μ H (r ρ S) Q
def RBool (μ : List Addr) (H : Hp) (b b' : Bool) : Prop := b = b'
section
variable {K : PySem.W.Frag} {mg : Str → Option Value} {W : WX} {μ μ1 : List Addr} {H H1 : Hp} {ρ : Env} {σ : L2.St} {S : Sto}
theorem Met.step {α β : Type} {RP : List Addr → Hp → β → α → Prop} {Wx : Value → Option Addr → Hp → Prop} {o : Out α} {Q : β → Hp → Prop} (s : Step μ H μ1 H1) (h : Met RP K mg Wx μ H o Q) : Met RP K mg Wx μ1 H1 o Q := by
  cases o with
  | ok d S' => exact fun μ' H' v a b c => h μ' H' v a (s.trans b) c
  | ex x S' => exact fun μ' H' cl dd a b c => h μ' H' cl dd a (s.trans b) c
  | no => exact h
theorem Met.mono {α β : Type} {RP : List Addr → Hp → β → α → Prop} {Wx : Value → Option Addr → Hp → Prop} {o : Out α} {Q Q' : β → Hp → Prop} (h : Met RP K mg Wx μ H o Q) (q : ∀ v H', Q v H' → Q' v H') : Met RP K mg Wx μ H o Q' := by
  cases o with
  | ok d S' => exact fun μ' H' v a b c => q _ _ (h μ' H' v a b c)
  | ex x S' => exact h
  | no => exact h
theorem bnd {α β γ δ : Type} {R1 : List Addr → Hp → β → α → Prop} {R2 : List Addr → Hp → δ → γ → Prop} {r : Env → Sto → Out α} {f : α → Sto → Out γ} {Q : δ → Hp → Prop} (hS : SimS K μ S H) (hE : SimE K μ H ρ σ)
    (h : Met R2 K mg (W.at σ) μ H ((r ρ S).bind f) Q) : tG R1 K mg W r σ H (fun v H1 => ∃ μ1 S1 d, SimS K μ1 S1 H1 ∧ SimE K μ1 H1 ρ σ ∧ Step μ H μ1 H1 ∧ R1 μ1 H1 v d ∧ Met R2 K mg (W.at σ) μ1 H1 (f d S1) Q) := by
  refine ⟨μ, ρ, S, hS, hE, ?_⟩
  cases q : r ρ S with
  | ok d S1 =>
    rw [q] at h
    exact fun μ1 H1 v a b c => ⟨μ1, S1, d, a, hE.step b, b, c, h.step b⟩
  | ex x S1 => rw [q] at h; exact h
  | no => rw [q] at h; exact h
/-- an outcome that is at hand -/
theorem Met.ok {α β : Type} {RP : List Addr → Hp → β → α → Prop} {Wx : Value → Option Addr → Hp → Prop} {d : α} {Q : β → Hp → Prop} {v : β} (h : Met RP K mg Wx μ H (.ok d S) Q) (hS : SimS K μ S H) (r : RP μ H v d) : Q v H := h μ H v hS (.refl μ H) r
/-- a new store object -/
theorem Met.new {o : Ob} {u : HO} {p : Addr} {Wx : Value → Option Addr → Hp → Prop} {Q : V → Hp → Prop} (h : Met (Rep K) K mg Wx μ H (.ok (.ref S.length) (S ++ [o])) Q) (hS : SimS K μ S H) (n : H p = none) (r : ObR K (μ ++ [p]) (upd H p u) p o) : Q (.ref p) (upd H p u) :=
  h _ _ _ (hS.new n r) (step_new hS n u) (.ref (new_at hS p))
theorem Met.lst {ds : List Dv} {vs : List V} {p : Addr} {Wx : Value → Option Addr → Hp → Prop} {Q : V → Hp → Prop} (h : Met (Rep K) K mg Wx μ H (.ok (.ref S.length) (S ++ [.lst ds])) Q) (hS : SimS K μ S H) (n : H p = none) (r : Reps K μ H vs ds) : Q (.ref p) (upd H p (.lst vs)) :=
  h.new hS n ⟨vs, upd_same, r.step (step_new hS n _)⟩
theorem Met.tup {ds : List Dv} {vs : List V} {p : Addr} {Wx : Value → Option Addr → Hp → Prop} {Q : V → Hp → Prop} (h : Met (Rep K) K mg Wx μ H (.ok (.tup ds) S) Q) (hS : SimS K μ S H) (n : H p = none) (r : Reps K μ H vs ds) : Q (.ref p) (upd H p (.tup vs)) :=
  h _ _ _ (hS.lay n _) (step_lay hS n _) (.tup ⟨upd_same, hS.fresh n⟩ r.1 (r.step (step_lay hS n _)).2)
/-- a store object written -/
theorem Met.put {α β : Type} {RP : List Addr → Hp → β → α → Prop} {o : Ob} {u : HO} {a : Addr} {l : Nat} {Wx : Value → Option Addr → Hp → Prop} {Q : β → Hp → Prop} {d : α} {v : β} (h : Met RP K mg Wx μ H (.ok d (S.set l o)) Q) (hS : SimS K μ S H) (e : μ[l]? = some a) (r : ObR K μ (upd H a u) a o) (rv : RP μ (upd H a u) v d) : Q v (upd H a u) :=
  h _ _ _ (hS.put e r) (step_put hS e u) rv
end
end PL

namespace PL
open PySem PySem.Spec PyProof.Rows L2

/-! ### rules: from readings to outcomes -/
theorem PE.imp {X : Cx} {e : Expr} {t t' : TE} (h : PE X e t) (i : ∀ σ H Q, t' σ H Q → t σ H Q) : PE X e t' := ⟨fun pins s σ H Q I w => h.run pins s σ H Q I (i σ H Q w)⟩
theorem PT.imp {X : Cx} {e : Expr} {t t' : TT} (h : PT X e t) (i : ∀ σ H Q, t' σ H Q → t σ H Q) : PT X e t' := ⟨fun pins s σ H Q I w => h.run pins s σ H Q I (i σ H Q w)⟩
theorem PW.imp {X : Cx} {e : Expr} {t t' : TT} (h : PW X e t) (i : ∀ σ H Q, t' σ H Q → t σ H Q) : PW X e t' := ⟨fun wh pins s σ H Q I w => h.run wh pins s σ H Q I (i σ H Q w)⟩
theorem PA.imp {X : Cx} {e : List Expr} {t t' : TA} (h : PA X e t) (i : ∀ σ H Q, t' σ H Q → t σ H Q) : PA X e t' := ⟨fun ps pins s σ H Q I w => h.run ps pins s σ H Q I (i σ H Q w)⟩
theorem PE.or {X : Cx} {e : Expr} {t t' : TE} (h : PE X e t) (h' : PE X e t') : PE X e (fun σ H Q => t σ H Q ∨ t' σ H Q) :=
  ⟨fun pins s σ H Q I w => w.elim (h.run pins s σ H Q I) (h'.run pins s σ H Q I)⟩
theorem OpR.or {X : Cx} {f : Value → Value → Sem Value} {r r' : R2} (h : OpR X f r) (h' : OpR X f r') : OpR X f (fun x y H Q => r x y H Q ∨ r' x y H Q) :=
  fun pins s σ H x y v u Q I rx ry w => w.elim (h pins s σ H x y v u Q I rx ry) (h' pins s σ H x y v u Q I rx ry)
theorem CallR.or {X : Cx} {f : Value} {r r' : List V → Hp → VK → Prop} (h : CallR X f r) (h' : CallR X f r') : CallR X f (fun x H Q => r x H Q ∨ r' x H Q) :=
  fun pins s σ H x v Q I rx w => w.elim (h pins s σ H x v Q I rx) (h' pins s σ H x v Q I rx)
theorem tG.mono {α β : Type} {RP : List Addr → Hp → β → α → Prop} {K : PySem.W.Frag} {mg : Str → Option Value} {W : WX} {f : Env → Sto → Out α} {σ : L2.St} {H : Hp} {Q Q' : β → Hp → Prop}
    (h : tG RP K mg W f σ H Q) (q : ∀ v H', Q v H' → Q' v H') : tG RP K mg W f σ H Q' := let ⟨μ, ρ, S, a, b, c⟩ := h; ⟨μ, ρ, S, a, b, c.mono q⟩

abbrev SE (X : Cx) (W : WX) (e : Expr) (r : RE) : Prop := PE X e (tG (Rep X.K) X.K X.mg W r)
abbrev ST (X : Cx) (W : WX) (e : Expr) (r : RT) : Prop := PT X e (tG RBool X.K X.mg W r)
abbrev SW (X : Cx) (W : WX) (e : Expr) (r : RT) : Prop := PW X e (tG RBool X.K X.mg W r)
abbrev SA (X : Cx) (W : WX) (es : List Expr) (r : RA) : Prop := PA X es (tG (Reps X.K) X.K X.mg W r)

/-- how an operation on data is met by the layer's reading -/
def Op2 (K : PySem.W.Frag) (f : Dv → Dv → Sto → Out Dv) (r : R2) : Prop :=
  ∀ (mg : Str → Option Value) (Wx : Value → Option Addr → Hp → Prop) (μ : List Addr) (H : Hp) (S : Sto) (x y : V) (d e : Dv) (Q : VK), SimS K μ S H → Rep K μ H x d → Rep K μ H y e → Met (Rep K) K mg Wx μ H (f d e S) Q → r x y H Q
def OpL (K : PySem.W.Frag) (f : List Dv → Sto → Out Dv) (r : List V → Hp → VK → Prop) : Prop :=
  ∀ (mg : Str → Option Value) (Wx : Value → Option Addr → Hp → Prop) (μ : List Addr) (H : Hp) (S : Sto) (vs : List V) (ds : List Dv) (Q : VK), SimS K μ S H → Reps K μ H vs ds → Met (Rep K) K mg Wx μ H (f ds S) Q → r vs H Q
def OpM (K : PySem.W.Frag) (f : Dv → List Dv → Sto → Out Dv) (r : V → List V → Hp → VK → Prop) : Prop :=
  ∀ (mg : Str → Option Value) (Wx : Value → Option Addr → Hp → Prop) (μ : List Addr) (H : Hp) (S : Sto) (x : V) (vs : List V) (d : Dv) (ds : List Dv) (Q : VK), SimS K μ S H → Rep K μ H x d → Reps K μ H vs ds → Met (Rep K) K mg Wx μ H (f d ds S) Q → r x vs H Q

/-! ### terms -/
def eVar (i : Nat) : RE := fun ρ S => match ρ[i]? with
  | some (some d) => .ok d S
  | _ => .no
def eCon (d : Dv) : RE := fun _ S => .ok d S
def eBin (f : Dv → Dv → Sto → Out Dv) (a b : RE) : RE := fun ρ S => (a ρ S).bind fun x S1 => (b ρ S1).bind fun y S2 => f x y S2
def eUn (f : Dv → Sto → Out Dv) (a : RE) : RE := fun ρ S => (a ρ S).bind f
def aNil : RA := fun _ S => .ok [] S
def aCons (r : RE) (t : RA) : RA := fun ρ S => (r ρ S).bind fun d S1 => (t ρ S1).bind fun ds S2 => .ok (d :: ds) S2
def eCall (f : List Dv → Sto → Out Dv) (a : RA) : RE := fun ρ S => (a ρ S).bind f
def eMet (f : Dv → List Dv → Sto → Out Dv) (o : RE) (a : RA) : RE := fun ρ S => (o ρ S).bind fun d S1 => (a ρ S1).bind fun ds S2 => f d ds S2
def eTup (a : RA) : RE := fun ρ S => (a ρ S).bind fun ds S1 => if ds.length ≤ sizeLine then .ok (.tup ds) S1 else .no
def eLst (a : RA) : RE := fun ρ S => (a ρ S).bind fun ds S1 => if ds.length ≤ sizeLine then .ok (.ref S1.length) (S1 ++ [.lst ds]) else .no
def eNot (a : RE) : RE := fun ρ S => (a ρ S).bind fun d S1 => match d with
  | .bl b => .ok (.bl (!b)) S1
  | _ => .no
def eAnd (a b : RE) : RE := fun ρ S => (a ρ S).bind fun d S1 => match d with
  | .bl true => b ρ S1
  | .bl false => .ok (.bl false) S1
  | _ => .no
def eOr (a b : RE) : RE := fun ρ S => (a ρ S).bind fun d S1 => match d with
  | .bl true => .ok (.bl true) S1
  | .bl false => b ρ S1
  | _ => .no
def eIf (c : RT) (a b : RE) : RE := fun ρ S => (c ρ S).bind fun t S1 => if t = true then a ρ S1 else b ρ S1
def bTrue (d : Dv) (S : Sto) : Out Bool := match d with
  | .bl b => .ok b S
  | _ => .no
def cBl (a : RE) : RT := fun ρ S => (a ρ S).bind bTrue
def cAnd (a b : RT) : RT := fun ρ S => (a ρ S).bind fun t S1 => if t = true then b ρ S1 else .ok false S1
def cOr (a b : RT) : RT := fun ρ S => (a ρ S).bind fun t S1 => if t = true then .ok true S1 else b ρ S1
def cNot (a : RT) : RT := fun ρ S => (a ρ S).bind fun t S1 => .ok (!t) S1

section
variable {X : Cx} {W : WX} {a b c e : Expr} {es : List Expr} {ra rb rc : RE} {rs : RA} {ta tb : RT} {pos : Pos}
theorem se_var (i : Nat) {x : Str} (hN : X.N[i]? = some x := by rfl) (hv : Vis X.env.scope x := by first | exact Or.inl rfl | exact Or.inr (Or.inl rfl) | exact Or.inr (Or.inr rfl)) (hd : (x == ("__debug__" : Str)) = false := by decide)
    (hcd : (x == ("__classdict__" : Str)) = false := by decide) : SE X W (.Name x pos) (eVar i) := by
  refine PE.imp (pe_var hN hv hd hcd) fun σ H Q ⟨μ, ρ, S, hS, hE, h⟩ => ?_
  unfold eVar at h
  split at h
  · rename_i d hd
    obtain ⟨v, e1, r⟩ := hE.2 i d hd
    exact ⟨v, e1, h.ok hS r⟩
  · exact h.elim
theorem se_con {d : Dv} {v : V} (h : PE X e (tC v)) (r : ∀ μ H, Rep X.K μ H v d) : SE X W e (eCon d) :=
  PE.imp h fun σ H Q ⟨μ, ρ, S, hS, hE, h⟩ => show Q v H from h.ok hS (r μ H)
theorem se_int {i j} : SE X W (.Constant (.int i) j pos) (eCon (.int i)) := se_con pe_int fun _ _ => .int i
theorem se_bl {i j} : SE X W (.Constant (.bool i) j pos) (eCon (.bl i)) := se_con pe_bl fun _ _ => .bl i
theorem se_non {j} : SE X W (.Constant .none j pos) (eCon .non) := se_con pe_non fun _ _ => .non
theorem se_str {i j} : SE X W (.Constant (.str i) j pos) (eCon (.str i)) := se_con pe_str fun _ _ => .str i
theorem bnd2 {f : Dv → Dv → Sto → Out Dv} {r : R2} (hf : Op2 X.K f r) {σ : L2.St} {H : Hp} {Q : VK} (h : tG (Rep X.K) X.K X.mg W (eBin f ra rb) σ H Q) :
    tOp r (tG (Rep X.K) X.K X.mg W ra) (tG (Rep X.K) X.K X.mg W rb) σ H Q := by
  obtain ⟨μ, ρ, S, hS, hE, h⟩ := h
  refine (bnd hS hE h).mono fun x H1 ⟨μ1, S1, d, hS1, hE1, s1, rx, h1⟩ => ?_
  refine (bnd hS1 hE1 h1).mono fun y H2 ⟨μ2, S2, d2, hS2, hE2, s2, ry, h2⟩ => ?_
  exact hf _ _ μ2 H2 S2 x y d d2 Q hS2 (rx.step s2) ry h2
theorem se_bin {op : Operator} {f : Dv → Dv → Sto → Out Dv} {r : R2} (ho : OpR X (binaryOp op) r) (hf : Op2 X.K f r) (ha : SE X W a ra) (hb : SE X W b rb) : SE X W (.BinOp a op b pos) (eBin f ra rb) :=
  PE.imp (pe_op ho ha hb) fun _ _ _ h => bnd2 hf h
theorem se_cmp {op : CmpOp} {f : Dv → Dv → Sto → Out Dv} {r : R2} (ho : OpR X (compareOp op) r) (hf : Op2 X.K f r) (ha : SE X W a ra) (hb : SE X W b rb) (hm : behindInMarks op b = false) : SE X W (.Compare a [op] [b] pos) (eBin f ra rb) :=
  PE.imp (pe_cmpR ho ha hb hm) fun _ _ _ h => bnd2 hf h
theorem bTrue_met {K : PySem.W.Frag} {mg : Str → Option Value} {Wx : Value → Option Addr → Hp → Prop} {μ : List Addr} {H : Hp} {S : Sto} {v : V} {d : Dv} {Q : Bool → Hp → Prop} (hS : SimS K μ S H) (r : Rep K μ H v d) (h : Met RBool K mg Wx μ H (bTrue d S) Q) : ∃ k, v = .bl k ∧ Q k H := by
  cases r with
  | bl b => exact ⟨b, rfl, h.ok hS rfl⟩
  | _ => exact h.elim
theorem st_cmp {op : CmpOp} {f : Dv → Dv → Sto → Out Dv} {r : R2} (ho : OpR X (compareOp op) r) (hf : Op2 X.K f r) (ha : SE X W a ra) (hb : SE X W b rb) (hm : behindInMarks op b = false) : ST X W (.Compare a [op] [b] pos) (cBl (eBin f ra rb)) :=
  PT.imp (pt_cmpR ho ha hb hm) fun σ H Q ⟨μ, ρ, S, hS, hE, h⟩ => bnd2 hf ((bnd hS hE h).mono fun v H1 ⟨μ1, S1, d, hS1, hE1, s1, rv, h1⟩ => bTrue_met hS1 rv h1)
theorem st_bl (he : SE X W e ra) (hp : ∀ whole, isTrue e X.env whole = (do let v ← whole; standAt e.pos; holding [v] (truthy v)) := by intro _; rfl) : ST X W e (cBl ra) :=
  PT.imp (pt_val he hp) fun σ H Q ⟨μ, ρ, S, hS, hE, h⟩ => (bnd hS hE h).mono fun v H1 ⟨μ1, S1, d, hS1, hE1, s1, rv, h1⟩ => bTrue_met hS1 rv h1
theorem st_not (h : ST X W e ta) : ST X W (.UnaryOp .Not e pos) (cNot ta) :=
  PT.imp (pt_not h) fun σ H Q ⟨μ, ρ, S, hS, hE, h⟩ => (bnd (R1 := RBool) hS hE h).mono fun v H1 ⟨μ1, S1, d, hS1, hE1, s1, rv, h1⟩ => by
    cases (show v = d from rv)
    exact h1.ok hS1 rfl
theorem sw_one_and (h : ST X W e ta) : SW X W (.BoolOp .And [e] pos) ta := pw_and1 h
theorem sw_one_or (h : ST X W e ta) : SW X W (.BoolOp .Or [e] pos) ta := pw_or1 h
theorem sw_and (h : ST X W e ta) (t : SW X W (.BoolOp .And (b :: es) pos) tb) : SW X W (.BoolOp .And (e :: b :: es) pos) (cAnd ta tb) :=
  PW.imp (pw_and h t) fun σ H Q ⟨μ, ρ, S, hS, hE, h⟩ => (bnd (R1 := RBool) hS hE h).mono fun v H1 ⟨μ1, S1, d, hS1, hE1, s1, rv, h1⟩ => by
    cases (show v = d from rv)
    cases v with
    | true => exact ⟨μ1, ρ, S1, hS1, hE1, h1⟩
    | false => exact Met.ok (RP := RBool) h1 hS1 rfl
theorem sw_or (h : ST X W e ta) (t : SW X W (.BoolOp .Or (b :: es) pos) tb) : SW X W (.BoolOp .Or (e :: b :: es) pos) (cOr ta tb) :=
  PW.imp (pw_or h t) fun σ H Q ⟨μ, ρ, S, hS, hE, h⟩ => (bnd (R1 := RBool) hS hE h).mono fun v H1 ⟨μ1, S1, d, hS1, hE1, s1, rv, h1⟩ => by
    cases (show v = d from rv)
    cases v with
    | true => exact Met.ok (RP := RBool) h1 hS1 rfl
    | false => exact ⟨μ1, ρ, S1, hS1, hE1, h1⟩
theorem st_w (h : SW X W e ta) : ST X W e ta := PW.pt h
theorem se_not (h : SE X W e ra) : SE X W (.UnaryOp .Not e pos) (eNot ra) :=
  PE.imp (pe_not h) fun σ H Q ⟨μ, ρ, S, hS, hE, h⟩ => (bnd hS hE h).mono fun v H1 ⟨μ1, S1, d, hS1, hE1, s1, rv, h1⟩ => by
    cases rv with
    | bl b => exact ⟨b, rfl, Met.ok (RP := Rep X.K) h1 hS1 (.bl _)⟩
    | _ => exact h1.elim
theorem se_one {op} (h : SE X W e ra) : SE X W (.BoolOp op [e] pos) ra := pe_one h
theorem se_and (h : SE X W e ra) (t : SE X W (.BoolOp .And (b :: es) pos) rb) : SE X W (.BoolOp .And (e :: b :: es) pos) (eAnd ra rb) :=
  PE.imp (pe_and h t) fun σ H Q ⟨μ, ρ, S, hS, hE, h⟩ => (bnd hS hE h).mono fun v H1 ⟨μ1, S1, d, hS1, hE1, s1, rv, h1⟩ => by
    cases rv with
    | bl b => cases b with
      | true => exact ⟨true, rfl, ⟨μ1, ρ, S1, hS1, hE1, h1⟩⟩
      | false => exact ⟨false, rfl, Met.ok (RP := Rep X.K) h1 hS1 (.bl _)⟩
    | _ => exact h1.elim
theorem se_or (h : SE X W e ra) (t : SE X W (.BoolOp .Or (b :: es) pos) rb) : SE X W (.BoolOp .Or (e :: b :: es) pos) (eOr ra rb) :=
  PE.imp (pe_or h t) fun σ H Q ⟨μ, ρ, S, hS, hE, h⟩ => (bnd hS hE h).mono fun v H1 ⟨μ1, S1, d, hS1, hE1, s1, rv, h1⟩ => by
    cases rv with
    | bl b => cases b with
      | true => exact ⟨true, rfl, Met.ok (RP := Rep X.K) h1 hS1 (.bl _)⟩
      | false => exact ⟨false, rfl, ⟨μ1, ρ, S1, hS1, hE1, h1⟩⟩
    | _ => exact h1.elim
theorem se_if (hc : ST X W c ta) (ha : SE X W a ra) (hb : SE X W b rb) : SE X W (.IfExp c a b pos) (eIf ta ra rb) :=
  PE.imp (pe_ifExp hc ha hb) fun σ H Q ⟨μ, ρ, S, hS, hE, h⟩ => (bnd (R1 := RBool) hS hE h).mono fun v H1 ⟨μ1, S1, d, hS1, hE1, s1, rv, h1⟩ => by
    cases (show v = d from rv)
    cases v with
    | true => exact ⟨μ1, ρ, S1, hS1, hE1, h1⟩
    | false => exact ⟨μ1, ρ, S1, hS1, hE1, h1⟩
theorem sa_nil : SA X W [] aNil := PA.imp pa_nil fun σ H Q ⟨μ, ρ, S, hS, hE, h⟩ => Met.ok (RP := Reps X.K) h hS .nil
theorem sa_cons (h : SE X W e ra) (t : SA X W es rs) (hs : starEach (e :: es) X.env = (false, eval e X.env) :: starEach es X.env := by rfl) : SA X W (e :: es) (aCons ra rs) :=
  PA.imp (pa_cons h t hs) fun σ H Q ⟨μ, ρ, S, hS, hE, h⟩ => (bnd hS hE h).mono fun v H1 ⟨μ1, S1, d, hS1, hE1, s1, rv, h1⟩ =>
    (bnd (R1 := Reps X.K) hS1 hE1 h1).mono fun vs H2 ⟨μ2, S2, ds, hS2, hE2, s2, rvs, h2⟩ => h2.ok hS2 ((rv.step s2).reps_cons rvs)
theorem se_tup {k} (h : SA X W es rs) : SE X W (.Tuple es k pos) (eTup rs) :=
  PE.imp (pe_tup h) fun σ H Q ⟨μ, ρ, S, hS, hE, h⟩ => (bnd (R1 := Reps X.K) hS hE h).mono fun vs H1 ⟨μ1, S1, ds, hS1, hE1, s1, rv, h1⟩ => by
    split at h1
    · rename_i hz
      exact ⟨by rw [rv.1]; exact hz, fun p n => h1.tup hS1 n rv⟩
    · exact h1.elim
theorem se_lst (h : SA X W es rs) : SE X W (.List es pos) (eLst rs) :=
  PE.imp (pe_lst h) fun σ H Q ⟨μ, ρ, S, hS, hE, h⟩ => (bnd (R1 := Reps X.K) hS hE h).mono fun vs H1 ⟨μ1, S1, ds, hS1, hE1, s1, rv, h1⟩ => by
    split at h1
    · rename_i hz
      exact ⟨by rw [rv.1]; exact hz, fun p n => h1.lst hS1 n rv⟩
    · exact h1.elim
/-- a built-in by its name -/
theorem se_callB {id : String} {x : Str} {p : Pos} {f : List Dv → Sto → Out Dv} {r : List V → Hp → VK → Prop} (hc : CallR X (.builtin id) r) (hf : OpL X.K f r) (hg : Gl X x) (hm : X.mg x = none) (hv : bootBuiltins x = some (.builtin id)) (ha : SA X W (e :: es) rs)
    (hn : x ≠ "__name__" := by decide) (hdb : (x == ("__debug__" : Str)) = false := by decide) (he : starEach (e :: es) X.env = (false, eval e X.env) :: starEach es X.env := by rfl) (hpl : (backTo pos (starEach es X.env)).any (·.1) = false := by rfl) : SE X W (.Call (.Name x p) (e :: es) [] pos) (eCall f rs) :=
  PE.imp (pe_callB hc hg hm hv ha hn hdb he hpl) fun σ H Q ⟨μ, ρ, S, hS, hE, h⟩ => (bnd (R1 := Reps X.K) hS hE h).mono fun vs H1 ⟨μ1, S1, ds, hS1, hE1, s1, rv, h1⟩ => hf _ _ μ1 H1 S1 vs ds Q hS1 rv h1
theorem se_callTy {T : String} {x : Str} {p : Pos} {f : List Dv → Sto → Out Dv} {r : List V → Hp → VK → Prop} (hc : CallR X (.type T) r) (hf : OpL X.K f r) (hg : Gl X x) (hm : X.mg x = none) (hv : bootBuiltins x = some (.type T)) (ha : SA X W (e :: es) rs)
    (hn : x ≠ "__name__" := by decide) (hdb : (x == ("__debug__" : Str)) = false := by decide) (he : starEach (e :: es) X.env = (false, eval e X.env) :: starEach es X.env := by rfl) (hpl : (backTo pos (starEach es X.env)).any (·.1) = false := by rfl) : SE X W (.Call (.Name x p) (e :: es) [] pos) (eCall f rs) :=
  PE.imp (pe_callTy hc hg hm hv ha hn hdb he hpl) fun σ H Q ⟨μ, ρ, S, hS, hE, h⟩ => (bnd (R1 := Reps X.K) hS hE h).mono fun vs H1 ⟨μ1, S1, ds, hS1, hE1, s1, rv, h1⟩ => hf _ _ μ1 H1 S1 vs ds Q hS1 rv h1
end
end PL

namespace PL
open PySem PySem.Spec PyProof.Rows L2

/-! ### numbers, texts, sequences: what the operators do -/
noncomputable instance (i j : Int) : Decidable (CMul i j) := Classical.propDecidable _
noncomputable instance (i j : Int) : Decidable (CPow i j) := Classical.propDecidable _
noncomputable instance (i j : Int) : Decidable (CShl i j) := Classical.propDecidable _
def newL (ds : List Dv) (S : Sto) : Out Dv := .ok (.ref S.length) (S ++ [.lst ds])
def addD (x y : Dv) (S : Sto) : Out Dv := match x, y with
  | .int i, .int j => .ok (.int (i + j)) S
  | .str a, .str b => if a.length + b.length ≤ sizeLine then .ok (.str (a ++ b)) S else .no
  | .tup a, .tup b => if a.length + b.length ≤ sizeLine then .ok (.tup (a ++ b)) S else .no
  | .ref l, .ref m => match S[l]?, S[m]? with
    | some (.lst a), some (.lst b) => if a.length + b.length ≤ sizeLine then newL (a ++ b) S else .no
    | _, _ => .no
  | _, _ => .no
def subD (x y : Dv) (S : Sto) : Out Dv := match x, y with
  | .int i, .int j => .ok (.int (i - j)) S
  | _, _ => .no
noncomputable def mulD (x y : Dv) (S : Sto) : Out Dv := match x, y with
  | .int i, .int j => if CMul i j then .ok (.int (i * j)) S else .no
  | .ref l, .int k => match S[l]? with
    | some (.lst a) => @ite _ (-(2 ^ 63) ≤ k ∧ k < 2 ^ 63 ∧ a.length * k.toNat ≤ sizeLine) (Classical.propDecidable _) (newL (List.replicate k.toNat a).flatten S) .no
    | _ => .no
  | _, _ => .no
def fdivD (x y : Dv) (S : Sto) : Out Dv := match x, y with
  | .int i, .int j => if 0 < j ∧ j.natAbs.log2 < 9000 then .ok (.int (i / j)) S else .no
  | _, _ => .no
def modD (x y : Dv) (S : Sto) : Out Dv := match x, y with
  | .int i, .int j => if 0 < j then .ok (.int (i % j)) S else .no
  | _, _ => .no
noncomputable def powD (x y : Dv) (S : Sto) : Out Dv := match x, y with
  | .int i, .int j => if CPow i j then .ok (.int (i ^ j.toNat)) S else .no
  | _, _ => .no
noncomputable def shlD (x y : Dv) (S : Sto) : Out Dv := match x, y with
  | .int i, .int j => if CShl i j then .ok (.int (i * 2 ^ j.toNat)) S else .no
  | _, _ => .no
def shrD (x y : Dv) (S : Sto) : Out Dv := match x, y with
  | .int i, .int j => if 0 ≤ j then .ok (.int (i / 2 ^ j.toNat)) S else .no
  | _, _ => .no
def andD (x y : Dv) (S : Sto) : Out Dv := match x, y with
  | .int i, .int j => .ok (.int (Builtin.bitAnd i j)) S
  | _, _ => .no
def orD (x y : Dv) (S : Sto) : Out Dv := match x, y with
  | .int i, .int j => .ok (.int (Builtin.bitOr i j)) S
  | _, _ => .no
def xorD (x y : Dv) (S : Sto) : Out Dv := match x, y with
  | .int i, .int j => .ok (.int (Builtin.bitXor i j)) S
  | _, _ => .no
def ltD (x y : Dv) (S : Sto) : Out Dv := match x, y with
  | .int i, .int j => .ok (.bl (decide (i < j))) S
  | .str a, .str b => .ok (.bl (decide (a.cps.toList < b.cps.toList))) S
  | _, _ => .no
def leD (x y : Dv) (S : Sto) : Out Dv := match x, y with
  | .int i, .int j => .ok (.bl (decide (i ≤ j))) S
  | _, _ => .no
def gtD (x y : Dv) (S : Sto) : Out Dv := match x, y with
  | .int i, .int j => .ok (.bl (decide (j < i))) S
  | _, _ => .no
def geD (x y : Dv) (S : Sto) : Out Dv := match x, y with
  | .int i, .int j => .ok (.bl (decide (j ≤ i))) S
  | _, _ => .no
def isN (d : Dv) : Bool := match d with
  | .non => true
  | _ => false
def isD (x y : Dv) (S : Sto) : Out Dv := match y with
  | .non => .ok (.bl (isN x)) S
  | _ => .no
def isNotD (x y : Dv) (S : Sto) : Out Dv := match y with
  | .non => .ok (.bl (!isN x)) S
  | _ => .no
def negD (x : Dv) (S : Sto) : Out Dv := match x with
  | .int i => .ok (.int (-i)) S
  | _ => .no

section
variable {X : Cx} {K : PySem.W.Frag}
theorem op2I {C : Int → Int → Prop} [∀ i j, Decidable (C i j)] {g : Int → Int → V} {k : Int → Int → Dv} {f : Dv → Dv → Sto → Out Dv} (hf : ∀ x y S, f x y S = match x, y with | .int i, .int j => (if C i j then .ok (k i j) S else .no) | _, _ => .no)
    (hk : ∀ μ H i j, Rep K μ H (g i j) (k i j)) : Op2 K f (rI C g) := by
  intro mg Wx μ H S x y d e Q hS rx ry h
  rw [hf] at h
  cases rx <;> cases ry <;> first | exact h.elim | skip
  dsimp only at h
  split at h
  · rename_i hc; exact ⟨_, _, rfl, rfl, hc, h.ok hS (hk ..)⟩
  · exact h.elim
theorem op2I0 {g : Int → Int → V} {k : Int → Int → Dv} {f : Dv → Dv → Sto → Out Dv} (hf : ∀ x y S, f x y S = match x, y with | .int i, .int j => .ok (k i j) S | _, _ => .no)
    (hk : ∀ μ H i j, Rep K μ H (g i j) (k i j)) : Op2 K f (rI0 g) := by
  intro mg Wx μ H S x y d e Q hS rx ry h
  rw [hf] at h
  cases rx <;> cases ry <;> first | exact h.elim | exact ⟨_, _, rfl, rfl, h.ok hS (hk ..)⟩
theorem o_sub : Op2 K subD (rI0 fun i j => .int (i - j)) := op2I0 (fun x y S => rfl) fun _ _ _ _ => .int _
theorem o_and : Op2 K andD (rI0 fun i j => .int (Builtin.bitAnd i j)) := op2I0 (fun x y S => rfl) fun _ _ _ _ => .int _
theorem o_or : Op2 K orD (rI0 fun i j => .int (Builtin.bitOr i j)) := op2I0 (fun x y S => rfl) fun _ _ _ _ => .int _
theorem o_xor : Op2 K xorD (rI0 fun i j => .int (Builtin.bitXor i j)) := op2I0 (fun x y S => rfl) fun _ _ _ _ => .int _
theorem o_le : Op2 K leD (rI0 fun i j => .bl (decide (i ≤ j))) := op2I0 (fun x y S => rfl) fun _ _ _ _ => .bl _
theorem o_gt : Op2 K gtD (rI0 fun i j => .bl (decide (j < i))) := op2I0 (fun x y S => rfl) fun _ _ _ _ => .bl _
theorem o_ge : Op2 K geD (rI0 fun i j => .bl (decide (j ≤ i))) := op2I0 (fun x y S => rfl) fun _ _ _ _ => .bl _
theorem o_fdiv : Op2 K fdivD (rI CDivW fun i j => .int (i / j)) := op2I (C := fun _ j => 0 < j ∧ j.natAbs.log2 < 9000) (fun x y S => rfl) fun _ _ _ _ => .int _
theorem o_mod : Op2 K modD (rI (fun _ j => 0 < j) fun i j => .int (i % j)) := op2I (fun x y S => rfl) fun _ _ _ _ => .int _
theorem o_pow : Op2 K powD (rI CPow fun i j => .int (i ^ j.toNat)) := op2I (fun x y S => rfl) fun _ _ _ _ => .int _
theorem o_shl : Op2 K shlD (rI CShl fun i j => .int (i * 2 ^ j.toNat)) := op2I (fun x y S => rfl) fun _ _ _ _ => .int _
theorem o_shr : Op2 K shrD (rI (fun _ j => 0 ≤ j) fun i j => .int (i / 2 ^ j.toNat)) := op2I (C := fun _ j => 0 ≤ j) (fun x y S => rfl) fun _ _ _ _ => .int _
abbrev rAddS : R2 := fun x y H Q => ∃ i j, x = .str i ∧ y = .str j ∧ i.length + j.length ≤ sizeLine ∧ Q (.str (i ++ j)) H
abbrev rAddAll (K : PySem.W.Frag) : R2 := fun x y H Q => rI0 (fun i j => .int (i + j)) x y H Q ∨ (rAddS x y H Q ∨ (rCatA K x y H Q ∨ rCat x y H Q))
theorem op_addAll : OpR X (binaryOp .Add) (rAddAll X.K) := OpR.or op_add (OpR.or op_add_str (OpR.or op_catA op_cat))
theorem o_add : Op2 K addD (rAddAll K) := by
  intro mg Wx μ H S x y d e Q hS rx ry h
  cases rx with
  | int i => cases ry <;> first | exact h.elim | exact .inl ⟨_, _, rfl, rfl, h.ok hS (.int _)⟩
  | str a =>
    cases ry <;> first | exact h.elim | skip
    rename_i b
    unfold addD at h; dsimp only at h
    split at h
    · rename_i hz; exact .inr (.inl ⟨_, _, rfl, rfl, hz, h.ok hS (.str _)⟩)
    · exact h.elim
  | @tup a vs ds h1 l1 q1 =>
    cases ry <;> first | exact h.elim | skip
    rename_i b ws es h2 l2 q2
    unfold addD at h; dsimp only at h
    split at h
    · rename_i hz
      have r := Reps.append ⟨l1, q1⟩ ⟨l2, q2⟩
      refine .inr (.inr (.inl ⟨_, _, _, _, rfl, rfl, .of h1.1, .of h2.1, by rw [l1, l2]; exact hz, fun e => ?_, fun _ e => ?_, fun _ _ p n => h.tup hS n r⟩))
      · subst e
        have e2 : ds = [] := List.eq_nil_of_length_eq_zero l1.symm
        subst e2
        exact h.ok hS (.tup h2 l2 q2)
      · subst e
        have e2 : es = [] := List.eq_nil_of_length_eq_zero l2.symm
        subst e2
        rw [List.append_nil] at h
        exact h.ok hS (.tup h1 l1 q1)
    · exact h.elim
  | @ref l a h1 =>
    cases ry <;> first | exact h.elim | skip
    rename_i m b h2
    unfold addD at h; dsimp only at h
    split at h
    · rename_i as bs e1 e2
      split at h
      · rename_i hz
        obtain ⟨vs, g1, r1⟩ := hS.at' e1 h1
        obtain ⟨ws, g2, r2⟩ := hS.at' e2 h2
        exact .inr (.inr (.inr ⟨_, _, _, _, rfl, rfl, g1, g2, by rw [r1.1, r2.1]; exact hz, fun p n => h.lst hS n (r1.append r2)⟩))
      · exact h.elim
    · exact h.elim
  | _ => cases ry <;> exact h.elim
abbrev rMulAll : R2 := fun x y H Q => rI CMul (fun i j => .int (i * j)) x y H Q ∨ rRep x y H Q
theorem op_mulAll : OpR X (binaryOp .Mult) rMulAll := OpR.or op_mul op_rep
theorem reps_rep {μ : List Addr} {H : Hp} {vs : List V} {ds : List Dv} (r : Reps K μ H vs ds) : ∀ n : Nat, Reps K μ H (List.replicate n vs).flatten (List.replicate n ds).flatten
  | 0 => .nil
  | n + 1 => by
    rw [List.replicate_succ, List.replicate_succ, List.flatten_cons, List.flatten_cons]
    exact r.append (reps_rep r n)
abbrev rLtAll : R2 := fun x y H Q => rI0 (fun i j => .bl (decide (i < j))) x y H Q ∨ (∃ i j, x = .str i ∧ y = .str j ∧ Q (.bl (decide (i.cps.toList < j.cps.toList))) H)
theorem op_ltAll : OpR X (compareOp .Lt) rLtAll := OpR.or op_lt op_lt_str
theorem o_lt : Op2 K ltD rLtAll := by
  intro mg Wx μ H S x y d e Q hS rx ry h
  cases rx <;> cases ry <;> first | exact h.elim | exact .inl ⟨_, _, rfl, rfl, h.ok hS (.bl _)⟩ | exact .inr ⟨_, _, rfl, rfl, h.ok hS (.bl _)⟩
theorem isN_of {μ : List Addr} {H : Hp} {v : V} {d : Dv} (r : Rep K μ H v d) : isN d = decide (v = .non) := by
  cases r <;> rfl
theorem o_is : Op2 K isD (fun x y H Q => y = .non ∧ Q (.bl (decide (x = .non))) H) := by
  intro mg Wx μ H S x y d e Q hS rx ry h
  cases ry <;> first | exact h.elim | skip
  exact ⟨rfl, Met.ok (RP := Rep K) h hS (by rw [isN_of rx]; exact .bl _)⟩
theorem o_isNot : Op2 K isNotD (fun x y H Q => y = .non ∧ Q (.bl (!decide (x = .non))) H) := by
  intro mg Wx μ H S x y d e Q hS rx ry h
  cases ry <;> first | exact h.elim | skip
  exact ⟨rfl, Met.ok (RP := Rep K) h hS (by rw [isN_of rx]; exact .bl _)⟩
end
end PL

namespace PL
open PySem PySem.Spec PyProof.Rows L2

section
variable {X : Cx} {K : PySem.W.Frag}
theorem o_mul : Op2 K mulD rMulAll := by
  intro mg Wx μ H S x y d e Q hS rx ry h
  cases rx with
  | int i =>
    cases ry <;> first | exact h.elim | skip
    unfold mulD at h; dsimp only at h
    split at h
    · rename_i hc; exact .inl ⟨_, _, rfl, rfl, hc, h.ok hS (.int _)⟩
    · exact h.elim
  | @ref l a h1 =>
    cases ry <;> first | exact h.elim | skip
    unfold mulD at h; dsimp only at h
    split at h
    · rename_i as e1
      split at h
      · rename_i hc
        obtain ⟨vs, g1, r1⟩ := hS.at' e1 h1
        exact .inr ⟨_, _, _, rfl, rfl, g1, hc.1, hc.2.1, by rw [r1.1]; exact hc.2.2, fun p n => h.lst hS n (reps_rep r1 _)⟩
      · exact h.elim
    · exact h.elim
  | _ => cases ry <;> exact h.elim
end

/-! ### equality of data -/
mutual
def toP : Nat → Sto → Dv → Option PyData
  | 0, _, _ => none
  | _ + 1, _, .non => some .none
  | _ + 1, _, .bl b => some (.bool b)
  | _ + 1, _, .int i => some (.int i)
  | _ + 1, _, .str x => some (.str x)
  | n + 1, S, .tup ds => (toPs n S ds).map .tuple
  | n + 1, S, .kt ds => (toPs n S ds).map .tuple
  | n + 1, S, .fl ds => (toPs n S ds).map .list
  | n + 1, S, .ref l => match S[l]? with
    | some (.lst ds) => (toPs n S ds).map .list
    | _ => none
def toPs : Nat → Sto → List Dv → Option (List PyData)
  | _, _, [] => some []
  | n, S, d :: ds => match toP n S d, toPs n S ds with
    | some p, some ps => some (p :: ps)
    | _, _ => none
end
/-- == -/
def eqq (S : Sto) (x y : Dv) : Option Bool := match toP 40 S x, toP 40 S y with
  | some p, some q => if SeqAt.shaped p = true ∧ SeqAt.shaped q = true then some (PyData.eqv p q) else none
  | _, _ => none
def eqD (x y : Dv) (S : Sto) : Out Dv := match eqq S x y with
  | some b => .ok (.bl b) S
  | none => .no
def neD (x y : Dv) (S : Sto) : Out Dv := match eqq S x y with
  | some b => .ok (.bl (!b)) S
  | none => .no
section
variable {X : Cx} {K : PySem.W.Frag} {μ : List Addr} {H : Hp} {S : Sto}
mutual
theorem dp_of (hS : SimS K μ S H) : ∀ (n : Nat) (v : V) (d : Dv) (p : PyData), Rep K μ H v d → toP n S d = some p → Dp K H v p
  | 0, _, _, _, _, h => by simp [toP] at h
  | n + 1, v, .non, p, r, h => by cases r; simp [toP] at h; subst h; exact .non
  | n + 1, v, .bl b, p, r, h => by cases r; simp [toP] at h; subst h; exact .bl _
  | n + 1, v, .int b, p, r, h => by cases r; simp [toP] at h; subst h; exact .int _
  | n + 1, v, .str b, p, r, h => by cases r; simp [toP] at h; subst h; exact .str _
  | n + 1, v, .tup ds, p, r, h => by
    cases r with
    | tup h1 l1 q1 =>
      simp only [toP, Option.map_eq_some_iff] at h
      obtain ⟨ps, h, rfl⟩ := h
      exact .tup (.of h1.1) (dps_of hS n _ ds ps ⟨l1, q1⟩ h)
  | n + 1, v, .kt ds, p, r, h => by
    cases r with
    | kt h1 l1 q1 =>
      simp only [toP, Option.map_eq_some_iff] at h
      obtain ⟨ps, h, rfl⟩ := h
      exact .tup (.inr h1) (dps_of hS n _ ds ps ⟨l1, q1⟩ h)
  | n + 1, v, .fl ds, p, r, h => by
    obtain ⟨a, vs, e, hq, rr⟩ := r.sqL hS (ds := ds) rfl
    subst e
    simp only [toP, Option.map_eq_some_iff] at h
    obtain ⟨ps, h, rfl⟩ := h
    exact .lst hq (dps_of hS n _ ds ps rr h)
  | n + 1, v, .ref l, p, r, h => by
    simp only [toP] at h
    split at h
    · rename_i ds e
      obtain ⟨a, vs, e', hq, rr⟩ := r.sqL hS (ds := ds) (by simp [lstOf, e])
      subst e'
      simp only [Option.map_eq_some_iff] at h
      obtain ⟨ps, h, rfl⟩ := h
      exact .lst hq (dps_of hS n _ ds ps rr h)
    · cases h
theorem dps_of (hS : SimS K μ S H) : ∀ (n : Nat) (vs : List V) (ds : List Dv) (ps : List PyData), Reps K μ H vs ds → toPs n S ds = some ps → DpAll K H vs ps
  | n, vs, [], ps, r, h => by
    cases r.un0
    simp [toPs] at h; subst h; exact .nil
  | n, vs, d :: ds, ps, r, h => by
    obtain ⟨v, ws, rfl, r1, r2⟩ := r.uncons
    simp only [toPs] at h
    split at h
    · rename_i p qs e1 e2
      simp only [Option.some.injEq] at h; subst h
      exact .cons (dp_of hS n v d p r1 e1) (dps_of hS n ws ds qs r2 e2)
    · cases h
end
theorem eqq_some {x y : Dv} {b : Bool} (h : eqq S x y = some b) : ∃ p q, toP 40 S x = some p ∧ toP 40 S y = some q ∧ SeqAt.shaped p = true ∧ SeqAt.shaped q = true ∧ b = PyData.eqv p q := by
  unfold eqq at h
  split at h
  · rename_i p q e1 e2
    split at h
    · rename_i hc
      exact ⟨p, q, e1, e2, hc.1, hc.2, (Option.some.inj h).symm⟩
    · cases h
  · cases h
theorem o_eq : Op2 K eqD (rEqD K) := by
  intro mg Wx μ H S x y d e Q hS rx ry h
  unfold eqD at h
  split at h
  · rename_i b hb
    obtain ⟨p, q, e1, e2, s1, s2, rfl⟩ := eqq_some hb
    exact ⟨p, q, dp_of hS 40 _ _ _ rx e1, dp_of hS 40 _ _ _ ry e2, s1, s2, h.ok hS (.bl _)⟩
  · exact h.elim
theorem o_ne : Op2 K neD (rNeD K) := by
  intro mg Wx μ H S x y d e Q hS rx ry h
  unfold neD at h
  split at h
  · rename_i b hb
    obtain ⟨p, q, e1, e2, s1, s2, rfl⟩ := eqq_some hb
    exact ⟨p, q, dp_of hS 40 _ _ _ rx e1, dp_of hS 40 _ _ _ ry e2, s1, s2, h.ok hS (.bl _)⟩
  · exact h.elim
end

/-! ### keys -/
def keyOf : Dv → Option L2.Key
  | .int i => some (.inl i)
  | .str x => some (.inr x)
  | _ => none
def keysOf : List Dv → Option (List L2.Key)
  | [] => some []
  | d :: ds => match keyOf d, keysOf ds with
    | some k, some ks => some (k :: ks)
    | _, _ => none
def tkeyOf : Dv → Option (List L2.Key)
  | .tup ds => keysOf ds
  | _ => none
section
variable {κ : Type} [DecidableEq κ] {α : Type}
def gat : List (κ × α) → κ → Option α
  | [], _ => none
  | p :: r, k => if p.1 = k then some p.2 else gat r k
def gput (kvs : List (κ × α)) (k : κ) (v : α) : List (κ × α) :=
  if (kvs.any fun kv => decide (kv.1 = k)) = true then kvs.map (fun kv => if kv.1 = k then (kv.1, v) else kv) else kvs ++ [(k, v)]
end
section
variable {K : PySem.W.Frag} {μ : List Addr} {H : Hp} {S : Sto}
theorem keyOf_rep {v : V} {d : Dv} {k : L2.Key} (r : Rep K μ H v d) (h : keyOf d = some k) : v = kV k := by
  cases r <;> simp [keyOf] at h <;> (subst h; rfl)
theorem keysOf_rep : ∀ {vs : List V} {ds : List Dv} {ks : List L2.Key}, Reps K μ H vs ds → keysOf ds = some ks → vs = ks.map kV
  | vs, [], ks, r, h => by cases r.un0; simp [keysOf] at h; subst h; rfl
  | vs, d :: ds, ks, r, h => by
    obtain ⟨v, ws, rfl, r1, r2⟩ := r.uncons
    simp only [keysOf] at h
    split at h
    · rename_i k ks' e1 e2
      simp only [Option.some.injEq] at h; subst h
      rw [keyOf_rep r1 e1, keysOf_rep r2 e2]; rfl
    · cases h
theorem tkeyOf_rep {v : V} {d : Dv} {ks : List L2.Key} (r : Rep K μ H v d) (h : tkeyOf d = some ks) : ∃ b, v = .ref b ∧ H b = some (.tup (ks.map kV)) := by
  cases r with
  | tup h1 l q => exact ⟨_, rfl, by rw [h1.1, keysOf_rep ⟨l, q⟩ h]⟩
  | _ => simp [tkeyOf] at h
variable {κ : Type} [DecidableEq κ]
theorem gat_rep : ∀ {ws : List (κ × V)} {kvs : List (κ × Dv)} (k : κ), ws.map (·.1) = kvs.map (·.1) → Reps K μ H (ws.map (·.2)) (kvs.map (·.2)) →
    (gat kvs k = none ∧ valV ws k = none) ∨ ∃ d v, gat kvs k = some d ∧ valV ws k = some v ∧ Rep K μ H v d
  | [], [], k, _, _ => .inl ⟨rfl, rfl⟩
  | p :: ws, q :: kvs, k, h, r => by
    simp only [List.map_cons, List.cons.injEq] at h
    obtain ⟨v, vs, e, r1, r2⟩ := Reps.uncons r
    simp only [List.map_cons, List.cons.injEq] at e
    obtain ⟨rfl, rfl⟩ := e
    by_cases hk : q.1 = k
    · exact .inr ⟨q.2, p.2, by simp [gat, hk], valV_pos (h.1.trans hk), r1⟩
    · rcases gat_rep k h.2 r2 with ⟨e1, e2⟩ | ⟨d, v, e1, e2, e3⟩
      · exact .inl ⟨by simp [gat, hk, e1], by rw [valV_neg (by rw [h.1]; exact hk)]; exact e2⟩
      · exact .inr ⟨d, v, by simp [gat, hk, e1], by rw [valV_neg (by rw [h.1]; exact hk)]; exact e2, e3⟩
  | [], _ :: _, _, h, _ => by simp at h
  | _ :: _, [], _, h, _ => by simp at h
theorem any_keys {α β : Type} {k : κ} : ∀ {ws : List (κ × α)} {kvs : List (κ × β)}, ws.map (·.1) = kvs.map (·.1) → (ws.any fun kv => decide (kv.1 = k)) = kvs.any fun kv => decide (kv.1 = k)
  | [], [], _ => rfl
  | p :: ws, q :: kvs, h => by
    simp only [List.map_cons, List.cons.injEq] at h
    rw [List.any_cons, List.any_cons, any_keys h.2, h.1]
  | [], _ :: _, h => by simp at h
  | _ :: _, [], h => by simp at h
theorem repl_keys {α : Type} {k : κ} {v : α} (kvs : List (κ × α)) : (kvs.map fun kv => if kv.1 = k then (kv.1, v) else kv).map (·.1) = kvs.map (·.1) := by
  rw [List.map_map]
  refine List.map_congr_left fun p _ => ?_
  show (if p.1 = k then (p.1, v) else p).1 = p.1
  split <;> rfl
theorem repl_rep {k : κ} {v : V} {d : Dv} (rv : Rep K μ H v d) : ∀ {ws : List (κ × V)} {kvs : List (κ × Dv)}, ws.map (·.1) = kvs.map (·.1) → Reps K μ H (ws.map (·.2)) (kvs.map (·.2)) →
    Reps K μ H ((ws.map fun kv => if kv.1 = k then (kv.1, v) else kv).map (·.2)) ((kvs.map fun kv => if kv.1 = k then (kv.1, d) else kv).map (·.2))
  | [], [], _, _ => .nil
  | p :: ws, q :: kvs, h, r => by
    simp only [List.map_cons, List.cons.injEq] at h
    obtain ⟨u, us, e, r1, r2⟩ := Reps.uncons r
    simp only [List.map_cons, List.cons.injEq] at e
    obtain ⟨rfl, rfl⟩ := e
    simp only [List.map_cons]
    refine Reps.cons (repl_rep rv h.2 r2) ?_
    rw [h.1]
    split
    · exact rv
    · exact r1
  | [], _ :: _, h, _ => by simp at h
  | _ :: _, [], h, _ => by simp at h
theorem gput_rep {ws : List (κ × V)} {kvs : List (κ × Dv)} {k : κ} {v : V} {d : Dv} (h : ws.map (·.1) = kvs.map (·.1)) (r : Reps K μ H (ws.map (·.2)) (kvs.map (·.2))) (rv : Rep K μ H v d) :
    (putK ws k v).map (·.1) = (gput kvs k d).map (·.1) ∧ Reps K μ H ((putK ws k v).map (·.2)) ((gput kvs k d).map (·.2)) := by
  unfold putK gput
  rw [any_keys h]
  split
  · exact ⟨by rw [repl_keys, repl_keys, h], repl_rep rv h r⟩
  · exact ⟨by rw [List.map_append, List.map_append, h]; rfl, by rw [List.map_append, List.map_append]; exact r.append (.one rv)⟩
/-- what a dict tells of a key -/
def dget (S : Sto) (o k : Dv) : Option (Option Dv) := match o with
  | .ref l => match S[l]? with
    | some (.dk kvs) => (keyOf k).map (gat kvs)
    | some (.dt kvs) => (tkeyOf k).map (gat kvs)
    | _ => none
  | _ => none
theorem dget_rep {x y : V} {o k : Dv} {r : Option Dv} (hS : SimS K μ S H) (rx : Rep K μ H x o) (ry : Rep K μ H y k) (h : dget S o k = some r) :
    ∃ a u, x = .ref a ∧ DGet H a y u ∧ ((r = none ∧ u = none) ∨ ∃ d v, r = some d ∧ u = some v ∧ Rep K μ H v d) := by
  cases rx with
  | @ref l a hl =>
    simp only [dget] at h
    split at h
    · rename_i kvs e
      obtain ⟨ws, e1, e2, e3⟩ := hS.at' e hl
      simp only [Option.map_eq_some_iff] at h
      obtain ⟨κ, hk, h⟩ := h
      refine ⟨a, valV ws κ, rfl, ?_, ?_⟩
      · rw [keyOf_rep ry hk]; exact .k e1
      · rcases gat_rep κ e2 e3 with ⟨g1, g2⟩ | ⟨d, v, g1, g2, g3⟩
        · exact .inl ⟨h.symm.trans g1, g2⟩
        · exact .inr ⟨d, v, h.symm.trans g1, g2, g3⟩
    · rename_i kvs e
      obtain ⟨ws, e1, e2, e3⟩ := hS.at' e hl
      simp only [Option.map_eq_some_iff] at h
      obtain ⟨κ, hk, h⟩ := h
      obtain ⟨b, rfl, eb⟩ := tkeyOf_rep ry hk
      refine ⟨a, valV ws κ, rfl, .t e1 eb, ?_⟩
      rcases gat_rep κ e2 e3 with ⟨g1, g2⟩ | ⟨d, v, g1, g2, g3⟩
      · exact .inl ⟨h.symm.trans g1, g2⟩
      · exact .inr ⟨d, v, h.symm.trans g1, g2, g3⟩
    · cases h
  | _ => simp [dget] at h
/-- the store behind o[k] = d -/
def dput (S : Sto) (o k d : Dv) : Option Sto := match o with
  | .ref l => match S[l]? with
    | some (.dk kvs) => if kvs.length < sizeLine then (keyOf k).map fun κ => S.set l (.dk (gput kvs κ d)) else none
    | some (.dt kvs) => if kvs.length < sizeLine then (tkeyOf k).map fun κ => S.set l (.dt (gput kvs κ d)) else none
    | _ => none
  | _ => none
theorem dput_rep {x y v : V} {o k d : Dv} {S' : Sto} (hS : SimS K μ S H) (rx : Rep K μ H x o) (ry : Rep K μ H y k) (rv : Rep K μ H v d) (h : dput S o k d = some S') :
    ∃ a H', x = .ref a ∧ DPut H a y v H' ∧ SimS K μ S' H' ∧ Step μ H μ H' := by
  cases rx with
  | @ref l a hl =>
    simp only [dput] at h
    split at h
    · rename_i kvs e
      obtain ⟨ws, e1, e2, e3⟩ := hS.at' e hl
      split at h
      · rename_i hz
        simp only [Option.map_eq_some_iff] at h
        obtain ⟨κ, hk, rfl⟩ := h
        have hw : ws.length < sizeLine := by have := congrArg List.length e2; simp at this; omega
        refine ⟨a, _, rfl, ?_, hS.put hl (u := .dK (putK ws κ v)) ⟨_, upd_same, ?_⟩, step_put hS hl _⟩
        · rw [keyOf_rep ry hk]; exact .k e1 hw
        · obtain ⟨g1, g2⟩ := gput_rep (k := κ) e2 e3 rv
          exact ⟨g1, g2.step (step_put hS hl _)⟩
      · cases h
    · rename_i kvs e
      obtain ⟨ws, e1, e2, e3⟩ := hS.at' e hl
      split at h
      · rename_i hz
        simp only [Option.map_eq_some_iff] at h
        obtain ⟨κ, hk, rfl⟩ := h
        obtain ⟨b, rfl, eb⟩ := tkeyOf_rep ry hk
        have hw : ws.length < sizeLine := by have := congrArg List.length e2; simp at this; omega
        refine ⟨a, _, rfl, .t e1 eb hw, hS.put hl (u := .dT (putK ws κ v)) ⟨_, upd_same, ?_⟩, step_put hS hl _⟩
        obtain ⟨g1, g2⟩ := gput_rep (k := κ) e2 e3 rv
        exact ⟨g1, g2.step (step_put hS hl _)⟩
      · cases h
    · cases h
  | _ => simp [dput] at h
end

/-! ### subscripts -/
def idxD (o i : Dv) (S : Sto) : Out Dv := match i with
  | .int k => match o with
    | .str x => if x.length ≤ sizeLine then (match atI x.cps.toList k with | some c => .ok (.str ⟨#[c]⟩) S | none => .no) else .no
    | _ => match tupOf o with
      | some ds => (match atI ds k with | some d => .ok d S | none => .no)
      | none => match lstOf S o with
        | some ds => (match atI ds k with | some d => .ok d S | none => .no)
        | none => match dget S o i with
          | some (some d) => .ok d S
          | _ => .no
  | _ => match dget S o i with
    | some (some d) => .ok d S
    | _ => .no
abbrev rIxD : R2 := fun x y H Q => ∃ a v, x = .ref a ∧ DGet H a y (some v) ∧ Q v H
theorem ix_dict {X : Cx} (hu : X.A.units + 1 < cLine) : IxR X rIxD := by
  intro value slice pins s σ H x y v u Q I rx ry h hs
  obtain ⟨a, w, rfl, g, q⟩ := h
  cases rx
  exact tail_any (ops := [.ref a, u]) (dict_typeIs I g) PySem.F.slot_dict_getitem.lookup (d_getItem hu I g ry fun w' s3 I3 rw' => ⟨w, H, I3, rw', q⟩) hs
abbrev rIxAll (K : PySem.W.Frag) : R2 := fun x y H Q => rIx K x y H Q ∨ rIxD x y H Q
section
variable {X : Cx} {K : PySem.W.Frag} {W : WX} {a b : Expr} {ra rb : RE} {pos : Pos}
theorem atI_rep {μ : List Addr} {H : Hp} {vs : List V} {ds : List Dv} {k : Int} {d : Dv} (r : Reps K μ H vs ds) (h : atI ds k = some d) : ∃ v, atI vs k = some v ∧ Rep K μ H v d := by
  unfold atI at h ⊢
  rw [r.1]
  obtain ⟨j, e, h⟩ := Option.bind_eq_some_iff.mp h
  obtain ⟨v, e1, rv⟩ := r.get h
  exact ⟨v, by rw [e]; exact e1, rv⟩
theorem o_idx : Op2 K idxD (rIxAll K) := by
  intro mg Wx μ H S x y o i Q hS rx ry h
  have dict : ∀ (h : Met (Rep K) K mg Wx μ H (match dget S o i with | some (some d) => .ok d S | _ => .no) Q), rIxAll K x y H Q := fun h => by
    split at h
    · rename_i d e
      obtain ⟨a, u, ex, g, hh⟩ := dget_rep hS rx ry e
      rcases hh with ⟨z, _⟩ | ⟨d', v, e1, e2, r⟩
      · cases z
      · cases e1; subst e2
        exact .inr ⟨a, v, ex, g, h.ok hS r⟩
    · exact h.elim
  unfold idxD at h
  split at h
  · rename_i k
    cases ry
    split at h
    · rename_i z
      cases rx
      split at h
      · rename_i hz
        split at h
        · rename_i c e
          exact .inl (.inr (.inr ⟨_, _, c, rfl, rfl, hz, e, h.ok hS (.str _)⟩))
        · exact h.elim
      · exact h.elim
    · split at h
      · rename_i ds e
        obtain ⟨a, vs, rfl, hq, r⟩ := rx.sqT e
        split at h
        · rename_i d e2
          obtain ⟨v, e3, rv⟩ := atI_rep r e2
          exact .inl (.inr (.inl ⟨_, _, _, v, rfl, rfl, hq, e3, h.ok hS rv⟩))
        · exact h.elim
      · split at h
        · rename_i ds e
          obtain ⟨a, vs, rfl, hq, r⟩ := rx.sqL hS e
          split at h
          · rename_i d e2
            obtain ⟨v, e3, rv⟩ := atI_rep r e2
            exact .inl (.inl ⟨_, _, _, v, rfl, rfl, hq, e3, h.ok hS rv⟩)
          · exact h.elim
        · exact dict h
  · exact dict h
theorem se_ix (hu : X.A.units + 1 < cLine) (ha : SE X W a ra) (hb : SE X W b rb) (hs : PlainIx b := by exact fun _ _ => rfl) : SE X W (.Subscript a b pos) (eBin idxD ra rb) :=
  PE.imp (pe_ix (IxR.or ix_seq (ix_dict hu)) ha hb hs) fun _ _ _ h => bnd2 o_idx h
/-! ### slices -/
abbrev RO := Env → Sto → Out (Option Int)
def oNone : RO := fun _ S => .ok none S
def oSome (r : RE) : RO := fun ρ S => (r ρ S).bind fun d S1 => match d with
  | .int i => .ok (some i) S1
  | _ => .no
def cutD {α : Type} (ds : List α) (lo hi : Option Int) : List α := (ds.drop (HT.sIx ds.length 0 lo)).take (HT.sIx ds.length ds.length hi - HT.sIx ds.length 0 lo)
def sliD (o : Dv) (lo hi : Option Int) (S : Sto) : Out Dv := match o with
  | .str x => if x.length ≤ sizeLine then .ok (.str (cutS x lo hi)) S else .no
  | .tup ds => .ok (.tup (cutD ds lo hi)) S
  | _ => match lstOf S o with
    | some ds => newL (cutD ds lo hi) S
    | none => .no
def eSli (o : RE) (l h : RO) : RE := fun ρ S => (o ρ S).bind fun d S1 => (l ρ S1).bind fun lo S2 => (h ρ S2).bind fun hi S3 => sliD d lo hi S3
def RInt (μ : List Addr) (H : Hp) (b b' : Option Int) : Prop := b = b'
structure SO (X : Cx) (W : WX) (e : Option Expr) (r : RO) : Prop where
  po : PO X e (tG RInt X.K X.mg W r)
theorem so_none : SO X W none oNone := ⟨⟨fun pins s σ H Q I ⟨μ, ρ, S, hS, hE, h⟩ => po_none.run pins s σ H Q I (Met.ok (RP := RInt) h hS rfl)⟩⟩
theorem so_some {e : Expr} (h : SE X W e ra) : SO X W (some e) (oSome ra) := ⟨⟨fun pins s σ H Q I ⟨μ, ρ, S, hS, hE, hm⟩ => (po_some h).run pins s σ H Q I <|
  (bnd hS hE hm).mono fun v H1 ⟨μ1, S1, d, hS1, hE1, s1, rv, h1⟩ => by
    cases rv <;> first | exact h1.elim | exact ⟨_, rfl, Met.ok (RP := RInt) h1 hS1 rfl⟩⟩⟩
theorem cut_rep {μ : List Addr} {H : Hp} {vs : List V} {ds : List Dv} (r : Reps K μ H vs ds) (lo hi : Option Int) : Reps K μ H (cutV vs lo hi) (cutD ds lo hi) := by
  unfold cutV cutD
  rw [r.1]
  exact (r.drop _).take _
theorem cut_whole {α : Type} {ds : List α} {lo hi : Option Int} (h : HT.sIx ds.length 0 lo = 0 ∧ HT.sIx ds.length ds.length hi = ds.length) : cutD ds lo hi = ds := by
  unfold cutD
  rw [h.1, h.2]
  simp
theorem se_sli {lo hi : Option Expr} {rl rh : RO} {p2 : Pos} (ha : SE X W a ra) (hl : SO X W lo rl) (hh : SO X W hi rh) : SE X W (.Subscript a (.Slice lo hi none p2) pos) (eSli ra rl rh) :=
  PE.imp (pe_slice (SlR.or sl_str (SlR.or sl_tupA sl_list)) ha hl.po hh.po) fun σ H Q ⟨μ, ρ, S, hS, hE, h⟩ => (bnd hS hE h).mono fun v H1 ⟨μ1, S1, d, hS1, hE1, s1, rv, h1⟩ =>
    (bnd (R1 := RInt) hS1 hE1 h1).mono fun l H2 ⟨μ2, S2, l', hS2, hE2, s2, rl, h2⟩ => (bnd (R1 := RInt) hS2 hE2 h2).mono fun u H3 ⟨μ3, S3, u', hS3, hE3, s3, ru, h3⟩ => by
      cases (show l = l' from rl)
      cases (show u = u' from ru)
      have rv3 := (rv.step s2).step s3
      unfold sliD at h3
      split at h3
      · cases rv3
        split at h3
        · rename_i hz; exact .inl ⟨_, rfl, hz, h3.ok hS3 (.str _)⟩
        · exact h3.elim
      · cases rv3 with
        | tup t1 t2 t3 =>
          have r : Reps X.K μ3 H3 _ _ := ⟨t2, t3⟩
          refine .inr (.inl ⟨_, _, rfl, .of t1.1, fun w => ?_, fun _ p n => h3.tup hS3 n (cut_rep r _ _)⟩)
          rw [t2] at w
          rw [cut_whole w] at h3
          exact h3.ok hS3 (.tup t1 t2 t3)
      · split at h3
        · rename_i ds e
          obtain ⟨a, vs, rfl, hq, r⟩ := rv3.sqL hS3 e
          exact .inr (.inr ⟨a, vs, rfl, hq, fun p n => h3.lst hS3 n (cut_rep r _ _)⟩)
        · exact h3.elim
end
end PL

namespace PL
open PySem PySem.Spec PyProof.Rows L2

/-! ### built-ins -/
def kD : L2.Key → Dv
  | .inl i => .int i
  | .inr x => .str x
def intsOf : List Dv → Option (List Int)
  | [] => some []
  | .int i :: r => (intsOf r).map (i :: ·)
  | _ => none
def blsOf : List Dv → Option (List Bool)
  | [] => some []
  | .bl i :: r => (blsOf r).map (i :: ·)
  | _ => none
def strsOf : List Dv → Option (List Str)
  | [] => some []
  | .str i :: r => (strsOf r).map (i :: ·)
  | _ => none
def seqOf (S : Sto) (d : Dv) : Option (List Dv) := match tupOf d with
  | some ds => some ds
  | none => lstOf S d
def lenD (ds : List Dv) (S : Sto) : Out Dv := match ds with
  | [.str x] => if x.length ≤ sizeLine then .ok (.int x.length) S else .no
  | [d] => match seqOf S d with
    | some xs => .ok (.int xs.length) S
    | none => match d with
      | .ref l => match S[l]? with
        | some (.dk kvs) => .ok (.int kvs.length) S
        | some (.dt kvs) => .ok (.int kvs.length) S
        | _ => .no
      | _ => .no
  | _ => .no
def listD (ds : List Dv) (S : Sto) : Out Dv := match ds with
  | [d] => match seqOf S d with
    | some xs => newL xs S
    | none => match d with
      | .ref l => match S[l]? with
        | some (.dk kvs) => newL (kvs.map fun kv => kD kv.1) S
        | _ => .no
      | _ => .no
  | _ => .no
def tupleD (ds : List Dv) (S : Sto) : Out Dv := match ds with
  | [.tup xs] => .ok (.tup xs) S
  | [.kt xs] => .ok (.kt xs) S
  | [d] => match lstOf S d with
    | some xs => .ok (.tup xs) S
    | none => .no
  | _ => .no
def intD (ds : List Dv) (S : Sto) : Out Dv := match ds with
  | [.int i] => .ok (.int i) S
  | [.bl b] => .ok (.int (if b then 1 else 0)) S
  | [.str x] => match PySem.intText? x with
    | some n => if x.length ≤ 640 then .ok (.int n) S else .no
    | none => .no
  | _ => .no
def strD (ds : List Dv) (S : Sto) : Out Dv := match ds with
  | [.int i] => if i.natAbs.log2 < 1920 then .ok (.str (toString i)) S else .no
  | _ => .no
def absD (ds : List Dv) (S : Sto) : Out Dv := match ds with
  | [.int i] => .ok (.int (if i < 0 then -i else i)) S
  | _ => .no
def maxI : List Int → Option Int
  | [] => none
  | x :: r => some (r.foldl max x)
def minI : List Int → Option Int
  | [] => none
  | x :: r => some (r.foldl min x)
def max2D (ds : List Dv) (S : Sto) : Out Dv := match ds with
  | [.int i, .int j] => .ok (.int (max i j)) S
  | _ => .no
def min2D (ds : List Dv) (S : Sto) : Out Dv := match ds with
  | [.int i, .int j] => .ok (.int (min i j)) S
  | _ => .no
def maxD (ds : List Dv) (S : Sto) : Out Dv := match ds with
  | [d] => match (lstOf S d).bind intsOf with
    | some ns => match maxI ns with
      | some m => .ok (.int m) S
      | none => .no
    | none => .no
  | _ => .no
def minD (ds : List Dv) (S : Sto) : Out Dv := match ds with
  | [d] => match (lstOf S d).bind intsOf with
    | some ns => match minI ns with
      | some m => .ok (.int m) S
      | none => .no
    | none => .no
  | _ => .no
def sumD (ds : List Dv) (S : Sto) : Out Dv := match ds with
  | [d] => match (lstOf S d).bind intsOf with
    | some ns => .ok (.int ns.sum) S
    | none => .no
  | _ => .no
def anyD (ds : List Dv) (S : Sto) : Out Dv := match ds with
  | [d] => match (lstOf S d).bind blsOf with
    | some ns => .ok (.bl (ns.any id)) S
    | none => .no
  | _ => .no
section
variable {X : Cx} {K : PySem.W.Frag} {μ : List Addr} {H : Hp} {S : Sto}
theorem intsOf_rep : ∀ {vs : List V} {ds : List Dv} {ns : List Int}, Reps K μ H vs ds → intsOf ds = some ns → vs = ns.map V.int
  | vs, [], ks, r, h => by cases r.un0; simp [intsOf] at h; subst h; rfl
  | vs, d :: ds, ks, r, h => by
    obtain ⟨v, ws, rfl, r1, r2⟩ := r.uncons
    cases r1 <;> simp only [intsOf] at h <;> first | cases h | skip
    rw [Option.map_eq_some_iff] at h
    obtain ⟨ns, e, rfl⟩ := h
    rw [intsOf_rep r2 e]; rfl
theorem blsOf_rep : ∀ {vs : List V} {ds : List Dv} {ns : List Bool}, Reps K μ H vs ds → blsOf ds = some ns → vs = ns.map V.bl
  | vs, [], ks, r, h => by cases r.un0; simp [blsOf] at h; subst h; rfl
  | vs, d :: ds, ks, r, h => by
    obtain ⟨v, ws, rfl, r1, r2⟩ := r.uncons
    cases r1 <;> simp only [blsOf] at h <;> first | cases h | skip
    rw [Option.map_eq_some_iff] at h
    obtain ⟨ns, e, rfl⟩ := h
    rw [blsOf_rep r2 e]; rfl
theorem strsOf_rep : ∀ {vs : List V} {ds : List Dv} {ns : List Str}, Reps K μ H vs ds → strsOf ds = some ns → vs = ns.map V.str
  | vs, [], ks, r, h => by cases r.un0; simp [strsOf] at h; subst h; rfl
  | vs, d :: ds, ks, r, h => by
    obtain ⟨v, ws, rfl, r1, r2⟩ := r.uncons
    cases r1 <;> simp only [strsOf] at h <;> first | cases h | skip
    rw [Option.map_eq_some_iff] at h
    obtain ⟨ns, e, rfl⟩ := h
    rw [strsOf_rep r2 e]; rfl
theorem seq_rep {v : V} {d : Dv} {ds : List Dv} (hS : SimS K μ S H) (r : Rep K μ H v d) (e : seqOf S d = some ds) : ∃ a vs, v = .ref a ∧ (SqL K H a vs ∨ SqT K H a vs) ∧ Reps K μ H vs ds := by
  unfold seqOf at e
  split at e
  · rename_i xs e1
    cases e
    obtain ⟨a, vs, h1, h2, h3⟩ := r.sqT e1
    exact ⟨a, vs, h1, .inr h2, h3⟩
  · obtain ⟨a, vs, h1, h2, h3⟩ := r.sqL hS e
    exact ⟨a, vs, h1, .inl h2, h3⟩
theorem Reps.get1 {vs : List V} {d : Dv} (r : Reps K μ H vs [d]) : ∃ v, vs = [v] ∧ Rep K μ H v d := by
  obtain ⟨v, ws, rfl, r1, r2⟩ := r.uncons
  cases r2.un0
  exact ⟨v, rfl, r1⟩
theorem Reps.get2 {vs : List V} {d e : Dv} (r : Reps K μ H vs [d, e]) : ∃ v u, vs = [v, u] ∧ Rep K μ H v d ∧ Rep K μ H u e := by
  obtain ⟨v, ws, rfl, r1, r2⟩ := r.uncons
  obtain ⟨u, rfl, r3⟩ := r2.get1
  exact ⟨v, u, rfl, r1, r3⟩
theorem call_lenAll : CallR X (.builtin "len") (fun xs H Q => (∃ x n, xs = [x] ∧ LenV X.K x H n ∧ Q (.int n) H) ∨ ((∃ a kvs, xs = [V.ref a] ∧ H a = some (.dK kvs) ∧ Q (.int kvs.length) H) ∨ rLenT xs H Q)) := CallR.or call_len (CallR.or call_lenD call_len_dT)
theorem o_len : OpL K lenD (fun xs H Q => (∃ x n, xs = [x] ∧ LenV K x H n ∧ Q (.int n) H) ∨ ((∃ a kvs, xs = [V.ref a] ∧ H a = some (.dK kvs) ∧ Q (.int kvs.length) H) ∨ rLenT xs H Q)) := by
  intro mg Wx μ H S vs ds Q hS r h
  unfold lenD at h
  split at h
  · rename_i x
    obtain ⟨v, rfl, rv⟩ := r.get1
    cases rv
    split at h
    · rename_i hz; exact .inl ⟨_, _, rfl, ⟨hz, rfl⟩, h.ok hS (.int _)⟩
    · exact h.elim
  · rename_i d _
    obtain ⟨v, rfl, rv⟩ := r.get1
    split at h
    · rename_i xs e
      obtain ⟨a, vs, rfl, hq, rr⟩ := seq_rep hS rv e
      refine .inl ⟨_, vs.length, rfl, ?_, by rw [rr.1]; exact h.ok hS (.int _)⟩
      exact hq.imp (fun q => ⟨vs, q, rfl⟩) fun q => ⟨vs, q, rfl⟩
    · split at h
      · cases rv with
        | ref hl =>
          split at h
          · rename_i kvs e
            obtain ⟨ws, e1, e2, e3⟩ := hS.at' e hl
            have e4 : ws.length = kvs.length := by have := congrArg List.length e2; simpa using this
            exact .inr (.inl ⟨_, ws, rfl, e1, by rw [e4]; exact h.ok hS (.int _)⟩)
          · rename_i kvs e
            obtain ⟨ws, e1, e2, e3⟩ := hS.at' e hl
            have e4 : ws.length = kvs.length := by have := congrArg List.length e2; simpa using this
            exact .inr (.inr ⟨_, ws, rfl, e1, by rw [e4]; exact h.ok hS (.int _)⟩)
          · exact h.elim
      · exact h.elim
  · exact h.elim
abbrev rListAll (K : PySem.W.Frag) : List V → Hp → VK → Prop := fun xs H Q => (∃ p ys, xs = [.ref p] ∧ (SqL K H p ys ∨ SqT K H p ys) ∧ ∀ l, H l = none → Q (.ref l) (upd H l (.lst ys))) ∨ rListD xs H Q
theorem call_listAll (hc : X.calm = true) : CallR X (.type "list") (rListAll X.K) := CallR.or call_list_of (call_list_dK hc)
theorem rep_kV {μ : List Addr} {H : Hp} (k : L2.Key) : Rep K μ H (kV k) (kD k) := by
  cases k with
  | inl i => exact .int i
  | inr x => exact .str x
theorem reps_keys {μ : List Addr} {H : Hp} : ∀ {ws : List (L2.Key × V)} {kvs : List (L2.Key × Dv)}, ws.map (·.1) = kvs.map (·.1) → Reps K μ H (ws.map fun kv => kV kv.1) (kvs.map fun kv => kD kv.1)
  | [], [], _ => .nil
  | p :: ws, q :: kvs, h => by
    simp only [List.map_cons, List.cons.injEq] at h
    simp only [List.map_cons]
    rw [h.1]
    exact (reps_keys h.2).cons (rep_kV _)
  | [], _ :: _, h => by simp at h
  | _ :: _, [], h => by simp at h
theorem o_list : OpL K listD (rListAll K) := by
  intro mg Wx μ H S vs ds Q hS r h
  unfold listD at h
  split at h
  · rename_i d
    obtain ⟨v, rfl, rv⟩ := r.get1
    split at h
    · rename_i xs e
      obtain ⟨a, vs, rfl, hq, rr⟩ := seq_rep hS rv e
      exact .inl ⟨_, vs, rfl, hq, fun p n => h.lst hS n rr⟩
    · split at h
      · cases rv with
        | ref hl =>
          split at h
          · rename_i kvs e
            obtain ⟨ws, e1, e2, e3⟩ := hS.at' e hl
            exact .inr ⟨_, ws, rfl, e1, fun p n => h.lst hS n (reps_keys e2)⟩
          · exact h.elim
      · exact h.elim
  · exact h.elim
theorem o_tuple : OpL K tupleD (fun xs H Q => ∃ p ys, xs = [.ref p] ∧ ((SqL K H p ys ∧ ∀ l, H l = none → Q (.ref l) (upd H l (.tup ys))) ∨ (SqT K H p ys ∧ Q (.ref p) H))) := by
  intro mg Wx μ H S vs ds Q hS r h
  unfold tupleD at h
  split at h
  · obtain ⟨v, rfl, rv⟩ := r.get1
    cases rv with
    | tup t l q => exact ⟨_, _, rfl, .inr ⟨.of t.1, h.ok hS (.tup t l q)⟩⟩
  · obtain ⟨v, rfl, rv⟩ := r.get1
    cases rv with
    | kt t l q => exact ⟨_, _, rfl, .inr ⟨.inr t, h.ok hS (.kt t l q)⟩⟩
  · obtain ⟨v, rfl, rv⟩ := r.get1
    split at h
    · rename_i xs e
      obtain ⟨a, vs, rfl, hq, rr⟩ := rv.sqL hS e
      exact ⟨_, _, rfl, .inl ⟨hq, fun p n => h.tup hS n rr⟩⟩
    · exact h.elim
  · exact h.elim
abbrev rInt : List V → Hp → VK → Prop := fun xs H Q => ((∃ i, xs = [.int i] ∧ Q (.int i) H) ∨ ∃ k, xs = [.bl k] ∧ Q (.int (if k then 1 else 0)) H) ∨ (∃ a n, xs = [.str a] ∧ PySem.intText? a = some n ∧ a.length ≤ 640 ∧ Q (.int n) H)
theorem call_intAll : CallR X (.type "int") rInt := CallR.or call_int1 call_int_str
theorem o_int : OpL K intD rInt := by
  intro mg Wx μ H S vs ds Q hS r h
  unfold intD at h
  split at h
  · obtain ⟨v, rfl, rv⟩ := r.get1; cases rv; exact .inl (.inl ⟨_, rfl, h.ok hS (.int _)⟩)
  · obtain ⟨v, rfl, rv⟩ := r.get1; cases rv; exact .inl (.inr ⟨_, rfl, h.ok hS (.int _)⟩)
  · obtain ⟨v, rfl, rv⟩ := r.get1
    cases rv
    split at h
    · split at h
      · rename_i n e hz; exact .inr ⟨_, n, rfl, e, hz, h.ok hS (.int _)⟩
      · exact h.elim
    · exact h.elim
  · exact h.elim
theorem o_str : OpL K strD (fun xs H Q => ∃ i, xs = [.int i] ∧ i.natAbs.log2 < 1920 ∧ Q (.str (toString i)) H) := by
  intro mg Wx μ H S vs ds Q hS r h
  unfold strD at h
  split at h
  · obtain ⟨v, rfl, rv⟩ := r.get1
    cases rv
    split at h
    · rename_i hz; exact ⟨_, rfl, hz, h.ok hS (.str _)⟩
    · exact h.elim
  · exact h.elim
theorem o_abs : OpL K absD (fun xs H Q => ∃ i, xs = [.int i] ∧ Q (.int (if i < 0 then -i else i)) H) := by
  intro mg Wx μ H S vs ds Q hS r h
  unfold absD at h
  split at h
  · obtain ⟨v, rfl, rv⟩ := r.get1; cases rv; exact ⟨_, rfl, h.ok hS (.int _)⟩
  · exact h.elim
theorem o_max2 : OpL K max2D (fun xs H Q => ∃ i j, xs = [.int i, .int j] ∧ Q (.int (if j > i then j else i)) H) := by
  intro mg Wx μ H S vs ds Q hS r h
  unfold max2D at h
  split at h
  · rename_i i j
    obtain ⟨v, u, rfl, rv, ru⟩ := r.get2; cases rv; cases ru
    refine ⟨_, _, rfl, ?_⟩
    have e : max i j = if j > i then j else i := by split <;> omega
    rw [e] at h
    exact h.ok hS (.int _)
  · exact h.elim
theorem o_min2 : OpL K min2D (fun xs H Q => ∃ i j, xs = [.int i, .int j] ∧ Q (.int (if j < i then j else i)) H) := by
  intro mg Wx μ H S vs ds Q hS r h
  unfold min2D at h
  split at h
  · rename_i i j
    obtain ⟨v, u, rfl, rv, ru⟩ := r.get2; cases rv; cases ru
    refine ⟨_, _, rfl, ?_⟩
    have e : min i j = if j < i then j else i := by split <;> omega
    rw [e] at h
    exact h.ok hS (.int _)
  · exact h.elim
theorem foldmax_spec : ∀ (ns : List Int) (x : Int), (ns.foldl max x ∈ x :: ns) ∧ ∀ y ∈ x :: ns, y ≤ ns.foldl max x
  | [], x => by simp
  | y :: r, x => by
    obtain ⟨h1, h2⟩ := foldmax_spec r (max x y)
    have h3 := h2 (max x y) List.mem_cons_self
    rw [List.foldl_cons]
    refine ⟨?_, fun z hz => ?_⟩
    · rcases List.mem_cons.mp h1 with e | h1
      · rw [e]
        by_cases hxy : x ≤ y
        · rw [Int.max_eq_right hxy]; simp
        · rw [Int.max_eq_left (by omega)]; simp
      · exact List.mem_cons_of_mem _ (List.mem_cons_of_mem _ h1)
    · rcases List.mem_cons.mp hz with rfl | hz
      · omega
      · rcases List.mem_cons.mp hz with rfl | hz
        · omega
        · exact h2 z (List.mem_cons_of_mem _ hz)
theorem foldmin_spec : ∀ (ns : List Int) (x : Int), (ns.foldl min x ∈ x :: ns) ∧ ∀ y ∈ x :: ns, ns.foldl min x ≤ y
  | [], x => by simp
  | y :: r, x => by
    obtain ⟨h1, h2⟩ := foldmin_spec r (min x y)
    have h3 := h2 (min x y) List.mem_cons_self
    rw [List.foldl_cons]
    refine ⟨?_, fun z hz => ?_⟩
    · rcases List.mem_cons.mp h1 with e | h1
      · rw [e]
        by_cases hxy : x ≤ y
        · rw [Int.min_eq_left hxy]; simp
        · rw [Int.min_eq_right (by omega)]; simp
      · exact List.mem_cons_of_mem _ (List.mem_cons_of_mem _ h1)
    · rcases List.mem_cons.mp hz with rfl | hz
      · omega
      · rcases List.mem_cons.mp hz with rfl | hz
        · omega
        · exact h2 z (List.mem_cons_of_mem _ hz)
theorem maxI_spec (ns : List Int) (m : Int) (h : maxI ns = some m) : m ∈ ns ∧ ∀ y ∈ ns, y ≤ m := by
  cases ns with
  | nil => simp [maxI] at h
  | cons x r => simp only [maxI, Option.some.injEq] at h; subst h; exact foldmax_spec r x
theorem minI_spec (ns : List Int) (m : Int) (h : minI ns = some m) : m ∈ ns ∧ ∀ y ∈ ns, m ≤ y := by
  cases ns with
  | nil => simp [minI] at h
  | cons x r => simp only [minI, Option.some.injEq] at h; subst h; exact foldmin_spec r x
theorem o_max : OpL K maxD (rMax K) := by
  intro mg Wx μ H S vs ds Q hS r h
  unfold maxD at h
  split at h
  · obtain ⟨v, rfl, rv⟩ := r.get1
    split at h
    · rename_i ns e
      split at h
      · rename_i m em
        obtain ⟨es, e1, e2⟩ := Option.bind_eq_some_iff.mp e
        obtain ⟨a, us, rfl, hq, rr⟩ := rv.sqL hS e1
        cases intsOf_rep rr e2
        obtain ⟨h1, h2⟩ := maxI_spec ns m em
        refine ⟨a, ns, rfl, hq, List.length_pos_of_mem h1, fun m' hm' hle => ?_⟩
        have e3 : m = m' := Int.le_antisymm (hle _ h1) (h2 _ hm')
        subst e3
        exact h.ok hS (.int _)
      · exact h.elim
    · exact h.elim
  · exact h.elim
theorem o_min : OpL K minD (rMin K) := by
  intro mg Wx μ H S vs ds Q hS r h
  unfold minD at h
  split at h
  · obtain ⟨v, rfl, rv⟩ := r.get1
    split at h
    · rename_i ns e
      split at h
      · rename_i m em
        obtain ⟨es, e1, e2⟩ := Option.bind_eq_some_iff.mp e
        obtain ⟨a, us, rfl, hq, rr⟩ := rv.sqL hS e1
        cases intsOf_rep rr e2
        obtain ⟨h1, h2⟩ := minI_spec ns m em
        refine ⟨a, ns, rfl, hq, List.length_pos_of_mem h1, fun m' hm' hle => ?_⟩
        have e3 : m = m' := Int.le_antisymm (h2 _ hm') (hle _ h1)
        subst e3
        exact h.ok hS (.int _)
      · exact h.elim
    · exact h.elim
  · exact h.elim
theorem o_sum : OpL K sumD (rSum K) := by
  intro mg Wx μ H S vs ds Q hS r h
  unfold sumD at h
  split at h
  · obtain ⟨v, rfl, rv⟩ := r.get1
    split at h
    · rename_i ns e
      obtain ⟨es, e1, e2⟩ := Option.bind_eq_some_iff.mp e
      obtain ⟨a, us, rfl, hq, rr⟩ := rv.sqL hS e1
      cases intsOf_rep rr e2
      exact ⟨a, ns, rfl, hq, h.ok hS (.int _)⟩
    · exact h.elim
  · exact h.elim
theorem o_any : OpL K anyD (rAny K) := by
  intro mg Wx μ H S vs ds Q hS r h
  unfold anyD at h
  split at h
  · obtain ⟨v, rfl, rv⟩ := r.get1
    split at h
    · rename_i ns e
      obtain ⟨es, e1, e2⟩ := Option.bind_eq_some_iff.mp e
      obtain ⟨a, us, rfl, hq, rr⟩ := rv.sqL hS e1
      cases blsOf_rep rr e2
      exact ⟨a, ns, rfl, hq, h.ok hS (.bl _)⟩
    · exact h.elim
  · exact h.elim
end
end PL

namespace PL
open PySem PySem.Spec PyProof.Rows L2

/-! ### in -/
def flatD : Dv → Bool
  | .non => true
  | .bl _ => true
  | .int _ => true
  | .str _ => true
  | _ => false
def eqF : Dv → Dv → Bool
  | .non, .non => true
  | .bl a, .bl b => a == b
  | .bl a, .int b => (if a then 1 else 0) == b
  | .int a, .bl b => a == (if b then 1 else 0)
  | .int a, .int b => a == b
  | .str a, .str b => a == b
  | _, _ => false
def memq (S : Sto) (x y : Dv) : Option Bool := match y with
  | .str z => match x with
    | .str w => match w.cps.toList with
      | [c] => some (decide (c ∈ z.cps.toList))
      | _ => none
    | _ => none
  | _ => match tupOf y with
    | some ds => if flatD x = true ∧ ds.all flatD = true then some (ds.any fun d => eqF d x) else none
    | none => match lstOf S y with
      | some ds => match toP 40 S x, toPs 39 S ds with
        | some p, some qs => if SeqAt.shaped p = true ∧ SeqAt.shaped (.list qs) = true then some (qs.any fun z => PyData.eqv z p) else none
        | _, _ => none
      | none => match dget S y x with
        | some r => some r.isSome
        | none => none
def inD (x y : Dv) (S : Sto) : Out Dv := match memq S x y with
  | some b => .ok (.bl b) S
  | none => .no
def ninD (x y : Dv) (S : Sto) : Out Dv := match memq S x y with
  | some b => .ok (.bl (!b)) S
  | none => .no
abbrev rInAll (K : PySem.W.Frag) (g : Bool → Bool) : R2 := fun x y H Q =>
  (∃ (c : Nat) (z : Str), x = .str ⟨#[c]⟩ ∧ y = .str z ∧ Q (.bl (g (decide (c ∈ z.cps.toList)))) H) ∨
  ((∃ p xs, y = .ref p ∧ (SqL K H p xs ∨ SqT K H p xs) ∧ flatV x = true ∧ xs.all flatV = true ∧ Q (.bl (g (inV x xs))) H) ∨
  ((∃ d ds, Dp K H x d ∧ Dp K H y (.list ds) ∧ SeqAt.shaped d = true ∧ SeqAt.shaped (.list ds) = true ∧ Q (.bl (g (ds.any fun z => PyData.eqv z d))) H) ∨
  ∃ a o, y = .ref a ∧ DGet H a x o ∧ Q (.bl (g o.isSome)) H))
section
variable {X : Cx} {K : PySem.W.Frag} {μ : List Addr} {H : Hp} {S : Sto}
theorem op_inAll (hu : X.A.units + 65 < cLine) : OpR X (compareOp .In) (rInAll X.K id) :=
  OpR.or op_in_sign (OpR.or op_in_seq (OpR.or (op_inD hu) fun pins s σ H x y v u Q I rx ry ⟨a, o, ey, g, q⟩ => by
    subst ey
    obtain rfl : u = Value.ref a := ry
    exact d_in (by omega) I g rx fun s3 I3 => ⟨.bl o.isSome, H, I3, rfl, q⟩))
theorem op_ninAll (hu : X.A.units + 65 < cLine) : OpR X (compareOp .NotIn) (rInAll X.K not) :=
  OpR.or op_notIn_sign (OpR.or op_notIn_seq (OpR.or (op_notInD hu) fun pins s σ H x y v u Q I rx ry ⟨a, o, ey, g, q⟩ => by
    subst ey
    obtain rfl : u = Value.ref a := ry
    exact d_notIn (by omega) I g rx fun s3 I3 => ⟨.bl (!o.isSome), H, I3, rfl, q⟩))
theorem flat_rep {v : V} {d : Dv} (r : Rep K μ H v d) (f : flatD d = true) : flatV v = true := by
  cases r <;> first | rfl | simp [flatD] at f
theorem eqF_rep {v u : V} {d e : Dv} (r : Rep K μ H v d) (q : Rep K μ H u e) (f : flatD d = true) (g : flatD e = true) : eqV v u = eqF d e := by
  cases r <;> cases q <;> first | rfl | simp [flatD] at f | simp [flatD] at g
theorem anyF_rep {x : V} {d : Dv} (r : Rep K μ H x d) (f : flatD d = true) : ∀ {vs : List V} {ds : List Dv}, Reps K μ H vs ds → ds.all flatD = true → vs.all flatV = true ∧ inV x vs = ds.any fun e => eqF e d
  | vs, [], rr, _ => by cases rr.un0; exact ⟨rfl, rfl⟩
  | vs, e :: ds, rr, h => by
    obtain ⟨v, ws, rfl, r1, r2⟩ := rr.uncons
    rw [List.all_cons, Bool.and_eq_true] at h
    obtain ⟨h1, h2⟩ := anyF_rep r f r2 h.2
    refine ⟨by rw [List.all_cons, h1, flat_rep r1 h.1]; rfl, ?_⟩
    rw [List.any_cons, ← h2, ← eqF_rep r1 r h.1 f]
    rfl
theorem o_mem {g : Bool → Bool} {mg : Str → Option Value} {Wx : Value → Option Addr → Hp → Prop} {x y : V} {d e : Dv} {Q : VK} (hS : SimS K μ S H) (rx : Rep K μ H x d) (ry : Rep K μ H y e)
    (h : Met (Rep K) K mg Wx μ H (match memq S d e with | some b => .ok (.bl (g b)) S | none => .no) Q) : rInAll K g x y H Q := by
  split at h
  · rename_i b hb
    unfold memq at hb
    split at hb
    · cases ry
      split at hb
      · cases rx
        split at hb
        · rename_i w _ c e
          cases hb
          have ew : w = ⟨#[c]⟩ := by
            obtain ⟨w⟩ := w
            simp only [Str.mk.injEq]
            apply Array.toList_inj.mp
            rw [e]
          exact .inl ⟨c, _, by rw [ew], rfl, h.ok hS (.bl _)⟩
        · cases hb
      · cases hb
    · split at hb
      · rename_i ds e1
        split at hb
        · rename_i hf
          cases hb
          obtain ⟨a, vs, rfl, hq, rr⟩ := ry.sqT e1
          obtain ⟨h1, h2⟩ := anyF_rep rx hf.1 rr hf.2
          rw [← h2] at h
          exact .inr (.inl ⟨a, vs, rfl, .inr hq, flat_rep rx hf.1, h1, h.ok hS (.bl _)⟩)
        · cases hb
      · split at hb
        · rename_i ds e1
          split at hb
          · rename_i p qs e2 e3
            split at hb
            · rename_i hs
              cases hb
              obtain ⟨a, vs, rfl, hq, rr⟩ := ry.sqL hS e1
              exact .inr (.inr (.inl ⟨p, qs, dp_of hS 40 _ _ _ rx e2, .lst hq (dps_of hS 39 _ _ _ rr e3), hs.1, hs.2, h.ok hS (.bl _)⟩))
            · cases hb
          · cases hb
        · split at hb
          · rename_i r e1
            cases hb
            obtain ⟨a, u, ex, gg, hh⟩ := dget_rep hS ry rx e1
            refine .inr (.inr (.inr ⟨a, u, ex, gg, ?_⟩))
            rcases hh with ⟨rfl, rfl⟩ | ⟨d', v, rfl, rfl, _⟩ <;> exact h.ok hS (.bl _)
          · cases hb
  · exact h.elim
theorem o_in : Op2 K inD (rInAll K id) := fun mg Wx μ H S x y d e Q hS rx ry h => o_mem (g := id) hS rx ry h
theorem o_nin : Op2 K ninD (rInAll K not) := fun mg Wx μ H S x y d e Q hS rx ry h => o_mem (g := not) hS rx ry h
end

/-! ### isinstance -/
def tyN (S : Sto) : Dv → Option String
  | .non => some "NoneType"
  | .bl _ => some "bool"
  | .int _ => some "int"
  | .str _ => some "str"
  | .tup _ => some "tuple"
  | .kt _ => some "tuple"
  | .fl _ => some "list"
  | .ref l => match S[l]? with
    | some (.lst _) => some "list"
    | some (.dk _) => some "dict"
    | some (.dt _) => some "dict"
    | none => none
def isiB (a b : String) : Option Bool :=
  if a ∈ ["NoneType", "bool", "int", "str", "tuple", "list", "dict"] ∧ b ∈ ["bool", "int", "str", "tuple", "list", "dict"] then some (a == b || (a == "bool" && b == "int")) else none
theorem kit_all : ∀ a ∈ ["NoneType", "bool", "int", "str", "tuple", "list", "dict"], ∀ b ∈ ["bool", "int", "str", "tuple", "list", "dict"], kitB a b = some (a == b || (a == "bool" && b == "int")) := by decide +kernel
def isiD (T : String) (d : Dv) (S : Sto) : Out Dv := match (tyN S d).bind fun a => isiB a T with
  | some b => .ok (.bl b) S
  | none => .no
section
variable {X : Cx} {K : PySem.W.Frag} {W : WX} {e : Expr} {ra : RE} {pos p p2 : Pos}
theorem tyN_rep {μ : List Addr} {H : Hp} {S : Sto} {v : V} {d : Dv} {a : String} (hS : SimS K μ S H) (r : Rep K μ H v d) (h : tyN S d = some a) : TyX K H v (.type a) := by
  cases r with
  | non => cases h; exact .base .non
  | bl b => cases h; exact .base (.bl b)
  | int b => cases h; exact .base (.int b)
  | str b => cases h; exact .base (.str b)
  | tup t l q => cases h; exact .base (.tup t.1)
  | kt t l q => cases h; obtain ⟨o, its, n, e1, e2, _⟩ := t; exact .kTuple e1 e2
  | fl t l q =>
    cases h
    rcases t with ⟨⟨o, t⟩, _⟩ | ⟨o, its, n, e1, e2, _⟩
    · exact .base (.frz t)
    · exact .kList e1 e2
  | ref hl =>
    simp only [tyN] at h
    split at h
    · rename_i ds e; cases h; obtain ⟨ws, e1, _⟩ := hS.at' e hl; exact .base (.lst e1)
    · rename_i ds e; cases h; obtain ⟨ws, e1, _⟩ := hS.at' e hl; exact .base (.dK e1)
    · rename_i ds e; cases h; obtain ⟨ws, e1, _⟩ := hS.at' e hl; exact .base (.dT e1)
    · cases h
theorem se_isi {T : String} {t : Str} (hg : Gl X "isinstance") (hm : X.mg "isinstance" = none) (hgt : Gl X t) (hmt : X.mg t = none) (hbt : bootBuiltins t = some (.type T)) (he : SE X W e ra)
    (hn : t ≠ "__name__" := by decide) (hd : (t == ("__debug__" : Str)) = false := by decide)
    (hs1 : starEach [e, .Name t p2] X.env = (false, eval e X.env) :: starEach [.Name t p2] X.env := by rfl) (hs2 : starEach [.Name t p2] X.env = (false, eval (.Name t p2) X.env) :: starEach [] X.env := by rfl) (hpl : (backTo pos (starEach [.Name t p2] X.env)).any (·.1) = false := by rfl) :
    SE X W (.Call (.Name "isinstance" p) [e, .Name t p2] [] pos) (eUn (isiD T) ra) :=
  PE.imp (pe_callB call_isi hg hm (by decide +kernel) (pa_cons he (pa_cons (pe_bltn (v := .ty T) hgt hmt hbt rfl hn hd) pa_nil hs2) hs1) (by decide) (by decide) hs1 hpl) fun σ H Q ⟨μ, ρ, S, hS, hE, h⟩ =>
    (bnd hS hE h).mono fun v H1 ⟨μ1, S1, d, hS1, hE1, s1, rv, h1⟩ => by
      unfold isiD at h1
      split at h1
      · rename_i b hb
        obtain ⟨a, e1, e2⟩ := Option.bind_eq_some_iff.mp hb
        refine ⟨v, .ty T, .type a, .type T, b, rfl, .ty T, tyN_rep hS1 rv e1, kit_ty ?_, h1.ok hS1 (.bl _)⟩
        unfold isiB at e2
        split at e2
        · rename_i hm; rw [← e2]; exact kit_all a hm.1 T hm.2
        · cases e2
      · exact h1.elim
/-! ### chains, signs -/
def eChain (f g : Dv → Dv → Sto → Out Dv) (a b c : RE) : RE := fun ρ S => (a ρ S).bind fun x S1 => (b ρ S1).bind fun y S2 => (f x y S2).bind fun z S3 => match z with
  | .bl true => (c ρ S3).bind fun w S4 => g y w S4
  | .bl false => .ok (.bl false) S3
  | _ => .no
theorem bnd3 {rf rg : R2} {f g : Dv → Dv → Sto → Out Dv} {rb rc : RE} (hf : Op2 X.K f rf) (hg : Op2 X.K g rg) {σ : L2.St} {H : Hp} {Q : VK} (h : tG (Rep X.K) X.K X.mg W (eChain f g ra rb rc) σ H Q) :
    tChain rf rg (tG (Rep X.K) X.K X.mg W ra) (tG (Rep X.K) X.K X.mg W rb) (tG (Rep X.K) X.K X.mg W rc) σ H Q := by
  obtain ⟨μ, ρ, S, hS, hE, h⟩ := h
  refine (bnd hS hE h).mono fun x H1 ⟨μ1, S1, d, hS1, hE1, s1, rx, h1⟩ => ?_
  refine (bnd hS1 hE1 h1).mono fun y H2 ⟨μ2, S2, d2, hS2, hE2, s2, ry, h2⟩ => ?_
  obtain ⟨μ3, ρ3, S3, hS3, hE3, h3⟩ := bnd (r := fun ρ S => f d d2 S) (R1 := Rep X.K) hS2 hE2 h2
  refine hf X.mg (W.at σ) μ2 H2 S2 x y d d2 _ hS2 (rx.step s2) ry ?_
  cases q : f d d2 S2 with
  | no => rw [q] at h2; exact h2.elim
  | ex x S => rw [q] at h2; exact h2
  | ok z S3 =>
    rw [q] at h2
    intro μ3 H3 zv hS3 s3 rz
    have h3 := Met.step s3 h2
    simp only [Out.bind_ok] at h3
    cases rz <;> first | exact h3.elim | skip
    rename_i k
    refine ⟨k, rfl, ?_⟩
    cases k with
    | false => exact Met.ok (RP := Rep X.K) h3 hS3 (.bl _)
    | true =>
      have hE3 := (hE2.step s3)
      exact (bnd hS3 hE3 h3).mono fun w H4 ⟨μ4, S4, d4, hS4, hE4, s4, rw4, h4⟩ => hg _ _ μ4 H4 S4 y w d2 d4 Q hS4 ((ry.step s3).step s4) rw4 h4
theorem se_chain {op op' : CmpOp} {rf rg : R2} {f g : Dv → Dv → Sto → Out Dv} {a b c : Expr} {rb rc : RE} (ho : OpR X (compareOp op) rf) (hf : Op2 X.K f rf) (ho' : OpR X (compareOp op') rg) (hg : Op2 X.K g rg) (ha : SE X W a ra) (hb : SE X W b rb) (hc : SE X W c rc)
    (hm : lastMarks [op, op'] [b, c] = false := by with_unfolding_all rfl) : SE X W (.Compare a [op, op'] [b, c] pos) (eChain f g ra rb rc) :=
  PE.imp (pe_chain ho ho' ha hb hc hm) fun _ _ _ h => bnd3 hf hg h
theorem st_chain {op op' : CmpOp} {rf rg : R2} {f g : Dv → Dv → Sto → Out Dv} {a b c : Expr} {rb rc : RE} (ho : OpR X (compareOp op) rf) (hf : Op2 X.K f rf) (ho' : OpR X (compareOp op') rg) (hg : Op2 X.K g rg) (ha : SE X W a ra) (hb : SE X W b rb) (hc : SE X W c rc)
    (hm : lastMarks [op, op'] [b, c] = false := by with_unfolding_all rfl) : ST X W (.Compare a [op, op'] [b, c] pos) (cBl (eChain f g ra rb rc)) :=
  PT.imp (pt_chain ho ho' ha hb hc hm) fun σ H Q ⟨μ, ρ, S, hS, hE, h⟩ => bnd3 hf hg ((bnd hS hE h).mono fun v H1 ⟨μ1, S1, d, hS1, hE1, s1, rv, h1⟩ => bTrue_met hS1 rv h1)
theorem se_neg (h : SE X W e ra) : SE X W (.UnaryOp .USub e pos) (eUn negD ra) :=
  PE.imp (pe_un un_neg h) fun σ H Q ⟨μ, ρ, S, hS, hE, h⟩ => (bnd hS hE h).mono fun v H1 ⟨μ1, S1, d, hS1, hE1, s1, rv, h1⟩ => by
    cases rv <;> first | exact h1.elim | exact ⟨_, rfl, Met.ok (RP := Rep X.K) h1 hS1 (.int _)⟩
end
end PL

namespace PL
open PySem PySem.Spec PyProof.Rows L2

/-! ### methods -/
def tyQ (T : String) (d : Dv) (S : Sto) : Bool := match d with
  | .str _ => T == "str"
  | .fl _ => T == "list"
  | .ref l => match S[l]? with
    | some (.lst _) => T == "list"
    | some (.dk _) => T == "dict"
    | some (.dt _) => T == "dict"
    | none => false
  | _ => false
def eMeth (T : String) (f : Dv → List Dv → Sto → Out Dv) (o : RE) (a : RA) : RE := fun ρ S => (o ρ S).bind fun d S1 => if tyQ T d S1 = true then (a ρ S1).bind fun ds S2 => f d ds S2 else .no
def lmap (d : Dv) (S : Sto) (f : Nat → List Dv → Out Dv) : Out Dv := match d with
  | .ref l => match S[l]? with
    | some (.lst xs) => f l xs
    | _ => .no
  | _ => .no
def appendD (d : Dv) (ds : List Dv) (S : Sto) : Out Dv := match ds with
  | [y] => lmap d S fun l xs => if xs.length < sizeLine then .ok .non (S.set l (.lst (xs ++ [y]))) else .no
  | _ => .no
noncomputable def popD (d : Dv) (ds : List Dv) (S : Sto) : Out Dv := match ds with
  | [] => lmap d S fun l xs => match xs[xs.length - 1]? with
    | some y => .ok y (S.set l (.lst xs.dropLast))
    | none => .no
  | [.int i] => lmap d S fun l xs => @ite _ (-(2 ^ 63) ≤ i ∧ i < 2 ^ 63) (Classical.propDecidable _) (match seqIndex? i xs.length with
    | some k => match xs[k]? with
      | some y => .ok y (S.set l (.lst (xs.eraseIdx k)))
      | none => .no
    | none => .no) .no
  | _ => .no
def extendD (d : Dv) (ds : List Dv) (S : Sto) : Out Dv := match ds with
  | [e] => lmap d S fun l xs => match e with
    | .ref m => match S[m]? with
      | some (.lst zs) => if xs.length + zs.length ≤ sizeLine then .ok .non (S.set l (.lst (xs ++ zs))) else .no
      | _ => .no
    | _ => .no
  | _ => .no
def clearD (d : Dv) (ds : List Dv) (S : Sto) : Out Dv := match ds with
  | [] => lmap d S fun l _ => .ok .non (S.set l (.lst []))
  | _ => .no
noncomputable def insertD (d : Dv) (ds : List Dv) (S : Sto) : Out Dv := match ds with
  | [.int i, y] => lmap d S fun l xs => @ite _ (xs.length < sizeLine ∧ 0 ≤ i ∧ i < 2 ^ 63) (Classical.propDecidable _) (.ok .non (S.set l (.lst (xs.take i.toNat ++ [y] ++ xs.drop i.toNat)))) .no
  | _ => .no
def joinD (d : Dv) (ds : List Dv) (S : Sto) : Out Dv := match d, ds with
  | .str a, [e] => match (seqOf S e).bind strsOf with
    | some ys => if (ys.map (·.length)).sum + ys.length * a.length ≤ 16777216 then .ok (.str (Txt.join a ys)) S else .no
    | none => .no
  | _, _ => .no
def splitD (d : Dv) (ds : List Dv) (S : Sto) : Out Dv := match d, ds with
  | .str a, [.str b] => if (b.length == 0) = false ∧ a.length + 2 ≤ sizeLine then newL ((Txt.split a b).map .str) S else .no
  | _, _ => .no
def getD2 (d : Dv) (ds : List Dv) (S : Sto) : Out Dv := match ds with
  | [k, x] => match dget S d k with
    | some (some y) => .ok y S
    | some none => .ok x S
    | none => .no
  | _ => .no
section
variable {X : Cx} {K : PySem.W.Frag} {W : WX} {o e f : Expr} {es : List Expr} {ra rb rc : RE} {rs : RA} {apos cpos pos p : Pos}
theorem tyQ_rep {T : String} {μ : List Addr} {H : Hp} {S : Sto} {v : V} {d : Dv} (hS : SimS K μ S H) (r : Rep K μ H v d) (h : tyQ T d S = true) : tyV K T v H := by
  cases r with
  | str x => exact eq_of_beq h
  | fl t l q =>
    rcases t with ⟨⟨o, t⟩, _⟩ | t
    · exact .inl ⟨eq_of_beq h, _, .inl (.inr ⟨o, t⟩)⟩
    · exact .inl ⟨eq_of_beq h, _, .inr t⟩
  | ref hl =>
    simp only [tyQ] at h
    split at h
    · rename_i ds e; obtain ⟨ws, e1, _⟩ := hS.at' e hl; exact .inl ⟨eq_of_beq h, ws, .of e1⟩
    · rename_i ds e; obtain ⟨ws, e1, _⟩ := hS.at' e hl; exact .inr (.inr (.inl ⟨eq_of_beq h, .inl ⟨ws, e1⟩⟩))
    · rename_i ds e; obtain ⟨ws, e1, _⟩ := hS.at' e hl; exact .inr (.inr (.inl ⟨eq_of_beq h, .inr ⟨ws, e1⟩⟩))
    · cases h
  | _ => simp [tyQ] at h
theorem se_meth {T id : String} {name : Str} {g : Dv → List Dv → Sto → Out Dv} {r : V → List V → Hp → VK → Prop} (pa : PlainAttrs T) (slot : Slot T name id) (hty : typeOf (.builtin id) = pure (.type "method_descriptor")) (hm : MtR X id r) (hf : OpM X.K g r)
    (ho : SE X W o ra) (ha : SA X W (e :: es) rs) (hbase : attributeBase o name X.env (eval o X.env) = eval o X.env := by rfl)
    (hfew : ((backTo cpos (starEach (e :: es) X.env)).all (fun x => !x.1) && (backToKw cpos (keywordEach [] X.env)).all (fun x => x.1.isSome)
      && decide ((e :: es).length + ([] : List Keyword).length + (if ([] : List Keyword).isEmpty then 0 else 1) < 30)) = true := by rfl)
    (hline : (apos.endLine == cpos.line) = true := by rfl) (hs : starEach (e :: es) X.env = (false, eval e X.env) :: starEach es X.env := by rfl) (hplain : (backTo cpos (starEach es X.env)).any (·.1) = false := by rfl) :
    SE X W (.Call (.Attribute o name apos) (e :: es) [] cpos) (eMeth T g ra rs) :=
  PE.imp (pe_bm pa slot hty hm ho ha hbase hfew hline hs hplain) fun σ H Q ⟨μ, ρ, S, hS, hE, h⟩ => (bnd hS hE h).mono fun v H1 ⟨μ1, S1, d, hS1, hE1, s1, rv, h1⟩ => by
    split at h1
    · rename_i hq
      exact ⟨tyQ_rep hS1 rv hq, (bnd (R1 := Reps X.K) hS1 hE1 h1).mono fun vs H2 ⟨μ2, S2, ds, hS2, hE2, s2, rvs, h2⟩ => hf _ _ μ2 H2 S2 v vs d ds Q hS2 (rv.step s2) rvs h2⟩
    · exact h1.elim
theorem se_meth0 {T id : String} {name : Str} {g : Dv → List Dv → Sto → Out Dv} {r : V → List V → Hp → VK → Prop} (pa : PlainAttrs T) (slot : Slot T name id) (hty : typeOf (.builtin id) = pure (.type "method_descriptor")) (hm : MtR X id r) (hf : OpM X.K g r)
    (ho : SE X W o ra) (hbase : attributeBase o name X.env (eval o X.env) = eval o X.env := by rfl) (hline : (apos.endLine == cpos.line) = true := by rfl) :
    SE X W (.Call (.Attribute o name apos) [] [] cpos) (eMeth T g ra aNil) :=
  PE.imp (pe_bm0 pa slot hty hm ho hbase hline) fun σ H Q ⟨μ, ρ, S, hS, hE, h⟩ => (bnd hS hE h).mono fun v H1 ⟨μ1, S1, d, hS1, hE1, s1, rv, h1⟩ => by
    split at h1
    · rename_i hq
      exact ⟨tyQ_rep hS1 rv hq, hf _ _ μ1 H1 S1 v [] d [] Q hS1 rv .nil h1⟩
    · exact h1.elim
theorem lmap_met {mg : Str → Option Value} {Wx : Value → Option Addr → Hp → Prop} {μ : List Addr} {H : Hp} {S : Sto} {x : V} {d : Dv} {Q : VK} {g : Nat → List Dv → Out Dv} (hS : SimS K μ S H) (r : Rep K μ H x d) (h : Met (Rep K) K mg Wx μ H (lmap d S g) Q) :
    ∃ l a xs vs, x = .ref a ∧ μ[l]? = some a ∧ S[l]? = some (.lst xs) ∧ H a = some (.lst vs) ∧ Reps K μ H vs xs ∧ Met (Rep K) K mg Wx μ H (g l xs) Q := by
  unfold lmap at h
  split at h
  · rename_i l
    cases r with
    | ref hl =>
      split at h
      · rename_i xs e
        obtain ⟨vs, e1, rr⟩ := hS.at' e hl
        exact ⟨l, _, xs, vs, rfl, hl, e, e1, rr, h⟩
      · exact h.elim
  · exact h.elim
theorem putL {mg : Str → Option Value} {Wx : Value → Option Addr → Hp → Prop} {μ : List Addr} {H : Hp} {S : Sto} {l : Nat} {a : Addr} {d : Dv} {v : V} {ys : List Dv} {ws : List V} {Q : VK} (h : Met (Rep K) K mg Wx μ H (.ok d (S.set l (.lst ys))) Q) (hS : SimS K μ S H) (hl : μ[l]? = some a)
    (r : Reps K μ H ws ys) (rv : Rep K μ H v d) : Q v (upd H a (.lst ws)) := h.put hS hl ⟨ws, upd_same, r.step (step_put hS hl _)⟩ (rv.step (step_put hS hl _))
theorem o_append : OpM K appendD rAppend := by
  intro mg Wx μ H S x vs d ds Q hS rx rs h
  unfold appendD at h
  split at h
  · obtain ⟨y, rfl, ry⟩ := rs.get1
    obtain ⟨l, a, xs, us, rfl, hl, e, e1, rr, h⟩ := lmap_met hS rx h
    split at h
    · rename_i hz
      exact ⟨a, us, y, rfl, rfl, e1, by rw [rr.1]; exact hz, putL h hS hl (rr.append (.one ry)) .non⟩
    · exact h.elim
  · exact h.elim
theorem Reps.dropLast {μ : List Addr} {H : Hp} {vs : List V} {ds : List Dv} (r : Reps K μ H vs ds) : Reps K μ H vs.dropLast ds.dropLast := by
  rw [List.dropLast_eq_take, List.dropLast_eq_take, r.1]
  exact r.take _
theorem Reps.erase {μ : List Addr} {H : Hp} {vs : List V} {ds : List Dv} (r : Reps K μ H vs ds) (k : Nat) : Reps K μ H (vs.eraseIdx k) (ds.eraseIdx k) := by
  rw [List.eraseIdx_eq_take_drop_succ, List.eraseIdx_eq_take_drop_succ]
  exact (r.take _).append (r.drop _)
theorem o_pop : OpM K popD (fun x vs H Q => rPop x vs H Q ∨ rPopAt x vs H Q) := by
  intro mg Wx μ H S x vs d ds Q hS rx rs h
  unfold popD at h
  split at h
  · cases rs.un0
    obtain ⟨l, a, xs, us, rfl, hl, e, e1, rr, h⟩ := lmap_met hS rx h
    split at h
    · rename_i y ey
      obtain ⟨v, ev, rv⟩ := rr.get ey
      exact .inl ⟨a, us, v, rfl, rfl, e1, by rw [rr.1]; exact ev, putL h hS hl rr.dropLast rv⟩
    · exact h.elim
  · obtain ⟨y, rfl, ry⟩ := rs.get1
    cases ry
    obtain ⟨l, a, xs, us, rfl, hl, e, e1, rr, h⟩ := lmap_met hS rx h
    split at h
    · rename_i hz
      split at h
      · rename_i k ek
        split at h
        · rename_i y ey
          obtain ⟨v, ev, rv⟩ := rr.get ey
          exact .inr ⟨a, us, _, k, v, rfl, rfl, e1, hz.1, hz.2, by rw [rr.1]; exact ek, ev, putL h hS hl (rr.erase k) rv⟩
        · exact h.elim
      · exact h.elim
    · exact h.elim
  · exact h.elim
theorem mt_popAll : MtR X "list.pop" (fun x vs H Q => rPop x vs H Q ∨ rPopAt x vs H Q) := MtR.or mt_pop mt_popAt
theorem o_extend : OpM K extendD rExtend := by
  intro mg Wx μ H S x vs d ds Q hS rx rs h
  unfold extendD at h
  split at h
  · obtain ⟨y, rfl, ry⟩ := rs.get1
    obtain ⟨l, a, xs, us, rfl, hl, e, e1, rr, h⟩ := lmap_met hS rx h
    split at h
    · cases ry with
      | ref hm =>
        split at h
        · rename_i zs e2
          obtain ⟨ws, e3, r3⟩ := hS.at' e2 hm
          split at h
          · rename_i hz
            exact ⟨a, _, us, ws, rfl, rfl, e1, e3, by rw [rr.1, r3.1]; exact hz, putL h hS hl (rr.append r3) .non⟩
          · exact h.elim
        · exact h.elim
    · exact h.elim
  · exact h.elim
theorem o_clear : OpM K clearD rClear := by
  intro mg Wx μ H S x vs d ds Q hS rx rs h
  unfold clearD at h
  split at h
  · cases rs.un0
    obtain ⟨l, a, xs, us, rfl, hl, e, e1, rr, h⟩ := lmap_met hS rx h
    exact ⟨a, us, rfl, rfl, e1, putL h hS hl .nil .non⟩
  · exact h.elim
theorem o_insert : OpM K insertD (fun x vs H Q => ∃ (l : Addr) (xs : List V) (i : Int) (y : V), x = .ref l ∧ vs = [.int i, y] ∧ H l = some (.lst xs) ∧ xs.length < sizeLine ∧ 0 ≤ i ∧ i < 2 ^ 63 ∧ Q .non (upd H l (.lst (xs.take i.toNat ++ [y] ++ xs.drop i.toNat)))) := by
  intro mg Wx μ H S x vs d ds Q hS rx rs h
  unfold insertD at h
  split at h
  · obtain ⟨i, y, rfl, ri, ry⟩ := rs.get2
    cases ri
    obtain ⟨l, a, xs, us, rfl, hl, e, e1, rr, h⟩ := lmap_met hS rx h
    split at h
    · rename_i hz
      exact ⟨a, us, _, y, rfl, rfl, e1, by rw [rr.1]; exact hz.1, hz.2.1, hz.2.2, putL h hS hl (((rr.take _).append (.one ry)).append (rr.drop _)) .non⟩
    · exact h.elim
  · exact h.elim
theorem reps_strs {μ : List Addr} {H : Hp} : ∀ ys : List Str, Reps K μ H (ys.map V.str) (ys.map Dv.str)
  | [] => .nil
  | y :: ys => (reps_strs ys).cons (.str y)
theorem o_join : OpM K joinD (fun x xs H Q => ∃ a p, ∃ ys : List Str, x = .str a ∧ xs = [.ref p] ∧ (SqL K H p (ys.map V.str) ∨ SqT K H p (ys.map V.str)) ∧ (ys.map (·.length)).sum + ys.length * a.length ≤ 16777216 ∧ Q (.str (Txt.join a ys)) H) := by
  intro mg Wx μ H S x vs d ds Q hS rx rs h
  unfold joinD at h
  split at h
  · cases rx
    obtain ⟨y, rfl, ry⟩ := rs.get1
    split at h
    · rename_i ys e
      obtain ⟨es, e1, e2⟩ := Option.bind_eq_some_iff.mp e
      obtain ⟨a, us, rfl, hq, rr⟩ := seq_rep hS ry e1
      cases strsOf_rep rr e2
      split at h
      · rename_i hz; exact ⟨_, a, ys, rfl, rfl, hq, hz, h.ok hS (.str _)⟩
      · exact h.elim
    · exact h.elim
  · exact h.elim
theorem o_split : OpM K splitD (fun x xs H Q => ∃ a b, x = .str a ∧ xs = [.str b] ∧ (b.length == 0) = false ∧ a.length + 2 ≤ sizeLine ∧ rNewStrs (Txt.split a b) H Q) := by
  intro mg Wx μ H S x vs d ds Q hS rx rs h
  unfold splitD at h
  split at h
  · cases rx
    obtain ⟨y, rfl, ry⟩ := rs.get1
    cases ry
    split at h
    · rename_i hz; exact ⟨_, _, rfl, rfl, hz.1, hz.2, fun p n => h.lst hS n (reps_strs _)⟩
    · exact h.elim
  · exact h.elim
/-- o.get(k, x) -/
def eGet2 (o k x : RE) : RE := fun ρ S => (o ρ S).bind fun d S1 => if tyQ "dict" d S1 = true then (k ρ S1).bind fun y S2 => (x ρ S2).bind fun z S3 => getD2 d [y, z] S3 else .no
theorem se_get2 (hu : X.A.units + 1 < cLine) (ho : SE X W o ra) (he : SE X W e rb) (hf : SE X W f rc) (m : M2 X o "get" apos e f cpos) : SE X W (.Call (.Attribute o "get" apos) [e, f] [] cpos) (eGet2 ra rb rc) :=
  PE.imp (pe_dget2 hu ho he hf m) fun σ H Q ⟨μ, ρ, S, hS, hE, h⟩ => (bnd hS hE h).mono fun v H1 ⟨μ1, S1, d, hS1, hE1, s1, rv, h1⟩ => by
    split at h1
    · rename_i hq
      have ty := tyQ_rep hS1 rv hq
      cases rv with
      | @ref l a hl =>
        refine ⟨a, rfl, ?_, ?_⟩
        · rcases ty with ⟨z, _⟩ | ⟨z, _⟩ | ⟨_, ⟨kvs, z⟩ | ⟨kvs, z⟩⟩ | ⟨z, _⟩
          · simp at z
          · simp at z
          · exact .inl ⟨kvs, .inl z⟩
          · exact .inr ⟨kvs, .inl z⟩
          · simp at z
        · refine (bnd hS1 hE1 h1).mono fun y H2 ⟨μ2, S2, d2, hS2, hE2, s2, ry, h2⟩ => ?_
          refine (bnd hS2 hE2 h2).mono fun z H3 ⟨μ3, S3, d3, hS3, hE3, s3, rz, h3⟩ => ?_
          unfold getD2 at h3
          simp only at h3
          have rl : Rep X.K μ3 H3 (.ref a) (.ref l) := (Rep.ref hl).step (s2.trans s3)
          split at h3
          · rename_i y' e1
            obtain ⟨a', u, ex, g, hh⟩ := dget_rep hS3 rl (ry.step s3) e1
            cases ex
            rcases hh with ⟨w, _⟩ | ⟨d', v', e2, e3, r⟩
            · cases w
            · cases e2; subst e3; exact ⟨_, g, h3.ok hS3 r⟩
          · rename_i e1
            obtain ⟨a', u, ex, g, hh⟩ := dget_rep hS3 rl (ry.step s3) e1
            cases ex
            rcases hh with ⟨_, w⟩ | ⟨d', v', e2, e3, r⟩
            · subst w; exact ⟨_, g, h3.ok hS3 rz⟩
            · cases e2
          · exact h3.elim
      | str x => simp [tyQ] at hq
      | fl t l q => simp [tyQ] at hq
      | _ => simp [tyQ] at hq
    · exact h1.elim
/-! ### dicts made -/
def eNewK : RE := fun _ S => .ok (.ref S.length) (S ++ [.dk []])
def eNewT : RE := fun _ S => .ok (.ref S.length) (S ++ [.dt []])
theorem se_newK : SE X W (.Dict [] [] pos) eNewK := PE.imp pe_dnewK fun σ H Q ⟨μ, ρ, S, hS, hE, h⟩ p n => Met.new (o := .dk []) h hS n ⟨[], upd_same, rfl, .nil⟩
theorem se_newT : SE X W (.Dict [] [] pos) eNewT := PE.imp pe_dnewT fun σ H Q ⟨μ, ρ, S, hS, hE, h⟩ p n => Met.new (o := .dt []) h hS n ⟨[], upd_same, rfl, .nil⟩
/-! ### own defs -/
def spD (K : PySem.W.Frag) (mg : Str → Option Value) (F : List Dv → Sto → Out Dv) (n : Nat) : Sp := fun vs H Q E => ∃ μ S ds, ds.length = n ∧ SimS K μ S H ∧ Reps K μ H vs ds ∧ Met (Rep K) K mg E μ H (F ds S) Q
def eOwn (n : Nat) (F : List Dv → Sto → Out Dv) (a : RA) : RE := fun ρ S => (a ρ S).bind fun ds S1 => if ds.length = n then F ds S1 else .no
theorem se_own {CX : CXT} {k n : Nat} {fa : Addr} {fd : FuncData} {ps : List Str} {x : Str} {F : List Dv → Sto → Out Dv} (G : FnOk X.prog X.w X.K X.mg X.base CX k fa fd ps (spD X.K X.mg F n)) (hr : Room k X.A) (hg : Gl X x) (hm : X.mg x = some (.ref fa)) (hk : PySem.W.keepIn X.K (.ref fa) = true)
    (hb : Binds X.K fd ps []) (hx : ∀ σ, PassesAt CX X σ (W.at σ)) (ha : SA X W (e :: es) rs) (hdb : (x == ("__debug__" : Str)) = false := by decide) (he : starEach (e :: es) X.env = (false, eval e X.env) :: starEach es X.env := by rfl) (hpl : (backTo pos (starEach es X.env)).any (·.1) = false := by rfl) :
    SE X W (.Call (.Name x p) (e :: es) [] pos) (eOwn n F rs) :=
  PE.imp (pe_callSD (E := fun σ => W.at σ) G hr hg hm hk hb .nil hx ha hdb he hpl) fun σ H Q ⟨μ, ρ, S, hS, hE, h⟩ => (bnd (R1 := Reps X.K) hS hE h).mono fun vs H1 ⟨μ1, S1, ds, hS1, hE1, s1, rv, h1⟩ => by
    split at h1
    · rename_i hn
      rw [List.append_nil]
      exact ⟨μ1, S1, ds, hn, hS1, rv, h1⟩
    · exact h1.elim
theorem se_own0 {CX : CXT} {k : Nat} {fa : Addr} {fd : FuncData} {ps : List Str} {x : Str} {F : List Dv → Sto → Out Dv} (G : FnOk X.prog X.w X.K X.mg X.base CX k fa fd ps (spD X.K X.mg F 0)) (hr : Room k X.A) (hg : Gl X x) (hm : X.mg x = some (.ref fa)) (hk : PySem.W.keepIn X.K (.ref fa) = true)
    (hb : Binds X.K fd ps []) (hx : ∀ σ, PassesAt CX X σ (W.at σ)) (hdb : (x == ("__debug__" : Str)) = false := by decide) : SE X W (.Call (.Name x p) [] [] pos) (eOwn 0 F aNil) := by
  refine ⟨fun pins s σ H Q I ⟨μ, ρ, S, hS, hE, h⟩ => ?_⟩
  refine wpAny_Call_Name_kw (ld_glob I hg hm ?_ hdb)
  exact PySem.W.callWith_K0 I.kIn hk (run_fnSD (dvs := []) (ds := []) (E := fun σ => W.at σ) (us := []) G hr hb .nil (hx σ) I .nil ⟨μ, S, [], rfl, hS, .nil, h⟩)
end
end PL

namespace PL
open PySem PySem.Spec PyProof.Rows L2

/-! ### statements: outcomes -/
inductive Fl where
  | nx (ρ : Env) | rt (d : Dv) | bk (ρ : Env) | ct (ρ : Env)
inductive OutS where
  | fl (f : Fl) (S : Sto) | ex (x : Ex) (ρ : Env) (S : Sto) | no
abbrev RC := Env → Sto → OutS
def MetS (K : PySem.W.Frag) (mg : Str → Option Value) (W : WX) (μ : List Addr) (H : Hp) (o : OutS) (D : Ends) : Prop :=
  match o with
  | .fl (.nx ρ') S' => ∀ μ' σ' H', SimS K μ' S' H' → SimE K μ' H' ρ' σ' → Step μ H μ' H' → D.nx σ' H'
  | .fl (.rt d) S' => ∀ μ' v H', SimS K μ' S' H' → Step μ H μ' H' → Rep K μ' H' v d → D.rt v H'
  | .fl (.bk ρ') S' => ∀ μ' σ' H', SimS K μ' S' H' → SimE K μ' H' ρ' σ' → Step μ H μ' H' → D.bk σ' H'
  | .fl (.ct ρ') S' => ∀ μ' σ' H', SimS K μ' S' H' → SimE K μ' H' ρ' σ' → Step μ H μ' H' → D.ct σ' H'
  | .ex x ρ' S' => ∀ μ' σ' H' cls d, SimS K μ' S' H' → SimE K μ' H' ρ' σ' → Step μ H μ' H' → XRep K mg μ' H' x cls d → W cls d σ' H'
  | .no => False
def tS (K : PySem.W.Frag) (mg : Str → Option Value) (W : WX) (c : RC) : TS := fun D σ H => ∃ μ ρ S, SimS K μ S H ∧ SimE K μ H ρ σ ∧ MetS K mg W μ H (c ρ S) D
abbrev SC (X : Cx) (W : WX) (st : Stmt) (c : RC) : Prop := PS X st (tS X.K X.mg W c)
abbrev SCs (X : Cx) (W : WX) (st : List Stmt) (c : RC) : Prop := PSs X st (tS X.K X.mg W c)
theorem PS.imp {X : Cx} {e : Stmt} {t t' : TS} (h : PS X e t) (i : ∀ D σ H, t' D σ H → t D σ H) : PS X e t' := ⟨fun pins s σ H D I w => h.run pins s σ H D I (i D σ H w)⟩
theorem PSs.imp {X : Cx} {e : List Stmt} {t t' : TS} (h : PSs X e t) (i : ∀ D σ H, t' D σ H → t D σ H) : PSs X e t' := ⟨fun pins s σ H D I w => h.run pins s σ H D I (i D σ H w)⟩
section
variable {K : PySem.W.Frag} {mg : Str → Option Value} {W : WX} {μ μ1 : List Addr} {H H1 : Hp} {ρ : Env} {σ : L2.St} {S : Sto} {D D' : Ends}
theorem MetS.step {o : OutS} (s : Step μ H μ1 H1) (h : MetS K mg W μ H o D) : MetS K mg W μ1 H1 o D := by
  cases o with
  | fl f S' =>
    cases f with
    | nx ρ' => exact fun μ' σ' H' a b c => h μ' σ' H' a b (s.trans c)
    | rt d => exact fun μ' σ' H' a b c => h μ' σ' H' a (s.trans b) c
    | bk ρ' => exact fun μ' σ' H' a b c => h μ' σ' H' a b (s.trans c)
    | ct ρ' => exact fun μ' σ' H' a b c => h μ' σ' H' a b (s.trans c)
  | ex x ρ' S' => exact fun μ' σ' H' cl dd a b c d => h μ' σ' H' cl dd a b (s.trans c) d
  | no => exact h
def bindS {α : Type} (o : Out α) (ρ : Env) (f : α → Sto → OutS) : OutS := match o with
  | .ok a S => f a S
  | .ex x S => .ex x ρ S
  | .no => .no
@[simp] theorem bindS_ok {α : Type} (a : α) (S : Sto) (ρ : Env) (f : α → Sto → OutS) : bindS (.ok a S) ρ f = f a S := rfl
@[simp] theorem bindS_ex {α : Type} (x : Ex) (S : Sto) (ρ : Env) (f : α → Sto → OutS) : bindS (.ex x S : Out α) ρ f = .ex x ρ S := rfl
@[simp] theorem bindS_no {α : Type} (ρ : Env) (f : α → Sto → OutS) : bindS (.no : Out α) ρ f = .no := rfl
theorem bndS {α β : Type} {R1 : List Addr → Hp → β → α → Prop} {r : Env → Sto → Out α} {f : α → Sto → OutS} (hS : SimS K μ S H) (hE : SimE K μ H ρ σ)
    (h : MetS K mg W μ H (bindS (r ρ S) ρ f) D) : tG R1 K mg W r σ H (fun v H1 => ∃ μ1 S1 d, SimS K μ1 S1 H1 ∧ SimE K μ1 H1 ρ σ ∧ Step μ H μ1 H1 ∧ R1 μ1 H1 v d ∧ MetS K mg W μ1 H1 (f d S1) D) := by
  refine ⟨μ, ρ, S, hS, hE, ?_⟩
  cases q : r ρ S with
  | ok d S1 =>
    rw [q] at h
    exact fun μ1 H1 v a b c => ⟨μ1, S1, d, a, hE.step b, b, c, h.step b⟩
  | ex x S1 =>
    rw [q] at h
    exact fun μ1 H1 cl dd a b c => h μ1 σ H1 cl dd a (hE.step b) b c
  | no => rw [q] at h; exact h
end

/-! ### statements -/
def cNil : RC := fun ρ S => .fl (.nx ρ) S
def cSeq (a b : RC) : RC := fun ρ S => match a ρ S with
  | .fl (.nx ρ') S' => b ρ' S'
  | o => o
def cExpr (e : RE) : RC := fun ρ S => bindS (e ρ S) ρ fun _ S1 => .fl (.nx ρ) S1
def cSet (i : Nat) (e : RE) : RC := fun ρ S => bindS (e ρ S) ρ fun d S1 => .fl (.nx (ρ.set i (some d))) S1
def cRet (e : RE) : RC := fun ρ S => bindS (e ρ S) ρ fun d S1 => .fl (.rt d) S1
def cRetN : RC := fun ρ S => .fl (.rt .non) S
def cIf (t : RT) (a b : RC) : RC := fun ρ S => bindS (t ρ S) ρ fun c S1 => if c = true then a ρ S1 else b ρ S1
def cBrk : RC := fun ρ S => .fl (.bk ρ) S
def cCt : RC := fun ρ S => .fl (.ct ρ) S
def cNo : RC := fun _ _ => .no
inductive Tg where
  | nm (i : Nat) | tp (ts : List Tg)
mutual
def Tg.set : Tg → Dv → Env → Option Env
  | .nm i, d, ρ => some (ρ.set i (some d))
  | .tp ts, d, ρ => match tupOf d with
    | some ds => Tg.sets ts ds ρ
    | none => none
def Tg.sets : List Tg → List Dv → Env → Option Env
  | [], [], ρ => some ρ
  | t :: ts, d :: ds, ρ => match t.set d ρ with
    | some ρ' => Tg.sets ts ds ρ'
    | none => none
  | _, _, _ => none
def Tg.slots : Tg → List Nat
  | .nm i => [i]
  | .tp ts => Tg.slotss ts
def Tg.slotss : List Tg → List Nat
  | [] => []
  | t :: ts => t.slots ++ Tg.slotss ts
end
def cAsg (t : Tg) (e : RE) : RC := fun ρ S => bindS (e ρ S) ρ fun d S1 => match t.set d ρ with
  | some ρ' => .fl (.nx ρ') S1
  | none => .no
/-- o[k] = d -/
def putD (o k d : Dv) (S : Sto) : Option Sto := match o, k with
  | .ref l, .int i => match S[l]? with
    | some (.lst xs) => match ixN xs.length i with
      | some j => some (S.set l (.lst (xs.set j d)))
      | none => none
    | _ => dput S o k d
  | _, _ => dput S o k d
def cPut (o k v : RE) : RC := fun ρ S => bindS (v ρ S) ρ fun d S1 => bindS (o ρ S1) ρ fun x S2 => bindS (k ρ S2) ρ fun y S3 => match putD x y d S3 with
  | some S4 => .fl (.nx ρ) S4
  | none => .no
def cAug (i : Nat) (f : Dv → Dv → Sto → Out Dv) (e : RE) : RC := fun ρ S => bindS (eBin f (eVar i) e ρ S) ρ fun d S1 => .fl (.nx (ρ.set i (some d))) S1

section
variable {X : Cx} {W : WX} {e o k v : Expr} {re ro rk rv : RE} {rt : RT} {st : Stmt} {sts : List Stmt} {a b : RC} {pos pos' : Pos}
theorem scs_nil : SCs X W [] cNil := PSs.imp pss_nil fun D σ H ⟨μ, ρ, S, hS, hE, h⟩ => h μ σ H hS hE (.refl μ H)
theorem scs_cons (h : SC X W st a) (t : SCs X W sts b) : SCs X W (st :: sts) (cSeq a b) :=
  PSs.imp (pss_cons h t) fun D σ H ⟨μ, ρ, S, hS, hE, h⟩ => ⟨μ, ρ, S, hS, hE, by
    unfold cSeq at h
    cases q : a ρ S with
    | fl f S1 =>
      rw [q] at h
      cases f with
      | nx ρ1 => exact fun μ' σ' H' x y z => ⟨μ', ρ1, S1, x, y, h.step z⟩
      | rt d => exact h
      | bk ρ1 => exact h
      | ct ρ1 => exact h
    | ex x ρ1 S1 => rw [q] at h; exact h
    | no => rw [q] at h; exact h⟩
theorem scs_one (h : SC X W st a) : SCs X W [st] a := pss_one h
theorem sc_pass : SC X W (.Pass pos) cNil := PS.imp ps_pass fun D σ H ⟨μ, ρ, S, hS, hE, h⟩ => h μ σ H hS hE (.refl μ H)
theorem sc_break : SC X W (.Break pos) cBrk := PS.imp ps_break fun D σ H ⟨μ, ρ, S, hS, hE, h⟩ => h μ σ H hS hE (.refl μ H)
theorem sc_cont : SC X W (.Continue pos) cCt := PS.imp ps_continue fun D σ H ⟨μ, ρ, S, hS, hE, h⟩ => h μ σ H hS hE (.refl μ H)
theorem sc_never : SC X W st cNo := PS.imp ps_never fun D σ H ⟨μ, ρ, S, hS, hE, h⟩ => h
theorem sc_doc {x j} : SC X W (.Expr (.Constant (.str x) j pos) pos') cNil := PS.imp ps_doc fun D σ H ⟨μ, ρ, S, hS, hE, h⟩ => h μ σ H hS hE (.refl μ H)
theorem sc_expr (he : SE X W e re) (hs : swapsWith e none pos.line X.env = pure false := by rfl) : SC X W (.Expr e pos) (cExpr re) :=
  PS.imp (ps_expr he hs) fun D σ H ⟨μ, ρ, S, hS, hE, h⟩ => (bndS hS hE h).mono fun v H1 ⟨μ1, S1, d, hS1, hE1, s1, rv, h1⟩ => h1 μ1 σ H1 hS1 hE1 (.refl ..)
theorem sc_ret (he : SE X W e re) : SC X W (.Return (some e) pos) (cRet re) :=
  PS.imp (ps_ret he) fun D σ H ⟨μ, ρ, S, hS, hE, h⟩ => (bndS hS hE h).mono fun v H1 ⟨μ1, S1, d, hS1, hE1, s1, rv, h1⟩ => h1 μ1 v H1 hS1 (.refl ..) rv
theorem sc_retN : SC X W (.Return none pos) cRetN :=
  PS.imp ps_retN fun D σ H ⟨μ, ρ, S, hS, hE, h⟩ => h μ _ H hS (.refl ..) .non
theorem SimE.set {K : PySem.W.Frag} {μ : List Addr} {H : Hp} {ρ : Env} {σ : L2.St} {v : V} {d : Dv} (h : SimE K μ H ρ σ) (r : Rep K μ H v d) (i : Nat) : SimE K μ H (ρ.set i (some d)) (σ.set i (some v)) := by
  refine ⟨by rw [List.length_set, List.length_set, h.1], fun j e hj => ?_⟩
  by_cases hi : i = j
  · subst hi
    have hl : i < ρ.length := by have := (List.getElem?_eq_some_iff.mp hj).1; simpa using this
    rw [List.getElem?_set_self hl] at hj
    cases hj
    exact ⟨v, List.getElem?_set_self (by rw [← h.1]; exact hl), r⟩
  · rw [List.getElem?_set_ne hi] at hj
    obtain ⟨u, e1, r1⟩ := h.2 j e hj
    exact ⟨u, by rw [List.getElem?_set_ne hi]; exact e1, r1⟩
theorem sc_set {i : Nat} {x : Str} (hN : X.N.Nodup) (hi : X.N[i]? = some x) (hx : Loc X.env.scope x) (he : SE X W e re) (hs : swapsWith e (some (.Name x pos')) pos.line X.env = pure false := by rfl) (hf : X.fn x = true ∨ X.env.scope.names.lookup x = some .local := by first | exact .inl rfl | exact .inr rfl | assumption) :
    SC X W (.Assign [.Name x pos'] e pos) (cSet i re) :=
  PS.imp (ps_set hN hi hx he hs hf) fun D σ H ⟨μ, ρ, S, hS, hE, h⟩ => (bndS hS hE h).mono fun v H1 ⟨μ1, S1, d, hS1, hE1, s1, rv, h1⟩ => h1 μ1 _ H1 hS1 (hE1.set rv i) (.refl ..)
theorem sc_if {c : Expr} {as bs : List Stmt} (hc : ST X W c rt) (ha : SCs X W as a) (hb : SCs X W bs b) : SC X W (.If c as bs pos) (cIf rt a b) :=
  PS.imp (ps_if hc ha hb) fun D σ H ⟨μ, ρ, S, hS, hE, h⟩ => (bndS (R1 := RBool) hS hE h).mono fun v H1 ⟨μ1, S1, d, hS1, hE1, s1, rv, h1⟩ => by
    cases (show v = d from rv)
    cases v with
    | true => exact ⟨μ1, ρ, S1, hS1, hE1, h1⟩
    | false => exact ⟨μ1, ρ, S1, hS1, hE1, h1⟩
/-! ### targets -/
def tGt (K : PySem.W.Frag) (t : Tg) : TG := fun v σ H Q => ∃ μ ρ d ρ', SimE K μ H ρ σ ∧ Rep K μ H v d ∧ t.set d ρ = some ρ' ∧ ∀ σ', SimE K μ H ρ' σ' → σ'.length = σ.length → (∀ j, j ∉ t.slots → σ'[j]? = σ[j]?) → Q σ' H
def tGts (K : PySem.W.Frag) (ts : List Tg) : TGs := fun vs σ H Q => ∃ μ ρ ds ρ', SimE K μ H ρ σ ∧ Reps K μ H vs ds ∧ Tg.sets ts ds ρ = some ρ' ∧ ∀ σ', SimE K μ H ρ' σ' → σ'.length = σ.length → (∀ j, j ∉ Tg.slotss ts → σ'[j]? = σ[j]?) → Q σ' H
abbrev SG (X : Cx) (tg : Expr) (t : Tg) : Prop := PG X tg (tGt X.K t)
abbrev SGs (X : Cx) (tg : List Expr) (t : List Tg) : Prop := PGs X tg (tGts X.K t)
theorem sg_name {i : Nat} {x : Str} (hN : X.N.Nodup) (hi : X.N[i]? = some x) (hx : Loc X.env.scope x) (hf : X.fn x = true ∨ X.env.scope.names.lookup x = some .local := by first | exact .inl rfl | exact .inr rfl | assumption) : SG X (.Name x pos) (.nm i) :=
  ⟨fun pins s σ H v u Q I r ⟨μ, ρ, d, ρ', hE, rv, hs, h⟩ => (pg_name hN hi hx hf).run pins s σ H v u Q I r (by
    simp only [Tg.set, Option.some.injEq] at hs
    subst hs
    exact h _ (hE.set rv i) (by simp) fun j hj => List.getElem?_set_ne (by intro z; subst z; simp [Tg.slots] at hj))⟩
theorem sgs_nil : SGs X [] [] :=
  ⟨fun pins s σ H vs us Q I r ⟨μ, ρ, ds, ρ', hE, rv, hs, h⟩ => pgs_nil.run pins s σ H vs us Q I r (by
    cases ds with
    | nil =>
      simp only [Tg.sets, Option.some.injEq] at hs
      subst hs
      exact ⟨rv.un0, h σ hE rfl fun _ _ => rfl⟩
    | cons => simp [Tg.sets] at hs)⟩
theorem sgs_cons {es : List Expr} {t : Tg} {ts : List Tg} (h1 : SG X e t) (h2 : SGs X es ts) (hs : (assignEach (e :: es) X.env).map (·.2) = assign e X.env :: (assignEach es X.env).map (·.2) := by rfl) : SGs X (e :: es) (t :: ts) :=
  ⟨fun pins s σ H vs us Q I r ⟨μ, ρ, ds, ρ', hE, rv, hh, h⟩ => (pgs_cons h1 h2 hs).run pins s σ H vs us Q I r (by
    cases ds with
    | nil => simp [Tg.sets] at hh
    | cons d ds =>
      obtain ⟨v, ws, rfl, r1, r2⟩ := rv.uncons
      simp only [Tg.sets] at hh
      split at hh
      · rename_i ρ1 e1
        refine ⟨v, ws, rfl, μ, ρ, d, ρ1, hE, r1, e1, fun σ1 hE1 l1 n1 => ⟨μ, ρ1, ds, ρ', hE1, r2, hh, fun σ2 hE2 l2 n2 => h σ2 hE2 (l2.trans l1) fun j hj => ?_⟩⟩
        simp only [Tg.slotss, List.mem_append, not_or] at hj
        exact (n2 j hj.2).trans (n1 j hj.1)
      · cases hh)⟩
theorem sg_tup {es : List Expr} {k : Nat} {ts : List Tg} {n : Nat} (hc : X.calm = true) (h : SGs X es ts) (hl : ts.length = n) (hn : (assignEach es X.env).length = n := by rfl) (hst : (assignEach es X.env).findIdx? (·.1) = none := by rfl) : SG X (.Tuple es k pos) (.tp ts) :=
  ⟨fun pins s σ H v u Q I r ⟨μ, ρ, d, ρ', hE, rv, hh, hq⟩ => (pg_tup hc h hn hst).run pins s σ H v u Q I r (by
    simp only [Tg.set] at hh
    split at hh
    · rename_i ds e
      obtain ⟨a, vs, rfl, hq2, rr⟩ := rv.sqT e
      have len : ∀ (ts : List Tg) (ds : List Dv) (ρ ρ' : Env), Tg.sets ts ds ρ = some ρ' → ts.length = ds.length := by
        intro ts
        induction ts with
        | nil => intro ds ρ ρ' h; cases ds with | nil => rfl | cons => simp [Tg.sets] at h
        | cons t ts ih =>
          intro ds ρ ρ' h
          cases ds with
          | nil => simp [Tg.sets] at h
          | cons d ds =>
            simp only [Tg.sets] at h
            split at h
            · simp [ih _ _ _ h]
            · cases h
      exact ⟨a, vs, rfl, hq2, by rw [rr.1, ← len _ _ _ _ hh, hl], μ, ρ, ds, ρ', hE, rr, hh, hq⟩
    · cases hh)⟩
theorem sc_asg {tg : Expr} {t : Tg} (he : SE X W e re) (hg : SG X tg t) (hs : swapsWithSole [tg] e pos.line X.env = pure false := by rfl) (hw : swappedStores [tg] e X.env = pure none := by rfl)
    (h1 : (assignEach [tg] X.env).map (·.2) = [assign tg X.env] := by rfl) : SC X W (.Assign [tg] e pos) (cAsg t re) :=
  PS.imp (ps_asg he hg hs hw h1) fun D σ H ⟨μ, ρ, S, hS, hE, h⟩ => (bndS hS hE h).mono fun v H1 ⟨μ1, S1, d, hS1, hE1, s1, rv, h1⟩ => by
    split at h1
    · rename_i ρ' e1
      exact ⟨μ1, ρ, d, ρ', hE1, rv, e1, fun σ' hE' _ _ => h1 μ1 σ' H1 hS1 hE' (.refl ..)⟩
    · exact h1.elim
abbrev rSetD : TSet := fun o i v H Q => ∃ a H', o = .ref a ∧ DPut H a i v H' ∧ Q H'
theorem set_all (hu : X.A.units + 1 < cLine) : PSet X (fun o i v H Q => rSetL o i v H Q ∨ rSetD o i v H Q) := by
  intro pins s σ H o i v ov iv u Q I ro ri rv h
  rcases h with h | ⟨a, H', rfl, g, q⟩
  · exact set_list pins s σ H o i v ov iv u Q I ro ri rv h
  · obtain rfl : ov = Value.ref a := ro
    exact d_setItem hu I g ri rv fun s' I' => ⟨H', I', q⟩
theorem sc_put (hu : X.A.units + 1 < cLine) (ho : SE X W o ro) (hk : SE X W k rk) (hv : SE X W v rv) (hs : swapsWithSole [.Subscript o k pos'] v pos.line X.env = pure false := by rfl) (hw : swappedStores [.Subscript o k pos'] v X.env = pure none := by rfl)
    (h1 : (assignEach [.Subscript o k pos'] X.env).map (·.2) = [assign (.Subscript o k pos') X.env] := by rfl)
    (ha : ∀ v, assign (.Subscript o k pos') X.env v = (do
      let ov ← holding [v] (eval o X.env)
      let iv ← holding [v, ov] (eval k X.env)
      standAt pos'
      holding [v, ov, iv] (setItem ov iv v)
      release [v, ov, iv] []) := by intro _; rfl) : SC X W (.Assign [.Subscript o k pos'] v pos) (cPut ro rk rv) :=
  PS.imp (ps_asg hv (pg_sub ho hk (set_all hu) ha) hs hw h1) fun D σ H ⟨μ, ρ, S, hS, hE, h⟩ => (bndS hS hE h).mono fun v H1 ⟨μ1, S1, d, hS1, hE1, s1, rv, h1⟩ =>
    (bndS hS1 hE1 h1).mono fun x H2 ⟨μ2, S2, d2, hS2, hE2, s2, rx, h2⟩ => (bndS hS2 hE2 h2).mono fun y H3 ⟨μ3, S3, d3, hS3, hE3, s3, ry, h3⟩ => by
      split at h3
      · rename_i S4 e4
        have rx3 := rx.step s3
        have rv3 := (rv.step s2).step s3
        have dict : ∀ (e : dput S3 d2 d3 d = some S4), rSetL x y v H3 (fun H' => D.nx σ H') ∨ rSetD x y v H3 (fun H' => D.nx σ H') := fun e => by
          obtain ⟨a, H', ex, g, hS4, s4⟩ := dput_rep hS3 rx3 ry rv3 e
          exact .inr ⟨a, H', ex, g, h3 μ3 σ H' hS4 (hE3.step s4) s4⟩
        unfold putD at e4
        split at e4
        · split at e4
          · rename_i xs e5
            split at e4
            · rename_i j e6
              cases e4
              cases rx3 with
              | ref hl =>
                cases ry
                obtain ⟨vs, e7, rr⟩ := hS3.at' e5 hl
                refine .inl ⟨_, vs, _, j, rfl, rfl, e7, by rw [rr.1]; exact e6, ?_⟩
                exact h3 μ3 σ _ (hS3.put hl ⟨_, upd_same, (rr.set rv3 j).step (step_put hS3 hl _)⟩) (hE3.step (step_put hS3 hl _)) (step_put hS3 hl _)
            · cases e4
          · exact dict e4
        · exact dict e4
      · exact h3.elim
/-- a op= e, by the operator's own rule in place -/
theorem sc_aug {i : Nat} {x : Str} {op : Operator} {f : Dv → Dv → Sto → Out Dv} {ti : TIp} (hN : X.N.Nodup) (hi : X.N[i]? = some x) (hx : Loc X.env.scope x) (he : SE X W e re) (ho : PIp X op ti) (hti : Op2 X.K f ti) (hf : X.fn x = true ∨ X.env.scope.names.lookup x = some .local := by first | exact .inl rfl | exact .inr rfl | assumption) :
    SC X W (.AugAssign (.Name x pos') op e pos) (cAug i f re) :=
  PS.imp (ps_aug hN hi hx he ho hf) fun D σ H ⟨μ, ρ, S, hS, hE, h⟩ => by
    unfold cAug eBin eVar at h
    split at h
    · rename_i d hd
      obtain ⟨v, e1, r⟩ := hE.2 i d hd
      refine ⟨v, e1, ?_⟩
      simp only [Out.bind_ok] at h
      cases q : re ρ S with
      | no => rw [q] at h; exact h.elim
      | ex x S1 =>
        rw [q] at h
        exact ⟨μ, ρ, S, hS, hE, by rw [q]; exact fun μ1 H1 cl dd a b c => h μ1 σ H1 cl dd a (hE.step b) b c⟩
      | ok y S1 =>
        rw [q] at h
        refine ⟨μ, ρ, S, hS, hE, ?_⟩
        rw [q]
        intro μ1 H1 yv hS1 s1 ry
        have h1 := h.step s1
        simp only [Out.bind_ok] at h1
        refine hti X.mg (W.at σ) μ1 H1 S1 v yv d y _ hS1 (r.step s1) ry ?_
        cases q2 : f d y S1 with
        | no => rw [q2] at h1; exact h1.elim
        | ex x S2 => rw [q2] at h1; exact fun μ2 H2 cl dd a b c => h1 μ2 σ H2 cl dd a ((hE.step s1).step b) b c
        | ok z S2 =>
          rw [q2] at h1
          exact fun μ2 H2 zv hS2 s2 rz => h1 μ2 _ H2 hS2 (((hE.step s1).step s2).set rz i) s2
    · exact h.elim
def addI (x y : Dv) (S : Sto) : Out Dv := match x, y with
  | .int i, .int j => .ok (.int (i + j)) S
  | _, _ => .no
theorem o_addI {K : PySem.W.Frag} : Op2 K addI (ipI fun i j => i + j) := by
  intro mg Wx μ H S x y d e Q hS rx ry h
  cases rx <;> cases ry <;> first | exact h.elim | exact ⟨_, _, rfl, rfl, h.ok hS (.int _)⟩
end
end PL

namespace PL
open PySem PySem.Spec PyProof.Rows L2

/-! ### what is walked -/
/-- what must stand still while a loop goes -/
inductive Ck where
  | tt | ls (l : Nat) (ds : List Dv) | and (a b : Ck)
def Ck.ok : Ck → Sto → Prop
  | .tt, _ => True
  | .ls l ds, S => S[l]? = some (.lst ds)
  | .and a b, S => a.ok S ∧ b.ok S
abbrev RI := Env → Sto → Out (List Dv × Ck)
/-- an iterator that yields the items, as long as what it walks stands -/
def ItR (K : PySem.W.Frag) (μ : List Addr) (H : Hp) (J : It) (w : List Dv × Ck) : Prop :=
  ∀ (μ' : List Addr) (S' : Sto) (H' : Hp) (i : Nat), Step μ H μ' H' → SimS K μ' S' H' → w.2.ok S' →
    (i = w.1.length → J.stop i H') ∧ ∀ d, w.1[i]? = some d → J.go i H' ∧ ∀ x H'', J.yld i H' x H'' → Step μ' H' μ' H'' ∧ SimS K μ' S' H'' ∧ Rep K μ' H'' x d
def tI (K : PySem.W.Frag) (mg : Str → Option Value) (W : WX) (r : RI) : TI := fun σ H R => ∃ μ ρ S, SimS K μ S H ∧ SimE K μ H ρ σ ∧
  match r ρ S with
  | .ok w S1 => ∀ μ1 H1 J, SimS K μ1 S1 H1 → Step μ H μ1 H1 → ItR K μ1 H1 J w → R J H1
  | .ex x S1 => ∀ μ1 H1 cls dd, SimS K μ1 S1 H1 → Step μ H μ1 H1 → XRep K mg μ1 H1 x cls dd → W cls dd σ H1
  | .no => False
abbrev SI (X : Cx) (W : WX) (tg iter : Expr) (r : RI) : Prop := PI X tg iter (tI X.K X.mg W r)
theorem PI.imp {X : Cx} {tg e : Expr} {t t' : TI} (h : PI X tg e t) (i : ∀ σ H Q, t' σ H Q → t σ H Q) : PI X tg e t' := ⟨fun pins s σ H Q I w => h.run pins s σ H Q I (i σ H Q w)⟩
theorem PI.or {X : Cx} {tg e : Expr} {t t' : TI} (h : PI X tg e t) (h' : PI X tg e t') : PI X tg e (fun σ H Q => t σ H Q ∨ t' σ H Q) :=
  ⟨fun pins s σ H Q I w => w.elim (h.run pins s σ H Q I) (h'.run pins s σ H Q I)⟩
def ckOf : Dv → List Dv → Ck
  | .ref l, ds => .ls l ds
  | _, _ => .tt
def chars (x : Str) : List Dv := x.cps.toList.map fun c => .str ⟨#[c]⟩
/-- a list, a tuple, a text -/
def walkD (d : Dv) (S : Sto) : Option (List Dv × Ck) := match d with
  | .str x => some (chars x, .tt)
  | _ => (seqOf S d).map fun ds => (ds, ckOf d ds)
def iSeq (e : RE) : RI := fun ρ S => (e ρ S).bind fun d S1 => match walkD d S1 with
  | some w => .ok w S1
  | none => .no
def rangeL (lo hi : Int) : List Dv := (List.range (hi - lo).toNat).map fun (i : Nat) => .int (lo + i)
noncomputable def rok (i : Int) : Bool := @decide (-(2 ^ 62) ≤ i ∧ i < 2 ^ 62) (Classical.propDecidable _)
noncomputable def rng1 : List Dv → Option (List Dv)
  | [.int j] => if rok j = true then some (rangeL 0 j) else none
  | _ => none
noncomputable def rng2 : List Dv → Option (List Dv)
  | [.int i, .int j] => if rok i = true ∧ rok j = true then some (rangeL i j) else none
  | _ => none
def downL (hi lo : Int) : List Dv := (List.range (hi - lo).toNat).map fun (i : Nat) => .int (hi - i)
noncomputable def rng3 : List Dv → Option (List Dv)
  | [.int i, .int j, .int c] => if rok i = true ∧ rok j = true ∧ c = -1 then some (downL i j) else none
  | _ => none
def iRange (f : List Dv → Option (List Dv)) (a : RA) : RI := fun ρ S => (a ρ S).bind fun ds S1 => match f ds with
  | some w => .ok (w, .tt) S1
  | none => .no
section
variable {K : PySem.W.Frag} {mg : Str → Option Value} {W : WX} {μ μ1 : List Addr} {H H1 : Hp} {S S1 : Sto} {σ : L2.St} {ρ : Env}
theorem itr_tup {a : Addr} {vs : List V} {ds : List Dv} (h : ∀ μ' H', Step μ H μ' H' → SqT K H' a vs) (r : Reps K μ H vs ds) : ItR K μ H (Itt K a) (ds, .tt) := by
  intro μ' S' H' i st hS _
  have q := h μ' H' st
  refine ⟨fun e => ⟨vs, q, by rw [r.1]; exact Nat.le_of_eq e.symm⟩, fun d hd => ?_⟩
  obtain ⟨v, hv, rv⟩ := r.get hd
  refine ⟨⟨vs, v, q, hv⟩, fun x H'' y => ?_⟩
  obtain ⟨rfl, y⟩ := y
  have := y vs q
  rw [hv] at this; cases this
  exact ⟨.refl .., hS, rv.step st⟩
theorem sqT_keep {v : V} {d : Dv} {ds : List Dv} (r : Rep K μ H v d) (e : tupOf d = some ds) : ∃ a vs, v = .ref a ∧ Reps K μ H vs ds ∧ SqT K H a vs ∧ ∀ μ' H', Step μ H μ' H' → SqT K H' a vs := by
  cases r with
  | tup t l q => simp only [tupOf, Option.some.injEq] at e; subst e; exact ⟨_, _, rfl, ⟨l, q⟩, .of t.1, fun μ' H' s => .of (t.step s).1⟩
  | kt t l q => simp only [tupOf, Option.some.injEq] at e; subst e; exact ⟨_, _, rfl, ⟨l, q⟩, .inr t, fun μ' H' s => .inr t⟩
  | _ => simp [tupOf] at e
/-- a list: read-only, or one of the store that stands still -/
theorem itr_list {v : V} {d : Dv} {ds : List Dv} (hS : SimS K μ S H) (r : Rep K μ H v d) (e : lstOf S d = some ds) :
    ∃ a vs, v = .ref a ∧ SqL K H a vs ∧ ∀ μ' S' H', Step μ H μ' H' → SimS K μ' S' H' → (ckOf d ds).ok S' → ∃ ws, SqL K H' a ws ∧ Reps K μ' H' ws ds := by
  cases r with
  | fl t l q =>
    simp only [lstOf, Option.some.injEq] at e; subst e
    have k : ∀ {H' : Hp} {μ' : List Addr} {a : Addr} {vs : List V}, LisAt K μ' H' a vs → SqL K H' a vs := fun t => by
      rcases t with ⟨⟨o, t⟩, _⟩ | t
      · exact .inl (.inr ⟨o, t⟩)
      · exact .inr t
    exact ⟨_, _, rfl, k t, fun μ' S' H' st _ _ => ⟨_, k (t.step st), Reps.step st ⟨l, q⟩⟩⟩
  | @ref l a hl =>
    have e0 := e
    simp only [lstOf] at e
    split at e
    · rename_i es hs
      cases e
      obtain ⟨vs, e1, rr⟩ := hS.at' hs hl
      refine ⟨a, vs, rfl, .of e1, fun μ' S' H' st hS' ck => ?_⟩
      obtain ⟨ws, e2, r2⟩ := hS'.at' ck (st.get hl)
      exact ⟨ws, .of e2, r2⟩
    · cases e
  | _ => simp [lstOf] at e
theorem itr_of_list {a : Addr} {w : List Dv × Ck} (h : ∀ μ' S' H', Step μ H μ' H' → SimS K μ' S' H' → w.2.ok S' → ∃ ws, SqL K H' a ws ∧ Reps K μ' H' ws w.1) : ItR K μ H (Itl K a) w := by
  intro μ' S' H' i st hS ck
  obtain ⟨ws, q, r⟩ := h μ' S' H' st hS ck
  refine ⟨fun e => ⟨ws, q, by rw [r.1]; exact Nat.le_of_eq e.symm⟩, fun d hd => ?_⟩
  obtain ⟨v, hv, rv⟩ := r.get hd
  refine ⟨⟨ws, v, q, hv⟩, fun x H'' y => ?_⟩
  obtain ⟨rfl, y⟩ := y
  have := y ws q
  rw [hv] at this; cases this
  exact ⟨.refl .., hS, rv⟩
theorem itr_range {lo hi : Int} : ItR K μ H (Itr lo (hi - lo).toNat) (rangeL lo hi, .tt) := by
  intro μ' S' H' i st hS _
  refine ⟨fun e => by have : i = (hi - lo).toNat := by rw [e]; simp [rangeL]
                      exact Nat.le_of_eq this.symm, fun d hd => ?_⟩
  have hi' := (List.getElem?_eq_some_iff.mp hd).1
  simp only [rangeL, List.length_map, List.length_range] at hi'
  refine ⟨hi', fun x H'' y => ?_⟩
  obtain ⟨rfl, rfl⟩ := y
  simp only [rangeL, List.getElem?_map, List.getElem?_range hi', Option.map_some, Option.some.injEq] at hd
  subst hd
  exact ⟨.refl .., hS, .int _⟩
theorem itr_str {x : Str} : ItR K μ H (Its x) (chars x, .tt) := by
  intro μ' S' H' i st hS _
  have hl : (chars x).length = x.cps.size := by simp [chars]
  refine ⟨fun e => Nat.le_of_eq (hl.symm.trans e.symm), fun d hd => ?_⟩
  have hi := (List.getElem?_eq_some_iff.mp hd).1
  refine ⟨(show i < x.cps.size by rw [← hl]; exact hi), fun v H'' y => ?_⟩
  obtain ⟨rfl, c, hc, rfl⟩ := y
  have hd' : (chars x)[i]? = some d := hd
  simp only [chars, List.getElem?_map, Array.getElem?_toList, hc, Option.map_some, Option.some.injEq] at hd'
  subst hd'
  exact ⟨.refl .., hS, .str _⟩
end
section
variable {X : Cx} {W : WX} {tg e : Expr} {re : RE} {ra : RA} {p pos : Pos}
theorem si_seq (he : SE X W e re) : SI X W tg e (iSeq re) :=
  PI.imp (PI.or (pi_list he) (PI.or (pi_tup he) (pi_str he))) fun σ H R ⟨μ, ρ, S, hS, hE, h⟩ => by
    unfold iSeq at h
    cases q : re ρ S with
    | no => rw [q] at h; exact h.elim
    | ex x S1 => rw [q] at h; exact .inl ⟨μ, ρ, S, hS, hE, by rw [q]; exact h⟩
    | ok d S1 =>
      rw [q] at h
      simp only [Out.bind_ok] at h
      cases ew : walkD d S1 with
      | none => rw [ew] at h; exact h.elim
      | some w =>
        rw [ew] at h
        unfold walkD at ew
        split at ew
        · cases ew
          refine .inr (.inr ⟨μ, ρ, S, hS, hE, ?_⟩)
          rw [q]
          intro μ1 H1 v a b r
          cases r
          exact ⟨_, rfl, h μ1 H1 _ a b itr_str⟩
        · rw [Option.map_eq_some_iff] at ew
          obtain ⟨ds, e1, rfl⟩ := ew
          unfold seqOf at e1
          split at e1
          · rename_i es e2
            cases e1
            refine .inr (.inl ⟨μ, ρ, S, hS, hE, ?_⟩)
            rw [q]
            intro μ1 H1 v a b r
            obtain ⟨ad, vs, rfl, rr, hq, kp⟩ := sqT_keep r e2
            have ck : ckOf d ds = .tt := by cases d <;> first | rfl | simp [tupOf] at e2
            rw [ck] at h
            exact ⟨ad, rfl, ⟨vs, hq⟩, h μ1 H1 _ a b (itr_tup kp rr)⟩
          · refine .inl ⟨μ, ρ, S, hS, hE, ?_⟩
            rw [q]
            intro μ1 H1 v a b r
            obtain ⟨ad, vs, rfl, hq, kp⟩ := itr_list a r e1
            exact ⟨ad, rfl, ⟨vs, hq⟩, h μ1 H1 _ a b (itr_of_list kp)⟩
theorem rok_iff {i : Int} : rok i = true ↔ -(2 ^ 62) ≤ i ∧ i < 2 ^ 62 := by unfold rok; exact @decide_eq_true_iff _ (Classical.propDecidable _)
/-- a walk over values -/
theorem iRange_met {K : PySem.W.Frag} {mg : Str → Option Value} {f : List Dv → Option (List Dv)} {σ : L2.St} {H : Hp} {R : It → Hp → Prop} (h : tI K mg W (iRange f ra) σ H R) {Q : List V → Hp → Prop}
    (hq : ∀ μ1 H1 S1 vs ds w, SimS K μ1 S1 H1 → Reps K μ1 H1 vs ds → f ds = some w → (∀ J, ItR K μ1 H1 J (w, .tt) → R J H1) → Q vs H1) : tG (Reps K) K mg W ra σ H Q := by
  obtain ⟨μ, ρ, S, hS, hE, h⟩ := h
  refine ⟨μ, ρ, S, hS, hE, ?_⟩
  unfold iRange at h
  cases q : ra ρ S with
  | no => rw [q] at h; exact h.elim
  | ex x S1 => rw [q] at h; exact h
  | ok ds S1 =>
    rw [q] at h
    simp only [Out.bind_ok] at h
    intro μ1 H1 vs a b r
    cases ew : f ds with
    | none => rw [ew] at h; exact h.elim
    | some w => rw [ew] at h; exact hq μ1 H1 S1 vs ds w a r ew fun J hj => h μ1 H1 J a b hj
theorem si_range1 {a : Expr} (hg : Gl X "range") (hm : X.mg "range" = none) (ha : SA X W [a] ra) (hs : starEach [a] X.env = [(false, eval a X.env)] := by rfl) : SI X W tg (.Call (.Name "range" p) [a] [] pos) (iRange rng1 ra) :=
  PI.imp (pi_range1 hg hm ha hs) fun σ H R h => iRange_met h fun μ1 H1 S1 vs ds w a r ew hR => by
    unfold rng1 at ew
    split at ew
    · rename_i j
      obtain ⟨v, rfl, rv⟩ := r.get1
      cases rv
      split at ew
      · rename_i hj
        cases ew
        obtain ⟨h1, h2⟩ := rok_iff.mp hj
        refine ⟨j, rfl, h1, h2, hR _ ?_⟩
        have e : j.toNat = (j - 0).toNat := by rw [Int.sub_zero]
        rw [e]
        exact itr_range
      · cases ew
    · cases ew
theorem si_range2 {a b : Expr} (hg : Gl X "range") (hm : X.mg "range" = none) (ha : SA X W [a, b] ra) (hs : starEach [a, b] X.env = [(false, eval a X.env), (false, eval b X.env)] := by rfl) (hs2 : starEach [b] X.env = [(false, eval b X.env)] := by rfl) :
    SI X W tg (.Call (.Name "range" p) [a, b] [] pos) (iRange rng2 ra) :=
  PI.imp (pi_range2 hg hm ha hs hs2) fun σ H R h => iRange_met h fun μ1 H1 S1 vs ds w a r ew hR => by
    unfold rng2 at ew
    split at ew
    · rename_i i j
      obtain ⟨v, u, rfl, rv, ru⟩ := r.get2
      cases rv; cases ru
      split at ew
      · rename_i hj
        cases ew
        obtain ⟨h1, h2⟩ := rok_iff.mp hj.1
        obtain ⟨h3, h4⟩ := rok_iff.mp hj.2
        exact ⟨i, j, rfl, ⟨h1, h2, h3, h4⟩, hR _ itr_range⟩
      · cases ew
    · cases ew
theorem itr_down {K : PySem.W.Frag} {μ : List Addr} {H : Hp} {lo hi : Int} : ItR K μ H (Itc hi (-1) (hi - lo).toNat) (downL hi lo, .tt) := by
  intro μ' S' H' i st hS _
  have hl : (downL hi lo).length = (hi - lo).toNat := by simp [downL]
  refine ⟨fun e => Nat.le_of_eq (hl.symm.trans e.symm), fun d hd => ?_⟩
  have hi' : i < (hi - lo).toNat := by rw [← hl]; exact (List.getElem?_eq_some_iff.mp hd).1
  refine ⟨hi', fun x H'' y => ?_⟩
  obtain ⟨rfl, rfl⟩ := y
  have hd' : (downL hi lo)[i]? = some d := hd
  simp only [downL, List.getElem?_map, List.getElem?_range hi', Option.map_some, Option.some.injEq] at hd'
  subst hd'
  have e : hi + (i : Nat) * (-1) = hi - (i : Int) := by omega
  rw [e]
  exact ⟨.refl .., hS, .int _⟩
theorem si_range3 {a b c : Expr} (hg : Gl X "range") (hm : X.mg "range" = none) (ha : SA X W [a, b, c] ra)
    (hs : starEach [a, b, c] X.env = (false, eval a X.env) :: starEach [b, c] X.env := by rfl) (hs2 : (backTo pos (starEach [b, c] X.env)).any (·.1) = false := by rfl) : SI X W tg (.Call (.Name "range" p) [a, b, c] [] pos) (iRange rng3 ra) :=
  PI.imp (pi_range3 hg hm ha hs hs2) fun σ H R h => iRange_met h fun μ1 H1 S1 vs ds w a r ew hR => by
    unfold rng3 at ew
    split at ew
    · rename_i i j c
      obtain ⟨v, ws, rfl, rv, r2⟩ := r.uncons
      obtain ⟨u, u2, rfl, ru, ru2⟩ := r2.get2
      cases rv; cases ru; cases ru2
      split at ew
      · rename_i hj
        cases ew
        obtain ⟨h1, h2⟩ := rok_iff.mp hj.1
        obtain ⟨h3, h4⟩ := rok_iff.mp hj.2.1
        rw [hj.2.2]
        exact ⟨i, j, -1, (i - j).toNat, rfl, RgC.neg h1 h2 h3 h4, hR _ itr_down⟩
      · cases ew
    · cases ew
/-- items, by pairs that are made in the turn -/
def enumL (ds : List Dv) (n : Nat := 0) : List Dv := match ds with
  | [] => []
  | d :: r => .tup [.int n, d] :: enumL r (n + 1)
theorem enumL_get : ∀ (ds : List Dv) (n i : Nat), (enumL ds n)[i]? = (ds[i]?).map fun d => .tup [.int ((n + i : Nat) : Int), d]
  | [], n, i => by simp [enumL]
  | d :: r, n, 0 => by simp [enumL]
  | d :: r, n, i + 1 => by
    rw [enumL, List.getElem?_cons_succ, List.getElem?_cons_succ, enumL_get r (n + 1) i]
    have e : n + 1 + i = n + (i + 1) := by omega
    rw [e]
theorem enumL_len : ∀ (ds : List Dv) (n : Nat), (enumL ds n).length = ds.length
  | [], _ => rfl
  | _ :: r, n => by rw [enumL, List.length_cons, List.length_cons, enumL_len r]
theorem itr_enum {K : PySem.W.Frag} {μ : List Addr} {H : Hp} {a : Addr} {ds : List Dv} {ck : Ck} (h : ∀ μ' S' H', Step μ H μ' H' → SimS K μ' S' H' → ck.ok S' → ∃ ws, SqL K H' a ws ∧ Reps K μ' H' ws ds) : ItR K μ H (Ite K a) (enumL ds, ck) := by
  intro μ' S' H' i st hS hck
  obtain ⟨ws, q, r⟩ := h μ' S' H' st hS hck
  refine ⟨fun e => ⟨ws, q, by rw [r.1]; rw [show (enumL ds, ck).1.length = ds.length from enumL_len ds 0] at e; omega⟩, fun d hd => ?_⟩
  have hd' : (enumL ds)[i]? = some d := hd
  rw [enumL_get, Option.map_eq_some_iff] at hd'
  obtain ⟨d', hd', rfl⟩ := hd'
  obtain ⟨v, hv, rv⟩ := r.get hd'
  refine ⟨⟨ws, v, q, hv⟩, fun x H'' y => ?_⟩
  obtain ⟨T, z, rfl, hT, rfl, y⟩ := y
  have := y ws q
  rw [hv] at this; cases this
  have rr : Reps K μ' H' [.int (i : Nat), v] [.int ((0 + i : Nat) : Int), d'] := by
    rw [Nat.zero_add]
    exact (Reps.one rv).cons (.int _)
  exact ⟨step_lay hS hT _, hS.lay hT _, .tup ⟨upd_same, hS.fresh hT⟩ rr.1 (rr.step (step_lay hS hT _)).2⟩
def iEnum (a : RA) : RI := fun ρ S => (a ρ S).bind fun ds S1 => match ds with
  | [d] => match lstOf S1 d with
    | some xs => .ok (enumL xs, ckOf d xs) S1
    | none => .no
  | _ => .no
theorem si_enum {elts : List Expr} {kk : Nat} {tpos : Pos} (hg : Gl X "enumerate") (hm : X.mg "enumerate" = none) (ha : SA X W [e] ra) (hs : starEach [e] X.env = [(false, eval e X.env)] := by rfl) : SI X W (.Tuple elts kk tpos) (.Call (.Name "enumerate" p) [e] [] pos) (iEnum ra) :=
  PI.imp (pi_enum hg hm ha hs) fun σ H R ⟨μ, ρ, S, hS, hE, h⟩ => by
    refine ⟨μ, ρ, S, hS, hE, ?_⟩
    unfold iEnum at h
    cases q : ra ρ S with
    | no => rw [q] at h; exact h.elim
    | ex x S1 => rw [q] at h; exact h
    | ok ds S1 =>
      rw [q] at h
      simp only [Out.bind_ok] at h
      intro μ1 H1 vs a b r
      cases ds with
      | nil => exact h.elim
      | cons d ds =>
        cases ds with
        | cons => exact h.elim
        | nil =>
          obtain ⟨v, rfl, rv⟩ := r.get1
          cases el : lstOf S1 d with
          | none => simp only [el] at h
          | some xs =>
            simp only [el] at h
            obtain ⟨ad, us, rfl, hq, kp⟩ := itr_list a rv el
            exact ⟨ad, us, rfl, hq, h μ1 H1 _ a b (itr_enum kp)⟩
end

/-! ### for, comprehensions, while -/
def loop (ck : Sto → Prop) [∀ S, Decidable (ck S)] (t : Tg) (b : RC) : List Dv → Env → Sto → OutS
  | [], ρ, S => if ck S then .fl (.nx ρ) S else .no
  | d :: ds, ρ, S => if ck S then match t.set d ρ with
    | some ρ1 => match b ρ1 S with
      | .fl (.nx ρ2) S2 => loop ck t b ds ρ2 S2
      | .fl (.ct ρ2) S2 => loop ck t b ds ρ2 S2
      | .fl (.bk ρ2) S2 => .fl (.nx ρ2) S2
      | o => o
    | none => .no else .no
noncomputable instance (c : Ck) (S : Sto) : Decidable (c.ok S) := Classical.propDecidable _
noncomputable def cFor (r : RI) (t : Tg) (b : RC) : RC := fun ρ S => bindS (r ρ S) ρ fun w S1 => loop w.2.ok t b w.1 ρ S1
def wipeE (ρ : Env) : List Nat → Env
  | [] => ρ
  | v :: vs => (wipeE ρ vs).set v none
def compL (ck : Sto → Prop) [∀ S, Decidable (ck S)] (t : Tg) (c : RT) (y : RE) (ρ : Env) : List Dv → List Dv → Sto → Out (List Dv)
  | [], acc, S => if ck S then .ok acc S else .no
  | d :: ds, acc, S => if ck S then match t.set d ρ with
    | some ρ1 => (c ρ1 S).bindN fun k S1 => if k = true then (y ρ1 S1).bindN fun z S2 => if acc.length < sizeLine then compL ck t c y ρ ds (acc ++ [z]) S2 else .no else compL ck t c y ρ ds acc S1
    | none => .no else .no
def cYes : RT := fun _ S => .ok true S
noncomputable def eComp (r : RI) (t : Tg) (c : RT) (y : RE) (vs : List Nat) : RE := fun ρ S => (r ρ S).bind fun w S1 => (compL w.2.ok t c y (wipeE ρ vs) w.1 [] S1).bind newL
def loopW : Nat → RT → RC → RC
  | 0, _, _ => fun _ _ => .no
  | n + 1, c, b => fun ρ S => bindS (c ρ S) ρ fun k S1 => if k = true then match b ρ S1 with
    | .fl (.nx ρ2) S2 => loopW n c b ρ2 S2
    | .fl (.ct ρ2) S2 => loopW n c b ρ2 S2
    | .fl (.bk ρ2) S2 => .fl (.nx ρ2) S2
    | o => o else .fl (.nx ρ) S1
open Classical in
noncomputable def cWhile (c : RT) (b : RC) : RC := fun ρ S => if h : ∃ n, loopW n c b ρ S ≠ .no then loopW h.choose c b ρ S else .no
theorem loopW_mono {c : RT} {b : RC} : ∀ (n m : Nat) (ρ : Env) (S : Sto), n ≤ m → loopW n c b ρ S ≠ .no → loopW m c b ρ S = loopW n c b ρ S
  | 0, _, _, _, _, h => absurd rfl h
  | n + 1, 0, _, _, h, _ => by omega
  | n + 1, m + 1, ρ, S, hl, h => by
    simp only [loopW] at h ⊢
    cases q : c ρ S with
    | no => rfl
    | ex x S1 => rfl
    | ok k S1 =>
      rw [q] at h
      simp only [bindS_ok] at h ⊢
      cases k with
      | false => rfl
      | true =>
        simp only [if_true] at h ⊢
        cases q2 : b ρ S1 with
        | no => rfl
        | ex x ρ2 S2 => rfl
        | fl f S2 =>
          rw [q2] at h
          cases f with
          | nx ρ2 => exact loopW_mono n m ρ2 S2 (by omega) h
          | ct ρ2 => exact loopW_mono n m ρ2 S2 (by omega) h
          | bk ρ2 => rfl
          | rt d => rfl
theorem cWhile_of {c : RT} {b : RC} {ρ : Env} {S : Sto} (n : Nat) (h : loopW n c b ρ S ≠ .no) : cWhile c b ρ S = loopW n c b ρ S := by
  unfold cWhile
  have hx : ∃ n, loopW n c b ρ S ≠ .no := ⟨n, h⟩
  rw [dif_pos hx]
  rcases Nat.le_total n hx.choose with l | l
  · exact loopW_mono _ _ ρ S l h
  · exact (loopW_mono _ _ ρ S l hx.choose_spec).symm
section
variable {X : Cx} {W : WX} {tg iter c elt : Expr} {body : List Stmt} {r : RI} {t : Tg} {b : RC} {rc : RT} {ry : RE} {pos : Pos}
theorem sc_for (hp : PassesOwn (model X.prog X.w) X.A X.env X.xe) (hc : X.calm = true) (hi : SI X W tg iter r) (hg : SG X tg t) (hb : SCs X W body b) (hs : ∀ x, foldedSetIterable iter X.env x = pure x := by intro _; rfl) : SC X W (.For tg iter body [] pos) (cFor r t b) :=
  PS.imp (ps_for hp hc hi hg hb hs) fun D σ H ⟨μ, ρ, S, hS, hE, h⟩ => by
    refine ⟨μ, ρ, S, hS, hE, ?_⟩
    unfold cFor at h
    cases q : r ρ S with
    | no => rw [q] at h; exact h.elim
    | ex x S1 => rw [q] at h; exact fun μ1 H1 cls dd a b c => h μ1 σ H1 cls dd a (hE.step b) b c
    | ok w S1 =>
      rw [q] at h
      intro μ1 H1 J hS1 s1 hJ
      refine ⟨fun i m σ' H' => ∃ μ' ρ' S', SimS X.K μ' S' H' ∧ SimE X.K μ' H' ρ' σ' ∧ Step μ1 H1 μ' H' ∧ m = w.1.length - i ∧ i ≤ w.1.length ∧ MetS X.K X.mg W μ' H' (loop w.2.ok t b (w.1.drop i) ρ' S') D,
        ⟨_, μ1, ρ, S1, hS1, hE.step s1, .refl .., rfl, Nat.zero_le _, by rw [List.drop_zero]; exact h.step s1⟩, ?_⟩
      rintro i m σ' H' ⟨μ', ρ', S', hS', hE', s', rfl, hil, hm⟩
      by_cases hlt : i < w.1.length
      · rw [List.drop_eq_getElem_cons hlt, loop] at hm
        split at hm
        · rename_i hck
          obtain ⟨_, hgo⟩ := hJ μ' S' H' i s' hS' hck
          obtain ⟨go, yl⟩ := hgo w.1[i] (List.getElem?_eq_getElem hlt)
          split at hm
          · rename_i ρ1 e1
            refine .inr ⟨go, fun σ2 H2 => ∃ μ2 ρ2 S2, SimS X.K μ2 S2 H2 ∧ SimE X.K μ2 H2 ρ2 σ2 ∧ Step μ1 H1 μ2 H2 ∧ MetS X.K X.mg W μ2 H2 (loop w.2.ok t b (w.1.drop (i + 1)) ρ2 S2) D,
              fun σ2 H2 ⟨μ2, ρ2, S2, a1, a2, a3, a4⟩ => ⟨_, by omega, μ2, ρ2, S2, a1, a2, a3, rfl, hlt, a4⟩, fun x H2 y => ?_⟩
            obtain ⟨s2, hS2, rx⟩ := yl x H2 y
            refine ⟨μ', ρ', _, ρ1, hE'.step s2, rx, e1, fun σ2 hE2 _ _ => ⟨μ', ρ1, S', hS2, hE2, ?_⟩⟩
            have hm2 := hm
            cases q2 : b ρ1 S' with
            | no => rw [q2] at hm2; exact hm2.elim
            | ex x ρ3 S3 => rw [q2] at hm2; exact fun μ3 σ3 H3 cl dd a1 a2 a3 a4 => hm2 μ3 σ3 H3 cl dd a1 a2 (s2.trans a3) a4
            | fl f S3 =>
              rw [q2] at hm2
              cases f with
              | nx ρ3 => exact fun μ3 σ3 H3 a1 a2 a3 => ⟨μ3, ρ3, S3, a1, a2, s'.trans (s2.trans a3), hm2.step (s2.trans a3)⟩
              | ct ρ3 => exact fun μ3 σ3 H3 a1 a2 a3 => ⟨μ3, ρ3, S3, a1, a2, s'.trans (s2.trans a3), hm2.step (s2.trans a3)⟩
              | bk ρ3 => exact fun μ3 σ3 H3 a1 a2 a3 => hm2 μ3 σ3 H3 a1 a2 (s2.trans a3)
              | rt d => exact fun μ3 v3 H3 a1 a2 a3 => hm2 μ3 v3 H3 a1 (s2.trans a2) a3
          · exact hm.elim
        · exact hm.elim
      · have e : i = w.1.length := by omega
        rw [List.drop_of_length_le (by omega), loop] at hm
        split at hm
        · rename_i hck
          exact .inl ⟨(hJ μ' S' H' i s' hS' hck).1 e, hm μ' σ' H' hS' hE' (.refl ..)⟩
        · exact hm.elim
theorem sc_while (hp : PassesOwn (model X.prog X.w) X.A X.env X.xe) (hc : ST X W c rc) (hb : SCs X W body b) : SC X W (.While c body [] pos) (cWhile rc b) :=
  PS.imp (ps_while hp hc hb) fun D σ H ⟨μ, ρ, S, hS, hE, h⟩ => by
    unfold cWhile at h
    split at h
    · rename_i hx
      refine ⟨fun m σ' H' => ∃ μ' ρ' S', SimS X.K μ' S' H' ∧ SimE X.K μ' H' ρ' σ' ∧ MetS X.K X.mg W μ' H' (loopW m rc b ρ' S') D, ⟨_, μ, ρ, S, hS, hE, h⟩, ?_⟩
      rintro m σ' H' ⟨μ', ρ', S', hS', hE', hm⟩
      cases m with
      | zero => exact hm.elim
      | succ m =>
        simp only [loopW] at hm
        refine (bndS (R1 := RBool) hS' hE' hm).mono fun v H1 ⟨μ1, S1, d, hS1, hE1, s1, rv, h1⟩ => ?_
        cases (show v = d from rv)
        cases v with
        | false => exact h1 μ1 σ' H1 hS1 hE1 (.refl ..)
        | true =>
          simp only [if_true] at h1
          refine ⟨fun σ2 H2 => ∃ μ2 ρ2 S2, SimS X.K μ2 S2 H2 ∧ SimE X.K μ2 H2 ρ2 σ2 ∧ MetS X.K X.mg W μ2 H2 (loopW m rc b ρ2 S2) D, fun σ2 H2 h2 => ⟨m, Nat.lt_succ_self m, h2⟩, μ1, ρ', S1, hS1, hE1, ?_⟩
          cases q2 : b ρ' S1 with
          | no => rw [q2] at h1; exact h1.elim
          | ex x ρ3 S3 => rw [q2] at h1; exact h1
          | fl f S3 =>
            rw [q2] at h1
            cases f with
            | nx ρ3 => exact fun μ3 σ3 H3 a1 a2 a3 => ⟨μ3, ρ3, S3, a1, a2, h1.step a3⟩
            | ct ρ3 => exact fun μ3 σ3 H3 a1 a2 a3 => ⟨μ3, ρ3, S3, a1, a2, h1.step a3⟩
            | bk ρ3 => exact h1
            | rt d => exact h1
    · exact h.elim
end
end PL

namespace PL
open PySem PySem.Spec PyProof.Rows L2

section
variable {K : PySem.W.Frag} {mg : Str → Option Value} {W : WX} {μ μ1 : List Addr} {H H1 : Hp} {S S1 : Sto} {σ : L2.St} {ρ : Env}
theorem wipeE_rep (h : SimE K μ H ρ σ) : ∀ vs : List Nat, SimE K μ H (wipeE ρ vs) (wipe σ vs)
  | [] => h
  | v :: vs => by
    have ih := wipeE_rep h vs
    refine ⟨by simp only [wipeE, wipe, List.length_set]; exact ih.1, fun i d hd => ?_⟩
    simp only [wipeE] at hd
    by_cases hv : v = i
    · subst hv
      have hl : v < (wipeE ρ vs).length := by have := (List.getElem?_eq_some_iff.mp hd).1; simpa using this
      rw [List.getElem?_set_self hl] at hd; cases hd
    · rw [List.getElem?_set_ne hv] at hd
      obtain ⟨u, e1, r1⟩ := ih.2 i d hd
      exact ⟨u, by simp only [wipe]; rw [List.getElem?_set_ne hv]; exact e1, r1⟩
theorem wipe_same {σ σ' : L2.St} (hl : σ'.length = σ.length) : ∀ {vs : List Nat}, (∀ j, j ∉ vs → σ'[j]? = σ[j]?) → wipe σ' vs = wipe σ vs := by
  intro vs h
  refine List.ext_getElem? fun j => ?_
  by_cases hj : j ∈ vs
  · have : ∀ {τ : L2.St} {vs : List Nat}, j ∈ vs → j < τ.length → (wipe τ vs)[j]? = some none := by
      intro τ vs
      induction vs with
      | nil => intro h _; cases h
      | cons v vs ih =>
        intro h hlt
        simp only [wipe]
        by_cases hv : v = j
        · subst hv; rw [List.getElem?_set_self (by rw [wipe_length]; exact hlt)]
        · rw [List.getElem?_set_ne hv]
          rcases List.mem_cons.mp h with e | h
          · exact absurd e.symm hv
          · exact ih h hlt
    by_cases hlt : j < σ.length
    · rw [this hj (by rw [hl]; exact hlt), this hj hlt]
    · rw [List.getElem?_eq_none (by rw [wipe_length, hl]; omega), List.getElem?_eq_none (by rw [wipe_length]; omega)]
  · rw [wipe_out hj, wipe_out hj, h j hj]
end
section
variable {K : PySem.W.Frag} {μ μ' μ1 μ2 : List Addr} {H H' H1 H2 : Hp} {S S' S1 : Sto} {D : Addr} {us ws : List V} {v : V} {d : Dv}
theorem rep_priv (hD : H D = some (.lst us)) (r : Rep K μ H v d) : Rep K μ (upd H D (.lst ws)) v d := by
  induction r with
  | non => exact .non
  | bl b => exact .bl b
  | int i => exact .int i
  | str x => exact .str x
  | ref h => exact .ref h
  | kt h e _ ih => exact .kt h e fun i v d h1 h2 => ih i v d h1 h2
  | tup h e _ ih => exact .tup ⟨by rw [upd_ne (ne_of h.1 hD (by intro z; cases z))]; exact h.1, h.2⟩ e fun i v d h1 h2 => ih i v d h1 h2
  | fl h e _ ih =>
    refine .fl ?_ e fun i v d h1 h2 => ih i v d h1 h2
    rcases h with ⟨⟨o, h⟩, n⟩ | h
    · exact .inl ⟨⟨o, by rw [upd_ne (ne_of h hD (by intro z; cases z))]; exact h⟩, n⟩
    · exact .inr h
theorem reps_priv {vs : List V} {ds : List Dv} (hD : H D = some (.lst us)) (r : Reps K μ H vs ds) : Reps K μ (upd H D (.lst ws)) vs ds := ⟨r.1, fun i v d h1 h2 => rep_priv hD (r.2 i v d h1 h2)⟩
theorem sim_priv (hD : H D = some (.lst us)) (n : D ∉ μ) (h : SimS K μ S H) : SimS K μ S (upd H D (.lst ws)) :=
  ⟨h.len, h.nd, fun l a o e1 e2 => by
    have ne : a ≠ D := fun z => n (z ▸ List.mem_of_getElem? e1)
    have q := h.ob l a o e1 e2
    cases o with
    | lst ds => obtain ⟨vs, g, r⟩ := q; exact ⟨vs, by rw [upd_ne ne]; exact g, reps_priv hD r⟩
    | dk kvs => obtain ⟨vs, g, g2, r⟩ := q; exact ⟨vs, by rw [upd_ne ne]; exact g, g2, reps_priv hD r⟩
    | dt kvs => obtain ⟨vs, g, g2, r⟩ := q; exact ⟨vs, by rw [upd_ne ne]; exact g, g2, reps_priv hD r⟩⟩
theorem step_priv (hD : H1 D = none) (s : Step μ1 H1 μ H) : Step μ1 H1 μ (upd H D (.lst ws)) :=
  ⟨s.pre, fun b o e n => by rw [upd_ne (ne_of_none e hD)]; exact s.keep b o e n, fun b e => by
    by_cases hb : b = D
    · rw [hb, upd_same]; exact fun z => nomatch z
    · rw [upd_ne hb]; exact s.live b e⟩
theorem step_open (hD : H1 D = none) (s : Step μ1 H1 μ H) : Step μ1 H1 (μ ++ [D]) H := by
  refine ⟨?_, s.keep, s.live⟩
  obtain ⟨ν, e, f⟩ := s.pre
  exact ⟨ν ++ [D], by rw [e, List.append_assoc], fun b hb => by
    rcases List.mem_append.mp hb with hb | hb
    · exact f b hb
    · simp at hb; rw [hb]; exact hD⟩
/-- an object of ours comes into the store -/
theorem step_adopt (n : D ∉ μ) (hD : H D = some (.lst us)) : Step μ H μ H := .refl _ _
theorem rep_adopt (hD : H D = some (.lst us)) (r : Rep K μ H v d) : Rep K (μ ++ [D]) H v d := by
  induction r with
  | non => exact .non
  | bl b => exact .bl b
  | int i => exact .int i
  | str x => exact .str x
  | ref h => exact .ref (by rw [List.getElem?_append_left (List.getElem?_eq_some_iff.mp h).1]; exact h)
  | kt h e _ ih => exact .kt h e fun i v d h1 h2 => ih i v d h1 h2
  | tup h e _ ih => exact .tup ⟨h.1, fun z => (List.mem_append.mp z).elim h.2 fun z => by simp at z; exact ne_of h.1 hD (by intro q; cases q) z⟩ e fun i v d h1 h2 => ih i v d h1 h2
  | fl h e _ ih =>
    refine .fl ?_ e fun i v d h1 h2 => ih i v d h1 h2
    rcases h with ⟨⟨o, h⟩, n⟩ | h
    · exact .inl ⟨⟨o, h⟩, fun z => (List.mem_append.mp z).elim n fun z => by simp at z; exact ne_of h hD (by intro q; cases q) z⟩
    · exact .inr h
theorem reps_adopt {vs : List V} {ds : List Dv} (hD : H D = some (.lst us)) (r : Reps K μ H vs ds) : Reps K (μ ++ [D]) H vs ds := ⟨r.1, fun i v d h1 h2 => rep_adopt hD (r.2 i v d h1 h2)⟩
theorem sim_adopt {acc : List Dv} (hD : H D = some (.lst us)) (n : D ∉ μ) (r : Reps K μ H us acc) (h : SimS K μ S H) : SimS K (μ ++ [D]) (S ++ [.lst acc]) H := by
  refine ⟨by simp [h.len], List.nodup_append.mpr ⟨h.nd, by simp, fun a ha b hb => by simp at hb; subst hb; exact fun z => n (z ▸ ha)⟩, fun l a o e1 e2 => ?_⟩
  by_cases hl : l < μ.length
  · rw [List.getElem?_append_left hl] at e1
    rw [List.getElem?_append_left (by rw [← h.len]; exact hl)] at e2
    have q := h.ob l a o e1 e2
    cases o with
    | lst ds => obtain ⟨vs, g, r⟩ := q; exact ⟨vs, g, reps_adopt hD r⟩
    | dk kvs => obtain ⟨vs, g, g2, r⟩ := q; exact ⟨vs, g, g2, reps_adopt hD r⟩
    | dt kvs => obtain ⟨vs, g, g2, r⟩ := q; exact ⟨vs, g, g2, reps_adopt hD r⟩
  · have hl2 : l = μ.length := by have := (List.getElem?_eq_some_iff.mp e1).1; simp at this; omega
    subst hl2
    rw [List.getElem?_append_right (Nat.le_refl _)] at e1
    rw [List.getElem?_append_right (by rw [h.len]; exact Nat.le_refl _), h.len] at e2
    simp at e1 e2
    subst e1; subst e2
    exact ⟨us, hD, reps_adopt hD r⟩
end
section
variable {X : Cx} {W : WX} {tg iter elt : Expr} {ifs : List Expr} {scope : Scope} {own : List (Str × Nat)} {pos spos : Pos} {r : RI} {t : Tg} {rc : RT} {ry : RE}
/-- the reading of a comprehension -/
theorem comp_met {Wb : WX} {σ : L2.St} {H : Hp} {Q : VK} {vs : List Nat} (hown : ∀ i ∈ t.slots, i ∈ vs) (h : tG (Rep X.K) X.K X.mg W (eComp r t rc ry vs) σ H Q) :
    tLc (tI X.K X.mg W r) (tGt X.K t) (tG RBool X.K X.mg Wb rc) (tG (Rep X.K) X.K X.mg Wb ry) vs σ H Q := by
  obtain ⟨μ, ρ, S, hS, hE, h⟩ := h
  refine ⟨μ, ρ, S, hS, hE, ?_⟩
  unfold eComp at h
  cases q : r ρ S with
  | no => rw [q] at h; exact h.elim
  | ex x S1 => rw [q] at h; exact fun μ1 H1 cls dd a b c => h μ1 H1 cls dd a b c
  | ok w S1 =>
    rw [q] at h
    simp only [Out.bind_ok] at h
    intro μ1 H1 J hS1 s1 hJ D hD
    have hE1 := hE.step s1
    refine ⟨fun i m H' => ∃ μ' S' acc us, SimS X.K μ' S' H' ∧ D ∉ μ' ∧ H' D = some (.lst us) ∧ Reps X.K μ' H' us acc ∧ Step μ1 H1 μ' H' ∧ m = w.1.length - i ∧ i ≤ w.1.length ∧
        Met (Rep X.K) X.K X.mg (W.at σ) μ H ((compL w.2.ok t rc ry (wipeE ρ vs) (w.1.drop i) acc S').bind newL) Q,
      ⟨_, μ1, S1, [], [], hS1.lay hD _, hS1.fresh hD, upd_same, .nil, step_lay hS1 hD _, rfl, Nat.zero_le _, by rw [List.drop_zero]; exact h⟩, ?_⟩
    rintro i m H' ⟨μ', S', acc, us, hS', nD, eD, ra, s', rfl, hil, hm⟩
    by_cases hlt : i < w.1.length
    · rw [List.drop_eq_getElem_cons hlt, compL] at hm
      split at hm
      · rename_i hck
        obtain ⟨go, yl⟩ := (hJ μ' S' H' i s' hS' hck).2 w.1[i] (List.getElem?_eq_getElem hlt)
        split at hm
        · rename_i ρ1 e1
          refine .inr ⟨go, fun H5 => ∃ μ5 S5 acc5 us5, SimS X.K μ5 S5 H5 ∧ D ∉ μ5 ∧ H5 D = some (.lst us5) ∧ Reps X.K μ5 H5 us5 acc5 ∧ Step μ1 H1 μ5 H5 ∧
              Met (Rep X.K) X.K X.mg (W.at σ) μ H ((compL w.2.ok t rc ry (wipeE ρ vs) (w.1.drop (i + 1)) acc5 S5).bind newL) Q,
            fun H5 ⟨μ5, S5, acc5, us5, a1, a2, a3, a4, a5, a6⟩ => ⟨_, by omega, μ5, S5, acc5, us5, a1, a2, a3, a4, a5, rfl, hlt, a6⟩, fun x H2 y => ?_⟩
          obtain ⟨s2, hS2, rx⟩ := yl x H2 y
          refine ⟨μ', wipeE ρ vs, _, ρ1, (wipeE_rep (hE1.step s') vs).step s2, rx, e1, fun σ2 hE2 l2 n2 => ⟨?_, μ', ρ1, S', hS2, hE2, ?_⟩⟩
          · have := wipe_same (vs := vs) l2 fun j hj => n2 j fun z => hj (hown j z)
            rw [this]
            refine List.ext_getElem? fun j => ?_
            by_cases hj : j ∈ vs
            · have k : ∀ {τ : L2.St} {vs : List Nat}, j ∈ vs → j < τ.length → (wipe τ vs)[j]? = some none := by
                intro τ vs
                induction vs with
                | nil => intro h _; cases h
                | cons v vs ih =>
                  intro h hlt
                  simp only [wipe]
                  by_cases hv : v = j
                  · subst hv; rw [List.getElem?_set_self (by rw [wipe_length]; exact hlt)]
                  · rw [List.getElem?_set_ne hv]
                    rcases List.mem_cons.mp h with e | h
                    · exact absurd e.symm hv
                    · exact ih h hlt
              by_cases hlt : j < σ.length
              · rw [k hj (by rw [wipe_length]; exact hlt), k hj hlt]
              · rw [List.getElem?_eq_none (by rw [wipe_length, wipe_length]; omega), List.getElem?_eq_none (by rw [wipe_length]; omega)]
            · rw [wipe_out hj]
          · cases q2 : rc ρ1 S' with
            | no => rw [q2] at hm; exact hm.elim
            | ex x S3 => rw [q2] at hm; exact hm.elim
            | ok k S3 =>
              rw [q2] at hm
              simp only [Out.bindN_ok] at hm
              intro μ3 H3 kb hS3 s3 ek
              have ek' : kb = k := ek
              subst ek'
              have nD3 : D ∉ μ3 := s3.nin (s2.keep _ _ eD nD) nD
              have eD3 := s3.keep _ _ (s2.keep _ _ eD nD) nD
              have st3 := (s'.trans s2).trans s3
              cases kb with
              | false => exact ⟨μ3, S3, acc, us, hS3, nD3, eD3, (ra.step s2).step s3, st3, hm⟩
              | true =>
                simp only [if_true] at hm ⊢
                refine ⟨μ3, ρ1, S3, hS3, hE2.step s3, ?_⟩
                cases q3 : ry ρ1 S3 with
                | no => rw [q3] at hm; exact hm.elim
                | ex x S4 => rw [q3] at hm; exact hm.elim
                | ok z S4 =>
                  rw [q3] at hm
                  simp only [Out.bindN_ok] at hm
                  intro μ4 H4 zv hS4 s4 rz
                  have nD4 : D ∉ μ4 := s4.nin eD3 nD3
                  have eD4 := s4.keep _ _ eD3 nD3
                  have ra4 := ((ra.step s2).step s3).step s4
                  split at hm
                  · rename_i hz
                    exact ⟨us, eD4, by rw [ra4.1]; exact hz, μ4, S4, acc ++ [z], us ++ [zv], sim_priv eD4 nD4 hS4, nD4, upd_same, reps_priv eD4 (ra4.append (.one rz)), step_priv hD (st3.trans s4), hm⟩
                  · exact hm.elim
        · exact hm.elim
      · exact hm.elim
    · have e : i = w.1.length := by omega
      rw [List.drop_of_length_le (by omega), compL] at hm
      split at hm
      · rename_i hck
        refine .inl ⟨(hJ μ' S' H' i s' hS' hck).1 e, ?_⟩
        exact hm _ _ _ (sim_adopt eD nD ra hS') (s1.trans (step_open hD s')) (.ref (new_at hS' D))
      · exact hm.elim
abbrev Blk (X : Cx) (scope : Scope) (P : Cx → Prop) : Prop := ∀ (s : Shared) (H : Hp) (C : Addr) (cl : List (Str × Addr)) (fp : List Addr), P (X.blk s H scope (compEnvC scope cl C X.env) fp)
theorem se_comp (hc : X.calm = true) (hN : X.N.Nodup) (hi : SI X W tg iter r) (ok : BlkOk X.N X.env.scope scope own) (hg : Blk X scope fun Y => SG Y tg t) (ht : Blk X scope fun Y => PTs Y ifs (tG RBool X.K X.mg W rc)) (he : Blk X scope fun Y => SE Y W elt ry)
    (hown : ∀ i ∈ t.slots, i ∈ own.map (·.2)) (hs : ∀ x, foldedSetIterable iter X.env x = pure x := by intro _; rfl) : SE X W (.ListComp elt [⟨tg, iter, ifs, 0⟩] scope pos) (eComp r t rc ry (own.map (·.2))) :=
  PE.imp (pe_lc hc hN hi ok hg ht he hs) fun _ _ _ h => comp_met (ry := ry) (Wb := W) hown h
theorem sc_setComp {i : Nat} {y : Str} {py : Pos} (hc : X.calm = true) (hN : X.N.Nodup) (hy : X.N[i]? = some y) (hyl : X.env.scope.names.lookup y = some .local) (hsw : swapsWith (.ListComp elt [⟨tg, iter, ifs, 0⟩] scope pos) (some (.Name y py)) spos.line X.env = pure true)
    (hi : SI X W tg iter r) (ok : BlkOk X.N X.env.scope scope own) (hg : Blk X scope fun Y => SG Y tg t) (ht : Blk X scope fun Y => PTs Y ifs (tG RBool X.K X.mg W rc)) (he : Blk X scope fun Y => SE Y W elt ry)
    (hown : ∀ i ∈ t.slots, i ∈ own.map (·.2)) (hs : ∀ x, foldedSetIterable iter X.env x = pure x := by intro _; rfl) : SC X W (.Assign [.Name y py] (.ListComp elt [⟨tg, iter, ifs, 0⟩] scope pos) spos) (cSet i (eComp r t rc ry (own.map (·.2)))) :=
  PS.imp (ps_setLc hc hN hy hyl hsw hi ok hg ht he hs) fun D σ H ⟨μ, ρ, S, hS, hE, h⟩ => by
    refine comp_met (ry := ry) (Wb := W) hown ?_
    exact (bndS hS hE h).mono fun v H1 ⟨μ1, S1, d, hS1, hE1, s1, rv, h1⟩ => h1 μ1 _ H1 hS1 (hE1.set rv i) (.refl ..)
theorem sts_nil {Y : Cx} : PTs Y [] (tG RBool Y.K Y.mg W cYes) := ⟨fun pins s σ H Q I ⟨μ, ρ, S, hS, hE, h⟩ => pts_nil.run pins s σ H Q I (Met.ok (RP := RBool) h hS rfl)⟩
theorem sts_one {Y : Cx} {c : Expr} (h : ST Y W c rc) : PTs Y [c] (tG RBool Y.K Y.mg W rc) := pts_one h
end

/-! ### defs -/
def runF (c : RC) (m n : Nat) (ds : List Dv) (S : Sto) : Out Dv := if ds.length = n then match c (ds.map some ++ List.replicate (m - n) none) S with
  | .fl (.nx _) S' => .ok .non S'
  | .fl (.rt d) S' => .ok d S'
  | .ex x _ S' => .ex x S'
  | _ => .no else .no
section
variable {P : Program} {w : World} {K : PySem.W.Frag} {mg : Str → Option Value} {base : Heap}
theorem start_rep {μ : List Addr} {H : Hp} {N : List Str} {vs : List V} {ds : List Dv} (r : Reps K μ H vs ds) : SimE K μ H (ds.map some ++ List.replicate (N.length - ds.length) none) (L2.start N vs) := by
  unfold L2.start
  rw [r.1]
  refine ⟨by simp [r.1], fun i d hd => ?_⟩
  by_cases hi : i < ds.length
  · rw [List.getElem?_append_left (by simpa using hi)] at hd
    rw [List.getElem?_append_left (by simpa [r.1] using hi)]
    simp only [List.getElem?_map, Option.map_eq_some_iff] at hd ⊢
    obtain ⟨d', hd', e⟩ := hd
    cases e
    obtain ⟨v, hv, rv⟩ := r.get hd'
    exact ⟨v, ⟨v, hv, rfl⟩, rv⟩
  · rw [List.getElem?_append_right (by simpa using hi)] at hd
    simp only [List.getElem?_replicate] at hd
    split at hd <;> cases hd
theorem def_body {X : Cx} {E : XK} {c : RC} {N : List Str} {n : Nat} {body : List Stmt} (hb : SCs X (fun cl d _ H => E cl d H) body c) {H : Hp} {vs : List V} {Q : VK} (h : spD X.K X.mg (runF c N.length n) n vs H Q E) :
    ∃ t, PSs X body t ∧ t { nx := fun _ H' => Q .non H', rt := Q } (L2.start N vs) H := by
  obtain ⟨μ, S, ds, hn, hS, r, h⟩ := h
  refine ⟨_, hb, μ, _, S, hS, start_rep (N := N) r, ?_⟩
  unfold runF at h
  rw [if_pos hn] at h
  rw [hn]
  cases q : c (ds.map some ++ List.replicate (N.length - n) none) S with
  | no => rw [q] at h; exact h
  | ex x ρ S1 => rw [q] at h; exact fun μ1 σ1 H1 cl dd a b c d => h μ1 H1 cl dd a c d
  | fl f S1 =>
    rw [q] at h
    cases f with
    | nx ρ => exact fun μ1 σ1 H1 a b c => h μ1 H1 .non a c .non
    | rt d => exact fun μ1 v H1 a b c => h μ1 H1 v a b c
    | bk ρ => exact h.elim
    | ct ρ => exact h.elim
/-- THE RULE for a def that lets no exception out -/
theorem fn_mk {x qual : Str} {st : Stmt} {f : Addr} {fd : FuncData} {N ps : List Str} {k : Nat} {c : RC} (F : Fun K x qual st f fd) (S : FnScope N ps (defScope st))
    (hbody : ∀ (cdv : Value) (A : Around) (outer : List PySem.Env) (s : Shared) (H : Hp) (E : XK), Room k (A.deeper (envOfC qual (defScope st) s.heap.objs.size f cdv)) →
      SCs (cxOf CX0 P w K mg base N qual (defScope st) f cdv A outer s H E).nox (fun cl d _ H => E cl d H) (defBody st) c) : FnOk P w K mg base CX0 (k + 1) f fd ps (spD K mg (runF c N.length ps.length) ps.length) :=
  F.ok S (fun vs H Q E ⟨μ, S, ds, hn, hS, r, h⟩ => r.1.trans hn) fun cdv A outer s H vs Q E hr h => def_body (X := (cxOf CX0 P w K mg base N qual (defScope st) f cdv A outer s H E).nox) (hbody cdv A outer s H E hr) h
theorem pas0 {X : Cx} {W : WX} : ∀ σ, PassesAt CX0 X σ (W.at σ) := fun _ _ _ _ _ _ _ h => h.elim
/-- a promise may be said of a greater function -/
theorem fn_more {CX : CXT} {k n : Nat} {f : Addr} {fd : FuncData} {ps : List Str} {F G : List Dv → Sto → Out Dv} (h : FnOk P w K mg base CX k f fd ps (spD K mg F n)) (e : ∀ ds S, G ds S = .no ∨ G ds S = F ds S) : FnOk P w K mg base CX k f fd ps (spD K mg G n) :=
  h.imp fun vs H Q E ⟨μ, S, ds, hn, hS, r, q⟩ => ⟨μ, S, ds, hn, hS, r, by
    rcases e ds S with z | z
    · rw [z] at q; exact q.elim
    · rw [← z]; exact q⟩
end
end PL

namespace PL
open PySem PySem.Spec PyProof.Rows L2
theorem hu65 {A : Around} {k : Nat} (hr : Room k A) : A.units + 65 < cLine := by have := hr.un; omega
theorem fn_zero {P : Program} {w : World} {K : PySem.W.Frag} {mg : Str → Option Value} {base : Heap} {CX : CXT} {k n : Nat} {f : Addr} {fd : FuncData} {ps : List Str} (h : n = ps.length) : FnOk P w K mg base CX k f fd ps (spD K mg (fun _ _ => .no) n) :=
  ⟨fun vs H Q E ⟨μ, S, ds, hn, hS, r, q⟩ => q.elim, fun A outer s H args us vs Q E hr he hb hv ⟨μ, S, ds, hn, hS, r, q⟩ => q.elim⟩
theorem bt_len : bootBuiltins "len" = some (.builtin "len") := by decide +kernel
theorem bt_max : bootBuiltins "max" = some (.builtin "max") := by decide +kernel
theorem bt_min : bootBuiltins "min" = some (.builtin "min") := by decide +kernel
theorem bt_sum : bootBuiltins "sum" = some (.builtin "sum") := by decide +kernel
theorem bt_any : bootBuiltins "any" = some (.builtin "any") := by decide +kernel
theorem bt_abs : bootBuiltins "abs" = some (.builtin "abs") := by decide +kernel
theorem bt_sorted : bootBuiltins "sorted" = some (.builtin "sorted") := by decide +kernel
theorem bt_int : bootBuiltins "int" = some (.type "int") := by decide +kernel
theorem bt_list : bootBuiltins "list" = some (.type "list") := by decide +kernel
theorem bt_tuple : bootBuiltins "tuple" = some (.type "tuple") := by decide +kernel
theorem bt_str : bootBuiltins "str" = some (.type "str") := by decide +kernel
theorem bt_bool : bootBuiltins "bool" = some (.type "bool") := by decide +kernel
theorem bt_dict : bootBuiltins "dict" = some (.type "dict") := by decide +kernel
theorem bt_set : bootBuiltins "set" = some (.type "set") := by decide +kernel
end PL

namespace PL
open PySem PySem.Spec PyProof.Rows L2

/-! ### reckoning with outcomes -/
section
variable {ρ ρ' : Env} {S S' S1 : Sto} {a b c : RE} {x y d e : Dv} {ra rb : RC} {ta tb : RT}
theorem ev_var (i : Nat) : eVar i ρ S = match ρ[i]? with | some (some d) => .ok d S | _ => .no := .trans rfl rfl
theorem ev_con : eCon d ρ S = .ok d S := .trans rfl rfl
theorem ev_bin (f : Dv → Dv → Sto → Out Dv) : eBin f a b ρ S = (a ρ S).bind fun x S1 => (b ρ S1).bind fun y S2 => f x y S2 := .trans rfl rfl
theorem ev_un (f : Dv → Sto → Out Dv) : eUn f a ρ S = (a ρ S).bind f := .trans rfl rfl
theorem ev_anil : aNil ρ S = .ok [] S := .trans rfl rfl
theorem ev_acons (r : RE) (t : RA) : aCons r t ρ S = (r ρ S).bind fun d S1 => (t ρ S1).bind fun ds S2 => .ok (d :: ds) S2 := .trans rfl rfl
theorem ev_call (f : List Dv → Sto → Out Dv) (a : RA) : eCall f a ρ S = (a ρ S).bind f := .trans rfl rfl
theorem ev_tup (a : RA) : eTup a ρ S = (a ρ S).bind fun ds S1 => if ds.length ≤ sizeLine then .ok (.tup ds) S1 else .no := .trans rfl rfl
theorem ev_lst (a : RA) : eLst a ρ S = (a ρ S).bind fun ds S1 => if ds.length ≤ sizeLine then .ok (.ref S1.length) (S1 ++ [.lst ds]) else .no := .trans rfl rfl
theorem ev_not : eNot a ρ S = (a ρ S).bind fun d S1 => match d with | .bl b => .ok (.bl (!b)) S1 | _ => .no := .trans rfl rfl
theorem ev_and : eAnd a b ρ S = (a ρ S).bind fun d S1 => match d with | .bl true => b ρ S1 | .bl false => .ok (.bl false) S1 | _ => .no := .trans rfl rfl
theorem ev_or : eOr a b ρ S = (a ρ S).bind fun d S1 => match d with | .bl true => .ok (.bl true) S1 | .bl false => b ρ S1 | _ => .no := .trans rfl rfl
theorem ev_if : eIf ta a b ρ S = (ta ρ S).bind fun t S1 => if t = true then a ρ S1 else b ρ S1 := .trans rfl rfl
theorem ev_cbl : cBl a ρ S = (a ρ S).bind bTrue := .trans rfl rfl
theorem ev_btrue (b : Bool) : bTrue (.bl b) S = .ok b S := .trans rfl rfl
theorem ev_cand : cAnd ta tb ρ S = (ta ρ S).bind fun t S1 => if t = true then tb ρ S1 else .ok false S1 := .trans rfl rfl
theorem ev_cor : cOr ta tb ρ S = (ta ρ S).bind fun t S1 => if t = true then .ok true S1 else tb ρ S1 := .trans rfl rfl
theorem ev_cnot : cNot ta ρ S = (ta ρ S).bind fun t S1 => .ok (!t) S1 := .trans rfl rfl
theorem ev_sli (l h : RO) : eSli a l h ρ S = (a ρ S).bind fun d S1 => (l ρ S1).bind fun lo S2 => (h ρ S2).bind fun hi S3 => sliD d lo hi S3 := .trans rfl rfl
theorem ev_onone : oNone ρ S = .ok none S := .trans rfl rfl
theorem ev_osome : oSome a ρ S = (a ρ S).bind fun d S1 => match d with | .int i => .ok (some i) S1 | _ => .no := .trans rfl rfl
theorem ev_chain (f g : Dv → Dv → Sto → Out Dv) : eChain f g a b c ρ S = (a ρ S).bind fun x S1 => (b ρ S1).bind fun y S2 => (f x y S2).bind fun z S3 => match z with
  | .bl true => (c ρ S3).bind fun w S4 => g y w S4
  | .bl false => .ok (.bl false) S3
  | _ => .no := .trans rfl rfl
theorem ev_meth (T : String) (f : Dv → List Dv → Sto → Out Dv) (a' : RA) : eMeth T f a a' ρ S = (a ρ S).bind fun d S1 => if tyQ T d S1 = true then (a' ρ S1).bind fun ds S2 => f d ds S2 else .no := .trans rfl rfl
theorem ev_get2 : eGet2 a b c ρ S = (a ρ S).bind fun d S1 => if tyQ "dict" d S1 = true then (b ρ S1).bind fun y S2 => (c ρ S2).bind fun z S3 => getD2 d [y, z] S3 else .no := .trans rfl rfl
theorem ev_newK : eNewK ρ S = .ok (.ref S.length) (S ++ [.dk []]) := .trans rfl rfl
theorem ev_newT : eNewT ρ S = .ok (.ref S.length) (S ++ [.dt []]) := .trans rfl rfl
theorem ev_own (n : Nat) (F : List Dv → Sto → Out Dv) (a : RA) : eOwn n F a ρ S = (a ρ S).bind fun ds S1 => if ds.length = n then F ds S1 else .no := .trans rfl rfl
theorem ev_nil : cNil ρ S = .fl (.nx ρ) S := .trans rfl rfl
theorem ev_seq : cSeq ra rb ρ S = match ra ρ S with | .fl (.nx ρ') S' => rb ρ' S' | o => o := .trans rfl rfl
theorem ev_expr : cExpr a ρ S = bindS (a ρ S) ρ fun _ S1 => .fl (.nx ρ) S1 := .trans rfl rfl
theorem ev_set (i : Nat) : cSet i a ρ S = bindS (a ρ S) ρ fun d S1 => .fl (.nx (ρ.set i (some d))) S1 := .trans rfl rfl
theorem ev_ret : cRet a ρ S = bindS (a ρ S) ρ fun d S1 => .fl (.rt d) S1 := .trans rfl rfl
theorem ev_retN : cRetN ρ S = .fl (.rt .non) S := .trans rfl rfl
theorem ev_cif : cIf ta ra rb ρ S = bindS (ta ρ S) ρ fun c S1 => if c = true then ra ρ S1 else rb ρ S1 := .trans rfl rfl
theorem ev_brk : cBrk ρ S = .fl (.bk ρ) S := .trans rfl rfl
theorem ev_ct : cCt ρ S = .fl (.ct ρ) S := .trans rfl rfl
theorem ev_asg (t : Tg) : cAsg t a ρ S = bindS (a ρ S) ρ fun d S1 => match t.set d ρ with | some ρ' => .fl (.nx ρ') S1 | none => .no := .trans rfl rfl
theorem ev_put : cPut a b c ρ S = bindS (c ρ S) ρ fun d S1 => bindS (a ρ S1) ρ fun x S2 => bindS (b ρ S2) ρ fun y S3 => match putD x y d S3 with | some S4 => .fl (.nx ρ) S4 | none => .no := .trans rfl rfl
theorem ev_aug (i : Nat) (f : Dv → Dv → Sto → Out Dv) : cAug i f a ρ S = bindS (eBin f (eVar i) a ρ S) ρ fun d S1 => .fl (.nx (ρ.set i (some d))) S1 := .trans rfl rfl
theorem ev_for (r : RI) (t : Tg) : cFor r t ra ρ S = bindS (r ρ S) ρ fun w S1 => loop w.2.ok t ra w.1 ρ S1 := .trans rfl rfl
theorem ev_comp (r : RI) (t : Tg) (c : RT) (y : RE) (vs : List Nat) : eComp r t c y vs ρ S = (r ρ S).bind fun w S1 => (compL w.2.ok t c y (wipeE ρ vs) w.1 [] S1).bind newL := .trans rfl rfl
theorem ev_newL (ds : List Dv) : newL ds S = .ok (.ref S.length) (S ++ [.lst ds]) := .trans rfl rfl
theorem ev_iseq : iSeq a ρ S = (a ρ S).bind fun d S1 => match walkD d S1 with | some w => .ok w S1 | none => .no := .trans rfl rfl
theorem ev_irange (f : List Dv → Option (List Dv)) (a : RA) : iRange f a ρ S = (a ρ S).bind fun ds S1 => match f ds with | some w => .ok (w, .tt) S1 | none => .no := .trans rfl rfl
theorem ev_ienum (a : RA) : iEnum a ρ S = (a ρ S).bind fun ds S1 => match ds with
  | [d] => match lstOf S1 d with
    | some xs => .ok (enumL xs, ckOf d xs) S1
    | none => .no
  | _ => .no := .trans rfl rfl
theorem ev_yes : cYes ρ S = .ok true S := .trans rfl rfl

/-! ### loops by an invariant -/
theorem loop_gen {ck : Sto → Prop} [∀ S, Decidable (ck S)] {t : Tg} {b : RC} (I : Nat → Env → Sto → Prop) (D : OutS → Prop) (ds : List Dv) (n : Nat)
    (hs : ∀ i d ρ S, ds[i]? = some d → I (n + i) ρ S → ck S ∧ ∃ ρ1, t.set d ρ = some ρ1 ∧ ((∃ ρ2 S2, (b ρ1 S = .fl (.nx ρ2) S2 ∨ b ρ1 S = .fl (.ct ρ2) S2) ∧ I (n + i + 1) ρ2 S2) ∨ (∃ ρ2 S2, b ρ1 S = .fl (.bk ρ2) S2 ∧ D (.fl (.nx ρ2) S2)) ∨ (∃ e S2, b ρ1 S = .fl (.rt e) S2 ∧ D (.fl (.rt e) S2))))
    (he : ∀ ρ S, I (n + ds.length) ρ S → ck S ∧ D (.fl (.nx ρ) S)) (ρ : Env) (S : Sto) (h0 : I n ρ S) : D (loop ck t b ds ρ S) := by
  induction ds generalizing n ρ S with
  | nil =>
    obtain ⟨h1, h2⟩ := he ρ S h0
    rw [loop, if_pos h1]; exact h2
  | cons d ds ih =>
    obtain ⟨hc, ρ1, e1, h⟩ := hs 0 d ρ S rfl h0
    have ih2 : ∀ ρ S, I (n + 1) ρ S → D (loop ck t b ds ρ S) := fun ρ S hI => ih (n + 1)
      (fun i d' ρ S hd hI => by
        have := hs (i + 1) d' ρ S (by simpa using hd) (by rw [show n + (i + 1) = n + 1 + i by omega]; exact hI)
        rw [show n + (i + 1) + 1 = n + 1 + i + 1 by omega] at this
        exact this)
      (fun ρ S hI => he ρ S (by rw [List.length_cons, show n + (ds.length + 1) = n + 1 + ds.length by omega]; exact hI)) ρ S hI
    rw [loop, if_pos hc, e1]
    rcases h with ⟨ρ2, S2, h | h, hI⟩ | ⟨ρ2, S2, h, hD⟩ | ⟨e, S2, h, hD⟩
    · simp only [h]; exact ih2 ρ2 S2 hI
    · simp only [h]; exact ih2 ρ2 S2 hI
    · simp only [h]; exact hD
    · simp only [h]; exact hD
/-- a loop that runs to its end -/
theorem loop_all {ck : Sto → Prop} [∀ S, Decidable (ck S)] {t : Tg} {b : RC} (I : Nat → Env → Sto → Prop) (ds : List Dv) {ρ : Env} {S : Sto} (h0 : I 0 ρ S)
    (hs : ∀ i d ρ S, ds[i]? = some d → I i ρ S → ck S ∧ ∃ ρ1, t.set d ρ = some ρ1 ∧ ∃ ρ2 S2, (b ρ1 S = .fl (.nx ρ2) S2 ∨ b ρ1 S = .fl (.ct ρ2) S2) ∧ I (i + 1) ρ2 S2)
    (he : ∀ ρ S, I ds.length ρ S → ck S) : ∃ ρ' S', loop ck t b ds ρ S = .fl (.nx ρ') S' ∧ I ds.length ρ' S' := by
  refine loop_gen (t := t) (b := b) I (fun o => ∃ ρ' S', o = .fl (.nx ρ') S' ∧ I ds.length ρ' S') ds 0 (fun i d ρ S hd hI => ?_) (fun ρ S hI => ?_) ρ S h0
  · rw [Nat.zero_add] at hI ⊢
    obtain ⟨a, ρ1, b, c⟩ := hs i d ρ S hd hI
    exact ⟨a, ρ1, b, .inl c⟩
  · rw [Nat.zero_add] at hI
    exact ⟨he ρ S hI, ρ, S, rfl, hI⟩
theorem comp_gen {ck : Sto → Prop} [∀ S, Decidable (ck S)] {t : Tg} {c : RT} {y : RE} (I : Nat → List Dv → Sto → Prop) (ds : List Dv) (ρ : Env)
    (hs : ∀ i d acc S, ds[i]? = some d → I i acc S → ck S ∧ ∃ ρ1, t.set d ρ = some ρ1 ∧ ∃ k S1, c ρ1 S = .ok k S1 ∧ (k = true → ∃ z S2, y ρ1 S1 = .ok z S2 ∧ acc.length < sizeLine ∧ I (i + 1) (acc ++ [z]) S2) ∧ (k = false → I (i + 1) acc S1))
    (he : ∀ acc S, I ds.length acc S → ck S) {acc : List Dv} {S : Sto} (h0 : I 0 acc S) : ∃ acc' S', compL ck t c y ρ ds acc S = .ok acc' S' ∧ I ds.length acc' S' := by
  suffices H : ∀ (rest : List Dv) (n : Nat) (acc : List Dv) (S : Sto), n + rest.length = ds.length → ds.drop n = rest → I n acc S → ∃ acc' S', compL ck t c y ρ rest acc S = .ok acc' S' ∧ I ds.length acc' S' from H ds 0 acc S (by simp) rfl h0
  intro rest
  induction rest with
  | nil =>
    intro n acc S hn _ hI
    have : n = ds.length := by simpa using hn
    subst this
    rw [compL, if_pos (he acc S hI)]
    exact ⟨_, _, rfl, hI⟩
  | cons d rest ih =>
    intro n acc S hn hd hI
    have hdn : ds[n]? = some d := by
      have : (ds.drop n)[0]? = some d := by rw [hd]; rfl
      simpa using this
    have hd2 : ds.drop (n + 1) = rest := by rw [← List.drop_drop, hd]; rfl
    obtain ⟨hc, ρ1, e1, k, S1, e2, h1, h2⟩ := hs n d acc S hdn hI
    rw [compL, if_pos hc, e1]
    simp only [e2, Out.bindN_ok]
    cases k with
    | true =>
      obtain ⟨z, S2, e3, hl, hI2⟩ := h1 rfl
      simp only [if_true, e3, Out.bindN_ok, if_pos hl]
      exact ih (n + 1) _ S2 (by rw [List.length_cons] at hn; omega) hd2 hI2
    | false => exact ih (n + 1) _ S1 (by rw [List.length_cons] at hn; omega) hd2 (h2 rfl)
end
/-! ### stores -/
/-- what stood stands, but at the places P -/
structure Fr (P : Nat → Prop) (S S' : Sto) : Prop where
  le : S.length ≤ S'.length
  get : ∀ (l : Nat) (o : Ob), S[l]? = some o → ¬ P l → S'[l]? = some o
abbrev Gr (S S' : Sto) : Prop := Fr (fun _ => False) S S'
theorem Fr.refl {P : Nat → Prop} (S : Sto) : Fr P S S := ⟨Nat.le_refl _, fun _ _ h _ => h⟩
theorem Fr.trans {P : Nat → Prop} {S S1 S2 : Sto} (h : Fr P S S1) (t : Fr P S1 S2) : Fr P S S2 := ⟨Nat.le_trans h.le t.le, fun l o e n => t.get l o (h.get l o e n) n⟩
theorem Fr.imp {P P' : Nat → Prop} {S S1 : Sto} (h : Fr P S S1) (i : ∀ l, l < S.length → P l → P' l) : Fr P' S S1 := ⟨h.le, fun l o e n => h.get l o e fun z => n (i l (List.getElem?_eq_some_iff.mp e).1 z)⟩
theorem Gr.any {P : Nat → Prop} {S S1 : Sto} (h : Gr S S1) : Fr P S S1 := h.imp fun _ _ z => z.elim
theorem Gr.at {S S1 : Sto} (h : Gr S S1) {l : Nat} {o : Ob} (e : S[l]? = some o) : S1[l]? = some o := h.get l o e id
theorem gr_app (S T : Sto) : Gr S (S ++ T) := ⟨by simp, fun l o e _ => by rw [List.getElem?_append_left (List.getElem?_eq_some_iff.mp e).1]; exact e⟩
theorem at_new (S : Sto) (o : Ob) : (S ++ [o])[S.length]? = some o := by simp
theorem fr_set (S : Sto) (l : Nat) (o : Ob) : Fr (· = l) S (S.set l o) := ⟨by simp, fun m u e n => by rw [List.getElem?_set_ne (fun z => n z.symm)]; exact e⟩
theorem at_set {S : Sto} {l : Nat} {o u : Ob} (e : S[l]? = some u) : (S.set l o)[l]? = some o := List.getElem?_set_self (List.getElem?_eq_some_iff.mp e).1
theorem lt_of_at {S : Sto} {l : Nat} {u : Ob} (e : S[l]? = some u) : l < S.length := (List.getElem?_eq_some_iff.mp e).1
theorem ne_new {S : Sto} {l : Nat} {u : Ob} (e : S[l]? = some u) : l ≠ S.length := Nat.ne_of_lt (lt_of_at e)
end PL
namespace PL
open PySem PySem.Spec PyProof.Rows L2
theorem fn_def {P : Program} {w : World} {K : PySem.W.Frag} {mg : Str → Option Value} {base : Heap} {x qual : Str} {st : Stmt} {f : Addr} {fd : FuncData} {N ps : List Str} {k m n : Nat} {c : RC} {G : List Dv → Sto → Out Dv} (F : Fun K x qual st f fd) (S : FnScope N ps (defScope st)) (hG : G = runF c m n) (hm : N.length = m) (hn : ps.length = n)
    (hbody : ∀ (cdv : Value) (A : Around) (outer : List PySem.Env) (s : Shared) (H : Hp) (E : XK), Room k (A.deeper (envOfC qual (defScope st) s.heap.objs.size f cdv)) →
      SCs (cxOf CX0 P w K mg base N qual (defScope st) f cdv A outer s H E).nox (fun cl d _ H => E cl d H) (defBody st) c) : FnOk P w K mg base CX0 (k + 1) f fd ps (spD K mg G n) := by
  subst hG hm hn
  exact fn_mk F S hbody
end PL
namespace PL
open PySem PySem.Spec PyProof.Rows L2
section
variable {X : Cx} {W : WX} {tg iter elt : Expr} {ifs : List Expr} {scope : Scope} {own : List (Str × Nat)} {pos spos : Pos} {r : RI} {t : Tg} {rc : RT} {ry : RE} {vs : List Nat}
theorem se_compB (own : List (Str × Nat)) (hc : X.calm = true) (hN : X.N.Nodup) (hi : SI X W tg iter r) (ok : BlkOk X.N X.env.scope scope own) (hg : Blk X scope fun Y => SG Y tg t) (ht : Blk X scope fun Y => PTs Y ifs (tG RBool X.K X.mg W rc)) (he : Blk X scope fun Y => SE Y W elt ry)
    (hv : vs = own.map (·.2)) (hown : ∀ i ∈ t.slots, i ∈ own.map (·.2)) (hs : ∀ x, foldedSetIterable iter X.env x = pure x := by intro _; rfl) : SE X W (.ListComp elt [⟨tg, iter, ifs, 0⟩] scope pos) (eComp r t rc ry vs) := by
  subst hv; exact se_comp hc hN hi ok hg ht he hown hs
theorem sc_setCompB {i : Nat} {y : Str} {py : Pos} (own : List (Str × Nat)) (hc : X.calm = true) (hN : X.N.Nodup) (hy : X.N[i]? = some y) (hyl : X.env.scope.names.lookup y = some .local) (hsw : swapsWith (.ListComp elt [⟨tg, iter, ifs, 0⟩] scope pos) (some (.Name y py)) spos.line X.env = pure true)
    (hi : SI X W tg iter r) (ok : BlkOk X.N X.env.scope scope own) (hg : Blk X scope fun Y => SG Y tg t) (ht : Blk X scope fun Y => PTs Y ifs (tG RBool X.K X.mg W rc)) (he : Blk X scope fun Y => SE Y W elt ry)
    (hv : vs = own.map (·.2)) (hown : ∀ i ∈ t.slots, i ∈ own.map (·.2)) (hs : ∀ x, foldedSetIterable iter X.env x = pure x := by intro _; rfl) : SC X W (.Assign [.Name y py] (.ListComp elt [⟨tg, iter, ifs, 0⟩] scope pos) spos) (cSet i (eComp r t rc ry vs)) := by
  subst hv; exact sc_setComp hc hN hy hyl hsw hi ok hg ht he hown hs
end
end PL
namespace PL
open PySem PySem.Spec PyProof.Rows L2
/-! ### the end -/
theorem walk_law {l : PySem.W.OpenLaw} {q : Program} {loose : List Str} {XP : (Str → Option Value) → Heap → Prop} {YP : World → Heap → Prop} {d : DefRec} {K : Params → PySem.W.Frag} {k : Nat} {x : Str} {G : List Dv → Sto → Out Dv} (hn : l.most = some 63) (hdf : d.params.defaults = []) (hr : Room k callerA)
    (hY : ∀ (w : World) (h : Heap), YP w h → (K w.params).In h)
    (hG : ∀ ns : List Int, ns.length ≤ 63 → ∃ S, G [.fl (ns.map .int)] [] = .ok (.bl true) S)
    (FF : ∀ (w : World) (mg : Str → Option Value) (fa : Addr) (h : Heap), (K w.params).In h → h.Ns mainGlobals mg → mg d.name = some (.ref fa) →
      ∃ fd : FuncData, (∀ (s : Shared) (u : Value), BindsTo s fd ⟨[u], []⟩ [(x, u)]) ∧ ∀ base : Heap, (K w.params).In base → base.Ns mainGlobals mg → FnOk l.prog w (K w.params) mg base CX0 k fa fd [x] (spD (K w.params) mg G 1)) :
    PySem.W.WalkO q loose XP YP l.row.toRowW d [] (fun f vs => PySem.call f vs) := by
  refine L2.walk_of (n := 63) (k := k) (x := x) (CX := fun _ => CX0) (sp := fun w vs H Q _ => ∃ (a : Addr) (ns : List Int), vs = [.ref a] ∧ SqL (K w.params) H a (ns.map V.int) ∧ ns.length ≤ 63 ∧ Only H ∧ ∀ H', Q (.bl true) H') hn (by decide) hdf hr hY ?_ (fun _ _ a ns hl ho hS => ⟨a, ns, rfl, hS, hl, ho, fun _ => rfl⟩) fun _ _ _ _ _ z => z
  intro w mg fa h hK hNs hmg
  obtain ⟨fd, h1, h2⟩ := FF w mg fa h hK hNs hmg
  refine ⟨fd, h1, fun base hb hn => (h2 base hb hn).imp ?_⟩
  rintro vs H Q E ⟨a, ns, rfl, hS, hl, ho, hQ⟩
  obtain ⟨S', e⟩ := hG ns hl
  refine ⟨[], [], [.fl (ns.map .int)], rfl, ⟨rfl, List.nodup_nil, fun l a o z => by simp at z⟩, Reps.one ?_, ?_⟩
  · refine Rep.fl (vs := ns.map V.int) ?_ (by simp) (fun i v d h1 h2 => ?_)
    · rcases hS with h | ⟨o, its, n, h⟩
      · left
        refine ⟨?_, by simp⟩
        rcases h with h | h
        · rcases ho a with z | ⟨o, xs, z⟩
          · rw [z] at h; cases h
          · rw [z] at h; cases h
        · exact h
      · exact .inr ⟨o, its, n, h⟩
    · rw [List.getElem?_map] at h1 h2
      cases q : ns[i]? with
      | none => rw [q] at h1; cases h1
      | some j =>
        rw [q] at h1 h2
        cases h1; cases h2
        exact .int j
  · rw [e]
    intro μ1 H1 v _ _ rv
    cases rv with
    | bl b => exact hQ H1
end PL
namespace PL
open PySem PySem.Spec PyProof.Rows L2
theorem runF_rt {c : RC} {m n : Nat} {ds : List Dv} {S S' : Sto} {d : Dv} {ρ : Env} (hρ : ds.map some ++ List.replicate (m - n) none = ρ) (hn : ds.length = n) (h : c ρ S = .fl (.rt d) S') : runF c m n ds S = .ok d S' := by
  unfold runF
  rw [if_pos hn, hρ, h]
theorem runF_nx {c : RC} {m n : Nat} {ds : List Dv} {S S' : Sto} {ρ ρ' : Env} (hρ : ds.map some ++ List.replicate (m - n) none = ρ) (hn : ds.length = n) (h : c ρ S = .fl (.nx ρ') S') : runF c m n ds S = .ok .non S' := by
  unfold runF
  rw [if_pos hn, hρ, h]
end PL

namespace PL
open PySem PySem.Spec PyProof.Rows L2
section
variable {S S' : Sto} {d x y : Dv} {ds xs : List Dv}
theorem Fr.then {P Q : Nat → Prop} {S S1 S2 : Sto} (g : Fr P S S1) (f : Fr Q S1 S2) (h : ∀ l, Q l → l < S.length → P l) : Fr P S S2 := ⟨Nat.le_trans g.le f.le, fun l o e n => f.get l o (g.get l o e n) fun q => n (h l q (List.getElem?_eq_some_iff.mp e).1)⟩
theorem Gr.new {Q : Nat → Prop} {S S1 S2 : Sto} (g : Gr S S1) (f : Fr Q S1 S2) (h : ∀ l, Q l → S.length ≤ l) : Gr S S2 := Fr.then g f fun l q hl => absurd (h l q) (by omega)
theorem lst_gr (g : Gr S S') (h : lstOf S d = some ds) : lstOf S' d = some ds := by
  cases d with
  | fl => exact h
  | ref l =>
    simp only [lstOf] at h ⊢
    split at h
    · rename_i q; rw [g.at q]; exact h
    · cases h
  | _ => cases h
theorem lst_ref {l : Nat} (h : S[l]? = some (.lst ds)) : lstOf S (.ref l) = some ds := by simp only [lstOf, h]
theorem tup_lst (h : lstOf S d = some ds) : tupOf d = none := by cases d <;> first | rfl | cases h
theorem seq_lst (h : lstOf S d = some ds) : seqOf S d = some ds := by rw [seqOf, tup_lst h, h]
theorem len_seq (h : seqOf S d = some ds) : lenD [d] S = .ok (.int ds.length) S := by
  cases d with
  | str x => cases h
  | _ => simp only [lenD, h]
theorem len_lst (h : lstOf S d = some ds) : lenD [d] S = .ok (.int ds.length) S := len_seq (seq_lst h)
theorem len_ref {l : Nat} (h : S[l]? = some (.lst ds)) : lenD [.ref l] S = .ok (.int ds.length) S := len_lst (lst_ref h)
theorem len_tup : lenD [.tup ds] S = .ok (.int ds.length) S := len_seq rfl
theorem idx_lst (h : lstOf S d = some ds) {i : Int} (e : atI ds i = some x) : idxD d (.int i) S = .ok x S := by
  cases d with
  | str => cases h
  | _ => simp only [idxD, tup_lst h, h, e]
theorem idx_ref {l : Nat} (h : S[l]? = some (.lst ds)) {i : Int} (e : atI ds i = some x) : idxD (.ref l) (.int i) S = .ok x S := idx_lst (lst_ref h) e
theorem idx_tup {i : Int} (e : atI ds i = some x) : idxD (.tup ds) (.int i) S = .ok x S := by simp only [idxD, tupOf, e]
theorem atI_nat {α : Type} {xs : List α} {i : Nat} {a : α} (e : xs[i]? = some a) : atI xs (i : Int) = some a := by
  have h := (List.getElem?_eq_some_iff.mp e).1
  unfold atI ixN
  rw [if_pos (by omega), if_pos (by omega)]
  simpa using e
theorem atI_last {α : Type} {xs : List α} {a : α} : atI (xs ++ [a]) (-1) = some a := by
  unfold atI ixN
  rw [if_neg (by omega), if_pos (by simp; omega)]
  simp only [List.length_append, List.length_cons, List.length_nil, Option.bind_some]
  rw [show (-1 + ((xs.length + (0 + 1) : Nat) : Int)).toNat = xs.length by omega]
  simp
theorem idx_last {l : Nat} (h : S[l]? = some (.lst (xs ++ [x]))) : idxD (.ref l) (.int (-1)) S = .ok x S := idx_ref h atI_last
theorem idx_t0 {a : Dv} : idxD (.tup (a :: ds)) (.int 0) S = .ok a S := idx_tup (atI_nat (i := 0) rfl)
theorem idx_t1 {a b : Dv} : idxD (.tup (a :: b :: ds)) (.int 1) S = .ok b S := idx_tup (atI_nat (i := 1) rfl)
theorem idx_t2 {a b c : Dv} : idxD (.tup (a :: b :: c :: ds)) (.int 2) S = .ok c S := idx_tup (atI_nat (i := 2) rfl)
theorem idx_t3 {a b c e : Dv} : idxD (.tup (a :: b :: c :: e :: ds)) (.int 3) S = .ok e S := idx_tup (atI_nat (i := 3) rfl)
theorem atI_mod {α : Type} {xs : List α} (h : xs ≠ []) (i : Int) : ∃ a, a ∈ xs ∧ atI xs (i % (xs.length : Int)) = some a := by
  have hp : 0 < xs.length := List.length_pos_iff.mpr h
  have h1 := Int.emod_nonneg i (b := (xs.length : Int)) (by omega)
  have h2 := Int.emod_lt_of_pos i (b := (xs.length : Int)) (by omega)
  obtain ⟨j, hj⟩ := Int.eq_ofNat_of_zero_le h1
  have hl : j < xs.length := by omega
  exact ⟨xs[j], List.getElem_mem hl, by rw [hj]; exact atI_nat (List.getElem?_eq_getElem hl)⟩
theorem rangeL_get {lo hi : Int} {i : Nat} (h : (rangeL lo hi)[i]? = some d) : d = .int (lo + i) ∧ lo + i < hi := by
  unfold rangeL at h
  rw [List.getElem?_map] at h
  obtain ⟨j, hj, e⟩ := Option.map_eq_some_iff.mp h
  obtain ⟨hl, e2⟩ := List.getElem?_eq_some_iff.mp hj
  simp at hl e2
  subst e2
  exact ⟨e.symm, by omega⟩
theorem rangeL_len (lo hi : Int) : (rangeL lo hi).length = (hi - lo).toNat := by unfold rangeL; simp
theorem rok_of {i : Int} (h : 0 ≤ i) (h2 : i < 2 ^ 62) : rok i = true := by unfold rok; exact @decide_eq_true _ (Classical.propDecidable _) ⟨by omega, h2⟩
theorem rng1_of {i : Int} (h : 0 ≤ i) (h2 : i < 2 ^ 62) : rng1 [.int i] = some (rangeL 0 i) := by simp only [rng1]; rw [if_pos (rok_of h h2)]
theorem app_ref {l : Nat} (h : S[l]? = some (.lst ds)) (hl : ds.length < sizeLine) : appendD (.ref l) [x] S = .ok .non (S.set l (.lst (ds ++ [x]))) := by simp only [appendD, lmap, h, if_pos hl]
theorem pop_ref {l : Nat} (h : S[l]? = some (.lst (ds ++ [x]))) : popD (.ref l) [] S = .ok x (S.set l (.lst ds)) := by
  simp only [popD, lmap, h]
  simp
theorem tyq_ref {l : Nat} (h : S[l]? = some (.lst ds)) : tyQ "list" (.ref l) S = true := by simp only [tyQ, h]; rfl
theorem list_ref {l : Nat} (h : S[l]? = some (.lst ds)) : listD [.ref l] S = newL ds S := by simp only [listD, seq_lst (lst_ref h)]
theorem tuple_ref {l : Nat} (h : S[l]? = some (.lst ds)) : tupleD [.ref l] S = .ok (.tup ds) S := by simp only [tupleD, lst_ref h]
theorem walk_ref {l : Nat} (h : S[l]? = some (.lst ds)) : walkD (.ref l) S = some (ds, .ls l ds) := by simp only [walkD, seq_lst (lst_ref h)]; rfl
theorem walk_tup : walkD (.tup ds) S = some (ds, .tt) := by simp only [walkD, seqOf, tupOf]; rfl
theorem sline (n : Nat) (h : n ≤ 16777216) : n ≤ sizeLine := h
end

/-! ### the law's draws -/
section
noncomputable def drawsB : RC := cSeq (cSet 4 (eCon (.int 0))) (cSeq (cIf (cBl (eBin gtD (eCall lenD (aCons (eVar 0) (aNil))) (eCon (.int 0)))) (cSet 4 (eBin modD (eBin idxD (eVar 0) (eBin modD (eVar 3) (eCall lenD (aCons (eVar 0) (aNil))))) (eBin powD (eCon (.int 10)) (eCon (.int 18))))) (cNil)) (cExpr (eMeth "list" appendD (eVar 2) (aCons (eBin addD (eVar 4) (eBin mulD (eCon (.int 7919)) (eBin fdivD (eVar 3) (eCall max2D (aCons (eCon (.int 1)) (aCons (eCall lenD (aCons (eVar 0) (aNil))) (aNil))))))) (aNil)))))
noncomputable def drawsC : RC := cSeq (cSet 2 (eLst (aNil))) (cSeq (cFor (iRange rng1 (aCons (eVar 1) (aNil))) (.nm 3) drawsB) (cRet (eVar 2)))
variable {S S' : Sto} {d : Dv}
theorem draws_run {ns : List Int} {n : Nat} (hd : lstOf S d = some (ns.map .int)) (hn : n ≤ 1000) (hl : ns.length ≤ 63) : ∃ (l : Nat) (xs : List Int) (S' : Sto), runF drawsC 5 2 [d, .int n] S = .ok (.ref l) S' ∧ Gr S S' ∧ S.length ≤ l ∧ S'[l]? = some (.lst (xs.map .int)) ∧ xs.length = n ∧ ∀ x ∈ xs, 0 ≤ x ∧ x < 2 ^ 62 := by
  have h10 : CPow 10 18 := ⟨by omega, by omega, by omega⟩
  refine (loop_all (ck := Ck.tt.ok) (t := .nm 3) (b := drawsB) (S := S ++ [.lst []]) (ρ := [some d, some (.int n), some (.ref S.length), none, none])
    (fun i ρ S' => ∃ (v3 v4 : Option Dv) (xs : List Int), ρ = [some d, some (.int n), some (.ref S.length), v3, v4] ∧ Gr S S' ∧ S'[S.length]? = some (.lst (xs.map .int)) ∧ xs.length = i ∧ ∀ x ∈ xs, (0 : Int) ≤ x ∧ x < 2 ^ 62) (rangeL 0 n)
    ⟨none, none, [], rfl, gr_app _ _, at_new _ _, rfl, by simp⟩ ?_ (fun _ _ _ => trivial)).elim fun ρ' ⟨S', e, v3, v4, xs, hρ, g, h1, h2, h3⟩ => ?_
  rotate_left
  · subst hρ
    refine ⟨S.length, xs, S', ?_, g, Nat.le_refl _, h1, by rw [h2, rangeL_len]; omega, h3⟩
    refine runF_rt (ρ := [some d, some (.int n), none, none, none]) rfl rfl ?_
    simp only [drawsC, ev_var, ev_con, ev_bin, ev_un, ev_anil, ev_acons, ev_call, ev_tup, ev_lst, ev_not, ev_and, ev_or, ev_if, ev_cbl, ev_btrue, ev_cand, ev_cor, ev_cnot, ev_sli, ev_onone, ev_osome, ev_chain, ev_meth, ev_get2, ev_newK, ev_newT, ev_own, ev_nil, ev_seq, ev_expr, ev_set, ev_ret, ev_retN, ev_cif, ev_brk, ev_ct, ev_asg, ev_put, ev_aug, ev_for, ev_comp, ev_newL, ev_iseq, ev_irange, ev_ienum, ev_yes, Out.bind_ok, Out.bindN_ok, bindS_ok, Tg.set, Tg.sets, List.getElem?_cons_zero, List.getElem?_cons_succ, List.set_cons_zero, List.set_cons_succ, wipeE, List.length_cons, List.length_nil, Nat.reduceAdd, Nat.reduceLeDiff, Nat.reduceEqDiff, ↓reduceIte, Bool.false_eq_true, decide_eq_true_eq, addD, subD, mulD, fdivD, modD, powD, negD, ltD, leD, gtD, geD, andD, orD, xorD, max2D, min2D, Nat.zero_le, rng1_of (i := (n : Int)) (by omega) (by omega), e]
  · rintro i v ρ S1 hv ⟨v3, v4, xs, rfl, g, h1, h2, h3⟩
    obtain ⟨rfl, hlt⟩ := rangeL_get hv
    refine ⟨trivial, _, rfl, ?_⟩
    have hd1 := lst_gr g hd
    have hlen : (xs.map Dv.int).length < sizeLine := by rw [List.length_map]; unfold sizeLine; omega
    -- what is put in
    have key : ∃ c : Int, 0 ≤ c ∧ c < 10 ^ 18 ∧ (cIf (cBl (eBin gtD (eCall lenD (aCons (eVar 0) (aNil))) (eCon (.int 0)))) (cSet 4 (eBin modD (eBin idxD (eVar 0) (eBin modD (eVar 3) (eCall lenD (aCons (eVar 0) (aNil))))) (eBin powD (eCon (.int 10)) (eCon (.int 18))))) (cNil))
        [some d, some (.int n), some (.ref S.length), some (.int (0 + i)), some (.int 0)] S1 = .fl (.nx [some d, some (.int n), some (.ref S.length), some (.int (0 + i)), some (.int c)]) S1 := by
      by_cases hns : ns = []
      · subst hns
        refine ⟨0, by omega, by omega, ?_⟩
        simp [ev_var, ev_con, ev_bin, ev_un, ev_anil, ev_acons, ev_call, ev_tup, ev_lst, ev_not, ev_and, ev_or, ev_if, ev_cbl, ev_btrue, ev_cand, ev_cor, ev_cnot, ev_sli, ev_onone, ev_osome, ev_chain, ev_meth, ev_get2, ev_newK, ev_newT, ev_own, ev_nil, ev_seq, ev_expr, ev_set, ev_ret, ev_retN, ev_cif, ev_brk, ev_ct, ev_asg, ev_put, ev_aug, ev_for, ev_comp, ev_newL, ev_iseq, ev_irange, ev_ienum, ev_yes, Out.bind_ok, Out.bindN_ok, bindS_ok, Tg.set, Tg.sets, List.getElem?_cons_zero, List.getElem?_cons_succ, List.set_cons_zero, List.set_cons_succ, wipeE, List.length_cons, List.length_nil, Nat.reduceAdd, Nat.reduceLeDiff, Nat.reduceEqDiff, ↓reduceIte, Bool.false_eq_true, decide_eq_true_eq, addD, subD, mulD, fdivD, modD, powD, negD, ltD, leD, gtD, geD, andD, orD, xorD, max2D, min2D, len_lst hd1]
      · have hp : 0 < ns.length := List.length_pos_iff.mpr hns
        obtain ⟨a, _, ha⟩ := atI_mod (xs := ns.map Dv.int) (by simpa using hns) (0 + i)
        obtain ⟨c, rfl⟩ : ∃ c, a = .int c := by
          rename_i hm
          obtain ⟨c, _, e⟩ := List.mem_map.mp hm
          exact ⟨c, e.symm⟩
        refine ⟨c % 10 ^ 18, Int.emod_nonneg _ (by omega), Int.emod_lt_of_pos _ (by omega), ?_⟩
        have hpI : (0 : Int) < ((ns.map Dv.int).length : Int) := by rw [List.length_map]; omega
        simp only [ev_var, ev_con, ev_bin, ev_un, ev_anil, ev_acons, ev_call, ev_tup, ev_lst, ev_not, ev_and, ev_or, ev_if, ev_cbl, ev_btrue, ev_cand, ev_cor, ev_cnot, ev_sli, ev_onone, ev_osome, ev_chain, ev_meth, ev_get2, ev_newK, ev_newT, ev_own, ev_nil, ev_seq, ev_expr, ev_set, ev_ret, ev_retN, ev_cif, ev_brk, ev_ct, ev_asg, ev_put, ev_aug, ev_for, ev_comp, ev_newL, ev_iseq, ev_irange, ev_ienum, ev_yes, Out.bind_ok, Out.bindN_ok, bindS_ok, Tg.set, Tg.sets, List.getElem?_cons_zero, List.getElem?_cons_succ, List.set_cons_zero, List.set_cons_succ, wipeE, List.length_cons, List.length_nil, Nat.reduceAdd, Nat.reduceLeDiff, Nat.reduceEqDiff, ↓reduceIte, Bool.false_eq_true, decide_eq_true_eq, addD, subD, mulD, fdivD, modD, powD, negD, ltD, leD, gtD, geD, andD, orD, xorD, max2D, min2D, len_lst hd1, hpI, idx_lst hd1 ha, h10, Int.reduceToNat, show (0 : Int) < 10 ^ 18 by omega]
    obtain ⟨c, c0, c1, e1⟩ := key
    have hm : (max 1 ((ns.map Dv.int).length : Int)) = max 1 (ns.length : Int) := by rw [List.length_map]
    have hmp : (0 : Int) < max 1 (ns.length : Int) := by omega
    have hlog : (max 1 (ns.length : Int)).natAbs.log2 < 9000 := by
      have h1 := Nat.log2_le_self (max 1 (ns.length : Int)).natAbs
      have h2 : (max 1 (ns.length : Int)).natAbs ≤ 64 := by omega
      omega
    have hq0 : 0 ≤ ((0 : Int) + i) / max 1 (ns.length : Int) := Int.ediv_nonneg (by omega) (by omega)
    have hq1 : ((0 : Int) + i) / max 1 (ns.length : Int) ≤ i := by
      have := Int.ediv_le_self (a := (0 : Int) + i) (max 1 (ns.length : Int)) (by omega)
      omega
    have hmul : CMul 7919 (((0 : Int) + i) / max 1 (ns.length : Int)) := .inl ⟨by omega, by omega⟩
    refine ⟨[some d, some (.int n), some (.ref S.length), some (.int (0 + i)), some (.int c)], S1.set S.length (.lst ((xs ++ [c + 7919 * ((0 + i) / max 1 (ns.length : Int))]).map .int)), .inl ?_, _, _, _, rfl, ?_, at_set h1, by simp [h2], ?_⟩
    · unfold drawsB
      rw [ev_seq]
      simp only [ev_set, ev_con, bindS_ok, List.set_cons_zero, List.set_cons_succ]
      rw [ev_seq, e1]
      simp only [ev_var, ev_con, ev_bin, ev_un, ev_anil, ev_acons, ev_call, ev_tup, ev_lst, ev_not, ev_and, ev_or, ev_if, ev_cbl, ev_btrue, ev_cand, ev_cor, ev_cnot, ev_sli, ev_onone, ev_osome, ev_chain, ev_meth, ev_get2, ev_newK, ev_newT, ev_own, ev_nil, ev_seq, ev_expr, ev_set, ev_ret, ev_retN, ev_cif, ev_brk, ev_ct, ev_asg, ev_put, ev_aug, ev_for, ev_comp, ev_newL, ev_iseq, ev_irange, ev_ienum, ev_yes, Out.bind_ok, Out.bindN_ok, bindS_ok, Tg.set, Tg.sets, List.getElem?_cons_zero, List.getElem?_cons_succ, List.set_cons_zero, List.set_cons_succ, wipeE, List.length_cons, List.length_nil, Nat.reduceAdd, Nat.reduceLeDiff, Nat.reduceEqDiff, ↓reduceIte, Bool.false_eq_true, decide_eq_true_eq, addD, subD, mulD, fdivD, modD, powD, negD, ltD, leD, gtD, geD, andD, orD, xorD, max2D, min2D, len_lst hd1, tyq_ref h1, hm, hmp, hlog, hmul, and_self, app_ref h1 hlen, List.map_append, List.map_cons, List.map_nil]
    · exact g.new (fr_set S1 S.length _) fun l z => by subst z; exact Nat.le_refl _
    · intro x hx
      rcases List.mem_append.mp hx with hx | hx
      · exact h3 x hx
      · rw [List.mem_singleton] at hx; subst hx; constructor <;> omega
end
end PL

namespace PL
open PySem PySem.Spec PyProof.Rows L2
section
variable {S S' : Sto} {d x y : Dv} {ds xs : List Dv}
theorem Fr.at {S S1 : Sto} (h : Fr (fun _ => False) S S1) {l : Nat} {o : Ob} (e : S[l]? = some o) : S1[l]? = some o := h.get l o e id
theorem Fr.any {P : Nat → Prop} {S S1 : Sto} (h : Fr (fun _ => False) S S1) : Fr P S S1 := h.imp fun _ _ z => z.elim
theorem seq_of {a b : RC} {ρ ρ' : Env} {S S' : Sto} (h : a ρ S = .fl (.nx ρ') S') : cSeq a b ρ S = b ρ' S' := by simp only [cSeq, h]
theorem seq_rt {a b : RC} {ρ : Env} {S S' : Sto} {d : Dv} (h : a ρ S = .fl (.rt d) S') : cSeq a b ρ S = .fl (.rt d) S' := by simp only [cSeq, h]
theorem if_t {t : RT} {a b : RC} {ρ : Env} {S S' : Sto} (h : t ρ S = .ok true S') : cIf t a b ρ S = a ρ S' := by simp only [cIf, h, bindS_ok, ↓reduceIte]
theorem if_f {t : RT} {a b : RC} {ρ : Env} {S S' : Sto} (h : t ρ S = .ok false S') : cIf t a b ρ S = b ρ S' := by simp only [cIf, h, bindS_ok, Bool.false_eq_true, ↓reduceIte]
theorem set_of {i : Nat} {e : RE} {ρ : Env} {S S' : Sto} {d : Dv} (h : e ρ S = .ok d S') : cSet i e ρ S = .fl (.nx (ρ.set i (some d))) S' := by simp only [cSet, h, bindS_ok]
theorem expr_of {e : RE} {ρ : Env} {S S' : Sto} {d : Dv} (h : e ρ S = .ok d S') : cExpr e ρ S = .fl (.nx ρ) S' := by simp only [cExpr, h, bindS_ok]
theorem ret_of {e : RE} {ρ : Env} {S S' : Sto} {d : Dv} (h : e ρ S = .ok d S') : cRet e ρ S = .fl (.rt d) S' := by simp only [cRet, h, bindS_ok]
theorem for_of {r : RI} {t : Tg} {b : RC} {ρ : Env} {S S' : Sto} {w : List Dv × Ck} (h : r ρ S = .ok w S') : cFor r t b ρ S = loop w.2.ok t b w.1 ρ S' := by simp only [cFor, h, bindS_ok]
theorem add_int (i j : Int) : addD (.int i) (.int j) S = .ok (.int (i + j)) S := .trans rfl rfl
theorem sub_int (i j : Int) : subD (.int i) (.int j) S = .ok (.int (i - j)) S := .trans rfl rfl
theorem lt_int (i j : Int) : ltD (.int i) (.int j) S = .ok (.bl (decide (i < j))) S := .trans rfl rfl
theorem le_int (i j : Int) : leD (.int i) (.int j) S = .ok (.bl (decide (i ≤ j))) S := .trans rfl rfl
theorem gt_int (i j : Int) : gtD (.int i) (.int j) S = .ok (.bl (decide (j < i))) S := .trans rfl rfl
theorem ge_int (i j : Int) : geD (.int i) (.int j) S = .ok (.bl (decide (j ≤ i))) S := .trans rfl rfl
theorem neg_int (i : Int) : negD (.int i) S = .ok (.int (-i)) S := .trans rfl rfl
theorem and_int (i j : Int) : andD (.int i) (.int j) S = .ok (.int (Builtin.bitAnd i j)) S := .trans rfl rfl
theorem or_int (i j : Int) : orD (.int i) (.int j) S = .ok (.int (Builtin.bitOr i j)) S := .trans rfl rfl
theorem xor_int (i j : Int) : xorD (.int i) (.int j) S = .ok (.int (Builtin.bitXor i j)) S := .trans rfl rfl
theorem max2_int (i j : Int) : max2D [.int i, .int j] S = .ok (.int (max i j)) S := .trans rfl rfl
theorem min2_int (i j : Int) : min2D [.int i, .int j] S = .ok (.int (min i j)) S := .trans rfl rfl
theorem int_bl (b : Bool) : intD [.bl b] S = .ok (.int (if b then 1 else 0)) S := .trans rfl rfl
theorem int_int (b : Int) : intD [.int b] S = .ok (.int b) S := .trans rfl rfl
theorem sli_tup (lo hi : Option Int) : sliD (.tup ds) lo hi S = .ok (.tup (cutD ds lo hi)) S := .trans rfl rfl
theorem beqD (a b : Str) : (a == b) = decide (a = b) := by by_cases h : a = b <;> simp [h]
theorem shp_int (i : Int) : SeqAt.shaped (.int i) = true := by rfl
abbrev Sk (x : Str) : Prop := PyData.strOk x = true
theorem sk_of {x : Str} (h : ∀ c ∈ x.cps.toList, c < 1114112) : Sk x := by
  show x.cps.all (fun c => decide (c < 1114112)) = true
  rw [← Array.all_toList, List.all_eq_true]
  exact fun c hc => decide_eq_true (h c hc)
theorem sk_app {x y : Str} (h : Sk x) (k : Sk y) : Sk (x ++ y) := by
  show (x.cps ++ y.cps).all (fun c => decide (c < 1114112)) = true
  rw [Array.all_append]
  exact Bool.and_eq_true_iff.mpr ⟨h, k⟩
theorem shp_str {x : Str} (h : Sk x) : SeqAt.shaped (.str x) = true := by
  unfold SeqAt.shaped
  simp only [PyData.canLay0, PyData.depth, h, Bool.true_and]; rfl
theorem shp_bl (x : Bool) : SeqAt.shaped (.bool x) = true := by rfl
theorem eq_int (i j : Int) : eqD (.int i) (.int j) S = .ok (.bl (decide (i = j))) S := by
  simp only [eqD, eqq, toP, shp_int, and_self, ↓reduceIte, PyData.eqv]; rfl
theorem ne_int (i j : Int) : neD (.int i) (.int j) S = .ok (.bl (!decide (i = j))) S := by
  simp only [neD, eqq, toP, shp_int, and_self, ↓reduceIte, PyData.eqv]; rfl
theorem eq_str {i j : Str} (hi : Sk i) (hj : Sk j) : eqD (.str i) (.str j) S = .ok (.bl (decide (i = j))) S := by
  simp only [eqD, eqq, toP, shp_str hi, shp_str hj, and_self, ↓reduceIte, PyData.eqv, beqD]
theorem ne_str {i j : Str} (hi : Sk i) (hj : Sk j) : neD (.str i) (.str j) S = .ok (.bl (!decide (i = j))) S := by
  simp only [neD, eqq, toP, shp_str hi, shp_str hj, and_self, ↓reduceIte, PyData.eqv, beqD]
theorem eq_bl (i j : Bool) : eqD (.bl i) (.bl j) S = .ok (.bl (decide (i = j))) S := by
  simp only [eqD, eqq, toP, shp_bl, and_self, ↓reduceIte, PyData.eqv]; cases i <;> cases j <;> rfl
theorem ne_bl (i j : Bool) : neD (.bl i) (.bl j) S = .ok (.bl (!decide (i = j))) S := by
  simp only [neD, eqq, toP, shp_bl, and_self, ↓reduceIte, PyData.eqv]; cases i <;> cases j <;> rfl
theorem toPs_strs (n : Nat) : ∀ ys : List Str, toPs (n + 1) S (ys.map .str) = some (ys.map .str)
  | [] => by simp only [List.map_nil, toPs]
  | y :: ys => by simp only [List.map_cons, toPs, toP, toPs_strs n ys]
/-- a text in a list of texts -/
theorem mem_strs {l : Nat} {ys : List Str} (h : S[l]? = some (.lst (ys.map .str))) (hs : SeqAt.shaped (.list (ys.map .str)) = true) {x : Str} (hx : Sk x) : memq S (.str x) (.ref l) = some (decide (x ∈ ys)) := by
  simp only [memq, tupOf, lst_ref h, toP, toPs_strs 38 ys, shp_str hx, hs, and_self, ↓reduceIte, List.any_map, Option.some.injEq]
  induction ys with
  | nil => rfl
  | cons y ys ih =>
    rw [List.any_cons]
    have : (ys.any ((fun z => z.eqv (PyData.str x)) ∘ PyData.str)) = decide (x ∈ ys) := by
      clear ih h hs
      induction ys with
      | nil => rfl
      | cons z ys ih => rw [List.any_cons, ih]; simp [PyData.eqv, beqD, List.mem_cons, eq_comm]
    rw [this]
    simp [PyData.eqv, beqD, List.mem_cons, eq_comm]
/-- a text in a row of texts -/
theorem mem_tstrs (ys : List Str) (x : Str) : memq S (.str x) (.tup (ys.map .str)) = some (decide (x ∈ ys)) := by
  have h1 : (ys.map Dv.str).all flatD = true := by simp [List.all_map, flatD]
  simp only [memq, tupOf, h1, flatD, and_self, ↓reduceIte, Option.some.injEq]
  clear h1
  induction ys with
  | nil => rfl
  | cons y ys ih => rw [List.map_cons, List.any_cons, ih]; simp [eqF, beqD, List.mem_cons, eq_comm]
theorem strlen_app (a b : Str) : (a ++ b).length = a.length + b.length := by
  show (a.cps ++ b.cps).size = _
  rw [Array.size_append]; rfl
theorem str_app (a b : Str) : (a ++ b).cps.toList = a.cps.toList ++ b.cps.toList := by
  show (a.cps ++ b.cps).toList = _
  rw [Array.toList_append]
theorem strlen_toList (a : Str) : a.cps.toList.length = a.length := by
  show _ = a.cps.size
  rw [Array.length_toList]
theorem add_str {a b : Str} (h : a.length + b.length ≤ sizeLine) : addD (.str a) (.str b) S = .ok (.str (a ++ b)) S := by simp only [addD, h, ↓reduceIte]
theorem idx_smod {x : Str} {n : Int} (hx : (x.length : Int) = n) (h0 : 0 < n) (hl : x.length ≤ sizeLine) (i : Int) : ∃ c ∈ x.cps.toList, idxD (.str x) (.int (i % n)) S = .ok (.str ⟨#[c]⟩) S := by
  obtain ⟨c, hc, e⟩ := atI_mod (xs := x.cps.toList) (by intro z; have := strlen_toList x; rw [z] at this; simp at this; omega) i
  rw [strlen_toList, hx] at e
  exact ⟨c, hc, by simp only [idxD, hl, ↓reduceIte, e]⟩
end

/-! ### the law's names -/
def abc : Str := "abcdefghijklmnopqrstuvwxyz"
def takenW : List Str := ["start", "rule", "row", "mix", "many", "any", "kind", "not", "both", "either", "way", "mark"]
structure NameOk (x : Str) : Prop where
  len : 1 ≤ x.length ∧ x.length ≤ 8
  low : ∀ c ∈ x.cps.toList, c ∈ abc.cps.toList
  free : x ∉ takenW
noncomputable def nameB : RC := cSeq (cSet 5 (eBin addD (eBin addD (eBin fdivD (eVar 0) (eCon (.int 208))) (eBin mulD (eBin mulD (eCon (.int 7)) (eVar 3)) (eVar 3))) (eBin mulD (eBin modD (eBin fdivD (eVar 0) (eCon (.int 5408))) (eCon (.int 26))) (eVar 3)))) (cSet 2 (eBin addD (eVar 2) (eBin idxD (eVar 1) (eBin modD (eVar 5) (eCon (.int 26))))))
noncomputable def nameC : RC := cSeq (cSet 1 (eCon (.str "abcdefghijklmnopqrstuvwxyz"))) (cSeq (cSet 2 (eBin idxD (eVar 1) (eBin modD (eVar 0) (eCon (.int 26))))) (cSeq (cFor (iRange rng1 (aCons (eBin modD (eBin fdivD (eVar 0) (eCon (.int 26))) (eCon (.int 8))) (aNil))) (.nm 3) nameB) (cSeq (cSet 4 (eLst (aCons (eCon (.str "start")) (aCons (eCon (.str "rule")) (aCons (eCon (.str "row")) (aCons (eCon (.str "mix")) (aCons (eCon (.str "many")) (aCons (eCon (.str "any")) (aCons (eCon (.str "kind")) (aCons (eCon (.str "not")) (aCons (eCon (.str "both")) (aCons (eCon (.str "either")) (aCons (eCon (.str "way")) (aCons (eCon (.str "mark")) (aNil))))))))))))))) (cSeq (cIf (cBl (eBin inD (eVar 2) (eVar 4))) (cRet (eBin addD (eVar 2) (eCon (.str "z")))) (cNil)) (cRet (eVar 2))))))
theorem abc_lt : ∀ c ∈ abc.cps.toList, c < 1114112 := by
  have : abc.cps.toList.all (fun c => decide (c < 1114112)) = true := by decide +kernel
  intro c hc
  exact of_decide_eq_true (List.all_eq_true.mp this c hc)
theorem NameOk.sk {x : Str} (h : NameOk x) : Sk x := sk_of fun c hc => abc_lt c (h.low c hc)
theorem log26 : (26 : Int).natAbs.log2 < 9000 := by have := Nat.log2_le_self 26; show Nat.log2 26 < 9000; omega
theorem log_lt {n : Nat} (h : n < 9000) : (n : Int).natAbs.log2 < 9000 := by have := Nat.log2_le_self n; show Nat.log2 n < 9000; omega
theorem fdiv_lit {S : Sto} {i : Int} {n : Nat} (h0 : 0 < n) (h : n < 9000) : fdivD (.int i) (.int (n : Int)) S = .ok (.int (i / n)) S := by
  simp only [fdivD]
  rw [if_pos ⟨by omega, log_lt h⟩]
theorem mod_pos {S : Sto} {i j : Int} (h0 : 0 < j) : modD (.int i) (.int j) S = .ok (.int (i % j)) S := by simp only [modD, h0, ↓reduceIte]
theorem mul_l {S : Sto} {i j : Int} (h : -2 ^ 64 < i ∧ i < 2 ^ 64) : mulD (.int i) (.int j) S = .ok (.int (i * j)) S := by
  simp only [mulD]
  rw [if_pos (show CMul i j from Or.inl h)]
theorem mul_r {S : Sto} {i j : Int} (h : -2 ^ 64 < j ∧ j < 2 ^ 64) : mulD (.int i) (.int j) S = .ok (.int (i * j)) S := by
  simp only [mulD]
  rw [if_pos (show CMul i j from Or.inr h)]
theorem fdiv_sm {S : Sto} {i j : Int} (h0 : 0 < j) (h : j < 9000) : fdivD (.int i) (.int j) S = .ok (.int (i / j)) S := by
  obtain ⟨n, rfl⟩ := Int.eq_ofNat_of_zero_le (Int.le_of_lt h0)
  exact fdiv_lit (by omega) (by omega)
theorem mul_sm {S : Sto} {i j : Int} (h : -10000000 < i) (h2 : i < 10000000) : mulD (.int i) (.int j) S = .ok (.int (i * j)) S := mul_l (by omega)
theorem mul_smr {S : Sto} {i j : Int} (h : -10000000 < j) (h2 : j < 10000000) : mulD (.int i) (.int j) S = .ok (.int (i * j)) S := mul_r (by omega)
theorem name_run {S : Sto} {d : Int} (h0 : 0 ≤ d) : ∃ (x : Str) (S' : Sto), runF nameC 6 1 [.int d] S = .ok (.str x) S' ∧ Gr S S' ∧ NameOk x := by
  have hab : ((abc.length : Nat) : Int) = 26 := by decide
  have habl : abc.length ≤ sizeLine := by show (26 : Nat) ≤ 2 ^ 24; omega
  have fd (n : Nat) (h0 : 0 < n) (h : n < 9000) (i : Int) (S : Sto) := fdiv_lit (S := S) (i := i) h0 h
  obtain ⟨c1, hc1, e1⟩ := idx_smod (S := S) hab (by omega) habl d
  have hm0 := Int.emod_nonneg (d / 26) (b := 8) (by omega)
  have hm1 := Int.emod_lt_of_pos (d / 26) (b := 8) (by omega)
  refine (loop_all (ck := Ck.tt.ok) (t := .nm 3) (b := nameB) (S := S) (ρ := [some (.int d), some (.str abc), some (.str ⟨#[c1]⟩), none, none, none])
    (fun i ρ S' => ∃ (v3 v5 : Option Dv) (x : Str), ρ = [some (.int d), some (.str abc), some (.str x), v3, none, v5] ∧ S' = S ∧ x.length = 1 + i ∧ ∀ c ∈ x.cps.toList, c ∈ abc.cps.toList) (rangeL 0 (d / 26 % 8))
    ⟨none, none, _, rfl, rfl, rfl, by intro c hc; simp at hc; subst hc; exact hc1⟩ ?_ (fun _ _ _ => trivial)).elim fun ρ' ⟨S', e, v3, v5, x, hρ, hS, h1, h2⟩ => ?_
  · rintro i v ρ S1 hv ⟨v3, v5, x, rfl, rfl, h1, h2⟩
    obtain ⟨rfl, hlt⟩ := rangeL_get hv
    refine ⟨trivial, _, rfl, ?_⟩
    have hi : (0 : Int) + i < 8 := by omega
    obtain ⟨c2, hc2, e2⟩ := idx_smod (S := S1) hab (by omega) habl (d / 208 + 7 * (0 + i) * (0 + i) + d / 5408 % 26 * (0 + i))
    have hx : x.length + Str.length ⟨#[c2]⟩ ≤ sizeLine := by
      show x.length + 1 ≤ 2 ^ 24
      omega
    refine ⟨[some (.int d), some (.str abc), some (.str (x ++ ⟨#[c2]⟩)), some (.int (0 + i)), none, some (.int (d / 208 + 7 * (0 + i) * (0 + i) + d / 5408 % 26 * (0 + i)))], S1, .inl ?_, _, _, _, rfl, rfl, ?_, ?_⟩
    · have f1 : fdivD (.int d) (.int 208) S1 = .ok (.int (d / 208)) S1 := fdiv_lit (n := 208) (by omega) (by omega)
      have f2 : fdivD (.int d) (.int 5408) S1 = .ok (.int (d / 5408)) S1 := fdiv_lit (n := 5408) (by omega) (by omega)
      have f3 : mulD (.int 7) (.int (0 + i)) S1 = .ok (.int (7 * (0 + i))) S1 := mul_l (by omega)
      have f4 : mulD (.int (7 * (0 + i))) (.int (0 + i)) S1 = .ok (.int (7 * (0 + i) * (0 + i))) S1 := mul_r (by omega)
      have f5 : mulD (.int (d / 5408 % 26)) (.int (0 + i)) S1 = .ok (.int (d / 5408 % 26 * (0 + i))) S1 := mul_r (by omega)
      have f6 : modD (.int (d / 5408)) (.int 26) S1 = .ok (.int (d / 5408 % 26)) S1 := mod_pos (by omega)
      have f7 : modD (.int (d / 208 + 7 * (0 + i) * (0 + i) + d / 5408 % 26 * (0 + i))) (.int 26) S1 = _ := mod_pos (by omega)
      simp only [nameB, ev_seq, ev_set, ev_bin, ev_var, ev_con, List.getElem?_cons_zero, List.getElem?_cons_succ, List.set_cons_zero, List.set_cons_succ, Out.bind_ok, bindS_ok, f1, f2, f3, f4, f5, f6, f7, addD, e2, hx, ↓reduceIte]
    · rw [strlen_app, h1]; show 1 + i + 1 = _; omega
    · intro c hc
      rw [str_app] at hc
      rcases List.mem_append.mp hc with hc | hc
      · exact h2 c hc
      · simp at hc; subst hc; exact hc2
  · subst hρ hS
    rw [rangeL_len] at h1
    have hlen : x.length ≤ 8 := by omega
    have hsk : Sk x := sk_of fun c hc => abc_lt c (h2 c hc)
    have hin : memq (S' ++ [.lst (takenW.map .str)]) (.str x) (.ref S'.length) = some (decide (x ∈ takenW)) := mem_strs (at_new _ _) (by decide +kernel) hsk
    have g : Gr S' (S' ++ [.lst (takenW.map .str)]) := gr_app _ _
    have f1 : fdivD (.int d) (.int 26) S' = .ok (.int (d / 26)) S' := fdiv_lit (n := 26) (by omega) (by omega)
    have f2 : modD (.int (d / 26)) (.int 8) S' = .ok (.int (d / 26 % 8)) S' := mod_pos (by omega)
    have f3 : modD (.int d) (.int 26) S' = .ok (.int (d % 26)) S' := mod_pos (by omega)
    have r1 := rng1_of hm0 (by omega)
    have s12 : (takenW.map Dv.str).length ≤ sizeLine := by show (12 : Nat) ≤ 2 ^ 24; omega
    have et : ([.str "start", .str "rule", .str "row", .str "mix", .str "many", .str "any", .str "kind", .str "not", .str "both", .str "either", .str "way", .str "mark"] : List Dv) = takenW.map .str := rfl
    have ea : ("abcdefghijklmnopqrstuvwxyz" : Str) = abc := rfl
    by_cases ht : x ∈ takenW
    · have hz : ∀ t ∈ takenW, NameOk (t ++ "z") := by
        have : takenW.all (fun t => decide (1 ≤ (t ++ ("z" : Str)).length ∧ (t ++ ("z" : Str)).length ≤ 8) && (t ++ ("z" : Str)).cps.toList.all (fun c => decide (c ∈ abc.cps.toList)) && decide ((t ++ ("z" : Str)) ∉ takenW)) = true := by decide +kernel
        intro t ht
        have := List.all_eq_true.mp this t ht
        simp only [Bool.and_eq_true, decide_eq_true_eq, List.all_eq_true] at this
        exact ⟨this.1.1, this.1.2, this.2⟩
      have hzl : x.length + Str.length "z" ≤ sizeLine := by show x.length + 1 ≤ 2 ^ 24; omega
      refine ⟨x ++ "z", _, runF_rt (ρ := [some (.int d), none, none, none, none, none]) rfl rfl ?_, g, hz x ht⟩
      simp only [nameC, ev_seq, ev_set, ev_con, ev_bin, ev_var, ev_for, ev_irange, ev_acons, ev_anil, ev_lst, ev_cif, ev_cbl, ev_btrue, ev_ret, List.getElem?_cons_zero, List.getElem?_cons_succ, List.set_cons_zero, List.set_cons_succ, Out.bind_ok, bindS_ok, f1, f2, f3, ea, e1, r1, e, et, s12, inD, hin, ht, decide_true, ↓reduceIte, addD, hzl]
    · refine ⟨x, _, runF_rt (ρ := [some (.int d), none, none, none, none, none]) rfl rfl ?_, g, ⟨⟨by omega, hlen⟩, h2, ht⟩⟩
      simp only [nameC, ev_seq, ev_set, ev_con, ev_bin, ev_var, ev_for, ev_irange, ev_acons, ev_anil, ev_lst, ev_cif, ev_cbl, ev_btrue, ev_ret, ev_nil, List.getElem?_cons_zero, List.getElem?_cons_succ, List.set_cons_zero, List.set_cons_succ, Out.bind_ok, bindS_ok, f1, f2, f3, ea, e1, r1, e, et, s12, inD, hin, ht, decide_false, Bool.false_eq_true, ↓reduceIte]
end PL
namespace PL
open PySem PySem.Spec PyProof.Rows L2
/-! ### a module's constant rows -/
def cV : Value → Option Dv
  | .none => some .non
  | .bool b => some (.bl b)
  | .int i _ => some (.int i)
  | .str x _ => some (.str x)
  | _ => none
def vV : Value → V
  | .bool b => .bl b
  | .int i _ => .int i
  | .str x _ => .str x
  | _ => .non
def Cst (its : List Value) (k : Dv) : Prop := ∃ ds, k = .kt ds ∧ its.map cV = ds.map some ∧ Nat.ble its.length 16777216 = true
theorem cst_rep {K : PySem.W.Frag} {μ : List Addr} {H : Hp} {a : Addr} {od : Option Addr} {its : Array Value} {n : Nat} {sl : Array (Option Value)} {k : Dv} (w : K.lookup a = some ⟨.type "tuple", od, .seq its n, sl⟩) (u : Cst its.toList k) : Rep K μ H (.ref a) k := by
  obtain ⟨ds, rfl, e, hl⟩ := u
  have hlen : its.toList.length = ds.length := by have := congrArg List.length e; simpa using this
  have key : ∀ (xs : List Value) (ds : List Dv), xs.map cV = ds.map some → Vals (xs.map vV) xs ∧ ∀ (i : Nat) (v : V) (d : Dv), (xs.map vV)[i]? = some v → ds[i]? = some d → Rep K μ H v d := by
    intro xs
    induction xs with
    | nil => intro ds e; exact ⟨.nil, fun i v d h => by simp at h⟩
    | cons x xs ih =>
      intro ds e
      cases ds with
      | nil => simp at e
      | cons d ds =>
        simp only [List.map_cons, List.cons.injEq] at e
        obtain ⟨h1, h2⟩ := ih ds e.2
        have hx : L2.RelV (vV x) x ∧ Rep K μ H (vV x) d := by
          have e1 := e.1
          cases x <;> simp only [cV, Option.some.injEq] at e1 <;> first | cases e1 | skip
          · exact ⟨rfl, .non⟩
          · exact ⟨rfl, .bl _⟩
          · exact ⟨⟨_, rfl⟩, .int _⟩
          · exact ⟨⟨_, rfl⟩, .str _⟩
        refine ⟨.cons hx.1 h1, fun i v d' hv hd => ?_⟩
        cases i with
        | zero => simp at hv hd; subst hv; subst hd; exact hx.2
        | succ i => exact h2 i v d' (by simpa using hv) (by simpa using hd)
  obtain ⟨h1, h2⟩ := key _ _ e
  exact .kt ⟨_, its, n, w, rfl, rfl, by have := Nat.le_of_ble_eq_true hl; rw [Array.length_toList] at this; exact this, h1⟩ (by simpa using hlen) h2
theorem rel_str {x : Str} {t : Tok} : L2.RelV (.str x) (.str x t) := ⟨_, rfl⟩
theorem rel_int {x : Int} {t : Tok} : L2.RelV (.int x) (.int x t) := ⟨_, rfl⟩
end PL

namespace PL
open PySem PySem.Spec PyProof.Rows L2

/-! ### sources that are lists or tuples: zip and enumerate over either kind -/
def Sq (K : PySem.W.Frag) (l : Bool) (H : Hp) (a : Addr) (vs : List V) : Prop := match l with
  | true => SqL K H a vs
  | false => SqT K H a vs
def Pn (l : Bool) (h : Heap) (a : Addr) (its : Array Value) : Prop := match l with
  | true => h.IsList a its
  | false => h.IsTuple a its
def Cur (l : Bool) (h : Heap) (it a : Addr) (i : Nat) : Prop := match l with
  | true => h.IsListIter it a i
  | false => h.IsTupleIter it a i
def itO (l : Bool) (a : Addr) : Obj := match l with
  | true => { cls := .type "list_iterator", data := .fields #[.ref a, .int 0 0] }
  | false => { cls := .type "tuple_iterator", data := .fields #[.ref a, .int 0 0] }
section
variable {X : Cx} {pins : List (Addr × Obj)} {σ : L2.St} {H : Hp} {s : Shared} {a : Addr} {vs us : List V} {l : Bool}
theorem sq_read (I : Inv X pins σ H s) (q : Sq X.K l H a vs) : ∃ its : List Value, Vals vs its ∧ Pn l s.heap a its.toArray := by
  cases l with
  | true => obtain ⟨its, r, p, _⟩ := I.list q; exact ⟨its, r, p.isList⟩
  | false => obtain ⟨its, r, p, _⟩ := I.tuple q; exact ⟨its, r, p⟩
theorem sq_inj (I : Inv X pins σ H s) (q : Sq X.K l H a vs) (q' : Sq X.K l H a us) : vs = us := by
  cases l with
  | true => exact I.list_inj q q'
  | false => exact I.tuple_inj q q'
theorem pn_lt {h : Heap} {its : Array Value} (p : Pn l h a its) : a < h.objs.size := by
  cases l with
  | true => obtain ⟨o, e, _⟩ := p; exact Heap.lt_size e
  | false => obtain ⟨o, e, _⟩ := p; exact Heap.lt_size e
theorem cur_obj {h : Heap} {it : Addr} {i : Nat} (c : Cur l h it a i) : ∃ o, h.get? it = some o ∧ ∀ v, o.data ≠ .cell v := by
  cases l with
  | true => obtain ⟨o, e, _, d⟩ := c; exact ⟨o, e, fun v z => by rw [d] at z; cases z⟩
  | false => obtain ⟨o, e, _, d⟩ := c; exact ⟨o, e, fun v z => by rw [d] at z; cases z⟩
theorem cur_at {h h' : Heap} {it : Addr} {i : Nat} (c : Cur l h it a i) (k : ∀ o, h.get? it = some o → h'.get? it = some o) : Cur l h' it a i := by
  cases l with
  | true => exact Heap.IsListIter.at c k
  | false => exact Heap.IsTupleIter.at c k
theorem pn_at {h h' : Heap} {its : Array Value} (c : Pn l h a its) (k : ∀ o, h.get? a = some o → h'.get? a = some o) : Pn l h' a its := by
  cases l with
  | true => exact Heap.IsList.at c k
  | false => exact Heap.IsTuple.at c k
theorem cur_new {h : Heap} {it : Addr} (e : h.get? it = some (itO l a)) : Cur l h it a 0 := by
  cases l with
  | true => exact ⟨_, e, rfl, rfl⟩
  | false => exact ⟨_, e, rfl, rfl⟩
theorem pn_draws {prog : Program} {w : World} {A : Around} (hh : A.handled = none) (it : Addr) (ne : a ≠ it) (its : Array Value) :
    Draws prog w A it [it, a] its.size (fun i v => its[i]? = some v) (fun i h => Cur l h it a i ∧ Pn l h a its) := by
  cases l with
  | true => exact Draws.list hh it a ne its
  | false => exact Draws.tuple hh it a ne its
theorem pn_begins (its : Array Value) : Begins (.ref a) (itO l a) (fun h => Pn l h a its) := by
  cases l with
  | true => exact begins_list a its
  | false => exact begins_tuple a its
end
/-- the items of two sources, side by side -/
def Jz (K : PySem.W.Frag) (l1 l2 : Bool) (a b : Addr) : It :=
  ⟨fun i H => ∃ vs us x y, Sq K l1 H a vs ∧ Sq K l2 H b us ∧ vs[i]? = some x ∧ us[i]? = some y,
    fun i H v H' => ∃ T x y, v = .ref T ∧ H T = none ∧ H' = upd H T (.tup [x, y]) ∧ (∀ vs, Sq K l1 H a vs → vs[i]? = some x) ∧ (∀ us, Sq K l2 H b us → us[i]? = some y),
    fun i H => ∃ vs us, Sq K l1 H a vs ∧ Sq K l2 H b us ∧ i ≤ vs.length ∧ i ≤ us.length ∧ (i = vs.length ∨ i = us.length)⟩
theorem turn_jz {P : Program} {w : World} {K : PySem.W.Frag} {elts : List Expr} {kk : Nat} {tpos : Pos} {l1 l2 : Bool} {a b z TI TO i1 i2 : Addr} (D : ZipSep2 z TI TO i1 i2 [i1, a] [i2, b]) (na : a ≠ i1) (nb : b ≠ i2) :
    Turn P w K (.Tuple elts kk tpos) (Jz K l1 l2 a b) [z, TI, TO, i1, i2] z (fun i h => IsZip h z TI TO .none ∧ IsTupOf2 h TI (.ref i1) (.ref i2) ∧ (∃ x y, IsTupOf2 h TO x y) ∧ Cur l1 h i1 a i ∧ Cur l2 h i2 b i) := by
  have sp : ∀ {c : Addr}, c ∈ [z, TI, TO, i1, i2] → c = z ∨ c = TI ∨ c = TO ∨ c = i1 ∨ c = i2 := fun h => by simpa using h
  refine ⟨by simp, ?_, ?_, ?_, ?_, fun A i s Q E st hQ => wpAny_pyIter_zip st.1 hQ⟩
  · rintro i h ⟨e1, e2, ⟨_, _, e3⟩, e4, e5⟩ c hc
    rcases sp hc with rfl | rfl | rfl | rfl | rfl
    · exact ⟨_, e1, fun v z => nomatch z⟩
    · exact ⟨_, e2, fun v z => nomatch z⟩
    · exact ⟨_, e3, fun v z => nomatch z⟩
    · exact cur_obj e4
    · exact cur_obj e5
  · rintro i h h' ⟨e1, e2, ⟨x, y, e3⟩, e4, e5⟩ kp
    exact ⟨kp z (by simp) _ e1, kp TI (by simp) _ e2, ⟨x, y, kp TO (by simp) _ e3⟩, cur_at e4 (kp i1 (by simp)), cur_at e5 (kp i2 (by simp))⟩
  · intro X hP hw hK hc i pins s σ H E I hf ⟨e1, e2, ⟨x0, y0, e3⟩, e4, e5⟩ ⟨vs, us, x, y, q1, q2, g1, g2⟩
    subst hP hw hK
    obtain ⟨its, r1, p1⟩ := sq_read I q1
    obtain ⟨jts, r2, p2⟩ := sq_read I q2
    obtain ⟨u1, hu1, ru1⟩ := r1.get g1
    obtain ⟨u2, hu2, ru2⟩ := r2.get g2
    have lt1 : i < its.toArray.size := by rw [List.size_toArray]; exact (List.getElem?_eq_some_iff.mp hu1).1
    have lt2 : i < jts.toArray.size := by rw [List.size_toArray]; exact (List.getElem?_eq_some_iff.mp hu2).1
    have hh : X.A.handled = none := I.ok.hd hc
    have D1 := pn_draws (prog := X.prog) (w := X.w) (A := X.A.in1) (l := l1) hh i1 na its.toArray
    have D2 := pn_draws (prog := X.prog) (w := X.w) (A := X.A.in1) (l := l2) hh i2 nb jts.toArray
    refine wpAny_pyNext_zipD2_item D D1 D2 e1 e2 e3 ⟨e4, p1⟩ ⟨e5, p2⟩ lt1 lt2 fun w1 w2 h' tk a1 a2 z' t' st1 st2 tn _ kp => ?_
    have w1e : w1 = u1 := by have := a1.symm.trans (show its.toArray[i]? = some u1 by simpa using hu1); exact Option.some.inj this
    have w2e : w2 = u2 := by have := a2.symm.trans (show jts.toArray[i]? = some u2 by simpa using hu2); exact Option.some.inj this
    subst w1e w2e
    refine ⟨_, rfl, wpAny_letOwnedTupleGo_zip (s := { s with heap := h', toks := tk }) z' fun h2 z2 sb => ?_⟩
    have zl : z < s.heap.objs.size := Heap.lt_size e1
    have tn2 : h2.get? s.heap.objs.size = some { cls := .type "tuple", data := .seq #[w1, w2] } := (sb.2 _ (Nat.ne_of_gt zl)).trans tn
    have ok : ObjOk X.prog X.w (upd H s.heap.objs.size (.tup [x, y])) h2 s.heap.objs.size (.tup [x, y]) := ⟨show 2 ≤ 2 ^ 24 by omega, [w1, w2], .cons ru1 (.cons ru2 .nil), ⟨_, tn2, rfl, _, rfl⟩⟩
    have I2 : Inv X pins σ (upd H s.heap.objs.size (.tup [x, y])) { s with heap := h2, toks := tk } :=
      I.turnedNew (t' := tk) (ch := [z, TI, TO, i1, i2]) (fun c o hn q => by
        have n1 : c ≠ z := fun e => hn (by simp [e])
        exact (sb.2 c n1).trans (kp c o n1 (fun e => hn (by simp [e])) (fun e => hn (by simp [e])) (fun e => hn (by simp [e])) q)) hf (Nat.le_refl _) ok
    refine ⟨.ref s.heap.objs.size, _, I2, rfl, ⟨_, x, y, rfl, I.hok.fresh (Nat.le_refl _), rfl, fun ws q => by rw [sq_inj I q q1]; exact g1, fun ws q => by rw [sq_inj I q q2]; exact g2⟩, ⟨z2, ?_, ⟨w1, w2, ?_⟩, ?_, ?_⟩, fun c hcm => ?_⟩
    · exact (sb.2 _ D.TIz).trans (kp TI _ D.TIz D.TITO D.TIi1 D.TIi2 e2)
    · exact (sb.2 _ D.TOz).trans t'
    · exact cur_at st1.1 fun o q => (sb.2 _ (Ne.symm D.zi1)).trans q
    · exact cur_at st2.1 fun o q => (sb.2 _ (Ne.symm D.zi2)).trans q
    · have hlt : c < s.heap.objs.size := by
        rcases sp hcm with rfl | rfl | rfl | rfl | rfl
        · exact zl
        · exact Heap.lt_size e2
        · exact Heap.lt_size e3
        · obtain ⟨o, q, _⟩ := cur_obj e4; exact Heap.lt_size q
        · obtain ⟨o, q, _⟩ := cur_obj e5; exact Heap.lt_size q
      rw [upd_ne (Nat.ne_of_lt hlt)]
      exact (hf c hcm).1
  · intro X hP hw hK hc i pins s σ H E I hf ⟨e1, e2, ⟨x0, y0, e3⟩, e4, e5⟩ ⟨vs, us, q1, q2, le1, le2, he⟩
    subst hP hw hK
    obtain ⟨its, r1, p1⟩ := sq_read I q1
    obtain ⟨jts, r2, p2⟩ := sq_read I q2
    have s1 : its.toArray.size = vs.length := by rw [List.size_toArray]; exact r1.length.symm
    have s2 : jts.toArray.size = us.length := by rw [List.size_toArray]; exact r2.length.symm
    have hh : X.A.handled = none := I.ok.hd hc
    have D1 := pn_draws (prog := X.prog) (w := X.w) (A := X.A.in1) (l := l1) hh i1 na its.toArray
    have D2 := pn_draws (prog := X.prog) (w := X.w) (A := X.A.in1) (l := l2) hh i2 nb jts.toArray
    exact wpAny_pyNext_zipD2_end D D1 D2 e1 e2 e3 ⟨e4, p1⟩ ⟨e5, p2⟩ (by omega) (by omega) (by omega) fun h' tk kp => ⟨rfl, I.turnedL (t' := tk) (ch := [z, TI, TO, i1, i2]) (fun c o hn q =>
      kp c o (fun e => hn (by simp [e])) (fun e => hn (by simp [e])) (fun e => hn (by simp [e])) (fun e => hn (by simp [e])) q) hf⟩
def tJz (K : PySem.W.Frag) (ta : TA) : TI := fun σ H R => ta σ H fun vs H1 => ∃ l1 l2 a b xs ys, vs = [.ref a, .ref b] ∧ Sq K l1 H1 a xs ∧ Sq K l2 H1 b ys ∧ R (Jz K l1 l2 a b) H1
theorem pi_jz {X : Cx} {e e2 : Expr} {ta : TA} {p pos tpos : Pos} {elts : List Expr} {kk : Nat} (hg : Gl X "zip") (hm : X.mg "zip" = none) (ha : PA X [e, e2] ta)
    (hs : starEach [e, e2] X.env = (false, eval e X.env) :: starEach [e2] X.env := by rfl) (hpl : (backTo pos (starEach [e2] X.env)).any (·.1) = false := by rfl) :
    PI X (.Tuple elts kk tpos) (.Call (.Name "zip" p) [e, e2] [] pos) (tJz X.K ta) := by
  refine ⟨fun pins s σ H R I h => Call_ (ld_blt I hg hm PyProof.Rows.boot_zip (PyProof.Rows.callWith_type1 (thn (ha.run pos pins s σ H _ I h) ?_) hs hpl))⟩
  rintro us s1 ⟨vs, H1, I1, r1, l1, l2, a, b, xs, ys, rfl, q1, q2, hR⟩
  match us, r1 with
  | _, .cons (b := ua) ra (.cons (b := ub) rb .nil) =>
    obtain rfl : ua = .ref a := ra
    obtain rfl : ub = .ref b := rb
    obtain ⟨its, _, p1⟩ := sq_read I1 q1
    obtain ⟨jts, _, p2⟩ := sq_read I1 q2
    refine zip_begins2 (pn_begins its.toArray) (pn_begins jts.toArray) p1 p2 fun h' e1 e2 e3 e4 e5 _ kp => wpAny_pyIter_zip e1 ?_
    have I2 : Inv X pins σ H1 { s1 with heap := h' } := I1.kept (t' := s1.toks) kp
    have D := zip_sep2 (N := s1.heap.objs.size) (fp1 := [a]) (fp2 := [b]) (fun c hc => by simp at hc; subst hc; exact pn_lt p1) (fun c hc => by simp at hc; subst hc; exact pn_lt p2)
    refine ⟨_, _, _, _, H1, rfl, I2, turn_jz (l1 := l1) (l2 := l2) D (Nat.ne_of_lt (pn_lt p1)) (Nat.ne_of_lt (Nat.lt_succ_of_lt (pn_lt p2))), ⟨e1, e2, ⟨_, _, e3⟩, cur_new e4, cur_new e5⟩, fun c hc => ?_, hR⟩
    have hle : s1.heap.objs.size ≤ c := by
      have : c = s1.heap.objs.size + 4 ∨ c = s1.heap.objs.size + 2 ∨ c = s1.heap.objs.size + 3 ∨ c = s1.heap.objs.size ∨ c = s1.heap.objs.size + 1 := by simpa using hc
      rcases this with z | z | z | z | z
      all_goals rw [z]
      all_goals first | exact Nat.le_refl _ | exact Nat.le_add_right _ _
    exact I1.fpOk hle (I1.hok.fresh hle)

/-! ### the rules -/
section
variable {K : PySem.W.Frag} {mg : Str → Option Value} {W : WX} {μ μ1 : List Addr} {H H1 : Hp} {S S1 : Sto} {σ : L2.St} {ρ : Env}
theorem src_keep {v : V} {d : Dv} {ds : List Dv} (hS : SimS K μ S H) (r : Rep K μ H v d) (e : seqOf S d = some ds) :
    ∃ l a vs, v = .ref a ∧ Sq K l H a vs ∧ ∀ μ' S' H', Step μ H μ' H' → SimS K μ' S' H' → (ckOf d ds).ok S' → ∃ ws, Sq K l H' a ws ∧ Reps K μ' H' ws ds := by
  unfold seqOf at e
  cases q : tupOf d with
  | some es =>
    rw [q] at e
    cases e
    obtain ⟨a, vs, rfl, rr, h1, h2⟩ := sqT_keep r q
    exact ⟨false, a, vs, rfl, h1, fun μ' S' H' st _ _ => ⟨vs, h2 μ' H' st, rr.step st⟩⟩
  | none =>
    rw [q] at e
    obtain ⟨a, vs, rfl, h1, h2⟩ := itr_list hS r e
    exact ⟨true, a, vs, rfl, h1, h2⟩
def zipL : List Dv → List Dv → List Dv
  | x :: xs, y :: ys => .tup [x, y] :: zipL xs ys
  | _, _ => []
theorem zipL_get : ∀ (xs ys : List Dv) (i : Nat) (d : Dv), (zipL xs ys)[i]? = some d → ∃ x y, xs[i]? = some x ∧ ys[i]? = some y ∧ d = .tup [x, y]
  | [], _, i, d, h => by simp [zipL] at h
  | x :: xs, [], i, d, h => by simp [zipL] at h
  | x :: xs, y :: ys, 0, d, h => by simp [zipL] at h; exact ⟨x, y, rfl, rfl, h.symm⟩
  | x :: xs, y :: ys, i + 1, d, h => by simpa using zipL_get xs ys i d (by simpa [zipL] using h)
theorem zipL_len : ∀ xs ys : List Dv, (zipL xs ys).length = min xs.length ys.length
  | [], ys => by simp [zipL]
  | x :: xs, [] => by simp [zipL]
  | x :: xs, y :: ys => by simp [zipL, zipL_len xs ys]
theorem itr_jz {a b : Addr} {l1 l2 : Bool} {ds es : List Dv} {c1 c2 : Ck} (h1 : ∀ μ' S' H', Step μ H μ' H' → SimS K μ' S' H' → c1.ok S' → ∃ ws, Sq K l1 H' a ws ∧ Reps K μ' H' ws ds)
    (h2 : ∀ μ' S' H', Step μ H μ' H' → SimS K μ' S' H' → c2.ok S' → ∃ ws, Sq K l2 H' b ws ∧ Reps K μ' H' ws es) : ItR K μ H (Jz K l1 l2 a b) (zipL ds es, .and c1 c2) := by
  intro μ' S' H' i st hS hck
  obtain ⟨vs, q1, r1⟩ := h1 μ' S' H' st hS hck.1
  obtain ⟨us, q2, r2⟩ := h2 μ' S' H' st hS hck.2
  refine ⟨fun e => ⟨vs, us, q1, q2, ?_⟩, fun d hd => ?_⟩
  · have e' : i = min ds.length es.length := by rw [e]; exact zipL_len ds es
    rw [r1.1, r2.1]; omega
  · obtain ⟨x, y, g1, g2, rfl⟩ := zipL_get ds es i d hd
    obtain ⟨v, hv, rv⟩ := r1.get g1
    obtain ⟨u, hu, ru⟩ := r2.get g2
    refine ⟨⟨vs, us, v, u, q1, q2, hv, hu⟩, ?_⟩
    rintro _ _ ⟨T, v', u', rfl, hT, rfl, f1, f2⟩
    have e1 := f1 vs q1
    have e2 := f2 us q2
    rw [hv] at e1; cases e1
    rw [hu] at e2; cases e2
    have rr : Reps K μ' H' [v, u] [x, y] := (Reps.one ru).cons rv
    exact ⟨step_lay hS hT _, hS.lay hT _, .tup ⟨upd_same, hS.fresh hT⟩ rr.1 (rr.step (step_lay hS hT _)).2⟩
end
def iZip (a : RA) : RI := fun ρ S => (a ρ S).bind fun ds S1 => match ds with
  | [d, e] => match seqOf S1 d, seqOf S1 e with
    | some xs, some ys => .ok (zipL xs ys, .and (ckOf d xs) (ckOf e ys)) S1
    | _, _ => .no
  | _ => .no
section
variable {X : Cx} {W : WX} {tg e e2 : Expr} {re : RE} {ra : RA} {p pos tpos : Pos} {elts : List Expr} {kk : Nat}
theorem si_zip (hg : Gl X "zip") (hm : X.mg "zip" = none) (ha : SA X W [e, e2] ra) (hs : starEach [e, e2] X.env = (false, eval e X.env) :: starEach [e2] X.env := by rfl) (hpl : (backTo pos (starEach [e2] X.env)).any (·.1) = false := by rfl) :
    SI X W (.Tuple elts kk tpos) (.Call (.Name "zip" p) [e, e2] [] pos) (iZip ra) :=
  PI.imp (pi_jz hg hm ha hs hpl) fun σ H R ⟨μ, ρ, S, hS, hE, h⟩ => by
    refine ⟨μ, ρ, S, hS, hE, ?_⟩
    unfold iZip at h
    cases q : ra ρ S with
    | no => rw [q] at h; exact h.elim
    | ex x S1 => rw [q] at h; exact h
    | ok ds S1 =>
      rw [q] at h
      simp only [Out.bind_ok] at h
      intro μ1 H1 vs a b r
      match ds, r, h with
      | [d, e], r, h =>
        obtain ⟨v, u, rfl, rv, ru⟩ := r.get2
        dsimp only at h
        cases q1 : seqOf S1 d with
        | none => rw [q1] at h; exact h.elim
        | some xs =>
          cases q2 : seqOf S1 e with
          | none => rw [q1, q2] at h; exact h.elim
          | some ys =>
            rw [q1, q2] at h
            obtain ⟨l1, a1, ws1, rfl, s1, k1⟩ := src_keep a rv q1
            obtain ⟨l2, a2, ws2, rfl, s2, k2⟩ := src_keep a ru q2
            exact ⟨l1, l2, a1, a2, ws1, ws2, rfl, s1, s2, h μ1 H1 _ a b (itr_jz k1 k2)⟩
      | [], r, h => exact h.elim
      | [_], r, h => exact h.elim
      | _ :: _ :: _ :: _, r, h => exact h.elim
end
end PL

/-! the walk of the linked text (printed by gen.py) -/
namespace Wk
open PySem PySem.Spec PyProof.Rows L2 PL
def topS (i : Nat) : Stmt := PySem.Challenge.pw_pathshape_k71_looks_numbered.main.body.getD i (.Pass ⟨0, 0, 0, 0⟩)
abbrev s_inner_looks : Stmt := topS 2
abbrev N_inner_looks : List Str := ["look", "step"]
abbrev p_inner_looks : List Str := ["look"]
theorem sc_inner_looks : FnScope N_inner_looks p_inner_looks (defScope s_inner_looks) := ⟨rfl, rfl, rfl, by decide +kernel, rfl, by decide +kernel, by decide +kernel⟩
abbrev s_looks_of : Stmt := topS 3
abbrev N_looks_of : List Str := ["look", "some", "inner"]
abbrev p_looks_of : List Str := ["look"]
theorem sc_looks_of : FnScope N_looks_of p_looks_of (defScope s_looks_of) := ⟨rfl, rfl, rfl, by decide +kernel, rfl, by decide +kernel, by decide +kernel⟩
abbrev s_looks_in : Stmt := topS 4
abbrev N_looks_in : List Str := ["way", "some", "go", "look"]
abbrev p_looks_in : List Str := ["way"]
theorem sc_looks_in : FnScope N_looks_in p_looks_in (defScope s_looks_in) := ⟨rfl, rfl, rfl, by decide +kernel, rfl, by decide +kernel, by decide +kernel⟩
abbrev s_let_go_one : Stmt := topS 5
abbrev N_let_go_one : List Str := ["looks", "number", "some", "ahead", "look", "many"]
abbrev p_let_go_one : List Str := ["looks", "number"]
theorem sc_let_go_one : FnScope N_let_go_one p_let_go_one (defScope s_let_go_one) := ⟨rfl, rfl, rfl, by decide +kernel, rfl, by decide +kernel, by decide +kernel⟩
abbrev s_let_go_in : Stmt := topS 6
abbrev N_let_go_in : List Str := ["look", "number", "some", "step", "inner"]
abbrev p_let_go_in : List Str := ["look", "number"]
theorem sc_let_go_in : FnScope N_let_go_in p_let_go_in (defScope s_let_go_in) := ⟨rfl, rfl, rfl, by decide +kernel, rfl, by decide +kernel, by decide +kernel⟩
abbrev s_let_go : Stmt := topS 7
abbrev N_let_go : List Str := ["way", "number", "some", "step", "look"]
abbrev p_let_go : List Str := ["way", "number"]
theorem sc_let_go : FnScope N_let_go p_let_go (defScope s_let_go) := ⟨rfl, rfl, rfl, by decide +kernel, rfl, by decide +kernel, by decide +kernel⟩
abbrev s_l_next : Stmt := topS 9
abbrev N_l_next : List Str := ["_law_state_here", "_law_at", "_law_number", "_law_cell"]
abbrev p_l_next : List Str := ["_law_state_here"]
theorem sc_l_next : FnScope N_l_next p_l_next (defScope s_l_next) := ⟨rfl, rfl, rfl, by decide +kernel, rfl, by decide +kernel, by decide +kernel⟩
abbrev s_l_state : Stmt := topS 10
abbrev N_l_state : List Str := ["_law_script", "_law_seed", "_law_cell", "_law_rest"]
abbrev p_l_state : List Str := ["_law_script"]
theorem sc_l_state : FnScope N_l_state p_l_state (defScope s_l_state) := ⟨rfl, rfl, rfl, by decide +kernel, rfl, by decide +kernel, by decide +kernel⟩
abbrev s_l_pool : Stmt := topS 11
abbrev N_l_pool : List Str := ["_law_cell", "_law_many", "_law_letters", "_law_wide", "_law_at", "_law_pool_here", "_law_k", "_law_name", "_law_j"]
abbrev p_l_pool : List Str := ["_law_cell", "_law_many"]
theorem sc_l_pool : FnScope N_l_pool p_l_pool (defScope s_l_pool) := ⟨rfl, rfl, rfl, by decide +kernel, rfl, by decide +kernel, by decide +kernel⟩
abbrev s_l_look : Stmt := topS 12
abbrev N_l_look : List Str := ["_law_state_here", "_law_kinds", "_law_fuel", "_law_cell", "_law_way", "_law_kind", "_law_one", "_law_many", "_law_goes", "_law_k", "_law_go"]
abbrev p_l_look : List Str := ["_law_state_here", "_law_kinds", "_law_fuel"]
theorem sc_l_look : FnScope N_l_look p_l_look (defScope s_l_look) := ⟨rfl, rfl, rfl, by decide +kernel, rfl, by decide +kernel, by decide +kernel⟩
abbrev s_l_inner : Stmt := topS 13
abbrev N_l_inner : List Str := ["_law_look_here", "_law_step"]
abbrev p_l_inner : List Str := ["_law_look_here"]
theorem sc_l_inner : FnScope N_l_inner p_l_inner (defScope s_l_inner) := ⟨rfl, rfl, rfl, by decide +kernel, rfl, by decide +kernel, by decide +kernel⟩
abbrev s_l_all_in : Stmt := topS 14
abbrev N_l_all_in : List Str := ["_law_look_here", "_law_found", "_law_inner_here"]
abbrev p_l_all_in : List Str := ["_law_look_here"]
theorem sc_l_all_in : FnScope N_l_all_in p_l_all_in (defScope s_l_all_in) := ⟨rfl, rfl, rfl, by decide +kernel, rfl, by decide +kernel, by decide +kernel⟩
abbrev s_l_looks : Stmt := topS 15
abbrev N_l_looks : List Str := ["_law_way", "_law_found", "_law_go", "_law_look_here"]
abbrev p_l_looks : List Str := ["_law_way"]
theorem sc_l_looks : FnScope N_l_looks p_l_looks (defScope s_l_looks) := ⟨rfl, rfl, rfl, by decide +kernel, rfl, by decide +kernel, by decide +kernel⟩
abbrev s_l_free : Stmt := topS 16
abbrev N_l_free : List Str := ["_law_look_here", "_law_left", "_law_some", "_law_inner_here", "_law_step"]
abbrev p_l_free : List Str := ["_law_look_here", "_law_left"]
theorem sc_l_free : FnScope N_l_free p_l_free (defScope s_l_free) := ⟨rfl, rfl, rfl, by decide +kernel, rfl, by decide +kernel, by decide +kernel⟩
abbrev s_l_let : Stmt := topS 17
abbrev N_l_let : List Str := ["_law_way", "_law_number", "_law_left", "_law_go", "_law_look_here"]
abbrev p_l_let : List Str := ["_law_way", "_law_number"]
theorem sc_l_let : FnScope N_l_let p_l_let (defScope s_l_let) := ⟨rfl, rfl, rfl, by decide +kernel, rfl, by decide +kernel, by decide +kernel⟩
abbrev s_l_long : Stmt := topS 18
abbrev N_l_long : List Str := ["_law_state_here", "_law_kinds", "_law_cell", "_law_steps", "_law_k", "_law_go"]
abbrev p_l_long : List Str := ["_law_state_here", "_law_kinds"]
theorem sc_l_long : FnScope N_l_long p_l_long (defScope s_l_long) := ⟨rfl, rfl, rfl, by decide +kernel, rfl, by decide +kernel, by decide +kernel⟩
abbrev s_l_law : Stmt := topS 19
abbrev N_l_law : List Str := ["_law_script", "_law_state_here", "_law_kinds", "_law_way", "_law_other", "_law_due", "_law_told", "_law_begin", "_law_k", "_law_number", "_law_found"]
abbrev p_l_law : List Str := ["_law_script"]
theorem sc_l_law : FnScope N_l_law p_l_law (defScope s_l_law) := ⟨rfl, rfl, rfl, by decide +kernel, rfl, by decide +kernel, by decide +kernel⟩
inductive Fn where
  | inner_looks | looks_of | looks_in | let_go_one | let_go_in | let_go | l_next | l_state | l_pool | l_look | l_inner | l_all_in | l_looks | l_free | l_let | l_long | l_law
def k_ANY : Dv := .kt [.str "any"]
noncomputable def y_inner_looks_1 (G : Fn → List Dv → Sto → Out Dv) : RE := eBin idxD (eVar 1) (eCon (.int 1))
noncomputable def c_inner_looks (G : Fn → List Dv → Sto → Out Dv) : RC := cSeq (cIf (cBl (eBin eqD (eBin idxD (eVar 0) (eCon (.int 0))) (eCon (.str "way")))) (cRet (eComp (iSeq (eBin idxD (eVar 0) (eCon (.int 1)))) (.nm 1) (cYes) (y_inner_looks_1 G) [1])) (cNil)) (cSeq (cIf (cOr (cBl (eBin eqD (eBin idxD (eVar 0) (eCon (.int 0))) (eCon (.str "not")))) (cOr (cBl (eBin eqD (eBin idxD (eVar 0) (eCon (.int 0))) (eCon (.str "both")))) (cBl (eBin eqD (eBin idxD (eVar 0) (eCon (.int 0))) (eCon (.str "either")))))) (cRet (eCall listD (aCons (eSli (eVar 0) (oSome (eCon (.int 1))) (oNone)) (aNil)))) (cNil)) (cRet (eLst (aNil))))
noncomputable def b_looks_of_1 (G : Fn → List Dv → Sto → Out Dv) : RC := cExpr (eMeth "list" extendD (eVar 1) (aCons (eOwn 1 (G .looks_of) (aCons (eVar 2) (aNil))) (aNil)))
noncomputable def c_looks_of (G : Fn → List Dv → Sto → Out Dv) : RC := cSeq (cSet 1 (eLst (aCons (eVar 0) (aNil)))) (cSeq (cFor (iSeq (eOwn 1 (G .inner_looks) (aCons (eVar 0) (aNil)))) (.nm 2) (b_looks_of_1 G)) (cRet (eVar 1)))
noncomputable def b_looks_in_1 (G : Fn → List Dv → Sto → Out Dv) : RC := cExpr (eMeth "list" extendD (eVar 1) (aCons (eOwn 1 (G .looks_of) (aCons (eVar 3) (aNil))) (aNil)))
noncomputable def c_looks_in (G : Fn → List Dv → Sto → Out Dv) : RC := cSeq (cSet 1 (eLst (aNil))) (cSeq (cFor (iSeq (eVar 0)) (.tp [.nm 2, .nm 3]) (b_looks_in_1 G)) (cRet (eVar 1)))
noncomputable def b_let_go_one_1 (G : Fn → List Dv → Sto → Out Dv) : RC := cSeq (cSet 5 (eCall lenD (aCons (eOwn 1 (G .looks_of) (aCons (eVar 4) (aNil))) (aNil)))) (cSeq (cIf (cBl (eChain leD ltD (eVar 3) (eVar 1) (eBin addD (eVar 3) (eVar 5)))) (cSet 4 (eOwn 2 (G .let_go_in) (aCons (eVar 4) (aCons (eBin subD (eVar 1) (eVar 3)) (aNil))))) (cNil)) (cSeq (cExpr (eMeth "list" appendD (eVar 2) (aCons (eVar 4) (aNil)))) (cAug 3 addI (eVar 5))))
noncomputable def c_let_go_one (G : Fn → List Dv → Sto → Out Dv) : RC := cSeq (cSet 2 (eLst (aNil))) (cSeq (cSet 3 (eCon (.int 0))) (cSeq (cFor (iSeq (eVar 0)) (.nm 4) (b_let_go_one_1 G)) (cRet (eVar 2))))
noncomputable def y_let_go_in_1 (G : Fn → List Dv → Sto → Out Dv) : RE := eTup (aCons (eBin idxD (eVar 3) (eCon (.int 0))) (aCons (eVar 4) (aNil)))
noncomputable def c_let_go_in (G : Fn → List Dv → Sto → Out Dv) : RC := cSeq (cIf (cBl (eBin eqD (eVar 1) (eCon (.int 0)))) (cRet (eCon k_ANY)) (cNil)) (cSeq (cSet 2 (eOwn 2 (G .let_go_one) (aCons (eOwn 1 (G .inner_looks) (aCons (eVar 0) (aNil))) (aCons (eBin subD (eVar 1) (eCon (.int 1))) (aNil))))) (cSeq (cIf (cBl (eBin eqD (eBin idxD (eVar 0) (eCon (.int 0))) (eCon (.str "way")))) (cRet (eTup (aCons (eCon (.str "way")) (aCons (eCall tupleD (aCons (eComp (iZip (aCons (eBin idxD (eVar 0) (eCon (.int 1))) (aCons (eVar 2) (aNil)))) (.tp [.nm 3, .nm 4]) (cYes) (y_let_go_in_1 G) [3, 4]) (aNil))) (aNil))))) (cNil)) (cRet (eBin addD (eTup (aCons (eBin idxD (eVar 0) (eCon (.int 0))) (aNil))) (eCall tupleD (aCons (eVar 2) (aNil)))))))
noncomputable def y_let_go_1 (G : Fn → List Dv → Sto → Out Dv) : RE := eBin idxD (eVar 3) (eCon (.int 1))
noncomputable def y_let_go_2 (G : Fn → List Dv → Sto → Out Dv) : RE := eTup (aCons (eBin idxD (eVar 3) (eCon (.int 0))) (aCons (eVar 4) (aNil)))
noncomputable def c_let_go (G : Fn → List Dv → Sto → Out Dv) : RC := cSeq (cSet 2 (eOwn 2 (G .let_go_one) (aCons (eComp (iSeq (eVar 0)) (.nm 3) (cYes) (y_let_go_1 G) [3]) (aCons (eVar 1) (aNil))))) (cRet (eCall tupleD (aCons (eComp (iZip (aCons (eVar 0) (aCons (eVar 2) (aNil)))) (.tp [.nm 3, .nm 4]) (cYes) (y_let_go_2 G) [3, 4]) (aNil))))
noncomputable def c_l_next (G : Fn → List Dv → Sto → Out Dv) : RC := cSeq (cSet 1 (eBin idxD (eVar 0) (eCon (.int 0)))) (cSeq (cPut (eVar 0) (eCon (.int 0)) (eBin addD (eVar 1) (eCon (.int 1)))) (cSeq (cIf (cBl (eBin ltD (eVar 1) (eCall lenD (aCons (eBin idxD (eVar 0) (eCon (.int 1))) (aNil))))) (cRet (eBin modD (eBin idxD (eBin idxD (eVar 0) (eCon (.int 1))) (eVar 1)) (eCon (.int 1000000000000000000)))) (cNil)) (cSeq (cIf (cBl (eBin gtD (eBin idxD (eVar 0) (eCon (.int 4))) (eCon (.int 0)))) (cSeq (cSet 3 (eBin modD (eBin idxD (eVar 0) (eCon (.int 4))) (eCon (.int 1000000000000000000)))) (cSeq (cPut (eVar 0) (eCon (.int 4)) (eBin fdivD (eBin idxD (eVar 0) (eCon (.int 4))) (eCon (.int 1000000000000000000)))) (cRet (eVar 3)))) (cNil)) (cSeq (cSet 2 (eBin modD (eBin addD (eBin addD (eBin mulD (eVar 1) (eCon (.int 48271))) (eBin mulD (eBin idxD (eVar 0) (eCon (.int 2))) (eCon (.int 16807)))) (eCon (.int 12345))) (eCon (.int 2147483647)))) (cSeq (cSet 2 (eBin modD (eBin mulD (eVar 2) (eVar 2)) (eCon (.int 2147483629)))) (cRet (eBin modD (eBin mulD (eVar 2) (eBin addD (eVar 2) (eBin mulD (eCon (.int 16807)) (eVar 1)))) (eCon (.int 1000000007)))))))))
noncomputable def b_l_state_1 (G : Fn → List Dv → Sto → Out Dv) : RC := cSet 1 (eBin modD (eBin addD (eBin mulD (eVar 1) (eCon (.int 31))) (eVar 2)) (eCon (.int 1000003)))
noncomputable def c_l_state (G : Fn → List Dv → Sto → Out Dv) : RC := cSeq (cSet 1 (eCon (.int 0))) (cSeq (cFor (iSeq (eSli (eVar 0) (oNone) (oSome (eCon (.int 64))))) (.nm 2) (b_l_state_1 G)) (cSeq (cSet 3 (eCon (.int 0))) (cSeq (cIf (cBl (eBin gtD (eCall lenD (aCons (eVar 0) (aNil))) (eCon (.int 0)))) (cSet 3 (eBin fdivD (eCall absD (aCons (eBin idxD (eVar 0) (eUn negD (eCon (.int 1)))) (aNil))) (eCon (.int 1000000000000000000)))) (cNil)) (cRet (eLst (aCons (eCon (.int 0)) (aCons (eVar 0) (aCons (eVar 1) (aCons (eCon (.int 0)) (aCons (eVar 3) (aNil)))))))))))
noncomputable def b_l_pool_1 (G : Fn → List Dv → Sto → Out Dv) : RC := cIf (cBl (eBin eqD (eVar 8) (eVar 4))) (cSet 7 (eBin addD (eVar 7) (eBin idxD (eVar 2) (eBin modD (eBin addD (eBin fdivD (eVar 0) (eCon (.int 64))) (eVar 6)) (eCon (.int 26)))))) (cSet 7 (eBin addD (eVar 7) (eBin idxD (eVar 2) (eBin modD (eBin fdivD (eVar 0) (eBin addD (eCon (.int 64)) (eBin mulD (eCon (.int 5)) (eVar 8)))) (eCon (.int 26))))))
noncomputable def b_l_pool_2 (G : Fn → List Dv → Sto → Out Dv) : RC := cSeq (cSet 7 (eCon (.str ""))) (cSeq (cFor (iRange rng1 (aCons (eVar 3) (aNil))) (.nm 8) (b_l_pool_1 G)) (cSeq (cIf (cBl (eBin inD (eVar 7) (eTup (aCons (eCon (.str "start")) (aCons (eCon (.str "rule")) (aCons (eCon (.str "row")) (aCons (eCon (.str "mix")) (aCons (eCon (.str "many")) (aCons (eCon (.str "any")) (aCons (eCon (.str "kind")) (aCons (eCon (.str "not")) (aCons (eCon (.str "both")) (aCons (eCon (.str "either")) (aCons (eCon (.str "way")) (aCons (eCon (.str "mark")) (aNil)))))))))))))))) (cSet 7 (eBin addD (eVar 7) (eCon (.str "q")))) (cNil)) (cExpr (eMeth "list" appendD (eVar 5) (aCons (eVar 7) (aNil))))))
noncomputable def c_l_pool (G : Fn → List Dv → Sto → Out Dv) : RC := cSeq (cSet 2 (eCon (.str "abcdefghijklmnopqrstuvwxyz"))) (cSeq (cSet 3 (eBin addD (eCon (.int 1)) (eBin modD (eVar 0) (eCon (.int 8))))) (cSeq (cSet 4 (eBin modD (eBin fdivD (eVar 0) (eCon (.int 8))) (eVar 3))) (cSeq (cSet 5 (eLst (aNil))) (cSeq (cFor (iRange rng1 (aCons (eVar 1) (aNil))) (.nm 6) (b_l_pool_2 G)) (cRet (eVar 5))))))
noncomputable def y_l_look_1 (G : Fn → List Dv → Sto → Out Dv) : RE := eBin idxD (eLst (aCons (eCon (.str "down")) (aCons (eCon (.str "deep")) (aCons (eCon (.str "later")) (aNil))))) (eBin modD (eOwn 1 (G .l_next) (aCons (eVar 0) (aNil))) (eCon (.int 3)))
noncomputable def y_l_look_2 (G : Fn → List Dv → Sto → Out Dv) : RE := eTup (aCons (eVar 10) (aCons (eOwn 3 (G .l_look) (aCons (eVar 0) (aCons (eVar 1) (aCons (eBin subD (eVar 2) (eCon (.int 1))) (aNil))))) (aNil)))
noncomputable def c_l_look (G : Fn → List Dv → Sto → Out Dv) : RC := cSeq (cSet 3 (eOwn 1 (G .l_next) (aCons (eVar 0) (aNil)))) (cSeq (cSet 4 (eBin modD (eVar 3) (eCon (.int 12)))) (cSeq (cSet 5 (eTup (aCons (eCon (.str "kind")) (aCons (eBin idxD (eVar 1) (eBin modD (eBin fdivD (eVar 3) (eCon (.int 12))) (eCall lenD (aCons (eVar 1) (aNil))))) (aNil))))) (cSeq (cIf (cBl (eBin ltD (eVar 4) (eCon (.int 3)))) (cRet (eTup (aCons (eCon (.str "any")) (aNil)))) (cNil)) (cSeq (cIf (cOr (cBl (eBin ltD (eVar 4) (eCon (.int 6)))) (cBl (eBin ltD (eVar 2) (eCon (.int 1))))) (cRet (eVar 5)) (cNil)) (cSeq (cIf (cBl (eBin ltD (eVar 4) (eCon (.int 8)))) (cRet (eTup (aCons (eCon (.str "not")) (aCons (eOwn 3 (G .l_look) (aCons (eVar 0) (aCons (eVar 1) (aCons (eBin subD (eVar 2) (eCon (.int 1))) (aNil))))) (aNil))))) (cNil)) (cSeq (cIf (cAnd (cBl (eBin ltD (eVar 4) (eCon (.int 10)))) (cBl (eBin gtD (eBin idxD (eVar 0) (eCon (.int 3))) (eCon (.int 0))))) (cSeq (cSet 7 (eBin addD (eCon (.int 1)) (eBin modD (eBin fdivD (eVar 3) (eCon (.int 36))) (eBin idxD (eVar 0) (eCon (.int 3)))))) (cSeq (cPut (eVar 0) (eCon (.int 3)) (eBin subD (eBin idxD (eVar 0) (eCon (.int 3))) (eVar 7))) (cSeq (cSet 8 (eComp (iRange rng1 (aCons (eVar 7) (aNil))) (.nm 9) (cYes) (y_l_look_1 G) [9])) (cRet (eTup (aCons (eCon (.str "way")) (aCons (eCall tupleD (aCons (eComp (iSeq (eVar 8)) (.nm 10) (cYes) (y_l_look_2 G) [10]) (aNil))) (aNil)))))))) (cNil)) (cSeq (cSet 6 (eOwn 3 (G .l_look) (aCons (eVar 0) (aCons (eVar 1) (aCons (eBin subD (eVar 2) (eCon (.int 1))) (aNil)))))) (cRet (eTup (aCons (eBin idxD (eLst (aCons (eCon (.str "both")) (aCons (eCon (.str "either")) (aNil)))) (eBin modD (eBin fdivD (eVar 3) (eCon (.int 36))) (eCon (.int 2)))) (aCons (eVar 6) (aCons (eOwn 3 (G .l_look) (aCons (eVar 0) (aCons (eVar 1) (aCons (eBin subD (eVar 2) (eCon (.int 1))) (aNil))))) (aNil)))))))))))))
noncomputable def y_l_inner_1 (G : Fn → List Dv → Sto → Out Dv) : RE := eBin idxD (eVar 1) (eCon (.int 1))
noncomputable def c_l_inner (G : Fn → List Dv → Sto → Out Dv) : RC := cSeq (cIf (cBl (eBin eqD (eBin idxD (eVar 0) (eCon (.int 0))) (eCon (.str "way")))) (cRet (eComp (iSeq (eBin idxD (eVar 0) (eCon (.int 1)))) (.nm 1) (cYes) (y_l_inner_1 G) [1])) (cNil)) (cSeq (cIf (cBl (eBin inD (eBin idxD (eVar 0) (eCon (.int 0))) (eTup (aCons (eCon (.str "not")) (aCons (eCon (.str "both")) (aCons (eCon (.str "either")) (aNil))))))) (cRet (eCall listD (aCons (eSli (eVar 0) (oSome (eCon (.int 1))) (oNone)) (aNil)))) (cNil)) (cRet (eLst (aNil))))
noncomputable def b_l_all_in_1 (G : Fn → List Dv → Sto → Out Dv) : RC := cExpr (eMeth "list" extendD (eVar 1) (aCons (eOwn 1 (G .l_all_in) (aCons (eVar 2) (aNil))) (aNil)))
noncomputable def c_l_all_in (G : Fn → List Dv → Sto → Out Dv) : RC := cSeq (cSet 1 (eLst (aCons (eVar 0) (aNil)))) (cSeq (cFor (iSeq (eOwn 1 (G .l_inner) (aCons (eVar 0) (aNil)))) (.nm 2) (b_l_all_in_1 G)) (cRet (eVar 1)))
noncomputable def b_l_looks_1 (G : Fn → List Dv → Sto → Out Dv) : RC := cExpr (eMeth "list" extendD (eVar 1) (aCons (eOwn 1 (G .l_all_in) (aCons (eVar 3) (aNil))) (aNil)))
noncomputable def c_l_looks (G : Fn → List Dv → Sto → Out Dv) : RC := cSeq (cSet 1 (eLst (aNil))) (cSeq (cFor (iSeq (eVar 0)) (.tp [.nm 2, .nm 3]) (b_l_looks_1 G)) (cRet (eVar 1)))
noncomputable def y_l_free_1 (G : Fn → List Dv → Sto → Out Dv) : RE := eOwn 2 (G .l_free) (aCons (eVar 3) (aCons (eVar 1) (aNil)))
noncomputable def y_l_free_2 (G : Fn → List Dv → Sto → Out Dv) : RE := eTup (aCons (eBin idxD (eVar 4) (eCon (.int 0))) (aCons (eVar 3) (aNil)))
noncomputable def c_l_free (G : Fn → List Dv → Sto → Out Dv) : RC := cSeq (cPut (eVar 1) (eCon (.int 0)) (eBin subD (eBin idxD (eVar 1) (eCon (.int 0))) (eCon (.int 1)))) (cSeq (cIf (cBl (eBin eqD (eBin idxD (eVar 1) (eCon (.int 0))) (eUn negD (eCon (.int 1))))) (cRet (eTup (aCons (eCon (.str "any")) (aNil)))) (cNil)) (cSeq (cSet 2 (eComp (iSeq (eOwn 1 (G .l_inner) (aCons (eVar 0) (aNil)))) (.nm 3) (cYes) (y_l_free_1 G) [3])) (cSeq (cIf (cBl (eBin eqD (eBin idxD (eVar 0) (eCon (.int 0))) (eCon (.str "way")))) (cRet (eTup (aCons (eCon (.str "way")) (aCons (eCall tupleD (aCons (eComp (iZip (aCons (eBin idxD (eVar 0) (eCon (.int 1))) (aCons (eVar 2) (aNil)))) (.tp [.nm 4, .nm 3]) (cYes) (y_l_free_2 G) [4, 3]) (aNil))) (aNil))))) (cNil)) (cSeq (cIf (cBl (eBin inD (eBin idxD (eVar 0) (eCon (.int 0))) (eTup (aCons (eCon (.str "not")) (aCons (eCon (.str "both")) (aCons (eCon (.str "either")) (aNil))))))) (cRet (eBin addD (eTup (aCons (eBin idxD (eVar 0) (eCon (.int 0))) (aNil))) (eCall tupleD (aCons (eVar 2) (aNil))))) (cNil)) (cRet (eVar 0))))))
noncomputable def y_l_let_1 (G : Fn → List Dv → Sto → Out Dv) : RE := eTup (aCons (eVar 3) (aCons (eOwn 2 (G .l_free) (aCons (eVar 4) (aCons (eVar 2) (aNil)))) (aNil)))
noncomputable def c_l_let (G : Fn → List Dv → Sto → Out Dv) : RC := cSeq (cSet 2 (eLst (aCons (eVar 1) (aNil)))) (cRet (eCall tupleD (aCons (eComp (iSeq (eVar 0)) (.tp [.nm 3, .nm 4]) (cYes) (y_l_let_1 G) [3, 4]) (aNil))))
noncomputable def b_l_long_1 (G : Fn → List Dv → Sto → Out Dv) : RC := cSeq (cPut (eVar 0) (eCon (.int 3)) (eBin modD (eBin fdivD (eVar 2) (eCon (.int 3))) (eCon (.int 4)))) (cSeq (cSet 5 (eBin idxD (eLst (aCons (eCon (.str "down")) (aCons (eCon (.str "deep")) (aCons (eCon (.str "later")) (aNil))))) (eBin modD (eOwn 1 (G .l_next) (aCons (eVar 0) (aNil))) (eCon (.int 3))))) (cExpr (eMeth "list" appendD (eVar 3) (aCons (eTup (aCons (eVar 5) (aCons (eOwn 3 (G .l_look) (aCons (eVar 0) (aCons (eVar 1) (aCons (eBin addD (eCon (.int 1)) (eBin modD (eBin fdivD (eVar 2) (eCon (.int 12))) (eCon (.int 3)))) (aNil))))) (aNil)))) (aNil)))))
noncomputable def c_l_long (G : Fn → List Dv → Sto → Out Dv) : RC := cSeq (cSet 2 (eOwn 1 (G .l_next) (aCons (eVar 0) (aNil)))) (cSeq (cSet 3 (eLst (aNil))) (cSeq (cFor (iRange rng1 (aCons (eBin addD (eCon (.int 1)) (eBin modD (eVar 2) (eCon (.int 3)))) (aNil))) (.nm 4) (b_l_long_1 G)) (cRet (eCall tupleD (aCons (eVar 3) (aNil))))))
noncomputable def b_l_law_1 (G : Fn → List Dv → Sto → Out Dv) : RC := cSeq (cSet 9 (eBin modD (eBin addD (eVar 7) (eVar 8)) (eCall lenD (aCons (eVar 5) (aNil))))) (cSeq (cSet 10 (eOwn 2 (G .let_go) (aCons (eVar 3) (aCons (eVar 9) (aNil))))) (cIf (cOr (cNot (cBl (eUn (isiD "tuple") (eVar 10)))) (cBl (eBin neD (eVar 10) (eOwn 2 (G .l_let) (aCons (eVar 3) (aCons (eVar 9) (aNil))))))) (cRet (eCon (.bl false))) (cNil)))
noncomputable def c_l_law (G : Fn → List Dv → Sto → Out Dv) : RC := cSeq (cSet 1 (eOwn 1 (G .l_state) (aCons (eVar 0) (aNil)))) (cSeq (cSet 2 (eOwn 2 (G .l_pool) (aCons (eOwn 1 (G .l_next) (aCons (eVar 1) (aNil))) (aCons (eCon (.int 4)) (aNil))))) (cSeq (cSet 3 (eOwn 2 (G .l_long) (aCons (eVar 1) (aCons (eVar 2) (aNil))))) (cSeq (cSet 4 (eOwn 2 (G .l_long) (aCons (eVar 1) (aCons (eVar 2) (aNil))))) (cSeq (cSet 5 (eOwn 1 (G .l_looks) (aCons (eVar 3) (aNil)))) (cSeq (cSet 6 (eOwn 1 (G .looks_in) (aCons (eVar 3) (aNil)))) (cSeq (cIf (cOr (cNot (cBl (eUn (isiD "list") (eVar 6)))) (cBl (eBin neD (eVar 6) (eVar 5)))) (cRet (eCon (.bl false))) (cNil)) (cSeq (cExpr (eMeth "list" appendD (eVar 6) (aCons (eTup (aCons (eCon (.str "any")) (aNil))) (aNil)))) (cSeq (cIf (cBl (eBin neD (eOwn 1 (G .looks_in) (aCons (eVar 4) (aNil))) (eOwn 1 (G .l_looks) (aCons (eVar 4) (aNil))))) (cRet (eCon (.bl false))) (cNil)) (cSeq (cSet 7 (eBin modD (eOwn 1 (G .l_next) (aCons (eVar 1) (aNil))) (eCall lenD (aCons (eVar 5) (aNil))))) (cSeq (cFor (iRange rng1 (aCons (eCall min2D (aCons (eCon (.int 8)) (aCons (eCall lenD (aCons (eVar 5) (aNil))) (aNil)))) (aNil))) (.nm 8) (b_l_law_1 G)) (cRet (eBin eqD (eOwn 1 (G .looks_in) (aCons (eVar 3) (aNil))) (eVar 5)))))))))))))
noncomputable def Fs (G : Fn → List Dv → Sto → Out Dv) : Fn → List Dv → Sto → Out Dv
  | .inner_looks => runF (c_inner_looks G) 2 1
  | .looks_of => runF (c_looks_of G) 3 1
  | .looks_in => runF (c_looks_in G) 4 1
  | .let_go_one => runF (c_let_go_one G) 6 2
  | .let_go_in => runF (c_let_go_in G) 5 2
  | .let_go => runF (c_let_go G) 5 2
  | .l_next => runF (c_l_next G) 4 1
  | .l_state => runF (c_l_state G) 4 1
  | .l_pool => runF (c_l_pool G) 9 2
  | .l_look => runF (c_l_look G) 11 3
  | .l_inner => runF (c_l_inner G) 2 1
  | .l_all_in => runF (c_l_all_in G) 3 1
  | .l_looks => runF (c_l_looks G) 4 1
  | .l_free => runF (c_l_free G) 5 2
  | .l_let => runF (c_l_let G) 5 2
  | .l_long => runF (c_l_long G) 6 2
  | .l_law => runF (c_l_law G) 11 1
noncomputable def F : Nat → Fn → List Dv → Sto → Out Dv
  | 0, _ => fun _ _ => .no
  | k + 1, f => Fs (F k) f
theorem F_inner_looks (k : Nat) : F (k + 1) .inner_looks = runF (c_inner_looks (F k)) 2 1 := rfl
theorem F_looks_of (k : Nat) : F (k + 1) .looks_of = runF (c_looks_of (F k)) 3 1 := rfl
theorem F_looks_in (k : Nat) : F (k + 1) .looks_in = runF (c_looks_in (F k)) 4 1 := rfl
theorem F_let_go_one (k : Nat) : F (k + 1) .let_go_one = runF (c_let_go_one (F k)) 6 2 := rfl
theorem F_let_go_in (k : Nat) : F (k + 1) .let_go_in = runF (c_let_go_in (F k)) 5 2 := rfl
theorem F_let_go (k : Nat) : F (k + 1) .let_go = runF (c_let_go (F k)) 5 2 := rfl
theorem F_l_next (k : Nat) : F (k + 1) .l_next = runF (c_l_next (F k)) 4 1 := rfl
theorem F_l_state (k : Nat) : F (k + 1) .l_state = runF (c_l_state (F k)) 4 1 := rfl
theorem F_l_pool (k : Nat) : F (k + 1) .l_pool = runF (c_l_pool (F k)) 9 2 := rfl
theorem F_l_look (k : Nat) : F (k + 1) .l_look = runF (c_l_look (F k)) 11 3 := rfl
theorem F_l_inner (k : Nat) : F (k + 1) .l_inner = runF (c_l_inner (F k)) 2 1 := rfl
theorem F_l_all_in (k : Nat) : F (k + 1) .l_all_in = runF (c_l_all_in (F k)) 3 1 := rfl
theorem F_l_looks (k : Nat) : F (k + 1) .l_looks = runF (c_l_looks (F k)) 4 1 := rfl
theorem F_l_free (k : Nat) : F (k + 1) .l_free = runF (c_l_free (F k)) 5 2 := rfl
theorem F_l_let (k : Nat) : F (k + 1) .l_let = runF (c_l_let (F k)) 5 2 := rfl
theorem F_l_long (k : Nat) : F (k + 1) .l_long = runF (c_l_long (F k)) 6 2 := rfl
theorem F_l_law (k : Nat) : F (k + 1) .l_law = runF (c_l_law (F k)) 11 1 := rfl
def ar : Fn → Nat
  | .inner_looks => 1
  | .looks_of => 1
  | .looks_in => 1
  | .let_go_one => 2
  | .let_go_in => 2
  | .let_go => 2
  | .l_next => 1
  | .l_state => 1
  | .l_pool => 2
  | .l_look => 3
  | .l_inner => 1
  | .l_all_in => 1
  | .l_looks => 1
  | .l_free => 2
  | .l_let => 2
  | .l_long => 2
  | .l_law => 1
def nps : Fn → List Str
  | .inner_looks => p_inner_looks
  | .looks_of => p_looks_of
  | .looks_in => p_looks_in
  | .let_go_one => p_let_go_one
  | .let_go_in => p_let_go_in
  | .let_go => p_let_go
  | .l_next => p_l_next
  | .l_state => p_l_state
  | .l_pool => p_l_pool
  | .l_look => p_l_look
  | .l_inner => p_l_inner
  | .l_all_in => p_l_all_in
  | .l_looks => p_l_looks
  | .l_free => p_l_free
  | .l_let => p_l_let
  | .l_long => p_l_long
  | .l_law => p_l_law
structure Tx (K : PySem.W.Frag) (mg : Str → Option Value) (fa : Fn → Addr) (fd : Fn → FuncData) (ka_ANY : Addr) : Prop where
  f_inner_looks : Fun K "inner_looks" "inner_looks" s_inner_looks (fa .inner_looks) (fd .inner_looks)
  g_inner_looks : mg "inner_looks" = some (.ref (fa .inner_looks))
  b_inner_looks : Binds K (fd .inner_looks) p_inner_looks []
  f_looks_of : Fun K "looks_of" "looks_of" s_looks_of (fa .looks_of) (fd .looks_of)
  g_looks_of : mg "looks_of" = some (.ref (fa .looks_of))
  b_looks_of : Binds K (fd .looks_of) p_looks_of []
  f_looks_in : Fun K "looks_in" "looks_in" s_looks_in (fa .looks_in) (fd .looks_in)
  g_looks_in : mg "looks_in" = some (.ref (fa .looks_in))
  b_looks_in : Binds K (fd .looks_in) p_looks_in []
  f_let_go_one : Fun K "let_go_one" "let_go_one" s_let_go_one (fa .let_go_one) (fd .let_go_one)
  g_let_go_one : mg "let_go_one" = some (.ref (fa .let_go_one))
  b_let_go_one : Binds K (fd .let_go_one) p_let_go_one []
  f_let_go_in : Fun K "let_go_in" "let_go_in" s_let_go_in (fa .let_go_in) (fd .let_go_in)
  g_let_go_in : mg "let_go_in" = some (.ref (fa .let_go_in))
  b_let_go_in : Binds K (fd .let_go_in) p_let_go_in []
  f_let_go : Fun K "let_go" "let_go" s_let_go (fa .let_go) (fd .let_go)
  g_let_go : mg "let_go" = some (.ref (fa .let_go))
  b_let_go : Binds K (fd .let_go) p_let_go []
  f_l_next : Fun K "_law_next" "_law_next" s_l_next (fa .l_next) (fd .l_next)
  g_l_next : mg "_law_next" = some (.ref (fa .l_next))
  b_l_next : Binds K (fd .l_next) p_l_next []
  f_l_state : Fun K "_law_state" "_law_state" s_l_state (fa .l_state) (fd .l_state)
  g_l_state : mg "_law_state" = some (.ref (fa .l_state))
  b_l_state : Binds K (fd .l_state) p_l_state []
  f_l_pool : Fun K "_law_pool" "_law_pool" s_l_pool (fa .l_pool) (fd .l_pool)
  g_l_pool : mg "_law_pool" = some (.ref (fa .l_pool))
  b_l_pool : Binds K (fd .l_pool) p_l_pool []
  f_l_look : Fun K "_law_look" "_law_look" s_l_look (fa .l_look) (fd .l_look)
  g_l_look : mg "_law_look" = some (.ref (fa .l_look))
  b_l_look : Binds K (fd .l_look) p_l_look []
  f_l_inner : Fun K "_law_inner" "_law_inner" s_l_inner (fa .l_inner) (fd .l_inner)
  g_l_inner : mg "_law_inner" = some (.ref (fa .l_inner))
  b_l_inner : Binds K (fd .l_inner) p_l_inner []
  f_l_all_in : Fun K "_law_all_in" "_law_all_in" s_l_all_in (fa .l_all_in) (fd .l_all_in)
  g_l_all_in : mg "_law_all_in" = some (.ref (fa .l_all_in))
  b_l_all_in : Binds K (fd .l_all_in) p_l_all_in []
  f_l_looks : Fun K "_law_looks" "_law_looks" s_l_looks (fa .l_looks) (fd .l_looks)
  g_l_looks : mg "_law_looks" = some (.ref (fa .l_looks))
  b_l_looks : Binds K (fd .l_looks) p_l_looks []
  f_l_free : Fun K "_law_free" "_law_free" s_l_free (fa .l_free) (fd .l_free)
  g_l_free : mg "_law_free" = some (.ref (fa .l_free))
  b_l_free : Binds K (fd .l_free) p_l_free []
  f_l_let : Fun K "_law_let" "_law_let" s_l_let (fa .l_let) (fd .l_let)
  g_l_let : mg "_law_let" = some (.ref (fa .l_let))
  b_l_let : Binds K (fd .l_let) p_l_let []
  f_l_long : Fun K "_law_long" "_law_long" s_l_long (fa .l_long) (fd .l_long)
  g_l_long : mg "_law_long" = some (.ref (fa .l_long))
  b_l_long : Binds K (fd .l_long) p_l_long []
  f_l_law : Fun K "law" "law" s_l_law (fa .l_law) (fd .l_law)
  g_l_law : mg "law" = some (.ref (fa .l_law))
  b_l_law : Binds K (fd .l_law) p_l_law []
  z_abs : mg "abs" = none
  z_isinstance : mg "isinstance" = none
  z_len : mg "len" = none
  z_list : mg "list" = none
  z_min : mg "min" = none
  z_range : mg "range" = none
  z_tuple : mg "tuple" = none
  z_zip : mg "zip" = none
  k_ANY : mg "ANY" = some (.ref (ka_ANY)) ∧ RelV (.ref ka_ANY) (.ref ka_ANY) ∧ ∀ μ H, Rep K μ H (.ref ka_ANY) k_ANY
section
variable {P : Program} {w : World} {K : PySem.W.Frag} {mg : Str → Option Value} {base : Heap} {fa : Fn → Addr} {fd : Fn → FuncData} {ka_ANY : Addr}
theorem ok_inner_looks (T : Tx K mg fa fd ka_ANY) {k : Nat} (G : ∀ f, FnOk P w K mg base CX0 k (fa f) (fd f) (nps f) (spD K mg (F k f) (ar f))) : FnOk P w K mg base CX0 (k + 1) (fa .inner_looks) (fd .inner_looks) p_inner_looks (spD K mg (F (k + 1) .inner_looks) 1) := by
  refine fn_def (c := c_inner_looks (F k)) (m := 2) T.f_inner_looks sc_inner_looks (F_inner_looks k) rfl rfl fun cdv A outer s H E hr => ?_
  have hu1 := hu_of hr
  have hu64 := hr.units
  have hu65 := PL.hu65 hr
  exact scs_cons (sc_if (st_cmp (op_eqD hu64) o_eq (se_ix hu1 (se_var 0) (se_int)) (se_str) (nomark _)) (scs_one (sc_ret (se_compB [("step", 1)] rfl sc_inner_looks.nd (si_seq (se_ix hu1 (se_var 0) (se_int))) (blkOk_by (own := [("step", 1)]) (N := N_inner_looks) (sc := defScope s_inner_looks) (by decide +kernel)) (by intro _ _ _ _ _; exact sg_name sc_inner_looks.nd rfl (by first | exact Or.inl rfl | exact Or.inr rfl)) (by intro _ _ _ _ _; exact sts_nil) (by intro _ _ _ _ _; exact se_ix hu1 (se_var 1) (se_int)) rfl (by decide)))) (scs_nil)) (scs_cons (sc_if (st_w (sw_or (st_cmp (op_eqD hu64) o_eq (se_ix hu1 (se_var 0) (se_int)) (se_str) (nomark _)) (sw_or (st_cmp (op_eqD hu64) o_eq (se_ix hu1 (se_var 0) (se_int)) (se_str) (nomark _)) (sw_one_or (st_cmp (op_eqD hu64) o_eq (se_ix hu1 (se_var 0) (se_int)) (se_str) (nomark _)))))) (scs_one (sc_ret (se_callTy (call_listAll rfl) o_list (by rfl) T.z_list bt_list (sa_cons (se_sli (se_var 0) (so_some (se_int)) (so_none)) (sa_nil))))) (scs_nil)) (scs_one (sc_ret (se_lst (sa_nil)))))
theorem ok_looks_of (T : Tx K mg fa fd ka_ANY) {k : Nat} (G : ∀ f, FnOk P w K mg base CX0 k (fa f) (fd f) (nps f) (spD K mg (F k f) (ar f))) : FnOk P w K mg base CX0 (k + 1) (fa .looks_of) (fd .looks_of) p_looks_of (spD K mg (F (k + 1) .looks_of) 1) := by
  refine fn_def (c := c_looks_of (F k)) (m := 3) T.f_looks_of sc_looks_of (F_looks_of k) rfl rfl fun cdv A outer s H E hr => ?_
  have hu1 := hu_of hr
  have hu64 := hr.units
  have hu65 := PL.hu65 hr
  exact scs_cons (sc_set (i := 1) sc_looks_of.nd rfl (by first | exact Or.inl rfl | exact Or.inr rfl) (se_lst (sa_cons (se_var 0) (sa_nil)))) (scs_cons (sc_for PassesOwn.never rfl (si_seq (se_own (G .inner_looks) hr (by rfl) T.g_inner_looks T.f_inner_looks.kp T.b_inner_looks pas0 (sa_cons (se_var 0) (sa_nil)))) (sg_name sc_looks_of.nd rfl (by first | exact Or.inl rfl | exact Or.inr rfl)) (scs_one (sc_expr (se_meth PySem.F.plainAttrs_list PySem.F.slot_list_extend PySem.F.type_list_extend mt_extend o_extend (se_var 1) (sa_cons (se_own (G .looks_of) hr (by rfl) T.g_looks_of T.f_looks_of.kp T.b_looks_of pas0 (sa_cons (se_var 2) (sa_nil))) (sa_nil)))))) (scs_one (sc_ret (se_var 1))))
theorem ok_looks_in (T : Tx K mg fa fd ka_ANY) {k : Nat} (G : ∀ f, FnOk P w K mg base CX0 k (fa f) (fd f) (nps f) (spD K mg (F k f) (ar f))) : FnOk P w K mg base CX0 (k + 1) (fa .looks_in) (fd .looks_in) p_looks_in (spD K mg (F (k + 1) .looks_in) 1) := by
  refine fn_def (c := c_looks_in (F k)) (m := 4) T.f_looks_in sc_looks_in (F_looks_in k) rfl rfl fun cdv A outer s H E hr => ?_
  have hu1 := hu_of hr
  have hu64 := hr.units
  have hu65 := PL.hu65 hr
  exact scs_cons (sc_set (i := 1) sc_looks_in.nd rfl (by first | exact Or.inl rfl | exact Or.inr rfl) (se_lst (sa_nil))) (scs_cons (sc_for PassesOwn.never rfl (si_seq (se_var 0)) (sg_tup rfl (sgs_cons (sg_name sc_looks_in.nd rfl (by first | exact Or.inl rfl | exact Or.inr rfl)) (sgs_cons (sg_name sc_looks_in.nd rfl (by first | exact Or.inl rfl | exact Or.inr rfl)) (sgs_nil))) rfl) (scs_one (sc_expr (se_meth PySem.F.plainAttrs_list PySem.F.slot_list_extend PySem.F.type_list_extend mt_extend o_extend (se_var 1) (sa_cons (se_own (G .looks_of) hr (by rfl) T.g_looks_of T.f_looks_of.kp T.b_looks_of pas0 (sa_cons (se_var 3) (sa_nil))) (sa_nil)))))) (scs_one (sc_ret (se_var 1))))
theorem ok_let_go_one (T : Tx K mg fa fd ka_ANY) {k : Nat} (G : ∀ f, FnOk P w K mg base CX0 k (fa f) (fd f) (nps f) (spD K mg (F k f) (ar f))) : FnOk P w K mg base CX0 (k + 1) (fa .let_go_one) (fd .let_go_one) p_let_go_one (spD K mg (F (k + 1) .let_go_one) 2) := by
  refine fn_def (c := c_let_go_one (F k)) (m := 6) T.f_let_go_one sc_let_go_one (F_let_go_one k) rfl rfl fun cdv A outer s H E hr => ?_
  have hu1 := hu_of hr
  have hu64 := hr.units
  have hu65 := PL.hu65 hr
  exact scs_cons (sc_set (i := 2) sc_let_go_one.nd rfl (by first | exact Or.inl rfl | exact Or.inr rfl) (se_lst (sa_nil))) (scs_cons (sc_set (i := 3) sc_let_go_one.nd rfl (by first | exact Or.inl rfl | exact Or.inr rfl) (se_int)) (scs_cons (sc_for PassesOwn.never rfl (si_seq (se_var 0)) (sg_name sc_let_go_one.nd rfl (by first | exact Or.inl rfl | exact Or.inr rfl)) (scs_cons (sc_set (i := 5) sc_let_go_one.nd rfl (by first | exact Or.inl rfl | exact Or.inr rfl) (se_callB call_lenAll o_len (by rfl) T.z_len bt_len (sa_cons (se_own (G .looks_of) hr (by rfl) T.g_looks_of T.f_looks_of.kp T.b_looks_of pas0 (sa_cons (se_var 4) (sa_nil))) (sa_nil)))) (scs_cons (sc_if (st_chain op_le o_le op_ltAll o_lt (se_var 3) (se_var 1) (se_bin op_addAll o_add (se_var 3) (se_var 5))) (scs_one (sc_set (i := 4) sc_let_go_one.nd rfl (by first | exact Or.inl rfl | exact Or.inr rfl) (se_own (G .let_go_in) hr (by rfl) T.g_let_go_in T.f_let_go_in.kp T.b_let_go_in pas0 (sa_cons (se_var 4) (sa_cons (se_bin op_sub o_sub (se_var 1) (se_var 3)) (sa_nil)))))) (scs_nil)) (scs_cons (sc_expr (se_meth PySem.F.plainAttrs_list PySem.F.slot_list_append PySem.F.type_list_append mt_append o_append (se_var 2) (sa_cons (se_var 4) (sa_nil)))) (scs_one (sc_aug sc_let_go_one.nd rfl (by first | exact Or.inl rfl | exact Or.inr rfl) (se_var 5) ip_add o_addI)))))) (scs_one (sc_ret (se_var 2)))))
theorem ok_let_go_in (T : Tx K mg fa fd ka_ANY) {k : Nat} (G : ∀ f, FnOk P w K mg base CX0 k (fa f) (fd f) (nps f) (spD K mg (F k f) (ar f))) : FnOk P w K mg base CX0 (k + 1) (fa .let_go_in) (fd .let_go_in) p_let_go_in (spD K mg (F (k + 1) .let_go_in) 2) := by
  refine fn_def (c := c_let_go_in (F k)) (m := 5) T.f_let_go_in sc_let_go_in (F_let_go_in k) rfl rfl fun cdv A outer s H E hr => ?_
  have hu1 := hu_of hr
  have hu64 := hr.units
  have hu65 := PL.hu65 hr
  exact scs_cons (sc_if (st_cmp (op_eqD hu64) o_eq (se_var 1) (se_int) (nomark _)) (scs_one (sc_ret (se_con (pe_glob (by rfl) T.k_ANY.1 T.k_ANY.2.1) T.k_ANY.2.2))) (scs_nil)) (scs_cons (sc_set (i := 2) sc_let_go_in.nd rfl (by first | exact Or.inl rfl | exact Or.inr rfl) (se_own (G .let_go_one) hr (by rfl) T.g_let_go_one T.f_let_go_one.kp T.b_let_go_one pas0 (sa_cons (se_own (G .inner_looks) hr (by rfl) T.g_inner_looks T.f_inner_looks.kp T.b_inner_looks pas0 (sa_cons (se_var 0) (sa_nil))) (sa_cons (se_bin op_sub o_sub (se_var 1) (se_int)) (sa_nil))))) (scs_cons (sc_if (st_cmp (op_eqD hu64) o_eq (se_ix hu1 (se_var 0) (se_int)) (se_str) (nomark _)) (scs_one (sc_ret (se_tup (sa_cons (se_str) (sa_cons (se_callTy call_tuple_of o_tuple (by rfl) T.z_tuple bt_tuple (sa_cons (se_compB [("step", 3), ("inner", 4)] rfl sc_let_go_in.nd (si_zip (by rfl) T.z_zip (sa_cons (se_ix hu1 (se_var 0) (se_int)) (sa_cons (se_var 2) (sa_nil)))) (blkOk_by (own := [("step", 3), ("inner", 4)]) (N := N_let_go_in) (sc := defScope s_let_go_in) (by decide +kernel)) (by intro _ _ _ _ _; exact sg_tup rfl (sgs_cons (sg_name sc_let_go_in.nd rfl (by first | exact Or.inl rfl | exact Or.inr rfl)) (sgs_cons (sg_name sc_let_go_in.nd rfl (by first | exact Or.inl rfl | exact Or.inr rfl)) (sgs_nil))) rfl) (by intro _ _ _ _ _; exact sts_nil) (by intro _ _ _ _ _; exact se_tup (sa_cons (se_ix hu1 (se_var 3) (se_int)) (sa_cons (se_var 4) (sa_nil)))) rfl (by decide)) (sa_nil))) (sa_nil)))))) (scs_nil)) (scs_one (sc_ret (se_bin op_addAll o_add (se_tup (sa_cons (se_ix hu1 (se_var 0) (se_int)) (sa_nil))) (se_callTy call_tuple_of o_tuple (by rfl) T.z_tuple bt_tuple (sa_cons (se_var 2) (sa_nil))))))))
theorem ok_let_go (T : Tx K mg fa fd ka_ANY) {k : Nat} (G : ∀ f, FnOk P w K mg base CX0 k (fa f) (fd f) (nps f) (spD K mg (F k f) (ar f))) : FnOk P w K mg base CX0 (k + 1) (fa .let_go) (fd .let_go) p_let_go (spD K mg (F (k + 1) .let_go) 2) := by
  refine fn_def (c := c_let_go (F k)) (m := 5) T.f_let_go sc_let_go (F_let_go k) rfl rfl fun cdv A outer s H E hr => ?_
  have hu1 := hu_of hr
  have hu64 := hr.units
  have hu65 := PL.hu65 hr
  exact scs_cons (sc_set (i := 2) sc_let_go.nd rfl (by first | exact Or.inl rfl | exact Or.inr rfl) (se_own (G .let_go_one) hr (by rfl) T.g_let_go_one T.f_let_go_one.kp T.b_let_go_one pas0 (sa_cons (se_compB [("step", 3)] rfl sc_let_go.nd (si_seq (se_var 0)) (blkOk_by (own := [("step", 3)]) (N := N_let_go) (sc := defScope s_let_go) (by decide +kernel)) (by intro _ _ _ _ _; exact sg_name sc_let_go.nd rfl (by first | exact Or.inl rfl | exact Or.inr rfl)) (by intro _ _ _ _ _; exact sts_nil) (by intro _ _ _ _ _; exact se_ix hu1 (se_var 3) (se_int)) rfl (by decide)) (sa_cons (se_var 1) (sa_nil))))) (scs_one (sc_ret (se_callTy call_tuple_of o_tuple (by rfl) T.z_tuple bt_tuple (sa_cons (se_compB [("step", 3), ("look", 4)] rfl sc_let_go.nd (si_zip (by rfl) T.z_zip (sa_cons (se_var 0) (sa_cons (se_var 2) (sa_nil)))) (blkOk_by (own := [("step", 3), ("look", 4)]) (N := N_let_go) (sc := defScope s_let_go) (by decide +kernel)) (by intro _ _ _ _ _; exact sg_tup rfl (sgs_cons (sg_name sc_let_go.nd rfl (by first | exact Or.inl rfl | exact Or.inr rfl)) (sgs_cons (sg_name sc_let_go.nd rfl (by first | exact Or.inl rfl | exact Or.inr rfl)) (sgs_nil))) rfl) (by intro _ _ _ _ _; exact sts_nil) (by intro _ _ _ _ _; exact se_tup (sa_cons (se_ix hu1 (se_var 3) (se_int)) (sa_cons (se_var 4) (sa_nil)))) rfl (by decide)) (sa_nil)))))
theorem ok_l_next (T : Tx K mg fa fd ka_ANY) {k : Nat} (G : ∀ f, FnOk P w K mg base CX0 k (fa f) (fd f) (nps f) (spD K mg (F k f) (ar f))) : FnOk P w K mg base CX0 (k + 1) (fa .l_next) (fd .l_next) p_l_next (spD K mg (F (k + 1) .l_next) 1) := by
  refine fn_def (c := c_l_next (F k)) (m := 4) T.f_l_next sc_l_next (F_l_next k) rfl rfl fun cdv A outer s H E hr => ?_
  have hu1 := hu_of hr
  have hu64 := hr.units
  have hu65 := PL.hu65 hr
  exact scs_cons (sc_set (i := 1) sc_l_next.nd rfl (by first | exact Or.inl rfl | exact Or.inr rfl) (se_ix hu1 (se_var 0) (se_int))) (scs_cons (sc_put hu1 (se_var 0) (se_int) (se_bin op_addAll o_add (se_var 1) (se_int))) (scs_cons (sc_if (st_cmp op_ltAll o_lt (se_var 1) (se_callB call_lenAll o_len (by rfl) T.z_len bt_len (sa_cons (se_ix hu1 (se_var 0) (se_int)) (sa_nil))) (nomark _)) (scs_one (sc_ret (se_bin op_mod o_mod (se_ix hu1 (se_ix hu1 (se_var 0) (se_int)) (se_var 1)) (se_int)))) (scs_nil)) (scs_cons (sc_if (st_cmp op_gt o_gt (se_ix hu1 (se_var 0) (se_int)) (se_int) (nomark _)) (scs_cons (sc_set (i := 3) sc_l_next.nd rfl (by first | exact Or.inl rfl | exact Or.inr rfl) (se_bin op_mod o_mod (se_ix hu1 (se_var 0) (se_int)) (se_int))) (scs_cons (sc_put hu1 (se_var 0) (se_int) (se_bin op_fdivW o_fdiv (se_ix hu1 (se_var 0) (se_int)) (se_int))) (scs_one (sc_ret (se_var 3))))) (scs_nil)) (scs_cons (sc_set (i := 2) sc_l_next.nd rfl (by first | exact Or.inl rfl | exact Or.inr rfl) (se_bin op_mod o_mod (se_bin op_addAll o_add (se_bin op_addAll o_add (se_bin op_mulAll o_mul (se_var 1) (se_int)) (se_bin op_mulAll o_mul (se_ix hu1 (se_var 0) (se_int)) (se_int))) (se_int)) (se_int))) (scs_cons (sc_set (i := 2) sc_l_next.nd rfl (by first | exact Or.inl rfl | exact Or.inr rfl) (se_bin op_mod o_mod (se_bin op_mulAll o_mul (se_var 2) (se_var 2)) (se_int))) (scs_one (sc_ret (se_bin op_mod o_mod (se_bin op_mulAll o_mul (se_var 2) (se_bin op_addAll o_add (se_var 2) (se_bin op_mulAll o_mul (se_int) (se_var 1)))) (se_int)))))))))
theorem ok_l_state (T : Tx K mg fa fd ka_ANY) {k : Nat} (G : ∀ f, FnOk P w K mg base CX0 k (fa f) (fd f) (nps f) (spD K mg (F k f) (ar f))) : FnOk P w K mg base CX0 (k + 1) (fa .l_state) (fd .l_state) p_l_state (spD K mg (F (k + 1) .l_state) 1) := by
  refine fn_def (c := c_l_state (F k)) (m := 4) T.f_l_state sc_l_state (F_l_state k) rfl rfl fun cdv A outer s H E hr => ?_
  have hu1 := hu_of hr
  have hu64 := hr.units
  have hu65 := PL.hu65 hr
  exact scs_cons (sc_set (i := 1) sc_l_state.nd rfl (by first | exact Or.inl rfl | exact Or.inr rfl) (se_int)) (scs_cons (sc_for PassesOwn.never rfl (si_seq (se_sli (se_var 0) (so_none) (so_some (se_int)))) (sg_name sc_l_state.nd rfl (by first | exact Or.inl rfl | exact Or.inr rfl)) (scs_one (sc_set (i := 1) sc_l_state.nd rfl (by first | exact Or.inl rfl | exact Or.inr rfl) (se_bin op_mod o_mod (se_bin op_addAll o_add (se_bin op_mulAll o_mul (se_var 1) (se_int)) (se_var 2)) (se_int))))) (scs_cons (sc_set (i := 3) sc_l_state.nd rfl (by first | exact Or.inl rfl | exact Or.inr rfl) (se_int)) (scs_cons (sc_if (st_cmp op_gt o_gt (se_callB call_lenAll o_len (by rfl) T.z_len bt_len (sa_cons (se_var 0) (sa_nil))) (se_int) (nomark _)) (scs_one (sc_set (i := 3) sc_l_state.nd rfl (by first | exact Or.inl rfl | exact Or.inr rfl) (se_bin op_fdivW o_fdiv (se_callB call_abs o_abs (by rfl) T.z_abs bt_abs (sa_cons (se_ix hu1 (se_var 0) (se_neg (se_int))) (sa_nil))) (se_int)))) (scs_nil)) (scs_one (sc_ret (se_lst (sa_cons (se_int) (sa_cons (se_var 0) (sa_cons (se_var 1) (sa_cons (se_int) (sa_cons (se_var 3) (sa_nil))))))))))))
theorem ok_l_pool (T : Tx K mg fa fd ka_ANY) {k : Nat} (G : ∀ f, FnOk P w K mg base CX0 k (fa f) (fd f) (nps f) (spD K mg (F k f) (ar f))) : FnOk P w K mg base CX0 (k + 1) (fa .l_pool) (fd .l_pool) p_l_pool (spD K mg (F (k + 1) .l_pool) 2) := by
  refine fn_def (c := c_l_pool (F k)) (m := 9) T.f_l_pool sc_l_pool (F_l_pool k) rfl rfl fun cdv A outer s H E hr => ?_
  have hu1 := hu_of hr
  have hu64 := hr.units
  have hu65 := PL.hu65 hr
  exact scs_cons (sc_set (i := 2) sc_l_pool.nd rfl (by first | exact Or.inl rfl | exact Or.inr rfl) (se_str)) (scs_cons (sc_set (i := 3) sc_l_pool.nd rfl (by first | exact Or.inl rfl | exact Or.inr rfl) (se_bin op_addAll o_add (se_int) (se_bin op_mod o_mod (se_var 0) (se_int)))) (scs_cons (sc_set (i := 4) sc_l_pool.nd rfl (by first | exact Or.inl rfl | exact Or.inr rfl) (se_bin op_mod o_mod (se_bin op_fdivW o_fdiv (se_var 0) (se_int)) (se_var 3))) (scs_cons (sc_set (i := 5) sc_l_pool.nd rfl (by first | exact Or.inl rfl | exact Or.inr rfl) (se_lst (sa_nil))) (scs_cons (sc_for PassesOwn.never rfl (si_range1 (by rfl) T.z_range (sa_cons (se_var 1) (sa_nil))) (sg_name sc_l_pool.nd rfl (by first | exact Or.inl rfl | exact Or.inr rfl)) (scs_cons (sc_set (i := 7) sc_l_pool.nd rfl (by first | exact Or.inl rfl | exact Or.inr rfl) (se_str)) (scs_cons (sc_for PassesOwn.never rfl (si_range1 (by rfl) T.z_range (sa_cons (se_var 3) (sa_nil))) (sg_name sc_l_pool.nd rfl (by first | exact Or.inl rfl | exact Or.inr rfl)) (scs_one (sc_if (st_cmp (op_eqD hu64) o_eq (se_var 8) (se_var 4) (nomark _)) (scs_one (sc_set (i := 7) sc_l_pool.nd rfl (by first | exact Or.inl rfl | exact Or.inr rfl) (se_bin op_addAll o_add (se_var 7) (se_ix hu1 (se_var 2) (se_bin op_mod o_mod (se_bin op_addAll o_add (se_bin op_fdivW o_fdiv (se_var 0) (se_int)) (se_var 6)) (se_int)))))) (scs_one (sc_set (i := 7) sc_l_pool.nd rfl (by first | exact Or.inl rfl | exact Or.inr rfl) (se_bin op_addAll o_add (se_var 7) (se_ix hu1 (se_var 2) (se_bin op_mod o_mod (se_bin op_fdivW o_fdiv (se_var 0) (se_bin op_addAll o_add (se_int) (se_bin op_mulAll o_mul (se_int) (se_var 8)))) (se_int))))))))) (scs_cons (sc_if (st_cmp (op_inAll hu65) o_in (se_var 7) (se_tup (sa_cons (se_str) (sa_cons (se_str) (sa_cons (se_str) (sa_cons (se_str) (sa_cons (se_str) (sa_cons (se_str) (sa_cons (se_str) (sa_cons (se_str) (sa_cons (se_str) (sa_cons (se_str) (sa_cons (se_str) (sa_cons (se_str) (sa_nil)))))))))))))) (by rfl)) (scs_one (sc_set (i := 7) sc_l_pool.nd rfl (by first | exact Or.inl rfl | exact Or.inr rfl) (se_bin op_addAll o_add (se_var 7) (se_str)))) (scs_nil)) (scs_one (sc_expr (se_meth PySem.F.plainAttrs_list PySem.F.slot_list_append PySem.F.type_list_append mt_append o_append (se_var 5) (sa_cons (se_var 7) (sa_nil))))))))) (scs_one (sc_ret (se_var 5)))))))
theorem ok_l_look (T : Tx K mg fa fd ka_ANY) {k : Nat} (G : ∀ f, FnOk P w K mg base CX0 k (fa f) (fd f) (nps f) (spD K mg (F k f) (ar f))) : FnOk P w K mg base CX0 (k + 1) (fa .l_look) (fd .l_look) p_l_look (spD K mg (F (k + 1) .l_look) 3) := by
  refine fn_def (c := c_l_look (F k)) (m := 11) T.f_l_look sc_l_look (F_l_look k) rfl rfl fun cdv A outer s H E hr => ?_
  have hu1 := hu_of hr
  have hu64 := hr.units
  have hu65 := PL.hu65 hr
  exact scs_cons (sc_set (i := 3) sc_l_look.nd rfl (by first | exact Or.inl rfl | exact Or.inr rfl) (se_own (G .l_next) hr (by rfl) T.g_l_next T.f_l_next.kp T.b_l_next pas0 (sa_cons (se_var 0) (sa_nil)))) (scs_cons (sc_set (i := 4) sc_l_look.nd rfl (by first | exact Or.inl rfl | exact Or.inr rfl) (se_bin op_mod o_mod (se_var 3) (se_int))) (scs_cons (sc_set (i := 5) sc_l_look.nd rfl (by first | exact Or.inl rfl | exact Or.inr rfl) (se_tup (sa_cons (se_str) (sa_cons (se_ix hu1 (se_var 1) (se_bin op_mod o_mod (se_bin op_fdivW o_fdiv (se_var 3) (se_int)) (se_callB call_lenAll o_len (by rfl) T.z_len bt_len (sa_cons (se_var 1) (sa_nil))))) (sa_nil))))) (scs_cons (sc_if (st_cmp op_ltAll o_lt (se_var 4) (se_int) (nomark _)) (scs_one (sc_ret (se_tup (sa_cons (se_str) (sa_nil))))) (scs_nil)) (scs_cons (sc_if (st_w (sw_or (st_cmp op_ltAll o_lt (se_var 4) (se_int) (nomark _)) (sw_one_or (st_cmp op_ltAll o_lt (se_var 2) (se_int) (nomark _))))) (scs_one (sc_ret (se_var 5))) (scs_nil)) (scs_cons (sc_if (st_cmp op_ltAll o_lt (se_var 4) (se_int) (nomark _)) (scs_one (sc_ret (se_tup (sa_cons (se_str) (sa_cons (se_own (G .l_look) hr (by rfl) T.g_l_look T.f_l_look.kp T.b_l_look pas0 (sa_cons (se_var 0) (sa_cons (se_var 1) (sa_cons (se_bin op_sub o_sub (se_var 2) (se_int)) (sa_nil))))) (sa_nil)))))) (scs_nil)) (scs_cons (sc_if (st_w (sw_and (st_cmp op_ltAll o_lt (se_var 4) (se_int) (nomark _)) (sw_one_and (st_cmp op_gt o_gt (se_ix hu1 (se_var 0) (se_int)) (se_int) (nomark _))))) (scs_cons (sc_set (i := 7) sc_l_look.nd rfl (by first | exact Or.inl rfl | exact Or.inr rfl) (se_bin op_addAll o_add (se_int) (se_bin op_mod o_mod (se_bin op_fdivW o_fdiv (se_var 3) (se_int)) (se_ix hu1 (se_var 0) (se_int))))) (scs_cons (sc_put hu1 (se_var 0) (se_int) (se_bin op_sub o_sub (se_ix hu1 (se_var 0) (se_int)) (se_var 7))) (scs_cons (sc_setCompB (i := 8) [("_law_k", 9)] rfl sc_l_look.nd rfl rfl (sw_true rfl rfl rfl (by decide +kernel)) (si_range1 (by rfl) T.z_range (sa_cons (se_var 7) (sa_nil))) (blkOk_by (own := [("_law_k", 9)]) (N := N_l_look) (sc := defScope s_l_look) (by decide +kernel)) (by intro _ _ _ _ _; exact sg_name sc_l_look.nd rfl (by first | exact Or.inl rfl | exact Or.inr rfl)) (by intro _ _ _ _ _; exact sts_nil) (by intro _ _ _ _ _; exact se_ix hu1 (se_lst (sa_cons (se_str) (sa_cons (se_str) (sa_cons (se_str) (sa_nil))))) (se_bin op_mod o_mod (se_own (G .l_next) hr (by rfl) T.g_l_next T.f_l_next.kp T.b_l_next pas0 (sa_cons (se_var 0) (sa_nil))) (se_int))) rfl (by decide)) (scs_one (sc_ret (se_tup (sa_cons (se_str) (sa_cons (se_callTy call_tuple_of o_tuple (by rfl) T.z_tuple bt_tuple (sa_cons (se_compB [("_law_go", 10)] rfl sc_l_look.nd (si_seq (se_var 8)) (blkOk_by (own := [("_law_go", 10)]) (N := N_l_look) (sc := defScope s_l_look) (by decide +kernel)) (by intro _ _ _ _ _; exact sg_name sc_l_look.nd rfl (by first | exact Or.inl rfl | exact Or.inr rfl)) (by intro _ _ _ _ _; exact sts_nil) (by intro _ _ _ _ _; exact se_tup (sa_cons (se_var 10) (sa_cons (se_own (G .l_look) hr (by rfl) T.g_l_look T.f_l_look.kp T.b_l_look pas0 (sa_cons (se_var 0) (sa_cons (se_var 1) (sa_cons (se_bin op_sub o_sub (se_var 2) (se_int)) (sa_nil))))) (sa_nil)))) rfl (by decide)) (sa_nil))) (sa_nil))))))))) (scs_nil)) (scs_cons (sc_set (i := 6) sc_l_look.nd rfl (by first | exact Or.inl rfl | exact Or.inr rfl) (se_own (G .l_look) hr (by rfl) T.g_l_look T.f_l_look.kp T.b_l_look pas0 (sa_cons (se_var 0) (sa_cons (se_var 1) (sa_cons (se_bin op_sub o_sub (se_var 2) (se_int)) (sa_nil)))))) (scs_one (sc_ret (se_tup (sa_cons (se_ix hu1 (se_lst (sa_cons (se_str) (sa_cons (se_str) (sa_nil)))) (se_bin op_mod o_mod (se_bin op_fdivW o_fdiv (se_var 3) (se_int)) (se_int))) (sa_cons (se_var 6) (sa_cons (se_own (G .l_look) hr (by rfl) T.g_l_look T.f_l_look.kp T.b_l_look pas0 (sa_cons (se_var 0) (sa_cons (se_var 1) (sa_cons (se_bin op_sub o_sub (se_var 2) (se_int)) (sa_nil))))) (sa_nil))))))))))))))
theorem ok_l_inner (T : Tx K mg fa fd ka_ANY) {k : Nat} (G : ∀ f, FnOk P w K mg base CX0 k (fa f) (fd f) (nps f) (spD K mg (F k f) (ar f))) : FnOk P w K mg base CX0 (k + 1) (fa .l_inner) (fd .l_inner) p_l_inner (spD K mg (F (k + 1) .l_inner) 1) := by
  refine fn_def (c := c_l_inner (F k)) (m := 2) T.f_l_inner sc_l_inner (F_l_inner k) rfl rfl fun cdv A outer s H E hr => ?_
  have hu1 := hu_of hr
  have hu64 := hr.units
  have hu65 := PL.hu65 hr
  exact scs_cons (sc_if (st_cmp (op_eqD hu64) o_eq (se_ix hu1 (se_var 0) (se_int)) (se_str) (nomark _)) (scs_one (sc_ret (se_compB [("_law_step", 1)] rfl sc_l_inner.nd (si_seq (se_ix hu1 (se_var 0) (se_int))) (blkOk_by (own := [("_law_step", 1)]) (N := N_l_inner) (sc := defScope s_l_inner) (by decide +kernel)) (by intro _ _ _ _ _; exact sg_name sc_l_inner.nd rfl (by first | exact Or.inl rfl | exact Or.inr rfl)) (by intro _ _ _ _ _; exact sts_nil) (by intro _ _ _ _ _; exact se_ix hu1 (se_var 1) (se_int)) rfl (by decide)))) (scs_nil)) (scs_cons (sc_if (st_cmp (op_inAll hu65) o_in (se_ix hu1 (se_var 0) (se_int)) (se_tup (sa_cons (se_str) (sa_cons (se_str) (sa_cons (se_str) (sa_nil))))) (by rfl)) (scs_one (sc_ret (se_callTy (call_listAll rfl) o_list (by rfl) T.z_list bt_list (sa_cons (se_sli (se_var 0) (so_some (se_int)) (so_none)) (sa_nil))))) (scs_nil)) (scs_one (sc_ret (se_lst (sa_nil)))))
theorem ok_l_all_in (T : Tx K mg fa fd ka_ANY) {k : Nat} (G : ∀ f, FnOk P w K mg base CX0 k (fa f) (fd f) (nps f) (spD K mg (F k f) (ar f))) : FnOk P w K mg base CX0 (k + 1) (fa .l_all_in) (fd .l_all_in) p_l_all_in (spD K mg (F (k + 1) .l_all_in) 1) := by
  refine fn_def (c := c_l_all_in (F k)) (m := 3) T.f_l_all_in sc_l_all_in (F_l_all_in k) rfl rfl fun cdv A outer s H E hr => ?_
  have hu1 := hu_of hr
  have hu64 := hr.units
  have hu65 := PL.hu65 hr
  exact scs_cons (sc_set (i := 1) sc_l_all_in.nd rfl (by first | exact Or.inl rfl | exact Or.inr rfl) (se_lst (sa_cons (se_var 0) (sa_nil)))) (scs_cons (sc_for PassesOwn.never rfl (si_seq (se_own (G .l_inner) hr (by rfl) T.g_l_inner T.f_l_inner.kp T.b_l_inner pas0 (sa_cons (se_var 0) (sa_nil)))) (sg_name sc_l_all_in.nd rfl (by first | exact Or.inl rfl | exact Or.inr rfl)) (scs_one (sc_expr (se_meth PySem.F.plainAttrs_list PySem.F.slot_list_extend PySem.F.type_list_extend mt_extend o_extend (se_var 1) (sa_cons (se_own (G .l_all_in) hr (by rfl) T.g_l_all_in T.f_l_all_in.kp T.b_l_all_in pas0 (sa_cons (se_var 2) (sa_nil))) (sa_nil)))))) (scs_one (sc_ret (se_var 1))))
theorem ok_l_looks (T : Tx K mg fa fd ka_ANY) {k : Nat} (G : ∀ f, FnOk P w K mg base CX0 k (fa f) (fd f) (nps f) (spD K mg (F k f) (ar f))) : FnOk P w K mg base CX0 (k + 1) (fa .l_looks) (fd .l_looks) p_l_looks (spD K mg (F (k + 1) .l_looks) 1) := by
  refine fn_def (c := c_l_looks (F k)) (m := 4) T.f_l_looks sc_l_looks (F_l_looks k) rfl rfl fun cdv A outer s H E hr => ?_
  have hu1 := hu_of hr
  have hu64 := hr.units
  have hu65 := PL.hu65 hr
  exact scs_cons (sc_set (i := 1) sc_l_looks.nd rfl (by first | exact Or.inl rfl | exact Or.inr rfl) (se_lst (sa_nil))) (scs_cons (sc_for PassesOwn.never rfl (si_seq (se_var 0)) (sg_tup rfl (sgs_cons (sg_name sc_l_looks.nd rfl (by first | exact Or.inl rfl | exact Or.inr rfl)) (sgs_cons (sg_name sc_l_looks.nd rfl (by first | exact Or.inl rfl | exact Or.inr rfl)) (sgs_nil))) rfl) (scs_one (sc_expr (se_meth PySem.F.plainAttrs_list PySem.F.slot_list_extend PySem.F.type_list_extend mt_extend o_extend (se_var 1) (sa_cons (se_own (G .l_all_in) hr (by rfl) T.g_l_all_in T.f_l_all_in.kp T.b_l_all_in pas0 (sa_cons (se_var 3) (sa_nil))) (sa_nil)))))) (scs_one (sc_ret (se_var 1))))
theorem ok_l_free (T : Tx K mg fa fd ka_ANY) {k : Nat} (G : ∀ f, FnOk P w K mg base CX0 k (fa f) (fd f) (nps f) (spD K mg (F k f) (ar f))) : FnOk P w K mg base CX0 (k + 1) (fa .l_free) (fd .l_free) p_l_free (spD K mg (F (k + 1) .l_free) 2) := by
  refine fn_def (c := c_l_free (F k)) (m := 5) T.f_l_free sc_l_free (F_l_free k) rfl rfl fun cdv A outer s H E hr => ?_
  have hu1 := hu_of hr
  have hu64 := hr.units
  have hu65 := PL.hu65 hr
  exact scs_cons (sc_put hu1 (se_var 1) (se_int) (se_bin op_sub o_sub (se_ix hu1 (se_var 1) (se_int)) (se_int))) (scs_cons (sc_if (st_cmp (op_eqD hu64) o_eq (se_ix hu1 (se_var 1) (se_int)) (se_neg (se_int)) (nomark _)) (scs_one (sc_ret (se_tup (sa_cons (se_str) (sa_nil))))) (scs_nil)) (scs_cons (sc_setCompB (i := 2) [("_law_inner_here", 3)] rfl sc_l_free.nd rfl rfl (sw_true rfl rfl rfl (by decide +kernel)) (si_seq (se_own (G .l_inner) hr (by rfl) T.g_l_inner T.f_l_inner.kp T.b_l_inner pas0 (sa_cons (se_var 0) (sa_nil)))) (blkOk_by (own := [("_law_inner_here", 3)]) (N := N_l_free) (sc := defScope s_l_free) (by decide +kernel)) (by intro _ _ _ _ _; exact sg_name sc_l_free.nd rfl (by first | exact Or.inl rfl | exact Or.inr rfl)) (by intro _ _ _ _ _; exact sts_nil) (by intro _ _ _ _ _; exact se_own (G .l_free) hr (by rfl) T.g_l_free T.f_l_free.kp T.b_l_free pas0 (sa_cons (se_var 3) (sa_cons (se_var 1) (sa_nil)))) rfl (by decide)) (scs_cons (sc_if (st_cmp (op_eqD hu64) o_eq (se_ix hu1 (se_var 0) (se_int)) (se_str) (nomark _)) (scs_one (sc_ret (se_tup (sa_cons (se_str) (sa_cons (se_callTy call_tuple_of o_tuple (by rfl) T.z_tuple bt_tuple (sa_cons (se_compB [("_law_step", 4), ("_law_inner_here", 3)] rfl sc_l_free.nd (si_zip (by rfl) T.z_zip (sa_cons (se_ix hu1 (se_var 0) (se_int)) (sa_cons (se_var 2) (sa_nil)))) (blkOk_by (own := [("_law_step", 4), ("_law_inner_here", 3)]) (N := N_l_free) (sc := defScope s_l_free) (by decide +kernel)) (by intro _ _ _ _ _; exact sg_tup rfl (sgs_cons (sg_name sc_l_free.nd rfl (by first | exact Or.inl rfl | exact Or.inr rfl)) (sgs_cons (sg_name sc_l_free.nd rfl (by first | exact Or.inl rfl | exact Or.inr rfl)) (sgs_nil))) rfl) (by intro _ _ _ _ _; exact sts_nil) (by intro _ _ _ _ _; exact se_tup (sa_cons (se_ix hu1 (se_var 4) (se_int)) (sa_cons (se_var 3) (sa_nil)))) rfl (by decide)) (sa_nil))) (sa_nil)))))) (scs_nil)) (scs_cons (sc_if (st_cmp (op_inAll hu65) o_in (se_ix hu1 (se_var 0) (se_int)) (se_tup (sa_cons (se_str) (sa_cons (se_str) (sa_cons (se_str) (sa_nil))))) (by rfl)) (scs_one (sc_ret (se_bin op_addAll o_add (se_tup (sa_cons (se_ix hu1 (se_var 0) (se_int)) (sa_nil))) (se_callTy call_tuple_of o_tuple (by rfl) T.z_tuple bt_tuple (sa_cons (se_var 2) (sa_nil)))))) (scs_nil)) (scs_one (sc_ret (se_var 0)))))))
theorem ok_l_let (T : Tx K mg fa fd ka_ANY) {k : Nat} (G : ∀ f, FnOk P w K mg base CX0 k (fa f) (fd f) (nps f) (spD K mg (F k f) (ar f))) : FnOk P w K mg base CX0 (k + 1) (fa .l_let) (fd .l_let) p_l_let (spD K mg (F (k + 1) .l_let) 2) := by
  refine fn_def (c := c_l_let (F k)) (m := 5) T.f_l_let sc_l_let (F_l_let k) rfl rfl fun cdv A outer s H E hr => ?_
  have hu1 := hu_of hr
  have hu64 := hr.units
  have hu65 := PL.hu65 hr
  exact scs_cons (sc_set (i := 2) sc_l_let.nd rfl (by first | exact Or.inl rfl | exact Or.inr rfl) (se_lst (sa_cons (se_var 1) (sa_nil)))) (scs_one (sc_ret (se_callTy call_tuple_of o_tuple (by rfl) T.z_tuple bt_tuple (sa_cons (se_compB [("_law_go", 3), ("_law_look_here", 4)] rfl sc_l_let.nd (si_seq (se_var 0)) (blkOk_by (own := [("_law_go", 3), ("_law_look_here", 4)]) (N := N_l_let) (sc := defScope s_l_let) (by decide +kernel)) (by intro _ _ _ _ _; exact sg_tup rfl (sgs_cons (sg_name sc_l_let.nd rfl (by first | exact Or.inl rfl | exact Or.inr rfl)) (sgs_cons (sg_name sc_l_let.nd rfl (by first | exact Or.inl rfl | exact Or.inr rfl)) (sgs_nil))) rfl) (by intro _ _ _ _ _; exact sts_nil) (by intro _ _ _ _ _; exact se_tup (sa_cons (se_var 3) (sa_cons (se_own (G .l_free) hr (by rfl) T.g_l_free T.f_l_free.kp T.b_l_free pas0 (sa_cons (se_var 4) (sa_cons (se_var 2) (sa_nil)))) (sa_nil)))) rfl (by decide)) (sa_nil)))))
theorem ok_l_long (T : Tx K mg fa fd ka_ANY) {k : Nat} (G : ∀ f, FnOk P w K mg base CX0 k (fa f) (fd f) (nps f) (spD K mg (F k f) (ar f))) : FnOk P w K mg base CX0 (k + 1) (fa .l_long) (fd .l_long) p_l_long (spD K mg (F (k + 1) .l_long) 2) := by
  refine fn_def (c := c_l_long (F k)) (m := 6) T.f_l_long sc_l_long (F_l_long k) rfl rfl fun cdv A outer s H E hr => ?_
  have hu1 := hu_of hr
  have hu64 := hr.units
  have hu65 := PL.hu65 hr
  exact scs_cons (sc_set (i := 2) sc_l_long.nd rfl (by first | exact Or.inl rfl | exact Or.inr rfl) (se_own (G .l_next) hr (by rfl) T.g_l_next T.f_l_next.kp T.b_l_next pas0 (sa_cons (se_var 0) (sa_nil)))) (scs_cons (sc_set (i := 3) sc_l_long.nd rfl (by first | exact Or.inl rfl | exact Or.inr rfl) (se_lst (sa_nil))) (scs_cons (sc_for PassesOwn.never rfl (si_range1 (by rfl) T.z_range (sa_cons (se_bin op_addAll o_add (se_int) (se_bin op_mod o_mod (se_var 2) (se_int))) (sa_nil))) (sg_name sc_l_long.nd rfl (by first | exact Or.inl rfl | exact Or.inr rfl)) (scs_cons (sc_put hu1 (se_var 0) (se_int) (se_bin op_mod o_mod (se_bin op_fdivW o_fdiv (se_var 2) (se_int)) (se_int))) (scs_cons (sc_set (i := 5) sc_l_long.nd rfl (by first | exact Or.inl rfl | exact Or.inr rfl) (se_ix hu1 (se_lst (sa_cons (se_str) (sa_cons (se_str) (sa_cons (se_str) (sa_nil))))) (se_bin op_mod o_mod (se_own (G .l_next) hr (by rfl) T.g_l_next T.f_l_next.kp T.b_l_next pas0 (sa_cons (se_var 0) (sa_nil))) (se_int)))) (scs_one (sc_expr (se_meth PySem.F.plainAttrs_list PySem.F.slot_list_append PySem.F.type_list_append mt_append o_append (se_var 3) (sa_cons (se_tup (sa_cons (se_var 5) (sa_cons (se_own (G .l_look) hr (by rfl) T.g_l_look T.f_l_look.kp T.b_l_look pas0 (sa_cons (se_var 0) (sa_cons (se_var 1) (sa_cons (se_bin op_addAll o_add (se_int) (se_bin op_mod o_mod (se_bin op_fdivW o_fdiv (se_var 2) (se_int)) (se_int))) (sa_nil))))) (sa_nil)))) (sa_nil)))))))) (scs_one (sc_ret (se_callTy call_tuple_of o_tuple (by rfl) T.z_tuple bt_tuple (sa_cons (se_var 3) (sa_nil)))))))
theorem ok_l_law (T : Tx K mg fa fd ka_ANY) {k : Nat} (G : ∀ f, FnOk P w K mg base CX0 k (fa f) (fd f) (nps f) (spD K mg (F k f) (ar f))) : FnOk P w K mg base CX0 (k + 1) (fa .l_law) (fd .l_law) p_l_law (spD K mg (F (k + 1) .l_law) 1) := by
  refine fn_def (c := c_l_law (F k)) (m := 11) T.f_l_law sc_l_law (F_l_law k) rfl rfl fun cdv A outer s H E hr => ?_
  have hu1 := hu_of hr
  have hu64 := hr.units
  have hu65 := PL.hu65 hr
  exact scs_cons (sc_set (i := 1) sc_l_law.nd rfl (by first | exact Or.inl rfl | exact Or.inr rfl) (se_own (G .l_state) hr (by rfl) T.g_l_state T.f_l_state.kp T.b_l_state pas0 (sa_cons (se_var 0) (sa_nil)))) (scs_cons (sc_set (i := 2) sc_l_law.nd rfl (by first | exact Or.inl rfl | exact Or.inr rfl) (se_own (G .l_pool) hr (by rfl) T.g_l_pool T.f_l_pool.kp T.b_l_pool pas0 (sa_cons (se_own (G .l_next) hr (by rfl) T.g_l_next T.f_l_next.kp T.b_l_next pas0 (sa_cons (se_var 1) (sa_nil))) (sa_cons (se_int) (sa_nil))))) (scs_cons (sc_set (i := 3) sc_l_law.nd rfl (by first | exact Or.inl rfl | exact Or.inr rfl) (se_own (G .l_long) hr (by rfl) T.g_l_long T.f_l_long.kp T.b_l_long pas0 (sa_cons (se_var 1) (sa_cons (se_var 2) (sa_nil))))) (scs_cons (sc_set (i := 4) sc_l_law.nd rfl (by first | exact Or.inl rfl | exact Or.inr rfl) (se_own (G .l_long) hr (by rfl) T.g_l_long T.f_l_long.kp T.b_l_long pas0 (sa_cons (se_var 1) (sa_cons (se_var 2) (sa_nil))))) (scs_cons (sc_set (i := 5) sc_l_law.nd rfl (by first | exact Or.inl rfl | exact Or.inr rfl) (se_own (G .l_looks) hr (by rfl) T.g_l_looks T.f_l_looks.kp T.b_l_looks pas0 (sa_cons (se_var 3) (sa_nil)))) (scs_cons (sc_set (i := 6) sc_l_law.nd rfl (by first | exact Or.inl rfl | exact Or.inr rfl) (se_own (G .looks_in) hr (by rfl) T.g_looks_in T.f_looks_in.kp T.b_looks_in pas0 (sa_cons (se_var 3) (sa_nil)))) (scs_cons (sc_if (st_w (sw_or (st_not (st_bl (se_isi (by rfl) T.z_isinstance (by rfl) T.z_list bt_list (se_var 6)))) (sw_one_or (st_cmp (op_neD hu64) o_ne (se_var 6) (se_var 5) (nomark _))))) (scs_one (sc_ret (se_bl))) (scs_nil)) (scs_cons (sc_expr (se_meth PySem.F.plainAttrs_list PySem.F.slot_list_append PySem.F.type_list_append mt_append o_append (se_var 6) (sa_cons (se_tup (sa_cons (se_str) (sa_nil))) (sa_nil)))) (scs_cons (sc_if (st_cmp (op_neD hu64) o_ne (se_own (G .looks_in) hr (by rfl) T.g_looks_in T.f_looks_in.kp T.b_looks_in pas0 (sa_cons (se_var 4) (sa_nil))) (se_own (G .l_looks) hr (by rfl) T.g_l_looks T.f_l_looks.kp T.b_l_looks pas0 (sa_cons (se_var 4) (sa_nil))) (nomark _)) (scs_one (sc_ret (se_bl))) (scs_nil)) (scs_cons (sc_set (i := 7) sc_l_law.nd rfl (by first | exact Or.inl rfl | exact Or.inr rfl) (se_bin op_mod o_mod (se_own (G .l_next) hr (by rfl) T.g_l_next T.f_l_next.kp T.b_l_next pas0 (sa_cons (se_var 1) (sa_nil))) (se_callB call_lenAll o_len (by rfl) T.z_len bt_len (sa_cons (se_var 5) (sa_nil))))) (scs_cons (sc_for PassesOwn.never rfl (si_range1 (by rfl) T.z_range (sa_cons (se_callB (call_min2 rfl) o_min2 (by rfl) T.z_min bt_min (sa_cons (se_int) (sa_cons (se_callB call_lenAll o_len (by rfl) T.z_len bt_len (sa_cons (se_var 5) (sa_nil))) (sa_nil)))) (sa_nil))) (sg_name sc_l_law.nd rfl (by first | exact Or.inl rfl | exact Or.inr rfl)) (scs_cons (sc_set (i := 9) sc_l_law.nd rfl (by first | exact Or.inl rfl | exact Or.inr rfl) (se_bin op_mod o_mod (se_bin op_addAll o_add (se_var 7) (se_var 8)) (se_callB call_lenAll o_len (by rfl) T.z_len bt_len (sa_cons (se_var 5) (sa_nil))))) (scs_cons (sc_set (i := 10) sc_l_law.nd rfl (by first | exact Or.inl rfl | exact Or.inr rfl) (se_own (G .let_go) hr (by rfl) T.g_let_go T.f_let_go.kp T.b_let_go pas0 (sa_cons (se_var 3) (sa_cons (se_var 9) (sa_nil))))) (scs_one (sc_if (st_w (sw_or (st_not (st_bl (se_isi (by rfl) T.z_isinstance (by rfl) T.z_tuple bt_tuple (se_var 10)))) (sw_one_or (st_cmp (op_neD hu64) o_ne (se_var 10) (se_own (G .l_let) hr (by rfl) T.g_l_let T.f_l_let.kp T.b_l_let pas0 (sa_cons (se_var 3) (sa_cons (se_var 9) (sa_nil)))) (nomark _))))) (scs_one (sc_ret (se_bl))) (scs_nil)))))) (scs_one (sc_ret (se_cmp (op_eqD hu64) o_eq (se_own (G .looks_in) hr (by rfl) T.g_looks_in T.f_looks_in.kp T.b_looks_in pas0 (sa_cons (se_var 3) (sa_nil))) (se_var 5) (nomark _))))))))))))))
theorem ok_all (T : Tx K mg fa fd ka_ANY) : ∀ (k : Nat) (f : Fn), FnOk P w K mg base CX0 k (fa f) (fd f) (nps f) (spD K mg (F k f) (ar f))
  | 0, f => fn_zero (by cases f <;> rfl)
  | k + 1, f => by
    have G := ok_all T k
    cases f
    · exact ok_inner_looks T G
    · exact ok_looks_of T G
    · exact ok_looks_in T G
    · exact ok_let_go_one T G
    · exact ok_let_go_in T G
    · exact ok_let_go T G
    · exact ok_l_next T G
    · exact ok_l_state T G
    · exact ok_l_pool T G
    · exact ok_l_look T G
    · exact ok_l_inner T G
    · exact ok_l_all_in T G
    · exact ok_l_looks T G
    · exact ok_l_free T G
    · exact ok_l_let T G
    · exact ok_l_long T G
    · exact ok_l_law T G
end
end Wk

namespace Wk
open PySem PL
/-! looks as data -/
def w3 : List Str := ["not", "both", "either"]
def anyT : Dv := .tup [.str "any"]
def stepD : Dv → Str × Dv → Dv := fun _ s => .tup [.str s.1, s.2]
def stp (s : Str × Dv) : Dv := .tup [.str s.1, s.2]
def LW : Nat → Dv → Prop
  | 0, d => d = anyT ∨ ∃ x, Sk x ∧ d = .tup [.str "kind", .str x]
  | h + 1, d => LW h d ∨ (∃ w r, w ∈ w3 ∧ d = .tup (.str w :: r) ∧ r.length ≤ 3 ∧ ∀ e ∈ r, LW h e) ∨ (∃ ss : List (Str × Dv), d = .tup [.str "way", .tup (ss.map stp)] ∧ ss.length ≤ 3 ∧ ∀ s ∈ ss, Sk s.1 ∧ LW h s.2)
theorem LW.up {h : Nat} {d : Dv} (k : LW h d) : ∀ {h' : Nat}, h ≤ h' → LW h' d
  | 0, hh => by cases (Nat.le_zero.mp hh); exact k
  | h' + 1, hh => by
    rcases Nat.lt_or_ge h (h' + 1) with q | q
    · exact .inl (LW.up k (by omega))
    · have : h = h' + 1 := by omega
      subst this; exact k
/-- what stands in a look, by its outermost word -/
inductive Vw (h : Nat) (d : Dv) : Prop
  | any (e : d = anyT)
  | kind (x : Str) (k : Sk x) (e : d = .tup [.str "kind", .str x])
  | ops (w : Str) (r : List Dv) (m : w ∈ w3) (e : d = .tup (.str w :: r)) (l : r.length ≤ 3) (p : 0 < h) (c : ∀ x ∈ r, LW (h - 1) x)
  | way (ss : List (Str × Dv)) (e : d = .tup [.str "way", .tup (ss.map stp)]) (l : ss.length ≤ 3) (p : 0 < h) (c : ∀ s ∈ ss, Sk s.1 ∧ LW (h - 1) s.2)
theorem LW.vw : ∀ {h : Nat} {d : Dv}, LW h d → Vw h d
  | 0, d, k => by
    rcases k with k | ⟨x, hx, k⟩
    · exact .any k
    · exact .kind x hx k
  | h + 1, d, k => by
    rcases k with k | ⟨w, r, hw, e, hl, hr⟩ | ⟨ss, e, hl, hs⟩
    · cases LW.vw k with
      | any e => exact .any e
      | kind x k e => exact .kind x k e
      | ops w r m e l p c => exact .ops w r m e l (by omega) fun x hx => (c x hx).up (by omega)
      | way ss e l p c => exact .way ss e l (by omega) fun s hs => ⟨(c s hs).1, (c s hs).2.up (by omega)⟩
    · exact .ops w r hw e hl (by omega) hr
    · exact .way ss e hl (by omega) hs
theorem way_no : ("way" : Str) ∉ w3 := by decide +kernel
theorem w3_way {w : Str} (h : w ∈ w3) : ¬ w = "way" := fun e => way_no (e ▸ h)
def snd2 : Dv → Dv
  | .tup [_, e] => e
  | d => d
def inn : Dv → List Dv
  | .tup (.str w :: r) => if w = "way" then (match r with | [.tup ss] => ss.map snd2 | _ => []) else if w ∈ w3 then r else []
  | _ => []
theorem inn_any : inn anyT = [] := by
  simp only [anyT, inn]
  rw [if_neg (by decide +kernel), if_neg (by decide +kernel)]
theorem inn_kind (x : Str) : inn (.tup [.str "kind", .str x]) = [] := by
  simp only [inn]
  rw [if_neg (by decide +kernel), if_neg (by decide +kernel)]
theorem inn_ops {w : Str} (h : w ∈ w3) (r : List Dv) : inn (.tup (.str w :: r)) = r := by
  show (if w = "way" then _ else if w ∈ w3 then _ else _) = _
  rw [if_neg (w3_way h), if_pos h]
theorem snd2_stp (ss : List (Str × Dv)) : (ss.map stp).map snd2 = ss.map (·.2) := by rw [List.map_map]; rfl
theorem inn_way (ss : List (Str × Dv)) : inn (.tup [.str "way", .tup (ss.map stp)]) = ss.map (·.2) := by
  simp only [inn]
  rw [if_pos trivial]; exact snd2_stp ss
theorem inn_ok {h : Nat} {d : Dv} (k : LW h d) : (inn d).length ≤ 3 ∧ ∀ e ∈ inn d, LW (h - 1) e ∧ 0 < h := by
  cases k.vw with
  | any e => subst e; rw [inn_any]; simp
  | kind x k e => subst e; rw [inn_kind]; simp
  | ops w r m e l p c => subst e; rw [inn_ops m]; exact ⟨l, fun e he => ⟨c e he, p⟩⟩
  | way ss e l p c =>
    subst e; rw [inn_way]
    refine ⟨by simpa using l, fun e he => ?_⟩
    obtain ⟨s, hs, rfl⟩ := List.mem_map.mp he
    exact ⟨(c s hs).2, p⟩
theorem inn0 {d : Dv} (k : LW 0 d) : inn d = [] := by
  rcases k with rfl | ⟨x, _, rfl⟩
  · exact inn_any
  · exact inn_kind x
/-- all looks in a look, each ahead of those in it -/
def pre : Nat → Dv → List Dv
  | 0, d => [d]
  | h + 1, d => d :: ((inn d).map (pre h)).flatten
theorem pre_len : ∀ {h : Nat} {d : Dv}, LW h d → 1 ≤ (pre h d).length ∧ (pre h d).length ≤ 4 ^ h
  | 0, d, k => by simp [pre]
  | h + 1, d, k => by
    obtain ⟨l, c⟩ := inn_ok k
    have H : ∀ cs : List Dv, (∀ e ∈ cs, LW h e) → ((cs.map (pre h)).flatten).length ≤ cs.length * 4 ^ h := by
      intro cs
      induction cs with
      | nil => intro _; simp
      | cons e cs ih =>
        intro hc
        have h1 := (pre_len (hc e (by simp))).2
        have h2 := ih fun e he => hc e (by simp [he])
        rw [List.map_cons, List.flatten_cons, List.length_append, List.length_cons, Nat.succ_mul]
        omega
    have h3 := H (inn d) fun e he => (c e he).1
    have h4 : (inn d).length * 4 ^ h ≤ 3 * 4 ^ h := Nat.mul_le_mul_right _ l
    have h5 : 1 ≤ 4 ^ h := Nat.one_le_pow h 4 (by omega)
    rw [pre, List.length_cons, Nat.pow_succ]
    omega
theorem pre_ok : ∀ {h : Nat} {d : Dv}, LW h d → ∀ e ∈ pre h d, LW h e
  | 0, d, k, e, he => by simp [pre] at he; subst he; exact k
  | h + 1, d, k, e, he => by
    rw [pre] at he
    rcases List.mem_cons.mp he with rfl | he
    · exact k
    · obtain ⟨l, hl, hel⟩ := List.mem_flatten.mp he
      obtain ⟨c, hc, rfl⟩ := List.mem_map.mp hl
      exact (pre_ok ((inn_ok k).2 c hc).1 e hel).up (by omega)
/-! comparing -/
structure Nice (k : Nat) (d : Dv) : Prop where
  ex : ∃ p : PyData, (∀ f S, k < f → toP f S d = some p) ∧ p.canLay0 = true ∧ p.depth ≤ k ∧ PyData.eqv p p = true
theorem nice_list {k : Nat} : ∀ ds : List Dv, (∀ d ∈ ds, Nice k d) → ∃ ps : List PyData, (∀ f S, k < f → toPs f S ds = some ps) ∧ PyData.canLayAll0 ps = true ∧ PyData.depthAll ps ≤ k ∧ PyData.eqvAll ps ps = true
  | [], _ => ⟨[], fun f S _ => by simp only [toPs], rfl, Nat.zero_le _, rfl⟩
  | d :: ds, h => by
    obtain ⟨p, h1, h2, h3, h4⟩ := (h d (by simp)).ex
    obtain ⟨ps, g1, g2, g3, g4⟩ := nice_list ds fun e he => h e (by simp [he])
    refine ⟨p :: ps, fun f S hf => by simp only [toPs, h1 f S hf, g1 f S hf], ?_, ?_, ?_⟩
    · rw [PyData.canLayAll0, h2, g2]; rfl
    · rw [PyData.depthAll]; omega
    · rw [PyData.eqvAll, h4, g4]; rfl
theorem nice_tup {k : Nat} {ds : List Dv} (h : ∀ d ∈ ds, Nice k d) : Nice (k + 1) (.tup ds) := by
  obtain ⟨ps, g1, g2, g3, g4⟩ := nice_list ds h
  refine ⟨.tuple ps, fun f S hf => ?_, ?_, ?_, ?_⟩
  · obtain ⟨f, rfl⟩ : ∃ j, f = j + 1 := ⟨f - 1, by omega⟩
    simp only [toP, g1 f S (by omega), Option.map_some]
  · rw [PyData.canLay0]; exact g2
  · rw [PyData.depth]; omega
  · rw [PyData.eqv]; exact g4
theorem Nice.up {k k' : Nat} {d : Dv} (h : Nice k d) (l : k ≤ k') : Nice k' d := by
  obtain ⟨p, h1, h2, h3, h4⟩ := h.ex
  exact ⟨p, fun f S hf => h1 f S (by omega), h2, by omega, h4⟩
theorem nice_str {x : Str} (h : Sk x) : Nice 0 (.str x) :=
  ⟨.str x, fun f S hf => by obtain ⟨f, rfl⟩ : ∃ j, f = j + 1 := ⟨f - 1, by omega⟩; simp only [toP], by rw [PyData.canLay0]; exact h, by rw [PyData.depth]; omega, by rw [PyData.eqv]; simp⟩
theorem nice_look : ∀ {h : Nat} {d : Dv}, LW h d → Nice (3 * h + 1) d
  | h, d, k => by
    cases k.vw with
    | any e => subst e; exact (nice_tup (k := 0) fun d hd => by simp at hd; subst hd; exact nice_str (by decide +kernel)).up (by omega)
    | kind x kx e =>
      subst e
      exact (nice_tup (k := 0) fun d hd => by
        simp at hd
        rcases hd with rfl | rfl
        · exact nice_str (by decide +kernel)
        · exact nice_str kx).up (by omega)
    | ops w r m e l p c =>
      subst e
      have hw : Sk w := by
        have : w3.all (fun w => PyData.strOk w) = true := by decide +kernel
        exact List.all_eq_true.mp this w m
      refine (nice_tup (k := 3 * (h - 1) + 1) fun d hd => ?_).up (by omega)
      rcases List.mem_cons.mp hd with rfl | hd
      · exact (nice_str hw).up (by omega)
      · exact nice_look (h := h - 1) (c d hd)
    | way ss e l p c =>
      subst e
      refine (nice_tup (k := 3 * (h - 1) + 3) fun d hd => ?_).up (by omega)
      simp only [List.mem_cons, List.not_mem_nil, or_false] at hd
      rcases hd with rfl | rfl
      · exact (nice_str (by decide +kernel)).up (by omega)
      · refine (nice_tup (k := 3 * (h - 1) + 2) fun d hd => ?_).up (by omega)
        obtain ⟨s, hs, rfl⟩ := List.mem_map.mp hd
        refine (nice_tup (k := 3 * (h - 1) + 1) fun d hd => ?_).up (by omega)
        simp only [List.mem_cons, List.not_mem_nil, or_false] at hd
        rcases hd with rfl | rfl
        · exact (nice_str (c s hs).1).up (by omega)
        · exact nice_look (h := h - 1) (c s hs).2
termination_by h => h
decreasing_by all_goals omega
/-- two lists of one and the same looks are alike -/
theorem ne_lists {k a b : Nat} {ds : List Dv} {S : Sto} (h : ∀ d ∈ ds, Nice k d) (hk : k ≤ 30) (ha : S[a]? = some (.lst ds)) (hb : S[b]? = some (.lst ds)) : neD (.ref a) (.ref b) S = .ok (.bl false) S ∧ eqD (.ref a) (.ref b) S = .ok (.bl true) S := by
  obtain ⟨ps, g1, g2, g3, g4⟩ := nice_list ds h
  have e1 : toP 40 S (.ref a) = some (.list ps) := by simp only [toP, ha, g1 39 S (by omega), Option.map_some]
  have e2 : toP 40 S (.ref b) = some (.list ps) := by simp only [toP, hb, g1 39 S (by omega), Option.map_some]
  have e3 : SeqAt.shaped (.list ps) = true := by
    unfold SeqAt.shaped
    rw [PyData.canLay0, g2, PyData.depth, Bool.true_and]
    exact decide_eq_true (by omega)
  have e4 : PyData.eqv (.list ps) (.list ps) = true := by rw [PyData.eqv]; exact g4
  simp only [neD, eqD, eqq, e1, e2, e3, e4, and_self, ↓reduceIte, Bool.not_true]

/-! one look let go -/
def fst2 : Dv → Dv
  | .tup [a, _] => a
  | d => d
def rbW (ss cs : List Dv) : Dv := .tup [.str "way", .tup (List.zipWith (fun s c => .tup [fst2 s, c]) ss cs)]
def rb (d : Dv) (cs : List Dv) : Dv := match d with
  | .tup (.str w :: r) => if w = "way" then (match r with | [.tup ss] => rbW ss cs | _ => d) else if w ∈ w3 then .tup (.str w :: cs) else d
  | _ => d
theorem rb_ops {w : Str} (h : w ∈ w3) (r cs : List Dv) : rb (.tup (.str w :: r)) cs = .tup (.str w :: cs) := by
  simp only [rb]
  rw [if_neg (w3_way h), if_pos h]
theorem rb_way (ss cs : List Dv) : rb (.tup [.str "way", .tup ss]) cs = rbW ss cs := by
  simp only [rb]
  rw [if_pos trivial]
theorem rb_any (cs : List Dv) : rb anyT cs = anyT := by
  simp only [anyT, rb]
  rw [if_neg (by decide +kernel), if_neg (by decide +kernel)]
theorem rb_kind (x : Str) (cs : List Dv) : rb (.tup [.str "kind", .str x]) cs = .tup [.str "kind", .str x] := by
  simp only [rb]
  rw [if_neg (by decide +kernel), if_neg (by decide +kernel)]
theorem zw_self : ∀ ss : List (Str × Dv), List.zipWith (fun s c => Dv.tup [fst2 s, c]) (ss.map stp) (ss.map (·.2)) = ss.map stp
  | [] => rfl
  | s :: ss => by rw [List.map_cons, List.map_cons, List.zipWith_cons_cons, zw_self ss]; rfl
theorem rb_inn {h : Nat} {d : Dv} (k : LW h d) : rb d (inn d) = d := by
  cases k.vw with
  | any e => subst e; exact rb_any _
  | kind x k e => subst e; exact rb_kind _ _
  | ops w r m e l p c => subst e; rw [inn_ops m, rb_ops m]
  | way ss e l p c => subst e; rw [inn_way, rb_way, rbW, zw_self]
def Al (d e : Dv) : Prop := ∀ (f : Nat) (S : Sto), toP f S d = toP f S e
inductive Als : List Dv → List Dv → Prop
  | nil : Als [] []
  | cons {d e : Dv} {ds es : List Dv} (h : Al d e) (t : Als ds es) : Als (d :: ds) (e :: es)
theorem Al.refl (d : Dv) : Al d d := fun _ _ => rfl
theorem Als.refl : ∀ ds, Als ds ds
  | [] => .nil
  | d :: ds => .cons (.refl d) (Als.refl ds)
theorem Als.ps {ds es : List Dv} (h : Als ds es) (f : Nat) (S : Sto) : toPs f S ds = toPs f S es := by
  induction h with
  | nil => rfl
  | cons h t ih => simp only [toPs, h f S, ih]
theorem Als.tup {ds es : List Dv} (h : Als ds es) : Al (.tup ds) (.tup es) := fun f S => by
  cases f with
  | zero => simp only [toP]
  | succ f => simp only [toP, h.ps f S]
theorem al_any : Al anyT k_ANY := fun f S => by
  cases f with
  | zero => simp only [toP]
  | succ f => simp only [anyT, k_ANY, toP]
theorem Als.zw {cs es : List Dv} (h : Als cs es) : ∀ ss : List Dv, Als (List.zipWith (fun s c => Dv.tup [fst2 s, c]) ss cs) (List.zipWith (fun s c => Dv.tup [fst2 s, c]) ss es) := by
  induction h with
  | nil => intro ss; rw [List.zipWith_nil_right]; exact .nil
  | cons h t ih =>
    intro ss
    cases ss with
    | nil => exact .nil
    | cons s ss => exact .cons (Als.tup (.cons (.refl _) (.cons h .nil))) (ih ss)
theorem al_rb {h : Nat} {d : Dv} (k : LW h d) {cs es : List Dv} (a : Als cs es) : Al (rb d cs) (rb d es) := by
  cases k.vw with
  | any e => subst e; rw [rb_any, rb_any]; exact .refl _
  | kind x k e => subst e; rw [rb_kind, rb_kind]; exact .refl _
  | ops w r m e l p c => subst e; rw [rb_ops m, rb_ops m]; exact Als.tup (.cons (.refl _) a)
  | way ss e l p c => subst e; rw [rb_way, rb_way]; exact Als.tup (.cons (.refl _) (.cons (Als.tup (a.zw _)) .nil))
def sz (h : Nat) (d : Dv) : Int := ((pre h d).length : Int)
def tot (h : Nat) (cs : List Dv) : Int := (cs.map (sz h)).sum
def frs (f : Dv → Int → Dv × Int) : List Dv → Int → List Dv × Int
  | [], l => ([], l)
  | c :: cs, l => ((f c l).1 :: (frs f cs (f c l).2).1, (frs f cs (f c l).2).2)
def fr : Nat → Dv → Int → Dv × Int
  | 0, d, l => if l - 1 = -1 then (anyT, l - 1) else (d, l - 1)
  | h + 1, d, l => if l - 1 = -1 then (anyT, l - 1) else (rb d (frs (fr h) (inn d) (l - 1)).1, (frs (fr h) (inn d) (l - 1)).2)
def lgo (z : Dv → Int) (g : Dv → Int → Dv) (n : Int) : List Dv → Int → List Dv
  | [], _ => []
  | c :: cs, a => (if a ≤ n ∧ n < a + z c then g c (n - a) else c) :: lgo z g n cs (a + z c)
def lg : Nat → Dv → Int → Dv
  | 0, _, _ => k_ANY
  | h + 1, d, n => if n = 0 then k_ANY else rb d (lgo (sz h) (lg h) (n - 1) (inn d) 0)
theorem tot_len (h : Nat) : ∀ cs : List Dv, ((((cs.map (pre h)).flatten).length : Nat) : Int) = tot h cs
  | [] => rfl
  | c :: cs => by
    have := tot_len h cs
    rw [List.map_cons, List.flatten_cons, List.length_append, tot, List.map_cons, List.sum_cons, ← tot, ← this, sz]
    omega
theorem sz_succ (h : Nat) (d : Dv) : sz (h + 1) d = 1 + tot h (inn d) := by
  rw [sz, pre, List.length_cons, ← tot_len]; omega
theorem sz_pos {h : Nat} {d : Dv} (k : LW h d) : 1 ≤ sz h d := by have := (pre_len k).1; unfold sz; omega
def Frl (h : Nat) (d : Dv) : Prop := ∀ l : Int, (0 ≤ l ∧ l < sz h d → Al (fr h d l).1 (lg h d l) ∧ (fr h d l).2 < 0) ∧ (l < 0 ∨ sz h d ≤ l → fr h d l = (d, l - sz h d))
theorem frs_lgo {h : Nat} (n : Int) : ∀ (cs : List Dv) (a : Int), (∀ c ∈ cs, LW h c ∧ Frl h c) →
    (0 ≤ n - a ∧ n - a < tot h cs → Als (frs (fr h) cs (n - a)).1 (lgo (sz h) (lg h) n cs a) ∧ (frs (fr h) cs (n - a)).2 < 0) ∧
    (n - a < 0 ∨ tot h cs ≤ n - a → frs (fr h) cs (n - a) = (cs, n - a - tot h cs) ∧ lgo (sz h) (lg h) n cs a = cs)
  | [], a, _ => by
    refine ⟨fun q => ?_, fun _ => ⟨?_, rfl⟩⟩
    · simp [tot] at q; omega
    · simp [frs, tot]
  | c :: cs, a, hc => by
    obtain ⟨kc, fc⟩ := hc c (by simp)
    have hz := sz_pos kc
    have ht : tot h (c :: cs) = sz h c + tot h cs := by simp [tot]
    have ht0 : 0 ≤ tot h cs := by rw [← tot_len]; omega
    obtain ⟨i1, i2⟩ := frs_lgo n cs (a + sz h c) fun x hx => hc x (by simp [hx])
    obtain ⟨f1, f2⟩ := fc (n - a)
    have e0 : n - a - sz h c = n - (a + sz h c) := by omega
    -- a count below nothing changes nothing
    have low : ∀ (xs : List Dv) (l : Int), (∀ x ∈ xs, LW h x ∧ Frl h x) → l < 0 → (frs (fr h) xs l).1 = xs ∧ (frs (fr h) xs l).2 < 0 := by
      intro xs
      induction xs with
      | nil => intro l _ hl; exact ⟨rfl, hl⟩
      | cons x xs ih =>
        intro l hx hl
        obtain ⟨kx, fx⟩ := hx x (by simp)
        have e := (fx l).2 (.inl hl)
        have zx := sz_pos kx
        obtain ⟨a1, a2⟩ := ih (l - sz h x) (fun y hy => hx y (by simp [hy])) (by omega)
        simp only [frs, e]
        exact ⟨by rw [a1], a2⟩
    by_cases q : 0 ≤ n - a ∧ n - a < sz h c
    · obtain ⟨b1, b2⟩ := f1 q
      obtain ⟨b3, b4⟩ := low cs _ (fun x hx => hc x (by simp [hx])) b2
      refine ⟨fun _ => ⟨?_, ?_⟩, fun z => by omega⟩
      · simp only [frs, lgo]
        rw [if_pos (by omega), b3, (i2 (.inl (by omega))).2]
        exact .cons b1 (.refl _)
      · simp only [frs]; exact b4
    · have e := f2 (by omega)
      have nc : ¬ (a ≤ n ∧ n < a + sz h c) := by omega
      refine ⟨fun z => ?_, fun z => ?_⟩
      · simp only [frs, lgo, e, e0]
        rw [if_neg nc]
        obtain ⟨j1, j2⟩ := i1 (by omega)
        exact ⟨.cons (.refl _) j1, j2⟩
      · simp only [frs, lgo, e, e0]
        rw [if_neg nc]
        obtain ⟨j1, j2⟩ := i2 (by omega)
        rw [j1, j2]
        exact ⟨by rw [ht]; simp only [Prod.mk.injEq, true_and]; omega, rfl⟩
theorem frl : ∀ (h : Nat) (d : Dv), LW h d → Frl h d
  | 0, d, k => by
    intro l
    have hz : sz 0 d = 1 := rfl
    rw [hz]
    simp only [fr, lg]
    refine ⟨fun q => ?_, fun q => ?_⟩
    · rw [if_pos (by omega)]; exact ⟨al_any, by show l - 1 < 0; omega⟩
    · rw [if_neg (by omega)]
  | h + 1, d, k => by
    intro l
    have hz := sz_succ h d
    have hc : ∀ c ∈ inn d, LW h c ∧ Frl h c := fun c hc => ⟨((inn_ok k).2 c hc).1, frl h c ((inn_ok k).2 c hc).1⟩
    obtain ⟨i1, i2⟩ := frs_lgo (l - 1) (inn d) 0 hc
    rw [Int.sub_zero] at i1 i2
    have ht0 : 0 ≤ tot h (inn d) := by rw [← tot_len]; omega
    simp only [fr, lg]
    refine ⟨fun q => ?_, fun q => ?_⟩
    · by_cases z : l = 0
      · subst z
        rw [if_pos (by omega), if_pos rfl]; exact ⟨al_any, by show (0 : Int) - 1 < 0; omega⟩
      · rw [if_neg (by omega), if_neg z]
        obtain ⟨j1, j2⟩ := i1 (by omega)
        exact ⟨al_rb k j1, j2⟩
    · rw [if_neg (by omega)]
      obtain ⟨j1, j2⟩ := i2 (by omega)
      rw [j1, rb_inn k]
      simp only [Prod.mk.injEq, true_and]; omega

/-! what the defs reckon -/
theorem comp_listC {ck : Sto → Prop} [∀ S, Decidable (ck S)] {t : Tg} {y : RE} {ρ : PL.Env} {S : Sto} {P : Nat → Prop} (ds es : List Dv) (hl : ds.length = es.length) (hb : ds.length ≤ 1000) (hck : ∀ S1, Fr P S S1 → ck S1)
    (hy : ∀ (i : Nat) (d e : Dv) (S1 : Sto), ds[i]? = some d → es[i]? = some e → Fr P S S1 → ∃ ρ1, t.set d ρ = some ρ1 ∧ ∃ S2, y ρ1 S1 = .ok e S2 ∧ Fr P S1 S2) :
    ∃ S', compL ck t cYes y ρ ds [] S = .ok es S' ∧ Fr P S S' := by
  obtain ⟨acc, S', e, g, h⟩ := comp_gen (ck := ck) (t := t) (c := cYes) (y := y) (S := S) (acc := []) (fun i acc S1 => Fr P S S1 ∧ acc = es.take i) ds ρ (fun i d acc S1 hd ⟨g, ha⟩ => by
    have hi := (List.getElem?_eq_some_iff.mp hd).1
    obtain ⟨m, hm⟩ : ∃ m, es[i]? = some m := ⟨_, List.getElem?_eq_getElem (by omega)⟩
    obtain ⟨ρ1, e1, S2, e2, g2⟩ := hy i d m S1 hd hm g
    refine ⟨hck S1 g, ρ1, e1, true, S1, rfl, fun _ => ⟨_, S2, e2, ?_, g.trans g2, ?_⟩, fun z => nomatch z⟩
    · rw [ha, List.length_take]; show _ < 2 ^ 24; omega
    · rw [ha, List.take_add_one, hm]; rfl) (fun _ S1 h => hck S1 h.1) ⟨.refl _, rfl⟩
  refine ⟨S', ?_, g⟩
  rw [e, h, hl, List.take_length]
theorem cut1 {α : Type} (a : α) (r : List α) : cutD (a :: r) (some 1) none = r := by
  unfold cutD HT.sIx
  simp
theorem list_tup {S : Sto} (ds : List Dv) : listD [.tup ds] S = newL ds S := rfl
theorem sk_w {w : Str} (m : w ∈ w3) : Sk w := by
  have : w3.all (fun w => PyData.strOk w) = true := by decide +kernel
  exact List.all_eq_true.mp this w m
theorem sk_way : Sk "way" := by decide +kernel
theorem eqs {S : Sto} {w v : Str} (hw : Sk w) (hv : Sk v) : eqD (.str w) (.str v) S = .ok (.bl (decide (w = v))) S := eq_str hw hv
abbrev Got (o : Out Dv) (S : Sto) (ds : List Dv) : Prop := ∃ (l : Nat) (S' : Sto), o = .ok (.ref l) S' ∧ Gr S S' ∧ S.length ≤ l ∧ S'[l]? = some (.lst ds)
theorem inner_run {h k : Nat} {d : Dv} {S : Sto} (kd : LW h d) : Got (F (k + 1) .inner_looks [d] S) S (inn d) := by
  rw [F_inner_looks]
  have kN : Sk "not" := by decide +kernel
  have kB : Sk "both" := by decide +kernel
  have kE : Sk "either" := by decide +kernel
  have leaf : ∀ (w : Str) (r : List Dv), Sk w → ¬ w = "way" → w ∉ w3 → Got (runF (c_inner_looks (F k)) 2 1 [.tup (.str w :: r)] S) S [] := fun w r hw n1 n2 => by
    have a1 : ¬ w = "not" := fun e => n2 (by rw [e]; decide +kernel)
    have a2 : ¬ w = "both" := fun e => n2 (by rw [e]; decide +kernel)
    have a3 : ¬ w = "either" := fun e => n2 (by rw [e]; decide +kernel)
    refine ⟨S.length, _, runF_rt (ρ := [some (.tup (.str w :: r)), none]) rfl rfl ?_, gr_app S [.lst []], Nat.le_refl _, at_new _ _⟩
    simp only [c_inner_looks, ev_var, ev_con, ev_bin, ev_un, ev_anil, ev_acons, ev_call, ev_tup, ev_lst, ev_not, ev_and, ev_or, ev_if, ev_cbl, ev_btrue, ev_cand, ev_cor, ev_cnot, ev_sli, ev_onone, ev_osome, ev_chain, ev_meth, ev_get2, ev_newK, ev_newT, ev_own, ev_nil, ev_seq, ev_expr, ev_set, ev_ret, ev_retN, ev_cif, ev_brk, ev_ct, ev_asg, ev_put, ev_aug, ev_for, ev_comp, ev_newL, ev_iseq, ev_irange, ev_ienum, ev_yes, Out.bind_ok, Out.bindN_ok, bindS_ok, Tg.set, Tg.sets, List.getElem?_cons_zero, List.getElem?_cons_succ, List.set_cons_zero, List.set_cons_succ, wipeE, List.length_cons, List.length_nil, Nat.reduceAdd, Nat.reduceLeDiff, Nat.reduceEqDiff, ↓reduceIte, Bool.false_eq_true, decide_eq_true_eq, add_int, sub_int, lt_int, gt_int, le_int, ge_int, neg_int, and_int, or_int, xor_int, max2_int, min2_int, mod_pos, fdiv_sm, mul_sm, mul_smr, Int.reduceLT, Int.reduceNeg, int_bl, int_int, sli_tup, idx_t0, eqs hw sk_way, eqs hw kN, eqs hw kB, eqs hw kE, n1, a1, a2, a3, decide_false, sline 0 (by omega)]
  cases kd.vw with
  | any e => subst e; rw [inn_any]; exact leaf "any" [] (by decide +kernel) (by decide +kernel) (by decide +kernel)
  | kind x kx e => subst e; rw [inn_kind]; exact leaf "kind" _ (by decide +kernel) (by decide +kernel) (by decide +kernel)
  | ops w r m e l p c =>
    subst e
    rw [inn_ops m]
    refine ⟨S.length, _, runF_rt (ρ := [some (.tup (.str w :: r)), none]) rfl rfl ?_, gr_app S [.lst r], Nat.le_refl _, at_new _ _⟩
    unfold c_inner_looks
    refine (seq_of (if_f (S' := S) (by simp only [ev_var, ev_con, ev_bin, ev_un, ev_anil, ev_acons, ev_call, ev_tup, ev_lst, ev_not, ev_and, ev_or, ev_if, ev_cbl, ev_btrue, ev_cand, ev_cor, ev_cnot, ev_sli, ev_onone, ev_osome, ev_chain, ev_meth, ev_get2, ev_newK, ev_newT, ev_own, ev_nil, ev_seq, ev_expr, ev_set, ev_ret, ev_retN, ev_cif, ev_brk, ev_ct, ev_asg, ev_put, ev_aug, ev_for, ev_comp, ev_newL, ev_iseq, ev_irange, ev_ienum, ev_yes, Out.bind_ok, Out.bindN_ok, bindS_ok, Tg.set, Tg.sets, List.getElem?_cons_zero, List.getElem?_cons_succ, List.set_cons_zero, List.set_cons_succ, wipeE, List.length_cons, List.length_nil, Nat.reduceAdd, Nat.reduceLeDiff, Nat.reduceEqDiff, ↓reduceIte, Bool.false_eq_true, decide_eq_true_eq, add_int, sub_int, lt_int, gt_int, le_int, ge_int, neg_int, and_int, or_int, xor_int, max2_int, min2_int, mod_pos, fdiv_sm, mul_sm, mul_smr, Int.reduceLT, Int.reduceNeg, int_bl, int_int, sli_tup, idx_t0, eqs (sk_w m) sk_way, w3_way m, decide_false]))).trans ?_
    refine (seq_rt ((if_t (S' := S) ?_).trans (ret_of (by simp only [ev_var, ev_con, ev_bin, ev_un, ev_anil, ev_acons, ev_call, ev_tup, ev_lst, ev_not, ev_and, ev_or, ev_if, ev_cbl, ev_btrue, ev_cand, ev_cor, ev_cnot, ev_sli, ev_onone, ev_osome, ev_chain, ev_meth, ev_get2, ev_newK, ev_newT, ev_own, ev_nil, ev_seq, ev_expr, ev_set, ev_ret, ev_retN, ev_cif, ev_brk, ev_ct, ev_asg, ev_put, ev_aug, ev_for, ev_comp, ev_newL, ev_iseq, ev_irange, ev_ienum, ev_yes, Out.bind_ok, Out.bindN_ok, bindS_ok, Tg.set, Tg.sets, List.getElem?_cons_zero, List.getElem?_cons_succ, List.set_cons_zero, List.set_cons_succ, wipeE, List.length_cons, List.length_nil, Nat.reduceAdd, Nat.reduceLeDiff, Nat.reduceEqDiff, ↓reduceIte, Bool.false_eq_true, decide_eq_true_eq, add_int, sub_int, lt_int, gt_int, le_int, ge_int, neg_int, and_int, or_int, xor_int, max2_int, min2_int, mod_pos, fdiv_sm, mul_sm, mul_smr, Int.reduceLT, Int.reduceNeg, int_bl, int_int, sli_tup, cut1, list_tup])))).trans rfl
    have hm := m
    simp only [w3, List.mem_cons, List.not_mem_nil, or_false] at hm
    by_cases b1 : w = "not"
    · subst b1
      simp only [ev_var, ev_con, ev_bin, ev_un, ev_anil, ev_acons, ev_call, ev_tup, ev_lst, ev_not, ev_and, ev_or, ev_if, ev_cbl, ev_btrue, ev_cand, ev_cor, ev_cnot, ev_sli, ev_onone, ev_osome, ev_chain, ev_meth, ev_get2, ev_newK, ev_newT, ev_own, ev_nil, ev_seq, ev_expr, ev_set, ev_ret, ev_retN, ev_cif, ev_brk, ev_ct, ev_asg, ev_put, ev_aug, ev_for, ev_comp, ev_newL, ev_iseq, ev_irange, ev_ienum, ev_yes, Out.bind_ok, Out.bindN_ok, bindS_ok, Tg.set, Tg.sets, List.getElem?_cons_zero, List.getElem?_cons_succ, List.set_cons_zero, List.set_cons_succ, wipeE, List.length_cons, List.length_nil, Nat.reduceAdd, Nat.reduceLeDiff, Nat.reduceEqDiff, ↓reduceIte, Bool.false_eq_true, decide_eq_true_eq, add_int, sub_int, lt_int, gt_int, le_int, ge_int, neg_int, and_int, or_int, xor_int, max2_int, min2_int, mod_pos, fdiv_sm, mul_sm, mul_smr, Int.reduceLT, Int.reduceNeg, int_bl, int_int, sli_tup, idx_t0, eqs kN kN, decide_true]
    · by_cases b2 : w = "both"
      · subst b2
        simp only [ev_var, ev_con, ev_bin, ev_un, ev_anil, ev_acons, ev_call, ev_tup, ev_lst, ev_not, ev_and, ev_or, ev_if, ev_cbl, ev_btrue, ev_cand, ev_cor, ev_cnot, ev_sli, ev_onone, ev_osome, ev_chain, ev_meth, ev_get2, ev_newK, ev_newT, ev_own, ev_nil, ev_seq, ev_expr, ev_set, ev_ret, ev_retN, ev_cif, ev_brk, ev_ct, ev_asg, ev_put, ev_aug, ev_for, ev_comp, ev_newL, ev_iseq, ev_irange, ev_ienum, ev_yes, Out.bind_ok, Out.bindN_ok, bindS_ok, Tg.set, Tg.sets, List.getElem?_cons_zero, List.getElem?_cons_succ, List.set_cons_zero, List.set_cons_succ, wipeE, List.length_cons, List.length_nil, Nat.reduceAdd, Nat.reduceLeDiff, Nat.reduceEqDiff, ↓reduceIte, Bool.false_eq_true, decide_eq_true_eq, add_int, sub_int, lt_int, gt_int, le_int, ge_int, neg_int, and_int, or_int, xor_int, max2_int, min2_int, mod_pos, fdiv_sm, mul_sm, mul_smr, Int.reduceLT, Int.reduceNeg, int_bl, int_int, sli_tup, idx_t0, eqs kB kN, eqs kB kB, b1, decide_false, decide_true]
      · have b3 : w = "either" := by
          rcases hm with z | z | z
          · exact absurd z b1
          · exact absurd z b2
          · exact z
        subst b3
        simp only [ev_var, ev_con, ev_bin, ev_un, ev_anil, ev_acons, ev_call, ev_tup, ev_lst, ev_not, ev_and, ev_or, ev_if, ev_cbl, ev_btrue, ev_cand, ev_cor, ev_cnot, ev_sli, ev_onone, ev_osome, ev_chain, ev_meth, ev_get2, ev_newK, ev_newT, ev_own, ev_nil, ev_seq, ev_expr, ev_set, ev_ret, ev_retN, ev_cif, ev_brk, ev_ct, ev_asg, ev_put, ev_aug, ev_for, ev_comp, ev_newL, ev_iseq, ev_irange, ev_ienum, ev_yes, Out.bind_ok, Out.bindN_ok, bindS_ok, Tg.set, Tg.sets, List.getElem?_cons_zero, List.getElem?_cons_succ, List.set_cons_zero, List.set_cons_succ, wipeE, List.length_cons, List.length_nil, Nat.reduceAdd, Nat.reduceLeDiff, Nat.reduceEqDiff, ↓reduceIte, Bool.false_eq_true, decide_eq_true_eq, add_int, sub_int, lt_int, gt_int, le_int, ge_int, neg_int, and_int, or_int, xor_int, max2_int, min2_int, mod_pos, fdiv_sm, mul_sm, mul_smr, Int.reduceLT, Int.reduceNeg, int_bl, int_int, sli_tup, idx_t0, eqs kE kN, eqs kE kB, eqs kE kE, b1, b2, decide_false, decide_true]
  | way ss e l p c =>
    subst e
    rw [inn_way]
    obtain ⟨S', e, g⟩ := comp_listC (ck := Ck.tt.ok) (t := .nm 1) (y := y_inner_looks_1 (F k)) (ρ := [some (.tup [.str "way", .tup (ss.map stp)]), none]) (S := S) (P := fun _ => False) (ss.map stp) (ss.map (·.2)) (by simp) (by simp; omega) (fun _ _ => trivial)
      (fun i d e S1 hd he g => by
        rw [List.getElem?_map] at hd he
        cases q : ss[i]? with
        | none => rw [q] at hd; cases hd
        | some s =>
          rw [q] at hd he
          cases hd; cases he
          exact ⟨_, rfl, S1, by simp only [y_inner_looks_1, ev_var, ev_con, ev_bin, ev_un, ev_anil, ev_acons, ev_call, ev_tup, ev_lst, ev_not, ev_and, ev_or, ev_if, ev_cbl, ev_btrue, ev_cand, ev_cor, ev_cnot, ev_sli, ev_onone, ev_osome, ev_chain, ev_meth, ev_get2, ev_newK, ev_newT, ev_own, ev_nil, ev_seq, ev_expr, ev_set, ev_ret, ev_retN, ev_cif, ev_brk, ev_ct, ev_asg, ev_put, ev_aug, ev_for, ev_comp, ev_newL, ev_iseq, ev_irange, ev_ienum, ev_yes, Out.bind_ok, Out.bindN_ok, bindS_ok, Tg.set, Tg.sets, List.getElem?_cons_zero, List.getElem?_cons_succ, List.set_cons_zero, List.set_cons_succ, wipeE, List.length_cons, List.length_nil, Nat.reduceAdd, Nat.reduceLeDiff, Nat.reduceEqDiff, ↓reduceIte, Bool.false_eq_true, decide_eq_true_eq, add_int, sub_int, lt_int, gt_int, le_int, ge_int, neg_int, and_int, or_int, xor_int, max2_int, min2_int, mod_pos, fdiv_sm, mul_sm, mul_smr, Int.reduceLT, Int.reduceNeg, int_bl, int_int, sli_tup, stp, idx_t1], .refl _⟩)
    refine ⟨S'.length, _, runF_rt (ρ := [some (.tup [.str "way", .tup (ss.map stp)]), none]) rfl rfl ?_, g.trans (gr_app S' [.lst (ss.map (·.2))]), g.le, at_new _ _⟩
    unfold c_inner_looks
    exact (seq_rt ((if_t (S' := S) (by simp only [ev_var, ev_con, ev_bin, ev_un, ev_anil, ev_acons, ev_call, ev_tup, ev_lst, ev_not, ev_and, ev_or, ev_if, ev_cbl, ev_btrue, ev_cand, ev_cor, ev_cnot, ev_sli, ev_onone, ev_osome, ev_chain, ev_meth, ev_get2, ev_newK, ev_newT, ev_own, ev_nil, ev_seq, ev_expr, ev_set, ev_ret, ev_retN, ev_cif, ev_brk, ev_ct, ev_asg, ev_put, ev_aug, ev_for, ev_comp, ev_newL, ev_iseq, ev_irange, ev_ienum, ev_yes, Out.bind_ok, Out.bindN_ok, bindS_ok, Tg.set, Tg.sets, List.getElem?_cons_zero, List.getElem?_cons_succ, List.set_cons_zero, List.set_cons_succ, wipeE, List.length_cons, List.length_nil, Nat.reduceAdd, Nat.reduceLeDiff, Nat.reduceEqDiff, ↓reduceIte, Bool.false_eq_true, decide_eq_true_eq, add_int, sub_int, lt_int, gt_int, le_int, ge_int, neg_int, and_int, or_int, xor_int, max2_int, min2_int, mod_pos, fdiv_sm, mul_sm, mul_smr, Int.reduceLT, Int.reduceNeg, int_bl, int_int, sli_tup, idx_t0, eqs sk_way sk_way, decide_true])).trans (ret_of (by simp only [ev_var, ev_con, ev_bin, ev_un, ev_anil, ev_acons, ev_call, ev_tup, ev_lst, ev_not, ev_and, ev_or, ev_if, ev_cbl, ev_btrue, ev_cand, ev_cor, ev_cnot, ev_sli, ev_onone, ev_osome, ev_chain, ev_meth, ev_get2, ev_newK, ev_newT, ev_own, ev_nil, ev_seq, ev_expr, ev_set, ev_ret, ev_retN, ev_cif, ev_brk, ev_ct, ev_asg, ev_put, ev_aug, ev_for, ev_comp, ev_newL, ev_iseq, ev_irange, ev_ienum, ev_yes, Out.bind_ok, Out.bindN_ok, bindS_ok, Tg.set, Tg.sets, List.getElem?_cons_zero, List.getElem?_cons_succ, List.set_cons_zero, List.set_cons_succ, wipeE, List.length_cons, List.length_nil, Nat.reduceAdd, Nat.reduceLeDiff, Nat.reduceEqDiff, ↓reduceIte, Bool.false_eq_true, decide_eq_true_eq, add_int, sub_int, lt_int, gt_int, le_int, ge_int, neg_int, and_int, or_int, xor_int, max2_int, min2_int, mod_pos, fdiv_sm, mul_sm, mul_smr, Int.reduceLT, Int.reduceNeg, int_bl, int_int, sli_tup, idx_t1, walk_tup, e]))))
theorem linner_run {h k : Nat} {d : Dv} {S : Sto} (kd : LW h d) : Got (F (k + 1) .l_inner [d] S) S (inn d) := by
  rw [F_l_inner]
  have mem (w : Str) (S : Sto) : memq S (.str w) (.tup [.str "not", .str "both", .str "either"]) = some (decide (w ∈ w3)) := mem_tstrs w3 w
  have leaf : ∀ (w : Str) (r : List Dv), Sk w → ¬ w = "way" → w ∉ w3 → Got (runF (c_l_inner (F k)) 2 1 [.tup (.str w :: r)] S) S [] := fun w r hw n1 n2 => by
    refine ⟨S.length, _, runF_rt (ρ := [some (.tup (.str w :: r)), none]) rfl rfl ?_, gr_app S [.lst []], Nat.le_refl _, at_new _ _⟩
    simp only [c_l_inner, ev_var, ev_con, ev_bin, ev_un, ev_anil, ev_acons, ev_call, ev_tup, ev_lst, ev_not, ev_and, ev_or, ev_if, ev_cbl, ev_btrue, ev_cand, ev_cor, ev_cnot, ev_sli, ev_onone, ev_osome, ev_chain, ev_meth, ev_get2, ev_newK, ev_newT, ev_own, ev_nil, ev_seq, ev_expr, ev_set, ev_ret, ev_retN, ev_cif, ev_brk, ev_ct, ev_asg, ev_put, ev_aug, ev_for, ev_comp, ev_newL, ev_iseq, ev_irange, ev_ienum, ev_yes, Out.bind_ok, Out.bindN_ok, bindS_ok, Tg.set, Tg.sets, List.getElem?_cons_zero, List.getElem?_cons_succ, List.set_cons_zero, List.set_cons_succ, wipeE, List.length_cons, List.length_nil, Nat.reduceAdd, Nat.reduceLeDiff, Nat.reduceEqDiff, ↓reduceIte, Bool.false_eq_true, decide_eq_true_eq, add_int, sub_int, lt_int, gt_int, le_int, ge_int, neg_int, and_int, or_int, xor_int, max2_int, min2_int, mod_pos, fdiv_sm, mul_sm, mul_smr, Int.reduceLT, Int.reduceNeg, int_bl, int_int, sli_tup, idx_t0, eqs hw sk_way, n1, inD, mem, n2, decide_false, sline 0 (by omega), sline 3 (by omega)]
  cases kd.vw with
  | any e => subst e; rw [inn_any]; exact leaf "any" [] (by decide +kernel) (by decide +kernel) (by decide +kernel)
  | kind x kx e => subst e; rw [inn_kind]; exact leaf "kind" _ (by decide +kernel) (by decide +kernel) (by decide +kernel)
  | ops w r m e l p c =>
    subst e
    rw [inn_ops m]
    refine ⟨S.length, _, runF_rt (ρ := [some (.tup (.str w :: r)), none]) rfl rfl ?_, gr_app S [.lst r], Nat.le_refl _, at_new _ _⟩
    unfold c_l_inner
    refine (seq_of (if_f (S' := S) (by simp only [ev_var, ev_con, ev_bin, ev_un, ev_anil, ev_acons, ev_call, ev_tup, ev_lst, ev_not, ev_and, ev_or, ev_if, ev_cbl, ev_btrue, ev_cand, ev_cor, ev_cnot, ev_sli, ev_onone, ev_osome, ev_chain, ev_meth, ev_get2, ev_newK, ev_newT, ev_own, ev_nil, ev_seq, ev_expr, ev_set, ev_ret, ev_retN, ev_cif, ev_brk, ev_ct, ev_asg, ev_put, ev_aug, ev_for, ev_comp, ev_newL, ev_iseq, ev_irange, ev_ienum, ev_yes, Out.bind_ok, Out.bindN_ok, bindS_ok, Tg.set, Tg.sets, List.getElem?_cons_zero, List.getElem?_cons_succ, List.set_cons_zero, List.set_cons_succ, wipeE, List.length_cons, List.length_nil, Nat.reduceAdd, Nat.reduceLeDiff, Nat.reduceEqDiff, ↓reduceIte, Bool.false_eq_true, decide_eq_true_eq, add_int, sub_int, lt_int, gt_int, le_int, ge_int, neg_int, and_int, or_int, xor_int, max2_int, min2_int, mod_pos, fdiv_sm, mul_sm, mul_smr, Int.reduceLT, Int.reduceNeg, int_bl, int_int, sli_tup, idx_t0, eqs (sk_w m) sk_way, w3_way m, decide_false]))).trans ?_
    exact (seq_rt ((if_t (S' := S) (by simp only [ev_var, ev_con, ev_bin, ev_un, ev_anil, ev_acons, ev_call, ev_tup, ev_lst, ev_not, ev_and, ev_or, ev_if, ev_cbl, ev_btrue, ev_cand, ev_cor, ev_cnot, ev_sli, ev_onone, ev_osome, ev_chain, ev_meth, ev_get2, ev_newK, ev_newT, ev_own, ev_nil, ev_seq, ev_expr, ev_set, ev_ret, ev_retN, ev_cif, ev_brk, ev_ct, ev_asg, ev_put, ev_aug, ev_for, ev_comp, ev_newL, ev_iseq, ev_irange, ev_ienum, ev_yes, Out.bind_ok, Out.bindN_ok, bindS_ok, Tg.set, Tg.sets, List.getElem?_cons_zero, List.getElem?_cons_succ, List.set_cons_zero, List.set_cons_succ, wipeE, List.length_cons, List.length_nil, Nat.reduceAdd, Nat.reduceLeDiff, Nat.reduceEqDiff, ↓reduceIte, Bool.false_eq_true, decide_eq_true_eq, add_int, sub_int, lt_int, gt_int, le_int, ge_int, neg_int, and_int, or_int, xor_int, max2_int, min2_int, mod_pos, fdiv_sm, mul_sm, mul_smr, Int.reduceLT, Int.reduceNeg, int_bl, int_int, sli_tup, idx_t0, inD, mem, m, decide_true, sline 3 (by omega)])).trans (ret_of (by simp only [ev_var, ev_con, ev_bin, ev_un, ev_anil, ev_acons, ev_call, ev_tup, ev_lst, ev_not, ev_and, ev_or, ev_if, ev_cbl, ev_btrue, ev_cand, ev_cor, ev_cnot, ev_sli, ev_onone, ev_osome, ev_chain, ev_meth, ev_get2, ev_newK, ev_newT, ev_own, ev_nil, ev_seq, ev_expr, ev_set, ev_ret, ev_retN, ev_cif, ev_brk, ev_ct, ev_asg, ev_put, ev_aug, ev_for, ev_comp, ev_newL, ev_iseq, ev_irange, ev_ienum, ev_yes, Out.bind_ok, Out.bindN_ok, bindS_ok, Tg.set, Tg.sets, List.getElem?_cons_zero, List.getElem?_cons_succ, List.set_cons_zero, List.set_cons_succ, wipeE, List.length_cons, List.length_nil, Nat.reduceAdd, Nat.reduceLeDiff, Nat.reduceEqDiff, ↓reduceIte, Bool.false_eq_true, decide_eq_true_eq, add_int, sub_int, lt_int, gt_int, le_int, ge_int, neg_int, and_int, or_int, xor_int, max2_int, min2_int, mod_pos, fdiv_sm, mul_sm, mul_smr, Int.reduceLT, Int.reduceNeg, int_bl, int_int, sli_tup, cut1, list_tup])))).trans rfl
  | way ss e l p c =>
    subst e
    rw [inn_way]
    obtain ⟨S', e, g⟩ := comp_listC (ck := Ck.tt.ok) (t := .nm 1) (y := y_l_inner_1 (F k)) (ρ := [some (.tup [.str "way", .tup (ss.map stp)]), none]) (S := S) (P := fun _ => False) (ss.map stp) (ss.map (·.2)) (by simp) (by simp; omega) (fun _ _ => trivial)
      (fun i d e S1 hd he g => by
        rw [List.getElem?_map] at hd he
        cases q : ss[i]? with
        | none => rw [q] at hd; cases hd
        | some s =>
          rw [q] at hd he
          cases hd; cases he
          exact ⟨_, rfl, S1, by simp only [y_l_inner_1, ev_var, ev_con, ev_bin, ev_un, ev_anil, ev_acons, ev_call, ev_tup, ev_lst, ev_not, ev_and, ev_or, ev_if, ev_cbl, ev_btrue, ev_cand, ev_cor, ev_cnot, ev_sli, ev_onone, ev_osome, ev_chain, ev_meth, ev_get2, ev_newK, ev_newT, ev_own, ev_nil, ev_seq, ev_expr, ev_set, ev_ret, ev_retN, ev_cif, ev_brk, ev_ct, ev_asg, ev_put, ev_aug, ev_for, ev_comp, ev_newL, ev_iseq, ev_irange, ev_ienum, ev_yes, Out.bind_ok, Out.bindN_ok, bindS_ok, Tg.set, Tg.sets, List.getElem?_cons_zero, List.getElem?_cons_succ, List.set_cons_zero, List.set_cons_succ, wipeE, List.length_cons, List.length_nil, Nat.reduceAdd, Nat.reduceLeDiff, Nat.reduceEqDiff, ↓reduceIte, Bool.false_eq_true, decide_eq_true_eq, add_int, sub_int, lt_int, gt_int, le_int, ge_int, neg_int, and_int, or_int, xor_int, max2_int, min2_int, mod_pos, fdiv_sm, mul_sm, mul_smr, Int.reduceLT, Int.reduceNeg, int_bl, int_int, sli_tup, stp, idx_t1], .refl _⟩)
    refine ⟨S'.length, _, runF_rt (ρ := [some (.tup [.str "way", .tup (ss.map stp)]), none]) rfl rfl ?_, g.trans (gr_app S' [.lst (ss.map (·.2))]), g.le, at_new _ _⟩
    unfold c_l_inner
    exact (seq_rt ((if_t (S' := S) (by simp only [ev_var, ev_con, ev_bin, ev_un, ev_anil, ev_acons, ev_call, ev_tup, ev_lst, ev_not, ev_and, ev_or, ev_if, ev_cbl, ev_btrue, ev_cand, ev_cor, ev_cnot, ev_sli, ev_onone, ev_osome, ev_chain, ev_meth, ev_get2, ev_newK, ev_newT, ev_own, ev_nil, ev_seq, ev_expr, ev_set, ev_ret, ev_retN, ev_cif, ev_brk, ev_ct, ev_asg, ev_put, ev_aug, ev_for, ev_comp, ev_newL, ev_iseq, ev_irange, ev_ienum, ev_yes, Out.bind_ok, Out.bindN_ok, bindS_ok, Tg.set, Tg.sets, List.getElem?_cons_zero, List.getElem?_cons_succ, List.set_cons_zero, List.set_cons_succ, wipeE, List.length_cons, List.length_nil, Nat.reduceAdd, Nat.reduceLeDiff, Nat.reduceEqDiff, ↓reduceIte, Bool.false_eq_true, decide_eq_true_eq, add_int, sub_int, lt_int, gt_int, le_int, ge_int, neg_int, and_int, or_int, xor_int, max2_int, min2_int, mod_pos, fdiv_sm, mul_sm, mul_smr, Int.reduceLT, Int.reduceNeg, int_bl, int_int, sli_tup, idx_t0, eqs sk_way sk_way, decide_true])).trans (ret_of (by simp only [ev_var, ev_con, ev_bin, ev_un, ev_anil, ev_acons, ev_call, ev_tup, ev_lst, ev_not, ev_and, ev_or, ev_if, ev_cbl, ev_btrue, ev_cand, ev_cor, ev_cnot, ev_sli, ev_onone, ev_osome, ev_chain, ev_meth, ev_get2, ev_newK, ev_newT, ev_own, ev_nil, ev_seq, ev_expr, ev_set, ev_ret, ev_retN, ev_cif, ev_brk, ev_ct, ev_asg, ev_put, ev_aug, ev_for, ev_comp, ev_newL, ev_iseq, ev_irange, ev_ienum, ev_yes, Out.bind_ok, Out.bindN_ok, bindS_ok, Tg.set, Tg.sets, List.getElem?_cons_zero, List.getElem?_cons_succ, List.set_cons_zero, List.set_cons_succ, wipeE, List.length_cons, List.length_nil, Nat.reduceAdd, Nat.reduceLeDiff, Nat.reduceEqDiff, ↓reduceIte, Bool.false_eq_true, decide_eq_true_eq, add_int, sub_int, lt_int, gt_int, le_int, ge_int, neg_int, and_int, or_int, xor_int, max2_int, min2_int, mod_pos, fdiv_sm, mul_sm, mul_smr, Int.reduceLT, Int.reduceNeg, int_bl, int_int, sli_tup, idx_t1, walk_tup, e]))))
theorem ext_ref {S : Sto} {l m : Nat} {xs ys : List Dv} (h : S[l]? = some (.lst xs)) (h2 : S[m]? = some (.lst ys)) (hl : xs.length + ys.length ≤ sizeLine) : extendD (.ref l) [.ref m] S = .ok .non (S.set l (.lst (xs ++ ys))) := by simp only [extendD, lmap, h, h2, hl, ↓reduceIte]
theorem pw4 {h : Nat} (hh : h ≤ 5) : 4 ^ h ≤ 1024 := Nat.pow_le_pow_right (n := 4) (by omega) hh
/-- all looks in a look, by either side's def -/
noncomputable def preC (fi fo : List Dv → Sto → Out Dv) : RC := cSeq (cSet 1 (eLst (aCons (eVar 0) (aNil)))) (cSeq (cFor (iSeq (eOwn 1 fi (aCons (eVar 0) (aNil)))) (.nm 2) (cExpr (eMeth "list" extendD (eVar 1) (aCons (eOwn 1 fo (aCons (eVar 2) (aNil))) (aNil))))) (cRet (eVar 1)))
theorem pre_gen {fi fo : List Dv → Sto → Out Dv} {h : Nat} {d : Dv} {S : Sto} (hh : h ≤ 5) (kd : LW h d) (hi : ∀ S, Got (fi [d] S) S (inn d)) (ho : ∀ e ∈ inn d, ∀ S, Got (fo [e] S) S (pre (h - 1) e)) : Got (runF (preC fi fo) 3 1 [d] S) S (pre h d) := by
  have g0 := gr_app S [.lst [d]]
  obtain ⟨li, S1, e1, g1, l1, h1⟩ := hi (S ++ [.lst [d]])
  have h0 : S1[S.length]? = some (.lst [d]) := g1.at (at_new _ _)
  rw [List.length_append, List.length_cons, List.length_nil] at l1
  obtain ⟨ρ', S', e, v2, rfl, f, hx⟩ := loop_all (ck := (Ck.ls li (inn d)).ok) (t := .nm 2) (b := cExpr (eMeth "list" extendD (eVar 1) (aCons (eOwn 1 fo (aCons (eVar 2) (aNil))) (aNil)))) (S := S1) (ρ := [some d, some (.ref S.length), none])
    (fun i ρ S' => ∃ v2, ρ = [some d, some (.ref S.length), v2] ∧ Fr (· = S.length) S1 S' ∧ S'[S.length]? = some (.lst (d :: (((inn d).take i).map (pre (h - 1))).flatten))) (inn d) ⟨none, rfl, .refl _, by simpa using h0⟩
    (fun i v ρ S2 hv ⟨v2, hρ, f, hx⟩ => by
      subst hρ
      have hm := List.mem_of_getElem? hv
      refine ⟨f.get _ _ h1 (by omega), _, rfl, ?_⟩
      obtain ⟨lo, S3, e3, g3, l3, h3⟩ := ho v hm S2
      have kv := (inn_ok kd).2 v hm
      have hx3 := g3.at hx
      have ln : (d :: (((inn d).take i).map (pre (h - 1))).flatten).length + (pre (h - 1) v).length ≤ sizeLine := by
        have H : ∀ cs : List Dv, (∀ c ∈ cs, LW (h - 1) c) → (cs.map (pre (h - 1))).flatten.length ≤ cs.length * 4 ^ (h - 1) := by
          intro cs
          induction cs with
          | nil => intro _; simp
          | cons c cs ih =>
            intro hc
            have h1 := (pre_len (hc c (by simp))).2
            have h2 := ih fun c hc' => hc c (by simp [hc'])
            rw [List.map_cons, List.flatten_cons, List.length_append, List.length_cons, Nat.succ_mul]
            omega
        have a1 := H ((inn d).take i) fun c hc => ((inn_ok kd).2 c (List.mem_of_mem_take hc)).1
        have a2 : ((inn d).take i).length ≤ 3 := by have := (inn_ok kd).1; rw [List.length_take]; omega
        have a3 := (pre_len kv.1).2
        have a4 := pw4 (h := h - 1) (by omega)
        have a5 : ((inn d).take i).length * 4 ^ (h - 1) ≤ 3 * 1024 := Nat.mul_le_mul a2 a4
        refine sline _ ?_
        rw [List.length_cons]
        omega
      refine ⟨[some d, some (.ref S.length), some v], _, .inl (expr_of (d := .non) (S' := S3.set S.length (.lst (d :: (((inn d).take i).map (pre (h - 1))).flatten ++ pre (h - 1) v))) ?_), _, rfl, Fr.trans f (Fr.trans g3.any (fr_set _ _ _)), ?_⟩
      · simp only [ev_var, ev_con, ev_bin, ev_un, ev_anil, ev_acons, ev_call, ev_tup, ev_lst, ev_not, ev_and, ev_or, ev_if, ev_cbl, ev_btrue, ev_cand, ev_cor, ev_cnot, ev_sli, ev_onone, ev_osome, ev_chain, ev_meth, ev_get2, ev_newK, ev_newT, ev_own, ev_nil, ev_seq, ev_expr, ev_set, ev_ret, ev_retN, ev_cif, ev_brk, ev_ct, ev_asg, ev_put, ev_aug, ev_for, ev_comp, ev_newL, ev_iseq, ev_irange, ev_ienum, ev_yes, Out.bind_ok, Out.bindN_ok, bindS_ok, Tg.set, Tg.sets, List.getElem?_cons_zero, List.getElem?_cons_succ, List.set_cons_zero, List.set_cons_succ, wipeE, List.length_cons, List.length_nil, Nat.reduceAdd, Nat.reduceLeDiff, Nat.reduceEqDiff, ↓reduceIte, Bool.false_eq_true, decide_eq_true_eq, add_int, sub_int, lt_int, gt_int, le_int, ge_int, neg_int, and_int, or_int, xor_int, max2_int, min2_int, mod_pos, fdiv_sm, mul_sm, mul_smr, Int.reduceLT, Int.reduceNeg, int_bl, int_int, sli_tup, tyq_ref hx, e3, ext_ref hx3 h3 ln, List.cons_append]
      · rw [at_set hx3, List.take_add_one, hv]
        simp)
    (fun ρ S2 ⟨v2, hρ, f, hx⟩ => f.get _ _ h1 (by omega))
  refine ⟨S.length, S', runF_rt (ρ := [some d, none, none]) rfl rfl ?_, Gr.new (g0.trans g1) f (fun l z => by omega), Nat.le_refl _, ?_⟩
  · unfold preC
    refine (seq_of (by simp only [ev_var, ev_con, ev_bin, ev_un, ev_anil, ev_acons, ev_call, ev_tup, ev_lst, ev_not, ev_and, ev_or, ev_if, ev_cbl, ev_btrue, ev_cand, ev_cor, ev_cnot, ev_sli, ev_onone, ev_osome, ev_chain, ev_meth, ev_get2, ev_newK, ev_newT, ev_own, ev_nil, ev_seq, ev_expr, ev_set, ev_ret, ev_retN, ev_cif, ev_brk, ev_ct, ev_asg, ev_put, ev_aug, ev_for, ev_comp, ev_newL, ev_iseq, ev_irange, ev_ienum, ev_yes, Out.bind_ok, Out.bindN_ok, bindS_ok, Tg.set, Tg.sets, List.getElem?_cons_zero, List.getElem?_cons_succ, List.set_cons_zero, List.set_cons_succ, wipeE, List.length_cons, List.length_nil, Nat.reduceAdd, Nat.reduceLeDiff, Nat.reduceEqDiff, ↓reduceIte, Bool.false_eq_true, decide_eq_true_eq, add_int, sub_int, lt_int, gt_int, le_int, ge_int, neg_int, and_int, or_int, xor_int, max2_int, min2_int, mod_pos, fdiv_sm, mul_sm, mul_smr, Int.reduceLT, Int.reduceNeg, int_bl, int_int, sli_tup, sline 1 (by omega)]; rfl)).trans ?_
    refine (seq_of ((for_of (by simp only [ev_var, ev_con, ev_bin, ev_un, ev_anil, ev_acons, ev_call, ev_tup, ev_lst, ev_not, ev_and, ev_or, ev_if, ev_cbl, ev_btrue, ev_cand, ev_cor, ev_cnot, ev_sli, ev_onone, ev_osome, ev_chain, ev_meth, ev_get2, ev_newK, ev_newT, ev_own, ev_nil, ev_seq, ev_expr, ev_set, ev_ret, ev_retN, ev_cif, ev_brk, ev_ct, ev_asg, ev_put, ev_aug, ev_for, ev_comp, ev_newL, ev_iseq, ev_irange, ev_ienum, ev_yes, Out.bind_ok, Out.bindN_ok, bindS_ok, Tg.set, Tg.sets, List.getElem?_cons_zero, List.getElem?_cons_succ, List.set_cons_zero, List.set_cons_succ, wipeE, List.length_cons, List.length_nil, Nat.reduceAdd, Nat.reduceLeDiff, Nat.reduceEqDiff, ↓reduceIte, Bool.false_eq_true, decide_eq_true_eq, add_int, sub_int, lt_int, gt_int, le_int, ge_int, neg_int, and_int, or_int, xor_int, max2_int, min2_int, mod_pos, fdiv_sm, mul_sm, mul_smr, Int.reduceLT, Int.reduceNeg, int_bl, int_int, sli_tup, e1, walk_ref h1]; rfl)).trans e)).trans ?_
    exact ret_of rfl
  · rw [hx, List.take_length]
    cases h with
    | zero => rw [inn0 kd]; rfl
    | succ h => rfl
theorem looks_run : ∀ (h k : Nat) (d : Dv) (S : Sto), h ≤ 5 → LW h d → h + 1 < k → Got (F k .looks_of [d] S) S (pre h d)
  | h, k, d, S, hh, kd, hk => by
    obtain ⟨k, rfl⟩ : ∃ j, k = j + 2 := ⟨k - 2, by omega⟩
    rw [F_looks_of]
    exact pre_gen (fi := F (k + 1) .inner_looks) (fo := F (k + 1) .looks_of) hh kd (fun S => inner_run kd) fun e he S => looks_run (h - 1) (k + 1) e S (by omega) ((inn_ok kd).2 e he).1 (by have := ((inn_ok kd).2 e he).2; omega)
termination_by h => h
decreasing_by have := ((inn_ok kd).2 e he).2; omega
theorem allin_run : ∀ (h k : Nat) (d : Dv) (S : Sto), h ≤ 5 → LW h d → h + 1 < k → Got (F k .l_all_in [d] S) S (pre h d)
  | h, k, d, S, hh, kd, hk => by
    obtain ⟨k, rfl⟩ : ∃ j, k = j + 2 := ⟨k - 2, by omega⟩
    rw [F_l_all_in]
    exact pre_gen (fi := F (k + 1) .l_inner) (fo := F (k + 1) .l_all_in) hh kd (fun S => linner_run kd) fun e he S => allin_run (h - 1) (k + 1) e S (by omega) ((inn_ok kd).2 e he).1 (by have := ((inn_ok kd).2 e he).2; omega)
termination_by h => h
decreasing_by have := ((inn_ok kd).2 e he).2; omega

theorem flat_le {h : Nat} : ∀ cs : List Dv, (∀ c ∈ cs, LW h c) → (cs.map (pre h)).flatten.length ≤ cs.length * 4 ^ h
  | [], _ => by simp
  | c :: cs, hc => by
    have h1 := (pre_len (hc c (by simp))).2
    have h2 := flat_le cs fun c hc' => hc c (by simp [hc'])
    rw [List.map_cons, List.flatten_cons, List.length_append, List.length_cons, Nat.succ_mul]
    omega
structure WW (h : Nat) (W : List (Str × Dv)) : Prop where
  len : W.length ≤ 3
  ok : ∀ s ∈ W, Sk s.1 ∧ LW h s.2
def allW (h : Nat) (W : List (Str × Dv)) : List Dv := ((W.map (·.2)).map (pre h)).flatten
noncomputable def wayC (fo : List Dv → Sto → Out Dv) : RC := cSeq (cSet 1 (eLst (aNil))) (cSeq (cFor (iSeq (eVar 0)) (.tp [.nm 2, .nm 3]) (cExpr (eMeth "list" extendD (eVar 1) (aCons (eOwn 1 fo (aCons (eVar 3) (aNil))) (aNil))))) (cRet (eVar 1)))
theorem way_gen {fo : List Dv → Sto → Out Dv} {h : Nat} {W : List (Str × Dv)} {S : Sto} (hh : h ≤ 5) (kw : WW h W) (ho : ∀ e, LW h e → ∀ S, Got (fo [e] S) S (pre h e)) : Got (runF (wayC fo) 4 1 [.tup (W.map stp)] S) S (allW h W) := by
  have g0 := gr_app S [.lst []]
  obtain ⟨ρ', S', e, v2, v3, rfl, f, hx⟩ := loop_all (ck := Ck.tt.ok) (t := .tp [.nm 2, .nm 3]) (b := cExpr (eMeth "list" extendD (eVar 1) (aCons (eOwn 1 fo (aCons (eVar 3) (aNil))) (aNil)))) (S := S ++ [.lst []]) (ρ := [some (.tup (W.map stp)), some (.ref S.length), none, none])
    (fun i ρ S' => ∃ v2 v3, ρ = [some (.tup (W.map stp)), some (.ref S.length), v2, v3] ∧ Fr (· = S.length) (S ++ [.lst []]) S' ∧ S'[S.length]? = some (.lst (allW h (W.take i)))) (W.map stp) ⟨none, none, rfl, .refl _, at_new _ _⟩
    (fun i v ρ S2 hv ⟨v2, v3, hρ, f, hx⟩ => by
      subst hρ
      rw [List.getElem?_map] at hv
      cases q : W[i]? with
      | none => rw [q] at hv; cases hv
      | some s =>
      rw [q] at hv; cases hv
      have hm := List.mem_of_getElem? q
      have ks := (kw.ok s hm).2
      refine ⟨trivial, _, rfl, ?_⟩
      obtain ⟨lo, S3, e3, g3, l3, h3⟩ := ho s.2 ks S2
      have hx3 := g3.at hx
      have ln : (allW h (W.take i)).length + (pre h s.2).length ≤ sizeLine := by
        have a1 := flat_le (h := h) ((W.take i).map (·.2)) fun c hc => by
          obtain ⟨x, hx, rfl⟩ := List.mem_map.mp hc
          exact (kw.ok x (List.mem_of_mem_take hx)).2
        have a2 : ((W.take i).map (·.2)).length ≤ 3 := by have := kw.len; rw [List.length_map, List.length_take]; omega
        have a3 := (pre_len ks).2
        have a4 := pw4 hh
        have a5 : ((W.take i).map (·.2)).length * 4 ^ h ≤ 3 * 1024 := Nat.mul_le_mul a2 a4
        refine sline _ ?_
        rw [allW]
        omega
      refine ⟨[some (.tup (W.map stp)), some (.ref S.length), some (.str s.1), some s.2], _, .inl (expr_of (d := .non) (S' := S3.set S.length (.lst (allW h (W.take i) ++ pre h s.2))) ?_), _, _, rfl, Fr.trans f (Fr.trans g3.any (fr_set _ _ _)), ?_⟩
      · simp only [ev_var, ev_con, ev_bin, ev_un, ev_anil, ev_acons, ev_call, ev_tup, ev_lst, ev_not, ev_and, ev_or, ev_if, ev_cbl, ev_btrue, ev_cand, ev_cor, ev_cnot, ev_sli, ev_onone, ev_osome, ev_chain, ev_meth, ev_get2, ev_newK, ev_newT, ev_own, ev_nil, ev_seq, ev_expr, ev_set, ev_ret, ev_retN, ev_cif, ev_brk, ev_ct, ev_asg, ev_put, ev_aug, ev_for, ev_comp, ev_newL, ev_iseq, ev_irange, ev_ienum, ev_yes, Out.bind_ok, Out.bindN_ok, bindS_ok, Tg.set, Tg.sets, List.getElem?_cons_zero, List.getElem?_cons_succ, List.set_cons_zero, List.set_cons_succ, wipeE, List.length_cons, List.length_nil, Nat.reduceAdd, Nat.reduceLeDiff, Nat.reduceEqDiff, ↓reduceIte, Bool.false_eq_true, decide_eq_true_eq, add_int, sub_int, lt_int, gt_int, le_int, ge_int, neg_int, and_int, or_int, xor_int, max2_int, min2_int, mod_pos, fdiv_sm, mul_sm, mul_smr, Int.reduceLT, Int.reduceNeg, int_bl, int_int, sli_tup, tyq_ref hx, e3, ext_ref hx3 h3 ln]
      · rw [at_set hx3, List.take_add_one, q]
        simp [allW])
    (fun _ _ _ => trivial)
  refine ⟨S.length, S', runF_rt (ρ := [some (.tup (W.map stp)), none, none, none]) rfl rfl ?_, Gr.new g0 f (fun l z => by omega), Nat.le_refl _, ?_⟩
  · unfold wayC
    refine (seq_of (by simp only [ev_var, ev_con, ev_bin, ev_un, ev_anil, ev_acons, ev_call, ev_tup, ev_lst, ev_not, ev_and, ev_or, ev_if, ev_cbl, ev_btrue, ev_cand, ev_cor, ev_cnot, ev_sli, ev_onone, ev_osome, ev_chain, ev_meth, ev_get2, ev_newK, ev_newT, ev_own, ev_nil, ev_seq, ev_expr, ev_set, ev_ret, ev_retN, ev_cif, ev_brk, ev_ct, ev_asg, ev_put, ev_aug, ev_for, ev_comp, ev_newL, ev_iseq, ev_irange, ev_ienum, ev_yes, Out.bind_ok, Out.bindN_ok, bindS_ok, Tg.set, Tg.sets, List.getElem?_cons_zero, List.getElem?_cons_succ, List.set_cons_zero, List.set_cons_succ, wipeE, List.length_cons, List.length_nil, Nat.reduceAdd, Nat.reduceLeDiff, Nat.reduceEqDiff, ↓reduceIte, Bool.false_eq_true, decide_eq_true_eq, add_int, sub_int, lt_int, gt_int, le_int, ge_int, neg_int, and_int, or_int, xor_int, max2_int, min2_int, mod_pos, fdiv_sm, mul_sm, mul_smr, Int.reduceLT, Int.reduceNeg, int_bl, int_int, sli_tup, sline 0 (by omega)]; rfl)).trans ?_
    refine (seq_of ((for_of (by simp only [ev_var, ev_con, ev_bin, ev_un, ev_anil, ev_acons, ev_call, ev_tup, ev_lst, ev_not, ev_and, ev_or, ev_if, ev_cbl, ev_btrue, ev_cand, ev_cor, ev_cnot, ev_sli, ev_onone, ev_osome, ev_chain, ev_meth, ev_get2, ev_newK, ev_newT, ev_own, ev_nil, ev_seq, ev_expr, ev_set, ev_ret, ev_retN, ev_cif, ev_brk, ev_ct, ev_asg, ev_put, ev_aug, ev_for, ev_comp, ev_newL, ev_iseq, ev_irange, ev_ienum, ev_yes, Out.bind_ok, Out.bindN_ok, bindS_ok, Tg.set, Tg.sets, List.getElem?_cons_zero, List.getElem?_cons_succ, List.set_cons_zero, List.set_cons_succ, wipeE, List.length_cons, List.length_nil, Nat.reduceAdd, Nat.reduceLeDiff, Nat.reduceEqDiff, ↓reduceIte, Bool.false_eq_true, decide_eq_true_eq, add_int, sub_int, lt_int, gt_int, le_int, ge_int, neg_int, and_int, or_int, xor_int, max2_int, min2_int, mod_pos, fdiv_sm, mul_sm, mul_smr, Int.reduceLT, Int.reduceNeg, int_bl, int_int, sli_tup, walk_tup]; rfl)).trans e)).trans ?_
    exact ret_of rfl
  · rw [hx, List.length_map, List.take_length]
theorem looksin_run {h k : Nat} {W : List (Str × Dv)} {S : Sto} (hh : h ≤ 5) (kw : WW h W) (hk : h + 1 < k) : Got (F (k + 1) .looks_in [.tup (W.map stp)] S) S (allW h W) := by
  rw [F_looks_in]; exact way_gen (fo := F k .looks_of) hh kw fun e ke S => looks_run h k e S hh ke hk
theorem llooks_run {h k : Nat} {W : List (Str × Dv)} {S : Sto} (hh : h ≤ 5) (kw : WW h W) (hk : h + 1 < k) : Got (F (k + 1) .l_looks [.tup (W.map stp)] S) S (allW h W) := by
  rw [F_l_looks]; exact way_gen (fo := F k .l_all_in) hh kw fun e ke S => allin_run h k e S hh ke hk
theorem allW_nice {h : Nat} {W : List (Str × Dv)} (kw : WW h W) : ∀ d ∈ allW h W, Nice (3 * h + 1) d := fun d hd => by
  obtain ⟨l, hl, hdl⟩ := List.mem_flatten.mp hd
  obtain ⟨e, he, rfl⟩ := List.mem_map.mp hl
  obtain ⟨s, hs, rfl⟩ := List.mem_map.mp he
  exact nice_look (pre_ok (kw.ok s hs).2 d hdl)
/-! let go -/
theorem lgo_len (z : Dv → Int) (g : Dv → Int → Dv) (n : Int) : ∀ (cs : List Dv) (a : Int), (lgo z g n cs a).length = cs.length
  | [], _ => rfl
  | c :: cs, a => by simp only [lgo, List.length_cons, lgo_len z g n cs]
def Gone (h k : Nat) : Prop := ∀ (d : Dv) (n : Int) (S : Sto), LW h d → 0 ≤ n → n < sz h d → ∃ S', F k .let_go_in [d, .int n] S = .ok (lg h d n) S' ∧ Gr S S'
theorem letone_run {h k lc : Nat} {n : Int} {cs : List Dv} {S : Sto} (hh : h ≤ 5) (hk : h + 1 < k) (ih : Gone h k) (hc : S[lc]? = some (.lst cs)) (hcs : ∀ c ∈ cs, LW h c) (hl : cs.length ≤ 3) : Got (F (k + 1) .let_go_one [.ref lc, .int n] S) S (lgo (sz h) (lg h) n cs 0) := by
  have g0 := gr_app S [.lst []]
  have lcS := lt_of_at hc
  obtain ⟨ρ', S', e, a, v4, v5, acc, rfl, f, hx, hal, hall⟩ := loop_all (ck := (Ck.ls lc cs).ok) (t := .nm 4) (b := b_let_go_one_1 (F k)) (S := S ++ [.lst []]) (ρ := [some (.ref lc), some (.int n), some (.ref S.length), some (.int 0), none, none])
    (fun i ρ S' => ∃ (a : Int) (v4 v5 : Option Dv) (acc : List Dv), ρ = [some (.ref lc), some (.int n), some (.ref S.length), some (.int a), v4, v5] ∧ Fr (· = S.length) (S ++ [.lst []]) S' ∧ S'[S.length]? = some (.lst acc) ∧ acc.length = i ∧ acc ++ lgo (sz h) (lg h) n (cs.drop i) a = lgo (sz h) (lg h) n cs 0) cs
    ⟨0, none, none, [], rfl, .refl _, at_new _ _, rfl, rfl⟩
    (fun i c ρ S2 hv ⟨a, v4, v5, acc, hρ, f, hx, hal, hall⟩ => by
      subst hρ
      have hm := List.mem_of_getElem? hv
      have hi := (List.getElem?_eq_some_iff.mp hv).1
      have kc := hcs c hm
      refine ⟨f.get _ _ (g0.at hc) (by omega), _, rfl, ?_⟩
      obtain ⟨lo, S3, e3, g3, l3, h3⟩ := looks_run h k c S2 hh kc hk
      have hx3 := g3.at hx
      have ln : acc.length < sizeLine := by show _ < 2 ^ 24; omega
      have hd : cs.drop i = c :: cs.drop (i + 1) := by rw [List.drop_eq_getElem_cons hi]; rw [List.getElem?_eq_getElem hi] at hv; cases hv; rfl
      have hlen : lenD [.ref lo] S3 = .ok (.int (sz h c)) S3 := len_ref h3
      rw [hd, lgo] at hall
      by_cases q : a ≤ n ∧ n < a + sz h c
      · rw [if_pos q] at hall
        obtain ⟨S4, e4, g4⟩ := ih c (n - a) S3 kc (by omega) (by omega)
        refine ⟨[some (.ref lc), some (.int n), some (.ref S.length), some (.int (a + sz h c)), some (lg h c (n - a)), some (.int (sz h c))], S4.set S.length (.lst (acc ++ [lg h c (n - a)])), .inl ?_, _, _, _, acc ++ [lg h c (n - a)], rfl, Fr.trans f (Fr.trans g3.any (Fr.trans g4.any (fr_set _ _ _))), at_set (g4.at hx3), by simp [hal], by rw [← hall]; simp⟩
        unfold b_let_go_one_1
        refine (seq_of (set_of (d := .int (sz h c)) (S' := S3) (by simp only [ev_var, ev_con, ev_bin, ev_un, ev_anil, ev_acons, ev_call, ev_tup, ev_lst, ev_not, ev_and, ev_or, ev_if, ev_cbl, ev_btrue, ev_cand, ev_cor, ev_cnot, ev_sli, ev_onone, ev_osome, ev_chain, ev_meth, ev_get2, ev_newK, ev_newT, ev_own, ev_nil, ev_seq, ev_expr, ev_set, ev_ret, ev_retN, ev_cif, ev_brk, ev_ct, ev_asg, ev_put, ev_aug, ev_for, ev_comp, ev_newL, ev_iseq, ev_irange, ev_ienum, ev_yes, Out.bind_ok, Out.bindN_ok, bindS_ok, Tg.set, Tg.sets, List.getElem?_cons_zero, List.getElem?_cons_succ, List.set_cons_zero, List.set_cons_succ, wipeE, List.length_cons, List.length_nil, Nat.reduceAdd, Nat.reduceLeDiff, Nat.reduceEqDiff, ↓reduceIte, Bool.false_eq_true, decide_eq_true_eq, add_int, sub_int, lt_int, gt_int, le_int, ge_int, neg_int, and_int, or_int, xor_int, max2_int, min2_int, mod_pos, fdiv_sm, mul_sm, mul_smr, Int.reduceLT, Int.reduceNeg, int_bl, int_int, sli_tup, e3, hlen]))).trans ?_
        refine (seq_of ((if_t (S' := S3) (by simp only [ev_var, ev_con, ev_bin, ev_un, ev_anil, ev_acons, ev_call, ev_tup, ev_lst, ev_not, ev_and, ev_or, ev_if, ev_cbl, ev_btrue, ev_cand, ev_cor, ev_cnot, ev_sli, ev_onone, ev_osome, ev_chain, ev_meth, ev_get2, ev_newK, ev_newT, ev_own, ev_nil, ev_seq, ev_expr, ev_set, ev_ret, ev_retN, ev_cif, ev_brk, ev_ct, ev_asg, ev_put, ev_aug, ev_for, ev_comp, ev_newL, ev_iseq, ev_irange, ev_ienum, ev_yes, Out.bind_ok, Out.bindN_ok, bindS_ok, Tg.set, Tg.sets, List.getElem?_cons_zero, List.getElem?_cons_succ, List.set_cons_zero, List.set_cons_succ, wipeE, List.length_cons, List.length_nil, Nat.reduceAdd, Nat.reduceLeDiff, Nat.reduceEqDiff, ↓reduceIte, Bool.false_eq_true, decide_eq_true_eq, add_int, sub_int, lt_int, gt_int, le_int, ge_int, neg_int, and_int, or_int, xor_int, max2_int, min2_int, mod_pos, fdiv_sm, mul_sm, mul_smr, Int.reduceLT, Int.reduceNeg, int_bl, int_int, sli_tup, q.1, q.2, decide_true])).trans (set_of (d := lg h c (n - a)) (S' := S4) (by simp only [ev_var, ev_con, ev_bin, ev_un, ev_anil, ev_acons, ev_call, ev_tup, ev_lst, ev_not, ev_and, ev_or, ev_if, ev_cbl, ev_btrue, ev_cand, ev_cor, ev_cnot, ev_sli, ev_onone, ev_osome, ev_chain, ev_meth, ev_get2, ev_newK, ev_newT, ev_own, ev_nil, ev_seq, ev_expr, ev_set, ev_ret, ev_retN, ev_cif, ev_brk, ev_ct, ev_asg, ev_put, ev_aug, ev_for, ev_comp, ev_newL, ev_iseq, ev_irange, ev_ienum, ev_yes, Out.bind_ok, Out.bindN_ok, bindS_ok, Tg.set, Tg.sets, List.getElem?_cons_zero, List.getElem?_cons_succ, List.set_cons_zero, List.set_cons_succ, wipeE, List.length_cons, List.length_nil, Nat.reduceAdd, Nat.reduceLeDiff, Nat.reduceEqDiff, ↓reduceIte, Bool.false_eq_true, decide_eq_true_eq, add_int, sub_int, lt_int, gt_int, le_int, ge_int, neg_int, and_int, or_int, xor_int, max2_int, min2_int, mod_pos, fdiv_sm, mul_sm, mul_smr, Int.reduceLT, Int.reduceNeg, int_bl, int_int, sli_tup, e4])))).trans ?_
        refine (seq_of (expr_of (d := .non) (S' := S4.set S.length (.lst (acc ++ [lg h c (n - a)]))) (by simp only [ev_var, ev_con, ev_bin, ev_un, ev_anil, ev_acons, ev_call, ev_tup, ev_lst, ev_not, ev_and, ev_or, ev_if, ev_cbl, ev_btrue, ev_cand, ev_cor, ev_cnot, ev_sli, ev_onone, ev_osome, ev_chain, ev_meth, ev_get2, ev_newK, ev_newT, ev_own, ev_nil, ev_seq, ev_expr, ev_set, ev_ret, ev_retN, ev_cif, ev_brk, ev_ct, ev_asg, ev_put, ev_aug, ev_for, ev_comp, ev_newL, ev_iseq, ev_irange, ev_ienum, ev_yes, Out.bind_ok, Out.bindN_ok, bindS_ok, Tg.set, Tg.sets, List.getElem?_cons_zero, List.getElem?_cons_succ, List.set_cons_zero, List.set_cons_succ, wipeE, List.length_cons, List.length_nil, Nat.reduceAdd, Nat.reduceLeDiff, Nat.reduceEqDiff, ↓reduceIte, Bool.false_eq_true, decide_eq_true_eq, add_int, sub_int, lt_int, gt_int, le_int, ge_int, neg_int, and_int, or_int, xor_int, max2_int, min2_int, mod_pos, fdiv_sm, mul_sm, mul_smr, Int.reduceLT, Int.reduceNeg, int_bl, int_int, sli_tup, tyq_ref (g4.at hx3), app_ref (g4.at hx3) ln]))).trans ?_
        simp only [ev_var, ev_con, ev_bin, ev_un, ev_anil, ev_acons, ev_call, ev_tup, ev_lst, ev_not, ev_and, ev_or, ev_if, ev_cbl, ev_btrue, ev_cand, ev_cor, ev_cnot, ev_sli, ev_onone, ev_osome, ev_chain, ev_meth, ev_get2, ev_newK, ev_newT, ev_own, ev_nil, ev_seq, ev_expr, ev_set, ev_ret, ev_retN, ev_cif, ev_brk, ev_ct, ev_asg, ev_put, ev_aug, ev_for, ev_comp, ev_newL, ev_iseq, ev_irange, ev_ienum, ev_yes, Out.bind_ok, Out.bindN_ok, bindS_ok, Tg.set, Tg.sets, List.getElem?_cons_zero, List.getElem?_cons_succ, List.set_cons_zero, List.set_cons_succ, wipeE, List.length_cons, List.length_nil, Nat.reduceAdd, Nat.reduceLeDiff, Nat.reduceEqDiff, ↓reduceIte, Bool.false_eq_true, decide_eq_true_eq, add_int, sub_int, lt_int, gt_int, le_int, ge_int, neg_int, and_int, or_int, xor_int, max2_int, min2_int, mod_pos, fdiv_sm, mul_sm, mul_smr, Int.reduceLT, Int.reduceNeg, int_bl, int_int, sli_tup, addI]
      · rw [if_neg q] at hall
        refine ⟨[some (.ref lc), some (.int n), some (.ref S.length), some (.int (a + sz h c)), some c, some (.int (sz h c))], S3.set S.length (.lst (acc ++ [c])), .inl ?_, _, _, _, acc ++ [c], rfl, Fr.trans f (Fr.trans g3.any (fr_set _ _ _)), at_set hx3, by simp [hal], by rw [← hall]; simp⟩
        unfold b_let_go_one_1
        refine (seq_of (set_of (d := .int (sz h c)) (S' := S3) (by simp only [ev_var, ev_con, ev_bin, ev_un, ev_anil, ev_acons, ev_call, ev_tup, ev_lst, ev_not, ev_and, ev_or, ev_if, ev_cbl, ev_btrue, ev_cand, ev_cor, ev_cnot, ev_sli, ev_onone, ev_osome, ev_chain, ev_meth, ev_get2, ev_newK, ev_newT, ev_own, ev_nil, ev_seq, ev_expr, ev_set, ev_ret, ev_retN, ev_cif, ev_brk, ev_ct, ev_asg, ev_put, ev_aug, ev_for, ev_comp, ev_newL, ev_iseq, ev_irange, ev_ienum, ev_yes, Out.bind_ok, Out.bindN_ok, bindS_ok, Tg.set, Tg.sets, List.getElem?_cons_zero, List.getElem?_cons_succ, List.set_cons_zero, List.set_cons_succ, wipeE, List.length_cons, List.length_nil, Nat.reduceAdd, Nat.reduceLeDiff, Nat.reduceEqDiff, ↓reduceIte, Bool.false_eq_true, decide_eq_true_eq, add_int, sub_int, lt_int, gt_int, le_int, ge_int, neg_int, and_int, or_int, xor_int, max2_int, min2_int, mod_pos, fdiv_sm, mul_sm, mul_smr, Int.reduceLT, Int.reduceNeg, int_bl, int_int, sli_tup, e3, hlen]))).trans ?_
        refine (seq_of ((if_f (S' := S3) ?_).trans rfl)).trans ?_
        · by_cases q1 : a ≤ n
          · have q2 : ¬ n < a + sz h c := fun z => q ⟨q1, z⟩
            simp only [ev_var, ev_con, ev_bin, ev_un, ev_anil, ev_acons, ev_call, ev_tup, ev_lst, ev_not, ev_and, ev_or, ev_if, ev_cbl, ev_btrue, ev_cand, ev_cor, ev_cnot, ev_sli, ev_onone, ev_osome, ev_chain, ev_meth, ev_get2, ev_newK, ev_newT, ev_own, ev_nil, ev_seq, ev_expr, ev_set, ev_ret, ev_retN, ev_cif, ev_brk, ev_ct, ev_asg, ev_put, ev_aug, ev_for, ev_comp, ev_newL, ev_iseq, ev_irange, ev_ienum, ev_yes, Out.bind_ok, Out.bindN_ok, bindS_ok, Tg.set, Tg.sets, List.getElem?_cons_zero, List.getElem?_cons_succ, List.set_cons_zero, List.set_cons_succ, wipeE, List.length_cons, List.length_nil, Nat.reduceAdd, Nat.reduceLeDiff, Nat.reduceEqDiff, ↓reduceIte, Bool.false_eq_true, decide_eq_true_eq, add_int, sub_int, lt_int, gt_int, le_int, ge_int, neg_int, and_int, or_int, xor_int, max2_int, min2_int, mod_pos, fdiv_sm, mul_sm, mul_smr, Int.reduceLT, Int.reduceNeg, int_bl, int_int, sli_tup, q1, q2, decide_true, decide_false]
          · simp only [ev_var, ev_con, ev_bin, ev_un, ev_anil, ev_acons, ev_call, ev_tup, ev_lst, ev_not, ev_and, ev_or, ev_if, ev_cbl, ev_btrue, ev_cand, ev_cor, ev_cnot, ev_sli, ev_onone, ev_osome, ev_chain, ev_meth, ev_get2, ev_newK, ev_newT, ev_own, ev_nil, ev_seq, ev_expr, ev_set, ev_ret, ev_retN, ev_cif, ev_brk, ev_ct, ev_asg, ev_put, ev_aug, ev_for, ev_comp, ev_newL, ev_iseq, ev_irange, ev_ienum, ev_yes, Out.bind_ok, Out.bindN_ok, bindS_ok, Tg.set, Tg.sets, List.getElem?_cons_zero, List.getElem?_cons_succ, List.set_cons_zero, List.set_cons_succ, wipeE, List.length_cons, List.length_nil, Nat.reduceAdd, Nat.reduceLeDiff, Nat.reduceEqDiff, ↓reduceIte, Bool.false_eq_true, decide_eq_true_eq, add_int, sub_int, lt_int, gt_int, le_int, ge_int, neg_int, and_int, or_int, xor_int, max2_int, min2_int, mod_pos, fdiv_sm, mul_sm, mul_smr, Int.reduceLT, Int.reduceNeg, int_bl, int_int, sli_tup, q1, decide_false]
        refine (seq_of (expr_of (d := .non) (S' := S3.set S.length (.lst (acc ++ [c]))) (by simp only [ev_var, ev_con, ev_bin, ev_un, ev_anil, ev_acons, ev_call, ev_tup, ev_lst, ev_not, ev_and, ev_or, ev_if, ev_cbl, ev_btrue, ev_cand, ev_cor, ev_cnot, ev_sli, ev_onone, ev_osome, ev_chain, ev_meth, ev_get2, ev_newK, ev_newT, ev_own, ev_nil, ev_seq, ev_expr, ev_set, ev_ret, ev_retN, ev_cif, ev_brk, ev_ct, ev_asg, ev_put, ev_aug, ev_for, ev_comp, ev_newL, ev_iseq, ev_irange, ev_ienum, ev_yes, Out.bind_ok, Out.bindN_ok, bindS_ok, Tg.set, Tg.sets, List.getElem?_cons_zero, List.getElem?_cons_succ, List.set_cons_zero, List.set_cons_succ, wipeE, List.length_cons, List.length_nil, Nat.reduceAdd, Nat.reduceLeDiff, Nat.reduceEqDiff, ↓reduceIte, Bool.false_eq_true, decide_eq_true_eq, add_int, sub_int, lt_int, gt_int, le_int, ge_int, neg_int, and_int, or_int, xor_int, max2_int, min2_int, mod_pos, fdiv_sm, mul_sm, mul_smr, Int.reduceLT, Int.reduceNeg, int_bl, int_int, sli_tup, tyq_ref hx3, app_ref hx3 ln]))).trans ?_
        simp only [ev_var, ev_con, ev_bin, ev_un, ev_anil, ev_acons, ev_call, ev_tup, ev_lst, ev_not, ev_and, ev_or, ev_if, ev_cbl, ev_btrue, ev_cand, ev_cor, ev_cnot, ev_sli, ev_onone, ev_osome, ev_chain, ev_meth, ev_get2, ev_newK, ev_newT, ev_own, ev_nil, ev_seq, ev_expr, ev_set, ev_ret, ev_retN, ev_cif, ev_brk, ev_ct, ev_asg, ev_put, ev_aug, ev_for, ev_comp, ev_newL, ev_iseq, ev_irange, ev_ienum, ev_yes, Out.bind_ok, Out.bindN_ok, bindS_ok, Tg.set, Tg.sets, List.getElem?_cons_zero, List.getElem?_cons_succ, List.set_cons_zero, List.set_cons_succ, wipeE, List.length_cons, List.length_nil, Nat.reduceAdd, Nat.reduceLeDiff, Nat.reduceEqDiff, ↓reduceIte, Bool.false_eq_true, decide_eq_true_eq, add_int, sub_int, lt_int, gt_int, le_int, ge_int, neg_int, and_int, or_int, xor_int, max2_int, min2_int, mod_pos, fdiv_sm, mul_sm, mul_smr, Int.reduceLT, Int.reduceNeg, int_bl, int_int, sli_tup, addI])
    (fun ρ S2 ⟨a, v4, v5, acc, hρ, f, _⟩ => f.get _ _ (g0.at hc) (by omega))
  refine ⟨S.length, S', ?_, Gr.new g0 f (fun l z => by omega), Nat.le_refl _, ?_⟩
  · rw [F_let_go_one]
    refine runF_rt (ρ := [some (.ref lc), some (.int n), none, none, none, none]) rfl rfl ?_
    unfold c_let_go_one
    refine (seq_of (by simp only [ev_var, ev_con, ev_bin, ev_un, ev_anil, ev_acons, ev_call, ev_tup, ev_lst, ev_not, ev_and, ev_or, ev_if, ev_cbl, ev_btrue, ev_cand, ev_cor, ev_cnot, ev_sli, ev_onone, ev_osome, ev_chain, ev_meth, ev_get2, ev_newK, ev_newT, ev_own, ev_nil, ev_seq, ev_expr, ev_set, ev_ret, ev_retN, ev_cif, ev_brk, ev_ct, ev_asg, ev_put, ev_aug, ev_for, ev_comp, ev_newL, ev_iseq, ev_irange, ev_ienum, ev_yes, Out.bind_ok, Out.bindN_ok, bindS_ok, Tg.set, Tg.sets, List.getElem?_cons_zero, List.getElem?_cons_succ, List.set_cons_zero, List.set_cons_succ, wipeE, List.length_cons, List.length_nil, Nat.reduceAdd, Nat.reduceLeDiff, Nat.reduceEqDiff, ↓reduceIte, Bool.false_eq_true, decide_eq_true_eq, add_int, sub_int, lt_int, gt_int, le_int, ge_int, neg_int, and_int, or_int, xor_int, max2_int, min2_int, mod_pos, fdiv_sm, mul_sm, mul_smr, Int.reduceLT, Int.reduceNeg, int_bl, int_int, sli_tup, sline 0 (by omega)]; rfl)).trans ?_
    refine (seq_of (by simp only [ev_var, ev_con, ev_bin, ev_un, ev_anil, ev_acons, ev_call, ev_tup, ev_lst, ev_not, ev_and, ev_or, ev_if, ev_cbl, ev_btrue, ev_cand, ev_cor, ev_cnot, ev_sli, ev_onone, ev_osome, ev_chain, ev_meth, ev_get2, ev_newK, ev_newT, ev_own, ev_nil, ev_seq, ev_expr, ev_set, ev_ret, ev_retN, ev_cif, ev_brk, ev_ct, ev_asg, ev_put, ev_aug, ev_for, ev_comp, ev_newL, ev_iseq, ev_irange, ev_ienum, ev_yes, Out.bind_ok, Out.bindN_ok, bindS_ok, Tg.set, Tg.sets, List.getElem?_cons_zero, List.getElem?_cons_succ, List.set_cons_zero, List.set_cons_succ, wipeE, List.length_cons, List.length_nil, Nat.reduceAdd, Nat.reduceLeDiff, Nat.reduceEqDiff, ↓reduceIte, Bool.false_eq_true, decide_eq_true_eq, add_int, sub_int, lt_int, gt_int, le_int, ge_int, neg_int, and_int, or_int, xor_int, max2_int, min2_int, mod_pos, fdiv_sm, mul_sm, mul_smr, Int.reduceLT, Int.reduceNeg, int_bl, int_int, sli_tup]; rfl)).trans ?_
    refine (seq_of ((for_of (by simp only [ev_var, ev_con, ev_bin, ev_un, ev_anil, ev_acons, ev_call, ev_tup, ev_lst, ev_not, ev_and, ev_or, ev_if, ev_cbl, ev_btrue, ev_cand, ev_cor, ev_cnot, ev_sli, ev_onone, ev_osome, ev_chain, ev_meth, ev_get2, ev_newK, ev_newT, ev_own, ev_nil, ev_seq, ev_expr, ev_set, ev_ret, ev_retN, ev_cif, ev_brk, ev_ct, ev_asg, ev_put, ev_aug, ev_for, ev_comp, ev_newL, ev_iseq, ev_irange, ev_ienum, ev_yes, Out.bind_ok, Out.bindN_ok, bindS_ok, Tg.set, Tg.sets, List.getElem?_cons_zero, List.getElem?_cons_succ, List.set_cons_zero, List.set_cons_succ, wipeE, List.length_cons, List.length_nil, Nat.reduceAdd, Nat.reduceLeDiff, Nat.reduceEqDiff, ↓reduceIte, Bool.false_eq_true, decide_eq_true_eq, add_int, sub_int, lt_int, gt_int, le_int, ge_int, neg_int, and_int, or_int, xor_int, max2_int, min2_int, mod_pos, fdiv_sm, mul_sm, mul_smr, Int.reduceLT, Int.reduceNeg, int_bl, int_int, sli_tup, walk_ref (g0.at hc)]; rfl)).trans e)).trans ?_
    exact ret_of rfl
  · rw [List.drop_length, lgo, List.append_nil] at hall
    rw [hx, hall]
theorem zw_get : ∀ (xs cs : List Dv) (i : Nat) (d e : Dv), (zipL xs cs)[i]? = some d → (List.zipWith (fun s c => Dv.tup [fst2 s, c]) xs cs)[i]? = some e → ∃ x c, xs[i]? = some x ∧ d = .tup [x, c] ∧ e = .tup [fst2 x, c]
  | [], _, i, d, e, h, _ => by simp [zipL] at h
  | x :: xs, [], i, d, e, h, _ => by simp [zipL] at h
  | x :: xs, c :: cs, 0, d, e, h, h2 => by simp [zipL] at h h2; exact ⟨x, c, rfl, h.symm, h2.symm⟩
  | x :: xs, c :: cs, i + 1, d, e, h, h2 => by simpa using zw_get xs cs i d e (by simpa [zipL] using h) (by simpa using h2)
/-- the steps put together anew -/
theorem zip_comp {ρ : PL.Env} {y : RE} {W : List (Str × Dv)} {lo : Nat} {cs : List Dv} {S : Sto} (i j : Nat) (hW : W.length ≤ 1000) (ho : S[lo]? = some (.lst cs))
    (hy : ∀ (g : Str) (e c : Dv) (ρ1 : PL.Env) (S1 : Sto), (Tg.tp [.nm i, .nm j]).set (.tup [.tup [.str g, e], c]) ρ = some ρ1 → y ρ1 S1 = .ok (.tup [.str g, c]) S1) (hset : ∀ d e, ∃ ρ1, (Tg.tp [.nm i, .nm j]).set (.tup [d, e]) ρ = some ρ1) :
    ∃ S', compL (Ck.and .tt (.ls lo cs)).ok (.tp [.nm i, .nm j]) cYes y ρ (zipL (W.map stp) cs) [] S = .ok (List.zipWith (fun s c => Dv.tup [fst2 s, c]) (W.map stp) cs) S' ∧ Gr S S' := by
  refine comp_listC (P := fun _ => False) _ _ (by rw [zipL_len, List.length_zipWith]) (by rw [zipL_len, List.length_map]; omega) (fun S1 g => ⟨trivial, g.at ho⟩) fun n d e S1 hd he g => ?_
  obtain ⟨x, c, hx, rfl, rfl⟩ := zw_get _ _ n d e hd he
  rw [List.getElem?_map] at hx
  cases q : W[n]? with
  | none => rw [q] at hx; cases hx
  | some s =>
    rw [q] at hx; cases hx
    obtain ⟨ρ1, e1⟩ := hset (stp s) c
    exact ⟨ρ1, e1, S1, hy s.1 s.2 c ρ1 S1 e1, .refl _⟩
theorem add_tup {S : Sto} {a b : List Dv} (h : a.length + b.length ≤ sizeLine) : addD (.tup a) (.tup b) S = .ok (.tup (a ++ b)) S := by simp only [addD, h, ↓reduceIte]
theorem seq_tup {S : Sto} (ds : List Dv) : seqOf S (.tup ds) = some ds := rfl
theorem goin_run : ∀ (h k : Nat), h ≤ 5 → 2 * h + 4 ≤ k → Gone h k
  | h, k, hh, hk => by
    intro d n S kd n0 n1
    obtain ⟨k, rfl⟩ : ∃ j, k = j + 2 := ⟨k - 2, by omega⟩
    rw [F_let_go_in]
    by_cases z : n = 0
    · subst z
      refine ⟨S, runF_rt (ρ := [some d, some (.int 0), none, none, none]) rfl rfl ?_, .refl _⟩
      unfold c_let_go_in
      refine (seq_rt ((if_t (S' := S) (by simp only [ev_var, ev_con, ev_bin, ev_un, ev_anil, ev_acons, ev_call, ev_tup, ev_lst, ev_not, ev_and, ev_or, ev_if, ev_cbl, ev_btrue, ev_cand, ev_cor, ev_cnot, ev_sli, ev_onone, ev_osome, ev_chain, ev_meth, ev_get2, ev_newK, ev_newT, ev_own, ev_nil, ev_seq, ev_expr, ev_set, ev_ret, ev_retN, ev_cif, ev_brk, ev_ct, ev_asg, ev_put, ev_aug, ev_for, ev_comp, ev_newL, ev_iseq, ev_irange, ev_ienum, ev_yes, Out.bind_ok, Out.bindN_ok, bindS_ok, Tg.set, Tg.sets, List.getElem?_cons_zero, List.getElem?_cons_succ, List.set_cons_zero, List.set_cons_succ, wipeE, List.length_cons, List.length_nil, Nat.reduceAdd, Nat.reduceLeDiff, Nat.reduceEqDiff, ↓reduceIte, Bool.false_eq_true, decide_eq_true_eq, add_int, sub_int, lt_int, gt_int, le_int, ge_int, neg_int, and_int, or_int, xor_int, max2_int, min2_int, mod_pos, fdiv_sm, mul_sm, mul_smr, Int.reduceLT, Int.reduceNeg, int_bl, int_int, sli_tup, eq_int, decide_true])).trans (ret_of rfl))).trans ?_
      cases h <;> rfl
    · -- there is something in it
      obtain ⟨h, rfl⟩ : ∃ j, h = j + 1 := ⟨h - 1, by
        cases h with
        | zero => exfalso; have : sz 0 d = 1 := rfl; omega
        | succ h => omega⟩
      have hlg : lg (h + 1) d n = rb d (lgo (sz h) (lg h) (n - 1) (inn d) 0) := by simp only [lg, z, ↓reduceIte]
      have hne : inn d ≠ [] := fun q => by have := sz_succ h d; rw [q] at this; simp [tot] at this; omega
      obtain ⟨li, S1, e1, g1, l1, h1⟩ := inner_run (k := k) (S := S) kd
      obtain ⟨lo, S2, e2, g2, l2, h2⟩ := letone_run (n := n - 1) (by omega) (by omega) (goin_run h k (by omega) (by omega)) h1 (fun c hc => ((inn_ok kd).2 c hc).1) (inn_ok kd).1
      have hlen := lgo_len (sz h) (lg h) (n - 1) (inn d) 0
      rw [hlg]
      generalize lgo (sz h) (lg h) (n - 1) (inn d) 0 = cs at hlen h2 ⊢
      have pr : ∀ {a b : RC} {o : OutS}, b [some d, some (.int n), some (.ref lo), none, none] S2 = o → cSeq (cIf (cBl (eBin eqD (eVar 1) (eCon (.int 0)))) a (cNil)) (cSeq (cSet 2 (eOwn 2 (F (k + 1) .let_go_one) (aCons (eOwn 1 (F (k + 1) .inner_looks) (aCons (eVar 0) (aNil))) (aCons (eBin subD (eVar 1) (eCon (.int 1))) (aNil))))) b) [some d, some (.int n), none, none, none] S = o := fun {a b o} hb => by
        refine (seq_of ((if_f (S' := S) (by simp only [ev_var, ev_con, ev_bin, ev_un, ev_anil, ev_acons, ev_call, ev_tup, ev_lst, ev_not, ev_and, ev_or, ev_if, ev_cbl, ev_btrue, ev_cand, ev_cor, ev_cnot, ev_sli, ev_onone, ev_osome, ev_chain, ev_meth, ev_get2, ev_newK, ev_newT, ev_own, ev_nil, ev_seq, ev_expr, ev_set, ev_ret, ev_retN, ev_cif, ev_brk, ev_ct, ev_asg, ev_put, ev_aug, ev_for, ev_comp, ev_newL, ev_iseq, ev_irange, ev_ienum, ev_yes, Out.bind_ok, Out.bindN_ok, bindS_ok, Tg.set, Tg.sets, List.getElem?_cons_zero, List.getElem?_cons_succ, List.set_cons_zero, List.set_cons_succ, wipeE, List.length_cons, List.length_nil, Nat.reduceAdd, Nat.reduceLeDiff, Nat.reduceEqDiff, ↓reduceIte, Bool.false_eq_true, decide_eq_true_eq, add_int, sub_int, lt_int, gt_int, le_int, ge_int, neg_int, and_int, or_int, xor_int, max2_int, min2_int, mod_pos, fdiv_sm, mul_sm, mul_smr, Int.reduceLT, Int.reduceNeg, int_bl, int_int, sli_tup, eq_int, z, decide_false])).trans rfl)).trans ?_
        exact (seq_of (set_of (d := .ref lo) (S' := S2) (by simp only [ev_var, ev_con, ev_bin, ev_un, ev_anil, ev_acons, ev_call, ev_tup, ev_lst, ev_not, ev_and, ev_or, ev_if, ev_cbl, ev_btrue, ev_cand, ev_cor, ev_cnot, ev_sli, ev_onone, ev_osome, ev_chain, ev_meth, ev_get2, ev_newK, ev_newT, ev_own, ev_nil, ev_seq, ev_expr, ev_set, ev_ret, ev_retN, ev_cif, ev_brk, ev_ct, ev_asg, ev_put, ev_aug, ev_for, ev_comp, ev_newL, ev_iseq, ev_irange, ev_ienum, ev_yes, Out.bind_ok, Out.bindN_ok, bindS_ok, Tg.set, Tg.sets, List.getElem?_cons_zero, List.getElem?_cons_succ, List.set_cons_zero, List.set_cons_succ, wipeE, List.length_cons, List.length_nil, Nat.reduceAdd, Nat.reduceLeDiff, Nat.reduceEqDiff, ↓reduceIte, Bool.false_eq_true, decide_eq_true_eq, add_int, sub_int, lt_int, gt_int, le_int, ge_int, neg_int, and_int, or_int, xor_int, max2_int, min2_int, mod_pos, fdiv_sm, mul_sm, mul_smr, Int.reduceLT, Int.reduceNeg, int_bl, int_int, sli_tup, e1, e2]))).trans hb
      cases kd.vw with
      | any e => subst e; exact absurd inn_any hne
      | kind x kx e => subst e; exact absurd (inn_kind x) hne
      | ops w r m e l p c =>
        subst e
        rw [rb_ops m]
        rw [inn_ops m] at hlen
        refine ⟨S2, runF_rt (ρ := [some (.tup (.str w :: r)), some (.int n), none, none, none]) rfl rfl (pr ?_), g1.trans g2⟩
        refine (seq_of ((if_f (S' := S2) (by simp only [ev_var, ev_con, ev_bin, ev_un, ev_anil, ev_acons, ev_call, ev_tup, ev_lst, ev_not, ev_and, ev_or, ev_if, ev_cbl, ev_btrue, ev_cand, ev_cor, ev_cnot, ev_sli, ev_onone, ev_osome, ev_chain, ev_meth, ev_get2, ev_newK, ev_newT, ev_own, ev_nil, ev_seq, ev_expr, ev_set, ev_ret, ev_retN, ev_cif, ev_brk, ev_ct, ev_asg, ev_put, ev_aug, ev_for, ev_comp, ev_newL, ev_iseq, ev_irange, ev_ienum, ev_yes, Out.bind_ok, Out.bindN_ok, bindS_ok, Tg.set, Tg.sets, List.getElem?_cons_zero, List.getElem?_cons_succ, List.set_cons_zero, List.set_cons_succ, wipeE, List.length_cons, List.length_nil, Nat.reduceAdd, Nat.reduceLeDiff, Nat.reduceEqDiff, ↓reduceIte, Bool.false_eq_true, decide_eq_true_eq, add_int, sub_int, lt_int, gt_int, le_int, ge_int, neg_int, and_int, or_int, xor_int, max2_int, min2_int, mod_pos, fdiv_sm, mul_sm, mul_smr, Int.reduceLT, Int.reduceNeg, int_bl, int_int, sli_tup, idx_t0, eqs (sk_w m) sk_way, w3_way m, decide_false])).trans rfl)).trans ?_
        refine ret_of ?_
        simp only [ev_var, ev_con, ev_bin, ev_un, ev_anil, ev_acons, ev_call, ev_tup, ev_lst, ev_not, ev_and, ev_or, ev_if, ev_cbl, ev_btrue, ev_cand, ev_cor, ev_cnot, ev_sli, ev_onone, ev_osome, ev_chain, ev_meth, ev_get2, ev_newK, ev_newT, ev_own, ev_nil, ev_seq, ev_expr, ev_set, ev_ret, ev_retN, ev_cif, ev_brk, ev_ct, ev_asg, ev_put, ev_aug, ev_for, ev_comp, ev_newL, ev_iseq, ev_irange, ev_ienum, ev_yes, Out.bind_ok, Out.bindN_ok, bindS_ok, Tg.set, Tg.sets, List.getElem?_cons_zero, List.getElem?_cons_succ, List.set_cons_zero, List.set_cons_succ, wipeE, List.length_cons, List.length_nil, Nat.reduceAdd, Nat.reduceLeDiff, Nat.reduceEqDiff, ↓reduceIte, Bool.false_eq_true, decide_eq_true_eq, add_int, sub_int, lt_int, gt_int, le_int, ge_int, neg_int, and_int, or_int, xor_int, max2_int, min2_int, mod_pos, fdiv_sm, mul_sm, mul_smr, Int.reduceLT, Int.reduceNeg, int_bl, int_int, sli_tup, idx_t0, tuple_ref h2, sline 1 (by omega), add_tup (show ([.str w] : List Dv).length + cs.length ≤ sizeLine from sline _ (by rw [hlen]; simp only [List.length_cons, List.length_nil]; omega)), List.cons_append, List.nil_append]
      | way ss e l p c =>
        subst e
        rw [rb_way, rbW]
        obtain ⟨S3, e3, g3⟩ := zip_comp (W := ss) (ρ := [some (.tup [.str "way", .tup (ss.map stp)]), some (.int n), some (.ref lo), none, none]) (y := y_let_go_in_1 (F (k + 1))) 3 4 (by omega) h2 (fun g e c ρ1 S1 hs => by
          cases hs
          simp only [y_let_go_in_1, ev_var, ev_con, ev_bin, ev_un, ev_anil, ev_acons, ev_call, ev_tup, ev_lst, ev_not, ev_and, ev_or, ev_if, ev_cbl, ev_btrue, ev_cand, ev_cor, ev_cnot, ev_sli, ev_onone, ev_osome, ev_chain, ev_meth, ev_get2, ev_newK, ev_newT, ev_own, ev_nil, ev_seq, ev_expr, ev_set, ev_ret, ev_retN, ev_cif, ev_brk, ev_ct, ev_asg, ev_put, ev_aug, ev_for, ev_comp, ev_newL, ev_iseq, ev_irange, ev_ienum, ev_yes, Out.bind_ok, Out.bindN_ok, bindS_ok, Tg.set, Tg.sets, List.getElem?_cons_zero, List.getElem?_cons_succ, List.set_cons_zero, List.set_cons_succ, wipeE, List.length_cons, List.length_nil, Nat.reduceAdd, Nat.reduceLeDiff, Nat.reduceEqDiff, ↓reduceIte, Bool.false_eq_true, decide_eq_true_eq, add_int, sub_int, lt_int, gt_int, le_int, ge_int, neg_int, and_int, or_int, xor_int, max2_int, min2_int, mod_pos, fdiv_sm, mul_sm, mul_smr, Int.reduceLT, Int.reduceNeg, int_bl, int_int, sli_tup, idx_t0, sline 2 (by omega)]) (fun d e => ⟨_, rfl⟩)
        have g4 := gr_app S3 [.lst (List.zipWith (fun s c => Dv.tup [fst2 s, c]) (ss.map stp) cs)]
        refine ⟨_, runF_rt (ρ := [some (.tup [.str "way", .tup (ss.map stp)]), some (.int n), none, none, none]) rfl rfl (pr ?_), (g1.trans g2).trans (g3.trans g4)⟩
        refine (seq_rt ((if_t (S' := S2) (by simp only [ev_var, ev_con, ev_bin, ev_un, ev_anil, ev_acons, ev_call, ev_tup, ev_lst, ev_not, ev_and, ev_or, ev_if, ev_cbl, ev_btrue, ev_cand, ev_cor, ev_cnot, ev_sli, ev_onone, ev_osome, ev_chain, ev_meth, ev_get2, ev_newK, ev_newT, ev_own, ev_nil, ev_seq, ev_expr, ev_set, ev_ret, ev_retN, ev_cif, ev_brk, ev_ct, ev_asg, ev_put, ev_aug, ev_for, ev_comp, ev_newL, ev_iseq, ev_irange, ev_ienum, ev_yes, Out.bind_ok, Out.bindN_ok, bindS_ok, Tg.set, Tg.sets, List.getElem?_cons_zero, List.getElem?_cons_succ, List.set_cons_zero, List.set_cons_succ, wipeE, List.length_cons, List.length_nil, Nat.reduceAdd, Nat.reduceLeDiff, Nat.reduceEqDiff, ↓reduceIte, Bool.false_eq_true, decide_eq_true_eq, add_int, sub_int, lt_int, gt_int, le_int, ge_int, neg_int, and_int, or_int, xor_int, max2_int, min2_int, mod_pos, fdiv_sm, mul_sm, mul_smr, Int.reduceLT, Int.reduceNeg, int_bl, int_int, sli_tup, idx_t0, eqs sk_way sk_way, decide_true])).trans (ret_of ?_))).trans rfl
        have ez : (iZip (aCons (eBin idxD (eVar 0) (eCon (.int 1))) (aCons (eVar 2) (aNil)))) [some (.tup [.str "way", .tup (ss.map stp)]), some (.int n), some (.ref lo), none, none] S2 = .ok (zipL (ss.map stp) cs, .and .tt (.ls lo cs)) S2 := by
          simp only [iZip, ev_var, ev_con, ev_bin, ev_un, ev_anil, ev_acons, ev_call, ev_tup, ev_lst, ev_not, ev_and, ev_or, ev_if, ev_cbl, ev_btrue, ev_cand, ev_cor, ev_cnot, ev_sli, ev_onone, ev_osome, ev_chain, ev_meth, ev_get2, ev_newK, ev_newT, ev_own, ev_nil, ev_seq, ev_expr, ev_set, ev_ret, ev_retN, ev_cif, ev_brk, ev_ct, ev_asg, ev_put, ev_aug, ev_for, ev_comp, ev_newL, ev_iseq, ev_irange, ev_ienum, ev_yes, Out.bind_ok, Out.bindN_ok, bindS_ok, Tg.set, Tg.sets, List.getElem?_cons_zero, List.getElem?_cons_succ, List.set_cons_zero, List.set_cons_succ, wipeE, List.length_cons, List.length_nil, Nat.reduceAdd, Nat.reduceLeDiff, Nat.reduceEqDiff, ↓reduceIte, Bool.false_eq_true, decide_eq_true_eq, add_int, sub_int, lt_int, gt_int, le_int, ge_int, neg_int, and_int, or_int, xor_int, max2_int, min2_int, mod_pos, fdiv_sm, mul_sm, mul_smr, Int.reduceLT, Int.reduceNeg, int_bl, int_int, sli_tup, idx_t1, seq_tup, seq_lst (lst_ref h2)]; rfl
        simp only [ev_var, ev_con, ev_bin, ev_un, ev_anil, ev_acons, ev_call, ev_tup, ev_lst, ev_not, ev_and, ev_or, ev_if, ev_cbl, ev_btrue, ev_cand, ev_cor, ev_cnot, ev_sli, ev_onone, ev_osome, ev_chain, ev_meth, ev_get2, ev_newK, ev_newT, ev_own, ev_nil, ev_seq, ev_expr, ev_set, ev_ret, ev_retN, ev_cif, ev_brk, ev_ct, ev_asg, ev_put, ev_aug, ev_for, ev_comp, ev_newL, ev_iseq, ev_irange, ev_ienum, ev_yes, Out.bind_ok, Out.bindN_ok, bindS_ok, Tg.set, Tg.sets, List.getElem?_cons_zero, List.getElem?_cons_succ, List.set_cons_zero, List.set_cons_succ, wipeE, List.length_cons, List.length_nil, Nat.reduceAdd, Nat.reduceLeDiff, Nat.reduceEqDiff, ↓reduceIte, Bool.false_eq_true, decide_eq_true_eq, add_int, sub_int, lt_int, gt_int, le_int, ge_int, neg_int, and_int, or_int, xor_int, max2_int, min2_int, mod_pos, fdiv_sm, mul_sm, mul_smr, Int.reduceLT, Int.reduceNeg, int_bl, int_int, sli_tup, ez, e3, tuple_ref (at_new _ _), sline 2 (by omega)]

/-! let go by counting down -/
theorem rb_ok {h : Nat} {d : Dv} (k : LW (h + 1) d) {cs : List Dv} (hl : cs.length = (inn d).length) (hc : ∀ c ∈ cs, LW h c) : LW (h + 1) (rb d cs) := by
  cases k.vw with
  | any e => subst e; rw [rb_any]; exact k
  | kind x kx e => subst e; rw [rb_kind]; exact k
  | ops w r m e l p c =>
    subst e
    rw [inn_ops m] at hl
    rw [rb_ops m]
    exact .inr (.inl ⟨w, cs, m, rfl, by omega, hc⟩)
  | way ss e l p c =>
    subst e
    rw [inn_way, List.length_map] at hl
    rw [rb_way, rbW]
    have H : ∀ (ss : List (Str × Dv)) (cs : List Dv), List.zipWith (fun s c => Dv.tup [fst2 s, c]) (ss.map stp) cs = (List.zipWith (fun s c => (s.1, c)) ss cs).map stp := by
      intro ss
      induction ss with
      | nil => intro cs; rfl
      | cons s ss ih =>
        intro cs
        cases cs with
        | nil => rfl
        | cons c cs => rw [List.map_cons, List.zipWith_cons_cons, ih cs]; rfl
    refine .inr (.inr ⟨_, by rw [H], by rw [List.length_zipWith]; omega, fun s hs => ?_⟩)
    obtain ⟨i, hi, e⟩ := List.getElem_of_mem hs
    rw [List.getElem_zipWith] at e
    subst e
    rw [List.length_zipWith] at hi
    exact ⟨(c _ (List.getElem_mem (by omega))).1, hc _ (List.getElem_mem (by omega))⟩
theorem frs_len (f : Dv → Int → Dv × Int) : ∀ (cs : List Dv) (l : Int), (frs f cs l).1.length = cs.length
  | [], _ => rfl
  | c :: cs, l => by simp only [frs, List.length_cons, frs_len f cs]
theorem frs_ok {h : Nat} (H : ∀ c l, LW h c → LW h (fr h c l).1) : ∀ (cs : List Dv) (l : Int), (∀ c ∈ cs, LW h c) → ∀ c ∈ (frs (fr h) cs l).1, LW h c
  | [], _, _, c, hc => by simp [frs] at hc
  | x :: xs, l, hx, c, hc => by
    simp only [frs] at hc
    rcases List.mem_cons.mp hc with rfl | hc
    · exact H x l (hx x (by simp))
    · exact frs_ok H xs _ (fun y hy => hx y (by simp [hy])) c hc
theorem any_ok (h : Nat) : LW h anyT := LW.up (h := 0) (.inl rfl) (Nat.zero_le _)
theorem fr_ok : ∀ (h : Nat) (d : Dv) (l : Int), LW h d → LW h (fr h d l).1
  | 0, d, l, k => by
    simp only [fr]
    split
    · exact any_ok 0
    · exact k
  | h + 1, d, l, k => by
    simp only [fr]
    split
    · exact any_ok _
    · exact rb_ok k (frs_len _ _ _) (frs_ok (fun c l kc => fr_ok h c l kc) _ _ fun c hc => ((inn_ok k).2 c hc).1)
theorem put0 {S : Sto} {l : Nat} {x y : Dv} (h : S[l]? = some (.lst [x])) : putD (.ref l) (.int 0) y S = some (S.set l (.lst [y])) := by
  simp only [putD, h]; rfl
theorem frs_step (f : Dv → Int → Dv × Int) (c : Dv) (cs : List Dv) (l : Int) : frs f (c :: cs) l = ((f c l).1 :: (frs f cs (f c l).2).1, (frs f cs (f c l).2).2) := rfl
def Freed (h k : Nat) : Prop := ∀ (d : Dv) (l : Int) (lf : Nat) (S : Sto), LW h d → S[lf]? = some (.lst [.int l]) → ∃ S', F k .l_free [d, .ref lf] S = .ok (fr h d l).1 S' ∧ Fr (· = lf) S S' ∧ S'[lf]? = some (.lst [.int (fr h d l).2])
/-- a row of looks gone through, counting down -/
theorem free_comp {h k lf : Nat} {cs : List Dv} {l : Int} {S : Sto} {ck : Sto → Prop} [∀ S, Decidable (ck S)] {t : Tg} {y : RE} {ρ : PL.Env} (ih : Freed h k) (hcs : ∀ c ∈ cs, LW h c) (hl : cs.length ≤ 3) (hS : S[lf]? = some (.lst [.int l])) (hck : ∀ S', Fr (· = lf) S S' → ck S')
    (ds es : List Dv) (hds : ds.length = cs.length) (mk : Nat → Dv → Dv) (hes : ∀ i c, (frs (fr h) cs l).1[i]? = some c → es[i]? = some (mk i c)) (hel : es.length = cs.length)
    (hy : ∀ (i : Nat) (d c : Dv) (S1 : Sto), ds[i]? = some d → cs[i]? = some c → ∃ ρ1, t.set d ρ = some ρ1 ∧ ∀ v S2, F k .l_free [c, .ref lf] S1 = .ok v S2 → y ρ1 S1 = .ok (mk i v) S2) :
    ∃ S', compL ck t cYes y ρ ds [] S = .ok es S' ∧ Fr (· = lf) S S' ∧ S'[lf]? = some (.lst [.int (frs (fr h) cs l).2]) := by
  obtain ⟨acc, S', e, ai, g, hx, hal, h1, h2⟩ := comp_gen (ck := ck) (t := t) (c := cYes) (y := y) (S := S) (acc := []) (fun i acc S1 => ∃ a : Int, Fr (· = lf) S S1 ∧ S1[lf]? = some (.lst [.int a]) ∧ acc = es.take i ∧ (frs (fr h) (cs.drop i) a).2 = (frs (fr h) cs l).2 ∧ ∀ j c, (frs (fr h) (cs.drop i) a).1[j]? = some c → (frs (fr h) cs l).1[i + j]? = some c) ds ρ (fun i d acc S1 hd ⟨a, g, hx, ha, h1, h2⟩ => by
    have hi : i < cs.length := by have := (List.getElem?_eq_some_iff.mp hd).1; omega
    have hci : cs[i]? = some cs[i] := List.getElem?_eq_getElem hi
    have hdr : cs.drop i = cs[i] :: cs.drop (i + 1) := List.drop_eq_getElem_cons hi
    have kc := hcs _ (List.getElem_mem hi)
    obtain ⟨ρ1, e1, hy1⟩ := hy i d cs[i] S1 hd hci
    obtain ⟨S2, e2, g2, hx2⟩ := ih cs[i] a lf S1 kc hx
    rw [hdr, frs_step] at h1 h2
    refine ⟨hck S1 g, ρ1, e1, true, S1, rfl, fun _ => ⟨_, S2, hy1 _ S2 e2, ?_, _, g.trans g2, hx2, ?_, h1, fun j c hj => ?_⟩, fun z => nomatch z⟩
    · rw [ha, List.length_take]; show _ < 2 ^ 24; omega
    · rw [ha, List.take_add_one, hes i _ (by have := h2 0 _ rfl; simpa using this)]; rfl
    · have := h2 (j + 1) c hj
      rw [show i + 1 + j = i + (j + 1) by omega]; exact this) (fun _ S1 ⟨a, g, _⟩ => hck S1 g) ⟨l, .refl _, hS, rfl, rfl, fun j c hj => by rw [Nat.zero_add]; exact hj⟩
  refine ⟨S', ?_, g, ?_⟩
  · rw [e, hal, hds, ← hel, List.take_length]
  · rw [hds, List.drop_length] at h1
    rw [hx, ← h1]; rfl
theorem free_run : ∀ (h k : Nat), h ≤ 5 → h + 4 ≤ k → Freed h k
  | h, k, hh, hk => by
    intro d l lf S kd hS
    obtain ⟨k, rfl⟩ : ∃ j, k = j + 2 := ⟨k - 2, by omega⟩
    rw [F_l_free]
    have hS1 : (S.set lf (.lst [.int (l - 1)]))[lf]? = some (.lst [.int (l - 1)]) := at_set hS
    have f1 : Fr (· = lf) S (S.set lf (.lst [.int (l - 1)])) := fr_set _ _ _
    have ep : (cPut (eVar 1) (eCon (.int 0)) (eBin subD (eBin idxD (eVar 1) (eCon (.int 0))) (eCon (.int 1)))) [some d, some (.ref lf), none, none, none] S = .fl (.nx [some d, some (.ref lf), none, none, none]) (S.set lf (.lst [.int (l - 1)])) := by
      have := idx_ref hS (i := 0) (atI_nat (i := 0) rfl)
      simp only [ev_var, ev_con, ev_bin, ev_un, ev_anil, ev_acons, ev_call, ev_tup, ev_lst, ev_not, ev_and, ev_or, ev_if, ev_cbl, ev_btrue, ev_cand, ev_cor, ev_cnot, ev_sli, ev_onone, ev_osome, ev_chain, ev_meth, ev_get2, ev_newK, ev_newT, ev_own, ev_nil, ev_seq, ev_expr, ev_set, ev_ret, ev_retN, ev_cif, ev_brk, ev_ct, ev_asg, ev_put, ev_aug, ev_for, ev_comp, ev_newL, ev_iseq, ev_irange, ev_ienum, ev_yes, Out.bind_ok, Out.bindN_ok, bindS_ok, Tg.set, Tg.sets, List.getElem?_cons_zero, List.getElem?_cons_succ, List.set_cons_zero, List.set_cons_succ, wipeE, List.length_cons, List.length_nil, Nat.reduceAdd, Nat.reduceLeDiff, Nat.reduceEqDiff, ↓reduceIte, Bool.false_eq_true, decide_eq_true_eq, add_int, sub_int, lt_int, gt_int, le_int, ge_int, neg_int, and_int, or_int, xor_int, max2_int, min2_int, mod_pos, fdiv_sm, mul_sm, mul_smr, Int.reduceLT, Int.reduceNeg, int_bl, int_int, sli_tup, this, put0 hS]
    have e0 := idx_ref hS1 (i := 0) (atI_nat (i := 0) rfl)
    generalize hT : S.set lf (.lst [.int (l - 1)]) = T at *
    by_cases q : l - 1 = -1
    · have ef : fr h d l = (anyT, l - 1) := by cases h <;> simp only [fr, q, ↓reduceIte]
      rw [ef]
      refine ⟨T, runF_rt (ρ := [some d, some (.ref lf), none, none, none]) rfl rfl ?_, f1, hS1⟩
      unfold c_l_free
      refine (seq_of ep).trans ?_
      exact seq_rt ((if_t (S' := T) (by simp only [ev_var, ev_con, ev_bin, ev_un, ev_anil, ev_acons, ev_call, ev_tup, ev_lst, ev_not, ev_and, ev_or, ev_if, ev_cbl, ev_btrue, ev_cand, ev_cor, ev_cnot, ev_sli, ev_onone, ev_osome, ev_chain, ev_meth, ev_get2, ev_newK, ev_newT, ev_own, ev_nil, ev_seq, ev_expr, ev_set, ev_ret, ev_retN, ev_cif, ev_brk, ev_ct, ev_asg, ev_put, ev_aug, ev_for, ev_comp, ev_newL, ev_iseq, ev_irange, ev_ienum, ev_yes, Out.bind_ok, Out.bindN_ok, bindS_ok, Tg.set, Tg.sets, List.getElem?_cons_zero, List.getElem?_cons_succ, List.set_cons_zero, List.set_cons_succ, wipeE, List.length_cons, List.length_nil, Nat.reduceAdd, Nat.reduceLeDiff, Nat.reduceEqDiff, ↓reduceIte, Bool.false_eq_true, decide_eq_true_eq, add_int, sub_int, lt_int, gt_int, le_int, ge_int, neg_int, and_int, or_int, xor_int, max2_int, min2_int, mod_pos, fdiv_sm, mul_sm, mul_smr, Int.reduceLT, Int.reduceNeg, int_bl, int_int, sli_tup, e0, eq_int, q, decide_true])).trans (ret_of (by simp only [ev_var, ev_con, ev_bin, ev_un, ev_anil, ev_acons, ev_call, ev_tup, ev_lst, ev_not, ev_and, ev_or, ev_if, ev_cbl, ev_btrue, ev_cand, ev_cor, ev_cnot, ev_sli, ev_onone, ev_osome, ev_chain, ev_meth, ev_get2, ev_newK, ev_newT, ev_own, ev_nil, ev_seq, ev_expr, ev_set, ev_ret, ev_retN, ev_cif, ev_brk, ev_ct, ev_asg, ev_put, ev_aug, ev_for, ev_comp, ev_newL, ev_iseq, ev_irange, ev_ienum, ev_yes, Out.bind_ok, Out.bindN_ok, bindS_ok, Tg.set, Tg.sets, List.getElem?_cons_zero, List.getElem?_cons_succ, List.set_cons_zero, List.set_cons_succ, wipeE, List.length_cons, List.length_nil, Nat.reduceAdd, Nat.reduceLeDiff, Nat.reduceEqDiff, ↓reduceIte, Bool.false_eq_true, decide_eq_true_eq, add_int, sub_int, lt_int, gt_int, le_int, ge_int, neg_int, and_int, or_int, xor_int, max2_int, min2_int, mod_pos, fdiv_sm, mul_sm, mul_smr, Int.reduceLT, Int.reduceNeg, int_bl, int_int, sli_tup, sline 1 (by omega)]; rfl)))
    · -- what is in it
      obtain ⟨li, S1, e1, g1, l1, h1⟩ := linner_run (k := k) (S := T) kd
      have x1 : S1[lf]? = some (.lst [.int (l - 1)]) := g1.at hS1
      have nli : li ≠ lf := by have := lt_of_at hS1; omega
      have pr : ∀ {cs : List Dv} {S2 : Sto} {b : RC} {o : OutS}, compL (Ck.ls li (inn d)).ok (.nm 3) cYes (y_l_free_1 (F (k + 1))) [some d, some (.ref lf), none, none, none] (inn d) [] S1 = .ok cs S2 →
          b [some d, some (.ref lf), some (.ref S2.length), none, none] (S2 ++ [.lst cs]) = o →
          cSeq (cPut (eVar 1) (eCon (.int 0)) (eBin subD (eBin idxD (eVar 1) (eCon (.int 0))) (eCon (.int 1)))) (cSeq (cIf (cBl (eBin eqD (eBin idxD (eVar 1) (eCon (.int 0))) (eUn negD (eCon (.int 1))))) (cRet (eTup (aCons (eCon (.str "any")) (aNil)))) (cNil)) (cSeq (cSet 2 (eComp (iSeq (eOwn 1 (F (k + 1) .l_inner) (aCons (eVar 0) (aNil)))) (.nm 3) (cYes) (y_l_free_1 (F (k + 1))) [3])) b)) [some d, some (.ref lf), none, none, none] S = o := fun {cs S2 b o} hc hb => by
        refine (seq_of ep).trans ?_
        refine (seq_of ((if_f (S' := T) (by simp only [ev_var, ev_con, ev_bin, ev_un, ev_anil, ev_acons, ev_call, ev_tup, ev_lst, ev_not, ev_and, ev_or, ev_if, ev_cbl, ev_btrue, ev_cand, ev_cor, ev_cnot, ev_sli, ev_onone, ev_osome, ev_chain, ev_meth, ev_get2, ev_newK, ev_newT, ev_own, ev_nil, ev_seq, ev_expr, ev_set, ev_ret, ev_retN, ev_cif, ev_brk, ev_ct, ev_asg, ev_put, ev_aug, ev_for, ev_comp, ev_newL, ev_iseq, ev_irange, ev_ienum, ev_yes, Out.bind_ok, Out.bindN_ok, bindS_ok, Tg.set, Tg.sets, List.getElem?_cons_zero, List.getElem?_cons_succ, List.set_cons_zero, List.set_cons_succ, wipeE, List.length_cons, List.length_nil, Nat.reduceAdd, Nat.reduceLeDiff, Nat.reduceEqDiff, ↓reduceIte, Bool.false_eq_true, decide_eq_true_eq, add_int, sub_int, lt_int, gt_int, le_int, ge_int, neg_int, and_int, or_int, xor_int, max2_int, min2_int, mod_pos, fdiv_sm, mul_sm, mul_smr, Int.reduceLT, Int.reduceNeg, int_bl, int_int, sli_tup, e0, eq_int, q, decide_false])).trans rfl)).trans ?_
        exact (seq_of (set_of (d := .ref S2.length) (S' := S2 ++ [Ob.lst cs]) (by simp only [ev_var, ev_con, ev_bin, ev_un, ev_anil, ev_acons, ev_call, ev_tup, ev_lst, ev_not, ev_and, ev_or, ev_if, ev_cbl, ev_btrue, ev_cand, ev_cor, ev_cnot, ev_sli, ev_onone, ev_osome, ev_chain, ev_meth, ev_get2, ev_newK, ev_newT, ev_own, ev_nil, ev_seq, ev_expr, ev_set, ev_ret, ev_retN, ev_cif, ev_brk, ev_ct, ev_asg, ev_put, ev_aug, ev_for, ev_comp, ev_newL, ev_iseq, ev_irange, ev_ienum, ev_yes, Out.bind_ok, Out.bindN_ok, bindS_ok, Tg.set, Tg.sets, List.getElem?_cons_zero, List.getElem?_cons_succ, List.set_cons_zero, List.set_cons_succ, wipeE, List.length_cons, List.length_nil, Nat.reduceAdd, Nat.reduceLeDiff, Nat.reduceEqDiff, ↓reduceIte, Bool.false_eq_true, decide_eq_true_eq, add_int, sub_int, lt_int, gt_int, le_int, ge_int, neg_int, and_int, or_int, xor_int, max2_int, min2_int, mod_pos, fdiv_sm, mul_sm, mul_smr, Int.reduceLT, Int.reduceNeg, int_bl, int_int, sli_tup, e1, walk_ref h1, hc]))).trans hb
      have mem (w : Str) (S : Sto) : memq S (.str w) (.tup [.str "not", .str "both", .str "either"]) = some (decide (w ∈ w3)) := mem_tstrs w3 w
      have leaf : ∀ (w : Str) (r : List Dv), d = .tup (.str w :: r) → Sk w → ¬ w = "way" → w ∉ w3 → inn d = [] → fr h d l = (d, l - 1) → ∃ S', runF (c_l_free (F (k + 1))) 5 2 [d, .ref lf] S = .ok (fr h d l).1 S' ∧ Fr (· = lf) S S' ∧ S'[lf]? = some (.lst [.int (fr h d l).2]) := fun w r e hw n1 n2 hi ef => by
        rw [ef]
        have g2 := gr_app S1 [.lst []]
        refine ⟨_, runF_rt (ρ := [some d, some (.ref lf), none, none, none]) rfl rfl (pr (cs := []) (S2 := S1) (by rw [hi, compL]; exact if_pos (show (Ck.ls li []).ok S1 by rw [hi] at h1; exact h1)) ?_), (f1.trans g1.any).trans g2.any, g2.at x1⟩
        subst e
        refine (seq_of ((if_f (S' := S1 ++ [.lst []]) (by simp only [ev_var, ev_con, ev_bin, ev_un, ev_anil, ev_acons, ev_call, ev_tup, ev_lst, ev_not, ev_and, ev_or, ev_if, ev_cbl, ev_btrue, ev_cand, ev_cor, ev_cnot, ev_sli, ev_onone, ev_osome, ev_chain, ev_meth, ev_get2, ev_newK, ev_newT, ev_own, ev_nil, ev_seq, ev_expr, ev_set, ev_ret, ev_retN, ev_cif, ev_brk, ev_ct, ev_asg, ev_put, ev_aug, ev_for, ev_comp, ev_newL, ev_iseq, ev_irange, ev_ienum, ev_yes, Out.bind_ok, Out.bindN_ok, bindS_ok, Tg.set, Tg.sets, List.getElem?_cons_zero, List.getElem?_cons_succ, List.set_cons_zero, List.set_cons_succ, wipeE, List.length_cons, List.length_nil, Nat.reduceAdd, Nat.reduceLeDiff, Nat.reduceEqDiff, ↓reduceIte, Bool.false_eq_true, decide_eq_true_eq, add_int, sub_int, lt_int, gt_int, le_int, ge_int, neg_int, and_int, or_int, xor_int, max2_int, min2_int, mod_pos, fdiv_sm, mul_sm, mul_smr, Int.reduceLT, Int.reduceNeg, int_bl, int_int, sli_tup, idx_t0, eqs hw sk_way, n1, decide_false])).trans rfl)).trans ?_
        refine (seq_of ((if_f (S' := S1 ++ [.lst []]) (by simp only [ev_var, ev_con, ev_bin, ev_un, ev_anil, ev_acons, ev_call, ev_tup, ev_lst, ev_not, ev_and, ev_or, ev_if, ev_cbl, ev_btrue, ev_cand, ev_cor, ev_cnot, ev_sli, ev_onone, ev_osome, ev_chain, ev_meth, ev_get2, ev_newK, ev_newT, ev_own, ev_nil, ev_seq, ev_expr, ev_set, ev_ret, ev_retN, ev_cif, ev_brk, ev_ct, ev_asg, ev_put, ev_aug, ev_for, ev_comp, ev_newL, ev_iseq, ev_irange, ev_ienum, ev_yes, Out.bind_ok, Out.bindN_ok, bindS_ok, Tg.set, Tg.sets, List.getElem?_cons_zero, List.getElem?_cons_succ, List.set_cons_zero, List.set_cons_succ, wipeE, List.length_cons, List.length_nil, Nat.reduceAdd, Nat.reduceLeDiff, Nat.reduceEqDiff, ↓reduceIte, Bool.false_eq_true, decide_eq_true_eq, add_int, sub_int, lt_int, gt_int, le_int, ge_int, neg_int, and_int, or_int, xor_int, max2_int, min2_int, mod_pos, fdiv_sm, mul_sm, mul_smr, Int.reduceLT, Int.reduceNeg, int_bl, int_int, sli_tup, idx_t0, inD, mem, n2, decide_false, sline 3 (by omega)])).trans rfl)).trans ?_
        exact ret_of rfl
      have ef0 : inn d = [] → fr h d l = (d, l - 1) := fun hi => by
        cases h with
        | zero => simp only [fr, q, ↓reduceIte]
        | succ h =>
          have := rb_inn kd
          rw [hi] at this
          simp only [fr, q, ↓reduceIte, hi, frs, this]
      cases kd.vw with
      | any e => exact leaf "any" [] e (by decide +kernel) (by decide +kernel) (by decide +kernel) (by subst e; exact inn_any) (ef0 (by subst e; exact inn_any))
      | kind x kx e => exact leaf "kind" _ e (by decide +kernel) (by decide +kernel) (by decide +kernel) (by subst e; exact inn_kind x) (ef0 (by subst e; exact inn_kind x))
      | ops w r m e li3 p c =>
        obtain ⟨h, rfl⟩ : ∃ j, h = j + 1 := ⟨h - 1, by omega⟩
        have ef : fr (h + 1) d l = (rb d (frs (fr h) (inn d) (l - 1)).1, (frs (fr h) (inn d) (l - 1)).2) := by simp only [fr, q, ↓reduceIte]
        rw [ef]
        obtain ⟨S2, e2, f2, x2⟩ := free_comp (ck := (Ck.ls li (inn d)).ok) (t := .nm 3) (y := y_l_free_1 (F (k + 1))) (ρ := [some d, some (.ref lf), none, none, none]) (free_run h (k + 1) (by omega) (by omega)) (fun c hc => ((inn_ok kd).2 c hc).1) (inn_ok kd).1 x1 (fun S' f => f.get _ _ h1 nli) (inn d) (frs (fr h) (inn d) (l - 1)).1 rfl (fun _ c => c) (fun i c hc => hc) (frs_len _ _ _)
          (fun i d' c S3 hd hc => ⟨_, rfl, fun v S4 hv => by rw [hd] at hc; cases hc; simp only [y_l_free_1, ev_var, ev_con, ev_bin, ev_un, ev_anil, ev_acons, ev_call, ev_tup, ev_lst, ev_not, ev_and, ev_or, ev_if, ev_cbl, ev_btrue, ev_cand, ev_cor, ev_cnot, ev_sli, ev_onone, ev_osome, ev_chain, ev_meth, ev_get2, ev_newK, ev_newT, ev_own, ev_nil, ev_seq, ev_expr, ev_set, ev_ret, ev_retN, ev_cif, ev_brk, ev_ct, ev_asg, ev_put, ev_aug, ev_for, ev_comp, ev_newL, ev_iseq, ev_irange, ev_ienum, ev_yes, Out.bind_ok, Out.bindN_ok, bindS_ok, Tg.set, Tg.sets, List.getElem?_cons_zero, List.getElem?_cons_succ, List.set_cons_zero, List.set_cons_succ, wipeE, List.length_cons, List.length_nil, Nat.reduceAdd, Nat.reduceLeDiff, Nat.reduceEqDiff, ↓reduceIte, Bool.false_eq_true, decide_eq_true_eq, add_int, sub_int, lt_int, gt_int, le_int, ge_int, neg_int, and_int, or_int, xor_int, max2_int, min2_int, mod_pos, fdiv_sm, mul_sm, mul_smr, Int.reduceLT, Int.reduceNeg, int_bl, int_int, sli_tup, hv]⟩)
        have hlen := frs_len (fr h) (inn d) (l - 1)
        generalize (frs (fr h) (inn d) (l - 1)).1 = cs at e2 hlen ⊢
        have g3 := gr_app S2 [.lst cs]
        refine ⟨_, runF_rt (ρ := [some d, some (.ref lf), none, none, none]) rfl rfl (pr e2 ?_), ((f1.trans g1.any).trans f2).trans g3.any, g3.at x2⟩
        subst e
        rw [inn_ops m] at hlen
        rw [rb_ops m]
        refine (seq_of ((if_f (S' := S2 ++ [.lst cs]) (by simp only [ev_var, ev_con, ev_bin, ev_un, ev_anil, ev_acons, ev_call, ev_tup, ev_lst, ev_not, ev_and, ev_or, ev_if, ev_cbl, ev_btrue, ev_cand, ev_cor, ev_cnot, ev_sli, ev_onone, ev_osome, ev_chain, ev_meth, ev_get2, ev_newK, ev_newT, ev_own, ev_nil, ev_seq, ev_expr, ev_set, ev_ret, ev_retN, ev_cif, ev_brk, ev_ct, ev_asg, ev_put, ev_aug, ev_for, ev_comp, ev_newL, ev_iseq, ev_irange, ev_ienum, ev_yes, Out.bind_ok, Out.bindN_ok, bindS_ok, Tg.set, Tg.sets, List.getElem?_cons_zero, List.getElem?_cons_succ, List.set_cons_zero, List.set_cons_succ, wipeE, List.length_cons, List.length_nil, Nat.reduceAdd, Nat.reduceLeDiff, Nat.reduceEqDiff, ↓reduceIte, Bool.false_eq_true, decide_eq_true_eq, add_int, sub_int, lt_int, gt_int, le_int, ge_int, neg_int, and_int, or_int, xor_int, max2_int, min2_int, mod_pos, fdiv_sm, mul_sm, mul_smr, Int.reduceLT, Int.reduceNeg, int_bl, int_int, sli_tup, idx_t0, eqs (sk_w m) sk_way, w3_way m, decide_false])).trans rfl)).trans ?_
        refine seq_rt ((if_t (S' := S2 ++ [.lst cs]) (by simp only [ev_var, ev_con, ev_bin, ev_un, ev_anil, ev_acons, ev_call, ev_tup, ev_lst, ev_not, ev_and, ev_or, ev_if, ev_cbl, ev_btrue, ev_cand, ev_cor, ev_cnot, ev_sli, ev_onone, ev_osome, ev_chain, ev_meth, ev_get2, ev_newK, ev_newT, ev_own, ev_nil, ev_seq, ev_expr, ev_set, ev_ret, ev_retN, ev_cif, ev_brk, ev_ct, ev_asg, ev_put, ev_aug, ev_for, ev_comp, ev_newL, ev_iseq, ev_irange, ev_ienum, ev_yes, Out.bind_ok, Out.bindN_ok, bindS_ok, Tg.set, Tg.sets, List.getElem?_cons_zero, List.getElem?_cons_succ, List.set_cons_zero, List.set_cons_succ, wipeE, List.length_cons, List.length_nil, Nat.reduceAdd, Nat.reduceLeDiff, Nat.reduceEqDiff, ↓reduceIte, Bool.false_eq_true, decide_eq_true_eq, add_int, sub_int, lt_int, gt_int, le_int, ge_int, neg_int, and_int, or_int, xor_int, max2_int, min2_int, mod_pos, fdiv_sm, mul_sm, mul_smr, Int.reduceLT, Int.reduceNeg, int_bl, int_int, sli_tup, idx_t0, inD, mem, m, decide_true, sline 3 (by omega)])).trans (ret_of ?_))
        simp only [ev_var, ev_con, ev_bin, ev_un, ev_anil, ev_acons, ev_call, ev_tup, ev_lst, ev_not, ev_and, ev_or, ev_if, ev_cbl, ev_btrue, ev_cand, ev_cor, ev_cnot, ev_sli, ev_onone, ev_osome, ev_chain, ev_meth, ev_get2, ev_newK, ev_newT, ev_own, ev_nil, ev_seq, ev_expr, ev_set, ev_ret, ev_retN, ev_cif, ev_brk, ev_ct, ev_asg, ev_put, ev_aug, ev_for, ev_comp, ev_newL, ev_iseq, ev_irange, ev_ienum, ev_yes, Out.bind_ok, Out.bindN_ok, bindS_ok, Tg.set, Tg.sets, List.getElem?_cons_zero, List.getElem?_cons_succ, List.set_cons_zero, List.set_cons_succ, wipeE, List.length_cons, List.length_nil, Nat.reduceAdd, Nat.reduceLeDiff, Nat.reduceEqDiff, ↓reduceIte, Bool.false_eq_true, decide_eq_true_eq, add_int, sub_int, lt_int, gt_int, le_int, ge_int, neg_int, and_int, or_int, xor_int, max2_int, min2_int, mod_pos, fdiv_sm, mul_sm, mul_smr, Int.reduceLT, Int.reduceNeg, int_bl, int_int, sli_tup, idx_t0, tuple_ref (at_new _ _), sline 1 (by omega), add_tup (show ([.str w] : List Dv).length + cs.length ≤ sizeLine from sline _ (by rw [hlen]; simp only [List.length_cons, List.length_nil]; omega)), List.cons_append, List.nil_append]
      | way ss e l3 p c =>
        obtain ⟨h, rfl⟩ : ∃ j, h = j + 1 := ⟨h - 1, by omega⟩
        have ef : fr (h + 1) d l = (rb d (frs (fr h) (inn d) (l - 1)).1, (frs (fr h) (inn d) (l - 1)).2) := by simp only [fr, q, ↓reduceIte]
        rw [ef]
        obtain ⟨S2, e2, f2, x2⟩ := free_comp (ck := (Ck.ls li (inn d)).ok) (t := .nm 3) (y := y_l_free_1 (F (k + 1))) (ρ := [some d, some (.ref lf), none, none, none]) (free_run h (k + 1) (by omega) (by omega)) (fun c hc => ((inn_ok kd).2 c hc).1) (inn_ok kd).1 x1 (fun S' f => f.get _ _ h1 nli) (inn d) (frs (fr h) (inn d) (l - 1)).1 rfl (fun _ c => c) (fun i c hc => hc) (frs_len _ _ _)
          (fun i d' c S3 hd hc => ⟨_, rfl, fun v S4 hv => by rw [hd] at hc; cases hc; simp only [y_l_free_1, ev_var, ev_con, ev_bin, ev_un, ev_anil, ev_acons, ev_call, ev_tup, ev_lst, ev_not, ev_and, ev_or, ev_if, ev_cbl, ev_btrue, ev_cand, ev_cor, ev_cnot, ev_sli, ev_onone, ev_osome, ev_chain, ev_meth, ev_get2, ev_newK, ev_newT, ev_own, ev_nil, ev_seq, ev_expr, ev_set, ev_ret, ev_retN, ev_cif, ev_brk, ev_ct, ev_asg, ev_put, ev_aug, ev_for, ev_comp, ev_newL, ev_iseq, ev_irange, ev_ienum, ev_yes, Out.bind_ok, Out.bindN_ok, bindS_ok, Tg.set, Tg.sets, List.getElem?_cons_zero, List.getElem?_cons_succ, List.set_cons_zero, List.set_cons_succ, wipeE, List.length_cons, List.length_nil, Nat.reduceAdd, Nat.reduceLeDiff, Nat.reduceEqDiff, ↓reduceIte, Bool.false_eq_true, decide_eq_true_eq, add_int, sub_int, lt_int, gt_int, le_int, ge_int, neg_int, and_int, or_int, xor_int, max2_int, min2_int, mod_pos, fdiv_sm, mul_sm, mul_smr, Int.reduceLT, Int.reduceNeg, int_bl, int_int, sli_tup, hv]⟩)
        generalize (frs (fr h) (inn d) (l - 1)).1 = cs at e2 ⊢
        have g3 := gr_app S2 [.lst cs]
        subst e
        rw [rb_way, rbW]
        obtain ⟨S3, e3, g4⟩ := zip_comp (W := ss) (S := S2 ++ [.lst cs]) (ρ := [some (.tup [.str "way", .tup (ss.map stp)]), some (.ref lf), some (.ref S2.length), none, none]) (y := y_l_free_2 (F (k + 1))) 4 3 (by omega) (at_new _ _) (fun g e c ρ1 S1 hs => by
          cases hs
          simp only [y_l_free_2, ev_var, ev_con, ev_bin, ev_un, ev_anil, ev_acons, ev_call, ev_tup, ev_lst, ev_not, ev_and, ev_or, ev_if, ev_cbl, ev_btrue, ev_cand, ev_cor, ev_cnot, ev_sli, ev_onone, ev_osome, ev_chain, ev_meth, ev_get2, ev_newK, ev_newT, ev_own, ev_nil, ev_seq, ev_expr, ev_set, ev_ret, ev_retN, ev_cif, ev_brk, ev_ct, ev_asg, ev_put, ev_aug, ev_for, ev_comp, ev_newL, ev_iseq, ev_irange, ev_ienum, ev_yes, Out.bind_ok, Out.bindN_ok, bindS_ok, Tg.set, Tg.sets, List.getElem?_cons_zero, List.getElem?_cons_succ, List.set_cons_zero, List.set_cons_succ, wipeE, List.length_cons, List.length_nil, Nat.reduceAdd, Nat.reduceLeDiff, Nat.reduceEqDiff, ↓reduceIte, Bool.false_eq_true, decide_eq_true_eq, add_int, sub_int, lt_int, gt_int, le_int, ge_int, neg_int, and_int, or_int, xor_int, max2_int, min2_int, mod_pos, fdiv_sm, mul_sm, mul_smr, Int.reduceLT, Int.reduceNeg, int_bl, int_int, sli_tup, idx_t0, sline 2 (by omega)]) (fun d e => ⟨_, rfl⟩)
        have g5 := gr_app S3 [.lst (List.zipWith (fun s c => Dv.tup [fst2 s, c]) (ss.map stp) cs)]
        refine ⟨_, runF_rt (ρ := [some (.tup [.str "way", .tup (ss.map stp)]), some (.ref lf), none, none, none]) rfl rfl (pr e2 ?_), (((f1.trans g1.any).trans f2).trans g3.any).trans (g4.trans g5).any, (g4.trans g5).at (g3.at x2)⟩
        refine (seq_rt ((if_t (S' := S2 ++ [.lst cs]) (by simp only [ev_var, ev_con, ev_bin, ev_un, ev_anil, ev_acons, ev_call, ev_tup, ev_lst, ev_not, ev_and, ev_or, ev_if, ev_cbl, ev_btrue, ev_cand, ev_cor, ev_cnot, ev_sli, ev_onone, ev_osome, ev_chain, ev_meth, ev_get2, ev_newK, ev_newT, ev_own, ev_nil, ev_seq, ev_expr, ev_set, ev_ret, ev_retN, ev_cif, ev_brk, ev_ct, ev_asg, ev_put, ev_aug, ev_for, ev_comp, ev_newL, ev_iseq, ev_irange, ev_ienum, ev_yes, Out.bind_ok, Out.bindN_ok, bindS_ok, Tg.set, Tg.sets, List.getElem?_cons_zero, List.getElem?_cons_succ, List.set_cons_zero, List.set_cons_succ, wipeE, List.length_cons, List.length_nil, Nat.reduceAdd, Nat.reduceLeDiff, Nat.reduceEqDiff, ↓reduceIte, Bool.false_eq_true, decide_eq_true_eq, add_int, sub_int, lt_int, gt_int, le_int, ge_int, neg_int, and_int, or_int, xor_int, max2_int, min2_int, mod_pos, fdiv_sm, mul_sm, mul_smr, Int.reduceLT, Int.reduceNeg, int_bl, int_int, sli_tup, idx_t0, eqs sk_way sk_way, decide_true])).trans (ret_of ?_))).trans rfl
        have ez : (iZip (aCons (eBin idxD (eVar 0) (eCon (.int 1))) (aCons (eVar 2) (aNil)))) [some (.tup [.str "way", .tup (ss.map stp)]), some (.ref lf), some (.ref S2.length), none, none] (S2 ++ [.lst cs]) = .ok (zipL (ss.map stp) cs, .and .tt (.ls S2.length cs)) (S2 ++ [.lst cs]) := by
          simp only [iZip, ev_var, ev_con, ev_bin, ev_un, ev_anil, ev_acons, ev_call, ev_tup, ev_lst, ev_not, ev_and, ev_or, ev_if, ev_cbl, ev_btrue, ev_cand, ev_cor, ev_cnot, ev_sli, ev_onone, ev_osome, ev_chain, ev_meth, ev_get2, ev_newK, ev_newT, ev_own, ev_nil, ev_seq, ev_expr, ev_set, ev_ret, ev_retN, ev_cif, ev_brk, ev_ct, ev_asg, ev_put, ev_aug, ev_for, ev_comp, ev_newL, ev_iseq, ev_irange, ev_ienum, ev_yes, Out.bind_ok, Out.bindN_ok, bindS_ok, Tg.set, Tg.sets, List.getElem?_cons_zero, List.getElem?_cons_succ, List.set_cons_zero, List.set_cons_succ, wipeE, List.length_cons, List.length_nil, Nat.reduceAdd, Nat.reduceLeDiff, Nat.reduceEqDiff, ↓reduceIte, Bool.false_eq_true, decide_eq_true_eq, add_int, sub_int, lt_int, gt_int, le_int, ge_int, neg_int, and_int, or_int, xor_int, max2_int, min2_int, mod_pos, fdiv_sm, mul_sm, mul_smr, Int.reduceLT, Int.reduceNeg, int_bl, int_int, sli_tup, idx_t1, seq_tup, seq_lst (lst_ref (at_new S2 (.lst cs)))]; rfl
        simp only [ev_var, ev_con, ev_bin, ev_un, ev_anil, ev_acons, ev_call, ev_tup, ev_lst, ev_not, ev_and, ev_or, ev_if, ev_cbl, ev_btrue, ev_cand, ev_cor, ev_cnot, ev_sli, ev_onone, ev_osome, ev_chain, ev_meth, ev_get2, ev_newK, ev_newT, ev_own, ev_nil, ev_seq, ev_expr, ev_set, ev_ret, ev_retN, ev_cif, ev_brk, ev_ct, ev_asg, ev_put, ev_aug, ev_for, ev_comp, ev_newL, ev_iseq, ev_irange, ev_ienum, ev_yes, Out.bind_ok, Out.bindN_ok, bindS_ok, Tg.set, Tg.sets, List.getElem?_cons_zero, List.getElem?_cons_succ, List.set_cons_zero, List.set_cons_succ, wipeE, List.length_cons, List.length_nil, Nat.reduceAdd, Nat.reduceLeDiff, Nat.reduceEqDiff, ↓reduceIte, Bool.false_eq_true, decide_eq_true_eq, add_int, sub_int, lt_int, gt_int, le_int, ge_int, neg_int, and_int, or_int, xor_int, max2_int, min2_int, mod_pos, fdiv_sm, mul_sm, mul_smr, Int.reduceLT, Int.reduceNeg, int_bl, int_int, sli_tup, ez, e3, tuple_ref (at_new _ _), sline 2 (by omega)]

theorem letgo_run {h k : Nat} {W : List (Str × Dv)} {n : Int} {S : Sto} (hh : h ≤ 5) (hk : 2 * h + 4 ≤ k) (kw : WW h W) : ∃ S', F (k + 2) .let_go [.tup (W.map stp), .int n] S = .ok (.tup (List.zipWith (fun s c => Dv.tup [fst2 s, c]) (W.map stp) (lgo (sz h) (lg h) n (W.map (·.2)) 0))) S' ∧ Gr S S' := by
  obtain ⟨S1, e1, g1⟩ := comp_listC (ck := Ck.tt.ok) (t := .nm 3) (y := y_let_go_1 (F (k + 1))) (ρ := [some (.tup (W.map stp)), some (.int n), none, none, none]) (S := S) (P := fun _ => False) (W.map stp) (W.map (·.2)) (by simp) (by have := kw.len; simp; omega) (fun _ _ => trivial)
    (fun i d e S1 hd he g => by
      rw [List.getElem?_map] at hd he
      cases q : W[i]? with
      | none => rw [q] at hd; cases hd
      | some s =>
        rw [q] at hd he
        cases hd; cases he
        exact ⟨_, rfl, S1, by simp only [y_let_go_1, ev_var, ev_con, ev_bin, ev_un, ev_anil, ev_acons, ev_call, ev_tup, ev_lst, ev_not, ev_and, ev_or, ev_if, ev_cbl, ev_btrue, ev_cand, ev_cor, ev_cnot, ev_sli, ev_onone, ev_osome, ev_chain, ev_meth, ev_get2, ev_newK, ev_newT, ev_own, ev_nil, ev_seq, ev_expr, ev_set, ev_ret, ev_retN, ev_cif, ev_brk, ev_ct, ev_asg, ev_put, ev_aug, ev_for, ev_comp, ev_newL, ev_iseq, ev_irange, ev_ienum, ev_yes, Out.bind_ok, Out.bindN_ok, bindS_ok, Tg.set, Tg.sets, List.getElem?_cons_zero, List.getElem?_cons_succ, List.set_cons_zero, List.set_cons_succ, wipeE, List.length_cons, List.length_nil, Nat.reduceAdd, Nat.reduceLeDiff, Nat.reduceEqDiff, ↓reduceIte, Bool.false_eq_true, decide_eq_true_eq, add_int, sub_int, lt_int, gt_int, le_int, ge_int, neg_int, and_int, or_int, xor_int, max2_int, min2_int, mod_pos, fdiv_sm, mul_sm, mul_smr, Int.reduceLT, Int.reduceNeg, int_bl, int_int, sli_tup, stp, idx_t1], .refl _⟩)
  have g1' := g1.trans (gr_app S1 [.lst (W.map (·.2))])
  obtain ⟨lo, S2, e2, g2, l2, h2⟩ := letone_run (n := n) (S := S1 ++ [.lst (W.map (·.2))]) hh (by omega) (goin_run h k hh hk) (at_new _ _) (fun c hc => by obtain ⟨s, hs, rfl⟩ := List.mem_map.mp hc; exact (kw.ok s hs).2) (by have := kw.len; simpa using this)
  generalize lgo (sz h) (lg h) n (W.map (·.2)) 0 = cs at h2 ⊢
  obtain ⟨S3, e3, g3⟩ := zip_comp (W := W) (ρ := [some (.tup (W.map stp)), some (.int n), some (.ref lo), none, none]) (y := y_let_go_2 (F (k + 1))) 3 4 (by have := kw.len; omega) h2 (fun g e c ρ1 S1 hs => by
    cases hs
    simp only [y_let_go_2, ev_var, ev_con, ev_bin, ev_un, ev_anil, ev_acons, ev_call, ev_tup, ev_lst, ev_not, ev_and, ev_or, ev_if, ev_cbl, ev_btrue, ev_cand, ev_cor, ev_cnot, ev_sli, ev_onone, ev_osome, ev_chain, ev_meth, ev_get2, ev_newK, ev_newT, ev_own, ev_nil, ev_seq, ev_expr, ev_set, ev_ret, ev_retN, ev_cif, ev_brk, ev_ct, ev_asg, ev_put, ev_aug, ev_for, ev_comp, ev_newL, ev_iseq, ev_irange, ev_ienum, ev_yes, Out.bind_ok, Out.bindN_ok, bindS_ok, Tg.set, Tg.sets, List.getElem?_cons_zero, List.getElem?_cons_succ, List.set_cons_zero, List.set_cons_succ, wipeE, List.length_cons, List.length_nil, Nat.reduceAdd, Nat.reduceLeDiff, Nat.reduceEqDiff, ↓reduceIte, Bool.false_eq_true, decide_eq_true_eq, add_int, sub_int, lt_int, gt_int, le_int, ge_int, neg_int, and_int, or_int, xor_int, max2_int, min2_int, mod_pos, fdiv_sm, mul_sm, mul_smr, Int.reduceLT, Int.reduceNeg, int_bl, int_int, sli_tup, idx_t0, sline 2 (by omega)]) (fun d e => ⟨_, rfl⟩)
  refine ⟨_, ?_, (g1'.trans g2).trans (g3.trans (gr_app S3 [.lst (List.zipWith (fun s c => Dv.tup [fst2 s, c]) (W.map stp) cs)]))⟩
  rw [F_let_go]
  refine runF_rt (ρ := [some (.tup (W.map stp)), some (.int n), none, none, none]) rfl rfl ?_
  unfold c_let_go
  refine (seq_of (set_of (d := .ref lo) (S' := S2) (by simp only [ev_var, ev_con, ev_bin, ev_un, ev_anil, ev_acons, ev_call, ev_tup, ev_lst, ev_not, ev_and, ev_or, ev_if, ev_cbl, ev_btrue, ev_cand, ev_cor, ev_cnot, ev_sli, ev_onone, ev_osome, ev_chain, ev_meth, ev_get2, ev_newK, ev_newT, ev_own, ev_nil, ev_seq, ev_expr, ev_set, ev_ret, ev_retN, ev_cif, ev_brk, ev_ct, ev_asg, ev_put, ev_aug, ev_for, ev_comp, ev_newL, ev_iseq, ev_irange, ev_ienum, ev_yes, Out.bind_ok, Out.bindN_ok, bindS_ok, Tg.set, Tg.sets, List.getElem?_cons_zero, List.getElem?_cons_succ, List.set_cons_zero, List.set_cons_succ, wipeE, List.length_cons, List.length_nil, Nat.reduceAdd, Nat.reduceLeDiff, Nat.reduceEqDiff, ↓reduceIte, Bool.false_eq_true, decide_eq_true_eq, add_int, sub_int, lt_int, gt_int, le_int, ge_int, neg_int, and_int, or_int, xor_int, max2_int, min2_int, mod_pos, fdiv_sm, mul_sm, mul_smr, Int.reduceLT, Int.reduceNeg, int_bl, int_int, sli_tup, walk_tup, e1, e2]))).trans ?_
  refine ret_of ?_
  have ez : (iZip (aCons (eVar 0) (aCons (eVar 2) (aNil)))) [some (.tup (W.map stp)), some (.int n), some (.ref lo), none, none] S2 = .ok (zipL (W.map stp) cs, .and .tt (.ls lo cs)) S2 := by
    simp only [iZip, ev_var, ev_con, ev_bin, ev_un, ev_anil, ev_acons, ev_call, ev_tup, ev_lst, ev_not, ev_and, ev_or, ev_if, ev_cbl, ev_btrue, ev_cand, ev_cor, ev_cnot, ev_sli, ev_onone, ev_osome, ev_chain, ev_meth, ev_get2, ev_newK, ev_newT, ev_own, ev_nil, ev_seq, ev_expr, ev_set, ev_ret, ev_retN, ev_cif, ev_brk, ev_ct, ev_asg, ev_put, ev_aug, ev_for, ev_comp, ev_newL, ev_iseq, ev_irange, ev_ienum, ev_yes, Out.bind_ok, Out.bindN_ok, bindS_ok, Tg.set, Tg.sets, List.getElem?_cons_zero, List.getElem?_cons_succ, List.set_cons_zero, List.set_cons_succ, wipeE, List.length_cons, List.length_nil, Nat.reduceAdd, Nat.reduceLeDiff, Nat.reduceEqDiff, ↓reduceIte, Bool.false_eq_true, decide_eq_true_eq, add_int, sub_int, lt_int, gt_int, le_int, ge_int, neg_int, and_int, or_int, xor_int, max2_int, min2_int, mod_pos, fdiv_sm, mul_sm, mul_smr, Int.reduceLT, Int.reduceNeg, int_bl, int_int, sli_tup, seq_tup, seq_lst (lst_ref h2)]; rfl
  simp only [ev_var, ev_con, ev_bin, ev_un, ev_anil, ev_acons, ev_call, ev_tup, ev_lst, ev_not, ev_and, ev_or, ev_if, ev_cbl, ev_btrue, ev_cand, ev_cor, ev_cnot, ev_sli, ev_onone, ev_osome, ev_chain, ev_meth, ev_get2, ev_newK, ev_newT, ev_own, ev_nil, ev_seq, ev_expr, ev_set, ev_ret, ev_retN, ev_cif, ev_brk, ev_ct, ev_asg, ev_put, ev_aug, ev_for, ev_comp, ev_newL, ev_iseq, ev_irange, ev_ienum, ev_yes, Out.bind_ok, Out.bindN_ok, bindS_ok, Tg.set, Tg.sets, List.getElem?_cons_zero, List.getElem?_cons_succ, List.set_cons_zero, List.set_cons_succ, wipeE, List.length_cons, List.length_nil, Nat.reduceAdd, Nat.reduceLeDiff, Nat.reduceEqDiff, ↓reduceIte, Bool.false_eq_true, decide_eq_true_eq, add_int, sub_int, lt_int, gt_int, le_int, ge_int, neg_int, and_int, or_int, xor_int, max2_int, min2_int, mod_pos, fdiv_sm, mul_sm, mul_smr, Int.reduceLT, Int.reduceNeg, int_bl, int_int, sli_tup, ez, e3, tuple_ref (at_new _ _)]
theorem zwi : ∀ (W : List (Str × Dv)) (cs : List Dv) (i : Nat) (s : Str × Dv) (c : Dv), W[i]? = some s → cs[i]? = some c → (List.zipWith (fun s c => Dv.tup [fst2 s, c]) (W.map stp) cs)[i]? = some (.tup [.str s.1, c])
  | [], _, i, s, c, h, _ => by simp at h
  | w :: W, [], i, s, c, _, h => by simp at h
  | w :: W, x :: cs, 0, s, c, h, h2 => by simp at h h2; subst h; subst h2; rfl
  | w :: W, x :: cs, i + 1, s, c, h, h2 => by simpa using zwi W cs i s c (by simpa using h) (by simpa using h2)
theorem let_run {h k : Nat} {W : List (Str × Dv)} {n : Int} {S : Sto} (hh : h ≤ 5) (hk : h + 4 ≤ k) (kw : WW h W) : ∃ S', F (k + 1) .l_let [.tup (W.map stp), .int n] S = .ok (.tup (List.zipWith (fun s c => Dv.tup [fst2 s, c]) (W.map stp) (frs (fr h) (W.map (·.2)) n).1)) S' ∧ Gr S S' := by
  have g0 := gr_app S [.lst [.int n]]
  have hfl := frs_len (fr h) (W.map (·.2)) n
  rw [List.length_map] at hfl
  obtain ⟨S1, e1, f1, _⟩ := free_comp (cs := W.map (·.2)) (l := n) (S := S ++ [.lst [.int n]]) (ck := Ck.tt.ok) (t := .tp [.nm 3, .nm 4]) (y := y_l_let_1 (F k)) (ρ := [some (.tup (W.map stp)), some (.int n), some (.ref S.length), none, none]) (free_run h k hh hk) (fun c hc => by obtain ⟨s, hs, rfl⟩ := List.mem_map.mp hc; exact (kw.ok s hs).2) (by have := kw.len; simpa using this) (at_new S _) (fun _ _ => trivial)
    (W.map stp) (List.zipWith (fun s c => Dv.tup [fst2 s, c]) (W.map stp) (frs (fr h) (W.map (·.2)) n).1) (by simp) (fun i c => .tup [.str ((W[i]?.getD ("", .non)).1), c]) (fun i c hc => by
      have hi : i < W.length := by have := (List.getElem?_eq_some_iff.mp hc).1; omega
      have hw : W[i]? = some W[i] := List.getElem?_eq_getElem hi
      rw [zwi W _ i W[i] c hw hc, hw]; rfl) (by rw [List.length_zipWith, List.length_map, List.length_map, hfl, Nat.min_self])
    (fun i d c S3 hd hc => by
      rw [List.getElem?_map] at hd hc
      cases q : W[i]? with
      | none => rw [q] at hd; cases hd
      | some s =>
        rw [q] at hd hc
        cases hd; cases hc
        exact ⟨_, rfl, fun v S4 hv => by simp only [y_l_let_1, ev_var, ev_con, ev_bin, ev_un, ev_anil, ev_acons, ev_call, ev_tup, ev_lst, ev_not, ev_and, ev_or, ev_if, ev_cbl, ev_btrue, ev_cand, ev_cor, ev_cnot, ev_sli, ev_onone, ev_osome, ev_chain, ev_meth, ev_get2, ev_newK, ev_newT, ev_own, ev_nil, ev_seq, ev_expr, ev_set, ev_ret, ev_retN, ev_cif, ev_brk, ev_ct, ev_asg, ev_put, ev_aug, ev_for, ev_comp, ev_newL, ev_iseq, ev_irange, ev_ienum, ev_yes, Out.bind_ok, Out.bindN_ok, bindS_ok, Tg.set, Tg.sets, List.getElem?_cons_zero, List.getElem?_cons_succ, List.set_cons_zero, List.set_cons_succ, wipeE, List.length_cons, List.length_nil, Nat.reduceAdd, Nat.reduceLeDiff, Nat.reduceEqDiff, ↓reduceIte, Bool.false_eq_true, decide_eq_true_eq, add_int, sub_int, lt_int, gt_int, le_int, ge_int, neg_int, and_int, or_int, xor_int, max2_int, min2_int, mod_pos, fdiv_sm, mul_sm, mul_smr, Int.reduceLT, Int.reduceNeg, int_bl, int_int, sli_tup, hv, sline 2 (by omega), Option.getD_some]⟩)
  refine ⟨_, ?_, (Gr.new g0 f1 (fun l z => by omega)).trans (gr_app S1 [.lst (List.zipWith (fun s c => Dv.tup [fst2 s, c]) (W.map stp) (frs (fr h) (W.map (·.2)) n).1)])⟩
  rw [F_l_let]
  refine runF_rt (ρ := [some (.tup (W.map stp)), some (.int n), none, none, none]) rfl rfl ?_
  unfold c_l_let
  refine (seq_of (set_of (d := .ref S.length) (S' := S ++ [Ob.lst [.int n]]) (by simp only [ev_var, ev_con, ev_bin, ev_un, ev_anil, ev_acons, ev_call, ev_tup, ev_lst, ev_not, ev_and, ev_or, ev_if, ev_cbl, ev_btrue, ev_cand, ev_cor, ev_cnot, ev_sli, ev_onone, ev_osome, ev_chain, ev_meth, ev_get2, ev_newK, ev_newT, ev_own, ev_nil, ev_seq, ev_expr, ev_set, ev_ret, ev_retN, ev_cif, ev_brk, ev_ct, ev_asg, ev_put, ev_aug, ev_for, ev_comp, ev_newL, ev_iseq, ev_irange, ev_ienum, ev_yes, Out.bind_ok, Out.bindN_ok, bindS_ok, Tg.set, Tg.sets, List.getElem?_cons_zero, List.getElem?_cons_succ, List.set_cons_zero, List.set_cons_succ, wipeE, List.length_cons, List.length_nil, Nat.reduceAdd, Nat.reduceLeDiff, Nat.reduceEqDiff, ↓reduceIte, Bool.false_eq_true, decide_eq_true_eq, add_int, sub_int, lt_int, gt_int, le_int, ge_int, neg_int, and_int, or_int, xor_int, max2_int, min2_int, mod_pos, fdiv_sm, mul_sm, mul_smr, Int.reduceLT, Int.reduceNeg, int_bl, int_int, sli_tup, sline 1 (by omega)]))).trans ?_
  refine ret_of ?_
  simp only [ev_var, ev_con, ev_bin, ev_un, ev_anil, ev_acons, ev_call, ev_tup, ev_lst, ev_not, ev_and, ev_or, ev_if, ev_cbl, ev_btrue, ev_cand, ev_cor, ev_cnot, ev_sli, ev_onone, ev_osome, ev_chain, ev_meth, ev_get2, ev_newK, ev_newT, ev_own, ev_nil, ev_seq, ev_expr, ev_set, ev_ret, ev_retN, ev_cif, ev_brk, ev_ct, ev_asg, ev_put, ev_aug, ev_for, ev_comp, ev_newL, ev_iseq, ev_irange, ev_ienum, ev_yes, Out.bind_ok, Out.bindN_ok, bindS_ok, Tg.set, Tg.sets, List.getElem?_cons_zero, List.getElem?_cons_succ, List.set_cons_zero, List.set_cons_succ, wipeE, List.length_cons, List.length_nil, Nat.reduceAdd, Nat.reduceLeDiff, Nat.reduceEqDiff, ↓reduceIte, Bool.false_eq_true, decide_eq_true_eq, add_int, sub_int, lt_int, gt_int, le_int, ge_int, neg_int, and_int, or_int, xor_int, max2_int, min2_int, mod_pos, fdiv_sm, mul_sm, mul_smr, Int.reduceLT, Int.reduceNeg, int_bl, int_int, sli_tup, walk_tup, e1, tuple_ref (at_new _ _)]
/-- what is told and what is due are alike -/
theorem gone_same {h : Nat} {W : List (Str × Dv)} {n : Int} (hh : h ≤ 5) (kw : WW h W) (n0 : 0 ≤ n) (n1 : n < tot h (W.map (·.2))) (S : Sto) :
    neD (.tup (List.zipWith (fun s c => Dv.tup [fst2 s, c]) (W.map stp) (lgo (sz h) (lg h) n (W.map (·.2)) 0))) (.tup (List.zipWith (fun s c => Dv.tup [fst2 s, c]) (W.map stp) (frs (fr h) (W.map (·.2)) n).1)) S = .ok (.bl false) S := by
  have hc : ∀ c ∈ W.map (·.2), LW h c := fun c hc => by obtain ⟨s, hs, rfl⟩ := List.mem_map.mp hc; exact (kw.ok s hs).2
  obtain ⟨i1, _⟩ := frs_lgo n (W.map (·.2)) 0 fun c h' => ⟨hc c h', frl h c (hc c h')⟩
  rw [Int.sub_zero] at i1
  obtain ⟨a, _⟩ := i1 ⟨n0, n1⟩
  have al : Al (.tup (List.zipWith (fun s c => Dv.tup [fst2 s, c]) (W.map stp) (frs (fr h) (W.map (·.2)) n).1)) (.tup (List.zipWith (fun s c => Dv.tup [fst2 s, c]) (W.map stp) (lgo (sz h) (lg h) n (W.map (·.2)) 0))) := Als.tup (a.zw _)
  have nc : Nice (3 * h + 3) (.tup (List.zipWith (fun s c => Dv.tup [fst2 s, c]) (W.map stp) (frs (fr h) (W.map (·.2)) n).1)) := by
    refine nice_tup (k := 3 * h + 2) fun d hd => ?_
    obtain ⟨i, hi, e⟩ := List.getElem_of_mem hd
    rw [List.getElem_zipWith, List.getElem_map] at e
    subst e
    rw [List.length_zipWith, List.length_map] at hi
    refine nice_tup (k := 3 * h + 1) fun d hd => ?_
    simp only [List.mem_cons, List.not_mem_nil, or_false] at hd
    rcases hd with rfl | rfl
    · exact (nice_str (kw.ok _ (List.getElem_mem (by omega))).1).up (by omega)
    · exact nice_look (frs_ok (fun c l kc => fr_ok h c l kc) _ _ hc _ (List.getElem_mem (by omega)))
  obtain ⟨p, h1, h2, h3, h4⟩ := nc.ex
  have e1 := h1 40 S (by omega)
  have e2 := al 40 S
  have e3 : SeqAt.shaped p = true := by
    unfold SeqAt.shaped
    rw [h2, Bool.true_and]
    exact decide_eq_true (by omega)
  simp only [neD, eqq, ← e2, e1, e3, h4, and_self, ↓reduceIte, Bool.not_true]
/-! the draws -/
structure Q4 where
  at_ : Int
  seed : Int
  left : Int
  rest : Int
def Q4.l (q : Q4) (ns : List Int) : List Dv := [.int q.at_, .fl (ns.map .int), .int q.seed, .int q.left, .int q.rest]
structure StA (S : Sto) (st : Nat) (ns : List Int) (q : Q4) : Prop where
  h : S[st]? = some (.lst (q.l ns))
  a0 : 0 ≤ q.at_
  l0 : 0 ≤ q.left
  l3 : q.left ≤ 3
theorem StA.fr {S S' : Sto} {st : Nat} {ns : List Int} {q : Q4} {P : Nat → Prop} (a : StA S st ns q) (f : Fr P S S') (n : ¬ P st) : StA S' st ns q := ⟨f.get _ _ a.h n, a.a0, a.l0, a.l3⟩
theorem fdiv_bg {S : Sto} {i j : Int} (h0 : 0 < j) (h : j < 2 ^ 62) : fdivD (.int i) (.int j) S = .ok (.int (i / j)) S := by
  have h1 : j.natAbs < 2 ^ 62 := by omega
  have h2 : j.natAbs.log2 < 9000 := Nat.lt_of_lt_of_le ((Nat.log2_lt (by omega)).mpr h1) (by omega)
  simp only [fdivD]
  rw [if_pos ⟨h0, h2⟩]
theorem put_l {S : Sto} {st : Nat} {ns : List Int} {q : Q4} {y : Dv} {i : Int} {j : Nat} {xs : List Dv} (h : S[st]? = some (.lst (q.l ns))) (hj : L2.ixN 5 i = some j) (hx : (q.l ns).set j y = xs) : putD (.ref st) (.int i) y S = some (S.set st (.lst xs)) := by
  have : (q.l ns).length = 5 := rfl
  simp only [putD, h, this, hj, hx]
theorem next_run {k st : Nat} {ns : List Int} {q : Q4} {S : Sto} (a : StA S st ns q) : ∃ (x : Int) (S' : Sto) (q' : Q4), F (k + 1) .l_next [.ref st] S = .ok (.int x) S' ∧ 0 ≤ x ∧ Fr (· = st) S S' ∧ StA S' st ns q' ∧ q'.left = q.left := by
  rw [F_l_next]
  have h0 := idx_ref a.h (i := 0) (atI_nat (i := 0) rfl)
  have p0 : putD (.ref st) (.int 0) (.int (q.at_ + 1)) S = some (S.set st (.lst ({ q with at_ := q.at_ + 1 }.l ns))) := put_l a.h rfl rfl
  have a1 : StA (S.set st (.lst ({ q with at_ := q.at_ + 1 }.l ns))) st ns { q with at_ := q.at_ + 1 } := ⟨at_set a.h, by have := a.a0; show 0 ≤ q.at_ + 1; omega, a.l0, a.l3⟩
  have f1 : Fr (· = st) S (S.set st (.lst ({ q with at_ := q.at_ + 1 }.l ns))) := fr_set _ _ _
  have e0 : (cSeq (cSet 1 (eBin idxD (eVar 0) (eCon (.int 0)))) (cPut (eVar 0) (eCon (.int 0)) (eBin addD (eVar 1) (eCon (.int 1))))) [some (.ref st), none, none, none] S = .fl (.nx [some (.ref st), some (.int q.at_), none, none]) (S.set st (.lst ({ q with at_ := q.at_ + 1 }.l ns))) := by
    simp only [ev_var, ev_con, ev_bin, ev_un, ev_anil, ev_acons, ev_call, ev_tup, ev_lst, ev_not, ev_and, ev_or, ev_if, ev_cbl, ev_btrue, ev_cand, ev_cor, ev_cnot, ev_sli, ev_onone, ev_osome, ev_chain, ev_meth, ev_get2, ev_newK, ev_newT, ev_own, ev_nil, ev_seq, ev_expr, ev_set, ev_ret, ev_retN, ev_cif, ev_brk, ev_ct, ev_asg, ev_put, ev_aug, ev_for, ev_comp, ev_newL, ev_iseq, ev_irange, ev_ienum, ev_yes, Out.bind_ok, Out.bindN_ok, bindS_ok, Tg.set, Tg.sets, List.getElem?_cons_zero, List.getElem?_cons_succ, List.set_cons_zero, List.set_cons_succ, wipeE, List.length_cons, List.length_nil, Nat.reduceAdd, Nat.reduceLeDiff, Nat.reduceEqDiff, ↓reduceIte, Bool.false_eq_true, decide_eq_true_eq, add_int, sub_int, lt_int, gt_int, le_int, ge_int, neg_int, and_int, or_int, xor_int, max2_int, min2_int, mod_pos, fdiv_sm, mul_sm, mul_smr, Int.reduceLT, Int.reduceNeg, int_bl, int_int, sli_tup, h0, p0]
  generalize S.set st (.lst ({ q with at_ := q.at_ + 1 }.l ns)) = T at a1 f1 e0 p0
  have i1 := idx_ref a1.h (i := 1) (atI_nat (i := 1) rfl)
  have i2 := idx_ref a1.h (i := 2) (atI_nat (i := 2) rfl)
  have i4 := idx_ref a1.h (i := 4) (atI_nat (i := 4) rfl)
  have ln : lenD [.fl (ns.map .int)] T = .ok (.int (ns.map Dv.int).length) T := len_lst rfl
  have start : ∀ {b : RC} {o : OutS}, b [some (.ref st), some (.int q.at_), none, none] T = o → cSeq (cSet 1 (eBin idxD (eVar 0) (eCon (.int 0)))) (cSeq (cPut (eVar 0) (eCon (.int 0)) (eBin addD (eVar 1) (eCon (.int 1)))) b) [some (.ref st), none, none, none] S = o := fun {b o} hb => by
    refine (seq_of (set_of (d := .int q.at_) (S' := S) (by simp only [ev_var, ev_con, ev_bin, ev_un, ev_anil, ev_acons, ev_call, ev_tup, ev_lst, ev_not, ev_and, ev_or, ev_if, ev_cbl, ev_btrue, ev_cand, ev_cor, ev_cnot, ev_sli, ev_onone, ev_osome, ev_chain, ev_meth, ev_get2, ev_newK, ev_newT, ev_own, ev_nil, ev_seq, ev_expr, ev_set, ev_ret, ev_retN, ev_cif, ev_brk, ev_ct, ev_asg, ev_put, ev_aug, ev_for, ev_comp, ev_newL, ev_iseq, ev_irange, ev_ienum, ev_yes, Out.bind_ok, Out.bindN_ok, bindS_ok, Tg.set, Tg.sets, List.getElem?_cons_zero, List.getElem?_cons_succ, List.set_cons_zero, List.set_cons_succ, wipeE, List.length_cons, List.length_nil, Nat.reduceAdd, Nat.reduceLeDiff, Nat.reduceEqDiff, ↓reduceIte, Bool.false_eq_true, decide_eq_true_eq, add_int, sub_int, lt_int, gt_int, le_int, ge_int, neg_int, and_int, or_int, xor_int, max2_int, min2_int, mod_pos, fdiv_sm, mul_sm, mul_smr, Int.reduceLT, Int.reduceNeg, int_bl, int_int, sli_tup, h0]))).trans ?_
    exact (seq_of (by simp only [ev_var, ev_con, ev_bin, ev_un, ev_anil, ev_acons, ev_call, ev_tup, ev_lst, ev_not, ev_and, ev_or, ev_if, ev_cbl, ev_btrue, ev_cand, ev_cor, ev_cnot, ev_sli, ev_onone, ev_osome, ev_chain, ev_meth, ev_get2, ev_newK, ev_newT, ev_own, ev_nil, ev_seq, ev_expr, ev_set, ev_ret, ev_retN, ev_cif, ev_brk, ev_ct, ev_asg, ev_put, ev_aug, ev_for, ev_comp, ev_newL, ev_iseq, ev_irange, ev_ienum, ev_yes, Out.bind_ok, Out.bindN_ok, bindS_ok, Tg.set, Tg.sets, List.getElem?_cons_zero, List.getElem?_cons_succ, List.set_cons_zero, List.set_cons_succ, wipeE, List.length_cons, List.length_nil, Nat.reduceAdd, Nat.reduceLeDiff, Nat.reduceEqDiff, ↓reduceIte, Bool.false_eq_true, decide_eq_true_eq, add_int, sub_int, lt_int, gt_int, le_int, ge_int, neg_int, and_int, or_int, xor_int, max2_int, min2_int, mod_pos, fdiv_sm, mul_sm, mul_smr, Int.reduceLT, Int.reduceNeg, int_bl, int_int, sli_tup, p0])).trans hb
  by_cases c1 : q.at_ < ((ns.map Dv.int).length : Int)
  · obtain ⟨j, hj⟩ := Int.eq_ofNat_of_zero_le a.a0
    have hjl : j < ns.length := by rw [List.length_map] at c1; omega
    have ix : idxD (.fl (ns.map .int)) (.int q.at_) T = .ok (.int ns[j]) T := by
      rw [hj]; exact idx_lst rfl (atI_nat (by rw [List.getElem?_map, List.getElem?_eq_getElem hjl]; rfl))
    refine ⟨ns[j] % 1000000000000000000, T, _, runF_rt (ρ := [some (.ref st), none, none, none]) rfl rfl (start ?_), Int.emod_nonneg _ (by omega), f1, a1, rfl⟩
    exact seq_rt ((if_t (S' := T) (by simp only [ev_var, ev_con, ev_bin, ev_un, ev_anil, ev_acons, ev_call, ev_tup, ev_lst, ev_not, ev_and, ev_or, ev_if, ev_cbl, ev_btrue, ev_cand, ev_cor, ev_cnot, ev_sli, ev_onone, ev_osome, ev_chain, ev_meth, ev_get2, ev_newK, ev_newT, ev_own, ev_nil, ev_seq, ev_expr, ev_set, ev_ret, ev_retN, ev_cif, ev_brk, ev_ct, ev_asg, ev_put, ev_aug, ev_for, ev_comp, ev_newL, ev_iseq, ev_irange, ev_ienum, ev_yes, Out.bind_ok, Out.bindN_ok, bindS_ok, Tg.set, Tg.sets, List.getElem?_cons_zero, List.getElem?_cons_succ, List.set_cons_zero, List.set_cons_succ, wipeE, List.length_cons, List.length_nil, Nat.reduceAdd, Nat.reduceLeDiff, Nat.reduceEqDiff, ↓reduceIte, Bool.false_eq_true, decide_eq_true_eq, add_int, sub_int, lt_int, gt_int, le_int, ge_int, neg_int, and_int, or_int, xor_int, max2_int, min2_int, mod_pos, fdiv_sm, mul_sm, mul_smr, Int.reduceLT, Int.reduceNeg, int_bl, int_int, sli_tup, i1, ln, c1, decide_true])).trans (ret_of (by simp only [ev_var, ev_con, ev_bin, ev_un, ev_anil, ev_acons, ev_call, ev_tup, ev_lst, ev_not, ev_and, ev_or, ev_if, ev_cbl, ev_btrue, ev_cand, ev_cor, ev_cnot, ev_sli, ev_onone, ev_osome, ev_chain, ev_meth, ev_get2, ev_newK, ev_newT, ev_own, ev_nil, ev_seq, ev_expr, ev_set, ev_ret, ev_retN, ev_cif, ev_brk, ev_ct, ev_asg, ev_put, ev_aug, ev_for, ev_comp, ev_newL, ev_iseq, ev_irange, ev_ienum, ev_yes, Out.bind_ok, Out.bindN_ok, bindS_ok, Tg.set, Tg.sets, List.getElem?_cons_zero, List.getElem?_cons_succ, List.set_cons_zero, List.set_cons_succ, wipeE, List.length_cons, List.length_nil, Nat.reduceAdd, Nat.reduceLeDiff, Nat.reduceEqDiff, ↓reduceIte, Bool.false_eq_true, decide_eq_true_eq, add_int, sub_int, lt_int, gt_int, le_int, ge_int, neg_int, and_int, or_int, xor_int, max2_int, min2_int, mod_pos, fdiv_sm, mul_sm, mul_smr, Int.reduceLT, Int.reduceNeg, int_bl, int_int, sli_tup, i1, ix])))
  · have s1 : ∀ {b : RC} {o : OutS} {r : RC}, b [some (.ref st), some (.int q.at_), none, none] T = o → cSeq (cIf (cBl (eBin ltD (eVar 1) (eCall lenD (aCons (eBin idxD (eVar 0) (eCon (.int 1))) (aNil))))) r (cNil)) b [some (.ref st), some (.int q.at_), none, none] T = o := fun {b o r} hb =>
      (seq_of ((if_f (S' := T) (by simp only [ev_var, ev_con, ev_bin, ev_un, ev_anil, ev_acons, ev_call, ev_tup, ev_lst, ev_not, ev_and, ev_or, ev_if, ev_cbl, ev_btrue, ev_cand, ev_cor, ev_cnot, ev_sli, ev_onone, ev_osome, ev_chain, ev_meth, ev_get2, ev_newK, ev_newT, ev_own, ev_nil, ev_seq, ev_expr, ev_set, ev_ret, ev_retN, ev_cif, ev_brk, ev_ct, ev_asg, ev_put, ev_aug, ev_for, ev_comp, ev_newL, ev_iseq, ev_irange, ev_ienum, ev_yes, Out.bind_ok, Out.bindN_ok, bindS_ok, Tg.set, Tg.sets, List.getElem?_cons_zero, List.getElem?_cons_succ, List.set_cons_zero, List.set_cons_succ, wipeE, List.length_cons, List.length_nil, Nat.reduceAdd, Nat.reduceLeDiff, Nat.reduceEqDiff, ↓reduceIte, Bool.false_eq_true, decide_eq_true_eq, add_int, sub_int, lt_int, gt_int, le_int, ge_int, neg_int, and_int, or_int, xor_int, max2_int, min2_int, mod_pos, fdiv_sm, mul_sm, mul_smr, Int.reduceLT, Int.reduceNeg, int_bl, int_int, sli_tup, i1, ln, c1, decide_false])).trans rfl)).trans hb
    by_cases c2 : 0 < q.rest
    · have p4 : putD (.ref st) (.int 4) (.int (q.rest / 1000000000000000000)) T = some (T.set st (.lst ({ q with at_ := q.at_ + 1, rest := q.rest / 1000000000000000000 }.l ns))) := put_l a1.h rfl rfl
      refine ⟨q.rest % 1000000000000000000, _, { q with at_ := q.at_ + 1, rest := q.rest / 1000000000000000000 }, runF_rt (ρ := [some (.ref st), none, none, none]) rfl rfl (start (s1 ?_)), Int.emod_nonneg _ (by omega), f1.trans (fr_set T st (.lst ({ q with at_ := q.at_ + 1, rest := q.rest / 1000000000000000000 }.l ns))), ⟨at_set a1.h, a1.a0, a1.l0, a1.l3⟩, rfl⟩
      refine seq_rt ((if_t (S' := T) (by simp only [ev_var, ev_con, ev_bin, ev_un, ev_anil, ev_acons, ev_call, ev_tup, ev_lst, ev_not, ev_and, ev_or, ev_if, ev_cbl, ev_btrue, ev_cand, ev_cor, ev_cnot, ev_sli, ev_onone, ev_osome, ev_chain, ev_meth, ev_get2, ev_newK, ev_newT, ev_own, ev_nil, ev_seq, ev_expr, ev_set, ev_ret, ev_retN, ev_cif, ev_brk, ev_ct, ev_asg, ev_put, ev_aug, ev_for, ev_comp, ev_newL, ev_iseq, ev_irange, ev_ienum, ev_yes, Out.bind_ok, Out.bindN_ok, bindS_ok, Tg.set, Tg.sets, List.getElem?_cons_zero, List.getElem?_cons_succ, List.set_cons_zero, List.set_cons_succ, wipeE, List.length_cons, List.length_nil, Nat.reduceAdd, Nat.reduceLeDiff, Nat.reduceEqDiff, ↓reduceIte, Bool.false_eq_true, decide_eq_true_eq, add_int, sub_int, lt_int, gt_int, le_int, ge_int, neg_int, and_int, or_int, xor_int, max2_int, min2_int, mod_pos, fdiv_sm, mul_sm, mul_smr, Int.reduceLT, Int.reduceNeg, int_bl, int_int, sli_tup, i4, c2, decide_true])).trans ?_)
      refine (seq_of (set_of (d := .int (q.rest % 1000000000000000000)) (S' := T) (by simp only [ev_var, ev_con, ev_bin, ev_un, ev_anil, ev_acons, ev_call, ev_tup, ev_lst, ev_not, ev_and, ev_or, ev_if, ev_cbl, ev_btrue, ev_cand, ev_cor, ev_cnot, ev_sli, ev_onone, ev_osome, ev_chain, ev_meth, ev_get2, ev_newK, ev_newT, ev_own, ev_nil, ev_seq, ev_expr, ev_set, ev_ret, ev_retN, ev_cif, ev_brk, ev_ct, ev_asg, ev_put, ev_aug, ev_for, ev_comp, ev_newL, ev_iseq, ev_irange, ev_ienum, ev_yes, Out.bind_ok, Out.bindN_ok, bindS_ok, Tg.set, Tg.sets, List.getElem?_cons_zero, List.getElem?_cons_succ, List.set_cons_zero, List.set_cons_succ, wipeE, List.length_cons, List.length_nil, Nat.reduceAdd, Nat.reduceLeDiff, Nat.reduceEqDiff, ↓reduceIte, Bool.false_eq_true, decide_eq_true_eq, add_int, sub_int, lt_int, gt_int, le_int, ge_int, neg_int, and_int, or_int, xor_int, max2_int, min2_int, mod_pos, fdiv_sm, mul_sm, mul_smr, Int.reduceLT, Int.reduceNeg, int_bl, int_int, sli_tup, i4]))).trans ?_
      refine (seq_of (by simp only [ev_var, ev_con, ev_bin, ev_un, ev_anil, ev_acons, ev_call, ev_tup, ev_lst, ev_not, ev_and, ev_or, ev_if, ev_cbl, ev_btrue, ev_cand, ev_cor, ev_cnot, ev_sli, ev_onone, ev_osome, ev_chain, ev_meth, ev_get2, ev_newK, ev_newT, ev_own, ev_nil, ev_seq, ev_expr, ev_set, ev_ret, ev_retN, ev_cif, ev_brk, ev_ct, ev_asg, ev_put, ev_aug, ev_for, ev_comp, ev_newL, ev_iseq, ev_irange, ev_ienum, ev_yes, Out.bind_ok, Out.bindN_ok, bindS_ok, Tg.set, Tg.sets, List.getElem?_cons_zero, List.getElem?_cons_succ, List.set_cons_zero, List.set_cons_succ, wipeE, List.length_cons, List.length_nil, Nat.reduceAdd, Nat.reduceLeDiff, Nat.reduceEqDiff, ↓reduceIte, Bool.false_eq_true, decide_eq_true_eq, add_int, sub_int, lt_int, gt_int, le_int, ge_int, neg_int, and_int, or_int, xor_int, max2_int, min2_int, mod_pos, fdiv_sm, mul_sm, mul_smr, Int.reduceLT, Int.reduceNeg, int_bl, int_int, sli_tup, i4, fdiv_bg (show (0 : Int) < 1000000000000000000 by omega) (by omega), p4]; rfl)).trans ?_
      exact ret_of rfl
    · have m0 := Int.emod_nonneg (q.at_ * 48271 + q.seed * 16807 + 12345) (b := 2147483647) (by omega)
      have m1 := Int.emod_lt_of_pos (q.at_ * 48271 + q.seed * 16807 + 12345) (b := 2147483647) (by omega)
      generalize hA : (q.at_ * 48271 + q.seed * 16807 + 12345) % 2147483647 = A at m0 m1
      have m2 := Int.emod_nonneg (A * A) (b := 2147483629) (by omega)
      have m3 := Int.emod_lt_of_pos (A * A) (b := 2147483629) (by omega)
      generalize hB : A * A % 2147483629 = B at m2 m3
      have u1 : mulD (.int A) (.int A) T = .ok (.int (A * A)) T := mul_l (by omega)
      have u2 : mulD (.int B) (.int (B + 16807 * q.at_)) T = .ok (.int (B * (B + 16807 * q.at_))) T := mul_l (by omega)
      refine ⟨B * (B + 16807 * q.at_) % 1000000007, T, _, runF_rt (ρ := [some (.ref st), none, none, none]) rfl rfl (start (s1 ?_)), Int.emod_nonneg _ (by omega), f1, a1, rfl⟩
      refine (seq_of ((if_f (S' := T) (by simp only [ev_var, ev_con, ev_bin, ev_un, ev_anil, ev_acons, ev_call, ev_tup, ev_lst, ev_not, ev_and, ev_or, ev_if, ev_cbl, ev_btrue, ev_cand, ev_cor, ev_cnot, ev_sli, ev_onone, ev_osome, ev_chain, ev_meth, ev_get2, ev_newK, ev_newT, ev_own, ev_nil, ev_seq, ev_expr, ev_set, ev_ret, ev_retN, ev_cif, ev_brk, ev_ct, ev_asg, ev_put, ev_aug, ev_for, ev_comp, ev_newL, ev_iseq, ev_irange, ev_ienum, ev_yes, Out.bind_ok, Out.bindN_ok, bindS_ok, Tg.set, Tg.sets, List.getElem?_cons_zero, List.getElem?_cons_succ, List.set_cons_zero, List.set_cons_succ, wipeE, List.length_cons, List.length_nil, Nat.reduceAdd, Nat.reduceLeDiff, Nat.reduceEqDiff, ↓reduceIte, Bool.false_eq_true, decide_eq_true_eq, add_int, sub_int, lt_int, gt_int, le_int, ge_int, neg_int, and_int, or_int, xor_int, max2_int, min2_int, mod_pos, fdiv_sm, mul_sm, mul_smr, Int.reduceLT, Int.reduceNeg, int_bl, int_int, sli_tup, i4, c2, decide_false])).trans rfl)).trans ?_
      refine (seq_of (set_of (d := .int A) (S' := T) (by simp only [ev_var, ev_con, ev_bin, ev_un, ev_anil, ev_acons, ev_call, ev_tup, ev_lst, ev_not, ev_and, ev_or, ev_if, ev_cbl, ev_btrue, ev_cand, ev_cor, ev_cnot, ev_sli, ev_onone, ev_osome, ev_chain, ev_meth, ev_get2, ev_newK, ev_newT, ev_own, ev_nil, ev_seq, ev_expr, ev_set, ev_ret, ev_retN, ev_cif, ev_brk, ev_ct, ev_asg, ev_put, ev_aug, ev_for, ev_comp, ev_newL, ev_iseq, ev_irange, ev_ienum, ev_yes, Out.bind_ok, Out.bindN_ok, bindS_ok, Tg.set, Tg.sets, List.getElem?_cons_zero, List.getElem?_cons_succ, List.set_cons_zero, List.set_cons_succ, wipeE, List.length_cons, List.length_nil, Nat.reduceAdd, Nat.reduceLeDiff, Nat.reduceEqDiff, ↓reduceIte, Bool.false_eq_true, decide_eq_true_eq, add_int, sub_int, lt_int, gt_int, le_int, ge_int, neg_int, and_int, or_int, xor_int, max2_int, min2_int, mod_pos, fdiv_sm, mul_sm, mul_smr, Int.reduceLT, Int.reduceNeg, int_bl, int_int, sli_tup, i2, hA]))).trans ?_
      refine (seq_of (set_of (d := .int B) (S' := T) (by simp only [ev_var, ev_con, ev_bin, ev_un, ev_anil, ev_acons, ev_call, ev_tup, ev_lst, ev_not, ev_and, ev_or, ev_if, ev_cbl, ev_btrue, ev_cand, ev_cor, ev_cnot, ev_sli, ev_onone, ev_osome, ev_chain, ev_meth, ev_get2, ev_newK, ev_newT, ev_own, ev_nil, ev_seq, ev_expr, ev_set, ev_ret, ev_retN, ev_cif, ev_brk, ev_ct, ev_asg, ev_put, ev_aug, ev_for, ev_comp, ev_newL, ev_iseq, ev_irange, ev_ienum, ev_yes, Out.bind_ok, Out.bindN_ok, bindS_ok, Tg.set, Tg.sets, List.getElem?_cons_zero, List.getElem?_cons_succ, List.set_cons_zero, List.set_cons_succ, wipeE, List.length_cons, List.length_nil, Nat.reduceAdd, Nat.reduceLeDiff, Nat.reduceEqDiff, ↓reduceIte, Bool.false_eq_true, decide_eq_true_eq, add_int, sub_int, lt_int, gt_int, le_int, ge_int, neg_int, and_int, or_int, xor_int, max2_int, min2_int, mod_pos, fdiv_sm, mul_sm, mul_smr, Int.reduceLT, Int.reduceNeg, int_bl, int_int, sli_tup, u1, hB]))).trans ?_
      exact ret_of (by simp only [ev_var, ev_con, ev_bin, ev_un, ev_anil, ev_acons, ev_call, ev_tup, ev_lst, ev_not, ev_and, ev_or, ev_if, ev_cbl, ev_btrue, ev_cand, ev_cor, ev_cnot, ev_sli, ev_onone, ev_osome, ev_chain, ev_meth, ev_get2, ev_newK, ev_newT, ev_own, ev_nil, ev_seq, ev_expr, ev_set, ev_ret, ev_retN, ev_cif, ev_brk, ev_ct, ev_asg, ev_put, ev_aug, ev_for, ev_comp, ev_newL, ev_iseq, ev_irange, ev_ienum, ev_yes, Out.bind_ok, Out.bindN_ok, bindS_ok, Tg.set, Tg.sets, List.getElem?_cons_zero, List.getElem?_cons_succ, List.set_cons_zero, List.set_cons_succ, wipeE, List.length_cons, List.length_nil, Nat.reduceAdd, Nat.reduceLeDiff, Nat.reduceEqDiff, ↓reduceIte, Bool.false_eq_true, decide_eq_true_eq, add_int, sub_int, lt_int, gt_int, le_int, ge_int, neg_int, and_int, or_int, xor_int, max2_int, min2_int, mod_pos, fdiv_sm, mul_sm, mul_smr, Int.reduceLT, Int.reduceNeg, int_bl, int_int, sli_tup, u2])

theorem state_run {k : Nat} {ns : List Int} {S : Sto} (hns : ns.length ≤ 63) : ∃ (st : Nat) (S' : Sto) (q : Q4), F (k + 1) .l_state [.fl (ns.map .int)] S = .ok (.ref st) S' ∧ Gr S S' ∧ StA S' st ns q := by
  have hcut : cutD (ns.map Dv.int) none (some 64) = ((ns.drop (HT.sIx (ns.map Dv.int).length 0 none)).take (HT.sIx (ns.map Dv.int).length (ns.map Dv.int).length (some 64) - HT.sIx (ns.map Dv.int).length 0 none)).map .int := by
    unfold cutD; rw [List.map_take, List.map_drop]
  generalize ((ns.drop (HT.sIx (ns.map Dv.int).length 0 none)).take (HT.sIx (ns.map Dv.int).length (ns.map Dv.int).length (some 64) - HT.sIx (ns.map Dv.int).length 0 none)) = ms at hcut
  have hsl : sliD (.fl (ns.map .int)) none (some 64) S = .ok (.ref S.length) (S ++ [.lst (ms.map .int)]) := by simp only [sliD, lstOf, hcut, ev_newL]
  have g0 := gr_app S [.lst (ms.map .int)]
  obtain ⟨ρ', S', e, v2, sd, rfl, rfl⟩ := loop_all (ck := (Ck.ls S.length (ms.map .int)).ok) (t := .nm 2) (b := b_l_state_1 (F k)) (S := S ++ [.lst (ms.map .int)]) (ρ := [some (.fl (ns.map .int)), some (.int 0), none, none])
    (fun i ρ S' => ∃ (v2 : Option Dv) (sd : Int), ρ = [some (.fl (ns.map .int)), some (.int sd), v2, none] ∧ S' = S ++ [.lst (ms.map .int)]) (ms.map .int) ⟨none, 0, rfl, rfl⟩
    (fun i v ρ S2 hv ⟨v2, sd, hρ, hS⟩ => by
      subst hρ hS
      rw [List.getElem?_map] at hv
      cases q : ms[i]? with
      | none => rw [q] at hv; cases hv
      | some m =>
        rw [q] at hv; cases hv
        exact ⟨at_new _ _, _, rfl, _, _, .inl (set_of (by simp only [ev_var, ev_con, ev_bin, ev_un, ev_anil, ev_acons, ev_call, ev_tup, ev_lst, ev_not, ev_and, ev_or, ev_if, ev_cbl, ev_btrue, ev_cand, ev_cor, ev_cnot, ev_sli, ev_onone, ev_osome, ev_chain, ev_meth, ev_get2, ev_newK, ev_newT, ev_own, ev_nil, ev_seq, ev_expr, ev_set, ev_ret, ev_retN, ev_cif, ev_brk, ev_ct, ev_asg, ev_put, ev_aug, ev_for, ev_comp, ev_newL, ev_iseq, ev_irange, ev_ienum, ev_yes, Out.bind_ok, Out.bindN_ok, bindS_ok, Tg.set, Tg.sets, List.getElem?_cons_zero, List.getElem?_cons_succ, List.set_cons_zero, List.set_cons_succ, wipeE, List.length_cons, List.length_nil, Nat.reduceAdd, Nat.reduceLeDiff, Nat.reduceEqDiff, ↓reduceIte, Bool.false_eq_true, decide_eq_true_eq, add_int, sub_int, lt_int, gt_int, le_int, ge_int, neg_int, and_int, or_int, xor_int, max2_int, min2_int, mod_pos, fdiv_sm, mul_sm, mul_smr, Int.reduceLT, Int.reduceNeg, int_bl, int_int, sli_tup]; rfl)), _, _, rfl, rfl⟩)
    (fun ρ S2 ⟨v2, sd, hρ, hS⟩ => by subst hS; exact at_new _ _)
  have ln : lenD [.fl (ns.map .int)] (S ++ [.lst (ms.map .int)]) = .ok (.int (ns.map Dv.int).length) (S ++ [.lst (ms.map .int)]) := len_lst rfl
  have key : ∃ r : Int, (cIf (cBl (eBin gtD (eCall lenD (aCons (eVar 0) (aNil))) (eCon (.int 0)))) (cSet 3 (eBin fdivD (eCall absD (aCons (eBin idxD (eVar 0) (eUn negD (eCon (.int 1)))) (aNil))) (eCon (.int 1000000000000000000)))) (cNil)) [some (.fl (ns.map .int)), some (.int sd), v2, some (.int 0)] (S ++ [.lst (ms.map .int)]) = .fl (.nx [some (.fl (ns.map .int)), some (.int sd), v2, some (.int r)]) (S ++ [.lst (ms.map .int)]) := by
    rcases List.eq_nil_or_concat ns with rfl | ⟨ys, y, rfl⟩
    · refine ⟨0, ?_⟩
      have hz : ¬ (0 : Int) < (((([] : List Int).map Dv.int).length : Nat) : Int) := by simp
      simp only [ev_var, ev_con, ev_bin, ev_un, ev_anil, ev_acons, ev_call, ev_tup, ev_lst, ev_not, ev_and, ev_or, ev_if, ev_cbl, ev_btrue, ev_cand, ev_cor, ev_cnot, ev_sli, ev_onone, ev_osome, ev_chain, ev_meth, ev_get2, ev_newK, ev_newT, ev_own, ev_nil, ev_seq, ev_expr, ev_set, ev_ret, ev_retN, ev_cif, ev_brk, ev_ct, ev_asg, ev_put, ev_aug, ev_for, ev_comp, ev_newL, ev_iseq, ev_irange, ev_ienum, ev_yes, Out.bind_ok, Out.bindN_ok, bindS_ok, Tg.set, Tg.sets, List.getElem?_cons_zero, List.getElem?_cons_succ, List.set_cons_zero, List.set_cons_succ, wipeE, List.length_cons, List.length_nil, Nat.reduceAdd, Nat.reduceLeDiff, Nat.reduceEqDiff, ↓reduceIte, Bool.false_eq_true, decide_eq_true_eq, add_int, sub_int, lt_int, gt_int, le_int, ge_int, neg_int, and_int, or_int, xor_int, max2_int, min2_int, mod_pos, fdiv_sm, mul_sm, mul_smr, Int.reduceLT, Int.reduceNeg, int_bl, int_int, sli_tup, ln, hz, decide_false]
    · rw [List.concat_eq_append] at ln ⊢
      refine ⟨(if y < 0 then -y else y) / 1000000000000000000, ?_⟩
      have hp : (0 : Int) < (((ys ++ [y]).map Dv.int).length : Int) := by rw [List.length_map, List.length_append]; simp only [List.length_cons]; omega
      have hi : idxD (.fl ((ys ++ [y]).map .int)) (.int (-1)) (S ++ [.lst (ms.map .int)]) = .ok (.int y) (S ++ [.lst (ms.map .int)]) := idx_lst rfl (by rw [List.map_append]; exact atI_last)
      simp only [ev_var, ev_con, ev_bin, ev_un, ev_anil, ev_acons, ev_call, ev_tup, ev_lst, ev_not, ev_and, ev_or, ev_if, ev_cbl, ev_btrue, ev_cand, ev_cor, ev_cnot, ev_sli, ev_onone, ev_osome, ev_chain, ev_meth, ev_get2, ev_newK, ev_newT, ev_own, ev_nil, ev_seq, ev_expr, ev_set, ev_ret, ev_retN, ev_cif, ev_brk, ev_ct, ev_asg, ev_put, ev_aug, ev_for, ev_comp, ev_newL, ev_iseq, ev_irange, ev_ienum, ev_yes, Out.bind_ok, Out.bindN_ok, bindS_ok, Tg.set, Tg.sets, List.getElem?_cons_zero, List.getElem?_cons_succ, List.set_cons_zero, List.set_cons_succ, wipeE, List.length_cons, List.length_nil, Nat.reduceAdd, Nat.reduceLeDiff, Nat.reduceEqDiff, ↓reduceIte, Bool.false_eq_true, decide_eq_true_eq, add_int, sub_int, lt_int, gt_int, le_int, ge_int, neg_int, and_int, or_int, xor_int, max2_int, min2_int, mod_pos, fdiv_sm, mul_sm, mul_smr, Int.reduceLT, Int.reduceNeg, int_bl, int_int, sli_tup, ln, hp, decide_true, hi, absD, fdiv_bg (show (0 : Int) < 1000000000000000000 by omega) (show (1000000000000000000 : Int) < 2 ^ 62 by omega)]
  obtain ⟨r, e2⟩ := key
  refine ⟨(S ++ [Ob.lst (ms.map .int)]).length, _, ⟨0, sd, 0, r⟩, ?_, g0.trans (gr_app _ [.lst ((Q4.mk 0 sd 0 r).l ns)]), ⟨at_new _ _, Int.le_refl _, Int.le_refl _, show (0 : Int) ≤ 3 by omega⟩⟩
  rw [F_l_state]
  refine runF_rt (ρ := [some (.fl (ns.map .int)), none, none, none]) rfl rfl ?_
  unfold c_l_state
  refine (seq_of (set_of rfl)).trans ?_
  refine (seq_of ((for_of (w := (ms.map .int, .ls S.length (ms.map .int))) (S' := S ++ [.lst (ms.map .int)]) (by simp only [ev_var, ev_con, ev_bin, ev_un, ev_anil, ev_acons, ev_call, ev_tup, ev_lst, ev_not, ev_and, ev_or, ev_if, ev_cbl, ev_btrue, ev_cand, ev_cor, ev_cnot, ev_sli, ev_onone, ev_osome, ev_chain, ev_meth, ev_get2, ev_newK, ev_newT, ev_own, ev_nil, ev_seq, ev_expr, ev_set, ev_ret, ev_retN, ev_cif, ev_brk, ev_ct, ev_asg, ev_put, ev_aug, ev_for, ev_comp, ev_newL, ev_iseq, ev_irange, ev_ienum, ev_yes, Out.bind_ok, Out.bindN_ok, bindS_ok, Tg.set, Tg.sets, List.getElem?_cons_zero, List.getElem?_cons_succ, List.set_cons_zero, List.set_cons_succ, wipeE, List.length_cons, List.length_nil, Nat.reduceAdd, Nat.reduceLeDiff, Nat.reduceEqDiff, ↓reduceIte, Bool.false_eq_true, decide_eq_true_eq, add_int, sub_int, lt_int, gt_int, le_int, ge_int, neg_int, and_int, or_int, xor_int, max2_int, min2_int, mod_pos, fdiv_sm, mul_sm, mul_smr, Int.reduceLT, Int.reduceNeg, int_bl, int_int, sli_tup, hsl, walk_ref (at_new S (.lst (ms.map .int)))])).trans e)).trans ?_
  refine (seq_of (set_of rfl)).trans ?_
  refine (seq_of e2).trans (ret_of ?_)
  simp only [ev_var, ev_con, ev_bin, ev_un, ev_anil, ev_acons, ev_call, ev_tup, ev_lst, ev_not, ev_and, ev_or, ev_if, ev_cbl, ev_btrue, ev_cand, ev_cor, ev_cnot, ev_sli, ev_onone, ev_osome, ev_chain, ev_meth, ev_get2, ev_newK, ev_newT, ev_own, ev_nil, ev_seq, ev_expr, ev_set, ev_ret, ev_retN, ev_cif, ev_brk, ev_ct, ev_asg, ev_put, ev_aug, ev_for, ev_comp, ev_newL, ev_iseq, ev_irange, ev_ienum, ev_yes, Out.bind_ok, Out.bindN_ok, bindS_ok, Tg.set, Tg.sets, List.getElem?_cons_zero, List.getElem?_cons_succ, List.set_cons_zero, List.set_cons_succ, wipeE, List.length_cons, List.length_nil, Nat.reduceAdd, Nat.reduceLeDiff, Nat.reduceEqDiff, ↓reduceIte, Bool.false_eq_true, decide_eq_true_eq, add_int, sub_int, lt_int, gt_int, le_int, ge_int, neg_int, and_int, or_int, xor_int, max2_int, min2_int, mod_pos, fdiv_sm, mul_sm, mul_smr, Int.reduceLT, Int.reduceNeg, int_bl, int_int, sli_tup, sline 5 (by omega)]; rfl
structure Kd (S : Sto) (kd : Nat) (pool : List Str) : Prop where
  h : S[kd]? = some (.lst (pool.map .str))
  len : pool.length = 4
  sk : ∀ x ∈ pool, Sk x
theorem pool_run {k : Nat} {c : Int} {S : Sto} (c0 : 0 ≤ c) : ∃ (kd : Nat) (S' : Sto) (pool : List Str), F (k + 1) .l_pool [.int c, .int 4] S = .ok (.ref kd) S' ∧ Gr S S' ∧ S.length ≤ kd ∧ Kd S' kd pool := by
  have w0 := Int.emod_nonneg c (b := 8) (by omega)
  have w1 := Int.emod_lt_of_pos c (b := 8) (by omega)
  have ha : ((abc.length : Nat) : Int) = 26 := by decide
  have hal : abc.length ≤ sizeLine := sline _ (by omega)
  have lt (i : Int) (S : Sto) := idx_smod (S := S) ha (by omega) hal i
  generalize hw : 1 + c % 8 = w at *
  have hat : ∀ S : Sto, modD (.int (c / 8)) (.int w) S = .ok (.int (c / 8 % w)) S := fun S => mod_pos (by omega)
  generalize hat' : c / 8 % w = at' at *
  have sk1 : ∀ n, n ∈ abc.cps.toList → Sk ⟨#[n]⟩ := fun n hn => sk_of fun c hc => by simp at hc; subst hc; exact abc_lt _ hn
  obtain ⟨ρ', S', e, v6, v7, v8, pool, rfl, f, hx, hpl, hsk⟩ := loop_all (ck := Ck.tt.ok) (t := .nm 6) (b := b_l_pool_2 (F k)) (S := S ++ [.lst []]) (ρ := [some (.int c), some (.int 4), some (.str abc), some (.int w), some (.int at'), some (.ref S.length), none, none, none])
    (fun i ρ S' => ∃ (v6 v7 v8 : Option Dv) (pool : List Str), ρ = [some (.int c), some (.int 4), some (.str abc), some (.int w), some (.int at'), some (.ref S.length), v6, v7, v8] ∧ Fr (· = S.length) (S ++ [.lst []]) S' ∧ S'[S.length]? = some (.lst (pool.map .str)) ∧ pool.length = i ∧ ∀ x ∈ pool, Sk x) (rangeL 0 4)
    ⟨none, none, none, [], rfl, .refl _, at_new _ _, rfl, by simp⟩
    (fun i v ρ S2 hv ⟨v6, v7, v8, pool, hρ, f, hx, hpl, hsk⟩ => by
      subst hρ
      obtain ⟨rfl, hlt⟩ := rangeL_get hv
      refine ⟨trivial, _, rfl, ?_⟩
      obtain ⟨ρ3, S3, e3, u8, x, rfl, rfl, hxl, hxs⟩ := loop_all (ck := Ck.tt.ok) (t := .nm 8) (b := b_l_pool_1 (F k)) (S := S2) (ρ := [some (.int c), some (.int 4), some (.str abc), some (.int w), some (.int at'), some (.ref S.length), some (.int (0 + i)), some (.str ""), v8])
        (fun j ρ S' => ∃ (u8 : Option Dv) (x : Str), ρ = [some (.int c), some (.int 4), some (.str abc), some (.int w), some (.int at'), some (.ref S.length), some (.int (0 + i)), some (.str x), u8] ∧ S' = S2 ∧ x.length = j ∧ Sk x) (rangeL 0 w) ⟨_, "", rfl, rfl, rfl, by decide +kernel⟩
        (fun j v ρ S3 hv ⟨u8, x, hρ, hS, hxl, hxs⟩ => by
          subst hρ hS
          obtain ⟨rfl, hlt⟩ := rangeL_get hv
          refine ⟨trivial, _, rfl, ?_⟩
          have fin : ∀ n, n ∈ abc.cps.toList → b_l_pool_1 (F k) [some (.int c), some (.int 4), some (.str abc), some (.int w), some (.int at'), some (.ref S.length), some (.int (0 + i)), some (.str x), some (.int (0 + j))] S3 = .fl (.nx [some (.int c), some (.int 4), some (.str abc), some (.int w), some (.int at'), some (.ref S.length), some (.int (0 + i)), some (.str (x ++ ⟨#[n]⟩)), some (.int (0 + j))]) S3 → ∃ ρ2 S4, (b_l_pool_1 (F k) [some (.int c), some (.int 4), some (.str abc), some (.int w), some (.int at'), some (.ref S.length), some (.int (0 + i)), some (.str x), some (.int (0 + j))] S3 = .fl (.nx ρ2) S4 ∨ b_l_pool_1 (F k) [some (.int c), some (.int 4), some (.str abc), some (.int w), some (.int at'), some (.ref S.length), some (.int (0 + i)), some (.str x), some (.int (0 + j))] S3 = .fl (.ct ρ2) S4) ∧ ∃ (u8 : Option Dv) (x : Str), ρ2 = [some (.int c), some (.int 4), some (.str abc), some (.int w), some (.int at'), some (.ref S.length), some (.int (0 + i)), some (.str x), u8] ∧ S4 = S3 ∧ x.length = j + 1 ∧ Sk x := fun n hn hb =>
            ⟨_, _, .inl hb, _, _, rfl, rfl, by rw [strlen_app, hxl]; rfl, sk_app hxs (sk1 n hn)⟩
          have al : ∀ n, addD (.str x) (.str ⟨#[n]⟩) S3 = .ok (.str (x ++ ⟨#[n]⟩)) S3 := fun n => add_str (sline _ (by show x.length + 1 ≤ _; omega))
          by_cases q : (0 + j : Int) = at'
          · obtain ⟨n, hn, en⟩ := lt (c / 64 + (0 + i)) S3
            refine fin n hn ?_
            unfold b_l_pool_1
            refine (if_t (S' := S3) (by simp only [ev_var, ev_con, ev_bin, ev_un, ev_anil, ev_acons, ev_call, ev_tup, ev_lst, ev_not, ev_and, ev_or, ev_if, ev_cbl, ev_btrue, ev_cand, ev_cor, ev_cnot, ev_sli, ev_onone, ev_osome, ev_chain, ev_meth, ev_get2, ev_newK, ev_newT, ev_own, ev_nil, ev_seq, ev_expr, ev_set, ev_ret, ev_retN, ev_cif, ev_brk, ev_ct, ev_asg, ev_put, ev_aug, ev_for, ev_comp, ev_newL, ev_iseq, ev_irange, ev_ienum, ev_yes, Out.bind_ok, Out.bindN_ok, bindS_ok, Tg.set, Tg.sets, List.getElem?_cons_zero, List.getElem?_cons_succ, List.set_cons_zero, List.set_cons_succ, wipeE, List.length_cons, List.length_nil, Nat.reduceAdd, Nat.reduceLeDiff, Nat.reduceEqDiff, ↓reduceIte, Bool.false_eq_true, decide_eq_true_eq, add_int, sub_int, lt_int, gt_int, le_int, ge_int, neg_int, and_int, or_int, xor_int, max2_int, min2_int, mod_pos, fdiv_sm, mul_sm, mul_smr, Int.reduceLT, Int.reduceNeg, int_bl, int_int, sli_tup, eq_int, q, decide_true])).trans (set_of ?_)
            simp only [ev_var, ev_con, ev_bin, ev_un, ev_anil, ev_acons, ev_call, ev_tup, ev_lst, ev_not, ev_and, ev_or, ev_if, ev_cbl, ev_btrue, ev_cand, ev_cor, ev_cnot, ev_sli, ev_onone, ev_osome, ev_chain, ev_meth, ev_get2, ev_newK, ev_newT, ev_own, ev_nil, ev_seq, ev_expr, ev_set, ev_ret, ev_retN, ev_cif, ev_brk, ev_ct, ev_asg, ev_put, ev_aug, ev_for, ev_comp, ev_newL, ev_iseq, ev_irange, ev_ienum, ev_yes, Out.bind_ok, Out.bindN_ok, bindS_ok, Tg.set, Tg.sets, List.getElem?_cons_zero, List.getElem?_cons_succ, List.set_cons_zero, List.set_cons_succ, wipeE, List.length_cons, List.length_nil, Nat.reduceAdd, Nat.reduceLeDiff, Nat.reduceEqDiff, ↓reduceIte, Bool.false_eq_true, decide_eq_true_eq, add_int, sub_int, lt_int, gt_int, le_int, ge_int, neg_int, and_int, or_int, xor_int, max2_int, min2_int, mod_pos, fdiv_sm, mul_sm, mul_smr, Int.reduceLT, Int.reduceNeg, int_bl, int_int, sli_tup, en, al]
          · obtain ⟨n, hn, en⟩ := lt (c / (64 + 5 * (0 + j))) S3
            have fd : fdivD (.int c) (.int (64 + 5 * (0 + j))) S3 = .ok (.int (c / (64 + 5 * (0 + j)))) S3 := fdiv_sm (by omega) (by omega)
            refine fin n hn ?_
            unfold b_l_pool_1
            refine (if_f (S' := S3) (by simp only [ev_var, ev_con, ev_bin, ev_un, ev_anil, ev_acons, ev_call, ev_tup, ev_lst, ev_not, ev_and, ev_or, ev_if, ev_cbl, ev_btrue, ev_cand, ev_cor, ev_cnot, ev_sli, ev_onone, ev_osome, ev_chain, ev_meth, ev_get2, ev_newK, ev_newT, ev_own, ev_nil, ev_seq, ev_expr, ev_set, ev_ret, ev_retN, ev_cif, ev_brk, ev_ct, ev_asg, ev_put, ev_aug, ev_for, ev_comp, ev_newL, ev_iseq, ev_irange, ev_ienum, ev_yes, Out.bind_ok, Out.bindN_ok, bindS_ok, Tg.set, Tg.sets, List.getElem?_cons_zero, List.getElem?_cons_succ, List.set_cons_zero, List.set_cons_succ, wipeE, List.length_cons, List.length_nil, Nat.reduceAdd, Nat.reduceLeDiff, Nat.reduceEqDiff, ↓reduceIte, Bool.false_eq_true, decide_eq_true_eq, add_int, sub_int, lt_int, gt_int, le_int, ge_int, neg_int, and_int, or_int, xor_int, max2_int, min2_int, mod_pos, fdiv_sm, mul_sm, mul_smr, Int.reduceLT, Int.reduceNeg, int_bl, int_int, sli_tup, eq_int, q, decide_false])).trans (set_of ?_)
            simp only [ev_var, ev_con, ev_bin, ev_un, ev_anil, ev_acons, ev_call, ev_tup, ev_lst, ev_not, ev_and, ev_or, ev_if, ev_cbl, ev_btrue, ev_cand, ev_cor, ev_cnot, ev_sli, ev_onone, ev_osome, ev_chain, ev_meth, ev_get2, ev_newK, ev_newT, ev_own, ev_nil, ev_seq, ev_expr, ev_set, ev_ret, ev_retN, ev_cif, ev_brk, ev_ct, ev_asg, ev_put, ev_aug, ev_for, ev_comp, ev_newL, ev_iseq, ev_irange, ev_ienum, ev_yes, Out.bind_ok, Out.bindN_ok, bindS_ok, Tg.set, Tg.sets, List.getElem?_cons_zero, List.getElem?_cons_succ, List.set_cons_zero, List.set_cons_succ, wipeE, List.length_cons, List.length_nil, Nat.reduceAdd, Nat.reduceLeDiff, Nat.reduceEqDiff, ↓reduceIte, Bool.false_eq_true, decide_eq_true_eq, add_int, sub_int, lt_int, gt_int, le_int, ge_int, neg_int, and_int, or_int, xor_int, max2_int, min2_int, mod_pos, fdiv_sm, mul_sm, mul_smr, Int.reduceLT, Int.reduceNeg, int_bl, int_int, sli_tup, fd, en, al])
        (fun _ _ _ => trivial)
      rw [rangeL_len] at hxl
      have mem : memq S3 (.str x) (.tup (takenW.map .str)) = some (decide (x ∈ takenW)) := mem_tstrs takenW x
      have s12 : (takenW.map Dv.str).length ≤ sizeLine := sline 12 (by omega)
      have et : ([.str "start", .str "rule", .str "row", .str "mix", .str "many", .str "any", .str "kind", .str "not", .str "both", .str "either", .str "way", .str "mark"] : List Dv) = takenW.map .str := rfl
      have key : ∃ z : Str, Sk z ∧ (cIf (cBl (eBin inD (eVar 7) (eTup (aCons (eCon (.str "start")) (aCons (eCon (.str "rule")) (aCons (eCon (.str "row")) (aCons (eCon (.str "mix")) (aCons (eCon (.str "many")) (aCons (eCon (.str "any")) (aCons (eCon (.str "kind")) (aCons (eCon (.str "not")) (aCons (eCon (.str "both")) (aCons (eCon (.str "either")) (aCons (eCon (.str "way")) (aCons (eCon (.str "mark")) (aNil)))))))))))))))) (cSet 7 (eBin addD (eVar 7) (eCon (.str "q")))) (cNil)) [some (.int c), some (.int 4), some (.str abc), some (.int w), some (.int at'), some (.ref S.length), some (.int (0 + i)), some (.str x), u8] S3 = .fl (.nx [some (.int c), some (.int 4), some (.str abc), some (.int w), some (.int at'), some (.ref S.length), some (.int (0 + i)), some (.str z), u8]) S3 := by
        by_cases q : x ∈ takenW
        · refine ⟨x ++ "q", sk_app hxs (by decide +kernel), (if_t (S' := S3) ?_).trans (set_of ?_)⟩
          · simp only [ev_var, ev_con, ev_bin, ev_un, ev_anil, ev_acons, ev_call, ev_tup, ev_lst, ev_not, ev_and, ev_or, ev_if, ev_cbl, ev_btrue, ev_cand, ev_cor, ev_cnot, ev_sli, ev_onone, ev_osome, ev_chain, ev_meth, ev_get2, ev_newK, ev_newT, ev_own, ev_nil, ev_seq, ev_expr, ev_set, ev_ret, ev_retN, ev_cif, ev_brk, ev_ct, ev_asg, ev_put, ev_aug, ev_for, ev_comp, ev_newL, ev_iseq, ev_irange, ev_ienum, ev_yes, Out.bind_ok, Out.bindN_ok, bindS_ok, Tg.set, Tg.sets, List.getElem?_cons_zero, List.getElem?_cons_succ, List.set_cons_zero, List.set_cons_succ, wipeE, List.length_cons, List.length_nil, Nat.reduceAdd, Nat.reduceLeDiff, Nat.reduceEqDiff, ↓reduceIte, Bool.false_eq_true, decide_eq_true_eq, add_int, sub_int, lt_int, gt_int, le_int, ge_int, neg_int, and_int, or_int, xor_int, max2_int, min2_int, mod_pos, fdiv_sm, mul_sm, mul_smr, Int.reduceLT, Int.reduceNeg, int_bl, int_int, sli_tup, inD, s12, et, mem, q, decide_true]
          · have : addD (.str x) (.str "q") S3 = .ok (.str (x ++ "q")) S3 := add_str (sline _ (by show x.length + 1 ≤ _; omega))
            simp only [ev_var, ev_con, ev_bin, ev_un, ev_anil, ev_acons, ev_call, ev_tup, ev_lst, ev_not, ev_and, ev_or, ev_if, ev_cbl, ev_btrue, ev_cand, ev_cor, ev_cnot, ev_sli, ev_onone, ev_osome, ev_chain, ev_meth, ev_get2, ev_newK, ev_newT, ev_own, ev_nil, ev_seq, ev_expr, ev_set, ev_ret, ev_retN, ev_cif, ev_brk, ev_ct, ev_asg, ev_put, ev_aug, ev_for, ev_comp, ev_newL, ev_iseq, ev_irange, ev_ienum, ev_yes, Out.bind_ok, Out.bindN_ok, bindS_ok, Tg.set, Tg.sets, List.getElem?_cons_zero, List.getElem?_cons_succ, List.set_cons_zero, List.set_cons_succ, wipeE, List.length_cons, List.length_nil, Nat.reduceAdd, Nat.reduceLeDiff, Nat.reduceEqDiff, ↓reduceIte, Bool.false_eq_true, decide_eq_true_eq, add_int, sub_int, lt_int, gt_int, le_int, ge_int, neg_int, and_int, or_int, xor_int, max2_int, min2_int, mod_pos, fdiv_sm, mul_sm, mul_smr, Int.reduceLT, Int.reduceNeg, int_bl, int_int, sli_tup, this]
        · refine ⟨x, hxs, (if_f (S' := S3) ?_).trans rfl⟩
          simp only [ev_var, ev_con, ev_bin, ev_un, ev_anil, ev_acons, ev_call, ev_tup, ev_lst, ev_not, ev_and, ev_or, ev_if, ev_cbl, ev_btrue, ev_cand, ev_cor, ev_cnot, ev_sli, ev_onone, ev_osome, ev_chain, ev_meth, ev_get2, ev_newK, ev_newT, ev_own, ev_nil, ev_seq, ev_expr, ev_set, ev_ret, ev_retN, ev_cif, ev_brk, ev_ct, ev_asg, ev_put, ev_aug, ev_for, ev_comp, ev_newL, ev_iseq, ev_irange, ev_ienum, ev_yes, Out.bind_ok, Out.bindN_ok, bindS_ok, Tg.set, Tg.sets, List.getElem?_cons_zero, List.getElem?_cons_succ, List.set_cons_zero, List.set_cons_succ, wipeE, List.length_cons, List.length_nil, Nat.reduceAdd, Nat.reduceLeDiff, Nat.reduceEqDiff, ↓reduceIte, Bool.false_eq_true, decide_eq_true_eq, add_int, sub_int, lt_int, gt_int, le_int, ge_int, neg_int, and_int, or_int, xor_int, max2_int, min2_int, mod_pos, fdiv_sm, mul_sm, mul_smr, Int.reduceLT, Int.reduceNeg, int_bl, int_int, sli_tup, inD, s12, et, mem, q, decide_false]
      obtain ⟨z, hz, ez⟩ := key
      refine ⟨[some (.int c), some (.int 4), some (.str abc), some (.int w), some (.int at'), some (.ref S.length), some (.int (0 + i)), some (.str z), u8], S3.set S.length (.lst ((pool ++ [z]).map .str)), .inl ?_, _, _, _, pool ++ [z], rfl, f.trans (fr_set _ _ _), at_set hx, by simp [hpl], fun y hy => ?_⟩
      · unfold b_l_pool_2
        refine (seq_of (set_of rfl)).trans ?_
        refine (seq_of ((for_of (w := (rangeL 0 w, .tt)) (S' := S3) (by simp only [ev_var, ev_con, ev_bin, ev_un, ev_anil, ev_acons, ev_call, ev_tup, ev_lst, ev_not, ev_and, ev_or, ev_if, ev_cbl, ev_btrue, ev_cand, ev_cor, ev_cnot, ev_sli, ev_onone, ev_osome, ev_chain, ev_meth, ev_get2, ev_newK, ev_newT, ev_own, ev_nil, ev_seq, ev_expr, ev_set, ev_ret, ev_retN, ev_cif, ev_brk, ev_ct, ev_asg, ev_put, ev_aug, ev_for, ev_comp, ev_newL, ev_iseq, ev_irange, ev_ienum, ev_yes, Out.bind_ok, Out.bindN_ok, bindS_ok, Tg.set, Tg.sets, List.getElem?_cons_zero, List.getElem?_cons_succ, List.set_cons_zero, List.set_cons_succ, wipeE, List.length_cons, List.length_nil, Nat.reduceAdd, Nat.reduceLeDiff, Nat.reduceEqDiff, ↓reduceIte, Bool.false_eq_true, decide_eq_true_eq, add_int, sub_int, lt_int, gt_int, le_int, ge_int, neg_int, and_int, or_int, xor_int, max2_int, min2_int, mod_pos, fdiv_sm, mul_sm, mul_smr, Int.reduceLT, Int.reduceNeg, int_bl, int_int, sli_tup, rng1_of (i := w) (by omega) (by omega)])).trans e3)).trans ?_
        refine (seq_of ez).trans ?_
        refine expr_of (d := .non) ?_
        simp only [ev_var, ev_con, ev_bin, ev_un, ev_anil, ev_acons, ev_call, ev_tup, ev_lst, ev_not, ev_and, ev_or, ev_if, ev_cbl, ev_btrue, ev_cand, ev_cor, ev_cnot, ev_sli, ev_onone, ev_osome, ev_chain, ev_meth, ev_get2, ev_newK, ev_newT, ev_own, ev_nil, ev_seq, ev_expr, ev_set, ev_ret, ev_retN, ev_cif, ev_brk, ev_ct, ev_asg, ev_put, ev_aug, ev_for, ev_comp, ev_newL, ev_iseq, ev_irange, ev_ienum, ev_yes, Out.bind_ok, Out.bindN_ok, bindS_ok, Tg.set, Tg.sets, List.getElem?_cons_zero, List.getElem?_cons_succ, List.set_cons_zero, List.set_cons_succ, wipeE, List.length_cons, List.length_nil, Nat.reduceAdd, Nat.reduceLeDiff, Nat.reduceEqDiff, ↓reduceIte, Bool.false_eq_true, decide_eq_true_eq, add_int, sub_int, lt_int, gt_int, le_int, ge_int, neg_int, and_int, or_int, xor_int, max2_int, min2_int, mod_pos, fdiv_sm, mul_sm, mul_smr, Int.reduceLT, Int.reduceNeg, int_bl, int_int, sli_tup, tyq_ref hx, app_ref hx (show (pool.map Dv.str).length < sizeLine by rw [List.length_map]; show _ < 2 ^ 24; omega), List.map_append, List.map_cons, List.map_nil]
      · rcases List.mem_append.mp hy with hy | hy
        · exact hsk y hy
        · rw [List.mem_singleton] at hy; subst hy; exact hz)
    (fun _ _ _ => trivial)
  rw [rangeL_len] at hpl
  refine ⟨S.length, S', pool, ?_, Gr.new (gr_app S [.lst []]) f (fun l z => by omega), Nat.le_refl _, ⟨hx, hpl, hsk⟩⟩
  rw [F_l_pool]
  refine runF_rt (ρ := [some (.int c), some (.int 4), none, none, none, none, none, none, none]) rfl rfl ?_
  unfold c_l_pool
  refine (seq_of (set_of (d := .str abc) rfl)).trans ?_
  refine (seq_of (set_of (d := .int w) (S' := S) (by simp only [ev_var, ev_con, ev_bin, ev_un, ev_anil, ev_acons, ev_call, ev_tup, ev_lst, ev_not, ev_and, ev_or, ev_if, ev_cbl, ev_btrue, ev_cand, ev_cor, ev_cnot, ev_sli, ev_onone, ev_osome, ev_chain, ev_meth, ev_get2, ev_newK, ev_newT, ev_own, ev_nil, ev_seq, ev_expr, ev_set, ev_ret, ev_retN, ev_cif, ev_brk, ev_ct, ev_asg, ev_put, ev_aug, ev_for, ev_comp, ev_newL, ev_iseq, ev_irange, ev_ienum, ev_yes, Out.bind_ok, Out.bindN_ok, bindS_ok, Tg.set, Tg.sets, List.getElem?_cons_zero, List.getElem?_cons_succ, List.set_cons_zero, List.set_cons_succ, wipeE, List.length_cons, List.length_nil, Nat.reduceAdd, Nat.reduceLeDiff, Nat.reduceEqDiff, ↓reduceIte, Bool.false_eq_true, decide_eq_true_eq, add_int, sub_int, lt_int, gt_int, le_int, ge_int, neg_int, and_int, or_int, xor_int, max2_int, min2_int, mod_pos, fdiv_sm, mul_sm, mul_smr, Int.reduceLT, Int.reduceNeg, int_bl, int_int, sli_tup, hw]))).trans ?_
  refine (seq_of (set_of (d := .int at') (S' := S) (by simp only [ev_var, ev_con, ev_bin, ev_un, ev_anil, ev_acons, ev_call, ev_tup, ev_lst, ev_not, ev_and, ev_or, ev_if, ev_cbl, ev_btrue, ev_cand, ev_cor, ev_cnot, ev_sli, ev_onone, ev_osome, ev_chain, ev_meth, ev_get2, ev_newK, ev_newT, ev_own, ev_nil, ev_seq, ev_expr, ev_set, ev_ret, ev_retN, ev_cif, ev_brk, ev_ct, ev_asg, ev_put, ev_aug, ev_for, ev_comp, ev_newL, ev_iseq, ev_irange, ev_ienum, ev_yes, Out.bind_ok, Out.bindN_ok, bindS_ok, Tg.set, Tg.sets, List.getElem?_cons_zero, List.getElem?_cons_succ, List.set_cons_zero, List.set_cons_succ, wipeE, List.length_cons, List.length_nil, Nat.reduceAdd, Nat.reduceLeDiff, Nat.reduceEqDiff, ↓reduceIte, Bool.false_eq_true, decide_eq_true_eq, add_int, sub_int, lt_int, gt_int, le_int, ge_int, neg_int, and_int, or_int, xor_int, max2_int, min2_int, mod_pos, fdiv_sm, mul_sm, mul_smr, Int.reduceLT, Int.reduceNeg, int_bl, int_int, sli_tup, hat]))).trans ?_
  refine (seq_of (set_of (d := .ref S.length) (S' := S ++ [Ob.lst []]) (by simp only [ev_var, ev_con, ev_bin, ev_un, ev_anil, ev_acons, ev_call, ev_tup, ev_lst, ev_not, ev_and, ev_or, ev_if, ev_cbl, ev_btrue, ev_cand, ev_cor, ev_cnot, ev_sli, ev_onone, ev_osome, ev_chain, ev_meth, ev_get2, ev_newK, ev_newT, ev_own, ev_nil, ev_seq, ev_expr, ev_set, ev_ret, ev_retN, ev_cif, ev_brk, ev_ct, ev_asg, ev_put, ev_aug, ev_for, ev_comp, ev_newL, ev_iseq, ev_irange, ev_ienum, ev_yes, Out.bind_ok, Out.bindN_ok, bindS_ok, Tg.set, Tg.sets, List.getElem?_cons_zero, List.getElem?_cons_succ, List.set_cons_zero, List.set_cons_succ, wipeE, List.length_cons, List.length_nil, Nat.reduceAdd, Nat.reduceLeDiff, Nat.reduceEqDiff, ↓reduceIte, Bool.false_eq_true, decide_eq_true_eq, add_int, sub_int, lt_int, gt_int, le_int, ge_int, neg_int, and_int, or_int, xor_int, max2_int, min2_int, mod_pos, fdiv_sm, mul_sm, mul_smr, Int.reduceLT, Int.reduceNeg, int_bl, int_int, sli_tup, sline 0 (by omega)]))).trans ?_
  refine (seq_of ((for_of (w := (rangeL 0 4, .tt)) (S' := S ++ [Ob.lst []]) (by simp only [ev_var, ev_con, ev_bin, ev_un, ev_anil, ev_acons, ev_call, ev_tup, ev_lst, ev_not, ev_and, ev_or, ev_if, ev_cbl, ev_btrue, ev_cand, ev_cor, ev_cnot, ev_sli, ev_onone, ev_osome, ev_chain, ev_meth, ev_get2, ev_newK, ev_newT, ev_own, ev_nil, ev_seq, ev_expr, ev_set, ev_ret, ev_retN, ev_cif, ev_brk, ev_ct, ev_asg, ev_put, ev_aug, ev_for, ev_comp, ev_newL, ev_iseq, ev_irange, ev_ienum, ev_yes, Out.bind_ok, Out.bindN_ok, bindS_ok, Tg.set, Tg.sets, List.getElem?_cons_zero, List.getElem?_cons_succ, List.set_cons_zero, List.set_cons_succ, wipeE, List.length_cons, List.length_nil, Nat.reduceAdd, Nat.reduceLeDiff, Nat.reduceEqDiff, ↓reduceIte, Bool.false_eq_true, decide_eq_true_eq, add_int, sub_int, lt_int, gt_int, le_int, ge_int, neg_int, and_int, or_int, xor_int, max2_int, min2_int, mod_pos, fdiv_sm, mul_sm, mul_smr, Int.reduceLT, Int.reduceNeg, int_bl, int_int, sli_tup, rng1_of (i := 4) (by omega) (by omega)])).trans e)).trans (ret_of rfl)

def goW : List Str := ["down", "deep", "later"]
theorem goW_sk : ∀ g ∈ goW, Sk g := by
  have : goW.all (fun w => PyData.strOk w) = true := by decide +kernel
  exact fun g hg => List.all_eq_true.mp this g hg
/-- a drawn way of going -/
theorem go_run {k st : Nat} {ns : List Int} {q : Q4} {S : Sto} {ρ : PL.Env} (a : StA S st ns q) (hρ : ρ[0]? = some (some (.ref st))) : ∃ (g : Str) (S' : Sto) (q' : Q4), (eBin idxD (eLst (aCons (eCon (.str "down")) (aCons (eCon (.str "deep")) (aCons (eCon (.str "later")) (aNil))))) (eBin modD (eOwn 1 (F (k + 1) .l_next) (aCons (eVar 0) (aNil))) (eCon (.int 3)))) ρ S = .ok (.str g) S' ∧ Sk g ∧ Fr (· = st) S S' ∧ StA S' st ns q' ∧ q'.left = q.left := by
  have g0 := gr_app S [.lst (goW.map .str)]
  have nst : S.length ≠ st := fun e => ne_new a.h e.symm
  obtain ⟨x, S', q', e1, x0, f1, a1, l1⟩ := next_run (k := k) (a.fr g0 id)
  obtain ⟨d, hd, ed⟩ := atI_mod (xs := goW.map Dv.str) (by decide) x
  obtain ⟨g, hg, rfl⟩ := List.mem_map.mp hd
  have ei : idxD (.ref S.length) (.int (x % 3)) S' = .ok (.str g) S' := idx_ref (f1.get _ _ (at_new _ _) nst) ed
  refine ⟨g, S', q', ?_, goW_sk g hg, g0.any.trans f1, a1, l1⟩
  have s3 : (goW.map Dv.str).length ≤ sizeLine := sline 3 (by omega)
  have et : ([.str "down", .str "deep", .str "later"] : List Dv) = goW.map .str := rfl
  simp only [ev_var, ev_con, ev_bin, ev_un, ev_anil, ev_acons, ev_call, ev_tup, ev_lst, ev_not, ev_and, ev_or, ev_if, ev_cbl, ev_btrue, ev_cand, ev_cor, ev_cnot, ev_sli, ev_onone, ev_osome, ev_chain, ev_meth, ev_get2, ev_newK, ev_newT, ev_own, ev_nil, ev_seq, ev_expr, ev_set, ev_ret, ev_retN, ev_cif, ev_brk, ev_ct, ev_asg, ev_put, ev_aug, ev_for, ev_comp, ev_newL, ev_iseq, ev_irange, ev_ienum, ev_yes, Out.bind_ok, Out.bindN_ok, bindS_ok, Tg.set, Tg.sets, List.getElem?_cons_zero, List.getElem?_cons_succ, List.set_cons_zero, List.set_cons_succ, wipeE, List.length_cons, List.length_nil, Nat.reduceAdd, Nat.reduceLeDiff, Nat.reduceEqDiff, ↓reduceIte, Bool.false_eq_true, decide_eq_true_eq, add_int, sub_int, lt_int, gt_int, le_int, ge_int, neg_int, and_int, or_int, xor_int, max2_int, min2_int, mod_pos, fdiv_sm, mul_sm, mul_smr, Int.reduceLT, Int.reduceNeg, int_bl, int_int, sli_tup, hρ, s3, et, e1, ei]
def Looked (f k : Nat) : Prop := ∀ (st kd : Nat) (ns : List Int) (q : Q4) (pool : List Str) (S : Sto), StA S st ns q → Kd S kd pool → kd ≠ st → ∃ (d : Dv) (S' : Sto) (q' : Q4), F k .l_look [.ref st, .ref kd, .int f] S = .ok d S' ∧ LW f d ∧ Fr (· = st) S S' ∧ StA S' st ns q'
theorem Kd.fr {S S' : Sto} {kd : Nat} {pool : List Str} {P : Nat → Prop} (a : Kd S kd pool) (f : Fr P S S') (n : ¬ P kd) : Kd S' kd pool := ⟨f.get _ _ a.h n, a.len, a.sk⟩
theorem look_run : ∀ (f k : Nat), f + 3 ≤ k → Looked f k
  | f, k, hk => by
    intro st kd ns q pool S a hK hne
    obtain ⟨k, rfl⟩ : ∃ j, k = j + 2 := ⟨k - 2, by omega⟩
    rw [F_l_look]
    obtain ⟨c, S1, q1, e1, c0, f1, a1, ql⟩ := next_run (k := k) a
    have K1 := hK.fr f1 hne
    have w0 := Int.emod_nonneg c (b := 12) (by omega)
    have w1 := Int.emod_lt_of_pos c (b := 12) (by omega)
    obtain ⟨d, hd, ed⟩ := atI_mod (xs := pool.map Dv.str) (by intro z; have := congrArg List.length z; simp [hK.len] at this) (c / 12)
    obtain ⟨x, hxp, rfl⟩ := List.mem_map.mp hd
    have el : lenD [.ref kd] S1 = .ok (.int (pool.map Dv.str).length) S1 := len_ref K1.h
    have lp : (0 : Int) < ((pool.map Dv.str).length : Int) := by rw [List.length_map, hK.len]; omega
    have ei := idx_ref K1.h ed
    have hx := hK.sk x hxp
    have kk : LW f (.tup [.str "kind", .str x]) := LW.up (h := 0) (.inr ⟨x, hx, rfl⟩) (Nat.zero_le _)
    have start : ∀ {b : RC} {o : OutS}, b [some (.ref st), some (.ref kd), some (.int f), some (.int c), some (.int (c % 12)), some (.tup [.str "kind", .str x]), none, none, none, none, none] S1 = o →
        cSeq (cSet 3 (eOwn 1 (F (k + 1) .l_next) (aCons (eVar 0) (aNil)))) (cSeq (cSet 4 (eBin modD (eVar 3) (eCon (.int 12)))) (cSeq (cSet 5 (eTup (aCons (eCon (.str "kind")) (aCons (eBin idxD (eVar 1) (eBin modD (eBin fdivD (eVar 3) (eCon (.int 12))) (eCall lenD (aCons (eVar 1) (aNil))))) (aNil))))) b)) [some (.ref st), some (.ref kd), some (.int f), none, none, none, none, none, none, none, none] S = o := fun {b o} hb => by
      refine (seq_of (set_of (d := .int c) (S' := S1) (by simp only [ev_var, ev_con, ev_bin, ev_un, ev_anil, ev_acons, ev_call, ev_tup, ev_lst, ev_not, ev_and, ev_or, ev_if, ev_cbl, ev_btrue, ev_cand, ev_cor, ev_cnot, ev_sli, ev_onone, ev_osome, ev_chain, ev_meth, ev_get2, ev_newK, ev_newT, ev_own, ev_nil, ev_seq, ev_expr, ev_set, ev_ret, ev_retN, ev_cif, ev_brk, ev_ct, ev_asg, ev_put, ev_aug, ev_for, ev_comp, ev_newL, ev_iseq, ev_irange, ev_ienum, ev_yes, Out.bind_ok, Out.bindN_ok, bindS_ok, Tg.set, Tg.sets, List.getElem?_cons_zero, List.getElem?_cons_succ, List.set_cons_zero, List.set_cons_succ, wipeE, List.length_cons, List.length_nil, Nat.reduceAdd, Nat.reduceLeDiff, Nat.reduceEqDiff, ↓reduceIte, Bool.false_eq_true, decide_eq_true_eq, add_int, sub_int, lt_int, gt_int, le_int, ge_int, neg_int, and_int, or_int, xor_int, max2_int, min2_int, mod_pos, fdiv_sm, mul_sm, mul_smr, Int.reduceLT, Int.reduceNeg, int_bl, int_int, sli_tup, e1]))).trans ?_
      refine (seq_of (set_of (d := .int (c % 12)) (S' := S1) (by simp only [ev_var, ev_con, ev_bin, ev_un, ev_anil, ev_acons, ev_call, ev_tup, ev_lst, ev_not, ev_and, ev_or, ev_if, ev_cbl, ev_btrue, ev_cand, ev_cor, ev_cnot, ev_sli, ev_onone, ev_osome, ev_chain, ev_meth, ev_get2, ev_newK, ev_newT, ev_own, ev_nil, ev_seq, ev_expr, ev_set, ev_ret, ev_retN, ev_cif, ev_brk, ev_ct, ev_asg, ev_put, ev_aug, ev_for, ev_comp, ev_newL, ev_iseq, ev_irange, ev_ienum, ev_yes, Out.bind_ok, Out.bindN_ok, bindS_ok, Tg.set, Tg.sets, List.getElem?_cons_zero, List.getElem?_cons_succ, List.set_cons_zero, List.set_cons_succ, wipeE, List.length_cons, List.length_nil, Nat.reduceAdd, Nat.reduceLeDiff, Nat.reduceEqDiff, ↓reduceIte, Bool.false_eq_true, decide_eq_true_eq, add_int, sub_int, lt_int, gt_int, le_int, ge_int, neg_int, and_int, or_int, xor_int, max2_int, min2_int, mod_pos, fdiv_sm, mul_sm, mul_smr, Int.reduceLT, Int.reduceNeg, int_bl, int_int, sli_tup]))).trans ?_
      exact (seq_of (set_of (d := .tup [.str "kind", .str x]) (S' := S1) (by simp only [ev_var, ev_con, ev_bin, ev_un, ev_anil, ev_acons, ev_call, ev_tup, ev_lst, ev_not, ev_and, ev_or, ev_if, ev_cbl, ev_btrue, ev_cand, ev_cor, ev_cnot, ev_sli, ev_onone, ev_osome, ev_chain, ev_meth, ev_get2, ev_newK, ev_newT, ev_own, ev_nil, ev_seq, ev_expr, ev_set, ev_ret, ev_retN, ev_cif, ev_brk, ev_ct, ev_asg, ev_put, ev_aug, ev_for, ev_comp, ev_newL, ev_iseq, ev_irange, ev_ienum, ev_yes, Out.bind_ok, Out.bindN_ok, bindS_ok, Tg.set, Tg.sets, List.getElem?_cons_zero, List.getElem?_cons_succ, List.set_cons_zero, List.set_cons_succ, wipeE, List.length_cons, List.length_nil, Nat.reduceAdd, Nat.reduceLeDiff, Nat.reduceEqDiff, ↓reduceIte, Bool.false_eq_true, decide_eq_true_eq, add_int, sub_int, lt_int, gt_int, le_int, ge_int, neg_int, and_int, or_int, xor_int, max2_int, min2_int, mod_pos, fdiv_sm, mul_sm, mul_smr, Int.reduceLT, Int.reduceNeg, int_bl, int_int, sli_tup, el, lp, ei, sline 2 (by omega)]))).trans hb
    by_cases w3' : c % 12 < 3
    · refine ⟨anyT, S1, q1, runF_rt (ρ := [some (.ref st), some (.ref kd), some (.int f), none, none, none, none, none, none, none, none]) rfl rfl (start ?_), any_ok f, f1, a1⟩
      exact seq_rt ((if_t (S' := S1) (by simp only [ev_var, ev_con, ev_bin, ev_un, ev_anil, ev_acons, ev_call, ev_tup, ev_lst, ev_not, ev_and, ev_or, ev_if, ev_cbl, ev_btrue, ev_cand, ev_cor, ev_cnot, ev_sli, ev_onone, ev_osome, ev_chain, ev_meth, ev_get2, ev_newK, ev_newT, ev_own, ev_nil, ev_seq, ev_expr, ev_set, ev_ret, ev_retN, ev_cif, ev_brk, ev_ct, ev_asg, ev_put, ev_aug, ev_for, ev_comp, ev_newL, ev_iseq, ev_irange, ev_ienum, ev_yes, Out.bind_ok, Out.bindN_ok, bindS_ok, Tg.set, Tg.sets, List.getElem?_cons_zero, List.getElem?_cons_succ, List.set_cons_zero, List.set_cons_succ, wipeE, List.length_cons, List.length_nil, Nat.reduceAdd, Nat.reduceLeDiff, Nat.reduceEqDiff, ↓reduceIte, Bool.false_eq_true, decide_eq_true_eq, add_int, sub_int, lt_int, gt_int, le_int, ge_int, neg_int, and_int, or_int, xor_int, max2_int, min2_int, mod_pos, fdiv_sm, mul_sm, mul_smr, Int.reduceLT, Int.reduceNeg, int_bl, int_int, sli_tup, w3', decide_true])).trans (ret_of (by simp only [ev_var, ev_con, ev_bin, ev_un, ev_anil, ev_acons, ev_call, ev_tup, ev_lst, ev_not, ev_and, ev_or, ev_if, ev_cbl, ev_btrue, ev_cand, ev_cor, ev_cnot, ev_sli, ev_onone, ev_osome, ev_chain, ev_meth, ev_get2, ev_newK, ev_newT, ev_own, ev_nil, ev_seq, ev_expr, ev_set, ev_ret, ev_retN, ev_cif, ev_brk, ev_ct, ev_asg, ev_put, ev_aug, ev_for, ev_comp, ev_newL, ev_iseq, ev_irange, ev_ienum, ev_yes, Out.bind_ok, Out.bindN_ok, bindS_ok, Tg.set, Tg.sets, List.getElem?_cons_zero, List.getElem?_cons_succ, List.set_cons_zero, List.set_cons_succ, wipeE, List.length_cons, List.length_nil, Nat.reduceAdd, Nat.reduceLeDiff, Nat.reduceEqDiff, ↓reduceIte, Bool.false_eq_true, decide_eq_true_eq, add_int, sub_int, lt_int, gt_int, le_int, ge_int, neg_int, and_int, or_int, xor_int, max2_int, min2_int, mod_pos, fdiv_sm, mul_sm, mul_smr, Int.reduceLT, Int.reduceNeg, int_bl, int_int, sli_tup, sline 1 (by omega)]; rfl)))
    have s1 : ∀ {b : RC} {o : OutS} {r : RC} {ρ : PL.Env}, ρ[4]? = some (some (.int (c % 12))) → b ρ S1 = o → cSeq (cIf (cBl (eBin ltD (eVar 4) (eCon (.int 3)))) r (cNil)) b ρ S1 = o := fun {b o r ρ} h4 hb =>
      (seq_of ((if_f (S' := S1) (by simp only [ev_var, ev_con, ev_bin, ev_un, ev_anil, ev_acons, ev_call, ev_tup, ev_lst, ev_not, ev_and, ev_or, ev_if, ev_cbl, ev_btrue, ev_cand, ev_cor, ev_cnot, ev_sli, ev_onone, ev_osome, ev_chain, ev_meth, ev_get2, ev_newK, ev_newT, ev_own, ev_nil, ev_seq, ev_expr, ev_set, ev_ret, ev_retN, ev_cif, ev_brk, ev_ct, ev_asg, ev_put, ev_aug, ev_for, ev_comp, ev_newL, ev_iseq, ev_irange, ev_ienum, ev_yes, Out.bind_ok, Out.bindN_ok, bindS_ok, Tg.set, Tg.sets, List.getElem?_cons_zero, List.getElem?_cons_succ, List.set_cons_zero, List.set_cons_succ, wipeE, List.length_cons, List.length_nil, Nat.reduceAdd, Nat.reduceLeDiff, Nat.reduceEqDiff, ↓reduceIte, Bool.false_eq_true, decide_eq_true_eq, add_int, sub_int, lt_int, gt_int, le_int, ge_int, neg_int, and_int, or_int, xor_int, max2_int, min2_int, mod_pos, fdiv_sm, mul_sm, mul_smr, Int.reduceLT, Int.reduceNeg, int_bl, int_int, sli_tup, h4, w3', decide_false])).trans rfl)).trans hb
    by_cases w6 : c % 12 < 6 ∨ (f : Int) < 1
    · refine ⟨_, S1, q1, runF_rt (ρ := [some (.ref st), some (.ref kd), some (.int f), none, none, none, none, none, none, none, none]) rfl rfl (start (s1 rfl ?_)), kk, f1, a1⟩
      refine seq_rt ((if_t (S' := S1) ?_).trans (ret_of rfl))
      by_cases w6' : c % 12 < 6
      · simp only [ev_var, ev_con, ev_bin, ev_un, ev_anil, ev_acons, ev_call, ev_tup, ev_lst, ev_not, ev_and, ev_or, ev_if, ev_cbl, ev_btrue, ev_cand, ev_cor, ev_cnot, ev_sli, ev_onone, ev_osome, ev_chain, ev_meth, ev_get2, ev_newK, ev_newT, ev_own, ev_nil, ev_seq, ev_expr, ev_set, ev_ret, ev_retN, ev_cif, ev_brk, ev_ct, ev_asg, ev_put, ev_aug, ev_for, ev_comp, ev_newL, ev_iseq, ev_irange, ev_ienum, ev_yes, Out.bind_ok, Out.bindN_ok, bindS_ok, Tg.set, Tg.sets, List.getElem?_cons_zero, List.getElem?_cons_succ, List.set_cons_zero, List.set_cons_succ, wipeE, List.length_cons, List.length_nil, Nat.reduceAdd, Nat.reduceLeDiff, Nat.reduceEqDiff, ↓reduceIte, Bool.false_eq_true, decide_eq_true_eq, add_int, sub_int, lt_int, gt_int, le_int, ge_int, neg_int, and_int, or_int, xor_int, max2_int, min2_int, mod_pos, fdiv_sm, mul_sm, mul_smr, Int.reduceLT, Int.reduceNeg, int_bl, int_int, sli_tup, w6', decide_true]
      · have f0 : (f : Int) < 1 := w6.resolve_left w6'
        simp only [ev_var, ev_con, ev_bin, ev_un, ev_anil, ev_acons, ev_call, ev_tup, ev_lst, ev_not, ev_and, ev_or, ev_if, ev_cbl, ev_btrue, ev_cand, ev_cor, ev_cnot, ev_sli, ev_onone, ev_osome, ev_chain, ev_meth, ev_get2, ev_newK, ev_newT, ev_own, ev_nil, ev_seq, ev_expr, ev_set, ev_ret, ev_retN, ev_cif, ev_brk, ev_ct, ev_asg, ev_put, ev_aug, ev_for, ev_comp, ev_newL, ev_iseq, ev_irange, ev_ienum, ev_yes, Out.bind_ok, Out.bindN_ok, bindS_ok, Tg.set, Tg.sets, List.getElem?_cons_zero, List.getElem?_cons_succ, List.set_cons_zero, List.set_cons_succ, wipeE, List.length_cons, List.length_nil, Nat.reduceAdd, Nat.reduceLeDiff, Nat.reduceEqDiff, ↓reduceIte, Bool.false_eq_true, decide_eq_true_eq, add_int, sub_int, lt_int, gt_int, le_int, ge_int, neg_int, and_int, or_int, xor_int, max2_int, min2_int, mod_pos, fdiv_sm, mul_sm, mul_smr, Int.reduceLT, Int.reduceNeg, int_bl, int_int, sli_tup, w6', f0, decide_true, decide_false]
    have w6' : ¬ c % 12 < 6 := fun z => w6 (.inl z)
    have f1' : ¬ (f : Int) < 1 := fun z => w6 (.inr z)
    obtain ⟨f, rfl⟩ : ∃ j, f = j + 1 := ⟨f - 1, by omega⟩
    have ef : ((f + 1 : Nat) : Int) - 1 = (f : Int) := by omega
    have ih := look_run f (k + 1) (by omega)
    have s2 : ∀ {b : RC} {o : OutS} {r : RC}, b [some (.ref st), some (.ref kd), some (.int (f + 1 : Nat)), some (.int c), some (.int (c % 12)), some (.tup [.str "kind", .str x]), none, none, none, none, none] S1 = o → cSeq (cIf (cOr (cBl (eBin ltD (eVar 4) (eCon (.int 6)))) (cBl (eBin ltD (eVar 2) (eCon (.int 1))))) r (cNil)) b [some (.ref st), some (.ref kd), some (.int (f + 1 : Nat)), some (.int c), some (.int (c % 12)), some (.tup [.str "kind", .str x]), none, none, none, none, none] S1 = o := fun {b o r} hb =>
      (seq_of ((if_f (S' := S1) (by simp only [ev_var, ev_con, ev_bin, ev_un, ev_anil, ev_acons, ev_call, ev_tup, ev_lst, ev_not, ev_and, ev_or, ev_if, ev_cbl, ev_btrue, ev_cand, ev_cor, ev_cnot, ev_sli, ev_onone, ev_osome, ev_chain, ev_meth, ev_get2, ev_newK, ev_newT, ev_own, ev_nil, ev_seq, ev_expr, ev_set, ev_ret, ev_retN, ev_cif, ev_brk, ev_ct, ev_asg, ev_put, ev_aug, ev_for, ev_comp, ev_newL, ev_iseq, ev_irange, ev_ienum, ev_yes, Out.bind_ok, Out.bindN_ok, bindS_ok, Tg.set, Tg.sets, List.getElem?_cons_zero, List.getElem?_cons_succ, List.set_cons_zero, List.set_cons_succ, wipeE, List.length_cons, List.length_nil, Nat.reduceAdd, Nat.reduceLeDiff, Nat.reduceEqDiff, ↓reduceIte, Bool.false_eq_true, decide_eq_true_eq, add_int, sub_int, lt_int, gt_int, le_int, ge_int, neg_int, and_int, or_int, xor_int, max2_int, min2_int, mod_pos, fdiv_sm, mul_sm, mul_smr, Int.reduceLT, Int.reduceNeg, int_bl, int_int, sli_tup, w6', f1', decide_false])).trans rfl)).trans hb
    by_cases w8 : c % 12 < 8
    · obtain ⟨d, S2, q2, e2, ld, f2, a2⟩ := ih st kd ns q1 pool S1 a1 K1 hne
      refine ⟨.tup [.str "not", d], S2, q2, runF_rt (ρ := [some (.ref st), some (.ref kd), some (.int (f + 1 : Nat)), none, none, none, none, none, none, none, none]) rfl rfl (start (s1 rfl (s2 ?_))), ?_, f1.trans f2, a2⟩
      · exact seq_rt ((if_t (S' := S1) (by simp only [ev_var, ev_con, ev_bin, ev_un, ev_anil, ev_acons, ev_call, ev_tup, ev_lst, ev_not, ev_and, ev_or, ev_if, ev_cbl, ev_btrue, ev_cand, ev_cor, ev_cnot, ev_sli, ev_onone, ev_osome, ev_chain, ev_meth, ev_get2, ev_newK, ev_newT, ev_own, ev_nil, ev_seq, ev_expr, ev_set, ev_ret, ev_retN, ev_cif, ev_brk, ev_ct, ev_asg, ev_put, ev_aug, ev_for, ev_comp, ev_newL, ev_iseq, ev_irange, ev_ienum, ev_yes, Out.bind_ok, Out.bindN_ok, bindS_ok, Tg.set, Tg.sets, List.getElem?_cons_zero, List.getElem?_cons_succ, List.set_cons_zero, List.set_cons_succ, wipeE, List.length_cons, List.length_nil, Nat.reduceAdd, Nat.reduceLeDiff, Nat.reduceEqDiff, ↓reduceIte, Bool.false_eq_true, decide_eq_true_eq, add_int, sub_int, lt_int, gt_int, le_int, ge_int, neg_int, and_int, or_int, xor_int, max2_int, min2_int, mod_pos, fdiv_sm, mul_sm, mul_smr, Int.reduceLT, Int.reduceNeg, int_bl, int_int, sli_tup, w8, decide_true])).trans (ret_of (by simp only [ev_var, ev_con, ev_bin, ev_un, ev_anil, ev_acons, ev_call, ev_tup, ev_lst, ev_not, ev_and, ev_or, ev_if, ev_cbl, ev_btrue, ev_cand, ev_cor, ev_cnot, ev_sli, ev_onone, ev_osome, ev_chain, ev_meth, ev_get2, ev_newK, ev_newT, ev_own, ev_nil, ev_seq, ev_expr, ev_set, ev_ret, ev_retN, ev_cif, ev_brk, ev_ct, ev_asg, ev_put, ev_aug, ev_for, ev_comp, ev_newL, ev_iseq, ev_irange, ev_ienum, ev_yes, Out.bind_ok, Out.bindN_ok, bindS_ok, Tg.set, Tg.sets, List.getElem?_cons_zero, List.getElem?_cons_succ, List.set_cons_zero, List.set_cons_succ, wipeE, List.length_cons, List.length_nil, Nat.reduceAdd, Nat.reduceLeDiff, Nat.reduceEqDiff, ↓reduceIte, Bool.false_eq_true, decide_eq_true_eq, add_int, sub_int, lt_int, gt_int, le_int, ge_int, neg_int, and_int, or_int, xor_int, max2_int, min2_int, mod_pos, fdiv_sm, mul_sm, mul_smr, Int.reduceLT, Int.reduceNeg, int_bl, int_int, sli_tup, ef, e2, sline 2 (by omega)])))
      · exact .inr (.inl ⟨"not", [d], by decide +kernel, rfl, by simp, fun e he => by rw [List.mem_singleton] at he; subst he; exact ld⟩)
    have s3 : ∀ {b : RC} {o : OutS} {r : RC}, b [some (.ref st), some (.ref kd), some (.int (f + 1 : Nat)), some (.int c), some (.int (c % 12)), some (.tup [.str "kind", .str x]), none, none, none, none, none] S1 = o → cSeq (cIf (cBl (eBin ltD (eVar 4) (eCon (.int 8)))) r (cNil)) b [some (.ref st), some (.ref kd), some (.int (f + 1 : Nat)), some (.int c), some (.int (c % 12)), some (.tup [.str "kind", .str x]), none, none, none, none, none] S1 = o := fun {b o r} hb =>
      (seq_of ((if_f (S' := S1) (by simp only [ev_var, ev_con, ev_bin, ev_un, ev_anil, ev_acons, ev_call, ev_tup, ev_lst, ev_not, ev_and, ev_or, ev_if, ev_cbl, ev_btrue, ev_cand, ev_cor, ev_cnot, ev_sli, ev_onone, ev_osome, ev_chain, ev_meth, ev_get2, ev_newK, ev_newT, ev_own, ev_nil, ev_seq, ev_expr, ev_set, ev_ret, ev_retN, ev_cif, ev_brk, ev_ct, ev_asg, ev_put, ev_aug, ev_for, ev_comp, ev_newL, ev_iseq, ev_irange, ev_ienum, ev_yes, Out.bind_ok, Out.bindN_ok, bindS_ok, Tg.set, Tg.sets, List.getElem?_cons_zero, List.getElem?_cons_succ, List.set_cons_zero, List.set_cons_succ, wipeE, List.length_cons, List.length_nil, Nat.reduceAdd, Nat.reduceLeDiff, Nat.reduceEqDiff, ↓reduceIte, Bool.false_eq_true, decide_eq_true_eq, add_int, sub_int, lt_int, gt_int, le_int, ge_int, neg_int, and_int, or_int, xor_int, max2_int, min2_int, mod_pos, fdiv_sm, mul_sm, mul_smr, Int.reduceLT, Int.reduceNeg, int_bl, int_int, sli_tup, w8, decide_false])).trans rfl)).trans hb
    have i3 := idx_ref a1.h (i := 3) (atI_nat (i := 3) rfl)
    by_cases wy : c % 12 < 10 ∧ 0 < q1.left
    · -- a way
      have m0 := Int.emod_nonneg (c / 36) (b := q1.left) (by omega)
      have m1 := Int.emod_lt_of_pos (c / 36) (b := q1.left) (by omega)
      have md : modD (.int (c / 36)) (.int q1.left) S1 = .ok (.int (c / 36 % q1.left)) S1 := mod_pos wy.2
      generalize hm : 1 + c / 36 % q1.left = m at *
      have l3 := a1.l3
      have hp : putD (.ref st) (.int 3) (.int (q1.left - m)) S1 = some (S1.set st (.lst ({ q1 with left := q1.left - m }.l ns))) := put_l a1.h rfl rfl
      have a2 : StA (S1.set st (.lst ({ q1 with left := q1.left - m }.l ns))) st ns { q1 with left := q1.left - m } := ⟨at_set a1.h, a1.a0, show 0 ≤ q1.left - m by omega, show q1.left - m ≤ 3 by omega⟩
      have f2 : Fr (· = st) S1 (S1.set st (.lst ({ q1 with left := q1.left - m }.l ns))) := fr_set _ _ _
      generalize hT : S1.set st (.lst ({ q1 with left := q1.left - m }.l ns)) = T at a2 f2 hp
      have K2 := K1.fr f2 hne
      obtain ⟨acc, S3, e3, gs, q3, rfl, hgl, hgs, f3, a3⟩ := comp_gen (ck := Ck.tt.ok) (t := .nm 9) (c := cYes) (y := y_l_look_1 (F (k + 1))) (acc := []) (S := T) (fun i acc S' => ∃ (gs : List Str) (q' : Q4), acc = gs.map .str ∧ gs.length = i ∧ (∀ g ∈ gs, Sk g) ∧ Fr (· = st) T S' ∧ StA S' st ns q') (rangeL 0 m) [some (.ref st), some (.ref kd), some (.int (f + 1 : Nat)), some (.int c), some (.int (c % 12)), some (.tup [.str "kind", .str x]), none, some (.int m), none, none, none]
        (fun i v acc S' hv ⟨gs, q', ha, hl, hk, fr', a'⟩ => by
          obtain ⟨rfl, hlt⟩ := rangeL_get hv
          refine ⟨trivial, _, rfl, true, S', rfl, fun _ => ?_, fun z => nomatch z⟩
          obtain ⟨g, S4, q4, e4, kg, f4, a4, _⟩ := go_run (k := k) (ρ := [some (.ref st), some (.ref kd), some (.int (f + 1 : Nat)), some (.int c), some (.int (c % 12)), some (.tup [.str "kind", .str x]), none, some (.int m), none, some (.int (0 + i)), none]) a' rfl
          refine ⟨.str g, S4, e4, ?_, gs ++ [g], q4, by simp [ha], by simp [hl], fun y hy => ?_, fr'.trans f4, a4⟩
          · rw [ha, List.length_map]; show _ < 2 ^ 24; omega
          · rcases List.mem_append.mp hy with hy | hy
            · exact hk y hy
            · rw [List.mem_singleton] at hy; subst hy; exact kg)
        (fun _ _ _ => trivial) ⟨[], _, rfl, rfl, by simp, .refl _, a2⟩
      rw [rangeL_len] at hgl
      have g3 := gr_app S3 [.lst (gs.map .str)]
      have nl : S3.length ≠ st := fun e => ne_new a3.h e.symm
      obtain ⟨acc, S4, e4, W, q4, rfl, hWl, hWs, f4, a4⟩ := comp_gen (ck := (Ck.ls S3.length (gs.map .str)).ok) (t := .nm 10) (c := cYes) (y := y_l_look_2 (F (k + 1))) (acc := []) (S := S3 ++ [.lst (gs.map .str)]) (fun i acc S' => ∃ (W : List (Str × Dv)) (q' : Q4), acc = W.map stp ∧ W.length = i ∧ (∀ s ∈ W, Sk s.1 ∧ LW f s.2) ∧ Fr (· = st) (S3 ++ [.lst (gs.map .str)]) S' ∧ StA S' st ns q') (gs.map .str) [some (.ref st), some (.ref kd), some (.int (f + 1 : Nat)), some (.int c), some (.int (c % 12)), some (.tup [.str "kind", .str x]), none, some (.int m), some (.ref S3.length), none, none]
        (fun i v acc S' hv ⟨W, q', ha, hl, hk, fr', a'⟩ => by
          rw [List.getElem?_map] at hv
          cases hg : gs[i]? with
          | none => rw [hg] at hv; cases hv
          | some g =>
          rw [hg] at hv; cases hv
          have hi := (List.getElem?_eq_some_iff.mp hg).1
          refine ⟨fr'.get _ _ (at_new _ _) nl, _, rfl, true, S', rfl, fun _ => ?_, fun z => nomatch z⟩
          have K5 : Kd S' kd pool := ((K2.fr f3 hne).fr g3 id).fr fr' hne
          obtain ⟨d, S5, q5, e5, ld, f5, a5⟩ := ih st kd ns q' pool S' a' K5 hne
          refine ⟨.tup [.str g, d], S5, by simp only [y_l_look_2, ev_var, ev_con, ev_bin, ev_un, ev_anil, ev_acons, ev_call, ev_tup, ev_lst, ev_not, ev_and, ev_or, ev_if, ev_cbl, ev_btrue, ev_cand, ev_cor, ev_cnot, ev_sli, ev_onone, ev_osome, ev_chain, ev_meth, ev_get2, ev_newK, ev_newT, ev_own, ev_nil, ev_seq, ev_expr, ev_set, ev_ret, ev_retN, ev_cif, ev_brk, ev_ct, ev_asg, ev_put, ev_aug, ev_for, ev_comp, ev_newL, ev_iseq, ev_irange, ev_ienum, ev_yes, Out.bind_ok, Out.bindN_ok, bindS_ok, Tg.set, Tg.sets, List.getElem?_cons_zero, List.getElem?_cons_succ, List.set_cons_zero, List.set_cons_succ, wipeE, List.length_cons, List.length_nil, Nat.reduceAdd, Nat.reduceLeDiff, Nat.reduceEqDiff, ↓reduceIte, Bool.false_eq_true, decide_eq_true_eq, add_int, sub_int, lt_int, gt_int, le_int, ge_int, neg_int, and_int, or_int, xor_int, max2_int, min2_int, mod_pos, fdiv_sm, mul_sm, mul_smr, Int.reduceLT, Int.reduceNeg, int_bl, int_int, sli_tup, ef, e5, sline 2 (by omega)], ?_, W ++ [(g, d)], q5, by simp [ha, stp], by simp [hl], fun y hy => ?_, fr'.trans f5, a5⟩
          · rw [ha, List.length_map]; show _ < 2 ^ 24; omega
          · rcases List.mem_append.mp hy with hy | hy
            · exact hk y hy
            · rw [List.mem_singleton] at hy; subst hy; exact ⟨hgs g (List.mem_of_getElem? hg), ld⟩)
        (fun acc S' ⟨W, q', _, _, _, fr', _⟩ => fr'.get _ _ (at_new _ _) nl) ⟨[], q3, rfl, rfl, by simp, .refl _, a3.fr g3 id⟩
      rw [List.length_map] at hWl
      have g4 := gr_app S4 [.lst (W.map stp)]
      refine ⟨.tup [.str "way", .tup (W.map stp)], _, q4, runF_rt (ρ := [some (.ref st), some (.ref kd), some (.int (f + 1 : Nat)), none, none, none, none, none, none, none, none]) rfl rfl (start (s1 rfl (s2 (s3 ?_)))), ?_, (((f1.trans f2).trans f3).trans g3.any).trans (f4.trans g4.any), a4.fr g4 id⟩
      · refine seq_rt ((if_t (S' := S1) (by simp only [ev_var, ev_con, ev_bin, ev_un, ev_anil, ev_acons, ev_call, ev_tup, ev_lst, ev_not, ev_and, ev_or, ev_if, ev_cbl, ev_btrue, ev_cand, ev_cor, ev_cnot, ev_sli, ev_onone, ev_osome, ev_chain, ev_meth, ev_get2, ev_newK, ev_newT, ev_own, ev_nil, ev_seq, ev_expr, ev_set, ev_ret, ev_retN, ev_cif, ev_brk, ev_ct, ev_asg, ev_put, ev_aug, ev_for, ev_comp, ev_newL, ev_iseq, ev_irange, ev_ienum, ev_yes, Out.bind_ok, Out.bindN_ok, bindS_ok, Tg.set, Tg.sets, List.getElem?_cons_zero, List.getElem?_cons_succ, List.set_cons_zero, List.set_cons_succ, wipeE, List.length_cons, List.length_nil, Nat.reduceAdd, Nat.reduceLeDiff, Nat.reduceEqDiff, ↓reduceIte, Bool.false_eq_true, decide_eq_true_eq, add_int, sub_int, lt_int, gt_int, le_int, ge_int, neg_int, and_int, or_int, xor_int, max2_int, min2_int, mod_pos, fdiv_sm, mul_sm, mul_smr, Int.reduceLT, Int.reduceNeg, int_bl, int_int, sli_tup, i3, wy.1, wy.2, decide_true])).trans ?_)
        refine (seq_of (set_of (d := .int m) (S' := S1) (by simp only [ev_var, ev_con, ev_bin, ev_un, ev_anil, ev_acons, ev_call, ev_tup, ev_lst, ev_not, ev_and, ev_or, ev_if, ev_cbl, ev_btrue, ev_cand, ev_cor, ev_cnot, ev_sli, ev_onone, ev_osome, ev_chain, ev_meth, ev_get2, ev_newK, ev_newT, ev_own, ev_nil, ev_seq, ev_expr, ev_set, ev_ret, ev_retN, ev_cif, ev_brk, ev_ct, ev_asg, ev_put, ev_aug, ev_for, ev_comp, ev_newL, ev_iseq, ev_irange, ev_ienum, ev_yes, Out.bind_ok, Out.bindN_ok, bindS_ok, Tg.set, Tg.sets, List.getElem?_cons_zero, List.getElem?_cons_succ, List.set_cons_zero, List.set_cons_succ, wipeE, List.length_cons, List.length_nil, Nat.reduceAdd, Nat.reduceLeDiff, Nat.reduceEqDiff, ↓reduceIte, Bool.false_eq_true, decide_eq_true_eq, add_int, sub_int, lt_int, gt_int, le_int, ge_int, neg_int, and_int, or_int, xor_int, max2_int, min2_int, mod_pos, fdiv_sm, mul_sm, mul_smr, Int.reduceLT, Int.reduceNeg, int_bl, int_int, sli_tup, i3, md, hm]))).trans ?_
        refine (seq_of (by simp only [ev_var, ev_con, ev_bin, ev_un, ev_anil, ev_acons, ev_call, ev_tup, ev_lst, ev_not, ev_and, ev_or, ev_if, ev_cbl, ev_btrue, ev_cand, ev_cor, ev_cnot, ev_sli, ev_onone, ev_osome, ev_chain, ev_meth, ev_get2, ev_newK, ev_newT, ev_own, ev_nil, ev_seq, ev_expr, ev_set, ev_ret, ev_retN, ev_cif, ev_brk, ev_ct, ev_asg, ev_put, ev_aug, ev_for, ev_comp, ev_newL, ev_iseq, ev_irange, ev_ienum, ev_yes, Out.bind_ok, Out.bindN_ok, bindS_ok, Tg.set, Tg.sets, List.getElem?_cons_zero, List.getElem?_cons_succ, List.set_cons_zero, List.set_cons_succ, wipeE, List.length_cons, List.length_nil, Nat.reduceAdd, Nat.reduceLeDiff, Nat.reduceEqDiff, ↓reduceIte, Bool.false_eq_true, decide_eq_true_eq, add_int, sub_int, lt_int, gt_int, le_int, ge_int, neg_int, and_int, or_int, xor_int, max2_int, min2_int, mod_pos, fdiv_sm, mul_sm, mul_smr, Int.reduceLT, Int.reduceNeg, int_bl, int_int, sli_tup, i3, hp]; rfl)).trans ?_
        refine (seq_of (set_of (d := .ref S3.length) (S' := S3 ++ [Ob.lst (gs.map .str)]) (by simp only [ev_var, ev_con, ev_bin, ev_un, ev_anil, ev_acons, ev_call, ev_tup, ev_lst, ev_not, ev_and, ev_or, ev_if, ev_cbl, ev_btrue, ev_cand, ev_cor, ev_cnot, ev_sli, ev_onone, ev_osome, ev_chain, ev_meth, ev_get2, ev_newK, ev_newT, ev_own, ev_nil, ev_seq, ev_expr, ev_set, ev_ret, ev_retN, ev_cif, ev_brk, ev_ct, ev_asg, ev_put, ev_aug, ev_for, ev_comp, ev_newL, ev_iseq, ev_irange, ev_ienum, ev_yes, Out.bind_ok, Out.bindN_ok, bindS_ok, Tg.set, Tg.sets, List.getElem?_cons_zero, List.getElem?_cons_succ, List.set_cons_zero, List.set_cons_succ, wipeE, List.length_cons, List.length_nil, Nat.reduceAdd, Nat.reduceLeDiff, Nat.reduceEqDiff, ↓reduceIte, Bool.false_eq_true, decide_eq_true_eq, add_int, sub_int, lt_int, gt_int, le_int, ge_int, neg_int, and_int, or_int, xor_int, max2_int, min2_int, mod_pos, fdiv_sm, mul_sm, mul_smr, Int.reduceLT, Int.reduceNeg, int_bl, int_int, sli_tup, rng1_of (i := m) (by omega) (by omega), e3]))).trans ?_
        refine ret_of ?_
        simp only [ev_var, ev_con, ev_bin, ev_un, ev_anil, ev_acons, ev_call, ev_tup, ev_lst, ev_not, ev_and, ev_or, ev_if, ev_cbl, ev_btrue, ev_cand, ev_cor, ev_cnot, ev_sli, ev_onone, ev_osome, ev_chain, ev_meth, ev_get2, ev_newK, ev_newT, ev_own, ev_nil, ev_seq, ev_expr, ev_set, ev_ret, ev_retN, ev_cif, ev_brk, ev_ct, ev_asg, ev_put, ev_aug, ev_for, ev_comp, ev_newL, ev_iseq, ev_irange, ev_ienum, ev_yes, Out.bind_ok, Out.bindN_ok, bindS_ok, Tg.set, Tg.sets, List.getElem?_cons_zero, List.getElem?_cons_succ, List.set_cons_zero, List.set_cons_succ, wipeE, List.length_cons, List.length_nil, Nat.reduceAdd, Nat.reduceLeDiff, Nat.reduceEqDiff, ↓reduceIte, Bool.false_eq_true, decide_eq_true_eq, add_int, sub_int, lt_int, gt_int, le_int, ge_int, neg_int, and_int, or_int, xor_int, max2_int, min2_int, mod_pos, fdiv_sm, mul_sm, mul_smr, Int.reduceLT, Int.reduceNeg, int_bl, int_int, sli_tup, walk_ref (at_new S3 (Ob.lst (gs.map .str))), e4, tuple_ref (at_new _ _), sline 2 (by omega)]
      · exact .inr (.inr ⟨W, rfl, by omega, hWs⟩)
    · -- two looks
      obtain ⟨d1, S2, q2, e2, ld1, f2, a2⟩ := ih st kd ns q1 pool S1 a1 K1 hne
      have g2 := gr_app S2 [.lst [.str "both", .str "either"]]
      have K2 := (K1.fr f2 hne).fr g2 id
      obtain ⟨d2, S3, q3, e3, ld2, f3, a3⟩ := ih st kd ns q2 pool _ (a2.fr g2 id) K2 hne
      obtain ⟨b, hb, eb⟩ := atI_mod (xs := (["both", "either"] : List Str).map Dv.str) (by decide) (c / 36)
      obtain ⟨w, hw, rfl⟩ := List.mem_map.mp hb
      have eb' : idxD (.ref S2.length) (.int (c / 36 % 2)) (S2 ++ [.lst [.str "both", .str "either"]]) = .ok (.str w) _ := idx_ref (at_new _ _) eb
      have wm : w ∈ w3 := by
        simp only [List.mem_cons, List.not_mem_nil, or_false] at hw
        rcases hw with rfl | rfl <;> decide +kernel
      refine ⟨.tup [.str w, d1, d2], S3, q3, runF_rt (ρ := [some (.ref st), some (.ref kd), some (.int (f + 1 : Nat)), none, none, none, none, none, none, none, none]) rfl rfl (start (s1 rfl (s2 (s3 ?_)))), ?_, ((f1.trans f2).trans g2.any).trans f3, a3⟩
      · refine (seq_of ((if_f (S' := S1) ?_).trans rfl)).trans ?_
        · by_cases y1 : c % 12 < 10
          · have y2 : ¬ 0 < q1.left := fun z => wy ⟨y1, z⟩
            have i3' : idxD (.ref st) (.int 3) S1 = .ok (.int q1.left) S1 := i3
            simp only [ev_var, ev_con, ev_bin, ev_un, ev_anil, ev_acons, ev_call, ev_tup, ev_lst, ev_not, ev_and, ev_or, ev_if, ev_cbl, ev_btrue, ev_cand, ev_cor, ev_cnot, ev_sli, ev_onone, ev_osome, ev_chain, ev_meth, ev_get2, ev_newK, ev_newT, ev_own, ev_nil, ev_seq, ev_expr, ev_set, ev_ret, ev_retN, ev_cif, ev_brk, ev_ct, ev_asg, ev_put, ev_aug, ev_for, ev_comp, ev_newL, ev_iseq, ev_irange, ev_ienum, ev_yes, Out.bind_ok, Out.bindN_ok, bindS_ok, Tg.set, Tg.sets, List.getElem?_cons_zero, List.getElem?_cons_succ, List.set_cons_zero, List.set_cons_succ, wipeE, List.length_cons, List.length_nil, Nat.reduceAdd, Nat.reduceLeDiff, Nat.reduceEqDiff, ↓reduceIte, Bool.false_eq_true, decide_eq_true_eq, add_int, sub_int, lt_int, gt_int, le_int, ge_int, neg_int, and_int, or_int, xor_int, max2_int, min2_int, mod_pos, fdiv_sm, mul_sm, mul_smr, Int.reduceLT, Int.reduceNeg, int_bl, int_int, sli_tup, i3', y1, y2, decide_true, decide_false]
          · simp only [ev_var, ev_con, ev_bin, ev_un, ev_anil, ev_acons, ev_call, ev_tup, ev_lst, ev_not, ev_and, ev_or, ev_if, ev_cbl, ev_btrue, ev_cand, ev_cor, ev_cnot, ev_sli, ev_onone, ev_osome, ev_chain, ev_meth, ev_get2, ev_newK, ev_newT, ev_own, ev_nil, ev_seq, ev_expr, ev_set, ev_ret, ev_retN, ev_cif, ev_brk, ev_ct, ev_asg, ev_put, ev_aug, ev_for, ev_comp, ev_newL, ev_iseq, ev_irange, ev_ienum, ev_yes, Out.bind_ok, Out.bindN_ok, bindS_ok, Tg.set, Tg.sets, List.getElem?_cons_zero, List.getElem?_cons_succ, List.set_cons_zero, List.set_cons_succ, wipeE, List.length_cons, List.length_nil, Nat.reduceAdd, Nat.reduceLeDiff, Nat.reduceEqDiff, ↓reduceIte, Bool.false_eq_true, decide_eq_true_eq, add_int, sub_int, lt_int, gt_int, le_int, ge_int, neg_int, and_int, or_int, xor_int, max2_int, min2_int, mod_pos, fdiv_sm, mul_sm, mul_smr, Int.reduceLT, Int.reduceNeg, int_bl, int_int, sli_tup, y1, decide_false]
        refine (seq_of (set_of (d := d1) (S' := S2) (by simp only [ev_var, ev_con, ev_bin, ev_un, ev_anil, ev_acons, ev_call, ev_tup, ev_lst, ev_not, ev_and, ev_or, ev_if, ev_cbl, ev_btrue, ev_cand, ev_cor, ev_cnot, ev_sli, ev_onone, ev_osome, ev_chain, ev_meth, ev_get2, ev_newK, ev_newT, ev_own, ev_nil, ev_seq, ev_expr, ev_set, ev_ret, ev_retN, ev_cif, ev_brk, ev_ct, ev_asg, ev_put, ev_aug, ev_for, ev_comp, ev_newL, ev_iseq, ev_irange, ev_ienum, ev_yes, Out.bind_ok, Out.bindN_ok, bindS_ok, Tg.set, Tg.sets, List.getElem?_cons_zero, List.getElem?_cons_succ, List.set_cons_zero, List.set_cons_succ, wipeE, List.length_cons, List.length_nil, Nat.reduceAdd, Nat.reduceLeDiff, Nat.reduceEqDiff, ↓reduceIte, Bool.false_eq_true, decide_eq_true_eq, add_int, sub_int, lt_int, gt_int, le_int, ge_int, neg_int, and_int, or_int, xor_int, max2_int, min2_int, mod_pos, fdiv_sm, mul_sm, mul_smr, Int.reduceLT, Int.reduceNeg, int_bl, int_int, sli_tup, ef, e2]))).trans ?_
        exact ret_of (by simp only [ev_var, ev_con, ev_bin, ev_un, ev_anil, ev_acons, ev_call, ev_tup, ev_lst, ev_not, ev_and, ev_or, ev_if, ev_cbl, ev_btrue, ev_cand, ev_cor, ev_cnot, ev_sli, ev_onone, ev_osome, ev_chain, ev_meth, ev_get2, ev_newK, ev_newT, ev_own, ev_nil, ev_seq, ev_expr, ev_set, ev_ret, ev_retN, ev_cif, ev_brk, ev_ct, ev_asg, ev_put, ev_aug, ev_for, ev_comp, ev_newL, ev_iseq, ev_irange, ev_ienum, ev_yes, Out.bind_ok, Out.bindN_ok, bindS_ok, Tg.set, Tg.sets, List.getElem?_cons_zero, List.getElem?_cons_succ, List.set_cons_zero, List.set_cons_succ, wipeE, List.length_cons, List.length_nil, Nat.reduceAdd, Nat.reduceLeDiff, Nat.reduceEqDiff, ↓reduceIte, Bool.false_eq_true, decide_eq_true_eq, add_int, sub_int, lt_int, gt_int, le_int, ge_int, neg_int, and_int, or_int, xor_int, max2_int, min2_int, mod_pos, fdiv_sm, mul_sm, mul_smr, Int.reduceLT, Int.reduceNeg, int_bl, int_int, sli_tup, sline 2 (by omega), sline 3 (by omega), eb', ef, e3])
      · refine .inr (.inl ⟨w, [d1, d2], wm, rfl, by simp, fun e he => ?_⟩)
        simp only [List.mem_cons, List.not_mem_nil, or_false] at he
        rcases he with rfl | rfl
        · exact ld1
        · exact ld2

theorem long_run {k st kd : Nat} {ns : List Int} {q : Q4} {pool : List Str} {S : Sto} (hk : 8 ≤ k) (a : StA S st ns q) (K0 : Kd S kd pool) (hne : kd ≠ st) : ∃ (W : List (Str × Dv)) (S' : Sto) (q' : Q4), F (k + 1) .l_long [.ref st, .ref kd] S = .ok (.tup (W.map stp)) S' ∧ WW 3 W ∧ W ≠ [] ∧ Fr (· = st) S S' ∧ StA S' st ns q' := by
  obtain ⟨k, rfl⟩ : ∃ j, k = j + 1 := ⟨k - 1, by omega⟩
  rw [F_l_long]
  obtain ⟨c, S1, q1, e1, c0, f1, a1, ql⟩ := next_run (k := k) a
  have m0 := Int.emod_nonneg c (b := 3) (by omega)
  have m1 := Int.emod_lt_of_pos c (b := 3) (by omega)
  have n0 := Int.emod_nonneg (c / 3) (b := 4) (by omega)
  have n1 := Int.emod_lt_of_pos (c / 3) (b := 4) (by omega)
  have u0 := Int.emod_nonneg (c / 12) (b := 3) (by omega)
  have u1 := Int.emod_lt_of_pos (c / 12) (b := 3) (by omega)
  obtain ⟨fu, hfu⟩ := Int.eq_ofNat_of_zero_le (show 0 ≤ 1 + c / 12 % 3 by omega)
  have g1 := gr_app S1 [.lst []]
  have nst : S1.length ≠ st := fun e => ne_new a1.h e.symm
  obtain ⟨ρ', S', e, v4, v5, W, q', rfl, f2, hx, a2, hWl, hW⟩ := loop_all (ck := Ck.tt.ok) (t := .nm 4) (b := b_l_long_1 (F (k + 1))) (S := S1 ++ [.lst []]) (ρ := [some (.ref st), some (.ref kd), some (.int c), some (.ref S1.length), none, none])
    (fun i ρ S' => ∃ (v4 v5 : Option Dv) (W : List (Str × Dv)) (q' : Q4), ρ = [some (.ref st), some (.ref kd), some (.int c), some (.ref S1.length), v4, v5] ∧ Fr (fun l => l = st ∨ l = S1.length) (S1 ++ [.lst []]) S' ∧ S'[S1.length]? = some (.lst (W.map stp)) ∧ StA S' st ns q' ∧ W.length = i ∧ ∀ s ∈ W, Sk s.1 ∧ LW 3 s.2) (rangeL 0 (1 + c % 3))
    ⟨none, none, [], q1, rfl, .refl _, at_new _ _, a1.fr g1 id, rfl, by simp⟩
    (fun i v ρ S2 hv ⟨v4, v5, W, q', hρ, f, hx, a2, hWl, hW⟩ => by
      subst hρ
      obtain ⟨rfl, hlt⟩ := rangeL_get hv
      refine ⟨trivial, _, rfl, ?_⟩
      have hp : putD (.ref st) (.int 3) (.int (c / 3 % 4)) S2 = some (S2.set st (.lst ({ q' with left := c / 3 % 4 }.l ns))) := put_l a2.h rfl rfl
      have a3 : StA (S2.set st (.lst ({ q' with left := c / 3 % 4 }.l ns))) st ns { q' with left := c / 3 % 4 } := ⟨at_set a2.h, a2.a0, n0, show c / 3 % 4 ≤ 3 by omega⟩
      have f3 : Fr (· = st) S2 (S2.set st (.lst ({ q' with left := c / 3 % 4 }.l ns))) := fr_set _ _ _
      generalize S2.set st (.lst ({ q' with left := c / 3 % 4 }.l ns)) = T at a3 f3 hp
      obtain ⟨g, S3, q3, e3, kg, f4, a4, _⟩ := go_run (k := k) (ρ := [some (.ref st), some (.ref kd), some (.int c), some (.ref S1.length), some (.int (0 + i)), v5]) a3 rfl
      have nk : ¬ (kd = st ∨ kd = S1.length) := fun z => z.elim hne fun z => by have := lt_of_at (K0.fr f1 hne).h; omega
      have K3 : Kd S3 kd pool := ((((K0.fr f1 hne).fr g1 id).fr f nk).fr f3 hne).fr f4 hne
      obtain ⟨d, S4, q4, e4, ld, f5, a5⟩ := look_run fu (k + 1) (by omega) st kd ns q3 pool S3 a4 K3 hne
      have hx3 := f4.get _ _ (f3.get _ _ hx nst) nst
      have hx4 := f5.get _ _ hx3 nst
      have ln : (W.map stp).length < sizeLine := by rw [List.length_map]; show _ < 2 ^ 24; omega
      refine ⟨[some (.ref st), some (.ref kd), some (.int c), some (.ref S1.length), some (.int (0 + i)), some (.str g)], S4.set S1.length (.lst ((W ++ [(g, d)]).map stp)), .inl ?_, _, _, W ++ [(g, d)], q4, rfl, ?_, at_set hx4, a5.fr (fr_set _ _ _) (fun z => nst z.symm), by simp [hWl], fun y hy => ?_⟩
      · unfold b_l_long_1
        refine (seq_of (by simp only [ev_var, ev_con, ev_bin, ev_un, ev_anil, ev_acons, ev_call, ev_tup, ev_lst, ev_not, ev_and, ev_or, ev_if, ev_cbl, ev_btrue, ev_cand, ev_cor, ev_cnot, ev_sli, ev_onone, ev_osome, ev_chain, ev_meth, ev_get2, ev_newK, ev_newT, ev_own, ev_nil, ev_seq, ev_expr, ev_set, ev_ret, ev_retN, ev_cif, ev_brk, ev_ct, ev_asg, ev_put, ev_aug, ev_for, ev_comp, ev_newL, ev_iseq, ev_irange, ev_ienum, ev_yes, Out.bind_ok, Out.bindN_ok, bindS_ok, Tg.set, Tg.sets, List.getElem?_cons_zero, List.getElem?_cons_succ, List.set_cons_zero, List.set_cons_succ, wipeE, List.length_cons, List.length_nil, Nat.reduceAdd, Nat.reduceLeDiff, Nat.reduceEqDiff, ↓reduceIte, Bool.false_eq_true, decide_eq_true_eq, add_int, sub_int, lt_int, gt_int, le_int, ge_int, neg_int, and_int, or_int, xor_int, max2_int, min2_int, mod_pos, fdiv_sm, mul_sm, mul_smr, Int.reduceLT, Int.reduceNeg, int_bl, int_int, sli_tup, hp]; rfl)).trans ?_
        refine (seq_of (set_of e3)).trans ?_
        refine expr_of (d := .non) ?_
        simp only [ev_var, ev_con, ev_bin, ev_un, ev_anil, ev_acons, ev_call, ev_tup, ev_lst, ev_not, ev_and, ev_or, ev_if, ev_cbl, ev_btrue, ev_cand, ev_cor, ev_cnot, ev_sli, ev_onone, ev_osome, ev_chain, ev_meth, ev_get2, ev_newK, ev_newT, ev_own, ev_nil, ev_seq, ev_expr, ev_set, ev_ret, ev_retN, ev_cif, ev_brk, ev_ct, ev_asg, ev_put, ev_aug, ev_for, ev_comp, ev_newL, ev_iseq, ev_irange, ev_ienum, ev_yes, Out.bind_ok, Out.bindN_ok, bindS_ok, Tg.set, Tg.sets, List.getElem?_cons_zero, List.getElem?_cons_succ, List.set_cons_zero, List.set_cons_succ, wipeE, List.length_cons, List.length_nil, Nat.reduceAdd, Nat.reduceLeDiff, Nat.reduceEqDiff, ↓reduceIte, Bool.false_eq_true, decide_eq_true_eq, add_int, sub_int, lt_int, gt_int, le_int, ge_int, neg_int, and_int, or_int, xor_int, max2_int, min2_int, mod_pos, fdiv_sm, mul_sm, mul_smr, Int.reduceLT, Int.reduceNeg, int_bl, int_int, sli_tup, tyq_ref hx3, hfu, e4, sline 2 (by omega), app_ref hx4 ln, List.map_append, List.map_cons, List.map_nil, stp]
      · have w1 : Fr (fun l => l = st ∨ l = S1.length) S2 S4 := ((f3.trans f4).trans f5).imp fun l _ z => .inl z
        exact (f.trans w1).trans ((fr_set S4 S1.length _).imp fun l _ z => .inr z)
      · rcases List.mem_append.mp hy with hy | hy
        · exact hW y hy
        · rw [List.mem_singleton] at hy; subst hy; exact ⟨kg, ld.up (by omega)⟩)
    (fun _ _ _ => trivial)
  rw [rangeL_len] at hWl
  refine ⟨W, S', q', runF_rt (ρ := [some (.ref st), some (.ref kd), none, none, none, none]) rfl rfl ?_, ⟨by omega, hW⟩, fun z => by rw [z] at hWl; simp at hWl; omega, ?_, a2⟩
  · unfold c_l_long
    refine (seq_of (set_of (d := .int c) (S' := S1) (by simp only [ev_var, ev_con, ev_bin, ev_un, ev_anil, ev_acons, ev_call, ev_tup, ev_lst, ev_not, ev_and, ev_or, ev_if, ev_cbl, ev_btrue, ev_cand, ev_cor, ev_cnot, ev_sli, ev_onone, ev_osome, ev_chain, ev_meth, ev_get2, ev_newK, ev_newT, ev_own, ev_nil, ev_seq, ev_expr, ev_set, ev_ret, ev_retN, ev_cif, ev_brk, ev_ct, ev_asg, ev_put, ev_aug, ev_for, ev_comp, ev_newL, ev_iseq, ev_irange, ev_ienum, ev_yes, Out.bind_ok, Out.bindN_ok, bindS_ok, Tg.set, Tg.sets, List.getElem?_cons_zero, List.getElem?_cons_succ, List.set_cons_zero, List.set_cons_succ, wipeE, List.length_cons, List.length_nil, Nat.reduceAdd, Nat.reduceLeDiff, Nat.reduceEqDiff, ↓reduceIte, Bool.false_eq_true, decide_eq_true_eq, add_int, sub_int, lt_int, gt_int, le_int, ge_int, neg_int, and_int, or_int, xor_int, max2_int, min2_int, mod_pos, fdiv_sm, mul_sm, mul_smr, Int.reduceLT, Int.reduceNeg, int_bl, int_int, sli_tup, e1]))).trans ?_
    refine (seq_of (set_of (d := .ref S1.length) (S' := S1 ++ [Ob.lst []]) (by simp only [ev_var, ev_con, ev_bin, ev_un, ev_anil, ev_acons, ev_call, ev_tup, ev_lst, ev_not, ev_and, ev_or, ev_if, ev_cbl, ev_btrue, ev_cand, ev_cor, ev_cnot, ev_sli, ev_onone, ev_osome, ev_chain, ev_meth, ev_get2, ev_newK, ev_newT, ev_own, ev_nil, ev_seq, ev_expr, ev_set, ev_ret, ev_retN, ev_cif, ev_brk, ev_ct, ev_asg, ev_put, ev_aug, ev_for, ev_comp, ev_newL, ev_iseq, ev_irange, ev_ienum, ev_yes, Out.bind_ok, Out.bindN_ok, bindS_ok, Tg.set, Tg.sets, List.getElem?_cons_zero, List.getElem?_cons_succ, List.set_cons_zero, List.set_cons_succ, wipeE, List.length_cons, List.length_nil, Nat.reduceAdd, Nat.reduceLeDiff, Nat.reduceEqDiff, ↓reduceIte, Bool.false_eq_true, decide_eq_true_eq, add_int, sub_int, lt_int, gt_int, le_int, ge_int, neg_int, and_int, or_int, xor_int, max2_int, min2_int, mod_pos, fdiv_sm, mul_sm, mul_smr, Int.reduceLT, Int.reduceNeg, int_bl, int_int, sli_tup, sline 0 (by omega)]))).trans ?_
    refine (seq_of ((for_of (w := (rangeL 0 (1 + c % 3), .tt)) (S' := S1 ++ [Ob.lst []]) (by simp only [ev_var, ev_con, ev_bin, ev_un, ev_anil, ev_acons, ev_call, ev_tup, ev_lst, ev_not, ev_and, ev_or, ev_if, ev_cbl, ev_btrue, ev_cand, ev_cor, ev_cnot, ev_sli, ev_onone, ev_osome, ev_chain, ev_meth, ev_get2, ev_newK, ev_newT, ev_own, ev_nil, ev_seq, ev_expr, ev_set, ev_ret, ev_retN, ev_cif, ev_brk, ev_ct, ev_asg, ev_put, ev_aug, ev_for, ev_comp, ev_newL, ev_iseq, ev_irange, ev_ienum, ev_yes, Out.bind_ok, Out.bindN_ok, bindS_ok, Tg.set, Tg.sets, List.getElem?_cons_zero, List.getElem?_cons_succ, List.set_cons_zero, List.set_cons_succ, wipeE, List.length_cons, List.length_nil, Nat.reduceAdd, Nat.reduceLeDiff, Nat.reduceEqDiff, ↓reduceIte, Bool.false_eq_true, decide_eq_true_eq, add_int, sub_int, lt_int, gt_int, le_int, ge_int, neg_int, and_int, or_int, xor_int, max2_int, min2_int, mod_pos, fdiv_sm, mul_sm, mul_smr, Int.reduceLT, Int.reduceNeg, int_bl, int_int, sli_tup, rng1_of (i := 1 + c % 3) (by omega) (by omega)])).trans e)).trans ?_
    exact ret_of (by simp only [ev_var, ev_con, ev_bin, ev_un, ev_anil, ev_acons, ev_call, ev_tup, ev_lst, ev_not, ev_and, ev_or, ev_if, ev_cbl, ev_btrue, ev_cand, ev_cor, ev_cnot, ev_sli, ev_onone, ev_osome, ev_chain, ev_meth, ev_get2, ev_newK, ev_newT, ev_own, ev_nil, ev_seq, ev_expr, ev_set, ev_ret, ev_retN, ev_cif, ev_brk, ev_ct, ev_asg, ev_put, ev_aug, ev_for, ev_comp, ev_newL, ev_iseq, ev_irange, ev_ienum, ev_yes, Out.bind_ok, Out.bindN_ok, bindS_ok, Tg.set, Tg.sets, List.getElem?_cons_zero, List.getElem?_cons_succ, List.set_cons_zero, List.set_cons_succ, wipeE, List.length_cons, List.length_nil, Nat.reduceAdd, Nat.reduceLeDiff, Nat.reduceEqDiff, ↓reduceIte, Bool.false_eq_true, decide_eq_true_eq, add_int, sub_int, lt_int, gt_int, le_int, ge_int, neg_int, and_int, or_int, xor_int, max2_int, min2_int, mod_pos, fdiv_sm, mul_sm, mul_smr, Int.reduceLT, Int.reduceNeg, int_bl, int_int, sli_tup, tuple_ref hx])
  · exact Fr.then (f1.trans g1.any) f2 fun l z hl => z.elim id fun z => by have := f1.le; omega
theorem isi_list {l : Nat} {S : Sto} {xs : List Dv} (h : S[l]? = some (.lst xs)) : isiD "list" (.ref l) S = .ok (.bl true) S := by
  simp only [isiD, tyN, h]; rfl
theorem allW_pos {h : Nat} {W : List (Str × Dv)} (kw : WW h W) (hne : W ≠ []) : 1 ≤ (allW h W).length := by
  cases W with
  | nil => exact absurd rfl hne
  | cons s W =>
    have := (pre_len (kw.ok s (by simp)).2).1
    simp only [allW, List.map_cons, List.flatten_cons, List.length_append]; omega
theorem law_true (ns : List Int) (hns : ns.length ≤ 63) : ∃ S, F 40 .l_law [.fl (ns.map .int)] [] = .ok (.bl true) S := by
  obtain ⟨st, S1, q1, e1, g1, a1⟩ := state_run (k := 38) (S := []) hns
  obtain ⟨x, S2, q2, e2, x0, f2, a2, _⟩ := next_run (k := 38) a1
  obtain ⟨kd, S3, pool, e3, g3, l3, K3⟩ := pool_run (k := 38) (S := S2) x0
  have hne : kd ≠ st := by have := lt_of_at a2.h; omega
  obtain ⟨W, S4, q4, e4, w4, n4, f4, a4⟩ := long_run (k := 38) (by omega) (a2.fr g3 id) K3 hne
  obtain ⟨V, S5, q5, e5, w5, n5, f5, a5⟩ := long_run (k := 38) (by omega) a4 (K3.fr f4 hne) hne
  obtain ⟨ld, S6, e6, g6, l6, h6⟩ := llooks_run (k := 38) (S := S5) (by omega) w4 (by omega)
  obtain ⟨lt, S7, e7, g7, l7, h7⟩ := looksin_run (k := 38) (S := S6) (by omega) w4 (by omega)
  have ne67 : lt ≠ ld := by have := lt_of_at h6; omega
  have nst7 : st ≠ lt := by have := lt_of_at (a5.fr g6 id).h; omega
  have c1 := ne_lists (allW_nice w4) (by omega) h7 (g7.at h6)
  have ln : (allW 3 W).length < sizeLine := by
    have a1 := flat_le (h := 3) (W.map (·.2)) fun c hc => by
      obtain ⟨x, hx, rfl⟩ := List.mem_map.mp hc
      exact (w4.ok x hx).2
    have a2 := w4.len
    rw [List.length_map] at a1
    rw [allW]
    show _ < 2 ^ 24
    omega
  have f8 : Fr (· = lt) S7 (S7.set lt (.lst (allW 3 W ++ [anyT]))) := fr_set _ _ _
  have h6' := f8.get _ _ (g7.at h6) (fun z => ne67 z.symm)
  have a8 := (a5.fr (g6.trans g7) id).fr f8 nst7
  generalize hT : S7.set lt (.lst (allW 3 W ++ [anyT])) = T at f8 h6' a8
  obtain ⟨lb, S9, e9, g9, l9, h9⟩ := looksin_run (k := 38) (S := T) (by omega) w5 (by omega)
  obtain ⟨lc, S10, e10, g10, l10, h10⟩ := llooks_run (k := 38) (S := S9) (by omega) w5 (by omega)
  have c2 := ne_lists (allW_nice w5) (by omega) (g10.at h9) h10
  obtain ⟨y, S11, q11, e11, y0, f11, a11, _⟩ := next_run (k := 38) (a8.fr (g9.trans g10) id)
  have ne6 : ld ≠ st := by have := lt_of_at a5.h; omega
  have h11 : S11[ld]? = some (.lst (allW 3 W)) := f11.get _ _ (g10.at (g9.at h6')) ne6
  have hpos := allW_pos w4 n4
  have lp : (0 : Int) < ((allW 3 W).length : Int) := by omega
  have t1 : tot 3 (W.map (·.2)) = ((allW 3 W).length : Int) := (tot_len 3 _).symm
  obtain ⟨ρ', S12, e12, v8, v9, v10, rfl, g12⟩ := loop_all (ck := Ck.tt.ok) (t := .nm 8) (b := b_l_law_1 (F 39)) (S := S11) (ρ := [some (.fl (ns.map .int)), some (.ref st), some (.ref kd), some (.tup (W.map stp)), some (.tup (V.map stp)), some (.ref ld), some (.ref lt), some (.int (y % ((allW 3 W).length : Int))), none, none, none])
    (fun i ρ S' => ∃ v8 v9 v10, ρ = [some (.fl (ns.map .int)), some (.ref st), some (.ref kd), some (.tup (W.map stp)), some (.tup (V.map stp)), some (.ref ld), some (.ref lt), some (.int (y % ((allW 3 W).length : Int))), v8, v9, v10] ∧ Gr S11 S') (rangeL 0 (min 8 ((allW 3 W).length : Int)))
    ⟨none, none, none, rfl, .refl _⟩
    (fun i v ρ S' hv ⟨v8, v9, v10, hρ, g⟩ => by
      subst hρ
      obtain ⟨rfl, hlt⟩ := rangeL_get hv
      refine ⟨trivial, _, rfl, ?_⟩
      have el := len_ref (g.at h11)
      have p0 := Int.emod_nonneg (y % ((allW 3 W).length : Int) + (0 + i)) (b := ((allW 3 W).length : Int)) (by omega)
      have p1 := Int.emod_lt_of_pos (y % ((allW 3 W).length : Int) + (0 + i)) (b := ((allW 3 W).length : Int)) (by omega)
      have md : modD (.int (y % ((allW 3 W).length : Int) + (0 + i))) (.int ((allW 3 W).length : Int)) S' = _ := mod_pos (S := S') lp
      generalize (y % ((allW 3 W).length : Int) + (0 + i)) % ((allW 3 W).length : Int) = n at p0 p1 md
      obtain ⟨S13, e13, g13⟩ := letgo_run (h := 3) (k := 37) (n := n) (S := S') (by omega) (by omega) w4
      obtain ⟨S14, e14, g14⟩ := let_run (h := 3) (k := 38) (n := n) (S := S13) (by omega) (by omega) w4
      have same := gone_same (h := 3) (n := n) (by omega) w4 p0 (by rw [t1]; exact p1) S14
      refine ⟨[some (.fl (ns.map .int)), some (.ref st), some (.ref kd), some (.tup (W.map stp)), some (.tup (V.map stp)), some (.ref ld), some (.ref lt), some (.int (y % ((allW 3 W).length : Int))), some (.int (0 + i)), some (.int n), some (.tup (List.zipWith (fun s c => Dv.tup [fst2 s, c]) (W.map stp) (lgo (sz 3) (lg 3) n (W.map (·.2)) 0)))], S14, .inl ?_, _, _, _, rfl, g.trans (g13.trans g14)⟩
      unfold b_l_law_1
      refine (seq_of (set_of (d := .int n) (S' := S') (by simp only [ev_var, ev_con, ev_bin, ev_un, ev_anil, ev_acons, ev_call, ev_tup, ev_lst, ev_not, ev_and, ev_or, ev_if, ev_cbl, ev_btrue, ev_cand, ev_cor, ev_cnot, ev_sli, ev_onone, ev_osome, ev_chain, ev_meth, ev_get2, ev_newK, ev_newT, ev_own, ev_nil, ev_seq, ev_expr, ev_set, ev_ret, ev_retN, ev_cif, ev_brk, ev_ct, ev_asg, ev_put, ev_aug, ev_for, ev_comp, ev_newL, ev_iseq, ev_irange, ev_ienum, ev_yes, Out.bind_ok, Out.bindN_ok, bindS_ok, Tg.set, Tg.sets, List.getElem?_cons_zero, List.getElem?_cons_succ, List.set_cons_zero, List.set_cons_succ, wipeE, List.length_cons, List.length_nil, Nat.reduceAdd, Nat.reduceLeDiff, Nat.reduceEqDiff, ↓reduceIte, Bool.false_eq_true, decide_eq_true_eq, add_int, sub_int, lt_int, gt_int, le_int, ge_int, neg_int, and_int, or_int, xor_int, max2_int, min2_int, mod_pos, fdiv_sm, mul_sm, mul_smr, Int.reduceLT, Int.reduceNeg, int_bl, int_int, sli_tup, el, md]))).trans ?_
      refine (seq_of (set_of (S' := S13) (by simp only [ev_var, ev_con, ev_bin, ev_un, ev_anil, ev_acons, ev_call, ev_tup, ev_lst, ev_not, ev_and, ev_or, ev_if, ev_cbl, ev_btrue, ev_cand, ev_cor, ev_cnot, ev_sli, ev_onone, ev_osome, ev_chain, ev_meth, ev_get2, ev_newK, ev_newT, ev_own, ev_nil, ev_seq, ev_expr, ev_set, ev_ret, ev_retN, ev_cif, ev_brk, ev_ct, ev_asg, ev_put, ev_aug, ev_for, ev_comp, ev_newL, ev_iseq, ev_irange, ev_ienum, ev_yes, Out.bind_ok, Out.bindN_ok, bindS_ok, Tg.set, Tg.sets, List.getElem?_cons_zero, List.getElem?_cons_succ, List.set_cons_zero, List.set_cons_succ, wipeE, List.length_cons, List.length_nil, Nat.reduceAdd, Nat.reduceLeDiff, Nat.reduceEqDiff, ↓reduceIte, Bool.false_eq_true, decide_eq_true_eq, add_int, sub_int, lt_int, gt_int, le_int, ge_int, neg_int, and_int, or_int, xor_int, max2_int, min2_int, mod_pos, fdiv_sm, mul_sm, mul_smr, Int.reduceLT, Int.reduceNeg, int_bl, int_int, sli_tup, e13]; rfl))).trans ?_
      refine (if_f (S' := S14) ?_).trans rfl
      have it : ∀ ds : List Dv, isiD "tuple" (.tup ds) S13 = .ok (.bl true) S13 := fun _ => rfl
      simp only [ev_var, ev_con, ev_bin, ev_un, ev_anil, ev_acons, ev_call, ev_tup, ev_lst, ev_not, ev_and, ev_or, ev_if, ev_cbl, ev_btrue, ev_cand, ev_cor, ev_cnot, ev_sli, ev_onone, ev_osome, ev_chain, ev_meth, ev_get2, ev_newK, ev_newT, ev_own, ev_nil, ev_seq, ev_expr, ev_set, ev_ret, ev_retN, ev_cif, ev_brk, ev_ct, ev_asg, ev_put, ev_aug, ev_for, ev_comp, ev_newL, ev_iseq, ev_irange, ev_ienum, ev_yes, Out.bind_ok, Out.bindN_ok, bindS_ok, Tg.set, Tg.sets, List.getElem?_cons_zero, List.getElem?_cons_succ, List.set_cons_zero, List.set_cons_succ, wipeE, List.length_cons, List.length_nil, Nat.reduceAdd, Nat.reduceLeDiff, Nat.reduceEqDiff, ↓reduceIte, Bool.false_eq_true, decide_eq_true_eq, add_int, sub_int, lt_int, gt_int, le_int, ge_int, neg_int, and_int, or_int, xor_int, max2_int, min2_int, mod_pos, fdiv_sm, mul_sm, mul_smr, Int.reduceLT, Int.reduceNeg, int_bl, int_int, sli_tup, it, Bool.not_true, e14, same])
    (fun _ _ _ => trivial)
  obtain ⟨lz, S15, e15, g15, l15, h15⟩ := looksin_run (k := 38) (S := S12) (by omega) w4 (by omega)
  have c3 := ne_lists (allW_nice w4) (by omega) h15 (g15.at (g12.at h11))
  refine ⟨S15, ?_⟩
  rw [F_l_law]
  refine runF_rt (ρ := [some (.fl (ns.map .int)), none, none, none, none, none, none, none, none, none, none]) rfl rfl ?_
  unfold c_l_law
  refine (seq_of (set_of (d := .ref st) (S' := S1) (by simp only [ev_var, ev_con, ev_bin, ev_un, ev_anil, ev_acons, ev_call, ev_tup, ev_lst, ev_not, ev_and, ev_or, ev_if, ev_cbl, ev_btrue, ev_cand, ev_cor, ev_cnot, ev_sli, ev_onone, ev_osome, ev_chain, ev_meth, ev_get2, ev_newK, ev_newT, ev_own, ev_nil, ev_seq, ev_expr, ev_set, ev_ret, ev_retN, ev_cif, ev_brk, ev_ct, ev_asg, ev_put, ev_aug, ev_for, ev_comp, ev_newL, ev_iseq, ev_irange, ev_ienum, ev_yes, Out.bind_ok, Out.bindN_ok, bindS_ok, Tg.set, Tg.sets, List.getElem?_cons_zero, List.getElem?_cons_succ, List.set_cons_zero, List.set_cons_succ, wipeE, List.length_cons, List.length_nil, Nat.reduceAdd, Nat.reduceLeDiff, Nat.reduceEqDiff, ↓reduceIte, Bool.false_eq_true, decide_eq_true_eq, add_int, sub_int, lt_int, gt_int, le_int, ge_int, neg_int, and_int, or_int, xor_int, max2_int, min2_int, mod_pos, fdiv_sm, mul_sm, mul_smr, Int.reduceLT, Int.reduceNeg, int_bl, int_int, sli_tup, e1]))).trans ?_
  refine (seq_of (set_of (d := .ref kd) (S' := S3) (by simp only [ev_var, ev_con, ev_bin, ev_un, ev_anil, ev_acons, ev_call, ev_tup, ev_lst, ev_not, ev_and, ev_or, ev_if, ev_cbl, ev_btrue, ev_cand, ev_cor, ev_cnot, ev_sli, ev_onone, ev_osome, ev_chain, ev_meth, ev_get2, ev_newK, ev_newT, ev_own, ev_nil, ev_seq, ev_expr, ev_set, ev_ret, ev_retN, ev_cif, ev_brk, ev_ct, ev_asg, ev_put, ev_aug, ev_for, ev_comp, ev_newL, ev_iseq, ev_irange, ev_ienum, ev_yes, Out.bind_ok, Out.bindN_ok, bindS_ok, Tg.set, Tg.sets, List.getElem?_cons_zero, List.getElem?_cons_succ, List.set_cons_zero, List.set_cons_succ, wipeE, List.length_cons, List.length_nil, Nat.reduceAdd, Nat.reduceLeDiff, Nat.reduceEqDiff, ↓reduceIte, Bool.false_eq_true, decide_eq_true_eq, add_int, sub_int, lt_int, gt_int, le_int, ge_int, neg_int, and_int, or_int, xor_int, max2_int, min2_int, mod_pos, fdiv_sm, mul_sm, mul_smr, Int.reduceLT, Int.reduceNeg, int_bl, int_int, sli_tup, e2, e3]))).trans ?_
  refine (seq_of (set_of (d := .tup (W.map stp)) (S' := S4) (by simp only [ev_var, ev_con, ev_bin, ev_un, ev_anil, ev_acons, ev_call, ev_tup, ev_lst, ev_not, ev_and, ev_or, ev_if, ev_cbl, ev_btrue, ev_cand, ev_cor, ev_cnot, ev_sli, ev_onone, ev_osome, ev_chain, ev_meth, ev_get2, ev_newK, ev_newT, ev_own, ev_nil, ev_seq, ev_expr, ev_set, ev_ret, ev_retN, ev_cif, ev_brk, ev_ct, ev_asg, ev_put, ev_aug, ev_for, ev_comp, ev_newL, ev_iseq, ev_irange, ev_ienum, ev_yes, Out.bind_ok, Out.bindN_ok, bindS_ok, Tg.set, Tg.sets, List.getElem?_cons_zero, List.getElem?_cons_succ, List.set_cons_zero, List.set_cons_succ, wipeE, List.length_cons, List.length_nil, Nat.reduceAdd, Nat.reduceLeDiff, Nat.reduceEqDiff, ↓reduceIte, Bool.false_eq_true, decide_eq_true_eq, add_int, sub_int, lt_int, gt_int, le_int, ge_int, neg_int, and_int, or_int, xor_int, max2_int, min2_int, mod_pos, fdiv_sm, mul_sm, mul_smr, Int.reduceLT, Int.reduceNeg, int_bl, int_int, sli_tup, e4]))).trans ?_
  refine (seq_of (set_of (d := .tup (V.map stp)) (S' := S5) (by simp only [ev_var, ev_con, ev_bin, ev_un, ev_anil, ev_acons, ev_call, ev_tup, ev_lst, ev_not, ev_and, ev_or, ev_if, ev_cbl, ev_btrue, ev_cand, ev_cor, ev_cnot, ev_sli, ev_onone, ev_osome, ev_chain, ev_meth, ev_get2, ev_newK, ev_newT, ev_own, ev_nil, ev_seq, ev_expr, ev_set, ev_ret, ev_retN, ev_cif, ev_brk, ev_ct, ev_asg, ev_put, ev_aug, ev_for, ev_comp, ev_newL, ev_iseq, ev_irange, ev_ienum, ev_yes, Out.bind_ok, Out.bindN_ok, bindS_ok, Tg.set, Tg.sets, List.getElem?_cons_zero, List.getElem?_cons_succ, List.set_cons_zero, List.set_cons_succ, wipeE, List.length_cons, List.length_nil, Nat.reduceAdd, Nat.reduceLeDiff, Nat.reduceEqDiff, ↓reduceIte, Bool.false_eq_true, decide_eq_true_eq, add_int, sub_int, lt_int, gt_int, le_int, ge_int, neg_int, and_int, or_int, xor_int, max2_int, min2_int, mod_pos, fdiv_sm, mul_sm, mul_smr, Int.reduceLT, Int.reduceNeg, int_bl, int_int, sli_tup, e5]))).trans ?_
  refine (seq_of (set_of (d := .ref ld) (S' := S6) (by simp only [ev_var, ev_con, ev_bin, ev_un, ev_anil, ev_acons, ev_call, ev_tup, ev_lst, ev_not, ev_and, ev_or, ev_if, ev_cbl, ev_btrue, ev_cand, ev_cor, ev_cnot, ev_sli, ev_onone, ev_osome, ev_chain, ev_meth, ev_get2, ev_newK, ev_newT, ev_own, ev_nil, ev_seq, ev_expr, ev_set, ev_ret, ev_retN, ev_cif, ev_brk, ev_ct, ev_asg, ev_put, ev_aug, ev_for, ev_comp, ev_newL, ev_iseq, ev_irange, ev_ienum, ev_yes, Out.bind_ok, Out.bindN_ok, bindS_ok, Tg.set, Tg.sets, List.getElem?_cons_zero, List.getElem?_cons_succ, List.set_cons_zero, List.set_cons_succ, wipeE, List.length_cons, List.length_nil, Nat.reduceAdd, Nat.reduceLeDiff, Nat.reduceEqDiff, ↓reduceIte, Bool.false_eq_true, decide_eq_true_eq, add_int, sub_int, lt_int, gt_int, le_int, ge_int, neg_int, and_int, or_int, xor_int, max2_int, min2_int, mod_pos, fdiv_sm, mul_sm, mul_smr, Int.reduceLT, Int.reduceNeg, int_bl, int_int, sli_tup, e6]))).trans ?_
  refine (seq_of (set_of (d := .ref lt) (S' := S7) (by simp only [ev_var, ev_con, ev_bin, ev_un, ev_anil, ev_acons, ev_call, ev_tup, ev_lst, ev_not, ev_and, ev_or, ev_if, ev_cbl, ev_btrue, ev_cand, ev_cor, ev_cnot, ev_sli, ev_onone, ev_osome, ev_chain, ev_meth, ev_get2, ev_newK, ev_newT, ev_own, ev_nil, ev_seq, ev_expr, ev_set, ev_ret, ev_retN, ev_cif, ev_brk, ev_ct, ev_asg, ev_put, ev_aug, ev_for, ev_comp, ev_newL, ev_iseq, ev_irange, ev_ienum, ev_yes, Out.bind_ok, Out.bindN_ok, bindS_ok, Tg.set, Tg.sets, List.getElem?_cons_zero, List.getElem?_cons_succ, List.set_cons_zero, List.set_cons_succ, wipeE, List.length_cons, List.length_nil, Nat.reduceAdd, Nat.reduceLeDiff, Nat.reduceEqDiff, ↓reduceIte, Bool.false_eq_true, decide_eq_true_eq, add_int, sub_int, lt_int, gt_int, le_int, ge_int, neg_int, and_int, or_int, xor_int, max2_int, min2_int, mod_pos, fdiv_sm, mul_sm, mul_smr, Int.reduceLT, Int.reduceNeg, int_bl, int_int, sli_tup, e7]))).trans ?_
  refine (seq_of ((if_f (S' := S7) (by simp only [ev_var, ev_con, ev_bin, ev_un, ev_anil, ev_acons, ev_call, ev_tup, ev_lst, ev_not, ev_and, ev_or, ev_if, ev_cbl, ev_btrue, ev_cand, ev_cor, ev_cnot, ev_sli, ev_onone, ev_osome, ev_chain, ev_meth, ev_get2, ev_newK, ev_newT, ev_own, ev_nil, ev_seq, ev_expr, ev_set, ev_ret, ev_retN, ev_cif, ev_brk, ev_ct, ev_asg, ev_put, ev_aug, ev_for, ev_comp, ev_newL, ev_iseq, ev_irange, ev_ienum, ev_yes, Out.bind_ok, Out.bindN_ok, bindS_ok, Tg.set, Tg.sets, List.getElem?_cons_zero, List.getElem?_cons_succ, List.set_cons_zero, List.set_cons_succ, wipeE, List.length_cons, List.length_nil, Nat.reduceAdd, Nat.reduceLeDiff, Nat.reduceEqDiff, ↓reduceIte, Bool.false_eq_true, decide_eq_true_eq, add_int, sub_int, lt_int, gt_int, le_int, ge_int, neg_int, and_int, or_int, xor_int, max2_int, min2_int, mod_pos, fdiv_sm, mul_sm, mul_smr, Int.reduceLT, Int.reduceNeg, int_bl, int_int, sli_tup, isi_list h7, Bool.not_true, c1.1])).trans rfl)).trans ?_
  refine (seq_of (expr_of (d := .non) (S' := T) (by simp only [ev_var, ev_con, ev_bin, ev_un, ev_anil, ev_acons, ev_call, ev_tup, ev_lst, ev_not, ev_and, ev_or, ev_if, ev_cbl, ev_btrue, ev_cand, ev_cor, ev_cnot, ev_sli, ev_onone, ev_osome, ev_chain, ev_meth, ev_get2, ev_newK, ev_newT, ev_own, ev_nil, ev_seq, ev_expr, ev_set, ev_ret, ev_retN, ev_cif, ev_brk, ev_ct, ev_asg, ev_put, ev_aug, ev_for, ev_comp, ev_newL, ev_iseq, ev_irange, ev_ienum, ev_yes, Out.bind_ok, Out.bindN_ok, bindS_ok, Tg.set, Tg.sets, List.getElem?_cons_zero, List.getElem?_cons_succ, List.set_cons_zero, List.set_cons_succ, wipeE, List.length_cons, List.length_nil, Nat.reduceAdd, Nat.reduceLeDiff, Nat.reduceEqDiff, ↓reduceIte, Bool.false_eq_true, decide_eq_true_eq, add_int, sub_int, lt_int, gt_int, le_int, ge_int, neg_int, and_int, or_int, xor_int, max2_int, min2_int, mod_pos, fdiv_sm, mul_sm, mul_smr, Int.reduceLT, Int.reduceNeg, int_bl, int_int, sli_tup, tyq_ref h7, sline 1 (by omega), app_ref h7 ln]; rw [← hT]; rfl))).trans ?_
  refine (seq_of ((if_f (S' := S10) (by simp only [ev_var, ev_con, ev_bin, ev_un, ev_anil, ev_acons, ev_call, ev_tup, ev_lst, ev_not, ev_and, ev_or, ev_if, ev_cbl, ev_btrue, ev_cand, ev_cor, ev_cnot, ev_sli, ev_onone, ev_osome, ev_chain, ev_meth, ev_get2, ev_newK, ev_newT, ev_own, ev_nil, ev_seq, ev_expr, ev_set, ev_ret, ev_retN, ev_cif, ev_brk, ev_ct, ev_asg, ev_put, ev_aug, ev_for, ev_comp, ev_newL, ev_iseq, ev_irange, ev_ienum, ev_yes, Out.bind_ok, Out.bindN_ok, bindS_ok, Tg.set, Tg.sets, List.getElem?_cons_zero, List.getElem?_cons_succ, List.set_cons_zero, List.set_cons_succ, wipeE, List.length_cons, List.length_nil, Nat.reduceAdd, Nat.reduceLeDiff, Nat.reduceEqDiff, ↓reduceIte, Bool.false_eq_true, decide_eq_true_eq, add_int, sub_int, lt_int, gt_int, le_int, ge_int, neg_int, and_int, or_int, xor_int, max2_int, min2_int, mod_pos, fdiv_sm, mul_sm, mul_smr, Int.reduceLT, Int.reduceNeg, int_bl, int_int, sli_tup, e9, e10, c2.1])).trans rfl)).trans ?_
  refine (seq_of (set_of (d := .int (y % ((allW 3 W).length : Int))) (S' := S11) (by simp only [ev_var, ev_con, ev_bin, ev_un, ev_anil, ev_acons, ev_call, ev_tup, ev_lst, ev_not, ev_and, ev_or, ev_if, ev_cbl, ev_btrue, ev_cand, ev_cor, ev_cnot, ev_sli, ev_onone, ev_osome, ev_chain, ev_meth, ev_get2, ev_newK, ev_newT, ev_own, ev_nil, ev_seq, ev_expr, ev_set, ev_ret, ev_retN, ev_cif, ev_brk, ev_ct, ev_asg, ev_put, ev_aug, ev_for, ev_comp, ev_newL, ev_iseq, ev_irange, ev_ienum, ev_yes, Out.bind_ok, Out.bindN_ok, bindS_ok, Tg.set, Tg.sets, List.getElem?_cons_zero, List.getElem?_cons_succ, List.set_cons_zero, List.set_cons_succ, wipeE, List.length_cons, List.length_nil, Nat.reduceAdd, Nat.reduceLeDiff, Nat.reduceEqDiff, ↓reduceIte, Bool.false_eq_true, decide_eq_true_eq, add_int, sub_int, lt_int, gt_int, le_int, ge_int, neg_int, and_int, or_int, xor_int, max2_int, min2_int, mod_pos, fdiv_sm, mul_sm, mul_smr, Int.reduceLT, Int.reduceNeg, int_bl, int_int, sli_tup, e11, len_ref h11, lp]))).trans ?_
  refine (seq_of ((for_of (w := (rangeL 0 (min 8 ((allW 3 W).length : Int)), .tt)) (S' := S11) (by simp only [ev_var, ev_con, ev_bin, ev_un, ev_anil, ev_acons, ev_call, ev_tup, ev_lst, ev_not, ev_and, ev_or, ev_if, ev_cbl, ev_btrue, ev_cand, ev_cor, ev_cnot, ev_sli, ev_onone, ev_osome, ev_chain, ev_meth, ev_get2, ev_newK, ev_newT, ev_own, ev_nil, ev_seq, ev_expr, ev_set, ev_ret, ev_retN, ev_cif, ev_brk, ev_ct, ev_asg, ev_put, ev_aug, ev_for, ev_comp, ev_newL, ev_iseq, ev_irange, ev_ienum, ev_yes, Out.bind_ok, Out.bindN_ok, bindS_ok, Tg.set, Tg.sets, List.getElem?_cons_zero, List.getElem?_cons_succ, List.set_cons_zero, List.set_cons_succ, wipeE, List.length_cons, List.length_nil, Nat.reduceAdd, Nat.reduceLeDiff, Nat.reduceEqDiff, ↓reduceIte, Bool.false_eq_true, decide_eq_true_eq, add_int, sub_int, lt_int, gt_int, le_int, ge_int, neg_int, and_int, or_int, xor_int, max2_int, min2_int, mod_pos, fdiv_sm, mul_sm, mul_smr, Int.reduceLT, Int.reduceNeg, int_bl, int_int, sli_tup, len_ref h11, rng1_of (i := min 8 ((allW 3 W).length : Int)) (by omega) (by omega)])).trans e12)).trans ?_
  exact ret_of (by simp only [ev_var, ev_con, ev_bin, ev_un, ev_anil, ev_acons, ev_call, ev_tup, ev_lst, ev_not, ev_and, ev_or, ev_if, ev_cbl, ev_btrue, ev_cand, ev_cor, ev_cnot, ev_sli, ev_onone, ev_osome, ev_chain, ev_meth, ev_get2, ev_newK, ev_newT, ev_own, ev_nil, ev_seq, ev_expr, ev_set, ev_ret, ev_retN, ev_cif, ev_brk, ev_ct, ev_asg, ev_put, ev_aug, ev_for, ev_comp, ev_newL, ev_iseq, ev_irange, ev_ienum, ev_yes, Out.bind_ok, Out.bindN_ok, bindS_ok, Tg.set, Tg.sets, List.getElem?_cons_zero, List.getElem?_cons_succ, List.set_cons_zero, List.set_cons_succ, wipeE, List.length_cons, List.length_nil, Nat.reduceAdd, Nat.reduceLeDiff, Nat.reduceEqDiff, ↓reduceIte, Bool.false_eq_true, decide_eq_true_eq, add_int, sub_int, lt_int, gt_int, le_int, ge_int, neg_int, and_int, or_int, xor_int, max2_int, min2_int, mod_pos, fdiv_sm, mul_sm, mul_smr, Int.reduceLT, Int.reduceNeg, int_bl, int_int, sli_tup, e15, c3.2])
end Wk

/-! the end (printed by gen.py) -/
namespace Wk
open PySem PySem.Spec PyProof.Rows L2 PL
section
variable {P : Program} {w : World} {K : PySem.W.Frag} {mg : Str → Option Value} {base : Heap} {fa : Fn → Addr} {fd : Fn → FuncData}
theorem all_mk {l : PySem.W.OpenLaw} {w : World} {K : PySem.W.Frag} {h : Heap} {mg : Str → Option Value} {fl : Addr} (X : K.In h) (G : h.Ns mainGlobals mg) (hfa : mg "law" = some (.ref fl))
    {f1 : Addr} {od1 an1 : Option Addr} {sl1 : Array (Option Value)} {oc1 kV1 dc1 pm1 cd1 ct1 : Value} (a1 : PySem.W.nsIn K mainGlobals "inner_looks" = some (some (.ref f1)))
    (l1 : K.lookup f1 = some ⟨oc1, od1, .func (PySem.W.fnOf "inner_looks" "inner_looks" (defArgs s_inner_looks) (defBody s_inner_looks) (defScope s_inner_looks) .none kV1 dc1 pm1 an1 cd1 ct1), sl1⟩) (c1 : PySem.W.codeIn K cd1 "inner_looks" = true) (k1 : PySem.W.keepIn K (.ref f1) = true)
    {f2 : Addr} {od2 an2 : Option Addr} {sl2 : Array (Option Value)} {oc2 kV2 dc2 pm2 cd2 ct2 : Value} (a2 : PySem.W.nsIn K mainGlobals "looks_of" = some (some (.ref f2)))
    (l2 : K.lookup f2 = some ⟨oc2, od2, .func (PySem.W.fnOf "looks_of" "looks_of" (defArgs s_looks_of) (defBody s_looks_of) (defScope s_looks_of) .none kV2 dc2 pm2 an2 cd2 ct2), sl2⟩) (c2 : PySem.W.codeIn K cd2 "looks_of" = true) (k2 : PySem.W.keepIn K (.ref f2) = true)
    {f3 : Addr} {od3 an3 : Option Addr} {sl3 : Array (Option Value)} {oc3 kV3 dc3 pm3 cd3 ct3 : Value} (a3 : PySem.W.nsIn K mainGlobals "looks_in" = some (some (.ref f3)))
    (l3 : K.lookup f3 = some ⟨oc3, od3, .func (PySem.W.fnOf "looks_in" "looks_in" (defArgs s_looks_in) (defBody s_looks_in) (defScope s_looks_in) .none kV3 dc3 pm3 an3 cd3 ct3), sl3⟩) (c3 : PySem.W.codeIn K cd3 "looks_in" = true) (k3 : PySem.W.keepIn K (.ref f3) = true)
    {f4 : Addr} {od4 an4 : Option Addr} {sl4 : Array (Option Value)} {oc4 kV4 dc4 pm4 cd4 ct4 : Value} (a4 : PySem.W.nsIn K mainGlobals "let_go_one" = some (some (.ref f4)))
    (l4 : K.lookup f4 = some ⟨oc4, od4, .func (PySem.W.fnOf "let_go_one" "let_go_one" (defArgs s_let_go_one) (defBody s_let_go_one) (defScope s_let_go_one) .none kV4 dc4 pm4 an4 cd4 ct4), sl4⟩) (c4 : PySem.W.codeIn K cd4 "let_go_one" = true) (k4 : PySem.W.keepIn K (.ref f4) = true)
    {f5 : Addr} {od5 an5 : Option Addr} {sl5 : Array (Option Value)} {oc5 kV5 dc5 pm5 cd5 ct5 : Value} (a5 : PySem.W.nsIn K mainGlobals "let_go_in" = some (some (.ref f5)))
    (l5 : K.lookup f5 = some ⟨oc5, od5, .func (PySem.W.fnOf "let_go_in" "let_go_in" (defArgs s_let_go_in) (defBody s_let_go_in) (defScope s_let_go_in) .none kV5 dc5 pm5 an5 cd5 ct5), sl5⟩) (c5 : PySem.W.codeIn K cd5 "let_go_in" = true) (k5 : PySem.W.keepIn K (.ref f5) = true)
    {f6 : Addr} {od6 an6 : Option Addr} {sl6 : Array (Option Value)} {oc6 kV6 dc6 pm6 cd6 ct6 : Value} (a6 : PySem.W.nsIn K mainGlobals "let_go" = some (some (.ref f6)))
    (l6 : K.lookup f6 = some ⟨oc6, od6, .func (PySem.W.fnOf "let_go" "let_go" (defArgs s_let_go) (defBody s_let_go) (defScope s_let_go) .none kV6 dc6 pm6 an6 cd6 ct6), sl6⟩) (c6 : PySem.W.codeIn K cd6 "let_go" = true) (k6 : PySem.W.keepIn K (.ref f6) = true)
    {f7 : Addr} {od7 an7 : Option Addr} {sl7 : Array (Option Value)} {oc7 kV7 dc7 pm7 cd7 ct7 : Value} (a7 : PySem.W.nsIn K mainGlobals "_law_next" = some (some (.ref f7)))
    (l7 : K.lookup f7 = some ⟨oc7, od7, .func (PySem.W.fnOf "_law_next" "_law_next" (defArgs s_l_next) (defBody s_l_next) (defScope s_l_next) .none kV7 dc7 pm7 an7 cd7 ct7), sl7⟩) (c7 : PySem.W.codeIn K cd7 "_law_next" = true) (k7 : PySem.W.keepIn K (.ref f7) = true)
    {f8 : Addr} {od8 an8 : Option Addr} {sl8 : Array (Option Value)} {oc8 kV8 dc8 pm8 cd8 ct8 : Value} (a8 : PySem.W.nsIn K mainGlobals "_law_state" = some (some (.ref f8)))
    (l8 : K.lookup f8 = some ⟨oc8, od8, .func (PySem.W.fnOf "_law_state" "_law_state" (defArgs s_l_state) (defBody s_l_state) (defScope s_l_state) .none kV8 dc8 pm8 an8 cd8 ct8), sl8⟩) (c8 : PySem.W.codeIn K cd8 "_law_state" = true) (k8 : PySem.W.keepIn K (.ref f8) = true)
    {f9 : Addr} {od9 an9 : Option Addr} {sl9 : Array (Option Value)} {oc9 kV9 dc9 pm9 cd9 ct9 : Value} (a9 : PySem.W.nsIn K mainGlobals "_law_pool" = some (some (.ref f9)))
    (l9 : K.lookup f9 = some ⟨oc9, od9, .func (PySem.W.fnOf "_law_pool" "_law_pool" (defArgs s_l_pool) (defBody s_l_pool) (defScope s_l_pool) .none kV9 dc9 pm9 an9 cd9 ct9), sl9⟩) (c9 : PySem.W.codeIn K cd9 "_law_pool" = true) (k9 : PySem.W.keepIn K (.ref f9) = true)
    {f10 : Addr} {od10 an10 : Option Addr} {sl10 : Array (Option Value)} {oc10 kV10 dc10 pm10 cd10 ct10 : Value} (a10 : PySem.W.nsIn K mainGlobals "_law_look" = some (some (.ref f10)))
    (l10 : K.lookup f10 = some ⟨oc10, od10, .func (PySem.W.fnOf "_law_look" "_law_look" (defArgs s_l_look) (defBody s_l_look) (defScope s_l_look) .none kV10 dc10 pm10 an10 cd10 ct10), sl10⟩) (c10 : PySem.W.codeIn K cd10 "_law_look" = true) (k10 : PySem.W.keepIn K (.ref f10) = true)
    {f11 : Addr} {od11 an11 : Option Addr} {sl11 : Array (Option Value)} {oc11 kV11 dc11 pm11 cd11 ct11 : Value} (a11 : PySem.W.nsIn K mainGlobals "_law_inner" = some (some (.ref f11)))
    (l11 : K.lookup f11 = some ⟨oc11, od11, .func (PySem.W.fnOf "_law_inner" "_law_inner" (defArgs s_l_inner) (defBody s_l_inner) (defScope s_l_inner) .none kV11 dc11 pm11 an11 cd11 ct11), sl11⟩) (c11 : PySem.W.codeIn K cd11 "_law_inner" = true) (k11 : PySem.W.keepIn K (.ref f11) = true)
    {f12 : Addr} {od12 an12 : Option Addr} {sl12 : Array (Option Value)} {oc12 kV12 dc12 pm12 cd12 ct12 : Value} (a12 : PySem.W.nsIn K mainGlobals "_law_all_in" = some (some (.ref f12)))
    (l12 : K.lookup f12 = some ⟨oc12, od12, .func (PySem.W.fnOf "_law_all_in" "_law_all_in" (defArgs s_l_all_in) (defBody s_l_all_in) (defScope s_l_all_in) .none kV12 dc12 pm12 an12 cd12 ct12), sl12⟩) (c12 : PySem.W.codeIn K cd12 "_law_all_in" = true) (k12 : PySem.W.keepIn K (.ref f12) = true)
    {f13 : Addr} {od13 an13 : Option Addr} {sl13 : Array (Option Value)} {oc13 kV13 dc13 pm13 cd13 ct13 : Value} (a13 : PySem.W.nsIn K mainGlobals "_law_looks" = some (some (.ref f13)))
    (l13 : K.lookup f13 = some ⟨oc13, od13, .func (PySem.W.fnOf "_law_looks" "_law_looks" (defArgs s_l_looks) (defBody s_l_looks) (defScope s_l_looks) .none kV13 dc13 pm13 an13 cd13 ct13), sl13⟩) (c13 : PySem.W.codeIn K cd13 "_law_looks" = true) (k13 : PySem.W.keepIn K (.ref f13) = true)
    {f14 : Addr} {od14 an14 : Option Addr} {sl14 : Array (Option Value)} {oc14 kV14 dc14 pm14 cd14 ct14 : Value} (a14 : PySem.W.nsIn K mainGlobals "_law_free" = some (some (.ref f14)))
    (l14 : K.lookup f14 = some ⟨oc14, od14, .func (PySem.W.fnOf "_law_free" "_law_free" (defArgs s_l_free) (defBody s_l_free) (defScope s_l_free) .none kV14 dc14 pm14 an14 cd14 ct14), sl14⟩) (c14 : PySem.W.codeIn K cd14 "_law_free" = true) (k14 : PySem.W.keepIn K (.ref f14) = true)
    {f15 : Addr} {od15 an15 : Option Addr} {sl15 : Array (Option Value)} {oc15 kV15 dc15 pm15 cd15 ct15 : Value} (a15 : PySem.W.nsIn K mainGlobals "_law_let" = some (some (.ref f15)))
    (l15 : K.lookup f15 = some ⟨oc15, od15, .func (PySem.W.fnOf "_law_let" "_law_let" (defArgs s_l_let) (defBody s_l_let) (defScope s_l_let) .none kV15 dc15 pm15 an15 cd15 ct15), sl15⟩) (c15 : PySem.W.codeIn K cd15 "_law_let" = true) (k15 : PySem.W.keepIn K (.ref f15) = true)
    {f16 : Addr} {od16 an16 : Option Addr} {sl16 : Array (Option Value)} {oc16 kV16 dc16 pm16 cd16 ct16 : Value} (a16 : PySem.W.nsIn K mainGlobals "_law_long" = some (some (.ref f16)))
    (l16 : K.lookup f16 = some ⟨oc16, od16, .func (PySem.W.fnOf "_law_long" "_law_long" (defArgs s_l_long) (defBody s_l_long) (defScope s_l_long) .none kV16 dc16 pm16 an16 cd16 ct16), sl16⟩) (c16 : PySem.W.codeIn K cd16 "_law_long" = true) (k16 : PySem.W.keepIn K (.ref f16) = true)
    {f17 : Addr} {od17 an17 : Option Addr} {sl17 : Array (Option Value)} {oc17 kV17 dc17 pm17 cd17 ct17 : Value} (a17 : PySem.W.nsIn K mainGlobals "law" = some (some (.ref f17)))
    (l17 : K.lookup f17 = some ⟨oc17, od17, .func (PySem.W.fnOf "law" "law" (defArgs s_l_law) (defBody s_l_law) (defScope s_l_law) .none kV17 dc17 pm17 an17 cd17 ct17), sl17⟩) (c17 : PySem.W.codeIn K cd17 "law" = true) (k17 : PySem.W.keepIn K (.ref f17) = true)
    (z_abs : PySem.W.nsIn K mainGlobals "abs" = some none)
    (z_isinstance : PySem.W.nsIn K mainGlobals "isinstance" = some none)
    (z_len : PySem.W.nsIn K mainGlobals "len" = some none)
    (z_list : PySem.W.nsIn K mainGlobals "list" = some none)
    (z_min : PySem.W.nsIn K mainGlobals "min" = some none)
    (z_range : PySem.W.nsIn K mainGlobals "range" = some none)
    (z_tuple : PySem.W.nsIn K mainGlobals "tuple" = some none)
    (z_zip : PySem.W.nsIn K mainGlobals "zip" = some none)
    {ka_ANY : Addr} {kd_ANY : Option Addr} {ks_ANY : Array (Option Value)} {ki_ANY : Array Value} {kn_ANY : Nat} (v_ANY : PySem.W.nsIn K mainGlobals "ANY" = some (some (.ref ka_ANY))) (w_ANY : K.lookup ka_ANY = some ⟨.type "tuple", kd_ANY, .seq ki_ANY kn_ANY, ks_ANY⟩) (u_ANY : Cst ki_ANY.toList k_ANY)
    : ∃ fd : FuncData, (∀ (s : Shared) (v : Value), BindsTo s fd ⟨[v], []⟩ [("_law_script", v)]) ∧ ∀ base : Heap, K.In base → base.Ns mainGlobals mg → FnOk l.prog w K mg base CX0 40 fl fd ["_law_script"] (spD K mg (F 40 .l_law) 1) := by
  have e := hfa.symm.trans (PySem.W.mg_of X G a17)
  cases e
  have F1 := fun_mk (st := s_inner_looks) l1 c1 k1
  have b1 := F1.binds (ps := p_inner_looks) fun _ _ _ _ _ _ us hl => match us, hl with | [_], _ => rfl
  have F2 := fun_mk (st := s_looks_of) l2 c2 k2
  have b2 := F2.binds (ps := p_looks_of) fun _ _ _ _ _ _ us hl => match us, hl with | [_], _ => rfl
  have F3 := fun_mk (st := s_looks_in) l3 c3 k3
  have b3 := F3.binds (ps := p_looks_in) fun _ _ _ _ _ _ us hl => match us, hl with | [_], _ => rfl
  have F4 := fun_mk (st := s_let_go_one) l4 c4 k4
  have b4 := F4.binds (ps := p_let_go_one) fun _ _ _ _ _ _ us hl => match us, hl with | [_, _], _ => rfl
  have F5 := fun_mk (st := s_let_go_in) l5 c5 k5
  have b5 := F5.binds (ps := p_let_go_in) fun _ _ _ _ _ _ us hl => match us, hl with | [_, _], _ => rfl
  have F6 := fun_mk (st := s_let_go) l6 c6 k6
  have b6 := F6.binds (ps := p_let_go) fun _ _ _ _ _ _ us hl => match us, hl with | [_, _], _ => rfl
  have F7 := fun_mk (st := s_l_next) l7 c7 k7
  have b7 := F7.binds (ps := p_l_next) fun _ _ _ _ _ _ us hl => match us, hl with | [_], _ => rfl
  have F8 := fun_mk (st := s_l_state) l8 c8 k8
  have b8 := F8.binds (ps := p_l_state) fun _ _ _ _ _ _ us hl => match us, hl with | [_], _ => rfl
  have F9 := fun_mk (st := s_l_pool) l9 c9 k9
  have b9 := F9.binds (ps := p_l_pool) fun _ _ _ _ _ _ us hl => match us, hl with | [_, _], _ => rfl
  have F10 := fun_mk (st := s_l_look) l10 c10 k10
  have b10 := F10.binds (ps := p_l_look) fun _ _ _ _ _ _ us hl => match us, hl with | [_, _, _], _ => rfl
  have F11 := fun_mk (st := s_l_inner) l11 c11 k11
  have b11 := F11.binds (ps := p_l_inner) fun _ _ _ _ _ _ us hl => match us, hl with | [_], _ => rfl
  have F12 := fun_mk (st := s_l_all_in) l12 c12 k12
  have b12 := F12.binds (ps := p_l_all_in) fun _ _ _ _ _ _ us hl => match us, hl with | [_], _ => rfl
  have F13 := fun_mk (st := s_l_looks) l13 c13 k13
  have b13 := F13.binds (ps := p_l_looks) fun _ _ _ _ _ _ us hl => match us, hl with | [_], _ => rfl
  have F14 := fun_mk (st := s_l_free) l14 c14 k14
  have b14 := F14.binds (ps := p_l_free) fun _ _ _ _ _ _ us hl => match us, hl with | [_, _], _ => rfl
  have F15 := fun_mk (st := s_l_let) l15 c15 k15
  have b15 := F15.binds (ps := p_l_let) fun _ _ _ _ _ _ us hl => match us, hl with | [_, _], _ => rfl
  have F16 := fun_mk (st := s_l_long) l16 c16 k16
  have b16 := F16.binds (ps := p_l_long) fun _ _ _ _ _ _ us hl => match us, hl with | [_, _], _ => rfl
  have F17 := fun_mk (st := s_l_law) l17 c17 k17
  have b17 := F17.binds (ps := p_l_law) fun _ _ _ _ _ _ us hl => match us, hl with | [_], _ => rfl
  have T : Tx K mg (fun | .inner_looks => f1 | .looks_of => f2 | .looks_in => f3 | .let_go_one => f4 | .let_go_in => f5 | .let_go => f6 | .l_next => f7 | .l_state => f8 | .l_pool => f9 | .l_look => f10 | .l_inner => f11 | .l_all_in => f12 | .l_looks => f13 | .l_free => f14 | .l_let => f15 | .l_long => f16 | .l_law => fl) (fun | .inner_looks => PySem.W.fnOf "inner_looks" "inner_looks" (defArgs s_inner_looks) (defBody s_inner_looks) (defScope s_inner_looks) .none kV1 dc1 pm1 an1 cd1 ct1 | .looks_of => PySem.W.fnOf "looks_of" "looks_of" (defArgs s_looks_of) (defBody s_looks_of) (defScope s_looks_of) .none kV2 dc2 pm2 an2 cd2 ct2 | .looks_in => PySem.W.fnOf "looks_in" "looks_in" (defArgs s_looks_in) (defBody s_looks_in) (defScope s_looks_in) .none kV3 dc3 pm3 an3 cd3 ct3 | .let_go_one => PySem.W.fnOf "let_go_one" "let_go_one" (defArgs s_let_go_one) (defBody s_let_go_one) (defScope s_let_go_one) .none kV4 dc4 pm4 an4 cd4 ct4 | .let_go_in => PySem.W.fnOf "let_go_in" "let_go_in" (defArgs s_let_go_in) (defBody s_let_go_in) (defScope s_let_go_in) .none kV5 dc5 pm5 an5 cd5 ct5 | .let_go => PySem.W.fnOf "let_go" "let_go" (defArgs s_let_go) (defBody s_let_go) (defScope s_let_go) .none kV6 dc6 pm6 an6 cd6 ct6 | .l_next => PySem.W.fnOf "_law_next" "_law_next" (defArgs s_l_next) (defBody s_l_next) (defScope s_l_next) .none kV7 dc7 pm7 an7 cd7 ct7 | .l_state => PySem.W.fnOf "_law_state" "_law_state" (defArgs s_l_state) (defBody s_l_state) (defScope s_l_state) .none kV8 dc8 pm8 an8 cd8 ct8 | .l_pool => PySem.W.fnOf "_law_pool" "_law_pool" (defArgs s_l_pool) (defBody s_l_pool) (defScope s_l_pool) .none kV9 dc9 pm9 an9 cd9 ct9 | .l_look => PySem.W.fnOf "_law_look" "_law_look" (defArgs s_l_look) (defBody s_l_look) (defScope s_l_look) .none kV10 dc10 pm10 an10 cd10 ct10 | .l_inner => PySem.W.fnOf "_law_inner" "_law_inner" (defArgs s_l_inner) (defBody s_l_inner) (defScope s_l_inner) .none kV11 dc11 pm11 an11 cd11 ct11 | .l_all_in => PySem.W.fnOf "_law_all_in" "_law_all_in" (defArgs s_l_all_in) (defBody s_l_all_in) (defScope s_l_all_in) .none kV12 dc12 pm12 an12 cd12 ct12 | .l_looks => PySem.W.fnOf "_law_looks" "_law_looks" (defArgs s_l_looks) (defBody s_l_looks) (defScope s_l_looks) .none kV13 dc13 pm13 an13 cd13 ct13 | .l_free => PySem.W.fnOf "_law_free" "_law_free" (defArgs s_l_free) (defBody s_l_free) (defScope s_l_free) .none kV14 dc14 pm14 an14 cd14 ct14 | .l_let => PySem.W.fnOf "_law_let" "_law_let" (defArgs s_l_let) (defBody s_l_let) (defScope s_l_let) .none kV15 dc15 pm15 an15 cd15 ct15 | .l_long => PySem.W.fnOf "_law_long" "_law_long" (defArgs s_l_long) (defBody s_l_long) (defScope s_l_long) .none kV16 dc16 pm16 an16 cd16 ct16 | .l_law => PySem.W.fnOf "law" "law" (defArgs s_l_law) (defBody s_l_law) (defScope s_l_law) .none kV17 dc17 pm17 an17 cd17 ct17) ka_ANY :=
    ⟨F1, PySem.W.mg_of X G a1, b1, F2, PySem.W.mg_of X G a2, b2, F3, PySem.W.mg_of X G a3, b3, F4, PySem.W.mg_of X G a4, b4, F5, PySem.W.mg_of X G a5, b5, F6, PySem.W.mg_of X G a6, b6, F7, PySem.W.mg_of X G a7, b7, F8, PySem.W.mg_of X G a8, b8, F9, PySem.W.mg_of X G a9, b9, F10, PySem.W.mg_of X G a10, b10, F11, PySem.W.mg_of X G a11, b11, F12, PySem.W.mg_of X G a12, b12, F13, PySem.W.mg_of X G a13, b13, F14, PySem.W.mg_of X G a14, b14, F15, PySem.W.mg_of X G a15, b15, F16, PySem.W.mg_of X G a16, b16, F17, PySem.W.mg_of X G a17, b17, PySem.W.mg_none_of X G z_abs, PySem.W.mg_none_of X G z_isinstance, PySem.W.mg_none_of X G z_len, PySem.W.mg_none_of X G z_list, PySem.W.mg_none_of X G z_min, PySem.W.mg_none_of X G z_range, PySem.W.mg_none_of X G z_tuple, PySem.W.mg_none_of X G z_zip, ⟨PySem.W.mg_of X G v_ANY, rfl, fun μ H => cst_rep w_ANY u_ANY⟩⟩
  exact ⟨_, fun s v => .of_eq rfl, fun base _ _ => ok_all T 40 .l_law⟩
end
theorem walk {l : PySem.W.OpenLaw} {q : Program} {loose : List Str} {XP : (Str → Option Value) → Heap → Prop} {YP : World → Heap → Prop} {d : DefRec} {K : Params → PySem.W.Frag} (hn : l.most = some 63) (hdf : d.params.defaults = [])
    (hY : ∀ (w : World) (h : Heap), YP w h → (K w.params).In h)
    (FF : ∀ (w : World) (mg : Str → Option Value) (fa : Addr) (h : Heap), (K w.params).In h → h.Ns mainGlobals mg → mg d.name = some (.ref fa) →
      ∃ fd : FuncData, (∀ (s : Shared) (u : Value), BindsTo s fd ⟨[u], []⟩ [("_law_script", u)]) ∧ ∀ base : Heap, (K w.params).In base → base.Ns mainGlobals mg → FnOk l.prog w (K w.params) mg base CX0 40 fa fd ["_law_script"] (spD (K w.params) mg (F 40 .l_law) 1)) :
    PySem.W.WalkO q loose XP YP l.row.toRowW d [] (fun f vs => PySem.call f vs) :=
  walk_law (k := 40) (x := "_law_script") hn hdf ⟨rfl, by decide, by decide⟩ hY law_true FF
end Wk
open PySem PySem.W PyProof.Rows in
set_option maxRecDepth 100000 in
set_option maxHeartbeats 0 in
theorem PySem.Challenge.cw_pathshape_k71_looks_numbered_holds : PySem.Challenge.rw_pathshape_k71_looks_numbered.Holds := by
  w_on; o_law; k_head; (case hw => w_witness2)
  k_fill
  refine Wk.walk (l := PySem.Challenge.rw_pathshape_k71_looks_numbered) rfl rfl (fun w h Y => PySem.W.kIn_of Y) ?FF
  case FF =>
    intro w mg fa h KX G hmg
    refine' Wk.all_mk KX G hmg ?a1 ?l1 ?c1 ?k1 ?a2 ?l2 ?c2 ?k2 ?a3 ?l3 ?c3 ?k3 ?a4 ?l4 ?c4 ?k4 ?a5 ?l5 ?c5 ?k5 ?a6 ?l6 ?c6 ?k6 ?a7 ?l7 ?c7 ?k7 ?a8 ?l8 ?c8 ?k8 ?a9 ?l9 ?c9 ?k9 ?a10 ?l10 ?c10 ?k10 ?a11 ?l11 ?c11 ?k11 ?a12 ?l12 ?c12 ?k12 ?a13 ?l13 ?c13 ?k13 ?a14 ?l14 ?c14 ?k14 ?a15 ?l15 ?c15 ?k15 ?a16 ?l16 ?c16 ?k16 ?a17 ?l17 ?c17 ?k17 ?z_abs ?z_isinstance ?z_len ?z_list ?z_min ?z_range ?z_tuple ?z_zip ?v_ANY ?w_ANY ?u_ANY
    (case a1 => k_is)
    (case l1 => k_is)
    (case c1 => k_is)
    (case k1 => k_is)
    (case a2 => k_is)
    (case l2 => k_is)
    (case c2 => k_is)
    (case k2 => k_is)
    (case a3 => k_is)
    (case l3 => k_is)
    (case c3 => k_is)
    (case k3 => k_is)
    (case a4 => k_is)
    (case l4 => k_is)
    (case c4 => k_is)
    (case k4 => k_is)
    (case a5 => k_is)
    (case l5 => k_is)
    (case c5 => k_is)
    (case k5 => k_is)
    (case a6 => k_is)
    (case l6 => k_is)
    (case c6 => k_is)
    (case k6 => k_is)
    (case a7 => k_is)
    (case l7 => k_is)
    (case c7 => k_is)
    (case k7 => k_is)
    (case a8 => k_is)
    (case l8 => k_is)
    (case c8 => k_is)
    (case k8 => k_is)
    (case a9 => k_is)
    (case l9 => k_is)
    (case c9 => k_is)
    (case k9 => k_is)
    (case a10 => k_is)
    (case l10 => k_is)
    (case c10 => k_is)
    (case k10 => k_is)
    (case a11 => k_is)
    (case l11 => k_is)
    (case c11 => k_is)
    (case k11 => k_is)
    (case a12 => k_is)
    (case l12 => k_is)
    (case c12 => k_is)
    (case k12 => k_is)
    (case a13 => k_is)
    (case l13 => k_is)
    (case c13 => k_is)
    (case k13 => k_is)
    (case a14 => k_is)
    (case l14 => k_is)
    (case c14 => k_is)
    (case k14 => k_is)
    (case a15 => k_is)
    (case l15 => k_is)
    (case c15 => k_is)
    (case k15 => k_is)
    (case a16 => k_is)
    (case l16 => k_is)
    (case c16 => k_is)
    (case k16 => k_is)
    (case a17 => k_is)
    (case l17 => k_is)
    (case c17 => k_is)
    (case k17 => k_is)
    (case z_abs => k_is)
    (case z_isinstance => k_is)
    (case z_len => k_is)
    (case z_list => k_is)
    (case z_min => k_is)
    (case z_range => k_is)
    (case z_tuple => k_is)
    (case z_zip => k_is)
    (case v_ANY => k_is)
    (case w_ANY => k_is)
    (case u_ANY => exact ⟨_, rfl, rfl, rfl⟩)
#print axioms PySem.Challenge.cw_pathshape_k71_looks_numbered_holds
