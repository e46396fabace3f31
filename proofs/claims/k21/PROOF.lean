import PyProof.Rows.All
import Wide.All
import OpenK.AllK
import Wide.FinOn
import HandS.ForMost
import HandS.Deep
import HandS.TupAny
import HandS.Wide
import HandS.WideBits
import HandS.Conv
import HandS.DictTup
import HandS.IsInst
import HandS.Flow
import HandS.More
import HandS.TupLen
import HandS.WordsDict
import HandS.CallSlots
import KE.GoesEnum
import PySem.Challenge.RW_pathshape_k21_rows_let_by
set_option Elab.async false
set_option linter.all false
set_option maxRecDepth 100000
set_option maxHeartbeats 4000000
namespace PL
open PySem PySem.Spec PyProof.Rows L2

/-! ### data, store, outcomes -/
inductive Dv where
  | non | bl (b : Bool) | int (i : Int) | str (x : Str) | tup (ds : List Dv) | kt (ds : List Dv) | fl (ds : List Dv) | ref (l : Nat)
inductive Ob where
  | lst (ds : List Dv) | dk (kvs : List (L2.Key × Dv)) | dt (kvs : List (List L2.Key × Dv))
abbrev Sto := List Ob
abbrev Env := List (Option Dv)
structure Ex where
  cls : Str
  fs : Option (Str × Dv)
inductive Out (α : Type) where
  | ok (a : α) (S : Sto) | ex (x : Ex) (S : Sto) | no
def Out.bind {α β : Type} : Out α → (α → Sto → Out β) → Out β
  | .ok a S, f => f a S
  | .ex x S, _ => .ex x S
  | .no, _ => .no
@[simp] theorem Out.bind_ok {α β : Type} (a : α) (S : Sto) (f : α → Sto → Out β) : (Out.ok a S).bind f = f a S := rfl
@[simp] theorem Out.bind_ex {α β : Type} (x : Ex) (S : Sto) (f : α → Sto → Out β) : (Out.ex x S : Out α).bind f = .ex x S := rfl
@[simp] theorem Out.bind_no {α β : Type} (f : α → Sto → Out β) : (Out.no : Out α).bind f = .no := rfl
/-- what is raised here is not told -/
def Out.bindN {α β : Type} : Out α → (α → Sto → Out β) → Out β
  | .ok a S, f => f a S
  | _, _ => .no
@[simp] theorem Out.bindN_ok {α β : Type} (a : α) (S : Sto) (f : α → Sto → Out β) : (Out.ok a S).bindN f = f a S := rfl
abbrev RE := Env → Sto → Out Dv
abbrev RT := Env → Sto → Out Bool
abbrev RA := Env → Sto → Out (List Dv)

/-! ### what a value stands for -/
def TupAt (μ : List Addr) (H : Hp) (a : Addr) (vs : List V) : Prop := H a = some (.tup vs) ∧ a ∉ μ
def ConAt (K : PySem.W.Frag) (a : Addr) (vs : List V) : Prop :=
  ∃ (o : Obj) (its : Array Value) (n : Nat), K.lookup a = some o ∧ o.cls = .type "tuple" ∧ o.data = .seq its n ∧ its.size ≤ sizeLine ∧ Vals vs its.toList
def LisAt (K : PySem.W.Frag) (μ : List Addr) (H : Hp) (a : Addr) (vs : List V) : Prop :=
  ((∃ o, H a = some (.frz o (.lst vs))) ∧ a ∉ μ) ∨ ∃ (o : Obj) (its : Array Value) (n : Nat), K.lookup a = some o ∧ o.cls = .type "list" ∧ o.dict = none ∧ o.data = .seq its n ∧ its.size ≤ sizeLine ∧ Vals vs its.toList
inductive Rep (K : PySem.W.Frag) (μ : List Addr) (H : Hp) : V → Dv → Prop
  | non : Rep K μ H .non .non
  | bl (b : Bool) : Rep K μ H (.bl b) (.bl b)
  | int (i : Int) : Rep K μ H (.int i) (.int i)
  | str (x : Str) : Rep K μ H (.str x) (.str x)
  | ref {l : Nat} {a : Addr} : μ[l]? = some a → Rep K μ H (.ref a) (.ref l)
  | kt {a : Addr} {vs : List V} {ds : List Dv} : ConAt K a vs → vs.length = ds.length → (∀ (i : Nat) (v : V) (d : Dv), vs[i]? = some v → ds[i]? = some d → Rep K μ H v d) → Rep K μ H (.ref a) (.kt ds)
  | tup {a : Addr} {vs : List V} {ds : List Dv} : TupAt μ H a vs → vs.length = ds.length → (∀ (i : Nat) (v : V) (d : Dv), vs[i]? = some v → ds[i]? = some d → Rep K μ H v d) → Rep K μ H (.ref a) (.tup ds)
  | fl {a : Addr} {vs : List V} {ds : List Dv} : LisAt K μ H a vs → vs.length = ds.length → (∀ (i : Nat) (v : V) (d : Dv), vs[i]? = some v → ds[i]? = some d → Rep K μ H v d) → Rep K μ H (.ref a) (.fl ds)
def Reps (K : PySem.W.Frag) (μ : List Addr) (H : Hp) (vs : List V) (ds : List Dv) : Prop :=
  vs.length = ds.length ∧ ∀ (i : Nat) (v : V) (d : Dv), vs[i]? = some v → ds[i]? = some d → Rep K μ H v d

structure Step (μ : List Addr) (H : Hp) (μ' : List Addr) (H' : Hp) : Prop where
  pre : ∃ ν, μ' = μ ++ ν ∧ ∀ b ∈ ν, H b = none
  keep : ∀ b o, H b = some o → b ∉ μ → H' b = some o
  live : ∀ b, H b ≠ none → H' b ≠ none

def ObR (K : PySem.W.Frag) (μ : List Addr) (H : Hp) (a : Addr) : Ob → Prop
  | .lst ds => ∃ vs, H a = some (.lst vs) ∧ Reps K μ H vs ds
  | .dk kvs => ∃ ws, H a = some (.dK ws) ∧ ws.map (·.1) = kvs.map (·.1) ∧ Reps K μ H (ws.map (·.2)) (kvs.map (·.2))
  | .dt kvs => ∃ ws, H a = some (.dT ws) ∧ ws.map (·.1) = kvs.map (·.1) ∧ Reps K μ H (ws.map (·.2)) (kvs.map (·.2))
structure SimS (K : PySem.W.Frag) (μ : List Addr) (S : Sto) (H : Hp) : Prop where
  len : μ.length = S.length
  nd : μ.Nodup
  ob : ∀ (l : Nat) (a : Addr) (o : Ob), μ[l]? = some a → S[l]? = some o → ObR K μ H a o
def SimE (K : PySem.W.Frag) (μ : List Addr) (H : Hp) (ρ : Env) (σ : L2.St) : Prop :=
  ρ.length = σ.length ∧ ∀ (i : Nat) (d : Dv), ρ[i]? = some (some d) → ∃ v, σ[i]? = some (some v) ∧ Rep K μ H v d
def XRep (K : PySem.W.Frag) (mg : Str → Option Value) (μ : List Addr) (H : Hp) (x : Ex) (cls : Value) (d : Option Addr) : Prop :=
  mg x.cls = some cls ∧ ((x.fs = none ∧ d = none) ∨ ∃ f e dx v, x.fs = some (f, e) ∧ d = some dx ∧ H dx = some (.xd [(f, v)]) ∧ Rep K μ H v e)

/-! ### keeping -/
section
variable {K : PySem.W.Frag} {μ μ' μ1 μ2 : List Addr} {H H' H1 H2 : Hp} {v : V} {d : Dv} {vs : List V} {ds : List Dv} {a : Addr}
theorem Step.refl (μ : List Addr) (H : Hp) : Step μ H μ H := ⟨⟨[], by simp, fun _ h => nomatch h⟩, fun _ _ h _ => h, fun _ h => h⟩
theorem Step.nin (s : Step μ H μ' H') {o : HO} (h : H a = some o) (n : a ∉ μ) : a ∉ μ' := by
  obtain ⟨ν, e, f⟩ := s.pre
  rw [e]
  intro q
  rcases List.mem_append.mp q with q | q
  · exact n q
  · rw [f a q] at h; cases h
theorem Step.trans (s : Step μ H μ1 H1) (t : Step μ1 H1 μ2 H2) : Step μ H μ2 H2 := by
  refine ⟨?_, fun b o h n => t.keep b o (s.keep b o h n) (s.nin h n), fun b h => t.live b (s.live b h)⟩
  obtain ⟨ν, e, f⟩ := s.pre
  obtain ⟨ν', e', f'⟩ := t.pre
  refine ⟨ν ++ ν', by rw [e', e, List.append_assoc], fun b hb => ?_⟩
  rcases List.mem_append.mp hb with hb | hb
  · exact f b hb
  · cases q : H b with
    | none => rfl
    | some o => exact absurd (f' b hb) (s.live b (by rw [q]; exact fun z => nomatch z))
theorem Step.get (s : Step μ H μ' H') {l : Nat} (h : μ[l]? = some a) : μ'[l]? = some a := by
  obtain ⟨ν, e, _⟩ := s.pre
  rw [e, List.getElem?_append_left (List.getElem?_eq_some_iff.mp h).1]
  exact h
theorem TupAt.step (s : Step μ H μ' H') (h : TupAt μ H a vs) : TupAt μ' H' a vs := ⟨s.keep _ _ h.1 h.2, s.nin h.1 h.2⟩
theorem LisAt.step (s : Step μ H μ' H') (h : LisAt K μ H a vs) : LisAt K μ' H' a vs := by
  rcases h with ⟨⟨o, h⟩, n⟩ | h
  · exact .inl ⟨⟨o, s.keep _ _ h n⟩, s.nin h n⟩
  · exact .inr h
theorem Rep.step (s : Step μ H μ' H') (h : Rep K μ H v d) : Rep K μ' H' v d := by
  induction h with
  | non => exact .non
  | bl b => exact .bl b
  | int i => exact .int i
  | str x => exact .str x
  | ref h => exact .ref (s.get h)
  | kt h e _ ih => exact .kt h e fun i v d h1 h2 => ih i v d h1 h2
  | tup h e _ ih => exact .tup (h.step s) e fun i v d h1 h2 => ih i v d h1 h2
  | fl h e _ ih => exact .fl (h.step s) e fun i v d h1 h2 => ih i v d h1 h2
theorem Reps.step (s : Step μ H μ' H') (h : Reps K μ H vs ds) : Reps K μ' H' vs ds := ⟨h.1, fun i v d h1 h2 => (h.2 i v d h1 h2).step s⟩
theorem Reps.nil : Reps K μ H [] [] := ⟨rfl, fun i v d h => by simp at h⟩
theorem Reps.cons (t : Reps K μ H vs ds) (h : Rep K μ H v d) : Reps K μ H (v :: vs) (d :: ds) := by
  refine ⟨by simp [t.1], fun i v' d' h1 h2 => ?_⟩
  cases i with
  | zero => simp at h1 h2; subst h1; subst h2; exact h
  | succ i => exact t.2 i v' d' (by simpa using h1) (by simpa using h2)
theorem Reps.uncons {e : Dv} {es : List Dv} (t : Reps K μ H vs (e :: es)) : ∃ v ws, vs = v :: ws ∧ Rep K μ H v e ∧ Reps K μ H ws es := by
  cases vs with
  | nil => exact absurd t.1 (by simp)
  | cons v ws => exact ⟨v, ws, rfl, t.2 0 v e rfl rfl, by have := t.1; simpa using this, fun i v' d' h1 h2 => t.2 (i + 1) v' d' (by simpa using h1) (by simpa using h2)⟩
theorem Reps.un0 (t : Reps K μ H vs []) : vs = [] := List.eq_nil_of_length_eq_zero (by rw [t.1]; rfl)
theorem Reps.append {ws : List V} {es : List Dv} (h : Reps K μ H vs ds) (t : Reps K μ H ws es) : Reps K μ H (vs ++ ws) (ds ++ es) := by
  refine ⟨by simp [h.1, t.1], fun i v d h1 h2 => ?_⟩
  by_cases hi : i < vs.length
  · rw [List.getElem?_append_left hi] at h1
    rw [List.getElem?_append_left (by rw [← h.1]; exact hi)] at h2
    exact h.2 i v d h1 h2
  · rw [List.getElem?_append_right (by omega)] at h1
    rw [List.getElem?_append_right (by rw [← h.1]; omega), ← h.1] at h2
    exact t.2 _ v d h1 h2
theorem Rep.reps_cons (h : Rep K μ H v d) (t : Reps K μ H vs ds) : Reps K μ H (v :: vs) (d :: ds) := t.cons h
theorem Reps.one (h : Rep K μ H v d) : Reps K μ H [v] [d] := Reps.nil.cons h
theorem Reps.get (h : Reps K μ H vs ds) {i : Nat} (e : ds[i]? = some d) : ∃ v, vs[i]? = some v ∧ Rep K μ H v d := by
  have hi : i < vs.length := by rw [h.1]; exact (List.getElem?_eq_some_iff.mp e).1
  exact ⟨vs[i], List.getElem?_eq_getElem hi, h.2 i _ d (List.getElem?_eq_getElem hi) e⟩
theorem Reps.set (h : Reps K μ H vs ds) (r : Rep K μ H v d) (i : Nat) : Reps K μ H (vs.set i v) (ds.set i d) := by
  refine ⟨by simp [h.1], fun j v' d' h1 h2 => ?_⟩
  by_cases hj : i = j
  · subst hj
    have h3 : i < vs.length := by have := (List.getElem?_eq_some_iff.mp h1).1; simpa using this
    rw [List.getElem?_set_self h3] at h1
    rw [List.getElem?_set_self (by rw [← h.1]; exact h3)] at h2
    cases h1; cases h2; exact r
  · rw [List.getElem?_set_ne hj] at h1 h2
    exact h.2 j v' d' h1 h2
theorem Reps.sub (h : Reps K μ H vs ds) {ws : List V} {es : List Dv} (f : Nat → Nat) (hl : ws.length = es.length) (h1 : ∀ i, i < ws.length → ws[i]? = vs[f i]?) (h2 : ∀ i, i < ws.length → es[i]? = ds[f i]?) : Reps K μ H ws es :=
  ⟨hl, fun i v d e1 e2 => by
    have hi := (List.getElem?_eq_some_iff.mp e1).1
    exact h.2 (f i) v d ((h1 i hi).symm.trans e1) ((h2 i hi).symm.trans e2)⟩
theorem Reps.take (h : Reps K μ H vs ds) (n : Nat) : Reps K μ H (vs.take n) (ds.take n) :=
  h.sub id (by simp [h.1]) (fun i hi => by simp at hi; simp only [List.getElem?_take, id]; rw [if_pos (by omega)]) fun i hi => by simp at hi; simp only [List.getElem?_take, id]; rw [if_pos (by omega)]
theorem Reps.drop (h : Reps K μ H vs ds) (n : Nat) : Reps K μ H (vs.drop n) (ds.drop n) :=
  h.sub (fun i => n + i) (by simp [h.1]) (fun i _ => by simp [List.getElem?_drop]) fun i _ => by simp [List.getElem?_drop]
theorem Reps.rev (h : Reps K μ H vs ds) : Reps K μ H vs.reverse ds.reverse :=
  h.sub (fun i => vs.length - 1 - i) (by simp [h.1]) (fun i hi => by rw [List.getElem?_reverse (by simpa using hi)]) fun i hi => by
    rw [List.length_reverse] at hi
    rw [List.getElem?_reverse (by rw [← h.1]; exact hi), h.1]
theorem ObR.step (s : Step μ H μ' H') {o : Ob} {l : Nat} (h : ObR K μ H a o) (k : ∀ u, H a = some u → H' a = some u) : ObR K μ' H' a o := by
  cases o with
  | lst ds => obtain ⟨vs, e, r⟩ := h; exact ⟨vs, k _ e, r.step s⟩
  | dk kvs => obtain ⟨vs, e, q, r⟩ := h; exact ⟨vs, k _ e, q, r.step s⟩
  | dt kvs => obtain ⟨vs, e, q, r⟩ := h; exact ⟨vs, k _ e, q, r.step s⟩
theorem ObR.some {o : Ob} (h : ObR K μ H a o) : ∃ u, H a = some u := by
  cases o with
  | lst ds => obtain ⟨vs, e, _⟩ := h; exact ⟨_, e⟩
  | dk kvs => obtain ⟨vs, e, _⟩ := h; exact ⟨_, e⟩
  | dt kvs => obtain ⟨vs, e, _⟩ := h; exact ⟨_, e⟩
theorem SimE.step {ρ : Env} {σ : L2.St} (s : Step μ H μ' H') (h : SimE K μ H ρ σ) : SimE K μ' H' ρ σ :=
  ⟨h.1, fun i d e => let ⟨v, e', r⟩ := h.2 i d e; ⟨v, e', r.step s⟩⟩
variable {S : Sto} {o : Ob} {l : Nat} {p : Addr}
theorem SimS.at (h : SimS K μ S H) (e : S[l]? = some o) : ∃ a, μ[l]? = some a ∧ ObR K μ H a o := by
  have hl : l < μ.length := by rw [h.len]; exact (List.getElem?_eq_some_iff.mp e).1
  exact ⟨μ[l], List.getElem?_eq_getElem hl, h.ob l _ o (List.getElem?_eq_getElem hl) e⟩
theorem SimS.at' (h : SimS K μ S H) (e : S[l]? = some o) (q : μ[l]? = some a) : ObR K μ H a o := h.ob l a o q e
theorem SimS.tracked (h : SimS K μ S H) (m : a ∈ μ) : ∃ u, H a = some u := by
  obtain ⟨l, hl, e⟩ := List.getElem_of_mem m
  have hs : l < S.length := by rw [← h.len]; exact hl
  exact (h.ob l a S[l] (by rw [List.getElem?_eq_getElem hl, e]) (List.getElem?_eq_getElem hs)).some
theorem SimS.fresh (h : SimS K μ S H) (n : H p = none) : p ∉ μ := fun m => by
  obtain ⟨u, e⟩ := h.tracked m
  rw [n] at e; cases e
/-- something laid that is no store object -/
theorem step_lay (h : SimS K μ S H) (n : H p = none) (u : HO) : Step μ H μ (upd H p u) :=
  ⟨⟨[], by simp, fun _ h => nomatch h⟩, fun b o e _ => by rw [upd_ne (ne_of_none e n)]; exact e, fun b e => by
    by_cases hb : b = p
    · rw [hb, upd_same]; exact fun z => nomatch z
    · rw [upd_ne hb]; exact e⟩
theorem SimS.lay (h : SimS K μ S H) (n : H p = none) (u : HO) : SimS K μ S (upd H p u) :=
  ⟨h.len, h.nd, fun l a o e1 e2 => (h.ob l a o e1 e2).step (l := l) (step_lay h n u) fun w q => by rw [upd_ne (ne_of_none q n)]; exact q⟩
theorem step_new (h : SimS K μ S H) (n : H p = none) (u : HO) : Step μ H (μ ++ [p]) (upd H p u) :=
  ⟨⟨[p], rfl, fun b hb => by simp at hb; rw [hb]; exact n⟩, (step_lay h n u).keep, (step_lay h n u).live⟩
theorem SimS.new (h : SimS K μ S H) (n : H p = none) {u : HO} (r : ObR K (μ ++ [p]) (upd H p u) p o) : SimS K (μ ++ [p]) (S ++ [o]) (upd H p u) := by
  refine ⟨by simp [h.len], List.nodup_append.mpr ⟨h.nd, by simp, fun a ha b hb => ?_⟩, fun l a o' e1 e2 => ?_⟩
  · simp at hb; subst hb; exact fun z => h.fresh n (z ▸ ha)
  · by_cases hl : l < μ.length
    · rw [List.getElem?_append_left hl] at e1
      rw [List.getElem?_append_left (by rw [← h.len]; exact hl)] at e2
      exact (h.ob l a o' e1 e2).step (l := l) (step_new h n u) fun w q => by rw [upd_ne (ne_of_none q n)]; exact q
    · have hl2 : l = μ.length := by have := (List.getElem?_eq_some_iff.mp e1).1; simp at this; omega
      subst hl2
      rw [List.getElem?_append_right (Nat.le_refl _)] at e1
      rw [List.getElem?_append_right (by rw [h.len]; exact Nat.le_refl _), h.len] at e2
      simp at e1 e2
      subst e1; subst e2; exact r
theorem new_at (h : SimS K μ S H) (p : Addr) : (μ ++ [p])[S.length]? = some p := by rw [← h.len]; simp
theorem step_put (h : SimS K μ S H) (e : μ[l]? = some a) (u : HO) : Step μ H μ (upd H a u) :=
  ⟨⟨[], by simp, fun _ h => nomatch h⟩, fun b o q n => by rw [upd_ne (fun z => n (by rw [z]; exact List.mem_of_getElem? e))]; exact q, fun b q => by
    by_cases hb : b = a
    · rw [hb, upd_same]; exact fun z => nomatch z
    · rw [upd_ne hb]; exact q⟩
theorem SimS.put (h : SimS K μ S H) (e : μ[l]? = some a) {u : HO} (r : ObR K μ (upd H a u) a o) : SimS K μ (S.set l o) (upd H a u) := by
  refine ⟨by simp [h.len], h.nd, fun k b o' e1 e2 => ?_⟩
  by_cases hk : l = k
  · subst hk
    rw [e] at e1; cases e1
    have hl : l < S.length := by rw [← h.len]; exact (List.getElem?_eq_some_iff.mp e).1
    rw [List.getElem?_set_self hl] at e2
    cases e2; exact r
  · rw [List.getElem?_set_ne hk] at e2
    have hne : b ≠ a := fun z => by
      subst z
      have h1 := List.getElem?_eq_some_iff.mp e
      have h2 := List.getElem?_eq_some_iff.mp e1
      exact hk ((List.getElem_inj h.nd).mp (h1.2.trans h2.2.symm))
    exact (h.ob k b o' e1 e2).step (l := k) (step_put h e u) fun w q => by rw [upd_ne hne]; exact q
end

/-! ### sequences -/
def tupOf : Dv → Option (List Dv)
  | .tup ds => some ds
  | .kt ds => some ds
  | _ => none
def lstOf (S : Sto) : Dv → Option (List Dv)
  | .fl ds => some ds
  | .ref l => match S[l]? with
    | some (.lst ds) => some ds
    | _ => none
  | _ => none
section
variable {K : PySem.W.Frag} {μ : List Addr} {H : Hp} {v : V} {d : Dv} {ds : List Dv} {S : Sto}
theorem Rep.sqT (r : Rep K μ H v d) (e : tupOf d = some ds) : ∃ a vs, v = .ref a ∧ SqT K H a vs ∧ Reps K μ H vs ds := by
  cases r with
  | tup h l q => simp only [tupOf, Option.some.injEq] at e; subst e; exact ⟨_, _, rfl, .inl (.inl h.1), l, q⟩
  | kt h l q => simp only [tupOf, Option.some.injEq] at e; subst e; exact ⟨_, _, rfl, .inr h, l, q⟩
  | _ => simp [tupOf] at e
theorem Rep.sqL (hS : SimS K μ S H) (r : Rep K μ H v d) (e : lstOf S d = some ds) : ∃ a vs, v = .ref a ∧ SqL K H a vs ∧ Reps K μ H vs ds := by
  cases r with
  | fl h l q =>
    simp only [lstOf, Option.some.injEq] at e; subst e
    rcases h with ⟨⟨o, h⟩, _⟩ | h
    · exact ⟨_, _, rfl, .inl (.inr ⟨o, h⟩), l, q⟩
    · exact ⟨_, _, rfl, .inr h, l, q⟩
  | @ref l a h =>
    simp only [lstOf] at e
    split at e
    · rename_i es hs
      simp only [Option.some.injEq] at e; subst e
      obtain ⟨vs, e1, r⟩ := hS.at' hs h
      exact ⟨a, vs, rfl, .inl (.inl e1), r⟩
    · cases e
  | _ => simp [lstOf] at e
theorem Rep.lst {l : Nat} (hS : SimS K μ S H) (r : Rep K μ H v (.ref l)) (e : S[l]? = some (.lst ds)) : ∃ a vs, v = .ref a ∧ μ[l]? = some a ∧ H a = some (.lst vs) ∧ Reps K μ H vs ds := by
  cases r with
  | ref h => obtain ⟨vs, e1, r⟩ := hS.at' e h; exact ⟨_, vs, rfl, h, e1, r⟩
end

/-! ### outcomes, as the layer's readings -/
def Met {α β : Type} (RP : List Addr → Hp → β → α → Prop) (K : PySem.W.Frag) (mg : Str → Option Value) (W : Value → Option Addr → Hp → Prop) (μ : List Addr) (H : Hp) (o : Out α) (Q : β → Hp → Prop) : Prop :=
  match o with
  | .ok d S' => ∀ μ' H' v, SimS K μ' S' H' → Step μ H μ' H' → RP μ' H' v d → Q v H'
  | .ex x S' => ∀ μ' H' cls dd, SimS K μ' S' H' → Step μ H μ' H' → XRep K mg μ' H' x cls dd → W cls dd H'
  | .no => False
abbrev WX := Value → Option Addr → L2.St → Hp → Prop
abbrev WX.at (W : WX) (σ : L2.St) : Value → Option Addr → Hp → Prop := fun c d H => W c d σ H
def tG {α β : Type} (RP : List Addr → Hp → β → α → Prop) (K : PySem.W.Frag) (mg : Str → Option Value) (W : WX) (r : Env → Sto → Out α) (σ : L2.St) (H : Hp) (Q : β → Hp → Prop) : Prop :=
  ∃ μ ρ S, SimS K μ S H ∧ SimE K μ H ρ σ ∧ Met RP K mg (W.at σ) μ H (r ρ S) Q
def RBool (μ : List Addr) (H : Hp) (b b' : Bool) : Prop := b = b'
section
variable {K : PySem.W.Frag} {mg : Str → Option Value} {W : WX} {μ μ1 : List Addr} {H H1 : Hp} {ρ : Env} {σ : L2.St} {S : Sto}
theorem Met.step {α β : Type} {RP : List Addr → Hp → β → α → Prop} {Wx : Value → Option Addr → Hp → Prop} {o : Out α} {Q : β → Hp → Prop} (s : Step μ H μ1 H1) (h : Met RP K mg Wx μ H o Q) : Met RP K mg Wx μ1 H1 o Q := by
  cases o with
  | ok d S' => exact fun μ' H' v a b c => h μ' H' v a (s.trans b) c
  | ex x S' => exact fun μ' H' cl dd a b c => h μ' H' cl dd a (s.trans b) c
  | no => exact h
theorem Met.mono {α β : Type} {RP : List Addr → Hp → β → α → Prop} {Wx : Value → Option Addr → Hp → Prop} {o : Out α} {Q Q' : β → Hp → Prop} (h : Met RP K mg Wx μ H o Q) (q : ∀ v H', Q v H' → Q' v H') : Met RP K mg Wx μ H o Q' := by
  cases o with
  | ok d S' => exact fun μ' H' v a b c => q _ _ (h μ' H' v a b c)
  | ex x S' => exact h
  | no => exact h
theorem bnd {α β γ δ : Type} {R1 : List Addr → Hp → β → α → Prop} {R2 : List Addr → Hp → δ → γ → Prop} {r : Env → Sto → Out α} {f : α → Sto → Out γ} {Q : δ → Hp → Prop} (hS : SimS K μ S H) (hE : SimE K μ H ρ σ)
    (h : Met R2 K mg (W.at σ) μ H ((r ρ S).bind f) Q) : tG R1 K mg W r σ H (fun v H1 => ∃ μ1 S1 d, SimS K μ1 S1 H1 ∧ SimE K μ1 H1 ρ σ ∧ Step μ H μ1 H1 ∧ R1 μ1 H1 v d ∧ Met R2 K mg (W.at σ) μ1 H1 (f d S1) Q) := by
  refine ⟨μ, ρ, S, hS, hE, ?_⟩
  cases q : r ρ S with
  | ok d S1 =>
    rw [q] at h
    exact fun μ1 H1 v a b c => ⟨μ1, S1, d, a, hE.step b, b, c, h.step b⟩
  | ex x S1 => rw [q] at h; exact h
  | no => rw [q] at h; exact h
/-- an outcome that is at hand -/
theorem Met.ok {α β : Type} {RP : List Addr → Hp → β → α → Prop} {Wx : Value → Option Addr → Hp → Prop} {d : α} {Q : β → Hp → Prop} {v : β} (h : Met RP K mg Wx μ H (.ok d S) Q) (hS : SimS K μ S H) (r : RP μ H v d) : Q v H := h μ H v hS (.refl μ H) r
/-- a new store object -/
theorem Met.new {o : Ob} {u : HO} {p : Addr} {Wx : Value → Option Addr → Hp → Prop} {Q : V → Hp → Prop} (h : Met (Rep K) K mg Wx μ H (.ok (.ref S.length) (S ++ [o])) Q) (hS : SimS K μ S H) (n : H p = none) (r : ObR K (μ ++ [p]) (upd H p u) p o) : Q (.ref p) (upd H p u) :=
  h _ _ _ (hS.new n r) (step_new hS n u) (.ref (new_at hS p))
theorem Met.lst {ds : List Dv} {vs : List V} {p : Addr} {Wx : Value → Option Addr → Hp → Prop} {Q : V → Hp → Prop} (h : Met (Rep K) K mg Wx μ H (.ok (.ref S.length) (S ++ [.lst ds])) Q) (hS : SimS K μ S H) (n : H p = none) (r : Reps K μ H vs ds) : Q (.ref p) (upd H p (.lst vs)) :=
  h.new hS n ⟨vs, upd_same, r.step (step_new hS n _)⟩
theorem Met.tup {ds : List Dv} {vs : List V} {p : Addr} {Wx : Value → Option Addr → Hp → Prop} {Q : V → Hp → Prop} (h : Met (Rep K) K mg Wx μ H (.ok (.tup ds) S) Q) (hS : SimS K μ S H) (n : H p = none) (r : Reps K μ H vs ds) : Q (.ref p) (upd H p (.tup vs)) :=
  h _ _ _ (hS.lay n _) (step_lay hS n _) (.tup ⟨upd_same, hS.fresh n⟩ r.1 (r.step (step_lay hS n _)).2)
/-- a store object written -/
theorem Met.put {α β : Type} {RP : List Addr → Hp → β → α → Prop} {o : Ob} {u : HO} {a : Addr} {l : Nat} {Wx : Value → Option Addr → Hp → Prop} {Q : β → Hp → Prop} {d : α} {v : β} (h : Met RP K mg Wx μ H (.ok d (S.set l o)) Q) (hS : SimS K μ S H) (e : μ[l]? = some a) (r : ObR K μ (upd H a u) a o) (rv : RP μ (upd H a u) v d) : Q v (upd H a u) :=
  h _ _ _ (hS.put e r) (step_put hS e u) rv
end
end PL

namespace PL
open PySem PySem.Spec PyProof.Rows L2

/-! ### rules: from readings to outcomes -/
theorem PE.imp {X : Cx} {e : Expr} {t t' : TE} (h : PE X e t) (i : ∀ σ H Q, t' σ H Q → t σ H Q) : PE X e t' := ⟨fun pins s σ H Q I w => h.run pins s σ H Q I (i σ H Q w)⟩
theorem PT.imp {X : Cx} {e : Expr} {t t' : TT} (h : PT X e t) (i : ∀ σ H Q, t' σ H Q → t σ H Q) : PT X e t' := ⟨fun pins s σ H Q I w => h.run pins s σ H Q I (i σ H Q w)⟩
theorem PW.imp {X : Cx} {e : Expr} {t t' : TT} (h : PW X e t) (i : ∀ σ H Q, t' σ H Q → t σ H Q) : PW X e t' := ⟨fun wh pins s σ H Q I w => h.run wh pins s σ H Q I (i σ H Q w)⟩
theorem PA.imp {X : Cx} {e : List Expr} {t t' : TA} (h : PA X e t) (i : ∀ σ H Q, t' σ H Q → t σ H Q) : PA X e t' := ⟨fun ps pins s σ H Q I w => h.run ps pins s σ H Q I (i σ H Q w)⟩
theorem PE.or {X : Cx} {e : Expr} {t t' : TE} (h : PE X e t) (h' : PE X e t') : PE X e (fun σ H Q => t σ H Q ∨ t' σ H Q) :=
  ⟨fun pins s σ H Q I w => w.elim (h.run pins s σ H Q I) (h'.run pins s σ H Q I)⟩
theorem OpR.or {X : Cx} {f : Value → Value → Sem Value} {r r' : R2} (h : OpR X f r) (h' : OpR X f r') : OpR X f (fun x y H Q => r x y H Q ∨ r' x y H Q) :=
  fun pins s σ H x y v u Q I rx ry w => w.elim (h pins s σ H x y v u Q I rx ry) (h' pins s σ H x y v u Q I rx ry)
theorem CallR.or {X : Cx} {f : Value} {r r' : List V → Hp → VK → Prop} (h : CallR X f r) (h' : CallR X f r') : CallR X f (fun x H Q => r x H Q ∨ r' x H Q) :=
  fun pins s σ H x v Q I rx w => w.elim (h pins s σ H x v Q I rx) (h' pins s σ H x v Q I rx)
theorem tG.mono {α β : Type} {RP : List Addr → Hp → β → α → Prop} {K : PySem.W.Frag} {mg : Str → Option Value} {W : WX} {f : Env → Sto → Out α} {σ : L2.St} {H : Hp} {Q Q' : β → Hp → Prop}
    (h : tG RP K mg W f σ H Q) (q : ∀ v H', Q v H' → Q' v H') : tG RP K mg W f σ H Q' := let ⟨μ, ρ, S, a, b, c⟩ := h; ⟨μ, ρ, S, a, b, c.mono q⟩

abbrev SE (X : Cx) (W : WX) (e : Expr) (r : RE) : Prop := PE X e (tG (Rep X.K) X.K X.mg W r)
abbrev ST (X : Cx) (W : WX) (e : Expr) (r : RT) : Prop := PT X e (tG RBool X.K X.mg W r)
abbrev SW (X : Cx) (W : WX) (e : Expr) (r : RT) : Prop := PW X e (tG RBool X.K X.mg W r)
abbrev SA (X : Cx) (W : WX) (es : List Expr) (r : RA) : Prop := PA X es (tG (Reps X.K) X.K X.mg W r)

/-- how an operation on data is met by the layer's reading -/
def Op2 (K : PySem.W.Frag) (f : Dv → Dv → Sto → Out Dv) (r : R2) : Prop :=
  ∀ (mg : Str → Option Value) (Wx : Value → Option Addr → Hp → Prop) (μ : List Addr) (H : Hp) (S : Sto) (x y : V) (d e : Dv) (Q : VK), SimS K μ S H → Rep K μ H x d → Rep K μ H y e → Met (Rep K) K mg Wx μ H (f d e S) Q → r x y H Q
def OpL (K : PySem.W.Frag) (f : List Dv → Sto → Out Dv) (r : List V → Hp → VK → Prop) : Prop :=
  ∀ (mg : Str → Option Value) (Wx : Value → Option Addr → Hp → Prop) (μ : List Addr) (H : Hp) (S : Sto) (vs : List V) (ds : List Dv) (Q : VK), SimS K μ S H → Reps K μ H vs ds → Met (Rep K) K mg Wx μ H (f ds S) Q → r vs H Q
def OpM (K : PySem.W.Frag) (f : Dv → List Dv → Sto → Out Dv) (r : V → List V → Hp → VK → Prop) : Prop :=
  ∀ (mg : Str → Option Value) (Wx : Value → Option Addr → Hp → Prop) (μ : List Addr) (H : Hp) (S : Sto) (x : V) (vs : List V) (d : Dv) (ds : List Dv) (Q : VK), SimS K μ S H → Rep K μ H x d → Reps K μ H vs ds → Met (Rep K) K mg Wx μ H (f d ds S) Q → r x vs H Q

/-! ### terms -/
def eVar (i : Nat) : RE := fun ρ S => match ρ[i]? with
  | some (some d) => .ok d S
  | _ => .no
def eCon (d : Dv) : RE := fun _ S => .ok d S
def eBin (f : Dv → Dv → Sto → Out Dv) (a b : RE) : RE := fun ρ S => (a ρ S).bind fun x S1 => (b ρ S1).bind fun y S2 => f x y S2
def eUn (f : Dv → Sto → Out Dv) (a : RE) : RE := fun ρ S => (a ρ S).bind f
def aNil : RA := fun _ S => .ok [] S
def aCons (r : RE) (t : RA) : RA := fun ρ S => (r ρ S).bind fun d S1 => (t ρ S1).bind fun ds S2 => .ok (d :: ds) S2
def eCall (f : List Dv → Sto → Out Dv) (a : RA) : RE := fun ρ S => (a ρ S).bind f
def eMet (f : Dv → List Dv → Sto → Out Dv) (o : RE) (a : RA) : RE := fun ρ S => (o ρ S).bind fun d S1 => (a ρ S1).bind fun ds S2 => f d ds S2
def eTup (a : RA) : RE := fun ρ S => (a ρ S).bind fun ds S1 => if ds.length ≤ sizeLine then .ok (.tup ds) S1 else .no
def eLst (a : RA) : RE := fun ρ S => (a ρ S).bind fun ds S1 => if ds.length ≤ sizeLine then .ok (.ref S1.length) (S1 ++ [.lst ds]) else .no
def eNot (a : RE) : RE := fun ρ S => (a ρ S).bind fun d S1 => match d with
  | .bl b => .ok (.bl (!b)) S1
  | _ => .no
def eAnd (a b : RE) : RE := fun ρ S => (a ρ S).bind fun d S1 => match d with
  | .bl true => b ρ S1
  | .bl false => .ok (.bl false) S1
  | _ => .no
def eOr (a b : RE) : RE := fun ρ S => (a ρ S).bind fun d S1 => match d with
  | .bl true => .ok (.bl true) S1
  | .bl false => b ρ S1
  | _ => .no
def eIf (c : RT) (a b : RE) : RE := fun ρ S => (c ρ S).bind fun t S1 => if t = true then a ρ S1 else b ρ S1
def bTrue (d : Dv) (S : Sto) : Out Bool := match d with
  | .bl b => .ok b S
  | _ => .no
def cBl (a : RE) : RT := fun ρ S => (a ρ S).bind bTrue
def cAnd (a b : RT) : RT := fun ρ S => (a ρ S).bind fun t S1 => if t = true then b ρ S1 else .ok false S1
def cOr (a b : RT) : RT := fun ρ S => (a ρ S).bind fun t S1 => if t = true then .ok true S1 else b ρ S1
def cNot (a : RT) : RT := fun ρ S => (a ρ S).bind fun t S1 => .ok (!t) S1

section
variable {X : Cx} {W : WX} {a b c e : Expr} {es : List Expr} {ra rb rc : RE} {rs : RA} {ta tb : RT} {pos : Pos}
theorem se_var (i : Nat) {x : Str} (hN : X.N[i]? = some x := by rfl) (hv : Vis X.env.scope x := by first | exact Or.inl rfl | exact Or.inr (Or.inl rfl) | exact Or.inr (Or.inr rfl)) (hd : (x == ("__debug__" : Str)) = false := by decide)
    (hcd : (x == ("__classdict__" : Str)) = false := by decide) : SE X W (.Name x pos) (eVar i) := by
  refine PE.imp (pe_var hN hv hd hcd) fun σ H Q ⟨μ, ρ, S, hS, hE, h⟩ => ?_
  unfold eVar at h
  split at h
  · rename_i d hd
    obtain ⟨v, e1, r⟩ := hE.2 i d hd
    exact ⟨v, e1, h.ok hS r⟩
  · exact h.elim
theorem se_con {d : Dv} {v : V} (h : PE X e (tC v)) (r : ∀ μ H, Rep X.K μ H v d) : SE X W e (eCon d) :=
  PE.imp h fun σ H Q ⟨μ, ρ, S, hS, hE, h⟩ => show Q v H from h.ok hS (r μ H)
theorem se_int {i j} : SE X W (.Constant (.int i) j pos) (eCon (.int i)) := se_con pe_int fun _ _ => .int i
theorem se_bl {i j} : SE X W (.Constant (.bool i) j pos) (eCon (.bl i)) := se_con pe_bl fun _ _ => .bl i
theorem se_non {j} : SE X W (.Constant .none j pos) (eCon .non) := se_con pe_non fun _ _ => .non
theorem se_str {i j} : SE X W (.Constant (.str i) j pos) (eCon (.str i)) := se_con pe_str fun _ _ => .str i
theorem bnd2 {f : Dv → Dv → Sto → Out Dv} {r : R2} (hf : Op2 X.K f r) {σ : L2.St} {H : Hp} {Q : VK} (h : tG (Rep X.K) X.K X.mg W (eBin f ra rb) σ H Q) :
    tOp r (tG (Rep X.K) X.K X.mg W ra) (tG (Rep X.K) X.K X.mg W rb) σ H Q := by
  obtain ⟨μ, ρ, S, hS, hE, h⟩ := h
  refine (bnd hS hE h).mono fun x H1 ⟨μ1, S1, d, hS1, hE1, s1, rx, h1⟩ => ?_
  refine (bnd hS1 hE1 h1).mono fun y H2 ⟨μ2, S2, d2, hS2, hE2, s2, ry, h2⟩ => ?_
  exact hf _ _ μ2 H2 S2 x y d d2 Q hS2 (rx.step s2) ry h2
theorem se_bin {op : Operator} {f : Dv → Dv → Sto → Out Dv} {r : R2} (ho : OpR X (binaryOp op) r) (hf : Op2 X.K f r) (ha : SE X W a ra) (hb : SE X W b rb) : SE X W (.BinOp a op b pos) (eBin f ra rb) :=
  PE.imp (pe_op ho ha hb) fun _ _ _ h => bnd2 hf h
theorem se_cmp {op : CmpOp} {f : Dv → Dv → Sto → Out Dv} {r : R2} (ho : OpR X (compareOp op) r) (hf : Op2 X.K f r) (ha : SE X W a ra) (hb : SE X W b rb) (hm : behindInMarks op b = false) : SE X W (.Compare a [op] [b] pos) (eBin f ra rb) :=
  PE.imp (pe_cmpR ho ha hb hm) fun _ _ _ h => bnd2 hf h
theorem bTrue_met {K : PySem.W.Frag} {mg : Str → Option Value} {Wx : Value → Option Addr → Hp → Prop} {μ : List Addr} {H : Hp} {S : Sto} {v : V} {d : Dv} {Q : Bool → Hp → Prop} (hS : SimS K μ S H) (r : Rep K μ H v d) (h : Met RBool K mg Wx μ H (bTrue d S) Q) : ∃ k, v = .bl k ∧ Q k H := by
  cases r with
  | bl b => exact ⟨b, rfl, h.ok hS rfl⟩
  | _ => exact h.elim
theorem st_cmp {op : CmpOp} {f : Dv → Dv → Sto → Out Dv} {r : R2} (ho : OpR X (compareOp op) r) (hf : Op2 X.K f r) (ha : SE X W a ra) (hb : SE X W b rb) (hm : behindInMarks op b = false) : ST X W (.Compare a [op] [b] pos) (cBl (eBin f ra rb)) :=
  PT.imp (pt_cmpR ho ha hb hm) fun σ H Q ⟨μ, ρ, S, hS, hE, h⟩ => bnd2 hf ((bnd hS hE h).mono fun v H1 ⟨μ1, S1, d, hS1, hE1, s1, rv, h1⟩ => bTrue_met hS1 rv h1)
theorem st_bl (he : SE X W e ra) (hp : ∀ whole, isTrue e X.env whole = (do let v ← whole; standAt e.pos; holding [v] (truthy v)) := by intro _; rfl) : ST X W e (cBl ra) :=
  PT.imp (pt_val he hp) fun σ H Q ⟨μ, ρ, S, hS, hE, h⟩ => (bnd hS hE h).mono fun v H1 ⟨μ1, S1, d, hS1, hE1, s1, rv, h1⟩ => bTrue_met hS1 rv h1
theorem st_not (h : ST X W e ta) : ST X W (.UnaryOp .Not e pos) (cNot ta) :=
  PT.imp (pt_not h) fun σ H Q ⟨μ, ρ, S, hS, hE, h⟩ => (bnd (R1 := RBool) hS hE h).mono fun v H1 ⟨μ1, S1, d, hS1, hE1, s1, rv, h1⟩ => by
    cases (show v = d from rv)
    exact h1.ok hS1 rfl
theorem sw_one_and (h : ST X W e ta) : SW X W (.BoolOp .And [e] pos) ta := pw_and1 h
theorem sw_one_or (h : ST X W e ta) : SW X W (.BoolOp .Or [e] pos) ta := pw_or1 h
theorem sw_and (h : ST X W e ta) (t : SW X W (.BoolOp .And (b :: es) pos) tb) : SW X W (.BoolOp .And (e :: b :: es) pos) (cAnd ta tb) :=
  PW.imp (pw_and h t) fun σ H Q ⟨μ, ρ, S, hS, hE, h⟩ => (bnd (R1 := RBool) hS hE h).mono fun v H1 ⟨μ1, S1, d, hS1, hE1, s1, rv, h1⟩ => by
    cases (show v = d from rv)
    cases v with
    | true => exact ⟨μ1, ρ, S1, hS1, hE1, h1⟩
    | false => exact Met.ok (RP := RBool) h1 hS1 rfl
theorem sw_or (h : ST X W e ta) (t : SW X W (.BoolOp .Or (b :: es) pos) tb) : SW X W (.BoolOp .Or (e :: b :: es) pos) (cOr ta tb) :=
  PW.imp (pw_or h t) fun σ H Q ⟨μ, ρ, S, hS, hE, h⟩ => (bnd (R1 := RBool) hS hE h).mono fun v H1 ⟨μ1, S1, d, hS1, hE1, s1, rv, h1⟩ => by
    cases (show v = d from rv)
    cases v with
    | true => exact Met.ok (RP := RBool) h1 hS1 rfl
    | false => exact ⟨μ1, ρ, S1, hS1, hE1, h1⟩
theorem st_w (h : SW X W e ta) : ST X W e ta := PW.pt h
theorem se_not (h : SE X W e ra) : SE X W (.UnaryOp .Not e pos) (eNot ra) :=
  PE.imp (pe_not h) fun σ H Q ⟨μ, ρ, S, hS, hE, h⟩ => (bnd hS hE h).mono fun v H1 ⟨μ1, S1, d, hS1, hE1, s1, rv, h1⟩ => by
    cases rv with
    | bl b => exact ⟨b, rfl, Met.ok (RP := Rep X.K) h1 hS1 (.bl _)⟩
    | _ => exact h1.elim
theorem se_one {op} (h : SE X W e ra) : SE X W (.BoolOp op [e] pos) ra := pe_one h
theorem se_and (h : SE X W e ra) (t : SE X W (.BoolOp .And (b :: es) pos) rb) : SE X W (.BoolOp .And (e :: b :: es) pos) (eAnd ra rb) :=
  PE.imp (pe_and h t) fun σ H Q ⟨μ, ρ, S, hS, hE, h⟩ => (bnd hS hE h).mono fun v H1 ⟨μ1, S1, d, hS1, hE1, s1, rv, h1⟩ => by
    cases rv with
    | bl b => cases b with
      | true => exact ⟨true, rfl, ⟨μ1, ρ, S1, hS1, hE1, h1⟩⟩
      | false => exact ⟨false, rfl, Met.ok (RP := Rep X.K) h1 hS1 (.bl _)⟩
    | _ => exact h1.elim
theorem se_or (h : SE X W e ra) (t : SE X W (.BoolOp .Or (b :: es) pos) rb) : SE X W (.BoolOp .Or (e :: b :: es) pos) (eOr ra rb) :=
  PE.imp (pe_or h t) fun σ H Q ⟨μ, ρ, S, hS, hE, h⟩ => (bnd hS hE h).mono fun v H1 ⟨μ1, S1, d, hS1, hE1, s1, rv, h1⟩ => by
    cases rv with
    | bl b => cases b with
      | true => exact ⟨true, rfl, Met.ok (RP := Rep X.K) h1 hS1 (.bl _)⟩
      | false => exact ⟨false, rfl, ⟨μ1, ρ, S1, hS1, hE1, h1⟩⟩
    | _ => exact h1.elim
theorem se_if (hc : ST X W c ta) (ha : SE X W a ra) (hb : SE X W b rb) : SE X W (.IfExp c a b pos) (eIf ta ra rb) :=
  PE.imp (pe_ifExp hc ha hb) fun σ H Q ⟨μ, ρ, S, hS, hE, h⟩ => (bnd (R1 := RBool) hS hE h).mono fun v H1 ⟨μ1, S1, d, hS1, hE1, s1, rv, h1⟩ => by
    cases (show v = d from rv)
    cases v with
    | true => exact ⟨μ1, ρ, S1, hS1, hE1, h1⟩
    | false => exact ⟨μ1, ρ, S1, hS1, hE1, h1⟩
theorem sa_nil : SA X W [] aNil := PA.imp pa_nil fun σ H Q ⟨μ, ρ, S, hS, hE, h⟩ => Met.ok (RP := Reps X.K) h hS .nil
theorem sa_cons (h : SE X W e ra) (t : SA X W es rs) (hs : starEach (e :: es) X.env = (false, eval e X.env) :: starEach es X.env := by rfl) : SA X W (e :: es) (aCons ra rs) :=
  PA.imp (pa_cons h t hs) fun σ H Q ⟨μ, ρ, S, hS, hE, h⟩ => (bnd hS hE h).mono fun v H1 ⟨μ1, S1, d, hS1, hE1, s1, rv, h1⟩ =>
    (bnd (R1 := Reps X.K) hS1 hE1 h1).mono fun vs H2 ⟨μ2, S2, ds, hS2, hE2, s2, rvs, h2⟩ => h2.ok hS2 ((rv.step s2).reps_cons rvs)
theorem se_tup {k} (h : SA X W es rs) : SE X W (.Tuple es k pos) (eTup rs) :=
  PE.imp (pe_tup h) fun σ H Q ⟨μ, ρ, S, hS, hE, h⟩ => (bnd (R1 := Reps X.K) hS hE h).mono fun vs H1 ⟨μ1, S1, ds, hS1, hE1, s1, rv, h1⟩ => by
    split at h1
    · rename_i hz
      exact ⟨by rw [rv.1]; exact hz, fun p n => h1.tup hS1 n rv⟩
    · exact h1.elim
theorem se_lst (h : SA X W es rs) : SE X W (.List es pos) (eLst rs) :=
  PE.imp (pe_lst h) fun σ H Q ⟨μ, ρ, S, hS, hE, h⟩ => (bnd (R1 := Reps X.K) hS hE h).mono fun vs H1 ⟨μ1, S1, ds, hS1, hE1, s1, rv, h1⟩ => by
    split at h1
    · rename_i hz
      exact ⟨by rw [rv.1]; exact hz, fun p n => h1.lst hS1 n rv⟩
    · exact h1.elim
/-- a built-in by its name -/
theorem se_callB {id : String} {x : Str} {p : Pos} {f : List Dv → Sto → Out Dv} {r : List V → Hp → VK → Prop} (hc : CallR X (.builtin id) r) (hf : OpL X.K f r) (hg : Gl X x) (hm : X.mg x = none) (hv : bootBuiltins x = some (.builtin id)) (ha : SA X W (e :: es) rs)
    (hn : x ≠ "__name__" := by decide) (hdb : (x == ("__debug__" : Str)) = false := by decide) (he : starEach (e :: es) X.env = (false, eval e X.env) :: starEach es X.env := by rfl) (hpl : (backTo pos (starEach es X.env)).any (·.1) = false := by rfl) : SE X W (.Call (.Name x p) (e :: es) [] pos) (eCall f rs) :=
  PE.imp (pe_callB hc hg hm hv ha hn hdb he hpl) fun σ H Q ⟨μ, ρ, S, hS, hE, h⟩ => (bnd (R1 := Reps X.K) hS hE h).mono fun vs H1 ⟨μ1, S1, ds, hS1, hE1, s1, rv, h1⟩ => hf _ _ μ1 H1 S1 vs ds Q hS1 rv h1
theorem se_callTy {T : String} {x : Str} {p : Pos} {f : List Dv → Sto → Out Dv} {r : List V → Hp → VK → Prop} (hc : CallR X (.type T) r) (hf : OpL X.K f r) (hg : Gl X x) (hm : X.mg x = none) (hv : bootBuiltins x = some (.type T)) (ha : SA X W (e :: es) rs)
    (hn : x ≠ "__name__" := by decide) (hdb : (x == ("__debug__" : Str)) = false := by decide) (he : starEach (e :: es) X.env = (false, eval e X.env) :: starEach es X.env := by rfl) (hpl : (backTo pos (starEach es X.env)).any (·.1) = false := by rfl) : SE X W (.Call (.Name x p) (e :: es) [] pos) (eCall f rs) :=
  PE.imp (pe_callTy hc hg hm hv ha hn hdb he hpl) fun σ H Q ⟨μ, ρ, S, hS, hE, h⟩ => (bnd (R1 := Reps X.K) hS hE h).mono fun vs H1 ⟨μ1, S1, ds, hS1, hE1, s1, rv, h1⟩ => hf _ _ μ1 H1 S1 vs ds Q hS1 rv h1
end
end PL

namespace PL
open PySem PySem.Spec PyProof.Rows L2

/-! ### numbers, texts, sequences: what the operators do -/
noncomputable instance (i j : Int) : Decidable (CMul i j) := Classical.propDecidable _
noncomputable instance (i j : Int) : Decidable (CPow i j) := Classical.propDecidable _
noncomputable instance (i j : Int) : Decidable (CShl i j) := Classical.propDecidable _
def newL (ds : List Dv) (S : Sto) : Out Dv := .ok (.ref S.length) (S ++ [.lst ds])
def addD (x y : Dv) (S : Sto) : Out Dv := match x, y with
  | .int i, .int j => .ok (.int (i + j)) S
  | .str a, .str b => if a.length + b.length ≤ sizeLine then .ok (.str (a ++ b)) S else .no
  | .tup a, .tup b => if a.length + b.length ≤ sizeLine then .ok (.tup (a ++ b)) S else .no
  | .ref l, .ref m => match S[l]?, S[m]? with
    | some (.lst a), some (.lst b) => if a.length + b.length ≤ sizeLine then newL (a ++ b) S else .no
    | _, _ => .no
  | _, _ => .no
def subD (x y : Dv) (S : Sto) : Out Dv := match x, y with
  | .int i, .int j => .ok (.int (i - j)) S
  | _, _ => .no
noncomputable def mulD (x y : Dv) (S : Sto) : Out Dv := match x, y with
  | .int i, .int j => if CMul i j then .ok (.int (i * j)) S else .no
  | .ref l, .int k => match S[l]? with
    | some (.lst a) => @ite _ (-(2 ^ 63) ≤ k ∧ k < 2 ^ 63 ∧ a.length * k.toNat ≤ sizeLine) (Classical.propDecidable _) (newL (List.replicate k.toNat a).flatten S) .no
    | _ => .no
  | _, _ => .no
def fdivD (x y : Dv) (S : Sto) : Out Dv := match x, y with
  | .int i, .int j => if 0 < j ∧ j.natAbs.log2 < 9000 then .ok (.int (i / j)) S else .no
  | _, _ => .no
def modD (x y : Dv) (S : Sto) : Out Dv := match x, y with
  | .int i, .int j => if 0 < j then .ok (.int (i % j)) S else .no
  | _, _ => .no
noncomputable def powD (x y : Dv) (S : Sto) : Out Dv := match x, y with
  | .int i, .int j => if CPow i j then .ok (.int (i ^ j.toNat)) S else .no
  | _, _ => .no
noncomputable def shlD (x y : Dv) (S : Sto) : Out Dv := match x, y with
  | .int i, .int j => if CShl i j then .ok (.int (i * 2 ^ j.toNat)) S else .no
  | _, _ => .no
def shrD (x y : Dv) (S : Sto) : Out Dv := match x, y with
  | .int i, .int j => if 0 ≤ j then .ok (.int (i / 2 ^ j.toNat)) S else .no
  | _, _ => .no
def andD (x y : Dv) (S : Sto) : Out Dv := match x, y with
  | .int i, .int j => .ok (.int (Builtin.bitAnd i j)) S
  | _, _ => .no
def orD (x y : Dv) (S : Sto) : Out Dv := match x, y with
  | .int i, .int j => .ok (.int (Builtin.bitOr i j)) S
  | _, _ => .no
def xorD (x y : Dv) (S : Sto) : Out Dv := match x, y with
  | .int i, .int j => .ok (.int (Builtin.bitXor i j)) S
  | _, _ => .no
def ltD (x y : Dv) (S : Sto) : Out Dv := match x, y with
  | .int i, .int j => .ok (.bl (decide (i < j))) S
  | .str a, .str b => .ok (.bl (decide (a.cps.toList < b.cps.toList))) S
  | _, _ => .no
def leD (x y : Dv) (S : Sto) : Out Dv := match x, y with
  | .int i, .int j => .ok (.bl (decide (i ≤ j))) S
  | _, _ => .no
def gtD (x y : Dv) (S : Sto) : Out Dv := match x, y with
  | .int i, .int j => .ok (.bl (decide (j < i))) S
  | _, _ => .no
def geD (x y : Dv) (S : Sto) : Out Dv := match x, y with
  | .int i, .int j => .ok (.bl (decide (j ≤ i))) S
  | _, _ => .no
def isN (d : Dv) : Bool := match d with
  | .non => true
  | _ => false
def isD (x y : Dv) (S : Sto) : Out Dv := match y with
  | .non => .ok (.bl (isN x)) S
  | _ => .no
def isNotD (x y : Dv) (S : Sto) : Out Dv := match y with
  | .non => .ok (.bl (!isN x)) S
  | _ => .no
def negD (x : Dv) (S : Sto) : Out Dv := match x with
  | .int i => .ok (.int (-i)) S
  | _ => .no

section
variable {X : Cx} {K : PySem.W.Frag}
theorem op2I {C : Int → Int → Prop} [∀ i j, Decidable (C i j)] {g : Int → Int → V} {k : Int → Int → Dv} {f : Dv → Dv → Sto → Out Dv} (hf : ∀ x y S, f x y S = match x, y with | .int i, .int j => (if C i j then .ok (k i j) S else .no) | _, _ => .no)
    (hk : ∀ μ H i j, Rep K μ H (g i j) (k i j)) : Op2 K f (rI C g) := by
  intro mg Wx μ H S x y d e Q hS rx ry h
  rw [hf] at h
  cases rx <;> cases ry <;> first | exact h.elim | skip
  dsimp only at h
  split at h
  · rename_i hc; exact ⟨_, _, rfl, rfl, hc, h.ok hS (hk ..)⟩
  · exact h.elim
theorem op2I0 {g : Int → Int → V} {k : Int → Int → Dv} {f : Dv → Dv → Sto → Out Dv} (hf : ∀ x y S, f x y S = match x, y with | .int i, .int j => .ok (k i j) S | _, _ => .no)
    (hk : ∀ μ H i j, Rep K μ H (g i j) (k i j)) : Op2 K f (rI0 g) := by
  intro mg Wx μ H S x y d e Q hS rx ry h
  rw [hf] at h
  cases rx <;> cases ry <;> first | exact h.elim | exact ⟨_, _, rfl, rfl, h.ok hS (hk ..)⟩
theorem o_sub : Op2 K subD (rI0 fun i j => .int (i - j)) := op2I0 (fun x y S => rfl) fun _ _ _ _ => .int _
theorem o_and : Op2 K andD (rI0 fun i j => .int (Builtin.bitAnd i j)) := op2I0 (fun x y S => rfl) fun _ _ _ _ => .int _
theorem o_or : Op2 K orD (rI0 fun i j => .int (Builtin.bitOr i j)) := op2I0 (fun x y S => rfl) fun _ _ _ _ => .int _
theorem o_xor : Op2 K xorD (rI0 fun i j => .int (Builtin.bitXor i j)) := op2I0 (fun x y S => rfl) fun _ _ _ _ => .int _
theorem o_le : Op2 K leD (rI0 fun i j => .bl (decide (i ≤ j))) := op2I0 (fun x y S => rfl) fun _ _ _ _ => .bl _
theorem o_gt : Op2 K gtD (rI0 fun i j => .bl (decide (j < i))) := op2I0 (fun x y S => rfl) fun _ _ _ _ => .bl _
theorem o_ge : Op2 K geD (rI0 fun i j => .bl (decide (j ≤ i))) := op2I0 (fun x y S => rfl) fun _ _ _ _ => .bl _
theorem o_fdiv : Op2 K fdivD (rI CDivW fun i j => .int (i / j)) := op2I (C := fun _ j => 0 < j ∧ j.natAbs.log2 < 9000) (fun x y S => rfl) fun _ _ _ _ => .int _
theorem o_mod : Op2 K modD (rI (fun _ j => 0 < j) fun i j => .int (i % j)) := op2I (fun x y S => rfl) fun _ _ _ _ => .int _
theorem o_pow : Op2 K powD (rI CPow fun i j => .int (i ^ j.toNat)) := op2I (fun x y S => rfl) fun _ _ _ _ => .int _
theorem o_shl : Op2 K shlD (rI CShl fun i j => .int (i * 2 ^ j.toNat)) := op2I (fun x y S => rfl) fun _ _ _ _ => .int _
theorem o_shr : Op2 K shrD (rI (fun _ j => 0 ≤ j) fun i j => .int (i / 2 ^ j.toNat)) := op2I (C := fun _ j => 0 ≤ j) (fun x y S => rfl) fun _ _ _ _ => .int _
abbrev rAddS : R2 := fun x y H Q => ∃ i j, x = .str i ∧ y = .str j ∧ i.length + j.length ≤ sizeLine ∧ Q (.str (i ++ j)) H
abbrev rAddAll (K : PySem.W.Frag) : R2 := fun x y H Q => rI0 (fun i j => .int (i + j)) x y H Q ∨ (rAddS x y H Q ∨ (rCatA K x y H Q ∨ rCat x y H Q))
theorem op_addAll : OpR X (binaryOp .Add) (rAddAll X.K) := OpR.or op_add (OpR.or op_add_str (OpR.or op_catA op_cat))
theorem o_add : Op2 K addD (rAddAll K) := by
  intro mg Wx μ H S x y d e Q hS rx ry h
  cases rx with
  | int i => cases ry <;> first | exact h.elim | exact .inl ⟨_, _, rfl, rfl, h.ok hS (.int _)⟩
  | str a =>
    cases ry <;> first | exact h.elim | skip
    rename_i b
    unfold addD at h; dsimp only at h
    split at h
    · rename_i hz; exact .inr (.inl ⟨_, _, rfl, rfl, hz, h.ok hS (.str _)⟩)
    · exact h.elim
  | @tup a vs ds h1 l1 q1 =>
    cases ry <;> first | exact h.elim | skip
    rename_i b ws es h2 l2 q2
    unfold addD at h; dsimp only at h
    split at h
    · rename_i hz
      have r := Reps.append ⟨l1, q1⟩ ⟨l2, q2⟩
      refine .inr (.inr (.inl ⟨_, _, _, _, rfl, rfl, .of h1.1, .of h2.1, by rw [l1, l2]; exact hz, fun e => ?_, fun _ e => ?_, fun _ _ p n => h.tup hS n r⟩))
      · subst e
        have e2 : ds = [] := List.eq_nil_of_length_eq_zero l1.symm
        subst e2
        exact h.ok hS (.tup h2 l2 q2)
      · subst e
        have e2 : es = [] := List.eq_nil_of_length_eq_zero l2.symm
        subst e2
        rw [List.append_nil] at h
        exact h.ok hS (.tup h1 l1 q1)
    · exact h.elim
  | @ref l a h1 =>
    cases ry <;> first | exact h.elim | skip
    rename_i m b h2
    unfold addD at h; dsimp only at h
    split at h
    · rename_i as bs e1 e2
      split at h
      · rename_i hz
        obtain ⟨vs, g1, r1⟩ := hS.at' e1 h1
        obtain ⟨ws, g2, r2⟩ := hS.at' e2 h2
        exact .inr (.inr (.inr ⟨_, _, _, _, rfl, rfl, g1, g2, by rw [r1.1, r2.1]; exact hz, fun p n => h.lst hS n (r1.append r2)⟩))
      · exact h.elim
    · exact h.elim
  | _ => cases ry <;> exact h.elim
abbrev rMulAll : R2 := fun x y H Q => rI CMul (fun i j => .int (i * j)) x y H Q ∨ rRep x y H Q
theorem op_mulAll : OpR X (binaryOp .Mult) rMulAll := OpR.or op_mul op_rep
theorem reps_rep {μ : List Addr} {H : Hp} {vs : List V} {ds : List Dv} (r : Reps K μ H vs ds) : ∀ n : Nat, Reps K μ H (List.replicate n vs).flatten (List.replicate n ds).flatten
  | 0 => .nil
  | n + 1 => by
    rw [List.replicate_succ, List.replicate_succ, List.flatten_cons, List.flatten_cons]
    exact r.append (reps_rep r n)
abbrev rLtAll : R2 := fun x y H Q => rI0 (fun i j => .bl (decide (i < j))) x y H Q ∨ (∃ i j, x = .str i ∧ y = .str j ∧ Q (.bl (decide (i.cps.toList < j.cps.toList))) H)
theorem op_ltAll : OpR X (compareOp .Lt) rLtAll := OpR.or op_lt op_lt_str
theorem o_lt : Op2 K ltD rLtAll := by
  intro mg Wx μ H S x y d e Q hS rx ry h
  cases rx <;> cases ry <;> first | exact h.elim | exact .inl ⟨_, _, rfl, rfl, h.ok hS (.bl _)⟩ | exact .inr ⟨_, _, rfl, rfl, h.ok hS (.bl _)⟩
theorem isN_of {μ : List Addr} {H : Hp} {v : V} {d : Dv} (r : Rep K μ H v d) : isN d = decide (v = .non) := by
  cases r <;> rfl
theorem o_is : Op2 K isD (fun x y H Q => y = .non ∧ Q (.bl (decide (x = .non))) H) := by
  intro mg Wx μ H S x y d e Q hS rx ry h
  cases ry <;> first | exact h.elim | skip
  exact ⟨rfl, Met.ok (RP := Rep K) h hS (by rw [isN_of rx]; exact .bl _)⟩
theorem o_isNot : Op2 K isNotD (fun x y H Q => y = .non ∧ Q (.bl (!decide (x = .non))) H) := by
  intro mg Wx μ H S x y d e Q hS rx ry h
  cases ry <;> first | exact h.elim | skip
  exact ⟨rfl, Met.ok (RP := Rep K) h hS (by rw [isN_of rx]; exact .bl _)⟩
end
end PL

namespace PL
open PySem PySem.Spec PyProof.Rows L2

section
variable {X : Cx} {K : PySem.W.Frag}
theorem o_mul : Op2 K mulD rMulAll := by
  intro mg Wx μ H S x y d e Q hS rx ry h
  cases rx with
  | int i =>
    cases ry <;> first | exact h.elim | skip
    unfold mulD at h; dsimp only at h
    split at h
    · rename_i hc; exact .inl ⟨_, _, rfl, rfl, hc, h.ok hS (.int _)⟩
    · exact h.elim
  | @ref l a h1 =>
    cases ry <;> first | exact h.elim | skip
    unfold mulD at h; dsimp only at h
    split at h
    · rename_i as e1
      split at h
      · rename_i hc
        obtain ⟨vs, g1, r1⟩ := hS.at' e1 h1
        exact .inr ⟨_, _, _, rfl, rfl, g1, hc.1, hc.2.1, by rw [r1.1]; exact hc.2.2, fun p n => h.lst hS n (reps_rep r1 _)⟩
      · exact h.elim
    · exact h.elim
  | _ => cases ry <;> exact h.elim
end

/-! ### equality of data -/
mutual
def toP : Nat → Sto → Dv → Option PyData
  | 0, _, _ => none
  | _ + 1, _, .non => some .none
  | _ + 1, _, .bl b => some (.bool b)
  | _ + 1, _, .int i => some (.int i)
  | _ + 1, _, .str x => some (.str x)
  | n + 1, S, .tup ds => (toPs n S ds).map .tuple
  | n + 1, S, .kt ds => (toPs n S ds).map .tuple
  | n + 1, S, .fl ds => (toPs n S ds).map .list
  | n + 1, S, .ref l => match S[l]? with
    | some (.lst ds) => (toPs n S ds).map .list
    | _ => none
def toPs : Nat → Sto → List Dv → Option (List PyData)
  | _, _, [] => some []
  | n, S, d :: ds => match toP n S d, toPs n S ds with
    | some p, some ps => some (p :: ps)
    | _, _ => none
end
/-- == -/
def eqq (S : Sto) (x y : Dv) : Option Bool := match toP 40 S x, toP 40 S y with
  | some p, some q => if SeqAt.shaped p = true ∧ SeqAt.shaped q = true then some (PyData.eqv p q) else none
  | _, _ => none
def eqD (x y : Dv) (S : Sto) : Out Dv := match eqq S x y with
  | some b => .ok (.bl b) S
  | none => .no
def neD (x y : Dv) (S : Sto) : Out Dv := match eqq S x y with
  | some b => .ok (.bl (!b)) S
  | none => .no
section
variable {X : Cx} {K : PySem.W.Frag} {μ : List Addr} {H : Hp} {S : Sto}
mutual
theorem dp_of (hS : SimS K μ S H) : ∀ (n : Nat) (v : V) (d : Dv) (p : PyData), Rep K μ H v d → toP n S d = some p → Dp K H v p
  | 0, _, _, _, _, h => by simp [toP] at h
  | n + 1, v, .non, p, r, h => by cases r; simp [toP] at h; subst h; exact .non
  | n + 1, v, .bl b, p, r, h => by cases r; simp [toP] at h; subst h; exact .bl _
  | n + 1, v, .int b, p, r, h => by cases r; simp [toP] at h; subst h; exact .int _
  | n + 1, v, .str b, p, r, h => by cases r; simp [toP] at h; subst h; exact .str _
  | n + 1, v, .tup ds, p, r, h => by
    cases r with
    | tup h1 l1 q1 =>
      simp only [toP, Option.map_eq_some_iff] at h
      obtain ⟨ps, h, rfl⟩ := h
      exact .tup (.of h1.1) (dps_of hS n _ ds ps ⟨l1, q1⟩ h)
  | n + 1, v, .kt ds, p, r, h => by
    cases r with
    | kt h1 l1 q1 =>
      simp only [toP, Option.map_eq_some_iff] at h
      obtain ⟨ps, h, rfl⟩ := h
      exact .tup (.inr h1) (dps_of hS n _ ds ps ⟨l1, q1⟩ h)
  | n + 1, v, .fl ds, p, r, h => by
    obtain ⟨a, vs, e, hq, rr⟩ := r.sqL hS (ds := ds) rfl
    subst e
    simp only [toP, Option.map_eq_some_iff] at h
    obtain ⟨ps, h, rfl⟩ := h
    exact .lst hq (dps_of hS n _ ds ps rr h)
  | n + 1, v, .ref l, p, r, h => by
    simp only [toP] at h
    split at h
    · rename_i ds e
      obtain ⟨a, vs, e', hq, rr⟩ := r.sqL hS (ds := ds) (by simp [lstOf, e])
      subst e'
      simp only [Option.map_eq_some_iff] at h
      obtain ⟨ps, h, rfl⟩ := h
      exact .lst hq (dps_of hS n _ ds ps rr h)
    · cases h
theorem dps_of (hS : SimS K μ S H) : ∀ (n : Nat) (vs : List V) (ds : List Dv) (ps : List PyData), Reps K μ H vs ds → toPs n S ds = some ps → DpAll K H vs ps
  | n, vs, [], ps, r, h => by
    cases r.un0
    simp [toPs] at h; subst h; exact .nil
  | n, vs, d :: ds, ps, r, h => by
    obtain ⟨v, ws, rfl, r1, r2⟩ := r.uncons
    simp only [toPs] at h
    split at h
    · rename_i p qs e1 e2
      simp only [Option.some.injEq] at h; subst h
      exact .cons (dp_of hS n v d p r1 e1) (dps_of hS n ws ds qs r2 e2)
    · cases h
end
theorem eqq_some {x y : Dv} {b : Bool} (h : eqq S x y = some b) : ∃ p q, toP 40 S x = some p ∧ toP 40 S y = some q ∧ SeqAt.shaped p = true ∧ SeqAt.shaped q = true ∧ b = PyData.eqv p q := by
  unfold eqq at h
  split at h
  · rename_i p q e1 e2
    split at h
    · rename_i hc
      exact ⟨p, q, e1, e2, hc.1, hc.2, (Option.some.inj h).symm⟩
    · cases h
  · cases h
theorem o_eq : Op2 K eqD (rEqD K) := by
  intro mg Wx μ H S x y d e Q hS rx ry h
  unfold eqD at h
  split at h
  · rename_i b hb
    obtain ⟨p, q, e1, e2, s1, s2, rfl⟩ := eqq_some hb
    exact ⟨p, q, dp_of hS 40 _ _ _ rx e1, dp_of hS 40 _ _ _ ry e2, s1, s2, h.ok hS (.bl _)⟩
  · exact h.elim
theorem o_ne : Op2 K neD (rNeD K) := by
  intro mg Wx μ H S x y d e Q hS rx ry h
  unfold neD at h
  split at h
  · rename_i b hb
    obtain ⟨p, q, e1, e2, s1, s2, rfl⟩ := eqq_some hb
    exact ⟨p, q, dp_of hS 40 _ _ _ rx e1, dp_of hS 40 _ _ _ ry e2, s1, s2, h.ok hS (.bl _)⟩
  · exact h.elim
end

/-! ### keys -/
def keyOf : Dv → Option L2.Key
  | .int i => some (.inl i)
  | .str x => some (.inr x)
  | _ => none
def keysOf : List Dv → Option (List L2.Key)
  | [] => some []
  | d :: ds => match keyOf d, keysOf ds with
    | some k, some ks => some (k :: ks)
    | _, _ => none
def tkeyOf : Dv → Option (List L2.Key)
  | .tup ds => keysOf ds
  | _ => none
section
variable {κ : Type} [DecidableEq κ] {α : Type}
def gat : List (κ × α) → κ → Option α
  | [], _ => none
  | p :: r, k => if p.1 = k then some p.2 else gat r k
def gput (kvs : List (κ × α)) (k : κ) (v : α) : List (κ × α) :=
  if (kvs.any fun kv => decide (kv.1 = k)) = true then kvs.map (fun kv => if kv.1 = k then (kv.1, v) else kv) else kvs ++ [(k, v)]
end
section
variable {K : PySem.W.Frag} {μ : List Addr} {H : Hp} {S : Sto}
theorem keyOf_rep {v : V} {d : Dv} {k : L2.Key} (r : Rep K μ H v d) (h : keyOf d = some k) : v = kV k := by
  cases r <;> simp [keyOf] at h <;> (subst h; rfl)
theorem keysOf_rep : ∀ {vs : List V} {ds : List Dv} {ks : List L2.Key}, Reps K μ H vs ds → keysOf ds = some ks → vs = ks.map kV
  | vs, [], ks, r, h => by cases r.un0; simp [keysOf] at h; subst h; rfl
  | vs, d :: ds, ks, r, h => by
    obtain ⟨v, ws, rfl, r1, r2⟩ := r.uncons
    simp only [keysOf] at h
    split at h
    · rename_i k ks' e1 e2
      simp only [Option.some.injEq] at h; subst h
      rw [keyOf_rep r1 e1, keysOf_rep r2 e2]; rfl
    · cases h
theorem tkeyOf_rep {v : V} {d : Dv} {ks : List L2.Key} (r : Rep K μ H v d) (h : tkeyOf d = some ks) : ∃ b, v = .ref b ∧ H b = some (.tup (ks.map kV)) := by
  cases r with
  | tup h1 l q => exact ⟨_, rfl, by rw [h1.1, keysOf_rep ⟨l, q⟩ h]⟩
  | _ => simp [tkeyOf] at h
variable {κ : Type} [DecidableEq κ]
theorem gat_rep : ∀ {ws : List (κ × V)} {kvs : List (κ × Dv)} (k : κ), ws.map (·.1) = kvs.map (·.1) → Reps K μ H (ws.map (·.2)) (kvs.map (·.2)) →
    (gat kvs k = none ∧ valV ws k = none) ∨ ∃ d v, gat kvs k = some d ∧ valV ws k = some v ∧ Rep K μ H v d
  | [], [], k, _, _ => .inl ⟨rfl, rfl⟩
  | p :: ws, q :: kvs, k, h, r => by
    simp only [List.map_cons, List.cons.injEq] at h
    obtain ⟨v, vs, e, r1, r2⟩ := Reps.uncons r
    simp only [List.map_cons, List.cons.injEq] at e
    obtain ⟨rfl, rfl⟩ := e
    by_cases hk : q.1 = k
    · exact .inr ⟨q.2, p.2, by simp [gat, hk], valV_pos (h.1.trans hk), r1⟩
    · rcases gat_rep k h.2 r2 with ⟨e1, e2⟩ | ⟨d, v, e1, e2, e3⟩
      · exact .inl ⟨by simp [gat, hk, e1], by rw [valV_neg (by rw [h.1]; exact hk)]; exact e2⟩
      · exact .inr ⟨d, v, by simp [gat, hk, e1], by rw [valV_neg (by rw [h.1]; exact hk)]; exact e2, e3⟩
  | [], _ :: _, _, h, _ => by simp at h
  | _ :: _, [], _, h, _ => by simp at h
theorem any_keys {α β : Type} {k : κ} : ∀ {ws : List (κ × α)} {kvs : List (κ × β)}, ws.map (·.1) = kvs.map (·.1) → (ws.any fun kv => decide (kv.1 = k)) = kvs.any fun kv => decide (kv.1 = k)
  | [], [], _ => rfl
  | p :: ws, q :: kvs, h => by
    simp only [List.map_cons, List.cons.injEq] at h
    rw [List.any_cons, List.any_cons, any_keys h.2, h.1]
  | [], _ :: _, h => by simp at h
  | _ :: _, [], h => by simp at h
theorem repl_keys {α : Type} {k : κ} {v : α} (kvs : List (κ × α)) : (kvs.map fun kv => if kv.1 = k then (kv.1, v) else kv).map (·.1) = kvs.map (·.1) := by
  rw [List.map_map]
  refine List.map_congr_left fun p _ => ?_
  show (if p.1 = k then (p.1, v) else p).1 = p.1
  split <;> rfl
theorem repl_rep {k : κ} {v : V} {d : Dv} (rv : Rep K μ H v d) : ∀ {ws : List (κ × V)} {kvs : List (κ × Dv)}, ws.map (·.1) = kvs.map (·.1) → Reps K μ H (ws.map (·.2)) (kvs.map (·.2)) →
    Reps K μ H ((ws.map fun kv => if kv.1 = k then (kv.1, v) else kv).map (·.2)) ((kvs.map fun kv => if kv.1 = k then (kv.1, d) else kv).map (·.2))
  | [], [], _, _ => .nil
  | p :: ws, q :: kvs, h, r => by
    simp only [List.map_cons, List.cons.injEq] at h
    obtain ⟨u, us, e, r1, r2⟩ := Reps.uncons r
    simp only [List.map_cons, List.cons.injEq] at e
    obtain ⟨rfl, rfl⟩ := e
    simp only [List.map_cons]
    refine Reps.cons (repl_rep rv h.2 r2) ?_
    rw [h.1]
    split
    · exact rv
    · exact r1
  | [], _ :: _, h, _ => by simp at h
  | _ :: _, [], h, _ => by simp at h
theorem gput_rep {ws : List (κ × V)} {kvs : List (κ × Dv)} {k : κ} {v : V} {d : Dv} (h : ws.map (·.1) = kvs.map (·.1)) (r : Reps K μ H (ws.map (·.2)) (kvs.map (·.2))) (rv : Rep K μ H v d) :
    (putK ws k v).map (·.1) = (gput kvs k d).map (·.1) ∧ Reps K μ H ((putK ws k v).map (·.2)) ((gput kvs k d).map (·.2)) := by
  unfold putK gput
  rw [any_keys h]
  split
  · exact ⟨by rw [repl_keys, repl_keys, h], repl_rep rv h r⟩
  · exact ⟨by rw [List.map_append, List.map_append, h]; rfl, by rw [List.map_append, List.map_append]; exact r.append (.one rv)⟩
/-- what a dict tells of a key -/
def dget (S : Sto) (o k : Dv) : Option (Option Dv) := match o with
  | .ref l => match S[l]? with
    | some (.dk kvs) => (keyOf k).map (gat kvs)
    | some (.dt kvs) => (tkeyOf k).map (gat kvs)
    | _ => none
  | _ => none
theorem dget_rep {x y : V} {o k : Dv} {r : Option Dv} (hS : SimS K μ S H) (rx : Rep K μ H x o) (ry : Rep K μ H y k) (h : dget S o k = some r) :
    ∃ a u, x = .ref a ∧ DGet H a y u ∧ ((r = none ∧ u = none) ∨ ∃ d v, r = some d ∧ u = some v ∧ Rep K μ H v d) := by
  cases rx with
  | @ref l a hl =>
    simp only [dget] at h
    split at h
    · rename_i kvs e
      obtain ⟨ws, e1, e2, e3⟩ := hS.at' e hl
      simp only [Option.map_eq_some_iff] at h
      obtain ⟨κ, hk, h⟩ := h
      refine ⟨a, valV ws κ, rfl, ?_, ?_⟩
      · rw [keyOf_rep ry hk]; exact .k e1
      · rcases gat_rep κ e2 e3 with ⟨g1, g2⟩ | ⟨d, v, g1, g2, g3⟩
        · exact .inl ⟨h.symm.trans g1, g2⟩
        · exact .inr ⟨d, v, h.symm.trans g1, g2, g3⟩
    · rename_i kvs e
      obtain ⟨ws, e1, e2, e3⟩ := hS.at' e hl
      simp only [Option.map_eq_some_iff] at h
      obtain ⟨κ, hk, h⟩ := h
      obtain ⟨b, rfl, eb⟩ := tkeyOf_rep ry hk
      refine ⟨a, valV ws κ, rfl, .t e1 eb, ?_⟩
      rcases gat_rep κ e2 e3 with ⟨g1, g2⟩ | ⟨d, v, g1, g2, g3⟩
      · exact .inl ⟨h.symm.trans g1, g2⟩
      · exact .inr ⟨d, v, h.symm.trans g1, g2, g3⟩
    · cases h
  | _ => simp [dget] at h
/-- the store behind o[k] = d -/
def dput (S : Sto) (o k d : Dv) : Option Sto := match o with
  | .ref l => match S[l]? with
    | some (.dk kvs) => if kvs.length < sizeLine then (keyOf k).map fun κ => S.set l (.dk (gput kvs κ d)) else none
    | some (.dt kvs) => if kvs.length < sizeLine then (tkeyOf k).map fun κ => S.set l (.dt (gput kvs κ d)) else none
    | _ => none
  | _ => none
theorem dput_rep {x y v : V} {o k d : Dv} {S' : Sto} (hS : SimS K μ S H) (rx : Rep K μ H x o) (ry : Rep K μ H y k) (rv : Rep K μ H v d) (h : dput S o k d = some S') :
    ∃ a H', x = .ref a ∧ DPut H a y v H' ∧ SimS K μ S' H' ∧ Step μ H μ H' := by
  cases rx with
  | @ref l a hl =>
    simp only [dput] at h
    split at h
    · rename_i kvs e
      obtain ⟨ws, e1, e2, e3⟩ := hS.at' e hl
      split at h
      · rename_i hz
        simp only [Option.map_eq_some_iff] at h
        obtain ⟨κ, hk, rfl⟩ := h
        have hw : ws.length < sizeLine := by have := congrArg List.length e2; simp at this; omega
        refine ⟨a, _, rfl, ?_, hS.put hl (u := .dK (putK ws κ v)) ⟨_, upd_same, ?_⟩, step_put hS hl _⟩
        · rw [keyOf_rep ry hk]; exact .k e1 hw
        · obtain ⟨g1, g2⟩ := gput_rep (k := κ) e2 e3 rv
          exact ⟨g1, g2.step (step_put hS hl _)⟩
      · cases h
    · rename_i kvs e
      obtain ⟨ws, e1, e2, e3⟩ := hS.at' e hl
      split at h
      · rename_i hz
        simp only [Option.map_eq_some_iff] at h
        obtain ⟨κ, hk, rfl⟩ := h
        obtain ⟨b, rfl, eb⟩ := tkeyOf_rep ry hk
        have hw : ws.length < sizeLine := by have := congrArg List.length e2; simp at this; omega
        refine ⟨a, _, rfl, .t e1 eb hw, hS.put hl (u := .dT (putK ws κ v)) ⟨_, upd_same, ?_⟩, step_put hS hl _⟩
        obtain ⟨g1, g2⟩ := gput_rep (k := κ) e2 e3 rv
        exact ⟨g1, g2.step (step_put hS hl _)⟩
      · cases h
    · cases h
  | _ => simp [dput] at h
end

/-! ### subscripts -/
def idxD (o i : Dv) (S : Sto) : Out Dv := match i with
  | .int k => match o with
    | .str x => if x.length ≤ sizeLine then (match atI x.cps.toList k with | some c => .ok (.str ⟨#[c]⟩) S | none => .no) else .no
    | _ => match tupOf o with
      | some ds => (match atI ds k with | some d => .ok d S | none => .no)
      | none => match lstOf S o with
        | some ds => (match atI ds k with | some d => .ok d S | none => .no)
        | none => match dget S o i with
          | some (some d) => .ok d S
          | _ => .no
  | _ => match dget S o i with
    | some (some d) => .ok d S
    | _ => .no
abbrev rIxD : R2 := fun x y H Q => ∃ a v, x = .ref a ∧ DGet H a y (some v) ∧ Q v H
theorem ix_dict {X : Cx} (hu : X.A.units + 1 < cLine) : IxR X rIxD := by
  intro value slice pins s σ H x y v u Q I rx ry h hs
  obtain ⟨a, w, rfl, g, q⟩ := h
  cases rx
  exact tail_any (ops := [.ref a, u]) (dict_typeIs I g) PySem.F.slot_dict_getitem.lookup (d_getItem hu I g ry fun w' s3 I3 rw' => ⟨w, H, I3, rw', q⟩) hs
abbrev rIxAll (K : PySem.W.Frag) : R2 := fun x y H Q => rIx K x y H Q ∨ rIxD x y H Q
section
variable {X : Cx} {K : PySem.W.Frag} {W : WX} {a b : Expr} {ra rb : RE} {pos : Pos}
theorem atI_rep {μ : List Addr} {H : Hp} {vs : List V} {ds : List Dv} {k : Int} {d : Dv} (r : Reps K μ H vs ds) (h : atI ds k = some d) : ∃ v, atI vs k = some v ∧ Rep K μ H v d := by
  unfold atI at h ⊢
  rw [r.1]
  obtain ⟨j, e, h⟩ := Option.bind_eq_some_iff.mp h
  obtain ⟨v, e1, rv⟩ := r.get h
  exact ⟨v, by rw [e]; exact e1, rv⟩
theorem o_idx : Op2 K idxD (rIxAll K) := by
  intro mg Wx μ H S x y o i Q hS rx ry h
  have dict : ∀ (h : Met (Rep K) K mg Wx μ H (match dget S o i with | some (some d) => .ok d S | _ => .no) Q), rIxAll K x y H Q := fun h => by
    split at h
    · rename_i d e
      obtain ⟨a, u, ex, g, hh⟩ := dget_rep hS rx ry e
      rcases hh with ⟨z, _⟩ | ⟨d', v, e1, e2, r⟩
      · cases z
      · cases e1; subst e2
        exact .inr ⟨a, v, ex, g, h.ok hS r⟩
    · exact h.elim
  unfold idxD at h
  split at h
  · rename_i k
    cases ry
    split at h
    · rename_i z
      cases rx
      split at h
      · rename_i hz
        split at h
        · rename_i c e
          exact .inl (.inr (.inr ⟨_, _, c, rfl, rfl, hz, e, h.ok hS (.str _)⟩))
        · exact h.elim
      · exact h.elim
    · split at h
      · rename_i ds e
        obtain ⟨a, vs, rfl, hq, r⟩ := rx.sqT e
        split at h
        · rename_i d e2
          obtain ⟨v, e3, rv⟩ := atI_rep r e2
          exact .inl (.inr (.inl ⟨_, _, _, v, rfl, rfl, hq, e3, h.ok hS rv⟩))
        · exact h.elim
      · split at h
        · rename_i ds e
          obtain ⟨a, vs, rfl, hq, r⟩ := rx.sqL hS e
          split at h
          · rename_i d e2
            obtain ⟨v, e3, rv⟩ := atI_rep r e2
            exact .inl (.inl ⟨_, _, _, v, rfl, rfl, hq, e3, h.ok hS rv⟩)
          · exact h.elim
        · exact dict h
  · exact dict h
theorem se_ix (hu : X.A.units + 1 < cLine) (ha : SE X W a ra) (hb : SE X W b rb) (hs : PlainIx b := by exact fun _ _ => rfl) : SE X W (.Subscript a b pos) (eBin idxD ra rb) :=
  PE.imp (pe_ix (IxR.or ix_seq (ix_dict hu)) ha hb hs) fun _ _ _ h => bnd2 o_idx h
/-! ### slices -/
abbrev RO := Env → Sto → Out (Option Int)
def oNone : RO := fun _ S => .ok none S
def oSome (r : RE) : RO := fun ρ S => (r ρ S).bind fun d S1 => match d with
  | .int i => .ok (some i) S1
  | _ => .no
def cutD {α : Type} (ds : List α) (lo hi : Option Int) : List α := (ds.drop (HT.sIx ds.length 0 lo)).take (HT.sIx ds.length ds.length hi - HT.sIx ds.length 0 lo)
def sliD (o : Dv) (lo hi : Option Int) (S : Sto) : Out Dv := match o with
  | .str x => if x.length ≤ sizeLine then .ok (.str (cutS x lo hi)) S else .no
  | .tup ds => .ok (.tup (cutD ds lo hi)) S
  | _ => match lstOf S o with
    | some ds => newL (cutD ds lo hi) S
    | none => .no
def eSli (o : RE) (l h : RO) : RE := fun ρ S => (o ρ S).bind fun d S1 => (l ρ S1).bind fun lo S2 => (h ρ S2).bind fun hi S3 => sliD d lo hi S3
def RInt (μ : List Addr) (H : Hp) (b b' : Option Int) : Prop := b = b'
structure SO (X : Cx) (W : WX) (e : Option Expr) (r : RO) : Prop where
  po : PO X e (tG RInt X.K X.mg W r)
theorem so_none : SO X W none oNone := ⟨⟨fun pins s σ H Q I ⟨μ, ρ, S, hS, hE, h⟩ => po_none.run pins s σ H Q I (Met.ok (RP := RInt) h hS rfl)⟩⟩
theorem so_some {e : Expr} (h : SE X W e ra) : SO X W (some e) (oSome ra) := ⟨⟨fun pins s σ H Q I ⟨μ, ρ, S, hS, hE, hm⟩ => (po_some h).run pins s σ H Q I <|
  (bnd hS hE hm).mono fun v H1 ⟨μ1, S1, d, hS1, hE1, s1, rv, h1⟩ => by
    cases rv <;> first | exact h1.elim | exact ⟨_, rfl, Met.ok (RP := RInt) h1 hS1 rfl⟩⟩⟩
theorem cut_rep {μ : List Addr} {H : Hp} {vs : List V} {ds : List Dv} (r : Reps K μ H vs ds) (lo hi : Option Int) : Reps K μ H (cutV vs lo hi) (cutD ds lo hi) := by
  unfold cutV cutD
  rw [r.1]
  exact (r.drop _).take _
theorem cut_whole {α : Type} {ds : List α} {lo hi : Option Int} (h : HT.sIx ds.length 0 lo = 0 ∧ HT.sIx ds.length ds.length hi = ds.length) : cutD ds lo hi = ds := by
  unfold cutD
  rw [h.1, h.2]
  simp
theorem se_sli {lo hi : Option Expr} {rl rh : RO} {p2 : Pos} (ha : SE X W a ra) (hl : SO X W lo rl) (hh : SO X W hi rh) : SE X W (.Subscript a (.Slice lo hi none p2) pos) (eSli ra rl rh) :=
  PE.imp (pe_slice (SlR.or sl_str (SlR.or sl_tupA sl_list)) ha hl.po hh.po) fun σ H Q ⟨μ, ρ, S, hS, hE, h⟩ => (bnd hS hE h).mono fun v H1 ⟨μ1, S1, d, hS1, hE1, s1, rv, h1⟩ =>
    (bnd (R1 := RInt) hS1 hE1 h1).mono fun l H2 ⟨μ2, S2, l', hS2, hE2, s2, rl, h2⟩ => (bnd (R1 := RInt) hS2 hE2 h2).mono fun u H3 ⟨μ3, S3, u', hS3, hE3, s3, ru, h3⟩ => by
      cases (show l = l' from rl)
      cases (show u = u' from ru)
      have rv3 := (rv.step s2).step s3
      unfold sliD at h3
      split at h3
      · cases rv3
        split at h3
        · rename_i hz; exact .inl ⟨_, rfl, hz, h3.ok hS3 (.str _)⟩
        · exact h3.elim
      · cases rv3 with
        | tup t1 t2 t3 =>
          have r : Reps X.K μ3 H3 _ _ := ⟨t2, t3⟩
          refine .inr (.inl ⟨_, _, rfl, .of t1.1, fun w => ?_, fun _ p n => h3.tup hS3 n (cut_rep r _ _)⟩)
          rw [t2] at w
          rw [cut_whole w] at h3
          exact h3.ok hS3 (.tup t1 t2 t3)
      · split at h3
        · rename_i ds e
          obtain ⟨a, vs, rfl, hq, r⟩ := rv3.sqL hS3 e
          exact .inr (.inr ⟨a, vs, rfl, hq, fun p n => h3.lst hS3 n (cut_rep r _ _)⟩)
        · exact h3.elim
end
end PL

namespace PL
open PySem PySem.Spec PyProof.Rows L2

/-! ### built-ins -/
def kD : L2.Key → Dv
  | .inl i => .int i
  | .inr x => .str x
def intsOf : List Dv → Option (List Int)
  | [] => some []
  | .int i :: r => (intsOf r).map (i :: ·)
  | _ => none
def blsOf : List Dv → Option (List Bool)
  | [] => some []
  | .bl i :: r => (blsOf r).map (i :: ·)
  | _ => none
def strsOf : List Dv → Option (List Str)
  | [] => some []
  | .str i :: r => (strsOf r).map (i :: ·)
  | _ => none
def seqOf (S : Sto) (d : Dv) : Option (List Dv) := match tupOf d with
  | some ds => some ds
  | none => lstOf S d
def lenD (ds : List Dv) (S : Sto) : Out Dv := match ds with
  | [.str x] => if x.length ≤ sizeLine then .ok (.int x.length) S else .no
  | [d] => match seqOf S d with
    | some xs => .ok (.int xs.length) S
    | none => match d with
      | .ref l => match S[l]? with
        | some (.dk kvs) => .ok (.int kvs.length) S
        | some (.dt kvs) => .ok (.int kvs.length) S
        | _ => .no
      | _ => .no
  | _ => .no
def listD (ds : List Dv) (S : Sto) : Out Dv := match ds with
  | [d] => match seqOf S d with
    | some xs => newL xs S
    | none => match d with
      | .ref l => match S[l]? with
        | some (.dk kvs) => newL (kvs.map fun kv => kD kv.1) S
        | _ => .no
      | _ => .no
  | _ => .no
def tupleD (ds : List Dv) (S : Sto) : Out Dv := match ds with
  | [.tup xs] => .ok (.tup xs) S
  | [.kt xs] => .ok (.kt xs) S
  | [d] => match lstOf S d with
    | some xs => .ok (.tup xs) S
    | none => .no
  | _ => .no
def intD (ds : List Dv) (S : Sto) : Out Dv := match ds with
  | [.int i] => .ok (.int i) S
  | [.bl b] => .ok (.int (if b then 1 else 0)) S
  | [.str x] => match PySem.intText? x with
    | some n => if x.length ≤ 640 then .ok (.int n) S else .no
    | none => .no
  | _ => .no
def strD (ds : List Dv) (S : Sto) : Out Dv := match ds with
  | [.int i] => if i.natAbs.log2 < 1920 then .ok (.str (toString i)) S else .no
  | _ => .no
def absD (ds : List Dv) (S : Sto) : Out Dv := match ds with
  | [.int i] => .ok (.int (if i < 0 then -i else i)) S
  | _ => .no
def maxI : List Int → Option Int
  | [] => none
  | x :: r => some (r.foldl max x)
def minI : List Int → Option Int
  | [] => none
  | x :: r => some (r.foldl min x)
def max2D (ds : List Dv) (S : Sto) : Out Dv := match ds with
  | [.int i, .int j] => .ok (.int (max i j)) S
  | _ => .no
def min2D (ds : List Dv) (S : Sto) : Out Dv := match ds with
  | [.int i, .int j] => .ok (.int (min i j)) S
  | _ => .no
def maxD (ds : List Dv) (S : Sto) : Out Dv := match ds with
  | [d] => match (lstOf S d).bind intsOf with
    | some ns => match maxI ns with
      | some m => .ok (.int m) S
      | none => .no
    | none => .no
  | _ => .no
def minD (ds : List Dv) (S : Sto) : Out Dv := match ds with
  | [d] => match (lstOf S d).bind intsOf with
    | some ns => match minI ns with
      | some m => .ok (.int m) S
      | none => .no
    | none => .no
  | _ => .no
def sumD (ds : List Dv) (S : Sto) : Out Dv := match ds with
  | [d] => match (lstOf S d).bind intsOf with
    | some ns => .ok (.int ns.sum) S
    | none => .no
  | _ => .no
def anyD (ds : List Dv) (S : Sto) : Out Dv := match ds with
  | [d] => match (lstOf S d).bind blsOf with
    | some ns => .ok (.bl (ns.any id)) S
    | none => .no
  | _ => .no
section
variable {X : Cx} {K : PySem.W.Frag} {μ : List Addr} {H : Hp} {S : Sto}
theorem intsOf_rep : ∀ {vs : List V} {ds : List Dv} {ns : List Int}, Reps K μ H vs ds → intsOf ds = some ns → vs = ns.map V.int
  | vs, [], ks, r, h => by cases r.un0; simp [intsOf] at h; subst h; rfl
  | vs, d :: ds, ks, r, h => by
    obtain ⟨v, ws, rfl, r1, r2⟩ := r.uncons
    cases r1 <;> simp only [intsOf] at h <;> first | cases h | skip
    rw [Option.map_eq_some_iff] at h
    obtain ⟨ns, e, rfl⟩ := h
    rw [intsOf_rep r2 e]; rfl
theorem blsOf_rep : ∀ {vs : List V} {ds : List Dv} {ns : List Bool}, Reps K μ H vs ds → blsOf ds = some ns → vs = ns.map V.bl
  | vs, [], ks, r, h => by cases r.un0; simp [blsOf] at h; subst h; rfl
  | vs, d :: ds, ks, r, h => by
    obtain ⟨v, ws, rfl, r1, r2⟩ := r.uncons
    cases r1 <;> simp only [blsOf] at h <;> first | cases h | skip
    rw [Option.map_eq_some_iff] at h
    obtain ⟨ns, e, rfl⟩ := h
    rw [blsOf_rep r2 e]; rfl
theorem strsOf_rep : ∀ {vs : List V} {ds : List Dv} {ns : List Str}, Reps K μ H vs ds → strsOf ds = some ns → vs = ns.map V.str
  | vs, [], ks, r, h => by cases r.un0; simp [strsOf] at h; subst h; rfl
  | vs, d :: ds, ks, r, h => by
    obtain ⟨v, ws, rfl, r1, r2⟩ := r.uncons
    cases r1 <;> simp only [strsOf] at h <;> first | cases h | skip
    rw [Option.map_eq_some_iff] at h
    obtain ⟨ns, e, rfl⟩ := h
    rw [strsOf_rep r2 e]; rfl
theorem seq_rep {v : V} {d : Dv} {ds : List Dv} (hS : SimS K μ S H) (r : Rep K μ H v d) (e : seqOf S d = some ds) : ∃ a vs, v = .ref a ∧ (SqL K H a vs ∨ SqT K H a vs) ∧ Reps K μ H vs ds := by
  unfold seqOf at e
  split at e
  · rename_i xs e1
    cases e
    obtain ⟨a, vs, h1, h2, h3⟩ := r.sqT e1
    exact ⟨a, vs, h1, .inr h2, h3⟩
  · obtain ⟨a, vs, h1, h2, h3⟩ := r.sqL hS e
    exact ⟨a, vs, h1, .inl h2, h3⟩
theorem Reps.get1 {vs : List V} {d : Dv} (r : Reps K μ H vs [d]) : ∃ v, vs = [v] ∧ Rep K μ H v d := by
  obtain ⟨v, ws, rfl, r1, r2⟩ := r.uncons
  cases r2.un0
  exact ⟨v, rfl, r1⟩
theorem Reps.get2 {vs : List V} {d e : Dv} (r : Reps K μ H vs [d, e]) : ∃ v u, vs = [v, u] ∧ Rep K μ H v d ∧ Rep K μ H u e := by
  obtain ⟨v, ws, rfl, r1, r2⟩ := r.uncons
  obtain ⟨u, rfl, r3⟩ := r2.get1
  exact ⟨v, u, rfl, r1, r3⟩
theorem call_lenAll : CallR X (.builtin "len") (fun xs H Q => (∃ x n, xs = [x] ∧ LenV X.K x H n ∧ Q (.int n) H) ∨ ((∃ a kvs, xs = [V.ref a] ∧ H a = some (.dK kvs) ∧ Q (.int kvs.length) H) ∨ rLenT xs H Q)) := CallR.or call_len (CallR.or call_lenD call_len_dT)
theorem o_len : OpL K lenD (fun xs H Q => (∃ x n, xs = [x] ∧ LenV K x H n ∧ Q (.int n) H) ∨ ((∃ a kvs, xs = [V.ref a] ∧ H a = some (.dK kvs) ∧ Q (.int kvs.length) H) ∨ rLenT xs H Q)) := by
  intro mg Wx μ H S vs ds Q hS r h
  unfold lenD at h
  split at h
  · rename_i x
    obtain ⟨v, rfl, rv⟩ := r.get1
    cases rv
    split at h
    · rename_i hz; exact .inl ⟨_, _, rfl, ⟨hz, rfl⟩, h.ok hS (.int _)⟩
    · exact h.elim
  · rename_i d _
    obtain ⟨v, rfl, rv⟩ := r.get1
    split at h
    · rename_i xs e
      obtain ⟨a, vs, rfl, hq, rr⟩ := seq_rep hS rv e
      refine .inl ⟨_, vs.length, rfl, ?_, by rw [rr.1]; exact h.ok hS (.int _)⟩
      exact hq.imp (fun q => ⟨vs, q, rfl⟩) fun q => ⟨vs, q, rfl⟩
    · split at h
      · cases rv with
        | ref hl =>
          split at h
          · rename_i kvs e
            obtain ⟨ws, e1, e2, e3⟩ := hS.at' e hl
            have e4 : ws.length = kvs.length := by have := congrArg List.length e2; simpa using this
            exact .inr (.inl ⟨_, ws, rfl, e1, by rw [e4]; exact h.ok hS (.int _)⟩)
          · rename_i kvs e
            obtain ⟨ws, e1, e2, e3⟩ := hS.at' e hl
            have e4 : ws.length = kvs.length := by have := congrArg List.length e2; simpa using this
            exact .inr (.inr ⟨_, ws, rfl, e1, by rw [e4]; exact h.ok hS (.int _)⟩)
          · exact h.elim
      · exact h.elim
  · exact h.elim
abbrev rListAll (K : PySem.W.Frag) : List V → Hp → VK → Prop := fun xs H Q => (∃ p ys, xs = [.ref p] ∧ (SqL K H p ys ∨ SqT K H p ys) ∧ ∀ l, H l = none → Q (.ref l) (upd H l (.lst ys))) ∨ rListD xs H Q
theorem call_listAll (hc : X.calm = true) : CallR X (.type "list") (rListAll X.K) := CallR.or call_list_of (call_list_dK hc)
theorem rep_kV {μ : List Addr} {H : Hp} (k : L2.Key) : Rep K μ H (kV k) (kD k) := by
  cases k with
  | inl i => exact .int i
  | inr x => exact .str x
theorem reps_keys {μ : List Addr} {H : Hp} : ∀ {ws : List (L2.Key × V)} {kvs : List (L2.Key × Dv)}, ws.map (·.1) = kvs.map (·.1) → Reps K μ H (ws.map fun kv => kV kv.1) (kvs.map fun kv => kD kv.1)
  | [], [], _ => .nil
  | p :: ws, q :: kvs, h => by
    simp only [List.map_cons, List.cons.injEq] at h
    simp only [List.map_cons]
    rw [h.1]
    exact (reps_keys h.2).cons (rep_kV _)
  | [], _ :: _, h => by simp at h
  | _ :: _, [], h => by simp at h
theorem o_list : OpL K listD (rListAll K) := by
  intro mg Wx μ H S vs ds Q hS r h
  unfold listD at h
  split at h
  · rename_i d
    obtain ⟨v, rfl, rv⟩ := r.get1
    split at h
    · rename_i xs e
      obtain ⟨a, vs, rfl, hq, rr⟩ := seq_rep hS rv e
      exact .inl ⟨_, vs, rfl, hq, fun p n => h.lst hS n rr⟩
    · split at h
      · cases rv with
        | ref hl =>
          split at h
          · rename_i kvs e
            obtain ⟨ws, e1, e2, e3⟩ := hS.at' e hl
            exact .inr ⟨_, ws, rfl, e1, fun p n => h.lst hS n (reps_keys e2)⟩
          · exact h.elim
      · exact h.elim
  · exact h.elim
theorem o_tuple : OpL K tupleD (fun xs H Q => ∃ p ys, xs = [.ref p] ∧ ((SqL K H p ys ∧ ∀ l, H l = none → Q (.ref l) (upd H l (.tup ys))) ∨ (SqT K H p ys ∧ Q (.ref p) H))) := by
  intro mg Wx μ H S vs ds Q hS r h
  unfold tupleD at h
  split at h
  · obtain ⟨v, rfl, rv⟩ := r.get1
    cases rv with
    | tup t l q => exact ⟨_, _, rfl, .inr ⟨.of t.1, h.ok hS (.tup t l q)⟩⟩
  · obtain ⟨v, rfl, rv⟩ := r.get1
    cases rv with
    | kt t l q => exact ⟨_, _, rfl, .inr ⟨.inr t, h.ok hS (.kt t l q)⟩⟩
  · obtain ⟨v, rfl, rv⟩ := r.get1
    split at h
    · rename_i xs e
      obtain ⟨a, vs, rfl, hq, rr⟩ := rv.sqL hS e
      exact ⟨_, _, rfl, .inl ⟨hq, fun p n => h.tup hS n rr⟩⟩
    · exact h.elim
  · exact h.elim
abbrev rInt : List V → Hp → VK → Prop := fun xs H Q => ((∃ i, xs = [.int i] ∧ Q (.int i) H) ∨ ∃ k, xs = [.bl k] ∧ Q (.int (if k then 1 else 0)) H) ∨ (∃ a n, xs = [.str a] ∧ PySem.intText? a = some n ∧ a.length ≤ 640 ∧ Q (.int n) H)
theorem call_intAll : CallR X (.type "int") rInt := CallR.or call_int1 call_int_str
theorem o_int : OpL K intD rInt := by
  intro mg Wx μ H S vs ds Q hS r h
  unfold intD at h
  split at h
  · obtain ⟨v, rfl, rv⟩ := r.get1; cases rv; exact .inl (.inl ⟨_, rfl, h.ok hS (.int _)⟩)
  · obtain ⟨v, rfl, rv⟩ := r.get1; cases rv; exact .inl (.inr ⟨_, rfl, h.ok hS (.int _)⟩)
  · obtain ⟨v, rfl, rv⟩ := r.get1
    cases rv
    split at h
    · split at h
      · rename_i n e hz; exact .inr ⟨_, n, rfl, e, hz, h.ok hS (.int _)⟩
      · exact h.elim
    · exact h.elim
  · exact h.elim
theorem o_str : OpL K strD (fun xs H Q => ∃ i, xs = [.int i] ∧ i.natAbs.log2 < 1920 ∧ Q (.str (toString i)) H) := by
  intro mg Wx μ H S vs ds Q hS r h
  unfold strD at h
  split at h
  · obtain ⟨v, rfl, rv⟩ := r.get1
    cases rv
    split at h
    · rename_i hz; exact ⟨_, rfl, hz, h.ok hS (.str _)⟩
    · exact h.elim
  · exact h.elim
theorem o_abs : OpL K absD (fun xs H Q => ∃ i, xs = [.int i] ∧ Q (.int (if i < 0 then -i else i)) H) := by
  intro mg Wx μ H S vs ds Q hS r h
  unfold absD at h
  split at h
  · obtain ⟨v, rfl, rv⟩ := r.get1; cases rv; exact ⟨_, rfl, h.ok hS (.int _)⟩
  · exact h.elim
theorem o_max2 : OpL K max2D (fun xs H Q => ∃ i j, xs = [.int i, .int j] ∧ Q (.int (if j > i then j else i)) H) := by
  intro mg Wx μ H S vs ds Q hS r h
  unfold max2D at h
  split at h
  · rename_i i j
    obtain ⟨v, u, rfl, rv, ru⟩ := r.get2; cases rv; cases ru
    refine ⟨_, _, rfl, ?_⟩
    have e : max i j = if j > i then j else i := by split <;> omega
    rw [e] at h
    exact h.ok hS (.int _)
  · exact h.elim
theorem o_min2 : OpL K min2D (fun xs H Q => ∃ i j, xs = [.int i, .int j] ∧ Q (.int (if j < i then j else i)) H) := by
  intro mg Wx μ H S vs ds Q hS r h
  unfold min2D at h
  split at h
  · rename_i i j
    obtain ⟨v, u, rfl, rv, ru⟩ := r.get2; cases rv; cases ru
    refine ⟨_, _, rfl, ?_⟩
    have e : min i j = if j < i then j else i := by split <;> omega
    rw [e] at h
    exact h.ok hS (.int _)
  · exact h.elim
theorem foldmax_spec : ∀ (ns : List Int) (x : Int), (ns.foldl max x ∈ x :: ns) ∧ ∀ y ∈ x :: ns, y ≤ ns.foldl max x
  | [], x => by simp
  | y :: r, x => by
    obtain ⟨h1, h2⟩ := foldmax_spec r (max x y)
    have h3 := h2 (max x y) List.mem_cons_self
    rw [List.foldl_cons]
    refine ⟨?_, fun z hz => ?_⟩
    · rcases List.mem_cons.mp h1 with e | h1
      · rw [e]
        by_cases hxy : x ≤ y
        · rw [Int.max_eq_right hxy]; simp
        · rw [Int.max_eq_left (by omega)]; simp
      · exact List.mem_cons_of_mem _ (List.mem_cons_of_mem _ h1)
    · rcases List.mem_cons.mp hz with rfl | hz
      · omega
      · rcases List.mem_cons.mp hz with rfl | hz
        · omega
        · exact h2 z (List.mem_cons_of_mem _ hz)
theorem foldmin_spec : ∀ (ns : List Int) (x : Int), (ns.foldl min x ∈ x :: ns) ∧ ∀ y ∈ x :: ns, ns.foldl min x ≤ y
  | [], x => by simp
  | y :: r, x => by
    obtain ⟨h1, h2⟩ := foldmin_spec r (min x y)
    have h3 := h2 (min x y) List.mem_cons_self
    rw [List.foldl_cons]
    refine ⟨?_, fun z hz => ?_⟩
    · rcases List.mem_cons.mp h1 with e | h1
      · rw [e]
        by_cases hxy : x ≤ y
        · rw [Int.min_eq_left hxy]; simp
        · rw [Int.min_eq_right (by omega)]; simp
      · exact List.mem_cons_of_mem _ (List.mem_cons_of_mem _ h1)
    · rcases List.mem_cons.mp hz with rfl | hz
      · omega
      · rcases List.mem_cons.mp hz with rfl | hz
        · omega
        · exact h2 z (List.mem_cons_of_mem _ hz)
theorem maxI_spec (ns : List Int) (m : Int) (h : maxI ns = some m) : m ∈ ns ∧ ∀ y ∈ ns, y ≤ m := by
  cases ns with
  | nil => simp [maxI] at h
  | cons x r => simp only [maxI, Option.some.injEq] at h; subst h; exact foldmax_spec r x
theorem minI_spec (ns : List Int) (m : Int) (h : minI ns = some m) : m ∈ ns ∧ ∀ y ∈ ns, m ≤ y := by
  cases ns with
  | nil => simp [minI] at h
  | cons x r => simp only [minI, Option.some.injEq] at h; subst h; exact foldmin_spec r x
theorem o_max : OpL K maxD (rMax K) := by
  intro mg Wx μ H S vs ds Q hS r h
  unfold maxD at h
  split at h
  · obtain ⟨v, rfl, rv⟩ := r.get1
    split at h
    · rename_i ns e
      split at h
      · rename_i m em
        obtain ⟨es, e1, e2⟩ := Option.bind_eq_some_iff.mp e
        obtain ⟨a, us, rfl, hq, rr⟩ := rv.sqL hS e1
        cases intsOf_rep rr e2
        obtain ⟨h1, h2⟩ := maxI_spec ns m em
        refine ⟨a, ns, rfl, hq, List.length_pos_of_mem h1, fun m' hm' hle => ?_⟩
        have e3 : m = m' := Int.le_antisymm (hle _ h1) (h2 _ hm')
        subst e3
        exact h.ok hS (.int _)
      · exact h.elim
    · exact h.elim
  · exact h.elim
theorem o_min : OpL K minD (rMin K) := by
  intro mg Wx μ H S vs ds Q hS r h
  unfold minD at h
  split at h
  · obtain ⟨v, rfl, rv⟩ := r.get1
    split at h
    · rename_i ns e
      split at h
      · rename_i m em
        obtain ⟨es, e1, e2⟩ := Option.bind_eq_some_iff.mp e
        obtain ⟨a, us, rfl, hq, rr⟩ := rv.sqL hS e1
        cases intsOf_rep rr e2
        obtain ⟨h1, h2⟩ := minI_spec ns m em
        refine ⟨a, ns, rfl, hq, List.length_pos_of_mem h1, fun m' hm' hle => ?_⟩
        have e3 : m = m' := Int.le_antisymm (h2 _ hm') (hle _ h1)
        subst e3
        exact h.ok hS (.int _)
      · exact h.elim
    · exact h.elim
  · exact h.elim
theorem o_sum : OpL K sumD (rSum K) := by
  intro mg Wx μ H S vs ds Q hS r h
  unfold sumD at h
  split at h
  · obtain ⟨v, rfl, rv⟩ := r.get1
    split at h
    · rename_i ns e
      obtain ⟨es, e1, e2⟩ := Option.bind_eq_some_iff.mp e
      obtain ⟨a, us, rfl, hq, rr⟩ := rv.sqL hS e1
      cases intsOf_rep rr e2
      exact ⟨a, ns, rfl, hq, h.ok hS (.int _)⟩
    · exact h.elim
  · exact h.elim
theorem o_any : OpL K anyD (rAny K) := by
  intro mg Wx μ H S vs ds Q hS r h
  unfold anyD at h
  split at h
  · obtain ⟨v, rfl, rv⟩ := r.get1
    split at h
    · rename_i ns e
      obtain ⟨es, e1, e2⟩ := Option.bind_eq_some_iff.mp e
      obtain ⟨a, us, rfl, hq, rr⟩ := rv.sqL hS e1
      cases blsOf_rep rr e2
      exact ⟨a, ns, rfl, hq, h.ok hS (.bl _)⟩
    · exact h.elim
  · exact h.elim
end
end PL

namespace PL
open PySem PySem.Spec PyProof.Rows L2

/-! ### in -/
def flatD : Dv → Bool
  | .non => true
  | .bl _ => true
  | .int _ => true
  | .str _ => true
  | _ => false
def eqF : Dv → Dv → Bool
  | .non, .non => true
  | .bl a, .bl b => a == b
  | .bl a, .int b => (if a then 1 else 0) == b
  | .int a, .bl b => a == (if b then 1 else 0)
  | .int a, .int b => a == b
  | .str a, .str b => a == b
  | _, _ => false
def memq (S : Sto) (x y : Dv) : Option Bool := match y with
  | .str z => match x with
    | .str w => match w.cps.toList with
      | [c] => some (decide (c ∈ z.cps.toList))
      | _ => none
    | _ => none
  | _ => match tupOf y with
    | some ds => if flatD x = true ∧ ds.all flatD = true then some (ds.any fun d => eqF d x) else none
    | none => match lstOf S y with
      | some ds => match toP 40 S x, toPs 39 S ds with
        | some p, some qs => if SeqAt.shaped p = true ∧ SeqAt.shaped (.list qs) = true then some (qs.any fun z => PyData.eqv z p) else none
        | _, _ => none
      | none => match dget S y x with
        | some r => some r.isSome
        | none => none
def inD (x y : Dv) (S : Sto) : Out Dv := match memq S x y with
  | some b => .ok (.bl b) S
  | none => .no
def ninD (x y : Dv) (S : Sto) : Out Dv := match memq S x y with
  | some b => .ok (.bl (!b)) S
  | none => .no
abbrev rInAll (K : PySem.W.Frag) (g : Bool → Bool) : R2 := fun x y H Q =>
  (∃ (c : Nat) (z : Str), x = .str ⟨#[c]⟩ ∧ y = .str z ∧ Q (.bl (g (decide (c ∈ z.cps.toList)))) H) ∨
  ((∃ p xs, y = .ref p ∧ (SqL K H p xs ∨ SqT K H p xs) ∧ flatV x = true ∧ xs.all flatV = true ∧ Q (.bl (g (inV x xs))) H) ∨
  ((∃ d ds, Dp K H x d ∧ Dp K H y (.list ds) ∧ SeqAt.shaped d = true ∧ SeqAt.shaped (.list ds) = true ∧ Q (.bl (g (ds.any fun z => PyData.eqv z d))) H) ∨
  ∃ a o, y = .ref a ∧ DGet H a x o ∧ Q (.bl (g o.isSome)) H))
section
variable {X : Cx} {K : PySem.W.Frag} {μ : List Addr} {H : Hp} {S : Sto}
theorem op_inAll (hu : X.A.units + 65 < cLine) : OpR X (compareOp .In) (rInAll X.K id) :=
  OpR.or op_in_sign (OpR.or op_in_seq (OpR.or (op_inD hu) fun pins s σ H x y v u Q I rx ry ⟨a, o, ey, g, q⟩ => by
    subst ey
    obtain rfl : u = Value.ref a := ry
    exact d_in (by omega) I g rx fun s3 I3 => ⟨.bl o.isSome, H, I3, rfl, q⟩))
theorem op_ninAll (hu : X.A.units + 65 < cLine) : OpR X (compareOp .NotIn) (rInAll X.K not) :=
  OpR.or op_notIn_sign (OpR.or op_notIn_seq (OpR.or (op_notInD hu) fun pins s σ H x y v u Q I rx ry ⟨a, o, ey, g, q⟩ => by
    subst ey
    obtain rfl : u = Value.ref a := ry
    exact d_notIn (by omega) I g rx fun s3 I3 => ⟨.bl (!o.isSome), H, I3, rfl, q⟩))
theorem flat_rep {v : V} {d : Dv} (r : Rep K μ H v d) (f : flatD d = true) : flatV v = true := by
  cases r <;> first | rfl | simp [flatD] at f
theorem eqF_rep {v u : V} {d e : Dv} (r : Rep K μ H v d) (q : Rep K μ H u e) (f : flatD d = true) (g : flatD e = true) : eqV v u = eqF d e := by
  cases r <;> cases q <;> first | rfl | simp [flatD] at f | simp [flatD] at g
theorem anyF_rep {x : V} {d : Dv} (r : Rep K μ H x d) (f : flatD d = true) : ∀ {vs : List V} {ds : List Dv}, Reps K μ H vs ds → ds.all flatD = true → vs.all flatV = true ∧ inV x vs = ds.any fun e => eqF e d
  | vs, [], rr, _ => by cases rr.un0; exact ⟨rfl, rfl⟩
  | vs, e :: ds, rr, h => by
    obtain ⟨v, ws, rfl, r1, r2⟩ := rr.uncons
    rw [List.all_cons, Bool.and_eq_true] at h
    obtain ⟨h1, h2⟩ := anyF_rep r f r2 h.2
    refine ⟨by rw [List.all_cons, h1, flat_rep r1 h.1]; rfl, ?_⟩
    rw [List.any_cons, ← h2, ← eqF_rep r1 r h.1 f]
    rfl
theorem o_mem {g : Bool → Bool} {mg : Str → Option Value} {Wx : Value → Option Addr → Hp → Prop} {x y : V} {d e : Dv} {Q : VK} (hS : SimS K μ S H) (rx : Rep K μ H x d) (ry : Rep K μ H y e)
    (h : Met (Rep K) K mg Wx μ H (match memq S d e with | some b => .ok (.bl (g b)) S | none => .no) Q) : rInAll K g x y H Q := by
  split at h
  · rename_i b hb
    unfold memq at hb
    split at hb
    · cases ry
      split at hb
      · cases rx
        split at hb
        · rename_i w _ c e
          cases hb
          have ew : w = ⟨#[c]⟩ := by
            obtain ⟨w⟩ := w
            simp only [Str.mk.injEq]
            apply Array.toList_inj.mp
            rw [e]
          exact .inl ⟨c, _, by rw [ew], rfl, h.ok hS (.bl _)⟩
        · cases hb
      · cases hb
    · split at hb
      · rename_i ds e1
        split at hb
        · rename_i hf
          cases hb
          obtain ⟨a, vs, rfl, hq, rr⟩ := ry.sqT e1
          obtain ⟨h1, h2⟩ := anyF_rep rx hf.1 rr hf.2
          rw [← h2] at h
          exact .inr (.inl ⟨a, vs, rfl, .inr hq, flat_rep rx hf.1, h1, h.ok hS (.bl _)⟩)
        · cases hb
      · split at hb
        · rename_i ds e1
          split at hb
          · rename_i p qs e2 e3
            split at hb
            · rename_i hs
              cases hb
              obtain ⟨a, vs, rfl, hq, rr⟩ := ry.sqL hS e1
              exact .inr (.inr (.inl ⟨p, qs, dp_of hS 40 _ _ _ rx e2, .lst hq (dps_of hS 39 _ _ _ rr e3), hs.1, hs.2, h.ok hS (.bl _)⟩))
            · cases hb
          · cases hb
        · split at hb
          · rename_i r e1
            cases hb
            obtain ⟨a, u, ex, gg, hh⟩ := dget_rep hS ry rx e1
            refine .inr (.inr (.inr ⟨a, u, ex, gg, ?_⟩))
            rcases hh with ⟨rfl, rfl⟩ | ⟨d', v, rfl, rfl, _⟩ <;> exact h.ok hS (.bl _)
          · cases hb
  · exact h.elim
theorem o_in : Op2 K inD (rInAll K id) := fun mg Wx μ H S x y d e Q hS rx ry h => o_mem (g := id) hS rx ry h
theorem o_nin : Op2 K ninD (rInAll K not) := fun mg Wx μ H S x y d e Q hS rx ry h => o_mem (g := not) hS rx ry h
end

/-! ### isinstance -/
def tyN (S : Sto) : Dv → Option String
  | .non => some "NoneType"
  | .bl _ => some "bool"
  | .int _ => some "int"
  | .str _ => some "str"
  | .tup _ => some "tuple"
  | .kt _ => some "tuple"
  | .fl _ => some "list"
  | .ref l => match S[l]? with
    | some (.lst _) => some "list"
    | some (.dk _) => some "dict"
    | some (.dt _) => some "dict"
    | none => none
def isiB (a b : String) : Option Bool :=
  if a ∈ ["NoneType", "bool", "int", "str", "tuple", "list", "dict"] ∧ b ∈ ["bool", "int", "str", "tuple", "list", "dict"] then some (a == b || (a == "bool" && b == "int")) else none
theorem kit_all : ∀ a ∈ ["NoneType", "bool", "int", "str", "tuple", "list", "dict"], ∀ b ∈ ["bool", "int", "str", "tuple", "list", "dict"], kitB a b = some (a == b || (a == "bool" && b == "int")) := by decide +kernel
def isiD (T : String) (d : Dv) (S : Sto) : Out Dv := match (tyN S d).bind fun a => isiB a T with
  | some b => .ok (.bl b) S
  | none => .no
section
variable {X : Cx} {K : PySem.W.Frag} {W : WX} {e : Expr} {ra : RE} {pos p p2 : Pos}
theorem tyN_rep {μ : List Addr} {H : Hp} {S : Sto} {v : V} {d : Dv} {a : String} (hS : SimS K μ S H) (r : Rep K μ H v d) (h : tyN S d = some a) : TyX K H v (.type a) := by
  cases r with
  | non => cases h; exact .base .non
  | bl b => cases h; exact .base (.bl b)
  | int b => cases h; exact .base (.int b)
  | str b => cases h; exact .base (.str b)
  | tup t l q => cases h; exact .base (.tup t.1)
  | kt t l q => cases h; obtain ⟨o, its, n, e1, e2, _⟩ := t; exact .kTuple e1 e2
  | fl t l q =>
    cases h
    rcases t with ⟨⟨o, t⟩, _⟩ | ⟨o, its, n, e1, e2, _⟩
    · exact .base (.frz t)
    · exact .kList e1 e2
  | ref hl =>
    simp only [tyN] at h
    split at h
    · rename_i ds e; cases h; obtain ⟨ws, e1, _⟩ := hS.at' e hl; exact .base (.lst e1)
    · rename_i ds e; cases h; obtain ⟨ws, e1, _⟩ := hS.at' e hl; exact .base (.dK e1)
    · rename_i ds e; cases h; obtain ⟨ws, e1, _⟩ := hS.at' e hl; exact .base (.dT e1)
    · cases h
theorem se_isi {T : String} {t : Str} (hg : Gl X "isinstance") (hm : X.mg "isinstance" = none) (hgt : Gl X t) (hmt : X.mg t = none) (hbt : bootBuiltins t = some (.type T)) (he : SE X W e ra)
    (hn : t ≠ "__name__" := by decide) (hd : (t == ("__debug__" : Str)) = false := by decide)
    (hs1 : starEach [e, .Name t p2] X.env = (false, eval e X.env) :: starEach [.Name t p2] X.env := by rfl) (hs2 : starEach [.Name t p2] X.env = (false, eval (.Name t p2) X.env) :: starEach [] X.env := by rfl) (hpl : (backTo pos (starEach [.Name t p2] X.env)).any (·.1) = false := by rfl) :
    SE X W (.Call (.Name "isinstance" p) [e, .Name t p2] [] pos) (eUn (isiD T) ra) :=
  PE.imp (pe_callB call_isi hg hm (by decide +kernel) (pa_cons he (pa_cons (pe_bltn (v := .ty T) hgt hmt hbt rfl hn hd) pa_nil hs2) hs1) (by decide) (by decide) hs1 hpl) fun σ H Q ⟨μ, ρ, S, hS, hE, h⟩ =>
    (bnd hS hE h).mono fun v H1 ⟨μ1, S1, d, hS1, hE1, s1, rv, h1⟩ => by
      unfold isiD at h1
      split at h1
      · rename_i b hb
        obtain ⟨a, e1, e2⟩ := Option.bind_eq_some_iff.mp hb
        refine ⟨v, .ty T, .type a, .type T, b, rfl, .ty T, tyN_rep hS1 rv e1, kit_ty ?_, h1.ok hS1 (.bl _)⟩
        unfold isiB at e2
        split at e2
        · rename_i hm; rw [← e2]; exact kit_all a hm.1 T hm.2
        · cases e2
      · exact h1.elim
/-! ### chains, signs -/
def eChain (f g : Dv → Dv → Sto → Out Dv) (a b c : RE) : RE := fun ρ S => (a ρ S).bind fun x S1 => (b ρ S1).bind fun y S2 => (f x y S2).bind fun z S3 => match z with
  | .bl true => (c ρ S3).bind fun w S4 => g y w S4
  | .bl false => .ok (.bl false) S3
  | _ => .no
theorem bnd3 {rf rg : R2} {f g : Dv → Dv → Sto → Out Dv} {rb rc : RE} (hf : Op2 X.K f rf) (hg : Op2 X.K g rg) {σ : L2.St} {H : Hp} {Q : VK} (h : tG (Rep X.K) X.K X.mg W (eChain f g ra rb rc) σ H Q) :
    tChain rf rg (tG (Rep X.K) X.K X.mg W ra) (tG (Rep X.K) X.K X.mg W rb) (tG (Rep X.K) X.K X.mg W rc) σ H Q := by
  obtain ⟨μ, ρ, S, hS, hE, h⟩ := h
  refine (bnd hS hE h).mono fun x H1 ⟨μ1, S1, d, hS1, hE1, s1, rx, h1⟩ => ?_
  refine (bnd hS1 hE1 h1).mono fun y H2 ⟨μ2, S2, d2, hS2, hE2, s2, ry, h2⟩ => ?_
  obtain ⟨μ3, ρ3, S3, hS3, hE3, h3⟩ := bnd (r := fun ρ S => f d d2 S) (R1 := Rep X.K) hS2 hE2 h2
  refine hf X.mg (W.at σ) μ2 H2 S2 x y d d2 _ hS2 (rx.step s2) ry ?_
  cases q : f d d2 S2 with
  | no => rw [q] at h2; exact h2.elim
  | ex x S => rw [q] at h2; exact h2
  | ok z S3 =>
    rw [q] at h2
    intro μ3 H3 zv hS3 s3 rz
    have h3 := Met.step s3 h2
    simp only [Out.bind_ok] at h3
    cases rz <;> first | exact h3.elim | skip
    rename_i k
    refine ⟨k, rfl, ?_⟩
    cases k with
    | false => exact Met.ok (RP := Rep X.K) h3 hS3 (.bl _)
    | true =>
      have hE3 := (hE2.step s3)
      exact (bnd hS3 hE3 h3).mono fun w H4 ⟨μ4, S4, d4, hS4, hE4, s4, rw4, h4⟩ => hg _ _ μ4 H4 S4 y w d2 d4 Q hS4 ((ry.step s3).step s4) rw4 h4
theorem se_chain {op op' : CmpOp} {rf rg : R2} {f g : Dv → Dv → Sto → Out Dv} {a b c : Expr} {rb rc : RE} (ho : OpR X (compareOp op) rf) (hf : Op2 X.K f rf) (ho' : OpR X (compareOp op') rg) (hg : Op2 X.K g rg) (ha : SE X W a ra) (hb : SE X W b rb) (hc : SE X W c rc)
    (hm : lastMarks [op, op'] [b, c] = false := by with_unfolding_all rfl) : SE X W (.Compare a [op, op'] [b, c] pos) (eChain f g ra rb rc) :=
  PE.imp (pe_chain ho ho' ha hb hc hm) fun _ _ _ h => bnd3 hf hg h
theorem st_chain {op op' : CmpOp} {rf rg : R2} {f g : Dv → Dv → Sto → Out Dv} {a b c : Expr} {rb rc : RE} (ho : OpR X (compareOp op) rf) (hf : Op2 X.K f rf) (ho' : OpR X (compareOp op') rg) (hg : Op2 X.K g rg) (ha : SE X W a ra) (hb : SE X W b rb) (hc : SE X W c rc)
    (hm : lastMarks [op, op'] [b, c] = false := by with_unfolding_all rfl) : ST X W (.Compare a [op, op'] [b, c] pos) (cBl (eChain f g ra rb rc)) :=
  PT.imp (pt_chain ho ho' ha hb hc hm) fun σ H Q ⟨μ, ρ, S, hS, hE, h⟩ => bnd3 hf hg ((bnd hS hE h).mono fun v H1 ⟨μ1, S1, d, hS1, hE1, s1, rv, h1⟩ => bTrue_met hS1 rv h1)
theorem se_neg (h : SE X W e ra) : SE X W (.UnaryOp .USub e pos) (eUn negD ra) :=
  PE.imp (pe_un un_neg h) fun σ H Q ⟨μ, ρ, S, hS, hE, h⟩ => (bnd hS hE h).mono fun v H1 ⟨μ1, S1, d, hS1, hE1, s1, rv, h1⟩ => by
    cases rv <;> first | exact h1.elim | exact ⟨_, rfl, Met.ok (RP := Rep X.K) h1 hS1 (.int _)⟩
end
end PL

namespace PL
open PySem PySem.Spec PyProof.Rows L2

/-! ### methods -/
def tyQ (T : String) (d : Dv) (S : Sto) : Bool := match d with
  | .str _ => T == "str"
  | .fl _ => T == "list"
  | .ref l => match S[l]? with
    | some (.lst _) => T == "list"
    | some (.dk _) => T == "dict"
    | some (.dt _) => T == "dict"
    | none => false
  | _ => false
def eMeth (T : String) (f : Dv → List Dv → Sto → Out Dv) (o : RE) (a : RA) : RE := fun ρ S => (o ρ S).bind fun d S1 => if tyQ T d S1 = true then (a ρ S1).bind fun ds S2 => f d ds S2 else .no
def lmap (d : Dv) (S : Sto) (f : Nat → List Dv → Out Dv) : Out Dv := match d with
  | .ref l => match S[l]? with
    | some (.lst xs) => f l xs
    | _ => .no
  | _ => .no
def appendD (d : Dv) (ds : List Dv) (S : Sto) : Out Dv := match ds with
  | [y] => lmap d S fun l xs => if xs.length < sizeLine then .ok .non (S.set l (.lst (xs ++ [y]))) else .no
  | _ => .no
noncomputable def popD (d : Dv) (ds : List Dv) (S : Sto) : Out Dv := match ds with
  | [] => lmap d S fun l xs => match xs[xs.length - 1]? with
    | some y => .ok y (S.set l (.lst xs.dropLast))
    | none => .no
  | [.int i] => lmap d S fun l xs => @ite _ (-(2 ^ 63) ≤ i ∧ i < 2 ^ 63) (Classical.propDecidable _) (match seqIndex? i xs.length with
    | some k => match xs[k]? with
      | some y => .ok y (S.set l (.lst (xs.eraseIdx k)))
      | none => .no
    | none => .no) .no
  | _ => .no
def extendD (d : Dv) (ds : List Dv) (S : Sto) : Out Dv := match ds with
  | [e] => lmap d S fun l xs => match e with
    | .ref m => match S[m]? with
      | some (.lst zs) => if xs.length + zs.length ≤ sizeLine then .ok .non (S.set l (.lst (xs ++ zs))) else .no
      | _ => .no
    | _ => .no
  | _ => .no
def clearD (d : Dv) (ds : List Dv) (S : Sto) : Out Dv := match ds with
  | [] => lmap d S fun l _ => .ok .non (S.set l (.lst []))
  | _ => .no
noncomputable def insertD (d : Dv) (ds : List Dv) (S : Sto) : Out Dv := match ds with
  | [.int i, y] => lmap d S fun l xs => @ite _ (xs.length < sizeLine ∧ 0 ≤ i ∧ i < 2 ^ 63) (Classical.propDecidable _) (.ok .non (S.set l (.lst (xs.take i.toNat ++ [y] ++ xs.drop i.toNat)))) .no
  | _ => .no
def joinD (d : Dv) (ds : List Dv) (S : Sto) : Out Dv := match d, ds with
  | .str a, [e] => match (seqOf S e).bind strsOf with
    | some ys => if (ys.map (·.length)).sum + ys.length * a.length ≤ 16777216 then .ok (.str (Txt.join a ys)) S else .no
    | none => .no
  | _, _ => .no
def splitD (d : Dv) (ds : List Dv) (S : Sto) : Out Dv := match d, ds with
  | .str a, [.str b] => if (b.length == 0) = false ∧ a.length + 2 ≤ sizeLine then newL ((Txt.split a b).map .str) S else .no
  | _, _ => .no
def getD2 (d : Dv) (ds : List Dv) (S : Sto) : Out Dv := match ds with
  | [k, x] => match dget S d k with
    | some (some y) => .ok y S
    | some none => .ok x S
    | none => .no
  | _ => .no
section
variable {X : Cx} {K : PySem.W.Frag} {W : WX} {o e f : Expr} {es : List Expr} {ra rb rc : RE} {rs : RA} {apos cpos pos p : Pos}
theorem tyQ_rep {T : String} {μ : List Addr} {H : Hp} {S : Sto} {v : V} {d : Dv} (hS : SimS K μ S H) (r : Rep K μ H v d) (h : tyQ T d S = true) : tyV K T v H := by
  cases r with
  | str x => exact eq_of_beq h
  | fl t l q =>
    rcases t with ⟨⟨o, t⟩, _⟩ | t
    · exact .inl ⟨eq_of_beq h, _, .inl (.inr ⟨o, t⟩)⟩
    · exact .inl ⟨eq_of_beq h, _, .inr t⟩
  | ref hl =>
    simp only [tyQ] at h
    split at h
    · rename_i ds e; obtain ⟨ws, e1, _⟩ := hS.at' e hl; exact .inl ⟨eq_of_beq h, ws, .of e1⟩
    · rename_i ds e; obtain ⟨ws, e1, _⟩ := hS.at' e hl; exact .inr (.inr (.inl ⟨eq_of_beq h, .inl ⟨ws, e1⟩⟩))
    · rename_i ds e; obtain ⟨ws, e1, _⟩ := hS.at' e hl; exact .inr (.inr (.inl ⟨eq_of_beq h, .inr ⟨ws, e1⟩⟩))
    · cases h
  | _ => simp [tyQ] at h
theorem se_meth {T id : String} {name : Str} {g : Dv → List Dv → Sto → Out Dv} {r : V → List V → Hp → VK → Prop} (pa : PlainAttrs T) (slot : Slot T name id) (hty : typeOf (.builtin id) = pure (.type "method_descriptor")) (hm : MtR X id r) (hf : OpM X.K g r)
    (ho : SE X W o ra) (ha : SA X W (e :: es) rs) (hbase : attributeBase o name X.env (eval o X.env) = eval o X.env := by rfl)
    (hfew : ((backTo cpos (starEach (e :: es) X.env)).all (fun x => !x.1) && (backToKw cpos (keywordEach [] X.env)).all (fun x => x.1.isSome)
      && decide ((e :: es).length + ([] : List Keyword).length + (if ([] : List Keyword).isEmpty then 0 else 1) < 30)) = true := by rfl)
    (hline : (apos.endLine == cpos.line) = true := by rfl) (hs : starEach (e :: es) X.env = (false, eval e X.env) :: starEach es X.env := by rfl) (hplain : (backTo cpos (starEach es X.env)).any (·.1) = false := by rfl) :
    SE X W (.Call (.Attribute o name apos) (e :: es) [] cpos) (eMeth T g ra rs) :=
  PE.imp (pe_bm pa slot hty hm ho ha hbase hfew hline hs hplain) fun σ H Q ⟨μ, ρ, S, hS, hE, h⟩ => (bnd hS hE h).mono fun v H1 ⟨μ1, S1, d, hS1, hE1, s1, rv, h1⟩ => by
    split at h1
    · rename_i hq
      exact ⟨tyQ_rep hS1 rv hq, (bnd (R1 := Reps X.K) hS1 hE1 h1).mono fun vs H2 ⟨μ2, S2, ds, hS2, hE2, s2, rvs, h2⟩ => hf _ _ μ2 H2 S2 v vs d ds Q hS2 (rv.step s2) rvs h2⟩
    · exact h1.elim
theorem se_meth0 {T id : String} {name : Str} {g : Dv → List Dv → Sto → Out Dv} {r : V → List V → Hp → VK → Prop} (pa : PlainAttrs T) (slot : Slot T name id) (hty : typeOf (.builtin id) = pure (.type "method_descriptor")) (hm : MtR X id r) (hf : OpM X.K g r)
    (ho : SE X W o ra) (hbase : attributeBase o name X.env (eval o X.env) = eval o X.env := by rfl) (hline : (apos.endLine == cpos.line) = true := by rfl) :
    SE X W (.Call (.Attribute o name apos) [] [] cpos) (eMeth T g ra aNil) :=
  PE.imp (pe_bm0 pa slot hty hm ho hbase hline) fun σ H Q ⟨μ, ρ, S, hS, hE, h⟩ => (bnd hS hE h).mono fun v H1 ⟨μ1, S1, d, hS1, hE1, s1, rv, h1⟩ => by
    split at h1
    · rename_i hq
      exact ⟨tyQ_rep hS1 rv hq, hf _ _ μ1 H1 S1 v [] d [] Q hS1 rv .nil h1⟩
    · exact h1.elim
theorem lmap_met {mg : Str → Option Value} {Wx : Value → Option Addr → Hp → Prop} {μ : List Addr} {H : Hp} {S : Sto} {x : V} {d : Dv} {Q : VK} {g : Nat → List Dv → Out Dv} (hS : SimS K μ S H) (r : Rep K μ H x d) (h : Met (Rep K) K mg Wx μ H (lmap d S g) Q) :
    ∃ l a xs vs, x = .ref a ∧ μ[l]? = some a ∧ S[l]? = some (.lst xs) ∧ H a = some (.lst vs) ∧ Reps K μ H vs xs ∧ Met (Rep K) K mg Wx μ H (g l xs) Q := by
  unfold lmap at h
  split at h
  · rename_i l
    cases r with
    | ref hl =>
      split at h
      · rename_i xs e
        obtain ⟨vs, e1, rr⟩ := hS.at' e hl
        exact ⟨l, _, xs, vs, rfl, hl, e, e1, rr, h⟩
      · exact h.elim
  · exact h.elim
theorem putL {mg : Str → Option Value} {Wx : Value → Option Addr → Hp → Prop} {μ : List Addr} {H : Hp} {S : Sto} {l : Nat} {a : Addr} {d : Dv} {v : V} {ys : List Dv} {ws : List V} {Q : VK} (h : Met (Rep K) K mg Wx μ H (.ok d (S.set l (.lst ys))) Q) (hS : SimS K μ S H) (hl : μ[l]? = some a)
    (r : Reps K μ H ws ys) (rv : Rep K μ H v d) : Q v (upd H a (.lst ws)) := h.put hS hl ⟨ws, upd_same, r.step (step_put hS hl _)⟩ (rv.step (step_put hS hl _))
theorem o_append : OpM K appendD rAppend := by
  intro mg Wx μ H S x vs d ds Q hS rx rs h
  unfold appendD at h
  split at h
  · obtain ⟨y, rfl, ry⟩ := rs.get1
    obtain ⟨l, a, xs, us, rfl, hl, e, e1, rr, h⟩ := lmap_met hS rx h
    split at h
    · rename_i hz
      exact ⟨a, us, y, rfl, rfl, e1, by rw [rr.1]; exact hz, putL h hS hl (rr.append (.one ry)) .non⟩
    · exact h.elim
  · exact h.elim
theorem Reps.dropLast {μ : List Addr} {H : Hp} {vs : List V} {ds : List Dv} (r : Reps K μ H vs ds) : Reps K μ H vs.dropLast ds.dropLast := by
  rw [List.dropLast_eq_take, List.dropLast_eq_take, r.1]
  exact r.take _
theorem Reps.erase {μ : List Addr} {H : Hp} {vs : List V} {ds : List Dv} (r : Reps K μ H vs ds) (k : Nat) : Reps K μ H (vs.eraseIdx k) (ds.eraseIdx k) := by
  rw [List.eraseIdx_eq_take_drop_succ, List.eraseIdx_eq_take_drop_succ]
  exact (r.take _).append (r.drop _)
theorem o_pop : OpM K popD (fun x vs H Q => rPop x vs H Q ∨ rPopAt x vs H Q) := by
  intro mg Wx μ H S x vs d ds Q hS rx rs h
  unfold popD at h
  split at h
  · cases rs.un0
    obtain ⟨l, a, xs, us, rfl, hl, e, e1, rr, h⟩ := lmap_met hS rx h
    split at h
    · rename_i y ey
      obtain ⟨v, ev, rv⟩ := rr.get ey
      exact .inl ⟨a, us, v, rfl, rfl, e1, by rw [rr.1]; exact ev, putL h hS hl rr.dropLast rv⟩
    · exact h.elim
  · obtain ⟨y, rfl, ry⟩ := rs.get1
    cases ry
    obtain ⟨l, a, xs, us, rfl, hl, e, e1, rr, h⟩ := lmap_met hS rx h
    split at h
    · rename_i hz
      split at h
      · rename_i k ek
        split at h
        · rename_i y ey
          obtain ⟨v, ev, rv⟩ := rr.get ey
          exact .inr ⟨a, us, _, k, v, rfl, rfl, e1, hz.1, hz.2, by rw [rr.1]; exact ek, ev, putL h hS hl (rr.erase k) rv⟩
        · exact h.elim
      · exact h.elim
    · exact h.elim
  · exact h.elim
theorem mt_popAll : MtR X "list.pop" (fun x vs H Q => rPop x vs H Q ∨ rPopAt x vs H Q) := MtR.or mt_pop mt_popAt
theorem o_extend : OpM K extendD rExtend := by
  intro mg Wx μ H S x vs d ds Q hS rx rs h
  unfold extendD at h
  split at h
  · obtain ⟨y, rfl, ry⟩ := rs.get1
    obtain ⟨l, a, xs, us, rfl, hl, e, e1, rr, h⟩ := lmap_met hS rx h
    split at h
    · cases ry with
      | ref hm =>
        split at h
        · rename_i zs e2
          obtain ⟨ws, e3, r3⟩ := hS.at' e2 hm
          split at h
          · rename_i hz
            exact ⟨a, _, us, ws, rfl, rfl, e1, e3, by rw [rr.1, r3.1]; exact hz, putL h hS hl (rr.append r3) .non⟩
          · exact h.elim
        · exact h.elim
    · exact h.elim
  · exact h.elim
theorem o_clear : OpM K clearD rClear := by
  intro mg Wx μ H S x vs d ds Q hS rx rs h
  unfold clearD at h
  split at h
  · cases rs.un0
    obtain ⟨l, a, xs, us, rfl, hl, e, e1, rr, h⟩ := lmap_met hS rx h
    exact ⟨a, us, rfl, rfl, e1, putL h hS hl .nil .non⟩
  · exact h.elim
theorem o_insert : OpM K insertD (fun x vs H Q => ∃ (l : Addr) (xs : List V) (i : Int) (y : V), x = .ref l ∧ vs = [.int i, y] ∧ H l = some (.lst xs) ∧ xs.length < sizeLine ∧ 0 ≤ i ∧ i < 2 ^ 63 ∧ Q .non (upd H l (.lst (xs.take i.toNat ++ [y] ++ xs.drop i.toNat)))) := by
  intro mg Wx μ H S x vs d ds Q hS rx rs h
  unfold insertD at h
  split at h
  · obtain ⟨i, y, rfl, ri, ry⟩ := rs.get2
    cases ri
    obtain ⟨l, a, xs, us, rfl, hl, e, e1, rr, h⟩ := lmap_met hS rx h
    split at h
    · rename_i hz
      exact ⟨a, us, _, y, rfl, rfl, e1, by rw [rr.1]; exact hz.1, hz.2.1, hz.2.2, putL h hS hl (((rr.take _).append (.one ry)).append (rr.drop _)) .non⟩
    · exact h.elim
  · exact h.elim
theorem reps_strs {μ : List Addr} {H : Hp} : ∀ ys : List Str, Reps K μ H (ys.map V.str) (ys.map Dv.str)
  | [] => .nil
  | y :: ys => (reps_strs ys).cons (.str y)
theorem o_join : OpM K joinD (fun x xs H Q => ∃ a p, ∃ ys : List Str, x = .str a ∧ xs = [.ref p] ∧ (SqL K H p (ys.map V.str) ∨ SqT K H p (ys.map V.str)) ∧ (ys.map (·.length)).sum + ys.length * a.length ≤ 16777216 ∧ Q (.str (Txt.join a ys)) H) := by
  intro mg Wx μ H S x vs d ds Q hS rx rs h
  unfold joinD at h
  split at h
  · cases rx
    obtain ⟨y, rfl, ry⟩ := rs.get1
    split at h
    · rename_i ys e
      obtain ⟨es, e1, e2⟩ := Option.bind_eq_some_iff.mp e
      obtain ⟨a, us, rfl, hq, rr⟩ := seq_rep hS ry e1
      cases strsOf_rep rr e2
      split at h
      · rename_i hz; exact ⟨_, a, ys, rfl, rfl, hq, hz, h.ok hS (.str _)⟩
      · exact h.elim
    · exact h.elim
  · exact h.elim
theorem o_split : OpM K splitD (fun x xs H Q => ∃ a b, x = .str a ∧ xs = [.str b] ∧ (b.length == 0) = false ∧ a.length + 2 ≤ sizeLine ∧ rNewStrs (Txt.split a b) H Q) := by
  intro mg Wx μ H S x vs d ds Q hS rx rs h
  unfold splitD at h
  split at h
  · cases rx
    obtain ⟨y, rfl, ry⟩ := rs.get1
    cases ry
    split at h
    · rename_i hz; exact ⟨_, _, rfl, rfl, hz.1, hz.2, fun p n => h.lst hS n (reps_strs _)⟩
    · exact h.elim
  · exact h.elim
/-- o.get(k, x) -/
def eGet2 (o k x : RE) : RE := fun ρ S => (o ρ S).bind fun d S1 => if tyQ "dict" d S1 = true then (k ρ S1).bind fun y S2 => (x ρ S2).bind fun z S3 => getD2 d [y, z] S3 else .no
theorem se_get2 (hu : X.A.units + 1 < cLine) (ho : SE X W o ra) (he : SE X W e rb) (hf : SE X W f rc) (m : M2 X o "get" apos e f cpos) : SE X W (.Call (.Attribute o "get" apos) [e, f] [] cpos) (eGet2 ra rb rc) :=
  PE.imp (pe_dget2 hu ho he hf m) fun σ H Q ⟨μ, ρ, S, hS, hE, h⟩ => (bnd hS hE h).mono fun v H1 ⟨μ1, S1, d, hS1, hE1, s1, rv, h1⟩ => by
    split at h1
    · rename_i hq
      have ty := tyQ_rep hS1 rv hq
      cases rv with
      | @ref l a hl =>
        refine ⟨a, rfl, ?_, ?_⟩
        · rcases ty with ⟨z, _⟩ | ⟨z, _⟩ | ⟨_, ⟨kvs, z⟩ | ⟨kvs, z⟩⟩ | ⟨z, _⟩
          · simp at z
          · simp at z
          · exact .inl ⟨kvs, .inl z⟩
          · exact .inr ⟨kvs, .inl z⟩
          · simp at z
        · refine (bnd hS1 hE1 h1).mono fun y H2 ⟨μ2, S2, d2, hS2, hE2, s2, ry, h2⟩ => ?_
          refine (bnd hS2 hE2 h2).mono fun z H3 ⟨μ3, S3, d3, hS3, hE3, s3, rz, h3⟩ => ?_
          unfold getD2 at h3
          simp only at h3
          have rl : Rep X.K μ3 H3 (.ref a) (.ref l) := (Rep.ref hl).step (s2.trans s3)
          split at h3
          · rename_i y' e1
            obtain ⟨a', u, ex, g, hh⟩ := dget_rep hS3 rl (ry.step s3) e1
            cases ex
            rcases hh with ⟨w, _⟩ | ⟨d', v', e2, e3, r⟩
            · cases w
            · cases e2; subst e3; exact ⟨_, g, h3.ok hS3 r⟩
          · rename_i e1
            obtain ⟨a', u, ex, g, hh⟩ := dget_rep hS3 rl (ry.step s3) e1
            cases ex
            rcases hh with ⟨_, w⟩ | ⟨d', v', e2, e3, r⟩
            · subst w; exact ⟨_, g, h3.ok hS3 rz⟩
            · cases e2
          · exact h3.elim
      | str x => simp [tyQ] at hq
      | fl t l q => simp [tyQ] at hq
      | _ => simp [tyQ] at hq
    · exact h1.elim
/-! ### dicts made -/
def eNewK : RE := fun _ S => .ok (.ref S.length) (S ++ [.dk []])
def eNewT : RE := fun _ S => .ok (.ref S.length) (S ++ [.dt []])
theorem se_newK : SE X W (.Dict [] [] pos) eNewK := PE.imp pe_dnewK fun σ H Q ⟨μ, ρ, S, hS, hE, h⟩ p n => Met.new (o := .dk []) h hS n ⟨[], upd_same, rfl, .nil⟩
theorem se_newT : SE X W (.Dict [] [] pos) eNewT := PE.imp pe_dnewT fun σ H Q ⟨μ, ρ, S, hS, hE, h⟩ p n => Met.new (o := .dt []) h hS n ⟨[], upd_same, rfl, .nil⟩
/-! ### own defs -/
def spD (K : PySem.W.Frag) (mg : Str → Option Value) (F : List Dv → Sto → Out Dv) (n : Nat) : Sp := fun vs H Q E => ∃ μ S ds, ds.length = n ∧ SimS K μ S H ∧ Reps K μ H vs ds ∧ Met (Rep K) K mg E μ H (F ds S) Q
def eOwn (n : Nat) (F : List Dv → Sto → Out Dv) (a : RA) : RE := fun ρ S => (a ρ S).bind fun ds S1 => if ds.length = n then F ds S1 else .no
theorem se_own {CX : CXT} {k n : Nat} {fa : Addr} {fd : FuncData} {ps : List Str} {x : Str} {F : List Dv → Sto → Out Dv} (G : FnOk X.prog X.w X.K X.mg X.base CX k fa fd ps (spD X.K X.mg F n)) (hr : Room k X.A) (hg : Gl X x) (hm : X.mg x = some (.ref fa)) (hk : PySem.W.keepIn X.K (.ref fa) = true)
    (hb : Binds X.K fd ps []) (hx : ∀ σ, PassesAt CX X σ (W.at σ)) (ha : SA X W (e :: es) rs) (hdb : (x == ("__debug__" : Str)) = false := by decide) (he : starEach (e :: es) X.env = (false, eval e X.env) :: starEach es X.env := by rfl) (hpl : (backTo pos (starEach es X.env)).any (·.1) = false := by rfl) :
    SE X W (.Call (.Name x p) (e :: es) [] pos) (eOwn n F rs) :=
  PE.imp (pe_callSD (E := fun σ => W.at σ) G hr hg hm hk hb .nil hx ha hdb he hpl) fun σ H Q ⟨μ, ρ, S, hS, hE, h⟩ => (bnd (R1 := Reps X.K) hS hE h).mono fun vs H1 ⟨μ1, S1, ds, hS1, hE1, s1, rv, h1⟩ => by
    split at h1
    · rename_i hn
      rw [List.append_nil]
      exact ⟨μ1, S1, ds, hn, hS1, rv, h1⟩
    · exact h1.elim
theorem se_own0 {CX : CXT} {k : Nat} {fa : Addr} {fd : FuncData} {ps : List Str} {x : Str} {F : List Dv → Sto → Out Dv} (G : FnOk X.prog X.w X.K X.mg X.base CX k fa fd ps (spD X.K X.mg F 0)) (hr : Room k X.A) (hg : Gl X x) (hm : X.mg x = some (.ref fa)) (hk : PySem.W.keepIn X.K (.ref fa) = true)
    (hb : Binds X.K fd ps []) (hx : ∀ σ, PassesAt CX X σ (W.at σ)) (hdb : (x == ("__debug__" : Str)) = false := by decide) : SE X W (.Call (.Name x p) [] [] pos) (eOwn 0 F aNil) := by
  refine ⟨fun pins s σ H Q I ⟨μ, ρ, S, hS, hE, h⟩ => ?_⟩
  refine wpAny_Call_Name_kw (ld_glob I hg hm ?_ hdb)
  exact PySem.W.callWith_K0 I.kIn hk (run_fnSD (dvs := []) (ds := []) (E := fun σ => W.at σ) (us := []) G hr hb .nil (hx σ) I .nil ⟨μ, S, [], rfl, hS, .nil, h⟩)
end
end PL

namespace PL
open PySem PySem.Spec PyProof.Rows L2

/-! ### statements: outcomes -/
inductive Fl where
  | nx (ρ : Env) | rt (d : Dv) | bk (ρ : Env) | ct (ρ : Env)
inductive OutS where
  | fl (f : Fl) (S : Sto) | ex (x : Ex) (ρ : Env) (S : Sto) | no
abbrev RC := Env → Sto → OutS
def MetS (K : PySem.W.Frag) (mg : Str → Option Value) (W : WX) (μ : List Addr) (H : Hp) (o : OutS) (D : Ends) : Prop :=
  match o with
  | .fl (.nx ρ') S' => ∀ μ' σ' H', SimS K μ' S' H' → SimE K μ' H' ρ' σ' → Step μ H μ' H' → D.nx σ' H'
  | .fl (.rt d) S' => ∀ μ' v H', SimS K μ' S' H' → Step μ H μ' H' → Rep K μ' H' v d → D.rt v H'
  | .fl (.bk ρ') S' => ∀ μ' σ' H', SimS K μ' S' H' → SimE K μ' H' ρ' σ' → Step μ H μ' H' → D.bk σ' H'
  | .fl (.ct ρ') S' => ∀ μ' σ' H', SimS K μ' S' H' → SimE K μ' H' ρ' σ' → Step μ H μ' H' → D.ct σ' H'
  | .ex x ρ' S' => ∀ μ' σ' H' cls d, SimS K μ' S' H' → SimE K μ' H' ρ' σ' → Step μ H μ' H' → XRep K mg μ' H' x cls d → W cls d σ' H'
  | .no => False
def tS (K : PySem.W.Frag) (mg : Str → Option Value) (W : WX) (c : RC) : TS := fun D σ H => ∃ μ ρ S, SimS K μ S H ∧ SimE K μ H ρ σ ∧ MetS K mg W μ H (c ρ S) D
abbrev SC (X : Cx) (W : WX) (st : Stmt) (c : RC) : Prop := PS X st (tS X.K X.mg W c)
abbrev SCs (X : Cx) (W : WX) (st : List Stmt) (c : RC) : Prop := PSs X st (tS X.K X.mg W c)
theorem PS.imp {X : Cx} {e : Stmt} {t t' : TS} (h : PS X e t) (i : ∀ D σ H, t' D σ H → t D σ H) : PS X e t' := ⟨fun pins s σ H D I w => h.run pins s σ H D I (i D σ H w)⟩
theorem PSs.imp {X : Cx} {e : List Stmt} {t t' : TS} (h : PSs X e t) (i : ∀ D σ H, t' D σ H → t D σ H) : PSs X e t' := ⟨fun pins s σ H D I w => h.run pins s σ H D I (i D σ H w)⟩
section
variable {K : PySem.W.Frag} {mg : Str → Option Value} {W : WX} {μ μ1 : List Addr} {H H1 : Hp} {ρ : Env} {σ : L2.St} {S : Sto} {D D' : Ends}
theorem MetS.step {o : OutS} (s : Step μ H μ1 H1) (h : MetS K mg W μ H o D) : MetS K mg W μ1 H1 o D := by
  cases o with
  | fl f S' =>
    cases f with
    | nx ρ' => exact fun μ' σ' H' a b c => h μ' σ' H' a b (s.trans c)
    | rt d => exact fun μ' σ' H' a b c => h μ' σ' H' a (s.trans b) c
    | bk ρ' => exact fun μ' σ' H' a b c => h μ' σ' H' a b (s.trans c)
    | ct ρ' => exact fun μ' σ' H' a b c => h μ' σ' H' a b (s.trans c)
  | ex x ρ' S' => exact fun μ' σ' H' cl dd a b c d => h μ' σ' H' cl dd a b (s.trans c) d
  | no => exact h
def bindS {α : Type} (o : Out α) (ρ : Env) (f : α → Sto → OutS) : OutS := match o with
  | .ok a S => f a S
  | .ex x S => .ex x ρ S
  | .no => .no
@[simp] theorem bindS_ok {α : Type} (a : α) (S : Sto) (ρ : Env) (f : α → Sto → OutS) : bindS (.ok a S) ρ f = f a S := rfl
@[simp] theorem bindS_ex {α : Type} (x : Ex) (S : Sto) (ρ : Env) (f : α → Sto → OutS) : bindS (.ex x S : Out α) ρ f = .ex x ρ S := rfl
@[simp] theorem bindS_no {α : Type} (ρ : Env) (f : α → Sto → OutS) : bindS (.no : Out α) ρ f = .no := rfl
theorem bndS {α β : Type} {R1 : List Addr → Hp → β → α → Prop} {r : Env → Sto → Out α} {f : α → Sto → OutS} (hS : SimS K μ S H) (hE : SimE K μ H ρ σ)
    (h : MetS K mg W μ H (bindS (r ρ S) ρ f) D) : tG R1 K mg W r σ H (fun v H1 => ∃ μ1 S1 d, SimS K μ1 S1 H1 ∧ SimE K μ1 H1 ρ σ ∧ Step μ H μ1 H1 ∧ R1 μ1 H1 v d ∧ MetS K mg W μ1 H1 (f d S1) D) := by
  refine ⟨μ, ρ, S, hS, hE, ?_⟩
  cases q : r ρ S with
  | ok d S1 =>
    rw [q] at h
    exact fun μ1 H1 v a b c => ⟨μ1, S1, d, a, hE.step b, b, c, h.step b⟩
  | ex x S1 =>
    rw [q] at h
    exact fun μ1 H1 cl dd a b c => h μ1 σ H1 cl dd a (hE.step b) b c
  | no => rw [q] at h; exact h
end

/-! ### statements -/
def cNil : RC := fun ρ S => .fl (.nx ρ) S
def cSeq (a b : RC) : RC := fun ρ S => match a ρ S with
  | .fl (.nx ρ') S' => b ρ' S'
  | o => o
def cExpr (e : RE) : RC := fun ρ S => bindS (e ρ S) ρ fun _ S1 => .fl (.nx ρ) S1
def cSet (i : Nat) (e : RE) : RC := fun ρ S => bindS (e ρ S) ρ fun d S1 => .fl (.nx (ρ.set i (some d))) S1
def cRet (e : RE) : RC := fun ρ S => bindS (e ρ S) ρ fun d S1 => .fl (.rt d) S1
def cRetN : RC := fun ρ S => .fl (.rt .non) S
def cIf (t : RT) (a b : RC) : RC := fun ρ S => bindS (t ρ S) ρ fun c S1 => if c = true then a ρ S1 else b ρ S1
def cBrk : RC := fun ρ S => .fl (.bk ρ) S
def cCt : RC := fun ρ S => .fl (.ct ρ) S
def cNo : RC := fun _ _ => .no
inductive Tg where
  | nm (i : Nat) | tp (ts : List Tg)
mutual
def Tg.set : Tg → Dv → Env → Option Env
  | .nm i, d, ρ => some (ρ.set i (some d))
  | .tp ts, d, ρ => match tupOf d with
    | some ds => Tg.sets ts ds ρ
    | none => none
def Tg.sets : List Tg → List Dv → Env → Option Env
  | [], [], ρ => some ρ
  | t :: ts, d :: ds, ρ => match t.set d ρ with
    | some ρ' => Tg.sets ts ds ρ'
    | none => none
  | _, _, _ => none
def Tg.slots : Tg → List Nat
  | .nm i => [i]
  | .tp ts => Tg.slotss ts
def Tg.slotss : List Tg → List Nat
  | [] => []
  | t :: ts => t.slots ++ Tg.slotss ts
end
def cAsg (t : Tg) (e : RE) : RC := fun ρ S => bindS (e ρ S) ρ fun d S1 => match t.set d ρ with
  | some ρ' => .fl (.nx ρ') S1
  | none => .no
/-- o[k] = d -/
def putD (o k d : Dv) (S : Sto) : Option Sto := match o, k with
  | .ref l, .int i => match S[l]? with
    | some (.lst xs) => match ixN xs.length i with
      | some j => some (S.set l (.lst (xs.set j d)))
      | none => none
    | _ => dput S o k d
  | _, _ => dput S o k d
def cPut (o k v : RE) : RC := fun ρ S => bindS (v ρ S) ρ fun d S1 => bindS (o ρ S1) ρ fun x S2 => bindS (k ρ S2) ρ fun y S3 => match putD x y d S3 with
  | some S4 => .fl (.nx ρ) S4
  | none => .no
def cAug (i : Nat) (f : Dv → Dv → Sto → Out Dv) (e : RE) : RC := fun ρ S => bindS (eBin f (eVar i) e ρ S) ρ fun d S1 => .fl (.nx (ρ.set i (some d))) S1

section
variable {X : Cx} {W : WX} {e o k v : Expr} {re ro rk rv : RE} {rt : RT} {st : Stmt} {sts : List Stmt} {a b : RC} {pos pos' : Pos}
theorem scs_nil : SCs X W [] cNil := PSs.imp pss_nil fun D σ H ⟨μ, ρ, S, hS, hE, h⟩ => h μ σ H hS hE (.refl μ H)
theorem scs_cons (h : SC X W st a) (t : SCs X W sts b) : SCs X W (st :: sts) (cSeq a b) :=
  PSs.imp (pss_cons h t) fun D σ H ⟨μ, ρ, S, hS, hE, h⟩ => ⟨μ, ρ, S, hS, hE, by
    unfold cSeq at h
    cases q : a ρ S with
    | fl f S1 =>
      rw [q] at h
      cases f with
      | nx ρ1 => exact fun μ' σ' H' x y z => ⟨μ', ρ1, S1, x, y, h.step z⟩
      | rt d => exact h
      | bk ρ1 => exact h
      | ct ρ1 => exact h
    | ex x ρ1 S1 => rw [q] at h; exact h
    | no => rw [q] at h; exact h⟩
theorem scs_one (h : SC X W st a) : SCs X W [st] a := pss_one h
theorem sc_pass : SC X W (.Pass pos) cNil := PS.imp ps_pass fun D σ H ⟨μ, ρ, S, hS, hE, h⟩ => h μ σ H hS hE (.refl μ H)
theorem sc_break : SC X W (.Break pos) cBrk := PS.imp ps_break fun D σ H ⟨μ, ρ, S, hS, hE, h⟩ => h μ σ H hS hE (.refl μ H)
theorem sc_cont : SC X W (.Continue pos) cCt := PS.imp ps_continue fun D σ H ⟨μ, ρ, S, hS, hE, h⟩ => h μ σ H hS hE (.refl μ H)
theorem sc_never : SC X W st cNo := PS.imp ps_never fun D σ H ⟨μ, ρ, S, hS, hE, h⟩ => h
theorem sc_doc {x j} : SC X W (.Expr (.Constant (.str x) j pos) pos') cNil := PS.imp ps_doc fun D σ H ⟨μ, ρ, S, hS, hE, h⟩ => h μ σ H hS hE (.refl μ H)
theorem sc_expr (he : SE X W e re) (hs : swapsWith e none pos.line X.env = pure false := by rfl) : SC X W (.Expr e pos) (cExpr re) :=
  PS.imp (ps_expr he hs) fun D σ H ⟨μ, ρ, S, hS, hE, h⟩ => (bndS hS hE h).mono fun v H1 ⟨μ1, S1, d, hS1, hE1, s1, rv, h1⟩ => h1 μ1 σ H1 hS1 hE1 (.refl ..)
theorem sc_ret (he : SE X W e re) : SC X W (.Return (some e) pos) (cRet re) :=
  PS.imp (ps_ret he) fun D σ H ⟨μ, ρ, S, hS, hE, h⟩ => (bndS hS hE h).mono fun v H1 ⟨μ1, S1, d, hS1, hE1, s1, rv, h1⟩ => h1 μ1 v H1 hS1 (.refl ..) rv
theorem sc_retN : SC X W (.Return none pos) cRetN :=
  PS.imp ps_retN fun D σ H ⟨μ, ρ, S, hS, hE, h⟩ => h μ _ H hS (.refl ..) .non
theorem SimE.set {K : PySem.W.Frag} {μ : List Addr} {H : Hp} {ρ : Env} {σ : L2.St} {v : V} {d : Dv} (h : SimE K μ H ρ σ) (r : Rep K μ H v d) (i : Nat) : SimE K μ H (ρ.set i (some d)) (σ.set i (some v)) := by
  refine ⟨by rw [List.length_set, List.length_set, h.1], fun j e hj => ?_⟩
  by_cases hi : i = j
  · subst hi
    have hl : i < ρ.length := by have := (List.getElem?_eq_some_iff.mp hj).1; simpa using this
    rw [List.getElem?_set_self hl] at hj
    cases hj
    exact ⟨v, List.getElem?_set_self (by rw [← h.1]; exact hl), r⟩
  · rw [List.getElem?_set_ne hi] at hj
    obtain ⟨u, e1, r1⟩ := h.2 j e hj
    exact ⟨u, by rw [List.getElem?_set_ne hi]; exact e1, r1⟩
theorem sc_set {i : Nat} {x : Str} (hN : X.N.Nodup) (hi : X.N[i]? = some x) (hx : Loc X.env.scope x) (he : SE X W e re) (hs : swapsWith e (some (.Name x pos')) pos.line X.env = pure false := by rfl) (hf : X.fn x = true ∨ X.env.scope.names.lookup x = some .local := by first | exact .inl rfl | exact .inr rfl | assumption) :
    SC X W (.Assign [.Name x pos'] e pos) (cSet i re) :=
  PS.imp (ps_set hN hi hx he hs hf) fun D σ H ⟨μ, ρ, S, hS, hE, h⟩ => (bndS hS hE h).mono fun v H1 ⟨μ1, S1, d, hS1, hE1, s1, rv, h1⟩ => h1 μ1 _ H1 hS1 (hE1.set rv i) (.refl ..)
theorem sc_if {c : Expr} {as bs : List Stmt} (hc : ST X W c rt) (ha : SCs X W as a) (hb : SCs X W bs b) : SC X W (.If c as bs pos) (cIf rt a b) :=
  PS.imp (ps_if hc ha hb) fun D σ H ⟨μ, ρ, S, hS, hE, h⟩ => (bndS (R1 := RBool) hS hE h).mono fun v H1 ⟨μ1, S1, d, hS1, hE1, s1, rv, h1⟩ => by
    cases (show v = d from rv)
    cases v with
    | true => exact ⟨μ1, ρ, S1, hS1, hE1, h1⟩
    | false => exact ⟨μ1, ρ, S1, hS1, hE1, h1⟩
/-! ### targets -/
def tGt (K : PySem.W.Frag) (t : Tg) : TG := fun v σ H Q => ∃ μ ρ d ρ', SimE K μ H ρ σ ∧ Rep K μ H v d ∧ t.set d ρ = some ρ' ∧ ∀ σ', SimE K μ H ρ' σ' → σ'.length = σ.length → (∀ j, j ∉ t.slots → σ'[j]? = σ[j]?) → Q σ' H
def tGts (K : PySem.W.Frag) (ts : List Tg) : TGs := fun vs σ H Q => ∃ μ ρ ds ρ', SimE K μ H ρ σ ∧ Reps K μ H vs ds ∧ Tg.sets ts ds ρ = some ρ' ∧ ∀ σ', SimE K μ H ρ' σ' → σ'.length = σ.length → (∀ j, j ∉ Tg.slotss ts → σ'[j]? = σ[j]?) → Q σ' H
abbrev SG (X : Cx) (tg : Expr) (t : Tg) : Prop := PG X tg (tGt X.K t)
abbrev SGs (X : Cx) (tg : List Expr) (t : List Tg) : Prop := PGs X tg (tGts X.K t)
theorem sg_name {i : Nat} {x : Str} (hN : X.N.Nodup) (hi : X.N[i]? = some x) (hx : Loc X.env.scope x) (hf : X.fn x = true ∨ X.env.scope.names.lookup x = some .local := by first | exact .inl rfl | exact .inr rfl | assumption) : SG X (.Name x pos) (.nm i) :=
  ⟨fun pins s σ H v u Q I r ⟨μ, ρ, d, ρ', hE, rv, hs, h⟩ => (pg_name hN hi hx hf).run pins s σ H v u Q I r (by
    simp only [Tg.set, Option.some.injEq] at hs
    subst hs
    exact h _ (hE.set rv i) (by simp) fun j hj => List.getElem?_set_ne (by intro z; subst z; simp [Tg.slots] at hj))⟩
theorem sgs_nil : SGs X [] [] :=
  ⟨fun pins s σ H vs us Q I r ⟨μ, ρ, ds, ρ', hE, rv, hs, h⟩ => pgs_nil.run pins s σ H vs us Q I r (by
    cases ds with
    | nil =>
      simp only [Tg.sets, Option.some.injEq] at hs
      subst hs
      exact ⟨rv.un0, h σ hE rfl fun _ _ => rfl⟩
    | cons => simp [Tg.sets] at hs)⟩
theorem sgs_cons {es : List Expr} {t : Tg} {ts : List Tg} (h1 : SG X e t) (h2 : SGs X es ts) (hs : (assignEach (e :: es) X.env).map (·.2) = assign e X.env :: (assignEach es X.env).map (·.2) := by rfl) : SGs X (e :: es) (t :: ts) :=
  ⟨fun pins s σ H vs us Q I r ⟨μ, ρ, ds, ρ', hE, rv, hh, h⟩ => (pgs_cons h1 h2 hs).run pins s σ H vs us Q I r (by
    cases ds with
    | nil => simp [Tg.sets] at hh
    | cons d ds =>
      obtain ⟨v, ws, rfl, r1, r2⟩ := rv.uncons
      simp only [Tg.sets] at hh
      split at hh
      · rename_i ρ1 e1
        refine ⟨v, ws, rfl, μ, ρ, d, ρ1, hE, r1, e1, fun σ1 hE1 l1 n1 => ⟨μ, ρ1, ds, ρ', hE1, r2, hh, fun σ2 hE2 l2 n2 => h σ2 hE2 (l2.trans l1) fun j hj => ?_⟩⟩
        simp only [Tg.slotss, List.mem_append, not_or] at hj
        exact (n2 j hj.2).trans (n1 j hj.1)
      · cases hh)⟩
theorem sg_tup {es : List Expr} {k : Nat} {ts : List Tg} {n : Nat} (hc : X.calm = true) (h : SGs X es ts) (hl : ts.length = n) (hn : (assignEach es X.env).length = n := by rfl) (hst : (assignEach es X.env).findIdx? (·.1) = none := by rfl) : SG X (.Tuple es k pos) (.tp ts) :=
  ⟨fun pins s σ H v u Q I r ⟨μ, ρ, d, ρ', hE, rv, hh, hq⟩ => (pg_tup hc h hn hst).run pins s σ H v u Q I r (by
    simp only [Tg.set] at hh
    split at hh
    · rename_i ds e
      obtain ⟨a, vs, rfl, hq2, rr⟩ := rv.sqT e
      have len : ∀ (ts : List Tg) (ds : List Dv) (ρ ρ' : Env), Tg.sets ts ds ρ = some ρ' → ts.length = ds.length := by
        intro ts
        induction ts with
        | nil => intro ds ρ ρ' h; cases ds with | nil => rfl | cons => simp [Tg.sets] at h
        | cons t ts ih =>
          intro ds ρ ρ' h
          cases ds with
          | nil => simp [Tg.sets] at h
          | cons d ds =>
            simp only [Tg.sets] at h
            split at h
            · simp [ih _ _ _ h]
            · cases h
      exact ⟨a, vs, rfl, hq2, by rw [rr.1, ← len _ _ _ _ hh, hl], μ, ρ, ds, ρ', hE, rr, hh, hq⟩
    · cases hh)⟩
theorem sc_asg {tg : Expr} {t : Tg} (he : SE X W e re) (hg : SG X tg t) (hs : swapsWithSole [tg] e pos.line X.env = pure false := by rfl) (hw : swappedStores [tg] e X.env = pure none := by rfl)
    (h1 : (assignEach [tg] X.env).map (·.2) = [assign tg X.env] := by rfl) : SC X W (.Assign [tg] e pos) (cAsg t re) :=
  PS.imp (ps_asg he hg hs hw h1) fun D σ H ⟨μ, ρ, S, hS, hE, h⟩ => (bndS hS hE h).mono fun v H1 ⟨μ1, S1, d, hS1, hE1, s1, rv, h1⟩ => by
    split at h1
    · rename_i ρ' e1
      exact ⟨μ1, ρ, d, ρ', hE1, rv, e1, fun σ' hE' _ _ => h1 μ1 σ' H1 hS1 hE' (.refl ..)⟩
    · exact h1.elim
abbrev rSetD : TSet := fun o i v H Q => ∃ a H', o = .ref a ∧ DPut H a i v H' ∧ Q H'
theorem set_all (hu : X.A.units + 1 < cLine) : PSet X (fun o i v H Q => rSetL o i v H Q ∨ rSetD o i v H Q) := by
  intro pins s σ H o i v ov iv u Q I ro ri rv h
  rcases h with h | ⟨a, H', rfl, g, q⟩
  · exact set_list pins s σ H o i v ov iv u Q I ro ri rv h
  · obtain rfl : ov = Value.ref a := ro
    exact d_setItem hu I g ri rv fun s' I' => ⟨H', I', q⟩
theorem sc_put (hu : X.A.units + 1 < cLine) (ho : SE X W o ro) (hk : SE X W k rk) (hv : SE X W v rv) (hs : swapsWithSole [.Subscript o k pos'] v pos.line X.env = pure false := by rfl) (hw : swappedStores [.Subscript o k pos'] v X.env = pure none := by rfl)
    (h1 : (assignEach [.Subscript o k pos'] X.env).map (·.2) = [assign (.Subscript o k pos') X.env] := by rfl)
    (ha : ∀ v, assign (.Subscript o k pos') X.env v = (do
      let ov ← holding [v] (eval o X.env)
      let iv ← holding [v, ov] (eval k X.env)
      standAt pos'
      holding [v, ov, iv] (setItem ov iv v)
      release [v, ov, iv] []) := by intro _; rfl) : SC X W (.Assign [.Subscript o k pos'] v pos) (cPut ro rk rv) :=
  PS.imp (ps_asg hv (pg_sub ho hk (set_all hu) ha) hs hw h1) fun D σ H ⟨μ, ρ, S, hS, hE, h⟩ => (bndS hS hE h).mono fun v H1 ⟨μ1, S1, d, hS1, hE1, s1, rv, h1⟩ =>
    (bndS hS1 hE1 h1).mono fun x H2 ⟨μ2, S2, d2, hS2, hE2, s2, rx, h2⟩ => (bndS hS2 hE2 h2).mono fun y H3 ⟨μ3, S3, d3, hS3, hE3, s3, ry, h3⟩ => by
      split at h3
      · rename_i S4 e4
        have rx3 := rx.step s3
        have rv3 := (rv.step s2).step s3
        have dict : ∀ (e : dput S3 d2 d3 d = some S4), rSetL x y v H3 (fun H' => D.nx σ H') ∨ rSetD x y v H3 (fun H' => D.nx σ H') := fun e => by
          obtain ⟨a, H', ex, g, hS4, s4⟩ := dput_rep hS3 rx3 ry rv3 e
          exact .inr ⟨a, H', ex, g, h3 μ3 σ H' hS4 (hE3.step s4) s4⟩
        unfold putD at e4
        split at e4
        · split at e4
          · rename_i xs e5
            split at e4
            · rename_i j e6
              cases e4
              cases rx3 with
              | ref hl =>
                cases ry
                obtain ⟨vs, e7, rr⟩ := hS3.at' e5 hl
                refine .inl ⟨_, vs, _, j, rfl, rfl, e7, by rw [rr.1]; exact e6, ?_⟩
                exact h3 μ3 σ _ (hS3.put hl ⟨_, upd_same, (rr.set rv3 j).step (step_put hS3 hl _)⟩) (hE3.step (step_put hS3 hl _)) (step_put hS3 hl _)
            · cases e4
          · exact dict e4
        · exact dict e4
      · exact h3.elim
/-- a op= e, by the operator's own rule in place -/
theorem sc_aug {i : Nat} {x : Str} {op : Operator} {f : Dv → Dv → Sto → Out Dv} {ti : TIp} (hN : X.N.Nodup) (hi : X.N[i]? = some x) (hx : Loc X.env.scope x) (he : SE X W e re) (ho : PIp X op ti) (hti : Op2 X.K f ti) (hf : X.fn x = true ∨ X.env.scope.names.lookup x = some .local := by first | exact .inl rfl | exact .inr rfl | assumption) :
    SC X W (.AugAssign (.Name x pos') op e pos) (cAug i f re) :=
  PS.imp (ps_aug hN hi hx he ho hf) fun D σ H ⟨μ, ρ, S, hS, hE, h⟩ => by
    unfold cAug eBin eVar at h
    split at h
    · rename_i d hd
      obtain ⟨v, e1, r⟩ := hE.2 i d hd
      refine ⟨v, e1, ?_⟩
      simp only [Out.bind_ok] at h
      cases q : re ρ S with
      | no => rw [q] at h; exact h.elim
      | ex x S1 =>
        rw [q] at h
        exact ⟨μ, ρ, S, hS, hE, by rw [q]; exact fun μ1 H1 cl dd a b c => h μ1 σ H1 cl dd a (hE.step b) b c⟩
      | ok y S1 =>
        rw [q] at h
        refine ⟨μ, ρ, S, hS, hE, ?_⟩
        rw [q]
        intro μ1 H1 yv hS1 s1 ry
        have h1 := h.step s1
        simp only [Out.bind_ok] at h1
        refine hti X.mg (W.at σ) μ1 H1 S1 v yv d y _ hS1 (r.step s1) ry ?_
        cases q2 : f d y S1 with
        | no => rw [q2] at h1; exact h1.elim
        | ex x S2 => rw [q2] at h1; exact fun μ2 H2 cl dd a b c => h1 μ2 σ H2 cl dd a ((hE.step s1).step b) b c
        | ok z S2 =>
          rw [q2] at h1
          exact fun μ2 H2 zv hS2 s2 rz => h1 μ2 _ H2 hS2 (((hE.step s1).step s2).set rz i) s2
    · exact h.elim
def addI (x y : Dv) (S : Sto) : Out Dv := match x, y with
  | .int i, .int j => .ok (.int (i + j)) S
  | _, _ => .no
theorem o_addI {K : PySem.W.Frag} : Op2 K addI (ipI fun i j => i + j) := by
  intro mg Wx μ H S x y d e Q hS rx ry h
  cases rx <;> cases ry <;> first | exact h.elim | exact ⟨_, _, rfl, rfl, h.ok hS (.int _)⟩
end
end PL

namespace PL
open PySem PySem.Spec PyProof.Rows L2

/-! ### what is walked -/
/-- what must stand still while a loop goes -/
inductive Ck where
  | tt | ls (l : Nat) (ds : List Dv) | and (a b : Ck)
def Ck.ok : Ck → Sto → Prop
  | .tt, _ => True
  | .ls l ds, S => S[l]? = some (.lst ds)
  | .and a b, S => a.ok S ∧ b.ok S
abbrev RI := Env → Sto → Out (List Dv × Ck)
/-- an iterator that yields the items, as long as what it walks stands -/
def ItR (K : PySem.W.Frag) (μ : List Addr) (H : Hp) (J : It) (w : List Dv × Ck) : Prop :=
  ∀ (μ' : List Addr) (S' : Sto) (H' : Hp) (i : Nat), Step μ H μ' H' → SimS K μ' S' H' → w.2.ok S' →
    (i = w.1.length → J.stop i H') ∧ ∀ d, w.1[i]? = some d → J.go i H' ∧ ∀ x H'', J.yld i H' x H'' → Step μ' H' μ' H'' ∧ SimS K μ' S' H'' ∧ Rep K μ' H'' x d
def tI (K : PySem.W.Frag) (mg : Str → Option Value) (W : WX) (r : RI) : TI := fun σ H R => ∃ μ ρ S, SimS K μ S H ∧ SimE K μ H ρ σ ∧
  match r ρ S with
  | .ok w S1 => ∀ μ1 H1 J, SimS K μ1 S1 H1 → Step μ H μ1 H1 → ItR K μ1 H1 J w → R J H1
  | .ex x S1 => ∀ μ1 H1 cls dd, SimS K μ1 S1 H1 → Step μ H μ1 H1 → XRep K mg μ1 H1 x cls dd → W cls dd σ H1
  | .no => False
abbrev SI (X : Cx) (W : WX) (tg iter : Expr) (r : RI) : Prop := PI X tg iter (tI X.K X.mg W r)
theorem PI.imp {X : Cx} {tg e : Expr} {t t' : TI} (h : PI X tg e t) (i : ∀ σ H Q, t' σ H Q → t σ H Q) : PI X tg e t' := ⟨fun pins s σ H Q I w => h.run pins s σ H Q I (i σ H Q w)⟩
theorem PI.or {X : Cx} {tg e : Expr} {t t' : TI} (h : PI X tg e t) (h' : PI X tg e t') : PI X tg e (fun σ H Q => t σ H Q ∨ t' σ H Q) :=
  ⟨fun pins s σ H Q I w => w.elim (h.run pins s σ H Q I) (h'.run pins s σ H Q I)⟩
def ckOf : Dv → List Dv → Ck
  | .ref l, ds => .ls l ds
  | _, _ => .tt
def chars (x : Str) : List Dv := x.cps.toList.map fun c => .str ⟨#[c]⟩
/-- a list, a tuple, a text -/
def walkD (d : Dv) (S : Sto) : Option (List Dv × Ck) := match d with
  | .str x => some (chars x, .tt)
  | _ => (seqOf S d).map fun ds => (ds, ckOf d ds)
def iSeq (e : RE) : RI := fun ρ S => (e ρ S).bind fun d S1 => match walkD d S1 with
  | some w => .ok w S1
  | none => .no
def rangeL (lo hi : Int) : List Dv := (List.range (hi - lo).toNat).map fun (i : Nat) => .int (lo + i)
noncomputable def rok (i : Int) : Bool := @decide (-(2 ^ 62) ≤ i ∧ i < 2 ^ 62) (Classical.propDecidable _)
noncomputable def rng1 : List Dv → Option (List Dv)
  | [.int j] => if rok j = true then some (rangeL 0 j) else none
  | _ => none
noncomputable def rng2 : List Dv → Option (List Dv)
  | [.int i, .int j] => if rok i = true ∧ rok j = true then some (rangeL i j) else none
  | _ => none
def downL (hi lo : Int) : List Dv := (List.range (hi - lo).toNat).map fun (i : Nat) => .int (hi - i)
noncomputable def rng3 : List Dv → Option (List Dv)
  | [.int i, .int j, .int c] => if rok i = true ∧ rok j = true ∧ c = -1 then some (downL i j) else none
  | _ => none
def iRange (f : List Dv → Option (List Dv)) (a : RA) : RI := fun ρ S => (a ρ S).bind fun ds S1 => match f ds with
  | some w => .ok (w, .tt) S1
  | none => .no
section
variable {K : PySem.W.Frag} {mg : Str → Option Value} {W : WX} {μ μ1 : List Addr} {H H1 : Hp} {S S1 : Sto} {σ : L2.St} {ρ : Env}
theorem itr_tup {a : Addr} {vs : List V} {ds : List Dv} (h : ∀ μ' H', Step μ H μ' H' → SqT K H' a vs) (r : Reps K μ H vs ds) : ItR K μ H (Itt K a) (ds, .tt) := by
  intro μ' S' H' i st hS _
  have q := h μ' H' st
  refine ⟨fun e => ⟨vs, q, by rw [r.1]; exact Nat.le_of_eq e.symm⟩, fun d hd => ?_⟩
  obtain ⟨v, hv, rv⟩ := r.get hd
  refine ⟨⟨vs, v, q, hv⟩, fun x H'' y => ?_⟩
  obtain ⟨rfl, y⟩ := y
  have := y vs q
  rw [hv] at this; cases this
  exact ⟨.refl .., hS, rv.step st⟩
theorem sqT_keep {v : V} {d : Dv} {ds : List Dv} (r : Rep K μ H v d) (e : tupOf d = some ds) : ∃ a vs, v = .ref a ∧ Reps K μ H vs ds ∧ SqT K H a vs ∧ ∀ μ' H', Step μ H μ' H' → SqT K H' a vs := by
  cases r with
  | tup t l q => simp only [tupOf, Option.some.injEq] at e; subst e; exact ⟨_, _, rfl, ⟨l, q⟩, .of t.1, fun μ' H' s => .of (t.step s).1⟩
  | kt t l q => simp only [tupOf, Option.some.injEq] at e; subst e; exact ⟨_, _, rfl, ⟨l, q⟩, .inr t, fun μ' H' s => .inr t⟩
  | _ => simp [tupOf] at e
/-- a list: read-only, or one of the store that stands still -/
theorem itr_list {v : V} {d : Dv} {ds : List Dv} (hS : SimS K μ S H) (r : Rep K μ H v d) (e : lstOf S d = some ds) :
    ∃ a vs, v = .ref a ∧ SqL K H a vs ∧ ∀ μ' S' H', Step μ H μ' H' → SimS K μ' S' H' → (ckOf d ds).ok S' → ∃ ws, SqL K H' a ws ∧ Reps K μ' H' ws ds := by
  cases r with
  | fl t l q =>
    simp only [lstOf, Option.some.injEq] at e; subst e
    have k : ∀ {H' : Hp} {μ' : List Addr} {a : Addr} {vs : List V}, LisAt K μ' H' a vs → SqL K H' a vs := fun t => by
      rcases t with ⟨⟨o, t⟩, _⟩ | t
      · exact .inl (.inr ⟨o, t⟩)
      · exact .inr t
    exact ⟨_, _, rfl, k t, fun μ' S' H' st _ _ => ⟨_, k (t.step st), Reps.step st ⟨l, q⟩⟩⟩
  | @ref l a hl =>
    have e0 := e
    simp only [lstOf] at e
    split at e
    · rename_i es hs
      cases e
      obtain ⟨vs, e1, rr⟩ := hS.at' hs hl
      refine ⟨a, vs, rfl, .of e1, fun μ' S' H' st hS' ck => ?_⟩
      obtain ⟨ws, e2, r2⟩ := hS'.at' ck (st.get hl)
      exact ⟨ws, .of e2, r2⟩
    · cases e
  | _ => simp [lstOf] at e
theorem itr_of_list {a : Addr} {w : List Dv × Ck} (h : ∀ μ' S' H', Step μ H μ' H' → SimS K μ' S' H' → w.2.ok S' → ∃ ws, SqL K H' a ws ∧ Reps K μ' H' ws w.1) : ItR K μ H (Itl K a) w := by
  intro μ' S' H' i st hS ck
  obtain ⟨ws, q, r⟩ := h μ' S' H' st hS ck
  refine ⟨fun e => ⟨ws, q, by rw [r.1]; exact Nat.le_of_eq e.symm⟩, fun d hd => ?_⟩
  obtain ⟨v, hv, rv⟩ := r.get hd
  refine ⟨⟨ws, v, q, hv⟩, fun x H'' y => ?_⟩
  obtain ⟨rfl, y⟩ := y
  have := y ws q
  rw [hv] at this; cases this
  exact ⟨.refl .., hS, rv⟩
theorem itr_range {lo hi : Int} : ItR K μ H (Itr lo (hi - lo).toNat) (rangeL lo hi, .tt) := by
  intro μ' S' H' i st hS _
  refine ⟨fun e => by have : i = (hi - lo).toNat := by rw [e]; simp [rangeL]
                      exact Nat.le_of_eq this.symm, fun d hd => ?_⟩
  have hi' := (List.getElem?_eq_some_iff.mp hd).1
  simp only [rangeL, List.length_map, List.length_range] at hi'
  refine ⟨hi', fun x H'' y => ?_⟩
  obtain ⟨rfl, rfl⟩ := y
  simp only [rangeL, List.getElem?_map, List.getElem?_range hi', Option.map_some, Option.some.injEq] at hd
  subst hd
  exact ⟨.refl .., hS, .int _⟩
theorem itr_str {x : Str} : ItR K μ H (Its x) (chars x, .tt) := by
  intro μ' S' H' i st hS _
  have hl : (chars x).length = x.cps.size := by simp [chars]
  refine ⟨fun e => Nat.le_of_eq (hl.symm.trans e.symm), fun d hd => ?_⟩
  have hi := (List.getElem?_eq_some_iff.mp hd).1
  refine ⟨(show i < x.cps.size by rw [← hl]; exact hi), fun v H'' y => ?_⟩
  obtain ⟨rfl, c, hc, rfl⟩ := y
  have hd' : (chars x)[i]? = some d := hd
  simp only [chars, List.getElem?_map, Array.getElem?_toList, hc, Option.map_some, Option.some.injEq] at hd'
  subst hd'
  exact ⟨.refl .., hS, .str _⟩
end
section
variable {X : Cx} {W : WX} {tg e : Expr} {re : RE} {ra : RA} {p pos : Pos}
theorem si_seq (he : SE X W e re) : SI X W tg e (iSeq re) :=
  PI.imp (PI.or (pi_list he) (PI.or (pi_tup he) (pi_str he))) fun σ H R ⟨μ, ρ, S, hS, hE, h⟩ => by
    unfold iSeq at h
    cases q : re ρ S with
    | no => rw [q] at h; exact h.elim
    | ex x S1 => rw [q] at h; exact .inl ⟨μ, ρ, S, hS, hE, by rw [q]; exact h⟩
    | ok d S1 =>
      rw [q] at h
      simp only [Out.bind_ok] at h
      cases ew : walkD d S1 with
      | none => rw [ew] at h; exact h.elim
      | some w =>
        rw [ew] at h
        unfold walkD at ew
        split at ew
        · cases ew
          refine .inr (.inr ⟨μ, ρ, S, hS, hE, ?_⟩)
          rw [q]
          intro μ1 H1 v a b r
          cases r
          exact ⟨_, rfl, h μ1 H1 _ a b itr_str⟩
        · rw [Option.map_eq_some_iff] at ew
          obtain ⟨ds, e1, rfl⟩ := ew
          unfold seqOf at e1
          split at e1
          · rename_i es e2
            cases e1
            refine .inr (.inl ⟨μ, ρ, S, hS, hE, ?_⟩)
            rw [q]
            intro μ1 H1 v a b r
            obtain ⟨ad, vs, rfl, rr, hq, kp⟩ := sqT_keep r e2
            have ck : ckOf d ds = .tt := by cases d <;> first | rfl | simp [tupOf] at e2
            rw [ck] at h
            exact ⟨ad, rfl, ⟨vs, hq⟩, h μ1 H1 _ a b (itr_tup kp rr)⟩
          · refine .inl ⟨μ, ρ, S, hS, hE, ?_⟩
            rw [q]
            intro μ1 H1 v a b r
            obtain ⟨ad, vs, rfl, hq, kp⟩ := itr_list a r e1
            exact ⟨ad, rfl, ⟨vs, hq⟩, h μ1 H1 _ a b (itr_of_list kp)⟩
theorem rok_iff {i : Int} : rok i = true ↔ -(2 ^ 62) ≤ i ∧ i < 2 ^ 62 := by unfold rok; exact @decide_eq_true_iff _ (Classical.propDecidable _)
/-- a walk over values -/
theorem iRange_met {K : PySem.W.Frag} {mg : Str → Option Value} {f : List Dv → Option (List Dv)} {σ : L2.St} {H : Hp} {R : It → Hp → Prop} (h : tI K mg W (iRange f ra) σ H R) {Q : List V → Hp → Prop}
    (hq : ∀ μ1 H1 S1 vs ds w, SimS K μ1 S1 H1 → Reps K μ1 H1 vs ds → f ds = some w → (∀ J, ItR K μ1 H1 J (w, .tt) → R J H1) → Q vs H1) : tG (Reps K) K mg W ra σ H Q := by
  obtain ⟨μ, ρ, S, hS, hE, h⟩ := h
  refine ⟨μ, ρ, S, hS, hE, ?_⟩
  unfold iRange at h
  cases q : ra ρ S with
  | no => rw [q] at h; exact h.elim
  | ex x S1 => rw [q] at h; exact h
  | ok ds S1 =>
    rw [q] at h
    simp only [Out.bind_ok] at h
    intro μ1 H1 vs a b r
    cases ew : f ds with
    | none => rw [ew] at h; exact h.elim
    | some w => rw [ew] at h; exact hq μ1 H1 S1 vs ds w a r ew fun J hj => h μ1 H1 J a b hj
theorem si_range1 {a : Expr} (hg : Gl X "range") (hm : X.mg "range" = none) (ha : SA X W [a] ra) (hs : starEach [a] X.env = [(false, eval a X.env)] := by rfl) : SI X W tg (.Call (.Name "range" p) [a] [] pos) (iRange rng1 ra) :=
  PI.imp (pi_range1 hg hm ha hs) fun σ H R h => iRange_met h fun μ1 H1 S1 vs ds w a r ew hR => by
    unfold rng1 at ew
    split at ew
    · rename_i j
      obtain ⟨v, rfl, rv⟩ := r.get1
      cases rv
      split at ew
      · rename_i hj
        cases ew
        obtain ⟨h1, h2⟩ := rok_iff.mp hj
        refine ⟨j, rfl, h1, h2, hR _ ?_⟩
        have e : j.toNat = (j - 0).toNat := by rw [Int.sub_zero]
        rw [e]
        exact itr_range
      · cases ew
    · cases ew
theorem si_range2 {a b : Expr} (hg : Gl X "range") (hm : X.mg "range" = none) (ha : SA X W [a, b] ra) (hs : starEach [a, b] X.env = [(false, eval a X.env), (false, eval b X.env)] := by rfl) (hs2 : starEach [b] X.env = [(false, eval b X.env)] := by rfl) :
    SI X W tg (.Call (.Name "range" p) [a, b] [] pos) (iRange rng2 ra) :=
  PI.imp (pi_range2 hg hm ha hs hs2) fun σ H R h => iRange_met h fun μ1 H1 S1 vs ds w a r ew hR => by
    unfold rng2 at ew
    split at ew
    · rename_i i j
      obtain ⟨v, u, rfl, rv, ru⟩ := r.get2
      cases rv; cases ru
      split at ew
      · rename_i hj
        cases ew
        obtain ⟨h1, h2⟩ := rok_iff.mp hj.1
        obtain ⟨h3, h4⟩ := rok_iff.mp hj.2
        exact ⟨i, j, rfl, ⟨h1, h2, h3, h4⟩, hR _ itr_range⟩
      · cases ew
    · cases ew
theorem itr_down {K : PySem.W.Frag} {μ : List Addr} {H : Hp} {lo hi : Int} : ItR K μ H (Itc hi (-1) (hi - lo).toNat) (downL hi lo, .tt) := by
  intro μ' S' H' i st hS _
  have hl : (downL hi lo).length = (hi - lo).toNat := by simp [downL]
  refine ⟨fun e => Nat.le_of_eq (hl.symm.trans e.symm), fun d hd => ?_⟩
  have hi' : i < (hi - lo).toNat := by rw [← hl]; exact (List.getElem?_eq_some_iff.mp hd).1
  refine ⟨hi', fun x H'' y => ?_⟩
  obtain ⟨rfl, rfl⟩ := y
  have hd' : (downL hi lo)[i]? = some d := hd
  simp only [downL, List.getElem?_map, List.getElem?_range hi', Option.map_some, Option.some.injEq] at hd'
  subst hd'
  have e : hi + (i : Nat) * (-1) = hi - (i : Int) := by omega
  rw [e]
  exact ⟨.refl .., hS, .int _⟩
theorem si_range3 {a b c : Expr} (hg : Gl X "range") (hm : X.mg "range" = none) (ha : SA X W [a, b, c] ra)
    (hs : starEach [a, b, c] X.env = (false, eval a X.env) :: starEach [b, c] X.env := by rfl) (hs2 : (backTo pos (starEach [b, c] X.env)).any (·.1) = false := by rfl) : SI X W tg (.Call (.Name "range" p) [a, b, c] [] pos) (iRange rng3 ra) :=
  PI.imp (pi_range3 hg hm ha hs hs2) fun σ H R h => iRange_met h fun μ1 H1 S1 vs ds w a r ew hR => by
    unfold rng3 at ew
    split at ew
    · rename_i i j c
      obtain ⟨v, ws, rfl, rv, r2⟩ := r.uncons
      obtain ⟨u, u2, rfl, ru, ru2⟩ := r2.get2
      cases rv; cases ru; cases ru2
      split at ew
      · rename_i hj
        cases ew
        obtain ⟨h1, h2⟩ := rok_iff.mp hj.1
        obtain ⟨h3, h4⟩ := rok_iff.mp hj.2.1
        rw [hj.2.2]
        exact ⟨i, j, -1, (i - j).toNat, rfl, RgC.neg h1 h2 h3 h4, hR _ itr_down⟩
      · cases ew
    · cases ew
/-- items, by pairs that are made in the turn -/
def enumL (ds : List Dv) (n : Nat := 0) : List Dv := match ds with
  | [] => []
  | d :: r => .tup [.int n, d] :: enumL r (n + 1)
theorem enumL_get : ∀ (ds : List Dv) (n i : Nat), (enumL ds n)[i]? = (ds[i]?).map fun d => .tup [.int ((n + i : Nat) : Int), d]
  | [], n, i => by simp [enumL]
  | d :: r, n, 0 => by simp [enumL]
  | d :: r, n, i + 1 => by
    rw [enumL, List.getElem?_cons_succ, List.getElem?_cons_succ, enumL_get r (n + 1) i]
    have e : n + 1 + i = n + (i + 1) := by omega
    rw [e]
theorem enumL_len : ∀ (ds : List Dv) (n : Nat), (enumL ds n).length = ds.length
  | [], _ => rfl
  | _ :: r, n => by rw [enumL, List.length_cons, List.length_cons, enumL_len r]
theorem itr_enum {K : PySem.W.Frag} {μ : List Addr} {H : Hp} {a : Addr} {ds : List Dv} {ck : Ck} (h : ∀ μ' S' H', Step μ H μ' H' → SimS K μ' S' H' → ck.ok S' → ∃ ws, SqL K H' a ws ∧ Reps K μ' H' ws ds) : ItR K μ H (Ite K a) (enumL ds, ck) := by
  intro μ' S' H' i st hS hck
  obtain ⟨ws, q, r⟩ := h μ' S' H' st hS hck
  refine ⟨fun e => ⟨ws, q, by rw [r.1]; rw [show (enumL ds, ck).1.length = ds.length from enumL_len ds 0] at e; omega⟩, fun d hd => ?_⟩
  have hd' : (enumL ds)[i]? = some d := hd
  rw [enumL_get, Option.map_eq_some_iff] at hd'
  obtain ⟨d', hd', rfl⟩ := hd'
  obtain ⟨v, hv, rv⟩ := r.get hd'
  refine ⟨⟨ws, v, q, hv⟩, fun x H'' y => ?_⟩
  obtain ⟨T, z, rfl, hT, rfl, y⟩ := y
  have := y ws q
  rw [hv] at this; cases this
  have rr : Reps K μ' H' [.int (i : Nat), v] [.int ((0 + i : Nat) : Int), d'] := by
    rw [Nat.zero_add]
    exact (Reps.one rv).cons (.int _)
  exact ⟨step_lay hS hT _, hS.lay hT _, .tup ⟨upd_same, hS.fresh hT⟩ rr.1 (rr.step (step_lay hS hT _)).2⟩
def iEnum (a : RA) : RI := fun ρ S => (a ρ S).bind fun ds S1 => match ds with
  | [d] => match lstOf S1 d with
    | some xs => .ok (enumL xs, ckOf d xs) S1
    | none => .no
  | _ => .no
theorem si_enum {elts : List Expr} {kk : Nat} {tpos : Pos} (hg : Gl X "enumerate") (hm : X.mg "enumerate" = none) (ha : SA X W [e] ra) (hs : starEach [e] X.env = [(false, eval e X.env)] := by rfl) : SI X W (.Tuple elts kk tpos) (.Call (.Name "enumerate" p) [e] [] pos) (iEnum ra) :=
  PI.imp (pi_enum hg hm ha hs) fun σ H R ⟨μ, ρ, S, hS, hE, h⟩ => by
    refine ⟨μ, ρ, S, hS, hE, ?_⟩
    unfold iEnum at h
    cases q : ra ρ S with
    | no => rw [q] at h; exact h.elim
    | ex x S1 => rw [q] at h; exact h
    | ok ds S1 =>
      rw [q] at h
      simp only [Out.bind_ok] at h
      intro μ1 H1 vs a b r
      cases ds with
      | nil => exact h.elim
      | cons d ds =>
        cases ds with
        | cons => exact h.elim
        | nil =>
          obtain ⟨v, rfl, rv⟩ := r.get1
          cases el : lstOf S1 d with
          | none => simp only [el] at h
          | some xs =>
            simp only [el] at h
            obtain ⟨ad, us, rfl, hq, kp⟩ := itr_list a rv el
            exact ⟨ad, us, rfl, hq, h μ1 H1 _ a b (itr_enum kp)⟩
end

/-! ### for, comprehensions, while -/
def loop (ck : Sto → Prop) [∀ S, Decidable (ck S)] (t : Tg) (b : RC) : List Dv → Env → Sto → OutS
  | [], ρ, S => if ck S then .fl (.nx ρ) S else .no
  | d :: ds, ρ, S => if ck S then match t.set d ρ with
    | some ρ1 => match b ρ1 S with
      | .fl (.nx ρ2) S2 => loop ck t b ds ρ2 S2
      | .fl (.ct ρ2) S2 => loop ck t b ds ρ2 S2
      | .fl (.bk ρ2) S2 => .fl (.nx ρ2) S2
      | o => o
    | none => .no else .no
noncomputable instance (c : Ck) (S : Sto) : Decidable (c.ok S) := Classical.propDecidable _
noncomputable def cFor (r : RI) (t : Tg) (b : RC) : RC := fun ρ S => bindS (r ρ S) ρ fun w S1 => loop w.2.ok t b w.1 ρ S1
def wipeE (ρ : Env) : List Nat → Env
  | [] => ρ
  | v :: vs => (wipeE ρ vs).set v none
def compL (ck : Sto → Prop) [∀ S, Decidable (ck S)] (t : Tg) (c : RT) (y : RE) (ρ : Env) : List Dv → List Dv → Sto → Out (List Dv)
  | [], acc, S => if ck S then .ok acc S else .no
  | d :: ds, acc, S => if ck S then match t.set d ρ with
    | some ρ1 => (c ρ1 S).bindN fun k S1 => if k = true then (y ρ1 S1).bindN fun z S2 => if acc.length < sizeLine then compL ck t c y ρ ds (acc ++ [z]) S2 else .no else compL ck t c y ρ ds acc S1
    | none => .no else .no
def cYes : RT := fun _ S => .ok true S
noncomputable def eComp (r : RI) (t : Tg) (c : RT) (y : RE) (vs : List Nat) : RE := fun ρ S => (r ρ S).bind fun w S1 => (compL w.2.ok t c y (wipeE ρ vs) w.1 [] S1).bind newL
def loopW : Nat → RT → RC → RC
  | 0, _, _ => fun _ _ => .no
  | n + 1, c, b => fun ρ S => bindS (c ρ S) ρ fun k S1 => if k = true then match b ρ S1 with
    | .fl (.nx ρ2) S2 => loopW n c b ρ2 S2
    | .fl (.ct ρ2) S2 => loopW n c b ρ2 S2
    | .fl (.bk ρ2) S2 => .fl (.nx ρ2) S2
    | o => o else .fl (.nx ρ) S1
open Classical in
noncomputable def cWhile (c : RT) (b : RC) : RC := fun ρ S => if h : ∃ n, loopW n c b ρ S ≠ .no then loopW h.choose c b ρ S else .no
theorem loopW_mono {c : RT} {b : RC} : ∀ (n m : Nat) (ρ : Env) (S : Sto), n ≤ m → loopW n c b ρ S ≠ .no → loopW m c b ρ S = loopW n c b ρ S
  | 0, _, _, _, _, h => absurd rfl h
  | n + 1, 0, _, _, h, _ => by omega
  | n + 1, m + 1, ρ, S, hl, h => by
    simp only [loopW] at h ⊢
    cases q : c ρ S with
    | no => rfl
    | ex x S1 => rfl
    | ok k S1 =>
      rw [q] at h
      simp only [bindS_ok] at h ⊢
      cases k with
      | false => rfl
      | true =>
        simp only [if_true] at h ⊢
        cases q2 : b ρ S1 with
        | no => rfl
        | ex x ρ2 S2 => rfl
        | fl f S2 =>
          rw [q2] at h
          cases f with
          | nx ρ2 => exact loopW_mono n m ρ2 S2 (by omega) h
          | ct ρ2 => exact loopW_mono n m ρ2 S2 (by omega) h
          | bk ρ2 => rfl
          | rt d => rfl
theorem cWhile_of {c : RT} {b : RC} {ρ : Env} {S : Sto} (n : Nat) (h : loopW n c b ρ S ≠ .no) : cWhile c b ρ S = loopW n c b ρ S := by
  unfold cWhile
  have hx : ∃ n, loopW n c b ρ S ≠ .no := ⟨n, h⟩
  rw [dif_pos hx]
  rcases Nat.le_total n hx.choose with l | l
  · exact loopW_mono _ _ ρ S l h
  · exact (loopW_mono _ _ ρ S l hx.choose_spec).symm
section
variable {X : Cx} {W : WX} {tg iter c elt : Expr} {body : List Stmt} {r : RI} {t : Tg} {b : RC} {rc : RT} {ry : RE} {pos : Pos}
theorem sc_for (hp : PassesOwn (model X.prog X.w) X.A X.env X.xe) (hc : X.calm = true) (hi : SI X W tg iter r) (hg : SG X tg t) (hb : SCs X W body b) (hs : ∀ x, foldedSetIterable iter X.env x = pure x := by intro _; rfl) : SC X W (.For tg iter body [] pos) (cFor r t b) :=
  PS.imp (ps_for hp hc hi hg hb hs) fun D σ H ⟨μ, ρ, S, hS, hE, h⟩ => by
    refine ⟨μ, ρ, S, hS, hE, ?_⟩
    unfold cFor at h
    cases q : r ρ S with
    | no => rw [q] at h; exact h.elim
    | ex x S1 => rw [q] at h; exact fun μ1 H1 cls dd a b c => h μ1 σ H1 cls dd a (hE.step b) b c
    | ok w S1 =>
      rw [q] at h
      intro μ1 H1 J hS1 s1 hJ
      refine ⟨fun i m σ' H' => ∃ μ' ρ' S', SimS X.K μ' S' H' ∧ SimE X.K μ' H' ρ' σ' ∧ Step μ1 H1 μ' H' ∧ m = w.1.length - i ∧ i ≤ w.1.length ∧ MetS X.K X.mg W μ' H' (loop w.2.ok t b (w.1.drop i) ρ' S') D,
        ⟨_, μ1, ρ, S1, hS1, hE.step s1, .refl .., rfl, Nat.zero_le _, by rw [List.drop_zero]; exact h.step s1⟩, ?_⟩
      rintro i m σ' H' ⟨μ', ρ', S', hS', hE', s', rfl, hil, hm⟩
      by_cases hlt : i < w.1.length
      · rw [List.drop_eq_getElem_cons hlt, loop] at hm
        split at hm
        · rename_i hck
          obtain ⟨_, hgo⟩ := hJ μ' S' H' i s' hS' hck
          obtain ⟨go, yl⟩ := hgo w.1[i] (List.getElem?_eq_getElem hlt)
          split at hm
          · rename_i ρ1 e1
            refine .inr ⟨go, fun σ2 H2 => ∃ μ2 ρ2 S2, SimS X.K μ2 S2 H2 ∧ SimE X.K μ2 H2 ρ2 σ2 ∧ Step μ1 H1 μ2 H2 ∧ MetS X.K X.mg W μ2 H2 (loop w.2.ok t b (w.1.drop (i + 1)) ρ2 S2) D,
              fun σ2 H2 ⟨μ2, ρ2, S2, a1, a2, a3, a4⟩ => ⟨_, by omega, μ2, ρ2, S2, a1, a2, a3, rfl, hlt, a4⟩, fun x H2 y => ?_⟩
            obtain ⟨s2, hS2, rx⟩ := yl x H2 y
            refine ⟨μ', ρ', _, ρ1, hE'.step s2, rx, e1, fun σ2 hE2 _ _ => ⟨μ', ρ1, S', hS2, hE2, ?_⟩⟩
            have hm2 := hm
            cases q2 : b ρ1 S' with
            | no => rw [q2] at hm2; exact hm2.elim
            | ex x ρ3 S3 => rw [q2] at hm2; exact fun μ3 σ3 H3 cl dd a1 a2 a3 a4 => hm2 μ3 σ3 H3 cl dd a1 a2 (s2.trans a3) a4
            | fl f S3 =>
              rw [q2] at hm2
              cases f with
              | nx ρ3 => exact fun μ3 σ3 H3 a1 a2 a3 => ⟨μ3, ρ3, S3, a1, a2, s'.trans (s2.trans a3), hm2.step (s2.trans a3)⟩
              | ct ρ3 => exact fun μ3 σ3 H3 a1 a2 a3 => ⟨μ3, ρ3, S3, a1, a2, s'.trans (s2.trans a3), hm2.step (s2.trans a3)⟩
              | bk ρ3 => exact fun μ3 σ3 H3 a1 a2 a3 => hm2 μ3 σ3 H3 a1 a2 (s2.trans a3)
              | rt d => exact fun μ3 v3 H3 a1 a2 a3 => hm2 μ3 v3 H3 a1 (s2.trans a2) a3
          · exact hm.elim
        · exact hm.elim
      · have e : i = w.1.length := by omega
        rw [List.drop_of_length_le (by omega), loop] at hm
        split at hm
        · rename_i hck
          exact .inl ⟨(hJ μ' S' H' i s' hS' hck).1 e, hm μ' σ' H' hS' hE' (.refl ..)⟩
        · exact hm.elim
theorem sc_while (hp : PassesOwn (model X.prog X.w) X.A X.env X.xe) (hc : ST X W c rc) (hb : SCs X W body b) : SC X W (.While c body [] pos) (cWhile rc b) :=
  PS.imp (ps_while hp hc hb) fun D σ H ⟨μ, ρ, S, hS, hE, h⟩ => by
    unfold cWhile at h
    split at h
    · rename_i hx
      refine ⟨fun m σ' H' => ∃ μ' ρ' S', SimS X.K μ' S' H' ∧ SimE X.K μ' H' ρ' σ' ∧ MetS X.K X.mg W μ' H' (loopW m rc b ρ' S') D, ⟨_, μ, ρ, S, hS, hE, h⟩, ?_⟩
      rintro m σ' H' ⟨μ', ρ', S', hS', hE', hm⟩
      cases m with
      | zero => exact hm.elim
      | succ m =>
        simp only [loopW] at hm
        refine (bndS (R1 := RBool) hS' hE' hm).mono fun v H1 ⟨μ1, S1, d, hS1, hE1, s1, rv, h1⟩ => ?_
        cases (show v = d from rv)
        cases v with
        | false => exact h1 μ1 σ' H1 hS1 hE1 (.refl ..)
        | true =>
          simp only [if_true] at h1
          refine ⟨fun σ2 H2 => ∃ μ2 ρ2 S2, SimS X.K μ2 S2 H2 ∧ SimE X.K μ2 H2 ρ2 σ2 ∧ MetS X.K X.mg W μ2 H2 (loopW m rc b ρ2 S2) D, fun σ2 H2 h2 => ⟨m, Nat.lt_succ_self m, h2⟩, μ1, ρ', S1, hS1, hE1, ?_⟩
          cases q2 : b ρ' S1 with
          | no => rw [q2] at h1; exact h1.elim
          | ex x ρ3 S3 => rw [q2] at h1; exact h1
          | fl f S3 =>
            rw [q2] at h1
            cases f with
            | nx ρ3 => exact fun μ3 σ3 H3 a1 a2 a3 => ⟨μ3, ρ3, S3, a1, a2, h1.step a3⟩
            | ct ρ3 => exact fun μ3 σ3 H3 a1 a2 a3 => ⟨μ3, ρ3, S3, a1, a2, h1.step a3⟩
            | bk ρ3 => exact h1
            | rt d => exact h1
    · exact h.elim
end
end PL

namespace PL
open PySem PySem.Spec PyProof.Rows L2

section
variable {K : PySem.W.Frag} {mg : Str → Option Value} {W : WX} {μ μ1 : List Addr} {H H1 : Hp} {S S1 : Sto} {σ : L2.St} {ρ : Env}
theorem wipeE_rep (h : SimE K μ H ρ σ) : ∀ vs : List Nat, SimE K μ H (wipeE ρ vs) (wipe σ vs)
  | [] => h
  | v :: vs => by
    have ih := wipeE_rep h vs
    refine ⟨by simp only [wipeE, wipe, List.length_set]; exact ih.1, fun i d hd => ?_⟩
    simp only [wipeE] at hd
    by_cases hv : v = i
    · subst hv
      have hl : v < (wipeE ρ vs).length := by have := (List.getElem?_eq_some_iff.mp hd).1; simpa using this
      rw [List.getElem?_set_self hl] at hd; cases hd
    · rw [List.getElem?_set_ne hv] at hd
      obtain ⟨u, e1, r1⟩ := ih.2 i d hd
      exact ⟨u, by simp only [wipe]; rw [List.getElem?_set_ne hv]; exact e1, r1⟩
theorem wipe_same {σ σ' : L2.St} (hl : σ'.length = σ.length) : ∀ {vs : List Nat}, (∀ j, j ∉ vs → σ'[j]? = σ[j]?) → wipe σ' vs = wipe σ vs := by
  intro vs h
  refine List.ext_getElem? fun j => ?_
  by_cases hj : j ∈ vs
  · have : ∀ {τ : L2.St} {vs : List Nat}, j ∈ vs → j < τ.length → (wipe τ vs)[j]? = some none := by
      intro τ vs
      induction vs with
      | nil => intro h _; cases h
      | cons v vs ih =>
        intro h hlt
        simp only [wipe]
        by_cases hv : v = j
        · subst hv; rw [List.getElem?_set_self (by rw [wipe_length]; exact hlt)]
        · rw [List.getElem?_set_ne hv]
          rcases List.mem_cons.mp h with e | h
          · exact absurd e.symm hv
          · exact ih h hlt
    by_cases hlt : j < σ.length
    · rw [this hj (by rw [hl]; exact hlt), this hj hlt]
    · rw [List.getElem?_eq_none (by rw [wipe_length, hl]; omega), List.getElem?_eq_none (by rw [wipe_length]; omega)]
  · rw [wipe_out hj, wipe_out hj, h j hj]
end
section
variable {K : PySem.W.Frag} {μ μ' μ1 μ2 : List Addr} {H H' H1 H2 : Hp} {S S' S1 : Sto} {D : Addr} {us ws : List V} {v : V} {d : Dv}
theorem rep_priv (hD : H D = some (.lst us)) (r : Rep K μ H v d) : Rep K μ (upd H D (.lst ws)) v d := by
  induction r with
  | non => exact .non
  | bl b => exact .bl b
  | int i => exact .int i
  | str x => exact .str x
  | ref h => exact .ref h
  | kt h e _ ih => exact .kt h e fun i v d h1 h2 => ih i v d h1 h2
  | tup h e _ ih => exact .tup ⟨by rw [upd_ne (ne_of h.1 hD (by intro z; cases z))]; exact h.1, h.2⟩ e fun i v d h1 h2 => ih i v d h1 h2
  | fl h e _ ih =>
    refine .fl ?_ e fun i v d h1 h2 => ih i v d h1 h2
    rcases h with ⟨⟨o, h⟩, n⟩ | h
    · exact .inl ⟨⟨o, by rw [upd_ne (ne_of h hD (by intro z; cases z))]; exact h⟩, n⟩
    · exact .inr h
theorem reps_priv {vs : List V} {ds : List Dv} (hD : H D = some (.lst us)) (r : Reps K μ H vs ds) : Reps K μ (upd H D (.lst ws)) vs ds := ⟨r.1, fun i v d h1 h2 => rep_priv hD (r.2 i v d h1 h2)⟩
theorem sim_priv (hD : H D = some (.lst us)) (n : D ∉ μ) (h : SimS K μ S H) : SimS K μ S (upd H D (.lst ws)) :=
  ⟨h.len, h.nd, fun l a o e1 e2 => by
    have ne : a ≠ D := fun z => n (z ▸ List.mem_of_getElem? e1)
    have q := h.ob l a o e1 e2
    cases o with
    | lst ds => obtain ⟨vs, g, r⟩ := q; exact ⟨vs, by rw [upd_ne ne]; exact g, reps_priv hD r⟩
    | dk kvs => obtain ⟨vs, g, g2, r⟩ := q; exact ⟨vs, by rw [upd_ne ne]; exact g, g2, reps_priv hD r⟩
    | dt kvs => obtain ⟨vs, g, g2, r⟩ := q; exact ⟨vs, by rw [upd_ne ne]; exact g, g2, reps_priv hD r⟩⟩
theorem step_priv (hD : H1 D = none) (s : Step μ1 H1 μ H) : Step μ1 H1 μ (upd H D (.lst ws)) :=
  ⟨s.pre, fun b o e n => by rw [upd_ne (ne_of_none e hD)]; exact s.keep b o e n, fun b e => by
    by_cases hb : b = D
    · rw [hb, upd_same]; exact fun z => nomatch z
    · rw [upd_ne hb]; exact s.live b e⟩
theorem step_open (hD : H1 D = none) (s : Step μ1 H1 μ H) : Step μ1 H1 (μ ++ [D]) H := by
  refine ⟨?_, s.keep, s.live⟩
  obtain ⟨ν, e, f⟩ := s.pre
  exact ⟨ν ++ [D], by rw [e, List.append_assoc], fun b hb => by
    rcases List.mem_append.mp hb with hb | hb
    · exact f b hb
    · simp at hb; rw [hb]; exact hD⟩
/-- an object of ours comes into the store -/
theorem step_adopt (n : D ∉ μ) (hD : H D = some (.lst us)) : Step μ H μ H := .refl _ _
theorem rep_adopt (hD : H D = some (.lst us)) (r : Rep K μ H v d) : Rep K (μ ++ [D]) H v d := by
  induction r with
  | non => exact .non
  | bl b => exact .bl b
  | int i => exact .int i
  | str x => exact .str x
  | ref h => exact .ref (by rw [List.getElem?_append_left (List.getElem?_eq_some_iff.mp h).1]; exact h)
  | kt h e _ ih => exact .kt h e fun i v d h1 h2 => ih i v d h1 h2
  | tup h e _ ih => exact .tup ⟨h.1, fun z => (List.mem_append.mp z).elim h.2 fun z => by simp at z; exact ne_of h.1 hD (by intro q; cases q) z⟩ e fun i v d h1 h2 => ih i v d h1 h2
  | fl h e _ ih =>
    refine .fl ?_ e fun i v d h1 h2 => ih i v d h1 h2
    rcases h with ⟨⟨o, h⟩, n⟩ | h
    · exact .inl ⟨⟨o, h⟩, fun z => (List.mem_append.mp z).elim n fun z => by simp at z; exact ne_of h hD (by intro q; cases q) z⟩
    · exact .inr h
theorem reps_adopt {vs : List V} {ds : List Dv} (hD : H D = some (.lst us)) (r : Reps K μ H vs ds) : Reps K (μ ++ [D]) H vs ds := ⟨r.1, fun i v d h1 h2 => rep_adopt hD (r.2 i v d h1 h2)⟩
theorem sim_adopt {acc : List Dv} (hD : H D = some (.lst us)) (n : D ∉ μ) (r : Reps K μ H us acc) (h : SimS K μ S H) : SimS K (μ ++ [D]) (S ++ [.lst acc]) H := by
  refine ⟨by simp [h.len], List.nodup_append.mpr ⟨h.nd, by simp, fun a ha b hb => by simp at hb; subst hb; exact fun z => n (z ▸ ha)⟩, fun l a o e1 e2 => ?_⟩
  by_cases hl : l < μ.length
  · rw [List.getElem?_append_left hl] at e1
    rw [List.getElem?_append_left (by rw [← h.len]; exact hl)] at e2
    have q := h.ob l a o e1 e2
    cases o with
    | lst ds => obtain ⟨vs, g, r⟩ := q; exact ⟨vs, g, reps_adopt hD r⟩
    | dk kvs => obtain ⟨vs, g, g2, r⟩ := q; exact ⟨vs, g, g2, reps_adopt hD r⟩
    | dt kvs => obtain ⟨vs, g, g2, r⟩ := q; exact ⟨vs, g, g2, reps_adopt hD r⟩
  · have hl2 : l = μ.length := by have := (List.getElem?_eq_some_iff.mp e1).1; simp at this; omega
    subst hl2
    rw [List.getElem?_append_right (Nat.le_refl _)] at e1
    rw [List.getElem?_append_right (by rw [h.len]; exact Nat.le_refl _), h.len] at e2
    simp at e1 e2
    subst e1; subst e2
    exact ⟨us, hD, reps_adopt hD r⟩
end
section
variable {X : Cx} {W : WX} {tg iter elt : Expr} {ifs : List Expr} {scope : Scope} {own : List (Str × Nat)} {pos spos : Pos} {r : RI} {t : Tg} {rc : RT} {ry : RE}
/-- the reading of a comprehension -/
theorem comp_met {Wb : WX} {σ : L2.St} {H : Hp} {Q : VK} {vs : List Nat} (hown : ∀ i ∈ t.slots, i ∈ vs) (h : tG (Rep X.K) X.K X.mg W (eComp r t rc ry vs) σ H Q) :
    tLc (tI X.K X.mg W r) (tGt X.K t) (tG RBool X.K X.mg Wb rc) (tG (Rep X.K) X.K X.mg Wb ry) vs σ H Q := by
  obtain ⟨μ, ρ, S, hS, hE, h⟩ := h
  refine ⟨μ, ρ, S, hS, hE, ?_⟩
  unfold eComp at h
  cases q : r ρ S with
  | no => rw [q] at h; exact h.elim
  | ex x S1 => rw [q] at h; exact fun μ1 H1 cls dd a b c => h μ1 H1 cls dd a b c
  | ok w S1 =>
    rw [q] at h
    simp only [Out.bind_ok] at h
    intro μ1 H1 J hS1 s1 hJ D hD
    have hE1 := hE.step s1
    refine ⟨fun i m H' => ∃ μ' S' acc us, SimS X.K μ' S' H' ∧ D ∉ μ' ∧ H' D = some (.lst us) ∧ Reps X.K μ' H' us acc ∧ Step μ1 H1 μ' H' ∧ m = w.1.length - i ∧ i ≤ w.1.length ∧
        Met (Rep X.K) X.K X.mg (W.at σ) μ H ((compL w.2.ok t rc ry (wipeE ρ vs) (w.1.drop i) acc S').bind newL) Q,
      ⟨_, μ1, S1, [], [], hS1.lay hD _, hS1.fresh hD, upd_same, .nil, step_lay hS1 hD _, rfl, Nat.zero_le _, by rw [List.drop_zero]; exact h⟩, ?_⟩
    rintro i m H' ⟨μ', S', acc, us, hS', nD, eD, ra, s', rfl, hil, hm⟩
    by_cases hlt : i < w.1.length
    · rw [List.drop_eq_getElem_cons hlt, compL] at hm
      split at hm
      · rename_i hck
        obtain ⟨go, yl⟩ := (hJ μ' S' H' i s' hS' hck).2 w.1[i] (List.getElem?_eq_getElem hlt)
        split at hm
        · rename_i ρ1 e1
          refine .inr ⟨go, fun H5 => ∃ μ5 S5 acc5 us5, SimS X.K μ5 S5 H5 ∧ D ∉ μ5 ∧ H5 D = some (.lst us5) ∧ Reps X.K μ5 H5 us5 acc5 ∧ Step μ1 H1 μ5 H5 ∧
              Met (Rep X.K) X.K X.mg (W.at σ) μ H ((compL w.2.ok t rc ry (wipeE ρ vs) (w.1.drop (i + 1)) acc5 S5).bind newL) Q,
            fun H5 ⟨μ5, S5, acc5, us5, a1, a2, a3, a4, a5, a6⟩ => ⟨_, by omega, μ5, S5, acc5, us5, a1, a2, a3, a4, a5, rfl, hlt, a6⟩, fun x H2 y => ?_⟩
          obtain ⟨s2, hS2, rx⟩ := yl x H2 y
          refine ⟨μ', wipeE ρ vs, _, ρ1, (wipeE_rep (hE1.step s') vs).step s2, rx, e1, fun σ2 hE2 l2 n2 => ⟨?_, μ', ρ1, S', hS2, hE2, ?_⟩⟩
          · have := wipe_same (vs := vs) l2 fun j hj => n2 j fun z => hj (hown j z)
            rw [this]
            refine List.ext_getElem? fun j => ?_
            by_cases hj : j ∈ vs
            · have k : ∀ {τ : L2.St} {vs : List Nat}, j ∈ vs → j < τ.length → (wipe τ vs)[j]? = some none := by
                intro τ vs
                induction vs with
                | nil => intro h _; cases h
                | cons v vs ih =>
                  intro h hlt
                  simp only [wipe]
                  by_cases hv : v = j
                  · subst hv; rw [List.getElem?_set_self (by rw [wipe_length]; exact hlt)]
                  · rw [List.getElem?_set_ne hv]
                    rcases List.mem_cons.mp h with e | h
                    · exact absurd e.symm hv
                    · exact ih h hlt
              by_cases hlt : j < σ.length
              · rw [k hj (by rw [wipe_length]; exact hlt), k hj hlt]
              · rw [List.getElem?_eq_none (by rw [wipe_length, wipe_length]; omega), List.getElem?_eq_none (by rw [wipe_length]; omega)]
            · rw [wipe_out hj]
          · cases q2 : rc ρ1 S' with
            | no => rw [q2] at hm; exact hm.elim
            | ex x S3 => rw [q2] at hm; exact hm.elim
            | ok k S3 =>
              rw [q2] at hm
              simp only [Out.bindN_ok] at hm
              intro μ3 H3 kb hS3 s3 ek
              have ek' : kb = k := ek
              subst ek'
              have nD3 : D ∉ μ3 := s3.nin (s2.keep _ _ eD nD) nD
              have eD3 := s3.keep _ _ (s2.keep _ _ eD nD) nD
              have st3 := (s'.trans s2).trans s3
              cases kb with
              | false => exact ⟨μ3, S3, acc, us, hS3, nD3, eD3, (ra.step s2).step s3, st3, hm⟩
              | true =>
                simp only [if_true] at hm ⊢
                refine ⟨μ3, ρ1, S3, hS3, hE2.step s3, ?_⟩
                cases q3 : ry ρ1 S3 with
                | no => rw [q3] at hm; exact hm.elim
                | ex x S4 => rw [q3] at hm; exact hm.elim
                | ok z S4 =>
                  rw [q3] at hm
                  simp only [Out.bindN_ok] at hm
                  intro μ4 H4 zv hS4 s4 rz
                  have nD4 : D ∉ μ4 := s4.nin eD3 nD3
                  have eD4 := s4.keep _ _ eD3 nD3
                  have ra4 := ((ra.step s2).step s3).step s4
                  split at hm
                  · rename_i hz
                    exact ⟨us, eD4, by rw [ra4.1]; exact hz, μ4, S4, acc ++ [z], us ++ [zv], sim_priv eD4 nD4 hS4, nD4, upd_same, reps_priv eD4 (ra4.append (.one rz)), step_priv hD (st3.trans s4), hm⟩
                  · exact hm.elim
        · exact hm.elim
      · exact hm.elim
    · have e : i = w.1.length := by omega
      rw [List.drop_of_length_le (by omega), compL] at hm
      split at hm
      · rename_i hck
        refine .inl ⟨(hJ μ' S' H' i s' hS' hck).1 e, ?_⟩
        exact hm _ _ _ (sim_adopt eD nD ra hS') (s1.trans (step_open hD s')) (.ref (new_at hS' D))
      · exact hm.elim
abbrev Blk (X : Cx) (scope : Scope) (P : Cx → Prop) : Prop := ∀ (s : Shared) (H : Hp) (C : Addr) (cl : List (Str × Addr)) (fp : List Addr), P (X.blk s H scope (compEnvC scope cl C X.env) fp)
theorem se_comp (hc : X.calm = true) (hN : X.N.Nodup) (hi : SI X W tg iter r) (ok : BlkOk X.N X.env.scope scope own) (hg : Blk X scope fun Y => SG Y tg t) (ht : Blk X scope fun Y => PTs Y ifs (tG RBool X.K X.mg W rc)) (he : Blk X scope fun Y => SE Y W elt ry)
    (hown : ∀ i ∈ t.slots, i ∈ own.map (·.2)) (hs : ∀ x, foldedSetIterable iter X.env x = pure x := by intro _; rfl) : SE X W (.ListComp elt [⟨tg, iter, ifs, 0⟩] scope pos) (eComp r t rc ry (own.map (·.2))) :=
  PE.imp (pe_lc hc hN hi ok hg ht he hs) fun _ _ _ h => comp_met (ry := ry) (Wb := W) hown h
theorem sc_setComp {i : Nat} {y : Str} {py : Pos} (hc : X.calm = true) (hN : X.N.Nodup) (hy : X.N[i]? = some y) (hyl : X.env.scope.names.lookup y = some .local) (hsw : swapsWith (.ListComp elt [⟨tg, iter, ifs, 0⟩] scope pos) (some (.Name y py)) spos.line X.env = pure true)
    (hi : SI X W tg iter r) (ok : BlkOk X.N X.env.scope scope own) (hg : Blk X scope fun Y => SG Y tg t) (ht : Blk X scope fun Y => PTs Y ifs (tG RBool X.K X.mg W rc)) (he : Blk X scope fun Y => SE Y W elt ry)
    (hown : ∀ i ∈ t.slots, i ∈ own.map (·.2)) (hs : ∀ x, foldedSetIterable iter X.env x = pure x := by intro _; rfl) : SC X W (.Assign [.Name y py] (.ListComp elt [⟨tg, iter, ifs, 0⟩] scope pos) spos) (cSet i (eComp r t rc ry (own.map (·.2)))) :=
  PS.imp (ps_setLc hc hN hy hyl hsw hi ok hg ht he hs) fun D σ H ⟨μ, ρ, S, hS, hE, h⟩ => by
    refine comp_met (ry := ry) (Wb := W) hown ?_
    exact (bndS hS hE h).mono fun v H1 ⟨μ1, S1, d, hS1, hE1, s1, rv, h1⟩ => h1 μ1 _ H1 hS1 (hE1.set rv i) (.refl ..)
theorem sts_nil {Y : Cx} : PTs Y [] (tG RBool Y.K Y.mg W cYes) := ⟨fun pins s σ H Q I ⟨μ, ρ, S, hS, hE, h⟩ => pts_nil.run pins s σ H Q I (Met.ok (RP := RBool) h hS rfl)⟩
theorem sts_one {Y : Cx} {c : Expr} (h : ST Y W c rc) : PTs Y [c] (tG RBool Y.K Y.mg W rc) := pts_one h
end

/-! ### defs -/
def runF (c : RC) (m n : Nat) (ds : List Dv) (S : Sto) : Out Dv := if ds.length = n then match c (ds.map some ++ List.replicate (m - n) none) S with
  | .fl (.nx _) S' => .ok .non S'
  | .fl (.rt d) S' => .ok d S'
  | .ex x _ S' => .ex x S'
  | _ => .no else .no
section
variable {P : Program} {w : World} {K : PySem.W.Frag} {mg : Str → Option Value} {base : Heap}
theorem start_rep {μ : List Addr} {H : Hp} {N : List Str} {vs : List V} {ds : List Dv} (r : Reps K μ H vs ds) : SimE K μ H (ds.map some ++ List.replicate (N.length - ds.length) none) (L2.start N vs) := by
  unfold L2.start
  rw [r.1]
  refine ⟨by simp [r.1], fun i d hd => ?_⟩
  by_cases hi : i < ds.length
  · rw [List.getElem?_append_left (by simpa using hi)] at hd
    rw [List.getElem?_append_left (by simpa [r.1] using hi)]
    simp only [List.getElem?_map, Option.map_eq_some_iff] at hd ⊢
    obtain ⟨d', hd', e⟩ := hd
    cases e
    obtain ⟨v, hv, rv⟩ := r.get hd'
    exact ⟨v, ⟨v, hv, rfl⟩, rv⟩
  · rw [List.getElem?_append_right (by simpa using hi)] at hd
    simp only [List.getElem?_replicate] at hd
    split at hd <;> cases hd
theorem def_body {X : Cx} {E : XK} {c : RC} {N : List Str} {n : Nat} {body : List Stmt} (hb : SCs X (fun cl d _ H => E cl d H) body c) {H : Hp} {vs : List V} {Q : VK} (h : spD X.K X.mg (runF c N.length n) n vs H Q E) :
    ∃ t, PSs X body t ∧ t { nx := fun _ H' => Q .non H', rt := Q } (L2.start N vs) H := by
  obtain ⟨μ, S, ds, hn, hS, r, h⟩ := h
  refine ⟨_, hb, μ, _, S, hS, start_rep (N := N) r, ?_⟩
  unfold runF at h
  rw [if_pos hn] at h
  rw [hn]
  cases q : c (ds.map some ++ List.replicate (N.length - n) none) S with
  | no => rw [q] at h; exact h
  | ex x ρ S1 => rw [q] at h; exact fun μ1 σ1 H1 cl dd a b c d => h μ1 H1 cl dd a c d
  | fl f S1 =>
    rw [q] at h
    cases f with
    | nx ρ => exact fun μ1 σ1 H1 a b c => h μ1 H1 .non a c .non
    | rt d => exact fun μ1 v H1 a b c => h μ1 H1 v a b c
    | bk ρ => exact h.elim
    | ct ρ => exact h.elim
/-- THE RULE for a def that lets no exception out -/
theorem fn_mk {x qual : Str} {st : Stmt} {f : Addr} {fd : FuncData} {N ps : List Str} {k : Nat} {c : RC} (F : Fun K x qual st f fd) (S : FnScope N ps (defScope st))
    (hbody : ∀ (cdv : Value) (A : Around) (outer : List PySem.Env) (s : Shared) (H : Hp) (E : XK), Room k (A.deeper (envOfC qual (defScope st) s.heap.objs.size f cdv)) →
      SCs (cxOf CX0 P w K mg base N qual (defScope st) f cdv A outer s H E).nox (fun cl d _ H => E cl d H) (defBody st) c) : FnOk P w K mg base CX0 (k + 1) f fd ps (spD K mg (runF c N.length ps.length) ps.length) :=
  F.ok S (fun vs H Q E ⟨μ, S, ds, hn, hS, r, h⟩ => r.1.trans hn) fun cdv A outer s H vs Q E hr h => def_body (X := (cxOf CX0 P w K mg base N qual (defScope st) f cdv A outer s H E).nox) (hbody cdv A outer s H E hr) h
theorem pas0 {X : Cx} {W : WX} : ∀ σ, PassesAt CX0 X σ (W.at σ) := fun _ _ _ _ _ _ _ h => h.elim
/-- a promise may be said of a greater function -/
theorem fn_more {CX : CXT} {k n : Nat} {f : Addr} {fd : FuncData} {ps : List Str} {F G : List Dv → Sto → Out Dv} (h : FnOk P w K mg base CX k f fd ps (spD K mg F n)) (e : ∀ ds S, G ds S = .no ∨ G ds S = F ds S) : FnOk P w K mg base CX k f fd ps (spD K mg G n) :=
  h.imp fun vs H Q E ⟨μ, S, ds, hn, hS, r, q⟩ => ⟨μ, S, ds, hn, hS, r, by
    rcases e ds S with z | z
    · rw [z] at q; exact q.elim
    · rw [← z]; exact q⟩
end
end PL

namespace PL
open PySem PySem.Spec PyProof.Rows L2
theorem hu65 {A : Around} {k : Nat} (hr : Room k A) : A.units + 65 < cLine := by have := hr.un; omega
theorem fn_zero {P : Program} {w : World} {K : PySem.W.Frag} {mg : Str → Option Value} {base : Heap} {CX : CXT} {k n : Nat} {f : Addr} {fd : FuncData} {ps : List Str} (h : n = ps.length) : FnOk P w K mg base CX k f fd ps (spD K mg (fun _ _ => .no) n) :=
  ⟨fun vs H Q E ⟨μ, S, ds, hn, hS, r, q⟩ => q.elim, fun A outer s H args us vs Q E hr he hb hv ⟨μ, S, ds, hn, hS, r, q⟩ => q.elim⟩
theorem bt_len : bootBuiltins "len" = some (.builtin "len") := by decide +kernel
theorem bt_max : bootBuiltins "max" = some (.builtin "max") := by decide +kernel
theorem bt_min : bootBuiltins "min" = some (.builtin "min") := by decide +kernel
theorem bt_sum : bootBuiltins "sum" = some (.builtin "sum") := by decide +kernel
theorem bt_any : bootBuiltins "any" = some (.builtin "any") := by decide +kernel
theorem bt_abs : bootBuiltins "abs" = some (.builtin "abs") := by decide +kernel
theorem bt_sorted : bootBuiltins "sorted" = some (.builtin "sorted") := by decide +kernel
theorem bt_int : bootBuiltins "int" = some (.type "int") := by decide +kernel
theorem bt_list : bootBuiltins "list" = some (.type "list") := by decide +kernel
theorem bt_tuple : bootBuiltins "tuple" = some (.type "tuple") := by decide +kernel
theorem bt_str : bootBuiltins "str" = some (.type "str") := by decide +kernel
theorem bt_bool : bootBuiltins "bool" = some (.type "bool") := by decide +kernel
theorem bt_dict : bootBuiltins "dict" = some (.type "dict") := by decide +kernel
theorem bt_set : bootBuiltins "set" = some (.type "set") := by decide +kernel
end PL

namespace PL
open PySem PySem.Spec PyProof.Rows L2

/-! ### reckoning with outcomes -/
section
variable {ρ ρ' : Env} {S S' S1 : Sto} {a b c : RE} {x y d e : Dv} {ra rb : RC} {ta tb : RT}
theorem ev_var (i : Nat) : eVar i ρ S = match ρ[i]? with | some (some d) => .ok d S | _ => .no := .trans rfl rfl
theorem ev_con : eCon d ρ S = .ok d S := .trans rfl rfl
theorem ev_bin (f : Dv → Dv → Sto → Out Dv) : eBin f a b ρ S = (a ρ S).bind fun x S1 => (b ρ S1).bind fun y S2 => f x y S2 := .trans rfl rfl
theorem ev_un (f : Dv → Sto → Out Dv) : eUn f a ρ S = (a ρ S).bind f := .trans rfl rfl
theorem ev_anil : aNil ρ S = .ok [] S := .trans rfl rfl
theorem ev_acons (r : RE) (t : RA) : aCons r t ρ S = (r ρ S).bind fun d S1 => (t ρ S1).bind fun ds S2 => .ok (d :: ds) S2 := .trans rfl rfl
theorem ev_call (f : List Dv → Sto → Out Dv) (a : RA) : eCall f a ρ S = (a ρ S).bind f := .trans rfl rfl
theorem ev_tup (a : RA) : eTup a ρ S = (a ρ S).bind fun ds S1 => if ds.length ≤ sizeLine then .ok (.tup ds) S1 else .no := .trans rfl rfl
theorem ev_lst (a : RA) : eLst a ρ S = (a ρ S).bind fun ds S1 => if ds.length ≤ sizeLine then .ok (.ref S1.length) (S1 ++ [.lst ds]) else .no := .trans rfl rfl
theorem ev_not : eNot a ρ S = (a ρ S).bind fun d S1 => match d with | .bl b => .ok (.bl (!b)) S1 | _ => .no := .trans rfl rfl
theorem ev_and : eAnd a b ρ S = (a ρ S).bind fun d S1 => match d with | .bl true => b ρ S1 | .bl false => .ok (.bl false) S1 | _ => .no := .trans rfl rfl
theorem ev_or : eOr a b ρ S = (a ρ S).bind fun d S1 => match d with | .bl true => .ok (.bl true) S1 | .bl false => b ρ S1 | _ => .no := .trans rfl rfl
theorem ev_if : eIf ta a b ρ S = (ta ρ S).bind fun t S1 => if t = true then a ρ S1 else b ρ S1 := .trans rfl rfl
theorem ev_cbl : cBl a ρ S = (a ρ S).bind bTrue := .trans rfl rfl
theorem ev_btrue (b : Bool) : bTrue (.bl b) S = .ok b S := .trans rfl rfl
theorem ev_cand : cAnd ta tb ρ S = (ta ρ S).bind fun t S1 => if t = true then tb ρ S1 else .ok false S1 := .trans rfl rfl
theorem ev_cor : cOr ta tb ρ S = (ta ρ S).bind fun t S1 => if t = true then .ok true S1 else tb ρ S1 := .trans rfl rfl
theorem ev_cnot : cNot ta ρ S = (ta ρ S).bind fun t S1 => .ok (!t) S1 := .trans rfl rfl
theorem ev_sli (l h : RO) : eSli a l h ρ S = (a ρ S).bind fun d S1 => (l ρ S1).bind fun lo S2 => (h ρ S2).bind fun hi S3 => sliD d lo hi S3 := .trans rfl rfl
theorem ev_onone : oNone ρ S = .ok none S := .trans rfl rfl
theorem ev_osome : oSome a ρ S = (a ρ S).bind fun d S1 => match d with | .int i => .ok (some i) S1 | _ => .no := .trans rfl rfl
theorem ev_chain (f g : Dv → Dv → Sto → Out Dv) : eChain f g a b c ρ S = (a ρ S).bind fun x S1 => (b ρ S1).bind fun y S2 => (f x y S2).bind fun z S3 => match z with
  | .bl true => (c ρ S3).bind fun w S4 => g y w S4
  | .bl false => .ok (.bl false) S3
  | _ => .no := .trans rfl rfl
theorem ev_meth (T : String) (f : Dv → List Dv → Sto → Out Dv) (a' : RA) : eMeth T f a a' ρ S = (a ρ S).bind fun d S1 => if tyQ T d S1 = true then (a' ρ S1).bind fun ds S2 => f d ds S2 else .no := .trans rfl rfl
theorem ev_get2 : eGet2 a b c ρ S = (a ρ S).bind fun d S1 => if tyQ "dict" d S1 = true then (b ρ S1).bind fun y S2 => (c ρ S2).bind fun z S3 => getD2 d [y, z] S3 else .no := .trans rfl rfl
theorem ev_newK : eNewK ρ S = .ok (.ref S.length) (S ++ [.dk []]) := .trans rfl rfl
theorem ev_newT : eNewT ρ S = .ok (.ref S.length) (S ++ [.dt []]) := .trans rfl rfl
theorem ev_own (n : Nat) (F : List Dv → Sto → Out Dv) (a : RA) : eOwn n F a ρ S = (a ρ S).bind fun ds S1 => if ds.length = n then F ds S1 else .no := .trans rfl rfl
theorem ev_nil : cNil ρ S = .fl (.nx ρ) S := .trans rfl rfl
theorem ev_seq : cSeq ra rb ρ S = match ra ρ S with | .fl (.nx ρ') S' => rb ρ' S' | o => o := .trans rfl rfl
theorem ev_expr : cExpr a ρ S = bindS (a ρ S) ρ fun _ S1 => .fl (.nx ρ) S1 := .trans rfl rfl
theorem ev_set (i : Nat) : cSet i a ρ S = bindS (a ρ S) ρ fun d S1 => .fl (.nx (ρ.set i (some d))) S1 := .trans rfl rfl
theorem ev_ret : cRet a ρ S = bindS (a ρ S) ρ fun d S1 => .fl (.rt d) S1 := .trans rfl rfl
theorem ev_retN : cRetN ρ S = .fl (.rt .non) S := .trans rfl rfl
theorem ev_cif : cIf ta ra rb ρ S = bindS (ta ρ S) ρ fun c S1 => if c = true then ra ρ S1 else rb ρ S1 := .trans rfl rfl
theorem ev_brk : cBrk ρ S = .fl (.bk ρ) S := .trans rfl rfl
theorem ev_ct : cCt ρ S = .fl (.ct ρ) S := .trans rfl rfl
theorem ev_asg (t : Tg) : cAsg t a ρ S = bindS (a ρ S) ρ fun d S1 => match t.set d ρ with | some ρ' => .fl (.nx ρ') S1 | none => .no := .trans rfl rfl
theorem ev_put : cPut a b c ρ S = bindS (c ρ S) ρ fun d S1 => bindS (a ρ S1) ρ fun x S2 => bindS (b ρ S2) ρ fun y S3 => match putD x y d S3 with | some S4 => .fl (.nx ρ) S4 | none => .no := .trans rfl rfl
theorem ev_aug (i : Nat) (f : Dv → Dv → Sto → Out Dv) : cAug i f a ρ S = bindS (eBin f (eVar i) a ρ S) ρ fun d S1 => .fl (.nx (ρ.set i (some d))) S1 := .trans rfl rfl
theorem ev_for (r : RI) (t : Tg) : cFor r t ra ρ S = bindS (r ρ S) ρ fun w S1 => loop w.2.ok t ra w.1 ρ S1 := .trans rfl rfl
theorem ev_comp (r : RI) (t : Tg) (c : RT) (y : RE) (vs : List Nat) : eComp r t c y vs ρ S = (r ρ S).bind fun w S1 => (compL w.2.ok t c y (wipeE ρ vs) w.1 [] S1).bind newL := .trans rfl rfl
theorem ev_newL (ds : List Dv) : newL ds S = .ok (.ref S.length) (S ++ [.lst ds]) := .trans rfl rfl
theorem ev_iseq : iSeq a ρ S = (a ρ S).bind fun d S1 => match walkD d S1 with | some w => .ok w S1 | none => .no := .trans rfl rfl
theorem ev_irange (f : List Dv → Option (List Dv)) (a : RA) : iRange f a ρ S = (a ρ S).bind fun ds S1 => match f ds with | some w => .ok (w, .tt) S1 | none => .no := .trans rfl rfl
theorem ev_ienum (a : RA) : iEnum a ρ S = (a ρ S).bind fun ds S1 => match ds with
  | [d] => match lstOf S1 d with
    | some xs => .ok (enumL xs, ckOf d xs) S1
    | none => .no
  | _ => .no := .trans rfl rfl
theorem ev_yes : cYes ρ S = .ok true S := .trans rfl rfl

/-! ### loops by an invariant -/
theorem loop_gen {ck : Sto → Prop} [∀ S, Decidable (ck S)] {t : Tg} {b : RC} (I : Nat → Env → Sto → Prop) (D : OutS → Prop) (ds : List Dv) (n : Nat)
    (hs : ∀ i d ρ S, ds[i]? = some d → I (n + i) ρ S → ck S ∧ ∃ ρ1, t.set d ρ = some ρ1 ∧ ((∃ ρ2 S2, (b ρ1 S = .fl (.nx ρ2) S2 ∨ b ρ1 S = .fl (.ct ρ2) S2) ∧ I (n + i + 1) ρ2 S2) ∨ (∃ ρ2 S2, b ρ1 S = .fl (.bk ρ2) S2 ∧ D (.fl (.nx ρ2) S2)) ∨ (∃ e S2, b ρ1 S = .fl (.rt e) S2 ∧ D (.fl (.rt e) S2))))
    (he : ∀ ρ S, I (n + ds.length) ρ S → ck S ∧ D (.fl (.nx ρ) S)) (ρ : Env) (S : Sto) (h0 : I n ρ S) : D (loop ck t b ds ρ S) := by
  induction ds generalizing n ρ S with
  | nil =>
    obtain ⟨h1, h2⟩ := he ρ S h0
    rw [loop, if_pos h1]; exact h2
  | cons d ds ih =>
    obtain ⟨hc, ρ1, e1, h⟩ := hs 0 d ρ S rfl h0
    have ih2 : ∀ ρ S, I (n + 1) ρ S → D (loop ck t b ds ρ S) := fun ρ S hI => ih (n + 1)
      (fun i d' ρ S hd hI => by
        have := hs (i + 1) d' ρ S (by simpa using hd) (by rw [show n + (i + 1) = n + 1 + i by omega]; exact hI)
        rw [show n + (i + 1) + 1 = n + 1 + i + 1 by omega] at this
        exact this)
      (fun ρ S hI => he ρ S (by rw [List.length_cons, show n + (ds.length + 1) = n + 1 + ds.length by omega]; exact hI)) ρ S hI
    rw [loop, if_pos hc, e1]
    rcases h with ⟨ρ2, S2, h | h, hI⟩ | ⟨ρ2, S2, h, hD⟩ | ⟨e, S2, h, hD⟩
    · simp only [h]; exact ih2 ρ2 S2 hI
    · simp only [h]; exact ih2 ρ2 S2 hI
    · simp only [h]; exact hD
    · simp only [h]; exact hD
/-- a loop that runs to its end -/
theorem loop_all {ck : Sto → Prop} [∀ S, Decidable (ck S)] {t : Tg} {b : RC} (I : Nat → Env → Sto → Prop) (ds : List Dv) {ρ : Env} {S : Sto} (h0 : I 0 ρ S)
    (hs : ∀ i d ρ S, ds[i]? = some d → I i ρ S → ck S ∧ ∃ ρ1, t.set d ρ = some ρ1 ∧ ∃ ρ2 S2, (b ρ1 S = .fl (.nx ρ2) S2 ∨ b ρ1 S = .fl (.ct ρ2) S2) ∧ I (i + 1) ρ2 S2)
    (he : ∀ ρ S, I ds.length ρ S → ck S) : ∃ ρ' S', loop ck t b ds ρ S = .fl (.nx ρ') S' ∧ I ds.length ρ' S' := by
  refine loop_gen (t := t) (b := b) I (fun o => ∃ ρ' S', o = .fl (.nx ρ') S' ∧ I ds.length ρ' S') ds 0 (fun i d ρ S hd hI => ?_) (fun ρ S hI => ?_) ρ S h0
  · rw [Nat.zero_add] at hI ⊢
    obtain ⟨a, ρ1, b, c⟩ := hs i d ρ S hd hI
    exact ⟨a, ρ1, b, .inl c⟩
  · rw [Nat.zero_add] at hI
    exact ⟨he ρ S hI, ρ, S, rfl, hI⟩
theorem comp_gen {ck : Sto → Prop} [∀ S, Decidable (ck S)] {t : Tg} {c : RT} {y : RE} (I : Nat → List Dv → Sto → Prop) (ds : List Dv) (ρ : Env)
    (hs : ∀ i d acc S, ds[i]? = some d → I i acc S → ck S ∧ ∃ ρ1, t.set d ρ = some ρ1 ∧ ∃ k S1, c ρ1 S = .ok k S1 ∧ (k = true → ∃ z S2, y ρ1 S1 = .ok z S2 ∧ acc.length < sizeLine ∧ I (i + 1) (acc ++ [z]) S2) ∧ (k = false → I (i + 1) acc S1))
    (he : ∀ acc S, I ds.length acc S → ck S) {acc : List Dv} {S : Sto} (h0 : I 0 acc S) : ∃ acc' S', compL ck t c y ρ ds acc S = .ok acc' S' ∧ I ds.length acc' S' := by
  suffices H : ∀ (rest : List Dv) (n : Nat) (acc : List Dv) (S : Sto), n + rest.length = ds.length → ds.drop n = rest → I n acc S → ∃ acc' S', compL ck t c y ρ rest acc S = .ok acc' S' ∧ I ds.length acc' S' from H ds 0 acc S (by simp) rfl h0
  intro rest
  induction rest with
  | nil =>
    intro n acc S hn _ hI
    have : n = ds.length := by simpa using hn
    subst this
    rw [compL, if_pos (he acc S hI)]
    exact ⟨_, _, rfl, hI⟩
  | cons d rest ih =>
    intro n acc S hn hd hI
    have hdn : ds[n]? = some d := by
      have : (ds.drop n)[0]? = some d := by rw [hd]; rfl
      simpa using this
    have hd2 : ds.drop (n + 1) = rest := by rw [← List.drop_drop, hd]; rfl
    obtain ⟨hc, ρ1, e1, k, S1, e2, h1, h2⟩ := hs n d acc S hdn hI
    rw [compL, if_pos hc, e1]
    simp only [e2, Out.bindN_ok]
    cases k with
    | true =>
      obtain ⟨z, S2, e3, hl, hI2⟩ := h1 rfl
      simp only [if_true, e3, Out.bindN_ok, if_pos hl]
      exact ih (n + 1) _ S2 (by rw [List.length_cons] at hn; omega) hd2 hI2
    | false => exact ih (n + 1) _ S1 (by rw [List.length_cons] at hn; omega) hd2 (h2 rfl)
end
/-! ### stores -/
/-- what stood stands, but at the places P -/
structure Fr (P : Nat → Prop) (S S' : Sto) : Prop where
  le : S.length ≤ S'.length
  get : ∀ (l : Nat) (o : Ob), S[l]? = some o → ¬ P l → S'[l]? = some o
abbrev Gr (S S' : Sto) : Prop := Fr (fun _ => False) S S'
theorem Fr.refl {P : Nat → Prop} (S : Sto) : Fr P S S := ⟨Nat.le_refl _, fun _ _ h _ => h⟩
theorem Fr.trans {P : Nat → Prop} {S S1 S2 : Sto} (h : Fr P S S1) (t : Fr P S1 S2) : Fr P S S2 := ⟨Nat.le_trans h.le t.le, fun l o e n => t.get l o (h.get l o e n) n⟩
theorem Fr.imp {P P' : Nat → Prop} {S S1 : Sto} (h : Fr P S S1) (i : ∀ l, l < S.length → P l → P' l) : Fr P' S S1 := ⟨h.le, fun l o e n => h.get l o e fun z => n (i l (List.getElem?_eq_some_iff.mp e).1 z)⟩
theorem Gr.any {P : Nat → Prop} {S S1 : Sto} (h : Gr S S1) : Fr P S S1 := h.imp fun _ _ z => z.elim
theorem Gr.at {S S1 : Sto} (h : Gr S S1) {l : Nat} {o : Ob} (e : S[l]? = some o) : S1[l]? = some o := h.get l o e id
theorem gr_app (S T : Sto) : Gr S (S ++ T) := ⟨by simp, fun l o e _ => by rw [List.getElem?_append_left (List.getElem?_eq_some_iff.mp e).1]; exact e⟩
theorem at_new (S : Sto) (o : Ob) : (S ++ [o])[S.length]? = some o := by simp
theorem fr_set (S : Sto) (l : Nat) (o : Ob) : Fr (· = l) S (S.set l o) := ⟨by simp, fun m u e n => by rw [List.getElem?_set_ne (fun z => n z.symm)]; exact e⟩
theorem at_set {S : Sto} {l : Nat} {o u : Ob} (e : S[l]? = some u) : (S.set l o)[l]? = some o := List.getElem?_set_self (List.getElem?_eq_some_iff.mp e).1
theorem lt_of_at {S : Sto} {l : Nat} {u : Ob} (e : S[l]? = some u) : l < S.length := (List.getElem?_eq_some_iff.mp e).1
theorem ne_new {S : Sto} {l : Nat} {u : Ob} (e : S[l]? = some u) : l ≠ S.length := Nat.ne_of_lt (lt_of_at e)
end PL
namespace PL
open PySem PySem.Spec PyProof.Rows L2
theorem fn_def {P : Program} {w : World} {K : PySem.W.Frag} {mg : Str → Option Value} {base : Heap} {x qual : Str} {st : Stmt} {f : Addr} {fd : FuncData} {N ps : List Str} {k m n : Nat} {c : RC} {G : List Dv → Sto → Out Dv} (F : Fun K x qual st f fd) (S : FnScope N ps (defScope st)) (hG : G = runF c m n) (hm : N.length = m) (hn : ps.length = n)
    (hbody : ∀ (cdv : Value) (A : Around) (outer : List PySem.Env) (s : Shared) (H : Hp) (E : XK), Room k (A.deeper (envOfC qual (defScope st) s.heap.objs.size f cdv)) →
      SCs (cxOf CX0 P w K mg base N qual (defScope st) f cdv A outer s H E).nox (fun cl d _ H => E cl d H) (defBody st) c) : FnOk P w K mg base CX0 (k + 1) f fd ps (spD K mg G n) := by
  subst hG hm hn
  exact fn_mk F S hbody
end PL
namespace PL
open PySem PySem.Spec PyProof.Rows L2
section
variable {X : Cx} {W : WX} {tg iter elt : Expr} {ifs : List Expr} {scope : Scope} {own : List (Str × Nat)} {pos spos : Pos} {r : RI} {t : Tg} {rc : RT} {ry : RE} {vs : List Nat}
theorem se_compB (own : List (Str × Nat)) (hc : X.calm = true) (hN : X.N.Nodup) (hi : SI X W tg iter r) (ok : BlkOk X.N X.env.scope scope own) (hg : Blk X scope fun Y => SG Y tg t) (ht : Blk X scope fun Y => PTs Y ifs (tG RBool X.K X.mg W rc)) (he : Blk X scope fun Y => SE Y W elt ry)
    (hv : vs = own.map (·.2)) (hown : ∀ i ∈ t.slots, i ∈ own.map (·.2)) (hs : ∀ x, foldedSetIterable iter X.env x = pure x := by intro _; rfl) : SE X W (.ListComp elt [⟨tg, iter, ifs, 0⟩] scope pos) (eComp r t rc ry vs) := by
  subst hv; exact se_comp hc hN hi ok hg ht he hown hs
theorem sc_setCompB {i : Nat} {y : Str} {py : Pos} (own : List (Str × Nat)) (hc : X.calm = true) (hN : X.N.Nodup) (hy : X.N[i]? = some y) (hyl : X.env.scope.names.lookup y = some .local) (hsw : swapsWith (.ListComp elt [⟨tg, iter, ifs, 0⟩] scope pos) (some (.Name y py)) spos.line X.env = pure true)
    (hi : SI X W tg iter r) (ok : BlkOk X.N X.env.scope scope own) (hg : Blk X scope fun Y => SG Y tg t) (ht : Blk X scope fun Y => PTs Y ifs (tG RBool X.K X.mg W rc)) (he : Blk X scope fun Y => SE Y W elt ry)
    (hv : vs = own.map (·.2)) (hown : ∀ i ∈ t.slots, i ∈ own.map (·.2)) (hs : ∀ x, foldedSetIterable iter X.env x = pure x := by intro _; rfl) : SC X W (.Assign [.Name y py] (.ListComp elt [⟨tg, iter, ifs, 0⟩] scope pos) spos) (cSet i (eComp r t rc ry vs)) := by
  subst hv; exact sc_setComp hc hN hy hyl hsw hi ok hg ht he hown hs
end
end PL
namespace PL
open PySem PySem.Spec PyProof.Rows L2
/-! ### the end -/
theorem walk_law {l : PySem.W.OpenLaw} {q : Program} {loose : List Str} {XP : (Str → Option Value) → Heap → Prop} {YP : World → Heap → Prop} {d : DefRec} {K : Params → PySem.W.Frag} {k : Nat} {x : Str} {G : List Dv → Sto → Out Dv} (hn : l.most = some 63) (hdf : d.params.defaults = []) (hr : Room k callerA)
    (hY : ∀ (w : World) (h : Heap), YP w h → (K w.params).In h)
    (hG : ∀ ns : List Int, ns.length ≤ 63 → ∃ S, G [.fl (ns.map .int)] [] = .ok (.bl true) S)
    (FF : ∀ (w : World) (mg : Str → Option Value) (fa : Addr) (h : Heap), (K w.params).In h → h.Ns mainGlobals mg → mg d.name = some (.ref fa) →
      ∃ fd : FuncData, (∀ (s : Shared) (u : Value), BindsTo s fd ⟨[u], []⟩ [(x, u)]) ∧ ∀ base : Heap, (K w.params).In base → base.Ns mainGlobals mg → FnOk l.prog w (K w.params) mg base CX0 k fa fd [x] (spD (K w.params) mg G 1)) :
    PySem.W.WalkO q loose XP YP l.row.toRowW d [] (fun f vs => PySem.call f vs) := by
  refine L2.walk_of (n := 63) (k := k) (x := x) (CX := fun _ => CX0) (sp := fun w vs H Q _ => ∃ (a : Addr) (ns : List Int), vs = [.ref a] ∧ SqL (K w.params) H a (ns.map V.int) ∧ ns.length ≤ 63 ∧ Only H ∧ ∀ H', Q (.bl true) H') hn (by decide) hdf hr hY ?_ (fun _ _ a ns hl ho hS => ⟨a, ns, rfl, hS, hl, ho, fun _ => rfl⟩) fun _ _ _ _ _ z => z
  intro w mg fa h hK hNs hmg
  obtain ⟨fd, h1, h2⟩ := FF w mg fa h hK hNs hmg
  refine ⟨fd, h1, fun base hb hn => (h2 base hb hn).imp ?_⟩
  rintro vs H Q E ⟨a, ns, rfl, hS, hl, ho, hQ⟩
  obtain ⟨S', e⟩ := hG ns hl
  refine ⟨[], [], [.fl (ns.map .int)], rfl, ⟨rfl, List.nodup_nil, fun l a o z => by simp at z⟩, Reps.one ?_, ?_⟩
  · refine Rep.fl (vs := ns.map V.int) ?_ (by simp) (fun i v d h1 h2 => ?_)
    · rcases hS with h | ⟨o, its, n, h⟩
      · left
        refine ⟨?_, by simp⟩
        rcases h with h | h
        · rcases ho a with z | ⟨o, xs, z⟩
          · rw [z] at h; cases h
          · rw [z] at h; cases h
        · exact h
      · exact .inr ⟨o, its, n, h⟩
    · rw [List.getElem?_map] at h1 h2
      cases q : ns[i]? with
      | none => rw [q] at h1; cases h1
      | some j =>
        rw [q] at h1 h2
        cases h1; cases h2
        exact .int j
  · rw [e]
    intro μ1 H1 v _ _ rv
    cases rv with
    | bl b => exact hQ H1
end PL
namespace PL
open PySem PySem.Spec PyProof.Rows L2
theorem runF_rt {c : RC} {m n : Nat} {ds : List Dv} {S S' : Sto} {d : Dv} {ρ : Env} (hρ : ds.map some ++ List.replicate (m - n) none = ρ) (hn : ds.length = n) (h : c ρ S = .fl (.rt d) S') : runF c m n ds S = .ok d S' := by
  unfold runF
  rw [if_pos hn, hρ, h]
theorem runF_nx {c : RC} {m n : Nat} {ds : List Dv} {S S' : Sto} {ρ ρ' : Env} (hρ : ds.map some ++ List.replicate (m - n) none = ρ) (hn : ds.length = n) (h : c ρ S = .fl (.nx ρ') S') : runF c m n ds S = .ok .non S' := by
  unfold runF
  rw [if_pos hn, hρ, h]
end PL

namespace PL
open PySem PySem.Spec PyProof.Rows L2
section
variable {S S' : Sto} {d x y : Dv} {ds xs : List Dv}
theorem Fr.then {P Q : Nat → Prop} {S S1 S2 : Sto} (g : Fr P S S1) (f : Fr Q S1 S2) (h : ∀ l, Q l → l < S.length → P l) : Fr P S S2 := ⟨Nat.le_trans g.le f.le, fun l o e n => f.get l o (g.get l o e n) fun q => n (h l q (List.getElem?_eq_some_iff.mp e).1)⟩
theorem Gr.new {Q : Nat → Prop} {S S1 S2 : Sto} (g : Gr S S1) (f : Fr Q S1 S2) (h : ∀ l, Q l → S.length ≤ l) : Gr S S2 := Fr.then g f fun l q hl => absurd (h l q) (by omega)
theorem lst_gr (g : Gr S S') (h : lstOf S d = some ds) : lstOf S' d = some ds := by
  cases d with
  | fl => exact h
  | ref l =>
    simp only [lstOf] at h ⊢
    split at h
    · rename_i q; rw [g.at q]; exact h
    · cases h
  | _ => cases h
theorem lst_ref {l : Nat} (h : S[l]? = some (.lst ds)) : lstOf S (.ref l) = some ds := by simp only [lstOf, h]
theorem tup_lst (h : lstOf S d = some ds) : tupOf d = none := by cases d <;> first | rfl | cases h
theorem seq_lst (h : lstOf S d = some ds) : seqOf S d = some ds := by rw [seqOf, tup_lst h, h]
theorem len_seq (h : seqOf S d = some ds) : lenD [d] S = .ok (.int ds.length) S := by
  cases d with
  | str x => cases h
  | _ => simp only [lenD, h]
theorem len_lst (h : lstOf S d = some ds) : lenD [d] S = .ok (.int ds.length) S := len_seq (seq_lst h)
theorem len_ref {l : Nat} (h : S[l]? = some (.lst ds)) : lenD [.ref l] S = .ok (.int ds.length) S := len_lst (lst_ref h)
theorem len_tup : lenD [.tup ds] S = .ok (.int ds.length) S := len_seq rfl
theorem idx_lst (h : lstOf S d = some ds) {i : Int} (e : atI ds i = some x) : idxD d (.int i) S = .ok x S := by
  cases d with
  | str => cases h
  | _ => simp only [idxD, tup_lst h, h, e]
theorem idx_ref {l : Nat} (h : S[l]? = some (.lst ds)) {i : Int} (e : atI ds i = some x) : idxD (.ref l) (.int i) S = .ok x S := idx_lst (lst_ref h) e
theorem idx_tup {i : Int} (e : atI ds i = some x) : idxD (.tup ds) (.int i) S = .ok x S := by simp only [idxD, tupOf, e]
theorem atI_nat {α : Type} {xs : List α} {i : Nat} {a : α} (e : xs[i]? = some a) : atI xs (i : Int) = some a := by
  have h := (List.getElem?_eq_some_iff.mp e).1
  unfold atI ixN
  rw [if_pos (by omega), if_pos (by omega)]
  simpa using e
theorem atI_last {α : Type} {xs : List α} {a : α} : atI (xs ++ [a]) (-1) = some a := by
  unfold atI ixN
  rw [if_neg (by omega), if_pos (by simp; omega)]
  simp only [List.length_append, List.length_cons, List.length_nil, Option.bind_some]
  rw [show (-1 + ((xs.length + (0 + 1) : Nat) : Int)).toNat = xs.length by omega]
  simp
theorem idx_last {l : Nat} (h : S[l]? = some (.lst (xs ++ [x]))) : idxD (.ref l) (.int (-1)) S = .ok x S := idx_ref h atI_last
theorem idx_t0 {a : Dv} : idxD (.tup (a :: ds)) (.int 0) S = .ok a S := idx_tup (atI_nat (i := 0) rfl)
theorem idx_t1 {a b : Dv} : idxD (.tup (a :: b :: ds)) (.int 1) S = .ok b S := idx_tup (atI_nat (i := 1) rfl)
theorem idx_t2 {a b c : Dv} : idxD (.tup (a :: b :: c :: ds)) (.int 2) S = .ok c S := idx_tup (atI_nat (i := 2) rfl)
theorem idx_t3 {a b c e : Dv} : idxD (.tup (a :: b :: c :: e :: ds)) (.int 3) S = .ok e S := idx_tup (atI_nat (i := 3) rfl)
theorem atI_mod {α : Type} {xs : List α} (h : xs ≠ []) (i : Int) : ∃ a, a ∈ xs ∧ atI xs (i % (xs.length : Int)) = some a := by
  have hp : 0 < xs.length := List.length_pos_iff.mpr h
  have h1 := Int.emod_nonneg i (b := (xs.length : Int)) (by omega)
  have h2 := Int.emod_lt_of_pos i (b := (xs.length : Int)) (by omega)
  obtain ⟨j, hj⟩ := Int.eq_ofNat_of_zero_le h1
  have hl : j < xs.length := by omega
  exact ⟨xs[j], List.getElem_mem hl, by rw [hj]; exact atI_nat (List.getElem?_eq_getElem hl)⟩
theorem rangeL_get {lo hi : Int} {i : Nat} (h : (rangeL lo hi)[i]? = some d) : d = .int (lo + i) ∧ lo + i < hi := by
  unfold rangeL at h
  rw [List.getElem?_map] at h
  obtain ⟨j, hj, e⟩ := Option.map_eq_some_iff.mp h
  obtain ⟨hl, e2⟩ := List.getElem?_eq_some_iff.mp hj
  simp at hl e2
  subst e2
  exact ⟨e.symm, by omega⟩
theorem rangeL_len (lo hi : Int) : (rangeL lo hi).length = (hi - lo).toNat := by unfold rangeL; simp
theorem rok_of {i : Int} (h : 0 ≤ i) (h2 : i < 2 ^ 62) : rok i = true := by unfold rok; exact @decide_eq_true _ (Classical.propDecidable _) ⟨by omega, h2⟩
theorem rng1_of {i : Int} (h : 0 ≤ i) (h2 : i < 2 ^ 62) : rng1 [.int i] = some (rangeL 0 i) := by simp only [rng1]; rw [if_pos (rok_of h h2)]
theorem app_ref {l : Nat} (h : S[l]? = some (.lst ds)) (hl : ds.length < sizeLine) : appendD (.ref l) [x] S = .ok .non (S.set l (.lst (ds ++ [x]))) := by simp only [appendD, lmap, h, if_pos hl]
theorem pop_ref {l : Nat} (h : S[l]? = some (.lst (ds ++ [x]))) : popD (.ref l) [] S = .ok x (S.set l (.lst ds)) := by
  simp only [popD, lmap, h]
  simp
theorem tyq_ref {l : Nat} (h : S[l]? = some (.lst ds)) : tyQ "list" (.ref l) S = true := by simp only [tyQ, h]; rfl
theorem list_ref {l : Nat} (h : S[l]? = some (.lst ds)) : listD [.ref l] S = newL ds S := by simp only [listD, seq_lst (lst_ref h)]
theorem tuple_ref {l : Nat} (h : S[l]? = some (.lst ds)) : tupleD [.ref l] S = .ok (.tup ds) S := by simp only [tupleD, lst_ref h]
theorem walk_ref {l : Nat} (h : S[l]? = some (.lst ds)) : walkD (.ref l) S = some (ds, .ls l ds) := by simp only [walkD, seq_lst (lst_ref h)]; rfl
theorem walk_tup : walkD (.tup ds) S = some (ds, .tt) := by simp only [walkD, seqOf, tupOf]; rfl
theorem sline (n : Nat) (h : n ≤ 16777216) : n ≤ sizeLine := h
end

/-! ### the law's draws -/
section
noncomputable def drawsB : RC := cSeq (cSet 4 (eCon (.int 0))) (cSeq (cIf (cBl (eBin gtD (eCall lenD (aCons (eVar 0) (aNil))) (eCon (.int 0)))) (cSet 4 (eBin modD (eBin idxD (eVar 0) (eBin modD (eVar 3) (eCall lenD (aCons (eVar 0) (aNil))))) (eBin powD (eCon (.int 10)) (eCon (.int 18))))) (cNil)) (cExpr (eMeth "list" appendD (eVar 2) (aCons (eBin addD (eVar 4) (eBin mulD (eCon (.int 7919)) (eBin fdivD (eVar 3) (eCall max2D (aCons (eCon (.int 1)) (aCons (eCall lenD (aCons (eVar 0) (aNil))) (aNil))))))) (aNil)))))
noncomputable def drawsC : RC := cSeq (cSet 2 (eLst (aNil))) (cSeq (cFor (iRange rng1 (aCons (eVar 1) (aNil))) (.nm 3) drawsB) (cRet (eVar 2)))
variable {S S' : Sto} {d : Dv}
theorem draws_run {ns : List Int} {n : Nat} (hd : lstOf S d = some (ns.map .int)) (hn : n ≤ 1000) (hl : ns.length ≤ 63) : ∃ (l : Nat) (xs : List Int) (S' : Sto), runF drawsC 5 2 [d, .int n] S = .ok (.ref l) S' ∧ Gr S S' ∧ S.length ≤ l ∧ S'[l]? = some (.lst (xs.map .int)) ∧ xs.length = n ∧ ∀ x ∈ xs, 0 ≤ x ∧ x < 2 ^ 62 := by
  have h10 : CPow 10 18 := ⟨by omega, by omega, by omega⟩
  refine (loop_all (ck := Ck.tt.ok) (t := .nm 3) (b := drawsB) (S := S ++ [.lst []]) (ρ := [some d, some (.int n), some (.ref S.length), none, none])
    (fun i ρ S' => ∃ (v3 v4 : Option Dv) (xs : List Int), ρ = [some d, some (.int n), some (.ref S.length), v3, v4] ∧ Gr S S' ∧ S'[S.length]? = some (.lst (xs.map .int)) ∧ xs.length = i ∧ ∀ x ∈ xs, (0 : Int) ≤ x ∧ x < 2 ^ 62) (rangeL 0 n)
    ⟨none, none, [], rfl, gr_app _ _, at_new _ _, rfl, by simp⟩ ?_ (fun _ _ _ => trivial)).elim fun ρ' ⟨S', e, v3, v4, xs, hρ, g, h1, h2, h3⟩ => ?_
  rotate_left
  · subst hρ
    refine ⟨S.length, xs, S', ?_, g, Nat.le_refl _, h1, by rw [h2, rangeL_len]; omega, h3⟩
    refine runF_rt (ρ := [some d, some (.int n), none, none, none]) rfl rfl ?_
    simp only [drawsC, ev_var, ev_con, ev_bin, ev_un, ev_anil, ev_acons, ev_call, ev_tup, ev_lst, ev_not, ev_and, ev_or, ev_if, ev_cbl, ev_btrue, ev_cand, ev_cor, ev_cnot, ev_sli, ev_onone, ev_osome, ev_chain, ev_meth, ev_get2, ev_newK, ev_newT, ev_own, ev_nil, ev_seq, ev_expr, ev_set, ev_ret, ev_retN, ev_cif, ev_brk, ev_ct, ev_asg, ev_put, ev_aug, ev_for, ev_comp, ev_newL, ev_iseq, ev_irange, ev_ienum, ev_yes, Out.bind_ok, Out.bindN_ok, bindS_ok, Tg.set, Tg.sets, List.getElem?_cons_zero, List.getElem?_cons_succ, List.set_cons_zero, List.set_cons_succ, wipeE, List.length_cons, List.length_nil, Nat.reduceAdd, Nat.reduceLeDiff, Nat.reduceEqDiff, ↓reduceIte, Bool.false_eq_true, decide_eq_true_eq, addD, subD, mulD, fdivD, modD, powD, negD, ltD, leD, gtD, geD, andD, orD, xorD, max2D, min2D, Nat.zero_le, rng1_of (i := (n : Int)) (by omega) (by omega), e]
  · rintro i v ρ S1 hv ⟨v3, v4, xs, rfl, g, h1, h2, h3⟩
    obtain ⟨rfl, hlt⟩ := rangeL_get hv
    refine ⟨trivial, _, rfl, ?_⟩
    have hd1 := lst_gr g hd
    have hlen : (xs.map Dv.int).length < sizeLine := by rw [List.length_map]; unfold sizeLine; omega
    -- what is put in
    have key : ∃ c : Int, 0 ≤ c ∧ c < 10 ^ 18 ∧ (cIf (cBl (eBin gtD (eCall lenD (aCons (eVar 0) (aNil))) (eCon (.int 0)))) (cSet 4 (eBin modD (eBin idxD (eVar 0) (eBin modD (eVar 3) (eCall lenD (aCons (eVar 0) (aNil))))) (eBin powD (eCon (.int 10)) (eCon (.int 18))))) (cNil))
        [some d, some (.int n), some (.ref S.length), some (.int (0 + i)), some (.int 0)] S1 = .fl (.nx [some d, some (.int n), some (.ref S.length), some (.int (0 + i)), some (.int c)]) S1 := by
      by_cases hns : ns = []
      · subst hns
        refine ⟨0, by omega, by omega, ?_⟩
        simp [ev_var, ev_con, ev_bin, ev_un, ev_anil, ev_acons, ev_call, ev_tup, ev_lst, ev_not, ev_and, ev_or, ev_if, ev_cbl, ev_btrue, ev_cand, ev_cor, ev_cnot, ev_sli, ev_onone, ev_osome, ev_chain, ev_meth, ev_get2, ev_newK, ev_newT, ev_own, ev_nil, ev_seq, ev_expr, ev_set, ev_ret, ev_retN, ev_cif, ev_brk, ev_ct, ev_asg, ev_put, ev_aug, ev_for, ev_comp, ev_newL, ev_iseq, ev_irange, ev_ienum, ev_yes, Out.bind_ok, Out.bindN_ok, bindS_ok, Tg.set, Tg.sets, List.getElem?_cons_zero, List.getElem?_cons_succ, List.set_cons_zero, List.set_cons_succ, wipeE, List.length_cons, List.length_nil, Nat.reduceAdd, Nat.reduceLeDiff, Nat.reduceEqDiff, ↓reduceIte, Bool.false_eq_true, decide_eq_true_eq, addD, subD, mulD, fdivD, modD, powD, negD, ltD, leD, gtD, geD, andD, orD, xorD, max2D, min2D, len_lst hd1]
      · have hp : 0 < ns.length := List.length_pos_iff.mpr hns
        obtain ⟨a, _, ha⟩ := atI_mod (xs := ns.map Dv.int) (by simpa using hns) (0 + i)
        obtain ⟨c, rfl⟩ : ∃ c, a = .int c := by
          rename_i hm
          obtain ⟨c, _, e⟩ := List.mem_map.mp hm
          exact ⟨c, e.symm⟩
        refine ⟨c % 10 ^ 18, Int.emod_nonneg _ (by omega), Int.emod_lt_of_pos _ (by omega), ?_⟩
        have hpI : (0 : Int) < ((ns.map Dv.int).length : Int) := by rw [List.length_map]; omega
        simp only [ev_var, ev_con, ev_bin, ev_un, ev_anil, ev_acons, ev_call, ev_tup, ev_lst, ev_not, ev_and, ev_or, ev_if, ev_cbl, ev_btrue, ev_cand, ev_cor, ev_cnot, ev_sli, ev_onone, ev_osome, ev_chain, ev_meth, ev_get2, ev_newK, ev_newT, ev_own, ev_nil, ev_seq, ev_expr, ev_set, ev_ret, ev_retN, ev_cif, ev_brk, ev_ct, ev_asg, ev_put, ev_aug, ev_for, ev_comp, ev_newL, ev_iseq, ev_irange, ev_ienum, ev_yes, Out.bind_ok, Out.bindN_ok, bindS_ok, Tg.set, Tg.sets, List.getElem?_cons_zero, List.getElem?_cons_succ, List.set_cons_zero, List.set_cons_succ, wipeE, List.length_cons, List.length_nil, Nat.reduceAdd, Nat.reduceLeDiff, Nat.reduceEqDiff, ↓reduceIte, Bool.false_eq_true, decide_eq_true_eq, addD, subD, mulD, fdivD, modD, powD, negD, ltD, leD, gtD, geD, andD, orD, xorD, max2D, min2D, len_lst hd1, hpI, idx_lst hd1 ha, h10, Int.reduceToNat, show (0 : Int) < 10 ^ 18 by omega]
    obtain ⟨c, c0, c1, e1⟩ := key
    have hm : (max 1 ((ns.map Dv.int).length : Int)) = max 1 (ns.length : Int) := by rw [List.length_map]
    have hmp : (0 : Int) < max 1 (ns.length : Int) := by omega
    have hlog : (max 1 (ns.length : Int)).natAbs.log2 < 9000 := by
      have h1 := Nat.log2_le_self (max 1 (ns.length : Int)).natAbs
      have h2 : (max 1 (ns.length : Int)).natAbs ≤ 64 := by omega
      omega
    have hq0 : 0 ≤ ((0 : Int) + i) / max 1 (ns.length : Int) := Int.ediv_nonneg (by omega) (by omega)
    have hq1 : ((0 : Int) + i) / max 1 (ns.length : Int) ≤ i := by
      have := Int.ediv_le_self (a := (0 : Int) + i) (max 1 (ns.length : Int)) (by omega)
      omega
    have hmul : CMul 7919 (((0 : Int) + i) / max 1 (ns.length : Int)) := .inl ⟨by omega, by omega⟩
    refine ⟨[some d, some (.int n), some (.ref S.length), some (.int (0 + i)), some (.int c)], S1.set S.length (.lst ((xs ++ [c + 7919 * ((0 + i) / max 1 (ns.length : Int))]).map .int)), .inl ?_, _, _, _, rfl, ?_, at_set h1, by simp [h2], ?_⟩
    · unfold drawsB
      rw [ev_seq]
      simp only [ev_set, ev_con, bindS_ok, List.set_cons_zero, List.set_cons_succ]
      rw [ev_seq, e1]
      simp only [ev_var, ev_con, ev_bin, ev_un, ev_anil, ev_acons, ev_call, ev_tup, ev_lst, ev_not, ev_and, ev_or, ev_if, ev_cbl, ev_btrue, ev_cand, ev_cor, ev_cnot, ev_sli, ev_onone, ev_osome, ev_chain, ev_meth, ev_get2, ev_newK, ev_newT, ev_own, ev_nil, ev_seq, ev_expr, ev_set, ev_ret, ev_retN, ev_cif, ev_brk, ev_ct, ev_asg, ev_put, ev_aug, ev_for, ev_comp, ev_newL, ev_iseq, ev_irange, ev_ienum, ev_yes, Out.bind_ok, Out.bindN_ok, bindS_ok, Tg.set, Tg.sets, List.getElem?_cons_zero, List.getElem?_cons_succ, List.set_cons_zero, List.set_cons_succ, wipeE, List.length_cons, List.length_nil, Nat.reduceAdd, Nat.reduceLeDiff, Nat.reduceEqDiff, ↓reduceIte, Bool.false_eq_true, decide_eq_true_eq, addD, subD, mulD, fdivD, modD, powD, negD, ltD, leD, gtD, geD, andD, orD, xorD, max2D, min2D, len_lst hd1, tyq_ref h1, hm, hmp, hlog, hmul, and_self, app_ref h1 hlen, List.map_append, List.map_cons, List.map_nil]
    · exact g.new (fr_set S1 S.length _) fun l z => by subst z; exact Nat.le_refl _
    · intro x hx
      rcases List.mem_append.mp hx with hx | hx
      · exact h3 x hx
      · rw [List.mem_singleton] at hx; subst hx; constructor <;> omega
end
end PL

namespace PL
open PySem PySem.Spec PyProof.Rows L2
section
variable {S S' : Sto} {d x y : Dv} {ds xs : List Dv}
theorem Fr.at {S S1 : Sto} (h : Fr (fun _ => False) S S1) {l : Nat} {o : Ob} (e : S[l]? = some o) : S1[l]? = some o := h.get l o e id
theorem Fr.any {P : Nat → Prop} {S S1 : Sto} (h : Fr (fun _ => False) S S1) : Fr P S S1 := h.imp fun _ _ z => z.elim
theorem seq_of {a b : RC} {ρ ρ' : Env} {S S' : Sto} (h : a ρ S = .fl (.nx ρ') S') : cSeq a b ρ S = b ρ' S' := by simp only [cSeq, h]
theorem seq_rt {a b : RC} {ρ : Env} {S S' : Sto} {d : Dv} (h : a ρ S = .fl (.rt d) S') : cSeq a b ρ S = .fl (.rt d) S' := by simp only [cSeq, h]
theorem if_t {t : RT} {a b : RC} {ρ : Env} {S S' : Sto} (h : t ρ S = .ok true S') : cIf t a b ρ S = a ρ S' := by simp only [cIf, h, bindS_ok, ↓reduceIte]
theorem if_f {t : RT} {a b : RC} {ρ : Env} {S S' : Sto} (h : t ρ S = .ok false S') : cIf t a b ρ S = b ρ S' := by simp only [cIf, h, bindS_ok, Bool.false_eq_true, ↓reduceIte]
theorem set_of {i : Nat} {e : RE} {ρ : Env} {S S' : Sto} {d : Dv} (h : e ρ S = .ok d S') : cSet i e ρ S = .fl (.nx (ρ.set i (some d))) S' := by simp only [cSet, h, bindS_ok]
theorem expr_of {e : RE} {ρ : Env} {S S' : Sto} {d : Dv} (h : e ρ S = .ok d S') : cExpr e ρ S = .fl (.nx ρ) S' := by simp only [cExpr, h, bindS_ok]
theorem ret_of {e : RE} {ρ : Env} {S S' : Sto} {d : Dv} (h : e ρ S = .ok d S') : cRet e ρ S = .fl (.rt d) S' := by simp only [cRet, h, bindS_ok]
theorem for_of {r : RI} {t : Tg} {b : RC} {ρ : Env} {S S' : Sto} {w : List Dv × Ck} (h : r ρ S = .ok w S') : cFor r t b ρ S = loop w.2.ok t b w.1 ρ S' := by simp only [cFor, h, bindS_ok]
theorem add_int (i j : Int) : addD (.int i) (.int j) S = .ok (.int (i + j)) S := .trans rfl rfl
theorem sub_int (i j : Int) : subD (.int i) (.int j) S = .ok (.int (i - j)) S := .trans rfl rfl
theorem lt_int (i j : Int) : ltD (.int i) (.int j) S = .ok (.bl (decide (i < j))) S := .trans rfl rfl
theorem le_int (i j : Int) : leD (.int i) (.int j) S = .ok (.bl (decide (i ≤ j))) S := .trans rfl rfl
theorem gt_int (i j : Int) : gtD (.int i) (.int j) S = .ok (.bl (decide (j < i))) S := .trans rfl rfl
theorem ge_int (i j : Int) : geD (.int i) (.int j) S = .ok (.bl (decide (j ≤ i))) S := .trans rfl rfl
theorem neg_int (i : Int) : negD (.int i) S = .ok (.int (-i)) S := .trans rfl rfl
theorem and_int (i j : Int) : andD (.int i) (.int j) S = .ok (.int (Builtin.bitAnd i j)) S := .trans rfl rfl
theorem or_int (i j : Int) : orD (.int i) (.int j) S = .ok (.int (Builtin.bitOr i j)) S := .trans rfl rfl
theorem xor_int (i j : Int) : xorD (.int i) (.int j) S = .ok (.int (Builtin.bitXor i j)) S := .trans rfl rfl
theorem max2_int (i j : Int) : max2D [.int i, .int j] S = .ok (.int (max i j)) S := .trans rfl rfl
theorem min2_int (i j : Int) : min2D [.int i, .int j] S = .ok (.int (min i j)) S := .trans rfl rfl
theorem int_bl (b : Bool) : intD [.bl b] S = .ok (.int (if b then 1 else 0)) S := .trans rfl rfl
theorem int_int (b : Int) : intD [.int b] S = .ok (.int b) S := .trans rfl rfl
theorem sli_tup (lo hi : Option Int) : sliD (.tup ds) lo hi S = .ok (.tup (cutD ds lo hi)) S := .trans rfl rfl
theorem beqD (a b : Str) : (a == b) = decide (a = b) := by by_cases h : a = b <;> simp [h]
theorem shp_int (i : Int) : SeqAt.shaped (.int i) = true := by rfl
abbrev Sk (x : Str) : Prop := PyData.strOk x = true
theorem sk_of {x : Str} (h : ∀ c ∈ x.cps.toList, c < 1114112) : Sk x := by
  show x.cps.all (fun c => decide (c < 1114112)) = true
  rw [← Array.all_toList, List.all_eq_true]
  exact fun c hc => decide_eq_true (h c hc)
theorem sk_app {x y : Str} (h : Sk x) (k : Sk y) : Sk (x ++ y) := by
  show (x.cps ++ y.cps).all (fun c => decide (c < 1114112)) = true
  rw [Array.all_append]
  exact Bool.and_eq_true_iff.mpr ⟨h, k⟩
theorem shp_str {x : Str} (h : Sk x) : SeqAt.shaped (.str x) = true := by
  unfold SeqAt.shaped
  simp only [PyData.canLay0, PyData.depth, h, Bool.true_and]; rfl
theorem shp_bl (x : Bool) : SeqAt.shaped (.bool x) = true := by rfl
theorem eq_int (i j : Int) : eqD (.int i) (.int j) S = .ok (.bl (decide (i = j))) S := by
  simp only [eqD, eqq, toP, shp_int, and_self, ↓reduceIte, PyData.eqv]; rfl
theorem ne_int (i j : Int) : neD (.int i) (.int j) S = .ok (.bl (!decide (i = j))) S := by
  simp only [neD, eqq, toP, shp_int, and_self, ↓reduceIte, PyData.eqv]; rfl
theorem eq_str {i j : Str} (hi : Sk i) (hj : Sk j) : eqD (.str i) (.str j) S = .ok (.bl (decide (i = j))) S := by
  simp only [eqD, eqq, toP, shp_str hi, shp_str hj, and_self, ↓reduceIte, PyData.eqv, beqD]
theorem ne_str {i j : Str} (hi : Sk i) (hj : Sk j) : neD (.str i) (.str j) S = .ok (.bl (!decide (i = j))) S := by
  simp only [neD, eqq, toP, shp_str hi, shp_str hj, and_self, ↓reduceIte, PyData.eqv, beqD]
theorem eq_bl (i j : Bool) : eqD (.bl i) (.bl j) S = .ok (.bl (decide (i = j))) S := by
  simp only [eqD, eqq, toP, shp_bl, and_self, ↓reduceIte, PyData.eqv]; cases i <;> cases j <;> rfl
theorem ne_bl (i j : Bool) : neD (.bl i) (.bl j) S = .ok (.bl (!decide (i = j))) S := by
  simp only [neD, eqq, toP, shp_bl, and_self, ↓reduceIte, PyData.eqv]; cases i <;> cases j <;> rfl
theorem toPs_strs (n : Nat) : ∀ ys : List Str, toPs (n + 1) S (ys.map .str) = some (ys.map .str)
  | [] => by simp only [List.map_nil, toPs]
  | y :: ys => by simp only [List.map_cons, toPs, toP, toPs_strs n ys]
/-- a text in a list of texts -/
theorem mem_strs {l : Nat} {ys : List Str} (h : S[l]? = some (.lst (ys.map .str))) (hs : SeqAt.shaped (.list (ys.map .str)) = true) {x : Str} (hx : Sk x) : memq S (.str x) (.ref l) = some (decide (x ∈ ys)) := by
  simp only [memq, tupOf, lst_ref h, toP, toPs_strs 38 ys, shp_str hx, hs, and_self, ↓reduceIte, List.any_map, Option.some.injEq]
  induction ys with
  | nil => rfl
  | cons y ys ih =>
    rw [List.any_cons]
    have : (ys.any ((fun z => z.eqv (PyData.str x)) ∘ PyData.str)) = decide (x ∈ ys) := by
      clear ih h hs
      induction ys with
      | nil => rfl
      | cons z ys ih => rw [List.any_cons, ih]; simp [PyData.eqv, beqD, List.mem_cons, eq_comm]
    rw [this]
    simp [PyData.eqv, beqD, List.mem_cons, eq_comm]
/-- a text in a row of texts -/
theorem mem_tstrs (ys : List Str) (x : Str) : memq S (.str x) (.tup (ys.map .str)) = some (decide (x ∈ ys)) := by
  have h1 : (ys.map Dv.str).all flatD = true := by simp [List.all_map, flatD]
  simp only [memq, tupOf, h1, flatD, and_self, ↓reduceIte, Option.some.injEq]
  clear h1
  induction ys with
  | nil => rfl
  | cons y ys ih => rw [List.map_cons, List.any_cons, ih]; simp [eqF, beqD, List.mem_cons, eq_comm]
theorem strlen_app (a b : Str) : (a ++ b).length = a.length + b.length := by
  show (a.cps ++ b.cps).size = _
  rw [Array.size_append]; rfl
theorem str_app (a b : Str) : (a ++ b).cps.toList = a.cps.toList ++ b.cps.toList := by
  show (a.cps ++ b.cps).toList = _
  rw [Array.toList_append]
theorem strlen_toList (a : Str) : a.cps.toList.length = a.length := by
  show _ = a.cps.size
  rw [Array.length_toList]
theorem add_str {a b : Str} (h : a.length + b.length ≤ sizeLine) : addD (.str a) (.str b) S = .ok (.str (a ++ b)) S := by simp only [addD, h, ↓reduceIte]
theorem idx_smod {x : Str} {n : Int} (hx : (x.length : Int) = n) (h0 : 0 < n) (hl : x.length ≤ sizeLine) (i : Int) : ∃ c ∈ x.cps.toList, idxD (.str x) (.int (i % n)) S = .ok (.str ⟨#[c]⟩) S := by
  obtain ⟨c, hc, e⟩ := atI_mod (xs := x.cps.toList) (by intro z; have := strlen_toList x; rw [z] at this; simp at this; omega) i
  rw [strlen_toList, hx] at e
  exact ⟨c, hc, by simp only [idxD, hl, ↓reduceIte, e]⟩
end

/-! ### the law's names -/
def abc : Str := "abcdefghijklmnopqrstuvwxyz"
def takenW : List Str := ["start", "rule", "row", "mix", "many", "any", "kind", "not", "both", "either", "way", "mark"]
structure NameOk (x : Str) : Prop where
  len : 1 ≤ x.length ∧ x.length ≤ 8
  low : ∀ c ∈ x.cps.toList, c ∈ abc.cps.toList
  free : x ∉ takenW
noncomputable def nameB : RC := cSeq (cSet 5 (eBin addD (eBin addD (eBin fdivD (eVar 0) (eCon (.int 208))) (eBin mulD (eBin mulD (eCon (.int 7)) (eVar 3)) (eVar 3))) (eBin mulD (eBin modD (eBin fdivD (eVar 0) (eCon (.int 5408))) (eCon (.int 26))) (eVar 3)))) (cSet 2 (eBin addD (eVar 2) (eBin idxD (eVar 1) (eBin modD (eVar 5) (eCon (.int 26))))))
noncomputable def nameC : RC := cSeq (cSet 1 (eCon (.str "abcdefghijklmnopqrstuvwxyz"))) (cSeq (cSet 2 (eBin idxD (eVar 1) (eBin modD (eVar 0) (eCon (.int 26))))) (cSeq (cFor (iRange rng1 (aCons (eBin modD (eBin fdivD (eVar 0) (eCon (.int 26))) (eCon (.int 8))) (aNil))) (.nm 3) nameB) (cSeq (cSet 4 (eLst (aCons (eCon (.str "start")) (aCons (eCon (.str "rule")) (aCons (eCon (.str "row")) (aCons (eCon (.str "mix")) (aCons (eCon (.str "many")) (aCons (eCon (.str "any")) (aCons (eCon (.str "kind")) (aCons (eCon (.str "not")) (aCons (eCon (.str "both")) (aCons (eCon (.str "either")) (aCons (eCon (.str "way")) (aCons (eCon (.str "mark")) (aNil))))))))))))))) (cSeq (cIf (cBl (eBin inD (eVar 2) (eVar 4))) (cRet (eBin addD (eVar 2) (eCon (.str "z")))) (cNil)) (cRet (eVar 2))))))
theorem abc_lt : ∀ c ∈ abc.cps.toList, c < 1114112 := by
  have : abc.cps.toList.all (fun c => decide (c < 1114112)) = true := by decide +kernel
  intro c hc
  exact of_decide_eq_true (List.all_eq_true.mp this c hc)
theorem NameOk.sk {x : Str} (h : NameOk x) : Sk x := sk_of fun c hc => abc_lt c (h.low c hc)
theorem log26 : (26 : Int).natAbs.log2 < 9000 := by have := Nat.log2_le_self 26; show Nat.log2 26 < 9000; omega
theorem log_lt {n : Nat} (h : n < 9000) : (n : Int).natAbs.log2 < 9000 := by have := Nat.log2_le_self n; show Nat.log2 n < 9000; omega
theorem fdiv_lit {S : Sto} {i : Int} {n : Nat} (h0 : 0 < n) (h : n < 9000) : fdivD (.int i) (.int (n : Int)) S = .ok (.int (i / n)) S := by
  simp only [fdivD]
  rw [if_pos ⟨by omega, log_lt h⟩]
theorem mod_pos {S : Sto} {i j : Int} (h0 : 0 < j) : modD (.int i) (.int j) S = .ok (.int (i % j)) S := by simp only [modD, h0, ↓reduceIte]
theorem mul_l {S : Sto} {i j : Int} (h : -2 ^ 64 < i ∧ i < 2 ^ 64) : mulD (.int i) (.int j) S = .ok (.int (i * j)) S := by
  simp only [mulD]
  rw [if_pos (show CMul i j from Or.inl h)]
theorem mul_r {S : Sto} {i j : Int} (h : -2 ^ 64 < j ∧ j < 2 ^ 64) : mulD (.int i) (.int j) S = .ok (.int (i * j)) S := by
  simp only [mulD]
  rw [if_pos (show CMul i j from Or.inr h)]
theorem fdiv_sm {S : Sto} {i j : Int} (h0 : 0 < j) (h : j < 9000) : fdivD (.int i) (.int j) S = .ok (.int (i / j)) S := by
  obtain ⟨n, rfl⟩ := Int.eq_ofNat_of_zero_le (Int.le_of_lt h0)
  exact fdiv_lit (by omega) (by omega)
theorem mul_sm {S : Sto} {i j : Int} (h : -10000000 < i) (h2 : i < 10000000) : mulD (.int i) (.int j) S = .ok (.int (i * j)) S := mul_l (by omega)
theorem mul_smr {S : Sto} {i j : Int} (h : -10000000 < j) (h2 : j < 10000000) : mulD (.int i) (.int j) S = .ok (.int (i * j)) S := mul_r (by omega)
theorem name_run {S : Sto} {d : Int} (h0 : 0 ≤ d) : ∃ (x : Str) (S' : Sto), runF nameC 6 1 [.int d] S = .ok (.str x) S' ∧ Gr S S' ∧ NameOk x := by
  have hab : ((abc.length : Nat) : Int) = 26 := by decide
  have habl : abc.length ≤ sizeLine := by show (26 : Nat) ≤ 2 ^ 24; omega
  have fd (n : Nat) (h0 : 0 < n) (h : n < 9000) (i : Int) (S : Sto) := fdiv_lit (S := S) (i := i) h0 h
  obtain ⟨c1, hc1, e1⟩ := idx_smod (S := S) hab (by omega) habl d
  have hm0 := Int.emod_nonneg (d / 26) (b := 8) (by omega)
  have hm1 := Int.emod_lt_of_pos (d / 26) (b := 8) (by omega)
  refine (loop_all (ck := Ck.tt.ok) (t := .nm 3) (b := nameB) (S := S) (ρ := [some (.int d), some (.str abc), some (.str ⟨#[c1]⟩), none, none, none])
    (fun i ρ S' => ∃ (v3 v5 : Option Dv) (x : Str), ρ = [some (.int d), some (.str abc), some (.str x), v3, none, v5] ∧ S' = S ∧ x.length = 1 + i ∧ ∀ c ∈ x.cps.toList, c ∈ abc.cps.toList) (rangeL 0 (d / 26 % 8))
    ⟨none, none, _, rfl, rfl, rfl, by intro c hc; simp at hc; subst hc; exact hc1⟩ ?_ (fun _ _ _ => trivial)).elim fun ρ' ⟨S', e, v3, v5, x, hρ, hS, h1, h2⟩ => ?_
  · rintro i v ρ S1 hv ⟨v3, v5, x, rfl, rfl, h1, h2⟩
    obtain ⟨rfl, hlt⟩ := rangeL_get hv
    refine ⟨trivial, _, rfl, ?_⟩
    have hi : (0 : Int) + i < 8 := by omega
    obtain ⟨c2, hc2, e2⟩ := idx_smod (S := S1) hab (by omega) habl (d / 208 + 7 * (0 + i) * (0 + i) + d / 5408 % 26 * (0 + i))
    have hx : x.length + Str.length ⟨#[c2]⟩ ≤ sizeLine := by
      show x.length + 1 ≤ 2 ^ 24
      omega
    refine ⟨[some (.int d), some (.str abc), some (.str (x ++ ⟨#[c2]⟩)), some (.int (0 + i)), none, some (.int (d / 208 + 7 * (0 + i) * (0 + i) + d / 5408 % 26 * (0 + i)))], S1, .inl ?_, _, _, _, rfl, rfl, ?_, ?_⟩
    · have f1 : fdivD (.int d) (.int 208) S1 = .ok (.int (d / 208)) S1 := fdiv_lit (n := 208) (by omega) (by omega)
      have f2 : fdivD (.int d) (.int 5408) S1 = .ok (.int (d / 5408)) S1 := fdiv_lit (n := 5408) (by omega) (by omega)
      have f3 : mulD (.int 7) (.int (0 + i)) S1 = .ok (.int (7 * (0 + i))) S1 := mul_l (by omega)
      have f4 : mulD (.int (7 * (0 + i))) (.int (0 + i)) S1 = .ok (.int (7 * (0 + i) * (0 + i))) S1 := mul_r (by omega)
      have f5 : mulD (.int (d / 5408 % 26)) (.int (0 + i)) S1 = .ok (.int (d / 5408 % 26 * (0 + i))) S1 := mul_r (by omega)
      have f6 : modD (.int (d / 5408)) (.int 26) S1 = .ok (.int (d / 5408 % 26)) S1 := mod_pos (by omega)
      have f7 : modD (.int (d / 208 + 7 * (0 + i) * (0 + i) + d / 5408 % 26 * (0 + i))) (.int 26) S1 = _ := mod_pos (by omega)
      simp only [nameB, ev_seq, ev_set, ev_bin, ev_var, ev_con, List.getElem?_cons_zero, List.getElem?_cons_succ, List.set_cons_zero, List.set_cons_succ, Out.bind_ok, bindS_ok, f1, f2, f3, f4, f5, f6, f7, addD, e2, hx, ↓reduceIte]
    · rw [strlen_app, h1]; show 1 + i + 1 = _; omega
    · intro c hc
      rw [str_app] at hc
      rcases List.mem_append.mp hc with hc | hc
      · exact h2 c hc
      · simp at hc; subst hc; exact hc2
  · subst hρ hS
    rw [rangeL_len] at h1
    have hlen : x.length ≤ 8 := by omega
    have hsk : Sk x := sk_of fun c hc => abc_lt c (h2 c hc)
    have hin : memq (S' ++ [.lst (takenW.map .str)]) (.str x) (.ref S'.length) = some (decide (x ∈ takenW)) := mem_strs (at_new _ _) (by decide +kernel) hsk
    have g : Gr S' (S' ++ [.lst (takenW.map .str)]) := gr_app _ _
    have f1 : fdivD (.int d) (.int 26) S' = .ok (.int (d / 26)) S' := fdiv_lit (n := 26) (by omega) (by omega)
    have f2 : modD (.int (d / 26)) (.int 8) S' = .ok (.int (d / 26 % 8)) S' := mod_pos (by omega)
    have f3 : modD (.int d) (.int 26) S' = .ok (.int (d % 26)) S' := mod_pos (by omega)
    have r1 := rng1_of hm0 (by omega)
    have s12 : (takenW.map Dv.str).length ≤ sizeLine := by show (12 : Nat) ≤ 2 ^ 24; omega
    have et : ([.str "start", .str "rule", .str "row", .str "mix", .str "many", .str "any", .str "kind", .str "not", .str "both", .str "either", .str "way", .str "mark"] : List Dv) = takenW.map .str := rfl
    have ea : ("abcdefghijklmnopqrstuvwxyz" : Str) = abc := rfl
    by_cases ht : x ∈ takenW
    · have hz : ∀ t ∈ takenW, NameOk (t ++ "z") := by
        have : takenW.all (fun t => decide (1 ≤ (t ++ ("z" : Str)).length ∧ (t ++ ("z" : Str)).length ≤ 8) && (t ++ ("z" : Str)).cps.toList.all (fun c => decide (c ∈ abc.cps.toList)) && decide ((t ++ ("z" : Str)) ∉ takenW)) = true := by decide +kernel
        intro t ht
        have := List.all_eq_true.mp this t ht
        simp only [Bool.and_eq_true, decide_eq_true_eq, List.all_eq_true] at this
        exact ⟨this.1.1, this.1.2, this.2⟩
      have hzl : x.length + Str.length "z" ≤ sizeLine := by show x.length + 1 ≤ 2 ^ 24; omega
      refine ⟨x ++ "z", _, runF_rt (ρ := [some (.int d), none, none, none, none, none]) rfl rfl ?_, g, hz x ht⟩
      simp only [nameC, ev_seq, ev_set, ev_con, ev_bin, ev_var, ev_for, ev_irange, ev_acons, ev_anil, ev_lst, ev_cif, ev_cbl, ev_btrue, ev_ret, List.getElem?_cons_zero, List.getElem?_cons_succ, List.set_cons_zero, List.set_cons_succ, Out.bind_ok, bindS_ok, f1, f2, f3, ea, e1, r1, e, et, s12, inD, hin, ht, decide_true, ↓reduceIte, addD, hzl]
    · refine ⟨x, _, runF_rt (ρ := [some (.int d), none, none, none, none, none]) rfl rfl ?_, g, ⟨⟨by omega, hlen⟩, h2, ht⟩⟩
      simp only [nameC, ev_seq, ev_set, ev_con, ev_bin, ev_var, ev_for, ev_irange, ev_acons, ev_anil, ev_lst, ev_cif, ev_cbl, ev_btrue, ev_ret, ev_nil, List.getElem?_cons_zero, List.getElem?_cons_succ, List.set_cons_zero, List.set_cons_succ, Out.bind_ok, bindS_ok, f1, f2, f3, ea, e1, r1, e, et, s12, inD, hin, ht, decide_false, Bool.false_eq_true, ↓reduceIte]
end PL
namespace PL
open PySem PySem.Spec PyProof.Rows L2
/-! ### a module's constant rows -/
def cV : Value → Option Dv
  | .none => some .non
  | .bool b => some (.bl b)
  | .int i _ => some (.int i)
  | .str x _ => some (.str x)
  | _ => none
def vV : Value → V
  | .bool b => .bl b
  | .int i _ => .int i
  | .str x _ => .str x
  | _ => .non
def Cst (its : List Value) (k : Dv) : Prop := ∃ ds, k = .kt ds ∧ its.map cV = ds.map some ∧ Nat.ble its.length 16777216 = true
theorem cst_rep {K : PySem.W.Frag} {μ : List Addr} {H : Hp} {a : Addr} {od : Option Addr} {its : Array Value} {n : Nat} {sl : Array (Option Value)} {k : Dv} (w : K.lookup a = some ⟨.type "tuple", od, .seq its n, sl⟩) (u : Cst its.toList k) : Rep K μ H (.ref a) k := by
  obtain ⟨ds, rfl, e, hl⟩ := u
  have hlen : its.toList.length = ds.length := by have := congrArg List.length e; simpa using this
  have key : ∀ (xs : List Value) (ds : List Dv), xs.map cV = ds.map some → Vals (xs.map vV) xs ∧ ∀ (i : Nat) (v : V) (d : Dv), (xs.map vV)[i]? = some v → ds[i]? = some d → Rep K μ H v d := by
    intro xs
    induction xs with
    | nil => intro ds e; exact ⟨.nil, fun i v d h => by simp at h⟩
    | cons x xs ih =>
      intro ds e
      cases ds with
      | nil => simp at e
      | cons d ds =>
        simp only [List.map_cons, List.cons.injEq] at e
        obtain ⟨h1, h2⟩ := ih ds e.2
        have hx : L2.RelV (vV x) x ∧ Rep K μ H (vV x) d := by
          have e1 := e.1
          cases x <;> simp only [cV, Option.some.injEq] at e1 <;> first | cases e1 | skip
          · exact ⟨rfl, .non⟩
          · exact ⟨rfl, .bl _⟩
          · exact ⟨⟨_, rfl⟩, .int _⟩
          · exact ⟨⟨_, rfl⟩, .str _⟩
        refine ⟨.cons hx.1 h1, fun i v d' hv hd => ?_⟩
        cases i with
        | zero => simp at hv hd; subst hv; subst hd; exact hx.2
        | succ i => exact h2 i v d' (by simpa using hv) (by simpa using hd)
  obtain ⟨h1, h2⟩ := key _ _ e
  exact .kt ⟨_, its, n, w, rfl, rfl, by have := Nat.le_of_ble_eq_true hl; rw [Array.length_toList] at this; exact this, h1⟩ (by simpa using hlen) h2
theorem rel_str {x : Str} {t : Tok} : L2.RelV (.str x) (.str x t) := ⟨_, rfl⟩
theorem rel_int {x : Int} {t : Tok} : L2.RelV (.int x) (.int x t) := ⟨_, rfl⟩
end PL

namespace PL
open PySem PySem.Spec PyProof.Rows L2

/-! ### sources that are lists or tuples: zip and enumerate over either kind -/
def Sq (K : PySem.W.Frag) (l : Bool) (H : Hp) (a : Addr) (vs : List V) : Prop := match l with
  | true => SqL K H a vs
  | false => SqT K H a vs
def Pn (l : Bool) (h : Heap) (a : Addr) (its : Array Value) : Prop := match l with
  | true => h.IsList a its
  | false => h.IsTuple a its
def Cur (l : Bool) (h : Heap) (it a : Addr) (i : Nat) : Prop := match l with
  | true => h.IsListIter it a i
  | false => h.IsTupleIter it a i
def itO (l : Bool) (a : Addr) : Obj := match l with
  | true => { cls := .type "list_iterator", data := .fields #[.ref a, .int 0 0] }
  | false => { cls := .type "tuple_iterator", data := .fields #[.ref a, .int 0 0] }
section
variable {X : Cx} {pins : List (Addr × Obj)} {σ : L2.St} {H : Hp} {s : Shared} {a : Addr} {vs us : List V} {l : Bool}
theorem sq_read (I : Inv X pins σ H s) (q : Sq X.K l H a vs) : ∃ its : List Value, Vals vs its ∧ Pn l s.heap a its.toArray := by
  cases l with
  | true => obtain ⟨its, r, p, _⟩ := I.list q; exact ⟨its, r, p.isList⟩
  | false => obtain ⟨its, r, p, _⟩ := I.tuple q; exact ⟨its, r, p⟩
theorem sq_inj (I : Inv X pins σ H s) (q : Sq X.K l H a vs) (q' : Sq X.K l H a us) : vs = us := by
  cases l with
  | true => exact I.list_inj q q'
  | false => exact I.tuple_inj q q'
theorem pn_lt {h : Heap} {its : Array Value} (p : Pn l h a its) : a < h.objs.size := by
  cases l with
  | true => obtain ⟨o, e, _⟩ := p; exact Heap.lt_size e
  | false => obtain ⟨o, e, _⟩ := p; exact Heap.lt_size e
theorem cur_obj {h : Heap} {it : Addr} {i : Nat} (c : Cur l h it a i) : ∃ o, h.get? it = some o ∧ ∀ v, o.data ≠ .cell v := by
  cases l with
  | true => obtain ⟨o, e, _, d⟩ := c; exact ⟨o, e, fun v z => by rw [d] at z; cases z⟩
  | false => obtain ⟨o, e, _, d⟩ := c; exact ⟨o, e, fun v z => by rw [d] at z; cases z⟩
theorem cur_at {h h' : Heap} {it : Addr} {i : Nat} (c : Cur l h it a i) (k : ∀ o, h.get? it = some o → h'.get? it = some o) : Cur l h' it a i := by
  cases l with
  | true => exact Heap.IsListIter.at c k
  | false => exact Heap.IsTupleIter.at c k
theorem pn_at {h h' : Heap} {its : Array Value} (c : Pn l h a its) (k : ∀ o, h.get? a = some o → h'.get? a = some o) : Pn l h' a its := by
  cases l with
  | true => exact Heap.IsList.at c k
  | false => exact Heap.IsTuple.at c k
theorem cur_new {h : Heap} {it : Addr} (e : h.get? it = some (itO l a)) : Cur l h it a 0 := by
  cases l with
  | true => exact ⟨_, e, rfl, rfl⟩
  | false => exact ⟨_, e, rfl, rfl⟩
theorem pn_draws {prog : Program} {w : World} {A : Around} (hh : A.handled = none) (it : Addr) (ne : a ≠ it) (its : Array Value) :
    Draws prog w A it [it, a] its.size (fun i v => its[i]? = some v) (fun i h => Cur l h it a i ∧ Pn l h a its) := by
  cases l with
  | true => exact Draws.list hh it a ne its
  | false => exact Draws.tuple hh it a ne its
theorem pn_begins (its : Array Value) : Begins (.ref a) (itO l a) (fun h => Pn l h a its) := by
  cases l with
  | true => exact begins_list a its
  | false => exact begins_tuple a its
end
/-- the items of two sources, side by side -/
def Jz (K : PySem.W.Frag) (l1 l2 : Bool) (a b : Addr) : It :=
  ⟨fun i H => ∃ vs us x y, Sq K l1 H a vs ∧ Sq K l2 H b us ∧ vs[i]? = some x ∧ us[i]? = some y,
    fun i H v H' => ∃ T x y, v = .ref T ∧ H T = none ∧ H' = upd H T (.tup [x, y]) ∧ (∀ vs, Sq K l1 H a vs → vs[i]? = some x) ∧ (∀ us, Sq K l2 H b us → us[i]? = some y),
    fun i H => ∃ vs us, Sq K l1 H a vs ∧ Sq K l2 H b us ∧ i ≤ vs.length ∧ i ≤ us.length ∧ (i = vs.length ∨ i = us.length)⟩
theorem turn_jz {P : Program} {w : World} {K : PySem.W.Frag} {elts : List Expr} {kk : Nat} {tpos : Pos} {l1 l2 : Bool} {a b z TI TO i1 i2 : Addr} (D : ZipSep2 z TI TO i1 i2 [i1, a] [i2, b]) (na : a ≠ i1) (nb : b ≠ i2) :
    Turn P w K (.Tuple elts kk tpos) (Jz K l1 l2 a b) [z, TI, TO, i1, i2] z (fun i h => IsZip h z TI TO .none ∧ IsTupOf2 h TI (.ref i1) (.ref i2) ∧ (∃ x y, IsTupOf2 h TO x y) ∧ Cur l1 h i1 a i ∧ Cur l2 h i2 b i) := by
  have sp : ∀ {c : Addr}, c ∈ [z, TI, TO, i1, i2] → c = z ∨ c = TI ∨ c = TO ∨ c = i1 ∨ c = i2 := fun h => by simpa using h
  refine ⟨by simp, ?_, ?_, ?_, ?_, fun A i s Q E st hQ => wpAny_pyIter_zip st.1 hQ⟩
  · rintro i h ⟨e1, e2, ⟨_, _, e3⟩, e4, e5⟩ c hc
    rcases sp hc with rfl | rfl | rfl | rfl | rfl
    · exact ⟨_, e1, fun v z => nomatch z⟩
    · exact ⟨_, e2, fun v z => nomatch z⟩
    · exact ⟨_, e3, fun v z => nomatch z⟩
    · exact cur_obj e4
    · exact cur_obj e5
  · rintro i h h' ⟨e1, e2, ⟨x, y, e3⟩, e4, e5⟩ kp
    exact ⟨kp z (by simp) _ e1, kp TI (by simp) _ e2, ⟨x, y, kp TO (by simp) _ e3⟩, cur_at e4 (kp i1 (by simp)), cur_at e5 (kp i2 (by simp))⟩
  · intro X hP hw hK hc i pins s σ H E I hf ⟨e1, e2, ⟨x0, y0, e3⟩, e4, e5⟩ ⟨vs, us, x, y, q1, q2, g1, g2⟩
    subst hP hw hK
    obtain ⟨its, r1, p1⟩ := sq_read I q1
    obtain ⟨jts, r2, p2⟩ := sq_read I q2
    obtain ⟨u1, hu1, ru1⟩ := r1.get g1
    obtain ⟨u2, hu2, ru2⟩ := r2.get g2
    have lt1 : i < its.toArray.size := by rw [List.size_toArray]; exact (List.getElem?_eq_some_iff.mp hu1).1
    have lt2 : i < jts.toArray.size := by rw [List.size_toArray]; exact (List.getElem?_eq_some_iff.mp hu2).1
    have hh : X.A.handled = none := I.ok.hd hc
    have D1 := pn_draws (prog := X.prog) (w := X.w) (A := X.A.in1) (l := l1) hh i1 na its.toArray
    have D2 := pn_draws (prog := X.prog) (w := X.w) (A := X.A.in1) (l := l2) hh i2 nb jts.toArray
    refine wpAny_pyNext_zipD2_item D D1 D2 e1 e2 e3 ⟨e4, p1⟩ ⟨e5, p2⟩ lt1 lt2 fun w1 w2 h' tk a1 a2 z' t' st1 st2 tn _ kp => ?_
    have w1e : w1 = u1 := by have := a1.symm.trans (show its.toArray[i]? = some u1 by simpa using hu1); exact Option.some.inj this
    have w2e : w2 = u2 := by have := a2.symm.trans (show jts.toArray[i]? = some u2 by simpa using hu2); exact Option.some.inj this
    subst w1e w2e
    refine ⟨_, rfl, wpAny_letOwnedTupleGo_zip (s := { s with heap := h', toks := tk }) z' fun h2 z2 sb => ?_⟩
    have zl : z < s.heap.objs.size := Heap.lt_size e1
    have tn2 : h2.get? s.heap.objs.size = some { cls := .type "tuple", data := .seq #[w1, w2] } := (sb.2 _ (Nat.ne_of_gt zl)).trans tn
    have ok : ObjOk X.prog X.w (upd H s.heap.objs.size (.tup [x, y])) h2 s.heap.objs.size (.tup [x, y]) := ⟨show 2 ≤ 2 ^ 24 by omega, [w1, w2], .cons ru1 (.cons ru2 .nil), ⟨_, tn2, rfl, _, rfl⟩⟩
    have I2 : Inv X pins σ (upd H s.heap.objs.size (.tup [x, y])) { s with heap := h2, toks := tk } :=
      I.turnedNew (t' := tk) (ch := [z, TI, TO, i1, i2]) (fun c o hn q => by
        have n1 : c ≠ z := fun e => hn (by simp [e])
        exact (sb.2 c n1).trans (kp c o n1 (fun e => hn (by simp [e])) (fun e => hn (by simp [e])) (fun e => hn (by simp [e])) q)) hf (Nat.le_refl _) ok
    refine ⟨.ref s.heap.objs.size, _, I2, rfl, ⟨_, x, y, rfl, I.hok.fresh (Nat.le_refl _), rfl, fun ws q => by rw [sq_inj I q q1]; exact g1, fun ws q => by rw [sq_inj I q q2]; exact g2⟩, ⟨z2, ?_, ⟨w1, w2, ?_⟩, ?_, ?_⟩, fun c hcm => ?_⟩
    · exact (sb.2 _ D.TIz).trans (kp TI _ D.TIz D.TITO D.TIi1 D.TIi2 e2)
    · exact (sb.2 _ D.TOz).trans t'
    · exact cur_at st1.1 fun o q => (sb.2 _ (Ne.symm D.zi1)).trans q
    · exact cur_at st2.1 fun o q => (sb.2 _ (Ne.symm D.zi2)).trans q
    · have hlt : c < s.heap.objs.size := by
        rcases sp hcm with rfl | rfl | rfl | rfl | rfl
        · exact zl
        · exact Heap.lt_size e2
        · exact Heap.lt_size e3
        · obtain ⟨o, q, _⟩ := cur_obj e4; exact Heap.lt_size q
        · obtain ⟨o, q, _⟩ := cur_obj e5; exact Heap.lt_size q
      rw [upd_ne (Nat.ne_of_lt hlt)]
      exact (hf c hcm).1
  · intro X hP hw hK hc i pins s σ H E I hf ⟨e1, e2, ⟨x0, y0, e3⟩, e4, e5⟩ ⟨vs, us, q1, q2, le1, le2, he⟩
    subst hP hw hK
    obtain ⟨its, r1, p1⟩ := sq_read I q1
    obtain ⟨jts, r2, p2⟩ := sq_read I q2
    have s1 : its.toArray.size = vs.length := by rw [List.size_toArray]; exact r1.length.symm
    have s2 : jts.toArray.size = us.length := by rw [List.size_toArray]; exact r2.length.symm
    have hh : X.A.handled = none := I.ok.hd hc
    have D1 := pn_draws (prog := X.prog) (w := X.w) (A := X.A.in1) (l := l1) hh i1 na its.toArray
    have D2 := pn_draws (prog := X.prog) (w := X.w) (A := X.A.in1) (l := l2) hh i2 nb jts.toArray
    exact wpAny_pyNext_zipD2_end D D1 D2 e1 e2 e3 ⟨e4, p1⟩ ⟨e5, p2⟩ (by omega) (by omega) (by omega) fun h' tk kp => ⟨rfl, I.turnedL (t' := tk) (ch := [z, TI, TO, i1, i2]) (fun c o hn q =>
      kp c o (fun e => hn (by simp [e])) (fun e => hn (by simp [e])) (fun e => hn (by simp [e])) (fun e => hn (by simp [e])) q) hf⟩
def tJz (K : PySem.W.Frag) (ta : TA) : TI := fun σ H R => ta σ H fun vs H1 => ∃ l1 l2 a b xs ys, vs = [.ref a, .ref b] ∧ Sq K l1 H1 a xs ∧ Sq K l2 H1 b ys ∧ R (Jz K l1 l2 a b) H1
theorem pi_jz {X : Cx} {e e2 : Expr} {ta : TA} {p pos tpos : Pos} {elts : List Expr} {kk : Nat} (hg : Gl X "zip") (hm : X.mg "zip" = none) (ha : PA X [e, e2] ta)
    (hs : starEach [e, e2] X.env = (false, eval e X.env) :: starEach [e2] X.env := by rfl) (hpl : (backTo pos (starEach [e2] X.env)).any (·.1) = false := by rfl) :
    PI X (.Tuple elts kk tpos) (.Call (.Name "zip" p) [e, e2] [] pos) (tJz X.K ta) := by
  refine ⟨fun pins s σ H R I h => Call_ (ld_blt I hg hm PyProof.Rows.boot_zip (PyProof.Rows.callWith_type1 (thn (ha.run pos pins s σ H _ I h) ?_) hs hpl))⟩
  rintro us s1 ⟨vs, H1, I1, r1, l1, l2, a, b, xs, ys, rfl, q1, q2, hR⟩
  match us, r1 with
  | _, .cons (b := ua) ra (.cons (b := ub) rb .nil) =>
    obtain rfl : ua = .ref a := ra
    obtain rfl : ub = .ref b := rb
    obtain ⟨its, _, p1⟩ := sq_read I1 q1
    obtain ⟨jts, _, p2⟩ := sq_read I1 q2
    refine zip_begins2 (pn_begins its.toArray) (pn_begins jts.toArray) p1 p2 fun h' e1 e2 e3 e4 e5 _ kp => wpAny_pyIter_zip e1 ?_
    have I2 : Inv X pins σ H1 { s1 with heap := h' } := I1.kept (t' := s1.toks) kp
    have D := zip_sep2 (N := s1.heap.objs.size) (fp1 := [a]) (fp2 := [b]) (fun c hc => by simp at hc; subst hc; exact pn_lt p1) (fun c hc => by simp at hc; subst hc; exact pn_lt p2)
    refine ⟨_, _, _, _, H1, rfl, I2, turn_jz (l1 := l1) (l2 := l2) D (Nat.ne_of_lt (pn_lt p1)) (Nat.ne_of_lt (Nat.lt_succ_of_lt (pn_lt p2))), ⟨e1, e2, ⟨_, _, e3⟩, cur_new e4, cur_new e5⟩, fun c hc => ?_, hR⟩
    have hle : s1.heap.objs.size ≤ c := by
      have : c = s1.heap.objs.size + 4 ∨ c = s1.heap.objs.size + 2 ∨ c = s1.heap.objs.size + 3 ∨ c = s1.heap.objs.size ∨ c = s1.heap.objs.size + 1 := by simpa using hc
      rcases this with z | z | z | z | z
      all_goals rw [z]
      all_goals first | exact Nat.le_refl _ | exact Nat.le_add_right _ _
    exact I1.fpOk hle (I1.hok.fresh hle)

/-! ### the rules -/
section
variable {K : PySem.W.Frag} {mg : Str → Option Value} {W : WX} {μ μ1 : List Addr} {H H1 : Hp} {S S1 : Sto} {σ : L2.St} {ρ : Env}
theorem src_keep {v : V} {d : Dv} {ds : List Dv} (hS : SimS K μ S H) (r : Rep K μ H v d) (e : seqOf S d = some ds) :
    ∃ l a vs, v = .ref a ∧ Sq K l H a vs ∧ ∀ μ' S' H', Step μ H μ' H' → SimS K μ' S' H' → (ckOf d ds).ok S' → ∃ ws, Sq K l H' a ws ∧ Reps K μ' H' ws ds := by
  unfold seqOf at e
  cases q : tupOf d with
  | some es =>
    rw [q] at e
    cases e
    obtain ⟨a, vs, rfl, rr, h1, h2⟩ := sqT_keep r q
    exact ⟨false, a, vs, rfl, h1, fun μ' S' H' st _ _ => ⟨vs, h2 μ' H' st, rr.step st⟩⟩
  | none =>
    rw [q] at e
    obtain ⟨a, vs, rfl, h1, h2⟩ := itr_list hS r e
    exact ⟨true, a, vs, rfl, h1, h2⟩
def zipL : List Dv → List Dv → List Dv
  | x :: xs, y :: ys => .tup [x, y] :: zipL xs ys
  | _, _ => []
theorem zipL_get : ∀ (xs ys : List Dv) (i : Nat) (d : Dv), (zipL xs ys)[i]? = some d → ∃ x y, xs[i]? = some x ∧ ys[i]? = some y ∧ d = .tup [x, y]
  | [], _, i, d, h => by simp [zipL] at h
  | x :: xs, [], i, d, h => by simp [zipL] at h
  | x :: xs, y :: ys, 0, d, h => by simp [zipL] at h; exact ⟨x, y, rfl, rfl, h.symm⟩
  | x :: xs, y :: ys, i + 1, d, h => by simpa using zipL_get xs ys i d (by simpa [zipL] using h)
theorem zipL_len : ∀ xs ys : List Dv, (zipL xs ys).length = min xs.length ys.length
  | [], ys => by simp [zipL]
  | x :: xs, [] => by simp [zipL]
  | x :: xs, y :: ys => by simp [zipL, zipL_len xs ys]
theorem itr_jz {a b : Addr} {l1 l2 : Bool} {ds es : List Dv} {c1 c2 : Ck} (h1 : ∀ μ' S' H', Step μ H μ' H' → SimS K μ' S' H' → c1.ok S' → ∃ ws, Sq K l1 H' a ws ∧ Reps K μ' H' ws ds)
    (h2 : ∀ μ' S' H', Step μ H μ' H' → SimS K μ' S' H' → c2.ok S' → ∃ ws, Sq K l2 H' b ws ∧ Reps K μ' H' ws es) : ItR K μ H (Jz K l1 l2 a b) (zipL ds es, .and c1 c2) := by
  intro μ' S' H' i st hS hck
  obtain ⟨vs, q1, r1⟩ := h1 μ' S' H' st hS hck.1
  obtain ⟨us, q2, r2⟩ := h2 μ' S' H' st hS hck.2
  refine ⟨fun e => ⟨vs, us, q1, q2, ?_⟩, fun d hd => ?_⟩
  · have e' : i = min ds.length es.length := by rw [e]; exact zipL_len ds es
    rw [r1.1, r2.1]; omega
  · obtain ⟨x, y, g1, g2, rfl⟩ := zipL_get ds es i d hd
    obtain ⟨v, hv, rv⟩ := r1.get g1
    obtain ⟨u, hu, ru⟩ := r2.get g2
    refine ⟨⟨vs, us, v, u, q1, q2, hv, hu⟩, ?_⟩
    rintro _ _ ⟨T, v', u', rfl, hT, rfl, f1, f2⟩
    have e1 := f1 vs q1
    have e2 := f2 us q2
    rw [hv] at e1; cases e1
    rw [hu] at e2; cases e2
    have rr : Reps K μ' H' [v, u] [x, y] := (Reps.one ru).cons rv
    exact ⟨step_lay hS hT _, hS.lay hT _, .tup ⟨upd_same, hS.fresh hT⟩ rr.1 (rr.step (step_lay hS hT _)).2⟩
end
def iZip (a : RA) : RI := fun ρ S => (a ρ S).bind fun ds S1 => match ds with
  | [d, e] => match seqOf S1 d, seqOf S1 e with
    | some xs, some ys => .ok (zipL xs ys, .and (ckOf d xs) (ckOf e ys)) S1
    | _, _ => .no
  | _ => .no
section
variable {X : Cx} {W : WX} {tg e e2 : Expr} {re : RE} {ra : RA} {p pos tpos : Pos} {elts : List Expr} {kk : Nat}
theorem si_zip (hg : Gl X "zip") (hm : X.mg "zip" = none) (ha : SA X W [e, e2] ra) (hs : starEach [e, e2] X.env = (false, eval e X.env) :: starEach [e2] X.env := by rfl) (hpl : (backTo pos (starEach [e2] X.env)).any (·.1) = false := by rfl) :
    SI X W (.Tuple elts kk tpos) (.Call (.Name "zip" p) [e, e2] [] pos) (iZip ra) :=
  PI.imp (pi_jz hg hm ha hs hpl) fun σ H R ⟨μ, ρ, S, hS, hE, h⟩ => by
    refine ⟨μ, ρ, S, hS, hE, ?_⟩
    unfold iZip at h
    cases q : ra ρ S with
    | no => rw [q] at h; exact h.elim
    | ex x S1 => rw [q] at h; exact h
    | ok ds S1 =>
      rw [q] at h
      simp only [Out.bind_ok] at h
      intro μ1 H1 vs a b r
      match ds, r, h with
      | [d, e], r, h =>
        obtain ⟨v, u, rfl, rv, ru⟩ := r.get2
        dsimp only at h
        cases q1 : seqOf S1 d with
        | none => rw [q1] at h; exact h.elim
        | some xs =>
          cases q2 : seqOf S1 e with
          | none => rw [q1, q2] at h; exact h.elim
          | some ys =>
            rw [q1, q2] at h
            obtain ⟨l1, a1, ws1, rfl, s1, k1⟩ := src_keep a rv q1
            obtain ⟨l2, a2, ws2, rfl, s2, k2⟩ := src_keep a ru q2
            exact ⟨l1, l2, a1, a2, ws1, ws2, rfl, s1, s2, h μ1 H1 _ a b (itr_jz k1 k2)⟩
      | [], r, h => exact h.elim
      | [_], r, h => exact h.elim
      | _ :: _ :: _ :: _, r, h => exact h.elim
end
end PL

namespace PL
open PySem PySem.Spec PyProof.Rows L2
/-! ### enumerate over a list or a tuple -/
def enO (it : Addr) : Obj := { cls := .type "enumerate", data := .fields #[.none, .bool false, .ref it, rawInt 0, .none, .none] }
theorem en_meets {v : Value} {it : Heap → Addr} {nx : Heap → Heap} {Hh : Heap → Prop}
    (B : ∀ (prog : Program) (w : World) (A : Around) (E : Value → Shared → Prop) (s : Shared) (Q : Value → Shared → Prop), Hh s.heap → Q (.ref (it s.heap)) { s with heap := nx s.heap } → wpAny (model prog w) A (pyIter v) Q E s) :
    Meets (Builtin.«enumerate.__new__» ⟨[.type "enumerate", v], []⟩) (fun _ R s => Hh s.heap ∧ R (.ok (.ret (.ref (nx s.heap).objs.size))) { s with heap := (nx s.heap).push (enO (it s.heap)) }) :=
  .of_wp fun prog w A R s h => by
    obtain ⟨hp, g, d, tk, os⟩ := s
    obtain ⟨h1, h⟩ := h
    have hsub := sub_enumerate
    have q1 : ∀ {A' : Around} {E : Value → Shared → Prop} {Q : Value → Shared → Prop}, Q (.ref (it hp)) ⟨nx hp, g, d, tk, os⟩ → wpAny (model prog w) A' (pyIter v) Q E ⟨hp, g, d, tk, os⟩ := fun q => B prog w _ _ ⟨hp, g, d, tk, os⟩ _ h1 q
    wp_walk using q1
    refine wpAny_stack_any fun st => wpAny_pure ?_
    split
    · rename_i c _ _ _ _ _
      cases (c == Value.type "enumerate") <;> (wp_walk using q1; exact ⟨_, rfl, h⟩)
    · wp_walk using q1
      exact ⟨_, rfl, h⟩

theorem en_call {prog : Program} {w : World} {A : Around} {E : Value → Shared → Prop} {s : Shared} {v : Value} {it : Heap → Addr} {nx : Heap → Heap} {Hh : Heap → Prop} {Q : Value → Shared → Prop}
    (B : ∀ (prog : Program) (w : World) (A : Around) (E : Value → Shared → Prop) (s : Shared) (Q : Value → Shared → Prop), Hh s.heap → Q (.ref (it s.heap)) { s with heap := nx s.heap } → wpAny (model prog w) A (pyIter v) Q E s) (h1 : Hh s.heap)
    (h : IsEnum ((nx s.heap).push (enO (it s.heap))) (nx s.heap).objs.size (it s.heap) 0 .none → Q (.ref (nx s.heap).objs.size) { s with heap := (nx s.heap).push (enO (it s.heap)) }) : wpAny (model prog w) A (call (.type "enumerate") [v]) Q E s := by
  refine callType_new F.called_enumerate (by decide) (F.typeCall_enumerate_1 _) (F.newCall_enumerate_1 _) (fun obj => F.args_object_init_2 obj _) F.entry_enumerate_new (en_meets B) ⟨h1, ?_⟩
  have he : IsEnum ((nx s.heap).push (enO (it s.heap))) (nx s.heap).objs.size (it s.heap) 0 .none := Heap.get?_push_size (nx s.heap) (o := enO (it s.heap)) rfl
  exact ⟨⟨_, he, rfl⟩, h he⟩
/-- numbered items -/
def Je (K : PySem.W.Frag) (l : Bool) (a : Addr) : It :=
  ⟨fun i H => ∃ vs x, Sq K l H a vs ∧ vs[i]? = some x,
    fun i H v H' => ∃ T x, v = .ref T ∧ H T = none ∧ H' = upd H T (.tup [.int (i : Nat), x]) ∧ (∀ vs, Sq K l H a vs → vs[i]? = some x),
    fun i H => ∃ vs, Sq K l H a vs ∧ i = vs.length⟩
theorem turn_je {P : Program} {w : World} {K : PySem.W.Frag} {elts : List Expr} {kk : Nat} {tpos : Pos} {l : Bool} {a e it : Addr} (ne : e ≠ it) (ni : a ≠ it) (na : a ≠ e) :
    Turn P w K (.Tuple elts kk tpos) (Je K l a) [e, it] e (fun i h => (∃ old, IsEnum h e it ((i : Nat) : Int) old) ∧ Cur l h it a i) := by
  have sp : ∀ {c : Addr}, c ∈ [e, it] → c = e ∨ c = it := fun h => by simpa using h
  have nf : e ∉ [it, a] := fun h => by
    simp only [List.mem_cons, List.not_mem_nil, or_false] at h
    exact h.elim ne fun z => na z.symm
  refine ⟨by simp, ?_, ?_, ?_, ?_, fun A i s Q E st hQ => let ⟨⟨_, e1⟩, _⟩ := st; wpAny_pyIter_enum e1 hQ⟩
  · rintro i h ⟨⟨old, e1⟩, e2⟩ c hc
    rcases sp hc with rfl | rfl
    · exact ⟨_, e1, fun v z => nomatch z⟩
    · exact cur_obj e2
  · rintro i h h' ⟨⟨old, e1⟩, e2⟩ kp
    exact ⟨⟨old, kp e (by simp) _ e1⟩, cur_at e2 (kp it (by simp))⟩
  · intro X hP hw hK hc i pins s σ H E I hf ⟨⟨old, e1⟩, e2⟩ ⟨vs, x, q1, g1⟩
    subst hP hw hK
    obtain ⟨its, r1, p1⟩ := sq_read I q1
    obtain ⟨u1, hu1, ru1⟩ := r1.get g1
    have lt1 : i < its.toArray.size := by rw [List.size_toArray]; exact (List.getElem?_eq_some_iff.mp hu1).1
    have hh : X.A.handled = none := I.ok.hd hc
    have D1 := pn_draws (prog := X.prog) (w := X.w) (A := X.A.in1) (l := l) hh it ni its.toArray
    refine wpAny_pyNext_enum_itemD D1 e1 ⟨e2, p1⟩ lt1 ne nf fun w1 h' tk a1 en st1 tn _ kp => ?_
    have w1e : w1 = u1 := Option.some.inj (a1.symm.trans (show its.toArray[i]? = some u1 by simpa using hu1))
    subst w1e
    refine ⟨_, rfl, wpAny_letOwnedTupleGo_enum (s := { s with heap := h', toks := tk + 1 }) en fun h2 en2 sb => ?_⟩
    have zl : e < s.heap.objs.size := Heap.lt_size e1
    have tn2 : h2.get? s.heap.objs.size = some { cls := .type "tuple", data := .seq #[.int i tk, w1] } := (sb.2 _ (Nat.ne_of_gt zl)).trans tn
    have ok : ObjOk X.prog X.w (upd H s.heap.objs.size (.tup [.int (i : Nat), x])) h2 s.heap.objs.size (.tup [.int (i : Nat), x]) := ⟨show 2 ≤ 2 ^ 24 by omega, [.int i tk, w1], .cons ⟨_, rfl⟩ (.cons ru1 .nil), ⟨_, tn2, rfl, _, rfl⟩⟩
    have I2 : Inv X pins σ (upd H s.heap.objs.size (.tup [.int (i : Nat), x])) { s with heap := h2, toks := tk + 1 } :=
      I.turnedNew (t' := tk + 1) (ch := [e, it]) (fun c o hn q => by
        have n1 : c ≠ e := fun z => hn (by simp [z])
        exact (sb.2 c n1).trans (kp c o n1 (fun z => hn (by simp [z])) q)) hf (Nat.le_refl _) ok
    refine ⟨.ref s.heap.objs.size, _, I2, rfl, ⟨_, x, rfl, I.hok.fresh (Nat.le_refl _), rfl, fun ws q => by rw [sq_inj I q q1]; exact g1⟩, ⟨⟨w1, ?_⟩, ?_⟩, fun c hcm => ?_⟩
    · rw [show ((i + 1 : Nat) : Int) = (i : Int) + 1 by omega]; exact en2
    · exact cur_at st1.1 fun o q => (sb.2 _ (Ne.symm ne)).trans q
    · have hlt : c < s.heap.objs.size := by
        rcases sp hcm with rfl | rfl
        · exact zl
        · obtain ⟨o, q, _⟩ := cur_obj e2; exact Heap.lt_size q
      rw [upd_ne (Nat.ne_of_lt hlt)]
      exact (hf c hcm).1
  · intro X hP hw hK hc i pins s σ H E I hf ⟨⟨old, e1⟩, e2⟩ ⟨vs, q1, he⟩
    subst hP hw hK
    obtain ⟨its, r1, p1⟩ := sq_read I q1
    have s1 : its.toArray.size = vs.length := by rw [List.size_toArray]; exact r1.length.symm
    have hh : X.A.handled = none := I.ok.hd hc
    have D1 := pn_draws (prog := X.prog) (w := X.w) (A := X.A.in1) (l := l) hh it ni its.toArray
    have st : Cur l s.heap it a its.toArray.size ∧ Pn l s.heap a its.toArray := ⟨by rw [s1, ← he]; exact e2, p1⟩
    exact wpAny_pyNext_enum_endD D1 e1 st fun h' kp => ⟨rfl, I.turnedL (t' := s.toks) (ch := [e, it]) (fun c o hn q => kp c o (fun z => hn (by simp [z])) q) hf⟩
def tJe (K : PySem.W.Frag) (ta : TA) : TI := fun σ H R => ta σ H fun vs H1 => ∃ l a xs, vs = [.ref a] ∧ Sq K l H1 a xs ∧ R (Je K l a) H1
theorem pi_je {X : Cx} {e : Expr} {ta : TA} {p pos tpos : Pos} {elts : List Expr} {kk : Nat} (hg : Gl X "enumerate") (hm : X.mg "enumerate" = none) (ha : PA X [e] ta) (hs : starEach [e] X.env = [(false, eval e X.env)] := by rfl) :
    PI X (.Tuple elts kk tpos) (.Call (.Name "enumerate" p) [e] [] pos) (tJe X.K ta) := by
  refine ⟨fun pins s σ H R I h => Call_ (ld_blt I hg hm boot_enumerate (PyProof.Rows.callWith_type1 (thn (ha.run pos pins s σ H _ I h) ?_) hs rfl))⟩
  rintro us s1 ⟨vs, H1, I1, r1, l, a, xs, rfl, q1, hR⟩
  match us, r1 with
  | _, .cons (b := ua) ra .nil =>
    obtain rfl : ua = .ref a := ra
    obtain ⟨its, _, p1⟩ := sq_read I1 q1
    have lt := pn_lt p1
    refine en_call (Hh := fun h => Pn l h a its.toArray) (it := fun h => h.objs.size) (nx := fun h => h.push (itO l a)) (pn_begins (l := l) (a := a) its.toArray).iter p1 fun e1 => wpAny_pyIter_enum e1 ?_
    have zs : (s1.heap.push (itO l a)).objs.size = s1.heap.objs.size + 1 := Heap.size_push ..
    have fr : (itO l a).isFreed = false := (pn_begins (l := l) (a := a) its.toArray).free
    have kp : ∀ c o, s1.heap.get? c = some o → ((s1.heap.push (itO l a)).push (enO s1.heap.objs.size)).get? c = some o := fun c o q => Heap.get?_push_of_some _ (Heap.get?_push_of_some _ q)
    have I2 : Inv X pins σ H1 { s1 with heap := (s1.heap.push (itO l a)).push (enO s1.heap.objs.size) } := I1.kept (t' := s1.toks) kp
    have n1 : (s1.heap.push (itO l a)).objs.size ≠ s1.heap.objs.size := by rw [zs]; exact Nat.succ_ne_self _
    have n2 : a ≠ (s1.heap.push (itO l a)).objs.size := by rw [zs]; exact Nat.ne_of_lt (Nat.lt_succ_of_lt lt)
    refine ⟨_, _, _, _, H1, rfl, I2, turn_je (l := l) n1 (Nat.ne_of_lt lt) n2, ⟨⟨.none, e1⟩, cur_new (Heap.get?_push_of_some _ (Heap.get?_push_size _ fr))⟩, fun c hc => ?_, hR⟩
    have hle : s1.heap.objs.size ≤ c := by
      have : c = (s1.heap.push (itO l a)).objs.size ∨ c = s1.heap.objs.size := by simpa using hc
      rcases this with z | z
      · rw [z, zs]; exact Nat.le_succ _
      · rw [z]; exact Nat.le_refl _
    exact I1.fpOk hle (I1.hok.fresh hle)
theorem itr_je {K : PySem.W.Frag} {μ : List Addr} {H : Hp} {a : Addr} {l : Bool} {ds : List Dv} {ck : Ck} (h : ∀ μ' S' H', Step μ H μ' H' → SimS K μ' S' H' → ck.ok S' → ∃ ws, Sq K l H' a ws ∧ Reps K μ' H' ws ds) : ItR K μ H (Je K l a) (enumL ds, ck) := by
  intro μ' S' H' i st hS hck
  obtain ⟨ws, q, r⟩ := h μ' S' H' st hS hck
  refine ⟨fun e => ⟨ws, q, by rw [r.1, e]; exact enumL_len ds 0⟩, fun d hd => ?_⟩
  have hd' : (enumL ds)[i]? = some d := hd
  rw [enumL_get, Option.map_eq_some_iff] at hd'
  obtain ⟨d', hd', rfl⟩ := hd'
  obtain ⟨v, hv, rv⟩ := r.get hd'
  refine ⟨⟨ws, v, q, hv⟩, ?_⟩
  rintro _ _ ⟨T, z, rfl, hT, rfl, y⟩
  have e1 := y ws q
  rw [hv] at e1; cases e1
  have rr : Reps K μ' H' [.int (i : Nat), v] [.int ((0 + i : Nat) : Int), d'] := by
    rw [Nat.zero_add]; exact (Reps.one rv).cons (.int _)
  exact ⟨step_lay hS hT _, hS.lay hT _, .tup ⟨upd_same, hS.fresh hT⟩ rr.1 (rr.step (step_lay hS hT _)).2⟩
def iEnumA (a : RA) : RI := fun ρ S => (a ρ S).bind fun ds S1 => match ds with
  | [d] => match seqOf S1 d with
    | some xs => .ok (enumL xs, ckOf d xs) S1
    | none => .no
  | _ => .no
theorem si_enumA {X : Cx} {W : WX} {e : Expr} {ra : RA} {p pos tpos : Pos} {elts : List Expr} {kk : Nat} (hg : Gl X "enumerate") (hm : X.mg "enumerate" = none) (ha : SA X W [e] ra) (hs : starEach [e] X.env = [(false, eval e X.env)] := by rfl) : SI X W (.Tuple elts kk tpos) (.Call (.Name "enumerate" p) [e] [] pos) (iEnumA ra) :=
  PI.imp (pi_je hg hm ha hs) fun σ H R ⟨μ, ρ, S, hS, hE, h⟩ => by
    refine ⟨μ, ρ, S, hS, hE, ?_⟩
    unfold iEnumA at h
    cases q : ra ρ S with
    | no => rw [q] at h; exact h.elim
    | ex x S1 => rw [q] at h; exact h
    | ok ds S1 =>
      rw [q] at h
      simp only [Out.bind_ok] at h
      intro μ1 H1 vs a b r
      match ds, r, h with
      | [d], r, h =>
        obtain ⟨v, rfl, rv⟩ := r.get1
        dsimp only at h
        cases q1 : seqOf S1 d with
        | none => rw [q1] at h; exact h.elim
        | some xs =>
          rw [q1] at h
          obtain ⟨l1, a1, ws1, rfl, s1, k1⟩ := src_keep a rv q1
          exact ⟨l1, a1, ws1, rfl, s1, h μ1 H1 _ a b (itr_je k1)⟩
      | [], r, h => exact h.elim
      | _ :: _ :: _, r, h => exact h.elim
end PL
namespace PL
open PySem PySem.Spec PyProof.Rows L2
/-- x or y, of numbers and None -/
def truD : Dv → Option Bool
  | .non => some false
  | .bl b => some b
  | .int i => some (i != 0)
  | _ => none
def eOrV (a b : RE) : RE := fun ρ S => (a ρ S).bind fun d S1 => match truD d with
  | some true => .ok d S1
  | some false => b ρ S1
  | none => .no
theorem ev_orV {a b : RE} {ρ : Env} {S : Sto} : eOrV a b ρ S = (a ρ S).bind fun d S1 => match truD d with
  | some true => .ok d S1
  | some false => b ρ S1
  | none => .no := .trans rfl rfl
theorem se_orV {X : Cx} {W : WX} {e b : Expr} {es : List Expr} {ra rb : RE} {pos : Pos} (h : SE X W e ra) (t : SE X W (.BoolOp .Or (b :: es) pos) rb) : SE X W (.BoolOp .Or (e :: b :: es) pos) (eOrV ra rb) :=
  PE.imp (pe_orT h t) fun σ H Q ⟨μ, ρ, S, hS, hE, h⟩ => (bnd hS hE h).mono fun v H1 ⟨μ1, S1, d, hS1, hE1, s1, rv, h1⟩ => by
    cases rv with
    | non => exact ⟨false, rfl, ⟨μ1, ρ, S1, hS1, hE1, h1⟩⟩
    | bl k =>
      cases k with
      | true => exact ⟨true, rfl, Met.ok (RP := Rep X.K) h1 hS1 (.bl _)⟩
      | false => exact ⟨false, rfl, ⟨μ1, ρ, S1, hS1, hE1, h1⟩⟩
    | int i =>
      dsimp only [truD] at h1
      refine ⟨i != 0, rfl, ?_⟩
      cases q : (i != 0) with
      | true => rw [q] at h1; exact Met.ok (RP := Rep X.K) h1 hS1 (.int _)
      | false => rw [q] at h1; exact ⟨μ1, ρ, S1, hS1, hE1, h1⟩
    | _ => exact h1.elim
end PL
namespace PL
open PySem PySem.Spec PyProof.Rows L2
/-! ### list(range(a, b)) -/
noncomputable def lrD (x y : Dv) (S : Sto) : Out Dv := match x, y with
  | .int i, .int j => @ite _ (RgOk i j) (Classical.propDecidable _) (newL (rangeL i j) S) .no
  | _, _ => .no
theorem rg_rep {K : PySem.W.Frag} {μ : List Addr} {H : Hp} (i j : Int) : Reps K μ H (rgV i j) (rangeL i j) := by
  unfold rgV rangeL
  refine ⟨by simp, fun n v d h1 h2 => ?_⟩
  rw [List.getElem?_map] at h1 h2
  cases q : (List.range (j - i).toNat)[n]? with
  | none => rw [q] at h1; cases h1
  | some m => rw [q] at h1 h2; cases h1; cases h2; exact .int _
theorem se_lrange2 {X : Cx} {W : WX} {a b : Expr} {ra rb : RE} {p pos p2 pos2 : Pos} (hc : X.calm = true) (hg : Gl X "list") (hm : X.mg "list" = none) (hg2 : Gl X "range") (hm2 : X.mg "range" = none) (ha : SE X W a ra) (hb : SE X W b rb)
    (h1 : starEach [a, b] X.env = (false, eval a X.env) :: starEach [b] X.env := by rfl) (h2 : starEach [b] X.env = (false, eval b X.env) :: starEach [] X.env := by rfl) (h3 : ((backTo pos2 (starEach [b] X.env)).any fun x => x.fst) = false := by rfl)
    (h4 : starEach [.Call (.Name "range" p2) [a, b] [] pos2] X.env = (false, eval (.Call (.Name "range" p2) [a, b] [] pos2) X.env) :: starEach [] X.env := by rfl) :
    SE X W (.Call (.Name "list" p) [.Call (.Name "range" p2) [a, b] [] pos2] [] pos) (eBin lrD ra rb) :=
  PE.imp (pe_listRg hc hg hm (prg_2 hg2 hm2 ha hb h1 h2 h3) h4) fun σ H Q ⟨μ, ρ, S, hS, hE, h⟩ => (bnd hS hE h).mono fun v H1 ⟨μ1, S1, d, hS1, hE1, s1, rv, g1⟩ => (bnd hS1 hE1 g1).mono fun u H2 ⟨μ2, S2, e, hS2, hE2, s2, ru, g2⟩ => by
    have rv' := rv.step s2
    cases rv' with
    | int i =>
      cases ru with
      | int j =>
        unfold lrD at g2
        dsimp only at g2
        split at g2
        · rename_i ok
          exact ⟨i, j, rfl, rfl, ok, fun q n => g2.lst hS2 n (rg_rep i j)⟩
        · exact g2.elim
      | _ => exact g2.elim
    | _ => exact g2.elim
theorem lr_int {S : Sto} {i j : Int} (h0 : 0 ≤ i) (h1 : i < 1000000) (h2 : 0 ≤ j) (h3 : j < 1000000) : lrD (.int i) (.int j) S = newL (rangeL i j) S := by
  unfold lrD
  dsimp only
  rw [if_pos (show RgOk i j from ⟨by omega, by omega, by omega, by omega, by omega⟩)]
end PL

/-! the walk of the linked text (printed by gen.py) -/
namespace Wk
open PySem PySem.Spec PyProof.Rows L2 PL
def topS (i : Nat) : Stmt := PySem.Challenge.pw_pathshape_k21_rows_let_by.main.body.getD i (.Pass ⟨0, 0, 0, 0⟩)
abbrev s_room_left : Stmt := topS 1
abbrev N_room_left : List Str := ["item", "count"]
abbrev p_room_left : List Str := ["item", "count"]
theorem sc_room_left : FnScope N_room_left p_room_left (defScope s_room_left) := ⟨rfl, rfl, rfl, by decide +kernel, rfl, by decide +kernel, by decide +kernel⟩
abbrev s_one_more : Stmt := topS 2
abbrev N_one_more : List Str := ["rule", "counts", "at", "others", "count", "place"]
abbrev p_one_more : List Str := ["rule", "counts", "at", "others"]
theorem sc_one_more : FnScope N_one_more p_one_more (defScope s_one_more) := ⟨rfl, rfl, rfl, by decide +kernel, rfl, by decide +kernel, by decide +kernel⟩
abbrev s_none_yet : Stmt := topS 3
abbrev N_none_yet : List Str := ["rule", "item"]
abbrev p_none_yet : List Str := ["rule"]
theorem sc_none_yet : FnScope N_none_yet p_none_yet (defScope s_none_yet) := ⟨rfl, rfl, rfl, by decide +kernel, rfl, by decide +kernel, by decide +kernel⟩
abbrev s_enough : Stmt := topS 4
abbrev N_enough : List Str := ["rule", "counts", "item", "count"]
abbrev p_enough : List Str := ["rule", "counts"]
theorem sc_enough : FnScope N_enough p_enough (defScope s_enough) := ⟨rfl, rfl, rfl, by decide +kernel, rfl, by decide +kernel, by decide +kernel⟩
abbrev s_item_at : Stmt := topS 5
abbrev N_item_at : List Str := ["rule", "name", "at", "item"]
abbrev p_item_at : List Str := ["rule", "name"]
theorem sc_item_at : FnScope N_item_at p_item_at (defScope s_item_at) := ⟨rfl, rfl, rfl, by decide +kernel, rfl, by decide +kernel, by decide +kernel⟩
abbrev s_lets : Stmt := topS 6
abbrev N_lets : List Str := ["rule", "names", "counts", "name", "at"]
abbrev p_lets : List Str := ["rule", "names"]
theorem sc_lets : FnScope N_lets p_lets (defScope s_lets) := ⟨rfl, rfl, rfl, by decide +kernel, rfl, by decide +kernel, by decide +kernel⟩
abbrev s_l_draws : Stmt := topS 8
abbrev N_l_draws : List Str := ["_law_script", "_law_many", "_law_found", "_law_k", "_law_cell"]
abbrev p_l_draws : List Str := ["_law_script", "_law_many"]
theorem sc_l_draws : FnScope N_l_draws p_l_draws (defScope s_l_draws) := ⟨rfl, rfl, rfl, by decide +kernel, rfl, by decide +kernel, by decide +kernel⟩
abbrev s_l_name : Stmt := topS 9
abbrev N_l_name : List Str := ["_law_draw", "_law_letters", "_law_name_here", "_law_k", "_law_taken", "_law_at"]
abbrev p_l_name : List Str := ["_law_draw"]
theorem sc_l_name : FnScope N_l_name p_l_name (defScope s_l_name) := ⟨rfl, rfl, rfl, by decide +kernel, rfl, by decide +kernel, by decide +kernel⟩
abbrev s_l_due : Stmt := topS 10
abbrev N_l_due : List Str := ["_law_rule", "_law_names", "_law_items_here", "_law_left", "_law_known", "_law_name_here", "_law_low", "_law_high", "_law_count", "_law_item", "_law_one"]
abbrev p_l_due : List Str := ["_law_rule", "_law_names"]
theorem sc_l_due : FnScope N_l_due p_l_due (defScope s_l_due) := ⟨rfl, rfl, rfl, by decide +kernel, rfl, by decide +kernel, by decide +kernel⟩
abbrev s_l_items : Stmt := topS 11
abbrev N_l_items : List Str := ["_law_draws_here", "_law_pool", "_law_items_here", "_law_k", "_law_draw", "_law_low", "_law_high"]
abbrev p_l_items : List Str := ["_law_draws_here", "_law_pool"]
theorem sc_l_items : FnScope N_l_items p_l_items (defScope s_l_items) := ⟨rfl, rfl, rfl, by decide +kernel, rfl, by decide +kernel, by decide +kernel⟩
abbrev s_l_row : Stmt := topS 12
abbrev N_l_row : List Str := ["_law_draws_here", "_law_items_here", "_law_names", "_law_k", "_law_item", "_law_count", "_law_draw"]
abbrev p_l_row : List Str := ["_law_draws_here", "_law_items_here"]
theorem sc_l_row : FnScope N_l_row p_l_row (defScope s_l_row) := ⟨rfl, rfl, rfl, by decide +kernel, rfl, by decide +kernel, by decide +kernel⟩
abbrev s_l_mixed : Stmt := topS 13
abbrev N_l_mixed : List Str := ["_law_draws_here", "_law_names", "_law_way", "_law_found", "_law_at", "_law_k", "_law_name_here"]
abbrev p_l_mixed : List Str := ["_law_draws_here", "_law_names"]
theorem sc_l_mixed : FnScope N_l_mixed p_l_mixed (defScope s_l_mixed) := ⟨rfl, rfl, rfl, by decide +kernel, rfl, by decide +kernel, by decide +kernel⟩
abbrev s_l_law : Stmt := topS 14
abbrev N_l_law : List Str := ["_law_script", "_law_draws_here", "_law_core", "_law_pool", "_law_items_here", "_law_rule", "_law_names", "_law_handed", "_law_found", "_law_one"]
abbrev p_l_law : List Str := ["_law_script"]
theorem sc_l_law : FnScope N_l_law p_l_law (defScope s_l_law) := ⟨rfl, rfl, rfl, by decide +kernel, rfl, by decide +kernel, by decide +kernel⟩
inductive Fn where
  | room_left | one_more | none_yet | enough | item_at | lets | l_draws | l_name | l_due | l_items | l_row | l_mixed | l_law
noncomputable def c_room_left (G : Fn → List Dv → Sto → Out Dv) : RC := cSeq (cIf (cBl (eBin isD (eBin idxD (eVar 0) (eCon (.int 2))) (eCon .non))) (cRet (eCall min2D (aCons (eBin addD (eVar 1) (eCon (.int 1))) (aCons (eCall max2D (aCons (eBin idxD (eVar 0) (eCon (.int 1))) (aCons (eCon (.int 1)) (aNil)))) (aNil))))) (cNil)) (cSeq (cIf (cBl (eBin eqD (eVar 1) (eBin idxD (eVar 0) (eCon (.int 2))))) (cRet (eCon .non)) (cNil)) (cRet (eBin addD (eVar 1) (eCon (.int 1)))))
noncomputable def b_one_more_1 (G : Fn → List Dv → Sto → Out Dv) : RC := cIf (cBl (eBin gtD (eBin idxD (eVar 1) (eVar 5)) (eCon (.int 0)))) (cRet (eCon .non)) (cNil)
noncomputable def c_one_more (G : Fn → List Dv → Sto → Out Dv) : RC := cSeq (cIf (cBl (eBin eqD (eBin idxD (eVar 0) (eCon (.int 2))) (eCon (.str "row")))) (cFor (iSeq (eVar 3)) (.nm 5) (b_one_more_1 G)) (cNil)) (cSeq (cSet 4 (eOwn 2 (G .room_left) (aCons (eBin idxD (eBin idxD (eVar 0) (eCon (.int 3))) (eVar 2)) (aCons (eBin idxD (eVar 1) (eVar 2)) (aNil))))) (cSeq (cIf (cBl (eBin isD (eVar 4) (eCon .non))) (cRet (eCon .non)) (cNil)) (cRet (eBin addD (eBin addD (eSli (eVar 1) (oNone) (oSome (eVar 2))) (eTup (aCons (eVar 4) (aNil)))) (eSli (eVar 1) (oSome (eBin addD (eVar 2) (eCon (.int 1)))) (oNone))))))
noncomputable def y_none_yet_1 (G : Fn → List Dv → Sto → Out Dv) : RE := eCon (.int 0)
noncomputable def c_none_yet (G : Fn → List Dv → Sto → Out Dv) : RC := cRet (eCall tupleD (aCons (eComp (iSeq (eBin idxD (eVar 0) (eCon (.int 3)))) (.nm 1) (cYes) (y_none_yet_1 G) [1]) (aNil)))
noncomputable def b_enough_1 (G : Fn → List Dv → Sto → Out Dv) : RC := cIf (cBl (eBin ltD (eVar 3) (eBin idxD (eVar 2) (eCon (.int 1))))) (cRet (eCon (.bl false))) (cNil)
noncomputable def c_enough (G : Fn → List Dv → Sto → Out Dv) : RC := cSeq (cFor (iZip (aCons (eBin idxD (eVar 0) (eCon (.int 3))) (aCons (eVar 1) (aNil)))) (.tp [.nm 2, .nm 3]) (b_enough_1 G)) (cRet (eCon (.bl true)))
noncomputable def b_item_at_1 (G : Fn → List Dv → Sto → Out Dv) : RC := cIf (cBl (eBin eqD (eBin idxD (eVar 3) (eCon (.int 0))) (eVar 1))) (cRet (eVar 2)) (cNil)
noncomputable def c_item_at (G : Fn → List Dv → Sto → Out Dv) : RC := cSeq (cFor (iEnumA (aCons (eBin idxD (eVar 0) (eCon (.int 3))) (aNil))) (.tp [.nm 2, .nm 3]) (b_item_at_1 G)) (cRet (eCon .non))
noncomputable def b_lets_1 (G : Fn → List Dv → Sto → Out Dv) : RC := cSeq (cSet 4 (eOwn 2 (G .item_at) (aCons (eVar 0) (aCons (eVar 3) (aNil))))) (cSeq (cIf (cBl (eBin isD (eVar 4) (eCon .non))) (cRet (eCon (.bl false))) (cNil)) (cSeq (cSet 2 (eOwn 4 (G .one_more) (aCons (eVar 0) (aCons (eVar 2) (aCons (eVar 4) (aCons (eBin lrD (eBin addD (eVar 4) (eCon (.int 1))) (eCall lenD (aCons (eVar 2) (aNil)))) (aNil))))))) (cIf (cBl (eBin isD (eVar 2) (eCon .non))) (cRet (eCon (.bl false))) (cNil))))
noncomputable def c_lets (G : Fn → List Dv → Sto → Out Dv) : RC := cSeq (cSet 2 (eOwn 1 (G .none_yet) (aCons (eVar 0) (aNil)))) (cSeq (cFor (iSeq (eVar 1)) (.nm 3) (b_lets_1 G)) (cRet (eOwn 2 (G .enough) (aCons (eVar 0) (aCons (eVar 2) (aNil))))))
noncomputable def b_l_draws_1 (G : Fn → List Dv → Sto → Out Dv) : RC := cSeq (cSet 4 (eCon (.int 0))) (cSeq (cIf (cBl (eBin gtD (eCall lenD (aCons (eVar 0) (aNil))) (eCon (.int 0)))) (cSet 4 (eBin modD (eBin idxD (eVar 0) (eBin modD (eVar 3) (eCall lenD (aCons (eVar 0) (aNil))))) (eBin powD (eCon (.int 10)) (eCon (.int 18))))) (cNil)) (cExpr (eMeth "list" appendD (eVar 2) (aCons (eBin addD (eVar 4) (eBin mulD (eCon (.int 7919)) (eBin fdivD (eVar 3) (eCall max2D (aCons (eCon (.int 1)) (aCons (eCall lenD (aCons (eVar 0) (aNil))) (aNil))))))) (aNil)))))
noncomputable def c_l_draws (G : Fn → List Dv → Sto → Out Dv) : RC := cSeq (cSet 2 (eLst (aNil))) (cSeq (cFor (iRange rng1 (aCons (eVar 1) (aNil))) (.nm 3) (b_l_draws_1 G)) (cRet (eVar 2)))
noncomputable def b_l_name_1 (G : Fn → List Dv → Sto → Out Dv) : RC := cSeq (cSet 5 (eBin addD (eBin addD (eBin fdivD (eVar 0) (eCon (.int 208))) (eBin mulD (eBin mulD (eCon (.int 7)) (eVar 3)) (eVar 3))) (eBin mulD (eBin modD (eBin fdivD (eVar 0) (eCon (.int 5408))) (eCon (.int 26))) (eVar 3)))) (cSet 2 (eBin addD (eVar 2) (eBin idxD (eVar 1) (eBin modD (eVar 5) (eCon (.int 26))))))
noncomputable def c_l_name (G : Fn → List Dv → Sto → Out Dv) : RC := cSeq (cSet 1 (eCon (.str "abcdefghijklmnopqrstuvwxyz"))) (cSeq (cSet 2 (eBin idxD (eVar 1) (eBin modD (eVar 0) (eCon (.int 26))))) (cSeq (cFor (iRange rng1 (aCons (eBin modD (eBin fdivD (eVar 0) (eCon (.int 26))) (eCon (.int 8))) (aNil))) (.nm 3) (b_l_name_1 G)) (cSeq (cSet 4 (eLst (aCons (eCon (.str "start")) (aCons (eCon (.str "rule")) (aCons (eCon (.str "row")) (aCons (eCon (.str "mix")) (aCons (eCon (.str "many")) (aCons (eCon (.str "any")) (aCons (eCon (.str "kind")) (aCons (eCon (.str "not")) (aCons (eCon (.str "both")) (aCons (eCon (.str "either")) (aCons (eCon (.str "way")) (aCons (eCon (.str "mark")) (aNil))))))))))))))) (cSeq (cIf (cBl (eBin inD (eVar 2) (eVar 4))) (cRet (eBin addD (eVar 2) (eCon (.str "z")))) (cNil)) (cRet (eVar 2))))))
noncomputable def y_l_due_1 (G : Fn → List Dv → Sto → Out Dv) : RE := eBin idxD (eVar 9) (eCon (.int 0))
noncomputable def b_l_due_2 (G : Fn → List Dv → Sto → Out Dv) : RC := cIf (cBl (eBin ninD (eVar 5) (eVar 4))) (cRet (eCon (.bl false))) (cNil)
noncomputable def y_l_due_3 (G : Fn → List Dv → Sto → Out Dv) : RE := eVar 10
noncomputable def q_l_due_3 (G : Fn → List Dv → Sto → Out Dv) : RT := cBl (eBin eqD (eVar 10) (eVar 5))
noncomputable def b_l_due_4 (G : Fn → List Dv → Sto → Out Dv) : RC := cSeq (cSet 8 (eCall lenD (aCons (eComp (iSeq (eVar 1)) (.nm 10) (q_l_due_3 G) (y_l_due_3 G) [10]) (aNil)))) (cIf (cOr (cBl (eBin ltD (eVar 8) (eVar 6))) (cAnd (cBl (eBin isNotD (eVar 7) (eCon .non))) (cBl (eBin gtD (eVar 8) (eVar 7))))) (cRet (eCon (.bl false))) (cNil))
noncomputable def w_l_due_5 (G : Fn → List Dv → Sto → Out Dv) : RT := cAnd (cBl (eBin gtD (eCall lenD (aCons (eVar 3) (aNil))) (eCon (.int 0)))) (cBl (eBin eqD (eBin idxD (eVar 3) (eCon (.int 0))) (eVar 5)))
noncomputable def b_l_due_6 (G : Fn → List Dv → Sto → Out Dv) : RC := cSeq (cExpr (eMeth "list" popD (eVar 3) (aCons (eCon (.int 0)) (aNil)))) (cSet 8 (eBin addD (eVar 8) (eCon (.int 1))))
noncomputable def b_l_due_7 (G : Fn → List Dv → Sto → Out Dv) : RC := cSeq (cSet 8 (eCon (.int 0))) (cSeq (cWhile (w_l_due_5 G) (b_l_due_6 G)) (cIf (cOr (cBl (eBin ltD (eVar 8) (eVar 6))) (cAnd (cBl (eBin isNotD (eVar 7) (eCon .non))) (cBl (eBin gtD (eVar 8) (eVar 7))))) (cRet (eCon (.bl false))) (cNil)))
noncomputable def c_l_due (G : Fn → List Dv → Sto → Out Dv) : RC := cSeq (cSet 2 (eBin idxD (eVar 0) (eCon (.int 3)))) (cSeq (cIf (cBl (eBin eqD (eBin idxD (eVar 0) (eCon (.int 2))) (eCon (.str "mix")))) (cSeq (cSet 4 (eComp (iSeq (eVar 2)) (.nm 9) (cYes) (y_l_due_1 G) [9])) (cSeq (cFor (iSeq (eVar 1)) (.nm 5) (b_l_due_2 G)) (cSeq (cFor (iSeq (eVar 2)) (.tp [.nm 5, .nm 6, .nm 7]) (b_l_due_4 G)) (cRet (eCon (.bl true)))))) (cNil)) (cSeq (cSet 3 (eCall listD (aCons (eVar 1) (aNil)))) (cSeq (cFor (iSeq (eVar 2)) (.tp [.nm 5, .nm 6, .nm 7]) (b_l_due_7 G)) (cRet (eBin eqD (eVar 3) (eLst (aNil)))))))
noncomputable def b_l_items_1 (G : Fn → List Dv → Sto → Out Dv) : RC := cSeq (cSet 4 (eBin idxD (eVar 0) (eBin addD (eCon (.int 1)) (eVar 3)))) (cSeq (cSet 5 (eBin modD (eVar 4) (eCon (.int 3)))) (cSeq (cSet 6 (eBin idxD (eLst (aCons (eCon .non) (aCons (eVar 5) (aCons (eCon (.int 2)) (aCons (eBin addD (eVar 5) (eBin fdivD (eBin subD (eCon (.int 2)) (eVar 5)) (eCon (.int 2)))) (aNil)))))) (eBin modD (eBin fdivD (eVar 4) (eCon (.int 3))) (eCon (.int 4))))) (cExpr (eMeth "list" appendD (eVar 2) (aCons (eTup (aCons (eBin idxD (eVar 1) (eBin modD (eBin addD (eBin idxD (eVar 0) (eCon (.int 4))) (eVar 3)) (eCon (.int 3)))) (aCons (eVar 5) (aCons (eVar 6) (aNil))))) (aNil))))))
noncomputable def c_l_items (G : Fn → List Dv → Sto → Out Dv) : RC := cSeq (cSet 2 (eLst (aNil))) (cSeq (cFor (iRange rng1 (aCons (eBin modD (eBin idxD (eVar 0) (eCon (.int 0))) (eCon (.int 4))) (aNil))) (.nm 3) (b_l_items_1 G)) (cRet (eCall tupleD (aCons (eVar 2) (aNil)))))
noncomputable def b_l_row_1 (G : Fn → List Dv → Sto → Out Dv) : RC := cSeq (cSet 5 (eBin idxD (eVar 4) (eCon (.int 1)))) (cSeq (cSet 6 (eBin idxD (eVar 0) (eBin addD (eCon (.int 5)) (eVar 3)))) (cSeq (cIf (cBl (eBin isD (eBin idxD (eVar 4) (eCon (.int 2))) (eCon .non))) (cSet 5 (eBin addD (eVar 5) (eBin modD (eVar 6) (eBin idxD (eLst (aCons (eCon (.int 3)) (aCons (eCon (.int 20)) (aNil)))) (eBin modD (eBin fdivD (eVar 6) (eCon (.int 3))) (eCon (.int 2))))))) (cSet 5 (eBin addD (eVar 5) (eBin modD (eVar 6) (eBin addD (eBin subD (eBin idxD (eVar 4) (eCon (.int 2))) (eBin idxD (eVar 4) (eCon (.int 1)))) (eCon (.int 1))))))) (cSeq (cIf (cAnd (cBl (eBin gtD (eBin modD (eBin idxD (eVar 0) (eCon (.int 8))) (eCon (.int 3))) (eCon (.int 0)))) (cBl (eBin eqD (eBin modD (eBin idxD (eVar 0) (eCon (.int 9))) (eCall lenD (aCons (eVar 1) (aNil)))) (eVar 3)))) (cSet 5 (eCall max2D (aCons (eCon (.int 0)) (aCons (eBin idxD (eLst (aCons (eBin subD (eBin idxD (eVar 4) (eCon (.int 1))) (eCon (.int 1))) (aCons (eBin addD (eOrV (eBin idxD (eVar 4) (eCon (.int 2))) (eVar 5)) (eCon (.int 1))) (aNil)))) (eBin modD (eBin fdivD (eBin idxD (eVar 0) (eCon (.int 8))) (eCon (.int 3))) (eCon (.int 2)))) (aNil))))) (cNil)) (cSet 2 (eBin addD (eVar 2) (eBin mulD (eLst (aCons (eBin idxD (eVar 4) (eCon (.int 0))) (aNil))) (eVar 5)))))))
noncomputable def c_l_row (G : Fn → List Dv → Sto → Out Dv) : RC := cSeq (cSet 2 (eLst (aNil))) (cSeq (cFor (iEnumA (aCons (eVar 1) (aNil))) (.tp [.nm 3, .nm 4]) (b_l_row_1 G)) (cRet (eVar 2)))
noncomputable def b_l_mixed_1 (G : Fn → List Dv → Sto → Out Dv) : RC := cExpr (eMeth "list" insertD (eVar 3) (aCons (eBin modD (eBin fdivD (eBin idxD (eVar 0) (eBin modD (eBin addD (eCon (.int 11)) (eVar 5)) (eCon (.int 24)))) (eBin addD (eCon (.int 1)) (eVar 5))) (eBin addD (eVar 5) (eCon (.int 1)))) (aCons (eVar 6) (aNil))))
noncomputable def c_l_mixed (G : Fn → List Dv → Sto → Out Dv) : RC := cSeq (cSet 2 (eBin modD (eBin idxD (eVar 0) (eCon (.int 10))) (eCon (.int 3)))) (cSeq (cIf (cOr (cBl (eBin eqD (eVar 2) (eCon (.int 0)))) (cBl (eBin eqD (eCall lenD (aCons (eVar 1) (aNil))) (eCon (.int 0))))) (cRet (eVar 1)) (cNil)) (cSeq (cIf (cBl (eBin eqD (eVar 2) (eCon (.int 1)))) (cSeq (cSet 4 (eBin modD (eBin idxD (eVar 0) (eCon (.int 11))) (eCall lenD (aCons (eVar 1) (aNil))))) (cRet (eBin addD (eSli (eVar 1) (oSome (eVar 4)) (oNone)) (eSli (eVar 1) (oNone) (oSome (eVar 4)))))) (cNil)) (cSeq (cSet 3 (eLst (aNil))) (cSeq (cFor (iEnumA (aCons (eVar 1) (aNil))) (.tp [.nm 5, .nm 6]) (b_l_mixed_1 G)) (cRet (eVar 3))))))
noncomputable def y_l_law_1 (G : Fn → List Dv → Sto → Out Dv) : RE := eBin idxD (eLst (aCons (eBin addD (eBin addD (eVar 2) (eCon (.str "x"))) (eVar 9)) (aCons (eBin addD (eBin addD (eVar 9) (eCon (.str "x"))) (eVar 2)) (aNil)))) (eBin modD (eBin idxD (eVar 1) (eCon (.int 13))) (eCon (.int 2)))
noncomputable def c_l_law (G : Fn → List Dv → Sto → Out Dv) : RC := cSeq (cSet 1 (eOwn 2 (G .l_draws) (aCons (eVar 0) (aCons (eCon (.int 24)) (aNil))))) (cSeq (cSet 2 (eSli (eOwn 1 (G .l_name) (aCons (eBin idxD (eVar 1) (eCon (.int 12))) (aNil))) (oNone) (oSome (eCon (.int 6))))) (cSeq (cSet 3 (eComp (iSeq (eCon (.str "abc"))) (.nm 9) (cYes) (y_l_law_1 G) [9])) (cSeq (cSet 4 (eOwn 2 (G .l_items) (aCons (eVar 1) (aCons (eVar 3) (aNil))))) (cSeq (cSet 5 (eTup (aCons (eOwn 1 (G .l_name) (aCons (eBin idxD (eVar 1) (eCon (.int 14))) (aNil))) (aCons (eOwn 1 (G .l_name) (aCons (eBin idxD (eVar 1) (eCon (.int 15))) (aNil))) (aCons (eBin idxD (eLst (aCons (eCon (.str "row")) (aCons (eCon (.str "mix")) (aNil)))) (eBin modD (eBin idxD (eVar 1) (eCon (.int 16))) (eCon (.int 2)))) (aCons (eVar 4) (aNil))))))) (cSeq (cSet 6 (eOwn 2 (G .l_mixed) (aCons (eVar 1) (aCons (eOwn 2 (G .l_row) (aCons (eVar 1) (aCons (eVar 4) (aNil)))) (aNil))))) (cSeq (cIf (cBl (eBin eqD (eBin modD (eBin idxD (eVar 1) (eCon (.int 17))) (eCon (.int 8))) (eCon (.int 7)))) (cExpr (eMeth "list" insertD (eVar 6) (aCons (eBin modD (eBin idxD (eVar 1) (eCon (.int 18))) (eBin addD (eCall lenD (aCons (eVar 6) (aNil))) (eCon (.int 1)))) (aCons (eBin addD (eVar 2) (eCon (.str "xd"))) (aNil))))) (cNil)) (cSeq (cSet 7 (eCall listD (aCons (eVar 6) (aNil)))) (cSeq (cSet 8 (eOwn 2 (G .lets) (aCons (eVar 5) (aCons (eVar 7) (aNil))))) (cRet (eAnd (eUn (isiD "bool") (eVar 8)) (eAnd (eBin eqD (eVar 8) (eOwn 2 (G .l_due) (aCons (eVar 5) (aCons (eVar 6) (aNil))))) (eBin eqD (eVar 7) (eVar 6)))))))))))))
noncomputable def Fs (G : Fn → List Dv → Sto → Out Dv) : Fn → List Dv → Sto → Out Dv
  | .room_left => runF (c_room_left G) 2 2
  | .one_more => runF (c_one_more G) 6 4
  | .none_yet => runF (c_none_yet G) 2 1
  | .enough => runF (c_enough G) 4 2
  | .item_at => runF (c_item_at G) 4 2
  | .lets => runF (c_lets G) 5 2
  | .l_draws => runF (c_l_draws G) 5 2
  | .l_name => runF (c_l_name G) 6 1
  | .l_due => runF (c_l_due G) 11 2
  | .l_items => runF (c_l_items G) 7 2
  | .l_row => runF (c_l_row G) 7 2
  | .l_mixed => runF (c_l_mixed G) 7 2
  | .l_law => runF (c_l_law G) 10 1
noncomputable def F : Nat → Fn → List Dv → Sto → Out Dv
  | 0, _ => fun _ _ => .no
  | k + 1, f => Fs (F k) f
theorem F_room_left (k : Nat) : F (k + 1) .room_left = runF (c_room_left (F k)) 2 2 := rfl
theorem F_one_more (k : Nat) : F (k + 1) .one_more = runF (c_one_more (F k)) 6 4 := rfl
theorem F_none_yet (k : Nat) : F (k + 1) .none_yet = runF (c_none_yet (F k)) 2 1 := rfl
theorem F_enough (k : Nat) : F (k + 1) .enough = runF (c_enough (F k)) 4 2 := rfl
theorem F_item_at (k : Nat) : F (k + 1) .item_at = runF (c_item_at (F k)) 4 2 := rfl
theorem F_lets (k : Nat) : F (k + 1) .lets = runF (c_lets (F k)) 5 2 := rfl
theorem F_l_draws (k : Nat) : F (k + 1) .l_draws = runF (c_l_draws (F k)) 5 2 := rfl
theorem F_l_name (k : Nat) : F (k + 1) .l_name = runF (c_l_name (F k)) 6 1 := rfl
theorem F_l_due (k : Nat) : F (k + 1) .l_due = runF (c_l_due (F k)) 11 2 := rfl
theorem F_l_items (k : Nat) : F (k + 1) .l_items = runF (c_l_items (F k)) 7 2 := rfl
theorem F_l_row (k : Nat) : F (k + 1) .l_row = runF (c_l_row (F k)) 7 2 := rfl
theorem F_l_mixed (k : Nat) : F (k + 1) .l_mixed = runF (c_l_mixed (F k)) 7 2 := rfl
theorem F_l_law (k : Nat) : F (k + 1) .l_law = runF (c_l_law (F k)) 10 1 := rfl
def ar : Fn → Nat
  | .room_left => 2
  | .one_more => 4
  | .none_yet => 1
  | .enough => 2
  | .item_at => 2
  | .lets => 2
  | .l_draws => 2
  | .l_name => 1
  | .l_due => 2
  | .l_items => 2
  | .l_row => 2
  | .l_mixed => 2
  | .l_law => 1
def nps : Fn → List Str
  | .room_left => p_room_left
  | .one_more => p_one_more
  | .none_yet => p_none_yet
  | .enough => p_enough
  | .item_at => p_item_at
  | .lets => p_lets
  | .l_draws => p_l_draws
  | .l_name => p_l_name
  | .l_due => p_l_due
  | .l_items => p_l_items
  | .l_row => p_l_row
  | .l_mixed => p_l_mixed
  | .l_law => p_l_law
structure Tx (K : PySem.W.Frag) (mg : Str → Option Value) (fa : Fn → Addr) (fd : Fn → FuncData) : Prop where
  f_room_left : Fun K "room_left" "room_left" s_room_left (fa .room_left) (fd .room_left)
  g_room_left : mg "room_left" = some (.ref (fa .room_left))
  b_room_left : Binds K (fd .room_left) p_room_left []
  f_one_more : Fun K "one_more" "one_more" s_one_more (fa .one_more) (fd .one_more)
  g_one_more : mg "one_more" = some (.ref (fa .one_more))
  b_one_more : Binds K (fd .one_more) p_one_more []
  f_none_yet : Fun K "none_yet" "none_yet" s_none_yet (fa .none_yet) (fd .none_yet)
  g_none_yet : mg "none_yet" = some (.ref (fa .none_yet))
  b_none_yet : Binds K (fd .none_yet) p_none_yet []
  f_enough : Fun K "enough" "enough" s_enough (fa .enough) (fd .enough)
  g_enough : mg "enough" = some (.ref (fa .enough))
  b_enough : Binds K (fd .enough) p_enough []
  f_item_at : Fun K "item_at" "item_at" s_item_at (fa .item_at) (fd .item_at)
  g_item_at : mg "item_at" = some (.ref (fa .item_at))
  b_item_at : Binds K (fd .item_at) p_item_at []
  f_lets : Fun K "lets" "lets" s_lets (fa .lets) (fd .lets)
  g_lets : mg "lets" = some (.ref (fa .lets))
  b_lets : Binds K (fd .lets) p_lets []
  f_l_draws : Fun K "_law_draws" "_law_draws" s_l_draws (fa .l_draws) (fd .l_draws)
  g_l_draws : mg "_law_draws" = some (.ref (fa .l_draws))
  b_l_draws : Binds K (fd .l_draws) p_l_draws []
  f_l_name : Fun K "_law_name" "_law_name" s_l_name (fa .l_name) (fd .l_name)
  g_l_name : mg "_law_name" = some (.ref (fa .l_name))
  b_l_name : Binds K (fd .l_name) p_l_name []
  f_l_due : Fun K "_law_due" "_law_due" s_l_due (fa .l_due) (fd .l_due)
  g_l_due : mg "_law_due" = some (.ref (fa .l_due))
  b_l_due : Binds K (fd .l_due) p_l_due []
  f_l_items : Fun K "_law_items" "_law_items" s_l_items (fa .l_items) (fd .l_items)
  g_l_items : mg "_law_items" = some (.ref (fa .l_items))
  b_l_items : Binds K (fd .l_items) p_l_items []
  f_l_row : Fun K "_law_row" "_law_row" s_l_row (fa .l_row) (fd .l_row)
  g_l_row : mg "_law_row" = some (.ref (fa .l_row))
  b_l_row : Binds K (fd .l_row) p_l_row []
  f_l_mixed : Fun K "_law_mixed" "_law_mixed" s_l_mixed (fa .l_mixed) (fd .l_mixed)
  g_l_mixed : mg "_law_mixed" = some (.ref (fa .l_mixed))
  b_l_mixed : Binds K (fd .l_mixed) p_l_mixed []
  f_l_law : Fun K "law" "law" s_l_law (fa .l_law) (fd .l_law)
  g_l_law : mg "law" = some (.ref (fa .l_law))
  b_l_law : Binds K (fd .l_law) p_l_law []
  z_bool : mg "bool" = none
  z_enumerate : mg "enumerate" = none
  z_isinstance : mg "isinstance" = none
  z_len : mg "len" = none
  z_list : mg "list" = none
  z_max : mg "max" = none
  z_min : mg "min" = none
  z_range : mg "range" = none
  z_tuple : mg "tuple" = none
  z_zip : mg "zip" = none
section
variable {P : Program} {w : World} {K : PySem.W.Frag} {mg : Str → Option Value} {base : Heap} {fa : Fn → Addr} {fd : Fn → FuncData}
theorem ok_room_left (T : Tx K mg fa fd) {k : Nat} (G : ∀ f, FnOk P w K mg base CX0 k (fa f) (fd f) (nps f) (spD K mg (F k f) (ar f))) : FnOk P w K mg base CX0 (k + 1) (fa .room_left) (fd .room_left) p_room_left (spD K mg (F (k + 1) .room_left) 2) := by
  refine fn_def (c := c_room_left (F k)) (m := 2) T.f_room_left sc_room_left (F_room_left k) rfl rfl fun cdv A outer s H E hr => ?_
  have hu1 := hu_of hr
  have hu64 := hr.units
  have hu65 := PL.hu65 hr
  exact scs_cons (sc_if (st_cmp op_isN o_is (se_ix hu1 (se_var 0) (se_int)) (se_non) (nomark _)) (scs_one (sc_ret (se_callB (call_min2 rfl) o_min2 (by rfl) T.z_min bt_min (sa_cons (se_bin op_addAll o_add (se_var 1) (se_int)) (sa_cons (se_callB (call_max2 rfl) o_max2 (by rfl) T.z_max bt_max (sa_cons (se_ix hu1 (se_var 0) (se_int)) (sa_cons (se_int) (sa_nil)))) (sa_nil)))))) (scs_nil)) (scs_cons (sc_if (st_cmp (op_eqD hu64) o_eq (se_var 1) (se_ix hu1 (se_var 0) (se_int)) (nomark _)) (scs_one (sc_ret (se_non))) (scs_nil)) (scs_one (sc_ret (se_bin op_addAll o_add (se_var 1) (se_int)))))
theorem ok_one_more (T : Tx K mg fa fd) {k : Nat} (G : ∀ f, FnOk P w K mg base CX0 k (fa f) (fd f) (nps f) (spD K mg (F k f) (ar f))) : FnOk P w K mg base CX0 (k + 1) (fa .one_more) (fd .one_more) p_one_more (spD K mg (F (k + 1) .one_more) 4) := by
  refine fn_def (c := c_one_more (F k)) (m := 6) T.f_one_more sc_one_more (F_one_more k) rfl rfl fun cdv A outer s H E hr => ?_
  have hu1 := hu_of hr
  have hu64 := hr.units
  have hu65 := PL.hu65 hr
  exact scs_cons (sc_if (st_cmp (op_eqD hu64) o_eq (se_ix hu1 (se_var 0) (se_int)) (se_str) (nomark _)) (scs_one (sc_for PassesOwn.never rfl (si_seq (se_var 3)) (sg_name sc_one_more.nd rfl (by first | exact Or.inl rfl | exact Or.inr rfl)) (scs_one (sc_if (st_cmp op_gt o_gt (se_ix hu1 (se_var 1) (se_var 5)) (se_int) (nomark _)) (scs_one (sc_ret (se_non))) (scs_nil))))) (scs_nil)) (scs_cons (sc_set (i := 4) sc_one_more.nd rfl (by first | exact Or.inl rfl | exact Or.inr rfl) (se_own (G .room_left) hr (by rfl) T.g_room_left T.f_room_left.kp T.b_room_left pas0 (sa_cons (se_ix hu1 (se_ix hu1 (se_var 0) (se_int)) (se_var 2)) (sa_cons (se_ix hu1 (se_var 1) (se_var 2)) (sa_nil))))) (scs_cons (sc_if (st_cmp op_isN o_is (se_var 4) (se_non) (nomark _)) (scs_one (sc_ret (se_non))) (scs_nil)) (scs_one (sc_ret (se_bin op_addAll o_add (se_bin op_addAll o_add (se_sli (se_var 1) (so_none) (so_some (se_var 2))) (se_tup (sa_cons (se_var 4) (sa_nil)))) (se_sli (se_var 1) (so_some (se_bin op_addAll o_add (se_var 2) (se_int))) (so_none)))))))
theorem ok_none_yet (T : Tx K mg fa fd) {k : Nat} (G : ∀ f, FnOk P w K mg base CX0 k (fa f) (fd f) (nps f) (spD K mg (F k f) (ar f))) : FnOk P w K mg base CX0 (k + 1) (fa .none_yet) (fd .none_yet) p_none_yet (spD K mg (F (k + 1) .none_yet) 1) := by
  refine fn_def (c := c_none_yet (F k)) (m := 2) T.f_none_yet sc_none_yet (F_none_yet k) rfl rfl fun cdv A outer s H E hr => ?_
  have hu1 := hu_of hr
  have hu64 := hr.units
  have hu65 := PL.hu65 hr
  exact scs_one (sc_ret (se_callTy call_tuple_of o_tuple (by rfl) T.z_tuple bt_tuple (sa_cons (se_compB [("item", 1)] rfl sc_none_yet.nd (si_seq (se_ix hu1 (se_var 0) (se_int))) (blkOk_by (own := [("item", 1)]) (N := N_none_yet) (sc := defScope s_none_yet) (by decide +kernel)) (by intro _ _ _ _ _; exact sg_name sc_none_yet.nd rfl (by first | exact Or.inl rfl | exact Or.inr rfl)) (by intro _ _ _ _ _; exact sts_nil) (by intro _ _ _ _ _; exact se_int) rfl (by decide)) (sa_nil))))
theorem ok_enough (T : Tx K mg fa fd) {k : Nat} (G : ∀ f, FnOk P w K mg base CX0 k (fa f) (fd f) (nps f) (spD K mg (F k f) (ar f))) : FnOk P w K mg base CX0 (k + 1) (fa .enough) (fd .enough) p_enough (spD K mg (F (k + 1) .enough) 2) := by
  refine fn_def (c := c_enough (F k)) (m := 4) T.f_enough sc_enough (F_enough k) rfl rfl fun cdv A outer s H E hr => ?_
  have hu1 := hu_of hr
  have hu64 := hr.units
  have hu65 := PL.hu65 hr
  exact scs_cons (sc_for PassesOwn.never rfl (si_zip (by rfl) T.z_zip (sa_cons (se_ix hu1 (se_var 0) (se_int)) (sa_cons (se_var 1) (sa_nil)))) (sg_tup rfl (sgs_cons (sg_name sc_enough.nd rfl (by first | exact Or.inl rfl | exact Or.inr rfl)) (sgs_cons (sg_name sc_enough.nd rfl (by first | exact Or.inl rfl | exact Or.inr rfl)) (sgs_nil))) rfl) (scs_one (sc_if (st_cmp op_ltAll o_lt (se_var 3) (se_ix hu1 (se_var 2) (se_int)) (nomark _)) (scs_one (sc_ret (se_bl))) (scs_nil)))) (scs_one (sc_ret (se_bl)))
theorem ok_item_at (T : Tx K mg fa fd) {k : Nat} (G : ∀ f, FnOk P w K mg base CX0 k (fa f) (fd f) (nps f) (spD K mg (F k f) (ar f))) : FnOk P w K mg base CX0 (k + 1) (fa .item_at) (fd .item_at) p_item_at (spD K mg (F (k + 1) .item_at) 2) := by
  refine fn_def (c := c_item_at (F k)) (m := 4) T.f_item_at sc_item_at (F_item_at k) rfl rfl fun cdv A outer s H E hr => ?_
  have hu1 := hu_of hr
  have hu64 := hr.units
  have hu65 := PL.hu65 hr
  exact scs_cons (sc_for PassesOwn.never rfl (si_enumA (by rfl) T.z_enumerate (sa_cons (se_ix hu1 (se_var 0) (se_int)) (sa_nil))) (sg_tup rfl (sgs_cons (sg_name sc_item_at.nd rfl (by first | exact Or.inl rfl | exact Or.inr rfl)) (sgs_cons (sg_name sc_item_at.nd rfl (by first | exact Or.inl rfl | exact Or.inr rfl)) (sgs_nil))) rfl) (scs_one (sc_if (st_cmp (op_eqD hu64) o_eq (se_ix hu1 (se_var 3) (se_int)) (se_var 1) (nomark _)) (scs_one (sc_ret (se_var 2))) (scs_nil)))) (scs_one (sc_ret (se_non)))
theorem ok_lets (T : Tx K mg fa fd) {k : Nat} (G : ∀ f, FnOk P w K mg base CX0 k (fa f) (fd f) (nps f) (spD K mg (F k f) (ar f))) : FnOk P w K mg base CX0 (k + 1) (fa .lets) (fd .lets) p_lets (spD K mg (F (k + 1) .lets) 2) := by
  refine fn_def (c := c_lets (F k)) (m := 5) T.f_lets sc_lets (F_lets k) rfl rfl fun cdv A outer s H E hr => ?_
  have hu1 := hu_of hr
  have hu64 := hr.units
  have hu65 := PL.hu65 hr
  exact scs_cons (sc_set (i := 2) sc_lets.nd rfl (by first | exact Or.inl rfl | exact Or.inr rfl) (se_own (G .none_yet) hr (by rfl) T.g_none_yet T.f_none_yet.kp T.b_none_yet pas0 (sa_cons (se_var 0) (sa_nil)))) (scs_cons (sc_for PassesOwn.never rfl (si_seq (se_var 1)) (sg_name sc_lets.nd rfl (by first | exact Or.inl rfl | exact Or.inr rfl)) (scs_cons (sc_set (i := 4) sc_lets.nd rfl (by first | exact Or.inl rfl | exact Or.inr rfl) (se_own (G .item_at) hr (by rfl) T.g_item_at T.f_item_at.kp T.b_item_at pas0 (sa_cons (se_var 0) (sa_cons (se_var 3) (sa_nil))))) (scs_cons (sc_if (st_cmp op_isN o_is (se_var 4) (se_non) (nomark _)) (scs_one (sc_ret (se_bl))) (scs_nil)) (scs_cons (sc_set (i := 2) sc_lets.nd rfl (by first | exact Or.inl rfl | exact Or.inr rfl) (se_own (G .one_more) hr (by rfl) T.g_one_more T.f_one_more.kp T.b_one_more pas0 (sa_cons (se_var 0) (sa_cons (se_var 2) (sa_cons (se_var 4) (sa_cons (se_lrange2 rfl (by rfl) T.z_list (by rfl) T.z_range (se_bin op_addAll o_add (se_var 4) (se_int)) (se_callB call_lenAll o_len (by rfl) T.z_len bt_len (sa_cons (se_var 2) (sa_nil)))) (sa_nil))))))) (scs_one (sc_if (st_cmp op_isN o_is (se_var 2) (se_non) (nomark _)) (scs_one (sc_ret (se_bl))) (scs_nil))))))) (scs_one (sc_ret (se_own (G .enough) hr (by rfl) T.g_enough T.f_enough.kp T.b_enough pas0 (sa_cons (se_var 0) (sa_cons (se_var 2) (sa_nil)))))))
theorem ok_l_draws (T : Tx K mg fa fd) {k : Nat} (G : ∀ f, FnOk P w K mg base CX0 k (fa f) (fd f) (nps f) (spD K mg (F k f) (ar f))) : FnOk P w K mg base CX0 (k + 1) (fa .l_draws) (fd .l_draws) p_l_draws (spD K mg (F (k + 1) .l_draws) 2) := by
  refine fn_def (c := c_l_draws (F k)) (m := 5) T.f_l_draws sc_l_draws (F_l_draws k) rfl rfl fun cdv A outer s H E hr => ?_
  have hu1 := hu_of hr
  have hu64 := hr.units
  have hu65 := PL.hu65 hr
  exact scs_cons (sc_set (i := 2) sc_l_draws.nd rfl (by first | exact Or.inl rfl | exact Or.inr rfl) (se_lst (sa_nil))) (scs_cons (sc_for PassesOwn.never rfl (si_range1 (by rfl) T.z_range (sa_cons (se_var 1) (sa_nil))) (sg_name sc_l_draws.nd rfl (by first | exact Or.inl rfl | exact Or.inr rfl)) (scs_cons (sc_set (i := 4) sc_l_draws.nd rfl (by first | exact Or.inl rfl | exact Or.inr rfl) (se_int)) (scs_cons (sc_if (st_cmp op_gt o_gt (se_callB call_lenAll o_len (by rfl) T.z_len bt_len (sa_cons (se_var 0) (sa_nil))) (se_int) (nomark _)) (scs_one (sc_set (i := 4) sc_l_draws.nd rfl (by first | exact Or.inl rfl | exact Or.inr rfl) (se_bin op_mod o_mod (se_ix hu1 (se_var 0) (se_bin op_mod o_mod (se_var 3) (se_callB call_lenAll o_len (by rfl) T.z_len bt_len (sa_cons (se_var 0) (sa_nil))))) (se_bin op_pow o_pow (se_int) (se_int))))) (scs_nil)) (scs_one (sc_expr (se_meth PySem.F.plainAttrs_list PySem.F.slot_list_append PySem.F.type_list_append mt_append o_append (se_var 2) (sa_cons (se_bin op_addAll o_add (se_var 4) (se_bin op_mulAll o_mul (se_int) (se_bin op_fdivW o_fdiv (se_var 3) (se_callB (call_max2 rfl) o_max2 (by rfl) T.z_max bt_max (sa_cons (se_int) (sa_cons (se_callB call_lenAll o_len (by rfl) T.z_len bt_len (sa_cons (se_var 0) (sa_nil))) (sa_nil))))))) (sa_nil)))))))) (scs_one (sc_ret (se_var 2))))
theorem ok_l_name (T : Tx K mg fa fd) {k : Nat} (G : ∀ f, FnOk P w K mg base CX0 k (fa f) (fd f) (nps f) (spD K mg (F k f) (ar f))) : FnOk P w K mg base CX0 (k + 1) (fa .l_name) (fd .l_name) p_l_name (spD K mg (F (k + 1) .l_name) 1) := by
  refine fn_def (c := c_l_name (F k)) (m := 6) T.f_l_name sc_l_name (F_l_name k) rfl rfl fun cdv A outer s H E hr => ?_
  have hu1 := hu_of hr
  have hu64 := hr.units
  have hu65 := PL.hu65 hr
  exact scs_cons (sc_set (i := 1) sc_l_name.nd rfl (by first | exact Or.inl rfl | exact Or.inr rfl) (se_str)) (scs_cons (sc_set (i := 2) sc_l_name.nd rfl (by first | exact Or.inl rfl | exact Or.inr rfl) (se_ix hu1 (se_var 1) (se_bin op_mod o_mod (se_var 0) (se_int)))) (scs_cons (sc_for PassesOwn.never rfl (si_range1 (by rfl) T.z_range (sa_cons (se_bin op_mod o_mod (se_bin op_fdivW o_fdiv (se_var 0) (se_int)) (se_int)) (sa_nil))) (sg_name sc_l_name.nd rfl (by first | exact Or.inl rfl | exact Or.inr rfl)) (scs_cons (sc_set (i := 5) sc_l_name.nd rfl (by first | exact Or.inl rfl | exact Or.inr rfl) (se_bin op_addAll o_add (se_bin op_addAll o_add (se_bin op_fdivW o_fdiv (se_var 0) (se_int)) (se_bin op_mulAll o_mul (se_bin op_mulAll o_mul (se_int) (se_var 3)) (se_var 3))) (se_bin op_mulAll o_mul (se_bin op_mod o_mod (se_bin op_fdivW o_fdiv (se_var 0) (se_int)) (se_int)) (se_var 3)))) (scs_one (sc_set (i := 2) sc_l_name.nd rfl (by first | exact Or.inl rfl | exact Or.inr rfl) (se_bin op_addAll o_add (se_var 2) (se_ix hu1 (se_var 1) (se_bin op_mod o_mod (se_var 5) (se_int)))))))) (scs_cons (sc_set (i := 4) sc_l_name.nd rfl (by first | exact Or.inl rfl | exact Or.inr rfl) (se_lst (sa_cons (se_str) (sa_cons (se_str) (sa_cons (se_str) (sa_cons (se_str) (sa_cons (se_str) (sa_cons (se_str) (sa_cons (se_str) (sa_cons (se_str) (sa_cons (se_str) (sa_cons (se_str) (sa_cons (se_str) (sa_cons (se_str) (sa_nil))))))))))))))) (scs_cons (sc_if (st_cmp (op_inAll hu65) o_in (se_var 2) (se_var 4) (by rfl)) (scs_one (sc_ret (se_bin op_addAll o_add (se_var 2) (se_str)))) (scs_nil)) (scs_one (sc_ret (se_var 2)))))))
theorem ok_l_due (T : Tx K mg fa fd) {k : Nat} (G : ∀ f, FnOk P w K mg base CX0 k (fa f) (fd f) (nps f) (spD K mg (F k f) (ar f))) : FnOk P w K mg base CX0 (k + 1) (fa .l_due) (fd .l_due) p_l_due (spD K mg (F (k + 1) .l_due) 2) := by
  refine fn_def (c := c_l_due (F k)) (m := 11) T.f_l_due sc_l_due (F_l_due k) rfl rfl fun cdv A outer s H E hr => ?_
  have hu1 := hu_of hr
  have hu64 := hr.units
  have hu65 := PL.hu65 hr
  exact scs_cons (sc_set (i := 2) sc_l_due.nd rfl (by first | exact Or.inl rfl | exact Or.inr rfl) (se_ix hu1 (se_var 0) (se_int))) (scs_cons (sc_if (st_cmp (op_eqD hu64) o_eq (se_ix hu1 (se_var 0) (se_int)) (se_str) (nomark _)) (scs_cons (sc_setCompB (i := 4) [("_law_item", 9)] rfl sc_l_due.nd rfl rfl (sw_true rfl rfl rfl (by decide +kernel)) (si_seq (se_var 2)) (blkOk_by (own := [("_law_item", 9)]) (N := N_l_due) (sc := defScope s_l_due) (by decide +kernel)) (by intro _ _ _ _ _; exact sg_name sc_l_due.nd rfl (by first | exact Or.inl rfl | exact Or.inr rfl)) (by intro _ _ _ _ _; exact sts_nil) (by intro _ _ _ _ _; exact se_ix hu1 (se_var 9) (se_int)) rfl (by decide)) (scs_cons (sc_for PassesOwn.never rfl (si_seq (se_var 1)) (sg_name sc_l_due.nd rfl (by first | exact Or.inl rfl | exact Or.inr rfl)) (scs_one (sc_if (st_cmp (op_ninAll hu65) o_nin (se_var 5) (se_var 4) (by rfl)) (scs_one (sc_ret (se_bl))) (scs_nil)))) (scs_cons (sc_for PassesOwn.never rfl (si_seq (se_var 2)) (sg_tup rfl (sgs_cons (sg_name sc_l_due.nd rfl (by first | exact Or.inl rfl | exact Or.inr rfl)) (sgs_cons (sg_name sc_l_due.nd rfl (by first | exact Or.inl rfl | exact Or.inr rfl)) (sgs_cons (sg_name sc_l_due.nd rfl (by first | exact Or.inl rfl | exact Or.inr rfl)) (sgs_nil)))) rfl) (scs_cons (sc_set (i := 8) sc_l_due.nd rfl (by first | exact Or.inl rfl | exact Or.inr rfl) (se_callB call_lenAll o_len (by rfl) T.z_len bt_len (sa_cons (se_compB [("_law_one", 10)] rfl sc_l_due.nd (si_seq (se_var 1)) (blkOk_by (own := [("_law_one", 10)]) (N := N_l_due) (sc := defScope s_l_due) (by decide +kernel)) (by intro _ _ _ _ _; exact sg_name sc_l_due.nd rfl (by first | exact Or.inl rfl | exact Or.inr rfl)) (by intro _ _ _ _ _; exact sts_one (st_cmp (op_eqD hu64) o_eq (se_var 10) (se_var 5) (nomark _))) (by intro _ _ _ _ _; exact se_var 10) rfl (by decide)) (sa_nil)))) (scs_one (sc_if (st_w (sw_or (st_cmp op_ltAll o_lt (se_var 8) (se_var 6) (nomark _)) (sw_one_or (st_w (sw_and (st_cmp op_notN o_isNot (se_var 7) (se_non) (nomark _)) (sw_one_and (st_cmp op_gt o_gt (se_var 8) (se_var 7) (nomark _)))))))) (scs_one (sc_ret (se_bl))) (scs_nil))))) (scs_one (sc_ret (se_bl)))))) (scs_nil)) (scs_cons (sc_set (i := 3) sc_l_due.nd rfl (by first | exact Or.inl rfl | exact Or.inr rfl) (se_callTy (call_listAll rfl) o_list (by rfl) T.z_list bt_list (sa_cons (se_var 1) (sa_nil)))) (scs_cons (sc_for PassesOwn.never rfl (si_seq (se_var 2)) (sg_tup rfl (sgs_cons (sg_name sc_l_due.nd rfl (by first | exact Or.inl rfl | exact Or.inr rfl)) (sgs_cons (sg_name sc_l_due.nd rfl (by first | exact Or.inl rfl | exact Or.inr rfl)) (sgs_cons (sg_name sc_l_due.nd rfl (by first | exact Or.inl rfl | exact Or.inr rfl)) (sgs_nil)))) rfl) (scs_cons (sc_set (i := 8) sc_l_due.nd rfl (by first | exact Or.inl rfl | exact Or.inr rfl) (se_int)) (scs_cons (sc_while PassesOwn.never (st_w (sw_and (st_cmp op_gt o_gt (se_callB call_lenAll o_len (by rfl) T.z_len bt_len (sa_cons (se_var 3) (sa_nil))) (se_int) (nomark _)) (sw_one_and (st_cmp (op_eqD hu64) o_eq (se_ix hu1 (se_var 3) (se_int)) (se_var 5) (nomark _))))) (scs_cons (sc_expr (se_meth PySem.F.plainAttrs_list PySem.F.slot_list_pop PySem.F.type_list_pop mt_popAll o_pop (se_var 3) (sa_cons (se_int) (sa_nil)))) (scs_one (sc_set (i := 8) sc_l_due.nd rfl (by first | exact Or.inl rfl | exact Or.inr rfl) (se_bin op_addAll o_add (se_var 8) (se_int)))))) (scs_one (sc_if (st_w (sw_or (st_cmp op_ltAll o_lt (se_var 8) (se_var 6) (nomark _)) (sw_one_or (st_w (sw_and (st_cmp op_notN o_isNot (se_var 7) (se_non) (nomark _)) (sw_one_and (st_cmp op_gt o_gt (se_var 8) (se_var 7) (nomark _)))))))) (scs_one (sc_ret (se_bl))) (scs_nil)))))) (scs_one (sc_ret (se_cmp (op_eqD hu64) o_eq (se_var 3) (se_lst (sa_nil)) (nomark _)))))))
theorem ok_l_items (T : Tx K mg fa fd) {k : Nat} (G : ∀ f, FnOk P w K mg base CX0 k (fa f) (fd f) (nps f) (spD K mg (F k f) (ar f))) : FnOk P w K mg base CX0 (k + 1) (fa .l_items) (fd .l_items) p_l_items (spD K mg (F (k + 1) .l_items) 2) := by
  refine fn_def (c := c_l_items (F k)) (m := 7) T.f_l_items sc_l_items (F_l_items k) rfl rfl fun cdv A outer s H E hr => ?_
  have hu1 := hu_of hr
  have hu64 := hr.units
  have hu65 := PL.hu65 hr
  exact scs_cons (sc_set (i := 2) sc_l_items.nd rfl (by first | exact Or.inl rfl | exact Or.inr rfl) (se_lst (sa_nil))) (scs_cons (sc_for PassesOwn.never rfl (si_range1 (by rfl) T.z_range (sa_cons (se_bin op_mod o_mod (se_ix hu1 (se_var 0) (se_int)) (se_int)) (sa_nil))) (sg_name sc_l_items.nd rfl (by first | exact Or.inl rfl | exact Or.inr rfl)) (scs_cons (sc_set (i := 4) sc_l_items.nd rfl (by first | exact Or.inl rfl | exact Or.inr rfl) (se_ix hu1 (se_var 0) (se_bin op_addAll o_add (se_int) (se_var 3)))) (scs_cons (sc_set (i := 5) sc_l_items.nd rfl (by first | exact Or.inl rfl | exact Or.inr rfl) (se_bin op_mod o_mod (se_var 4) (se_int))) (scs_cons (sc_set (i := 6) sc_l_items.nd rfl (by first | exact Or.inl rfl | exact Or.inr rfl) (se_ix hu1 (se_lst (sa_cons (se_non) (sa_cons (se_var 5) (sa_cons (se_int) (sa_cons (se_bin op_addAll o_add (se_var 5) (se_bin op_fdivW o_fdiv (se_bin op_sub o_sub (se_int) (se_var 5)) (se_int))) (sa_nil)))))) (se_bin op_mod o_mod (se_bin op_fdivW o_fdiv (se_var 4) (se_int)) (se_int)))) (scs_one (sc_expr (se_meth PySem.F.plainAttrs_list PySem.F.slot_list_append PySem.F.type_list_append mt_append o_append (se_var 2) (sa_cons (se_tup (sa_cons (se_ix hu1 (se_var 1) (se_bin op_mod o_mod (se_bin op_addAll o_add (se_ix hu1 (se_var 0) (se_int)) (se_var 3)) (se_int))) (sa_cons (se_var 5) (sa_cons (se_var 6) (sa_nil))))) (sa_nil))))))))) (scs_one (sc_ret (se_callTy call_tuple_of o_tuple (by rfl) T.z_tuple bt_tuple (sa_cons (se_var 2) (sa_nil))))))
theorem ok_l_row (T : Tx K mg fa fd) {k : Nat} (G : ∀ f, FnOk P w K mg base CX0 k (fa f) (fd f) (nps f) (spD K mg (F k f) (ar f))) : FnOk P w K mg base CX0 (k + 1) (fa .l_row) (fd .l_row) p_l_row (spD K mg (F (k + 1) .l_row) 2) := by
  refine fn_def (c := c_l_row (F k)) (m := 7) T.f_l_row sc_l_row (F_l_row k) rfl rfl fun cdv A outer s H E hr => ?_
  have hu1 := hu_of hr
  have hu64 := hr.units
  have hu65 := PL.hu65 hr
  exact scs_cons (sc_set (i := 2) sc_l_row.nd rfl (by first | exact Or.inl rfl | exact Or.inr rfl) (se_lst (sa_nil))) (scs_cons (sc_for PassesOwn.never rfl (si_enumA (by rfl) T.z_enumerate (sa_cons (se_var 1) (sa_nil))) (sg_tup rfl (sgs_cons (sg_name sc_l_row.nd rfl (by first | exact Or.inl rfl | exact Or.inr rfl)) (sgs_cons (sg_name sc_l_row.nd rfl (by first | exact Or.inl rfl | exact Or.inr rfl)) (sgs_nil))) rfl) (scs_cons (sc_set (i := 5) sc_l_row.nd rfl (by first | exact Or.inl rfl | exact Or.inr rfl) (se_ix hu1 (se_var 4) (se_int))) (scs_cons (sc_set (i := 6) sc_l_row.nd rfl (by first | exact Or.inl rfl | exact Or.inr rfl) (se_ix hu1 (se_var 0) (se_bin op_addAll o_add (se_int) (se_var 3)))) (scs_cons (sc_if (st_cmp op_isN o_is (se_ix hu1 (se_var 4) (se_int)) (se_non) (nomark _)) (scs_one (sc_set (i := 5) sc_l_row.nd rfl (by first | exact Or.inl rfl | exact Or.inr rfl) (se_bin op_addAll o_add (se_var 5) (se_bin op_mod o_mod (se_var 6) (se_ix hu1 (se_lst (sa_cons (se_int) (sa_cons (se_int) (sa_nil)))) (se_bin op_mod o_mod (se_bin op_fdivW o_fdiv (se_var 6) (se_int)) (se_int))))))) (scs_one (sc_set (i := 5) sc_l_row.nd rfl (by first | exact Or.inl rfl | exact Or.inr rfl) (se_bin op_addAll o_add (se_var 5) (se_bin op_mod o_mod (se_var 6) (se_bin op_addAll o_add (se_bin op_sub o_sub (se_ix hu1 (se_var 4) (se_int)) (se_ix hu1 (se_var 4) (se_int))) (se_int))))))) (scs_cons (sc_if (st_w (sw_and (st_cmp op_gt o_gt (se_bin op_mod o_mod (se_ix hu1 (se_var 0) (se_int)) (se_int)) (se_int) (nomark _)) (sw_one_and (st_cmp (op_eqD hu64) o_eq (se_bin op_mod o_mod (se_ix hu1 (se_var 0) (se_int)) (se_callB call_lenAll o_len (by rfl) T.z_len bt_len (sa_cons (se_var 1) (sa_nil)))) (se_var 3) (nomark _))))) (scs_one (sc_set (i := 5) sc_l_row.nd rfl (by first | exact Or.inl rfl | exact Or.inr rfl) (se_callB (call_max2 rfl) o_max2 (by rfl) T.z_max bt_max (sa_cons (se_int) (sa_cons (se_ix hu1 (se_lst (sa_cons (se_bin op_sub o_sub (se_ix hu1 (se_var 4) (se_int)) (se_int)) (sa_cons (se_bin op_addAll o_add (se_orV (se_ix hu1 (se_var 4) (se_int)) (se_one (se_var 5))) (se_int)) (sa_nil)))) (se_bin op_mod o_mod (se_bin op_fdivW o_fdiv (se_ix hu1 (se_var 0) (se_int)) (se_int)) (se_int))) (sa_nil)))))) (scs_nil)) (scs_one (sc_set (i := 2) sc_l_row.nd rfl (by first | exact Or.inl rfl | exact Or.inr rfl) (se_bin op_addAll o_add (se_var 2) (se_bin op_mulAll o_mul (se_lst (sa_cons (se_ix hu1 (se_var 4) (se_int)) (sa_nil))) (se_var 5)))))))))) (scs_one (sc_ret (se_var 2))))
theorem ok_l_mixed (T : Tx K mg fa fd) {k : Nat} (G : ∀ f, FnOk P w K mg base CX0 k (fa f) (fd f) (nps f) (spD K mg (F k f) (ar f))) : FnOk P w K mg base CX0 (k + 1) (fa .l_mixed) (fd .l_mixed) p_l_mixed (spD K mg (F (k + 1) .l_mixed) 2) := by
  refine fn_def (c := c_l_mixed (F k)) (m := 7) T.f_l_mixed sc_l_mixed (F_l_mixed k) rfl rfl fun cdv A outer s H E hr => ?_
  have hu1 := hu_of hr
  have hu64 := hr.units
  have hu65 := PL.hu65 hr
  exact scs_cons (sc_set (i := 2) sc_l_mixed.nd rfl (by first | exact Or.inl rfl | exact Or.inr rfl) (se_bin op_mod o_mod (se_ix hu1 (se_var 0) (se_int)) (se_int))) (scs_cons (sc_if (st_w (sw_or (st_cmp (op_eqD hu64) o_eq (se_var 2) (se_int) (nomark _)) (sw_one_or (st_cmp (op_eqD hu64) o_eq (se_callB call_lenAll o_len (by rfl) T.z_len bt_len (sa_cons (se_var 1) (sa_nil))) (se_int) (nomark _))))) (scs_one (sc_ret (se_var 1))) (scs_nil)) (scs_cons (sc_if (st_cmp (op_eqD hu64) o_eq (se_var 2) (se_int) (nomark _)) (scs_cons (sc_set (i := 4) sc_l_mixed.nd rfl (by first | exact Or.inl rfl | exact Or.inr rfl) (se_bin op_mod o_mod (se_ix hu1 (se_var 0) (se_int)) (se_callB call_lenAll o_len (by rfl) T.z_len bt_len (sa_cons (se_var 1) (sa_nil))))) (scs_one (sc_ret (se_bin op_addAll o_add (se_sli (se_var 1) (so_some (se_var 4)) (so_none)) (se_sli (se_var 1) (so_none) (so_some (se_var 4))))))) (scs_nil)) (scs_cons (sc_set (i := 3) sc_l_mixed.nd rfl (by first | exact Or.inl rfl | exact Or.inr rfl) (se_lst (sa_nil))) (scs_cons (sc_for PassesOwn.never rfl (si_enumA (by rfl) T.z_enumerate (sa_cons (se_var 1) (sa_nil))) (sg_tup rfl (sgs_cons (sg_name sc_l_mixed.nd rfl (by first | exact Or.inl rfl | exact Or.inr rfl)) (sgs_cons (sg_name sc_l_mixed.nd rfl (by first | exact Or.inl rfl | exact Or.inr rfl)) (sgs_nil))) rfl) (scs_one (sc_expr (se_meth PySem.F.plainAttrs_list PySem.F.slot_list_insert PySem.F.type_list_insert mt_insert o_insert (se_var 3) (sa_cons (se_bin op_mod o_mod (se_bin op_fdivW o_fdiv (se_ix hu1 (se_var 0) (se_bin op_mod o_mod (se_bin op_addAll o_add (se_int) (se_var 5)) (se_int))) (se_bin op_addAll o_add (se_int) (se_var 5))) (se_bin op_addAll o_add (se_var 5) (se_int))) (sa_cons (se_var 6) (sa_nil))))))) (scs_one (sc_ret (se_var 3)))))))
theorem ok_l_law (T : Tx K mg fa fd) {k : Nat} (G : ∀ f, FnOk P w K mg base CX0 k (fa f) (fd f) (nps f) (spD K mg (F k f) (ar f))) : FnOk P w K mg base CX0 (k + 1) (fa .l_law) (fd .l_law) p_l_law (spD K mg (F (k + 1) .l_law) 1) := by
  refine fn_def (c := c_l_law (F k)) (m := 10) T.f_l_law sc_l_law (F_l_law k) rfl rfl fun cdv A outer s H E hr => ?_
  have hu1 := hu_of hr
  have hu64 := hr.units
  have hu65 := PL.hu65 hr
  exact scs_cons (sc_set (i := 1) sc_l_law.nd rfl (by first | exact Or.inl rfl | exact Or.inr rfl) (se_own (G .l_draws) hr (by rfl) T.g_l_draws T.f_l_draws.kp T.b_l_draws pas0 (sa_cons (se_var 0) (sa_cons (se_int) (sa_nil))))) (scs_cons (sc_set (i := 2) sc_l_law.nd rfl (by first | exact Or.inl rfl | exact Or.inr rfl) (se_sli (se_own (G .l_name) hr (by rfl) T.g_l_name T.f_l_name.kp T.b_l_name pas0 (sa_cons (se_ix hu1 (se_var 1) (se_int)) (sa_nil))) (so_none) (so_some (se_int)))) (scs_cons (sc_setCompB (i := 3) [("_law_one", 9)] rfl sc_l_law.nd rfl rfl (sw_true rfl rfl rfl (by decide +kernel)) (si_seq (se_str)) (blkOk_by (own := [("_law_one", 9)]) (N := N_l_law) (sc := defScope s_l_law) (by decide +kernel)) (by intro _ _ _ _ _; exact sg_name sc_l_law.nd rfl (by first | exact Or.inl rfl | exact Or.inr rfl)) (by intro _ _ _ _ _; exact sts_nil) (by intro _ _ _ _ _; exact se_ix hu1 (se_lst (sa_cons (se_bin op_addAll o_add (se_bin op_addAll o_add (se_var 2) (se_str)) (se_var 9)) (sa_cons (se_bin op_addAll o_add (se_bin op_addAll o_add (se_var 9) (se_str)) (se_var 2)) (sa_nil)))) (se_bin op_mod o_mod (se_ix hu1 (se_var 1) (se_int)) (se_int))) rfl (by decide)) (scs_cons (sc_set (i := 4) sc_l_law.nd rfl (by first | exact Or.inl rfl | exact Or.inr rfl) (se_own (G .l_items) hr (by rfl) T.g_l_items T.f_l_items.kp T.b_l_items pas0 (sa_cons (se_var 1) (sa_cons (se_var 3) (sa_nil))))) (scs_cons (sc_set (i := 5) sc_l_law.nd rfl (by first | exact Or.inl rfl | exact Or.inr rfl) (se_tup (sa_cons (se_own (G .l_name) hr (by rfl) T.g_l_name T.f_l_name.kp T.b_l_name pas0 (sa_cons (se_ix hu1 (se_var 1) (se_int)) (sa_nil))) (sa_cons (se_own (G .l_name) hr (by rfl) T.g_l_name T.f_l_name.kp T.b_l_name pas0 (sa_cons (se_ix hu1 (se_var 1) (se_int)) (sa_nil))) (sa_cons (se_ix hu1 (se_lst (sa_cons (se_str) (sa_cons (se_str) (sa_nil)))) (se_bin op_mod o_mod (se_ix hu1 (se_var 1) (se_int)) (se_int))) (sa_cons (se_var 4) (sa_nil))))))) (scs_cons (sc_set (i := 6) sc_l_law.nd rfl (by first | exact Or.inl rfl | exact Or.inr rfl) (se_own (G .l_mixed) hr (by rfl) T.g_l_mixed T.f_l_mixed.kp T.b_l_mixed pas0 (sa_cons (se_var 1) (sa_cons (se_own (G .l_row) hr (by rfl) T.g_l_row T.f_l_row.kp T.b_l_row pas0 (sa_cons (se_var 1) (sa_cons (se_var 4) (sa_nil)))) (sa_nil))))) (scs_cons (sc_if (st_cmp (op_eqD hu64) o_eq (se_bin op_mod o_mod (se_ix hu1 (se_var 1) (se_int)) (se_int)) (se_int) (nomark _)) (scs_one (sc_expr (se_meth PySem.F.plainAttrs_list PySem.F.slot_list_insert PySem.F.type_list_insert mt_insert o_insert (se_var 6) (sa_cons (se_bin op_mod o_mod (se_ix hu1 (se_var 1) (se_int)) (se_bin op_addAll o_add (se_callB call_lenAll o_len (by rfl) T.z_len bt_len (sa_cons (se_var 6) (sa_nil))) (se_int))) (sa_cons (se_bin op_addAll o_add (se_var 2) (se_str)) (sa_nil)))))) (scs_nil)) (scs_cons (sc_set (i := 7) sc_l_law.nd rfl (by first | exact Or.inl rfl | exact Or.inr rfl) (se_callTy (call_listAll rfl) o_list (by rfl) T.z_list bt_list (sa_cons (se_var 6) (sa_nil)))) (scs_cons (sc_set (i := 8) sc_l_law.nd rfl (by first | exact Or.inl rfl | exact Or.inr rfl) (se_own (G .lets) hr (by rfl) T.g_lets T.f_lets.kp T.b_lets pas0 (sa_cons (se_var 5) (sa_cons (se_var 7) (sa_nil))))) (scs_one (sc_ret (se_and (se_isi (by rfl) T.z_isinstance (by rfl) T.z_bool bt_bool (se_var 8)) (se_and (se_cmp (op_eqD hu64) o_eq (se_var 8) (se_own (G .l_due) hr (by rfl) T.g_l_due T.f_l_due.kp T.b_l_due pas0 (sa_cons (se_var 5) (sa_cons (se_var 6) (sa_nil)))) (nomark _)) (se_one (se_cmp (op_eqD hu64) o_eq (se_var 7) (se_var 6) (nomark _)))))))))))))))
theorem ok_all (T : Tx K mg fa fd) : ∀ (k : Nat) (f : Fn), FnOk P w K mg base CX0 k (fa f) (fd f) (nps f) (spD K mg (F k f) (ar f))
  | 0, f => fn_zero (by cases f <;> rfl)
  | k + 1, f => by
    have G := ok_all T k
    cases f
    · exact ok_room_left T G
    · exact ok_one_more T G
    · exact ok_none_yet T G
    · exact ok_enough T G
    · exact ok_item_at T G
    · exact ok_lets T G
    · exact ok_l_draws T G
    · exact ok_l_name T G
    · exact ok_l_due T G
    · exact ok_l_items T G
    · exact ok_l_row T G
    · exact ok_l_mixed T G
    · exact ok_l_law T G
end
end Wk

namespace Wk
open PySem PL
/-! rules, rows of names -/
structure It where
  nm : Str
  low : Nat
  high : Option Nat
def hiD : Option Nat → Dv
  | none => .non
  | some h => .int h
def It.d (t : It) : Dv := .tup [.str t.nm, .int t.low, hiD t.high]
def cap (t : It) (n : Nat) : Nat := match t.high with
  | none => min n (max t.low 1)
  | some _ => n
def hiOk (t : It) (n : Nat) : Prop := match t.high with
  | none => True
  | some h => n ≤ h
instance (t : It) (n : Nat) : Decidable (hiOk t n) := by unfold hiOk; split <;> infer_instance
def idx (its : List It) (x : Str) : Nat := (its.map (·.nm)).idxOf x
structure Vd (row : Bool) (its : List It) (p : List Str) : Prop where
  known : ∀ x ∈ p, x ∈ its.map (·.nm)
  sorted : row = true → p.Pairwise (fun x y => idx its x ≤ idx its y)
  ub : ∀ t ∈ its, hiOk t (p.count t.nm)
def caps (its : List It) (p : List Str) : List Nat := its.map fun t => cap t (p.count t.nm)
def room (t : It) (c : Nat) : Option Nat := match t.high with
  | none => some (min (c + 1) (max t.low 1))
  | some h => if c = h then none else some (c + 1)
def step (row : Bool) (its : List It) (cs : List Nat) (x : Str) : Option (List Nat) :=
  if idx its x < its.length then
    if row = true ∧ (cs.drop (idx its x + 1)).any (fun c => decide (0 < c)) = true then none else
      match its[idx its x]?, cs[idx its x]? with
      | some t, some c => (room t c).map fun c' => cs.set (idx its x) c'
      | _, _ => none
  else none
def runN (row : Bool) (its : List It) : List Nat → List Str → Option (List Nat)
  | cs, [] => some cs
  | cs, x :: xs => match step row its cs x with
    | some cs' => runN row its cs' xs
    | none => none
def enoughN (its : List It) (cs : List Nat) : Bool := (its.zip cs).all fun p => decide (p.1.low ≤ p.2)
def letsN (row : Bool) (its : List It) (names : List Str) : Bool := match runN row its (caps its []) names with
  | some cs => enoughN its cs
  | none => false
theorem idx_lt {its : List It} {x : Str} : idx its x < its.length ↔ x ∈ its.map (·.nm) := by
  unfold idx
  rw [← List.length_map (f := (·.nm)) (as := its)]
  exact List.idxOf_lt_length_iff
theorem idx_nm {its : List It} {x : Str} {t : It} (h : its[idx its x]? = some t) : t.nm = x := by
  have h1 : (its.map (·.nm))[idx its x]? = some t.nm := by rw [List.getElem?_map, h]; rfl
  have hl := (List.getElem?_eq_some_iff.mp h1).1
  have h2 : (its.map (·.nm))[idx its x]'hl = x := List.getElem_idxOf hl
  rw [List.getElem?_eq_getElem hl, h2] at h1
  exact (Option.some.inj h1).symm
theorem nm_idx {its : List It} (nd : (its.map (·.nm)).Nodup) {j : Nat} {t : It} (h : its[j]? = some t) : idx its t.nm = j := by
  have hl := (List.getElem?_eq_some_iff.mp h).1
  have h1 : (its.map (·.nm))[j]'(by simpa using hl) = t.nm := by
    rw [List.getElem_map]; congr 1; exact (List.getElem?_eq_some_iff.mp h).2
  unfold idx
  rw [← h1]
  exact nd.idxOf_getElem j (by simpa using hl)
theorem cap_pos (t : It) (n : Nat) : 0 < cap t n ↔ 0 < n := by
  unfold cap
  split <;> omega
theorem cap_low (t : It) (n : Nat) : t.low ≤ cap t n ↔ t.low ≤ n := by
  unfold cap
  split <;> omega
theorem caps_get (its : List It) (p : List Str) (j : Nat) : (caps its p)[j]? = (its[j]?).map fun t => cap t (p.count t.nm) := by unfold caps; rw [List.getElem?_map]
/-- a step keeps the word, or ends it for good -/
theorem step_vd {row : Bool} {its : List It} {p : List Str} (nd : (its.map (·.nm)).Nodup) (v : Vd row its p) (x : Str) :
    (step row its (caps its p) x = some (caps its (p ++ [x])) ∧ Vd row its (p ++ [x])) ∨ (step row its (caps its p) x = none ∧ ∀ rest, ¬ Vd row its (p ++ x :: rest)) := by
  unfold step
  by_cases hk : idx its x < its.length
  · rw [if_pos hk]
    obtain ⟨t, ht⟩ : ∃ t, its[idx its x]? = some t := ⟨_, List.getElem?_eq_getElem hk⟩
    have hx := idx_nm ht
    have htm := List.mem_of_getElem? ht
    by_cases hr : row = true ∧ ((caps its p).drop (idx its x + 1)).any (fun c => decide (0 < c)) = true
    · rw [if_pos hr]
      refine .inr ⟨rfl, fun rest vd => ?_⟩
      obtain ⟨c, hc, hc0⟩ := List.any_eq_true.mp hr.2
      obtain ⟨j, hj⟩ := List.mem_iff_getElem?.mp hc
      rw [List.getElem?_drop, caps_get, Option.map_eq_some_iff] at hj
      obtain ⟨u, hu, rfl⟩ := hj
      have hc1 := (cap_pos u _).mp (of_decide_eq_true hc0)
      have hm : u.nm ∈ p := List.count_pos_iff.mp hc1
      have := (List.pairwise_append.mp (vd.sorted hr.1)).2.2 u.nm hm x (by simp)
      rw [nm_idx nd hu] at this
      omega
    · rw [if_neg hr, ht, caps_get, ht]
      simp only [Option.map_some]
      have cnt : ∀ u ∈ its, (p ++ [x]).count u.nm = p.count u.nm + if u.nm = x then 1 else 0 := fun u _ => by
        rw [List.count_append, List.count_singleton]
        by_cases q : u.nm = x
        · subst q; simp
        · have q' : ¬ x = u.nm := fun e => q e.symm
          simp [q, q']
      have hset : ∀ c', c' = cap t (p.count t.nm + 1) → (caps its p).set (idx its x) c' = caps its (p ++ [x]) := fun c' hc' => by
        refine List.ext_getElem? fun j => ?_
        rw [caps_get]
        by_cases hj : idx its x = j
        · subst hj
          rw [List.getElem?_set_self (by simpa [caps] using hk), ht]
          simp only [Option.map_some]
          rw [cnt t htm, if_pos hx, hc']
        · rw [List.getElem?_set_ne hj, caps_get]
          cases hu : its[j]? with
          | none => rfl
          | some u =>
            simp only [Option.map_some]
            have : ¬ u.nm = x := fun e => hj (by rw [← e]; exact nm_idx nd hu)
            rw [cnt u (List.mem_of_getElem? hu), if_neg this, Nat.add_zero]
      have vk : hiOk t (p.count t.nm + 1) → Vd row its (p ++ [x]) := fun ho => by
        refine ⟨fun y hy => ?_, fun hrow => ?_, fun u hu => ?_⟩
        · rcases List.mem_append.mp hy with hy | hy
          · exact v.known y hy
          · rw [List.mem_singleton] at hy; subst hy; exact idx_lt.mp hk
        · refine List.pairwise_append.mpr ⟨v.sorted hrow, List.pairwise_singleton _ _, fun y hy z hz => ?_⟩
          rw [List.mem_singleton] at hz; subst hz
          refine Nat.le_of_not_lt fun hlt => hr ⟨hrow, List.any_eq_true.mpr ?_⟩
          have hyk := idx_lt.mpr (v.known y hy)
          obtain ⟨u, hu⟩ : ∃ u, its[idx its y]? = some u := ⟨_, List.getElem?_eq_getElem hyk⟩
          refine ⟨cap u (p.count u.nm), List.mem_iff_getElem?.mpr ⟨idx its y - (idx its z + 1), ?_⟩, decide_eq_true ((cap_pos u _).mpr ?_)⟩
          · rw [List.getElem?_drop, show idx its z + 1 + (idx its y - (idx its z + 1)) = idx its y by omega, caps_get, hu]; rfl
          · rw [idx_nm hu]; exact List.count_pos_iff.mpr hy
        · rw [cnt u hu]
          by_cases q : u.nm = x
          · have : u = t := by
              obtain ⟨j, hj⟩ := List.mem_iff_getElem?.mp hu
              have e1 := nm_idx nd hj
              rw [q] at e1
              rw [e1, hj] at ht
              exact Option.some.inj ht
            subst this
            rw [if_pos q]; exact ho
          · rw [if_neg q, Nat.add_zero]; exact v.ub u hu
      unfold room
      cases hh : t.high with
      | none =>
        refine .inl ⟨?_, vk (by unfold hiOk; rw [hh]; trivial)⟩
        simp only [Option.map_some, Option.some.injEq]
        exact hset _ (by unfold cap; rw [hh]; dsimp only; omega)
      | some h =>
        dsimp only
        have ec : cap t (p.count t.nm) = p.count t.nm := by unfold cap; rw [hh]
        have hle : p.count t.nm ≤ h := by have := v.ub t htm; unfold hiOk at this; rw [hh] at this; exact this
        rw [ec]
        by_cases q : p.count t.nm = h
        · rw [if_pos q]
          refine .inr ⟨rfl, fun rest vd => ?_⟩
          have := vd.ub t htm
          unfold hiOk at this
          rw [hh, List.count_append, ← hx, List.count_cons_self] at this
          dsimp only at this
          omega
        · rw [if_neg q]
          refine .inl ⟨?_, vk (by unfold hiOk; rw [hh]; show _ ≤ h; omega)⟩
          simp only [Option.map_some, Option.some.injEq]
          exact hset _ (by unfold cap; rw [hh])
  · rw [if_neg hk]
    exact .inr ⟨rfl, fun rest vd => hk (idx_lt.mpr (vd.known x (by simp)))⟩
theorem run_vd {row : Bool} {its : List It} (nd : (its.map (·.nm)).Nodup) : ∀ (xs p : List Str), Vd row its p →
    (runN row its (caps its p) xs = some (caps its (p ++ xs)) ∧ Vd row its (p ++ xs)) ∨ (runN row its (caps its p) xs = none ∧ ¬ Vd row its (p ++ xs))
  | [], p, v => .inl ⟨by rw [runN, List.append_nil], by rw [List.append_nil]; exact v⟩
  | x :: xs, p, v => by
    rcases step_vd nd v x with ⟨e, v'⟩ | ⟨e, n⟩
    · rw [runN, e]
      have := run_vd nd xs (p ++ [x]) v'
      rw [List.append_assoc] at this
      exact this
    · rw [runN, e]
      exact .inr ⟨rfl, n xs⟩
theorem enough_iff (its : List It) (p : List Str) : enoughN its (caps its p) = true ↔ ∀ t ∈ its, t.low ≤ p.count t.nm := by
  unfold enoughN caps
  rw [List.all_eq_true]
  refine ⟨fun h t ht => ?_, fun h q hq => ?_⟩
  · obtain ⟨i, hi, e⟩ := List.getElem_of_mem ht
    have : (its.zip (its.map fun t => cap t (p.count t.nm)))[i]'(by simpa using hi) = (t, cap t (p.count t.nm)) := by
      rw [List.getElem_zip, List.getElem_map, e]
    have := h _ (this ▸ List.getElem_mem _)
    exact (cap_low t _).mp (of_decide_eq_true this)
  · obtain ⟨i, hi, e⟩ := List.getElem_of_mem hq
    rw [List.getElem_zip, List.getElem_map] at e
    subst e
    exact decide_eq_true ((cap_low _ _).mpr (h _ (List.getElem_mem _)))
def Good (row : Bool) (its : List It) (p : List Str) : Prop := Vd row its p ∧ ∀ t ∈ its, t.low ≤ p.count t.nm
theorem lets_good {row : Bool} {its : List It} (nd : (its.map (·.nm)).Nodup) (names : List Str) : letsN row its names = true ↔ Good row its names := by
  have v0 : Vd row its [] := ⟨by simp, fun _ => List.Pairwise.nil, fun t _ => by unfold hiOk; split <;> simp⟩
  unfold letsN
  rcases run_vd nd names [] v0 with ⟨e, v⟩ | ⟨e, n⟩
  · rw [List.nil_append] at e v
    rw [e]
    dsimp only
    rw [enough_iff]
    exact ⟨fun h => ⟨v, h⟩, fun h => h.2⟩
  · rw [e]
    rw [List.nil_append] at n
    exact ⟨fun h => (by cases h), fun h => absurd h.1 n⟩
/-! the row gone along -/
def greedy : List It → List Str → Bool
  | [], left => left.isEmpty
  | t :: its, left => if t.low ≤ (left.takeWhile (· == t.nm)).length ∧ hiOk t (left.takeWhile (· == t.nm)).length then greedy its (left.dropWhile (· == t.nm)) else false
theorem greedy_good : ∀ (its : List It), (its.map (·.nm)).Nodup → ∀ names : List Str, greedy its names = true ↔ Good true its names
  | [], _, names => by
    rw [greedy, List.isEmpty_iff]
    refine ⟨fun h => ?_, fun h => ?_⟩
    · subst h; exact ⟨⟨by simp, fun _ => List.Pairwise.nil, by simp⟩, by simp⟩
    · cases names with
      | nil => rfl
      | cons x xs => exact absurd (h.1.known x (by simp)) (by simp)
  | t :: its, nd, names => by
    have nd' : (its.map (·.nm)).Nodup := (List.nodup_cons.mp nd).2
    have tn : t.nm ∉ its.map (·.nm) := (List.nodup_cons.mp nd).1
    have ih := greedy_good its nd' (names.dropWhile (· == t.nm))
    have hsp : names = names.takeWhile (· == t.nm) ++ names.dropWhile (· == t.nm) := List.takeWhile_append_dropWhile.symm
    have hrep : names.takeWhile (· == t.nm) = List.replicate (names.takeWhile (· == t.nm)).length t.nm := by
      refine List.eq_replicate_iff.mpr ⟨rfl, fun y hy => ?_⟩
      have := List.all_takeWhile (p := (· == t.nm)) (l := names)
      exact eq_of_beq (List.all_eq_true.mp this y hy)
    have hhead : ∀ y ys, names.dropWhile (· == t.nm) = y :: ys → y ≠ t.nm := fun y ys e q => by
      have := List.head?_dropWhile_not (p := (· == t.nm)) (l := names)
      rw [e] at this
      simp [q] at this
    generalize hc : (names.takeWhile (· == t.nm)).length = c at hrep
    rw [hrep] at hsp
    generalize hl : names.dropWhile (· == t.nm) = left at ih hsp hhead
    have i0 : idx (t :: its) t.nm = 0 := by simp [idx]
    have iS : ∀ y, y ≠ t.nm → idx (t :: its) y = idx its y + 1 := fun y hy => by
      have q : (t.nm == y) = false := beq_false_of_ne fun e => hy e.symm
      unfold idx
      rw [List.map_cons, List.idxOf_cons, q]; rfl
    rw [greedy, hc, hl]
    by_cases tl : t.nm ∈ left
    · -- it comes again later
      have bad : ¬ Good true (t :: its) names := fun g => by
        cases left with
        | nil => simp at tl
        | cons y ys =>
          have hy := hhead y ys rfl
          have tys : t.nm ∈ ys := by
            rcases List.mem_cons.mp tl with e | h
            · exact absurd e.symm hy
            · exact h
          have s := g.1.sorted rfl
          rw [hsp] at s
          have s2 := (List.pairwise_append.mp s).2.1
          have := (List.pairwise_cons.mp s2).1 t.nm tys
          rw [i0, iS y hy] at this
          omega
      refine ⟨fun h => ?_, fun h => absurd h bad⟩
      split at h
      · exact absurd ((ih.mp h).1.known t.nm tl) tn
      · cases h
    · have ct : names.count t.nm = c := by
        rw [hsp, List.count_append, List.count_replicate_self, List.count_eq_zero.mpr tl, Nat.add_zero]
      have cu : ∀ u ∈ its, names.count u.nm = left.count u.nm := fun u hu => by
        have : u.nm ≠ t.nm := fun e => tn (by rw [← e]; exact List.mem_map.mpr ⟨u, hu, rfl⟩)
        rw [hsp, List.count_append, List.count_replicate]
        have q : ¬ (t.nm == u.nm) = true := fun e => this (eq_of_beq e).symm
        rw [if_neg q, Nat.zero_add]
      have key : Good true (t :: its) names ↔ (t.low ≤ c ∧ hiOk t c) ∧ Good true its left := by
        refine ⟨fun g => ⟨⟨by have := g.2 t (by simp); rwa [ct] at this, by have := g.1.ub t (by simp); rwa [ct] at this⟩, ⟨fun y hy => ?_, fun _ => ?_, fun u hu => ?_⟩, fun u hu => ?_⟩, fun g => ⟨⟨fun y hy => ?_, fun _ => ?_, fun u hu => ?_⟩, fun u hu => ?_⟩⟩
        · have := g.1.known y (by rw [hsp]; simp [hy])
          rw [List.map_cons] at this
          rcases List.mem_cons.mp this with e | h
          · exact absurd (e ▸ hy) tl
          · exact h
        · have s := g.1.sorted rfl
          rw [hsp] at s
          refine (List.pairwise_append.mp s).2.1.imp_of_mem fun {a b} ha hb q => ?_
          rw [iS a (fun e => tl (e ▸ ha)), iS b (fun e => tl (e ▸ hb))] at q
          omega
        · have := g.1.ub u (by simp [hu]); rwa [cu u hu] at this
        · have := g.2 u (by simp [hu]); rwa [cu u hu] at this
        · rw [hsp] at hy
          rcases List.mem_append.mp hy with hy | hy
          · rw [(List.mem_replicate.mp hy).2]; simp
          · rw [List.map_cons]; exact List.mem_cons_of_mem _ (g.2.1.known y hy)
        · rw [hsp]
          refine List.pairwise_append.mpr ⟨List.pairwise_replicate.mpr (.inr (Nat.le_refl _)), (g.2.1.sorted rfl).imp_of_mem fun {a b} ha hb q => ?_, fun a ha b hb => ?_⟩
          · rw [iS a (fun e => tl (e ▸ ha)), iS b (fun e => tl (e ▸ hb))]; omega
          · rw [(List.mem_replicate.mp ha).2, i0]; omega
        · rcases List.mem_cons.mp hu with rfl | hu
          · rw [ct]; exact g.1.2
          · rw [cu u hu]; exact g.2.1.ub u hu
        · rcases List.mem_cons.mp hu with rfl | hu
          · rw [ct]; exact g.1.1
          · rw [cu u hu]; exact g.2.2 u hu
      rw [key, ← ih]
      split
      · rename_i h; exact ⟨fun q => ⟨h, q⟩, fun q => q.2⟩
      · rename_i h; exact ⟨fun q => (by cases q), fun q => absurd q.1 h⟩

/-! what the defs reckon -/
def wd (row : Bool) : Str := if row = true then "row" else "mix"
def ruleD (kd rn : Str) (row : Bool) (its : List It) : Dv := .tup [.str kd, .str rn, .str (wd row), .tup (its.map It.d)]
structure ItOk (its : List It) : Prop where
  len : its.length ≤ 3
  nd : (its.map (·.nm)).Nodup
  sk : ∀ t ∈ its, Sk t.nm
  low : ∀ t ∈ its, t.low ≤ 2
  high : ∀ t ∈ its, ∀ h, t.high = some h → t.low ≤ h ∧ h ≤ 2
def ci (c : Nat) : Dv := .int c
theorem isD_hi {S : Sto} (h : Option Nat) : isD (hiD h) .non S = .ok (.bl h.isNone) S := by cases h <;> rfl
theorem room_run {k : Nat} {t : It} {c : Nat} {S : Sto} : F (k + 1) .room_left [t.d, .int c] S = .ok (hiD (room t c)) S := by
  rw [F_room_left]
  refine runF_rt (ρ := [some t.d, some (.int c)]) rfl rfl ?_
  unfold c_room_left It.d room
  cases hh : t.high with
  | none =>
    refine (seq_rt ((if_t (S' := S) (by simp only [ev_var, ev_con, ev_bin, ev_un, ev_anil, ev_acons, ev_call, ev_tup, ev_lst, ev_not, ev_and, ev_or, ev_if, ev_cbl, ev_btrue, ev_cand, ev_cor, ev_cnot, ev_sli, ev_onone, ev_osome, ev_chain, ev_meth, ev_get2, ev_newK, ev_newT, ev_own, ev_nil, ev_seq, ev_expr, ev_set, ev_ret, ev_retN, ev_cif, ev_brk, ev_ct, ev_asg, ev_put, ev_aug, ev_for, ev_comp, ev_newL, ev_iseq, ev_irange, ev_ienum, ev_yes, Out.bind_ok, Out.bindN_ok, bindS_ok, Tg.set, Tg.sets, List.getElem?_cons_zero, List.getElem?_cons_succ, List.set_cons_zero, List.set_cons_succ, wipeE, List.length_cons, List.length_nil, Nat.reduceAdd, Nat.reduceLeDiff, Nat.reduceEqDiff, ↓reduceIte, Bool.false_eq_true, decide_eq_true_eq, add_int, sub_int, lt_int, gt_int, le_int, ge_int, neg_int, and_int, or_int, xor_int, max2_int, min2_int, mod_pos, fdiv_sm, mul_sm, mul_smr, Int.reduceLT, Int.reduceNeg, int_bl, int_int, sli_tup, idx_t2, isD_hi, Option.isNone_none])).trans (ret_of (by simp only [ev_var, ev_con, ev_bin, ev_un, ev_anil, ev_acons, ev_call, ev_tup, ev_lst, ev_not, ev_and, ev_or, ev_if, ev_cbl, ev_btrue, ev_cand, ev_cor, ev_cnot, ev_sli, ev_onone, ev_osome, ev_chain, ev_meth, ev_get2, ev_newK, ev_newT, ev_own, ev_nil, ev_seq, ev_expr, ev_set, ev_ret, ev_retN, ev_cif, ev_brk, ev_ct, ev_asg, ev_put, ev_aug, ev_for, ev_comp, ev_newL, ev_iseq, ev_irange, ev_ienum, ev_yes, Out.bind_ok, Out.bindN_ok, bindS_ok, Tg.set, Tg.sets, List.getElem?_cons_zero, List.getElem?_cons_succ, List.set_cons_zero, List.set_cons_succ, wipeE, List.length_cons, List.length_nil, Nat.reduceAdd, Nat.reduceLeDiff, Nat.reduceEqDiff, ↓reduceIte, Bool.false_eq_true, decide_eq_true_eq, add_int, sub_int, lt_int, gt_int, le_int, ge_int, neg_int, and_int, or_int, xor_int, max2_int, min2_int, mod_pos, fdiv_sm, mul_sm, mul_smr, Int.reduceLT, Int.reduceNeg, int_bl, int_int, sli_tup, idx_t1]; rfl)))).trans ?_
    have : (min ((c : Int) + 1) (max (t.low : Int) 1)) = ((min (c + 1) (max t.low 1) : Nat) : Int) := by omega
    rw [this]; rfl
  | some h =>
    refine (seq_of ((if_f (S' := S) (by simp only [ev_var, ev_con, ev_bin, ev_un, ev_anil, ev_acons, ev_call, ev_tup, ev_lst, ev_not, ev_and, ev_or, ev_if, ev_cbl, ev_btrue, ev_cand, ev_cor, ev_cnot, ev_sli, ev_onone, ev_osome, ev_chain, ev_meth, ev_get2, ev_newK, ev_newT, ev_own, ev_nil, ev_seq, ev_expr, ev_set, ev_ret, ev_retN, ev_cif, ev_brk, ev_ct, ev_asg, ev_put, ev_aug, ev_for, ev_comp, ev_newL, ev_iseq, ev_irange, ev_ienum, ev_yes, Out.bind_ok, Out.bindN_ok, bindS_ok, Tg.set, Tg.sets, List.getElem?_cons_zero, List.getElem?_cons_succ, List.set_cons_zero, List.set_cons_succ, wipeE, List.length_cons, List.length_nil, Nat.reduceAdd, Nat.reduceLeDiff, Nat.reduceEqDiff, ↓reduceIte, Bool.false_eq_true, decide_eq_true_eq, add_int, sub_int, lt_int, gt_int, le_int, ge_int, neg_int, and_int, or_int, xor_int, max2_int, min2_int, mod_pos, fdiv_sm, mul_sm, mul_smr, Int.reduceLT, Int.reduceNeg, int_bl, int_int, sli_tup, idx_t2, isD_hi, Option.isNone_some])).trans rfl)).trans ?_
    by_cases q : c = h
    · subst q
      simp only [↓reduceIte]
      exact seq_rt ((if_t (S' := S) (by simp only [ev_var, ev_con, ev_bin, ev_un, ev_anil, ev_acons, ev_call, ev_tup, ev_lst, ev_not, ev_and, ev_or, ev_if, ev_cbl, ev_btrue, ev_cand, ev_cor, ev_cnot, ev_sli, ev_onone, ev_osome, ev_chain, ev_meth, ev_get2, ev_newK, ev_newT, ev_own, ev_nil, ev_seq, ev_expr, ev_set, ev_ret, ev_retN, ev_cif, ev_brk, ev_ct, ev_asg, ev_put, ev_aug, ev_for, ev_comp, ev_newL, ev_iseq, ev_irange, ev_ienum, ev_yes, Out.bind_ok, Out.bindN_ok, bindS_ok, Tg.set, Tg.sets, List.getElem?_cons_zero, List.getElem?_cons_succ, List.set_cons_zero, List.set_cons_succ, wipeE, List.length_cons, List.length_nil, Nat.reduceAdd, Nat.reduceLeDiff, Nat.reduceEqDiff, ↓reduceIte, Bool.false_eq_true, decide_eq_true_eq, add_int, sub_int, lt_int, gt_int, le_int, ge_int, neg_int, and_int, or_int, xor_int, max2_int, min2_int, mod_pos, fdiv_sm, mul_sm, mul_smr, Int.reduceLT, Int.reduceNeg, int_bl, int_int, sli_tup, idx_t2, hiD, eq_int, decide_true])).trans (ret_of rfl))
    · have q' : ¬ (c : Int) = (h : Int) := by omega
      simp only [q, ↓reduceIte]
      refine (seq_of ((if_f (S' := S) (by simp only [ev_var, ev_con, ev_bin, ev_un, ev_anil, ev_acons, ev_call, ev_tup, ev_lst, ev_not, ev_and, ev_or, ev_if, ev_cbl, ev_btrue, ev_cand, ev_cor, ev_cnot, ev_sli, ev_onone, ev_osome, ev_chain, ev_meth, ev_get2, ev_newK, ev_newT, ev_own, ev_nil, ev_seq, ev_expr, ev_set, ev_ret, ev_retN, ev_cif, ev_brk, ev_ct, ev_asg, ev_put, ev_aug, ev_for, ev_comp, ev_newL, ev_iseq, ev_irange, ev_ienum, ev_yes, Out.bind_ok, Out.bindN_ok, bindS_ok, Tg.set, Tg.sets, List.getElem?_cons_zero, List.getElem?_cons_succ, List.set_cons_zero, List.set_cons_succ, wipeE, List.length_cons, List.length_nil, Nat.reduceAdd, Nat.reduceLeDiff, Nat.reduceEqDiff, ↓reduceIte, Bool.false_eq_true, decide_eq_true_eq, add_int, sub_int, lt_int, gt_int, le_int, ge_int, neg_int, and_int, or_int, xor_int, max2_int, min2_int, mod_pos, fdiv_sm, mul_sm, mul_smr, Int.reduceLT, Int.reduceNeg, int_bl, int_int, sli_tup, idx_t2, hiD, eq_int, q', decide_false])).trans rfl)).trans ?_
      exact ret_of rfl
theorem eq_wd {S : Sto} (row : Bool) : eqD (.str (wd row)) (.str "row") S = .ok (.bl row) S := by
  cases row
  · exact (eq_str (by decide +kernel) (by decide +kernel)).trans (by rw [show decide (wd false = "row") = false by decide +kernel])
  · exact (eq_str (by decide +kernel) (by decide +kernel)).trans (by rw [show decide (wd true = "row") = true by decide +kernel])
theorem eq_wm {S : Sto} (row : Bool) : eqD (.str (wd row)) (.str "mix") S = .ok (.bl (!row)) S := by
  cases row
  · exact (eq_str (by decide +kernel) (by decide +kernel)).trans (by rw [show decide (wd false = "mix") = true by decide +kernel]; rfl)
  · exact (eq_str (by decide +kernel) (by decide +kernel)).trans (by rw [show decide (wd true = "mix") = false by decide +kernel]; rfl)
def csD (o : Option (List Nat)) : Dv := match o with
  | none => .non
  | some cs => .tup (cs.map ci)
def stepAt (row : Bool) (its : List It) (cs : List Nat) (a : Nat) : Option (List Nat) :=
  if row = true ∧ (cs.drop (a + 1)).any (fun c => decide (0 < c)) = true then none else
      match its[a]?, cs[a]? with
      | some t, some c => (room t c).map fun c' => cs.set a c'
      | _, _ => none
theorem cut_to {α : Type} (ds : List α) (t : Nat) : cutD ds none (some (t : Int)) = ds.take t := by
  unfold cutD HT.sIx
  simp only [show ¬ ((t : Int) < 0) by omega, ↓reduceIte, Int.toNat_natCast, List.drop_zero, Nat.sub_zero]
  rcases Nat.le_total t ds.length with h | h
  · rw [Nat.min_eq_left h]
  · rw [Nat.min_eq_right h, List.take_length, List.take_of_length_le h]
theorem cut_from {α : Type} (ds : List α) (t : Nat) : cutD ds (some (t : Int)) none = ds.drop t := by
  unfold cutD HT.sIx
  simp only [show ¬ ((t : Int) < 0) by omega, ↓reduceIte, Int.toNat_natCast]
  rcases Nat.le_total t ds.length with h | h
  · rw [Nat.min_eq_left h, List.take_of_length_le (by simp)]
  · rw [Nat.min_eq_right h, List.drop_of_length_le (Nat.le_refl _), List.drop_of_length_le h]; simp
theorem add_tup {S : Sto} {a b : List Dv} (h : a.length + b.length ≤ sizeLine) : addD (.tup a) (.tup b) S = .ok (.tup (a ++ b)) S := by simp only [addD, h, ↓reduceIte]
theorem ci_at {cs : List Nat} {j : Nat} {c : Nat} (h : cs[j]? = some c) (S : Sto) : idxD (.tup (cs.map ci)) (.int (j : Nat)) S = .ok (.int c) S := idx_tup (atI_nat (by rw [List.getElem?_map, h]; rfl))
theorem more_run {k a lo : Nat} {kd rn : Str} {row : Bool} {its : List It} {cs : List Nat} {S : Sto} (hl : cs.length = its.length) (h3 : its.length ≤ 3) (ha : a < its.length) (ho : S[lo]? = some (.lst (rangeL ((a : Int) + 1) its.length))) :
    F (k + 2) .one_more [ruleD kd rn row its, .tup (cs.map ci), .int a, .ref lo] S = .ok (csD (stepAt row its cs a)) S := by
  rw [F_one_more]
  refine runF_rt (ρ := [some (ruleD kd rn row its), some (.tup (cs.map ci)), some (.int a), some (.ref lo), none, none]) rfl rfl ?_
  obtain ⟨t, ht⟩ : ∃ t, its[a]? = some t := ⟨_, List.getElem?_eq_getElem ha⟩
  obtain ⟨c, hc⟩ : ∃ c, cs[a]? = some c := ⟨_, List.getElem?_eq_getElem (by omega)⟩
  unfold c_one_more
  -- the later ones
  have later : ∀ (D : OutS → Prop), ((cs.drop (a + 1)).any (fun c => decide (0 < c)) = true → D (.fl (.rt .non) S)) → ((cs.drop (a + 1)).any (fun c => decide (0 < c)) = false → ∀ v, D (.fl (.nx [some (ruleD kd rn row its), some (.tup (cs.map ci)), some (.int a), some (.ref lo), none, v]) S)) → D (loop (Ck.ls lo (rangeL ((a : Int) + 1) its.length)).ok (.nm 5) (b_one_more_1 (F (k + 1))) (rangeL ((a : Int) + 1) its.length) [some (ruleD kd rn row its), some (.tup (cs.map ci)), some (.int a), some (.ref lo), none, none] S) := fun D d1 d2 => by
    refine loop_gen (ck := (Ck.ls lo (rangeL ((a : Int) + 1) its.length)).ok) (t := .nm 5) (b := b_one_more_1 (F (k + 1))) (fun i ρ S' => S' = S ∧ (∃ v, ρ = [some (ruleD kd rn row its), some (.tup (cs.map ci)), some (.int a), some (.ref lo), none, v]) ∧ ∀ j, j < i → ∀ c, (cs.drop (a + 1))[j]? = some c → ¬ 0 < c) D _ 0 ?_ ?_ _ _ ⟨rfl, ⟨none, rfl⟩, fun j hj => by omega⟩
    · rintro i v ρ S' hv ⟨rfl, ⟨u, rfl⟩, hn⟩
      obtain ⟨rfl, hlt⟩ := rangeL_get hv
      refine ⟨ho, _, rfl, ?_⟩
      obtain ⟨c, hc⟩ : ∃ c, cs[a + 1 + i]? = some c := ⟨_, List.getElem?_eq_getElem (by omega)⟩
      have ei : idxD (.tup (cs.map ci)) (.int ((a : Int) + 1 + i)) S' = .ok (.int c) S' := by
        rw [show ((a : Int) + 1 + i) = ((a + 1 + i : Nat) : Int) by omega]; exact ci_at hc S'
      by_cases q : 0 < c
      · refine .inr (.inr ⟨.non, S', ?_, d1 (List.any_eq_true.mpr ⟨c, List.mem_iff_getElem?.mpr ⟨i, by rw [List.getElem?_drop]; exact hc⟩, decide_eq_true q⟩)⟩)
        have q' : (0 : Int) < (c : Int) := by omega
        unfold b_one_more_1
        exact (if_t (S' := S') (by simp only [ev_var, ev_con, ev_bin, ev_un, ev_anil, ev_acons, ev_call, ev_tup, ev_lst, ev_not, ev_and, ev_or, ev_if, ev_cbl, ev_btrue, ev_cand, ev_cor, ev_cnot, ev_sli, ev_onone, ev_osome, ev_chain, ev_meth, ev_get2, ev_newK, ev_newT, ev_own, ev_nil, ev_seq, ev_expr, ev_set, ev_ret, ev_retN, ev_cif, ev_brk, ev_ct, ev_asg, ev_put, ev_aug, ev_for, ev_comp, ev_newL, ev_iseq, ev_irange, ev_ienum, ev_yes, Out.bind_ok, Out.bindN_ok, bindS_ok, Tg.set, Tg.sets, List.getElem?_cons_zero, List.getElem?_cons_succ, List.set_cons_zero, List.set_cons_succ, wipeE, List.length_cons, List.length_nil, Nat.reduceAdd, Nat.reduceLeDiff, Nat.reduceEqDiff, ↓reduceIte, Bool.false_eq_true, decide_eq_true_eq, add_int, sub_int, lt_int, gt_int, le_int, ge_int, neg_int, and_int, or_int, xor_int, max2_int, min2_int, mod_pos, fdiv_sm, mul_sm, mul_smr, Int.reduceLT, Int.reduceNeg, int_bl, int_int, sli_tup, ei, q', decide_true])).trans (ret_of rfl)
      · refine .inl ⟨[some (ruleD kd rn row its), some (.tup (cs.map ci)), some (.int a), some (.ref lo), none, some (.int ((a : Int) + 1 + i))], S', .inl ?_, rfl, ⟨_, rfl⟩, fun j hj c' hc' => ?_⟩
        · have q' : ¬ (0 : Int) < (c : Int) := by omega
          unfold b_one_more_1
          exact (if_f (S' := S') (by simp only [ev_var, ev_con, ev_bin, ev_un, ev_anil, ev_acons, ev_call, ev_tup, ev_lst, ev_not, ev_and, ev_or, ev_if, ev_cbl, ev_btrue, ev_cand, ev_cor, ev_cnot, ev_sli, ev_onone, ev_osome, ev_chain, ev_meth, ev_get2, ev_newK, ev_newT, ev_own, ev_nil, ev_seq, ev_expr, ev_set, ev_ret, ev_retN, ev_cif, ev_brk, ev_ct, ev_asg, ev_put, ev_aug, ev_for, ev_comp, ev_newL, ev_iseq, ev_irange, ev_ienum, ev_yes, Out.bind_ok, Out.bindN_ok, bindS_ok, Tg.set, Tg.sets, List.getElem?_cons_zero, List.getElem?_cons_succ, List.set_cons_zero, List.set_cons_succ, wipeE, List.length_cons, List.length_nil, Nat.reduceAdd, Nat.reduceLeDiff, Nat.reduceEqDiff, ↓reduceIte, Bool.false_eq_true, decide_eq_true_eq, add_int, sub_int, lt_int, gt_int, le_int, ge_int, neg_int, and_int, or_int, xor_int, max2_int, min2_int, mod_pos, fdiv_sm, mul_sm, mul_smr, Int.reduceLT, Int.reduceNeg, int_bl, int_int, sli_tup, ei, q', decide_false])).trans rfl
        · rcases Nat.lt_or_ge j i with z | z
          · exact hn j (by omega) c' hc'
          · have : j = i := by omega
            subst this
            rw [List.getElem?_drop, hc] at hc'
            cases hc'; exact q
    · rintro ρ S' ⟨rfl, ⟨u, rfl⟩, hn⟩
      refine ⟨ho, d2 ?_ u⟩
      rw [Bool.eq_false_iff]
      intro z
      obtain ⟨c, hc, hc0⟩ := List.any_eq_true.mp z
      obtain ⟨j, hj⟩ := List.mem_iff_getElem?.mp hc
      refine hn j ?_ c hj (of_decide_eq_true hc0)
      have := (List.getElem?_eq_some_iff.mp hj).1
      rw [List.length_drop] at this
      rw [rangeL_len]; omega
  have fin : ∀ v, cSeq (cSet 4 (eOwn 2 (F (k + 1) .room_left) (aCons (eBin idxD (eBin idxD (eVar 0) (eCon (.int 3))) (eVar 2)) (aCons (eBin idxD (eVar 1) (eVar 2)) (aNil))))) (cSeq (cIf (cBl (eBin isD (eVar 4) (eCon .non))) (cRet (eCon .non)) (cNil)) (cRet (eBin addD (eBin addD (eSli (eVar 1) (oNone) (oSome (eVar 2))) (eTup (aCons (eVar 4) (aNil)))) (eSli (eVar 1) (oSome (eBin addD (eVar 2) (eCon (.int 1)))) (oNone))))) [some (ruleD kd rn row its), some (.tup (cs.map ci)), some (.int a), some (.ref lo), none, v] S = .fl (.rt (csD ((room t c).map fun c' => cs.set a c'))) S := fun v => by
    have e1 : idxD (.tup (its.map It.d)) (.int (a : Int)) S = .ok t.d S := idx_tup (atI_nat (by rw [List.getElem?_map, ht]; rfl))
    have e2 : idxD (ruleD kd rn row its) (.int 3) S = .ok (.tup (its.map It.d)) S := idx_t3
    refine (seq_of (set_of (d := hiD (room t c)) (S' := S) (by simp only [ev_var, ev_con, ev_bin, ev_un, ev_anil, ev_acons, ev_call, ev_tup, ev_lst, ev_not, ev_and, ev_or, ev_if, ev_cbl, ev_btrue, ev_cand, ev_cor, ev_cnot, ev_sli, ev_onone, ev_osome, ev_chain, ev_meth, ev_get2, ev_newK, ev_newT, ev_own, ev_nil, ev_seq, ev_expr, ev_set, ev_ret, ev_retN, ev_cif, ev_brk, ev_ct, ev_asg, ev_put, ev_aug, ev_for, ev_comp, ev_newL, ev_iseq, ev_irange, ev_ienum, ev_yes, Out.bind_ok, Out.bindN_ok, bindS_ok, Tg.set, Tg.sets, List.getElem?_cons_zero, List.getElem?_cons_succ, List.set_cons_zero, List.set_cons_succ, wipeE, List.length_cons, List.length_nil, Nat.reduceAdd, Nat.reduceLeDiff, Nat.reduceEqDiff, ↓reduceIte, Bool.false_eq_true, decide_eq_true_eq, add_int, sub_int, lt_int, gt_int, le_int, ge_int, neg_int, and_int, or_int, xor_int, max2_int, min2_int, mod_pos, fdiv_sm, mul_sm, mul_smr, Int.reduceLT, Int.reduceNeg, int_bl, int_int, sli_tup, e2, e1, ci_at hc S, room_run]))).trans ?_
    cases hr : room t c with
    | none => exact seq_rt ((if_t (S' := S) (by simp only [ev_var, ev_con, ev_bin, ev_un, ev_anil, ev_acons, ev_call, ev_tup, ev_lst, ev_not, ev_and, ev_or, ev_if, ev_cbl, ev_btrue, ev_cand, ev_cor, ev_cnot, ev_sli, ev_onone, ev_osome, ev_chain, ev_meth, ev_get2, ev_newK, ev_newT, ev_own, ev_nil, ev_seq, ev_expr, ev_set, ev_ret, ev_retN, ev_cif, ev_brk, ev_ct, ev_asg, ev_put, ev_aug, ev_for, ev_comp, ev_newL, ev_iseq, ev_irange, ev_ienum, ev_yes, Out.bind_ok, Out.bindN_ok, bindS_ok, Tg.set, Tg.sets, List.getElem?_cons_zero, List.getElem?_cons_succ, List.set_cons_zero, List.set_cons_succ, wipeE, List.length_cons, List.length_nil, Nat.reduceAdd, Nat.reduceLeDiff, Nat.reduceEqDiff, ↓reduceIte, Bool.false_eq_true, decide_eq_true_eq, add_int, sub_int, lt_int, gt_int, le_int, ge_int, neg_int, and_int, or_int, xor_int, max2_int, min2_int, mod_pos, fdiv_sm, mul_sm, mul_smr, Int.reduceLT, Int.reduceNeg, int_bl, int_int, sli_tup, isD_hi, Option.isNone_none])).trans (ret_of rfl))
    | some c' =>
      refine (seq_of ((if_f (S' := S) (by simp only [ev_var, ev_con, ev_bin, ev_un, ev_anil, ev_acons, ev_call, ev_tup, ev_lst, ev_not, ev_and, ev_or, ev_if, ev_cbl, ev_btrue, ev_cand, ev_cor, ev_cnot, ev_sli, ev_onone, ev_osome, ev_chain, ev_meth, ev_get2, ev_newK, ev_newT, ev_own, ev_nil, ev_seq, ev_expr, ev_set, ev_ret, ev_retN, ev_cif, ev_brk, ev_ct, ev_asg, ev_put, ev_aug, ev_for, ev_comp, ev_newL, ev_iseq, ev_irange, ev_ienum, ev_yes, Out.bind_ok, Out.bindN_ok, bindS_ok, Tg.set, Tg.sets, List.getElem?_cons_zero, List.getElem?_cons_succ, List.set_cons_zero, List.set_cons_succ, wipeE, List.length_cons, List.length_nil, Nat.reduceAdd, Nat.reduceLeDiff, Nat.reduceEqDiff, ↓reduceIte, Bool.false_eq_true, decide_eq_true_eq, add_int, sub_int, lt_int, gt_int, le_int, ge_int, neg_int, and_int, or_int, xor_int, max2_int, min2_int, mod_pos, fdiv_sm, mul_sm, mul_smr, Int.reduceLT, Int.reduceNeg, int_bl, int_int, sli_tup, isD_hi, Option.isNone_some])).trans rfl)).trans ?_
      refine ret_of ?_
      have l1 : ((cs.map ci).take a).length + ([hiD (some c')] : List Dv).length ≤ sizeLine := sline _ (by rw [List.length_take, List.length_map]; simp only [List.length_cons, List.length_nil]; omega)
      have l2 : ((cs.map ci).take a ++ [hiD (some c')]).length + ((cs.map ci).drop (a + 1)).length ≤ sizeLine := sline _ (by rw [List.length_append, List.length_take, List.length_drop, List.length_map]; simp only [List.length_cons, List.length_nil]; omega)
      have ec : ((a : Int) + 1) = ((a + 1 : Nat) : Int) := by omega
      have es : (cs.map ci).take a ++ [hiD (some c')] ++ (cs.map ci).drop (a + 1) = (cs.set a c').map ci := by
        rw [List.set_eq_take_append_cons_drop, if_pos (by omega), List.map_append, List.map_cons, List.map_take, List.map_drop, List.append_assoc]; rfl
      simp only [ev_var, ev_con, ev_bin, ev_un, ev_anil, ev_acons, ev_call, ev_tup, ev_lst, ev_not, ev_and, ev_or, ev_if, ev_cbl, ev_btrue, ev_cand, ev_cor, ev_cnot, ev_sli, ev_onone, ev_osome, ev_chain, ev_meth, ev_get2, ev_newK, ev_newT, ev_own, ev_nil, ev_seq, ev_expr, ev_set, ev_ret, ev_retN, ev_cif, ev_brk, ev_ct, ev_asg, ev_put, ev_aug, ev_for, ev_comp, ev_newL, ev_iseq, ev_irange, ev_ienum, ev_yes, Out.bind_ok, Out.bindN_ok, bindS_ok, Tg.set, Tg.sets, List.getElem?_cons_zero, List.getElem?_cons_succ, List.set_cons_zero, List.set_cons_succ, wipeE, List.length_cons, List.length_nil, Nat.reduceAdd, Nat.reduceLeDiff, Nat.reduceEqDiff, ↓reduceIte, Bool.false_eq_true, decide_eq_true_eq, add_int, sub_int, lt_int, gt_int, le_int, ge_int, neg_int, and_int, or_int, xor_int, max2_int, min2_int, mod_pos, fdiv_sm, mul_sm, mul_smr, Int.reduceLT, Int.reduceNeg, int_bl, int_int, sli_tup, cut_to, sline 1 (by omega), add_tup l1, ec, cut_from, add_tup l2, es, csD, Option.map_some]
  have est : stepAt row its cs a = if row = true ∧ (cs.drop (a + 1)).any (fun c => decide (0 < c)) = true then none else (room t c).map fun c' => cs.set a c' := by
    unfold stepAt; rw [ht, hc]
  have e3 : idxD (ruleD kd rn row its) (.int 2) S = .ok (.str (wd row)) S := idx_t2
  rw [est]
  cases row with
  | false =>
    rw [if_neg (by simp)]
    exact (seq_of ((if_f (S' := S) (by simp only [ev_var, ev_con, ev_bin, ev_un, ev_anil, ev_acons, ev_call, ev_tup, ev_lst, ev_not, ev_and, ev_or, ev_if, ev_cbl, ev_btrue, ev_cand, ev_cor, ev_cnot, ev_sli, ev_onone, ev_osome, ev_chain, ev_meth, ev_get2, ev_newK, ev_newT, ev_own, ev_nil, ev_seq, ev_expr, ev_set, ev_ret, ev_retN, ev_cif, ev_brk, ev_ct, ev_asg, ev_put, ev_aug, ev_for, ev_comp, ev_newL, ev_iseq, ev_irange, ev_ienum, ev_yes, Out.bind_ok, Out.bindN_ok, bindS_ok, Tg.set, Tg.sets, List.getElem?_cons_zero, List.getElem?_cons_succ, List.set_cons_zero, List.set_cons_succ, wipeE, List.length_cons, List.length_nil, Nat.reduceAdd, Nat.reduceLeDiff, Nat.reduceEqDiff, ↓reduceIte, Bool.false_eq_true, decide_eq_true_eq, add_int, sub_int, lt_int, gt_int, le_int, ge_int, neg_int, and_int, or_int, xor_int, max2_int, min2_int, mod_pos, fdiv_sm, mul_sm, mul_smr, Int.reduceLT, Int.reduceNeg, int_bl, int_int, sli_tup, e3, eq_wd])).trans rfl)).trans (fin none)
  | true =>
    have eif : (cIf (cBl (eBin eqD (eBin idxD (eVar 0) (eCon (.int 2))) (eCon (.str "row")))) (cFor (iSeq (eVar 3)) (.nm 5) (b_one_more_1 (F (k + 1)))) (cNil)) [some (ruleD kd rn true its), some (.tup (cs.map ci)), some (.int a), some (.ref lo), none, none] S = loop (Ck.ls lo (rangeL ((a : Int) + 1) its.length)).ok (.nm 5) (b_one_more_1 (F (k + 1))) (rangeL ((a : Int) + 1) its.length) [some (ruleD kd rn true its), some (.tup (cs.map ci)), some (.int a), some (.ref lo), none, none] S :=
      (if_t (S' := S) (by simp only [ev_var, ev_con, ev_bin, ev_un, ev_anil, ev_acons, ev_call, ev_tup, ev_lst, ev_not, ev_and, ev_or, ev_if, ev_cbl, ev_btrue, ev_cand, ev_cor, ev_cnot, ev_sli, ev_onone, ev_osome, ev_chain, ev_meth, ev_get2, ev_newK, ev_newT, ev_own, ev_nil, ev_seq, ev_expr, ev_set, ev_ret, ev_retN, ev_cif, ev_brk, ev_ct, ev_asg, ev_put, ev_aug, ev_for, ev_comp, ev_newL, ev_iseq, ev_irange, ev_ienum, ev_yes, Out.bind_ok, Out.bindN_ok, bindS_ok, Tg.set, Tg.sets, List.getElem?_cons_zero, List.getElem?_cons_succ, List.set_cons_zero, List.set_cons_succ, wipeE, List.length_cons, List.length_nil, Nat.reduceAdd, Nat.reduceLeDiff, Nat.reduceEqDiff, ↓reduceIte, Bool.false_eq_true, decide_eq_true_eq, add_int, sub_int, lt_int, gt_int, le_int, ge_int, neg_int, and_int, or_int, xor_int, max2_int, min2_int, mod_pos, fdiv_sm, mul_sm, mul_smr, Int.reduceLT, Int.reduceNeg, int_bl, int_int, sli_tup, e3, eq_wd])).trans (for_of (w := (rangeL ((a : Int) + 1) its.length, .ls lo (rangeL ((a : Int) + 1) its.length))) (by simp only [ev_var, ev_con, ev_bin, ev_un, ev_anil, ev_acons, ev_call, ev_tup, ev_lst, ev_not, ev_and, ev_or, ev_if, ev_cbl, ev_btrue, ev_cand, ev_cor, ev_cnot, ev_sli, ev_onone, ev_osome, ev_chain, ev_meth, ev_get2, ev_newK, ev_newT, ev_own, ev_nil, ev_seq, ev_expr, ev_set, ev_ret, ev_retN, ev_cif, ev_brk, ev_ct, ev_asg, ev_put, ev_aug, ev_for, ev_comp, ev_newL, ev_iseq, ev_irange, ev_ienum, ev_yes, Out.bind_ok, Out.bindN_ok, bindS_ok, Tg.set, Tg.sets, List.getElem?_cons_zero, List.getElem?_cons_succ, List.set_cons_zero, List.set_cons_succ, wipeE, List.length_cons, List.length_nil, Nat.reduceAdd, Nat.reduceLeDiff, Nat.reduceEqDiff, ↓reduceIte, Bool.false_eq_true, decide_eq_true_eq, add_int, sub_int, lt_int, gt_int, le_int, ge_int, neg_int, and_int, or_int, xor_int, max2_int, min2_int, mod_pos, fdiv_sm, mul_sm, mul_smr, Int.reduceLT, Int.reduceNeg, int_bl, int_int, sli_tup, walk_ref ho]))
    refine later (fun o => (cIf (cBl (eBin eqD (eBin idxD (eVar 0) (eCon (.int 2))) (eCon (.str "row")))) (cFor (iSeq (eVar 3)) (.nm 5) (b_one_more_1 (F (k + 1)))) (cNil)) [some (ruleD kd rn true its), some (.tup (cs.map ci)), some (.int a), some (.ref lo), none, none] S = o → _) (fun z e => ?_) (fun z v e => ?_) eif
    · rw [z, if_pos ⟨rfl, rfl⟩]
      exact seq_rt e
    · rw [z, if_neg (by simp)]
      exact (seq_of e).trans (fin v)
theorem none_run {k : Nat} {kd rn : Str} {row : Bool} {its : List It} {S : Sto} (h3 : its.length ≤ 3) : ∃ S', F (k + 1) .none_yet [ruleD kd rn row its] S = .ok (.tup ((caps its []).map ci)) S' ∧ Gr S S' := by
  have e0 : (caps its []).map ci = its.map fun _ => (.int 0 : Dv) := by
    unfold caps
    rw [List.map_map]
    refine List.map_congr_left fun t _ => ?_
    show ci (cap t (List.count t.nm [])) = _
    rw [List.count_nil]
    unfold cap ci
    split <;> simp
  obtain ⟨acc, S', e, g, ha⟩ := comp_gen (ck := Ck.tt.ok) (t := .nm 1) (c := cYes) (y := y_none_yet_1 (F k)) (acc := []) (S := S) (fun i acc S' => S' = S ∧ acc = List.replicate i (.int 0 : Dv)) (its.map It.d) [some (ruleD kd rn row its), none]
    (fun i d acc S' hd ⟨hS, ha⟩ => by
      subst hS
      have hi := (List.getElem?_eq_some_iff.mp hd).1
      rw [List.length_map] at hi
      refine ⟨trivial, _, rfl, true, S', rfl, fun _ => ⟨.int 0, S', rfl, ?_, rfl, by rw [ha, List.replicate_succ']⟩, fun z => nomatch z⟩
      rw [ha, List.length_replicate]; show _ < 2 ^ 24; omega) (fun _ _ _ => trivial) ⟨rfl, rfl⟩
  subst g
  rw [List.length_map] at ha
  have e2 : idxD (ruleD kd rn row its) (.int 3) S' = .ok (.tup (its.map It.d)) S' := idx_t3
  refine ⟨S' ++ [.lst acc], ?_, gr_app _ _⟩
  rw [F_none_yet, e0]
  refine runF_rt (ρ := [some (ruleD kd rn row its), none]) rfl rfl ?_
  unfold c_none_yet
  refine (ret_of (d := .tup acc) (S' := S' ++ [.lst acc]) (by simp only [ev_var, ev_con, ev_bin, ev_un, ev_anil, ev_acons, ev_call, ev_tup, ev_lst, ev_not, ev_and, ev_or, ev_if, ev_cbl, ev_btrue, ev_cand, ev_cor, ev_cnot, ev_sli, ev_onone, ev_osome, ev_chain, ev_meth, ev_get2, ev_newK, ev_newT, ev_own, ev_nil, ev_seq, ev_expr, ev_set, ev_ret, ev_retN, ev_cif, ev_brk, ev_ct, ev_asg, ev_put, ev_aug, ev_for, ev_comp, ev_newL, ev_iseq, ev_irange, ev_ienum, ev_yes, Out.bind_ok, Out.bindN_ok, bindS_ok, Tg.set, Tg.sets, List.getElem?_cons_zero, List.getElem?_cons_succ, List.set_cons_zero, List.set_cons_succ, wipeE, List.length_cons, List.length_nil, Nat.reduceAdd, Nat.reduceLeDiff, Nat.reduceEqDiff, ↓reduceIte, Bool.false_eq_true, decide_eq_true_eq, add_int, sub_int, lt_int, gt_int, le_int, ge_int, neg_int, and_int, or_int, xor_int, max2_int, min2_int, mod_pos, fdiv_sm, mul_sm, mul_smr, Int.reduceLT, Int.reduceNeg, int_bl, int_int, sli_tup, e2, walk_tup, e, tuple_ref (at_new _ _)])).trans ?_
  rw [ha, List.map_const']
theorem enough_run {k : Nat} {kd rn : Str} {row : Bool} {its : List It} {cs : List Nat} {S : Sto} (hl : cs.length = its.length) : F (k + 1) .enough [ruleD kd rn row its, .tup (cs.map ci)] S = .ok (.bl (enoughN its cs)) S := by
  rw [F_enough]
  refine runF_rt (ρ := [some (ruleD kd rn row its), some (.tup (cs.map ci)), none, none]) rfl rfl ?_
  have e2 : idxD (ruleD kd rn row its) (.int 3) S = .ok (.tup (its.map It.d)) S := idx_t3
  have ez : (iZip (aCons (eBin idxD (eVar 0) (eCon (.int 3))) (aCons (eVar 1) (aNil)))) [some (ruleD kd rn row its), some (.tup (cs.map ci)), none, none] S = .ok (zipL (its.map It.d) (cs.map ci), .and .tt .tt) S := by
    simp only [iZip, ev_var, ev_con, ev_bin, ev_un, ev_anil, ev_acons, ev_call, ev_tup, ev_lst, ev_not, ev_and, ev_or, ev_if, ev_cbl, ev_btrue, ev_cand, ev_cor, ev_cnot, ev_sli, ev_onone, ev_osome, ev_chain, ev_meth, ev_get2, ev_newK, ev_newT, ev_own, ev_nil, ev_seq, ev_expr, ev_set, ev_ret, ev_retN, ev_cif, ev_brk, ev_ct, ev_asg, ev_put, ev_aug, ev_for, ev_comp, ev_newL, ev_iseq, ev_irange, ev_ienum, ev_yes, Out.bind_ok, Out.bindN_ok, bindS_ok, Tg.set, Tg.sets, List.getElem?_cons_zero, List.getElem?_cons_succ, List.set_cons_zero, List.set_cons_succ, wipeE, List.length_cons, List.length_nil, Nat.reduceAdd, Nat.reduceLeDiff, Nat.reduceEqDiff, ↓reduceIte, Bool.false_eq_true, decide_eq_true_eq, add_int, sub_int, lt_int, gt_int, le_int, ge_int, neg_int, and_int, or_int, xor_int, max2_int, min2_int, mod_pos, fdiv_sm, mul_sm, mul_smr, Int.reduceLT, Int.reduceNeg, int_bl, int_int, sli_tup, e2]; rfl
  unfold c_enough
  have key : ∀ (D : OutS → Prop), (enoughN its cs = false → D (.fl (.rt (.bl false)) S)) → (enoughN its cs = true → ∀ v w, D (.fl (.nx [some (ruleD kd rn row its), some (.tup (cs.map ci)), v, w]) S)) → D (loop (Ck.and .tt .tt).ok (.tp [.nm 2, .nm 3]) (b_enough_1 (F k)) (zipL (its.map It.d) (cs.map ci)) [some (ruleD kd rn row its), some (.tup (cs.map ci)), none, none] S) := fun D d1 d2 => by
    refine loop_gen (ck := (Ck.and .tt .tt).ok) (t := .tp [.nm 2, .nm 3]) (b := b_enough_1 (F k)) (fun i ρ S' => S' = S ∧ (∃ v w, ρ = [some (ruleD kd rn row its), some (.tup (cs.map ci)), v, w]) ∧ ∀ j, j < i → ∀ t c, its[j]? = some t → cs[j]? = some c → t.low ≤ c) D _ 0 ?_ ?_ _ _ ⟨rfl, ⟨none, none, rfl⟩, fun j hj => by omega⟩
    · rintro i v ρ S' hv ⟨rfl, ⟨u, w, rfl⟩, hn⟩
      obtain ⟨x, y, hx, hy, rfl⟩ := zipL_get _ _ i v hv
      rw [List.getElem?_map, Option.map_eq_some_iff] at hx hy
      obtain ⟨t, ht, rfl⟩ := hx
      obtain ⟨c, hc, rfl⟩ := hy
      refine ⟨⟨trivial, trivial⟩, _, rfl, ?_⟩
      have e1 : idxD t.d (.int 1) S' = .ok (.int t.low) S' := idx_t1
      by_cases q : c < t.low
      · refine .inr (.inr ⟨.bl false, S', ?_, d1 ?_⟩)
        · have q' : (c : Int) < (t.low : Int) := by omega
          unfold b_enough_1
          exact (if_t (S' := S') (by simp only [ev_var, ev_con, ev_bin, ev_un, ev_anil, ev_acons, ev_call, ev_tup, ev_lst, ev_not, ev_and, ev_or, ev_if, ev_cbl, ev_btrue, ev_cand, ev_cor, ev_cnot, ev_sli, ev_onone, ev_osome, ev_chain, ev_meth, ev_get2, ev_newK, ev_newT, ev_own, ev_nil, ev_seq, ev_expr, ev_set, ev_ret, ev_retN, ev_cif, ev_brk, ev_ct, ev_asg, ev_put, ev_aug, ev_for, ev_comp, ev_newL, ev_iseq, ev_irange, ev_ienum, ev_yes, Out.bind_ok, Out.bindN_ok, bindS_ok, Tg.set, Tg.sets, List.getElem?_cons_zero, List.getElem?_cons_succ, List.set_cons_zero, List.set_cons_succ, wipeE, List.length_cons, List.length_nil, Nat.reduceAdd, Nat.reduceLeDiff, Nat.reduceEqDiff, ↓reduceIte, Bool.false_eq_true, decide_eq_true_eq, add_int, sub_int, lt_int, gt_int, le_int, ge_int, neg_int, and_int, or_int, xor_int, max2_int, min2_int, mod_pos, fdiv_sm, mul_sm, mul_smr, Int.reduceLT, Int.reduceNeg, int_bl, int_int, sli_tup, e1, ci, q', decide_true])).trans (ret_of rfl)
        · rw [Bool.eq_false_iff]
          intro z
          have hm : (t, c) ∈ its.zip cs := List.mem_iff_getElem?.mpr ⟨i, by rw [List.getElem?_zip_eq_some]; exact ⟨ht, hc⟩⟩
          have := of_decide_eq_true (List.all_eq_true.mp z _ hm)
          dsimp only at this
          omega
      · refine .inl ⟨[some (ruleD kd rn row its), some (.tup (cs.map ci)), some t.d, some (ci c)], S', .inl ?_, rfl, ⟨_, _, rfl⟩, fun j hj t' c' ht' hc' => ?_⟩
        · have q' : ¬ (c : Int) < (t.low : Int) := by omega
          unfold b_enough_1
          exact (if_f (S' := S') (by simp only [ev_var, ev_con, ev_bin, ev_un, ev_anil, ev_acons, ev_call, ev_tup, ev_lst, ev_not, ev_and, ev_or, ev_if, ev_cbl, ev_btrue, ev_cand, ev_cor, ev_cnot, ev_sli, ev_onone, ev_osome, ev_chain, ev_meth, ev_get2, ev_newK, ev_newT, ev_own, ev_nil, ev_seq, ev_expr, ev_set, ev_ret, ev_retN, ev_cif, ev_brk, ev_ct, ev_asg, ev_put, ev_aug, ev_for, ev_comp, ev_newL, ev_iseq, ev_irange, ev_ienum, ev_yes, Out.bind_ok, Out.bindN_ok, bindS_ok, Tg.set, Tg.sets, List.getElem?_cons_zero, List.getElem?_cons_succ, List.set_cons_zero, List.set_cons_succ, wipeE, List.length_cons, List.length_nil, Nat.reduceAdd, Nat.reduceLeDiff, Nat.reduceEqDiff, ↓reduceIte, Bool.false_eq_true, decide_eq_true_eq, add_int, sub_int, lt_int, gt_int, le_int, ge_int, neg_int, and_int, or_int, xor_int, max2_int, min2_int, mod_pos, fdiv_sm, mul_sm, mul_smr, Int.reduceLT, Int.reduceNeg, int_bl, int_int, sli_tup, e1, ci, q', decide_false])).trans rfl
        · rcases Nat.lt_or_ge j i with z | z
          · exact hn j (by omega) t' c' ht' hc'
          · have : j = i := by omega
            subst this
            rw [ht] at ht'; rw [hc] at hc'
            cases ht'; cases hc'; omega
    · rintro ρ S' ⟨rfl, ⟨u, w, rfl⟩, hn⟩
      refine ⟨⟨trivial, trivial⟩, d2 ?_ u w⟩
      refine List.all_eq_true.mpr fun p hp => decide_eq_true ?_
      obtain ⟨j, hj⟩ := List.mem_iff_getElem?.mp hp
      obtain ⟨t, c⟩ := p
      rw [List.getElem?_zip_eq_some] at hj
      refine hn j ?_ t c hj.1 hj.2
      have := (List.getElem?_eq_some_iff.mp hj.1).1
      rw [Nat.zero_add, zipL_len, List.length_map, List.length_map]; omega
  have ef := for_of (r := iZip (aCons (eBin idxD (eVar 0) (eCon (.int 3))) (aCons (eVar 1) (aNil)))) (t := .tp [.nm 2, .nm 3]) (b := b_enough_1 (F k)) ez
  refine key (fun o => cFor (iZip (aCons (eBin idxD (eVar 0) (eCon (.int 3))) (aCons (eVar 1) (aNil)))) (.tp [.nm 2, .nm 3]) (b_enough_1 (F k)) [some (ruleD kd rn row its), some (.tup (cs.map ci)), none, none] S = o → _) (fun z e => ?_) (fun z v w e => ?_) ef
  · rw [z]; exact seq_rt e
  · rw [z]; exact (seq_of e).trans (ret_of rfl)

theorem enl_len : ∀ (ds : List Dv) (n : Nat), (enumL ds n).length = ds.length
  | [], _ => rfl
  | d :: ds, n => by simp [enumL, enl_len ds]
theorem itemat_run {k : Nat} {kd rn x : Str} {row : Bool} {its : List It} {S : Sto} (ok : ItOk its) (hx : Sk x) : F (k + 1) .item_at [ruleD kd rn row its, .str x] S = .ok (hiD (if idx its x < its.length then some (idx its x) else none)) S := by
  rw [F_item_at]
  refine runF_rt (ρ := [some (ruleD kd rn row its), some (.str x), none, none]) rfl rfl ?_
  have e2 : idxD (ruleD kd rn row its) (.int 3) S = .ok (.tup (its.map It.d)) S := idx_t3
  have ez : (iEnumA (aCons (eBin idxD (eVar 0) (eCon (.int 3))) (aNil))) [some (ruleD kd rn row its), some (.str x), none, none] S = .ok (enumL (its.map It.d), .tt) S := by
    simp only [iEnumA, ev_var, ev_con, ev_bin, ev_un, ev_anil, ev_acons, ev_call, ev_tup, ev_lst, ev_not, ev_and, ev_or, ev_if, ev_cbl, ev_btrue, ev_cand, ev_cor, ev_cnot, ev_sli, ev_onone, ev_osome, ev_chain, ev_meth, ev_get2, ev_newK, ev_newT, ev_own, ev_nil, ev_seq, ev_expr, ev_set, ev_ret, ev_retN, ev_cif, ev_brk, ev_ct, ev_asg, ev_put, ev_aug, ev_for, ev_comp, ev_newL, ev_iseq, ev_irange, ev_ienum, ev_yes, Out.bind_ok, Out.bindN_ok, bindS_ok, Tg.set, Tg.sets, List.getElem?_cons_zero, List.getElem?_cons_succ, List.set_cons_zero, List.set_cons_succ, wipeE, List.length_cons, List.length_nil, Nat.reduceAdd, Nat.reduceLeDiff, Nat.reduceEqDiff, ↓reduceIte, Bool.false_eq_true, decide_eq_true_eq, add_int, sub_int, lt_int, gt_int, le_int, ge_int, neg_int, and_int, or_int, xor_int, max2_int, min2_int, mod_pos, fdiv_sm, mul_sm, mul_smr, Int.reduceLT, Int.reduceNeg, int_bl, int_int, sli_tup, e2]; rfl
  unfold c_item_at
  have key : ∀ (D : OutS → Prop), (idx its x < its.length → D (.fl (.rt (.int (idx its x : Nat))) S)) → (¬ idx its x < its.length → ∀ v w, D (.fl (.nx [some (ruleD kd rn row its), some (.str x), v, w]) S)) → D (loop Ck.tt.ok (.tp [.nm 2, .nm 3]) (b_item_at_1 (F k)) (enumL (its.map It.d)) [some (ruleD kd rn row its), some (.str x), none, none] S) := fun D d1 d2 => by
    refine loop_gen (ck := Ck.tt.ok) (t := .tp [.nm 2, .nm 3]) (b := b_item_at_1 (F k)) (fun i ρ S' => S' = S ∧ (∃ v w, ρ = [some (ruleD kd rn row its), some (.str x), v, w]) ∧ i ≤ idx its x) D _ 0 ?_ ?_ _ _ ⟨rfl, ⟨none, none, rfl⟩, Nat.zero_le _⟩
    · rintro i v ρ S' hv ⟨rfl, ⟨u, w, rfl⟩, hn⟩
      rw [enumL_get, List.getElem?_map, Option.map_map, Option.map_eq_some_iff] at hv
      obtain ⟨t, ht, rfl⟩ := hv
      refine ⟨trivial, _, rfl, ?_⟩
      have htm := List.mem_of_getElem? ht
      have e1 : idxD t.d (.int 0) S' = .ok (.str t.nm) S' := idx_t0
      have hi := (List.getElem?_eq_some_iff.mp ht).1
      by_cases q : t.nm = x
      · have hk := nm_idx ok.nd ht
        rw [q] at hk
        refine .inr (.inr ⟨_, S', ?_, d1 (by omega)⟩)
        unfold b_item_at_1
        have eqT : eqD (.str t.nm) (.str x) S' = .ok (.bl true) S' := (eq_str (ok.sk t htm) hx).trans (by rw [decide_eq_true q])
        refine (if_t (S' := S') (by simp only [ev_var, ev_con, ev_bin, ev_un, ev_anil, ev_acons, ev_call, ev_tup, ev_lst, ev_not, ev_and, ev_or, ev_if, ev_cbl, ev_btrue, ev_cand, ev_cor, ev_cnot, ev_sli, ev_onone, ev_osome, ev_chain, ev_meth, ev_get2, ev_newK, ev_newT, ev_own, ev_nil, ev_seq, ev_expr, ev_set, ev_ret, ev_retN, ev_cif, ev_brk, ev_ct, ev_asg, ev_put, ev_aug, ev_for, ev_comp, ev_newL, ev_iseq, ev_irange, ev_ienum, ev_yes, Out.bind_ok, Out.bindN_ok, bindS_ok, Tg.set, Tg.sets, List.getElem?_cons_zero, List.getElem?_cons_succ, List.set_cons_zero, List.set_cons_succ, wipeE, List.length_cons, List.length_nil, Nat.reduceAdd, Nat.reduceLeDiff, Nat.reduceEqDiff, ↓reduceIte, Bool.false_eq_true, decide_eq_true_eq, add_int, sub_int, lt_int, gt_int, le_int, ge_int, neg_int, and_int, or_int, xor_int, max2_int, min2_int, mod_pos, fdiv_sm, mul_sm, mul_smr, Int.reduceLT, Int.reduceNeg, int_bl, int_int, sli_tup, e1, eqT])).trans (ret_of ?_)
        simp only [ev_var, ev_con, ev_bin, ev_un, ev_anil, ev_acons, ev_call, ev_tup, ev_lst, ev_not, ev_and, ev_or, ev_if, ev_cbl, ev_btrue, ev_cand, ev_cor, ev_cnot, ev_sli, ev_onone, ev_osome, ev_chain, ev_meth, ev_get2, ev_newK, ev_newT, ev_own, ev_nil, ev_seq, ev_expr, ev_set, ev_ret, ev_retN, ev_cif, ev_brk, ev_ct, ev_asg, ev_put, ev_aug, ev_for, ev_comp, ev_newL, ev_iseq, ev_irange, ev_ienum, ev_yes, Out.bind_ok, Out.bindN_ok, bindS_ok, Tg.set, Tg.sets, List.getElem?_cons_zero, List.getElem?_cons_succ, List.set_cons_zero, List.set_cons_succ, wipeE, List.length_cons, List.length_nil, Nat.reduceAdd, Nat.reduceLeDiff, Nat.reduceEqDiff, ↓reduceIte, Bool.false_eq_true, decide_eq_true_eq, add_int, sub_int, lt_int, gt_int, le_int, ge_int, neg_int, and_int, or_int, xor_int, max2_int, min2_int, mod_pos, fdiv_sm, mul_sm, mul_smr, Int.reduceLT, Int.reduceNeg, int_bl, int_int, sli_tup, Nat.zero_add, hk]
      · refine .inl ⟨[some (ruleD kd rn row its), some (.str x), some (.int ((0 + i : Nat) : Int)), some t.d], S', .inl ?_, rfl, ⟨_, _, rfl⟩, ?_⟩
        · unfold b_item_at_1
          exact (if_f (S' := S') (by simp only [ev_var, ev_con, ev_bin, ev_un, ev_anil, ev_acons, ev_call, ev_tup, ev_lst, ev_not, ev_and, ev_or, ev_if, ev_cbl, ev_btrue, ev_cand, ev_cor, ev_cnot, ev_sli, ev_onone, ev_osome, ev_chain, ev_meth, ev_get2, ev_newK, ev_newT, ev_own, ev_nil, ev_seq, ev_expr, ev_set, ev_ret, ev_retN, ev_cif, ev_brk, ev_ct, ev_asg, ev_put, ev_aug, ev_for, ev_comp, ev_newL, ev_iseq, ev_irange, ev_ienum, ev_yes, Out.bind_ok, Out.bindN_ok, bindS_ok, Tg.set, Tg.sets, List.getElem?_cons_zero, List.getElem?_cons_succ, List.set_cons_zero, List.set_cons_succ, wipeE, List.length_cons, List.length_nil, Nat.reduceAdd, Nat.reduceLeDiff, Nat.reduceEqDiff, ↓reduceIte, Bool.false_eq_true, decide_eq_true_eq, add_int, sub_int, lt_int, gt_int, le_int, ge_int, neg_int, and_int, or_int, xor_int, max2_int, min2_int, mod_pos, fdiv_sm, mul_sm, mul_smr, Int.reduceLT, Int.reduceNeg, int_bl, int_int, sli_tup, e1, eq_str (ok.sk t htm) hx, q, decide_false])).trans rfl
        · refine Nat.lt_of_le_of_ne hn fun e => q ?_
          rw [Nat.zero_add] at e
          exact idx_nm (by rw [← e]; exact ht)
    · rintro ρ S' ⟨rfl, ⟨u, w, rfl⟩, hn⟩
      rw [Nat.zero_add, enl_len, List.length_map] at hn
      exact ⟨trivial, d2 (by omega) u w⟩
  have ef := for_of (r := iEnumA (aCons (eBin idxD (eVar 0) (eCon (.int 3))) (aNil))) (t := .tp [.nm 2, .nm 3]) (b := b_item_at_1 (F k)) ez
  refine key (fun o => cFor (iEnumA (aCons (eBin idxD (eVar 0) (eCon (.int 3))) (aNil))) (.tp [.nm 2, .nm 3]) (b_item_at_1 (F k)) [some (ruleD kd rn row its), some (.str x), none, none] S = o → _) (fun z e => ?_) (fun z v w e => ?_) ef
  · rw [if_pos z]; exact seq_rt e
  · rw [if_neg z]; exact (seq_of e).trans (ret_of rfl)
theorem stepAt_len {row : Bool} {its : List It} {cs cs' : List Nat} {a : Nat} (h : stepAt row its cs a = some cs') : cs'.length = cs.length := by
  unfold stepAt at h
  split at h
  · cases h
  · split at h
    · rw [Option.map_eq_some_iff] at h
      obtain ⟨c, _, rfl⟩ := h
      simp
    · cases h
theorem step_stepAt (row : Bool) (its : List It) (cs : List Nat) (x : Str) : step row its cs x = if idx its x < its.length then stepAt row its cs (idx its x) else none := rfl
theorem lets_run {k ln : Nat} {kd rn : Str} {row : Bool} {its : List It} {names : List Str} {S : Sto} (ok : ItOk its) (hn : S[ln]? = some (.lst (names.map .str))) (hs : ∀ x ∈ names, Sk x) : ∃ S', F (k + 3) .lets [ruleD kd rn row its, .ref ln] S = .ok (.bl (letsN row its names)) S' ∧ Gr S S' := by
  rw [F_lets]
  obtain ⟨S1, e1, g1⟩ := none_run (k := k + 1) (kd := kd) (rn := rn) (row := row) (S := S) ok.len
  have key : ∀ (D : OutS → Prop), (runN row its (caps its []) names = none → ∀ S', Gr S1 S' → D (.fl (.rt (.bl false)) S')) → (∀ cs S' v w, runN row its (caps its []) names = some cs → cs.length = its.length → Gr S1 S' → D (.fl (.nx [some (ruleD kd rn row its), some (.ref ln), some (.tup (cs.map ci)), v, w]) S')) → D (loop (Ck.ls ln (names.map .str)).ok (.nm 3) (b_lets_1 (F (k + 2))) (names.map .str) [some (ruleD kd rn row its), some (.ref ln), some (.tup ((caps its []).map ci)), none, none] S1) := fun D d1 d2 => by
    refine loop_gen (ck := (Ck.ls ln (names.map .str)).ok) (t := .nm 3) (b := b_lets_1 (F (k + 2))) (fun i ρ S' => Gr S1 S' ∧ ∃ cs v w, ρ = [some (ruleD kd rn row its), some (.ref ln), some (.tup (cs.map ci)), v, w] ∧ cs.length = its.length ∧ runN row its (caps its []) names = runN row its cs (names.drop i)) D _ 0 ?_ ?_ _ _ ⟨.refl _, _, none, none, rfl, by simp [caps], rfl⟩
    · rintro i v ρ S2 hv ⟨g, cs, u, w, rfl, hl, hr⟩
      rw [List.getElem?_map, Option.map_eq_some_iff] at hv
      obtain ⟨x, hx, rfl⟩ := hv
      have hi := (List.getElem?_eq_some_iff.mp hx).1
      have hsx := hs x (List.mem_of_getElem? hx)
      have hd : names.drop i = x :: names.drop (i + 1) := by rw [List.drop_eq_getElem_cons hi]; rw [List.getElem?_eq_getElem hi] at hx; cases hx; rfl
      refine ⟨g.at (g1.at hn), _, rfl, ?_⟩
      rw [Nat.zero_add, hd, runN, step_stepAt] at hr
      have ei := itemat_run (k := k + 1) (kd := kd) (rn := rn) (row := row) (S := S2) ok hsx
      unfold b_lets_1
      by_cases q : idx its x < its.length
      · rw [if_pos q] at hr ei
        have gl := gr_app S2 [.lst (rangeL ((idx its x : Nat) + 1) its.length)]
        have em := more_run (k := k) (kd := kd) (rn := rn) (row := row) hl ok.len q (at_new S2 (.lst (rangeL ((idx its x : Nat) + 1) its.length)))
        have elr : lrD (.int ((idx its x : Nat) + 1)) (.int (its.length : Nat)) S2 = newL (rangeL ((idx its x : Nat) + 1) its.length) S2 := lr_int (by omega) (by have := ok.len; omega) (by omega) (by have := ok.len; omega)
        have el : ((cs.map ci).length : Int) = (its.length : Int) := by rw [List.length_map, hl]
        have hd2 : ∀ {o : OutS} {b : RC}, b [some (ruleD kd rn row its), some (.ref ln), some (csD (stepAt row its cs (idx its x))), some (.str x), some (.int (idx its x : Nat))] (S2 ++ [.lst (rangeL ((idx its x : Nat) + 1) its.length)]) = o →
            cSeq (cSet 4 (eOwn 2 (F (k + 2) .item_at) (aCons (eVar 0) (aCons (eVar 3) (aNil))))) (cSeq (cIf (cBl (eBin isD (eVar 4) (eCon .non))) (cRet (eCon (.bl false))) (cNil)) (cSeq (cSet 2 (eOwn 4 (F (k + 2) .one_more) (aCons (eVar 0) (aCons (eVar 2) (aCons (eVar 4) (aCons (eBin lrD (eBin addD (eVar 4) (eCon (.int 1))) (eCall lenD (aCons (eVar 2) (aNil)))) (aNil))))))) b)) [some (ruleD kd rn row its), some (.ref ln), some (.tup (cs.map ci)), some (.str x), w] S2 = o := fun {o b} hb => by
          refine (seq_of (set_of (d := .int (idx its x : Nat)) (S' := S2) (by simp only [ev_var, ev_con, ev_bin, ev_un, ev_anil, ev_acons, ev_call, ev_tup, ev_lst, ev_not, ev_and, ev_or, ev_if, ev_cbl, ev_btrue, ev_cand, ev_cor, ev_cnot, ev_sli, ev_onone, ev_osome, ev_chain, ev_meth, ev_get2, ev_newK, ev_newT, ev_own, ev_nil, ev_seq, ev_expr, ev_set, ev_ret, ev_retN, ev_cif, ev_brk, ev_ct, ev_asg, ev_put, ev_aug, ev_for, ev_comp, ev_newL, ev_iseq, ev_irange, ev_ienum, ev_yes, Out.bind_ok, Out.bindN_ok, bindS_ok, Tg.set, Tg.sets, List.getElem?_cons_zero, List.getElem?_cons_succ, List.set_cons_zero, List.set_cons_succ, wipeE, List.length_cons, List.length_nil, Nat.reduceAdd, Nat.reduceLeDiff, Nat.reduceEqDiff, ↓reduceIte, Bool.false_eq_true, decide_eq_true_eq, add_int, sub_int, lt_int, gt_int, le_int, ge_int, neg_int, and_int, or_int, xor_int, max2_int, min2_int, mod_pos, fdiv_sm, mul_sm, mul_smr, Int.reduceLT, Int.reduceNeg, int_bl, int_int, sli_tup, ei]; rfl))).trans ?_
          refine (seq_of ((if_f (S' := S2) (by simp only [ev_var, ev_con, ev_bin, ev_un, ev_anil, ev_acons, ev_call, ev_tup, ev_lst, ev_not, ev_and, ev_or, ev_if, ev_cbl, ev_btrue, ev_cand, ev_cor, ev_cnot, ev_sli, ev_onone, ev_osome, ev_chain, ev_meth, ev_get2, ev_newK, ev_newT, ev_own, ev_nil, ev_seq, ev_expr, ev_set, ev_ret, ev_retN, ev_cif, ev_brk, ev_ct, ev_asg, ev_put, ev_aug, ev_for, ev_comp, ev_newL, ev_iseq, ev_irange, ev_ienum, ev_yes, Out.bind_ok, Out.bindN_ok, bindS_ok, Tg.set, Tg.sets, List.getElem?_cons_zero, List.getElem?_cons_succ, List.set_cons_zero, List.set_cons_succ, wipeE, List.length_cons, List.length_nil, Nat.reduceAdd, Nat.reduceLeDiff, Nat.reduceEqDiff, ↓reduceIte, Bool.false_eq_true, decide_eq_true_eq, add_int, sub_int, lt_int, gt_int, le_int, ge_int, neg_int, and_int, or_int, xor_int, max2_int, min2_int, mod_pos, fdiv_sm, mul_sm, mul_smr, Int.reduceLT, Int.reduceNeg, int_bl, int_int, sli_tup, isD, isN])).trans rfl)).trans ?_
          exact (seq_of (set_of (d := csD (stepAt row its cs (idx its x))) (S' := S2 ++ [Ob.lst (rangeL ((idx its x : Nat) + 1) its.length)]) (by simp only [ev_var, ev_con, ev_bin, ev_un, ev_anil, ev_acons, ev_call, ev_tup, ev_lst, ev_not, ev_and, ev_or, ev_if, ev_cbl, ev_btrue, ev_cand, ev_cor, ev_cnot, ev_sli, ev_onone, ev_osome, ev_chain, ev_meth, ev_get2, ev_newK, ev_newT, ev_own, ev_nil, ev_seq, ev_expr, ev_set, ev_ret, ev_retN, ev_cif, ev_brk, ev_ct, ev_asg, ev_put, ev_aug, ev_for, ev_comp, ev_newL, ev_iseq, ev_irange, ev_ienum, ev_yes, Out.bind_ok, Out.bindN_ok, bindS_ok, Tg.set, Tg.sets, List.getElem?_cons_zero, List.getElem?_cons_succ, List.set_cons_zero, List.set_cons_succ, wipeE, List.length_cons, List.length_nil, Nat.reduceAdd, Nat.reduceLeDiff, Nat.reduceEqDiff, ↓reduceIte, Bool.false_eq_true, decide_eq_true_eq, add_int, sub_int, lt_int, gt_int, le_int, ge_int, neg_int, and_int, or_int, xor_int, max2_int, min2_int, mod_pos, fdiv_sm, mul_sm, mul_smr, Int.reduceLT, Int.reduceNeg, int_bl, int_int, sli_tup, len_tup, el, elr, em]))).trans hb
        cases hst : stepAt row its cs (idx its x) with
        | none =>
          rw [hst] at hr hd2
          refine .inr (.inr ⟨_, _, hd2 ?_, d1 hr _ (g.trans gl)⟩)
          exact (if_t (S' := S2 ++ [Ob.lst (rangeL ((idx its x : Nat) + 1) its.length)]) (by simp only [ev_var, ev_con, ev_bin, ev_un, ev_anil, ev_acons, ev_call, ev_tup, ev_lst, ev_not, ev_and, ev_or, ev_if, ev_cbl, ev_btrue, ev_cand, ev_cor, ev_cnot, ev_sli, ev_onone, ev_osome, ev_chain, ev_meth, ev_get2, ev_newK, ev_newT, ev_own, ev_nil, ev_seq, ev_expr, ev_set, ev_ret, ev_retN, ev_cif, ev_brk, ev_ct, ev_asg, ev_put, ev_aug, ev_for, ev_comp, ev_newL, ev_iseq, ev_irange, ev_ienum, ev_yes, Out.bind_ok, Out.bindN_ok, bindS_ok, Tg.set, Tg.sets, List.getElem?_cons_zero, List.getElem?_cons_succ, List.set_cons_zero, List.set_cons_succ, wipeE, List.length_cons, List.length_nil, Nat.reduceAdd, Nat.reduceLeDiff, Nat.reduceEqDiff, ↓reduceIte, Bool.false_eq_true, decide_eq_true_eq, add_int, sub_int, lt_int, gt_int, le_int, ge_int, neg_int, and_int, or_int, xor_int, max2_int, min2_int, mod_pos, fdiv_sm, mul_sm, mul_smr, Int.reduceLT, Int.reduceNeg, int_bl, int_int, sli_tup, csD, isD, isN])).trans (ret_of rfl)
        | some cs' =>
          rw [hst] at hr hd2
          refine .inl ⟨[some (ruleD kd rn row its), some (.ref ln), some (.tup (cs'.map ci)), some (.str x), some (.int (idx its x : Nat))], _, .inl (hd2 ?_), g.trans gl, cs', _, _, rfl, by rw [stepAt_len hst, hl], by rw [Nat.zero_add]; exact hr⟩
          exact (if_f (S' := S2 ++ [Ob.lst (rangeL ((idx its x : Nat) + 1) its.length)]) (by simp only [ev_var, ev_con, ev_bin, ev_un, ev_anil, ev_acons, ev_call, ev_tup, ev_lst, ev_not, ev_and, ev_or, ev_if, ev_cbl, ev_btrue, ev_cand, ev_cor, ev_cnot, ev_sli, ev_onone, ev_osome, ev_chain, ev_meth, ev_get2, ev_newK, ev_newT, ev_own, ev_nil, ev_seq, ev_expr, ev_set, ev_ret, ev_retN, ev_cif, ev_brk, ev_ct, ev_asg, ev_put, ev_aug, ev_for, ev_comp, ev_newL, ev_iseq, ev_irange, ev_ienum, ev_yes, Out.bind_ok, Out.bindN_ok, bindS_ok, Tg.set, Tg.sets, List.getElem?_cons_zero, List.getElem?_cons_succ, List.set_cons_zero, List.set_cons_succ, wipeE, List.length_cons, List.length_nil, Nat.reduceAdd, Nat.reduceLeDiff, Nat.reduceEqDiff, ↓reduceIte, Bool.false_eq_true, decide_eq_true_eq, add_int, sub_int, lt_int, gt_int, le_int, ge_int, neg_int, and_int, or_int, xor_int, max2_int, min2_int, mod_pos, fdiv_sm, mul_sm, mul_smr, Int.reduceLT, Int.reduceNeg, int_bl, int_int, sli_tup, csD, isD, isN])).trans rfl
      · rw [if_neg q] at hr ei
        refine .inr (.inr ⟨.bl false, S2, ?_, d1 hr S2 g⟩)
        refine (seq_of (set_of (d := .non) (S' := S2) (by simp only [ev_var, ev_con, ev_bin, ev_un, ev_anil, ev_acons, ev_call, ev_tup, ev_lst, ev_not, ev_and, ev_or, ev_if, ev_cbl, ev_btrue, ev_cand, ev_cor, ev_cnot, ev_sli, ev_onone, ev_osome, ev_chain, ev_meth, ev_get2, ev_newK, ev_newT, ev_own, ev_nil, ev_seq, ev_expr, ev_set, ev_ret, ev_retN, ev_cif, ev_brk, ev_ct, ev_asg, ev_put, ev_aug, ev_for, ev_comp, ev_newL, ev_iseq, ev_irange, ev_ienum, ev_yes, Out.bind_ok, Out.bindN_ok, bindS_ok, Tg.set, Tg.sets, List.getElem?_cons_zero, List.getElem?_cons_succ, List.set_cons_zero, List.set_cons_succ, wipeE, List.length_cons, List.length_nil, Nat.reduceAdd, Nat.reduceLeDiff, Nat.reduceEqDiff, ↓reduceIte, Bool.false_eq_true, decide_eq_true_eq, add_int, sub_int, lt_int, gt_int, le_int, ge_int, neg_int, and_int, or_int, xor_int, max2_int, min2_int, mod_pos, fdiv_sm, mul_sm, mul_smr, Int.reduceLT, Int.reduceNeg, int_bl, int_int, sli_tup, ei]; rfl))).trans ?_
        exact seq_rt ((if_t (S' := S2) (by simp only [ev_var, ev_con, ev_bin, ev_un, ev_anil, ev_acons, ev_call, ev_tup, ev_lst, ev_not, ev_and, ev_or, ev_if, ev_cbl, ev_btrue, ev_cand, ev_cor, ev_cnot, ev_sli, ev_onone, ev_osome, ev_chain, ev_meth, ev_get2, ev_newK, ev_newT, ev_own, ev_nil, ev_seq, ev_expr, ev_set, ev_ret, ev_retN, ev_cif, ev_brk, ev_ct, ev_asg, ev_put, ev_aug, ev_for, ev_comp, ev_newL, ev_iseq, ev_irange, ev_ienum, ev_yes, Out.bind_ok, Out.bindN_ok, bindS_ok, Tg.set, Tg.sets, List.getElem?_cons_zero, List.getElem?_cons_succ, List.set_cons_zero, List.set_cons_succ, wipeE, List.length_cons, List.length_nil, Nat.reduceAdd, Nat.reduceLeDiff, Nat.reduceEqDiff, ↓reduceIte, Bool.false_eq_true, decide_eq_true_eq, add_int, sub_int, lt_int, gt_int, le_int, ge_int, neg_int, and_int, or_int, xor_int, max2_int, min2_int, mod_pos, fdiv_sm, mul_sm, mul_smr, Int.reduceLT, Int.reduceNeg, int_bl, int_int, sli_tup, isD, isN])).trans (ret_of rfl))
    · rintro ρ S2 ⟨g, cs, u, w, rfl, hl, hr⟩
      rw [Nat.zero_add, List.length_map, List.drop_length, runN] at hr
      exact ⟨g.at (g1.at hn), d2 cs S2 u w hr hl g⟩
  have ef := for_of (r := iSeq (eVar 1)) (t := .nm 3) (b := b_lets_1 (F (k + 2))) (ρ := [some (ruleD kd rn row its), some (.ref ln), some (.tup ((caps its []).map ci)), none, none]) (S := S1) (S' := S1) (w := (names.map .str, .ls ln (names.map .str))) (by simp only [ev_var, ev_con, ev_bin, ev_un, ev_anil, ev_acons, ev_call, ev_tup, ev_lst, ev_not, ev_and, ev_or, ev_if, ev_cbl, ev_btrue, ev_cand, ev_cor, ev_cnot, ev_sli, ev_onone, ev_osome, ev_chain, ev_meth, ev_get2, ev_newK, ev_newT, ev_own, ev_nil, ev_seq, ev_expr, ev_set, ev_ret, ev_retN, ev_cif, ev_brk, ev_ct, ev_asg, ev_put, ev_aug, ev_for, ev_comp, ev_newL, ev_iseq, ev_irange, ev_ienum, ev_yes, Out.bind_ok, Out.bindN_ok, bindS_ok, Tg.set, Tg.sets, List.getElem?_cons_zero, List.getElem?_cons_succ, List.set_cons_zero, List.set_cons_succ, wipeE, List.length_cons, List.length_nil, Nat.reduceAdd, Nat.reduceLeDiff, Nat.reduceEqDiff, ↓reduceIte, Bool.false_eq_true, decide_eq_true_eq, add_int, sub_int, lt_int, gt_int, le_int, ge_int, neg_int, and_int, or_int, xor_int, max2_int, min2_int, mod_pos, fdiv_sm, mul_sm, mul_smr, Int.reduceLT, Int.reduceNeg, int_bl, int_int, sli_tup, walk_ref (g1.at hn)])
  have pr : ∀ {o : OutS} {b : RC}, cSeq (cFor (iSeq (eVar 1)) (.nm 3) (b_lets_1 (F (k + 2)))) b [some (ruleD kd rn row its), some (.ref ln), some (.tup ((caps its []).map ci)), none, none] S1 = o → cSeq (cSet 2 (eOwn 1 (F (k + 2) .none_yet) (aCons (eVar 0) (aNil)))) (cSeq (cFor (iSeq (eVar 1)) (.nm 3) (b_lets_1 (F (k + 2)))) b) [some (ruleD kd rn row its), some (.ref ln), none, none, none] S = o := fun {o b} hb =>
    (seq_of (set_of (d := .tup ((caps its []).map ci)) (S' := S1) (by simp only [ev_var, ev_con, ev_bin, ev_un, ev_anil, ev_acons, ev_call, ev_tup, ev_lst, ev_not, ev_and, ev_or, ev_if, ev_cbl, ev_btrue, ev_cand, ev_cor, ev_cnot, ev_sli, ev_onone, ev_osome, ev_chain, ev_meth, ev_get2, ev_newK, ev_newT, ev_own, ev_nil, ev_seq, ev_expr, ev_set, ev_ret, ev_retN, ev_cif, ev_brk, ev_ct, ev_asg, ev_put, ev_aug, ev_for, ev_comp, ev_newL, ev_iseq, ev_irange, ev_ienum, ev_yes, Out.bind_ok, Out.bindN_ok, bindS_ok, Tg.set, Tg.sets, List.getElem?_cons_zero, List.getElem?_cons_succ, List.set_cons_zero, List.set_cons_succ, wipeE, List.length_cons, List.length_nil, Nat.reduceAdd, Nat.reduceLeDiff, Nat.reduceEqDiff, ↓reduceIte, Bool.false_eq_true, decide_eq_true_eq, add_int, sub_int, lt_int, gt_int, le_int, ge_int, neg_int, and_int, or_int, xor_int, max2_int, min2_int, mod_pos, fdiv_sm, mul_sm, mul_smr, Int.reduceLT, Int.reduceNeg, int_bl, int_int, sli_tup, e1]))).trans hb
  refine key (fun o => cFor (iSeq (eVar 1)) (.nm 3) (b_lets_1 (F (k + 2))) [some (ruleD kd rn row its), some (.ref ln), some (.tup ((caps its []).map ci)), none, none] S1 = o → ∃ S', runF (c_lets (F (k + 2))) 5 2 [ruleD kd rn row its, .ref ln] S = .ok (.bl (letsN row its names)) S' ∧ Gr S S') (fun z S' g e => ?_) (fun cs S' v w z hl g e => ?_) ef
  · refine ⟨S', runF_rt (ρ := [some (ruleD kd rn row its), some (.ref ln), none, none, none]) rfl rfl (pr ?_), g1.trans g⟩
    have : letsN row its names = false := by unfold letsN; rw [z]
    rw [this]
    exact seq_rt e
  · refine ⟨S', runF_rt (ρ := [some (ruleD kd rn row its), some (.ref ln), none, none, none]) rfl rfl (pr ?_), g1.trans g⟩
    have : letsN row its names = enoughN its cs := by unfold letsN; rw [z]
    rw [this]
    exact (seq_of e).trans (ret_of (by simp only [ev_var, ev_con, ev_bin, ev_un, ev_anil, ev_acons, ev_call, ev_tup, ev_lst, ev_not, ev_and, ev_or, ev_if, ev_cbl, ev_btrue, ev_cand, ev_cor, ev_cnot, ev_sli, ev_onone, ev_osome, ev_chain, ev_meth, ev_get2, ev_newK, ev_newT, ev_own, ev_nil, ev_seq, ev_expr, ev_set, ev_ret, ev_retN, ev_cif, ev_brk, ev_ct, ev_asg, ev_put, ev_aug, ev_for, ev_comp, ev_newL, ev_iseq, ev_irange, ev_ienum, ev_yes, Out.bind_ok, Out.bindN_ok, bindS_ok, Tg.set, Tg.sets, List.getElem?_cons_zero, List.getElem?_cons_succ, List.set_cons_zero, List.set_cons_succ, wipeE, List.length_cons, List.length_nil, Nat.reduceAdd, Nat.reduceLeDiff, Nat.reduceEqDiff, ↓reduceIte, Bool.false_eq_true, decide_eq_true_eq, add_int, sub_int, lt_int, gt_int, le_int, ge_int, neg_int, and_int, or_int, xor_int, max2_int, min2_int, mod_pos, fdiv_sm, mul_sm, mul_smr, Int.reduceLT, Int.reduceNeg, int_bl, int_int, sli_tup, enough_run (k := k + 1) hl]))

/-! what is due -/
theorem shp_strs : ∀ ys : List Str, (∀ y ∈ ys, Sk y) → SeqAt.shaped (.list (ys.map .str)) = true := fun ys h => by
  have H : ∀ ys : List Str, (∀ y ∈ ys, Sk y) → PyData.canLayAll0 (ys.map .str) = true ∧ PyData.depthAll (ys.map .str) = 0 := by
    intro ys
    induction ys with
    | nil => intro _; exact ⟨rfl, rfl⟩
    | cons y ys ih =>
      intro h
      obtain ⟨h1, h2⟩ := ih fun z hz => h z (by simp [hz])
      rw [List.map_cons, PyData.canLayAll0, PyData.depthAll, h1, h2, PyData.canLay0, PyData.depth]
      exact ⟨by rw [show PyData.strOk y = true from h y (by simp)]; rfl, rfl⟩
  obtain ⟨h1, h2⟩ := H ys h
  unfold SeqAt.shaped
  rw [PyData.canLay0, PyData.depth, h1, h2]; rfl
/-- bounds -/
def bOk (t : It) (n : Nat) : Bool := decide (t.low ≤ n) && decide (hiOk t n)
theorem bnd_run {t : It} {n : Nat} {S : Sto} {ρ : PL.Env} (h8 : ρ[8]? = some (some (.int n))) (h6 : ρ[6]? = some (some (.int t.low))) (h7 : ρ[7]? = some (some (hiD t.high))) :
    (cOr (cBl (eBin ltD (eVar 8) (eVar 6))) (cAnd (cBl (eBin isNotD (eVar 7) (eCon .non))) (cBl (eBin gtD (eVar 8) (eVar 7))))) ρ S = .ok (!bOk t n) S := by
  unfold bOk
  by_cases q : n < t.low
  · have q' : (n : Int) < (t.low : Int) := by omega
    have q2 : ¬ t.low ≤ n := by omega
    simp only [ev_var, ev_con, ev_bin, ev_un, ev_anil, ev_acons, ev_call, ev_tup, ev_lst, ev_not, ev_and, ev_or, ev_if, ev_cbl, ev_btrue, ev_cand, ev_cor, ev_cnot, ev_sli, ev_onone, ev_osome, ev_chain, ev_meth, ev_get2, ev_newK, ev_newT, ev_own, ev_nil, ev_seq, ev_expr, ev_set, ev_ret, ev_retN, ev_cif, ev_brk, ev_ct, ev_asg, ev_put, ev_aug, ev_for, ev_comp, ev_newL, ev_iseq, ev_irange, ev_ienum, ev_yes, Out.bind_ok, Out.bindN_ok, bindS_ok, Tg.set, Tg.sets, List.getElem?_cons_zero, List.getElem?_cons_succ, List.set_cons_zero, List.set_cons_succ, wipeE, List.length_cons, List.length_nil, Nat.reduceAdd, Nat.reduceLeDiff, Nat.reduceEqDiff, ↓reduceIte, Bool.false_eq_true, decide_eq_true_eq, add_int, sub_int, lt_int, gt_int, le_int, ge_int, neg_int, and_int, or_int, xor_int, max2_int, min2_int, mod_pos, fdiv_sm, mul_sm, mul_smr, Int.reduceLT, Int.reduceNeg, int_bl, int_int, sli_tup, h8, h6, q', q2, decide_true, decide_false, Bool.false_and, Bool.not_false]
  · have q' : ¬ (n : Int) < (t.low : Int) := by omega
    have q2 : t.low ≤ n := by omega
    cases hh : t.high with
    | none =>
      rw [hh] at h7
      have : hiOk t n := by unfold hiOk; rw [hh]; trivial
      simp only [ev_var, ev_con, ev_bin, ev_un, ev_anil, ev_acons, ev_call, ev_tup, ev_lst, ev_not, ev_and, ev_or, ev_if, ev_cbl, ev_btrue, ev_cand, ev_cor, ev_cnot, ev_sli, ev_onone, ev_osome, ev_chain, ev_meth, ev_get2, ev_newK, ev_newT, ev_own, ev_nil, ev_seq, ev_expr, ev_set, ev_ret, ev_retN, ev_cif, ev_brk, ev_ct, ev_asg, ev_put, ev_aug, ev_for, ev_comp, ev_newL, ev_iseq, ev_irange, ev_ienum, ev_yes, Out.bind_ok, Out.bindN_ok, bindS_ok, Tg.set, Tg.sets, List.getElem?_cons_zero, List.getElem?_cons_succ, List.set_cons_zero, List.set_cons_succ, wipeE, List.length_cons, List.length_nil, Nat.reduceAdd, Nat.reduceLeDiff, Nat.reduceEqDiff, ↓reduceIte, Bool.false_eq_true, decide_eq_true_eq, add_int, sub_int, lt_int, gt_int, le_int, ge_int, neg_int, and_int, or_int, xor_int, max2_int, min2_int, mod_pos, fdiv_sm, mul_sm, mul_smr, Int.reduceLT, Int.reduceNeg, int_bl, int_int, sli_tup, h8, h6, h7, hiD, isNotD, isN, q', q2, this, decide_true, decide_false, Bool.not_true, Bool.and_self]
    | some h =>
      rw [hh] at h7
      by_cases z : h < n
      · have z' : (h : Int) < (n : Int) := by omega
        have : ¬ hiOk t n := by unfold hiOk; rw [hh]; show ¬ n ≤ h; omega
        simp only [ev_var, ev_con, ev_bin, ev_un, ev_anil, ev_acons, ev_call, ev_tup, ev_lst, ev_not, ev_and, ev_or, ev_if, ev_cbl, ev_btrue, ev_cand, ev_cor, ev_cnot, ev_sli, ev_onone, ev_osome, ev_chain, ev_meth, ev_get2, ev_newK, ev_newT, ev_own, ev_nil, ev_seq, ev_expr, ev_set, ev_ret, ev_retN, ev_cif, ev_brk, ev_ct, ev_asg, ev_put, ev_aug, ev_for, ev_comp, ev_newL, ev_iseq, ev_irange, ev_ienum, ev_yes, Out.bind_ok, Out.bindN_ok, bindS_ok, Tg.set, Tg.sets, List.getElem?_cons_zero, List.getElem?_cons_succ, List.set_cons_zero, List.set_cons_succ, wipeE, List.length_cons, List.length_nil, Nat.reduceAdd, Nat.reduceLeDiff, Nat.reduceEqDiff, ↓reduceIte, Bool.false_eq_true, decide_eq_true_eq, add_int, sub_int, lt_int, gt_int, le_int, ge_int, neg_int, and_int, or_int, xor_int, max2_int, min2_int, mod_pos, fdiv_sm, mul_sm, mul_smr, Int.reduceLT, Int.reduceNeg, int_bl, int_int, sli_tup, h8, h6, h7, hiD, isNotD, isN, q', q2, this, z', decide_true, decide_false, Bool.not_false, Bool.and_false]
      · have z' : ¬ (h : Int) < (n : Int) := by omega
        have : hiOk t n := by unfold hiOk; rw [hh]; show n ≤ h; omega
        simp only [ev_var, ev_con, ev_bin, ev_un, ev_anil, ev_acons, ev_call, ev_tup, ev_lst, ev_not, ev_and, ev_or, ev_if, ev_cbl, ev_btrue, ev_cand, ev_cor, ev_cnot, ev_sli, ev_onone, ev_osome, ev_chain, ev_meth, ev_get2, ev_newK, ev_newT, ev_own, ev_nil, ev_seq, ev_expr, ev_set, ev_ret, ev_retN, ev_cif, ev_brk, ev_ct, ev_asg, ev_put, ev_aug, ev_for, ev_comp, ev_newL, ev_iseq, ev_irange, ev_ienum, ev_yes, Out.bind_ok, Out.bindN_ok, bindS_ok, Tg.set, Tg.sets, List.getElem?_cons_zero, List.getElem?_cons_succ, List.set_cons_zero, List.set_cons_succ, wipeE, List.length_cons, List.length_nil, Nat.reduceAdd, Nat.reduceLeDiff, Nat.reduceEqDiff, ↓reduceIte, Bool.false_eq_true, decide_eq_true_eq, add_int, sub_int, lt_int, gt_int, le_int, ge_int, neg_int, and_int, or_int, xor_int, max2_int, min2_int, mod_pos, fdiv_sm, mul_sm, mul_smr, Int.reduceLT, Int.reduceNeg, int_bl, int_int, sli_tup, h8, h6, h7, hiD, isNotD, isN, q', q2, this, z', decide_true, decide_false, Bool.not_false, Bool.not_true, Bool.and_self]
def mixB (its : List It) (names : List Str) : Bool := names.all (fun x => decide (x ∈ its.map (·.nm))) && its.all (fun t => bOk t (names.count t.nm))
theorem mix_good {its : List It} {names : List Str} : mixB its names = true ↔ Good false its names := by
  unfold mixB bOk
  simp only [Bool.and_eq_true, List.all_eq_true, decide_eq_true_eq]
  exact ⟨fun ⟨h1, h2⟩ => ⟨⟨h1, fun z => (by cases z), fun t ht => (h2 t ht).2⟩, fun t ht => (h2 t ht).1⟩, fun g => ⟨g.1.known, fun t ht => ⟨g.2 t ht, g.1.ub t ht⟩⟩⟩
/-- a loop that leaves with False at the first that is not as asked -/
theorem loop_false {ck : Sto → Prop} [∀ S, Decidable (ck S)] {t : Tg} {b : RC} {ρ0 : PL.Env} {S0 : Sto} (ds : List Dv) (B : Nat → Bool) (E : Sto → PL.Env → Prop) (hE : E S0 ρ0) (n : Nat) (hlen : ds.length = n)
    (hs : ∀ i d ρ S, ds[i]? = some d → Gr S0 S → E S ρ → ck S ∧ ∃ ρ1, t.set d ρ = some ρ1 ∧ ∃ S2, Gr S S2 ∧ ((B i = true ∧ ∃ ρ2, b ρ1 S = .fl (.nx ρ2) S2 ∧ E S2 ρ2) ∨ (B i = false ∧ b ρ1 S = .fl (.rt (.bl false)) S2)))
    (he : ∀ S ρ, Gr S0 S → E S ρ → ck S) :
    ((List.range n).all B = true ∧ ∃ ρ S, Gr S0 S ∧ E S ρ ∧ loop ck t b ds ρ0 S0 = .fl (.nx ρ) S) ∨ ((List.range n).all B = false ∧ ∃ S, Gr S0 S ∧ loop ck t b ds ρ0 S0 = .fl (.rt (.bl false)) S) := by
  refine loop_gen (ck := ck) (t := t) (b := b) (fun i ρ S => Gr S0 S ∧ E S ρ ∧ ∀ j, j < i → B j = true) (fun o => ((List.range n).all B = true ∧ ∃ ρ S, Gr S0 S ∧ E S ρ ∧ o = .fl (.nx ρ) S) ∨ ((List.range n).all B = false ∧ ∃ S, Gr S0 S ∧ o = .fl (.rt (.bl false)) S)) ds 0 ?_ ?_ _ _ ⟨.refl _, hE, fun j hj => by omega⟩
  · rintro i d ρ S hd ⟨g, e, hB⟩
    have hi := (List.getElem?_eq_some_iff.mp hd).1
    obtain ⟨hc, ρ1, e1, S2, g2, h⟩ := hs i d ρ S hd g e
    refine ⟨hc, ρ1, e1, ?_⟩
    rcases h with ⟨hb, ρ2, e2, e3⟩ | ⟨hb, e2⟩
    · refine .inl ⟨ρ2, S2, .inl e2, g.trans g2, e3, fun j hj => ?_⟩
      rcases Nat.lt_or_ge j i with z | z
      · exact hB j (by omega)
      · have : j = i := by omega
        subst this; exact hb
    · refine .inr (.inr ⟨_, S2, e2, .inr ⟨?_, S2, g.trans g2, rfl⟩⟩)
      rw [Bool.eq_false_iff]
      intro z
      have := List.all_eq_true.mp z i (List.mem_range.mpr (by omega))
      rw [hb] at this; cases this
  · rintro ρ S ⟨g, e, hB⟩
    refine ⟨he S ρ g e, .inl ⟨List.all_eq_true.mpr fun j hj => hB j ?_, ρ, S, g, e, rfl⟩⟩
    have := List.mem_range.mp hj
    omega
theorem range_all {α : Type} (xs : List α) (p : α → Bool) (B : Nat → Bool) (h : ∀ i x, xs[i]? = some x → B i = p x) : (List.range xs.length).all B = xs.all p := by
  rw [Bool.eq_iff_iff, List.all_eq_true, List.all_eq_true]
  refine ⟨fun q x hx => ?_, fun q i hi => ?_⟩
  · obtain ⟨i, hi⟩ := List.mem_iff_getElem?.mp hx
    rw [← h i x hi]
    exact q i (List.mem_range.mpr (List.getElem?_eq_some_iff.mp hi).1)
  · have hl := List.mem_range.mp hi
    rw [h i xs[i] (List.getElem?_eq_getElem hl)]
    exact q _ (List.getElem_mem hl)
theorem mixdue_run {k ln : Nat} {kd rn : Str} {its : List It} {names : List Str} {S : Sto} (ok : ItOk its) (hn : S[ln]? = some (.lst (names.map .str))) (hs : ∀ x ∈ names, Sk x) (hl : names.length ≤ 1000) : ∃ S', F (k + 1) .l_due [ruleD kd rn false its, .ref ln] S = .ok (.bl (mixB its names)) S' ∧ Gr S S' := by
  rw [F_l_due]
  have e2 (S : Sto) : idxD (ruleD kd rn false its) (.int 2) S = .ok (.str (wd false)) S := idx_t2
  have e3 (S : Sto) : idxD (ruleD kd rn false its) (.int 3) S = .ok (.tup (its.map It.d)) S := idx_t3
  -- the names that are known
  obtain ⟨acc, S1, e1, hS, ha⟩ := comp_gen (ck := Ck.tt.ok) (t := .nm 9) (c := cYes) (y := y_l_due_1 (F k)) (acc := []) (S := S) (fun i acc S' => S' = S ∧ acc = ((its.take i).map (·.nm)).map .str) (its.map It.d) [some (ruleD kd rn false its), some (.ref ln), some (.tup (its.map It.d)), none, none, none, none, none, none, none, none]
    (fun i d acc S' hd ⟨hS, ha⟩ => by
      subst hS
      rw [List.getElem?_map, Option.map_eq_some_iff] at hd
      obtain ⟨t, ht, rfl⟩ := hd
      refine ⟨trivial, _, rfl, true, S', rfl, fun _ => ⟨.str t.nm, S', by simp only [y_l_due_1, ev_var, ev_con, ev_bin, ev_un, ev_anil, ev_acons, ev_call, ev_tup, ev_lst, ev_not, ev_and, ev_or, ev_if, ev_cbl, ev_btrue, ev_cand, ev_cor, ev_cnot, ev_sli, ev_onone, ev_osome, ev_chain, ev_meth, ev_get2, ev_newK, ev_newT, ev_own, ev_nil, ev_seq, ev_expr, ev_set, ev_ret, ev_retN, ev_cif, ev_brk, ev_ct, ev_asg, ev_put, ev_aug, ev_for, ev_comp, ev_newL, ev_iseq, ev_irange, ev_ienum, ev_yes, Out.bind_ok, Out.bindN_ok, bindS_ok, Tg.set, Tg.sets, List.getElem?_cons_zero, List.getElem?_cons_succ, List.set_cons_zero, List.set_cons_succ, wipeE, List.length_cons, List.length_nil, Nat.reduceAdd, Nat.reduceLeDiff, Nat.reduceEqDiff, ↓reduceIte, Bool.false_eq_true, decide_eq_true_eq, add_int, sub_int, lt_int, gt_int, le_int, ge_int, neg_int, and_int, or_int, xor_int, max2_int, min2_int, mod_pos, fdiv_sm, mul_sm, mul_smr, Int.reduceLT, Int.reduceNeg, int_bl, int_int, sli_tup, It.d, idx_t0], ?_, rfl, by rw [ha, List.take_add_one, ht]; simp⟩, fun z => nomatch z⟩
      rw [ha, List.length_map, List.length_map, List.length_take]; have := ok.len; show _ < 2 ^ 24; omega) (fun _ _ _ => trivial) ⟨rfl, rfl⟩
  subst hS
  rw [List.length_map, List.take_length] at ha
  subst ha
  have g1 := gr_app S1 [.lst ((its.map (·.nm)).map .str)]
  have hk : (S1 ++ [Ob.lst ((its.map (·.nm)).map .str)])[S1.length]? = some (.lst ((its.map (·.nm)).map .str)) := at_new _ _
  have hks : SeqAt.shaped (.list ((its.map (·.nm)).map .str)) = true := shp_strs _ fun y hy => by obtain ⟨t, ht, rfl⟩ := List.mem_map.mp hy; exact ok.sk t ht
  have L1 := loop_false (ck := (Ck.ls ln (names.map .str)).ok) (t := .nm 5) (b := b_l_due_2 (F k)) (S0 := S1 ++ [.lst ((its.map (·.nm)).map .str)]) (ρ0 := [some (ruleD kd rn false its), some (.ref ln), some (.tup (its.map It.d)), none, some (.ref S1.length), none, none, none, none, none, none]) (names.map .str) (fun i => match names[i]? with | some x => decide (x ∈ its.map (·.nm)) | none => true) (fun _ ρ => ∃ v, ρ = [some (ruleD kd rn false its), some (.ref ln), some (.tup (its.map It.d)), none, some (.ref S1.length), v, none, none, none, none, none]) ⟨_, rfl⟩ names.length (by simp)
    (fun i d ρ S2 hd g ⟨v, hρ⟩ => by
      subst hρ
      rw [List.getElem?_map, Option.map_eq_some_iff] at hd
      obtain ⟨x, hx, rfl⟩ := hd
      refine ⟨g.at (g1.at hn), _, rfl, S2, .refl _, ?_⟩
      have hm : memq S2 (.str x) (.ref S1.length) = some (decide (x ∈ its.map (·.nm))) := mem_strs (g.at hk) hks (hs x (List.mem_of_getElem? hx))
      unfold b_l_due_2
      rw [hx]
      by_cases q : x ∈ its.map (·.nm)
      · exact .inl ⟨decide_eq_true q, _, (if_f (S' := S2) (by simp only [ev_var, ev_con, ev_bin, ev_un, ev_anil, ev_acons, ev_call, ev_tup, ev_lst, ev_not, ev_and, ev_or, ev_if, ev_cbl, ev_btrue, ev_cand, ev_cor, ev_cnot, ev_sli, ev_onone, ev_osome, ev_chain, ev_meth, ev_get2, ev_newK, ev_newT, ev_own, ev_nil, ev_seq, ev_expr, ev_set, ev_ret, ev_retN, ev_cif, ev_brk, ev_ct, ev_asg, ev_put, ev_aug, ev_for, ev_comp, ev_newL, ev_iseq, ev_irange, ev_ienum, ev_yes, Out.bind_ok, Out.bindN_ok, bindS_ok, Tg.set, Tg.sets, List.getElem?_cons_zero, List.getElem?_cons_succ, List.set_cons_zero, List.set_cons_succ, wipeE, List.length_cons, List.length_nil, Nat.reduceAdd, Nat.reduceLeDiff, Nat.reduceEqDiff, ↓reduceIte, Bool.false_eq_true, decide_eq_true_eq, add_int, sub_int, lt_int, gt_int, le_int, ge_int, neg_int, and_int, or_int, xor_int, max2_int, min2_int, mod_pos, fdiv_sm, mul_sm, mul_smr, Int.reduceLT, Int.reduceNeg, int_bl, int_int, sli_tup, ninD, hm, q, decide_true, Bool.not_true])).trans rfl, _, rfl⟩
      · exact .inr ⟨decide_eq_false q, (if_t (S' := S2) (by simp only [ev_var, ev_con, ev_bin, ev_un, ev_anil, ev_acons, ev_call, ev_tup, ev_lst, ev_not, ev_and, ev_or, ev_if, ev_cbl, ev_btrue, ev_cand, ev_cor, ev_cnot, ev_sli, ev_onone, ev_osome, ev_chain, ev_meth, ev_get2, ev_newK, ev_newT, ev_own, ev_nil, ev_seq, ev_expr, ev_set, ev_ret, ev_retN, ev_cif, ev_brk, ev_ct, ev_asg, ev_put, ev_aug, ev_for, ev_comp, ev_newL, ev_iseq, ev_irange, ev_ienum, ev_yes, Out.bind_ok, Out.bindN_ok, bindS_ok, Tg.set, Tg.sets, List.getElem?_cons_zero, List.getElem?_cons_succ, List.set_cons_zero, List.set_cons_succ, wipeE, List.length_cons, List.length_nil, Nat.reduceAdd, Nat.reduceLeDiff, Nat.reduceEqDiff, ↓reduceIte, Bool.false_eq_true, decide_eq_true_eq, add_int, sub_int, lt_int, gt_int, le_int, ge_int, neg_int, and_int, or_int, xor_int, max2_int, min2_int, mod_pos, fdiv_sm, mul_sm, mul_smr, Int.reduceLT, Int.reduceNeg, int_bl, int_int, sli_tup, ninD, hm, q, decide_false, Bool.not_false])).trans (ret_of rfl)⟩)
    (fun S2 ρ g _ => g.at (g1.at hn))
  rw [range_all names (fun x => decide (x ∈ its.map (·.nm))) _ (fun i x hx => by rw [hx])] at L1
  have f1 := for_of (r := iSeq (eVar 1)) (t := .nm 5) (b := b_l_due_2 (F k)) (ρ := [some (ruleD kd rn false its), some (.ref ln), some (.tup (its.map It.d)), none, some (.ref S1.length), none, none, none, none, none, none]) (S := S1 ++ [.lst ((its.map (·.nm)).map .str)]) (S' := S1 ++ [.lst ((its.map (·.nm)).map .str)]) (w := (names.map .str, .ls ln (names.map .str))) (by simp only [ev_var, ev_con, ev_bin, ev_un, ev_anil, ev_acons, ev_call, ev_tup, ev_lst, ev_not, ev_and, ev_or, ev_if, ev_cbl, ev_btrue, ev_cand, ev_cor, ev_cnot, ev_sli, ev_onone, ev_osome, ev_chain, ev_meth, ev_get2, ev_newK, ev_newT, ev_own, ev_nil, ev_seq, ev_expr, ev_set, ev_ret, ev_retN, ev_cif, ev_brk, ev_ct, ev_asg, ev_put, ev_aug, ev_for, ev_comp, ev_newL, ev_iseq, ev_irange, ev_ienum, ev_yes, Out.bind_ok, Out.bindN_ok, bindS_ok, Tg.set, Tg.sets, List.getElem?_cons_zero, List.getElem?_cons_succ, List.set_cons_zero, List.set_cons_succ, wipeE, List.length_cons, List.length_nil, Nat.reduceAdd, Nat.reduceLeDiff, Nat.reduceEqDiff, ↓reduceIte, Bool.false_eq_true, decide_eq_true_eq, add_int, sub_int, lt_int, gt_int, le_int, ge_int, neg_int, and_int, or_int, xor_int, max2_int, min2_int, mod_pos, fdiv_sm, mul_sm, mul_smr, Int.reduceLT, Int.reduceNeg, int_bl, int_int, sli_tup, walk_ref (g1.at hn)])
  have start : ∀ {o : OutS} {b r : RC}, b [some (ruleD kd rn false its), some (.ref ln), some (.tup (its.map It.d)), none, some (.ref S1.length), none, none, none, none, none, none] (S1 ++ [.lst ((its.map (·.nm)).map .str)]) = o → (∀ S', o ≠ .fl (.nx []) S') → (∃ d S', o = .fl (.rt d) S') →
      cSeq (cSet 2 (eBin idxD (eVar 0) (eCon (.int 3)))) (cSeq (cIf (cBl (eBin eqD (eBin idxD (eVar 0) (eCon (.int 2))) (eCon (.str "mix")))) (cSeq (cSet 4 (eComp (iSeq (eVar 2)) (.nm 9) (cYes) (y_l_due_1 (F k)) [9])) b) (cNil)) r) [some (ruleD kd rn false its), some (.ref ln), none, none, none, none, none, none, none, none, none] S1 = o := fun {o b r} hb _ ⟨d, S', ho⟩ => by
    subst ho
    refine (seq_of (set_of (d := .tup (its.map It.d)) (S' := S1) (by simp only [ev_var, ev_con, ev_bin, ev_un, ev_anil, ev_acons, ev_call, ev_tup, ev_lst, ev_not, ev_and, ev_or, ev_if, ev_cbl, ev_btrue, ev_cand, ev_cor, ev_cnot, ev_sli, ev_onone, ev_osome, ev_chain, ev_meth, ev_get2, ev_newK, ev_newT, ev_own, ev_nil, ev_seq, ev_expr, ev_set, ev_ret, ev_retN, ev_cif, ev_brk, ev_ct, ev_asg, ev_put, ev_aug, ev_for, ev_comp, ev_newL, ev_iseq, ev_irange, ev_ienum, ev_yes, Out.bind_ok, Out.bindN_ok, bindS_ok, Tg.set, Tg.sets, List.getElem?_cons_zero, List.getElem?_cons_succ, List.set_cons_zero, List.set_cons_succ, wipeE, List.length_cons, List.length_nil, Nat.reduceAdd, Nat.reduceLeDiff, Nat.reduceEqDiff, ↓reduceIte, Bool.false_eq_true, decide_eq_true_eq, add_int, sub_int, lt_int, gt_int, le_int, ge_int, neg_int, and_int, or_int, xor_int, max2_int, min2_int, mod_pos, fdiv_sm, mul_sm, mul_smr, Int.reduceLT, Int.reduceNeg, int_bl, int_int, sli_tup, e3]))).trans ?_
    refine seq_rt ((if_t (S' := S1) (by simp only [ev_var, ev_con, ev_bin, ev_un, ev_anil, ev_acons, ev_call, ev_tup, ev_lst, ev_not, ev_and, ev_or, ev_if, ev_cbl, ev_btrue, ev_cand, ev_cor, ev_cnot, ev_sli, ev_onone, ev_osome, ev_chain, ev_meth, ev_get2, ev_newK, ev_newT, ev_own, ev_nil, ev_seq, ev_expr, ev_set, ev_ret, ev_retN, ev_cif, ev_brk, ev_ct, ev_asg, ev_put, ev_aug, ev_for, ev_comp, ev_newL, ev_iseq, ev_irange, ev_ienum, ev_yes, Out.bind_ok, Out.bindN_ok, bindS_ok, Tg.set, Tg.sets, List.getElem?_cons_zero, List.getElem?_cons_succ, List.set_cons_zero, List.set_cons_succ, wipeE, List.length_cons, List.length_nil, Nat.reduceAdd, Nat.reduceLeDiff, Nat.reduceEqDiff, ↓reduceIte, Bool.false_eq_true, decide_eq_true_eq, add_int, sub_int, lt_int, gt_int, le_int, ge_int, neg_int, and_int, or_int, xor_int, max2_int, min2_int, mod_pos, fdiv_sm, mul_sm, mul_smr, Int.reduceLT, Int.reduceNeg, int_bl, int_int, sli_tup, e2, eq_wm, Bool.not_false])).trans ?_)
    exact (seq_of (set_of (d := .ref S1.length) (S' := S1 ++ [Ob.lst ((its.map (·.nm)).map .str)]) (by simp only [ev_var, ev_con, ev_bin, ev_un, ev_anil, ev_acons, ev_call, ev_tup, ev_lst, ev_not, ev_and, ev_or, ev_if, ev_cbl, ev_btrue, ev_cand, ev_cor, ev_cnot, ev_sli, ev_onone, ev_osome, ev_chain, ev_meth, ev_get2, ev_newK, ev_newT, ev_own, ev_nil, ev_seq, ev_expr, ev_set, ev_ret, ev_retN, ev_cif, ev_brk, ev_ct, ev_asg, ev_put, ev_aug, ev_for, ev_comp, ev_newL, ev_iseq, ev_irange, ev_ienum, ev_yes, Out.bind_ok, Out.bindN_ok, bindS_ok, Tg.set, Tg.sets, List.getElem?_cons_zero, List.getElem?_cons_succ, List.set_cons_zero, List.set_cons_succ, wipeE, List.length_cons, List.length_nil, Nat.reduceAdd, Nat.reduceLeDiff, Nat.reduceEqDiff, ↓reduceIte, Bool.false_eq_true, decide_eq_true_eq, add_int, sub_int, lt_int, gt_int, le_int, ge_int, neg_int, and_int, or_int, xor_int, max2_int, min2_int, mod_pos, fdiv_sm, mul_sm, mul_smr, Int.reduceLT, Int.reduceNeg, int_bl, int_int, sli_tup, walk_tup, e1]))).trans hb
  rcases L1 with ⟨q1, ρ, S2, g2, ⟨v, rfl⟩, l1⟩ | ⟨q1, S2, g2, l1⟩
  · -- all known: the counts
    have L2 := loop_false (ck := Ck.tt.ok) (t := .tp [.nm 5, .nm 6, .nm 7]) (b := b_l_due_4 (F k)) (S0 := S2) (ρ0 := [some (ruleD kd rn false its), some (.ref ln), some (.tup (its.map It.d)), none, some (.ref S1.length), v, none, none, none, none, none]) (its.map It.d) (fun i => match its[i]? with | some t => bOk t (names.count t.nm) | none => true) (fun _ ρ => ∃ v5 v6 v7 v8 v10, ρ = [some (ruleD kd rn false its), some (.ref ln), some (.tup (its.map It.d)), none, some (.ref S1.length), v5, v6, v7, v8, none, v10]) ⟨_, _, _, _, _, rfl⟩ its.length (by simp)
      (fun i d ρ S3 hd g ⟨v5, v6, v7, v8, v10, hρ⟩ => by
        subst hρ
        rw [List.getElem?_map, Option.map_eq_some_iff] at hd
        obtain ⟨t, ht, rfl⟩ := hd
        have hnm := g.at (g2.at (g1.at hn))
        have kt := ok.sk t (List.mem_of_getElem? ht)
        refine ⟨trivial, _, rfl, ?_⟩
        obtain ⟨acc, S4, e4, hS, ha⟩ := comp_gen (ck := (Ck.ls ln (names.map .str)).ok) (t := .nm 10) (c := q_l_due_3 (F k)) (y := y_l_due_3 (F k)) (acc := []) (S := S3) (fun i acc S' => S' = S3 ∧ acc.length = (names.take i).count t.nm) (names.map .str) [some (ruleD kd rn false its), some (.ref ln), some (.tup (its.map It.d)), none, some (.ref S1.length), some (.str t.nm), some (.int t.low), some (hiD t.high), v8, none, none]
          (fun i d acc S' hd ⟨hS, ha⟩ => by
            subst hS
            rw [List.getElem?_map, Option.map_eq_some_iff] at hd
            obtain ⟨x, hx, rfl⟩ := hd
            have hsx := hs x (List.mem_of_getElem? hx)
            have hcl : (names.take i).count t.nm ≤ names.length := Nat.le_trans List.count_le_length (by rw [List.length_take]; omega)
            refine ⟨hnm, _, rfl, decide (x = t.nm), S', by simp only [q_l_due_3, ev_var, ev_con, ev_bin, ev_un, ev_anil, ev_acons, ev_call, ev_tup, ev_lst, ev_not, ev_and, ev_or, ev_if, ev_cbl, ev_btrue, ev_cand, ev_cor, ev_cnot, ev_sli, ev_onone, ev_osome, ev_chain, ev_meth, ev_get2, ev_newK, ev_newT, ev_own, ev_nil, ev_seq, ev_expr, ev_set, ev_ret, ev_retN, ev_cif, ev_brk, ev_ct, ev_asg, ev_put, ev_aug, ev_for, ev_comp, ev_newL, ev_iseq, ev_irange, ev_ienum, ev_yes, Out.bind_ok, Out.bindN_ok, bindS_ok, Tg.set, Tg.sets, List.getElem?_cons_zero, List.getElem?_cons_succ, List.set_cons_zero, List.set_cons_succ, wipeE, List.length_cons, List.length_nil, Nat.reduceAdd, Nat.reduceLeDiff, Nat.reduceEqDiff, ↓reduceIte, Bool.false_eq_true, decide_eq_true_eq, add_int, sub_int, lt_int, gt_int, le_int, ge_int, neg_int, and_int, or_int, xor_int, max2_int, min2_int, mod_pos, fdiv_sm, mul_sm, mul_smr, Int.reduceLT, Int.reduceNeg, int_bl, int_int, sli_tup, eq_str hsx kt], fun z => ⟨.str x, S', rfl, by rw [ha]; show _ < 2 ^ 24; omega, rfl, ?_⟩, fun z => ⟨rfl, ?_⟩⟩
            · have := of_decide_eq_true z
              rw [List.length_append, ha, List.take_add_one, hx, List.count_append, this]; simp
            · have := of_decide_eq_false z
              rw [ha, List.take_add_one, hx, List.count_append, Option.toList_some, List.count_singleton]
              simp [this]) (fun _ S' h => by rw [h.1]; exact hnm) ⟨rfl, rfl⟩
        subst hS
        rw [List.length_map, List.take_length] at ha
        have g4 := gr_app S4 [.lst acc]
        refine ⟨_, g4, ?_⟩
        have el : (acc.length : Int) = (names.count t.nm : Nat) := by rw [ha]
        have st : ∀ {b : RC} {o : OutS}, b [some (ruleD kd rn false its), some (.ref ln), some (.tup (its.map It.d)), none, some (.ref S1.length), some (.str t.nm), some (.int t.low), some (hiD t.high), some (.int (names.count t.nm : Nat)), none, v10] (S4 ++ [.lst acc]) = o → cSeq (cSet 8 (eCall lenD (aCons (eComp (iSeq (eVar 1)) (.nm 10) (q_l_due_3 (F k)) (y_l_due_3 (F k)) [10]) (aNil)))) b [some (ruleD kd rn false its), some (.ref ln), some (.tup (its.map It.d)), none, some (.ref S1.length), some (.str t.nm), some (.int t.low), some (hiD t.high), v8, none, v10] S4 = o := fun {b o} hb =>
          (seq_of (set_of (d := .int (names.count t.nm : Nat)) (S' := S4 ++ [Ob.lst acc]) (by simp only [ev_var, ev_con, ev_bin, ev_un, ev_anil, ev_acons, ev_call, ev_tup, ev_lst, ev_not, ev_and, ev_or, ev_if, ev_cbl, ev_btrue, ev_cand, ev_cor, ev_cnot, ev_sli, ev_onone, ev_osome, ev_chain, ev_meth, ev_get2, ev_newK, ev_newT, ev_own, ev_nil, ev_seq, ev_expr, ev_set, ev_ret, ev_retN, ev_cif, ev_brk, ev_ct, ev_asg, ev_put, ev_aug, ev_for, ev_comp, ev_newL, ev_iseq, ev_irange, ev_ienum, ev_yes, Out.bind_ok, Out.bindN_ok, bindS_ok, Tg.set, Tg.sets, List.getElem?_cons_zero, List.getElem?_cons_succ, List.set_cons_zero, List.set_cons_succ, wipeE, List.length_cons, List.length_nil, Nat.reduceAdd, Nat.reduceLeDiff, Nat.reduceEqDiff, ↓reduceIte, Bool.false_eq_true, decide_eq_true_eq, add_int, sub_int, lt_int, gt_int, le_int, ge_int, neg_int, and_int, or_int, xor_int, max2_int, min2_int, mod_pos, fdiv_sm, mul_sm, mul_smr, Int.reduceLT, Int.reduceNeg, int_bl, int_int, sli_tup, walk_ref hnm, e4, len_ref (at_new _ _), el]))).trans hb
        unfold b_l_due_4
        rw [ht]
        have bb := bnd_run (t := t) (n := names.count t.nm) (S := S4 ++ [.lst acc]) (ρ := [some (ruleD kd rn false its), some (.ref ln), some (.tup (its.map It.d)), none, some (.ref S1.length), some (.str t.nm), some (.int t.low), some (hiD t.high), some (.int (names.count t.nm : Nat)), none, v10]) rfl rfl rfl
        cases q : bOk t (names.count t.nm) with
        | true => rw [q] at bb; exact .inl ⟨q, _, st ((if_f bb).trans rfl), _, _, _, _, _, rfl⟩
        | false => rw [q] at bb; exact .inr ⟨q, st ((if_t bb).trans (ret_of rfl))⟩)
      (fun _ _ _ _ => trivial)
    rw [range_all its (fun t => bOk t (names.count t.nm)) _ (fun i t ht => by rw [ht])] at L2
    have f2 := for_of (r := iSeq (eVar 2)) (t := .tp [.nm 5, .nm 6, .nm 7]) (b := b_l_due_4 (F k)) (ρ := [some (ruleD kd rn false its), some (.ref ln), some (.tup (its.map It.d)), none, some (.ref S1.length), v, none, none, none, none, none]) (S := S2) (S' := S2) (w := (its.map It.d, .tt)) (by simp only [ev_var, ev_con, ev_bin, ev_un, ev_anil, ev_acons, ev_call, ev_tup, ev_lst, ev_not, ev_and, ev_or, ev_if, ev_cbl, ev_btrue, ev_cand, ev_cor, ev_cnot, ev_sli, ev_onone, ev_osome, ev_chain, ev_meth, ev_get2, ev_newK, ev_newT, ev_own, ev_nil, ev_seq, ev_expr, ev_set, ev_ret, ev_retN, ev_cif, ev_brk, ev_ct, ev_asg, ev_put, ev_aug, ev_for, ev_comp, ev_newL, ev_iseq, ev_irange, ev_ienum, ev_yes, Out.bind_ok, Out.bindN_ok, bindS_ok, Tg.set, Tg.sets, List.getElem?_cons_zero, List.getElem?_cons_succ, List.set_cons_zero, List.set_cons_succ, wipeE, List.length_cons, List.length_nil, Nat.reduceAdd, Nat.reduceLeDiff, Nat.reduceEqDiff, ↓reduceIte, Bool.false_eq_true, decide_eq_true_eq, add_int, sub_int, lt_int, gt_int, le_int, ge_int, neg_int, and_int, or_int, xor_int, max2_int, min2_int, mod_pos, fdiv_sm, mul_sm, mul_smr, Int.reduceLT, Int.reduceNeg, int_bl, int_int, sli_tup, walk_tup])
    rcases L2 with ⟨q2, ρ, S3, g3, _, l2⟩ | ⟨q2, S3, g3, l2⟩
    · have : mixB its names = true := by unfold mixB; rw [q1, q2]; rfl
      rw [this]
      refine ⟨S3, runF_rt (ρ := [some (ruleD kd rn false its), some (.ref ln), none, none, none, none, none, none, none, none, none]) rfl rfl (start ?_ (fun _ h => by cases h) ⟨_, _, rfl⟩), g1.trans (g2.trans g3)⟩
      exact (seq_of (f1.trans l1)).trans ((seq_of (f2.trans l2)).trans (ret_of rfl))
    · have : mixB its names = false := by unfold mixB; rw [q1, q2]; rfl
      rw [this]
      refine ⟨S3, runF_rt (ρ := [some (ruleD kd rn false its), some (.ref ln), none, none, none, none, none, none, none, none, none]) rfl rfl (start ?_ (fun _ h => by cases h) ⟨_, _, rfl⟩), g1.trans (g2.trans g3)⟩
      exact (seq_of (f1.trans l1)).trans (seq_rt (f2.trans l2))
  · have : mixB its names = false := by unfold mixB; rw [q1]; rfl
    rw [this]
    refine ⟨S2, runF_rt (ρ := [some (ruleD kd rn false its), some (.ref ln), none, none, none, none, none, none, none, none, none]) rfl rfl (start ?_ (fun _ h => by cases h) ⟨_, _, rfl⟩), g1.trans g2⟩
    exact seq_rt (f1.trans l1)

theorem loopW_t {n : Nat} {c : RT} {b : RC} {ρ ρ2 : PL.Env} {S S1 S2 : Sto} (h : c ρ S = .ok true S1) (h2 : b ρ S1 = .fl (.nx ρ2) S2) : loopW (n + 1) c b ρ S = loopW n c b ρ2 S2 := by simp only [loopW, h, bindS_ok, ↓reduceIte, h2]
theorem loopW_f {n : Nat} {c : RT} {b : RC} {ρ : PL.Env} {S S1 : Sto} (h : c ρ S = .ok false S1) : loopW (n + 1) c b ρ S = .fl (.nx ρ) S1 := by simp only [loopW, h, bindS_ok, Bool.false_eq_true, ↓reduceIte]
/-- the leading ones taken off -/
theorem take_run {k l ln : Nat} {kd rn nm : Str} {its : List It} (hnm : Sk nm) (v6 v7 : Option Dv) : ∀ (left : List Str) (n : Nat) (S : Sto), S[l]? = some (.lst (left.map .str)) → (∀ x ∈ left, Sk x) →
    ∃ S', Fr (· = l) S S' ∧ S'[l]? = some (.lst ((left.dropWhile (· == nm)).map .str)) ∧ loopW (left.length + 1) (w_l_due_5 (F k)) (b_l_due_6 (F k)) [some (ruleD kd rn true its), some (.ref ln), some (.tup (its.map It.d)), some (.ref l), none, some (.str nm), v6, v7, some (.int n), none, none] S = .fl (.nx [some (ruleD kd rn true its), some (.ref ln), some (.tup (its.map It.d)), some (.ref l), none, some (.str nm), v6, v7, some (.int (n + (left.takeWhile (· == nm)).length : Nat)), none, none]) S'
  | [], n, S, hS, _ => by
    refine ⟨S, .refl _, hS, ?_⟩
    have hp : ¬ (0 : Int) < ((([] : List Str).map Dv.str).length : Int) := by simp
    have ew : w_l_due_5 (F k) [some (ruleD kd rn true its), some (.ref ln), some (.tup (its.map It.d)), some (.ref l), none, some (.str nm), v6, v7, some (.int n), none, none] S = .ok false S := by
      simp only [w_l_due_5, ev_var, ev_con, ev_bin, ev_un, ev_anil, ev_acons, ev_call, ev_tup, ev_lst, ev_not, ev_and, ev_or, ev_if, ev_cbl, ev_btrue, ev_cand, ev_cor, ev_cnot, ev_sli, ev_onone, ev_osome, ev_chain, ev_meth, ev_get2, ev_newK, ev_newT, ev_own, ev_nil, ev_seq, ev_expr, ev_set, ev_ret, ev_retN, ev_cif, ev_brk, ev_ct, ev_asg, ev_put, ev_aug, ev_for, ev_comp, ev_newL, ev_iseq, ev_irange, ev_ienum, ev_yes, Out.bind_ok, Out.bindN_ok, bindS_ok, Tg.set, Tg.sets, List.getElem?_cons_zero, List.getElem?_cons_succ, List.set_cons_zero, List.set_cons_succ, wipeE, List.length_cons, List.length_nil, Nat.reduceAdd, Nat.reduceLeDiff, Nat.reduceEqDiff, ↓reduceIte, Bool.false_eq_true, decide_eq_true_eq, add_int, sub_int, lt_int, gt_int, le_int, ge_int, neg_int, and_int, or_int, xor_int, max2_int, min2_int, mod_pos, fdiv_sm, mul_sm, mul_smr, Int.reduceLT, Int.reduceNeg, int_bl, int_int, sli_tup, len_ref hS, hp, decide_false]
    rw [loopW_f ew]; rfl
  | x :: left, n, S, hS, hs => by
    have hp : (0 : Int) < (((x :: left).map Dv.str).length : Int) := by rw [List.length_map, List.length_cons]; omega
    have e0 : idxD (.ref l) (.int 0) S = .ok (.str x) S := idx_ref hS (atI_nat (i := 0) rfl)
    by_cases q : x = nm
    · subst q
      have ew : w_l_due_5 (F k) [some (ruleD kd rn true its), some (.ref ln), some (.tup (its.map It.d)), some (.ref l), none, some (.str x), v6, v7, some (.int n), none, none] S = .ok true S := by
        simp only [w_l_due_5, ev_var, ev_con, ev_bin, ev_un, ev_anil, ev_acons, ev_call, ev_tup, ev_lst, ev_not, ev_and, ev_or, ev_if, ev_cbl, ev_btrue, ev_cand, ev_cor, ev_cnot, ev_sli, ev_onone, ev_osome, ev_chain, ev_meth, ev_get2, ev_newK, ev_newT, ev_own, ev_nil, ev_seq, ev_expr, ev_set, ev_ret, ev_retN, ev_cif, ev_brk, ev_ct, ev_asg, ev_put, ev_aug, ev_for, ev_comp, ev_newL, ev_iseq, ev_irange, ev_ienum, ev_yes, Out.bind_ok, Out.bindN_ok, bindS_ok, Tg.set, Tg.sets, List.getElem?_cons_zero, List.getElem?_cons_succ, List.set_cons_zero, List.set_cons_succ, wipeE, List.length_cons, List.length_nil, Nat.reduceAdd, Nat.reduceLeDiff, Nat.reduceEqDiff, ↓reduceIte, Bool.false_eq_true, decide_eq_true_eq, add_int, sub_int, lt_int, gt_int, le_int, ge_int, neg_int, and_int, or_int, xor_int, max2_int, min2_int, mod_pos, fdiv_sm, mul_sm, mul_smr, Int.reduceLT, Int.reduceNeg, int_bl, int_int, sli_tup, len_ref hS, hp, decide_true, e0, eq_str hnm hnm]
      have ep : popD (.ref l) [.int 0] S = .ok (.str x) (S.set l (.lst (left.map .str))) := by
        have h0 : seqIndex? 0 ((x :: left).map Dv.str).length = some 0 := by
          simp [seqIndex?]
        simp only [popD, lmap, hS]
        rw [if_pos (by omega), h0]
        simp
      have eb : b_l_due_6 (F k) [some (ruleD kd rn true its), some (.ref ln), some (.tup (its.map It.d)), some (.ref l), none, some (.str x), v6, v7, some (.int n), none, none] S = .fl (.nx [some (ruleD kd rn true its), some (.ref ln), some (.tup (its.map It.d)), some (.ref l), none, some (.str x), v6, v7, some (.int (n + 1 : Nat)), none, none]) (S.set l (.lst (left.map .str))) := by
        unfold b_l_due_6
        refine (seq_of (expr_of (by simp only [ev_var, ev_con, ev_bin, ev_un, ev_anil, ev_acons, ev_call, ev_tup, ev_lst, ev_not, ev_and, ev_or, ev_if, ev_cbl, ev_btrue, ev_cand, ev_cor, ev_cnot, ev_sli, ev_onone, ev_osome, ev_chain, ev_meth, ev_get2, ev_newK, ev_newT, ev_own, ev_nil, ev_seq, ev_expr, ev_set, ev_ret, ev_retN, ev_cif, ev_brk, ev_ct, ev_asg, ev_put, ev_aug, ev_for, ev_comp, ev_newL, ev_iseq, ev_irange, ev_ienum, ev_yes, Out.bind_ok, Out.bindN_ok, bindS_ok, Tg.set, Tg.sets, List.getElem?_cons_zero, List.getElem?_cons_succ, List.set_cons_zero, List.set_cons_succ, wipeE, List.length_cons, List.length_nil, Nat.reduceAdd, Nat.reduceLeDiff, Nat.reduceEqDiff, ↓reduceIte, Bool.false_eq_true, decide_eq_true_eq, add_int, sub_int, lt_int, gt_int, le_int, ge_int, neg_int, and_int, or_int, xor_int, max2_int, min2_int, mod_pos, fdiv_sm, mul_sm, mul_smr, Int.reduceLT, Int.reduceNeg, int_bl, int_int, sli_tup, tyq_ref hS, ep]; rfl))).trans ?_
        exact set_of (by simp only [ev_var, ev_con, ev_bin, ev_un, ev_anil, ev_acons, ev_call, ev_tup, ev_lst, ev_not, ev_and, ev_or, ev_if, ev_cbl, ev_btrue, ev_cand, ev_cor, ev_cnot, ev_sli, ev_onone, ev_osome, ev_chain, ev_meth, ev_get2, ev_newK, ev_newT, ev_own, ev_nil, ev_seq, ev_expr, ev_set, ev_ret, ev_retN, ev_cif, ev_brk, ev_ct, ev_asg, ev_put, ev_aug, ev_for, ev_comp, ev_newL, ev_iseq, ev_irange, ev_ienum, ev_yes, Out.bind_ok, Out.bindN_ok, bindS_ok, Tg.set, Tg.sets, List.getElem?_cons_zero, List.getElem?_cons_succ, List.set_cons_zero, List.set_cons_succ, wipeE, List.length_cons, List.length_nil, Nat.reduceAdd, Nat.reduceLeDiff, Nat.reduceEqDiff, ↓reduceIte, Bool.false_eq_true, decide_eq_true_eq, add_int, sub_int, lt_int, gt_int, le_int, ge_int, neg_int, and_int, or_int, xor_int, max2_int, min2_int, mod_pos, fdiv_sm, mul_sm, mul_smr, Int.reduceLT, Int.reduceNeg, int_bl, int_int, sli_tup]; rfl)
      obtain ⟨S', f, h1, e⟩ := take_run (k := k) (ln := ln) (kd := kd) (rn := rn) (its := its) hnm v6 v7 left (n + 1) (S.set l (.lst (left.map .str))) (at_set hS) (fun y hy => hs y (by simp [hy]))
      refine ⟨S', (fr_set _ _ _).trans f, by rw [List.dropWhile_cons_of_pos (by simp)]; exact h1, ?_⟩
      rw [List.length_cons, loopW_t ew eb, e]
      rw [List.takeWhile_cons_of_pos (by simp), List.length_cons, show n + 1 + (left.takeWhile (· == x)).length = n + ((left.takeWhile (· == x)).length + 1) by omega]
    · have ew : w_l_due_5 (F k) [some (ruleD kd rn true its), some (.ref ln), some (.tup (its.map It.d)), some (.ref l), none, some (.str nm), v6, v7, some (.int n), none, none] S = .ok false S := by
        simp only [w_l_due_5, ev_var, ev_con, ev_bin, ev_un, ev_anil, ev_acons, ev_call, ev_tup, ev_lst, ev_not, ev_and, ev_or, ev_if, ev_cbl, ev_btrue, ev_cand, ev_cor, ev_cnot, ev_sli, ev_onone, ev_osome, ev_chain, ev_meth, ev_get2, ev_newK, ev_newT, ev_own, ev_nil, ev_seq, ev_expr, ev_set, ev_ret, ev_retN, ev_cif, ev_brk, ev_ct, ev_asg, ev_put, ev_aug, ev_for, ev_comp, ev_newL, ev_iseq, ev_irange, ev_ienum, ev_yes, Out.bind_ok, Out.bindN_ok, bindS_ok, Tg.set, Tg.sets, List.getElem?_cons_zero, List.getElem?_cons_succ, List.set_cons_zero, List.set_cons_succ, wipeE, List.length_cons, List.length_nil, Nat.reduceAdd, Nat.reduceLeDiff, Nat.reduceEqDiff, ↓reduceIte, Bool.false_eq_true, decide_eq_true_eq, add_int, sub_int, lt_int, gt_int, le_int, ge_int, neg_int, and_int, or_int, xor_int, max2_int, min2_int, mod_pos, fdiv_sm, mul_sm, mul_smr, Int.reduceLT, Int.reduceNeg, int_bl, int_int, sli_tup, len_ref hS, hp, decide_true, e0, eq_str (hs x (by simp)) hnm, q, decide_false]
      have qb : ¬ (x == nm) = true := by simpa using q
      refine ⟨S, .refl _, by rw [List.dropWhile_cons_of_neg (p := (· == nm)) qb]; exact hS, ?_⟩
      rw [loopW_f ew, List.takeWhile_cons_of_neg (p := (· == nm)) qb]; rfl
theorem fr_new {l : Nat} {S S' : Sto} (f : Fr (· = l) S S') : S.length ≤ S'.length := f.le
theorem rowdue_run {k ln : Nat} {kd rn : Str} {its : List It} {names : List Str} {S : Sto} (ok : ItOk its) (hn : S[ln]? = some (.lst (names.map .str))) (hs : ∀ x ∈ names, Sk x) : ∃ S', F (k + 1) .l_due [ruleD kd rn true its, .ref ln] S = .ok (.bl (greedy its names)) S' ∧ Gr S S' := by
  rw [F_l_due]
  have e2 (S : Sto) : idxD (ruleD kd rn true its) (.int 2) S = .ok (.str (wd true)) S := idx_t2
  have e3 (S : Sto) : idxD (ruleD kd rn true its) (.int 3) S = .ok (.tup (its.map It.d)) S := idx_t3
  have g0 := gr_app S [.lst (names.map .str)]
  have key : ∀ (D : OutS → Prop), (greedy its names = false → ∀ S', Fr (· = S.length) (S ++ [.lst (names.map .str)]) S' → D (.fl (.rt (.bl false)) S')) → (∀ (left : List Str) (S' : Sto) (v5 v6 v7 v8 : Option Dv), greedy its names = left.isEmpty → S'[S.length]? = some (.lst (left.map .str)) → (∀ x ∈ left, Sk x) → Fr (· = S.length) (S ++ [.lst (names.map .str)]) S' → D (.fl (.nx [some (ruleD kd rn true its), some (.ref ln), some (.tup (its.map It.d)), some (.ref S.length), none, v5, v6, v7, v8, none, none]) S')) →
      D (loop Ck.tt.ok (.tp [.nm 5, .nm 6, .nm 7]) (b_l_due_7 (F k)) (its.map It.d) [some (ruleD kd rn true its), some (.ref ln), some (.tup (its.map It.d)), some (.ref S.length), none, none, none, none, none, none, none] (S ++ [.lst (names.map .str)])) := fun D d1 d2 => by
    refine loop_gen (ck := Ck.tt.ok) (t := .tp [.nm 5, .nm 6, .nm 7]) (b := b_l_due_7 (F k)) (fun i ρ S' => ∃ (left : List Str) (v5 v6 v7 v8 : Option Dv), ρ = [some (ruleD kd rn true its), some (.ref ln), some (.tup (its.map It.d)), some (.ref S.length), none, v5, v6, v7, v8, none, none] ∧ S'[S.length]? = some (.lst (left.map .str)) ∧ (∀ x ∈ left, Sk x) ∧ Fr (· = S.length) (S ++ [.lst (names.map .str)]) S' ∧ greedy its names = greedy (its.drop i) left) D _ 0 ?_ ?_ _ _ ⟨names, _, _, _, _, rfl, at_new _ _, hs, .refl _, rfl⟩
    · rintro i d ρ S2 hd ⟨left, v5, v6, v7, v8, rfl, hx, hk, f, hg⟩
      rw [List.getElem?_map, Option.map_eq_some_iff] at hd
      obtain ⟨t, ht, rfl⟩ := hd
      have kt := ok.sk t (List.mem_of_getElem? ht)
      have hi := (List.getElem?_eq_some_iff.mp ht).1
      have hdr : its.drop i = t :: its.drop (i + 1) := by rw [List.drop_eq_getElem_cons hi]; rw [List.getElem?_eq_getElem hi] at ht; cases ht; rfl
      rw [Nat.zero_add, hdr, greedy] at hg
      refine ⟨trivial, _, rfl, ?_⟩
      obtain ⟨S3, f3, h3, e3'⟩ := take_run (k := k) (ln := ln) (kd := kd) (rn := rn) (its := its) kt (some (.int t.low)) (some (hiD t.high)) left 0 S2 hx hk
      rw [Nat.zero_add] at e3'
      have ew : cWhile (w_l_due_5 (F k)) (b_l_due_6 (F k)) [some (ruleD kd rn true its), some (.ref ln), some (.tup (its.map It.d)), some (.ref S.length), none, some (.str t.nm), some (.int t.low), some (hiD t.high), some (.int 0), none, none] S2 = _ := (cWhile_of (left.length + 1) (by rw [show (0 : Int) = ((0 : Nat) : Int) from rfl, e3']; exact fun z => by cases z)).trans e3'
      generalize (left.takeWhile (· == t.nm)).length = c at hg ew
      have hk' : ∀ x ∈ left.dropWhile (· == t.nm), Sk x := fun x hx => hk x (List.dropWhile_sublist _ |>.subset hx)
      generalize left.dropWhile (· == t.nm) = left' at hg h3 hk'
      have bb := bnd_run (t := t) (n := c) (S := S3) (ρ := [some (ruleD kd rn true its), some (.ref ln), some (.tup (its.map It.d)), some (.ref S.length), none, some (.str t.nm), some (.int t.low), some (hiD t.high), some (.int (c : Nat)), none, none]) rfl rfl rfl
      have st : ∀ {b : RC} {o : OutS}, b [some (ruleD kd rn true its), some (.ref ln), some (.tup (its.map It.d)), some (.ref S.length), none, some (.str t.nm), some (.int t.low), some (hiD t.high), some (.int (c : Nat)), none, none] S3 = o → cSeq (cSet 8 (eCon (.int 0))) (cSeq (cWhile (w_l_due_5 (F k)) (b_l_due_6 (F k))) b) [some (ruleD kd rn true its), some (.ref ln), some (.tup (its.map It.d)), some (.ref S.length), none, some (.str t.nm), some (.int t.low), some (hiD t.high), v8, none, none] S2 = o := fun {b o} hb =>
        (seq_of (set_of (d := .int 0) (S' := S2) rfl)).trans ((seq_of ew).trans hb)
      unfold b_l_due_7
      cases q : bOk t c with
      | true =>
        have q2 := q
        simp only [bOk, Bool.and_eq_true, decide_eq_true_eq] at q2
        rw [if_pos q2] at hg
        rw [q] at bb
        exact .inl ⟨_, S3, .inl (st ((if_f bb).trans rfl)), left', _, _, _, _, rfl, h3, hk', f.trans f3, by rw [Nat.zero_add]; exact hg⟩
      | false =>
        have q2 : ¬ (t.low ≤ c ∧ hiOk t c) := fun z => by
          have : bOk t c = true := by simp only [bOk, z.1, z.2, decide_true, Bool.and_self]
          rw [q] at this; cases this
        rw [if_neg q2] at hg
        rw [q] at bb
        exact .inr (.inr ⟨_, S3, st ((if_t bb).trans (ret_of rfl)), d1 hg S3 (f.trans f3)⟩)
    · rintro ρ S2 ⟨left, v5, v6, v7, v8, rfl, hx, hk, f, hg⟩
      rw [Nat.zero_add, List.length_map, List.drop_length, greedy] at hg
      exact ⟨trivial, d2 left S2 _ _ _ _ hg hx hk f⟩
  have start : ∀ {o : OutS} {b r : RC}, b [some (ruleD kd rn true its), some (.ref ln), some (.tup (its.map It.d)), some (.ref S.length), none, none, none, none, none, none, none] (S ++ [.lst (names.map .str)]) = o →
      cSeq (cSet 2 (eBin idxD (eVar 0) (eCon (.int 3)))) (cSeq (cIf (cBl (eBin eqD (eBin idxD (eVar 0) (eCon (.int 2))) (eCon (.str "mix")))) r (cNil)) (cSeq (cSet 3 (eCall listD (aCons (eVar 1) (aNil)))) b)) [some (ruleD kd rn true its), some (.ref ln), none, none, none, none, none, none, none, none, none] S = o := fun {o b r} hb => by
    refine (seq_of (set_of (d := .tup (its.map It.d)) (S' := S) (by simp only [ev_var, ev_con, ev_bin, ev_un, ev_anil, ev_acons, ev_call, ev_tup, ev_lst, ev_not, ev_and, ev_or, ev_if, ev_cbl, ev_btrue, ev_cand, ev_cor, ev_cnot, ev_sli, ev_onone, ev_osome, ev_chain, ev_meth, ev_get2, ev_newK, ev_newT, ev_own, ev_nil, ev_seq, ev_expr, ev_set, ev_ret, ev_retN, ev_cif, ev_brk, ev_ct, ev_asg, ev_put, ev_aug, ev_for, ev_comp, ev_newL, ev_iseq, ev_irange, ev_ienum, ev_yes, Out.bind_ok, Out.bindN_ok, bindS_ok, Tg.set, Tg.sets, List.getElem?_cons_zero, List.getElem?_cons_succ, List.set_cons_zero, List.set_cons_succ, wipeE, List.length_cons, List.length_nil, Nat.reduceAdd, Nat.reduceLeDiff, Nat.reduceEqDiff, ↓reduceIte, Bool.false_eq_true, decide_eq_true_eq, add_int, sub_int, lt_int, gt_int, le_int, ge_int, neg_int, and_int, or_int, xor_int, max2_int, min2_int, mod_pos, fdiv_sm, mul_sm, mul_smr, Int.reduceLT, Int.reduceNeg, int_bl, int_int, sli_tup, e3]))).trans ?_
    refine (seq_of ((if_f (S' := S) (by simp only [ev_var, ev_con, ev_bin, ev_un, ev_anil, ev_acons, ev_call, ev_tup, ev_lst, ev_not, ev_and, ev_or, ev_if, ev_cbl, ev_btrue, ev_cand, ev_cor, ev_cnot, ev_sli, ev_onone, ev_osome, ev_chain, ev_meth, ev_get2, ev_newK, ev_newT, ev_own, ev_nil, ev_seq, ev_expr, ev_set, ev_ret, ev_retN, ev_cif, ev_brk, ev_ct, ev_asg, ev_put, ev_aug, ev_for, ev_comp, ev_newL, ev_iseq, ev_irange, ev_ienum, ev_yes, Out.bind_ok, Out.bindN_ok, bindS_ok, Tg.set, Tg.sets, List.getElem?_cons_zero, List.getElem?_cons_succ, List.set_cons_zero, List.set_cons_succ, wipeE, List.length_cons, List.length_nil, Nat.reduceAdd, Nat.reduceLeDiff, Nat.reduceEqDiff, ↓reduceIte, Bool.false_eq_true, decide_eq_true_eq, add_int, sub_int, lt_int, gt_int, le_int, ge_int, neg_int, and_int, or_int, xor_int, max2_int, min2_int, mod_pos, fdiv_sm, mul_sm, mul_smr, Int.reduceLT, Int.reduceNeg, int_bl, int_int, sli_tup, e2, eq_wm, Bool.not_true])).trans rfl)).trans ?_
    exact (seq_of (set_of (d := .ref S.length) (S' := S ++ [Ob.lst (names.map .str)]) (by simp only [ev_var, ev_con, ev_bin, ev_un, ev_anil, ev_acons, ev_call, ev_tup, ev_lst, ev_not, ev_and, ev_or, ev_if, ev_cbl, ev_btrue, ev_cand, ev_cor, ev_cnot, ev_sli, ev_onone, ev_osome, ev_chain, ev_meth, ev_get2, ev_newK, ev_newT, ev_own, ev_nil, ev_seq, ev_expr, ev_set, ev_ret, ev_retN, ev_cif, ev_brk, ev_ct, ev_asg, ev_put, ev_aug, ev_for, ev_comp, ev_newL, ev_iseq, ev_irange, ev_ienum, ev_yes, Out.bind_ok, Out.bindN_ok, bindS_ok, Tg.set, Tg.sets, List.getElem?_cons_zero, List.getElem?_cons_succ, List.set_cons_zero, List.set_cons_succ, wipeE, List.length_cons, List.length_nil, Nat.reduceAdd, Nat.reduceLeDiff, Nat.reduceEqDiff, ↓reduceIte, Bool.false_eq_true, decide_eq_true_eq, add_int, sub_int, lt_int, gt_int, le_int, ge_int, neg_int, and_int, or_int, xor_int, max2_int, min2_int, mod_pos, fdiv_sm, mul_sm, mul_smr, Int.reduceLT, Int.reduceNeg, int_bl, int_int, sli_tup, list_ref hn]))).trans hb
  have f2 := for_of (r := iSeq (eVar 2)) (t := .tp [.nm 5, .nm 6, .nm 7]) (b := b_l_due_7 (F k)) (ρ := [some (ruleD kd rn true its), some (.ref ln), some (.tup (its.map It.d)), some (.ref S.length), none, none, none, none, none, none, none]) (S := S ++ [.lst (names.map .str)]) (S' := S ++ [.lst (names.map .str)]) (w := (its.map It.d, .tt)) (by simp only [ev_var, ev_con, ev_bin, ev_un, ev_anil, ev_acons, ev_call, ev_tup, ev_lst, ev_not, ev_and, ev_or, ev_if, ev_cbl, ev_btrue, ev_cand, ev_cor, ev_cnot, ev_sli, ev_onone, ev_osome, ev_chain, ev_meth, ev_get2, ev_newK, ev_newT, ev_own, ev_nil, ev_seq, ev_expr, ev_set, ev_ret, ev_retN, ev_cif, ev_brk, ev_ct, ev_asg, ev_put, ev_aug, ev_for, ev_comp, ev_newL, ev_iseq, ev_irange, ev_ienum, ev_yes, Out.bind_ok, Out.bindN_ok, bindS_ok, Tg.set, Tg.sets, List.getElem?_cons_zero, List.getElem?_cons_succ, List.set_cons_zero, List.set_cons_succ, wipeE, List.length_cons, List.length_nil, Nat.reduceAdd, Nat.reduceLeDiff, Nat.reduceEqDiff, ↓reduceIte, Bool.false_eq_true, decide_eq_true_eq, add_int, sub_int, lt_int, gt_int, le_int, ge_int, neg_int, and_int, or_int, xor_int, max2_int, min2_int, mod_pos, fdiv_sm, mul_sm, mul_smr, Int.reduceLT, Int.reduceNeg, int_bl, int_int, sli_tup, walk_tup])
  refine key (fun o => cFor (iSeq (eVar 2)) (.tp [.nm 5, .nm 6, .nm 7]) (b_l_due_7 (F k)) [some (ruleD kd rn true its), some (.ref ln), some (.tup (its.map It.d)), some (.ref S.length), none, none, none, none, none, none, none] (S ++ [.lst (names.map .str)]) = o → ∃ S', runF (c_l_due (F k)) 11 2 [ruleD kd rn true its, .ref ln] S = .ok (.bl (greedy its names)) S' ∧ Gr S S') (fun z S' f e => ?_) (fun left S' v5 v6 v7 v8 z hx hk f e => ?_) f2
  · rw [z]
    exact ⟨S', runF_rt (ρ := [some (ruleD kd rn true its), some (.ref ln), none, none, none, none, none, none, none, none, none]) rfl rfl (start (seq_rt e)), Gr.new g0 f (fun l z => by omega)⟩
  · have g5 := gr_app S' [.lst []]
    have eq0 : eqD (.ref S.length) (.ref S'.length) (S' ++ [.lst []]) = .ok (.bl left.isEmpty) (S' ++ [.lst []]) := by
      have t1 : toP 40 (S' ++ [.lst []]) (.ref S.length) = some (.list (left.map .str)) := by simp only [toP, g5.at hx, toPs_strs, Option.map_some]
      have t2 : toP 40 (S' ++ [.lst []]) (.ref S'.length) = some (.list []) := by simp only [toP, at_new, toPs, Option.map_some]
      have s1 := shp_strs left hk
      have s2 : SeqAt.shaped (.list []) = true := by rfl
      simp only [eqD, eqq, t1, t2, s1, s2, and_self, ↓reduceIte]
      cases left with
      | nil => rw [PyData.eqv]; rfl
      | cons x xs => rw [PyData.eqv, List.map_cons, PyData.eqvAll]; rfl
    rw [z]
    refine ⟨S' ++ [.lst []], runF_rt (ρ := [some (ruleD kd rn true its), some (.ref ln), none, none, none, none, none, none, none, none, none]) rfl rfl (start ((seq_of e).trans (ret_of ?_))), (Gr.new g0 f (fun l z => by omega)).trans g5⟩
    simp only [ev_var, ev_con, ev_bin, ev_un, ev_anil, ev_acons, ev_call, ev_tup, ev_lst, ev_not, ev_and, ev_or, ev_if, ev_cbl, ev_btrue, ev_cand, ev_cor, ev_cnot, ev_sli, ev_onone, ev_osome, ev_chain, ev_meth, ev_get2, ev_newK, ev_newT, ev_own, ev_nil, ev_seq, ev_expr, ev_set, ev_ret, ev_retN, ev_cif, ev_brk, ev_ct, ev_asg, ev_put, ev_aug, ev_for, ev_comp, ev_newL, ev_iseq, ev_irange, ev_ienum, ev_yes, Out.bind_ok, Out.bindN_ok, bindS_ok, Tg.set, Tg.sets, List.getElem?_cons_zero, List.getElem?_cons_succ, List.set_cons_zero, List.set_cons_succ, wipeE, List.length_cons, List.length_nil, Nat.reduceAdd, Nat.reduceLeDiff, Nat.reduceEqDiff, ↓reduceIte, Bool.false_eq_true, decide_eq_true_eq, add_int, sub_int, lt_int, gt_int, le_int, ge_int, neg_int, and_int, or_int, xor_int, max2_int, min2_int, mod_pos, fdiv_sm, mul_sm, mul_smr, Int.reduceLT, Int.reduceNeg, int_bl, int_int, sli_tup, sline 0 (by omega), eq0]

/-! what is drawn -/
structure Ds (S : Sto) (l : Nat) (ds : List Int) : Prop where
  h : S[l]? = some (.lst (ds.map .int))
  len : ds.length = 24
  pos : ∀ x ∈ ds, 0 ≤ x
theorem Ds.fr {S S' : Sto} {l : Nat} {ds : List Int} (a : Ds S l ds) {P : Nat → Prop} (f : Fr P S S') (n : ¬ P l) : Ds S' l ds := ⟨f.get _ _ a.h n, a.len, a.pos⟩
theorem Ds.gr {S S' : Sto} {l : Nat} {ds : List Int} (a : Ds S l ds) (f : Gr S S') : Ds S' l ds := a.fr f id
theorem Ds.at {S : Sto} {l : Nat} {ds : List Int} (a : Ds S l ds) {i : Nat} (hi : i < 24) : ∃ x : Int, 0 ≤ x ∧ ∀ S', Gr S S' → idxD (.ref l) (.int (i : Nat)) S' = .ok (.int x) S' := by
  have hl : i < ds.length := by rw [a.len]; exact hi
  exact ⟨ds[i], a.pos _ (List.getElem_mem hl), fun S' g => idx_ref (g.at a.h) (atI_nat (by rw [List.getElem?_map, List.getElem?_eq_getElem hl]; rfl))⟩
theorem items_run {k l p : Nat} {ds : List Int} {pool : List Str} {S : Sto} (hd : Ds S l ds) (hp : S[p]? = some (.lst (pool.map .str))) (p3 : pool.length = 3) (pn : pool.Nodup) (ps : ∀ x ∈ pool, Sk x) : ∃ its S', F (k + 1) .l_items [.ref l, .ref p] S = .ok (.tup (its.map It.d)) S' ∧ Gr S S' ∧ ItOk its := by
  rw [F_l_items]
  obtain ⟨d0, d0p, e0⟩ := hd.at (i := 0) (by omega)
  obtain ⟨d4, d4p, e4⟩ := hd.at (i := 4) (by omega)
  have m0 := Int.emod_nonneg d0 (b := 4) (by omega)
  have m1 := Int.emod_lt_of_pos d0 (b := 4) (by omega)
  have g0 := gr_app S [.lst []]
  obtain ⟨ρ', S', e, v3, v4, v5, v6, its, rfl, f, hx, hl, hi⟩ := loop_all (ck := Ck.tt.ok) (t := .nm 3) (b := b_l_items_1 (F k)) (S := S ++ [.lst []]) (ρ := [some (.ref l), some (.ref p), some (.ref S.length), none, none, none, none])
    (fun i ρ S' => ∃ (v3 v4 v5 v6 : Option Dv) (its : List It), ρ = [some (.ref l), some (.ref p), some (.ref S.length), v3, v4, v5, v6] ∧ Fr (· = S.length) (S ++ [.lst []]) S' ∧ S'[S.length]? = some (.lst (its.map It.d)) ∧ its.length = i ∧ ∀ (j : Nat) (t : It), its[j]? = some t → pool[((d4 + j) % 3).toNat]? = some t.nm ∧ t.low ≤ 2 ∧ ∀ h, t.high = some h → t.low ≤ h ∧ h ≤ 2) (rangeL 0 (d0 % 4))
    ⟨none, none, none, none, [], rfl, .refl _, at_new _ _, rfl, by simp⟩
    (fun i v ρ S2 hv ⟨v3, v4, v5, v6, its, hρ, f, hx, hl, hi⟩ => by
      subst hρ
      obtain ⟨rfl, hlt⟩ := rangeL_get hv
      refine ⟨trivial, _, rfl, ?_⟩
      have gS : Gr S S2 := Gr.new g0 f fun l z => by omega
      obtain ⟨dk, dkp, ek⟩ := hd.at (i := 1 + i) (by omega)
      have ek2 : idxD (.ref l) (.int (1 + (0 + (i : Int)))) S2 = .ok (.int dk) S2 := by
        rw [show (1 + (0 + (i : Int))) = ((1 + i : Nat) : Int) by omega]; exact ek S2 gS
      have n0 := Int.emod_nonneg dk (b := 3) (by omega)
      have n1 := Int.emod_lt_of_pos dk (b := 3) (by omega)
      obtain ⟨n, hn⟩ := Int.eq_ofNat_of_zero_le n0
      have n2 : n ≤ 2 := by omega
      have el : ([.non, .int (dk % 3), .int 2, .int (dk % 3 + (2 - dk % 3) / 2)] : List Dv) = ([none, some n, some 2, some (n + (2 - n) / 2)] : List (Option Nat)).map hiD := by
        rw [hn]
        have : n = 0 ∨ n = 1 ∨ n = 2 := by omega
        rcases this with rfl | rfl | rfl <;> rfl
      obtain ⟨hd', hm, eh⟩ := atI_mod (xs := ([none, some n, some 2, some (n + (2 - n) / 2)] : List (Option Nat)).map hiD) (by simp) (dk / 3)
      obtain ⟨hi', hm', rfl⟩ := List.mem_map.mp hm
      have g2 := gr_app S2 [.lst (([none, some n, some 2, some (n + (2 - n) / 2)] : List (Option Nat)).map hiD)]
      have eh2 : idxD (.ref S2.length) (.int (dk / 3 % 4)) (S2 ++ [Ob.lst (([none, some n, some 2, some (n + (2 - n) / 2)] : List (Option Nat)).map hiD)]) = .ok (hiD hi') (S2 ++ [Ob.lst (([none, some n, some 2, some (n + (2 - n) / 2)] : List (Option Nat)).map hiD)]) := idx_ref (at_new _ _) eh
      have q0 := Int.emod_nonneg (d4 + i) (b := 3) (by omega)
      have q1 := Int.emod_lt_of_pos (d4 + i) (b := 3) (by omega)
      obtain ⟨x, hx0⟩ : ∃ x, pool[((d4 + i) % 3).toNat]? = some x := ⟨_, List.getElem?_eq_getElem (by omega)⟩
      have ex : idxD (.ref p) (.int ((d4 + (0 + (i : Int))) % 3)) (S2 ++ [Ob.lst (([none, some n, some 2, some (n + (2 - n) / 2)] : List (Option Nat)).map hiD)]) = .ok (.str x) (S2 ++ [Ob.lst (([none, some n, some 2, some (n + (2 - n) / 2)] : List (Option Nat)).map hiD)]) := by
        have := idx_ref (S := S2 ++ [Ob.lst (([none, some n, some 2, some (n + (2 - n) / 2)] : List (Option Nat)).map hiD)]) (g2.at (gS.at hp)) (atI_nat (i := ((d4 + i) % 3).toNat) (a := .str x) (by rw [List.getElem?_map, hx0]; rfl))
        rw [show (((d4 + i) % 3).toNat : Int) = (d4 + (0 + (i : Int))) % 3 by rw [Int.toNat_of_nonneg q0, Int.zero_add]] at this
        exact this
      have ln : (its.map It.d).length < sizeLine := by rw [List.length_map]; show _ < 2 ^ 24; omega
      refine ⟨[some (.ref l), some (.ref p), some (.ref S.length), some (.int (0 + i)), some (.int dk), some (.int (dk % 3)), some (hiD hi')], (S2 ++ [Ob.lst (([none, some n, some 2, some (n + (2 - n) / 2)] : List (Option Nat)).map hiD)]).set S.length (Ob.lst ((its ++ [It.mk x n hi']).map It.d)), .inl ?_, _, _, _, _, its ++ [It.mk x n hi'], rfl, Fr.trans f (Fr.trans g2.any (fr_set _ _ _)), at_set (g2.at hx), by simp [hl], fun j t ht => ?_⟩
      · unfold b_l_items_1
        refine (seq_of (set_of (d := .int dk) (S' := S2) (by simp only [ev_var, ev_con, ev_bin, ev_un, ev_anil, ev_acons, ev_call, ev_tup, ev_lst, ev_not, ev_and, ev_or, ev_if, ev_cbl, ev_btrue, ev_cand, ev_cor, ev_cnot, ev_sli, ev_onone, ev_osome, ev_chain, ev_meth, ev_get2, ev_newK, ev_newT, ev_own, ev_nil, ev_seq, ev_expr, ev_set, ev_ret, ev_retN, ev_cif, ev_brk, ev_ct, ev_asg, ev_put, ev_aug, ev_for, ev_comp, ev_newL, ev_iseq, ev_irange, ev_ienum, ev_yes, Out.bind_ok, Out.bindN_ok, bindS_ok, Tg.set, Tg.sets, List.getElem?_cons_zero, List.getElem?_cons_succ, List.set_cons_zero, List.set_cons_succ, wipeE, List.length_cons, List.length_nil, Nat.reduceAdd, Nat.reduceLeDiff, Nat.reduceEqDiff, ↓reduceIte, Bool.false_eq_true, decide_eq_true_eq, add_int, sub_int, lt_int, gt_int, le_int, ge_int, neg_int, and_int, or_int, xor_int, max2_int, min2_int, mod_pos, fdiv_sm, mul_sm, mul_smr, Int.reduceLT, Int.reduceNeg, int_bl, int_int, sli_tup, ek2]))).trans ?_
        refine (seq_of (set_of (d := .int (dk % 3)) (S' := S2) (by simp only [ev_var, ev_con, ev_bin, ev_un, ev_anil, ev_acons, ev_call, ev_tup, ev_lst, ev_not, ev_and, ev_or, ev_if, ev_cbl, ev_btrue, ev_cand, ev_cor, ev_cnot, ev_sli, ev_onone, ev_osome, ev_chain, ev_meth, ev_get2, ev_newK, ev_newT, ev_own, ev_nil, ev_seq, ev_expr, ev_set, ev_ret, ev_retN, ev_cif, ev_brk, ev_ct, ev_asg, ev_put, ev_aug, ev_for, ev_comp, ev_newL, ev_iseq, ev_irange, ev_ienum, ev_yes, Out.bind_ok, Out.bindN_ok, bindS_ok, Tg.set, Tg.sets, List.getElem?_cons_zero, List.getElem?_cons_succ, List.set_cons_zero, List.set_cons_succ, wipeE, List.length_cons, List.length_nil, Nat.reduceAdd, Nat.reduceLeDiff, Nat.reduceEqDiff, ↓reduceIte, Bool.false_eq_true, decide_eq_true_eq, add_int, sub_int, lt_int, gt_int, le_int, ge_int, neg_int, and_int, or_int, xor_int, max2_int, min2_int, mod_pos, fdiv_sm, mul_sm, mul_smr, Int.reduceLT, Int.reduceNeg, int_bl, int_int, sli_tup]))).trans ?_
        have s4 : (([none, some n, some 2, some (n + (2 - n) / 2)] : List (Option Nat)).map hiD).length ≤ sizeLine := sline 4 (by omega)
        refine (seq_of (set_of (d := hiD hi') (S' := S2 ++ [Ob.lst (([none, some n, some 2, some (n + (2 - n) / 2)] : List (Option Nat)).map hiD)]) (by simp only [ev_var, ev_con, ev_bin, ev_un, ev_anil, ev_acons, ev_call, ev_tup, ev_lst, ev_not, ev_and, ev_or, ev_if, ev_cbl, ev_btrue, ev_cand, ev_cor, ev_cnot, ev_sli, ev_onone, ev_osome, ev_chain, ev_meth, ev_get2, ev_newK, ev_newT, ev_own, ev_nil, ev_seq, ev_expr, ev_set, ev_ret, ev_retN, ev_cif, ev_brk, ev_ct, ev_asg, ev_put, ev_aug, ev_for, ev_comp, ev_newL, ev_iseq, ev_irange, ev_ienum, ev_yes, Out.bind_ok, Out.bindN_ok, bindS_ok, Tg.set, Tg.sets, List.getElem?_cons_zero, List.getElem?_cons_succ, List.set_cons_zero, List.set_cons_succ, wipeE, List.length_cons, List.length_nil, Nat.reduceAdd, Nat.reduceLeDiff, Nat.reduceEqDiff, ↓reduceIte, Bool.false_eq_true, decide_eq_true_eq, add_int, sub_int, lt_int, gt_int, le_int, ge_int, neg_int, and_int, or_int, xor_int, max2_int, min2_int, mod_pos, fdiv_sm, mul_sm, mul_smr, Int.reduceLT, Int.reduceNeg, int_bl, int_int, sli_tup, el, s4, eh2]))).trans ?_
        have e4' := e4 _ (gS.trans g2)
        have e4'' : idxD (.ref l) (.int 4) (S2 ++ [Ob.lst (([none, some n, some 2, some (n + (2 - n) / 2)] : List (Option Nat)).map hiD)]) = .ok (.int d4) (S2 ++ [Ob.lst (([none, some n, some 2, some (n + (2 - n) / 2)] : List (Option Nat)).map hiD)]) := e4'
        refine expr_of (d := .non) ?_
        have em : (its ++ [It.mk x n hi']).map It.d = its.map It.d ++ [Dv.tup [.str x, .int n, hiD hi']] := by rw [List.map_append]; rfl
        simp only [ev_var, ev_con, ev_bin, ev_un, ev_anil, ev_acons, ev_call, ev_tup, ev_lst, ev_not, ev_and, ev_or, ev_if, ev_cbl, ev_btrue, ev_cand, ev_cor, ev_cnot, ev_sli, ev_onone, ev_osome, ev_chain, ev_meth, ev_get2, ev_newK, ev_newT, ev_own, ev_nil, ev_seq, ev_expr, ev_set, ev_ret, ev_retN, ev_cif, ev_brk, ev_ct, ev_asg, ev_put, ev_aug, ev_for, ev_comp, ev_newL, ev_iseq, ev_irange, ev_ienum, ev_yes, Out.bind_ok, Out.bindN_ok, bindS_ok, Tg.set, Tg.sets, List.getElem?_cons_zero, List.getElem?_cons_succ, List.set_cons_zero, List.set_cons_succ, wipeE, List.length_cons, List.length_nil, Nat.reduceAdd, Nat.reduceLeDiff, Nat.reduceEqDiff, ↓reduceIte, Bool.false_eq_true, decide_eq_true_eq, add_int, sub_int, lt_int, gt_int, le_int, ge_int, neg_int, and_int, or_int, xor_int, max2_int, min2_int, mod_pos, fdiv_sm, mul_sm, mul_smr, Int.reduceLT, Int.reduceNeg, int_bl, int_int, sli_tup, tyq_ref (g2.at hx), e4'', ex, sline 3 (by omega), app_ref (g2.at hx) ln, em, hn]
      · rcases Nat.lt_or_ge j its.length with z | z
        · rw [List.getElem?_append_left z] at ht; exact hi j t ht
        · rw [List.getElem?_append_right z] at ht
          have : j = i := by have := (List.getElem?_eq_some_iff.mp ht).1; simp at this; omega
          subst this
          rw [hl, Nat.sub_self] at ht
          cases ht
          refine ⟨hx0, n2, fun h hh => ?_⟩
          dsimp only at hh ⊢
          subst hh
          simp only [List.mem_cons, Option.some.injEq, List.not_mem_nil, or_false, reduceCtorEq, false_or] at hm'
          omega)
    (fun _ _ _ => trivial)
  rw [rangeL_len] at hl
  have g1 : Gr S S' := Gr.new g0 f fun l z => by omega
  refine ⟨its, S', runF_rt (ρ := [some (.ref l), some (.ref p), none, none, none, none, none]) rfl rfl ?_, g1, ⟨by omega, ?_, fun t ht => ?_, fun t ht => ?_, fun t ht => ?_⟩⟩
  · unfold c_l_items
    have e0' : idxD (.ref l) (.int 0) (S ++ [Ob.lst []]) = .ok (.int d0) (S ++ [Ob.lst []]) := e0 _ g0
    refine (seq_of (by simp only [ev_var, ev_con, ev_bin, ev_un, ev_anil, ev_acons, ev_call, ev_tup, ev_lst, ev_not, ev_and, ev_or, ev_if, ev_cbl, ev_btrue, ev_cand, ev_cor, ev_cnot, ev_sli, ev_onone, ev_osome, ev_chain, ev_meth, ev_get2, ev_newK, ev_newT, ev_own, ev_nil, ev_seq, ev_expr, ev_set, ev_ret, ev_retN, ev_cif, ev_brk, ev_ct, ev_asg, ev_put, ev_aug, ev_for, ev_comp, ev_newL, ev_iseq, ev_irange, ev_ienum, ev_yes, Out.bind_ok, Out.bindN_ok, bindS_ok, Tg.set, Tg.sets, List.getElem?_cons_zero, List.getElem?_cons_succ, List.set_cons_zero, List.set_cons_succ, wipeE, List.length_cons, List.length_nil, Nat.reduceAdd, Nat.reduceLeDiff, Nat.reduceEqDiff, ↓reduceIte, Bool.false_eq_true, decide_eq_true_eq, add_int, sub_int, lt_int, gt_int, le_int, ge_int, neg_int, and_int, or_int, xor_int, max2_int, min2_int, mod_pos, fdiv_sm, mul_sm, mul_smr, Int.reduceLT, Int.reduceNeg, int_bl, int_int, sli_tup, sline 0 (by omega)]; rfl)).trans ?_
    refine (seq_of ((for_of (w := (rangeL 0 (d0 % 4), .tt)) (S' := S ++ [Ob.lst []]) (by simp only [ev_var, ev_con, ev_bin, ev_un, ev_anil, ev_acons, ev_call, ev_tup, ev_lst, ev_not, ev_and, ev_or, ev_if, ev_cbl, ev_btrue, ev_cand, ev_cor, ev_cnot, ev_sli, ev_onone, ev_osome, ev_chain, ev_meth, ev_get2, ev_newK, ev_newT, ev_own, ev_nil, ev_seq, ev_expr, ev_set, ev_ret, ev_retN, ev_cif, ev_brk, ev_ct, ev_asg, ev_put, ev_aug, ev_for, ev_comp, ev_newL, ev_iseq, ev_irange, ev_ienum, ev_yes, Out.bind_ok, Out.bindN_ok, bindS_ok, Tg.set, Tg.sets, List.getElem?_cons_zero, List.getElem?_cons_succ, List.set_cons_zero, List.set_cons_succ, wipeE, List.length_cons, List.length_nil, Nat.reduceAdd, Nat.reduceLeDiff, Nat.reduceEqDiff, ↓reduceIte, Bool.false_eq_true, decide_eq_true_eq, add_int, sub_int, lt_int, gt_int, le_int, ge_int, neg_int, and_int, or_int, xor_int, max2_int, min2_int, mod_pos, fdiv_sm, mul_sm, mul_smr, Int.reduceLT, Int.reduceNeg, int_bl, int_int, sli_tup, e0', rng1_of m0 (by omega)])).trans e)).trans ?_
    exact ret_of (by simp only [ev_var, ev_con, ev_bin, ev_un, ev_anil, ev_acons, ev_call, ev_tup, ev_lst, ev_not, ev_and, ev_or, ev_if, ev_cbl, ev_btrue, ev_cand, ev_cor, ev_cnot, ev_sli, ev_onone, ev_osome, ev_chain, ev_meth, ev_get2, ev_newK, ev_newT, ev_own, ev_nil, ev_seq, ev_expr, ev_set, ev_ret, ev_retN, ev_cif, ev_brk, ev_ct, ev_asg, ev_put, ev_aug, ev_for, ev_comp, ev_newL, ev_iseq, ev_irange, ev_ienum, ev_yes, Out.bind_ok, Out.bindN_ok, bindS_ok, Tg.set, Tg.sets, List.getElem?_cons_zero, List.getElem?_cons_succ, List.set_cons_zero, List.set_cons_succ, wipeE, List.length_cons, List.length_nil, Nat.reduceAdd, Nat.reduceLeDiff, Nat.reduceEqDiff, ↓reduceIte, Bool.false_eq_true, decide_eq_true_eq, add_int, sub_int, lt_int, gt_int, le_int, ge_int, neg_int, and_int, or_int, xor_int, max2_int, min2_int, mod_pos, fdiv_sm, mul_sm, mul_smr, Int.reduceLT, Int.reduceNeg, int_bl, int_int, sli_tup, tuple_ref hx])
  · refine List.pairwise_iff_getElem.mpr fun j j' hj hj' hlt e => ?_
    rw [List.length_map] at hj hj'
    rw [List.getElem_map, List.getElem_map] at e
    have a1 := (hi j _ (List.getElem?_eq_getElem hj)).1
    have a2 := (hi j' _ (List.getElem?_eq_getElem hj')).1
    rw [e] at a1
    have b1 := (List.getElem?_eq_some_iff.mp a1)
    have b2 := (List.getElem?_eq_some_iff.mp a2)
    have := (List.getElem_inj pn).mp (b1.2.trans b2.2.symm)
    omega
  · obtain ⟨j, hj⟩ := List.mem_iff_getElem?.mp ht
    exact ps _ (List.mem_of_getElem? (hi j t hj).1)
  · obtain ⟨j, hj⟩ := List.mem_iff_getElem?.mp ht
    exact (hi j t hj).2.1
  · obtain ⟨j, hj⟩ := List.mem_iff_getElem?.mp ht
    exact (hi j t hj).2.2
structure Nm (S : Sto) (l : Nat) (names : List Str) (b : Nat) : Prop where
  h : S[l]? = some (.lst (names.map .str))
  len : names.length ≤ b
  sk : ∀ x ∈ names, Sk x
theorem mul_ref {S : Sto} {l : Nat} {x : Dv} {c : Nat} (h : S[l]? = some (.lst [x])) (hc : c ≤ 1000) : mulD (.ref l) (.int (c : Nat)) S = newL (List.replicate c x) S := by
  have e : (List.replicate c [x]).flatten = List.replicate c x := by
    induction c with
    | zero => rfl
    | succ c ih => rw [List.replicate_succ, List.flatten_cons, ih (by omega), List.replicate_succ]; rfl
  have hz : ([x] : List Dv).length * ((c : Nat) : Int).toNat ≤ sizeLine := sline _ (by simp only [List.length_cons, List.length_nil, Int.toNat_natCast]; omega)
  simp only [mulD, h]
  rw [if_pos ⟨by omega, by omega, hz⟩, Int.toNat_natCast, e]
theorem add_ref {S : Sto} {l m : Nat} {xs ys : List Dv} (h : S[l]? = some (.lst xs)) (h2 : S[m]? = some (.lst ys)) (hl : xs.length + ys.length ≤ sizeLine) : addD (.ref l) (.ref m) S = newL (xs ++ ys) S := by simp only [addD, h, h2, hl, ↓reduceIte]
theorem row_run {k l : Nat} {ds : List Int} {its : List It} {S : Sto} (hd : Ds S l ds) (ok : ItOk its) : ∃ ln names S', F (k + 1) .l_row [.ref l, .tup (its.map It.d)] S = .ok (.ref ln) S' ∧ Gr S S' ∧ Nm S' ln names 90 ∧ ln ≠ l := by
  rw [F_l_row]
  obtain ⟨d8, d8p, e8⟩ := hd.at (i := 8) (by omega)
  obtain ⟨d9, d9p, e9⟩ := hd.at (i := 9) (by omega)
  have g0 := gr_app S [.lst []]
  have nl : S.length ≠ l := fun e => ne_new hd.h e.symm
  obtain ⟨ρ', S', e, ln, v3, v4, v5, v6, names, rfl, g, nn, nl2⟩ := loop_all (ck := Ck.tt.ok) (t := .tp [.nm 3, .nm 4]) (b := b_l_row_1 (F k)) (S := S ++ [.lst []]) (ρ := [some (.ref l), some (.tup (its.map It.d)), some (.ref S.length), none, none, none, none])
    (fun i ρ S' => ∃ (ln : Nat) (v3 v4 v5 v6 : Option Dv) (names : List Str), ρ = [some (.ref l), some (.tup (its.map It.d)), some (.ref ln), v3, v4, v5, v6] ∧ Gr S S' ∧ Nm S' ln names (i * 30) ∧ ln ≠ l) (enumL (its.map It.d))
    ⟨S.length, none, none, none, none, [], rfl, g0, ⟨at_new _ _, by simp, by simp⟩, nl⟩
    (fun i v ρ S2 hv ⟨ln, v3, v4, v5, v6, names, hρ, g, nn, nl2⟩ => by
      subst hρ
      rw [enumL_get, List.getElem?_map, Option.map_map, Option.map_eq_some_iff] at hv
      obtain ⟨t, ht, rfl⟩ := hv
      have htm := List.mem_of_getElem? ht
      have hi := (List.getElem?_eq_some_iff.mp ht).1
      have i3 := ok.len
      refine ⟨trivial, _, rfl, ?_⟩
      have t0 : ∀ S, idxD t.d (.int 0) S = .ok (.str t.nm) S := fun S => idx_t0
      have t1 : ∀ S, idxD t.d (.int 1) S = .ok (.int t.low) S := fun S => idx_t1
      have t2 : ∀ S, idxD t.d (.int 2) S = .ok (hiD t.high) S := fun S => idx_t2
      have lo2 := ok.low t htm
      obtain ⟨dk, dkp, ek⟩ := hd.at (i := 5 + i) (by omega)
      have ek2 : idxD (.ref l) (.int (5 + ((0 + i : Nat) : Int))) S2 = .ok (.int dk) S2 := by
        rw [show (5 + ((0 + i : Nat) : Int)) = ((5 + i : Nat) : Int) by omega]; exact ek S2 g
      -- the first count
      have st1 : ∃ (c : Nat) (S3 : Sto), c ≤ 25 ∧ Gr S2 S3 ∧ (cIf (cBl (eBin isD (eBin idxD (eVar 4) (eCon (.int 2))) (eCon .non))) (cSet 5 (eBin addD (eVar 5) (eBin modD (eVar 6) (eBin idxD (eLst (aCons (eCon (.int 3)) (aCons (eCon (.int 20)) (aNil)))) (eBin modD (eBin fdivD (eVar 6) (eCon (.int 3))) (eCon (.int 2))))))) (cSet 5 (eBin addD (eVar 5) (eBin modD (eVar 6) (eBin addD (eBin subD (eBin idxD (eVar 4) (eCon (.int 2))) (eBin idxD (eVar 4) (eCon (.int 1)))) (eCon (.int 1)))))))
          [some (.ref l), some (.tup (its.map It.d)), some (.ref ln), some (.int ((0 + i : Nat) : Int)), some t.d, some (.int t.low), some (.int dk)] S2 = .fl (.nx [some (.ref l), some (.tup (its.map It.d)), some (.ref ln), some (.int ((0 + i : Nat) : Int)), some t.d, some (.int (c : Nat)), some (.int dk)]) S3 := by
        cases hh : t.high with
        | none =>
          rw [hh] at t2
          obtain ⟨m, hm, em⟩ := atI_mod (xs := ([.int 3, .int 20] : List Dv)) (by simp) (dk / 3)
          have em2 : idxD (.ref S2.length) (.int (dk / 3 % 2)) (S2 ++ [Ob.lst [.int 3, .int 20]]) = .ok m (S2 ++ [Ob.lst [.int 3, .int 20]]) := idx_ref (at_new _ _) em
          simp only [List.mem_cons, List.not_mem_nil, or_false] at hm
          obtain ⟨w, rfl, w0, w1⟩ : ∃ w : Int, m = .int w ∧ 0 < w ∧ w ≤ 20 := by
            rcases hm with rfl | rfl
            · exact ⟨3, rfl, by omega, by omega⟩
            · exact ⟨20, rfl, by omega, by omega⟩
          have r0 := Int.emod_nonneg dk (b := w) (by omega)
          have r1 := Int.emod_lt_of_pos dk (b := w) w0
          obtain ⟨c, hc⟩ := Int.eq_ofNat_of_zero_le (show 0 ≤ (t.low : Int) + dk % w by omega)
          refine ⟨c, _, by omega, gr_app S2 [.lst [.int 3, .int 20]], ?_⟩
          refine (if_t (S' := S2) (by simp only [ev_var, ev_con, ev_bin, ev_un, ev_anil, ev_acons, ev_call, ev_tup, ev_lst, ev_not, ev_and, ev_or, ev_if, ev_cbl, ev_btrue, ev_cand, ev_cor, ev_cnot, ev_sli, ev_onone, ev_osome, ev_chain, ev_meth, ev_get2, ev_newK, ev_newT, ev_own, ev_nil, ev_seq, ev_expr, ev_set, ev_ret, ev_retN, ev_cif, ev_brk, ev_ct, ev_asg, ev_put, ev_aug, ev_for, ev_comp, ev_newL, ev_iseq, ev_irange, ev_ienum, ev_yes, Out.bind_ok, Out.bindN_ok, bindS_ok, Tg.set, Tg.sets, List.getElem?_cons_zero, List.getElem?_cons_succ, List.set_cons_zero, List.set_cons_succ, wipeE, List.length_cons, List.length_nil, Nat.reduceAdd, Nat.reduceLeDiff, Nat.reduceEqDiff, ↓reduceIte, Bool.false_eq_true, decide_eq_true_eq, add_int, sub_int, lt_int, gt_int, le_int, ge_int, neg_int, and_int, or_int, xor_int, max2_int, min2_int, mod_pos, fdiv_sm, mul_sm, mul_smr, Int.reduceLT, Int.reduceNeg, int_bl, int_int, sli_tup, t2, isD_hi, Option.isNone_none])).trans (set_of ?_)
          have md : modD (.int dk) (.int w) (S2 ++ [Ob.lst [.int 3, .int 20]]) = .ok (.int (dk % w)) (S2 ++ [Ob.lst [.int 3, .int 20]]) := mod_pos (S := S2 ++ [.lst [.int 3, .int 20]]) w0
          simp only [ev_var, ev_con, ev_bin, ev_un, ev_anil, ev_acons, ev_call, ev_tup, ev_lst, ev_not, ev_and, ev_or, ev_if, ev_cbl, ev_btrue, ev_cand, ev_cor, ev_cnot, ev_sli, ev_onone, ev_osome, ev_chain, ev_meth, ev_get2, ev_newK, ev_newT, ev_own, ev_nil, ev_seq, ev_expr, ev_set, ev_ret, ev_retN, ev_cif, ev_brk, ev_ct, ev_asg, ev_put, ev_aug, ev_for, ev_comp, ev_newL, ev_iseq, ev_irange, ev_ienum, ev_yes, Out.bind_ok, Out.bindN_ok, bindS_ok, Tg.set, Tg.sets, List.getElem?_cons_zero, List.getElem?_cons_succ, List.set_cons_zero, List.set_cons_succ, wipeE, List.length_cons, List.length_nil, Nat.reduceAdd, Nat.reduceLeDiff, Nat.reduceEqDiff, ↓reduceIte, Bool.false_eq_true, decide_eq_true_eq, add_int, sub_int, lt_int, gt_int, le_int, ge_int, neg_int, and_int, or_int, xor_int, max2_int, min2_int, mod_pos, fdiv_sm, mul_sm, mul_smr, Int.reduceLT, Int.reduceNeg, int_bl, int_int, sli_tup, sline 2 (by omega), em2, md, hc]
        | some h =>
          rw [hh] at t2
          obtain ⟨h1, h2⟩ := ok.high t htm h hh
          have w0 : (0 : Int) < (h : Int) - (t.low : Int) + 1 := by omega
          have r0 := Int.emod_nonneg dk (b := (h : Int) - (t.low : Int) + 1) (by omega)
          have r1 := Int.emod_lt_of_pos dk (b := (h : Int) - (t.low : Int) + 1) w0
          obtain ⟨c, hc⟩ := Int.eq_ofNat_of_zero_le (show 0 ≤ (t.low : Int) + dk % ((h : Int) - (t.low : Int) + 1) by omega)
          refine ⟨c, S2, by omega, .refl _, ?_⟩
          refine (if_f (S' := S2) (by simp only [ev_var, ev_con, ev_bin, ev_un, ev_anil, ev_acons, ev_call, ev_tup, ev_lst, ev_not, ev_and, ev_or, ev_if, ev_cbl, ev_btrue, ev_cand, ev_cor, ev_cnot, ev_sli, ev_onone, ev_osome, ev_chain, ev_meth, ev_get2, ev_newK, ev_newT, ev_own, ev_nil, ev_seq, ev_expr, ev_set, ev_ret, ev_retN, ev_cif, ev_brk, ev_ct, ev_asg, ev_put, ev_aug, ev_for, ev_comp, ev_newL, ev_iseq, ev_irange, ev_ienum, ev_yes, Out.bind_ok, Out.bindN_ok, bindS_ok, Tg.set, Tg.sets, List.getElem?_cons_zero, List.getElem?_cons_succ, List.set_cons_zero, List.set_cons_succ, wipeE, List.length_cons, List.length_nil, Nat.reduceAdd, Nat.reduceLeDiff, Nat.reduceEqDiff, ↓reduceIte, Bool.false_eq_true, decide_eq_true_eq, add_int, sub_int, lt_int, gt_int, le_int, ge_int, neg_int, and_int, or_int, xor_int, max2_int, min2_int, mod_pos, fdiv_sm, mul_sm, mul_smr, Int.reduceLT, Int.reduceNeg, int_bl, int_int, sli_tup, t2, isD_hi, Option.isNone_some])).trans (set_of ?_)
          have md : modD (.int dk) (.int ((h : Int) - (t.low : Int) + 1)) S2 = .ok (.int (dk % ((h : Int) - (t.low : Int) + 1))) S2 := mod_pos (S := S2) w0
          simp only [ev_var, ev_con, ev_bin, ev_un, ev_anil, ev_acons, ev_call, ev_tup, ev_lst, ev_not, ev_and, ev_or, ev_if, ev_cbl, ev_btrue, ev_cand, ev_cor, ev_cnot, ev_sli, ev_onone, ev_osome, ev_chain, ev_meth, ev_get2, ev_newK, ev_newT, ev_own, ev_nil, ev_seq, ev_expr, ev_set, ev_ret, ev_retN, ev_cif, ev_brk, ev_ct, ev_asg, ev_put, ev_aug, ev_for, ev_comp, ev_newL, ev_iseq, ev_irange, ev_ienum, ev_yes, Out.bind_ok, Out.bindN_ok, bindS_ok, Tg.set, Tg.sets, List.getElem?_cons_zero, List.getElem?_cons_succ, List.set_cons_zero, List.set_cons_succ, wipeE, List.length_cons, List.length_nil, Nat.reduceAdd, Nat.reduceLeDiff, Nat.reduceEqDiff, ↓reduceIte, Bool.false_eq_true, decide_eq_true_eq, add_int, sub_int, lt_int, gt_int, le_int, ge_int, neg_int, and_int, or_int, xor_int, max2_int, min2_int, mod_pos, fdiv_sm, mul_sm, mul_smr, Int.reduceLT, Int.reduceNeg, int_bl, int_int, sli_tup, t1, t2, hiD, md, hc]
      obtain ⟨c, S3, c25, g3, es1⟩ := st1
      -- one more or fewer
      have st2 : ∃ (c2 : Nat) (S4 : Sto), c2 ≤ 30 ∧ Gr S3 S4 ∧ (cIf (cAnd (cBl (eBin gtD (eBin modD (eBin idxD (eVar 0) (eCon (.int 8))) (eCon (.int 3))) (eCon (.int 0)))) (cBl (eBin eqD (eBin modD (eBin idxD (eVar 0) (eCon (.int 9))) (eCall lenD (aCons (eVar 1) (aNil)))) (eVar 3)))) (cSet 5 (eCall max2D (aCons (eCon (.int 0)) (aCons (eBin idxD (eLst (aCons (eBin subD (eBin idxD (eVar 4) (eCon (.int 1))) (eCon (.int 1))) (aCons (eBin addD (eOrV (eBin idxD (eVar 4) (eCon (.int 2))) (eVar 5)) (eCon (.int 1))) (aNil)))) (eBin modD (eBin fdivD (eBin idxD (eVar 0) (eCon (.int 8))) (eCon (.int 3))) (eCon (.int 2)))) (aNil))))) (cNil))
          [some (.ref l), some (.tup (its.map It.d)), some (.ref ln), some (.int ((0 + i : Nat) : Int)), some t.d, some (.int (c : Nat)), some (.int dk)] S3 = .fl (.nx [some (.ref l), some (.tup (its.map It.d)), some (.ref ln), some (.int ((0 + i : Nat) : Int)), some t.d, some (.int (c2 : Nat)), some (.int dk)]) S4 := by
        have e8' : idxD (.ref l) (.int 8) S3 = .ok (.int d8) S3 := e8 S3 (g.trans g3)
        have e9' : idxD (.ref l) (.int 9) S3 = .ok (.int d9) S3 := e9 S3 (g.trans g3)
        have lp : (0 : Int) < ((its.map It.d).length : Int) := by rw [List.length_map]; omega
        have md : modD (.int d9) (.int ((its.map It.d).length : Int)) S3 = .ok (.int (d9 % ((its.map It.d).length : Int))) S3 := mod_pos (S := S3) lp
        by_cases q1 : 0 < d8 % 3
        · by_cases q2 : d9 % ((its.map It.d).length : Int) = ((0 + i : Nat) : Int)
          · have orv : ∃ y : Int, 0 ≤ y ∧ y ≤ 25 ∧ ∀ S, (eOrV (eBin idxD (eVar 4) (eCon (.int 2))) (eVar 5)) [some (.ref l), some (.tup (its.map It.d)), some (.ref ln), some (.int ((0 + i : Nat) : Int)), some t.d, some (.int (c : Nat)), some (.int dk)] S = .ok (.int y) S := by
              cases hh : t.high with
              | none =>
                rw [hh] at t2
                exact ⟨c, by omega, by omega, fun S => by simp only [ev_orV, ev_var, ev_con, ev_bin, ev_un, ev_anil, ev_acons, ev_call, ev_tup, ev_lst, ev_not, ev_and, ev_or, ev_if, ev_cbl, ev_btrue, ev_cand, ev_cor, ev_cnot, ev_sli, ev_onone, ev_osome, ev_chain, ev_meth, ev_get2, ev_newK, ev_newT, ev_own, ev_nil, ev_seq, ev_expr, ev_set, ev_ret, ev_retN, ev_cif, ev_brk, ev_ct, ev_asg, ev_put, ev_aug, ev_for, ev_comp, ev_newL, ev_iseq, ev_irange, ev_ienum, ev_yes, Out.bind_ok, Out.bindN_ok, bindS_ok, Tg.set, Tg.sets, List.getElem?_cons_zero, List.getElem?_cons_succ, List.set_cons_zero, List.set_cons_succ, wipeE, List.length_cons, List.length_nil, Nat.reduceAdd, Nat.reduceLeDiff, Nat.reduceEqDiff, ↓reduceIte, Bool.false_eq_true, decide_eq_true_eq, add_int, sub_int, lt_int, gt_int, le_int, ge_int, neg_int, and_int, or_int, xor_int, max2_int, min2_int, mod_pos, fdiv_sm, mul_sm, mul_smr, Int.reduceLT, Int.reduceNeg, int_bl, int_int, sli_tup, t2, hiD, truD]⟩
              | some h =>
                rw [hh] at t2
                obtain ⟨h1, h2⟩ := ok.high t htm h hh
                by_cases z : h = 0
                · subst z
                  exact ⟨c, by omega, by omega, fun S => by simp only [ev_orV, ev_var, ev_con, ev_bin, ev_un, ev_anil, ev_acons, ev_call, ev_tup, ev_lst, ev_not, ev_and, ev_or, ev_if, ev_cbl, ev_btrue, ev_cand, ev_cor, ev_cnot, ev_sli, ev_onone, ev_osome, ev_chain, ev_meth, ev_get2, ev_newK, ev_newT, ev_own, ev_nil, ev_seq, ev_expr, ev_set, ev_ret, ev_retN, ev_cif, ev_brk, ev_ct, ev_asg, ev_put, ev_aug, ev_for, ev_comp, ev_newL, ev_iseq, ev_irange, ev_ienum, ev_yes, Out.bind_ok, Out.bindN_ok, bindS_ok, Tg.set, Tg.sets, List.getElem?_cons_zero, List.getElem?_cons_succ, List.set_cons_zero, List.set_cons_succ, wipeE, List.length_cons, List.length_nil, Nat.reduceAdd, Nat.reduceLeDiff, Nat.reduceEqDiff, ↓reduceIte, Bool.false_eq_true, decide_eq_true_eq, add_int, sub_int, lt_int, gt_int, le_int, ge_int, neg_int, and_int, or_int, xor_int, max2_int, min2_int, mod_pos, fdiv_sm, mul_sm, mul_smr, Int.reduceLT, Int.reduceNeg, int_bl, int_int, sli_tup, t2, hiD, truD]; rfl⟩
                · refine ⟨h, by omega, by omega, fun S => ?_⟩
                  have : ((h : Int) != 0) = true := by simpa using z
                  simp only [ev_orV, ev_var, ev_con, ev_bin, ev_un, ev_anil, ev_acons, ev_call, ev_tup, ev_lst, ev_not, ev_and, ev_or, ev_if, ev_cbl, ev_btrue, ev_cand, ev_cor, ev_cnot, ev_sli, ev_onone, ev_osome, ev_chain, ev_meth, ev_get2, ev_newK, ev_newT, ev_own, ev_nil, ev_seq, ev_expr, ev_set, ev_ret, ev_retN, ev_cif, ev_brk, ev_ct, ev_asg, ev_put, ev_aug, ev_for, ev_comp, ev_newL, ev_iseq, ev_irange, ev_ienum, ev_yes, Out.bind_ok, Out.bindN_ok, bindS_ok, Tg.set, Tg.sets, List.getElem?_cons_zero, List.getElem?_cons_succ, List.set_cons_zero, List.set_cons_succ, wipeE, List.length_cons, List.length_nil, Nat.reduceAdd, Nat.reduceLeDiff, Nat.reduceEqDiff, ↓reduceIte, Bool.false_eq_true, decide_eq_true_eq, add_int, sub_int, lt_int, gt_int, le_int, ge_int, neg_int, and_int, or_int, xor_int, max2_int, min2_int, mod_pos, fdiv_sm, mul_sm, mul_smr, Int.reduceLT, Int.reduceNeg, int_bl, int_int, sli_tup, t2, hiD, truD, this]
            obtain ⟨y, y0, y1, ey⟩ := orv
            obtain ⟨m, hm, em⟩ := atI_mod (xs := ([.int ((t.low : Int) - 1), .int (y + 1)] : List Dv)) (by simp) (d8 / 3)
            have em2 : idxD (.ref S3.length) (.int (d8 / 3 % 2)) (S3 ++ [Ob.lst [.int ((t.low : Int) - 1), .int (y + 1)]]) = .ok m (S3 ++ [Ob.lst [.int ((t.low : Int) - 1), .int (y + 1)]]) := idx_ref (at_new _ _) em
            simp only [List.mem_cons, List.not_mem_nil, or_false] at hm
            obtain ⟨w, rfl, w0, w1⟩ : ∃ w : Int, m = .int w ∧ -1 ≤ w ∧ w ≤ 30 := by
              rcases hm with rfl | rfl
              · exact ⟨_, rfl, by omega, by omega⟩
              · exact ⟨_, rfl, by omega, by omega⟩
            obtain ⟨c2, hc2⟩ := Int.eq_ofNat_of_zero_le (show 0 ≤ max 0 w by omega)
            have g4 := gr_app S3 [.lst [.int ((t.low : Int) - 1), .int (y + 1)]]
            have e8'' : idxD (.ref l) (.int 8) (S3 ++ [Ob.lst [.int ((t.low : Int) - 1), .int (y + 1)]]) = .ok (.int d8) (S3 ++ [Ob.lst [.int ((t.low : Int) - 1), .int (y + 1)]]) := e8 _ ((g.trans g3).trans g4)
            refine ⟨c2, _, by omega, g4, ?_⟩
            refine (if_t (S' := S3) (by simp only [ev_var, ev_con, ev_bin, ev_un, ev_anil, ev_acons, ev_call, ev_tup, ev_lst, ev_not, ev_and, ev_or, ev_if, ev_cbl, ev_btrue, ev_cand, ev_cor, ev_cnot, ev_sli, ev_onone, ev_osome, ev_chain, ev_meth, ev_get2, ev_newK, ev_newT, ev_own, ev_nil, ev_seq, ev_expr, ev_set, ev_ret, ev_retN, ev_cif, ev_brk, ev_ct, ev_asg, ev_put, ev_aug, ev_for, ev_comp, ev_newL, ev_iseq, ev_irange, ev_ienum, ev_yes, Out.bind_ok, Out.bindN_ok, bindS_ok, Tg.set, Tg.sets, List.getElem?_cons_zero, List.getElem?_cons_succ, List.set_cons_zero, List.set_cons_succ, wipeE, List.length_cons, List.length_nil, Nat.reduceAdd, Nat.reduceLeDiff, Nat.reduceEqDiff, ↓reduceIte, Bool.false_eq_true, decide_eq_true_eq, add_int, sub_int, lt_int, gt_int, le_int, ge_int, neg_int, and_int, or_int, xor_int, max2_int, min2_int, mod_pos, fdiv_sm, mul_sm, mul_smr, Int.reduceLT, Int.reduceNeg, int_bl, int_int, sli_tup, e8', e9', len_tup, q1, md, eq_int, q2, decide_true])).trans (set_of ?_)
            simp only [ev_var, ev_con, ev_bin, ev_un, ev_anil, ev_acons, ev_call, ev_tup, ev_lst, ev_not, ev_and, ev_or, ev_if, ev_cbl, ev_btrue, ev_cand, ev_cor, ev_cnot, ev_sli, ev_onone, ev_osome, ev_chain, ev_meth, ev_get2, ev_newK, ev_newT, ev_own, ev_nil, ev_seq, ev_expr, ev_set, ev_ret, ev_retN, ev_cif, ev_brk, ev_ct, ev_asg, ev_put, ev_aug, ev_for, ev_comp, ev_newL, ev_iseq, ev_irange, ev_ienum, ev_yes, Out.bind_ok, Out.bindN_ok, bindS_ok, Tg.set, Tg.sets, List.getElem?_cons_zero, List.getElem?_cons_succ, List.set_cons_zero, List.set_cons_succ, wipeE, List.length_cons, List.length_nil, Nat.reduceAdd, Nat.reduceLeDiff, Nat.reduceEqDiff, ↓reduceIte, Bool.false_eq_true, decide_eq_true_eq, add_int, sub_int, lt_int, gt_int, le_int, ge_int, neg_int, and_int, or_int, xor_int, max2_int, min2_int, mod_pos, fdiv_sm, mul_sm, mul_smr, Int.reduceLT, Int.reduceNeg, int_bl, int_int, sli_tup, t1, ey, sline 2 (by omega), e8'', em2, hc2]
          · refine ⟨c, S3, by omega, .refl _, (if_f (S' := S3) ?_).trans rfl⟩
            simp only [ev_var, ev_con, ev_bin, ev_un, ev_anil, ev_acons, ev_call, ev_tup, ev_lst, ev_not, ev_and, ev_or, ev_if, ev_cbl, ev_btrue, ev_cand, ev_cor, ev_cnot, ev_sli, ev_onone, ev_osome, ev_chain, ev_meth, ev_get2, ev_newK, ev_newT, ev_own, ev_nil, ev_seq, ev_expr, ev_set, ev_ret, ev_retN, ev_cif, ev_brk, ev_ct, ev_asg, ev_put, ev_aug, ev_for, ev_comp, ev_newL, ev_iseq, ev_irange, ev_ienum, ev_yes, Out.bind_ok, Out.bindN_ok, bindS_ok, Tg.set, Tg.sets, List.getElem?_cons_zero, List.getElem?_cons_succ, List.set_cons_zero, List.set_cons_succ, wipeE, List.length_cons, List.length_nil, Nat.reduceAdd, Nat.reduceLeDiff, Nat.reduceEqDiff, ↓reduceIte, Bool.false_eq_true, decide_eq_true_eq, add_int, sub_int, lt_int, gt_int, le_int, ge_int, neg_int, and_int, or_int, xor_int, max2_int, min2_int, mod_pos, fdiv_sm, mul_sm, mul_smr, Int.reduceLT, Int.reduceNeg, int_bl, int_int, sli_tup, e8', e9', len_tup, q1, md, eq_int, q2, decide_true, decide_false]
        · refine ⟨c, S3, by omega, .refl _, (if_f (S' := S3) ?_).trans rfl⟩
          simp only [ev_var, ev_con, ev_bin, ev_un, ev_anil, ev_acons, ev_call, ev_tup, ev_lst, ev_not, ev_and, ev_or, ev_if, ev_cbl, ev_btrue, ev_cand, ev_cor, ev_cnot, ev_sli, ev_onone, ev_osome, ev_chain, ev_meth, ev_get2, ev_newK, ev_newT, ev_own, ev_nil, ev_seq, ev_expr, ev_set, ev_ret, ev_retN, ev_cif, ev_brk, ev_ct, ev_asg, ev_put, ev_aug, ev_for, ev_comp, ev_newL, ev_iseq, ev_irange, ev_ienum, ev_yes, Out.bind_ok, Out.bindN_ok, bindS_ok, Tg.set, Tg.sets, List.getElem?_cons_zero, List.getElem?_cons_succ, List.set_cons_zero, List.set_cons_succ, wipeE, List.length_cons, List.length_nil, Nat.reduceAdd, Nat.reduceLeDiff, Nat.reduceEqDiff, ↓reduceIte, Bool.false_eq_true, decide_eq_true_eq, add_int, sub_int, lt_int, gt_int, le_int, ge_int, neg_int, and_int, or_int, xor_int, max2_int, min2_int, mod_pos, fdiv_sm, mul_sm, mul_smr, Int.reduceLT, Int.reduceNeg, int_bl, int_int, sli_tup, e8', q1, decide_false]
      obtain ⟨c2, S4, c30, g4, es2⟩ := st2
      have g24 := g3.trans g4
      have g5 := gr_app S4 [.lst [.str t.nm]]
      have g6 := gr_app (S4 ++ [Ob.lst [.str t.nm]]) [.lst (List.replicate c2 (.str t.nm))]
      have hn6 := (g5.trans g6).at (g24.at nn.h)
      have l6 : (names.map Dv.str).length + (List.replicate c2 (Dv.str t.nm)).length ≤ sizeLine := sline _ (by rw [List.length_map, List.length_replicate]; have := nn.len; omega)
      have eadd := add_ref hn6 (at_new (S4 ++ [Ob.lst [.str t.nm]]) (.lst (List.replicate c2 (.str t.nm)))) l6
      have g7 := gr_app (S4 ++ [Ob.lst [.str t.nm]] ++ [Ob.lst (List.replicate c2 (.str t.nm))]) [.lst (names.map .str ++ List.replicate c2 (.str t.nm))]
      refine ⟨[some (.ref l), some (.tup (its.map It.d)), some (.ref (S4 ++ [Ob.lst [.str t.nm]] ++ [Ob.lst (List.replicate c2 (.str t.nm))]).length), some (.int ((0 + i : Nat) : Int)), some t.d, some (.int (c2 : Nat)), some (.int dk)], _, .inl ?_, (S4 ++ [Ob.lst [.str t.nm]] ++ [Ob.lst (List.replicate c2 (.str t.nm))]).length, _, _, _, _, names ++ List.replicate c2 t.nm, rfl, g.trans (g24.trans ((g5.trans g6).trans g7)), ⟨by rw [List.map_append, List.map_replicate]; exact at_new _ _, by rw [List.length_append, List.length_replicate]; have := nn.len; omega, fun y hy => ?_⟩, ?_⟩
      · unfold b_l_row_1
        refine (seq_of (set_of (d := .int t.low) (S' := S2) (by simp only [ev_var, ev_con, ev_bin, ev_un, ev_anil, ev_acons, ev_call, ev_tup, ev_lst, ev_not, ev_and, ev_or, ev_if, ev_cbl, ev_btrue, ev_cand, ev_cor, ev_cnot, ev_sli, ev_onone, ev_osome, ev_chain, ev_meth, ev_get2, ev_newK, ev_newT, ev_own, ev_nil, ev_seq, ev_expr, ev_set, ev_ret, ev_retN, ev_cif, ev_brk, ev_ct, ev_asg, ev_put, ev_aug, ev_for, ev_comp, ev_newL, ev_iseq, ev_irange, ev_ienum, ev_yes, Out.bind_ok, Out.bindN_ok, bindS_ok, Tg.set, Tg.sets, List.getElem?_cons_zero, List.getElem?_cons_succ, List.set_cons_zero, List.set_cons_succ, wipeE, List.length_cons, List.length_nil, Nat.reduceAdd, Nat.reduceLeDiff, Nat.reduceEqDiff, ↓reduceIte, Bool.false_eq_true, decide_eq_true_eq, add_int, sub_int, lt_int, gt_int, le_int, ge_int, neg_int, and_int, or_int, xor_int, max2_int, min2_int, mod_pos, fdiv_sm, mul_sm, mul_smr, Int.reduceLT, Int.reduceNeg, int_bl, int_int, sli_tup, t1]))).trans ?_
        refine (seq_of (set_of (d := .int dk) (S' := S2) (by simp only [ev_var, ev_con, ev_bin, ev_un, ev_anil, ev_acons, ev_call, ev_tup, ev_lst, ev_not, ev_and, ev_or, ev_if, ev_cbl, ev_btrue, ev_cand, ev_cor, ev_cnot, ev_sli, ev_onone, ev_osome, ev_chain, ev_meth, ev_get2, ev_newK, ev_newT, ev_own, ev_nil, ev_seq, ev_expr, ev_set, ev_ret, ev_retN, ev_cif, ev_brk, ev_ct, ev_asg, ev_put, ev_aug, ev_for, ev_comp, ev_newL, ev_iseq, ev_irange, ev_ienum, ev_yes, Out.bind_ok, Out.bindN_ok, bindS_ok, Tg.set, Tg.sets, List.getElem?_cons_zero, List.getElem?_cons_succ, List.set_cons_zero, List.set_cons_succ, wipeE, List.length_cons, List.length_nil, Nat.reduceAdd, Nat.reduceLeDiff, Nat.reduceEqDiff, ↓reduceIte, Bool.false_eq_true, decide_eq_true_eq, add_int, sub_int, lt_int, gt_int, le_int, ge_int, neg_int, and_int, or_int, xor_int, max2_int, min2_int, mod_pos, fdiv_sm, mul_sm, mul_smr, Int.reduceLT, Int.reduceNeg, int_bl, int_int, sli_tup, ek2]))).trans ?_
        refine (seq_of es1).trans ?_
        refine (seq_of es2).trans ?_
        refine set_of ?_
        simp only [ev_var, ev_con, ev_bin, ev_un, ev_anil, ev_acons, ev_call, ev_tup, ev_lst, ev_not, ev_and, ev_or, ev_if, ev_cbl, ev_btrue, ev_cand, ev_cor, ev_cnot, ev_sli, ev_onone, ev_osome, ev_chain, ev_meth, ev_get2, ev_newK, ev_newT, ev_own, ev_nil, ev_seq, ev_expr, ev_set, ev_ret, ev_retN, ev_cif, ev_brk, ev_ct, ev_asg, ev_put, ev_aug, ev_for, ev_comp, ev_newL, ev_iseq, ev_irange, ev_ienum, ev_yes, Out.bind_ok, Out.bindN_ok, bindS_ok, Tg.set, Tg.sets, List.getElem?_cons_zero, List.getElem?_cons_succ, List.set_cons_zero, List.set_cons_succ, wipeE, List.length_cons, List.length_nil, Nat.reduceAdd, Nat.reduceLeDiff, Nat.reduceEqDiff, ↓reduceIte, Bool.false_eq_true, decide_eq_true_eq, add_int, sub_int, lt_int, gt_int, le_int, ge_int, neg_int, and_int, or_int, xor_int, max2_int, min2_int, mod_pos, fdiv_sm, mul_sm, mul_smr, Int.reduceLT, Int.reduceNeg, int_bl, int_int, sli_tup, t0, sline 1 (by omega), mul_ref (at_new S4 (.lst [.str t.nm])) (show c2 ≤ 1000 by omega), eadd]
      · rcases List.mem_append.mp hy with hy | hy
        · exact nn.sk y hy
        · rw [(List.mem_replicate.mp hy).2]; exact ok.sk t htm
      · have a1 := lt_of_at hd.h
        have a2 := (g.trans g24).le
        rw [List.length_append, List.length_append]
        omega)
    (fun _ _ _ => trivial)
  rw [enl_len, List.length_map] at nn
  have i3 := ok.len
  refine ⟨ln, names, S', runF_rt (ρ := [some (.ref l), some (.tup (its.map It.d)), none, none, none, none, none]) rfl rfl ?_, g, ⟨nn.h, by have := nn.len; omega, nn.sk⟩, nl2⟩
  unfold c_l_row
  have ez : (iEnumA (aCons (eVar 1) (aNil))) [some (.ref l), some (.tup (its.map It.d)), some (.ref S.length), none, none, none, none] (S ++ [.lst []]) = .ok (enumL (its.map It.d), .tt) (S ++ [.lst []]) := by
    simp only [iEnumA, ev_var, ev_con, ev_bin, ev_un, ev_anil, ev_acons, ev_call, ev_tup, ev_lst, ev_not, ev_and, ev_or, ev_if, ev_cbl, ev_btrue, ev_cand, ev_cor, ev_cnot, ev_sli, ev_onone, ev_osome, ev_chain, ev_meth, ev_get2, ev_newK, ev_newT, ev_own, ev_nil, ev_seq, ev_expr, ev_set, ev_ret, ev_retN, ev_cif, ev_brk, ev_ct, ev_asg, ev_put, ev_aug, ev_for, ev_comp, ev_newL, ev_iseq, ev_irange, ev_ienum, ev_yes, Out.bind_ok, Out.bindN_ok, bindS_ok, Tg.set, Tg.sets, List.getElem?_cons_zero, List.getElem?_cons_succ, List.set_cons_zero, List.set_cons_succ, wipeE, List.length_cons, List.length_nil, Nat.reduceAdd, Nat.reduceLeDiff, Nat.reduceEqDiff, ↓reduceIte, Bool.false_eq_true, decide_eq_true_eq, add_int, sub_int, lt_int, gt_int, le_int, ge_int, neg_int, and_int, or_int, xor_int, max2_int, min2_int, mod_pos, fdiv_sm, mul_sm, mul_smr, Int.reduceLT, Int.reduceNeg, int_bl, int_int, sli_tup]; rfl
  refine (seq_of (by simp only [ev_var, ev_con, ev_bin, ev_un, ev_anil, ev_acons, ev_call, ev_tup, ev_lst, ev_not, ev_and, ev_or, ev_if, ev_cbl, ev_btrue, ev_cand, ev_cor, ev_cnot, ev_sli, ev_onone, ev_osome, ev_chain, ev_meth, ev_get2, ev_newK, ev_newT, ev_own, ev_nil, ev_seq, ev_expr, ev_set, ev_ret, ev_retN, ev_cif, ev_brk, ev_ct, ev_asg, ev_put, ev_aug, ev_for, ev_comp, ev_newL, ev_iseq, ev_irange, ev_ienum, ev_yes, Out.bind_ok, Out.bindN_ok, bindS_ok, Tg.set, Tg.sets, List.getElem?_cons_zero, List.getElem?_cons_succ, List.set_cons_zero, List.set_cons_succ, wipeE, List.length_cons, List.length_nil, Nat.reduceAdd, Nat.reduceLeDiff, Nat.reduceEqDiff, ↓reduceIte, Bool.false_eq_true, decide_eq_true_eq, add_int, sub_int, lt_int, gt_int, le_int, ge_int, neg_int, and_int, or_int, xor_int, max2_int, min2_int, mod_pos, fdiv_sm, mul_sm, mul_smr, Int.reduceLT, Int.reduceNeg, int_bl, int_int, sli_tup, sline 0 (by omega)]; rfl)).trans ?_
  exact (seq_of ((for_of ez).trans e)).trans (ret_of rfl)

theorem sli_ref {S : Sto} {l : Nat} {xs : List Dv} (h : S[l]? = some (.lst xs)) (lo hi : Option Int) : sliD (.ref l) lo hi S = newL (cutD xs lo hi) S := by simp only [sliD, lst_ref h]
theorem ins_ref {S : Sto} {l : Nat} {xs : List Dv} {i : Int} {y : Dv} (h : S[l]? = some (.lst xs)) (hl : xs.length < 1000) (h0 : 0 ≤ i) (h1 : i < 1000) : insertD (.ref l) [.int i, y] S = .ok .non (S.set l (.lst (xs.take i.toNat ++ [y] ++ xs.drop i.toNat))) := by
  simp only [insertD, lmap, h]
  rw [if_pos ⟨show _ < 2 ^ 24 by omega, h0, by omega⟩]
theorem mixed_run {k l ln : Nat} {ds : List Int} {names : List Str} {S : Sto} (hd : Ds S l ds) (nn : Nm S ln names 90) (nl : ln ≠ l) : ∃ lm names' S', F (k + 1) .l_mixed [.ref l, .ref ln] S = .ok (.ref lm) S' ∧ Gr S S' ∧ Nm S' lm names' 90 ∧ lm ≠ l := by
  rw [F_l_mixed]
  obtain ⟨d10, d10p, e10⟩ := hd.at (i := 10) (by omega)
  obtain ⟨d11, d11p, e11⟩ := hd.at (i := 11) (by omega)
  have e10' : idxD (.ref l) (.int 10) S = .ok (.int d10) S := e10 S (.refl _)
  have e11' : idxD (.ref l) (.int 11) S = .ok (.int d11) S := e11 S (.refl _)
  have s1 : ∀ {b : RC} {o : OutS}, b [some (.ref l), some (.ref ln), some (.int (d10 % 3)), none, none, none, none] S = o → cSeq (cSet 2 (eBin modD (eBin idxD (eVar 0) (eCon (.int 10))) (eCon (.int 3)))) b [some (.ref l), some (.ref ln), none, none, none, none, none] S = o := fun {b o} hb =>
    (seq_of (set_of (d := .int (d10 % 3)) (S' := S) (by simp only [ev_var, ev_con, ev_bin, ev_un, ev_anil, ev_acons, ev_call, ev_tup, ev_lst, ev_not, ev_and, ev_or, ev_if, ev_cbl, ev_btrue, ev_cand, ev_cor, ev_cnot, ev_sli, ev_onone, ev_osome, ev_chain, ev_meth, ev_get2, ev_newK, ev_newT, ev_own, ev_nil, ev_seq, ev_expr, ev_set, ev_ret, ev_retN, ev_cif, ev_brk, ev_ct, ev_asg, ev_put, ev_aug, ev_for, ev_comp, ev_newL, ev_iseq, ev_irange, ev_ienum, ev_yes, Out.bind_ok, Out.bindN_ok, bindS_ok, Tg.set, Tg.sets, List.getElem?_cons_zero, List.getElem?_cons_succ, List.set_cons_zero, List.set_cons_succ, wipeE, List.length_cons, List.length_nil, Nat.reduceAdd, Nat.reduceLeDiff, Nat.reduceEqDiff, ↓reduceIte, Bool.false_eq_true, decide_eq_true_eq, add_int, sub_int, lt_int, gt_int, le_int, ge_int, neg_int, and_int, or_int, xor_int, max2_int, min2_int, mod_pos, fdiv_sm, mul_sm, mul_smr, Int.reduceLT, Int.reduceNeg, int_bl, int_int, sli_tup, e10']))).trans hb
  have ll := len_ref nn.h
  by_cases q : d10 % 3 = 0 ∨ ((names.map Dv.str).length : Int) = 0
  · refine ⟨ln, names, S, runF_rt (ρ := [some (.ref l), some (.ref ln), none, none, none, none, none]) rfl rfl (s1 (seq_rt ((if_t (S' := S) ?_).trans (ret_of rfl)))), .refl _, nn, nl⟩
    by_cases q1 : d10 % 3 = 0
    · simp only [ev_var, ev_con, ev_bin, ev_un, ev_anil, ev_acons, ev_call, ev_tup, ev_lst, ev_not, ev_and, ev_or, ev_if, ev_cbl, ev_btrue, ev_cand, ev_cor, ev_cnot, ev_sli, ev_onone, ev_osome, ev_chain, ev_meth, ev_get2, ev_newK, ev_newT, ev_own, ev_nil, ev_seq, ev_expr, ev_set, ev_ret, ev_retN, ev_cif, ev_brk, ev_ct, ev_asg, ev_put, ev_aug, ev_for, ev_comp, ev_newL, ev_iseq, ev_irange, ev_ienum, ev_yes, Out.bind_ok, Out.bindN_ok, bindS_ok, Tg.set, Tg.sets, List.getElem?_cons_zero, List.getElem?_cons_succ, List.set_cons_zero, List.set_cons_succ, wipeE, List.length_cons, List.length_nil, Nat.reduceAdd, Nat.reduceLeDiff, Nat.reduceEqDiff, ↓reduceIte, Bool.false_eq_true, decide_eq_true_eq, add_int, sub_int, lt_int, gt_int, le_int, ge_int, neg_int, and_int, or_int, xor_int, max2_int, min2_int, mod_pos, fdiv_sm, mul_sm, mul_smr, Int.reduceLT, Int.reduceNeg, int_bl, int_int, sli_tup, eq_int, q1, decide_true]
    · have q2 := q.resolve_left q1
      simp only [ev_var, ev_con, ev_bin, ev_un, ev_anil, ev_acons, ev_call, ev_tup, ev_lst, ev_not, ev_and, ev_or, ev_if, ev_cbl, ev_btrue, ev_cand, ev_cor, ev_cnot, ev_sli, ev_onone, ev_osome, ev_chain, ev_meth, ev_get2, ev_newK, ev_newT, ev_own, ev_nil, ev_seq, ev_expr, ev_set, ev_ret, ev_retN, ev_cif, ev_brk, ev_ct, ev_asg, ev_put, ev_aug, ev_for, ev_comp, ev_newL, ev_iseq, ev_irange, ev_ienum, ev_yes, Out.bind_ok, Out.bindN_ok, bindS_ok, Tg.set, Tg.sets, List.getElem?_cons_zero, List.getElem?_cons_succ, List.set_cons_zero, List.set_cons_succ, wipeE, List.length_cons, List.length_nil, Nat.reduceAdd, Nat.reduceLeDiff, Nat.reduceEqDiff, ↓reduceIte, Bool.false_eq_true, decide_eq_true_eq, add_int, sub_int, lt_int, gt_int, le_int, ge_int, neg_int, and_int, or_int, xor_int, max2_int, min2_int, mod_pos, fdiv_sm, mul_sm, mul_smr, Int.reduceLT, Int.reduceNeg, int_bl, int_int, sli_tup, eq_int, ll, q1, q2, decide_true, decide_false]
  have q1 : ¬ d10 % 3 = 0 := fun z => q (.inl z)
  have q2 : ¬ ((names.map Dv.str).length : Int) = 0 := fun z => q (.inr z)
  have lp : (0 : Int) < ((names.map Dv.str).length : Int) := by omega
  have s2 : ∀ {b r : RC} {o : OutS}, b [some (.ref l), some (.ref ln), some (.int (d10 % 3)), none, none, none, none] S = o → cSeq (cIf (cOr (cBl (eBin eqD (eVar 2) (eCon (.int 0)))) (cBl (eBin eqD (eCall lenD (aCons (eVar 1) (aNil))) (eCon (.int 0))))) r (cNil)) b [some (.ref l), some (.ref ln), some (.int (d10 % 3)), none, none, none, none] S = o := fun {b r o} hb =>
    (seq_of ((if_f (S' := S) (by simp only [ev_var, ev_con, ev_bin, ev_un, ev_anil, ev_acons, ev_call, ev_tup, ev_lst, ev_not, ev_and, ev_or, ev_if, ev_cbl, ev_btrue, ev_cand, ev_cor, ev_cnot, ev_sli, ev_onone, ev_osome, ev_chain, ev_meth, ev_get2, ev_newK, ev_newT, ev_own, ev_nil, ev_seq, ev_expr, ev_set, ev_ret, ev_retN, ev_cif, ev_brk, ev_ct, ev_asg, ev_put, ev_aug, ev_for, ev_comp, ev_newL, ev_iseq, ev_irange, ev_ienum, ev_yes, Out.bind_ok, Out.bindN_ok, bindS_ok, Tg.set, Tg.sets, List.getElem?_cons_zero, List.getElem?_cons_succ, List.set_cons_zero, List.set_cons_succ, wipeE, List.length_cons, List.length_nil, Nat.reduceAdd, Nat.reduceLeDiff, Nat.reduceEqDiff, ↓reduceIte, Bool.false_eq_true, decide_eq_true_eq, add_int, sub_int, lt_int, gt_int, le_int, ge_int, neg_int, and_int, or_int, xor_int, max2_int, min2_int, mod_pos, fdiv_sm, mul_sm, mul_smr, Int.reduceLT, Int.reduceNeg, int_bl, int_int, sli_tup, eq_int, ll, q1, q2, decide_false])).trans rfl)).trans hb
  have n90 := nn.len
  by_cases w1 : d10 % 3 = 1
  · have m0 := Int.emod_nonneg d11 (b := ((names.map Dv.str).length : Int)) (by omega)
    obtain ⟨a, ha⟩ := Int.eq_ofNat_of_zero_le m0
    have g1 := gr_app S [.lst ((names.map Dv.str).drop a)]
    have g2 := gr_app (S ++ [Ob.lst ((names.map Dv.str).drop a)]) [.lst ((names.map Dv.str).take a)]
    have h1 := g2.at (at_new S (.lst ((names.map Dv.str).drop a)))
    have h2 := at_new (S ++ [Ob.lst ((names.map Dv.str).drop a)]) (.lst ((names.map Dv.str).take a))
    have lz : ((names.map Dv.str).drop a).length + ((names.map Dv.str).take a).length ≤ sizeLine := sline _ (by rw [List.length_drop, List.length_take, List.length_map]; omega)
    have ea := add_ref h1 h2 lz
    have md : modD (.int d11) (.int ((names.map Dv.str).length : Int)) S = .ok (.int (d11 % ((names.map Dv.str).length : Int))) S := mod_pos lp
    have g3 := gr_app (S ++ [Ob.lst ((names.map Dv.str).drop a)] ++ [Ob.lst ((names.map Dv.str).take a)]) [.lst ((names.map Dv.str).drop a ++ (names.map Dv.str).take a)]
    refine ⟨(S ++ [Ob.lst ((names.map Dv.str).drop a)] ++ [Ob.lst ((names.map Dv.str).take a)]).length, names.drop a ++ names.take a, _, runF_rt (ρ := [some (.ref l), some (.ref ln), none, none, none, none, none]) rfl rfl (s1 (s2 ?_)), (g1.trans g2).trans g3, ⟨by rw [List.map_append, List.map_drop, List.map_take]; exact at_new _ _, by rw [List.length_append, List.length_drop, List.length_take]; omega, fun y hy => ?_⟩, ?_⟩
    · refine seq_rt ((if_t (S' := S) (by simp only [ev_var, ev_con, ev_bin, ev_un, ev_anil, ev_acons, ev_call, ev_tup, ev_lst, ev_not, ev_and, ev_or, ev_if, ev_cbl, ev_btrue, ev_cand, ev_cor, ev_cnot, ev_sli, ev_onone, ev_osome, ev_chain, ev_meth, ev_get2, ev_newK, ev_newT, ev_own, ev_nil, ev_seq, ev_expr, ev_set, ev_ret, ev_retN, ev_cif, ev_brk, ev_ct, ev_asg, ev_put, ev_aug, ev_for, ev_comp, ev_newL, ev_iseq, ev_irange, ev_ienum, ev_yes, Out.bind_ok, Out.bindN_ok, bindS_ok, Tg.set, Tg.sets, List.getElem?_cons_zero, List.getElem?_cons_succ, List.set_cons_zero, List.set_cons_succ, wipeE, List.length_cons, List.length_nil, Nat.reduceAdd, Nat.reduceLeDiff, Nat.reduceEqDiff, ↓reduceIte, Bool.false_eq_true, decide_eq_true_eq, add_int, sub_int, lt_int, gt_int, le_int, ge_int, neg_int, and_int, or_int, xor_int, max2_int, min2_int, mod_pos, fdiv_sm, mul_sm, mul_smr, Int.reduceLT, Int.reduceNeg, int_bl, int_int, sli_tup, eq_int, w1, decide_true])).trans ?_)
      refine (seq_of (set_of (d := .int (a : Nat)) (S' := S) (by simp only [ev_var, ev_con, ev_bin, ev_un, ev_anil, ev_acons, ev_call, ev_tup, ev_lst, ev_not, ev_and, ev_or, ev_if, ev_cbl, ev_btrue, ev_cand, ev_cor, ev_cnot, ev_sli, ev_onone, ev_osome, ev_chain, ev_meth, ev_get2, ev_newK, ev_newT, ev_own, ev_nil, ev_seq, ev_expr, ev_set, ev_ret, ev_retN, ev_cif, ev_brk, ev_ct, ev_asg, ev_put, ev_aug, ev_for, ev_comp, ev_newL, ev_iseq, ev_irange, ev_ienum, ev_yes, Out.bind_ok, Out.bindN_ok, bindS_ok, Tg.set, Tg.sets, List.getElem?_cons_zero, List.getElem?_cons_succ, List.set_cons_zero, List.set_cons_succ, wipeE, List.length_cons, List.length_nil, Nat.reduceAdd, Nat.reduceLeDiff, Nat.reduceEqDiff, ↓reduceIte, Bool.false_eq_true, decide_eq_true_eq, add_int, sub_int, lt_int, gt_int, le_int, ge_int, neg_int, and_int, or_int, xor_int, max2_int, min2_int, mod_pos, fdiv_sm, mul_sm, mul_smr, Int.reduceLT, Int.reduceNeg, int_bl, int_int, sli_tup, e11', ll, md, ha]))).trans ?_
      refine ret_of ?_
      simp only [ev_var, ev_con, ev_bin, ev_un, ev_anil, ev_acons, ev_call, ev_tup, ev_lst, ev_not, ev_and, ev_or, ev_if, ev_cbl, ev_btrue, ev_cand, ev_cor, ev_cnot, ev_sli, ev_onone, ev_osome, ev_chain, ev_meth, ev_get2, ev_newK, ev_newT, ev_own, ev_nil, ev_seq, ev_expr, ev_set, ev_ret, ev_retN, ev_cif, ev_brk, ev_ct, ev_asg, ev_put, ev_aug, ev_for, ev_comp, ev_newL, ev_iseq, ev_irange, ev_ienum, ev_yes, Out.bind_ok, Out.bindN_ok, bindS_ok, Tg.set, Tg.sets, List.getElem?_cons_zero, List.getElem?_cons_succ, List.set_cons_zero, List.set_cons_succ, wipeE, List.length_cons, List.length_nil, Nat.reduceAdd, Nat.reduceLeDiff, Nat.reduceEqDiff, ↓reduceIte, Bool.false_eq_true, decide_eq_true_eq, add_int, sub_int, lt_int, gt_int, le_int, ge_int, neg_int, and_int, or_int, xor_int, max2_int, min2_int, mod_pos, fdiv_sm, mul_sm, mul_smr, Int.reduceLT, Int.reduceNeg, int_bl, int_int, sli_tup, sli_ref nn.h, cut_from, sli_ref (g1.at nn.h), cut_to, ea]
    · rcases List.mem_append.mp hy with hy | hy
      · exact nn.sk y (List.mem_of_mem_drop hy)
      · exact nn.sk y (List.mem_of_mem_take hy)
    · have := lt_of_at hd.h
      rw [List.length_append, List.length_append]; omega
  · have g0 := gr_app S [.lst []]
    have n0 : ln ≠ S.length := ne_new nn.h
    have nl0 : S.length ≠ l := fun e => ne_new hd.h e.symm
    obtain ⟨ρ', S', e, v5, v6, out, rfl, f, hx, hl, hk⟩ := loop_all (ck := (Ck.ls ln (names.map .str)).ok) (t := .tp [.nm 5, .nm 6]) (b := b_l_mixed_1 (F k)) (S := S ++ [.lst []]) (ρ := [some (.ref l), some (.ref ln), some (.int (d10 % 3)), some (.ref S.length), none, none, none])
      (fun i ρ S' => ∃ (v5 v6 : Option Dv) (out : List Str), ρ = [some (.ref l), some (.ref ln), some (.int (d10 % 3)), some (.ref S.length), none, v5, v6] ∧ Fr (· = S.length) (S ++ [.lst []]) S' ∧ S'[S.length]? = some (.lst (out.map .str)) ∧ out.length = i ∧ ∀ x ∈ out, Sk x) (enumL (names.map .str)) ⟨none, none, [], rfl, .refl _, at_new _ _, rfl, by simp⟩
      (fun i v ρ S2 hv ⟨v5, v6, out, hρ, f, hx, hl, hk⟩ => by
        subst hρ
        rw [enumL_get, List.getElem?_map, Option.map_map, Option.map_eq_some_iff] at hv
        obtain ⟨x, hx0, rfl⟩ := hv
        have hi := (List.getElem?_eq_some_iff.mp hx0).1
        refine ⟨f.get _ _ (g0.at nn.h) n0, _, rfl, ?_⟩
        have gS : Gr S S2 := Gr.new g0 f fun l z => by omega
        obtain ⟨y, yp, ey⟩ := hd.at (i := (11 + i) % 24) (Nat.mod_lt _ (by omega))
        have ey2 : idxD (.ref l) (.int ((11 + ((0 + i : Nat) : Int)) % 24)) S2 = .ok (.int y) S2 := by
          rw [show (11 + ((0 + i : Nat) : Int)) % 24 = (((11 + i) % 24 : Nat) : Int) by omega]; exact ey S2 gS
        have fd : fdivD (.int y) (.int (1 + ((0 + i : Nat) : Int))) S2 = .ok (.int (y / (1 + ((0 + i : Nat) : Int)))) S2 := fdiv_sm (by omega) (by omega)
        have md : modD (.int (y / (1 + ((0 + i : Nat) : Int)))) (.int (((0 + i : Nat) : Int) + 1)) S2 = .ok (.int (y / (1 + ((0 + i : Nat) : Int)) % (((0 + i : Nat) : Int) + 1))) S2 := mod_pos (by omega)
        have r0 := Int.emod_nonneg (y / (1 + ((0 + i : Nat) : Int))) (b := ((0 + i : Nat) : Int) + 1) (by omega)
        have r1 := Int.emod_lt_of_pos (y / (1 + ((0 + i : Nat) : Int))) (b := ((0 + i : Nat) : Int) + 1) (by omega)
        have ei := ins_ref (y := .str x) hx (by rw [List.length_map]; omega) r0 (by omega)
        generalize y / (1 + ((0 + i : Nat) : Int)) % (((0 + i : Nat) : Int) + 1) = r at r0 r1 md ei
        refine ⟨[some (.ref l), some (.ref ln), some (.int (d10 % 3)), some (.ref S.length), none, some (.int ((0 + i : Nat) : Int)), some (.str x)], _, .inl (expr_of (d := .non) ?_), _, _, out.take r.toNat ++ [x] ++ out.drop r.toNat, rfl, f.trans (fr_set S2 S.length (.lst ((out.map Dv.str).take r.toNat ++ [.str x] ++ (out.map Dv.str).drop r.toNat))), ?_, ?_, fun z hz => ?_⟩
        · simp only [ev_var, ev_con, ev_bin, ev_un, ev_anil, ev_acons, ev_call, ev_tup, ev_lst, ev_not, ev_and, ev_or, ev_if, ev_cbl, ev_btrue, ev_cand, ev_cor, ev_cnot, ev_sli, ev_onone, ev_osome, ev_chain, ev_meth, ev_get2, ev_newK, ev_newT, ev_own, ev_nil, ev_seq, ev_expr, ev_set, ev_ret, ev_retN, ev_cif, ev_brk, ev_ct, ev_asg, ev_put, ev_aug, ev_for, ev_comp, ev_newL, ev_iseq, ev_irange, ev_ienum, ev_yes, Out.bind_ok, Out.bindN_ok, bindS_ok, Tg.set, Tg.sets, List.getElem?_cons_zero, List.getElem?_cons_succ, List.set_cons_zero, List.set_cons_succ, wipeE, List.length_cons, List.length_nil, Nat.reduceAdd, Nat.reduceLeDiff, Nat.reduceEqDiff, ↓reduceIte, Bool.false_eq_true, decide_eq_true_eq, add_int, sub_int, lt_int, gt_int, le_int, ge_int, neg_int, and_int, or_int, xor_int, max2_int, min2_int, mod_pos, fdiv_sm, mul_sm, mul_smr, Int.reduceLT, Int.reduceNeg, int_bl, int_int, sli_tup, tyq_ref hx, ey2, fd, md, ei]
        · rw [at_set hx, List.map_append, List.map_append, List.map_take, List.map_drop]; rfl
        · rw [List.length_append, List.length_append, List.length_take, List.length_drop]; simp only [List.length_cons, List.length_nil]; omega
        · rcases List.mem_append.mp hz with hz | hz
          · rcases List.mem_append.mp hz with hz | hz
            · exact hk z (List.mem_of_mem_take hz)
            · rw [List.mem_singleton] at hz; subst hz; exact nn.sk z (List.mem_of_getElem? hx0)
          · exact hk z (List.mem_of_mem_drop hz))
      (fun ρ S2 ⟨v5, v6, out, hρ, f, _⟩ => f.get _ _ (g0.at nn.h) n0)
    rw [enl_len, List.length_map] at hl
    refine ⟨S.length, out, S', runF_rt (ρ := [some (.ref l), some (.ref ln), none, none, none, none, none]) rfl rfl (s1 (s2 ?_)), Gr.new g0 f (fun l z => by omega), ⟨hx, by omega, hk⟩, nl0⟩
    have ez : (iEnumA (aCons (eVar 1) (aNil))) [some (.ref l), some (.ref ln), some (.int (d10 % 3)), some (.ref S.length), none, none, none] (S ++ [.lst []]) = .ok (enumL (names.map .str), .ls ln (names.map .str)) (S ++ [.lst []]) := by
      simp only [iEnumA, ev_var, ev_con, ev_bin, ev_un, ev_anil, ev_acons, ev_call, ev_tup, ev_lst, ev_not, ev_and, ev_or, ev_if, ev_cbl, ev_btrue, ev_cand, ev_cor, ev_cnot, ev_sli, ev_onone, ev_osome, ev_chain, ev_meth, ev_get2, ev_newK, ev_newT, ev_own, ev_nil, ev_seq, ev_expr, ev_set, ev_ret, ev_retN, ev_cif, ev_brk, ev_ct, ev_asg, ev_put, ev_aug, ev_for, ev_comp, ev_newL, ev_iseq, ev_irange, ev_ienum, ev_yes, Out.bind_ok, Out.bindN_ok, bindS_ok, Tg.set, Tg.sets, List.getElem?_cons_zero, List.getElem?_cons_succ, List.set_cons_zero, List.set_cons_succ, wipeE, List.length_cons, List.length_nil, Nat.reduceAdd, Nat.reduceLeDiff, Nat.reduceEqDiff, ↓reduceIte, Bool.false_eq_true, decide_eq_true_eq, add_int, sub_int, lt_int, gt_int, le_int, ge_int, neg_int, and_int, or_int, xor_int, max2_int, min2_int, mod_pos, fdiv_sm, mul_sm, mul_smr, Int.reduceLT, Int.reduceNeg, int_bl, int_int, sli_tup, seq_lst (lst_ref (g0.at nn.h))]; rfl
    refine (seq_of ((if_f (S' := S) (by simp only [ev_var, ev_con, ev_bin, ev_un, ev_anil, ev_acons, ev_call, ev_tup, ev_lst, ev_not, ev_and, ev_or, ev_if, ev_cbl, ev_btrue, ev_cand, ev_cor, ev_cnot, ev_sli, ev_onone, ev_osome, ev_chain, ev_meth, ev_get2, ev_newK, ev_newT, ev_own, ev_nil, ev_seq, ev_expr, ev_set, ev_ret, ev_retN, ev_cif, ev_brk, ev_ct, ev_asg, ev_put, ev_aug, ev_for, ev_comp, ev_newL, ev_iseq, ev_irange, ev_ienum, ev_yes, Out.bind_ok, Out.bindN_ok, bindS_ok, Tg.set, Tg.sets, List.getElem?_cons_zero, List.getElem?_cons_succ, List.set_cons_zero, List.set_cons_succ, wipeE, List.length_cons, List.length_nil, Nat.reduceAdd, Nat.reduceLeDiff, Nat.reduceEqDiff, ↓reduceIte, Bool.false_eq_true, decide_eq_true_eq, add_int, sub_int, lt_int, gt_int, le_int, ge_int, neg_int, and_int, or_int, xor_int, max2_int, min2_int, mod_pos, fdiv_sm, mul_sm, mul_smr, Int.reduceLT, Int.reduceNeg, int_bl, int_int, sli_tup, eq_int, w1, decide_false])).trans rfl)).trans ?_
    refine (seq_of (set_of (d := .ref S.length) (S' := S ++ [Ob.lst []]) (by simp only [ev_var, ev_con, ev_bin, ev_un, ev_anil, ev_acons, ev_call, ev_tup, ev_lst, ev_not, ev_and, ev_or, ev_if, ev_cbl, ev_btrue, ev_cand, ev_cor, ev_cnot, ev_sli, ev_onone, ev_osome, ev_chain, ev_meth, ev_get2, ev_newK, ev_newT, ev_own, ev_nil, ev_seq, ev_expr, ev_set, ev_ret, ev_retN, ev_cif, ev_brk, ev_ct, ev_asg, ev_put, ev_aug, ev_for, ev_comp, ev_newL, ev_iseq, ev_irange, ev_ienum, ev_yes, Out.bind_ok, Out.bindN_ok, bindS_ok, Tg.set, Tg.sets, List.getElem?_cons_zero, List.getElem?_cons_succ, List.set_cons_zero, List.set_cons_succ, wipeE, List.length_cons, List.length_nil, Nat.reduceAdd, Nat.reduceLeDiff, Nat.reduceEqDiff, ↓reduceIte, Bool.false_eq_true, decide_eq_true_eq, add_int, sub_int, lt_int, gt_int, le_int, ge_int, neg_int, and_int, or_int, xor_int, max2_int, min2_int, mod_pos, fdiv_sm, mul_sm, mul_smr, Int.reduceLT, Int.reduceNeg, int_bl, int_int, sli_tup, sline 0 (by omega)]))).trans ?_
    exact (seq_of ((for_of ez).trans e)).trans (ret_of rfl)
theorem cut_sk {x : Str} {lo hi : Option Int} (h : Sk x) : Sk (L2.cutS x lo hi) := by
  have hx : ∀ c ∈ x.cps.toList, c < 1114112 := fun c hc => by
    have h' : x.cps.all (fun c => decide (c < 1114112)) = true := h
    rw [← Array.all_toList, List.all_eq_true] at h'
    exact of_decide_eq_true (h' c hc)
  refine sk_of fun c hc => hx c ?_
  have : c ∈ (List.take _ (List.drop _ x.cps.toList)).toArray.toList := hc
  rw [List.toList_toArray] at this
  exact List.mem_of_mem_drop (List.mem_of_mem_take this)
theorem cut_len (x : Str) (lo hi : Option Int) : (L2.cutS x lo hi).length ≤ x.length := by
  have e : (L2.cutS x lo hi).length = (L2.cutS x lo hi).cps.toList.length := by rw [strlen_toList]
  rw [e, ← strlen_toList x]
  show ((List.take _ (List.drop _ x.cps.toList)).toArray.toList).length ≤ _
  rw [List.toList_toArray, List.length_take, List.length_drop]
  omega
theorem str_ext {a b : Str} (h : a.cps.toList = b.cps.toList) : a = b := by
  cases a; cases b
  simp only [Str.mk.injEq]
  exact Array.toList_inj.mp h
/-- the three names of the pool -/
def pl (m : Int) (core one : Str) : Str := if m = 0 then core ++ "x" ++ one else one ++ "x" ++ core
theorem pl_inj {m : Int} {core : Str} {a b : Nat} (h : pl m core ⟨#[a]⟩ = pl m core ⟨#[b]⟩) : a = b := by
  unfold pl at h
  split at h
  · have := congrArg (fun s : Str => s.cps.toList) h
    simp only [str_app] at this
    have h2 := List.append_cancel_left this
    simpa using h2
  · have := congrArg (fun s : Str => s.cps.toList) h
    simp only [str_app] at this
    have h2 := List.append_cancel_right (List.append_cancel_right this)
    simpa using h2
theorem law_true (ns : List Int) (hns : ns.length ≤ 63) : ∃ S, F 40 .l_law [.fl (ns.map .int)] [] = .ok (.bl true) S := by
  obtain ⟨l, ds, S1, e1, g1, _, h1, hlen, hpos⟩ := draws_run (S := []) (d := .fl (ns.map .int)) (n := 24) rfl (by omega) hns
  have e1' : F 39 .l_draws [.fl (ns.map .int), .int 24] [] = .ok (.ref l) S1 := e1
  have D1 : Ds S1 l ds := ⟨h1, hlen, fun x hx => (hpos x hx).1⟩
  obtain ⟨d12, p12, f12⟩ := D1.at (i := 12) (by omega)
  obtain ⟨d13, p13, f13⟩ := D1.at (i := 13) (by omega)
  obtain ⟨d14, p14, f14⟩ := D1.at (i := 14) (by omega)
  obtain ⟨d15, p15, f15⟩ := D1.at (i := 15) (by omega)
  obtain ⟨d16, p16, f16⟩ := D1.at (i := 16) (by omega)
  obtain ⟨d17, p17, f17⟩ := D1.at (i := 17) (by omega)
  obtain ⟨d18, p18, f18⟩ := D1.at (i := 18) (by omega)
  obtain ⟨nm, S2, e2, g2, ok2⟩ := name_run (S := S1) p12
  have e2' : F 39 .l_name [.int d12] S1 = .ok (.str nm) S2 := e2
  have nl8 := ok2.len.2
  have esl : sliD (.str nm) none (some 6) S2 = .ok (.str (L2.cutS nm none (some 6))) S2 := by simp only [sliD, sline nm.length (by omega), ↓reduceIte]
  have csk : Sk (L2.cutS nm none (some 6)) := cut_sk ok2.sk
  have cl : (L2.cutS nm none (some 6)).length ≤ 8 := by have := cut_len nm none (some 6); omega
  generalize L2.cutS nm none (some 6) = core at esl csk cl
  have m0 := Int.emod_nonneg d13 (b := 2) (by omega)
  have m1 := Int.emod_lt_of_pos d13 (b := 2) (by omega)
  -- the pool
  have ych : ∀ (c : Nat) (S : Sto) (v9 : Option Dv), Gr S1 S → ∃ S', y_l_law_1 (F 39) [some (.fl (ns.map .int)), some (.ref l), some (.str core), none, none, none, none, none, none, some (.str ⟨#[c]⟩)] S = .ok (.str (pl (d13 % 2) core ⟨#[c]⟩)) S' ∧ Gr S S' := fun c S v9 g => by
    have a1 : addD (.str core) (.str "x") S = .ok (.str (core ++ "x")) S := add_str (sline _ (by show core.length + 1 ≤ _; omega))
    have a2 : addD (.str (core ++ "x")) (.str ⟨#[c]⟩) S = .ok (.str (core ++ "x" ++ ⟨#[c]⟩)) S := add_str (sline _ (by rw [strlen_app]; show core.length + 1 + 1 ≤ _; omega))
    have a3 : addD (.str ⟨#[c]⟩) (.str "x") S = .ok (.str (⟨#[c]⟩ ++ "x")) S := add_str (sline _ (by show 1 + 1 ≤ _; omega))
    have a4 : addD (.str (⟨#[c]⟩ ++ "x")) (.str core) S = .ok (.str (⟨#[c]⟩ ++ "x" ++ core)) S := add_str (sline _ (by rw [strlen_app]; show 1 + 1 + core.length ≤ _; omega))
    have gn := gr_app S [.lst [.str (core ++ "x" ++ ⟨#[c]⟩), .str (⟨#[c]⟩ ++ "x" ++ core)]]
    have e13 : idxD (.ref l) (.int 13) (S ++ [Ob.lst [.str (core ++ "x" ++ ⟨#[c]⟩), .str (⟨#[c]⟩ ++ "x" ++ core)]]) = .ok (.int d13) (S ++ [Ob.lst [.str (core ++ "x" ++ ⟨#[c]⟩), .str (⟨#[c]⟩ ++ "x" ++ core)]]) := f13 _ (g.trans gn)
    have ei : idxD (.ref S.length) (.int (d13 % 2)) (S ++ [Ob.lst [.str (core ++ "x" ++ ⟨#[c]⟩), .str (⟨#[c]⟩ ++ "x" ++ core)]]) = .ok (.str (pl (d13 % 2) core ⟨#[c]⟩)) (S ++ [Ob.lst [.str (core ++ "x" ++ ⟨#[c]⟩), .str (⟨#[c]⟩ ++ "x" ++ core)]]) := by
      have : d13 % 2 = 0 ∨ d13 % 2 = 1 := by omega
      rcases this with z | z
      · rw [z]; exact idx_ref (at_new _ _) (atI_nat (i := 0) rfl)
      · rw [z]; exact idx_ref (at_new _ _) (atI_nat (i := 1) rfl)
    exact ⟨_, by simp only [y_l_law_1, ev_var, ev_con, ev_bin, ev_un, ev_anil, ev_acons, ev_call, ev_tup, ev_lst, ev_not, ev_and, ev_or, ev_if, ev_cbl, ev_btrue, ev_cand, ev_cor, ev_cnot, ev_sli, ev_onone, ev_osome, ev_chain, ev_meth, ev_get2, ev_newK, ev_newT, ev_own, ev_nil, ev_seq, ev_expr, ev_set, ev_ret, ev_retN, ev_cif, ev_brk, ev_ct, ev_asg, ev_put, ev_aug, ev_for, ev_comp, ev_newL, ev_iseq, ev_irange, ev_ienum, ev_yes, Out.bind_ok, Out.bindN_ok, bindS_ok, Tg.set, Tg.sets, List.getElem?_cons_zero, List.getElem?_cons_succ, List.set_cons_zero, List.set_cons_succ, wipeE, List.length_cons, List.length_nil, Nat.reduceAdd, Nat.reduceLeDiff, Nat.reduceEqDiff, ↓reduceIte, Bool.false_eq_true, decide_eq_true_eq, add_int, sub_int, lt_int, gt_int, le_int, ge_int, neg_int, and_int, or_int, xor_int, max2_int, min2_int, mod_pos, fdiv_sm, mul_sm, mul_smr, Int.reduceLT, Int.reduceNeg, int_bl, int_int, sli_tup, a1, a2, a3, a4, sline 2 (by omega), e13, ei], gn⟩
  obtain ⟨acc, S3, e3, ha, g3⟩ := comp_gen (ck := Ck.tt.ok) (t := .nm 9) (c := cYes) (y := y_l_law_1 (F 39)) (acc := []) (S := S2)
    (fun i acc S' => acc = ((["a", "b", "c"] : List Str).take i).map (fun o => .str (pl (d13 % 2) core o)) ∧ Gr S2 S') (chars "abc") [some (.fl (ns.map .int)), some (.ref l), some (.str core), none, none, none, none, none, none, none]
    (fun i v acc S' hv ⟨ha, g⟩ => by
      have hc : chars "abc" = (["a", "b", "c"] : List Str).map .str := rfl
      rw [hc, List.getElem?_map, Option.map_eq_some_iff] at hv
      obtain ⟨o, ho, rfl⟩ := hv
      refine ⟨trivial, _, rfl, true, S', rfl, fun _ => ?_, fun z => nomatch z⟩
      have hom := List.mem_of_getElem? ho
      obtain ⟨c, rfl⟩ : ∃ c : Nat, o = ⟨#[c]⟩ := by
        simp only [List.mem_cons, List.not_mem_nil, or_false] at hom
        rcases hom with rfl | rfl | rfl
        · exact ⟨97, rfl⟩
        · exact ⟨98, rfl⟩
        · exact ⟨99, rfl⟩
      obtain ⟨S4, e4, g4⟩ := ych c S' none (g2.trans g)
      refine ⟨_, S4, e4, ?_, by rw [ha, List.take_add_one, ho]; simp, g.trans g4⟩
      rw [ha, List.length_map, List.length_take]
      exact Nat.lt_of_le_of_lt (Nat.min_le_right _ _) (show 3 < 2 ^ 24 by omega))
    (fun _ _ _ => trivial) ⟨rfl, .refl _⟩
  have hpool : acc = (([⟨#[97]⟩, ⟨#[98]⟩, ⟨#[99]⟩] : List Str).map (pl (d13 % 2) core)).map .str := ha
  have pnd : (([⟨#[97]⟩, ⟨#[98]⟩, ⟨#[99]⟩] : List Str).map (pl (d13 % 2) core)).Nodup := by
    have n1 : pl (d13 % 2) core ⟨#[97]⟩ ≠ pl (d13 % 2) core ⟨#[98]⟩ := fun e => by have := pl_inj e; omega
    have n2 : pl (d13 % 2) core ⟨#[97]⟩ ≠ pl (d13 % 2) core ⟨#[99]⟩ := fun e => by have := pl_inj e; omega
    have n3 : pl (d13 % 2) core ⟨#[98]⟩ ≠ pl (d13 % 2) core ⟨#[99]⟩ := fun e => by have := pl_inj e; omega
    simp [n1, n2, n3]
  have psk : ∀ x ∈ ([⟨#[97]⟩, ⟨#[98]⟩, ⟨#[99]⟩] : List Str).map (pl (d13 % 2) core), Sk x := fun x hx => by
    obtain ⟨o, ho, rfl⟩ := List.mem_map.mp hx
    have ok : Sk o := by
      simp only [List.mem_cons, List.not_mem_nil, or_false] at ho
      rcases ho with rfl | rfl | rfl <;> decide +kernel
    unfold pl
    split
    · exact sk_app (sk_app csk (by decide +kernel)) ok
    · exact sk_app (sk_app ok (by decide +kernel)) csk
  have p3 : (([⟨#[97]⟩, ⟨#[98]⟩, ⟨#[99]⟩] : List Str).map (pl (d13 % 2) core)).length = 3 := rfl
  generalize ([⟨#[97]⟩, ⟨#[98]⟩, ⟨#[99]⟩] : List Str).map (pl (d13 % 2) core) = pool at hpool pnd psk p3
  subst hpool
  have gp := gr_app S3 [.lst (pool.map .str)]
  have g13 : Gr S1 (S3 ++ [Ob.lst (pool.map .str)]) := (g2.trans g3).trans gp
  obtain ⟨its, S5, e5, g5, iok⟩ := items_run (k := 38) (D1.gr g13) (at_new S3 (.lst (pool.map .str))) p3 pnd psk
  obtain ⟨kd, S6, e6, g6, ok6⟩ := name_run (S := S5) p14
  have e6' : F 39 .l_name [.int d14] S5 = .ok (.str kd) S6 := e6
  obtain ⟨rn, S7, e7, g7, ok7⟩ := name_run (S := S6) p15
  have e7' : F 39 .l_name [.int d15] S6 = .ok (.str rn) S7 := e7
  have w0 := Int.emod_nonneg d16 (b := 2) (by omega)
  have w1 := Int.emod_lt_of_pos d16 (b := 2) (by omega)
  have g8 := gr_app S7 [.lst [.str "row", .str "mix"]]
  have ew : idxD (.ref S7.length) (.int (d16 % 2)) (S7 ++ [Ob.lst [.str "row", .str "mix"]]) = .ok (.str (wd (decide (d16 % 2 = 0)))) (S7 ++ [Ob.lst [.str "row", .str "mix"]]) := by
    have : d16 % 2 = 0 ∨ d16 % 2 = 1 := by omega
    rcases this with z | z
    · rw [z]; exact idx_ref (at_new _ _) (atI_nat (i := 0) rfl)
    · rw [z]; exact idx_ref (at_new _ _) (atI_nat (i := 1) rfl)
  generalize hrow : decide (d16 % 2 = 0) = row at ew
  have g18 : Gr S1 (S7 ++ [Ob.lst [.str "row", .str "mix"]]) := (g13.trans g5).trans (g6.trans (g7.trans g8))
  obtain ⟨lr, nr, S9, e9, g9, nm9, nl9⟩ := row_run (k := 38) (D1.gr g18) iok
  obtain ⟨lm, names, S10, e10, g10, nm10, nl10⟩ := mixed_run (k := 38) (D1.gr (g18.trans g9)) nm9 nl9
  -- a name that none has
  have key : ∃ (names' : List Str) (S11 : Sto), Nm S11 lm names' 100 ∧ (cIf (cBl (eBin eqD (eBin modD (eBin idxD (eVar 1) (eCon (.int 17))) (eCon (.int 8))) (eCon (.int 7)))) (cExpr (eMeth "list" insertD (eVar 6) (aCons (eBin modD (eBin idxD (eVar 1) (eCon (.int 18))) (eBin addD (eCall lenD (aCons (eVar 6) (aNil))) (eCon (.int 1)))) (aCons (eBin addD (eVar 2) (eCon (.str "xd"))) (aNil))))) (cNil))
      [some (.fl (ns.map .int)), some (.ref l), some (.str core), some (.ref S3.length), some (.tup (its.map It.d)), some (ruleD kd rn row its), some (.ref lm), none, none, none] S10 = .fl (.nx [some (.fl (ns.map .int)), some (.ref l), some (.str core), some (.ref S3.length), some (.tup (its.map It.d)), some (ruleD kd rn row its), some (.ref lm), none, none, none]) S11 := by
    have g110 := (g18.trans g9).trans g10
    have e17 : idxD (.ref l) (.int 17) S10 = .ok (.int d17) S10 := f17 S10 g110
    have e18 : idxD (.ref l) (.int 18) S10 = .ok (.int d18) S10 := f18 S10 g110
    by_cases q : d17 % 8 = 7
    · have ll := len_ref nm10.h
      have n90 := nm10.len
      have md : modD (.int d18) (.int (((names.map Dv.str).length : Int) + 1)) S10 = .ok (.int (d18 % (((names.map Dv.str).length : Int) + 1))) S10 := mod_pos (by omega)
      have r0 := Int.emod_nonneg d18 (b := ((names.map Dv.str).length : Int) + 1) (by omega)
      have r1 := Int.emod_lt_of_pos d18 (b := ((names.map Dv.str).length : Int) + 1) (by omega)
      have nlm : (names.map Dv.str).length = names.length := List.length_map _
      have ei := ins_ref (y := .str (core ++ "xd")) nm10.h (by omega) r0 (by omega)
      generalize d18 % (((names.map Dv.str).length : Int) + 1) = r at r0 r1 md ei
      have ac : addD (.str core) (.str "xd") S10 = .ok (.str (core ++ "xd")) S10 := add_str (sline _ (by show core.length + 2 ≤ _; omega))
      refine ⟨names.take r.toNat ++ [core ++ "xd"] ++ names.drop r.toNat, _, ⟨?_, ?_, fun z hz => ?_⟩, (if_t (S' := S10) (by simp only [ev_var, ev_con, ev_bin, ev_un, ev_anil, ev_acons, ev_call, ev_tup, ev_lst, ev_not, ev_and, ev_or, ev_if, ev_cbl, ev_btrue, ev_cand, ev_cor, ev_cnot, ev_sli, ev_onone, ev_osome, ev_chain, ev_meth, ev_get2, ev_newK, ev_newT, ev_own, ev_nil, ev_seq, ev_expr, ev_set, ev_ret, ev_retN, ev_cif, ev_brk, ev_ct, ev_asg, ev_put, ev_aug, ev_for, ev_comp, ev_newL, ev_iseq, ev_irange, ev_ienum, ev_yes, Out.bind_ok, Out.bindN_ok, bindS_ok, Tg.set, Tg.sets, List.getElem?_cons_zero, List.getElem?_cons_succ, List.set_cons_zero, List.set_cons_succ, wipeE, List.length_cons, List.length_nil, Nat.reduceAdd, Nat.reduceLeDiff, Nat.reduceEqDiff, ↓reduceIte, Bool.false_eq_true, decide_eq_true_eq, add_int, sub_int, lt_int, gt_int, le_int, ge_int, neg_int, and_int, or_int, xor_int, max2_int, min2_int, mod_pos, fdiv_sm, mul_sm, mul_smr, Int.reduceLT, Int.reduceNeg, int_bl, int_int, sli_tup, e17, eq_int, q, decide_true])).trans (expr_of (d := .non) (S' := S10.set lm (.lst ((names.map Dv.str).take r.toNat ++ [.str (core ++ "xd")] ++ (names.map Dv.str).drop r.toNat))) (by simp only [ev_var, ev_con, ev_bin, ev_un, ev_anil, ev_acons, ev_call, ev_tup, ev_lst, ev_not, ev_and, ev_or, ev_if, ev_cbl, ev_btrue, ev_cand, ev_cor, ev_cnot, ev_sli, ev_onone, ev_osome, ev_chain, ev_meth, ev_get2, ev_newK, ev_newT, ev_own, ev_nil, ev_seq, ev_expr, ev_set, ev_ret, ev_retN, ev_cif, ev_brk, ev_ct, ev_asg, ev_put, ev_aug, ev_for, ev_comp, ev_newL, ev_iseq, ev_irange, ev_ienum, ev_yes, Out.bind_ok, Out.bindN_ok, bindS_ok, Tg.set, Tg.sets, List.getElem?_cons_zero, List.getElem?_cons_succ, List.set_cons_zero, List.set_cons_succ, wipeE, List.length_cons, List.length_nil, Nat.reduceAdd, Nat.reduceLeDiff, Nat.reduceEqDiff, ↓reduceIte, Bool.false_eq_true, decide_eq_true_eq, add_int, sub_int, lt_int, gt_int, le_int, ge_int, neg_int, and_int, or_int, xor_int, max2_int, min2_int, mod_pos, fdiv_sm, mul_sm, mul_smr, Int.reduceLT, Int.reduceNeg, int_bl, int_int, sli_tup, tyq_ref nm10.h, e18, ll, md, ac, ei]))⟩
      · rw [at_set nm10.h, List.map_append, List.map_append, List.map_take, List.map_drop]; rfl
      · rw [List.length_append, List.length_append, List.length_take, List.length_drop]; simp only [List.length_cons, List.length_nil]; omega
      · rcases List.mem_append.mp hz with hz | hz
        · rcases List.mem_append.mp hz with hz | hz
          · exact nm10.sk z (List.mem_of_mem_take hz)
          · rw [List.mem_singleton] at hz; subst hz; exact sk_app csk (by decide +kernel)
        · exact nm10.sk z (List.mem_of_mem_drop hz)
    · exact ⟨names, S10, ⟨nm10.h, by have := nm10.len; omega, nm10.sk⟩, (if_f (S' := S10) (by simp only [ev_var, ev_con, ev_bin, ev_un, ev_anil, ev_acons, ev_call, ev_tup, ev_lst, ev_not, ev_and, ev_or, ev_if, ev_cbl, ev_btrue, ev_cand, ev_cor, ev_cnot, ev_sli, ev_onone, ev_osome, ev_chain, ev_meth, ev_get2, ev_newK, ev_newT, ev_own, ev_nil, ev_seq, ev_expr, ev_set, ev_ret, ev_retN, ev_cif, ev_brk, ev_ct, ev_asg, ev_put, ev_aug, ev_for, ev_comp, ev_newL, ev_iseq, ev_irange, ev_ienum, ev_yes, Out.bind_ok, Out.bindN_ok, bindS_ok, Tg.set, Tg.sets, List.getElem?_cons_zero, List.getElem?_cons_succ, List.set_cons_zero, List.set_cons_succ, wipeE, List.length_cons, List.length_nil, Nat.reduceAdd, Nat.reduceLeDiff, Nat.reduceEqDiff, ↓reduceIte, Bool.false_eq_true, decide_eq_true_eq, add_int, sub_int, lt_int, gt_int, le_int, ge_int, neg_int, and_int, or_int, xor_int, max2_int, min2_int, mod_pos, fdiv_sm, mul_sm, mul_smr, Int.reduceLT, Int.reduceNeg, int_bl, int_int, sli_tup, e17, eq_int, q, decide_false])).trans rfl⟩
  obtain ⟨names', S11, nm11, e11⟩ := key
  have g12 := gr_app S11 [.lst (names'.map .str)]
  have hh12 := at_new S11 (.lst (names'.map .str))
  obtain ⟨S13, e13, g13'⟩ := lets_run (k := 36) (kd := kd) (rn := rn) (row := row) iok hh12 nm11.sk
  have same : ∃ S14, F 39 .l_due [ruleD kd rn row its, .ref lm] S13 = .ok (.bl (letsN row its names')) S14 ∧ Gr S13 S14 := by
    have hl := g13'.at (g12.at nm11.h)
    cases row with
    | false =>
      obtain ⟨S14, e14, g14⟩ := mixdue_run (k := 38) (kd := kd) (rn := rn) iok hl nm11.sk (by have := nm11.len; omega)
      have : letsN false its names' = mixB its names' := Bool.eq_iff_iff.mpr ((lets_good iok.nd names').trans mix_good.symm)
      rw [this]; exact ⟨S14, e14, g14⟩
    | true =>
      obtain ⟨S14, e14, g14⟩ := rowdue_run (k := 38) (kd := kd) (rn := rn) iok hl nm11.sk
      have : letsN true its names' = greedy its names' := Bool.eq_iff_iff.mpr ((lets_good iok.nd names').trans (greedy_good its iok.nd names').symm)
      rw [this]; exact ⟨S14, e14, g14⟩
  obtain ⟨S14, e14, g14⟩ := same
  have hA : S14[S11.length]? = some (.lst (names'.map .str)) := g14.at (g13'.at hh12)
  have hB : S14[lm]? = some (.lst (names'.map .str)) := g14.at (g13'.at (g12.at nm11.h))
  have eqn : eqD (.ref S11.length) (.ref lm) S14 = .ok (.bl true) S14 := by
    have t1 : toP 40 S14 (.ref S11.length) = some (.list (names'.map .str)) := by simp only [toP, hA, toPs_strs, Option.map_some]
    have t2 : toP 40 S14 (.ref lm) = some (.list (names'.map .str)) := by simp only [toP, hB, toPs_strs, Option.map_some]
    have ev : ∀ ys : List Str, PyData.eqvAll (ys.map .str) (ys.map .str) = true := fun ys => by
      induction ys with
      | nil => rfl
      | cons y ys ih => rw [List.map_cons, PyData.eqvAll, ih, PyData.eqv]; simp
    have e3 : PyData.eqv (.list (names'.map .str)) (.list (names'.map .str)) = true := by rw [PyData.eqv]; exact ev _
    simp only [eqD, eqq, t1, t2, shp_strs names' nm11.sk, e3, and_self, ↓reduceIte]
  refine ⟨S14, ?_⟩
  rw [F_l_law]
  refine runF_rt (ρ := [some (.fl (ns.map .int)), none, none, none, none, none, none, none, none, none]) rfl rfl ?_
  unfold c_l_law
  have e12 : idxD (.ref l) (.int 12) S1 = .ok (.int d12) S1 := f12 S1 (.refl _)
  have e14' : idxD (.ref l) (.int 14) S5 = .ok (.int d14) S5 := f14 S5 (g13.trans g5)
  have e15' : idxD (.ref l) (.int 15) S6 = .ok (.int d15) S6 := f15 S6 ((g13.trans g5).trans g6)
  have e16' : idxD (.ref l) (.int 16) (S7 ++ [Ob.lst [.str "row", .str "mix"]]) = .ok (.int d16) (S7 ++ [Ob.lst [.str "row", .str "mix"]]) := f16 _ g18
  have wab : walkD (.str "abc") S2 = some (chars "abc", .tt) := rfl
  refine (seq_of (set_of (d := .ref l) (S' := S1) (by simp only [ev_var, ev_con, ev_bin, ev_un, ev_anil, ev_acons, ev_call, ev_tup, ev_lst, ev_not, ev_and, ev_or, ev_if, ev_cbl, ev_btrue, ev_cand, ev_cor, ev_cnot, ev_sli, ev_onone, ev_osome, ev_chain, ev_meth, ev_get2, ev_newK, ev_newT, ev_own, ev_nil, ev_seq, ev_expr, ev_set, ev_ret, ev_retN, ev_cif, ev_brk, ev_ct, ev_asg, ev_put, ev_aug, ev_for, ev_comp, ev_newL, ev_iseq, ev_irange, ev_ienum, ev_yes, Out.bind_ok, Out.bindN_ok, bindS_ok, Tg.set, Tg.sets, List.getElem?_cons_zero, List.getElem?_cons_succ, List.set_cons_zero, List.set_cons_succ, wipeE, List.length_cons, List.length_nil, Nat.reduceAdd, Nat.reduceLeDiff, Nat.reduceEqDiff, ↓reduceIte, Bool.false_eq_true, decide_eq_true_eq, add_int, sub_int, lt_int, gt_int, le_int, ge_int, neg_int, and_int, or_int, xor_int, max2_int, min2_int, mod_pos, fdiv_sm, mul_sm, mul_smr, Int.reduceLT, Int.reduceNeg, int_bl, int_int, sli_tup, e1']))).trans ?_
  refine (seq_of (set_of (d := .str core) (S' := S2) (by simp only [ev_var, ev_con, ev_bin, ev_un, ev_anil, ev_acons, ev_call, ev_tup, ev_lst, ev_not, ev_and, ev_or, ev_if, ev_cbl, ev_btrue, ev_cand, ev_cor, ev_cnot, ev_sli, ev_onone, ev_osome, ev_chain, ev_meth, ev_get2, ev_newK, ev_newT, ev_own, ev_nil, ev_seq, ev_expr, ev_set, ev_ret, ev_retN, ev_cif, ev_brk, ev_ct, ev_asg, ev_put, ev_aug, ev_for, ev_comp, ev_newL, ev_iseq, ev_irange, ev_ienum, ev_yes, Out.bind_ok, Out.bindN_ok, bindS_ok, Tg.set, Tg.sets, List.getElem?_cons_zero, List.getElem?_cons_succ, List.set_cons_zero, List.set_cons_succ, wipeE, List.length_cons, List.length_nil, Nat.reduceAdd, Nat.reduceLeDiff, Nat.reduceEqDiff, ↓reduceIte, Bool.false_eq_true, decide_eq_true_eq, add_int, sub_int, lt_int, gt_int, le_int, ge_int, neg_int, and_int, or_int, xor_int, max2_int, min2_int, mod_pos, fdiv_sm, mul_sm, mul_smr, Int.reduceLT, Int.reduceNeg, int_bl, int_int, sli_tup, e12, e2', esl]))).trans ?_
  refine (seq_of (set_of (d := .ref S3.length) (S' := S3 ++ [Ob.lst (pool.map .str)]) (by simp only [ev_var, ev_con, ev_bin, ev_un, ev_anil, ev_acons, ev_call, ev_tup, ev_lst, ev_not, ev_and, ev_or, ev_if, ev_cbl, ev_btrue, ev_cand, ev_cor, ev_cnot, ev_sli, ev_onone, ev_osome, ev_chain, ev_meth, ev_get2, ev_newK, ev_newT, ev_own, ev_nil, ev_seq, ev_expr, ev_set, ev_ret, ev_retN, ev_cif, ev_brk, ev_ct, ev_asg, ev_put, ev_aug, ev_for, ev_comp, ev_newL, ev_iseq, ev_irange, ev_ienum, ev_yes, Out.bind_ok, Out.bindN_ok, bindS_ok, Tg.set, Tg.sets, List.getElem?_cons_zero, List.getElem?_cons_succ, List.set_cons_zero, List.set_cons_succ, wipeE, List.length_cons, List.length_nil, Nat.reduceAdd, Nat.reduceLeDiff, Nat.reduceEqDiff, ↓reduceIte, Bool.false_eq_true, decide_eq_true_eq, add_int, sub_int, lt_int, gt_int, le_int, ge_int, neg_int, and_int, or_int, xor_int, max2_int, min2_int, mod_pos, fdiv_sm, mul_sm, mul_smr, Int.reduceLT, Int.reduceNeg, int_bl, int_int, sli_tup, wab, e3]))).trans ?_
  refine (seq_of (set_of (d := .tup (its.map It.d)) (S' := S5) (by simp only [ev_var, ev_con, ev_bin, ev_un, ev_anil, ev_acons, ev_call, ev_tup, ev_lst, ev_not, ev_and, ev_or, ev_if, ev_cbl, ev_btrue, ev_cand, ev_cor, ev_cnot, ev_sli, ev_onone, ev_osome, ev_chain, ev_meth, ev_get2, ev_newK, ev_newT, ev_own, ev_nil, ev_seq, ev_expr, ev_set, ev_ret, ev_retN, ev_cif, ev_brk, ev_ct, ev_asg, ev_put, ev_aug, ev_for, ev_comp, ev_newL, ev_iseq, ev_irange, ev_ienum, ev_yes, Out.bind_ok, Out.bindN_ok, bindS_ok, Tg.set, Tg.sets, List.getElem?_cons_zero, List.getElem?_cons_succ, List.set_cons_zero, List.set_cons_succ, wipeE, List.length_cons, List.length_nil, Nat.reduceAdd, Nat.reduceLeDiff, Nat.reduceEqDiff, ↓reduceIte, Bool.false_eq_true, decide_eq_true_eq, add_int, sub_int, lt_int, gt_int, le_int, ge_int, neg_int, and_int, or_int, xor_int, max2_int, min2_int, mod_pos, fdiv_sm, mul_sm, mul_smr, Int.reduceLT, Int.reduceNeg, int_bl, int_int, sli_tup, e5]))).trans ?_
  refine (seq_of (set_of (d := ruleD kd rn row its) (S' := S7 ++ [Ob.lst [.str "row", .str "mix"]]) (by simp only [ev_var, ev_con, ev_bin, ev_un, ev_anil, ev_acons, ev_call, ev_tup, ev_lst, ev_not, ev_and, ev_or, ev_if, ev_cbl, ev_btrue, ev_cand, ev_cor, ev_cnot, ev_sli, ev_onone, ev_osome, ev_chain, ev_meth, ev_get2, ev_newK, ev_newT, ev_own, ev_nil, ev_seq, ev_expr, ev_set, ev_ret, ev_retN, ev_cif, ev_brk, ev_ct, ev_asg, ev_put, ev_aug, ev_for, ev_comp, ev_newL, ev_iseq, ev_irange, ev_ienum, ev_yes, Out.bind_ok, Out.bindN_ok, bindS_ok, Tg.set, Tg.sets, List.getElem?_cons_zero, List.getElem?_cons_succ, List.set_cons_zero, List.set_cons_succ, wipeE, List.length_cons, List.length_nil, Nat.reduceAdd, Nat.reduceLeDiff, Nat.reduceEqDiff, ↓reduceIte, Bool.false_eq_true, decide_eq_true_eq, add_int, sub_int, lt_int, gt_int, le_int, ge_int, neg_int, and_int, or_int, xor_int, max2_int, min2_int, mod_pos, fdiv_sm, mul_sm, mul_smr, Int.reduceLT, Int.reduceNeg, int_bl, int_int, sli_tup, e14', e6', e15', e7', sline 2 (by omega), e16', ew, sline 4 (by omega)]; rfl))).trans ?_
  refine (seq_of (set_of (d := .ref lm) (S' := S10) (by simp only [ev_var, ev_con, ev_bin, ev_un, ev_anil, ev_acons, ev_call, ev_tup, ev_lst, ev_not, ev_and, ev_or, ev_if, ev_cbl, ev_btrue, ev_cand, ev_cor, ev_cnot, ev_sli, ev_onone, ev_osome, ev_chain, ev_meth, ev_get2, ev_newK, ev_newT, ev_own, ev_nil, ev_seq, ev_expr, ev_set, ev_ret, ev_retN, ev_cif, ev_brk, ev_ct, ev_asg, ev_put, ev_aug, ev_for, ev_comp, ev_newL, ev_iseq, ev_irange, ev_ienum, ev_yes, Out.bind_ok, Out.bindN_ok, bindS_ok, Tg.set, Tg.sets, List.getElem?_cons_zero, List.getElem?_cons_succ, List.set_cons_zero, List.set_cons_succ, wipeE, List.length_cons, List.length_nil, Nat.reduceAdd, Nat.reduceLeDiff, Nat.reduceEqDiff, ↓reduceIte, Bool.false_eq_true, decide_eq_true_eq, add_int, sub_int, lt_int, gt_int, le_int, ge_int, neg_int, and_int, or_int, xor_int, max2_int, min2_int, mod_pos, fdiv_sm, mul_sm, mul_smr, Int.reduceLT, Int.reduceNeg, int_bl, int_int, sli_tup, e9, e10]))).trans ?_
  refine (seq_of e11).trans ?_
  refine (seq_of (set_of (d := .ref S11.length) (S' := S11 ++ [Ob.lst (names'.map .str)]) (by simp only [ev_var, ev_con, ev_bin, ev_un, ev_anil, ev_acons, ev_call, ev_tup, ev_lst, ev_not, ev_and, ev_or, ev_if, ev_cbl, ev_btrue, ev_cand, ev_cor, ev_cnot, ev_sli, ev_onone, ev_osome, ev_chain, ev_meth, ev_get2, ev_newK, ev_newT, ev_own, ev_nil, ev_seq, ev_expr, ev_set, ev_ret, ev_retN, ev_cif, ev_brk, ev_ct, ev_asg, ev_put, ev_aug, ev_for, ev_comp, ev_newL, ev_iseq, ev_irange, ev_ienum, ev_yes, Out.bind_ok, Out.bindN_ok, bindS_ok, Tg.set, Tg.sets, List.getElem?_cons_zero, List.getElem?_cons_succ, List.set_cons_zero, List.set_cons_succ, wipeE, List.length_cons, List.length_nil, Nat.reduceAdd, Nat.reduceLeDiff, Nat.reduceEqDiff, ↓reduceIte, Bool.false_eq_true, decide_eq_true_eq, add_int, sub_int, lt_int, gt_int, le_int, ge_int, neg_int, and_int, or_int, xor_int, max2_int, min2_int, mod_pos, fdiv_sm, mul_sm, mul_smr, Int.reduceLT, Int.reduceNeg, int_bl, int_int, sli_tup, list_ref nm11.h]))).trans ?_
  refine (seq_of (set_of (d := .bl (letsN row its names')) (S' := S13) (by simp only [ev_var, ev_con, ev_bin, ev_un, ev_anil, ev_acons, ev_call, ev_tup, ev_lst, ev_not, ev_and, ev_or, ev_if, ev_cbl, ev_btrue, ev_cand, ev_cor, ev_cnot, ev_sli, ev_onone, ev_osome, ev_chain, ev_meth, ev_get2, ev_newK, ev_newT, ev_own, ev_nil, ev_seq, ev_expr, ev_set, ev_ret, ev_retN, ev_cif, ev_brk, ev_ct, ev_asg, ev_put, ev_aug, ev_for, ev_comp, ev_newL, ev_iseq, ev_irange, ev_ienum, ev_yes, Out.bind_ok, Out.bindN_ok, bindS_ok, Tg.set, Tg.sets, List.getElem?_cons_zero, List.getElem?_cons_succ, List.set_cons_zero, List.set_cons_succ, wipeE, List.length_cons, List.length_nil, Nat.reduceAdd, Nat.reduceLeDiff, Nat.reduceEqDiff, ↓reduceIte, Bool.false_eq_true, decide_eq_true_eq, add_int, sub_int, lt_int, gt_int, le_int, ge_int, neg_int, and_int, or_int, xor_int, max2_int, min2_int, mod_pos, fdiv_sm, mul_sm, mul_smr, Int.reduceLT, Int.reduceNeg, int_bl, int_int, sli_tup, e13]))).trans ?_
  refine ret_of ?_
  have ib : isiD "bool" (.bl (letsN row its names')) S13 = .ok (.bl true) S13 := rfl
  simp only [ev_var, ev_con, ev_bin, ev_un, ev_anil, ev_acons, ev_call, ev_tup, ev_lst, ev_not, ev_and, ev_or, ev_if, ev_cbl, ev_btrue, ev_cand, ev_cor, ev_cnot, ev_sli, ev_onone, ev_osome, ev_chain, ev_meth, ev_get2, ev_newK, ev_newT, ev_own, ev_nil, ev_seq, ev_expr, ev_set, ev_ret, ev_retN, ev_cif, ev_brk, ev_ct, ev_asg, ev_put, ev_aug, ev_for, ev_comp, ev_newL, ev_iseq, ev_irange, ev_ienum, ev_yes, Out.bind_ok, Out.bindN_ok, bindS_ok, Tg.set, Tg.sets, List.getElem?_cons_zero, List.getElem?_cons_succ, List.set_cons_zero, List.set_cons_succ, wipeE, List.length_cons, List.length_nil, Nat.reduceAdd, Nat.reduceLeDiff, Nat.reduceEqDiff, ↓reduceIte, Bool.false_eq_true, decide_eq_true_eq, add_int, sub_int, lt_int, gt_int, le_int, ge_int, neg_int, and_int, or_int, xor_int, max2_int, min2_int, mod_pos, fdiv_sm, mul_sm, mul_smr, Int.reduceLT, Int.reduceNeg, int_bl, int_int, sli_tup, ib, e14, eq_bl, decide_true, eqn]
end Wk

/-! the end (printed by gen.py) -/
namespace Wk
open PySem PySem.Spec PyProof.Rows L2 PL
section
variable {P : Program} {w : World} {K : PySem.W.Frag} {mg : Str → Option Value} {base : Heap} {fa : Fn → Addr} {fd : Fn → FuncData}
theorem all_mk {l : PySem.W.OpenLaw} {w : World} {K : PySem.W.Frag} {h : Heap} {mg : Str → Option Value} {fl : Addr} (X : K.In h) (G : h.Ns mainGlobals mg) (hfa : mg "law" = some (.ref fl))
    {f1 : Addr} {od1 an1 : Option Addr} {sl1 : Array (Option Value)} {oc1 kV1 dc1 pm1 cd1 ct1 : Value} (a1 : PySem.W.nsIn K mainGlobals "room_left" = some (some (.ref f1)))
    (l1 : K.lookup f1 = some ⟨oc1, od1, .func (PySem.W.fnOf "room_left" "room_left" (defArgs s_room_left) (defBody s_room_left) (defScope s_room_left) .none kV1 dc1 pm1 an1 cd1 ct1), sl1⟩) (c1 : PySem.W.codeIn K cd1 "room_left" = true) (k1 : PySem.W.keepIn K (.ref f1) = true)
    {f2 : Addr} {od2 an2 : Option Addr} {sl2 : Array (Option Value)} {oc2 kV2 dc2 pm2 cd2 ct2 : Value} (a2 : PySem.W.nsIn K mainGlobals "one_more" = some (some (.ref f2)))
    (l2 : K.lookup f2 = some ⟨oc2, od2, .func (PySem.W.fnOf "one_more" "one_more" (defArgs s_one_more) (defBody s_one_more) (defScope s_one_more) .none kV2 dc2 pm2 an2 cd2 ct2), sl2⟩) (c2 : PySem.W.codeIn K cd2 "one_more" = true) (k2 : PySem.W.keepIn K (.ref f2) = true)
    {f3 : Addr} {od3 an3 : Option Addr} {sl3 : Array (Option Value)} {oc3 kV3 dc3 pm3 cd3 ct3 : Value} (a3 : PySem.W.nsIn K mainGlobals "none_yet" = some (some (.ref f3)))
    (l3 : K.lookup f3 = some ⟨oc3, od3, .func (PySem.W.fnOf "none_yet" "none_yet" (defArgs s_none_yet) (defBody s_none_yet) (defScope s_none_yet) .none kV3 dc3 pm3 an3 cd3 ct3), sl3⟩) (c3 : PySem.W.codeIn K cd3 "none_yet" = true) (k3 : PySem.W.keepIn K (.ref f3) = true)
    {f4 : Addr} {od4 an4 : Option Addr} {sl4 : Array (Option Value)} {oc4 kV4 dc4 pm4 cd4 ct4 : Value} (a4 : PySem.W.nsIn K mainGlobals "enough" = some (some (.ref f4)))
    (l4 : K.lookup f4 = some ⟨oc4, od4, .func (PySem.W.fnOf "enough" "enough" (defArgs s_enough) (defBody s_enough) (defScope s_enough) .none kV4 dc4 pm4 an4 cd4 ct4), sl4⟩) (c4 : PySem.W.codeIn K cd4 "enough" = true) (k4 : PySem.W.keepIn K (.ref f4) = true)
    {f5 : Addr} {od5 an5 : Option Addr} {sl5 : Array (Option Value)} {oc5 kV5 dc5 pm5 cd5 ct5 : Value} (a5 : PySem.W.nsIn K mainGlobals "item_at" = some (some (.ref f5)))
    (l5 : K.lookup f5 = some ⟨oc5, od5, .func (PySem.W.fnOf "item_at" "item_at" (defArgs s_item_at) (defBody s_item_at) (defScope s_item_at) .none kV5 dc5 pm5 an5 cd5 ct5), sl5⟩) (c5 : PySem.W.codeIn K cd5 "item_at" = true) (k5 : PySem.W.keepIn K (.ref f5) = true)
    {f6 : Addr} {od6 an6 : Option Addr} {sl6 : Array (Option Value)} {oc6 kV6 dc6 pm6 cd6 ct6 : Value} (a6 : PySem.W.nsIn K mainGlobals "lets" = some (some (.ref f6)))
    (l6 : K.lookup f6 = some ⟨oc6, od6, .func (PySem.W.fnOf "lets" "lets" (defArgs s_lets) (defBody s_lets) (defScope s_lets) .none kV6 dc6 pm6 an6 cd6 ct6), sl6⟩) (c6 : PySem.W.codeIn K cd6 "lets" = true) (k6 : PySem.W.keepIn K (.ref f6) = true)
    {f7 : Addr} {od7 an7 : Option Addr} {sl7 : Array (Option Value)} {oc7 kV7 dc7 pm7 cd7 ct7 : Value} (a7 : PySem.W.nsIn K mainGlobals "_law_draws" = some (some (.ref f7)))
    (l7 : K.lookup f7 = some ⟨oc7, od7, .func (PySem.W.fnOf "_law_draws" "_law_draws" (defArgs s_l_draws) (defBody s_l_draws) (defScope s_l_draws) .none kV7 dc7 pm7 an7 cd7 ct7), sl7⟩) (c7 : PySem.W.codeIn K cd7 "_law_draws" = true) (k7 : PySem.W.keepIn K (.ref f7) = true)
    {f8 : Addr} {od8 an8 : Option Addr} {sl8 : Array (Option Value)} {oc8 kV8 dc8 pm8 cd8 ct8 : Value} (a8 : PySem.W.nsIn K mainGlobals "_law_name" = some (some (.ref f8)))
    (l8 : K.lookup f8 = some ⟨oc8, od8, .func (PySem.W.fnOf "_law_name" "_law_name" (defArgs s_l_name) (defBody s_l_name) (defScope s_l_name) .none kV8 dc8 pm8 an8 cd8 ct8), sl8⟩) (c8 : PySem.W.codeIn K cd8 "_law_name" = true) (k8 : PySem.W.keepIn K (.ref f8) = true)
    {f9 : Addr} {od9 an9 : Option Addr} {sl9 : Array (Option Value)} {oc9 kV9 dc9 pm9 cd9 ct9 : Value} (a9 : PySem.W.nsIn K mainGlobals "_law_due" = some (some (.ref f9)))
    (l9 : K.lookup f9 = some ⟨oc9, od9, .func (PySem.W.fnOf "_law_due" "_law_due" (defArgs s_l_due) (defBody s_l_due) (defScope s_l_due) .none kV9 dc9 pm9 an9 cd9 ct9), sl9⟩) (c9 : PySem.W.codeIn K cd9 "_law_due" = true) (k9 : PySem.W.keepIn K (.ref f9) = true)
    {f10 : Addr} {od10 an10 : Option Addr} {sl10 : Array (Option Value)} {oc10 kV10 dc10 pm10 cd10 ct10 : Value} (a10 : PySem.W.nsIn K mainGlobals "_law_items" = some (some (.ref f10)))
    (l10 : K.lookup f10 = some ⟨oc10, od10, .func (PySem.W.fnOf "_law_items" "_law_items" (defArgs s_l_items) (defBody s_l_items) (defScope s_l_items) .none kV10 dc10 pm10 an10 cd10 ct10), sl10⟩) (c10 : PySem.W.codeIn K cd10 "_law_items" = true) (k10 : PySem.W.keepIn K (.ref f10) = true)
    {f11 : Addr} {od11 an11 : Option Addr} {sl11 : Array (Option Value)} {oc11 kV11 dc11 pm11 cd11 ct11 : Value} (a11 : PySem.W.nsIn K mainGlobals "_law_row" = some (some (.ref f11)))
    (l11 : K.lookup f11 = some ⟨oc11, od11, .func (PySem.W.fnOf "_law_row" "_law_row" (defArgs s_l_row) (defBody s_l_row) (defScope s_l_row) .none kV11 dc11 pm11 an11 cd11 ct11), sl11⟩) (c11 : PySem.W.codeIn K cd11 "_law_row" = true) (k11 : PySem.W.keepIn K (.ref f11) = true)
    {f12 : Addr} {od12 an12 : Option Addr} {sl12 : Array (Option Value)} {oc12 kV12 dc12 pm12 cd12 ct12 : Value} (a12 : PySem.W.nsIn K mainGlobals "_law_mixed" = some (some (.ref f12)))
    (l12 : K.lookup f12 = some ⟨oc12, od12, .func (PySem.W.fnOf "_law_mixed" "_law_mixed" (defArgs s_l_mixed) (defBody s_l_mixed) (defScope s_l_mixed) .none kV12 dc12 pm12 an12 cd12 ct12), sl12⟩) (c12 : PySem.W.codeIn K cd12 "_law_mixed" = true) (k12 : PySem.W.keepIn K (.ref f12) = true)
    {f13 : Addr} {od13 an13 : Option Addr} {sl13 : Array (Option Value)} {oc13 kV13 dc13 pm13 cd13 ct13 : Value} (a13 : PySem.W.nsIn K mainGlobals "law" = some (some (.ref f13)))
    (l13 : K.lookup f13 = some ⟨oc13, od13, .func (PySem.W.fnOf "law" "law" (defArgs s_l_law) (defBody s_l_law) (defScope s_l_law) .none kV13 dc13 pm13 an13 cd13 ct13), sl13⟩) (c13 : PySem.W.codeIn K cd13 "law" = true) (k13 : PySem.W.keepIn K (.ref f13) = true)
    (z_bool : PySem.W.nsIn K mainGlobals "bool" = some none)
    (z_enumerate : PySem.W.nsIn K mainGlobals "enumerate" = some none)
    (z_isinstance : PySem.W.nsIn K mainGlobals "isinstance" = some none)
    (z_len : PySem.W.nsIn K mainGlobals "len" = some none)
    (z_list : PySem.W.nsIn K mainGlobals "list" = some none)
    (z_max : PySem.W.nsIn K mainGlobals "max" = some none)
    (z_min : PySem.W.nsIn K mainGlobals "min" = some none)
    (z_range : PySem.W.nsIn K mainGlobals "range" = some none)
    (z_tuple : PySem.W.nsIn K mainGlobals "tuple" = some none)
    (z_zip : PySem.W.nsIn K mainGlobals "zip" = some none)
    : ∃ fd : FuncData, (∀ (s : Shared) (v : Value), BindsTo s fd ⟨[v], []⟩ [("_law_script", v)]) ∧ ∀ base : Heap, K.In base → base.Ns mainGlobals mg → FnOk l.prog w K mg base CX0 40 fl fd ["_law_script"] (spD K mg (F 40 .l_law) 1) := by
  have e := hfa.symm.trans (PySem.W.mg_of X G a13)
  cases e
  have F1 := fun_mk (st := s_room_left) l1 c1 k1
  have b1 := F1.binds (ps := p_room_left) fun _ _ _ _ _ _ us hl => match us, hl with | [_, _], _ => rfl
  have F2 := fun_mk (st := s_one_more) l2 c2 k2
  have b2 := F2.binds (ps := p_one_more) fun _ _ _ _ _ _ us hl => match us, hl with | [_, _, _, _], _ => rfl
  have F3 := fun_mk (st := s_none_yet) l3 c3 k3
  have b3 := F3.binds (ps := p_none_yet) fun _ _ _ _ _ _ us hl => match us, hl with | [_], _ => rfl
  have F4 := fun_mk (st := s_enough) l4 c4 k4
  have b4 := F4.binds (ps := p_enough) fun _ _ _ _ _ _ us hl => match us, hl with | [_, _], _ => rfl
  have F5 := fun_mk (st := s_item_at) l5 c5 k5
  have b5 := F5.binds (ps := p_item_at) fun _ _ _ _ _ _ us hl => match us, hl with | [_, _], _ => rfl
  have F6 := fun_mk (st := s_lets) l6 c6 k6
  have b6 := F6.binds (ps := p_lets) fun _ _ _ _ _ _ us hl => match us, hl with | [_, _], _ => rfl
  have F7 := fun_mk (st := s_l_draws) l7 c7 k7
  have b7 := F7.binds (ps := p_l_draws) fun _ _ _ _ _ _ us hl => match us, hl with | [_, _], _ => rfl
  have F8 := fun_mk (st := s_l_name) l8 c8 k8
  have b8 := F8.binds (ps := p_l_name) fun _ _ _ _ _ _ us hl => match us, hl with | [_], _ => rfl
  have F9 := fun_mk (st := s_l_due) l9 c9 k9
  have b9 := F9.binds (ps := p_l_due) fun _ _ _ _ _ _ us hl => match us, hl with | [_, _], _ => rfl
  have F10 := fun_mk (st := s_l_items) l10 c10 k10
  have b10 := F10.binds (ps := p_l_items) fun _ _ _ _ _ _ us hl => match us, hl with | [_, _], _ => rfl
  have F11 := fun_mk (st := s_l_row) l11 c11 k11
  have b11 := F11.binds (ps := p_l_row) fun _ _ _ _ _ _ us hl => match us, hl with | [_, _], _ => rfl
  have F12 := fun_mk (st := s_l_mixed) l12 c12 k12
  have b12 := F12.binds (ps := p_l_mixed) fun _ _ _ _ _ _ us hl => match us, hl with | [_, _], _ => rfl
  have F13 := fun_mk (st := s_l_law) l13 c13 k13
  have b13 := F13.binds (ps := p_l_law) fun _ _ _ _ _ _ us hl => match us, hl with | [_], _ => rfl
  have T : Tx K mg (fun | .room_left => f1 | .one_more => f2 | .none_yet => f3 | .enough => f4 | .item_at => f5 | .lets => f6 | .l_draws => f7 | .l_name => f8 | .l_due => f9 | .l_items => f10 | .l_row => f11 | .l_mixed => f12 | .l_law => fl) (fun | .room_left => PySem.W.fnOf "room_left" "room_left" (defArgs s_room_left) (defBody s_room_left) (defScope s_room_left) .none kV1 dc1 pm1 an1 cd1 ct1 | .one_more => PySem.W.fnOf "one_more" "one_more" (defArgs s_one_more) (defBody s_one_more) (defScope s_one_more) .none kV2 dc2 pm2 an2 cd2 ct2 | .none_yet => PySem.W.fnOf "none_yet" "none_yet" (defArgs s_none_yet) (defBody s_none_yet) (defScope s_none_yet) .none kV3 dc3 pm3 an3 cd3 ct3 | .enough => PySem.W.fnOf "enough" "enough" (defArgs s_enough) (defBody s_enough) (defScope s_enough) .none kV4 dc4 pm4 an4 cd4 ct4 | .item_at => PySem.W.fnOf "item_at" "item_at" (defArgs s_item_at) (defBody s_item_at) (defScope s_item_at) .none kV5 dc5 pm5 an5 cd5 ct5 | .lets => PySem.W.fnOf "lets" "lets" (defArgs s_lets) (defBody s_lets) (defScope s_lets) .none kV6 dc6 pm6 an6 cd6 ct6 | .l_draws => PySem.W.fnOf "_law_draws" "_law_draws" (defArgs s_l_draws) (defBody s_l_draws) (defScope s_l_draws) .none kV7 dc7 pm7 an7 cd7 ct7 | .l_name => PySem.W.fnOf "_law_name" "_law_name" (defArgs s_l_name) (defBody s_l_name) (defScope s_l_name) .none kV8 dc8 pm8 an8 cd8 ct8 | .l_due => PySem.W.fnOf "_law_due" "_law_due" (defArgs s_l_due) (defBody s_l_due) (defScope s_l_due) .none kV9 dc9 pm9 an9 cd9 ct9 | .l_items => PySem.W.fnOf "_law_items" "_law_items" (defArgs s_l_items) (defBody s_l_items) (defScope s_l_items) .none kV10 dc10 pm10 an10 cd10 ct10 | .l_row => PySem.W.fnOf "_law_row" "_law_row" (defArgs s_l_row) (defBody s_l_row) (defScope s_l_row) .none kV11 dc11 pm11 an11 cd11 ct11 | .l_mixed => PySem.W.fnOf "_law_mixed" "_law_mixed" (defArgs s_l_mixed) (defBody s_l_mixed) (defScope s_l_mixed) .none kV12 dc12 pm12 an12 cd12 ct12 | .l_law => PySem.W.fnOf "law" "law" (defArgs s_l_law) (defBody s_l_law) (defScope s_l_law) .none kV13 dc13 pm13 an13 cd13 ct13) :=
    ⟨F1, PySem.W.mg_of X G a1, b1, F2, PySem.W.mg_of X G a2, b2, F3, PySem.W.mg_of X G a3, b3, F4, PySem.W.mg_of X G a4, b4, F5, PySem.W.mg_of X G a5, b5, F6, PySem.W.mg_of X G a6, b6, F7, PySem.W.mg_of X G a7, b7, F8, PySem.W.mg_of X G a8, b8, F9, PySem.W.mg_of X G a9, b9, F10, PySem.W.mg_of X G a10, b10, F11, PySem.W.mg_of X G a11, b11, F12, PySem.W.mg_of X G a12, b12, F13, PySem.W.mg_of X G a13, b13, PySem.W.mg_none_of X G z_bool, PySem.W.mg_none_of X G z_enumerate, PySem.W.mg_none_of X G z_isinstance, PySem.W.mg_none_of X G z_len, PySem.W.mg_none_of X G z_list, PySem.W.mg_none_of X G z_max, PySem.W.mg_none_of X G z_min, PySem.W.mg_none_of X G z_range, PySem.W.mg_none_of X G z_tuple, PySem.W.mg_none_of X G z_zip⟩
  exact ⟨_, fun s v => .of_eq rfl, fun base _ _ => ok_all T 40 .l_law⟩
end
theorem walk {l : PySem.W.OpenLaw} {q : Program} {loose : List Str} {XP : (Str → Option Value) → Heap → Prop} {YP : World → Heap → Prop} {d : DefRec} {K : Params → PySem.W.Frag} (hn : l.most = some 63) (hdf : d.params.defaults = [])
    (hY : ∀ (w : World) (h : Heap), YP w h → (K w.params).In h)
    (FF : ∀ (w : World) (mg : Str → Option Value) (fa : Addr) (h : Heap), (K w.params).In h → h.Ns mainGlobals mg → mg d.name = some (.ref fa) →
      ∃ fd : FuncData, (∀ (s : Shared) (u : Value), BindsTo s fd ⟨[u], []⟩ [("_law_script", u)]) ∧ ∀ base : Heap, (K w.params).In base → base.Ns mainGlobals mg → FnOk l.prog w (K w.params) mg base CX0 40 fa fd ["_law_script"] (spD (K w.params) mg (F 40 .l_law) 1)) :
    PySem.W.WalkO q loose XP YP l.row.toRowW d [] (fun f vs => PySem.call f vs) :=
  walk_law (k := 40) (x := "_law_script") hn hdf ⟨rfl, by decide, by decide⟩ hY law_true FF
end Wk
open PySem PySem.W PyProof.Rows in
set_option maxRecDepth 100000 in
set_option maxHeartbeats 0 in
theorem PySem.Challenge.cw_pathshape_k21_rows_let_by_holds : PySem.Challenge.rw_pathshape_k21_rows_let_by.Holds := by
  w_on; o_law; k_head; (case hw => w_witness2)
  k_fill
  refine Wk.walk (l := PySem.Challenge.rw_pathshape_k21_rows_let_by) rfl rfl (fun w h Y => PySem.W.kIn_of Y) ?FF
  case FF =>
    intro w mg fa h KX G hmg
    refine' Wk.all_mk KX G hmg ?a1 ?l1 ?c1 ?k1 ?a2 ?l2 ?c2 ?k2 ?a3 ?l3 ?c3 ?k3 ?a4 ?l4 ?c4 ?k4 ?a5 ?l5 ?c5 ?k5 ?a6 ?l6 ?c6 ?k6 ?a7 ?l7 ?c7 ?k7 ?a8 ?l8 ?c8 ?k8 ?a9 ?l9 ?c9 ?k9 ?a10 ?l10 ?c10 ?k10 ?a11 ?l11 ?c11 ?k11 ?a12 ?l12 ?c12 ?k12 ?a13 ?l13 ?c13 ?k13 ?z_bool ?z_enumerate ?z_isinstance ?z_len ?z_list ?z_max ?z_min ?z_range ?z_tuple ?z_zip
    (case a1 => k_is)
    (case l1 => k_is)
    (case c1 => k_is)
    (case k1 => k_is)
    (case a2 => k_is)
    (case l2 => k_is)
    (case c2 => k_is)
    (case k2 => k_is)
    (case a3 => k_is)
    (case l3 => k_is)
    (case c3 => k_is)
    (case k3 => k_is)
    (case a4 => k_is)
    (case l4 => k_is)
    (case c4 => k_is)
    (case k4 => k_is)
    (case a5 => k_is)
    (case l5 => k_is)
    (case c5 => k_is)
    (case k5 => k_is)
    (case a6 => k_is)
    (case l6 => k_is)
    (case c6 => k_is)
    (case k6 => k_is)
    (case a7 => k_is)
    (case l7 => k_is)
    (case c7 => k_is)
    (case k7 => k_is)
    (case a8 => k_is)
    (case l8 => k_is)
    (case c8 => k_is)
    (case k8 => k_is)
    (case a9 => k_is)
    (case l9 => k_is)
    (case c9 => k_is)
    (case k9 => k_is)
    (case a10 => k_is)
    (case l10 => k_is)
    (case c10 => k_is)
    (case k10 => k_is)
    (case a11 => k_is)
    (case l11 => k_is)
    (case c11 => k_is)
    (case k11 => k_is)
    (case a12 => k_is)
    (case l12 => k_is)
    (case c12 => k_is)
    (case k12 => k_is)
    (case a13 => k_is)
    (case l13 => k_is)
    (case c13 => k_is)
    (case k13 => k_is)
    (case z_bool => k_is)
    (case z_enumerate => k_is)
    (case z_isinstance => k_is)
    (case z_len => k_is)
    (case z_list => k_is)
    (case z_max => k_is)
    (case z_min => k_is)
    (case z_range => k_is)
    (case z_tuple => k_is)
    (case z_zip => k_is)
#print axioms PySem.Challenge.cw_pathshape_k21_rows_let_by_holds
